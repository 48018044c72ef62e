import PyProof.Rows.All
import Wide.All
import OpenK.AllK
import Wide.FinOn
import HandS.ForMost
import HandS.Exc
import HandS.ExcOwn
import HandS.TryOnly
import HandS.WordsExc
import HandS.Deep
import HandS.SortKw
import HandS.IsInst
import HandS.Zip
import HandS.Walk
import HandS.Style
import HandS.Flow
import HandS.Conv
import HandS.SortOrd
import HandS.Evl
import HandS.Lambda
import HandS.Rev
import HandS.TupAny
import HandS.TupSets
import HandS.SortRule
import HandS.Defaults
import HandS.AnyAll
import HandS.RevRange
import HandS.DictComp
import HandS.Strs
import HandS.Small
import HandS.TupLe
import HandS.DictTup
import HandS.SetKeys
import HandS.HeadHook1
import KE.SortData
import KE.SortKeyHeap
import KE.KDictKeyed
import HandS.EndTab
import HandS.HeadWalk
import PyProof.ReprRoads
import KE.KExcInit
import HandS.ExcInit
import HandS.ClsMeth
import HandS.ExcField
import HandS.ExcIs
import KE.KExcIs
import HandS.HeadHook4
import HandS.Head2
import HandS.HeadEnd
import HandS.ExcValue
import PyProof.TupleOfSeq
import HandS.MakeKwOnly
import KE.GoesEnum
import KE.DataMinMax
import HandS.SetFor
import KE.DataEq
import HandS.TupMul
import HandS.Iter
import PyProof.LongRange
import KE.KTryMore
import HandS.HotCalls
import HandS.Text
import PyProof.StrBlock2
import KE.GoesComp
import KE.GoesMore
import KE.DataFind
import KE.KDictZip
import PyProof.ListNew
import KE.KDictWalk
import KE.KDictSum
import HandS.TupLen
import PyProof.DictMoreH
import PyProof.AutoSeq1
import KE.GoesEnumKw
import HandS.FStr
import KE.KCallOwn
import KE.GoesZip
import PyProof.DictUpdate
import PyProof.Rows.SortShellAny
import KE.KDictCopyH
import KE.KDictExact
import HandS.TryMany
import KE.GoesSet
import KE.KDictLaws
import KE.KAssignIn
import KE.KDictPairs
import KE.KEqDict
import Lean
import PySem.Challenge.RW_besideindex_k31_whole_runs
set_option Elab.async false
set_option linter.all false
set_option maxRecDepth 100000
set_option maxHeartbeats 4000000
namespace DL
open PySem PySem.Spec PyProof.Rows L2
set_option autoImplicit true

abbrev QRow := List Int × Addr × V
abbrev QVal := List Int × Addr × Value
def entQ (x : QVal) : DictEntry := ⟨PySem.reduceHash (Builtin.Tuple.tupleHashOf (x.1.map PySem.hashInt)), .ref x.2.1, x.2.2⟩
def cellQ (h : Heap) (a : Addr) (xs : List QVal) : Prop := ∃ o es ep, h.get? a = some o ∧ o.ExactDict ∧ o.data = .dict es ep ∧ es.toList = xs.map entQ
abbrev QT : List QRow → List QVal → Prop := Paired fun p q => p.1 = q.1 ∧ p.2.1 = q.2.1 ∧ RelV p.2.2 q.2.2
def TDp (a : Addr) (L : List QRow) (h : Heap) : Prop := L.length ≤ sizeLine ∧ (a == sysModules) = false ∧ ∃ xs : List QVal, QT L xs ∧ (xs.map (·.1)).Nodup ∧ cellQ h a xs
section
variable {X : Cx} {pins : List (Addr × Obj)} {σ : L2.St} {H : Hp} {s : Shared} {a b : Addr} {L : List QRow} {k : List Int} {A : Around} {E : Value → Shared → Prop}
end
end DL
namespace DL
open PySem PySem.Spec PyProof.Rows L2
set_option autoImplicit true

inductive SV where
  | d (x : PyData)
  | own (a : Addr)
/-- what is one's own: a list of data; a list, a tuple, a dict, an instance with whatever within -/
inductive MO where
  | lst (xs : List PyData)
  | seq (xs : List SV)
  | tpl (xs : List SV)
  | dct (ps : List (Key × SV))
  | dcT (a : Addr) (ps : List (List Int × PyData))
  | dcl (o : Obj) (kvs : List (Key × V)) (ps : List (Key × SV))
  | ins (C : Str) (fs : List (Str × SV))
  | ptp (xs : List PyData)
abbrev MH := Addr → Option MO
abbrev DSt := List (Option SV)
abbrev DK := SV → MH → Prop
/-- one's own things but plain tuples are not read as data -/
def hid : Option MO → Bool
  | none => false
  | some (.ptp _) => false
  | some _ => true
theorem hid_put {h : MH} {a : Addr} (n : h a = none) : hid (h a) = false := by rw [n]; rfl
def Fzx (x : List Addr) (H : Hp) (h : MH) : Hp := fun a => if a ∈ x then none else if hid (h a) = true then none else match H a with
  | some (.tbl _) => none
  | o => o
theorem Fz.ofH {x : List Addr} {H : Hp} {h : MH} {a : Addr} {o : HO} (e : H a = some o) (n : hid (h a) = false) (nx : a ∉ x) (nt : ∀ ps, o ≠ .tbl ps := by intro ps z; cases z) : Fzx x H h a = some o := by
  unfold Fzx; rw [if_neg nx, if_neg (by rw [n]; exact Bool.false_ne_true), e]
  cases o <;> first | rfl | exact absurd rfl (nt _)
theorem Fz.of {x : List Addr} {H : Hp} {h : MH} {a : Addr} {o : HO} (e : H a = some o) (n : h a = none) (nx : a ∉ x) (nt : ∀ ps, o ≠ .tbl ps := by intro ps z; cases z) : Fzx x H h a = some o := Fz.ofH e (hid_put n) nx nt
theorem Fz.to {x : List Addr} {H : Hp} {h : MH} {a : Addr} {o : HO} (e : Fzx x H h a = some o) : H a = some o ∧ hid (h a) = false ∧ a ∉ x ∧ ∀ ps, o ≠ .tbl ps := by
  unfold Fzx at e
  by_cases m : a ∈ x
  · rw [if_pos m] at e; cases e
  · rw [if_neg m] at e
    cases q : hid (h a) with
    | true => rw [if_pos q] at e; cases e
    | false =>
      rw [if_neg (by rw [q]; exact Bool.false_ne_true)] at e
      have e' : (match H a with
        | some (.tbl _) => none
        | o => o) = some o := e
      cases r : H a with
      | none => rw [r] at e'; cases e'
      | some u =>
        rw [r] at e'
        cases u <;> first | (cases e'; exact ⟨rfl, rfl, m, fun _ z => by cases z⟩) | cases e'

abbrev Sub (H H' : Hp) : Prop := ∀ a o, H a = some o → H' a = some o
section
variable {K : PySem.W.Frag} {H H' : Hp}
end

structure PXx (x : List Addr) (H : Hp) (h : MH) (H' : Hp) (h' : MH) : Prop where
  ex : Sub (Fzx x H h) (Fzx x H' h')
  kx : ∀ a, a ∈ x → H' a = H a
/-- what a derivation leans on: lists that are being made (not to be read), tables of code objects, what stays true -/
structure GI where
  x : List Addr
  T : List (Addr × Str)
  G : Hp → MH → Prop
  st : ∀ {H h H' h'}, PXx x H h H' h' → G H h → G H' h'
abbrev Fz (Γ : GI) (H : Hp) (h : MH) : Hp := Fzx Γ.x H h
abbrev PX (Γ : GI) (H : Hp) (h : MH) (H' : Hp) (h' : MH) : Prop := PXx Γ.x H h H' h'
def RV (K : PySem.W.Frag) (Γ : GI) (H : Hp) (h : MH) (x : SV) (v : V) : Prop := match x with
  | .d d => Dp K (Fz Γ H h) v d
  | .own a => v = .ref a
def RVF (K : PySem.W.Frag) (F : Hp) (x : SV) (v : V) : Prop := match x with
  | .d d => Dp K F v d
  | .own a => v = .ref a
def RPF {κ : Type} (K : PySem.W.Frag) (F : Hp) (p : κ × SV) (q : κ × V) : Prop := p.1 = q.1 ∧ RVF K F p.2 q.2
/-- rows of a dict whose keys are tuples of ints -/
def RQF (K : PySem.W.Frag) (F : Hp) (p : List Int × PyData) (q : QRow) : Prop := p.1 = q.1 ∧ SqT K F q.2.1 (q.1.map V.int) ∧ Dp K F q.2.2 p.2
/-- content beside content -/
def ROF (K : PySem.W.Frag) (F : Hp) : MO → HO → Prop
  | .lst xs, .lst vs => DpAll K F vs xs
  | .seq xs, .lst vs => Paired (RVF K F) xs vs
  | .tpl xs, .tup vs => Paired (RVF K F) xs vs
  | .dct ps, .dK kvs => Paired (RPF K F) ps kvs
  | .dcl o kvs ps, .frz o' u => o' = o ∧ u = .dK kvs ∧ Paired (RPF K F) ps kvs
  | .dcT a ps, .ext φ => ∃ L, φ = TDp a L ∧ Paired (RQF K F) ps L
  | .ins C fs, .ins C' _ gs => C' = He.ga K C ∧ Paired (RPF K F) fs gs
  | .ptp xs, .frz o u => o.dict = none ∧ ∃ vs, u = .tup vs ∧ DpAll K F vs xs
  | _, _ => False
def RO (K : PySem.W.Frag) (Γ : GI) (H : Hp) (h : MH) (a : Addr) (o : MO) : Prop := match o with
  | .lst xs => ∃ vs, H a = some (.lst vs) ∧ DpAll K (Fz Γ H h) vs xs
  | o => ∃ u, H a = some u ∧ ROF K (Fz Γ H h) o u
theorem ro_at {K : PySem.W.Frag} {Γ : GI} {H : Hp} {h : MH} {a : Addr} {o : MO} (r : RO K Γ H h a o) : ∃ u, H a = some u ∧ ROF K (Fz Γ H h) o u := by
  cases o with
  | lst xs =>
    obtain ⟨vs, e, q⟩ := r
    exact ⟨_, e, q⟩
  | _ => exact r
structure RM (K : PySem.W.Frag) (Γ : GI) (H : Hp) (h : MH) : Prop where
  ob : ∀ a o, h a = some o → RO K Γ H h a o
  g : Γ.G H h
  nx : ∀ a, a ∈ Γ.x → h a = none ∧ ∃ xs, H a = some (.lst xs)
  tb : LamX.Tabs Γ.T H
theorem PXx.refl {x : List Addr} {H : Hp} {h : MH} : PXx x H h H h := ⟨fun _ _ e => e, fun _ _ => rfl⟩
theorem PXx.trans {x : List Addr} {H H1 H2 : Hp} {h h1 h2 : MH} (a : PXx x H h H1 h1) (b : PXx x H1 h1 H2 h2) : PXx x H h H2 h2 := ⟨fun x o e => b.ex x o (a.ex x o e), fun p hp => (b.kx p hp).trans (a.kx p hp)⟩
theorem PX.refl {H : Hp} {h : MH} : PX Γ H h H h := PXx.refl
theorem RM.tracked {K : PySem.W.Frag} {H : Hp} {h : MH} (r : RM K Γ H h) {a : Addr} (n : H a = none) : h a = none := by
  cases q : h a with
  | none => rfl
  | some o =>
    obtain ⟨u, e, _⟩ := ro_at (r.ob a o q)
    rw [n] at e; cases e
def RSt (K : PySem.W.Frag) (Γ : GI) (H : Hp) (h : MH) (σd : DSt) (σ : L2.St) : Prop := σd.length = σ.length ∧ ∀ (i : Nat) (x : SV), σd[i]? = some (some x) → ∃ v, σ[i]? = some (some v) ∧ RV K Γ H h x v
section
variable {K : PySem.W.Frag} {H H' : Hp} {h h' : MH} {σd : DSt} {σ : L2.St}
theorem RSt.set {i : Nat} {x : SV} {v : V} (r : RSt K Γ H h σd σ) (rv : RV K Γ H h x v) : RSt K Γ H h (σd.set i (some x)) (σ.set i (some v)) := by
  refine ⟨by simp [r.1], fun j y e => ?_⟩
  by_cases q : i = j
  · subst q
    by_cases l : i < σd.length
    · rw [List.getElem?_set_self l] at e
      cases e
      exact ⟨v, by rw [List.getElem?_set_self (by rw [← r.1]; exact l)], rv⟩
    · rw [List.getElem?_eq_none (by simpa using l)] at e; cases e
  · rw [List.getElem?_set_ne q] at e
    obtain ⟨w, e1, e2⟩ := r.2 j y e
    exact ⟨w, by rw [List.getElem?_set_ne q]; exact e1, e2⟩
end

section
variable {X : Cx} {a b c e : Expr} {pos : Pos}
end
end DL

namespace DL
open PySem PySem.Spec PyProof.Rows L2
set_option autoImplicit true

section
variable {K : PySem.W.Frag} {H : Hp} {h : MH} {x y : SV} {v : V}
end

section
variable {K : PySem.W.Frag}
end

/-- data as a whole: what is one's own is looked through -/
def asD (h : MH) (x : SV) : Option PyData := match x with
  | .d d => some d
  | .own a => match h a with
    | some (.lst xs) => some (.list xs)
    | _ => none
section
variable {K : PySem.W.Frag}
def isNone : SV → Bool
  | .d .none => true
  | _ => false
end

section
variable {X : Cx} {a b c e : Expr} {pos p2 : Pos} {ta tb tc te : DTE} {t : DTA} {es : List Expr}
end
end DL

namespace DL
open PySem PySem.Spec PyProof.Rows L2
set_option autoImplicit true

structure DEnds where
  nx : DSt → MH → Prop
  rt : DK
  bk : DSt → MH → Prop
  ct : DSt → MH → Prop
abbrev DTS := DEnds → DSt → MH → Prop
section
variable {X : Cx} {a b c e : Expr} {pos p2 : Pos} {ta tb tc te : DTE} {t u : DTS} {st : Stmt} {rest : List Stmt} {es : List Expr}
section
variable {prog : Program} {w : World} {A : Around} {EX : Value → Shared → Prop} {s : Shared} {env : Env}
end
end
end DL

namespace DL
open PySem PySem.Spec PyProof.Rows L2
set_option autoImplicit true

structure DExc where
  cls : Str
  fs : List (Str × PyData)
section
variable {P : Program} {w : World} {K : PySem.W.Frag} {mg : Str → Option Value} {base : Heap}
end

section
variable {X : Cx} {k : Nat} {f : Addr} {fd : FuncData} {ps : List Str} {W : DSp} {E : DXS} {x : Str} {p pos : Pos} {e : Expr} {es : List Expr} {t : DTA}
end
end DL

namespace DL
open PySem PySem.Spec PyProof.Rows L2
set_option autoImplicit true

/-- a tuple that begins with the ints ns, and the values behind them -/
def HdAt (h : Heap) (v : Value) (ns : List Int) (rest : List Value) : Prop := ∃ a o n is, v = .ref a ∧ h.get? a = some o ∧ o.cls = .type "tuple" ∧ o.data = .seq (is ++ rest).toArray n ∧ IntsAre is ns
theorem HdAt.keeps {h h' : Heap} {v : Value} {ns : List Int} {r : List Value} (a : HdAt h v ns r) (k : ∀ b o, h.get? b = some o → o.cls = .type "tuple" → h'.get? b = some o) : HdAt h' v ns r := by
  obtain ⟨p, o, n, is, e, h1, h2, h3, h4⟩ := a
  exact ⟨p, o, n, is, e, k _ _ h1 h2, h2, h3, h4⟩
open Classical in
section
variable {prog : Program} {w : World} {A : Around} {E : Value → Shared → Prop} {s : Shared}
end
end DL

namespace DL
open PySem PySem.Spec PyProof.Rows L2
set_option autoImplicit true

section
variable {prog : Program} {w : World} {A : Around} {s : Shared}
/-- v, a tuple that begins with the ints p, r -/
def Hd2 (h : Heap) (v : Value) (p r : Int) : Prop := ∃ a its, v = .ref a ∧ IsTup h a its ∧ ∃ t u : Tok, its[0]? = some (.int p t) ∧ its[1]? = some (.int r u)
theorem Hd2.keeps {h h' : Heap} {v : Value} {p r : Int} (k : ∀ b o, h.get? b = some o → h'.get? b = some o) (x : Hd2 h v p r) : Hd2 h' v p r := by
  obtain ⟨a, its, e, ⟨o, g1, g2, n, g3⟩, y⟩ := x
  exact ⟨a, its, e, ⟨o, k _ _ g1, g2, n, g3⟩, y⟩
end

section
variable {prog : Program} {w : World} {A : Around} {EX : Value → Shared → Prop} {s : Shared} {β : Type} {vs : List Value} {bs : List β} {R : Value → β → Prop}
open PySem.W in
end
end DL

namespace DL
open PySem PySem.Spec PyProof.Rows L2
set_option autoImplicit true

/-- what is tracked ahead of the call: empty tables; the script, if it is no object of the module -/
def hpTop (K : PySem.W.Frag) (ts : List Addr) (a : Addr) (o : Obj) (u : HO) : Hp := fun x => if x ∈ ts then some (.tbl #[]) else if x = a ∧ (K.lookup a).isNone = true then some (.frz o u) else none
theorem hpTop_cases {K : PySem.W.Frag} {ts : List Addr} {a x : Addr} {o : Obj} {u z : HO} (e : hpTop K ts a o u x = some z) : (x ∈ ts ∧ z = .tbl #[]) ∨ (x ∉ ts ∧ x = a ∧ K.lookup a = none ∧ z = .frz o u) := by
  unfold hpTop at e
  split at e
  · rename_i m
    cases e
    exact .inl ⟨m, rfl⟩
  · rename_i m
    split at e
    · rename_i q
      cases e
      exact .inr ⟨m, q.1, Option.isNone_iff_eq_none.mp q.2, rfl⟩
    · cases e
structure TopOk (K : PySem.W.Frag) (mg mb : Str → Option Value) (cs : List (Addr × Addr)) (t : Shared) (a : Addr) (vs : List Value) (ns : List Int) : Prop where
  kin : K.In t.heap
  glo : t.heap.Ns mainGlobals mg
  blt : t.heap.Ns builtinsNs mb
  bltX : ∀ y : Str, y ≠ "__name__" → mb y = bootBuiltins y
  lim : t.heap.NoLimit
  gen : t.gens = #[]
  tab : ∀ c ∈ cs, t.heap.get? c.2 = some { cls := .none, data := .fields #[] }
  tabK : ∀ c ∈ cs, K.lookup c.2 = none
  cod : ∀ c ∈ cs, PySem.W.CodeHd t.heap c.1 c.2
  mod : ∃ (m : Addr) (o : Obj), mg "__builtins__" = some (.ref m) ∧ m ≠ builtinsNs ∧ t.heap.get? m = some o ∧ o.cls = .type "module" ∧ o.dict = some builtinsNs ∧ o.data = .plain
  scr : t.heap.get? a = some { cls := .type "list", data := .seq vs.toArray }
  int : IntsAre vs ns
  len : ns.length ≤ sizeLine
section
variable {P : Program} {w : World} {K : PySem.W.Frag} {mg mb : Str → Option Value} {cs : List (Addr × Addr)} {t : Shared} {a : Addr} {vs : List Value} {ns : List Int}
abbrev topHp (K : PySem.W.Frag) (cs : List (Addr × Addr)) (a : Addr) (vs : List Value) (ns : List Int) : Hp := hpTop K (cs.map (·.2)) a { cls := .type "list", data := .seq vs.toArray } (.lst (ns.map V.int))
theorem TopOk.isTab (G : TopOk K mg mb cs t a vs ns) {x : Addr} (m : x ∈ cs.map (·.2)) : t.heap.get? x = some { cls := .none, data := .fields #[] } ∧ K.lookup x = none := by
  obtain ⟨c, hc, rfl⟩ := List.mem_map.mp m
  exact ⟨G.tab c hc, G.tabK c hc⟩
/-- what is no list, no empty table, is not tracked -/
theorem TopOk.free (G : TopOk K mg mb cs t a vs ns) {x : Addr} {o : Obj} (e : t.heap.get? x = some o) (h1 : ∀ us n, o.data ≠ .seq us n) (h2 : o.data ≠ .fields #[]) : topHp K cs a vs ns x = none := by
  cases q : topHp K cs a vs ns x with
  | none => rfl
  | some u =>
    rcases hpTop_cases q with ⟨m, _⟩ | ⟨_, ea, _, _⟩
    · rw [(G.isTab m).1] at e
      cases e
      exact (h2 rfl).elim
    · rw [ea, G.scr] at e
      cases e
      exact (h1 _ _ rfl).elim
end
end DL

namespace DL
open PySem PySem.Spec PyProof.Rows L2
set_option autoImplicit true

def GI.at (Γ : GI) (H0 : Hp) (h0 : MH) : GI where
  x := Γ.x
  T := Γ.T
  G := fun H h => Γ.G H h ∧ PXx Γ.x H0 h0 H h
  st := fun p q => ⟨Γ.st p q.1, q.2.trans p⟩
theorem RM.at {K : PySem.W.Frag} {H : Hp} {h : MH} (r : RM K Γ H h) : RM K (Γ.at H h) H h := ⟨r.ob, ⟨r.g, PXx.refl⟩, r.nx, r.tb⟩
abbrev clrN (i : Nat) (D : DEnds) : DEnds := { nx := fun σ' h' => D.nx (σ'.set i none) h', rt := D.rt, bk := fun σ' h' => D.bk (σ'.set i none) h', ct := fun σ' h' => D.ct (σ'.set i none) h' }
section
variable {X : Cx} {x n : Str} {cv : Value} {i : Nat} {body suite : List Stmt} {b₀ : Stmt} {np pos pos' : Pos} {kt : Str → Str → Option Bool} {tb : DXS → DTS} {ts : Addr → DExc → DTS} {Eo : DXS}
end

section
variable {X : Cx} {n x : Str} {pos p : Pos} {e : Expr} {es : List Expr} {ns : List Str}
end
section
variable {X : Cx} {Γ1 : GI} {kt : Str → Str → Option Bool} {xt : Str → Str → Bool} {a : Addr} {oe : Obj} {y : DExc} {d : Option Addr} {pn : List (Addr × Obj)} {x n f : Str} {pos p p1 p2 : Pos} {c e : Expr} {es : List Expr} {ns : List Str}
end
end DL

namespace DL
open PySem PySem.Spec PyProof.Rows L2
set_option autoImplicit true

def clsB (K : PySem.W.Frag) (C : Addr) (bmB : List Value) (newId : String) : Bool := match K.lookup C with
  | some ⟨.type "type", _, .cls cd, sl⟩ => (match cd.mro, sl.toList with
    | .ref C' :: bm, [_, _, _, _, some (.builtin n), _] => C' == C && (n == newId && (!cd.hasDel && (cd.hasDict && PySem.W.excTail bmB bm)))
    | _, _ => false)
  | _ => false
def fcB (K : PySem.W.Frag) (Cb : Addr) (initId : String) : Bool := match PySem.W.findCls K (.ref Cb) (.type "type") "__init__" with
  | some (.val (.builtin i)) => i == initId
  | _ => false
def errB (K : PySem.W.Frag) (x base : Str) (fs : List Str) (bmB : List Value) (newId initId : String) : Bool :=
  clsB K (He.ga K x) bmB newId && (PySem.W.excOver K (He.ga K x) bmB && (decide (PySem.W.findIn K (.ref (He.ga K x)) "__setattr__" = some (some (.builtin "object.__setattr__"))) && (decide (PySem.W.findIn K (.ref (He.ga K x)) "__getattribute__" = some (some (.builtin "BaseException.__getattribute__"))) &&
  (decide (PySem.W.findIn K (.ref (He.ga K x)) "__getattr__" = some none) && (fs.all (fun f => decide (PySem.W.takerIn K (He.ga K x) f = some none) && decide (PySem.W.findIn K (.ref (He.ga K x)) f = some none)) && (decide (PySem.W.findIn K (.ref (He.ga K x)) "__init__" = some (some (.ref (He.ma K (He.ga K x) "__init__")))) &&
  (decide (PySem.W.typeIn K (.ref (He.ma K (He.ga K x) "__init__")) = some (.type "function")) && (PySem.W.keepIn K (.ref (He.ga K x)) && (decide (PySem.W.subIn K (.ref (He.ga K x)) (.type "BaseException") = some true) && (decide (PySem.W.typeIn K (.ref (He.ga K x)) = some (.type "type")) &&
  (PySem.W.hasDictIn K (He.ga K x) && (PySem.W.readsIn K (He.ga K base) (.type "type") && (decide (PySem.W.specialIn K (.ref (He.ga K base)) "__getattribute__" = some (some (.builtin "type.__getattribute__"))) && fcB K (He.ga K base) initId)))))))))))))
def asY (g : Addr → Option Obj) (n : Nat) : List Addr := He.asD g n ++ [PySem.cStatics]
abbrev frY (g : Addr → Option Obj) (n : Nat) : PySem.W.Frag := He.frT g (asY g n)
def obsY (n : Nat) (fa : List He.Fa) (fn : List He.DefD) (ts : List He.Tab) (tf : List He.Defn) (ex : PySem.W.Frag → Bool) (g : Addr → Option Obj) : He.AlX :=
  (He.obsT fa fn ts (frY g n), ex (frY g n) && He.tabsB g tf (frY g n))
theorem saysY_of {n : Nat} {fa : List He.Fa} {fn : List He.DefD} {ts : List He.Tab} {tf : List He.Defn} {ex : PySem.W.Frag → Bool} {w : World} {h : Heap} (e : obsY n fa fn ts tf ex h.get? = He.valX fn ts w) : He.SaysX fa fn ts tf ex w h (frY h.get? n) := by
  obtain ⟨K, hK⟩ : ∃ K, K = frY h.get? n := ⟨_, rfl⟩
  have e1 : He.obsT fa fn ts K = He.valT fn ts w := by rw [hK]; exact congrArg (fun z : He.AlX => z.1) e
  have e2 : (ex K && He.tabsB h.get? tf K) = true := by rw [hK]; exact congrArg (fun z : He.AlX => z.2) e
  obtain ⟨h1, h2⟩ := Bool.and_eq_true_iff.mp e2
  have key : ∀ p ∈ tf, PySem.W.codeHdIn K (He.cT K p).1 (He.cT K p).2 = true ∧ ∃ o, h.get? (He.cT K p).2 = some o ∧ He.emptyTab o = true := fun p hp => by
    have z := List.all_eq_true.mp h2 p hp
    obtain ⟨h3, h4⟩ := Bool.and_eq_true_iff.mp z
    refine ⟨h3, ?_⟩
    split at h4
    · rename_i o q
      exact ⟨o, q, h4⟩
    · cases h4
  rw [← hK]
  refine ⟨e1, h1, fun p hp => (key p hp).1, fun p hp => ?_, fun p hp => ?_⟩
  · obtain ⟨_, o, q, z⟩ := key p hp
    have y := He.frT_none (as := asY h.get? n) q z
    rw [hK] at y ⊢
    exact y
  · obtain ⟨_, o, q, z⟩ := key p hp
    rw [q, He.emptyTab_eq z]
def hookY (n : Nat) (fa : List He.Fa) (fn : List He.DefD) (ts : List He.Tab) (tf : List He.Defn) (ex : PySem.W.Frag → Bool) : PySem.W.Hook where
  α := He.AlX
  obs := fun s => obsY n fa fn ts tf ex s.heap.get?
  val := fun w => He.valX fn ts w
  says := (He.hookX n fa fn ts tf ex).says
  of := fun _ _ e => ⟨_, He.frT_in, saysY_of e⟩
  keeps := (He.hookX n fa fn ts tf ex).keeps
theorem obsY_eq {n : Nat} {fa : List He.Fa} {fn : List He.DefD} {ts : List He.Tab} {tf : List He.Defn} {ex : PySem.W.Frag → Bool} {g : Addr → Option Obj} {s : Shared} (h : ∀ a, g a = s.heap.get? a) : obsY n fa fn ts tf ex g = (hookY n fa fn ts tf ex).obs s := by
  obtain rfl : g = s.heap.get? := funext h
  rfl
end DL

namespace DL
open PySem PySem.Spec PyProof.Rows L2
set_option autoImplicit true
structure Cls0 where
  ex : Value → Option Bool
  nm : Option Nat
  ts : Addr → Value → Option Addr → TS
def Cls0.run (c : Cls0) (D : Ends) (a : Addr) (cls : Value) (d : Option Addr) (σ : L2.St) (H : Hp) : Prop := match c.nm with
  | some i => c.ts a cls d { nx := fun σ2 H2 => D.nx (σ2.set i none) H2, rt := D.rt, bk := fun σ2 H2 => D.bk (σ2.set i none) H2, ct := fun σ2 H2 => D.ct (σ2.set i none) H2 } (σ.set i (some (.ref a))) H
  | none => c.ts a cls d D σ H
section
variable {X : Cx} {pins : List (Addr × Obj)} {a : Addr} {B : Heap} {sI s' : Shared} {σ' : L2.St} {H' : Hp} {cls : Value} {d : Option Addr} {g : Heap}
end
structure DCl where
  ns : List Str
  nm : Option Nat
  ts : Addr → DExc → DTS
def DCl.run (c : DCl) (D : DEnds) (a : Addr) (y : DExc) (σ : DSt) (h : MH) : Prop := match c.nm with
  | some i => c.ts a y (clrN i D) (σ.set i (some (.own a))) h
  | none => c.ts a y D σ h
section
variable {X : Cx} {Γ : GI} {kt : Str → Str → Option Bool} {tb : DXS → DTS} {Eo : DXS}
end
section
variable {X : Cx} {x1 x2 x3 x4 x5 : Str} {c1 c2 c3 c4 c5 : Value} {p1 p2 p3 p4 p5 pt : Pos} {kt' : Nat}
end
end DL

namespace DL
open PySem PySem.Spec PyProof.Rows L2
set_option autoImplicit true

def isI (p : Bool) (h : Heap) (a l : Addr) (i : Nat) : Prop := match p with
  | true => h.IsTupleIter a l i
  | false => h.IsListIter a l i
theorem isI.at {p : Bool} {h h' : Heap} {a l : Addr} {i : Nat} (x : isI p h a l i) (e : ∀ o, h.get? a = some o → h'.get? a = some o) : isI p h' a l i := by
  cases p with
  | true => exact Heap.IsTupleIter.at x e
  | false => exact Heap.IsListIter.at x e
section
variable {prog : Program} {w : World} {A : Around} {E : Value → Shared → Prop} {s : Shared} {p q : Bool}
end

section
variable {X : Cx} {a b : Expr} {p pos tpos kpos cp : Pos} {elts : List Expr} {kk ck : Nat} {ta tb : DTE}
end
section
variable {X : Cx} {a b c e : Expr} {p pos p2 tpos kpos cp : Pos} {kk ck : Nat} {ta tb tc te : DTE} {elts : List Expr}
end
section
variable {σ : DSt} {h : MH} {i1 i2 : Nat} {ta tb te : DTE} {tt : DTT} {vs : List Nat} {Q : DK} {QS : List SV → MH → Prop}
end
end DL

namespace DL.G
open PySem PySem.Spec PyProof.Rows L2
set_option autoImplicit true
def top (i : Nat) : Stmt := PySem.Challenge.pw_besideindex_k31_whole_runs.main.body.getD i (.Pass ⟨0, 0, 0, 0⟩)
abbrev s_is_number : Stmt := top 4
abbrev s_need : Stmt := top 6
abbrev s_is_entry : Stmt := top 7
abbrev s_runs_of : Stmt := top 9
abbrev s_least_head : Stmt := top 10
abbrev s_merge_runs : Stmt := top 11
abbrev s_lets_merged : Stmt := top 12
abbrev s__law_feed : Stmt := top 14
abbrev s__law_draw : Stmt := top 15
abbrev s__law_entry : Stmt := top 16
abbrev s_law : Stmt := top 17
def d_is_number : He.DefD := ⟨("is_number", none), "is_number", "is_number", defArgs s_is_number, defBody s_is_number, defScope s_is_number, [], []⟩
def d_need : He.DefD := ⟨("need", none), "need", "need", defArgs s_need, defBody s_need, defScope s_need, [], []⟩
def d_is_entry : He.DefD := ⟨("is_entry", none), "is_entry", "is_entry", defArgs s_is_entry, defBody s_is_entry, defScope s_is_entry, [], []⟩
def d_runs_of : He.DefD := ⟨("runs_of", none), "runs_of", "runs_of", defArgs s_runs_of, defBody s_runs_of, defScope s_runs_of, [], []⟩
def d_least_head : He.DefD := ⟨("least_head", none), "least_head", "least_head", defArgs s_least_head, defBody s_least_head, defScope s_least_head, [], []⟩
def d_merge_runs : He.DefD := ⟨("merge_runs", none), "merge_runs", "merge_runs", defArgs s_merge_runs, defBody s_merge_runs, defScope s_merge_runs, [], []⟩
def d_lets_merged : He.DefD := ⟨("lets_merged", none), "lets_merged", "lets_merged", defArgs s_lets_merged, defBody s_lets_merged, defScope s_lets_merged, [], []⟩
def d__law_feed : He.DefD := ⟨("_law_feed", none), "_law_feed", "_law_feed", defArgs s__law_feed, defBody s__law_feed, defScope s__law_feed, [], []⟩
def d__law_draw : He.DefD := ⟨("_law_draw", none), "_law_draw", "_law_draw", defArgs s__law_draw, defBody s__law_draw, defScope s__law_draw, [], []⟩
def d__law_entry : He.DefD := ⟨("_law_entry", none), "_law_entry", "_law_entry", defArgs s__law_entry, defBody s__law_entry, defScope s__law_entry, [], []⟩
def d_law : He.DefD := ⟨("law", none), "law", "law", defArgs s_law, defBody s_law, defScope s_law, [], []⟩
abbrev si_NoPaper : Stmt := inClass (top 2) 0
def di_NoPaper : He.DefD := ⟨("NoPaper", some "__init__"), "__init__", "NoPaper.__init__", defArgs si_NoPaper, defBody si_NoPaper, defScope si_NoPaper, [], []⟩
def exB (K : PySem.W.Frag) : Bool := errB K "NoPaper" "StoreError" ["word", "at"] [.type "ValueError", .type "Exception", .type "BaseException", .type "object"] "ValueError.__new__" "ValueError.__init__"
def fns : List He.DefD := [d_is_number, d_need, d_is_entry, d_runs_of, d_least_head, d_merge_runs, d_lets_merged, d__law_feed, d__law_draw, d__law_entry, d_law, di_NoPaper]
def fas : List He.Fa := [.glo "is_number", .glo "need", .glo "is_entry", .glo "runs_of", .glo "least_head", .glo "merge_runs", .glo "lets_merged", .glo "_law_feed", .glo "_law_draw", .glo "_law_entry", .glo "law", .free "isinstance", .free "int", .free "bool", .free "tuple", .free "len", .free "all", .free "range", .free "sorted", .free "set", .free "list", .free "min", .free "zip", .free "enumerate", .free "abs", .glo "NoPaper", .glo "StoreError"]
def tfs : List He.Defn := []
def nm : He.Defn → Str := fun p => p.1 ++ ".<locals>.<lambda>"
abbrev R : PySem.W.OpenRow := PySem.W.OpenLaw.row PySem.Challenge.rw_besideindex_k31_whole_runs
abbrev hk : PySem.W.Hook := DL.hookY 4 fas fns [] tfs exB
def ob (s : PySem.W.SharedT) : He.AlX := DL.obsY 4 fas fns [] tfs exB (HandSHeadRun.getT s)
theorem ob_eq (s : PySem.W.SharedT) : ob s = hk.obs s.abs := DL.obsY_eq (HandSHeadRun.getT_eq s)
def loose : List Str := (["StoreError", "NoPaper", "is_number", "need", "is_entry", "runs_of", "least_head", "merge_runs", "lets_merged", "_law_feed", "_law_draw", "_law_entry"] : List Str)
theorem run (w : World) : HandSHeadRun.RunEq R (PySem.W.view R.prog [17]) hk ob 4000 loose w := by
  intro os
  kernel_rfl
end DL.G
namespace DL
open PySem PySem.Spec PyProof.Rows L2
set_option autoImplicit true

def TD (a : Addr) (L : List QRow) : HO := .ext (TDp a L)
def valQ (L : List QRow) (k : List Int) : Option V := (L.find? fun x => decide (x.1 = k)).map (·.2.2)
def putQ (L : List QRow) (k : List Int) (b : Addr) (v : V) : List QRow := if (valQ L k).isSome = true then L.map (fun x => if x.1 = k then (x.1, x.2.1, v) else x) else L ++ [(k, b, v)]
theorem qt_val {L : List QRow} {xs : List QVal} (r : QT L xs) (k : List Int) : RelO (valQ L k) ((atKey xs k).map (·.2)) := by
  unfold valQ atKey
  induction r with
  | nil => exact trivial
  | @cons p q ps qs h t ih =>
    obtain ⟨e1, e2, e3⟩ := h
    rw [List.find?_cons, List.find?_cons, ← e1]
    by_cases e : p.1 = k
    · rw [decide_eq_true e]
      exact e3
    · rw [decide_eq_false e]
      exact ih
theorem qt_put {L : List QRow} {xs : List QVal} (r : QT L xs) {k : List Int} {b : Addr} {v : V} {u : Value} (rv : RelV v u) : QT (putQ L k b v) (storedH xs k b u) := by
  have e := (qt_val r k).isSome_eq
  rw [Option.isSome_map] at e
  unfold putQ storedH
  rw [e]
  by_cases q : (atKey xs k).isSome = true
  · rw [if_pos q, if_pos q]
    clear e q
    induction r with
    | nil => exact .nil
    | @cons p q ps qs h t ih =>
      obtain ⟨e1, e2, e3⟩ := h
      rw [List.map_cons, List.map_cons]
      refine .cons ?_ ih
      unfold putAt
      rw [← e1]
      by_cases e : p.1 = k
      · rw [if_pos e, if_pos e]; exact ⟨e1 ▸ rfl, e2, rv⟩
      · rw [if_neg e, if_neg e]; exact ⟨e1, e2, e3⟩
  · rw [if_neg q, if_neg q]
    exact Paired.snoc r ⟨rfl, rfl, rv⟩
section
variable {X : Cx} {pins : List (Addr × Obj)} {σ : L2.St} {H : Hp} {s : Shared} {a b : Addr} {L : List QRow} {k : List Int} {A : Around} {E : Value → Shared → Prop}
theorem td_of (I : Inv X pins σ H s) (e : H a = some (TD a L)) (hk : ∀ p ∈ L, SqT X.K H p.2.1 (p.1.map V.int)) :
    L.length ≤ sizeLine ∧ (a == sysModules) = false ∧ ∃ xs : List QVal, QT L xs ∧ s.heap.DictOfH (tupleKind (intKind X.prog X.w)) a xs := by
  obtain ⟨⟨z, y, xs, r, nd, o, es, ep, h1, h2, h3, h4⟩, _⟩ := (show ObjOk X.prog X.w H s.heap a (.ext (TDp a L)) from I.hok a _ e)
  refine ⟨z, y, xs, r, o, es, ep, h1, h2, h3, h4, ?_, nd⟩
  clear h1 h2 h3 h4 nd z e
  rename_i e0
  clear e0
  induction r with
  | nil => exact fun x hx => nomatch hx
  | @cons p q ps qs h t ih =>
    obtain ⟨e1, e2, _⟩ := h
    intro x hx
    rcases List.mem_cons.mp hx with e | hx
    · subst e
      rw [← e1, ← e2]
      exact I.isT (hk p List.mem_cons_self)
    · exact ih (fun p hp => hk p (List.mem_cons_of_mem _ hp)) x hx
theorem inQ {Q : Value → Shared → Prop} (hu : A.units + 1 < cLine) (I : Inv X pins σ H s) (e : H a = some (TD a L)) (hk : ∀ p ∈ L, SqT X.K H p.2.1 (p.1.map V.int)) (hb : SqT X.K H b (k.map V.int)) (h : ∀ s', Inv X pins σ H s' → Q (.bool (valQ L k).isSome) s') :
    wpAny (model X.prog X.w) A (compareOp .In (.ref b) (.ref a)) Q E s := by
  obtain ⟨z, hd, xs, rel, dd⟩ := td_of I e hk
  refine wpAny_in_heap (knd := tupleKind (intKind X.prog X.w)) (k := k) (tupleKind_room_in1 hu) (I.isT hb) hd dd ?_
  have q := (qt_val rel k).isSome_eq
  rw [Option.isSome_map] at q
  rw [← q]
  exact h _ (I.tok _)
theorem td_new {h' : Heap} {xs : List QVal} (z : L.length ≤ sizeLine) (hd : (a == sysModules) = false) (r : QT L xs) (nd : (xs.map (·.1)).Nodup) (c : cellQ h' a xs) : ObjOk X.prog X.w H h' a (TD a L) := by
  refine ⟨⟨z, hd, xs, r, nd, c⟩, ?_, fun h1 h2 p st => ?_⟩
  · obtain ⟨o, _, _, e, _⟩ := c
    exact ⟨o, e⟩
  · obtain ⟨z, hd, xs, r, nd, o, es, ep, e1, e2⟩ := p
    exact ⟨z, hd, xs, r, nd, o, es, ep, st o e1, e2⟩
end
/-- no code object is such a dict -/
theorem td_code {c a : Addr} {q : Str} {L : List QRow} : LamX.CodeO c q ≠ TD a L := fun z => by
  have z2 : (fun h : Heap => ∃ (oc : Obj) (vs : Array Value) (t : Tok), h.get? c = some oc ∧ oc.data = .fields vs ∧ vs[1]? = some (.str q t)) = TDp a L := HO.ext.inj z
  obtain ⟨o, ho⟩ : ∃ o : Obj, o = { cls := .none, data := .fields #[.none, .str q 0] } := ⟨_, rfl⟩
  obtain ⟨h, eh, ea⟩ : ∃ h : Heap, h.get? c = some o ∧ h.get? a = some o := ⟨{ objs := Array.replicate (c + a + 1) o }, by
    subst ho
    refine ⟨?_, ?_⟩
    · have z1 : c < c + a + 1 := Nat.lt_succ_of_le (Nat.le_add_right c a)
      simp [Heap.get?, z1]
    · have z1 : a < c + a + 1 := Nat.lt_succ_of_le (Nat.le_add_left a c)
      simp [Heap.get?, z1]⟩
  have y : TDp a L h := by
    rw [← z2]
    exact ⟨o, _, 0, eh, by rw [ho], rfl⟩
  obtain ⟨_, _, xs, _, _, o', es, ep, e1, _, e3, _⟩ := y
  rw [ea] at e1
  cases e1
  rw [ho] at e3
  cases e3
end DL
namespace DL
open PySem PySem.Spec PyProof.Rows L2
set_option autoImplicit true

def mput (h : MH) (a : Addr) (o : MO) : MH := fun b => if b = a then some o else h b
theorem mput_same {h : MH} {a : Addr} {o : MO} : mput h a o a = some o := if_pos rfl
theorem mput_ne {h : MH} {a b : Addr} {o : MO} (n : b ≠ a) : mput h a o b = h b := if_neg n
abbrev DTE := DSt → MH → DK → Prop
abbrev DTT := DSt → MH → (Bool → MH → Prop) → Prop
abbrev DTA := DSt → MH → (List SV → MH → Prop) → Prop
/-- a fresh list's items -/
abbrev DTF := DSt → MH → (List PyData → MH → Prop) → Prop

theorem rd_up {H H' : Hp} {a : Addr} {u : HO} (e : Sub H H') (r : Rd H a u) : Rd H' a u := by
  rcases r with r | ⟨o, r⟩
  · exact .inl (e _ _ r)
  · exact .inr ⟨o, e _ _ r⟩
theorem sqL_up {K : PySem.W.Frag} {H H' : Hp} {a : Addr} {xs : List V} (e : Sub H H') (r : SqL K H a xs) : SqL K H' a xs := r.imp (rd_up e) id
theorem sqT_up {K : PySem.W.Frag} {H H' : Hp} {a : Addr} {xs : List V} (e : Sub H H') (r : SqT K H a xs) : SqT K H' a xs := r.imp (rd_up e) id
theorem fz_sub {x : List Addr} {H : Hp} {h : MH} : Sub (Fzx x H h) H := fun _ _ e => (Fz.to e).1
mutual
theorem dp_up {K : PySem.W.Frag} {H H' : Hp} (e : Sub H H') : ∀ (d : PyData) (v : V), Dp K H v d → Dp K H' v d
  | .none, _, h => by cases h; exact .non
  | .bool b, _, h => by cases h; exact .bl b
  | .int i, _, h => by cases h; exact .int i
  | .str x, _, h => by cases h; exact .str x
  | .list ds, _, h => by
    cases h with
    | lst h1 h2 => exact .lst (sqL_up e h1) (dps_up e ds _ h2)
  | .tuple ds, _, h => by
    cases h with
    | tup h1 h2 => exact .tup (sqT_up e h1) (dps_up e ds _ h2)
  | .dict _, _, h => by cases h
theorem dps_up {K : PySem.W.Frag} {H H' : Hp} (e : Sub H H') : ∀ (ds : List PyData) (vs : List V), DpAll K H vs ds → DpAll K H' vs ds
  | [], _, h => by cases h; exact .nil
  | d :: ds, _, h => by
    cases h with
    | cons h1 h2 => exact .cons (dp_up e d _ h1) (dps_up e ds _ h2)
end
section
variable {K : PySem.W.Frag} {H H' : Hp}
theorem dps_len : ∀ {ds : List PyData} {vs : List V}, DpAll K H vs ds → vs.length = ds.length
  | [], _, h => by cases h; rfl
  | _ :: _, _, h => by
    cases h with
    | cons _ h2 => simp [dps_len h2]
theorem dps_get : ∀ {ds : List PyData} {vs : List V} {i : Nat} {d : PyData}, DpAll K H vs ds → ds[i]? = some d → ∃ v, vs[i]? = some v ∧ Dp K H v d
  | [], _, _, _, _, e => by simp at e
  | x :: ds, _, 0, d, h, e => by
    cases h with
    | cons h1 _ => simp at e; subst e; exact ⟨_, rfl, h1⟩
  | x :: ds, _, i + 1, d, h, e => by
    cases h with
    | cons _ h2 =>
      obtain ⟨v, q1, q2⟩ := dps_get (i := i) (d := d) h2 (by simpa using e)
      exact ⟨v, by simpa using q1, q2⟩
theorem dps_getv : ∀ {ds : List PyData} {vs : List V} {i : Nat} {v : V}, DpAll K H vs ds → vs[i]? = some v → ∃ d, ds[i]? = some d ∧ Dp K H v d
  | [], _, _, _, h, e => by cases h; simp at e
  | x :: ds, _, 0, v, h, e => by
    cases h with
    | cons h1 _ => simp at e; subst e; exact ⟨_, rfl, h1⟩
  | x :: ds, _, i + 1, v, h, e => by
    cases h with
    | cons _ h2 =>
      obtain ⟨d, q1, q2⟩ := dps_getv (i := i) (v := v) h2 (by simpa using e)
      exact ⟨d, by simpa using q1, q2⟩
theorem dps_app : ∀ {ds es : List PyData} {vs ws : List V}, DpAll K H vs ds → DpAll K H ws es → DpAll K H (vs ++ ws) (ds ++ es)
  | [], _, _, _, h, r => by cases h; exact r
  | _ :: _, _, _, _, h, r => by
    cases h with
    | cons h1 h2 => exact .cons h1 (dps_app h2 r)
theorem dps_take : ∀ {ds : List PyData} {vs : List V} (n : Nat), DpAll K H vs ds → DpAll K H (vs.take n) (ds.take n)
  | _, _, 0, _ => by simpa using (DpAll.nil : DpAll K H [] [])
  | [], _, n + 1, h => by cases h; simpa using (DpAll.nil : DpAll K H [] [])
  | _ :: _, _, n + 1, h => by
    cases h with
    | cons h1 h2 => exact .cons h1 (dps_take n h2)
theorem dps_drop : ∀ {ds : List PyData} {vs : List V} (n : Nat), DpAll K H vs ds → DpAll K H (vs.drop n) (ds.drop n)
  | _, _, 0, h => h
  | [], _, n + 1, h => by cases h; simpa using (DpAll.nil : DpAll K H [] [])
  | _ :: _, _, n + 1, h => by
    cases h with
    | cons _ h2 => exact dps_drop n h2
theorem dps_set : ∀ {ds : List PyData} {vs : List V} {v : V} {d : PyData} (i : Nat), Dp K H v d → DpAll K H vs ds → DpAll K H (vs.set i v) (ds.set i d)
  | [], _, _, _, _, _, h => by cases h; exact .nil
  | _ :: _, _, _, _, 0, r, h => by
    cases h with
    | cons _ h2 => exact .cons r h2
  | _ :: _, _, _, _, i + 1, r, h => by
    cases h with
    | cons h1 h2 => exact .cons h1 (dps_set i r h2)
theorem dps_rep {ds : List PyData} {vs : List V} (h : DpAll K H vs ds) : ∀ n : Nat, DpAll K H (List.replicate n vs).flatten (List.replicate n ds).flatten
  | 0 => .nil
  | n + 1 => by
    rw [List.replicate_succ, List.replicate_succ, List.flatten_cons, List.flatten_cons]
    exact dps_app h (dps_rep h n)
theorem dps_ints : ∀ ns : List Int, DpAll K H (ns.map V.int) (ns.map PyData.int)
  | [] => .nil
  | n :: ns => .cons (.int n) (dps_ints ns)
end

theorem rvf_up {K : PySem.W.Frag} {F F' : Hp} (e : Sub F F') : ∀ {x : SV} {v : V}, RVF K F x v → RVF K F' x v
  | .d d, v, r => dp_up e d v r
  | .own _, _, r => r
theorem paired_imp {α β : Type} {R S : α → β → Prop} (f : ∀ a b, R a b → S a b) : ∀ {l : List α} {m : List β}, Paired R l m → Paired S l m
  | _, _, .nil => .nil
  | _, _, .cons h t => .cons (f _ _ h) (paired_imp f t)
theorem rof_up {K : PySem.W.Frag} {F F' : Hp} (e : Sub F F') {o : MO} {u : HO} (r : ROF K F o u) : ROF K F' o u := by
  cases o <;> cases u <;> first | exact r.elim | exact ⟨r.1, r.2.1, paired_imp (fun _ _ z => ⟨z.1, rvf_up e z.2⟩) r.2.2⟩ | exact dps_up e _ _ r | exact paired_imp (fun _ _ => rvf_up e) r | exact paired_imp (fun _ _ z => ⟨z.1, rvf_up e z.2⟩) r | exact ⟨r.1, paired_imp (fun _ _ z => ⟨z.1, rvf_up e z.2⟩) r.2⟩ | exact ⟨r.choose, r.choose_spec.1, paired_imp (fun _ _ z => ⟨z.1, sqT_up e z.2.1, dp_up e _ _ z.2.2⟩) r.choose_spec.2⟩ | exact ⟨r.1, r.2.choose, r.2.choose_spec.1, dps_up e _ _ r.2.choose_spec.2⟩
/-- what no table is -/
def plainO : HO → Bool
  | .lst _ => true
  | .tup _ => true
  | .dK _ => true
  | .dT _ => true
  | .frz _ _ => true
  | .ins _ _ _ => true
  | _ => false
def plainP (u : HO) : Prop := plainO u = true ∨ ∃ a L, u = TD a L
theorem rof_plain {K : PySem.W.Frag} {F : Hp} {o : MO} {u : HO} (r : ROF K F o u) : plainP u := by
  cases o <;> cases u <;> first | exact .inl rfl | exact r.elim | exact .inr ⟨_, r.choose, congrArg HO.ext r.choose_spec.1⟩
theorem not_plain_code {c : Addr} {q : Str} : ¬ plainP (LamX.CodeO c q) := fun z => z.elim (fun y => Bool.noConfusion y) fun ⟨_, _, y⟩ => td_code y
theorem not_plain_tbl {ps : Array Value} : ¬ plainP (.tbl ps) := fun z => z.elim (fun y => Bool.noConfusion y) fun ⟨_, _, y⟩ => HO.noConfusion y
theorem ro_of {K : PySem.W.Frag} {Γ : GI} {H : Hp} {h : MH} {a : Addr} {o : MO} {u : HO} (e : H a = some u) (r : ROF K (Fz Γ H h) o u) : RO K Γ H h a o := by
  cases o with
  | lst xs =>
    cases u <;> first | exact r.elim | exact ⟨_, e, r⟩
  | _ => exact ⟨u, e, r⟩
theorem ro_up {K : PySem.W.Frag} {Γ Γ' : GI} {H H' : Hp} {h h' : MH} {a : Addr} {o : MO} (e : ∀ u, H a = some u → H' a = some u) (s : Sub (Fz Γ H h) (Fz Γ' H' h')) (r : RO K Γ H h a o) : RO K Γ' H' h' a o := by
  obtain ⟨u, e1, e2⟩ := ro_at r
  exact ro_of (e u e1) (rof_up s e2)
/-- tables stay where all but lists stay -/
theorem tabs_but {T : List (Addr × Str)} {H H' : Hp} (t : LamX.Tabs T H) (e : ∀ b o, H b = some o → ¬ plainP o → H' b = some o) : LamX.Tabs T H' := fun p hp => by
  obtain ⟨ps, h1, h2, h3⟩ := t p hp
  refine ⟨ps, e _ _ h1 not_plain_tbl, h2, fun pos cv hc => ?_⟩
  obtain ⟨c, e1, e2⟩ := h3 pos cv hc
  exact ⟨c, e1, e _ _ e2 not_plain_code⟩
theorem tabs_upd {T : List (Addr × Str)} {H : Hp} {p : Addr} {o : HO} (t : LamX.Tabs T H) (hp : H p = none ∨ ∃ u, H p = some u ∧ plainP u) : LamX.Tabs T (upd H p o) := tabs_but t fun b u e n => by
  rw [upd_ne]
  · exact e
  · intro z
    subst z
    rcases hp with q | ⟨w, q, y⟩
    · rw [q] at e; cases e
    · rw [q] at e; cases e; exact n y
theorem RM.notx {K : PySem.W.Frag} {H : Hp} {h : MH} (r : RM K Γ H h) {a : Addr} (n : H a = none) : a ∉ Γ.x := fun z => by
  obtain ⟨_, xs, e⟩ := r.nx a z
  rw [n] at e; cases e
theorem RM.ownx {K : PySem.W.Frag} {H : Hp} {h : MH} (r : RM K Γ H h) {a : Addr} {o : MO} (n : h a = some o) : a ∉ Γ.x := fun z => by
  have q := (r.nx a z).1
  rw [n] at q; cases q
theorem RM.isl {K : PySem.W.Frag} {H : Hp} {h : MH} (r : RM K Γ H h) {a : Addr} {o : MO} (n : h a = some o) : ∃ u, H a = some u ∧ plainP u := by
  obtain ⟨u, e, q⟩ := ro_at (r.ob a o n)
  exact ⟨u, e, rof_plain q⟩
/-- a new tracked thing -/
theorem PX.new {H : Hp} {h : MH} {p : Addr} {o : HO} (n : H p = none) (nx : p ∉ Γ.x) : PX Γ H h (upd H p o) h := by
  refine ⟨fun a u e => ?_, fun a ha => upd_ne fun z => nx (z ▸ ha)⟩
  obtain ⟨e1, e2, e3, e4⟩ := Fz.to e
  exact Fz.ofH (by rw [upd_ne (ne_of_none e1 n)]; exact e1) e2 e3 e4
theorem RV.up {K : PySem.W.Frag} {H H' : Hp} {h h' : MH} {x : SV} {v : V} (p : PX Γ H h H' h') (r : RV K Γ H h x v) : RV K Γ H' h' x v := by
  cases x with
  | d x => exact dp_up p.ex x v r
  | own a => exact r
theorem RM.nxk {K : PySem.W.Frag} {H H' : Hp} {h h' : MH} (r : RM K Γ H h) (k : ∀ a, a ∈ Γ.x → H' a = H a) (s : ∀ a, a ∈ Γ.x → h' a = h a) : ∀ a, a ∈ Γ.x → h' a = none ∧ ∃ xs, H' a = some (.lst xs) := fun a ha => by
  rw [k a ha, s a ha]
  exact r.nx a ha
theorem RM.new {K : PySem.W.Frag} {H : Hp} {h : MH} {p : Addr} {o : HO} (n : H p = none) (r : RM K Γ H h) : RM K Γ (upd H p o) h := by
  have px : PX Γ H h (upd H p o) h := PX.new n (r.notx n)
  refine ⟨fun a m e => ?_, Γ.st px r.g, r.nxk px.kx fun _ _ => rfl, tabs_upd r.tb (.inl n)⟩
  exact ro_up (fun u e1 => by rw [upd_ne (ne_of_none e1 n)]; exact e1) px.ex (r.ob a m e)
theorem RM.px {K : PySem.W.Frag} {H : Hp} {h : MH} {p : Addr} {o : HO} (n : H p = none) (r : RM K Γ H h) : PX Γ H h (upd H p o) h := PX.new n (r.notx n)
/-- a new list is one's own -/
theorem own_px {H : Hp} {h : MH} {p : Addr} {o : HO} {m : MO} (n : H p = none) (hn : h p = none) (nx : p ∉ Γ.x) : PX Γ H h (upd H p o) (mput h p m) := by
  refine ⟨fun a u e => ?_, fun a ha => upd_ne fun z => nx (z ▸ ha)⟩
  obtain ⟨e1, e2, e3, e4⟩ := Fz.to e
  have ne := ne_of_none e1 n
  exact Fz.ofH (by rw [upd_ne ne]; exact e1) (by rw [mput_ne ne]; exact e2) e3 e4
theorem own_rmG {K : PySem.W.Frag} {H : Hp} {h : MH} {p : Addr} {u : HO} {o : MO} (n : H p = none) (r : RM K Γ H h) (hd : ROF K (Fz Γ H h) o u) : RM K Γ (upd H p u) (mput h p o) := by
  have nx := r.notx n
  have px : PX Γ H h (upd H p u) (mput h p o) := own_px n (r.tracked n) nx
  refine ⟨fun a m e => ?_, Γ.st px r.g, r.nxk px.kx fun a ha => mput_ne fun z => nx (by rw [← z]; exact ha), tabs_upd r.tb (.inl n)⟩
  by_cases q : a = p
  · subst q
    rw [mput_same] at e; cases e
    exact ro_of upd_same (rof_up px.ex hd)
  · rw [mput_ne q] at e
    exact ro_up (fun u e1 => by rw [upd_ne q]; exact e1) px.ex (r.ob a m e)
theorem own_rm {K : PySem.W.Frag} {H : Hp} {h : MH} {p : Addr} {vs : List V} {ds : List PyData} (n : H p = none) (r : RM K Γ H h) (hd : DpAll K (Fz Γ H h) vs ds) : RM K Γ (upd H p (.lst vs)) (mput h p (.lst ds)) := own_rmG n r hd
/-- one's own list is written -/
theorem put_px {K : PySem.W.Frag} {H : Hp} {h : MH} {p : Addr} {o : HO} {m m' : MO} (hp : h p = some m) (r : RM K Γ H h) (nm : hid (some m) = true := by rfl) : PX Γ H h (upd H p o) (mput h p m') := by
  refine ⟨fun a u e => ?_, fun a ha => upd_ne fun z => r.ownx hp (z ▸ ha)⟩
  obtain ⟨e1, e2, e3, e4⟩ := Fz.to e
  have ne : a ≠ p := fun q => by rw [q, hp, nm] at e2; cases e2
  exact Fz.ofH (by rw [upd_ne ne]; exact e1) (by rw [mput_ne ne]; exact e2) e3 e4
theorem put_rmG {K : PySem.W.Frag} {H : Hp} {h : MH} {p : Addr} {u : HO} {m o : MO} (hp : h p = some m) (r : RM K Γ H h) (hd : ROF K (Fz Γ H h) o u) (nm : hid (some m) = true := by rfl) : RM K Γ (upd H p u) (mput h p o) := by
  have px : PX Γ H h (upd H p u) (mput h p o) := put_px hp r nm
  have nx := r.ownx hp
  refine ⟨fun a m' e => ?_, Γ.st px r.g, r.nxk px.kx fun a ha => mput_ne fun z => nx (by rw [← z]; exact ha), tabs_upd r.tb (.inr (r.isl hp))⟩
  by_cases q : a = p
  · subst q
    rw [mput_same] at e; cases e
    exact ro_of upd_same (rof_up px.ex hd)
  · rw [mput_ne q] at e
    exact ro_up (fun u e1 => by rw [upd_ne q]; exact e1) px.ex (r.ob a m' e)
theorem put_rm {K : PySem.W.Frag} {H : Hp} {h : MH} {p : Addr} {vs : List V} {m : MO} {ds : List PyData} (hp : h p = some m) (r : RM K Γ H h) (hd : DpAll K (Fz Γ H h) vs ds) (nm : hid (some m) = true := by rfl) : RM K Γ (upd H p (.lst vs)) (mput h p (.lst ds)) := put_rmG hp r hd nm
/-- what is one's own may be let go -/
theorem drop_px {H : Hp} {h h' : MH} (s : ∀ a o, h' a = some o → h a = some o) : PX Γ H h H h' := by
  refine ⟨fun a u e => ?_, fun _ _ => rfl⟩
  obtain ⟨e1, e2, e3, e4⟩ := Fz.to e
  refine Fz.ofH e1 ?_ e3 e4
  cases q : h' a with
  | none => rfl
  | some o => rw [← s a o q]; exact e2
theorem drop_rm {K : PySem.W.Frag} {H : Hp} {h h' : MH} (s : ∀ a o, h' a = some o → h a = some o) (r : RM K Γ H h) : RM K Γ H h' := by
  have sn : ∀ a, h a = none → h' a = none := fun a n => by
    cases q : h' a with
    | none => rfl
    | some o => rw [s a o q] at n; cases n
  have px : PX Γ H h H h' := drop_px s
  refine ⟨fun a m e => ?_, Γ.st px r.g, fun a ha => ⟨sn a (r.nx a ha).1, (r.nx a ha).2⟩, r.tb⟩
  exact ro_up (fun _ q => q) px.ex (r.ob a m (s a m e))

section
variable {K : PySem.W.Frag} {H H' : Hp} {h h' : MH} {σd : DSt} {σ : L2.St}
theorem RSt.up (p : PX Γ H h H' h') (r : RSt K Γ H h σd σ) : RSt K Γ H' h' σd σ := ⟨r.1, fun i x e => let ⟨v, e1, e2⟩ := r.2 i x e; ⟨v, e1, e2.up p⟩⟩
theorem RSt.clr {i : Nat} (r : RSt K Γ H h σd σ) (o : Option V) : RSt K Γ H h (σd.set i none) (σ.set i o) := by
  refine ⟨by simp [r.1], fun j y e => ?_⟩
  by_cases q : i = j
  · subst q
    by_cases l : i < σd.length
    · rw [List.getElem?_set_self l] at e; cases e
    · rw [List.getElem?_eq_none (by simpa using l)] at e; cases e
  · rw [List.getElem?_set_ne q] at e
    obtain ⟨w, e1, e2⟩ := r.2 j y e
    exact ⟨w, by rw [List.getElem?_set_ne q]; exact e1, e2⟩
end

def lift {α β : Type} (K : PySem.W.Frag) (Γ : GI) (R : Hp → MH → α → β → Prop) (t : DSt → MH → (α → MH → Prop) → Prop) : L2.St → Hp → (β → Hp → Prop) → Prop :=
  fun σ H Q => ∃ σd h, RSt K Γ H h σd σ ∧ RM K Γ H h ∧ t σd h fun x h' => ∀ v H', PX Γ H h H' h' → R H' h' x v → RM K Γ H' h' → Q v H'
def Mono {α : Type} (t : DSt → MH → (α → MH → Prop) → Prop) : Prop := ∀ σ h (Q Q' : α → MH → Prop), (∀ x h', Q x h' → Q' x h') → t σ h Q → t σ h Q'
theorem lift_mk {α β : Type} {K : PySem.W.Frag} {R : Hp → MH → α → β → Prop} {t : DSt → MH → (α → MH → Prop) → Prop} {σd : DSt} {h : MH} {σ : L2.St} {H : Hp} {C : α → MH → Prop} {P : β → Hp → Prop} (m : Mono t)
    (rs : RSt K Γ H h σd σ) (rm : RM K Γ H h) (ht : t σd h C) (k : ∀ x h1 v H1, PX Γ H h H1 h1 → RSt K Γ H1 h1 σd σ → R H1 h1 x v → RM K Γ H1 h1 → C x h1 → P v H1) : lift K Γ R t σ H P :=
  ⟨σd, h, rs, rm, m _ _ _ _ (fun x h1 c v H1 px r1 rm1 => k x h1 v H1 px (rs.up px) r1 rm1 c) ht⟩
abbrev liftV (K : PySem.W.Frag) (Γ : GI) (t : DTE) : TE := lift K Γ (RV K Γ) t
abbrev liftB (K : PySem.W.Frag) (Γ : GI) (t : DTT) : TT := lift K Γ (fun _ _ a b => a = b) t
abbrev RVs (K : PySem.W.Frag) (Γ : GI) (H : Hp) (h : MH) : List SV → List V → Prop := Paired (RV K Γ H h)
abbrev liftA (K : PySem.W.Frag) (Γ : GI) (t : DTA) : TA := lift K Γ (RVs K Γ) t
theorem rvs_up {K : PySem.W.Frag} {H H' : Hp} {h h' : MH} (p : PX Γ H h H' h') : ∀ {xs : List SV} {vs : List V}, RVs K Γ H h xs vs → RVs K Γ H' h' xs vs
  | _, _, .nil => .nil
  | _, _, .cons r t => .cons (r.up p) (rvs_up p t)

structure DE (X : Cx) (Γ : GI) (e : Expr) (t : DTE) : Prop where
  mono : Mono t
  pe : PE X e (liftV X.K Γ t)
structure DT (X : Cx) (Γ : GI) (e : Expr) (t : DTT) : Prop where
  mono : Mono t
  pt : PT X e (liftB X.K Γ t)
structure DA (X : Cx) (Γ : GI) (es : List Expr) (t : DTA) : Prop where
  mono : Mono t
  pa : PA X es (liftA X.K Γ t)
theorem pe_imp {X : Cx} {e : Expr} {t t' : TE} (p : PE X e t) (k : ∀ σ H Q, t' σ H Q → t σ H Q) : PE X e t' := ⟨fun pins s σ H Q I w => p.run pins s σ H Q I (k σ H Q w)⟩
theorem pt_imp {X : Cx} {e : Expr} {t t' : TT} (p : PT X e t) (k : ∀ σ H Q, t' σ H Q → t σ H Q) : PT X e t' := ⟨fun pins s σ H Q I w => p.run pins s σ H Q I (k σ H Q w)⟩
theorem pw_imp {X : Cx} {e : Expr} {t t' : TT} (p : PW X e t) (k : ∀ σ H Q, t' σ H Q → t σ H Q) : PW X e t' := ⟨fun whole pins s σ H Q I w => p.run whole pins s σ H Q I (k σ H Q w)⟩
theorem pa_imp {X : Cx} {e : List Expr} {t t' : TA} (p : PA X e t) (k : ∀ σ H Q, t' σ H Q → t σ H Q) : PA X e t' := ⟨fun pos pins s σ H Q I w => p.run pos pins s σ H Q I (k σ H Q w)⟩
theorem ps_imp {X : Cx} {e : Stmt} {t t' : TS} (p : PS X e t) (k : ∀ D σ H, t' D σ H → t D σ H) : PS X e t' := ⟨fun pins s σ H D I w => p.run pins s σ H D I (k D σ H w)⟩
theorem pss_imp {X : Cx} {e : List Stmt} {t t' : TS} (p : PSs X e t) (k : ∀ D σ H, t' D σ H → t D σ H) : PSs X e t' := ⟨fun pins s σ H D I w => p.run pins s σ H D I (k D σ H w)⟩

section
variable {X : Cx} {a b c e : Expr} {pos : Pos}
def slot (σ : DSt) (i : Nat) : Option SV := match σ[i]? with
  | some o => o
  | none => none
def dVar (i : Nat) : DTE := fun σ h Q => match slot σ i with
  | some x => Q x h
  | none => False
theorem mono_var {i : Nat} : Mono (dVar i) := fun σ h Q Q' k w => by
  unfold dVar at w ⊢
  cases e : slot σ i with
  | none => rw [e] at w; exact w
  | some x => rw [e] at w; exact k _ _ w
theorem de_name {i : Nat} {x : Str} (p : PE X (.Name x pos) (tVar i)) : DE X Γ (.Name x pos) (dVar i) := by
  refine ⟨mono_var, pe_imp p fun σ H Q ⟨σd, h, rs, rm, w⟩ => ?_⟩
  unfold dVar at w
  have hs : ∀ y, slot σd i = some y → σd[i]? = some (some y) := fun y hy => by
    unfold slot at hy
    cases q : σd[i]? with
    | none => rw [q] at hy; cases hy
    | some o => rw [q] at hy; subst hy; rfl
  cases e : slot σd i with
  | none => rw [e] at w; exact w.elim
  | some y =>
    rw [e] at w
    obtain ⟨v, e1, e2⟩ := rs.2 i y (hs y e)
    exact ⟨v, e1, w v H PX.refl e2 rm⟩
theorem dv (i : Nat) {x : Str} (hN : X.N[i]? = some x := by rfl) (hv : Vis X.env.scope x := by first | exact Or.inl rfl | exact Or.inr (Or.inl rfl) | exact Or.inr (Or.inr rfl)) (hd : (x == ("__debug__" : Str)) = false := by decide)
    (hcd : (x == ("__classdict__" : Str)) = false := by decide) : DE X Γ (.Name x pos) (dVar i) := de_name (pe_var hN hv hd hcd)
def dC (x : PyData) : DTE := fun _ h Q => Q (.d x) h
theorem mono_c {x : PyData} : Mono (dC x) := fun _ _ _ _ k w => k _ _ w
theorem de_c {v : V} {x : PyData} (p : PE X e (tC v)) (r : ∀ H, Dp X.K H v x) : DE X Γ e (dC x) := ⟨mono_c, pe_imp p fun σ H Q ⟨σd, h, rs, rm, w⟩ => w v H PX.refl (r _) rm⟩
theorem de_int {i j} : DE X Γ (.Constant (.int i) j pos) (dC (.int i)) := de_c pe_int fun _ => .int i
theorem de_bl {b j} : DE X Γ (.Constant (.bool b) j pos) (dC (.bool b)) := de_c pe_bl fun _ => .bl b
theorem de_non {j} : DE X Γ (.Constant .none j pos) (dC .none) := de_c pe_non fun _ => .non
theorem de_str {x j} : DE X Γ (.Constant (.str x) j pos) (dC (.str x)) := de_c pe_str fun _ => .str x
end
end DL

namespace DL
open PySem PySem.Spec PyProof.Rows L2
set_option autoImplicit true

abbrev DR2 := SV → SV → MH → DK → Prop
structure LR2 (K : PySem.W.Frag) (Γ : GI) (r' : DR2) (r : R2) : Prop where
  mono : ∀ x y h (Q Q' : DK), (∀ z h', Q z h' → Q' z h') → r' x y h Q → r' x y h Q'
  run : ∀ x y v u H h (C : DK) (Q : VK), RV K Γ H h x v → RV K Γ H h y u → RM K Γ H h → r' x y h C → (∀ z h' w H', PX Γ H h H' h' → RV K Γ H' h' z w → RM K Γ H' h' → C z h' → Q w H') → r v u H Q
abbrev DRA := List SV → MH → DK → Prop
structure LRA (K : PySem.W.Frag) (Γ : GI) (r' : DRA) (r : List V → Hp → VK → Prop) : Prop where
  mono : ∀ xs h (Q Q' : DK), (∀ z h', Q z h' → Q' z h') → r' xs h Q → r' xs h Q'
  run : ∀ xs vs H h (C : DK) (Q : VK), RVs K Γ H h xs vs → RM K Γ H h → r' xs h C → (∀ z h' w H', PX Γ H h H' h' → RV K Γ H' h' z w → RM K Γ H' h' → C z h' → Q w H') → r vs H Q
/-- a call that gives a fresh list -/
abbrev DRF := List SV → MH → (List PyData → MH → Prop) → Prop
structure LRF (K : PySem.W.Frag) (Γ : GI) (r' : DRF) (r : List V → Hp → VK → Prop) : Prop where
  mono : ∀ xs h (Q Q' : List PyData → MH → Prop), (∀ z h', Q z h' → Q' z h') → r' xs h Q → r' xs h Q'
  run : ∀ xs vs H h (C : List PyData → MH → Prop) (Q : VK), RVs K Γ H h xs vs → RM K Γ H h → r' xs h C →
    (∀ ds h' ws H' p, PX Γ H h H' h' → DpAll K (Fz Γ H' h') ws ds → RM K Γ H' h' → C ds h' → H' p = none → Q (.ref p) (upd H' p (.lst ws))) → r vs H Q

/-- an expression that gives a fresh list -/
def liftF (K : PySem.W.Frag) (Γ : GI) (t : DTF) : TE := fun σ H Q => ∃ σd h, RSt K Γ H h σd σ ∧ RM K Γ H h ∧ t σd h fun ds h' => ∀ ws H' p, PX Γ H h H' h' → DpAll K (Fz Γ H' h') ws ds → RM K Γ H' h' → H' p = none → Q (.ref p) (upd H' p (.lst ws))
structure DF (X : Cx) (Γ : GI) (e : Expr) (t : DTF) : Prop where
  mono : Mono t
  pe : PE X e (liftF X.K Γ t)
def dL (t : DTF) : DTE := fun σ h Q => t σ h fun ds h' => Q (.d (.list ds)) h'
theorem mono_L {t : DTF} (m : Mono t) : Mono (dL t) := fun σ h Q Q' k w => m σ h _ _ (fun ds h' q => k _ _ q) w
/-- a new list, not one's own -/
theorem new_list {K : PySem.W.Frag} {H : Hp} {h : MH} {p : Addr} {ws : List V} {ds : List PyData} (n : H p = none) (rm : RM K Γ H h) (hd : DpAll K (Fz Γ H h) ws ds) :
    PX Γ H h (upd H p (.lst ws)) h ∧ RM K Γ (upd H p (.lst ws)) h ∧ RV K Γ (upd H p (.lst ws)) h (.d (.list ds)) (.ref p) :=
  ⟨rm.px n, RM.new n rm, Dp.lst (SqL.of (Fz.of upd_same (rm.tracked n) (rm.notx n))) (dps_up (rm.px n).ex _ _ hd)⟩
theorem new_tup {K : PySem.W.Frag} {H : Hp} {h : MH} {p : Addr} {ws : List V} {ds : List PyData} (n : H p = none) (rm : RM K Γ H h) (hd : DpAll K (Fz Γ H h) ws ds) :
    PX Γ H h (upd H p (.tup ws)) h ∧ RM K Γ (upd H p (.tup ws)) h ∧ RV K Γ (upd H p (.tup ws)) h (.d (.tuple ds)) (.ref p) :=
  ⟨rm.px n, RM.new n rm, Dp.tup (SqT.of (Fz.of upd_same (rm.tracked n) (rm.notx n))) (dps_up (rm.px n).ex _ _ hd)⟩
theorem DF.toDE {X : Cx} {e : Expr} {t : DTF} (f : DF X Γ e t) : DE X Γ e (dL t) :=
  ⟨mono_L f.mono, pe_imp f.pe fun σ H Q ⟨σd, h, rs, rm, w⟩ => ⟨σd, h, rs, rm, f.mono _ _ _ _ (fun ds h' q ws H' p px hd rm' n => by
    obtain ⟨p1, r1, v1⟩ := new_list n rm' hd
    exact q _ _ (px.trans p1) v1 r1) w⟩⟩

section
variable {X : Cx} {a b c e : Expr} {pos : Pos} {ta tb tc : DTE}
def dOp (r : DR2) (ta tb : DTE) : DTE := fun σ h Q => ta σ h fun x h1 => tb σ h1 fun y h2 => r x y h2 Q
theorem mono_op {r : DR2} (m : ∀ x y h (Q Q' : DK), (∀ z h', Q z h' → Q' z h') → r x y h Q → r x y h Q') (ma : Mono ta) (mb : Mono tb) : Mono (dOp r ta tb) :=
  fun σ h Q Q' k w => ma _ _ _ _ (fun x h1 w1 => mb _ _ _ _ (fun y h2 w2 => m _ _ _ _ _ k w2) w1) w
theorem op_lift {K : PySem.W.Frag} {r' : DR2} {r : R2} (l : LR2 K Γ r' r) (ma : Mono ta) (mb : Mono tb) : ∀ σ H Q, liftV K Γ (dOp r' ta tb) σ H Q → tOp r (liftV K Γ ta) (liftV K Γ tb) σ H Q := fun σ H Q ⟨σd, h, rs, rm, w⟩ =>
  lift_mk ma rs rm w fun x h1 v H1 px rs1 rv rm1 w1 => lift_mk mb rs1 rm1 w1 fun y h2 u H2 px2 rs2 ru rm2 w2 =>
    l.run x y v u H2 h2 _ Q (rv.up px2) ru rm2 w2 fun z h3 w' H3 px3 rz rm3 q => q w' H3 ((px.trans px2).trans px3) rz rm3
theorem de_bin {op : Operator} {r' : DR2} {r : R2} (ho : OpR X (binaryOp op) r) (l : LR2 X.K Γ r' r) (ha : DE X Γ a ta) (hb : DE X Γ b tb) : DE X Γ (.BinOp a op b pos) (dOp r' ta tb) :=
  ⟨mono_op l.mono ha.mono hb.mono, pe_imp (pe_op ho ha.pe hb.pe) (op_lift l ha.mono hb.mono)⟩
theorem de_cmp {op : CmpOp} {r' : DR2} {r : R2} (ho : OpR X (compareOp op) r) (l : LR2 X.K Γ r' r) (ha : DE X Γ a ta) (hb : DE X Γ b tb) (hm : behindInMarks op b = false := by first | exact nomark _ | rfl) : DE X Γ (.Compare a [op] [b] pos) (dOp r' ta tb) :=
  ⟨mono_op l.mono ha.mono hb.mono, pe_imp (pe_cmpR ho ha.pe hb.pe hm) (op_lift l ha.mono hb.mono)⟩
def dTest (t : DTE) : DTT := fun σ h Q => t σ h fun x h1 => match x with
  | .d (.bool k) => Q k h1
  | _ => False
theorem mono_test {t : DTE} (m : Mono t) : Mono (dTest t) := fun σ h Q Q' k w => m _ _ _ _ (fun x h1 w1 => by
  cases x with
  | own a => exact w1
  | d x => cases x <;> first | exact w1 | exact k _ _ w1) w
theorem test_lift {K : PySem.W.Frag} {t : DTE} (m : Mono t) : ∀ σ H Q, liftB K Γ (dTest t) σ H Q → tTest (liftV K Γ t) σ H Q := fun σ H Q ⟨σd, h, rs, rm, w⟩ =>
  lift_mk m rs rm w fun x h1 v H1 px rs1 rv rm1 w1 => by
    cases x with
    | own a => exact w1.elim
    | d x => cases x with
      | bool k => cases rv; exact ⟨k, rfl, w1 k H1 px rfl rm1⟩
      | _ => exact w1.elim
theorem dt_cmp {op : CmpOp} {r' : DR2} {r : R2} (ho : OpR X (compareOp op) r) (l : LR2 X.K Γ r' r) (ha : DE X Γ a ta) (hb : DE X Γ b tb) (hm : behindInMarks op b = false := by first | exact nomark _ | rfl) : DT X Γ (.Compare a [op] [b] pos) (dTest (dOp r' ta tb)) :=
  ⟨mono_test (mono_op l.mono ha.mono hb.mono), pt_imp (pt_cmpR ho ha.pe hb.pe hm) fun σ H Q w => by
    obtain ⟨σd, h, rs, rm, w⟩ := test_lift (mono_op l.mono ha.mono hb.mono) σ H Q w
    exact op_lift l ha.mono hb.mono σ H _ ⟨σd, h, rs, rm, w⟩⟩
/-- a bool as a test -/
theorem dt_val {t : DTE} (h : DE X Γ e t) (he : ∀ whole, isTrue e X.env whole = (do let v ← whole; standAt e.pos; holding [v] (truthy v)) := by intro _; rfl) : DT X Γ e (dTest t) :=
  ⟨mono_test h.mono, pt_imp (pt_val h.pe he) fun σ H Q w => test_lift h.mono σ H Q w⟩

def dAnd (t u : DTT) : DTT := fun σ h Q => t σ h fun c h1 => if c = true then u σ h1 Q else Q false h1
def dOr (t u : DTT) : DTT := fun σ h Q => t σ h fun c h1 => if c = true then Q true h1 else u σ h1 Q
def dNot (t : DTT) : DTT := fun σ h Q => t σ h fun c h1 => Q (!c) h1
/-- .. as values of truths -/
def dAndV (ta tb : DTE) : DTE := fun σ h Q => ta σ h fun x h1 => match x with
  | .d (.bool c) => if c = true then tb σ h1 Q else Q (.d (.bool false)) h1
  | _ => False
def dOrV (ta tb : DTE) : DTE := fun σ h Q => ta σ h fun x h1 => match x with
  | .d (.bool c) => if c = true then Q (.d (.bool true)) h1 else tb σ h1 Q
  | _ => False
def dNotV (ta : DTE) : DTE := fun σ h Q => ta σ h fun x h1 => match x with
  | .d (.bool c) => Q (.d (.bool (!c))) h1
  | _ => False
def dIf (t : DTT) (ta tb : DTE) : DTE := fun σ h Q => t σ h fun c h1 => if c = true then ta σ h1 Q else tb σ h1 Q
theorem mono_and {t u : DTT} (mt : Mono t) (mu : Mono u) : Mono (dAnd t u) := fun σ h Q Q' k w => mt _ _ _ _ (fun c h1 w1 => by
  cases c with
  | true => exact mu _ _ _ _ k w1
  | false => exact k _ _ w1) w
theorem mono_or {t u : DTT} (mt : Mono t) (mu : Mono u) : Mono (dOr t u) := fun σ h Q Q' k w => mt _ _ _ _ (fun c h1 w1 => by
  cases c with
  | true => exact k _ _ w1
  | false => exact mu _ _ _ _ k w1) w
theorem mono_not {t : DTT} (mt : Mono t) : Mono (dNot t) := fun σ h Q Q' k w => mt _ _ _ _ (fun c h1 w1 => k _ _ w1) w
theorem mono_if {t : DTT} (mt : Mono t) (ma : Mono ta) (mb : Mono tb) : Mono (dIf t ta tb) := fun σ h Q Q' k w => mt _ _ _ _ (fun c h1 w1 => by
  cases c with
  | true => exact ma _ _ _ _ k w1
  | false => exact mb _ _ _ _ k w1) w
theorem mono_andV (ma : Mono ta) (mb : Mono tb) : Mono (dAndV ta tb) := fun σ h Q Q' k w => ma _ _ _ _ (fun x h1 w1 => by
  cases x with
  | own a => exact w1
  | d x => cases x with
    | bool c => cases c with
      | true => exact mb _ _ _ _ k w1
      | false => exact k _ _ w1
    | _ => exact w1) w
theorem mono_notV (ma : Mono ta) : Mono (dNotV ta) := fun σ h Q Q' k w => ma _ _ _ _ (fun x h1 w1 => by
  cases x with
  | own a => exact w1
  | d x => cases x with
    | bool c => exact k _ _ w1
    | _ => exact w1) w
structure DW (X : Cx) (Γ : GI) (e : Expr) (t : DTT) : Prop where
  mono : Mono t
  pw : PW X e (liftB X.K Γ t)
theorem DW.dt {t : DTT} (h : DW X Γ e t) : DT X Γ e t := ⟨h.mono, h.pw.pt⟩
variable {t u : DTT} {rest : List Expr}
theorem dw_and1 (ha : DT X Γ a t) : DW X Γ (.BoolOp .And [a] pos) t := ⟨ha.mono, pw_and1 ha.pt⟩
theorem dw_or1 (ha : DT X Γ a t) : DW X Γ (.BoolOp .Or [a] pos) t := ⟨ha.mono, pw_or1 ha.pt⟩
theorem dw_and (ha : DT X Γ a t) (hb : DW X Γ (.BoolOp .And (b :: rest) pos) u) : DW X Γ (.BoolOp .And (a :: b :: rest) pos) (dAnd t u) :=
  ⟨mono_and ha.mono hb.mono, pw_imp (pw_and ha.pt hb.pw) fun σ H Q ⟨σd, h, rs, rm, w⟩ => lift_mk ha.mono rs rm w fun c h1 k H1 px rs1 rv rm1 w1 => by
    subst rv
    cases c with
    | true => exact iteT (lift_mk hb.mono rs1 rm1 w1 fun c2 h2 k2 H2 px2 _ rv2 rm2 w2 => by subst rv2; exact w2 _ _ (px.trans px2) rfl rm2)
    | false => exact iteF (w1 _ _ px rfl rm1)⟩
theorem dw_or (ha : DT X Γ a t) (hb : DW X Γ (.BoolOp .Or (b :: rest) pos) u) : DW X Γ (.BoolOp .Or (a :: b :: rest) pos) (dOr t u) :=
  ⟨mono_or ha.mono hb.mono, pw_imp (pw_or ha.pt hb.pw) fun σ H Q ⟨σd, h, rs, rm, w⟩ => lift_mk ha.mono rs rm w fun c h1 k H1 px rs1 rv rm1 w1 => by
    subst rv
    cases c with
    | true => exact iteT (w1 _ _ px rfl rm1)
    | false => exact iteF (lift_mk hb.mono rs1 rm1 w1 fun c2 h2 k2 H2 px2 _ rv2 rm2 w2 => by subst rv2; exact w2 _ _ (px.trans px2) rfl rm2)⟩
theorem dt_not (ha : DT X Γ a t) : DT X Γ (.UnaryOp .Not a pos) (dNot t) :=
  ⟨mono_not ha.mono, pt_imp (pt_not ha.pt) fun σ H Q ⟨σd, h, rs, rm, w⟩ => lift_mk ha.mono rs rm w fun c h1 k H1 px rs1 rv rm1 w1 => by subst rv; exact w1 _ _ px rfl rm1⟩
theorem de_ifExp {c : Expr} (hc : DT X Γ c t) (ha : DE X Γ a ta) (hb : DE X Γ b tb) : DE X Γ (.IfExp c a b pos) (dIf t ta tb) :=
  ⟨mono_if hc.mono ha.mono hb.mono, pe_imp (pe_ifExp hc.pt ha.pe hb.pe) fun σ H Q ⟨σd, h, rs, rm, w⟩ => lift_mk hc.mono rs rm w fun c h1 k H1 px rs1 rv rm1 w1 => by
    subst rv
    cases c with
    | true => exact iteT (lift_mk ha.mono rs1 rm1 w1 fun x h2 v H2 px2 _ rv2 rm2 w2 => w2 _ _ (px.trans px2) rv2 rm2)
    | false => exact iteF (lift_mk hb.mono rs1 rm1 w1 fun x h2 v H2 px2 _ rv2 rm2 w2 => w2 _ _ (px.trans px2) rv2 rm2)⟩
theorem de_one {op} {t : DTE} (h : DE X Γ a t) : DE X Γ (.BoolOp op [a] pos) t := ⟨h.mono, pe_one h.pe⟩
theorem de_and (ha : DE X Γ a ta) (hb : DE X Γ (.BoolOp .And (b :: rest) pos) tb) : DE X Γ (.BoolOp .And (a :: b :: rest) pos) (dAndV ta tb) :=
  ⟨mono_andV ha.mono hb.mono, pe_imp (pe_and ha.pe hb.pe) fun σ H Q ⟨σd, h, rs, rm, w⟩ => lift_mk ha.mono rs rm w fun x h1 v H1 px rs1 rv rm1 w1 => by
    cases x with
    | own a => exact w1.elim
    | d x => cases x with
      | bool c =>
        cases rv
        refine ⟨c, rfl, ?_⟩
        cases c with
        | true => exact iteT (lift_mk hb.mono rs1 rm1 w1 fun x h2 v H2 px2 _ rv2 rm2 w2 => w2 _ _ (px.trans px2) rv2 rm2)
        | false => exact iteF (w1 _ _ px (Dp.bl false) rm1)
      | _ => exact w1.elim⟩
theorem de_not (ha : DE X Γ a ta) : DE X Γ (.UnaryOp .Not a pos) (dNotV ta) :=
  ⟨mono_notV ha.mono, pe_imp (pe_not ha.pe) fun σ H Q ⟨σd, h, rs, rm, w⟩ => lift_mk ha.mono rs rm w fun x h1 v H1 px rs1 rv rm1 w1 => by
    cases x with
    | own a => exact w1.elim
    | d x => cases x with
      | bool c =>
        cases rv
        exact ⟨c, rfl, w1 _ _ px (Dp.bl (!c)) rm1⟩
      | _ => exact w1.elim⟩
end

def asL (h : MH) : SV → Option (List PyData)
  | .d (.list xs) => some xs
  | .own a => match h a with
    | some (.lst xs) => some xs
    | _ => none
  | _ => none
def asT : SV → Option (List PyData)
  | .d (.tuple xs) => some xs
  | _ => none
theorem asL_ok {K : PySem.W.Frag} {H : Hp} {h : MH} {x : SV} {v : V} {xs : List PyData} (rv : RV K Γ H h x v) (rm : RM K Γ H h) (e : asL h x = some xs) : ∃ a vs, v = .ref a ∧ SqL K H a vs ∧ DpAll K (Fz Γ H h) vs xs := by
  cases x with
  | own a =>
    cases q : h a with
    | none => simp only [asL, q] at e; cases e
    | some m =>
      cases m with
      | lst ys =>
        simp only [asL, q] at e; cases e
        obtain ⟨vs, e1, e2⟩ := rm.ob a _ q
        exact ⟨a, vs, rv, SqL.of e1, e2⟩
      | _ => simp only [asL, q] at e; cases e
  | d x =>
    cases x with
    | list ys =>
      cases e
      have rv' : Dp K (Fz Γ H h) v (.list xs) := rv
      cases rv' with
      | lst h1 h2 => exact ⟨_, _, rfl, sqL_up fz_sub h1, h2⟩
    | _ => cases e
theorem asT_ok {K : PySem.W.Frag} {H : Hp} {h : MH} {x : SV} {v : V} {xs : List PyData} (rv : RV K Γ H h x v) (e : asT x = some xs) : ∃ a vs, v = .ref a ∧ SqT K H a vs ∧ DpAll K (Fz Γ H h) vs xs := by
  cases x with
  | own a => cases e
  | d x =>
    cases x with
    | tuple ys =>
      cases e
      have rv' : Dp K (Fz Γ H h) v (.tuple xs) := rv
      cases rv' with
      | tup h1 h2 => exact ⟨_, _, rfl, sqT_up fz_sub h1, h2⟩
    | _ => cases e
def asQ (h : MH) (x : SV) : Option (List PyData) := match asL h x with
  | some xs => some xs
  | none => asT x
theorem asQ_ok {K : PySem.W.Frag} {H : Hp} {h : MH} {x : SV} {v : V} {xs : List PyData} (rv : RV K Γ H h x v) (rm : RM K Γ H h) (e : asQ h x = some xs) : ∃ a vs, v = .ref a ∧ (SqL K H a vs ∨ SqT K H a vs) ∧ DpAll K (Fz Γ H h) vs xs := by
  unfold asQ at e
  cases q : asL h x with
  | some ys =>
    rw [q] at e; cases e
    obtain ⟨a, vs, h1, h2, h3⟩ := asL_ok rv rm q
    exact ⟨a, vs, h1, .inl h2, h3⟩
  | none =>
    rw [q] at e
    obtain ⟨a, vs, h1, h2, h3⟩ := asT_ok rv e
    exact ⟨a, vs, h1, .inr h2, h3⟩

def mdrop (h : MH) (a : Addr) : MH := fun b => if b = a then none else h b
def fz1 (x : SV) (h : MH) : Option (PyData × MH) := match x with
  | .d d => some (d, h)
  | .own a => match h a with
    | some (.lst xs) => some (.list xs, mdrop h a)
    | _ => none
theorem mdrop_px {H : Hp} {h : MH} {a : Addr} : PX Γ H h H (mdrop h a) := drop_px fun b o e => by
  unfold mdrop at e
  split at e
  · cases e
  · exact e
theorem mdrop_rm {K : PySem.W.Frag} {H : Hp} {h : MH} {a : Addr} (r : RM K Γ H h) : RM K Γ H (mdrop h a) := drop_rm (fun b o e => by
  unfold mdrop at e
  split at e
  · cases e
  · exact e) r
theorem fz1_ok {K : PySem.W.Frag} {H : Hp} {h h' : MH} {x : SV} {v : V} {d : PyData} (rv : RV K Γ H h x v) (rm : RM K Γ H h) (e : fz1 x h = some (d, h')) : PX Γ H h H h' ∧ RM K Γ H h' ∧ Dp K (Fz Γ H h') v d := by
  cases x with
  | d y => cases e; exact ⟨PX.refl, rm, rv⟩
  | own a =>
    unfold fz1 at e
    cases q : h a with
    | none => simp only [q] at e; cases e
    | some m =>
      cases m with
      | lst xs =>
        simp only [q] at e
        cases e
        obtain ⟨vs, e1, e2⟩ := rm.ob a _ q
        have rv' : v = .ref a := rv
        subst rv'
        exact ⟨mdrop_px, mdrop_rm rm, Dp.lst (SqL.of (Fz.of e1 (if_pos rfl) (rm.ownx q))) (dps_up mdrop_px.ex _ _ e2)⟩
      | _ => simp only [q] at e; cases e
def fzs : List SV → MH → Option (List PyData × MH)
  | [], h => some ([], h)
  | x :: r, h => match fz1 x h with
    | some (d, h1) => match fzs r h1 with
      | some (ds, h2) => some (d :: ds, h2)
      | none => none
    | none => none
theorem fzs_ok {K : PySem.W.Frag} {H : Hp} : ∀ {xs : List SV} {vs : List V} {h h' : MH} {ds : List PyData}, RVs K Γ H h xs vs → RM K Γ H h → fzs xs h = some (ds, h') → PX Γ H h H h' ∧ RM K Γ H h' ∧ DpAll K (Fz Γ H h') vs ds
  | [], _, _, _, _, r, rm, e => by cases r; cases e; exact ⟨PX.refl, rm, .nil⟩
  | x :: r, _, h, h', ds, rr, rm, e => by
    cases rr with
    | cons r1 r2 =>
      unfold fzs at e
      cases q1 : fz1 x h with
      | none => rw [q1] at e; cases e
      | some p =>
        obtain ⟨d, h1⟩ := p
        rw [q1] at e
        simp only at e
        cases q2 : fzs r h1 with
        | none => rw [q2] at e; cases e
        | some p2 =>
          obtain ⟨ds2, h2⟩ := p2
          rw [q2] at e
          cases e
          obtain ⟨p1, rm1, d1⟩ := fz1_ok r1 rm q1
          obtain ⟨p2, rm2, d2⟩ := fzs_ok (rvs_up p1 r2) rm1 q2
          exact ⟨p1.trans p2, rm2, .cons (dp_up p2.ex _ _ d1) d2⟩

section
variable {X : Cx} {a b c e : Expr} {pos : Pos} {ta tb tc te : DTE} {t : DTA} {es : List Expr}
def dNil : DTA := fun _ h Q => Q [] h
def dCons (ta : DTE) (tr : DTA) : DTA := fun σ h Q => ta σ h fun x h1 => tr σ h1 fun xs h2 => Q (x :: xs) h2
theorem da_nil : DA X Γ [] dNil := ⟨fun _ _ _ _ k w => k _ _ w, pa_imp pa_nil fun σ H Q ⟨σd, h, rs, rm, w⟩ => w _ _ PX.refl .nil rm⟩
theorem mono_cons (ma : Mono ta) (mr : Mono t) : Mono (dCons ta t) := fun σ h Q Q' k w => ma _ _ _ _ (fun x h1 w1 => mr _ _ _ _ (fun xs h2 w2 => k _ _ w2) w1) w
theorem da_cons (ha : DE X Γ e te) (hr : DA X Γ es t) (hs : starEach (e :: es) X.env = (false, eval e X.env) :: starEach es X.env := by rfl) : DA X Γ (e :: es) (dCons te t) :=
  ⟨mono_cons ha.mono hr.mono, pa_imp (pa_cons ha.pe hr.pa hs) fun σ H Q ⟨σd, h, rs, rm, w⟩ =>
    lift_mk ha.mono rs rm w fun x h1 v H1 px rs1 rv rm1 w1 => lift_mk hr.mono rs1 rm1 w1 fun xs h2 vs H2 px2 rs2 rvs rm2 w2 =>
      w2 _ _ (px.trans px2) (.cons (rv.up px2) rvs) rm2⟩
def dTup (t : DTA) : DTE := fun σ h Q => t σ h fun xs h1 => match fzs xs h1 with
  | some (ds, h2) => ds.length ≤ sizeLine ∧ Q (.d (.tuple ds)) h2
  | none => False
def fLst (t : DTA) : DTF := fun σ h Q => t σ h fun xs h1 => match fzs xs h1 with
  | some (ds, h2) => ds.length ≤ sizeLine ∧ Q ds h2
  | none => False
theorem mono_tup (m : Mono t) : Mono (dTup t) := fun σ h Q Q' k w => m _ _ _ _ (fun xs h1 w1 => by
  cases q : fzs xs h1 with
  | none => rw [q] at w1; exact w1
  | some p => obtain ⟨ds, h2⟩ := p; rw [q] at w1; exact ⟨w1.1, k _ _ w1.2⟩) w
theorem mono_fLst (m : Mono t) : Mono (fLst t) := fun σ h Q Q' k w => m _ _ _ _ (fun xs h1 w1 => by
  cases q : fzs xs h1 with
  | none => rw [q] at w1; exact w1
  | some p => obtain ⟨ds, h2⟩ := p; rw [q] at w1; exact ⟨w1.1, k _ _ w1.2⟩) w
theorem de_tup {x1} (ha : DA X Γ es t) : DE X Γ (.Tuple es x1 pos) (dTup t) :=
  ⟨mono_tup ha.mono, pe_imp (pe_tup ha.pa) fun σ H Q ⟨σd, h, rs, rm, w⟩ => lift_mk ha.mono rs rm w fun xs h1 vs H1 px rs1 rvs rm1 w1 => by
    cases q : fzs xs h1 with
    | none => rw [q] at w1; exact w1.elim
    | some p =>
      obtain ⟨ds, h2⟩ := p
      rw [q] at w1
      obtain ⟨p1, rm2, dd⟩ := fzs_ok rvs rm1 q
      refine ⟨by rw [dps_len dd]; exact w1.1, fun p hp => ?_⟩
      obtain ⟨p2, rm3, rv3⟩ := new_tup hp rm2 dd
      exact w1.2 _ _ ((px.trans p1).trans p2) rv3 rm3⟩
theorem df_lst (ha : DA X Γ es t) : DF X Γ (.List es pos) (fLst t) :=
  ⟨mono_fLst ha.mono, pe_imp (pe_lst ha.pa) fun σ H Q ⟨σd, h, rs, rm, w⟩ => lift_mk ha.mono rs rm w fun xs h1 vs H1 px rs1 rvs rm1 w1 => by
    cases q : fzs xs h1 with
    | none => rw [q] at w1; exact w1.elim
    | some p =>
      obtain ⟨ds, h2⟩ := p
      rw [q] at w1
      obtain ⟨p1, rm2, dd⟩ := fzs_ok rvs rm1 q
      exact ⟨by rw [dps_len dd]; exact w1.1, fun p hp => w1.2 _ _ _ (px.trans p1) dd rm2 hp⟩⟩
/-- f(e, ..) of a builtin -/
def dB (r : DRA) (t : DTA) : DTE := fun σ h Q => t σ h fun xs h1 => r xs h1 Q
def fB (r : DRF) (t : DTA) : DTF := fun σ h Q => t σ h fun xs h1 => r xs h1 Q
theorem mono_B {r : DRA} (mr : ∀ xs h (Q Q' : DK), (∀ z h', Q z h' → Q' z h') → r xs h Q → r xs h Q') (m : Mono t) : Mono (dB r t) := fun σ h Q Q' k w => m _ _ _ _ (fun xs h1 w1 => mr _ _ _ _ k w1) w
theorem mono_FB {r : DRF} (mr : ∀ xs h (Q Q' : List PyData → MH → Prop), (∀ z h', Q z h' → Q' z h') → r xs h Q → r xs h Q') (m : Mono t) : Mono (fB r t) := fun σ h Q Q' k w => m _ _ _ _ (fun xs h1 w1 => mr _ _ _ _ k w1) w
theorem B_lift {K : PySem.W.Frag} {r' : DRA} {r : List V → Hp → VK → Prop} (l : LRA K Γ r' r) (m : Mono t) : ∀ σ H Q, liftV K Γ (dB r' t) σ H Q → tCB r (liftA K Γ t) σ H Q := fun σ H Q ⟨σd, h, rs, rm, w⟩ =>
  lift_mk m rs rm w fun xs h1 vs H1 px rs1 rvs rm1 w1 => l.run xs vs H1 h1 _ Q rvs rm1 w1 fun z h2 w' H2 px2 rz rm2 q => q w' H2 (px.trans px2) rz rm2
theorem FB_lift {K : PySem.W.Frag} {r' : DRF} {r : List V → Hp → VK → Prop} (l : LRF K Γ r' r) (m : Mono t) : ∀ σ H Q, liftF K Γ (fB r' t) σ H Q → tCB r (liftA K Γ t) σ H Q := fun σ H Q ⟨σd, h, rs, rm, w⟩ =>
  lift_mk m rs rm w fun xs h1 vs H1 px rs1 rvs rm1 w1 => l.run xs vs H1 h1 _ Q rvs rm1 w1 fun z h2 w' H2 p px2 rz rm2 q n => q w' H2 p (px.trans px2) rz rm2 n
variable {x : Str} {p : Pos} {id T : String} {r : List V → Hp → VK → Prop}
theorem de_callB {r' : DRA} (hc : CallR X (.builtin id) r) (l : LRA X.K Γ r' r) (hg : Gl X x) (hm : X.mg x = none) (hv : bootBuiltins x = some (.builtin id)) (ha : DA X Γ (e :: es) t) (hn : x ≠ "__name__" := by decide) (hdb : (x == ("__debug__" : Str)) = false := by decide)
    (he : starEach (e :: es) X.env = (false, eval e X.env) :: starEach es X.env := by rfl) (hpl : (backTo pos (starEach es X.env)).any (·.1) = false := by rfl) : DE X Γ (.Call (.Name x p) (e :: es) [] pos) (dB r' t) :=
  ⟨mono_B l.mono ha.mono, pe_imp (pe_callB hc hg hm hv ha.pa hn hdb he hpl) (B_lift l ha.mono)⟩
theorem de_callTy {r' : DRA} (hc : CallR X (.type T) r) (l : LRA X.K Γ r' r) (hg : Gl X x) (hm : X.mg x = none) (hv : bootBuiltins x = some (.type T)) (ha : DA X Γ (e :: es) t) (hn : x ≠ "__name__" := by decide) (hdb : (x == ("__debug__" : Str)) = false := by decide)
    (he : starEach (e :: es) X.env = (false, eval e X.env) :: starEach es X.env := by rfl) (hpl : (backTo pos (starEach es X.env)).any (·.1) = false := by rfl) : DE X Γ (.Call (.Name x p) (e :: es) [] pos) (dB r' t) :=
  ⟨mono_B l.mono ha.mono, pe_imp (pe_callTy hc hg hm hv ha.pa hn hdb he hpl) (B_lift l ha.mono)⟩
theorem df_callTy {r' : DRF} (hc : CallR X (.type T) r) (l : LRF X.K Γ r' r) (hg : Gl X x) (hm : X.mg x = none) (hv : bootBuiltins x = some (.type T)) (ha : DA X Γ (e :: es) t) (hn : x ≠ "__name__" := by decide) (hdb : (x == ("__debug__" : Str)) = false := by decide)
    (he : starEach (e :: es) X.env = (false, eval e X.env) :: starEach es X.env := by rfl) (hpl : (backTo pos (starEach es X.env)).any (·.1) = false := by rfl) : DF X Γ (.Call (.Name x p) (e :: es) [] pos) (fB r' t) :=
  ⟨mono_FB l.mono ha.mono, pe_imp (pe_callTy hc hg hm hv ha.pa hn hdb he hpl) (FB_lift l ha.mono)⟩
end
end DL

namespace DL
open PySem PySem.Spec PyProof.Rows L2
set_option autoImplicit true

def asInt : SV → Option Int
  | .d (.int i) => some i
  | _ => none
def asStr : SV → Option Str
  | .d (.str i) => some i
  | _ => none
def asBool : SV → Option Bool
  | .d (.bool i) => some i
  | _ => none
section
variable {K : PySem.W.Frag} {H : Hp} {h : MH} {x y : SV} {v : V}
theorem asInt_ok {i : Int} (r : RV K Γ H h x v) (e : asInt x = some i) : v = .int i := by
  cases x with
  | own a => cases e
  | d x => cases x with
    | int j => cases e; have r' : Dp K (Fz Γ H h) v (.int i) := r; cases r'; rfl
    | _ => cases e
theorem asStr_ok {i : Str} (r : RV K Γ H h x v) (e : asStr x = some i) : v = .str i := by
  cases x with
  | own a => cases e
  | d x => cases x with
    | str j => cases e; have r' : Dp K (Fz Γ H h) v (.str i) := r; cases r'; rfl
    | _ => cases e
theorem asBool_ok {i : Bool} (r : RV K Γ H h x v) (e : asBool x = some i) : v = .bl i := by
  cases x with
  | own a => cases e
  | d x => cases x with
    | bool j => cases e; have r' : Dp K (Fz Γ H h) v (.bool i) := r; cases r'; rfl
    | _ => cases e
theorem rv_int {i : Int} : RV K Γ H h (.d (.int i)) (.int i) := Dp.int i
theorem rv_bl {i : Bool} : RV K Γ H h (.d (.bool i)) (.bl i) := Dp.bl i
theorem rv_str {i : Str} : RV K Γ H h (.d (.str i)) (.str i) := Dp.str i
theorem rv_non : RV K Γ H h (.d .none) .non := Dp.non
end

def rdI (C : Int → Int → Prop) (g : Int → Int → PyData) : DR2 := fun x y h Q => match asInt x, asInt y with
  | some i, some j => C i j ∧ Q (.d (g i j)) h
  | _, _ => False
def rdI0 (g : Int → Int → PyData) : DR2 := fun x y h Q => match asInt x, asInt y with
  | some i, some j => Q (.d (g i j)) h
  | _, _ => False
section
variable {K : PySem.W.Frag}
theorem lr_I {C : Int → Int → Prop} {g : Int → Int → V} {gd : Int → Int → PyData} (hg : ∀ i j H, Dp K H (g i j) (gd i j)) : LR2 K Γ (rdI C gd) (rI C g) := by
  refine ⟨fun x y h Q Q' k w => ?_, fun x y v u H h C' Q rv ru rm w k => ?_⟩
  · unfold rdI at w ⊢
    split at w
    · exact ⟨w.1, k _ _ w.2⟩
    · exact w
  · unfold rdI at w
    split at w
    · rename_i i j e1 e2
      exact ⟨i, j, asInt_ok rv e1, asInt_ok ru e2, w.1, k (.d (gd i j)) _ _ H PX.refl (hg i j _) rm w.2⟩
    · exact w.elim
theorem lr_I0 {g : Int → Int → V} {gd : Int → Int → PyData} (hg : ∀ i j H, Dp K H (g i j) (gd i j)) : LR2 K Γ (rdI0 gd) (rI0 g) := by
  refine ⟨fun x y h Q Q' k w => ?_, fun x y v u H h C' Q rv ru rm w k => ?_⟩
  · unfold rdI0 at w ⊢
    split at w
    · exact k _ _ w
    · exact w
  · unfold rdI0 at w
    split at w
    · rename_i i j e1 e2
      exact ⟨i, j, asInt_ok rv e1, asInt_ok ru e2, k (.d (gd i j)) _ _ H PX.refl (hg i j _) rm w⟩
    · exact w.elim
abbrev rdSub : DR2 := rdI0 fun i j => .int (i - j)
abbrev rdDiv : DR2 := rdI CDivN fun i j => .int (i.fdiv j)
abbrev rdMod : DR2 := rdI (fun _ j => j ≠ 0) fun i j => .int (i.fmod j)
abbrev rdPow : DR2 := rdI CPow fun i j => .int (i ^ j.toNat)
/-- of two tuples of ints: by the first pair that differs, else by their lengths -/
def cmpT (r : Int → Int → Bool) (z : Bool) : List Int → List Int → Bool
  | x :: xs, y :: ys => if x = y then cmpT r z xs ys else r x y
  | [], _ => z
  | _ :: _, [] => z
def intsD : List PyData → Option (List Int)
  | [] => some []
  | .int i :: r => match intsD r with
    | some ns => some (i :: ns)
    | none => none
  | _ => none
def tupI : SV → Option (List Int)
  | .d (.tuple ds) => intsD ds
  | _ => none
def rdCmp (g : Int → Int → Bool) (z : Nat → Nat → Bool) : DR2 := fun x y h Q => match asInt x, asInt y with
  | some i, some j => Q (.d (.bool (g i j))) h
  | _, _ => match tupI x, tupI y with
    | some ns, some ms => Q (.d (.bool (cmpT g (z ns.length ms.length) ns ms))) h
    | _, _ => False
abbrev rdLt : DR2 := rdCmp (fun i j => decide (i < j)) (fun n m => decide (n < m))
abbrev rdLe : DR2 := rdCmp (fun i j => decide (i ≤ j)) (fun n m => decide (n ≤ m))
abbrev rdGt : DR2 := rdCmp (fun i j => decide (j < i)) (fun n m => decide (n > m))
abbrev rdGe : DR2 := rdCmp (fun i j => decide (j ≤ i)) (fun n m => decide (n ≥ m))
theorem lexAt_shift {e r : Nat → Bool} {z : Bool} : ∀ k i, Ob.lexAt e r z (i + 1) k = Ob.lexAt (fun j => e (j + 1)) (fun j => r (j + 1)) z i k
  | 0, _ => rfl
  | k + 1, i => by rw [Ob.lexAt_succ, Ob.lexAt_succ, lexAt_shift k (i + 1)]
theorem lex_cmp {r : Int → Int → Bool} {z : Bool} : ∀ ns ms : List Int, Ob.lexAt (fun j => decide (ns.getD j 0 = ms.getD j 0)) (fun j => r (ns.getD j 0) (ms.getD j 0)) z 0 (min ns.length ms.length) = cmpT r z ns ms
  | [], ms => by simp [Ob.lexAt, cmpT]
  | x :: xs, [] => by simp [Ob.lexAt, cmpT]
  | x :: xs, y :: ys => by
    have ih := lex_cmp (r := r) (z := z) xs ys
    rw [List.length_cons, List.length_cons, Nat.succ_min_succ, Ob.lexAt_succ, lexAt_shift]
    unfold cmpT
    simp only [List.getD_cons_zero, List.getD_cons_succ, decide_eq_true_eq]
    rw [ih]
def rTc (K : PySem.W.Frag) (r : Int → Int → Bool) (z : Nat → Nat → Bool) : R2 := fun x y H Q => ∃ (a b : Addr) (ns ms : List Int), x = .ref a ∧ y = .ref b ∧ SqT K H a (ns.map V.int) ∧ SqT K H b (ms.map V.int) ∧ Q (.bl (cmpT r (z ns.length ms.length) ns ms)) H
theorem op_tc {X : Cx} {op : CmpOp} {r : Int → Int → Bool} {z : Nat → Nat → Bool} (hC : ∀ v u, compareOp op v u = richCompare op v u) (hu : X.A.units < cLine)
    (hT : ∀ {A : Around} {s : Shared} {l b : Addr} {items items2 : Array Value} {e r : Nat → Bool}, s.heap.IsTuple l items → s.heap.IsTuple b items2 → A.units < cLine → (∀ j (h1 : j < items.size) (h2 : j < items2.size), SeqAt.EqAt A.in1 s items[j] items2[j] (e j)) →
      (∀ j (h1 : j < items.size) (h2 : j < items2.size), e j = false → Ob.RcOp op A.in1 s items[j] items2[j] (r j)) → Ob.RcOp op A s (.ref l) (.ref b) (Ob.lexAt e r (z items.size items2.size) 0 (min items.size items2.size)))
    (hI : ∀ {A : Around} {s : Shared} (a b : Int) (t u : Tok), Ob.RcOp op A s (.int a t) (.int b u) (r a b)) : OpR X (compareOp op) (rTc X.K r z) := by
  intro pins s σ H x y v u Q I rx ry h
  obtain ⟨a, b, ns, ms, rfl, rfl, ha, hb, q⟩ := h
  cases rx
  cases ry
  obtain ⟨its, r1, p1, _⟩ := I.tuple ha
  obtain ⟨its2, r2, p2, _⟩ := I.tuple hb
  have i1 : IntsAre its ns := Vals.ints r1
  have i2 : IntsAre its2 ms := Vals.ints r2
  have e1 : its.toArray.size = ns.length := by rw [List.size_toArray]; exact i1.length
  have e2 : its2.toArray.size = ms.length := by rw [List.size_toArray]; exact i2.length
  have at1 : ∀ j (h1 : j < its.toArray.size), ∃ t, its.toArray[j] = .int (ns.getD j 0) t := fun j h1 => PyProof.Rows.IntsAre.int_at i1 _ _ (by simp at h1; simp [h1])
  have at2 : ∀ j (h1 : j < its2.toArray.size), ∃ t, its2.toArray[j] = .int (ms.getD j 0) t := fun j h1 => PyProof.Rows.IntsAre.int_at i2 _ _ (by simp at h1; simp [h1])
  have R := hT (A := X.A) (s := s) (e := fun j => decide (ns.getD j 0 = ms.getD j 0)) (r := fun j => r (ns.getD j 0) (ms.getD j 0)) p1 p2 hu (fun j h1 h2 => by
    obtain ⟨t, et⟩ := at1 j h1
    obtain ⟨t', et'⟩ := at2 j h2
    rw [et, et']
    have z : (ns.getD j 0 == ms.getD j 0) = decide (ns.getD j 0 = ms.getD j 0) := by
      by_cases q : ns.getD j 0 = ms.getD j 0
      · rw [decide_eq_true q]; exact beq_iff_eq.mpr q
      · rw [decide_eq_false q]; exact beq_eq_false_iff_ne.mpr q
    rw [← z]
    exact SeqAt.EqAt.int_int _ _ _ _) (fun j h1 h2 _ => by
    obtain ⟨t, et⟩ := at1 j h1
    obtain ⟨t', et'⟩ := at2 j h2
    rw [et, et']
    exact hI _ _ _ _)
  rw [e1, e2, lex_cmp] at R
  rw [hC]
  exact R X.prog X.w X.xe (EP X pins σ Q) ⟨.bl _, H, I, rfl, q⟩
def rCmpG (K : PySem.W.Frag) (g : Int → Int → Bool) (z : Nat → Nat → Bool) : R2 := fun x y H Q => rI0 (fun i j => .bl (g i j)) x y H Q ∨ rTc K g z x y H Q
theorem op_ltG {X : Cx} (hu : X.A.units + 1 < cLine) : OpR X (compareOp .Lt) (rCmpG X.K (fun i j => decide (i < j)) (fun n m => decide (n < m))) := OpR.or op_lt (op_tc (fun _ _ => rfl) (by omega) (fun p q hu he hr => Ob.RcOp.tuples_lt p q hu he hr) (fun a b t u => Ob.RcOp.lt_int a b t u))
theorem op_gtG {X : Cx} (hu : X.A.units + 1 < cLine) : OpR X (compareOp .Gt) (rCmpG X.K (fun i j => decide (j < i)) (fun n m => decide (n > m))) := OpR.or op_gt (op_tc (fun _ _ => rfl) (by omega) (fun p q hu he hr => Ob.RcOp.tuples_gt p q hu he hr) (fun a b t u => Ob.RcOp.gt_int a b t u))
theorem op_geG {X : Cx} (hu : X.A.units + 1 < cLine) : OpR X (compareOp .GtE) (rCmpG X.K (fun i j => decide (j ≤ i)) (fun n m => decide (n ≥ m))) := OpR.or op_ge (op_tc (fun _ _ => rfl) (by omega) (fun p q hu he hr => Ob.RcOp.tuples_ge p q hu he hr) (fun a b t u => Ob.RcOp.ge_int a b t u))
theorem intsD_ok {F : Hp} : ∀ {ds : List PyData} {vs : List V} {ns : List Int}, DpAll K F vs ds → intsD ds = some ns → vs = ns.map V.int
  | [], _, _, r, e => by cases r; cases e; rfl
  | d :: ds, _, ns, r, e => by
    cases r with
    | cons h1 h2 =>
      cases d with
      | int i =>
        unfold intsD at e
        cases q : intsD ds with
        | none => rw [q] at e; cases e
        | some ms =>
          rw [q] at e
          cases e
          cases h1
          rw [intsD_ok h2 q]
          rfl
      | _ => cases e
theorem tupI_ok {H : Hp} {h : MH} {x : SV} {v : V} {ns : List Int} (r : RV K Γ H h x v) (e : tupI x = some ns) : ∃ a, v = .ref a ∧ SqT K H a (ns.map V.int) := by
  cases x with
  | own _ => cases e
  | d x =>
    cases x with
    | tuple ds =>
      have r' : Dp K (Fz Γ H h) v (.tuple ds) := r
      cases r' with
      | @tup a vs _ h1 h2 =>
        rw [intsD_ok h2 e] at h1
        exact ⟨a, rfl, sqT_up fz_sub h1⟩
    | _ => cases e
theorem lr_cmp {g : Int → Int → Bool} {z : Nat → Nat → Bool} : LR2 K Γ (rdCmp g z) (rCmpG K g z) := by
  refine ⟨fun x y h Q Q' k w => ?_, fun x y v u H h C' Q rv ru rm w k => ?_⟩
  · unfold rdCmp at w ⊢
    split at w
    · exact k _ _ w
    · split at w
      · exact k _ _ w
      · exact w
  · unfold rdCmp at w
    split at w
    · rename_i i j e1 e2
      exact .inl ⟨i, j, asInt_ok rv e1, asInt_ok ru e2, k _ _ _ H PX.refl rv_bl rm w⟩
    · split at w
      · rename_i ns ms e1 e2
        obtain ⟨a, ea, sa⟩ := tupI_ok rv e1
        obtain ⟨b, eb, sb⟩ := tupI_ok ru e2
        exact .inr ⟨a, b, ns, ms, ea, eb, sa, sb, k _ _ _ H PX.refl rv_bl rm w⟩
      · exact w.elim
theorem lr_sub : LR2 K Γ rdSub (rI0 fun i j => .int (i - j)) := lr_I0 fun _ _ _ => .int _
theorem lr_div : LR2 K Γ rdDiv (rI CDivN fun i j => .int (i.fdiv j)) := lr_I fun _ _ _ => .int _
theorem lr_mod : LR2 K Γ rdMod (rI (fun _ j => j ≠ 0) fun i j => .int (i.fmod j)) := lr_I fun _ _ _ => .int _
theorem lr_pow : LR2 K Γ rdPow (rI CPow fun i j => .int (i ^ j.toNat)) := lr_I fun _ _ _ => .int _
theorem lr_lt : LR2 K Γ rdLt (rCmpG K (fun i j => decide (i < j)) (fun n m => decide (n < m))) := lr_cmp
theorem lr_gt : LR2 K Γ rdGt (rCmpG K (fun i j => decide (j < i)) (fun n m => decide (n > m))) := lr_cmp
theorem lr_ge : LR2 K Γ rdGe (rCmpG K (fun i j => decide (j ≤ i)) (fun n m => decide (n ≥ m))) := lr_cmp
end

def rCatG (K : PySem.W.Frag) : R2 := fun x y H Q => ∃ a b xs ys, x = .ref a ∧ y = .ref b ∧ SqL K H a xs ∧ SqL K H b ys ∧ xs.length + ys.length ≤ sizeLine ∧ ∀ p, H p = none → Q (.ref p) (upd H p (.lst (xs ++ ys)))
theorem op_catG {X : Cx} : OpR X (binaryOp .Add) (rCatG X.K) := by
  intro pins s σ H x y v u Q I rx ry w
  obtain ⟨a, b, xs, ys, rfl, rfl, ha, hb, hz, q⟩ := w
  cases rx
  cases ry
  obtain ⟨i1, r1, ⟨⟨c1, d1, t1, l1⟩, n1, o1, k1, _, e1⟩, _⟩ := I.list ha
  obtain ⟨i2, r2, ⟨⟨c2, d2, t2, l2⟩, n2, o2, k2, _, e2⟩, _⟩ := I.list hb
  simp only at k1 e1 k2 e2
  subst k1 e1 k2 e2
  have f1 := r1.length
  have f2 := r2.length
  have ee : i1.toArray ++ i2.toArray = (i1 ++ i2).toArray := by simp
  refine concat_meets ⟨_, o1, rfl⟩ ⟨_, o2, rfl⟩ noFill_list_add seq_list_add PySem.F.slot_list_add PySem.F.entry_list_add (PySem.F.args_list_add_2 _ _)
    (list_addW a b i1.toArray i2.toArray n1 n2 d1 d2 l1 l2 (by simp only [List.size_toArray]; omega)) ⟨o1, o2, ?_⟩
  rw [ee]
  exact ⟨.ref _, _, I.lnew (t' := s.toks) (r1.append r2) (by rw [List.length_append]; omega), rfl, q _ I.fresh⟩
def rStrCat : R2 := fun x y H Q => ∃ i j, x = .str i ∧ y = .str j ∧ i.length + j.length ≤ sizeLine ∧ Q (.str (i ++ j)) H
def rAddAll (K : PySem.W.Frag) : R2 := fun x y H Q => rI0 (fun i j => .int (i + j)) x y H Q ∨ rStrCat x y H Q ∨ rCatA K x y H Q ∨ rCatG K x y H Q
theorem op_addAll {X : Cx} : OpR X (binaryOp .Add) (rAddAll X.K) := op_add.or (OpR.or op_add_str (OpR.or op_catA op_catG))
def rdAdd : DR2 := fun x y h Q => match asInt x, asInt y with
  | some i, some j => Q (.d (.int (i + j))) h
  | _, _ => match asStr x, asStr y with
    | some a, some b => a.length + b.length ≤ sizeLine ∧ Q (.d (.str (a ++ b))) h
    | _, _ => match asT x, asT y with
      | some a, some b => a.length + b.length ≤ sizeLine ∧ Q (.d (.tuple (a ++ b))) h
      | _, _ => match asL h x, asL h y with
        | some a, some b => a.length + b.length ≤ sizeLine ∧ Q (.d (.list (a ++ b))) h
        | _, _ => False
theorem dps_nil' {K : PySem.W.Frag} {H : Hp} {ds : List PyData} (h : DpAll K H [] ds) : ds = [] := by cases h; rfl
theorem lr_add {K : PySem.W.Frag} : LR2 K Γ rdAdd (rAddAll K) := by
  refine ⟨fun x y h Q Q' k w => ?_, fun x y v u H h C' Q rv ru rm w k => ?_⟩
  · unfold rdAdd at w ⊢
    split at w
    · exact k _ _ w
    · split at w
      · exact ⟨w.1, k _ _ w.2⟩
      · split at w
        · exact ⟨w.1, k _ _ w.2⟩
        · split at w
          · exact ⟨w.1, k _ _ w.2⟩
          · exact w
  · unfold rdAdd at w
    split at w
    · rename_i i j e1 e2
      exact .inl ⟨i, j, asInt_ok rv e1, asInt_ok ru e2, k _ _ _ H PX.refl rv_int rm w⟩
    · split at w
      · rename_i i j e1 e2
        exact .inr (.inl ⟨i, j, asStr_ok rv e1, asStr_ok ru e2, w.1, k _ _ _ H PX.refl rv_str rm w.2⟩)
      · split at w
        · rename_i i j e1 e2
          obtain ⟨a, xs, rfl, s1, d1⟩ := asT_ok rv e1
          obtain ⟨b, ys, rfl, s2, d2⟩ := asT_ok ru e2
          refine .inr (.inr (.inl ⟨a, b, xs, ys, rfl, rfl, s1, s2, by rw [dps_len d1, dps_len d2]; exact w.1, fun z => ?_, fun z1 z2 => ?_, fun z1 z2 p hp => ?_⟩))
          · subst z
            have z := dps_nil' d1
            subst z
            cases x with
            | own _ => cases e1
            | d x => cases x with
              | tuple xs =>
                cases e1
                cases y with
                | own _ => cases e2
                | d y => cases y with
                  | tuple ys => cases e2; exact k _ _ _ H PX.refl ru rm w.2
                  | _ => cases e2
              | _ => cases e1
          · subst z2
            have z := dps_nil' d2
            subst z
            cases x with
            | own _ => cases e1
            | d x => cases x with
              | tuple xs =>
                cases e1
                have w2 := w.2
                rw [List.append_nil] at w2
                exact k _ _ _ H PX.refl rv rm w2
              | _ => cases e1
          · obtain ⟨p1, r1, v1⟩ := new_tup hp rm (dps_app d1 d2)
            exact k _ _ _ _ p1 v1 r1 w.2
        · split at w
          · rename_i i j e1 e2
            obtain ⟨a, xs, rfl, s1, d1⟩ := asL_ok rv rm e1
            obtain ⟨b, ys, rfl, s2, d2⟩ := asL_ok ru rm e2
            refine .inr (.inr (.inr ⟨a, b, xs, ys, rfl, rfl, s1, s2, by rw [dps_len d1, dps_len d2]; exact w.1, fun p hp => ?_⟩))
            obtain ⟨p1, r1, v1⟩ := new_list hp rm (dps_app d1 d2)
            exact k _ _ _ _ p1 v1 r1 w.2
          · exact w.elim

def rRepG (K : PySem.W.Frag) : R2 := fun x y H Q => ∃ l k xs, x = .ref l ∧ y = .int k ∧ SqL K H l xs ∧ -(2 ^ 63) ≤ k ∧ k < 2 ^ 63 ∧ xs.length * k.toNat ≤ sizeLine ∧ ∀ p, H p = none → Q (.ref p) (upd H p (.lst (List.replicate k.toNat xs).flatten))
theorem op_repG {X : Cx} : OpR X (binaryOp .Mult) (rRepG X.K) := by
  intro pins s σ H x y v u Q I rx ry w
  obtain ⟨l, k, xs, rfl, rfl, hl, b1, b2, hz, q⟩ := w
  cases rx
  obtain ⟨t, rfl⟩ := ry
  obtain ⟨i1, r1, ⟨⟨c1, d1, t1, l1⟩, n1, o1, k1, _, e1⟩, _⟩ := I.list hl
  simp only at k1 e1
  subst k1 e1
  have f1 := r1.length
  have hz' : i1.toArray.size * k.toNat ≤ 2 ^ 24 := by
    rw [List.size_toArray, ← f1]
    exact hz
  refine wpAny_binaryOp_repeat_ref (T := "list") (U := "int") (by decide) ⟨_, o1, rfl⟩ (fun s' => typeIs_int s' k t) noFill_list_mul PySem.F.fills_int_mul PySem.F.slot_int_rmul repeat_list PySem.F.slot_int_index.lookup
    (call_meets PySem.F.slot_int_rmul (typeIs_int s k t) PySem.F.entry_int_rmul (PySem.F.args_int_rmul_2 _ _) (lm_int_rmul_list_any k t l i1.toArray n1 d1 l1)
      ⟨o1, rfl, ⟨_, o1, rfl⟩, call_meets PySem.F.slot_list_mul ⟨_, o1, rfl⟩ PySem.F.entry_list_mul (PySem.F.args_list_mul_2 _ _)
        (lm_list_mul_any l i1.toArray n1 d1 l1 k t (by simp [Builtin.List.listFitsIndex]; omega) (by omega) (by simp [Builtin.List.listTooLong, sizeLine]; simp at hz'; omega)) ⟨o1, ?_⟩⟩)
  rw [listMul_foldl_if]
  exact ⟨.ref _, _, I.lnew (t' := s.toks) (r1.rep k.toNat) (by rw [lm_len_rep_flat, Nat.mul_comm]; exact hz), rfl, q _ I.fresh⟩
def rMulAll (K : PySem.W.Frag) : R2 := fun x y H Q => rI CMul (fun i j => .int (i * j)) x y H Q ∨ rRepG K x y H Q
theorem op_mulAll {X : Cx} : OpR X (binaryOp .Mult) (rMulAll X.K) := op_mul.or op_repG
def rdMul : DR2 := fun x y h Q => match asInt y with
  | some j => match asInt x with
    | some i => CMul i j ∧ Q (.d (.int (i * j))) h
    | none => match asL h x with
      | some a => -(2 ^ 63) ≤ j ∧ j < 2 ^ 63 ∧ a.length * j.toNat ≤ sizeLine ∧ Q (.d (.list (List.replicate j.toNat a).flatten)) h
      | none => False
  | none => False
theorem lr_mul {K : PySem.W.Frag} : LR2 K Γ rdMul (rMulAll K) := by
  refine ⟨fun x y h Q Q' k w => ?_, fun x y v u H h C' Q rv ru rm w k => ?_⟩
  · unfold rdMul at w ⊢
    split at w
    · split at w
      · exact ⟨w.1, k _ _ w.2⟩
      · split at w
        · exact ⟨w.1, w.2.1, w.2.2.1, k _ _ w.2.2.2⟩
        · exact w
    · exact w
  · unfold rdMul at w
    split at w
    · rename_i j e2
      split at w
      · rename_i i e1
        exact .inl ⟨i, j, asInt_ok rv e1, asInt_ok ru e2, w.1, k _ _ _ H PX.refl rv_int rm w.2⟩
      · split at w
        · rename_i a e1
          obtain ⟨l, xs, rfl, s1, d1⟩ := asL_ok rv rm e1
          refine .inr ⟨l, j, xs, rfl, asInt_ok ru e2, s1, w.1, w.2.1, by rw [dps_len d1]; exact w.2.2.1, fun p hp => ?_⟩
          obtain ⟨p1, r1, v1⟩ := new_list hp rm (dps_rep d1 j.toNat)
          exact k _ _ _ _ p1 v1 r1 w.2.2.2
        · exact w.elim
    · exact w.elim

theorem asD_ok {K : PySem.W.Frag} {H : Hp} {h : MH} {x : SV} {v : V} {d : PyData} (rv : RV K Γ H h x v) (rm : RM K Γ H h) (e : asD h x = some d) : Dp K H v d := by
  cases x with
  | d y => cases e; exact dp_up fz_sub _ _ rv
  | own a =>
    cases q : h a with
    | none => simp only [asD, q] at e; cases e
    | some m =>
      cases m with
      | lst xs =>
        simp only [asD, q] at e; cases e
        obtain ⟨vs, e1, e2⟩ := rm.ob a _ q
        have rv' : v = .ref a := rv
        subst rv'
        exact .lst (SqL.of e1) (dps_up fz_sub _ _ e2)
      | _ => simp only [asD, q] at e; cases e
def strs2 (d e : PyData) : Bool := match d, e with
  | .str _, .str _ => true
  | _, _ => false
/-- plain data of few levels, or two texts -/
def eqOk (d e : PyData) : Prop := (SeqAt.shaped d = true ∧ SeqAt.shaped e = true) ∨ strs2 d e = true
def rdEq : DR2 := fun x y h Q => match asD h x, asD h y with
  | some d, some e => eqOk d e ∧ Q (.d (.bool (PyData.eqv d e))) h
  | _, _ => False
def rdNe : DR2 := fun x y h Q => match asD h x, asD h y with
  | some d, some e => eqOk d e ∧ Q (.d (.bool (!PyData.eqv d e))) h
  | _, _ => False
def rEqA (K : PySem.W.Frag) : R2 := fun x y H Q => rEqD K x y H Q ∨ rEq x y H Q
def rNeA (K : PySem.W.Frag) : R2 := fun x y H Q => rNeD K x y H Q ∨ rNe x y H Q
theorem op_eqA {X : Cx} (hu : X.A.units + 64 < cLine) : OpR X (compareOp .Eq) (rEqA X.K) := OpR.or (op_eqD hu) op_eq
theorem op_neA {X : Cx} (hu : X.A.units + 64 < cLine) : OpR X (compareOp .NotEq) (rNeA X.K) := OpR.or (op_neD hu) op_ne
theorem strs2_ok {K : PySem.W.Frag} {H : Hp} {v u : V} {d e : PyData} (h : strs2 d e = true) (r1 : Dp K H v d) (r2 : Dp K H u e) : scal v u = true ∧ decide (v = u) = PyData.eqv d e := by
  cases d <;> cases e <;> first | (cases h; done) | (cases r1; cases r2; exact ⟨rfl, by rw [dec_str]; simp only [PyData.eqv]⟩)
section
variable {K : PySem.W.Frag}
theorem lr_eq : LR2 K Γ rdEq (rEqA K) := by
  refine ⟨fun x y h Q Q' k w => ?_, fun x y v u H h C' Q rv ru rm w k => ?_⟩
  · unfold rdEq at w ⊢
    split at w
    · exact ⟨w.1, k _ _ w.2⟩
    · exact w
  · unfold rdEq at w
    split at w
    · rename_i d e e1 e2
      rcases w.1 with z | z
      · exact .inl ⟨d, e, asD_ok rv rm e1, asD_ok ru rm e2, z.1, z.2, k _ _ _ H PX.refl rv_bl rm w.2⟩
      · obtain ⟨z1, z2⟩ := strs2_ok z (asD_ok rv rm e1) (asD_ok ru rm e2)
        exact .inr ⟨z1, by rw [z2]; exact k _ _ _ H PX.refl rv_bl rm w.2⟩
    · exact w.elim
theorem lr_ne : LR2 K Γ rdNe (rNeA K) := by
  refine ⟨fun x y h Q Q' k w => ?_, fun x y v u H h C' Q rv ru rm w k => ?_⟩
  · unfold rdNe at w ⊢
    split at w
    · exact ⟨w.1, k _ _ w.2⟩
    · exact w
  · unfold rdNe at w
    split at w
    · rename_i d e e1 e2
      rcases w.1 with z | z
      · exact .inl ⟨d, e, asD_ok rv rm e1, asD_ok ru rm e2, z.1, z.2, k _ _ _ H PX.refl rv_bl rm w.2⟩
      · obtain ⟨z1, z2⟩ := strs2_ok z (asD_ok rv rm e1) (asD_ok ru rm e2)
        exact .inr ⟨z1, by rw [z2]; exact k _ _ _ H PX.refl rv_bl rm w.2⟩
    · exact w.elim

theorem isNone_ok {H : Hp} {h : MH} {x : SV} {v : V} (rv : RV K Γ H h x v) : decide (v = .non) = isNone x := by
  cases x with
  | own a => have rv' : v = .ref a := rv; subst rv'; simp [isNone]
  | d x =>
    have rv' : Dp K (Fz Γ H h) v x := rv
    cases rv' <;> simp [isNone]
def rdIsN : DR2 := fun x y h Q => isNone y = true ∧ Q (.d (.bool (isNone x))) h
def rdNotN : DR2 := fun x y h Q => isNone y = true ∧ Q (.d (.bool (!isNone x))) h
theorem lr_notN : LR2 K Γ rdNotN (fun x y H Q => y = .non ∧ Q (.bl (!decide (x = .non))) H) := by
  refine ⟨fun x y h Q Q' k w => ⟨w.1, k _ _ w.2⟩, fun x y v u H h C' Q rv ru rm w k => ⟨?_, ?_⟩⟩
  · have z := isNone_ok ru
    rw [w.1] at z
    exact of_decide_eq_true z
  · rw [isNone_ok rv]
    exact k _ _ _ H PX.refl rv_bl rm w.2

def ownO (h : MH) : SV → Option (Addr × MO)
  | .own a => match h a with
    | some (.lst _) => none
    | some o => some (a, o)
    | none => none
  | .d _ => none
theorem ownO_ok {h : MH} {x : SV} {a : Addr} {o : MO} (e : ownO h x = some (a, o)) : x = .own a ∧ h a = some o := by
  cases x with
  | d _ => cases e
  | own b =>
    unfold ownO at e
    cases q : h b with
    | none => simp only [q] at e; cases e
    | some m => cases m <;> simp only [q] at e <;> cases e <;> exact ⟨rfl, q⟩
theorem ownO_asL {h : MH} {x : SV} {xs : List PyData} (e : asL h x = some xs) : ownO h x = none := by
  cases x with
  | d _ => rfl
  | own b =>
    cases q : h b with
    | none => simp only [ownO, q]
    | some m => cases m <;> first | (simp only [ownO, q]; done) | (simp only [asL, q] at e; cases e)
theorem ownO_asQ {h : MH} {x : SV} {xs : List PyData} (e : asQ h x = some xs) : ownO h x = none := by
  cases x with
  | d _ => rfl
  | own b =>
    unfold asQ at e
    cases q : asL h (.own b) with
    | some ys => exact ownO_asL q
    | none => rw [q] at e; cases e
def keyP : PyData → Option Key
  | .int i => some (.inl i)
  | .str z => some (.inr z)
  | _ => none
def asKey : SV → Option Key
  | .d d => keyP d
  | .own _ => none
def valS {κ : Type} [DecidableEq κ] (ps : List (κ × SV)) (k : κ) : Option SV := (ps.find? fun kv => decide (kv.1 = k)).map (·.2)
def putS {κ : Type} [DecidableEq κ] (ps : List (κ × SV)) (k : κ) (v : SV) : List (κ × SV) :=
  if (ps.any fun kv => decide (kv.1 = k)) = true then ps.map (fun kv => if kv.1 = k then (kv.1, v) else kv) else ps ++ [(k, v)]
theorem asKey_ok {K : PySem.W.Frag} {Γ : GI} {H : Hp} {h : MH} {x : SV} {v : V} {k : Key} (r : RV K Γ H h x v) (e : asKey x = some k) : v = kV k := by
  cases x with
  | own _ => cases e
  | d d =>
    cases d with
    | int i => cases e; cases r; rfl
    | str z => cases e; cases r; rfl
    | _ => cases e
theorem valS_ok {κ : Type} [DecidableEq κ] {K : PySem.W.Frag} {F : Hp} {k : κ} : ∀ {ps : List (κ × SV)} {kvs : List (κ × V)}, Paired (RPF K F) ps kvs → (∀ z, valS ps k = some z → ∃ v, valV kvs k = some v ∧ RVF K F z v) ∧ (valS ps k = none → valV kvs k = none)
  | _, _, .nil => ⟨fun z e => (by cases e), fun _ => rfl⟩
  | (x, y) :: ps, (x', v) :: kvs, .cons h t => by
    obtain ⟨e1, e2⟩ := h
    have e1' : x = x' := e1
    subst e1'
    by_cases q : x = k
    · have a : valS ((x, y) :: ps) k = some y := by simp [valS, List.find?_cons, q]
      rw [a, valV_pos (p := (x, v)) q]
      exact ⟨fun z e => (by cases e; exact ⟨v, rfl, e2⟩), fun e => (by cases e)⟩
    · have a : valS ((x, y) :: ps) k = valS ps k := by simp [valS, List.find?_cons, q]
      rw [a, valV_neg (p := (x, v)) q]
      exact valS_ok t
theorem anyS_ok {κ : Type} [DecidableEq κ] {K : PySem.W.Frag} {F : Hp} {k : κ} : ∀ {ps : List (κ × SV)} {kvs : List (κ × V)}, Paired (RPF K F) ps kvs → (ps.any fun kv => decide (kv.1 = k)) = (kvs.any fun kv => decide (kv.1 = k))
  | _, _, .nil => rfl
  | _ :: _, _ :: _, .cons h t => by rw [List.any_cons, List.any_cons, anyS_ok t, h.1]
theorem pairs_len {α β : Type} {R : α → β → Prop} : ∀ {l : List α} {m : List β}, Paired R l m → l.length = m.length
  | _, _, .nil => rfl
  | _, _, .cons _ t => by simp [pairs_len t]
theorem pairs_snoc {α β : Type} {R : α → β → Prop} {a : α} {b : β} (r : R a b) : ∀ {l : List α} {m : List β}, Paired R l m → Paired R (l ++ [a]) (m ++ [b])
  | _, _, .nil => .cons r .nil
  | _, _, .cons h t => .cons h (pairs_snoc r t)
theorem putS_ok {κ : Type} [DecidableEq κ] {K : PySem.W.Frag} {F : Hp} {k : κ} {z : SV} {v : V} {ps : List (κ × SV)} {kvs : List (κ × V)} (r : Paired (RPF K F) ps kvs) (rz : RVF K F z v) : Paired (RPF K F) (putS ps k z) (putK kvs k v) := by
  unfold putS putK
  rw [anyS_ok r]
  split
  · rename_i hany
    clear hany
    induction r with
    | nil => exact .nil
    | @cons p q ps kvs h t ih =>
      refine .cons ?_ ih
      show RPF K F (if p.1 = k then (p.1, z) else p) (if q.1 = k then (q.1, v) else q)
      by_cases e : p.1 = k
      · rw [if_pos e, if_pos (h.1 ▸ e)]; exact ⟨h.1, rz⟩
      · rw [if_neg e, if_neg (h.1 ▸ e)]; exact h
  · exact pairs_snoc ⟨rfl, rz⟩ r
theorem pairs_get {α β : Type} {R : α → β → Prop} : ∀ {l : List α} {m : List β} {i : Nat} {a : α}, Paired R l m → l[i]? = some a → ∃ b, m[i]? = some b ∧ R a b
  | _, _, _, _, .nil, e => by simp at e
  | _, _, 0, _, .cons h _, e => by simp at e; subst e; exact ⟨_, rfl, h⟩
  | _, _, i + 1, a, .cons _ t, e => by
    obtain ⟨b, e1, e2⟩ := pairs_get (i := i) (a := a) t (by simpa using e)
    exact ⟨b, by simpa using e1, e2⟩
theorem pairs_at {α β : Type} {R : α → β → Prop} {l : List α} {m : List β} {i : Int} {a : α} (r : Paired R l m) (e : atI l i = some a) : ∃ b, atI m i = some b ∧ R a b := by
  unfold atI at e ⊢
  rw [← pairs_len r]
  cases q : ixN l.length i with
  | none => rw [q] at e; cases e
  | some j =>
    rw [q] at e
    exact pairs_get r e
/-- what a subscript finds in what is one's own -/
def ixO (o : MO) (y : SV) : Option SV := match o with
  | .seq xs => match asInt y with
    | some i => atI xs i
    | none => none
  | .tpl xs => match asInt y with
    | some i => atI xs i
    | none => none
  | .dct ps => match asKey y with
    | some k => valS ps k
    | none => none
  | .dcl _ _ ps => match asKey y with
    | some k => valS ps k
    | none => none
  | _ => none

end

def rdIx : DR2 := fun x y h Q => match ownO h x with
  | some p => match ixO p.2 y with
    | some z => Q z h
    | none => False
  | none => match asInt y with
  | some i => match asStr x with
    | some z => match atI z.cps.toList i with
      | some c => z.length ≤ sizeLine ∧ Q (.d (.str ⟨#[c]⟩)) h
      | none => False
    | none => match asQ h x with
      | some xs => match atI xs i with
        | some d => Q (.d d) h
        | none => False
      | none => False
  | none => False
def rIxDc : R2 := fun x y H Q => ∃ a v, x = .ref a ∧ DGet H a y (some v) ∧ Q v H
theorem ix_dct {X : Cx} (hu : X.A.units + 1 < cLine) : IxR X rIxDc := by
  intro value slice pins s σ H x y v u Q I rx ry h hs
  obtain ⟨a, z, rfl, g, q⟩ := h
  obtain rfl : v = Value.ref a := rx
  exact tail_any (dict_typeIs I g) slot_dict_getitem.lookup (d_getItem hu I g ry fun w' s3 I3 rw' => ⟨z, H, I3, rw', q⟩) hs
def rIxG (K : PySem.W.Frag) : R2 := fun x y H Q => rIx K x y H Q ∨ rIxDc x y H Q
theorem ix_G {X : Cx} (hu : X.A.units + 1 < cLine) : IxR X (rIxG X.K) := ix_seq.or (ix_dct hu)
theorem dps_at {K : PySem.W.Frag} {H : Hp} {ds : List PyData} {vs : List V} {i : Int} {d : PyData} (r : DpAll K H vs ds) (e : atI ds i = some d) : ∃ v, atI vs i = some v ∧ Dp K H v d := by
  unfold atI at e ⊢
  rw [dps_len r]
  cases q : ixN ds.length i with
  | none => rw [q] at e; cases e
  | some j =>
    rw [q] at e
    exact dps_get r e
theorem lr_ix {K : PySem.W.Frag} : LR2 K Γ rdIx (rIxG K) := by
  refine ⟨fun x y h Q Q' k w => ?_, fun x y v u H h C' Q rv ru rm w k => ?_⟩
  · unfold rdIx at w ⊢
    split at w
    · split at w
      · exact k _ _ w
      · exact w
    · split at w
      · split at w
        · split at w
          · exact ⟨w.1, k _ _ w.2⟩
          · exact w
        · split at w
          · split at w
            · exact k _ _ w
            · exact w
          · exact w
      · exact w
  · unfold rdIx at w
    split at w
    · rename_i p e0
      split at w
      · rename_i z e1
        obtain ⟨ex, ea⟩ := ownO_ok e0
        subst ex
        have ev : v = .ref p.1 := rv
        subst ev
        obtain ⟨u0, f1, f2⟩ := ro_at (rm.ob _ _ ea)
        have fin : ∀ w', RVF K (Fz Γ H h) z w' → Q w' H := fun w' rz => k z h w' H PX.refl (by cases z <;> exact rz) rm w
        unfold ixO at e1
        split at e1
        · rename_i xs hq
          rw [hq] at f2
          split at e1
          · rename_i i e2
            cases u0 <;> first | exact f2.elim | skip
            obtain ⟨w', g1, g2⟩ := pairs_at f2 e1
            exact .inl (.inl ⟨_, _, i, w', rfl, asInt_ok ru e2, SqL.of f1, g1, fin _ g2⟩)
          · cases e1
        · rename_i xs hq
          rw [hq] at f2
          split at e1
          · rename_i i e2
            cases u0 <;> first | exact f2.elim | skip
            obtain ⟨w', g1, g2⟩ := pairs_at f2 e1
            exact .inl (.inr (.inl ⟨_, _, i, w', rfl, asInt_ok ru e2, SqT.of f1, g1, fin _ g2⟩))
          · cases e1
        · rename_i ps hq
          rw [hq] at f2
          split at e1
          · rename_i i e2
            cases u0 <;> first | exact f2.elim | skip
            obtain ⟨w', g1, g2⟩ := (valS_ok f2).1 _ e1
            refine .inr ⟨_, w', rfl, ?_, fin _ g2⟩
            rw [asKey_ok ru e2, ← g1]
            exact DGet.k f1
          · cases e1
        · rename_i o0 kv0 ps hq
          rw [hq] at f2
          split at e1
          · rename_i i e2
            cases u0 <;> first | exact f2.elim | skip
            obtain ⟨z1, rfl, z2⟩ := f2
            obtain ⟨w', g1, g2⟩ := (valS_ok z2).1 _ e1
            refine .inr ⟨_, w', rfl, ?_, fin _ g2⟩
            rw [asKey_ok ru e2, ← g1]
            exact .inl ⟨kv0, i, .inr ⟨_, f1⟩, rfl, rfl⟩
          · cases e1
        · cases e1
      · exact w.elim
    · split at w
      · rename_i i e2
        have eu := asInt_ok ru e2
        split at w
        · rename_i z e1
          split at w
          · rename_i c e3
            exact .inl (.inr (.inr ⟨z, i, c, asStr_ok rv e1, eu, w.1, e3, k _ _ _ H PX.refl rv_str rm w.2⟩))
          · exact w.elim
        · split at w
          · rename_i xs e1
            split at w
            · rename_i d e3
              obtain ⟨a, vs, rfl, s1, d1⟩ := asQ_ok rv rm e1
              obtain ⟨u', e4, rd⟩ := dps_at d1 e3
              rcases s1 with s1 | s1
              · exact .inl (.inl ⟨a, vs, i, u', rfl, eu, s1, e4, k (.d d) _ _ H PX.refl rd rm w⟩)
              · exact .inl (.inr (.inl ⟨a, vs, i, u', rfl, eu, s1, e4, k (.d d) _ _ H PX.refl rd rm w⟩))
            · exact w.elim
          · exact w.elim
      · exact w.elim
section
variable {X : Cx} {a b c e : Expr} {pos p2 : Pos} {ta tb tc te : DTE} {t : DTA} {es : List Expr}
theorem de_ix (hu : X.A.units + 1 < cLine) (ha : DE X Γ a ta) (hb : DE X Γ b tb) (hs : PlainIx b := by exact fun _ _ => rfl) : DE X Γ (.Subscript a b pos) (dOp rdIx ta tb) :=
  ⟨mono_op (lr_ix (K := X.K) (Γ := Γ)).mono ha.mono hb.mono, pe_imp (pe_ix (ix_G hu) ha.pe hb.pe hs) (op_lift lr_ix ha.mono hb.mono)⟩

abbrev DTO := DSt → MH → (Option Int → MH → Prop) → Prop
structure DO (X : Cx) (Γ : GI) (e : Option Expr) (t : DTO) : Prop where
  mono : Mono t
  po : PO X e (lift X.K Γ (fun _ _ a b => a = b) t)
def dNoPart : DTO := fun _ h Q => Q none h
def dPart (t : DTE) : DTO := fun σ h Q => t σ h fun x h1 => match asInt x with
  | some i => Q (some i) h1
  | none => False
theorem po_imp {e : Option Expr} {t t' : TO} (p : PO X e t) (k : ∀ σ H Q, t' σ H Q → t σ H Q) : PO X e t' := by
  cases p with
  | mk r => exact ⟨fun pins s σ H Q I w => r pins s σ H Q I (k σ H Q w)⟩
theorem do_none : DO X Γ none dNoPart := ⟨fun _ _ _ _ k w => k _ _ w, po_imp po_none fun σ H Q ⟨σd, h, rs, rm, w⟩ => w _ H PX.refl rfl rm⟩
theorem do_some (ha : DE X Γ e te) : DO X Γ (some e) (dPart te) :=
  ⟨fun σ h Q Q' k w => ha.mono _ _ _ _ (fun x h1 w1 => by
    cases q : asInt x with
    | none => rw [q] at w1; exact w1
    | some i => rw [q] at w1; exact k _ _ w1) w,
  po_imp (po_some ha.pe) fun σ H Q ⟨σd, h, rs, rm, w⟩ => lift_mk ha.mono rs rm w fun x h1 v H1 px rs1 rv rm1 w1 => by
    cases q : asInt x with
    | none => rw [q] at w1; exact w1.elim
    | some i =>
      rw [q] at w1
      exact ⟨i, asInt_ok rv q, w1 _ H1 px rfl rm1⟩⟩
abbrev cutD (xs : List PyData) (lo hi : Option Int) : List PyData := (xs.drop (HT.sIx xs.length 0 lo)).take (HT.sIx xs.length xs.length hi - HT.sIx xs.length 0 lo)
theorem dps_cut {K : PySem.W.Frag} {H : Hp} {ds : List PyData} {vs : List V} {lo hi : Option Int} (r : DpAll K H vs ds) : DpAll K H (cutV vs lo hi) (cutD ds lo hi) := by
  unfold cutV cutD
  rw [dps_len r]
  exact dps_take _ (dps_drop _ r)
def rdSl (x : SV) (lo hi : Option Int) (h : MH) (Q : DK) : Prop := match asStr x with
  | some z => z.length ≤ sizeLine ∧ Q (.d (.str (cutS z lo hi))) h
  | none => match asT x with
    | some xs => Q (.d (.tuple (cutD xs lo hi))) h
    | none => match asL h x with
      | some xs => Q (.d (.list (cutD xs lo hi))) h
      | none => False
end
end DL

namespace DL
open PySem PySem.Spec PyProof.Rows L2
set_option autoImplicit true

def rSlAll (K : PySem.W.Frag) : V → Option Int → Option Int → Hp → VK → Prop := fun x lo hi H Q => rSlS x lo hi H Q ∨ (rSlA K x lo hi H Q ∨ rSlL K x lo hi H Q)
theorem sl_all {X : Cx} : SlR X (rSlAll X.K) := sl_str.or (sl_tupA.or sl_list)
theorem cut_whole {α : Type} (xs : List α) {lo hi : Option Int} (h : HT.sIx xs.length 0 lo = 0 ∧ HT.sIx xs.length xs.length hi = xs.length) : (xs.drop (HT.sIx xs.length 0 lo)).take (HT.sIx xs.length xs.length hi - HT.sIx xs.length 0 lo) = xs := by
  rw [h.1, h.2, List.drop_zero, Nat.sub_zero, List.take_length]
def dSl (te : DTE) (tl th : DTO) : DTE := fun σ h Q => te σ h fun x h1 => tl σ h1 fun lo h2 => th σ h2 fun hi h3 => rdSl x lo hi h3 Q
section
variable {X : Cx} {a b c e : Expr} {pos p2 : Pos} {ta tb tc te : DTE} {t : DTA} {es : List Expr} {tl th : DTO} {lo hi : Option Expr}
theorem rdSl_mono {x : SV} {lo hi : Option Int} {h : MH} {Q Q' : DK} (k : ∀ z h', Q z h' → Q' z h') (w : rdSl x lo hi h Q) : rdSl x lo hi h Q' := by
  unfold rdSl at w ⊢
  split at w
  · exact ⟨w.1, k _ _ w.2⟩
  · split at w
    · exact k _ _ w
    · split at w
      · exact k _ _ w
      · exact w
theorem mono_sl (me : Mono te) (ml : Mono tl) (mh : Mono th) : Mono (dSl te tl th) := fun σ h Q Q' k w => me _ _ _ _ (fun x h1 w1 => ml _ _ _ _ (fun l h2 w2 => mh _ _ _ _ (fun u h3 w3 => rdSl_mono k w3) w2) w1) w
theorem sl_run {K : PySem.W.Frag} {x : SV} {v : V} {lo hi : Option Int} {H : Hp} {h : MH} {C : DK} {Q : VK} (rv : RV K Γ H h x v) (rm : RM K Γ H h) (w : rdSl x lo hi h C) (k : ∀ z h' w H', PX Γ H h H' h' → RV K Γ H' h' z w → RM K Γ H' h' → C z h' → Q w H') : rSlAll K v lo hi H Q := by
  unfold rdSl at w
  split at w
  · rename_i z e1
    exact .inl ⟨z, asStr_ok rv e1, w.1, k _ _ _ H PX.refl rv_str rm w.2⟩
  · split at w
    · rename_i xs e1
      obtain ⟨a, vs, rfl, s1, d1⟩ := asT_ok rv e1
      refine .inr (.inl ⟨a, vs, rfl, s1, fun hw => ?_, fun _ p hp => ?_⟩)
      · have e3 : cutD xs lo hi = xs := cut_whole xs (by rw [dps_len d1] at hw; exact hw)
        rw [e3] at w
        cases x with
        | own _ => cases e1
        | d x => cases x with
          | tuple ys => cases e1; exact k _ _ _ H PX.refl rv rm w
          | _ => cases e1
      · obtain ⟨p1, r1, v1⟩ := new_tup hp rm (dps_cut (lo := lo) (hi := hi) d1)
        exact k _ _ _ _ p1 v1 r1 w
    · split at w
      · rename_i xs e1
        obtain ⟨a, vs, rfl, s1, d1⟩ := asL_ok rv rm e1
        refine .inr (.inr ⟨a, vs, rfl, s1, fun p hp => ?_⟩)
        obtain ⟨p1, r1, v1⟩ := new_list hp rm (dps_cut (lo := lo) (hi := hi) d1)
        exact k _ _ _ _ p1 v1 r1 w
      · exact w.elim
theorem de_sl (he : DE X Γ e te) (hl : DO X Γ lo tl) (hh : DO X Γ hi th) : DE X Γ (.Subscript e (.Slice lo hi none p2) pos) (dSl te tl th) :=
  ⟨mono_sl he.mono hl.mono hh.mono, pe_imp (pe_slice sl_all he.pe hl.po hh.po) fun σ H Q ⟨σd, h, rs, rm, w⟩ =>
    lift_mk he.mono rs rm w fun x h1 v H1 px rs1 rv rm1 w1 => lift_mk hl.mono rs1 rm1 w1 fun l h2 l' H2 px2 rs2 el rm2 w2 => lift_mk hh.mono rs2 rm2 w2 fun u h3 u' H3 px3 rs3 eu rm3 w3 => by
      subst el eu
      exact sl_run ((rv.up px2).up px3) rm3 w3 fun z h' w' H' px' rz rm' q => q _ _ (((px.trans px2).trans px3).trans px') rz rm'⟩
/-- + of lists, * of a list, fresh -/
def fAdd (ta tb : DTE) : DTF := fun σ h Q => ta σ h fun x h1 => tb σ h1 fun y h2 => match asL h2 x, asL h2 y with
  | some a, some b => a.length + b.length ≤ sizeLine ∧ Q (a ++ b) h2
  | _, _ => False
def dNeg (ta : DTE) : DTE := fun σ h Q => ta σ h fun x h1 => match asInt x with
  | some i => Q (.d (.int (-i))) h1
  | none => False
theorem de_neg (ha : DE X Γ a ta) : DE X Γ (.UnaryOp .USub a pos) (dNeg ta) :=
  ⟨fun σ h Q Q' k w => ha.mono _ _ _ _ (fun x h1 w1 => by
    split at w1
    · exact k _ _ w1
    · exact w1) w, pe_imp (pe_un un_neg ha.pe) fun σ H Q ⟨σd, h, rs, rm, w⟩ => lift_mk ha.mono rs rm w fun x h1 v H1 px rs1 rv rm1 w1 => by
      split at w1
      · rename_i i e1
        exact ⟨i, asInt_ok rv e1, w1 _ _ px rv_int rm1⟩
      · exact w1.elim⟩
end

section
variable {K : PySem.W.Frag}
theorem rvs1 {H : Hp} {h : MH} {x : SV} {vs : List V} (r : RVs K Γ H h [x] vs) : ∃ v, vs = [v] ∧ RV K Γ H h x v := by
  cases r with
  | cons r t => cases t; exact ⟨_, rfl, r⟩
theorem rvs2 {H : Hp} {h : MH} {x y : SV} {vs : List V} (r : RVs K Γ H h [x, y] vs) : ∃ v u, vs = [v, u] ∧ RV K Γ H h x v ∧ RV K Γ H h y u := by
  cases r with
  | cons r t => cases t with
    | cons r2 t => cases t; exact ⟨_, _, rfl, r, r2⟩
/-- len -/
def lenO : MO → Option Nat
  | .lst xs => some xs.length
  | .seq xs => some xs.length
  | .tpl xs => some xs.length
  | .dct ps => some ps.length
  | _ => none
def rdLen : DRA := fun xs h Q => match xs with
  | [x] => match ownO h x with
    | some p => match lenO p.2 with
      | some n => Q (.d (.int (n : Nat))) h
      | none => False
    | none => match asStr x with
      | some z => z.length ≤ sizeLine ∧ Q (.d (.int z.length)) h
      | none => match asQ h x with
        | some ds => Q (.d (.int ds.length)) h
        | none => False
  | _ => False
def rLenAll (K : PySem.W.Frag) : List V → Hp → VK → Prop := fun xs H Q => ((∃ p ys, xs = [.ref p] ∧ (SqL K H p ys ∨ SqT K H p ys) ∧ Q (.int ys.length) H) ∨ (∃ z, xs = [.str z] ∧ z.length ≤ sizeLine ∧ Q (.int z.length) H)) ∨ (∃ a kvs, xs = [V.ref a] ∧ H a = some (.dK kvs) ∧ Q (.int kvs.length) H)
theorem cr_len {X : Cx} : CallR X (.builtin "len") (rLenAll X.K) := (call_len_seq.or call_len_str).or call_lenD
theorem la_len : LRA K Γ rdLen (rLenAll K) := by
  refine ⟨fun xs h Q Q' k w => ?_, fun xs vs H h C Q r rm w k => ?_⟩
  · unfold rdLen at w ⊢
    split at w
    · split at w
      · split at w
        · exact k _ _ w
        · exact w
      · split at w
        · exact ⟨w.1, k _ _ w.2⟩
        · split at w
          · exact k _ _ w
          · exact w
    · exact w
  · unfold rdLen at w
    split at w
    · obtain ⟨v, rfl, rv⟩ := rvs1 r
      split at w
      · rename_i p e0
        obtain ⟨a, o⟩ := p
        obtain ⟨ex, ea⟩ := ownO_ok e0
        subst ex
        have ev : v = .ref a := rv
        subst ev
        obtain ⟨u0, f1, f2⟩ := ro_at (rm.ob _ _ ea)
        cases o <;> cases u0 <;> first | exact f2.elim | exact w.elim | skip
        · exact .inl (.inl ⟨a, _, rfl, .inl (SqL.of f1), k _ _ _ H PX.refl rv_int rm (by rw [dps_len f2]; exact w)⟩)
        · exact .inl (.inl ⟨a, _, rfl, .inl (SqL.of f1), k _ _ _ H PX.refl rv_int rm (by rw [← pairs_len f2]; exact w)⟩)
        · exact .inl (.inl ⟨a, _, rfl, .inr (SqT.of f1), k _ _ _ H PX.refl rv_int rm (by rw [← pairs_len f2]; exact w)⟩)
        · exact .inr ⟨a, _, rfl, f1, k _ _ _ H PX.refl rv_int rm (by rw [← pairs_len f2]; exact w)⟩
      · split at w
        · rename_i z e1
          exact .inl (.inr ⟨z, by rw [asStr_ok rv e1], w.1, k _ _ _ H PX.refl rv_int rm w.2⟩)
        · split at w
          · rename_i ds e1
            obtain ⟨a, vs, rfl, s1, d1⟩ := asQ_ok rv rm e1
            exact .inl (.inl ⟨a, vs, rfl, s1, by rw [dps_len d1]; exact k _ _ _ H PX.refl rv_int rm w⟩)
          · exact w.elim
    · exact w.elim
/-- list(x) -/
def rfList : DRF := fun xs h Q => match xs with
  | [x] => match asQ h x with
    | some ds => Q ds h
    | none => False
  | _ => False
theorem lf_list : LRF K Γ rfList (fun xs H Q => ∃ p ys, xs = [.ref p] ∧ (SqL K H p ys ∨ SqT K H p ys) ∧ ∀ l, H l = none → Q (.ref l) (upd H l (.lst ys))) := by
  refine ⟨fun xs h Q Q' k w => ?_, fun xs vs H h C Q r rm w k => ?_⟩
  · unfold rfList at w ⊢
    split at w
    · split at w
      · exact k _ _ w
      · exact w
    · exact w
  · unfold rfList at w
    split at w
    · obtain ⟨v, rfl, rv⟩ := rvs1 r
      split at w
      · rename_i ds e1
        obtain ⟨a, vs, rfl, s1, d1⟩ := asQ_ok rv rm e1
        exact ⟨a, vs, rfl, s1, fun l hl => k _ _ _ H l PX.refl d1 rm w hl⟩
      · exact w.elim
    · exact w.elim
/-- tuple(x) -/
def rdTuple : DRA := fun xs h Q => match xs with
  | [x] => match asQ h x with
    | some ds => Q (.d (.tuple ds)) h
    | none => False
  | _ => False
theorem la_tuple : LRA K Γ rdTuple (fun xs H Q => ∃ p ys, xs = [.ref p] ∧ ((SqL K H p ys ∧ ∀ l, H l = none → Q (.ref l) (upd H l (.tup ys))) ∨ (SqT K H p ys ∧ Q (.ref p) H))) := by
  refine ⟨fun xs h Q Q' k w => ?_, fun xs vs H h C Q r rm w k => ?_⟩
  · unfold rdTuple at w ⊢
    split at w
    · split at w
      · exact k _ _ w
      · exact w
    · exact w
  · unfold rdTuple at w
    split at w
    · rename_i x
      obtain ⟨v, rfl, rv⟩ := rvs1 r
      split at w
      · rename_i ds e1
        unfold asQ at e1
        split at e1
        · rename_i ds' e2
          cases e1
          obtain ⟨a, vs, rfl, s1, d1⟩ := asL_ok rv rm e2
          refine ⟨a, vs, rfl, .inl ⟨s1, fun l hl => ?_⟩⟩
          obtain ⟨p1, r1, v1⟩ := new_tup hl rm d1
          exact k _ _ _ _ p1 v1 r1 w
        · obtain ⟨a, vs, rfl, s1, d1⟩ := asT_ok rv e1
          refine ⟨a, vs, rfl, .inr ⟨s1, ?_⟩⟩
          cases x with
          | own _ => cases e1
          | d x => cases x with
            | tuple ys => cases e1; exact k _ _ _ H PX.refl rv rm w
            | _ => cases e1
      · exact w.elim
    · exact w.elim
/-- int(b), int(n) -/
def rdInt : DRA := fun xs h Q => match xs with
  | [x] => match asInt x with
    | some i => Q (.d (.int i)) h
    | none => match asBool x with
      | some b => Q (.d (.int (if b then 1 else 0))) h
      | none => False
  | _ => False
theorem la_int : LRA K Γ rdInt (fun xs H Q => (∃ i, xs = [.int i] ∧ Q (.int i) H) ∨ ∃ k, xs = [.bl k] ∧ Q (.int (if k then 1 else 0)) H) := by
  refine ⟨fun xs h Q Q' k w => ?_, fun xs vs H h C Q r rm w k => ?_⟩
  · unfold rdInt at w ⊢
    split at w
    · split at w
      · exact k _ _ w
      · split at w
        · exact k _ _ w
        · exact w
    · exact w
  · unfold rdInt at w
    split at w
    · obtain ⟨v, rfl, rv⟩ := rvs1 r
      split at w
      · rename_i i e1
        exact .inl ⟨i, by rw [asInt_ok rv e1], k _ _ _ H PX.refl rv_int rm w⟩
      · split at w
        · rename_i b e1
          exact .inr ⟨b, by rw [asBool_ok rv e1], k _ _ _ H PX.refl rv_int rm w⟩
        · exact w.elim
    · exact w.elim
/-- abs -/
def rdAbs : DRA := fun xs h Q => match xs with
  | [x] => match asInt x with
    | some i => Q (.d (.int (if i < 0 then -i else i))) h
    | none => False
  | _ => False
theorem la_abs : LRA K Γ rdAbs (fun xs H Q => ∃ i, xs = [.int i] ∧ Q (.int (if i < 0 then -i else i)) H) := by
  refine ⟨fun xs h Q Q' k w => ?_, fun xs vs H h C Q r rm w k => ?_⟩
  · unfold rdAbs at w ⊢
    split at w
    · split at w
      · exact k _ _ w
      · exact w
    · exact w
  · unfold rdAbs at w
    split at w
    · obtain ⟨v, rfl, rv⟩ := rvs1 r
      split at w
      · rename_i i e1
        exact ⟨i, by rw [asInt_ok rv e1], k _ _ _ H PX.refl rv_int rm w⟩
      · exact w.elim
    · exact w.elim
/-- all, any of a list of truths -/
def bools : List PyData → Option (List Bool)
  | [] => some []
  | .bool b :: r => match bools r with
    | some bs => some (b :: bs)
    | none => none
  | _ :: _ => none
theorem bools_ok {H : Hp} : ∀ {ds : List PyData} {vs : List V} {bs : List Bool}, DpAll K H vs ds → bools ds = some bs → vs = bs.map V.bl
  | [], _, _, h, e => by cases h; cases e; rfl
  | d :: r, _, bs, h, e => by
    cases h with
    | cons h1 h2 =>
      cases d with
      | bool b =>
        unfold bools at e
        split at e
        · rename_i bs' e'
          cases e
          cases h1
          rw [bools_ok h2 e']
          rfl
        · cases e
      | _ => cases e
def rdQ (f : List Bool → Bool) : DRA := fun xs h Q => match xs with
  | [x] => match asL h x with
    | some ds => match bools ds with
      | some bs => Q (.d (.bool (f bs))) h
      | none => False
    | none => False
  | _ => False
theorem la_q {f : List Bool → Bool} : LRA K Γ (rdQ f) (fun vs H Q => ∃ (a : Addr) (bs : List Bool), vs = [V.ref a] ∧ SqL K H a (bs.map V.bl) ∧ Q (.bl (f bs)) H) := by
  refine ⟨fun xs h Q Q' k w => ?_, fun xs vs H h C Q r rm w k => ?_⟩
  · unfold rdQ at w ⊢
    split at w
    · split at w
      · split at w
        · exact k _ _ w
        · exact w
      · exact w
    · exact w
  · unfold rdQ at w
    split at w
    · obtain ⟨v, rfl, rv⟩ := rvs1 r
      split at w
      · rename_i ds e1
        split at w
        · rename_i bs e2
          obtain ⟨a, vs, rfl, s1, d1⟩ := asL_ok rv rm e1
          rw [bools_ok d1 e2] at s1
          exact ⟨a, bs, rfl, s1, k _ _ _ H PX.refl rv_bl rm w⟩
        · exact w.elim
      · exact w.elim
    · exact w.elim
abbrev rdAll : DRA := rdQ fun bs => bs.all id
theorem la_all : LRA K Γ rdAll (rAll K) := la_q
end

section
variable {X : Cx} {a b c e : Expr} {pos p2 : Pos} {ta tb tc te : DTE} {t : DTA} {es : List Expr}
def rgD (a b : Int) : List PyData := (List.range (b - a).toNat).map fun i => PyData.int (a + (i : Nat))
def fLstRg1 (ta : DTE) : DTF := fun σ h Q => ta σ h fun x h1 => match asInt x with
  | some n => n ≤ 16777216 ∧ -16777216 ≤ n ∧ Q (rgD 0 n) h1
  | none => False
def fLstRg2 (ta tb : DTE) : DTF := fun σ h Q => ta σ h fun x h1 => tb σ h1 fun y h2 => match asInt x, asInt y with
  | some n, some m => (0 ≤ n ∧ n ≤ 16777216 ∧ -16777216 ≤ m ∧ m ≤ 16777216) ∧ Q (rgD n m) h2
  | _, _ => False
end

abbrev DRM := SV → List SV → MH → DK → Prop
structure LRM (K : PySem.W.Frag) (Γ : GI) (r' : DRM) (r : V → List V → Hp → VK → Prop) : Prop where
  mono : ∀ x xs h (Q Q' : DK), (∀ z h', Q z h' → Q' z h') → r' x xs h Q → r' x xs h Q'
  run : ∀ x v xs vs H h (C : DK) (Q : VK), RV K Γ H h x v → RVs K Γ H h xs vs → RM K Γ H h → r' x xs h C → (∀ z h' w H', PX Γ H h H' h' → RV K Γ H' h' z w → RM K Γ H' h' → C z h' → Q w H') → r v vs H Q
def dML (r : DRM) (to : DTE) (t : DTA) : DTE := fun σ h Q => to σ h fun x h1 => match asL h1 x with
  | some _ => t σ h1 fun xs h2 => r x xs h2 Q
  | none => False
section
variable {X : Cx} {a b c e o : Expr} {pos p2 apos cpos : Pos} {ta tb tc te to : DTE} {t : DTA} {es : List Expr} {id : String} {name : Str} {r : V → List V → Hp → VK → Prop} {r' : DRM}
theorem mono_ML (mr : ∀ x xs h (Q Q' : DK), (∀ z h', Q z h' → Q' z h') → r' x xs h Q → r' x xs h Q') (mo : Mono to) (mt : Mono t) : Mono (dML r' to t) := fun σ h Q Q' k w => mo _ _ _ _ (fun x h1 w1 => by
  split at w1
  · exact mt _ _ _ _ (fun xs h2 w2 => mr _ _ _ _ _ k w2) w1
  · exact w1) w
theorem de_mL (pa : PlainAttrs "list") (slot : Slot "list" name id) (hty : typeOf (.builtin id) = pure (.type "method_descriptor")) (hm : MtR X id r) (l : LRM X.K Γ r' r) (ho : DE X Γ o to) (ha : DA X Γ (e :: es) t)
    (hbase : attributeBase o name X.env (eval o X.env) = eval o X.env := by rfl)
    (hfew : ((backTo cpos (starEach (e :: es) X.env)).all (fun x => !x.1) && (backToKw cpos (keywordEach [] X.env)).all (fun x => x.1.isSome)
      && decide ((e :: es).length + ([] : List Keyword).length + (if ([] : List Keyword).isEmpty then 0 else 1) < 30)) = true := by rfl)
    (hline : (apos.endLine == cpos.line) = true := by rfl) (hs : starEach (e :: es) X.env = (false, eval e X.env) :: starEach es X.env := by rfl) (hplain : (backTo cpos (starEach es X.env)).any (·.1) = false := by rfl) :
    DE X Γ (.Call (.Attribute o name apos) (e :: es) [] cpos) (dML r' to t) :=
  ⟨mono_ML l.mono ho.mono ha.mono, pe_imp (pe_bm pa slot hty hm ho.pe ha.pa hbase hfew hline hs hplain) fun σ H Q ⟨σd, h, rs, rm, w⟩ => lift_mk ho.mono rs rm w fun x h1 v H1 px rs1 rv rm1 w1 => by
    split at w1
    · rename_i ds e1
      obtain ⟨a, vs, rfl, s1, d1⟩ := asL_ok rv rm1 e1
      refine ⟨.inl ⟨rfl, vs, s1⟩, lift_mk ha.mono rs1 rm1 w1 fun xs h2 us H2 px2 rs2 rus rm2 w2 => ?_⟩
      exact l.run x _ xs us H2 h2 _ Q (rv.up px2) rus rm2 w2 fun z h' w' H' px' rz rm' q => q _ _ ((px.trans px2).trans px') rz rm'
    · exact w1.elim⟩
end
/-- one's own list -/
def ownL (h : MH) : SV → Option (Addr × List PyData)
  | .own a => match h a with
    | some (.lst xs) => some (a, xs)
    | _ => none
  | _ => none
theorem ownL_ok {h : MH} {x : SV} {a : Addr} {xs : List PyData} (e : ownL h x = some (a, xs)) : x = .own a ∧ h a = some (.lst xs) := by
  cases x with
  | d _ => cases e
  | own b =>
    cases q : h b with
    | none => simp only [ownL, q] at e; cases e
    | some m => cases m with
      | lst ys => simp only [ownL, q] at e; cases e; exact ⟨rfl, q⟩
      | _ => simp only [ownL, q] at e; cases e
def rdAppend : DRM := fun x xs h Q => match xs with
  | [y] => match fz1 y h with
    | some (d, h1) => match ownL h1 x with
      | some (a, ds) => ds.length < sizeLine ∧ Q (.d .none) (mput h1 a (.lst (ds ++ [d])))
      | none => False
    | none => False
  | _ => False
section
variable {K : PySem.W.Frag}
theorem lm_append : LRM K Γ rdAppend rAppend := by
  refine ⟨fun x xs h Q Q' k w => ?_, fun x v xs vs H h C Q rv r rm w k => ?_⟩
  · unfold rdAppend at w ⊢
    split at w
    · split at w
      · split at w
        · exact ⟨w.1, k _ _ w.2⟩
        · exact w
      · exact w
    · exact w
  · unfold rdAppend at w
    split at w
    · obtain ⟨u, rfl, ru⟩ := rvs1 r
      split at w
      · rename_i d h1 e1
        split at w
        · rename_i a ds e2
          obtain ⟨ex, ea⟩ := ownL_ok e2
          subst ex
          obtain ⟨px, rm1, rd⟩ := fz1_ok ru rm e1
          have ev : v = .ref a := rv
          subst ev
          obtain ⟨ws, f1, f2⟩ := rm1.ob a _ ea
          refine ⟨a, ws, u, rfl, rfl, f1, by rw [dps_len f2]; exact w.1, ?_⟩
          exact k _ _ _ _ (px.trans (put_px ea rm1)) rv_non (put_rm ea rm1 (dps_app f2 (.cons rd .nil))) w.2
        · exact w.elim
      · exact w.elim
    · exact w.elim
end
end DL

namespace DL
open PySem PySem.Spec PyProof.Rows L2
set_option autoImplicit true

theorem DF.toOwn {X : Cx} {e : Expr} {t : DTF} (f : DF X Γ e t) : DE X Γ e (fun σ h Q => t σ h fun ds h1 => ∀ p, h1 p = none → Q (.own p) (mput h1 p (.lst ds))) :=
  ⟨fun σ h Q Q' k w => f.mono _ _ _ _ (fun ds h1 w1 p hp => k _ _ (w1 p hp)) w, pe_imp f.pe fun σ H Q ⟨σd, h, rs, rm, w⟩ => ⟨σd, h, rs, rm, f.mono _ _ _ _ (fun ds h' q ws H' p px hd rm' n => by
    exact q p (rm'.tracked n) _ _ (px.trans (own_px n (rm'.tracked n) (rm'.notx n))) rfl (own_rm n rm' hd)) w⟩⟩
def dOwn (t : DTF) : DTE := fun σ h Q => t σ h fun ds h1 => ∀ p, h1 p = none → Q (.own p) (mput h1 p (.lst ds))

structure DEnds.Le (D D' : DEnds) : Prop where
  nx : ∀ σ h, D.nx σ h → D'.nx σ h
  rt : ∀ x h, D.rt x h → D'.rt x h
  bk : ∀ σ h, D.bk σ h → D'.bk σ h
  ct : ∀ σ h, D.ct σ h → D'.ct σ h
def liftE (K : PySem.W.Frag) (Γ : GI) (H0 : Hp) (h0 : MH) (D : Ends) : DEnds where
  nx := fun σd h => ∀ σ H, PX Γ H0 h0 H h → RSt K Γ H h σd σ → RM K Γ H h → D.nx σ H
  rt := fun x h => ∀ v H, PX Γ H0 h0 H h → RV K Γ H h x v → RM K Γ H h → D.rt v H
  bk := fun σd h => ∀ σ H, PX Γ H0 h0 H h → RSt K Γ H h σd σ → RM K Γ H h → D.bk σ H
  ct := fun σd h => ∀ σ H, PX Γ H0 h0 H h → RSt K Γ H h σd σ → RM K Γ H h → D.ct σ H
def liftS (K : PySem.W.Frag) (Γ : GI) (t : DTS) : TS := fun D σ H => ∃ σd h, RSt K Γ H h σd σ ∧ RM K Γ H h ∧ t (liftE K Γ H h D) σd h
def MonoS (t : DTS) : Prop := ∀ D D' σ h, DEnds.Le D D' → t D σ h → t D' σ h
structure DS (X : Cx) (Γ : GI) (st : Stmt) (t : DTS) : Prop where
  mono : MonoS t
  ps : PS X st (liftS X.K Γ t)
structure DSs (X : Cx) (Γ : GI) (st : List Stmt) (t : DTS) : Prop where
  mono : MonoS t
  ps : PSs X st (liftS X.K Γ t)
theorem liftE_up {K : PySem.W.Frag} {H0 H1 : Hp} {h0 h1 : MH} {D : Ends} (p : PX Γ H0 h0 H1 h1) : DEnds.Le (liftE K Γ H0 h0 D) (liftE K Γ H1 h1 D) :=
  ⟨fun _ _ w σ H q => w σ H (p.trans q), fun _ _ w v H q => w v H (p.trans q), fun _ _ w σ H q => w σ H (p.trans q), fun _ _ w σ H q => w σ H (p.trans q)⟩
theorem le_refl {D : DEnds} : DEnds.Le D D := ⟨fun _ _ w => w, fun _ _ w => w, fun _ _ w => w, fun _ _ w => w⟩

section
variable {X : Cx} {a b c e : Expr} {pos p2 : Pos} {ta tb tc te : DTE} {t u : DTS} {st : Stmt} {rest : List Stmt} {es : List Expr}
def dNext : DTS := fun D σ h => D.nx σ h
def dSeq (t u : DTS) : DTS := fun D σ h => t { D with nx := fun σ' h' => u D σ' h' } σ h
theorem mono_seq (mt : MonoS t) (mu : MonoS u) : MonoS (dSeq t u) := fun D D' σ h l w => by
  refine mt _ _ _ _ ?_ w
  exact ⟨fun σ' h' w' => mu _ _ _ _ l w', l.rt, l.bk, l.ct⟩
theorem dss_nil : DSs X Γ [] dNext := ⟨fun D D' σ h l w => l.nx _ _ w, pss_imp pss_nil fun D σ H ⟨σd, h, rs, rm, w⟩ => w σ H PX.refl rs rm⟩
theorem dss_cons (h1 : DS X Γ st t) (h2 : DSs X Γ rest u) : DSs X Γ (st :: rest) (dSeq t u) :=
  ⟨mono_seq h1.mono h2.mono, pss_imp (pss_cons h1.ps h2.ps) fun D σ H ⟨σd, h, rs, rm, w⟩ => ⟨σd, h, rs, rm, by
    refine h1.mono _ _ _ _ ?_ w
    exact ⟨fun σd' h' w' σ' H' px rs' rm' => ⟨σd', h', rs', rm', h2.mono _ _ _ _ (liftE_up px) w'⟩, fun _ _ w' => w', fun _ _ w' => w', fun _ _ w' => w'⟩⟩⟩
theorem dss_one (h1 : DS X Γ st t) : DSs X Γ [st] t := ⟨h1.mono, pss_one h1.ps⟩
def dDrop (te : DTE) : DTS := fun D σ h => te σ h fun _ h1 => D.nx σ h1
theorem ds_expr (he : DE X Γ e te) (hs : swapsWith e none pos.line X.env = pure false := by rfl) : DS X Γ (.Expr e pos) (dDrop te) :=
  ⟨fun D D' σ h l w => he.mono _ _ _ _ (fun _ _ w' => l.nx _ _ w') w, ps_imp (ps_expr he.pe hs) fun D σ H ⟨σd, h, rs, rm, w⟩ => lift_mk he.mono rs rm w fun x h1 v H1 px rs1 rv rm1 w1 => w1 σ H1 px rs1 rm1⟩
def dRet (te : DTE) : DTS := fun D σ h => te σ h D.rt
theorem ds_ret (he : DE X Γ e te) : DS X Γ (.Return (some e) pos) (dRet te) :=
  ⟨fun D D' σ h l w => he.mono _ _ _ _ (fun _ _ w' => l.rt _ _ w') w, ps_imp (ps_ret he.pe) fun D σ H ⟨σd, h, rs, rm, w⟩ => lift_mk he.mono rs rm w fun x h1 v H1 px rs1 rv rm1 w1 => w1 v H1 px rv rm1⟩
/-- return of one's own list as data -/
def dRetF (te : DTE) : DTS := fun D σ h => te σ h fun x h1 => match fz1 x h1 with
  | some (d, h2) => D.rt (.d d) h2
  | none => False
def dRetN : DTS := fun D _ h => D.rt (.d .none) h
def dIfS (c : DTT) (t u : DTS) : DTS := fun D σ h => c σ h fun b h1 => if b = true then t D σ h1 else u D σ h1
theorem mono_ifS {c : DTT} (mc : Mono c) (mt : MonoS t) (mu : MonoS u) : MonoS (dIfS c t u) := fun D D' σ h l w => mc _ _ _ _ (fun b h1 w1 => by
  cases b with
  | true => exact mt _ _ _ _ l w1
  | false => exact mu _ _ _ _ l w1) w
theorem ds_if {c : Expr} {a b : List Stmt} {tc : DTT} (hc : DT X Γ c tc) (ha : DSs X Γ a t) (hb : DSs X Γ b u) : DS X Γ (.If c a b pos) (dIfS tc t u) :=
  ⟨mono_ifS hc.mono ha.mono hb.mono, ps_imp (ps_if hc.pt ha.ps hb.ps) fun D σ H ⟨σd, h, rs, rm, w⟩ => lift_mk hc.mono rs rm w fun b h1 k H1 px rs1 rv rm1 w1 => by
    subst rv
    cases b with
    | true => exact iteT ⟨σd, h1, rs1, rm1, ha.mono _ _ _ _ (liftE_up px) w1⟩
    | false => exact iteF ⟨σd, h1, rs1, rm1, hb.mono _ _ _ _ (liftE_up px) w1⟩⟩
inductive Tg where
  | nm (i : Nat)
  | tup (is : List Nat)
  | star (is : List Nat) (z : Nat)
def Tg.isStar : Tg → Bool
  | .star _ _ => true
  | _ => false
/-- (a, b, .., *r) = a tuple: n names ahead of the star, a new list of the others -/
def gStar (K : PySem.W.Frag) (n : Nat) (t : TGs) : TG := fun v σ H Q => ∃ a xs, v = .ref a ∧ SqT K H a xs ∧ n ≤ xs.length ∧ ∀ D, H D = none → t (xs.take n ++ [.ref D]) σ (upd H D (.lst (xs.drop n))) Q
def rawGs : List Nat → TGs
  | [] => gNil
  | i :: r => gCons (gName i) (rawGs r)
def rawT (K : PySem.W.Frag) : Tg → TG
  | .nm i => gName i
  | .tup is => gTup K is.length (rawGs is)
  | .star is z => gStar K is.length (rawGs (is ++ [z]))
def setAll : List Nat → List PyData → DSt → DSt
  | i :: r, d :: ds, σ => setAll r ds (σ.set i (some (.d d)))
  | _, _, σ => σ
def bindT (g : Tg) (x : SV) (σ : DSt) : Option DSt := match g with
  | .nm i => some (σ.set i (some x))
  | .tup is => match x with
    | .d (.tuple ds) => if ds.length = is.length then some (setAll is ds σ) else none
    | _ => none
  | .star is z => match x with
    | .d (.tuple ds) => if is.length ≤ ds.length then some (setAll (is ++ [z]) (ds.take is.length ++ [.list (ds.drop is.length)]) σ) else none
    | _ => none
def Tg.ix : Tg → List Nat
  | .nm i => [i]
  | .tup is => is
  | .star is z => is ++ [z]
theorem wipe_at {i : Nat} {o : Option V} : ∀ (vs : List Nat) (σ : L2.St), (wipe (σ.set i o) vs).set i none = (wipe σ vs).set i none
  | [], σ => by
    show (σ.set i o).set i none = σ.set i none
    rw [List.set_set]
  | k :: r, σ => by
    show ((wipe (σ.set i o) r).set k none).set i none = ((wipe σ r).set k none).set i none
    by_cases e : k = i
    · subst e
      rw [List.set_set, List.set_set]
      exact wipe_at r σ
    · rw [List.set_comm _ _ e, wipe_at r σ, List.set_comm _ _ e]
theorem wipe_set {σ : L2.St} {i : Nat} {o : Option V} : ∀ {vs : List Nat}, i ∈ vs → wipe (σ.set i o) vs = wipe σ vs
  | [], h => by cases h
  | j :: r, h => by
    show (wipe (σ.set i o) r).set j none = (wipe σ r).set j none
    by_cases e : i = j
    · subst e; exact wipe_at r σ
    · rw [wipe_set (vs := r) (by rcases List.mem_cons.mp h with z | z; exact absurd z e; exact z)]
theorem wipe_wipe {σ : L2.St} : ∀ {vs : List Nat}, wipe (wipe σ vs) vs = wipe σ vs
  | [] => rfl
  | j :: r => by
    show (wipe ((wipe σ r).set j none) r).set j none = (wipe σ r).set j none
    rw [wipe_at r (wipe σ r), wipe_wipe (vs := r)]
theorem rawGs_ok {K : PySem.W.Frag} {H : Hp} {h : MH} {Q : L2.St → Hp → Prop} : ∀ {is : List Nat} {vs : List V} {ds : List PyData} {σd : DSt} {σ : L2.St}, DpAll K (Fz Γ H h) vs ds → ds.length = is.length → RSt K Γ H h σd σ →
    (∀ σ', RSt K Γ H h (setAll is ds σd) σ' → (∀ l, (∀ i ∈ is, i ∈ l) → wipe σ' l = wipe σ l) → Q σ' H) → rawGs is vs σ H Q
  | [], _, [], _, _, hd, _, rs, k => by cases hd; exact ⟨rfl, k _ rs fun _ _ => rfl⟩
  | [], _, _ :: _, _, _, _, hl, _, _ => by simp at hl
  | _ :: _, _, [], _, _, _, hl, _, _ => by simp at hl
  | i :: r, _, d :: ds, σd, σ, hd, hl, rs, k => by
    cases hd with
    | cons h1 h2 =>
      refine ⟨_, _, rfl, ?_⟩
      exact rawGs_ok h2 (by simpa using hl) (rs.set (show RV K Γ H h (.d d) _ from h1)) fun σ' rs' hw => k σ' rs' fun l hl' => by
        rw [hw l fun j hj => hl' j (List.mem_cons_of_mem _ hj), wipe_set (hl' i List.mem_cons_self)]
theorem rawT_okS {K : PySem.W.Frag} {H : Hp} {h : MH} {g : Tg} {x : SV} {v : V} {σd σd' : DSt} {σ : L2.St} {Q : L2.St → Hp → Prop} (rv : RV K Γ H h x v) (rs : RSt K Γ H h σd σ) (rm : RM K Γ H h) (e : bindT g x σd = some σd')
    (k : ∀ σ' H', PX Γ H h H' h → RM K Γ H' h → RSt K Γ H' h σd' σ' → (∀ l, (∀ i ∈ g.ix, i ∈ l) → wipe σ' l = wipe σ l) → Q σ' H') : rawT K g v σ H Q := by
  cases g with
  | nm i =>
    cases e
    exact k _ _ PX.refl rm (rs.set rv) fun l hl => wipe_set (hl i List.mem_cons_self)
  | tup is =>
    cases x with
    | own _ => cases e
    | d x => cases x with
      | tuple ds =>
        have e' : (if ds.length = is.length then some (setAll is ds σd) else none) = some σd' := e
        by_cases q : ds.length = is.length
        · rw [if_pos q] at e'
          cases e'
          have rv' : Dp K (Fz Γ H h) v (.tuple ds) := rv
          cases rv' with
          | @tup a vs _ h1 h2 =>
            exact ⟨_, _, rfl, sqT_up fz_sub h1, by rw [dps_len h2]; exact q, rawGs_ok h2 q rs fun σ' rs' w => k σ' H PX.refl rm rs' w⟩
        · rw [if_neg q] at e'; cases e'
      | _ => cases e
  | star is z =>
    cases x with
    | own _ => cases e
    | d x => cases x with
      | tuple ds =>
        have e' : (if is.length ≤ ds.length then some (setAll (is ++ [z]) (ds.take is.length ++ [.list (ds.drop is.length)]) σd) else none) = some σd' := e
        by_cases q : is.length ≤ ds.length
        · rw [if_pos q] at e'
          cases e'
          have rv' : Dp K (Fz Γ H h) v (.tuple ds) := rv
          cases rv' with
          | @tup a vs _ h1 h2 =>
            refine ⟨_, _, rfl, sqT_up fz_sub h1, by rw [dps_len h2]; exact q, fun D nD => ?_⟩
            have dd : DpAll K (Fz Γ H h) (vs.drop is.length) (ds.drop is.length) := dps_drop _ h2
            have px : PX Γ H h (upd H D (.lst (vs.drop is.length))) h := rm.px nD
            have rm1 : RM K Γ (upd H D (.lst (vs.drop is.length))) h := RM.new nD rm
            have nl : Dp K (Fz Γ (upd H D (.lst (vs.drop is.length))) h) (.ref D) (.list (ds.drop is.length)) := Dp.lst (SqL.of (Fz.of upd_same (rm.tracked nD) (rm.notx nD))) (dps_up px.ex _ _ dd)
            refine rawGs_ok (dps_app (dps_up px.ex _ _ (dps_take is.length h2)) (.cons nl .nil)) (by simp; omega) (rs.up px) fun σ' rs' w => k σ' _ px rm1 rs' w
        · rw [if_neg q] at e'; cases e'
      | _ => cases e
theorem rawT_ok {K : PySem.W.Frag} {H : Hp} {h : MH} {g : Tg} {x : SV} {v : V} {σd σd' : DSt} {σ : L2.St} {Q : L2.St → Hp → Prop} (ns : g.isStar = false) (rv : RV K Γ H h x v) (rs : RSt K Γ H h σd σ) (e : bindT g x σd = some σd')
    (k : ∀ σ', RSt K Γ H h σd' σ' → (∀ l, (∀ i ∈ g.ix, i ∈ l) → wipe σ' l = wipe σ l) → Q σ' H) : rawT K g v σ H Q := by
  cases g with
  | nm i =>
    cases e
    exact k _ (rs.set rv) fun l hl => wipe_set (hl i List.mem_cons_self)
  | star is z => cases ns
  | tup is =>
    cases x with
    | own _ => cases e
    | d x => cases x with
      | tuple ds =>
        have e' : (if ds.length = is.length then some (setAll is ds σd) else none) = some σd' := e
        by_cases q : ds.length = is.length
        · rw [if_pos q] at e'
          cases e'
          have rv' : Dp K (Fz Γ H h) v (.tuple ds) := rv
          cases rv' with
          | @tup a vs _ h1 h2 =>
            exact ⟨_, _, rfl, sqT_up fz_sub h1, by rw [dps_len h2]; exact q, rawGs_ok h2 q rs k⟩
        · rw [if_neg q] at e'; cases e'
      | _ => cases e
structure DG (X : Cx) (tg : Expr) (g : Tg) : Prop where
  pg : PG X tg (rawT X.K g)
structure DGs (X : Cx) (tg : List Expr) (is : List Nat) : Prop where
  pg : PGs X tg (rawGs is)
theorem dg_nm (i : Nat) {x : Str} (hN : X.N.Nodup) (hi : X.N[i]? = some x := by rfl) (hx : Loc X.env.scope x := by first | exact Or.inl rfl | exact Or.inr rfl) (hf : X.fn x = true ∨ X.env.scope.names.lookup x = some .local := by first | exact .inl rfl | exact .inr rfl) : DG X (.Name x pos) (.nm i) := ⟨pg_name hN hi hx hf⟩
theorem dgs_nil : DGs X [] [] := ⟨pgs_nil⟩
theorem dgs_cons {tg : Expr} {tgs : List Expr} {i : Nat} {is : List Nat} (h1 : DG X tg (.nm i)) (h2 : DGs X tgs is) (hs : (assignEach (tg :: tgs) X.env).map (·.2) = assign tg X.env :: (assignEach tgs X.env).map (·.2) := by rfl) : DGs X (tg :: tgs) (i :: is) := ⟨pgs_cons h1.pg h2.pg hs⟩
theorem dg_tup {k : Nat} {is : List Nat} (hc : X.calm = true) (h : DGs X es is) (hn : (assignEach es X.env).length = is.length := by rfl) (hst : (assignEach es X.env).findIdx? (·.1) = none := by rfl) : DG X (.Tuple es k pos) (.tup is) := ⟨pg_tup hc h.pg hn hst⟩

section
variable {prog : Program} {w : World} {A : Around} {EX : Value → Shared → Prop} {s : Shared} {env : Env}
end
/-- target = value -/
def dAsg (te : DTE) (g : Tg) : DTS := fun D σ h => te σ h fun x h1 => match bindT g x σ with
  | some σ' => D.nx σ' h1
  | none => False
theorem mono_asg {g : Tg} (me : Mono te) : MonoS (dAsg te g) := fun D D' σ h l w => me _ _ _ _ (fun x h1 w1 => by
  split at w1
  · exact l.nx _ _ w1
  · exact w1) w
theorem asg_lift {K : PySem.W.Frag} {g : Tg} (me : Mono te) : ∀ D σ H, liftS K Γ (dAsg te g) D σ H → tAsg (liftV K Γ te) (rawT K g) D σ H := fun D σ H ⟨σd, h, rs, rm, w⟩ =>
  lift_mk me rs rm w fun x h1 v H1 px rs1 rv rm1 w1 => by
    split at w1
    · rename_i σ' e1
      exact rawT_okS rv rs1 rm1 e1 fun σr H2 px2 rm2 rs' _ => w1 σr H2 (px.trans px2) rs' rm2
    · exact w1.elim
/-- name = value -/
theorem ds_set (i : Nat) {x : Str} {pos' : Pos} (hN : X.N.Nodup) (he : DE X Γ e te) (hi : X.N[i]? = some x := by rfl) (hx : Loc X.env.scope x := by first | exact Or.inl rfl | exact Or.inr rfl) (hs : swapsWith e (some (.Name x pos')) pos.line X.env = pure false := by rfl)
    (hf : X.fn x = true ∨ X.env.scope.names.lookup x = some .local := by first | exact .inl rfl | exact .inr rfl) : DS X Γ (.Assign [.Name x pos'] e pos) (dAsg te (.nm i)) :=
  ⟨mono_asg he.mono, ps_imp (ps_set hN hi hx he.pe hs hf) (asg_lift (g := .nm i) he.mono)⟩
/-- a, b = x, y -/
def dPar (i j : Nat) (ta : DTA) : DTS := fun D σ h => ta σ h fun xs h1 => match xs with
  | [x, y] => D.nx ((σ.set i (some x)).set j (some y)) h1
  | _ => False
theorem ds_par {i j : Nat} {x y : Str} {a b : Expr} {ta : DTA} {px py pt : Pos} {kt k2 pt2} (hc : X.calm = true) (hN : X.N.Nodup) (ha : DA X Γ [a, b] ta) (hi : X.N[i]? = some x := by rfl) (hj : X.N[j]? = some y := by rfl) (hij : i ≠ j := by decide)
    (hx : X.env.scope.names.lookup x = some .local := by rfl) (hy : X.env.scope.names.lookup y = some .local := by rfl)
    (hw : swappedStores [.Tuple [.Name x px, .Name y py] kt pt] (.Tuple [a, b] k2 pt2) X.env = pure (some [x, y]) := by rfl)
    (hs : swapsWithSole [.Tuple [.Name x px, .Name y py] kt pt] (.Tuple [a, b] k2 pt2) pos.line X.env = pure false := by rfl) :
    DS X Γ (.Assign [.Tuple [.Name x px, .Name y py] kt pt] (.Tuple [a, b] k2 pt2) pos) (dPar i j ta) :=
  ⟨fun D D' σ h l w => ha.mono _ _ _ _ (fun xs h1 w1 => by
    split at w1
    · exact l.nx _ _ w1
    · exact w1) w, ps_imp (ps_par hc hN hi hj hij hx hy ha.pa hw hs) fun D σ H ⟨σd, h, rs, rm, w⟩ => lift_mk ha.mono rs rm w fun xs h1 vs H1 px rs1 rvs rm1 w1 => by
      split at w1
      · obtain ⟨v, u, rfl, rv, ru⟩ := rvs2 rvs
        exact ⟨v, u, rfl, w1 _ H1 px ((rs1.set rv).set ru) rm1⟩
      · exact w1.elim⟩
def dPar3 (i j l : Nat) (ta : DTA) : DTS := fun D σ h => ta σ h fun xs h1 => match xs with
  | [x, y, z] => D.nx (((σ.set i (some x)).set j (some y)).set l (some z)) h1
  | _ => False
/-- what a store to a subscript makes of what is one's own -/
def setO (o : MO) (i y : SV) : Option MO := match o with
  | .seq xs => match asInt i with
    | some k => match ixN xs.length k with
      | some j => some (.seq (xs.set j y))
      | none => none
    | none => none
  | .dct ps => match asKey i with
    | some k => if Nat.blt ps.length 16777216 = true then some (.dct (putS ps k y)) else none
    | none => none
  | _ => none
theorem pairs_set {α β : Type} {R : α → β → Prop} {a : α} {b : β} (r : R a b) : ∀ {l : List α} {m : List β} (j : Nat), Paired R l m → Paired R (l.set j a) (m.set j b)
  | _, _, _, .nil => .nil
  | _, _, 0, .cons _ t => .cons r t
  | _, _, j + 1, .cons h t => .cons h (pairs_set r j t)
def rSetG (o i v : V) (H : Hp) (Q : Hp → Prop) : Prop := rSetL o i v H Q ∨ rSetD o i v H Q
theorem set_G {X : Cx} (hu : X.A.units + 1 < cLine) : PSet X rSetG := by
  intro pins s σ H o i v ov iv u Q I ro ri rv h
  rcases h with h | h
  · exact set_list pins s σ H o i v ov iv u Q I ro ri rv h
  · exact set_dict hu pins s σ H o i v ov iv u Q I ro ri rv h
theorem setO_ok {K : PySem.W.Frag} {Γ : GI} {H : Hp} {h : MH} {x i y : SV} {u v w : V} {p : Addr × MO} {o : MO} (rm : RM K Γ H h) (rx : RV K Γ H h x u) (ri : RV K Γ H h i v) (ry : RV K Γ H h y w) (e : ownO h x = some p) (e2 : setO p.2 i y = some o) {Q : Hp → Prop}
    (k : ∀ H', PX Γ H h H' (mput h p.1 o) → RM K Γ H' (mput h p.1 o) → Q H') : rSetG u v w H Q := by
  obtain ⟨ex, ea⟩ := ownO_ok e
  subst ex
  have ev : u = .ref p.1 := rx
  subst ev
  have ry' : RVF K (Fz Γ H h) y w := by cases y <;> exact ry
  obtain ⟨u0, f1, f2⟩ := ro_at (rm.ob _ _ ea)
  obtain ⟨a, m⟩ := p
  simp only at e2 k f1 f2 ea
  unfold setO at e2
  split at e2
  · split at e2
    · rename_i j0 e3
      split at e2
      · rename_i j e4
        cases e2
        cases u0 <;> first | exact f2.elim | skip
        rename_i vs
        refine .inl ⟨a, vs, j0, j, rfl, asInt_ok ri e3, f1, by rw [← pairs_len f2]; exact e4, ?_⟩
        exact k _ (put_px ea rm) (put_rmG ea rm (show Paired _ _ _ from pairs_set ry' j f2))
      · cases e2
    · cases e2
  · split at e2
    · rename_i j0 e3
      split at e2
      · rename_i e4
        cases e2
        cases u0 <;> first | exact f2.elim | skip
        rename_i kvs
        refine .inr ⟨a, _, rfl, ?_, k _ (put_px (o := .dK (putK kvs j0 w)) ea rm) (put_rmG ea rm (show Paired _ _ _ from putS_ok f2 ry'))⟩
        rw [asKey_ok ri e3]
        exact DPut.k f1 (by rw [← pairs_len f2, sizeLine_eq]; simpa using e4)
      · cases e2
    · cases e2
  · cases e2
/-- x[i] = e, x one's own -/
def dSetIx (te to ti : DTE) : DTS := fun D σ h => te σ h fun y h1 => to σ h1 fun x h2 => ti σ h2 fun i h3 => match ownO h3 x with
  | some p => match setO p.2 i y with
    | some o => D.nx σ (mput h3 p.1 o)
    | none => False
  | none => match fz1 y h3 with
    | some (d, h4) => match ownL h4 x, asInt i with
      | some (a, ds), some k => match ixN ds.length k with
        | some j => D.nx σ (mput h4 a (.lst (ds.set j d)))
        | none => False
      | _, _ => False
    | none => False
theorem ds_setIx {o i e : Expr} {to ti te : DTE} {p3 : Pos} (hu : X.A.units + 1 < cLine) (he : DE X Γ e te) (ho : DE X Γ o to) (hi : DE X Γ i ti)
    (ha : ∀ v, assign (.Subscript o i p3) X.env v = (do
      let ov ← holding [v] (eval o X.env)
      let iv ← holding [v, ov] (eval i X.env)
      standAt p3
      holding [v, ov, iv] (setItem ov iv v)
      release [v, ov, iv] []) := by intro _; rfl)
    (hs : swapsWithSole [.Subscript o i p3] e pos.line X.env = pure false := by rfl) (hw : swappedStores [.Subscript o i p3] e X.env = pure none := by rfl)
    (h1 : (assignEach [.Subscript o i p3] X.env).map (·.2) = [assign (.Subscript o i p3) X.env] := by rfl) : DS X Γ (.Assign [.Subscript o i p3] e pos) (dSetIx te to ti) :=
  ⟨fun D D' σ h l w => he.mono _ _ _ _ (fun y h1 w1 => ho.mono _ _ _ _ (fun x h2 w2 => hi.mono _ _ _ _ (fun k h3 w3 => by
    split at w3
    · split at w3
      · exact l.nx _ _ w3
      · exact w3
    · split at w3
      · split at w3
        · split at w3
          · exact l.nx _ _ w3
          · exact w3
        · exact w3
      · exact w3) w2) w1) w, ps_imp (ps_asg he.pe (pg_sub ho.pe hi.pe (set_G hu) ha) hs hw h1) fun D σ H ⟨σd, h, rs, rm, w⟩ =>
    lift_mk he.mono rs rm w fun y h1 yv H1 px rs1 ry rm1 w1 => lift_mk ho.mono rs1 rm1 w1 fun x h2 xv H2 px2 rs2 rx rm2 w2 => lift_mk hi.mono rs2 rm2 w2 fun k h3 kv H3 px3 rs3 rk rm3 w3 => by
      split at w3
      · rename_i p e0
        split at w3
        · rename_i o' e1
          exact setO_ok rm3 (rx.up px3) rk ((ry.up px2).up px3) e0 e1 fun H' px5 rm5 => w3 _ _ (((px.trans px2).trans px3).trans px5) (rs3.up px5) rm5
        · exact w3.elim
      · split at w3
        · rename_i d h4 e1
          obtain ⟨p4, rm4, rd⟩ := fz1_ok ((ry.up px2).up px3) rm3 e1
          split at w3
          · rename_i a ds j0 e2 e3
            split at w3
            · rename_i j e4
              obtain ⟨ex, ea⟩ := ownL_ok e2
              subst ex
              have ev : xv = .ref a := rx
              subst ev
              obtain ⟨ws, f1, f2⟩ := rm4.ob a _ ea
              have px5 : PX Γ H3 h4 (upd H3 a (.lst (ws.set j yv))) (mput h4 a (.lst (ds.set j d))) := put_px ea rm4
              refine .inl ⟨a, ws, j0, j, rfl, asInt_ok rk e3, f1, by rw [dps_len f2]; exact e4, ?_⟩
              exact w3 _ _ ((((px.trans px2).trans px3).trans p4).trans px5) ((rs3.up p4).up px5) (put_rm ea rm4 (dps_set j rd f2))
            · exact w3.elim
          · exact w3.elim
        · exact w3.elim⟩
def whN (c : DTT) (tb : DTS) (D : DEnds) : Nat → DSt → MH → Prop
  | 0, _, _ => False
  | n + 1, σ, h => c σ h fun b h1 => if b = true then tb { nx := fun σ' h' => whN c tb D n σ' h', ct := fun σ' h' => whN c tb D n σ' h', bk := D.nx, rt := D.rt } σ h1 else D.nx σ h1
def dWhile (c : DTT) (tb : DTS) : DTS := fun D σ h => ∃ n, whN c tb D n σ h
theorem whN_le {c : DTT} {tb : DTS} (mc : Mono c) (mb : MonoS tb) {D D' : DEnds} (l : DEnds.Le D D') : ∀ n σ h, whN c tb D n σ h → whN c tb D' n σ h
  | 0, _, _, w => w
  | n + 1, σ, h, w => mc _ _ _ _ (fun b h1 w1 => by
    cases b with
    | true =>
      refine mb _ _ _ _ ?_ w1
      exact ⟨whN_le mc mb l n, l.rt, l.nx, whN_le mc mb l n⟩
    | false => exact l.nx _ _ w1) w
theorem ds_while {c : Expr} {body : List Stmt} {tc : DTT} {tb : DTS} (hp : PassesOwn (model X.prog X.w) X.A X.env X.xe) (hc : DT X Γ c tc) (hb : DSs X Γ body tb) : DS X Γ (.While c body [] pos) (dWhile tc tb) :=
  ⟨fun D D' σ h l ⟨n, w⟩ => ⟨n, whN_le hc.mono hb.mono l n σ h w⟩, ps_imp (ps_while hp hc.pt hb.ps) fun D σ H ⟨σd, h, rs, rm, n, w⟩ => by
    refine ⟨fun m σ' H' => ∃ σd' h', PX Γ H h H' h' ∧ RSt X.K Γ H' h' σd' σ' ∧ RM X.K Γ H' h' ∧ whN tc tb (liftE X.K Γ H h D) m σd' h', ⟨n, σd, h, PX.refl, rs, rm, w⟩, ?_⟩
    rintro m σ' H' ⟨σd', h', px, rs', rm', w'⟩
    cases m with
    | zero => exact w'.elim
    | succ m =>
      refine lift_mk hc.mono rs' rm' w' fun b h1 k H1 px1 rs1 rv rm1 w1 => ?_
      subst rv
      cases b with
      | false => exact w1 σ' H1 (px.trans px1) rs1 rm1
      | true =>
        refine ⟨fun σ2 H2 => ∃ σd2 h2, PX Γ H h H2 h2 ∧ RSt X.K Γ H2 h2 σd2 σ2 ∧ RM X.K Γ H2 h2 ∧ whN tc tb (liftE X.K Γ H h D) m σd2 h2, fun σ2 H2 z => ⟨m, Nat.lt_succ_self m, z⟩, σd', h1, rs1, rm1, hb.mono _ _ _ _ ?_ w1⟩
        have px2 := px.trans px1
        exact ⟨fun σd2 h2 w2 σ2 H2 q r2 m2 => ⟨σd2, h2, px2.trans q, r2, m2, w2⟩, fun x2 h2 w2 v2 H2 q r2 m2 => w2 v2 H2 (px2.trans q) r2 m2, fun σd2 h2 w2 σ2 H2 q r2 m2 => w2 σ2 H2 (px2.trans q) r2 m2, fun σd2 h2 w2 σ2 H2 q r2 m2 => ⟨σd2, h2, px2.trans q, r2, m2, w2⟩⟩⟩
end
end DL

namespace DL
open PySem PySem.Spec PyProof.Rows L2
set_option autoImplicit true

/-- what the iterator J gives, while what is known (F) stands: the things ds -/
def YD (K : PySem.W.Frag) (F : Hp) (d : PyData) (H : Hp) (x : V) (H' : Hp) : Prop :=
  (H' = H ∧ Dp K F x d) ∨ ∃ T a b da db, x = .ref T ∧ H T = none ∧ H' = upd H T (.tup [a, b]) ∧ d = .tuple [da, db] ∧ Dp K F a da ∧ Dp K F b db
def Gives (K : PySem.W.Frag) (F : Hp) (J : It) (ds : List PyData) : Prop :=
  Walk J ds.length (fun H => Sub F H) fun i H x H' => Sub F H ∧ ∃ d, ds[i]? = some d ∧ YD K F d H x H'
abbrev DTI := DSt → MH → (List PyData → MH → Prop) → Prop
def liftI (K : PySem.W.Frag) (Γ : GI) (w : DTI) : TI := fun σ H R => ∃ σd h, RSt K Γ H h σd σ ∧ RM K Γ H h ∧ w σd h fun ds h' => ∀ J H', PX Γ H h H' h' → RM K Γ H' h' → Gives K (Fz Γ H' h') J ds → R J H'
structure DWk (X : Cx) (Γ : GI) (tg iter : Expr) (w : DTI) : Prop where
  mono : Mono w
  pi : PI X tg iter (liftI X.K Γ w)
theorem pi_imp {X : Cx} {tg e : Expr} {t t' : TI} (p : PI X tg e t) (k : ∀ σ H Q, t' σ H Q → t σ H Q) : PI X tg e t' := ⟨fun pins s σ H Q I w => p.run pins s σ H Q I (k σ H Q w)⟩
theorem gives_list {K : PySem.W.Frag} {F : Hp} {a : Addr} {vs : List V} {ds : List PyData} (h : SqL K F a vs) (r : DpAll K F vs ds) : Gives K F (Itl K a) ds := by
  unfold Gives
  rw [← dps_len r]
  have w0 := walk_list (K := K) (a := a) (xs := vs)
  refine ⟨fun i H hi s => w0.goes i H hi (sqL_up s h), fun H s => w0.stops H (sqL_up s h), fun i H x H' hi s y => ⟨s, ?_⟩⟩
  obtain ⟨e, e2⟩ := w0.yields i H x H' hi (sqL_up s h) y
  obtain ⟨d, e3, e4⟩ := dps_getv r e2
  exact ⟨d, e3, .inl ⟨e, e4⟩⟩
theorem gives_tup {K : PySem.W.Frag} {F : Hp} {a : Addr} {vs : List V} {ds : List PyData} (h : SqT K F a vs) (r : DpAll K F vs ds) : Gives K F (Itt K a) ds := by
  unfold Gives
  rw [← dps_len r]
  have w0 := walk_tup (K := K) (a := a) (xs := vs)
  refine ⟨fun i H hi s => w0.goes i H hi (sqT_up s h), fun H s => w0.stops H (sqT_up s h), fun i H x H' hi s y => ⟨s, ?_⟩⟩
  obtain ⟨e, e2⟩ := w0.yields i H x H' hi (sqT_up s h) y
  obtain ⟨d, e3, e4⟩ := dps_getv r e2
  exact ⟨d, e3, .inl ⟨e, e4⟩⟩
theorem rgD_get {a b : Int} {i : Nat} (h : i < (b - a).toNat) : (rgD a b)[i]? = some (.int (a + (i : Nat))) := by
  unfold rgD
  rw [List.getElem?_map, List.getElem?_range h]
  rfl
theorem rgD_length (a b : Int) : (rgD a b).length = (b - a).toNat := by unfold rgD; rw [List.length_map, List.length_range]
theorem gives_range {K : PySem.W.Frag} {F : Hp} {a b : Int} : Gives K F (Itr a (b - a).toNat) (rgD a b) := by
  unfold Gives
  rw [rgD_length]
  have w0 := walk_range (lo := a) (n := (b - a).toNat)
  refine ⟨fun i H hi _ => w0.goes i H hi trivial, fun H _ => w0.stops H trivial, fun i H x H' hi s y => ⟨s, ?_⟩⟩
  obtain ⟨e, e2⟩ := w0.yields i H x H' hi trivial y
  exact ⟨_, rgD_get hi, .inl ⟨e, by rw [e2]; exact .int _⟩⟩
/-- a list or a tuple -/
def iSq (K : PySem.W.Frag) (tl : TE) : TI := fun σ H R => tl σ H fun x H1 => ∃ a, x = .ref a ∧ ((∃ xs, SqL K H1 a xs ∧ R (Itl K a) H1) ∨ (∃ xs, SqT K H1 a xs ∧ R (Itt K a) H1))
section
variable {X : Cx} {a b c e : Expr} {pos p2 : Pos} {ta tb tc te : DTE} {tg : Expr}
theorem pi_sq {l : Expr} {tl : TE} (hl : PE X l tl) : PI X tg l (iSq X.K tl) := by
  constructor
  intro pins s σ H R I hw
  refine thn (hl.run pins s σ H _ I hw) ?_
  rintro v s1 ⟨x, H1, I1, r1, a, ex, q⟩
  subst ex
  cases r1
  have fresh : ∀ b, b ∈ [s1.heap.objs.size] → FpOk X pins H1 b := fun b hb => by
    rw [List.mem_singleton.mp hb]
    exact I1.fpOk (Nat.le_refl _) (I1.hok.fresh (Nat.le_refl _))
  rcases q with ⟨xs, sq, qq⟩ | ⟨xs, sq, qq⟩
  · obtain ⟨its, _, pl, _⟩ := I1.list sq
    refine wpAny_pyIter_list pl.isList ?_
    exact ⟨_, [s1.heap.objs.size], _, _, H1, rfl, I1.kept (t' := s1.toks) (fun b o z => Heap.get?_push_of_some _ z), turn_list a s1.heap.objs.size, ⟨_, Heap.get?_push_size _ rfl, rfl, rfl⟩, fresh, qq⟩
  · obtain ⟨its, _, pl, _⟩ := I1.tuple sq
    refine wpAny_pyIter_tuple (show s1.heap.IsTuple a its.toArray from pl) ?_
    exact ⟨_, [s1.heap.objs.size], _, _, H1, rfl, I1.kept (t' := s1.toks) (fun b o z => Heap.get?_push_of_some _ z), turn_tuple a s1.heap.objs.size, ⟨_, Heap.get?_push_size _ rfl, rfl, rfl⟩, fresh, qq⟩
/-- for x in (a list, a tuple); one's own list is let go -/
def wSeq (te : DTE) : DTI := fun σ h Q => te σ h fun x h1 => match fz1 x h1 with
  | some (.list ds, h2) => Q ds h2
  | some (.tuple ds, h2) => Q ds h2
  | _ => False
theorem dw_seq (he : DE X Γ e te) : DWk X Γ tg e (wSeq te) :=
  ⟨fun σ h Q Q' k w => he.mono _ _ _ _ (fun x h1 w1 => by
    split at w1
    · exact k _ _ w1
    · exact k _ _ w1
    · exact w1) w, pi_imp (pi_sq he.pe) fun σ H R ⟨σd, h, rs, rm, w⟩ => lift_mk he.mono rs rm w fun x h1 v H1 px rs1 rv rm1 w1 => by
      split at w1
      · rename_i ds h2 e1
        obtain ⟨p1, r1, d1⟩ := fz1_ok rv rm1 e1
        cases d1 with
        | @lst a vs _ s1 dd => exact ⟨a, rfl, .inl ⟨vs, sqL_up fz_sub s1, w1 _ _ (px.trans p1) r1 (gives_list s1 dd)⟩⟩
      · rename_i ds h2 e1
        obtain ⟨p1, r1, d1⟩ := fz1_ok rv rm1 e1
        cases d1 with
        | @tup a vs _ s1 dd => exact ⟨a, rfl, .inr ⟨vs, sqT_up fz_sub s1, w1 _ _ (px.trans p1) r1 (gives_tup s1 dd)⟩⟩
      · exact w1.elim⟩
def wRg1 (te : DTE) : DTI := fun σ h Q => te σ h fun x h1 => match asInt x with
  | some n => (-(2 ^ 62) ≤ n ∧ n < 2 ^ 62) ∧ Q (rgD 0 n) h1
  | none => False
def wRg2 (ta tb : DTE) : DTI := fun σ h Q => ta σ h fun x h1 => tb σ h1 fun y h2 => match asInt x, asInt y with
  | some n, some m => (-(2 ^ 62) ≤ n ∧ n < 2 ^ 62 ∧ -(2 ^ 62) ≤ m ∧ m < 2 ^ 62) ∧ Q (rgD n m) h2
  | _, _ => False
theorem dw_rg1 {p : Pos} (hg : Gl X "range") (hm : X.mg "range" = none) (ha : DE X Γ a ta) (hs : starEach [a] X.env = [(false, eval a X.env)] := by rfl) : DWk X Γ tg (.Call (.Name "range" p) [a] [] pos) (wRg1 ta) :=
  ⟨fun σ h Q Q' k w => ha.mono _ _ _ _ (fun x h1 w1 => by
    split at w1
    · exact ⟨w1.1, k _ _ w1.2⟩
    · exact w1) w, pi_imp (pi_range1 hg hm (da_cons ha da_nil hs).pa hs) fun σ H R ⟨σd, h, rs, rm, w⟩ => lift_mk (mono_cons ha.mono fun _ _ _ _ k w => k _ _ w) rs rm (C := fun xs h1 => ∃ x, xs = [x] ∧ match asInt x with
      | some n => (-(2 ^ 62) ≤ n ∧ n < 2 ^ 62) ∧ (∀ J H', PX Γ H h H' h1 → RM X.K Γ H' h1 → Gives X.K (Fz Γ H' h1) J (rgD 0 n) → R J H')
      | none => False) (ha.mono _ _ _ _ (fun x h1 w1 => ⟨x, rfl, w1⟩) w) fun xs h1 vs H1 px rs1 rvs rm1 w1 => by
      obtain ⟨x, rfl, w1⟩ := w1
      obtain ⟨v, rfl, rv⟩ := rvs1 rvs
      split at w1
      · rename_i n e1
        have q := w1.2 _ H1 px rm1 (gives_range (a := 0) (b := n))
        rw [Int.sub_zero] at q
        exact ⟨n, by rw [asInt_ok rv e1], w1.1.1, w1.1.2, q⟩
      · exact w1.elim⟩
theorem dw_rg2 {p : Pos} (hg : Gl X "range") (hm : X.mg "range" = none) (ha : DE X Γ a ta) (hb : DE X Γ b tb) (hs : starEach [a, b] X.env = [(false, eval a X.env), (false, eval b X.env)] := by rfl) (hs2 : starEach [b] X.env = [(false, eval b X.env)] := by rfl) : DWk X Γ tg (.Call (.Name "range" p) [a, b] [] pos) (wRg2 ta tb) :=
  ⟨fun σ h Q Q' k w => ha.mono _ _ _ _ (fun x h1 w1 => hb.mono _ _ _ _ (fun y h2 w2 => by
    split at w2
    · exact ⟨w2.1, k _ _ w2.2⟩
    · exact w2) w1) w, pi_imp (pi_range2 hg hm (da_cons ha (da_cons hb da_nil hs2) (by rw [hs, hs2])).pa hs hs2) fun σ H R ⟨σd, h, rs, rm, w⟩ => lift_mk (mono_cons ha.mono (mono_cons hb.mono fun _ _ _ _ k w => k _ _ w)) rs rm (C := fun xs h2 => ∃ x y, xs = [x, y] ∧ match asInt x, asInt y with
      | some n, some m => (-(2 ^ 62) ≤ n ∧ n < 2 ^ 62 ∧ -(2 ^ 62) ≤ m ∧ m < 2 ^ 62) ∧ (∀ J H', PX Γ H h H' h2 → RM X.K Γ H' h2 → Gives X.K (Fz Γ H' h2) J (rgD n m) → R J H')
      | _, _ => False) (ha.mono _ _ _ _ (fun x h1 w1 => hb.mono _ _ _ _ (fun y h2 w2 => ⟨x, y, rfl, w2⟩) w1) w) fun xs h1 vs H1 px rs1 rvs rm1 w1 => by
      obtain ⟨x, y, rfl, w1⟩ := w1
      obtain ⟨v, u, rfl, rv, ru⟩ := rvs2 rvs
      split at w1
      · rename_i n m e1 e2
        exact ⟨n, m, by rw [asInt_ok rv e1, asInt_ok ru e2], w1.1, w1.2 _ H1 px rm1 gives_range⟩
      · exact w1.elim⟩

def forL (g : Tg) (tb : DTS) (D : DEnds) : List PyData → DSt → MH → Prop
  | [], σ, h => D.nx σ h
  | d :: r, σ, h => match bindT g (.d d) σ with
    | some σ1 => tb { nx := fun σ' h' => forL g tb D r σ' h', ct := fun σ' h' => forL g tb D r σ' h', bk := D.nx, rt := D.rt } σ1 h
    | none => False
def dFor (w : DTI) (g : Tg) (tb : DTS) : DTS := fun D σ h => w σ h fun ds h1 => forL g tb D ds σ h1
theorem forL_le {g : Tg} {tb : DTS} (mb : MonoS tb) {D D' : DEnds} (l : DEnds.Le D D') : ∀ ds σ h, forL g tb D ds σ h → forL g tb D' ds σ h
  | [], _, _, w => l.nx _ _ w
  | d :: r, σ, h, w => by
    unfold forL at w ⊢
    split at w
    · refine mb _ _ _ _ ?_ w
      exact ⟨forL_le mb l r, l.rt, l.nx, forL_le mb l r⟩
    · exact w
theorem yd_in {K : PySem.W.Frag} {F H H' : Hp} {h : MH} {d : PyData} {x : V} (s : Sub F (Fz Γ H h)) (rm : RM K Γ H h) (y : YD K F d H x H') : PX Γ H h H' h ∧ RM K Γ H' h ∧ RV K Γ H' h (.d d) x := by
  rcases y with ⟨rfl, q⟩ | ⟨T, a, b, da, db, rfl, n, rfl, rfl, qa, qb⟩
  · exact ⟨PX.refl, rm, dp_up s _ _ q⟩
  · obtain ⟨p1, r1, v1⟩ := new_tup n rm (.cons (dp_up s _ _ qa) (.cons (dp_up s _ _ qb) .nil))
    exact ⟨p1, r1, v1⟩
theorem ds_for {iter : Expr} {body : List Stmt} {w : DTI} {g : Tg} {tb : DTS} (hp : PassesOwn (model X.prog X.w) X.A X.env X.xe) (hc : X.calm = true) (hi : DWk X Γ tg iter w) (hg : DG X tg g) (hb : DSs X Γ body tb)
    (hs : ∀ x, foldedSetIterable iter X.env x = pure x := by intro _; rfl) : DS X Γ (.For tg iter body [] pos) (dFor w g tb) :=
  ⟨fun D D' σ h l w => hi.mono _ _ _ _ (fun ds h1 w1 => forL_le hb.mono l ds σ h1 w1) w, ps_imp (ps_for hp hc hi.pi hg.pg hb.ps hs) fun D σ H ⟨σd, h, rs, rm, w⟩ =>
    ⟨σd, h, rs, rm, hi.mono _ _ _ _ (fun ds h1 w1 J H1 px rm1 gv => by
      refine for_it gv (fun i σ' H' => ∃ σd' h', PX Γ H1 h1 H' h' ∧ RSt X.K Γ H' h' σd' σ' ∧ RM X.K Γ H' h' ∧ forL g tb (liftE X.K Γ H h D) (ds.drop i) σd' h') ⟨σd, h1, PX.refl, rs.up px, rm1, by rw [List.drop_zero]; exact w1⟩ ?_ ?_ ?_
      · rintro i σ' H' _ ⟨σd', h', px', _, _, _⟩ a o e
        exact fz_sub a o (px'.ex a o e)
      · rintro i x σ' H' H2 hi' ⟨σd', h', px', rs', rm', w'⟩ ⟨_, d, e1, y⟩
        obtain ⟨p2, rm2, rv2⟩ := yd_in px'.ex rm' y
        have hdrop : ds.drop i = d :: ds.drop (i + 1) := by
          obtain ⟨hl, hz⟩ := List.getElem?_eq_some_iff.mp e1
          rw [List.drop_eq_getElem_cons hl, hz]
        rw [hdrop] at w'
        unfold forL at w'
        split at w'
        · rename_i σ1 e2
          refine rawT_okS rv2 (rs'.up p2) rm2 e2 fun σr H3 p2b rm3 rsr _ => ⟨σ1, h', rsr, rm3, ?_⟩
          refine hb.mono _ _ _ _ ?_ w'
          have p3 := (px'.trans p2).trans p2b
          have p4 := px.trans p3
          exact ⟨fun σd2 h2 w2 σ2 Hx q r2 m2 => ⟨σd2, h2, p3.trans q, r2, m2, w2⟩, fun x2 h2 w2 v2 Hx q r2 m2 => w2 v2 Hx (p4.trans q) r2 m2, fun σd2 h2 w2 σ2 Hx q r2 m2 => w2 σ2 Hx (p4.trans q) r2 m2, fun σd2 h2 w2 σ2 Hx q r2 m2 => ⟨σd2, h2, p3.trans q, r2, m2, w2⟩⟩
        · exact w'.elim
      · rintro σ' H' ⟨σd', h', px', rs', rm', w'⟩
        rw [List.drop_length] at w'
        exact w' σ' H' (px.trans px') rs' rm') w⟩⟩

def wipeD (σ : DSt) : List Nat → DSt
  | [] => σ
  | i :: r => (wipeD σ r).set i none
theorem RSt.wipe {K : PySem.W.Frag} {H : Hp} {h : MH} {σd : DSt} {σ : L2.St} (rs : RSt K Γ H h σd σ) : ∀ vs, RSt K Γ H h (wipeD σd vs) (L2.wipe σ vs)
  | [] => rs
  | i :: r => (RSt.wipe rs r).clr none
def lcL (g : Tg) (tt : DTT) (te : DTE) (σ : DSt) : List PyData → List PyData → MH → (List PyData → MH → Prop) → Prop
  | [], acc, h, Q => Q acc h
  | d :: r, acc, h, Q => match bindT g (.d d) σ with
    | some σ1 => tt σ1 h fun b h1 => if b = true then te σ1 h1 fun y h2 => match fz1 y h2 with
        | some (z, h3) => lcL g tt te σ r (acc ++ [z]) h3 Q
        | none => False
      else lcL g tt te σ r acc h1 Q
    | none => False
def fLc (w : DTI) (g : Tg) (tt : DTT) (te : DTE) (vs : List Nat) : DTF := fun σ h Q => w σ h fun ds h1 => ds.length ≤ sizeLine ∧ lcL g tt te (wipeD σ vs) ds [] h1 Q
theorem lcL_mono {g : Tg} {tt : DTT} {te : DTE} {σ : DSt} (mt : Mono tt) (me : Mono te) {Q Q' : List PyData → MH → Prop} (k : ∀ x h, Q x h → Q' x h) : ∀ ds acc h, lcL g tt te σ ds acc h Q → lcL g tt te σ ds acc h Q'
  | [], _, _, w => k _ _ w
  | d :: r, acc, h, w => by
    unfold lcL at w ⊢
    split at w
    · refine mt _ _ _ _ (fun b h1 w1 => ?_) w
      cases b with
      | true =>
        refine me _ _ _ _ (fun y h2 w2 => ?_) w1
        split at w2
        · exact lcL_mono mt me k _ _ _ w2
        · exact w2
      | false => exact lcL_mono mt me k _ _ _ w1
    · exact w
structure DTs (X : Cx) (Γ : GI) (ifs : List Expr) (t : DTT) : Prop where
  mono : Mono t
  pts : PTs X ifs (liftB X.K Γ t)
theorem pts_imp {ifs : List Expr} {t t' : TT} (p : PTs X ifs t) (k : ∀ σ H Q, t' σ H Q → t σ H Q) : PTs X ifs t' := by
  cases p with
  | mk r => exact ⟨fun pins s σ H Q I w => r pins s σ H Q I (k σ H Q w)⟩
def dYes : DTT := fun _ h Q => Q true h
theorem dts_nil : DTs X Γ [] dYes := ⟨fun _ _ _ _ k w => k _ _ w, pts_imp pts_nil fun σ H Q ⟨σd, h, rs, rm, w⟩ => w _ H PX.refl rfl rm⟩
theorem dts_one {t : DTT} (h : DT X Γ c t) : DTs X Γ [c] t := ⟨h.mono, pts_one h.pt⟩
/-- what is being made is not to be read -/
def GI.more (Γ : GI) (D : Addr) : GI where
  x := D :: Γ.x
  T := Γ.T
  G := fun _ _ => True
  st := fun _ _ => trivial
theorem fz_upd {Γ : GI} {H : Hp} {h : MH} {D : Addr} {o : HO} : Fz (Γ.more D) (upd H D o) h = Fz (Γ.more D) H h := by
  funext a
  show Fzx (D :: Γ.x) _ h a = Fzx (D :: Γ.x) _ h a
  unfold Fzx
  by_cases q : a ∈ D :: Γ.x
  · rw [if_pos q, if_pos q]
  · rw [if_neg q, if_neg q, upd_ne fun z => q (by rw [z]; exact List.mem_cons_self)]
def undo (H : Hp) (D : Addr) : Hp := fun a => if a = D then none else H a
theorem undo_ne {H : Hp} {D a : Addr} (n : a ≠ D) : undo H D a = H a := if_neg n
theorem fz_undo {Γ : GI} {H : Hp} {h : MH} {D : Addr} : Fz Γ (undo H D) h = Fz (Γ.more D) H h := by
  funext a
  show Fzx Γ.x _ h a = Fzx (D :: Γ.x) _ h a
  unfold Fzx
  by_cases e : a = D
  · subst e
    rw [if_pos (show a ∈ a :: Γ.x from List.mem_cons_self), show undo H a a = none from if_pos rfl]
    by_cases m : a ∈ Γ.x
    · rw [if_pos m]
    · rw [if_neg m]
      split <;> rfl
  · rw [undo_ne e]
    by_cases q : a ∈ Γ.x
    · rw [if_pos q, if_pos (List.mem_cons_of_mem _ q)]
    · rw [if_neg q, if_neg fun z => (List.mem_cons.mp z).elim e q]
theorem upd_undo {H : Hp} {D : Addr} {o : HO} (e : H D = some o) : upd (undo H D) D o = H := by
  funext a
  by_cases q : a = D
  · subst q; rw [upd_same, e]
  · rw [upd_ne q, undo_ne q]
theorem RSt.eqF {K : PySem.W.Frag} {Γ' : GI} {H H' : Hp} {h h' : MH} {σd : DSt} {σ : L2.St} (e : Sub (Fz Γ H h) (Fz Γ' H' h')) (r : RSt K Γ H h σd σ) : RSt K Γ' H' h' σd σ := ⟨r.1, fun i x q => by
  obtain ⟨v, e1, e2⟩ := r.2 i x q
  refine ⟨v, e1, ?_⟩
  cases x with
  | d x => exact dp_up e _ _ e2
  | own a => exact e2⟩
/-- what holds between two turns of a comprehension -/
structure LcInv (K : PySem.W.Frag) (Γ : GI) (H1 : Hp) (h1 : MH) (D : Addr) (σd : DSt) (σ : L2.St) (i : Nat) (H : Hp) (h : MH) (acc : List PyData) : Prop where
  at_ : ∃ va, H D = some (.lst va) ∧ DpAll K (Fz (Γ.more D) H h) va acc
  ex : Sub (Fz Γ H1 h1) (Fz (Γ.more D) H h)
  kx : ∀ a, a ∈ Γ.x → H a = H1 a
  rm : RM K (Γ.more D) H h
  rs : RSt K (Γ.more D) H h σd σ
  len : acc.length ≤ i
theorem lc_data {K : PySem.W.Frag} {g : Tg} {tt : DTT} {te : DTE} {vs : List Nat} (mt : Mono tt) (me : Mono te) (hix : (g.ix.all (fun i => vs.contains i) && !g.isStar) = true) {σ : L2.St} {H H1 : Hp} {σd : DSt} {h h1 : MH} {Q : VK} {ds : List PyData} {J : It} {D : Addr}
    (rs : RSt K Γ H h σd σ) (px : PX Γ H h H1 h1) (rm1 : RM K Γ H1 h1) (gv : Gives K (Fz Γ H1 h1) J ds) (hD : H1 D = none) (hlen : ds.length ≤ sizeLine)
    (w1 : lcL g tt te (wipeD σd vs) ds [] h1 fun ds h' => ∀ ws H' p, PX Γ H h H' h' → DpAll K (Fz Γ H' h') ws ds → RM K Γ H' h' → H' p = none → Q (.ref p) (upd H' p (.lst ws))) :
    ∃ W : Nat → Nat → Hp → Prop, (∃ m, W 0 m (upd H1 D (.lst []))) ∧ ∀ i m H, W i m H →
      (J.stop i H ∧ Q (.ref D) H) ∨ (J.go i H ∧ ∃ Nx : Hp → Prop, (∀ H', Nx H' → ∃ m', m' < m ∧ W (i + 1) m' H') ∧ ∀ x H', J.yld i H x H' → rawT K g x (L2.wipe σ vs) H' fun σ2 H2 => L2.wipe σ2 vs = L2.wipe σ vs ∧ (∃ Γ' : GI, Γ'.T = Γ.T ∧ liftB K Γ' tt σ2 H2 fun b H3 =>
        if b = true then (∃ Γ' : GI, Γ'.T = Γ.T ∧ liftV K Γ' te σ2 H3 fun y H4 => ∃ acc, H4 D = some (.lst acc) ∧ acc.length < sizeLine ∧ Nx (upd H4 D (.lst (acc ++ [y])))) else Nx H3)) := by
  have hsub : ∀ i, i ∈ g.ix → i ∈ vs := fun i hm => by simpa using List.all_eq_true.mp (Bool.and_eq_true_iff.mp hix).1 i hm
  have hns : g.isStar = false := by simpa using (Bool.and_eq_true_iff.mp hix).2
  have dx : D ∉ Γ.x := rm1.notx hD
  refine lc_it gv (g := rawT K g) (tt := fun σ H Q => ∃ Γ' : GI, Γ'.T = Γ.T ∧ liftB K Γ' tt σ H Q) (te := fun σ H Q => ∃ Γ' : GI, Γ'.T = Γ.T ∧ liftV K Γ' te σ H Q) (vs := vs) (σ := σ) (H1 := H1) (D := D) (Qd := fun H => Q (.ref D) H) (fun i H' => ∃ h' acc, LcInv K Γ H1 h1 D (wipeD σd vs) (L2.wipe σ vs) i H' h' acc ∧ lcL g tt te (wipeD σd vs) (ds.drop i) acc h' (fun ds h' => ∀ ws H' p, PX Γ H h H' h' → DpAll K (Fz Γ H' h') ws ds → RM K Γ H' h' → H' p = none → Q (.ref p) (upd H' p (.lst ws)))) ?_ ?_ ?_ ?_
  · have e0 : Sub (Fz Γ H1 h1) (Fz (Γ.more D) (upd H1 D (.lst [])) h1) := fun a o z => by
      obtain ⟨z1, z2, z3, z4⟩ := Fz.to z
      have ne := ne_of_none z1 hD
      exact Fz.ofH (by rw [upd_ne ne]; exact z1) z2 (fun m => (List.mem_cons.mp m).elim ne z3) z4
    refine ⟨h1, [], ⟨⟨[], upd_same, .nil⟩, e0, fun a m => upd_ne fun z => dx (by rw [← z]; exact m), ⟨fun a m e => ?_, trivial, fun a m => ?_, tabs_upd rm1.tb (.inl hD)⟩, RSt.eqF e0 ((rs.up px).wipe vs), Nat.le_refl _⟩, by rw [List.drop_zero]; exact w1⟩
    · exact ro_up (fun u f1 => by rw [upd_ne (ne_of_none f1 hD)]; exact f1) e0 (rm1.ob a m e)
    · rcases List.mem_cons.mp m with z | z
      · subst z; exact ⟨rm1.tracked hD, [], upd_same⟩
      · rw [upd_ne fun q => dx (by rw [← q]; exact z)]
        exact rm1.nx a z
  · rintro i H' _ ⟨h', acc, inv, _⟩ a o e
    exact fz_sub a o (inv.ex a o e)
  · rintro i x H' H2 hi' ⟨h', acc, inv, w2⟩ ⟨_, d, e1, y⟩
    obtain ⟨p2, rm2, rv2⟩ := yd_in inv.ex inv.rm y
    have hdrop : ds.drop i = d :: ds.drop (i + 1) := by
      obtain ⟨hl, hz⟩ := List.getElem?_eq_some_iff.mp e1
      rw [List.drop_eq_getElem_cons hl, hz]
    rw [hdrop] at w2
    unfold lcL at w2
    -- the turn's end: no item more
    have fin : ∀ (h3 : MH) (H3 : Hp), PX (Γ.more D) H' h' H3 h3 → RM K (Γ.more D) H3 h3 → LcInv K Γ H1 h1 D (wipeD σd vs) (L2.wipe σ vs) (i + 1) H3 h3 acc := fun h3 H3 p3 rm3 => by
      obtain ⟨va, a1, a2⟩ := inv.at_
      exact ⟨⟨va, by rw [p3.kx D List.mem_cons_self]; exact a1, dps_up p3.ex _ _ a2⟩, fun a o z => p3.ex a o (inv.ex a o z), fun a m => (p3.kx a (List.mem_cons_of_mem _ m)).trans (inv.kx a m), rm3, inv.rs.up p3, Nat.le_succ_of_le inv.len⟩
    split at w2
    · rename_i σ1 e2
      refine rawT_ok hns rv2 (inv.rs.up p2) e2 fun σr rsr hwp => ⟨by rw [hwp vs hsub, wipe_wipe], Γ.more D, rfl, ?_⟩
      refine lift_mk mt rsr rm2 w2 fun b h3 k H3 px3 rs3 rb rm3 w3 => ?_
      subst rb
      have p3 := p2.trans px3
      cases b with
      | false => exact iteF ⟨h3, acc, fin h3 H3 p3 rm3, w3⟩
      | true =>
        refine iteT ⟨Γ.more D, rfl, ?_⟩
        refine lift_mk me rs3 rm3 w3 fun y h4 yv H4 px4 rs4 ry rm4 w4 => ?_
        split at w4
        · rename_i z h5 e5
          obtain ⟨p5, rm5, rz⟩ := fz1_ok ry rm4 e5
          have inv5 := fin h5 H4 ((p3.trans px4).trans p5) rm5
          obtain ⟨va, a1, a2⟩ := inv5.at_
          have eF : Fz (Γ.more D) (upd H4 D (.lst (va ++ [yv]))) h5 = Fz (Γ.more D) H4 h5 := fz_upd
          have hl : acc.length < sizeLine := by
            have := inv.len
            omega
          refine ⟨va, a1, by rw [dps_len a2]; exact hl, h5, acc ++ [z], ⟨⟨va ++ [yv], upd_same, ?_⟩, ?_, fun a m => ?_, ⟨fun a m e => ?_, trivial, fun a m => ?_, tabs_upd rm5.tb (.inr ⟨_, a1, .inl rfl⟩)⟩, ?_, ?_⟩, w4⟩
          · rw [eF]; exact dps_app a2 (.cons rz .nil)
          · rw [eF]; exact inv5.ex
          · rw [upd_ne fun q => dx (by rw [← q]; exact m)]; exact inv5.kx a m
          · have z := rm5.ob a m e
            have ne : a ≠ D := fun q => by
              have n := (rm5.nx D List.mem_cons_self).1
              rw [← q, e] at n; cases n
            exact ro_up (fun u f1 => by rw [upd_ne ne]; exact f1) (by rw [eF]; exact fun _ _ q => q) z
          · by_cases q : a = D
            · subst q; exact ⟨(rm5.nx a m).1, _, upd_same⟩
            · rw [upd_ne q]
              exact rm5.nx a m
          · exact RSt.eqF (by rw [eF]; exact fun _ _ z => z) inv5.rs
          · rw [List.length_append, List.length_singleton]
            have := inv.len
            omega
        · exact w4.elim
    · exact w2.elim
  · rintro H' ⟨h', acc, inv, w2⟩
    rw [List.drop_length] at w2
    obtain ⟨va, a1, a2⟩ := inv.at_
    have eF : Fz Γ (undo H' D) h' = Fz (Γ.more D) H' h' := fz_undo
    have hpx : PX Γ H1 h1 (undo H' D) h' := ⟨by show Sub _ (Fz Γ (undo H' D) h'); rw [eF]; exact inv.ex, fun a m => by rw [undo_ne fun q => dx (by rw [← q]; exact m)]; exact inv.kx a m⟩
    have r := w2 va (undo H' D) D (px.trans hpx) (by rw [eF]; exact a2) ⟨fun a m e => ?_, Γ.st hpx rm1.g, fun a m => ?_, tabs_but inv.rm.tb fun b o e n => by rw [undo_ne fun z => by rw [z, a1] at e; cases e; exact n (.inl rfl)]; exact e⟩ (if_pos rfl)
    · rw [upd_undo a1] at r
      exact r
    · have z := inv.rm.ob a m e
      have ne : a ≠ D := fun q => by
        have n := (inv.rm.nx D List.mem_cons_self).1
        rw [← q, e] at n; cases n
      exact ro_up (fun u f1 => by rw [undo_ne ne]; exact f1) (by rw [eF]; exact fun _ _ q => q) z
    · rw [undo_ne fun q => dx (by rw [← q]; exact m)]
      exact inv.rm.nx a (List.mem_cons_of_mem _ m)
theorem lc_ok {K : PySem.W.Frag} {w : DTI} {g : Tg} {tt : DTT} {te : DTE} {vs : List Nat} (hw : Mono w) (mt : Mono tt) (me : Mono te) (hix : (g.ix.all (fun i => vs.contains i) && !g.isStar) = true) : ∀ σ H Q, liftF K Γ (fLc w g tt te vs) σ H Q →
    tLc (liftI K Γ w) (rawT K g) (fun σ H Q => ∃ Γ' : GI, Γ'.T = Γ.T ∧ liftB K Γ' tt σ H Q) (fun σ H Q => ∃ Γ' : GI, Γ'.T = Γ.T ∧ liftV K Γ' te σ H Q) vs σ H Q := by
  rintro σ H Q ⟨σd, h, rs, rm, w0⟩
  exact ⟨σd, h, rs, rm, hw _ _ _ _ (fun ds h1 w1 J H1 px rm1 gv D hD => lc_data mt me hix rs px rm1 gv hD w1.1 w1.2) w0⟩
theorem df_lc {elt iter : Expr} {ifs : List Expr} {scope : Scope} {own : List (Str × Nat)} {w : DTI} {g : Tg} {tt : DTT} {te : DTE} (hc : X.calm = true) (hN : X.N.Nodup) (hi : DWk X Γ tg iter w) (ok : BlkOk X.N X.env.scope scope own)
    (hg : ∀ (s : Shared) (H : Hp) (C : Addr) (cl : List (Str × Addr)) (fp : List Addr), DG (X.blk s H scope (compEnvC scope cl C X.env) fp) tg g) (hix : (g.ix.all (fun i => (own.map (·.2)).contains i) && !g.isStar) = true)
    (ht : ∀ (Γ' : GI), Γ'.T = Γ.T → ∀ (s : Shared) (H : Hp) (C : Addr) (cl : List (Str × Addr)) (fp : List Addr), DTs (X.blk s H scope (compEnvC scope cl C X.env) fp) Γ' ifs tt)
    (he : ∀ (Γ' : GI), Γ'.T = Γ.T → ∀ (s : Shared) (H : Hp) (C : Addr) (cl : List (Str × Addr)) (fp : List Addr), DE (X.blk s H scope (compEnvC scope cl C X.env) fp) Γ' elt te) (hs : ∀ x, foldedSetIterable iter X.env x = pure x := by intro _; rfl) :
    DF X Γ (.ListComp elt [⟨tg, iter, ifs, 0⟩] scope pos) (fLc w g tt te (own.map (·.2))) := by
  have mt : Mono tt := (ht Γ rfl ({} : Shared) (fun _ => none) 0 [] []).mono
  have me : Mono te := (he Γ rfl ({} : Shared) (fun _ => none) 0 [] []).mono
  refine ⟨fun σ h Q Q' k w => hi.mono _ _ _ _ (fun ds h1 w1 => ⟨w1.1, lcL_mono mt me k _ _ _ w1.2⟩) w, ?_⟩
  exact pe_imp (pe_lc (pos := pos) (wi := liftI X.K Γ w) (g := rawT X.K g) hc hN hi.pi ok (fun s H C cl fp => (hg s H C cl fp).pg)
    (fun s H C cl fp => ⟨fun pins s' σ H' Q I ⟨Γ', e, q⟩ => (ht Γ' e s H C cl fp).pts.run pins s' σ H' Q I q⟩) (fun s H C cl fp => ⟨fun pins s' σ H' Q I ⟨Γ', e, q⟩ => (he Γ' e s H C cl fp).pe.run pins s' σ H' Q I q⟩) hs) (lc_ok hi.mono mt me hix)
/-- name = [..] on one line, the name a local: td, what is made of the items -/
theorem liftL_dL {K : PySem.W.Frag} {t : DTF} (m : Mono t) : ∀ σ H Q, liftV K Γ (dL t) σ H Q → liftF K Γ t σ H Q := fun σ H Q ⟨σd, h, rs, rm, w⟩ => ⟨σd, h, rs, rm, m _ _ _ _ (fun ds h' q ws H' p px hd rm' n => by
    obtain ⟨p1, r1, v1⟩ := new_list n rm' hd
    exact q _ _ (px.trans p1) v1 r1) w⟩
theorem liftL_own {K : PySem.W.Frag} {t : DTF} (m : Mono t) : ∀ σ H Q, liftV K Γ (dOwn t) σ H Q → liftF K Γ t σ H Q := fun σ H Q ⟨σd, h, rs, rm, w⟩ => ⟨σd, h, rs, rm, m _ _ _ _ (fun ds h' q ws H' p px hd rm' n =>
    q p (rm'.tracked n) _ _ (px.trans (own_px n (rm'.tracked n) (rm'.notx n))) rfl (own_rm n rm' hd)) w⟩
theorem mono_own {t : DTF} (m : Mono t) : Mono (dOwn t) := fun σ h Q Q' k w => m _ _ _ _ (fun ds h1 w1 p hp => k _ _ (w1 p hp)) w
theorem ds_lc_ {i : Nat} {y : Str} {py : Pos} {elt iter : Expr} {ifs : List Expr} {scope : Scope} {own : List (Str × Nat)} {spos : Pos} {w : DTI} {g : Tg} {tt : DTT} {te td : DTE} (md : Mono td) (up : ∀ σ H Q, liftV X.K Γ td σ H Q → liftF X.K Γ (fLc w g tt te (own.map (·.2))) σ H Q) (hc : X.calm = true) (hN : X.N.Nodup) (hi : DWk X Γ tg iter w) (ok : BlkOk X.N X.env.scope scope own)
    (hg : ∀ (s : Shared) (H : Hp) (C : Addr) (cl : List (Str × Addr)) (fp : List Addr), DG (X.blk s H scope (compEnvC scope cl C X.env) fp) tg g) (hix : (g.ix.all (fun i => (own.map (·.2)).contains i) && !g.isStar) = true)
    (ht : ∀ (Γ' : GI), Γ'.T = Γ.T → ∀ (s : Shared) (H : Hp) (C : Addr) (cl : List (Str × Addr)) (fp : List Addr), DTs (X.blk s H scope (compEnvC scope cl C X.env) fp) Γ' ifs tt)
    (he : ∀ (Γ' : GI), Γ'.T = Γ.T → ∀ (s : Shared) (H : Hp) (C : Addr) (cl : List (Str × Addr)) (fp : List Addr), DE (X.blk s H scope (compEnvC scope cl C X.env) fp) Γ' elt te)
    (hy : X.N[i]? = some y) (hyl : X.env.scope.names.lookup y = some .local) (hsw : swapsWith (.ListComp elt [⟨tg, iter, ifs, 0⟩] scope pos) (some (.Name y py)) spos.line X.env = pure true) (hs : ∀ x, foldedSetIterable iter X.env x = pure x) :
    DS X Γ (.Assign [.Name y py] (.ListComp elt [⟨tg, iter, ifs, 0⟩] scope pos) spos) (dAsg td (.nm i)) := by
  have mt : Mono tt := (ht Γ rfl ({} : Shared) (fun _ => none) 0 [] []).mono
  have me : Mono te := (he Γ rfl ({} : Shared) (fun _ => none) 0 [] []).mono
  refine ⟨mono_asg md, ps_imp (ps_setLc (wi := liftI X.K Γ w) (g := rawT X.K g) (tt := fun σ H Q => ∃ Γ' : GI, Γ'.T = Γ.T ∧ liftB X.K Γ' tt σ H Q) (te := fun σ H Q => ∃ Γ' : GI, Γ'.T = Γ.T ∧ liftV X.K Γ' te σ H Q) hc hN hy hyl hsw hi.pi ok (fun s H C cl fp => (hg s H C cl fp).pg)
    (fun s H C cl fp => ⟨fun pins s' σ H' Q I ⟨Γ', e, q⟩ => (ht Γ' e s H C cl fp).pts.run pins s' σ H' Q I q⟩) (fun s H C cl fp => ⟨fun pins s' σ H' Q I ⟨Γ', e, q⟩ => (he Γ' e s H C cl fp).pe.run pins s' σ H' Q I q⟩) hs) fun D σ H q => ?_⟩
  exact lc_ok hi.mono mt me hix _ _ _ (up _ _ _ (asg_lift (g := .nm i) md D σ H q))
theorem ds_lc (i : Nat) {y : Str} {py : Pos} {elt iter : Expr} {ifs : List Expr} {scope : Scope} {own : List (Str × Nat)} {spos : Pos} {w : DTI} {g : Tg} {tt : DTT} {te : DTE} (hc : X.calm = true) (hN : X.N.Nodup) (hi : DWk X Γ tg iter w) (ok : BlkOk X.N X.env.scope scope own)
    (hg : ∀ (s : Shared) (H : Hp) (C : Addr) (cl : List (Str × Addr)) (fp : List Addr), DG (X.blk s H scope (compEnvC scope cl C X.env) fp) tg g) (hix : (g.ix.all (fun i => (own.map (·.2)).contains i) && !g.isStar) = true)
    (ht : ∀ (Γ' : GI), Γ'.T = Γ.T → ∀ (s : Shared) (H : Hp) (C : Addr) (cl : List (Str × Addr)) (fp : List Addr), DTs (X.blk s H scope (compEnvC scope cl C X.env) fp) Γ' ifs tt)
    (he : ∀ (Γ' : GI), Γ'.T = Γ.T → ∀ (s : Shared) (H : Hp) (C : Addr) (cl : List (Str × Addr)) (fp : List Addr), DE (X.blk s H scope (compEnvC scope cl C X.env) fp) Γ' elt te)
    (hy : X.N[i]? = some y := by rfl) (hyl : X.env.scope.names.lookup y = some .local := by rfl) (hsw : swapsWith (.ListComp elt [⟨tg, iter, ifs, 0⟩] scope pos) (some (.Name y py)) spos.line X.env = pure true := by rfl) (hs : ∀ x, foldedSetIterable iter X.env x = pure x := by intro _; rfl) :
    DS X Γ (.Assign [.Name y py] (.ListComp elt [⟨tg, iter, ifs, 0⟩] scope pos) spos) (dAsg (dL (fLc w g tt te (own.map (·.2)))) (.nm i)) := by
  have m := (df_lc (pos := pos) hc hN hi ok hg hix ht he hs).mono
  exact ds_lc_ (mono_L m) (liftL_dL m) hc hN hi ok hg hix ht he hy hyl hsw hs
theorem ds_lcO (i : Nat) {y : Str} {py : Pos} {elt iter : Expr} {ifs : List Expr} {scope : Scope} {own : List (Str × Nat)} {spos : Pos} {w : DTI} {g : Tg} {tt : DTT} {te : DTE} (hc : X.calm = true) (hN : X.N.Nodup) (hi : DWk X Γ tg iter w) (ok : BlkOk X.N X.env.scope scope own)
    (hg : ∀ (s : Shared) (H : Hp) (C : Addr) (cl : List (Str × Addr)) (fp : List Addr), DG (X.blk s H scope (compEnvC scope cl C X.env) fp) tg g) (hix : (g.ix.all (fun i => (own.map (·.2)).contains i) && !g.isStar) = true)
    (ht : ∀ (Γ' : GI), Γ'.T = Γ.T → ∀ (s : Shared) (H : Hp) (C : Addr) (cl : List (Str × Addr)) (fp : List Addr), DTs (X.blk s H scope (compEnvC scope cl C X.env) fp) Γ' ifs tt)
    (he : ∀ (Γ' : GI), Γ'.T = Γ.T → ∀ (s : Shared) (H : Hp) (C : Addr) (cl : List (Str × Addr)) (fp : List Addr), DE (X.blk s H scope (compEnvC scope cl C X.env) fp) Γ' elt te)
    (hy : X.N[i]? = some y := by rfl) (hyl : X.env.scope.names.lookup y = some .local := by rfl) (hsw : swapsWith (.ListComp elt [⟨tg, iter, ifs, 0⟩] scope pos) (some (.Name y py)) spos.line X.env = pure true := by rfl) (hs : ∀ x, foldedSetIterable iter X.env x = pure x := by intro _; rfl) :
    DS X Γ (.Assign [.Name y py] (.ListComp elt [⟨tg, iter, ifs, 0⟩] scope pos) spos) (dAsg (dOwn (fLc w g tt te (own.map (·.2)))) (.nm i)) := by
  have m := (df_lc (pos := pos) hc hN hi ok hg hix ht he hs).mono
  exact ds_lc_ (mono_own m) (liftL_own m) hc hN hi ok hg hix ht he hy hyl hsw hs
end
end DL

namespace DL
open PySem PySem.Spec PyProof.Rows L2
set_option autoImplicit true

def RX (K : PySem.W.Frag) (Γ : GI) (H : Hp) (h : MH) (x : DExc) (cls : Value) (d : Option Addr) : Prop :=
  cls = .ref (He.ga K x.cls) ∧ ((d = none ∧ x.fs = []) ∨ ∃ dd vs, d = some dd ∧ Fz Γ H h dd = some (.xd vs) ∧ Paired (fun (p : Str × PyData) (q : Str × V) => p.1 = q.1 ∧ Dp K (Fz Γ H h) q.2 p.2) x.fs vs)
abbrev DXK := DExc → MH → Prop
abbrev DXS := DExc → DSt → MH → Prop
abbrev DSp := List SV → MH → DK → DXK → Prop
def liftX (K : PySem.W.Frag) (Γ : GI) (E : DXS) : WX := fun cls d σ H => ∃ x σd h, RSt K Γ H h σd σ ∧ RM K Γ H h ∧ RX K Γ H h x cls d ∧ E x σd h
def noX : DXS := fun _ _ _ => False
theorem takes_no {X : Cx} : Takes X (liftX X.K Γ noX) := takes0.imp fun _ _ _ _ ⟨_, _, _, _, _, _, z⟩ => z
def G0 (xs : List Addr) (T : List (Addr × Str)) : GI := ⟨xs, T, fun _ _ => True, fun _ _ => trivial⟩
theorem RM.g0 {K : PySem.W.Frag} {H : Hp} {h : MH} (r : RM K Γ H h) : RM K (G0 Γ.x Γ.T) H h := ⟨r.ob, trivial, r.nx, r.tb⟩
theorem RM.back {K : PySem.W.Frag} {H H' : Hp} {h h' : MH} (r : RM K Γ H h) (p : PX Γ H h H' h') (q : RM K (G0 Γ.x Γ.T) H' h') : RM K Γ H' h' := ⟨q.ob, Γ.st p r.g, q.nx, q.tb⟩
def liftSp (K : PySem.W.Frag) (T : List (Addr × Str)) (W : DSp) : Sp := fun vs H Q E => ∃ (xs : List Addr) (ds : List SV) (h : MH), RVs K (G0 xs T) H h ds vs ∧ RM K (G0 xs T) H h ∧
  W ds h (fun r h' => ∀ v H', PXx xs H h H' h' → RV K (G0 xs T) H' h' r v → RM K (G0 xs T) H' h' → Q v H') (fun x h' => ∀ cls d H', PXx xs H h H' h' → RX K (G0 xs T) H' h' x cls d → RM K (G0 xs T) H' h' → E cls d H')
def MonoW (W : DSp) : Prop := ∀ ds h (Q Q' : DK) (E E' : DXK), (∀ x h', Q x h' → Q' x h') → (∀ x h', E x h' → E' x h') → W ds h Q E → W ds h Q' E'
theorem rvs_len {K : PySem.W.Frag} {H : Hp} {h : MH} : ∀ {xs : List SV} {vs : List V}, RVs K Γ H h xs vs → vs.length = xs.length
  | _, _, .nil => rfl
  | _, _, .cons _ t => by rw [List.length_cons, List.length_cons, rvs_len t]
/-- a def keeps its promise, where no repr runs around -/
structure FnG (P : Program) (w : World) (K : PySem.W.Frag) (mg : Str → Option Value) (base : Heap) (T : List (Addr × Str)) (k : Nat) (f : Addr) (fd : FuncData) (ps : List Str) (W : DSp) : Prop where
  len : ∀ ds h Q E, W ds h Q E → ds.length = ps.length
  mono : MonoW W
  run : ∀ (A : Around) (outer : List Env) (s : Shared) (H : Hp) (args : Args) (us : List Value) (vs : List V) (Q : VK) (E : XK), Room k A → A.guards = some [] → Env0 P w K mg base A outer s H → BindsTo s fd args (ps.zip us) → Vals vs us →
    liftSp K T W vs H Q E → codeAny (model P w) A (.call (.ref f) args) (CR (L2.CX P w) outer P w H s Q E) s
theorem FnG.up {P : Program} {w : World} {K : PySem.W.Frag} {mg : Str → Option Value} {base : Heap} {j k : Nat} {f : Addr} {fd : FuncData} {ps : List Str} {W : DSp} (F : FnG P w K mg base T j f fd ps W) (h : j ≤ k) : FnG P w K mg base T k f fd ps W :=
  ⟨F.len, F.mono, fun A outer s H args us vs Q E hr => F.run A outer s H args us vs Q E (hr.mono h)⟩
def dstart (N : List Str) (ds : List SV) : DSt := ds.map some ++ List.replicate (N.length - ds.length) none
theorem rst_start {K : PySem.W.Frag} {H : Hp} {h : MH} {N : List Str} {ds : List SV} {vs : List V} (r : RVs K Γ H h ds vs) : RSt K Γ H h (dstart N ds) (L2.start N vs) := by
  have el := rvs_len r
  refine ⟨by unfold dstart L2.start; simp [el], fun i x e => ?_⟩
  have get : ∀ {ds : List SV} {vs : List V}, RVs K Γ H h ds vs → ∀ (i : Nat), ds[i]? = some x → ∃ v, vs[i]? = some v ∧ RV K Γ H h x v := by
    intro ds vs r
    induction r with
    | nil => intro i e; simp at e
    | cons r1 _ ih =>
      intro i e
      cases i with
      | zero => simp at e; subst e; exact ⟨_, rfl, r1⟩
      | succ i => exact ih i (by simpa using e)
  unfold dstart at e
  by_cases hi : i < ds.length
  · rw [List.getElem?_append_left (by simpa using hi), List.getElem?_map] at e
    cases q : ds[i]? with
    | none => rw [q] at e; cases e
    | some y =>
      rw [q] at e
      cases e
      obtain ⟨v, e1, e2⟩ := get r i q
      refine ⟨v, ?_, e2⟩
      unfold L2.start
      rw [List.getElem?_append_left (by rw [List.length_map, el]; exact hi), List.getElem?_map, e1]
      rfl
  · rw [List.getElem?_append_right (by simpa using hi), List.getElem?_replicate] at e
    split at e <;> cases e
/-- behind a call: what was there ahead of it, and what it hands back -/
def SV.isOwn (r : SV) (b : Addr) : Bool := match r with
  | .own a => Nat.beq a b
  | .d _ => false
def restr (h0 h : MH) (r : SV) : MH := fun b => if (h0 b).isSome || r.isOwn b then h b else none
def restrX (h0 h : MH) : MH := fun b => if (h0 b).isSome then h b else none
theorem restr_sub {h0 h : MH} {r : SV} : ∀ a o, restr h0 h r a = some o → h a = some o := fun a o e => by
  unfold restr at e
  split at e
  · exact e
  · cases e
theorem restrX_sub {h0 h : MH} : ∀ a o, restrX h0 h a = some o → h a = some o := fun a o e => by
  unfold restrX at e
  split at e
  · exact e
  · cases e
theorem rx_up {K : PySem.W.Frag} {H H' : Hp} {h h' : MH} {x : DExc} {cls : Value} {d : Option Addr} (p : PX Γ H h H' h') (r : RX K Γ H h x cls d) : RX K Γ H' h' x cls d := by
  obtain ⟨e, r⟩ := r
  refine ⟨e, r.imp id ?_⟩
  rintro ⟨dd, vs, e1, e2, e3⟩
  exact ⟨dd, vs, e1, p.ex _ _ e2, Paired.mapP e3 fun _ _ z => ⟨z.1, dp_up p.ex _ _ z.2⟩⟩
/-- the wish at a def's end, told of its body -/
def dEnd (_ : MH) (Q : DK) : DEnds where
  nx := fun _ h' => ∃ h2, (∀ a o, h2 a = some o → h' a = some o) ∧ Q (.d .none) h2
  rt := fun r h' => ∃ h2, (∀ a o, h2 a = some o → h' a = some o) ∧ Q r h2
  bk := fun _ _ => False
  ct := fun _ _ => False
def fnW (N ps : List Str) (t : DXS → DTS) : DSp := fun ds h Q E => ds.length = ps.length ∧ ∃ (E0 : DXS) (D0 : DEnds), (∀ x σ h', E0 x σ h' → ∃ h2, (∀ a o, h2 a = some o → h' a = some o) ∧ E x h2) ∧ DEnds.Le D0 (dEnd h Q) ∧ t E0 D0 (dstart N ds) h
theorem fnW_mk {N ps : List Str} {t : DXS → DTS} {ds : List SV} {h : MH} {Q : DK} {E : DXK} (hl : ds.length = ps.length) (ht : t (fun x _ h' => E x (restrX h h')) (dEnd h Q) (dstart N ds) h) : fnW N ps t ds h Q E := ⟨hl, _, _, fun _ _ _ z => ⟨_, restrX_sub, z⟩, le_refl, ht⟩
theorem fnW_mono {N ps : List Str} {t : DXS → DTS} : MonoW (fnW N ps t) := fun ds h Q Q' E E' k kx ⟨hl, E0, D0, hE, hD, ht⟩ =>
  ⟨hl, E0, D0, fun x σ h' z => let ⟨h2, a, b⟩ := hE x σ h' z; ⟨h2, a, kx _ _ b⟩, ⟨fun σ h' z => let ⟨h2, a, b⟩ := hD.nx σ h' z; ⟨h2, a, k _ _ b⟩, fun x h' z => let ⟨h2, a, b⟩ := hD.rt x h' z; ⟨h2, a, k _ _ b⟩, fun σ h' z => hD.bk σ h' z, fun σ h' z => hD.ct σ h' z⟩, ht⟩
section
variable {P : Program} {w : World} {K : PySem.W.Frag} {mg : Str → Option Value} {base : Heap}
/-- THE RULE for a def -/
theorem fn_g {T : List (Addr × Str)} {x qual : Str} {st : Stmt} {f : Addr} {fd : FuncData} {N ps : List Str} {k : Nat} {t : DXS → DTS} (F : Fun K x qual st f fd) (S : FnScope N ps (defScope st))
    (body : ∀ (cdv : Value) (A : Around) (outer : List Env) (s : Shared) (H : Hp) (E' : XK) (Γ : GI) (Ed : DXS), fd.code = cdv → Γ.T = T → Room k (A.deeper (envOfC qual (defScope st) s.heap.objs.size f cdv)) → A.guards = some [] →
      Takes (cxOf (L2.CX P w) P w K mg base N qual (defScope st) f cdv A outer s H E') (liftX K Γ Ed) → DSs (cxOf (L2.CX P w) P w K mg base N qual (defScope st) f cdv A outer s H E') Γ (defBody st) (t Ed)) :
    FnG P w K mg base T (k + 1) f fd ps (fnW N ps t) := by
  obtain ⟨oc, od, kV, doc, pm, an, cdv, ct, osl, rfl, lk, hcd⟩ := F.ex
  refine ⟨fun ds h Q E w' => w'.1, fnW_mono, ?_⟩
  rintro A outer s H args us vs Q E room gd env0 bind rel ⟨xs, ds, h, rv, rm, hlen, E0, D0, hE, hD, hw⟩
  have vlen : vs.length = ps.length := by rw [rvs_len rv]; exact hlen
  have keepB : ∀ b o, base.get? b = some o → s.heap.get? b = some o := fun b o z => (env0.bs b o z).1
  have inK : K.In s.heap := env0.mod.kin.keeps keepB
  have noLim : s.heap.NoLimit := env0.mod.nolimit.keeps keepB
  have kinds : ∀ y ∈ ps.zip us, (defScope st).names.lookup y.1 = some .local ∨ ((defScope st).names.lookup y.1 = some .cell ∧ ((cellsFrom (s.heap.objs.size + 1) (defScope st).names []).lookup y.1).isSome = true) := by
    rintro ⟨n, u⟩ hy
    exact (S.par n (List.of_mem_zip hy).1).imp id fun q => ⟨q, PySem.W.cellsFrom_some _ _ _ (.inl q)⟩
  refine codeAny_call_function room.depth (inK _ _ lk) rfl S.co S.gen rfl (PySem.W.codeRec_of inK hcd) (bind _ _ _ _ ?_)
  refine wpAny_newFunctionEnv_cells S.kind kinds fun env henv s1 made => ?_
  subst henv
  refine ⟨noLim.keeps made.toInCall.keep, codeAny_func ?_⟩
  have I := inv_start (CX := L2.CX P w) (E := E) S room.hd env0 vlen rel made
  -- the deep reading
  let Γ : GI := ⟨xs, T, fun H' h' => PXx xs H h H' h', fun p q => q.trans p⟩
  have rmΓ : RM K Γ H h := ⟨rm.ob, PXx.refl, rm.nx, rm.tb⟩
  have rsΓ : RSt K Γ H h (dstart N ds) (L2.start N vs) := rst_start (Γ := Γ) rv
  have tk : Takes (cxOf (L2.CX P w) P w K mg base N qual (defScope st) f cdv A outer s H E) (liftX K Γ E0) := (takes_of (X := cxOf (L2.CX P w) P w K mg base N qual (defScope st) f cdv A outer s H E) rfl rfl rfl rfl).imp fun cls d σ H' z => by
    obtain ⟨x, σd, h', _, rm', rx, e⟩ := z
    obtain ⟨h2, hs2, e2⟩ := hE _ _ _ e
    have dpx : PXx xs H' h' H' h2 := drop_px (Γ := Γ) hs2
    exact e2 cls d H' (rm'.g.trans dpx) (rx_up (Γ := G0 xs T) dpx rx) (drop_rm (Γ := Γ) hs2 rm').g0
  have der := body cdv A outer s H E Γ E0 rfl rfl (room.deeper _) gd tk
  refine wpAny_mono (der.ps.run [] s1 (L2.start N vs) H { nx := fun _ H' => Q .non H', rt := Q } I ⟨dstart N ds, h, rsΓ, rmΓ, der.mono _ _ _ _ ?_ hw⟩) (fun fl s' hs => ?_) fun e s' hs => hs
  · have out : ∀ (r : SV) (h' : MH) (v : V) (H' : Hp), (∃ h2, (∀ a o, h2 a = some o → h' a = some o) ∧ ∀ v H', PXx xs H h H' h2 → RV K (G0 xs T) H' h2 r v → RM K (G0 xs T) H' h2 → Q v H') → PX Γ H h H' h' → RV K Γ H' h' r v → RM K Γ H' h' → Q v H' := fun r h' v H' ⟨h2, hs2, z⟩ p rr rm' => by
      have dpx : PXx xs H' h' H' h2 := drop_px (Γ := Γ) hs2
      exact z v H' (PXx.trans p dpx) (RV.up (Γ := G0 xs T) dpx rr) (drop_rm (Γ := Γ) hs2 rm').g0
    exact ⟨fun σd h' z σ H' p _ r => out (.d .none) h' .non H' (hD.nx σd h' z) p rv_non r, fun r h' z v H' p rr r' => out r h' v H' (hD.rt r h' z) p rr r', fun _ _ z => (hD.bk _ _ z).elim, fun _ _ z => (hD.ct _ _ z).elim⟩
  · have done : ∀ {σ' : L2.St} {H' : Hp} {v : V} {u : Value}, Inv (cxOf (L2.CX P w) P w K mg base N qual (defScope st) f cdv A outer s H E) [] σ' H' s' → RelV v u → Q v H' → CE outer P w H s Q u s' :=
      fun {σ' H' v u} J r q => ⟨v, H', J.os, J.bare, J.base, J.hok, r, q⟩
    match fl, hs with
    | .ret u, ⟨v, σ', H', J, r, q⟩ => exact done J r q
    | .next, ⟨σ', H', J, q⟩ => exact done (v := V.non) (u := Value.none) J rfl q
    | .brk, ⟨_, _, _, q⟩ => exact q.elim
    | .cont, ⟨_, _, _, q⟩ => exact q.elim
end

def dCall (E : DXS) (W : DSp) (t : DTA) : DTE := fun σ h Q => t σ h fun xs h1 => W xs h1 Q fun x h2 => E x σ h2
section
variable {X : Cx} {k : Nat} {f : Addr} {fd : FuncData} {ps : List Str} {W : DSp} {E : DXS} {x : Str} {p pos : Pos} {e : Expr} {es : List Expr} {t : DTA}
theorem run_g {pins : List (Addr × Obj)} {σ : L2.St} {H : Hp} {s : Shared} {Q : VK} {us : List Value} {vs : List V} {xs : List SV} {σd : DSt} {h : MH} {C : DK} (F : FnG X.prog X.w X.K X.mg X.base Γ.T k f fd ps W) (hr : Room k X.A) (hg : X.A.guards = some []) (hb : Binds X.K fd ps []) (tk : Takes X (liftX X.K Γ E))
    (I : Inv X pins σ H s) (r : Vals vs us) (rv : RVs X.K Γ H h xs vs) (rs : RSt X.K Γ H h σd σ) (rm : RM X.K Γ H h) (hw : W xs h C fun x h2 => E x σd h2) (k' : ∀ z h' v H', PX Γ H h H' h' → RV X.K Γ H' h' z v → RM X.K Γ H' h' → C z h' → Q v H') :
    wpAny (model X.prog X.w) X.A (call (.ref f) us) (EP X pins σ Q) X.xe s := by
  have el : (us ++ []).length = ps.length := by rw [List.append_nil, ← r.length, rvs_len rv]; exact F.len _ _ _ _ hw
  have bi := hb s us I.kIn el
  rw [List.append_nil] at bi
  have hsp : liftSp X.K Γ.T W vs H Q (fun cls d H' => liftX X.K Γ E cls d σ H') := ⟨Γ.x, xs, h, rv, rm.g0, F.mono _ _ _ _ _ _ (fun z h' c v H' px rz rm' => k' z h' v H' px rz (rm.back px rm') c)
    (fun x h' ee cls d H' px rx rm' => ⟨x, σd, h', rs.up px, rm.back px rm', rx, ee⟩) hw⟩
  refine wpAny_call (codeAny_mono (F.run X.A X.stack s H ⟨us, []⟩ us vs Q (fun cls d H' => liftX X.K Γ E cls d σ H') hr hg I.env0 bi r hsp) fun res s' hq => ?_)
  match res, hq with
  | .error ex, hq => exact tk ex s' (XE.of_call I (fun _ _ _ z => z) hq)
  | .ok (.ret u), hq => exact I.after hq
  | .ok .next, hq => exact False.elim hq
  | .ok .brk, hq => exact False.elim hq
  | .ok .cont, hq => exact False.elim hq
theorem mono_call {t : DTA} (m : Mono t) (mw : MonoW W) : Mono (dCall E W t) := fun σ h Q Q' k w => m _ _ _ _ (fun xs h1 w1 => mw _ _ _ _ _ _ k (fun _ _ z => z) w1) w
theorem de_call {T : List (Addr × Str)} (hΓ : Γ.T = T) (F : FnG X.prog X.w X.K X.mg X.base T k f fd ps W) (hr : Room k X.A) (hgd : X.A.guards = some []) (hg : Gl X x) (hm : X.mg x = some (.ref f)) (hk : PySem.W.keepIn X.K (.ref f) = true) (hb : Binds X.K fd ps []) (tk : Takes X (liftX X.K Γ E))
    (ha : DA X Γ (e :: es) t) (hdb : (x == ("__debug__" : Str)) = false := by decide) (he : starEach (e :: es) X.env = (false, eval e X.env) :: starEach es X.env := by rfl) (hpl : (backTo pos (starEach es X.env)).any (·.1) = false := by rfl) :
    DE X Γ (.Call (.Name x p) (e :: es) [] pos) (dCall E W t) := by
  subst hΓ
  refine ⟨mono_call ha.mono F.mono, ⟨fun pins s σ H Q I w => ?_⟩⟩
  obtain ⟨σd, h, rs, rm, w⟩ := w
  refine wpAny_Call_Name_kw (ld_glob I hg hm ?_ hdb)
  refine PySem.W.callWith_K (h₀ := X.base) I.ok.mod.kin hk (thn (ha.pa.run pos pins s σ H (fun vs H1 => ∃ xs h1, PX Γ H h H1 h1 ∧ RVs X.K Γ H1 h1 xs vs ∧ RSt X.K Γ H1 h1 σd σ ∧ RM X.K Γ H1 h1 ∧ W xs h1 (fun z h' => ∀ v H', PX Γ H h H' h' → RV X.K Γ H' h' z v → RM X.K Γ H' h' → Q v H') fun x h2 => E x σd h2) I
    (lift_mk ha.mono rs rm w fun xs h1 vs H1 px rs1 rvs rm1 w1 => ⟨xs, h1, px, rvs, rs1, rm1, w1⟩)) ?_) he hpl
  rintro us s1 ⟨vs, H1, I1, r, xs, h1, px, rvs, rs1, rm1, w1⟩
  exact ⟨I1.kIn, run_g F hr hgd hb tk I1 r rvs rs1 rm1 w1 fun z h' v H' px' rz rm' c => c v H' (px.trans px') rz rm'⟩
end
end DL

namespace DL
open PySem PySem.Spec PyProof.Rows L2
set_option autoImplicit true

def lexL : List Int → List Int → Bool
  | x :: xs, y :: ys => if x = y then lexL xs ys else decide (x < y)
  | [], _ :: _ => true
  | _, [] => false
def leL (a b : List Int) : Bool := !lexL b a
theorem lex_total : ∀ a b : List Int, lexL a b = false → lexL b a = false → a = b
  | [], [], _, _ => rfl
  | [], _ :: _, h, _ => by simp [lexL] at h
  | _ :: _, [], _, h => by simp [lexL] at h
  | x :: xs, y :: ys, h, h' => by
    unfold lexL at h h'
    by_cases e : x = y
    · subst e
      rw [if_pos rfl] at h h'
      rw [lex_total xs ys h h']
    · rw [if_neg e] at h
      rw [if_neg fun z => e z.symm] at h'
      have a := of_decide_eq_false h
      have b := of_decide_eq_false h'
      omega
theorem lex_asym : ∀ a b : List Int, lexL a b = true → lexL b a = false
  | [], [], h => by simp [lexL] at h
  | [], _ :: _, _ => by simp [lexL]
  | _ :: _, [], h => by simp [lexL] at h
  | x :: xs, y :: ys, h => by
    unfold lexL at h ⊢
    by_cases e : x = y
    · subst e
      rw [if_pos rfl] at h ⊢
      exact lex_asym xs ys h
    · rw [if_neg e] at h
      rw [if_neg fun z => e z.symm]
      have a := of_decide_eq_true h
      exact decide_eq_false (by omega)
theorem lex_irr (a : List Int) : lexL a a = false := by
  cases q : lexL a a with
  | false => rfl
  | true => exact q.symm.trans (lex_asym a a q)
theorem lex_trans : ∀ a b c : List Int, lexL b a = false → lexL c b = false → lexL c a = false
  | [], b, c, h1, h2 => by
    cases b with
    | nil => exact h2
    | cons y ys =>
      cases c with
      | nil => simp [lexL] at h2
      | cons z zs => simp [lexL]
  | x :: xs, b, c, h1, h2 => by
    cases b with
    | nil => simp [lexL] at h1
    | cons y ys =>
      cases c with
      | nil => simp [lexL] at h2
      | cons z zs =>
        unfold lexL at h1 h2 ⊢
        by_cases e1 : y = x
        · subst e1
          rw [if_pos rfl] at h1
          by_cases e2 : z = y
          · subst e2
            rw [if_pos rfl] at h2 ⊢
            exact lex_trans xs ys zs h1 h2
          · rw [if_neg e2] at h2 ⊢
            exact h2
        · rw [if_neg e1] at h1
          have a := of_decide_eq_false h1
          by_cases e2 : z = y
          · subst e2
            rw [if_neg e1]
            exact h1
          · rw [if_neg e2] at h2
            have b := of_decide_eq_false h2
            rw [if_neg (by omega)]
            exact decide_eq_false (by omega)
theorem leL_total : PySem.W.TotalLe leL := by
  refine ⟨fun a b c h1 h2 => ?_, fun a b => ?_⟩
  · unfold leL at h1 h2 ⊢
    rw [Bool.not_eq_true'] at h1 h2 ⊢
    exact lex_trans a b c h1 h2
  · unfold leL
    cases q : lexL b a with
    | false => exact .inl rfl
    | true => rw [lex_asym b a q]; exact .inr rfl
theorem total_by {α β : Type} {le : β → β → Bool} (f : α → β) (h : PySem.W.TotalLe le) : PySem.W.TotalLe (fun a b => le (f a) (f b)) := ⟨fun _ _ _ => h.trans _ _ _, fun _ _ => h.total _ _⟩
theorem ints_uniq : ∀ {is js r r' : List Value} {ns ms : List Int}, IntsAre is ns → IntsAre js ms → ns.length = ms.length → is ++ r = js ++ r' → ns = ms ∧ r = r'
  | _, _, _, _, _, _, .nil, .nil, _, e => ⟨rfl, e⟩
  | _, _, _, _, _, _, .nil, .cons _ _ _, h, _ => by simp at h
  | _, _, _, _, _, _, .cons _ _ _, .nil, h, _ => by simp at h
  | _, _, _, _, _, _, .cons n t a, .cons m u b, h, e => by
    simp only [List.cons_append, List.cons.injEq, Value.int.injEq] at e
    obtain ⟨e1, e2⟩ := ints_uniq a b (by simpa using h) e.2
    exact ⟨by rw [e.1.1, e1], e2⟩
theorem HdAt.uniq {h : Heap} {v : Value} {ns ms : List Int} {r r' : List Value} (a : HdAt h v ns r) (b : HdAt h v ms r') (hl : ns.length = ms.length) : ns = ms ∧ r = r' := by
  obtain ⟨p, o, n, is, rfl, h1, _, h3, h4⟩ := a
  obtain ⟨p', o', n', js, e, g1, _, g3, g4⟩ := b
  cases e
  rw [h1] at g1
  cases g1
  rw [h3] at g3
  injection g3 with g3 _
  exact ints_uniq h4 g4 hl (by simpa using g3)
open Classical in
noncomputable def hdKey (h : Heap) (m : Nat) (v : Value) : List Int := if q : ∃ ns rest, ns.length = m ∧ HdAt h v ns rest then q.choose else []
theorem hdKey_eq {h : Heap} {m : Nat} {v : Value} {ns : List Int} {r : List Value} (hl : ns.length = m) (a : HdAt h v ns r) : hdKey h m v = ns := by
  have q : ∃ ns rest, ns.length = m ∧ HdAt h v ns rest := ⟨ns, r, hl, a⟩
  unfold hdKey
  rw [dif_pos q]
  obtain ⟨r', e, b⟩ := q.choose_spec
  exact (b.uniq a (e.trans hl.symm)).1
section
variable {prog : Program} {w : World} {A : Around} {E : Value → Shared → Prop} {s : Shared}
theorem lex_same {b : Bool} {Q : Bool → Shared → Prop} : ∀ (l : List Value) (i : Nat), Q false s → PySem.W.KatLex prog w A b false Q (l.zip l) i s
  | [], _, h => PySem.W.kat_nil h
  | v :: l, i, h => PySem.W.kat_cons (SeqAt.EqAt.same v prog w _ _ (PySem.W.kat_yes (lex_same l (i + 1) h)))
theorem lex_go {b : Bool} {Q : Bool → Shared → Prop} {fin : Bool} {r r' : List Value} : ∀ {is js : List Value} {ns ms : List Int} (i : Nat), IntsAre is ns → IntsAre js ms → ns.length = ms.length → (ns = ms → r = r' ∧ fin = false) → Q (lexL ns ms) s →
    PySem.W.KatLex prog w A b fin Q ((is ++ r).zip (js ++ r')) i s
  | _, _, _, _, i, .nil, .nil, _, he, h => by
    obtain ⟨e, e2⟩ := he rfl
    subst e e2
    exact lex_same r i (by simpa [lexL] using h)
  | _, _, _, _, _, .nil, .cons _ _ _, h, _, _ => by simp at h
  | _, _, _, _, _, .cons _ _ _, .nil, h, _, _ => by simp at h
  | _, _, _, _, i, .cons p t ha, .cons q u hb, hl, he, h => by
    refine PySem.W.kat_cons (SeqAt.EqAt.int_int p t q u prog w _ _ ?_)
    unfold lexL at h
    by_cases e : p = q
    · subst e
      rw [if_pos rfl] at h
      have e1 : decide (p = p) = true := decide_eq_true rfl
      refine PySem.W.kat_go (fun _ => PySem.W.kat_yes (lex_go (i + 1) ha hb (by simpa using hl) (fun z => he (by rw [z])) h)) (fun z => ?_)
      simp at z
    · rw [if_neg e] at h
      refine PySem.W.kat_go (fun z => ?_) (fun _ => PySem.W.kat_no ?_)
      · simp at z
        exact absurd z e
      · cases hb' : (b && i == 0) with
        | true => exact oneLt_int h
        | false => exact PySem.W.kat_one _ _ (PyProof.Rows.lt_int (Q := PySem.W.BoolBack Q) h)
/-- what is asked of the values sorted -/
def HdsOk (h : Heap) (m : Nat) (vs : List Value) : Prop := (∀ v ∈ vs, ∃ ns r, ns.length = m ∧ HdAt h v ns r) ∧ ∀ v ∈ vs, ∀ u ∈ vs, ∀ ns r r', ns.length = m → HdAt h v ns r → HdAt h u ns r' → r = r'
noncomputable def ltV (h : Heap) (m : Nat) (v u : Value) : Bool := lexL (hdKey h m v) (hdKey h m u)
theorem ltV_swo (h : Heap) (m : Nat) : SrtO.Swo (ltV h m) := ⟨fun x y => lex_asym _ _, fun x y z => lex_trans _ _ _⟩
theorem hds_cmp {h₀ : Heap} {m : Nat} {vs : List Value} (ok : HdsOk h₀ m vs) (k : ∀ b o, h₀.get? b = some o → o.cls = .type "tuple" → s.heap.get? b = some o) :
    SrtO.Cmp prog w A s (tuples' true) (fun p => p.1 ∈ vs) (SrtO.lt2 (ltV h₀ m)) := by
  intro p q hm hm'
  obtain ⟨ns, r, l1, h1⟩ := ok.1 _ hm
  obtain ⟨ms, r', l2, h2⟩ := ok.1 _ hm'
  have eq := ok.2 _ hm _ hm'
  show wpAny (model prog w) A (keyLt' (tuples' true) p.1 q.1) (fun x s' => s' = s ∧ x = lexL (hdKey h₀ m p.1) (hdKey h₀ m q.1)) (fun _ _ => False) s
  rw [hdKey_eq l1 h1, hdKey_eq l2 h2]
  have e' : ns = ms → r = r' := fun e => by subst e; exact eq _ _ _ l1 h1 h2
  obtain ⟨a, o, n, is, ea, g1, g2, g3, g4⟩ := h1.keeps k
  obtain ⟨a', o', n', js, ea', f1, f2, f3, f4⟩ := h2.keeps k
  rw [ea, ea']
  refine PySem.W.kat_lt g1 g3 f1 f3 ?_
  refine lex_go 0 g4 f4 (l1.trans l2.symm) (fun e => ⟨e' e, ?_⟩) ⟨rfl, rfl⟩
  have z1 := g4.length
  have z2 := f4.length
  rw [List.size_toArray, List.size_toArray, List.length_append, List.length_append, ← e' e, z1, z2, l1, l2]
  exact decide_eq_false (Nat.lt_irrefl _)
theorem hds_firsts {h : Heap} {m : Nat} (hm : 1 ≤ m) : ∀ vs : List Value, (∀ v ∈ vs, ∃ ns r, ns.length = m ∧ HdAt h v ns r) → ∃ fs, PySem.W.KatTups h vs fs ∧ fs.length = vs.length ∧ ∀ f, f ∈ fs → ∃ n t, f = Value.int n t
  | [], _ => ⟨[], PySem.W.KatTups.nil, rfl, fun f hf => by simp at hf⟩
  | v :: vs, x => by
    obtain ⟨fs, k, hl, hi⟩ := hds_firsts hm vs fun u hu => x u (List.mem_cons_of_mem _ hu)
    obtain ⟨ns, r, l1, a, o, n, is, rfl, g1, g2, g3, g4⟩ := x v List.mem_cons_self
    cases g4 with
    | nil => simp at l1; omega
    | @cons p t is ns g4 =>
      refine ⟨Value.int p t :: fs, PySem.W.KatTups.cons g1 g2 g3 (by simp) k, by simp [hl], fun f hf => ?_⟩
      rcases List.mem_cons.mp hf with rfl | hf
      · exact ⟨p, t, rfl⟩
      · exact hi f hf
theorem hds_sortable {a : Addr} {h₀ : Heap} {m : Nat} {vs : List Value} (hm : 1 ≤ m) (h0 : 0 < vs.length) (ok : HdsOk h₀ m vs) (k : ∀ b o, h₀.get? b = some o → o.cls = .type "tuple" → b ≠ a ∧ s.heap.get? b = some o) : SrtO.SortableO prog w A s a vs (ltV h₀ m) := by
  intro h' keep
  have k' : ∀ b o, h₀.get? b = some o → o.cls = .type "tuple" → h'.get? b = some o := fun b o e c => keep b o (k b o e c).1 (k b o e c).2
  obtain ⟨fs, h1, h2, h3⟩ := hds_firsts (h := h') hm vs fun v hv => by
    obtain ⟨ns, r, l, x⟩ := ok.1 v hv
    exact ⟨ns, r, l, x.keeps k'⟩
  refine ⟨tuples' true, fun Q E hq => ?_, hds_cmp ok k'⟩
  refine PySem.W.kat_kind (T := .type "int") h1 (by omega) (fun f hm => ?_) (by rfl) ?_
  · obtain ⟨x, t, rfl⟩ := h3 f hm
    exact PySem.W.Looks.now
  · have e : (Value.type "int" != Value.type "tuple") = true := by first | decide +kernel | rfl | decide
    rw [e]
    exact hq
theorem stb_sort {h : Heap} {m : Nat} {out vs : List Value} (h1 : SrtO.Srtd (ltV h m) out) (h2 : SrtO.Stb (ltV h m) out vs) : out = vs.mergeSort (fun v u => leL (hdKey h m v) (hdKey h m u)) := by
  refine PySem.W.sort_unique (total_by (hdKey h m) leL_total) (h1.imp fun {x y} z => ?_) fun c => ?_
  · show leL (hdKey h m x) (hdKey h m y) = true
    unfold leL
    have z' : lexL (hdKey h m y) (hdKey h m x) = false := z
    rw [z']
    rfl
  · have e := h2.cls c
    have ef : SrtO.eqv (ltV h m) c = PySem.W.sameRank (fun v u => leL (hdKey h m v) (hdKey h m u)) c := by
      funext a
      unfold SrtO.eqv PySem.W.sameRank leL ltV
      rw [Bool.and_comm]
    rw [ef] at e
    exact e
end
theorem ints_get {K : PySem.W.Frag} {H : Hp} : ∀ {vs : List V} {ds : List PyData}, DpAll K H vs ds → (∀ d ∈ ds, ∃ i, d = PyData.int i) → ∃ ns : List Int, vs = ns.map V.int ∧ ds = ns.map PyData.int
  | _, _, .nil, _ => ⟨[], rfl, rfl⟩
  | _, _, .cons a b, h => by
    obtain ⟨i, rfl⟩ := h _ List.mem_cons_self
    obtain ⟨ns, e1, e2⟩ := ints_get b fun d hd => h d (List.mem_cons_of_mem _ hd)
    cases a
    exact ⟨i :: ns, by rw [e1]; rfl, by rw [e2]; rfl⟩
end DL

namespace DL
open PySem PySem.Spec PyProof.Rows L2
set_option autoImplicit true

section
variable {prog : Program} {w : World} {A : Around} {s : Shared}
end

def rowOf : PyData → Int
  | .tuple (_ :: .int r :: _) => r
  | _ => 0
def placeOf : PyData → Int
  | .tuple (.int p :: _) => p
  | _ => 0
def byOk (ds : List PyData) : Prop := ∀ d ∈ ds, ∃ p r rest, d = .tuple (.int p :: .int r :: rest)
def leBy (a b : PyData) : Bool := leL [rowOf a, placeOf a] [rowOf b, placeOf b]
def fBy (t : DTA) : DTF := fun σ h Q => t σ h fun xs h1 => match xs with
  | [x] => match asQ h1 x with
    | some ds => byOk ds ∧ Q (ds.mergeSort leBy) h1
    | none => False
  | _ => False
section
variable {prog : Program} {w : World} {A : Around} {EX : Value → Shared → Prop} {s : Shared} {β : Type} {vs : List Value} {bs : List β} {R : Value → β → Prop}
open PySem.W in
end
end DL

namespace DL
open PySem PySem.Spec PyProof.Rows L2
set_option autoImplicit true

def FnC (P : Program) (w : World) (K : PySem.W.Frag) (mg : Str → Option Value) (base : Heap) (T : List (Addr × Str)) (k : Nat) (x : Str) (ps : List Str) (W : DSp) : Prop :=
  ∃ f fd, FnG P w K mg base T k f fd ps W ∧ PySem.W.keepIn K (.ref f) = true ∧ Binds K fd ps [] ∧ mg x = some (.ref f)
theorem FnC.up {P : Program} {w : World} {K : PySem.W.Frag} {mg : Str → Option Value} {base : Heap} {T : List (Addr × Str)} {j k : Nat} {x : Str} {ps : List Str} {W : DSp} (F : FnC P w K mg base T j x ps W) (h : j ≤ k) : FnC P w K mg base T k x ps W := by
  obtain ⟨f, fd, a, b⟩ := F
  exact ⟨f, fd, a.up h, b⟩
section
variable {X : Cx} {k : Nat} {ps : List Str} {W : DSp} {E : DXS} {x : Str} {p pos : Pos} {e : Expr} {es : List Expr} {t : DTA} {T : List (Addr × Str)}
theorem de_fn (hΓ : Γ.T = T) (F : FnC X.prog X.w X.K X.mg X.base T k x ps W) (hr : Room k X.A) (hgd : X.A.guards = some []) (tk : Takes X (liftX X.K Γ E)) (ha : DA X Γ (e :: es) t) (hg : Gl X x := by rfl) (hdb : (x == ("__debug__" : Str)) = false := by decide)
    (he : starEach (e :: es) X.env = (false, eval e X.env) :: starEach es X.env := by rfl) (hpl : (backTo pos (starEach es X.env)).any (·.1) = false := by rfl) : DE X Γ (.Call (.Name x p) (e :: es) [] pos) (dCall E W t) := by
  obtain ⟨f, fd, a, b, c, d⟩ := F
  exact de_call hΓ a hr hgd hg d b c tk ha hdb he hpl
end
theorem fn_c {P : Program} {w : World} {K : PySem.W.Frag} {mg : Str → Option Value} {base : Heap} {T : List (Addr × Str)} {k : Nat} {x : Str} {ps : List Str} {W : DSp} {st : Stmt} {f : Addr} {fd : FuncData} (F : Fun K x x st f fd) (G : FnG P w K mg base T k f fd ps W) (hm : mg x = some (.ref f))
    (hb : ∀ (kV doc pm : Value) (an : Option Addr) (cdv ct : Value) (us : List Value), us.length = ps.length → bindArgs (PySem.W.fnOf x x (defArgs st) (defBody st) (defScope st) .none kV doc pm an cdv ct) ⟨us, []⟩ = pure (ps.zip us)) : FnC P w K mg base T k x ps W :=
  ⟨f, fd, G, F.kp, F.binds hb, hm⟩
theorem room1 {k : Nat} {A : Around} (r : Room k A) : A.units + 1 < cLine := hu_of r
theorem room64 {k : Nat} {A : Around} (r : Room k A) : A.units + 64 < cLine := by
  have := r.un
  omega
theorem room65 {k : Nat} {A : Around} (r : Room k A) : A.units + 65 < cLine := by
  have := r.un
  omega
end DL

namespace DL
open PySem PySem.Spec PyProof.Rows L2
set_option autoImplicit true

theorem hpTop_tab {K : PySem.W.Frag} {ts : List Addr} {a x : Addr} {o : Obj} {u : HO} (m : x ∈ ts) : hpTop K ts a o u x = some (.tbl #[]) := if_pos m
section
variable {P : Program} {w : World} {K : PySem.W.Frag} {mg mb : Str → Option Value} {cs : List (Addr × Addr)} {t : Shared} {a : Addr} {vs : List Value} {ns : List Int}
theorem TopOk.noTab (G : TopOk K mg mb cs t a vs ns) : a ∉ cs.map (·.2) := fun m => by
  have z := (G.isTab m).1
  rw [G.scr] at z
  have z' := congrArg Obj.data (Option.some.inj z)
  cases z'
theorem TopOk.keepNs (G : TopOk K mg mb cs t a vs ns) {x : Addr} {m : Str → Option Value} (h : t.heap.Ns x m) : (hidT t.heap (topHp K cs a vs ns)).Ns x m := by
  obtain ⟨o, es, n, e, d, r⟩ := h
  refine ⟨o, es, n, hidT_get e (G.free e (fun us k z => ?_) fun z => ?_), d, r⟩
  · rw [d] at z; cases z
  · rw [d] at z; cases z
theorem TopOk.kinT (G : TopOk K mg mb cs t a vs ns) : K.In (hidT t.heap (topHp K cs a vs ns)) := fun x o e => hidT_get (G.kin x o e) (by
  cases q : topHp K cs a vs ns x with
  | none => rfl
  | some u =>
    rcases hpTop_cases q with ⟨m, _⟩ | ⟨_, ea, en, _⟩
    · rw [(G.isTab m).2] at e; cases e
    · rw [ea, en] at e; cases e)
theorem TopOk.hok (G : TopOk K mg mb cs t a vs ns) : HOk P w (topHp K cs a vs ns) t.heap := fun x u q => by
  rcases hpTop_cases q with ⟨m, e⟩ | ⟨_, ea, _, e⟩
  · subst e
    exact (G.isTab m).1
  · subst e ea
    exact ⟨G.scr, by rw [List.length_map]; exact G.len, vs, _, L2.vals_ints G.int, G.scr⟩
theorem TopOk.sq (G : TopOk K mg mb cs t a vs ns) : SqL K (topHp K cs a vs ns) a (ns.map V.int) := by
  cases q : K.lookup a with
  | none => exact .inl (.inr ⟨_, (if_neg G.noTab).trans (if_pos ⟨rfl, by rw [q]; rfl⟩)⟩)
  | some o =>
    have e := G.kin a o q
    rw [G.scr] at e
    cases e
    exact .inr ⟨_, vs.toArray, _, q, rfl, rfl, rfl, by rw [List.size_toArray, G.int.length]; exact G.len, by simpa using L2.vals_ints G.int⟩
theorem TopOk.tabB (G : TopOk K mg mb cs t a vs ns) : ∀ c ∈ cs, LamX.TabB (hidT t.heap (topHp K cs a vs ns)) mg c.1 c.2 := fun c hc => by
  have tc := G.tab c hc
  constructor
  · obtain ⟨o, us, file, tf, flags, tg, inF, text, tt, e1, r1, r2, r3, rr⟩ := G.cod c hc
    refine ⟨o, us, file, tf, flags, tg, inF, text, tt, hidT_get e1 (G.free e1 (fun vs n z => ?_) fun z => ?_), r1, r2, r3, rr⟩
    · rw [r2] at z; cases z
    · rw [r2] at z
      cases z
      simp at r3
  · obtain ⟨m, o, b1, b2, b3, b4, b5, b6⟩ := G.mod
    refine ⟨m, o, b1, b2, fun q => ?_, fun q => ?_, hidT_get b3 (G.free b3 (fun us k z => ?_) fun z => ?_), b4, b5, b6⟩
    · obtain ⟨o', es, n, e, hd, _⟩ := G.glo
      rw [q, e] at b3
      cases b3
      rw [hd] at b6
      cases b6
    · rw [q, tc] at b3
      cases b3
      cases b6
    · rw [b6] at z; cases z
    · rw [b6] at z; cases z
  · intro z
    obtain ⟨o', es, n, e, hd, _⟩ := G.glo
    rw [z, tc] at e
    cases e
    cases hd
theorem TopOk.env0 (G : TopOk K mg mb cs t a vs ns) : Env0 P w K mg (hidT t.heap (topHp K cs a vs ns)) callerA [] t (topHp K cs a vs ns) := by
  have hM : L2.Mod K mg (hidT t.heap (topHp K cs a vs ns)) := ⟨G.kinT, G.keepNs G.glo, ⟨mb, G.keepNs G.blt, G.bltX⟩, let ⟨mc, h1, h2⟩ := G.lim; ⟨mc, G.keepNs h1, h2⟩⟩
  exact ⟨rfl, hM, fun b o e => of_hidT e, Nat.le_of_eq (hidT_size _ _), trivial, fun b hb => (List.not_mem_nil hb).elim, G.hok, .of_eq G.gen⟩
/-- a def that keeps its promise lets the law through -/
theorem top_call {k : Nat} {fa : Addr} {fd : FuncData} {x : Str} {W : DSp} {T : List (Addr × Str)} (G : TopOk K mg mb cs t a vs ns) (hr : Room k callerA) (hT : ∀ p ∈ T, p.1 ∈ cs.map (·.2))
    (F : FnG P w K mg (hidT t.heap (topHp K cs a vs ns)) T k fa fd [x] W) (hb : BindsTo t fd ⟨[.ref a], []⟩ [(x, .ref a)]) (hw : W [.d (.list (ns.map PyData.int))] (fun _ => none) (fun r _ => r = .d (.bool true)) fun _ _ => False) :
    codeAny (model P w) callerA (.call (.ref fa) ⟨[.ref a], []⟩) (fun r s' => r = .ok (.ret (.bool true)) ∧ OldK t.heap s'.heap ∧ s'.os = t.os ∧ AllBare s'.gens) t := by
  have sq0 : SqL K (Fzx [] (topHp K cs a vs ns) fun _ => none) a (ns.map V.int) := by
    rcases G.sq with (z | ⟨o, z⟩) | z
    · exact .inl (.inl (Fz.of z rfl (by simp)))
    · exact .inl (.inr ⟨o, Fz.of z rfl (by simp)⟩)
    · exact .inr z
  have rm0 : RM K (G0 [] T) (topHp K cs a vs ns) (fun _ => none) := ⟨(fun _ _ z => by cases z), trivial, fun _ m => (List.not_mem_nil m).elim, fun p hp => LamX.TabS.nil (hpTop_tab (hT p hp))⟩
  have sp : liftSp K T W [.ref a] (topHp K cs a vs ns) (fun v _ => v = .bl true) (fun _ _ _ => False) := by
    refine ⟨[], [.d (.list (ns.map PyData.int))], fun _ => none, .cons (show Dp K _ _ _ from .lst sq0 (dps_ints ns)) .nil, rm0, F.mono _ _ _ _ _ _ (fun r h' e v H' _ rv _ => ?_) (fun _ _ z => z.elim) hw⟩
    subst e
    have rv' : Dp K _ v (.bool true) := rv
    cases rv'
    rfl
  refine codeAny_mono (F.run callerA [] t _ ⟨[.ref a], []⟩ [.ref a] [.ref a] _ _ hr rfl G.env0 hb (.cons rfl .nil) sp) fun r s' h => ?_
  have nox : ∀ e, ¬ L2.CX P w [] (topHp K cs a vs ns) t (fun _ _ _ => False) e s' := fun e z => by
    obtain ⟨_, _, _, _, _, _, _, _, _, _, _, _, z⟩ := z
    exact z
  cases r with
  | error e => exact (nox e h).elim
  | ok fl => cases fl with
    | next => exact False.elim h
    | brk => exact False.elim h
    | cont => exact False.elim h
    | ret u =>
      obtain ⟨v, H', os, bare, un, hok', rv, q⟩ := h
      have q' : v = .bl true := q
      subst q'
      obtain rfl : u = Value.bool true := rv
      have stay : ∀ x o, x ∉ cs.map (·.2) → t.heap.get? x = some o → s'.heap.get? x = some o := fun x o nx e => by
        cases q : topHp K cs a vs ns x with
        | none => exact un.keep x o e q (List.not_mem_nil) (by simp)
        | some u =>
          rcases hpTop_cases q with ⟨m, _⟩ | ⟨_, ea, _, eu⟩
          · exact absurd m nx
          · subst eu
            obtain ⟨e2, _⟩ := hok' x _ (un.frzs x _ _ q)
            rw [ea, G.scr] at e
            cases e
            exact e2
      have more : ∀ c ∈ cs, ∃ zs : Array Value, s'.heap.get? c.2 = some { cls := .none, data := .fields zs } := fun c hc => by
        obtain ⟨zs, z⟩ := un.tbls c.2 #[] (hpTop_tab (List.mem_map_of_mem hc))
        exact ⟨_, hok' c.2 _ z⟩
      refine ⟨rfl, ⟨fun x o e => ?_, fun x o e => ?_⟩, os, bare⟩
      · by_cases m : x ∈ cs.map (·.2)
        · obtain ⟨c, hc, rfl⟩ := List.mem_map.mp m
          obtain ⟨zs, z⟩ := more c hc
          rw [G.tab c hc] at e
          cases e
          exact .inr (.inl ⟨((G.cod c hc).tab (G.tab c hc)).isCodeTable, rfl, #[], zs, rfl, by rw [Array.empty_append]; exact z⟩)
        · exact .inl (stay x o m e)
      · by_cases m : x ∈ cs.map (·.2)
        · obtain ⟨c, hc, rfl⟩ := List.mem_map.mp m
          obtain ⟨zs, z⟩ := more c hc
          exact ⟨_, z⟩
        · exact ⟨o, stay x o m e⟩
end
end DL

namespace DL
open PySem PySem.Spec PyProof.Rows L2
set_option autoImplicit true
theorem fun_of {K : PySem.W.Frag} {x : Str} {st : Stmt} {f : Addr} {fd : FuncData} (F : FunD K x x (defArgs st) (defBody st) (defScope st) [] [] f fd) : Fun K x x st f fd := by
  obtain ⟨oc, od, dV, kV, doc, pm, an, cdv, ct, osl, rfl, lk, hcd, hD, hK⟩ := F.ex
  rcases hD with ⟨_, rfl⟩ | ⟨e, _⟩
  · exact ⟨⟨oc, od, kV, doc, pm, an, cdv, ct, osl, rfl, lk, hcd⟩, F.kp⟩
  · exact absurd rfl e
abbrev tabsT (K : PySem.W.Frag) (tf : List He.Defn) (nm : He.Defn → Str) : List (Addr × Str) := tf.map fun p => ((He.cT K p).2, nm p)
/-- THE LAW'S WALK: F tells, at the head's facts, the law's promise -/
theorem walk_g {l : PySem.W.OpenLaw} {n m k : Nat} {q : Program} {loose : List Str} {XP : (Str → Option Value) → Heap → Prop} {d : DefRec} {x : Str} {fas : List He.Fa} {fns : List He.DefD} {tf : List He.Defn} {nm : He.Defn → Str} {ex : PySem.W.Frag → Bool} {W : DSp}
    (hn : l.most = some n) (hn2 : n ≤ sizeLine) (hdf : d.params.defaults = []) (hr : Room k callerA)
    (F : ∀ (w : World) (mg : Str → Option Value) (fa : Addr) (h : Heap) (K : PySem.W.Frag), K.In h → h.Ns mainGlobals mg → mg d.name = some (.ref fa) → He.SaysX fas fns [] tf ex w h K →
      ∃ fd : FuncData, (∀ (s : Shared) (u : Value), BindsTo s fd ⟨[u], []⟩ [(x, u)]) ∧ ∀ base : Heap, K.In base → base.Ns mainGlobals mg → (∀ c ∈ tf.map (He.cT K), LamX.TabB base mg c.1 c.2) → FnG l.prog w K mg base (tabsT K tf nm) k fa fd [x] W)
    (hw : ∀ ns : List Int, ns.length ≤ n → (∀ z ∈ ns, Builtin.Int.intBits z ≤ 1048576) → W [.d (.list (ns.map PyData.int))] (fun _ => none) (fun r _ => r = .d (.bool true)) fun _ _ => False) :
    PySem.W.WalkO q loose XP (He.hookX m fas fns [] tf ex).says l.row.toRowW d [] (fun f vs => PySem.call f vs) := by
  refine Att.attach_callB hn hdf fun w s₀ t mg mb fa o pm cd doc a vs ns G Y ho hd hcd hmg hobj hints hlen hbits hg => ?_
  obtain ⟨K, KX, S⟩ := Y
  obtain ⟨fd, hb, hF⟩ := F w mg fa _ K KX G.T.g hmg S
  have tok : TopOk K mg mb (tf.map (He.cT K)) t a vs ns := ⟨KX, G.T.g, G.T.b, G.T.builtins, G.T.nolimit, hg, fun c hc => by
    obtain ⟨p, hp, rfl⟩ := List.mem_map.mp hc
    exact S.empty p hp, fun c hc => by
    obtain ⟨p, hp, rfl⟩ := List.mem_map.mp hc
    exact S.out p hp, fun c hc => by
    obtain ⟨p, hp, rfl⟩ := List.mem_map.mp hc
    exact PySem.W.codeHd_of_K KX (S.hd p hp), G.T.bmain, hobj, hints, Nat.le_trans hlen hn2⟩
  refine top_call tok hr (fun p hp => ?_) (hF _ tok.kinT (tok.keepNs G.T.g) tok.tabB) (hb _ _) (hw ns hlen hbits)
  obtain ⟨c, hc, rfl⟩ := List.mem_map.mp hp
  exact List.mem_map.mpr ⟨He.cT K c, List.mem_map_of_mem hc, rfl⟩
end DL

namespace DL
open PySem PySem.Spec PyProof.Rows L2
set_option autoImplicit true

def dOk : Nat → PyData → Bool
  | _, .none => true
  | _, .bool _ => true
  | _, .int _ => true
  | _, .str x => PySem.PyData.strOk x
  | n + 1, .list xs => xs.all (dOk n)
  | n + 1, .tuple xs => xs.all (dOk n)
  | 0, .list _ => false
  | 0, .tuple _ => false
  | _, .dict _ => false
theorem canLayAll_of {xs : List PyData} (h : ∀ x ∈ xs, x.canLay0 = true) : PyData.canLayAll0 xs = true := by
  induction xs with
  | nil => rfl
  | cons x xs ih =>
    unfold PyData.canLayAll0
    rw [h x List.mem_cons_self, ih fun y hy => h y (List.mem_cons_of_mem _ hy)]
    rfl
theorem depthAll_of {n : Nat} {xs : List PyData} (h : ∀ x ∈ xs, x.depth ≤ n) : PyData.depthAll xs ≤ n := by
  induction xs with
  | nil => exact Nat.zero_le _
  | cons x xs ih =>
    unfold PyData.depthAll
    exact Nat.max_le.mpr ⟨h x List.mem_cons_self, ih fun y hy => h y (List.mem_cons_of_mem _ hy)⟩
theorem dOk_ok : ∀ (n : Nat) (d : PyData), dOk n d = true → d.canLay0 = true ∧ d.depth ≤ n
  | _, .none, _ => ⟨rfl, Nat.zero_le _⟩
  | _, .bool _, _ => ⟨rfl, Nat.zero_le _⟩
  | _, .int _, _ => ⟨rfl, Nat.zero_le _⟩
  | n, .str x, h => ⟨by cases n <;> simpa [dOk, PyData.canLay0] using h, Nat.zero_le _⟩
  | n + 1, .list xs, h => by
    have z : ∀ x ∈ xs, dOk n x = true := List.all_eq_true.mp (by simpa [dOk] using h)
    exact ⟨by rw [PyData.canLay0]; exact canLayAll_of fun x hx => (dOk_ok n x (z x hx)).1, by rw [PyData.depth]; exact Nat.succ_le_succ (depthAll_of fun x hx => (dOk_ok n x (z x hx)).2)⟩
  | n + 1, .tuple xs, h => by
    have z : ∀ x ∈ xs, dOk n x = true := List.all_eq_true.mp (by simpa [dOk] using h)
    exact ⟨by rw [PyData.canLay0]; exact canLayAll_of fun x hx => (dOk_ok n x (z x hx)).1, by rw [PyData.depth]; exact Nat.succ_le_succ (depthAll_of fun x hx => (dOk_ok n x (z x hx)).2)⟩
  | 0, .list _, h => by simp [dOk] at h
  | 0, .tuple _, h => by simp [dOk] at h
  | n, .dict _, h => by cases n <;> simp [dOk] at h
theorem shaped_ok {n : Nat} {d : PyData} (hn : n ≤ 64) (h : dOk n d = true) : SeqAt.shaped d = true := by
  obtain ⟨h1, h2⟩ := dOk_ok n d h
  unfold SeqAt.shaped
  rw [h1, decide_eq_true (by omega)]
  rfl
theorem shaped_int (i : Int) : SeqAt.shaped (.int i) = true := rfl
theorem shaped_none : SeqAt.shaped .none = true := rfl
theorem shaped_bool (b : Bool) : SeqAt.shaped (.bool b) = true := rfl
/-- data whose text is at most 26 signs a thing, and how many things there are -/
def sOk : Nat → PyData → Bool
  | _, .none => true
  | _, .bool _ => true
  | _, .int i => decide (i.natAbs < 10 ^ 20)
  | _, .str x => PySem.PyData.strOk x && decide ((reprText x).length ≤ 24)
  | n + 1, .list xs => xs.all (sOk n)
  | n + 1, .tuple xs => xs.all (sOk n)
  | 0, .list _ => false
  | 0, .tuple _ => false
  | _, .dict _ => false
def nodes : Nat → PyData → Nat
  | n + 1, .list xs => 1 + (xs.map (nodes n)).sum
  | n + 1, .tuple xs => 1 + (xs.map (nodes n)).sum
  | _, _ => 1
theorem sOk_dOk : ∀ (n : Nat) (d : PyData), sOk n d = true → dOk n d = true
  | n, .none, _ => by cases n <;> rfl
  | n, .bool _, _ => by cases n <;> rfl
  | n, .int _, _ => by cases n <;> rfl
  | n, .str x, h => by cases n <;> simp [sOk] at h <;> simpa [dOk] using h.1
  | n + 1, .list xs, h => by
    have z : ∀ x ∈ xs, sOk n x = true := List.all_eq_true.mp (by simpa [sOk] using h)
    simp only [dOk]
    exact List.all_eq_true.mpr fun x hx => sOk_dOk n x (z x hx)
  | n + 1, .tuple xs, h => by
    have z : ∀ x ∈ xs, sOk n x = true := List.all_eq_true.mp (by simpa [sOk] using h)
    simp only [dOk]
    exact List.all_eq_true.mpr fun x hx => sOk_dOk n x (z x hx)
  | 0, .list _, h => by simp [sOk] at h
  | 0, .tuple _, h => by simp [sOk] at h
  | n, .dict _, h => by cases n <;> simp [sOk] at h
theorem nodes_le {n c : Nat} {xs : List PyData} (h : ∀ x ∈ xs, nodes n x ≤ c) : (xs.map (nodes n)).sum ≤ c * xs.length := by
  induction xs with
  | nil => simp
  | cons x xs ih =>
    simp only [List.map_cons, List.sum_cons, List.length_cons]
    have a := h x List.mem_cons_self
    have b := ih fun y hy => h y (List.mem_cons_of_mem _ hy)
    rw [Nat.mul_succ]
    omega
end DL

namespace DL
open PySem PySem.Spec PyProof.Rows L2
set_option autoImplicit true

theorem put_same {h : MH} {a : Addr} {o : MO} : mput h a o a = some o := if_pos rfl
theorem put_other {h : MH} {a b : Addr} {o : MO} (n : b ≠ a) : mput h a o b = h b := if_neg n
theorem put_put {h : MH} {a : Addr} {o u : MO} : mput (mput h a o) a u = mput h a u := by
  funext b
  unfold mput
  split <;> rfl
theorem put_swap {h : MH} {a b : Addr} {o u : MO} (n : a ≠ b) : mput (mput h a o) b u = mput (mput h b u) a o := by
  funext c
  unfold mput
  by_cases e : c = b
  · subst e
    rw [if_pos rfl, if_neg (Ne.symm n), if_pos rfl]
  · rw [if_neg e, if_neg e]
theorem restr_self {h : MH} {r : SV} : restr h h r = h := by
  funext b
  unfold restr
  cases q : h b with
  | none => simp
  | some o => simp
theorem restr_putd {h h' : MH} {a : Addr} {o : MO} {d : PyData} (e : (h a).isSome = true) : restr h (mput h' a o) (.d d) = mput (restr h h' (.d d)) a o := by
  funext b
  unfold restr mput
  by_cases q : b = a
  · subst q
    simp [e]
  · simp only [if_neg q]
theorem restr_new {h : MH} {p : Addr} {o : MO} (n : h p = none) : restr h (mput h p o) (.own p) = mput h p o := by
  funext b
  unfold restr mput
  by_cases q : b = p
  · subst q
    simp [SV.isOwn]
  · simp only [if_neg q]
    cases z : h b with
    | none => simp
    | some o => simp
section
variable {σ : DSt} {h h' : MH} {Q : DK} {QB : Bool → MH → Prop} {QL : List PyData → MH → Prop} {QA : List SV → MH → Prop} {D : DEnds} {x y z : SV} {i j n m : Int} {d e : PyData} {ta tb tc : DTE} {t u : DTT} {r : DR2} {ts us : DTS} {tA : DTA} {tF : DTF} {xs ys ds es : List PyData} {a p : Addr} {b : Bool}
theorem e_var {i : Nat} (e : slot σ i = some x) (k : Q x h) : dVar i σ h Q := by unfold dVar; rw [e]; exact k
theorem e_c (k : Q (.d d) h) : dC d σ h Q := k
theorem e_op (k : ta σ h fun x h1 => tb σ h1 fun y h2 => r x y h2 Q) : dOp r ta tb σ h Q := k
def testK (QB : Bool → MH → Prop) : DK := fun x h1 => match x with
  | .d (.bool k) => QB k h1
  | _ => False
theorem e_test (k : ta σ h (testK QB)) : dTest ta σ h QB := k
theorem k_test (k : QB b h) : testK QB (.d (.bool b)) h := k
def andK (u : DTT) (σ : DSt) (QB : Bool → MH → Prop) : Bool → MH → Prop := fun c h1 => if c = true then u σ h1 QB else QB false h1
theorem e_and (k : t σ h (andK u σ QB)) : dAnd t u σ h QB := k
theorem k_and (k1 : b = true → u σ h QB) (k2 : b = false → QB false h) : andK u σ QB b h := by
  cases b with
  | true => exact k1 rfl
  | false => exact k2 rfl
def orK (u : DTT) (σ : DSt) (QB : Bool → MH → Prop) : Bool → MH → Prop := fun c h1 => if c = true then QB true h1 else u σ h1 QB
theorem e_or (k : t σ h (orK u σ QB)) : dOr t u σ h QB := k
theorem k_or (k1 : b = true → QB true h) (k2 : b = false → u σ h QB) : orK u σ QB b h := by
  cases b with
  | true => exact k1 rfl
  | false => exact k2 rfl
def notK (QB : Bool → MH → Prop) : Bool → MH → Prop := fun c h1 => QB (!c) h1
theorem e_not (k : t σ h (notK QB)) : dNot t σ h QB := k
theorem k_not (k : QB (!b) h) : notK QB b h := k
def andVK (tb : DTE) (σ : DSt) (Q : DK) : DK := fun x h1 => match x with
  | .d (.bool c) => if c = true then tb σ h1 Q else Q (.d (.bool false)) h1
  | _ => False
theorem e_andV (k : ta σ h (andVK tb σ Q)) : dAndV ta tb σ h Q := k
theorem k_andV (k1 : b = true → tb σ h Q) (k2 : b = false → Q (.d (.bool false)) h) : andVK tb σ Q (.d (.bool b)) h := by
  cases b with
  | true => exact k1 rfl
  | false => exact k2 rfl
def orVK (tb : DTE) (σ : DSt) (Q : DK) : DK := fun x h1 => match x with
  | .d (.bool c) => if c = true then Q (.d (.bool true)) h1 else tb σ h1 Q
  | _ => False
theorem e_orV (k : ta σ h (orVK tb σ Q)) : dOrV ta tb σ h Q := k
theorem k_orV (k1 : b = true → Q (.d (.bool true)) h) (k2 : b = false → tb σ h Q) : orVK tb σ Q (.d (.bool b)) h := by
  cases b with
  | true => exact k1 rfl
  | false => exact k2 rfl
def notVK (Q : DK) : DK := fun x h1 => match x with
  | .d (.bool c) => Q (.d (.bool (!c))) h1
  | _ => False
theorem e_notV (k : ta σ h (notVK Q)) : dNotV ta σ h Q := k
theorem k_notV (k : Q (.d (.bool (!b))) h) : notVK Q (.d (.bool b)) h := k
def ifEK (ta tb : DTE) (σ : DSt) (Q : DK) : Bool → MH → Prop := fun c h1 => if c = true then ta σ h1 Q else tb σ h1 Q
theorem e_ifE (k : t σ h (ifEK ta tb σ Q)) : dIf t ta tb σ h Q := k
theorem k_ifE (k1 : b = true → ta σ h Q) (k2 : b = false → tb σ h Q) : ifEK ta tb σ Q b h := by
  cases b with
  | true => exact k1 rfl
  | false => exact k2 rfl
theorem e_nil (k : QA [] h) : dNil σ h QA := k
theorem e_cons (k : ta σ h fun x h1 => tA σ h1 fun xs h2 => QA (x :: xs) h2) : dCons ta tA σ h QA := k
def tupK (Q : DK) : List SV → MH → Prop := fun xs h1 => match fzs xs h1 with
  | some (ds, h2) => ds.length ≤ sizeLine ∧ Q (.d (.tuple ds)) h2
  | none => False
theorem e_tup (k : tA σ h (tupK Q)) : dTup tA σ h Q := k
theorem k_tup {xs : List SV} (e : fzs xs h = some (ds, h')) (c : Nat.ble ds.length 16777216 = true) (k : Q (.d (.tuple ds)) h') : tupK Q xs h := by unfold tupK; rw [e]; exact ⟨by rw [sizeLine_eq]; exact Nat.le_of_ble_eq_true c, k⟩
def lstK (QL : List PyData → MH → Prop) : List SV → MH → Prop := fun xs h1 => match fzs xs h1 with
  | some (ds, h2) => ds.length ≤ sizeLine ∧ QL ds h2
  | none => False
theorem e_lst (k : tA σ h (lstK QL)) : fLst tA σ h QL := k
theorem k_lst {xs : List SV} (e : fzs xs h = some (ds, h')) (c : Nat.ble ds.length 16777216 = true) (k : QL ds h') : lstK QL xs h := by unfold lstK; rw [e]; exact ⟨by rw [sizeLine_eq]; exact Nat.le_of_ble_eq_true c, k⟩
theorem e_L (k : tF σ h fun ds h' => Q (.d (.list ds)) h') : dL tF σ h Q := k
theorem e_Own (k : tF σ h fun ds h1 => ∀ p, h1 p = none → Q (.own p) (mput h1 p (.lst ds))) : dOwn tF σ h Q := k
theorem e_B {r : DRA} (k : tA σ h fun xs h1 => r xs h1 Q) : dB r tA σ h Q := k
theorem e_fB {r : DRF} (k : tA σ h fun xs h1 => r xs h1 QL) : fB r tA σ h QL := k
theorem e_yes (k : QB true h) : dYes σ h QB := k
theorem e_call {E : DXS} {W : DSp} (k : tA σ h fun xs h1 => W xs h1 Q fun x h2 => E x σ h2) : dCall E W tA σ h Q := k
def mlK (r : DRM) (tA : DTA) (σ : DSt) (Q : DK) : DK := fun x h1 => match asL h1 x with
  | some _ => tA σ h1 fun xs h2 => r x xs h2 Q
  | none => False
theorem e_ML {r : DRM} (k : ta σ h (mlK r tA σ Q)) : dML r ta tA σ h Q := k
theorem k_ML {r : DRM} (e : asL h x = some ds) (k : tA σ h fun xs h2 => r x xs h2 Q) : mlK r tA σ Q x h := by unfold mlK; rw [e]; exact k
theorem e_seq (k : ts { D with nx := fun σ' h' => us D σ' h' } σ h) : dSeq ts us D σ h := k
theorem e_next (k : D.nx σ h) : dNext D σ h := k
theorem e_drop (k : ta σ h fun _ h1 => D.nx σ h1) : dDrop ta D σ h := k
theorem e_ret (k : ta σ h D.rt) : dRet ta D σ h := k
theorem e_retN (k : D.rt (.d .none) h) : dRetN D σ h := k
def retfK (D : DEnds) : DK := fun x h1 => match fz1 x h1 with
  | some (d, h2) => D.rt (.d d) h2
  | none => False
theorem e_retF (k : ta σ h (retfK D)) : dRetF ta D σ h := k
def ifK (ts us : DTS) (D : DEnds) (σ : DSt) : Bool → MH → Prop := fun c h1 => if c = true then ts D σ h1 else us D σ h1
theorem e_if (k : t σ h (ifK ts us D σ)) : dIfS t ts us D σ h := k
theorem k_if (k1 : b = true → ts D σ h) (k2 : b = false → us D σ h) : ifK ts us D σ b h := by
  cases b with
  | true => exact k1 rfl
  | false => exact k2 rfl
def asgK (g : Tg) (D : DEnds) (σ : DSt) : DK := fun x h1 => match bindT g x σ with
  | some σ' => D.nx σ' h1
  | none => False
theorem e_asg {g : Tg} (k : ta σ h (asgK g D σ)) : dAsg ta g D σ h := k
theorem k_nm {i : Nat} (k : D.nx (σ.set i (some x)) h) : asgK (.nm i) D σ x h := k
theorem k_tg {is : List Nat} (e : ds.length = is.length) (k : D.nx (setAll is ds σ) h) : asgK (.tup is) D σ (.d (.tuple ds)) h := by
  show (match (if ds.length = is.length then some (setAll is ds σ) else none) with
    | some σ' => D.nx σ' h
    | none => False)
  rw [if_pos e]
  exact k
def parK (i j : Nat) (D : DEnds) (σ : DSt) : List SV → MH → Prop := fun xs h1 => match xs with
  | [x, y] => D.nx ((σ.set i (some x)).set j (some y)) h1
  | _ => False
theorem e_par {i j : Nat} (k : tA σ h (parK i j D σ)) : dPar i j tA D σ h := k
theorem k_par {i j : Nat} (k : D.nx ((σ.set i (some x)).set j (some y)) h) : parK i j D σ [x, y] h := k
def par3K (i j l : Nat) (D : DEnds) (σ : DSt) : List SV → MH → Prop := fun xs h1 => match xs with
  | [x, y, z] => D.nx (((σ.set i (some x)).set j (some y)).set l (some z)) h1
  | _ => False
theorem e_par3 {i j l : Nat} (k : tA σ h (par3K i j l D σ)) : dPar3 i j l tA D σ h := k
theorem k_par3 {i j l : Nat} (k : D.nx (((σ.set i (some x)).set j (some y)).set l (some z)) h) : par3K i j l D σ [x, y, z] h := k
def setK (D : DEnds) (σ : DSt) (y x i : SV) (h3 : MH) : Prop := match ownO h3 x with
  | some p => match setO p.2 i y with
    | some o => D.nx σ (mput h3 p.1 o)
    | none => False
  | none => match fz1 y h3 with
    | some (d, h4) => match ownL h4 x, asInt i with
      | some (a, ds), some k => match ixN ds.length k with
        | some j => D.nx σ (mput h4 a (.lst (ds.set j d)))
        | none => False
      | _, _ => False
    | none => False
theorem e_setIx (k : ta σ h fun y h1 => tb σ h1 fun x h2 => tc σ h2 fun i h3 => setK D σ y x i h3) : dSetIx ta tb tc D σ h := k
theorem k_set {j : Nat} (e : h a = some (.lst ds)) (e2 : ixN ds.length n = some j) (k : D.nx σ (mput h a (.lst (ds.set j d)))) : setK D σ (.d d) (.own a) (.d (.int n)) h := by
  have q0 : ownO h (.own a) = none := by simp only [ownO, e]
  unfold setK
  rw [q0]
  show (match ownL h (.own a), some n with
    | some (a, ds), some k => (match ixN ds.length k with
      | some j => D.nx σ (mput h a (.lst (ds.set j d)))
      | none => False)
    | _, _ => False)
  have q : ownL h (.own a) = some (a, ds) := by simp only [ownL, e]
  rw [q]
  show (match ixN ds.length n with
      | some j => D.nx σ (mput h a (.lst (ds.set j d)))
      | none => False)
  rw [e2]
  exact k
/-- a dict of one's own is written -/
theorem k_setD {ps : List (Key × SV)} {kk : Key} (e : h a = some (.dct ps)) (e2 : asKey y = some kk) (hl : ps.length < 16777216) (k : D.nx σ (mput h a (.dct (putS ps kk x)))) : setK D σ x (.own a) y h := by
  have q0 : ownO h (.own a) = some (a, .dct ps) := by simp only [ownO, e]
  have q1 : setO (.dct ps) y x = some (.dct (putS ps kk x)) := by
    unfold setO
    simp only [e2]
    rw [if_pos (by simpa using hl)]
  unfold setK
  rw [q0]
  simp only [q1]
  exact k
theorem r_ixD {ps : List (Key × SV)} {kk : Key} {z : SV} (e : h a = some (.dct ps)) (e2 : asKey y = some kk) (e3 : valS ps kk = some z) (k : Q z h) : rdIx (.own a) y h Q := by
  have q0 : ownO h (.own a) = some (a, .dct ps) := by simp only [ownO, e]
  unfold rdIx
  rw [q0]
  simp only [ixO, e2, e3]
  exact k
theorem e_for {w : DTI} {g : Tg} (k : w σ h fun ds h1 => forL g ts D ds σ h1) : dFor w g ts D σ h := k
theorem e_rt {h0 : MH} (k : Q x (restr h0 h x)) : (dEnd h0 Q).rt x h := ⟨_, restr_sub, k⟩
theorem e_rtA {h0 : MH} (k : Q x h) : (dEnd h0 Q).rt x h := ⟨h, fun _ _ q => q, k⟩
theorem e_nx {h0 : MH} (k : Q (.d .none) (restr h0 h (.d .none))) : (dEnd h0 Q).nx σ h := ⟨_, restr_sub, k⟩
theorem r_add (k : Q (.d (.int (i + j))) h) : rdAdd (.d (.int i)) (.d (.int j)) h Q := k
theorem r_addL (c : xs.length + ys.length ≤ 16777216) (k : Q (.d (.list (xs ++ ys))) h) : rdAdd (.d (.list xs)) (.d (.list ys)) h Q := ⟨by rw [sizeLine_eq]; exact c, k⟩
theorem r_sub (k : Q (.d (.int (i - j))) h) : rdSub (.d (.int i)) (.d (.int j)) h Q := k
theorem r_mul (c : CMul i j) (k : Q (.d (.int (i * j))) h) : rdMul (.d (.int i)) (.d (.int j)) h Q := ⟨c, k⟩
theorem r_div (c : CDivN i j) (k : Q (.d (.int (i.fdiv j))) h) : rdDiv (.d (.int i)) (.d (.int j)) h Q := ⟨c, k⟩
theorem r_mod (c : j ≠ 0) (k : Q (.d (.int (i.fmod j))) h) : rdMod (.d (.int i)) (.d (.int j)) h Q := ⟨c, k⟩
theorem r_pow (c : CPow i j) (k : Q (.d (.int (i ^ j.toNat))) h) : rdPow (.d (.int i)) (.d (.int j)) h Q := ⟨c, k⟩
theorem r_lt (k : Q (.d (.bool (decide (i < j)))) h) : rdLt (.d (.int i)) (.d (.int j)) h Q := k
theorem r_le (k : Q (.d (.bool (decide (i ≤ j)))) h) : rdLe (.d (.int i)) (.d (.int j)) h Q := k
theorem r_gt (k : Q (.d (.bool (decide (j < i)))) h) : rdGt (.d (.int i)) (.d (.int j)) h Q := k
theorem r_cmpT {g : Int → Int → Bool} {z : Nat → Nat → Bool} {ns ms : List Int} (e1 : intsD xs = some ns) (e2 : intsD ys = some ms) (k : Q (.d (.bool (cmpT g (z ns.length ms.length) ns ms))) h) : rdCmp g z (.d (.tuple xs)) (.d (.tuple ys)) h Q := by
  unfold rdCmp
  simp only [asInt, tupI, e1, e2]
  exact k
theorem r_ge (k : Q (.d (.bool (decide (j ≤ i)))) h) : rdGe (.d (.int i)) (.d (.int j)) h Q := k
theorem r_eq (e1 : asD h x = some d) (e2 : asD h y = some e) (s1 : SeqAt.shaped d = true) (s2 : SeqAt.shaped e = true) (k : Q (.d (.bool (PyData.eqv d e))) h) : rdEq x y h Q := by unfold rdEq; rw [e1, e2]; exact ⟨.inl ⟨s1, s2⟩, k⟩
theorem r_ne (e1 : asD h x = some d) (e2 : asD h y = some e) (s1 : SeqAt.shaped d = true) (s2 : SeqAt.shaped e = true) (k : Q (.d (.bool (!PyData.eqv d e))) h) : rdNe x y h Q := by unfold rdNe; rw [e1, e2]; exact ⟨.inl ⟨s1, s2⟩, k⟩
theorem r_eqI (k : Q (.d (.bool (decide (i = j)))) h) : rdEq (.d (.int i)) (.d (.int j)) h Q := ⟨.inl ⟨rfl, rfl⟩, by
  have z : PyData.eqv (.int i) (.int j) = decide (i = j) := by simp only [PyData.eqv]; by_cases q : i = j <;> simp [q]
  rw [z]; exact k⟩
theorem r_neI (k : Q (.d (.bool (!decide (i = j)))) h) : rdNe (.d (.int i)) (.d (.int j)) h Q := ⟨.inl ⟨rfl, rfl⟩, by
  have z : PyData.eqv (.int i) (.int j) = decide (i = j) := by simp only [PyData.eqv]; by_cases q : i = j <;> simp [q]
  rw [z]; exact k⟩
theorem r_eqS {s1 s2 : Str} (k : Q (.d (.bool (s1 == s2))) h) : rdEq (.d (.str s1)) (.d (.str s2)) h Q := ⟨.inr rfl, by
  have z : PyData.eqv (.str s1) (.str s2) = (s1 == s2) := by simp only [PyData.eqv]
  rw [z]; exact k⟩
theorem r_neS {s1 s2 : Str} (k : Q (.d (.bool (!(s1 == s2)))) h) : rdNe (.d (.str s1)) (.d (.str s2)) h Q := ⟨.inr rfl, by
  have z : PyData.eqv (.str s1) (.str s2) = (s1 == s2) := by simp only [PyData.eqv]
  rw [z]; exact k⟩
theorem r_isN (k : Q (.d (.bool (isNone x))) h) : rdIsN x (.d .none) h Q := ⟨rfl, k⟩
theorem r_notN (k : Q (.d (.bool (!isNone x))) h) : rdNotN x (.d .none) h Q := ⟨rfl, k⟩
theorem r_ix (e0 : asStr x = none) (e1 : asQ h x = some xs) (e2 : atI xs n = some d) (k : Q (.d d) h) : rdIx x (.d (.int n)) h Q := by
  unfold rdIx
  rw [ownO_asQ e1]
  show (match asStr x with
    | some z => (match atI z.cps.toList n with
      | some c => z.length ≤ sizeLine ∧ Q (.d (.str ⟨#[c]⟩)) h
      | none => False)
    | none => (match asQ h x with
      | some xs => (match atI xs n with
        | some d => Q (.d d) h
        | none => False)
      | none => False))
  rw [e0]
  show (match asQ h x with
      | some xs => (match atI xs n with
        | some d => Q (.d d) h
        | none => False)
      | none => False)
  rw [e1]
  show (match atI xs n with
        | some d => Q (.d d) h
        | none => False)
  rw [e2]
  exact k
theorem r_ixT (e2 : atI xs n = some d) (k : Q (.d d) h) : rdIx (.d (.tuple xs)) (.d (.int n)) h Q := r_ix rfl rfl e2 k
theorem r_ixL (e2 : atI xs n = some d) (k : Q (.d d) h) : rdIx (.d (.list xs)) (.d (.int n)) h Q := r_ix rfl rfl e2 k
theorem asQ_own (e : h a = some (.lst xs)) : asQ h (.own a) = some xs := by unfold asQ asL; simp only [e]
theorem asL_own (e : h a = some (.lst xs)) : asL h (.own a) = some xs := by unfold asL; simp only [e]
theorem ownL_own (e : h a = some (.lst xs)) : ownL h (.own a) = some (a, xs) := by unfold ownL; simp only [e]
theorem r_ixO (e1 : h a = some (.lst xs)) (e2 : atI xs n = some d) (k : Q (.d d) h) : rdIx (.own a) (.d (.int n)) h Q := r_ix rfl (asQ_own e1) e2 k
theorem e_negC (k : Q (.d (.int (-i))) h) : dNeg (dC (.int i)) σ h Q := k
theorem b_len (e1 : asStr x = none) (e2 : asQ h x = some xs) (k : Q (.d (.int (xs.length : Nat))) h) : rdLen [x] h Q := by
  have q := ownO_asQ e2
  unfold rdLen
  simp only [q, e1, e2]
  exact k
theorem b_lenT (k : Q (.d (.int (xs.length : Nat))) h) : rdLen [.d (.tuple xs)] h Q := b_len rfl rfl k
theorem b_lenL (k : Q (.d (.int (xs.length : Nat))) h) : rdLen [.d (.list xs)] h Q := b_len rfl rfl k
theorem b_lenO (e : h a = some (.lst xs)) (k : Q (.d (.int (xs.length : Nat))) h) : rdLen [.own a] h Q := b_len rfl (asQ_own e) k
theorem b_tuple (e2 : asQ h x = some xs) (k : Q (.d (.tuple xs)) h) : rdTuple [x] h Q := by unfold rdTuple; simp only [e2]; exact k
theorem b_tupleL (k : Q (.d (.tuple xs)) h) : rdTuple [.d (.list xs)] h Q := k
theorem b_listL (k : QL xs h) : rfList [.d (.list xs)] h QL := k
theorem b_listT (k : QL xs h) : rfList [.d (.tuple xs)] h QL := k
theorem b_intI (k : Q (.d (.int i)) h) : rdInt [.d (.int i)] h Q := k
theorem b_intB (k : Q (.d (.int (if b then 1 else 0))) h) : rdInt [.d (.bool b)] h Q := k
def byK (QL : List PyData → MH → Prop) : List SV → MH → Prop := fun xs h1 => match xs with
  | [x] => match asQ h1 x with
    | some ds => byOk ds ∧ QL (ds.mergeSort leBy) h1
    | none => False
  | _ => False
theorem e_by (k : tA σ h (byK QL)) : fBy tA σ h QL := k
def faddK (QL : List PyData → MH → Prop) (x y : SV) (h2 : MH) : Prop := match asL h2 x, asL h2 y with
  | some a, some b => a.length + b.length ≤ sizeLine ∧ QL (a ++ b) h2
  | _, _ => False
theorem e_fAdd (k : ta σ h fun x h1 => tb σ h1 fun y h2 => faddK QL x y h2) : fAdd ta tb σ h QL := k
def rg1K (QL : List PyData → MH → Prop) : DK := fun x h1 => match asInt x with
  | some n => n ≤ 16777216 ∧ -16777216 ≤ n ∧ QL (rgD 0 n) h1
  | none => False
theorem e_lrg1 (k : ta σ h (rg1K QL)) : fLstRg1 ta σ h QL := k
def rg2K (QL : List PyData → MH → Prop) (x y : SV) (h2 : MH) : Prop := match asInt x, asInt y with
  | some n, some m => (0 ≤ n ∧ n ≤ 16777216 ∧ -16777216 ≤ m ∧ m ≤ 16777216) ∧ QL (rgD n m) h2
  | _, _ => False
theorem e_lrg2 (k : ta σ h fun x h1 => tb σ h1 fun y h2 => rg2K QL x y h2) : fLstRg2 ta tb σ h QL := k
theorem e_sl {tl th : DTO} (k : ta σ h fun x h1 => tl σ h1 fun lo h2 => th σ h2 fun hi h3 => rdSl x lo hi h3 Q) : dSl ta tl th σ h Q := k
theorem e_no {QO : Option Int → MH → Prop} (k : QO none h) : dNoPart σ h QO := k
def partK (QO : Option Int → MH → Prop) : DK := fun x h1 => match asInt x with
  | some i => QO (some i) h1
  | none => False
theorem e_part {QO : Option Int → MH → Prop} (k : ta σ h (partK QO)) : dPart ta σ h QO := k
theorem k_part {QO : Option Int → MH → Prop} (k : QO (some i) h) : partK QO (.d (.int i)) h := k
theorem r_slL {lo hi : Option Int} (k : Q (.d (.list (cutD xs lo hi))) h) : rdSl (.d (.list xs)) lo hi h Q := k
theorem r_slT {lo hi : Option Int} (k : Q (.d (.tuple (cutD xs lo hi))) h) : rdSl (.d (.tuple xs)) lo hi h Q := k
theorem m_append (e : h a = some (.lst ds)) (c : ds.length < 16777216) (k : Q (.d .none) (mput h a (.lst (ds ++ [d])))) : rdAppend (.own a) [.d d] h Q := by
  unfold rdAppend fz1
  simp only [ownL_own e]
  exact ⟨by rw [sizeLine_eq]; exact c, k⟩
def seqK (QL : List PyData → MH → Prop) : DK := fun x h1 => match fz1 x h1 with
  | some (.list ds, h2) => QL ds h2
  | some (.tuple ds, h2) => QL ds h2
  | _ => False
theorem e_wSeq (k : ta σ h (seqK QL)) : wSeq ta σ h QL := k
theorem k_seqL (k : QL ds h) : seqK QL (.d (.list ds)) h := k
theorem k_seqT (k : QL ds h) : seqK QL (.d (.tuple ds)) h := k
theorem k_seqO (e : h a = some (.lst ds)) (k : QL ds (mdrop h a)) : seqK QL (.own a) h := by unfold seqK fz1; simp only [e]; exact k
def wr1K (QL : List PyData → MH → Prop) : DK := fun x h1 => match asInt x with
  | some n => (-(2 ^ 62) ≤ n ∧ n < 2 ^ 62) ∧ QL (rgD 0 n) h1
  | none => False
theorem e_wRg1 (k : ta σ h (wr1K QL)) : wRg1 ta σ h QL := k
theorem k_wRg1 (c : -(2 ^ 62) ≤ n ∧ n < 2 ^ 62) (k : QL (rgD 0 n) h) : wr1K QL (.d (.int n)) h := ⟨c, k⟩
theorem e_fLc {w : DTI} {g : Tg} {vs : List Nat} (k : w σ h fun ds h1 => ds.length ≤ sizeLine ∧ lcL g t ta (wipeD σ vs) ds [] h1 QL) : fLc w g t ta vs σ h QL := k
end

/-- a loop by what holds ahead of each turn; K: what comes behind the turn -/
theorem for_inv {g : Tg} {tb : DTS} {D : DEnds} (I : List PyData → DSt → MH → Prop) (step : ∀ d r σ h (K : DSt → MH → Prop), I (d :: r) σ h → (∀ σ' h', I r σ' h' → K σ' h') → ∃ σ1, bindT g (.d d) σ = some σ1 ∧ tb { nx := K, ct := K, bk := D.nx, rt := D.rt } σ1 h)
    (fin : ∀ σ h, I [] σ h → D.nx σ h) : ∀ ds σ h, I ds σ h → forL g tb D ds σ h
  | [], σ, h, i => fin σ h i
  | d :: r, σ, h, i => by
    obtain ⟨σ1, e, w⟩ := step d r σ h (fun σ' h' => forL g tb D r σ' h') i fun σ' h' i' => for_inv I step fin r σ' h' i'
    unfold forL
    rw [e]
    exact w
def lcK (te : DTE) (σ1 : DSt) (acc : List PyData) (K : List PyData → MH → Prop) : Bool → MH → Prop := fun b h1 => if b = true then te σ1 h1 fun y h2 => match fz1 y h2 with
        | some (z, h3) => K (acc ++ [z]) h3
        | none => False
      else K acc h1
def lcE (acc : List PyData) (K : List PyData → MH → Prop) : DK := fun y h2 => match fz1 y h2 with
        | some (z, h3) => K (acc ++ [z]) h3
        | none => False
theorem k_lc {te : DTE} {σ1 : DSt} {acc : List PyData} {K : List PyData → MH → Prop} {b : Bool} {h : MH} (k1 : b = true → te σ1 h (lcE acc K)) (k2 : b = false → K acc h) : lcK te σ1 acc K b h := by
  cases b with
  | true => exact k1 rfl
  | false => exact k2 rfl
theorem k_lcE {acc : List PyData} {K : List PyData → MH → Prop} {d : PyData} {h : MH} (k : K (acc ++ [d]) h) : lcE acc K (.d d) h := k
theorem lc_inv {g : Tg} {tt : DTT} {te : DTE} {σ : DSt} {Q : List PyData → MH → Prop} (I : List PyData → List PyData → MH → Prop) (step : ∀ d r acc h (K : List PyData → MH → Prop), I (d :: r) acc h → (∀ acc' h', I r acc' h' → K acc' h') → ∃ σ1, bindT g (.d d) σ = some σ1 ∧ tt σ1 h (lcK te σ1 acc K))
    (fin : ∀ acc h, I [] acc h → Q acc h) : ∀ ds acc h, I ds acc h → lcL g tt te σ ds acc h Q
  | [], acc, h, i => fin acc h i
  | d :: r, acc, h, i => by
    obtain ⟨σ1, e, w⟩ := step d r acc h (fun acc' h' => lcL g tt te σ r acc' h' Q) i fun acc' h' i' => lc_inv I step fin r acc' h' i'
    unfold lcL
    rw [e]
    exact w
end DL

namespace DL
open PySem PySem.Spec PyProof.Rows L2
set_option autoImplicit true

section
open PySem.W PySem.Calls PySem.HandSPX Builtin Builtin.ObjectAttr
variable {prog : Program} {w : World} {A : Around} {E : Value → Shared → Prop} {R : Result → Shared → Prop} {hp : Heap} {g : Array GenState} {d : Drawn} {t : Nat} {os : OsState} {B newId initId : String} {bmB : List Value}
/-- the first field of a fresh error -/
theorem put_first {K : Frag} {f : Str} {tk : Tok} {u : Value} {e C : Addr} {fv : Array Value} {cd : ClassData} (SF : StoreFacts B bmB "object.__setattr__" "object") (X : K.In hp) (he : hp.get? e = some { cls := .ref C, data := .fields fv }) (hc : clsIn K C = some cd) (ho : excOver K C bmB = true) (hd : cd.hasDict = true) (ht : takerIn K C f = some none)
    (k : ∀ h' tk' dx, (∀ b o, b ≠ e → hp.get? b = some o → h'.get? b = some o) → hp.objs.size ≤ dx → dx ≠ e → h'.get? e = some { cls := .ref C, dict := some dx, data := .fields fv } → h'.Ns1 dx (fun y => if y = f then some u else none) → R (.ok (.ret .none)) ⟨h', g, d, tk', os⟩) :
    codeAny (model prog w) A (.call (.builtin "object.__setattr__") ⟨[.ref e, .str f tk, u], []⟩) R ⟨hp, g, d, t, os⟩ := by
  have hes : e ≠ hp.objs.size := Nat.ne_of_lt (Heap.lt_size he)
  refine osa_openX (od := none) SF X ⟨he, rfl, rfl, trivial⟩ ho ht fun b => ?_
  have hl : Looks (model prog w) hp (classData C) cd := looks_clsIn X hc
  show wpAny _ _ (storeInOwnDict (.ref e) (.ref C) (.str f tk) f u b) _ _ _
  obtain ⟨nm, bs, mro, ns, qn, hd', sn, sb, ab, col, del⟩ := cd
  dsimp only at hd
  subst hd
  unfold storeInOwnDict ownDictForStores
  repeat (first | with_reducible refine store_in_new ?_ ?_ | with_reducible refine wpAny_loadPart_at he ?_ | with_reducible refine hl.at ?_ | wp_step)
  · exact ⟨_, #[], _, (Heap.get?_update_ne _ _ _ _ hes.symm).trans (Heap.get?_push_at rfl rfl), rfl, fun e he => absurd he (by simp), fun _ => rfl⟩
  · intro h' tk' n1 s1
    have he1 : (hp.push { cls := .type "dict", data := .dict #[] }).get? e = some { cls := .ref C, data := .fields fv } := Heap.get?_push_of_some _ he
    refine k h' tk' hp.objs.size (fun b o hb hbo => ?_) (Nat.le_refl _) hes.symm ?_ n1
    · exact (s1.2 b (Nat.ne_of_lt (Heap.lt_size hbo))).trans ((Heap.get?_update_ne _ _ _ _ hb).trans (Heap.get?_push_of_some _ hbo))
    · exact (s1.2 e hes).trans (Heap.get?_update_self _ he1 rfl)
/-- a further field -/
theorem put_more {K : Frag} {f : Str} {tk : Tok} {u : Value} {e C dx : Addr} {fv : Array Value} {cd : ClassData} {m0 : Str → Option Value} {nl : List Str} (SF : StoreFacts B bmB "object.__setattr__" "object") (X : K.In hp) (he : hp.get? e = some { cls := .ref C, dict := some dx, data := .fields fv })
    (hn : hp.Ns1 dx m0) (hw : Within m0 nl) (hz : nl.length ≤ 1000) (hc : clsIn K C = some cd) (ho : excOver K C bmB = true) (hd : cd.hasDict = true) (ht : takerIn K C f = some none)
    (k : ∀ h' tk', (∀ b o, b ≠ dx → hp.get? b = some o → h'.get? b = some o) → h'.Ns1 dx (fun y => if y = f then some u else m0 y) → R (.ok (.ret .none)) ⟨h', g, d, tk', os⟩) :
    codeAny (model prog w) A (.call (.builtin "object.__setattr__") ⟨[.ref e, .str f tk, u], []⟩) R ⟨hp, g, d, t, os⟩ := by
  obtain ⟨oD, esD, epD, hoD, hdD, _⟩ := hn.count hw
  refine osa_openX (od := some oD) SF X ⟨he, rfl, rfl, hoD⟩ ho ht fun b => ?_
  have hl : Looks (model prog w) hp (classData C) cd := looks_clsIn X hc
  show wpAny _ _ (storeInOwnDict (.ref e) (.ref C) (.str f tk) f u b) _ _ _
  obtain ⟨nm, bs, mro, ns, qn, hd', sn, sb, ab, col, del⟩ := cd
  dsimp only at hd
  subst hd
  unfold storeInOwnDict ownDictForStores
  repeat (first | with_reducible refine PySem.OEX.store_in_old hn hw hz ?_ | with_reducible refine wpAny_loadPart_at he ?_ | with_reducible refine hl.at ?_ | wp_step)
  intro h' tk' n1 s1
  exact k h' tk' (fun b o hb hbo => (s1.2 b hb).trans hbo) n1
end
/-- what the written part says of the error class x at C, its base's name and place, its __init__ at fI, its fields -/
structure ErrC (K : PySem.W.Frag) (mg : Str → Option Value) (x base : Str) (C Cb fI : Addr) (fs : List Str) (B newId initId : String) (bmB : List Value) : Prop where
  gC : mg x = some (.ref C)
  gB : mg base = some (.ref Cb)
  cls : ∃ nm q N bs bm sn sub ab col dd k0 k1 k2 k3 k5, K.lookup C = some (PySem.excClassObj nm q C N bs bm true sn sub ab col dd k0 k1 k2 k3 k5 newId) ∧ PySem.W.excTail bmB bm = true
  FB : PySem.ExcBaseFacts B newId initId bmB
  SF : PySem.StoreFacts B bmB "object.__setattr__" "object"
  ov : PySem.W.excOver K C bmB = true
  sa : PySem.W.findIn K (.ref C) "__setattr__" = some (some (.builtin "object.__setattr__"))
  ga : PySem.W.findIn K (.ref C) "__getattribute__" = some (some (.builtin "BaseException.__getattribute__"))
  gg : PySem.W.findIn K (.ref C) "__getattr__" = some none
  tk : ∀ f ∈ fs, PySem.W.takerIn K C f = some none
  no : ∀ f ∈ fs, PySem.W.findIn K (.ref C) f = some none
  iC : PySem.W.findIn K (.ref C) "__init__" = some (some (.ref fI))
  tC : PySem.W.typeIn K (.ref fI) = some (.type "function")
  kC : PySem.W.keepIn K (.ref C) = true
  exC : PySem.W.subIn K (.ref C) (.type "BaseException") = some true
  tyC : PySem.W.typeIn K (.ref C) = some (.type "type")
  hdC : PySem.W.hasDictIn K C = true
  rdB : PySem.W.readsIn K Cb (.type "type") = true
  gaB : PySem.W.specialIn K (.ref Cb) "__getattribute__" = some (some (.builtin "type.__getattribute__"))
  hI : PySem.W.handedIn (.builtin initId) = true
  biB : PySem.W.findCls K (.ref Cb) (.type "type") "__init__" = some (.val (.builtin initId))

abbrev eCall (base : Str) (q1 q2 q3 q4 q5 : Pos) : Stmt := .Expr (.Call (.Attribute (.Name base q1) "__init__" q2) [.Name "self" q3] [] q4) q5
abbrev ePut (f : Str) (q1 q2 q3 q4 : Pos) : Stmt := .Assign [.Attribute (.Name "self" q1) f q2] (.Name f q3) q4
/-- the scope of such an __init__ -/
structure EScope (scope : Scope) (base : Str) (fs : List Str) : Prop where
  kind : scope.kind = .function
  co : scope.isCoroutine = false
  gen : scope.isGenerator = false
  me : scope.names.lookup ("self" : Str) = some .local
  base : scope.names.lookup base = some .globalImplicit
  fs : ∀ f ∈ fs, scope.names.lookup f = some .local ∧ f ≠ ("self" : Str) ∧ (f == ("__debug__" : Str)) = false
/-- what __init__ leaves of a fresh error at e -/
structure EInit (h h' : Heap) (e C dx t1 : Addr) (m : Str → Option Value) : Prop where
  keep : ∀ b o, b ≠ e → h.get? b = some o → h'.get? b = some o
  obj : h'.get? e = some { cls := .ref C, dict := some dx, data := .fields #[.ref t1, .none, .none, .none, .bool false, .none] }
  big : h.objs.size ≤ dx
  ne : dx ≠ e
  ns : h'.Ns1 dx m
section
open PySem.W PySem.Calls PySem.HandSPX
variable {prog : Program} {w : World} {A : Around} {R : Result → Shared → Prop} {s : Shared} {K : Frag} {mg : Str → Option Value} {x base qual : Str} {C Cb fI : Addr} {B newId initId : String} {bmB : List Value} {params : Arguments} {scope : Scope} {fd : FuncData}
theorem e_load {M : Model} {A : Around} {E : Value → Shared → Prop} {s : Shared} {env : Env} {m : Str → Option Value} {y : Str} {pos : Pos} {v : Value} {Q : Value → Shared → Prop} (hk : env.scope.kind = .function) (hl : env.kindOf y = some .local) (hn : s.heap.Ns env.locals m) (hv : m y = some v) (k : Q v s)
    (hd : (y == ("__debug__" : Str)) = false) : wpAny M A (eval (.Name y pos) env) Q E s := wpAny_Name (wpAny_loadName_local hk hl hn hv k) hd
/-- a made error -/
structure EMade (h h' : Heap) (e C dx : Addr) (m : Str → Option Value) : Prop where
  keep : ∀ b o, h.get? b = some o → h'.get? b = some o
  new : h.objs.size ≤ e
  obj : ∃ oe vs, h'.get? e = some oe ∧ oe.cls = .ref C ∧ oe.dict = some dx ∧ oe.data = .fields vs ∧ vs[1]? = some .none
  big : h.objs.size ≤ dx
  ne : dx ≠ e
  ns : h'.Ns1 dx m
theorem err_made {fs : List Str} {vs : List Value} {m : Str → Option Value} (T : ErrC K mg x base C Cb fI fs B newId initId bmB) (X : K.In s.heap) (hlim : s.heap.NoLimit) (hglo : s.heap.Ns mainGlobals mg) (hroom : A.depth + 1 < recursionLimit) (hz : vs.length ≤ sizeLine)
    (init : ∀ {A : Around} {R : Result → Shared → Prop} {s : Shared} {e t0 : Addr}, K.In s.heap → s.heap.NoLimit → s.heap.Ns mainGlobals mg → s.heap.get? e = some (excO C t0) → K.lookup e = none → A.depth < recursionLimit →
      (∀ h' tk dx t1, EInit s.heap h' e C dx t1 m → R (.ok (.ret .none)) { s with heap := h', toks := tk }) → codeAny (model prog w) A (.call (.ref fI) ⟨.ref e :: vs, []⟩) R s)
    (k : ∀ h' tk e dx, EMade s.heap h' e C dx m → R (.ok (.ret (.ref e))) { s with heap := h', toks := tk }) : codeAny (model prog w) A (.call (.ref C) ⟨vs, []⟩) R s := by
  obtain ⟨nm, q, N, bs, bm, sn, sub, ab, col, dd, k0, k1, k2, k3, k5, hC, hbm⟩ := T.cls
  obtain ⟨hp, g, dr, tk, os⟩ := s
  have up : ∀ b o, hp.get? b = some o → ((hp.push (kdv_tup vs)).push (excO C hp.objs.size)).get? b = some o := fun b o z => Heap.get?_push_of_some _ (Heap.get?_push_of_some _ z)
  have at_ : ((hp.push (kdv_tup vs)).push (excO C hp.objs.size)).get? (hp.objs.size + 1) = some (excO C hp.objs.size) := by
    have z := Heap.get?_push_size (hp.push (kdv_tup vs)) (o := excO C hp.objs.size) rfl
    rw [Heap.size_push] at z
    exact z
  have fresh : K.lookup (hp.objs.size + 1) = none := by
    cases z : K.lookup (hp.objs.size + 1) with
    | none => rfl
    | some o => exact absurd (Heap.lt_size (X _ _ z)) (Nat.not_lt.mpr (Nat.le_succ hp.objs.size))
  refine call_own T.FB (fun Y => excTail_contains Y bm hbm) (X _ _ hC) (looks_findIn X T.iC) (fun self => bind_fn X self T.tC) hz ?_
  refine init (s := ⟨(hp.push (kdv_tup vs)).push (excO C hp.objs.size), g, dr, tk, os⟩) (X.keeps up) (hlim.keeps up) (hglo.keeps up) at_ fresh (show A.depth + 1 < recursionLimit from hroom) fun h' tk' dx t1 M => ?_
  have old : ∀ b o, hp.get? b = some o → h'.get? b = some o := fun b o z => M.keep b o (Nat.ne_of_lt (Nat.lt_succ_of_lt (Heap.lt_size z))) (up b o z)
  have big : hp.objs.size + 1 + 1 ≤ dx := by
    have z := M.big
    rw [Heap.size_push, Heap.size_push] at z
    exact z
  exact ⟨rfl, k h' tk' (hp.objs.size + 1) dx ⟨old, Nat.le_succ _, ⟨_, _, M.obj, rfl, rfl, rfl, rfl⟩, Nat.le_trans (Nat.le_trans (Nat.le_succ _) (Nat.le_succ _)) big, M.ne, M.ns⟩⟩
end

section
variable {X : Cx} {x base f : Str} {C Cb fI : Addr} {B newId initId : String} {bmB : List Value}
/-- raise C(e) -/
def dRaise1 (E : DXS) (n f : Str) (t : DTA) : DTS := fun _ σ h => t σ h fun xs h1 => match fzs xs h1 with
  | some ([d], h2) => E ⟨n, [(f, d)]⟩ σ h2
  | _ => False
end
end DL

namespace DL
open PySem PySem.Spec PyProof.Rows L2
set_option autoImplicit true

theorem RM.un {K : PySem.W.Frag} {H H0 : Hp} {h h0 : MH} (r : RM K (Γ.at H0 h0) H h) : RM K Γ H h := ⟨r.ob, r.g.1, r.nx, r.tb⟩
/-- where an exception is held -/
def GI.exc (Γ : GI) (K : PySem.W.Frag) (y : DExc) (cls : Value) (d : Option Addr) : GI where
  x := Γ.x
  T := Γ.T
  G := fun H h => Γ.G H h ∧ RX K (G0 Γ.x Γ.T) H h y cls d
  st := fun p q => ⟨Γ.st p q.1, rx_up (Γ := G0 Γ.x Γ.T) p q.2⟩
theorem RM.unE {K K' : PySem.W.Frag} {H : Hp} {h : MH} {y : DExc} {cls : Value} {d : Option Addr} (r : RM K (Γ.exc K' y cls d) H h) : RM K Γ H h := ⟨r.ob, r.g.1, r.nx, r.tb⟩
def dWas (kt : Str → Str → Option Bool) (n : Str) (i : Nat) (ts : Addr → DExc → DTS) (Eo : DXS) (D : DEnds) : DXS := fun y σ h => ∃ b, kt y.cls n = some b ∧
  (b = true → ∀ a, h a = none → ts a y (clrN i D) (σ.set i (some (.own a))) h) ∧ (b = false → Eo y σ h)
def dTryAs (kt : Str → Str → Option Bool) (n : Str) (i : Nat) (tb : DXS → DTS) (ts : Addr → DExc → DTS) (Eo : DXS) : DTS := fun D σ h =>
  ∃ (E0 : DXS) (D0 : DEnds), (∀ y σ' h', E0 y σ' h' → dWas kt n i ts Eo D y σ' h') ∧ DEnds.Le D0 D ∧ tb E0 D0 σ h
theorem tryAs_mk {kt : Str → Str → Option Bool} {n : Str} {i : Nat} {tb : DXS → DTS} {ts : Addr → DExc → DTS} {Eo : DXS} {D : DEnds} {σ : DSt} {h : MH} (w : tb (dWas kt n i ts Eo D) D σ h) : dTryAs kt n i tb ts Eo D σ h := ⟨_, _, fun _ _ _ z => z, le_refl, w⟩
theorem le_trans {A B C : DEnds} (p : DEnds.Le A B) (q : DEnds.Le B C) : DEnds.Le A C := ⟨fun _ _ z => q.nx _ _ (p.nx _ _ z), fun _ _ z => q.rt _ _ (p.rt _ _ z), fun _ _ z => q.bk _ _ (p.bk _ _ z), fun _ _ z => q.ct _ _ (p.ct _ _ z)⟩
section
variable {X : Cx} {x n : Str} {cv : Value} {i : Nat} {body suite : List Stmt} {b₀ : Stmt} {np pos pos' : Pos} {kt : Str → Str → Option Bool} {tb : DXS → DTS} {ts : Addr → DExc → DTS} {Eo : DXS}
end

/-- a class by its name -/
def btV (n : Str) : Option Value := if n = "LookupError" then some (.type "LookupError") else if n = "ValueError" then some (.type "ValueError") else if n = "Exception" then some (.type "Exception") else none
def cvK (K : PySem.W.Frag) (n : Str) : Value := match btV n with
  | some v => v
  | none => .ref (He.ga K n)
def anyK (kt : Str → Str → Option Bool) (c : Str) : List Str → Option Bool
  | [] => some false
  | n :: r => match kt c n with
    | some true => some true
    | some false => anyK kt c r
    | none => none
/-- what the written part says of the law's own error classes -/
structure KitE (K : PySem.W.Frag) (kt : Str → Str → Option Bool) (xt : Str → Str → Bool) : Prop where
  exc : ∀ c n b, kt c n = some b → ExcC K (He.ga K c)
  exm : ∀ c n b, kt c n = some b → PySem.W.exmOne K (.ref (He.ga K c)) (cvK K n) = some b
  kit : ∀ c n b, kt c n = some b → PySem.W.kitOne K (.ref (He.ga K c)) (cvK K n) = some b
  xf : ∀ c f, xt c f = true → XfC K (He.ga K c) ∧ PySem.W.findIn K (.ref (He.ga K c)) f = some none
theorem KitE.any {K : PySem.W.Frag} {kt : Str → Str → Option Bool} {xt : Str → Str → Bool} (T : KitE K kt xt) {c : Str} : ∀ {ns : List Str} {b : Bool}, anyK kt c ns = some b → PySem.W.kitAny K (.ref (He.ga K c)) (ns.map (cvK K)) = some b
  | [], b, h => h
  | n :: r, b, h => by
    unfold anyK at h
    show PySem.W.kitAny K _ (cvK K n :: r.map (cvK K)) = _
    split at h
    · rename_i e
      unfold PySem.W.kitAny
      rw [T.kit _ _ _ e]
      exact h
    · rename_i e
      unfold PySem.W.kitAny
      rw [T.kit _ _ _ e]
      exact T.any h
    · cases h
section
variable {X : Cx} {n x : Str} {pos p : Pos} {e : Expr} {es : List Expr} {ns : List Str}
end
def dIsX (kt : Str → Str → Option Bool) (i : Nat) (a : Addr) (y : DExc) (n : Str) : DTE := fun σ h Q => slot σ i = some (.own a) ∧ match kt y.cls n with
  | some b => Q (.d (.bool b)) h
  | none => False
def dIsXT (kt : Str → Str → Option Bool) (i : Nat) (a : Addr) (y : DExc) (n : Str) (ns : List Str) : DTE := fun σ h Q => slot σ i = some (.own a) ∧ (kt y.cls n).isSome = true ∧ (ns.length + 1 ≤ sizeLine) ∧ match anyK kt y.cls (n :: ns) with
  | some b => Q (.d (.bool b)) h
  | none => False
def dXf (xt : Str → Str → Bool) (i : Nat) (a : Addr) (y : DExc) (f : Str) : DTE := fun σ h Q => slot σ i = some (.own a) ∧ xt y.cls f = true ∧ match y.fs.lookup f with
  | some d => Q (.d d) h
  | none => False
section
variable {X : Cx} {Γ1 : GI} {kt : Str → Str → Option Bool} {xt : Str → Str → Bool} {a : Addr} {oe : Obj} {y : DExc} {d : Option Addr} {pn : List (Addr × Obj)} {x n f : Str} {pos p p1 p2 : Pos} {c e : Expr} {es : List Expr} {ns : List Str}
end
end DL

namespace DL
open PySem PySem.Spec PyProof.Rows L2
set_option autoImplicit true

theorem clsB_ok {K : PySem.W.Frag} {C : Addr} {bmB : List Value} {newId : String} (q : clsB K C bmB newId = true) : ∃ nm q N bs bm sn sub ab col dd k0 k1 k2 k3 k5, K.lookup C = some (PySem.excClassObj nm q C N bs bm true sn sub ab col dd k0 k1 k2 k3 k5 newId) ∧ PySem.W.excTail bmB bm = true := by
  unfold clsB at q
  split at q
  · rename_i dd cd sl ho
    split at q
    · rename_i C' bm k0 k1 k2 k3 n k5 hm hs
      simp only [Bool.and_eq_true, beq_iff_eq, Bool.not_eq_true'] at q
      obtain ⟨rfl, rfl, hdel, hd0, ht⟩ := q
      obtain ⟨nm, bs, mro, ns, qn, hd, sn, sub, ab, col, del⟩ := cd
      dsimp only at hm hdel hd0
      subst hm hdel hd0
      have hsl : sl = #[k0, k1, k2, k3, some (.builtin n), k5] := by
        obtain ⟨l⟩ := sl
        simp only at hs
        rw [hs]
      subst hsl
      exact ⟨nm, qn, ns, bs, bm, sn, sub, ab, col, dd, k0, k1, k2, k3, k5, ho, ht⟩
    · cases q
  · cases q
theorem fcB_ok {K : PySem.W.Frag} {Cb : Addr} {initId : String} (q : fcB K Cb initId = true) : PySem.W.findCls K (.ref Cb) (.type "type") "__init__" = some (.val (.builtin initId)) := by
  unfold fcB at q
  split at q
  · rename_i i e
    rw [e, beq_iff_eq.mp q]
  · cases q
theorem errB_ok {K : PySem.W.Frag} {mg : Str → Option Value} {x base : Str} {fs : List Str} {B newId initId : String} {bmB : List Value} (FB : PySem.ExcBaseFacts B newId initId bmB) (SF : PySem.StoreFacts B bmB "object.__setattr__" "object") (hI : PySem.W.handedIn (.builtin initId) = true)
    (gC : mg x = some (.ref (He.ga K x))) (gB : mg base = some (.ref (He.ga K base))) (h : errB K x base fs bmB newId initId = true) : ErrC K mg x base (He.ga K x) (He.ga K base) (He.ma K (He.ga K x) "__init__") fs B newId initId bmB := by
  unfold errB at h
  simp only [Bool.and_eq_true, decide_eq_true_eq, List.all_eq_true] at h
  obtain ⟨h1, h2, h3, h4, h5, h6, h7, h8, h9, h10, h11, h12, h13, h14, h15⟩ := h
  exact ⟨gC, gB, clsB_ok h1, FB, SF, h2, h3, h4, h5, fun f hf => (h6 f hf).1, fun f hf => (h6 f hf).2, h7, h8, h9, h10, h11, h12, h13, h14, hI, fcB_ok h15⟩
/-- THE LAW'S WALK, by hookY -/
theorem walk_gY {l : PySem.W.OpenLaw} {n m k : Nat} {q : Program} {loose : List Str} {XP : (Str → Option Value) → Heap → Prop} {d : DefRec} {x : Str} {fas : List He.Fa} {fns : List He.DefD} {tf : List He.Defn} {nm : He.Defn → Str} {ex : PySem.W.Frag → Bool} {W : DSp}
    (hn : l.most = some n) (hn2 : n ≤ sizeLine) (hdf : d.params.defaults = []) (hr : Room k callerA)
    (F : ∀ (w : World) (mg : Str → Option Value) (fa : Addr) (h : Heap) (K : PySem.W.Frag), K.In h → h.Ns mainGlobals mg → mg d.name = some (.ref fa) → He.SaysX fas fns [] tf ex w h K →
      ∃ fd : FuncData, (∀ (s : Shared) (u : Value), BindsTo s fd ⟨[u], []⟩ [(x, u)]) ∧ ∀ base : Heap, K.In base → base.Ns mainGlobals mg → (∀ c ∈ tf.map (He.cT K), LamX.TabB base mg c.1 c.2) → FnG l.prog w K mg base (tabsT K tf nm) k fa fd [x] W)
    (hw : ∀ ns : List Int, ns.length ≤ n → (∀ z ∈ ns, Builtin.Int.intBits z ≤ 1048576) → W [.d (.list (ns.map PyData.int))] (fun _ => none) (fun r _ => r = .d (.bool true)) fun _ _ => False) :
    PySem.W.WalkO q loose XP (hookY m fas fns [] tf ex).says l.row.toRowW d [] (fun f vs => PySem.call f vs) := walk_g (m := m) (nm := nm) hn hn2 hdf hr F hw
end DL

namespace DL
open PySem PySem.Spec PyProof.Rows L2
set_option autoImplicit true

/-- which of the left out ones (false), of the keywords' (true) -/
def pick {α : Type} : List (Bool × Nat) → List α → List α → List α
  | [], _, _ => []
  | (b, i) :: r, ms, ws => match (if b = true then ws else ms)[i]? with
    | some x => x :: pick r ms ws
    | none => pick r ms ws
theorem paired_at {α β : Type} {R : α → β → Prop} : ∀ {xs : List α} {ys : List β} {i : Nat}, Paired R xs ys → (xs[i]? = none ∧ ys[i]? = none) ∨ ∃ x y, xs[i]? = some x ∧ ys[i]? = some y ∧ R x y
  | _, _, _, .nil => .inl ⟨rfl, rfl⟩
  | _, _, 0, .cons r _ => .inr ⟨_, _, rfl, rfl, r⟩
  | _, _, i + 1, .cons _ t => by
    rcases paired_at (i := i) t with ⟨e1, e2⟩ | ⟨x, y, e1, e2, r⟩
    · exact .inl ⟨by simpa using e1, by simpa using e2⟩
    · exact .inr ⟨x, y, by simpa using e1, by simpa using e2, r⟩
/-- a default that is no object -/
def cvV : PyData → V
  | .bool b => .bl b
  | .int i => .int i
  | _ => .non
/-- a def's calling shape: n values by their places, keywords ks, the others by their defaults dm -/
structure Shape where
  n : Nat
  ks : List Str
  dm : List PyData
  cs : List (Bool × Nat)
def FnK (P : Program) (w : World) (K : PySem.W.Frag) (mg : Str → Option Value) (base : Heap) (T : List (Addr × Str)) (k : Nat) (x : Str) (ps : List Str) (z : Shape) (W : DSp) : Prop :=
  ∃ f fd mv, FnG P w K mg base T k f fd ps W ∧ PySem.W.keepIn K (.ref f) = true ∧ KBn K fd ps z.n z.ks (fun us ws => us ++ pick z.cs mv ws) (fun vs zs => vs ++ pick z.cs (z.dm.map cvV) zs) ∧ mg x = some (.ref f)
theorem FnK.up {P : Program} {w : World} {K : PySem.W.Frag} {mg : Str → Option Value} {base : Heap} {T : List (Addr × Str)} {j k : Nat} {x : Str} {ps : List Str} {z : Shape} {W : DSp} (F : FnK P w K mg base T j x ps z W) (h : j ≤ k) : FnK P w K mg base T k x ps z W := by
  obtain ⟨f, fd, mv, a, b⟩ := F
  exact ⟨f, fd, mv, a.up h, b⟩
def dCallK (E : DXS) (W : DSp) (z : Shape) (t tk : DTA) : DTE := fun σ h Q => t σ h fun xs h1 => tk σ h1 fun zs h2 => xs.length = z.n ∧ zs.length = z.ks.length ∧ W (xs ++ pick z.cs (z.dm.map SV.d) zs) h2 Q fun x h3 => E x σ h3
section
variable {X : Cx} {k : Nat} {ps : List Str} {W : DSp} {E : DXS} {x : Str} {p pos : Pos} {e : Expr} {es : List Expr} {kws : List Keyword} {t tk : DTA} {T : List (Addr × Str)} {z : Shape}
end
end DL

namespace DL
open PySem PySem.Spec PyProof.Rows L2
open RZ (ItzT pi_zipA)
set_option autoImplicit true

def tyN : PyData → String
  | .none => "NoneType"
  | .bool _ => "bool"
  | .int _ => "int"
  | .str _ => "str"
  | .list _ => "list"
  | .tuple _ => "tuple"
  | .dict _ => "dict"
theorem tyx_of {K : PySem.W.Frag} {H : Hp} {v : V} {d : PyData} (r : Dp K H v d) : TyX K H v (.type (tyN d)) := by
  cases r with
  | non => exact .base .non
  | bl b => exact .base (.bl b)
  | int i => exact .base (.int i)
  | str x => exact .base (.str x)
  | lst h _ =>
    rcases h with (e | ⟨o, e⟩) | ⟨o, its, n, e, c, _⟩
    · exact .base (.lst e)
    · exact .base (.frz e)
    · exact .kList e c
  | tup h _ =>
    rcases h with (e | ⟨o, e⟩) | ⟨o, its, n, e, c, _⟩
    · exact .base (.tup e)
    · exact .fTuple e
    · exact .kTuple e c
def dIsT (te : DTE) (n : String) : DTE := fun σ h Q => te σ h fun x h1 => match asD h1 x with
  | some d => (match kitB (tyN d) n with
    | some b => Q (.d (.bool b)) h1
    | none => False)
  | none => False
section
variable {X : Cx} {e : Expr} {x : Str} {n : String} {p p2 pos : Pos} {te : DTE}
theorem de_isT (he : DE X Γ e te) (hg : Gl X "isinstance") (hm : X.mg "isinstance" = none) (hg2 : Gl X x) (hm2 : X.mg x = none) (hv2 : bootBuiltins x = some (.type n)) (hn : x ≠ "__name__" := by decide) (hd : (x == ("__debug__" : Str)) = false := by decide)
    (he1 : starEach [e, .Name x p2] X.env = (false, eval e X.env) :: starEach [.Name x p2] X.env := by rfl) (he2 : starEach [.Name x p2] X.env = (false, eval (.Name x p2) X.env) :: starEach [] X.env := by rfl) (hpl : (backTo pos (starEach [.Name x p2] X.env)).any (·.1) = false := by rfl) :
    DE X Γ (.Call (.Name "isinstance" p) [e, .Name x p2] [] pos) (dIsT te n) := by
  refine ⟨fun σ h Q Q' k w => he.mono _ _ _ _ (fun y h1 w1 => ?_) w, pe_imp (pe_callB call_isi hg hm rfl (pa_cons he.pe (pa_cons (pe_bltn hg2 hm2 hv2 (v := .ty n) rfl hn hd) pa_nil he2) he1) (by decide) (by decide) he1 hpl) fun σ H Q ⟨σd, h, rs, rm, w⟩ => ?_⟩
  · split at w1
    · split at w1
      · exact k _ _ w1
      · exact w1
    · exact w1
  · refine lift_mk he.mono rs rm w fun y h1 v H1 px rs1 rv rm1 w1 => ?_
    split at w1
    · rename_i d e1
      split at w1
      · rename_i b e2
        exact ⟨v, .ty n, .type (tyN d), .type n, b, rfl, .ty n, tyx_of (asD_ok rv rm1 e1), kit_ty e2, w1 (.bl b) H1 px rv_bl rm1⟩
      · exact w1.elim
    · exact w1.elim
end

def zipD (ds es : List PyData) : List PyData := (ds.zip es).map fun p => .tuple [p.1, p.2]
theorem zipD_get {ds es : List PyData} {i : Nat} {a b : PyData} (h1 : ds[i]? = some a) (h2 : es[i]? = some b) : (zipD ds es)[i]? = some (.tuple [a, b]) := by
  unfold zipD
  have e : (ds.zip es)[i]? = some (a, b) := List.getElem?_zip_eq_some.mpr ⟨h1, h2⟩
  rw [List.getElem?_map, e]
  rfl
theorem zipD_len (ds es : List PyData) : (zipD ds es).length = min ds.length es.length := by simp [zipD]
def wZip (ta tb : DTE) : DTI := fun σ h Q => ta σ h fun x h1 => tb σ h1 fun y h2 => match fz1 x h2 with
  | some (.list ds, h3) => (match fz1 y h3 with
    | some (.list es, h4) => Q (zipD ds es) h4
    | _ => False)
  | some (.tuple ds, h3) => (match fz1 y h3 with
    | some (.tuple es, h4) => Q (zipD ds es) h4
    | _ => False)
  | _ => False
section
variable {X : Cx} {a b : Expr} {p pos tpos : Pos} {elts : List Expr} {kk : Nat} {ta tb : DTE}
end

def dExt (to : DTE) (tF : DTF) : DTE := fun σ h Q => to σ h fun x h1 => match asL h1 x with
  | some _ => tF σ h1 fun ds h2 => (match ownL h2 x with
    | some (a, xs) => xs.length + ds.length ≤ sizeLine ∧ Q (.d .none) (mput h2 a (.lst (xs ++ ds)))
    | none => False)
  | none => False
section
variable {X : Cx} {e o : Expr} {apos cpos : Pos} {to : DTE} {tF : DTF}
end

theorem enum_new1 {v : Value} {o : Obj} {HH : Heap → Prop} (B : Begins v o HH) :
    Meets (Builtin.«enumerate.__new__» ⟨[.type "enumerate", v], []⟩) (fun _ R s => HH s.heap ∧ R (.ok (.ret (.ref (s.heap.push o).objs.size)))
      { s with heap := (s.heap.push o).push { cls := .type "enumerate", data := .fields #[.none, .bool false, .ref s.heap.objs.size, rawInt 0, .none, .none] } }) :=
  .of_wp fun prog w A R s h => by
    obtain ⟨hp, g, dr, tk, os⟩ := s
    obtain ⟨hb, h⟩ := h
    have hsub := sub_enumerate
    have it1 : ∀ {A1 : Around} {E1 Q1 : Value → Shared → Prop}, Q1 (.ref hp.objs.size) ⟨hp.push o, g, dr, tk, os⟩ → wpAny (model prog w) A1 (pyIter v) Q1 E1 ⟨hp, g, dr, tk, os⟩ := fun q => B.iter prog w _ _ ⟨hp, g, dr, tk, os⟩ _ hb q
    wp_walk using it1
    refine wpAny_stack_any fun st => wpAny_pure ?_
    split
    · rename_i c _ _ _ _ _
      cases (c == Value.type "enumerate") <;> (wp_walk using it1; exact ⟨_, rfl, h⟩)
    · wp_walk using it1
      exact ⟨_, rfl, h⟩
theorem call_enumB {prog : Program} {w : World} {A : Around} {E : Value → Shared → Prop} {s : Shared} {v : Value} {o : Obj} {HH : Heap → Prop} {Q : Value → Shared → Prop} (B : Begins v o HH) (hb : HH s.heap)
    (k : ∀ h', IsEnum h' (s.heap.objs.size + 1) s.heap.objs.size 0 .none → h'.get? s.heap.objs.size = some o → (∀ b u, s.heap.get? b = some u → h'.get? b = some u) → Q (.ref (s.heap.objs.size + 1)) { s with heap := h' }) :
    wpAny (model prog w) A (call (.type "enumerate") [v]) Q E s := by
  refine callType_new F.called_enumerate (by decide) (F.typeCall_enumerate_1 _) (F.newCall_enumerate_1 _) (fun obj => F.args_object_init_2 obj _) F.entry_enumerate_new (enum_new1 B) ⟨hb, ?_⟩
  have z : (s.heap.push o).objs.size = s.heap.objs.size + 1 := Heap.size_push ..
  show _ ∧ _
  rw [z]
  have en := Heap.get?_push_size (s.heap.push o) (o := { cls := .type "enumerate", data := .fields #[.none, .bool false, .ref s.heap.objs.size, rawInt 0, .none, .none] }) rfl
  rw [z] at en
  exact ⟨⟨_, en, rfl⟩, k _ en (Heap.get?_push_of_some _ (Heap.get?_push_size _ B.free)) fun b u x => Heap.get?_push_of_some _ (Heap.get?_push_of_some _ x)⟩
/-- the tuple at a, each item in a new pair -/
def IteT (K : PySem.W.Frag) (a : Addr) : It :=
  ⟨fun i H => ∃ (xs : List V) (x : V), SqT K H a xs ∧ xs[i]? = some x, fun i H v H' => ∃ T x, v = .ref T ∧ H T = none ∧ H' = upd H T (.tup [.int (i : Nat), x]) ∧ ∀ xs, SqT K H a xs → xs[i]? = some x, fun i H => ∃ xs : List V, SqT K H a xs ∧ xs.length = i⟩
theorem turn_enumT {P : Program} {w : World} {K : PySem.W.Frag} {elts : List Expr} {kk : Nat} {tpos : Pos} (a e it : Addr) :
    Turn P w K (.Tuple elts kk tpos) (IteT K a) [e, it] e (fun i h => (∃ old, IsEnum h e it ((i : Nat) : Int) old) ∧ h.IsTupleIter it a i ∧ e ≠ it) where
  mem := by simp
  obj := fun i h st b hb => by
    obtain ⟨⟨old, he⟩, ⟨o, ho, hc, hd⟩, _⟩ := st
    have e' : b = e ∨ b = it := by simpa using hb
    rcases e' with z | z
    · subst z; exact ⟨_, he, fun v q => nomatch q⟩
    · subst z; exact ⟨o, ho, fun v q => by rw [hd] at q; cases q⟩
  keep := fun i h h' st k => ⟨st.1.imp fun _ he => k e (by simp) _ he, st.2.1.at fun o q => k it (by simp) o q, st.2.2⟩
  item := by
    intro X hP hw hK hc i pins s σ H E I hf st hg
    subst hP hw hK
    obtain ⟨⟨old, he⟩, hit, hne⟩ := st
    obtain ⟨xs, x, hq, hx⟩ := hg
    obtain ⟨its, rv, p, hz⟩ := I.tuple hq
    have pt : s.heap.IsTuple a its.toArray := p
    obtain ⟨u, hu, ru⟩ := rv.get hx
    have hel : e < s.heap.objs.size := Heap.lt_size he
    have hil : it < s.heap.objs.size := by obtain ⟨_, q, _⟩ := hit; exact Heap.lt_size q
    have ai : a ≠ it := fun z => by
      obtain ⟨o1, q1, c1, _⟩ := id pt
      obtain ⟨o2, q2, c2, _⟩ := id hit
      rw [z, q2] at q1
      cases q1
      rw [c1] at c2
      revert c2
      decide
    have ea : e ≠ a := fun z => by
      obtain ⟨o1, q1, c1, _⟩ := id pt
      have q2 : s.heap.get? e = _ := he
      rw [z, q1] at q2
      cases q2
      have c2 : Value.type "enumerate" = Value.type "tuple" := c1
      revert c2
      decide
    have hlt : i < its.toArray.size := by
      have := (List.getElem?_eq_some_iff.mp hu).1
      simpa using this
    refine wpAny_pyNext_enum_itemC (Draws.tuple (A := X.A.in1) (I.ok.hd hc) it a ai its.toArray) he ⟨hit, pt⟩ hlt hne (by simp; exact ⟨hne, ea⟩) fun y h' tk hy ho st' hT hsz hk => ?_
    have ey : y = u := by
      have z : its.toArray[i]? = some u := by simpa using hu
      rw [z] at hy
      exact (Option.some.inj hy).symm
    subst ey
    refine ⟨_, rfl, wpAny_letOwnedTupleGo_enum (s := { s with heap := h', toks := tk + 1 }) ho fun h2 he2 sb => ?_⟩
    have hT2 : h2.get? s.heap.objs.size = some { cls := .type "tuple", data := .seq #[.int i tk, y] } := (sb.2 _ (Nat.ne_of_gt hel)).trans hT
    have new : ObjOk X.prog X.w (upd H s.heap.objs.size (.tup [.int (i : Nat), x])) h2 s.heap.objs.size (.tup [.int (i : Nat), x]) := ⟨by show 2 ≤ sizeLine; decide, [.int i tk, y], .cons ⟨_, rfl⟩ (.cons ru .nil), _, hT2, rfl, _, rfl⟩
    have I1 : Inv X pins σ (upd H s.heap.objs.size (.tup [.int (i : Nat), x])) { s with heap := h2, toks := tk + 1 } :=
      I.turnedNew (ch := [e, it]) (fun b ob hb q => (sb.2 b (fun z => hb (by simp [z]))).trans (hk b ob (fun z => hb (by simp [z])) (fun z => hb (by simp [z])) q)) hf (Nat.le_refl _) new
    refine ⟨.ref s.heap.objs.size, _, I1, rfl, ⟨_, x, rfl, I.hok.fresh (Nat.le_refl _), rfl, fun ys hy => by rw [I.tuple_inj hy hq]; exact hx⟩, ⟨⟨y, ?_⟩, st'.1.at fun o q => (sb.2 it (Ne.symm hne)).trans q, hne⟩, fun b hb => ?_⟩
    · rw [show ((i + 1 : Nat) : Int) = (i : Int) + 1 by omega]
      exact he2
    · have lt : b < s.heap.objs.size := by
        have e' : b = e ∨ b = it := by simpa using hb
        rcases e' with z | z
        · subst z; exact hel
        · subst z; exact hil
      rw [upd_ne (Nat.ne_of_lt lt)]
      exact (hf b hb).1
  done := by
    intro X hP hw hK hc i pins s σ H E I hf st hg
    subst hP hw hK
    obtain ⟨⟨old, he⟩, hit, hne⟩ := st
    obtain ⟨xs, hq, hx⟩ := hg
    obtain ⟨its, rv, p, hz⟩ := I.tuple hq
    have pt : s.heap.IsTuple a its.toArray := p
    have ai : a ≠ it := fun z => by
      obtain ⟨o1, q1, c1, _⟩ := id pt
      obtain ⟨o2, q2, c2, _⟩ := id hit
      rw [z, q2] at q1
      cases q1
      rw [c1] at c2
      revert c2
      decide
    obtain ⟨f0, f1, f2, f3, f4, f5⟩ := hf it (by simp)
    have hl := rv.length
    have ei : i = its.toArray.size := by simp; omega
    subst ei
    exact wpAny_pyNext_enum_endD (Draws.tuple (A := X.A.in1) (I.ok.hd hc) it a ai its.toArray) he ⟨hit, pt⟩ fun h' eb => ⟨rfl, I.turned (t' := s.toks) (fun b o hb q => eb b o hb q) f0 f1 f3 f4 f5⟩
  self := fun A i s Q E st h => wpAny_pyIter_enum (Classical.choose_spec st.1) h
def iEnumA (K : PySem.W.Frag) (ta : TA) : TI := fun σ H R => ta σ H fun vs H1 => ∃ a xs, vs = [.ref a] ∧ ((SqL K H1 a xs ∧ R (Ite K a) H1) ∨ (SqT K H1 a xs ∧ R (IteT K a) H1))
theorem pi_enumA {X : Cx} {e : Expr} {ta : TA} {p pos tpos : Pos} {elts : List Expr} {kk : Nat} (hg : Gl X "enumerate") (hm : X.mg "enumerate" = none) (ha : PA X [e] ta) (hs : starEach [e] X.env = [(false, eval e X.env)] := by rfl) :
    PI X (.Tuple elts kk tpos) (.Call (.Name "enumerate" p) [e] [] pos) (iEnumA X.K ta) := by
  refine ⟨fun pins s σ H R I h => ?_⟩
  refine Call_ (ld_blt I hg hm boot_enumerate (PyProof.Rows.callWith_type1 (thn (ha.run pos pins s σ H _ I h) fun us s1 ⟨vs, H1, I1, r1, q1⟩ => ?_) hs rfl))
  obtain ⟨a, xs, rfl, q1⟩ := q1
  rw [Vals.ref1 r1]
  have fresh : ∀ b, b ∈ [s1.heap.objs.size + 1, s1.heap.objs.size] → FpOk X pins H1 b := fun b hb => by
    have e' : b = s1.heap.objs.size + 1 ∨ b = s1.heap.objs.size := by simpa using hb
    have hle : s1.heap.objs.size ≤ b := by omega
    exact I1.fpOk hle (I1.hok.fresh hle)
  rcases q1 with ⟨hq, q⟩ | ⟨hq, q⟩
  · obtain ⟨its, rv, p', hz⟩ := I1.list hq
    refine call_enumB (begins_list a its.toArray) p'.isList fun h' he hit hk => wpAny_pyIter_enum he ?_
    exact ⟨s1.heap.objs.size + 1, [s1.heap.objs.size + 1, s1.heap.objs.size], _, _, H1, rfl, I1.kept (t' := s1.toks) hk, turn_enum a (s1.heap.objs.size + 1) s1.heap.objs.size, ⟨⟨.none, he⟩, ⟨_, hit, rfl, rfl⟩, Nat.succ_ne_self _⟩, fresh, q⟩
  · obtain ⟨its, rv, p', hz⟩ := I1.tuple hq
    refine call_enumB (begins_tuple a its.toArray) p' fun h' he hit hk => wpAny_pyIter_enum he ?_
    exact ⟨s1.heap.objs.size + 1, [s1.heap.objs.size + 1, s1.heap.objs.size], _, _, H1, rfl, I1.kept (t' := s1.toks) hk, turn_enumT a (s1.heap.objs.size + 1) s1.heap.objs.size, ⟨⟨.none, he⟩, ⟨_, hit, rfl, rfl⟩, Nat.succ_ne_self _⟩, fresh, q⟩
def enumD (ds : List PyData) : List PyData := ds.zipIdx.map fun p => .tuple [.int (p.2 : Nat), p.1]
theorem enumD_get {ds : List PyData} {i : Nat} {a : PyData} (h : ds[i]? = some a) : (enumD ds)[i]? = some (.tuple [.int (i : Nat), a]) := by
  unfold enumD
  rw [List.getElem?_map, List.getElem?_zipIdx, h]
  simp
theorem enumD_len (ds : List PyData) : (enumD ds).length = ds.length := by simp [enumD]
theorem gives_enumL {K : PySem.W.Frag} {F : Hp} {a : Addr} {vs : List V} {ds : List PyData} (h1 : SqL K F a vs) (r1 : DpAll K F vs ds) : Gives K F (Ite K a) (enumD ds) := by
  unfold Gives
  rw [enumD_len, ← dps_len r1]
  have w0 := walk_enum (K := K) (a := a) (xs := vs)
  refine ⟨fun i H hi s => w0.goes i H hi (sqL_up s h1), fun H s => w0.stops H (sqL_up s h1), fun i H x H' hi s y => ⟨s, ?_⟩⟩
  obtain ⟨T, p, q, e1, e2, e3, e4, e5⟩ := w0.yields i H x H' hi (sqL_up s h1) y
  cases e4
  obtain ⟨da, f1, f2⟩ := dps_getv r1 e5
  exact ⟨_, enumD_get f1, .inr ⟨T, _, q, _, da, e1, e2, e3, rfl, .int _, f2⟩⟩
theorem gives_enumT {K : PySem.W.Frag} {F : Hp} {a : Addr} {vs : List V} {ds : List PyData} (h1 : SqT K F a vs) (r1 : DpAll K F vs ds) : Gives K F (IteT K a) (enumD ds) := by
  unfold Gives
  rw [enumD_len, ← dps_len r1]
  refine ⟨fun i H hi s => ⟨vs, vs[i], sqT_up s h1, List.getElem?_eq_getElem hi⟩, fun H s => ⟨vs, sqT_up s h1, rfl⟩, fun i H x H' hi s y => ⟨s, ?_⟩⟩
  obtain ⟨T, q, e1, e2, e3, e5⟩ := y
  obtain ⟨da, f1, f2⟩ := dps_getv r1 (e5 _ (sqT_up s h1))
  exact ⟨_, enumD_get f1, .inr ⟨T, _, q, _, da, e1, e2, e3, rfl, .int _, f2⟩⟩
def wEnum (te : DTE) : DTI := fun σ h Q => te σ h fun x h1 => match fz1 x h1 with
  | some (.list ds, h2) => Q (enumD ds) h2
  | some (.tuple ds, h2) => Q (enumD ds) h2
  | _ => False
theorem dw_enum {X : Cx} {e : Expr} {te : DTE} {p pos tpos : Pos} {elts : List Expr} {kk : Nat} (hg : Gl X "enumerate") (hm : X.mg "enumerate" = none) (he : DE X Γ e te) (hs : starEach [e] X.env = [(false, eval e X.env)] := by rfl) : DWk X Γ (.Tuple elts kk tpos) (.Call (.Name "enumerate" p) [e] [] pos) (wEnum te) := by
  refine ⟨fun σ h Q Q' k w => he.mono _ _ _ _ (fun x h1 w1 => ?_) w, pi_imp (pi_enumA hg hm (da_cons he da_nil hs).pa hs) fun σ H R ⟨σd, h, rs, rm, w⟩ => ?_⟩
  · split at w1
    · exact k _ _ w1
    · exact k _ _ w1
    · exact w1
  · refine lift_mk (mono_cons he.mono fun _ _ _ _ k w => k _ _ w) rs rm (C := fun xs h1 => ∃ x, xs = [x] ∧ match fz1 x h1 with
        | some (.list ds, h2) => (∀ J H', PX Γ H h H' h2 → RM X.K Γ H' h2 → Gives X.K (Fz Γ H' h2) J (enumD ds) → R J H')
        | some (.tuple ds, h2) => (∀ J H', PX Γ H h H' h2 → RM X.K Γ H' h2 → Gives X.K (Fz Γ H' h2) J (enumD ds) → R J H')
        | _ => False) (he.mono _ _ _ _ (fun x h1 w1 => ⟨x, rfl, w1⟩) w) fun xs h1 vs H1 px rs1 rvs rm1 w1 => ?_
    obtain ⟨x, rfl, w1⟩ := w1
    obtain ⟨v, rfl, rv⟩ := rvs1 rvs
    split at w1
    · rename_i ds h2 e1
      obtain ⟨p1, r1, d1⟩ := fz1_ok rv rm1 e1
      cases d1 with
      | @lst a1 vs1 _ s1 dd1 => exact ⟨a1, vs1, rfl, .inl ⟨sqL_up fz_sub s1, w1 _ _ (px.trans p1) r1 (gives_enumL s1 dd1)⟩⟩
    · rename_i ds h2 e1
      obtain ⟨p1, r1, d1⟩ := fz1_ok rv rm1 e1
      cases d1 with
      | @tup a1 vs1 _ s1 dd1 => exact ⟨a1, vs1, rfl, .inr ⟨sqT_up fz_sub s1, w1 _ _ (px.trans p1) r1 (gives_enumT s1 dd1)⟩⟩
    · exact w1.elim
end DL

namespace DL
open PySem PySem.Spec PyProof.Rows L2
open PySem.W (AlikeAll minD dataLt min_list_default alike)
set_option autoImplicit true

def rMinD (K : PySem.W.Frag) : List V → List V → Hp → VK → Prop := fun xs zs H Q => ∃ (a : Addr) (vs : List V) (ds : List PyData) (F : Hp), xs = [.ref a] ∧ zs = [.non] ∧ SqL K H a vs ∧ Sub F H ∧ DpAll K F vs ds ∧ AlikeAll ds ∧ PyData.depthAll ds ≤ 60 ∧ (ds = [] → Q .non H) ∧ (∀ y ys, ds = y :: ys → ∀ v, Dp K F v (minD y ys) → Q v H)
theorem cr_minD {X : Cx} (hc : X.calm = true) (hu : X.A.units + 64 < cLine) : CallRK X (.builtin "min") [Str.ofString "default"] (rMinD X.K) := by
  intro pins s σ H xs zs us ws Q I r1 r2 h
  obtain ⟨a, vs, ds, F, rfl, rfl, sq, sub, dd, al, dp, q0, q1⟩ := h
  rw [Vals.ref1 r1]
  obtain ⟨u, rfl, ru⟩ := vals1 r2
  cases (show u = Value.none from ru)
  obtain ⟨its, rv, pl, hz⟩ := I.list sq
  obtain ⟨as, ra⟩ := Dp.readsAll I ds vs its (dps_up sub _ _ dd) rv
  show wpAny _ _ (call (.builtin "min") [.ref a] [(Str.ofString "default", Value.none)]) _ _ _
  refine min_list_default (I.ok.hd hc) pl.isList (vs := its.toArray) (xs := ds) (as := as) (by simpa using ra) al (by omega) (fun e h' tk k => ⟨.non, H, I.kept (t' := tk) k, rfl, q0 e⟩) fun y ys i v h' tk bs e hv hr k => ?_
  have hv' : its[i]? = some v := by simpa using hv
  obtain ⟨x, hx, rx⟩ : ∃ x, vs[i]? = some x ∧ RelV x v := by
    rcases paired_at (i := i) rv with ⟨_, e2⟩ | ⟨x, y, e1, e2, rr⟩
    · rw [e2] at hv'; cases hv'
    · rw [e2] at hv'
      cases hv'
      exact ⟨x, e1, rr⟩
  obtain ⟨d, hd, dx⟩ := dps_getv dd hx
  obtain ⟨bs2, r3⟩ := Dp.reads I d x v (dp_up sub _ _ dx) rx
  obtain ⟨eq, _⟩ := PyProof.Rows.reads_det (fun b o e _ => k b o e) r3 hr
  subst eq
  exact ⟨x, H, I.kept (t' := tk) k, rx, q1 y ys e x dx⟩
def dMinD (te : DTE) : DTE := fun σ h Q => te σ h fun x h1 => match asL h1 x with
  | some ds => AlikeAll ds ∧ PyData.depthAll ds ≤ 60 ∧ (match ds with
    | [] => Q (.d .none) h1
    | y :: ys => Q (.d (minD y ys)) h1)
  | none => False
theorem de_minD {X : Cx} {e : Expr} {te : DTE} {p pos kp kpos : Pos} {j} (hc : X.calm = true) (hu : X.A.units + 64 < cLine) (hg : Gl X "min") (hm : X.mg "min" = none) (he : DE X Γ e te)
    (he1 : backTo pos (starEach [e] X.env) = (false, eval e X.env) :: backTo pos (starEach [] X.env) := by rfl) (hpl : (backTo pos (starEach [e] X.env)).any (·.1) = false := by rfl) (hs : starEach [e] X.env = (false, eval e X.env) :: starEach [] X.env := by rfl)
    (hall : (backToKw pos (keywordEach [⟨some "default", .Constant .none j kp, kpos⟩] X.env)).all (·.1.isSome) = true := by rfl) (hnone : (backToKw pos (keywordEach [⟨some "default", .Constant .none j kp, kpos⟩] X.env)).any (·.1.isNone) = false := by rfl)
    (hks : (backToKw pos (keywordEach [⟨some "default", .Constant .none j kp, kpos⟩] X.env)).filterMap (·.1) = [Str.ofString "default"] := by rfl) :
    DE X Γ (.Call (.Name "min" p) [e] [⟨some "default", .Constant .none j kp, kpos⟩] pos) (dMinD te) := by
  refine ⟨fun σ h Q Q' k w => he.mono _ _ _ _ (fun x h1 w1 => ?_) w, pe_imp (pe_callBK (cr_minD hc hu) hg hm rfl (pa_cons he.pe pa_nil hs) (pk_cons pe_non pk_nil) (by decide) (by decide) he1 hpl hall hnone hks) fun σ H Q ⟨σd, h, rs, rm, w⟩ => ?_⟩
  · split at w1
    · refine ⟨w1.1, w1.2.1, ?_⟩
      have w2 := w1.2.2
      split at w2
      · exact k _ _ w2
      · exact k _ _ w2
    · exact w1
  · refine lift_mk he.mono rs rm w fun x h1 v H1 px rs1 rv rm1 w1 => ?_
    split at w1
    · rename_i ds e1
      obtain ⟨a, vs, rfl, s1, d1⟩ := asL_ok rv rm1 e1
      obtain ⟨al, dp, w2⟩ := w1
      refine ⟨a, vs, ds, Fz Γ H1 h1, rfl, rfl, s1, fz_sub, d1, al, dp, fun e => ?_, fun y ys e v dv => ?_⟩
      · subst e
        exact w2 .non H1 px rv_non rm1
      · subst e
        exact w2 v H1 px dv rm1
    · exact w1.elim
end DL

namespace DL
open PySem PySem.Spec PyProof.Rows L2
set_option autoImplicit true

/-- an empty set, as set(..) lays it first -/
abbrev bareSet (w : World) : Obj := { cls := .type "set", dict := none, data := .set #[] 0 (.fresh 0 0 (!w.params.followText "set-order")) }
section
variable {P : Program} {w : World} {A : Around} {E : Value → Shared → Prop} {s : Shared}
/-- set(x), whatever x is: what the filling does with the bare set -/
theorem set_call {x : Value} {Q : Value → Shared → Prop} {s1 : Shared} (e1 : s1 = { s with heap := s.heap.push (bareSet w) }) (at1 : s1.heap.get? s.heap.objs.size = some (bareSet w))
    (fill : wpAny (model P w) A.in1.in1 (Builtin.«set.__init__» ⟨[.ref s.heap.objs.size, x], []⟩) (fun f s' => f = .done (.ret .none) ∧ Q (.ref s.heap.objs.size) s') E s1) : wpAny (model P w) A (call (.type "set") [x]) Q E s := by
  have tc := F.called_set
  obtain ⟨c0, l0, q0⟩ := tc.mro
  have q1 := tc.made
  have q2 := tc.sub
  have q3 := tc.notType
  have q4 := tc.canCreate
  have q5 := F.typeCall_set_1 x
  have q6 := tc.init.lookup
  have q7 := tc.init.bind (.ref s.heap.objs.size)
  refine wpAny_call (codeAny_of_tree (show wpAny _ _ (callAny (.type "set") _) _ _ _ from wpAny_pure ⟨Code.quiet_builtin _ (by decide +kernel), codeAny_builtin F.entry_type_call ?_⟩))
  rw [Around.under_plain (weight_type_call_type "set" [x] []) rfl]
  repeat any_goals first | assumption | wp_step
  refine codeAny_mono (code_set_led1 x (E := E) (Q₁ := fun v s2 => v = .ref s.heap.objs.size ∧ s2 = s1) ⟨rfl, e1.symm⟩) fun r s2 hr => ?_
  obtain er | fl := r
  · exact hr
  cases fl with
  | ret v =>
    obtain ⟨ev, es⟩ := hr
    subst ev es
    have isS : s2.TypeIs (.ref s.heap.objs.size) "set" := ⟨_, at1, rfl⟩
    repeat any_goals first | assumption | wp_step
    refine codeAny_mono (codeAny_call_builtin (R := wants (fun r s3 => r = .none ∧ Q (.ref s.heap.objs.size) s3) E) tc.init.plain F.entry_set_init (check_set_init_1 isS (thn fill fun f s3 z => ?_))) fun r s3 hr => ?_
    · obtain ⟨ef, q⟩ := z
      subst ef
      exact ⟨rfl, q⟩
    obtain er | fl := r
    · exact hr
    cases fl with
    | ret v =>
      obtain ⟨ev, q⟩ := hr
      subst ev
      repeat any_goals first | assumption | wp_step
    | _ => exact hr.elim
  | _ => exact hr.elim
end
section
variable {X : Cx} {a : Expr} {ta : TE}
end

section
open PySem.W PySem.Calls PySem.HandSPX
variable {prog : Program} {w : World} {A : Around} {R : Result → Shared → Prop} {s : Shared} {K : Frag} {mg : Str → Option Value} {x base qual : Str} {C Cb fI : Addr} {B newId initId : String} {bmB : List Value} {params : Arguments} {scope : Scope} {fd : FuncData}
theorem bind3f {kindOf : Str → Option NameKind} {f g : Str} {a v u : Value} (h1 : kindOf "self" = some .local) (h2 : kindOf f = some .local) (h3 : kindOf g = some .local) (ne : f ≠ ("self" : Str)) (ne2 : g ≠ ("self" : Str)) (nfg : f ≠ g) :
    bindL kindOf [("self", a), (f, v), (g, u)] (fun _ => none) "self" = some a ∧ bindL kindOf [("self", a), (f, v), (g, u)] (fun _ => none) f = some v ∧ bindL kindOf [("self", a), (f, v), (g, u)] (fun _ => none) g = some u := by
  have n1 : ¬ ("self" : Str) = f := fun z => ne z.symm
  have n2 : ¬ ("self" : Str) = g := fun z => ne2 z.symm
  refine ⟨?_, ?_, ?_⟩
  · simp [bindL, h1, h2, h3, n1, n2]
  · simp [bindL, h1, h2, h3, nfg]
  · simp [bindL, h1, h2, h3]
def map2 (f g : Str) (v u : Value) : Str → Option Value := fun y => if y = g then some u else if y = f then some v else none
theorem err_init2 {f g : Str} {q1 q2 q3 q4 q5 q6 q7 q8 q9 q10 q11 q12 q13 : Pos} {e t0 : Addr} {v u : Value} (T : ErrC K mg x base C Cb fI [f, g] B newId initId bmB) (F : FunD K "__init__" qual params [eCall base q1 q2 q3 q4 q5, ePut f q6 q7 q8 q9, ePut g q10 q11 q12 q13] scope [] [] fI fd) (S : EScope scope base [f, g]) (nfg : f ≠ g)
    (hb : ∀ (kV doc pm : Value) (an : Option Addr) (cdv ct : Value) (us : List Value), us.length = 3 → bindArgs (fnOf "__init__" qual params [eCall base q1 q2 q3 q4 q5, ePut f q6 q7 q8 q9, ePut g q10 q11 q12 q13] scope .none kV doc pm an cdv ct) ⟨us, []⟩ = pure ([("self" : Str), f, g].zip us))
    {pl : Env → Sem Bool} (hc : ∀ env : Env, eval (.Call (.Attribute (.Name base q1) "__init__" q2) [.Name "self" q3] [] q4) env = (do
      let ov ← eval (.Name base q1) env
      standAt q2.atName
      let (f, first) ← holding [ov] (getMethod ov "__init__" (pl env))
      callWith q4 f first (backTo q4 (starEach [.Name "self" q3] env)) (backToKw q4 (keywordEach [] env))))
    (hsw : ∀ env : Env, swapsWith (.Call (.Attribute (.Name base q1) "__init__" q2) [.Name "self" q3] [] q4) none q5.line env = pure false) (hdb : (base == ("__debug__" : Str)) = false)
    (hsw2 : ∀ env : Env, swapsWith (.Name f q8) (some (.Attribute (.Name "self" q6) f q7)) q9.line env = pure false) (hsw3 : ∀ env : Env, swapsWith (.Name g q12) (some (.Attribute (.Name "self" q10) g q11)) q13.line env = pure false)
    (X : K.In s.heap) (hlim : s.heap.NoLimit) (hglo : s.heap.Ns mainGlobals mg) (he : s.heap.get? e = some (excO C t0)) (hne : K.lookup e = none) (hroom : A.depth < recursionLimit)
    (k : ∀ h' tk dx t1, EInit s.heap h' e C dx t1 (map2 f g v u) → R (.ok (.ret .none)) { s with heap := h', toks := tk }) :
    codeAny (model prog w) A (.call (.ref fI) ⟨[.ref e, v, u], []⟩) R s := by
  obtain ⟨oc, od, dV, kV, doc, pm, an, cdv, ct, osl, rfl, lk, hcd, hD, hK⟩ := F.ex
  obtain ⟨hf1, hf2, hf3⟩ := S.fs f List.mem_cons_self
  obtain ⟨hg1, hg2, hg3⟩ := S.fs g (List.mem_cons_of_mem _ List.mem_cons_self)
  obtain ⟨nm, q, N, bs, bm, sn, sub, ab, col, dd, k0, k1, k2, k3, k5, hC, hbm⟩ := T.cls
  have hcl : clsIn K C = some { name := nm, bases := bs, mro := .ref C :: bm, ns := N, qualname := q, hasDict := true, slotNames := sn, subclasses := sub, abstract := ab, collection := col, hasDel := false } := by unfold clsIn; rw [hC] <;> rfl
  have dv : dV = .none := by
    rcases hD with ⟨_, z⟩ | ⟨z, _⟩
    · exact z
    · exact absurd rfl z
  subst dv
  refine Att.call_fn (binds := [("self", .ref e), (f, v), (g, u)]) X hlim lk hcd hroom (BindsTo.of_eq (hb _ _ _ _ _ _ [.ref e, v, u] rfl)) (by simp [S.me, hf1, hg1]) (fun s₁ IC => ?_) S.co S.gen S.kind
  obtain ⟨h₁, tk₁, rfl⟩ := IC.toInCall.same
  have kp : ∀ b o, s.heap.get? b = some o → h₁.get? b = some o := IC.toInCall.keep
  have hn := IC.toInCall.ns
  have X₁ : K.In h₁ := X.keeps kp
  have he₁ := kp _ _ he
  have kme : (envOfC qual scope s.heap.objs.size fI cdv).kindOf "self" = some .local := S.me
  have kf : (envOfC qual scope s.heap.objs.size fI cdv).kindOf f = some .local := hf1
  have kg : (envOfC qual scope s.heap.objs.size fI cdv).kindOf g = some .local := hg1
  obtain ⟨b1, b2, b3⟩ := bind3f (a := .ref e) (v := v) (u := u) kme kf kg hf2 hg2 nfg
  have lt : s.heap.objs.size < h₁.objs.size := hn.lt
  show wpAny _ _ (execs _ _) _ _ _
  refine wpAny_execs_cons (wpAny_Expr_any ?_ (by simp [interactive, envOfC, S.kind]) (hsw _))
  refine methodCall_KW (Calls.Name_function_global S.kind S.base (Calls.loadGlobal_global (hglo.keeps kp) T.gB ?_) hdb) (hc _)
  refine method_cls X₁ T.gaB (cls_value X₁ T.rdB T.biB T.hI ?_)
  refine callWith_method1 (first := []) ?_ rfl rfl
  show wpAny _ _ (spliced [(false, eval (.Name "self" q3) _)]) _ _ _
  refine Calls.spliced_cons (e_load (v := .ref e) S.kind kme hn b1 (Calls.spliced_nil ?_) (by decide))
  show wpAny _ _ (call (.builtin initId) [.ref e]) _ _ _
  refine wpAny_call (init_base T.FB (fun Y => excTail_contains Y bm hbm) (X₁ _ _ hC) he₁ (by rw [sizeLine_eq]; decide) fun h₂ t1 k₂ he₂ => ?_)
  have neL : s.heap.objs.size ≠ e := Nat.ne_of_gt (Heap.lt_size he)
  have X₂ : K.In h₂ := fun b o z => k₂ b o (fun y => by rw [y, hne] at z; cases z) (X₁ b o z)
  obtain ⟨oL, esL, nL, gL, dL, rL⟩ := hn
  have hn₂ : h₂.Ns s.heap.objs.size _ := ⟨oL, esL, nL, k₂ _ _ neL gL, dL, rL⟩
  show wpAny _ _ (execs _ _) _ _ _
  refine wpAny_execs_cons (plainObj_wpAny_Assign_Attribute ?_ (hsw2 _))
  refine e_load (v := v) S.kind kf hn₂ b2 (e_load (v := .ref e) S.kind kme hn₂ b1 ?_ (by decide)) hf3
  refine set_plain X₂ (ox := excO C t1) (od := none) ⟨he₂, rfl, rfl, trivial⟩ T.sa ?_
  refine put_first T.SF X₂ he₂ hcl T.ov rfl (T.tk f List.mem_cons_self) fun h₃ tk₃ dx k₃ dn dne he₃ hn₃ => ?_
  have old : ∀ b o, b ≠ e → s.heap.get? b = some o → h₃.get? b = some o := fun b o hb z => k₃ b o hb (k₂ b o hb (kp b o z))
  have X₃ : K.In h₃ := fun b o z => k₃ b o (fun y => by rw [y, hne] at z; cases z) (X₂ b o z)
  have hn₄ : h₃.Ns s.heap.objs.size _ := ⟨oL, esL, nL, k₃ _ _ neL (k₂ _ _ neL gL), dL, rL⟩
  show wpAny _ _ (execs _ _) _ _ _
  refine wpAny_execs_cons (plainObj_wpAny_Assign_Attribute ?_ (hsw3 _))
  refine e_load (v := u) S.kind kg hn₄ b3 (e_load (v := .ref e) S.kind kme hn₄ b1 ?_ (by decide)) hg3
  have hw : Within (fun y => if y = f then some v else none) [f] := fun y hy => by
    by_cases z : y = f
    · rw [z]; exact List.mem_cons_self
    · exact absurd (show (if y = f then some v else none) = none by rw [if_neg z]) hy
  obtain ⟨oD, esD, epD, hoD, hdD, _⟩ := hn₃.count hw
  refine set_plain X₃ (ox := { excO C t1 with dict := some dx }) (od := some oD) ⟨he₃, rfl, rfl, hoD⟩ T.sa ?_
  have dlt : s.heap.objs.size ≤ dx := Nat.le_trans (Nat.le_of_lt hn₂.lt) dn
  refine put_more T.SF X₃ he₃ hn₃ hw (by show 1 ≤ 1000; decide) hcl T.ov rfl (T.tk g (List.mem_cons_of_mem _ List.mem_cons_self)) fun h₅ tk₅ k₅ hn₅ => ?_
  show wpAny _ _ (execs _ _) _ _ _
  have lt2 : ∀ b o, s.heap.get? b = some o → b ≠ dx := fun b o z => Nat.ne_of_lt (Nat.lt_of_lt_of_le (Heap.lt_size z) dlt)
  exact wpAny_execs_nil (k h₅ tk₅ dx t1 ⟨fun b o hb z => k₅ b o (lt2 b o z) (old b o hb z), k₅ _ _ dne.symm he₃, dlt, dne, hn₅⟩)
end
theorem rel_two {f g : Str} {v v2 : V} {u u2 : Value} (r : RelV v u) (r2 : RelV v2 u2) (nfg : f ≠ g) (y : Str) : RelO (List.lookup y [(f, v), (g, v2)]) (map2 f g u u2 y) := by
  unfold map2
  by_cases q : y = g
  · subst q
    rw [if_pos rfl]
    have n : (y == f) = false := by simpa using (fun z : y = f => nfg z.symm)
    have z : List.lookup y [(f, v), (y, v2)] = some v2 := by simp [List.lookup, n]
    rw [z]
    exact r2
  · rw [if_neg q]
    have q' : (y == g) = false := by simpa using q
    by_cases p : y = f
    · subst p
      rw [if_pos rfl]
      have z : List.lookup y [(y, v), (g, v2)] = some v := by simp [List.lookup]
      rw [z]
      exact r
    · rw [if_neg p]
      have p' : (y == f) = false := by simpa using p
      have z : List.lookup y [(f, v), (g, v2)] = none := by simp [List.lookup, q', p']
      rw [z]
      trivial
def tMk2 (C : Addr) (f g : Str) (ta : TA) : L2.St → Hp → XK → Prop := fun σ H Q => ta σ H fun vs H1 => ∃ v v2, vs = [v, v2] ∧ ∀ d, H1 d = none → Q (.ref C) (some d) (upd H1 d (.xd [(f, v), (g, v2)]))
def Init2 (K : PySem.W.Frag) (mg : Str → Option Value) (C fI : Addr) (f g : Str) : Prop := ∀ (prog : Program) (w : World) (A : Around) (R : Result → Shared → Prop) (s : Shared) (e t0 : Addr) (v u : Value), K.In s.heap → s.heap.NoLimit → s.heap.Ns mainGlobals mg → s.heap.get? e = some (PySem.HandSPX.excO C t0) → K.lookup e = none → A.depth < recursionLimit →
  (∀ h' tk dx t1, EInit s.heap h' e C dx t1 (map2 f g v u) → R (.ok (.ret .none)) { s with heap := h', toks := tk }) → codeAny (model prog w) A (.call (.ref fI) ⟨[.ref e, v, u], []⟩) R s
section
variable {X : Cx} {x base f g : Str} {C Cb fI : Addr} {B newId initId : String} {bmB : List Value}
theorem pmk_2 {a b : Expr} {ta : TA} {p pos : Pos} {k : Nat} (T : ErrC X.K X.mg x base C Cb fI [f, g] B newId initId bmB) (N : Init2 X.K X.mg C fI f g) (nfg : f ≠ g) (hr : Room k X.A) (ha : PA X [a, b] ta) (hg : Gl X x) (hdb : (x == ("__debug__" : Str)) = false)
    (he : starEach (a :: [b]) X.env = (false, eval a X.env) :: starEach [b] X.env := by rfl) (hpl : (backTo pos (starEach [b] X.env)).any (·.1) = false := by rfl) :
    PMk X (.Call (.Name x p) [a, b] [] pos) (tMk2 C f g ta) := by
  intro pins s σ H Q I h
  refine wpAny_Call_Name_kw (ld_glob I hg T.gC ?_ hdb)
  refine PySem.W.callWith_K (h₀ := X.base) I.ok.mod.kin T.kC (thn (ha.run pos pins s σ H _ I h) fun us s1 hh => ?_) he hpl
  obtain ⟨vs, H1, I1, r1, v, v2, ev, q1⟩ := hh
  subst ev
  refine ⟨I1.kIn, ?_⟩
  obtain ⟨u, u2, rfl, ru, ru2⟩ := vals2 r1
  show wpAny _ _ (call (.ref C) [u, u2]) _ _ _
  have hlim := I1.nolimit
  have hglo : s1.heap.Ns mainGlobals X.mg := I1.mod.glob.keeps I1.bk
  obtain ⟨hp, gn, dr, tk, os⟩ := s1
  refine wpAny_call (err_made T I1.kIn hlim hglo (by have := hr.dp; omega) (by rw [sizeLine_eq]; show 2 ≤ 16777216; decide) (fun {A R s e t0} a1 a2 a3 a4 a5 a6 a7 => N _ _ A R s e t0 u u2 a1 a2 a3 a4 a5 a6 a7) fun h' tk' e d M => ?_)
  show MkP X pins σ Q (.ref e) ⟨h', gn, dr, tk', os⟩
  obtain ⟨oe, fv, hoe, hc, hd, hdat, h1⟩ := M.obj
  obtain ⟨G', g1, g2⟩ := restrict h' fun b => decide (b ≠ e)
  have gk : ∀ b, b ≠ e → G'.get? b = h'.get? b := fun b hb => g1 b (decide_eq_true hb)
  have ge : G'.get? e = none := g2 e (by simp)
  have old : ∀ b o, hp.get? b = some o → G'.get? b = some o := fun b o q => (gk b (Nat.ne_of_lt (Nat.lt_of_lt_of_le (Heap.lt_size q) M.new))).trans (M.keep b o q)
  have ob : ObjOk X.prog X.w (upd H1 d (.xd [(f, v), (g, v2)])) G' d (.xd [(f, v), (g, v2)]) := ⟨_, M.ns.at (fun o q => (gk d M.ne).trans q), fun y => rel_two ru ru2 nfg y⟩
  have J : Inv X pins σ (upd H1 d (.xd [(f, v), (g, v2)])) ⟨G', gn, dr, tk', os⟩ := I1.laid (t' := tk') old M.big ob
  refine ⟨e, oe, fv, ⟨G', gn, dr, tk', os⟩, _, .ref C, some d, rfl, J, fun b o q => ?_, ge, hoe, ⟨hc, hd⟩, hdat, h1, ?_, rfl, I1.bare, raises_own T.exC T.tyC, q1 d (I1.hok.fresh M.big)⟩
  · by_cases hb : b = e
    · have q' : G'.get? b = some o := q
      rw [hb, ge] at q'
      cases q'
    · exact (gk b hb).symm.trans q
  · rw [upd_ne (Ne.symm M.ne)]
    exact I1.hok.fresh M.new
/-- raise C(a, b) -/
def dRaise2 (E : DXS) (n f g : Str) (t : DTA) : DTS := fun _ σ h => t σ h fun xs h1 => match fzs xs h1 with
  | some ([d, d2], h2) => E ⟨n, [(f, d), (g, d2)]⟩ σ h2
  | _ => False
theorem ds_raise2 {a b : Expr} {t : DTA} {E : DXS} {p pos pos2 : Pos} {k : Nat} (hc : X.calm = true) (T : ErrC X.K X.mg x base (He.ga X.K x) Cb fI [f, g] B newId initId bmB) (N : Init2 X.K X.mg (He.ga X.K x) fI f g) (nfg : f ≠ g) (hr : Room k X.A) (tk : Takes X (liftX X.K Γ E)) (ha : DA X Γ [a, b] t) (hg : Gl X x := by rfl) (hdb : (x == ("__debug__" : Str)) = false := by decide)
    (he : starEach (a :: [b]) X.env = (false, eval a X.env) :: starEach [b] X.env := by rfl) (hpl : (backTo pos (starEach [b] X.env)).any (·.1) = false := by rfl) :
    DS X Γ (.Raise (some (.Call (.Name x p) [a, b] [] pos)) none pos2) (dRaise2 E x f g t) := by
  refine ⟨fun D D' σ h l w => w, ps_imp (ps_raise hc tk (pmk_2 T N nfg hr ha.pa hg hdb he hpl)) fun D σ H ⟨σd, h, rs, rm, w⟩ => ?_⟩
  refine lift_mk ha.mono rs rm w fun xs h1 vs H1 px rs1 rvs rm1 w1 => ?_
  split at w1
  · rename_i d d2 h2 e1
    obtain ⟨p2, rm2, dp⟩ := fzs_ok rvs rm1 e1
    obtain ⟨v, v2, dv, dv2, rfl⟩ : ∃ v v2, Dp X.K (Fz Γ H1 h2) v d ∧ Dp X.K (Fz Γ H1 h2) v2 d2 ∧ vs = [v, v2] := by
      cases dp with
      | cons a b => cases b with
        | cons b c => cases c; exact ⟨_, _, a, b, rfl⟩
    refine ⟨v, v2, rfl, fun dd nd => ?_⟩
    have p3 : PX Γ H1 h2 (upd H1 dd (.xd [(f, v), (g, v2)])) h2 := rm2.px nd
    refine ⟨⟨x, [(f, d), (g, d2)]⟩, σd, h2, (rs1.up p2).up p3, RM.new nd rm2, ⟨rfl, .inr ⟨dd, [(f, v), (g, v2)], rfl, Fz.of upd_same (rm2.tracked nd) (rm2.notx nd), .cons ⟨rfl, dp_up p3.ex _ _ dv⟩ (.cons ⟨rfl, dp_up p3.ex _ _ dv2⟩ .nil)⟩⟩, w1⟩
  · exact w1.elim
end
def Err2 (K : PySem.W.Frag) (mg : Str → Option Value) (x f g : Str) : Prop := ∃ (base : Str) (Cb fI : Addr) (B newId initId : String) (bmB : List Value), ErrC K mg x base (He.ga K x) Cb fI [f, g] B newId initId bmB ∧ Init2 K mg (He.ga K x) fI f g
theorem ds_raiseE2 {X : Cx} {x f g : Str} {a b : Expr} {t : DTA} {E : DXS} {p pos pos2 : Pos} {k : Nat} (hc : X.calm = true) (T : Err2 X.K X.mg x f g) (nfg : f ≠ g) (hr : Room k X.A) (tk : Takes X (liftX X.K Γ E)) (ha : DA X Γ [a, b] t) (hg : Gl X x := by rfl) (hdb : (x == ("__debug__" : Str)) = false := by decide)
    (he : starEach (a :: [b]) X.env = (false, eval a X.env) :: starEach [b] X.env := by rfl) (hpl : (backTo pos (starEach [b] X.env)).any (·.1) = false := by rfl) :
    DS X Γ (.Raise (some (.Call (.Name x p) [a, b] [] pos)) none pos2) (dRaise2 E x f g t) := by
  obtain ⟨base, Cb, fI, B, newId, initId, bmB, T1, T2⟩ := T
  exact ds_raise2 hc T1 T2 nfg hr tk ha hg hdb he hpl

section
variable {X : Cx} {x : Str} {cv : Value} {body suite : List Stmt} {b₀ : Stmt} {np pos pos' : Pos} {kt : Str → Str → Option Bool} {tb : DXS → DTS} {ts : Addr → DExc → DTS} {Eo : DXS}
end

section
variable {X : Cx}
end
end DL

namespace DL
open PySem PySem.Spec PyProof.Rows L2
set_option autoImplicit true

section
variable {X : Cx} {a b c : Expr} {ta tb tc : DTE} {pos : Pos}
end

def rdIsB : DR2 := fun x y h Q => match x, y with
  | .d (.bool a), .d (.bool b) => Q (.d (.bool (decide (a = b)))) h
  | _, _ => False
def rdNotB : DR2 := fun x y h Q => match x, y with
  | .d (.bool a), .d (.bool b) => Q (.d (.bool (!decide (a = b)))) h
  | _, _ => False
theorem lr_notB {K : PySem.W.Frag} : LR2 K Γ rdNotB (fun x y H Q => ∃ a b, x = .bl a ∧ y = .bl b ∧ Q (.bl (!decide (a = b))) H) := by
  refine ⟨fun x y h Q Q' k w => ?_, fun x y v u H h C' Q rv ru rm w k => ?_⟩
  · unfold rdNotB at w ⊢
    split at w
    · exact k _ _ w
    · exact w
  · unfold rdNotB at w
    split at w
    · cases rv
      cases ru
      exact ⟨_, _, rfl, rfl, k _ _ _ H PX.refl rv_bl rm w⟩
    · exact w.elim

end DL

namespace DL
open PySem PySem.Spec PyProof.Rows L2
set_option autoImplicit true

theorem rvf_rv {K : PySem.W.Frag} {Γ : GI} {H : Hp} {h : MH} {x : SV} {v : V} (r : RVF K (Fz Γ H h) x v) : RV K Γ H h x v := by cases x <;> exact r
theorem rv_rvf {K : PySem.W.Frag} {Γ : GI} {H : Hp} {h : MH} {x : SV} {v : V} (r : RV K Γ H h x v) : RVF K (Fz Γ H h) x v := by cases x <;> exact r
/-- the pairs of one's own dict -/
def asDc (h : MH) : SV → Option (Addr × List (Key × SV))
  | .own a => match h a with
    | some (.dct ps) => some (a, ps)
    | _ => none
  | .d _ => none
theorem own_newG {K : PySem.W.Frag} {Γ : GI} {H : Hp} {h : MH} {p : Addr} {u : HO} {o : MO} (n : H p = none) (r : RM K Γ H h) (hd : ROF K (Fz Γ H h) o u) : PX Γ H h (upd H p u) (mput h p o) ∧ RM K Γ (upd H p u) (mput h p o) ∧ h p = none :=
  ⟨own_px n (r.tracked n) (r.notx n), own_rmG n r hd, r.tracked n⟩
section
variable {X : Cx} {e o f : Expr} {te to ti tx : DTE} {t : DTA} {es : List Expr} {pos apos cpos : Pos}
/-- (a, .., z), of what is one's own as it is -/
def dTupO (t : DTA) : DTE := fun σ h Q => t σ h fun xs h1 => xs.length ≤ sizeLine ∧ ∀ p, h1 p = none → Q (.own p) (mput h1 p (.tpl xs))
/-- [a, .., z], of what is one's own as it is -/
def dLstO (t : DTA) : DTE := fun σ h Q => t σ h fun xs h1 => xs.length ≤ sizeLine ∧ ∀ p, h1 p = none → Q (.own p) (mput h1 p (.seq xs))
def setAllS : List Nat → List SV → DSt → DSt
  | i :: r, d :: ds, σ => setAllS r ds (σ.set i (some d))
  | _, _, σ => σ
def asTp (h : MH) : SV → Option (Addr × List SV)
  | .own a => match h a with
    | some (.tpl xs) => some (a, xs)
    | _ => none
  | .d _ => none
def dUnp (te : DTE) (is : List Nat) : DTS := fun D σ h => te σ h fun x h1 => match asTp h1 x with
  | some p => p.2.length = is.length ∧ D.nx (setAllS is p.2 σ) h1
  | none => match bindT (.tup is) x σ with
    | some σ' => D.nx σ' h1
    | none => False
end
section
variable {σ : DSt} {h : MH} {Q : DK} {QA : List SV → MH → Prop} {D : DEnds} {x y z : SV} {ta tb tc tk tv to ti tx te : DTE} {tA : DTA} {a p : Addr} {trs : List (DTE × DTE)} {QP : List (SV × SV) → MH → Prop} {xs : List SV} {ps : List (Key × SV)} {k' : Key}
def tupOK (Q : DK) : List SV → MH → Prop := fun xs h1 => xs.length ≤ sizeLine ∧ ∀ p, h1 p = none → Q (.own p) (mput h1 p (.tpl xs))
theorem e_tupO (k : tA σ h (tupOK Q)) : dTupO tA σ h Q := k
theorem k_tupO (c : Nat.ble xs.length 16777216 = true) (k : ∀ p, h p = none → Q (.own p) (mput h p (.tpl xs))) : tupOK Q xs h := ⟨by rw [sizeLine_eq]; exact Nat.le_of_ble_eq_true c, k⟩
def lstOK (Q : DK) : List SV → MH → Prop := fun xs h1 => xs.length ≤ sizeLine ∧ ∀ p, h1 p = none → Q (.own p) (mput h1 p (.seq xs))
theorem e_lstO (k : tA σ h (lstOK Q)) : dLstO tA σ h Q := k
theorem k_lstO (c : Nat.ble xs.length 16777216 = true) (k : ∀ p, h p = none → Q (.own p) (mput h p (.seq xs))) : lstOK Q xs h := ⟨by rw [sizeLine_eq]; exact Nat.le_of_ble_eq_true c, k⟩
def unpK (is : List Nat) (D : DEnds) (σ : DSt) : DK := fun x h1 => match asTp h1 x with
  | some p => p.2.length = is.length ∧ D.nx (setAllS is p.2 σ) h1
  | none => match bindT (.tup is) x σ with
    | some σ' => D.nx σ' h1
    | none => False
theorem e_unp {is : List Nat} (k : te σ h (unpK is D σ)) : dUnp te is D σ h := k
end
end DL

namespace DL
open PySem PySem.Spec PyProof.Rows L2
set_option autoImplicit true

def itemsO (b : Bool) : MO → Option (List SV)
  | .lst xs => if b = true then none else some (xs.map SV.d)
  | .seq xs => if b = true then none else some xs
  | .tpl xs => if b = true then some xs else none
  | _ => none
/-- a target that takes what is one's own, too -/
def bindS (g : Tg) (x : SV) (h : MH) (σ : DSt) : Option DSt := match asTp h x, g with
  | some p, .tup is => if p.2.length = is.length then some (setAllS is p.2 σ) else none
  | some _, .nm i => some (σ.set i (some x))
  | some _, .star _ _ => none
  | none, g => bindT g x σ
def forO (b : Bool) (g : Tg) (tb : DTS) (D : DEnds) (a : Addr) : Nat → Nat → DSt → MH → Prop
  | 0, _, _, _ => False
  | n + 1, i, σ, h => match h a with
    | some o => match itemsO b o with
      | some xs => match xs[i]? with
        | none => D.nx σ h
        | some x => match bindS g x h σ with
          | some σ1 => tb { nx := fun σ' h' => forO b g tb D a n (i + 1) σ' h', ct := fun σ' h' => forO b g tb D a n (i + 1) σ' h', bk := D.nx, rt := D.rt } σ1 h
          | none => False
      | none => False
    | none => False
def forGK (g : Tg) (tb : DTS) (D : DEnds) (σ : DSt) : DK := fun x h1 => match x with
  | .own a => ∃ b n, forO b g tb D a n 0 σ h1
  | .d (.list ds) => forL g tb D ds σ h1
  | .d (.tuple ds) => forL g tb D ds σ h1
  | _ => False
def dForG (te : DTE) (g : Tg) (tb : DTS) : DTS := fun D σ h => te σ h (forGK g tb D σ)
section
variable {X : Cx} {e : Expr} {te : DTE} {tg iter : Expr} {pos : Pos}
end
end DL

namespace DL
open PySem PySem.Spec PyProof.Rows L2
set_option autoImplicit true

def lcO (b : Bool) (g : Tg) (tt : DTT) (te : DTE) (σ : DSt) (a : Addr) : Nat → Nat → List PyData → MH → (List PyData → MH → Prop) → Prop
  | 0, _, _, _, _ => False
  | n + 1, i, acc, h, Q => match h a with
    | some o => match itemsO b o with
      | some xs => match xs[i]? with
        | none => Q acc h
        | some x => match bindS g x h σ with
          | some σ1 => tt σ1 h fun c h1 => if c = true then te σ1 h1 fun y h2 => match fz1 y h2 with
              | some (z, h3) => lcO b g tt te σ a n (i + 1) (acc ++ [z]) h3 Q
              | none => False
            else lcO b g tt te σ a n (i + 1) acc h1 Q
          | none => False
      | none => False
    | none => False
def lcGK (g : Tg) (tt : DTT) (te : DTE) (σ : DSt) (Q : List PyData → MH → Prop) : DK := fun x h1 => match x with
  | .own a => ∃ b n, n ≤ sizeLine ∧ lcO b g tt te σ a n 0 [] h1 Q
  | .d (.list ds) => ds.length ≤ sizeLine ∧ lcL g tt te σ ds [] h1 Q
  | .d (.tuple ds) => ds.length ≤ sizeLine ∧ lcL g tt te σ ds [] h1 Q
  | _ => False
def fLcG (tl : DTE) (g : Tg) (tt : DTT) (te : DTE) (vs : List Nat) : DTF := fun σ h Q => tl σ h (lcGK g tt te (wipeD σ vs) Q)
section
variable {X : Cx} {e : Expr} {te : DTE} {tg iter : Expr} {pos : Pos}
end
section
variable {σ : DSt} {h : MH} {D : DEnds} {a : Addr} {g : Tg} {tb : DTS} {tl te : DTE} {tt : DTT} {vs : List Nat} {QL : List PyData → MH → Prop} {xs ds : List PyData}
theorem e_forG (k : tl σ h (forGK g tb D σ)) : dForG tl g tb D σ h := k
theorem k_forGT (k : forL g tb D ds σ h) : forGK g tb D σ (.d (.tuple ds)) h := k
theorem k_forGL (k : forL g tb D ds σ h) : forGK g tb D σ (.d (.list ds)) h := k
theorem e_fLcG (k : tl σ h (lcGK g tt te (wipeD σ vs) QL)) : fLcG tl g tt te vs σ h QL := k
theorem k_lcGT (k : ds.length ≤ sizeLine ∧ lcL g tt te σ ds [] h QL) : lcGK g tt te σ QL (.d (.tuple ds)) h := k
theorem k_lcGL (k : ds.length ≤ sizeLine ∧ lcL g tt te σ ds [] h QL) : lcGK g tt te σ QL (.d (.list ds)) h := k
end
end DL

namespace DL
open PySem PySem.Spec PyProof.Rows L2
set_option autoImplicit true

theorem perm_pull {α β : Type} (f : α → β) {l m : List β} (h : l.Perm m) : ∀ L : List α, m = L.map f → ∃ L' : List α, L'.Perm L ∧ l = L'.map f := by
  induction h with
  | nil =>
    intro L e
    cases L with
    | nil => exact ⟨[], .nil, rfl⟩
    | cons _ _ => cases e
  | cons x _ ih =>
    intro L e
    cases L with
    | nil => cases e
    | cons a L =>
      injection e with e1 e2
      obtain ⟨L', p, e3⟩ := ih L e2
      exact ⟨a :: L', p.cons a, by rw [e3, e1]; rfl⟩
  | swap x y l =>
    intro L e
    cases L with
    | nil => cases e
    | cons a L =>
      injection e with e1 e2
      cases L with
      | nil => cases e2
      | cons b L =>
        injection e2 with e2 e3
        exact ⟨b :: a :: L, .swap a b L, by rw [e1, e2, e3]; rfl⟩
  | trans _ _ ih1 ih2 =>
    intro L e
    obtain ⟨L1, p1, e1⟩ := ih2 L e
    obtain ⟨L2, p2, e2⟩ := ih1 L1 e1
    exact ⟨L2, p2.trans p1, e2⟩
section
variable {P : Program} {w : World} {A : Around} {E : Value → Shared → Prop} {s : Shared}
theorem hdAt_tup {h : Heap} {k : List Int} {b : Addr} (x : IsT P w h k b) : HdAt h (.ref b) k [] := by
  obtain ⟨o, items, n, ho, hc, hd, hi⟩ := x
  exact ⟨b, o, n, items.toList, rfl, ho, hc, by rw [hd]; simp, ints_of_items hi⟩
abbrev refs (L : List (Addr × List Int)) : List Value := L.map fun q => Value.ref q.1
theorem sorted_setO {a : Addr} {L : List (Addr × List Int)} {es : Array (Int × Value)} {ep : Nat} {t : SetTable} {Q : Value → Shared → Prop} (R : SetTR P w s.heap a L es ep t) (hh : A.handled = none) {m : Nat} (hm : 1 ≤ m) (hl : ∀ p ∈ L, p.2.length = m)
    (hQ : ∀ s' p (out : Array Value) (c : Nat) (L' : List (Addr × List Int)), (∀ b o, s.heap.get? b = some o → s'.heap.get? b = some o) → s'.gens = s.gens → s'.os = s.os → s.heap.objs.size ≤ p → s'.heap.get? p = some (seqObj "list" out c) →
      out.toList = refs L' → L'.Perm L → L'.Pairwise (fun q r => leL q.2 r.2 = true) → Q (.ref p) s') :
    wpAny (model P w) A (call (.builtin "sorted") [.ref a]) Q E s := by
  obtain ⟨o, ho, hex, hd⟩ := R.ob
  have few := R.few
  have sz := R.size
  refine Calls.call_function_entry kind_sorted plain_sorted entry_sorted (args_sorted1 _) (show wpAny _ _ (Builtin.«sorted» _) _ _ _ from ?_)
  unfold Builtin.«sorted»
  refine wpAny_bind (m := checkCount "sorted" 1 1 _) (wpAny_pure (wpAny_bind ?_))
  refine collect_set (A := A.in1) hh ⟨o, ho, hex.1, hd⟩ R.fits (by unfold scanBound; omega) R.tab.ris R.led fun s1 vs k1 hz g1 o1 pm => ?_
  have pm2 : vs.Perm (refs L) := by
    have e : es.toList.map (·.2) = refs L := by rw [R.rows]; unfold rowsOf refs; rw [List.map_map]; rfl
    exact e ▸ pm
  obtain ⟨L0, p0, e0⟩ := perm_pull (fun q : Addr × List Int => Value.ref q.1) pm2 L rfl
  have h64 : vs.length < 64 := by rw [pm2.length_eq]; unfold refs; rw [List.length_map]; exact few
  refine wpAny_bind (wpAny_newList ?_ (by rw [sizeLine_eq]; omega))
  obtain ⟨h1, eh⟩ : ∃ h1, h1 = s1.heap.push (seqObj "list" vs.toArray 0) := ⟨_, rfl⟩
  have hoL : h1.get? s1.heap.objs.size = some (seqObj "list" vs.toArray 0) := by rw [eh]; exact Heap.get?_push_size _ rfl
  have at0 : ∀ q ∈ L0, HdAt h1 (.ref q.1) q.2 [] := fun q hq => hdAt_tup (P := P) (w := w) (isT_keep (R.tup q (p0.mem_iff.mp hq)) fun b u e => by rw [eh]; exact Heap.get?_push_of_some _ (k1 b u e))
  have hl0 : ∀ q ∈ L0, q.2.length = m := fun q hq => hl q (p0.mem_iff.mp hq)
  have ok : HdsOk h1 m vs := by
    rw [e0]
    refine ⟨fun v hv => ?_, fun v hv u hu ns r r' ln a1 a2 => ?_⟩
    · obtain ⟨q, hq, rfl⟩ := List.mem_map.mp hv
      exact ⟨q.2, [], hl0 q hq, at0 q hq⟩
    · obtain ⟨q, hq, rfl⟩ := List.mem_map.mp hv
      obtain ⟨q', hq', rfl⟩ := List.mem_map.mp hu
      exact (a1.uniq (at0 q hq) (ln.trans (hl0 q hq).symm)).2.trans (a2.uniq (at0 q' hq') (ln.trans (hl0 q' hq').symm)).2.symm
  have hns : (s1.heap.push (seqObj "list" vs.toArray 0)) = h1 := eh.symm
  show wpAny _ _ _ _ _ { s1 with heap := s1.heap.push (seqObj "list" vs.toArray 0) }
  rw [hns]
  refine wpAny_bind (wpAny_holding (wpAny_call_entry slot_list_sort ⟨_, hoL, rfl⟩ entry_list_sort ?_ (args_list_sort _)))
  refine SrtO.list_sort_ord (s := { s1 with heap := h1 }) (ltV_swo h1 m) hoL (by rw [sizeLine_eq]; omega) (fun h2 => hds_sortable (s := { s1 with heap := h1 }) hm (by omega) ok fun b o e c => ⟨fun z => ?_, e⟩) fun out a1 a2 => ⟨_, rfl, ?_⟩
  · rw [z, hoL] at e
    cases e
    exact absurd (Value.type.inj (show Value.type "list" = Value.type "tuple" from c)) (by decide)
  · obtain ⟨c, hc⟩ := sortedHeap_at (vs := vs) (out := out.toArray) hoL
    have pO : out.Perm vs := by rw [stb_sort a1 a2]; exact List.mergeSort_perm _ _
    obtain ⟨L', p', e'⟩ := perm_pull (fun q : Addr × List Int => Value.ref q.1) pO L0 e0
    have pw : L'.Pairwise (fun q r => leL q.2 r.2 = true) := by
      have a3 : out.Pairwise (fun x y => leL (hdKey h1 m x) (hdKey h1 m y) = true) := a1.imp fun {x y} z => by
        have z' : lexL (hdKey h1 m y) (hdKey h1 m x) = false := z
        unfold leL
        rw [z']
        rfl
      rw [e'] at a3
      refine (List.pairwise_map.mp a3).imp_of_mem fun {q r} hq hr z => ?_
      have iq := p'.mem_iff.mp hq
      have ir := p'.mem_iff.mp hr
      rw [hdKey_eq (hl0 q iq) (at0 q iq), hdKey_eq (hl0 r ir) (at0 r ir)] at z
      exact z
    refine wpAny_pure ⟨_, rfl, hQ _ s1.heap.objs.size out.toArray c L' (fun b u e => ?_) g1 o1 hz hc (by simpa using e') (p'.trans p0) pw⟩
    have q := k1 b u e
    have lt := Heap.lt_size q
    show (sortedHeap h1 s1.heap.objs.size vs out.toArray).get? b = some u
    rw [sortedHeap_old (Nat.ne_of_lt lt) (by rw [eh, size_push']; exact Nat.lt_succ_of_lt lt), eh]
    exact Heap.get?_push_of_some _ q
end
def tSortSetT (K : PySem.W.Frag) (ta : TE) : TE := fun σ H Q => ta σ H fun x H1 => ∃ (l : Addr) (ks : List (Addr × List Int)) (m : Nat), x = V.ref l ∧ SqL K H1 l (ks.map fun p => V.ref p.1) ∧ (∀ p ∈ ks, SqT K H1 p.1 (p.2.map V.int)) ∧ ks.length < 64 ∧ 1 ≤ m ∧ (∀ p ∈ ks, p.2.length = m) ∧
  ∀ (L : List (Addr × List Int)) (p : Addr), (∀ q ∈ L, q ∈ ks) → (∀ q ∈ ks, q.2 ∈ L.map (·.2)) → L.Pairwise (fun q r => lexL q.2 r.2 = true) → H1 p = none → Q (.ref p) (upd H1 p (.lst (L.map fun q => V.ref q.1)))
section
variable {X : Cx} {a b c : Expr} {ta : TE}
theorem pe_sortSetT {p p2 q pos : Pos} (hc : X.calm = true) (hu : X.A.units + 64 < cLine) (hg : Gl X "sorted") (hm : X.mg "sorted" = none) (hg2 : Gl X "set") (hm2 : X.mg "set" = none) (ha : PE X a ta)
    (na : starEach [a] X.env = (false, eval a X.env) :: starEach [] X.env := by rfl) : PE X (.Call (.Name "sorted" p) [.Call (.Name "set" p2) [a] [] q] [] pos) (tSortSetT X.K ta) := by
  refine ⟨fun pins s σ H Q I h => ?_⟩
  refine Call_ (ld_blt I hg hm (by rfl) (PyProof.Rows.callWith_builtin1 (PyProof.Rows.args_cons ?_ rfl) rfl rfl))
  refine Call_ (ld_blt I hg2 hm2 PyProof.Rows.boot_set (PyProof.Rows.callWith_type1 (PyProof.Rows.args_cons (thn (ha.run pins s σ H _ I h) fun v s1 ⟨x, H1, I1, r1, q1⟩ => PyProof.Rows.args_nil ?_) na) na rfl))
  obtain ⟨l, ks, m, rfl, hq, hk, hf, hm1, hlen, q1⟩ := q1
  cases r1
  obtain ⟨its, r, pl, hz⟩ := I1.list hq
  refine call_set_tups (P := X.prog) (w := X.w) ks (I1.ok.hd hc) pl.isList (by simpa using refs_of_vals r) (fun p hp => I1.isT (hk p hp)) hf (by omega) fun h' tk L es ep t R g k => PyProof.Rows.args_nil ?_
  have I2 : Inv X pins σ H1 { s1 with heap := h', toks := tk } := I1.kept fun b o e => k b o e
  have R : SetTR X.prog X.w ({ s1 with heap := h', toks := tk } : Shared).heap s1.heap.objs.size L es ep t := R
  generalize ({ s1 with heap := h', toks := tk } : Shared) = s2 at *
  have sub : ∀ p ∈ L, p ∈ ks := fun p hp => List.mem_of_mem_take (g.sub p hp)
  refine sorted_setO R (I2.ok.hd hc) hm1 (fun p hp => hlen p (sub p hp)) fun s' p out c L' k g2 o hp hg hout pm pw => ?_
  have hn : H1 p = none := I2.hok.fresh hp
  have few := R.few
  have hl2 : (L'.map fun q => V.ref q.1).length ≤ sizeLine := by rw [List.length_map, pm.length_eq, sizeLine_eq]; omega
  have hv : Vals (L'.map fun q => V.ref q.1) out.toList := by rw [hout]; exact vals_of_refs L'
  have J : Inv X pins σ (upd H1 p (.lst (L'.map fun q => V.ref q.1))) { s2 with heap := s'.heap, gens := s'.gens, drawn := s'.drawn, toks := s'.toks } :=
    I2.call (ch := []) (Un.laid k hp hn) (I2.hok.laid k hp ⟨hl2, out.toList, c, hv, hg⟩) (by rw [g2]; exact I2.bare) (fun _ z => nomatch z)
  have e : s' = { s2 with heap := s'.heap, gens := s'.gens, drawn := s'.drawn, toks := s'.toks } := by
    cases s'; cases s2; cases o; rfl
  rw [e]
  have nd : (L'.map (·.2)).Nodup := (pm.map (·.2)).nodup_iff.mpr R.nd
  have pw2 : L'.Pairwise (fun q r => lexL q.2 r.2 = true) := by
    refine (pw.and (List.pairwise_map.mp nd)).imp fun {q r} ⟨z1, z2⟩ => ?_
    cases y : lexL q.2 r.2 with
    | true => rfl
    | false =>
      have z3 : lexL r.2 q.2 = false := by unfold leL at z1; simpa using z1
      exact absurd (lex_total _ _ y z3) z2
  refine ⟨.ref p, _, J, rfl, q1 L' p (fun q hq => sub q (pm.mem_iff.mp hq)) (fun q hq => ?_) pw2 hn⟩
  exact (pm.map (·.2)).mem_iff.mpr (g.all q (by rw [List.take_length]; exact hq))
end
def tupN (k : List Int) : PyData := .tuple (k.map PyData.int)
theorem tups_get {K : PySem.W.Frag} {H : Hp} : ∀ {ks : List (List Int)} {vs : List V}, DpAll K H vs (ks.map tupN) → ∃ ps : List (Addr × List Int), vs = ps.map (fun p => V.ref p.1) ∧ ps.map (·.2) = ks ∧ ∀ p ∈ ps, SqT K H p.1 (p.2.map V.int)
  | [], vs, h => by
    have h' : DpAll K H vs [] := h
    cases h'
    exact ⟨[], rfl, rfl, fun _ z => nomatch z⟩
  | k :: ks, vs, h => by
    have h' : DpAll K H vs (tupN k :: ks.map tupN) := h
    obtain ⟨v, vs2, rfl, a, b⟩ : ∃ v vs2, vs = v :: vs2 ∧ Dp K H v (.tuple (k.map PyData.int)) ∧ DpAll K H vs2 (ks.map tupN) := by
      cases h' with
      | cons a b => exact ⟨_, _, rfl, a, b⟩
    obtain ⟨ps, e1, e2, e3⟩ := tups_get b
    cases a with
    | @tup p us _ hq ha =>
      obtain ⟨ns, e4, e5⟩ := ints_get ha fun d hd => by obtain ⟨i, _, rfl⟩ := List.mem_map.mp hd; exact ⟨i, rfl⟩
      have e6 : k = ns := (List.map_inj_right (fun x y z => by cases z; rfl)).mp e5
      subst e6 e4
      refine ⟨(p, k) :: ps, by rw [e1]; rfl, by rw [← e2]; rfl, fun q hq2 => ?_⟩
      rcases List.mem_cons.mp hq2 with rfl | z
      · exact hq
      · exact e3 q z
theorem dps_tups {K : PySem.W.Frag} {H : Hp} : ∀ (L : List (Addr × List Int)), (∀ q ∈ L, SqT K H q.1 (q.2.map V.int)) → DpAll K H (L.map fun q => V.ref q.1) ((L.map (·.2)).map tupN)
  | [], _ => .nil
  | q :: L, h => .cons (.tup (h q List.mem_cons_self) (dps_ints q.2)) (dps_tups L fun r hr => h r (List.mem_cons_of_mem _ hr))
def fSortSetT (ta : DTE) : DTF := fun σ h Q => ta σ h fun x h1 => match asL h1 x with
  | some ds => ∃ (ks : List (List Int)) (m : Nat), ds = ks.map tupN ∧ ks.length < 64 ∧ 1 ≤ m ∧ (∀ k ∈ ks, k.length = m) ∧ ∀ ms : List (List Int), ms.Pairwise (fun a b => lexL a b = true) → (∀ k, k ∈ ms ↔ k ∈ ks) → Q (ms.map tupN) h1
  | none => False
section
variable {X : Cx} {Γ : GI} {a b c e : Expr} {pos p2 : Pos} {ta tb tc te : DTE} {tg : Expr}
theorem df_sortSetT {t : DTE} {p p2 q pos : Pos} (hc : X.calm = true) (hu : X.A.units + 64 < cLine) (hg : Gl X "sorted") (hm : X.mg "sorted" = none) (hg2 : Gl X "set") (hm2 : X.mg "set" = none) (ha : DE X Γ a t)
    (na : starEach [a] X.env = (false, eval a X.env) :: starEach [] X.env := by rfl) : DF X Γ (.Call (.Name "sorted" p) [.Call (.Name "set" p2) [a] [] q] [] pos) (fSortSetT t) :=
  ⟨fun σ h Q Q' k w => ha.mono _ _ _ _ (fun x h1 w1 => by
    split at w1
    · obtain ⟨ks, m, e, hl, h1, h2, w2⟩ := w1
      exact ⟨ks, m, e, hl, h1, h2, fun ms a b => k _ _ (w2 ms a b)⟩
    · exact w1) w, pe_imp (pe_sortSetT hc hu hg hm hg2 hm2 ha.pe na) fun σ H Q ⟨σd, h, rs, rm, w⟩ => lift_mk ha.mono rs rm w fun x h1 v H1 px rs1 rv rm1 w1 => by
      split at w1
      · rename_i ds e1
        obtain ⟨ks, m, e2, hl, hm1, hlen, w2⟩ := w1
        obtain ⟨b, vs, rfl, s1, d1⟩ := asL_ok rv rm1 e1
        subst e2
        obtain ⟨ps, rfl, rfl, sq⟩ := tups_get d1
        refine ⟨b, ps, m, rfl, s1, fun p hp => sqT_up fz_sub (sq p hp), by simpa using hl, hm1, fun p hp => hlen _ (List.mem_map.mpr ⟨p, hp, rfl⟩), fun L p sub all pw hn => ?_⟩
        refine w2 (L.map (·.2)) (List.pairwise_map.mpr pw) (fun k => ⟨fun hk => ?_, fun hk => ?_⟩) _ _ _ px (dps_tups L fun q hq => sq q (sub q hq)) rm1 hn
        · obtain ⟨q, hq, rfl⟩ := List.mem_map.mp hk
          exact List.mem_map.mpr ⟨q, sub q hq, rfl⟩
        · obtain ⟨q, hq, rfl⟩ := List.mem_map.mp hk
          exact all q hq
      · exact w1.elim⟩

theorem turn_rangeL {P : Program} {w : World} {K : PySem.W.Frag} {tg : Expr} (it : Addr) (lo c : Int) (n : Nat) : Turn P w K tg (Itc lo c n) [it] it (fun i h => IsLongIter h it (lo + (i : Nat) * c) ((n : Int) - (i : Nat)) c) where
  mem := List.mem_singleton.mpr rfl
  obj := fun i h st b hb => by
    obtain rfl := List.mem_singleton.mp hb
    exact ⟨_, st, fun v z => nomatch z⟩
  keep := fun i h h' st k => k it (List.mem_singleton.mpr rfl) _ st
  item := by
    intro X hP hw hK hc i pins s σ H E I hf st hg
    subst hP hw hK
    obtain ⟨f0, f1, f2, f3, f4, f5⟩ := hf it (List.mem_singleton.mpr rfl)
    refine (Walks.longrange (prog := X.prog) (w := X.w) (I.ok.hd hc) it lo c n).item i s _ _ hg st fun v h' tk hv st' kk => ?_
    obtain ⟨t, rfl⟩ := hv
    have I1 : Inv X pins σ H { s with heap := h', toks := tk } := I.turned (fun b o hb e => kk b o (by simpa using hb) e) f0 f1 f3 f4 f5
    exact ⟨_, rfl, go_of (s := { s with heap := h', toks := tk }) (n := "longrange_iterator") st' rfl rfl (by decide) ⟨.int (lo + (i : Nat) * c), H, I1, ⟨t, rfl⟩, ⟨rfl, rfl⟩, st', fun b hb => (hf b hb).1⟩⟩
  done := by
    intro X hP hw hK hc i pins s σ H E I hf st hg
    subst hP hw hK
    obtain ⟨f0, f1, f2, f3, f4, f5⟩ := hf it (List.mem_singleton.mpr rfl)
    have hg2 : n ≤ i := hg
    exact wpAny_pyNext_long_end (I.ok.hd hc) st (by omega) fun h' eb => ⟨rfl, I.turned (t' := s.toks) (fun b o hb e => eb b o hb e) f0 f1 f3 f4 f5⟩
  self := fun A i s Q E st h => wpAny_pyIter_longiter st h
def iRng3L (ta : TA) : TI := fun σ H R => ta σ H fun vs H1 => ∃ (i j c : Int) (n : Nat), vs = [.int i, .int j, .int c] ∧ c ≠ 0 ∧ c.natAbs.log2 < 9000 ∧ Builtin.Range.rangeSize i j c = n ∧ R (Itc i c n) H1
theorem pi_range3L {ta : TA} {p pos : Pos} (hg : Gl X "range") (hm : X.mg "range" = none) (ha : PA X [a, b, c] ta)
    (hs : starEach [a, b, c] X.env = (false, eval a X.env) :: starEach [b, c] X.env := by rfl) (hpl : (backTo pos (starEach [b, c] X.env)).any (·.1) = false := by rfl) :
    PI X tg (.Call (.Name "range" p) [a, b, c] [] pos) (iRng3L ta) := by
  refine ⟨fun pins s σ H R I h => Call_ (ld_blt I hg hm boot_range (PyProof.Rows.callWith_type1 (thn (ha.run pos pins s σ H _ I h) fun us s1 ⟨vs, H1, I1, r1, q1⟩ => ?_) hs hpl))⟩
  obtain ⟨i, j, k, n, rfl, c0, c1, c3, q⟩ := q1
  cases r1 with
  | cons r rr => cases rr with
    | cons r' rr => cases rr with
      | cons r'' rr =>
        cases rr
        obtain ⟨t, rfl⟩ := r
        obtain ⟨t', rfl⟩ := r'
        obtain ⟨t'', rfl⟩ := r''
        refine call_range_3 c0 ?_ (.inl (PyProof.noPylong_of_log2 c1))
        have I2 : Inv X pins σ H1 { s1 with heap := s1.heap.push { cls := .type "range", data := .fields #[.int i t, .int j t', .int k t''] } } := I1.kept (t' := s1.toks) fun b o e => Heap.get?_push_of_some _ e
        have e1 : i + ((0 : Nat) : Int) * k = i := by simp
        have e2 : (n : Int) - ((0 : Nat) : Int) = Builtin.Range.rangeSize i j k := by rw [c3]; simp
        cases sm : Builtin.Range.small i j k with
        | true =>
          refine wpAny_pyIter_range (IsRange.new ..) sm (pi_one (tk := s1.toks) I2 _ (turn_rangeC _ i k n) ?_ q)
          show IsRangeIter _ _ (i + ((0 : Nat) : Int) * k) ((n : Int) - ((0 : Nat) : Int)) k
          rw [e1, e2]
          exact Heap.get?_push_size _ rfl
        | false =>
          refine wpAny_pyIter_longrange (IsRange.new ..) sm (pi_one (tk := s1.toks) I2 _ (turn_rangeL _ i k n) ?_ q)
          show IsLongIter _ _ (i + ((0 : Nat) : Int) * k) ((n : Int) - ((0 : Nat) : Int)) k
          rw [e1, e2]
          exact Heap.get?_push_size _ rfl
def rgC (a c : Int) (n : Nat) : List PyData := (List.range n).map fun i => PyData.int (a + (i : Nat) * c)
theorem gives_rangeC {K : PySem.W.Frag} {F : Hp} {a c : Int} {n : Nat} : Gives K F (Itc a c n) (rgC a c n) := by
  have hl : (rgC a c n).length = n := by unfold rgC; rw [List.length_map, List.length_range]
  unfold Gives
  rw [hl]
  refine ⟨fun i H hi _ => hi, fun H _ => Nat.le_refl _, fun i H x H' hi s y => ⟨s, ?_⟩⟩
  obtain ⟨e, e2⟩ := y
  refine ⟨.int (a + (i : Nat) * c), ?_, .inl ⟨e, by rw [e2]; exact .int _⟩⟩
  unfold rgC
  rw [List.getElem?_map, List.getElem?_range hi]
  rfl
def wRg3 (ta tb tc : DTE) : DTI := fun σ h Q => ta σ h fun x h1 => tb σ h1 fun y h2 => tc σ h2 fun z h3 => match asInt x, asInt y, asInt z with
  | some a, some b, some c => c ≠ 0 ∧ c.natAbs.log2 < 9000 ∧ ∃ n : Nat, Builtin.Range.rangeSize a b c = n ∧ Q (rgC a c n) h3
  | _, _, _ => False
theorem rvs3 {K : PySem.W.Frag} {H : Hp} {h : MH} {x y z : SV} {vs : List V} (r : RVs K Γ H h [x, y, z] vs) : ∃ u v w, vs = [u, v, w] ∧ RV K Γ H h x u ∧ RV K Γ H h y v ∧ RV K Γ H h z w := by
  cases r with
  | cons a r => cases r with
    | cons b r => cases r with
      | cons c r => cases r; exact ⟨_, _, _, rfl, a, b, c⟩
theorem dw_rg3 {p : Pos} (hg : Gl X "range") (hm : X.mg "range" = none) (ha : DE X Γ a ta) (hb : DE X Γ b tb) (hc : DE X Γ c tc) (hs : starEach [a, b, c] X.env = (false, eval a X.env) :: starEach [b, c] X.env := by rfl) (hs2 : starEach [b, c] X.env = (false, eval b X.env) :: starEach [c] X.env := by rfl) (hs3 : starEach [c] X.env = [(false, eval c X.env)] := by rfl)
    (hpl : (backTo pos (starEach [b, c] X.env)).any (·.1) = false := by rfl) : DWk X Γ tg (.Call (.Name "range" p) [a, b, c] [] pos) (wRg3 ta tb tc) :=
  ⟨fun σ h Q Q' k w => ha.mono _ _ _ _ (fun x h1 w1 => hb.mono _ _ _ _ (fun y h2 w2 => hc.mono _ _ _ _ (fun z h3 w3 => by
    split at w3
    · obtain ⟨q1, q2, n, q3, q4⟩ := w3
      exact ⟨q1, q2, n, q3, k _ _ q4⟩
    · exact w3) w2) w1) w, pi_imp (pi_range3L hg hm (da_cons ha (da_cons hb (da_cons hc da_nil hs3) hs2) hs).pa hs hpl) fun σ H R ⟨σd, h, rs, rm, w⟩ => lift_mk (mono_cons ha.mono (mono_cons hb.mono (mono_cons hc.mono fun _ _ _ _ k w => k _ _ w))) rs rm (C := fun xs h3 => ∃ x y z, xs = [x, y, z] ∧ match asInt x, asInt y, asInt z with
      | some a, some b, some c => c ≠ 0 ∧ c.natAbs.log2 < 9000 ∧ ∃ n : Nat, Builtin.Range.rangeSize a b c = n ∧ ∀ J H', PX Γ H h H' h3 → RM X.K Γ H' h3 → Gives X.K (Fz Γ H' h3) J (rgC a c n) → R J H'
      | _, _, _ => False) (ha.mono _ _ _ _ (fun x h1 w1 => hb.mono _ _ _ _ (fun y h2 w2 => hc.mono _ _ _ _ (fun z h3 w3 => ⟨x, y, z, rfl, w3⟩) w2) w1) w) fun xs h1 vs H1 px rs1 rvs rm1 w1 => by
      obtain ⟨x, y, z, rfl, w1⟩ := w1
      obtain ⟨u, v, w, rfl, ru, rv, rw⟩ := rvs3 rvs
      split at w1
      · rename_i i j k e1 e2 e3
        obtain ⟨q1, q2, n, q3, q4⟩ := w1
        exact ⟨i, j, k, n, by rw [asInt_ok ru e1, asInt_ok rv e2, asInt_ok rw e3], q1, q2, q3, q4 _ H1 px rm1 gives_rangeC⟩
      · exact w1.elim⟩
end
end DL

namespace DL
open PySem PySem.Spec PyProof.Rows L2 HT
set_option autoImplicit true

section
variable {prog : Program} {w : World} {A : Around} {E : Value → Shared → Prop} {s : Shared}
end
section
variable {X : Cx} {Γ : GI} {a b c e : Expr} {pos p2 : Pos} {ta tb tc te : DTE} {tg : Expr}
def dRevA (te : DTE) : DTE := fun σ h Q => te σ h fun x h1 => match asL h1 x with
  | some xs => Q (.d (.list xs.reverse)) h1
  | none => match asT x with
    | some xs => Q (.d (.tuple xs.reverse)) h1
    | none => False
theorem e_revA {σ : DSt} {h : MH} {Q : DK} {t : DTE} (k : t σ h fun x h1 => match asL h1 x with
  | some xs => Q (.d (.list xs.reverse)) h1
  | none => match asT x with
    | some xs => Q (.d (.tuple xs.reverse)) h1
    | none => False) : dRevA t σ h Q := k
end
end DL

namespace DL
open PySem PySem.Spec PyProof.Rows L2
set_option autoImplicit true

abbrev DSpE := Addr → DExc → MH → DK → Prop
def MonoE (W : DSpE) : Prop := ∀ a y h (Q Q' : DK), (∀ x h', Q x h' → Q' x h') → W a y h Q → W a y h Q'
def liftSpE (K : PySem.W.Frag) (T : List (Addr × Str)) (W : DSpE) (a : Addr) (y : DExc) (d : Option Addr) (H : Hp) (Q : VK) : Prop := ∃ (xs : List Addr) (h : MH), RX K (G0 xs T) H h y (.ref (He.ga K y.cls)) d ∧ RM K (G0 xs T) H h ∧
  W a y h fun r h' => ∀ v H', PXx xs H h H' h' → RV K (G0 xs T) H' h' r v → RM K (G0 xs T) H' h' → Q v H'
structure FnE (P : Program) (w : World) (K : PySem.W.Frag) (mg : Str → Option Value) (base : Heap) (T : List (Addr × Str)) (k : Nat) (f : Addr) (fd : FuncData) (p : Str) (W : DSpE) : Prop where
  mono : MonoE W
  run : ∀ (A : Around) (outer : List Env) (s : Shared) (H : Hp) (args : Args) (a : Addr) (oe : Obj) (y : DExc) (d : Option Addr) (Q : VK), L2H.RoomH k A → A.guards = some [] → Zc (.ref (He.ga K y.cls)) d oe → (∃ vs, oe.data = .fields vs) → L2H.PinOk outer H s (a, oe) →
    Env0 P w K mg base (A.mark (some (.ref a))) outer s H → BindsTo s fd args [(p, .ref a)] → liftSpE K T W a y d H Q → codeAny (model P w) (A.mark (some (.ref a))) (.call (.ref f) args) (CR (L2.CX P w) outer P w H s Q fun _ _ _ => False) s
theorem FnE.up {P : Program} {w : World} {K : PySem.W.Frag} {mg : Str → Option Value} {base : Heap} {T : List (Addr × Str)} {j k : Nat} {f : Addr} {fd : FuncData} {p : Str} {W : DSpE} (F : FnE P w K mg base T j f fd p W) (h : j ≤ k) : FnE P w K mg base T k f fd p W :=
  ⟨F.mono, fun A outer s H args a oe y d Q hr => F.run A outer s H args a oe y d Q (hr.mono h)⟩
section
variable {P : Program} {w : World} {K : PySem.W.Frag} {mg : Str → Option Value} {base : Heap}
end
def FnEC (P : Program) (w : World) (K : PySem.W.Frag) (mg : Str → Option Value) (base : Heap) (T : List (Addr × Str)) (k : Nat) (x : Str) (p : Str) (W : DSpE) : Prop :=
  ∃ f fd, FnE P w K mg base T k f fd p W ∧ PySem.W.keepIn K (.ref f) = true ∧ Binds K fd [p] [] ∧ mg x = some (.ref f)
theorem FnEC.up {P : Program} {w : World} {K : PySem.W.Frag} {mg : Str → Option Value} {base : Heap} {T : List (Addr × Str)} {j k : Nat} {x : Str} {p : Str} {W : DSpE} (F : FnEC P w K mg base T j x p W) (h : j ≤ k) : FnEC P w K mg base T k x p W := by
  obtain ⟨f, fd, a, b⟩ := F
  exact ⟨f, fd, a.up h, b⟩
section
variable {X : Cx} {Γ1 : GI} {a : Addr} {oe : Obj} {y : DExc} {d : Option Addr} {pn : List (Addr × Obj)} {x n pp : Str} {pos p p1 : Pos} {T : List (Addr × Str)} {k : Nat} {W : DSpE}
end
end DL

namespace DL
open PySem PySem.Spec PyProof.Rows L2
set_option autoImplicit true

def dcL (g : Tg) (tt : DTT) (tk tv : DTE) (σ : DSt) (p : Addr) : List PyData → MH → (MH → Prop) → Prop
  | [], h, Q => Q h
  | d :: r, h, Q => match bindT g (.d d) σ with
    | some σ1 => tt σ1 h fun b h1 => if b = true then tk σ1 h1 fun x h2 => tv σ1 h2 fun y h3 => match asKey x, asDc h3 (.own p) with
        | some k, some q => q.2.length < sizeLine ∧ dcL g tt tk tv σ p r (mput h3 p (.dct (putS q.2 k y))) Q
        | _, _ => False
      else dcL g tt tk tv σ p r h1 Q
    | none => False
def dDc (w : DTI) (g : Tg) (tt : DTT) (tk tv : DTE) (vs : List Nat) : DTE := fun σ h Q => w σ h fun ds h1 => ∀ p, h1 p = none → dcL g tt tk tv (wipeD σ vs) p ds (mput h1 p (.dct [])) fun h2 => Q (.own p) h2
section
variable {X : Cx} {tg : Expr} {pos : Pos}
end
section
variable {σ : DSt} {h : MH} {Q : DK} {p : Addr}
theorem e_dc {w : DTI} {g : Tg} {tt : DTT} {tk tv : DTE} {vs : List Nat} (k : w σ h fun ds h1 => ∀ p, h1 p = none → dcL g tt tk tv (wipeD σ vs) p ds (mput h1 p (.dct [])) fun h2 => Q (.own p) h2) : dDc w g tt tk tv vs σ h Q := k
end
def dTupRg1 (ta : DTE) : DTE := fun σ h Q => ta σ h fun x h1 => match asInt x with
  | some n => n ≤ 16777216 ∧ -16777216 ≤ n ∧ Q (.d (.tuple (rgD 0 n))) h1
  | none => False
section
variable {X : Cx} {a : Expr} {pos : Pos} {ta : DTE}
end
def tupRgK (Q : DK) : DK := fun x h1 => match asInt x with
  | some n => n ≤ 16777216 ∧ -16777216 ≤ n ∧ Q (.d (.tuple (rgD 0 n))) h1
  | none => False
theorem e_tupRg {ta : DTE} {σ : DSt} {h : MH} {Q : DK} (k : ta σ h (tupRgK Q)) : dTupRg1 ta σ h Q := k
end DL

namespace DL
open PySem PySem.Spec PyProof.Rows L2
set_option autoImplicit true

section
variable {X : Cx} {a : Expr} {ta : TE}
def fSortSetQ (ta : DTE) : DTF := fun σ h Q => ta σ h fun x h1 => match x with
  | .d (.tuple ds) => ∃ ns : List Int, ds = ns.map PyData.int ∧ ns.length < 64 ∧ ∀ ms : List Int, ms.Pairwise (· < ·) → (∀ k : Int, k ∈ ms ↔ k ∈ ns) → Q (ms.map PyData.int) h1
  | _ => False
end
def sortSetQK (QL : List PyData → MH → Prop) : DK := fun x h1 => match x with
  | .d (.tuple ds) => ∃ ns : List Int, ds = ns.map PyData.int ∧ ns.length < 64 ∧ ∀ ms : List Int, ms.Pairwise (· < ·) → (∀ k : Int, k ∈ ms ↔ k ∈ ns) → QL (ms.map PyData.int) h1
  | _ => False
theorem e_sortSetQ {ta : DTE} {σ : DSt} {h : MH} {QL : List PyData → MH → Prop} (k : ta σ h (sortSetQK QL)) : fSortSetQ ta σ h QL := k
end DL

namespace DL
open PySem PySem.Spec PyProof.Rows L2
set_option autoImplicit true

def asQd (h : MH) : SV → Option (Addr × List (List Int × PyData))
  | .own p => match h p with
    | some (.dcT a ps) => if a = p then some (p, ps) else none
    | _ => none
  | _ => none
def lookQ (ps : List (List Int × PyData)) (k : List Int) : Option PyData := (ps.find? fun x => decide (x.1 = k)).map (·.2)
def setQd (ps : List (List Int × PyData)) (k : List Int) (d : PyData) : List (List Int × PyData) := if (lookQ ps k).isSome = true then ps.map (fun x => if x.1 = k then (x.1, d) else x) else ps ++ [(k, d)]
theorem asQd_ok {h : MH} {x : SV} {p : Addr × List (List Int × PyData)} (e : asQd h x = some p) : x = .own p.1 ∧ h p.1 = some (.dcT p.1 p.2) := by
  cases x with
  | d x => cases e
  | own a =>
    unfold asQd at e
    dsimp only at e
    cases q : h a with
    | none => rw [q] at e; cases e
    | some m =>
      rw [q] at e
      cases m with
      | dcT b ps =>
        dsimp only at e
        by_cases z : b = a
        · rw [if_pos z] at e; cases e; subst z; exact ⟨rfl, q⟩
        · rw [if_neg z] at e; cases e
      | _ => cases e
theorem asQd_own {h : MH} {a : Addr} {ps : List (List Int × PyData)} (e : h a = some (.dcT a ps)) : asQd h (.own a) = some (a, ps) := by
  unfold asQd
  dsimp only
  rw [e]
  exact if_pos rfl
section
variable {K : PySem.W.Frag} {H : Hp} {h : MH} {x : SV} {v : V}
theorem dq_at {p : Addr × List (List Int × PyData)} (rm : RM K Γ H h) (rv : RV K Γ H h x v) (e : asQd h x = some p) :
    v = .ref p.1 ∧ h p.1 = some (.dcT p.1 p.2) ∧ ∃ L, H p.1 = some (TD p.1 L) ∧ Paired (RQF K (Fz Γ H h)) p.2 L := by
  obtain ⟨ex, ea⟩ := asQd_ok e
  subst ex
  obtain ⟨u, f1, f2⟩ := ro_at (rm.ob _ _ ea)
  cases u <;> first | exact f2.elim | skip
  obtain ⟨L, e1, e2⟩ := f2
  subst e1
  exact ⟨rv, ea, L, f1, e2⟩
theorem rq_keys {F : Hp} {ps : List (List Int × PyData)} {L : List QRow} (s : Sub F H) (r : Paired (RQF K F) ps L) : ∀ p ∈ L, SqT K H p.2.1 (p.1.map V.int) := by
  induction r with
  | nil => exact fun p hp => nomatch hp
  | cons h t ih =>
    intro p hp
    rcases List.mem_cons.mp hp with e | hp
    · subst e; exact sqT_up s h.2.1
    · exact ih p hp
theorem rq_val {F : Hp} {ps : List (List Int × PyData)} {L : List QRow} (r : Paired (RQF K F) ps L) (k : List Int) : (valQ L k).isSome = (lookQ ps k).isSome ∧ ∀ d, lookQ ps k = some d → ∃ v, valQ L k = some v ∧ Dp K F v d := by
  unfold valQ lookQ
  induction r with
  | nil => exact ⟨rfl, fun d e => by cases e⟩
  | @cons p q ps qs h t ih =>
    rw [List.find?_cons, List.find?_cons, ← h.1]
    by_cases e : p.1 = k
    · rw [decide_eq_true e]
      exact ⟨rfl, fun d z => by cases z; exact ⟨_, rfl, h.2.2⟩⟩
    · rw [decide_eq_false e]
      exact ih
theorem rq_put {F : Hp} {ps : List (List Int × PyData)} {L : List QRow} (r : Paired (RQF K F) ps L) {k : List Int} {b : Addr} {v : V} {d : PyData} (hb : SqT K F b (k.map V.int)) (hv : Dp K F v d) : Paired (RQF K F) (setQd ps k d) (putQ L k b v) := by
  have e := (rq_val r k).1
  unfold setQd putQ
  rw [e]
  by_cases q : (lookQ ps k).isSome = true
  · rw [if_pos q, if_pos q]
    clear e q
    induction r with
    | nil => exact .nil
    | @cons p q ps qs h t ih =>
      rw [List.map_cons, List.map_cons]
      refine .cons ?_ ih
      rw [← h.1]
      by_cases e : p.1 = k
      · rw [if_pos e, if_pos e]
        exact ⟨rfl, h.1 ▸ h.2.1, hv⟩
      · rw [if_neg e, if_neg e]; exact ⟨h.1, h.2.1, h.2.2⟩
  · rw [if_neg q, if_neg q]
    exact Paired.snoc r ⟨rfl, hb, hv⟩
end
theorem tupI_okF {K : PySem.W.Frag} {H : Hp} {h : MH} {x : SV} {v : V} {ns : List Int} (r : RV K Γ H h x v) (e : tupI x = some ns) : ∃ a, v = .ref a ∧ SqT K (Fz Γ H h) a (ns.map V.int) := by
  cases x with
  | own _ => cases e
  | d x =>
    cases x with
    | tuple ds =>
      have r' : Dp K (Fz Γ H h) v (.tuple ds) := r
      have e' : intsD ds = some ns := e
      cases r' with
      | @tup a vs _ s1 dd => exact ⟨a, rfl, by rw [← intsD_ok dd e']; exact s1⟩
    | _ => cases e
def rInQ (K : PySem.W.Frag) : R2 := fun x y H Q => ∃ (a b : Addr) (L : List QRow) (k : List Int), x = .ref b ∧ y = .ref a ∧ H a = some (TD a L) ∧ (∀ p ∈ L, SqT K H p.2.1 (p.1.map V.int)) ∧ SqT K H b (k.map V.int) ∧ Q (.bl (valQ L k).isSome) H
section
variable {X : Cx}
theorem op_inQ (hu : X.A.units + 1 < cLine) : OpR X (compareOp .In) (rInQ X.K) := by
  intro pins s σ H x y v u Q I rx ry ⟨a, b, L, k, e1, e2, f1, f2, f3, q⟩
  subst e1 e2
  obtain rfl : v = Value.ref b := rx
  have eu1 : u = Value.ref a := ry
  subst eu1
  exact inQ hu I f1 f2 f3 fun s3 I3 => ⟨.bl _, H, I3, rfl, q⟩
end
def rdInQ : DR2 := fun x y h Q => match tupI x, asQd h y with
  | some k, some p => Q (.d (.bool (lookQ p.2 k).isSome)) h
  | _, _ => False
section
variable {K : PySem.W.Frag}
theorem lr_inQ : LR2 K Γ rdInQ (rInQ K) := by
  refine ⟨fun x y h Q Q' k w => ?_, fun x y v u H h C' Q rv ru rm w k => ?_⟩
  · unfold rdInQ at w ⊢
    split at w
    · exact k _ _ w
    · exact w
  · unfold rdInQ at w
    split at w
    · rename_i ks p e1 e2
      obtain ⟨b, eb, sb⟩ := tupI_ok rv e1
      obtain ⟨ev, _, L, f1, f2⟩ := dq_at rm ru e2
      exact ⟨p.1, b, L, ks, eb, ev, f1, rq_keys fz_sub f2, sb, by rw [(rq_val f2 ks).1]; exact k _ _ _ H PX.refl rv_bl rm w⟩
    · exact w.elim
end
section
variable {X : Cx} {o e : Expr} {apos cpos pos : Pos} {td ty : TE} {to ti : DTE}
end

section
variable {X : Cx} {o i value : Expr} {pos pos' : Pos} {td ty tv : TE} {to ti te : DTE}
end

section
variable {h : MH} {Q : DK} {a : Addr} {ps : List (List Int × PyData)} {σ : DSt}
theorem r_inQ {x : SV} {k : List Int} (e : h a = some (.dcT a ps)) (e2 : tupI x = some k) (k' : Q (.d (.bool (lookQ ps k).isSome)) h) : rdInQ x (.own a) h Q := by
  unfold rdInQ
  rw [e2, asQd_own e]
  exact k'
end
end DL

namespace DL
open PySem PySem.Spec PyProof.Rows L2
set_option autoImplicit true

def allQ (ks : List (Addr × List Int)) : List QRow := ks.foldl (fun L p => putQ L p.2 p.1 (.bl true)) []
theorem allQ_snoc {ks : List (Addr × List Int)} {p : Addr × List Int} : allQ (ks ++ [p]) = putQ (allQ ks) p.2 p.1 (.bl true) := by
  unfold allQ
  rw [List.foldl_append]
  rfl
theorem putQ_len {L : List QRow} {k : List Int} {b : Addr} {v : V} : (putQ L k b v).length ≤ L.length + 1 := by
  unfold putQ
  split
  · rw [List.length_map]; omega
  · rw [List.length_append]; exact Nat.le_refl _
theorem putQ_key {L : List QRow} {k : List Int} {b : Addr} {v : V} {x : QRow} (h : x ∈ putQ L k b v) : (x.1 = k ∧ x.2.1 = b) ∨ ∃ y ∈ L, x.1 = y.1 ∧ x.2.1 = y.2.1 := by
  unfold putQ at h
  split at h
  · obtain ⟨y, hy, e⟩ := List.mem_map.mp h
    refine .inr ⟨y, hy, ?_⟩
    subst e
    split <;> exact ⟨rfl, rfl⟩
  · rcases List.mem_append.mp h with h | h
    · exact .inr ⟨x, h, rfl, rfl⟩
    · obtain rfl := List.mem_singleton.mp h
      exact .inl ⟨rfl, rfl⟩
theorem foldQ_len : ∀ (ks : List (Addr × List Int)) (L : List QRow), (ks.foldl (fun L p => putQ L p.2 p.1 (.bl true)) L).length ≤ L.length + ks.length
  | [], L => Nat.le_refl _
  | p :: ks, L => by
    have h1 := foldQ_len ks (putQ L p.2 p.1 (.bl true))
    have h2 : (putQ L p.2 p.1 (.bl true)).length ≤ L.length + 1 := putQ_len
    show (ks.foldl _ (putQ L p.2 p.1 (.bl true))).length ≤ _
    rw [List.length_cons]
    omega
theorem allQ_len (ks : List (Addr × List Int)) : (allQ ks).length ≤ ks.length := by
  have h := foldQ_len ks []
  rw [List.length_nil, Nat.zero_add] at h
  exact h
theorem foldQ_key : ∀ (ks : List (Addr × List Int)) (L : List QRow) (x : QRow), x ∈ ks.foldl (fun L p => putQ L p.2 p.1 (.bl true)) L → (∃ p ∈ ks, x.1 = p.2 ∧ x.2.1 = p.1) ∨ ∃ y ∈ L, x.1 = y.1 ∧ x.2.1 = y.2.1
  | [], L, x, h => .inr ⟨x, h, rfl, rfl⟩
  | p :: ks, L, x, h => by
    rcases foldQ_key ks _ x h with ⟨q, hq, e⟩ | ⟨y, hy, e1, e2⟩
    · exact .inl ⟨q, List.mem_cons_of_mem _ hq, e⟩
    · rcases putQ_key hy with ⟨f1, f2⟩ | ⟨z, hz, f1, f2⟩
      · exact .inl ⟨p, List.mem_cons_self, e1.trans f1, e2.trans f2⟩
      · exact .inr ⟨z, hz, e1.trans f1, e2.trans f2⟩
theorem allQ_key {ks : List (Addr × List Int)} {x : QRow} (h : x ∈ allQ ks) : ∃ p ∈ ks, x.1 = p.2 ∧ x.2.1 = p.1 := by
  rcases foldQ_key ks [] x h with h | ⟨_, hy, _⟩
  · exact h
  · cases hy
def tDcQ (K : PySem.W.Frag) (ti : TE) : TE := fun σ H Q => ti σ H fun x H1 => ∃ (a : Addr) (ks : List (Addr × List Int)), x = .ref a ∧ SqT K H1 a (ks.map fun p => V.ref p.1) ∧ (∀ p ∈ ks, SqT K H1 p.1 (p.2.map V.int)) ∧ ks.length < sizeLine ∧
  ∀ D, H1 D = none → Q (.ref D) (upd H1 D (TD D (allQ ks)))
section
variable {X : Cx} {pins : List (Addr × Obj)}
theorem stays_fp {σ : L2.St} {H : Hp} {s : Shared} {h' : Heap} {t' : Nat} {b : Addr} (I : Inv X pins σ H s) (f : FpOk X pins H b) (k : ∀ c o, c ≠ b → s.heap.get? c = some o → h'.get? c = some o) : Inv X pins σ H { s with heap := h', toks := t' } := by
  obtain ⟨f0, f1, _, f3, f4, f5⟩ := f
  exact I.turned k f0 f1 f3 f4 f5
theorem fp_upd {H : Hp} {b D : Addr} {o : HO} (f : FpOk X pins H b) (ne : b ≠ D) : FpOk X pins (upd H D o) b := ⟨by rw [upd_ne ne]; exact f.1, f.2⟩
theorem dcq_core {s : Shared} {σ : L2.St} {H : Hp} {Q : VK} {y : Str} {kp tp vp : Pos} {kk : Nat} {iter : Expr} {scope : Scope} {pos pos' : Pos} {ti : TE} {use : Option (Value → Sem Unit)} {Qf : Value → Shared → Prop} (hu : X.A.units + 1 < cLine) (hc : X.calm = true)
    (hk : scope.kind = .function) (hn : ∀ z ∈ scope.names, z.2 = .local → scope.names.lookup z.1 = some .local) (hcf : ∀ z ∈ scope.names, z.2 ≠ .cell ∧ z.2 ≠ .free) (hy : scope.names.lookup y = some .local) (hdb : (y == ("__debug__" : Str)) = false) (hs : ∀ x, foldedSetIterable iter X.env x = pure x)
    (I : Inv X pins σ H s) (hi : PE X iter ti) (h : tDcQ X.K ti σ H Q)
    (fin : ∀ C D s' m H' cl, Inv X pins σ H' s' → Q (.ref D) H' → s'.heap.Ns C m → FpOk X pins H' C → compEnds (model X.prog X.w) X.A X.xe use Qf (.ref D) (compEnvC scope cl C X.env) (.ok .next) s') :
    wpAny (model X.prog X.w) X.A (comprehension (.DictComp (.Name y kp) (.Constant (.bool true) kk vp) [⟨.Name y tp, iter, [], 0⟩] scope pos) scope X.env pos' newDict false (eval iter X.env) use) Qf X.xe s := by
  refine comprehension_at (use := use) rfl hs (closure_ok fun z hz e => absurd e (hcf z hz).2) hk hn ?_
  refine thn (hi.run pins s σ H _ I h) fun xv s1 ⟨x, H1, I1, rx, a, ks, ex, st, sk, hl, q⟩ => ?_
  subst ex
  have exv : xv = Value.ref a := rx
  subst exv
  obtain ⟨its, rv, pl, hz⟩ := I1.tuple st
  have ei : its = ks.map fun p => Value.ref p.1 := refs_of_vals rv
  have hlen : its.toArray.size = ks.length := by rw [ei, List.size_toArray, List.length_map]
  have pl2 : s1.heap.IsTuple a its.toArray := pl
  have hat : a < s1.heap.objs.size := by obtain ⟨o, e, _⟩ := pl2; exact Heap.lt_size e
  have nIt : H1 s1.heap.objs.size = none := I1.hok.fresh (Nat.le_refl _)
  refine wpAny_pyIter_tuple pl2 (compBlock_dict (fun z hz => (hcf z hz).1) hk ?_)
  have W := Goes.tuple (prog := X.prog) (w := X.w) (A := X.A) (target := Expr.Name y tp) (I1.ok.hd hc) s1.heap.objs.size a (Nat.ne_of_lt hat) its.toArray
  refine ⟨_, _, _, _, _, _, rfl, W, ⟨⟨_, Heap.get?_push_size _ rfl, rfl, rfl⟩, pl2.push _⟩, fun D C s3 cb hD => ?_⟩
  obtain ⟨⟨h3, t3, e3⟩, old, nD, nC, ne, ns⟩ := cb
  subst e3
  dsimp only at old nD nC
  rw [Heap.size_push] at nD nC
  have lD : s1.heap.objs.size < D := nD
  have lC : s1.heap.objs.size < C := nC
  have hDn : H1 D = none := I1.hok.fresh (Nat.le_of_lt lD)
  have hCn : H1 C = none := I1.hok.fresh (Nat.le_of_lt lC)
  have fI : FpOk X pins H1 s1.heap.objs.size := I1.fpOk (Nat.le_refl _) nIt
  have fC : FpOk X pins H1 C := I1.fpOk (Nat.le_of_lt lC) hCn
  have hsys : (D == sysModules) = false := beq_eq_false_iff_ne.mpr (Nat.ne_of_gt (Nat.lt_trans I1.big lD))
  have I3 : Inv X pins σ (upd H1 D (TD D (allQ []))) { s1 with heap := h3, toks := t3 } := by
    refine I1.laid (fun b u e => old b u (Heap.get?_push_of_some _ e)) (Nat.le_of_lt lD) ?_
    exact td_new (Nat.zero_le _) hsys .nil List.nodup_nil ⟨_, #[], _, hD, ⟨rfl, rfl, rfl⟩, rfl, rfl⟩
  refine ⟨fun i s' => ∃ m, Inv X pins σ (upd H1 D (TD D (allQ (ks.take i)))) s' ∧ s'.heap.Ns C m, ⟨_, I3, ns⟩, ?_, ?_, ?_⟩
  · rintro i s5 h' tk ⟨m, J, n5⟩ k _
    have k2 : ∀ c o, c ≠ s1.heap.objs.size → s5.heap.get? c = some o → h'.get? c = some o := fun c o hc' e => k c o (fun z => hc' (List.mem_singleton.mp z)) e
    refine ⟨m, stays_fp J (fp_upd fI (Nat.ne_of_lt lD)) k2, ?_⟩
    obtain ⟨o, es, ep, ho, r⟩ := n5
    exact ⟨o, es, ep, k2 _ o (Nat.ne_of_gt lC) ho, r⟩
  · rintro i v s5 hi5 yv st5 ⟨m, J, n5⟩
    rw [hlen] at hi5
    have ep : its.toArray[i]? = some (.ref (ks[i]'hi5).1) := by
      rw [List.getElem?_toArray, ei, List.getElem?_map, List.getElem?_eq_getElem hi5]
      rfl
    have ev : v = .ref (ks[i]'hi5).1 := Option.some.inj (yv.symm.trans ep)
    subst ev
    generalize ep0 : ks[i]'hi5 = p
    have hp : p ∈ ks := ep0 ▸ List.getElem_mem hi5
    have htk : ks.take (i + 1) = ks.take i ++ [p] := by rw [← ep0, List.take_succ_eq_append_getElem hi5]
    have hloc : (compEnvC scope (cloFrom X.env.cells scope.names []) C X.env).kindOf y = some .local := lookup_relabel_local hy
    refine wpAny_assign_Name (wpAny_storeName_local hloc n5 (fun h6 n6 sb6 => ?_) (by simp [compEnvC, relabel, hk]))
    have J6 : Inv X pins σ (upd H1 D (TD D (allQ (ks.take i)))) { s5 with heap := h6, toks := s5.toks + 1 } := stays_fp J (fp_upd fC (Ne.symm ne)) fun c o hc' e => (sb6.2 c hc').trans e
    refine wpAny_pure ?_
    rw [if_pos rfl]
    refine wpAny_Name (wpAny_loadName_local (by simp [compEnvC, relabel, hk]) hloc n6 (if_pos rfl) ?_) hdb
    refine wpAny_Constant_bool ?_
    have up : ∀ {b : Addr} {xs : List V}, SqT X.K H1 b xs → SqT X.K (upd H1 D (TD D (allQ (ks.take i)))) b xs := fun {b xs} z => sqT_up (fun c o e => by rw [upd_ne (fun w => by rw [w, hDn] at e; cases e)]; exact e) z
    have hkeys : ∀ x ∈ allQ (ks.take i), SqT X.K (upd H1 D (TD D (allQ (ks.take i)))) x.2.1 (x.1.map V.int) := fun x hx => by
      obtain ⟨r, hr, e1, e2⟩ := allQ_key hx
      rw [e1, e2]
      exact up (sk r (List.mem_of_mem_take hr))
    obtain ⟨z, hd, xs, rel, dd⟩ := td_of J6 upd_same hkeys
    have hz2 : xs.length ≤ sizeLine := by rw [← Paired.length rel]; exact z
    refine wpAny_dictSet_heap (knd := tupleKind (intKind X.prog X.w)) (k := p.2) (hsz := hz2) (show X.A.units < cLine by omega) (J6.isT (up (sk p hp))) dd fun h7 dd7 sb7 => ?_
    obtain ⟨qo, es, ep7, hq, g2, g3, g4, _, g5⟩ := dd7
    have hl7 : (putQ (allQ (ks.take i)) p.2 p.1 (.bl true)).length ≤ sizeLine := by
      have h1 : (putQ (allQ (ks.take i)) p.2 p.1 (.bl true)).length ≤ (allQ (ks.take i)).length + 1 := putQ_len
      have h2 := allQ_len (ks.take i)
      rw [List.length_take] at h2
      omega
    have J7 := d_write (t' := s5.toks + 1 + (tupleKind (intKind X.prog X.w)).draws p.2) J6 (by rw [upd_same]; exact True.intro) sb7 ⟨qo, hq⟩ (td_new hl7 hd (qt_put (v := .bl true) rel rfl) g5 ⟨qo, es, ep7, hq, g2, g3, g4⟩)
    rw [upd_upd, ← allQ_snoc, ← htk] at J7
    refine ⟨⟨_, J7, n6.sameBut sb7 (Ne.symm ne)⟩, W.frame (i + 1) _ _ st5 fun b hb o e => ?_⟩
    have hb2 : b < C ∧ b < D := by
      rcases List.mem_cons.mp hb with r | r
      · rw [r]; exact ⟨lC, lD⟩
      · rw [List.mem_singleton.mp r]; exact ⟨Nat.lt_trans hat lC, Nat.lt_trans hat lD⟩
    exact (sb7.2 b (Nat.ne_of_lt hb2.2)).trans ((sb6.2 b (Nat.ne_of_lt hb2.1)).trans e)
  · rintro s5 ⟨m, J, n5⟩
    rw [hlen, List.take_length] at J
    exact fin C D s5 m _ _ J (q D hDn) n5 (fp_upd fC (Ne.symm ne))
theorem ps_dcQ {i : Nat} {z y : Str} {pz kp tp vp : Pos} {kk : Nat} {iter : Expr} {scope : Scope} {pos spos : Pos} {ti : TE} (hu : X.A.units + 1 < cLine) (hc : X.calm = true) (hN : X.N.Nodup) (hk : scope.kind = .function) (hn : ∀ z ∈ scope.names, z.2 = .local → scope.names.lookup z.1 = some .local)
    (hcf : ∀ z ∈ scope.names, z.2 ≠ .cell ∧ z.2 ≠ .free) (hy : scope.names.lookup y = some .local) (hdb : (y == ("__debug__" : Str)) = false) (hs : ∀ x, foldedSetIterable iter X.env x = pure x) (hi : PE X iter ti)
    (hz : X.N[i]? = some z) (hzl : X.env.scope.names.lookup z = some .local) (hsw : swapsWith (.DictComp (.Name y kp) (.Constant (.bool true) kk vp) [⟨.Name y tp, iter, [], 0⟩] scope pos) (some (.Name z pz)) spos.line X.env = pure true) :
    PS X (.Assign [.Name z pz] (.DictComp (.Name y kp) (.Constant (.bool true) kk vp) [⟨.Name y tp, iter, [], 0⟩] scope pos) spos) (tAsg (tDcQ X.K ti) (gName i)) := by
  refine ⟨fun pins s σ H D I w => ?_⟩
  rw [exec_Assign_Name_used _ _ _ _ hsw]
  refine wpAny_bind (wpAny_standAt (wpAny_bind (show wpAny _ X.A (do let _ ← comprehension (.DictComp (.Name y kp) (.Constant (.bool true) kk vp) [⟨.Name y tp, iter, [], 0⟩] scope pos) scope X.env (firstIterPos [⟨.Name y tp, iter, [], 0⟩] pos) newDict false (eval iter X.env) (some (assign (.Name z pz) X.env))) _ _ s from ?_)))
  refine wpAny_bind (thn (dcq_core (Qf := fun _ s' => SP X pins D .next s') hu hc hk hn hcf hy hdb hs I hi (show tDcQ X.K ti σ H (fun x H1 => gName i x σ H1 D.nx) from w) ?_) fun _ s' hq => wpAny_pure (wpAny_pure hq))
  intro C L s' m H' cl I' q ns f
  refine (show wpAny _ _ (assign (.Name z pz) X.env (.ref L)) _ _ _ from wpAny_assign_Name (store_ok2 (v := V.ref L) I' hN hz (.inl hzl) rfl ?_ (.inr hzl)))
  rintro s2 I2 ⟨a, sb, ha⟩
  have nca : C ≠ a := ha.elim (fun w => by rw [w]; exact f.2.1) fun w e => f.2.2.2.2.1 z a w e.symm
  exact ⟨m, ns.sameBut sb nca, fun h3 sb3 => ⟨_, H', stays_fp (t' := s2.toks) I2 f fun c o hc' e => (sb3.2 c hc').trans e, q⟩⟩
end
def allQd (ks : List (List Int)) : List (List Int × PyData) := ks.foldl (fun L k => setQd L k (.bool true)) []
def dcQK (Q : DK) : DK := fun x h1 => match x with
  | .d (.tuple ds) => ∃ ks : List (List Int), ds = ks.map tupN ∧ ks.length < 1000000 ∧ ∀ p, h1 p = none → Q (.own p) (mput h1 p (.dcT p (allQd ks)))
  | _ => False
def dDcQ (ti : DTE) : DTE := fun σ h Q => ti σ h (dcQK Q)
theorem rq_fold {K : PySem.W.Frag} {F : Hp} : ∀ (ps : List (Addr × List Int)) {M : List (List Int × PyData)} {L : List QRow}, (∀ p ∈ ps, SqT K F p.1 (p.2.map V.int)) → Paired (RQF K F) M L →
    Paired (RQF K F) ((ps.map (·.2)).foldl (fun L k => setQd L k (.bool true)) M) (ps.foldl (fun L p => putQ L p.2 p.1 (.bl true)) L)
  | [], _, _, _, r => r
  | p :: ps, _, _, hk, r => rq_fold ps (fun q hq => hk q (List.mem_cons_of_mem _ hq)) (rq_put r (hk p List.mem_cons_self) (.bl true))
theorem mono_dcQ {ti : DTE} (m : Mono ti) : Mono (dDcQ ti) := fun σ h Q Q' k w => m _ _ _ _ (fun x h1 w1 => by
  unfold dcQK at w1 ⊢
  split at w1
  · obtain ⟨ks, e, hl, w2⟩ := w1
    exact ⟨ks, e, hl, fun p hp => k _ _ (w2 p hp)⟩
  · exact w1) w
theorem dcQ_ok {K : PySem.W.Frag} {ti : DTE} (m : Mono ti) : ∀ σ H Q, liftV K Γ (dDcQ ti) σ H Q → tDcQ K (liftV K Γ ti) σ H Q := by
  rintro σ H Q ⟨σd, h, rs, rm, w⟩
  refine lift_mk m rs rm w fun x h1 v H1 px rs1 rv rm1 w1 => ?_
  unfold dcQK at w1
  split at w1
  · obtain ⟨ks, e, hl, w2⟩ := w1
    subst e
    cases rv with
    | @tup b vs _ s1 d1 =>
      obtain ⟨ps, rfl, e, sk⟩ := tups_get d1
      subst e
      rw [List.length_map] at hl
      refine ⟨b, ps, rfl, sqT_up fz_sub s1, fun p hp => sqT_up fz_sub (sk p hp), by rw [sizeLine_eq]; omega, fun D hD => ?_⟩
      obtain ⟨g1, g2, g3⟩ := own_newG (o := .dcT D (allQd (ps.map fun p : Addr × List Int => p.2))) (u := TD D (allQ ps)) hD rm1 ⟨allQ ps, rfl, rq_fold ps sk .nil⟩
      exact w2 D g3 _ _ (px.trans g1) rfl g2
  · exact w1.elim
section
variable {X : Cx} {y : Str} {kp tp vp : Pos} {kk : Nat} {iter : Expr} {scope : Scope} {pos : Pos} {ti : DTE}
theorem no_cf {names : List (Str × NameKind)} (h : (names.all fun z => match z.2 with | .cell => false | .free => false | _ => true) = true) : ∀ z ∈ names, z.2 ≠ .cell ∧ z.2 ≠ .free := fun z hz => by
  have q := List.all_eq_true.mp h z hz
  refine ⟨fun e => ?_, fun e => ?_⟩ <;> rw [e] at q <;> cases q
theorem loc_of {names : List (Str × NameKind)} (h : (names.all fun z => match z.2 with | .local => (match names.lookup z.1 with | some .local => true | _ => false) | _ => true) = true) : ∀ z ∈ names, z.2 = .local → names.lookup z.1 = some .local := fun z hz e => by
  have q := List.all_eq_true.mp h z hz
  rw [e] at q
  dsimp only at q
  split at q
  · assumption
  · cases q
theorem ds_dcQ (i : Nat) {z : Str} {pz spos : Pos} (hu : X.A.units + 1 < cLine) (hc : X.calm = true) (hN : X.N.Nodup) (hi : DE X Γ iter ti) (hk : scope.kind = .function := by rfl)
    (hn : (scope.names.all fun z => match z.2 with | .local => (match scope.names.lookup z.1 with | some .local => true | _ => false) | _ => true) = true := by rfl)
    (hcf : (scope.names.all fun z => match z.2 with | .cell => false | .free => false | _ => true) = true := by rfl) (hy : scope.names.lookup y = some .local := by rfl) (hdb : (y == ("__debug__" : Str)) = false := by rfl) (hs : ∀ x, foldedSetIterable iter X.env x = pure x := by intro _; rfl)
    (hz : X.N[i]? = some z := by rfl) (hzl : X.env.scope.names.lookup z = some .local := by rfl) (hsw : swapsWith (.DictComp (.Name y kp) (.Constant (.bool true) kk vp) [⟨.Name y tp, iter, [], 0⟩] scope pos) (some (.Name z pz)) spos.line X.env = pure true := by rfl) :
    DS X Γ (.Assign [.Name z pz] (.DictComp (.Name y kp) (.Constant (.bool true) kk vp) [⟨.Name y tp, iter, [], 0⟩] scope pos) spos) (dAsg (dDcQ ti) (.nm i)) := by
  refine ⟨mono_asg (mono_dcQ hi.mono), ps_imp (ps_dcQ hu hc hN hk (loc_of hn) (no_cf hcf) hy hdb hs hi.pe hz hzl hsw) fun D σ H q => ?_⟩
  exact dcQ_ok hi.mono _ _ _ (asg_lift (g := .nm i) (mono_dcQ hi.mono) D σ H q)
end
section
variable {σ : DSt} {h : MH} {Q : DK}
theorem e_dcQ {ti : DTE} (k : ti σ h (dcQK Q)) : dDcQ ti σ h Q := k
theorem k_dcQ {ks : List (List Int)} {ds : List PyData} (e : ds = ks.map tupN) (hl : ks.length < 1000000) (k : ∀ p, h p = none → Q (.own p) (mput h p (.dcT p (allQd ks)))) : dcQK Q (.d (.tuple ds)) h := ⟨ks, e, hl, k⟩
end

section
variable {P : Program} {w : World} {A : Around} {E : Value → Shared → Prop} {s : Shared}
end
section
variable {X : Cx} {a b c : Expr} {ta : TE}
end
section
variable {X : Cx} {Γ : GI} {a b c e : Expr} {pos p2 : Pos} {ta tb tc te : DTE} {tg : Expr}
end
section
variable {σ : DSt} {h : MH} {Q : DK}
end
end DL

namespace DL
open PySem PySem.Spec PyProof.Rows L2
set_option autoImplicit true

def asIns (h : MH) : SV → Option (Addr × Str × List (Str × SV))
  | .own a => match h a with
    | some (.ins C fs) => some (a, C, fs)
    | _ => none
  | _ => none
def putFd (f : Str) (y : SV) : List (Str × SV) → List (Str × SV)
  | [] => [(f, y)]
  | p :: r => if p.1 = f then (p.1, y) :: r else p :: putFd f y r
section
variable {K : PySem.W.Frag} {H F : Hp} {h : MH} {x : SV} {v : V}
end
def fldK (C f : Str) (Q : DK) : DK := fun x h1 => match asIns h1 x with
  | some p => p.2.1 = C ∧ (match p.2.2.lookup f with
    | some y => Q y h1
    | none => False)
  | none => False
def dFld (te : DTE) (C f : Str) : DTE := fun σ h Q => te σ h (fldK C f Q)
section
variable {X : Cx} {e o value : Expr} {te to tv : DTE} {pos pos' : Pos} {C f : Str}
def sfldK (C f : Str) (y : SV) (D : DEnds) (σ : DSt) : DK := fun x h2 => match asIns h2 x with
  | some p => p.2.1 = C ∧ p.2.2.length < 1000 ∧ D.nx σ (mput h2 p.1 (.ins C (putFd f y p.2.2)))
  | none => False
def dSFld (tv to : DTE) (C f : Str) : DTS := fun D σ h => tv σ h fun y h1 => to σ h1 (sfldK C f y D σ)
end
def FnM (P : Program) (w : World) (K : PySem.W.Frag) (mg : Str → Option Value) (base : Heap) (T : List (Addr × Str)) (k : Nat) (C m : Str) (ps : List Str) (W : DSp) : Prop :=
  ∃ f fd, FnG P w K mg base T k f fd ps W ∧ Binds K fd ps [] ∧ Meth K (He.ga K C) m f ∧ Cls K (He.ga K C)
theorem FnM.up {P : Program} {w : World} {K : PySem.W.Frag} {mg : Str → Option Value} {base : Heap} {T : List (Addr × Str)} {j k : Nat} {C m : Str} {ps : List Str} {W : DSp} (F : FnM P w K mg base T j C m ps W) (h : j ≤ k) : FnM P w K mg base T k C m ps W := by
  obtain ⟨f, fd, a, b⟩ := F
  exact ⟨f, fd, a.up h, b⟩
def isM (C m : Str) (h : MH) (x : SV) : Prop := match asIns h x with
  | some p => p.2.1 = C ∧ p.2.2.lookup m = none
  | none => False
def dMeth (E : DXS) (C m : Str) (W : DSp) (te : DTE) (t : DTA) : DTE := fun σ h Q => te σ h fun x h1 => isM C m h1 x ∧ t σ h1 fun xs h2 => W (x :: xs) h2 Q fun z h3 => E z σ h3
section
variable {X : Cx} {k : Nat} {ps : List Str} {W : DSp} {E : DXS} {C m : Str} {p pos apos : Pos} {o e : Expr} {es : List Expr} {te : DTE} {t : DTA} {T : List (Addr × Str)}
end
def FnI (P : Program) (w : World) (K : PySem.W.Frag) (mg : Str → Option Value) (base : Heap) (T : List (Addr × Str)) (k : Nat) (C : Str) (ps : List Str) (z : Shape) (W : DSp) : Prop :=
  ∃ f fd mv, FnG P w K mg base T k f fd ps W ∧ KBn K fd ps (z.n + 1) z.ks (fun us ws => us ++ pick z.cs mv ws) (fun vs zs => vs ++ pick z.cs (z.dm.map cvV) zs) ∧ Mk K (He.ga K C) f ∧ mg C = some (.ref (He.ga K C))
theorem FnI.up {P : Program} {w : World} {K : PySem.W.Frag} {mg : Str → Option Value} {base : Heap} {T : List (Addr × Str)} {j k : Nat} {C : Str} {ps : List Str} {z : Shape} {W : DSp} (F : FnI P w K mg base T j C ps z W) (h : j ≤ k) : FnI P w K mg base T k C ps z W := by
  obtain ⟨f, fd, mv, a, b⟩ := F
  exact ⟨f, fd, mv, a.up h, b⟩
section
variable {X : Cx} {k : Nat} {ps : List Str} {W : DSp} {E : DXS} {C : Str} {p pos : Pos} {e : Expr} {es : List Expr} {kws : List Keyword} {t tk : DTA} {T : List (Addr × Str)} {z : Shape}
end
section
variable {σ : DSt} {h : MH} {Q : DK} {a : Addr} {C f m : Str} {fs : List (Str × SV)} {y : SV}
theorem e_fld {te : DTE} (k : te σ h (fldK C f Q)) : dFld te C f σ h Q := k
theorem e_sfld {tv to : DTE} {D : DEnds} (k : tv σ h fun y h1 => to σ h1 (sfldK C f y D σ)) : dSFld tv to C f D σ h := k
theorem e_meth {E : DXS} {W : DSp} {te : DTE} {t : DTA} (k : te σ h fun x h1 => isM C m h1 x ∧ t σ h1 fun xs h2 => W (x :: xs) h2 Q fun z h3 => E z σ h3) : dMeth E C m W te t σ h Q := k
end
end DL

namespace DL
open PySem PySem.Spec PyProof.Rows L2
set_option autoImplicit true

def asSq (h : MH) : SV → Option (Addr × List SV)
  | .own a => match h a with
    | some (.seq xs) => some (a, xs)
    | _ => none
  | _ => none
def appSE (x y : SV) (Q : DK) (h2 : MH) : Prop := match asSq h2 x with
  | some p => p.2.length < sizeLine ∧ Q (.d .none) (mput h2 p.1 (.seq (p.2 ++ [y])))
  | none => False
def appSK (te : DTE) (σ : DSt) (Q : DK) : DK := fun x h1 => (asSq h1 x).isSome = true ∧ te σ h1 fun y h2 => appSE x y Q h2
def dAppS (to te : DTE) : DTE := fun σ h Q => to σ h (appSK te σ Q)
section
variable {X : Cx} {o e tg : Expr} {es : List Expr} {to te : DTE} {pos apos cpos : Pos} {is : List Nat}
def unpLK (is : List Nat) (D : DEnds) (σ : DSt) : DK := fun x h1 => match asSq h1 x with
  | some p => p.2.length = is.length ∧ D.nx (setAllS is p.2 σ) h1
  | none => False
def dUnpL (te : DTE) (is : List Nat) : DTS := fun D σ h => te σ h (unpLK is D σ)
end
section
variable {X : Cx}
end
section
variable {σ : DSt} {h : MH} {Q : DK} {a : Addr} {xs : List SV} {ds : List PyData} {y : SV}
theorem e_appS {to te : DTE} (k : to σ h (appSK te σ Q)) : dAppS to te σ h Q := k
theorem e_unpL {te : DTE} {is : List Nat} {D : DEnds} (k : te σ h (unpLK is D σ)) : dUnpL te is D σ h := k
end
end DL

namespace DL
open PySem PySem.Spec PyProof.Rows L2
set_option autoImplicit true

structure ZAt (z TI TO i1 i2 l1 l2 S : Addr) (xs ys : Array Value) (i : Nat) (h : Heap) : Prop where
  ti : IsPair h TI (.ref i1) (.ref i2)
  a1 : h.IsListIter i1 l1 i
  a2 : h.IsListIter i2 l2 i
  b1 : h.IsList l1 xs
  b2 : h.IsList l2 ys
  to : ∃ o, h.get? TO = some o
  zz : (IsZip h z TI TO .none ∧ ∃ a b, IsPair h TO a b) ∨ ∃ T f oT, IsZipHeld h z TI TO T f ∧ h.get? T = some oT ∧ T ∉ [z, i1, i2, S]
abbrev zsix (z TI TO i1 i2 l1 l2 : Addr) : List Addr := [z, TI, TO, i1, i2, l1, l2]
theorem ZAt.keep {z TI TO i1 i2 l1 l2 S : Addr} {xs ys : Array Value} {i : Nat} {h h' : Heap} (st : ZAt z TI TO i1 i2 l1 l2 S xs ys i h) (off : S ∉ zsix z TI TO i1 i2 l1 l2) (k : ∀ b o, b ≠ S → h.get? b = some o → h'.get? b = some o) : ZAt z TI TO i1 i2 l1 l2 S xs ys i h' := by
  have ne : ∀ c, c ∈ zsix z TI TO i1 i2 l1 l2 → c ≠ S := fun c hc e => off (e ▸ hc)
  obtain ⟨ti, a1, a2, b1, b2, ⟨ot, to⟩, zz⟩ := st
  refine ⟨k _ _ (ne _ (by simp)) ti, a1.at fun o e => k _ o (ne _ (by simp)) e, a2.at fun o e => k _ o (ne _ (by simp)) e, b1.at fun o e => k _ o (ne _ (by simp)) e, b2.at fun o e => k _ o (ne _ (by simp)) e, ⟨ot, k _ _ (ne _ (by simp)) to⟩, ?_⟩
  rcases zz with ⟨q, a, b, p⟩ | ⟨T, f, oT, q, p, n⟩
  · exact .inl ⟨k _ _ (ne _ (by simp)) q, a, b, k _ _ (ne _ (by simp)) p⟩
  · exact .inr ⟨T, f, oT, k _ _ (ne _ (by simp)) q, k _ _ (fun e => n (by simp [e])) p, n⟩
section
variable {P : Program} {w : World} {A : Around} {E : Value → Shared → Prop} {s : Shared} {z TI TO i1 i2 l1 l2 S : Addr} {xs ys : Array Value}
end
section
variable {X : Cx} {pins : List (Addr × Obj)} {σ : L2.St} {A : Around} {z TI TO i1 i2 l1 l2 S : Addr} {xs ys : Array Value} {vs ws : List V}
end
section
variable {X : Cx} {pins : List (Addr × Obj)} {σ : L2.St} {A : Around} {s : Shared} {z TI TO i1 i2 l1 l2 : Addr} {xs ys : Array Value} {vs ws : List V}
end
def fLstZip (ta tb : DTE) : DTF := fun σ h Q => ta σ h fun x h1 => tb σ h1 fun y h2 => match asL h2 x, asL h2 y with
  | some ds, some es => min ds.length es.length ≤ sizeLine ∧ Q (zipD ds es) h2
  | _, _ => False
section
variable {X : Cx} {a b : Expr} {p p2 pos pos2 : Pos} {ta tb : DTE}
end
def wRevF (tF : DTF) : DTI := fun σ h Q => tF σ h fun ds h1 => Q ds.reverse h1
section
variable {σ : DSt} {h : MH} {QL : List PyData → MH → Prop}
def zipK2 (x : SV) (QL : List PyData → MH → Prop) : DK := fun y h2 => match asL h2 x, asL h2 y with
  | some ds, some es => min ds.length es.length ≤ sizeLine ∧ QL (zipD ds es) h2
  | _, _ => False
def zipK1 (tb : DTE) (σ : DSt) (QL : List PyData → MH → Prop) : DK := fun x h1 => tb σ h1 (zipK2 x QL)
theorem e_lstZip {ta tb : DTE} (k : ta σ h (zipK1 tb σ QL)) : fLstZip ta tb σ h QL := k
theorem k_zip1 {tb : DTE} {x : SV} (k : tb σ h (zipK2 x QL)) : zipK1 tb σ QL x h := k
theorem e_revF {tF : DTF} {QI : List PyData → MH → Prop} (k : tF σ h fun ds h1 => QI ds.reverse h1) : wRevF tF σ h QI := k
end
end DL

namespace DL
open PySem PySem.Spec PyProof.Rows L2
set_option autoImplicit true

section
variable {X : Cx}
end
section
variable {P : Program} {w : World} {A : Around} {E : Value → Shared → Prop} {s : Shared}
end
section
variable {K : PySem.W.Frag}
end
def dropQd (ps : List (List Int × PyData)) (k : List Int) : List (List Int × PyData) := ps.filter fun x => decide (x.1 ≠ k)
section
variable {X : Cx} {o e : Expr} {apos cpos pos : Pos} {td ty : TE} {to ti : DTE}
def popQE (x : SV) (Q : DK) : DK := fun y h2 => match asQd h2 x, tupI y with
  | some p, some k => (match lookQ p.2 k with
    | some d => Q (.d d) (mput h2 p.1 (.dcT p.1 (dropQd p.2 k)))
    | none => False)
  | _, _ => False
def popQK (ti : DTE) (σ : DSt) (Q : DK) : DK := fun x h1 => (asQd h1 x).isSome = true ∧ ti σ h1 (popQE x Q)
def dPopQ (to ti : DTE) : DTE := fun σ h Q => to σ h (popQK ti σ Q)
end
section
variable {σ : DSt} {h : MH} {Q : DK} {QL : List PyData → MH → Prop} {a : Addr} {ps : List (List Int × PyData)}
theorem e_popQ {to ti : DTE} (k : to σ h (popQK ti σ Q)) : dPopQ to ti σ h Q := k
end
end DL

namespace DL
open PySem PySem.Spec PyProof.Rows L2

set_option autoImplicit true

def lenIK (E : DXS) (C : Str) (W : DSp) (σ : DSt) (Q : DK) : DK := fun x h1 => isM C "__len__" h1 x ∧ W [x] h1 (fun z h2 => match z with
  | .d (.int n) => (0 ≤ n ∧ n < 16777217) ∧ Q (.d (.int n)) h2
  | _ => False) fun z h2 => E z σ h2
def dLenI (E : DXS) (C : Str) (W : DSp) (te : DTE) : DTE := fun σ h Q => te σ h (lenIK E C W σ Q)
section
variable {σ : DSt} {h : MH} {Q : DK} {a : Addr}
theorem e_lenI {E : DXS} {C : Str} {W : DSp} {te : DTE} (k : te σ h (lenIK E C W σ Q)) : dLenI E C W te σ h Q := k
end
end DL

namespace DL
open PySem PySem.Spec PyProof.Rows L2
set_option autoImplicit true

def FnMK (P : Program) (w : World) (K : PySem.W.Frag) (mg : Str → Option Value) (base : Heap) (T : List (Addr × Str)) (k : Nat) (C m : Str) (ps : List Str) (z : Shape) (W : DSp) : Prop :=
  ∃ f fd mv, FnG P w K mg base T k f fd ps W ∧ KBn K fd ps (z.n + 1) z.ks (fun us ws => us ++ pick z.cs mv ws) (fun vs zs => vs ++ pick z.cs (z.dm.map cvV) zs) ∧ Meth K (He.ga K C) m f ∧ Cls K (He.ga K C)
theorem FnMK.up {P : Program} {w : World} {K : PySem.W.Frag} {mg : Str → Option Value} {base : Heap} {T : List (Addr × Str)} {j k : Nat} {C m : Str} {ps : List Str} {z : Shape} {W : DSp} (F : FnMK P w K mg base T j C m ps z W) (h : j ≤ k) : FnMK P w K mg base T k C m ps z W := by
  obtain ⟨f, fd, mv, a, b⟩ := F
  exact ⟨f, fd, mv, a.up h, b⟩
section
variable {X : Cx} {k : Nat} {ps : List Str} {W : DSp} {E : DXS} {C m : Str} {p pos apos : Pos} {o e : Expr} {es : List Expr} {kws : List Keyword} {te : DTE} {t tk : DTA} {T : List (Addr × Str)} {z : Shape}
end
section
variable {σ : DSt} {h : MH} {Q : DK}
end
end DL

namespace DL
open PySem PySem.Spec PyProof.Rows L2
set_option autoImplicit true

def But (H H' : Hp) : Prop := ∀ a u, H a = some u → (∀ o b L, u ≠ .frz o (TD b L)) → H' a = some u
theorem rd_but {H H' : Hp} {a : Addr} {u : HO} (e : But H H') (n1 : ∀ o b L, u ≠ .frz o (TD b L)) (n2 : ∀ b L, u ≠ TD b L) (r : Rd H a u) : Rd H' a u := by
  rcases r with r | ⟨o, r⟩
  · exact .inl (e _ _ r n1)
  · exact .inr ⟨o, e _ _ r fun o' b L z => n2 b L (by injection z)⟩
theorem sqT_but {K : PySem.W.Frag} {H H' : Hp} {a : Addr} {xs : List V} (e : But H H') (r : SqT K H a xs) : SqT K H' a xs := r.imp (rd_but e (fun _ _ _ z => nomatch z) fun _ _ z => nomatch z) id
theorem sqL_but {K : PySem.W.Frag} {H H' : Hp} {a : Addr} {xs : List V} (e : But H H') (r : SqL K H a xs) : SqL K H' a xs := r.imp (rd_but e (fun _ _ _ z => nomatch z) fun _ _ z => nomatch z) id
mutual
theorem dp_but {K : PySem.W.Frag} {H H' : Hp} (e : But H H') : ∀ (d : PyData) (v : V), Dp K H v d → Dp K H' v d
  | .list ds, _, .lst h1 h2 => .lst (sqL_but e h1) (dps_but e ds _ h2)
  | .tuple ds, _, .tup h1 h2 => .tup (sqT_but e h1) (dps_but e ds _ h2)
  | .none, _, .non => .non
  | .bool _, _, .bl b => .bl b
  | .int _, _, .int i => .int i
  | .str _, _, .str x => .str x
theorem dps_but {K : PySem.W.Frag} {H H' : Hp} (e : But H H') : ∀ (ds : List PyData) (vs : List V), DpAll K H vs ds → DpAll K H' vs ds
  | [], _, .nil => .nil
  | d :: ds, _, .cons h1 h2 => .cons (dp_but e d _ h1) (dps_but e ds _ h2)
end
theorem rvf_but {K : PySem.W.Frag} {F F' : Hp} (e : But F F') : ∀ {x : SV} {v : V}, RVF K F x v → RVF K F' x v
  | .d d, v, r => dp_but e d v r
  | .own _, _, r => r
section
variable {K : PySem.W.Frag} {H H2 : Hp} {h h2 : MH} {d : Addr} {o : Obj} {L : List QRow} {ps : List (List Int × PyData)}
theorem RSt.but {Γ' : GI} {H H' : Hp} {h h' : MH} {σd : DSt} {σ : L2.St} (e : But (Fz Γ H h) (Fz Γ' H' h')) (r : RSt K Γ H h σd σ) : RSt K Γ' H' h' σd σ := ⟨r.1, fun i x q => by
  obtain ⟨v, e1, e2⟩ := r.2 i x q
  exact ⟨v, e1, rvf_rv (rvf_but e (rv_rvf e2))⟩⟩
end
theorem pv {X : Cx} {x : Str} {pos : Pos} (i : Nat) (hN : X.N[i]? = some x := by rfl) (hv : Vis X.env.scope x := by first | exact Or.inl rfl | exact Or.inr (Or.inl rfl) | exact Or.inr (Or.inr rfl)) (hd : (x == ("__debug__" : Str)) = false := by decide) (hcd : (x == ("__classdict__" : Str)) = false := by decide) : PE X (.Name x pos) (tVar i) := pe_var hN hv hd hcd
end DL

namespace DL
open PySem PySem.Spec PyProof.Rows L2
set_option autoImplicit true

def zipSO (f0 : Value) (TI TO : Addr) : Obj := { cls := .type "zip", dict := none, data := .fields #[f0, .bool false, .bool true, .ref TI, .ref TO], slots := #[] }
abbrev ZipS (h : Heap) (z TI TO : Addr) (f0 : Value) : Prop := h.get? z = some (zipSO f0 TI TO)
section
variable {prog : Program} {w : World} {A : Around} {E : Value → Shared → Prop} {s : Shared}
/-- what a strict zip of the lists a, b leans on: itself, its two iterators (in TI), its own pair -/
structure ZsAt (h : Heap) (z TI TO i1 i2 a b : Addr) (k : Nat) (f0 : Value) : Prop where
  zip : ZipS h z TI TO f0
  its : IsPair h TI (.ref i1) (.ref i2)
  out : ∃ x y, IsPair h TO x y
  one : h.IsListIter i1 a k
  two : h.IsListIter i2 b k
end

theorem five {P : Addr → Prop} {z TI TO i1 i2 : Addr} (p1 : P z) (p2 : P TI) (p3 : P TO) (p4 : P i1) (p5 : P i2) : ∀ c ∈ [z, TI, TO, i1, i2], P c :=
  List.forall_mem_cons.mpr ⟨p1, List.forall_mem_cons.mpr ⟨p2, List.forall_mem_cons.mpr ⟨p3, List.forall_mem_cons.mpr ⟨p4, List.forall_mem_cons.mpr ⟨p5, fun _ q => nomatch q⟩⟩⟩⟩⟩
theorem ZsAt.up {g g' : Heap} {z TI TO i1 i2 a b : Addr} {n : Nat} {f0 : Value} (Z : ZsAt g z TI TO i1 i2 a b n f0) (k : ∀ c, c ∈ [z, TI, TO, i1, i2] → ∀ o, g.get? c = some o → g'.get? c = some o) : ZsAt g' z TI TO i1 i2 a b n f0 :=
  ⟨k _ (by simp) _ Z.zip, k _ (by simp) _ Z.its, Z.out.imp fun _ => Exists.imp fun _ => k _ (by simp) _, Z.one.at fun o => k _ (by simp) o, Z.two.at fun o => k _ (by simp) o⟩
theorem ZsAt.in_ {g : Heap} {z TI TO i1 i2 a b : Addr} {n : Nat} {f0 : Value} (Z : ZsAt g z TI TO i1 i2 a b n f0) : ∀ c ∈ [z, TI, TO, i1, i2], ∃ o, g.get? c = some o ∧ ∀ v, o.data ≠ .cell v :=
  five ⟨_, Z.zip, fun _ => nofun⟩ ⟨_, Z.its, fun _ => nofun⟩ (Z.out.elim fun _ => Exists.rec fun _ e => ⟨_, e, fun _ => nofun⟩) (Z.one.imp fun _ p => ⟨p.1, fun _ q => by rw [p.2.2] at q; cases q⟩) (Z.two.imp fun _ p => ⟨p.1, fun _ q => by rw [p.2.2] at q; cases q⟩)
section
variable {X : Cx} {a b : Expr} {p pos tpos kpos cp : Pos} {elts : List Expr} {kk ck : Nat} {ta tb : DTE}
end

end DL

namespace DL
open PySem PySem.Spec PyProof.Rows L2
set_option autoImplicit true

theorem HdAt.same {h : Heap} {v : Value} {ns ms : List Int} (a : HdAt h v ns []) (b : HdAt h v ms []) : ns = ms := by
  refine (a.uniq b ?_).1
  obtain ⟨p, o, n, is, rfl, h1, _, h3, h4⟩ := a
  obtain ⟨p', o', n', js, e, g1, _, g3, g4⟩ := b
  cases e
  rw [h1] at g1
  cases g1
  rw [h3] at g3
  injection g3 with g3 _
  have e : is = js := by simpa using g3
  rw [← h4.length, ← g4.length, e]
open Classical in
section
variable {prog : Program} {w : World} {A : Around} {E : Value → Shared → Prop} {s : Shared}
end
section
variable {P : Program} {w : World} {A : Around} {E : Value → Shared → Prop} {s : Shared}
end
section
variable {X : Cx} {a b c : Expr} {ta : TE}
end
section
variable {X : Cx} {Γ : GI} {a b c e : Expr} {pos p2 : Pos} {ta tb tc te : DTE} {tg : Expr}
end
end DL

namespace DL
open PySem PySem.Spec PyProof.Rows L2
set_option autoImplicit true

def rGetN (K : PySem.W.Frag) : R2 := fun o i H Q => ∃ (p : Addr) (xs : List V) (k : Int) (z : V), o = .ref p ∧ i = .int k ∧ 0 ≤ k ∧ SqL K H p xs ∧ xs[k.toNat]? = some z ∧ Q z H
theorem get_listN {X : Cx} : PGet X (rGetN X.K) := by
  intro pins s σ H o i ov iv Q I ro ri ⟨p, xs, k, z, eo, ei, h0, hq, he, q⟩
  subst eo ei
  cases ro
  obtain ⟨t, rfl⟩ := ri
  obtain ⟨its, r, pl, hz⟩ := I.list hq
  obtain ⟨w, ew, rw'⟩ := r.get he
  have hn := line63
  have hl := (List.getElem?_eq_some_iff.mp he).1
  exact wpAny_getItem_list pl.isList h0 (by omega) (by simpa using ew) ⟨z, H, I, rw', q⟩
def dAugIx (to ti : DTE) (c : Int) (f : Int → Int → Int) : DTS := fun D σ h => to σ h fun x h1 => ti σ h1 fun i h2 => match ownL h2 x, asInt i with
  | some (a, ds), some k => 0 ≤ k ∧ ∃ n : Int, ds[k.toNat]? = some (.int n) ∧ D.nx σ (mput h2 a (.lst (ds.set k.toNat (.int (f n c)))))
  | _, _ => False
section
variable {X : Cx} {Γ : GI} {o i e : Expr} {to ti : DTE} {c : Int} {f : Int → Int → Int} {op : Operator} {tpos pos : Pos}
theorem ds_augS (hu : X.A.units + 1 < cLine) (ho : DE X Γ o to) (hi : DE X Γ i ti) (he : PE X e (tC (V.int c))) (hp : PIp X op (ipI f))
    (ha : ∀ ov iv new, augStore i ov iv new = (do holding [new, ov, iv] (setItem ov iv new); release [new, ov, iv] []; pure .next) := by intros; rfl) : DS X Γ (.AugAssign (.Subscript o i tpos) op e pos) (dAugIx to ti c f) := by
  refine ⟨fun D D' σ h l w => ho.mono _ _ _ _ (fun x h1 w1 => hi.mono _ _ _ _ (fun k h2 w2 => ?_) w1) w, ps_imp (ps_augS (tget := rGetN X.K) ho.pe hi.pe get_listN he hp (set_G hu) ha) fun D σ H ⟨σd, h, rs, rm, w⟩ => ?_⟩
  · split at w2
    · obtain ⟨h0, n, e1, e2⟩ := w2
      exact ⟨h0, n, e1, l.nx _ _ e2⟩
    · exact w2
  · refine lift_mk ho.mono rs rm w fun x h1 xv H1 px rs1 rx rm1 w1 => lift_mk hi.mono rs1 rm1 w1 fun k h2 kv H2 px2 rs2 rk rm2 w2 => ?_
    split at w2
    · rename_i a ds k0 e2 e3
      obtain ⟨h0, n, e5, w3⟩ := w2
      obtain ⟨ex, ea⟩ := ownL_ok e2
      subst ex
      have ev : xv = .ref a := rx
      subst ev
      obtain ⟨ws, f1, f2⟩ := rm2.ob a _ ea
      obtain ⟨wv, g1, g2⟩ := dps_get f2 e5
      have ew : wv = .int n := by cases g2; rfl
      subst ew
      have ek := asInt_ok rk e3
      have px3 : PX Γ H2 h2 (upd H2 a (.lst (ws.set k0.toNat (.int (f n c))))) (mput h2 a (.lst (ds.set k0.toNat (.int (f n c))))) := put_px ea rm2
      have hl := (List.getElem?_eq_some_iff.mp g1).1
      have hx : ixN ws.length k0 = some k0.toNat := by
        unfold ixN
        rw [if_pos h0, if_pos (by omega)]
      refine ⟨a, ws, k0, .int n, rfl, ek, h0, SqL.of f1, g1, ?_⟩
      refine ⟨n, c, rfl, rfl, .inl ⟨a, ws, k0, k0.toNat, rfl, ek, f1, hx, ?_⟩⟩
      exact w3 _ _ ((px.trans px2).trans px3) ((rs2).up px3) (put_rm ea rm2 (dps_set k0.toNat (.int _) f2))
    · exact w2.elim
theorem e_augIx {D : DEnds} {σ : DSt} {h : MH} {a : Addr} {k : Nat} {ds : List PyData} {n : Int} (h1 : to σ h fun x h1 => x = .own a ∧ h1 = h) (m : Mono to) (mi : Mono ti) (h2 : ti σ h fun i h2 => i = .d (.int (k : Nat)) ∧ h2 = h) (e : h a = some (.lst ds)) (e2 : ds[k]? = some (.int n)) (q : D.nx σ (mput h a (.lst (ds.set k (.int (f n c)))))) : dAugIx to ti c f D σ h := by
  refine m _ _ _ _ (fun x h1 ⟨e3, e4⟩ => ?_) h1
  subst e3 e4
  refine mi _ _ _ _ (fun i h2 ⟨e5, e6⟩ => ?_) h2
  subst e5 e6
  have ol := ownL_own e
  unfold asInt
  rw [ol]
  show (0 : Int) ≤ (k : Nat) ∧ ∃ n : Int, ds[((k : Nat) : Int).toNat]? = some (.int n) ∧ _
  exact ⟨by omega, n, by simpa using e2, by simpa using q⟩
end
end DL

namespace DL
open PySem PySem.Spec PyProof.Rows L2
set_option autoImplicit true

section
variable {X : Cx} {Γ : GI} {e : Expr} {es : List Expr} {te : DTE} {ts : List DTE} {pos : Pos}
inductive DJ (X : Cx) (Γ : GI) : List Expr → List DTE → Prop where
  | nil : DJ X Γ [] []
  | cons {e : Expr} {t : DTE} {es : List Expr} {ts : List DTE} (h : DE X Γ e t) (r : DJ X Γ es ts) : DJ X Γ (e :: es) (t :: ts)
def dJs : List DTE → Str → DSt → MH → (Str → MH → Prop) → Prop
  | [], acc, _, h, Q => Q acc h
  | t :: ts, acc, σ, h, Q => t σ h fun x h1 => match asStr x with
    | some y => (acc ++ y).length ≤ 16777216 ∧ dJs ts (acc ++ y) σ h1 Q
    | none => False
theorem DJ.mono (d : DJ X Γ es ts) : ∀ (acc : Str) (σ : DSt) (h : MH) (Q Q' : Str → MH → Prop), (∀ x h', Q x h' → Q' x h') → dJs ts acc σ h Q → dJs ts acc σ h Q' := by
  induction d with
  | nil => exact fun acc σ h Q Q' k w => k _ _ w
  | cons a _ ih =>
    intro acc σ h Q Q' k w
    refine a.mono _ _ _ _ (fun x h1 w1 => ?_) w
    split at w1
    · exact ⟨w1.1, ih _ _ _ _ _ k w1.2⟩
    · exact w1
end

section
variable {X : Cx} {Γ : GI} {k : Nat} {f : Addr} {fd : FuncData} {ps : List Str} {W : DSp} {C : Str}
end
section
variable {σ : DSt} {h : MH} {Q : DK} {te : DTE} {ts : List DTE}
end
end DL

namespace DL
open PySem PySem.Spec PyProof.Rows L2
set_option autoImplicit true

mutual
def noLst : PyData → Bool
  | .list _ => false
  | .dict _ => false
  | .tuple ds => noLsts ds
  | _ => true
def noLsts : List PyData → Bool
  | [] => true
  | d :: ds => noLst d && noLsts ds
end
mutual
theorem dp_flat {K : PySem.W.Frag} {F F' : Hp} (e : ∀ a xs, SqT K F a xs → SqT K F' a xs) : ∀ (d : PyData) (v : V), noLst d = true → Dp K F v d → Dp K F' v d
  | .none, _, _, h => by cases h; exact .non
  | .bool b, _, _, h => by cases h; exact .bl b
  | .int i, _, _, h => by cases h; exact .int i
  | .str x, _, _, h => by cases h; exact .str x
  | .tuple ds, _, n, h => by
    cases h with
    | tup h1 h2 => exact .tup (e _ _ h1) (dps_flat e ds _ (by simpa [noLst] using n) h2)
  | .list ds, _, n, _ => by simp [noLst] at n
  | .dict ds, _, n, _ => by simp [noLst] at n
theorem dps_flat {K : PySem.W.Frag} {F F' : Hp} (e : ∀ a xs, SqT K F a xs → SqT K F' a xs) : ∀ (ds : List PyData) (vs : List V), noLsts ds = true → DpAll K F vs ds → DpAll K F' vs ds
  | [], _, _, h => by cases h; exact .nil
  | d :: ds, _, n, h => by
    have n' : noLst d = true ∧ noLsts ds = true := by simpa [noLsts] using n
    cases h with
    | cons h1 h2 => exact .cons (dp_flat e d _ n'.1 h1) (dps_flat e ds _ n'.2 h2)
end
def dLend0 (j : Nat) (te : DTE) : DTE := fun σ h Q => match slot σ j with
  | some (.own a) => match h a with
    | some (.lst ds) => ((∀ b xs, h b ≠ some (.tpl xs)) ∧ ∀ b xs, h b ≠ some (.ptp xs)) ∧ te (σ.set j (some (.d (.list ds)))) (fun _ => none) fun z _ => ∃ d, z = .d d ∧ noLst d = true ∧ Q z h
    | _ => False
  | _ => False
theorem not_tup {K : PySem.W.Frag} {F : Hp} {o : MO} {u : HO} (r : ROF K F o u) (n : (∀ xs, o ≠ .tpl xs) ∧ ∀ xs, o ≠ .ptp xs) : (∀ xs, u ≠ .tup xs) ∧ ∀ p xs, u ≠ .frz p (.tup xs) := by
  cases o <;> cases u <;> first | exact r.elim | exact ⟨fun _ z => HO.noConfusion z, fun _ _ z => HO.noConfusion z⟩ | exact ⟨fun _ z => HO.noConfusion z, fun _ _ z => by rw [r.2.1] at z; injection z with _ z2; exact HO.noConfusion z2⟩ | exact absurd rfl (n.1 _) | exact absurd rfl (n.2 _)
theorem de_lend0 {X : Cx} {Γ : GI} {e : Expr} {te : DTE} (j : Nat) (he : DE X Γ e te) : DE X Γ e (dLend0 j te) := by
  refine ⟨fun σ h Q Q' k w => ?_, pe_imp he.pe fun σ H Q ⟨σd, h, rs, rm, w⟩ => ?_⟩
  · unfold dLend0 at w ⊢
    split at w
    · split at w
      · exact ⟨w.1, he.mono _ _ _ _ (fun z _ ⟨d, e1, e2, q⟩ => ⟨d, e1, e2, k _ _ q⟩) w.2⟩
      · exact w
    · exact w
  · unfold dLend0 at w
    split at w
    · rename_i a e0
      split at w
      · rename_i ds e1
        obtain ⟨nt, w⟩ := w
        have sd : σd[j]? = some (some (.own a)) := by
          unfold slot at e0
          split at e0
          · rename_i q; rw [q, e0]
          · cases e0
        have px0 : PX Γ H h H (fun _ => none) := drop_px fun _ _ z => by cases z
        have rm0 : RM X.K Γ H (fun _ => none) := drop_rm (fun _ _ z => by cases z) rm
        have rs0 := rs.up px0
        obtain ⟨v, g1, g2⟩ := rs.2 j _ sd
        have fz : fz1 (.own a) h = some (.list ds, mdrop h a) := by unfold fz1; simp only [e1]
        obtain ⟨_, _, g3⟩ := fz1_ok g2 rm fz
        have g4 : Dp X.K (Fz Γ H fun _ => none) v (.list ds) := dp_up (drop_px (Γ := Γ) (H := H) (h := mdrop h a) (h' := fun _ => none) fun _ _ z => by cases z).ex _ _ g3
        have rs1 : RSt X.K Γ H (fun _ => none) (σd.set j (some (.d (.list ds)))) σ := by
          refine ⟨by rw [List.length_set]; exact rs0.1, fun i x q => ?_⟩
          by_cases ij : j = i
          · subst ij
            have hl := (List.getElem?_eq_some_iff.mp sd).1
            rw [List.getElem?_set_self hl] at q
            cases q
            exact ⟨v, g1, g4⟩
          · rw [List.getElem?_set_ne ij] at q
            exact rs0.2 i x q
        refine ⟨_, _, rs1, rm0, he.mono _ _ _ _ (fun z h2 ⟨d, ez, fl, q⟩ => ?_) w⟩
        subst ez
        intro u H' px ru rm2
        have old : ∀ b o u', h b = some o → H b = some u' → (∀ ps, u' ≠ .tbl ps) → H' b = some u' := fun b o u' hb hu ht => (Fz.to (px.ex _ _ (Fz.of hu rfl (rm.ownx hb) ht))).1
        have px3 : PX Γ H h H' h := ⟨fun b u' e => by
          obtain ⟨e1, e2, e3, e4⟩ := Fz.to e
          obtain ⟨y1, _, y3, y4⟩ := Fz.to (px.ex _ _ (Fz.of e1 rfl e3 e4))
          exact Fz.ofH y1 e2 y3 y4, px.kx⟩
        have rm3 : RM X.K Γ H' h := by
          refine ⟨fun b o hb => ?_, Γ.st px3 rm.g, fun b hb => ⟨(rm.nx b hb).1, by rw [px.kx b hb]; exact (rm.nx b hb).2⟩, rm2.tb⟩
          obtain ⟨u', y1, y2⟩ := ro_at (rm.ob b o hb)
          have pl := rof_plain y2
          exact ro_up (fun u2 z => old b o u2 hb z fun ps t => by
            rw [y1] at z
            cases z
            subst t
            exact not_plain_tbl pl) px3.ex (rm.ob b o hb)
        refine q u H' px3 (dp_flat (fun c xs r => r.imp (fun r => ?_) id) d u fl ru) rm3
        have hc : h c = none := by
          cases y : h c with
          | none => rfl
          | some o =>
            obtain ⟨u', y1, y2⟩ := ro_at (rm3.ob c o y)
            obtain ⟨n1, n2⟩ := not_tup y2 ⟨fun xs z => nt.1 c xs (by rw [y, z]), fun xs z => nt.2 c xs (by rw [y, z])⟩
            rcases r with r | ⟨p, r⟩
            · have := (Fz.to r).1
              rw [y1] at this
              exact absurd (Option.some.inj this) (n1 _)
            · have := (Fz.to r).1
              rw [y1] at this
              exact absurd (Option.some.inj this) (n2 _ _)
        rcases r with r | ⟨p, r⟩
        · obtain ⟨y1, _, y3, y4⟩ := Fz.to r
          exact .inl (Fz.of y1 hc y3 y4)
        · obtain ⟨y1, _, y3, y4⟩ := Fz.to r
          exact .inr ⟨p, Fz.of y1 hc y3 y4⟩
      · exact w.elim
    · exact w.elim
/-- a part of one's own may be let go ahead of an expression -/
def dLess (te : DTE) : DTE := fun σ h Q => ∃ h1 : MH, (∀ b o, h1 b = some o → h b = some o) ∧ te σ h1 Q
theorem de_less {X : Cx} {Γ : GI} {e : Expr} {te : DTE} (he : DE X Γ e te) : DE X Γ e (dLess te) := by
  refine ⟨fun σ h Q Q' k ⟨h1, s1, w⟩ => ⟨h1, s1, he.mono _ _ _ _ k w⟩, pe_imp he.pe fun σ H Q ⟨σd, h, rs, rm, h1, s1, w⟩ => ?_⟩
  have pxD : PX Γ H h H h1 := drop_px s1
  exact ⟨σd, h1, rs.up pxD, drop_rm s1 rm, he.mono _ _ _ _ (fun x h' f v H' px rv r => f v H' (pxD.trans px) rv r) w⟩
def dLend (j : Nat) (te : DTE) : DTE := dLess (dLend0 j te)
theorem de_lend {X : Cx} {Γ : GI} {e : Expr} {te : DTE} (j : Nat) (he : DE X Γ e te) : DE X Γ e (dLend j te) := de_less (de_lend0 j he)
theorem e_lend {j : Nat} {te : DTE} {σ : DSt} {h h1 : MH} {Q : DK} {a : Addr} {ds : List PyData} (e0 : slot σ j = some (.own a)) (s1 : ∀ b o, h1 b = some o → h b = some o) (e1 : h1 a = some (.lst ds)) (nt : (∀ b xs, h1 b ≠ some (.tpl xs)) ∧ ∀ b xs, h1 b ≠ some (.ptp xs)) (k : te (σ.set j (some (.d (.list ds)))) (fun _ => none) fun z _ => ∃ d, z = .d d ∧ noLst d = true ∧ Q z h1) : dLend j te σ h Q := by
  refine ⟨h1, s1, ?_⟩
  unfold dLend0
  rw [e0]
  dsimp only
  rw [e1]
  exact ⟨nt, k⟩
/-- a heap without its own tuples -/
def noTp (h : MH) : MH := fun b => match h b with
  | some (.tpl _) => none
  | some (.ptp _) => none
  | o => o
theorem noTp_sub {h : MH} : ∀ b o, noTp h b = some o → h b = some o := fun b o e => by
  unfold noTp at e
  split at e
  · cases e
  · cases e
  · exact e
theorem noTp_nt {h : MH} : (∀ b xs, noTp h b ≠ some (.tpl xs)) ∧ ∀ b xs, noTp h b ≠ some (.ptp xs) := by
  refine ⟨fun b xs e => ?_, fun b xs e => ?_⟩
  · unfold noTp at e
    split at e
    · cases e
    · cases e
    · rename_i n _
      exact n xs e
  · unfold noTp at e
    split at e
    · cases e
    · cases e
    · rename_i _ n
      exact n xs e
theorem noTp_keep {h : MH} {b : Addr} (n : ∀ xs, h b ≠ some (.tpl xs)) (n2 : ∀ xs, h b ≠ some (.ptp xs)) : noTp h b = h b := by
  unfold noTp
  split
  · rename_i xs e
    exact absurd e (n xs)
  · rename_i xs e
    exact absurd e (n2 xs)
  · rfl
theorem noTp_put {h : MH} {a : Addr} {o : MO} (n : ∀ xs, o ≠ .tpl xs) (n2 : ∀ xs, o ≠ .ptp xs) : noTp (mput h a o) = mput (noTp h) a o := by
  funext b
  by_cases q : b = a
  · subst q
    rw [mput_same, noTp_keep (fun xs e => by rw [mput_same] at e; cases e; exact n xs rfl) (fun xs e => by rw [mput_same] at e; cases e; exact n2 xs rfl), mput_same]
  · rw [mput_ne q]
    unfold noTp
    rw [mput_ne q]
theorem noTp_id {h : MH} (n : ∀ b xs, h b ≠ some (.tpl xs)) (n2 : ∀ b xs, h b ≠ some (.ptp xs)) : noTp h = h := funext fun b => noTp_keep (n b) (n2 b)
end DL

namespace DL
open PySem PySem.Spec PyProof.Rows L2
set_option autoImplicit true

abbrev zmI1 (a : Addr) : Obj := { cls := .type "tuple_iterator", data := .fields #[.ref a, .int 0 0] }
abbrev zmI2 (b : Addr) : Obj := { cls := .type "list_iterator", data := .fields #[.ref b, .int 0 0] }
abbrev zmP (x y : Value) : Obj := { cls := .type "tuple", data := .seq #[x, y] }
abbrev zmO (TI TO : Addr) : Obj := { cls := .type "zip", data := .fields #[.none, .bool false, .bool false, .ref TI, .ref TO] }
def zmHeap (h : Heap) (a b : Addr) : Heap :=
  ((((h.push (zmI1 a)).push (zmI2 b)).push (zmP (.ref h.objs.size) (.ref (h.objs.size + 1)))).push (zmP .none .none)).push (zmO (h.objs.size + 2) (h.objs.size + 3))
theorem zm_new (a b : Addr) (xs ys : Array Value) :
    Meets (Builtin.«zip.__new__» ⟨[.type "zip", .ref a, .ref b], []⟩) (fun _ R s => s.heap.IsTuple a xs ∧ s.heap.IsList b ys ∧ R (.ok (.ret (.ref (s.heap.objs.size + 4)))) { s with heap := zmHeap s.heap a b }) :=
  .of_wp fun prog w A R s h => by
    obtain ⟨hp, g, d, tk, os⟩ := s
    obtain ⟨ha, hb, h⟩ := h
    have hsub := sub_zip
    have i1 : Heap.IsTuple (Shared.heap ⟨hp, g, d, tk, os⟩) a xs := ha
    have i2 : Heap.IsList (Shared.heap ⟨hp.push (zmI1 a), g, d, tk, os⟩) b ys := Heap.IsList.push hb _
    wp_walk using wpAny_pyIter_tuple i1, wpAny_pyIter_list i2
    refine ⟨_, rfl, ?_⟩
    simpa [zmHeap, Heap.size_push, Nat.add_assoc, Builtin.SmallTypes.ownedTupleFields] using h
/-- what a zip of the tuple a and the list b leans on -/
structure ZmAt (h : Heap) (z TI TO i1 i2 a b : Addr) (k : Nat) (f0 : Value) : Prop where
  zip : IsZip h z TI TO f0
  its : IsPair h TI (.ref i1) (.ref i2)
  out : ∃ x y, IsPair h TO x y
  one : h.IsTupleIter i1 a k
  two : h.IsListIter i2 b k
theorem ZmAt.up {g g' : Heap} {z TI TO i1 i2 a b : Addr} {n : Nat} {f0 : Value} (Z : ZmAt g z TI TO i1 i2 a b n f0) (k : ∀ c, c ∈ [z, TI, TO, i1, i2] → ∀ o, g.get? c = some o → g'.get? c = some o) : ZmAt g' z TI TO i1 i2 a b n f0 :=
  ⟨k _ (by simp) _ Z.zip, k _ (by simp) _ Z.its, Z.out.imp fun _ => Exists.imp fun _ => k _ (by simp) _, Z.one.at fun o => k _ (by simp) o, Z.two.at fun o => k _ (by simp) o⟩
theorem ZmAt.in_ {g : Heap} {z TI TO i1 i2 a b : Addr} {n : Nat} {f0 : Value} (Z : ZmAt g z TI TO i1 i2 a b n f0) : ∀ c ∈ [z, TI, TO, i1, i2], ∃ o, g.get? c = some o ∧ ∀ v, o.data ≠ .cell v :=
  five ⟨_, Z.zip, fun _ => nofun⟩ ⟨_, Z.its, fun _ => nofun⟩ (Z.out.elim fun _ => Exists.rec fun _ e => ⟨_, e, fun _ => nofun⟩) (Z.one.imp fun _ p => ⟨p.1, fun _ q => by rw [p.2.2] at q; cases q⟩) (Z.two.imp fun _ p => ⟨p.1, fun _ q => by rw [p.2.2] at q; cases q⟩)
theorem zm_sep {z TI TO i1 i2 a b : Addr} (D : ZipApart z TI TO i1 i2 a b) : ZipSep2 z TI TO i1 i2 [i1, a] [i2, b] := by
  have D1 := D.i1z
  have D2 := D.i2z
  refine ⟨D.TIz, D.TOz, D.TITO, D.TIi1, by simp, ?_, ?_, D.TIi2, by simp, ?_, ?_, ?_, ?_⟩ <;> intro q <;> rcases List.mem_cons.mp q with q | q
  · exact D1 q.symm
  · exact D.l1z (List.mem_singleton.mp q).symm
  · exact D.TOi1 q
  · exact D.l1TO (List.mem_singleton.mp q).symm
  · exact D2 q.symm
  · exact D.l2z (List.mem_singleton.mp q).symm
  · exact D.TOi2 q
  · exact D.l2TO (List.mem_singleton.mp q).symm
  · exact D.i12 q
  · exact D.l2i1 (List.mem_singleton.mp q).symm
  · exact D.i12 q.symm
  · exact D.l1i2 (List.mem_singleton.mp q).symm
section
variable {prog : Program} {w : World} {A : Around} {E : Value → Shared → Prop} {s : Shared}
theorem zm_next {z TI TO i1 i2 a b : Addr} {k : Nat} {xs ys : Array Value} {x y : Value} {Q : Option Value → Shared → Prop} (hh : A.handled = none) (D : ZipApart z TI TO i1 i2 a b) (Z : ZmAt s.heap z TI TO i1 i2 a b k .none) (la : s.heap.IsTuple a xs) (lb : s.heap.IsList b ys) (hx : xs[k]? = some x) (hy : ys[k]? = some y)
    (hQ : ∀ g tk, ZmAt g z TI TO i1 i2 a b (k + 1) (rawInt s.heap.objs.size) → IsPair g s.heap.objs.size x y → (∀ c o, c ≠ z → c ≠ TO → c ≠ i1 → c ≠ i2 → s.heap.get? c = some o → g.get? c = some o) → Q (some (.ref s.heap.objs.size)) { s with heap := g, toks := tk }) :
    wpAny (model prog w) A (pyNext (.ref z)) Q E s := by
  obtain ⟨Zz, Zi, ⟨u, v, Zo⟩, Z1, Z2⟩ := Z
  have n1 : k < xs.size := (Array.getElem?_eq_some_iff.mp hx).1
  have n2 : k < ys.size := (Array.getElem?_eq_some_iff.mp hy).1
  refine wpAny_pyNext_zipD2_item (zm_sep D) (Draws.tuple (A := A.in1) hh i1 a D.l1i1 xs) (Draws.list (A := A.in1) hh i2 b D.l2i2 ys) Zz Zi Zo ⟨Z1, la⟩ ⟨Z2, lb⟩ n1 n2 fun x1 x2 g tk e1 e2 gz gp s1 s2 gt _ old => ?_
  have ex : x1 = x := Option.some.inj (e1.symm.trans hx)
  have ey : x2 = y := Option.some.inj (e2.symm.trans hy)
  subst ex ey
  exact hQ g tk ⟨gz, old _ _ D.TIz D.TITO D.TIi1 D.TIi2 Zi, ⟨_, _, gp⟩, s1.1, s2.1⟩ gt old
theorem zm_over {z TI TO i1 i2 a b : Addr} {k : Nat} {xs ys : Array Value} {Q : Option Value → Shared → Prop} (hh : A.handled = none) (D : ZipApart z TI TO i1 i2 a b) (Z : ZmAt s.heap z TI TO i1 i2 a b k .none) (la : s.heap.IsTuple a xs) (lb : s.heap.IsList b ys) (l1 : k ≤ xs.size) (l2 : k ≤ ys.size) (e : k = xs.size ∨ k = ys.size)
    (hQ : ∀ g tk, (∀ c o, c ≠ z → c ≠ TO → c ≠ i1 → c ≠ i2 → s.heap.get? c = some o → g.get? c = some o) → Q none { s with heap := g, toks := tk }) : wpAny (model prog w) A (pyNext (.ref z)) Q E s := by
  obtain ⟨Zz, Zi, ⟨u, v, Zo⟩, Z1, Z2⟩ := Z
  exact wpAny_pyNext_zipD2_end (zm_sep D) (Draws.tuple (A := A.in1) hh i1 a D.l1i1 xs) (Draws.list (A := A.in1) hh i2 b D.l2i2 ys) Zz Zi Zo ⟨Z1, la⟩ ⟨Z2, lb⟩ l1 l2 e fun g tk old => hQ g tk old
theorem zm_begins {a b : Addr} {xs ys : Array Value} {Q : Value → Shared → Prop} (la : s.heap.IsTuple a xs) (lb : s.heap.IsList b ys)
    (h : ∀ g, ZmAt g (s.heap.objs.size + 4) (s.heap.objs.size + 2) (s.heap.objs.size + 3) s.heap.objs.size (s.heap.objs.size + 1) a b 0 .none → (∀ c o, s.heap.get? c = some o → g.get? c = some o) → Q (.ref (s.heap.objs.size + 4)) { s with heap := g }) :
    wpAny (model prog w) A (call (.type "zip") [.ref a, .ref b]) Q E s := by
  refine callType_new PySem.F.called_zip (by decide) (PySem.F.typeCall_zip_2 _ _) (PySem.F.newCall_zip_2 _ _) (fun obj => PySem.F.args_object_init_3 obj _ _) PySem.F.entry_zip_new (zm_new a b xs ys) ⟨la, lb, ?_⟩
  obtain ⟨h1, e1⟩ : ∃ h1, h1 = s.heap.push (zmI1 a) := ⟨_, rfl⟩
  obtain ⟨h2, e2⟩ : ∃ h2, h2 = h1.push (zmI2 b) := ⟨_, rfl⟩
  obtain ⟨h3, e3⟩ : ∃ h3, h3 = h2.push (zmP (.ref s.heap.objs.size) (.ref (s.heap.objs.size + 1))) := ⟨_, rfl⟩
  obtain ⟨h4, e4⟩ : ∃ h4, h4 = h3.push (zmP .none .none) := ⟨_, rfl⟩
  have e5 : zmHeap s.heap a b = h4.push (zmO (s.heap.objs.size + 2) (s.heap.objs.size + 3)) := by rw [e4, e3, e2, e1]; rfl
  have n1 : h1.objs.size = s.heap.objs.size + 1 := by rw [e1, Heap.size_push]
  have n2 : h2.objs.size = s.heap.objs.size + 2 := by rw [e2, Heap.size_push, n1]
  have n3 : h3.objs.size = s.heap.objs.size + 3 := by rw [e3, Heap.size_push, n2]
  have n4 : h4.objs.size = s.heap.objs.size + 4 := by rw [e4, Heap.size_push, n3]
  have u5 : ∀ {c o}, h4.get? c = some o → (zmHeap s.heap a b).get? c = some o := fun q => by rw [e5]; exact Heap.get?_push_of_some _ q
  have u4 : ∀ {c o}, h3.get? c = some o → (zmHeap s.heap a b).get? c = some o := fun q => u5 (by rw [e4]; exact Heap.get?_push_of_some _ q)
  have u3 : ∀ {c o}, h2.get? c = some o → (zmHeap s.heap a b).get? c = some o := fun q => u4 (by rw [e3]; exact Heap.get?_push_of_some _ q)
  have u2 : ∀ {c o}, h1.get? c = some o → (zmHeap s.heap a b).get? c = some o := fun q => u3 (by rw [e2]; exact Heap.get?_push_of_some _ q)
  have g5 : (zmHeap s.heap a b).get? (s.heap.objs.size + 4) = some (zmO (s.heap.objs.size + 2) (s.heap.objs.size + 3)) := by rw [e5, ← n4]; exact Heap.get?_push_size _ rfl
  have g4 : (zmHeap s.heap a b).get? (s.heap.objs.size + 3) = some (zmP .none .none) := u5 (by rw [e4, ← n3]; exact Heap.get?_push_size _ rfl)
  have g3 : (zmHeap s.heap a b).get? (s.heap.objs.size + 2) = some (zmP (.ref s.heap.objs.size) (.ref (s.heap.objs.size + 1))) := u4 (by rw [e3, ← n2]; exact Heap.get?_push_size _ rfl)
  have g2 : (zmHeap s.heap a b).get? (s.heap.objs.size + 1) = some (zmI2 b) := u3 (by rw [e2, ← n1]; exact Heap.get?_push_size _ rfl)
  have g1 : (zmHeap s.heap a b).get? s.heap.objs.size = some (zmI1 a) := u2 (by rw [e1]; exact Heap.get?_push_size _ rfl)
  exact ⟨⟨_, g5, rfl⟩, h _ ⟨g5, g3, ⟨_, _, g4⟩, ⟨_, g1, rfl, rfl⟩, ⟨_, g2, rfl, rfl⟩⟩ fun c o q => u2 (by rw [e1]; exact Heap.get?_push_of_some _ q)⟩
end
def ItzM (K : PySem.W.Frag) (a b : Addr) : It :=
  ⟨fun i H => ∃ (xs ys : List V) (x y : V), SqT K H a xs ∧ SqL K H b ys ∧ xs[i]? = some x ∧ ys[i]? = some y,
    fun i H v H' => ∃ T x y, v = .ref T ∧ H T = none ∧ H' = upd H T (.tup [x, y]) ∧ (∀ xs, SqT K H a xs → xs[i]? = some x) ∧ ∀ ys, SqL K H b ys → ys[i]? = some y,
    fun i H => ∃ xs ys : List V, SqT K H a xs ∧ SqL K H b ys ∧ i ≤ xs.length ∧ i ≤ ys.length ∧ (i = xs.length ∨ i = ys.length)⟩
theorem turn_zm {P : Program} {w : World} {K : PySem.W.Frag} {elts : List Expr} {kk : Nat} {tpos : Pos} {a b z TI TO i1 i2 : Addr} (D : ZipApart z TI TO i1 i2 a b) :
    Turn P w K (.Tuple elts kk tpos) (ItzM K a b) [z, TI, TO, i1, i2] z (fun i h => ZmAt h z TI TO i1 i2 a b i .none) where
  mem := List.mem_cons_self
  obj := fun _ _ Z => Z.in_
  keep := fun _ _ _ Z k => Z.up k
  item := by
    rintro X rfl rfl rfl hc n pins s σ H E inv fp Z ⟨ls, rs, l, r, ql, qr, gl, gr⟩
    obtain ⟨vl, al, bl, _⟩ := inv.tuple ql
    obtain ⟨vr, ar, br, _⟩ := inv.list qr
    obtain ⟨ul, cl, dl⟩ := al.get gl
    obtain ⟨ur, cr, dr⟩ := ar.get gr
    have small := fun c hc => (Z.in_ c hc).elim fun _ e => Heap.lt_size e.1
    refine zm_next (inv.ok.hd hc) D Z bl br.isList (x := ul) (y := ur) (by simpa using cl) (by simpa using cr) fun g tk Zg pair old => ⟨_, rfl, ?_⟩
    refine wpAny_letOwnedTupleGo_zip (s := { s with heap := g, toks := tk }) Zg.zip fun g2 zg2 same => ?_
    have pair2 := (same.2 _ (Nat.ne_of_gt (small z List.mem_cons_self))).trans pair
    have Zg2 : ZmAt g2 z TI TO i1 i2 a b (n + 1) .none := by
      obtain ⟨_, Zi, ⟨u, v, Zo⟩, Z1, Z2⟩ := Zg
      exact ⟨zg2, (same.2 _ D.TIz).trans Zi, ⟨u, v, (same.2 _ D.TOz).trans Zo⟩, Z1.at fun o e => (same.2 _ D.i1z).trans e, Z2.at fun o e => (same.2 _ D.i2z).trans e⟩
    have inv2 := inv.turnedNew (T := s.heap.objs.size) (ob := .tup [l, r]) (h' := g2) (t' := tk) (ch := [z, TI, TO, i1, i2]) (fun c o out e => by
      simp only [List.mem_cons, List.not_mem_nil, or_false, not_or] at out
      exact (same.2 c out.1).trans (old c o out.1 out.2.2.1 out.2.2.2.1 out.2.2.2.2 e)) fp (Nat.le_refl _) ⟨(by decide : 2 ≤ sizeLine), [ul, ur], .cons dl (.cons dr .nil), _, pair2, rfl, _, rfl⟩
    exact ⟨.ref s.heap.objs.size, _, inv2, rfl, ⟨_, l, r, rfl, inv.hok.fresh (Nat.le_refl _), rfl, fun m hm => (by rw [inv.tuple_inj hm ql]; exact gl), fun m hm => (by rw [inv.list_inj hm qr]; exact gr)⟩, Zg2, fun c hc => by rw [upd_ne (Nat.ne_of_lt (small c hc))]; exact (fp c hc).1⟩
  done := by
    rintro X rfl rfl rfl hc n pins s σ H E inv fp Z ⟨ls, rs, ql, qr, n1, n2, n3⟩
    obtain ⟨vl, al, bl, _⟩ := inv.tuple ql
    obtain ⟨vr, ar, br, _⟩ := inv.list qr
    have el := al.length
    have er := ar.length
    refine zm_over (inv.ok.hd hc) D Z bl br.isList (by simp; omega) (by simp; omega) (by simp; omega) fun g tk old => ⟨rfl, inv.turnedL (t' := tk) (ch := [z, TI, TO, i1, i2]) (fun c o out e => ?_) fp⟩
    simp only [List.mem_cons, List.not_mem_nil, or_false, not_or] at out
    exact old c o out.1 out.2.2.1 out.2.2.2.1 out.2.2.2.2 e
  self := fun _ _ _ _ _ Z => wpAny_pyIter_zip Z.zip
def iZipM (K : PySem.W.Frag) (ta : TA) : TI := fun σ H R => ta σ H fun vs H1 => ∃ a b xs ys, vs = [.ref a, .ref b] ∧ SqT K H1 a xs ∧ SqL K H1 b ys ∧ R (ItzM K a b) H1
theorem pi_zm {X : Cx} {e e2 : Expr} {ta : TA} {p pos tpos : Pos} {elts : List Expr} {kk : Nat} (hg : Gl X "zip") (hm : X.mg "zip" = none) (ha : PA X [e, e2] ta)
    (hs : starEach [e, e2] X.env = (false, eval e X.env) :: starEach [e2] X.env := by rfl) (hpl : (backTo pos (starEach [e2] X.env)).any (·.1) = false := by rfl) :
    PI X (.Tuple elts kk tpos) (.Call (.Name "zip" p) [e, e2] [] pos) (iZipM X.K ta) := by
  refine ⟨fun pins s σ H R I h => ?_⟩
  refine Call_ (ld_blt I hg hm PyProof.Rows.boot_zip (PyProof.Rows.callWith_type1 (thn (ha.run pos pins s σ H _ I h) fun us s2 ⟨vs, H1, I2, r1, q1⟩ => ?_) hs hpl))
  obtain ⟨a, b, xs, ys, ex, hqx, hqy, q⟩ := q1
  subst ex
  cases r1 with
  | cons r rr =>
    cases rr with
    | cons r' rr =>
      cases rr
      cases r
      cases r'
      obtain ⟨its, rv, p1, _⟩ := I2.tuple hqx
      obtain ⟨its2, rv2, p2, _⟩ := I2.list hqy
      have la : a < s2.heap.objs.size := by
        obtain ⟨o1, ho1, _⟩ := id p1
        exact Heap.lt_size ho1
      have lb : b < s2.heap.objs.size := p2.lt
      refine zm_begins p1 p2.isList (s := s2) fun h' Z hk => wpAny_pyIter_zip Z.zip ?_
      have I3 := I2.kept (t' := s2.toks) hk
      refine ⟨s2.heap.objs.size + 4, [s2.heap.objs.size + 4, s2.heap.objs.size + 2, s2.heap.objs.size + 3, s2.heap.objs.size, s2.heap.objs.size + 1], _, _, _, rfl, I3, turn_zm (PySem.W.ktu_apart s2.heap.objs.size a b la lb), Z, fun c hcm => ?_, q⟩
      have hle : s2.heap.objs.size ≤ c := five (P := fun c => s2.heap.objs.size ≤ c) (Nat.le_add_right _ 4) (Nat.le_add_right _ 2) (Nat.le_add_right _ 3) (Nat.le_refl _) (Nat.le_add_right _ 1) c hcm
      exact I2.fpOk hle (I2.hok.fresh hle)
theorem gives_zm {K : PySem.W.Frag} {F : Hp} {a b : Addr} {vs ws : List V} {ds es : List PyData} (h1 : SqT K F a vs) (h2 : SqL K F b ws) (r1 : DpAll K F vs ds) (r2 : DpAll K F ws es) : Gives K F (ItzM K a b) (zipD ds es) := by
  unfold Gives
  have l0 : (zipD ds es).length = min vs.length ws.length := by rw [zipD_len, dps_len r1, dps_len r2]
  rw [l0]
  refine ⟨fun i H hi s => ?_, fun H s => ⟨vs, ws, sqT_up s h1, sqL_up s h2, by omega, by omega, by omega⟩, fun i H x H' hi s y => ⟨s, ?_⟩⟩
  · exact ⟨vs, ws, vs[i]'(by omega), ws[i]'(by omega), sqT_up s h1, sqL_up s h2, List.getElem?_eq_getElem (by omega), List.getElem?_eq_getElem (by omega)⟩
  · obtain ⟨T, p, q, e1, e2, e3, e4, e5⟩ := y
    obtain ⟨da, f1, f2⟩ := dps_getv r1 (e4 _ (sqT_up s h1))
    obtain ⟨db, g1, g2⟩ := dps_getv r2 (e5 _ (sqL_up s h2))
    exact ⟨_, zipD_get f1 g1, .inr ⟨T, p, q, da, db, e1, e2, e3, rfl, f2, g2⟩⟩
def zmK (Q : List PyData → MH → Prop) (x y : SV) (h2 : MH) : Prop := match fz1 x h2 with
  | some (.tuple ds, h3) => (match fz1 y h3 with
    | some (.list es, h4) => Q (zipD ds es) h4
    | _ => False)
  | _ => False
def wZipM (ta tb : DTE) : DTI := fun σ h Q => ta σ h fun x h1 => tb σ h1 fun y h2 => zmK Q x y h2
section
variable {X : Cx} {a b : Expr} {p pos tpos : Pos} {elts : List Expr} {kk : Nat} {ta tb : DTE}
theorem dw_zm (hg : Gl X "zip") (hm : X.mg "zip" = none) (ha : DE X Γ a ta) (hb : DE X Γ b tb) (hs : starEach [a, b] X.env = (false, eval a X.env) :: starEach [b] X.env := by rfl) (hs2 : starEach [b] X.env = (false, eval b X.env) :: starEach [] X.env := by rfl) (hpl : (backTo pos (starEach [b] X.env)).any (·.1) = false := by rfl) :
    DWk X Γ (.Tuple elts kk tpos) (.Call (.Name "zip" p) [a, b] [] pos) (wZipM ta tb) := by
  refine ⟨fun σ h Q Q' k w => ha.mono _ _ _ _ (fun x h1 w1 => hb.mono _ _ _ _ (fun y h2 w2 => ?_) w1) w, pi_imp (pi_zm hg hm (da_cons ha (da_cons hb da_nil hs2) hs).pa hs hpl) fun σ H R ⟨σd, h, rs, rm, w⟩ => ?_⟩
  · unfold zmK at w2 ⊢
    split at w2
    · split at w2
      · exact k _ _ w2
      · exact w2
    · exact w2
  · refine lift_mk (mono_cons ha.mono (mono_cons hb.mono fun _ _ _ _ k w => k _ _ w)) rs rm (C := fun xs h2 => ∃ x y, xs = [x, y] ∧ zmK (fun ds h4 => ∀ J H', PX Γ H h H' h4 → RM X.K Γ H' h4 → Gives X.K (Fz Γ H' h4) J ds → R J H') x y h2) (ha.mono _ _ _ _ (fun x h1 w1 => hb.mono _ _ _ _ (fun y h2 w2 => ⟨x, y, rfl, w2⟩) w1) w) fun xs h1 vs H1 px rs1 rvs rm1 w1 => ?_
    obtain ⟨x, y, rfl, w1⟩ := w1
    obtain ⟨v, u, rfl, rv, ru⟩ := rvs2 rvs
    unfold zmK at w1
    split at w1
    · rename_i ds h3 e1
      split at w1
      · rename_i es h4 e2
        obtain ⟨p1, r1, d1⟩ := fz1_ok rv rm1 e1
        obtain ⟨p2, r2, d2⟩ := fz1_ok (ru.up p1) r1 e2
        have d1' := dp_up p2.ex _ _ d1
        cases d1' with
        | @tup a1 vs1 _ s1 dd1 => cases d2 with
          | @lst a2 vs2 _ s2 dd2 => exact ⟨a1, a2, vs1, vs2, rfl, sqT_up fz_sub s1, sqL_up fz_sub s2, w1 _ _ ((px.trans p1).trans p2) r2 (gives_zm s1 s2 dd1 dd2)⟩
      · exact w1.elim
    · exact w1.elim
end
theorem e_zipM {ta tb : DTE} {σ : DSt} {h : MH} {QL : List PyData → MH → Prop} (k : ta σ h fun x h1 => tb σ h1 fun y h2 => zmK QL x y h2) : wZipM ta tb σ h QL := k
theorem k_zipM {h : MH} {QL : List PyData → MH → Prop} {ds es : List PyData} (k : QL (zipD ds es) h) : zmK QL (.d (.tuple ds)) (.d (.list es)) h := k
end DL

namespace DL
open PySem PySem.Spec PyProof.Rows L2
set_option autoImplicit true

/-- a caught exception at a, at rest in the heap g: what is known while clauses are tried -/
structure Rest (X : Cx) (pins : List (Addr × Obj)) (a : Addr) (B : Heap) (sI : Shared) (σ' : L2.St) (H' : Hp) (cls : Value) (d : Option Addr) (s' : Shared) (g : Heap) : Prop where
  J : Inv X pins σ' H' sI
  nb : ∀ b o, sI.heap.get? b = some o → b ∉ frs X.stack → B.get? b = some o
  up : sI.heap.UpToSlots g
  fl : HandSPX.FlyingZ B (X.env :: X.outer) a (Zc cls d) g
  na : H' a = none
  os : s'.os = sI.os
  ag : AllBare s'.gens
section
variable {X : Cx} {pins : List (Addr × Obj)} {a : Addr} {B : Heap} {sI s' : Shared} {σ' : L2.St} {H' : Hp} {cls : Value} {d : Option Addr} {g : Heap}
theorem Rest.inv (R : Rest X pins a B sI σ' H' cls d s' g) : Inv X pins σ' H' { s' with heap := g } := R.J.landed (s' := { s' with heap := g }) R.nb R.fl.1 R.up R.os R.ag
theorem Rest.apart (R : Rest X pins a B sI σ' H' cls d s' g) (hf : X.env.frame = some X.env.locals) {oe : Obj} {vs : Array Value} (e : g.get? a = some oe) (ed : oe.data = .fields vs) : a ≠ X.env.locals ∧ a ∉ X.fs := by
  have no : a ∉ frs (X.env :: X.outer) := fun m => by
    obtain ⟨_, o2, e2, n2⟩ := R.fl.2.2.1.mem m
    rw [e] at e2
    cases e2
    exact n2 _ ed
  refine ⟨fun z => no (List.mem_filterMap.mpr ⟨X.env, List.mem_cons_self, by rw [hf, z]⟩), fun m => ?_⟩
  obtain ⟨v, hv, q⟩ := List.mem_filterMap.mp m
  exact no (List.mem_filterMap.mpr ⟨v, List.mem_cons_of_mem _ hv, q⟩)
/-- no clause takes it: on it goes -/
theorem Rest.on {Wout : WX} {D : Ends} (R : Rest X pins a B sI σ' H' cls d s' g) (hs : X.stack = X.env :: X.outer) (hf : X.env.frame = some X.env.locals) (tk : Takes X Wout) (w : Wout cls d σ' H') :
    wpAny (model X.prog X.w) X.A (handleBy (.ref a) X.env []) (SP X pins D) X.xe { s' with heap := g } := by
  apply wpAny_handleBy_nil
  obtain ⟨_, _, _, oe, vs, T, _, _, ea, _, ed, ev, _⟩ := id R.fl
  unfold PySem.passOn
  refine wpAny_bind (wpAny_field ea ed ev ?_)
  rw [if_neg (show ¬ ((Value.ref T == Value.none) = true) by simp)]
  have last : wpAny (model X.prog X.w) X.A (setFlight (.ref a) X.env.frame) (fun _ z => wpAny (model X.prog X.w) X.A (throw (.ref a) : Sem Flow) (SP X pins D) X.xe z) X.xe { s' with heap := g } := by
    rw [hf]
    apply HandSPX.setFlight_upZ (s := { s' with heap := g }) R.fl
    intro k held rise
    apply wpAny_throw
    exact tk _ _ ⟨a, B, sI, pins, σ', H', cls, d, rfl, R.J, R.nb, R.up.trans rise, .inr (.inr (by rw [hs]; exact held)), R.na, R.os, R.ag, w⟩
  first
    | exact wpAny_bind (wpAny_pure (wpAny_bind last))
    | exact wpAny_bind last
/-- its suite -/
theorem Rest.suite {D : Ends} {n : Str} {i : Nat} {b₀ : Stmt} {body : List Stmt} {pos' : Pos} {ts : TS} (R : Rest X pins a B sI σ' H' cls d s' g) (hf : X.env.frame = some X.env.locals) (hN : X.N.Nodup) (hi : X.N[i]? = some n) (hln : X.env.kindOf n = some .local)
    (run : ∀ (oe : Obj) (pn : List (Addr × Obj)), Zc cls d oe → (∃ vs, oe.data = .fields vs) → PSs (X.suite a ((a, oe) :: pn)) (b₀ :: body) ts)
    (w : ts { nx := fun σ2 H2 => D.nx (σ2.set i none) H2, rt := D.rt, bk := fun σ2 H2 => D.bk (σ2.set i none) H2, ct := fun σ2 H2 => D.ct (σ2.set i none) H2 } (σ'.set i (some (.ref a))) H') {rest : List ExceptHandler} {E : Expr} :
    ∀ {Q : Prop}, ((∀ (k : Heap), Rest X pins a B sI σ' H' cls d s' k → ∃ oe, (∃ vs, oe.data = .fields vs) ∧ Zc cls d oe ∧ Inv (X.suite a ((a, oe) :: (X.pn ++ pins))) [] σ' H' { s' with heap := k }) → Q) → Q := by
  intro Q k
  refine k fun g2 R2 => ?_
  obtain ⟨oe, vs, ea, hz, ed⟩ := R2.fl.there
  obtain ⟨n1, n2⟩ := R2.apart hf ea ed
  exact ⟨oe, ⟨vs, ed⟩, hz, R2.inv.suite ea ed R2.na n1 n2⟩
end
section
variable {X : Cx} {pins : List (Addr × Obj)} {a : Addr} {B : Heap} {sI s' : Shared} {σ' : L2.St} {H' : Hp} {cls : Value} {d : Option Addr} {g : Heap}
end
section
variable {X : Cx} {x1 x2 m1 m2 : Str} {c1 c2 : Value} {body s1 s2 : List Stmt} {b1 b2 : Stmt} {np1 np2 pos p1 p2 : Pos} {kt : Str → Str → Option Bool} {tb : DXS → DTS} {t1 t2 : Addr → DExc → DTS} {Eo : DXS}
/-- a suite, told of an exception in the deep reading -/
theorem suite_lift {Γ Γ2 : GI} {i : Nat} {ts : Addr → DExc → DTS} (ms : ∀ a y, MonoS (ts a y)) {D : Ends} {H H' : Hp} {h h' : MH} {σ' : L2.St} {σd' : DSt} {y : DExc} {cls : Value} {d : Option Addr} {a : Addr} (e2 : Γ2 = Γ.at H h) (rs' : RSt X.K Γ2 H' h' σd' σ') (rm' : RM X.K Γ2 H' h') (rx : RX X.K Γ2 H' h' y cls d)
    (w : ts a y (clrN i (liftE X.K Γ H h D)) (σd'.set i (some (.own a))) h') :
    liftS X.K (Γ2.exc X.K y cls d) (ts a y) { nx := fun σ2 H2 => D.nx (σ2.set i none) H2, rt := D.rt, bk := fun σ2 H2 => D.bk (σ2.set i none) H2, ct := fun σ2 H2 => D.ct (σ2.set i none) H2 } (σ'.set i (some (.ref a))) H' := by
  subst e2
  refine ⟨σd'.set i (some (.own a)), h', ?_, ⟨rm'.ob, ⟨rm'.g, rx⟩, rm'.nx, rm'.tb⟩, ms _ _ _ _ _ _ ?_ w⟩
  · exact RSt.set (Γ := Γ) (x := .own a) (v := .ref a) rs' rfl
  · exact ⟨fun _ _ z _ H2 _ rs2 rm2 => z _ H2 rm2.g.1.2 (RSt.clr (Γ := Γ) rs2 none) rm2.unE.un, fun _ _ z v H2 _ rv2 rm2 => z v H2 rm2.g.1.2 rv2 rm2.unE.un, fun _ _ z _ H2 _ rs2 rm2 => z _ H2 rm2.g.1.2 (RSt.clr (Γ := Γ) rs2 none) rm2.unE.un, fun _ _ z _ H2 _ rs2 rm2 => z _ H2 rm2.g.1.2 (RSt.clr (Γ := Γ) rs2 none) rm2.unE.un⟩
end
end DL

namespace DL
open PySem PySem.Spec PyProof.Rows L2
set_option autoImplicit true

/-- what a lambda does: from a heap to an answer, or to an error -/
abbrev DLm := MH → DK → DXK → Prop
/-- a() in the def that got it, f being what stands in its slot -/
def dCallL (i : Nat) (f : Addr) (L : DLm) (Ed : DXS) : DTE := fun σ h Q => slot σ i = some (.own f) ∧ L h Q fun x h2 => Ed x σ h2
/-- a() is understood wherever the def stands -/
def LAct (Z : Cx) (Γ : GI) (a : Str) (f : Addr) (L : DLm) : Prop := ∀ (pn : List (Addr × Obj)) (xe : Value → Shared → Prop) (Γ1 : GI) (Ed : DXS) (p1 p2 : Pos), Γ1.T = Γ.T → Γ1.x = Γ.x → (∀ H h, Γ1.G H h → Γ.G H h) → Takes (Z.tr pn xe) (liftX Z.K Γ1 Ed) →
  DE (Z.tr pn xe) Γ1 (.Call (.Name a p1) [] [] p2) (dCallL 0 f L Ed)
section
variable {P : Program} {w : World} {K : PySem.W.Frag} {mg : Str → Option Value} {base : Heap}
end
section
variable {X : Cx} {pins : List (Addr × Obj)} {σ : L2.St} {H1 : Hp} {s1 : Shared} {h1 : MH} {σd : DSt}
end
/-- a def that gets a lambda, by its name -/
def FnL (P : Program) (w : World) (K : PySem.W.Frag) (mg : Str → Option Value) (base : Heap) (T : List (Addr × Str)) (k : Nat) (x a : Str) (N : List Str) (t : Addr → DLm → DXS → DTS) : Prop :=
  ∃ (g : Addr) (fd : FuncData) (st : Stmt), Fun K x x st g fd ∧ FnScope N [a] (defScope st) ∧ PySem.W.keepIn K (.ref g) = true ∧ Binds K fd [a] [] ∧ mg x = some (.ref g) ∧ N[0]? = some a ∧ Vis (defScope st) a ∧ (a == ("__debug__" : Str)) = false ∧ (a == ("__classdict__" : Str)) = false ∧
  ∀ (cdv : Value) (A : Around) (outer : List Env) (s : Shared) (H : Hp) (E' : XK) (Γ : GI) (Ed : DXS) (f : Addr) (L : DLm), fd.code = cdv → Γ.T = T → Room k (A.deeper (envOfC x (defScope st) s.heap.objs.size g cdv)) → A.guards = some [] →
    Takes (cxOf (L2.CX P w) P w K mg base N x (defScope st) g cdv A outer s H E') (liftX K Γ Ed) → LAct (cxOf (L2.CX P w) P w K mg base N x (defScope st) g cdv A outer s H E') Γ a f L → DSs (cxOf (L2.CX P w) P w K mg base N x (defScope st) g cdv A outer s H E') Γ (defBody st) (t f L Ed)
theorem FnL.up {P : Program} {w : World} {K : PySem.W.Frag} {mg : Str → Option Value} {base : Heap} {T : List (Addr × Str)} {j k : Nat} {x a : Str} {N : List Str} {t : Addr → DLm → DXS → DTS} (F : FnL P w K mg base T j x a N t) (h : j ≤ k) : FnL P w K mg base T k x a N t := by
  obtain ⟨g, fd, st, f1, f2, f3, f4, f5, f6, f7, f8, f9, f10⟩ := F
  exact ⟨g, fd, st, f1, f2, f3, f4, f5, f6, f7, f8, f9, fun cdv A outer s H E' Γ Ed f L e1 e2 hr => f10 cdv A outer s H E' Γ Ed f L e1 e2 (hr.mono h)⟩
end DL

namespace DL
open PySem PySem.Spec PyProof.Rows L2
set_option autoImplicit true
theorem fly_keeps {base : Heap} {l : List Env} {e : Addr} {Z : Obj → Prop} {h h' : Heap} (f : HandSPX.FlyingZ base l e Z h) (kp : ∀ q u, h.get? q = some u → h'.get? q = some u) : HandSPX.FlyingZ base l e Z h' := by
  obtain ⟨k1, k2, k3, oe, vs, T, oT, ts', he, hz, hd, h1, hr1, hr2, hr3, hr4, hr5⟩ := f
  exact ⟨fun b u q => kp _ _ (k1 b u q), k2, k3.of_keeps fun b u q _ => ⟨u, kp _ _ q, rfl⟩, oe, vs, T, oT, ts', kp _ _ he, hz, hd, h1, hr1, hr2, kp _ _ hr3, hr4, hr5⟩
/-- a clause's test answers whether the caught one is of its classes -/
def TestT (X : Cx) (tst : Expr) (ex : Value → Option Bool) : Prop := ∀ (a : Addr) (oe : Obj) (pn : List (Addr × Obj)) (σ : L2.St) (H : Hp) (s : Shared) (cls : Value) (b : Bool), Inv (X.suite a ((a, oe) :: pn)) [] σ H s → X.K.In s.heap →
  PySem.W.Looks (model X.prog X.w) s.heap (typeOf (.ref a)) cls → ex cls = some b → ∀ (A2 : Around) (Q : Bool → Shared → Prop) (E E2 : Value → Shared → Prop), (∀ h', (∀ q o, s.heap.get? q = some o → h'.get? q = some o) → Q b { s with heap := h' }) →
    wpAny (model X.prog X.w) (X.A.mark (some (.ref a))) (eval tst X.env) (fun c s1 => wpAny (model X.prog X.w) A2 (excMatches (.ref a) c) Q E2 s1) E s
section
variable {X : Cx} {tst : Expr} {ex : Value → Option Bool} {body suite : List Stmt} {b₀ : Stmt} {pos pos' : Pos} {tb : WX → TS} {ts : Addr → Value → Option Addr → TS} {Wout : WX}
end
/-- which of the classes: all known -/
def manyK (kt : Str → Str → Option Bool) (c : Str) : List Str → Option Bool
  | [] => some false
  | n :: r => match kt c n, manyK kt c r with
    | some a, some b => some (a || b)
    | _, _ => none
section
variable {X : Cx} {x1 x2 x3 x4 : Str} {c1 c2 c3 c4 : Value} {p1 p2 p3 p4 pt : Pos} {kt' : Nat}
end
section
variable {X : Cx} {tst : Expr} {cs : List Value} {ns : List Str} {body suite : List Stmt} {b₀ : Stmt} {pos pos' : Pos} {kt : Str → Str → Option Bool} {tb : DXS → DTS} {ts : Addr → DExc → DTS} {Eo : DXS}
end
end DL

namespace DL
open PySem PySem.Spec PyProof.Rows L2
set_option autoImplicit true
def wCls (Wout : WX) (D : Ends) : List Cls0 → WX
  | [] => Wout
  | c :: l => fun cls d σ H => ∃ b, c.ex cls = some b ∧ (b = true → ∀ a, H a = none → c.run D a cls d σ H) ∧ (b = false → wCls Wout D l cls d σ H)
def NmOk (X : Cx) (n : Option Str) (i : Option Nat) : Prop := match n, i with
  | some n, some i => X.N[i]? = some n ∧ X.env.kindOf n = some .local
  | none, none => True
  | _, _ => False
inductive HdsC (X : Cx) : List ExceptHandler → List Cls0 → Prop
  | nil : HdsC X [] []
  | cons {tst : Expr} {n : Option Str} {c : Cls0} {b₀ : Stmt} {body : List Stmt} {pos' : Pos} {hds : List ExceptHandler} {l : List Cls0} (ht : TestT X tst c.ex) (hn : NmOk X n c.nm)
      (run : ∀ (a : Addr) (oe : Obj) (cls : Value) (d : Option Addr) (pn : List (Addr × Obj)), Zc cls d oe → (∃ vs, oe.data = .fields vs) → PSs (X.suite a ((a, oe) :: pn)) (b₀ :: body) (c.ts a cls d)) (r : HdsC X hds l) : HdsC X (.ExceptHandler (some tst) n (b₀ :: body) pos' :: hds) (c :: l)
section
variable {X : Cx} {pins : List (Addr × Obj)} {a : Addr} {B : Heap} {sI s' : Shared} {σ' : L2.St} {H' : Hp} {cls : Value} {d : Option Addr} {g : Heap}
theorem Rest.keep (R : Rest X pins a B sI σ' H' cls d s' g) {g2 : Heap} (kp : ∀ q o, g.get? q = some o → g2.get? q = some o) : Rest X pins a B sI σ' H' cls d s' g2 := ⟨R.J, R.nb, R.up.trans (Heap.UpToSlots.of_keeps kp), fly_keeps R.fl kp, R.na, R.os, R.ag⟩
end
def dWasL (kt : Str → Str → Option Bool) (Eo : DXS) (D : DEnds) : List DCl → DXS
  | [] => Eo
  | c :: l => fun y σ h => ∃ b, manyK kt y.cls c.ns = some b ∧ (b = true → ∀ a, h a = none → c.run D a y σ h) ∧ (b = false → dWasL kt Eo D l y σ h)
section
variable {X : Cx} {Γ : GI} {kt : Str → Str → Option Bool} {tb : DXS → DTS} {Eo : DXS}
/-- clauses and their deep readings -/
inductive DHds (X : Cx) (Γ : GI) (kt : Str → Str → Option Bool) : List ExceptHandler → List DCl → Prop
  | nil : DHds X Γ kt [] []
  | cons {tst : Expr} {n : Option Str} {c : DCl} {ex : Value → Option Bool} {b₀ : Stmt} {body : List Stmt} {pos' : Pos} {hds : List ExceptHandler} {l : List DCl} (ht : TestT X tst ex) (hk : ∀ c1 b, manyK kt c1 c.ns = some b → ex (.ref (He.ga X.K c1)) = some b) (hn : NmOk X n c.nm)
      (run : ∀ (Γ1 : GI), Γ1.T = Γ.T → ∀ (a : Addr) (oe : Obj) (y : DExc) (d : Option Addr) (pn : List (Addr × Obj)), Zc (.ref (He.ga X.K y.cls)) d oe → (∃ vs, oe.data = .fields vs) → DSs (X.suite a ((a, oe) :: pn)) (Γ1.exc X.K y (.ref (He.ga X.K y.cls)) d) (b₀ :: body) (c.ts a y))
      (r : DHds X Γ kt hds l) : DHds X Γ kt (.ExceptHandler (some tst) n (b₀ :: body) pos' :: hds) (c :: l)
/-- a suite without a name, told of an exception in the deep reading -/
theorem suite_lift0 {Γ2 : GI} {ts : Addr → DExc → DTS} (ms : ∀ a y, MonoS (ts a y)) {D : Ends} {H H' : Hp} {h h' : MH} {σ' : L2.St} {σd' : DSt} {y : DExc} {cls : Value} {d : Option Addr} {a : Addr} (e2 : Γ2 = Γ.at H h) (rs' : RSt X.K Γ2 H' h' σd' σ') (rm' : RM X.K Γ2 H' h') (rx : RX X.K Γ2 H' h' y cls d)
    (w : ts a y (liftE X.K Γ H h D) σd' h') : liftS X.K (Γ2.exc X.K y cls d) (ts a y) D σ' H' := by
  subst e2
  refine ⟨σd', h', rs', ⟨rm'.ob, ⟨rm'.g, rx⟩, rm'.nx, rm'.tb⟩, ms _ _ _ _ _ _ ?_ w⟩
  exact ⟨fun _ _ z _ H2 _ rs2 rm2 => z _ H2 rm2.g.1.2 rs2 rm2.unE.un, fun _ _ z v H2 _ rv2 rm2 => z v H2 rm2.g.1.2 rv2 rm2.unE.un, fun _ _ z _ H2 _ rs2 rm2 => z _ H2 rm2.g.1.2 rs2 rm2.unE.un, fun _ _ z _ H2 _ rs2 rm2 => z _ H2 rm2.g.1.2 rs2 rm2.unE.un⟩
def clsUp (X : Cx) (Γ : GI) (c : DCl) (ex : Value → Option Bool) : Cls0 := ⟨ex, c.nm, fun a cls d D σ H => ∃ (Γ1 : GI) (y : DExc), Γ1.T = Γ.T ∧ cls = .ref (He.ga X.K y.cls) ∧ liftS X.K (Γ1.exc X.K y cls d) (c.ts a y) D σ H⟩
theorem DHds.up {hds : List ExceptHandler} {l : List DCl} (hh : DHds X Γ kt hds l) : ∃ l0 : List Cls0, HdsC X hds l0 ∧
    ∀ (D : Ends) (H : Hp) (h : MH) (y : DExc) (cls : Value) (d : Option Addr) (σ' : L2.St) (H' : Hp) (σd' : DSt) (h' : MH), RSt X.K (Γ.at H h) H' h' σd' σ' → RM X.K (Γ.at H h) H' h' → RX X.K (Γ.at H h) H' h' y cls d →
      dWasL kt Eo (liftE X.K Γ H h D) l y σd' h' → wCls (liftX X.K Γ Eo) D l0 cls d σ' H' := by
  induction hh with
  | nil => exact ⟨[], .nil, fun D H h y cls d σ' H' σd' h' rs rm rx w => ⟨y, σd', h', rs, rm.un, rx, w⟩⟩
  | @cons tst n c ex b₀ body pos' hds l ht hk hn run r ih =>
    obtain ⟨l0, a1, a2⟩ := ih
    refine ⟨clsUp X Γ c ex :: l0, .cons (c := clsUp X Γ c ex) ht hn (fun a oe cls d pn hz hfl => ⟨fun pins s σ H D I ⟨Γ1, y, hT, ec, w⟩ => by subst ec; exact (run Γ1 hT a oe y d pn hz hfl).ps.run pins s σ H D I w⟩) a1, ?_⟩
    intro D H h y cls d σ' H' σd' h' rs rm rx ⟨b, hb, yes, no⟩
    have mono : ∀ a y, MonoS (c.ts a y) := fun a y => (run Γ rfl a { cls := .ref (He.ga X.K y.cls), dict := none, data := .fields #[] } y none [] ⟨rfl, rfl⟩ ⟨_, rfl⟩).mono
    refine ⟨b, by rw [rx.1]; exact hk _ _ hb, fun q a na => ?_, fun q => a2 D H h y cls d σ' H' σd' h' rs rm rx (no q)⟩
    have w := yes q a (rm.tracked na)
    obtain ⟨cns, cnm, cts⟩ := c
    unfold DCl.run at w
    unfold Cls0.run
    cases cnm with
    | none => exact ⟨Γ.at H h, y, rfl, rx.1, suite_lift0 mono rfl rs rm rx w⟩
    | some i => exact ⟨Γ.at H h, y, rfl, rx.1, suite_lift mono rfl rs rm rx w⟩
end
section
variable {X : Cx} {x1 x2 x3 x4 x5 : Str} {c1 c2 c3 c4 c5 : Value} {p1 p2 p3 p4 p5 pt : Pos} {kt' : Nat}
end
end DL

namespace DL
open PySem PySem.Spec PyProof.Rows L2
set_option autoImplicit true

/-- what the set S holds behind the first i of ks -/
def HoldsT (P : Program) (w : World) (S : Addr) (ks : List (Addr × List Int)) (i : Nat) (h : Heap) : Prop := ∃ (L : List (Addr × List Int)) (es : Array (Int × Value)) (ep : Nat) (t : SetTable), SetTR P w h S L es ep t ∧ Got ks i L
abbrev OldIn (h0 h : Heap) : Prop := ∀ b o, h0.get? b = some o → h.get? b = some o
section
variable {P : Program} {w : World} {A : Around} {E : Value → Shared → Prop} {s s' : Shared} {h h' h0 : Heap} {S : Addr} {ks : List (Addr × List Int)} {i : Nat} {p : Addr × List Int}
theorem HoldsT.moved (H : HoldsT P w S ks i h) (a : ∀ o, h.get? S = some o → h'.get? S = some o) (tp : ∀ q ∈ ks, IsT P w h' q.2 q.1) : HoldsT P w S ks i h' := by
  obtain ⟨L, es, ep, t, R, g⟩ := H
  exact ⟨L, es, ep, t, R.keep a fun q hq => tp q (List.mem_of_mem_take (g.sub q hq)), g⟩
end
theorem len_subF {α : Type} [DecidableEq α] : ∀ (l D : List α), l.Nodup → (∀ x ∈ l, x ∈ D) → l.length ≤ D.length
  | [], _, _, _ => Nat.zero_le _
  | x :: l, D, n, h => by
    have hx := h x List.mem_cons_self
    have n2 := List.nodup_cons.mp n
    have r := len_subF l (D.erase x) n2.2 fun y hy => (List.mem_erase_of_ne fun z => n2.1 (by rw [← z]; exact hy)).mpr (h y (List.mem_cons_of_mem _ hy))
    rw [List.length_erase_of_mem hx] at r
    have := List.length_pos_of_mem hx
    rw [List.length_cons]
    omega
section
variable {X : Cx} {a : Expr} {ta : TE}
end
section
variable {X : Cx} {Γ : GI} {a : Expr} {pos p2 : Pos}
end
end DL

namespace DL
open PySem PySem.Spec PyProof.Rows L2
set_option autoImplicit true

def isS (p : Bool) (h : Heap) (a : Addr) (xs : Array Value) : Prop := match p with
  | true => h.IsTuple a xs
  | false => h.IsList a xs
theorem isI.in_ {p : Bool} {h : Heap} {a l : Addr} {i : Nat} (x : isI p h a l i) : ∃ o, h.get? a = some o ∧ ∀ v, o.data ≠ .cell v := by
  cases p with
  | true =>
    obtain ⟨o, p1, _, p2⟩ := x
    exact ⟨o, p1, fun _ q => by rw [p2] at q; cases q⟩
  | false =>
    obtain ⟨o, p1, _, p2⟩ := x
    exact ⟨o, p1, fun _ q => by rw [p2] at q; cases q⟩
theorem isS.in_ {p : Bool} {h : Heap} {a : Addr} {xs : Array Value} (x : isS p h a xs) : ∃ o, h.get? a = some o := by
  cases p with
  | true =>
    obtain ⟨o, p1, _⟩ := x
    exact ⟨o, p1⟩
  | false =>
    obtain ⟨o, p1, _⟩ := x
    exact ⟨o, p1⟩
section
variable {prog : Program} {w : World} {A : Around} {E : Value → Shared → Prop} {s : Shared} {p q : Bool}
structure ZuAt (p q : Bool) (h : Heap) (z TI TO i1 i2 a b : Addr) (k : Nat) (f0 : Value) : Prop where
  zip : ZipS h z TI TO f0
  its : IsPair h TI (.ref i1) (.ref i2)
  out : ∃ x y, IsPair h TO x y
  one : isI p h i1 a k
  two : isI q h i2 b k
end

theorem ZuAt.up {p q : Bool} {g g' : Heap} {z TI TO i1 i2 a b : Addr} {n : Nat} {f0 : Value} (Z : ZuAt p q g z TI TO i1 i2 a b n f0) (k : ∀ c, c ∈ [z, TI, TO, i1, i2] → ∀ o, g.get? c = some o → g'.get? c = some o) : ZuAt p q g' z TI TO i1 i2 a b n f0 :=
  ⟨k _ (by simp) _ Z.zip, k _ (by simp) _ Z.its, Z.out.imp fun _ => Exists.imp fun _ => k _ (by simp) _, Z.one.at fun o => k _ (by simp) o, Z.two.at fun o => k _ (by simp) o⟩
theorem ZuAt.in_ {p q : Bool} {g : Heap} {z TI TO i1 i2 a b : Addr} {n : Nat} {f0 : Value} (Z : ZuAt p q g z TI TO i1 i2 a b n f0) : ∀ c ∈ [z, TI, TO, i1, i2], ∃ o, g.get? c = some o ∧ ∀ v, o.data ≠ .cell v :=
  five ⟨_, Z.zip, fun _ => nofun⟩ ⟨_, Z.its, fun _ => nofun⟩ (Z.out.elim fun _ => Exists.rec fun _ e => ⟨_, e, fun _ => nofun⟩) Z.one.in_ Z.two.in_
section
variable {X : Cx} {a b : Expr} {p pos tpos kpos cp : Pos} {elts : List Expr} {kk ck : Nat} {ta tb : DTE}
end
section
variable {X : Cx} {a b c e : Expr} {p pos p2 tpos kpos cp : Pos} {kk ck : Nat} {ta tb tc te : DTE} {elts : List Expr}
end
section
variable {σ : DSt} {h : MH} {i1 i2 : Nat} {ta tb te : DTE} {tt : DTT} {vs : List Nat} {Q : DK} {QS : List SV → MH → Prop}
end
end DL

namespace DL
open PySem PySem.Spec PyProof.Rows L2
set_option autoImplicit true

section
variable {X : Cx}
theorem dq_set {pins : List (Addr × Obj)} {σ : L2.St} {H : Hp} {s : Shared} {E : Value → Shared → Prop} {D b : Addr} {L : List QRow} {k : List Int} {v : V} {r : Value} {Q : Unit → Shared → Prop} (hu : X.A.units + 1 < cLine) (I : Inv X pins σ H s) (at_ : H D = some (TD D L)) (hb : SqT X.K H b (k.map V.int)) (hL : ∀ p ∈ L, SqT X.K H p.2.1 (p.1.map V.int))
    (many : (putQ L k b v).length ≤ sizeLine) (rv : RelV v r) (out : ∀ s', Inv X pins σ (upd H D (TD D (putQ L k b v))) s' → Q () s') : wpAny (model X.prog X.w) X.A (dictSet D (.ref b) r) Q E s := by
  obtain ⟨z, hd, xs, rel, dd⟩ := td_of I at_ hL
  have few : xs.length ≤ sizeLine := by rw [← Paired.length rel]; exact z
  refine wpAny_dictSet_heap (knd := tupleKind (intKind X.prog X.w)) (k := k) (hsz := few) (show X.A.units < cLine by omega) (I.isT hb) dd fun h7 dd7 sb7 => ?_
  obtain ⟨qo, es, ep7, hq, g2, g3, g4, _, g5⟩ := dd7
  exact out _ (d_write I (by rw [at_]; exact True.intro) sb7 ⟨qo, hq⟩ (td_new many hd (qt_put rel rv) g5 ⟨qo, es, ep7, hq, g2, g3, g4⟩))
end
def dqStep (p : Addr) (go : MH → Prop) (x y : SV) (h : MH) : Prop := match tupI x, asQd h (.own p), y with
  | some k, some q, .d v => (setQd q.2 k v).length ≤ sizeLine ∧ go (mput h p (.dcT p (setQd q.2 k v)))
  | _, _, _ => False
def dqL (g : Tg) (tt : DTT) (tk tv : DTE) (σ : DSt) (p : Addr) : List PyData → MH → (MH → Prop) → Prop
  | [], h, Q => Q h
  | d :: r, h, Q => match bindT g (.d d) σ with
    | some σ1 => tt σ1 h fun b h1 => if b = true then tk σ1 h1 fun x h2 => tv σ1 h2 fun y h3 => dqStep p (fun h' => dqL g tt tk tv σ p r h' Q) x y h3
      else dqL g tt tk tv σ p r h1 Q
    | none => False
theorem dqStep_mono {p : Addr} {go go' : MH → Prop} (k : ∀ h, go h → go' h) {x y : SV} {h : MH} (w : dqStep p go x y h) : dqStep p go' x y h := by
  unfold dqStep at w ⊢
  split at w
  · exact ⟨w.1, k _ w.2⟩
  · exact w
theorem dqL_mono {g : Tg} {tt : DTT} {tk tv : DTE} {σ : DSt} {p : Addr} (mt : Mono tt) (mk : Mono tk) (mv : Mono tv) {Q Q' : MH → Prop} (k : ∀ h, Q h → Q' h) : ∀ ds h, dqL g tt tk tv σ p ds h Q → dqL g tt tk tv σ p ds h Q'
  | [], _, w => k _ w
  | d :: r, h, w => by
    unfold dqL at w ⊢
    split at w
    · refine mt _ _ _ _ (fun b h1 w1 => ?_) w
      cases b with
      | true => exact mk _ _ _ _ (fun x h2 w2 => mv _ _ _ _ (fun y h3 w3 => dqStep_mono (fun h' => dqL_mono mt mk mv k r h') w3) w2) w1
      | false => exact dqL_mono mt mk mv k _ _ w1
    · exact w
section
variable {X : Cx} {tg : Expr} {pos : Pos}
end
section
variable {σ : DSt} {h : MH} {Q : DK}
theorem k_dqStep {p : Addr} {go : MH → Prop} {x : SV} {k : List Int} {ps : List (List Int × PyData)} {v : PyData} (e1 : tupI x = some k) (e2 : h p = some (.dcT p ps)) (few : (setQd ps k v).length ≤ sizeLine) (w : go (mput h p (.dcT p (setQd ps k v)))) : dqStep p go x (.d v) h := by
  unfold dqStep
  rw [e1, asQd_own e2]
  exact ⟨few, w⟩
end
end DL

namespace DL
open PySem PySem.Spec PyProof.Rows L2
set_option autoImplicit true

/-- as the library's SetTR, to seventy-five things -/
structure SetB (P : Program) (w : World) (h : Heap) (a : Addr) (L : List (Addr × List Int)) (es : Array (Int × Value)) (ep : Nat) (t : SetTable) : Prop where
  ob : ∃ o, h.get? a = some o ∧ o.ExactSet ∧ o.data = .set es ep t
  rows : es.toList = rowsOf P w L
  tab : TabOk t (L.map fun p => thash P w p.2)
  nd : (L.map (·.2)).Nodup
  tup : ∀ p ∈ L, IsT P w h p.2 p.1
  plain : t.plain = true
  led : w.params.followText "set-order" = true ∨ t.led = true
  room : L.length * 5 < t.mask * 3
  few : L.length < 76
section
variable {P : Program} {w : World} {A : Around} {E : Value → Shared → Prop} {s s' : Shared} {h h' h0 : Heap} {a S : Addr} {L ks : List (Addr × List Int)} {es : Array (Int × Value)} {ep i : Nat} {t : SetTable} {p : Addr × List Int}
theorem SetB.of (R : SetTR P w h a L es ep t) : SetB P w h a L es ep t := ⟨R.ob, R.rows, R.tab, R.nd, R.tup, R.plain, R.led, R.room, Nat.lt_trans R.few (by decide)⟩
theorem SetB.tr (R : SetB P w h a L es ep t) (l : L.length < 64) : SetTR P w h a L es ep t := ⟨R.ob, R.rows, R.tab, R.nd, R.tup, R.plain, R.led, R.room, l⟩
theorem SetB.size (R : SetB P w h a L es ep t) : es.size = L.length := by
  have z := congrArg List.length R.rows
  rw [Array.length_toList] at z
  exact z.trans (List.length_map _)
theorem SetB.fits (R : SetB P w h a L es ep t) : t.fits es.size = true := by
  have z1 : t.place.size = L.length := R.tab.sz.trans (List.length_map _)
  have z2 := R.size
  have z3 := R.room
  have z4 : t.dummies.size = 0 := by rw [R.tab.dm]; rfl
  unfold SetTable.fits SetTable.fill
  rw [z4, z2, z1, beq_self_eq_true, Bool.true_and, decide_eq_true_eq]
  omega
theorem SetB.keep (R : SetB P w h a L es ep t) (ha : ∀ o, h.get? a = some o → h'.get? a = some o) (ht : ∀ p ∈ L, IsT P w h' p.2 p.1) : SetB P w h' a L es ep t := by
  obtain ⟨o, ho, r⟩ := R.ob
  exact ⟨⟨o, ha o ho, r⟩, R.rows, R.tab, R.nd, ht, R.plain, R.led, R.room, R.few⟩
theorem SetB.item (R : SetB P w h a L es ep t) {p : Addr × List Int} (e : L[i]? = some p) : es[i]? = some (thash P w p.2, Value.ref p.1) := by
  rw [← Array.getElem?_toList, R.rows]
  unfold rowsOf
  rw [List.getElem?_map, e]
  rfl
theorem SetB.wide (R : SetB P w h a L es ep t) (l : 63 ≤ L.length) : t.mask = 127 := by
  have z := R.room
  rcases R.tab.mok with e | e | e
  · omega
  · omega
  · exact e
/-- no dummy is met -/
theorem no_dummy (m i b : Nat) : ∀ n, (nth m (runAt m i b) n).dummy = none := by
  have go : ∀ (n : Nat) (q : SetTable.Probe), q.dummy = none → (nth m q n).dummy = none := fun n => by
    induction n with
    | zero => exact fun q z => z
    | succ n ih =>
      intro q z
      refine ih _ ?_
      show (adv m q).dummy = none
      unfold adv
      split <;> exact z
  exact fun n => go n _ rfl
/-- the search of a set that holds many, from the c-th step on -/
theorem big_search (R : SetB P w s.heap a L es ep t) {x : Addr} {k : List Int} (hx : IsT P w s.heap k x) (hu : A.units < cLine) {K : Nat} (hKf : K < 10 * SetTable.turns t.mask) (hK : way t.mask (thash P w k) K ∉ t.place.toList) (hKb : ∀ c, c < K → way t.mask (thash P w k) c ∈ t.place.toList) {Q : SetFound → Shared → Prop}
    (yes : k ∈ L.map (·.2) → Q (.there none) s) (no : k ∉ L.map (·.2) → Q (.free (way t.mask (thash P w k) K) false) s) :
    ∀ (d c f : Nat) (stand : Option SetTable.Probe), c + d = K → d < f → stand.getD (t.probeStart (thash P w k)) = nth t.mask (runAt t.mask (SetTable.bits (thash P w k) % (t.mask + 1)) (SetTable.bits (thash P w k))) c →
      (∀ (i : Nat) p, L[i]? = some p → p.2 = k → ∃ e, c ≤ e ∧ e < K ∧ t.place.toList[i]? = some (way t.mask (thash P w k) e)) → wpAny (model P w) A (setSearchFrom a (.ref x) (thash P w k) true f stand) Q E s := by
  obtain ⟨o, ho, hex, hd⟩ := R.ob
  obtain ⟨hh, ehh⟩ : ∃ hh, hh = thash P w k := ⟨_, rfl⟩
  have odd : ¬ t.gaveWay = true := by
    unfold SetTable.gaveWay
    rw [mask_odd R.tab.mok]
    decide
  have hash : ∀ (i : Nat) p, L[i]? = some p → (es[i]?.map (·.1)).getD 0 = thash P w p.2 := fun i p e => by rw [R.item e]; rfl
  intro d
  induction d using Nat.strongRecOn with
  | ind d ih =>
    intro c f stand ed hf hst near
    cases f with
    | zero => exact absurd hf (Nat.not_lt_zero _)
    | succ f =>
      rw [setSearchFrom_succ]
      refine wpAny_bind (wpAny_setState_of ho hd R.fits ?_)
      dsimp only
      refine wp_if_neg odd ?_
      try refine wpAny_bind (wpAny_pure ?_)
      have way_at : ∀ q, (nth t.mask (nth t.mask (runAt t.mask (SetTable.bits (thash P w k) % (t.mask + 1)) (SetTable.bits (thash P w k))) c) q).j = way t.mask (thash P w k) (c + q) := fun q => congrArg SetTable.Probe.j (nth_add t.mask c _ q).symm
      have cases2 := go_spec t R.tab.ris R.tab.dm (fun i => (es[i]?.map (·.1)).getD 0) (thash P w k) (10 * SetTable.turns t.mask) d (nth t.mask (runAt t.mask (SetTable.bits (thash P w k) % (t.mask + 1)) (SetTable.bits (thash P w k))) c) (no_dummy _ _ _ c) (by omega)
        (fun q hq => by rw [way_at]; exact hKb _ (by omega)) (by rw [way_at, ed]; exact hK)
      rw [hst]
      rcases cases2 with ⟨q, i, hq, hi, same, past, met⟩ | ⟨past, met⟩
      · rw [show t.probe (fun i => (es[i]?.map (·.1)).getD 0) (thash P w k) (nth t.mask (runAt t.mask (SetTable.bits (thash P w k) % (t.mask + 1)) (SetTable.bits (thash P w k))) c) = some (.candidate (way t.mask (thash P w k) (c + q)) i (nth t.mask (runAt t.mask (SetTable.bits (thash P w k) % (t.mask + 1)) (SetTable.bits (thash P w k))) (c + (q + 1)))) from by
          rw [← way_at, nth_add t.mask c _ (q + 1)]
          exact met]
        rw [way_at] at hi
        dsimp only
        have hil : i < L.length := by
          have z1 := (List.getElem?_eq_some_iff.mp hi).1
          have z2 : t.place.size = L.length := R.tab.sz.trans (List.length_map _)
          rw [Array.length_toList, z2] at z1
          exact z1
        obtain ⟨p, hp⟩ : ∃ p, L[i]? = some p := ⟨_, List.getElem?_eq_getElem hil⟩
        have mp := List.mem_of_getElem? hp
        have live : t.slot (way t.mask (thash P w k) (c + q)) = .live i := slot_live R.tab.ris hi
        have look : wpAny (model P w) A (searchRest a (.ref x) (thash P w k) true f es t (way t.mask (thash P w k) (c + q)) i (nth t.mask (runAt t.mask (SetTable.bits (thash P w k) % (t.mask + 1)) (SetTable.bits (thash P w k))) (c + (q + 1)))) Q E s := by
          unfold searchRest
          rw [R.item hp]
          dsimp only
          refine wpAny_bind (wpAny_holding (wpAny_eqBool_tuple hu (R.tup p mp) hx (wpAny_bind (wpAny_setState_of ho hd R.fits ?_))))
          dsimp only
          by_cases e : p.2 = k
          · exact wp_if_pos (by simp [e]) (wpAny_pure (yes (List.mem_map.mpr ⟨p, mp, e⟩)))
          · refine wp_if_neg (by simp [e]) ?_
            try refine wpAny_bind (wpAny_pure ?_)
            rw [sameMem]
            dsimp only
            simp only [if_true, live, R.item hp]
            refine wpAny_bind (wpAny_isSame_ref_self (wpAny_bind (wpAny_pure ?_)))
            simp only [if_true]
            refine wp_if_neg (by simp [e]) (ih (d - (q + 1)) (by omega) (c + (q + 1)) f _ (by omega) (by omega) rfl fun i0 p0 h0 e0 => ?_)
            obtain ⟨u, u1, u2, u3⟩ := near i0 p0 h0 e0
            refine ⟨u, ?_, u2, u3⟩
            rcases Nat.lt_trichotomy u (c + q) with z | z | z
            · refine absurd ((hash i0 p0 h0).trans (congrArg (thash P w) e0)) (past (u - c) i0 (by omega) ?_)
              rw [way_at, show c + (u - c) = u by omega]
              exact u3
            · rw [z] at u3
              have z2 := slot_live R.tab.ris u3
              rw [live] at z2
              injection z2 with z2
              rw [← z2, hp] at h0
              exact absurd ((congrArg Prod.snd (Option.some.inj h0)).trans e0) e
            · omega
        by_cases l : t.led = true
        · refine wp_if_neg (by simp [l]) ?_
          try refine wpAny_bind (wpAny_pure ?_)
          exact look
        · refine wp_if_pos (by simp [l]) (wpAny_bind (seen_tup hx (fun y hy => ?_) (wp_if_neg (by decide) ?_)))
          · obtain ⟨u, hu1, hu2⟩ := List.mem_map.mp hy
            have hu3 : u ∈ es.toList := by
              have z : u ∈ es ∧ u.1 = thash P w k := by simpa using hu1
              simpa using z.1
            rw [R.rows] at hu3
            obtain ⟨p2, m2, e2⟩ := List.mem_map.mp hu3
            exact ⟨p2.2, p2.1, by rw [← hu2, ← e2], R.tup p2 m2⟩
          · try refine wpAny_bind (wpAny_pure ?_)
            exact look
      · rw [show t.probe (fun i => (es[i]?.map (·.1)).getD 0) (thash P w k) (nth t.mask (runAt t.mask (SetTable.bits (thash P w k) % (t.mask + 1)) (SetTable.bits (thash P w k))) c) = some (.empty (way t.mask (thash P w k) K) none) from by
          rw [show way t.mask (thash P w k) K = _ from by rw [← ed, ← way_at]]
          exact met]
        dsimp only
        refine wpAny_pure (no fun z => ?_)
        obtain ⟨p0, m0, e0⟩ := List.mem_map.mp z
        obtain ⟨i0, hi0⟩ := List.getElem?_of_mem m0
        obtain ⟨u, u1, u2, u3⟩ := near i0 p0 hi0 e0
        refine past (u - c) i0 (by omega) ?_ ((hash i0 p0 hi0).trans (congrArg (thash P w) e0))
        rw [way_at, show c + (u - c) = u by omega]
        exact u3
/-- adding to a set that holds many: it is not laid anew -/
theorem big_add (R : SetB P w s.heap a L es ep t) {x : Addr} {k : List Int} (hx : IsT P w s.heap k x) (hu : A.units < cLine) (l1 : 63 ≤ L.length) (l2 : L.length + 1 < 76) {Q : Bool → Shared → Prop}
    (next : ∀ b h' L' es' ep' t', Heap.SameBut a s.heap h' → SetB P w h' a L' es' ep' t' → (k ∈ L.map (·.2) → L' = L) → (k ∉ L.map (·.2) → L'.Perm ((x, k) :: L)) → Q b { s with heap := h' }) :
    wpAny (model P w) A (setAddHashed a (.ref x) (thash P w k)) Q E s := by
  obtain ⟨o, ho, hex, hd⟩ := R.ob
  have m127 := R.wide l1
  have sz := R.size
  have lenH : (L.map fun p => thash P w p.2).length = L.length := List.length_map _
  unfold setAddHashed
  refine wpAny_holding ?_
  rw [show (100000 : Nat) = 99999 + 1 from rfl, setAddHashedIn_succ]
  refine wpAny_bind (wpAny_setState_of ho hd R.fits ?_)
  dsimp only
  refine wp_if_neg (by simp [byScan, Value.scannable]) ?_
  try refine wpAny_bind (wpAny_pure ?_)
  obtain ⟨K, k1, k2, k3⟩ := R.tab.first (by rw [lenH, m127]; omega) (thash P w k)
  have kf : K < 100000 := by
    have z : 10 * SetTable.turns t.mask ≤ 1420 := by
      unfold SetTable.turns
      rw [m127]
      decide
    omega
  refine wpAny_bind ?_
  unfold setSearch
  refine big_search R hx hu k1 k2 k3 (fun m => ?_) (fun m => ?_) K 0 100000 none (Nat.zero_add K) kf rfl fun i p hp e => ?_
  · dsimp only
    exact wpAny_pure (next false s.heap L es ep t (Heap.SameBut.refl a s.heap) R (fun _ => rfl) fun z => absurd m z)
  · dsimp only
    refine wpAny_bind (wpAny_setState_of ho hd R.fits ?_)
    dsimp only
    obtain ⟨f1, f2, f3, f4, f5, f6, f7, f8, f9⟩ := R.tab.put k2 k3
    have pl : (t.put (way t.mask (thash P w k) K)).1.plain = true := f6.trans R.plain
    rw [lenH] at f2 f9
    generalize t.put (way t.mask (thash P w k) K) = pt at f1 f3 f4 f5 f6 f7 f8 f9 pl ⊢
    obtain ⟨t1, at1⟩ := pt
    dsimp only at f1 f3 f4 f5 f6 f7 f8 f9 pl ⊢
    subst f1
    first
      | (refine wpAny_bind ?_; refine wp_if_pos pl ?_; refine hashBy_tup hx ?_)
      | refine wp_if_pos pl (wpAny_bind (hashBy_tup hx ?_))
    simp only [if_true]
    generalize SetTable.below t.place (way t.mask (thash P w k) K) = n at f2 f3 ⊢
    have row1 : (SetTable.insertAt es n (thash P w k, Value.ref x)).toList = rowsOf P w (L.take n ++ (x, k) :: L.drop n) := by
      rw [SetTable.toList_insertAt, rows_put, R.rows]
    have pm := put_perm L n (x, k)
    have h1 : (L.take n ++ (x, k) :: L.drop n).map (fun p => thash P w p.2) = (L.map fun p => thash P w p.2).take n ++ thash P w k :: (L.map fun p => thash P w p.2).drop n := by simp
    rw [← h1] at f3
    have nd1 : ((L.take n ++ (x, k) :: L.drop n).map (·.2)).Nodup := (pm.map (·.2)).nodup_iff.mpr (List.nodup_cons.mpr ⟨m, R.nd⟩)
    generalize L.take n ++ (x, k) :: L.drop n = L1 at pm f3 nd1 row1
    generalize SetTable.insertAt es n (thash P w k, Value.ref x) = es1 at row1 ⊢
    have len1 : L1.length = L.length + 1 := pm.length_eq
    have sz1 : es1.size = L.length + 1 := by
      have z := congrArg List.length row1
      rw [Array.length_toList] at z
      exact z.trans ((List.length_map _).trans len1)
    refine wpAny_bind (wpAny_storeSet_of ho hd ?_ (by rw [sz1, sizeLine_eq]; omega))
    have sb : Heap.SameBut a s.heap (s.heap.update a (Obj.putSet es1 t1)) := Heap.SameBut.update ..
    have at2 := store_at (es' := es1) (t' := t1) ho hd
    generalize s.heap.update a (Obj.putSet es1 t1) = h2 at sb at2 ⊢
    have roomy : ¬ t1.tooFull = true := by
      unfold SetTable.tooFull
      rw [decide_eq_true_eq, f9, f4, m127]
      omega
    have N : SetB P w h2 a L1 es1 (ep + 1) t1 := ⟨⟨_, at2, ⟨hex.1, hex.2.1, hex.2.2⟩, rfl⟩, row1, f3, nd1, fun p hp => by
      rcases List.mem_cons.mp (pm.mem_iff.mp hp) with e | z
      · rw [e]; exact isT_same hx ho hd sb
      · exact isT_same (R.tup p z) ho hd sb, pl, by rw [f5]; exact R.led, by rw [len1, f4, m127]; omega, by rw [len1]; exact l2⟩
    first
      | refine wp_if_neg (by simp [roomy]) ?_
      | (refine wpAny_bind ?_; refine wp_if_neg (by simp [roomy]) ?_; refine wpAny_pure ?_)
    exact wpAny_pure (next true h2 L1 es1 (ep + 1) t1 sb N (fun z => absurd z m) fun _ => pm)
  · have hi : (L.map fun p => thash P w p.2)[i]? = some (thash P w k) := by rw [List.getElem?_map, hp, ← e]; rfl
    have hl : i < t.place.toList.length := by
      have z1 := (List.getElem?_eq_some_iff.mp hp).1
      have z2 := R.tab.sz
      rw [Array.length_toList, z2, lenH]
      exact z1
    obtain ⟨c, c1, c2⟩ := R.tab.before k2 hi (List.getElem?_eq_getElem hl)
    exact ⟨c, Nat.zero_le _, c1, by rw [List.getElem?_eq_getElem hl, c2]⟩
theorem any_add (R : SetB P w s.heap a L es ep t) {x : Addr} {k : List Int} (hx : IsT P w s.heap k x) (hu : A.units < cLine) (l2 : L.length + 1 < 76) {Q : Bool → Shared → Prop}
    (next : ∀ b h' L' es' ep' t', Heap.SameBut a s.heap h' → SetB P w h' a L' es' ep' t' → (k ∈ L.map (·.2) → L' = L) → (k ∉ L.map (·.2) → L'.Perm ((x, k) :: L)) → Q b { s with heap := h' }) :
    wpAny (model P w) A (setAddHashed a (.ref x) (thash P w k)) Q E s := by
  rcases Nat.lt_or_ge L.length 63 with l | l
  · exact add_at (R.tr (by omega)) hx hu (by omega) fun b h' L' es' ep' t' sb R' y n => next b h' L' es' ep' t' sb (.of R') y n
  · exact big_add R hx hu l l2 next
def HoldsB (P : Program) (w : World) (S : Addr) (ks : List (Addr × List Int)) (i : Nat) (h : Heap) : Prop := ∃ (L : List (Addr × List Int)) (es : Array (Int × Value)) (ep : Nat) (t : SetTable), SetB P w h S L es ep t ∧ Got ks i L
theorem HoldsB.moved (H : HoldsB P w S ks i h) (a : ∀ o, h.get? S = some o → h'.get? S = some o) (tp : ∀ q ∈ ks, IsT P w h' q.2 q.1) : HoldsB P w S ks i h' := by
  obtain ⟨L, es, ep, t, R, g⟩ := H
  exact ⟨L, es, ep, t, R.keep a fun q hq => tp q (List.mem_of_mem_take (g.sub q hq)), g⟩
theorem holdsB_add (H : HoldsB P w S ks i s.heap) (hp : ks[i]? = some p) (tp : IsT P w s.heap p.2 p.1) (few : ∀ L : List (Addr × List Int), (L.map (·.2)).Nodup → (∀ q ∈ L, q ∈ ks) → L.length + 1 < 76) (hu : A.units < cLine) {Q : Bool → Shared → Prop}
    (next : ∀ b h' tk, HoldsB P w S ks (i + 1) h' → Heap.SameBut S s.heap h' → s.toks ≤ tk → Q b { s with heap := h', toks := tk }) : wpAny (model P w) A (setAdd S (.ref p.1)) Q E s := by
  obtain ⟨L, es, ep, t, R, g⟩ := H
  have lt := few L R.nd fun q hq => List.mem_of_mem_take (g.sub q hq)
  unfold setAdd
  refine wpAny_holding (wpAny_bind (wpAny_pyHash_tuple hu tp (any_add (s := { s with toks := s.toks + (p.2.length + 1) }) R tp hu lt fun b h' L' es' ep' t' sb R' y n => ?_)))
  refine next b h' _ ⟨L', es', ep', t', R', ?_⟩ sb (Nat.le_add_right _ _)
  by_cases q : p.2 ∈ L.map (·.2)
  · rw [y q]; exact g.same hp q
  · exact g.more hp (n q)
theorem holdsB_loop {I : Addr} {fp wr : List Addr} {G : Array GenState → Array GenState → Prop} {n : Nat} {Pv : Nat → Value → Prop} {St : Nat → Shared → Prop} {R : Result → Shared → Prop} (W : WalksS P w A.in1 I fp wr G n Pv St) (out : S ∉ fp) (hn : n = ks.length)
    (few : ∀ L : List (Addr × List Int), (L.map (·.2)).Nodup → (∀ q ∈ L, q ∈ ks) → L.length + 1 < 76) (hv : ∀ i v, Pv i v → ∃ p, ks[i]? = some p ∧ v = .ref p.1) (tp : ∀ q ∈ ks, IsT P w h0 q.2 q.1) (nS : h0.get? S = none) (nW : ∀ b ∈ wr, h0.get? b = none) (hu : A.in1.units < cLine)
    (fin : ∀ s' : Shared, HoldsB P w S ks n s'.heap → OldIn h0 s'.heap → Moved (S :: wr) G s s' → R (.ok (.ret .none)) s') : ∀ (left i : Nat) (s1 : Shared), i + left = n → St i s1 → OldIn h0 s1.heap → HoldsB P w S ks i s1.heap → Moved (S :: wr) G s s1 → codeAny (model P w) A (.builtin "set.update.loop" ⟨[.ref S, .ref I], []⟩) R s1 := by
  have nSw : S ∉ wr := fun z => out (W.sub _ z)
  have wide : ∀ b ∈ wr, b ∈ S :: wr := fun b hb => List.mem_cons_of_mem _ hb
  have old : ∀ {a c : Shared}, Moved wr G a c → OldIn h0 a.heap → OldIn h0 c.heap := fun mv o b x e => mv.heap b x (fun z => by rw [nW b z] at e; cases e) (o b x e)
  have tps : ∀ {a : Heap}, OldIn h0 a → ∀ q ∈ ks, IsT P w a q.2 q.1 := fun o q hq => isT_keep (tp q hq) o
  intro left
  induction left with
  | zero =>
    intro i s1 e st o H mv
    have ei : i = n := by omega
    subst ei
    refine codeAny_builtin F.entry_set_update_loop ?_
    rw [Around.under_plainId F.plain_set_update_loop _]
    refine wpAny_bind (W.done s1 _ _ st fun s2 mv2 => ?_)
    have o2 := old mv2 o
    exact wpAny_pure (fin s2 (H.moved (fun x ex => mv2.heap S x nSw ex) (tps o2)) o2 (Moved.trans W.gtrans mv (mv2.mono wide)))
  | succ left ih =>
    intro i s1 e st o H mv
    refine codeAny_builtin F.entry_set_update_loop ?_
    rw [Around.under_plainId F.plain_set_update_loop _]
    refine wpAny_bind (W.item i s1 _ _ (by omega) st fun v s2 pv st2 mv2 => ?_)
    obtain ⟨p, hp, rfl⟩ := hv i v pv
    have o2 := old mv2 o
    have H2 := H.moved (fun x ex => mv2.heap S x nSw ex) (tps o2)
    refine wpAny_bind (wpAny_holding (holdsB_add H2 hp (tps o2 p (List.mem_of_getElem? hp)) few hu fun b h3 tk H3 sb lk => ?_))
    have far : ∀ c x, c ≠ S → s2.heap.get? c = some x → h3.get? c = some x := fun c x nc ex => (sb.2 c nc).trans ex
    refine wpAny_pure ⟨plainId_quiet F.plain_set_update_loop _, ih (i + 1) _ (by omega) (W.frame _ s2 _ _ st2 lk fun c hc x ex => far c x (fun z => out (by rw [← z]; exact hc)) ex) (fun c x ex => far c x (fun z => by rw [z, nS] at ex; cases ex) (o2 c x ex)) H3 ?_⟩
    exact Moved.trans W.gtrans mv ((mv2.mono wide).then_heap lk fun c x hc ex => far c x (fun z => hc (by rw [z]; exact List.mem_cons_self)) ex)
/-- set(xs), xs of at most seventy-four unlike ones -/
theorem call_set_many {l : Addr} {items : Array Value} {Q : Value → Shared → Prop} (ks : List (Addr × List Int)) (hh : A.handled = none) (ll : s.heap.IsList l items) (ri : items.toList = ks.map fun p => Value.ref p.1) (tp : ∀ q ∈ ks, IsT P w s.heap q.2 q.1)
    (few : ∀ L : List (Addr × List Int), (L.map (·.2)).Nodup → (∀ q ∈ L, q ∈ ks) → L.length + 1 < 76) (hu : A.units + 3 < cLine)
    (h : ∀ (h' : Heap) (tk : Nat), HoldsB P w s.heap.objs.size ks ks.length h' → OldIn s.heap h' → Q (.ref s.heap.objs.size) { s with heap := h', toks := tk }) : wpAny (model P w) A (call (.type "set") [.ref l]) Q E s := by
  have sz : items.size = ks.length := by rw [← Array.length_toList, ri, List.length_map]
  obtain ⟨s1, e1⟩ : ∃ s1 : Shared, s1 = { s with heap := s.heap.push (bareSet w) } := ⟨_, rfl⟩
  have at1 : s1.heap.get? s.heap.objs.size = some (bareSet w) := by rw [e1]; exact Heap.get?_push_size _ rfl
  refine set_call e1 at1 ?_
  have ll1 : s1.heap.IsList l items := by rw [e1]; exact ll.push _
  have ls : l < s.heap.objs.size := by obtain ⟨o, e, _⟩ := ll; exact Heap.lt_size e
  have sz1 : s1.heap.objs.size = s.heap.objs.size + 1 := by rw [e1]; exact Heap.size_push ..
  have old1 : OldIn s.heap s1.heap := fun b o e => by rw [e1]; exact Heap.get?_push_of_some _ e
  have none0 : ∀ b, s.heap.objs.size ≤ b → s.heap.get? b = none := fun b hb => by
    cases q : s.heap.get? b with
    | none => rfl
    | some o => exact absurd (Nat.lt_of_lt_of_le (Heap.lt_size q) hb) (Nat.lt_irrefl _)
  have q1 := F.sub_list_set
  have q2 := F.sub_list_frozenset
  have q3 : (Value.type "list" == Value.type "dict") = false := by decide
  have ll2 := ll1
  obtain ⟨o1, g1, g2, g3, g4⟩ := ll2
  obtain ⟨oc, od, odt, osl⟩ := o1
  dsimp only at g2 g4
  subst g2 g4
  unfold Builtin.«set.__init__» noKeywords Builtin.Frozenset.updateFrom
  generalize hPI : pyIter = PI
  wp_walk
  subst hPI
  refine wpAny_pyIter_list ll1 (wpAny_bind (wpAny_runValue ?_))
  have W := (Walks.list (prog := P) (w := w) (A := A.in1.in1.in1) (by simp [hh]) s1.heap.objs.size l (by rw [sz1]; exact Nat.ne_of_lt (Nat.lt_succ_of_lt ls)) items).toS
  have sub0 : OldIn s.heap (s1.heap.push { cls := .type "list_iterator", data := .fields #[.ref l, .int 0 0] }) := fun b o e => Heap.get?_push_of_some _ (old1 b o e)
  refine holdsB_loop (s := { s1 with heap := s1.heap.push { cls := .type "list_iterator", data := .fields #[.ref l, .int 0 0] } }) (h0 := s.heap) (S := s.heap.objs.size) (ks := ks) W (by
    rw [sz1]
    intro z
    rcases List.mem_cons.mp z with z | z
    · exact absurd z (Nat.ne_of_lt (Nat.lt_succ_self _))
    · exact absurd (List.mem_singleton.mp z) (Nat.ne_of_gt ls)) sz few (fun i v hv => ?_) tp (none0 _ (Nat.le_refl _)) (fun b hb => none0 b (by rw [List.mem_singleton.mp hb, sz1]; exact Nat.le_succ _)) hu (fun s3 H3 o3 mv => ?_) items.size 0 _ (by omega)
    ⟨⟨_, Heap.get?_push_size _ rfl, rfl, rfl⟩, ll1.push _⟩ sub0 ⟨[], #[], 0, _, .of (setTR_fresh (Heap.get?_push_of_some _ at1)), Got.zero ks⟩ ?_
  · have q : items.toList[i]? = some v := by rw [Array.getElem?_toList]; exact hv
    rw [ri, List.getElem?_map] at q
    cases e : ks[i]? with
    | none => rw [e] at q; cases q
    | some p =>
      rw [e] at q
      exact ⟨p, rfl, (Option.some.inj q).symm⟩
  · rw [sz] at H3
    have r1 : s3.gens = s.gens := by rw [show s3.gens = s1.gens from mv.gens, e1]
    have r2 : s3.drawn = s.drawn := by rw [show s3.drawn = s1.drawn from mv.drawn, e1]
    have r3 : s3.os = s.os := by rw [show s3.os = s1.os from mv.os, e1]
    have fin := h s3.heap s3.toks H3 o3
    rw [← r1, ← r2, ← r3] at fin
    exact wpAny_pure (wpAny_pure ⟨rfl, fin⟩)
  · exact Moved.refl W.grefl
end
section
variable {P : Program} {w : World} {A : Around} {E : Value → Shared → Prop} {s : Shared}
theorem sorted_setB {a : Addr} {L : List (Addr × List Int)} {es : Array (Int × Value)} {ep : Nat} {t : SetTable} {Q : Value → Shared → Prop} (R : SetB P w s.heap a L es ep t) (hh : A.handled = none) {m : Nat} (hm : 1 ≤ m) (hl : ∀ p ∈ L, p.2.length = m)
    (hQ : ∀ s' p (out : Array Value) (c : Nat) (L' : List (Addr × List Int)), (∀ b o, s.heap.get? b = some o → s'.heap.get? b = some o) → s'.gens = s.gens → s'.os = s.os → s.heap.objs.size ≤ p → s'.heap.get? p = some (seqObj "list" out c) →
      out.toList = refs L' → L'.Perm L → L'.Pairwise (fun q r => leL q.2 r.2 = true) → Q (.ref p) s') :
    wpAny (model P w) A (call (.builtin "sorted") [.ref a]) Q E s := by
  obtain ⟨o, ho, hex, hd⟩ := R.ob
  have few := R.few
  have sz := R.size
  refine Calls.call_function_entry kind_sorted plain_sorted entry_sorted (args_sorted1 _) (show wpAny _ _ (Builtin.«sorted» _) _ _ _ from ?_)
  unfold Builtin.«sorted»
  refine wpAny_bind (m := checkCount "sorted" 1 1 _) (wpAny_pure (wpAny_bind ?_))
  refine collect_set (A := A.in1) hh ⟨o, ho, hex.1, hd⟩ R.fits (by unfold scanBound; omega) R.tab.ris R.led fun s1 vs k1 hz g1 o1 pm => ?_
  have pm2 : vs.Perm (refs L) := by
    have e : es.toList.map (·.2) = refs L := by rw [R.rows]; unfold rowsOf refs; rw [List.map_map]; rfl
    exact e ▸ pm
  obtain ⟨L0, p0, e0⟩ := perm_pull (fun q : Addr × List Int => Value.ref q.1) pm2 L rfl
  have h64 : vs.length < 76 := by rw [pm2.length_eq]; unfold refs; rw [List.length_map]; exact few
  refine wpAny_bind (wpAny_newList ?_ (by rw [sizeLine_eq]; omega))
  obtain ⟨h1, eh⟩ : ∃ h1, h1 = s1.heap.push (seqObj "list" vs.toArray 0) := ⟨_, rfl⟩
  have hoL : h1.get? s1.heap.objs.size = some (seqObj "list" vs.toArray 0) := by rw [eh]; exact Heap.get?_push_size _ rfl
  have at0 : ∀ q ∈ L0, HdAt h1 (.ref q.1) q.2 [] := fun q hq => hdAt_tup (P := P) (w := w) (isT_keep (R.tup q (p0.mem_iff.mp hq)) fun b u e => by rw [eh]; exact Heap.get?_push_of_some _ (k1 b u e))
  have hl0 : ∀ q ∈ L0, q.2.length = m := fun q hq => hl q (p0.mem_iff.mp hq)
  have ok : HdsOk h1 m vs := by
    rw [e0]
    refine ⟨fun v hv => ?_, fun v hv u hu ns r r' ln a1 a2 => ?_⟩
    · obtain ⟨q, hq, rfl⟩ := List.mem_map.mp hv
      exact ⟨q.2, [], hl0 q hq, at0 q hq⟩
    · obtain ⟨q, hq, rfl⟩ := List.mem_map.mp hv
      obtain ⟨q', hq', rfl⟩ := List.mem_map.mp hu
      exact (a1.uniq (at0 q hq) (ln.trans (hl0 q hq).symm)).2.trans (a2.uniq (at0 q' hq') (ln.trans (hl0 q' hq').symm)).2.symm
  have hns : (s1.heap.push (seqObj "list" vs.toArray 0)) = h1 := eh.symm
  show wpAny _ _ _ _ _ { s1 with heap := s1.heap.push (seqObj "list" vs.toArray 0) }
  rw [hns]
  refine wpAny_bind (wpAny_holding (wpAny_call_entry slot_list_sort ⟨_, hoL, rfl⟩ entry_list_sort ?_ (args_list_sort _)))
  refine SrtO.list_sort_ord (s := { s1 with heap := h1 }) (ltV_swo h1 m) hoL (by rw [sizeLine_eq]; omega) (fun h2 => hds_sortable (s := { s1 with heap := h1 }) hm (by omega) ok fun b o e c => ⟨fun z => ?_, e⟩) fun out a1 a2 => ⟨_, rfl, ?_⟩
  · rw [z, hoL] at e
    cases e
    exact absurd (Value.type.inj (show Value.type "list" = Value.type "tuple" from c)) (by decide)
  · obtain ⟨c, hc⟩ := sortedHeap_at (vs := vs) (out := out.toArray) hoL
    have pO : out.Perm vs := by rw [stb_sort a1 a2]; exact List.mergeSort_perm _ _
    obtain ⟨L', p', e'⟩ := perm_pull (fun q : Addr × List Int => Value.ref q.1) pO L0 e0
    have pw : L'.Pairwise (fun q r => leL q.2 r.2 = true) := by
      have a3 : out.Pairwise (fun x y => leL (hdKey h1 m x) (hdKey h1 m y) = true) := a1.imp fun {x y} z => by
        have z' : lexL (hdKey h1 m y) (hdKey h1 m x) = false := z
        unfold leL
        rw [z']
        rfl
      rw [e'] at a3
      refine (List.pairwise_map.mp a3).imp_of_mem fun {q r} hq hr z => ?_
      have iq := p'.mem_iff.mp hq
      have ir := p'.mem_iff.mp hr
      rw [hdKey_eq (hl0 q iq) (at0 q iq), hdKey_eq (hl0 r ir) (at0 r ir)] at z
      exact z
    refine wpAny_pure ⟨_, rfl, hQ _ s1.heap.objs.size out.toArray c L' (fun b u e => ?_) g1 o1 hz hc (by simpa using e') (p'.trans p0) pw⟩
    have q := k1 b u e
    have lt := Heap.lt_size q
    show (sortedHeap h1 s1.heap.objs.size vs out.toArray).get? b = some u
    rw [sortedHeap_old (Nat.ne_of_lt lt) (by rw [eh, size_push']; exact Nat.lt_succ_of_lt lt), eh]
    exact Heap.get?_push_of_some _ q
end
def tSortSetM (K : PySem.W.Frag) (ta : TE) : TE := fun σ H Q => ta σ H fun x H1 => ∃ (l : Addr) (ks : List (Addr × List Int)) (m : Nat) (D : List (List Int)), x = V.ref l ∧ SqL K H1 l (ks.map fun p => V.ref p.1) ∧ (∀ p ∈ ks, SqT K H1 p.1 (p.2.map V.int)) ∧ D.length + 1 < 76 ∧ (∀ p ∈ ks, p.2 ∈ D) ∧ 1 ≤ m ∧ (∀ p ∈ ks, p.2.length = m) ∧
  ∀ (L : List (Addr × List Int)) (p : Addr), (∀ q ∈ L, q ∈ ks) → (∀ q ∈ ks, q.2 ∈ L.map (·.2)) → L.Pairwise (fun q r => lexL q.2 r.2 = true) → H1 p = none → Q (.ref p) (upd H1 p (.lst (L.map fun q => V.ref q.1)))
section
variable {X : Cx} {a : Expr} {ta : TE}
theorem pe_sortSetM {p p2 q pos : Pos} (hc : X.calm = true) (hu : X.A.units + 64 < cLine) (hg : Gl X "sorted") (hm : X.mg "sorted" = none) (hg2 : Gl X "set") (hm2 : X.mg "set" = none) (ha : PE X a ta)
    (na : starEach [a] X.env = (false, eval a X.env) :: starEach [] X.env := by rfl) : PE X (.Call (.Name "sorted" p) [.Call (.Name "set" p2) [a] [] q] [] pos) (tSortSetM X.K ta) := by
  refine ⟨fun pins s σ H Q I h => ?_⟩
  refine Call_ (ld_blt I hg hm (by rfl) (PyProof.Rows.callWith_builtin1 (PyProof.Rows.args_cons ?_ rfl) rfl rfl))
  refine Call_ (ld_blt I hg2 hm2 PyProof.Rows.boot_set (PyProof.Rows.callWith_type1 (PyProof.Rows.args_cons (thn (ha.run pins s σ H _ I h) fun v s1 ⟨x, H1, I1, r1, q1⟩ => PyProof.Rows.args_nil ?_) na) na rfl))
  obtain ⟨l, ks, m, D, rfl, hq, hk, hD, hin, hm1, hlen, q1⟩ := q1
  cases r1
  obtain ⟨its, r, pl, hz⟩ := I1.list hq
  have few : ∀ L : List (Addr × List Int), (L.map (·.2)).Nodup → (∀ q ∈ L, q ∈ ks) → L.length + 1 < 76 := fun L nd sb => by
    have := len_subF (L.map (·.2)) D nd fun k hk => by
      obtain ⟨q, hq, rfl⟩ := List.mem_map.mp hk
      exact hin q (sb q hq)
    rw [List.length_map] at this
    omega
  refine call_set_many (P := X.prog) (w := X.w) ks (I1.ok.hd hc) pl.isList (by simpa using refs_of_vals r) (fun p hp => I1.isT (hk p hp)) few (by omega) fun h' tk ⟨L, es, ep, t, R, g⟩ k => PyProof.Rows.args_nil ?_
  have I2 : Inv X pins σ H1 { s1 with heap := h', toks := tk } := I1.kept fun b o e => k b o e
  have R : SetB X.prog X.w ({ s1 with heap := h', toks := tk } : Shared).heap s1.heap.objs.size L es ep t := R
  generalize ({ s1 with heap := h', toks := tk } : Shared) = s2 at *
  have sub : ∀ p ∈ L, p ∈ ks := fun p hp => List.mem_of_mem_take (g.sub p hp)
  refine sorted_setB R (I2.ok.hd hc) hm1 (fun p hp => hlen p (sub p hp)) fun s' p out c L' k g2 o hp hg hout pm pw => ?_
  have hn : H1 p = none := I2.hok.fresh hp
  have few := R.few
  have hl2 : (L'.map fun q => V.ref q.1).length ≤ sizeLine := by rw [List.length_map, pm.length_eq, sizeLine_eq]; omega
  have hv : Vals (L'.map fun q => V.ref q.1) out.toList := by rw [hout]; exact vals_of_refs L'
  have J : Inv X pins σ (upd H1 p (.lst (L'.map fun q => V.ref q.1))) { s2 with heap := s'.heap, gens := s'.gens, drawn := s'.drawn, toks := s'.toks } :=
    I2.call (ch := []) (Un.laid k hp hn) (I2.hok.laid k hp ⟨hl2, out.toList, c, hv, hg⟩) (by rw [g2]; exact I2.bare) (fun _ z => nomatch z)
  have e : s' = { s2 with heap := s'.heap, gens := s'.gens, drawn := s'.drawn, toks := s'.toks } := by
    cases s'; cases s2; cases o; rfl
  rw [e]
  have nd : (L'.map (·.2)).Nodup := (pm.map (·.2)).nodup_iff.mpr R.nd
  have pw2 : L'.Pairwise (fun q r => lexL q.2 r.2 = true) := by
    refine (pw.and (List.pairwise_map.mp nd)).imp fun {q r} ⟨z1, z2⟩ => ?_
    cases y : lexL q.2 r.2 with
    | true => rfl
    | false =>
      have z3 : lexL r.2 q.2 = false := by unfold leL at z1; simpa using z1
      exact absurd (lex_total _ _ y z3) z2
  refine ⟨.ref p, _, J, rfl, q1 L' p (fun q hq => sub q (pm.mem_iff.mp hq)) (fun q hq => ?_) pw2 hn⟩
  exact (pm.map (·.2)).mem_iff.mpr (g.all q (by rw [List.take_length]; exact hq))
end
def fSortSetM (ta : DTE) : DTF := fun σ h Q => ta σ h fun x h1 => match asL h1 x with
  | some ds => ∃ (ks : List (List Int)) (m : Nat) (D : List (List Int)), ds = ks.map tupN ∧ D.length + 1 < 76 ∧ (∀ k ∈ ks, k ∈ D) ∧ 1 ≤ m ∧ (∀ k ∈ ks, k.length = m) ∧ ∀ ms : List (List Int), ms.Pairwise (fun a b => lexL a b = true) → (∀ k, k ∈ ms ↔ k ∈ ks) → Q (ms.map tupN) h1
  | none => False
section
variable {X : Cx} {Γ : GI} {a : Expr} {pos p2 : Pos}
theorem df_sortSetM {t : DTE} {p p2 q pos : Pos} (hc : X.calm = true) (hu : X.A.units + 64 < cLine) (hg : Gl X "sorted") (hm : X.mg "sorted" = none) (hg2 : Gl X "set") (hm2 : X.mg "set" = none) (ha : DE X Γ a t)
    (na : starEach [a] X.env = (false, eval a X.env) :: starEach [] X.env := by rfl) : DF X Γ (.Call (.Name "sorted" p) [.Call (.Name "set" p2) [a] [] q] [] pos) (fSortSetM t) :=
  ⟨fun σ h Q Q' k w => ha.mono _ _ _ _ (fun x h1 w1 => by
    split at w1
    · obtain ⟨ks, m, D, e, hl, hd, h1, h2, w2⟩ := w1
      exact ⟨ks, m, D, e, hl, hd, h1, h2, fun ms a b => k _ _ (w2 ms a b)⟩
    · exact w1) w, pe_imp (pe_sortSetM hc hu hg hm hg2 hm2 ha.pe na) fun σ H Q ⟨σd, h, rs, rm, w⟩ => lift_mk ha.mono rs rm w fun x h1 v H1 px rs1 rv rm1 w1 => by
      split at w1
      · rename_i ds e1
        obtain ⟨ks, m, D, e2, hl, hd, hm1, hlen, w2⟩ := w1
        obtain ⟨b, vs, rfl, s1, d1⟩ := asL_ok rv rm1 e1
        subst e2
        obtain ⟨ps, rfl, rfl, sq⟩ := tups_get d1
        refine ⟨b, ps, m, D, rfl, s1, fun p hp => sqT_up fz_sub (sq p hp), hl, fun p hp => hd _ (List.mem_map.mpr ⟨p, hp, rfl⟩), hm1, fun p hp => hlen _ (List.mem_map.mpr ⟨p, hp, rfl⟩), fun L p sub all pw hn => ?_⟩
        refine w2 (L.map (·.2)) (List.pairwise_map.mpr pw) (fun k => ⟨fun hk => ?_, fun hk => ?_⟩) _ _ _ px (dps_tups L fun q hq => sq q (sub q hq)) rm1 hn
        · obtain ⟨q, hq, rfl⟩ := List.mem_map.mp hk
          exact List.mem_map.mpr ⟨q, sub q hq, rfl⟩
        · obtain ⟨q, hq, rfl⟩ := List.mem_map.mp hk
          exact all q hq
      · exact w1.elim⟩
end
def sstKM (QL : List PyData → MH → Prop) : DK := fun x h1 => match asL h1 x with
  | some ds => ∃ (ks : List (List Int)) (m : Nat) (D : List (List Int)), ds = ks.map tupN ∧ D.length + 1 < 76 ∧ (∀ k ∈ ks, k ∈ D) ∧ 1 ≤ m ∧ (∀ k ∈ ks, k.length = m) ∧ ∀ ms : List (List Int), ms.Pairwise (fun a b => lexL a b = true) → (∀ k, k ∈ ms ↔ k ∈ ks) → QL (ms.map tupN) h1
  | none => False
theorem e_sstM {te : DTE} {σ : DSt} {h : MH} {QL : List PyData → MH → Prop} (k : te σ h (sstKM QL)) : fSortSetM te σ h QL := k
end DL

namespace DL
open PySem PySem.Spec PyProof.Rows L2
set_option autoImplicit true

section
variable {prog : Program} {w : World} {A : Around} {R : Result → Shared → Prop} {s : Shared} {kx vx tg iter tg1 iter1 : Expr} {scope : Scope} {pos : Pos} {it acc : Value} {D : Addr} {env : Env}
theorem far_turn : compTurn (.DictComp kx vx [⟨tg, iter, [], 0⟩, ⟨tg1, iter1, [], 0⟩] scope pos) 0 it acc env = (do
      standAt iter.pos
      match ← pyNext it with
      | none => pure (.done .next)
      | some v =>
        letOwnedTupleGo tg it v
        assign tg env v
        let x ← eval iter1 env
        standAt iter1.pos
        let x ← foldedSetIterable iter1 env x
        let _ ← runOwn (.compStart (.DictComp kx vx [⟨tg, iter, [], 0⟩, ⟨tg1, iter1, [], 0⟩] scope pos) 1 (← holding [x] (pyIter x)) acc env) env
        again (.compLoop (.DictComp kx vx [⟨tg, iter, [], 0⟩, ⟨tg1, iter1, [], 0⟩] scope pos) 0 it acc env)) := by rfl
theorem near_turn : compTurn (.DictComp kx vx [⟨tg, iter, [], 0⟩, ⟨tg1, iter1, [], 0⟩] scope pos) 1 it (.ref D) env = (do
      standAt iter1.pos
      match ← pyNext it with
      | none => pure (.done .next)
      | some v =>
        letOwnedTupleGo tg1 it v
        assign tg1 env v
        (do
          let kv ← eval kx env
          let vv ← holding [kv] (eval vx env)
          standAt { kx.pos with endLine := vx.pos.endLine, endCol := vx.pos.endCol }
          holding [kv, vv] (dictSet D kv vv))
        again (.compLoop (.DictComp kx vx [⟨tg, iter, [], 0⟩, ⟨tg1, iter1, [], 0⟩] scope pos) 1 it (.ref D) env)) := by rfl
theorem far_loop (hs : ∀ x, foldedSetIterable iter1 env x = pure x) (I : Nat → Shared → Prop)
    (turn : ∀ n s, I n s → wpAny (model prog w) A (pyNext it) (fun r s1 => match r with
      | none => R (.ok .next) s1
      | some v => wpAny (model prog w) A (letOwnedTupleGo tg it v) (fun _ s2 => wpAny (model prog w) A (assign tg env v) (fun _ s3 => wpAny (model prog w) A (eval iter1 env) (fun x s4 => wpAny (model prog w) A (pyIter x) (fun i1 s5 =>
          codeAny (model prog w) A (.compStart (.DictComp kx vx [⟨tg, iter, [], 0⟩, ⟨tg1, iter1, [], 0⟩] scope pos) 1 i1 acc env) (fun r s' => match r with
            | .ok _ => ∃ m, m < n ∧ I m s'
            | .error _ => False) s5) (notedBy (model prog w) A env fun e s' => R (.error e) s') s4) (notedBy (model prog w) A env fun e s' => R (.error e) s') s3) (notedBy (model prog w) A env fun e s' => R (.error e) s') s2) (notedBy (model prog w) A env fun e s' => R (.error e) s') s1) (notedBy (model prog w) A env fun e s' => R (.error e) s') s)
    (n : Nat) (h : I n s) : codeAny (model prog w) A (.compLoop (.DictComp kx vx [⟨tg, iter, [], 0⟩, ⟨tg1, iter1, [], 0⟩] scope pos) 0 it acc env) R s := by
  refine codeAny_loop rfl I (fun n s hI => ?_) n h
  show wpAny _ A ((compTurn (.DictComp kx vx [⟨tg, iter, [], 0⟩, ⟨tg1, iter1, [], 0⟩] scope pos) 0 it acc env).onRaise (fun x => do noteFrame x env; theTreesLotGoes x)) _ _ s
  refine wpAny_noted ?_
  rw [far_turn]
  refine wpAny_bind (wpAny_standAt (wpAny_bind (wpAny_mono (turn n s hI) (fun r s1 q1 => ?_) fun _ _ e => e)))
  cases r with
  | none => exact wpAny_pure q1
  | some v =>
    refine wpAny_bind (wpAny_mono q1 (fun _ s2 q2 => wpAny_bind (wpAny_mono q2 (fun _ s3 q3 => wpAny_bind (wpAny_mono q3 (fun x s4 q4 => ?_) fun _ _ e => e)) fun _ _ e => e)) fun _ _ e => e)
    refine wpAny_bind (wpAny_standAt (wpAny_bind (wpAny_of_eq (hs x) (wpAny_bind (wpAny_holding (wpAny_mono q4 (fun i1 s5 q5 => wpAny_bind (wpAny_runOwn ?_)) fun _ _ e => e))))))
    rw [Around.mark_none]
    refine codeAny_mono q5 fun r s' q6 => ?_
    cases r with
    | ok f => exact wpAny_pure ⟨rfl, q6⟩
    | error e => exact q6.elim
theorem near_loop (I : Nat → Shared → Prop)
    (turn : ∀ n s, I n s → wpAny (model prog w) A (pyNext it) (fun r s1 => match r with
      | none => R (.ok .next) s1
      | some v => wpAny (model prog w) A (letOwnedTupleGo tg1 it v) (fun _ s2 => wpAny (model prog w) A (assign tg1 env v) (fun _ s3 => wpAny (model prog w) A (eval kx env) (fun kv s4 => wpAny (model prog w) A (eval vx env) (fun vv s5 =>
          wpAny (model prog w) A (dictSet D kv vv) (fun _ s6 => ∃ m, m < n ∧ I m s6) (notedBy (model prog w) A env fun e s' => R (.error e) s') s5) (notedBy (model prog w) A env fun e s' => R (.error e) s') s4) (notedBy (model prog w) A env fun e s' => R (.error e) s') s3) (notedBy (model prog w) A env fun e s' => R (.error e) s') s2) (notedBy (model prog w) A env fun e s' => R (.error e) s') s1) (notedBy (model prog w) A env fun e s' => R (.error e) s') s)
    (n : Nat) (h : I n s) : codeAny (model prog w) A (.compLoop (.DictComp kx vx [⟨tg, iter, [], 0⟩, ⟨tg1, iter1, [], 0⟩] scope pos) 1 it (.ref D) env) R s := by
  refine codeAny_loop rfl I (fun n s hI => ?_) n h
  show wpAny _ A ((compTurn (.DictComp kx vx [⟨tg, iter, [], 0⟩, ⟨tg1, iter1, [], 0⟩] scope pos) 1 it (.ref D) env).onRaise (fun x => do noteFrame x env; theTreesLotGoes x)) _ _ s
  refine wpAny_noted ?_
  rw [near_turn]
  refine wpAny_bind (wpAny_standAt (wpAny_bind (wpAny_mono (turn n s hI) (fun r s1 q1 => ?_) fun _ _ e => e)))
  cases r with
  | none => exact wpAny_pure q1
  | some v =>
    refine wpAny_bind (wpAny_mono q1 (fun _ s2 q2 => wpAny_bind (wpAny_mono q2 (fun _ s3 q3 => ?_) fun _ _ e => e)) fun _ _ e => e)
    exact wpAny_bind (wpAny_bind (wpAny_mono q3 (fun kv s4 q4 => wpAny_bind (wpAny_holding (wpAny_mono q4 (fun vv s5 q5 => wpAny_bind (wpAny_standAt (wpAny_holding (wpAny_mono q5 (fun _ s6 q6 => wpAny_pure ⟨rfl, q6⟩) fun _ _ e => e)))) fun _ _ e => e))) fun _ _ e => e))
theorem near_start (h0 : codeAny (model prog w) A (.compLoop (.DictComp kx vx [⟨tg, iter, [], 0⟩, ⟨tg1, iter1, [], 0⟩] scope pos) 1 it acc env) R s)
    (h : wpAny (model prog w) A (pyIter it) (fun it' s' => codeAny (model prog w) A (.compLoop (.DictComp kx vx [⟨tg, iter, [], 0⟩, ⟨tg1, iter1, [], 0⟩] scope pos) 1 it' acc env) R s') (notedBy (model prog w) A env fun x s' => R (.error x) s') s) :
    codeAny (model prog w) A (.compStart (.DictComp kx vx [⟨tg, iter, [], 0⟩, ⟨tg1, iter1, [], 0⟩] scope pos) 1 it acc env) R s := by
  refine codeAny_of_tree ?_
  show wpAny _ _ ((compStart (.DictComp kx vx [⟨tg, iter, [], 0⟩, ⟨tg1, iter1, [], 0⟩] scope pos) 1 it acc env).onRaise (fun x => do noteFrame x env; standAt theWindowsPlace)) _ _ s
  refine wpAny_notedAt ?_
  unfold compStart
  show wpAny _ _ (ask >>= _) _ _ s
  refine wpAny_bind (wpAny_askSetting (wpAny_ite ?_))
  split
  · first
      | exact wpAny_bind (wpAny_pure (wpAny_pure (And.intro rfl h0)))
      | exact wpAny_pure (And.intro rfl h0)
  · refine wpAny_bind (wpAny_rule ?_)
    first
      | exact wpAny_bind (wpAny_standAt (wpAny_bind (wpAny_mono h (fun it' s' q => wpAny_pure (And.intro rfl q)) fun _ _ x => x)))
      | (show wpAny _ _ (standAt iter1.pos >>= _) _ _ s; exact wpAny_bind (wpAny_standAt (wpAny_bind (wpAny_mono h (fun it' s' q => wpAny_pure (And.intro rfl q)) fun _ _ x => x))))
end
section
variable {X : Cx}
def tDq2 (K : PySem.W.Frag) (wi : TI) (g : TG) (wi1 : TI) (g1 : TG) (tk tv : TE) (vs vs1 : List Nat) : TE := fun σ H Q => wi σ H fun J H1 => ∀ D, H1 D = none → ∃ W : Nat → Nat → Hp → Prop, (∃ m, W 0 m (upd H1 D (TD D []))) ∧ ∀ i m H, W i m H →
  (J.stop i H ∧ Q (.ref D) H) ∨ (J.go i H ∧ ∃ Nx : Hp → Prop, (∀ H', Nx H' → ∃ m', m' < m ∧ W (i + 1) m' H') ∧ ∀ x H', J.yld i H x H' → g x (L2.wipe σ vs) H' fun σ2 H2 => L2.wipe σ2 vs = L2.wipe σ vs ∧ wi1 σ2 H2 fun J1 H3 =>
    ∃ W1 : Nat → Nat → Hp → Prop, (∃ m, W1 0 m H3) ∧ ∀ j k H, W1 j k H → (J1.stop j H ∧ Nx H) ∨ (J1.go j H ∧ ∃ Ny : Hp → Prop, (∀ H', Ny H' → ∃ k', k' < k ∧ W1 (j + 1) k' H') ∧ ∀ x H', J1.yld j H x H' → g1 x (L2.wipe σ2 vs1) H' fun σ3 H4 => L2.wipe σ3 vs1 = L2.wipe σ2 vs1 ∧
      tk σ3 H4 fun y H5 => tv σ3 H5 fun z H6 => ∃ (L : List QRow) (k : List Int) (c : Addr), y = .ref c ∧ SqT K H6 c (k.map V.int) ∧ H6 D = some (TD D L) ∧ (∀ p ∈ L, SqT K H6 p.2.1 (p.1.map V.int)) ∧ (putQ L k c z).length ≤ sizeLine ∧ Ny (upd H6 D (TD D (putQ L k c z)))))
theorem wipe_far {σ : L2.St} {i : Nat} : ∀ {vs : List Nat}, i ∉ vs → (L2.wipe σ vs)[i]? = σ[i]?
  | [], _ => rfl
  | v :: vs, n => by
    unfold L2.wipe
    rw [List.getElem?_set_ne fun e => n (by rw [e]; exact List.mem_cons_self)]
    exact wipe_far fun z => n (List.mem_cons_of_mem _ z)
theorem dq2_block {pins : List (Addr × Obj)} {s : Shared} {σ : L2.St} {H : Hp} {Q : VK} {kx vx tg iter tg1 iter1 : Expr} {scope : Scope} {own : List (Str × Nat)} {vs1 : List Nat} {pos pos' : Pos} {wi wi1 : TI} {g g1 : TG} {tk tv : TE} {use : Option (Value → Sem Unit)} {Qf : Value → Shared → Prop}
    (hu : X.A.units + 1 < cLine) (hc : X.calm = true) (hN : X.N.Nodup) (I : Inv X pins σ H s) (hi : PI X tg iter wi) (ok : BlkOk X.N X.env.scope scope own) (in_ : ∀ i ∈ vs1, i ∈ own.map (·.2))
    (hg : ∀ (s : Shared) (H : Hp) (C : Addr) (cl : List (Str × Addr)) (fp : List Addr), PG (X.blk s H scope (compEnvC scope cl C X.env) fp) tg g)
    (hi1 : ∀ (s : Shared) (H : Hp) (C : Addr) (cl : List (Str × Addr)) (fp : List Addr), PI (X.blk s H scope (compEnvC scope cl C X.env) fp) tg1 iter1 wi1)
    (hg1 : ∀ (s : Shared) (H : Hp) (C : Addr) (cl : List (Str × Addr)) (fp : List Addr), PG (X.blk s H scope (compEnvC scope cl C X.env) fp) tg1 g1)
    (hk : ∀ (s : Shared) (H : Hp) (C : Addr) (cl : List (Str × Addr)) (fp : List Addr), PE (X.blk s H scope (compEnvC scope cl C X.env) fp) kx tk)
    (hv : ∀ (s : Shared) (H : Hp) (C : Addr) (cl : List (Str × Addr)) (fp : List Addr), PE (X.blk s H scope (compEnvC scope cl C X.env) fp) vx tv) (hs : ∀ x, foldedSetIterable iter X.env x = pure x) (hs1 : ∀ env x, foldedSetIterable iter1 env x = pure x)
    (want : tDq2 X.K wi g wi1 g1 tk tv (own.map (·.2)) vs1 σ H Q)
    (leave : ∀ D C s' m H', Inv X pins σ H' s' → Q (.ref D) H' → s'.heap.Ns C m → FpOk X pins H' C → compPost (model X.prog X.w) X.A X.xe use Qf (.ref D) C (.ok .next) s') :
    wpAny (model X.prog X.w) X.A (comprehension (.DictComp kx vx [⟨tg, iter, [], 0⟩, ⟨tg1, iter1, [], 0⟩] scope pos) scope X.env pos' newDict false (eval iter X.env) use) Qf X.xe s := by
  have unbound : ∀ y ∈ scope.names, y.2 = .free → ∃ c, X.env.cells.lookup y.1 = some c := fun y hy e => by
    rcases ok.free y hy e with q | q
    · exact I.ok.has _ (.inl q)
    · exact I.ok.has _ (.inr q)
  refine wpAny_comprehension_free (use := use) rfl hs (closure_ok unbound) ok.kind (fun y hy e => by rw [ok.uniq y hy, e])
    (thn (hi.run pins s σ H _ I want) fun xv sa hx => thn hx fun itv sb hb => ?_)
  obtain ⟨it, feet, stt, J, Ha, ea, Ia, Tn, sta, fa, qa⟩ := hb
  subst ea
  refine wpAny_newObj_type (newEnv_comp ?_)
  generalize eD : sb.heap.objs.size = D
  have freshD : Ha D = none := Ia.hok.fresh (Nat.le_of_eq eD)
  obtain ⟨W, ⟨mm, wz⟩, turn⟩ := qa D freshD
  generalize esc : ({ sb with heap := sb.heap.push { cls := .type "dict", data := .dict #[] } } : Shared) = sc
  have Ic : Inv X pins σ (upd Ha D (TD D [])) sc := by
    rw [← esc]
    refine Ia.laid (t' := sb.toks) (fun b o e => Heap.get?_push_of_some _ e) (Nat.le_of_eq eD) ?_
    rw [← eD]
    exact td_new (Nat.zero_le _) (beq_eq_false_iff_ne.mpr (Nat.ne_of_gt Ia.big)) .nil List.nodup_nil ⟨_, #[], _, Heap.get?_push_size _ rfl, ⟨rfl, rfl, rfl⟩, rfl, rfl⟩
  have hc3 : sc.heap = sb.heap.push { cls := .type "dict", data := .dict #[] } := by rw [← esc]
  have low : ∀ b ∈ feet, b < sb.heap.objs.size := fun b hb => by
    obtain ⟨o, e, _⟩ := Tn.obj _ _ sta b hb
    exact Heap.lt_size e
  have fc : ∀ b ∈ feet, FpOk X pins (upd Ha D (TD D [])) b ∧ b < sc.heap.objs.size := fun b hb => by
    have lt := low b hb
    refine ⟨⟨?_, (fa b hb).2⟩, by rw [hc3, Heap.size_push]; exact Nat.lt_succ_of_lt lt⟩
    rw [upd_ne (by rw [← eD]; exact Nat.ne_of_lt lt)]
    exact (fa b hb).1
  have stc : stt 0 sc.heap := Tn.keep _ _ _ sta fun b _ o e => by rw [hc3]; exact Heap.get?_push_of_some _ e
  have Id := block_start Ic ok hN fc
  have qg := hg sc (upd Ha D (TD D [])) sc.heap.objs.size (cellsFrom (sc.heap.objs.size + 1) scope.names (cloFrom X.env.cells scope.names [])) feet
  have q1 := hi1 sc (upd Ha D (TD D [])) sc.heap.objs.size (cellsFrom (sc.heap.objs.size + 1) scope.names (cloFrom X.env.cells scope.names [])) feet
  have q2 := hg1 sc (upd Ha D (TD D [])) sc.heap.objs.size (cellsFrom (sc.heap.objs.size + 1) scope.names (cloFrom X.env.cells scope.names [])) feet
  have qk := hk sc (upd Ha D (TD D [])) sc.heap.objs.size (cellsFrom (sc.heap.objs.size + 1) scope.names (cloFrom X.env.cells scope.names [])) feet
  have qv := hv sc (upd Ha D (TD D [])) sc.heap.objs.size (cellsFrom (sc.heap.objs.size + 1) scope.names (cloFrom X.env.cells scope.names [])) feet
  show codeAny _ _ (.compStart (.DictComp kx vx [⟨tg, iter, [], 0⟩, ⟨tg1, iter1, [], 0⟩] scope pos) 0 (.ref it) (.ref D) (compEnvC scope (cellsFrom (sc.heap.objs.size + 1) scope.names (cloFrom X.env.cells scope.names [])) sc.heap.objs.size X.env)) (compPost (model X.prog X.w) X.A X.xe use Qf (.ref D) sc.heap.objs.size) { sc with heap := pushCells (sc.heap.push { cls := .type "dict", data := .dict #[] }) scope.names }
  have none_ : ∀ b ∈ feet, (upd Ha D (TD D [])) b = none := fun b hb => (fc b hb).1.1
  generalize ece : compEnvC scope (cellsFrom (sc.heap.objs.size + 1) scope.names (cloFrom X.env.cells scope.names [])) sc.heap.objs.size X.env = ce at Id qg q1 q2 qk qv ⊢
  have loc : ce.locals = sc.heap.objs.size := by subst ece; rfl
  generalize eHc : upd Ha D (TD D []) = Hc at Ic Id qg q1 q2 qk qv wz none_ fc
  generalize esd : ({ sc with heap := pushCells (sc.heap.push { cls := .type "dict", data := .dict #[] }) scope.names } : Shared) = sd at Id ⊢
  have std : stt 0 sd.heap := Tn.keep _ _ _ stc fun b _ o e => by rw [← esd]; exact pushCells_keeps _ _ _ _ (Heap.get?_push_of_some _ e)
  have feetOk : ∀ {σ' : L2.St} {H' : Hp} {s' : Shared}, Inv (X.blk sc Hc scope ce feet) [] σ' H' s' → (∀ b ∈ feet, H' b = none) → ∀ b ∈ feet, FpOk (X.blk sc Hc scope ce feet) [] H' b := fun {σ' H' s'} Iv hn b hb =>
    ⟨hn b hb, (Iv.ok.exf b hb).1, Iv.ok.exfs b hb, .inl hb, fun x c e => (Iv.ok.exf b hb).2 x c e, fun p hp => absurd (show p ∈ ([] : List (Addr × Obj)) ++ [] from hp) (by simp)⟩
  have whole : codeAny (model X.prog X.w) X.A (.compLoop (.DictComp kx vx [⟨tg, iter, [], 0⟩, ⟨tg1, iter1, [], 0⟩] scope pos) 0 (.ref it) (.ref D) ce) (compPost (model X.prog X.w) X.A X.xe use Qf (.ref D) sc.heap.objs.size) sd := by
    refine far_loop (hs1 ce) (fun n s' => ∃ i H', Inv (X.blk sc Hc scope ce feet) [] (L2.wipe σ (own.map (·.2))) H' s' ∧ stt i s'.heap ∧ (∀ b ∈ feet, H' b = none) ∧ W i n H') ?_ mm ⟨0, Hc, Id, std, none_, wz⟩
    rintro n se ⟨i, He, Ie, ste, ne, we⟩
    rcases turn i n He we with ⟨halt, qq⟩ | ⟨go, Nx, less, each⟩
    · refine thnF (Tn.done (X.blk sc Hc scope ce feet) rfl rfl rfl hc i [] se _ He (fun _ _ => False) Ie (feetOk Ie ne) ste halt) fun r sf ⟨hr, If⟩ => ?_
      subst hr
      have Ig : Inv X pins σ He sf := Ic.call' (ch := feet) If.os If.base If.hok If.bare fun b hb => ⟨(fc b hb).1.2.2.2.1, (fc b hb).1.2.1, (fc b hb).1.2.2.2.2.1, (fc b hb).1.2.2.2.2.2⟩
      have noC : He sc.heap.objs.size = none := by
        have z : He ce.locals = none := If.free
        rw [loc] at z
        exact z
      obtain ⟨m, names, _⟩ := If.loc
      have names : sf.heap.Ns ce.locals m := names
      rw [loc] at names
      exact leave D sc.heap.objs.size sf m He Ig qq names (Ic.fpOk (Nat.le_refl _) noC)
    · refine thnF (Tn.item (X.blk sc Hc scope ce feet) rfl rfl rfl hc i [] se _ He (fun _ _ => False) Ie (feetOk Ie ne) ste go) fun r sf ⟨u, hr, hf⟩ => ?_
      subst hr
      refine thnF hf fun _ sg ⟨x, Hg, Ig, rg, yg, stg, ng⟩ => ?_
      have Ig' := Ig.pinned (feetOk Ig ng) (Tn.obj _ _ stg)
      refine thnF (qg.run _ sg _ Hg x u _ Ig' rg (each x Hg yg)) fun _ sh ⟨σh, Hh, Ih, wh, qh⟩ => ?_
      have len8 : (L2.wipe σ (own.map (·.2))).length = σh.length := by rw [← wh, wipe_length]
      have keep9 : ∀ (j : Nat) v, (L2.wipe σ (own.map (·.2)))[j]? = some (some v) → (L2.wipe σh vs1)[j]? = some (some v) := fun j v e => by
        rw [← wh] at e
        obtain ⟨e1, e2⟩ := wipe_some e
        rw [wipe_far fun z => e2 (in_ j z)]
        exact e1
      have fin : ∀ {s' : Shared} {H' : Hp}, Inv (X.blk sc Hc scope ce feet) ([] ++ pinsAt feet sg.heap) (L2.wipe σh vs1) H' s' → Nx H' → ∃ m, m < n ∧ ∃ i H', Inv (X.blk sc Hc scope ce feet) [] (L2.wipe σ (own.map (·.2))) H' s' ∧ stt i s'.heap ∧ (∀ b ∈ feet, H' b = none) ∧ W i m H' := fun {s' H'} Iv nx => by
        obtain ⟨m', lt, w'⟩ := less H' nx
        have stays : ∀ b ∈ feet, ∀ o, sg.heap.get? b = some o → s'.heap.get? b = some o ∧ H' b = none := fun b hb o e =>
          let z := Iv.pin (b, o) (List.mem_append_right _ (List.mem_append_right _ (mem_pinsAt hb e)))
          ⟨z.1, z.2.1⟩
        refine ⟨m', lt, i + 1, H', (Iv.unpinned (pins := [])).weak (len8.trans (wipe_length _ _).symm) keep9, Tn.keep _ _ _ stg fun b hb o e => (stays b hb o e).1, fun b hb => ?_, w'⟩
        obtain ⟨o, e, _⟩ := Tn.obj _ _ stg b hb
        exact (stays b hb o e).2
      refine thnF (q1.run _ sh σh Hh _ Ih qh) fun xv2 s10 hx2 => thnF hx2 fun itv2 s11 hb2 => ?_
      obtain ⟨it2, feet2, stt2, J2, H11, e2, I11, Tn2, st11, fa2, W1, ⟨m1, w1⟩, turn1⟩ := hb2
      subst e2
      have feetOk2 : ∀ {H' : Hp}, (∀ b ∈ feet2, H' b = none) → ∀ b ∈ feet2, FpOk (X.blk sc Hc scope ce feet) ([] ++ pinsAt feet sg.heap) H' b := fun hn b hb => ⟨hn b hb, (fa2 b hb).2⟩
      have inner : codeAny (model X.prog X.w) X.A (.compLoop (.DictComp kx vx [⟨tg, iter, [], 0⟩, ⟨tg1, iter1, [], 0⟩] scope pos) 1 (.ref it2) (.ref D) ce) (fun r s' => match r with
          | .ok _ => ∃ m, m < n ∧ ∃ i H', Inv (X.blk sc Hc scope ce feet) [] (L2.wipe σ (own.map (·.2))) H' s' ∧ stt i s'.heap ∧ (∀ b ∈ feet, H' b = none) ∧ W i m H'
          | .error _ => False) s11 := by
        refine near_loop (fun k s' => ∃ j H', Inv (X.blk sc Hc scope ce feet) ([] ++ pinsAt feet sg.heap) (L2.wipe σh vs1) H' s' ∧ stt2 j s'.heap ∧ (∀ b ∈ feet2, H' b = none) ∧ W1 j k H') ?_ m1
          ⟨0, H11, I11.weak (wipe_length _ _) (fun j v e => (wipe_some e).1), st11, fun b hb => (fa2 b hb).1, w1⟩
        rintro k s12 ⟨j, H12, I12, st12, n12, w12⟩
        rcases turn1 j k H12 w12 with ⟨halt2, nx2⟩ | ⟨go2, Ny, less2, each2⟩
        · refine thnF (Tn2.done (X.blk sc Hc scope ce feet) rfl rfl rfl hc j _ s12 (L2.wipe σh vs1) H12 (fun _ _ => False) I12 (feetOk2 n12) st12 halt2) fun r s13 ⟨hr, I13⟩ => ?_
          subst hr
          exact fin I13 nx2
        · refine thnF (Tn2.item (X.blk sc Hc scope ce feet) rfl rfl rfl hc j _ s12 (L2.wipe σh vs1) H12 (fun _ _ => False) I12 (feetOk2 n12) st12 go2) fun r s13 ⟨u2, hr, hf2⟩ => ?_
          subst hr
          refine thnF hf2 fun _ s14 ⟨x2, H14, I14, r14, y14, st14, n14⟩ => ?_
          have I14' := I14.pinned (feetOk2 n14) (Tn2.obj _ _ st14)
          refine thnF (q2.run _ s14 (L2.wipe σh vs1) H14 x2 u2 _ I14' r14 (each2 x2 H14 y14)) fun _ s15 ⟨σ15, H15, I15, w15, q15⟩ => ?_
          refine thnF (qk.run _ s15 σ15 H15 _ I15 q15) fun z sj ⟨yk, Hj, Ij, rj, qj⟩ => ?_
          refine thnF (qv.run _ sj σ15 Hj _ Ij qj) fun z2 sk ⟨yv, Hk, Ik, rk, L, k0, c, ek, hcT, hDk, hLk, many, ny⟩ => ?_
          subst ek
          have ez : z = .ref c := rj
          subst ez
          refine dq_set (X := X.blk sc Hc scope ce feet) hu Ik hDk hcT hLk many rk fun sl Il => ?_
          obtain ⟨m', lt, w'⟩ := less2 _ ny
          have stays : ∀ b ∈ feet2, ∀ o, s14.heap.get? b = some o → sl.heap.get? b = some o ∧ (upd Hk D (TD D (putQ L k0 c yv))) b = none := fun b hb o e =>
            let z := Il.pin (b, o) (List.mem_append_right _ (List.mem_append_right _ (mem_pinsAt hb e)))
            ⟨z.1, z.2.1⟩
          refine ⟨m', lt, j + 1, _, Il.unpinned.weak (by rw [← w15, wipe_length]) (fun j v e => by rw [← w15] at e; exact (wipe_some e).1), Tn2.keep _ _ _ st14 fun b hb o e => (stays b hb o e).1, fun b hb => ?_, w'⟩
          obtain ⟨o, e, _⟩ := Tn2.obj _ _ st14 b hb
          exact (stays b hb o e).2
      exact near_start inner (Tn2.self X.A 0 _ _ _ st11 inner)
  exact codeAny_compStart_dict whole (Tn.self X.A 0 _ _ _ std whole)
theorem ps_setDq2 {i : Nat} {y : Str} {py spos : Pos} {kx vx tg iter tg1 iter1 : Expr} {scope : Scope} {own : List (Str × Nat)} {vs1 : List Nat} {pos : Pos} {wi wi1 : TI} {g g1 : TG} {tk tv : TE} (hu : X.A.units + 1 < cLine) (hc : X.calm = true) (hN : X.N.Nodup) (hi : PI X tg iter wi) (ok : BlkOk X.N X.env.scope scope own) (in_ : ∀ i ∈ vs1, i ∈ own.map (·.2))
    (hg : ∀ (s : Shared) (H : Hp) (C : Addr) (cl : List (Str × Addr)) (fp : List Addr), PG (X.blk s H scope (compEnvC scope cl C X.env) fp) tg g)
    (hi1 : ∀ (s : Shared) (H : Hp) (C : Addr) (cl : List (Str × Addr)) (fp : List Addr), PI (X.blk s H scope (compEnvC scope cl C X.env) fp) tg1 iter1 wi1)
    (hg1 : ∀ (s : Shared) (H : Hp) (C : Addr) (cl : List (Str × Addr)) (fp : List Addr), PG (X.blk s H scope (compEnvC scope cl C X.env) fp) tg1 g1)
    (hk : ∀ (s : Shared) (H : Hp) (C : Addr) (cl : List (Str × Addr)) (fp : List Addr), PE (X.blk s H scope (compEnvC scope cl C X.env) fp) kx tk)
    (hv : ∀ (s : Shared) (H : Hp) (C : Addr) (cl : List (Str × Addr)) (fp : List Addr), PE (X.blk s H scope (compEnvC scope cl C X.env) fp) vx tv) (hs : ∀ x, foldedSetIterable iter X.env x = pure x) (hs1 : ∀ env x, foldedSetIterable iter1 env x = pure x)
    (hy : X.N[i]? = some y) (hyl : X.env.scope.names.lookup y = some .local) (hsw : swapsWith (.DictComp kx vx [⟨tg, iter, [], 0⟩, ⟨tg1, iter1, [], 0⟩] scope pos) (some (.Name y py)) spos.line X.env = pure true) :
    PS X (.Assign [.Name y py] (.DictComp kx vx [⟨tg, iter, [], 0⟩, ⟨tg1, iter1, [], 0⟩] scope pos) spos) (tAsg (tDq2 X.K wi g wi1 g1 tk tv (own.map (·.2)) vs1) (gName i)) := by
  constructor
  intro pins s σ H D I w
  rw [exec_Assign_Name_used _ _ _ _ hsw]
  refine wpAny_bind (wpAny_standAt (wpAny_bind (show wpAny _ X.A (do let _ ← comprehension (.DictComp kx vx [⟨tg, iter, [], 0⟩, ⟨tg1, iter1, [], 0⟩] scope pos) scope X.env (firstIterPos [⟨tg, iter, [], 0⟩, ⟨tg1, iter1, [], 0⟩] pos) newDict false (eval iter X.env) (some (assign (.Name y py) X.env))) _ _ s from ?_)))
  refine wpAny_bind (thn (dq2_block (Qf := fun _ s' => SP X pins D .next s') hu hc hN I hi ok in_ hg hi1 hg1 hk hv hs hs1 (show tDq2 X.K wi g wi1 g1 tk tv (own.map (·.2)) vs1 σ H (fun x H1 => gName i x σ H1 D.nx) from w) ?_) fun _ s' hq => wpAny_pure (wpAny_pure hq))
  intro L C s' m H' Iv q hn ⟨f0, f1, f2, f3, f4, f5⟩
  refine (show wpAny _ _ (assign (.Name y py) X.env (.ref L)) _ _ _ from wpAny_assign_Name (store_ok2 (v := V.ref L) Iv hN hy (.inl hyl) rfl ?_ (.inr hyl)))
  rintro s2 I2 ⟨a, sb, ha⟩
  have apart : C ≠ a := ha.elim (fun z => by rw [z]; exact f1) fun z e => f4 y a z e.symm
  exact ⟨m, hn.sameBut sb apart, fun h3 sb3 => ⟨_, H', I2.turned (t' := s2.toks) (fun b o hb e => (sb3.2 b hb).trans e) f0 f1 f3 f4 f5, q⟩⟩
end
def dq2L (g : Tg) (w1 : DTI) (g1 : Tg) (tk tv : DTE) (σ : DSt) (vs1 : List Nat) (p : Addr) : List PyData → MH → (MH → Prop) → Prop
  | [], h, Q => Q h
  | d :: r, h, Q => match bindT g (.d d) σ with
    | some σ1 => w1 σ1 h fun ds1 h1 => dqL g1 dYes tk tv (wipeD σ1 vs1) p ds1 h1 fun h2 => dq2L g w1 g1 tk tv σ vs1 p r h2 Q
    | none => False
def dDq2 (w : DTI) (g : Tg) (w1 : DTI) (g1 : Tg) (tk tv : DTE) (vs vs1 : List Nat) : DTE := fun σ h Q => w σ h fun ds h1 => ∀ p, h1 p = none → dq2L g w1 g1 tk tv (wipeD σ vs) vs1 p ds (mput h1 p (.dcT p [])) fun h2 => Q (.own p) h2
theorem yes_inv {σ : DSt} {h : MH} {A B : MH → Prop} (w : dYes σ h fun b h1 => if b = true then A h1 else B h1) : A h := by
  have z : (if true = true then A h else B h) := w
  rwa [if_pos rfl] at z
theorem mono_yes : Mono dYes := fun _ _ _ _ k w => k _ _ w
theorem dq2L_mono {g g1 : Tg} {w1 : DTI} {tk tv : DTE} {σ : DSt} {vs1 : List Nat} {p : Addr} (m1 : Mono w1) (mk : Mono tk) (mv : Mono tv) {Q Q' : MH → Prop} (k : ∀ h, Q h → Q' h) : ∀ ds h, dq2L g w1 g1 tk tv σ vs1 p ds h Q → dq2L g w1 g1 tk tv σ vs1 p ds h Q'
  | [], _, w => k _ w
  | d :: r, h, w => by
    unfold dq2L at w ⊢
    split at w
    · exact m1 _ _ _ _ (fun ds1 h1 w1 => dqL_mono mono_yes mk mv (fun h2 w2 => dq2L_mono m1 mk mv k r h2 w2) _ _ w1) w
    · exact w
theorem dq_in {K : PySem.W.Frag} {g : Tg} {tk tv : DTE} {vs : List Nat} (mk : Mono tk) (mv : Mono tv) (hix : (g.ix.all (fun i => vs.contains i) && !g.isStar) = true) {σ : L2.St} {H1 : Hp} {σd : DSt} {h1 : MH} {Nx : Hp → Prop} {ds : List PyData} {J : It} {D : Addr}
    (rs : RSt K Γ H1 h1 σd σ) (rm1 : RM K Γ H1 h1) (gv : Gives K (Fz Γ H1 h1) J ds) (w1 : dqL g dYes tk tv (wipeD σd vs) D ds h1 fun h' => ∀ H', PX Γ H1 h1 H' h' → RM K Γ H' h' → Nx H') :
    ∃ W : Nat → Nat → Hp → Prop, (∃ m, W 0 m H1) ∧ ∀ i m H, W i m H → (J.stop i H ∧ Nx H) ∨ (J.go i H ∧ ∃ Ny : Hp → Prop, (∀ H', Ny H' → ∃ m', m' < m ∧ W (i + 1) m' H') ∧ ∀ x H', J.yld i H x H' → rawT K g x (L2.wipe σ vs) H' fun σ2 H2 => L2.wipe σ2 vs = L2.wipe σ vs ∧
      liftV K Γ tk σ2 H2 fun y H4 => liftV K Γ tv σ2 H4 fun z H5 => ∃ (L : List QRow) (k : List Int) (c : Addr), y = .ref c ∧ SqT K H5 c (k.map V.int) ∧ H5 D = some (TD D L) ∧ (∀ p ∈ L, SqT K H5 p.2.1 (p.1.map V.int)) ∧ (putQ L k c z).length ≤ sizeLine ∧ Ny (upd H5 D (TD D (putQ L k c z)))) := by
  have hsub : ∀ i, i ∈ g.ix → i ∈ vs := fun i hm => by simpa using List.all_eq_true.mp (Bool.and_eq_true_iff.mp hix).1 i hm
  have hns : g.isStar = false := by simpa using (Bool.and_eq_true_iff.mp hix).2
  refine ⟨fun i m H' => (i ≤ ds.length ∧ m + i = ds.length) ∧ ∃ h', PX Γ H1 h1 H' h' ∧ RSt K Γ H' h' (wipeD σd vs) (L2.wipe σ vs) ∧ RM K Γ H' h' ∧ dqL g dYes tk tv (wipeD σd vs) D (ds.drop i) h' fun h' => ∀ H', PX Γ H1 h1 H' h' → RM K Γ H' h' → Nx H',
    ⟨ds.length, ⟨Nat.zero_le _, rfl⟩, h1, PX.refl, rs.wipe vs, rm1, by rw [List.drop_zero]; exact w1⟩, ?_⟩
  rintro i m H' ⟨⟨hi, em⟩, h', px', rs', rm', w2⟩
  have sub : Sub (Fz Γ H1 h1) H' := fun a o e => fz_sub a o (px'.ex a o e)
  rcases Nat.lt_or_ge i ds.length with hlt | hge
  · refine .inr ⟨gv.goes i H' hlt sub, fun H2 => (i + 1 ≤ ds.length ∧ (m - 1) + (i + 1) = ds.length) ∧ ∃ h', PX Γ H1 h1 H2 h' ∧ RSt K Γ H2 h' (wipeD σd vs) (L2.wipe σ vs) ∧ RM K Γ H2 h' ∧ dqL g dYes tk tv (wipeD σd vs) D (ds.drop (i + 1)) h' fun h' => ∀ H', PX Γ H1 h1 H' h' → RM K Γ H' h' → Nx H', fun H2 q => ⟨m - 1, by omega, q⟩, fun x H2 yy => ?_⟩
    obtain ⟨_, d, e1, y⟩ := gv.yields i H' x H2 hlt sub yy
    obtain ⟨p2, rm2, rv2⟩ := yd_in px'.ex rm' y
    have hdrop : ds.drop i = d :: ds.drop (i + 1) := by
      obtain ⟨hl, hz⟩ := List.getElem?_eq_some_iff.mp e1
      rw [List.drop_eq_getElem_cons hl, hz]
    rw [hdrop] at w2
    unfold dqL at w2
    split at w2
    · rename_i σ1 e2
      refine rawT_ok hns rv2 (rs'.up p2) e2 fun σr rsr hwp => ⟨by rw [hwp vs hsub, wipe_wipe], ?_⟩
      have w3 : tk σ1 h' fun x h2 => tv σ1 h2 fun y h3 => dqStep D (fun h' => dqL g dYes tk tv (wipeD σd vs) D (ds.drop (i + 1)) h' fun h' => ∀ H', PX Γ H1 h1 H' h' → RM K Γ H' h' → Nx H') x y h3 := yes_inv w2
      refine lift_mk mk rsr rm2 w3 fun xk h4 xv H4 px4 rs4 rx rm4 w4 => lift_mk mv rs4 rm4 w4 fun yk h5 yv H5 px5 rs5 ry rm5 w5 => ?_
      unfold dqStep at w5
      split at w5
      · rename_i k q v f1 f2
        obtain ⟨g1, g2, L, g3, g4⟩ := dq_at rm5 (show RV K Γ H5 h5 (.own D) (.ref D) from rfl) f2
        have ea : D = q.1 := V.ref.inj g1
        rw [← ea] at g2 g3
        obtain ⟨c, ec, sc⟩ := tupI_okF (rx.up px5) f1
        have rq : Paired (RQF K (Fz Γ H5 h5)) (setQd q.2 k v) (putQ L k c yv) := rq_put g4 sc ry
        have p5 := (p2.trans px4).trans px5
        have px6 : PX Γ H5 h5 (upd H5 D (TD D (putQ L k c yv))) (mput h5 D (.dcT D (setQd q.2 k v))) := put_px g2 rm5
        exact ⟨L, k, c, ec, sqT_up fz_sub sc, g3, rq_keys fz_sub g4, by rw [← pairs_len rq]; exact w5.1, ⟨hlt, by omega⟩, _, (px'.trans p5).trans px6, (rs'.up p5).up px6, put_rmG g2 rm5 ⟨_, rfl, rq⟩, w5.2⟩
      · exact w5.elim
    · exact w2.elim
  · obtain rfl : i = ds.length := Nat.le_antisymm hi hge
    rw [List.drop_length] at w2
    exact .inl ⟨gv.stops H' sub, w2 H' px' rm'⟩
theorem dq2_data {K : PySem.W.Frag} {g g1 : Tg} {w1 : DTI} {tk tv : DTE} {vs vs1 : List Nat} (m1 : Mono w1) (mk : Mono tk) (mv : Mono tv) (hix : (g.ix.all (fun i => vs.contains i) && !g.isStar) = true) (hix1 : (g1.ix.all (fun i => vs1.contains i) && !g1.isStar) = true) {σ : L2.St} {H H1 : Hp} {σd : DSt} {h h1 : MH} {Q : VK} {ds : List PyData} {J : It} {D : Addr}
    (rs : RSt K Γ H h σd σ) (px : PX Γ H h H1 h1) (rm1 : RM K Γ H1 h1) (gv : Gives K (Fz Γ H1 h1) J ds) (hD : H1 D = none)
    (z1 : dq2L g w1 g1 tk tv (wipeD σd vs) vs1 D ds (mput h1 D (.dcT D [])) fun h' => ∀ H', PX Γ H h H' h' → RM K Γ H' h' → Q (.ref D) H') :
    ∃ W : Nat → Nat → Hp → Prop, (∃ m, W 0 m (upd H1 D (TD D []))) ∧ ∀ i m H, W i m H →
      (J.stop i H ∧ Q (.ref D) H) ∨ (J.go i H ∧ ∃ Nx : Hp → Prop, (∀ H', Nx H' → ∃ m', m' < m ∧ W (i + 1) m' H') ∧ ∀ x H', J.yld i H x H' → rawT K g x (L2.wipe σ vs) H' fun σ2 H2 => L2.wipe σ2 vs = L2.wipe σ vs ∧ liftI K Γ w1 σ2 H2 fun J1 H3 =>
        ∃ W1 : Nat → Nat → Hp → Prop, (∃ m, W1 0 m H3) ∧ ∀ j k H, W1 j k H → (J1.stop j H ∧ Nx H) ∨ (J1.go j H ∧ ∃ Ny : Hp → Prop, (∀ H', Ny H' → ∃ k', k' < k ∧ W1 (j + 1) k' H') ∧ ∀ x H', J1.yld j H x H' → rawT K g1 x (L2.wipe σ2 vs1) H' fun σ3 H4 => L2.wipe σ3 vs1 = L2.wipe σ2 vs1 ∧
          liftV K Γ tk σ3 H4 fun y H5 => liftV K Γ tv σ3 H5 fun z H6 => ∃ (L : List QRow) (k : List Int) (c : Addr), y = .ref c ∧ SqT K H6 c (k.map V.int) ∧ H6 D = some (TD D L) ∧ (∀ p ∈ L, SqT K H6 p.2.1 (p.1.map V.int)) ∧ (putQ L k c z).length ≤ sizeLine ∧ Ny (upd H6 D (TD D (putQ L k c z))))) := by
  have hsub : ∀ i, i ∈ g.ix → i ∈ vs := fun i hm => by simpa using List.all_eq_true.mp (Bool.and_eq_true_iff.mp hix).1 i hm
  have hns : g.isStar = false := by simpa using (Bool.and_eq_true_iff.mp hix).2
  obtain ⟨pD, rmD, hDn⟩ := own_newG (o := .dcT D []) (u := TD D []) hD rm1 ⟨[], rfl, .nil⟩
  refine ⟨fun i m H' => (i ≤ ds.length ∧ m + i = ds.length) ∧ ∃ h', PX Γ H1 h1 H' h' ∧ RSt K Γ H' h' (wipeD σd vs) (L2.wipe σ vs) ∧ RM K Γ H' h' ∧ dq2L g w1 g1 tk tv (wipeD σd vs) vs1 D (ds.drop i) h' fun h' => ∀ H', PX Γ H h H' h' → RM K Γ H' h' → Q (.ref D) H',
    ⟨ds.length, ⟨Nat.zero_le _, rfl⟩, _, pD, ((rs.up px).up pD).wipe vs, rmD, by rw [List.drop_zero]; exact z1⟩, ?_⟩
  rintro i m H' ⟨⟨hi, em⟩, h', px', rs', rm', w2⟩
  have sub : Sub (Fz Γ H1 h1) H' := fun a o e => fz_sub a o (px'.ex a o e)
  rcases Nat.lt_or_ge i ds.length with hlt | hge
  · refine .inr ⟨gv.goes i H' hlt sub, fun H2 => (i + 1 ≤ ds.length ∧ (m - 1) + (i + 1) = ds.length) ∧ ∃ h', PX Γ H1 h1 H2 h' ∧ RSt K Γ H2 h' (wipeD σd vs) (L2.wipe σ vs) ∧ RM K Γ H2 h' ∧ dq2L g w1 g1 tk tv (wipeD σd vs) vs1 D (ds.drop (i + 1)) h' fun h' => ∀ H', PX Γ H h H' h' → RM K Γ H' h' → Q (.ref D) H', fun H2 q => ⟨m - 1, by omega, q⟩, fun x H2 yy => ?_⟩
    obtain ⟨_, d, e1, y⟩ := gv.yields i H' x H2 hlt sub yy
    obtain ⟨p2, rm2, rv2⟩ := yd_in px'.ex rm' y
    have hdrop : ds.drop i = d :: ds.drop (i + 1) := by
      obtain ⟨hl, hz⟩ := List.getElem?_eq_some_iff.mp e1
      rw [List.drop_eq_getElem_cons hl, hz]
    rw [hdrop] at w2
    unfold dq2L at w2
    split at w2
    · rename_i σ1 e2
      refine rawT_ok hns rv2 (rs'.up p2) e2 fun σr rsr hwp => ⟨by rw [hwp vs hsub, wipe_wipe], ?_⟩
      refine ⟨σ1, h', rsr, rm2, m1 _ _ _ _ (fun ds1 h3 w3 J1 H3 px3 rm3 gv3 => dq_in mk mv hix1 (rsr.up px3) rm3 gv3 ?_) w2⟩
      exact dqL_mono mono_yes mk mv (fun h4 w4 H4 px4 rm4 => ⟨⟨hlt, by omega⟩, h4, px'.trans ((p2.trans px3).trans px4), rs'.up ((p2.trans px3).trans px4), rm4, w4⟩) _ _ w3
    · exact w2.elim
  · obtain rfl : i = ds.length := Nat.le_antisymm hi hge
    rw [List.drop_length] at w2
    exact .inl ⟨gv.stops H' sub, w2 H' (px.trans px') rm'⟩
theorem dq2_ok {K : PySem.W.Frag} {w w1 : DTI} {g g1 : Tg} {tk tv : DTE} {vs vs1 : List Nat} (hw : Mono w) (m1 : Mono w1) (mk : Mono tk) (mv : Mono tv) (hix : (g.ix.all (fun i => vs.contains i) && !g.isStar) = true) (hix1 : (g1.ix.all (fun i => vs1.contains i) && !g1.isStar) = true) : ∀ σ H Q, liftV K Γ (dDq2 w g w1 g1 tk tv vs vs1) σ H Q →
    tDq2 K (liftI K Γ w) (rawT K g) (liftI K Γ w1) (rawT K g1) (liftV K Γ tk) (liftV K Γ tv) vs vs1 σ H Q := by
  rintro σ H Q ⟨σd, h, rs, rm, w0⟩
  refine ⟨σd, h, rs, rm, hw _ _ _ _ (fun ds h1 z1 J H1 px rm1 gv D hD => dq2_data m1 mk mv hix hix1 rs px rm1 gv hD ?_) w0⟩
  exact dq2L_mono m1 mk mv (fun h2 w2 H' px' rm' => w2 (.ref D) H' px' rfl rm') _ _ (z1 D (rm1.tracked hD))
section
variable {X : Cx}
theorem ds_dq2 (i : Nat) {y : Str} {py : Pos} {kx vx tg iter tg1 iter1 : Expr} {scope : Scope} {own : List (Str × Nat)} {vs1 : List Nat} {pos spos : Pos} {w w1 : DTI} {g g1 : Tg} {tk tv : DTE} (hu : X.A.units + 1 < cLine) (hc : X.calm = true) (hN : X.N.Nodup) (hi : DWk X Γ tg iter w) (ok : BlkOk X.N X.env.scope scope own) (in_ : ∀ i ∈ vs1, i ∈ own.map (·.2))
    (hg : ∀ (s : Shared) (H : Hp) (C : Addr) (cl : List (Str × Addr)) (fp : List Addr), DG (X.blk s H scope (compEnvC scope cl C X.env) fp) tg g) (hix : (g.ix.all (fun i => (own.map (·.2)).contains i) && !g.isStar) = true)
    (hw1 : ∀ (Γ' : GI), Γ'.T = Γ.T → ∀ (s : Shared) (H : Hp) (C : Addr) (cl : List (Str × Addr)) (fp : List Addr), DWk (X.blk s H scope (compEnvC scope cl C X.env) fp) Γ' tg1 iter1 w1)
    (hg1 : ∀ (s : Shared) (H : Hp) (C : Addr) (cl : List (Str × Addr)) (fp : List Addr), DG (X.blk s H scope (compEnvC scope cl C X.env) fp) tg1 g1) (hix1 : (g1.ix.all (fun i => vs1.contains i) && !g1.isStar) = true)
    (hk : ∀ (Γ' : GI), Γ'.T = Γ.T → ∀ (s : Shared) (H : Hp) (C : Addr) (cl : List (Str × Addr)) (fp : List Addr), DE (X.blk s H scope (compEnvC scope cl C X.env) fp) Γ' kx tk)
    (hv : ∀ (Γ' : GI), Γ'.T = Γ.T → ∀ (s : Shared) (H : Hp) (C : Addr) (cl : List (Str × Addr)) (fp : List Addr), DE (X.blk s H scope (compEnvC scope cl C X.env) fp) Γ' vx tv)
    (hy : X.N[i]? = some y := by rfl) (hyl : X.env.scope.names.lookup y = some .local := by rfl) (hsw : swapsWith (.DictComp kx vx [⟨tg, iter, [], 0⟩, ⟨tg1, iter1, [], 0⟩] scope pos) (some (.Name y py)) spos.line X.env = pure true := by rfl) (hs : ∀ x, foldedSetIterable iter X.env x = pure x := by intro _; rfl) (hs1 : ∀ env x, foldedSetIterable iter1 env x = pure x := by intro _ _; rfl) :
    DS X Γ (.Assign [.Name y py] (.DictComp kx vx [⟨tg, iter, [], 0⟩, ⟨tg1, iter1, [], 0⟩] scope pos) spos) (dAsg (dDq2 w g w1 g1 tk tv (own.map (·.2)) vs1) (.nm i)) := by
  have m1 : Mono w1 := (hw1 Γ rfl ({} : Shared) (fun _ => none) 0 [] []).mono
  have mk : Mono tk := (hk Γ rfl ({} : Shared) (fun _ => none) 0 [] []).mono
  have mv : Mono tv := (hv Γ rfl ({} : Shared) (fun _ => none) 0 [] []).mono
  have m : Mono (dDq2 w g w1 g1 tk tv (own.map (·.2)) vs1) := fun σ h Q Q' k z => hi.mono _ _ _ _ (fun ds h1 w1 p hp => dq2L_mono m1 mk mv (fun h2 => k _ _) _ _ (w1 p hp)) z
  refine ⟨mono_asg m, ps_imp (ps_setDq2 (wi := liftI X.K Γ w) (g := rawT X.K g) (wi1 := liftI X.K Γ w1) (g1 := rawT X.K g1) (tk := liftV X.K Γ tk) (tv := liftV X.K Γ tv) hu hc hN hi.pi ok in_ (fun s H C cl fp => (hg s H C cl fp).pg) (fun s H C cl fp => (hw1 Γ rfl s H C cl fp).pi) (fun s H C cl fp => (hg1 s H C cl fp).pg) (fun s H C cl fp => (hk Γ rfl s H C cl fp).pe) (fun s H C cl fp => (hv Γ rfl s H C cl fp).pe) hs hs1 hy hyl hsw) fun D σ H q => ?_⟩
  exact dq2_ok hi.mono m1 mk mv hix hix1 _ _ _ (asg_lift (g := .nm i) m D σ H q)
end
section
variable {σ : DSt} {h : MH} {Q : DK}
theorem e_dq2 {w w1 : DTI} {g g1 : Tg} {tk tv : DTE} {vs vs1 : List Nat} (k : w σ h fun ds h1 => ∀ p, h1 p = none → dq2L g w1 g1 tk tv (wipeD σ vs) vs1 p ds (mput h1 p (.dcT p [])) fun h2 => Q (.own p) h2) : dDq2 w g w1 g1 tk tv vs vs1 σ h Q := k
end
end DL

namespace DL.G
open PySem PySem.Spec PyProof.Rows L2
set_option autoImplicit true

/-! ### is_number -/
theorem sc_is_number : FnScope ["thing"] ["thing"] (defScope s_is_number) := ⟨rfl, rfl, rfl, by decide +kernel, rfl, by decide +kernel, by decide +kernel⟩
def t_is_number : DTS := (dRet (dAndV (dIsT (dVar 0) "int") (dNotV (dIsT (dVar 0) "bool"))))
def W_is_number : DSp := fnW ["thing"] ["thing"] fun _ => t_is_number
theorem f_is_number {P : Program} {w : World} {K : PySem.W.Frag} {mg : Str → Option Value} {base : Heap} {T : List (Addr × Str)} {k : Nat} {f : Addr} {fd : FuncData} (F : Fun K "is_number" "is_number" s_is_number f fd) (g_isinstance : mg "isinstance" = none) (g_int : mg "int" = none) (g_bool : mg "bool" = none) :
    FnG P w K mg base T (k + 1) f fd ["thing"] W_is_number := by
  have c_ := sc_is_number
  refine fn_g (k := k) F sc_is_number fun cdv A outer s H E' Γ Ed hcd hΓ hr hg tk => ?_
  have r1_ := room1 hr
  have r64_ := room64 hr
  have r65_ := room65 hr
  exact (dss_one (ds_ret (de_and (de_isT (n := "int") (dv 0) (by rfl) g_isinstance (by rfl) g_int (by decide +kernel)) (de_one (de_not (de_isT (n := "bool") (dv 0) (by rfl) g_isinstance (by rfl) g_bool (by decide +kernel)))))))
/-! ### need -/
theorem sc_need : FnScope ["truth", "word", "at"] ["truth", "word", "at"] (defScope s_need) := ⟨rfl, rfl, rfl, by decide +kernel, rfl, by decide +kernel, by decide +kernel⟩
def t_need (E : DXS) : DTS := (dIfS (dNot (dTest (dVar 0))) (dRaise2 E "NoPaper" "word" "at" (dCons (dVar 1) (dCons (dVar 2) dNil))) dNext)
def W_need : DSp := fnW ["truth", "word", "at"] ["truth", "word", "at"] t_need
theorem f_need {P : Program} {w : World} {K : PySem.W.Frag} {mg : Str → Option Value} {base : Heap} {T : List (Addr × Str)} {k : Nat} {f : Addr} {fd : FuncData} (F : Fun K "need" "need" s_need f fd) (e_NoPaper : Err2 K mg "NoPaper" "word" "at") :
    FnG P w K mg base T (k + 1) f fd ["truth", "word", "at"] W_need := by
  have c_ := sc_need
  refine fn_g (k := k) F sc_need fun cdv A outer s H E' Γ Ed hcd hΓ hr hg tk => ?_
  have r1_ := room1 hr
  have r64_ := room64 hr
  have r65_ := room65 hr
  exact (dss_one (ds_if (dt_not (dt_val (dv 0))) (dss_one (ds_raiseE2 (by rfl) e_NoPaper (by decide) hr tk (da_cons (dv 1) (da_cons (dv 2) da_nil)))) dss_nil))
/-! ### is_entry -/
theorem sc_is_entry : FnScope ["thing", "one"] ["thing"] (defScope s_is_entry) := ⟨rfl, rfl, rfl, by decide +kernel, rfl, by decide +kernel, by decide +kernel⟩
def t_is_entry : DTS := (dRet (dAndV (dIsT (dVar 0) "tuple") (dAndV (dOp rdEq (dB rdLen (dCons (dVar 0) dNil)) (dC (.int 3))) (dB rdAll (dCons (dL (fLc (wSeq (dVar 0)) (.nm 1) dYes (dCall noX W_is_number (dCons (dVar 1) dNil)) [1])) dNil)))))
def W_is_entry : DSp := fnW ["thing", "one"] ["thing"] fun _ => t_is_entry
theorem f_is_entry {P : Program} {w : World} {K : PySem.W.Frag} {mg : Str → Option Value} {base : Heap} {T : List (Addr × Str)} {k : Nat} {f : Addr} {fd : FuncData} (F : Fun K "is_entry" "is_entry" s_is_entry f fd) (c_is_number : FnC P w K mg base T k "is_number" ["thing"] W_is_number) (g_isinstance : mg "isinstance" = none) (g_tuple : mg "tuple" = none) (g_len : mg "len" = none) (g_all : mg "all" = none) :
    FnG P w K mg base T (k + 1) f fd ["thing"] W_is_entry := by
  have c_ := sc_is_entry
  refine fn_g (k := k) F sc_is_entry fun cdv A outer s H E' Γ Ed hcd hΓ hr hg tk => ?_
  have r1_ := room1 hr
  have r64_ := room64 hr
  have r65_ := room65 hr
  exact (dss_one (ds_ret (de_and (de_isT (n := "tuple") (dv 0) (by rfl) g_isinstance (by rfl) g_tuple (by decide +kernel)) (de_and (de_cmp (op_eqA r64_) lr_eq (de_callB cr_len la_len (by rfl) g_len (by decide +kernel) (da_cons (dv 0) da_nil)) de_int) (de_one (de_callB (cr_all (by rfl)) la_all (by rfl) g_all (by decide +kernel) (da_cons (DF.toDE (df_lc (by rfl) c_.nd (dw_seq (dv 0)) (own := [("one", 1)]) (show BlkOk ["thing", "one"] (defScope s_is_entry) _ _ from blkOk_by (by decide +kernel)) (fun _ _ _ _ _ => (dg_nm 1 c_.nd)) (by decide) (fun Γ' hΓ1 _ _ _ _ _ => have hΓ := hΓ1.trans hΓ; dts_nil) (fun Γ' hΓ1 _ _ _ _ _ => have hΓ := hΓ1.trans hΓ; (de_fn hΓ c_is_number hr hg takes_no (da_cons (dv 1) da_nil))))) da_nil)))))))
/-! ### runs_of -/
theorem sc_runs_of : FnScope ["entries", "most", "some", "at"] ["entries", "most"] (defScope s_runs_of) := ⟨rfl, rfl, rfl, by decide +kernel, rfl, by decide +kernel, by decide +kernel⟩
def t_runs_of : DTS := (dSeq (dAsg (dL (fB rfList (dCons (dVar 0) dNil))) (.nm 2))
  (dRet (dB rdTuple (dCons (dL (fLc (wRg3 (dC (.int 0)) (dB rdLen (dCons (dVar 2) dNil)) (dVar 1)) (.nm 3) dYes (dB rdTuple (dCons (dL (fSortSetT (dSl (dVar 2) (dPart (dVar 3)) (dPart (dOp rdAdd (dVar 3) (dVar 1)))))) dNil)) [3])) dNil))))
def W_runs_of : DSp := fnW ["entries", "most", "some", "at"] ["entries", "most"] fun _ => t_runs_of
theorem f_runs_of {P : Program} {w : World} {K : PySem.W.Frag} {mg : Str → Option Value} {base : Heap} {T : List (Addr × Str)} {k : Nat} {f : Addr} {fd : FuncData} (F : Fun K "runs_of" "runs_of" s_runs_of f fd) (g_range : mg "range" = none) (g_len : mg "len" = none) (g_sorted : mg "sorted" = none) (g_set : mg "set" = none) (g_tuple : mg "tuple" = none) (g_list : mg "list" = none) :
    FnG P w K mg base T (k + 1) f fd ["entries", "most"] W_runs_of := by
  have c_ := sc_runs_of
  refine fn_g (k := k) F sc_runs_of fun cdv A outer s H E' Γ Ed hcd hΓ hr hg tk => ?_
  have r1_ := room1 hr
  have r64_ := room64 hr
  have r65_ := room65 hr
  exact (dss_cons (ds_set 2 c_.nd (DF.toDE (df_callTy call_list_of lf_list (by rfl) g_list (by decide +kernel) (da_cons (dv 0) da_nil))))
    (dss_one (ds_ret (de_callTy call_tuple_of la_tuple (by rfl) g_tuple (by decide +kernel) (da_cons (DF.toDE (df_lc (by rfl) c_.nd (dw_rg3 (by rfl) g_range de_int (de_callB cr_len la_len (by rfl) g_len (by decide +kernel) (da_cons (dv 2) da_nil)) (dv 1)) (own := [("at", 3)]) (show BlkOk ["entries", "most", "some", "at"] (defScope s_runs_of) _ _ from blkOk_by (by decide +kernel)) (fun _ _ _ _ _ => (dg_nm 3 c_.nd)) (by decide) (fun Γ' hΓ1 _ _ _ _ _ => have hΓ := hΓ1.trans hΓ; dts_nil) (fun Γ' hΓ1 _ _ _ _ _ => have hΓ := hΓ1.trans hΓ; (de_callTy call_tuple_of la_tuple (by rfl) g_tuple (by decide +kernel) (da_cons (DF.toDE (df_sortSetT (by rfl) r64_ (by rfl) g_sorted (by rfl) g_set (de_sl (dv 2) (do_some (dv 3)) (do_some (de_bin op_addAll lr_add (dv 3) (dv 1)))))) da_nil))))) da_nil)))))
/-! ### least_head -/
theorem sc_least_head : FnScope ["runs", "places", "heads", "run", "at"] ["runs", "places"] (defScope s_least_head) := ⟨rfl, rfl, rfl, by decide +kernel, rfl, by decide +kernel, by decide +kernel⟩
def t_least_head : DTS := (dSeq (dAsg (dL (fLc (wZipM (dVar 0) (dVar 1)) (.tup [3, 4]) (dTest (dOp rdLt (dVar 4) (dB rdLen (dCons (dVar 3) dNil)))) (dOp rdIx (dVar 3) (dVar 4)) [3, 4])) (.nm 2))
  (dRet (dMinD (dVar 2))))
def W_least_head : DSp := fnW ["runs", "places", "heads", "run", "at"] ["runs", "places"] fun _ => t_least_head
theorem f_least_head {P : Program} {w : World} {K : PySem.W.Frag} {mg : Str → Option Value} {base : Heap} {T : List (Addr × Str)} {k : Nat} {f : Addr} {fd : FuncData} (F : Fun K "least_head" "least_head" s_least_head f fd) (g_min : mg "min" = none) (g_zip : mg "zip" = none) (g_len : mg "len" = none) :
    FnG P w K mg base T (k + 1) f fd ["runs", "places"] W_least_head := by
  have c_ := sc_least_head
  refine fn_g (k := k) F sc_least_head fun cdv A outer s H E' Γ Ed hcd hΓ hr hg tk => ?_
  have r1_ := room1 hr
  have r64_ := room64 hr
  have r65_ := room65 hr
  exact (dss_cons (ds_lc 2 (by rfl) c_.nd (dw_zm (by rfl) g_zip (dv 0) (dv 1)) (own := [("run", 3), ("at", 4)]) (show BlkOk ["runs", "places", "heads", "run", "at"] (defScope s_least_head) _ _ from blkOk_by (by decide +kernel)) (fun _ _ _ _ _ => (dg_tup (by rfl) (dgs_cons (dg_nm 3 c_.nd) (dgs_cons (dg_nm 4 c_.nd) dgs_nil)))) (by decide) (fun Γ' hΓ1 _ _ _ _ _ => have hΓ := hΓ1.trans hΓ; (dts_one (dt_cmp (op_ltG r1_) lr_lt (dv 4) (de_callB cr_len la_len (by rfl) g_len (by decide +kernel) (da_cons (dv 3) da_nil))))) (fun Γ' hΓ1 _ _ _ _ _ => have hΓ := hΓ1.trans hΓ; (de_ix r1_ (dv 3) (dv 4))))
    (dss_one (ds_ret (de_minD (by rfl) r64_ (by rfl) g_min (dv 2)))))
/-! ### merge_runs -/
theorem sc_merge_runs : FnScope ["runs", "found", "places", "entry", "run", "r"] ["runs"] (defScope s_merge_runs) := ⟨rfl, rfl, rfl, by decide +kernel, rfl, by decide +kernel, by decide +kernel⟩
def t_merge_runs : DTS := (dSeq (dAsg (dOwn (fLst dNil)) (.nm 1))
  (dSeq (dAsg (dOwn (fLc (wSeq (dVar 0)) (.nm 4) dYes (dC (.int 0)) [4])) (.nm 2))
  (dSeq (dAsg (dLend 2 (dCall noX W_least_head (dCons (dVar 0) (dCons (dVar 2) dNil)))) (.nm 3))
  (dSeq (dWhile (dTest (dOp rdNotN (dVar 3) (dC .none))) (dSeq (dDrop (dML rdAppend (dVar 1) (dCons (dVar 3) dNil)))
  (dSeq (dFor (wEnum (dVar 0)) (.tup [5, 4]) (dIfS (dTest (dOp rdEq (dSl (dVar 4) (dPart (dOp rdIx (dVar 2) (dVar 5))) (dPart (dOp rdAdd (dOp rdIx (dVar 2) (dVar 5)) (dC (.int 1))))) (dTup (dCons (dVar 3) dNil)))) (dAugIx (dVar 2) (dVar 5) (1) (fun i j : Int => i + j)) dNext))
  (dAsg (dLend 2 (dCall noX W_least_head (dCons (dVar 0) (dCons (dVar 2) dNil)))) (.nm 3)))))
  (dRet (dB rdTuple (dCons (dVar 1) dNil)))))))
def W_merge_runs : DSp := fnW ["runs", "found", "places", "entry", "run", "r"] ["runs"] fun _ => t_merge_runs
theorem f_merge_runs {P : Program} {w : World} {K : PySem.W.Frag} {mg : Str → Option Value} {base : Heap} {T : List (Addr × Str)} {k : Nat} {f : Addr} {fd : FuncData} (F : Fun K "merge_runs" "merge_runs" s_merge_runs f fd) (c_least_head : FnC P w K mg base T k "least_head" ["runs", "places"] W_least_head) (g_tuple : mg "tuple" = none) (g_enumerate : mg "enumerate" = none) :
    FnG P w K mg base T (k + 1) f fd ["runs"] W_merge_runs := by
  have c_ := sc_merge_runs
  refine fn_g (k := k) F sc_merge_runs fun cdv A outer s H E' Γ Ed hcd hΓ hr hg tk => ?_
  have r1_ := room1 hr
  have r64_ := room64 hr
  have r65_ := room65 hr
  exact (dss_cons (ds_set 1 c_.nd (DF.toOwn (df_lst da_nil)))
    (dss_cons (ds_lcO 2 (by rfl) c_.nd (dw_seq (dv 0)) (own := [("run", 4)]) (show BlkOk ["runs", "found", "places", "entry", "run", "r"] (defScope s_merge_runs) _ _ from blkOk_by (by decide +kernel)) (fun _ _ _ _ _ => (dg_nm 4 c_.nd)) (by decide) (fun Γ' hΓ1 _ _ _ _ _ => have hΓ := hΓ1.trans hΓ; dts_nil) (fun Γ' hΓ1 _ _ _ _ _ => have hΓ := hΓ1.trans hΓ; de_int))
    (dss_cons (ds_set 3 c_.nd (de_lend 2 (de_fn hΓ c_least_head hr hg takes_no (da_cons (dv 0) (da_cons (dv 2) da_nil)))))
    (dss_cons (ds_while (passes_of rfl) (dt_cmp op_notN lr_notN (dv 3) de_non) (dss_cons (ds_expr (de_mL PySem.F.plainAttrs_list PySem.F.slot_list_append PySem.F.type_list_append mt_append lm_append (dv 1) (da_cons (dv 3) da_nil)))
    (dss_cons (ds_for (passes_of rfl) (by rfl) (dw_enum (by rfl) g_enumerate (dv 0)) (dg_tup (by rfl) (dgs_cons (dg_nm 5 c_.nd) (dgs_cons (dg_nm 4 c_.nd) dgs_nil))) (dss_one (ds_if (dt_cmp (op_eqA r64_) lr_eq (de_sl (dv 4) (do_some (de_ix r1_ (dv 2) (dv 5))) (do_some (de_bin op_addAll lr_add (de_ix r1_ (dv 2) (dv 5)) de_int))) (de_tup (da_cons (dv 3) da_nil))) (dss_one (ds_augS r1_ (dv 2) (dv 5) pe_int ip_add)) dss_nil)))
    (dss_one (ds_set 3 c_.nd (de_lend 2 (de_fn hΓ c_least_head hr hg takes_no (da_cons (dv 0) (da_cons (dv 2) da_nil)))))))))
    (dss_one (ds_ret (de_callTy call_tuple_of la_tuple (by rfl) g_tuple (by decide +kernel) (da_cons (dv 1) da_nil))))))))
/-! ### lets_merged -/
theorem sc_lets_merged : FnScope ["runs", "thing", "k", "known", "given", "r", "run", "entry", "one"] ["runs", "thing"] (defScope s_lets_merged) := ⟨rfl, rfl, rfl, by decide +kernel, rfl, by decide +kernel, by decide +kernel⟩
def t_lets_merged (E : DXS) : DTS := (dSeq (dDrop (dCall E W_need (dCons (dAndV (dIsT (dVar 1) "tuple") (dB rdAll (dCons (dL (fLc (wSeq (dVar 1)) (.nm 8) dYes (dCall noX W_is_entry (dCons (dVar 8) dNil)) [8])) dNil))) (dCons (dC (.str "shape")) (dCons (dNeg (dC (.int 1))) dNil)))))
  (dSeq (dFor (wRg2 (dC (.int 1)) (dB rdLen (dCons (dVar 1) dNil))) (.nm 2) (dDrop (dCall E W_need (dCons (dOp rdLt (dOp rdIx (dVar 1) (dOp rdSub (dVar 2) (dC (.int 1)))) (dOp rdIx (dVar 1) (dVar 2))) (dCons (dC (.str "rise")) (dCons (dVar 2) dNil))))))
  (dSeq (dAsg (dDcQ (dVar 1)) (.nm 3))
  (dSeq (dFor (wEnum (dVar 0)) (.tup [5, 6]) (dFor (wEnum (dVar 6)) (.tup [2, 7]) (dDrop (dCall E W_need (dCons (dOp rdInQ (dVar 7) (dVar 3)) (dCons (dC (.str "lacks")) (dCons (dTup (dCons (dVar 5) (dCons (dVar 2) dNil))) dNil)))))))
  (dSeq (dAsg (dDq2 (wSeq (dVar 0)) (.nm 6) (wSeq (dVar 6)) (.nm 7) (dVar 7) (dC (.bool true)) [6, 7] [7]) (.nm 4))
  (dSeq (dFor (wEnum (dVar 1)) (.tup [2, 7]) (dDrop (dCall E W_need (dCons (dOp rdInQ (dVar 7) (dVar 4)) (dCons (dC (.str "more")) (dCons (dVar 2) dNil))))))
  (dRet (dC (.bool true)))))))))
def W_lets_merged : DSp := fnW ["runs", "thing", "k", "known", "given", "r", "run", "entry", "one"] ["runs", "thing"] t_lets_merged
theorem f_lets_merged {P : Program} {w : World} {K : PySem.W.Frag} {mg : Str → Option Value} {base : Heap} {T : List (Addr × Str)} {k : Nat} {f : Addr} {fd : FuncData} (F : Fun K "lets_merged" "lets_merged" s_lets_merged f fd) (c_need : FnC P w K mg base T k "need" ["truth", "word", "at"] W_need) (c_is_entry : FnC P w K mg base T k "is_entry" ["thing"] W_is_entry) (g_enumerate : mg "enumerate" = none) (g_range : mg "range" = none) (g_len : mg "len" = none) (g_isinstance : mg "isinstance" = none) (g_tuple : mg "tuple" = none) (g_all : mg "all" = none) :
    FnG P w K mg base T (k + 1) f fd ["runs", "thing"] W_lets_merged := by
  have c_ := sc_lets_merged
  refine fn_g (k := k) F sc_lets_merged fun cdv A outer s H E' Γ Ed hcd hΓ hr hg tk => ?_
  have r1_ := room1 hr
  have r64_ := room64 hr
  have r65_ := room65 hr
  exact (dss_cons (ds_expr (de_fn hΓ c_need hr hg tk (da_cons (de_and (de_isT (n := "tuple") (dv 1) (by rfl) g_isinstance (by rfl) g_tuple (by decide +kernel)) (de_one (de_callB (cr_all (by rfl)) la_all (by rfl) g_all (by decide +kernel) (da_cons (DF.toDE (df_lc (by rfl) c_.nd (dw_seq (dv 1)) (own := [("one", 8)]) (show BlkOk ["runs", "thing", "k", "known", "given", "r", "run", "entry", "one"] (defScope s_lets_merged) _ _ from blkOk_by (by decide +kernel)) (fun _ _ _ _ _ => (dg_nm 8 c_.nd)) (by decide) (fun Γ' hΓ1 _ _ _ _ _ => have hΓ := hΓ1.trans hΓ; dts_nil) (fun Γ' hΓ1 _ _ _ _ _ => have hΓ := hΓ1.trans hΓ; (de_fn hΓ c_is_entry hr hg takes_no (da_cons (dv 8) da_nil))))) da_nil)))) (da_cons de_str (da_cons (de_neg de_int) da_nil)))))
    (dss_cons (ds_for (passes_of rfl) (by rfl) (dw_rg2 (by rfl) g_range de_int (de_callB cr_len la_len (by rfl) g_len (by decide +kernel) (da_cons (dv 1) da_nil))) (dg_nm 2 c_.nd) (dss_one (ds_expr (de_fn hΓ c_need hr hg tk (da_cons (de_cmp (op_ltG r1_) lr_lt (de_ix r1_ (dv 1) (de_bin op_sub lr_sub (dv 2) de_int)) (de_ix r1_ (dv 1) (dv 2))) (da_cons de_str (da_cons (dv 2) da_nil)))))))
    (dss_cons (ds_dcQ 3 r1_ (by rfl) c_.nd (dv 1))
    (dss_cons (ds_for (passes_of rfl) (by rfl) (dw_enum (by rfl) g_enumerate (dv 0)) (dg_tup (by rfl) (dgs_cons (dg_nm 5 c_.nd) (dgs_cons (dg_nm 6 c_.nd) dgs_nil))) (dss_one (ds_for (passes_of rfl) (by rfl) (dw_enum (by rfl) g_enumerate (dv 6)) (dg_tup (by rfl) (dgs_cons (dg_nm 2 c_.nd) (dgs_cons (dg_nm 7 c_.nd) dgs_nil))) (dss_one (ds_expr (de_fn hΓ c_need hr hg tk (da_cons (de_cmp (op_inQ r1_) lr_inQ (dv 7) (dv 3)) (da_cons de_str (da_cons (de_tup (da_cons (dv 5) (da_cons (dv 2) da_nil))) da_nil)))))))))
    (dss_cons (ds_dq2 4 r1_ (by rfl) c_.nd (dw_seq (dv 0)) (own := [("run", 6), ("entry", 7)]) (vs1 := [7]) (show BlkOk ["runs", "thing", "k", "known", "given", "r", "run", "entry", "one"] (defScope s_lets_merged) _ _ from blkOk_by (by decide +kernel)) (by decide) (fun _ _ _ _ _ => (dg_nm 6 c_.nd)) (by decide) (fun Γ' hΓ1 _ _ _ _ _ => have hΓ := hΓ1.trans hΓ; (dw_seq (dv 6))) (fun _ _ _ _ _ => (dg_nm 7 c_.nd)) (by decide) (fun Γ' hΓ1 _ _ _ _ _ => have hΓ := hΓ1.trans hΓ; (dv 7)) (fun Γ' hΓ1 _ _ _ _ _ => have hΓ := hΓ1.trans hΓ; de_bl))
    (dss_cons (ds_for (passes_of rfl) (by rfl) (dw_enum (by rfl) g_enumerate (dv 1)) (dg_tup (by rfl) (dgs_cons (dg_nm 2 c_.nd) (dgs_cons (dg_nm 7 c_.nd) dgs_nil))) (dss_one (ds_expr (de_fn hΓ c_need hr hg tk (da_cons (de_cmp (op_inQ r1_) lr_inQ (dv 7) (dv 4)) (da_cons de_str (da_cons (dv 2) da_nil)))))))
    (dss_one (ds_ret de_bl))))))))
/-! ### _law_feed -/
theorem sc__law_feed : FnScope ["_law_script"] ["_law_script"] (defScope s__law_feed) := ⟨rfl, rfl, rfl, by decide +kernel, rfl, by decide +kernel, by decide +kernel⟩
def t__law_feed : DTS := (dRet (dOwn (fLst (dCons (dL (fB rfList (dCons (dSl (dVar 0) dNoPart (dPart (dC (.int 63)))) dNil))) (dCons (dC (.int 0)) (dCons (dC (.int 0)) (dCons (dC (.int 0)) dNil)))))))
def W__law_feed : DSp := fnW ["_law_script"] ["_law_script"] fun _ => t__law_feed
theorem f__law_feed {P : Program} {w : World} {K : PySem.W.Frag} {mg : Str → Option Value} {base : Heap} {T : List (Addr × Str)} {k : Nat} {f : Addr} {fd : FuncData} (F : Fun K "_law_feed" "_law_feed" s__law_feed f fd) (g_list : mg "list" = none) :
    FnG P w K mg base T (k + 1) f fd ["_law_script"] W__law_feed := by
  have c_ := sc__law_feed
  refine fn_g (k := k) F sc__law_feed fun cdv A outer s H E' Γ Ed hcd hΓ hr hg tk => ?_
  have r1_ := room1 hr
  have r64_ := room64 hr
  have r65_ := room65 hr
  exact (dss_one (ds_ret (DF.toOwn (df_lst (da_cons (DF.toDE (df_callTy call_list_of lf_list (by rfl) g_list (by decide +kernel) (da_cons (de_sl (dv 0) do_none (do_some de_int)) da_nil))) (da_cons de_int (da_cons de_int (da_cons de_int da_nil))))))))
/-! ### _law_draw -/
theorem sc__law_draw : FnScope ["_law_feed_here", "_law_many", "_law_cell", "_law_mixed", "_law_figure"] ["_law_feed_here", "_law_many"] (defScope s__law_draw) := ⟨rfl, rfl, rfl, by decide +kernel, rfl, by decide +kernel, by decide +kernel⟩
def t__law_draw : DTS := (dSeq (dSetIx (dOp rdAdd (dOp rdIx (dVar 0) (dC (.int 1))) (dC (.int 1))) (dVar 0) (dC (.int 1)))
  (dSeq (dWhile (dAnd (dTest (dOp rdEq (dOp rdIx (dVar 0) (dC (.int 2))) (dC (.int 0)))) (dTest (dOp rdLt (dOp rdIx (dVar 0) (dC (.int 3))) (dB rdLen (dCons (dOp rdIx (dVar 0) (dC (.int 0))) dNil))))) (dSeq (dAsg (dB rdAbs (dCons (dOp rdIx (dOp rdIx (dVar 0) (dC (.int 0))) (dOp rdIx (dVar 0) (dC (.int 3)))) dNil)) (.nm 2))
  (dSeq (dSetIx (dOp rdMul (dVar 2) (dB rdInt (dCons (dOp rdGe (dVar 2) (dOp rdPow (dC (.int 10)) (dC (.int 18)))) dNil))) (dVar 0) (dC (.int 2)))
  (dSetIx (dOp rdAdd (dOp rdIx (dVar 0) (dC (.int 3))) (dC (.int 1))) (dVar 0) (dC (.int 3))))))
  (dSeq (dIfS (dTest (dOp rdGt (dOp rdIx (dVar 0) (dC (.int 2))) (dC (.int 0)))) (dSeq (dAsg (dOp rdMod (dOp rdIx (dVar 0) (dC (.int 2))) (dVar 1)) (.nm 4))
  (dSeq (dSetIx (dOp rdDiv (dOp rdIx (dVar 0) (dC (.int 2))) (dVar 1)) (dVar 0) (dC (.int 2)))
  (dRet (dVar 4)))) dNext)
  (dSeq (dAsg (dIf (dTest (dOp rdNe (dOp rdIx (dVar 0) (dC (.int 0))) (dL (fLst dNil)))) (dOp rdIx (dOp rdIx (dVar 0) (dC (.int 0))) (dOp rdMod (dOp rdIx (dVar 0) (dC (.int 1))) (dB rdLen (dCons (dOp rdIx (dVar 0) (dC (.int 0))) dNil)))) (dC (.int 5))) (.nm 2))
  (dSeq (dAsg (dOp rdMod (dOp rdPow (dOp rdAdd (dOp rdAdd (dOp rdMod (dVar 2) (dC (.int 1000003))) (dOp rdMul (dOp rdMul (dC (.int 613)) (dOp rdIx (dVar 0) (dC (.int 1)))) (dOp rdAdd (dOp rdIx (dVar 0) (dC (.int 1))) (dC (.int 7))))) (dC (.int 17))) (dC (.int 5))) (dC (.int 2147483647))) (.nm 3))
  (dRet (dOp rdMod (dOp rdDiv (dOp rdMod (dOp rdPow (dOp rdAdd (dVar 3) (dOp rdMul (dC (.int 4099)) (dOp rdIx (dVar 0) (dC (.int 1))))) (dC (.int 5))) (dC (.int 2147483587))) (dC (.int 7))) (dVar 1))))))))
def W__law_draw : DSp := fnW ["_law_feed_here", "_law_many", "_law_cell", "_law_mixed", "_law_figure"] ["_law_feed_here", "_law_many"] fun _ => t__law_draw
theorem f__law_draw {P : Program} {w : World} {K : PySem.W.Frag} {mg : Str → Option Value} {base : Heap} {T : List (Addr × Str)} {k : Nat} {f : Addr} {fd : FuncData} (F : Fun K "_law_draw" "_law_draw" s__law_draw f fd) (g_len : mg "len" = none) (g_int : mg "int" = none) (g_abs : mg "abs" = none) :
    FnG P w K mg base T (k + 1) f fd ["_law_feed_here", "_law_many"] W__law_draw := by
  have c_ := sc__law_draw
  refine fn_g (k := k) F sc__law_draw fun cdv A outer s H E' Γ Ed hcd hΓ hr hg tk => ?_
  have r1_ := room1 hr
  have r64_ := room64 hr
  have r65_ := room65 hr
  exact (dss_cons (ds_setIx r1_ (de_bin op_addAll lr_add (de_ix r1_ (dv 0) de_int) de_int) (dv 0) de_int)
    (dss_cons (ds_while (passes_of rfl) (DW.dt (dw_and (dt_cmp (op_eqA r64_) lr_eq (de_ix r1_ (dv 0) de_int) de_int) (dw_and1 (dt_cmp (op_ltG r1_) lr_lt (de_ix r1_ (dv 0) de_int) (de_callB cr_len la_len (by rfl) g_len (by decide +kernel) (da_cons (de_ix r1_ (dv 0) de_int) da_nil)))))) (dss_cons (ds_set 2 c_.nd (de_callB call_abs la_abs (by rfl) g_abs (by decide +kernel) (da_cons (de_ix r1_ (de_ix r1_ (dv 0) de_int) (de_ix r1_ (dv 0) de_int)) da_nil)))
    (dss_cons (ds_setIx r1_ (de_bin op_mulAll lr_mul (dv 2) (de_callTy call_int1 la_int (by rfl) g_int (by decide +kernel) (da_cons (de_cmp (op_geG r1_) lr_ge (dv 2) (de_bin op_pow lr_pow de_int de_int)) da_nil))) (dv 0) de_int)
    (dss_one (ds_setIx r1_ (de_bin op_addAll lr_add (de_ix r1_ (dv 0) de_int) de_int) (dv 0) de_int)))))
    (dss_cons (ds_if (dt_cmp (op_gtG r1_) lr_gt (de_ix r1_ (dv 0) de_int) de_int) (dss_cons (ds_set 4 c_.nd (de_bin op_modN lr_mod (de_ix r1_ (dv 0) de_int) (dv 1)))
    (dss_cons (ds_setIx r1_ (de_bin op_fdivN lr_div (de_ix r1_ (dv 0) de_int) (dv 1)) (dv 0) de_int)
    (dss_one (ds_ret (dv 4))))) dss_nil)
    (dss_cons (ds_set 2 c_.nd (de_ifExp (dt_cmp (op_neA r64_) lr_ne (de_ix r1_ (dv 0) de_int) (DF.toDE (df_lst da_nil))) (de_ix r1_ (de_ix r1_ (dv 0) de_int) (de_bin op_modN lr_mod (de_ix r1_ (dv 0) de_int) (de_callB cr_len la_len (by rfl) g_len (by decide +kernel) (da_cons (de_ix r1_ (dv 0) de_int) da_nil)))) de_int))
    (dss_cons (ds_set 3 c_.nd (de_bin op_modN lr_mod (de_bin op_pow lr_pow (de_bin op_addAll lr_add (de_bin op_addAll lr_add (de_bin op_modN lr_mod (dv 2) de_int) (de_bin op_mulAll lr_mul (de_bin op_mulAll lr_mul de_int (de_ix r1_ (dv 0) de_int)) (de_bin op_addAll lr_add (de_ix r1_ (dv 0) de_int) de_int))) de_int) de_int) de_int))
    (dss_one (ds_ret (de_bin op_modN lr_mod (de_bin op_fdivN lr_div (de_bin op_modN lr_mod (de_bin op_pow lr_pow (de_bin op_addAll lr_add (dv 3) (de_bin op_mulAll lr_mul de_int (de_ix r1_ (dv 0) de_int))) de_int) de_int) de_int) (dv 1)))))))))
/-! ### _law_entry -/
theorem sc__law_entry : FnScope ["_law_feed_here", "_law_broad"] ["_law_feed_here", "_law_broad"] (defScope s__law_entry) := ⟨rfl, rfl, rfl, by decide +kernel, rfl, by decide +kernel, by decide +kernel⟩
def t__law_entry : DTS := (dRet (dTup (dCons (dOp rdSub (dCall noX W__law_draw (dCons (dVar 0) (dCons (dVar 1) dNil))) (dOp rdDiv (dVar 1) (dC (.int 3)))) (dCons (dCall noX W__law_draw (dCons (dVar 0) (dCons (dC (.int 4)) dNil))) (dCons (dCall noX W__law_draw (dCons (dVar 0) (dCons (dC (.int 3)) dNil))) dNil)))))
def W__law_entry : DSp := fnW ["_law_feed_here", "_law_broad"] ["_law_feed_here", "_law_broad"] fun _ => t__law_entry
theorem f__law_entry {P : Program} {w : World} {K : PySem.W.Frag} {mg : Str → Option Value} {base : Heap} {T : List (Addr × Str)} {k : Nat} {f : Addr} {fd : FuncData} (F : Fun K "_law_entry" "_law_entry" s__law_entry f fd) (c__law_draw : FnC P w K mg base T k "_law_draw" ["_law_feed_here", "_law_many"] W__law_draw) :
    FnG P w K mg base T (k + 1) f fd ["_law_feed_here", "_law_broad"] W__law_entry := by
  have c_ := sc__law_entry
  refine fn_g (k := k) F sc__law_entry fun cdv A outer s H E' Γ Ed hcd hΓ hr hg tk => ?_
  have r1_ := room1 hr
  have r64_ := room64 hr
  have r65_ := room65 hr
  exact (dss_one (ds_ret (de_tup (da_cons (de_bin op_sub lr_sub (de_fn hΓ c__law_draw hr hg takes_no (da_cons (dv 0) (da_cons (dv 1) da_nil))) (de_bin op_fdivN lr_div (dv 1) de_int)) (da_cons (de_fn hΓ c__law_draw hr hg takes_no (da_cons (dv 0) (da_cons de_int da_nil))) (da_cons (de_fn hΓ c__law_draw hr hg takes_no (da_cons (dv 0) (da_cons de_int da_nil))) da_nil))))))
/-! ### law -/
theorem sc_law : FnScope ["_law_script", "_law_feed_here", "_law_some", "_law_other", "_law_due", "_law_most", "_law_both", "_law_runs", "_law_one", "_law_two", "_law_k"] ["_law_script"] (defScope s_law) := ⟨rfl, rfl, rfl, by decide +kernel, rfl, by decide +kernel, by decide +kernel⟩
def t_law (E : DXS) : DTS := (dSeq (dAsg (dCall noX W__law_feed (dCons (dVar 0) dNil)) (.nm 1))
  (dSeq (dAsg (dL (fLc (wRg1 (dCall noX W__law_draw (dCons (dVar 1) (dCons (dC (.int 51)) dNil)))) (.nm 10) dYes (dCall noX W__law_entry (dCons (dVar 1) (dCons (dOp rdIx (dL (fLst (dCons (dC (.int 4)) (dCons (dC (.int 20)) dNil)))) (dCall noX W__law_draw (dCons (dVar 1) (dCons (dC (.int 2)) dNil)))) dNil))) [10])) (.nm 2))
  (dSeq (dAsg (dL (fLc (wRg1 (dCall noX W__law_draw (dCons (dVar 1) (dCons (dC (.int 20)) dNil)))) (.nm 10) dYes (dCall noX W__law_entry (dCons (dVar 1) (dCons (dC (.int 9)) dNil))) [10])) (.nm 3))
  (dSeq (dAsg (dB rdTuple (dCons (dL (fSortSetM (dVar 2))) dNil)) (.nm 4))
  (dSeq (dFor (wSeq (dTup (dCons (dC (.int 1)) (dCons (dC (.int 2)) (dCons (dC (.int 3)) (dCons (dC (.int 7)) (dCons (dOp rdAdd (dC (.int 1)) (dCall noX W__law_draw (dCons (dVar 1) (dCons (dC (.int 60)) dNil)))) dNil))))))) (.nm 5) (dSeq (dAsg (dCall noX W_runs_of (dCons (dVar 2) (dCons (dVar 5) dNil))) (.nm 7))
  (dIfS (dOr (dTest (dOp rdNe (dCall noX W_merge_runs (dCons (dVar 7) dNil)) (dVar 4))) (dTest (dOp rdNotB (dCall E W_lets_merged (dCons (dVar 7) (dCons (dVar 4) dNil))) (dC (.bool true))))) (dRet (dC (.bool false))) dNext)))
  (dSeq (dPar 8 9 (dCons (dCall noX W_runs_of (dCons (dVar 2) (dCons (dOp rdAdd (dC (.int 1)) (dCall noX W__law_draw (dCons (dVar 1) (dCons (dC (.int 9)) dNil)))) dNil))) (dCons (dCall noX W_runs_of (dCons (dVar 3) (dCons (dOp rdAdd (dC (.int 1)) (dCall noX W__law_draw (dCons (dVar 1) (dCons (dC (.int 9)) dNil)))) dNil))) dNil)))
  (dSeq (dAsg (dCall noX W_merge_runs (dCons (dOp rdAdd (dVar 8) (dVar 9)) dNil)) (.nm 6))
  (dSeq (dIfS (dOr (dTest (dOp rdNe (dVar 6) (dB rdTuple (dCons (dL (fSortSetM (dOp rdAdd (dVar 2) (dVar 3)))) dNil)))) (dTest (dOp rdNe (dCall noX W_merge_runs (dCons (dTup (dCons (dCall noX W_merge_runs (dCons (dVar 8) dNil)) (dCons (dCall noX W_merge_runs (dCons (dVar 9) dNil)) dNil))) dNil)) (dVar 6)))) (dRet (dC (.bool false))) dNext)
  (dRet (dAndV (dOp rdEq (dCall noX W_merge_runs (dCons (dCall noX W_runs_of (dCons (dOp rdAdd (dVar 2) (dVar 3)) (dCons (dOp rdAdd (dC (.int 1)) (dCall noX W__law_draw (dCons (dVar 1) (dCons (dC (.int 9)) dNil)))) dNil))) dNil)) (dVar 6)) (dOp rdEq (dCall noX W_merge_runs (dCons (dTup dNil) dNil)) (dTup dNil))))))))))))
def W_law : DSp := fnW ["_law_script", "_law_feed_here", "_law_some", "_law_other", "_law_due", "_law_most", "_law_both", "_law_runs", "_law_one", "_law_two", "_law_k"] ["_law_script"] t_law
theorem f_law {P : Program} {w : World} {K : PySem.W.Frag} {mg : Str → Option Value} {base : Heap} {T : List (Addr × Str)} {k : Nat} {f : Addr} {fd : FuncData} (F : Fun K "law" "law" s_law f fd) (c_merge_runs : FnC P w K mg base T k "merge_runs" ["runs"] W_merge_runs) (c_runs_of : FnC P w K mg base T k "runs_of" ["entries", "most"] W_runs_of) (c__law_draw : FnC P w K mg base T k "_law_draw" ["_law_feed_here", "_law_many"] W__law_draw) (c_lets_merged : FnC P w K mg base T k "lets_merged" ["runs", "thing"] W_lets_merged) (c__law_entry : FnC P w K mg base T k "_law_entry" ["_law_feed_here", "_law_broad"] W__law_entry) (c__law_feed : FnC P w K mg base T k "_law_feed" ["_law_script"] W__law_feed) (g_sorted : mg "sorted" = none) (g_set : mg "set" = none) (g_tuple : mg "tuple" = none) (g_range : mg "range" = none) :
    FnG P w K mg base T (k + 1) f fd ["_law_script"] W_law := by
  have c_ := sc_law
  refine fn_g (k := k) F sc_law fun cdv A outer s H E' Γ Ed hcd hΓ hr hg tk => ?_
  have r1_ := room1 hr
  have r64_ := room64 hr
  have r65_ := room65 hr
  exact (dss_cons (ds_set 1 c_.nd (de_fn hΓ c__law_feed hr hg takes_no (da_cons (dv 0) da_nil)))
    (dss_cons (ds_lc 2 (by rfl) c_.nd (dw_rg1 (by rfl) g_range (de_fn hΓ c__law_draw hr hg takes_no (da_cons (dv 1) (da_cons de_int da_nil)))) (own := [("_law_k", 10)]) (show BlkOk ["_law_script", "_law_feed_here", "_law_some", "_law_other", "_law_due", "_law_most", "_law_both", "_law_runs", "_law_one", "_law_two", "_law_k"] (defScope s_law) _ _ from blkOk_by (by decide +kernel)) (fun _ _ _ _ _ => (dg_nm 10 c_.nd)) (by decide) (fun Γ' hΓ1 _ _ _ _ _ => have hΓ := hΓ1.trans hΓ; dts_nil) (fun Γ' hΓ1 _ _ _ _ _ => have hΓ := hΓ1.trans hΓ; (de_fn hΓ c__law_entry hr hg takes_no (da_cons (dv 1) (da_cons (de_ix r1_ (DF.toDE (df_lst (da_cons de_int (da_cons de_int da_nil)))) (de_fn hΓ c__law_draw hr hg takes_no (da_cons (dv 1) (da_cons de_int da_nil)))) da_nil)))))
    (dss_cons (ds_lc 3 (by rfl) c_.nd (dw_rg1 (by rfl) g_range (de_fn hΓ c__law_draw hr hg takes_no (da_cons (dv 1) (da_cons de_int da_nil)))) (own := [("_law_k", 10)]) (show BlkOk ["_law_script", "_law_feed_here", "_law_some", "_law_other", "_law_due", "_law_most", "_law_both", "_law_runs", "_law_one", "_law_two", "_law_k"] (defScope s_law) _ _ from blkOk_by (by decide +kernel)) (fun _ _ _ _ _ => (dg_nm 10 c_.nd)) (by decide) (fun Γ' hΓ1 _ _ _ _ _ => have hΓ := hΓ1.trans hΓ; dts_nil) (fun Γ' hΓ1 _ _ _ _ _ => have hΓ := hΓ1.trans hΓ; (de_fn hΓ c__law_entry hr hg takes_no (da_cons (dv 1) (da_cons de_int da_nil)))))
    (dss_cons (ds_set 4 c_.nd (de_callTy call_tuple_of la_tuple (by rfl) g_tuple (by decide +kernel) (da_cons (DF.toDE (df_sortSetM (by rfl) r64_ (by rfl) g_sorted (by rfl) g_set (dv 2))) da_nil)))
    (dss_cons (ds_for (passes_of rfl) (by rfl) (dw_seq (de_tup (da_cons de_int (da_cons de_int (da_cons de_int (da_cons de_int (da_cons (de_bin op_addAll lr_add de_int (de_fn hΓ c__law_draw hr hg takes_no (da_cons (dv 1) (da_cons de_int da_nil)))) da_nil))))))) (dg_nm 5 c_.nd) (dss_cons (ds_set 7 c_.nd (de_fn hΓ c_runs_of hr hg takes_no (da_cons (dv 2) (da_cons (dv 5) da_nil))))
    (dss_one (ds_if (DW.dt (dw_or (dt_cmp (op_neA r64_) lr_ne (de_fn hΓ c_merge_runs hr hg takes_no (da_cons (dv 7) da_nil)) (dv 4)) (dw_or1 (dt_cmp op_isnot_bl lr_notB (de_fn hΓ c_lets_merged hr hg tk (da_cons (dv 7) (da_cons (dv 4) da_nil))) de_bl)))) (dss_one (ds_ret de_bl)) dss_nil))))
    (dss_cons (ds_par (by rfl) c_.nd (da_cons (de_fn hΓ c_runs_of hr hg takes_no (da_cons (dv 2) (da_cons (de_bin op_addAll lr_add de_int (de_fn hΓ c__law_draw hr hg takes_no (da_cons (dv 1) (da_cons de_int da_nil)))) da_nil))) (da_cons (de_fn hΓ c_runs_of hr hg takes_no (da_cons (dv 3) (da_cons (de_bin op_addAll lr_add de_int (de_fn hΓ c__law_draw hr hg takes_no (da_cons (dv 1) (da_cons de_int da_nil)))) da_nil))) da_nil)))
    (dss_cons (ds_set 6 c_.nd (de_fn hΓ c_merge_runs hr hg takes_no (da_cons (de_bin op_addAll lr_add (dv 8) (dv 9)) da_nil)))
    (dss_cons (ds_if (DW.dt (dw_or (dt_cmp (op_neA r64_) lr_ne (dv 6) (de_callTy call_tuple_of la_tuple (by rfl) g_tuple (by decide +kernel) (da_cons (DF.toDE (df_sortSetM (by rfl) r64_ (by rfl) g_sorted (by rfl) g_set (de_bin op_addAll lr_add (dv 2) (dv 3)))) da_nil))) (dw_or1 (dt_cmp (op_neA r64_) lr_ne (de_fn hΓ c_merge_runs hr hg takes_no (da_cons (de_tup (da_cons (de_fn hΓ c_merge_runs hr hg takes_no (da_cons (dv 8) da_nil)) (da_cons (de_fn hΓ c_merge_runs hr hg takes_no (da_cons (dv 9) da_nil)) da_nil))) da_nil)) (dv 6))))) (dss_one (ds_ret de_bl)) dss_nil)
    (dss_one (ds_ret (de_and (de_cmp (op_eqA r64_) lr_eq (de_fn hΓ c_merge_runs hr hg takes_no (da_cons (de_fn hΓ c_runs_of hr hg takes_no (da_cons (de_bin op_addAll lr_add (dv 2) (dv 3)) (da_cons (de_bin op_addAll lr_add de_int (de_fn hΓ c__law_draw hr hg takes_no (da_cons (dv 1) (da_cons de_int da_nil)))) da_nil))) da_nil)) (dv 6)) (de_one (de_cmp (op_eqA r64_) lr_eq (de_fn hΓ c_merge_runs hr hg takes_no (da_cons (de_tup da_nil) da_nil)) (de_tup da_nil))))))))))))))
end DL.G
namespace DL.G
open PySem PySem.Spec PyProof.Rows L2
set_option autoImplicit true
local macro_rules | `(tactic| walk_at "hp") => `(tactic| first | assumption | exact put_same | exact (put_other (by assumption)).trans (by assumption) | exact (put_other (Ne.symm (by assumption))).trans (by assumption) | (simp only [put_same, put_other, ne_eq, *]; done))
local macro_rules | `(tactic| walk_at "sh") => `(tactic| first | exact shaped_int _ | exact shaped_none | exact shaped_bool _ | rfl | assumption | exact shaped_ok (n := 8) (by decide) (by assumption))
local macro_rules | `(tactic| walk_at "dl1") => `(tactic| first
  | with_reducible refine e_seq ?_
  | with_reducible refine e_ret ?_
  | with_reducible refine e_asg ?_
  | with_reducible refine k_nm ?_
  | with_reducible refine e_if ?_
  | with_reducible refine e_drop ?_
  | with_reducible refine e_next ?_
  | with_reducible refine e_setIx ?_
  | with_reducible refine e_par ?_
  | with_reducible refine k_par ?_
  | with_reducible refine e_par3 ?_
  | with_reducible refine k_par3 ?_
  | with_reducible refine e_retF ?_
  | with_reducible refine e_for ?_
  | with_reducible refine e_op ?_
  | with_reducible refine e_c ?_
  | ((with_reducible apply e_var); exact rfl)
  | with_reducible refine e_test ?_
  | with_reducible refine k_test ?_
  | with_reducible refine e_and ?_
  | with_reducible refine e_or ?_
  | with_reducible refine e_not ?_
  | with_reducible refine k_not ?_
  | with_reducible refine e_andV ?_
  | with_reducible refine e_orV ?_
  | with_reducible refine e_notV ?_
  | with_reducible refine k_notV ?_
  | with_reducible refine e_ifE ?_
  | with_reducible refine e_nil ?_
  | with_reducible refine e_cons ?_
  | with_reducible refine e_tup ?_
  | ((with_reducible apply k_tup); exact rfl; exact rfl)
  | with_reducible refine e_lst ?_
  | ((with_reducible apply k_lst); exact rfl; exact rfl)
  | with_reducible refine e_L ?_
  | with_reducible refine e_Own ?_
  | with_reducible refine e_B ?_
  | with_reducible refine e_fB ?_
  | with_reducible refine e_call ?_
  | with_reducible refine e_callK ?_
  | with_reducible refine e_ML ?_
  | with_reducible refine e_negC ?_
  | with_reducible refine e_yes ?_
  | ((with_reducible apply k_ML); (first | exact rfl | exact asL_own (by walk_at "hp")))
  | ((with_reducible apply k_set); walk_at "hp"; exact rfl)
  | with_reducible refine r_add ?_
  | with_reducible refine r_sub ?_
  | with_reducible refine r_lt ?_
  | with_reducible refine r_le ?_
  | with_reducible refine r_gt ?_
  | with_reducible refine r_ge ?_
  | with_reducible refine r_eqI ?_
  | with_reducible refine r_neI ?_
  | with_reducible refine r_eqS ?_
  | with_reducible refine r_neS ?_
  | ((with_reducible apply r_eq); exact rfl; exact rfl; walk_at "sh"; walk_at "sh")
  | ((with_reducible apply r_ne); exact rfl; exact rfl; walk_at "sh"; walk_at "sh")
  | with_reducible refine r_isN ?_
  | with_reducible refine r_notN ?_
  | ((with_reducible apply r_mod); (first | decide | omega))
  | ((with_reducible apply r_div); (first | decide | exact ⟨by omega, by omega⟩))
  | ((with_reducible apply r_mul); (first | decide | exact .inl ⟨by omega, by omega⟩ | exact .inr ⟨by omega, by omega⟩))
  | ((with_reducible apply r_pow); (first | decide | exact ⟨by omega, by omega, by omega⟩))
  | ((with_reducible apply r_ixT); exact rfl)
  | ((with_reducible apply r_ixL); exact rfl)
  | ((with_reducible apply r_ixO); walk_at "hp"; exact rfl)
  | with_reducible refine b_lenT ?_
  | with_reducible refine b_lenL ?_
  | ((with_reducible apply b_lenO); walk_at "hp")
  | with_reducible refine b_tupleL ?_
  | with_reducible refine b_listL ?_
  | with_reducible refine b_listT ?_
  | with_reducible refine b_intI ?_
  | with_reducible refine b_intB ?_
  | with_reducible refine e_by ?_
  | with_reducible refine e_fAdd ?_
  | with_reducible refine e_lrg1 ?_
  | with_reducible refine e_lrg2 ?_
  | with_reducible refine e_sl ?_
  | with_reducible refine e_no ?_
  | with_reducible refine e_part ?_
  | with_reducible refine k_part ?_
  | with_reducible refine r_slL ?_
  | with_reducible refine r_slT ?_
  | with_reducible refine e_wSeq ?_
  | with_reducible refine k_seqL ?_
  | with_reducible refine k_seqT ?_
  | ((with_reducible apply k_seqO); walk_at "hp")
  | with_reducible refine e_wRg1 ?_
  | with_reducible refine e_fLc ?_
  | with_reducible refine e_rt ?_
  | with_reducible refine e_nx ?_
  | with_reducible refine e_forG ?_
  | with_reducible refine k_forGT ?_
  | with_reducible refine k_forGL ?_
  | with_reducible refine e_fLcG ?_
  | with_reducible refine k_lcGT ?_
  | with_reducible refine k_lcGL ?_
  | with_reducible refine e_tupO ?_
  | with_reducible refine k_tupO rfl ?_
  | with_reducible refine e_lstO ?_
  | with_reducible refine k_lstO rfl ?_
  | with_reducible refine e_unp ?_
  | with_reducible refine e_retN ?_
  | rw [put_put])
local macro_rules | `(tactic| walk_at "dl") => `(tactic| repeat walk_at "dl1")
/-! ### draws -/
def Fd (sc : List Int) (C : Int) (o : MO) : Prop := ∃ i p c : Int, o = .lst [.list (sc.map PyData.int), .int i, .int p, .int c] ∧ 0 ≤ i ∧ 0 ≤ c ∧ c ≤ C
theorem Fd.up {sc : List Int} {C C' : Int} {o : MO} (f : Fd sc C o) (h : C ≤ C') : Fd sc C' o := by
  obtain ⟨i, p, c, e, a, b, d⟩ := f
  exact ⟨i, p, c, e, a, b, by omega⟩
theorem fmod_in {i m : Int} (h : 1 ≤ m) : 0 ≤ i.fmod m ∧ i.fmod m < m := ⟨Int.fmod_nonneg_of_pos i (by omega), Int.fmod_lt_of_pos i (by omega)⟩
theorem shaped_ints (ns : List Int) : SeqAt.shaped (.list (ns.map PyData.int)) = true := shaped_ok (n := 1) (by decide) (by simp [dOk])
theorem at_get {xs : List PyData} {j : Int} (h0 : 0 ≤ j) (h1 : j < xs.length) : ∃ d, atI xs j = some d ∧ d ∈ xs := by
  have hl : j.toNat < xs.length := by omega
  refine ⟨xs[j.toNat], ?_, List.getElem_mem hl⟩
  unfold atI ixN
  rw [if_pos h0, if_pos h1]
  exact List.getElem?_eq_getElem hl
theorem at_ints {ns : List Int} {j : Int} (h0 : 0 ≤ j) (h1 : j < ns.length) : ∃ x, atI (ns.map PyData.int) j = some (.int x) := by
  obtain ⟨d, e, hd⟩ := at_get (xs := ns.map PyData.int) h0 (by rw [List.length_map]; exact h1)
  obtain ⟨x, _, rfl⟩ := List.mem_map.mp hd
  exact ⟨x, e⟩
/-! ### draws by a dict -/
theorem r_isB {a b : Bool} {h : MH} {Q : DK} (k : Q (.d (.bool (decide (a = b)))) h) : rdIsB (.d (.bool a)) (.d (.bool b)) h Q := k
theorem r_notB {a b : Bool} {h : MH} {Q : DK} (k : Q (.d (.bool (!decide (a = b)))) h) : rdNotB (.d (.bool a)) (.d (.bool b)) h Q := k
def fdL (sc : List Int) (i p c : Int) : List (Key × SV) := [(.inr "cells", .d (.list (sc.map PyData.int))), (.inr "at", .d (.int i)), (.inr "left", .d (.int p)), (.inr "turn", .d (.int c))]
def FdD (sc : List Int) (C : Int) (o : MO) : Prop := ∃ i p c : Int, o = .dct (fdL sc i p c) ∧ 0 ≤ i ∧ 0 ≤ c ∧ c ≤ C
theorem FdD.up {sc : List Int} {C C' : Int} {o : MO} (f : FdD sc C o) (h : C ≤ C') : FdD sc C' o := by
  obtain ⟨i, p, c, e, a, b, d⟩ := f
  exact ⟨i, p, c, e, a, b, by omega⟩
section
variable {sc : List Int} {i p c j : Int}
theorem fv_cells : valS (fdL sc i p c) (.inr "cells") = some (.d (.list (sc.map PyData.int))) := rfl
theorem fv_at : valS (fdL sc i p c) (.inr "at") = some (.d (.int i)) := rfl
theorem fv_left : valS (fdL sc i p c) (.inr "left") = some (.d (.int p)) := rfl
theorem fv_turn : valS (fdL sc i p c) (.inr "turn") = some (.d (.int c)) := rfl
theorem fp_at : putS (fdL sc i p c) (.inr "at") (.d (.int j)) = fdL sc j p c := rfl
theorem fp_left : putS (fdL sc i p c) (.inr "left") (.d (.int j)) = fdL sc i j c := rfl
theorem fp_turn : putS (fdL sc i p c) (.inr "turn") (.d (.int j)) = fdL sc i p j := rfl
end
local macro_rules | `(tactic| walk_at "fd1") => `(tactic| first
  | walk_at "dl1"
  | ((with_reducible apply r_ixD); walk_at "hp"; exact rfl; (first | exact fv_cells | exact fv_at | exact fv_left | exact fv_turn))
  | ((with_reducible apply k_setD); walk_at "hp"; exact rfl; (show (4 : Nat) < 16777216; decide); (first | rw [fp_at] | rw [fp_left] | rw [fp_turn])))
local macro_rules | `(tactic| walk_at "fd") => `(tactic| repeat walk_at "fd1")
/-! ### fates -/
inductive Fate where
  | live
  | gone
  | done (i : Int)
def Fate.enc : Fate → PyData
  | .live => .tuple [.str "live"]
  | .gone => .tuple [.str "gone"]
  | .done i => .tuple [.str "done", .int i]
def Fate.num : Fate → Option Int
  | .done i => some i
  | _ => none
def nums (fs : List Fate) : List Int := fs.filterMap Fate.num
def upI (n : Nat) : List Int := (List.range n).map fun i : Nat => (i : Int) + 1
theorem map_cons_inv {α β : Type} {f : α → β} {d : β} {r : List β} {l : List α} (e : d :: r = l.map f) : ∃ x l', l = x :: l' ∧ d = f x ∧ r = l'.map f := by
  cases l with
  | nil => cases e
  | cons x l' =>
    rw [List.map_cons] at e
    injection e with e1 e2
    exact ⟨x, l', rfl, e1, e2⟩
theorem eqv_int (i j : Int) : PyData.eqv (.int i) (.int j) = decide (i = j) := by simp only [PyData.eqv]; by_cases q : i = j <;> simp [q]
theorem at_nat {xs : List PyData} {n : Nat} {d : PyData} (e : xs[n]? = some d) : atI xs (n : Int) = some d := by
  have hl : n < xs.length := (List.getElem?_eq_some_iff.mp e).1
  unfold atI ixN
  rw [if_pos (by omega), if_pos (by omega)]
  exact e
/-! ### versions, stands -/
structure Ver where
  place : Int
  row : Int
  vals : List Int
  maker : Int
  ender : Option Int
  root : Int
def optE : Option Int → PyData
  | none => .none
  | some i => .int i
abbrev Ver.enc (v : Ver) : PyData := .tuple [.int v.place, .int v.row, .tuple (v.vals.map PyData.int), .int v.maker, optE v.ender, .int v.root]
structure Stand where
  cols : Int
  vers : List Ver
  fates : List Fate
  views : List Int
abbrev Stand.enc (s : Stand) : PyData := .tuple [.int s.cols, .tuple (s.vers.map Ver.enc), .tuple (s.fates.map Fate.enc), .tuple (s.views.map PyData.int)]
/-- a version as drawn: n columns, m writers, rows below r -/
structure VerOk (n m r : Int) (v : Ver) : Prop where
  place : 0 ≤ v.place
  row : 0 ≤ v.row ∧ v.row < r
  cols : v.vals.length = n.toNat
  vals : ∀ x ∈ v.vals, -999 ≤ x ∧ x ≤ 999
  maker : 0 ≤ v.maker ∧ v.maker < m
  ender : ∀ i, v.ender = some i → 0 ≤ i ∧ i < m
  root : 0 ≤ v.root ∧ v.root ≤ v.place
structure StandOk (s : Stand) : Prop where
  cols : 1 ≤ s.cols ∧ s.cols ≤ 3
  many : s.fates.length ≤ 20
  size : s.vers.length ≤ 40
  vers : ∀ v ∈ s.vers, VerOk s.cols s.fates.length 99 v
  rise : s.vers.Pairwise fun v u => v.place < u.place
  far : ∀ v ∈ s.vers, v.place ≤ 200
  nums : (nums s.fates).Perm (upI (nums s.fates).length)
  views : s.views.length = s.fates.length
  view : ∀ x ∈ s.views, 0 ≤ x ∧ x ≤ (DL.G.nums s.fates).length
/-! ### who is done, what is seen -/
/-- o is done within the view -/
def doneBy (fs : List Fate) (o : Option Int) (view : Int) : Bool := match o with
  | none => false
  | some i => match fs[i.toNat]? with
    | some (.done n) => decide (n ≤ view)
    | _ => false
section
variable {h : MH} {Q : DK} {E : DXK} {c0 v0 w0 : PyData} {fs : List Fate} {view : Int}
/-- a comprehension over encoded things -/
theorem lc_enc {α : Type} {enc out : α → PyData} {g : Tg} {tt : DTT} {te : DTE} {σ : DSt} {QL : List PyData → MH → Prop} (p : α → Bool) {l : List α}
    (step : ∀ v ∈ l, ∃ σ1, bindT g (.d (enc v)) σ = some σ1 ∧ (∀ K : Bool → MH → Prop, K (p v) h → tt σ1 h K) ∧ (p v = true → ∀ K : DK, K (.d (out v)) h → te σ1 h K)) (fin : QL ((l.filter p).map out) h) : lcL g tt te σ (l.map enc) [] h QL := by
  refine lc_inv (fun r acc h' => ∃ l1 l2 : List α, l = l1 ++ l2 ∧ r = l2.map enc ∧ acc = (l1.filter p).map out ∧ h' = h) ?_ ?_ _ [] h ⟨[], l, rfl, rfl, rfl, rfl⟩
  · rintro d r acc h' K ⟨l1, l2, e, er, rfl, rfl⟩ hK
    obtain ⟨v, l2', rfl, rfl, rfl⟩ := map_cons_inv er
    obtain ⟨σ1, e1, t1, t2⟩ := step v (by rw [e]; simp)
    refine ⟨σ1, e1, t1 _ ?_⟩
    refine k_lc (fun q => t2 q _ ?_) fun q => ?_
    · exact k_lcE (hK _ _ ⟨l1 ++ [v], l2', by rw [e]; simp, rfl, by rw [List.filter_append, List.map_append]; simp [q], rfl⟩)
    · exact hK _ _ ⟨l1 ++ [v], l2', by rw [e]; simp, rfl, by rw [List.filter_append, List.map_append]; simp [q], rfl⟩
  · rintro acc h' ⟨l1, l2, e, er, rfl, rfl⟩
    have e0 : l2 = [] := by
      cases l2 with
      | nil => rfl
      | cons _ _ => cases er
    subst e0
    rw [List.append_nil] at e
    subst e
    exact fin
end

/-! ### seen -/
section
variable {h : MH} {Q : DK} {E : DXK} {c0 v0 w0 : PyData} {fs : List Fate} {view : Int}
end

/-! ### small things: their text is short -/
theorem sOk_int {n : Nat} {i : Int} (h : -(10 ^ 19) ≤ i ∧ i ≤ 10 ^ 19) : sOk n (.int i) = true := by
  have z : i.natAbs < 10 ^ 20 := by omega
  cases n <;> simpa [sOk] using z
theorem sOk_none {n : Nat} : sOk n .none = true := by cases n <;> rfl
theorem sOk_tup {n : Nat} {xs : List PyData} (h : ∀ x ∈ xs, sOk n x = true) : sOk (n + 1) (.tuple xs) = true := by
  simp only [sOk]
  exact List.all_eq_true.mpr h
theorem sOk_lst {n : Nat} {xs : List PyData} (h : ∀ x ∈ xs, sOk n x = true) : sOk (n + 1) (.list xs) = true := by
  simp only [sOk]
  exact List.all_eq_true.mpr h
theorem sOk_ints {n : Nat} {xs : List Int} (h : ∀ x ∈ xs, -(10 ^ 19) ≤ x ∧ x ≤ 10 ^ 19) : ∀ x ∈ xs.map PyData.int, sOk n x = true := fun d hd => by
  obtain ⟨x, hx, rfl⟩ := List.mem_map.mp hd
  exact sOk_int (h x hx)
theorem nodes_ints {n : Nat} (xs : List Int) : ((xs.map PyData.int).map (nodes n)).sum = xs.length := by
  induction xs with
  | nil => rfl
  | cons x xs ih =>
    simp only [List.map_cons, List.sum_cons, List.length_cons, ih]
    cases n <;> (simp only [nodes]; omega)
theorem sOk_up : ∀ (n m : Nat) (d : PyData), n ≤ m → sOk n d = true → sOk m d = true
  | _, m, .none, _, _ => by cases m <;> rfl
  | _, m, .bool _, _, _ => by cases m <;> rfl
  | n, m, .int _, _, h => by cases n <;> cases m <;> simpa [sOk] using h
  | n, m, .str x, _, h => by cases n <;> cases m <;> simpa [sOk] using h
  | n + 1, m + 1, .list xs, hl, h => by
    have z : ∀ x ∈ xs, sOk n x = true := List.all_eq_true.mp (by simpa [sOk] using h)
    simp only [sOk]
    exact List.all_eq_true.mpr fun x hx => sOk_up n m x (by omega) (z x hx)
  | n + 1, m + 1, .tuple xs, hl, h => by
    have z : ∀ x ∈ xs, sOk n x = true := List.all_eq_true.mp (by simpa [sOk] using h)
    simp only [sOk]
    exact List.all_eq_true.mpr fun x hx => sOk_up n m x (by omega) (z x hx)
  | n + 1, 0, .list _, hl, _ => by omega
  | n + 1, 0, .tuple _, hl, _ => by omega
  | 0, _, .list _, _, h => by simp [sOk] at h
  | 0, _, .tuple _, _, h => by simp [sOk] at h
  | n, _, .dict _, _, h => by cases n <;> simp [sOk] at h
theorem nodes_up : ∀ (n m : Nat) (d : PyData), n ≤ m → sOk n d = true → nodes m d = nodes n d
  | n, m, .none, _, _ => by cases n <;> cases m <;> rfl
  | n, m, .bool _, _, _ => by cases n <;> cases m <;> rfl
  | n, m, .int _, _, h => by cases n <;> cases m <;> rfl
  | n, m, .str x, _, h => by cases n <;> cases m <;> rfl
  | n + 1, m + 1, .list xs, hl, h => by
    have z : ∀ x ∈ xs, sOk n x = true := List.all_eq_true.mp (by simpa [sOk] using h)
    simp only [nodes]
    rw [List.map_congr_left fun x hx => nodes_up n m x (by omega) (z x hx)]
  | n + 1, m + 1, .tuple xs, hl, h => by
    have z : ∀ x ∈ xs, sOk n x = true := List.all_eq_true.mp (by simpa [sOk] using h)
    simp only [nodes]
    rw [List.map_congr_left fun x hx => nodes_up n m x (by omega) (z x hx)]
  | n + 1, 0, .list _, hl, _ => by omega
  | n + 1, 0, .tuple _, hl, _ => by omega
  | 0, _, .list _, _, h => by simp [sOk] at h
  | 0, _, .tuple _, _, h => by simp [sOk] at h
  | n, _, .dict _, _, h => by cases n <;> simp [sOk] at h
/-- a version in its bounds -/
structure VerIn (v : Ver) : Prop where
  a : -(10 ^ 19) ≤ v.place ∧ v.place ≤ 10 ^ 19
  b : -(10 ^ 19) ≤ v.row ∧ v.row ≤ 10 ^ 19
  c : ∀ x ∈ v.vals, -(10 ^ 19) ≤ x ∧ x ≤ 10 ^ 19
  d : -(10 ^ 19) ≤ v.maker ∧ v.maker ≤ 10 ^ 19
  e : ∀ i, v.ender = some i → -(10 ^ 19) ≤ i ∧ i ≤ 10 ^ 19
  f : -(10 ^ 19) ≤ v.root ∧ v.root ≤ 10 ^ 19
  n : v.vals.length ≤ 10
theorem VerIn.sOk {v : Ver} (k : VerIn v) : DL.sOk 2 v.enc = true := sOk_tup fun x hx => by
  simp only [List.mem_cons, List.not_mem_nil, or_false] at hx
  rcases hx with rfl | rfl | rfl | rfl | rfl | rfl
  · exact sOk_int k.a
  · exact sOk_int k.b
  · exact sOk_tup (sOk_ints k.c)
  · exact sOk_int k.d
  · cases q : v.ender with
    | none => exact sOk_none
    | some i => exact sOk_int (k.e i q)
  · exact sOk_int k.f
theorem nodes_int {n : Nat} {i : Int} : nodes n (.int i) = 1 := by cases n <;> rfl
theorem nodes_opt {n : Nat} {o : Option Int} : nodes n (optE o) = 1 := by cases o <;> cases n <;> rfl
theorem VerIn.nodes {v : Ver} (k : VerIn v) : DL.nodes 2 v.enc ≤ 17 := by
  have e : DL.nodes 2 v.enc = 1 + (DL.nodes 1 (.int v.place) + (DL.nodes 1 (.int v.row) + ((1 + ((v.vals.map PyData.int).map (DL.nodes 0)).sum) + (DL.nodes 1 (.int v.maker) + (DL.nodes 1 (optE v.ender) + (DL.nodes 1 (.int v.root) + 0)))))) := rfl
  have := k.n
  rw [e, nodes_int, nodes_int, nodes_int, nodes_int, nodes_opt, nodes_ints]
  omega
/-! ### the law's own look -/
section
variable {h : MH} {Q : DK} {E : DXK} {c0 v0 w0 : PyData} {fs : List Fate} {vers : List Ver}
/-- o is on for the writer wr at the view -/
def isOn (fs : List Fate) (o wr : Option Int) (view : Int) : Bool := match o with
  | none => false
  | some i => decide (wr = some i) || doneBy fs o view
def onV (fs : List Fate) (wr : Option Int) (view : Int) (v : Ver) : Bool := isOn fs (some v.maker) wr view && !isOn fs v.ender wr view
end

/-! ### .. all that is seen -/
section
variable {h : MH} {Q : DK} {E : DXK} {c0 v0 w0 : PyData} {fs : List Fate} {vers : List Ver}
end

/-! ### own errors: steps of readings -/
def raiseK (E : DXS) (n f : Str) (σ : DSt) : List SV → MH → Prop := fun xs h1 => match fzs xs h1 with
  | some ([d], h2) => E ⟨n, [(f, d)]⟩ σ h2
  | _ => False
theorem e_raise {E : DXS} {n f : Str} {t : DTA} {D : DEnds} {σ : DSt} {h : MH} (k : t σ h (raiseK E n f σ)) : dRaise1 E n f t D σ h := k
theorem k_raise {E : DXS} {n f : Str} {σ : DSt} {d : PyData} {h : MH} (k : E ⟨n, [(f, d)]⟩ σ h) : raiseK E n f σ [.d d] h := k
theorem e_isX {kt : Str → Str → Option Bool} {i : Nat} {a : Addr} {y : DExc} {n : Str} {σ : DSt} {h : MH} {Q : DK} {b : Bool} (e : slot σ i = some (.own a)) (e1 : kt y.cls n = some b) (k : Q (.d (.bool b)) h) : dIsX kt i a y n σ h Q := ⟨e, by rw [e1]; exact k⟩
theorem e_isXT {kt : Str → Str → Option Bool} {i : Nat} {a : Addr} {y : DExc} {n : Str} {ns : List Str} {σ : DSt} {h : MH} {Q : DK} {b : Bool} (e : slot σ i = some (.own a)) (e0 : (kt y.cls n).isSome = true) (l : ns.length + 1 ≤ 100) (e1 : anyK kt y.cls (n :: ns) = some b) (k : Q (.d (.bool b)) h) : dIsXT kt i a y n ns σ h Q :=
  ⟨e, e0, by rw [sizeLine_eq]; omega, by rw [e1]; exact k⟩
theorem e_xf {xt : Str → Str → Bool} {i : Nat} {a : Addr} {y : DExc} {f : Str} {σ : DSt} {h : MH} {Q : DK} {d : PyData} (e : slot σ i = some (.own a)) (e0 : xt y.cls f = true) (e1 : y.fs.lookup f = some d) (k : Q (.d d) h) : dXf xt i a y f σ h Q := ⟨e, e0, by rw [e1]; exact k⟩
/-! ### writers -/
/-- the error that tells a writer that is not there -/
abbrev noW (w : Int) : DExc := ⟨"NoWriter", [("number", .int w)]⟩
def viewAt (vw : List Int) (w : Int) : Int := (vw[w.toNat]?).getD 0
section
variable {h : MH} {Q : DK} {E : DXK} {c0 v0 w0 : PyData} {fs : List Fate} {vw : List Int} {w : Int}
end

/-! ### more -/
section
variable {h : MH} {Q : DK} {E : DXK} {c0 v0 w0 : PyData} {fs : List Fate} {vw : List Int} {w : Int}
end
section
variable {h : MH} {Q : DK} {E : DXK} {c0 v0 w0 : PyData} {fs : List Fate} {vers : List Ver}
end
/-! tuples as targets -/
section
variable {D : DEnds} {σ : DSt} {h : MH}
theorem k_tg2 {i' j' : Nat} {a b : PyData} (k : D.nx ((σ.set i' (some (.d a))).set j' (some (.d b))) h) : asgK (.tup [i', j']) D σ (.d (.tuple [a, b])) h := k_tg rfl k
theorem k_tg3 {i' j' l' : Nat} {a b c : PyData} (k : D.nx (((σ.set i' (some (.d a))).set j' (some (.d b))).set l' (some (.d c))) h) : asgK (.tup [i', j', l']) D σ (.d (.tuple [a, b, c])) h := k_tg rfl k
theorem k_tg4 {i' j' l' m' : Nat} {a b c d : PyData} (k : D.nx ((((σ.set i' (some (.d a))).set j' (some (.d b))).set l' (some (.d c))).set m' (some (.d d))) h) : asgK (.tup [i', j', l', m']) D σ (.d (.tuple [a, b, c, d])) h := k_tg rfl k
theorem k_tg5 {i' j' l' m' n' : Nat} {a b c d e : PyData} (k : D.nx (((((σ.set i' (some (.d a))).set j' (some (.d b))).set l' (some (.d c))).set m' (some (.d d))).set n' (some (.d e))) h) : asgK (.tup [i', j', l', m', n']) D σ (.d (.tuple [a, b, c, d, e])) h := k_tg rfl k
theorem k_tg6 {i' j' l' m' n' o' : Nat} {a b c d e f : PyData} (k : D.nx ((((((σ.set i' (some (.d a))).set j' (some (.d b))).set l' (some (.d c))).set m' (some (.d d))).set n' (some (.d e))).set o' (some (.d f))) h) : asgK (.tup [i', j', l', m', n', o']) D σ (.d (.tuple [a, b, c, d, e, f])) h := k_tg rfl k
end
/-! ### small data, composed -/
def Sml (n c : Nat) (d : PyData) : Prop := sOk n d = true ∧ nodes n d ≤ c
def SmlL (n c : Nat) (xs : List PyData) : Prop := (∀ x ∈ xs, sOk n x = true) ∧ (xs.map (nodes n)).sum ≤ c
theorem Sml.shaped {n c : Nat} {d : PyData} (h : Sml n c d) (hn : n ≤ 64 := by decide) : SeqAt.shaped d = true := shaped_ok hn (sOk_dOk n d h.1)
theorem Sml.up {n m c c' : Nat} {d : PyData} (h : Sml n c d) (hn : n ≤ m := by decide) (hc : c ≤ c' := by first | decide | omega) : Sml m c' d := ⟨sOk_up n m d hn h.1, by rw [nodes_up n m d hn h.1]; exact Nat.le_trans h.2 hc⟩
theorem SmlL.up {n m c c' : Nat} {d : List PyData} (h : SmlL n c d) (hn : n ≤ m := by decide) (hc : c ≤ c' := by first | decide | omega) : SmlL m c' d := ⟨fun x hx => sOk_up n m x hn (h.1 x hx), by
  rw [List.map_congr_left fun x hx => nodes_up n m x hn (h.1 x hx)]
  exact Nat.le_trans h.2 hc⟩
theorem SmlL.nil {n : Nat} : SmlL n 0 [] := ⟨fun x hx => (by cases hx), by simp⟩
theorem SmlL.cons {n a b : Nat} {x : PyData} {xs : List PyData} (h : Sml n a x) (t : SmlL n b xs) : SmlL n (a + b) (x :: xs) := ⟨fun y hy => by
  rcases List.mem_cons.mp hy with rfl | q
  · exact h.1
  · exact t.1 y q, by rw [List.map_cons, List.sum_cons]; exact Nat.add_le_add h.2 t.2⟩
theorem SmlL.all {n c k : Nat} {xs : List PyData} (h : ∀ x ∈ xs, Sml n c x) (hl : xs.length ≤ k) : SmlL n (c * k) xs := ⟨fun x hx => (h x hx).1, Nat.le_trans (nodes_le fun x hx => (h x hx).2) (Nat.mul_le_mul_left _ hl)⟩
theorem SmlL.lst {n c : Nat} {xs : List PyData} (h : SmlL n c xs) : Sml (n + 1) (c + 1) (.list xs) := ⟨sOk_lst h.1, by
  have e : nodes (n + 1) (.list xs) = 1 + (xs.map (nodes n)).sum := rfl
  rw [e]; have := h.2; omega⟩
theorem Sml.none {n : Nat} : Sml n 1 .none := ⟨sOk_none, by cases n <;> exact Nat.le_refl 1⟩
theorem Sml.bool {n : Nat} {b : Bool} : Sml n 1 (.bool b) := ⟨by cases n <;> rfl, by cases n <;> exact Nat.le_refl 1⟩
theorem Sml.int {n : Nat} {i : Int} (h : -(10 ^ 19) ≤ i ∧ i ≤ 10 ^ 19) : Sml n 1 (.int i) := ⟨sOk_int h, by rw [nodes_int]; exact Nat.le_refl 1⟩
theorem Sml.str {n : Nat} {x : Str} (h : (PySem.PyData.strOk x && decide ((reprText x).length ≤ 24)) = true := by decide +kernel) : Sml n 1 (.str x) := ⟨by cases n <;> exact h, by cases n <;> exact Nat.le_refl 1⟩
/-! ### all that is seen -/
section
variable {h : MH} {Q : DK} {E : DXK} {c0 v0 w0 : PyData} {fs : List Fate} {vw : List Int} {vers : List Ver} {w : Int}
end
/-! ### scans -/
theorem e_callK {E : DXS} {W : DSp} {z : Shape} {t tk : DTA} {σ : DSt} {h : MH} {Q : DK} (k : t σ h fun xs h1 => tk σ h1 fun zs h2 => xs.length = z.n ∧ zs.length = z.ks.length ∧ W (xs ++ pick z.cs (z.dm.map SV.d) zs) h2 Q fun x h3 => E x σ h3) : dCallK E W z t tk σ h Q := k
section
variable {h : MH} {Q : DK} {E : DXK} {c0 v0 w0 : PyData} {fs : List Fate} {vw : List Int} {vers : List Ver} {w : Int} {σ : DSt} {QB : Bool → MH → Prop}
end

/-! ### steps: zip, enumerate, min, extend -/
section
variable {σ : DSt} {h h2 : MH} {Q : DK} {QL : List PyData → MH → Prop} {ta tb te to : DTE} {tF : DTF} {xs ys ds es : List PyData} {a : Addr} {x y : SV}
def zipK (QL : List PyData → MH → Prop) (x y : SV) (h2 : MH) : Prop := match fz1 x h2 with
  | some (.list ds, h3) => (match fz1 y h3 with
    | some (.list es, h4) => QL (zipD ds es) h4
    | _ => False)
  | some (.tuple ds, h3) => (match fz1 y h3 with
    | some (.tuple es, h4) => QL (zipD ds es) h4
    | _ => False)
  | _ => False
theorem e_wZip (k : ta σ h fun x h1 => tb σ h1 fun y h2 => zipK QL x y h2) : wZip ta tb σ h QL := k
theorem k_zipT (k : QL (zipD ds es) h) : zipK QL (.d (.tuple ds)) (.d (.tuple es)) h := k
theorem k_zipL (k : QL (zipD ds es) h) : zipK QL (.d (.list ds)) (.d (.list es)) h := k
def enumK (QL : List PyData → MH → Prop) (x : SV) (h1 : MH) : Prop := match fz1 x h1 with
  | some (.list ds, h2) => QL (enumD ds) h2
  | some (.tuple ds, h2) => QL (enumD ds) h2
  | _ => False
theorem e_wEnum (k : te σ h (enumK QL)) : wEnum te σ h QL := k
theorem k_enumT (k : QL (enumD ds) h) : enumK QL (.d (.tuple ds)) h := k
theorem k_enumL (k : QL (enumD ds) h) : enumK QL (.d (.list ds)) h := k
def minK (Q : DK) (x : SV) (h1 : MH) : Prop := match asL h1 x with
  | some ds => PySem.W.AlikeAll ds ∧ PyData.depthAll ds ≤ 60 ∧ (match ds with
    | [] => Q (.d .none) h1
    | y :: ys => Q (.d (PySem.W.minD y ys)) h1)
  | none => False
theorem e_minD (k : te σ h (minK Q)) : dMinD te σ h Q := k
def extE (Q : DK) (x : SV) (ds : List PyData) (h2 : MH) : Prop := match ownL h2 x with
  | some (a, xs) => xs.length + ds.length ≤ sizeLine ∧ Q (.d .none) (mput h2 a (.lst (xs ++ ds)))
  | none => False
def extK (tF : DTF) (σ : DSt) (Q : DK) (x : SV) (h1 : MH) : Prop := match asL h1 x with
  | some _ => tF σ h1 fun ds h2 => extE Q x ds h2
  | none => False
theorem e_ext (k : to σ h (extK tF σ Q)) : dExt to tF σ h Q := k
theorem k_ext (e : h a = some (.lst xs)) (k : tF σ h fun ds h2 => extE Q (.own a) ds h2) : extK tF σ Q (.own a) h := by
  unfold extK
  rw [asL_own e]
  exact k
theorem r_addT (c : xs.length + ys.length ≤ 16777216) (k : Q (.d (.tuple (xs ++ ys))) h) : rdAdd (.d (.tuple xs)) (.d (.tuple ys)) h Q := ⟨by rw [sizeLine_eq]; exact c, k⟩
end

/-! ### first two of a row -/
/-! ### sorted lists of numbers -/
/-! ### why -/
section
variable {h : MH} {Q : DK} {E : DXK} {c0 v0 w0 : PyData} {fs : List Fate} {vw : List Int} {w : Int}
end

/-! ### cuts -/
/-! ### papers: steps -/
section
variable {h : MH} {Q : DK} {E : DXK} {σ : DSt} {D : DEnds}
def raise2K (E : DXS) (n f g : Str) (σ : DSt) : List SV → MH → Prop := fun xs h1 => match fzs xs h1 with
  | some ([d, d2], h2) => E ⟨n, [(f, d), (g, d2)]⟩ σ h2
  | _ => False
theorem e_raise2 {E : DXS} {n f g : Str} {t : DTA} (k : t σ h (raise2K E n f g σ)) : dRaise2 E n f g t D σ h := k
theorem k_raise2 {E : DXS} {n f g : Str} {d d2 : PyData} (k : E ⟨n, [(f, d), (g, d2)]⟩ σ h) : raise2K E n f g σ [.d d, .d d2] h := k
def isK (n : String) (Q : DK) : DK := fun x h1 => match asD h1 x with
  | some d => (match kitB (tyN d) n with
    | some b => Q (.d (.bool b)) h1
    | none => False)
  | none => False
theorem e_isT {te : DTE} {n : String} (k : te σ h (isK n Q)) : dIsT te n σ h Q := k
theorem k_isT {d : PyData} {n t : String} {b : Bool} (e0 : tyN d = t) (e : kitB t n = some b) (k : Q (.d (.bool b)) h) : isK n Q (.d d) h := by
  show (match kitB (tyN d) n with
    | some b => Q (.d (.bool b)) h
    | none => False)
  rw [e0, e]
  exact k
end
/-! ### papers of what is seen -/
theorem is_int : kitB "int" "int" = some true := by decide +kernel
theorem is_bool : kitB "int" "bool" = some false := by decide +kernel
section
variable {h : MH} {Q : DK} {E : DXK} {c0 v0 w0 : PyData} {fs : List Fate} {vw : List Int} {vers : List Ver} {w : Int}
theorem w_is_number {i : Int} (k : Q (.d (.bool true)) h) : W_is_number [.d (.int i)] h Q E := by
  refine fnW_mk rfl ?_
  unfold t_is_number
  show dRet _ _ [some (.d (.int i))] h
  walk_at "dl"
  refine e_isT ?_
  walk_at "dl"
  refine k_isT rfl is_int ?_
  refine k_andV (fun _ => ?_) fun z => by cases z
  walk_at "dl"
  refine e_isT ?_
  walk_at "dl"
  refine k_isT rfl is_bool ?_
  walk_at "dl"
  rw [restr_self]
  exact k
end

/-! ### stands by kind -/
section
variable {h : MH} {Q : DK} {E : DXK} {σ : DSt} {D : DEnds}
theorem bools_true {α : Type} : ∀ l : List α, bools (l.map fun _ => PyData.bool true) = some (l.map fun _ => true)
  | [] => rfl
  | a :: l => by
    show (match bools (l.map fun _ => PyData.bool true) with
      | some bs => some (true :: bs)
      | none => none) = _
    rw [bools_true l]
    rfl
theorem b_allT {α : Type} {l : List α} (k : Q (.d (.bool true)) h) : rdAll [.d (.list (l.map fun _ => PyData.bool true))] h Q := by
  show (match bools (l.map fun _ => PyData.bool true) with
    | some bs => Q (.d (.bool (bs.all id))) h
    | none => False)
  rw [bools_true]
  show Q (.d (.bool ((l.map fun _ => true).all id))) h
  have e : (l.map fun _ => true).all id = true := by simp
  rw [e]
  exact k
end
section
variable {h : MH} {Q : DK} {E : DXK} {fs : List Fate}
end

/-! ### stands by deeds -/
theorem restr_is {h0 h' h2 : MH} {d : PyData} (e : ∀ b, (h0 b).isSome = true → h' b = h2 b) (n : ∀ b, h0 b = none → h2 b = none) : restr h0 h' (.d d) = h2 := by
  funext b
  unfold restr
  cases q : h0 b with
  | none => simp [SV.isOwn, n b q]
  | some o => simp [e b (by rw [q]; rfl)]
section
variable {h : MH} {Q : DK} {E : DXK} {fs : List Fate} {view : Int}
end
/-- what one deed of a writer makes of the versions -/
inductive Wrote (S : Stand) (wr : Int) : List Ver → Prop where
  | put (row : Int) (vals : List Int) (hr : ∀ v ∈ S.vers, v.row < row) (h0 : 0 ≤ row ∧ row ≤ S.vers.length) (hl : vals.length = S.cols.toNat) (hb : ∀ x ∈ vals, -999 ≤ x ∧ x ≤ 999) : Wrote S wr (S.vers ++ [⟨S.vers.length, row, vals, wr, none, S.vers.length⟩])
  | strike (i : Nat) (v : Ver) (hi : S.vers[i]? = some v) (hs : onV S.fates (some wr) (viewAt S.views wr) v = true) (he : ∀ j, v.ender = some j → S.fates[j.toNat]? = some .gone) : Wrote S wr (S.vers.set i { v with ender := some wr })
  | turn (i : Nat) (v : Ver) (vals : List Int) (root : Int) (hi : S.vers[i]? = some v) (hs : onV S.fates (some wr) (viewAt S.views wr) v = true) (he : ∀ j, v.ender = some j → S.fates[j.toNat]? = some .gone)
      (hl : vals.length = S.cols.toNat) (hb : ∀ x ∈ vals, -999 ≤ x ∧ x ≤ 999) (hr : root = S.vers.length ∨ root = v.root) : Wrote S wr (S.vers.set i { v with ender := some wr } ++ [⟨S.vers.length, v.row, vals, wr, none, root⟩])
structure DeedOk (S : Stand) : Prop where
  ok : StandOk S
  at_ : ∀ i v, S.vers[i]? = some v → v.place = ((i : Nat) : Int)
  row : ∀ v ∈ S.vers, v.row < S.vers.length
local macro_rules | `(tactic| walk_at "fd1") => `(tactic| first
  | walk_at "dl1"
  | ((with_reducible apply r_ixD); walk_at "hp"; exact rfl; (first | exact fv_cells | exact fv_at | exact fv_left | exact fv_turn))
  | ((with_reducible apply k_setD); walk_at "hp"; exact rfl; (show (4 : Nat) < 16777216; decide); (first | rw [fp_at] | rw [fp_left] | rw [fp_turn])))
local macro_rules | `(tactic| walk_at "fd") => `(tactic| repeat walk_at "fd1")
section
variable {h : MH} {Q : DK} {E : DXK}
end

/-! ### stands that deeds reach -/
inductive Step (S : Stand) : Stand → Prop where
  | begin (h : S.fates.length < 20) : Step S ⟨S.cols, S.vers, S.fates ++ [.live], S.views ++ [((nums S.fates).length : Int)]⟩
  | gone (who : Nat) (h : S.fates[who]? = some .live) : Step S ⟨S.cols, S.vers, S.fates.set who .gone, S.views⟩
  | done (who : Nat) (h : S.fates[who]? = some .live) : Step S ⟨S.cols, S.vers, S.fates.set who (.done ((nums S.fates).length + 1)), S.views⟩
  | wrote (who : Nat) (h : S.fates[who]? = some .live) (hz : S.vers.length < 40) {vs : List Ver} (w : Wrote S who vs) : Step S ⟨S.cols, vs, S.fates, S.views⟩
inductive Reach (w : Int) : Stand → Prop where
  | nil : Reach w ⟨w, [], [], []⟩
  | step {S S' : Stand} (r : Reach w S) (s : Step S S') : Reach w S'
theorem numsA (a b : List Fate) : nums (a ++ b) = nums a ++ nums b := List.filterMap_append
theorem nums_set_gone : ∀ {fs : List Fate} {who : Nat}, fs[who]? = some .live → nums (fs.set who .gone) = nums fs
  | [], _, h => by cases h
  | f :: fs, 0, h => by
    simp at h
    subst h
    rfl
  | f :: fs, n + 1, h => by
    have ih := nums_set_gone (fs := fs) (who := n) (by simpa using h)
    unfold nums at ih ⊢
    rw [List.set_cons_succ, List.filterMap_cons, List.filterMap_cons, ih]
theorem nums_set_done {n : Int} : ∀ {fs : List Fate} {who : Nat}, fs[who]? = some .live → (nums (fs.set who (.done n))).Perm (n :: nums fs)
  | [], _, h => by cases h
  | f :: fs, 0, h => by
    simp at h
    subst h
    exact List.Perm.refl _
  | f :: fs, k + 1, h => by
    have ih := nums_set_done (n := n) (fs := fs) (who := k) (by simpa using h)
    unfold nums at ih ⊢
    rw [List.set_cons_succ, List.filterMap_cons, List.filterMap_cons]
    cases f.num with
    | none => exact ih
    | some i => exact (ih.cons i).trans (List.Perm.swap _ _ _)
theorem upI_succ (n : Nat) : upI (n + 1) = upI n ++ [(n : Int) + 1] := by
  unfold upI
  rw [List.range_succ, List.map_append]
  rfl
theorem wrote_len {S : Stand} {wr : Int} {vs : List Ver} (w : Wrote S wr vs) : S.vers.length ≤ vs.length ∧ vs.length ≤ S.vers.length + 1 := by
  cases w with
  | put row vals hr h0 hl hb => simp
  | strike i v hi hs he => simp
  | turn i v vals root hi hs he hl hb hr => simp
/-- what stands at a place of what a deed wrote -/
theorem wrote_at {S : Stand} {wr : Int} {vs : List Ver} (w : Wrote S wr vs) {i : Nat} {u : Ver} (e : vs[i]? = some u) :
    S.vers[i]? = some u ∨ (∃ v, S.vers[i]? = some v ∧ u = { v with ender := some wr }) ∨ (i = S.vers.length ∧ u.place = S.vers.length ∧ u.maker = wr ∧ u.ender = none ∧ u.vals.length = S.cols.toNat ∧ (∀ x ∈ u.vals, -999 ≤ x ∧ x ≤ 999) ∧
      ((0 ≤ u.row ∧ u.row ≤ S.vers.length ∧ u.root = S.vers.length) ∨ ∃ v ∈ S.vers, u.row = v.row ∧ (u.root = S.vers.length ∨ u.root = v.root))) := by
  have setA : ∀ (j : Nat) (v : Ver), S.vers[j]? = some v → (S.vers.set j { v with ender := some wr })[i]? = some u → S.vers[i]? = some u ∨ ∃ v, S.vers[i]? = some v ∧ u = { v with ender := some wr } := fun j v hj e => by
    by_cases q : j = i
    · subst q
      rw [List.getElem?_set_self (List.getElem?_eq_some_iff.mp hj).1] at e
      exact .inr ⟨v, hj, (Option.some.inj e).symm⟩
    · rw [List.getElem?_set_ne q] at e
      exact .inl e
  cases w with
  | put row vals hr h0 hl hb =>
    by_cases q : i < S.vers.length
    · rw [List.getElem?_append_left q] at e; exact .inl e
    · have hi := (List.getElem?_eq_some_iff.mp e).1
      simp at hi
      have hi2 : i = S.vers.length := by omega
      subst hi2
      rw [List.getElem?_append_right (Nat.le_refl _), Nat.sub_self] at e
      cases e
      exact .inr (.inr ⟨rfl, rfl, rfl, rfl, hl, hb, .inl ⟨h0.1, h0.2, rfl⟩⟩)
  | strike j v hj hs he =>
    rcases setA j v hj e with z | z
    · exact .inl z
    · exact .inr (.inl z)
  | turn j v vals root hj hs he hl hb hr =>
    by_cases q : i < S.vers.length
    · rw [List.getElem?_append_left (by rw [List.length_set]; exact q)] at e
      rcases setA j v hj e with z | z
      · exact .inl z
      · exact .inr (.inl z)
    · have hi := (List.getElem?_eq_some_iff.mp e).1
      simp at hi
      have hi2 : i = S.vers.length := by omega
      subst hi2
      rw [List.getElem?_append_right (by rw [List.length_set]; exact Nat.le_refl _), List.length_set, Nat.sub_self] at e
      cases e
      exact .inr (.inr ⟨rfl, rfl, rfl, rfl, hl, hb, .inr ⟨v, List.mem_of_getElem? hj, rfl, hr⟩⟩)
theorem rise_of {vs : List Ver} (h : ∀ i v, vs[i]? = some v → v.place = ((i : Nat) : Int)) : vs.Pairwise fun v u => v.place < u.place := by
  refine List.pairwise_iff_getElem.mpr fun i j hi hj hij => ?_
  rw [h i _ (List.getElem?_eq_getElem hi), h j _ (List.getElem?_eq_getElem hj)]
  omega
theorem DeedOk.step {S S' : Stand} (d : DeedOk S) (s : Step S S') : DeedOk S' := by
  have ok := d.ok
  cases s with
  | begin h =>
    have hn : nums (S.fates ++ [Fate.live]) = nums S.fates := by rw [numsA]; exact List.append_nil _
    have hl : ((S.fates ++ [Fate.live]).length : Int) = (S.fates.length : Int) + 1 := by simp
    refine ⟨⟨ok.cols, by show (S.fates ++ [Fate.live]).length ≤ 20; simp; omega, ok.size, fun v hv => ?_, ok.rise, ok.far, by show (nums (S.fates ++ [Fate.live])).Perm _; rw [hn]; exact ok.nums, by show (S.views ++ [_]).length = (S.fates ++ [_]).length; simp [ok.views], fun x hx => ?_⟩, d.at_, d.row⟩
    · have y := ok.vers v hv
      show VerOk S.cols ((S.fates ++ [Fate.live]).length : Int) 99 v
      rw [hl]
      exact ⟨y.place, y.row, y.cols, y.vals, ⟨y.maker.1, by have := y.maker.2; omega⟩, fun i q => ⟨(y.ender i q).1, by have := (y.ender i q).2; omega⟩, y.root⟩
    · show 0 ≤ x ∧ x ≤ ((nums (S.fates ++ [Fate.live])).length : Int)
      rw [hn]
      rcases List.mem_append.mp hx with z | z
      · exact ok.view x z
      · rw [List.mem_singleton.mp z]; omega
  | gone who h =>
    have hn := nums_set_gone h
    have hl : (S.fates.set who .gone).length = S.fates.length := List.length_set
    exact ⟨⟨ok.cols, by show (S.fates.set who .gone).length ≤ 20; rw [hl]; exact ok.many, ok.size, fun v hv => by show VerOk S.cols ((S.fates.set who .gone).length : Int) 99 v; rw [hl]; exact ok.vers v hv, ok.rise, ok.far, by show (nums (S.fates.set who .gone)).Perm _; rw [hn]; exact ok.nums, by show S.views.length = (S.fates.set who .gone).length; rw [hl]; exact ok.views, fun x hx => by show 0 ≤ x ∧ x ≤ ((nums (S.fates.set who .gone)).length : Int); rw [hn]; exact ok.view x hx⟩, d.at_, d.row⟩
  | done who h =>
    have hn := nums_set_done (n := (nums S.fates).length + 1) h
    have hln : (nums (S.fates.set who (.done ((nums S.fates).length + 1)))).length = (nums S.fates).length + 1 := by rw [hn.length_eq]; simp
    have hl : (S.fates.set who (.done ((nums S.fates).length + 1))).length = S.fates.length := List.length_set
    refine ⟨⟨ok.cols, by show (S.fates.set who _).length ≤ 20; rw [hl]; exact ok.many, ok.size, fun v hv => by show VerOk S.cols ((S.fates.set who _).length : Int) 99 v; rw [hl]; exact ok.vers v hv, ok.rise, ok.far, ?_, by show S.views.length = (S.fates.set who _).length; rw [hl]; exact ok.views, fun x hx => ?_⟩, d.at_, d.row⟩
    · show (nums (S.fates.set who (.done ((nums S.fates).length + 1)))).Perm (upI (nums (S.fates.set who (.done ((nums S.fates).length + 1)))).length)
      rw [hln, upI_succ]
      exact hn.trans ((List.Perm.cons _ ok.nums).trans (List.perm_append_comm (l₁ := [_])))
    · have := ok.view x hx
      show 0 ≤ x ∧ x ≤ ((nums (S.fates.set who (.done ((nums S.fates).length + 1)))).length : Int)
      rw [hln]
      exact ⟨this.1, by push_cast; omega⟩
  | @wrote who h hz vs w =>
    have hlen := wrote_len w
    have hwho : who < S.fates.length := (List.getElem?_eq_some_iff.mp h).1
    have key : ∀ i u, vs[i]? = some u → VerOk S.cols S.fates.length 99 u ∧ u.place = ((i : Nat) : Int) ∧ u.row < vs.length := fun i u e => by
      have hi := (List.getElem?_eq_some_iff.mp e).1
      have hsz := ok.size
      rcases wrote_at w e with z | ⟨v, z, rfl⟩ | ⟨rfl, z1, z2, z3, z4, z5, z6⟩
      · exact ⟨ok.vers u (List.mem_of_getElem? z), d.at_ i u z, by have := d.row u (List.mem_of_getElem? z); omega⟩
      · have y := ok.vers v (List.mem_of_getElem? z)
        refine ⟨⟨y.place, y.row, y.cols, y.vals, y.maker, fun j q => ?_, y.root⟩, d.at_ i v z, by have := d.row v (List.mem_of_getElem? z); show v.row < _; omega⟩
        cases q
        exact ⟨by omega, by omega⟩
      · rcases z6 with ⟨r1, r2, r3⟩ | ⟨v, hv, r1, r2⟩
        · exact ⟨⟨by omega, ⟨r1, by omega⟩, z4, z5, ⟨by omega, by omega⟩, fun j q => by (rw [z3] at q; cases q), ⟨by omega, by omega⟩⟩, z1, by omega⟩
        · have y := ok.vers v hv
          have hp : v.place < S.vers.length := by
            obtain ⟨j, hj, ej⟩ := List.mem_iff_getElem.mp hv
            have := d.at_ j v (by rw [List.getElem?_eq_getElem hj, ej])
            omega
          have hrow := d.row v hv
          have hrt := y.root
          have hry := y.row
          refine ⟨⟨by omega, ⟨by omega, by omega⟩, z4, z5, ⟨by omega, by omega⟩, fun j q => by (rw [z3] at q; cases q), ?_⟩, z1, by omega⟩
          rcases r2 with r2 | r2 <;> exact ⟨by omega, by omega⟩
    have mem : ∀ u ∈ vs, ∃ i, vs[i]? = some u := fun u hu => by
      obtain ⟨i, hi, e⟩ := List.mem_iff_getElem.mp hu
      exact ⟨i, by rw [List.getElem?_eq_getElem hi, e]⟩
    refine ⟨⟨ok.cols, ok.many, by show vs.length ≤ 40; omega, fun u hu => ?_, rise_of fun i u e => (key i u e).2.1, fun u hu => ?_, ok.nums, ok.views, ok.view⟩, fun i u e => (key i u e).2.1, fun u hu => ?_⟩
    · obtain ⟨i, e⟩ := mem u hu
      exact (key i u e).1
    · obtain ⟨i, e⟩ := mem u hu
      have := (key i u e).2.1
      have hi := (List.getElem?_eq_some_iff.mp e).1
      have hsz := ok.size
      omega
    · obtain ⟨i, e⟩ := mem u hu
      exact (key i u e).2.2
theorem Reach.ok {w : Int} {S : Stand} (hw : 1 ≤ w ∧ w ≤ 3) (r : Reach w S) : DeedOk S := by
  induction r with
  | nil => exact ⟨⟨hw, Nat.zero_le _, Nat.zero_le _, fun v hv => (by cases hv), List.Pairwise.nil, fun v hv => (by cases hv), List.Perm.refl _, rfl, fun x hx => (by cases hx)⟩, fun i v e => (by simp at e), fun v hv => (by cases hv)⟩
  | step r s ih => exact ih.step s
theorem Reach.cols {w : Int} {S : Stand} (r : Reach w S) : S.cols = w := by
  induction r with
  | nil => rfl
  | step r s ih => cases s <;> exact ih

/-! ### a stand drawn by deeds -/
local macro_rules | `(tactic| walk_at "fd1") => `(tactic| first
  | walk_at "dl1"
  | ((with_reducible apply r_ixD); walk_at "hp"; exact rfl; (first | exact fv_cells | exact fv_at | exact fv_left | exact fv_turn))
  | ((with_reducible apply k_setD); walk_at "hp"; exact rfl; (show (4 : Nat) < 16777216; decide); (first | rw [fp_at] | rw [fp_left] | rw [fp_turn])))
local macro_rules | `(tactic| walk_at "fd") => `(tactic| repeat walk_at "fd1")
section
variable {h : MH} {Q : DK} {E : DXK}
end

/-! ### a writer that isn't gone sees at most one version of a row -/
def Gn (fs : List Fate) (m : Int) : Prop := fs[m.toNat]? = some .gone
def LeW (fs : List Fate) (vw : List Int) (a b : Int) : Prop := a = b ∨ ∃ n, fs[a.toNat]? = some (.done n) ∧ n ≤ viewAt vw b
structure Uq (S : Stand) : Prop where
  vd : ∀ (b : Nat) (n : Int), S.fates[b]? = some (.done n) → (S.views[b]?).getD 0 < n
  ch : ∀ (i j : Nat) (v u : Ver), i < j → S.vers[i]? = some v → S.vers[j]? = some u → v.row = u.row → Gn S.fates v.maker ∨ Gn S.fates u.maker ∨ ∃ e, v.ender = some e ∧ LeW S.fates S.views e u.maker
theorem on_iffU {fs : List Fate} {i w view : Int} : isOn fs (some i) (some w) view = true ↔ w = i ∨ ∃ n, fs[i.toNat]? = some (.done n) ∧ n ≤ view := by
  show (decide ((some w : Option Int) = some i) || doneBy fs (some i) view) = true ↔ _
  rw [Bool.or_eq_true, decide_eq_true_eq, Option.some.injEq]
  refine or_congr Iff.rfl ?_
  unfold doneBy
  dsimp only
  cases q : fs[i.toNat]? with
  | none => simp
  | some f =>
    cases f with
    | live => simp
    | gone => simp
    | done n => simp
theorem onV_iffU {fs : List Fate} {w view : Int} {v : Ver} (h : onV fs (some w) view v = true) : isOn fs (some v.maker) (some w) view = true ∧ ∀ e, v.ender = some e → ¬ isOn fs (some e) (some w) view = true := by
  unfold onV at h
  rw [Bool.and_eq_true] at h
  refine ⟨h.1, fun e he z => ?_⟩
  rw [he, z] at h
  exact absurd h.2 (by decide)
theorem on_notGn {fs : List Fate} {i w view : Int} (hw : ¬ Gn fs w) (h : isOn fs (some i) (some w) view = true) : ¬ Gn fs i := fun g => by
  rcases on_iffU.mp h with e | ⟨n, e, _⟩
  · exact hw (e ▸ g)
  · unfold Gn at g
    rw [g] at e
    cases e
theorem le_on {S : Stand} (u : Uq S) {a b w : Int} (l : LeW S.fates S.views a b) (h : isOn S.fates (some b) (some w) (viewAt S.views w) = true) : isOn S.fates (some a) (some w) (viewAt S.views w) = true := by
  refine on_iffU.mpr ?_
  rcases l with e | ⟨n, e, hn⟩
  · subst e; exact on_iffU.mp h
  · refine .inr ⟨n, e, ?_⟩
    rcases on_iffU.mp h with z | ⟨m, z, hm⟩
    · rw [z]; exact hn
    · have y := u.vd _ _ z
      have y2 : viewAt S.views b < m := y
      omega
/-- two versions of one row, seen by one that isn't gone -/
theorem Uq.one {S : Stand} (u : Uq S) {w : Int} (hw : ¬ Gn S.fates w) {i j : Nat} {v x : Ver} (hij : i < j) (hi : S.vers[i]? = some v) (hj : S.vers[j]? = some x) (hr : v.row = x.row)
    (h1 : onV S.fates (some w) (viewAt S.views w) v = true) (h2 : onV S.fates (some w) (viewAt S.views w) x = true) : False := by
  obtain ⟨m1, e1⟩ := onV_iffU h1
  obtain ⟨m2, _⟩ := onV_iffU h2
  rcases u.ch i j v x hij hi hj hr with z | z | ⟨e, he, l⟩
  · exact on_notGn hw m1 z
  · exact on_notGn hw m2 z
  · exact e1 e he (le_on u l m2)
theorem gn_setU {fs : List Fate} {who : Nat} {f : Fate} (hl : fs[who]? = some .live) {m : Int} (h : Gn fs m) : Gn (fs.set who f) m := by
  unfold Gn at h ⊢
  rw [List.getElem?_set_ne]
  · exact h
  · intro e
    rw [← e, hl] at h
    cases h
theorem done_setU {fs : List Fate} {who : Nat} {f : Fate} (hl : fs[who]? = some .live) {b : Nat} {n : Int} (h : fs[b]? = some (.done n)) : (fs.set who f)[b]? = some (.done n) := by
  rw [List.getElem?_set_ne]
  · exact h
  · intro e
    rw [← e, hl] at h
    cases h
theorem Uq.fates {S : Stand} (u : Uq S) {who : Nat} {f : Fate} (hl : S.fates[who]? = some .live) (hv : ∀ n, f = .done n → (S.views[who]?).getD 0 < n) : Uq ⟨S.cols, S.vers, S.fates.set who f, S.views⟩ := by
  refine ⟨fun b n h => ?_, fun i j v x hij hi hj hr => ?_⟩
  · have h' : (S.fates.set who f)[b]? = some (.done n) := h
    by_cases e : who = b
    · subst e
      have hlt : who < S.fates.length := (List.getElem?_eq_some_iff.mp hl).1
      rw [List.getElem?_set_self hlt] at h'
      exact hv n (Option.some.inj h')
    · rw [List.getElem?_set_ne e] at h'
      exact u.vd b n h'
  · rcases u.ch i j v x hij hi hj hr with z | z | ⟨e, he, l⟩
    · exact .inl (gn_setU hl z)
    · exact .inr (.inl (gn_setU hl z))
    · refine .inr (.inr ⟨e, he, ?_⟩)
      rcases l with z | ⟨n, z, hn⟩
      · exact .inl z
      · exact .inr ⟨n, done_setU hl z, hn⟩
theorem set_atU {l : List Ver} {i : Nat} {v x : Ver} (hi : l[i]? = some v) {a : Nat} {y : Ver} (h : (l.set i x)[a]? = some y) : (a = i ∧ y = x) ∨ (a ≠ i ∧ l[a]? = some y) := by
  by_cases e : i = a
  · subst e
    rw [List.getElem?_set_self (List.getElem?_eq_some_iff.mp hi).1] at h
    exact .inl ⟨rfl, (Option.some.inj h).symm⟩
  · rw [List.getElem?_set_ne e] at h
    exact .inr ⟨fun z => e z.symm, h⟩
theorem app_atU {l : List Ver} {x y : Ver} {a : Nat} (h : (l ++ [x])[a]? = some y) : (a = l.length ∧ y = x) ∨ (a < l.length ∧ l[a]? = some y) := by
  rcases Nat.lt_or_ge a l.length with z | z
  · rw [List.getElem?_append_left z] at h
    exact .inr ⟨z, h⟩
  · rw [List.getElem?_append_right z] at h
    have e : a - l.length = 0 := by
      have := (List.getElem?_eq_some_iff.mp h).1
      simp at this
      omega
    rw [e] at h
    exact .inl ⟨by omega, (Option.some.inj h).symm⟩
/-- one version's ender is written -/
theorem Uq.ended {S : Stand} (u : Uq S) {i0 : Nat} {v0 : Ver} {wr : Int} (h0 : S.vers[i0]? = some v0) (he : ∀ j, v0.ender = some j → S.fates[j.toNat]? = some .gone) :
    ∀ (i j : Nat) (v x : Ver), i < j → (S.vers.set i0 { v0 with ender := some wr })[i]? = some v → (S.vers.set i0 { v0 with ender := some wr })[j]? = some x → v.row = x.row → Gn S.fates v.maker ∨ Gn S.fates x.maker ∨ ∃ e, v.ender = some e ∧ LeW S.fates S.views e x.maker := by
  intro i j v x hij hi hj hr
  obtain ⟨x1, b1, b2, b3⟩ : ∃ x1, S.vers[j]? = some x1 ∧ x1.row = x.row ∧ x1.maker = x.maker := by
    rcases set_atU h0 hj with ⟨e, y⟩ | ⟨_, y⟩
    · subst e y; exact ⟨v0, h0, rfl, rfl⟩
    · exact ⟨x, y, rfl, rfl⟩
  rcases set_atU h0 hi with ⟨e, y⟩ | ⟨_, y⟩
  · subst e y
    rcases u.ch i j v0 x1 hij h0 b1 (by rw [b2]; exact hr) with z | z | ⟨e, z, l⟩
    · exact .inl z
    · exact .inr (.inl (b3 ▸ z))
    · have g := he e z
      rcases l with q | ⟨n, q, _⟩
      · exact .inr (.inl (by rw [← b3, ← q]; exact g))
      · rw [g] at q; cases q
  · rcases u.ch i j v x1 hij y b1 (by rw [b2]; exact hr) with z | z | ⟨e, z, l⟩
    · exact .inl z
    · exact .inr (.inl (b3 ▸ z))
    · exact .inr (.inr ⟨e, z, b3 ▸ l⟩)
theorem Uq.step {S S' : Stand} (d : DeedOk S) (u : Uq S) (s : Step S S') : Uq S' := by
  have ok := d.ok
  cases s with
  | begin h =>
    have mk : ∀ v ∈ S.vers, v.maker.toNat < S.fates.length := fun v hv => by
      have := (ok.vers v hv).maker
      omega
    have fl : ∀ {b : Nat} {f : Fate}, S.fates[b]? = some f → (S.fates ++ [Fate.live])[b]? = some f := fun {b f} e => by
      rw [List.getElem?_append_left (List.getElem?_eq_some_iff.mp e).1]; exact e
    refine ⟨fun b n e => ?_, fun i j v x hij hi hj hr => ?_⟩
    · have e' : (S.fates ++ [Fate.live])[b]? = some (.done n) := e
      rcases Nat.lt_or_ge b S.fates.length with z | z
      · rw [List.getElem?_append_left z] at e'
        show ((S.views ++ [((nums S.fates).length : Int)])[b]?).getD 0 < n
        rw [List.getElem?_append_left (by rw [ok.views]; exact z)]
        exact u.vd b n e'
      · rw [List.getElem?_append_right z] at e'
        have y : b - S.fates.length = 0 := by
          have := (List.getElem?_eq_some_iff.mp e').1
          simp at this
          omega
        rw [y] at e'
        cases e'
    · rcases u.ch i j v x hij hi hj hr with z | z | ⟨e, he, l⟩
      · exact .inl (fl z)
      · exact .inr (.inl (fl z))
      · refine .inr (.inr ⟨e, he, ?_⟩)
        rcases l with z | ⟨n, z, hn⟩
        · exact .inl z
        · refine .inr ⟨n, fl z, ?_⟩
          show n ≤ ((S.views ++ [((nums S.fates).length : Int)])[x.maker.toNat]?).getD 0
          rw [List.getElem?_append_left (by rw [ok.views]; exact mk x (List.mem_of_getElem? hj))]
          exact hn
  | gone who h => exact u.fates h fun n z => by cases z
  | done who h =>
    refine u.fates h fun n z => ?_
    cases z
    cases q : S.views[who]? with
    | none => show (0 : Int) < _; omega
    | some y =>
      have := (ok.view y (List.mem_of_getElem? q)).2
      show y < _
      omega
  | wrote who h hz w =>
    have nw : ¬ Gn S.fates (who : Int) := fun g => by
      have g' : S.fates[who]? = some .gone := g
      rw [h] at g'
      cases g'
    refine ⟨u.vd, ?_⟩
    cases w with
    | put row vals hr h0 hl hb =>
      intro i j v x hij hi hj hrow
      rcases app_atU hj with ⟨e, y⟩ | ⟨lt, y⟩
      · rcases app_atU hi with ⟨e2, _⟩ | ⟨_, y2⟩
        · omega
        · have := hr v (List.mem_of_getElem? y2)
          rw [hrow, y] at this
          exact absurd this (Int.lt_irrefl _)
      · rcases app_atU hi with ⟨e2, _⟩ | ⟨_, y2⟩
        · omega
        · exact u.ch i j v x hij y2 y hrow
    | strike i0 v0 hi0 hs he => exact u.ended hi0 he
    | turn i0 v0 vals root hi0 hs he hl hb hr =>
      intro i j v x hij hi hj hrow
      obtain ⟨on0, _⟩ := onV_iffU hs
      have g0 := on_notGn nw on0
      rcases app_atU hj with ⟨ej, y⟩ | ⟨ltj, y⟩
      · rcases app_atU hi with ⟨e2, _⟩ | ⟨_, y2⟩
        · omega
        · subst y
          have hrow' : v.row = v0.row := hrow
          rcases set_atU hi0 y2 with ⟨e3, y3⟩ | ⟨n3, y3⟩
          · subst y3
            exact .inr (.inr ⟨_, rfl, .inl rfl⟩)
          · rcases Nat.lt_or_gt_of_ne n3 with lt | gt
            · rcases u.ch i i0 v v0 lt y3 hi0 hrow' with z | z | ⟨e, z, l⟩
              · exact .inl z
              · exact absurd z g0
              · have o := le_on u l on0
                refine .inr (.inr ⟨e, z, ?_⟩)
                rcases on_iffU.mp o with q | ⟨n, q, hn⟩
                · exact .inl q.symm
                · exact .inr ⟨n, q, hn⟩
            · rcases u.ch i0 i v0 v gt hi0 y3 hrow'.symm with z | z | ⟨e, z, l⟩
              · exact absurd z g0
              · exact .inl z
              · have g := he e z
                rcases l with q | ⟨n, q, _⟩
                · exact .inl (by rw [← q]; exact g)
                · rw [g] at q; cases q
      · rcases app_atU hi with ⟨e2, _⟩ | ⟨_, y2⟩
        · rw [List.length_set] at e2 ltj
          omega
        · exact u.ended hi0 he i j v x hij y2 y hrow
/-! ### what may go -/
section
variable {h : MH} {Q : DK} {E : DXK} {S : Stand} {v : Ver} {least c : Int}
end
/-! ### while, ranges with steps, sorted sets of tuples -/
def whK (tb : DTS) (D : DEnds) (K : DSt → MH → Prop) (σ : DSt) : Bool → MH → Prop := fun b h1 => if b = true then tb { nx := K, ct := K, bk := D.nx, rt := D.rt } σ h1 else D.nx σ h1
theorem k_wh {tb : DTS} {D : DEnds} {K : DSt → MH → Prop} {σ : DSt} {b : Bool} {h : MH} (k1 : b = true → tb { nx := K, ct := K, bk := D.nx, rt := D.rt } σ h) (k2 : b = false → D.nx σ h) : whK tb D K σ b h := by
  cases b with
  | true => exact k1 rfl
  | false => exact k2 rfl
theorem wh_inv {c : DTT} {tb : DTS} {D : DEnds} (I : Nat → DSt → MH → Prop) (step : ∀ n σ h (K : DSt → MH → Prop), I n σ h → (∀ m σ' h', m < n → I m σ' h' → K σ' h') → c σ h (whK tb D K σ)) (n : Nat) (σ : DSt) (h : MH) (i : I n σ h) : dWhile c tb D σ h := by
  have all : ∀ N m σ h, m < N → I m σ h → whN c tb D N σ h := by
    intro N
    induction N with
    | zero => intro m _ _ z; omega
    | succ N ih => exact fun m σ h z i => step m σ h (fun σ' h' => whN c tb D N σ' h') i fun m' σ' h' z' i' => ih m' σ' h' (by omega) i'
  exact ⟨n + 1, all (n + 1) n σ h (Nat.lt_succ_self n) i⟩
theorem b_abs {i : Int} {h : MH} {Q : DK} (k : Q (.d (.int (if i < 0 then -i else i))) h) : rdAbs [.d (.int i)] h Q := k
def rg3K (QL : List PyData → MH → Prop) (x y z : SV) : MH → Prop := fun h3 => match asInt x, asInt y, asInt z with
  | some a, some b, some c => c ≠ 0 ∧ c.natAbs.log2 < 9000 ∧ ∃ n : Nat, Builtin.Range.rangeSize a b c = n ∧ QL (rgC a c n) h3
  | _, _, _ => False
theorem e_rg3 {ta tb tc : DTE} {σ : DSt} {h : MH} {QL : List PyData → MH → Prop} (k : ta σ h fun x h1 => tb σ h1 fun y h2 => tc σ h2 fun z h3 => rg3K QL x y z h3) : wRg3 ta tb tc σ h QL := k
theorem k_rg3 {a b c : Int} {n : Nat} {h : MH} {QL : List PyData → MH → Prop} (c0 : c ≠ 0) (c1 : c.natAbs.log2 < 9000) (e : Builtin.Range.rangeSize a b c = n) (k : QL (rgC a c n) h) : rg3K QL (.d (.int a)) (.d (.int b)) (.d (.int c)) h := ⟨c0, c1, n, e, k⟩
/-! sorted sets -/
theorem nodup_len {α : Type} [DecidableEq α] : ∀ (l D : List α), l.Nodup → (∀ x ∈ l, x ∈ D) → l.length ≤ D.length
  | [], _, _, _ => Nat.zero_le _
  | x :: l, D, n, h => by
    have hx := h x List.mem_cons_self
    obtain ⟨n1, n2⟩ := List.nodup_cons.mp n
    have ih := nodup_len l (D.erase x) n2 fun y hy => (List.mem_erase_of_ne fun (z : y = x) => n1 (by rw [← z]; exact hy)).mpr (h y (List.mem_cons_of_mem _ hy))
    rw [List.length_erase_of_mem hx] at ih
    have := List.length_pos_of_mem hx
    rw [List.length_cons]
    omega
def sstK (QL : List PyData → MH → Prop) : DK := fun x h1 => match asL h1 x with
  | some ds => ∃ (ks : List (List Int)) (m : Nat), ds = ks.map tupN ∧ ks.length < 64 ∧ 1 ≤ m ∧ (∀ k ∈ ks, k.length = m) ∧ ∀ ms : List (List Int), ms.Pairwise (fun a b => lexL a b = true) → (∀ k, k ∈ ms ↔ k ∈ ks) → QL (ms.map tupN) h1
  | none => False
theorem e_sst {ta : DTE} {σ : DSt} {h : MH} {QL : List PyData → MH → Prop} (k : ta σ h (sstK QL)) : fSortSetT ta σ h QL := k
/-! ### things of any kind -/
def isTupB : PyData → Bool
  | .tuple _ => true
  | _ => false
def isLstB : PyData → Bool
  | .list _ => true
  | _ => false
def isStrB : PyData → Bool
  | .str _ => true
  | _ => false
def isBoolB : PyData → Bool
  | .bool _ => true
  | _ => false
def isIntB : PyData → Bool
  | .int _ => true
  | .bool _ => true
  | _ => false
theorem kb_tup : ∀ d : PyData, kitB (tyN d) "tuple" = some (isTupB d)
  | .none => (by decide +kernel : kitB "NoneType" "tuple" = some false)
  | .bool _ => (by decide +kernel : kitB "bool" "tuple" = some false)
  | .int _ => (by decide +kernel : kitB "int" "tuple" = some false)
  | .str _ => (by decide +kernel : kitB "str" "tuple" = some false)
  | .list _ => (by decide +kernel : kitB "list" "tuple" = some false)
  | .tuple _ => (by decide +kernel : kitB "tuple" "tuple" = some true)
  | .dict _ => (by decide +kernel : kitB "dict" "tuple" = some false)
theorem kb_lst : ∀ d : PyData, kitB (tyN d) "list" = some (isLstB d)
  | .none => (by decide +kernel : kitB "NoneType" "list" = some false)
  | .bool _ => (by decide +kernel : kitB "bool" "list" = some false)
  | .int _ => (by decide +kernel : kitB "int" "list" = some false)
  | .str _ => (by decide +kernel : kitB "str" "list" = some false)
  | .list _ => (by decide +kernel : kitB "list" "list" = some true)
  | .tuple _ => (by decide +kernel : kitB "tuple" "list" = some false)
  | .dict _ => (by decide +kernel : kitB "dict" "list" = some false)
theorem kb_str : ∀ d : PyData, kitB (tyN d) "str" = some (isStrB d)
  | .none => (by decide +kernel : kitB "NoneType" "str" = some false)
  | .bool _ => (by decide +kernel : kitB "bool" "str" = some false)
  | .int _ => (by decide +kernel : kitB "int" "str" = some false)
  | .str _ => (by decide +kernel : kitB "str" "str" = some true)
  | .list _ => (by decide +kernel : kitB "list" "str" = some false)
  | .tuple _ => (by decide +kernel : kitB "tuple" "str" = some false)
  | .dict _ => (by decide +kernel : kitB "dict" "str" = some false)
theorem kb_bool : ∀ d : PyData, kitB (tyN d) "bool" = some (isBoolB d)
  | .none => (by decide +kernel : kitB "NoneType" "bool" = some false)
  | .bool _ => (by decide +kernel : kitB "bool" "bool" = some true)
  | .int _ => (by decide +kernel : kitB "int" "bool" = some false)
  | .str _ => (by decide +kernel : kitB "str" "bool" = some false)
  | .list _ => (by decide +kernel : kitB "list" "bool" = some false)
  | .tuple _ => (by decide +kernel : kitB "tuple" "bool" = some false)
  | .dict _ => (by decide +kernel : kitB "dict" "bool" = some false)
theorem kb_int : ∀ d : PyData, kitB (tyN d) "int" = some (isIntB d)
  | .none => (by decide +kernel : kitB "NoneType" "int" = some false)
  | .bool _ => (by decide +kernel : kitB "bool" "int" = some true)
  | .int _ => (by decide +kernel : kitB "int" "int" = some true)
  | .str _ => (by decide +kernel : kitB "str" "int" = some false)
  | .list _ => (by decide +kernel : kitB "list" "int" = some false)
  | .tuple _ => (by decide +kernel : kitB "tuple" "int" = some false)
  | .dict _ => (by decide +kernel : kitB "dict" "int" = some false)
section
variable {h : MH} {Q : DK} {E : DXK} {σ : DSt}
theorem k_isTup {d : PyData} (k : Q (.d (.bool (isTupB d))) h) : isK "tuple" Q (.d d) h := k_isT rfl (kb_tup d) k
theorem k_isLst {d : PyData} (k : Q (.d (.bool (isLstB d))) h) : isK "list" Q (.d d) h := k_isT rfl (kb_lst d) k
theorem k_isStr {d : PyData} (k : Q (.d (.bool (isStrB d))) h) : isK "str" Q (.d d) h := k_isT rfl (kb_str d) k
theorem k_isBool {d : PyData} (k : Q (.d (.bool (isBoolB d))) h) : isK "bool" Q (.d d) h := k_isT rfl (kb_bool d) k
theorem k_isInt {d : PyData} (k : Q (.d (.bool (isIntB d))) h) : isK "int" Q (.d d) h := k_isT rfl (kb_int d) k
end
local macro_rules | `(tactic| walk_at "gl1") => `(tactic| first
  | walk_at "dl1"
  | with_reducible refine e_wZip ?_
  | with_reducible refine k_zipT ?_
  | with_reducible refine e_isT ?_
  | with_reducible refine k_isTup ?_
  | with_reducible refine k_isLst ?_
  | with_reducible refine k_isStr ?_
  | with_reducible refine k_isBool ?_
  | with_reducible refine k_isInt ?_)
local macro_rules | `(tactic| walk_at "gl") => `(tactic| repeat walk_at "gl1")
section
variable {h : MH} {Q : DK} {E : DXK} {σ : DSt}
end
/-! rising triples -/
section
variable {h : MH} {Q : DK} {E : DXK} {σ : DSt}
end

/-! ### data with great numbers, composed; spoilt things -/
def bOk : Nat → PyData → Bool
  | _, .none => true
  | _, .bool _ => true
  | _, .int i => decide (i.natAbs < 10 ^ 60)
  | _, .str x => PySem.PyData.strOk x && decide ((reprText x).length ≤ 60)
  | n + 1, .list xs => xs.all (bOk n)
  | n + 1, .tuple xs => xs.all (bOk n)
  | 0, .list _ => false
  | 0, .tuple _ => false
  | _, .dict _ => false
theorem bOk_dOk : ∀ (n : Nat) (d : PyData), bOk n d = true → dOk n d = true
  | n, .none, _ => by cases n <;> rfl
  | n, .bool _, _ => by cases n <;> rfl
  | n, .int _, _ => by cases n <;> rfl
  | n, .str x, h => by cases n <;> simp [bOk] at h <;> simpa [dOk] using h.1
  | n + 1, .list xs, h => by
    have z : ∀ x ∈ xs, bOk n x = true := List.all_eq_true.mp (by simpa [bOk] using h)
    simp only [dOk]
    exact List.all_eq_true.mpr fun x hx => bOk_dOk n x (z x hx)
  | n + 1, .tuple xs, h => by
    have z : ∀ x ∈ xs, bOk n x = true := List.all_eq_true.mp (by simpa [bOk] using h)
    simp only [dOk]
    exact List.all_eq_true.mpr fun x hx => bOk_dOk n x (z x hx)
  | 0, .list _, h => by simp [bOk] at h
  | 0, .tuple _, h => by simp [bOk] at h
  | n, .dict _, h => by cases n <;> simp [bOk] at h
theorem bOk_up : ∀ (n m : Nat) (d : PyData), n ≤ m → bOk n d = true → bOk m d = true
  | n, m, .none, _, _ => by cases m <;> rfl
  | n, m, .bool _, _, _ => by cases m <;> rfl
  | n, m, .int _, _, h => by cases n <;> cases m <;> simpa [bOk] using h
  | n, m, .str x, _, h => by cases n <;> cases m <;> simpa [bOk] using h
  | n + 1, m + 1, .list xs, hl, h => by
    have z : ∀ x ∈ xs, bOk n x = true := List.all_eq_true.mp (by simpa [bOk] using h)
    simp only [bOk]
    exact List.all_eq_true.mpr fun x hx => bOk_up n m x (by omega) (z x hx)
  | n + 1, m + 1, .tuple xs, hl, h => by
    have z : ∀ x ∈ xs, bOk n x = true := List.all_eq_true.mp (by simpa [bOk] using h)
    simp only [bOk]
    exact List.all_eq_true.mpr fun x hx => bOk_up n m x (by omega) (z x hx)
  | n + 1, 0, .list _, hl, _ => by omega
  | n + 1, 0, .tuple _, hl, _ => by omega
  | 0, _, .list _, _, h => by simp [bOk] at h
  | 0, _, .tuple _, _, h => by simp [bOk] at h
  | n, _, .dict _, _, h => by cases n <;> simp [bOk] at h
theorem nodes_upB : ∀ (n m : Nat) (d : PyData), n ≤ m → bOk n d = true → nodes m d = nodes n d
  | n, m, .none, _, _ => by cases n <;> cases m <;> rfl
  | n, m, .bool _, _, _ => by cases n <;> cases m <;> rfl
  | n, m, .int _, _, _ => by cases n <;> cases m <;> rfl
  | n, m, .str x, _, _ => by cases n <;> cases m <;> rfl
  | n + 1, m + 1, .list xs, hl, h => by
    have z : ∀ x ∈ xs, bOk n x = true := List.all_eq_true.mp (by simpa [bOk] using h)
    show 1 + (xs.map (nodes m)).sum = 1 + (xs.map (nodes n)).sum
    rw [List.map_congr_left fun x hx => nodes_upB n m x (by omega) (z x hx)]
  | n + 1, m + 1, .tuple xs, hl, h => by
    have z : ∀ x ∈ xs, bOk n x = true := List.all_eq_true.mp (by simpa [bOk] using h)
    show 1 + (xs.map (nodes m)).sum = 1 + (xs.map (nodes n)).sum
    rw [List.map_congr_left fun x hx => nodes_upB n m x (by omega) (z x hx)]
  | n + 1, 0, .list _, hl, _ => by omega
  | n + 1, 0, .tuple _, hl, _ => by omega
  | 0, _, .list _, _, h => by simp [bOk] at h
  | 0, _, .tuple _, _, h => by simp [bOk] at h
  | n, _, .dict _, _, h => by cases n <;> simp [bOk] at h
def Big (n c : Nat) (d : PyData) : Prop := bOk n d = true ∧ nodes n d ≤ c
def BigL (n c : Nat) (xs : List PyData) : Prop := (∀ x ∈ xs, bOk n x = true) ∧ (xs.map (nodes n)).sum ≤ c
theorem Big.shaped {n c : Nat} {d : PyData} (h : Big n c d) (hn : n ≤ 64 := by first | decide | omega) : SeqAt.shaped d = true := shaped_ok hn (bOk_dOk n d h.1)
theorem Big.up {n m c c' : Nat} {d : PyData} (h : Big n c d) (hn : n ≤ m := by first | decide | omega) (hc : c ≤ c' := by first | decide | omega) : Big m c' d := ⟨bOk_up n m d hn h.1, by rw [nodes_upB n m d hn h.1]; exact Nat.le_trans h.2 hc⟩
theorem BigL.up {n m c c' : Nat} {d : List PyData} (h : BigL n c d) (hn : n ≤ m := by first | decide | omega) (hc : c ≤ c' := by first | decide | omega) : BigL m c' d := ⟨fun x hx => bOk_up n m x hn (h.1 x hx), by
  rw [List.map_congr_left fun x hx => nodes_upB n m x hn (h.1 x hx)]
  exact Nat.le_trans h.2 hc⟩
theorem BigL.nil {n : Nat} : BigL n 0 [] := ⟨fun x hx => (by cases hx), by simp⟩
theorem BigL.cons {n a b : Nat} {x : PyData} {xs : List PyData} (h : Big n a x) (t : BigL n b xs) : BigL n (a + b) (x :: xs) := ⟨fun y hy => by
  rcases List.mem_cons.mp hy with rfl | q
  · exact h.1
  · exact t.1 y q, by rw [List.map_cons, List.sum_cons]; exact Nat.add_le_add h.2 t.2⟩
theorem BigL.all {n c k : Nat} {xs : List PyData} (h : ∀ x ∈ xs, Big n c x) (hl : xs.length ≤ k) : BigL n (c * k) xs := ⟨fun x hx => (h x hx).1, Nat.le_trans (nodes_le fun x hx => (h x hx).2) (Nat.mul_le_mul_left _ hl)⟩
theorem BigL.lst {n c : Nat} {xs : List PyData} (h : BigL n c xs) : Big (n + 1) (c + 1) (.list xs) := ⟨by simp only [bOk]; exact List.all_eq_true.mpr h.1, by
  have e : nodes (n + 1) (.list xs) = 1 + (xs.map (nodes n)).sum := rfl
  rw [e]; have := h.2; omega⟩
theorem nodes_pos (n : Nat) (d : PyData) : 1 ≤ nodes n d := by cases n <;> cases d <;> simp [nodes]
theorem BigL.len {n c : Nat} {xs : List PyData} (h : BigL n c xs) : xs.length ≤ c := by
  refine Nat.le_trans ?_ h.2
  have go : ∀ l : List PyData, l.length ≤ (l.map (nodes n)).sum := fun l => by
    induction l with
    | nil => simp
    | cons x l ih =>
      rw [List.map_cons, List.sum_cons, List.length_cons]
      have := nodes_pos n x
      omega
  exact go xs
theorem BigL.mem {n c : Nat} {xs : List PyData} (h : BigL n c xs) {x : PyData} (hx : x ∈ xs) : Big n c x := ⟨h.1 x hx, by
  refine Nat.le_trans ?_ h.2
  clear h
  induction xs with
  | nil => cases hx
  | cons y xs ih =>
    rw [List.map_cons, List.sum_cons]
    rcases List.mem_cons.mp hx with rfl | q
    · omega
    · have := ih q
      omega⟩
theorem BigL.sub {n c : Nat} {xs ys : List PyData} (h : BigL n c xs) (s : ys.Sublist xs) : BigL n c ys := ⟨fun x hx => h.1 x (s.subset hx), by
  refine Nat.le_trans ?_ h.2
  clear h
  induction s with
  | slnil => exact Nat.le_refl _
  | cons a _ ih => rw [List.map_cons, List.sum_cons]; omega
  | cons_cons a _ ih => rw [List.map_cons, List.map_cons, List.sum_cons, List.sum_cons]; omega⟩
theorem Big.none {n : Nat} : Big n 1 .none := ⟨by cases n <;> rfl, by cases n <;> exact Nat.le_refl 1⟩
theorem Big.bool {n : Nat} {b : Bool} : Big n 1 (.bool b) := ⟨by cases n <;> rfl, by cases n <;> exact Nat.le_refl 1⟩
theorem Big.int {n : Nat} {i : Int} (h : -(10 ^ 59) ≤ i ∧ i ≤ 10 ^ 59) : Big n 1 (.int i) := ⟨by cases n <;> (simp only [bOk]; exact decide_eq_true (by omega)), by cases n <;> exact Nat.le_refl 1⟩
local macro_rules | `(tactic| walk_at "gl1") => `(tactic| first
  | walk_at "dl1"
  | with_reducible refine e_isT ?_
  | with_reducible refine k_isTup ?_
  | with_reducible refine k_isLst ?_
  | with_reducible refine k_isStr ?_
  | with_reducible refine k_isBool ?_
  | with_reducible refine k_isInt ?_)
local macro_rules | `(tactic| walk_at "gl") => `(tactic| repeat walk_at "gl1")
local macro_rules | `(tactic| walk_at "dl1") => `(tactic| first
  | with_reducible refine e_wZip ?_
  | with_reducible refine k_zipT ?_
  | with_reducible refine k_zipL ?_
  | with_reducible refine e_wEnum ?_
  | with_reducible refine k_enumT ?_
  | with_reducible refine k_enumL ?_
  | with_reducible refine e_minD ?_
  | with_reducible refine e_ext ?_
  | with_reducible refine e_fAdd ?_
  | ((with_reducible apply k_ext); walk_at "hp"))
local macro_rules | `(tactic| walk_at "dl1") => `(tactic| first
  | ((with_reducible apply r_ixD); walk_at "hp"; exact rfl; (first | exact fv_cells | exact fv_at | exact fv_left | exact fv_turn))
  | ((with_reducible apply k_setD); walk_at "hp"; exact rfl; (show (4 : Nat) < 16777216; decide); (first | rw [fp_at] | rw [fp_left] | rw [fp_turn]))
  | with_reducible refine r_isB ?_
  | with_reducible refine r_notB ?_)
local macro_rules | `(tactic| walk_at "dk") => `(tactic| first | decide +kernel | exact Bool.noConfusion | (intro z; simp at z; done))
local macro_rules | `(tactic| walk_at "sk1") => `(tactic| first
  | walk_at "dl1"
  | with_reducible refine k_tg2 ?_
  | with_reducible refine k_tg3 ?_
  | with_reducible refine k_tg4 ?_
  | with_reducible refine k_tg5 ?_
  | with_reducible refine k_tg6 ?_
  | ((with_reducible refine k_if (fun _ => ?_) (fun z => absurd z ?_)); rotate_left; (focus walk_at "dk"))
  | ((with_reducible refine k_if (fun z => absurd z ?_) (fun _ => ?_)); (focus walk_at "dk"))
  | ((with_reducible refine k_and (fun _ => ?_) (fun z => absurd z ?_)); rotate_left; (focus walk_at "dk"))
  | ((with_reducible refine k_and (fun z => absurd z ?_) (fun _ => ?_)); (focus walk_at "dk"))
  | ((with_reducible refine k_or (fun _ => ?_) (fun z => absurd z ?_)); rotate_left; (focus walk_at "dk"))
  | ((with_reducible refine k_or (fun z => absurd z ?_) (fun _ => ?_)); (focus walk_at "dk"))
  | ((with_reducible refine k_ifE (fun _ => ?_) (fun z => absurd z ?_)); rotate_left; (focus walk_at "dk"))
  | ((with_reducible refine k_ifE (fun z => absurd z ?_) (fun _ => ?_)); (focus walk_at "dk"))
  | ((with_reducible refine k_andV (fun _ => ?_) (fun z => absurd z ?_)); rotate_left; (focus walk_at "dk"))
  | ((with_reducible refine k_andV (fun z => absurd z ?_) (fun _ => ?_)); (focus walk_at "dk"))
  | ((with_reducible refine k_orV (fun _ => ?_) (fun z => absurd z ?_)); rotate_left; (focus walk_at "dk"))
  | ((with_reducible refine k_orV (fun z => absurd z ?_) (fun _ => ?_)); (focus walk_at "dk"))
  | ((with_reducible apply e_isXT (b := false)); exact rfl; (try dsimp only [noW]); (decide +kernel); decide; (try dsimp only [noW]); (decide +kernel))
  | ((with_reducible apply e_isXT (b := true)); exact rfl; (try dsimp only [noW]); (decide +kernel); decide; (try dsimp only [noW]); (decide +kernel))
  | ((with_reducible apply e_isX (b := true)); exact rfl; (try dsimp only [noW]); (decide +kernel))
  | ((with_reducible apply e_isX (b := false)); exact rfl; (try dsimp only [noW]); (decide +kernel))
  | ((with_reducible apply e_xf); exact rfl; (try dsimp only [noW]); (decide +kernel); rfl)
  | with_reducible refine e_raise ?_
  | with_reducible refine k_raise ?_
  | with_reducible refine tryAs_mk ?_)
local macro_rules | `(tactic| walk_at "sk") => `(tactic| repeat walk_at "sk1")

local macro_rules | `(tactic| walk_at "dl1") => `(tactic| first
  | with_reducible refine e_isT ?_
  | with_reducible refine k_isTup ?_
  | with_reducible refine k_isLst ?_
  | with_reducible refine k_isStr ?_
  | with_reducible refine k_isBool ?_
  | with_reducible refine k_isInt ?_
  | with_reducible refine e_revA ?_
  | with_reducible refine e_sortSetQ ?_
  | with_reducible refine e_wEnum ?_
  | with_reducible refine k_enumT ?_
  | with_reducible refine e_dc ?_
  | with_reducible refine e_tupRg ?_
  | with_reducible refine e_raise2 ?_
  | with_reducible refine k_raise2 ?_
  | ((with_reducible apply r_ixD); walk_at "hp"; exact rfl; (first | exact fv_cells | exact fv_at | exact fv_left | exact fv_turn))
  | ((with_reducible apply k_setD); walk_at "hp"; exact rfl; (show (4 : Nat) < 16777216; decide); (first | rw [fp_at] | rw [fp_left] | rw [fp_turn])))

local macro_rules | `(tactic| walk_at "dl1") => `(tactic| first
  | with_reducible refine e_fld ?_
  | with_reducible refine e_callK ?_
  | with_reducible refine e_sfld ?_
  | with_reducible refine e_meth ?_
  | with_reducible refine e_appS ?_
  | with_reducible refine e_unpL ?_
  | with_reducible refine e_popQ ?_
  | with_reducible refine e_lenI ?_
  | with_reducible refine e_lstZip ?_
  | with_reducible refine k_zip1 ?_
  | with_reducible refine e_revF ?_)

/-! ### k29 -/
/-! sorted sets -/
/-! pieces -/
def cntN (len m : Nat) : Nat := if len = 0 then 0 else (len - 1) / m + 1
theorem cnt_le {len m : Nat} : cntN len m ≤ len := by
  unfold cntN
  split
  · omega
  · have := Nat.div_le_self (len - 1) m
    omega
theorem size_cnt {len m : Nat} (hm : 1 ≤ m) : Builtin.Range.rangeSize 0 (len : Int) (m : Int) = (cntN len m : Nat) := by
  unfold Builtin.Range.rangeSize cntN
  rw [if_pos (by omega)]
  by_cases q : len = 0
  · rw [if_pos q, if_neg (by omega)]
    rfl
  · rw [if_neg q, if_pos (by omega)]
    have e : ((len : Int) - 0 - 1) = ((len - 1 : Nat) : Int) := by omega
    rw [e]
    rfl
theorem cut_mid {xs : List PyData} {a b : Nat} : cutD xs (some (a : Int)) (some (b : Int)) = (xs.drop a).take (b - a) := by
  unfold cutD
  rw [HT.sIx_nat, HT.sIx_nat]
  by_cases q : a ≤ xs.length
  · rw [Nat.min_eq_left q]
    exact List.take_eq_take_iff.mpr (by rw [List.length_drop]; omega)
  · rw [Nat.min_eq_right (show xs.length ≤ a by omega), List.drop_length, List.drop_eq_nil_of_le (show xs.length ≤ a by omega)]
    simp
theorem cut_toN {xs : List PyData} {n : Nat} : cutD xs none (some (n : Int)) = xs.take n := by
  unfold cutD
  rw [HT.sIx_nat, HT.sIx_none, List.drop_zero, Nat.sub_zero]
  exact List.take_eq_take_iff.mpr (by omega)
/-! entries and their texts -/
structure Ent (k : List Int) : Prop where
  three : k.length = 3
  small : ∀ x ∈ k, -40 ≤ x ∧ x ≤ 40
theorem Ent.sOk {n : Nat} {k : List Int} (e : Ent k) : sOk (n + 1) (tupN k) = true := sOk_tup (sOk_ints fun x hx => by have := e.small x hx; omega)
structure Lot (ks : List (List Int)) : Prop where
  len : ks.length ≤ 40
  ent : ∀ k ∈ ks, Ent k
theorem Lot.shaped {ks : List (List Int)} (l : ∀ k ∈ ks, Ent k) : SeqAt.shaped (.list (ks.map tupN)) = true := by
  refine shaped_ok (n := 2) (by decide) (sOk_dOk _ _ (sOk_lst fun d hd => ?_))
  obtain ⟨k, hk, rfl⟩ := List.mem_map.mp hd
  exact (l k hk).sOk
/-! draws -/
def FdA (sc : List Int) (C : Int) (o : MO) : Prop := ∃ i p j : Int, o = .lst [.list (sc.map PyData.int), .int i, .int p, .int j] ∧ 0 ≤ i ∧ i ≤ C ∧ 0 ≤ p ∧ 0 ≤ j
theorem FdA.up {sc : List Int} {C C' : Int} {o : MO} (f : FdA sc C o) (h : C ≤ C') : FdA sc C' o := by
  obtain ⟨i, p, c, e, a, b, d⟩ := f
  exact ⟨i, p, c, e, a, by omega, d⟩
theorem pow_c3 {x c : Int} (h0 : 0 ≤ c) (h1 : c ≤ 10 ^ 6) : CPow (x.fmod 1000003 + 613 * c * (c + 7) + 17) 5 := by
  obtain ⟨z1, z2⟩ := fmod_in (i := x) (m := 1000003) (by decide)
  have a1 : 0 ≤ 613 * c * (c + 7) := Int.mul_nonneg (by omega) (by omega)
  have a2 : 613 * c * (c + 7) ≤ (613 * 10 ^ 6) * (10 ^ 6 + 7) := Int.mul_le_mul (by omega) (by omega) (by omega) (by omega)
  generalize 613 * c * (c + 7) = y at *
  exact ⟨by omega, by omega, by omega⟩
theorem pow_c4 {x c : Int} (h0 : 0 ≤ c) (h1 : c ≤ 10 ^ 6) : CPow (x.fmod 2147483647 + 4099 * c) 5 := by
  obtain ⟨z1, z2⟩ := fmod_in (i := x) (m := 2147483647) (by decide)
  exact ⟨by omega, by omega, by omega⟩
section
variable {h : MH} {Q : DK} {E : DXK}
theorem wA_feed {ns : List Int} (k : ∀ p o, h p = none → FdA (ns.take 63) 0 o → Q (.own p) (mput h p o)) : W__law_feed [.d (.list (ns.map PyData.int))] h Q E := by
  refine fnW_mk rfl ?_
  unfold t__law_feed
  show dRet _ _ [some (.d (.list (ns.map PyData.int)))] h
  walk_at "dl"
  have e : cutD (ns.map PyData.int) none (some 63) = (ns.take 63).map PyData.int := by
    rw [show (63 : Int) = ((63 : Nat) : Int) from rfl, cut_toN, List.map_take]
  rw [e]
  intro p hp
  refine e_rt ?_
  rw [restr_new hp]
  exact k p _ hp ⟨0, 0, 0, rfl, by omega, by omega, by omega, by omega⟩
theorem wA_draw {a : Addr} {o : MO} {sc : List Int} {C m : Int} (ha : h a = some o) (F : FdA sc C o) (hC : C ≤ 10 ^ 5) (hm : 1 ≤ m ∧ m ≤ 10 ^ 6)
    (k : ∀ v o', 0 ≤ v → v < m → FdA sc (C + 1) o' → Q (.d (.int v)) (mput h a o')) : W__law_draw [.own a, .d (.int m)] h Q E := by
  obtain ⟨i, p, j, rfl, hi, hiC, hp, hj⟩ := F
  have hsome : (h a).isSome = true := by rw [ha]; rfl
  have fin : ∀ (v : Int) (i' p' c' : Int), 0 ≤ v → v < m → 0 ≤ i' → i' ≤ C + 1 → 0 ≤ p' → 0 ≤ c' → Q (.d (.int v)) (restr h (mput h a (.lst [.list (sc.map PyData.int), .int i', .int p', .int c'])) (.d (.int v))) := fun v i' p' c' h1 h2 h3 h4 h5 h6 => by
    rw [restr_putd hsome, restr_self]
    exact k v _ h1 h2 ⟨i', p', c', rfl, h3, h4, h5, h6⟩
  have md : ∀ j : Int, 0 ≤ j.fmod m ∧ j.fmod m < m := fun j => fmod_in hm.1
  refine fnW_mk rfl ?_
  unfold t__law_draw
  show dSeq _ _ _ [some (.own a), some (.d (.int m)), none, none, none] h
  walk_at "dl"
  refine wh_inv (fun n σ h' => ∃ (p j : Int) (x2 : Option SV), σ = [some (.own a), some (.d (.int m)), x2, none, none] ∧ h' = mput h a (.lst [.list (sc.map PyData.int), .int (i + 1), .int p, .int j]) ∧ 0 ≤ p ∧ 0 ≤ j ∧ (sc.length : Int) - j ≤ n) ?_ sc.length _ _
    ⟨p, j, none, rfl, rfl, hp, hj, by omega⟩
  rintro n σ h' K ⟨p, j, x2, rfl, rfl, hp, hj, hn⟩ hK
  have rest : dSeq (dIfS (dTest (dOp rdGt (dOp rdIx (dVar 0) (dC (.int 2))) (dC (.int 0)))) (dSeq (dAsg (dOp rdMod (dOp rdIx (dVar 0) (dC (.int 2))) (dVar 1)) (.nm 4))
      (dSeq (dSetIx (dOp rdDiv (dOp rdIx (dVar 0) (dC (.int 2))) (dVar 1)) (dVar 0) (dC (.int 2)))
      (dRet (dVar 4)))) dNext)
      (dSeq (dAsg (dIf (dTest (dOp rdNe (dOp rdIx (dVar 0) (dC (.int 0))) (dL (fLst dNil)))) (dOp rdIx (dOp rdIx (dVar 0) (dC (.int 0))) (dOp rdMod (dOp rdIx (dVar 0) (dC (.int 1))) (dB rdLen (dCons (dOp rdIx (dVar 0) (dC (.int 0))) dNil)))) (dC (.int 5))) (.nm 2))
      (dSeq (dAsg (dOp rdMod (dOp rdPow (dOp rdAdd (dOp rdAdd (dOp rdMod (dVar 2) (dC (.int 1000003))) (dOp rdMul (dOp rdMul (dC (.int 613)) (dOp rdIx (dVar 0) (dC (.int 1)))) (dOp rdAdd (dOp rdIx (dVar 0) (dC (.int 1))) (dC (.int 7))))) (dC (.int 17))) (dC (.int 5))) (dC (.int 2147483647))) (.nm 3))
      (dRet (dOp rdMod (dOp rdDiv (dOp rdMod (dOp rdPow (dOp rdAdd (dVar 3) (dOp rdMul (dC (.int 4099)) (dOp rdIx (dVar 0) (dC (.int 1))))) (dC (.int 5))) (dC (.int 2147483587))) (dC (.int 7))) (dVar 1)))))
      (dEnd h Q) [some (.own a), some (.d (.int m)), x2, none, none] (mput h a (.lst [.list (sc.map PyData.int), .int (i + 1), .int p, .int j])) := by
    walk_at "dl"
    refine k_if (fun q => ?_) fun q => ?_
    · walk_at "dl"
      have q2 : 0 < p := of_decide_eq_true q
      exact fin _ _ _ _ (md _).1 (md _).2 (by omega) (by omega) (Int.fdiv_nonneg (by omega) (by omega)) (by omega)
    · walk_at "dl"
      try refine r_ne rfl rfl (shaped_ints _) rfl ?_
      walk_at "dl"
      refine k_ifE (fun q2 => ?_) fun q2 => ?_
      case' refine_1 =>
        have hn : 1 ≤ sc.length := by
          cases sc with
          | nil => simp [PyData.eqv, PyData.eqvAll] at q2
          | cons _ _ => simp
        walk_at "dl"
        obtain ⟨z1, z2⟩ := fmod_in (i := i + 1) (m := ((sc.map PyData.int).length : Nat)) (by rw [List.length_map]; omega)
        refine r_mod (by rw [List.length_map]; omega) ?_
        obtain ⟨x, hx⟩ := at_ints (ns := sc) z1 (by simpa using z2)
        refine r_ixL hx ?_
        clear z1 z2 hx
      all_goals
        walk_at "dl"
        refine r_pow (pow_c3 (by omega) (by omega)) ?_
        walk_at "dl"
        refine r_pow (pow_c4 (by omega) (by omega)) ?_
        walk_at "dl"
        exact fin _ _ _ _ (md _).1 (md _).2 (by omega) (by omega) (by omega) (by omega)
  walk_at "dl"
  refine k_and (fun q => ?_) fun q => k_wh (fun z => by cases z) fun _ => rest
  walk_at "dl"
  refine k_wh (fun q2 => ?_) fun _ => rest
  have q3 : j < ((sc.map PyData.int).length : Nat) := of_decide_eq_true q2
  rw [List.length_map] at q3
  obtain ⟨x, hx⟩ := at_ints (ns := sc) hj q3
  walk_at "dl"
  refine r_ixL hx ?_
  walk_at "dl"
  refine b_abs ?_
  walk_at "dl"
  have h0 : 0 ≤ (if x < 0 then -x else x) := by split <;> omega
  generalize (if x < 0 then -x else x) = y at *
  refine hK (n - 1) _ _ (by omega) ⟨_, j + 1, _, rfl, rfl, Int.mul_nonneg h0 (by split <;> decide), by omega, by omega⟩
theorem w_entry {a : Addr} {o : MO} {sc : List Int} {C b : Int} (ha : h a = some o) (F : FdA sc C o) (hC : C ≤ 10 ^ 4) (hb : 3 ≤ b ∧ b ≤ 40)
    (k : ∀ e o', Ent e → FdA sc (C + 3) o' → Q (.d (tupN e)) (mput h a o')) : W__law_entry [.own a, .d (.int b)] h Q E := by
  have hsome : (h a).isSome = true := by rw [ha]; rfl
  refine fnW_mk rfl ?_
  unfold t__law_entry
  show dRet _ _ [some (.own a), some (.d (.int b))] h
  walk_at "dl"
  refine wA_draw ha F (by omega) ⟨by omega, by omega⟩ fun v1 o1 a1 a2 F1 => ?_
  walk_at "dl"
  refine wA_draw put_same F1 (by omega) ⟨by decide, by decide⟩ fun v2 o2 b1 b2 F2 => ?_
  rw [put_put]
  walk_at "dl"
  refine wA_draw put_same F2 (by omega) ⟨by decide, by decide⟩ fun v3 o3 c1 c2 F3 => ?_
  rw [put_put]
  walk_at "dl"
  rw [restr_putd hsome, restr_self]
  have d1 : 0 ≤ b.fdiv 3 := Int.fdiv_nonneg (by omega) (by omega)
  have d2 : b.fdiv 3 ≤ 14 := by
    rw [Int.fdiv_eq_ediv_of_nonneg _ (by decide)]
    omega
  refine k [v1 - b.fdiv 3, v2, v3] o3 ⟨rfl, fun x hx => ?_⟩ (F3.up (by omega))
  simp only [List.mem_cons, List.not_mem_nil, or_false] at hx
  rcases hx with rfl | rfl | rfl <;> omega
end
theorem eqvA_ints : ∀ k l : List Int, PyData.eqvAll (k.map PyData.int) (l.map PyData.int) = decide (k = l)
  | [], [] => by simp [PyData.eqvAll]
  | [], _ :: _ => by simp [PyData.eqvAll]
  | _ :: _, [] => by simp [PyData.eqvAll]
  | x :: k, y :: l => by
    have ih := eqvA_ints k l
    rw [List.map_cons, List.map_cons]
    simp only [PyData.eqvAll, eqv_int, ih]
    by_cases h1 : x = y <;> by_cases h2 : k = l <;> simp [h1, h2]
theorem eqv_tupN (k l : List Int) : PyData.eqv (tupN k) (tupN l) = decide (k = l) := by
  unfold tupN
  simp only [PyData.eqv]
  exact eqvA_ints k l
theorem dep_tupN (k : List Int) : (tupN k).depth ≤ 60 := Nat.le_trans (dOk_ok 1 (tupN k) (by
  show (k.map PyData.int).all (dOk 0) = true
  rw [List.all_map]
  exact List.all_eq_true.mpr fun x _ => rfl)).2 (by decide)

/-! ### pages that lead on to the right: plain law -/
abbrev Ky := List Int
abbrev ltK (a b : Ky) : Prop := lexL a b = true
theorem ltK_irr {a : Ky} (h : ltK a a) : False := by
  have h' : lexL a a = true := h
  rw [lex_irr] at h'; cases h'
theorem ltK_asym {a b : Ky} (h : ltK a b) (z : ltK b a) : False := by
  have z' : lexL b a = true := z
  rw [lex_asym _ _ h] at z'; cases z'
theorem leK_lt {a b c : Ky} (h1 : lexL b a = false) (h2 : ltK b c) : ltK a c := by
  have z := lex_trans a b c h1 (lex_asym _ _ h2)
  cases q : lexL a c with
  | true => exact q
  | false =>
    have e := lex_total a c q z
    subst e
    have h2' : lexL b a = true := h2
    rw [h1] at h2'; cases h2'
theorem ltK_le {a b c : Ky} (h1 : ltK a b) (h2 : lexL c b = false) : ltK a c := by
  have z := lex_trans a b c (lex_asym _ _ h1) h2
  cases q : lexL a c with
  | true => exact q
  | false =>
    have e := lex_total a c q z
    subst e
    have h1' : lexL a b = true := h1
    rw [h2] at h1'; cases h1'
theorem ltK_trans {a b c : Ky} (h1 : ltK a b) (h2 : ltK b c) : ltK a c := ltK_le h1 (lex_asym _ _ h2)
/-- low bounds -/
def ltO : Option Ky → Option Ky → Prop
  | none, some _ => True
  | some a, some b => ltK a b
  | _, none => False
def leO : Option Ky → Ky → Prop
  | none, _ => True
  | some a, e => lexL e a = false
def gtO (e : Ky) : Option Ky → Prop
  | none => False
  | some a => ltK e a
structure Pg where
  lev : Nat
  low : Option Ky
  ents : List Ky
  kids : List (Option Ky × Nat)
  right : Option Nat
abbrev Rw := List (Nat × Pg)
def Links : Rw → Prop
  | [] => True
  | [x] => x.2.right = none
  | x :: y :: r => x.2.right = some y.1 ∧ Links (y :: r)
structure RowOk (k : Nat) (R : Rw) : Prop where
  lev : ∀ x ∈ R, x.2.lev = k
  head : (R.head?.bind fun x => x.2.low) = none
  low : R.Pairwise fun x y => ltO x.2.low y.2.low
  links : Links R
  ne : R ≠ []
structure LeafOk (R : Rw) : Prop where
  srt : ∀ x ∈ R, x.2.ents.Pairwise ltK
  lo : ∀ x ∈ R, ∀ e ∈ x.2.ents, leO x.2.low e
  hi : R.Pairwise fun x y => ∀ e ∈ x.2.ents, gtO e y.2.low
def kidOf (x : Nat × Pg) : Option Ky × Nat := (x.2.low, x.1)
structure UpOk (R R' : Rw) : Prop where
  flat : R.flatMap (fun x => x.2.kids) = R'.map kidOf
  kne : ∀ x ∈ R, ∃ q r, x.2.kids = (x.2.low, q) :: r
def Ok : Nat → List Rw → Prop
  | _, [] => False
  | k, [R] => RowOk k R ∧ ∃ x, R = [x]
  | k, R :: U :: r => RowOk k R ∧ UpOk U R ∧ Ok (k + 1) (U :: r)
/-! links -/
/-! a page in a row is cut in two -/
structure Tr (rs : List Rw) (n : Nat) : Prop where
  ok : Ok 0 rs
  leaf : ∀ R T, rs = R :: T → LeafOk R
  nd : (rs.flatten.map (·.1)).Nodup
  lt : ∀ x ∈ rs.flatten, x.1 < n
  all : rs.flatten.length = n
def leafR : List Rw → Rw
  | R :: _ => R
  | [] => []
def keysR (R : Rw) : List Ky := R.flatMap fun x => x.2.ents
/-! cuts: what they want -/
/-! ### ways down -/
/-! ### leaves -/
theorem keys_srt {R : Rw} (h : LeafOk R) : (keysR R).Pairwise ltK := by
  unfold keysR
  rw [List.pairwise_flatMap]
  refine ⟨h.srt, ?_⟩
  have lo := h.lo
  refine h.hi.imp_of_mem fun {x y} hx hy z k hk k' hk' => ?_
  have a := z k hk
  have b := lo y hy k' hk'
  cases q : y.2.low with
  | none => rw [q] at a; exact a.elim
  | some c => rw [q] at a b; exact ltK_le a b
theorem srt_uniq {l m : List Ky} (h1 : l.Pairwise ltK) (h2 : m.Pairwise ltK) (h : ∀ k, k ∈ l ↔ k ∈ m) : l = m := by
  have nd : ∀ {l : List Ky}, l.Pairwise ltK → l.Nodup := fun h => h.imp fun {a b} (z : ltK a b) (e : a = b) => by subst e; exact ltK_irr z
  have n1 := nd h1
  have n2 := nd h2
  have p : l.Perm m := (List.perm_ext_iff_of_nodup n1 n2).mpr h
  exact p.eq_of_pairwise (le := ltK) (fun a b _ _ z1 z2 => (ltK_asym z1 z2).elim) h1 h2
/-! ### a way, from the leaf up -/
/-! ### pages in the heap -/
def lowD : Option Ky → PyData
  | none => .none
  | some k => tupN k
def rgtD : Option Nat → PyData
  | none => .none
  | some n => .int (n : Nat)
def kidD (o : Option Ky × Nat) : PyData := .tuple [lowD o.1, .int (o.2 : Nat)]
def thD (g : Pg) : List PyData := if g.lev = 0 then g.ents.map tupN else g.kids.map kidD
def rowO (g : Pg) (b : Addr) : MO := .seq [.d (.int (g.lev : Nat)), .d (lowD g.low), .own b, .d (rgtD g.right)]
structure TreeH (h : MH) (t r : Addr) (as bs : List Addr) (W top : Nat) (L : List (Nat × Pg)) : Prop where
  ins : h t = some (.ins "Tree" [("widest", .d (.int (W : Nat))), ("rows", .own r), ("top", .d (.int (top : Nat)))])
  rows : h r = some (.seq (as.map SV.own))
  len : as.length = bs.length
  pg : ∀ x ∈ L, ∃ a b, as[x.1]? = some a ∧ bs[x.1]? = some b ∧ h a = some (rowO x.2 b) ∧ h b = some (.lst (thD x.2))
  al : ∀ a ∈ as ++ bs, (h a).isSome = true
  nd : (t :: r :: (as ++ bs)).Nodup
structure TreeAt (h : MH) (t r : Addr) (as bs : List Addr) (W top : Nat) (rs : List Rw) : Prop extends TreeH h t r as bs W top rs.flatten where
  tp : ∃ g, rs.getLast? = some [(top, g)]
section
variable {h h' : MH} {t r p : Addr} {as bs : List Addr} {W top : Nat} {L : List (Nat × Pg)} {rs : List Rw}
theorem TreeH.all (T : TreeH h t r as bs W top L) : ∀ a ∈ t :: r :: (as ++ bs), (h a).isSome = true := fun a ha => by
  simp only [List.mem_cons] at ha
  rcases ha with rfl | rfl | ha
  · rw [T.ins]; rfl
  · rw [T.rows]; rfl
  · exact T.al a ha
theorem TreeH.sub {L' : List (Nat × Pg)} (T : TreeH h t r as bs W top L) (s : ∀ x ∈ L', x ∈ L) : TreeH h t r as bs W top L' := ⟨T.ins, T.rows, T.len, fun x hx => T.pg x (s x hx), T.al, T.nd⟩
end
theorem intsD_map (ns : List Int) : intsD (ns.map PyData.int) = some ns := by
  induction ns with
  | nil => rfl
  | cons n ns ih => rw [List.map_cons, intsD, ih]
theorem cmp_lt : ∀ (a b : List Int) (n m : Nat), cmpT (fun i j => decide (i < j)) (decide (a.length + n < b.length + n)) a b = lexL a b
  | [], [], n, m => by simp [cmpT, lexL]
  | [], y :: ys, n, m => by simp [cmpT, lexL]
  | x :: xs, [], n, m => by simp [cmpT, lexL]
  | x :: xs, y :: ys, n, m => by
    have ih := cmp_lt xs ys (n + 1) m
    unfold cmpT lexL
    by_cases e : x = y
    · rw [if_pos e, if_pos e, ← ih]
      congr 1
      simp only [List.length_cons]
      congr 1
      rw [Nat.add_assoc, Nat.add_assoc, Nat.add_comm 1 n]
    · rw [if_neg e, if_neg e]
section
variable {h : MH} {Q : DK} {E : DXK} {t r : Addr} {as bs : List Addr} {W top n : Nat} {rs : List Rw}
theorem r_ltK {a b : Ky} {h : MH} {Q : DK} (k : Q (.d (.bool (lexL a b))) h) : rdLt (.d (tupN a)) (.d (tupN b)) h Q := by
  refine r_cmpT (intsD_map a) (intsD_map b) ?_
  have := cmp_lt a b 0 0
  rw [Nat.add_zero, Nat.add_zero] at this
  rw [this]
  exact k
end

section
variable {h : MH} {Q : DK} {E : DXK} {t r : Addr} {as bs : List Addr} {W top n : Nat} {rs : List Rw}
end

section
variable {h : MH} {Q : DK} {E : DXK} {t r : Addr} {as bs : List Addr} {W top n : Nat} {rs : List Rw}
end

/-! ### pages are written -/
structure Ext (h h' : MH) (t r : Addr) (as bs as' bs' : List Addr) : Prop where
  old : ∀ a, (h a).isSome = true → a ∉ t :: r :: (as ++ bs) → h' a = h a
  new : ∀ a ∈ as' ++ bs', a ∈ as ++ bs ∨ h a = none
  mono : ∀ a, (h a).isSome = true → (h' a).isSome = true
theorem Ext.trans {h h1 h2 : MH} {t r : Addr} {as bs as1 bs1 as2 bs2 : List Addr} (a : Ext h h1 t r as bs as1 bs1) (b : Ext h1 h2 t r as1 bs1 as2 bs2) : Ext h h2 t r as bs as2 bs2 := by
  refine ⟨fun x hx n => ?_, fun x hx => ?_, fun x hx => b.mono x (a.mono x hx)⟩
  · rw [b.old x (a.mono x hx) fun z => ?_, a.old x hx n]
    simp only [List.mem_cons] at z n
    rcases z with z | z | z
    · exact n (.inl z)
    · exact n (.inr (.inl z))
    · rcases a.new x z with y | y
      · exact n (.inr (.inr y))
      · rw [y] at hx; cases hx
  · rcases b.new x hx with y | y
    · exact a.new x y
    · refine .inr ?_
      cases q : h x with
      | none => rfl
      | some o =>
        have := a.mono x (by rw [q]; rfl)
        rw [y] at this; cases this
section
variable {h : MH} {t r a1 b1 a2 b2 : Addr} {as bs : List Addr} {W top p : Nat} {L : List (Nat × Pg)} {g g' : Pg}
end

/-! ### name_page, split_up -/
section
variable {h : MH} {Q : DK} {E : DXK} {t r : Addr} {as bs : List Addr} {W top n p : Nat} {rs : List Rw} {L : List (Nat × Pg)} {g gy : Pg}
end

/-! ### split_up -/
section
variable {h : MH} {Q : DK} {E : DXK} {t r : Addr} {as bs : List Addr} {W top n p : Nat} {rs : List Rw} {L : List (Nat × Pg)} {g gy : Pg}
/-- leaves stay, each from its low on -/
def Kp (rs rs' : List Rw) : Prop := ∀ p g, (p, g) ∈ leafR rs → ∃ g' : Pg, (p, g') ∈ leafR rs' ∧ g'.low = g.low
theorem Kp.trans {a b c : List Rw} (x : Kp a b) (y : Kp b c) : Kp a c := fun p g h => by
  obtain ⟨g1, h1, e1⟩ := x p g h
  obtain ⟨g2, h2, e2⟩ := y p g1 h1
  exact ⟨g2, h2, e2.trans e1⟩
/-! how full pages are -/
structure PgFit (M : Nat) (g : Pg) : Prop where
  few : (thD g).length ≤ M
  ents : ∀ k ∈ g.ents, k.length = 3
  low : ∀ k, g.low = some k → k.length = 3
  kids : ∀ o ∈ g.kids, ∀ k, o.1 = some k → k.length = 3
theorem PgFit.up {M N : Nat} {g : Pg} (f : PgFit M g) (l : M ≤ N) : PgFit N g := ⟨Nat.le_trans f.few l, f.ents, f.low, f.kids⟩
end

/-! ### put, take, a new tree -/
section
variable {h : MH} {Q : DK} {E : DXK} {t r : Addr} {as bs : List Addr} {W top n p : Nat} {rs : List Rw} {g : Pg}
theorem keys_len {rs : List Rw} {n : Nat} (tr : Tr rs n) : (keysR (leafR rs)).Pairwise ltK := by
  cases rs with
  | nil => exact List.Pairwise.nil
  | cons R Tl => exact keys_srt (tr.leaf _ _ rfl)
theorem srt_nodup {l : List Ky} (h : l.Pairwise ltK) : l.Nodup := h.imp fun {a b} (z : ltK a b) (e : a = b) => by subst e; exact ltK_irr z
end

/-! ### a new tree; deeds done, looked at -/
section
variable {h : MH} {Q : DK} {E : DXK} {t r : Addr} {as bs : List Addr} {W top n p : Nat} {rs : List Rw} {g : Pg}
/-! a tree beside a dict -/
structure KeyOk (k : Ky) : Prop where
  three : k.length = 3
  small : ∀ x ∈ k, -(10 ^ 45) ≤ x ∧ x ≤ 10 ^ 45
abbrev PSt := List (List Int × PyData)
structure Both (h : MH) (t r kd : Addr) (as bs : List Addr) (W top : Nat) (rs : List Rw) (ps : PSt) (j : Nat) : Prop where
  tree : TreeAt h t r as bs W top rs
  tr : Tr rs as.length
  kn : h kd = some (.dcT kd ps)
  out : kd ∉ t :: r :: (as ++ bs)
  nd : (ps.map (·.1)).Nodup
  eq : ∀ x, x ∈ keysR (leafR rs) ↔ x ∈ ps.map (·.1)
  ok : ∀ x ∈ ps.map (·.1), KeyOk x
  wide : 2 ≤ W
  n1 : as.length ≤ 1 + 50 * j
  n2 : rs.length ≤ 1 + j
  n3 : (keysR (leafR rs)).length ≤ j
theorem look_mem {ps : PSt} {x : Ky} : (lookQ ps x).isSome = decide (x ∈ ps.map (·.1)) := by
  unfold lookQ
  induction ps with
  | nil => simp
  | cons p ps ih =>
    rw [List.find?_cons, List.map_cons]
    by_cases e : p.1 = x
    · rw [decide_eq_true e, decide_eq_true (by rw [e]; exact List.mem_cons_self)]
      rfl
    · rw [decide_eq_false e]
      dsimp only
      rw [ih]
      refine decide_eq_decide.mpr ⟨fun y => List.mem_cons_of_mem _ y, fun y => ?_⟩
      rcases List.mem_cons.mp y with y | y
      · exact (e y.symm).elim
      · exact y
theorem set_keys {ps : PSt} {x : Ky} {d : PyData} : (setQd ps x d).map (·.1) = if x ∈ ps.map (·.1) then ps.map (·.1) else ps.map (·.1) ++ [x] := by
  unfold setQd
  rw [look_mem]
  by_cases q : x ∈ ps.map (·.1)
  · rw [if_pos (decide_eq_true q), if_pos q, List.map_map]
    refine List.map_congr_left fun p _ => ?_
    show (if p.1 = x then (p.1, d) else p).1 = p.1
    split <;> rfl
  · rw [if_neg (by rw [decide_eq_false q]; decide), if_neg q, List.map_append]
    rfl
theorem Both.len {h : MH} {t r kd : Addr} {as bs : List Addr} {W top : Nat} {rs : List Rw} {ps : PSt} {j : Nat} (B : Both h t r kd as bs W top rs ps j) : ps.length = (keysR (leafR rs)).length := by
  have p : (keysR (leafR rs)).Perm (ps.map (·.1)) := (List.perm_ext_iff_of_nodup (srt_nodup (keys_len B.tr)) B.nd).mpr B.eq
  rw [p.length_eq, List.length_map]
end

/-! ### unlike entries, rising -/
theorem put_own {h : MH} {a : Addr} {o : MO} (e : h a = some o) : mput h a o = h := by
  funext x
  by_cases q : x = a
  · rw [q, put_same, e]
  · rw [put_other q]
theorem k_sstR {ks : List (List Int)} {h : MH} {QL : List PyData → MH → Prop} (hl : ks.length < 64) (m : Nat) (hm : 1 ≤ m) (h2 : ∀ k ∈ ks, k.length = m) (k : ∀ ms : List Ky, ms.Pairwise ltK → (∀ k, k ∈ ms ↔ k ∈ ks) → QL (ms.map tupN) h) : sstK QL (.d (.list (ks.map tupN))) h := ⟨ks, m, rfl, hl, hm, h2, fun ms a b => k ms a b⟩
section
variable {h : MH} {Q : DK} {E : DXK} {a : Addr} {o : MO} {sc : List Int} {C b : Int}
end

/-! ### a tree's state -/
theorem tupI_N {k : Ky} : tupI (.d (tupN k)) = some k := intsD_map k
structure TSt where
  r : Addr
  as : List Addr
  bs : List Addr
  W : Nat
  top : Nat
  rs : List Rw
def TSt.keys (S : TSt) : List Ky := keysR (leafR S.rs)
def TSt.reg (S : TSt) (t : Addr) : List Addr := t :: S.r :: (S.as ++ S.bs)
structure TS (h : MH) (t : Addr) (S : TSt) (j : Nat) : Prop where
  tree : TreeAt h t S.r S.as S.bs S.W S.top S.rs
  tr : Tr S.rs S.as.length
  wide : 2 ≤ S.W
  n1 : S.as.length ≤ 1 + 230 * j
  n2 : S.rs.length ≤ 1 + j
  n3 : S.keys.length ≤ j
structure ExT (h h' : MH) (t : Addr) (S S' : TSt) : Prop where
  old : ∀ a, (h a).isSome = true → a ∉ S.reg t → h' a = h a
  new : ∀ a ∈ S'.reg t, a ∈ S.reg t ∨ h a = none
  mono : ∀ a, (h a).isSome = true → (h' a).isSome = true
  wid : S'.W = S.W
theorem ExT.out {h h' : MH} {t a : Addr} {S S' : TSt} (x : ExT h h' t S S') (al : (h a).isSome = true) (n : a ∉ S.reg t) : a ∉ S'.reg t ∧ h' a = h a := by
  refine ⟨fun z => ?_, x.old a al n⟩
  rcases x.new a z with y | y
  · exact n y
  · rw [y] at al; cases al
theorem ExT.of {h h' : MH} {t r : Addr} {as bs as' bs' : List Addr} {W top top' : Nat} {rs rs' : List Rw} (x : Ext h h' t r as bs as' bs') : ExT h h' t ⟨r, as, bs, W, top, rs⟩ ⟨r, as', bs', W, top', rs'⟩ := by
  refine ⟨x.old, fun a ha => ?_, x.mono, rfl⟩
  unfold TSt.reg at ha ⊢
  simp only [List.mem_cons] at ha ⊢
  rcases ha with ha | ha | ha
  · exact .inl (.inl ha)
  · exact .inl (.inr (.inl ha))
  · rcases x.new a ha with y | y
    · exact .inl (.inr (.inr y))
    · exact .inr y
section
variable {h h' : MH} {Q : DK} {E : DXK} {t c : Addr} {S : TSt} {j : Nat} {lo tl : Option Ky} {p : Nat}
theorem TS.al (T : TS h t S j) : ∀ a ∈ S.reg t, (h a).isSome = true := T.tree.toTreeH.all
theorem TS.far (T : TS h t S j) (n : h c = none) : c ∉ S.reg t := fun z => by
  have q := T.al c z
  rw [n] at q; cases q
theorem TS.up {i : Nat} (T : TS h t S j) (l : j ≤ i) : TS h t S i := ⟨T.tree, T.tr, T.wide, by have := T.n1; omega, by have := T.n2; omega, by have := T.n3; omega⟩
theorem TS.srt (T : TS h t S j) : S.keys.Pairwise ltK := keys_len T.tr
end

/-! ### a tree paper: what pages tells, and what it is -/
section
variable {h : MH} {Q : DK} {E : DXK} {t r : Addr} {as bs : List Addr} {W top n p M : Nat} {rs : List Rw} {gs : List Pg} {g : Pg}
theorem w_is_entry {c : Ky} (l3 : c.length = 3) (k : Q (.d (.bool true)) h) : W_is_entry [.d (tupN c)] h Q E := by
  refine fnW_mk rfl ?_
  unfold t_is_entry
  show dRet _ _ [some (.d (.tuple (c.map PyData.int))), none] h
  walk_at "dl"
  refine k_andV (fun _ => ?_) fun z => by cases z
  walk_at "dl"
  refine k_andV (fun _ => ?_) fun z => absurd (of_decide_eq_false z) (by rw [List.length_map, l3]; simp)
  walk_at "dl"
  refine ⟨by rw [sizeLine_eq, List.length_map]; omega, ?_⟩
  refine lc_enc (enc := PyData.int) (out := fun _ => PyData.bool true) (fun _ => true) (fun v hv => ⟨_, rfl, fun K hK => ?_, fun _ K hK => ?_⟩) ?_
  · walk_at "dl"
    exact hK
  · walk_at "dl"
    refine w_is_number ?_
    walk_at "dl"
    exact hK
  walk_at "dl"
  refine b_allT ?_
  walk_at "dl"
  rw [restr_self]
  exact k
end

/-! ### k24: trees compared, their texts -/
theorem shaped_tupP {ks : List (List Int)} : SeqAt.shaped (.tuple (ks.map tupN)) = true := shaped_ok (n := 2) (by decide) (by
  show (ks.map tupN).all (dOk 1) = true
  rw [List.all_map]
  refine List.all_eq_true.mpr fun k _ => ?_
  show (k.map PyData.int).all (dOk 0) = true
  rw [List.all_map]
  exact List.all_eq_true.mpr fun x _ => rfl)
theorem eqvAll_tups : ∀ a b : List (List Int), PyData.eqvAll (a.map tupN) (b.map tupN) = decide (a = b)
  | [], [] => by simp [PyData.eqvAll]
  | [], _ :: _ => by simp [PyData.eqvAll]
  | _ :: _, [] => by simp [PyData.eqvAll]
  | x :: a, y :: b => by
    have e := eqv_tupN x y
    have ih := eqvAll_tups a b
    rw [List.map_cons, List.map_cons]
    simp only [PyData.eqvAll, e, ih]
    by_cases q : x = y <;> by_cases q2 : a = b <;> simp [q, q2]
theorem eqv_tupLL (a b : List (List Int)) : PyData.eqv (.tuple (a.map tupN)) (.tuple (b.map tupN)) = decide (a = b) := by
  simp only [PyData.eqv]
  exact eqvAll_tups a b
section
variable {h : MH} {Q : DK} {E : DXK} {t u : Addr} {S S2 : TSt} {i j : Nat}
end
/-! the law's own words -/
/-! ### filled -/
section
variable {h : MH} {Q : DK} {E : DXK} {p : Addr} {o : MO} {sc : List Int} {C : Int}
end

/-! ### k33: runs cut and merged -/
theorem cnt_all {len m : Nat} (hm : 1 ≤ m) : len ≤ cntN len m * m := by
  unfold cntN
  split
  · omega
  · have a := Nat.div_add_mod (len - 1) m
    have b := Nat.mod_lt (len - 1) (show m > 0 by omega)
    rw [Nat.add_mul, Nat.one_mul, Nat.mul_comm]
    omega
theorem lt_tupN : ∀ {a b : Ky}, a.length = b.length → PySem.W.dataLt (tupN a) (tupN b) = lexL a b
  | [], [], _ => by
    unfold tupN
    rw [PySem.W.dataLt_tuple]
    first | rfl | decide
  | x :: xs, y :: ys, e => by
    have ih := lt_tupN (a := xs) (b := ys) (by simpa using e)
    unfold tupN at ih ⊢
    rw [List.map_cons, List.map_cons, PySem.W.dataLt_tuple, PySem.W.dataLt_cons rfl, ← PySem.W.dataLt_tuple, ih, eqv_int]
    rw [show lexL (x :: xs) (y :: ys) = if x = y then lexL xs ys else decide (x < y) from rfl]
    by_cases q : x = y
    · rw [if_pos q, if_pos (decide_eq_true q)]
    · rw [if_neg q, if_neg (by simp [q]), PySem.W.dataLt_int]
theorem min_keys : ∀ (ys : List Ky) (y : Ky), y.length = 3 → (∀ k ∈ ys, k.length = 3) → ∃ e, (e = y ∨ e ∈ ys) ∧ PySem.W.minD (tupN y) (ys.map tupN) = tupN e ∧ ∀ a, a = y ∨ a ∈ ys → lexL a e = false
  | [], y, hy, _ => ⟨y, .inl rfl, rfl, fun a ha => by
    rcases ha with rfl | ha
    · exact lex_irr a
    · cases ha⟩
  | x :: ys, y, hy, h => by
    have hx : x.length = 3 := h x List.mem_cons_self
    have step : PySem.W.minD (tupN y) ((x :: ys).map tupN) = PySem.W.minD (tupN (if lexL x y = true then x else y)) (ys.map tupN) := by
      unfold PySem.W.minD
      rw [List.map_cons, List.foldl_cons, lt_tupN (hx.trans hy.symm)]
      congr 1
      split <;> rfl
    obtain ⟨e, e1, e2, e3⟩ := min_keys ys (if lexL x y = true then x else y) (by split <;> assumption) fun k hk => h k (List.mem_cons_of_mem _ hk)
    refine ⟨e, ?_, step.trans e2, fun a ha => ?_⟩
    · rcases e1 with e1 | e1
      · by_cases q : lexL x y = true
        · rw [if_pos q] at e1; exact .inr (by rw [e1]; exact List.mem_cons_self)
        · rw [if_neg q] at e1; exact .inl e1
      · exact .inr (List.mem_cons_of_mem _ e1)
    · have low := e3 _ (.inl rfl)
      rcases ha with rfl | ha
      · by_cases q : lexL x a = true
        · rw [if_pos q] at low
          cases z : lexL a e with
          | false => rfl
          | true =>
            have z2 : ltK x e := ltK_trans q z
            have z3 : lexL x e = true := z2
            rw [low] at z3; cases z3
        · rw [if_neg q] at low; exact low
      · rcases List.mem_cons.mp ha with rfl | ha
        · by_cases q : lexL a y = true
          · rw [if_pos q] at low; exact low
          · rw [if_neg q] at low
            have q' : lexL a y = false := by simpa using q
            cases z : lexL a e with
            | false => rfl
            | true =>
              have z2 : ltK y e := leK_lt (a := y) (b := a) q' z
              have z3 : lexL y e = true := z2
              rw [low] at z3; cases z3
        · exact e3 a (.inr ha)
theorem alike_keys {l : List Ky} (h : ∀ k ∈ l, k.length = 3) : PySem.W.AlikeAll (l.map tupN) := by
  have al : ∀ a b : List Int, PySem.W.alikeAll (a.map PyData.int) (b.map PyData.int) = true := by
    intro a
    induction a with
    | nil => intro b; rfl
    | cons x xs ih =>
      intro b
      cases b with
      | nil => rfl
      | cons y ys => show (true && PySem.W.alikeAll (xs.map PyData.int) (ys.map PyData.int)) = true; rw [ih ys]; rfl
  refine ⟨fun x hx y hy => ?_, fun x hx z => ?_⟩
  · obtain ⟨a, _, rfl⟩ := List.mem_map.mp hx
    obtain ⟨b, _, rfl⟩ := List.mem_map.mp hy
    exact al a b
  · obtain ⟨a, _, rfl⟩ := List.mem_map.mp hx
    cases z
theorem depth_keys : ∀ l : List Ky, PyData.depthAll (l.map tupN) ≤ 60
  | [] => by simp [PyData.depthAll]
  | k :: l => by
    have ih := depth_keys l
    have h1 := dep_tupN k
    rw [List.map_cons]
    simp only [PyData.depthAll]
    omega
def nI (i : Nat) : PyData := .int (i : Nat)
/-- a run, runs, as they are told -/
def runT (r : List Ky) : PyData := .tuple (r.map tupN)
def runsT (rs : List (List Ky)) : PyData := .tuple (rs.map runT)
/-- runs with what is left of them -/
def headsL (l : List (List Ky × Nat)) : List Ky := l.filterMap fun x => x.1[x.2]?
def outH (x : List Ky × Nat) : PyData := match x.1[x.2]? with
  | some e => tupN e
  | none => .none
theorem heads_eq : ∀ l : List (List Ky × Nat), (l.filter fun x => decide (x.2 < x.1.length)).map outH = (headsL l).map tupN
  | [] => rfl
  | x :: l => by
    have ih := heads_eq l
    by_cases q : x.2 < x.1.length
    · have e1 : x.1[x.2]? = some x.1[x.2] := List.getElem?_eq_getElem q
      have e2 : headsL (x :: l) = x.1[x.2] :: headsL l := by
        unfold headsL
        simp only [List.filterMap_cons, e1]
      have e3 : outH x = tupN x.1[x.2] := by
        unfold outH
        rw [e1]
      rw [List.filter_cons_of_pos (by simpa using q), e2, List.map_cons, List.map_cons, ih, e3]
    · have e1 : x.1[x.2]? = none := List.getElem?_eq_none (by omega)
      have e2 : headsL (x :: l) = headsL l := by
        unfold headsL
        simp only [List.filterMap_cons, e1]
      rw [List.filter_cons_of_neg (by simpa using q), e2]
      exact ih
theorem zip_runs (rs : List (List Ky)) (ps : List Nat) : zipD (rs.map runT) (ps.map nI) = (rs.zip ps).map fun x => PyData.tuple [runT x.1, nI x.2] := by
  unfold zipD
  rw [List.zip_map, List.map_map]
  rfl
def LeastK (m : Option Ky) (l : List Ky) : Prop := match m with
  | none => l = []
  | some e => e ∈ l ∧ ∀ a ∈ l, lexL a e = false
section
variable {h : MH} {Q : DK} {E : DXK}
theorem w_least_head {rs : List (List Ky)} {ps : List Nat} (h3 : ∀ r ∈ rs, ∀ k ∈ r, k.length = 3) (few : rs.length ≤ 100) (k : ∀ m, LeastK m (headsL (rs.zip ps)) → Q (.d (lowD m)) h) :
    W_least_head [.d (runsT rs), .d (.list (ps.map nI))] h Q E := by
  refine fnW_mk rfl ?_
  unfold t_least_head
  show dSeq _ _ _ [some (.d (runsT rs)), some (.d (.list (ps.map nI))), none, none, none] h
  walk_at "dl"
  refine e_zipM ?_
  walk_at "dl"
  refine k_zipM ?_
  rw [zip_runs]
  refine ⟨by rw [List.length_map, List.length_zip, sizeLine_eq]; omega, ?_⟩
  refine lc_enc (enc := fun x : List Ky × Nat => PyData.tuple [runT x.1, nI x.2]) (out := outH) (fun x => decide (x.2 < x.1.length)) (l := rs.zip ps) ?_ ?_
  · rintro ⟨r, p⟩ _
    refine ⟨[some (.d (runsT rs)), some (.d (.list (ps.map nI))), none, some (.d (runT r)), some (.d (nI p))], rfl, fun K hK => ?_, fun z K hK => ?_⟩
    · unfold runT nI
      walk_at "dl"
      rw [show decide ((p : Int) < ((r.map tupN).length : Nat)) = decide (p < r.length) from by rw [List.length_map]; exact decide_eq_decide.mpr Int.ofNat_lt]
      exact hK
    · have z' : p < r.length := of_decide_eq_true z
      have eo : outH (r, p) = tupN r[p] := by
        unfold outH
        dsimp only
        rw [List.getElem?_eq_getElem z']
      rw [eo] at hK
      unfold runT nI
      walk_at "dl"
      refine r_ixT (d := tupN r[p]) (at_nat (n := p) (by rw [List.getElem?_map, List.getElem?_eq_getElem z']; rfl)) ?_
      exact hK
  rw [heads_eq]
  obtain ⟨F, hF⟩ : ∃ F, F = headsL (rs.zip ps) := ⟨_, rfl⟩
  rw [← hF] at k ⊢
  have thF : ∀ x ∈ F, x.length = 3 := fun x hx => by
    rw [hF] at hx
    unfold headsL at hx
    obtain ⟨⟨r, p⟩, m1, m2⟩ := List.mem_filterMap.mp hx
    exact h3 r (List.of_mem_zip m1).1 x (List.mem_of_getElem? m2)
  clear hF
  walk_at "dl"
  try refine e_minD ?_
  walk_at "dl"
  refine ⟨alike_keys thF, depth_keys F, ?_⟩
  cases F with
  | nil =>
    show DEnds.rt _ _ _
    refine e_rt ?_
    rw [restr_self]
    exact k none rfl
  | cons y ys =>
    obtain ⟨e, e1, e2, e3⟩ := min_keys ys y (thF y List.mem_cons_self) fun k hk => thF k (List.mem_cons_of_mem _ hk)
    show DEnds.rt _ (.d (PySem.W.minD (tupN y) (ys.map tupN))) _
    rw [e2]
    refine e_rt ?_
    rw [restr_self]
    exact k (some e) ⟨e1.elim (fun z => by rw [z]; exact List.mem_cons_self) fun z => List.mem_cons_of_mem _ z, fun a ha => e3 a (List.mem_cons.mp ha)⟩
end

/-! ### k33: merge_runs -/
def nxP (e : Ky) (x : List Ky × Nat) : Nat := if x.1[x.2]? = some e then x.2 + 1 else x.2
def advL (e : Ky) (rs : List (List Ky)) (ps : List Nat) : List Nat := (rs.zip ps).map (nxP e)
def leftL (l : List (List Ky × Nat)) : Nat := (l.map fun x => x.1.length - x.2).sum
theorem zip_adv (e : Ky) : ∀ (rs : List (List Ky)) (ps : List Nat), ps.length = rs.length → rs.zip (advL e rs ps) = (rs.zip ps).map fun x => (x.1, nxP e x)
  | [], [], _ => rfl
  | [], _ :: _, h => by cases h
  | _ :: _, [], h => by cases h
  | r :: rs, p :: ps, h => by
    have ih := zip_adv e rs ps (by simpa using h)
    unfold advL at ih ⊢
    rw [List.zip_cons_cons, List.map_cons, List.zip_cons_cons, List.map_cons, ih]
theorem left_adv {e : Ky} : ∀ {l : List (List Ky × Nat)}, leftL (l.map fun x => (x.1, nxP e x)) ≤ leftL l
  | [] => Nat.le_refl _
  | x :: l => by
    have ih := left_adv (e := e) (l := l)
    unfold leftL at ih ⊢
    simp only [List.map_cons, List.sum_cons, List.map_map] at ih ⊢
    have : x.1.length - nxP e x ≤ x.1.length - x.2 := by unfold nxP; split <;> omega
    omega
theorem left_less {e : Ky} : ∀ {l : List (List Ky × Nat)}, e ∈ headsL l → leftL (l.map fun x => (x.1, nxP e x)) + 1 ≤ leftL l
  | [], h => by cases h
  | x :: l, h => by
    have le := left_adv (e := e) (l := l)
    have lx : x.1.length - nxP e x ≤ x.1.length - x.2 := by unfold nxP; split <;> omega
    by_cases q : x.1[x.2]? = some e
    · have h1 : x.2 < x.1.length := (List.getElem?_eq_some_iff.mp q).1
      have h2 : nxP e x = x.2 + 1 := if_pos q
      unfold leftL at le ⊢
      simp only [List.map_cons, List.sum_cons, List.map_map] at le ⊢
      omega
    · have hm : e ∈ headsL l := by
        unfold headsL at h ⊢
        obtain ⟨y, y1, y2⟩ := List.mem_filterMap.mp h
        rcases List.mem_cons.mp y1 with rfl | y1
        · exact absurd y2 q
        · exact List.mem_filterMap.mpr ⟨y, y1, y2⟩
      have ih := left_less hm
      unfold leftL at ih ⊢
      simp only [List.map_cons, List.sum_cons, List.map_map] at ih ⊢
      omega
/-- what is found so far of some runs -/
structure Mg (l : List (List Ky × Nat)) (F : List Ky) : Prop where
  srt : F.Pairwise ltK
  ins : ∀ x ∈ F, ∃ y ∈ l, x ∈ y.1
  got : ∀ y ∈ l, ∀ e ∈ y.1.take y.2, e ∈ F
  far : ∀ y ∈ l, ∀ f ∈ F, ∀ e ∈ y.1.drop y.2, ltK f e
  ris : ∀ y ∈ l, y.1.Pairwise ltK
theorem ltK_or {a b : Ky} (n : lexL a b = false) : a = b ∨ ltK b a := by
  cases q : lexL b a with
  | true => exact .inr q
  | false => exact .inl (lex_total a b n q)
theorem Mg.step {l : List (List Ky × Nat)} {F : List Ky} {e : Ky} (m : Mg l F) (th : ∀ y ∈ l, ∀ k ∈ y.1, k.length = 3) (hm : LeastK (some e) (headsL l)) : Mg (l.map fun x => (x.1, nxP e x)) (F ++ [e]) := by
  obtain ⟨he, hl⟩ := hm
  unfold headsL at he hl
  obtain ⟨y, y1, y2⟩ := List.mem_filterMap.mp he
  have ey : e ∈ y.1 := List.mem_of_getElem? y2
  have head : ∀ x ∈ l, ∀ a, x.1[x.2]? = some a → lexL a e = false := fun x hx a ha => hl a (List.mem_filterMap.mpr ⟨x, hx, ha⟩)
  have dr : ∀ x : List Ky × Nat, ∀ a, x.1[x.2]? = some a → x.1.drop x.2 = a :: x.1.drop (x.2 + 1) := fun x a ha => by
    obtain ⟨q1, q2⟩ := List.getElem?_eq_some_iff.mp ha
    rw [List.drop_eq_getElem_cons q1, q2]
  refine ⟨?_, fun x hx => ?_, fun z hz a ha => ?_, fun z hz f hf a ha => ?_, fun z hz => ?_⟩
  · rw [List.pairwise_append]
    refine ⟨m.srt, List.pairwise_singleton _ _, fun f hf b hb => ?_⟩
    rw [List.mem_singleton.mp hb]
    exact m.far y y1 f hf e (by rw [dr y e y2]; exact List.mem_cons_self)
  · rcases List.mem_append.mp hx with hx | hx
    · obtain ⟨z, z1, z2⟩ := m.ins x hx
      exact ⟨_, List.mem_map_of_mem z1, z2⟩
    · rw [List.mem_singleton.mp hx]
      exact ⟨_, List.mem_map_of_mem y1, ey⟩
  · obtain ⟨x, x1, rfl⟩ := List.mem_map.mp hz
    dsimp only at ha
    unfold nxP at ha
    split at ha
    · rename_i q
      obtain ⟨q1, q2⟩ := List.getElem?_eq_some_iff.mp q
      rw [List.take_succ_eq_append_getElem q1, q2] at ha
      rcases List.mem_append.mp ha with ha | ha
      · exact List.mem_append_left _ (m.got x x1 a ha)
      · exact List.mem_append_right _ ha
    · exact List.mem_append_left _ (m.got x x1 a ha)
  · obtain ⟨x, x1, rfl⟩ := List.mem_map.mp hz
    dsimp only at ha
    have sub : a ∈ x.1.drop x.2 := by
      unfold nxP at ha
      split at ha
      · exact List.mem_of_mem_drop (i := 1) (by rw [List.drop_drop]; exact ha)
      · exact ha
    rcases List.mem_append.mp hf with hf | hf
    · exact m.far x x1 f hf a sub
    · rw [List.mem_singleton.mp hf]
      have sx := (m.ris x x1).sublist (List.drop_sublist x.2 x.1)
      cases qh : x.1[x.2]? with
      | none =>
        rw [List.drop_of_length_le (List.getElem?_eq_none_iff.mp qh)] at sub
        cases sub
      | some b =>
        have lb := head x x1 b qh
        rw [dr x b qh] at sx sub
        rcases ltK_or lb with rfl | lt
        · have n : nxP b x = x.2 + 1 := if_pos qh
          rw [n] at ha
          exact (List.pairwise_cons.mp sx).1 a ha
        · rcases List.mem_cons.mp sub with rfl | sub
          · exact lt
          · exact ltK_trans lt ((List.pairwise_cons.mp sx).1 a sub)
  · obtain ⟨x, x1, rfl⟩ := List.mem_map.mp hz
    exact m.ris x x1
theorem Mg.done {l : List (List Ky × Nat)} {F : List Ky} (m : Mg l F) (hm : LeastK none (headsL l)) : ∀ x, x ∈ F ↔ ∃ y ∈ l, x ∈ y.1 := fun x => ⟨m.ins x, fun ⟨y, y1, y2⟩ => by
  have n : y.1[y.2]? = none := by
    cases q : y.1[y.2]? with
    | none => rfl
    | some b =>
      have : b ∈ headsL l := List.mem_filterMap.mpr ⟨y, y1, q⟩
      rw [show headsL l = [] from hm] at this
      cases this
  refine m.got y y1 x ?_
  rw [List.take_of_length_le (List.getElem?_eq_none_iff.mp n)]
  exact y2⟩
theorem one_drop {r : List Ky} {p : Nat} {e : Ky} : ((r.drop p).take 1 = [e]) ↔ r[p]? = some e := by
  cases q : r[p]? with
  | none => simp [List.drop_of_length_le (List.getElem?_eq_none_iff.mp q)]
  | some b =>
    obtain ⟨q1, q2⟩ := List.getElem?_eq_some_iff.mp q
    rw [List.drop_eq_getElem_cons q1, q2]
    simp
theorem noLst_low {m : Option Ky} : noLst (lowD m) = true := by
  cases m with
  | none => rfl
  | some k =>
    show noLsts (k.map PyData.int) = true
    induction k with
    | nil => rfl
    | cons x k ih => simpa [noLsts, noLst] using ih
def enumR (i : Nat) (rs : List (List Ky)) : List PyData := ((rs.map runT).zipIdx i).map fun p => .tuple [.int (p.2 : Nat), p.1]
section
variable {h : MH} {Q : DK} {E : DXK}
theorem w_merge {rs : List (List Ky)} (h3 : ∀ r ∈ rs, ∀ k ∈ r, k.length = 3) (srt : ∀ r ∈ rs, r.Pairwise ltK) (few : rs.length ≤ 100) (tot : leftL (rs.zip (rs.map fun _ => 0)) ≤ 1000)
    (k : ∀ ms : List Ky, ms.Pairwise ltK → (∀ x, x ∈ ms ↔ ∃ r ∈ rs, x ∈ r) → Q (.d (runT ms)) (noTp h)) : W_merge_runs [.d (runsT rs)] h Q E := by
  refine fnW_mk rfl ?_
  unfold t_merge_runs
  obtain ⟨DD, hDD⟩ : ∃ D, D = dEnd h Q := ⟨_, rfl⟩
  rw [← hDD]
  show dSeq _ _ _ [some (.d (runsT rs)), none, none, none, none, none] h
  walk_at "dl"
  intro f hf
  walk_at "dl"
  unfold runsT
  walk_at "dl"
  refine ⟨by rw [List.length_map, sizeLine_eq]; omega, ?_⟩
  refine lc_enc (enc := runT) (out := fun _ => nI 0) (fun _ => true) (fun v hv => ⟨_, rfl, fun K hK => (by walk_at "dl"; exact hK), fun _ K hK => (by walk_at "dl"; exact hK)⟩) ?_
  rw [show (rs.filter fun _ => true) = rs from List.filter_eq_self.mpr fun _ _ => rfl]
  rw [show (rs.map fun _ => nI 0) = (rs.map fun _ => 0).map nI from by rw [List.map_map]; rfl]
  walk_at "dl"
  intro g hg
  walk_at "dl"
  try simp only [List.set_cons_succ, List.set_cons_zero]
  have gf : g ≠ f := fun e => by rw [e, put_same] at hg; cases hg
  have hg0 : h g = none := by rw [put_other gf] at hg; exact hg
  obtain ⟨hn, ehn⟩ : ∃ hn, hn = noTp h := ⟨_, rfl⟩
  obtain ⟨HH, eHH⟩ : ∃ HH : List Ky → List Nat → MH, HH = fun F ps => mput (mput hn f (.lst (F.map tupN))) g (.lst (ps.map nI)) := ⟨_, rfl⟩
  have hhF : ∀ F ps, HH F ps f = some (.lst (F.map tupN)) := fun F ps => by rw [eHH]; exact (put_other (Ne.symm gf)).trans put_same
  have hhG : ∀ F ps, HH F ps g = some (.lst (ps.map nI)) := fun F ps => by rw [eHH]; exact put_same
  have hhN : ∀ F ps, noTp (HH F ps) = HH F ps := fun F ps => by
    rw [eHH]
    dsimp only
    rw [noTp_put (fun xs z => by cases z) (fun xs z => by cases z), noTp_put (fun xs z => by cases z) (fun xs z => by cases z), ehn]
    rw [noTp_id noTp_nt.1 noTp_nt.2]
  have hhA : ∀ F ps F', mput (HH F ps) f (.lst (F'.map tupN)) = HH F' ps := fun F ps F' => by
    rw [eHH]
    dsimp only
    rw [put_swap gf, put_put]
  have hhP : ∀ F ps ps', mput (HH F ps) g (.lst (ps'.map nI)) = HH F ps' := fun F ps ps' => by
    rw [eHH]
    exact put_put
  have hh0 : noTp (mput (mput h f (.lst [])) g (.lst ((rs.map fun _ => 0).map nI))) = HH [] (rs.map fun _ => 0) := by
    rw [eHH, ehn, noTp_put (fun xs z => by cases z) (fun xs z => by cases z), noTp_put (fun xs z => by cases z) (fun xs z => by cases z)]
    rfl
  have nt : ∀ F ps, (∀ b xs, HH F ps b ≠ some (.tpl xs)) ∧ ∀ b xs, HH F ps b ≠ some (.ptp xs) := fun F ps => by
    rw [← hhN]
    exact noTp_nt
  have hend : ∀ F ps d, restr h (HH F ps) (.d d) = hn := fun F ps d => restr_is (fun b hb => by
    rw [eHH]
    exact (put_other fun z => by rw [z, hg0] at hb; cases hb).trans (put_other fun z => by rw [z, hf] at hb; cases hb)) fun b hb => by
      rw [ehn]
      cases q : noTp h b with
      | none => rfl
      | some o => rw [noTp_sub b o q] at hb; cases hb
  refine e_lend (j := 2) rfl noTp_sub (by rw [hh0]; exact hhG _ _) noTp_nt ?_
  rw [hh0]
  walk_at "dl"
  show W_least_head [.d (runsT rs), .d (.list ((rs.map fun _ => 0).map nI))] _ _ _
  refine w_least_head h3 few fun m hm => ⟨_, rfl, noLst_low, ?_⟩
  refine k_nm ?_
  try simp only [List.set_cons_succ, List.set_cons_zero]
  refine e_seq ?_
  have m0 : Mg (rs.zip (rs.map fun _ => 0)) [] := ⟨List.Pairwise.nil, (fun x hx => by cases hx), fun y hy e he => (by
    obtain ⟨_, _, z⟩ := List.mem_map.mp (List.of_mem_zip (a := y.1) (b := y.2) hy).2
    rw [← z] at he
    cases he), (fun y hy f hf => by cases hf), fun y hy => srt y.1 (List.of_mem_zip (a := y.1) (b := y.2) hy).1⟩
  refine wh_inv (fun n σ h' => ∃ (F : List Ky) (ps : List Nat) (m : Option Ky) (x4 x5 : Option SV), ps.length = rs.length ∧ Mg (rs.zip ps) F ∧ LeastK m (headsL (rs.zip ps)) ∧ n = leftL (rs.zip ps) ∧ F.length + leftL (rs.zip ps) ≤ 1000 ∧ h' = HH F ps ∧
    σ = [some (.d (.tuple (rs.map runT))), some (.own f), some (.own g), some (.d (lowD m)), x4, x5]) ?_ _ _ _
    ⟨[], rs.map fun _ => 0, m, _, _, by rw [List.length_map], m0, hm, rfl, by simpa using tot, rfl, rfl⟩
  rintro n σ h' K ⟨F, ps, m, x4, x5, lps, M, L, rfl, bd, rfl, rfl⟩ hK
  walk_at "dl"
  refine k_wh (fun q => ?_) fun q => ?_
  · cases m with
    | none => cases q
    | some e =>
      have thz : ∀ y ∈ rs.zip ps, ∀ k ∈ y.1, k.length = 3 := fun y hy => h3 y.1 (List.of_mem_zip (a := y.1) (b := y.2) hy).1
      have lt := left_less L.1
      rw [← zip_adv e rs ps lps] at lt
      rw [show (lowD (some e)) = tupN e from rfl]
      have hF0 := hhF F ps
      walk_at "dl"
      refine m_append (hhF F ps) (by rw [List.length_map]; omega) ?_
      rw [show F.map tupN ++ [tupN e] = (F ++ [e]).map tupN from by rw [List.map_append]; rfl, hhA]
      walk_at "dl"
      refine for_inv (fun r σ h' => ∃ (R1 R2 : List (List Ky)) (P1 P2 : List Nat) (x4 x5 : Option SV), rs = R1 ++ R2 ∧ P1.length = R1.length ∧ P2.length = R2.length ∧ r = enumR R1.length R2 ∧ P1 ++ advL e R2 P2 = advL e rs ps ∧ h' = HH (F ++ [e]) (P1 ++ P2) ∧
        σ = [some (.d (.tuple (rs.map runT))), some (.own f), some (.own g), some (.d (tupN e)), x4, x5]) ?_ ?_ _ _ _ ⟨[], rs, [], ps, _, _, rfl, rfl, lps, rfl, rfl, rfl, rfl⟩
      · rintro d r σ h' K2 ⟨R1, R2, P1, P2, y4, y5, eR, l1, l2, er, ea, rfl, rfl⟩ hK2
        cases R2 with
        | nil => cases er
        | cons r0 R3 =>
          cases P2 with
          | nil => cases l2
          | cons p0 P3 =>
            have er' : d :: r = .tuple [.int (R1.length : Nat), .tuple (r0.map tupN)] :: enumR (R1.length + 1) R3 := er
            injection er' with e1 e2
            subst e1 e2
            have at0 : atI ((P1 ++ p0 :: P3).map nI) (R1.length : Nat) = some (.int (p0 : Nat)) := at_nat (n := R1.length) (by rw [← l1, List.map_append, List.getElem?_append_right (by simp)]; simp [nI])
            have nx : ∀ q, nxP e (r0, p0) = q → P1 ++ q :: advL e R3 P3 = advL e rs ps := fun q eq => by rw [← ea, ← eq]; rfl
            refine ⟨[some (.d (.tuple (rs.map runT))), some (.own f), some (.own g), some (.d (tupN e)), some (.d (.tuple (r0.map tupN))), some (.d (.int (R1.length : Nat)))], rfl, ?_⟩
            walk_at "dl"
            refine r_ixO (hhG _ _) at0 ?_
            walk_at "dl"
            refine r_ixO (hhG _ _) at0 ?_
            walk_at "dl"
            rw [show ((p0 : Int) + 1) = ((p0 + 1 : Nat) : Int) from by push_cast; rfl]
            rw [cut_mid, Nat.add_sub_cancel_left, ← List.map_drop, ← List.map_take]
            refine r_eq rfl rfl shaped_tupP (shaped_tupP (ks := [e])) ?_
            rw [show PyData.eqv (.tuple (((r0.drop p0).take 1).map tupN)) (.tuple [tupN e]) = decide (((r0.drop p0).take 1) = [e]) from eqv_tupLL _ [e]]
            walk_at "dl"
            refine k_if (fun q => ?_) fun q => ?_
            · have q1 := one_drop.mp (of_decide_eq_true q)
              refine e_augIx (a := g) (k := R1.length) (n := (p0 : Nat)) (e_var rfl ⟨rfl, rfl⟩) mono_var mono_var (e_var rfl ⟨rfl, rfl⟩) (hhG _ _) (by rw [← l1, List.map_append, List.getElem?_append_right (by simp)]; simp [nI]) ?_
              rw [show ((P1 ++ p0 :: P3).map nI).set R1.length (.int ((p0 : Nat) + 1)) = (P1 ++ (p0 + 1) :: P3).map nI from by rw [← l1, List.map_append, List.map_append, List.map_cons, List.map_cons, List.set_append, if_neg (by simp), List.length_map, Nat.sub_self, List.set_cons_zero]; rfl, hhP]
              exact hK2 _ _ ⟨R1 ++ [r0], R3, P1 ++ [p0 + 1], P3, _, _, by rw [eR]; simp, by simp [l1], by simpa using l2, by simp, by rw [List.append_assoc]; exact nx _ (if_pos q1), by simp, rfl⟩
            · have q1 : ¬ (r0[p0]? = some e) := fun z => of_decide_eq_false q (one_drop.mpr z)
              walk_at "dl"
              exact hK2 _ _ ⟨R1 ++ [r0], R3, P1 ++ [p0], P3, _, _, by rw [eR]; simp, by simp [l1], by simpa using l2, by simp, by rw [List.append_assoc]; exact nx _ (if_neg q1), by simp, rfl⟩
      · rintro σ h' ⟨R1, R2, P1, P2, y4, y5, eR, l1, l2, er, ea, rfl, rfl⟩
        have e0 : R2 = [] := by cases R2 with
          | nil => rfl
          | cons _ _ => cases er
        subst e0
        have e2 : P2 = [] := List.length_eq_zero_iff.mp l2
        subst e2
        rw [List.append_nil]
        have ea' : P1 = advL e rs ps := by simpa [advL] using ea
        dsimp only
        refine e_asg (e_lend (j := 2) rfl (fun _ _ z => z) (hhG _ _) (nt _ _) ?_)
        walk_at "dl"
        show W_least_head [.d (runsT rs), .d (.list (P1.map nI))] _ _ _
        refine w_least_head h3 few fun m2 hm2 => ⟨_, rfl, noLst_low, ?_⟩
        refine k_nm ?_
        try simp only [List.set_cons_succ, List.set_cons_zero]
        rw [ea'] at hm2 ⊢
        have la : (advL e rs ps).length = rs.length := by unfold advL; rw [List.length_map, List.length_zip, lps, Nat.min_self]
        refine hK (leftL (rs.zip (advL e rs ps))) _ _ (by omega) ⟨F ++ [e], advL e rs ps, m2, _, _, la, ?_, hm2, rfl, by rw [List.length_append, List.length_singleton]; omega, rfl, rfl⟩
        rw [zip_adv e rs ps lps]
        exact M.step thz L
  · cases m with
    | some e => cases q
    | none =>
      walk_at "dl"
      refine b_tuple (asQ_own (hhF _ _)) ?_
      walk_at "dl"
      rw [hDD]
      walk_at "dl"
      rw [hend, ehn]
      refine k F M.srt fun x => ?_
      rw [M.done L]
      constructor
      · rintro ⟨y, y1, y2⟩
        exact ⟨y.1, (List.of_mem_zip (a := y.1) (b := y.2) y1).1, y2⟩
      · rintro ⟨r, r1, r2⟩
        obtain ⟨i, i1, i2⟩ := List.mem_iff_getElem.mp r1
        refine ⟨(r, ps[i]'(by omega)), ?_, r2⟩
        rw [← i2]
        exact List.mem_iff_getElem.mpr ⟨i, by rw [List.length_zip]; omega, by rw [List.getElem_zip]⟩
end


/-! ### k33: runs_of -/
section
variable {h : MH} {Q : DK} {E : DXK}
theorem w_runsK {ks : List Ky} {m : Nat} (hl : ks.length ≤ 100) (h3 : ∀ e ∈ ks, e.length = 3) (hm : 1 ≤ m) (hm2 : m ≤ 60)
    (k : ∀ rs : List (List Ky), rs.length ≤ ks.length → (∀ r ∈ rs, r.Pairwise ltK ∧ ∀ e ∈ r, e.length = 3) → leftL (rs.zip (rs.map fun _ => 0)) ≤ ks.length → (∀ x, (∃ r ∈ rs, x ∈ r) ↔ x ∈ ks) → Q (.d (runsT rs)) h) : W_runs_of [.d (.list (ks.map tupN)), .d (.int m)] h Q E := by
  refine fnW_mk rfl ?_
  unfold t_runs_of
  show dSeq _ _ _ [some (.d (.list (ks.map tupN))), some (.d (.int m)), none, none] h
  walk_at "dl"
  refine e_rg3 ?_
  walk_at "dl"
  rw [List.length_map]
  refine k_rg3 (by omega) ?_ (size_cnt hm) ?_
  · show (m : Int).natAbs.log2 < 9000
    rw [Int.natAbs_natCast]
    exact (Nat.log2_lt (by omega)).mpr (Nat.lt_of_le_of_lt hm2 (by decide +kernel))
  have hc := cnt_le (len := ks.length) (m := m)
  have hall := cnt_all (len := ks.length) hm
  obtain ⟨c, ec⟩ : ∃ c, c = cntN ks.length m := ⟨_, rfl⟩
  rw [← ec] at hc hall ⊢
  have e0 : rgC 0 (m : Int) c = (List.range c).map fun i : Nat => PyData.int ((i * m : Nat) : Int) := by
    unfold rgC
    refine List.map_congr_left fun i _ => ?_
    congr 1
    push_cast
    omega
  rw [e0]
  refine ⟨by rw [List.length_map, List.length_range, sizeLine_eq]; omega, ?_⟩
  refine lc_inv (fun r acc h' => ∃ (i : Nat) (rs : List (List Ky)), r = ((List.range c).drop i).map (fun i : Nat => PyData.int ((i * m : Nat) : Int)) ∧ i ≤ c ∧ acc = rs.map runT ∧ rs.length = i ∧ (∀ r ∈ rs, r.Pairwise ltK ∧ ∀ e ∈ r, e.length = 3) ∧ (rs.map List.length).sum ≤ (ks.take (i * m)).length ∧ (∀ x, (∃ r ∈ rs, x ∈ r) ↔ x ∈ ks.take (i * m)) ∧ h' = h) ?_ ?_ _ [] _
    ⟨0, [], by simp, Nat.zero_le _, rfl, rfl, (fun r z => by cases z), by simp, by simp, rfl⟩
  · rintro d r acc h' K ⟨i, rs, er, hi, rfl, li, good, sm, mem, rfl⟩ hK
    have hi2 : i < c := by
      rcases Nat.lt_or_ge i c with z | z
      · exact z
      · rw [List.drop_of_length_le (by rw [List.length_range]; exact z)] at er
        cases er
    rw [List.drop_eq_getElem_cons (by rw [List.length_range]; exact hi2), List.getElem_range, List.map_cons] at er
    injection er with e1 e2
    subst e1 e2
    refine ⟨_, rfl, ?_⟩
    walk_at "dl"
    refine k_lc (fun _ => ?_) fun q => by cases q
    walk_at "dl"
    refine e_sst ?_
    walk_at "dl"
    have e2 : (((i * m : Nat) : Int) + (m : Int)) = ((i * m + m : Nat) : Int) := by push_cast; rfl
    rw [e2, cut_mid, Nat.add_sub_cancel_left, ← List.map_drop, ← List.map_take]
    refine k_sstR ?_ 3 (by decide) (fun q hq => h3 q (List.mem_of_mem_drop (List.mem_of_mem_take hq))) fun ms pw mm => ?_
    · rw [List.length_take, List.length_drop]
      omega
    walk_at "dl"
    have lms : ms.length ≤ ((ks.drop (i * m)).take m).length := nodup_len ms _ (pw.imp fun {x y} (q : ltK x y) (e : x = y) => by subst e; exact ltK_irr q) fun x hx => (mm x).mp hx
    have tk : ks.take ((i + 1) * m) = ks.take (i * m) ++ (ks.drop (i * m)).take m := by rw [Nat.add_mul, Nat.one_mul, List.take_add]
    refine k_lcE (hK _ _ ⟨i + 1, rs ++ [ms], rfl, hi2, by rw [List.map_append]; rfl, by simp [li], fun r hr => ?_, ?_, fun x => ?_, rfl⟩)
    · rcases List.mem_append.mp hr with hr | hr
      · exact good r hr
      · rw [List.mem_singleton.mp hr]
        exact ⟨pw, fun e he => h3 e (List.mem_of_mem_drop (List.mem_of_mem_take ((mm e).mp he)))⟩
    · rw [tk, List.map_append, List.sum_append, List.length_append]
      simp only [List.map_cons, List.map_nil, List.sum_cons, List.sum_nil]
      omega
    · rw [tk, List.mem_append, ← mem x, ← mm x]
      constructor
      · rintro ⟨r, hr, hx⟩
        rcases List.mem_append.mp hr with hr | hr
        · exact .inl ⟨r, hr, hx⟩
        · rw [List.mem_singleton.mp hr] at hx
          exact .inr hx
      · rintro (⟨r, hr, hx⟩ | hx)
        · exact ⟨r, List.mem_append_left _ hr, hx⟩
        · exact ⟨ms, List.mem_append_right _ (List.mem_singleton.mpr rfl), hx⟩
  · rintro acc h' ⟨i, rs, er, hi, rfl, li, good, sm, mem, rfl⟩
    have ei : i = c := by
      rcases Nat.lt_or_ge i c with z | z
      · rw [List.drop_eq_getElem_cons (by rw [List.length_range]; exact z)] at er
        cases er
      · omega
    subst ei
    rw [List.take_of_length_le hall] at sm mem
    walk_at "dl"
    rw [restr_self]
    refine k rs (by omega) good ?_ mem
    have e3 : leftL (rs.zip (rs.map fun _ => 0)) = (rs.map List.length).sum := by
      clear er li good sm mem hi hc hall k
      induction rs with
      | nil => rfl
      | cons r rs ih =>
        unfold leftL at ih ⊢
        simp only [List.map_cons, List.zip_cons_cons, List.sum_cons] at ih ⊢
        rw [ih]
        rfl
    omega
end

/-! ### a tree beside a dict: a deed -/
structure Kn (h : MH) (t kd : Addr) (S : TSt) (ps : PSt) (j : Nat) : Prop where
  ts : TS h t S j
  kn : h kd = some (.dcT kd ps)
  out : kd ∉ S.reg t
  nd : (ps.map (·.1)).Nodup
  eq : ∀ x, x ∈ S.keys ↔ x ∈ ps.map (·.1)
theorem setQ_keys {ps : PSt} {x y : Ky} {d : PyData} : y ∈ (setQd ps x d).map (·.1) ↔ y ∈ ps.map (·.1) ∨ y = x := by
  rw [set_keys]
  by_cases q : x ∈ ps.map (·.1)
  · rw [if_pos q]
    exact ⟨.inl, fun y => y.elim id fun e => e ▸ q⟩
  · rw [if_neg q, List.mem_append, List.mem_singleton]
section
variable {h h' : MH} {Q : DK} {E : DXK} {t kd : Addr} {S S' : TSt} {ps : PSt} {j : Nat} {c : Ky}
theorem Kn.up {i : Nat} (K : Kn h t kd S ps j) (l : j ≤ i) : Kn h t kd S ps i := ⟨K.ts.up l, K.kn, K.out, K.nd, K.eq⟩
end

/-! ### k31: lets_merged -/
def wr2K (QL : List PyData → MH → Prop) (x y : SV) (h : MH) : Prop := match asInt x, asInt y with
  | some n, some m => (-(2 ^ 62) ≤ n ∧ n < 2 ^ 62 ∧ -(2 ^ 62) ≤ m ∧ m < 2 ^ 62) ∧ QL (rgD n m) h
  | _, _ => False
theorem e_wRg2 {ta tb : DTE} {σ : DSt} {h : MH} {QL : List PyData → MH → Prop} (k : ta σ h fun x h1 => tb σ h1 fun y h2 => wr2K QL x y h2) : wRg2 ta tb σ h QL := k
theorem k_wRg2 {n m : Int} {h : MH} {QL : List PyData → MH → Prop} (c : -(2 ^ 62) ≤ n ∧ n < 2 ^ 62 ∧ -(2 ^ 62) ≤ m ∧ m < 2 ^ 62) (k : QL (rgD n m) h) : wr2K QL (.d (.int n)) (.d (.int m)) h := ⟨c, k⟩
theorem yes_in {σ : DSt} {h : MH} {A B : MH → Prop} (k : A h) : dYes σ h fun b h1 => if b = true then A h1 else B h1 := by
  show (if true = true then A h else B h)
  rw [if_pos rfl]
  exact k
theorem rg1_drop {n i : Nat} {d : PyData} {r : List PyData} (e : d :: r = (rgD 1 (n : Int)).drop i) : i + 1 < n ∧ d = .int ((i + 1 : Nat) : Int) ∧ r = (rgD 1 (n : Int)).drop (i + 1) := by
  have hlen : (rgD 1 (n : Int)).length = n - 1 := by rw [rgD_length]; omega
  have hl : i < (rgD 1 (n : Int)).length := by
    by_cases q : i < (rgD 1 (n : Int)).length
    · exact q
    · rw [List.drop_of_length_le (by omega)] at e
      cases e
  rw [List.drop_eq_getElem_cons hl] at e
  injection e with e1 e2
  refine ⟨by omega, ?_, e2⟩
  have z := rgD_get (a := 1) (b := (n : Int)) (i := i) (by omega)
  rw [List.getElem?_eq_getElem hl] at z
  rw [e1, Option.some.inj z]
  congr 1
  push_cast
  omega
def givL (ps : PSt) (rs : List (List Ky)) : PSt := rs.foldl (fun m r => r.foldl (fun m k => setQd m k (.bool true)) m) ps
theorem set_len {ps : PSt} {k : Ky} {d : PyData} : (setQd ps k d).length ≤ ps.length + 1 := by
  unfold setQd
  split
  · rw [List.length_map]; omega
  · rw [List.length_append]; simp
theorem fold_in {x : Ky} : ∀ (r : List Ky) (m : PSt), x ∈ (r.foldl (fun m k => setQd m k (.bool true)) m).map (·.1) ↔ x ∈ m.map (·.1) ∨ x ∈ r
  | [], m => by simp
  | k :: r, m => by
    rw [List.foldl_cons, fold_in r, setQ_keys, List.mem_cons, or_assoc]
theorem giv_in {x : Ky} : ∀ (rs : List (List Ky)) (m : PSt), x ∈ (givL m rs).map (·.1) ↔ x ∈ m.map (·.1) ∨ ∃ r ∈ rs, x ∈ r
  | [], m => by
    show x ∈ m.map (·.1) ↔ _
    simp
  | r :: rs, m => by
    show x ∈ (givL (r.foldl (fun m k => setQd m k (.bool true)) m) rs).map (·.1) ↔ _
    rw [giv_in rs, fold_in, or_assoc]
    simp
theorem fold_len : ∀ (r : List Ky) (m : PSt), (r.foldl (fun m k => setQd m k (.bool true)) m).length ≤ m.length + r.length
  | [], m => by simp
  | k :: r, m => by
    have z := fold_len r (setQd m k (.bool true))
    have y := set_len (ps := m) (k := k) (d := .bool true)
    rw [List.foldl_cons, List.length_cons]
    omega
section
variable {h : MH} {Q : DK} {E : DXK} {p : Addr}
theorem w_need31 {wd a : PyData} (k : Q (.d .none) h) : W_need [.d (.bool true), .d wd, .d a] h Q E := by
  refine fnW_mk rfl ?_
  unfold t_need
  show dIfS _ _ _ _ [some (.d (.bool true)), some (.d wd), some (.d a)] h
  walk_at "dl"
  refine k_if (fun z => by cases z) fun _ => ?_
  walk_at "dl"
  rw [restr_self]
  exact k
theorem in_go {x0 x1 x2 x3 x4 x5 x6 x7 x8 : Option SV} {QB : MH → Prop} : ∀ (r : List Ky) (ps : PSt) (h : MH), h p = some (.dcT p ps) → ps.length + r.length ≤ 100000 → QB (mput h p (.dcT p (r.foldl (fun m k => setQd m k (.bool true)) ps))) →
    dqL (.nm 7) dYes (dVar 7) (dC (.bool true)) [x0, x1, x2, x3, x4, x5, x6, x7, x8] p (r.map tupN) h QB
  | [], ps, h, hp, _, k => by
    have k' : QB (mput h p (.dcT p ps)) := k
    rw [put_own hp] at k'
    exact k'
  | c :: r, ps, h, hp, few, k => by
    rw [List.length_cons] at few
    have l1 := set_len (ps := ps) (k := c) (d := .bool true)
    rw [List.map_cons]
    unfold dqL
    change dYes [x0, x1, x2, x3, x4, x5, x6, some (.d (tupN c)), x8] h _
    refine yes_in ?_
    refine e_var rfl (e_c (k_dqStep tupI_N hp (by rw [sizeLine_eq]; omega) ?_))
    refine in_go r (setQd ps c (.bool true)) _ put_same (by omega) ?_
    rw [put_put]
    exact k
theorem out_go {x0 x1 x2 x3 x4 x5 x6 x7 x8 : Option SV} {QB : MH → Prop} : ∀ (rs : List (List Ky)) (ps : PSt) (h : MH), h p = some (.dcT p ps) → ps.length + (rs.map List.length).sum ≤ 100000 → QB (mput h p (.dcT p (givL ps rs))) →
    dq2L (.nm 6) (wSeq (dVar 6)) (.nm 7) (dVar 7) (dC (.bool true)) [x0, x1, x2, x3, x4, x5, x6, x7, x8] [7] p (rs.map runT) h QB
  | [], ps, h, hp, _, k => by
    have k' : QB (mput h p (.dcT p ps)) := k
    rw [put_own hp] at k'
    exact k'
  | r :: rs, ps, h, hp, few, k => by
    rw [List.map_cons, List.sum_cons] at few
    have l1 := fold_len r ps
    rw [List.map_cons]
    unfold dq2L
    show wSeq (dVar 6) [x0, x1, x2, x3, x4, x5, some (.d (runT r)), x7, x8] h _
    walk_at "dl"
    refine in_go r ps h hp (by omega) ?_
    refine out_go rs _ _ put_same (by omega) ?_
    rw [put_put]
    exact k
theorem w_lets31 {rs : List (List Ky)} {ms : List Ky} (h3 : ∀ e ∈ ms, e.length = 3) (pw : ms.Pairwise ltK) (mem : ∀ x, x ∈ ms ↔ ∃ r ∈ rs, x ∈ r) (few : ms.length ≤ 1000) (few2 : (rs.map List.length).sum ≤ 1000) (few3 : rs.length ≤ 1000)
    (k : Q (.d (.bool true)) h) : W_lets_merged [.d (runsT rs), .d (runT ms)] h Q E := by
  refine fnW_mk rfl ?_
  unfold t_lets_merged
  obtain ⟨DD, hD⟩ : ∃ D, D = dEnd h Q := ⟨_, rfl⟩
  rw [← hD]
  unfold runsT runT
  show dSeq _ _ _ [some (.d (.tuple (rs.map runT))), some (.d (.tuple (ms.map tupN))), none, none, none, none, none, none, none] h
  walk_at "dl"
  refine k_andV (fun _ => ?_) fun z => by cases z
  walk_at "dl"
  refine ⟨by rw [sizeLine_eq, List.length_map]; omega, ?_⟩
  refine lc_enc (enc := tupN) (out := fun _ => PyData.bool true) (fun _ => true) (fun v hv => ⟨_, rfl, fun K hK => (by walk_at "dl"; exact hK), fun _ K hK => ?_⟩) ?_
  · walk_at "dl"
    refine w_is_entry (h3 v hv) ?_
    walk_at "dl"
    exact hK
  walk_at "dl"
  refine b_allT ?_
  walk_at "dl"
  refine w_need31 ?_
  walk_at "dl"
  refine e_wRg2 ?_
  walk_at "dl"
  rw [List.length_map]
  refine k_wRg2 ⟨by decide, by decide, by omega, by omega⟩ ?_
  refine for_inv (fun r σ h' => ∃ (i : Nat) (x2 : Option SV), r = (rgD 1 ((ms.length : Nat) : Int)).drop i ∧ h = h' ∧ σ = [some (.d (.tuple (rs.map runT))), some (.d (.tuple (ms.map tupN))), x2, none, none, none, none, none, none]) ?_ ?_ _ _ _ ⟨0, _, rfl, rfl, rfl⟩
  · rintro d r σ h' K ⟨i, x2, er, rfl, rfl⟩ hK
    obtain ⟨hi, rfl, rfl⟩ := rg1_drop er
    refine ⟨_, rfl, ?_⟩
    try simp only [List.set_cons_succ, List.set_cons_zero]
    walk_at "dl"
    have g1 : (ms.map tupN)[i]? = some (tupN (ms[i]'(by omega))) := by rw [List.getElem?_map, List.getElem?_eq_getElem (by omega)]; rfl
    have g2 : (ms.map tupN)[i + 1]? = some (tupN (ms[i + 1]'hi)) := by rw [List.getElem?_map, List.getElem?_eq_getElem hi]; rfl
    rw [show (((i + 1 : Nat) : Int) - 1) = (i : Nat) from by push_cast; omega]
    refine r_ixT (at_nat g1) ?_
    walk_at "dl"
    refine r_ixT (at_nat g2) ?_
    walk_at "dl"
    refine r_ltK ?_
    rw [show lexL ms[i] ms[i + 1] = true from List.pairwise_iff_getElem.mp pw i (i + 1) (by omega) hi (by omega)]
    walk_at "dl"
    refine w_need31 ?_
    walk_at "dl"
    exact hK _ _ ⟨i + 1, _, rfl, rfl, rfl⟩
  · rintro σ h' ⟨i, x2, er, rfl, rfl⟩
    walk_at "dl"
    refine e_dcQ ?_
    walk_at "dl"
    refine k_dcQ rfl (by omega) fun p hp => ?_
    walk_at "dl"
    try simp only [List.set_cons_succ, List.set_cons_zero]
    have hin : ∀ c ∈ ms, (lookQ (allQd ms) c).isSome = true := fun c hc => by
      rw [look_mem, decide_eq_true_eq]
      exact (fold_in ms []).mpr (.inr hc)
    refine for_inv (fun r σ h' => ∃ (R1 R2 : List (List Ky)) (x2 x5 x6 x7 : Option SV), rs = R1 ++ R2 ∧ r = enumR R1.length R2 ∧ h' = mput h p (.dcT p (allQd ms)) ∧ σ = [some (.d (.tuple (rs.map runT))), some (.d (.tuple (ms.map tupN))), x2, some (.own p), none, x5, x6, x7, none]) ?_ ?_ _ _ _ ⟨[], rs, _, _, _, _, rfl, rfl, rfl, rfl⟩
    · rintro d r σ h' K ⟨R1, R2, y2, y5, y6, y7, eR, er, rfl, rfl⟩ hK
      cases R2 with
      | nil => cases er
      | cons r0 R3 =>
        have er' : d :: r = .tuple [.int (R1.length : Nat), .tuple (r0.map tupN)] :: enumR (R1.length + 1) R3 := er
        injection er' with e1 e2
        subst e1 e2
        have sub : ∀ c ∈ r0, c ∈ ms := fun c hc => (mem c).mpr ⟨r0, by rw [eR]; simp, hc⟩
        refine ⟨[some (.d (.tuple (rs.map runT))), some (.d (.tuple (ms.map tupN))), y2, some (.own p), none, some (.d (.int (R1.length : Nat))), some (.d (.tuple (r0.map tupN))), y7, none], rfl, ?_⟩
        walk_at "dl"
        refine for_inv (fun r σ h' => ∃ (i : Nat) (x2 x7 : Option SV), r = (enumD (r0.map tupN)).drop i ∧ h' = mput h p (.dcT p (allQd ms)) ∧ σ = [some (.d (.tuple (rs.map runT))), some (.d (.tuple (ms.map tupN))), x2, some (.own p), none, some (.d (.int (R1.length : Nat))), some (.d (.tuple (r0.map tupN))), x7, none]) ?_ ?_ _ _ _ ⟨0, _, _, rfl, rfl, rfl⟩
        · rintro d r σ h' K2 ⟨i, z2, z7, er2, rfl, rfl⟩ hK2
          have hi : i < r0.length := by
            by_cases q : i < r0.length
            · exact q
            · rw [List.drop_of_length_le (by unfold enumD; simp; omega)] at er2
              cases er2
          have g := enumD_get (ds := r0.map tupN) (i := i) (a := tupN r0[i]) (by rw [List.getElem?_map, List.getElem?_eq_getElem hi]; rfl)
          obtain ⟨hl, ge⟩ := List.getElem?_eq_some_iff.mp g
          rw [List.drop_eq_getElem_cons hl, ge] at er2
          injection er2 with e3 e4
          subst e3 e4
          refine ⟨[some (.d (.tuple (rs.map runT))), some (.d (.tuple (ms.map tupN))), some (.d (.int (i : Nat))), some (.own p), none, some (.d (.int (R1.length : Nat))), some (.d (.tuple (r0.map tupN))), some (.d (tupN r0[i])), none], rfl, ?_⟩
          walk_at "dl"
          refine r_inQ put_same tupI_N ?_
          rw [hin _ (sub _ (List.getElem_mem hi))]
          walk_at "dl"
          refine w_need31 ?_
          walk_at "dl"
          exact hK2 _ _ ⟨i + 1, _, _, rfl, rfl, rfl⟩
        · rintro σ h' ⟨i, z2, z7, er2, rfl, rfl⟩
          exact hK _ _ ⟨R1 ++ [r0], R3, _, _, _, _, by rw [eR]; simp, by simp, rfl, rfl⟩
    · rintro σ h' ⟨R1, R2, y2, y5, y6, y7, eR, er, rfl, rfl⟩
      walk_at "dl"
      refine e_dq2 ?_
      walk_at "dl"
      intro g hg
      have gp : g ≠ p := fun e => by rw [e, put_same] at hg; cases hg
      have hg0 : h g = none := by rwa [put_other gp] at hg
      refine out_go rs [] _ put_same (by simpa using (Nat.le_trans few2 (by decide))) ?_
      rw [put_put]
      walk_at "dl"
      try simp only [List.set_cons_succ, List.set_cons_zero]
      have hin2 : ∀ c ∈ ms, (lookQ (givL [] rs) c).isSome = true := fun c hc => by
        rw [look_mem, decide_eq_true_eq]
        exact (giv_in rs []).mpr (.inr ((mem c).mp hc))
      refine for_inv (fun r σ h' => ∃ (i : Nat) (x2 x5 x6 x7 : Option SV), r = (enumD (ms.map tupN)).drop i ∧ h' = mput (mput h p (.dcT p (allQd ms))) g (.dcT g (givL [] rs)) ∧ σ = [some (.d (.tuple (rs.map runT))), some (.d (.tuple (ms.map tupN))), x2, some (.own p), some (.own g), x5, x6, x7, none]) ?_ ?_ _ _ _ ⟨0, _, _, _, _, rfl, rfl, rfl⟩
      · rintro d r σ h' K2 ⟨i, z2, z5, z6, z7, er2, rfl, rfl⟩ hK2
        have hi : i < ms.length := by
          by_cases q : i < ms.length
          · exact q
          · rw [List.drop_of_length_le (by unfold enumD; simp; omega)] at er2
            cases er2
        have g' := enumD_get (ds := ms.map tupN) (i := i) (a := tupN ms[i]) (by rw [List.getElem?_map, List.getElem?_eq_getElem hi]; rfl)
        obtain ⟨hl, ge⟩ := List.getElem?_eq_some_iff.mp g'
        rw [List.drop_eq_getElem_cons hl, ge] at er2
        injection er2 with e3 e4
        subst e3 e4
        refine ⟨[some (.d (.tuple (rs.map runT))), some (.d (.tuple (ms.map tupN))), some (.d (.int (i : Nat))), some (.own p), some (.own g), z5, z6, some (.d (tupN ms[i])), none], rfl, ?_⟩
        walk_at "dl"
        refine r_inQ put_same tupI_N ?_
        rw [hin2 _ (List.getElem_mem hi)]
        walk_at "dl"
        refine w_need31 ?_
        walk_at "dl"
        exact hK2 _ _ ⟨i + 1, _, _, _, _, rfl, rfl, rfl⟩
      · rintro σ h' ⟨i, z2, z5, z6, z7, er2, rfl, rfl⟩
        walk_at "dl"
        rw [hD]
        refine e_rt ?_
        have e : restr h (mput (mput h p (.dcT p (allQd ms))) g (.dcT g (givL [] rs))) (.d (.bool true)) = h := by
          funext b
          unfold restr
          cases q : h b with
          | none => simp [SV.isOwn]
          | some o =>
            have b1 : b ≠ g := fun e => by rw [e, hg0] at q; cases q
            have b2 : b ≠ p := fun e => by rw [e, hp] at q; cases q
            simp [put_other b1, put_other b2, q]
        rw [e]
        exact k
end

/-! ### k31: the law -/
theorem k_sstMD {ks : List (List Int)} {h : MH} {QL : List PyData → MH → Prop} (hl : ks.length + 1 < 76) (h3 : ∀ k ∈ ks, k.length = 3) (k : ∀ ms : List Ky, ms.Pairwise ltK → (∀ k, k ∈ ms ↔ k ∈ ks) → QL (ms.map tupN) h) : sstKM QL (.d (.list (ks.map tupN))) h := by
  unfold sstKM
  exact ⟨ks, 3, ks, rfl, hl, fun k hk => hk, by decide, h3, fun ms a b => k ms a b⟩
theorem runsT_app (a b : List (List Ky)) : a.map runT ++ b.map runT = (a ++ b).map runT := List.map_append.symm
theorem left_sum : ∀ rs : List (List Ky), leftL (rs.zip (rs.map fun _ => 0)) = (rs.map List.length).sum
  | [] => rfl
  | r :: rs => by
    have ih := left_sum rs
    unfold leftL at ih ⊢
    simp only [List.map_cons, List.zip_cons_cons, List.sum_cons] at ih ⊢
    rw [ih]
    rfl
theorem noTp_feed {a : Addr} {o : MO} {sc : List Int} {C : Int} (F : FdA sc C o) : noTp (mput (fun _ => none) a o) = mput (fun _ => none) a o := by
  obtain ⟨i, p, j, eo, _⟩ := F
  rw [noTp_put (fun xs e => by rw [eo] at e; cases e) (fun xs e => by rw [eo] at e; cases e)]
  rw [noTp_id (fun b xs e => by cases e) (fun b xs e => by cases e)]
/-- runs cut and merged, on a heap that has but the feed -/
structure Cut (es : List Ky) (rs : List (List Ky)) : Prop where
  good : ∀ r ∈ rs, r.Pairwise ltK ∧ ∀ e ∈ r, e.length = 3
  few : rs.length ≤ es.length
  sum : leftL (rs.zip (rs.map fun _ => 0)) ≤ es.length
  mem : ∀ x, (∃ r ∈ rs, x ∈ r) ↔ x ∈ es
section
variable {Q : DK} {E : DXK} {a : Addr} {o : MO} {sc : List Int} {C : Int} {h : MH}
theorem w_cut {es : List Ky} {m : Nat} (hl : es.length ≤ 100) (h3 : ∀ e ∈ es, e.length = 3) (hm : 1 ≤ m) (hm2 : m ≤ 60) (k : ∀ rs, Cut es rs → Q (.d (runsT rs)) h) : W_runs_of [.d (.list (es.map tupN)), .d (.int (m : Nat))] h Q E :=
  w_runsK hl h3 hm hm2 fun rs a b c d => k rs ⟨b, a, c, d⟩
theorem w_mrg {rs : List (List Ky)} (F : FdA sc C o) (h3 : ∀ r ∈ rs, r.Pairwise ltK ∧ ∀ e ∈ r, e.length = 3) (few : rs.length ≤ 100) (tot : leftL (rs.zip (rs.map fun _ => 0)) ≤ 1000)
    (k : ∀ ms : List Ky, ms.Pairwise ltK → (∀ x, x ∈ ms ↔ ∃ r ∈ rs, x ∈ r) → Q (.d (runT ms)) (mput (fun _ => none) a o)) : W_merge_runs [.d (runsT rs)] (mput (fun _ => none) a o) Q E := by
  refine w_merge (fun r hr => (h3 r hr).2) (fun r hr => (h3 r hr).1) few tot fun ms pw mem => ?_
  rw [noTp_feed F]
  exact k ms pw mem
end
theorem law_pure : ∀ ns : List Int, ns.length ≤ 63 → (∀ z ∈ ns, Builtin.Int.intBits z ≤ 1048576) → W_law [.d (.list (ns.map PyData.int))] (fun _ => none) (fun r _ => r = .d (.bool true)) fun _ _ => False := by
  intro ns hlen _
  refine fnW_mk rfl ?_
  unfold t_law
  obtain ⟨DD, hDD⟩ : ∃ D, D = dEnd (fun _ => none) (fun r _ => r = .d (.bool true)) := ⟨_, rfl⟩
  rw [← hDD]
  show dSeq _ _ _ [some (.d (.list (ns.map PyData.int))), none, none, none, none, none, none, none, none, none, none] _
  walk_at "dl"
  refine wA_feed fun a o ha0 F => ?_
  try simp only [List.set_cons_succ, List.set_cons_zero]
  walk_at "dl"
  refine wA_draw put_same F (by decide) ⟨by decide, by decide⟩ fun m o1 m0 m1 F1 => ?_
  rw [put_put]
  obtain ⟨mn, rfl, hmn⟩ : ∃ n : Nat, m = (n : Nat) ∧ n ≤ 50 := ⟨m.toNat, by omega, by omega⟩
  walk_at "dl"
  refine k_wRg1 ⟨by omega, by omega⟩ ?_
  have lr : (rgD 0 ((mn : Nat) : Int)).length = mn := by rw [rgD_length]; omega
  refine ⟨by rw [sizeLine_eq, lr]; omega, ?_⟩
  refine lc_inv (fun r acc h' => ∃ (es : List Ky) (o' : MO), acc = es.map tupN ∧ es.length + r.length = mn ∧ (∀ e ∈ es, Ent e) ∧ h' = mput (fun _ => none) a o' ∧ FdA (ns.take 63) (1 + 4 * es.length) o') ?_ ?_ _ [] _
    ⟨[], o1, rfl, by simpa using lr, (fun x hx => by cases hx), rfl, F1.up (by decide)⟩
  · rintro d r acc h' K2 ⟨es, o', rfl, hl, hes, rfl, F'⟩ hK2
    rw [List.length_cons] at hl
    refine ⟨_, rfl, ?_⟩
    walk_at "dl"
    refine k_lc (fun _ => ?_) (fun q => by cases q)
    walk_at "dl"
    refine wA_draw put_same F' (by omega) ⟨by decide, by decide⟩ fun v o4 v0 v1 F4 => ?_
    rw [put_put]
    obtain ⟨b, hb, eb⟩ : ∃ b : Int, (b = 4 ∨ b = 20) ∧ atI [PyData.int 4, PyData.int 20] v = some (.int b) := by
      have : v = 0 ∨ v = 1 := by omega
      rcases this with rfl | rfl
      · exact ⟨4, .inl rfl, rfl⟩
      · exact ⟨20, .inr rfl, rfl⟩
    refine r_ixL eb ?_
    walk_at "dl"
    refine w_entry put_same F4 (by omega) (by omega) fun e o5 he F5 => ?_
    rw [put_put]
    refine k_lcE (hK2 _ _ ⟨es ++ [e], o5, by simp, by rw [List.length_append, List.length_singleton]; omega, fun z hz => ?_, rfl, F5.up (by rw [List.length_append, List.length_singleton]; push_cast; omega)⟩)
    rcases List.mem_append.mp hz with q | q
    · exact hes z q
    · rw [List.mem_singleton.mp q]; exact he
  rintro acc h' ⟨es, o2, rfl, hl, hes, rfl, F2⟩
  have les : es.length = mn := by simpa using hl
  have F2' : FdA (ns.take 63) 300 o2 := F2.up (by omega)
  clear hl F2
  walk_at "dl"
  try simp only [List.set_cons_succ, List.set_cons_zero]
  walk_at "dl"
  refine wA_draw put_same F2' (by decide) ⟨by decide, by decide⟩ fun m2 o3 m20 m21 F3 => ?_
  rw [put_put]
  obtain ⟨mk, rfl, hmk⟩ : ∃ n : Nat, m2 = (n : Nat) ∧ n ≤ 19 := ⟨m2.toNat, by omega, by omega⟩
  walk_at "dl"
  refine k_wRg1 ⟨by omega, by omega⟩ ?_
  have lr2 : (rgD 0 ((mk : Nat) : Int)).length = mk := by rw [rgD_length]; omega
  refine ⟨by rw [sizeLine_eq, lr2]; omega, ?_⟩
  refine lc_inv (fun r acc h' => ∃ (fs : List Ky) (o' : MO), acc = fs.map tupN ∧ fs.length + r.length = mk ∧ (∀ e ∈ fs, Ent e) ∧ h' = mput (fun _ => none) a o' ∧ FdA (ns.take 63) (301 + 4 * fs.length) o') ?_ ?_ _ [] _
    ⟨[], o3, rfl, by simpa using lr2, (fun x hx => by cases hx), rfl, F3.up (by decide)⟩
  · rintro d r acc h' K2 ⟨fs, o', rfl, hl, hes, rfl, F'⟩ hK2
    rw [List.length_cons] at hl
    refine ⟨_, rfl, ?_⟩
    walk_at "dl"
    refine k_lc (fun _ => ?_) (fun q => by cases q)
    walk_at "dl"
    refine w_entry put_same F' (by omega) ⟨by decide, by decide⟩ fun e o5 he F5 => ?_
    rw [put_put]
    refine k_lcE (hK2 _ _ ⟨fs ++ [e], o5, by simp, by rw [List.length_append, List.length_singleton]; omega, fun z hz => ?_, rfl, F5.up (by rw [List.length_append, List.length_singleton]; push_cast; omega)⟩)
    rcases List.mem_append.mp hz with q | q
    · exact hes z q
    · rw [List.mem_singleton.mp q]; exact he
  rintro acc h' ⟨fs, o4, rfl, hl, hfs, rfl, F4⟩
  have lfs : fs.length = mk := by simpa using hl
  have F4' : FdA (ns.take 63) 500 o4 := F4.up (by omega)
  clear hl F4
  have e3 : ∀ e ∈ es, e.length = 3 := fun e he => (hes e he).three
  have f3 : ∀ e ∈ fs, e.length = 3 := fun e he => (hfs e he).three
  have b3 : ∀ e ∈ es ++ fs, e.length = 3 := fun e he => (List.mem_append.mp he).elim (e3 e) (f3 e)
  walk_at "dl"
  try simp only [List.set_cons_succ, List.set_cons_zero]
  refine e_sstM ?_
  walk_at "dl"
  refine k_sstMD (by omega) e3 fun due pwD memD => ?_
  have ldue : due.length ≤ es.length := nodup_len due es (pwD.imp fun {x y} (q : ltK x y) (e : x = y) => by subst e; exact ltK_irr q) fun x hx => (memD x).mp hx
  have d3 : ∀ e ∈ due, e.length = 3 := fun e he => e3 e ((memD e).mp he)
  walk_at "dl"
  try simp only [List.set_cons_succ, List.set_cons_zero]
  walk_at "dl"
  refine wA_draw put_same F4' (by decide) ⟨by decide, by decide⟩ fun v o5 v0 v1 F5 => ?_
  rw [put_put]
  obtain ⟨mo, hmo, hmo1, hmo60⟩ : ∃ n : Nat, (1 : Int) + v = (n : Nat) ∧ 1 ≤ n ∧ n ≤ 60 := ⟨(1 + v).toNat, by omega, by omega, by omega⟩
  walk_at "dl"
  rw [hmo]
  obtain ⟨L, hL, eL⟩ : ∃ L : List Nat, (∀ x ∈ L, 1 ≤ x ∧ x ≤ 60) ∧ [PyData.int 1, .int 2, .int 3, .int 7, .int (mo : Nat)] = L.map fun x => PyData.int (x : Nat) :=
    ⟨[1, 2, 3, 7, mo], fun x hx => by simp only [List.mem_cons, List.not_mem_nil, or_false] at hx; omega, rfl⟩
  rw [eL]
  clear eL
  refine for_inv (fun r σ h' => ∃ (L2 : List Nat) (x5 x7 x10 : Option SV), r = L2.map (fun x => PyData.int (x : Nat)) ∧ (∀ x ∈ L2, 1 ≤ x ∧ x ≤ 60) ∧ h' = mput (fun _ => none) a o5 ∧
    σ = [some (.d (.list (ns.map PyData.int))), some (.own a), some (.d (.list (es.map tupN))), some (.d (.list (fs.map tupN))), some (.d (.tuple (due.map tupN))), x5, none, x7, none, none, x10]) ?_ ?_ _ _ _ ⟨L, _, _, _, rfl, hL, rfl, rfl⟩
  · rintro d r σ h' K ⟨L2, x5, x7, x10, er, g2, rfl, rfl⟩ hK
    obtain ⟨x, L3, rfl, rfl, rfl⟩ := map_cons_inv er
    obtain ⟨g1, g60⟩ := g2 x List.mem_cons_self
    refine ⟨[some (.d (.list (ns.map PyData.int))), some (.own a), some (.d (.list (es.map tupN))), some (.d (.list (fs.map tupN))), some (.d (.tuple (due.map tupN))), some (.d (.int (x : Nat))), none, x7, none, none, x10], rfl, ?_⟩
    walk_at "dl"
    refine w_cut (by omega) e3 g1 g60 fun rs c => ?_
    try simp only [List.set_cons_succ, List.set_cons_zero]
    walk_at "dl"
    refine w_mrg F5 c.good (by have := c.few; omega) (by have := c.sum; omega) fun mg pwm memM => ?_
    have emg : mg = due := srt_uniq pwm pwD fun y => by rw [memM, c.mem, memD]
    subst emg
    walk_at "dl"
    refine r_ne rfl rfl shaped_tupP shaped_tupP ?_
    first | rw [eqv_tupLL, decide_eq_true rfl] | rw [show runT mg = PyData.tuple (mg.map tupN) from rfl, eqv_tupLL, decide_eq_true rfl]
    walk_at "dl"
    refine k_or (fun z => by cases z) fun _ => ?_
    walk_at "dl"
    refine w_lets31 d3 pwD (fun y => by rw [memM]) (by omega) (by rw [← left_sum]; have := c.sum; omega) (by have := c.few; omega) ?_
    walk_at "dl"
    refine k_if (fun z => by cases z) fun _ => ?_
    walk_at "dl"
    exact hK _ _ ⟨L3, _, _, _, rfl, fun y hy => g2 y (List.mem_cons_of_mem _ hy), rfl, rfl⟩
  · rintro σ h' ⟨L2, x5, x7, x10, er, g2, rfl, rfl⟩
    walk_at "dl"
    refine wA_draw put_same F5 (by decide) ⟨by decide, by decide⟩ fun v1 o6 y0 y1 F6 => ?_
    rw [put_put]
    obtain ⟨n1, hn1, hn11, hn19⟩ : ∃ n : Nat, (1 : Int) + v1 = (n : Nat) ∧ 1 ≤ n ∧ n ≤ 9 := ⟨(1 + v1).toNat, by omega, by omega, by omega⟩
    walk_at "dl"
    rw [hn1]
    refine w_cut (by omega) e3 hn11 (by omega) fun one c1 => ?_
    walk_at "dl"
    refine wA_draw put_same F6 (by decide) ⟨by decide, by decide⟩ fun v2 o7 z0 z1 F7 => ?_
    rw [put_put]
    obtain ⟨n2, hn2, hn21, hn29⟩ : ∃ n : Nat, (1 : Int) + v2 = (n : Nat) ∧ 1 ≤ n ∧ n ≤ 9 := ⟨(1 + v2).toNat, by omega, by omega, by omega⟩
    walk_at "dl"
    rw [hn2]
    refine w_cut (by omega) f3 hn21 (by omega) fun two c2 => ?_
    have s1 := c1.few
    have s2 := c2.few
    have t1 := c1.sum
    have t2 := c2.sum
    walk_at "dl"
    try simp only [List.set_cons_succ, List.set_cons_zero]
    unfold runsT
    walk_at "dl"
    refine r_addT (by rw [List.length_map, List.length_map]; omega) ?_
    rw [runsT_app]
    walk_at "dl"
    show W_merge_runs [.d (runsT (one ++ two))] _ _ _
    refine w_mrg F7 (fun r hr => (List.mem_append.mp hr).elim (c1.good r) (c2.good r)) (by rw [List.length_append]; omega) (by rw [left_sum, List.map_append, List.sum_append, ← left_sum, ← left_sum]; omega) fun bt pwB memB => ?_
    have memB2 : ∀ x, x ∈ bt ↔ x ∈ es ++ fs := fun x => by
      rw [memB, List.mem_append, ← c1.mem, ← c2.mem]
      constructor
      · rintro ⟨r, hr, hx⟩
        exact (List.mem_append.mp hr).elim (fun z => .inl ⟨r, z, hx⟩) fun z => .inr ⟨r, z, hx⟩
      · rintro (⟨r, hr, hx⟩ | ⟨r, hr, hx⟩)
        · exact ⟨r, List.mem_append_left _ hr, hx⟩
        · exact ⟨r, List.mem_append_right _ hr, hx⟩
    walk_at "dl"
    try simp only [List.set_cons_succ, List.set_cons_zero]
    unfold runT
    walk_at "dl"
    refine e_sstM ?_
    walk_at "dl"
    refine r_addL (by rw [List.length_map, List.length_map]; omega) ?_
    rw [← List.map_append]
    refine k_sstMD (by rw [List.length_append]; omega) b3 fun dB pwDB memDB => ?_
    have eB : bt = dB := srt_uniq pwB pwDB fun x => by rw [memB2, memDB]
    subst eB
    walk_at "dl"
    refine r_ne rfl rfl shaped_tupP shaped_tupP ?_
    rw [eqv_tupLL, decide_eq_true rfl]
    walk_at "dl"
    refine k_or (fun z => by cases z) fun _ => ?_
    walk_at "dl"
    show W_merge_runs [.d (runsT one)] _ _ _
    refine w_mrg F7 c1.good (by omega) (by omega) fun m1 pw1 mem1 => ?_
    walk_at "dl"
    show W_merge_runs [.d (runsT two)] _ _ _
    refine w_mrg F7 c2.good (by omega) (by omega) fun m2 pw2 mem2 => ?_
    have in1 : ∀ x, x ∈ m1 ↔ x ∈ es := fun x => by rw [mem1, c1.mem]
    have in2 : ∀ x, x ∈ m2 ↔ x ∈ fs := fun x => by rw [mem2, c2.mem]
    have l1 : m1.length ≤ es.length := nodup_len m1 es (pw1.imp fun {x y} (q : ltK x y) (e : x = y) => by subst e; exact ltK_irr q) fun x hx => (in1 x).mp hx
    have l2 : m2.length ≤ fs.length := nodup_len m2 fs (pw2.imp fun {x y} (q : ltK x y) (e : x = y) => by subst e; exact ltK_irr q) fun x hx => (in2 x).mp hx
    walk_at "dl"
    show W_merge_runs [.d (runsT [m1, m2])] _ _ _
    refine w_mrg F7 (fun r hr => ?_) (by show (2 : Nat) ≤ 100; decide) ?_ fun m3 pw3 mem3 => ?_
    · simp only [List.mem_cons, List.not_mem_nil, or_false] at hr
      rcases hr with rfl | rfl
      · exact ⟨pw1, fun e he => e3 e ((in1 e).mp he)⟩
      · exact ⟨pw2, fun e he => f3 e ((in2 e).mp he)⟩
    · rw [left_sum]
      simp only [List.map_cons, List.map_nil, List.sum_cons, List.sum_nil]
      omega
    have em3 : m3 = bt := srt_uniq pw3 pwB fun x => by
      rw [mem3, memB2, List.mem_append, ← in1, ← in2]
      simp
    subst em3
    walk_at "dl"
    refine r_ne rfl rfl shaped_tupP shaped_tupP ?_
    first | rw [eqv_tupLL, decide_eq_true rfl] | rw [show runT m3 = PyData.tuple (m3.map tupN) from rfl, eqv_tupLL, decide_eq_true rfl]
    walk_at "dl"
    refine k_if (fun z => by cases z) fun _ => ?_
    walk_at "dl"
    refine r_addL (by rw [List.length_map, List.length_map]; omega) ?_
    rw [← List.map_append]
    walk_at "dl"
    refine wA_draw put_same F7 (by decide) ⟨by decide, by decide⟩ fun v3 o8 w0 w1 F8 => ?_
    rw [put_put]
    obtain ⟨n3, hn3, hn31, hn39⟩ : ∃ n : Nat, (1 : Int) + v3 = (n : Nat) ∧ 1 ≤ n ∧ n ≤ 9 := ⟨(1 + v3).toNat, by omega, by omega, by omega⟩
    walk_at "dl"
    rw [hn3]
    refine w_cut (by rw [List.length_append]; omega) b3 hn31 (by omega) fun rs c => ?_
    have s3 := c.few
    have t3 := c.sum
    rw [List.length_append] at s3 t3
    walk_at "dl"
    refine w_mrg F8 c.good (by omega) (by omega) fun m4 pw4 mem4 => ?_
    have em4 : m4 = m3 := srt_uniq pw4 pw3 fun x => by rw [mem4, c.mem, memB2]
    subst em4
    walk_at "dl"
    refine r_eq rfl rfl shaped_tupP shaped_tupP ?_
    first | rw [eqv_tupLL, decide_eq_true rfl] | rw [show runT m4 = PyData.tuple (m4.map tupN) from rfl, eqv_tupLL, decide_eq_true rfl]
    walk_at "dl"
    refine k_andV (fun _ => ?_) fun z => by cases z
    walk_at "dl"
    show W_merge_runs [.d (runsT [])] _ _ _
    refine w_mrg F8 (fun r hr => by cases hr) (by decide) (by decide) fun m5 pw5 mem5 => ?_
    have em5 : m5 = [] := by
      cases m5 with
      | nil => rfl
      | cons y ys =>
        obtain ⟨r, hr, _⟩ := (mem5 y).mp List.mem_cons_self
        cases hr
    subst em5
    walk_at "dl"
    try refine r_eq rfl rfl (show SeqAt.shaped (.tuple []) = true from rfl) (show SeqAt.shaped (.tuple []) = true from rfl) ?_
    try rw [show PyData.eqv (runT []) (.tuple []) = true from by simp [runT, PyData.eqv, PyData.eqvAll]]
    try rw [show PyData.eqv (.tuple []) (.tuple []) = true from by simp [PyData.eqv, PyData.eqvAll]]
    walk_at "dl"
    rw [hDD]
    exact e_rtA rfl

end DL.G
namespace DL.G
open PySem PySem.Spec PyProof.Rows L2
set_option autoImplicit true
theorem init_NoPaper {K : PySem.W.Frag} {mg : Str → Option Value} {C Cb : Addr} {fI : Addr} {fd : FuncData} {B newId initId : String} {bmB : List Value} (T : ErrC K mg "NoPaper" "StoreError" C Cb fI ["word", "at"] B newId initId bmB) (F : FunD K di_NoPaper.name di_NoPaper.qual di_NoPaper.params di_NoPaper.body di_NoPaper.scope [] [] fI fd) : Init2 K mg C fI "word" "at" :=
  fun prog w A R s e t0 v u X hl hg he hne hr k => err_init2 T F ⟨rfl, rfl, rfl, rfl, rfl, fun y hy => by
    rcases List.mem_cons.mp hy with e | e
    · subst e; exact ⟨rfl, by decide, by decide⟩
    · cases List.mem_singleton.mp e; exact ⟨rfl, by decide, by decide⟩⟩ (by decide) (fun _ _ _ _ _ _ us hl => match us, hl with | [_, _, _], _ => rfl) (fun _ => rfl) (fun _ => rfl) (by decide) (fun _ => rfl) (fun _ => rfl) X hl hg he hne hr k
theorem facts {w : World} {mg : Str → Option Value} {fa : Addr} {h : Heap} {K : PySem.W.Frag} (X : K.In h) (N : h.Ns mainGlobals mg) (hm : mg "law" = some (.ref fa)) (S : He.SaysX fas fns [] tfs exB w h K) :
    ∃ fd : FuncData, (∀ (s : Shared) (u : Value), BindsTo s fd ⟨[u], []⟩ [("_law_script", u)]) ∧ ∀ base : Heap, K.In base → base.Ns mainGlobals mg → (∀ c ∈ tfs.map (He.cT K), LamX.TabB base mg c.1 c.2) → FnG (PySem.Challenge.rw_besideindex_k31_whole_runs).prog w K mg base (tabsT K tfs nm) 4 fa fd ["_law_script"] W_law := by
  obtain ⟨fd_is_number, D_is_number⟩ := S.t.d.def_ 0 (d := d_is_number) rfl
  have F_is_number := fun_of (x := "is_number") (st := s_is_number) D_is_number
  have m_is_number := He.glo_ok X N (S.t.d.fact 0 (f := .glo "is_number") rfl)
  obtain ⟨fd_need, D_need⟩ := S.t.d.def_ 1 (d := d_need) rfl
  have F_need := fun_of (x := "need") (st := s_need) D_need
  have m_need := He.glo_ok X N (S.t.d.fact 1 (f := .glo "need") rfl)
  obtain ⟨fd_is_entry, D_is_entry⟩ := S.t.d.def_ 2 (d := d_is_entry) rfl
  have F_is_entry := fun_of (x := "is_entry") (st := s_is_entry) D_is_entry
  have m_is_entry := He.glo_ok X N (S.t.d.fact 2 (f := .glo "is_entry") rfl)
  obtain ⟨fd_runs_of, D_runs_of⟩ := S.t.d.def_ 3 (d := d_runs_of) rfl
  have F_runs_of := fun_of (x := "runs_of") (st := s_runs_of) D_runs_of
  have m_runs_of := He.glo_ok X N (S.t.d.fact 3 (f := .glo "runs_of") rfl)
  obtain ⟨fd_least_head, D_least_head⟩ := S.t.d.def_ 4 (d := d_least_head) rfl
  have F_least_head := fun_of (x := "least_head") (st := s_least_head) D_least_head
  have m_least_head := He.glo_ok X N (S.t.d.fact 4 (f := .glo "least_head") rfl)
  obtain ⟨fd_merge_runs, D_merge_runs⟩ := S.t.d.def_ 5 (d := d_merge_runs) rfl
  have F_merge_runs := fun_of (x := "merge_runs") (st := s_merge_runs) D_merge_runs
  have m_merge_runs := He.glo_ok X N (S.t.d.fact 5 (f := .glo "merge_runs") rfl)
  obtain ⟨fd_lets_merged, D_lets_merged⟩ := S.t.d.def_ 6 (d := d_lets_merged) rfl
  have F_lets_merged := fun_of (x := "lets_merged") (st := s_lets_merged) D_lets_merged
  have m_lets_merged := He.glo_ok X N (S.t.d.fact 6 (f := .glo "lets_merged") rfl)
  obtain ⟨fd__law_feed, D__law_feed⟩ := S.t.d.def_ 7 (d := d__law_feed) rfl
  have F__law_feed := fun_of (x := "_law_feed") (st := s__law_feed) D__law_feed
  have m__law_feed := He.glo_ok X N (S.t.d.fact 7 (f := .glo "_law_feed") rfl)
  obtain ⟨fd__law_draw, D__law_draw⟩ := S.t.d.def_ 8 (d := d__law_draw) rfl
  have F__law_draw := fun_of (x := "_law_draw") (st := s__law_draw) D__law_draw
  have m__law_draw := He.glo_ok X N (S.t.d.fact 8 (f := .glo "_law_draw") rfl)
  obtain ⟨fd__law_entry, D__law_entry⟩ := S.t.d.def_ 9 (d := d__law_entry) rfl
  have F__law_entry := fun_of (x := "_law_entry") (st := s__law_entry) D__law_entry
  have m__law_entry := He.glo_ok X N (S.t.d.fact 9 (f := .glo "_law_entry") rfl)
  obtain ⟨fd_law, D_law⟩ := S.t.d.def_ 10 (d := d_law) rfl
  have F_law := fun_of (x := "law") (st := s_law) D_law
  have m_law := He.glo_ok X N (S.t.d.fact 10 (f := .glo "law") rfl)
  have g_isinstance := He.free_ok X N (S.t.d.fact 11 (f := .free "isinstance") rfl)
  have g_int := He.free_ok X N (S.t.d.fact 12 (f := .free "int") rfl)
  have g_bool := He.free_ok X N (S.t.d.fact 13 (f := .free "bool") rfl)
  have g_tuple := He.free_ok X N (S.t.d.fact 14 (f := .free "tuple") rfl)
  have g_len := He.free_ok X N (S.t.d.fact 15 (f := .free "len") rfl)
  have g_all := He.free_ok X N (S.t.d.fact 16 (f := .free "all") rfl)
  have g_range := He.free_ok X N (S.t.d.fact 17 (f := .free "range") rfl)
  have g_sorted := He.free_ok X N (S.t.d.fact 18 (f := .free "sorted") rfl)
  have g_set := He.free_ok X N (S.t.d.fact 19 (f := .free "set") rfl)
  have g_list := He.free_ok X N (S.t.d.fact 20 (f := .free "list") rfl)
  have g_min := He.free_ok X N (S.t.d.fact 21 (f := .free "min") rfl)
  have g_zip := He.free_ok X N (S.t.d.fact 22 (f := .free "zip") rfl)
  have g_enumerate := He.free_ok X N (S.t.d.fact 23 (f := .free "enumerate") rfl)
  have g_abs := He.free_ok X N (S.t.d.fact 24 (f := .free "abs") rfl)
  have m_NoPaper := He.glo_ok X N (S.t.d.fact 25 (f := .glo "NoPaper") rfl)
  have m_StoreError := He.glo_ok X N (S.t.d.fact 26 (f := .glo "StoreError") rfl)
  have ex0 : exB K = true := S.more
  unfold exB at ex0
  have x0 := ex0
  obtain ⟨fdi_NoPaper, Di_NoPaper⟩ := S.t.d.def_ 11 (d := di_NoPaper) rfl
  have T_NoPaper := errB_ok PySem.F.excBase_ValueError PySem.F.store_ValueError (by decide +kernel) m_NoPaper m_StoreError x0
  have e_NoPaper : Err2 K mg "NoPaper" "word" "at" := ⟨_, _, _, _, _, _, _, T_NoPaper, init_NoPaper T_NoPaper Di_NoPaper⟩
  have e := hm.symm.trans m_law
  cases e
  refine ⟨fd_law, fun s u => FunD.bindsA (ps := ["_law_script"]) D_law (fun _ _ _ _ _ _ us hl => match us, hl with | [_], _ => rfl) s [u] rfl, fun base KB NB TB => ?_⟩
  have c_is_number : FnC (PySem.Challenge.rw_besideindex_k31_whole_runs).prog w K mg base (tabsT K tfs nm) 1 "is_number" ["thing"] W_is_number := fn_c F_is_number (f_is_number (k := 0) F_is_number g_isinstance g_int g_bool) m_is_number fun _ _ _ _ _ _ us hl => match us, hl with | [_], _ => rfl
  have c_need : FnC (PySem.Challenge.rw_besideindex_k31_whole_runs).prog w K mg base (tabsT K tfs nm) 1 "need" ["truth", "word", "at"] W_need := fn_c F_need (f_need (k := 0) F_need e_NoPaper) m_need fun _ _ _ _ _ _ us hl => match us, hl with | [_, _, _], _ => rfl
  have c_is_entry : FnC (PySem.Challenge.rw_besideindex_k31_whole_runs).prog w K mg base (tabsT K tfs nm) 2 "is_entry" ["thing"] W_is_entry := fn_c F_is_entry (f_is_entry (k := 1) F_is_entry (c_is_number.up (by decide)) g_isinstance g_tuple g_len g_all) m_is_entry fun _ _ _ _ _ _ us hl => match us, hl with | [_], _ => rfl
  have c_runs_of : FnC (PySem.Challenge.rw_besideindex_k31_whole_runs).prog w K mg base (tabsT K tfs nm) 1 "runs_of" ["entries", "most"] W_runs_of := fn_c F_runs_of (f_runs_of (k := 0) F_runs_of g_range g_len g_sorted g_set g_tuple g_list) m_runs_of fun _ _ _ _ _ _ us hl => match us, hl with | [_, _], _ => rfl
  have c_least_head : FnC (PySem.Challenge.rw_besideindex_k31_whole_runs).prog w K mg base (tabsT K tfs nm) 1 "least_head" ["runs", "places"] W_least_head := fn_c F_least_head (f_least_head (k := 0) F_least_head g_min g_zip g_len) m_least_head fun _ _ _ _ _ _ us hl => match us, hl with | [_, _], _ => rfl
  have c_merge_runs : FnC (PySem.Challenge.rw_besideindex_k31_whole_runs).prog w K mg base (tabsT K tfs nm) 2 "merge_runs" ["runs"] W_merge_runs := fn_c F_merge_runs (f_merge_runs (k := 1) F_merge_runs (c_least_head.up (by decide)) g_tuple g_enumerate) m_merge_runs fun _ _ _ _ _ _ us hl => match us, hl with | [_], _ => rfl
  have c_lets_merged : FnC (PySem.Challenge.rw_besideindex_k31_whole_runs).prog w K mg base (tabsT K tfs nm) 3 "lets_merged" ["runs", "thing"] W_lets_merged := fn_c F_lets_merged (f_lets_merged (k := 2) F_lets_merged (c_need.up (by decide)) (c_is_entry.up (by decide)) g_enumerate g_range g_len g_isinstance g_tuple g_all) m_lets_merged fun _ _ _ _ _ _ us hl => match us, hl with | [_, _], _ => rfl
  have c__law_feed : FnC (PySem.Challenge.rw_besideindex_k31_whole_runs).prog w K mg base (tabsT K tfs nm) 1 "_law_feed" ["_law_script"] W__law_feed := fn_c F__law_feed (f__law_feed (k := 0) F__law_feed g_list) m__law_feed fun _ _ _ _ _ _ us hl => match us, hl with | [_], _ => rfl
  have c__law_draw : FnC (PySem.Challenge.rw_besideindex_k31_whole_runs).prog w K mg base (tabsT K tfs nm) 1 "_law_draw" ["_law_feed_here", "_law_many"] W__law_draw := fn_c F__law_draw (f__law_draw (k := 0) F__law_draw g_len g_int g_abs) m__law_draw fun _ _ _ _ _ _ us hl => match us, hl with | [_, _], _ => rfl
  have c__law_entry : FnC (PySem.Challenge.rw_besideindex_k31_whole_runs).prog w K mg base (tabsT K tfs nm) 2 "_law_entry" ["_law_feed_here", "_law_broad"] W__law_entry := fn_c F__law_entry (f__law_entry (k := 1) F__law_entry (c__law_draw.up (by decide))) m__law_entry fun _ _ _ _ _ _ us hl => match us, hl with | [_, _], _ => rfl
  exact f_law (k := 3) F_law (c_merge_runs.up (by decide)) (c_runs_of.up (by decide)) (c__law_draw.up (by decide)) (c_lets_merged.up (by decide)) (c__law_entry.up (by decide)) (c__law_feed.up (by decide)) g_sorted g_set g_tuple g_range
end DL.G
open PySem PySem.W PySem.Calls PyProof.Rows
theorem PySem.Challenge.cw_besideindex_k31_whole_runs_holds : PySem.Challenge.rw_besideindex_k31_whole_runs.Holds := by
  w_on; o_law
  refine HandSHeadRun.head_any (r := OpenLaw.row PySem.Challenge.rw_besideindex_k31_whole_runs) (q := view (OpenLaw.row PySem.Challenge.rw_besideindex_k31_whole_runs).prog [17]) (H := DL.G.hk) (ob := DL.G.ob) (M := 4000) (loose := DL.G.loose)
    (d := HandSHeadRun.topDef (OpenLaw.row PySem.Challenge.rw_besideindex_k31_whole_runs).prog 17) (kwd := []) DL.G.ob_eq
    (by kernel_rfl) (fun s => by kernel_rfl) DL.G.run (by kernel_rfl) (by kernel_rfl) (by kernel_rfl) (by rfl) (by first | assumption | decide +kernel) (by decide +kernel) ⟨rfl, rfl, rfl, rfl, rfl, by decide +kernel⟩ ?hw ?hc
  case hw => w_witness2
  case hc =>
    refine DL.walk_gY (l := PySem.Challenge.rw_besideindex_k31_whole_runs) (n := 63) (k := 4) (x := "_law_script") (nm := DL.G.nm) (W := DL.G.W_law) rfl (by decide) (by kernel_rfl) ⟨rfl, by decide, by decide⟩ ?F DL.G.law_pure
    intro w mg fa h K X N hmg0 S
    have hmg : mg ("law" : PySem.Str) = some (.ref fa) := by
      have e : (HandSHeadRun.topDef (OpenLaw.row PySem.Challenge.rw_besideindex_k31_whole_runs).prog 17).name = ("law" : PySem.Str) := by kernel_rfl
      rw [← e]
      exact hmg0
    exact DL.G.facts X N hmg S
