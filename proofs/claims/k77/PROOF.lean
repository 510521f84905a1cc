import PyProof.Rows.All
import Wide.All
import OpenK.AllK
import Wide.FinOn
import KE.KStateDown
import Lean
import HandS.Base
import HandS.Call
import HandS.Ends
import HandS.More
import HandS.Words
import HandS.WordsExc
import HandS.Defaults
import HandS.Head0
import HandS.Head1
import HandS.Head2
import HandS.HeadEnd
import HandS.HeadHook1
import HandS.HeadHook2
import KE.KDictKeyed
import KE.KDictWalk
import KE.SortData
import HandS.ForMost
import HandS.ForExc
import HandS.Deep
import HandS.Flow
import HandS.Style
import HandS.TupAny
import HandS.IsInst
import KE.DataMinMax
import KE.KDictSum
import HandS.Text
import KE.GoesEnum
import KE.GoesMore
import HandS.Walk
import HandS.Comp
import KE.KDictDisplayH
import HandS.DictComp
import HandS.Sort
import HandS.WideBits
import KE.KDictCopyH
import PyProof.TupleOfSeq
import PyProof.ReprRoads
import HandS.RaiseMore
import HandS.Codes
import HandS.New
import PySem.Challenge.RW_tileshifts_k77_whole_boxes_filled_by_box
set_option Elab.async false
set_option linter.all false
set_option autoImplicit false
set_option maxRecDepth 1000000
set_option maxHeartbeats 0
namespace Dn
open PySem PySem.Spec PyProof.Rows L2

structure Wd where
  P : Program
  w : World
  K : PySem.W.Frag

abbrev Sg := L2.St
abbrev Ent := NestedKey × Addr × Value

/-- a dict with keys that are tuples of any depth -/
def dO (Γ : Wd) (a : Addr) (xs : List Ent) : HO := .ext fun h =>
  ∃ o es ep, h.get? a = some o ∧ o.ExactDict ∧ o.data = .dict es ep ∧ es.toList = xs.map (entryOfKey (nestedKind Γ.P Γ.w)) ∧ (xs.map (·.1)).Nodup ∧ (a == sysModules) = false ∧ xs.length ≤ sizeLine ∧ ∀ x ∈ xs, x.1.depth ≤ 8

/-- a list that is data: it never changes -/
def Fzl (H : Hp) (a : Addr) (xs : List V) : Prop := ∃ o, H a = some (.frz o (.lst xs))
def Fzd (Γ : Wd) (H : Hp) (a : Addr) (xs : List Ent) : Prop := ∃ o, H a = some (.frz o (dO Γ a xs))

mutual
inductive Df (Γ : Wd) (H : Hp) : V → PyData → Prop
  | non : Df Γ H .non .none
  | bl (b : Bool) : Df Γ H (.bl b) (.bool b)
  | int (i : Int) : Df Γ H (.int i) (.int i)
  | str (x : Str) : Df Γ H (.str x) (.str x)
  | lst {a : Addr} {xs : List V} {ds : List PyData} : Fzl H a xs → DfA Γ H xs ds → Df Γ H (.ref a) (.list ds)
  | tup {a : Addr} {xs : List V} {ds : List PyData} : SqT Γ.K H a xs → DfA Γ H xs ds → Df Γ H (.ref a) (.tuple ds)
  | dic {a : Addr} {xs : List Ent} {kvs : List (PyData × PyData)} : Fzd Γ H a xs → DfE Γ H xs kvs → Df Γ H (.ref a) (.dict kvs)
inductive DfA (Γ : Wd) (H : Hp) : List V → List PyData → Prop
  | nil : DfA Γ H [] []
  | cons {v : V} {vs : List V} {d : PyData} {ds : List PyData} : Df Γ H v d → DfA Γ H vs ds → DfA Γ H (v :: vs) (d :: ds)
inductive DfE (Γ : Wd) (H : Hp) : List Ent → List (PyData × PyData) → Prop
  | nil : DfE Γ H [] []
  | cons {k : NestedKey} {t : Addr} {u : Value} {v : V} {d : PyData} {xs : List Ent} {kvs : List (PyData × PyData)} :
      Df Γ H (.ref t) k.data → RelV v u → Df Γ H v d → DfE Γ H xs kvs → DfE Γ H ((k, t, u) :: xs) ((k.data, d) :: kvs)
end

/-- tuples and what is frozen stay -/
structure Grow (H H' : Hp) : Prop where
  tup : ∀ a xs, H a = some (.tup xs) → H' a = some (.tup xs)
  frz : ∀ a o u, H a = some (.frz o u) → H' a = some (.frz o u)
  rng : ∀ a lo hi, H a = some (.rng lo hi) → H' a = some (.rng lo hi)
theorem Grow.refl (H : Hp) : Grow H H := ⟨fun _ _ h => h, fun _ _ _ h => h, fun _ _ _ h => h⟩
theorem Grow.trans {H H1 H2 : Hp} (a : Grow H H1) (b : Grow H1 H2) : Grow H H2 := ⟨fun x xs h => b.tup x xs (a.tup x xs h), fun x o u h => b.frz x o u (a.frz x o u h), fun x o u h => b.rng x o u (a.rng x o u h)⟩
theorem Grow.same {H H' : Hp} (h : Same H H') : Grow H H' := ⟨fun a xs e => h a _ e, fun a o u e => h a _ e, fun a o u e => h a _ e⟩
theorem Grow.but {H : Hp} {a : Addr} {o : HO} (h : Mut (H a)) : Grow H (upd H a o) := by
  refine ⟨fun b xs e => ?_, fun b p u e => ?_, fun b p u e => ?_⟩ <;> rw [upd_ne (fun z => by subst z; rw [e] at h; exact h)] <;> exact e
theorem Grow.new {H : Hp} {a : Addr} {o : HO} (h : H a = none) : Grow H (upd H a o) := by
  refine ⟨fun b xs e => ?_, fun b p u e => ?_, fun b p u e => ?_⟩ <;> rw [upd_ne (fun z => by subst z; rw [h] at e; cases e)] <;> exact e
theorem Same.new {H : Hp} {a : Addr} {o : HO} (h : H a = none) : Same H (upd H a o) := fun b p e => by
  rw [upd_ne (fun z => by subst z; rw [h] at e; cases e)]; exact e

theorem Fzl.grow {H H' : Hp} {a : Addr} {xs : List V} (g : Grow H H') : Fzl H a xs → Fzl H' a xs
  | ⟨o, h⟩ => ⟨o, g.frz _ _ _ h⟩
theorem Fzl.sq {K : PySem.W.Frag} {H : Hp} {a : Addr} {xs : List V} : Fzl H a xs → SqL K H a xs
  | ⟨o, h⟩ => .inl (.inr ⟨o, h⟩)
theorem sqT_grow {K : PySem.W.Frag} {H H' : Hp} {a : Addr} {xs : List V} (g : Grow H H') : SqT K H a xs → SqT K H' a xs
  | .inl (.inl h) => .inl (.inl (g.tup _ _ h))
  | .inl (.inr ⟨o, h⟩) => .inl (.inr ⟨o, g.frz _ _ _ h⟩)
  | .inr h => .inr h

mutual
theorem Df.grow {Γ : Wd} {H H' : Hp} (g : Grow H H') : ∀ {d : PyData} {v : V}, Df Γ H v d → Df Γ H' v d
  | _, _, .non => .non
  | _, _, .bl b => .bl b
  | _, _, .int b => .int b
  | _, _, .str b => .str b
  | _, _, .lst h hs => .lst (h.grow g) (DfA.grow g hs)
  | _, _, .tup h hs => .tup (sqT_grow g h) (DfA.grow g hs)
  | _, _, .dic ⟨o, h⟩ hs => .dic ⟨o, g.frz _ _ _ h⟩ (DfE.grow g hs)
theorem DfA.grow {Γ : Wd} {H H' : Hp} (g : Grow H H') : ∀ {ds : List PyData} {vs : List V}, DfA Γ H vs ds → DfA Γ H' vs ds
  | _, _, .nil => .nil
  | _, _, .cons h hs => .cons (Df.grow g h) (DfA.grow g hs)
theorem DfE.grow {Γ : Wd} {H H' : Hp} (g : Grow H H') : ∀ {kvs : List (PyData × PyData)} {xs : List Ent}, DfE Γ H xs kvs → DfE Γ H' xs kvs
  | _, _, .nil => .nil
  | _, _, .cons h1 h2 h3 hs => .cons (Df.grow g h1) h2 (Df.grow g h3) (DfE.grow g hs)
end
theorem DfA.length {Γ : Wd} {H : Hp} : ∀ {vs : List V} {ds : List PyData}, DfA Γ H vs ds → vs.length = ds.length
  | _, _, .nil => rfl
  | _, _, .cons _ h => by simp [DfA.length h]
theorem DfA.append {Γ : Wd} {H : Hp} : ∀ {vs ws : List V} {ds es : List PyData}, DfA Γ H vs ds → DfA Γ H ws es → DfA Γ H (vs ++ ws) (ds ++ es)
  | _, _, _, _, .nil, h => h
  | _, _, _, _, .cons h1 h2, h => .cons h1 (DfA.append h2 h)
theorem DfA.get {Γ : Wd} {H : Hp} : ∀ {vs : List V} {ds : List PyData} {i : Nat} {d : PyData}, DfA Γ H vs ds → ds[i]? = some d → ∃ v, vs[i]? = some v ∧ Df Γ H v d
  | _, _, _, _, .nil, h => by simp at h
  | _, _, 0, _, .cons h1 _, h => by simp at h; subst h; exact ⟨_, rfl, h1⟩
  | _, _, i + 1, _, .cons _ h2, h => by
    obtain ⟨v, e, r⟩ := DfA.get (i := i) h2 (by simpa using h)
    exact ⟨v, by simpa using e, r⟩
theorem DfA.getV {Γ : Wd} {H : Hp} : ∀ {vs : List V} {ds : List PyData} {i : Nat} {v : V}, DfA Γ H vs ds → vs[i]? = some v → ∃ d, ds[i]? = some d ∧ Df Γ H v d
  | _, _, _, _, .nil, h => by simp at h
  | _, _, 0, _, .cons h1 _, h => by simp at h; subst h; exact ⟨_, rfl, h1⟩
  | _, _, i + 1, _, .cons _ h2, h => by
    obtain ⟨v, e, r⟩ := DfA.getV (i := i) h2 (by simpa using h)
    exact ⟨v, by simpa using e, r⟩
theorem DfA.take {Γ : Wd} {H : Hp} : ∀ (n : Nat) {vs : List V} {ds : List PyData}, DfA Γ H vs ds → DfA Γ H (vs.take n) (ds.take n)
  | 0, _, _, _ => by simp only [List.take_zero]; exact .nil
  | n + 1, _, _, .nil => .nil
  | n + 1, _, _, .cons h hs => .cons h (DfA.take n hs)
theorem DfA.drop {Γ : Wd} {H : Hp} : ∀ (n : Nat) {vs : List V} {ds : List PyData}, DfA Γ H vs ds → DfA Γ H (vs.drop n) (ds.drop n)
  | 0, _, _, h => h
  | n + 1, _, _, .nil => .nil
  | n + 1, _, _, .cons h hs => DfA.drop n hs
theorem DfE.length {Γ : Wd} {H : Hp} : ∀ {xs : List Ent} {kvs : List (PyData × PyData)}, DfE Γ H xs kvs → xs.length = kvs.length
  | _, _, .nil => rfl
  | _, _, .cons _ _ _ h => by simp [DfE.length h]

mutual
theorem Df.dp {Γ : Wd} {H : Hp} : ∀ {d : PyData} {v : V}, d.canLay0 = true → Df Γ H v d → Dp Γ.K H v d
  | _, _, _, .non => .non
  | _, _, _, .bl b => .bl b
  | _, _, _, .int b => .int b
  | _, _, _, .str b => .str b
  | _, _, c, .lst h hs => .lst h.sq (DfA.dp (by simpa [PyData.canLay0] using c) hs)
  | _, _, c, .tup h hs => .tup h (DfA.dp (by simpa [PyData.canLay0] using c) hs)
  | _, _, c, .dic h hs => by simp [PyData.canLay0] at c
theorem DfA.dp {Γ : Wd} {H : Hp} : ∀ {ds : List PyData} {vs : List V}, PyData.canLayAll0 ds = true → DfA Γ H vs ds → DpAll Γ.K H vs ds
  | _, _, _, .nil => .nil
  | _, _, c, .cons h hs => by
    rw [PyData.canLayAll0, Bool.and_eq_true] at c
    exact .cons (Df.dp c.1 h) (DfA.dp c.2 hs)
end

inductive Sl where
  | un | dat (d : PyData) | own (ds : List PyData) | dic (kvs : List (PyData × PyData)) | bor (d : PyData) | rng (lo hi : Int)
abbrev Env := List Sl

/-- a value that is data at this moment (a list or a dict of one's own, too) -/
inductive Dl (Γ : Wd) (H : Hp) : V → PyData → Prop
  | of {v : V} {d : PyData} : Df Γ H v d → Dl Γ H v d
  | lst {a : Addr} {xs : List V} {ds : List PyData} : SqL Γ.K H a xs → DfA Γ H xs ds → Dl Γ H (.ref a) (.list ds)
  | dic {a : Addr} {xs : List Ent} {kvs : List (PyData × PyData)} : H a = some (dO Γ a xs) → DfE Γ H xs kvs → Dl Γ H (.ref a) (.dict kvs)
theorem Dl.same {Γ : Wd} {H H' : Hp} {v : V} {d : PyData} (g : Same H H') : Dl Γ H v d → Dl Γ H' v d
  | .of h => .of (h.grow (.same g))
  | .lst h hs => .lst (g.seq h) (hs.grow (.same g))
  | .dic h hs => .dic (g _ _ h) (hs.grow (.same g))

/-- what is to be kept; the address of a list that stands at the first slot -/
structure Wt where
  bo : Hp
  ex : Hp := fun _ => none
  anc : Option Addr := none
def Wt.kp (W : Wt) : Hp := fun a => match W.bo a with
  | some o => some o
  | none => W.ex a
theorem Wt.boKp (W : Wt) : Same W.bo W.kp := fun a o h => by simp [Wt.kp, h]

def SlOk (Γ : Wd) (W : Wt) (H : Hp) (o : Option (Option V)) : Sl → Prop
  | .un => True
  | .dat d => ∃ v, o = some (some v) ∧ Df Γ H v d
  | .own ds => ∃ a xs, o = some (some (.ref a)) ∧ W.kp a = none ∧ H a = some (.lst xs) ∧ DfA Γ H xs ds
  | .dic kvs => ∃ a xs, o = some (some (.ref a)) ∧ W.kp a = none ∧ H a = some (dO Γ a xs) ∧ DfE Γ H xs kvs
  | .bor d => ∃ v, o = some (some v) ∧ Dl Γ W.bo v d
  | .rng lo hi => ∃ a, o = some (some (.ref a)) ∧ H a = some (.rng lo hi)
def mutS : Option Sl → Prop
  | some (.own _) => True
  | some (.dic _) => True
  | _ => False

structure RepS (Γ : Wd) (W : Wt) (σ : Sg) (H : Hp) (ρ : Env) : Prop where
  len : ρ.length = σ.length
  keep : Same W.kp H
  at_ : ∀ (i : Nat) (s : Sl), ρ[i]? = some s → SlOk Γ W H σ[i]? s
  sep : ∀ (i j : Nat) (a : Addr), i ≠ j → mutS ρ[i]? → mutS ρ[j]? → σ[i]? = some (some (.ref a)) → σ[j]? ≠ some (some (.ref a))
  anc : ∀ (a : Addr), W.anc = some a → σ[0]? = some (some (.ref a)) ∧ ∃ ds, ρ[0]? = some (.own ds)

section
variable {Γ : Wd} {W : Wt} {σ : Sg} {H H' : Hp} {ρ : Env}
theorem SlOk.same {o : Option (Option V)} {s : Sl} (g : Same H H') (h : SlOk Γ W H o s) : SlOk Γ W H' o s := by
  cases s with
  | un => trivial
  | dat d => obtain ⟨v, e, h⟩ := h; exact ⟨v, e, h.grow (.same g)⟩
  | own ds => obtain ⟨a, xs, e, w, h1, h2⟩ := h; exact ⟨a, xs, e, w, g _ _ h1, h2.grow (.same g)⟩
  | dic ds => obtain ⟨a, xs, e, w, h1, h2⟩ := h; exact ⟨a, xs, e, w, g _ _ h1, h2.grow (.same g)⟩
  | bor d => exact h
  | rng lo hi => obtain ⟨a, e, h⟩ := h; exact ⟨a, e, g _ _ h⟩
theorem RepS.keepB (R : RepS Γ W σ H ρ) : Same W.bo H := W.boKp.trans R.keep
theorem RepS.same (R : RepS Γ W σ H ρ) (g : Same H H') : RepS Γ W σ H' ρ :=
  ⟨R.len, R.keep.trans g, fun i s e => (R.at_ i s e).same g, R.sep, R.anc⟩
/-- an object at a is changed, that is no slot's but the slot k's -/
theorem RepS.upd_at {a : Addr} {o : HO} {k : Nat} {s : Sl} (R : RepS Γ W σ H ρ) (hm : mutS ρ[k]?) (ha : σ[k]? = some (some (.ref a))) (hs : mutS (some s)) (hs2 : (∃ ds, s = .own ds) ∨ ∃ kvs, ρ[k]? = some (.dic kvs)) (h : SlOk Γ W (upd H a o) σ[k]? s) : RepS Γ W σ (upd H a o) (ρ.set k s) := by
  have hW : W.kp a = none ∧ Mut (H a) := by
    cases e : ρ[k]? with
    | none => rw [e] at hm; exact hm.elim
    | some t =>
      have q := R.at_ k t e
      rw [e] at hm
      cases t with
      | own ds => obtain ⟨b, xs, e1, w, h1, _⟩ := q; rw [ha] at e1; cases e1; exact ⟨w, by rw [h1]; trivial⟩
      | dic ds => obtain ⟨b, xs, e1, w, h1, _⟩ := q; rw [ha] at e1; cases e1; exact ⟨w, by rw [h1]; trivial⟩
      | _ => exact hm.elim
  have hk : k < ρ.length := by
    cases e : ρ[k]? with
    | none => rw [e] at hm; exact hm.elim
    | some t => exact (List.getElem?_eq_some_iff.mp e).1
  have g : Grow H (upd H a o) := .but hW.2
  have mut_set : ∀ j, mutS (ρ.set k s)[j]? → mutS ρ[j]? := fun j hj => by
    by_cases e : k = j
    · subst e; exact hm
    · rw [List.getElem?_set_ne e] at hj; exact hj
  refine ⟨by simpa using R.len, fun b u e => ?_, fun i t e => ?_, fun i j b hij hi hj => R.sep i j b hij (mut_set i hi) (mut_set j hj), fun b hb => ?_⟩
  · rw [upd_ne (fun z => by subst z; rw [hW.1] at e; cases e)]; exact R.keep b u e
  · by_cases ei : k = i
    · subst ei
      rw [List.getElem?_set_self hk] at e; cases e
      exact h
    · rw [List.getElem?_set_ne ei] at e
      have q := R.at_ i t e
      have ne : ∀ b, σ[i]? = some (some (.ref b)) → mutS (some t) → b ≠ a := fun b eb mb z => by
        subst z
        exact R.sep i k b (Ne.symm ei) (by rw [e]; exact mb) hm eb ha
      cases t with
      | un => trivial
      | dat d => obtain ⟨v, e1, h1⟩ := q; exact ⟨v, e1, h1.grow g⟩
      | own ds => obtain ⟨b, xs, e1, w, h1, h2⟩ := q; exact ⟨b, xs, e1, w, by rw [upd_ne (ne b e1 trivial)]; exact h1, h2.grow g⟩
      | dic ds => obtain ⟨b, xs, e1, w, h1, h2⟩ := q; exact ⟨b, xs, e1, w, by rw [upd_ne (ne b e1 trivial)]; exact h1, h2.grow g⟩
      | bor d => exact q
      | rng lo hi => obtain ⟨b, e1, h1⟩ := q; exact ⟨b, e1, g.rng _ _ _ h1⟩
  · obtain ⟨h1, ds, h2⟩ := R.anc b hb
    refine ⟨h1, ?_⟩
    by_cases ek : k = 0
    · subst ek
      rw [List.getElem?_set_self hk]
      rcases hs2 with ⟨ds', e⟩ | ⟨kvs, e⟩
      · exact ⟨ds', by rw [e]⟩
      · rw [h2] at e; cases e
    · rw [List.getElem?_set_ne ek]; exact ⟨ds, h2⟩
end
end Dn
namespace Dn
open PySem PySem.Spec PyProof.Rows L2

abbrev wdX (X : Cx) : Wd := ⟨X.prog, X.w, X.K⟩
abbrev M (α : Type) := Env → Option (α × Env)

/-- a reading by a function -/
def rdE (Γ : Wd) (W : Wt) (f : M PyData) : TE := fun σ H Q => ∃ ρ d ρ', RepS Γ W σ H ρ ∧ f ρ = some (d, ρ') ∧
  ∀ v H', RepS Γ W σ H' ρ' → Df Γ H' v d → Grow H H' → Q v H'
def rdL (Γ : Wd) (W : Wt) (f : M PyData) : TE := fun σ H Q => ∃ ρ d ρ', RepS Γ W σ H ρ ∧ f ρ = some (d, ρ') ∧
  ∀ v H', RepS Γ W σ H' ρ' → Dl Γ H' v d → Grow H H' → Q v H'
def rdT (Γ : Wd) (W : Wt) (f : M Bool) : TT := fun σ H Q => ∃ ρ b ρ', RepS Γ W σ H ρ ∧ f ρ = some (b, ρ') ∧
  ∀ H', RepS Γ W σ H' ρ' → Grow H H' → Q b H'
/-- several values -/
def rdA (Γ : Wd) (W : Wt) (f : M (List PyData)) : TA := fun σ H Q => ∃ ρ ds ρ', RepS Γ W σ H ρ ∧ f ρ = some (ds, ρ') ∧
  ∀ vs H', RepS Γ W σ H' ρ' → DfA Γ H' vs ds → Grow H H' → Q vs H'

structure DE (X : Cx) (e : Expr) (f : M PyData) : Prop where
  pe : ∀ W, PE X e (rdE (wdX X) W f)
structure LE (X : Cx) (e : Expr) (f : M PyData) : Prop where
  pe : ∀ W, PE X e (rdL (wdX X) W f)
structure DT (X : Cx) (e : Expr) (f : M Bool) : Prop where
  pt : ∀ W, PT X e (rdT (wdX X) W f)
structure DW (X : Cx) (e : Expr) (f : M Bool) : Prop where
  pw : ∀ W, PW X e (rdT (wdX X) W f)
structure DA (X : Cx) (es : List Expr) (f : M (List PyData)) : Prop where
  pa : ∀ W, PA X es (rdA (wdX X) W f)

section
variable {X : Cx}
theorem _root_.L2.PE.imp {e : Expr} {t t' : TE} (h : PE X e t) (i : ∀ σ H Q, t' σ H Q → t σ H Q) : PE X e t' := ⟨fun pins s σ H Q I hq => h.run pins s σ H Q I (i _ _ _ hq)⟩
theorem _root_.L2.PT.imp {e : Expr} {t t' : TT} (h : PT X e t) (i : ∀ σ H Q, t' σ H Q → t σ H Q) : PT X e t' := ⟨fun pins s σ H Q I hq => h.run pins s σ H Q I (i _ _ _ hq)⟩
theorem _root_.L2.PW.imp {e : Expr} {t t' : TT} (h : PW X e t) (i : ∀ σ H Q, t' σ H Q → t σ H Q) : PW X e t' := ⟨fun wh pins s σ H Q I hq => h.run wh pins s σ H Q I (i _ _ _ hq)⟩
theorem _root_.L2.PA.imp {e : List Expr} {t t' : TA} (h : PA X e t) (i : ∀ σ H Q, t' σ H Q → t σ H Q) : PA X e t' := ⟨fun pos pins s σ H Q I hq => h.run pos pins s σ H Q I (i _ _ _ hq)⟩
end

def eVar (i : Nat) : M PyData := fun ρ => match ρ[i]? with
  | some (.dat d) => some (d, ρ)
  | _ => none
def eLoc (i : Nat) : M PyData := fun ρ => match ρ[i]? with
  | some (.dat d) => some (d, ρ)
  | some (.own ds) => some (.list ds, ρ)
  | some (.dic kvs) => some (.dict kvs, ρ)
  | some (.bor d) => some (d, ρ)
  | _ => none
def eC (d : PyData) : M PyData := fun ρ => some (d, ρ)

section
variable {X : Cx} {pos : Pos}
theorem de_var (i : Nat) {x : Str} (hN : X.N[i]? = some x := by rfl) (hv : Vis X.env.scope x := by first | exact Or.inl rfl | exact Or.inr (Or.inl rfl) | exact Or.inr (Or.inr rfl)) (hd : (x == ("__debug__" : Str)) = false := by decide)
    (hcd : (x == ("__classdict__" : Str)) = false := by decide) : DE X (.Name x pos) (eVar i) := by
  refine ⟨fun W => (pe_var (i := i) hN hv hd hcd).imp fun σ H Q ⟨ρ, d, ρ', R, e, k⟩ => ?_⟩
  unfold eVar at e
  split at e
  · rename_i d' h
    cases e
    obtain ⟨v, e1, h1⟩ := R.at_ i _ h
    exact ⟨v, e1, k v H R h1 (.refl H)⟩
  · cases e
theorem le_loc (i : Nat) {x : Str} (hN : X.N[i]? = some x := by rfl) (hv : Vis X.env.scope x := by first | exact Or.inl rfl | exact Or.inr (Or.inl rfl) | exact Or.inr (Or.inr rfl)) (hd : (x == ("__debug__" : Str)) = false := by decide)
    (hcd : (x == ("__classdict__" : Str)) = false := by decide) : LE X (.Name x pos) (eLoc i) := by
  refine ⟨fun W => (pe_var (i := i) hN hv hd hcd).imp fun σ H Q ⟨ρ, d, ρ', R, e, k⟩ => ?_⟩
  unfold eLoc at e
  split at e <;> first
    | (rename_i d' h
       cases e
       have q := R.at_ i _ h
       first
         | (obtain ⟨v, e1, h1⟩ := q; exact ⟨v, e1, k v H R (.of h1) (.refl H)⟩)
         | (obtain ⟨v, e1, h1⟩ := q; exact ⟨v, e1, k v H R (h1.same R.keepB) (.refl H)⟩)
         | (obtain ⟨a, xs, e1, w, h1, h2⟩ := q; exact ⟨.ref a, e1, k _ H R (.lst (.of h1) h2) (.refl H)⟩)
         | (obtain ⟨a, xs, e1, w, h1, h2⟩ := q; exact ⟨.ref a, e1, k _ H R (.dic h1 h2) (.refl H)⟩))
    | cases e
theorem LE.of {e : Expr} {f : M PyData} (h : DE X e f) : LE X e f := ⟨fun W => (h.pe W).imp fun σ H Q ⟨ρ, d, ρ', R, e, k⟩ => ⟨ρ, d, ρ', R, e, fun v H' R' D g => k v H' R' (.of D) g⟩⟩

/-- a constant: its value stands at once -/
theorem de_tC {e : Expr} {v : V} {d : PyData} (h : PE X e (tC v)) (hd : ∀ H, Df (wdX X) H v d) : DE X e (eC d) :=
  ⟨fun W => h.imp fun σ H Q ⟨ρ, d', ρ', R, e, k⟩ => by cases e; exact k v H R (hd H) (.refl H)⟩
theorem de_int {i : Int} {j : _} : DE X (.Constant (.int i) j pos) (eC (.int i)) := de_tC pe_int fun _ => .int i
theorem de_bl {b : Bool} {j : _} : DE X (.Constant (.bool b) j pos) (eC (.bool b)) := de_tC pe_bl fun _ => .bl b
theorem de_non {j : _} : DE X (.Constant .none j pos) (eC .none) := de_tC pe_non fun _ => .non
theorem de_str {x : Str} {j : _} : DE X (.Constant (.str x) j pos) (eC (.str x)) := de_tC pe_str fun _ => .str x
/-- a constant of the module -/
theorem de_glob {x : Str} {v : V} {u : Value} {d : PyData} (hg : Gl X x) (hm : X.mg x = some u) (r : RelV v u) (hd : ∀ H, Df (wdX X) H v d) (hdb : (x == ("__debug__" : Str)) = false := by decide) : DE X (.Name x pos) (eC d) :=
  de_tC (pe_glob hg hm r hdb) hd
end

def m1 (g : PyData → Option PyData) (f : M PyData) : M PyData := fun ρ => match f ρ with
  | some (x, ρ1) => (match g x with
    | some z => some (z, ρ1)
    | none => none)
  | none => none
def m2 (g : PyData → PyData → Option PyData) (fa fb : M PyData) : M PyData := fun ρ => match fa ρ with
  | some (x, ρ1) => (match fb ρ1 with
    | some (y, ρ2) => (match g x y with
      | some z => some (z, ρ2)
      | none => none)
    | none => none)
  | none => none
theorem m1_inv {g : PyData → Option PyData} {f : M PyData} {ρ ρ' : Env} {z : PyData} (h : m1 g f ρ = some (z, ρ')) : ∃ x, f ρ = some (x, ρ') ∧ g x = some z := by
  unfold m1 at h
  cases e1 : f ρ with
  | none => rw [e1] at h; cases h
  | some p =>
    obtain ⟨x, ρ1⟩ := p
    rw [e1] at h
    cases e2 : g x with
    | none => simp only [e2] at h; cases h
    | some z' => simp only [e2] at h; cases h; exact ⟨x, rfl, e2⟩
theorem m2_inv {g : PyData → PyData → Option PyData} {fa fb : M PyData} {ρ ρ' : Env} {z : PyData} (h : m2 g fa fb ρ = some (z, ρ')) : ∃ x ρ1 y, fa ρ = some (x, ρ1) ∧ fb ρ1 = some (y, ρ') ∧ g x y = some z := by
  unfold m2 at h
  cases e1 : fa ρ with
  | none => rw [e1] at h; cases h
  | some p =>
    obtain ⟨x, ρ1⟩ := p
    rw [e1] at h
    cases e2 : fb ρ1 with
    | none => simp only [e2] at h; cases h
    | some q =>
      obtain ⟨y, ρ2⟩ := q
      simp only [e2] at h
      cases e3 : g x y with
      | none => simp only [e3] at h; cases h
      | some z' => simp only [e3] at h; cases h; exact ⟨x, ρ1, y, rfl, e2, e3⟩

/-- what an operation by values must do -/
def Does2 (Γ : Wd) (r : R2) (g : PyData → PyData → Option PyData) : Prop := ∀ (x y : V) (d e z : PyData) (H : Hp) (Q : VK), Df Γ H x d → Df Γ H y e → g d e = some z → (∀ v H', Same H H' → Df Γ H' v z → Q v H') → r x y H Q
theorem tOp_imp {Γ : Wd} {W : Wt} {r : R2} {g : PyData → PyData → Option PyData} {fa fb : M PyData} (hr : Does2 Γ r g) (σ : Sg) (H : Hp) (Q : VK) (h : rdE Γ W (m2 g fa fb) σ H Q) : tOp r (rdE Γ W fa) (rdE Γ W fb) σ H Q := by
  obtain ⟨ρ, z, ρ', R, e, k⟩ := h
  obtain ⟨x, ρ1, y, e1, e2, e3⟩ := m2_inv e
  refine ⟨ρ, x, ρ1, R, e1, fun v H1 R1 D1 g1 => ⟨ρ1, y, ρ', R1, e2, fun u H2 R2 D2 g2 => ?_⟩⟩
  exact hr v u x y z H2 Q (D1.grow g2) D2 e3 fun v' H3 s3 D3 => k v' H3 (R2.same s3) D3 (g1.trans (g2.trans (.same s3)))
section
variable {X : Cx} {pos : Pos} {a b c : Expr} {fa fb fc : M PyData}
theorem de_op {op : Operator} {r : R2} {g : PyData → PyData → Option PyData} (ho : OpR X (binaryOp op) r) (hr : Does2 (wdX X) r g) (ha : DE X a fa) (hb : DE X b fb) : DE X (.BinOp a op b pos) (m2 g fa fb) :=
  ⟨fun W => (pe_op ho (ha.pe W) (hb.pe W)).imp (tOp_imp hr)⟩
theorem de_cmp {op : CmpOp} {r : R2} {g : PyData → PyData → Option PyData} (ho : OpR X (compareOp op) r) (hr : Does2 (wdX X) r g) (ha : DE X a fa) (hb : DE X b fb) (hm : behindInMarks op b = false) : DE X (.Compare a [op] [b] pos) (m2 g fa fb) :=
  ⟨fun W => (pe_cmpR ho (ha.pe W) (hb.pe W) hm).imp (tOp_imp hr)⟩
def Does1 (Γ : Wd) (r : V → Hp → VK → Prop) (g : PyData → Option PyData) : Prop := ∀ (x : V) (d z : PyData) (H : Hp) (Q : VK), Df Γ H x d → g d = some z → (∀ v H', Same H H' → Df Γ H' v z → Q v H') → r x H Q
theorem de_un {op : UnaryOp} {r : V → Hp → VK → Prop} {g : PyData → Option PyData} (ho : UnR X (unaryOp op) r) (hr : Does1 (wdX X) r g) (ha : DE X a fa) : DE X (.UnaryOp op a pos) (m1 g fa) := by
  refine ⟨fun W => (pe_un ho (ha.pe W)).imp fun σ H Q h => ?_⟩
  obtain ⟨ρ, z, ρ', R, e, k⟩ := h
  obtain ⟨x, e1, e2⟩ := m1_inv e
  exact ⟨ρ, x, ρ', R, e1, fun v H1 R1 D1 g1 => hr v x z H1 Q D1 e2 fun v' H3 s3 D3 => k v' H3 (R1.same s3) D3 (g1.trans (.same s3))⟩
end

def addD : PyData → PyData → Option PyData
  | .int i, .int j => some (.int (i + j))
  | .str x, .str y => if x.length + y.length ≤ sizeLine then some (.str (x ++ y)) else none
  | .tuple xs, .tuple ys => if xs.length + ys.length ≤ sizeLine then some (.tuple (xs ++ ys)) else none
  | .list xs, .list ys => if xs.length + ys.length ≤ sizeLine then some (.list (xs ++ ys)) else none
  | _, _ => none
def subD : PyData → PyData → Option PyData
  | .int i, .int j => some (.int (i - j))
  | _, _ => none
def mulD : PyData → PyData → Option PyData
  | .int i, .int j => if (-(2 ^ 64) < i ∧ i < 2 ^ 64) ∨ (-(2 ^ 64) < j ∧ j < 2 ^ 64) then some (.int (i * j)) else none
  | _, _ => none
def fdivD : PyData → PyData → Option PyData
  | .int i, .int j => if 0 < j ∧ j < 1073741824 then some (.int (i / j)) else if j ≠ 0 ∧ j.natAbs < 1073741824 then some (.int (i.fdiv j)) else none
  | _, _ => none
def modD : PyData → PyData → Option PyData
  | .int i, .int j => if 0 < j then some (.int (i % j)) else if j ≠ 0 then some (.int (i.fmod j)) else none
  | _, _ => none
def powD : PyData → PyData → Option PyData
  | .int i, .int j => if 0 ≤ j ∧ j ≤ 1000000 ∧ i.natAbs < 2 ^ 64 then some (.int (i ^ j.toNat)) else none
  | _, _ => none
def negD : PyData → Option PyData
  | .int i => some (.int (-i))
  | _ => none

/-- lists that are data: l + b -/
def rCatF : R2 := fun x y H Q => ∃ l b xs zs, x = .ref l ∧ y = .ref b ∧ Fzl H l xs ∧ Fzl H b zs ∧ xs.length + zs.length ≤ sizeLine ∧ ∀ p, H p = none → Q (.ref p) (upd H p (.lst (xs ++ zs)))
section
variable {X : Cx}
theorem op_catF : OpR X (binaryOp .Add) rCatF := by
  intro pins s σ H x y v u Q I rx ry h
  obtain ⟨l, b, xs, zs, rfl, rfl, ⟨o1, hH⟩, ⟨o2, hB⟩, hz, q⟩ := h
  cases rx
  cases ry
  obtain ⟨_, z, its, n, r, e⟩ := I.hok l _ hH
  obtain ⟨_, z2, its2, n2, r2, e2⟩ := I.hok b _ hB
  have hl := r.length
  have hl2 := r2.length
  refine PySem.P.add_list e e2 ?_ (by rw [List.size_toArray, List.size_toArray]; omega)
  have ea : its.toArray ++ its2.toArray = (its ++ its2).toArray := by simp
  rw [ea]
  exact ⟨.ref _, _, I.lnew (t' := s.toks) (r.append r2) (by rw [List.length_append]; omega), rfl, q _ I.fresh⟩
/-- a value whose list is new, frozen -/
def tFrz (te : TE) : TE := fun σ H Q => te σ H fun v H1 => ∃ a xs, v = .ref a ∧ H1 a = some (.lst xs) ∧ ∀ o, Q v (upd H1 a (.frz o (.lst xs)))
theorem pe_frz {e : Expr} {te : TE} (h : PE X e te) : PE X e (tFrz te) := by
  refine ⟨fun pins s σ H Q I hq => ?_⟩
  refine thn (h.run pins s σ H _ I hq) fun v s1 ⟨x, H1, I1, r1, a, xs, e1, h1, q1⟩ => ?_
  obtain ⟨od, I2⟩ := I1.lock h1 trivial
  exact ⟨x, _, I2, r1, q1 od⟩
theorem Does2.or {Γ : Wd} {r r' : R2} {g : PyData → PyData → Option PyData}
    (h : ∀ (x y : V) (d e z : PyData) (H : Hp) (Q : VK), Df Γ H x d → Df Γ H y e → g d e = some z → (∀ v H', Same H H' → Df Γ H' v z → Q v H') → r x y H Q ∨ r' x y H Q) : Does2 Γ (fun x y H Q => r x y H Q ∨ r' x y H Q) g := h
end
end Dn
namespace Dn
open PySem PySem.Spec PyProof.Rows L2

theorem Df.int_inv {Γ : Wd} {H : Hp} {v : V} {i : Int} (h : Df Γ H v (.int i)) : v = .int i := by cases h; rfl
theorem Df.str_inv {Γ : Wd} {H : Hp} {v : V} {i : Str} (h : Df Γ H v (.str i)) : v = .str i := by cases h; rfl
theorem Df.bl_inv {Γ : Wd} {H : Hp} {v : V} {i : Bool} (h : Df Γ H v (.bool i)) : v = .bl i := by cases h; rfl
theorem Df.non_inv {Γ : Wd} {H : Hp} {v : V} (h : Df Γ H v .none) : v = .non := by cases h; rfl
theorem Df.tup_inv {Γ : Wd} {H : Hp} {v : V} {ds : List PyData} (h : Df Γ H v (.tuple ds)) : ∃ a xs, v = .ref a ∧ SqT Γ.K H a xs ∧ DfA Γ H xs ds := by
  cases h with
  | tup h1 h2 => exact ⟨_, _, rfl, h1, h2⟩
theorem Df.lst_inv {Γ : Wd} {H : Hp} {v : V} {ds : List PyData} (h : Df Γ H v (.list ds)) : ∃ a xs, v = .ref a ∧ Fzl H a xs ∧ DfA Γ H xs ds := by
  cases h with
  | lst h1 h2 => exact ⟨_, _, rfl, h1, h2⟩
theorem DfA.ints {Γ : Wd} {H : Hp} : ∀ {ns : List Int} {vs : List V}, DfA Γ H vs (ns.map PyData.int) → vs = ns.map V.int
  | [], _, h => by cases h; rfl
  | n :: ns, _, h => by
    cases h with
    | cons h1 h2 => cases h1; rw [DfA.ints h2]; rfl
theorem DfA.bools {Γ : Wd} {H : Hp} : ∀ {ns : List Bool} {vs : List V}, DfA Γ H vs (ns.map PyData.bool) → vs = ns.map V.bl
  | [], _, h => by cases h; rfl
  | n :: ns, _, h => by
    cases h with
    | cons h1 h2 => cases h1; rw [DfA.bools h2]; rfl
theorem DfA.of_ints {Γ : Wd} {H : Hp} : ∀ {ns : List Int}, DfA Γ H (ns.map V.int) (ns.map PyData.int)
  | [] => .nil
  | n :: ns => .cons (.int n) (DfA.of_ints (ns := ns))
def intsOf : List PyData → Option (List Int)
  | [] => some []
  | .int i :: r => (intsOf r).map (i :: ·)
  | _ :: _ => none
theorem intsOf_eq : ∀ {ds : List PyData} {ns : List Int}, intsOf ds = some ns → ds = ns.map PyData.int
  | [], ns, h => by cases h; rfl
  | d :: r, ns, h => by
    cases d <;> first | (simp [intsOf] at h; done) | skip
    rename_i i
    simp only [intsOf, Option.map_eq_some_iff] at h
    obtain ⟨ms, h1, rfl⟩ := h
    rw [intsOf_eq h1]; rfl
theorem intsOf_map (ns : List Int) : intsOf (ns.map PyData.int) = some ns := by
  induction ns with
  | nil => rfl
  | cons n ns ih => simp [intsOf, ih]
def boolsOf : List PyData → Option (List Bool)
  | [] => some []
  | .bool i :: r => (boolsOf r).map (i :: ·)
  | _ :: _ => none
theorem boolsOf_eq : ∀ {ds : List PyData} {ns : List Bool}, boolsOf ds = some ns → ds = ns.map PyData.bool
  | [], ns, h => by cases h; rfl
  | d :: r, ns, h => by
    cases d <;> first | (simp [boolsOf] at h; done) | skip
    rename_i i
    simp only [boolsOf, Option.map_eq_some_iff] at h
    obtain ⟨ms, h1, rfl⟩ := h
    rw [boolsOf_eq h1]; rfl
theorem boolsOf_map (ns : List Bool) : boolsOf (ns.map PyData.bool) = some ns := by
  induction ns with
  | nil => rfl
  | cons n ns ih => simp [boolsOf, ih]

section
variable {X : Cx} {pos : Pos} {a b c : Expr} {fa fb fc : M PyData}
/-- a new frozen list as the result of an operation -/
theorem opFrz {f : Value → Value → Sem Value} {r : R2} (h : OpR X f r) : OpR X f (fun x y H Q => r x y H fun v H1 => ∃ a xs, v = .ref a ∧ H1 a = some (.lst xs) ∧ ∀ o, Q v (upd H1 a (.frz o (.lst xs)))) := by
  intro pins s σ H x y v u Q I rx ry hq
  refine thn (h pins s σ H x y v u _ I rx ry hq) fun w s1 ⟨z, H1, I1, r1, a, xs, e1, h1, q1⟩ => ?_
  obtain ⟨od, I2⟩ := I1.lock h1 trivial
  exact ⟨z, _, I2, r1, q1 od⟩
theorem callFrz {f : Value} {r : List V → Hp → VK → Prop} (h : CallR X f r) : CallR X f (fun x H Q => r x H fun v H1 => ∃ a xs, v = .ref a ∧ H1 a = some (.lst xs) ∧ ∀ o, Q v (upd H1 a (.frz o (.lst xs)))) := by
  intro pins s σ H xs us Q I rx hq
  refine thn (h pins s σ H xs us _ I rx hq) fun w s1 ⟨z, H1, I1, r1, a, xs, e1, h1, q1⟩ => ?_
  obtain ⟨od, I2⟩ := I1.lock h1 trivial
  exact ⟨z, _, I2, r1, q1 od⟩
theorem does_of {Γ : Wd} {g : Int → Int → Int} {G : PyData → PyData → Option PyData} {C : Int → Int → Prop} (hG : ∀ d e z, G d e = some z → ∃ i j, d = .int i ∧ e = .int j ∧ C i j ∧ z = .int (g i j)) : Does2 Γ (rI C fun i j => .int (g i j)) G := by
  intro x y d e z H Q hx hy hg k
  obtain ⟨i, j, rfl, rfl, hc, rfl⟩ := hG d e z hg
  exact ⟨i, j, hx.int_inv, hy.int_inv, hc, k _ H (fun _ _ h => h) (.int _)⟩

theorem de_add (ha : DE X a fa) (hb : DE X b fb) : DE X (.BinOp a .Add b pos) (m2 addD fa fb) := by
  refine de_op (op_add.or (op_add_str.or (op_catA.or (opFrz op_catF)))) ?_ ha hb
  intro x y d e z H Q hx hy hg k
  cases d <;> cases e <;> simp only [addD, Option.some.injEq, reduceCtorEq] at hg
  · subst hg; exact .inl ⟨_, _, hx.int_inv, hy.int_inv, k _ H (fun _ _ h => h) (.int _)⟩
  · split at hg
    · rename_i hl
      cases hg
      exact .inr (.inl ⟨_, _, hx.str_inv, hy.str_inv, hl, k _ H (fun _ _ h => h) (.str _)⟩)
    · cases hg
  · split at hg
    · rename_i hl
      cases hg
      obtain ⟨l, xs, rfl, h1, h2⟩ := hx.lst_inv
      obtain ⟨l', ys, rfl, h3, h4⟩ := hy.lst_inv
      refine .inr (.inr (.inr ⟨l, l', xs, ys, rfl, rfl, h1, h3, by rw [h2.length, h4.length]; exact hl, fun p hp => ⟨p, _, rfl, upd_same, fun o => ?_⟩⟩))
      rw [upd_upd]
      exact k _ _ (Same.new hp) (.lst ⟨o, upd_same⟩ ((h2.append h4).grow (.new hp)))
    · cases hg
  · split at hg
    · rename_i hl
      cases hg
      obtain ⟨l, xs, rfl, h1, h2⟩ := hx.tup_inv
      obtain ⟨l', ys, rfl, h3, h4⟩ := hy.tup_inv
      refine .inr (.inr (.inl ⟨l, l', xs, ys, rfl, rfl, h1, h3, by rw [h2.length, h4.length]; exact hl, fun e => ?_, fun e e2 => ?_, fun e e2 p hp => ?_⟩))
      · subst e; cases h2; exact k _ H (fun _ _ h => h) (by simpa using hy)
      · subst e2; cases h4; exact k _ H (fun _ _ h => h) (by simpa using hx)
      · exact k _ _ (Same.new hp) (.tup (.of upd_same) ((h2.append h4).grow (.new hp)))
    · cases hg
theorem de_sub (ha : DE X a fa) (hb : DE X b fb) : DE X (.BinOp a .Sub b pos) (m2 subD fa fb) := by
  refine de_op op_sub ?_ ha hb
  intro x y d e z H Q hx hy hg k
  cases d <;> cases e <;> simp only [subD, Option.some.injEq, reduceCtorEq] at hg
  subst hg; exact ⟨_, _, hx.int_inv, hy.int_inv, k _ H (fun _ _ h => h) (.int _)⟩
theorem de_mul (ha : DE X a fa) (hb : DE X b fb) : DE X (.BinOp a .Mult b pos) (m2 mulD fa fb) := by
  refine de_op op_mul ?_ ha hb
  intro x y d e z H Q hx hy hg k
  cases d <;> cases e <;> simp only [mulD, reduceCtorEq] at hg
  split at hg
  · rename_i hc
    cases hg; exact ⟨_, _, hx.int_inv, hy.int_inv, hc, k _ H (fun _ _ h => h) (.int _)⟩
  · cases hg
theorem de_fdiv (ha : DE X a fa) (hb : DE X b fb) : DE X (.BinOp a .FloorDiv b pos) (m2 fdivD fa fb) := by
  refine de_op (op_fdiv.or op_fdivN) ?_ ha hb
  intro x y d e z H Q hx hy hg k
  cases d <;> cases e <;> simp only [fdivD, reduceCtorEq] at hg
  split at hg
  · rename_i hc
    cases hg; exact .inl ⟨_, _, hx.int_inv, hy.int_inv, hc, k _ H (fun _ _ h => h) (.int _)⟩
  · split at hg
    · rename_i hc
      cases hg; exact .inr ⟨_, _, hx.int_inv, hy.int_inv, hc, k _ H (fun _ _ h => h) (.int _)⟩
    · cases hg
theorem de_mod (ha : DE X a fa) (hb : DE X b fb) : DE X (.BinOp a .Mod b pos) (m2 modD fa fb) := by
  refine de_op (op_mod.or op_modN) ?_ ha hb
  intro x y d e z H Q hx hy hg k
  cases d <;> cases e <;> simp only [modD, reduceCtorEq] at hg
  split at hg
  · rename_i hc
    cases hg; exact .inl ⟨_, _, hx.int_inv, hy.int_inv, hc, k _ H (fun _ _ h => h) (.int _)⟩
  · split at hg
    · rename_i hc
      cases hg; exact .inr ⟨_, _, hx.int_inv, hy.int_inv, hc, k _ H (fun _ _ h => h) (.int _)⟩
    · cases hg
theorem de_pow (ha : DE X a fa) (hb : DE X b fb) : DE X (.BinOp a .Pow b pos) (m2 powD fa fb) := by
  refine de_op op_pow ?_ ha hb
  intro x y d e z H Q hx hy hg k
  cases d <;> cases e <;> simp only [powD, reduceCtorEq] at hg
  split at hg
  · rename_i hc
    cases hg; exact ⟨_, _, hx.int_inv, hy.int_inv, hc, k _ H (fun _ _ h => h) (.int _)⟩
  · cases hg
theorem de_neg (ha : DE X a fa) : DE X (.UnaryOp .USub a pos) (m1 negD fa) := by
  refine de_un un_neg ?_ ha
  intro x d z H Q hx hg k
  cases d <;> simp only [negD, Option.some.injEq, reduceCtorEq] at hg
  subst hg
  exact ⟨_, hx.int_inv, k _ H (fun _ _ h => h) (.int _)⟩
end

def eqD (d e : PyData) : Option PyData := match d, e with
  | .str a, .str b => some (.bool (decide (a = b)))
  | d, e => if (SeqAt.shaped d && SeqAt.shaped e) = true then some (.bool (PyData.eqv d e)) else none
def neD (d e : PyData) : Option PyData := match d, e with
  | .str a, .str b => some (.bool (!decide (a = b)))
  | d, e => if (SeqAt.shaped d && SeqAt.shaped e) = true then some (.bool (!PyData.eqv d e)) else none
def isNone : PyData → Bool
  | .none => true
  | _ => false
def isD : PyData → PyData → Option PyData
  | d, .none => some (.bool (isNone d))
  | .bool a, .bool b => some (.bool (a == b))
  | _, _ => none
def isntD : PyData → PyData → Option PyData
  | d, .none => some (.bool (!isNone d))
  | .bool a, .bool b => some (.bool (!(a == b)))
  | _, _ => none
def ltD : PyData → PyData → Option PyData
  | .int i, .int j => some (.bool (decide (i < j)))
  | .tuple xs, .tuple ys => (match intsOf xs, intsOf ys with
    | some ns, some ms => some (.bool (HT.lexLt ns ms))
    | _, _ => none)
  | _, _ => none
def leD : PyData → PyData → Option PyData
  | .int i, .int j => some (.bool (decide (i ≤ j)))
  | _, _ => none
def gtD : PyData → PyData → Option PyData
  | .int i, .int j => some (.bool (decide (j < i)))
  | _, _ => none
def geD : PyData → PyData → Option PyData
  | .int i, .int j => some (.bool (decide (j ≤ i)))
  | _, _ => none
theorem Df.isNon {Γ : Wd} {H : Hp} {v : V} {d : PyData} (h : Df Γ H v d) : decide (v = .non) = isNone d := by
  cases h <;> simp [isNone]
section
variable {X : Cx} {Γ : Wd} {pos : Pos} {a b c : Expr} {fa fb fc : M PyData} {k : Nat}
abbrev rLt (K : PySem.W.Frag) : R2 := fun x y H Q => rI0 (fun i j => .bl (decide (i < j))) x y H Q ∨ rLtT K x y H Q
theorem op_ltA (hr : Room k X.A) : OpR X (compareOp .Lt) (rLt X.K) := op_lt.or (op_ltT hr.units0)
abbrev rEqS (K : PySem.W.Frag) : R2 := fun x y H Q => rEqD K x y H Q ∨ rEq x y H Q
abbrev rNeS (K : PySem.W.Frag) : R2 := fun x y H Q => rNeD K x y H Q ∨ rNe x y H Q
theorem decV_str {a b : Str} : decide (V.str a = V.str b) = decide (a = b) := decide_eq_decide.mpr ⟨fun h => by cases h; rfl, fun h => by rw [h]⟩
theorem eq_does {x y : V} {d e z : PyData} {H : Hp} {Q : VK} (hx : ∀ c : d.canLay0 = true, Dp Γ.K H x d) (hy : ∀ c : e.canLay0 = true, Dp Γ.K H y e) (sx : ∀ a, d = .str a → x = .str a) (sy : ∀ a, e = .str a → y = .str a) (hg : eqD d e = some z) (k : ∀ v, Df Γ H v z → Q v H) : rEqS Γ.K x y H Q := by
  unfold eqD at hg
  split at hg
  · rename_i a b
    cases hg
    rw [sx a rfl, sy b rfl]
    exact .inr ⟨rfl, by rw [decV_str]; exact k _ (.bl _)⟩
  · split at hg
    · rename_i hc
      cases hg
      rw [Bool.and_eq_true] at hc
      exact .inl ⟨d, e, hx (SeqAt.canLay_of_shaped hc.1), hy (SeqAt.canLay_of_shaped hc.2), hc.1, hc.2, k _ (.bl _)⟩
    · cases hg
theorem ne_does {x y : V} {d e z : PyData} {H : Hp} {Q : VK} (hx : ∀ c : d.canLay0 = true, Dp Γ.K H x d) (hy : ∀ c : e.canLay0 = true, Dp Γ.K H y e) (sx : ∀ a, d = .str a → x = .str a) (sy : ∀ a, e = .str a → y = .str a) (hg : neD d e = some z) (k : ∀ v, Df Γ H v z → Q v H) : rNeS Γ.K x y H Q := by
  unfold neD at hg
  split at hg
  · rename_i a b
    cases hg
    rw [sx a rfl, sy b rfl]
    exact .inr ⟨rfl, by rw [decV_str]; exact k _ (.bl _)⟩
  · split at hg
    · rename_i hc
      cases hg
      rw [Bool.and_eq_true] at hc
      exact .inl ⟨d, e, hx (SeqAt.canLay_of_shaped hc.1), hy (SeqAt.canLay_of_shaped hc.2), hc.1, hc.2, k _ (.bl _)⟩
    · cases hg
theorem does_eq : Does2 Γ (rEqS Γ.K) eqD := fun x y d e z H Q hx hy hg k => eq_does (fun c => hx.dp c) (fun c => hy.dp c) (fun a h => by subst h; exact hx.str_inv) (fun a h => by subst h; exact hy.str_inv) hg fun v hv => k v H (fun _ _ h => h) hv
theorem does_ne : Does2 Γ (rNeS Γ.K) neD := fun x y d e z H Q hx hy hg k => ne_does (fun c => hx.dp c) (fun c => hy.dp c) (fun a h => by subst h; exact hx.str_inv) (fun a h => by subst h; exact hy.str_inv) hg fun v hv => k v H (fun _ _ h => h) hv
theorem does_lt : Does2 Γ (rLt Γ.K) ltD := by
  intro x y d e z H Q hx hy hg k
  cases d <;> cases e <;> simp only [ltD, Option.some.injEq, reduceCtorEq] at hg
  · subst hg; exact .inl ⟨_, _, hx.int_inv, hy.int_inv, k _ H (fun _ _ h => h) (.bl _)⟩
  · split at hg
    · rename_i ns ms e1 e2
      cases hg
      rw [intsOf_eq e1] at hx
      rw [intsOf_eq e2] at hy
      obtain ⟨l, xs, rfl, h1, h2⟩ := hx.tup_inv
      obtain ⟨l', ys, rfl, h3, h4⟩ := hy.tup_inv
      rw [h2.ints] at h1
      rw [h4.ints] at h3
      exact .inr ⟨l, l', ns, ms, rfl, rfl, h1, h3, k _ H (fun _ _ h => h) (.bl _)⟩
    · cases hg
theorem does_le : Does2 Γ (rI0 fun i j => .bl (decide (i ≤ j))) leD := by
  intro x y d e z H Q hx hy hg k
  cases d <;> cases e <;> simp only [leD, Option.some.injEq, reduceCtorEq] at hg
  subst hg; exact ⟨_, _, hx.int_inv, hy.int_inv, k _ H (fun _ _ h => h) (.bl _)⟩
theorem does_gt : Does2 Γ (rI0 fun i j => .bl (decide (j < i))) gtD := by
  intro x y d e z H Q hx hy hg k
  cases d <;> cases e <;> simp only [gtD, Option.some.injEq, reduceCtorEq] at hg
  subst hg; exact ⟨_, _, hx.int_inv, hy.int_inv, k _ H (fun _ _ h => h) (.bl _)⟩
theorem does_ge : Does2 Γ (rI0 fun i j => .bl (decide (j ≤ i))) geD := by
  intro x y d e z H Q hx hy hg k
  cases d <;> cases e <;> simp only [geD, Option.some.injEq, reduceCtorEq] at hg
  subst hg; exact ⟨_, _, hx.int_inv, hy.int_inv, k _ H (fun _ _ h => h) (.bl _)⟩
abbrev rIs : R2 := fun x y H Q => (y = .non ∧ Q (.bl (decide (x = .non))) H) ∨ rIsB x y H Q
abbrev rIsnt : R2 := fun x y H Q => (y = .non ∧ Q (.bl (!decide (x = .non))) H) ∨ rNotB x y H Q
theorem op_isA : OpR X (compareOp .Is) rIs := op_isN.or op_isBl
theorem op_isntA : OpR X (compareOp .IsNot) rIsnt := op_notN.or op_notBl
theorem does_is : Does2 Γ rIs isD := by
  intro x y d e z H Q hx hy hg k
  cases e <;> simp only [isD, Option.some.injEq, reduceCtorEq] at hg
  · subst hg; exact .inl ⟨hy.non_inv, by rw [hx.isNon]; exact k _ H (fun _ _ h => h) (.bl _)⟩
  · cases d <;> simp only [isD, Option.some.injEq, reduceCtorEq] at hg
    subst hg
    refine .inr ⟨_, _, hx.bl_inv, hy.bl_inv, ?_⟩
    rw [← Bool.beq_eq_decide_eq]
    exact k _ H (fun _ _ h => h) (.bl _)
  all_goals (cases d <;> simp [isD] at hg)
theorem does_isnt : Does2 Γ rIsnt isntD := by
  intro x y d e z H Q hx hy hg k
  cases e <;> simp only [isntD, Option.some.injEq, reduceCtorEq] at hg
  · subst hg; exact .inl ⟨hy.non_inv, by rw [hx.isNon]; exact k _ H (fun _ _ h => h) (.bl _)⟩
  · cases d <;> simp only [isntD, Option.some.injEq, reduceCtorEq] at hg
    subst hg
    refine .inr ⟨_, _, hx.bl_inv, hy.bl_inv, ?_⟩
    rw [← Bool.beq_eq_decide_eq]
    exact k _ H (fun _ _ h => h) (.bl _)
  all_goals (cases d <;> simp [isntD] at hg)

/-- a comparison's rule, by the operator -/
structure CmpR (X : Cx) (op : CmpOp) (g : PyData → PyData → Option PyData) : Prop where
  ex : ∃ r : R2, OpR X (compareOp op) r ∧ Does2 (wdX X) r g
theorem c_eq (hr : Room k X.A) : CmpR X .Eq eqD := ⟨_, (op_eqD hr.units).or op_eq, does_eq⟩
theorem c_ne (hr : Room k X.A) : CmpR X .NotEq neD := ⟨_, (op_neD hr.units).or op_ne, does_ne⟩
theorem c_lt (hr : Room k X.A) : CmpR X .Lt ltD := ⟨_, op_ltA hr, does_lt⟩
theorem c_le : CmpR X .LtE leD := ⟨_, op_le, does_le⟩
theorem c_gt : CmpR X .Gt gtD := ⟨_, op_gt, does_gt⟩
theorem c_ge : CmpR X .GtE geD := ⟨_, op_ge, does_ge⟩
theorem c_is : CmpR X .Is isD := ⟨_, op_isA, does_is⟩
theorem c_isnt : CmpR X .IsNot isntD := ⟨_, op_isntA, does_isnt⟩

def mT (f : M PyData) : M Bool := fun ρ => match f ρ with
  | some (.bool b, ρ') => some (b, ρ')
  | _ => none
theorem mT_inv {f : M PyData} {ρ ρ' : Env} {b : Bool} (h : mT f ρ = some (b, ρ')) : f ρ = some (.bool b, ρ') := by
  unfold mT at h
  split at h
  · rename_i e; cases h; exact e
  · cases h
theorem de_cm {op : CmpOp} {g : PyData → PyData → Option PyData} (hc : CmpR X op g) (ha : DE X a fa) (hb : DE X b fb) (hm : behindInMarks op b = false) : DE X (.Compare a [op] [b] pos) (m2 g fa fb) := by
  obtain ⟨r, ho, hd⟩ := hc
  exact de_cmp ho hd ha hb hm
theorem dt_cm {op : CmpOp} {g : PyData → PyData → Option PyData} (hc : CmpR X op g) (ha : DE X a fa) (hb : DE X b fb) (hm : behindInMarks op b = false) : DT X (.Compare a [op] [b] pos) (mT (m2 g fa fb)) := by
  obtain ⟨r, ho, hd⟩ := hc
  refine ⟨fun W => (pt_cmpR ho (ha.pe W) (hb.pe W) hm).imp fun σ H Q ⟨ρ, t, ρ', R, e, q⟩ => ?_⟩
  refine tOp_imp hd σ H _ ⟨ρ, .bool t, ρ', R, mT_inv e, fun v H' R' D g => ?_⟩
  exact ⟨t, D.bl_inv, q H' R' g⟩
/-- a value that is a bool, as a test -/
theorem dt_val {e : Expr} {f : M PyData} (h : DE X e f) (he : ∀ whole, isTrue e X.env whole = (do let v ← whole; standAt e.pos; holding [v] (truthy v)) := by intro _; rfl) : DT X e (mT f) := by
  refine ⟨fun W => (pt_val (h.pe W) he).imp fun σ H Q ⟨ρ, t, ρ', R, e1, q⟩ => ?_⟩
  exact ⟨ρ, .bool t, ρ', R, mT_inv e1, fun v H' R' D g => ⟨t, D.bl_inv, q H' R' g⟩⟩
/-- a op1 b op2 c -/
def m3c (g g' : PyData → PyData → Option PyData) (fa fb fc : M PyData) : M PyData := fun ρ => match fa ρ with
  | some (x, ρ1) => (match fb ρ1 with
    | some (y, ρ2) => (match g x y with
      | some (.bool true) => (match fc ρ2 with
        | some (z, ρ3) => (match g' y z with
          | some w => some (w, ρ3)
          | none => none)
        | none => none)
      | some (.bool false) => some (.bool false, ρ2)
      | _ => none)
    | none => none)
  | none => none
theorem m3c_inv {g g' : PyData → PyData → Option PyData} {ρ ρ' : Env} {z : PyData} (h : m3c g g' fa fb fc ρ = some (z, ρ')) : ∃ x ρ1 y ρ2, fa ρ = some (x, ρ1) ∧ fb ρ1 = some (y, ρ2) ∧
    ((g x y = some (.bool false) ∧ z = .bool false ∧ ρ2 = ρ') ∨ (g x y = some (.bool true) ∧ ∃ t, fc ρ2 = some (t, ρ') ∧ g' y t = some z)) := by
  unfold m3c at h
  cases e1 : fa ρ with
  | none => rw [e1] at h; cases h
  | some p =>
    obtain ⟨x, ρ1⟩ := p
    rw [e1] at h
    cases e2 : fb ρ1 with
    | none => simp only [e2] at h; cases h
    | some q =>
      obtain ⟨y, ρ2⟩ := q
      simp only [e2] at h
      split at h
      · rename_i e3
        cases e4 : fc ρ2 with
        | none => simp only [e4] at h; cases h
        | some q =>
          obtain ⟨t, ρ3⟩ := q
          simp only [e4] at h
          cases e5 : g' y t with
          | none => simp only [e5] at h; cases h
          | some w => simp only [e5] at h; cases h; exact ⟨x, ρ1, y, ρ2, rfl, e2, .inr ⟨e3, t, e4, e5⟩⟩
      · rename_i e3
        cases h
        exact ⟨x, ρ1, y, _, rfl, e2, .inl ⟨e3, rfl, rfl⟩⟩
      · cases h
theorem chain_imp {W : Wt} {r r' : R2} {g g' : PyData → PyData → Option PyData} (hr : Does2 Γ r g) (hr' : Does2 Γ r' g') (σ : Sg) (H : Hp) (Q : VK) (h : rdE Γ W (m3c g g' fa fb fc) σ H Q) : tChain r r' (rdE Γ W fa) (rdE Γ W fb) (rdE Γ W fc) σ H Q := by
  obtain ⟨ρ, z, ρ', R, e, k⟩ := h
  obtain ⟨x, ρ1, y, ρ2, e1, e2, h3⟩ := m3c_inv e
  refine ⟨ρ, x, ρ1, R, e1, fun v H1 R1 D1 g1 => ⟨ρ1, y, ρ2, R1, e2, fun u H2 R2 D2 g2 => ?_⟩⟩
  rcases h3 with ⟨e3, rfl, rfl⟩ | ⟨e3, t, e4, e5⟩
  · refine hr v u x y _ H2 _ (D1.grow g2) D2 e3 fun v' H3 s3 D3 => ⟨false, D3.bl_inv, ?_⟩
    rw [if_neg Bool.false_ne_true]
    exact k _ H3 (R2.same s3) (.bl _) (g1.trans (g2.trans (.same s3)))
  · refine hr v u x y _ H2 _ (D1.grow g2) D2 e3 fun v' H3 s3 D3 => ⟨true, D3.bl_inv, ?_⟩
    rw [if_pos rfl]
    refine ⟨ρ2, t, ρ', R2.same s3, e4, fun w H4 R4 D4 g4 => ?_⟩
    exact hr' u w y t z H4 Q (D2.grow ((Grow.same s3).trans g4)) D4 e5 fun v' H5 s5 D5 => k v' H5 (R4.same s5) D5 (g1.trans (g2.trans ((Grow.same s3).trans (g4.trans (.same s5)))))
theorem de_chain {op op' : CmpOp} {g g' : PyData → PyData → Option PyData} (h : CmpR X op g) (h' : CmpR X op' g') (ha : DE X a fa) (hb : DE X b fb) (hc : DE X c fc) (hm : lastMarks [op, op'] [b, c] = false := by with_unfolding_all rfl) :
    DE X (.Compare a [op, op'] [b, c] pos) (m3c g g' fa fb fc) := by
  obtain ⟨r, ho, hd⟩ := h
  obtain ⟨r', ho', hd'⟩ := h'
  exact ⟨fun W => (pe_chain ho ho' (ha.pe W) (hb.pe W) (hc.pe W) hm).imp (chain_imp hd hd')⟩
theorem dt_chain {op op' : CmpOp} {g g' : PyData → PyData → Option PyData} (h : CmpR X op g) (h' : CmpR X op' g') (ha : DE X a fa) (hb : DE X b fb) (hc : DE X c fc) (hm : lastMarks [op, op'] [b, c] = false := by with_unfolding_all rfl) :
    DT X (.Compare a [op, op'] [b, c] pos) (mT (m3c g g' fa fb fc)) := by
  obtain ⟨r, ho, hd⟩ := h
  obtain ⟨r', ho', hd'⟩ := h'
  refine ⟨fun W => (pt_chain ho ho' (ha.pe W) (hb.pe W) (hc.pe W) hm).imp fun σ H Q ⟨ρ, t, ρ', R, e, q⟩ => ?_⟩
  refine chain_imp hd hd' σ H _ ⟨ρ, .bool t, ρ', R, mT_inv e, fun v H' R' D g => ?_⟩
  exact ⟨t, D.bl_inv, q H' R' g⟩
end
end Dn
namespace Dn
open PySem PySem.Spec PyProof.Rows L2

def mAnd (fa fb : M PyData) : M PyData := fun ρ => match fa ρ with
  | some (.bool true, ρ1) => fb ρ1
  | some (.bool false, ρ1) => some (.bool false, ρ1)
  | _ => none
def mOr (fa fb : M PyData) : M PyData := fun ρ => match fa ρ with
  | some (.bool false, ρ1) => fb ρ1
  | some (.bool true, ρ1) => some (.bool true, ρ1)
  | _ => none
def notD : PyData → Option PyData
  | .bool b => some (.bool (!b))
  | _ => none
def tAndM (fa fb : M Bool) : M Bool := fun ρ => match fa ρ with
  | some (true, ρ1) => fb ρ1
  | some (false, ρ1) => some (false, ρ1)
  | none => none
def tOrM (fa fb : M Bool) : M Bool := fun ρ => match fa ρ with
  | some (false, ρ1) => fb ρ1
  | some (true, ρ1) => some (true, ρ1)
  | none => none
def tNotM (fa : M Bool) : M Bool := fun ρ => match fa ρ with
  | some (b, ρ1) => some (!b, ρ1)
  | none => none
def mIf {α : Type} (c : M Bool) (fa fb : M α) : M α := fun ρ => match c ρ with
  | some (true, ρ1) => fa ρ1
  | some (false, ρ1) => fb ρ1
  | none => none
section
variable {X : Cx} {pos : Pos} {a b c : Expr} {rest : List Expr} {fa fb : M PyData} {ca cb : M Bool}
theorem de_one {op : BoolOp} (h : DE X a fa) : DE X (.BoolOp op [a] pos) fa := ⟨fun W => pe_one (h.pe W)⟩
theorem de_and (ha : DE X a fa) (hb : DE X (.BoolOp .And (b :: rest) pos) fb) : DE X (.BoolOp .And (a :: b :: rest) pos) (mAnd fa fb) := by
  refine ⟨fun W => (pe_and (ha.pe W) (hb.pe W)).imp fun σ H Q ⟨ρ, d, ρ', R, e, k⟩ => ?_⟩
  unfold mAnd at e
  split at e
  · rename_i ρ1 e1
    exact ⟨ρ, _, ρ1, R, e1, fun v H1 R1 D1 g1 => ⟨true, D1.bl_inv, iteT <| ⟨ρ1, d, ρ', R1, e, fun u H2 R2 D2 g2 => k u H2 R2 D2 (g1.trans g2)⟩⟩⟩
  · rename_i ρ1 e1
    cases e
    exact ⟨ρ, _, _, R, e1, fun v H1 R1 D1 g1 => ⟨false, D1.bl_inv, iteF <| k _ H1 R1 (.bl _) g1⟩⟩
  · cases e
theorem de_or (ha : DE X a fa) (hb : DE X (.BoolOp .Or (b :: rest) pos) fb) : DE X (.BoolOp .Or (a :: b :: rest) pos) (mOr fa fb) := by
  refine ⟨fun W => (pe_or (ha.pe W) (hb.pe W)).imp fun σ H Q ⟨ρ, d, ρ', R, e, k⟩ => ?_⟩
  unfold mOr at e
  split at e
  · rename_i ρ1 e1
    exact ⟨ρ, _, ρ1, R, e1, fun v H1 R1 D1 g1 => ⟨false, D1.bl_inv, iteF <| ⟨ρ1, d, ρ', R1, e, fun u H2 R2 D2 g2 => k u H2 R2 D2 (g1.trans g2)⟩⟩⟩
  · rename_i ρ1 e1
    cases e
    exact ⟨ρ, _, _, R, e1, fun v H1 R1 D1 g1 => ⟨true, D1.bl_inv, iteT <| k _ H1 R1 (.bl _) g1⟩⟩
  · cases e
theorem de_not (ha : DE X a fa) : DE X (.UnaryOp .Not a pos) (m1 notD fa) := by
  refine ⟨fun W => (pe_not (ha.pe W)).imp fun σ H Q ⟨ρ, d, ρ', R, e, k⟩ => ?_⟩
  obtain ⟨x, e1, e2⟩ := m1_inv e
  cases x <;> simp only [notD, Option.some.injEq, reduceCtorEq] at e2
  subst e2
  exact ⟨ρ, _, ρ', R, e1, fun v H1 R1 D1 g1 => ⟨_, D1.bl_inv, k _ H1 R1 (.bl _) g1⟩⟩
theorem DW.dt (h : DW X a ca) : DT X a ca := ⟨fun W => (h.pw W).pt⟩
theorem dw_and1 (h : DT X a ca) : DW X (.BoolOp .And [a] pos) ca := ⟨fun W => pw_and1 (h.pt W)⟩
theorem dw_or1 (h : DT X a ca) : DW X (.BoolOp .Or [a] pos) ca := ⟨fun W => pw_or1 (h.pt W)⟩
theorem dw_and (ha : DT X a ca) (hb : DW X (.BoolOp .And (b :: rest) pos) cb) : DW X (.BoolOp .And (a :: b :: rest) pos) (tAndM ca cb) := by
  refine ⟨fun W => (pw_and (ha.pt W) (hb.pw W)).imp fun σ H Q ⟨ρ, d, ρ', R, e, k⟩ => ?_⟩
  unfold tAndM at e
  split at e
  · rename_i ρ1 e1
    exact ⟨ρ, _, ρ1, R, e1, fun H1 R1 g1 => iteT <| ⟨ρ1, d, ρ', R1, e, fun H2 R2 g2 => k H2 R2 (g1.trans g2)⟩⟩
  · rename_i ρ1 e1
    cases e
    exact ⟨ρ, _, _, R, e1, fun H1 R1 g1 => iteF <| k H1 R1 g1⟩
  · cases e
theorem dw_or (ha : DT X a ca) (hb : DW X (.BoolOp .Or (b :: rest) pos) cb) : DW X (.BoolOp .Or (a :: b :: rest) pos) (tOrM ca cb) := by
  refine ⟨fun W => (pw_or (ha.pt W) (hb.pw W)).imp fun σ H Q ⟨ρ, d, ρ', R, e, k⟩ => ?_⟩
  unfold tOrM at e
  split at e
  · rename_i ρ1 e1
    exact ⟨ρ, _, ρ1, R, e1, fun H1 R1 g1 => iteF <| ⟨ρ1, d, ρ', R1, e, fun H2 R2 g2 => k H2 R2 (g1.trans g2)⟩⟩
  · rename_i ρ1 e1
    cases e
    exact ⟨ρ, _, _, R, e1, fun H1 R1 g1 => iteT <| k H1 R1 g1⟩
  · cases e
theorem dt_not (ha : DT X a ca) : DT X (.UnaryOp .Not a pos) (tNotM ca) := by
  refine ⟨fun W => (pt_not (ha.pt W)).imp fun σ H Q ⟨ρ, d, ρ', R, e, k⟩ => ?_⟩
  unfold tNotM at e
  split at e
  · rename_i b0 ρ1 e1
    cases e
    exact ⟨ρ, _, _, R, e1, fun H1 R1 g1 => k H1 R1 g1⟩
  · cases e
theorem de_ifExp (hc : DT X c ca) (ha : DE X a fa) (hb : DE X b fb) : DE X (.IfExp c a b pos) (mIf ca fa fb) := by
  refine ⟨fun W => (pe_ifExp (hc.pt W) (ha.pe W) (hb.pe W)).imp fun σ H Q ⟨ρ, d, ρ', R, e, k⟩ => ?_⟩
  unfold mIf at e
  split at e
  · rename_i ρ1 e1
    exact ⟨ρ, _, ρ1, R, e1, fun H1 R1 g1 => iteT <| ⟨ρ1, d, ρ', R1, e, fun u H2 R2 D2 g2 => k u H2 R2 D2 (g1.trans g2)⟩⟩
  · rename_i ρ1 e1
    exact ⟨ρ, _, ρ1, R, e1, fun H1 R1 g1 => iteF <| ⟨ρ1, d, ρ', R1, e, fun u H2 R2 D2 g2 => k u H2 R2 D2 (g1.trans g2)⟩⟩
  · cases e
end

def aNil : M (List PyData) := fun ρ => some ([], ρ)
def aCons (fa : M PyData) (fr : M (List PyData)) : M (List PyData) := fun ρ => match fa ρ with
  | some (x, ρ1) => (match fr ρ1 with
    | some (xs, ρ2) => some (x :: xs, ρ2)
    | none => none)
  | none => none
theorem aCons_inv {fa : M PyData} {fr : M (List PyData)} {ρ ρ' : Env} {z : List PyData} (h : aCons fa fr ρ = some (z, ρ')) : ∃ x ρ1 xs, fa ρ = some (x, ρ1) ∧ fr ρ1 = some (xs, ρ') ∧ z = x :: xs := by
  unfold aCons at h
  cases e1 : fa ρ with
  | none => rw [e1] at h; cases h
  | some p =>
    obtain ⟨x, ρ1⟩ := p
    rw [e1] at h
    cases e2 : fr ρ1 with
    | none => simp only [e2] at h; cases h
    | some q =>
      obtain ⟨y, ρ2⟩ := q
      simp only [e2] at h
      cases h
      exact ⟨x, ρ1, y, rfl, e2, rfl⟩
/-- arguments, with their number -/
structure DAn (X : Cx) (es : List Expr) (f : M (List PyData)) : Prop where
  pa : ∀ W, PA X es (rdA (wdX X) W f)
  num : ∀ ρ ds ρ', f ρ = some (ds, ρ') → ds.length = es.length
section
variable {X : Cx} {pos : Pos} {e : Expr} {es : List Expr} {fa : M PyData} {fr : M (List PyData)}
theorem da_nil : DAn X [] aNil := ⟨fun W => pa_nil.imp fun σ H Q ⟨ρ, d, ρ', R, e, k⟩ => by cases e; exact k [] H R .nil (.refl H), fun ρ ds ρ' h => by cases h; rfl⟩
theorem da_cons (ha : DE X e fa) (hr : DAn X es fr) (hs : starEach (e :: es) X.env = (false, eval e X.env) :: starEach es X.env := by rfl) : DAn X (e :: es) (aCons fa fr) := by
  refine ⟨fun W => (pa_cons (ha.pe W) (hr.pa W) hs).imp fun σ H Q ⟨ρ, d, ρ', R, h, k⟩ => ?_, fun ρ ds ρ' h => ?_⟩
  · obtain ⟨x, ρ1, xs, e1, e2, rfl⟩ := aCons_inv h
    exact ⟨ρ, x, ρ1, R, e1, fun v H1 R1 D1 g1 => ⟨ρ1, xs, ρ', R1, e2, fun vs H2 R2 D2 g2 => k _ H2 R2 (.cons (D1.grow g2) D2) (g1.trans g2)⟩⟩
  · obtain ⟨x, ρ1, xs, e1, e2, rfl⟩ := aCons_inv h
    simp [hr.num _ _ _ e2]
def mTup (f : M (List PyData)) : M PyData := fun ρ => match f ρ with
  | some (ds, ρ') => some (.tuple ds, ρ')
  | none => none
theorem de_tup {x1 : _} (h : DAn X es fr) (hl : es.length ≤ 1000 := by decide) : DE X (.Tuple es x1 pos) (mTup fr) := by
  refine ⟨fun W => (pe_tup (h.pa W)).imp fun σ H Q ⟨ρ, d, ρ', R, e, k⟩ => ?_⟩
  unfold mTup at e
  split at e
  · rename_i ds ρ1 e1
    cases e
    refine ⟨ρ, ds, ρ', R, e1, fun vs H1 R1 D1 g1 => ⟨?_, fun p hp => ?_⟩⟩
    · rw [D1.length, h.num _ _ _ e1]
      exact Nat.le_trans hl (by rw [sizeLine_eq]; decide)
    · exact k _ _ (R1.same (Same.new hp)) (.tup (.of upd_same) (D1.grow (.new hp))) (g1.trans (.new hp))
  · cases e
end

def Ap (ρ : Env) (σ : Sg) (a : Addr) : Prop := ∀ i : Nat, mutS ρ[i]? → σ[i]? ≠ some (some (.ref a))
def NewS (Γ : Wd) (W : Wt) (σ : Sg) (ρ : Env) (H : Hp) (v : V) : Sl → Prop
  | .dat d => Df Γ H v d
  | .own ds => ∃ a xs, v = .ref a ∧ W.kp a = none ∧ H a = some (.lst xs) ∧ DfA Γ H xs ds ∧ Ap ρ σ a
  | .dic kvs => ∃ a xs, v = .ref a ∧ W.kp a = none ∧ H a = some (dO Γ a xs) ∧ DfE Γ H xs kvs ∧ Ap ρ σ a
  | .rng lo hi => ∃ a, v = .ref a ∧ H a = some (.rng lo hi)
  | _ => False
def rdS (Γ : Wd) (W : Wt) (f : M Sl) : TE := fun σ H Q => ∃ ρ s ρ', RepS Γ W σ H ρ ∧ f ρ = some (s, ρ') ∧
  ∀ v H', RepS Γ W σ H' ρ' → NewS Γ W σ ρ' H' v s → Grow H H' → Q v H'
structure SE (X : Cx) (e : Expr) (f : M Sl) : Prop where
  pe : ∀ W, PE X e (rdS (wdX X) W f)
section
variable {Γ : Wd} {W : Wt} {σ : Sg} {H : Hp} {ρ : Env}
theorem RepS.ap (R : RepS Γ W σ H ρ) {a : Addr} (h : H a = none) : Ap ρ σ a := fun i hi e => by
  cases es : ρ[i]? with
  | none => rw [es] at hi; exact hi
  | some s =>
    have q := R.at_ i s es
    rw [es] at hi
    cases s with
    | own ds => obtain ⟨b, xs, e1, _, h1, _⟩ := q; rw [e] at e1; cases e1; rw [h] at h1; cases h1
    | dic ds => obtain ⟨b, xs, e1, _, h1, _⟩ := q; rw [e] at e1; cases e1; rw [h] at h1; cases h1
    | _ => exact hi
theorem RepS.kp_none (R : RepS Γ W σ H ρ) {a : Addr} (h : H a = none) : W.kp a = none := by
  cases e : W.kp a with
  | none => rfl
  | some o => rw [R.keep a o e] at h; cases h
/-- an object is changed that no slot holds -/
theorem RepS.off {a : Addr} {o : HO} (R : RepS Γ W σ H ρ) (hW : W.kp a = none) (hm : Mut (H a)) (ap : Ap ρ σ a) : RepS Γ W σ (upd H a o) ρ := by
  have g : Grow H (upd H a o) := .but hm
  refine ⟨R.len, fun b u e => ?_, fun i t e => ?_, R.sep, R.anc⟩
  · rw [upd_ne (fun z => by subst z; rw [hW] at e; cases e)]; exact R.keep b u e
  · have q := R.at_ i t e
    have ne : ∀ b, σ[i]? = some (some (.ref b)) → mutS (some t) → b ≠ a := fun b eb mb z => by subst z; exact ap i (by rw [e]; exact mb) eb
    cases t with
    | un => trivial
    | dat d => obtain ⟨v, e1, h1⟩ := q; exact ⟨v, e1, h1.grow g⟩
    | own ds => obtain ⟨b, xs, e1, w, h1, h2⟩ := q; exact ⟨b, xs, e1, w, by rw [upd_ne (ne b e1 trivial)]; exact h1, h2.grow g⟩
    | dic ds => obtain ⟨b, xs, e1, w, h1, h2⟩ := q; exact ⟨b, xs, e1, w, by rw [upd_ne (ne b e1 trivial)]; exact h1, h2.grow g⟩
    | bor d => exact q
    | rng lo hi => obtain ⟨b, e1, h1⟩ := q; exact ⟨b, e1, g.rng _ _ _ h1⟩
/-- a slot is stored -/
def setSl (i : Nat) (s : Sl) (ρ : Env) : Option Env := match i, ρ with
  | 0, .own _ :: _ => none
  | i, ρ => some (ρ.set i s)
theorem setSl_eq {i : Nat} {s : Sl} {ρ ρ' : Env} (h : setSl i s ρ = some ρ') : ρ' = ρ.set i s ∧ (i = 0 → ∀ ds, ρ[0]? ≠ some (.own ds)) := by
  unfold setSl at h
  split at h
  · cases h
  · rename_i hn
    cases h
    refine ⟨rfl, fun hi ds e => ?_⟩
    subst hi
    cases ρ with
    | nil => simp at e
    | cons s0 r => simp at e; subst e; exact hn ds r rfl rfl
theorem RepS.set {i : Nat} {s : Sl} {ρ' : Env} {v : V} (R : RepS Γ W σ H ρ) (n : NewS Γ W σ ρ H v s) (h : setSl i s ρ = some ρ') : RepS Γ W (σ.set i (some v)) H ρ' := by
  obtain ⟨rfl, hz⟩ := setSl_eq h
  have anc : ∀ a, W.anc = some a → i ≠ 0 := fun a ha hi => by
    obtain ⟨_, ds, e⟩ := R.anc a ha
    exact hz hi ds e
  have mne : ∀ a, v = .ref a → mutS (some s) → ∀ j : Nat, mutS ρ[j]? → σ[j]? ≠ some (some (.ref a)) := fun a ev ms j hj e => by
    cases s with
    | own ds => obtain ⟨b, xs, e1, _, _, _, ap⟩ := n; rw [ev] at e1; cases e1; exact ap j hj e
    | dic ds => obtain ⟨b, xs, e1, _, _, _, ap⟩ := n; rw [ev] at e1; cases e1; exact ap j hj e
    | _ => exact ms
  refine ⟨by simpa using R.len, R.keep, fun j t e => ?_, fun j k a hjk hj hk ej ek => ?_, fun a ha => ?_⟩
  · by_cases hi : i = j
    · subst hi
      have hlt : i < ρ.length := by
        have := (List.getElem?_eq_some_iff.mp e).1
        simpa using this
      rw [List.getElem?_set_self hlt] at e; cases e
      rw [List.getElem?_set_self (by rw [← R.len]; exact hlt)]
      cases s with
      | un => trivial
      | dat d => exact ⟨v, rfl, n⟩
      | own ds => obtain ⟨b, xs, rfl, w, h1, h2, _⟩ := n; exact ⟨b, xs, rfl, w, h1, h2⟩
      | dic ds => obtain ⟨b, xs, rfl, w, h1, h2, _⟩ := n; exact ⟨b, xs, rfl, w, h1, h2⟩
      | bor d => exact n.elim
      | rng lo hi => obtain ⟨b, rfl, h1⟩ := n; exact ⟨b, rfl, h1⟩
    · rw [List.getElem?_set_ne hi] at e ⊢
      exact R.at_ j t e
  · have look : ∀ l, mutS (ρ.set i s)[l]? → i ≠ l → mutS ρ[l]? := fun l hl hi => by rw [List.getElem?_set_ne hi] at hl; exact hl
    have own : ∀ l, mutS (ρ.set i s)[l]? → i = l → mutS (some s) ∧ l < σ.length := fun l hl hi => by
      subst hi
      by_cases hlt : i < ρ.length
      · rw [List.getElem?_set_self hlt] at hl; exact ⟨hl, by rw [← R.len]; exact hlt⟩
      · rw [List.getElem?_eq_none (by simpa using hlt)] at hl; exact hl.elim
    by_cases hi : i = j
    · obtain ⟨ms, hlt⟩ := own j hj hi
      subst hi
      rw [List.getElem?_set_self hlt] at ej
      rw [List.getElem?_set_ne hjk] at ek
      cases ej
      exact mne a rfl ms k (look k hk hjk) ek
    · rw [List.getElem?_set_ne hi] at ej
      by_cases hi2 : i = k
      · obtain ⟨ms, hlt⟩ := own k hk hi2
        subst hi2
        rw [List.getElem?_set_self hlt] at ek
        cases ek
        exact mne a rfl ms j (look j hj hi) ej
      · rw [List.getElem?_set_ne hi2] at ek
        exact R.sep j k a hjk (look j hj hi) (look k hk hi2) ej ek
  · have hi := anc a ha
    obtain ⟨h1, ds, h2⟩ := R.anc a ha
    rw [List.getElem?_set_ne hi, List.getElem?_set_ne hi]
    exact ⟨h1, ds, h2⟩
theorem NewS.same {H' : Hp} {v : V} {s : Sl} (g : Same H H') (n : NewS Γ W σ ρ H v s) : NewS Γ W σ ρ H' v s := by
  cases s with
  | un => exact n
  | dat d => exact n.grow (.same g)
  | own ds => obtain ⟨a, xs, e, w, h1, h2, ap⟩ := n; exact ⟨a, xs, e, w, g _ _ h1, h2.grow (.same g), ap⟩
  | dic ds => obtain ⟨a, xs, e, w, h1, h2, ap⟩ := n; exact ⟨a, xs, e, w, g _ _ h1, h2.grow (.same g), ap⟩
  | bor d => exact n
  | rng lo hi => obtain ⟨a, e, h1⟩ := n; exact ⟨a, e, g _ _ h1⟩
end
def mDat (f : M PyData) : M Sl := fun ρ => match f ρ with
  | some (d, ρ') => some (.dat d, ρ')
  | none => none
def mFz (f : M Sl) : M PyData := fun ρ => match f ρ with
  | some (.dat d, ρ') => some (d, ρ')
  | some (.own ds, ρ') => some (.list ds, ρ')
  | some (.dic kvs, ρ') => some (.dict kvs, ρ')
  | _ => none
def mLst (f : M (List PyData)) : M Sl := fun ρ => match f ρ with
  | some (ds, ρ') => some (.own ds, ρ')
  | none => none
section
variable {X : Cx} {pos : Pos} {e : Expr} {es : List Expr} {fa : M PyData} {fs : M Sl} {fr : M (List PyData)}
theorem SE.of (h : DE X e fa) : SE X e (mDat fa) := by
  refine ⟨fun W => (h.pe W).imp fun σ H Q ⟨ρ, s, ρ', R, e1, k⟩ => ?_⟩
  unfold mDat at e1
  split at e1
  · rename_i d ρ1 e2
    cases e1
    exact ⟨ρ, d, ρ', R, e2, k⟩
  · cases e1
theorem de_fz (h : SE X e fs) : DE X e (mFz fs) := by
  refine ⟨fun W => ⟨fun pins s σ H Q I ⟨ρ, d, ρ', R, e1, k⟩ => ?_⟩⟩
  have go : ∀ sl, fs ρ = some (sl, ρ') → (∀ v H', RepS (wdX X) W σ H' ρ' → NewS (wdX X) W σ ρ' H' v sl → Grow H H' → ∀ s', Inv X pins σ H' s' → ∃ H'', Inv X pins σ H'' s' ∧ Q v H'') →
      wpAny (model X.prog X.w) X.A (eval e X.env) (EP X pins σ Q) X.xe s := fun sl e2 hk => by
    refine thn ((h.pe W).run pins s σ H (fun v H' => ∀ s', Inv X pins σ H' s' → ∃ H'', Inv X pins σ H'' s' ∧ Q v H'') I ⟨ρ, sl, ρ', R, e2, hk⟩) fun v s1 ⟨x, H1, I1, r1, q1⟩ => ?_
    obtain ⟨H2, I2, q2⟩ := q1 s1 I1
    exact ⟨x, H2, I2, r1, q2⟩
  unfold mFz at e1
  split at e1
  · rename_i d0 ρ1 e2
    cases e1
    exact go _ e2 fun v H' R' n g s' I' => ⟨H', I', k v H' R' n g⟩
  · rename_i ds ρ1 e2
    cases e1
    refine go _ e2 fun v H' R' n g s' I' => ?_
    obtain ⟨a, xs, rfl, w, h1, h2, ap⟩ := n
    obtain ⟨od, I2⟩ := I'.lock h1 trivial
    have hm : Mut (H' a) := by rw [h1]; trivial
    exact ⟨_, I2, k _ _ (R'.off w hm ap) (.lst ⟨od, upd_same⟩ (h2.grow (.but hm))) (g.trans (.but hm))⟩
  · rename_i ds ρ1 e2
    cases e1
    refine go _ e2 fun v H' R' n g s' I' => ?_
    obtain ⟨a, xs, rfl, w, h1, h2, ap⟩ := n
    obtain ⟨od, I2⟩ := I'.lock h1 trivial
    have hm : Mut (H' a) := by rw [h1]; trivial
    exact ⟨_, I2, k _ _ (R'.off w hm ap) (.dic ⟨od, upd_same⟩ (h2.grow (.but hm))) (g.trans (.but hm))⟩
  · cases e1
theorem se_lst (h : DAn X es fr) (hl : es.length ≤ 1000 := by decide) : SE X (.List es pos) (mLst fr) := by
  refine ⟨fun W => (pe_lst (h.pa W)).imp fun σ H Q ⟨ρ, s, ρ', R, e1, k⟩ => ?_⟩
  unfold mLst at e1
  split at e1
  · rename_i ds ρ1 e2
    cases e1
    refine ⟨ρ, ds, ρ', R, e2, fun vs H1 R1 D1 g1 => ⟨?_, fun p hp => ?_⟩⟩
    · rw [D1.length, h.num _ _ _ e2]
      exact Nat.le_trans hl (by rw [sizeLine_eq]; decide)
    · exact k _ _ (R1.same (Same.new hp)) ⟨p, vs, rfl, R1.kp_none hp, upd_same, D1.grow (.new hp), R1.ap hp⟩ (g1.trans (.new hp))
  · cases e1
end
end Dn
namespace Dn
open PySem PySem.Spec PyProof.Rows L2

theorem Dl.lst_inv {Γ : Wd} {H : Hp} {v : V} {ds : List PyData} (h : Dl Γ H v (.list ds)) : ∃ a xs, v = .ref a ∧ SqL Γ.K H a xs ∧ DfA Γ H xs ds := by
  cases h with
  | of h => obtain ⟨a, xs, e, h1, h2⟩ := h.lst_inv; exact ⟨a, xs, e, h1.sq, h2⟩
  | lst h1 h2 => exact ⟨_, _, rfl, h1, h2⟩
theorem Dl.tup_inv {Γ : Wd} {H : Hp} {v : V} {ds : List PyData} (h : Dl Γ H v (.tuple ds)) : ∃ a xs, v = .ref a ∧ SqT Γ.K H a xs ∧ DfA Γ H xs ds := by
  cases h with
  | of h => exact h.tup_inv
theorem Dl.str_inv {Γ : Wd} {H : Hp} {v : V} {z : Str} (h : Dl Γ H v (.str z)) : v = .str z := by
  cases h with
  | of h => exact h.str_inv
theorem Dl.int_inv {Γ : Wd} {H : Hp} {v : V} {z : Int} (h : Dl Γ H v (.int z)) : v = .int z := by
  cases h with
  | of h => exact h.int_inv
theorem Dl.bl_inv {Γ : Wd} {H : Hp} {v : V} {z : Bool} (h : Dl Γ H v (.bool z)) : v = .bl z := by
  cases h with
  | of h => exact h.bl_inv
theorem Dl.dic_inv {Γ : Wd} {H : Hp} {v : V} {kvs : List (PyData × PyData)} (h : Dl Γ H v (.dict kvs)) : ∃ a xs, v = .ref a ∧ Rd H a (dO Γ a xs) ∧ DfE Γ H xs kvs := by
  cases h with
  | of h =>
    cases h with
    | dic h1 h2 => exact ⟨_, _, rfl, .inr h1, h2⟩
  | dic h1 h2 => exact ⟨_, _, rfl, .inl h1, h2⟩

section
variable {X : Cx} {pins : List (Addr × Obj)} {σ : Sg} {H : Hp} {s : Shared}
theorem reads_of (I : Inv X pins σ H s) {v : V} {u : Value} {d : PyData} (h : Df (wdX X) H v d) (c : d.canLay0 = true) (r : RelV v u) : ∃ as, Reads s.heap u d as := Dp.reads I d v u (h.dp c) r
theorem readsA_of (I : Inv X pins σ H s) {vs : List V} {us : List Value} {ds : List PyData} (h : DfA (wdX X) H vs ds) (c : PyData.canLayAll0 ds = true) (r : Vals vs us) : ∃ as, ReadsAll s.heap us ds as := Dp.readsAll I ds vs us (h.dp c) r

mutual
def toKey : PyData → Option NestedKey
  | .none => some .none
  | .int i => some (.num i)
  | .str x => some (.text x)
  | .tuple ds => (toKeys ds).map .tup
  | .bool _ => none
  | .list _ => none
  | .dict _ => none
def toKeys : List PyData → Option (List NestedKey)
  | [] => some []
  | d :: ds => match toKey d, toKeys ds with
    | some k, some ks => some (k :: ks)
    | _, _ => none
end
mutual
theorem toKey_data : ∀ {d : PyData} {k : NestedKey}, toKey d = some k → d = k.data
  | .none, _, h => by simp only [toKey, Option.some.injEq] at h; subst h; rfl
  | .int i, _, h => by simp only [toKey, Option.some.injEq] at h; subst h; rfl
  | .str i, _, h => by simp only [toKey, Option.some.injEq] at h; subst h; rfl
  | .tuple ds, _, h => by
    simp only [toKey, Option.map_eq_some_iff] at h
    obtain ⟨ks, h1, rfl⟩ := h
    rw [toKeys_data h1]; simp [NestedKey.data]
  | .bool _, _, h => by simp [toKey] at h
  | .list _, _, h => by simp [toKey] at h
  | .dict _, _, h => by simp [toKey] at h
theorem toKeys_data : ∀ {ds : List PyData} {ks : List NestedKey}, toKeys ds = some ks → ds = NestedKey.datas ks
  | [], _, h => by simp only [toKeys, Option.some.injEq] at h; subst h; rfl
  | d :: ds, ks, h => by
    simp only [toKeys] at h
    split at h
    · rename_i k ks' e1 e2
      cases h
      rw [toKey_data e1, toKeys_data e2]; simp [NestedKey.datas]
    · cases h
end
mutual
theorem toKey_of : ∀ k : NestedKey, toKey k.data = some k
  | .none => by simp [NestedKey.data, toKey]
  | .num i => by simp [NestedKey.data, toKey]
  | .text i => by simp [NestedKey.data, toKey]
  | .tup ks => by simp [NestedKey.data, toKey, toKeys_of ks]
theorem toKeys_of : ∀ ks : List NestedKey, toKeys (NestedKey.datas ks) = some ks
  | [] => by simp [NestedKey.datas, toKeys]
  | k :: ks => by simp [NestedKey.datas, toKeys, toKey_of k, toKeys_of ks]
end
mutual
theorem eqv_key : ∀ k j : NestedKey, PyData.eqv k.data j.data = NestedKey.beq k j
  | .none, .none => by simp [NestedKey.data, PyData.eqv, NestedKey.beq]
  | .none, .num _ => by simp [NestedKey.data, PyData.eqv, NestedKey.beq]
  | .none, .text _ => by simp [NestedKey.data, PyData.eqv, NestedKey.beq]
  | .none, .tup _ => by simp [NestedKey.data, PyData.eqv, NestedKey.beq]
  | .num _, .none => by simp [NestedKey.data, PyData.eqv, NestedKey.beq]
  | .num a, .num b => by simp [NestedKey.data, PyData.eqv, NestedKey.beq, Bool.beq_eq_decide_eq]
  | .num _, .text _ => by simp [NestedKey.data, PyData.eqv, NestedKey.beq]
  | .num _, .tup _ => by simp [NestedKey.data, PyData.eqv, NestedKey.beq]
  | .text _, .none => by simp [NestedKey.data, PyData.eqv, NestedKey.beq]
  | .text _, .num _ => by simp [NestedKey.data, PyData.eqv, NestedKey.beq]
  | .text a, .text b => by simp [NestedKey.data, PyData.eqv, NestedKey.beq, Bool.beq_eq_decide_eq]
  | .text _, .tup _ => by simp [NestedKey.data, PyData.eqv, NestedKey.beq]
  | .tup _, .none => by simp [NestedKey.data, PyData.eqv, NestedKey.beq]
  | .tup _, .num _ => by simp [NestedKey.data, PyData.eqv, NestedKey.beq]
  | .tup _, .text _ => by simp [NestedKey.data, PyData.eqv, NestedKey.beq]
  | .tup ks, .tup js => by simp only [NestedKey.data, PyData.eqv, NestedKey.beq]; exact eqv_keys ks js
theorem eqv_keys : ∀ ks js : List NestedKey, PyData.eqvAll (NestedKey.datas ks) (NestedKey.datas js) = NestedKey.beqAll ks js
  | [], [] => by simp [NestedKey.datas, PyData.eqvAll, NestedKey.beqAll]
  | [], _ :: _ => by simp [NestedKey.datas, PyData.eqvAll, NestedKey.beqAll]
  | _ :: _, [] => by simp [NestedKey.datas, PyData.eqvAll, NestedKey.beqAll]
  | k :: ks, j :: js => by simp only [NestedKey.datas, PyData.eqvAll, NestedKey.beqAll, eqv_key k j, eqv_keys ks js]
end
theorem eqv_dec (k j : NestedKey) : PyData.eqv k.data j.data = decide (k = j) := by rw [eqv_key, NestedKey.decide_eq]

mutual
theorem nested_of (I : Inv X pins σ H s) : ∀ (k : NestedKey) (v : V) (u : Value), Df (wdX X) H v k.data → RelV v u → NestedIs s.heap k u
  | .none, v, u, h, r => by
    simp only [NestedKey.data] at h
    rw [h.non_inv] at r; cases r; exact .none
  | .num i, v, u, h, r => by
    simp only [NestedKey.data] at h
    rw [h.int_inv] at r; obtain ⟨t, rfl⟩ := r; exact .int i t
  | .text i, v, u, h, r => by
    simp only [NestedKey.data] at h
    rw [h.str_inv] at r; obtain ⟨t, rfl⟩ := r; exact .text i t
  | .tup ks, v, u, h, r => by
    simp only [NestedKey.data] at h
    obtain ⟨a, xs, rfl, h1, h2⟩ := h.tup_inv
    cases r
    obtain ⟨its, rv, ⟨o, ho, hc, n, hd⟩, _⟩ := I.tuple h1
    exact .tup ho hc hd (by simpa using nesteds_of I ks xs its h2 rv)
theorem nesteds_of (I : Inv X pins σ H s) : ∀ (ks : List NestedKey) (vs : List V) (us : List Value), DfA (wdX X) H vs (NestedKey.datas ks) → Vals vs us → NestedAll s.heap ks us
  | [], vs, us, h, r => by
    simp only [NestedKey.datas] at h
    cases h; cases r; exact .nil
  | k :: ks, vs, us, h, r => by
    simp only [NestedKey.datas] at h
    cases h with
    | cons h1 h2 =>
      cases r with
      | cons r1 r2 => exact .cons (nested_of I k _ _ h1 r1) (nesteds_of I ks _ _ h2 r2)
end

/-- what stands at the dict, by its keys -/
def entP (xs : List Ent) : List (NestedKey × Value) := xs.map fun x => (x.1, x.2.2)
theorem dict_raw (I : Inv X pins σ H s) {a : Addr} {xs : List Ent} (h : Rd H a (dO (wdX X) a xs)) : ∃ o es ep, s.heap.get? a = some o ∧ o.ExactDict ∧ o.data = .dict es ep ∧ es.toList = xs.map (entryOfKey (nestedKind X.prog X.w)) ∧ (xs.map (·.1)).Nodup ∧ (a == sysModules) = false ∧ xs.length ≤ sizeLine ∧ ∀ x ∈ xs, x.1.depth ≤ 8 := by
  rcases h with h | ⟨o, h⟩
  · exact (I.hok a _ h).1
  · exact (I.hok a _ h).2.1
theorem keys_of {kvs : List (PyData × PyData)} : ∀ {xs : List Ent}, DfE (wdX X) H xs kvs → ∀ x ∈ xs, Df (wdX X) H (.ref x.2.1) x.1.data := by
  intro xs h
  have go : ∀ (kvs : List (PyData × PyData)) (xs : List Ent), DfE (wdX X) H xs kvs → ∀ x ∈ xs, Df (wdX X) H (.ref x.2.1) x.1.data := by
    intro kvs
    induction kvs with
    | nil => intro xs h x hx; cases h; cases hx
    | cons p r ih =>
      intro xs h x hx
      cases h with
      | cons h1 h2 h3 h4 =>
        rcases List.mem_cons.mp hx with rfl | hx
        · exact h1
        · exact ih _ h4 x hx
  exact go kvs xs h
theorem keyed_of (I : Inv X pins σ H s) {a : Addr} {xs : List Ent} {kvs : List (PyData × PyData)} (h : Rd H a (dO (wdX X) a xs)) (he : DfE (wdX X) H xs kvs) : s.heap.DictKeyed (nestedKind X.prog X.w) a (entP xs) ∧ (a == sysModules) = false ∧ xs.length ≤ sizeLine := by
  obtain ⟨o, es, ep, ho, hx, hd, hl, hn, hs, hz, hdp⟩ := dict_raw I h
  exact ⟨⟨xs, ⟨o, es, ep, ho, hx, hd, hl, fun x hx => ⟨nested_of I _ _ _ (keys_of he x hx) rfl, hdp x hx⟩, hn⟩, rfl⟩, hs, hz⟩

def inB (d : PyData) : PyData → Option Bool
  | .list ds => if (SeqAt.shaped d && PyData.canLayAll0 ds) = true then some (ds.any fun z => PyData.eqv z d) else none
  | .tuple ds => if (SeqAt.shaped d && PyData.canLayAll0 ds) = true then some (ds.any fun z => PyData.eqv z d) else none
  | .dict kvs => (match toKey d with
    | some (.tup ks) => if (NestedKey.tup ks).depth ≤ 8 then some (kvs.any fun kv => PyData.eqv kv.1 d) else none
    | _ => none)
  | .str y => (match d with
    | .str x => some (!(Builtin.Str.occurrences y x 0 y.length 1).isEmpty)
    | _ => none)
  | _ => none
theorem any_keys (k : NestedKey) : ∀ {xs : List Ent} {kvs : List (PyData × PyData)}, DfE (wdX X) H xs kvs → (kvs.any fun kv => PyData.eqv kv.1 k.data) = (valueAt (entP xs) k).isSome := by
  intro xs kvs h
  have go : ∀ (kvs : List (PyData × PyData)) (xs : List Ent), DfE (wdX X) H xs kvs → (kvs.any fun kv => PyData.eqv kv.1 k.data) = (valueAt (entP xs) k).isSome := by
    intro kvs
    induction kvs with
    | nil => intro xs h; cases h; rfl
    | cons p r ih =>
      intro xs h
      cases h with
      | @cons j t u v d ys _ h1 h2 h3 h4 =>
        rw [List.any_cons, ih _ h4, eqv_dec]
        by_cases e : j = k
        · simp [entP, valueAt, e]
        · simp [entP, valueAt, e]
  exact go kvs xs h
def rInX (Γ : Wd) (neg : Bool) : R2 := fun x y H Q => ∃ d c b, Df Γ H x d ∧ Dl Γ H y c ∧ inB d c = some b ∧ Q (.bl (if neg then !b else b)) H
variable {k : Nat}
theorem op_inX (hr : Room k X.A) : OpR X (compareOp .In) (rInX (wdX X) false) := by
  intro pins s σ H x y v u Q I rx ry h
  obtain ⟨d, c, b, hd, hc, hb, q⟩ := h
  have hun := hr.un
  cases c <;> simp only [inB, reduceCtorEq] at hb
  · cases d <;> simp only [Option.some.injEq, reduceCtorEq] at hb
    subst hb
    exact op_in_str pins s σ H x y v u Q I rx ry ⟨_, _, hd.str_inv, hc.str_inv, q⟩
  · split at hb
    · rename_i hs
      cases hb
      rw [Bool.and_eq_true] at hs
      obtain ⟨a, xs, rfl, h1, h2⟩ := hc.lst_inv
      cases ry
      obtain ⟨its, rv, pl, hz⟩ := I.list h1
      obtain ⟨as, r1⟩ := reads_of I hd (SeqAt.canLay_of_shaped hs.1) rx
      obtain ⟨bs, r2⟩ := readsA_of I h2 hs.2 rv
      obtain ⟨o, n, ho, hcl, hdn, hdt⟩ := pl
      exact SeqAt.in_list_reads (.list ho hcl hdt (by simpa using r2)) r1 hs.2 (SeqAt.canLay_of_shaped hs.1) (room_in_shaped hs.1 (by omega)) ⟨.bl _, H, I, rfl, q⟩
    · cases hb
  · split at hb
    · rename_i hs
      cases hb
      rw [Bool.and_eq_true] at hs
      obtain ⟨a, xs, rfl, h1, h2⟩ := hc.tup_inv
      cases ry
      obtain ⟨its, rv, pl, hz⟩ := I.tuple h1
      obtain ⟨as, r1⟩ := reads_of I hd (SeqAt.canLay_of_shaped hs.1) rx
      obtain ⟨bs, r2⟩ := readsA_of I h2 hs.2 rv
      obtain ⟨o, ho, hcl, n, hdt⟩ := pl
      exact SeqAt.in_tuple_reads (.tuple ho hcl hdt (by simpa using r2)) r1 hs.2 (SeqAt.canLay_of_shaped hs.1) (room_in_shaped hs.1 (by omega)) ⟨.bl _, H, I, rfl, q⟩
    · cases hb
  · split at hb
    · rename_i ks ek
      split at hb
      · rename_i hdp
        cases hb
        obtain ⟨a, xs, rfl, h1, h2⟩ := hc.dic_inv
        cases ry
        have ed := toKey_data ek
        subst ed
        have hn := nested_of I _ _ _ hd rx
        obtain ⟨t, xs', rfl, _⟩ := (show Df (wdX X) H x (.tuple (NestedKey.datas ks)) from by simpa [NestedKey.data] using hd).tup_inv
        cases rx
        obtain ⟨hk, hsm, _⟩ := keyed_of I h1 h2
        rw [any_keys _ h2] at q
        exact in_keyed (knd := nestedKind X.prog X.w) (show X.A.units + 1 + 8 < cLine by omega) ⟨hn, hdp⟩ hsm hk ⟨.bl _, H, I.tok _, rfl, q⟩
      · cases hb
    · cases hb
theorem op_notInX (hr : Room k X.A) : OpR X (compareOp .NotIn) (rInX (wdX X) true) := by
  intro pins s σ H x y v u Q I rx ry h
  obtain ⟨d, c, b, hd, hc, hb, q⟩ := h
  have hun := hr.un
  cases c <;> simp only [inB, reduceCtorEq] at hb
  · cases d <;> simp only [Option.some.injEq, reduceCtorEq] at hb
    subst hb
    exact op_notin_str pins s σ H x y v u Q I rx ry ⟨_, _, hd.str_inv, hc.str_inv, q⟩
  · split at hb
    · rename_i hs
      cases hb
      rw [Bool.and_eq_true] at hs
      obtain ⟨a, xs, rfl, h1, h2⟩ := hc.lst_inv
      cases ry
      obtain ⟨its, rv, pl, hz⟩ := I.list h1
      obtain ⟨as, r1⟩ := reads_of I hd (SeqAt.canLay_of_shaped hs.1) rx
      obtain ⟨bs, r2⟩ := readsA_of I h2 hs.2 rv
      obtain ⟨o, n, ho, hcl, hdn, hdt⟩ := pl
      exact SeqAt.notIn_list_reads (.list ho hcl hdt (by simpa using r2)) r1 hs.2 (SeqAt.canLay_of_shaped hs.1) (room_in_shaped hs.1 (by omega)) ⟨.bl _, H, I, rfl, q⟩
    · cases hb
  · split at hb
    · rename_i hs
      cases hb
      rw [Bool.and_eq_true] at hs
      obtain ⟨a, xs, rfl, h1, h2⟩ := hc.tup_inv
      cases ry
      obtain ⟨its, rv, pl, hz⟩ := I.tuple h1
      obtain ⟨as, r1⟩ := reads_of I hd (SeqAt.canLay_of_shaped hs.1) rx
      obtain ⟨bs, r2⟩ := readsA_of I h2 hs.2 rv
      obtain ⟨o, ho, hcl, n, hdt⟩ := pl
      exact SeqAt.notIn_tuple_reads (.tuple ho hcl hdt (by simpa using r2)) r1 hs.2 (SeqAt.canLay_of_shaped hs.1) (room_in_shaped hs.1 (by omega)) ⟨.bl _, H, I, rfl, q⟩
    · cases hb
  · split at hb
    · rename_i ks ek
      split at hb
      · rename_i hdp
        cases hb
        obtain ⟨a, xs, rfl, h1, h2⟩ := hc.dic_inv
        cases ry
        have ed := toKey_data ek
        subst ed
        have hn := nested_of I _ _ _ hd rx
        obtain ⟨t, xs', rfl, _⟩ := (show Df (wdX X) H x (.tuple (NestedKey.datas ks)) from by simpa [NestedKey.data] using hd).tup_inv
        cases rx
        obtain ⟨hk, hsm, _⟩ := keyed_of I h1 h2
        rw [any_keys _ h2] at q
        exact notIn_keyed (knd := nestedKind X.prog X.w) (show X.A.units + 1 + 8 < cLine by omega) ⟨hn, hdp⟩ hsm hk ⟨.bl _, H, I.tok _, rfl, q⟩
      · cases hb
    · cases hb
def inD (d c : PyData) : Option PyData := match inB d c with
  | some b => some (.bool b)
  | none => none
def notInD (d c : PyData) : Option PyData := match inB d c with
  | some b => some (.bool (!b))
  | none => none
variable {pos : Pos} {a b c : Expr} {fa fb fc : M PyData}
theorem in_imp {Γ : Wd} {W : Wt} {neg : Bool} {g : PyData → PyData → Option PyData} (hg : ∀ d c z, g d c = some z → ∃ b, inB d c = some b ∧ z = .bool (if neg then !b else b)) (σ : Sg) (H : Hp) (Q : VK) (h : rdE Γ W (m2 g fa fb) σ H Q) : tOp (rInX Γ neg) (rdE Γ W fa) (rdL Γ W fb) σ H Q := by
  obtain ⟨ρ, z, ρ', R, e, k⟩ := h
  obtain ⟨x, ρ1, y, e1, e2, e3⟩ := m2_inv e
  obtain ⟨b, e4, rfl⟩ := hg _ _ _ e3
  exact ⟨ρ, x, ρ1, R, e1, fun v H1 R1 D1 g1 => ⟨ρ1, y, ρ', R1, e2, fun u H2 R2 D2 g2 => ⟨x, y, b, D1.grow g2, D2, e4, k _ H2 R2 (.bl _) (g1.trans g2)⟩⟩⟩
theorem inD_inv (d c z : PyData) (h : inD d c = some z) : ∃ b, inB d c = some b ∧ z = .bool (if false = true then !b else b) := by
  unfold inD at h
  split at h
  · rename_i b e; cases h; exact ⟨b, e, rfl⟩
  · cases h
theorem notInD_inv (d c z : PyData) (h : notInD d c = some z) : ∃ b, inB d c = some b ∧ z = .bool (if true = true then !b else b) := by
  unfold notInD at h
  split at h
  · rename_i b e; cases h; exact ⟨b, e, rfl⟩
  · cases h
theorem de_in (hr : Room k X.A) (ha : DE X a fa) (hb : LE X b fb) (hm : behindInMarks .In b = false) : DE X (.Compare a [.In] [b] pos) (m2 inD fa fb) :=
  ⟨fun W => (pe_cmpR (op_inX hr) (ha.pe W) (hb.pe W) hm).imp (in_imp inD_inv)⟩
theorem de_notIn (hr : Room k X.A) (ha : DE X a fa) (hb : LE X b fb) (hm : behindInMarks .NotIn b = false) : DE X (.Compare a [.NotIn] [b] pos) (m2 notInD fa fb) :=
  ⟨fun W => (pe_cmpR (op_notInX hr) (ha.pe W) (hb.pe W) hm).imp (in_imp notInD_inv)⟩
theorem dt_in (hr : Room k X.A) (ha : DE X a fa) (hb : LE X b fb) (hm : behindInMarks .In b = false) : DT X (.Compare a [.In] [b] pos) (mT (m2 inD fa fb)) := by
  refine ⟨fun W => (pt_cmpR (op_inX hr) (ha.pe W) (hb.pe W) hm).imp fun σ H Q ⟨ρ, t, ρ', R, e, q⟩ => ?_⟩
  exact in_imp inD_inv σ H _ ⟨ρ, .bool t, ρ', R, mT_inv e, fun v H' R' D g => ⟨t, D.bl_inv, q H' R' g⟩⟩
theorem dt_notIn (hr : Room k X.A) (ha : DE X a fa) (hb : LE X b fb) (hm : behindInMarks .NotIn b = false) : DT X (.Compare a [.NotIn] [b] pos) (mT (m2 notInD fa fb)) := by
  refine ⟨fun W => (pt_cmpR (op_notInX hr) (ha.pe W) (hb.pe W) hm).imp fun σ H Q ⟨ρ, t, ρ', R, e, q⟩ => ?_⟩
  exact in_imp notInD_inv σ H _ ⟨ρ, .bool t, ρ', R, mT_inv e, fun v H' R' D g => ⟨t, D.bl_inv, q H' R' g⟩⟩
end
end Dn
namespace Dn
open PySem PySem.Spec PyProof.Rows L2

def ixD : PyData → PyData → Option PyData
  | .list ds, .int i => atI ds i
  | .tuple ds, .int i => atI ds i
  | .str z, .int i => if z.length ≤ sizeLine then (atI z.cps.toList i).map fun c => .str ⟨#[c]⟩ else none
  | _, _ => none
theorem atI_df {Γ : Wd} {H : Hp} {vs : List V} {ds : List PyData} {i : Int} {d : PyData} (h : DfA Γ H vs ds) (e : atI ds i = some d) : ∃ v, atI vs i = some v ∧ Df Γ H v d := by
  unfold atI at e ⊢
  rw [h.length]
  cases q : ixN ds.length i with
  | none => rw [q] at e; cases e
  | some j => rw [q] at e; exact h.get e
theorem ix_does {Γ : Wd} {x y : V} {d e z : PyData} {H : Hp} {Q : VK} (hx : Dl Γ H x d) (hy : Df Γ H y e) (hg : ixD d e = some z) (k : ∀ v, Df Γ H v z → Q v H) : rIx Γ.K x y H Q := by
  cases d <;> cases e <;> simp only [ixD, reduceCtorEq] at hg
  · split at hg
    · rename_i hl
      obtain ⟨c, e1, rfl⟩ := Option.map_eq_some_iff.mp hg
      exact .inr (.inr ⟨_, _, c, hx.str_inv, hy.int_inv, hl, e1, k _ (.str _)⟩)
    · cases hg
  · obtain ⟨a, xs, rfl, h1, h2⟩ := hx.lst_inv
    obtain ⟨v, e1, h3⟩ := atI_df h2 hg
    exact .inl ⟨a, xs, _, v, rfl, hy.int_inv, h1, e1, k v h3⟩
  · obtain ⟨a, xs, rfl, h1, h2⟩ := hx.tup_inv
    obtain ⟨v, e1, h3⟩ := atI_df h2 hg
    exact .inr (.inl ⟨a, xs, _, v, rfl, hy.int_inv, h1, e1, k v h3⟩)
/-- the left side a name's slot: read behind the right side -/
def mLoc2 (i : Nat) (g : PyData → PyData → Option PyData) (fb : M PyData) : M PyData := fun ρ => match eLoc i ρ with
  | some _ => (match fb ρ with
    | some (y, ρ1) => (match eLoc i ρ1 with
      | some (x, _) => (match g x y with
        | some z => some (z, ρ1)
        | none => none)
      | none => none)
    | none => none)
  | none => none
theorem mLoc2_inv {i : Nat} {g : PyData → PyData → Option PyData} {fb : M PyData} {ρ ρ' : Env} {z : PyData} (h : mLoc2 i g fb ρ = some (z, ρ')) : (∃ p, eLoc i ρ = some p) ∧ ∃ y x p, fb ρ = some (y, ρ') ∧ eLoc i ρ' = some (x, p) ∧ g x y = some z := by
  unfold mLoc2 at h
  cases e0 : eLoc i ρ with
  | none => rw [e0] at h; cases h
  | some p0 =>
    simp only [e0] at h
    refine ⟨⟨p0, rfl⟩, ?_⟩
    cases e1 : fb ρ with
    | none => simp only [e1] at h; cases h
    | some q =>
      obtain ⟨y, ρ1⟩ := q
      simp only [e1] at h
      cases e2 : eLoc i ρ1 with
      | none => simp only [e2] at h; cases h
      | some q =>
        obtain ⟨x, ρ2⟩ := q
        simp only [e2] at h
        cases e3 : g x y with
        | none => simp only [e3] at h; cases h
        | some w => simp only [e3] at h; cases h; exact ⟨y, x, ρ2, rfl, e2, e3⟩
theorem eLoc_rep {Γ : Wd} {W : Wt} {σ : Sg} {H : Hp} {ρ : Env} {i : Nat} {x : PyData} {p : Env} (R : RepS Γ W σ H ρ) (h : eLoc i ρ = some (x, p)) : ∃ v, σ[i]? = some (some v) ∧ Dl Γ H v x ∧ p = ρ := by
  unfold eLoc at h
  split at h <;> first
    | (rename_i d' e
       cases h
       have q := R.at_ i _ e
       first
         | (obtain ⟨v, e1, h1⟩ := q; exact ⟨v, e1, .of h1, rfl⟩)
         | (obtain ⟨v, e1, h1⟩ := q; exact ⟨v, e1, h1.same R.keepB, rfl⟩)
         | (obtain ⟨a, xs, e1, w, h1, h2⟩ := q; exact ⟨.ref a, e1, .lst (.of h1) h2, rfl⟩)
         | (obtain ⟨a, xs, e1, w, h1, h2⟩ := q; exact ⟨.ref a, e1, .dic h1 h2, rfl⟩))
    | cases h
section
variable {X : Cx} {pos : Pos} {a b c : Expr} {fa fb fc : M PyData} {k : Nat}
theorem de_ix (ha : DE X a fa) (hb : DE X b fb) (hs : PlainIx b := by intro _ _; rfl) : DE X (.Subscript a b pos) (m2 ixD fa fb) := by
  refine ⟨fun W => (pe_ix ix_seq (ha.pe W) (hb.pe W) hs).imp fun σ H Q h => ?_⟩
  refine tOp_imp (Γ := wdX X) (r := rIx X.K) ?_ σ H Q h
  exact fun x y d e z H Q hx hy hg k => ix_does (Γ := wdX X) (.of hx) hy hg fun v hv => k v H (fun _ _ h => h) hv
theorem de_ixN (i : Nat) {x : Str} {p : Pos} (hb : DE X b fb) (hs : PlainIx b := by intro _ _; rfl) (hN : X.N[i]? = some x := by rfl) (hv : Vis X.env.scope x := by first | exact Or.inl rfl | exact Or.inr (Or.inl rfl) | exact Or.inr (Or.inr rfl)) (hd : (x == ("__debug__" : Str)) = false := by decide)
    (hcd : (x == ("__classdict__" : Str)) = false := by decide) : DE X (.Subscript (.Name x p) b pos) (mLoc2 i ixD fb) := by
  refine ⟨fun W => (pe_ix ix_seq (pe_var (i := i) hN hv hd hcd) (hb.pe W) hs).imp fun σ H Q ⟨ρ, z, ρ', R, e, k⟩ => ?_⟩
  obtain ⟨⟨⟨x0, p0⟩, e0⟩, y, x, p, e1, e2, e3⟩ := mLoc2_inv e
  obtain ⟨v, ev, hl, _⟩ := eLoc_rep R e0
  refine ⟨v, ev, ρ, y, ρ', R, e1, fun u H2 R2 D2 g2 => ?_⟩
  obtain ⟨v', ev', hl', _⟩ := eLoc_rep R2 e2
  rw [ev] at ev'; cases ev'
  exact ix_does (Γ := wdX X) hl' D2 e3 fun w hw => k w H2 R2 hw g2

def mPart (f : M PyData) : M (Option Int) := fun ρ => match f ρ with
  | some (.int i, ρ') => some (some i, ρ')
  | _ => none
def mNoPart : M (Option Int) := fun ρ => some (none, ρ)
def rdO (Γ : Wd) (W : Wt) (f : M (Option Int)) : TO := fun σ H Q => ∃ ρ d ρ', RepS Γ W σ H ρ ∧ f ρ = some (d, ρ') ∧ ∀ H', RepS Γ W σ H' ρ' → Grow H H' → Q d H'
structure DO (X : Cx) (e : Option Expr) (f : M (Option Int)) : Prop where
  po : ∀ W, ∃ t, PO X e t ∧ ∀ σ H Q, rdO (wdX X) W f σ H Q → t σ H Q
theorem do_none : DO X none mNoPart := ⟨fun W => ⟨_, po_none, fun σ H Q ⟨ρ, d, ρ', R, e, k⟩ => by cases e; exact k H R (.refl H)⟩⟩
theorem do_some (h : DE X a fa) : DO X (some a) (mPart fa) := by
  refine ⟨fun W => ⟨_, po_some (h.pe W), fun σ H Q ⟨ρ, d, ρ', R, e, k⟩ => ?_⟩⟩
  unfold mPart at e
  split at e
  · rename_i i ρ1 e1
    cases e
    exact ⟨ρ, .int i, ρ', R, e1, fun v H' R' D g => ⟨i, D.int_inv, k H' R' g⟩⟩
  · cases e
def cutD (ds : List PyData) (lo hi : Option Int) : List PyData := (ds.drop (HT.sIx ds.length 0 lo)).take (HT.sIx ds.length ds.length hi - HT.sIx ds.length 0 lo)
def sliceD (lo hi : Option Int) : PyData → Option PyData
  | .list ds => some (.list (cutD ds lo hi))
  | .tuple ds => some (.tuple (cutD ds lo hi))
  | .str z => if z.length ≤ sizeLine then some (.str (cutS z lo hi)) else none
  | _ => none
theorem cut_df {Γ : Wd} {H : Hp} {vs : List V} {ds : List PyData} (h : DfA Γ H vs ds) (lo hi : Option Int) : DfA Γ H (cutV vs lo hi) (cutD ds lo hi) := by
  unfold cutV cutD
  rw [h.length]
  exact (h.drop _).take _
theorem slFrz {r : V → Option Int → Option Int → Hp → VK → Prop} (h : SlR X r) : SlR X (fun x lo hi H Q => r x lo hi H fun v H1 => ∃ a xs, v = .ref a ∧ H1 a = some (.lst xs) ∧ ∀ o, Q v (upd H1 a (.frz o (.lst xs)))) := by
  intro pins s σ H x v vl vu lo hi sl Q I rx hs pl pu hq
  obtain ⟨T, id, h1, h2, h3⟩ := h pins s σ H x v vl vu lo hi sl _ I rx hs pl pu hq
  refine ⟨T, id, h1, h2, thn h3 fun w s1 ⟨z, H1, I1, r1, a, xs, e1, h1, q1⟩ => ?_⟩
  obtain ⟨od, I2⟩ := I1.lock h1 trivial
  exact ⟨z, _, I2, r1, q1 od⟩
def mSl (fa : M PyData) (fl fu : M (Option Int)) : M PyData := fun ρ => match fa ρ with
  | some (x, ρ1) => (match fl ρ1 with
    | some (lo, ρ2) => (match fu ρ2 with
      | some (hi, ρ3) => (match sliceD lo hi x with
        | some z => some (z, ρ3)
        | none => none)
      | none => none)
    | none => none)
  | none => none
theorem mSl_inv {fl fu : M (Option Int)} {ρ ρ' : Env} {z : PyData} (h : mSl fa fl fu ρ = some (z, ρ')) : ∃ x ρ1 lo ρ2 hi, fa ρ = some (x, ρ1) ∧ fl ρ1 = some (lo, ρ2) ∧ fu ρ2 = some (hi, ρ') ∧ sliceD lo hi x = some z := by
  unfold mSl at h
  cases e1 : fa ρ with
  | none => rw [e1] at h; cases h
  | some p =>
    obtain ⟨x, ρ1⟩ := p
    rw [e1] at h
    cases e2 : fl ρ1 with
    | none => simp only [e2] at h; cases h
    | some q =>
      obtain ⟨y, ρ2⟩ := q
      simp only [e2] at h
      cases e3 : fu ρ2 with
      | none => simp only [e3] at h; cases h
      | some q =>
        obtain ⟨y3, ρ3⟩ := q
        simp only [e3] at h
        cases e4 : sliceD y y3 x with
        | none => simp only [e4] at h; cases h
        | some w => simp only [e4] at h; cases h; exact ⟨x, ρ1, y, ρ2, y3, rfl, e2, e3, e4⟩
theorem de_slice {lo hi : Option Expr} {fl fu : M (Option Int)} {p2 : Pos} (ha : DE X a fa) (hl : DO X lo fl) (hu : DO X hi fu) : DE X (.Subscript a (.Slice lo hi none p2) pos) (mSl fa fl fu) := by
  refine ⟨fun W => ?_⟩
  obtain ⟨tl, hl1, hl2⟩ := hl.po W
  obtain ⟨tu, hu1, hu2⟩ := hu.po W
  refine (pe_slice (sl_tupA.or ((slFrz sl_list).or sl_str)) (ha.pe W) hl1 hu1).imp fun σ H Q ⟨ρ, z, ρ', R, e, k⟩ => ?_
  obtain ⟨x, ρ1, l, ρ2, u, e1, e2, e3, e4⟩ := mSl_inv e
  refine ⟨ρ, x, ρ1, R, e1, fun v H1 R1 D1 g1 => hl2 _ _ _ ⟨ρ1, l, ρ2, R1, e2, fun H2 R2 g2 => hu2 _ _ _ ⟨ρ2, u, ρ', R2, e3, fun H3 R3 g3 => ?_⟩⟩⟩
  have D3 := D1.grow (g2.trans g3)
  have g := g1.trans (g2.trans g3)
  cases x <;> simp only [sliceD, Option.some.injEq, reduceCtorEq] at e4
  · split at e4
    · rename_i hz
      cases e4
      exact .inr (.inr ⟨_, D3.str_inv, hz, k _ H3 R3 (.str _) g⟩)
    · cases e4
  · subst e4
    obtain ⟨l', xs, rfl, h1, h2⟩ := D3.lst_inv
    refine .inr (.inl ⟨l', xs, rfl, h1.sq, fun p hp => ⟨p, _, rfl, upd_same, fun o => ?_⟩⟩)
    rw [upd_upd]
    exact k _ _ (R3.same (Same.new hp)) (.lst ⟨o, upd_same⟩ ((cut_df h2 _ _).grow (.new hp))) (g.trans (.new hp))
  · subst e4
    rename_i ds
    obtain ⟨l', xs, rfl, h1, h2⟩ := D3.tup_inv
    refine .inl ⟨l', xs, rfl, h1, fun hw => ?_, fun hw p hp => ?_⟩
    · have e : cutD ds l u = ds := by
        unfold cutD
        rw [← h2.length, hw.1, hw.2, List.drop_zero, h2.length, Nat.sub_zero, List.take_length]
      rw [e] at k
      exact k _ H3 R3 D3 g
    · exact k _ _ (R3.same (Same.new hp)) (.tup (.of upd_same) ((cut_df h2 _ _).grow (.new hp))) (g.trans (.new hp))

theorem call1_imp {Γ : Wd} {W : Wt} {r : List V → Hp → VK → Prop} {g : PyData → Option PyData} (hd : ∀ (x : V) (d z : PyData) (H : Hp) (Q : VK), Dl Γ H x d → g d = some z → (∀ v H', Same H H' → Df Γ H' v z → Q v H') → r [x] H Q) (σ : Sg) (H : Hp) (Q : VK)
    (h : rdE Γ W (m1 g fa) σ H Q) : tCB r (tCons (rdL Γ W fa) tNil) σ H Q := by
  obtain ⟨ρ, z, ρ', R, e, k⟩ := h
  obtain ⟨x, e1, e2⟩ := m1_inv e
  exact ⟨ρ, x, ρ', R, e1, fun v H1 R1 D1 g1 => hd v x z H1 Q D1 e2 fun v' H3 s3 D3 => k v' H3 (R1.same s3) D3 (g1.trans (.same s3))⟩
structure Call1 (X : Cx) (f : Value) (g : PyData → Option PyData) : Prop where
  ex : ∃ r : List V → Hp → VK → Prop, CallR X f r ∧ ∀ (x : V) (d z : PyData) (H : Hp) (Q : VK), Dl (wdX X) H x d → g d = some z → (∀ v H', Same H H' → Df (wdX X) H' v z → Q v H') → r [x] H Q
theorem de_b1 {id : String} {g : PyData → Option PyData} {x : Str} {p : Pos} (hc : Call1 X (.builtin id) g) (hg : Gl X x) (hm : X.mg x = none) (hv : bootBuiltins x = some (.builtin id)) (ha : LE X a fa) (hn : x ≠ "__name__" := by decide) (hdb : (x == ("__debug__" : Str)) = false := by decide)
    (he : starEach [a] X.env = (false, eval a X.env) :: starEach [] X.env := by rfl) (hpl : (backTo pos (starEach [] X.env)).any (·.1) = false := by rfl) : DE X (.Call (.Name x p) [a] [] pos) (m1 g fa) := by
  obtain ⟨r, h1, h2⟩ := hc
  exact ⟨fun W => (pe_callB h1 hg hm hv (pa_cons (ha.pe W) pa_nil he) hn hdb he hpl).imp (call1_imp h2)⟩
theorem de_t1 {T : String} {g : PyData → Option PyData} {x : Str} {p : Pos} (hc : Call1 X (.type T) g) (hg : Gl X x) (hm : X.mg x = none) (hv : bootBuiltins x = some (.type T)) (ha : LE X a fa) (hn : x ≠ "__name__" := by decide) (hdb : (x == ("__debug__" : Str)) = false := by decide)
    (he : starEach [a] X.env = (false, eval a X.env) :: starEach [] X.env := by rfl) (hpl : (backTo pos (starEach [] X.env)).any (·.1) = false := by rfl) : DE X (.Call (.Name x p) [a] [] pos) (m1 g fa) := by
  obtain ⟨r, h1, h2⟩ := hc
  exact ⟨fun W => (pe_callTy h1 hg hm hv (pa_cons (ha.pe W) pa_nil he) hn hdb he hpl).imp (call1_imp h2)⟩
end

def lenD : PyData → Option PyData
  | .list ds => some (.int ds.length)
  | .tuple ds => some (.int ds.length)
  | .str z => if z.length ≤ sizeLine then some (.int z.length) else none
  | .dict kvs => some (.int kvs.length)
  | _ => none
def allD : PyData → Option PyData
  | .list ds => (boolsOf ds).map fun bs => .bool (bs.all id)
  | _ => none
def anyD : PyData → Option PyData
  | .list ds => (boolsOf ds).map fun bs => .bool (bs.any id)
  | _ => none
def sumD : PyData → Option PyData
  | .list ds => (intsOf ds).map fun ns => .int ns.sum
  | _ => none
def intD : PyData → Option PyData
  | .int i => some (.int i)
  | .bool b => some (.int (if b then 1 else 0))
  | _ => none
def absD : PyData → Option PyData
  | .int i => some (.int (if i < 0 then -i else i))
  | _ => none
def tupleD : PyData → Option PyData
  | .list ds => some (.tuple ds)
  | .tuple ds => some (.tuple ds)
  | _ => none
section
variable {X : Cx} {k : Nat}
theorem len_dict : CallR X (.builtin "len") (fun xs H Q => ∃ a ys kvs, xs = [.ref a] ∧ Rd H a (dO (wdX X) a ys) ∧ DfE (wdX X) H ys kvs ∧ Q (.int ys.length) H) := by
  intro pins s σ H xs us Q I r h
  obtain ⟨a, ys, kvs, rfl, h1, h2, q⟩ := h
  obtain ⟨u, rfl, rx⟩ := vals1 r
  cases rx
  obtain ⟨hk, hsm, hz⟩ := keyed_of I h1 h2
  have hle : (entP ys).length = ys.length := by simp [entP]
  rw [sizeLine_eq] at hz
  refine PyProof.Rows.call_len_slot (n := (entP ys).length) hk.typeIs PySem.F.slot_dict_len (fun Q' hq => len_keyed hsm hk hq) (by omega) (by rw [hle]; omega) ?_
  exact ⟨.int ys.length, H, I.tok _, ⟨_, by rw [hle]⟩, q⟩
theorem b_len : Call1 X (.builtin "len") lenD := by
  refine ⟨_, call_len_seq.or (call_len_str.or len_dict), fun x d z H Q hx hg k => ?_⟩
  cases d <;> simp only [lenD, Option.some.injEq, reduceCtorEq] at hg
  · split at hg
    · rename_i hl
      cases hg
      exact .inr (.inl ⟨_, by rw [hx.str_inv], hl, k _ H (fun _ _ h => h) (.int _)⟩)
    · cases hg
  · subst hg
    obtain ⟨a, xs, rfl, h1, h2⟩ := hx.lst_inv
    exact .inl ⟨a, xs, rfl, .inl h1, by rw [h2.length]; exact k _ H (fun _ _ h => h) (.int _)⟩
  · subst hg
    obtain ⟨a, xs, rfl, h1, h2⟩ := hx.tup_inv
    exact .inl ⟨a, xs, rfl, .inr h1, by rw [h2.length]; exact k _ H (fun _ _ h => h) (.int _)⟩
  · subst hg
    obtain ⟨a, xs, rfl, h1, h2⟩ := hx.dic_inv
    exact .inr (.inr ⟨a, xs, _, rfl, h1, h2, by rw [h2.length]; exact k _ H (fun _ _ h => h) (.int _)⟩)
theorem b_all (hc : X.calm = true) : Call1 X (.builtin "all") allD := by
  refine ⟨_, cr_all hc, fun x d z H Q hx hg k => ?_⟩
  cases d <;> simp only [allD, reduceCtorEq] at hg
  obtain ⟨bs, e, rfl⟩ := Option.map_eq_some_iff.mp hg
  rw [boolsOf_eq e] at hx
  obtain ⟨a, xs, rfl, h1, h2⟩ := hx.lst_inv
  rw [h2.bools] at h1
  exact ⟨a, bs, rfl, h1, k _ H (fun _ _ h => h) (.bl _)⟩
theorem b_any (hc : X.calm = true) : Call1 X (.builtin "any") anyD := by
  refine ⟨_, cr_any hc, fun x d z H Q hx hg k => ?_⟩
  cases d <;> simp only [anyD, reduceCtorEq] at hg
  obtain ⟨bs, e, rfl⟩ := Option.map_eq_some_iff.mp hg
  rw [boolsOf_eq e] at hx
  obtain ⟨a, xs, rfl, h1, h2⟩ := hx.lst_inv
  rw [h2.bools] at h1
  exact ⟨a, bs, rfl, h1, k _ H (fun _ _ h => h) (.bl _)⟩
theorem b_sum (hc : X.calm = true) : Call1 X (.builtin "sum") sumD := by
  refine ⟨_, cr_sum hc, fun x d z H Q hx hg k => ?_⟩
  cases d <;> simp only [sumD, reduceCtorEq] at hg
  obtain ⟨bs, e, rfl⟩ := Option.map_eq_some_iff.mp hg
  rw [intsOf_eq e] at hx
  obtain ⟨a, xs, rfl, h1, h2⟩ := hx.lst_inv
  rw [h2.ints] at h1
  exact ⟨a, bs, rfl, h1, k _ H (fun _ _ h => h) (.int _)⟩
theorem b_abs : Call1 X (.builtin "abs") absD := by
  refine ⟨_, call_abs, fun x d z H Q hx hg k => ?_⟩
  cases d <;> simp only [absD, Option.some.injEq, reduceCtorEq] at hg
  subst hg
  exact ⟨_, by rw [hx.int_inv], k _ H (fun _ _ h => h) (.int _)⟩
theorem b_int : Call1 X (.type "int") intD := by
  refine ⟨_, call_int1, fun x d z H Q hx hg k => ?_⟩
  cases d <;> simp only [intD, Option.some.injEq, reduceCtorEq] at hg
  · subst hg; exact .inr ⟨_, by rw [hx.bl_inv], k _ H (fun _ _ h => h) (.int _)⟩
  · subst hg; exact .inl ⟨_, by rw [hx.int_inv], k _ H (fun _ _ h => h) (.int _)⟩
theorem b_tuple : Call1 X (.type "tuple") tupleD := by
  refine ⟨_, call_tuple_of, fun x d z H Q hx hg k => ?_⟩
  cases d <;> simp only [tupleD, Option.some.injEq, reduceCtorEq] at hg
  · subst hg
    obtain ⟨a, xs, rfl, h1, h2⟩ := hx.lst_inv
    exact ⟨a, xs, rfl, .inl ⟨h1, fun l hl => k _ _ (Same.new hl) (.tup (.of upd_same) (h2.grow (.new hl)))⟩⟩
  · subst hg
    obtain ⟨a, xs, rfl, h1, h2⟩ := hx.tup_inv
    exact ⟨a, xs, rfl, .inr ⟨h1, k _ H (fun _ _ h => h) (.tup h1 h2)⟩⟩
end
end Dn
namespace Dn
open PySem PySem.Spec PyProof.Rows L2

inductive Out where
  | nx (ρ : Env) | rt (s : Sl) (ρ : Env) | bk (ρ : Env) | ct (ρ : Env)
abbrev MS := Env → Option Out

def EndOk (Γ : Wd) (W : Wt) (H : Hp) (D : Ends) : Out → Prop
  | .nx ρ' => ∀ σ' H', RepS Γ W σ' H' ρ' → Grow H H' → D.nx σ' H'
  | .rt s ρ' => ∀ v σ' H', RepS Γ W σ' H' ρ' → NewS Γ W σ' ρ' H' v s → Grow H H' → D.rt v H'
  | .bk ρ' => ∀ σ' H', RepS Γ W σ' H' ρ' → Grow H H' → D.bk σ' H'
  | .ct ρ' => ∀ σ' H', RepS Γ W σ' H' ρ' → Grow H H' → D.ct σ' H'
theorem EndOk.grow {Γ : Wd} {W : Wt} {H H' : Hp} {D : Ends} {o : Out} (g : Grow H H') (h : EndOk Γ W H D o) : EndOk Γ W H' D o := by
  cases o with
  | nx ρ => exact fun σ' H2 R g2 => h σ' H2 R (g.trans g2)
  | rt s ρ => exact fun v σ' H2 R n g2 => h v σ' H2 R n (g.trans g2)
  | bk ρ => exact fun σ' H2 R g2 => h σ' H2 R (g.trans g2)
  | ct ρ => exact fun σ' H2 R g2 => h σ' H2 R (g.trans g2)
def rdSt (Γ : Wd) (W : Wt) (g : MS) : TS := fun D σ H => ∃ ρ o, RepS Γ W σ H ρ ∧ g ρ = some o ∧ EndOk Γ W H D o
structure DS (X : Cx) (st : Stmt) (g : MS) : Prop where
  ps : ∀ W, PS X st (rdSt (wdX X) W g)
structure DSs (X : Cx) (st : List Stmt) (g : MS) : Prop where
  ps : ∀ W, PSs X st (rdSt (wdX X) W g)
section
variable {X : Cx}
theorem _root_.L2.PS.imp {e : Stmt} {t t' : TS} (h : PS X e t) (i : ∀ D σ H, t' D σ H → t D σ H) : PS X e t' := ⟨fun pins s σ H D I hq => h.run pins s σ H D I (i _ _ _ hq)⟩
theorem _root_.L2.PSs.imp {e : List Stmt} {t t' : TS} (h : PSs X e t) (i : ∀ D σ H, t' D σ H → t D σ H) : PSs X e t' := ⟨fun pins s σ H D I hq => h.run pins s σ H D I (i _ _ _ hq)⟩
end
def sNil : MS := fun ρ => some (.nx ρ)
def sSeq (g h : MS) : MS := fun ρ => match g ρ with
  | some (.nx ρ1) => h ρ1
  | some o => some o
  | none => none
def sExpr (f : M PyData) : MS := fun ρ => match f ρ with
  | some (_, ρ1) => some (.nx ρ1)
  | none => none
def sRet (f : M PyData) : MS := fun ρ => match f ρ with
  | some (d, ρ1) => some (.rt (.dat d) ρ1)
  | none => none
def sRetS (f : M Sl) : MS := fun ρ => match f ρ with
  | some (s, ρ1) => some (.rt s ρ1)
  | none => none
def sSet (i : Nat) (f : M Sl) : MS := fun ρ => match f ρ with
  | some (s, ρ1) => (match setSl i s ρ1 with
    | some ρ2 => some (.nx ρ2)
    | none => none)
  | none => none
def sIf (c : M Bool) (g h : MS) : MS := fun ρ => match c ρ with
  | some (true, ρ1) => g ρ1
  | some (false, ρ1) => h ρ1
  | none => none
def sNever : MS := fun _ => none
section
variable {X : Cx} {st : Stmt} {rest : List Stmt} {g h : MS} {e : Expr} {f : M PyData} {fs : M Sl} {pos : Pos} {k : Nat}
theorem dss_nil : DSs X [] sNil := ⟨fun W => pss_nil.imp fun D σ H ⟨ρ, o, R, e, q⟩ => by cases e; exact q σ H R (.refl H)⟩
theorem dss_cons (h1 : DS X st g) (h2 : DSs X rest h) : DSs X (st :: rest) (sSeq g h) := by
  refine ⟨fun W => (pss_cons (h1.ps W) (h2.ps W)).imp fun D σ H ⟨ρ, o, R, e, q⟩ => ?_⟩
  unfold sSeq at e
  cases e1 : g ρ with
  | none => rw [e1] at e; cases e
  | some o1 =>
    rw [e1] at e
    refine ⟨ρ, o1, R, e1, ?_⟩
    cases o1 with
    | nx ρ1 => exact fun σ' H' R' g' => ⟨ρ1, o, R', e, q.grow g'⟩
    | rt s ρ1 => cases e; exact q
    | bk ρ1 => cases e; exact q
    | ct ρ1 => cases e; exact q
theorem dss_one (h1 : DS X st g) : DSs X [st] g := ⟨fun W => pss_one (h1.ps W)⟩
theorem ds_expr (he : DE X e f) (hs : swapsWith e none pos.line X.env = pure false := by rfl) : DS X (.Expr e pos) (sExpr f) := by
  refine ⟨fun W => (ps_expr (he.pe W) hs).imp fun D σ H ⟨ρ, o, R, e, q⟩ => ?_⟩
  unfold sExpr at e
  split at e
  · rename_i d ρ1 e1
    cases e
    exact ⟨ρ, d, ρ1, R, e1, fun v H' R' D' g' => q σ H' R' g'⟩
  · cases e
theorem ds_ret (he : DE X e f) : DS X (.Return (some e) pos) (sRet f) := by
  refine ⟨fun W => (ps_ret (he.pe W)).imp fun D σ H ⟨ρ, o, R, e, q⟩ => ?_⟩
  unfold sRet at e
  split at e
  · rename_i d ρ1 e1
    cases e
    exact ⟨ρ, d, ρ1, R, e1, fun v H' R' D' g' => q v σ H' R' D' g'⟩
  · cases e
theorem ds_retS (he : SE X e fs) : DS X (.Return (some e) pos) (sRetS fs) := by
  refine ⟨fun W => (ps_ret (he.pe W)).imp fun D σ H ⟨ρ, o, R, e, q⟩ => ?_⟩
  unfold sRetS at e
  split at e
  · rename_i d ρ1 e1
    cases e
    exact ⟨ρ, d, ρ1, R, e1, fun v H' R' D' g' => q v σ H' R' D' g'⟩
  · cases e
theorem ds_set (i : Nat) {x : Str} {pos' : Pos} (hN : X.N.Nodup) (he : SE X e fs) (hi : X.N[i]? = some x := by rfl) (hx : Loc X.env.scope x := by first | exact .inl rfl | exact .inr rfl)
    (hs : swapsWith e (some (.Name x pos')) pos.line X.env = pure false := by rfl) (hf : X.fn x = true ∨ X.env.scope.names.lookup x = some .local := by first | exact .inl rfl | exact .inr rfl) : DS X (.Assign [.Name x pos'] e pos) (sSet i fs) := by
  refine ⟨fun W => (ps_set hN hi hx (he.pe W) hs hf).imp fun D σ H ⟨ρ, o, R, e, q⟩ => ?_⟩
  unfold sSet at e
  split at e
  · rename_i d ρ1 e1
    split at e
    · rename_i ρ2 e2
      cases e
      exact ⟨ρ, d, ρ1, R, e1, fun v H' R' n g' => q _ H' (R'.set n e2) g'⟩
    · cases e
  · cases e
theorem ds_if {c : Expr} {a b : List Stmt} {ca : M Bool} (hc : DT X c ca) (ha : DSs X a g) (hb : DSs X b h) : DS X (.If c a b pos) (sIf ca g h) := by
  refine ⟨fun W => (ps_if (hc.pt W) (ha.ps W) (hb.ps W)).imp fun D σ H ⟨ρ, o, R, e, q⟩ => ?_⟩
  unfold sIf at e
  split at e
  · rename_i ρ1 e1
    exact ⟨ρ, true, ρ1, R, e1, fun H' R' g' => iteT <| ⟨ρ1, o, R', e, q.grow g'⟩⟩
  · rename_i ρ1 e1
    exact ⟨ρ, false, ρ1, R, e1, fun H' R' g' => iteF <| ⟨ρ1, o, R', e, q.grow g'⟩⟩
  · cases e
/-- what is never come to -/
theorem dss_never {sts : List Stmt} : DSs X sts sNever := ⟨fun W => pss_never.imp fun D σ H ⟨ρ, o, R, e, q⟩ => by cases e⟩
theorem ds_never : DS X st sNever := ⟨fun W => ps_never.imp fun D σ H ⟨ρ, o, R, e, q⟩ => by cases e⟩
theorem ds_break : DS X (.Break pos) (fun ρ => some (.bk ρ)) := ⟨fun W => ps_break.imp fun D σ H ⟨ρ, o, R, e, q⟩ => by cases e; exact q σ H R (.refl H)⟩
theorem ds_continue : DS X (.Continue pos) (fun ρ => some (.ct ρ)) := ⟨fun W => ps_continue.imp fun D σ H ⟨ρ, o, R, e, q⟩ => by cases e; exact q σ H R (.refl H)⟩
theorem ds_pass : DS X (.Pass pos) sNil := ⟨fun W => ps_pass.imp fun D σ H ⟨ρ, o, R, e, q⟩ => by cases e; exact q σ H R (.refl H)⟩
end

def FrS (ts : List Nat) (σ σ' : Sg) : Prop := σ'.length = σ.length ∧ ∀ j, j ∉ ts → σ'[j]? = σ[j]?
def rdG (Γ : Wd) (W : Wt) (ts : List Nat) (gt : PyData → Env → Option Env) : TG := fun v σ H Q => ∃ d ρ ρ', RepS Γ W σ H ρ ∧ Df Γ H v d ∧ gt d ρ = some ρ' ∧
  ∀ σ' H', RepS Γ W σ' H' ρ' → Grow H H' → FrS ts σ σ' → Q σ' H'
def rdGs (Γ : Wd) (W : Wt) (ts : List Nat) (gt : List PyData → Env → Option Env) : TGs := fun v σ H Q => ∃ d ρ ρ', RepS Γ W σ H ρ ∧ DfA Γ H v d ∧ gt d ρ = some ρ' ∧
  ∀ σ' H', RepS Γ W σ' H' ρ' → Grow H H' → FrS ts σ σ' → Q σ' H'
structure DG (X : Cx) (tg : Expr) (ts : List Nat) (gt : PyData → Env → Option Env) : Prop where
  pg : ∀ W, PG X tg (rdG (wdX X) W ts gt)
structure DGs (X : Cx) (tg : List Expr) (ts : List Nat) (gt : List PyData → Env → Option Env) : Prop where
  pg : ∀ W, PGs X tg (rdGs (wdX X) W ts gt)
def tgN (i : Nat) (d : PyData) (ρ : Env) : Option Env := setSl i (.dat d) ρ
def tgNil (ds : List PyData) (ρ : Env) : Option Env := match ds with
  | [] => some ρ
  | _ => none
def tgCons (g : PyData → Env → Option Env) (gs : List PyData → Env → Option Env) (ds : List PyData) (ρ : Env) : Option Env := match ds with
  | d :: r => (match g d ρ with
    | some ρ1 => gs r ρ1
    | none => none)
  | _ => none
def tgTup (n : Nat) (gs : List PyData → Env → Option Env) (d : PyData) (ρ : Env) : Option Env := match d with
  | .tuple ds => if ds.length = n then gs ds ρ else none
  | _ => none
section
variable {X : Cx} {pos : Pos}
theorem _root_.L2.PG.imp {e : Expr} {t t' : TG} (h : PG X e t) (i : ∀ v σ H Q, t' v σ H Q → t v σ H Q) : PG X e t' := ⟨fun pins s σ H v u Q I r hq => h.run pins s σ H v u Q I r (i _ _ _ _ hq)⟩
theorem _root_.L2.PGs.imp {e : List Expr} {t t' : TGs} (h : PGs X e t) (i : ∀ v σ H Q, t' v σ H Q → t v σ H Q) : PGs X e t' := ⟨fun pins s σ H v u Q I r hq => h.run pins s σ H v u Q I r (i _ _ _ _ hq)⟩
theorem dg_name (i : Nat) {x : Str} (hN : X.N.Nodup) (hi : X.N[i]? = some x := by rfl) (hx : Loc X.env.scope x := by first | exact .inl rfl | exact .inr rfl) (hf : X.fn x = true ∨ X.env.scope.names.lookup x = some .local := by first | exact .inl rfl | exact .inr rfl) :
    DG X (.Name x pos) [i] (tgN i) :=
  ⟨fun W => (pg_name hN hi hx hf).imp fun v σ H Q ⟨d, ρ, ρ', R, hd, e, q⟩ => q _ H (R.set (s := .dat d) hd e) (.refl H) ⟨List.length_set .., fun j hj => by rw [List.getElem?_set_ne (fun z => hj (by simp [z]))]⟩⟩
theorem dgs_nil : DGs X [] [] tgNil := ⟨fun W => pgs_nil.imp fun v σ H Q ⟨d, ρ, ρ', R, hd, e, q⟩ => by
  unfold tgNil at e
  cases d with
  | nil => cases hd; cases e; exact ⟨rfl, q σ H R (.refl H) ⟨rfl, fun _ _ => rfl⟩⟩
  | cons => cases e⟩
theorem dgs_cons {e : Expr} {es : List Expr} {t : PyData → Env → Option Env} {u : List PyData → Env → Option Env} {ts1 ts2 : List Nat} (h1 : DG X e ts1 t) (h2 : DGs X es ts2 u)
    (hs : (assignEach (e :: es) X.env).map (·.2) = assign e X.env :: (assignEach es X.env).map (·.2) := by rfl) : DGs X (e :: es) (ts1 ++ ts2) (tgCons t u) := by
  refine ⟨fun W => (pgs_cons (h1.pg W) (h2.pg W) hs).imp fun v σ H Q ⟨d, ρ, ρ', R, hd, e, q⟩ => ?_⟩
  unfold tgCons at e
  cases hd with
  | nil => cases e
  | @cons v vs d ds h3 h4 =>
    cases e1 : t d ρ with
    | none => simp only [e1] at e; cases e
    | some ρ1 =>
      simp only [e1] at e
      exact ⟨v, vs, rfl, d, ρ, ρ1, R, h3, e1, fun σ' H' R' g' f' => ⟨ds, ρ1, ρ', R', h4.grow g', e, fun σ2 H2 R2 g2 f2 => q σ2 H2 R2 (g'.trans g2) ⟨f2.1.trans f'.1, fun j hj => (f2.2 j fun z => hj (by simp [z])).trans (f'.2 j fun z => hj (by simp [z]))⟩⟩⟩
theorem dg_tup {es : List Expr} {kk : _} {t : List PyData → Env → Option Env} {ts : List Nat} (hc : X.calm = true) (h : DGs X es ts t) (n : Nat)
    (hn : (assignEach es X.env).length = n := by rfl) (hst : (assignEach es X.env).findIdx? (·.1) = none := by rfl) : DG X (.Tuple es kk pos) ts (tgTup n t) := by
  refine ⟨fun W => (pg_tup hc (h.pg W) hn hst).imp fun v σ H Q ⟨d, ρ, ρ', R, hd, e, q⟩ => ?_⟩
  unfold tgTup at e
  cases d <;> simp only [reduceCtorEq] at e
  split at e
  · rename_i hl
    obtain ⟨a, xs, rfl, h1, h2⟩ := hd.tup_inv
    exact ⟨a, xs, rfl, h1, by rw [h2.length]; exact hl, _, ρ, ρ', R, h2, e, q⟩
  · cases e
/-- target = value -/
def sAsg (f : M PyData) (gt : PyData → Env → Option Env) : MS := fun ρ => match f ρ with
  | some (d, ρ1) => (match gt d ρ1 with
    | some ρ2 => some (.nx ρ2)
    | none => none)
  | none => none
theorem ds_asg {tg e : Expr} {f : M PyData} {gt : PyData → Env → Option Env} {ts : List Nat} (he : DE X e f) (hg : DG X tg ts gt) (hs : swapsWithSole [tg] e pos.line X.env = pure false := by rfl) (hw : swappedStores [tg] e X.env = pure none := by rfl)
    (h1 : (assignEach [tg] X.env).map (·.2) = [assign tg X.env] := by rfl) : DS X (.Assign [tg] e pos) (sAsg f gt) := by
  refine ⟨fun W => (ps_asg (he.pe W) (hg.pg W) hs hw h1).imp fun D σ H ⟨ρ, o, R, e, q⟩ => ?_⟩
  unfold sAsg at e
  split at e
  · rename_i d ρ1 e1
    split at e
    · rename_i ρ2 e2
      cases e
      exact ⟨ρ, d, ρ1, R, e1, fun v H' R' hd g' => ⟨d, ρ1, ρ2, R', hd, e2, fun σ2 H2 R2 g2 _ => q σ2 H2 R2 (g'.trans g2)⟩⟩
    · cases e
  · cases e
/-- o[i] = v of a list of one's own -/
def tgSub (i : Nat) (fi : M PyData) (d : PyData) (ρ : Env) : Option Env := match eLoc i ρ with
  | some _ => (match fi ρ with
    | some (.int j, ρ1) => (match ρ1[i]? with
      | some (.own ds) => (match ixN ds.length j with
        | some n => some (ρ1.set i (.own (ds.set n d)))
        | none => none)
      | _ => none)
    | _ => none)
  | none => none
theorem DfA.set {Γ : Wd} {H : Hp} {v : V} {d : PyData} (h : Df Γ H v d) : ∀ (n : Nat) {vs : List V} {ds : List PyData}, DfA Γ H vs ds → DfA Γ H (vs.set n v) (ds.set n d)
  | _, _, _, .nil => .nil
  | 0, _, _, .cons _ h2 => .cons h h2
  | n + 1, _, _, .cons h1 h2 => .cons h1 (DfA.set h n h2)
theorem RepS.own_set {Γ : Wd} {W : Wt} {σ : Sg} {H : Hp} {ρ : Env} {i : Nat} {ds es : List PyData} {a : Addr} {ys : List V} (R : RepS Γ W σ H ρ) (e : ρ[i]? = some (.own ds)) (ha : σ[i]? = some (some (.ref a))) (hd : DfA Γ H ys es) (hm : Mut (H a)) :
    RepS Γ W σ (upd H a (.lst ys)) (ρ.set i (.own es)) := by
  obtain ⟨b, xs, e1, w, h1, h2⟩ := R.at_ i _ e
  rw [ha] at e1; cases e1
  exact R.upd_at (k := i) (by rw [e]; trivial) ha trivial (.inl ⟨es, rfl⟩) ⟨a, ys, ha, w, upd_same, hd.grow (.but hm)⟩
theorem dg_sub (i : Nat) {x : Str} {p : Pos} {ie : Expr} {fi : M PyData} (hi : DE X ie fi)
    (hN : X.N[i]? = some x := by rfl) (hv : Vis X.env.scope x := by first | exact Or.inl rfl | exact Or.inr (Or.inl rfl) | exact Or.inr (Or.inr rfl)) (hd : (x == ("__debug__" : Str)) = false := by decide)
    (hcd : (x == ("__classdict__" : Str)) = false := by decide)
    (ha : ∀ v, assign (.Subscript (.Name x p) ie pos) X.env v = (do
      let ov ← holding [v] (eval (.Name x p) X.env)
      let iv ← holding [v, ov] (eval ie X.env)
      standAt pos
      holding [v, ov, iv] (setItem ov iv v)
      release [v, ov, iv] []) := by intro _; rfl) : DG X (.Subscript (.Name x p) ie pos) [] (tgSub i fi) := by
  refine ⟨fun W => (pg_sub (pe_var (i := i) hN hv hd hcd) (hi.pe W) set_list ha).imp fun v σ H Q ⟨d, ρ, ρ', R, hdf, e, q⟩ => ?_⟩
  unfold tgSub at e
  cases e0 : eLoc i ρ with
  | none => simp only [e0] at e; cases e
  | some p0 =>
  simp only [e0] at e
  obtain ⟨w, hw, _, _⟩ := eLoc_rep (x := p0.1) (p := p0.2) R e0
  cases e1 : fi ρ with
  | none => simp only [e1] at e; cases e
  | some pr =>
    obtain ⟨j0, ρ1⟩ := pr
    simp only [e1] at e
    cases j0 <;> simp only [reduceCtorEq] at e
    rename_i j
    cases e2 : ρ1[i]? with
    | none => simp only [e2] at e; cases e
    | some s =>
      simp only [e2] at e
      cases s <;> simp only [reduceCtorEq] at e
      rename_i ds
      cases e3 : ixN ds.length j with
      | none => simp only [e3] at e; cases e
      | some n =>
        simp only [e3] at e
        cases e
        refine ⟨w, hw, ρ, .int j, ρ1, R, e1, fun u H2 R2 D2 g2 => ?_⟩
        obtain ⟨a, xs, ea, wk, h1, h2⟩ := R2.at_ i _ e2
        rw [hw] at ea; cases ea
        have hm : Mut (H2 a) := by rw [h1]; trivial
        refine ⟨a, xs, j, n, rfl, D2.int_inv, h1, by rw [h2.length]; exact e3, ?_⟩
        exact q σ _ (R2.own_set e2 hw (h2.set (hdf.grow g2) n) hm) (g2.trans (.but hm)) ⟨rfl, fun _ _ => rfl⟩
end

def Wk (Γ : Wd) (J : It) (ds : List PyData) (H0 : Hp) : Prop := ∀ H, Grow H0 H → ∀ i : Nat,
  (i < ds.length → J.go i H ∧ ∀ x H', J.yld i H x H' → Same H H' ∧ ∃ d, ds[i]? = some d ∧ Df Γ H' x d) ∧ (ds.length ≤ i → J.stop i H)
def rdI (Γ : Wd) (W : Wt) (fi : M (List PyData)) : TI := fun σ H R => ∃ ρ ds ρ', RepS Γ W σ H ρ ∧ fi ρ = some (ds, ρ') ∧
  ∀ J H', RepS Γ W σ H' ρ' → Grow H H' → Wk Γ J ds H' → R J H'
structure DI (X : Cx) (tg iter : Expr) (fi : M (List PyData)) : Prop where
  pi : ∀ W, PI X tg iter (rdI (wdX X) W fi)
theorem _root_.L2.PI.imp {X : Cx} {tg e : Expr} {t t' : TI} (h : PI X tg e t) (i : ∀ σ H Q, t' σ H Q → t σ H Q) : PI X tg e t' := ⟨fun pins s σ H R I hq => h.run pins s σ H R I (i _ _ _ hq)⟩

def sLoop (gt : PyData → Env → Option Env) (body : MS) : List PyData → MS
  | [], ρ => some (.nx ρ)
  | d :: ds, ρ => (match gt d ρ with
    | none => none
    | some ρ1 => (match body ρ1 with
      | some (.nx ρ2) => sLoop gt body ds ρ2
      | some (.ct ρ2) => sLoop gt body ds ρ2
      | some (.bk ρ2) => some (.nx ρ2)
      | some (.rt s ρ2) => some (.rt s ρ2)
      | none => none))
def sFor (fi : M (List PyData)) (gt : PyData → Env → Option Env) (body : MS) : MS := fun ρ => match fi ρ with
  | some (ds, ρ1) => sLoop gt body ds ρ1
  | none => none
section
variable {X : Cx} {tg iter : Expr} {body : List Stmt} {fi : M (List PyData)} {gt : PyData → Env → Option Env} {g : MS} {pos : Pos}
theorem ds_for (hc : X.calm = true) {ts : List Nat} (hi : DI X tg iter fi) (hg : DG X tg ts gt) (hb : DSs X body g) (hp : PassesOwn (model X.prog X.w) X.A X.env X.xe)
    (hs : ∀ x, foldedSetIterable iter X.env x = pure x := by intro _; rfl) : DS X (.For tg iter body [] pos) (sFor fi gt g) := by
  refine ⟨fun W => (ps_for hp hc (hi.pi W) (hg.pg W) (hb.ps W) hs).imp fun D σ H ⟨ρ, o, R, e, q⟩ => ?_⟩
  unfold sFor at e
  split at e
  · rename_i ds ρ1 e1
    refine ⟨ρ, ds, ρ1, R, e1, fun J H1 R1 g1 wk => ?_⟩
    refine ⟨fun i m σ H2 => m = ds.length - i ∧ i ≤ ds.length ∧ Grow H1 H2 ∧ ∃ ρ2, RepS (wdX X) W σ H2 ρ2 ∧ sLoop gt g (ds.drop i) ρ2 = some o, ⟨ds.length, by simp, Nat.zero_le _, .refl _, ρ1, R1, by simpa using e⟩, ?_⟩
    rintro i m σ H2 ⟨rfl, hi, g2, ρ2, R2, e2⟩
    have gAll := g1.trans g2
    rcases Nat.lt_or_ge i ds.length with hlt | hge
    · obtain ⟨go, yl⟩ := (wk H2 g2 i).1 hlt
      have ed : ds.drop i = ds[i] :: ds.drop (i + 1) := List.drop_eq_getElem_cons hlt
      rw [ed, sLoop] at e2
      cases e3 : gt ds[i] ρ2 with
      | none => simp only [e3] at e2; cases e2
      | some ρ3 =>
        simp only [e3] at e2
        cases e4 : g ρ3 with
        | none => simp only [e4] at e2; cases e2
        | some ob =>
          refine .inr ⟨go, fun σ' H' => Grow H1 H' ∧ ∃ ρ4, RepS (wdX X) W σ' H' ρ4 ∧ sLoop gt g (ds.drop (i + 1)) ρ4 = some o, fun σ' H' ⟨g', ρ4, R4, e5⟩ => ⟨_, by omega, rfl, hlt, g', ρ4, R4, e5⟩, fun x H' y => ?_⟩
          obtain ⟨sm, d, hd, df⟩ := yl x H' y
          rw [List.getElem?_eq_getElem hlt] at hd
          cases hd
          refine ⟨_, ρ2, ρ3, R2.same sm, df, e3, fun σ3 H3 R3 g3 _ => ⟨ρ3, ob, R3, e4, ?_⟩⟩
          have gx : Grow H1 H3 := g2.trans ((Grow.same sm).trans g3)
          rw [e4] at e2
          cases ob with
          | nx ρ4 => exact fun σ' H4 R4 g4 => ⟨gx.trans g4, ρ4, R4, e2⟩
          | ct ρ4 => exact fun σ' H4 R4 g4 => ⟨gx.trans g4, ρ4, R4, e2⟩
          | bk ρ4 => cases e2; exact fun σ' H4 R4 g4 => q σ' H4 R4 (g1.trans (gx.trans g4))
          | rt s ρ4 => cases e2; exact fun v σ' H4 R4 n g4 => q v σ' H4 R4 n (g1.trans (gx.trans g4))
    · have ei : i = ds.length := by omega
      rw [ei, List.drop_length, sLoop] at e2
      cases e2
      exact .inl ⟨(wk H2 g2 i).2 hge, q σ H2 R2 gAll⟩
  · cases e

def sWhile (c : M Bool) (g : MS) : Nat → MS
  | 0, _ => none
  | n + 1, ρ => (match c ρ with
    | none => none
    | some (false, ρ1) => some (.nx ρ1)
    | some (true, ρ1) => (match g ρ1 with
      | some (.nx ρ2) => sWhile c g n ρ2
      | some (.ct ρ2) => sWhile c g n ρ2
      | some (.bk ρ2) => some (.nx ρ2)
      | some (.rt s ρ2) => some (.rt s ρ2)
      | none => none))
theorem ds_while (n : Nat) {c : Expr} {ca : M Bool} (hc : DT X c ca) (hb : DSs X body g) (hp : PassesOwn (model X.prog X.w) X.A X.env X.xe) : DS X (.While c body [] pos) (sWhile ca g n) := by
  refine ⟨fun W => (ps_while hp (hc.pt W) (hb.ps W)).imp fun D σ H ⟨ρ, o, R, e, q⟩ => ?_⟩
  refine ⟨fun m σ' H' => Grow H H' ∧ ∃ ρ', RepS (wdX X) W σ' H' ρ' ∧ sWhile ca g m ρ' = some o, ⟨n, .refl H, ρ, R, e⟩, ?_⟩
  rintro m σ1 H1 ⟨g1, ρ1, R1, e1⟩
  cases m with
  | zero => cases e1
  | succ m =>
    rw [sWhile] at e1
    cases e2 : ca ρ1 with
    | none => simp only [e2] at e1; cases e1
    | some p =>
      obtain ⟨b, ρ2⟩ := p
      simp only [e2] at e1
      refine ⟨ρ1, b, ρ2, R1, e2, fun H2 R2 g2 => ?_⟩
      have gx := g1.trans g2
      cases b with
      | false => cases e1; exact iteF (q σ1 H2 R2 gx)
      | true =>
        refine iteT ⟨fun σ' H' => Grow H H' ∧ ∃ ρ', RepS (wdX X) W σ' H' ρ' ∧ sWhile ca g m ρ' = some o, fun σ' H' h => ⟨m, Nat.lt_succ_self _, h⟩, ?_⟩
        cases e4 : g ρ2 with
        | none => simp only [e4] at e1; cases e1
        | some ob =>
          refine ⟨ρ2, ob, R2, e4, ?_⟩
          simp only [e4] at e1
          cases ob with
          | nx ρ4 => exact fun σ' H4 R4 g4 => ⟨gx.trans g4, ρ4, R4, e1⟩
          | ct ρ4 => exact fun σ' H4 R4 g4 => ⟨gx.trans g4, ρ4, R4, e1⟩
          | bk ρ4 => cases e1; exact fun σ' H4 R4 g4 => q σ' H4 R4 (gx.trans g4)
          | rt s ρ4 => cases e1; exact fun v σ' H4 R4 n g4 => q v σ' H4 R4 n (gx.trans g4)
end
end Dn
namespace Dn
open PySem PySem.Spec PyProof.Rows L2

/-- the keys of a locked dict, in their order -/
def ItD (Γ : Wd) (d : Addr) (o : Obj) (xs : List Ent) : It :=
  ⟨fun i H => H d = some (.frz o (dO Γ d xs)) ∧ i < xs.length, fun i H x H' => H' = H ∧ ∃ y, xs[i]? = some y ∧ x = .ref y.2.1, fun i H => H d = some (.frz o (dO Γ d xs)) ∧ xs.length ≤ i⟩
theorem frzD {X : Cx} {pins : List (Addr × Obj)} {σ : Sg} {H : Hp} {s : Shared} {d : Addr} {o : Obj} {xs : List Ent} (I : Inv X pins σ H s) (h : H d = some (.frz o (dO (wdX X) d xs))) :
    (d == sysModules) = false ∧ s.heap.get? d = some o ∧ o.ExactDict ∧ ∃ (es : Array DictEntry) (ep : Nat), o.data = .dict es ep ∧ es.size = xs.length ∧ ∀ (i : Nat) (y : Ent), xs[i]? = some y → ∃ (en : DictEntry), es[i]? = some en ∧ en.key = .ref y.2.1 := by
  obtain ⟨hd, hh, _⟩ := I.hok d _ h
  obtain ⟨o', es, ep, ho, hx, hdt, he, hn, hs, hz, hdp⟩ := hh
  rw [hd] at ho
  cases ho
  refine ⟨hs, hd, hx, es, ep, hdt, ?_, fun i y e => ?_⟩
  · have l := congrArg List.length he
    simpa using l
  · refine ⟨entryOfKey (nestedKind X.prog X.w) y, ?_, rfl⟩
    rw [← Array.getElem?_toList, he, List.getElem?_map, e]; rfl
theorem turnD {P : Program} {w : World} {K : PySem.W.Frag} {tg : Expr} {d : Addr} {o : Obj} {es : Array DictEntry} {ep : Nat} {xs : List Ent} (it : Addr) (hod : o.data = .dict es ep) :
    Turn P w K tg (ItD ⟨P, w, K⟩ d o xs) [it] it (fun i h => h.IsKeyIter it d i xs.length ep) where
  mem := by simp
  obj := fun i h st b hb => by
    cases (by simpa using hb : b = it)
    obtain ⟨oi, e, c, dd⟩ := st
    exact ⟨oi, e, fun v z => by rw [dd] at z; cases z⟩
  keep := fun i h h' st k => st.at fun oi e => k it (by simp) oi e
  item := by
    intro X hP hw hK hc i pins s σ H E I hf st hg
    subst hP hw hK
    obtain ⟨hd, hi⟩ := hg
    obtain ⟨f0, f1, f2, f3, f4, f5⟩ := hf it (by simp)
    obtain ⟨hs, hgd, hx, es', ep', hdt, hsz, ent⟩ := frzD I hd
    obtain ⟨rfl, rfl⟩ := dict_ep hod hdt
    obtain ⟨en, hen, hkey⟩ := ent i xs[i] (List.getElem?_eq_getElem hi)
    refine next_key_item st hgd hdt hsz hen fun h' st' sb => ?_
    have I1 : Inv X pins σ H { s with heap := h' } := I.turned (t' := s.toks) (fun b ob hb e => (sb.2 b hb).trans e) f0 f1 f3 f4 f5
    obtain ⟨oi, e, c, dd⟩ := id st'
    exact ⟨en.key, rfl, go_of (s := { s with heap := h' }) e c dd (by decide) ⟨.ref xs[i].2.1, H, I1, hkey, ⟨rfl, xs[i], List.getElem?_eq_getElem hi, rfl⟩, st', fun b hb => (hf b hb).1⟩⟩
  done := by
    intro X hP hw hK hc i pins s σ H E I hf st hg
    subst hP hw hK
    obtain ⟨hd, hi⟩ := hg
    obtain ⟨f0, f1, f2, f3, f4, f5⟩ := hf it (by simp)
    obtain ⟨hs, hgd, hx, es', ep', hdt, hsz, ent⟩ := frzD I hd
    obtain ⟨rfl, rfl⟩ := dict_ep hod hdt
    exact next_key_end (I.ok.hd hc) st hgd hdt hsz hi fun h' eb => ⟨rfl, I.turned (t' := s.toks) (fun b ob hb e => eb b ob hb e) f0 f1 f3 f4 f5⟩
  self := fun A i s Q E st h => by
    refine wpAny_pyIter_slot st.typeIs F.slot_dict_keyiterator_iter (wpAny_call_entry F.slot_dict_keyiterator_iter st.typeIs F.entry_dict_keyiterator_iter ?_ (F.args_dict_keyiterator_iter_1 _))
    show wpAny _ _ (ret (.ref it)) _ _ s
    exact wpAny_pure ⟨_, rfl, "dict_keyiterator", _, st.typeIs, F.slot_dict_keyiterator_next.lookup, h⟩

def itemsD : PyData → Option (List PyData)
  | .list ds => some ds
  | .tuple ds => some ds
  | .dict kvs => some (kvs.map (·.1))
  | _ => none
def mItems (f : M PyData) : M (List PyData) := fun ρ => match f ρ with
  | some (d, ρ') => (match itemsD d with
    | some ds => some (ds, ρ')
    | none => none)
  | none => none
theorem mItems_inv {f : M PyData} {ρ ρ' : Env} {ds : List PyData} (h : mItems f ρ = some (ds, ρ')) : ∃ d, f ρ = some (d, ρ') ∧ itemsD d = some ds := by
  unfold mItems at h
  cases e1 : f ρ with
  | none => rw [e1] at h; cases h
  | some p =>
    obtain ⟨d, ρ1⟩ := p
    rw [e1] at h
    cases e2 : itemsD d with
    | none => simp only [e2] at h; cases h
    | some z => simp only [e2] at h; cases h; exact ⟨d, rfl, e2⟩
theorem DfE.keyAt {Γ : Wd} {H : Hp} : ∀ {kvs : List (PyData × PyData)} {xs : List Ent} {i : Nat} {y : Ent}, DfE Γ H xs kvs → xs[i]? = some y → ∃ p, kvs[i]? = some p ∧ Df Γ H (.ref y.2.1) p.1
  | _, _, _, _, .nil, h => by simp at h
  | _, _, 0, _, .cons h1 _ _ _, h => by simp at h; subst h; exact ⟨_, rfl, h1⟩
  | _, _, i + 1, _, .cons _ _ _ h4, h => by
    obtain ⟨p, e, r⟩ := DfE.keyAt (i := i) h4 (by simpa using h)
    exact ⟨p, by simpa using e, r⟩
section
variable {X : Cx} {tg e : Expr} {f : M PyData} {pos : Pos}
theorem wk_list {a : Addr} {xs : List V} {ds : List PyData} {H0 : Hp} (h : Fzl H0 a xs) (hs : DfA (wdX X) H0 xs ds) : Wk (wdX X) (Itl X.K a) ds H0 := by
  intro H g i
  have hq : SqL X.K H a xs := (h.grow g).sq
  have hl := hs.length
  refine ⟨fun hi => ⟨⟨xs, xs[i], hq, List.getElem?_eq_getElem (by omega)⟩, fun x H' y => ?_⟩, fun hi => ⟨xs, hq, by omega⟩⟩
  obtain ⟨rfl, y⟩ := y
  obtain ⟨d, e, r⟩ := (hs.grow g).getV (y xs hq)
  exact ⟨fun _ _ q => q, d, e, r⟩
theorem wk_tup {a : Addr} {xs : List V} {ds : List PyData} {H0 : Hp} (h : SqT X.K H0 a xs) (hs : DfA (wdX X) H0 xs ds) : Wk (wdX X) (Itt X.K a) ds H0 := by
  intro H g i
  have hq : SqT X.K H a xs := sqT_grow g h
  have hl := hs.length
  refine ⟨fun hi => ⟨⟨xs, xs[i], hq, List.getElem?_eq_getElem (by omega)⟩, fun x H' y => ?_⟩, fun hi => ⟨xs, hq, by omega⟩⟩
  obtain ⟨rfl, y⟩ := y
  obtain ⟨d, e, r⟩ := (hs.grow g).getV (y xs hq)
  exact ⟨fun _ _ q => q, d, e, r⟩
theorem di_val (he : DE X e f) : DI X tg e (mItems f) := by
  refine ⟨fun W => ⟨fun pins s σ H R I h => ?_⟩⟩
  obtain ⟨ρ, ds, ρ', Rp, e1, k⟩ := h
  obtain ⟨d, e2, e3⟩ := mItems_inv e1
  cases d <;> simp only [itemsD, Option.some.injEq, reduceCtorEq] at e3
  · subst e3
    refine (pi_list (he.pe W)).run pins s σ H R I ⟨ρ, _, ρ', Rp, e2, fun v H1 R1 D1 g1 => ?_⟩
    obtain ⟨a, xs, rfl, h1, h2⟩ := D1.lst_inv
    exact ⟨a, rfl, ⟨xs, h1.sq⟩, k _ H1 R1 g1 (wk_list h1 h2)⟩
  · subst e3
    refine (pi_tup (he.pe W)).run pins s σ H R I ⟨ρ, _, ρ', Rp, e2, fun v H1 R1 D1 g1 => ?_⟩
    obtain ⟨a, xs, rfl, h1, h2⟩ := D1.tup_inv
    exact ⟨a, rfl, ⟨xs, h1⟩, k _ H1 R1 g1 (wk_tup h1 h2)⟩
  · subst e3
    refine thn ((he.pe W).run pins s σ H (fun v H1 => RepS (wdX X) W σ H1 ρ' ∧ Df (wdX X) H1 v (.dict _) ∧ Grow H H1) I ⟨ρ, _, ρ', Rp, e2, fun v H1 R1 D1 g1 => ⟨R1, D1, g1⟩⟩) fun u s1 ⟨x, H1, I1, rx, R1, D1, g1⟩ => ?_
    cases D1 with
    | @dic a xs kvs hz hs =>
      obtain ⟨o, ho⟩ := hz
      cases rx
      obtain ⟨hsm, hgd, hx, es, ep, hdt, hsz, ent⟩ := frzD I1 ho
      refine iter_keys hsm hgd hx hdt (pi_one (tk := s1.toks) I1 _ (turnD (P := X.prog) (w := X.w) (K := X.K) (d := a) (xs := xs) _ hdt) ⟨_, Heap.get?_push_size _ rfl, rfl, ?_⟩ (k _ H1 R1 g1 ?_))
      · rw [hsz] <;> rfl
      · intro H2 g2 i
        have hl := hs.length
        have hd2 := g2.frz _ _ _ ho
        have hs2 := hs.grow g2
        refine ⟨fun hi => ⟨⟨hd2, by simp at hi; omega⟩, fun x H' y => ?_⟩, fun hi => ⟨hd2, by simp at hi; omega⟩⟩
        obtain ⟨rfl, y0, ey, rfl⟩ := y
        obtain ⟨p, ep, rp⟩ := hs2.keyAt ey
        exact ⟨fun _ _ q => q, p.1, by simp [ep], rp⟩

def rngD (lo : Int) (n : Nat) : List PyData := (List.range n).map fun i => PyData.int (lo + (i : Nat))
def mRng1 (f : M (List PyData)) : M (List PyData) := fun ρ => match f ρ with
  | some ([.int j], ρ') => if -(2 ^ 62) ≤ j ∧ j < 2 ^ 62 then some (rngD 0 j.toNat, ρ') else none
  | _ => none
def mRng2 (f : M (List PyData)) : M (List PyData) := fun ρ => match f ρ with
  | some ([.int i, .int j], ρ') => if (-(2 ^ 62) ≤ i ∧ i < 2 ^ 62) ∧ -(2 ^ 62) ≤ j ∧ j < 2 ^ 62 then some (rngD i (j - i).toNat, ρ') else none
  | _ => none
theorem wk_rng {Γ : Wd} {lo : Int} {n : Nat} {H0 : Hp} : Wk Γ (Itr lo n) (rngD lo n) H0 := by
  intro H g i
  refine ⟨fun hi => ⟨by simpa [rngD, Itr] using hi, fun x H' y => ?_⟩, fun hi => by simpa [rngD, Itr] using hi⟩
  obtain ⟨rfl, rfl⟩ := y
  have hi' : i < n := by simpa [rngD] using hi
  exact ⟨fun _ _ q => q, .int (lo + (i : Nat)), by simp [rngD, hi'], .int _⟩
variable {a b : Expr} {fr : M (List PyData)} {p : Pos}
theorem DfA.one {Γ : Wd} {H : Hp} {vs : List V} {d : PyData} (h : DfA Γ H vs [d]) : ∃ v, vs = [v] ∧ Df Γ H v d := by
  cases h with
  | cons h1 h2 => cases h2; exact ⟨_, rfl, h1⟩
theorem DfA.two {Γ : Wd} {H : Hp} {vs : List V} {d e : PyData} (h : DfA Γ H vs [d, e]) : ∃ v u, vs = [v, u] ∧ Df Γ H v d ∧ Df Γ H u e := by
  cases h with
  | cons h1 h2 => obtain ⟨u, rfl, h3⟩ := h2.one; exact ⟨_, u, rfl, h1, h3⟩
theorem di_rng1 (hg : Gl X "range") (hm : X.mg "range" = none) (ha : DAn X [a] fr) (hs : starEach [a] X.env = [(false, eval a X.env)] := by rfl) : DI X tg (.Call (.Name "range" p) [a] [] pos) (mRng1 fr) := by
  refine ⟨fun W => (pi_range1 hg hm (ha.pa W) hs).imp fun σ H R ⟨ρ, ds, ρ', Rp, e, k⟩ => ?_⟩
  unfold mRng1 at e
  split at e
  · rename_i j ρ1 e1
    split at e
    · rename_i hb
      cases e
      refine ⟨ρ, _, ρ', Rp, e1, fun vs H1 R1 D1 g1 => ?_⟩
      obtain ⟨v, rfl, D3⟩ := D1.one
      exact ⟨j, by rw [D3.int_inv], hb.1, hb.2, k _ H1 R1 g1 wk_rng⟩
    · cases e
  · cases e
theorem di_rng2 (hg : Gl X "range") (hm : X.mg "range" = none) (ha : DAn X [a, b] fr) (hs : starEach [a, b] X.env = [(false, eval a X.env), (false, eval b X.env)] := by rfl) (hs2 : starEach [b] X.env = [(false, eval b X.env)] := by rfl) :
    DI X tg (.Call (.Name "range" p) [a, b] [] pos) (mRng2 fr) := by
  refine ⟨fun W => (pi_range2 hg hm (ha.pa W) hs hs2).imp fun σ H R ⟨ρ, ds, ρ', Rp, e, k⟩ => ?_⟩
  unfold mRng2 at e
  split at e
  · rename_i i j ρ1 e1
    split at e
    · rename_i hb
      cases e
      refine ⟨ρ, _, ρ', Rp, e1, fun vs H1 R1 D1 g1 => ?_⟩
      obtain ⟨v, u, rfl, D3, D4⟩ := D1.two
      exact ⟨i, j, by rw [D3.int_inv, D4.int_inv], ⟨hb.1.1, hb.1.2, hb.2.1, hb.2.2⟩, k _ H1 R1 g1 wk_rng⟩
    · cases e
  · cases e
end

theorem enum_new {v : Value} {o : Obj} {H : Heap → Prop} (B : Begins v o H) :
    Meets (Builtin.«enumerate.__new__» ⟨[.type "enumerate", v], []⟩) (fun _ R s => H s.heap ∧
      R (.ok (.ret (.ref (s.heap.push o).objs.size))) { s with heap := (s.heap.push o).push { cls := .type "enumerate", data := .fields #[.none, .bool false, .ref s.heap.objs.size, rawInt 0, .none, .none] } }) :=
  .of_wp fun prog w A R s h => by
    obtain ⟨hp, g, d, tk, os⟩ := s; obtain ⟨h1, h⟩ := h
    have hsub := sub_enumerate
    have q1 : ∀ {A' : Around} {E : Value → Shared → Prop} {Q : Value → Shared → Prop}, Q (.ref hp.objs.size) ⟨hp.push o, g, d, tk, os⟩ → wpAny (model prog w) A' (pyIter v) Q E ⟨hp, g, d, tk, os⟩ :=
      fun q => B.iter prog w _ _ ⟨hp, g, d, tk, os⟩ _ h1 q
    wp_walk using q1
    refine wpAny_stack_any fun st => wpAny_pure ?_
    split
    · rename_i c _ _ _ _ _
      cases (c == Value.type "enumerate")
      · wp_walk using q1
        exact ⟨_, rfl, h⟩
      · wp_walk using q1
        exact ⟨_, rfl, h⟩
    · wp_walk using q1
      exact ⟨_, rfl, h⟩
theorem call_enum {prog : Program} {w : World} {A : Around} {E : Value → Shared → Prop} {s : Shared} {v : Value} {o : Obj} {H : Heap → Prop} {Q : Value → Shared → Prop} (B : Begins v o H) (h1 : H s.heap)
    (h : ∀ h', IsEnum h' (s.heap.objs.size + 1) s.heap.objs.size 0 .none → h'.get? s.heap.objs.size = some o → h'.objs.size = s.heap.objs.size + 2 → (∀ b o, s.heap.get? b = some o → h'.get? b = some o) → Q (.ref (s.heap.objs.size + 1)) { s with heap := h' }) :
    wpAny (model prog w) A (call (.type "enumerate") [v]) Q E s := by
  refine callType_new F.called_enumerate (by decide) (F.typeCall_enumerate_1 _) (F.newCall_enumerate_1 _) (fun obj => F.args_object_init_2 obj _) F.entry_enumerate_new (enum_new B) ⟨h1, ?_⟩
  have hz : (s.heap.push o).objs.size = s.heap.objs.size + 1 := Heap.size_push ..
  show _ ∧ _
  rw [hz]
  have he : IsEnum ((s.heap.push o).push { cls := .type "enumerate", data := .fields #[.none, .bool false, .ref s.heap.objs.size, rawInt 0, .none, .none] }) (s.heap.objs.size + 1) s.heap.objs.size 0 .none := by
    have := Heap.get?_push_size (s.heap.push o) (o := { cls := .type "enumerate", data := .fields #[.none, .bool false, .ref s.heap.objs.size, rawInt 0, .none, .none] }) rfl
    rw [hz] at this; exact this
  exact ⟨⟨_, he, rfl⟩, h _ he (Heap.get?_push_of_some _ (Heap.get?_push_size _ B.free)) (by rw [Heap.size_push, hz]) fun b o x => Heap.get?_push_of_some _ (Heap.get?_push_of_some _ x)⟩
/-- the tuple at a, each item in a new pair -/
def IteT (K : PySem.W.Frag) (a : Addr) : It :=
  ⟨fun i H => ∃ (xs : List V) (x : V), SqT K H a xs ∧ xs[i]? = some x, fun i H v H' => ∃ T x, v = .ref T ∧ H T = none ∧ H' = upd H T (.tup [.int (i : Nat), x]) ∧ ∀ xs, SqT K H a xs → xs[i]? = some x, fun i H => ∃ xs : List V, SqT K H a xs ∧ xs.length ≤ i⟩
theorem turn_enumT {P : Program} {w : World} {K : PySem.W.Frag} {elts : List Expr} {kk : Nat} {tpos : Pos} (a e it : Addr) (hea : e ≠ a) (hia : a ≠ it) :
    Turn P w K (.Tuple elts kk tpos) (IteT K a) [e, it] e (fun i h => (∃ old, IsEnum h e it ((i : Nat) : Int) old) ∧ h.IsTupleIter it a i ∧ e ≠ it) where
  mem := by simp
  obj := fun i h st b hb => by
    obtain ⟨⟨old, he⟩, ⟨o, ho, hc, hd⟩, _⟩ := st
    have e' : b = e ∨ b = it := by simpa using hb
    rcases e' with z | z
    · rw [z]; exact ⟨_, he, fun v q => nomatch q⟩
    · rw [z]; exact ⟨o, ho, fun v q => by rw [hd] at q; cases q⟩
  keep := fun i h h' st k => let ⟨⟨old, he⟩, hi, hne⟩ := st; ⟨⟨old, k e (by simp) _ he⟩, hi.at fun o q => k it (by simp) o q, hne⟩
  item := by
    intro X hP hw hK hc i pins s σ H E I hf st hg
    subst hP hw hK
    obtain ⟨⟨old, he⟩, hit, hne⟩ := st
    obtain ⟨xs, x, hq, hx⟩ := hg
    obtain ⟨its, rv, p, hz⟩ := I.tuple hq
    obtain ⟨u, hu, ru⟩ := rv.get hx
    have hel : e < s.heap.objs.size := Heap.lt_size he
    have hil : it < s.heap.objs.size := by obtain ⟨_, q, _⟩ := hit; exact Heap.lt_size q
    have D := Draws.tuple (prog := X.prog) (w := X.w) (A := X.A.in1) (I.ok.hd hc) it a hia its.toArray
    have hil' : i < its.toArray.size := by
      have := (List.getElem?_eq_some_iff.mp hu).1
      simpa using this
    refine wpAny_pyNext_enum_itemC D he ⟨hit, show s.heap.IsTuple a its.toArray from p⟩ hil' hne (by simp [hne, hea]) fun x' h' tk hP ho hst' hT hsz hk => ?_
    have ex : x' = u := by
      have q1 : its[i]? = some x' := by simpa using hP
      rw [hu] at q1; cases q1; rfl
    subst ex
    refine ⟨_, rfl, wpAny_letOwnedTupleGo_enum (s := { s with heap := h', toks := tk + 1 }) ho fun h'' he' sb => ?_⟩
    have hT2 : h''.get? s.heap.objs.size = some { cls := .type "tuple", data := .seq #[.int i tk, x'] } := (sb.2 _ (Nat.ne_of_gt hel)).trans hT
    have new : ObjOk X.prog X.w (upd H s.heap.objs.size (.tup [.int (i : Nat), x])) h'' s.heap.objs.size (.tup [.int (i : Nat), x]) :=
      ⟨by show 2 ≤ sizeLine; decide, [.int i tk, x'], .cons ⟨_, rfl⟩ (.cons ru .nil), ⟨_, hT2, rfl, _, rfl⟩⟩
    have I1 : Inv X pins σ (upd H s.heap.objs.size (.tup [.int (i : Nat), x])) { s with heap := h'', toks := tk + 1 } :=
      I.turnedNew (ch := [e, it]) (fun b ob hb q => (sb.2 b (fun z => hb (by simp [z]))).trans (hk b ob (fun z => hb (by simp [z])) (fun z => hb (by simp [z])) q)) hf (Nat.le_refl _) new
    refine ⟨.ref s.heap.objs.size, _, I1, rfl, ⟨_, x, rfl, I.hok.fresh (Nat.le_refl _), rfl, fun ys hy => by rw [I.tuple_inj hy hq]; exact hx⟩, ⟨⟨x', ?_⟩, hst'.1.at fun o q => (sb.2 it (Ne.symm hne)).trans q, hne⟩, fun b hb => ?_⟩
    · have e1 : ((i + 1 : Nat) : Int) = (i : Int) + 1 := by omega
      rw [e1]; exact he'
    · have hb' : b < s.heap.objs.size := by
        have e' : b = e ∨ b = it := by simpa using hb
        rcases e' with z | z
        · rw [z]; exact hel
        · rw [z]; exact hil
      rw [upd_ne (Nat.ne_of_lt hb')]
      exact (hf b hb).1
  done := by
    intro X hP hw hK hc i pins s σ H E I hf st hg
    subst hP hw hK
    obtain ⟨⟨old, he⟩, hit, hne⟩ := st
    obtain ⟨xs, hq, hx⟩ := hg
    obtain ⟨its, rv, p, hz⟩ := I.tuple hq
    obtain ⟨f0, f1, f2, f3, f4, f5⟩ := hf it (by simp)
    have hl := rv.length
    have hT : s.TypeIs (.ref e) "enumerate" := ⟨_, he, rfl⟩
    unfold pyNext
    refine wpAny_bind (wpAny_attempt (wpAny_callSpecial?_slot (name := Str.ofString "__next__") hT F.slot_enumerate_next (wpAny_call_entry F.slot_enumerate_next hT F.entry_enumerate_next ?_ (F.args_enumerate_next_1 _))))
    show wpAny _ _ (field (.ref e) 2 >>= _) _ _ _
    refine wpAny_bind (wpAny_field he rfl (x := .ref it) rfl ?_)
    refine wpAny_bind (wpAny_nextOf_tuple_end (I.ok.hd hc) hit (show s.heap.IsTuple a its.toArray from p) (by simp; omega) fun h' x he' hx' => ?_)
    obtain ⟨o, ho, hcl⟩ := hx'
    refine wpAny_bind (wpAny_isInstance (T := "StopIteration") (b := true) ⟨o, ho, hcl⟩ isSubtype_stop ?_)
    exact wpAny_pure ⟨rfl, I.turned (t' := s.toks) (fun b o hb q => he' b o hb q) f0 f1 f3 f4 f5⟩
  self := fun _ _ _ _ _ st h => let ⟨⟨_, he⟩, _⟩ := st; wpAny_pyIter_enum he h
def enumD (ds : List PyData) : List PyData := (List.range ds.length).zipWith (fun (i : Nat) d => PyData.tuple [.int i, d]) ds
def mEnum (f : M PyData) : M (List PyData) := fun ρ => match f ρ with
  | some (.tuple ds, ρ') => some (enumD ds, ρ')
  | some (.list ds, ρ') => some (enumD ds, ρ')
  | _ => none
theorem enumD_get {ds : List PyData} {i : Nat} {d : PyData} (h : ds[i]? = some d) : (enumD ds)[i]? = some (.tuple [.int (i : Nat), d]) := by
  obtain ⟨hl, rfl⟩ := List.getElem?_eq_some_iff.mp h
  simp [enumD, List.getElem?_zipWith, hl]
theorem enumD_len (ds : List PyData) : (enumD ds).length = ds.length := by simp [enumD]
section
variable {X : Cx} {e : Expr} {f : M PyData} {p pos tpos : Pos} {elts : List Expr} {kk : Nat}
theorem di_enum (hg : Gl X "enumerate") (hm : X.mg "enumerate" = none) (he : DE X e f) (hs : starEach [e] X.env = [(false, eval e X.env)] := by rfl) : DI X (.Tuple elts kk tpos) (.Call (.Name "enumerate" p) [e] [] pos) (mEnum f) := by
  refine ⟨fun W => ⟨fun pins s σ H R I h => ?_⟩⟩
  obtain ⟨ρ, ds, ρ', Rp, e1, k⟩ := h
  have pa : PA X [e] (tCons (rdE (wdX X) W f) tNil) := pa_cons (he.pe W) pa_nil (by rw [hs]; rfl)
  unfold mEnum at e1
  split at e1
  · rename_i ds ρ1 e2
    cases e1
    refine Call_ (ld_blt I hg hm boot_enumerate (PyProof.Rows.callWith_type1 (thn (pa.run pos pins s σ H (fun vs H1 => ∃ a xs, vs = [.ref a] ∧ SqT X.K H1 a xs ∧ DfA (wdX X) H1 xs ds ∧ RepS (wdX X) W σ H1 ρ' ∧ Grow H H1) I ?_) fun us s1 ⟨vs, H1, I1, r1, q1⟩ => ?_) hs rfl))
    · refine ⟨ρ, _, ρ', Rp, e2, fun v H1 R1 D1 g1 => ?_⟩
      obtain ⟨a, xs, rfl, h1, h2⟩ := D1.tup_inv
      exact ⟨a, xs, rfl, h1, h2, R1, g1⟩
    · obtain ⟨a, xs, rfl, h1, h2, R1, g1⟩ := q1
      cases r1 with
      | cons r rr =>
      cases rr
      cases r
      obtain ⟨its, rv, p', hz⟩ := I1.tuple h1
      have p2 : s1.heap.IsTuple a its.toArray := p'
      refine call_enum (begins_tuple a its.toArray) p2 fun h' hE hO hsz hk => wpAny_pyIter_enum hE ?_
      have I2 : Inv X pins σ H1 { s1 with heap := h' } := I1.kept (t' := s1.toks) hk
      have hal : a < s1.heap.objs.size := Heap.lt_size p2.choose_spec.1
      refine ⟨s1.heap.objs.size + 1, [s1.heap.objs.size + 1, s1.heap.objs.size], _, _, H1, rfl, I2, turn_enumT a (s1.heap.objs.size + 1) s1.heap.objs.size (Nat.ne_of_gt (Nat.lt_succ_of_lt hal)) (Nat.ne_of_lt hal), ⟨⟨.none, hE⟩, ⟨_, hO, rfl, rfl⟩, Nat.succ_ne_self _⟩, fun b hb => ?_, k _ H1 R1 g1 ?_⟩
      · have e' : b = s1.heap.objs.size + 1 ∨ b = s1.heap.objs.size := by simpa using hb
        have hle : s1.heap.objs.size ≤ b := by
          rcases e' with z | z
          · rw [z]; exact Nat.le_add_right _ _
          · rw [z]; exact Nat.le_refl _
        exact I1.fpOk hle (I1.hok.fresh hle)
      · intro H2 g2 i
        have hq := sqT_grow g2 h1
        have hs2 := h2.grow g2
        have hl := h2.length
        rw [enumD_len]
        refine ⟨fun hi => ⟨⟨xs, xs[i], hq, List.getElem?_eq_getElem (by omega)⟩, fun x H' y => ?_⟩, fun hi => ⟨xs, hq, by omega⟩⟩
        obtain ⟨T, x, rfl, hT, rfl, y⟩ := y
        obtain ⟨d, ed, rd⟩ := hs2.getV (y xs hq)
        exact ⟨Same.new hT, _, enumD_get ed, .tup (.of upd_same) (.cons (.int _) (.cons (rd.grow (.new hT)) .nil))⟩
  · rename_i ds ρ1 e2
    cases e1
    refine (pi_enum hg hm pa hs).run pins s σ H R I ⟨ρ, _, ρ', Rp, e2, fun v H1 R1 D1 g1 => ?_⟩
    obtain ⟨a, xs, rfl, h1, h2⟩ := D1.lst_inv
    refine ⟨a, xs, rfl, h1.sq, k _ H1 R1 g1 ?_⟩
    intro H2 g2 i
    have hq : SqL X.K H2 a xs := (h1.grow g2).sq
    have hs2 := h2.grow g2
    have hl := h2.length
    rw [enumD_len]
    refine ⟨fun hi => ⟨⟨xs, xs[i], hq, List.getElem?_eq_getElem (by omega)⟩, fun x H' y => ?_⟩, fun hi => ⟨xs, hq, by omega⟩⟩
    obtain ⟨T, x, rfl, hT, rfl, y⟩ := y
    obtain ⟨d, ed, rd⟩ := hs2.getV (y xs hq)
    exact ⟨Same.new hT, _, enumD_get ed, .tup (.of upd_same) (.cons (.int _) (.cons (rd.grow (.new hT)) .nil))⟩
  · cases e1
end
end Dn
namespace Dn
open PySem PySem.Spec PyProof.Rows L2

def Wt.add (W : Wt) (D : Addr) (o : HO) : Wt := { W with ex := upd W.ex D o }
theorem Wt.add_kp {W : Wt} {D : Addr} {o : HO} (h : W.kp D = none) : (W.add D o).kp = upd W.kp D o := by
  funext a
  by_cases e : a = D
  · subst e
    rw [upd_same]
    unfold Wt.kp Wt.add at *
    cases hb : W.bo a with
    | none => simp only [hb] at h ⊢; exact upd_same
    | some p => simp only [hb] at h; cases h
  · rw [upd_ne e]
    unfold Wt.kp Wt.add
    simp only [upd_ne e]
section
variable {Γ : Wd} {W : Wt} {σ : Sg} {H : Hp} {ρ : Env} {D : Addr} {o : HO}
theorem RepS.wide (R : RepS Γ W σ H ρ) (hD : H D = some o) (ap : Ap ρ σ D) (hW : W.kp D = none) : RepS Γ (W.add D o) σ H ρ := by
  have hk := Wt.add_kp (o := o) hW
  refine ⟨R.len, fun a p e => ?_, fun i t e => ?_, R.sep, R.anc⟩
  · rw [hk] at e
    by_cases ea : a = D
    · subst ea; rw [upd_same] at e; cases e; exact hD
    · rw [upd_ne ea] at e; exact R.keep a p e
  · have q := R.at_ i t e
    cases t with
    | own ds => obtain ⟨b, xs, e1, w, h⟩ := q; exact ⟨b, xs, e1, by rw [hk, upd_ne (fun z => by subst z; exact ap i (by rw [e]; trivial) e1)]; exact w, h⟩
    | dic ds => obtain ⟨b, xs, e1, w, h⟩ := q; exact ⟨b, xs, e1, by rw [hk, upd_ne (fun z => by subst z; exact ap i (by rw [e]; trivial) e1)]; exact w, h⟩
    | _ => exact q
theorem RepS.narrow (hW : W.kp D = none) (R : RepS Γ (W.add D o) σ H ρ) : RepS Γ W σ H ρ ∧ H D = some o ∧ Ap ρ σ D := by
  have hk := Wt.add_kp (o := o) hW
  have ho : ∀ b, (W.add D o).kp b = none → W.kp b = none ∧ b ≠ D := fun b e => by
    rw [hk] at e
    by_cases eb : b = D
    · subst eb; rw [upd_same] at e; cases e
    · rw [upd_ne eb] at e; exact ⟨e, eb⟩
  refine ⟨⟨R.len, fun a p e => ?_, fun i t e => ?_, R.sep, R.anc⟩, R.keep _ _ (by rw [hk, upd_same]), fun i hi e => ?_⟩
  · have ne : a ≠ D := fun z => by subst z; rw [hW] at e; cases e
    exact R.keep a p (by rw [hk, upd_ne ne]; exact e)
  · have q := R.at_ i t e
    cases t with
    | own ds => obtain ⟨b, xs, e1, w, h⟩ := q; exact ⟨b, xs, e1, (ho b w).1, h⟩
    | dic ds => obtain ⟨b, xs, e1, w, h⟩ := q; exact ⟨b, xs, e1, (ho b w).1, h⟩
    | _ => exact q
  · cases es : ρ[i]? with
    | none => rw [es] at hi; exact hi
    | some t =>
      have q := R.at_ i t es
      rw [es] at hi
      cases t with
      | own ds => obtain ⟨b, xs, e1, w, h⟩ := q; rw [e] at e1; cases e1; exact (ho _ w).2 rfl
      | dic ds => obtain ⟨b, xs, e1, w, h⟩ := q; rw [e] at e1; cases e1; exact (ho _ w).2 rfl
      | _ => exact hi
def wipeE : List Nat → Env → Option Env
  | [], ρ => some ρ
  | v :: vs, ρ => (match wipeE vs ρ with
    | some ρ1 => setSl v .un ρ1
    | none => none)
theorem RepS.un {i : Nat} {ρ' : Env} (R : RepS Γ W σ H ρ) (h : setSl i .un ρ = some ρ') : RepS Γ W (σ.set i none) H ρ' := by
  obtain ⟨rfl, hz⟩ := setSl_eq h
  have off : ∀ j, mutS (ρ.set i .un)[j]? → i ≠ j := fun j hj e => by
    subst e
    by_cases hl : i < ρ.length
    · rw [List.getElem?_set_self hl] at hj; exact hj
    · rw [List.getElem?_eq_none (by simpa using hl)] at hj; exact hj
  refine ⟨by simpa using R.len, R.keep, fun j t e => ?_, fun j k a hjk hj hk => ?_, fun a ha => ?_⟩
  · by_cases hi : i = j
    · subst hi
      have hl : i < ρ.length := by
        have := (List.getElem?_eq_some_iff.mp e).1
        simpa using this
      rw [List.getElem?_set_self hl] at e; cases e
      trivial
    · rw [List.getElem?_set_ne hi] at e ⊢
      exact R.at_ j t e
  · have nj := off j hj
    have nk := off k hk
    rw [List.getElem?_set_ne nj] at hj ⊢
    rw [List.getElem?_set_ne nk] at hk ⊢
    exact R.sep j k a hjk hj hk
  · obtain ⟨h1, ds, h2⟩ := R.anc a ha
    have hi : i ≠ 0 := fun z => hz z ds h2
    rw [List.getElem?_set_ne hi, List.getElem?_set_ne hi]
    exact ⟨h1, ds, h2⟩
theorem Ap.un {i : Nat} {ρ' : Env} {a : Addr} (ap : Ap ρ σ a) (h : setSl i .un ρ = some ρ') : Ap ρ' (σ.set i none) a := by
  obtain ⟨rfl, hz⟩ := setSl_eq h
  intro j hj e
  by_cases hi : i = j
  · subst hi
    by_cases hl : i < ρ.length
    · rw [List.getElem?_set_self hl] at hj; exact hj
    · rw [List.getElem?_eq_none (by simpa using hl)] at hj; exact hj
  · rw [List.getElem?_set_ne hi] at hj e
    exact ap j hj e
theorem RepS.wipe : ∀ {vs : List Nat} {ρ' : Env}, RepS Γ W σ H ρ → wipeE vs ρ = some ρ' → RepS Γ W (L2.wipe σ vs) H ρ'
  | [], _, R, h => by cases h; exact R
  | v :: vs, ρ', R, h => by
    unfold wipeE at h
    cases e : wipeE vs ρ with
    | none => rw [e] at h; cases h
    | some ρ1 =>
      rw [e] at h
      exact (RepS.wipe R e).un h
theorem Ap.wipe {a : Addr} : ∀ {vs : List Nat} {ρ' : Env}, Ap ρ σ a → wipeE vs ρ = some ρ' → Ap ρ' (L2.wipe σ vs) a
  | [], _, R, h => by cases h; exact R
  | v :: vs, ρ', R, h => by
    unfold wipeE at h
    cases e : wipeE vs ρ with
    | none => rw [e] at h; cases h
    | some ρ1 =>
      rw [e] at h
      exact (Ap.wipe R e).un h
theorem wipe_at {a : Sg} : ∀ {vs : List Nat} {i : Nat}, i ∈ vs → i < a.length → (L2.wipe a vs)[i]? = some none
  | [], _, h, _ => by cases h
  | v :: vs, i, h, hl => by
    unfold L2.wipe
    by_cases e : v = i
    · subst e
      rw [List.getElem?_set_self (by rw [wipe_length]; exact hl)]
    · rw [List.getElem?_set_ne e]
      exact wipe_at (by rcases List.mem_cons.mp h with z | z; exact absurd z.symm e; exact z) hl
theorem wipe_ext {a b : Sg} {vs : List Nat} (hl : a.length = b.length) (h : ∀ j, j ∉ vs → a[j]? = b[j]?) : L2.wipe a vs = L2.wipe b vs := by
  refine List.ext_getElem? fun i => ?_
  by_cases hi : i ∈ vs
  · by_cases hj : i < a.length
    · rw [wipe_at hi hj, wipe_at hi (by omega)]
    · rw [List.getElem?_eq_none (by rw [wipe_length]; omega), List.getElem?_eq_none (by rw [wipe_length]; omega)]
  · rw [wipe_out hi, wipe_out hi]; exact h i hi
theorem FrS.wipe {vs ts : List Nat} {σ σ2 : Sg} (hts : ∀ i ∈ ts, i ∈ vs) (f : FrS ts (L2.wipe σ vs) σ2) : L2.wipe σ2 vs = L2.wipe σ vs := by
  refine wipe_ext (by rw [f.1, wipe_length]) fun j hj => ?_
  rw [f.2 j fun z => hj (hts j z), wipe_out hj]
/-- the slots as they were -/
def restE (ρ0 : Env) : List Nat → Env → Option Env
  | [], ρ => some ρ
  | v :: vs, ρ => (match restE ρ0 vs ρ with
    | some ρ1 => (match ρ0[v]? with
      | some .un => some (ρ1.set v .un)
      | some (.dat d) => some (ρ1.set v (.dat d))
      | _ => none)
    | none => none)
theorem restE_at {ρ0 : Env} : ∀ {vs : List Nat} {ρ ρ' : Env}, restE ρ0 vs ρ = some ρ' → ρ'.length = ρ.length ∧ (∀ i, i ∉ vs → ρ'[i]? = ρ[i]?) ∧ ∀ i, i ∈ vs → i < ρ.length → ∃ s, ρ'[i]? = some s ∧ ρ0[i]? = some s ∧ (s = .un ∨ ∃ d, s = .dat d)
  | [], ρ, ρ', h => by cases h; exact ⟨rfl, fun _ _ => rfl, fun i hi => by cases hi⟩
  | v :: vs, ρ, ρ', h => by
    unfold restE at h
    cases e : restE ρ0 vs ρ with
    | none => rw [e] at h; cases h
    | some ρ1 =>
      rw [e] at h
      obtain ⟨h1, h2, h3⟩ := restE_at e
      have go : ∀ s, ρ0[v]? = some s → (s = .un ∨ ∃ d, s = .dat d) → ρ' = ρ1.set v s → ρ'.length = ρ.length ∧ (∀ i, i ∉ v :: vs → ρ'[i]? = ρ[i]?) ∧ ∀ i, i ∈ v :: vs → i < ρ.length → ∃ s, ρ'[i]? = some s ∧ ρ0[i]? = some s ∧ (s = .un ∨ ∃ d, s = .dat d) := by
        rintro s hs hk rfl
        refine ⟨by simpa using h1, fun i hi => ?_, fun i hi hl => ?_⟩
        · simp only [List.mem_cons, not_or] at hi
          rw [List.getElem?_set_ne (Ne.symm hi.1)]
          exact h2 i hi.2
        · by_cases ev : v = i
          · subst ev
            exact ⟨s, by rw [List.getElem?_set_self (by omega)], hs, hk⟩
          · rw [List.getElem?_set_ne ev]
            exact h3 i (by rcases List.mem_cons.mp hi with z | z; exact absurd z.symm ev; exact z) hl
      simp only at h
      split at h
      · rename_i hs; cases h; exact go _ hs (.inl rfl) rfl
      · rename_i d hs; cases h; exact go _ hs (.inr ⟨d, rfl⟩) rfl
      · cases h
theorem RepS.rest {vs : List Nat} {H0 : Hp} {ρ0 ρ' : Env} (R0 : RepS Γ W σ H0 ρ0) (g : Grow H0 H) (R : RepS Γ W (L2.wipe σ vs) H ρ) (h : restE ρ0 vs ρ = some ρ') : RepS Γ W σ H ρ' := by
  obtain ⟨h1, h2, h3⟩ := restE_at h
  have hlen : ρ.length = σ.length := by rw [R.len, wipe_length]
  have out : ∀ i, mutS ρ'[i]? → i ∉ vs := fun i hi hv => by
    by_cases hl : i < ρ.length
    · obtain ⟨s, e, _, hk⟩ := h3 i hv hl
      rw [e] at hi
      rcases hk with rfl | ⟨d, rfl⟩ <;> exact hi
    · rw [List.getElem?_eq_none (by omega)] at hi; exact hi
  refine ⟨by rw [h1, hlen], R.keep, fun i t e => ?_, fun i j a hij hi hj => ?_, fun a ha => ?_⟩
  · by_cases hv : i ∈ vs
    · have hl : i < ρ.length := by rw [← h1]; exact (List.getElem?_eq_some_iff.mp e).1
      obtain ⟨s, e1, e2, hk⟩ := h3 i hv hl
      rw [e] at e1; cases e1
      have q := R0.at_ i _ e2
      rcases hk with rfl | ⟨d, rfl⟩
      · trivial
      · obtain ⟨v, e3, h4⟩ := q
        exact ⟨v, e3, h4.grow g⟩
    · rw [h2 i hv] at e
      have q := R.at_ i t e
      rw [wipe_out hv] at q
      exact q
  · have vi := out i hi
    have vj := out j hj
    have q := R.sep i j a hij (by rw [← h2 i vi]; exact hi) (by rw [← h2 j vj]; exact hj)
    rw [wipe_out vi, wipe_out vj] at q
    exact q
  · obtain ⟨e1, ds, e2⟩ := R.anc a ha
    have hv : 0 ∉ vs := fun hv => by
      have hl : 0 < σ.length := by
        have := (List.getElem?_eq_some_iff.mp e1).1
        rw [wipe_length] at this
        exact this
      rw [wipe_at hv hl] at e1; cases e1
    rw [wipe_out hv] at e1
    exact ⟨e1, ds, by rw [h2 0 hv]; exact e2⟩
theorem Ap.rest {vs : List Nat} {ρ0 ρ' : Env} {a : Addr} (hl : ρ.length = σ.length) (ap : Ap ρ (L2.wipe σ vs) a) (h : restE ρ0 vs ρ = some ρ') : Ap ρ' σ a := by
  obtain ⟨h1, h2, h3⟩ := restE_at h
  intro i hi e
  have vi : i ∉ vs := fun hv => by
    by_cases hl : i < ρ.length
    · obtain ⟨s, e, _, hk⟩ := h3 i hv hl
      rw [e] at hi
      rcases hk with rfl | ⟨d, rfl⟩ <;> exact hi
    · rw [List.getElem?_eq_none (by omega)] at hi; exact hi
  exact ap i (by rw [← h2 i vi]; exact hi) (by rw [wipe_out vi]; exact e)
end

def lcLoop (vs : List Nat) (gt : PyData → Env → Option Env) (tt : M Bool) (fe : M PyData) : List PyData → M (List PyData)
  | [], ρ => some ([], ρ)
  | d :: ds, ρ => (match gt d ρ with
    | none => none
    | some ρ1 => (match tt ρ1 with
      | none => none
      | some (false, ρ2) => (match wipeE vs ρ2 with
        | none => none
        | some ρ3 => lcLoop vs gt tt fe ds ρ3)
      | some (true, ρ2) => (match fe ρ2 with
        | none => none
        | some (y, ρ3) => (match wipeE vs ρ3 with
          | none => none
          | some ρ4 => (match lcLoop vs gt tt fe ds ρ4 with
            | none => none
            | some (ys, ρ5) => some (y :: ys, ρ5))))))
def xE (Γ : Wd) (f : M PyData) : TE := fun σ H Q => ∃ W, rdE Γ W f σ H Q
def xT (Γ : Wd) (f : M Bool) : TT := fun σ H Q => ∃ W, rdT Γ W f σ H Q
def xG (Γ : Wd) (ts : List Nat) (gt : PyData → Env → Option Env) : TG := fun v σ H Q => ∃ W, rdG Γ W ts gt v σ H Q
def xI (Γ : Wd) (f : M (List PyData)) : TI := fun σ H R => ∃ W, rdI Γ W f σ H R
theorem lc_turns {Γ : Wd} {W : Wt} {J : It} {ds : List PyData} {H0 Hs : Hp} {σ : Sg} {vs ts : List Nat} {gt : PyData → Env → Option Env} {tt : M Bool} {fe : M PyData} {ρ ρe : Env} {ys pre : List PyData} {D : Addr} {acc0 : List V} {P : Hp → Prop}
    (hts : ∀ i ∈ ts, i ∈ vs) (wk : Wk Γ J ds H0) (g0 : Grow H0 Hs) (R : RepS Γ W (wipe σ vs) Hs ρ) (e : lcLoop vs gt tt fe ds ρ = some (ys, ρe)) (hW : W.kp D = none) (hD : Hs D = some (.lst acc0)) (ha : DfA Γ Hs acc0 pre) (ap : Ap ρ (wipe σ vs) D) (hz : (pre ++ ys).length ≤ 100000)
    (q : ∀ H acc, RepS Γ W (wipe σ vs) H ρe → H D = some (.lst acc) → DfA Γ H acc (pre ++ ys) → Ap ρe (wipe σ vs) D → Grow Hs H → P H) :
    ∃ Wf : Nat → Nat → Hp → Prop, (∃ m, Wf 0 m Hs) ∧ ∀ i m H, Wf i m H → (J.stop i H ∧ P H) ∨ (J.go i H ∧ ∃ Nx : Hp → Prop, (∀ H', Nx H' → ∃ m', m' < m ∧ Wf (i + 1) m' H') ∧ ∀ x H', J.yld i H x H' → xG Γ ts gt x (wipe σ vs) H' fun σ2 H2 => wipe σ2 vs = wipe σ vs ∧ xT Γ tt σ2 H2 fun b H3 =>
      if b = true then xE Γ fe σ2 H3 fun y H4 => ∃ acc, H4 D = some (.lst acc) ∧ acc.length < sizeLine ∧ Nx (upd H4 D (.lst (acc ++ [y]))) else Nx H3) := by
  let Inv' : Nat → Hp → Prop := fun i H => i ≤ ds.length ∧ Grow Hs H ∧ ∃ ρi acc so rest, RepS Γ W (wipe σ vs) H ρi ∧ H D = some (.lst acc) ∧ DfA Γ H acc so ∧ Ap ρi (wipe σ vs) D ∧ lcLoop vs gt tt fe (ds.drop i) ρi = some (rest, ρe) ∧ so ++ rest = pre ++ ys
  refine ⟨fun i m H => m = ds.length - i ∧ Inv' i H, ⟨ds.length, by simp, Nat.zero_le _, .refl _, ρ, acc0, pre, ys, R, hD, ha, ap, by simpa using e, rfl⟩, ?_⟩
  rintro i m H ⟨rfl, hi, g1, ρi, acc, so, rest, Ri, hDi, hai, api, ei, eq⟩
  have gA := g0.trans g1
  rcases Nat.lt_or_ge i ds.length with hlt | hge
  · obtain ⟨go, yl⟩ := (wk H gA i).1 hlt
    have ed : ds.drop i = ds[i] :: ds.drop (i + 1) := List.drop_eq_getElem_cons hlt
    rw [ed, lcLoop] at ei
    refine .inr ⟨go, Inv' (i + 1), fun H' h => ⟨_, by omega, rfl, h⟩, fun x H' y => ?_⟩
    obtain ⟨sm, d, hd, df⟩ := yl x H' y
    rw [List.getElem?_eq_getElem hlt] at hd
    cases hd
    have hD' : H' D = some (.lst acc) := sm _ _ hDi
    have R1 := (Ri.same sm).wide hD' api hW
    cases e3 : gt ds[i] ρi with
    | none => simp only [e3] at ei; cases ei
    | some ρ1 =>
      simp only [e3] at ei
      refine ⟨W.add D (.lst acc), _, ρi, ρ1, R1, df, e3, fun σ2 H2 R2 g2 f2 => ⟨f2.wipe hts, ?_⟩⟩
      have wq := f2.wipe hts
      cases e4 : tt ρ1 with
      | none => simp only [e4] at ei; cases ei
      | some p =>
        obtain ⟨b, ρ2⟩ := p
        refine ⟨W.add D (.lst acc), ρ1, b, ρ2, R2, e4, fun H3 R3 g3 => ?_⟩
        have g13 : Grow H H3 := (Grow.same sm).trans (g2.trans g3)
        cases b with
        | false =>
          simp only [e4] at ei
          refine iteF ?_
          cases e5 : wipeE vs ρ2 with
          | none => simp only [e5] at ei; cases ei
          | some ρ3 =>
            simp only [e5] at ei
            obtain ⟨R4, hD4, ap4⟩ := R3.narrow hW
            refine ⟨hlt, g1.trans g13, ρ3, acc, so, rest, ?_, hD4, hai.grow g13, ?_, ei, eq⟩
            · rw [← wq]; exact R4.wipe e5
            · rw [← wq]; exact ap4.wipe e5
        | true =>
          simp only [e4] at ei
          refine iteT ?_
          cases e5 : fe ρ2 with
          | none => simp only [e5] at ei; cases ei
          | some p =>
            obtain ⟨y1, ρ3⟩ := p
            simp only [e5] at ei
            cases e6 : wipeE vs ρ3 with
            | none => simp only [e6] at ei; cases ei
            | some ρ4 =>
              simp only [e6] at ei
              cases e7 : lcLoop vs gt tt fe (ds.drop (i + 1)) ρ4 with
              | none => simp only [e7] at ei; cases ei
              | some p =>
                obtain ⟨ys', ρ5⟩ := p
                simp only [e7] at ei
                cases ei
                refine ⟨W.add D (.lst acc), ρ2, y1, ρ3, R3, e5, fun yv H4 R4 D4 g4 => ?_⟩
                obtain ⟨R5, hD5, ap5⟩ := R4.narrow hW
                have hm : Mut (H4 D) := by rw [hD5]; trivial
                have g14 : Grow H H4 := g13.trans g4
                refine ⟨acc, hD5, ?_, hlt, (g1.trans g14).trans (.but hm), ρ4, acc ++ [yv], so ++ [y1], ys', ?_, upd_same, ?_, ?_, e7, ?_⟩
                · have e8 := congrArg List.length eq
                  rw [List.length_append, List.length_cons] at e8
                  rw [hai.length, sizeLine_eq]
                  omega
                · rw [← wq]; exact (R5.off hW hm ap5).wipe e6
                · exact ((hai.grow g14).append (.cons D4 .nil)).grow (.but hm)
                · rw [← wq]; exact ap5.wipe e6
                · simpa using eq
  · have ee : ds.drop i = [] := List.drop_eq_nil_of_le hge
    rw [ee, lcLoop] at ei
    cases ei
    rw [List.append_nil] at eq
    subst eq
    exact .inl ⟨(wk H gA i).2 hge, q H acc Ri hDi hai api g1⟩

structure DTs (X : Cx) (ifs : List Expr) (tt : M Bool) : Prop where
  pts : ∀ W, PTs X ifs (rdT (wdX X) W tt)
def tAll : M Bool := fun ρ => some (true, ρ)
def mLC (vs : List Nat) (fi : M (List PyData)) (gt : PyData → Env → Option Env) (tt : M Bool) (fe : M PyData) : M (List PyData) := fun ρ => match fi ρ with
  | none => none
  | some (ds, ρ1) => (match wipeE vs ρ1 with
    | none => none
    | some ρ2 => (match lcLoop vs gt tt fe ds ρ2 with
      | none => none
      | some (ys, ρ3) => (match restE ρ1 vs ρ3 with
        | none => none
        | some ρ4 => if ys.length ≤ 100000 then some (ys, ρ4) else none)))
theorem mLC_inv {vs : List Nat} {fi : M (List PyData)} {gt : PyData → Env → Option Env} {tt : M Bool} {fe : M PyData} {ρ ρ' : Env} {ys : List PyData} (h : mLC vs fi gt tt fe ρ = some (ys, ρ')) :
    ∃ ds ρ1 ρ2 ρ3, fi ρ = some (ds, ρ1) ∧ wipeE vs ρ1 = some ρ2 ∧ lcLoop vs gt tt fe ds ρ2 = some (ys, ρ3) ∧ restE ρ1 vs ρ3 = some ρ' ∧ ys.length ≤ 100000 := by
  unfold mLC at h
  cases e1 : fi ρ with
  | none => simp only [e1] at h; cases h
  | some p =>
    obtain ⟨ds, ρ1⟩ := p
    simp only [e1] at h
    cases e2 : wipeE vs ρ1 with
    | none => simp only [e2] at h; cases h
    | some ρ2 =>
      simp only [e2] at h
      cases e3 : lcLoop vs gt tt fe ds ρ2 with
      | none => simp only [e3] at h; cases h
      | some p =>
        obtain ⟨zs, ρ3⟩ := p
        simp only [e3] at h
        cases e4 : restE ρ1 vs ρ3 with
        | none => simp only [e4] at h; cases h
        | some ρ4 =>
          simp only [e4] at h
          split at h
          · rename_i hz
            cases h
            exact ⟨ds, ρ1, ρ2, ρ3, rfl, e2, e3, e4, hz⟩
          · cases h
section
variable {X : Cx} {elt tg iter tg1 iter1 c : Expr} {ifs ifs1 : List Expr} {scope : Scope} {own : List (Str × Nat)} {pos : Pos} {fi fi1 : M (List PyData)} {gt gt1 : PyData → Env → Option Env} {tt tt1 : M Bool} {fe : M PyData} {ts ts1 vs vs1 : List Nat}
theorem DE.x (h : DE X elt fe) : PE X elt (xE (wdX X) fe) := ⟨fun pins s σ H Q I ⟨W, hq⟩ => (h.pe W).run pins s σ H Q I hq⟩
theorem DTs.x (h : DTs X ifs tt) : PTs X ifs (xT (wdX X) tt) := ⟨fun pins s σ H Q I ⟨W, hq⟩ => (h.pts W).run pins s σ H Q I hq⟩
theorem DG.x (h : DG X tg ts gt) : PG X tg (xG (wdX X) ts gt) := ⟨fun pins s σ H v u Q I r ⟨W, hq⟩ => (h.pg W).run pins s σ H v u Q I r hq⟩
theorem DI.x (h : DI X tg iter fi) : PI X tg iter (xI (wdX X) fi) := ⟨fun pins s σ H R I ⟨W, hq⟩ => (h.pi W).run pins s σ H R I hq⟩
theorem _root_.L2.PTs.imp {t t' : TT} (h : PTs X ifs t) (i : ∀ σ H Q, t' σ H Q → t σ H Q) : PTs X ifs t' := ⟨fun pins s σ H Q I hq => h.run pins s σ H Q I (i _ _ _ hq)⟩
theorem dts_nil : DTs X [] tAll := ⟨fun W => pts_nil.imp fun σ H Q ⟨ρ, b, ρ', R, e, k⟩ => by cases e; exact k H R (.refl H)⟩
theorem dts_one (h : DT X c tt) : DTs X [c] tt := ⟨fun W => pts_one (h.pt W)⟩
abbrev AllB (X : Cx) (scope : Scope) (J : Cx → Prop) : Prop := ∀ (s : Shared) (H : Hp) (C : Addr) (cl : List (Str × Addr)) (fp : List Addr), J (X.blk s H scope (compEnvC scope cl C X.env) fp)
theorem lc_imp {Γ : Wd} {W : Wt} (hts : ∀ i ∈ ts, i ∈ vs) (σ : Sg) (H : Hp) (Q : VK) (h : rdS Γ W (mLst (mLC vs fi gt tt fe)) σ H Q) : tLc (xI Γ fi) (xG Γ ts gt) (xT Γ tt) (xE Γ fe) vs σ H Q := by
  obtain ⟨ρ, s, ρ', R, e, k⟩ := h
  unfold mLst at e
  split at e
  · rename_i ys ρ9 e0
    cases e
    obtain ⟨ds, ρ1, ρ2, ρ3, e1, e2, e3, e4, hz⟩ := mLC_inv e0
    refine ⟨W, ρ, ds, ρ1, R, e1, fun J H1 R1 g1 wk D hD => ?_⟩
    have hWD := R1.kp_none hD
    have hm : Grow H1 (upd H1 D (.lst [])) := .new hD
    have R2 : RepS Γ W σ (upd H1 D (.lst [])) ρ1 := R1.same (Same.new hD)
    have ap : Ap ρ1 σ D := R1.ap hD
    refine lc_turns hts wk hm (R2.wipe e2) e3 hWD upd_same .nil (ap.wipe e2) (by simpa using hz) fun H5 acc R5 hD5 ha5 ap5 g5 => ?_
    have R6 := R1.rest (hm.trans g5) R5 e4
    exact k _ H5 R6 ⟨D, acc, rfl, hWD, hD5, by simpa using ha5, ap5.rest (by rw [R5.len, wipe_length]) e4⟩ (g1.trans (hm.trans g5))
  · cases e
/-- [elt for tg in iter if ..] -/
theorem se_lc (hc : X.calm = true) (hN : X.N.Nodup) (hi : DI X tg iter fi) (own : List (Str × Nat)) (ok : blkC X.N X.env.scope scope own = true) (hg : AllB X scope fun Y => DG Y tg ts gt) (ht : AllB X scope fun Y => DTs Y ifs tt) (he : AllB X scope fun Y => DE Y elt fe)
    (hv : own.map (·.2) = vs := by rfl) (hts : ∀ i ∈ ts, i ∈ vs := by decide) (hs : ∀ x, foldedSetIterable iter X.env x = pure x := by intro _; rfl) :
    SE X (.ListComp elt [⟨tg, iter, ifs, 0⟩] scope pos) (mLst (mLC vs fi gt tt fe)) := by
  subst hv
  exact ⟨fun W => (pe_lc (wi := xI (wdX X) fi) (g := xG (wdX X) ts gt) (tt := xT (wdX X) tt) (te := xE (wdX X) fe) hc hN hi.x (blkOk_by ok) (fun s H C cl fp => (hg s H C cl fp).x) (fun s H C cl fp => (ht s H C cl fp).x) (fun s H C cl fp => (he s H C cl fp).x) hs).imp (lc_imp hts)⟩
end

def lcLoop2 (vs vs1 : List Nat) (gt : PyData → Env → Option Env) (tt : M Bool) (fi1 : M (List PyData)) (gt1 : PyData → Env → Option Env) (tt1 : M Bool) (fe : M PyData) : List PyData → M (List PyData)
  | [], ρ => some ([], ρ)
  | d :: ds, ρ => (match gt d ρ with
    | none => none
    | some ρ1 => (match tt ρ1 with
      | none => none
      | some (false, ρ2) => (match wipeE vs ρ2 with
        | none => none
        | some ρ3 => lcLoop2 vs vs1 gt tt fi1 gt1 tt1 fe ds ρ3)
      | some (true, ρ2) => (match fi1 ρ2 with
        | none => none
        | some (ds1, ρ3) => (match wipeE vs1 ρ3 with
          | none => none
          | some ρ4 => (match lcLoop vs1 gt1 tt1 fe ds1 ρ4 with
            | none => none
            | some (ys, ρ5) => (match wipeE vs ρ5 with
              | none => none
              | some ρ6 => (match lcLoop2 vs vs1 gt tt fi1 gt1 tt1 fe ds ρ6 with
                | none => none
                | some (zs, ρ7) => some (ys ++ zs, ρ7))))))))
def mLC2 (vs vs1 : List Nat) (fi : M (List PyData)) (gt : PyData → Env → Option Env) (tt : M Bool) (fi1 : M (List PyData)) (gt1 : PyData → Env → Option Env) (tt1 : M Bool) (fe : M PyData) : M (List PyData) := fun ρ => match fi ρ with
  | none => none
  | some (ds, ρ1) => (match wipeE vs ρ1 with
    | none => none
    | some ρ2 => (match lcLoop2 vs vs1 gt tt fi1 gt1 tt1 fe ds ρ2 with
      | none => none
      | some (ys, ρ3) => (match restE ρ1 vs ρ3 with
        | none => none
        | some ρ4 => if ys.length ≤ 100000 then some (ys, ρ4) else none)))
section
variable {X : Cx} {elt tg iter tg1 iter1 c : Expr} {ifs ifs1 : List Expr} {scope : Scope} {pos : Pos} {fi fi1 : M (List PyData)} {gt gt1 : PyData → Env → Option Env} {tt tt1 : M Bool} {fe : M PyData} {ts ts1 vs vs1 : List Nat}
theorem mLC2_inv {ρ ρ' : Env} {ys : List PyData} (h : mLC2 vs vs1 fi gt tt fi1 gt1 tt1 fe ρ = some (ys, ρ')) :
    ∃ ds ρ1 ρ2 ρ3, fi ρ = some (ds, ρ1) ∧ wipeE vs ρ1 = some ρ2 ∧ lcLoop2 vs vs1 gt tt fi1 gt1 tt1 fe ds ρ2 = some (ys, ρ3) ∧ restE ρ1 vs ρ3 = some ρ' ∧ ys.length ≤ 100000 := by
  unfold mLC2 at h
  cases e1 : fi ρ with
  | none => simp only [e1] at h; cases h
  | some p =>
    obtain ⟨ds, ρ1⟩ := p
    simp only [e1] at h
    cases e2 : wipeE vs ρ1 with
    | none => simp only [e2] at h; cases h
    | some ρ2 =>
      simp only [e2] at h
      cases e3 : lcLoop2 vs vs1 gt tt fi1 gt1 tt1 fe ds ρ2 with
      | none => simp only [e3] at h; cases h
      | some p =>
        obtain ⟨zs, ρ3⟩ := p
        simp only [e3] at h
        cases e4 : restE ρ1 vs ρ3 with
        | none => simp only [e4] at h; cases h
        | some ρ4 =>
          simp only [e4] at h
          split at h
          · rename_i hz
            cases h
            exact ⟨ds, ρ1, ρ2, ρ3, rfl, e2, e3, e4, hz⟩
          · cases h
theorem wipe_sub {σ : Sg} (hv : ∀ i ∈ vs1, i ∈ vs) : wipe (wipe σ vs1) vs = wipe σ vs :=
  wipe_ext (by rw [wipe_length]) fun j hj => wipe_out fun z => hj (hv j z)
theorem lc2_imp {Γ : Wd} {W : Wt} (hts : ∀ i ∈ ts, i ∈ vs) (hts1 : ∀ i ∈ ts1, i ∈ vs1) (hv : ∀ i ∈ vs1, i ∈ vs) (σ : Sg) (H : Hp) (Q : VK) (h : rdS Γ W (mLst (mLC2 vs vs1 fi gt tt fi1 gt1 tt1 fe)) σ H Q) :
    tLc2 (xI Γ fi) (xG Γ ts gt) (xT Γ tt) (xI Γ fi1) (xG Γ ts1 gt1) (xT Γ tt1) (xE Γ fe) vs vs1 σ H Q := by
  obtain ⟨ρ, s, ρ', R, e, k⟩ := h
  unfold mLst at e
  split at e
  · rename_i ys ρ9 e0
    cases e
    obtain ⟨ds, ρ1, ρ2, ρ3, e1, e2, e3, e4, hz⟩ := mLC2_inv e0
    refine ⟨W, ρ, ds, ρ1, R, e1, fun J H1 R1 g1 wk D hD => ?_⟩
    have hW := R1.kp_none hD
    have gN : Grow H1 (upd H1 D (.lst [])) := .new hD
    have R2 : RepS Γ W σ (upd H1 D (.lst [])) ρ1 := R1.same (Same.new hD)
    have ap : Ap ρ1 σ D := R1.ap hD
    let Inv' : Nat → Hp → Prop := fun i H => i ≤ ds.length ∧ Grow H1 H ∧ ∃ ρi acc so rest, RepS Γ W (wipe σ vs) H ρi ∧ H D = some (.lst acc) ∧ DfA Γ H acc so ∧ Ap ρi (wipe σ vs) D ∧ lcLoop2 vs vs1 gt tt fi1 gt1 tt1 fe (ds.drop i) ρi = some (rest, ρ3) ∧ so ++ rest = ys
    refine ⟨fun i m H => m = ds.length - i ∧ Inv' i H, ⟨ds.length, by simp, Nat.zero_le _, gN, ρ2, [], [], ys, R2.wipe e2, upd_same, .nil, ap.wipe e2, by simpa using e3, rfl⟩, ?_⟩
    rintro i m H ⟨rfl, hi, gA, ρi, acc, so, rest, Ri, hDi, hai, api, ei, eq⟩
    rcases Nat.lt_or_ge i ds.length with hlt | hge
    · obtain ⟨go, yl⟩ := (wk H gA i).1 hlt
      have ed : ds.drop i = ds[i] :: ds.drop (i + 1) := List.drop_eq_getElem_cons hlt
      rw [ed, lcLoop2] at ei
      refine .inr ⟨go, Inv' (i + 1), fun H' h => ⟨_, by omega, rfl, h⟩, fun x H' y => ?_⟩
      obtain ⟨sm, d, hd, df⟩ := yl x H' y
      rw [List.getElem?_eq_getElem hlt] at hd
      cases hd
      have hD' : H' D = some (.lst acc) := sm _ _ hDi
      have R1' := (Ri.same sm).wide hD' api hW
      cases e3 : gt ds[i] ρi with
      | none => simp only [e3] at ei; cases ei
      | some ρ1' =>
        simp only [e3] at ei
        refine ⟨W.add D (.lst acc), _, ρi, ρ1', R1', df, e3, fun σ2 H2 R2' g2 f2 => ⟨f2.wipe hts, ?_⟩⟩
        have wq := f2.wipe hts
        cases e4' : tt ρ1' with
        | none => simp only [e4'] at ei; cases ei
        | some p =>
          obtain ⟨b, ρ2'⟩ := p
          refine ⟨W.add D (.lst acc), ρ1', b, ρ2', R2', e4', fun H3 R3 g3 => ?_⟩
          have g13 : Grow H H3 := (Grow.same sm).trans (g2.trans g3)
          cases b with
          | false =>
            simp only [e4'] at ei
            refine iteF ?_
            cases e5 : wipeE vs ρ2' with
            | none => simp only [e5] at ei; cases ei
            | some ρ3' =>
              simp only [e5] at ei
              obtain ⟨R4, hD4, ap4⟩ := R3.narrow hW
              refine ⟨hlt, gA.trans g13, ρ3', acc, so, rest, ?_, hD4, hai.grow g13, ?_, ei, eq⟩
              · rw [← wq]; exact R4.wipe e5
              · rw [← wq]; exact ap4.wipe e5
          | true =>
            simp only [e4'] at ei
            refine iteT ?_
            cases e5 : fi1 ρ2' with
            | none => simp only [e5] at ei; cases ei
            | some p =>
            obtain ⟨ds1, ρ3'⟩ := p
            simp only [e5] at ei
            cases e6 : wipeE vs1 ρ3' with
            | none => simp only [e6] at ei; cases ei
            | some ρ4' =>
            simp only [e6] at ei
            cases e7 : lcLoop vs1 gt1 tt1 fe ds1 ρ4' with
            | none => simp only [e7] at ei; cases ei
            | some p =>
            obtain ⟨ys1, ρ5'⟩ := p
            simp only [e7] at ei
            cases e8 : wipeE vs ρ5' with
            | none => simp only [e8] at ei; cases ei
            | some ρ6' =>
            simp only [e8] at ei
            cases e9 : lcLoop2 vs vs1 gt tt fi1 gt1 tt1 fe (ds.drop (i + 1)) ρ6' with
            | none => simp only [e9] at ei; cases ei
            | some p =>
            obtain ⟨zs, ρ7'⟩ := p
            simp only [e9] at ei
            cases ei
            refine ⟨W.add D (.lst acc), ρ2', ds1, ρ3', R3, e5, fun J1 H4 R4 g4 wk1 => ?_⟩
            obtain ⟨R5, hD5, ap5⟩ := R4.narrow hW
            have g14 : Grow H H4 := g13.trans g4
            refine lc_turns hts1 wk1 (.refl H4) (R5.wipe e6) e7 hW hD5 (hai.grow g14) (ap5.wipe e6) ?_ fun H6 acc6 R6 hD6 ha6 ap6 g6 => ?_
            · have e10 := congrArg List.length eq
              simp only [List.length_append] at e10 ⊢
              omega
            · have wq2 : wipe (wipe σ2 vs1) vs = wipe σ vs := (wipe_sub hv).trans wq
              refine ⟨hlt, gA.trans (g14.trans g6), ρ6', acc6, so ++ ys1, zs, ?_, hD6, ha6, ?_, e9, by simpa using eq⟩
              · rw [← wq2]; exact R6.wipe e8
              · rw [← wq2]; exact ap6.wipe e8
    · have ee : ds.drop i = [] := List.drop_eq_nil_of_le hge
      rw [ee, lcLoop2] at ei
      cases ei
      rw [List.append_nil] at eq
      subst eq
      have R6 := R1.rest gA Ri e4
      exact .inl ⟨(wk H gA i).2 hge, k _ H R6 ⟨D, acc, rfl, hW, hDi, hai, api.rest (by rw [Ri.len, wipe_length]) e4⟩ (g1.trans gA)⟩
  · cases e
theorem se_lc2 (hc : X.calm = true) (hN : X.N.Nodup) (hi : DI X tg iter fi) (own : List (Str × Nat)) (ok : blkC X.N X.env.scope scope own = true) (vs1 : List Nat) (hg : AllB X scope fun Y => DG Y tg ts gt) (ht : AllB X scope fun Y => DTs Y ifs tt)
    (hi1 : AllB X scope fun Y => DI Y tg1 iter1 fi1) (hg1 : AllB X scope fun Y => DG Y tg1 ts1 gt1) (ht1 : AllB X scope fun Y => DTs Y ifs1 tt1) (he : AllB X scope fun Y => DE Y elt fe)
    (hv : own.map (·.2) = vs := by rfl) (hts : ∀ i ∈ ts, i ∈ vs := by decide) (hts1 : ∀ i ∈ ts1, i ∈ vs1 := by decide) (hvs : ∀ i ∈ vs1, i ∈ vs := by decide) (hs : ∀ x, foldedSetIterable iter X.env x = pure x := by intro _; rfl) (hs1 : ∀ env x, foldedSetIterable iter1 env x = pure x := by intro _ _; rfl) :
    SE X (.ListComp elt [⟨tg, iter, ifs, 0⟩, ⟨tg1, iter1, ifs1, 0⟩] scope pos) (mLst (mLC2 vs vs1 fi gt tt fi1 gt1 tt1 fe)) := by
  subst hv
  exact ⟨fun W => (pe_lc2 (wi := xI (wdX X) fi) (g := xG (wdX X) ts gt) (tt := xT (wdX X) tt) (wi1 := xI (wdX X) fi1) (g1 := xG (wdX X) ts1 gt1) (tt1 := xT (wdX X) tt1) (te := xE (wdX X) fe) hc hN hi.x (blkOk_by ok) hvs (fun s H C cl fp => (hg s H C cl fp).x) (fun s H C cl fp => (ht s H C cl fp).x)
    (fun s H C cl fp => (hi1 s H C cl fp).x) (fun s H C cl fp => (hg1 s H C cl fp).x) (fun s H C cl fp => (ht1 s H C cl fp).x) (fun s H C cl fp => (he s H C cl fp).x) hs hs1).imp (lc2_imp hts hts1 hvs)⟩
end
end Dn
namespace Dn
open PySem PySem.Spec PyProof.Rows L2

def storeE (kvs : List (PyData × PyData)) (k d : PyData) : List (PyData × PyData) :=
  if (kvs.any fun kv => PyData.eqv kv.1 k) = true then kvs.map fun kv => if PyData.eqv kv.1 k = true then (kv.1, d) else kv else kvs ++ [(k, d)]
def getE (kvs : List (PyData × PyData)) (k : PyData) : Option PyData := (kvs.find? fun kv => PyData.eqv kv.1 k).map (·.2)
def popE (kvs : List (PyData × PyData)) (k : PyData) : List (PyData × PyData) := kvs.filter fun kv => !(PyData.eqv kv.1 k)
section
variable {Γ : Wd} {H : Hp}
theorem DfE.append : ∀ {xs ys : List Ent} {kvs kws : List (PyData × PyData)}, DfE Γ H xs kvs → DfE Γ H ys kws → DfE Γ H (xs ++ ys) (kvs ++ kws)
  | _, _, _, _, .nil, h => h
  | _, _, _, _, .cons h1 h2 h3 h4, h => .cons h1 h2 h3 (DfE.append h4 h)
theorem atKey_cons (x : Ent) (xs : List Ent) (k : NestedKey) : atKey (x :: xs) k = if x.1 = k then some x.2 else atKey xs k := by
  unfold atKey
  by_cases h : x.1 = k
  · simp [h]
  · simp [h]
theorem DfE.anyKey (k : NestedKey) : ∀ {xs : List Ent} {kvs : List (PyData × PyData)}, DfE Γ H xs kvs → (kvs.any fun kv => PyData.eqv kv.1 k.data) = (atKey xs k).isSome
  | _, _, .nil => rfl
  | _, _, .cons (k := j) (xs := ys) h1 h2 h3 h4 => by
    rw [List.any_cons, DfE.anyKey k h4, eqv_dec, atKey_cons]
    by_cases e : j = k <;> simp [e]
theorem DfE.putAt (k : NestedKey) {v : V} {u : Value} {d : PyData} (r : RelV v u) (hd : Df Γ H v d) : ∀ {xs : List Ent} {kvs : List (PyData × PyData)}, DfE Γ H xs kvs →
    DfE Γ H (xs.map (PySem.putAt k u)) (kvs.map fun kv => if PyData.eqv kv.1 k.data = true then (kv.1, d) else kv)
  | _, _, .nil => .nil
  | _, _, .cons (k := j) (t := t) (u := u') h1 h2 h3 h4 => by
    rw [List.map_cons, List.map_cons]
    show DfE Γ H ((if j = k then (j, t, u) else (j, t, u')) :: _) _
    simp only [eqv_dec]
    by_cases e : j = k
    · subst e
      simp only [decide_true, if_true]
      exact .cons h1 r hd (DfE.putAt j r hd h4)
    · simp only [e, decide_false, if_false, Bool.false_eq_true]
      exact .cons h1 h2 h3 (DfE.putAt k r hd h4)
theorem DfE.store {xs : List Ent} {kvs : List (PyData × PyData)} {k : NestedKey} {t : Addr} {v : V} {u : Value} {d : PyData} (h : DfE Γ H xs kvs) (hk : Df Γ H (.ref t) k.data) (r : RelV v u) (hd : Df Γ H v d) :
    DfE Γ H (storedH xs k t u) (storeE kvs k.data d) := by
  unfold storedH storeE
  rw [h.anyKey k]
  split
  · exact h.putAt k r hd
  · exact h.append (.cons hk r hd .nil)
theorem DfE.pop (k : NestedKey) : ∀ {xs : List Ent} {kvs : List (PyData × PyData)}, DfE Γ H xs kvs → DfE Γ H (withoutH xs k) (popE kvs k.data)
  | _, _, .nil => .nil
  | _, _, .cons (k := j) h1 h2 h3 h4 => by
    have q := DfE.pop k h4
    unfold withoutH popE at *
    rw [List.filter_cons, List.filter_cons]
    simp only [eqv_dec]
    by_cases e : j = k
    · simp only [e, ne_eq, not_true_eq_false, decide_false, decide_true, Bool.not_true, Bool.false_eq_true, if_false]
      exact q
    · simp only [e, ne_eq, not_false_eq_true, decide_true, decide_false, Bool.not_false, if_true]
      exact .cons h1 h2 h3 q
theorem DfE.get (k : NestedKey) : ∀ {xs : List Ent} {kvs : List (PyData × PyData)} {d : PyData}, DfE Γ H xs kvs → getE kvs k.data = some d → ∃ p v, atKey xs k = some p ∧ RelV v p.2 ∧ Df Γ H v d
  | _, _, _, .nil, h => by simp [getE] at h
  | _, _, _, .cons (k := j) (v := v) (t := t) (u := u) h1 h2 h3 h4, h => by
    rw [atKey_cons]
    unfold getE at h
    rw [List.find?_cons] at h
    simp only [eqv_dec] at h
    by_cases e : j = k
    · simp only [e, decide_true, Option.map_some, Option.some.injEq] at h
      subst h
      exact ⟨(t, u), v, by simp [e], h2, h3⟩
    · simp only [e, decide_false] at h
      simp only [e, if_false]
      exact DfE.get k h4 h
end

section
variable {X : Cx} {pins : List (Addr × Obj)} {σ : Sg} {H : Hp} {s : Shared} {D : Addr} {xs : List Ent} {kvs : List (PyData × PyData)}
theorem keyRoom {A : Around} (h : A.units + 9 < cLine) : (nestedKind X.prog X.w).room A.in1 := show A.units + 1 + 8 < cLine by omega
theorem dO_of (I : Inv X pins σ H s) (hD : Rd H D (dO (wdX X) D xs)) (he : DfE (wdX X) H xs kvs) : s.heap.DictOfH (nestedKind X.prog X.w) D xs ∧ (D == sysModules) = false ∧ xs.length ≤ sizeLine ∧ ∀ x ∈ xs, x.1.depth ≤ 8 := by
  obtain ⟨o, es, ep, ho, hx, hd, hl, hn, hs, hz, hdp⟩ := dict_raw I hD
  exact ⟨⟨o, es, ep, ho, hx, hd, hl, fun x hx => ⟨nested_of I _ _ _ (keys_of he x hx) rfl, hdp x hx⟩, hn⟩, hs, hz, hdp⟩
theorem dO_new {H' : Hp} {h' : Heap} (hs : (D == sysModules) = false) (hz : xs.length ≤ sizeLine) (dd : h'.DictOfH (nestedKind X.prog X.w) D xs) : ObjOk X.prog X.w H' h' D (dO (wdX X) D xs) := by
  obtain ⟨o, es, ep, ho, hx, hd, hl, his, hn⟩ := dd
  refine ⟨⟨o, es, ep, ho, hx, hd, hl, hn, hs, hz, fun x hx => (his x hx).2⟩, ⟨o, ho⟩, fun h1 h2 ⟨o, es, ep, ho, r⟩ k => ⟨o, es, ep, k o ho, r⟩⟩
theorem storedH_len (xs : List Ent) (k : NestedKey) (t : Addr) (u : Value) : (storedH xs k t u).length ≤ xs.length + 1 := by
  unfold storedH; split <;> simp
theorem withoutH_len (xs : List Ent) (k : NestedKey) : (withoutH xs k).length ≤ xs.length := List.length_filter_le _ _
/-- an entry is stored by a comprehension or a display -/
theorem dO_dictSet {E : Value → Shared → Prop} {k : NestedKey} {t : Addr} {v : V} {r : Value} {Q : Unit → Shared → Prop} (I : Inv X pins σ H s) (hu : X.A.units + 9 < cLine) (hD : H D = some (dO (wdX X) D xs)) (he : DfE (wdX X) H xs kvs) (hz : xs.length < sizeLine)
    (hk : Df (wdX X) H (.ref t) k.data) (hdp : k.depth ≤ 8) (h : ∀ s', Inv X pins σ (upd H D (dO (wdX X) D (storedH xs k t r))) s' → Q () s') : wpAny (model X.prog X.w) X.A (dictSet D (.ref t) r) Q E s := by
  obtain ⟨dd, hs, _, _⟩ := dO_of I (.inl hD) he
  refine wpAny_dictSet_heap (knd := nestedKind X.prog X.w) (k := k) (hsz := by omega) (show X.A.units + 8 < cLine by omega) ⟨nested_of I _ _ _ hk rfl, hdp⟩ dd fun h' dd' sb => h _ ?_
  have he' : ∃ q, h'.get? D = some q := let ⟨q, _, _, hq, _⟩ := dd'; ⟨q, hq⟩
  have := storedH_len xs k t r
  exact d_write I (by rw [hD]; trivial) sb he' (dO_new hs (by omega) dd')
/-- d[k] = v -/
theorem dO_setItem {E : Value → Shared → Prop} {k : NestedKey} {t : Addr} {v : V} {r : Value} {Q : Unit → Shared → Prop} (I : Inv X pins σ H s) (hu : X.A.units + 9 < cLine) (hD : H D = some (dO (wdX X) D xs)) (he : DfE (wdX X) H xs kvs) (hz : xs.length < sizeLine)
    (hk : Df (wdX X) H (.ref t) k.data) (hdp : k.depth ≤ 8) (h : ∀ s', Inv X pins σ (upd H D (dO (wdX X) D (storedH xs k t r))) s' → Q () s') : wpAny (model X.prog X.w) X.A (setItem (.ref D) (.ref t) r) Q E s := by
  obtain ⟨dd, hs, _, _⟩ := dO_of I (.inl hD) he
  refine wpAny_setItem_heap (knd := nestedKind X.prog X.w) (k := k) (hsz := by omega) (keyRoom hu) ⟨nested_of I _ _ _ hk rfl, hdp⟩ dd fun h' dd' sb => h _ ?_
  have he' : ∃ q, h'.get? D = some q := let ⟨q, _, _, hq, _⟩ := dd'; ⟨q, hq⟩
  have := storedH_len xs k t r
  exact d_write I (by rw [hD]; trivial) sb he' (dO_new hs (by omega) dd')
/-- d.pop(k) of a key that is there -/
theorem dO_pop {k : NestedKey} {t : Addr} {d : PyData} {Q : VK} (I : Inv X pins σ H s) (hu : X.A.units + 9 < cLine) (hD : H D = some (dO (wdX X) D xs)) (he : DfE (wdX X) H xs kvs)
    (hk : Df (wdX X) H (.ref t) k.data) (hdp : k.depth ≤ 8) (hg : getE kvs k.data = some d) (h : ∀ v, Df (wdX X) H v d → Q v (upd H D (dO (wdX X) D (withoutH xs k)))) : wpAny (model X.prog X.w) X.A (call (.builtin "dict.pop") [.ref D, .ref t]) (EP X pins σ Q) X.xe s := by
  obtain ⟨dd, hs, hz, _⟩ := dO_of I (.inl hD) he
  obtain ⟨p, v, hp, rp, hv⟩ := he.get k hg
  refine call_pop_heap (knd := nestedKind X.prog X.w) (k := k) (hsz := hz) (.inl rfl) (F.args_dict_pop_2 _ _) (keyRoom hu) ⟨nested_of I _ _ _ hk rfl, hdp⟩ hs dd hp fun h' dd' sb => ?_
  have he' : ∃ q, h'.get? D = some q := let ⟨q, _, _, hq, _⟩ := dd'; ⟨q, hq⟩
  have := withoutH_len xs k
  exact ⟨v, _, d_write I (by rw [hD]; trivial) sb he' (dO_new hs (by omega) dd'), rp, h v hv⟩
theorem dO_empty {H' : Hp} (h : Heap) (hb : sysModules < h.objs.size) : ObjOk X.prog X.w H' (h.push { cls := .type "dict", data := .dict #[] }) h.objs.size (dO (wdX X) h.objs.size []) :=
  dO_new (beq_eq_false_iff_ne.mpr (Ne.symm (Nat.ne_of_lt hb))) (Nat.zero_le _) (Heap.DictOfH.new h)
end

section
variable {Γ : Wd} {W : Wt} {σ : Sg} {H : Hp} {ρ : Env}
theorem RepS.dic_put {i : Nat} {kvs kws : List (PyData × PyData)} {a : Addr} {ys : List Ent} (R : RepS Γ W σ H ρ) (e : ρ[i]? = some (.dic kvs)) (ha : σ[i]? = some (some (.ref a))) (hd : DfE Γ H ys kws) (hm : Mut (H a)) :
    RepS Γ W σ (upd H a (dO Γ a ys)) (ρ.set i (.dic kws)) := by
  obtain ⟨b, xs, e1, w, h1, h2⟩ := R.at_ i _ e
  rw [ha] at e1; cases e1
  exact R.upd_at (k := i) (by rw [e]; trivial) ha trivial (.inr ⟨kvs, e⟩) ⟨a, ys, ha, w, upd_same, hd.grow (.but hm)⟩
theorem setSl_get {i : Nat} {s : Sl} {ρ' : Env} {t : Sl} (h : setSl i s ρ = some ρ') (e : ρ[i]? = some t) : ρ'[i]? = some s := by
  obtain ⟨rfl, _⟩ := setSl_eq h
  exact List.getElem?_set_self (List.getElem?_eq_some_iff.mp e).1
/-- a slot is forgotten; the value stays -/
theorem RepS.drop {i : Nat} {ρ' : Env} (R : RepS Γ W σ H ρ) (h : setSl i .un ρ = some ρ') : RepS Γ W σ H ρ' := by
  obtain ⟨rfl, hz⟩ := setSl_eq h
  have off : ∀ j, mutS (ρ.set i .un)[j]? → i ≠ j := fun j hj e => by
    subst e
    by_cases hl : i < ρ.length
    · rw [List.getElem?_set_self hl] at hj; exact hj
    · rw [List.getElem?_eq_none (by simpa using hl)] at hj; exact hj
  refine ⟨by simpa using R.len, R.keep, fun j t e => ?_, fun j k a hjk hj hk => ?_, fun a ha => ?_⟩
  · by_cases hi : i = j
    · subst hi
      have hl : i < ρ.length := by
        have := (List.getElem?_eq_some_iff.mp e).1
        simpa using this
      rw [List.getElem?_set_self hl] at e; cases e
      trivial
    · rw [List.getElem?_set_ne hi] at e
      exact R.at_ j t e
  · rw [List.getElem?_set_ne (off j hj)] at hj
    rw [List.getElem?_set_ne (off k hk)] at hk
    exact R.sep j k a hjk hj hk
  · obtain ⟨h1, ds, h2⟩ := R.anc a ha
    have hi : i ≠ 0 := fun z => hz z ds h2
    rw [List.getElem?_set_ne hi]
    exact ⟨h1, ds, h2⟩
theorem RepS.drop_ap {i : Nat} {ρ' : Env} {a : Addr} (R : RepS Γ W σ H ρ) (h : setSl i .un ρ = some ρ') (hm : mutS ρ[i]?) (ha : σ[i]? = some (some (.ref a))) : Ap ρ' σ a := by
  obtain ⟨rfl, hz⟩ := setSl_eq h
  intro j hj e
  by_cases hi : i = j
  · subst hi
    by_cases hl : i < ρ.length
    · rw [List.getElem?_set_self hl] at hj; exact hj
    · rw [List.getElem?_eq_none (by simpa using hl)] at hj; exact hj
  · rw [List.getElem?_set_ne hi] at hj
    exact R.sep i j a hi hm hj ha e
theorem RepS.undat {i : Nat} {v : V} {d : PyData} {ρ' : Env} (R : RepS Γ W σ H ρ) (e : ρ[i]? = some .un) (ha : σ[i]? = some (some v)) (hd : Df Γ H v d) (h : ρ.set i (.dat d) = ρ') : RepS Γ W σ H ρ' := by
  subst h
  have hlt : i < ρ.length := (List.getElem?_eq_some_iff.mp e).1
  have off : ∀ j, mutS (ρ.set i (.dat d))[j]? → mutS ρ[j]? := fun j hj => by
    by_cases hi : i = j
    · subst hi; rw [List.getElem?_set_self hlt] at hj; exact hj.elim
    · rw [List.getElem?_set_ne hi] at hj; exact hj
  refine ⟨by simpa using R.len, R.keep, fun j t ej => ?_, fun j k a hjk hj hk => R.sep j k a hjk (off j hj) (off k hk), fun a haa => ?_⟩
  · by_cases hi : i = j
    · subst hi
      rw [List.getElem?_set_self hlt] at ej; cases ej
      exact ⟨v, ha, hd⟩
    · rw [List.getElem?_set_ne hi] at ej
      exact R.at_ j t ej
  · obtain ⟨h1, ds, h2⟩ := R.anc a haa
    refine ⟨h1, ds, ?_⟩
    by_cases hi : i = 0
    · subst hi; rw [e] at h2; cases h2
    · rw [List.getElem?_set_ne hi]; exact h2
end
/-- a slot's value, as data from now on -/
def eFz (i : Nat) : M PyData := fun ρ => match ρ[i]? with
  | some (.dat d) => some (d, ρ)
  | some (.own ds) => (match setSl i .un ρ with
    | some ρ1 => some (.list ds, ρ1.set i (.dat (.list ds)))
    | none => none)
  | some (.dic kvs) => (match setSl i .un ρ with
    | some ρ1 => some (.dict kvs, ρ1.set i (.dat (.dict kvs)))
    | none => none)
  | _ => none
/-- a slot's value is given away -/
def eMv (i : Nat) : M Sl := fun ρ => match ρ[i]? with
  | some (.dat d) => some (.dat d, ρ)
  | some (.own ds) => (match setSl i .un ρ with
    | some ρ1 => some (.own ds, ρ1)
    | none => none)
  | some (.dic kvs) => (match setSl i .un ρ with
    | some ρ1 => some (.dic kvs, ρ1)
    | none => none)
  | _ => none
section
variable {X : Cx} {pos : Pos}
theorem de_fzv (i : Nat) {x : Str} (hN : X.N[i]? = some x := by rfl) (hv : Vis X.env.scope x := by first | exact Or.inl rfl | exact Or.inr (Or.inl rfl) | exact Or.inr (Or.inr rfl)) (hd : (x == ("__debug__" : Str)) = false := by decide)
    (hcd : (x == ("__classdict__" : Str)) = false := by decide) : DE X (.Name x pos) (eFz i) := by
  refine ⟨fun W => ⟨fun pins s σ H Q I ⟨ρ, d, ρ', R, e, k⟩ => ?_⟩⟩
  have go : ∀ v, σ[i]? = some (some v) → (∀ s', Inv X pins σ H s' → ∃ H', Inv X pins σ H' s' ∧ Q v H') → wpAny (model X.prog X.w) X.A (eval (.Name x pos) X.env) (EP X pins σ Q) X.xe s := fun v ev hk => by
    refine thn ((pe_var (i := i) (pos := pos) hN hv hd hcd).run pins s σ H (fun v' H' => v' = v ∧ ∀ s', Inv X pins σ H' s' → ∃ H'', Inv X pins σ H'' s' ∧ Q v H'') I ⟨v, ev, rfl, hk⟩) fun u s1 ⟨y, H1, I1, r1, ey, q1⟩ => ?_
    subst ey
    obtain ⟨H2, I2, q2⟩ := q1 s1 I1
    exact ⟨y, H2, I2, r1, q2⟩
  unfold eFz at e
  split at e
  · rename_i d0 e0
    cases e
    obtain ⟨v, ev, h1⟩ := R.at_ i _ e0
    exact go v ev fun s' I' => ⟨H, I', k v H R h1 (.refl H)⟩
  · rename_i ds e0
    split at e
    · rename_i ρ1 e1
      cases e
      obtain ⟨a, xs, ev, w, h1, h2⟩ := R.at_ i _ e0
      refine go _ ev fun s' I' => ?_
      obtain ⟨od, I2⟩ := I'.lock h1 trivial
      have hm : Mut (H a) := by rw [h1]; trivial
      have ap := R.drop_ap e1 (by rw [e0]; trivial) ev
      have R2 := (R.drop e1).off (o := .frz od (.lst xs)) w hm ap
      have D2 : Df (wdX X) (upd H a (.frz od (.lst xs))) (.ref a) (.list ds) := .lst ⟨od, upd_same⟩ (h2.grow (.but hm))
      exact ⟨_, I2, k _ _ (R2.undat (setSl_get e1 e0) ev D2 rfl) D2 (.but hm)⟩
    · cases e
  · rename_i kvs e0
    split at e
    · rename_i ρ1 e1
      cases e
      obtain ⟨a, xs, ev, w, h1, h2⟩ := R.at_ i _ e0
      refine go _ ev fun s' I' => ?_
      obtain ⟨od, I2⟩ := I'.lock h1 trivial
      have hm : Mut (H a) := by rw [h1]; trivial
      have ap := R.drop_ap e1 (by rw [e0]; trivial) ev
      have R2 := (R.drop e1).off (o := .frz od (dO (wdX X) a xs)) w hm ap
      have D2 : Df (wdX X) (upd H a (.frz od (dO (wdX X) a xs))) (.ref a) (.dict kvs) := .dic ⟨od, upd_same⟩ (h2.grow (.but hm))
      exact ⟨_, I2, k _ _ (R2.undat (setSl_get e1 e0) ev D2 rfl) D2 (.but hm)⟩
    · cases e
  · cases e
theorem se_mv (i : Nat) {x : Str} (hN : X.N[i]? = some x := by rfl) (hv : Vis X.env.scope x := by first | exact Or.inl rfl | exact Or.inr (Or.inl rfl) | exact Or.inr (Or.inr rfl)) (hd : (x == ("__debug__" : Str)) = false := by decide)
    (hcd : (x == ("__classdict__" : Str)) = false := by decide) : SE X (.Name x pos) (eMv i) := by
  refine ⟨fun W => (pe_var (i := i) hN hv hd hcd).imp fun σ H Q ⟨ρ, d, ρ', R, e, k⟩ => ?_⟩
  unfold eMv at e
  split at e
  · rename_i d0 e0
    cases e
    obtain ⟨v, ev, h1⟩ := R.at_ i _ e0
    exact ⟨v, ev, k v H R h1 (.refl H)⟩
  · rename_i ds e0
    split at e
    · rename_i ρ1 e1
      cases e
      obtain ⟨a, xs, ev, w, h1, h2⟩ := R.at_ i _ e0
      exact ⟨_, ev, k _ H (R.drop e1) ⟨a, xs, rfl, w, h1, h2, R.drop_ap e1 (by rw [e0]; trivial) ev⟩ (.refl H)⟩
    · cases e
  · rename_i kvs e0
    split at e
    · rename_i ρ1 e1
      cases e
      obtain ⟨a, xs, ev, w, h1, h2⟩ := R.at_ i _ e0
      exact ⟨_, ev, k _ H (R.drop e1) ⟨a, xs, rfl, w, h1, h2, R.drop_ap e1 (by rw [e0]; trivial) ev⟩ (.refl H)⟩
    · cases e
  · cases e

def mApp (i : Nat) (f : M PyData) : M PyData := fun ρ => match f ρ with
  | some (d, ρ1) => (match ρ1[i]? with
    | some (.own ds) => if ds.length ≤ 100000 then some (.none, ρ1.set i (.own (ds ++ [d]))) else none
    | _ => none)
  | none => none
def isOwn (i : Nat) (ρ : Env) : Bool := match ρ[i]? with
  | some (.own _) => true
  | _ => false
def isDic (i : Nat) (ρ : Env) : Bool := match ρ[i]? with
  | some (.dic _) => true
  | _ => false
def mAppN (i : Nat) (f : M PyData) : M PyData := fun ρ => if isOwn i ρ = true then mApp i f ρ else none
theorem isOwn_inv {i : Nat} {ρ : Env} (h : isOwn i ρ = true) : ∃ ds, ρ[i]? = some (.own ds) := by
  unfold isOwn at h; split at h
  · rename_i ds e; exact ⟨ds, e⟩
  · cases h
theorem isDic_inv {i : Nat} {ρ : Env} (h : isDic i ρ = true) : ∃ ds, ρ[i]? = some (.dic ds) := by
  unfold isDic at h; split at h
  · rename_i ds e; exact ⟨ds, e⟩
  · cases h
/-- the receiver is read, then the argument; then the list is written -/
theorem own_app {W : Wt} {σ : Sg} {H : Hp} {ρ : Env} {i : Nat} {ds : List PyData} {a : Addr} {xs : List V} {v : V} {d : PyData} (R : RepS (wdX X) W σ H ρ) (e : ρ[i]? = some (.own ds)) (ha : σ[i]? = some (some (.ref a))) (h1 : H a = some (.lst xs)) (h2 : DfA (wdX X) H xs ds) (hv : Df (wdX X) H v d) :
    RepS (wdX X) W σ (upd H a (.lst (xs ++ [v]))) (ρ.set i (.own (ds ++ [d]))) := R.own_set e ha (h2.append (.cons hv .nil)) (by rw [h1]; trivial)
theorem de_append (i : Nat) {x : Str} {p apos cpos : Pos} {e : Expr} {f : M PyData} (he : DE X e f) (hN : X.N[i]? = some x := by rfl) (hv : Vis X.env.scope x := by first | exact Or.inl rfl | exact Or.inr (Or.inl rfl) | exact Or.inr (Or.inr rfl)) (hd : (x == ("__debug__" : Str)) = false := by decide)
    (hcd : (x == ("__classdict__" : Str)) = false := by decide) (hbase : attributeBase (.Name x p) "append" X.env (eval (.Name x p) X.env) = eval (.Name x p) X.env := by rfl)
    (hfew : ((backTo cpos (starEach (e :: []) X.env)).all (fun x => !x.1) && (backToKw cpos (keywordEach [] X.env)).all (fun x => x.1.isSome)
      && decide ((e :: []).length + ([] : List Keyword).length + (if ([] : List Keyword).isEmpty then 0 else 1) < 30)) = true := by rfl)
    (hline : (apos.endLine == cpos.line) = true := by rfl) (hs : starEach (e :: []) X.env = (false, eval e X.env) :: starEach [] X.env := by rfl) (hplain : (backTo cpos (starEach [] X.env)).any (·.1) = false := by rfl) :
    DE X (.Call (.Attribute (.Name x p) "append" apos) [e] [] cpos) (mAppN i f) := by
  refine ⟨fun W => (pe_bm (T := "list") F.plainAttrs_list F.slot_list_append F.type_list_append mt_append (pe_var (i := i) hN hv hd hcd) (pa_cons (he.pe W) pa_nil hs) hbase hfew hline hs hplain).imp fun σ H Q ⟨ρ, z, ρ', R, h, k⟩ => ?_⟩
  unfold mAppN at h
  split at h
  · rename_i ho
    obtain ⟨ds0, e0⟩ := isOwn_inv ho
    obtain ⟨a, xs0, ev, w, h1, h2⟩ := R.at_ i _ e0
    unfold mApp at h
    split at h
    · rename_i d ρ1 e1
      split at h
      · rename_i ds e2
        split at h
        · rename_i hz
          cases h
          refine ⟨_, ev, .inl ⟨rfl, xs0, .inl (.inl h1)⟩, ρ, d, ρ1, R, e1, fun v H2 R2 D2 g2 => ?_⟩
          obtain ⟨b, xs, eb, w2, h3, h4⟩ := R2.at_ i _ e2
          rw [ev] at eb; cases eb
          refine ⟨a, xs, v, rfl, rfl, h3, ?_, k _ _ (own_app R2 e2 ev h3 h4 D2) .non (g2.trans (.but (by rw [h3]; trivial)))⟩
          rw [h4.length, sizeLine_eq]; omega
        · cases h
      · cases h
    · cases h
  · cases h
/-- l.pop() -/
def mPop (i : Nat) : M PyData := fun ρ => match ρ[i]? with
  | some (.own ds) => (match ds[ds.length - 1]? with
    | some d => some (d, ρ.set i (.own ds.dropLast))
    | none => none)
  | _ => none
theorem DfA.dropLast {Γ : Wd} {H : Hp} {vs : List V} {ds : List PyData} (h : DfA Γ H vs ds) : DfA Γ H vs.dropLast ds.dropLast := by
  rw [List.dropLast_eq_take, List.dropLast_eq_take, h.length]
  exact h.take _
theorem de_pop (i : Nat) {x : Str} {p apos cpos : Pos} (hN : X.N[i]? = some x := by rfl) (hv : Vis X.env.scope x := by first | exact Or.inl rfl | exact Or.inr (Or.inl rfl) | exact Or.inr (Or.inr rfl)) (hd : (x == ("__debug__" : Str)) = false := by decide)
    (hcd : (x == ("__classdict__" : Str)) = false := by decide) (hbase : attributeBase (.Name x p) "pop" X.env (eval (.Name x p) X.env) = eval (.Name x p) X.env := by rfl) (hline : (apos.endLine == cpos.line) = true := by rfl) :
    DE X (.Call (.Attribute (.Name x p) "pop" apos) [] [] cpos) (mPop i) := by
  refine ⟨fun W => (pe_bm0 (T := "list") F.plainAttrs_list F.slot_list_pop F.type_list_pop mt_pop (pe_var (i := i) hN hv hd hcd) hbase hline).imp fun σ H Q ⟨ρ, z, ρ', R, h, k⟩ => ?_⟩
  unfold mPop at h
  split at h
  · rename_i ds e0
    split at h
    · rename_i d e1
      cases h
      obtain ⟨a, xs, ev, w, h1, h2⟩ := R.at_ i _ e0
      obtain ⟨v, hv1, hv2⟩ := h2.get e1
      have hm : Mut (H a) := by rw [h1]; trivial
      refine ⟨_, ev, .inl ⟨rfl, xs, .inl (.inl h1)⟩, a, xs, v, rfl, rfl, h1, by rw [h2.length]; exact hv1, k _ _ (R.own_set e0 ev h2.dropLast hm) (hv2.grow (.but hm)) (.but hm)⟩
    · cases h
  · cases h

def tupKey (d : PyData) : Option NestedKey := match toKey d with
  | some (.tup ks) => if (NestedKey.tup ks).depth ≤ 8 then some (.tup ks) else none
  | _ => none
theorem tupKey_inv {d : PyData} {k : NestedKey} (h : tupKey d = some k) : ∃ ks, k = .tup ks ∧ d = k.data ∧ k.depth ≤ 8 := by
  unfold tupKey at h
  split at h
  · rename_i ks e
    split at h
    · rename_i hz
      cases h
      exact ⟨ks, rfl, toKey_data e, hz⟩
    · cases h
  · cases h
theorem tupKey_ref {Γ : Wd} {H : Hp} {v : V} {d : PyData} {k : NestedKey} (h : tupKey d = some k) (hv : Df Γ H v d) : ∃ t, v = .ref t ∧ Df Γ H (.ref t) k.data ∧ k.depth ≤ 8 ∧ d = k.data := by
  obtain ⟨ks, rfl, rfl, hz⟩ := tupKey_inv h
  simp only [NestedKey.data] at hv
  obtain ⟨t, xs, rfl, h1, h2⟩ := hv.tup_inv
  exact ⟨t, rfl, by simp only [NestedKey.data]; exact .tup h1 h2, hz, rfl⟩
def tgPut (i : Nat) (fi : M PyData) (d : PyData) (ρ : Env) : Option Env := if isDic i ρ = true then (match fi ρ with
    | some (kd, ρ1) => (match ρ1[i]? with
      | some (.dic kvs) => (match tupKey kd with
        | some _ => if kvs.length ≤ 100000 then some (ρ1.set i (.dic (storeE kvs kd d))) else none
        | none => none)
      | _ => none)
    | none => none) else none
def rPut (Γ : Wd) : V → V → V → Hp → (Hp → Prop) → Prop := fun o y v H Q => ∃ D xs kvs t k, o = .ref D ∧ y = .ref t ∧ H D = some (dO Γ D xs) ∧ DfE Γ H xs kvs ∧ xs.length < sizeLine ∧ Df Γ H (.ref t) k.data ∧ k.depth ≤ 8 ∧ ∀ r, RelV v r → Q (upd H D (dO Γ D (storedH xs k t r)))
theorem set_dO (hu : X.A.units + 9 < cLine) : PSet X (rPut (wdX X)) := by
  intro pins s σ H o i v ov iv u Q I ro ri rv h
  obtain ⟨D, xs, kvs, t, k, rfl, rfl, hD, he, hz, hk, hdp, q⟩ := h
  cases ro
  cases ri
  exact dO_setItem (v := v) I hu hD he hz hk hdp fun s' I' => ⟨_, I', q u rv⟩
theorem dg_put (hu : X.A.units + 9 < cLine) (i : Nat) {x : Str} {p : Pos} {ie : Expr} {fi : M PyData} (hi : DE X ie fi)
    (hN : X.N[i]? = some x := by rfl) (hv : Vis X.env.scope x := by first | exact Or.inl rfl | exact Or.inr (Or.inl rfl) | exact Or.inr (Or.inr rfl)) (hd : (x == ("__debug__" : Str)) = false := by decide)
    (hcd : (x == ("__classdict__" : Str)) = false := by decide)
    (ha : ∀ v, assign (.Subscript (.Name x p) ie pos) X.env v = (do
      let ov ← holding [v] (eval (.Name x p) X.env)
      let iv ← holding [v, ov] (eval ie X.env)
      standAt pos
      holding [v, ov, iv] (setItem ov iv v)
      release [v, ov, iv] []) := by intro _; rfl) : DG X (.Subscript (.Name x p) ie pos) [] (tgPut i fi) := by
  refine ⟨fun W => (pg_sub (pe_var (i := i) hN hv hd hcd) (hi.pe W) (set_dO hu) ha).imp fun v σ H Q ⟨d, ρ, ρ', R, hdf, e, q⟩ => ?_⟩
  unfold tgPut at e
  split at e
  · rename_i hD
    obtain ⟨kvs0, e0⟩ := isDic_inv hD
    obtain ⟨a, xs0, ev, w, h1, h2⟩ := R.at_ i _ e0
    split at e
    · rename_i kd ρ1 e1
      split at e
      · rename_i kvs e2
        split at e
        · rename_i k ek
          split at e
          · rename_i hz
            cases e
            refine ⟨_, ev, ρ, kd, ρ1, R, e1, fun u H2 R2 D2 g2 => ?_⟩
            obtain ⟨b, xs, eb, w2, h3, h4⟩ := R2.at_ i _ e2
            rw [ev] at eb; cases eb
            obtain ⟨t, rfl, hk, hdp, rfl⟩ := tupKey_ref ek D2
            have hm : Mut (H2 a) := by rw [h3]; trivial
            refine ⟨a, xs, kvs, t, k, rfl, rfl, h3, h4, by rw [h4.length, sizeLine_eq]; omega, hk, hdp, fun r rr => ?_⟩
            exact q σ _ (R2.dic_put e2 ev (h4.store hk rr (hdf.grow g2)) hm) (g2.trans (.but hm)) ⟨rfl, fun _ _ => rfl⟩
          · cases e
        · cases e
      · cases e
    · cases e
  · cases e
def mPopK (i : Nat) (f : M PyData) : M PyData := fun ρ => if isDic i ρ = true then (match f ρ with
    | some (kd, ρ1) => (match ρ1[i]? with
      | some (.dic kvs) => (match tupKey kd, getE kvs kd with
        | some _, some d => some (d, ρ1.set i (.dic (popE kvs kd)))
        | _, _ => none)
      | _ => none)
    | none => none) else none
theorem de_popK (hu : X.A.units + 9 < cLine) (i : Nat) {x : Str} {p apos cpos : Pos} {e : Expr} {f : M PyData} (he : DE X e f) (hN : X.N[i]? = some x := by rfl) (hv : Vis X.env.scope x := by first | exact Or.inl rfl | exact Or.inr (Or.inl rfl) | exact Or.inr (Or.inr rfl)) (hd : (x == ("__debug__" : Str)) = false := by decide)
    (hcd : (x == ("__classdict__" : Str)) = false := by decide) (hbase : attributeBase (.Name x p) "pop" X.env (eval (.Name x p) X.env) = eval (.Name x p) X.env := by rfl)
    (hfew : ((backTo cpos (starEach (e :: []) X.env)).all (fun x => !x.1) && (backToKw cpos (keywordEach [] X.env)).all (fun x => x.1.isSome)
      && decide ((e :: []).length + ([] : List Keyword).length + (if ([] : List Keyword).isEmpty then 0 else 1) < 30)) = true := by rfl)
    (hline : (apos.endLine == cpos.line) = true := by rfl) (hs : starEach (e :: []) X.env = (false, eval e X.env) :: starEach [] X.env := by rfl) (hplain : (backTo cpos (starEach [] X.env)).any (·.1) = false := by rfl) :
    DE X (.Call (.Attribute (.Name x p) "pop" apos) [e] [] cpos) (mPopK i f) := by
  refine ⟨fun W => ⟨fun pins s σ H Q I ⟨ρ, z, ρ', R, h, k⟩ => ?_⟩⟩
  unfold mPopK at h
  split at h
  · rename_i hD
    obtain ⟨kvs0, e0⟩ := isDic_inv hD
    obtain ⟨a, xs0, ev, w, h1, h2⟩ := R.at_ i _ e0
    split at h
    · rename_i kd ρ1 e1
      split at h
      · rename_i kvs e2
        split at h
        · rename_i nk d ek eg
          cases h
          have pa : PA X [e] (tCons (rdE (wdX X) W f) tNil) := pa_cons (he.pe W) pa_nil hs
          refine wpAny_Call_method_late hbase hfew hline rfl (thn ((pe_var (i := i) (pos := p) hN hv hd hcd).run pins s σ H (fun v' H' => v' = .ref a ∧ H' = H) I ⟨_, ev, rfl, rfl⟩) fun u0 s1 ⟨y, H1, I1, r1, ey, eH⟩ => ?_)
          subst ey
          subst eH
          cases r1
          obtain ⟨o, es, ep, ho, hx, hdt, _⟩ := dict_raw I1 (.inl h1)
          refine ⟨"dict", "dict.pop", F.plainAttrs_dict, F.slot_dict_pop, F.type_dict_pop, ⟨o, ho, hx.1⟩, fun b eb => by cases eb; exact ⟨o, ho, hx.2.1⟩, ?_⟩
          have hA := pa.run cpos pins s1 σ _ (fun vs H2 => ∃ v, vs = [v] ∧ RepS (wdX X) W σ H2 ρ1 ∧ Df (wdX X) H2 v kd ∧ Grow H1 H2) I1 ⟨ρ, kd, ρ1, R, e1, fun v H2 R2 D2 g2 => ⟨v, rfl, R2, D2, g2⟩⟩
          rw [hs] at hA ⊢
          refine Calls.callWith_builtin (by show (false || (backTo cpos (starEach [] X.env)).any (·.1)) = false; rw [hplain] <;> rfl) (Calls.evalArgs_plain ?_)
          refine thn hA fun us s2 ⟨vs, H2, I2, r2, v, evs, R2, D2, g2⟩ => ?_
          subst evs
          obtain ⟨u1, rfl, ru⟩ := r2.one
          obtain ⟨b, xs, eb, w2, h3, h4⟩ := R2.at_ i _ e2
          rw [ev] at eb; cases eb
          obtain ⟨t, rfl, hk, hdp, rfl⟩ := tupKey_ref ek D2
          cases ru
          have hm : Mut (H2 a) := by rw [h3]; trivial
          exact dO_pop I2 hu h3 h4 hk hdp eg fun v hv => k v _ (R2.dic_put e2 ev (h4.pop nk) hm) (hv.grow (.but hm)) (g2.trans (.but hm))
        · cases h
      · cases h
    · cases h
  · cases h
end
end Dn
namespace Dn
open PySem PySem.Spec PyProof.Rows L2

section
variable {X : Cx}
/-- {k: v for target in iter if ..}, keys tuples: D the new dict -/
def tDx (Γ : Wd) (wi : TI) (g : TG) (tt : TT) (tk tv : TE) (vs : List Nat) : TE := fun σ H Q => wi σ H fun J H1 => ∀ D, H1 D = none → ∃ W : Nat → Nat → Hp → Prop, (∃ m, W 0 m (upd H1 D (dO Γ D []))) ∧ ∀ i m H, W i m H →
  (J.stop i H ∧ Q (.ref D) H) ∨ (J.go i H ∧ ∃ Nx : Hp → Prop, (∀ H', Nx H' → ∃ m', m' < m ∧ W (i + 1) m' H') ∧ ∀ x H', J.yld i H x H' → g x (wipe σ vs) H' fun σ2 H2 => wipe σ2 vs = wipe σ vs ∧ tt σ2 H2 fun b H3 =>
    if b = true then tk σ2 H3 fun y H4 => tv σ2 H4 fun z H5 => ∃ xs kvs t k, y = .ref t ∧ H5 D = some (dO Γ D xs) ∧ DfE Γ H5 xs kvs ∧ xs.length < sizeLine ∧ Df Γ H5 (.ref t) k.data ∧ k.depth ≤ 8 ∧ ∀ r, RelV z r → Nx (upd H5 D (dO Γ D (storedH xs k t r))) else Nx H3)
theorem dx_core {pins : List (Addr × Obj)} {s : Shared} {σ : Sg} {H : Hp} {Q : VK} {kx vx tg iter : Expr} {ifs : List Expr} {scope : Scope} {own : List (Str × Nat)} {pos pos' : Pos} {wi : TI} {g : TG} {tt : TT} {tk tv : TE} {use : Option (Value → Sem Unit)} {Qf : Value → Shared → Prop}
    (hu : X.A.units + 9 < cLine) (hc : X.calm = true) (hN : X.N.Nodup) (I : Inv X pins σ H s) (hi : PI X tg iter wi) (ok : BlkOk X.N X.env.scope scope own)
    (hg : ∀ (s : Shared) (H : Hp) (C : Addr) (cl : List (Str × Addr)) (fp : List Addr), PG (X.blk s H scope (compEnvC scope cl C X.env) fp) tg g) (ht : ∀ (s : Shared) (H : Hp) (C : Addr) (cl : List (Str × Addr)) (fp : List Addr), PTs (X.blk s H scope (compEnvC scope cl C X.env) fp) ifs tt)
    (hk : ∀ (s : Shared) (H : Hp) (C : Addr) (cl : List (Str × Addr)) (fp : List Addr), PE (X.blk s H scope (compEnvC scope cl C X.env) fp) kx tk)
    (he : ∀ (s : Shared) (H : Hp) (C : Addr) (cl : List (Str × Addr)) (fp : List Addr), PE (X.blk s H scope (compEnvC scope cl C X.env) fp) vx tv) (hs : ∀ x, foldedSetIterable iter X.env x = pure x)
    (h : tDx (wdX X) wi g tt tk tv (own.map (·.2)) σ H Q)
    (hEnd : ∀ D C s' m H', Inv X pins σ H' s' → Q (.ref D) H' → s'.heap.Ns C m → FpOk X pins H' C → compPost (model X.prog X.w) X.A X.xe use Qf (.ref D) C (.ok .next) s') :
    wpAny (model X.prog X.w) X.A (comprehension (.DictComp kx vx [⟨tg, iter, ifs, 0⟩] scope pos) scope X.env pos' newDict false (eval iter X.env) use) Qf X.xe s := by
  have hFr : ∀ y ∈ scope.names, y.2 = .free → ∃ c, X.env.cells.lookup y.1 = some c := fun y hy e => by
    rcases ok.free y hy e with k | k
    · exact I.ok.has _ (.inl k)
    · exact I.ok.has _ (.inr k)
  refine wpAny_comprehension_free (use := use) rfl hs (closure_ok hFr) ok.kind (fun y hy e => by rw [ok.uniq y hy, e])
    (thn (hi.run pins s σ H _ I h) fun xv sa hx => thn hx fun itv sb0 h2 => ?_)
  obtain ⟨it, fp, tn, J, Ha, e, Ia, Tn, ta, fa, q⟩ := h2
  subst e
  refine wpAny_newObj_type (newEnv_comp ?_)
  generalize hD : sb0.heap.objs.size = D
  have hDn : Ha D = none := Ia.hok.fresh (Nat.le_of_eq hD)
  obtain ⟨Wf, ⟨mz, wz⟩, turn⟩ := q D hDn
  generalize hsc : ({ sb0 with heap := sb0.heap.push { cls := .type "dict", data := .dict #[] } } : Shared) = sc
  have Ib : Inv X pins σ (upd Ha D (dO (wdX X) D [])) sc := by
    rw [← hsc]
    refine Ia.laid (t' := sb0.toks) (fun b o e => Heap.get?_push_of_some _ e) (Nat.le_of_eq hD) ?_
    rw [← hD]
    exact dO_empty sb0.heap Ia.big
  have hsc2 : sc.heap = sb0.heap.push { cls := .type "dict", data := .dict #[] } := by rw [← hsc]
  have small : ∀ b ∈ fp, b < sb0.heap.objs.size := fun b hb => by
    obtain ⟨o, e, _⟩ := Tn.obj _ _ ta b hb
    exact Heap.lt_size e
  have fb : ∀ b ∈ fp, FpOk X pins (upd Ha D (dO (wdX X) D [])) b ∧ b < sc.heap.objs.size := fun b hb => by
    have hlt := small b hb
    refine ⟨⟨?_, (fa b hb).2⟩, by rw [hsc2, Heap.size_push]; exact Nat.lt_succ_of_lt hlt⟩
    rw [upd_ne (by rw [← hD]; exact Nat.ne_of_lt hlt)]
    exact (fa b hb).1
  have tb : tn 0 sc.heap := Tn.keep _ _ _ ta fun b _ o e => by rw [hsc2]; exact Heap.get?_push_of_some _ e
  have Ic := block_start Ib ok hN fb
  have pgx := hg sc (upd Ha D (dO (wdX X) D [])) sc.heap.objs.size (cellsFrom (sc.heap.objs.size + 1) scope.names (cloFrom X.env.cells scope.names [])) fp
  have ptx := ht sc (upd Ha D (dO (wdX X) D [])) sc.heap.objs.size (cellsFrom (sc.heap.objs.size + 1) scope.names (cloFrom X.env.cells scope.names [])) fp
  have pkx := hk sc (upd Ha D (dO (wdX X) D [])) sc.heap.objs.size (cellsFrom (sc.heap.objs.size + 1) scope.names (cloFrom X.env.cells scope.names [])) fp
  have pex := he sc (upd Ha D (dO (wdX X) D [])) sc.heap.objs.size (cellsFrom (sc.heap.objs.size + 1) scope.names (cloFrom X.env.cells scope.names [])) fp
  show codeAny _ _ (.compStart (.DictComp kx vx [⟨tg, iter, ifs, 0⟩] scope pos) 0 (.ref it) (.ref D) (compEnvC scope (cellsFrom (sc.heap.objs.size + 1) scope.names (cloFrom X.env.cells scope.names [])) sc.heap.objs.size X.env)) (compPost (model X.prog X.w) X.A X.xe use Qf (.ref D) sc.heap.objs.size) { sc with heap := pushCells (sc.heap.push { cls := .type "dict", data := .dict #[] }) scope.names }
  have noFp : ∀ b ∈ fp, (upd Ha D (dO (wdX X) D [])) b = none := fun b hb => (fb b hb).1.1
  generalize hev : compEnvC scope (cellsFrom (sc.heap.objs.size + 1) scope.names (cloFrom X.env.cells scope.names [])) sc.heap.objs.size X.env = ev at Ic pgx ptx pkx pex ⊢
  have cLoc : ev.locals = sc.heap.objs.size := by subst hev; rfl
  generalize hHb : upd Ha D (dO (wdX X) D []) = Hb at Ib Ic pgx ptx pkx pex wz noFp fb
  generalize hsd : ({ sc with heap := pushCells (sc.heap.push { cls := .type "dict", data := .dict #[] }) scope.names } : Shared) = sd at Ic ⊢
  have td : tn 0 sd.heap := Tn.keep _ _ _ tb fun b _ o e => by rw [← hsd]; exact pushCells_keeps _ _ _ _ (Heap.get?_push_of_some _ e)
  have still : ∀ {σ' : Sg} {H' : Hp} {s' : Shared}, Inv (X.blk sc Hb scope ev fp) [] σ' H' s' → (∀ b ∈ fp, H' b = none) → ∀ b ∈ fp, FpOk (X.blk sc Hb scope ev fp) [] H' b := fun {σ' H' s'} I' hn b hb =>
    ⟨hn b hb, (I'.ok.exf b hb).1, I'.ok.exfs b hb, .inl hb, fun x c e => (I'.ok.exf b hb).2 x c e, fun p hp => absurd (show p ∈ ([] : List (Addr × Obj)) ++ [] from hp) (by simp)⟩
  have looped : codeAny (model X.prog X.w) X.A (.compLoop (.DictComp kx vx [⟨tg, iter, ifs, 0⟩] scope pos) 0 (.ref it) (.ref D) ev) (compPost (model X.prog X.w) X.A X.xe use Qf (.ref D) sc.heap.objs.size) sd := by
    refine compLoop_anyD (fun n s' => ∃ i H', Inv (X.blk sc Hb scope ev fp) [] (wipe σ (own.map (·.2))) H' s' ∧ tn i s'.heap ∧ (∀ b ∈ fp, H' b = none) ∧ Wf i n H') ?_ mz ⟨0, Hb, Ic, td, noFp, wz⟩
    rintro n se ⟨i, Hc, Id, te5, na, wa⟩
    rcases turn i n Hc wa with ⟨stop, qq⟩ | ⟨go, Nx, hNx, step⟩
    · have td := Tn.done (X.blk sc Hb scope ev fp) rfl rfl rfl hc i [] se _ Hc (fun _ _ => False) Id (still Id na) te5 stop
      refine thnF td fun r sf ⟨hr, Ie⟩ => ?_
      subst hr
      have If : Inv X pins σ Hc sf := Ib.call' (ch := fp) Ie.os Ie.base Ie.hok Ie.bare fun b hb => ⟨(fb b hb).1.2.2.2.1, (fb b hb).1.2.1, (fb b hb).1.2.2.2.2.1, (fb b hb).1.2.2.2.2.2⟩
      have nC : Hc sc.heap.objs.size = none := by
        have z : Hc ev.locals = none := Ie.free
        rw [cLoc] at z
        exact z
      obtain ⟨m, hn, _⟩ := Ie.loc
      have hn : sf.heap.Ns ev.locals m := hn
      rw [cLoc] at hn
      exact hEnd D sc.heap.objs.size sf m Hc If qq hn (Ib.fpOk (Nat.le_refl _) nC)
    · have ti := Tn.item (X.blk sc Hb scope ev fp) rfl rfl rfl hc i [] se _ Hc (fun _ _ => False) Id (still Id na) te5 go
      refine thnF ti fun r sf ⟨u, hr, h6⟩ => ?_
      subst hr
      refine thnF h6 fun _ sg ⟨x, Hd, If, r7, y7, tg7, nb⟩ => ?_
      have If2 := If.pinned (still If nb) (Tn.obj _ _ tg7)
      refine thnF (pgx.run _ sg _ Hd x u _ If2 r7 (step x Hd y7)) fun _ sh ⟨σ8, He, Ig, hwipe, qh⟩ => ?_
      refine thnF (ptx.run _ sh σ8 He _ Ig qh) fun b sj ⟨Hf, Ih, qj⟩ => ?_
      have turned : ∀ {s' : Shared} {H' : Hp}, Inv (X.blk sc Hb scope ev fp) ([] ++ pinsAt fp sg.heap) σ8 H' s' → Nx H' → ∃ m, m < n ∧ ∃ i H', Inv (X.blk sc Hb scope ev fp) [] (wipe σ (own.map (·.2))) H' s' ∧ tn i s'.heap ∧ (∀ b ∈ fp, H' b = none) ∧ Wf i m H' := fun {s' H'} I' nx => by
        obtain ⟨m', hm, w'⟩ := hNx H' nx
        have pin' : ∀ b ∈ fp, ∀ o, sg.heap.get? b = some o → s'.heap.get? b = some o ∧ H' b = none := fun b hb o e =>
          let z := I'.pin (b, o) (List.mem_append_right _ (List.mem_append_right _ (mem_pinsAt hb e)))
          ⟨z.1, z.2.1⟩
        have hl : (wipe σ (own.map (·.2))).length = σ8.length := by rw [← hwipe, wipe_length]
        refine ⟨m', hm, i + 1, H', (I'.unpinned (pins := [])).weak hl (fun j v e => ?_), Tn.keep _ _ _ tg7 fun b hb o e => (pin' b hb o e).1, fun b hb => ?_, w'⟩
        · rw [← hwipe] at e
          exact (wipe_some e).1
        · obtain ⟨o, e, _⟩ := Tn.obj _ _ tg7 b hb
          exact (pin' b hb o e).2
      cases b with
      | false =>
        simp only [Bool.false_eq_true, if_false] at qj ⊢
        exact turned Ih qj
      | true =>
        simp only [if_true] at qj ⊢
        refine thnF (pkx.run _ sj σ8 Hf _ Ih qj) fun z sk ⟨yk, Hg, Ij, r10, qk⟩ => ?_
        refine thnF (pex.run _ sk σ8 Hg _ Ij qk) fun z2 sl ⟨yv, Hi, Ik, r11, xs, kvs, t, k, ek, hD11, hE11, hz11, hK11, hdp11, nx⟩ => ?_
        subst ek
        cases r10
        exact dO_dictSet (X := X.blk sc Hb scope ev fp) (v := yv) Ik hu hD11 hE11 hz11 hK11 hdp11 fun sm Il => turned Il (nx z2 r11)
  exact codeAny_compStart_dict looped (Tn.self X.A 0 _ _ _ td looped)
def dcLoop (vs : List Nat) (gt : PyData → Env → Option Env) (tt : M Bool) (fk fv : M PyData) : List PyData → List (PyData × PyData) → M (List (PyData × PyData))
  | [], kvs, ρ => some (kvs, ρ)
  | d :: ds, kvs, ρ => (match gt d ρ with
    | none => none
    | some ρ1 => (match tt ρ1 with
      | none => none
      | some (false, ρ2) => (match wipeE vs ρ2 with
        | none => none
        | some ρ3 => dcLoop vs gt tt fk fv ds kvs ρ3)
      | some (true, ρ2) => (match fk ρ2 with
        | none => none
        | some (kd, ρ3) => (match fv ρ3 with
          | none => none
          | some (y, ρ4) => (match tupKey kd with
            | none => none
            | some _ => if kvs.length ≤ 100000 then (match wipeE vs ρ4 with
              | none => none
              | some ρ5 => dcLoop vs gt tt fk fv ds (storeE kvs kd y) ρ5) else none)))))
def mDC (vs : List Nat) (fi : M (List PyData)) (gt : PyData → Env → Option Env) (tt : M Bool) (fk fv : M PyData) : M Sl := fun ρ => match fi ρ with
  | none => none
  | some (ds, ρ1) => (match wipeE vs ρ1 with
    | none => none
    | some ρ2 => (match dcLoop vs gt tt fk fv ds [] ρ2 with
      | none => none
      | some (kvs, ρ3) => (match restE ρ1 vs ρ3 with
        | none => none
        | some ρ4 => some (.dic kvs, ρ4))))
theorem dx_imp {Γ : Wd} {W : Wt} {fi : M (List PyData)} {gt : PyData → Env → Option Env} {tt : M Bool} {fk fv : M PyData} {ts vs : List Nat} (hts : ∀ i ∈ ts, i ∈ vs) (σ : Sg) (H : Hp) (Q : VK) (h : rdS Γ W (mDC vs fi gt tt fk fv) σ H Q) :
    tDx Γ (xI Γ fi) (xG Γ ts gt) (xT Γ tt) (xE Γ fk) (xE Γ fv) vs σ H Q := by
  obtain ⟨ρ, s, ρ', R, e, k⟩ := h
  unfold mDC at e
  cases e1 : fi ρ with
  | none => simp only [e1] at e; cases e
  | some p =>
  obtain ⟨ds, ρ1⟩ := p
  simp only [e1] at e
  cases e2 : wipeE vs ρ1 with
  | none => simp only [e2] at e; cases e
  | some ρ2 =>
  simp only [e2] at e
  cases e3 : dcLoop vs gt tt fk fv ds [] ρ2 with
  | none => simp only [e3] at e; cases e
  | some p =>
  obtain ⟨kve, ρ3⟩ := p
  simp only [e3] at e
  cases e4 : restE ρ1 vs ρ3 with
  | none => simp only [e4] at e; cases e
  | some ρ4 =>
  simp only [e4] at e
  cases e
  refine ⟨W, ρ, ds, ρ1, R, e1, fun J H1 R1 g1 wk D hD => ?_⟩
  have hW := R1.kp_none hD
  have gN : Grow H1 (upd H1 D (dO Γ D [])) := .new hD
  have R2 : RepS Γ W σ (upd H1 D (dO Γ D [])) ρ1 := R1.same (Same.new hD)
  have ap : Ap ρ1 σ D := R1.ap hD
  let Inv' : Nat → Hp → Prop := fun i H => i ≤ ds.length ∧ Grow H1 H ∧ ∃ ρi xs kvs, RepS Γ W (wipe σ vs) H ρi ∧ H D = some (dO Γ D xs) ∧ DfE Γ H xs kvs ∧ Ap ρi (wipe σ vs) D ∧ dcLoop vs gt tt fk fv (ds.drop i) kvs ρi = some (kve, ρ3)
  refine ⟨fun i m H => m = ds.length - i ∧ Inv' i H, ⟨ds.length, by simp, Nat.zero_le _, gN, ρ2, [], [], R2.wipe e2, upd_same, .nil, ap.wipe e2, by simpa using e3⟩, ?_⟩
  rintro i m H ⟨rfl, hi, gA, ρi, xs, kvs, Ri, hDi, hai, api, ei⟩
  rcases Nat.lt_or_ge i ds.length with hlt | hge
  · obtain ⟨go, yl⟩ := (wk H gA i).1 hlt
    have ed : ds.drop i = ds[i] :: ds.drop (i + 1) := List.drop_eq_getElem_cons hlt
    rw [ed, dcLoop] at ei
    refine .inr ⟨go, Inv' (i + 1), fun H' h => ⟨_, by omega, rfl, h⟩, fun x H' y => ?_⟩
    obtain ⟨sm, d, hd, df⟩ := yl x H' y
    rw [List.getElem?_eq_getElem hlt] at hd
    cases hd
    have hD' : H' D = some (dO Γ D xs) := sm _ _ hDi
    have R1' := (Ri.same sm).wide hD' api hW
    cases e3 : gt ds[i] ρi with
    | none => simp only [e3] at ei; cases ei
    | some ρ1' =>
      simp only [e3] at ei
      refine ⟨W.add D (dO Γ D xs), _, ρi, ρ1', R1', df, e3, fun σ2 H2 R2' g2 f2 => ⟨f2.wipe hts, ?_⟩⟩
      have wq := f2.wipe hts
      cases e4' : tt ρ1' with
      | none => simp only [e4'] at ei; cases ei
      | some p =>
        obtain ⟨b, ρ2'⟩ := p
        refine ⟨W.add D (dO Γ D xs), ρ1', b, ρ2', R2', e4', fun H3 R3 g3 => ?_⟩
        have g13 : Grow H H3 := (Grow.same sm).trans (g2.trans g3)
        cases b with
        | false =>
          simp only [e4'] at ei
          refine iteF ?_
          cases e5 : wipeE vs ρ2' with
          | none => simp only [e5] at ei; cases ei
          | some ρ3' =>
            simp only [e5] at ei
            obtain ⟨R4, hD4, ap4⟩ := R3.narrow hW
            refine ⟨hlt, gA.trans g13, ρ3', xs, kvs, ?_, hD4, hai.grow g13, ?_, ei⟩
            · rw [← wq]; exact R4.wipe e5
            · rw [← wq]; exact ap4.wipe e5
        | true =>
          simp only [e4'] at ei
          refine iteT ?_
          cases e5 : fk ρ2' with
          | none => simp only [e5] at ei; cases ei
          | some p =>
          obtain ⟨kd, ρ3'⟩ := p
          simp only [e5] at ei
          cases e6 : fv ρ3' with
          | none => simp only [e6] at ei; cases ei
          | some p =>
          obtain ⟨yd, ρ4'⟩ := p
          simp only [e6] at ei
          cases e7 : tupKey kd with
          | none => simp only [e7] at ei; cases ei
          | some nk =>
          simp only [e7] at ei
          by_cases hz : kvs.length ≤ 100000
          · rw [if_pos hz] at ei
            cases e8 : wipeE vs ρ4' with
            | none => simp only [e8] at ei; cases ei
            | some ρ5' =>
            simp only [e8] at ei
            refine ⟨W.add D (dO Γ D xs), ρ2', kd, ρ3', R3, e5, fun kv H4 R4 D4 g4 => ⟨W.add D (dO Γ D xs), ρ3', yd, ρ4', R4, e6, fun yv H5 R5 D5 g5 => ?_⟩⟩
            obtain ⟨R6, hD6, ap6⟩ := R5.narrow hW
            obtain ⟨t, rfl, hk, hdp, rfl⟩ := tupKey_ref e7 (D4.grow g5)
            have g15 : Grow H H5 := g13.trans (g4.trans g5)
            have hm : Mut (H5 D) := by rw [hD6]; trivial
            have hl := hai.length
            refine ⟨xs, kvs, t, nk, rfl, hD6, hai.grow g15, by rw [hl, sizeLine_eq]; omega, hk, hdp, fun r rr => ⟨hlt, (gA.trans g15).trans (.but hm), ρ5', storedH xs nk t r, storeE kvs nk.data yd, ?_, upd_same, ((hai.grow g15).store hk rr D5).grow (.but hm), ?_, ei⟩⟩
            · rw [← wq]; exact (R6.off hW hm ap6).wipe e8
            · rw [← wq]; exact ap6.wipe e8
          · rw [if_neg hz] at ei; cases ei
  · have ee : ds.drop i = [] := List.drop_eq_nil_of_le hge
    rw [ee, dcLoop] at ei
    cases ei
    have R6 := R1.rest gA Ri e4
    exact .inl ⟨(wk H gA i).2 hge, k _ H R6 ⟨D, xs, rfl, hW, hDi, hai, api.rest (by rw [Ri.len, wipe_length]) e4⟩ (g1.trans gA)⟩
section
variable {kx vx tg iter : Expr} {ifs : List Expr} {scope : Scope} {pos : Pos} {fi : M (List PyData)} {gt : PyData → Env → Option Env} {tt : M Bool} {fk fv fe : M PyData} {ts vs : List Nat}
theorem se_dc (hu : X.A.units + 9 < cLine) (hc : X.calm = true) (hN : X.N.Nodup) (hi : DI X tg iter fi) (own : List (Str × Nat)) (ok : blkC X.N X.env.scope scope own = true) (hg : AllB X scope fun Y => DG Y tg ts gt) (ht : AllB X scope fun Y => DTs Y ifs tt) (hk : AllB X scope fun Y => DE Y kx fk) (he : AllB X scope fun Y => DE Y vx fv)
    (hv : own.map (·.2) = vs := by rfl) (hts : ∀ i ∈ ts, i ∈ vs := by decide) (hs : ∀ x, foldedSetIterable iter X.env x = pure x := by intro _; rfl) : SE X (.DictComp kx vx [⟨tg, iter, ifs, 0⟩] scope pos) (mDC vs fi gt tt fk fv) := by
  subst hv
  refine ⟨fun W => ⟨fun pins s σ H Q I h => ?_⟩⟩
  rw [arm_eval_DictComp]
  refine dx_core (wi := xI (wdX X) fi) (g := xG (wdX X) ts gt) (tt := xT (wdX X) tt) (tk := xE (wdX X) fk) (tv := xE (wdX X) fv) hu hc hN I hi.x (blkOk_by ok) (fun s H C cl fp => (hg s H C cl fp).x) (fun s H C cl fp => (ht s H C cl fp).x) (fun s H C cl fp => (hk s H C cl fp).x) (fun s H C cl fp => (he s H C cl fp).x) hs (dx_imp hts σ H Q h) fun D C s' m H' I' q hn f => ⟨m, hn, fun h'' sb => ?_⟩
  obtain ⟨f0, f1, f2, f3, f4, f5⟩ := f
  exact ⟨.ref D, H', I'.turned (t' := s'.toks) (fun b o hb e => (sb.2 b hb).trans e) f0 f1 f3 f4 f5, rfl, q⟩
theorem st_imp {i : Nat} {fs : M Sl} {W : Wt} {t : TE} (h : ∀ σ H Q, rdS (wdX X) W fs σ H Q → t σ H Q) (D : Ends) (σ : Sg) (H : Hp) (q : rdSt (wdX X) W (sSet i fs) D σ H) : tAsg t (gName i) D σ H := by
  obtain ⟨ρ, o, R, e, q⟩ := q
  refine h σ H _ ?_
  unfold sSet at e
  split at e
  · rename_i d ρ1 e1
    split at e
    · rename_i ρ2 e2
      cases e
      exact ⟨ρ, d, ρ1, R, e1, fun v H' R' n g' => q _ H' (R'.set n e2) g'⟩
    · cases e
  · cases e
variable {y : Str} {py spos : Pos} {elt : Expr}
/-- y = [..] on one line -/
theorem ds_setLc (i : Nat) (hc : X.calm = true) (hN : X.N.Nodup) (hi : DI X tg iter fi) (own : List (Str × Nat)) (ok : blkC X.N X.env.scope scope own = true) (hg : AllB X scope fun Y => DG Y tg ts gt) (ht : AllB X scope fun Y => DTs Y ifs tt) (he : AllB X scope fun Y => DE Y elt fe)
    (hsw : swapsWith (.ListComp elt [⟨tg, iter, ifs, 0⟩] scope pos) (some (.Name y py)) spos.line X.env = pure true) (hy : X.N[i]? = some y := by rfl) (hyl : X.env.scope.names.lookup y = some .local := by rfl)
    (hv : own.map (·.2) = vs := by rfl) (hts : ∀ i ∈ ts, i ∈ vs := by decide) (hs : ∀ x, foldedSetIterable iter X.env x = pure x := by intro _; rfl) :
    DS X (.Assign [.Name y py] (.ListComp elt [⟨tg, iter, ifs, 0⟩] scope pos) spos) (sSet i (mLst (mLC vs fi gt tt fe))) := by
  subst hv
  exact ⟨fun W => (ps_setLc (wi := xI (wdX X) fi) (g := xG (wdX X) ts gt) (tt := xT (wdX X) tt) (te := xE (wdX X) fe) hc hN hy hyl hsw hi.x (blkOk_by ok) (fun s H C cl fp => (hg s H C cl fp).x) (fun s H C cl fp => (ht s H C cl fp).x) (fun s H C cl fp => (he s H C cl fp).x) hs).imp (st_imp (lc_imp hts))⟩
/-- y = {k: v for ..} on one line -/
theorem ds_setDc (i : Nat) (hu : X.A.units + 9 < cLine) (hc : X.calm = true) (hN : X.N.Nodup) (hi : DI X tg iter fi) (own : List (Str × Nat)) (ok : blkC X.N X.env.scope scope own = true) (hg : AllB X scope fun Y => DG Y tg ts gt) (ht : AllB X scope fun Y => DTs Y ifs tt) (hk : AllB X scope fun Y => DE Y kx fk) (he : AllB X scope fun Y => DE Y vx fv)
    (hsw : swapsWith (.DictComp kx vx [⟨tg, iter, ifs, 0⟩] scope pos) (some (.Name y py)) spos.line X.env = pure true) (hy : X.N[i]? = some y := by rfl) (hyl : X.env.scope.names.lookup y = some .local := by rfl)
    (hv : own.map (·.2) = vs := by rfl) (hts : ∀ i ∈ ts, i ∈ vs := by decide) (hs : ∀ x, foldedSetIterable iter X.env x = pure x := by intro _; rfl) :
    DS X (.Assign [.Name y py] (.DictComp kx vx [⟨tg, iter, ifs, 0⟩] scope pos) spos) (sSet i (mDC vs fi gt tt fk fv)) := by
  subst hv
  refine ⟨fun W => ⟨fun pins s σ H D I h => ?_⟩⟩
  have q0 : tAsg (tDx (wdX X) (xI (wdX X) fi) (xG (wdX X) ts gt) (xT (wdX X) tt) (xE (wdX X) fk) (xE (wdX X) fv) (own.map (·.2))) (gName i) D σ H := st_imp (dx_imp hts) D σ H h
  have q1 : tDx (wdX X) (xI (wdX X) fi) (xG (wdX X) ts gt) (xT (wdX X) tt) (xE (wdX X) fk) (xE (wdX X) fv) (own.map (·.2)) σ H (fun x H1 => gName i x σ H1 D.nx) := q0
  rw [exec_Assign_Name_used _ _ _ _ hsw]
  refine wpAny_bind (wpAny_standAt (wpAny_bind ?_))
  show wpAny _ X.A (do let _ ← comprehension (.DictComp kx vx [⟨tg, iter, ifs, 0⟩] scope pos) scope X.env (firstIterPos [⟨tg, iter, ifs, 0⟩] pos) newDict false (eval iter X.env) (some (assign (.Name y py) X.env))) _ _ s
  refine wpAny_bind (thn (dx_core (Qf := fun _ s' => SP X pins D .next s') hu hc hN I hi.x (blkOk_by ok) (fun s H C cl fp => (hg s H C cl fp).x) (fun s H C cl fp => (ht s H C cl fp).x) (fun s H C cl fp => (hk s H C cl fp).x) (fun s H C cl fp => (he s H C cl fp).x) hs q1 fun L C s' m H' I' q hn f => ?_) fun _ s' hq => wpAny_pure (wpAny_pure hq))
  show wpAny _ _ (assign (.Name y py) X.env (.ref L)) _ _ _
  refine wpAny_assign_Name (store_ok2 (v := V.ref L) I' hN hy (.inl hyl) rfl (fun s2 I2 ⟨a, sb, ha⟩ => ?_) (.inr hyl))
  obtain ⟨f0, f1, f2, f3, f4, f5⟩ := f
  have haC : C ≠ a := by
    rcases ha with z | z
    · rw [z]; exact f1
    · exact fun e => f4 y a z e.symm
  exact ⟨m, hn.sameBut sb haC, fun h3 sb3 => ⟨_, H', I2.turned (t' := s2.toks) (fun b o hb e => (sb3.2 b hb).trans e) f0 f1 f3 f4 f5, q⟩⟩
end

variable {kx vx : Expr} {pos : Pos} {fk fv : M PyData}
def mD0 : M Sl := fun ρ => some (.dic [], ρ)
theorem se_d0 : SE X (.Dict [] [] pos) mD0 := by
  refine ⟨fun W => ⟨fun pins s σ H Q I ⟨ρ, z, ρ', R, e, k⟩ => ?_⟩⟩
  cases e
  have hp := I.hok.fresh (Nat.le_refl s.heap.objs.size)
  refine wpAny_Dict_empty ⟨.ref s.heap.objs.size, _, I.laid (a := s.heap.objs.size) (o := dO (wdX X) s.heap.objs.size []) (t' := s.toks) (fun _ _ q => Heap.get?_push_of_some _ q) (Nat.le_refl _) (dO_empty s.heap I.big), rfl, ?_⟩
  exact k _ _ (R.same (Same.new hp)) ⟨_, [], rfl, R.kp_none hp, upd_same, .nil, R.ap hp⟩ (.new hp)
def mD1 (fk fv : M PyData) : M Sl := fun ρ => match fk ρ with
  | some (kd, ρ1) => (match fv ρ1 with
    | some (d, ρ2) => (match tupKey kd with
      | some _ => some (.dic [(kd, d)], ρ2)
      | none => none)
    | none => none)
  | none => none
theorem se_d1 (hu : X.A.units + 9 < cLine) (hk : DE X kx fk) (hv : DE X vx fv) : SE X (.Dict [some kx] [vx] pos) (mD1 fk fv) := by
  refine ⟨fun W => ⟨fun pins s σ H Q I ⟨ρ, z, ρ', R, e, k⟩ => ?_⟩⟩
  unfold mD1 at e
  split at e
  · rename_i kd ρ1 e1
    split at e
    · rename_i d ρ2 e2
      split at e
      · rename_i nk e3
        cases e
        have hp := I.hok.fresh (Nat.le_refl s.heap.objs.size)
        have I1 := I.laid (a := s.heap.objs.size) (o := dO (wdX X) s.heap.objs.size []) (h' := s.heap.push { cls := .type "dict", data := .dict #[] }) (t' := s.toks) (fun _ _ q => Heap.get?_push_of_some _ q) (Nat.le_refl _) (dO_empty s.heap I.big)
        have hW := R.kp_none hp
        have R1 := (R.same (Same.new (o := dO (wdX X) s.heap.objs.size []) hp)).wide (D := s.heap.objs.size) upd_same (R.ap hp) hW
        rw [arm_eval_Dict, zip_pairTrees [some kx] [vx] X.env pos rfl rfl, dictDisplay_pairs (pairTrees [some kx] [vx] X.env pos) (by rw [pairTrees]; exact fun z => nomatch z) (by simp [pairTrees])]
        refine wpAny_bind (wpAny_standAt (wpAny_bind (wpAny_subDictH (knd := nestedKind X.prog X.w) (Q := fun d s' => wpAny (model X.prog X.w) X.A (pure (Value.ref d)) (EP X pins σ Q) X.xe s') (show X.A.units + 8 < cLine by omega) (by simp [pairTrees]) ?_)))
        refine pairTrees_cons_walk (thn ((hk.pe _).run pins _ σ _ (fun v H2 => RepS (wdX X) _ σ H2 ρ1 ∧ Df (wdX X) H2 v kd ∧ Grow _ H2) I1 ⟨ρ, kd, ρ1, R1, e1, fun v H2 R2 D2 g2 => ⟨R2, D2, g2⟩⟩) fun u1 s2 ⟨v1, H2, I2, r1, R2, D2, g2⟩ => ?_)
        refine thn ((hv.pe _).run pins _ σ _ (fun v H3 => RepS (wdX X) _ σ H3 ρ' ∧ Df (wdX X) H3 v d ∧ Grow _ H3) I2 ⟨ρ1, d, ρ', R2, e2, fun v H2 R2 D2 g2 => ⟨R2, D2, g2⟩⟩) fun u2 s3 ⟨v2, H3, I3, r2, R3, D3, g3⟩ => ?_
        refine pairTrees_nil_walk ?_
        obtain ⟨R4, hD4, ap4⟩ := R3.narrow hW
        obtain ⟨t, rfl, hkd, hdp, rfl⟩ := tupKey_ref e3 (D2.grow g3)
        cases r1
        obtain ⟨dd, hs, _, _⟩ := dO_of (xs := []) (kvs := []) I3 (.inl hD4) .nil
        refine ⟨[(nk, t, u2)], ⟨rfl, rfl, ⟨nested_of I3 _ _ _ hkd rfl, hdp⟩, trivial⟩, dd, fun h' tk dd' sb => wpAny_pure ?_⟩
        have he' : ∃ q, h'.get? s.heap.objs.size = some q := let ⟨q, _, _, hq, _⟩ := dd'; ⟨q, hq⟩
        have hm : Mut (H3 s.heap.objs.size) := by rw [hD4]; trivial
        have I4 := d_write (t' := tk) I3 hm sb he' (dO_new (X := X) (xs := [(nk, t, u2)]) hs (by rw [sizeLine_eq]; simp) dd')
        refine ⟨.ref s.heap.objs.size, _, I4, rfl, k _ _ (R4.off hW hm ap4) ⟨_, [(nk, t, u2)], rfl, hW, upd_same, .cons (hkd.grow (.but hm)) r2 (D3.grow (.but hm)) .nil, ap4⟩ ((Grow.new hp).trans (g2.trans (g3.trans (.but hm))))⟩
      · cases e
    · cases e
  · cases e

def mRngS (f : M (List PyData)) : M Sl := fun ρ => match f ρ with
  | some ([.int i, .int j], ρ') => some (.rng i j, ρ')
  | _ => none
theorem se_rng2 {a b : Expr} {p : Pos} {fr : M (List PyData)} (hg : Gl X "range") (hm : X.mg "range" = none) (ha : DAn X [a, b] fr) (he : starEach [a, b] X.env = (false, eval a X.env) :: starEach [b] X.env := by rfl) (hpl : (backTo pos (starEach [b] X.env)).any (·.1) = false := by rfl) : SE X (.Call (.Name "range" p) [a, b] [] pos) (mRngS fr) := by
  refine ⟨fun W => (pe_callTy cr_range2 hg hm boot_range (ha.pa W) (by decide) (by decide) he hpl).imp fun σ H Q ⟨ρ, z, ρ', R, e, k⟩ => ?_⟩
  unfold mRngS at e
  split at e
  · rename_i i j ρ1 e1
    cases e
    refine ⟨ρ, _, ρ', R, e1, fun vs H1 R1 D1 g1 => ?_⟩
    obtain ⟨v, u, rfl, D3, D4⟩ := D1.two
    exact ⟨i, j, by rw [D3.int_inv, D4.int_inv], fun q hq => k _ _ (R1.same (Same.new hq)) ⟨q, rfl, upd_same⟩ (g1.trans (.new hq))⟩
  · cases e
def mRngV (i : Nat) : M (List PyData) := fun ρ => match ρ[i]? with
  | some (.rng lo hi) => if (-(2 ^ 62) ≤ lo ∧ lo < 2 ^ 62) ∧ -(2 ^ 62) ≤ hi ∧ hi < 2 ^ 62 then some (rngD lo (hi - lo).toNat, ρ) else none
  | _ => none
theorem di_rngv (i : Nat) {x : Str} {tg : Expr} (hN : X.N[i]? = some x := by rfl) (hv : Vis X.env.scope x := by first | exact Or.inl rfl | exact Or.inr (Or.inl rfl) | exact Or.inr (Or.inr rfl)) (hd : (x == ("__debug__" : Str)) = false := by decide)
    (hcd : (x == ("__classdict__" : Str)) = false := by decide) : DI X tg (.Name x pos) (mRngV i) := by
  refine ⟨fun W => ⟨fun pins s σ H R I ⟨ρ, ds, ρ', Rp, e, k⟩ => ?_⟩⟩
  unfold mRngV at e
  split at e
  · rename_i lo hi e0
    split at e
    · rename_i hb
      cases e
      obtain ⟨a, ev, h1⟩ := Rp.at_ i _ e0
      refine thn ((pe_var (i := i) (pos := pos) hN hv hd hcd).run pins s σ H (fun v' H' => v' = .ref a ∧ H' = H) I ⟨_, ev, rfl, rfl⟩) fun u0 s1 ⟨y, H1, I1, r1, ey, eH⟩ => ?_
      subst ey
      subst eH
      cases r1
      obtain ⟨t, u, v, hr⟩ := I1.hok a _ h1
      refine wpAny_pyIter_range (show IsRange s1.heap a lo hi 1 t u v from hr) (small_one hb.1.1 hb.1.2 hb.2.1 hb.2.2) (pi_one (tk := s1.toks) I1 _ (turn_range _ lo (hi - lo).toNat) ?_ (k _ H1 Rp (.refl _) wk_rng))
      have e1 : lo + ((0 : Nat) : Int) * 1 = lo := by simp
      have e2 : (((hi - lo).toNat : Nat) : Int) - ((0 : Nat) : Int) = Builtin.Range.rangeSize lo hi 1 := by rw [rangeSize_one]; split <;> omega
      show IsRangeIter _ _ (lo + ((0 : Nat) : Int) * 1) ((((hi - lo).toNat : Nat) : Int) - ((0 : Nat) : Int)) 1
      rw [e1, e2]
      exact Heap.get?_push_size _ rfl
    · cases e
  · cases e

def apart (v w : V) : Sl → Sl → Prop
  | .own _, .own _ => v ≠ w
  | .own _, .dic _ => v ≠ w
  | .dic _, .own _ => v ≠ w
  | .dic _, .dic _ => v ≠ w
  | _, _ => True
def xS (Γ : Wd) (f : M Sl) : TE := fun σ H Q => ∃ W, rdS Γ W f σ H Q
theorem SE.x {e : Expr} {f : M Sl} (h : SE X e f) : PE X e (xS (wdX X) f) := ⟨fun pins s σ H Q I ⟨W, hq⟩ => (h.pe W).run pins s σ H Q I hq⟩
theorem hold_new {Γ : Wd} {W : Wt} {σ : Sg} {H : Hp} {ρ : Env} {v : V} {s : Sl} (R : RepS Γ W σ H ρ) (n : NewS Γ W σ ρ H v s) : ∃ W2, RepS Γ W2 σ H ρ ∧ ∀ H2 ρ2, RepS Γ W2 σ H2 ρ2 → Grow H H2 → RepS Γ W σ H2 ρ2 ∧ NewS Γ W σ ρ2 H2 v s ∧ ∀ v2 s2, NewS Γ W2 σ ρ2 H2 v2 s2 → NewS Γ W σ ρ2 H2 v2 s2 ∧ apart v v2 s s2 := by
  have pass : ∀ s', (∀ v2 s2, apart v v2 s' s2) → NewS Γ W σ ρ H v s' → (∀ H2 ρ2, Grow H H2 → NewS Γ W σ ρ2 H2 v s') → ∃ W2, RepS Γ W2 σ H ρ ∧ ∀ H2 ρ2, RepS Γ W2 σ H2 ρ2 → Grow H H2 → RepS Γ W σ H2 ρ2 ∧ NewS Γ W σ ρ2 H2 v s' ∧ ∀ v2 s2, NewS Γ W2 σ ρ2 H2 v2 s2 → NewS Γ W σ ρ2 H2 v2 s2 ∧ apart v v2 s' s2 :=
    fun s' ha n' hn => ⟨W, R, fun H2 ρ2 R2 g2 => ⟨R2, hn H2 ρ2 g2, fun v2 s2 n2 => ⟨n2, ha v2 s2⟩⟩⟩
  have add : ∀ (D : Addr) (o : HO), W.kp D = none → ∀ b, (W.add D o).kp b = none → W.kp b = none ∧ b ≠ D := fun D o hW b e => by
    rw [Wt.add_kp hW] at e
    by_cases eb : b = D
    · subst eb; rw [upd_same] at e; cases e
    · rw [upd_ne eb] at e; exact ⟨e, eb⟩
  cases s with
  | un => exact n.elim
  | bor d => exact n.elim
  | dat d => exact pass _ (fun _ _ => trivial) n fun H2 ρ2 g => (show Df Γ H v d from n).grow g
  | rng lo hi => exact pass _ (fun _ _ => trivial) n fun H2 ρ2 g => by obtain ⟨a, e, h⟩ := n; exact ⟨a, e, g.rng _ _ _ h⟩
  | own ds =>
    obtain ⟨a, xs, rfl, w, h1, h2, ap⟩ := n
    refine ⟨W.add a (.lst xs), R.wide h1 ap w, fun H2 ρ2 R2 g2 => ?_⟩
    obtain ⟨R3, hD, ap3⟩ := R2.narrow w
    refine ⟨R3, ⟨a, xs, rfl, w, hD, h2.grow g2, ap3⟩, fun v2 s2 n2 => ?_⟩
    cases s2 with
    | own ds2 => obtain ⟨b, ys, rfl, w2, r⟩ := n2; exact ⟨⟨b, ys, rfl, (add _ _ w b w2).1, r⟩, fun z => (add _ _ w b w2).2 (by cases z; rfl)⟩
    | dic ds2 => obtain ⟨b, ys, rfl, w2, r⟩ := n2; exact ⟨⟨b, ys, rfl, (add _ _ w b w2).1, r⟩, fun z => (add _ _ w b w2).2 (by cases z; rfl)⟩
    | _ => exact ⟨n2, trivial⟩
  | dic ds =>
    obtain ⟨a, xs, rfl, w, h1, h2, ap⟩ := n
    refine ⟨W.add a (dO Γ a xs), R.wide h1 ap w, fun H2 ρ2 R2 g2 => ?_⟩
    obtain ⟨R3, hD, ap3⟩ := R2.narrow w
    refine ⟨R3, ⟨a, xs, rfl, w, hD, h2.grow g2, ap3⟩, fun v2 s2 n2 => ?_⟩
    cases s2 with
    | own ds2 => obtain ⟨b, ys, rfl, w2, r⟩ := n2; exact ⟨⟨b, ys, rfl, (add _ _ w b w2).1, r⟩, fun z => (add _ _ w b w2).2 (by cases z; rfl)⟩
    | dic ds2 => obtain ⟨b, ys, rfl, w2, r⟩ := n2; exact ⟨⟨b, ys, rfl, (add _ _ w b w2).1, r⟩, fun z => (add _ _ w b w2).2 (by cases z; rfl)⟩
    | _ => exact ⟨n2, trivial⟩
theorem NewS.set {Γ : Wd} {W : Wt} {σ : Sg} {H : Hp} {ρ ρ' : Env} {v w : V} {s s2 : Sl} {i : Nat} (n : NewS Γ W σ ρ H w s2) (ha : apart v w s s2) (h : setSl i s ρ = some ρ') (hl : ρ.length = σ.length) : NewS Γ W (σ.set i (some v)) ρ' H w s2 := by
  obtain ⟨rfl, _⟩ := setSl_eq h
  have go : ∀ b, Ap ρ σ b → (mutS (some s) → v ≠ .ref b) → Ap (ρ.set i s) (σ.set i (some v)) b := fun b ap hv j hj e => by
    by_cases hi : i = j
    · subst hi
      by_cases hlt : i < ρ.length
      · rw [List.getElem?_set_self hlt] at hj
        rw [List.getElem?_set_self (by omega)] at e
        cases e
        exact hv hj rfl
      · rw [List.getElem?_eq_none (by simpa using hlt)] at hj; exact hj
    · rw [List.getElem?_set_ne hi] at hj e
      exact ap j hj e
  cases s2 with
  | own ds => obtain ⟨b, xs, rfl, w2, h1, h2, ap⟩ := n; exact ⟨b, xs, rfl, w2, h1, h2, go b ap fun hm => by cases s <;> first | exact hm.elim | exact ha⟩
  | dic ds => obtain ⟨b, xs, rfl, w2, h1, h2, ap⟩ := n; exact ⟨b, xs, rfl, w2, h1, h2, go b ap fun hm => by cases s <;> first | exact hm.elim | exact ha⟩
  | _ => exact n
def sPar (i j : Nat) (fa fb : M Sl) : MS := fun ρ => match fa ρ with
  | none => none
  | some (s1, ρ1) => (match fb ρ1 with
    | none => none
    | some (s2, ρ2) => (match setSl i s1 ρ2 with
      | none => none
      | some ρ3 => (match setSl j s2 ρ3 with
        | none => none
        | some ρ4 => some (.nx ρ4))))
theorem ds_par (i j : Nat) {x y : Str} {a b : Expr} {fa fb : M Sl} {px py pt : Pos} {kt k2 pt2} (hc : X.calm = true) (hN : X.N.Nodup) (ha : SE X a fa) (hb : SE X b fb)
    (hw : swappedStores [.Tuple [.Name x px, .Name y py] kt pt] (.Tuple [a, b] k2 pt2) X.env = pure (some [x, y])) (hi : X.N[i]? = some x := by rfl) (hj : X.N[j]? = some y := by rfl) (hij : i ≠ j := by decide)
    (hx : X.env.scope.names.lookup x = some .local := by rfl) (hy : X.env.scope.names.lookup y = some .local := by rfl)
    (hs : swapsWithSole [.Tuple [.Name x px, .Name y py] kt pt] (.Tuple [a, b] k2 pt2) pos.line X.env = pure false := by rfl) (he1 : starEach [a, b] X.env = (false, eval a X.env) :: starEach [b] X.env := by rfl) (he2 : starEach [b] X.env = (false, eval b X.env) :: starEach [] X.env := by rfl) :
    DS X (.Assign [.Tuple [.Name x px, .Name y py] kt pt] (.Tuple [a, b] k2 pt2) pos) (sPar i j fa fb) := by
  refine ⟨fun W => (ps_par hc hN hi hj hij hx hy (pa_cons ha.x (pa_cons hb.x pa_nil he2) he1) hw hs).imp fun D σ H ⟨ρ, o, R, e, q⟩ => ?_⟩
  unfold sPar at e
  cases e1 : fa ρ with
  | none => simp only [e1] at e; cases e
  | some p =>
  obtain ⟨s1, ρ1⟩ := p
  simp only [e1] at e
  cases e2 : fb ρ1 with
  | none => simp only [e2] at e; cases e
  | some p =>
  obtain ⟨s2, ρ2⟩ := p
  simp only [e2] at e
  cases e3 : setSl i s1 ρ2 with
  | none => simp only [e3] at e; cases e
  | some ρ3 =>
  simp only [e3] at e
  cases e4 : setSl j s2 ρ3 with
  | none => simp only [e4] at e; cases e
  | some ρ4 =>
  simp only [e4] at e
  cases e
  refine ⟨W, ρ, s1, ρ1, R, e1, fun v H1 R1 n1 g1 => ?_⟩
  obtain ⟨W2, R1', hold⟩ := hold_new R1 n1
  refine ⟨W2, ρ1, s2, ρ2, R1', e2, fun w H2 R2 n2 g2 => ⟨v, w, rfl, ?_⟩⟩
  obtain ⟨R3, n3, both⟩ := hold H2 ρ2 R2 g2
  obtain ⟨n4, ap⟩ := both w s2 n2
  exact q _ H2 ((R3.set n3 e3).set (n4.set ap e3 R3.len) e4) (g1.trans g2)
end
end Dn
namespace Dn
open PySem PySem.W PySem.Spec PyProof.Rows L2

def tyN : PyData → String
  | .none => "NoneType"
  | .bool _ => "bool"
  | .int _ => "int"
  | .str _ => "str"
  | .list _ => "list"
  | .tuple _ => "tuple"
  | .dict _ => "dict"
def isB (t T : String) : Bool := t == T || (t == "bool" && T == "int")
def isiD (T : String) : PyData → Option PyData
  | .dict _ => none
  | d => some (.bool (isB (tyN d) T))
section
variable {X : Cx} {H : Hp}
theorem tyX_of {v : V} {d : PyData} (h : Df (wdX X) H v d) (hd : ∀ kvs, d ≠ .dict kvs) : TyX X.K H v (.type (tyN d)) := by
  cases h with
  | non => exact .base .non
  | bl b => exact .base (.bl b)
  | int i => exact .base (.int i)
  | str x => exact .base (.str x)
  | lst h1 h2 => obtain ⟨o, h1⟩ := h1; exact .base (.frz h1)
  | tup h1 h2 =>
    rcases h1 with (h1 | ⟨o, h1⟩) | ⟨o, its, n, h1, hc, _⟩
    · exact .base (.tup h1)
    · exact .fTuple h1
    · exact .kTuple h1 hc
  | dic h1 h2 => exact absurd rfl (hd _)
def KitT (T : String) : Prop := ∀ t ∈ ["NoneType", "bool", "int", "str", "list", "tuple"], kitB t T = some (isB t T)
theorem kit_int : KitT "int" := by unfold KitT; decide +kernel
theorem kit_bool : KitT "bool" := by unfold KitT; decide +kernel
theorem kit_str : KitT "str" := by unfold KitT; decide +kernel
theorem kit_list : KitT "list" := by unfold KitT; decide +kernel
theorem kit_tuple : KitT "tuple" := by unfold KitT; decide +kernel
variable {pos : Pos} {a b : Expr} {fa : M PyData}
theorem tyN_mem {d : PyData} (hd : ∀ kvs, d ≠ .dict kvs) : tyN d ∈ ["NoneType", "bool", "int", "str", "list", "tuple"] := by
  cases d <;> first | exact absurd rfl (hd _) | simp [tyN]
theorem de_isi (T : String) {y : Str} {p q : Pos} (hT : KitT T) (ha : DE X a fa) (hg : Gl X "isinstance") (hm : X.mg "isinstance" = none) (hg2 : Gl X y) (hm2 : X.mg y = none) (hv2 : bootBuiltins y = some (.type T) := by decide +kernel)
    (hn2 : y ≠ "__name__" := by decide) (hd2 : (y == ("__debug__" : Str)) = false := by decide) (he1 : starEach [a, .Name y q] X.env = (false, eval a X.env) :: starEach [.Name y q] X.env := by rfl) (he2 : starEach [.Name y q] X.env = (false, eval (.Name y q) X.env) :: starEach [] X.env := by rfl)
    (hpl : (backTo pos (starEach [.Name y q] X.env)).any (·.1) = false := by rfl) : DE X (.Call (.Name "isinstance" p) [a, .Name y q] [] pos) (m1 (isiD T) fa) := by
  refine ⟨fun W => (pe_callB call_isi hg hm (by decide +kernel) (pa_cons (ha.pe W) (pa_cons (pe_bltn (v := .ty T) hg2 hm2 hv2 rfl hn2 hd2) pa_nil he2) he1) (by decide) (by decide) he1 hpl).imp fun σ H Q ⟨ρ, z, ρ', R, e, k⟩ => ?_⟩
  obtain ⟨d, e1, e2⟩ := m1_inv e
  refine ⟨ρ, d, ρ', R, e1, fun v H1 R1 D1 g1 => ?_⟩
  have hd : ∀ kvs, d ≠ .dict kvs := fun kvs z => by subst z; cases e2
  have e3 : z = .bool (isB (tyN d) T) := by cases d <;> first | (cases e2; rfl) | exact absurd rfl (hd _)
  subst e3
  exact ⟨v, .ty T, .type (tyN d), .type T, _, rfl, .ty T, tyX_of D1 hd, kit_ty (hT _ (tyN_mem hd)), k _ H1 R1 (.bl _) g1⟩
end

def insB {α : Type} (le : α → α → Bool) (x : α) : List α → List α
  | [] => [x]
  | y :: ys => if le x y = true then x :: y :: ys else y :: insB le x ys
def isortB {α : Type} (le : α → α → Bool) : List α → List α
  | [] => []
  | x :: xs => insB le x (isortB le xs)
theorem insB_perm {α : Type} (le : α → α → Bool) (x : α) : ∀ l : List α, (insB le x l).Perm (x :: l)
  | [] => .refl _
  | y :: ys => by
    unfold insB
    split
    · exact .refl _
    · exact ((insB_perm le x ys).cons y).trans (.swap x y ys)
theorem isortB_perm {α : Type} (le : α → α → Bool) : ∀ l : List α, (isortB le l).Perm l
  | [] => .refl _
  | x :: xs => (insB_perm le x _).trans ((isortB_perm le xs).cons x)
theorem insB_pw {α : Type} {le : α → α → Bool} (tr : ∀ a b c, le a b = true → le b c = true → le a c = true) (to : ∀ a b, le a b = true ∨ le b a = true) (x : α) : ∀ l : List α, l.Pairwise (fun a b => le a b = true) → (insB le x l).Pairwise (fun a b => le a b = true)
  | [], _ => by simp [insB]
  | y :: ys, h => by
    unfold insB
    obtain ⟨h1, h2⟩ := List.pairwise_cons.mp h
    split
    · rename_i hxy
      refine List.pairwise_cons.mpr ⟨fun z hz => ?_, h⟩
      rcases List.mem_cons.mp hz with rfl | hz
      · exact hxy
      · exact tr _ _ _ hxy (h1 z hz)
    · rename_i hxy
      refine List.pairwise_cons.mpr ⟨fun z hz => ?_, insB_pw tr to x ys h2⟩
      rcases List.mem_cons.mp ((insB_perm le x ys).mem_iff.mp hz) with rfl | hz
      · exact (to z y).resolve_left hxy
      · exact h1 z hz
theorem isortB_pw {α : Type} {le : α → α → Bool} (tr : ∀ a b c, le a b = true → le b c = true → le a c = true) (to : ∀ a b, le a b = true ∨ le b a = true) : ∀ l : List α, (isortB le l).Pairwise (fun a b => le a b = true)
  | [] => .nil
  | x :: xs => insB_pw tr to x _ (isortB_pw tr to xs)
theorem isortB_eq {α : Type} {le : α → α → Bool} (tr : ∀ a b c, le a b = true → le b c = true → le a c = true) (to : ∀ a b, le a b = true ∨ le b a = true) (l : List α) (anti : ∀ a ∈ l, ∀ b ∈ l, le a b = true → le b a = true → a = b) : l.mergeSort le = isortB le l := by
  have p1 : (l.mergeSort le).Perm l := List.mergeSort_perm l le
  have p2 := isortB_perm le l
  have w1 : (l.mergeSort le).Pairwise (fun a b => le a b = true) := List.pairwise_mergeSort tr (fun a b => by have := to a b; simpa using this) l
  exact List.Perm.eq_of_pairwise (fun a b ha hb h1 h2 => anti a (p1.mem_iff.mp ha) b (p2.mem_iff.mp hb) h1 h2) w1 (isortB_pw tr to l) (p1.trans p2.symm)
def leB (a b : PyData) : Bool := dataLe false id a b
def allAlikeB (ds : List PyData) : Bool := ds.all fun a => ds.all fun b => alike a b
def sortB (ds : List PyData) : Bool := (ds.all fun d => match d with | .tuple (_ :: _) => true | _ => false) || ds.all fun d => match d with | .none => false | .tuple _ => false | _ => true
def antiB (ds : List PyData) : Bool := ds.all fun a => (toKey a).isSome && ds.all fun b => !(leB a b && leB b a) || PyData.eqv a b
def sortOk (ds : List PyData) : Bool := PyData.canLayAll0 ds && allAlikeB ds && sortB ds && antiB ds && decide (PyData.depthAll ds ≤ 16) && decide (ds.length ≤ 100000)
def sortedD (d : PyData) : Option PyData := match itemsD d with
  | some ds => if sortOk ds = true then some (.list (isortB leB ds)) else none
  | none => none
theorem allAlike_of {ds : List PyData} (h : allAlikeB ds = true) : AllAlike ds := fun a ha b hb => by
  unfold allAlikeB at h
  exact List.all_eq_true.mp (List.all_eq_true.mp h a ha) b hb
theorem sortable_of {ds : List PyData} (h : sortB ds = true) : Sortable ds := by
  unfold sortB at h
  rw [Bool.or_eq_true] at h
  rcases h with h | h
  · refine .inl fun d hd => ?_
    have := List.all_eq_true.mp h d hd
    cases d <;> first | cases this | skip
    rename_i xs
    cases xs with
    | nil => cases this
    | cons x r => exact ⟨x, r, rfl⟩
  · refine .inr fun d hd => ?_
    have := List.all_eq_true.mp h d hd
    cases d with
    | none => simp at this
    | tuple xs => simp at this
    | _ => exact ⟨by simp, by simp⟩
theorem eqv_eq {a b : PyData} (ha : (toKey a).isSome = true) (hb : (toKey b).isSome = true) (h : PyData.eqv a b = true) : a = b := by
  obtain ⟨k, ek⟩ := Option.isSome_iff_exists.mp ha
  obtain ⟨j, ej⟩ := Option.isSome_iff_exists.mp hb
  rw [toKey_data ek, toKey_data ej] at h ⊢
  rw [eqv_dec] at h
  rw [of_decide_eq_true h]
theorem sort_eq {ds : List PyData} (h : antiB ds = true) : ds.mergeSort (dataLe false id) = isortB leB ds := by
  have T := sortLe_total (listOrd itemOrd) false fun b : PyData => keyToks (id b)
  refine isortB_eq (le := leB) T.trans T.total ds fun a ha b hb h1 h2 => ?_
  unfold antiB at h
  have qa := List.all_eq_true.mp h a ha
  have qb := List.all_eq_true.mp h b hb
  rw [Bool.and_eq_true] at qa qb
  have q := List.all_eq_true.mp qa.2 b hb
  rw [h1, h2] at q
  exact eqv_eq qa.1 qb.1 (by simpa using q)
theorem depth_mem {ds : List PyData} {d : PyData} (h : d ∈ ds) : d.depth ≤ PyData.depthAll ds := by
  induction ds with
  | nil => cases h
  | cons x r ih =>
    rw [PyData.depthAll]
    rcases List.mem_cons.mp h with rfl | h
    · omega
    · have := ih h; omega
section
variable {X : Cx} {pins : List (Addr × Obj)} {σ : Sg} {H : Hp} {s : Shared}
theorem each_of {vs : List V} {us : List Value} {ds : List PyData} (rv : Vals vs us) (hd : DfA (wdX X) H vs ds) : EachIs (fun u d => ∃ v, RelV v u ∧ Df (wdX X) H v d) us ds := by
  induction rv generalizing ds with
  | nil => cases hd; exact .nil
  | cons r rr ih =>
    cases hd with
    | cons h1 h2 => exact .cons ⟨_, r, h1⟩ (ih h2)
theorem of_each {us : List Value} {ds : List PyData} (h : EachIs (fun u d => ∃ v, RelV v u ∧ Df (wdX X) H v d) us ds) : ∃ vs, Vals vs us ∧ DfA (wdX X) H vs ds := by
  induction h with
  | nil => exact ⟨[], .nil, .nil⟩
  | cons r rr ih =>
    obtain ⟨v, r1, h1⟩ := r
    obtain ⟨vs, r2, h2⟩ := ih
    exact ⟨v :: vs, .cons r1 r2, .cons h1 h2⟩
theorem each_reads (I : Inv X pins σ H s) {h' : Heap} {D : Addr} (hk : ∀ b o, s.heap.get? b = some o → h'.get? b = some o) (hD : s.heap.objs.size ≤ D) {us : List Value} {ds : List PyData} (h : EachIs (fun u d => ∃ v, RelV v u ∧ Df (wdX X) H v d) us ds) (c : PyData.canLayAll0 ds = true) :
    EachIs (fun u d => ∃ as, Reads h' u d as ∧ D ∉ as) us ds := by
  induction h with
  | nil => exact .nil
  | cons r rr ih =>
    rw [PyData.canLayAll0, Bool.and_eq_true] at c
    obtain ⟨v, r1, h1⟩ := r
    obtain ⟨as, r2⟩ := reads_of I h1 c.1 r1
    refine .cons ⟨as, Reads.keeps hk r2, fun hm => ?_⟩ (ih c.2)
    obtain ⟨o, e⟩ := PyProof.On.reads_mem_get r2 D hm
    exact absurd (Heap.lt_size e) (Nat.not_lt.mpr hD)
theorem sort_tail {vs : List V} {us : List Value} {ds : List PyData} {Q : VK} {E : Value → Shared → Prop} {tk : Nat} (I : Inv X pins σ H s) (rv : Vals vs us) (hd : DfA (wdX X) H vs ds) (ok : sortOk ds = true) (hu : X.A.units + 32 < cLine)
    (q : ∀ p ys, H p = none → DfA (wdX X) H ys (isortB leB ds) → Q (.ref p) (upd H p (.lst ys))) :
    wpAny (model X.prog X.w) X.A.in1 (call (.builtin "list.sort") [.ref s.heap.objs.size]) (fun _ s' => EP X pins σ Q (.ref s.heap.objs.size) s') E { s with heap := s.heap.push { cls := .type "list", data := .seq us.toArray }, toks := tk } := by
  unfold sortOk at ok
  simp only [Bool.and_eq_true, decide_eq_true_eq] at ok
  obtain ⟨⟨⟨⟨⟨c, hal⟩, hso⟩, han⟩, hdp⟩, hz⟩ := ok
  have ho : (s.heap.push { cls := .type "list", data := .seq us.toArray }).get? s.heap.objs.size = some (seqObj "list" us.toArray 0) := Heap.get?_push_size _ rfl
  have hk2 : ∀ b o, s.heap.get? b = some o → (s.heap.push { cls := .type "list", data := .seq us.toArray }).get? b = some o := fun b o e => Heap.get?_push_of_some _ e
  have e0 := each_of rv hd
  have lz : us.length = ds.length := e0.length
  refine list_sort_data (enc := id) (bs := ds) ho e0 (each_reads I hk2 (Nat.le_refl _) e0 c) (by rw [List.map_id]; exact allAlike_of hal) (by rw [List.map_id]; exact sortable_of hso) (by rw [sizeLine_eq]; omega) (fun d hm => ?_) fun out hl eo => ?_
  · have := depth_mem hm
    show X.A.units + 1 + 1 + d.depth < cLine
    omega
  · rw [sort_eq han] at eo
    obtain ⟨ys, ry, hy⟩ := of_each eo
    obtain ⟨c', hc'⟩ := sortedHeap_at (vs := us) (out := out.toArray) ho
    have lo : out.length ≤ sizeLine := by rw [hl, sizeLine_eq]; omega
    refine ⟨.ref s.heap.objs.size, upd H s.heap.objs.size (.lst ys), I.laid (t' := tk) (fun b u e => ?_) (Nat.le_refl _) ⟨by rw [ry.length]; exact lo, out, c', ry, hc'⟩, rfl, q _ ys (I.hok.fresh (Nat.le_refl _)) hy⟩
    exact (sortedHeap_old (Nat.ne_of_lt (Heap.lt_size e)) (Heap.lt_size (hk2 b u e))).trans (hk2 b u e)

theorem call_sortedL (hu : X.A.units + 32 < cLine) : CallR X (.builtin "sorted") (fun xs H Q => ∃ x d ds, xs = [x] ∧ Dl (wdX X) H x d ∧ itemsD d = some ds ∧ sortOk ds = true ∧ (∀ kvs, d ≠ .dict kvs) ∧ ∀ p ys, H p = none → DfA (wdX X) H ys (isortB leB ds) → Q (.ref p) (upd H p (.lst ys))) := by
  intro pins s σ H xs us Q I r h
  obtain ⟨x, d, ds, rfl, hx, hi, ok, hnd, q⟩ := h
  obtain ⟨u, rfl, rx⟩ := vals1 r
  have main : ∀ (a : Addr) (vs : List V) (its : List Value) (T : String) (o : Obj) (n : Nat), x = .ref a → Vals vs its → DfA (wdX X) H vs ds → (T = "list" ∨ T = "tuple") → s.heap.get? a = some o → o.cls = .type T → o.data = .seq its.toArray n → wpAny (model X.prog X.w) X.A (call (.builtin "sorted") [u]) (EP X pins σ Q) X.xe s := by
    rintro a vs its T o n rfl rv hd hT ho hc hdt
    cases rx
    have hz : its.length ≤ 100000 := by
      have e1 := rv.length
      have e2 := hd.length
      unfold sortOk at ok
      simp only [Bool.and_eq_true, decide_eq_true_eq] at ok
      omega
    refine PySem.Calls.call_function_entry kind_sorted plain_sorted entry_sorted (args_sorted1 _) ?_
    unfold Builtin.«sorted»
    refine wpAny_bind (m := checkCount "sorted" 1 1 _) (wpAny_pure ?_)
    refine wpAny_bind (wpAny_collect_seq (hsz := by rw [sizeLine_eq]; simp; omega) a hT ho hc hdt fun h' hk => ?_)
    have el : its.toArray.toList = its := by simp
    rw [el]
    refine wpAny_bind (wpAny_newList ?_ (by rw [sizeLine_eq]; omega))
    have I1 : Inv X pins σ H { s with heap := h' } := I.kept (t' := s.toks) hk
    refine wpAny_bind (wpAny_holding (wpAny_mono (sort_tail (tk := s.toks) I1 rv hd ok hu q) (fun _ s' x => ?_) fun _ _ e => e))
    exact wpAny_pure ⟨_, rfl, x⟩
  cases d <;> simp only [itemsD, Option.some.injEq, reduceCtorEq] at hi
  · subst hi
    obtain ⟨a, vs, rfl, h1, h2⟩ := hx.lst_inv
    obtain ⟨its, rv, pl, hz⟩ := I.list h1
    obtain ⟨o, n, ho, hc, hdn, hdt⟩ := pl
    exact main a vs its "list" o n rfl rv h2 (.inl rfl) ho hc hdt
  · subst hi
    obtain ⟨a, vs, rfl, h1, h2⟩ := hx.tup_inv
    obtain ⟨its, rv, pl, hz⟩ := I.tuple h1
    obtain ⟨o, ho, hc, n, hdt⟩ := pl
    exact main a vs its "tuple" o n rfl rv h2 (.inr rfl) ho hc hdt
  · exact absurd rfl (hnd _)
theorem keysA : ∀ {xs : List Ent} {kvs : List (PyData × PyData)}, DfE (wdX X) H xs kvs → DfA (wdX X) H (xs.map fun x => V.ref x.2.1) (kvs.map (·.1))
  | _, _, .nil => .nil
  | _, _, .cons h1 _ _ h4 => .cons h1 (keysA h4)
theorem keysV : ∀ (xs : List Ent), Vals (xs.map fun x => V.ref x.2.1) (xs.map fun x => Value.ref x.2.1)
  | [] => .nil
  | x :: xs => .cons rfl (keysV xs)
theorem call_sortedD (hc : X.calm = true) (hu : X.A.units + 32 < cLine) : CallR X (.builtin "sorted") (fun xs H Q => ∃ x kvs, xs = [x] ∧ Dl (wdX X) H x (.dict kvs) ∧ sortOk (kvs.map (·.1)) = true ∧ ∀ p ys, H p = none → DfA (wdX X) H ys (isortB leB (kvs.map (·.1))) → Q (.ref p) (upd H p (.lst ys))) := by
  intro pins s σ H xs us Q I r h
  obtain ⟨x, kvs, rfl, hx, ok, q⟩ := h
  obtain ⟨u, rfl, rx⟩ := vals1 r
  obtain ⟨a, xs, rfl, h1, h2⟩ := hx.dic_inv
  cases rx
  obtain ⟨o, es, ep, ho, hx, hdt, he, hn, hs, hz, hdp⟩ := dict_raw I h1
  have hraw : s.heap.DictRaw a es ep := ⟨o, ho, hx, hdt⟩
  have hsz : es.size = xs.length := by
    have l := congrArg List.length he
    simpa using l
  refine PySem.Calls.call_function_entry kind_sorted plain_sorted entry_sorted (args_sorted1 _) ?_
  unfold Builtin.«sorted»
  refine wpAny_bind (m := checkCount "sorted" 1 1 _) (wpAny_pure ?_)
  refine wpAny_bind (kdu_collect (A := X.A.in1) (KdlSrc.rawDict hs) (I.ok.hd hc) hraw (by omega) fun h' tk acc hk hacc => ?_)
  have el : acc.toList = xs.map fun x => Value.ref x.2.1 := by
    refine List.ext_getElem? fun i => ?_
    have hl : acc.toList.length = xs.length := by rw [Array.length_toList, hacc.1, hsz]
    by_cases hi : i < xs.length
    · have hia : i < acc.size := by rw [hacc.1, hsz]; exact hi
      obtain ⟨hi2, e2⟩ := hacc.2 i acc[i] (by simp [hia])
      have e3 : es[i]? = (xs[i]?).map (entryOfKey (nestedKind X.prog X.w)) := by rw [← Array.getElem?_toList, he, List.getElem?_map]
      rw [List.getElem?_eq_getElem hi, Array.getElem?_eq_getElem hi2] at e3
      have e4 : es[i] = entryOfKey (nestedKind X.prog X.w) xs[i] := Option.some.inj e3
      rw [Array.getElem?_toList, Array.getElem?_eq_getElem hia, e2, e4, List.getElem?_map, List.getElem?_eq_getElem hi]
      rfl
    · rw [List.getElem?_eq_none (by omega), List.getElem?_eq_none (by simp; omega)]
  rw [el]
  refine wpAny_bind (wpAny_newList ?_ (by rw [List.length_map]; exact hz))
  have I1 : Inv X pins σ H { s with heap := h', toks := tk } := I.kept (t' := tk) hk
  refine wpAny_bind (wpAny_holding (wpAny_mono (sort_tail (tk := tk) I1 (keysV xs) (keysA h2) ok hu q) (fun _ s' x => ?_) fun _ _ e => e))
  exact wpAny_pure ⟨_, rfl, x⟩
def mSorted (f : M PyData) : M Sl := fun ρ => match f ρ with
  | some (d, ρ') => (match itemsD d with
    | some ds => if sortOk ds = true then some (.own (isortB leB ds), ρ') else none
    | none => none)
  | none => none
variable {pos : Pos} {a b : Expr} {fa : M PyData}
theorem se_sorted {p : Pos} (hc : X.calm = true) (hu : X.A.units + 32 < cLine) (ha : LE X a fa) (hg : Gl X "sorted") (hm : X.mg "sorted" = none) (he : starEach [a] X.env = (false, eval a X.env) :: starEach [] X.env := by rfl) (hpl : (backTo pos (starEach [] X.env)).any (·.1) = false := by rfl) :
    SE X (.Call (.Name "sorted" p) [a] [] pos) (mSorted fa) := by
  refine ⟨fun W => (pe_callB ((call_sortedL hu).or (call_sortedD hc hu)) hg hm (by decide +kernel) (pa_cons (ha.pe W) pa_nil he) (by decide) (by decide) he hpl).imp fun σ H Q ⟨ρ, z, ρ', R, e, k⟩ => ?_⟩
  unfold mSorted at e
  split at e
  · rename_i d ρ1 e1
    split at e
    · rename_i ds ei
      split at e
      · rename_i ok
        cases e
        refine ⟨ρ, d, ρ', R, e1, fun v H1 R1 D1 g1 => ?_⟩
        have fin : ∀ p ys, H1 p = none → DfA (wdX X) H1 ys (isortB leB ds) → Q (.ref p) (upd H1 p (.lst ys)) := fun p ys hp hy => k _ _ (R1.same (Same.new hp)) ⟨p, ys, rfl, R1.kp_none hp, upd_same, hy.grow (.new hp), R1.ap hp⟩ (g1.trans (.new hp))
        by_cases hd : ∃ kvs, d = .dict kvs
        · obtain ⟨kvs, rfl⟩ := hd
          simp only [itemsD, Option.some.injEq] at ei
          subst ei
          exact .inr ⟨v, kvs, rfl, D1, ok, fin⟩
        · exact .inl ⟨v, d, ds, rfl, D1, ei, ok, fun kvs z => hd ⟨kvs, z⟩, fin⟩
      · cases e
    · cases e
  · cases e
end
end Dn
namespace Dn
open PySem PySem.W PySem.Spec PyProof.Rows L2

def pickOk (ds : List PyData) : Bool := PyData.canLayAll0 ds && allAlikeB ds && (ds.all fun d => !isNone d) && decide (PyData.depthAll ds ≤ 16) && decide (ds.length ≤ 100000)
def minL (d : PyData) : Option PyData := match itemsD d with
  | some (x :: xs) => if pickOk (x :: xs) = true then some (minD x xs) else none
  | _ => none
def maxL (d : PyData) : Option PyData := match itemsD d with
  | some (x :: xs) => if pickOk (x :: xs) = true then some (maxD x xs) else none
  | _ => none
theorem pick_inv {ds : List PyData} (h : pickOk ds = true) : PyData.canLayAll0 ds = true ∧ AlikeAll ds ∧ PyData.depthAll ds ≤ 16 ∧ ds.length ≤ 100000 := by
  unfold pickOk at h
  simp only [Bool.and_eq_true, decide_eq_true_eq] at h
  obtain ⟨⟨⟨⟨c, ha⟩, hn⟩, hd⟩, hz⟩ := h
  refine ⟨c, ⟨fun x hx y hy => allAlike_of ha x hx y hy, fun x hx z => ?_⟩, hd, hz⟩
  have := List.all_eq_true.mp hn x hx
  subst z
  simp [isNone] at this
section
variable {X : Cx} {pins : List (Addr × Obj)} {σ : Sg} {H : Hp} {s : Shared}
theorem pick_at {vs : List V} {us : List Value} {ds : List PyData} {i : Nat} {u : Value} (rv : Vals vs us) (hd : DfA (wdX X) H vs ds) (e : us.toArray[i]? = some u) : ∃ v, RelV v u ∧ i < ds.length ∧ Df (wdX X) H v (ds.getD i .none) := by
  have e' : us[i]? = some u := by simpa using e
  obtain ⟨hi, _⟩ := List.getElem?_eq_some_iff.mp e'
  have hl := rv.length
  have hv : vs[i]? = some vs[i] := List.getElem?_eq_getElem (by omega)
  obtain ⟨u', e2, r⟩ := rv.get hv
  rw [e'] at e2; cases e2
  obtain ⟨d, e3, h3⟩ := hd.getV hv
  have hl2 := hd.length
  exact ⟨_, r, by omega, by rw [List.getD_eq_getElem?_getD, e3]; exact h3⟩
/-- the walk of a list, of a tuple, of a dict's keys, as min and max ask it -/
theorem iter_items (hc : X.calm = true) (I : Inv X pins σ H s) {x : V} {u : Value} {d : PyData} {ds : List PyData} (hx : Dl (wdX X) H x d) (rx : RelV x u) (hi : itemsD d = some ds) {A : Around} (hA : A.handled = none) {E : Value → Shared → Prop} {Q : Value → Shared → Prop}
    (h : ∀ (vs : List V) (us : List Value) (o : Obj) (fp : List Addr) (n : Nat) (St : Nat → Shared → Prop) (s₂ : Shared), Vals vs us → DfA (wdX X) H vs ds → n = ds.length → s₂ = { s with heap := s.heap.push o } → WalksS X.prog X.w A s.heap.objs.size fp [s.heap.objs.size] (fun a b => b = a) n (fun i v => us.toArray[i]? = some v) St → St 0 s₂ → (∀ b ∈ fp, b < s₂.heap.objs.size) →
      (∀ b o, s.heap.get? b = some o → b ∉ [s.heap.objs.size]) → (∀ b o, s.heap.get? b = some o → s₂.heap.get? b = some o) → Q (.ref s.heap.objs.size) s₂) : wpAny (model X.prog X.w) A (pyIter u) Q E s := by
  cases d <;> simp only [itemsD, Option.some.injEq, reduceCtorEq] at hi
  · subst hi
    obtain ⟨a, vs, rfl, h1, h2⟩ := hx.lst_inv
    cases rx
    obtain ⟨its, rv, pl, hz⟩ := I.list h1
    have l1 := rv.length
    have l2 := h2.length
    exact iter_listW hA pl.isList fun s₂ e W st hfp hw hk => h vs its _ _ _ _ s₂ rv h2 (by simp; omega) e W st hfp hw hk
  · subst hi
    obtain ⟨a, vs, rfl, h1, h2⟩ := hx.tup_inv
    cases rx
    obtain ⟨its, rv, pl, hz⟩ := I.tuple h1
    have l1 := rv.length
    have l2 := h2.length
    exact iter_tupleW hA (show s.heap.IsTuple a its.toArray from pl) fun s₂ e W st hfp hw hk => h vs its _ _ _ _ s₂ rv h2 (by simp; omega) e W st hfp hw hk
  · subst hi
    obtain ⟨a, xs, rfl, h1, h2⟩ := hx.dic_inv
    cases rx
    obtain ⟨o, es, ep, ho, hx, hdt, he, hn, hs, hz, hdp⟩ := dict_raw I h1
    have hraw : s.heap.DictRaw a es ep := ⟨o, ho, hx, hdt⟩
    have hsz : es.size = xs.length := by
      have l := congrArg List.length he
      simpa using l
    have hlt : a < s.heap.objs.size := Heap.lt_size ho
    have hent : ∀ i (hi : i < es.size), ∃ y, xs[i]? = some y ∧ es[i].key = .ref y.2.1 ∧ es[i].val = y.2.2 := fun i hi => by
      have e3 : es[i]? = (xs[i]?).map (entryOfKey (nestedKind X.prog X.w)) := by rw [← Array.getElem?_toList, he, List.getElem?_map]
      have hi2 : i < xs.length := by omega
      rw [List.getElem?_eq_getElem hi2, Array.getElem?_eq_getElem hi] at e3
      have e4 : es[i] = entryOfKey (nestedKind X.prog X.w) xs[i] := Option.some.inj e3
      exact ⟨xs[i], List.getElem?_eq_getElem hi2, by rw [e4]; rfl, by rw [e4]; rfl⟩
    have W := ((Walks.keysH (prog := X.prog) (w := X.w) (A := A) hA s.heap.objs.size a (Nat.ne_of_lt hlt) es ep hent).mono_item (P' := fun i v => (xs.map fun x => Value.ref x.2.1).toArray[i]? = some v) fun i v _ ⟨y, e1, e2⟩ => by simp [e1, e2]).toS
    refine wpAny_pyIter_dict_raw hs hraw (h _ _ _ _ _ _ _ (keysV xs) (keysA h2) (by rw [hsz, h2.length, List.length_map]) rfl W ⟨⟨_, Heap.get?_push_size _ rfl, rfl, rfl⟩, hraw.push _⟩ (fun b hb => ?_) (fun b o e hb => ?_) fun b o e => Heap.get?_push_of_some _ e)
    · show b < (s.heap.push _).objs.size
      rw [Heap.size_push]
      rcases List.mem_cons.mp hb with rfl | hb
      · exact Nat.lt_succ_self _
      · rw [List.mem_singleton.mp hb]; exact Nat.lt_succ_of_lt hlt
    · exact absurd (Heap.lt_size e) ((List.mem_singleton.mp hb) ▸ Nat.lt_irrefl _)
theorem call_minX (hc : X.calm = true) (hu : X.A.units + 32 < cLine) : CallR X (.builtin "min") (fun as H Q => ∃ a d z, as = [a] ∧ Dl (wdX X) H a d ∧ minL d = some z ∧ ∀ v, Df (wdX X) H v z → Q v H) := by
  intro pins s σ H as us Q I r h
  obtain ⟨a, d, z, rfl, hx, hm, q⟩ := h
  obtain ⟨u, rfl, rx⟩ := vals1 r
  unfold minL at hm
  split at hm
  · rename_i x xs hi
    split at hm
    · rename_i ok
      cases hm
      obtain ⟨c, hal, hdp, hz⟩ := pick_inv ok
      refine call_min_walkH (iter_items hc I hx rx hi (A := X.A.in1) (I.ok.hd hc) fun vs us o fp n St s₂ rv hd hn e W st hfp hw hk => ?_)
      obtain ⟨as, hr⟩ := readsA_of I hd c rv
      have hr' : ReadsAll s.heap us.toArray.toList (x :: xs) as := by simpa using hr
      have hn' : n = xs.length + 1 := by simpa using hn
      refine ⟨_, _, _, _, _, _, _, s.heap, _, rfl, W, st, hfp, by omega, hw, hk, cmpIn_lt (A := X.A.in1) hr' hal (by show X.A.units + 1 + _ < _; omega), fun v s' hP m => ?_⟩
      obtain ⟨h', tk, rfl, hk'⟩ := moved_old e rfl m
      obtain ⟨w, rw', _, hw'⟩ := pick_at rv hd hP
      have e1 : n - 1 = xs.length := by omega
      have e2 := (argBest_fold dataLt PyData.none x xs xs.length (Nat.le_refl _)).2
      rw [List.take_length] at e2
      rw [e1] at hw'
      exact ⟨w, H, I.kept (t' := tk) hk', rw', q w (by unfold minD; rw [← e2]; exact hw')⟩
    · cases hm
  · cases hm
theorem call_maxX (hc : X.calm = true) (hu : X.A.units + 32 < cLine) : CallR X (.builtin "max") (fun as H Q => ∃ a d z, as = [a] ∧ Dl (wdX X) H a d ∧ maxL d = some z ∧ ∀ v, Df (wdX X) H v z → Q v H) := by
  intro pins s σ H as us Q I r h
  obtain ⟨a, d, z, rfl, hx, hm, q⟩ := h
  obtain ⟨u, rfl, rx⟩ := vals1 r
  unfold maxL at hm
  split at hm
  · rename_i x xs hi
    split at hm
    · rename_i ok
      cases hm
      obtain ⟨c, hal, hdp, hz⟩ := pick_inv ok
      refine call_max_walkH (iter_items hc I hx rx hi (A := X.A.in1) (I.ok.hd hc) fun vs us o fp n St s₂ rv hd hn e W st hfp hw hk => ?_)
      obtain ⟨as, hr⟩ := readsA_of I hd c rv
      have hr' : ReadsAll s.heap us.toArray.toList (x :: xs) as := by simpa using hr
      have hn' : n = xs.length + 1 := by simpa using hn
      refine ⟨_, _, _, _, _, _, _, s.heap, _, rfl, W, st, hfp, by omega, hw, hk, cmpIn_gt (A := X.A.in1) hr' hal (by show X.A.units + 1 + _ < _; omega), fun v s' hP m => ?_⟩
      obtain ⟨h', tk, rfl, hk'⟩ := moved_old e rfl m
      obtain ⟨w, rw', _, hw'⟩ := pick_at rv hd hP
      have e1 : n - 1 = xs.length := by omega
      have e2 := (argBest_fold (fun a b => dataLt b a) PyData.none x xs xs.length (Nat.le_refl _)).2
      rw [List.take_length] at e2
      rw [e1] at hw'
      exact ⟨w, H, I.kept (t' := tk) hk', rw', q w (by unfold maxD; rw [← e2]; exact hw')⟩
    · cases hm
  · cases hm
theorem b_min (hc : X.calm = true) (hu : X.A.units + 32 < cLine) : Call1 X (.builtin "min") minL := ⟨_, call_minX hc hu, fun x d z H Q hx hg k => ⟨x, d, z, rfl, hx, hg, fun v hv => k v H (fun _ _ e => e) hv⟩⟩
theorem b_max (hc : X.calm = true) (hu : X.A.units + 32 < cLine) : Call1 X (.builtin "max") maxL := ⟨_, call_maxX hc hu, fun x d z H Q hx hg k => ⟨x, d, z, rfl, hx, hg, fun v hv => k v H (fun _ _ e => e) hv⟩⟩

def mA2 (g : PyData → PyData → Option PyData) (f : M (List PyData)) : M PyData := fun ρ => match f ρ with
  | some ([x, y], ρ') => (match g x y with
    | some z => some (z, ρ')
    | none => none)
  | _ => none
structure Call2 (X : Cx) (f : Value) (g : PyData → PyData → Option PyData) : Prop where
  ex : ∃ r : List V → Hp → VK → Prop, CallR X f r ∧ ∀ (x y : V) (d e z : PyData) (H : Hp) (Q : VK), Df (wdX X) H x d → Df (wdX X) H y e → g d e = some z → (∀ v H', Same H H' → Df (wdX X) H' v z → Q v H') → r [x, y] H Q
variable {pos : Pos} {a b : Expr} {fa fb : M PyData} {fr : M (List PyData)}
theorem de_b2 {id : String} {g : PyData → PyData → Option PyData} {x : Str} {p : Pos} (hc : Call2 X (.builtin id) g) (hg : Gl X x) (hm : X.mg x = none) (hv : bootBuiltins x = some (.builtin id)) (ha : DAn X [a, b] fr) (hn : x ≠ "__name__" := by decide) (hdb : (x == ("__debug__" : Str)) = false := by decide)
    (he : starEach [a, b] X.env = (false, eval a X.env) :: starEach [b] X.env := by rfl) (hpl : (backTo pos (starEach [b] X.env)).any (·.1) = false := by rfl) : DE X (.Call (.Name x p) [a, b] [] pos) (mA2 g fr) := by
  obtain ⟨r, h1, h2⟩ := hc
  refine ⟨fun W => (pe_callB h1 hg hm hv (ha.pa W) hn hdb he hpl).imp fun σ H Q ⟨ρ, z, ρ', R, e, k⟩ => ?_⟩
  unfold mA2 at e
  split at e
  · rename_i x y ρ1 e1
    split at e
    · rename_i z' e2
      cases e
      refine ⟨ρ, _, ρ', R, e1, fun vs H1 R1 D1 g1 => ?_⟩
      obtain ⟨v, u, rfl, D3, D4⟩ := D1.two
      exact h2 v u x y _ H1 Q D3 D4 e2 fun w H2 sm D5 => k w H2 (R1.same sm) D5 (g1.trans (.same sm))
    · cases e
  · cases e
def min2D : PyData → PyData → Option PyData
  | .int i, .int j => some (.int (if j < i then j else i))
  | _, _ => none
def max2D : PyData → PyData → Option PyData
  | .int i, .int j => some (.int (if j > i then j else i))
  | _, _ => none
def divmodD : PyData → PyData → Option PyData
  | .int i, .int j => if 0 < j ∧ j < 1073741824 then some (.tuple [.int (i / j), .int (i % j)]) else none
  | _, _ => none
theorem b_min2 (hc : X.calm = true) : Call2 X (.builtin "min") min2D := ⟨_, call_min2 hc, fun x y d e z H Q hx hy hg k => by
  cases d <;> cases e <;> simp only [min2D, Option.some.injEq, reduceCtorEq] at hg
  subst hg
  exact ⟨_, _, by rw [hx.int_inv, hy.int_inv], k _ H (fun _ _ e => e) (.int _)⟩⟩
theorem b_max2 (hc : X.calm = true) : Call2 X (.builtin "max") max2D := ⟨_, call_max2 hc, fun x y d e z H Q hx hy hg k => by
  cases d <;> cases e <;> simp only [max2D, Option.some.injEq, reduceCtorEq] at hg
  subst hg
  exact ⟨_, _, by rw [hx.int_inv, hy.int_inv], k _ H (fun _ _ e => e) (.int _)⟩⟩
theorem b_divmod : Call2 X (.builtin "divmod") divmodD := ⟨_, call_divmod, fun x y d e z H Q hx hy hg k => by
  cases d <;> cases e <;> simp only [divmodD, reduceCtorEq] at hg
  split at hg
  · rename_i hc
    cases hg
    exact ⟨_, _, by rw [hx.int_inv, hy.int_inv], hc, fun p hp => k _ _ (Same.new hp) (.tup (.of upd_same) (.cons (.int _) (.cons (.int _) .nil)))⟩
  · cases hg⟩

def reprD (d : PyData) : Option PyData := match d with
  | .list _ => if d.canLay0 = true ∧ d.showable = true ∧ d.shown.length ≤ sizeLine ∧ d.depth ≤ 16 then some (.str d.shown) else none
  | .tuple _ => if d.canLay0 = true ∧ d.showable = true ∧ d.shown.length ≤ sizeLine ∧ d.depth ≤ 16 then some (.str d.shown) else none
  | _ => none
theorem b_repr (hg : X.A.guards = some []) (hu : X.A.units + 32 < cLine) : Call1 X (.builtin "repr") reprD := by
  refine ⟨fun as H Q => ∃ a d, as = [V.ref a] ∧ Dp X.K H (.ref a) d ∧ d.canLay0 = true ∧ d.showable = true ∧ d.shown.length ≤ sizeLine ∧ d.depth ≤ 16 ∧ Q (.str d.shown) H, ?_, fun x d z H Q hx hz k => ?_⟩
  · intro pins s σ H as us Q I r h
    obtain ⟨a, d, rfl, hd, c, hs, hz, hdp, q⟩ := h
    obtain ⟨u, rfl, rx⟩ := vals1 r
    cases rx
    obtain ⟨as, r1⟩ := Dp.reads I d _ _ hd rfl
    refine repr_of_reads' (hsz := hz) r1 hs (fun e => by rw [PySem.PyData.hasDict_of_canLay _ c] at e; cases e) hg (by omega) (fun _ _ e => e) fun h' u tk hk => ⟨.str d.shown, H, I.kept (t' := tk) hk, ⟨u, rfl⟩, q⟩
  · cases d <;> simp only [reprD, reduceCtorEq] at hz
    · split at hz
      · rename_i h
        cases hz
        obtain ⟨a, xs, rfl, h1, h2⟩ := hx.lst_inv
        exact ⟨a, _, rfl, .lst h1 (DfA.dp (by simpa [PyData.canLay0] using h.1) h2), h.1, h.2.1, h.2.2.1, h.2.2.2, k _ H (fun _ _ e => e) (.str _)⟩
      · cases hz
    · split at hz
      · rename_i h
        cases hz
        obtain ⟨a, xs, rfl, h1, h2⟩ := hx.tup_inv
        exact ⟨a, _, rfl, .tup h1 (DfA.dp (by simpa [PyData.canLay0] using h.1) h2), h.1, h.2.1, h.2.2.1, h.2.2.2, k _ H (fun _ _ e => e) (.str _)⟩
      · cases hz

theorem Dl.dp {v : V} {d : PyData} (c : d.canLay0 = true) (h : Dl (wdX X) H v d) : Dp X.K H v d := by
  cases h with
  | of h => exact h.dp c
  | lst h1 h2 => exact .lst h1 (DfA.dp (by simpa [PyData.canLay0] using c) h2)
  | dic h1 h2 => simp [PyData.canLay0] at c
theorem de_eqN (i : Nat) {k : Nat} {x : Str} {p : Pos} (hr : Room k X.A) (hb : DE X b fb) (hm : behindInMarks .Eq b = false := by rfl) (hN : X.N[i]? = some x := by rfl) (hv : Vis X.env.scope x := by first | exact Or.inl rfl | exact Or.inr (Or.inl rfl) | exact Or.inr (Or.inr rfl)) (hd : (x == ("__debug__" : Str)) = false := by decide)
    (hcd : (x == ("__classdict__" : Str)) = false := by decide) : DE X (.Compare (.Name x p) [.Eq] [b] pos) (mLoc2 i eqD fb) := by
  have hun := hr.un
  refine ⟨fun W => (pe_cmpR ((op_eqD (by omega)).or op_eq) (pe_var (i := i) hN hv hd hcd) (hb.pe W) hm).imp fun σ H Q ⟨ρ, z, ρ', R, e, k⟩ => ?_⟩
  obtain ⟨⟨⟨x0, p0⟩, e0⟩, y, x, p, e1, e2, e3⟩ := mLoc2_inv e
  obtain ⟨v, ev, hl, _⟩ := eLoc_rep R e0
  refine ⟨v, ev, ρ, y, ρ', R, e1, fun u H2 R2 D2 g2 => ?_⟩
  obtain ⟨v', ev', hl', _⟩ := eLoc_rep R2 e2
  rw [ev] at ev'; cases ev'
  exact eq_does (fun c => hl'.dp c) (fun c => D2.dp c) (fun a h => by subst h; exact hl'.str_inv) (fun a h => by subst h; exact D2.str_inv) e3 fun w hw => k w H2 R2 hw g2
theorem de_neN (i : Nat) {k : Nat} {x : Str} {p : Pos} (hr : Room k X.A) (hb : DE X b fb) (hm : behindInMarks .NotEq b = false := by rfl) (hN : X.N[i]? = some x := by rfl) (hv : Vis X.env.scope x := by first | exact Or.inl rfl | exact Or.inr (Or.inl rfl) | exact Or.inr (Or.inr rfl)) (hd : (x == ("__debug__" : Str)) = false := by decide)
    (hcd : (x == ("__classdict__" : Str)) = false := by decide) : DE X (.Compare (.Name x p) [.NotEq] [b] pos) (mLoc2 i neD fb) := by
  have hun := hr.un
  refine ⟨fun W => (pe_cmpR ((op_neD (by omega)).or op_ne) (pe_var (i := i) hN hv hd hcd) (hb.pe W) hm).imp fun σ H Q ⟨ρ, z, ρ', R, e, k⟩ => ?_⟩
  obtain ⟨⟨⟨x0, p0⟩, e0⟩, y, x, p, e1, e2, e3⟩ := mLoc2_inv e
  obtain ⟨v, ev, hl, _⟩ := eLoc_rep R e0
  refine ⟨v, ev, ρ, y, ρ', R, e1, fun u H2 R2 D2 g2 => ?_⟩
  obtain ⟨v', ev', hl', _⟩ := eLoc_rep R2 e2
  rw [ev] at ev'; cases ev'
  exact ne_does (fun c => hl'.dp c) (fun c => D2.dp c) (fun a h => by subst h; exact hl'.str_inv) (fun a h => by subst h; exact D2.str_inv) e3 fun w hw => k w H2 R2 hw g2
end
end Dn
namespace Dn
open PySem PySem.W PySem.Spec PyProof.Rows L2 C8

/-- what a def hands back: data, or a list or dict that is new -/
def ResS (Γ : Wd) (H H' : Hp) (v : V) : Sl → Prop
  | .dat d => Df Γ H' v d
  | .own ds => ∃ a xs, v = .ref a ∧ H a = none ∧ H' a = some (.lst xs) ∧ DfA Γ H' xs ds
  | .dic kvs => ∃ a xs, v = .ref a ∧ H a = none ∧ H' a = some (dO Γ a xs) ∧ DfE Γ H' xs kvs
  | _ => False
abbrev FD := List PyData → Option Sl
abbrev FI := List PyData → List PyData → Option (Sl × List PyData)
/-- a def of data -/
def spP (Γ : Wd) (n : Nat) (f : FD) : Sp := fun vs H Q _ => ∃ ds s, DfA Γ H vs ds ∧ ds.length = n ∧ f ds = some s ∧ ∀ v H', Same H H' → ResS Γ H H' v s → Q v H'
/-- .. whose first argument is read as it stands -/
def spB (Γ : Wd) (n : Nat) (f : FD) : Sp := fun vs H Q _ => ∃ v0 vs' d0 ds s, vs = v0 :: vs' ∧ Dl Γ H v0 d0 ∧ DfA Γ H vs' ds ∧ ds.length = n ∧ f (d0 :: ds) = some s ∧ ∀ v H', Same H H' → ResS Γ H H' v s → Q v H'
/-- .. whose first argument is a list that it writes -/
def spI (Γ : Wd) (n : Nat) (f : FI) : Sp := fun vs H Q _ => ∃ a xs os vs' ds s os', vs = .ref a :: vs' ∧ H a = some (.lst xs) ∧ DfA Γ H xs os ∧ DfA Γ H vs' ds ∧ ds.length = n ∧ f os ds = some (s, os') ∧
  ∀ v H' ys, (∀ b o, b ≠ a → H b = some o → H' b = some o) → H' a = some (.lst ys) → DfA Γ H' ys os' → ResS Γ H H' v s → Q v H'
section
variable {P : Program} {w : World} {K : PySem.W.Frag} {mg : Str → Option Value} {base : Heap}
abbrev PF (P : Program) (w : World) (K : PySem.W.Frag) (mg : Str → Option Value) (base : Heap) (k : Nat) (x : Str) (n : Nat) (f : FD) : Prop := Cal P w K mg base k x (spP ⟨P, w, K⟩ n f) []
abbrev BF (P : Program) (w : World) (K : PySem.W.Frag) (mg : Str → Option Value) (base : Heap) (k : Nat) (x : Str) (n : Nat) (f : FD) : Prop := Cal P w K mg base k x (spB ⟨P, w, K⟩ n f) []
abbrev IF (P : Program) (w : World) (K : PySem.W.Frag) (mg : Str → Option Value) (base : Heap) (k : Nat) (x : Str) (n : Nat) (f : FI) : Prop := Cal P w K mg base k x (spI ⟨P, w, K⟩ n f) []
abbrev BX (P : Program) (w : World) (K : PySem.W.Frag) (mg : Str → Option Value) (base : Heap) (N : List Str) (x : Str) (sc : Scope) (f : Addr) (cdv : Value) (A : Around) (outer : List PySem.Env) (s : Shared) (H : Hp) (E : XK) : Cx := (cxOf C8.CX0 P w K mg base N x sc f cdv A outer s H E).nox
def uns (n : Nat) : Env := List.replicate n .un
def endP : Option Out → Option Sl
  | some (.rt s _) => some s
  | some (.nx _) => some (.dat .none)
  | _ => none
def runP (m : Nat) (g : MS) : FD := fun ds => endP (g (ds.map .dat ++ uns m))
def runB (m : Nat) (g : MS) : FD := fun ds => match ds with
  | d0 :: ds => endP (g (.bor d0 :: ds.map .dat ++ uns m))
  | [] => none
def endI (s : Sl) (ρ : Env) : Option (Sl × List PyData) := match ρ with
  | .own os :: _ => some (s, os)
  | _ => none
def runI (m : Nat) (g : MS) : FI := fun os ds => match g (.own os :: ds.map .dat ++ uns m) with
  | some (.rt s ρ) => endI s ρ
  | some (.nx ρ) => endI (.dat .none) ρ
  | _ => none
theorem start_len {N : List Str} {vs : List V} (h : vs.length ≤ N.length) : (L2.start N vs).length = N.length := by
  unfold L2.start; simp; omega
theorem start_get {N : List Str} {vs : List V} {i : Nat} {v : V} (h : vs[i]? = some v) : (L2.start N vs)[i]? = some (some v) := by
  unfold L2.start
  have hl := (List.getElem?_eq_some_iff.mp h).1
  rw [List.getElem?_append_left (by simpa using hl), List.getElem?_map, h]; rfl
theorem env_get {ds : List PyData} {m i : Nat} {s : Sl} (h : (ds.map Sl.dat ++ uns m)[i]? = some s) : (∃ d, ds[i]? = some d ∧ s = .dat d) ∨ s = .un := by
  by_cases hi : i < ds.length
  · rw [List.getElem?_append_left (by simpa using hi), List.getElem?_map, List.getElem?_eq_getElem hi] at h
    cases h
    exact .inl ⟨ds[i], List.getElem?_eq_getElem hi, rfl⟩
  · rw [List.getElem?_append_right (by simpa using hi)] at h
    unfold uns at h
    have := List.eq_of_mem_replicate (List.mem_of_getElem? h)
    exact .inr this
theorem env_nomut {ds : List PyData} {m i : Nat} : ¬ mutS (ds.map Sl.dat ++ uns m)[i]? := fun h => by
  cases e : (ds.map Sl.dat ++ uns m)[i]? with
  | none => rw [e] at h; exact h
  | some s =>
    rw [e] at h
    rcases env_get e with ⟨d, _, rfl⟩ | rfl <;> exact h
variable {Γ : Wd} {H : Hp} {N : List Str}
theorem rep_start {vs : List V} {ds : List PyData} {m : Nat} (h : DfA Γ H vs ds) (hm : ds.length + m = N.length) : RepS Γ { bo := H } (L2.start N vs) H (ds.map .dat ++ uns m) := by
  have hl := h.length
  refine ⟨?_, fun a o e => ?_, fun i s e => ?_, fun i j a _ hi => absurd hi env_nomut, fun a e => by cases e⟩
  · rw [start_len (by omega)]; simp [uns]; omega
  · unfold Wt.kp at e
    cases hb : H a with
    | none => simp only [hb] at e; cases e
    | some p => simp only [hb] at e; exact e
  · rcases env_get e with ⟨d, hd, rfl⟩ | rfl
    · obtain ⟨v, hv, dv⟩ := h.get hd
      exact ⟨v, start_get hv, dv⟩
    · trivial
theorem kp_bo {H : Hp} {a : Addr} : (Wt.kp { bo := H }) a = H a := by
  unfold Wt.kp
  cases h : H a <;> simp [h]
theorem res_of {σ : Sg} {H' : Hp} {ρ : Env} {v : V} {s : Sl} (n : NewS Γ { bo := H } σ ρ H' v s) (hs : ∀ lo hi, s ≠ .rng lo hi) : ResS Γ H H' v s := by
  cases s with
  | dat d => exact n
  | own ds => obtain ⟨a, xs, e, hw, h1, h2, _⟩ := n; exact ⟨a, xs, e, by rw [← hw, kp_bo], h1, h2⟩
  | dic ds => obtain ⟨a, xs, e, hw, h1, h2, _⟩ := n; exact ⟨a, xs, e, by rw [← hw, kp_bo], h1, h2⟩
  | rng lo hi => exact absurd rfl (hs lo hi)
  | _ => exact n.elim
end

def noRng : Option Sl → Bool
  | some (.rng _ _) => false
  | _ => true
section
variable {P : Program} {w : World} {K : PySem.W.Frag} {mg : Str → Option Value} {base : Heap} {x : Str} {params : Arguments} {body : List Stmt} {scope : Scope} {f : Addr} {fd : FuncData} {N ps : List Str} {k m : Nat} {g : MS}
/-- (a range is never handed back) -/
def clean (f : FD) : FD := fun ds => match f ds with
  | some (.rng _ _) => none
  | r => r
def runP' (m : Nat) (g : MS) : FD := clean (runP m g)
theorem cal_pure (F : FunD K x x params body scope [] [] f fd) (hm : mg x = some (.ref f)) (S : FnScope N ps scope) (hN : ps.length + m = N.length)
    (hb : ∀ (kV doc pm : Value) (an : Option Addr) (cdv ct : Value) (us : List Value), us.length = ps.length → bindArgs (PySem.W.fnOf x x params body scope .none kV doc pm an cdv ct) ⟨us, []⟩ = pure (ps.zip us))
    (h : ∀ cdv A outer s H E, Room k (BX P w K mg base N x scope f cdv A outer s H E).A → DSs (BX P w K mg base N x scope f cdv A outer s H E) body g) : PF P w K mg base (k + 1) x ps.length (runP' m g) := by
  refine ⟨f, fd, ps, [], F.ok S (fun vs H Q E ⟨ds, s, hd, hl, _⟩ => by rw [hd.length]; exact hl) (fun cdv A outer s H vs Q E hr ⟨ds, sl, hd, hl, e, q⟩ => ⟨_, PSs.nox ((h cdv A outer s H E hr).ps { bo := H }), ?_⟩), hm, F.kp, F.bindsN hb, .nil⟩
  have e' : runP m g ds = some sl ∧ ∀ lo hi, sl ≠ .rng lo hi := by
    unfold runP' clean at e
    split at e
    · cases e
    · rename_i hne
      exact ⟨e, fun lo hi z => by subst z; exact hne _ _ e⟩
  obtain ⟨e1, hs⟩ := e'
  have R := rep_start (Γ := ⟨P, w, K⟩) (N := N) hd (m := m) (by omega)
  unfold runP at e1
  cases ho : g (ds.map .dat ++ uns m) with
  | none => rw [ho] at e1; cases e1
  | some o =>
    rw [ho] at e1
    refine ⟨_, o, R, ho, ?_⟩
    have kpS : ∀ {σ' : Sg} {H' : Hp} {ρ' : Env}, RepS ⟨P, w, K⟩ { bo := H } σ' H' ρ' → Same H H' := fun R' a o e => R'.keep a o (by rw [kp_bo]; exact e)
    cases o with
    | nx ρ' => cases e1; exact fun σ' H' R' g' => q _ H' (kpS R') .non
    | rt s0 ρ' => cases e1; exact fun v σ' H' R' n g' => q v H' (kpS R') (res_of n hs)
    | bk ρ' => cases e1
    | ct ρ' => cases e1
def runB' (m : Nat) (g : MS) : FD := clean (runB m g)
theorem cal_bor (F : FunD K x x params body scope [] [] f fd) (hm : mg x = some (.ref f)) (S : FnScope N ps scope) (n : Nat) (hn : ps.length = n + 1) (hN : ps.length + m = N.length)
    (hb : ∀ (kV doc pm : Value) (an : Option Addr) (cdv ct : Value) (us : List Value), us.length = ps.length → bindArgs (PySem.W.fnOf x x params body scope .none kV doc pm an cdv ct) ⟨us, []⟩ = pure (ps.zip us))
    (h : ∀ cdv A outer s H E, Room k (BX P w K mg base N x scope f cdv A outer s H E).A → DSs (BX P w K mg base N x scope f cdv A outer s H E) body g) : BF P w K mg base (k + 1) x n (runB' m g) := by
  refine ⟨f, fd, ps, [], F.ok S (fun vs H Q E ⟨v0, vs', d0, ds, s, e0, _, hd, hl, _⟩ => by rw [e0, List.length_cons, hd.length]; omega) (fun cdv A outer s H vs Q E hr ⟨v0, vs', d0, ds, sl, e0, h0, hd, hl, e, q⟩ => ⟨_, PSs.nox ((h cdv A outer s H E hr).ps { bo := H }), ?_⟩), hm, F.kp, F.bindsN hb, .nil⟩
  subst e0
  have e' : runB m g (d0 :: ds) = some sl ∧ ∀ lo hi, sl ≠ .rng lo hi := by
    unfold runB' clean at e
    split at e
    · cases e
    · rename_i hne
      exact ⟨e, fun lo hi z => by subst z; exact hne _ _ e⟩
  obtain ⟨e1, hs⟩ := e'
  have hlv := hd.length
  have R : RepS ⟨P, w, K⟩ { bo := H } (L2.start N (v0 :: vs')) H (.bor d0 :: ds.map .dat ++ uns m) := by
    refine ⟨?_, fun a o e => ?_, fun i s e => ?_, fun i j a hij hi hj => ?_, fun a e => by cases e⟩
    · rw [start_len (by simp; omega)]; simp [uns]; omega
    · rw [kp_bo] at e; exact e
    · cases i with
      | zero => cases e; exact ⟨v0, start_get rfl, h0⟩
      | succ i =>
        have e2 : (ds.map Sl.dat ++ uns m)[i]? = some s := by simpa using e
        rcases env_get e2 with ⟨d, hd', rfl⟩ | rfl
        · obtain ⟨v, hv, dv⟩ := hd.get hd'
          exact ⟨v, start_get (by simpa using hv), dv⟩
        · trivial
    · cases i with
      | zero => exact hi.elim
      | succ i => exact absurd (show mutS (ds.map Sl.dat ++ uns m)[i]? by simpa using hi) env_nomut
  unfold runB at e1
  cases ho : g (.bor d0 :: ds.map .dat ++ uns m) with
  | none => simp only [ho] at e1; cases e1
  | some o =>
    simp only [ho] at e1
    refine ⟨_, o, R, ho, ?_⟩
    have kpS : ∀ {σ' : Sg} {H' : Hp} {ρ' : Env}, RepS ⟨P, w, K⟩ { bo := H } σ' H' ρ' → Same H H' := fun R' a o e => R'.keep a o (by rw [kp_bo]; exact e)
    cases o with
    | nx ρ' => cases e1; exact fun σ' H' R' g' => q _ H' (kpS R') .non
    | rt s0 ρ' => cases e1; exact fun v σ' H' R' n g' => q v H' (kpS R') (res_of n hs)
    | bk ρ' => cases e1
    | ct ρ' => cases e1
def cleanI (f : FI) : FI := fun os ds => match f os ds with
  | some (.rng _ _, _) => none
  | r => r
def runI' (m : Nat) (g : MS) : FI := cleanI (runI m g)
theorem cal_io (F : FunD K x x params body scope [] [] f fd) (hm : mg x = some (.ref f)) (S : FnScope N ps scope) (n : Nat) (hn : ps.length = n + 1) (hN : ps.length + m = N.length)
    (hb : ∀ (kV doc pm : Value) (an : Option Addr) (cdv ct : Value) (us : List Value), us.length = ps.length → bindArgs (PySem.W.fnOf x x params body scope .none kV doc pm an cdv ct) ⟨us, []⟩ = pure (ps.zip us))
    (h : ∀ cdv A outer s H E, Room k (BX P w K mg base N x scope f cdv A outer s H E).A → DSs (BX P w K mg base N x scope f cdv A outer s H E) body g) : IF P w K mg base (k + 1) x n (runI' m g) := by
  refine ⟨f, fd, ps, [], F.ok S (fun vs H Q E ⟨a, xs, os, vs', ds, s, os', e0, _, _, hd, hl, _⟩ => by rw [e0, List.length_cons, hd.length]; omega)
    (fun cdv A outer s H vs Q E hr ⟨a, xs, os, vs', ds, sl, os', e0, ha, hx, hd, hl, e, q⟩ => ⟨_, PSs.nox ((h cdv A outer s H E hr).ps { bo := fun b => if b = a then none else H b, anc := some a }), ?_⟩), hm, F.kp, F.bindsN hb, .nil⟩
  subst e0
  have e' : runI m g os ds = some (sl, os') ∧ ∀ lo hi, sl ≠ .rng lo hi := by
    unfold runI' cleanI at e
    split at e
    · cases e
    · rename_i hne
      exact ⟨e, fun lo hi z => by subst z; exact hne _ _ _ e⟩
  obtain ⟨e1, hs⟩ := e'
  have hlv := hd.length
  have kp1 : ∀ b, (Wt.kp { bo := fun b => if b = a then none else H b, anc := some a }) b = if b = a then none else H b := fun b => by
    unfold Wt.kp
    by_cases hb : b = a
    · simp [hb]
    · simp only [hb, if_false]
      cases H b <;> rfl
  have R : RepS ⟨P, w, K⟩ { bo := fun b => if b = a then none else H b, anc := some a } (L2.start N (.ref a :: vs')) H (.own os :: ds.map .dat ++ uns m) := by
    refine ⟨?_, fun b o e => ?_, fun i s e => ?_, fun i j b hij hi hj => ?_, fun b e => ?_⟩
    · rw [start_len (by simp; omega)]; simp [uns]; omega
    · rw [kp1] at e
      by_cases hb : b = a
      · rw [if_pos hb] at e; cases e
      · rw [if_neg hb] at e; exact e
    · cases i with
      | zero => cases e; exact ⟨a, xs, start_get rfl, by rw [kp1, if_pos rfl], ha, hx⟩
      | succ i =>
        have e2 : (ds.map Sl.dat ++ uns m)[i]? = some s := by simpa using e
        rcases env_get e2 with ⟨d, hd', rfl⟩ | rfl
        · obtain ⟨v, hv, dv⟩ := hd.get hd'
          exact ⟨v, start_get (by simpa using hv), dv⟩
        · trivial
    · cases i with
      | zero =>
        cases j with
        | zero => exact absurd rfl hij
        | succ j => exact absurd (show mutS (ds.map Sl.dat ++ uns m)[j]? by simpa using hj) env_nomut
      | succ i => exact absurd (show mutS (ds.map Sl.dat ++ uns m)[i]? by simpa using hi) env_nomut
    · cases e; exact ⟨start_get rfl, os, rfl⟩
  have fin : ∀ {σ' : Sg} {H' : Hp} {ρ' : Env} {v : V} {s0 : Sl}, RepS ⟨P, w, K⟩ { bo := fun b => if b = a then none else H b, anc := some a } σ' H' ρ' → NewS ⟨P, w, K⟩ { bo := fun b => if b = a then none else H b, anc := some a } σ' ρ' H' v s0 → endI s0 ρ' = some (sl, os') → Q v H' := by
    intro σ' H' ρ' v s0 R' n' ee
    obtain ⟨h1, ds1, h2⟩ := R'.anc a rfl
    unfold endI at ee
    split at ee
    · rename_i os1 r
      cases ee
      obtain ⟨b, ys, eb, _, h3, h4⟩ := R'.at_ 0 _ (by rfl : (Sl.own os' :: r)[0]? = some (.own os'))
      rw [h1] at eb; cases eb
      have res : ResS ⟨P, w, K⟩ H H' v sl := by
        have ne : ∀ b, (Wt.kp { bo := fun b => if b = a then none else H b, anc := some a }) b = none → Ap (Sl.own os' :: r) σ' b → H b = none := fun b e ap => by
          rw [kp1] at e
          by_cases hb : b = a
          · subst hb; exact absurd h1 (ap 0 trivial)
          · rw [if_neg hb] at e; exact e
        cases sl with
        | dat d => exact n'
        | own ds => obtain ⟨b, xs, e, hw, g1, g2, ap⟩ := n'; exact ⟨b, xs, e, ne b hw ap, g1, g2⟩
        | dic ds => obtain ⟨b, xs, e, hw, g1, g2, ap⟩ := n'; exact ⟨b, xs, e, ne b hw ap, g1, g2⟩
        | rng lo hi => exact absurd rfl (hs lo hi)
        | _ => exact n'.elim
      exact q v H' ys (fun b o hb e => R'.keep b o (by rw [kp1, if_neg hb]; exact e)) h3 h4 res
    · cases ee
  unfold runI at e1
  cases ho : g (.own os :: ds.map .dat ++ uns m) with
  | none => simp only [ho] at e1; cases e1
  | some o =>
    simp only [ho] at e1
    refine ⟨_, o, R, ho, ?_⟩
    cases o with
    | nx ρ' => exact fun σ' H' R' g' => fin (s0 := .dat .none) R' (show Df _ _ _ _ from .non) e1
    | rt s0 ρ' => exact fun v σ' H' R' n g' => fin R' n e1
    | bk ρ' => cases e1
    | ct ρ' => cases e1
end

theorem ResS.new {Γ : Wd} {W : Wt} {σ : Sg} {H H' : Hp} {ρ ρ' : Env} {v : V} {s : Sl} (R : RepS Γ W σ H ρ) (R' : RepS Γ W σ H' ρ') (hm : ∀ i : Nat, mutS ρ'[i]? → mutS ρ[i]?) (r : ResS Γ H H' v s) : NewS Γ W σ ρ' H' v s := by
  have ap : ∀ a, H a = none → Ap ρ' σ a := fun a h i hi e => R.ap h i (hm i hi) e
  cases s with
  | dat d => exact r
  | own ds => obtain ⟨a, xs, e, h0, h1, h2⟩ := r; exact ⟨a, xs, e, R.kp_none h0, h1, h2, ap a h0⟩
  | dic ds => obtain ⟨a, xs, e, h0, h1, h2⟩ := r; exact ⟨a, xs, e, R.kp_none h0, h1, h2, ap a h0⟩
  | _ => exact r.elim
def mCall (f : FD) (fr : M (List PyData)) : M Sl := fun ρ => match fr ρ with
  | some (ds, ρ') => (match f ds with
    | some s => some (s, ρ')
    | none => none)
  | none => none
section
variable {X : Cx} {k j n : Nat} {x : Str} {f : FD} {e : Expr} {es : List Expr} {fr : M (List PyData)} {p pos : Pos}
theorem se_call (c : PF X.prog X.w X.K X.mg X.base k x n f) (hr : Room j X.A) (hk : k ≤ j) (ha : DAn X (e :: es) fr) (hn : (e :: es).length = n := by rfl) (hg : Gl X x := by rfl)
    (hdb : (x == ("__debug__" : Str)) = false := by decide) (he : starEach (e :: es) X.env = (false, eval e X.env) :: starEach es X.env := by rfl) (hpl : (backTo pos (starEach es X.env)).any (·.1) = false := by rfl) : SE X (.Call (.Name x p) (e :: es) [] pos) (mCall f fr) := by
  refine ⟨fun W => (pe_c c hr hk hg (ha.pa W) hdb he hpl).imp fun σ H Q ⟨ρ, s, ρ', R, h, q⟩ => ?_⟩
  unfold mCall at h
  split at h
  · rename_i ds ρ1 e1
    split at h
    · rename_i s' e2
      cases h
      refine ⟨ρ, ds, ρ', R, e1, fun vs H1 R1 D1 g1 => ⟨ds, s, by simpa using D1, by rw [ha.num _ _ _ e1]; exact hn, e2, fun v H2 sm r => ?_⟩⟩
      have R2 := R1.same sm
      exact q v H2 R2 (ResS.new R1 R2 (fun i h => h) r) (g1.trans (.same sm))
    · cases h
  · cases h
/-- f() -/
def mCall0 (f : FD) : M Sl := fun ρ => match f [] with
  | some s => some (s, ρ)
  | none => none
theorem se_call0 (c : PF X.prog X.w X.K X.mg X.base k x 0 f) (hr : Room j X.A) (hk : k ≤ j) (hg : Gl X x := by rfl) (hdb : (x == ("__debug__" : Str)) = false := by decide) : SE X (.Call (.Name x p) [] [] pos) (mCall0 f) := by
  obtain ⟨fa, fd, ps, ds, F, hm, kp, b, d⟩ := c.ex
  refine ⟨fun W => (pe_call0 (E := C8.E0) F (hr.mono hk) hg hm kp b d C8.pass0 hdb).imp fun σ H Q ⟨ρ, s, ρ', R, h, q⟩ => ?_⟩
  unfold mCall0 at h
  split at h
  · rename_i s' e2
    cases h
    refine ⟨[], s, .nil, rfl, e2, fun v H2 sm r => ?_⟩
    have R2 := R.same sm
    exact q v H2 R2 (ResS.new R R2 (fun i h => h) r) (.same sm)
  · cases h
/-- f(k = v, ..) -/
def mCallK (f : FD) (g : List PyData → List PyData) (fr : M (List PyData)) : M Sl := fun ρ => match fr ρ with
  | some (ds, ρ') => (match f (g ds) with
    | some s => some (s, ρ')
    | none => none)
  | none => none
structure DK (X : Cx) (kws : List Keyword) (f : M (List PyData)) : Prop where
  pk : ∀ W, PK X kws (rdA (wdX X) W f)
theorem _root_.L2.PK.imp {kws : List Keyword} {t t' : TA} (h : PK X kws t) (i : ∀ σ H Q, t' σ H Q → t σ H Q) : PK X kws t' := ⟨fun pos pins s σ H Q I hq => h.run pos pins s σ H Q I (i _ _ _ hq)⟩
theorem dk_nil : DK X [] aNil := ⟨fun W => pk_nil.imp fun σ H Q ⟨ρ, d, ρ', R, e, k⟩ => by cases e; exact k [] H R .nil (.refl H)⟩
theorem dk_cons {nm : Option Str} {kpos : Pos} {kws : List Keyword} {fa : M PyData} (ha : DE X e fa) (hr : DK X kws fr) : DK X (⟨nm, e, kpos⟩ :: kws) (aCons fa fr) := by
  refine ⟨fun W => (pk_cons (ha.pe W) (hr.pk W)).imp fun σ H Q ⟨ρ, d, ρ', R, h, k⟩ => ?_⟩
  obtain ⟨x, ρ1, xs, e1, e2, rfl⟩ := aCons_inv h
  exact ⟨ρ, x, ρ1, R, e1, fun v H1 R1 D1 g1 => ⟨ρ1, xs, ρ', R1, e2, fun vs H2 R2 D2 g2 => k _ H2 R2 (.cons (D1.grow g2) D2) (g1.trans g2)⟩⟩
/-- a def that may be called by keywords alone -/
structure CalK (P : Program) (w : World) (K : PySem.W.Frag) (mg : Str → Option Value) (base : Heap) (k : Nat) (x : Str) (n : Nat) (f : FD) (ks : List Str) (gD : List PyData → List PyData) : Prop where
  ex : ∃ (fa : Addr) (fd : FuncData) (ps : List Str) (g : List Value → List Value → List Value) (gV : List V → List V → List V), FnOk P w K mg base C8.CX0 k fa fd ps (spP ⟨P, w, K⟩ n f) ∧ mg x = some (.ref fa) ∧ PySem.W.keepIn K (.ref fa) = true ∧ KBinds K fd ps ks g gV ∧ ∀ H vs ds, DfA ⟨P, w, K⟩ H vs ds → ds.length = ks.length → DfA ⟨P, w, K⟩ H (gV [] vs) (gD ds) ∧ (gD ds).length = n
theorem se_callK {kws : List Keyword} {ks : List Str} {gD : List PyData → List PyData} (c : CalK X.prog X.w X.K X.mg X.base k x n f ks gD) (hr : Room j X.A) (hk : k ≤ j) (ha : DK X kws fr) (hn : ∀ ρ ds ρ', fr ρ = some (ds, ρ') → ds.length = ks.length) (hg : Gl X x := by rfl)
    (hdb : (x == ("__debug__" : Str)) = false := by decide) (hall : (backToKw pos (keywordEach kws X.env)).all (·.1.isSome) = true := by rfl) (hks : (backToKw pos (keywordEach kws X.env)).filterMap (·.1) = ks := by rfl)
    (hpl : ((backTo pos (starEach [] X.env)).any (·.1) || (backToKw pos (keywordEach kws X.env)).any (·.1.isNone)) = false := by rfl) : SE X (.Call (.Name x p) [] kws pos) (mCallK f gD fr) := by
  obtain ⟨fa, fd, ps, g, gV, F, hm, kp, hb, hgd⟩ := c.ex
  refine ⟨fun W => ⟨fun pins s σ H Q I ⟨ρ, sl, ρ', R, h, q⟩ => ?_⟩⟩
  unfold mCallK at h
  split at h
  · rename_i ds ρ1 e1
    split at h
    · rename_i s' e2
      cases h
      refine wpAny_Call_Name_kw (ld_glob I hg hm ?_ hdb)
      refine PySem.W.callWith_KW0 (h₀ := X.base) I.ok.mod.kin kp hall (thn ((ha.pk W).run pos pins s σ H (fun vs H1 => RepS (wdX X) W σ H1 ρ' ∧ DfA (wdX X) H1 vs ds ∧ Grow H H1) I ⟨ρ, ds, ρ', R, e1, fun vs H1 R1 D1 g1 => ⟨R1, D1, g1⟩⟩) fun ws s2 ⟨zs, H2, I2, rz, R2, D2, g2⟩ => ⟨I2.kIn, ?_⟩) hpl
      rw [hks]
      obtain ⟨d1, l1⟩ := hgd H2 zs ds D2 (hn _ _ _ e1)
      refine run_fnk (us := []) (vs := []) (E := C8.E0) F (hr.mono hk) hb C8.pass0 I2 .nil rz ⟨gD ds, sl, d1, l1, e2, fun v H3 sm r => ?_⟩
      have R3 := R2.same sm
      exact q v H3 R3 (ResS.new R2 R3 (fun i h => h) r) (g2.trans (.same sm))
    · cases h
  · cases h
/-- f(name, ..): the name's list or dict is read as it stands -/
def mCallB (i : Nat) (f : FD) (fr : M (List PyData)) : M Sl := fun ρ => match eLoc i ρ with
  | some _ => (match fr ρ with
    | some (ds, ρ') => (match eLoc i ρ' with
      | some (d0, _) => (match f (d0 :: ds) with
        | some s => some (s, ρ')
        | none => none)
      | none => none)
    | none => none)
  | none => none
theorem se_callB (i : Nat) {y : Str} {py : Pos} (c : BF X.prog X.w X.K X.mg X.base k x n f) (hr : Room j X.A) (hk : k ≤ j) (ha : DAn X es fr) (hn : es.length = n := by rfl) (hg : Gl X x := by rfl)
    (hN : X.N[i]? = some y := by rfl) (hv : Vis X.env.scope y := by first | exact Or.inl rfl | exact Or.inr (Or.inl rfl) | exact Or.inr (Or.inr rfl)) (hd : (y == ("__debug__" : Str)) = false := by decide) (hcd : (y == ("__classdict__" : Str)) = false := by decide)
    (hdb : (x == ("__debug__" : Str)) = false := by decide) (he : starEach (.Name y py :: es) X.env = (false, eval (.Name y py) X.env) :: starEach es X.env := by rfl) (hpl : (backTo pos (starEach es X.env)).any (·.1) = false := by rfl) : SE X (.Call (.Name x p) (.Name y py :: es) [] pos) (mCallB i f fr) := by
  refine ⟨fun W => (pe_c c hr hk hg (pa_cons (pe_var (i := i) hN hv hd hcd) (ha.pa W) he) hdb he hpl).imp fun σ H Q ⟨ρ, s, ρ', R, h, q⟩ => ?_⟩
  unfold mCallB at h
  split at h
  · rename_i p0 e0
    obtain ⟨v0, ev, _, _⟩ := eLoc_rep (x := p0.1) (p := p0.2) R e0
    split at h
    · rename_i ds ρ1 e1
      split at h
      · rename_i d0 ρ2 e3
        split at h
        · rename_i s' e2
          cases h
          refine ⟨v0, ev, ρ, ds, ρ', R, e1, fun vs H1 R1 D1 g1 => ?_⟩
          obtain ⟨v', ev', hl', _⟩ := eLoc_rep R1 e3
          rw [ev] at ev'; cases ev'
          refine ⟨v0, vs, d0, ds, s, by simp, hl', D1, by rw [ha.num _ _ _ e1]; exact hn, e2, fun v H2 sm r => ?_⟩
          have R2 := R1.same sm
          exact q v H2 R2 (ResS.new R1 R2 (fun i h => h) r) (g1.trans (.same sm))
        · cases h
      · cases h
    · cases h
  · cases h
end

section
variable {Γ : Wd} {W : Wt} {σ : Sg} {H H' : Hp} {ρ : Env}
theorem Grow.but1 {a : Addr} (hm : Mut (H a)) (k : ∀ b o, b ≠ a → H b = some o → H' b = some o) : Grow H H' := by
  refine ⟨fun b xs e => k b _ (fun z => ?_) e, fun b o u e => k b _ (fun z => ?_) e, fun b o u e => k b _ (fun z => ?_) e⟩ <;> (subst z; rw [e] at hm; exact hm)
theorem RepS.own_step {i : Nat} {a : Addr} {os os' : List PyData} {ys : List V} (R : RepS Γ W σ H ρ) (e : ρ[i]? = some (.own os)) (ha : σ[i]? = some (some (.ref a))) (k : ∀ b o, b ≠ a → H b = some o → H' b = some o) (h1 : H' a = some (.lst ys)) (h2 : DfA Γ H' ys os') : RepS Γ W σ H' (ρ.set i (.own os')) := by
  obtain ⟨b, xs, e1, w, h3, h4⟩ := R.at_ i _ e
  rw [ha] at e1; cases e1
  have g : Grow H H' := .but1 (by rw [h3]; trivial) k
  have hi : i < ρ.length := (List.getElem?_eq_some_iff.mp e).1
  have mut_set : ∀ j, mutS (ρ.set i (.own os'))[j]? → mutS ρ[j]? := fun j hj => by
    by_cases ej : i = j
    · subst ej; rw [e]; trivial
    · rw [List.getElem?_set_ne ej] at hj; exact hj
  refine ⟨by simpa using R.len, fun b o eb => k b o (fun z => by subst z; rw [w] at eb; cases eb) (R.keep b o eb), fun j t ej => ?_, fun j l b hjl hj hl => R.sep j l b hjl (mut_set j hj) (mut_set l hl), fun b hb => ?_⟩
  · by_cases ei : i = j
    · subst ei
      rw [List.getElem?_set_self hi] at ej; cases ej
      exact ⟨a, ys, ha, w, h1, h2⟩
    · rw [List.getElem?_set_ne ei] at ej
      have q := R.at_ j t ej
      have ne : ∀ b, σ[j]? = some (some (.ref b)) → mutS (some t) → b ≠ a := fun b eb mb z => by
        subst z
        exact R.sep j i b (Ne.symm ei) (by rw [ej]; exact mb) (by rw [e]; trivial) eb ha
      cases t with
      | un => trivial
      | dat d => obtain ⟨v, e1, h1⟩ := q; exact ⟨v, e1, h1.grow g⟩
      | own ds => obtain ⟨b, xs, e1, w, h1, h2⟩ := q; exact ⟨b, xs, e1, w, k _ _ (ne b e1 trivial) h1, h2.grow g⟩
      | dic ds => obtain ⟨b, xs, e1, w, h1, h2⟩ := q; exact ⟨b, xs, e1, w, k _ _ (ne b e1 trivial) h1, h2.grow g⟩
      | bor d => exact q
      | rng lo hi => obtain ⟨b, e1, h1⟩ := q; exact ⟨b, e1, g.rng _ _ _ h1⟩
  · obtain ⟨h5, ds, h6⟩ := R.anc b hb
    refine ⟨h5, ?_⟩
    by_cases ek : i = 0
    · subst ek; exact ⟨os', List.getElem?_set_self hi⟩
    · rw [List.getElem?_set_ne ek]; exact ⟨ds, h6⟩
theorem RepS.off_step {a : Addr} (R : RepS Γ W σ H ρ) (hW : W.kp a = none) (hm : Mut (H a)) (ap : Ap ρ σ a) (k : ∀ b o, b ≠ a → H b = some o → H' b = some o) : RepS Γ W σ H' ρ := by
  have g : Grow H H' := .but1 hm k
  refine ⟨R.len, fun b o eb => k b o (fun z => by subst z; rw [hW] at eb; cases eb) (R.keep b o eb), fun j t ej => ?_, R.sep, R.anc⟩
  have q := R.at_ j t ej
  have ne : ∀ b, σ[j]? = some (some (.ref b)) → mutS (some t) → b ≠ a := fun b eb mb z => by
    subst z
    exact ap j (by rw [ej]; exact mb) eb
  cases t with
  | un => trivial
  | dat d => obtain ⟨v, e1, h1⟩ := q; exact ⟨v, e1, h1.grow g⟩
  | own ds => obtain ⟨b, xs, e1, w, h1, h2⟩ := q; exact ⟨b, xs, e1, w, k _ _ (ne b e1 trivial) h1, h2.grow g⟩
  | dic ds => obtain ⟨b, xs, e1, w, h1, h2⟩ := q; exact ⟨b, xs, e1, w, k _ _ (ne b e1 trivial) h1, h2.grow g⟩
  | bor d => exact q
  | rng lo hi => obtain ⟨b, e1, h1⟩ := q; exact ⟨b, e1, g.rng _ _ _ h1⟩
end
def mCallI (i : Nat) (f : FI) (fr : M (List PyData)) : M Sl := fun ρ => if isOwn i ρ = true then (match fr ρ with
    | some (ds, ρ1) => (match ρ1[i]? with
      | some (.own os) => (match f os ds with
        | some (s, os') => some (s, ρ1.set i (.own os'))
        | none => none)
      | _ => none)
    | none => none) else none
/-- the list is new, and is forgotten behind the call -/
def mCallN (f : FI) (fs : M Sl) : M Sl := fun ρ => match fs ρ with
  | some (.own os, ρ1) => (match f os [] with
    | some (s, _) => some (s, ρ1)
    | none => none)
  | _ => none
section
variable {X : Cx} {k j n : Nat} {x : Str} {f : FI} {e : Expr} {es : List Expr} {fr : M (List PyData)} {p pos : Pos}
theorem se_callI (i : Nat) {y : Str} {py : Pos} (c : IF X.prog X.w X.K X.mg X.base k x n f) (hr : Room j X.A) (hk : k ≤ j) (ha : DAn X es fr) (hn : es.length = n := by rfl) (hg : Gl X x := by rfl)
    (hN : X.N[i]? = some y := by rfl) (hv : Vis X.env.scope y := by first | exact Or.inl rfl | exact Or.inr (Or.inl rfl) | exact Or.inr (Or.inr rfl)) (hd : (y == ("__debug__" : Str)) = false := by decide) (hcd : (y == ("__classdict__" : Str)) = false := by decide)
    (hdb : (x == ("__debug__" : Str)) = false := by decide) (he : starEach (.Name y py :: es) X.env = (false, eval (.Name y py) X.env) :: starEach es X.env := by rfl) (hpl : (backTo pos (starEach es X.env)).any (·.1) = false := by rfl) : SE X (.Call (.Name x p) (.Name y py :: es) [] pos) (mCallI i f fr) := by
  refine ⟨fun W => (pe_c c hr hk hg (pa_cons (pe_var (i := i) hN hv hd hcd) (ha.pa W) he) hdb he hpl).imp fun σ H Q ⟨ρ, s, ρ', R, h, q⟩ => ?_⟩
  unfold mCallI at h
  split at h
  · rename_i ho
    obtain ⟨os0, e0⟩ := isOwn_inv ho
    obtain ⟨a, xs0, ev, w0, _, _⟩ := R.at_ i _ e0
    split at h
    · rename_i ds ρ1 e1
      split at h
      · rename_i os e3
        split at h
        · rename_i s' os' e2
          cases h
          refine ⟨_, ev, ρ, ds, ρ1, R, e1, fun vs H1 R1 D1 g1 => ?_⟩
          obtain ⟨b, xs, eb, w, h3, h4⟩ := R1.at_ i _ e3
          rw [ev] at eb; cases eb
          refine ⟨a, xs, os, vs, ds, s, os', by simp, h3, h4, D1, by rw [ha.num _ _ _ e1]; exact hn, e2, fun v H2 ys kk h5 h6 r => ?_⟩
          have R2 := R1.own_step e3 ev kk h5 h6
          refine q v H2 R2 (ResS.new R1 R2 (fun l hl => ?_) r) (g1.trans (.but1 (by rw [h3]; trivial) kk))
          by_cases el : i = l
          · subst el; rw [e3]; trivial
          · rw [List.getElem?_set_ne el] at hl; exact hl
        · cases h
      · cases h
    · cases h
  · cases h
theorem se_callN (c : IF X.prog X.w X.K X.mg X.base k x 0 f) {fs : M Sl} (hr : Room j X.A) (hk : k ≤ j) (ha : SE X e fs) (hg : Gl X x := by rfl)
    (hdb : (x == ("__debug__" : Str)) = false := by decide) (he : starEach [e] X.env = (false, eval e X.env) :: starEach [] X.env := by rfl) (hpl : (backTo pos (starEach [] X.env)).any (·.1) = false := by rfl) : SE X (.Call (.Name x p) [e] [] pos) (mCallN f fs) := by
  refine ⟨fun W => (pe_c c hr hk hg (pa_cons (ha.pe W) pa_nil he) hdb he hpl).imp fun σ H Q ⟨ρ, s, ρ', R, h, q⟩ => ?_⟩
  unfold mCallN at h
  split at h
  · rename_i os ρ1 e1
    split at h
    · rename_i s' os' e2
      cases h
      refine ⟨ρ, _, ρ', R, e1, fun v H1 R1 n1 g1 => ?_⟩
      obtain ⟨a, xs, rfl, w, h1, h2, ap⟩ := n1
      refine ⟨a, xs, os, [], [], s, os', by simp, h1, h2, .nil, rfl, e2, fun v H2 ys kk h5 h6 r => ?_⟩
      have hm : Mut (H1 a) := by rw [h1]; trivial
      have R2 := R1.off_step w hm ap kk
      exact q v H2 R2 (ResS.new R1 R2 (fun i h => h) r) (g1.trans (.but1 hm kk))
    · cases h
  · cases h
end
end Dn
namespace Dn
open PySem PySem.W PySem.Spec PyProof.Rows L2 C8

theorem hu9 {k : Nat} {A : Around} (h : Room k A) : A.units + 9 < cLine := by have := h.un; omega
theorem hu32 {k : Nat} {A : Around} (h : Room k A) : A.units + 32 < cLine := by have := h.un; omega
/-- a constant of the module -/
structure GlD (P : Program) (w : World) (K : PySem.W.Frag) (mg : Str → Option Value) (x : Str) (d : PyData) : Prop where
  ex : ∃ u v, mg x = some u ∧ RelV v u ∧ ∀ H, Df ⟨P, w, K⟩ H v d
theorem GlD.int {P : Program} {w : World} {K : PySem.W.Frag} {mg : Str → Option Value} {x : Str} {i : Int} (h : ∃ t, mg x = some (.int i t)) : GlD P w K mg x (.int i) := by
  obtain ⟨t, h⟩ := h
  exact ⟨_, .int i, h, ⟨t, rfl⟩, fun H => .int i⟩
section
variable {X : Cx} {pos : Pos} {x : Str} {d : PyData}
theorem de_gl (h : GlD X.prog X.w X.K X.mg x d) (hg : Gl X x := by rfl) (hdb : (x == ("__debug__" : Str)) = false := by decide) : DE X (.Name x pos) (eC d) := by
  obtain ⟨u, v, hm, r, hd⟩ := h
  exact de_glob hg hm r hd hdb
end
theorem bt_len : bootBuiltins "len" = some (.builtin "len") := by decide +kernel
theorem bt_all : bootBuiltins "all" = some (.builtin "all") := by decide +kernel
theorem bt_any : bootBuiltins "any" = some (.builtin "any") := by decide +kernel
theorem bt_sum : bootBuiltins "sum" = some (.builtin "sum") := by decide +kernel
theorem bt_abs : bootBuiltins "abs" = some (.builtin "abs") := by decide +kernel
theorem bt_min : bootBuiltins "min" = some (.builtin "min") := by decide +kernel
theorem bt_max : bootBuiltins "max" = some (.builtin "max") := by decide +kernel
theorem bt_repr : bootBuiltins "repr" = some (.builtin "repr") := by decide +kernel
theorem bt_divmod : bootBuiltins "divmod" = some (.builtin "divmod") := by decide +kernel
theorem bt_int : bootBuiltins "int" = some (.type "int") := by decide +kernel
theorem bt_tuple : bootBuiltins "tuple" = some (.type "tuple") := by decide +kernel
theorem bt_list : bootBuiltins "list" = some (.type "list") := by decide +kernel
theorem aLen2 {fa fb : M PyData} {ρ ρ' : Env} {ds : List PyData} (h : aCons fa (aCons fb aNil) ρ = some (ds, ρ')) : ds.length = 2 := by
  obtain ⟨x, ρ1, xs, e1, e2, rfl⟩ := aCons_inv h
  obtain ⟨y, ρ2, ys, e3, e4, rfl⟩ := aCons_inv e2
  cases e4
  rfl
end Dn
namespace Dn
open PySem PySem.W PySem.Spec PyProof.Rows L2 C8
structure FnG (P : Program) (w : World) (K : PySem.W.Frag) (mg : Str → Option Value) (base : Heap) (CX : CXT) (k : Nat) (f : Addr) (fd : FuncData) (ps : List Str) (sp : Sp) : Prop where
  len : ∀ vs H Q E, sp vs H Q E → vs.length = ps.length
  run : ∀ (A : Around) (_ : A.guards = some []) (outer : List PySem.Env) (s : Shared) (H : Hp) (args : Args) (us : List Value) (vs : List V) (Q : VK) (E : XK), Room k A → Env0 P w K mg base A outer s H → BindsTo s fd args (ps.zip us) → Vals vs us → sp vs H Q E →
    codeAny (model P w) A (.call (.ref f) args) (CR CX outer P w H s Q E) s
theorem FnG.mono {P : Program} {w : World} {K : PySem.W.Frag} {mg : Str → Option Value} {base : Heap} {CX : CXT} {j k : Nat} {f : Addr} {fd : FuncData} {ps : List Str} {sp : Sp} (F : FnG P w K mg base CX j f fd ps sp) (h : j ≤ k) : FnG P w K mg base CX k f fd ps sp :=
  ⟨F.len, fun A hgd outer s H args us vs Q E hr => F.run A hgd outer s H args us vs Q E (hr.mono h)⟩
theorem fnG_of {CX : CXT} {P : Program} {w : World} {K : PySem.W.Frag} {mg : Str → Option Value} {base : Heap} {k : Nat} {f : Addr} {name qual : Str} {params : Arguments} {body : List Stmt} {scope : Scope} {dV kV doc pm cdv ct oc : Value} {an od : Option Addr}
    {osl : Array (Option Value)} {N ps : List Str} {sp : Sp} (lk : K.lookup f = some ⟨oc, od, .func (PySem.W.fnOf name qual params body scope dV kV doc pm an cdv ct), osl⟩) (hcd : PySem.W.codeIn K cdv qual = true) (S : FnScope N ps scope)
    (len : ∀ vs H Q E, sp vs H Q E → vs.length = ps.length)
    (hbody : ∀ (A : Around) (_ : A.guards = some []) (outer : List PySem.Env) (s : Shared) (H : Hp) (vs : List V) (Q : VK) (E : XK), Room k (A.deeper (envOfC qual scope s.heap.objs.size f cdv)) → sp vs H Q E →
      ∃ t, PSs (cxOf CX P w K mg base N qual scope f cdv A outer s H E) body t ∧ t { nx := fun _ H' => Q .non H', rt := Q } (L2.start N vs) H) :
    FnG P w K mg base CX (k + 1) f (PySem.W.fnOf name qual params body scope dV kV doc pm an cdv ct) ps sp := by
  refine ⟨len, fun A hgd outer s H args us vs Q E hroom env0 hb r hspec => ?_⟩
  have hlen := len _ _ _ _ hspec
  have kin : K.In s.heap := env0.mod.kin.keeps fun b o e => (env0.bs b o e).1
  have nol : s.heap.NoLimit := env0.mod.nolimit.keeps fun b o e => (env0.bs b o e).1
  have hkd : ∀ y ∈ ps.zip us, scope.names.lookup y.1 = some .local ∨ (scope.names.lookup y.1 = some .cell ∧ ((cellsFrom (s.heap.objs.size + 1) scope.names []).lookup y.1).isSome = true) := fun ⟨n, v⟩ hy => by
    rcases S.par n (List.of_mem_zip hy).1 with q | q
    · exact .inl q
    · exact .inr ⟨q, PySem.W.cellsFrom_some _ _ _ (.inl q)⟩
  refine codeAny_call_function hroom.depth (kin _ _ lk) rfl S.co S.gen rfl (PySem.W.codeRec_of kin hcd) (hb _ _ _ _ ?_)
  refine wpAny_newFunctionEnv_cells S.kind hkd fun env he sb x => ?_
  subst he
  refine ⟨nol.keeps x.toInCall.keep, codeAny_func ?_⟩
  obtain ⟨t, htt, hqq⟩ := hbody A hgd outer s H vs Q E (hroom.deeper _) hspec
  have J0 : Inv (cxOf CX P w K mg base N qual scope f cdv A outer s H E) [] (L2.start N vs) H sb := inv_start S hroom.hd env0 hlen r x
  refine wpAny_mono (htt.run [] sb (L2.start N vs) H _ J0 hqq) (fun fl sz hss => ?_) fun e sz hss => hss
  have leave : ∀ {σ' : Sg} {H' : Hp} {v : V} {u : Value}, Inv (cxOf CX P w K mg base N qual scope f cdv A outer s H E) [] σ' H' sz → RelV v u → Q v H' → CE outer P w H s Q u sz :=
    fun {σ' H' v u} J rvv q => ⟨v, H', J.os, J.bare, J.base, J.hok, rvv, q⟩
  cases fl with
  | ret u =>
    obtain ⟨v, σ', H', J, rvv, q⟩ := hss
    exact leave J rvv q
  | next =>
    obtain ⟨σ', H', J, q⟩ := hss
    exact leave (v := V.non) (u := Value.none) J rfl q
  | brk =>
    obtain ⟨_, _, _, q⟩ := hss
    exact False.elim q
  | cont =>
    obtain ⟨_, _, _, q⟩ := hss
    exact False.elim q
theorem funD_okG {P : Program} {w : World} {K : PySem.W.Frag} {mg : Str → Option Value} {base : Heap} {x qual : Str} {params : Arguments} {body : List Stmt} {scope : Scope} {dvs : List V} {kws : List (Str × V)} {f : Addr} {fd : FuncData} {CX : CXT} {N ps : List Str} {k : Nat} {sp : Sp} (F : FunD K x qual params body scope dvs kws f fd) (S : FnScope N ps scope) (len : ∀ vs H Q E, sp vs H Q E → vs.length = ps.length)
    (hbody : ∀ (cdv : Value) (A : Around) (_ : A.guards = some []) (outer : List PySem.Env) (s : Shared) (H : Hp) (vs : List V) (Q : VK) (E : XK), Room k (A.deeper (envOfC qual scope s.heap.objs.size f cdv)) → sp vs H Q E →
      ∃ t, PSs (cxOf CX P w K mg base N qual scope f cdv A outer s H E) body t ∧ t { nx := fun _ H' => Q .non H', rt := Q } (L2.start N vs) H) : FnG P w K mg base CX (k + 1) f fd ps sp := by
  obtain ⟨oc, od, dV, kV, doc, pm, an, cdv, ct, osl, rfl, lk, hcd, _, _⟩ := F.ex
  exact fnG_of lk hcd S len fun A hgd outer s H vs Q E hr hsp => hbody cdv A hgd outer s H vs Q E hr hsp
structure CalG (P : Program) (w : World) (K : PySem.W.Frag) (mg : Str → Option Value) (base : Heap) (k : Nat) (x : Str) (sp : Sp) : Prop where
  ex : ∃ (f : Addr) (fd : FuncData) (ps : List Str) (ds : List Value), FnG P w K mg base C8.CX0 k f fd ps sp ∧ mg x = some (.ref f) ∧ PySem.W.keepIn K (.ref f) = true ∧ Binds K fd ps ds ∧ Vals [] ds
abbrev PG' (P : Program) (w : World) (K : PySem.W.Frag) (mg : Str → Option Value) (base : Heap) (k : Nat) (x : Str) (n : Nat) (f : FD) : Prop := CalG P w K mg base k x (spP ⟨P, w, K⟩ n f)
abbrev IG' (P : Program) (w : World) (K : PySem.W.Frag) (mg : Str → Option Value) (base : Heap) (k : Nat) (x : Str) (n : Nat) (f : FI) : Prop := CalG P w K mg base k x (spI ⟨P, w, K⟩ n f)
section
variable {P : Program} {w : World} {K : PySem.W.Frag} {mg : Str → Option Value} {base : Heap} {x : Str} {params : Arguments} {body : List Stmt} {scope : Scope} {f : Addr} {fd : FuncData} {N ps : List Str} {k m : Nat} {g : MS}
theorem cal_pureG (F : FunD K x x params body scope [] [] f fd) (hm : mg x = some (.ref f)) (S : FnScope N ps scope) (hN : ps.length + m = N.length)
    (hb : ∀ (kV doc pm : Value) (an : Option Addr) (cdv ct : Value) (us : List Value), us.length = ps.length → bindArgs (PySem.W.fnOf x x params body scope .none kV doc pm an cdv ct) ⟨us, []⟩ = pure (ps.zip us))
    (h : ∀ cdv A outer s H E, (BX P w K mg base N x scope f cdv A outer s H E).A.guards = some [] → Room k (BX P w K mg base N x scope f cdv A outer s H E).A → DSs (BX P w K mg base N x scope f cdv A outer s H E) body g) : PG' P w K mg base (k + 1) x ps.length (runP' m g) := by
  refine ⟨f, fd, ps, [], funD_okG F S (fun vs H Q E ⟨ds, s, hd, hl, _⟩ => by rw [hd.length]; exact hl) (fun cdv A hgd outer s H vs Q E hr ⟨ds, sl, hd, hl, e, q⟩ => ⟨_, PSs.nox ((h cdv A outer s H E hgd hr).ps { bo := H }), ?_⟩), hm, F.kp, F.bindsN hb, .nil⟩
  have e' : runP m g ds = some sl ∧ ∀ lo hi, sl ≠ .rng lo hi := by
    unfold runP' clean at e
    split at e
    · cases e
    · rename_i hne
      exact ⟨e, fun lo hi z => by subst z; exact hne _ _ e⟩
  obtain ⟨e1, hs⟩ := e'
  have R := rep_start (Γ := ⟨P, w, K⟩) (N := N) hd (m := m) (by omega)
  unfold runP at e1
  cases ho : g (ds.map .dat ++ uns m) with
  | none => rw [ho] at e1; cases e1
  | some o =>
    rw [ho] at e1
    refine ⟨_, o, R, ho, ?_⟩
    have kpS : ∀ {σ' : Sg} {H' : Hp} {ρ' : Env}, RepS ⟨P, w, K⟩ { bo := H } σ' H' ρ' → Same H H' := fun R' a o e => R'.keep a o (by rw [kp_bo]; exact e)
    cases o with
    | nx ρ' => cases e1; exact fun σ' H' R' g' => q _ H' (kpS R') .non
    | rt s0 ρ' => cases e1; exact fun v σ' H' R' n g' => q v H' (kpS R') (res_of n hs)
    | bk ρ' => cases e1
    | ct ρ' => cases e1
theorem cal_ioG (F : FunD K x x params body scope [] [] f fd) (hm : mg x = some (.ref f)) (S : FnScope N ps scope) (n : Nat) (hn : ps.length = n + 1) (hN : ps.length + m = N.length)
    (hb : ∀ (kV doc pm : Value) (an : Option Addr) (cdv ct : Value) (us : List Value), us.length = ps.length → bindArgs (PySem.W.fnOf x x params body scope .none kV doc pm an cdv ct) ⟨us, []⟩ = pure (ps.zip us))
    (h : ∀ cdv A outer s H E, (BX P w K mg base N x scope f cdv A outer s H E).A.guards = some [] → Room k (BX P w K mg base N x scope f cdv A outer s H E).A → DSs (BX P w K mg base N x scope f cdv A outer s H E) body g) : IG' P w K mg base (k + 1) x n (runI' m g) := by
  refine ⟨f, fd, ps, [], funD_okG F S (fun vs H Q E ⟨a, xs, os, vs', ds, s, os', e0, _, _, hd, hl, _⟩ => by rw [e0, List.length_cons, hd.length]; omega)
    (fun cdv A hgd outer s H vs Q E hr ⟨a, xs, os, vs', ds, sl, os', e0, ha, hx, hd, hl, e, q⟩ => ⟨_, PSs.nox ((h cdv A outer s H E hgd hr).ps { bo := fun b => if b = a then none else H b, anc := some a }), ?_⟩), hm, F.kp, F.bindsN hb, .nil⟩
  subst e0
  have e' : runI m g os ds = some (sl, os') ∧ ∀ lo hi, sl ≠ .rng lo hi := by
    unfold runI' cleanI at e
    split at e
    · cases e
    · rename_i hne
      exact ⟨e, fun lo hi z => by subst z; exact hne _ _ _ e⟩
  obtain ⟨e1, hs⟩ := e'
  have hlv := hd.length
  have kp1 : ∀ b, (Wt.kp { bo := fun b => if b = a then none else H b, anc := some a }) b = if b = a then none else H b := fun b => by
    unfold Wt.kp
    by_cases hb : b = a
    · simp [hb]
    · simp only [hb, if_false]
      cases H b <;> rfl
  have R : RepS ⟨P, w, K⟩ { bo := fun b => if b = a then none else H b, anc := some a } (L2.start N (.ref a :: vs')) H (.own os :: ds.map .dat ++ uns m) := by
    refine ⟨?_, fun b o e => ?_, fun i s e => ?_, fun i j b hij hi hj => ?_, fun b e => ?_⟩
    · rw [start_len (by simp; omega)]; simp [uns]; omega
    · rw [kp1] at e
      by_cases hb : b = a
      · rw [if_pos hb] at e; cases e
      · rw [if_neg hb] at e; exact e
    · cases i with
      | zero => cases e; exact ⟨a, xs, start_get rfl, by rw [kp1, if_pos rfl], ha, hx⟩
      | succ i =>
        have e2 : (ds.map Sl.dat ++ uns m)[i]? = some s := by simpa using e
        rcases env_get e2 with ⟨d, hd', rfl⟩ | rfl
        · obtain ⟨v, hv, dv⟩ := hd.get hd'
          exact ⟨v, start_get (by simpa using hv), dv⟩
        · trivial
    · cases i with
      | zero =>
        cases j with
        | zero => exact absurd rfl hij
        | succ j => exact absurd (show mutS (ds.map Sl.dat ++ uns m)[j]? by simpa using hj) env_nomut
      | succ i => exact absurd (show mutS (ds.map Sl.dat ++ uns m)[i]? by simpa using hi) env_nomut
    · cases e; exact ⟨start_get rfl, os, rfl⟩
  have fin : ∀ {σ' : Sg} {H' : Hp} {ρ' : Env} {v : V} {s0 : Sl}, RepS ⟨P, w, K⟩ { bo := fun b => if b = a then none else H b, anc := some a } σ' H' ρ' → NewS ⟨P, w, K⟩ { bo := fun b => if b = a then none else H b, anc := some a } σ' ρ' H' v s0 → endI s0 ρ' = some (sl, os') → Q v H' := by
    intro σ' H' ρ' v s0 R' n' ee
    obtain ⟨h1, ds1, h2⟩ := R'.anc a rfl
    unfold endI at ee
    split at ee
    · rename_i os1 r
      cases ee
      obtain ⟨b, ys, eb, _, h3, h4⟩ := R'.at_ 0 _ (by rfl : (Sl.own os' :: r)[0]? = some (.own os'))
      rw [h1] at eb; cases eb
      have res : ResS ⟨P, w, K⟩ H H' v sl := by
        have ne : ∀ b, (Wt.kp { bo := fun b => if b = a then none else H b, anc := some a }) b = none → Ap (Sl.own os' :: r) σ' b → H b = none := fun b e ap => by
          rw [kp1] at e
          by_cases hb : b = a
          · subst hb; exact absurd h1 (ap 0 trivial)
          · rw [if_neg hb] at e; exact e
        cases sl with
        | dat d => exact n'
        | own ds => obtain ⟨b, xs, e, hw, g1, g2, ap⟩ := n'; exact ⟨b, xs, e, ne b hw ap, g1, g2⟩
        | dic ds => obtain ⟨b, xs, e, hw, g1, g2, ap⟩ := n'; exact ⟨b, xs, e, ne b hw ap, g1, g2⟩
        | rng lo hi => exact absurd rfl (hs lo hi)
        | _ => exact n'.elim
      exact q v H' ys (fun b o hb e => R'.keep b o (by rw [kp1, if_neg hb]; exact e)) h3 h4 res
    · cases ee
  unfold runI at e1
  cases ho : g (.own os :: ds.map .dat ++ uns m) with
  | none => simp only [ho] at e1; cases e1
  | some o =>
    simp only [ho] at e1
    refine ⟨_, o, R, ho, ?_⟩
    cases o with
    | nx ρ' => exact fun σ' H' R' g' => fin (s0 := .dat .none) R' (show Df _ _ _ _ from .non) e1
    | rt s0 ρ' => exact fun v σ' H' R' n g' => fin R' n e1
    | bk ρ' => cases e1
    | ct ρ' => cases e1
end
theorem pe_cG {X : Cx} {k j : Nat} {x : Str} {sp : Sp} {p pos : Pos} {e : Expr} {es : List Expr} {t : TA} (c : CalG X.prog X.w X.K X.mg X.base k x sp) (hgd : X.A.guards = some []) (hr : Room j X.A) (hk : k ≤ j) (hg : Gl X x) (ha : PA X (e :: es) t)
    (hdb : (x == ("__debug__" : Str)) = false := by decide) (he : starEach (e :: es) X.env = (false, eval e X.env) :: starEach es X.env := by rfl) (hpl : (backTo pos (starEach es X.env)).any (·.1) = false := by rfl) :
    PE X (.Call (.Name x p) (e :: es) [] pos) (tCall sp [] C8.E0 t) := by
  obtain ⟨f, fd, ps, ds, F0, hm, kp, hb, hd⟩ := c.ex
  have F := F0.mono hk
  refine ⟨fun pins s σ H Q I h => ?_⟩
  refine wpAny_Call_Name_kw (ld_glob I hg hm ?_ hdb)
  refine PySem.W.callWith_K (h₀ := X.base) I.ok.mod.kin kp (thn (ha.run pos pins s σ H _ I h) fun us s1 ⟨vs, H1, I1, r, q⟩ => ⟨I1.kIn, ?_⟩) he hpl
  have r2 : Vals (vs ++ []) (us ++ ds) := r.append hd
  have hl : (us ++ ds).length = ps.length := by rw [← r2.length]; exact F.len _ _ _ _ q
  refine wpAny_call (codeAny_mono (F.run X.A hgd X.stack s1 H1 ⟨us, []⟩ (us ++ ds) (vs ++ []) Q C8.E0 hr I1.env0 (hb s1 us I1.kIn hl) r2 q) fun r s' hq => ?_)
  cases r with
  | error e => exact C8.pass0 (E := C8.E0) pins σ H1 s1 e s' I1 hq
  | ok fl =>
    cases fl with
    | ret u => exact I1.after hq
    | next => exact False.elim hq
    | brk => exact False.elim hq
    | cont => exact False.elim hq
section
variable {X : Cx} {k j n : Nat} {x : Str} {f : FD} {e : Expr} {es : List Expr} {fr : M (List PyData)} {p pos : Pos}
theorem se_callG (c : PG' X.prog X.w X.K X.mg X.base k x n f) (hgd : X.A.guards = some []) (hr : Room j X.A) (hk : k ≤ j) (ha : DAn X (e :: es) fr) (hn : (e :: es).length = n := by rfl) (hg : Gl X x := by rfl)
    (hdb : (x == ("__debug__" : Str)) = false := by decide) (he : starEach (e :: es) X.env = (false, eval e X.env) :: starEach es X.env := by rfl) (hpl : (backTo pos (starEach es X.env)).any (·.1) = false := by rfl) : SE X (.Call (.Name x p) (e :: es) [] pos) (mCall f fr) := by
  refine ⟨fun W => (pe_cG c hgd hr hk hg (ha.pa W) hdb he hpl).imp fun σ H Q ⟨ρ, s, ρ', R, h, q⟩ => ?_⟩
  unfold mCall at h
  split at h
  · rename_i ds ρ1 e1
    split at h
    · rename_i s' e2
      cases h
      refine ⟨ρ, ds, ρ', R, e1, fun vs H1 R1 D1 g1 => ⟨ds, s, by simpa using D1, by rw [ha.num _ _ _ e1]; exact hn, e2, fun v H2 sm r => ?_⟩⟩
      have R2 := R1.same sm
      exact q v H2 R2 (ResS.new R1 R2 (fun i h => h) r) (g1.trans (.same sm))
    · cases h
  · cases h
end
section
variable {X : Cx} {k j n : Nat} {x : Str} {f : FI} {e : Expr} {es : List Expr} {fr : M (List PyData)} {p pos : Pos}
theorem se_callIG (i : Nat) {y : Str} {py : Pos} (c : IG' X.prog X.w X.K X.mg X.base k x n f) (hgd : X.A.guards = some []) (hr : Room j X.A) (hk : k ≤ j) (ha : DAn X es fr) (hn : es.length = n := by rfl) (hg : Gl X x := by rfl)
    (hN : X.N[i]? = some y := by rfl) (hv : Vis X.env.scope y := by first | exact Or.inl rfl | exact Or.inr (Or.inl rfl) | exact Or.inr (Or.inr rfl)) (hd : (y == ("__debug__" : Str)) = false := by decide) (hcd : (y == ("__classdict__" : Str)) = false := by decide)
    (hdb : (x == ("__debug__" : Str)) = false := by decide) (he : starEach (.Name y py :: es) X.env = (false, eval (.Name y py) X.env) :: starEach es X.env := by rfl) (hpl : (backTo pos (starEach es X.env)).any (·.1) = false := by rfl) : SE X (.Call (.Name x p) (.Name y py :: es) [] pos) (mCallI i f fr) := by
  refine ⟨fun W => (pe_cG c hgd hr hk hg (pa_cons (pe_var (i := i) hN hv hd hcd) (ha.pa W) he) hdb he hpl).imp fun σ H Q ⟨ρ, s, ρ', R, h, q⟩ => ?_⟩
  unfold mCallI at h
  split at h
  · rename_i ho
    obtain ⟨os0, e0⟩ := isOwn_inv ho
    obtain ⟨a, xs0, ev, w0, _, _⟩ := R.at_ i _ e0
    split at h
    · rename_i ds ρ1 e1
      split at h
      · rename_i os e3
        split at h
        · rename_i s' os' e2
          cases h
          refine ⟨_, ev, ρ, ds, ρ1, R, e1, fun vs H1 R1 D1 g1 => ?_⟩
          obtain ⟨b, xs, eb, w, h3, h4⟩ := R1.at_ i _ e3
          rw [ev] at eb; cases eb
          refine ⟨a, xs, os, vs, ds, s, os', by simp, h3, h4, D1, by rw [ha.num _ _ _ e1]; exact hn, e2, fun v H2 ys kk h5 h6 r => ?_⟩
          have R2 := R1.own_step e3 ev kk h5 h6
          refine q v H2 R2 (ResS.new R1 R2 (fun l hl => ?_) r) (g1.trans (.but1 (by rw [h3]; trivial) kk))
          by_cases el : i = l
          · subst el; rw [e3]; trivial
          · rw [List.getElem?_set_ne el] at hl; exact hl
        · cases h
      · cases h
    · cases h
  · cases h
theorem se_callNG (c : IG' X.prog X.w X.K X.mg X.base k x 0 f) {fs : M Sl} (hgd : X.A.guards = some []) (hr : Room j X.A) (hk : k ≤ j) (ha : SE X e fs) (hg : Gl X x := by rfl)
    (hdb : (x == ("__debug__" : Str)) = false := by decide) (he : starEach [e] X.env = (false, eval e X.env) :: starEach [] X.env := by rfl) (hpl : (backTo pos (starEach [] X.env)).any (·.1) = false := by rfl) : SE X (.Call (.Name x p) [e] [] pos) (mCallN f fs) := by
  refine ⟨fun W => (pe_cG c hgd hr hk hg (pa_cons (ha.pe W) pa_nil he) hdb he hpl).imp fun σ H Q ⟨ρ, s, ρ', R, h, q⟩ => ?_⟩
  unfold mCallN at h
  split at h
  · rename_i os ρ1 e1
    split at h
    · rename_i s' os' e2
      cases h
      refine ⟨ρ, _, ρ', R, e1, fun v H1 R1 n1 g1 => ?_⟩
      obtain ⟨a, xs, rfl, w, h1, h2, ap⟩ := n1
      refine ⟨a, xs, os, [], [], s, os', by simp, h1, h2, .nil, rfl, e2, fun v H2 ys kk h5 h6 r => ?_⟩
      have hm : Mut (H1 a) := by rw [h1]; trivial
      have R2 := R1.off_step w hm ap kk
      exact q v H2 R2 (ResS.new R1 R2 (fun i h => h) r) (g1.trans (.but1 hm kk))
    · cases h
  · cases h
end
theorem law_callG {P : Program} {w : World} {K : PySem.W.Frag} {mg mb : Str → Option Value} {CX : CXT} {k : Nat} {fa a : Addr} {fd : FuncData} {x : Str} {sp : Sp} {s₁ : Shared} {vs : List Value} {ns : List Int}
    (KX : K.In s₁.heap) (hglob : s₁.heap.Ns mainGlobals mg) (hbs : s₁.heap.Ns builtinsNs mb) (hbb : ∀ x : Str, x ≠ "__name__" → mb x = bootBuiltins x) (hnol : s₁.heap.NoLimit) (hg : s₁.gens = #[])
    (ha : s₁.heap.get? a = some { cls := .type "list", data := .seq vs.toArray }) (hi : IntsAre vs ns) (hl : ns.length ≤ sizeLine) (hroom : Room k callerA)
    (F : ∀ base : Heap, K.In base → base.Ns mainGlobals mg → FnG P w K mg base CX k fa fd [x] sp) (hbind : ∀ (s : Shared) (u : Value), BindsTo s fd ⟨[u], []⟩ [(x, u)])
    (hsp : ∀ H : Hp, Only H → SqL K H a (ns.map V.int) → sp [.ref a] H (fun v _ => v = .bl true) fun _ _ _ => False)
    (hCX : ∀ H e s', CX [] H s₁ (fun _ _ _ => False) e s' → False) :
    codeAny (model P w) callerA (.call (.ref fa) ⟨[.ref a], []⟩) (fun r s' => r = .ok (.ret (.bool true)) ∧ OldK s₁.heap s'.heap ∧ s'.os = s₁.os ∧ AllBare s'.gens) s₁ := by
  have rvals := vals_ints hi
  have lenIts := hi.length
  have main : ∀ H : Hp, Only H → SqL K H a (ns.map V.int) → HOk P w H s₁.heap → (∀ b, H b ≠ none → b = a) → (H a ≠ none → K.lookup a = none) →
      codeAny (model P w) callerA (.call (.ref fa) ⟨[.ref a], []⟩) (fun r s' => r = .ok (.ret (.bool true)) ∧ OldK s₁.heap s'.heap ∧ s'.os = s₁.os ∧ AllBare s'.gens) s₁ := by
    intro H hOn hSq hokH hOnly hKn
    have baseOf : ∀ {b : Addr} {o : Obj}, s₁.heap.get? b = some o → H b = none → (hidT s₁.heap H).get? b = some o := fun e n => hidT_get e n
    have notA : ∀ {b : Addr} {o : Obj} {es : Array DictEntry} {ep : Nat}, s₁.heap.get? b = some o → o.data = .dict es ep → H b = none := fun {b o es ep} e d => by
      cases eq0 : H b with
      | none => rfl
      | some u =>
        have e' : b = a := hOnly b (by rw [eq0]; simp)
        subst e'
        rw [ha] at e; cases e
        have d' : Data.seq vs.toArray _ = Data.dict es ep := d
        cases d'
    have nsB : ∀ {b : Addr} {m : Str → Option Value}, s₁.heap.Ns b m → (hidT s₁.heap H).Ns b m := fun {b m} ⟨o, es, ep, e, d, r⟩ => ⟨o, es, ep, baseOf e (notA e d), d, r⟩
    have hKB : K.In (hidT s₁.heap H) := fun b o e => baseOf (KX b o e) (by
      cases eq0 : H b with
      | none => rfl
      | some u =>
        have e' : b = a := hOnly b (by rw [eq0]; simp)
        subst e'
        rw [hKn (by rw [eq0]; simp)] at e; cases e)
    have hMod : Mod K mg (hidT s₁.heap H) := ⟨hKB, nsB hglob, ⟨mb, nsB hbs, hbb⟩, let ⟨mc, h1, h2⟩ := hnol; ⟨mc, nsB h1, h2⟩⟩
    have env0 : Env0 P w K mg (hidT s₁.heap H) callerA [] s₁ H := ⟨rfl, hMod, fun b o e => of_hidT e, Nat.le_of_eq (hidT_size _ _), trivial, fun b hbs => absurd (show b ∈ ([] : List Addr) from hbs) (by simp), hokH, .of_eq hg⟩
    refine codeAny_mono ((F _ hKB (nsB hglob)).run callerA rfl [] s₁ H ⟨[.ref a], []⟩ [.ref a] [.ref a] _ _ hroom env0 (hbind s₁ (.ref a)) (.cons rfl .nil) (hsp H hOn hSq)) fun r s' h => ?_
    cases r with
    | error e => exact (hCX H e s' h).elim
    | ok fl =>
      cases fl with
      | next => exact False.elim h
      | brk => exact False.elim h
      | cont => exact False.elim h
      | ret u =>
        obtain ⟨v, H', os, bares, unch, hok', r', eq0⟩ := h
        have q' : v = .bl true := eq0
        subst q'
        obtain rfl : u = Value.bool true := r'
        refine ⟨rfl, OldK.of_keep fun b o e => ?_, os, bares⟩
        cases eq0 : H b with
        | none => exact unch.keep b o e eq0 (by intro z; exact absurd (show b ∈ ([] : List Addr) from z) (by simp)) (by simp)
        | some u =>
          rcases hOn b with z | ⟨ob, xs, z⟩
          · rw [eq0] at z; cases z
          · have zz := unch.frzs b ob _ z
            obtain ⟨e1, _⟩ := hokH b _ z
            obtain ⟨e2, _⟩ := hok' b _ zz
            rw [e] at e1; cases e1
            exact e2
  cases hk : K.lookup a with
  | some o =>
    have e := KX a o hk
    rw [ha] at e
    cases e
    refine main (fun _ => none) (fun _ => .inl rfl) (.inr ⟨_, vs.toArray, _, hk, rfl, rfl, rfl, by rw [List.size_toArray, lenIts]; exact hl, by simpa using rvals⟩) (fun b u z => by have z' : (none : Option HO) = some u := z; cases z') (fun b z => absurd rfl z) fun z => absurd rfl z
  | none =>
    refine main (fun b => if b = a then some (.frz { cls := .type "list", data := .seq vs.toArray } (.lst (ns.map V.int))) else none) (fun b => ?_) (.inl (.inr ⟨{ cls := .type "list", data := .seq vs.toArray }, if_pos rfl⟩)) (fun b u z => ?_) (fun b z => ?_) fun _ => hk
    · by_cases hbs : b = a
      · exact .inr ⟨_, _, if_pos hbs⟩
      · exact .inl (if_neg hbs)
    · by_cases hbs : b = a
      · have z' := (if_pos hbs).symm.trans z
        cases z'
        subst hbs
        exact ⟨ha, by rw [List.length_map]; exact hl, vs, _, rvals, ha⟩
      · have z' := (if_neg hbs).symm.trans z
        cases z'
    · by_cases hbs : b = a
      · exact hbs
      · exact absurd (if_neg hbs) z
theorem walk_ofG {l : PySem.W.OpenLaw} {n k : Nat} {q : Program} {loose : List Str} {XP : (Str → Option Value) → Heap → Prop} {YP : World → Heap → Prop} {d : DefRec} {CX : CXT} {x : Str} (hn : l.most = some n) (hn2 : n ≤ sizeLine) (hdf : d.params.defaults = []) (hr : Room k callerA)
    (F : ∀ (w : World) (mg : Str → Option Value) (fa : Addr) (h : Heap), YP w h → h.Ns mainGlobals mg → mg d.name = some (.ref fa) → ∃ (K : PySem.W.Frag) (fd : FuncData) (sp : Sp), K.In h ∧ (∀ (s : Shared) (u : Value), BindsTo s fd ⟨[u], []⟩ [(x, u)]) ∧
        (∀ (H : Hp) (a : Addr) (ns : List Int), ns.length ≤ n → Only H → SqL K H a (ns.map V.int) → sp [.ref a] H (fun v _ => v = .bl true) fun _ _ _ => False) ∧ ∀ base : Heap, K.In base → base.Ns mainGlobals mg → FnG l.prog w K mg base CX k fa fd [x] sp)
    (hCX : ∀ (H : Hp) (s : Shared) (e : Value) (s' : Shared), CX [] H s (fun _ _ _ => False) e s' → False) : PySem.W.WalkO q loose XP YP l.row.toRowW d [] (fun f vs => PySem.call f vs) := by
  refine Att.attach_call hn hdf fun w s₀ s₁ mg mb fa o pm cd doc a vs ns G Y ho hd hcd hmg hobj hints hlen hg => ?_
  obtain ⟨K, fd, sp, KX, hb, hsp, hF⟩ := F w mg fa _ Y G.T.g hmg
  exact law_callG KX G.T.g G.T.b G.T.builtins G.T.nolimit hg hobj hints (Nat.le_trans hlen hn2) hr hF hb (fun H hO hS => hsp H a ns hlen hO hS) fun H e s' => hCX H s₁ e s'

section
variable {X : Cx} {pos : Pos} {b : Expr} {fb : M PyData}
theorem dt_eqN (i : Nat) {k : Nat} {x : Str} {p : Pos} (hr : Room k X.A) (hb : DE X b fb) (hm : behindInMarks .Eq b = false := by rfl) (hN : X.N[i]? = some x := by rfl) (hv : Vis X.env.scope x := by first | exact Or.inl rfl | exact Or.inr (Or.inl rfl) | exact Or.inr (Or.inr rfl)) (hd : (x == ("__debug__" : Str)) = false := by decide)
    (hcd : (x == ("__classdict__" : Str)) = false := by decide) : DT X (.Compare (.Name x p) [.Eq] [b] pos) (mT (mLoc2 i eqD fb)) := by
  have hun := hr.un
  refine ⟨fun W => (pt_cmpR ((op_eqD (by omega)).or op_eq) (pe_var (i := i) hN hv hd hcd) (hb.pe W) hm).imp fun σ H Q ⟨ρ, t, ρ', R, e, k⟩ => ?_⟩
  obtain ⟨⟨⟨x0, p0⟩, e0⟩, y, x, p, e1, e2, e3⟩ := mLoc2_inv (mT_inv e)
  obtain ⟨v, ev, hl, _⟩ := eLoc_rep R e0
  refine ⟨v, ev, ρ, y, ρ', R, e1, fun u H2 R2 D2 g2 => ?_⟩
  obtain ⟨v', ev', hl', _⟩ := eLoc_rep R2 e2
  rw [ev] at ev'; cases ev'
  refine eq_does (fun c => hl'.dp c) (fun c => D2.dp c) (fun a h => by subst h; exact hl'.str_inv) (fun a h => by subst h; exact D2.str_inv) e3 fun w hw => ⟨_, hw.bl_inv, k H2 R2 g2⟩
theorem dt_neN (i : Nat) {k : Nat} {x : Str} {p : Pos} (hr : Room k X.A) (hb : DE X b fb) (hm : behindInMarks .NotEq b = false := by rfl) (hN : X.N[i]? = some x := by rfl) (hv : Vis X.env.scope x := by first | exact Or.inl rfl | exact Or.inr (Or.inl rfl) | exact Or.inr (Or.inr rfl)) (hd : (x == ("__debug__" : Str)) = false := by decide)
    (hcd : (x == ("__classdict__" : Str)) = false := by decide) : DT X (.Compare (.Name x p) [.NotEq] [b] pos) (mT (mLoc2 i neD fb)) := by
  have hun := hr.un
  refine ⟨fun W => (pt_cmpR ((op_neD (by omega)).or op_ne) (pe_var (i := i) hN hv hd hcd) (hb.pe W) hm).imp fun σ H Q ⟨ρ, t, ρ', R, e, k⟩ => ?_⟩
  obtain ⟨⟨⟨x0, p0⟩, e0⟩, y, x, p, e1, e2, e3⟩ := mLoc2_inv (mT_inv e)
  obtain ⟨v, ev, hl, _⟩ := eLoc_rep R e0
  refine ⟨v, ev, ρ, y, ρ', R, e1, fun u H2 R2 D2 g2 => ?_⟩
  obtain ⟨v', ev', hl', _⟩ := eLoc_rep R2 e2
  rw [ev] at ev'; cases ev'
  refine ne_does (fun c => hl'.dp c) (fun c => D2.dp c) (fun a h => by subst h; exact hl'.str_inv) (fun a h => by subst h; exact D2.str_inv) e3 fun w hw => ⟨_, hw.bl_inv, k H2 R2 g2⟩
end
end Dn
namespace Dn
open PySem PySem.W PySem.Spec PyProof.Rows L2 C8
section
variable {P : Program} {w : World} {K : PySem.W.Frag} {mg : Str → Option Value} {base : Heap} {x : Str} {params : Arguments} {body : List Stmt} {scope : Scope} {f : Addr} {fd : FuncData} {N ps : List Str} {k m : Nat} {g : MS}
theorem fn_pure (F : FunD K x x params body scope [] [] f fd) (S : FnScope N ps scope) (hN : ps.length + m = N.length)
    (h : ∀ cdv A outer s H E, Room k (BX P w K mg base N x scope f cdv A outer s H E).A → DSs (BX P w K mg base N x scope f cdv A outer s H E) body g) : FnOk P w K mg base C8.CX0 (k + 1) f fd ps (spP ⟨P, w, K⟩ ps.length (runP' m g)) := by
  refine F.ok S (fun vs H Q E ⟨ds, s, hd, hl, _⟩ => by rw [hd.length]; exact hl) (fun cdv A outer s H vs Q E hr ⟨ds, sl, hd, hl, e, q⟩ => ⟨_, PSs.nox ((h cdv A outer s H E hr).ps { bo := H }), ?_⟩)
  have e' : runP m g ds = some sl ∧ ∀ lo hi, sl ≠ .rng lo hi := by
    unfold runP' clean at e
    split at e
    · cases e
    · rename_i hne
      exact ⟨e, fun lo hi z => by subst z; exact hne _ _ e⟩
  obtain ⟨e1, hs⟩ := e'
  have R := rep_start (Γ := ⟨P, w, K⟩) (N := N) hd (m := m) (by omega)
  unfold runP at e1
  cases ho : g (ds.map .dat ++ uns m) with
  | none => rw [ho] at e1; cases e1
  | some o =>
    rw [ho] at e1
    refine ⟨_, o, R, ho, ?_⟩
    have kpS : ∀ {σ' : Sg} {H' : Hp} {ρ' : Env}, RepS ⟨P, w, K⟩ { bo := H } σ' H' ρ' → Same H H' := fun R' a o e => R'.keep a o (by rw [kp_bo]; exact e)
    cases o with
    | nx ρ' => cases e1; exact fun σ' H' R' g' => q _ H' (kpS R') .non
    | rt s0 ρ' => cases e1; exact fun v σ' H' R' n g' => q v H' (kpS R') (res_of n hs)
    | bk ρ' => cases e1
    | ct ρ' => cases e1
theorem fn_pureG (F : FunD K x x params body scope [] [] f fd) (S : FnScope N ps scope) (hN : ps.length + m = N.length)
    (h : ∀ cdv A outer s H E, (BX P w K mg base N x scope f cdv A outer s H E).A.guards = some [] → Room k (BX P w K mg base N x scope f cdv A outer s H E).A → DSs (BX P w K mg base N x scope f cdv A outer s H E) body g) : FnG P w K mg base C8.CX0 (k + 1) f fd ps (spP ⟨P, w, K⟩ ps.length (runP' m g)) := by
  refine funD_okG F S (fun vs H Q E ⟨ds, s, hd, hl, _⟩ => by rw [hd.length]; exact hl) (fun cdv A hgd outer s H vs Q E hr ⟨ds, sl, hd, hl, e, q⟩ => ⟨_, PSs.nox ((h cdv A outer s H E hgd hr).ps { bo := H }), ?_⟩)
  have e' : runP m g ds = some sl ∧ ∀ lo hi, sl ≠ .rng lo hi := by
    unfold runP' clean at e
    split at e
    · cases e
    · rename_i hne
      exact ⟨e, fun lo hi z => by subst z; exact hne _ _ e⟩
  obtain ⟨e1, hs⟩ := e'
  have R := rep_start (Γ := ⟨P, w, K⟩) (N := N) hd (m := m) (by omega)
  unfold runP at e1
  cases ho : g (ds.map .dat ++ uns m) with
  | none => rw [ho] at e1; cases e1
  | some o =>
    rw [ho] at e1
    refine ⟨_, o, R, ho, ?_⟩
    have kpS : ∀ {σ' : Sg} {H' : Hp} {ρ' : Env}, RepS ⟨P, w, K⟩ { bo := H } σ' H' ρ' → Same H H' := fun R' a o e => R'.keep a o (by rw [kp_bo]; exact e)
    cases o with
    | nx ρ' => cases e1; exact fun σ' H' R' g' => q _ H' (kpS R') .non
    | rt s0 ρ' => cases e1; exact fun v σ' H' R' n g' => q v H' (kpS R') (res_of n hs)
    | bk ρ' => cases e1
    | ct ρ' => cases e1
theorem fn_bor (F : FunD K x x params body scope [] [] f fd) (S : FnScope N ps scope) (n : Nat) (hn : ps.length = n + 1) (hN : ps.length + m = N.length)
    (h : ∀ cdv A outer s H E, Room k (BX P w K mg base N x scope f cdv A outer s H E).A → DSs (BX P w K mg base N x scope f cdv A outer s H E) body g) : FnOk P w K mg base C8.CX0 (k + 1) f fd ps (spB ⟨P, w, K⟩ n (runB' m g)) := by
  refine F.ok S (fun vs H Q E ⟨v0, vs', d0, ds, s, e0, _, hd, hl, _⟩ => by rw [e0, List.length_cons, hd.length]; omega) (fun cdv A outer s H vs Q E hr ⟨v0, vs', d0, ds, sl, e0, h0, hd, hl, e, q⟩ => ⟨_, PSs.nox ((h cdv A outer s H E hr).ps { bo := H }), ?_⟩)
  subst e0
  have e' : runB m g (d0 :: ds) = some sl ∧ ∀ lo hi, sl ≠ .rng lo hi := by
    unfold runB' clean at e
    split at e
    · cases e
    · rename_i hne
      exact ⟨e, fun lo hi z => by subst z; exact hne _ _ e⟩
  obtain ⟨e1, hs⟩ := e'
  have hlv := hd.length
  have R : RepS ⟨P, w, K⟩ { bo := H } (L2.start N (v0 :: vs')) H (.bor d0 :: ds.map .dat ++ uns m) := by
    refine ⟨?_, fun a o e => ?_, fun i s e => ?_, fun i j a hij hi hj => ?_, fun a e => by cases e⟩
    · rw [start_len (by simp; omega)]; simp [uns]; omega
    · rw [kp_bo] at e; exact e
    · cases i with
      | zero => cases e; exact ⟨v0, start_get rfl, h0⟩
      | succ i =>
        have e2 : (ds.map Sl.dat ++ uns m)[i]? = some s := by simpa using e
        rcases env_get e2 with ⟨d, hd', rfl⟩ | rfl
        · obtain ⟨v, hv, dv⟩ := hd.get hd'
          exact ⟨v, start_get (by simpa using hv), dv⟩
        · trivial
    · cases i with
      | zero => exact hi.elim
      | succ i => exact absurd (show mutS (ds.map Sl.dat ++ uns m)[i]? by simpa using hi) env_nomut
  unfold runB at e1
  cases ho : g (.bor d0 :: ds.map .dat ++ uns m) with
  | none => simp only [ho] at e1; cases e1
  | some o =>
    simp only [ho] at e1
    refine ⟨_, o, R, ho, ?_⟩
    have kpS : ∀ {σ' : Sg} {H' : Hp} {ρ' : Env}, RepS ⟨P, w, K⟩ { bo := H } σ' H' ρ' → Same H H' := fun R' a o e => R'.keep a o (by rw [kp_bo]; exact e)
    cases o with
    | nx ρ' => cases e1; exact fun σ' H' R' g' => q _ H' (kpS R') .non
    | rt s0 ρ' => cases e1; exact fun v σ' H' R' n g' => q v H' (kpS R') (res_of n hs)
    | bk ρ' => cases e1
    | ct ρ' => cases e1
theorem fn_borG (F : FunD K x x params body scope [] [] f fd) (S : FnScope N ps scope) (n : Nat) (hn : ps.length = n + 1) (hN : ps.length + m = N.length)
    (h : ∀ cdv A outer s H E, (BX P w K mg base N x scope f cdv A outer s H E).A.guards = some [] → Room k (BX P w K mg base N x scope f cdv A outer s H E).A → DSs (BX P w K mg base N x scope f cdv A outer s H E) body g) : FnG P w K mg base C8.CX0 (k + 1) f fd ps (spB ⟨P, w, K⟩ n (runB' m g)) := by
  refine funD_okG F S (fun vs H Q E ⟨v0, vs', d0, ds, s, e0, _, hd, hl, _⟩ => by rw [e0, List.length_cons, hd.length]; omega) (fun cdv A hgd outer s H vs Q E hr ⟨v0, vs', d0, ds, sl, e0, h0, hd, hl, e, q⟩ => ⟨_, PSs.nox ((h cdv A outer s H E hgd hr).ps { bo := H }), ?_⟩)
  subst e0
  have e' : runB m g (d0 :: ds) = some sl ∧ ∀ lo hi, sl ≠ .rng lo hi := by
    unfold runB' clean at e
    split at e
    · cases e
    · rename_i hne
      exact ⟨e, fun lo hi z => by subst z; exact hne _ _ e⟩
  obtain ⟨e1, hs⟩ := e'
  have hlv := hd.length
  have R : RepS ⟨P, w, K⟩ { bo := H } (L2.start N (v0 :: vs')) H (.bor d0 :: ds.map .dat ++ uns m) := by
    refine ⟨?_, fun a o e => ?_, fun i s e => ?_, fun i j a hij hi hj => ?_, fun a e => by cases e⟩
    · rw [start_len (by simp; omega)]; simp [uns]; omega
    · rw [kp_bo] at e; exact e
    · cases i with
      | zero => cases e; exact ⟨v0, start_get rfl, h0⟩
      | succ i =>
        have e2 : (ds.map Sl.dat ++ uns m)[i]? = some s := by simpa using e
        rcases env_get e2 with ⟨d, hd', rfl⟩ | rfl
        · obtain ⟨v, hv, dv⟩ := hd.get hd'
          exact ⟨v, start_get (by simpa using hv), dv⟩
        · trivial
    · cases i with
      | zero => exact hi.elim
      | succ i => exact absurd (show mutS (ds.map Sl.dat ++ uns m)[i]? by simpa using hi) env_nomut
  unfold runB at e1
  cases ho : g (.bor d0 :: ds.map .dat ++ uns m) with
  | none => simp only [ho] at e1; cases e1
  | some o =>
    simp only [ho] at e1
    refine ⟨_, o, R, ho, ?_⟩
    have kpS : ∀ {σ' : Sg} {H' : Hp} {ρ' : Env}, RepS ⟨P, w, K⟩ { bo := H } σ' H' ρ' → Same H H' := fun R' a o e => R'.keep a o (by rw [kp_bo]; exact e)
    cases o with
    | nx ρ' => cases e1; exact fun σ' H' R' g' => q _ H' (kpS R') .non
    | rt s0 ρ' => cases e1; exact fun v σ' H' R' n g' => q v H' (kpS R') (res_of n hs)
    | bk ρ' => cases e1
    | ct ρ' => cases e1
end
def mSlN (i : Nat) (fl fu : M (Option Int)) : M PyData := fun ρ => match eLoc i ρ with
  | some _ => (match fl ρ with
    | some (lo, ρ2) => (match fu ρ2 with
      | some (hi, ρ3) => (match eLoc i ρ3 with
        | some (.list ds, _) => some (.list (cutD ds lo hi), ρ3)
        | _ => none)
      | none => none)
    | none => none)
  | none => none
theorem de_sliceN {X : Cx} {pos : Pos} (i : Nat) {y : Str} {py : Pos} {lo hi : Option Expr} {fl fu : M (Option Int)} {p2 : Pos} (hl : DO X lo fl) (hu : DO X hi fu) (hN : X.N[i]? = some y := by rfl) (hv : Vis X.env.scope y := by first | exact Or.inl rfl | exact Or.inr (Or.inl rfl) | exact Or.inr (Or.inr rfl)) (hd : (y == ("__debug__" : Str)) = false := by decide)
    (hcd : (y == ("__classdict__" : Str)) = false := by decide) : DE X (.Subscript (.Name y py) (.Slice lo hi none p2) pos) (mSlN i fl fu) := by
  refine ⟨fun W => ?_⟩
  obtain ⟨tl, hl1, hl2⟩ := hl.po W
  obtain ⟨tu, hu1, hu2⟩ := hu.po W
  refine (pe_slice (slFrz sl_list) (pe_var (i := i) hN hv hd hcd) hl1 hu1).imp fun σ H Q ⟨ρ, z, ρ', R, e, k⟩ => ?_
  unfold mSlN at e
  split at e
  · rename_i p0 e0
    obtain ⟨v, ev, _, _⟩ := eLoc_rep (x := p0.1) (p := p0.2) R e0
    split at e
    · rename_i l ρ2 e2
      split at e
      · rename_i u ρ3 e3
        split at e
        · rename_i ds ρ4 e4
          cases e
          refine ⟨v, ev, hl2 _ _ _ ⟨ρ, l, ρ2, R, e2, fun H2 R2 g2 => hu2 _ _ _ ⟨ρ2, u, ρ', R2, e3, fun H3 R3 g3 => ?_⟩⟩⟩
          obtain ⟨v', ev', hl', _⟩ := eLoc_rep R3 e4
          rw [ev] at ev'; cases ev'
          obtain ⟨l', xs, rfl, h1, h2⟩ := hl'.lst_inv
          refine ⟨l', xs, rfl, h1, fun p hp => ⟨p, _, rfl, upd_same, fun o => ?_⟩⟩
          rw [upd_upd]
          exact k _ _ (R3.same (Same.new hp)) (.lst ⟨o, upd_same⟩ ((cut_df h2 _ _).grow (.new hp))) (g2.trans (g3.trans (.new hp)))
        · cases e
      · cases e
    · cases e
  · cases e
mutual
def datV (K : PySem.W.Frag) : PyData → Value → Bool
  | .none, .none => true
  | .bool b, .bool c => b == c
  | .int i, .int j _ => decide (i = j)
  | .str z, .str y _ => decide (z = y)
  | .tuple ds, .ref a => (match K.lookup a with
    | some ⟨.type c, _, .seq its _, _⟩ => decide (c = "tuple") && decide (its.size ≤ sizeLine) && datA K ds its.toList
    | _ => false)
  | _, _ => false
def datA (K : PySem.W.Frag) : List PyData → List Value → Bool
  | [], [] => true
  | d :: ds, u :: us => datV K d u && datA K ds us
  | _, _ => false
end
mutual
theorem datV_ok {P : Program} {w : World} {K : PySem.W.Frag} : ∀ (d : PyData) (u : Value), datV K d u = true → ∃ v, RelV v u ∧ ∀ H, Df ⟨P, w, K⟩ H v d
  | .none, u, h => by cases u <;> simp only [datV, reduceCtorEq, Bool.false_eq_true] at h; exact ⟨.non, rfl, fun H => .non⟩
  | .bool b, u, h => by
    cases u <;> simp only [datV, reduceCtorEq, Bool.false_eq_true] at h
    rename_i c
    have e : b = c := by simpa using h
    subst e
    exact ⟨.bl b, rfl, fun H => .bl b⟩
  | .int i, u, h => by
    cases u <;> simp only [datV, reduceCtorEq, Bool.false_eq_true] at h
    rename_i j t
    have e : i = j := of_decide_eq_true h
    subst e
    exact ⟨.int i, ⟨t, rfl⟩, fun H => .int i⟩
  | .str z, u, h => by
    cases u <;> simp only [datV, reduceCtorEq, Bool.false_eq_true] at h
    rename_i y t
    have e : z = y := of_decide_eq_true h
    subst e
    exact ⟨.str z, ⟨t, rfl⟩, fun H => .str z⟩
  | .list _, u, h => by cases u <;> simp only [datV, reduceCtorEq, Bool.false_eq_true] at h
  | .dict _, u, h => by cases u <;> simp only [datV, reduceCtorEq, Bool.false_eq_true] at h
  | .tuple ds, u, h => by
    cases u <;> simp only [datV, reduceCtorEq, Bool.false_eq_true] at h
    rename_i a
    split at h
    · rename_i c dd its n sl q
      simp only [Bool.and_eq_true, decide_eq_true_eq] at h
      obtain ⟨⟨h1, h2⟩, h3⟩ := h
      subst h1
      obtain ⟨vs, rv, hd⟩ := datA_ok ds its.toList h3
      exact ⟨.ref a, rfl, fun H => .tup (.inr ⟨_, its, n, q, rfl, rfl, h2, rv⟩) (hd H)⟩
    · cases h
theorem datA_ok {P : Program} {w : World} {K : PySem.W.Frag} : ∀ (ds : List PyData) (us : List Value), datA K ds us = true → ∃ vs, Vals vs us ∧ ∀ H, DfA ⟨P, w, K⟩ H vs ds
  | [], [], _ => ⟨[], .nil, fun H => .nil⟩
  | [], _ :: _, h => by simp [datA] at h
  | _ :: _, [], h => by simp [datA] at h
  | d :: ds, u :: us, h => by
    simp only [datA, Bool.and_eq_true] at h
    obtain ⟨v, r, hv⟩ := datV_ok (P := P) (w := w) d u h.1
    obtain ⟨vs, rs, hvs⟩ := datA_ok (P := P) (w := w) ds us h.2
    exact ⟨v :: vs, .cons r rs, fun H => .cons (hv H) (hvs H)⟩
end
def glB (K : PySem.W.Frag) (q : Str × PyData) : Bool := match PySem.W.nsIn K mainGlobals q.1 with
  | some (some u) => datV K q.2 u
  | _ => false
theorem glB_ok {P : Program} {w : World} {K : PySem.W.Frag} {h : Heap} {mg : Str → Option Value} {x : Str} {d : PyData} (X : K.In h) (G : h.Ns mainGlobals mg) (c : glB K (x, d) = true) : GlD P w K mg x d := by
  unfold glB at c
  split at c
  · rename_i u e
    obtain ⟨v, r, hv⟩ := datV_ok (P := P) (w := w) d u c
    exact ⟨u, v, PySem.W.mg_of X G e, r, hv⟩
  · cases c
abbrev AlG : Type := He.AlD × Bool
def obsG (n : Nat) (fa : List He.Fa) (fn : List He.DefD) (gs : List (Str × PyData)) (g : Addr → Option Obj) : AlG := (He.obsD fa fn (He.frG g (He.asD g n)), gs.all (glB (He.frG g (He.asD g n))))
def hookG (n : Nat) (fa : List He.Fa) (fn : List He.DefD) (gs : List (Str × PyData)) : PySem.W.Hook where
  α := AlG
  obs := fun s => obsG n fa fn gs s.heap.get?
  val := fun _ => (He.valD fn, true)
  says := fun _ h => ∃ K : PySem.W.Frag, K.In h ∧ He.SaysD fa fn K ∧ gs.all (glB K) = true
  of := fun _ _ e => ⟨_, He.frG_in, congrArg (fun z : AlG => z.1) e, congrArg (fun z : AlG => z.2) e⟩
  keeps := fun _ _ _ ⟨K, hK, c⟩ k => ⟨K, PySem.W.Frag.In.keeps hK k, c⟩
theorem obsG_eq {n : Nat} {fa : List He.Fa} {fn : List He.DefD} {gs : List (Str × PyData)} {g : Addr → Option Obj} {s : Shared} (h : ∀ a, g a = s.heap.get? a) : obsG n fa fn gs g = (hookG n fa fn gs).obs s := by
  have e : g = s.heap.get? := funext h
  rw [e] <;> rfl
def swapL {α : Type} (us ws : List α) : List α := match us, ws with
  | [], [a, b] => [b, a]
  | _, _ => []
theorem calK_swap {P : Program} {w : World} {K : PySem.W.Frag} {mg : Str → Option Value} {base : Heap} {x p q : Str} {params : Arguments} {body : List Stmt} {scope : Scope} {f : Addr} {fd : FuncData} {k : Nat} {fD : FD} {sw : List PyData → List PyData} (F : FunD K x x params body scope [] [] f fd) (hm : mg x = some (.ref f))
    (Fn : FnOk P w K mg base C8.CX0 k f fd [p, q] (spP ⟨P, w, K⟩ 2 fD)) (hsw : ∀ a b, sw [a, b] = [b, a])
    (hb : ∀ (kV doc pm : Value) (an : Option Addr) (cdv ct : Value) (a b : Value), bindArgs (PySem.W.fnOf x x params body scope .none kV doc pm an cdv ct) ⟨[], [(q, a), (p, b)]⟩ = pure [(p, b), (q, a)]) : CalK P w K mg base k x 2 fD [q, p] sw := by
  refine ⟨f, fd, [p, q], swapL, swapL, Fn, hm, F.kp, ⟨fun s us ws _ hl => ?_, fun {vs us zs ws} r1 r2 => ?_⟩, fun H vs ds hd hl => ?_⟩
  · match us, ws, hl with
    | [], [a, b], _ =>
      obtain ⟨oc, od, dV, kV, doc, pm, an, cdv, ct, osl, rfl, lk, hcd, hD, hK⟩ := F.ex
      rcases hD with ⟨_, rfl⟩ | ⟨e, _⟩
      · exact .of_eq (hb kV doc pm an cdv ct a b)
      · exact absurd rfl e
  · cases r1 with
    | cons a b =>
      cases r2 with
      | nil => exact .nil
      | cons c d => exact .nil
    | nil =>
      cases r2 with
      | nil => exact .nil
      | cons c d =>
        cases d with
        | nil => exact .nil
        | cons d e =>
          cases e with
          | nil => exact .cons d (.cons c .nil)
          | cons f g => exact .nil
  · match ds, hl with
    | [a, b], _ =>
      obtain ⟨v, u, rfl, h1, h2⟩ := hd.two
      rw [hsw]
      exact ⟨.cons h2 (.cons h1 .nil), rfl⟩
end Dn
namespace Hd
open PySem PySem.Spec PyProof.Rows L2
def topS (i : Nat) : Stmt := PySem.Challenge.pw_tileshifts_k77_whole_boxes_filled_by_box.main.body.getD i (.Pass ⟨0, 0, 0, 0⟩)
abbrev s_is_whole : Stmt := topS 1
abbrev s_is_between : Stmt := topS 2
abbrev s_is_tuple_of : Stmt := topS 3
abbrev s_are_between : Stmt := topS 4
abbrev s_are_rising : Stmt := topS 5
abbrev s_is_cell_by : Stmt := topS 10
abbrev s_are_cells_by : Stmt := topS 11
abbrev s_put_to : Stmt := topS 12
abbrev s_between : Stmt := topS 13
abbrev s_shifted_by : Stmt := topS 14
abbrev s_least_x : Stmt := topS 15
abbrev s_least_y : Stmt := topS 16
abbrev s_beside : Stmt := topS 17
abbrev s_part_with : Stmt := topS 18
abbrev s_do_hang_together : Stmt := topS 19
abbrev s_around : Stmt := topS 20
abbrev s_holes_by : Stmt := topS 21
abbrev s_do_touch_at_corner : Stmt := topS 22
abbrev s_corners_by : Stmt := topS 23
abbrev s_is_shape_by : Stmt := topS 24
abbrev s_check_cells : Stmt := topS 32
abbrev s_check_shape : Stmt := topS 33
abbrev s_check_number : Stmt := topS 34
abbrev s_taken_from : Stmt := topS 36
abbrev s_filling_by : Stmt := topS 37
abbrev s_filling_count_by : Stmt := topS 38
abbrev s_box_by : Stmt := topS 39
abbrev s_check_two : Stmt := topS 42
abbrev s_filling : Stmt := topS 43
abbrev s_filling_count : Stmt := topS 44
abbrev s_box : Stmt := topS 45
abbrev s_box_around_by : Stmt := topS 47
abbrev s_is_box_by : Stmt := topS 48
abbrev s_box_around : Stmt := topS 50
abbrev s_is_box : Stmt := topS 51
abbrev s_is_shape : Stmt := topS 53
abbrev s_law_pool : Stmt := topS 55
abbrev s_law_draw : Stmt := topS 56
abbrev s_law_moved : Stmt := topS 57
abbrev s_law_box : Stmt := topS 58
abbrev s_law_fillings : Stmt := topS 59
abbrev s_law_pair_right : Stmt := topS 60
abbrev s_law_right : Stmt := topS 61
abbrev s_law : Stmt := topS 62
end Hd
namespace Tx
open PySem PySem.W PySem.Spec PyProof.Rows L2 C8 Dn Hd
structure Gv (P : Program) (w : World) (K : PySem.W.Frag) (mg : Str → Option Value) : Prop where
  b_abs : mg "abs" = none
  b_all : mg "all" = none
  b_bool : mg "bool" = none
  b_divmod : mg "divmod" = none
  b_enumerate : mg "enumerate" = none
  b_int : mg "int" = none
  b_isinstance : mg "isinstance" = none
  b_len : mg "len" = none
  b_max : mg "max" = none
  b_min : mg "min" = none
  b_range : mg "range" = none
  b_repr : mg "repr" = none
  b_sorted : mg "sorted" = none
  b_tuple : mg "tuple" = none
  g_MOST_CELLS : GlD P w K mg "MOST_CELLS" (.int (16))
  g_MOST_LONG : GlD P w K mg "MOST_LONG" (.int (16))
  g_SIDES : GlD P w K mg "SIDES" (.tuple [(.tuple [(.int (1)), (.int (0))]), (.tuple [(.int (0)), (.int (1))]), (.tuple [(.int (-1)), (.int (0))]), (.tuple [(.int (0)), (.int (-1))])])
  g_FARTHEST : GlD P w K mg "FARTHEST" (.int (99))
def swap2 (ds : List PyData) : List PyData := match ds with | [a, b] => [b, a] | _ => ds
section
variable {P : Program} {w : World} {K : PySem.W.Frag} {mg : Str → Option Value} {base : Heap}
theorem S_is_whole : FnScope ["value"] ["value"] (defScope s_is_whole) := fnScope_by (by decide +kernel)
def g_is_whole : MS := (sRet (mAnd (m1 (isiD "int") (eVar 0)) (m1 notD (m1 (isiD "bool") (eVar 0)))))
def f_is_whole : FD := runP' 0 g_is_whole
theorem ok_is_whole (G : Gv P w K mg) {f : Addr} {fd : FuncData} (F : FunD K "is_whole" "is_whole" (defArgs s_is_whole) (defBody s_is_whole) (defScope s_is_whole) [] [] f fd) (hm : mg "is_whole" = some (.ref f)) : PF P w K mg base 1 "is_whole" 1 f_is_whole :=
  cal_pure F hm S_is_whole rfl (fun _ _ _ _ _ _ us hl => match us, hl with | [_], _ => rfl) fun cdv A outer s H E hr =>
    (dss_one (ds_ret (de_and (de_isi "int" kit_int (de_var 0) (by rfl) G.b_isinstance (by rfl) G.b_int) (de_one (de_not (de_isi "bool" kit_bool (de_var 0) (by rfl) G.b_isinstance (by rfl) G.b_bool))))))
theorem S_is_tuple_of : FnScope ["value", "many"] ["value", "many"] (defScope s_is_tuple_of) := fnScope_by (by decide +kernel)
def g_is_tuple_of : MS := (sRet (mAnd (m1 (isiD "tuple") (eVar 0)) (m2 eqD (m1 lenD (eLoc 0)) (eVar 1))))
def f_is_tuple_of : FD := runP' 0 g_is_tuple_of
theorem ok_is_tuple_of (G : Gv P w K mg) {f : Addr} {fd : FuncData} (F : FunD K "is_tuple_of" "is_tuple_of" (defArgs s_is_tuple_of) (defBody s_is_tuple_of) (defScope s_is_tuple_of) [] [] f fd) (hm : mg "is_tuple_of" = some (.ref f)) : PF P w K mg base 1 "is_tuple_of" 2 f_is_tuple_of :=
  cal_pure F hm S_is_tuple_of rfl (fun _ _ _ _ _ _ us hl => match us, hl with | [_, _], _ => rfl) fun cdv A outer s H E hr =>
    (dss_one (ds_ret (de_and (de_isi "tuple" kit_tuple (de_var 0) (by rfl) G.b_isinstance (by rfl) G.b_tuple) (de_one (de_cm (c_eq hr) (de_b1 b_len (by rfl) G.b_len bt_len (le_loc 0)) (de_var 1) rfl)))))
theorem S_are_rising : FnScope ["value", "index"] ["value"] (defScope s_are_rising) := fnScope_by (by decide +kernel)
def g_are_rising : MS := (sRet (m1 allD (mFz (mLst (mLC [1] (mRng2 (aCons (eC (.int 1)) (aCons (m1 lenD (eLoc 0)) aNil))) (tgN 1) tAll (m2 ltD (m2 ixD (eVar 0) (m2 subD (eVar 1) (eC (.int 1)))) (m2 ixD (eVar 0) (eVar 1))))))))
def f_are_rising : FD := runP' 1 g_are_rising
theorem ok_are_rising (G : Gv P w K mg) {f : Addr} {fd : FuncData} (F : FunD K "are_rising" "are_rising" (defArgs s_are_rising) (defBody s_are_rising) (defScope s_are_rising) [] [] f fd) (hm : mg "are_rising" = some (.ref f)) : PF P w K mg base 1 "are_rising" 1 f_are_rising :=
  cal_pure F hm S_are_rising rfl (fun _ _ _ _ _ _ us hl => match us, hl with | [_], _ => rfl) fun cdv A outer s H E hr =>
    (dss_one (ds_ret (de_b1 (b_all rfl) (by rfl) G.b_all bt_all (LE.of (de_fz (se_lc rfl S_are_rising.nd (di_rng2 (by rfl) G.b_range (da_cons de_int (da_cons (de_b1 b_len (by rfl) G.b_len bt_len (le_loc 0)) da_nil))) [("index", 1)] (by rfl) (fun _ _ _ _ _ => (dg_name 1 S_are_rising.nd)) (fun _ _ _ _ _ => dts_nil) (fun _ _ _ _ _ => (de_cm (c_lt hr) (de_ix (de_var 0) (de_sub (de_var 1) de_int)) (de_ix (de_var 0) (de_var 1)) rfl))))))))
theorem S_put_to : FnScope ["cell", "shift"] ["cell", "shift"] (defScope s_put_to) := fnScope_by (by decide +kernel)
def g_put_to : MS := (sRet (mTup (aCons (m2 addD (m2 ixD (eVar 0) (eC (.int 0))) (m2 ixD (eVar 1) (eC (.int 0)))) (aCons (m2 addD (m2 ixD (eVar 0) (eC (.int 1))) (m2 ixD (eVar 1) (eC (.int 1)))) aNil))))
def f_put_to : FD := runP' 0 g_put_to
theorem ok_put_to (G : Gv P w K mg) {f : Addr} {fd : FuncData} (F : FunD K "put_to" "put_to" (defArgs s_put_to) (defBody s_put_to) (defScope s_put_to) [] [] f fd) (hm : mg "put_to" = some (.ref f)) : PF P w K mg base 1 "put_to" 2 f_put_to :=
  cal_pure F hm S_put_to rfl (fun _ _ _ _ _ _ us hl => match us, hl with | [_, _], _ => rfl) fun cdv A outer s H E hr =>
    (dss_one (ds_ret (de_tup (da_cons (de_add (de_ix (de_var 0) de_int) (de_ix (de_var 1) de_int)) (da_cons (de_add (de_ix (de_var 0) de_int) (de_ix (de_var 1) de_int)) da_nil)))))
theorem S_between : FnScope ["cell", "other"] ["cell", "other"] (defScope s_between) := fnScope_by (by decide +kernel)
def g_between : MS := (sRet (mTup (aCons (m2 subD (m2 ixD (eVar 0) (eC (.int 0))) (m2 ixD (eVar 1) (eC (.int 0)))) (aCons (m2 subD (m2 ixD (eVar 0) (eC (.int 1))) (m2 ixD (eVar 1) (eC (.int 1)))) aNil))))
def f_between : FD := runP' 0 g_between
theorem ok_between (G : Gv P w K mg) {f : Addr} {fd : FuncData} (F : FunD K "between" "between" (defArgs s_between) (defBody s_between) (defScope s_between) [] [] f fd) (hm : mg "between" = some (.ref f)) : PF P w K mg base 1 "between" 2 f_between :=
  cal_pure F hm S_between rfl (fun _ _ _ _ _ _ us hl => match us, hl with | [_, _], _ => rfl) fun cdv A outer s H E hr =>
    (dss_one (ds_ret (de_tup (da_cons (de_sub (de_ix (de_var 0) de_int) (de_ix (de_var 1) de_int)) (da_cons (de_sub (de_ix (de_var 0) de_int) (de_ix (de_var 1) de_int)) da_nil)))))
theorem S_least_x : FnScope ["cells", "cell"] ["cells"] (defScope s_least_x) := fnScope_by (by decide +kernel)
def g_least_x : MS := (sRet (m1 minL (mFz (mLst (mLC [1] (mItems (eVar 0)) (tgN 1) tAll (m2 ixD (eVar 1) (eC (.int 0))))))))
def f_least_x : FD := runP' 1 g_least_x
theorem ok_least_x (G : Gv P w K mg) {f : Addr} {fd : FuncData} (F : FunD K "least_x" "least_x" (defArgs s_least_x) (defBody s_least_x) (defScope s_least_x) [] [] f fd) (hm : mg "least_x" = some (.ref f)) : PF P w K mg base 1 "least_x" 1 f_least_x :=
  cal_pure F hm S_least_x rfl (fun _ _ _ _ _ _ us hl => match us, hl with | [_], _ => rfl) fun cdv A outer s H E hr =>
    (dss_one (ds_ret (de_b1 (b_min rfl (hu32 hr)) (by rfl) G.b_min bt_min (LE.of (de_fz (se_lc rfl S_least_x.nd (di_val (de_var 0)) [("cell", 1)] (by rfl) (fun _ _ _ _ _ => (dg_name 1 S_least_x.nd)) (fun _ _ _ _ _ => dts_nil) (fun _ _ _ _ _ => (de_ix (de_var 1) de_int))))))))
theorem S_least_y : FnScope ["cells", "cell"] ["cells"] (defScope s_least_y) := fnScope_by (by decide +kernel)
def g_least_y : MS := (sRet (m1 minL (mFz (mLst (mLC [1] (mItems (eVar 0)) (tgN 1) tAll (m2 ixD (eVar 1) (eC (.int 1))))))))
def f_least_y : FD := runP' 1 g_least_y
theorem ok_least_y (G : Gv P w K mg) {f : Addr} {fd : FuncData} (F : FunD K "least_y" "least_y" (defArgs s_least_y) (defBody s_least_y) (defScope s_least_y) [] [] f fd) (hm : mg "least_y" = some (.ref f)) : PF P w K mg base 1 "least_y" 1 f_least_y :=
  cal_pure F hm S_least_y rfl (fun _ _ _ _ _ _ us hl => match us, hl with | [_], _ => rfl) fun cdv A outer s H E hr =>
    (dss_one (ds_ret (de_b1 (b_min rfl (hu32 hr)) (by rfl) G.b_min bt_min (LE.of (de_fz (se_lc rfl S_least_y.nd (di_val (de_var 0)) [("cell", 1)] (by rfl) (fun _ _ _ _ _ => (dg_name 1 S_least_y.nd)) (fun _ _ _ _ _ => dts_nil) (fun _ _ _ _ _ => (de_ix (de_var 1) de_int))))))))
theorem S_do_touch_at_corner : FnScope ["cells", "one", "two"] ["cells", "one", "two"] (defScope s_do_touch_at_corner) := fnScope_by (by decide +kernel)
def g_do_touch_at_corner : MS := (sSeq (sIf (tOrM (mT (m2 neD (m1 absD (m2 subD (m2 ixD (eVar 1) (eC (.int 0))) (m2 ixD (eVar 2) (eC (.int 0))))) (eC (.int 1)))) (mT (m2 neD (m1 absD (m2 subD (m2 ixD (eVar 1) (eC (.int 1))) (m2 ixD (eVar 2) (eC (.int 1))))) (eC (.int 1))))) (sRet (eC (.bool false))) sNil) (sRet (mAnd (m2 notInD (mTup (aCons (m2 ixD (eVar 1) (eC (.int 0))) (aCons (m2 ixD (eVar 2) (eC (.int 1))) aNil))) (eLoc 0)) (m2 notInD (mTup (aCons (m2 ixD (eVar 2) (eC (.int 0))) (aCons (m2 ixD (eVar 1) (eC (.int 1))) aNil))) (eLoc 0)))))
def f_do_touch_at_corner : FD := runP' 0 g_do_touch_at_corner
theorem ok_do_touch_at_corner (G : Gv P w K mg) {f : Addr} {fd : FuncData} (F : FunD K "do_touch_at_corner" "do_touch_at_corner" (defArgs s_do_touch_at_corner) (defBody s_do_touch_at_corner) (defScope s_do_touch_at_corner) [] [] f fd) (hm : mg "do_touch_at_corner" = some (.ref f)) : PF P w K mg base 1 "do_touch_at_corner" 3 f_do_touch_at_corner :=
  cal_pure F hm S_do_touch_at_corner rfl (fun _ _ _ _ _ _ us hl => match us, hl with | [_, _, _], _ => rfl) fun cdv A outer s H E hr =>
    (dss_cons (ds_if (DW.dt (dw_or (dt_cm (c_ne hr) (de_b1 b_abs (by rfl) G.b_abs bt_abs (LE.of (de_sub (de_ix (de_var 1) de_int) (de_ix (de_var 2) de_int)))) de_int rfl) (dw_or1 (dt_cm (c_ne hr) (de_b1 b_abs (by rfl) G.b_abs bt_abs (LE.of (de_sub (de_ix (de_var 1) de_int) (de_ix (de_var 2) de_int)))) de_int rfl)))) (dss_one (ds_ret de_bl)) dss_nil) (dss_one (ds_ret (de_and (de_notIn hr (de_tup (da_cons (de_ix (de_var 1) de_int) (da_cons (de_ix (de_var 2) de_int) da_nil))) (le_loc 0) rfl) (de_one (de_notIn hr (de_tup (da_cons (de_ix (de_var 2) de_int) (da_cons (de_ix (de_var 1) de_int) da_nil))) (le_loc 0) rfl))))))
theorem S_box_by : FnScope ["wide", "high", "x", "y"] ["wide", "high"] (defScope s_box_by) := fnScope_by (by decide +kernel)
def g_box_by : MS := (sRet (m1 tupleD (mFz (mLst (mLC2 [2, 3] [3] (mRng1 (aCons (eVar 0) aNil)) (tgN 2) tAll (mRng1 (aCons (eVar 1) aNil)) (tgN 3) tAll (mTup (aCons (eVar 2) (aCons (eVar 3) aNil))))))))
def f_box_by : FD := runP' 2 g_box_by
theorem ok_box_by (G : Gv P w K mg) {f : Addr} {fd : FuncData} (F : FunD K "box_by" "box_by" (defArgs s_box_by) (defBody s_box_by) (defScope s_box_by) [] [] f fd) (hm : mg "box_by" = some (.ref f)) : PF P w K mg base 1 "box_by" 2 f_box_by :=
  cal_pure F hm S_box_by rfl (fun _ _ _ _ _ _ us hl => match us, hl with | [_, _], _ => rfl) fun cdv A outer s H E hr =>
    (dss_one (ds_ret (de_t1 b_tuple (by rfl) G.b_tuple bt_tuple (LE.of (de_fz (se_lc2 rfl S_box_by.nd (di_rng1 (by rfl) G.b_range (da_cons (de_var 0) da_nil)) [("x", 2), ("y", 3)] (by rfl) [3] (fun _ _ _ _ _ => (dg_name 2 S_box_by.nd)) (fun _ _ _ _ _ => dts_nil) (fun _ _ _ _ _ => (di_rng1 (by rfl) G.b_range (da_cons (de_var 1) da_nil))) (fun _ _ _ _ _ => (dg_name 3 S_box_by.nd)) (fun _ _ _ _ _ => dts_nil) (fun _ _ _ _ _ => (de_tup (da_cons (de_var 2) (da_cons (de_var 3) da_nil))))))))))
theorem S_law_pool : FnScope ["script", "turn", "own", "stirred", "cell"] ["script", "turn"] (defScope s_law_pool) := fnScope_by (by decide +kernel)
def g_law_pool : MS := (sSeq (sPar 2 3 (mDat (mIf (mT (m2 ltD (eVar 1) (m1 lenD (eLoc 0)))) (m1 intD (mLoc2 0 ixD (eVar 1))) (m2 addD (m2 mulD (eC (.int 70001)) (eVar 1)) (eC (.int 1115))))) (mDat (m2 addD (eC (.int 372466)) (m2 mulD (eC (.int 5087)) (eVar 1))))) (sSeq (sFor (mItems (mSlN 0 mNoPart (mPart (eC (.int 63))))) (tgN 4) (sSet 3 (mDat (m2 modD (m1 intD (m2 addD (m2 addD (m2 mulD (eVar 3) (eC (.int 48271))) (m2 modD (m1 intD (eLoc 4)) (eC (.int 2147483489)))) (eC (.int 283)))) (eC (.int 2147483489)))))) (sRetS (mLst (aCons (m2 modD (m1 intD (m2 addD (eVar 3) (m2 mulD (eVar 2) (eC (.int 1013))))) (eC (.int 2147483489))) (aCons (mIf (tOrM (mT (m2 ltD (eVar 2) (eC (.int 0)))) (mT (m2 geD (eVar 2) (m2 powD (eC (.int 10)) (eC (.int 18)))))) (m1 absD (eLoc 2)) (eC (.int 0))) (aCons (eC (.int 0)) aNil)))))))
def f_law_pool : FD := runB' 3 g_law_pool
theorem ok_law_pool (G : Gv P w K mg) {f : Addr} {fd : FuncData} (F : FunD K "_law_pool" "_law_pool" (defArgs s_law_pool) (defBody s_law_pool) (defScope s_law_pool) [] [] f fd) (hm : mg "_law_pool" = some (.ref f)) : BF P w K mg base 1 "_law_pool" 1 f_law_pool :=
  cal_bor F hm S_law_pool 1 rfl rfl (fun _ _ _ _ _ _ us hl => match us, hl with | [_, _], _ => rfl) fun cdv A outer s H E hr =>
    (dss_cons (ds_par 2 3 rfl S_law_pool.nd (SE.of (de_ifExp (dt_cm (c_lt hr) (de_var 1) (de_b1 b_len (by rfl) G.b_len bt_len (le_loc 0)) rfl) (de_t1 b_int (by rfl) G.b_int bt_int (LE.of (de_ixN 0 (de_var 1)))) (de_add (de_mul de_int (de_var 1)) de_int))) (SE.of (de_add de_int (de_mul de_int (de_var 1)))) (by rfl)) (dss_cons (ds_for rfl (di_val (de_sliceN 0 do_none (do_some de_int))) (dg_name 4 S_law_pool.nd) (dss_one (ds_set 3 S_law_pool.nd (SE.of (de_mod (de_t1 b_int (by rfl) G.b_int bt_int (LE.of (de_add (de_add (de_mul (de_var 3) de_int) (de_mod (de_t1 b_int (by rfl) G.b_int bt_int (le_loc 4)) de_int)) de_int))) de_int)))) PassesOwn.never) (dss_one (ds_retS (se_lst (da_cons (de_mod (de_t1 b_int (by rfl) G.b_int bt_int (LE.of (de_add (de_var 3) (de_mul (de_var 2) de_int)))) de_int) (da_cons (de_ifExp (DW.dt (dw_or (dt_cm (c_lt hr) (de_var 2) de_int rfl) (dw_or1 (dt_cm c_ge (de_var 2) (de_pow de_int de_int) rfl)))) (de_b1 b_abs (by rfl) G.b_abs bt_abs (le_loc 2)) de_int) (da_cons de_int da_nil))))))))
theorem S_law_draw : FnScope ["pool", "many", "figure", "held"] ["pool", "many"] (defScope s_law_draw) := fnScope_by (by decide +kernel)
def g_law_draw : MS := (sSeq (sIf (mT (m2 gtD (mLoc2 0 ixD (eC (.int 1))) (eC (.int 0)))) (sSeq (sAsg (mA2 divmodD (aCons (mLoc2 0 ixD (eC (.int 1))) (aCons (eVar 1) aNil))) (tgTup 2 (tgCons (tgSub 0 (eC (.int 1))) (tgCons (tgN 2) tgNil)))) (sRet (eVar 2))) sNil) (sSeq (sAsg (m2 addD (mLoc2 0 ixD (eC (.int 2))) (eC (.int 1))) (tgSub 0 (eC (.int 2)))) (sSeq (sSet 3 (mDat (m1 intD (mLoc2 0 ixD (eC (.int 0)))))) (sSeq (sAsg (m2 modD (m1 intD (m2 addD (m2 addD (m2 mulD (eVar 3) (m2 addD (m2 modD (eVar 3) (eC (.int 20011))) (eC (.int 30011)))) (m2 mulD (eC (.int 70001)) (mLoc2 0 ixD (eC (.int 2))))) (eC (.int 9)))) (eC (.int 2147483489))) (tgSub 0 (eC (.int 0)))) (sRet (m2 modD (m1 intD (m2 fdivD (mLoc2 0 ixD (eC (.int 0))) (eC (.int 128)))) (eVar 1)))))))
def f_law_draw : FI := runI' 2 g_law_draw
theorem ok_law_draw (G : Gv P w K mg) {f : Addr} {fd : FuncData} (F : FunD K "_law_draw" "_law_draw" (defArgs s_law_draw) (defBody s_law_draw) (defScope s_law_draw) [] [] f fd) (hm : mg "_law_draw" = some (.ref f)) : IF P w K mg base 1 "_law_draw" 1 f_law_draw :=
  cal_io F hm S_law_draw 1 rfl rfl (fun _ _ _ _ _ _ us hl => match us, hl with | [_, _], _ => rfl) fun cdv A outer s H E hr =>
    (dss_cons (ds_if (dt_cm c_gt (de_ixN 0 de_int) de_int rfl) (dss_cons (ds_asg (de_b2 b_divmod (by rfl) G.b_divmod bt_divmod (da_cons (de_ixN 0 de_int) (da_cons (de_var 1) da_nil))) (dg_tup rfl (dgs_cons (dg_sub 0 de_int) (dgs_cons (dg_name 2 S_law_draw.nd) dgs_nil)) 2)) (dss_one (ds_ret (de_var 2)))) dss_nil) (dss_cons (ds_asg (de_add (de_ixN 0 de_int) de_int) (dg_sub 0 de_int)) (dss_cons (ds_set 3 S_law_draw.nd (SE.of (de_t1 b_int (by rfl) G.b_int bt_int (LE.of (de_ixN 0 de_int))))) (dss_cons (ds_asg (de_mod (de_t1 b_int (by rfl) G.b_int bt_int (LE.of (de_add (de_add (de_mul (de_var 3) (de_add (de_mod (de_var 3) de_int) de_int)) (de_mul de_int (de_ixN 0 de_int))) de_int))) de_int) (dg_sub 0 de_int)) (dss_one (ds_ret (de_mod (de_t1 b_int (by rfl) G.b_int bt_int (LE.of (de_fdiv (de_ixN 0 de_int) de_int))) (de_var 1))))))))
theorem S_law_moved : FnScope ["cells", "by", "cell"] ["cells", "by"] (defScope s_law_moved) := fnScope_by (by decide +kernel)
def g_law_moved : MS := (sRet (m1 tupleD (mFz (mLst (mLC [2] (mItems (eVar 0)) (tgN 2) tAll (mTup (aCons (m2 addD (m2 ixD (eVar 2) (eC (.int 0))) (m2 ixD (eVar 1) (eC (.int 0)))) (aCons (m2 addD (m2 ixD (eVar 2) (eC (.int 1))) (m2 ixD (eVar 1) (eC (.int 1)))) aNil))))))))
def f_law_moved : FD := runP' 1 g_law_moved
theorem ok_law_moved (G : Gv P w K mg) {f : Addr} {fd : FuncData} (F : FunD K "_law_moved" "_law_moved" (defArgs s_law_moved) (defBody s_law_moved) (defScope s_law_moved) [] [] f fd) (hm : mg "_law_moved" = some (.ref f)) : PF P w K mg base 1 "_law_moved" 2 f_law_moved :=
  cal_pure F hm S_law_moved rfl (fun _ _ _ _ _ _ us hl => match us, hl with | [_, _], _ => rfl) fun cdv A outer s H E hr =>
    (dss_one (ds_ret (de_t1 b_tuple (by rfl) G.b_tuple bt_tuple (LE.of (de_fz (se_lc rfl S_law_moved.nd (di_val (de_var 0)) [("cell", 2)] (by rfl) (fun _ _ _ _ _ => (dg_name 2 S_law_moved.nd)) (fun _ _ _ _ _ => dts_nil) (fun _ _ _ _ _ => (de_tup (da_cons (de_add (de_ix (de_var 2) de_int) (de_ix (de_var 1) de_int)) (da_cons (de_add (de_ix (de_var 2) de_int) (de_ix (de_var 1) de_int)) da_nil))))))))))
theorem S_law_box : FnScope ["wide", "high", "found", "x", "y"] ["wide", "high"] (defScope s_law_box) := fnScope_by (by decide +kernel)
def g_law_box : MS := (sSeq (sSet 2 (mDat (mFz (mLst aNil)))) (sSeq (sFor (mRng1 (aCons (eVar 0) aNil)) (tgN 3) (sSet 2 (mDat (m2 addD (eVar 2) (mFz (mLst (mLC [4] (mRng1 (aCons (eVar 1) aNil)) (tgN 4) tAll (mTup (aCons (eVar 3) (aCons (eVar 4) aNil)))))))))) (sRet (m1 tupleD (eLoc 2)))))
def f_law_box : FD := runP' 3 g_law_box
theorem ok_law_box (G : Gv P w K mg) {f : Addr} {fd : FuncData} (F : FunD K "_law_box" "_law_box" (defArgs s_law_box) (defBody s_law_box) (defScope s_law_box) [] [] f fd) (hm : mg "_law_box" = some (.ref f)) : PF P w K mg base 1 "_law_box" 2 f_law_box :=
  cal_pure F hm S_law_box rfl (fun _ _ _ _ _ _ us hl => match us, hl with | [_, _], _ => rfl) fun cdv A outer s H E hr =>
    (dss_cons (ds_set 2 S_law_box.nd (SE.of (de_fz (se_lst da_nil)))) (dss_cons (ds_for rfl (di_rng1 (by rfl) G.b_range (da_cons (de_var 0) da_nil)) (dg_name 3 S_law_box.nd) (dss_one (ds_set 2 S_law_box.nd (SE.of (de_add (de_var 2) (de_fz (se_lc rfl S_law_box.nd (di_rng1 (by rfl) G.b_range (da_cons (de_var 1) da_nil)) [("y", 4)] (by rfl) (fun _ _ _ _ _ => (dg_name 4 S_law_box.nd)) (fun _ _ _ _ _ => dts_nil) (fun _ _ _ _ _ => (de_tup (da_cons (de_var 3) (da_cons (de_var 4) da_nil)))))))))) PassesOwn.never) (dss_one (ds_ret (de_t1 b_tuple (by rfl) G.b_tuple bt_tuple (le_loc 2))))))
theorem S_is_between : FnScope ["value", "low", "high"] ["value", "low", "high"] (defScope s_is_between) := fnScope_by (by decide +kernel)
def g_is_between : MS := (sRet (mAnd (mFz (mCall f_is_whole (aCons (eVar 0) aNil))) (m3c leD leD (eVar 1) (eVar 0) (eVar 2))))
def f_is_between : FD := runP' 0 g_is_between
theorem ok_is_between (G : Gv P w K mg) {f : Addr} {fd : FuncData} (F : FunD K "is_between" "is_between" (defArgs s_is_between) (defBody s_is_between) (defScope s_is_between) [] [] f fd) (hm : mg "is_between" = some (.ref f)) (c_is_whole : PF P w K mg base 1 "is_whole" 1 f_is_whole) : PF P w K mg base 2 "is_between" 3 f_is_between :=
  cal_pure F hm S_is_between rfl (fun _ _ _ _ _ _ us hl => match us, hl with | [_, _, _], _ => rfl) fun cdv A outer s H E hr =>
    (dss_one (ds_ret (de_and (de_fz (se_call c_is_whole hr (by decide) (da_cons (de_var 0) da_nil))) (de_one (de_chain c_le c_le (de_var 1) (de_var 0) (de_var 2))))))
theorem S_shifted_by : FnScope ["cells", "shift", "cell"] ["cells", "shift"] (defScope s_shifted_by) := fnScope_by (by decide +kernel)
def g_shifted_by : MS := (sRet (m1 tupleD (mFz (mLst (mLC [2] (mItems (eVar 0)) (tgN 2) tAll (mFz (mCall f_put_to (aCons (eVar 2) (aCons (eVar 1) aNil)))))))))
def f_shifted_by : FD := runP' 1 g_shifted_by
theorem ok_shifted_by (G : Gv P w K mg) {f : Addr} {fd : FuncData} (F : FunD K "shifted_by" "shifted_by" (defArgs s_shifted_by) (defBody s_shifted_by) (defScope s_shifted_by) [] [] f fd) (hm : mg "shifted_by" = some (.ref f)) (c_put_to : PF P w K mg base 1 "put_to" 2 f_put_to) : PF P w K mg base 2 "shifted_by" 2 f_shifted_by :=
  cal_pure F hm S_shifted_by rfl (fun _ _ _ _ _ _ us hl => match us, hl with | [_, _], _ => rfl) fun cdv A outer s H E hr =>
    (dss_one (ds_ret (de_t1 b_tuple (by rfl) G.b_tuple bt_tuple (LE.of (de_fz (se_lc rfl S_shifted_by.nd (di_val (de_var 0)) [("cell", 2)] (by rfl) (fun _ _ _ _ _ => (dg_name 2 S_shifted_by.nd)) (fun _ _ _ _ _ => dts_nil) (fun _ _ _ _ _ => (de_fz (se_call c_put_to hr (by decide) (da_cons (de_var 2) (da_cons (de_var 1) da_nil)))))))))))
theorem S_beside : FnScope ["cell", "side"] ["cell"] (defScope s_beside) := fnScope_by (by decide +kernel)
def g_beside : MS := (sRet (mFz (mLst (mLC [1] (mItems (eC (.tuple [(.tuple [(.int (1)), (.int (0))]), (.tuple [(.int (0)), (.int (1))]), (.tuple [(.int (-1)), (.int (0))]), (.tuple [(.int (0)), (.int (-1))])]))) (tgN 1) tAll (mFz (mCall f_put_to (aCons (eVar 0) (aCons (eVar 1) aNil))))))))
def f_beside : FD := runP' 1 g_beside
theorem ok_beside (G : Gv P w K mg) {f : Addr} {fd : FuncData} (F : FunD K "beside" "beside" (defArgs s_beside) (defBody s_beside) (defScope s_beside) [] [] f fd) (hm : mg "beside" = some (.ref f)) (c_put_to : PF P w K mg base 1 "put_to" 2 f_put_to) : PF P w K mg base 2 "beside" 1 f_beside :=
  cal_pure F hm S_beside rfl (fun _ _ _ _ _ _ us hl => match us, hl with | [_], _ => rfl) fun cdv A outer s H E hr =>
    (dss_one (ds_ret (de_fz (se_lc rfl S_beside.nd (di_val (de_gl G.g_SIDES)) [("side", 1)] (by rfl) (fun _ _ _ _ _ => (dg_name 1 S_beside.nd)) (fun _ _ _ _ _ => dts_nil) (fun _ _ _ _ _ => (de_fz (se_call c_put_to hr (by decide) (da_cons (de_var 0) (da_cons (de_var 1) da_nil)))))))))
theorem S_around : FnScope ["cells", "across", "cell", "upwards", "x", "y"] ["cells"] (defScope s_around) := fnScope_by (by decide +kernel)
def g_around : MS := (sSeq (sSet 1 (mRngS (aCons (m2 subD (mFz (mCall f_least_x (aCons (eVar 0) aNil))) (eC (.int 1))) (aCons (m2 addD (m1 maxL (mFz (mLst (mLC [2] (mItems (eVar 0)) (tgN 2) tAll (m2 ixD (eVar 2) (eC (.int 0))))))) (eC (.int 2))) aNil)))) (sSeq (sSet 3 (mRngS (aCons (m2 subD (mFz (mCall f_least_y (aCons (eVar 0) aNil))) (eC (.int 1))) (aCons (m2 addD (m1 maxL (mFz (mLst (mLC [2] (mItems (eVar 0)) (tgN 2) tAll (m2 ixD (eVar 2) (eC (.int 1))))))) (eC (.int 2))) aNil)))) (sRet (mFz (mLst (mLC2 [4, 5] [5] (mRngV 1) (tgN 4) tAll (mRngV 3) (tgN 5) tAll (mTup (aCons (eVar 4) (aCons (eVar 5) aNil)))))))))
def f_around : FD := runP' 5 g_around
theorem ok_around (G : Gv P w K mg) {f : Addr} {fd : FuncData} (F : FunD K "around" "around" (defArgs s_around) (defBody s_around) (defScope s_around) [] [] f fd) (hm : mg "around" = some (.ref f)) (c_least_x : PF P w K mg base 1 "least_x" 1 f_least_x) (c_least_y : PF P w K mg base 1 "least_y" 1 f_least_y) : PF P w K mg base 2 "around" 1 f_around :=
  cal_pure F hm S_around rfl (fun _ _ _ _ _ _ us hl => match us, hl with | [_], _ => rfl) fun cdv A outer s H E hr =>
    (dss_cons (ds_set 1 S_around.nd (se_rng2 (by rfl) G.b_range (da_cons (de_sub (de_fz (se_call c_least_x hr (by decide) (da_cons (de_var 0) da_nil))) de_int) (da_cons (de_add (de_b1 (b_max rfl (hu32 hr)) (by rfl) G.b_max bt_max (LE.of (de_fz (se_lc rfl S_around.nd (di_val (de_var 0)) [("cell", 2)] (by rfl) (fun _ _ _ _ _ => (dg_name 2 S_around.nd)) (fun _ _ _ _ _ => dts_nil) (fun _ _ _ _ _ => (de_ix (de_var 2) de_int)))))) de_int) da_nil)))) (dss_cons (ds_set 3 S_around.nd (se_rng2 (by rfl) G.b_range (da_cons (de_sub (de_fz (se_call c_least_y hr (by decide) (da_cons (de_var 0) da_nil))) de_int) (da_cons (de_add (de_b1 (b_max rfl (hu32 hr)) (by rfl) G.b_max bt_max (LE.of (de_fz (se_lc rfl S_around.nd (di_val (de_var 0)) [("cell", 2)] (by rfl) (fun _ _ _ _ _ => (dg_name 2 S_around.nd)) (fun _ _ _ _ _ => dts_nil) (fun _ _ _ _ _ => (de_ix (de_var 2) de_int)))))) de_int) da_nil)))) (dss_one (ds_ret (de_fz (se_lc2 rfl S_around.nd (di_rngv 1) [("x", 4), ("y", 5)] (by rfl) [5] (fun _ _ _ _ _ => (dg_name 4 S_around.nd)) (fun _ _ _ _ _ => dts_nil) (fun _ _ _ _ _ => (di_rngv 3)) (fun _ _ _ _ _ => (dg_name 5 S_around.nd)) (fun _ _ _ _ _ => dts_nil) (fun _ _ _ _ _ => (de_tup (da_cons (de_var 4) (da_cons (de_var 5) da_nil))))))))))
theorem S_corners_by : FnScope ["cells", "found", "index", "one", "second"] ["cells"] (defScope s_corners_by) := fnScope_by (by decide +kernel)
def g_corners_by : MS := (sSeq (sSet 1 (mLst aNil)) (sSeq (sFor (mEnum (eVar 0)) (tgTup 2 (tgCons (tgN 2) (tgCons (tgN 3) tgNil))) (sFor (mRng2 (aCons (m2 addD (eVar 2) (eC (.int 1))) (aCons (m1 lenD (eLoc 0)) aNil))) (tgN 4) (sIf (mT (mFz (mCall f_do_touch_at_corner (aCons (eVar 0) (aCons (eVar 3) (aCons (m2 ixD (eVar 0) (eVar 4)) aNil)))))) (sExpr (mAppN 1 (mTup (aCons (eVar 2) (aCons (eVar 4) aNil))))) sNil))) (sRet (m1 tupleD (eLoc 1)))))
def f_corners_by : FD := runP' 4 g_corners_by
theorem ok_corners_by (G : Gv P w K mg) {f : Addr} {fd : FuncData} (F : FunD K "corners_by" "corners_by" (defArgs s_corners_by) (defBody s_corners_by) (defScope s_corners_by) [] [] f fd) (hm : mg "corners_by" = some (.ref f)) (c_do_touch_at_corner : PF P w K mg base 1 "do_touch_at_corner" 3 f_do_touch_at_corner) : PF P w K mg base 2 "corners_by" 1 f_corners_by :=
  cal_pure F hm S_corners_by rfl (fun _ _ _ _ _ _ us hl => match us, hl with | [_], _ => rfl) fun cdv A outer s H E hr =>
    (dss_cons (ds_set 1 S_corners_by.nd (se_lst da_nil)) (dss_cons (ds_for rfl (di_enum (by rfl) G.b_enumerate (de_var 0)) (dg_tup rfl (dgs_cons (dg_name 2 S_corners_by.nd) (dgs_cons (dg_name 3 S_corners_by.nd) dgs_nil)) 2) (dss_one (ds_for rfl (di_rng2 (by rfl) G.b_range (da_cons (de_add (de_var 2) de_int) (da_cons (de_b1 b_len (by rfl) G.b_len bt_len (le_loc 0)) da_nil))) (dg_name 4 S_corners_by.nd) (dss_one (ds_if (dt_val (de_fz (se_call c_do_touch_at_corner hr (by decide) (da_cons (de_var 0) (da_cons (de_var 3) (da_cons (de_ix (de_var 0) (de_var 4)) da_nil)))))) (dss_one (ds_expr (de_append 1 (de_tup (da_cons (de_var 2) (da_cons (de_var 4) da_nil)))))) dss_nil)) PassesOwn.never)) PassesOwn.never) (dss_one (ds_ret (de_t1 b_tuple (by rfl) G.b_tuple bt_tuple (le_loc 1))))))
theorem S_box_around_by : FnScope ["cells", "wide", "x", "y"] ["cells"] (defScope s_box_around_by) := fnScope_by (by decide +kernel)
def g_box_around_by : MS := (sSeq (sSet 1 (mDat (m2 addD (m2 subD (m1 maxL (mFz (mLst (mLC [2, 3] (mItems (eVar 0)) (tgTup 2 (tgCons (tgN 2) (tgCons (tgN 3) tgNil))) tAll (eVar 2))))) (mFz (mCall f_least_x (aCons (eVar 0) aNil)))) (eC (.int 1))))) (sRet (mTup (aCons (eVar 1) (aCons (m2 addD (m2 subD (m1 maxL (mFz (mLst (mLC [2, 3] (mItems (eVar 0)) (tgTup 2 (tgCons (tgN 2) (tgCons (tgN 3) tgNil))) tAll (eVar 3))))) (mFz (mCall f_least_y (aCons (eVar 0) aNil)))) (eC (.int 1))) aNil)))))
def f_box_around_by : FD := runP' 3 g_box_around_by
theorem ok_box_around_by (G : Gv P w K mg) {f : Addr} {fd : FuncData} (F : FunD K "box_around_by" "box_around_by" (defArgs s_box_around_by) (defBody s_box_around_by) (defScope s_box_around_by) [] [] f fd) (hm : mg "box_around_by" = some (.ref f)) (c_least_x : PF P w K mg base 1 "least_x" 1 f_least_x) (c_least_y : PF P w K mg base 1 "least_y" 1 f_least_y) : PF P w K mg base 2 "box_around_by" 1 f_box_around_by :=
  cal_pure F hm S_box_around_by rfl (fun _ _ _ _ _ _ us hl => match us, hl with | [_], _ => rfl) fun cdv A outer s H E hr =>
    (dss_cons (ds_set 1 S_box_around_by.nd (SE.of (de_add (de_sub (de_b1 (b_max rfl (hu32 hr)) (by rfl) G.b_max bt_max (LE.of (de_fz (se_lc rfl S_box_around_by.nd (di_val (de_var 0)) [("x", 2), ("y", 3)] (by rfl) (fun _ _ _ _ _ => (dg_tup rfl (dgs_cons (dg_name 2 S_box_around_by.nd) (dgs_cons (dg_name 3 S_box_around_by.nd) dgs_nil)) 2)) (fun _ _ _ _ _ => dts_nil) (fun _ _ _ _ _ => (de_var 2)))))) (de_fz (se_call c_least_x hr (by decide) (da_cons (de_var 0) da_nil)))) de_int))) (dss_one (ds_ret (de_tup (da_cons (de_var 1) (da_cons (de_add (de_sub (de_b1 (b_max rfl (hu32 hr)) (by rfl) G.b_max bt_max (LE.of (de_fz (se_lc rfl S_box_around_by.nd (di_val (de_var 0)) [("x", 2), ("y", 3)] (by rfl) (fun _ _ _ _ _ => (dg_tup rfl (dgs_cons (dg_name 2 S_box_around_by.nd) (dgs_cons (dg_name 3 S_box_around_by.nd) dgs_nil)) 2)) (fun _ _ _ _ _ => dts_nil) (fun _ _ _ _ _ => (de_var 3)))))) (de_fz (se_call c_least_y hr (by decide) (da_cons (de_var 0) da_nil)))) de_int) da_nil))))))
theorem S_law_fillings : FnScope ["cells", "shape", "found", "whole", "turn", "more", "row", "left", "by", "taken", "rest", "cell"] ["cells", "shape"] (defScope s_law_fillings) := fnScope_by (by decide +kernel)
def g_law_fillings : MS := (sSeq (sPar 2 3 (mDat (mFz (mLst (aCons (mTup (aCons (mTup aNil) (aCons (eVar 0) aNil))) aNil)))) (mLst aNil)) (sSeq (sFor (mRng1 (aCons (m2 addD (m2 fdivD (m1 lenD (eLoc 0)) (m1 lenD (eLoc 1))) (eC (.int 1))) aNil)) (tgN 4) (sSeq (sSet 5 (mDat (mFz (mLst aNil)))) (sSeq (sFor (mItems (eVar 2)) (tgTup 2 (tgCons (tgN 6) (tgCons (tgN 7) tgNil))) (sIf (mT (m2 eqD (eVar 7) (mTup aNil))) (sExpr (mAppN 3 (m1 tupleD (mFz (mSorted (eLoc 6)))))) (sSeq (sSet 8 (mDat (mTup (aCons (m2 subD (m2 ixD (m2 ixD (eVar 7) (eC (.int 0))) (eC (.int 0))) (m2 ixD (m2 ixD (eVar 1) (eC (.int 0))) (eC (.int 0)))) (aCons (m2 subD (m2 ixD (m2 ixD (eVar 7) (eC (.int 0))) (eC (.int 1))) (m2 ixD (m2 ixD (eVar 1) (eC (.int 0))) (eC (.int 1)))) aNil))))) (sSeq (sSet 9 (mDat (mFz (mCall f_law_moved (aCons (eVar 1) (aCons (eVar 8) aNil)))))) (sSeq (sSet 10 (mDat (m1 tupleD (mFz (mLst (mLC [11] (mItems (eVar 7)) (tgN 11) (mT (m2 notInD (eVar 11) (eLoc 9))) (eVar 11))))))) (sSet 5 (mDat (m2 addD (eVar 5) (mIf (mT (m2 eqD (m2 addD (m1 lenD (eLoc 10)) (m1 lenD (eLoc 9))) (m1 lenD (eLoc 7)))) (mFz (mLst (aCons (mTup (aCons (m2 addD (eVar 6) (mTup (aCons (eVar 8) aNil))) (aCons (eVar 10) aNil))) aNil))) (mFz (mLst aNil))))))))))) (sSet 2 (mDat (eVar 5)))))) (sRet (mFz (mSorted (eLoc 3))))))
def f_law_fillings : FD := runP' 10 g_law_fillings
theorem ok_law_fillings (G : Gv P w K mg) {f : Addr} {fd : FuncData} (F : FunD K "_law_fillings" "_law_fillings" (defArgs s_law_fillings) (defBody s_law_fillings) (defScope s_law_fillings) [] [] f fd) (hm : mg "_law_fillings" = some (.ref f)) (c_law_moved : PF P w K mg base 1 "_law_moved" 2 f_law_moved) : PF P w K mg base 2 "_law_fillings" 2 f_law_fillings :=
  cal_pure F hm S_law_fillings rfl (fun _ _ _ _ _ _ us hl => match us, hl with | [_, _], _ => rfl) fun cdv A outer s H E hr =>
    (dss_cons (ds_par 2 3 rfl S_law_fillings.nd (SE.of (de_fz (se_lst (da_cons (de_tup (da_cons (de_tup da_nil) (da_cons (de_var 0) da_nil))) da_nil)))) (se_lst da_nil) (by rfl)) (dss_cons (ds_for rfl (di_rng1 (by rfl) G.b_range (da_cons (de_add (de_fdiv (de_b1 b_len (by rfl) G.b_len bt_len (le_loc 0)) (de_b1 b_len (by rfl) G.b_len bt_len (le_loc 1))) de_int) da_nil)) (dg_name 4 S_law_fillings.nd) (dss_cons (ds_set 5 S_law_fillings.nd (SE.of (de_fz (se_lst da_nil)))) (dss_cons (ds_for rfl (di_val (de_var 2)) (dg_tup rfl (dgs_cons (dg_name 6 S_law_fillings.nd) (dgs_cons (dg_name 7 S_law_fillings.nd) dgs_nil)) 2) (dss_one (ds_if (dt_cm (c_eq hr) (de_var 7) (de_tup da_nil) rfl) (dss_one (ds_expr (de_append 3 (de_t1 b_tuple (by rfl) G.b_tuple bt_tuple (LE.of (de_fz (se_sorted rfl (hu32 hr) (le_loc 6) (by rfl) G.b_sorted))))))) (dss_cons (ds_set 8 S_law_fillings.nd (SE.of (de_tup (da_cons (de_sub (de_ix (de_ix (de_var 7) de_int) de_int) (de_ix (de_ix (de_var 1) de_int) de_int)) (da_cons (de_sub (de_ix (de_ix (de_var 7) de_int) de_int) (de_ix (de_ix (de_var 1) de_int) de_int)) da_nil))))) (dss_cons (ds_set 9 S_law_fillings.nd (SE.of (de_fz (se_call c_law_moved hr (by decide) (da_cons (de_var 1) (da_cons (de_var 8) da_nil)))))) (dss_cons (ds_set 10 S_law_fillings.nd (SE.of (de_t1 b_tuple (by rfl) G.b_tuple bt_tuple (LE.of (de_fz (se_lc rfl S_law_fillings.nd (di_val (de_var 7)) [("cell", 11)] (by rfl) (fun _ _ _ _ _ => (dg_name 11 S_law_fillings.nd)) (fun _ _ _ _ _ => (dts_one (dt_notIn hr (de_var 11) (le_loc 9) rfl))) (fun _ _ _ _ _ => (de_var 11)))))))) (dss_one (ds_set 5 S_law_fillings.nd (SE.of (de_add (de_var 5) (de_ifExp (dt_cm (c_eq hr) (de_add (de_b1 b_len (by rfl) G.b_len bt_len (le_loc 10)) (de_b1 b_len (by rfl) G.b_len bt_len (le_loc 9))) (de_b1 b_len (by rfl) G.b_len bt_len (le_loc 7)) rfl) (de_fz (se_lst (da_cons (de_tup (da_cons (de_add (de_var 6) (de_tup (da_cons (de_var 8) da_nil))) (da_cons (de_var 10) da_nil))) da_nil))) (de_fz (se_lst da_nil)))))))))))) PassesOwn.never) (dss_one (ds_set 2 S_law_fillings.nd (SE.of (de_var 5)))))) PassesOwn.never) (dss_one (ds_ret (de_fz (se_sorted rfl (hu32 hr) (le_loc 3) (by rfl) G.b_sorted))))))
theorem S_are_between : FnScope ["value", "many", "low", "high", "each"] ["value", "many", "low", "high"] (defScope s_are_between) := fnScope_by (by decide +kernel)
def g_are_between : MS := (sRet (mAnd (mFz (mCall f_is_tuple_of (aCons (eVar 0) (aCons (eVar 1) aNil)))) (m1 allD (mFz (mLst (mLC [4] (mItems (eVar 0)) (tgN 4) tAll (mFz (mCall f_is_between (aCons (eVar 4) (aCons (eVar 2) (aCons (eVar 3) aNil)))))))))))
def f_are_between : FD := runP' 1 g_are_between
theorem ok_are_between (G : Gv P w K mg) {f : Addr} {fd : FuncData} (F : FunD K "are_between" "are_between" (defArgs s_are_between) (defBody s_are_between) (defScope s_are_between) [] [] f fd) (hm : mg "are_between" = some (.ref f)) (c_is_tuple_of : PF P w K mg base 1 "is_tuple_of" 2 f_is_tuple_of) (c_is_between : PF P w K mg base 2 "is_between" 3 f_is_between) : PF P w K mg base 3 "are_between" 4 f_are_between :=
  cal_pure F hm S_are_between rfl (fun _ _ _ _ _ _ us hl => match us, hl with | [_, _, _, _], _ => rfl) fun cdv A outer s H E hr =>
    (dss_one (ds_ret (de_and (de_fz (se_call c_is_tuple_of hr (by decide) (da_cons (de_var 0) (da_cons (de_var 1) da_nil)))) (de_one (de_b1 (b_all rfl) (by rfl) G.b_all bt_all (LE.of (de_fz (se_lc rfl S_are_between.nd (di_val (de_var 0)) [("each", 4)] (by rfl) (fun _ _ _ _ _ => (dg_name 4 S_are_between.nd)) (fun _ _ _ _ _ => dts_nil) (fun _ _ _ _ _ => (de_fz (se_call c_is_between hr (by decide) (da_cons (de_var 4) (da_cons (de_var 2) (da_cons (de_var 3) da_nil))))))))))))))
theorem S_part_with : FnScope ["cells", "start", "found", "waiting", "cell"] ["cells", "start"] (defScope s_part_with) := fnScope_by (by decide +kernel)
def g_part_with : MS := (sSeq (sPar 2 3 (mD1 (eVar 1) (eC (.bool true))) (mLst (aCons (eVar 1) aNil))) (sSeq (sWhile (mT (mLoc2 3 neD (mFz (mLst aNil)))) (sFor (mItems (mFz (mCall f_beside (aCons (mPop 3) aNil)))) (tgN 4) (sIf (tAndM (mT (m2 inD (eVar 4) (eLoc 0))) (mT (m2 notInD (eVar 4) (eLoc 2)))) (sSeq (sAsg (eC (.bool true)) (tgPut 2 (eVar 4))) (sExpr (mAppN 3 (eVar 4)))) sNil)) 4000) (sRet (m1 tupleD (mFz (mSorted (eLoc 2)))))))
def f_part_with : FD := runP' 3 g_part_with
theorem ok_part_with (G : Gv P w K mg) {f : Addr} {fd : FuncData} (F : FunD K "part_with" "part_with" (defArgs s_part_with) (defBody s_part_with) (defScope s_part_with) [] [] f fd) (hm : mg "part_with" = some (.ref f)) (c_beside : PF P w K mg base 2 "beside" 1 f_beside) : PF P w K mg base 3 "part_with" 2 f_part_with :=
  cal_pure F hm S_part_with rfl (fun _ _ _ _ _ _ us hl => match us, hl with | [_, _], _ => rfl) fun cdv A outer s H E hr =>
    (dss_cons (ds_par 2 3 rfl S_part_with.nd (se_d1 (hu9 hr) (de_var 1) de_bl) (se_lst (da_cons (de_var 1) da_nil)) (by rfl)) (dss_cons (ds_while 4000 (dt_neN 3 hr (de_fz (se_lst da_nil))) (dss_one (ds_for rfl (di_val (de_fz (se_call c_beside hr (by decide) (da_cons (de_pop 3) da_nil)))) (dg_name 4 S_part_with.nd) (dss_one (ds_if (DW.dt (dw_and (dt_in hr (de_var 4) (le_loc 0) rfl) (dw_and1 (dt_notIn hr (de_var 4) (le_loc 2) rfl)))) (dss_cons (ds_asg de_bl (dg_put (hu9 hr) 2 (de_var 4))) (dss_one (ds_expr (de_append 3 (de_var 4))))) dss_nil)) PassesOwn.never)) PassesOwn.never) (dss_one (ds_ret (de_t1 b_tuple (by rfl) G.b_tuple bt_tuple (LE.of (de_fz (se_sorted rfl (hu32 hr) (le_loc 2) (by rfl) G.b_sorted))))))))
theorem S_check_number : FnScope ["value", "low", "high"] ["value", "low", "high"] (defScope s_check_number) := fnScope_by (by decide +kernel)
def g_check_number : MS := (sIf (tNotM (mT (mFz (mCall f_is_between (aCons (eVar 0) (aCons (eVar 1) (aCons (eVar 2) aNil))))))) sNever sNil)
def f_check_number : FD := runP' 0 g_check_number
theorem ok_check_number (G : Gv P w K mg) {f : Addr} {fd : FuncData} (F : FunD K "check_number" "check_number" (defArgs s_check_number) (defBody s_check_number) (defScope s_check_number) [] [] f fd) (hm : mg "check_number" = some (.ref f)) (c_is_between : PF P w K mg base 2 "is_between" 3 f_is_between) : PF P w K mg base 3 "check_number" 3 f_check_number :=
  cal_pure F hm S_check_number rfl (fun _ _ _ _ _ _ us hl => match us, hl with | [_, _, _], _ => rfl) fun cdv A outer s H E hr =>
    (dss_one (ds_if (dt_not (dt_val (de_fz (se_call c_is_between hr (by decide) (da_cons (de_var 0) (da_cons (de_var 1) (da_cons (de_var 2) da_nil))))))) (dss_one ds_never) dss_nil))
theorem S_taken_from : FnScope ["left", "shape", "cell", "shift", "each"] ["left", "shape", "cell"] (defScope s_taken_from) := fnScope_by (by decide +kernel)
def g_taken_from : MS := (sSeq (sSet 3 (mDat (mFz (mCall f_between (aCons (eVar 2) (aCons (m2 ixD (eVar 1) (eC (.int 0))) aNil)))))) (sRet (mIf (mT (m1 allD (mFz (mLst (mLC [4] (mItems (mFz (mCall f_shifted_by (aCons (eVar 1) (aCons (eVar 3) aNil))))) (tgN 4) tAll (m2 inD (eVar 4) (eLoc 0))))))) (mFz (mLst (aCons (eVar 3) aNil))) (mFz (mLst aNil)))))
def f_taken_from : FD := runB' 2 g_taken_from
theorem ok_taken_from (G : Gv P w K mg) {f : Addr} {fd : FuncData} (F : FunD K "taken_from" "taken_from" (defArgs s_taken_from) (defBody s_taken_from) (defScope s_taken_from) [] [] f fd) (hm : mg "taken_from" = some (.ref f)) (c_between : PF P w K mg base 1 "between" 2 f_between) (c_shifted_by : PF P w K mg base 2 "shifted_by" 2 f_shifted_by) : BF P w K mg base 3 "taken_from" 2 f_taken_from :=
  cal_bor F hm S_taken_from 2 rfl rfl (fun _ _ _ _ _ _ us hl => match us, hl with | [_, _, _], _ => rfl) fun cdv A outer s H E hr =>
    (dss_cons (ds_set 3 S_taken_from.nd (SE.of (de_fz (se_call c_between hr (by decide) (da_cons (de_var 2) (da_cons (de_ix (de_var 1) de_int) da_nil)))))) (dss_one (ds_ret (de_ifExp (dt_val (de_b1 (b_all rfl) (by rfl) G.b_all bt_all (LE.of (de_fz (se_lc rfl S_taken_from.nd (di_val (de_fz (se_call c_shifted_by hr (by decide) (da_cons (de_var 1) (da_cons (de_var 3) da_nil))))) [("each", 4)] (by rfl) (fun _ _ _ _ _ => (dg_name 4 S_taken_from.nd)) (fun _ _ _ _ _ => dts_nil) (fun _ _ _ _ _ => (de_in hr (de_var 4) (le_loc 0) rfl))))))) (de_fz (se_lst (da_cons (de_var 3) da_nil))) (de_fz (se_lst da_nil))))))
theorem S_is_box_by : FnScope ["cells", "wide", "high"] ["cells"] (defScope s_is_box_by) := fnScope_by (by decide +kernel)
def g_is_box_by : MS := (sSeq (sAsg (mFz (mCall f_box_around_by (aCons (eVar 0) aNil))) (tgTup 2 (tgCons (tgN 1) (tgCons (tgN 2) tgNil)))) (sRet (m2 eqD (m1 lenD (eLoc 0)) (m2 mulD (eVar 1) (eVar 2)))))
def f_is_box_by : FD := runP' 2 g_is_box_by
theorem ok_is_box_by (G : Gv P w K mg) {f : Addr} {fd : FuncData} (F : FunD K "is_box_by" "is_box_by" (defArgs s_is_box_by) (defBody s_is_box_by) (defScope s_is_box_by) [] [] f fd) (hm : mg "is_box_by" = some (.ref f)) (c_box_around_by : PF P w K mg base 2 "box_around_by" 1 f_box_around_by) : PF P w K mg base 3 "is_box_by" 1 f_is_box_by :=
  cal_pure F hm S_is_box_by rfl (fun _ _ _ _ _ _ us hl => match us, hl with | [_], _ => rfl) fun cdv A outer s H E hr =>
    (dss_cons (ds_asg (de_fz (se_call c_box_around_by hr (by decide) (da_cons (de_var 0) da_nil))) (dg_tup rfl (dgs_cons (dg_name 1 S_is_box_by.nd) (dgs_cons (dg_name 2 S_is_box_by.nd) dgs_nil)) 2)) (dss_one (ds_ret (de_cm (c_eq hr) (de_b1 b_len (by rfl) G.b_len bt_len (le_loc 0)) (de_mul (de_var 1) (de_var 2)) rfl))))
theorem S_is_cell_by : FnScope ["value"] ["value"] (defScope s_is_cell_by) := fnScope_by (by decide +kernel)
def g_is_cell_by : MS := (sRet (mFz (mCall f_are_between (aCons (eVar 0) (aCons (eC (.int 2)) (aCons (m1 negD (eC (.int (99)))) (aCons (eC (.int (99))) aNil)))))))
def f_is_cell_by : FD := runP' 0 g_is_cell_by
theorem ok_is_cell_by (G : Gv P w K mg) {f : Addr} {fd : FuncData} (F : FunD K "is_cell_by" "is_cell_by" (defArgs s_is_cell_by) (defBody s_is_cell_by) (defScope s_is_cell_by) [] [] f fd) (hm : mg "is_cell_by" = some (.ref f)) (c_are_between : PF P w K mg base 3 "are_between" 4 f_are_between) : PF P w K mg base 4 "is_cell_by" 1 f_is_cell_by :=
  cal_pure F hm S_is_cell_by rfl (fun _ _ _ _ _ _ us hl => match us, hl with | [_], _ => rfl) fun cdv A outer s H E hr =>
    (dss_one (ds_ret (de_fz (se_call c_are_between hr (by decide) (da_cons (de_var 0) (da_cons de_int (da_cons (de_neg (de_gl G.g_FARTHEST)) (da_cons (de_gl G.g_FARTHEST) da_nil))))))))
theorem S_do_hang_together : FnScope ["cells"] ["cells"] (defScope s_do_hang_together) := fnScope_by (by decide +kernel)
def g_do_hang_together : MS := (sRet (m2 eqD (m1 lenD (mFz (mCall f_part_with (aCons (eVar 0) (aCons (m2 ixD (eVar 0) (eC (.int 0))) aNil))))) (m1 lenD (eLoc 0))))
def f_do_hang_together : FD := runP' 0 g_do_hang_together
theorem ok_do_hang_together (G : Gv P w K mg) {f : Addr} {fd : FuncData} (F : FunD K "do_hang_together" "do_hang_together" (defArgs s_do_hang_together) (defBody s_do_hang_together) (defScope s_do_hang_together) [] [] f fd) (hm : mg "do_hang_together" = some (.ref f)) (c_part_with : PF P w K mg base 3 "part_with" 2 f_part_with) : PF P w K mg base 4 "do_hang_together" 1 f_do_hang_together :=
  cal_pure F hm S_do_hang_together rfl (fun _ _ _ _ _ _ us hl => match us, hl with | [_], _ => rfl) fun cdv A outer s H E hr =>
    (dss_one (ds_ret (de_cm (c_eq hr) (de_b1 b_len (by rfl) G.b_len bt_len (LE.of (de_fz (se_call c_part_with hr (by decide) (da_cons (de_var 0) (da_cons (de_ix (de_var 0) de_int) da_nil)))))) (de_b1 b_len (by rfl) G.b_len bt_len (le_loc 0)) rfl)))
theorem S_holes_by : FnScope ["cells", "free", "cell", "outside"] ["cells"] (defScope s_holes_by) := fnScope_by (by decide +kernel)
def g_holes_by : MS := (sSeq (sSet 1 (mDC [2] (mItems (mFz (mCall f_around (aCons (eVar 0) aNil)))) (tgN 2) (mT (m2 notInD (eVar 2) (eLoc 0))) (eVar 2) (eC (.bool true)))) (sSeq (sSet 3 (mDC [2] (mItems (mFz (mCall f_part_with (aCons (eFz 1) (aCons (m1 minL (eLoc 1)) aNil))))) (tgN 2) tAll (eVar 2) (eC (.bool true)))) (sRet (m1 tupleD (mFz (mLst (mLC [2] (mItems (eFz 1)) (tgN 2) (mT (m2 notInD (eVar 2) (eLoc 3))) (eVar 2))))))))
def f_holes_by : FD := runP' 3 g_holes_by
theorem ok_holes_by (G : Gv P w K mg) {f : Addr} {fd : FuncData} (F : FunD K "holes_by" "holes_by" (defArgs s_holes_by) (defBody s_holes_by) (defScope s_holes_by) [] [] f fd) (hm : mg "holes_by" = some (.ref f)) (c_around : PF P w K mg base 2 "around" 1 f_around) (c_part_with : PF P w K mg base 3 "part_with" 2 f_part_with) : PF P w K mg base 4 "holes_by" 1 f_holes_by :=
  cal_pure F hm S_holes_by rfl (fun _ _ _ _ _ _ us hl => match us, hl with | [_], _ => rfl) fun cdv A outer s H E hr =>
    (dss_cons (ds_setDc 1 (hu9 hr) rfl S_holes_by.nd (di_val (de_fz (se_call c_around hr (by decide) (da_cons (de_var 0) da_nil)))) [("cell", 2)] (by rfl) (fun _ _ _ _ _ => (dg_name 2 S_holes_by.nd)) (fun _ _ _ _ _ => (dts_one (dt_notIn hr (de_var 2) (le_loc 0) rfl))) (fun _ _ _ _ _ => (de_var 2)) (fun _ _ _ _ _ => de_bl) (by rfl)) (dss_cons (ds_set 3 S_holes_by.nd (se_dc (hu9 hr) rfl S_holes_by.nd (di_val (de_fz (se_call c_part_with hr (by decide) (da_cons (de_fzv 1) (da_cons (de_b1 (b_min rfl (hu32 hr)) (by rfl) G.b_min bt_min (le_loc 1)) da_nil))))) [("cell", 2)] (by rfl) (fun _ _ _ _ _ => (dg_name 2 S_holes_by.nd)) (fun _ _ _ _ _ => dts_nil) (fun _ _ _ _ _ => (de_var 2)) (fun _ _ _ _ _ => de_bl))) (dss_one (ds_ret (de_t1 b_tuple (by rfl) G.b_tuple bt_tuple (LE.of (de_fz (se_lc rfl S_holes_by.nd (di_val (de_fzv 1)) [("cell", 2)] (by rfl) (fun _ _ _ _ _ => (dg_name 2 S_holes_by.nd)) (fun _ _ _ _ _ => (dts_one (dt_notIn hr (de_var 2) (le_loc 3) rfl))) (fun _ _ _ _ _ => (de_var 2))))))))))
theorem S_filling_by : FnScope ["cells", "shape", "left", "found", "cell", "shifts", "each"] ["cells", "shape"] (defScope s_filling_by) := fnScope_by (by decide +kernel)
def g_filling_by : MS := (sSeq (sPar 2 3 (mDC [4] (mItems (eVar 0)) (tgN 4) tAll (eVar 4) (eC (.bool true))) (mLst aNil)) (sSeq (sFor (mItems (eVar 0)) (tgN 4) (sIf (mT (m2 inD (eVar 4) (eLoc 2))) (sSeq (sSet 5 (mDat (mFz (mCallB 2 f_taken_from (aCons (eVar 1) (aCons (eVar 4) aNil)))))) (sSeq (sIf (mT (m2 eqD (eVar 5) (mFz (mLst aNil)))) (sRet (eC .none)) sNil) (sSeq (sFor (mItems (mFz (mCall f_shifted_by (aCons (eVar 1) (aCons (m2 ixD (eVar 5) (eC (.int 0))) aNil))))) (tgN 6) (sExpr (mPopK 2 (eVar 6)))) (sExpr (mAppN 3 (m2 ixD (eVar 5) (eC (.int 0)))))))) sNil)) (sRet (m1 tupleD (eLoc 3)))))
def f_filling_by : FD := runP' 5 g_filling_by
theorem ok_filling_by (G : Gv P w K mg) {f : Addr} {fd : FuncData} (F : FunD K "filling_by" "filling_by" (defArgs s_filling_by) (defBody s_filling_by) (defScope s_filling_by) [] [] f fd) (hm : mg "filling_by" = some (.ref f)) (c_taken_from : BF P w K mg base 3 "taken_from" 2 f_taken_from) (c_shifted_by : PF P w K mg base 2 "shifted_by" 2 f_shifted_by) : PF P w K mg base 4 "filling_by" 2 f_filling_by :=
  cal_pure F hm S_filling_by rfl (fun _ _ _ _ _ _ us hl => match us, hl with | [_, _], _ => rfl) fun cdv A outer s H E hr =>
    (dss_cons (ds_par 2 3 rfl S_filling_by.nd (se_dc (hu9 hr) rfl S_filling_by.nd (di_val (de_var 0)) [("cell", 4)] (by rfl) (fun _ _ _ _ _ => (dg_name 4 S_filling_by.nd)) (fun _ _ _ _ _ => dts_nil) (fun _ _ _ _ _ => (de_var 4)) (fun _ _ _ _ _ => de_bl)) (se_lst da_nil) (by rfl)) (dss_cons (ds_for rfl (di_val (de_var 0)) (dg_name 4 S_filling_by.nd) (dss_one (ds_if (dt_in hr (de_var 4) (le_loc 2) rfl) (dss_cons (ds_set 5 S_filling_by.nd (SE.of (de_fz (se_callB 2 c_taken_from hr (by decide) (da_cons (de_var 1) (da_cons (de_var 4) da_nil)))))) (dss_cons (ds_if (dt_cm (c_eq hr) (de_var 5) (de_fz (se_lst da_nil)) rfl) (dss_one (ds_ret de_non)) dss_nil) (dss_cons (ds_for rfl (di_val (de_fz (se_call c_shifted_by hr (by decide) (da_cons (de_var 1) (da_cons (de_ix (de_var 5) de_int) da_nil))))) (dg_name 6 S_filling_by.nd) (dss_one (ds_expr (de_popK (hu9 hr) 2 (de_var 6)))) PassesOwn.never) (dss_one (ds_expr (de_append 3 (de_ix (de_var 5) de_int))))))) dss_nil)) PassesOwn.never) (dss_one (ds_ret (de_t1 b_tuple (by rfl) G.b_tuple bt_tuple (le_loc 3))))))
theorem S_box : FnScope ["wide", "high"] ["wide", "high"] (defScope s_box) := fnScope_by (by decide +kernel)
def g_box : MS := (sSeq (sExpr (mFz (mCall f_check_number (aCons (eVar 0) (aCons (eC (.int 1)) (aCons (eC (.int (16))) aNil)))))) (sSeq (sExpr (mFz (mCall f_check_number (aCons (eVar 1) (aCons (eC (.int 1)) (aCons (eC (.int (16))) aNil)))))) (sSeq (sIf (mT (m2 gtD (m2 mulD (eVar 0) (eVar 1)) (eC (.int (16))))) sNever sNil) (sRet (mFz (mCall f_box_by (aCons (eVar 0) (aCons (eVar 1) aNil))))))))
def f_box : FD := runP' 0 g_box
theorem ok_box (G : Gv P w K mg) {f : Addr} {fd : FuncData} (F : FunD K "box" "box" (defArgs s_box) (defBody s_box) (defScope s_box) [] [] f fd) (hm : mg "box" = some (.ref f)) (c_check_number : PF P w K mg base 3 "check_number" 3 f_check_number) (c_box_by : PF P w K mg base 1 "box_by" 2 f_box_by) : PF P w K mg base 4 "box" 2 f_box :=
  cal_pure F hm S_box rfl (fun _ _ _ _ _ _ us hl => match us, hl with | [_, _], _ => rfl) fun cdv A outer s H E hr =>
    (dss_cons (ds_expr (de_fz (se_call c_check_number hr (by decide) (da_cons (de_var 0) (da_cons de_int (da_cons (de_gl G.g_MOST_LONG) da_nil)))))) (dss_cons (ds_expr (de_fz (se_call c_check_number hr (by decide) (da_cons (de_var 1) (da_cons de_int (da_cons (de_gl G.g_MOST_LONG) da_nil)))))) (dss_cons (ds_if (dt_cm c_gt (de_mul (de_var 0) (de_var 1)) (de_gl G.g_MOST_CELLS) rfl) (dss_one ds_never) dss_nil) (dss_one (ds_ret (de_fz (se_call c_box_by hr (by decide) (da_cons (de_var 0) (da_cons (de_var 1) da_nil)))))))))
theorem S_are_cells_by : FnScope ["value", "each"] ["value"] (defScope s_are_cells_by) := fnScope_by (by decide +kernel)
def g_are_cells_by : MS := (sSeq (sIf (tOrM (tNotM (mT (m1 (isiD "tuple") (eVar 0)))) (tNotM (mT (m3c leD leD (eC (.int 1)) (m1 lenD (eLoc 0)) (eC (.int (16))))))) (sRet (eC (.bool false))) sNil) (sRet (mAnd (m1 allD (mFz (mLst (mLC [1] (mItems (eVar 0)) (tgN 1) tAll (mFz (mCall f_is_cell_by (aCons (eVar 1) aNil))))))) (mFz (mCall f_are_rising (aCons (eVar 0) aNil))))))
def f_are_cells_by : FD := runP' 1 g_are_cells_by
theorem ok_are_cells_by (G : Gv P w K mg) {f : Addr} {fd : FuncData} (F : FunD K "are_cells_by" "are_cells_by" (defArgs s_are_cells_by) (defBody s_are_cells_by) (defScope s_are_cells_by) [] [] f fd) (hm : mg "are_cells_by" = some (.ref f)) (c_is_cell_by : PF P w K mg base 4 "is_cell_by" 1 f_is_cell_by) (c_are_rising : PF P w K mg base 1 "are_rising" 1 f_are_rising) : PF P w K mg base 5 "are_cells_by" 1 f_are_cells_by :=
  cal_pure F hm S_are_cells_by rfl (fun _ _ _ _ _ _ us hl => match us, hl with | [_], _ => rfl) fun cdv A outer s H E hr =>
    (dss_cons (ds_if (DW.dt (dw_or (dt_not (dt_val (de_isi "tuple" kit_tuple (de_var 0) (by rfl) G.b_isinstance (by rfl) G.b_tuple))) (dw_or1 (dt_not (dt_chain c_le c_le de_int (de_b1 b_len (by rfl) G.b_len bt_len (le_loc 0)) (de_gl G.g_MOST_CELLS)))))) (dss_one (ds_ret de_bl)) dss_nil) (dss_one (ds_ret (de_and (de_b1 (b_all rfl) (by rfl) G.b_all bt_all (LE.of (de_fz (se_lc rfl S_are_cells_by.nd (di_val (de_var 0)) [("each", 1)] (by rfl) (fun _ _ _ _ _ => (dg_name 1 S_are_cells_by.nd)) (fun _ _ _ _ _ => dts_nil) (fun _ _ _ _ _ => (de_fz (se_call c_is_cell_by hr (by decide) (da_cons (de_var 1) da_nil)))))))) (de_one (de_fz (se_call c_are_rising hr (by decide) (da_cons (de_var 0) da_nil))))))))
theorem S_filling_count_by : FnScope ["cells", "shape"] ["cells", "shape"] (defScope s_filling_count_by) := fnScope_by (by decide +kernel)
def g_filling_count_by : MS := (sRet (mIf (mT (m2 isD (mFz (mCall f_filling_by (aCons (eVar 0) (aCons (eVar 1) aNil)))) (eC .none))) (eC (.int 0)) (eC (.int 1))))
def f_filling_count_by : FD := runP' 0 g_filling_count_by
theorem ok_filling_count_by (G : Gv P w K mg) {f : Addr} {fd : FuncData} (F : FunD K "filling_count_by" "filling_count_by" (defArgs s_filling_count_by) (defBody s_filling_count_by) (defScope s_filling_count_by) [] [] f fd) (hm : mg "filling_count_by" = some (.ref f)) (c_filling_by : PF P w K mg base 4 "filling_by" 2 f_filling_by) : PF P w K mg base 5 "filling_count_by" 2 f_filling_count_by :=
  cal_pure F hm S_filling_count_by rfl (fun _ _ _ _ _ _ us hl => match us, hl with | [_, _], _ => rfl) fun cdv A outer s H E hr =>
    (dss_one (ds_ret (de_ifExp (dt_cm c_is (de_fz (se_call c_filling_by hr (by decide) (da_cons (de_var 0) (da_cons (de_var 1) da_nil)))) de_non rfl) de_int de_int)))
theorem S_is_shape_by : FnScope ["value"] ["value"] (defScope s_is_shape_by) := fnScope_by (by decide +kernel)
def g_is_shape_by : MS := (sSeq (sIf (tOrM (tNotM (mT (mFz (mCall f_are_cells_by (aCons (eVar 0) aNil))))) (tNotM (mT (mFz (mCall f_do_hang_together (aCons (eVar 0) aNil)))))) (sRet (eC (.bool false))) sNil) (sRet (mAnd (m2 eqD (mFz (mCall f_holes_by (aCons (eVar 0) aNil))) (mTup aNil)) (m2 eqD (mFz (mCall f_corners_by (aCons (eVar 0) aNil))) (mTup aNil)))))
def f_is_shape_by : FD := runP' 0 g_is_shape_by
theorem ok_is_shape_by (G : Gv P w K mg) {f : Addr} {fd : FuncData} (F : FunD K "is_shape_by" "is_shape_by" (defArgs s_is_shape_by) (defBody s_is_shape_by) (defScope s_is_shape_by) [] [] f fd) (hm : mg "is_shape_by" = some (.ref f)) (c_are_cells_by : PF P w K mg base 5 "are_cells_by" 1 f_are_cells_by) (c_do_hang_together : PF P w K mg base 4 "do_hang_together" 1 f_do_hang_together) (c_holes_by : PF P w K mg base 4 "holes_by" 1 f_holes_by) (c_corners_by : PF P w K mg base 2 "corners_by" 1 f_corners_by) : PF P w K mg base 6 "is_shape_by" 1 f_is_shape_by :=
  cal_pure F hm S_is_shape_by rfl (fun _ _ _ _ _ _ us hl => match us, hl with | [_], _ => rfl) fun cdv A outer s H E hr =>
    (dss_cons (ds_if (DW.dt (dw_or (dt_not (dt_val (de_fz (se_call c_are_cells_by hr (by decide) (da_cons (de_var 0) da_nil))))) (dw_or1 (dt_not (dt_val (de_fz (se_call c_do_hang_together hr (by decide) (da_cons (de_var 0) da_nil)))))))) (dss_one (ds_ret de_bl)) dss_nil) (dss_one (ds_ret (de_and (de_cm (c_eq hr) (de_fz (se_call c_holes_by hr (by decide) (da_cons (de_var 0) da_nil))) (de_tup da_nil) rfl) (de_one (de_cm (c_eq hr) (de_fz (se_call c_corners_by hr (by decide) (da_cons (de_var 0) da_nil))) (de_tup da_nil) rfl))))))
theorem S_check_cells : FnScope ["value"] ["value"] (defScope s_check_cells) := fnScope_by (by decide +kernel)
def g_check_cells : MS := (sIf (tNotM (mT (mFz (mCall f_are_cells_by (aCons (eVar 0) aNil))))) sNever sNil)
def f_check_cells : FD := runP' 0 g_check_cells
theorem ok_check_cells (G : Gv P w K mg) {f : Addr} {fd : FuncData} (F : FunD K "check_cells" "check_cells" (defArgs s_check_cells) (defBody s_check_cells) (defScope s_check_cells) [] [] f fd) (hm : mg "check_cells" = some (.ref f)) (c_are_cells_by : PF P w K mg base 5 "are_cells_by" 1 f_are_cells_by) : PF P w K mg base 6 "check_cells" 1 f_check_cells :=
  cal_pure F hm S_check_cells rfl (fun _ _ _ _ _ _ us hl => match us, hl with | [_], _ => rfl) fun cdv A outer s H E hr =>
    (dss_one (ds_if (dt_not (dt_val (de_fz (se_call c_are_cells_by hr (by decide) (da_cons (de_var 0) da_nil))))) (dss_one ds_never) dss_nil))
theorem S_check_shape : FnScope ["value"] ["value"] (defScope s_check_shape) := fnScope_by (by decide +kernel)
def g_check_shape : MS := (sIf (tNotM (mT (mFz (mCall f_is_shape_by (aCons (eVar 0) aNil))))) sNever sNil)
def f_check_shape : FD := runP' 0 g_check_shape
theorem ok_check_shape (G : Gv P w K mg) {f : Addr} {fd : FuncData} (F : FunD K "check_shape" "check_shape" (defArgs s_check_shape) (defBody s_check_shape) (defScope s_check_shape) [] [] f fd) (hm : mg "check_shape" = some (.ref f)) (c_is_shape_by : PF P w K mg base 6 "is_shape_by" 1 f_is_shape_by) : PF P w K mg base 7 "check_shape" 1 f_check_shape :=
  cal_pure F hm S_check_shape rfl (fun _ _ _ _ _ _ us hl => match us, hl with | [_], _ => rfl) fun cdv A outer s H E hr =>
    (dss_one (ds_if (dt_not (dt_val (de_fz (se_call c_is_shape_by hr (by decide) (da_cons (de_var 0) da_nil))))) (dss_one ds_never) dss_nil))
theorem S_box_around : FnScope ["cells"] ["cells"] (defScope s_box_around) := fnScope_by (by decide +kernel)
def g_box_around : MS := (sSeq (sExpr (mFz (mCall f_check_cells (aCons (eVar 0) aNil)))) (sRet (mFz (mCall f_box_around_by (aCons (eVar 0) aNil)))))
def f_box_around : FD := runP' 0 g_box_around
theorem ok_box_around (G : Gv P w K mg) {f : Addr} {fd : FuncData} (F : FunD K "box_around" "box_around" (defArgs s_box_around) (defBody s_box_around) (defScope s_box_around) [] [] f fd) (hm : mg "box_around" = some (.ref f)) (c_check_cells : PF P w K mg base 6 "check_cells" 1 f_check_cells) (c_box_around_by : PF P w K mg base 2 "box_around_by" 1 f_box_around_by) : PF P w K mg base 7 "box_around" 1 f_box_around :=
  cal_pure F hm S_box_around rfl (fun _ _ _ _ _ _ us hl => match us, hl with | [_], _ => rfl) fun cdv A outer s H E hr =>
    (dss_cons (ds_expr (de_fz (se_call c_check_cells hr (by decide) (da_cons (de_var 0) da_nil)))) (dss_one (ds_ret (de_fz (se_call c_box_around_by hr (by decide) (da_cons (de_var 0) da_nil))))))
theorem S_is_box : FnScope ["cells"] ["cells"] (defScope s_is_box) := fnScope_by (by decide +kernel)
def g_is_box : MS := (sSeq (sExpr (mFz (mCall f_check_cells (aCons (eVar 0) aNil)))) (sRet (mFz (mCall f_is_box_by (aCons (eVar 0) aNil)))))
def f_is_box : FD := runP' 0 g_is_box
theorem ok_is_box (G : Gv P w K mg) {f : Addr} {fd : FuncData} (F : FunD K "is_box" "is_box" (defArgs s_is_box) (defBody s_is_box) (defScope s_is_box) [] [] f fd) (hm : mg "is_box" = some (.ref f)) (c_check_cells : PF P w K mg base 6 "check_cells" 1 f_check_cells) (c_is_box_by : PF P w K mg base 3 "is_box_by" 1 f_is_box_by) : PF P w K mg base 7 "is_box" 1 f_is_box :=
  cal_pure F hm S_is_box rfl (fun _ _ _ _ _ _ us hl => match us, hl with | [_], _ => rfl) fun cdv A outer s H E hr =>
    (dss_cons (ds_expr (de_fz (se_call c_check_cells hr (by decide) (da_cons (de_var 0) da_nil)))) (dss_one (ds_ret (de_fz (se_call c_is_box_by hr (by decide) (da_cons (de_var 0) da_nil))))))
theorem S_is_shape : FnScope ["value"] ["value"] (defScope s_is_shape) := fnScope_by (by decide +kernel)
def g_is_shape : MS := (sRet (mFz (mCall f_is_shape_by (aCons (eVar 0) aNil))))
def f_is_shape : FD := runP' 0 g_is_shape
theorem ok_is_shape (G : Gv P w K mg) {f : Addr} {fd : FuncData} (F : FunD K "is_shape" "is_shape" (defArgs s_is_shape) (defBody s_is_shape) (defScope s_is_shape) [] [] f fd) (hm : mg "is_shape" = some (.ref f)) (c_is_shape_by : PF P w K mg base 6 "is_shape_by" 1 f_is_shape_by) : PF P w K mg base 7 "is_shape" 1 f_is_shape :=
  cal_pure F hm S_is_shape rfl (fun _ _ _ _ _ _ us hl => match us, hl with | [_], _ => rfl) fun cdv A outer s H E hr =>
    (dss_one (ds_ret (de_fz (se_call c_is_shape_by hr (by decide) (da_cons (de_var 0) da_nil)))))
theorem S_check_two : FnScope ["cells", "shape"] ["cells", "shape"] (defScope s_check_two) := fnScope_by (by decide +kernel)
def g_check_two : MS := (sSeq (sExpr (mFz (mCall f_check_cells (aCons (eVar 0) aNil)))) (sExpr (mFz (mCall f_check_shape (aCons (eVar 1) aNil)))))
def f_check_two : FD := runP' 0 g_check_two
theorem ok_check_two (G : Gv P w K mg) {f : Addr} {fd : FuncData} (F : FunD K "check_two" "check_two" (defArgs s_check_two) (defBody s_check_two) (defScope s_check_two) [] [] f fd) (hm : mg "check_two" = some (.ref f)) (c_check_cells : PF P w K mg base 6 "check_cells" 1 f_check_cells) (c_check_shape : PF P w K mg base 7 "check_shape" 1 f_check_shape) : PF P w K mg base 8 "check_two" 2 f_check_two :=
  cal_pure F hm S_check_two rfl (fun _ _ _ _ _ _ us hl => match us, hl with | [_, _], _ => rfl) fun cdv A outer s H E hr =>
    (dss_cons (ds_expr (de_fz (se_call c_check_cells hr (by decide) (da_cons (de_var 0) da_nil)))) (dss_one (ds_expr (de_fz (se_call c_check_shape hr (by decide) (da_cons (de_var 1) da_nil))))))
theorem S_filling : FnScope ["cells", "shape"] ["cells", "shape"] (defScope s_filling) := fnScope_by (by decide +kernel)
def g_filling : MS := (sSeq (sExpr (mFz (mCall f_check_two (aCons (eVar 0) (aCons (eVar 1) aNil))))) (sRet (mFz (mCall f_filling_by (aCons (eVar 0) (aCons (eVar 1) aNil))))))
def f_filling : FD := runP' 0 g_filling
theorem ok_filling (G : Gv P w K mg) {f : Addr} {fd : FuncData} (F : FunD K "filling" "filling" (defArgs s_filling) (defBody s_filling) (defScope s_filling) [] [] f fd) (hm : mg "filling" = some (.ref f)) (c_check_two : PF P w K mg base 8 "check_two" 2 f_check_two) (c_filling_by : PF P w K mg base 4 "filling_by" 2 f_filling_by) : PF P w K mg base 9 "filling" 2 f_filling :=
  cal_pure F hm S_filling rfl (fun _ _ _ _ _ _ us hl => match us, hl with | [_, _], _ => rfl) fun cdv A outer s H E hr =>
    (dss_cons (ds_expr (de_fz (se_call c_check_two hr (by decide) (da_cons (de_var 0) (da_cons (de_var 1) da_nil))))) (dss_one (ds_ret (de_fz (se_call c_filling_by hr (by decide) (da_cons (de_var 0) (da_cons (de_var 1) da_nil)))))))
theorem S_filling_count : FnScope ["cells", "shape"] ["cells", "shape"] (defScope s_filling_count) := fnScope_by (by decide +kernel)
def g_filling_count : MS := (sSeq (sExpr (mFz (mCall f_check_two (aCons (eVar 0) (aCons (eVar 1) aNil))))) (sRet (mFz (mCall f_filling_count_by (aCons (eVar 0) (aCons (eVar 1) aNil))))))
def f_filling_count : FD := runP' 0 g_filling_count
theorem ok_filling_count (G : Gv P w K mg) {f : Addr} {fd : FuncData} (F : FunD K "filling_count" "filling_count" (defArgs s_filling_count) (defBody s_filling_count) (defScope s_filling_count) [] [] f fd) (hm : mg "filling_count" = some (.ref f)) (c_check_two : PF P w K mg base 8 "check_two" 2 f_check_two) (c_filling_count_by : PF P w K mg base 5 "filling_count_by" 2 f_filling_count_by) : PF P w K mg base 9 "filling_count" 2 f_filling_count :=
  cal_pure F hm S_filling_count rfl (fun _ _ _ _ _ _ us hl => match us, hl with | [_, _], _ => rfl) fun cdv A outer s H E hr =>
    (dss_cons (ds_expr (de_fz (se_call c_check_two hr (by decide) (da_cons (de_var 0) (da_cons (de_var 1) da_nil))))) (dss_one (ds_ret (de_fz (se_call c_filling_count_by hr (by decide) (da_cons (de_var 0) (da_cons (de_var 1) da_nil)))))))
theorem S_law_pair_right : FnScope ["pool", "wide", "high", "one", "two", "by", "cells", "shape", "is_so", "told", "due", "x", "y"] ["pool", "wide", "high", "one", "two"] (defScope s_law_pair_right) := fnScope_by (by decide +kernel)
def g_law_pair_right : MS := (sSeq (sSet 5 (mDat (mTup (aCons (m2 subD (mFz (mCallI 0 f_law_draw (aCons (eC (.int 40)) aNil))) (eC (.int 20))) (aCons (m2 subD (mFz (mCallI 0 f_law_draw (aCons (eC (.int 40)) aNil))) (eC (.int 20))) aNil))))) (sSeq (sPar 6 7 (mDat (mFz (mCall f_law_moved (aCons (mFz (mCall f_box (aCons (eVar 1) (aCons (eVar 2) aNil)))) (aCons (eVar 5) aNil))))) (mDat (mFz (mCall f_box (aCons (eVar 3) (aCons (eVar 4) aNil)))))) (sSeq (sSet 8 (mDat (mAnd (m2 eqD (m2 modD (m1 intD (eLoc 1)) (eVar 3)) (eC (.int 0))) (m2 eqD (m2 modD (m1 intD (eLoc 2)) (eVar 4)) (eC (.int 0)))))) (sSeq (sSet 9 (mDat (mFz (mCall f_filling (aCons (eVar 6) (aCons (eVar 7) aNil)))))) (sSeq (sIf (tOrM (mT (m2 neD (m2 isntD (eVar 9) (eC .none)) (eVar 8))) (mT (m2 neD (mFz (mCall f_filling_count (aCons (eVar 6) (aCons (eVar 7) aNil)))) (m1 intD (eLoc 8))))) (sRet (eC (.bool false))) sNil) (sSeq (sIf (tNotM (mT (eVar 8))) (sRet (m2 eqD (mFz (mCall f_law_fillings (aCons (eVar 6) (aCons (eVar 7) aNil)))) (mFz (mLst aNil)))) sNil) (sSeq (sSet 10 (mDat (mFz (mLst aNil)))) (sSeq (sFor (mRng1 (aCons (m2 fdivD (eVar 1) (eVar 3)) aNil)) (tgN 11) (sSet 10 (mDat (m2 addD (eVar 10) (mFz (mLst (mLC [12] (mRng1 (aCons (m2 fdivD (eVar 2) (eVar 4)) aNil)) (tgN 12) tAll (mTup (aCons (m2 addD (m2 ixD (eVar 5) (eC (.int 0))) (m2 mulD (eVar 11) (eVar 3))) (aCons (m2 addD (m2 ixD (eVar 5) (eC (.int 1))) (m2 mulD (eVar 12) (eVar 4))) aNil)))))))))) (sRet (m2 eqD (eVar 9) (m1 tupleD (eLoc 10))))))))))))
def f_law_pair_right : FI := runI' 8 g_law_pair_right
theorem ok_law_pair_right (G : Gv P w K mg) {f : Addr} {fd : FuncData} (F : FunD K "_law_pair_right" "_law_pair_right" (defArgs s_law_pair_right) (defBody s_law_pair_right) (defScope s_law_pair_right) [] [] f fd) (hm : mg "_law_pair_right" = some (.ref f)) (c_law_draw : IF P w K mg base 1 "_law_draw" 1 f_law_draw) (c_law_moved : PF P w K mg base 1 "_law_moved" 2 f_law_moved) (c_box : PF P w K mg base 4 "box" 2 f_box) (c_filling : PF P w K mg base 9 "filling" 2 f_filling) (c_filling_count : PF P w K mg base 9 "filling_count" 2 f_filling_count) (c_law_fillings : PF P w K mg base 2 "_law_fillings" 2 f_law_fillings) : IF P w K mg base 10 "_law_pair_right" 4 f_law_pair_right :=
  cal_io F hm S_law_pair_right 4 rfl rfl (fun _ _ _ _ _ _ us hl => match us, hl with | [_, _, _, _, _], _ => rfl) fun cdv A outer s H E hr =>
    (dss_cons (ds_set 5 S_law_pair_right.nd (SE.of (de_tup (da_cons (de_sub (de_fz (se_callI 0 c_law_draw hr (by decide) (da_cons de_int da_nil))) de_int) (da_cons (de_sub (de_fz (se_callI 0 c_law_draw hr (by decide) (da_cons de_int da_nil))) de_int) da_nil))))) (dss_cons (ds_par 6 7 rfl S_law_pair_right.nd (SE.of (de_fz (se_call c_law_moved hr (by decide) (da_cons (de_fz (se_call c_box hr (by decide) (da_cons (de_var 1) (da_cons (de_var 2) da_nil)))) (da_cons (de_var 5) da_nil))))) (SE.of (de_fz (se_call c_box hr (by decide) (da_cons (de_var 3) (da_cons (de_var 4) da_nil))))) (by rfl)) (dss_cons (ds_set 8 S_law_pair_right.nd (SE.of (de_and (de_cm (c_eq hr) (de_mod (de_t1 b_int (by rfl) G.b_int bt_int (le_loc 1)) (de_var 3)) de_int rfl) (de_one (de_cm (c_eq hr) (de_mod (de_t1 b_int (by rfl) G.b_int bt_int (le_loc 2)) (de_var 4)) de_int rfl))))) (dss_cons (ds_set 9 S_law_pair_right.nd (SE.of (de_fz (se_call c_filling hr (by decide) (da_cons (de_var 6) (da_cons (de_var 7) da_nil)))))) (dss_cons (ds_if (DW.dt (dw_or (dt_cm (c_ne hr) (de_cm c_isnt (de_var 9) de_non rfl) (de_var 8) rfl) (dw_or1 (dt_cm (c_ne hr) (de_fz (se_call c_filling_count hr (by decide) (da_cons (de_var 6) (da_cons (de_var 7) da_nil)))) (de_t1 b_int (by rfl) G.b_int bt_int (le_loc 8)) rfl)))) (dss_one (ds_ret de_bl)) dss_nil) (dss_cons (ds_if (dt_not (dt_val (de_var 8))) (dss_one (ds_ret (de_cm (c_eq hr) (de_fz (se_call c_law_fillings hr (by decide) (da_cons (de_var 6) (da_cons (de_var 7) da_nil)))) (de_fz (se_lst da_nil)) rfl))) dss_nil) (dss_cons (ds_set 10 S_law_pair_right.nd (SE.of (de_fz (se_lst da_nil)))) (dss_cons (ds_for rfl (di_rng1 (by rfl) G.b_range (da_cons (de_fdiv (de_var 1) (de_var 3)) da_nil)) (dg_name 11 S_law_pair_right.nd) (dss_one (ds_set 10 S_law_pair_right.nd (SE.of (de_add (de_var 10) (de_fz (se_lc rfl S_law_pair_right.nd (di_rng1 (by rfl) G.b_range (da_cons (de_fdiv (de_var 2) (de_var 4)) da_nil)) [("y", 12)] (by rfl) (fun _ _ _ _ _ => (dg_name 12 S_law_pair_right.nd)) (fun _ _ _ _ _ => dts_nil) (fun _ _ _ _ _ => (de_tup (da_cons (de_add (de_ix (de_var 5) de_int) (de_mul (de_var 11) (de_var 3))) (da_cons (de_add (de_ix (de_var 5) de_int) (de_mul (de_var 12) (de_var 4))) da_nil)))))))))) PassesOwn.never) (dss_one (ds_ret (de_cm (c_eq hr) (de_var 9) (de_t1 b_tuple (by rfl) G.b_tuple bt_tuple (le_loc 10)) rfl)))))))))))
theorem S_law_right : FnScope ["pool", "turn", "wide", "high", "due", "lap"] ["pool"] (defScope s_law_right) := fnScope_by (by decide +kernel)
def g_law_right : MS := (sSeq (sFor (mRng1 (aCons (eC (.int 6)) aNil)) (tgN 1) (sSeq (sSet 2 (mDat (m2 addD (eC (.int 1)) (mFz (mCallI 0 f_law_draw (aCons (eC (.int 16)) aNil)))))) (sSeq (sSet 3 (mDat (m2 addD (eC (.int 1)) (mFz (mCallI 0 f_law_draw (aCons (m2 fdivD (eC (.int 16)) (eVar 2)) aNil)))))) (sSeq (sSet 4 (mDat (mFz (mCall f_law_box (aCons (eVar 2) (aCons (eVar 3) aNil)))))) (sSeq (sIf (tOrM (mT (m2 neD (m1 reprD (mFz (mLst (aCons (mFz (mCall f_box (aCons (eVar 2) (aCons (eVar 3) aNil)))) (aCons (mFz (mCallK f_box swap2 (aCons (eVar 3) (aCons (eVar 2) aNil)))) aNil))))) (m1 reprD (mFz (mLst (aCons (eVar 4) (aCons (eVar 4) aNil))))))) (tOrM (mT (m2 isntD (mFz (mCall f_is_shape (aCons (eVar 4) aNil))) (eC (.bool true)))) (tOrM (mT (m2 isntD (mFz (mCall f_is_box (aCons (eVar 4) aNil))) (eC (.bool true)))) (mT (m2 neD (mFz (mCall f_box_around (aCons (eVar 4) aNil))) (mTup (aCons (eVar 2) (aCons (eVar 3) aNil)))))))) (sRet (eC (.bool false))) sNil) (sSeq (sFor (mRng1 (aCons (eC (.int 5)) aNil)) (tgN 5) (sIf (tNotM (mT (mFz (mCallI 0 f_law_pair_right (aCons (eVar 2) (aCons (eVar 3) (aCons (m2 addD (eC (.int 1)) (mFz (mCallI 0 f_law_draw (aCons (eC (.int 4)) aNil)))) (aCons (m2 addD (eC (.int 1)) (mFz (mCallI 0 f_law_draw (aCons (eC (.int 4)) aNil)))) aNil)))))))) (sRet (eC (.bool false))) sNil)) (sIf (tOrM (tNotM (mT (mFz (mCallI 0 f_law_pair_right (aCons (eVar 2) (aCons (eVar 3) (aCons (eC (.int 1)) (aCons (eC (.int 2)) aNil)))))))) (tOrM (tNotM (mT (mFz (mCallI 0 f_law_pair_right (aCons (eVar 2) (aCons (eVar 3) (aCons (eC (.int 2)) (aCons (eC (.int 1)) aNil)))))))) (tNotM (mT (mFz (mCallI 0 f_law_pair_right (aCons (eVar 2) (aCons (eVar 3) (aCons (eVar 2) (aCons (eVar 3) aNil)))))))))) (sRet (eC (.bool false))) sNil))))))) (sRet (mAnd (mFz (mCallI 0 f_law_pair_right (aCons (eC (.int 4)) (aCons (eC (.int 4)) (aCons (eC (.int 2)) (aCons (eC (.int 2)) aNil)))))) (mAnd (mFz (mCallI 0 f_law_pair_right (aCons (eC (.int 6)) (aCons (eC (.int 2)) (aCons (eC (.int 3)) (aCons (eC (.int 2)) aNil)))))) (mFz (mCallI 0 f_law_pair_right (aCons (eC (.int 4)) (aCons (eC (.int 4)) (aCons (eC (.int 3)) (aCons (eC (.int 3)) aNil))))))))))
def f_law_right : FI := runI' 5 g_law_right
theorem ok_law_right (G : Gv P w K mg) {f : Addr} {fd : FuncData} (F : FunD K "_law_right" "_law_right" (defArgs s_law_right) (defBody s_law_right) (defScope s_law_right) [] [] f fd) (hm : mg "_law_right" = some (.ref f)) (c_law_draw : IF P w K mg base 1 "_law_draw" 1 f_law_draw) (c_law_box : PF P w K mg base 1 "_law_box" 2 f_law_box) (c_box : PF P w K mg base 4 "box" 2 f_box) (c_is_shape : PF P w K mg base 7 "is_shape" 1 f_is_shape) (c_is_box : PF P w K mg base 7 "is_box" 1 f_is_box) (c_box_around : PF P w K mg base 7 "box_around" 1 f_box_around) (c_law_pair_right : IF P w K mg base 10 "_law_pair_right" 4 f_law_pair_right) (ck_box : CalK P w K mg base 4 "box" 2 f_box ["high", "wide"] swap2) : IG' P w K mg base 11 "_law_right" 0 f_law_right :=
  cal_ioG F hm S_law_right 0 rfl rfl (fun _ _ _ _ _ _ us hl => match us, hl with | [_], _ => rfl) fun cdv A outer s H E hg hr =>
    (dss_cons (ds_for rfl (di_rng1 (by rfl) G.b_range (da_cons de_int da_nil)) (dg_name 1 S_law_right.nd) (dss_cons (ds_set 2 S_law_right.nd (SE.of (de_add de_int (de_fz (se_callI 0 c_law_draw hr (by decide) (da_cons de_int da_nil)))))) (dss_cons (ds_set 3 S_law_right.nd (SE.of (de_add de_int (de_fz (se_callI 0 c_law_draw hr (by decide) (da_cons (de_fdiv de_int (de_var 2)) da_nil)))))) (dss_cons (ds_set 4 S_law_right.nd (SE.of (de_fz (se_call c_law_box hr (by decide) (da_cons (de_var 2) (da_cons (de_var 3) da_nil)))))) (dss_cons (ds_if (DW.dt (dw_or (dt_cm (c_ne hr) (de_b1 (b_repr hg (hu32 hr)) (by rfl) G.b_repr bt_repr (LE.of (de_fz (se_lst (da_cons (de_fz (se_call c_box hr (by decide) (da_cons (de_var 2) (da_cons (de_var 3) da_nil)))) (da_cons (de_fz (se_callK ck_box hr (by decide) (dk_cons (de_var 3) (dk_cons (de_var 2) dk_nil)) (fun _ _ _ h => aLen2 h))) da_nil)))))) (de_b1 (b_repr hg (hu32 hr)) (by rfl) G.b_repr bt_repr (LE.of (de_fz (se_lst (da_cons (de_var 4) (da_cons (de_var 4) da_nil)))))) rfl) (dw_or (dt_cm c_isnt (de_fz (se_call c_is_shape hr (by decide) (da_cons (de_var 4) da_nil))) de_bl rfl) (dw_or (dt_cm c_isnt (de_fz (se_call c_is_box hr (by decide) (da_cons (de_var 4) da_nil))) de_bl rfl) (dw_or1 (dt_cm (c_ne hr) (de_fz (se_call c_box_around hr (by decide) (da_cons (de_var 4) da_nil))) (de_tup (da_cons (de_var 2) (da_cons (de_var 3) da_nil))) rfl)))))) (dss_one (ds_ret de_bl)) dss_nil) (dss_cons (ds_for rfl (di_rng1 (by rfl) G.b_range (da_cons de_int da_nil)) (dg_name 5 S_law_right.nd) (dss_one (ds_if (dt_not (dt_val (de_fz (se_callI 0 c_law_pair_right hr (by decide) (da_cons (de_var 2) (da_cons (de_var 3) (da_cons (de_add de_int (de_fz (se_callI 0 c_law_draw hr (by decide) (da_cons de_int da_nil)))) (da_cons (de_add de_int (de_fz (se_callI 0 c_law_draw hr (by decide) (da_cons de_int da_nil)))) da_nil)))))))) (dss_one (ds_ret de_bl)) dss_nil)) PassesOwn.never) (dss_one (ds_if (DW.dt (dw_or (dt_not (dt_val (de_fz (se_callI 0 c_law_pair_right hr (by decide) (da_cons (de_var 2) (da_cons (de_var 3) (da_cons de_int (da_cons de_int da_nil)))))))) (dw_or (dt_not (dt_val (de_fz (se_callI 0 c_law_pair_right hr (by decide) (da_cons (de_var 2) (da_cons (de_var 3) (da_cons de_int (da_cons de_int da_nil)))))))) (dw_or1 (dt_not (dt_val (de_fz (se_callI 0 c_law_pair_right hr (by decide) (da_cons (de_var 2) (da_cons (de_var 3) (da_cons (de_var 2) (da_cons (de_var 3) da_nil)))))))))))) (dss_one (ds_ret de_bl)) dss_nil))))))) PassesOwn.never) (dss_one (ds_ret (de_and (de_fz (se_callI 0 c_law_pair_right hr (by decide) (da_cons de_int (da_cons de_int (da_cons de_int (da_cons de_int da_nil)))))) (de_and (de_fz (se_callI 0 c_law_pair_right hr (by decide) (da_cons de_int (da_cons de_int (da_cons de_int (da_cons de_int da_nil)))))) (de_one (de_fz (se_callI 0 c_law_pair_right hr (by decide) (da_cons de_int (da_cons de_int (da_cons de_int (da_cons de_int da_nil))))))))))))
theorem S_law : FnScope ["script", "turn"] ["script"] (defScope s_law) := fnScope_by (by decide +kernel)
def g_law : MS := (sSeq (sFor (mRng1 (aCons (mA2 max2D (aCons (eC (.int 2)) (aCons (mA2 min2D (aCons (m1 lenD (eLoc 0)) (aCons (eC (.int 3)) aNil))) aNil))) aNil)) (tgN 1) (sIf (tNotM (mT (mFz (mCallN f_law_right (mCallB 0 f_law_pool (aCons (eVar 1) aNil)))))) (sRet (eC (.bool false))) sNil)) (sRet (eC (.bool true))))
def f_law : FD := runB' 1 g_law
end
end Tx
namespace Mx
open Dn Tx
open PySem (PyData NestedKey)
abbrev Ce := Int × Int
def cE (c : Ce) : PyData := .tuple [.int c.1, .int c.2]
def csE (cs : List Ce) : PyData := .tuple (cs.map cE)
def kvE (L : List Ce) : List (PyData × PyData) := L.map fun c => (cE c, .bool true)
def ad (b c : Ce) : Ce := (c.1 + b.1, c.2 + b.2)
def sb (c o : Ce) : Ce := (c.1 - o.1, c.2 - o.2)
def sh (b : Ce) (cs : List Ce) : List Ce := cs.map (ad b)
theorem eqv_c (a b : Ce) : PyData.eqv (cE a) (cE b) = decide (a = b) := by
  obtain ⟨a1, a2⟩ := a
  obtain ⟨b1, b2⟩ := b
  simp [cE, PyData.eqv, PyData.eqvAll, Prod.ext_iff, Bool.decide_and]
  first | rfl | (by_cases h1 : a1 = b1 <;> by_cases h2 : a2 = b2 <;> simp [h1, h2])
theorem key_c (c : Ce) : tupKey (cE c) = some (.tup [.num c.1, .num c.2]) := rfl
theorem any_kv (L : List Ce) (c : Ce) : ((kvE L).any fun kv => PyData.eqv kv.1 (cE c)) = decide (c ∈ L) := by
  induction L with
  | nil => rfl
  | cons a r ih =>
    show (PyData.eqv (cE a) (cE c) || (kvE r).any fun kv => PyData.eqv kv.1 (cE c)) = _
    rw [ih, eqv_c]
    by_cases h : a = c
    · subst h; simp
    · have h' : ¬ c = a := fun e => h e.symm
      simp [h, h']
theorem in_kv (L : List Ce) (c : Ce) : inD (cE c) (.dict (kvE L)) = some (.bool (decide (c ∈ L))) := by
  have e : inB (cE c) (.dict (kvE L)) = some (decide (c ∈ L)) := by
    rw [← any_kv]; rfl
  unfold inD; rw [e]
theorem store_kv (L : List Ce) (c : Ce) : storeE (kvE L) (cE c) (.bool true) = kvE (if c ∈ L then L else L ++ [c]) := by
  unfold storeE
  rw [any_kv]
  by_cases h : c ∈ L
  · simp only [h, decide_true, if_true]
    unfold kvE
    rw [List.map_map]
    refine List.map_congr_left fun a _ => ?_
    show (if PyData.eqv (cE a) (cE c) = true then (cE a, PyData.bool true) else (cE a, PyData.bool true)) = _
    split <;> rfl
  · simp [h, kvE]
theorem pop_kv (L : List Ce) (c : Ce) : popE (kvE L) (cE c) = kvE (L.filter fun x => !decide (x = c)) := by
  unfold popE kvE
  rw [List.filter_map]
  congr 1
  refine List.filter_congr fun a _ => ?_
  show (!PyData.eqv (cE a) (cE c)) = _
  rw [eqv_c]
theorem get_kv (L : List Ce) (c : Ce) (h : c ∈ L) : getE (kvE L) (cE c) = some (.bool true) := by
  induction L with
  | nil => cases h
  | cons a r ih =>
    unfold getE
    show ((List.find? (fun kv => PyData.eqv kv.1 (cE c)) ((cE a, PyData.bool true) :: kvE r)).map (·.2)) = _
    rw [List.find?_cons]
    by_cases e : a = c
    · subst e
      have : PyData.eqv (cE a) (cE a) = true := by rw [eqv_c]; simp
      simp only [this]; rfl
    · have : PyData.eqv (cE a) (cE c) = false := by rw [eqv_c]; simp [e]
      simp only [this]
      rcases List.mem_cons.mp h with rfl | h
      · exact absurd rfl e
      · exact ih h
theorem lc_map {vs : List Nat} {gt : PyData → Env → Option Env} {tt : M Bool} {fe : M PyData} {α : Type} (en : α → PyData) (φ : α → PyData) (p : α → Bool) (ρ : Env) : ∀ (l : List α), (∀ a ∈ l, ∃ ρ1 ρ2, gt (en a) ρ = some ρ1 ∧ tt ρ1 = some (p a, ρ2) ∧ (p a = false → wipeE vs ρ2 = some ρ) ∧ (p a = true → ∃ ρ3, fe ρ2 = some (φ a, ρ3) ∧ wipeE vs ρ3 = some ρ)) →
    lcLoop vs gt tt fe (l.map en) ρ = some ((l.filter p).map φ, ρ)
  | [], _ => rfl
  | a :: l, h => by
    obtain ⟨ρ1, ρ2, e1, e2, e3, e4⟩ := h a List.mem_cons_self
    have ih := lc_map en φ p ρ l fun b hb => h b (List.mem_cons_of_mem _ hb)
    rw [List.map_cons, lcLoop]
    simp only [e1, e2]
    cases hp : p a with
    | false =>
      simp only [e3 hp, ih, List.filter_cons, hp, Bool.false_eq_true, if_false]
    | true =>
      obtain ⟨ρ3, e5, e6⟩ := e4 hp
      simp only [e5, e6, ih, List.filter_cons, hp, if_true, List.map_cons]
theorem mLC_eq {vs : List Nat} {fi : M (List PyData)} {gt : PyData → Env → Option Env} {tt : M Bool} {fe : M PyData} {ρ ρ1 ρ2 ρ3 ρ4 : Env} {ds ys : List PyData} (h1 : fi ρ = some (ds, ρ1)) (h2 : wipeE vs ρ1 = some ρ2) (h3 : lcLoop vs gt tt fe ds ρ2 = some (ys, ρ3)) (h4 : restE ρ1 vs ρ3 = some ρ4) (hz : ys.length ≤ 100000) : mLC vs fi gt tt fe ρ = some (ys, ρ4) := by
  unfold mLC
  simp only [h1, h2, h3, h4, hz, if_true]
theorem filter_true {α : Type} (l : List α) : l.filter (fun _ => true) = l := by simp
/-- a comprehension without a test over cells -/
theorem lc_cells {vs : List Nat} {gt : PyData → Env → Option Env} {fe : M PyData} {α : Type} (en : α → PyData) (φ : α → PyData) (ρ : Env) (l : List α) (h : ∀ a ∈ l, ∃ ρ1 ρ3, gt (en a) ρ = some ρ1 ∧ fe ρ1 = some (φ a, ρ3) ∧ wipeE vs ρ3 = some ρ) : lcLoop vs gt tAll fe (l.map en) ρ = some (l.map φ, ρ) := by
  have := lc_map (tt := tAll) en φ (fun _ => true) ρ l (vs := vs) (gt := gt) (fe := fe) fun a ha => by
    obtain ⟨ρ1, ρ3, e1, e2, e3⟩ := h a ha
    exact ⟨ρ1, ρ1, e1, rfl, (fun z => nomatch z), fun _ => ⟨ρ3, e2, e3⟩⟩
  rw [filter_true] at this
  exact this
theorem seq_nx {g h : MS} {ρ ρ1 : Env} {r : Option Out} (h1 : g ρ = some (.nx ρ1)) (h2 : h ρ1 = r) : sSeq g h ρ = r := by
  unfold sSeq; simp only [h1]; exact h2
theorem seq_rt {g h : MS} {ρ ρ1 : Env} {s : Sl} (h1 : g ρ = some (.rt s ρ1)) : sSeq g h ρ = some (.rt s ρ1) := by
  unfold sSeq; simp only [h1]
theorem set_eq {i : Nat} {f : M Sl} {ρ ρ1 ρ2 : Env} {s : Sl} (h1 : f ρ = some (s, ρ1)) (h2 : setSl i s ρ1 = some ρ2) : sSet i f ρ = some (.nx ρ2) := by
  unfold sSet; simp only [h1, h2]
theorem setd_eq {i : Nat} {f : M PyData} {ρ ρ1 ρ2 : Env} {d : PyData} (h1 : f ρ = some (d, ρ1)) (h2 : setSl i (.dat d) ρ1 = some ρ2) : sSet i (mDat f) ρ = some (.nx ρ2) := by
  refine set_eq (s := .dat d) ?_ h2
  unfold mDat; simp only [h1]
theorem if_true' {c : M Bool} {g h : MS} {ρ ρ1 : Env} {r : Option Out} (h1 : c ρ = some (true, ρ1)) (h2 : g ρ1 = r) : sIf c g h ρ = r := by
  unfold sIf; simp only [h1]; exact h2
theorem if_false' {c : M Bool} {g h : MS} {ρ ρ1 : Env} {r : Option Out} (h1 : c ρ = some (false, ρ1)) (h2 : h ρ1 = r) : sIf c g h ρ = r := by
  unfold sIf; simp only [h1]; exact h2
theorem ret_eq {f : M PyData} {ρ ρ1 : Env} {d : PyData} (h1 : f ρ = some (d, ρ1)) : sRet f ρ = some (.rt (.dat d) ρ1) := by
  unfold sRet; simp only [h1]
theorem expr_eq {f : M PyData} {ρ ρ1 : Env} {d : PyData} (h1 : f ρ = some (d, ρ1)) : sExpr f ρ = some (.nx ρ1) := by
  unfold sExpr; simp only [h1]
theorem for_eq {fi : M (List PyData)} {gt : PyData → Env → Option Env} {b : MS} {ρ ρ1 : Env} {ds : List PyData} {r : Option Out} (h1 : fi ρ = some (ds, ρ1)) (h2 : sLoop gt b ds ρ1 = r) : sFor fi gt b ρ = r := by
  unfold sFor; simp only [h1]; exact h2
theorem call_eq {f : FD} {fr : M (List PyData)} {ρ ρ1 : Env} {ds : List PyData} {d : PyData} (h1 : fr ρ = some (ds, ρ1)) (h2 : f ds = some (.dat d)) : mFz (mCall f fr) ρ = some (d, ρ1) := by
  unfold mFz mCall; simp only [h1, h2]
theorem fz_lst {f : M (List PyData)} {ρ ρ1 : Env} {ds : List PyData} (h1 : f ρ = some (ds, ρ1)) : mFz (mLst f) ρ = some (.list ds, ρ1) := by
  unfold mFz mLst; simp only [h1]
theorem m1_eq {g : PyData → Option PyData} {f : M PyData} {ρ ρ1 : Env} {d z : PyData} (h1 : f ρ = some (d, ρ1)) (h2 : g d = some z) : m1 g f ρ = some (z, ρ1) := by
  unfold m1; simp only [h1, h2]
theorem m2_eq {g : PyData → PyData → Option PyData} {fa fb : M PyData} {ρ ρ1 ρ2 : Env} {x y z : PyData} (h1 : fa ρ = some (x, ρ1)) (h2 : fb ρ1 = some (y, ρ2)) (h3 : g x y = some z) : m2 g fa fb ρ = some (z, ρ2) := by
  unfold m2; simp only [h1, h2, h3]
theorem mT_eq {f : M PyData} {ρ ρ1 : Env} {b : Bool} (h1 : f ρ = some (.bool b, ρ1)) : mT f ρ = some (b, ρ1) := by
  unfold mT; simp only [h1]
theorem run_rt {m : Nat} {g : MS} {ds : List PyData} {d : PyData} {ρ : Env} (h : g (ds.map .dat ++ uns m) = some (.rt (.dat d) ρ)) : runP' m g ds = some (.dat d) := by
  unfold runP' clean runP; rw [h]; rfl
theorem run_nx {m : Nat} {g : MS} {ds : List PyData} {ρ : Env} (h : g (ds.map .dat ++ uns m) = some (.nx ρ)) : runP' m g ds = some (.dat .none) := by
  unfold runP' clean runP; rw [h]; rfl

theorem x_put_to (c b : Ce) : f_put_to [cE c, cE b] = some (.dat (cE (ad b c))) := rfl
theorem x_between (c o : Ce) : f_between [cE c, cE o] = some (.dat (cE (sb c o))) := rfl
theorem x_shifted_by (cs : List Ce) (b : Ce) (hz : cs.length ≤ 100000) : f_shifted_by [csE cs, cE b] = some (.dat (csE (sh b cs))) := by
  refine run_rt (ρ := [.dat (csE cs), .dat (cE b), .un]) (ret_eq (m1_eq (d := .list (cs.map fun c => cE (ad b c))) (fz_lst (mLC_eq (ds := cs.map cE) rfl rfl (lc_cells cE (fun c => cE (ad b c)) [.dat (csE cs), .dat (cE b), .un] cs fun c _ => ⟨_, _, rfl, rfl, rfl⟩) rfl (by simpa using hz))) ?_))
  show some (PyData.tuple _) = some (PyData.tuple _)
  rw [sh, List.map_map]; rfl
theorem x_law_moved (cs : List Ce) (b : Ce) (hz : cs.length ≤ 100000) : f_law_moved [csE cs, cE b] = some (.dat (csE (sh b cs))) := by
  refine run_rt (ρ := [.dat (csE cs), .dat (cE b), .un]) (ret_eq (m1_eq (d := .list (cs.map fun c => cE (ad b c))) (fz_lst (mLC_eq (ds := cs.map cE) rfl rfl (lc_cells cE (fun c => cE (ad b c)) [.dat (csE cs), .dat (cE b), .un] cs fun c _ => ⟨_, _, rfl, rfl, rfl⟩) rfl (by simpa using hz))) ?_))
  show some (PyData.tuple _) = some (PyData.tuple _)
  rw [sh, List.map_map]; rfl
theorem bools_map {α : Type} (l : List α) (p : α → Bool) : boolsOf (l.map fun a => PyData.bool (p a)) = some (l.map p) := by
  induction l with
  | nil => rfl
  | cons a r ih => rw [List.map_cons, boolsOf, ih]; rfl
theorem all_map {α : Type} (l : List α) (p : α → Bool) : allD (.list (l.map fun a => PyData.bool (p a))) = some (.bool (l.all p)) := by
  unfold allD
  simp only [bools_map, Option.map_some, List.all_map]
  rfl
end Mx
namespace Mx
open Dn Tx
open PySem (PyData NestedKey)
theorem run_B {m : Nat} {g : MS} {d0 d : PyData} {ds : List PyData} {ρ : Env} (h : g (.bor d0 :: ds.map .dat ++ uns m) = some (.rt (.dat d) ρ)) : runB' m g (d0 :: ds) = some (.dat d) := by
  unfold runB' clean runB; simp only [h]; rfl
theorem mIf_t {c : M Bool} {fa fb : M PyData} {ρ ρ1 : Env} {r : Option (PyData × Env)} (h1 : c ρ = some (true, ρ1)) (h2 : fa ρ1 = r) : mIf c fa fb ρ = r := by
  unfold mIf; simp only [h1]; exact h2
theorem mIf_f {c : M Bool} {fa fb : M PyData} {ρ ρ1 : Env} {r : Option (PyData × Env)} (h1 : c ρ = some (false, ρ1)) (h2 : fb ρ1 = r) : mIf c fa fb ρ = r := by
  unfold mIf; simp only [h1]; exact h2
theorem items_eq {f : M PyData} {ρ ρ1 : Env} {d : PyData} {ds : List PyData} (h1 : f ρ = some (d, ρ1)) (h2 : itemsD d = some ds) : mItems f ρ = some (ds, ρ1) := by
  unfold mItems; simp only [h1, h2]
def takenB (L : List Ce) (shape : List Ce) (s : Ce) : Bool := (sh s shape).all fun x => decide (x ∈ L)
theorem ix_head (s0 : Ce) (r : List Ce) : ixD (csE (s0 :: r)) (.int 0) = some (cE s0) := by
  show L2.atI ((s0 :: r).map cE) 0 = some (cE s0)
  unfold L2.atI L2.ixN
  simp
theorem x_taken_from (L : List Ce) (s0 : Ce) (r : List Ce) (c : Ce) (hz : (s0 :: r).length ≤ 100000) :
    f_taken_from [.dict (kvE L), csE (s0 :: r), cE c] = some (.dat (.list (if takenB L (s0 :: r) (sb c s0) = true then [cE (sb c s0)] else []))) := by
  have hset : sSet 3 (mDat (mFz (mCall f_between (aCons (eVar 2) (aCons (m2 ixD (eVar 1) (eC (.int 0))) aNil))))) [.bor (.dict (kvE L)), .dat (csE (s0 :: r)), .dat (cE c), .un, .un] = some (.nx [.bor (.dict (kvE L)), .dat (csE (s0 :: r)), .dat (cE c), .dat (cE (sb c s0)), .un]) := by
    refine setd_eq (ρ1 := [.bor (.dict (kvE L)), .dat (csE (s0 :: r)), .dat (cE c), .un, .un]) (call_eq (ds := [cE c, cE s0]) ?_ (x_between c s0)) rfl
    have e : m2 ixD (eVar 1) (eC (.int 0)) [.bor (.dict (kvE L)), .dat (csE (s0 :: r)), .dat (cE c), .un, .un] = some (cE s0, [.bor (.dict (kvE L)), .dat (csE (s0 :: r)), .dat (cE c), .un, .un]) := m2_eq rfl rfl (ix_head s0 r)
    have e2 : eVar 2 [.bor (.dict (kvE L)), .dat (csE (s0 :: r)), .dat (cE c), .un, .un] = some (cE c, [.bor (.dict (kvE L)), .dat (csE (s0 :: r)), .dat (cE c), .un, .un]) := rfl
    unfold aCons
    simp only [e, e2, aNil]
  have hall : mT (m1 allD (mFz (mLst (mLC [4] (mItems (mFz (mCall f_shifted_by (aCons (eVar 1) (aCons (eVar 3) aNil))))) (tgN 4) tAll (m2 inD (eVar 4) (eLoc 0)))))) [.bor (.dict (kvE L)), .dat (csE (s0 :: r)), .dat (cE c), .dat (cE (sb c s0)), .un] = some (takenB L (s0 :: r) (sb c s0), [.bor (.dict (kvE L)), .dat (csE (s0 :: r)), .dat (cE c), .dat (cE (sb c s0)), .un]) := by
    refine mT_eq (m1_eq (d := .list ((sh (sb c s0) (s0 :: r)).map fun x => .bool (decide (x ∈ L)))) (fz_lst (mLC_eq (ρ1 := [.bor (.dict (kvE L)), .dat (csE (s0 :: r)), .dat (cE c), .dat (cE (sb c s0)), .un]) (ds := (sh (sb c s0) (s0 :: r)).map cE) ?_ rfl (lc_cells cE (fun x => .bool (decide (x ∈ L))) [.bor (.dict (kvE L)), .dat (csE (s0 :: r)), .dat (cE c), .dat (cE (sb c s0)), .un] _ fun x _ => ⟨_, _, rfl, m2_eq rfl rfl (in_kv L x), rfl⟩) rfl (by simpa [sh] using hz))) (all_map _ _))
    exact items_eq (call_eq rfl (x_shifted_by (s0 :: r) (sb c s0) hz)) rfl
  cases hb : takenB L (s0 :: r) (sb c s0) with
  | true =>
    rw [hb] at hall
    exact run_B (seq_nx hset (ret_eq (mIf_t hall rfl)))
  | false =>
    rw [hb] at hall
    exact run_B (seq_nx hset (ret_eq (mIf_f hall rfl)))

def dictF : List Ce → List Ce → List Ce
  | [], L => L
  | c :: cs, L => dictF cs (if c ∈ L then L else L ++ [c])
theorem dict_loop {vs : List Nat} {gt : PyData → Env → Option Env} {fk fv : M PyData} (ρ : Env) : ∀ (cs L : List Ce), L.length + cs.length ≤ 100000 → (∀ c, ∃ ρ1 ρ2 ρ3, gt (cE c) ρ = some ρ1 ∧ fk ρ1 = some (cE c, ρ2) ∧ fv ρ2 = some (.bool true, ρ3) ∧ wipeE vs ρ3 = some ρ) →
    dcLoop vs gt tAll fk fv (cs.map cE) (kvE L) ρ = some (kvE (dictF cs L), ρ)
  | [], L, _, _ => rfl
  | c :: cs, L, hz, h => by
    obtain ⟨ρ1, ρ2, ρ3, e1, e2, e3, e4⟩ := h c
    have hl : (kvE L).length ≤ 100000 := by unfold kvE; rw [List.length_map]; simp at hz; omega
    have ih := dict_loop ρ cs (if c ∈ L then L else L ++ [c]) (by split <;> simp at hz ⊢ <;> omega) h
    rw [List.map_cons, dcLoop]
    simp only [e1, tAll, e2, e3, key_c, hl, if_true, e4, store_kv]
    exact ih
def popsF : List Ce → List Ce → Option (List Ce)
  | [], L => some L
  | x :: xs, L => if x ∈ L then popsF xs (L.filter fun y => !decide (y = x)) else none
theorem pops_loop (A B s3 s4 s5 : Sl) : ∀ (xs L L' : List Ce) (s6 : Sl), popsF xs L = some L' →
    ∃ s6', sLoop (tgN 6) (sExpr (mPopK 2 (eVar 6))) (xs.map cE) [A, B, .dic (kvE L), s3, s4, s5, s6] = some (.nx [A, B, .dic (kvE L'), s3, s4, s5, s6'])
  | [], L, L', s6, h => by cases h; exact ⟨s6, rfl⟩
  | x :: xs, L, L', s6, h => by
    unfold popsF at h
    split at h
    · rename_i hx
      obtain ⟨s6', ih⟩ := pops_loop A B s3 s4 s5 xs _ L' (.dat (cE x)) h
      refine ⟨s6', ?_⟩
      rw [List.map_cons, sLoop]
      have e1 : tgN 6 (cE x) [A, B, .dic (kvE L), s3, s4, s5, s6] = some [A, B, .dic (kvE L), s3, s4, s5, .dat (cE x)] := rfl
      have e2 : sExpr (mPopK 2 (eVar 6)) [A, B, .dic (kvE L), s3, s4, s5, .dat (cE x)] = some (.nx [A, B, .dic (kvE (L.filter fun y => !decide (y = x))), s3, s4, s5, .dat (cE x)]) := by
        refine expr_eq (d := .bool true) ?_
        unfold mPopK
        have e3 : isDic 2 [A, B, .dic (kvE L), s3, s4, s5, .dat (cE x)] = true := rfl
        have e4 : eVar 6 [A, B, .dic (kvE L), s3, s4, s5, .dat (cE x)] = some (cE x, [A, B, .dic (kvE L), s3, s4, s5, .dat (cE x)]) := rfl
        simp only [e3, e4, if_true]
        show (match tupKey (cE x), getE (kvE L) (cE x) with
          | some _, some d => some (d, [A, B, Sl.dic (popE (kvE L) (cE x)), s3, s4, s5, .dat (cE x)])
          | _, _ => none) = _
        rw [key_c, get_kv L x hx, pop_kv]
      simp only [e1, e2]
      exact ih
    · cases h
def fillF (s0 : Ce) (shape : List Ce) : List Ce → List Ce → List Ce → Option (Option (List Ce))
  | [], _, acc => some (some acc)
  | c :: cs, L, acc => if c ∈ L then (if takenB L shape (sb c s0) = true then (match popsF (sh (sb c s0) shape) L with
      | none => none
      | some L' => fillF s0 shape cs L' (acc ++ [sb c s0])) else some none) else fillF s0 shape cs L acc
def bodyF : MS := sIf (mT (m2 inD (eVar 4) (eLoc 2))) (sSeq (sSet 5 (mDat (mFz (mCallB 2 f_taken_from (aCons (eVar 1) (aCons (eVar 4) aNil)))))) (sSeq (sIf (mT (m2 eqD (eVar 5) (mFz (mLst aNil)))) (sRet (eC .none)) sNil) (sSeq (sFor (mItems (mFz (mCall f_shifted_by (aCons (eVar 1) (aCons (m2 ixD (eVar 5) (eC (.int 0))) aNil))))) (tgN 6) (sExpr (mPopK 2 (eVar 6)))) (sExpr (mAppN 3 (m2 ixD (eVar 5) (eC (.int 0)))))))) sNil
theorem fill_loop (A : Sl) (s0 : Ce) (r : List Ce) (hz : (s0 :: r).length ≤ 100000) : ∀ (cs L acc : List Ce) (s4 s5 s6 : Sl) (o : Option (List Ce)), acc.length + cs.length ≤ 100000 → fillF s0 (s0 :: r) cs L acc = some o →
    (o = none → ∃ ρ', sLoop (tgN 4) bodyF (cs.map cE) [A, .dat (csE (s0 :: r)), .dic (kvE L), .own (acc.map cE), s4, s5, s6] = some (.rt (.dat .none) ρ')) ∧
    (∀ acc', o = some acc' → ∃ s2 s4' s5' s6', sLoop (tgN 4) bodyF (cs.map cE) [A, .dat (csE (s0 :: r)), .dic (kvE L), .own (acc.map cE), s4, s5, s6] = some (.nx [A, .dat (csE (s0 :: r)), s2, .own (acc'.map cE), s4', s5', s6']))
  | [], L, acc, s4, s5, s6, o, _, h => by
    cases h
    exact ⟨(fun e => nomatch e), fun acc' e => by cases e; exact ⟨_, _, _, _, rfl⟩⟩
  | c :: cs, L, acc, s4, s5, s6, o, hl, h => by
    have eT : tgN 4 (cE c) [A, .dat (csE (s0 :: r)), .dic (kvE L), .own (acc.map cE), s4, s5, s6] = some [A, .dat (csE (s0 :: r)), .dic (kvE L), .own (acc.map cE), .dat (cE c), s5, s6] := rfl
    have eI : mT (m2 inD (eVar 4) (eLoc 2)) [A, .dat (csE (s0 :: r)), .dic (kvE L), .own (acc.map cE), .dat (cE c), s5, s6] = some (decide (c ∈ L), [A, .dat (csE (s0 :: r)), .dic (kvE L), .own (acc.map cE), .dat (cE c), s5, s6]) := mT_eq (m2_eq rfl rfl (in_kv L c))
    unfold fillF at h
    by_cases hc : c ∈ L
    · rw [if_pos hc] at h
      simp only [hc, decide_true] at eI
      have eS : ∀ d, f_taken_from [.dict (kvE L), csE (s0 :: r), cE c] = some (.dat d) → sSet 5 (mDat (mFz (mCallB 2 f_taken_from (aCons (eVar 1) (aCons (eVar 4) aNil))))) [A, .dat (csE (s0 :: r)), .dic (kvE L), .own (acc.map cE), .dat (cE c), s5, s6] = some (.nx [A, .dat (csE (s0 :: r)), .dic (kvE L), .own (acc.map cE), .dat (cE c), .dat d, s6]) := fun d hd => by
        refine setd_eq (ρ1 := [A, .dat (csE (s0 :: r)), .dic (kvE L), .own (acc.map cE), .dat (cE c), s5, s6]) ?_ rfl
        have : mCallB 2 f_taken_from (aCons (eVar 1) (aCons (eVar 4) aNil)) [A, .dat (csE (s0 :: r)), .dic (kvE L), .own (acc.map cE), .dat (cE c), s5, s6] = (match f_taken_from [.dict (kvE L), csE (s0 :: r), cE c] with
          | some s => some (s, [A, .dat (csE (s0 :: r)), .dic (kvE L), .own (acc.map cE), .dat (cE c), s5, s6])
          | none => none) := rfl
        unfold mFz; rw [this, hd]
      have hx := x_taken_from L s0 r c hz
      by_cases ht : takenB L (s0 :: r) (sb c s0) = true
      · rw [if_pos ht] at h hx
        cases hp : popsF (sh (sb c s0) (s0 :: r)) L with
        | none => rw [hp] at h; cases h
        | some L' =>
          rw [hp] at h
          obtain ⟨s6', ep⟩ := pops_loop A (.dat (csE (s0 :: r))) (.own (acc.map cE)) (.dat (cE c)) (.dat (.list [cE (sb c s0)])) _ L L' s6 hp
          have eB : bodyF [A, .dat (csE (s0 :: r)), .dic (kvE L), .own (acc.map cE), .dat (cE c), s5, s6] = some (.nx [A, .dat (csE (s0 :: r)), .dic (kvE L'), .own ((acc ++ [sb c s0]).map cE), .dat (cE c), .dat (.list [cE (sb c s0)]), s6']) := by
            refine if_true' eI (seq_nx (eS _ hx) (seq_nx (if_false' (ρ1 := [A, .dat (csE (s0 :: r)), .dic (kvE L), .own (acc.map cE), .dat (cE c), .dat (.list [cE (sb c s0)]), s6]) rfl rfl) (seq_nx (for_eq (items_eq (call_eq rfl (x_shifted_by (s0 :: r) (sb c s0) hz)) rfl) ep) (expr_eq (d := .none) ?_))))
            have hlen : (acc.map cE).length ≤ 100000 := by rw [List.length_map]; simp at hl; omega
            have : mAppN 3 (m2 ixD (eVar 5) (eC (.int 0))) [A, .dat (csE (s0 :: r)), .dic (kvE L'), .own (acc.map cE), .dat (cE c), .dat (.list [cE (sb c s0)]), s6'] = if (acc.map cE).length ≤ 100000 then some (.none, [A, .dat (csE (s0 :: r)), .dic (kvE L'), .own (acc.map cE ++ [cE (sb c s0)]), .dat (cE c), .dat (.list [cE (sb c s0)]), s6']) else none := rfl
            rw [this, if_pos hlen, List.map_append]; rfl
          obtain ⟨i1, i2⟩ := fill_loop A s0 r hz cs L' (acc ++ [sb c s0]) (.dat (cE c)) (.dat (.list [cE (sb c s0)])) s6' o (by simp at hl ⊢; omega) h
          refine ⟨fun e => ?_, fun acc' e => ?_⟩
          · obtain ⟨ρ', e2⟩ := i1 e
            exact ⟨ρ', by rw [List.map_cons, sLoop]; simp only [eT, eB]; exact e2⟩
          · obtain ⟨s2, s4', s5', s6'', e2⟩ := i2 acc' e
            exact ⟨s2, s4', s5', s6'', by rw [List.map_cons, sLoop]; simp only [eT, eB]; exact e2⟩
      · rw [if_neg ht] at h hx
        cases h
        refine ⟨fun _ => ?_, (fun acc' e => nomatch e)⟩
        have eB : bodyF [A, .dat (csE (s0 :: r)), .dic (kvE L), .own (acc.map cE), .dat (cE c), s5, s6] = some (.rt (.dat .none) [A, .dat (csE (s0 :: r)), .dic (kvE L), .own (acc.map cE), .dat (cE c), .dat (.list []), s6]) :=
          if_true' eI (seq_nx (eS _ hx) (seq_rt (if_true' (ρ1 := [A, .dat (csE (s0 :: r)), .dic (kvE L), .own (acc.map cE), .dat (cE c), .dat (.list []), s6]) rfl rfl)))
        exact ⟨[A, .dat (csE (s0 :: r)), .dic (kvE L), .own (acc.map cE), .dat (cE c), .dat (.list []), s6], by rw [List.map_cons, sLoop]; simp only [eT, eB]⟩
    · rw [if_neg hc] at h
      simp only [hc, decide_false] at eI
      have eB : bodyF [A, .dat (csE (s0 :: r)), .dic (kvE L), .own (acc.map cE), .dat (cE c), s5, s6] = some (.nx [A, .dat (csE (s0 :: r)), .dic (kvE L), .own (acc.map cE), .dat (cE c), s5, s6]) := if_false' eI rfl
      obtain ⟨i1, i2⟩ := fill_loop A s0 r hz cs L acc (.dat (cE c)) s5 s6 o (by simp at hl ⊢; omega) h
      refine ⟨fun e => ?_, fun acc' e => ?_⟩
      · obtain ⟨ρ', e2⟩ := i1 e
        exact ⟨ρ', by rw [List.map_cons, sLoop]; simp only [eT, eB]; exact e2⟩
      · obtain ⟨s2, s4', s5', s6'', e2⟩ := i2 acc' e
        exact ⟨s2, s4', s5', s6'', by rw [List.map_cons, sLoop]; simp only [eT, eB]; exact e2⟩
def optE : Option (List Ce) → PyData
  | none => .none
  | some cs => csE cs
theorem x_filling_by (cs : List Ce) (s0 : Ce) (r : List Ce) (o : Option (List Ce)) (h1 : cs.length ≤ 1000) (h2 : (s0 :: r).length ≤ 1000) (h : fillF s0 (s0 :: r) cs (dictF cs []) [] = some o) : f_filling_by [csE cs, csE (s0 :: r)] = some (.dat (optE o)) := by
  have eP : sPar 2 3 (mDC [4] (mItems (eVar 0)) (tgN 4) tAll (eVar 4) (eC (.bool true))) (mLst aNil) [.dat (csE cs), .dat (csE (s0 :: r)), .un, .un, .un, .un, .un] = some (.nx [.dat (csE cs), .dat (csE (s0 :: r)), .dic (kvE (dictF cs [])), .own [], .un, .un, .un]) := by
    have e1 : mDC [4] (mItems (eVar 0)) (tgN 4) tAll (eVar 4) (eC (.bool true)) [.dat (csE cs), .dat (csE (s0 :: r)), .un, .un, .un, .un, .un] = some (.dic (kvE (dictF cs [])), [.dat (csE cs), .dat (csE (s0 :: r)), .un, .un, .un, .un, .un]) := by
      have e2 := dict_loop (vs := [4]) (gt := tgN 4) (fk := eVar 4) (fv := eC (.bool true)) [.dat (csE cs), .dat (csE (s0 :: r)), .un, .un, .un, .un, .un] cs [] (by simp; omega) fun c => ⟨_, _, _, rfl, rfl, rfl, rfl⟩
      have e3 : mItems (eVar 0) [.dat (csE cs), .dat (csE (s0 :: r)), .un, .un, .un, .un, .un] = some (cs.map cE, [.dat (csE cs), .dat (csE (s0 :: r)), .un, .un, .un, .un, .un]) := rfl
      have e4 : wipeE [4] [.dat (csE cs), .dat (csE (s0 :: r)), .un, .un, .un, .un, .un] = some [.dat (csE cs), .dat (csE (s0 :: r)), .un, .un, .un, .un, .un] := rfl
      have e5 : restE [.dat (csE cs), .dat (csE (s0 :: r)), .un, .un, .un, .un, .un] [4] [.dat (csE cs), .dat (csE (s0 :: r)), .un, .un, .un, .un, .un] = some [.dat (csE cs), .dat (csE (s0 :: r)), .un, .un, .un, .un, .un] := rfl
      unfold mDC
      simp only [e3, e4]
      have e6 : (kvE [] : List (PyData × PyData)) = [] := rfl
      rw [e6] at e2
      simp only [e2, e5]
    unfold sPar
    simp only [e1]
    rfl
  obtain ⟨i1, i2⟩ := fill_loop (.dat (csE cs)) s0 r (by omega) cs (dictF cs []) [] .un .un .un o (by simp; omega) h
  cases o with
  | none =>
    obtain ⟨ρ', e⟩ := i1 rfl
    exact run_rt (seq_nx eP (seq_rt (for_eq rfl e)))
  | some acc =>
    obtain ⟨s2, s4, s5, s6, e⟩ := i2 acc rfl
    exact run_rt (seq_nx eP (seq_nx (for_eq rfl e) (ret_eq rfl)))
end Mx
namespace Mx
open Dn Tx
open PySem (PyData NestedKey)
theorem lay_cs (cs : List Ce) : PyData.canLayAll0 (cs.map cE) = true := by
  induction cs with
  | nil => rfl
  | cons a r ih => show (PyData.canLay0 (cE a) && PyData.canLayAll0 (r.map cE)) = true; rw [ih]; rfl
theorem dep_cs (cs : List Ce) : PyData.depthAll (cs.map cE) ≤ 1 := by
  induction cs with
  | nil => exact Nat.zero_le _
  | cons a r ih =>
    show max (PyData.depth (cE a)) (PyData.depthAll (r.map cE)) ≤ 1
    have : PyData.depth (cE a) = 1 := rfl
    omega
theorem shaped_cs (cs : List Ce) : PySem.SeqAt.shaped (csE cs) = true := by
  unfold PySem.SeqAt.shaped
  have h1 : (csE cs).canLay0 = true := lay_cs cs
  have h2 : (csE cs).depth ≤ 64 := by
    have := dep_cs cs
    show PyData.depthAll (cs.map cE) + 1 ≤ 64
    omega
  simp [h1, h2]
theorem eqvAll_cs (cs ds : List Ce) : PyData.eqvAll (cs.map cE) (ds.map cE) = decide (cs = ds) := by
  induction cs generalizing ds with
  | nil => cases ds <;> simp [PyData.eqvAll]
  | cons a r ih =>
    cases ds with
    | nil => simp [PyData.eqvAll]
    | cons b t =>
      rw [List.map_cons, List.map_cons, PyData.eqvAll, eqv_c, ih]
      by_cases h1 : a = b <;> by_cases h2 : r = t <;> simp [h1, h2]
theorem eqv_cs (cs ds : List Ce) : PyData.eqv (csE cs) (csE ds) = decide (cs = ds) := by
  show PyData.eqvAll (cs.map cE) (ds.map cE) = _
  exact eqvAll_cs cs ds
theorem eqD_cs (cs ds : List Ce) : eqD (csE cs) (csE ds) = some (.bool (decide (cs = ds))) := by
  show (if (PySem.SeqAt.shaped (csE cs) && PySem.SeqAt.shaped (csE ds)) = true then some (PyData.bool (PyData.eqv (csE cs) (csE ds))) else none) = _
  simp [shaped_cs, eqv_cs]
theorem x_is_between (v lo hi : Int) (h1 : lo ≤ v) (h2 : v ≤ hi) : f_is_between [.int v, .int lo, .int hi] = some (.dat (.bool true)) := by
  have e1 : mFz (mCall f_is_whole (aCons (eVar 0) aNil)) [.dat (.int v), .dat (.int lo), .dat (.int hi)] = some (.bool true, [.dat (.int v), .dat (.int lo), .dat (.int hi)]) := by kernel_rfl
  have e2 : m3c leD leD (eVar 1) (eVar 0) (eVar 2) [.dat (.int v), .dat (.int lo), .dat (.int hi)] = some (.bool true, [.dat (.int v), .dat (.int lo), .dat (.int hi)]) := by
    have a0 : eVar 0 [.dat (.int v), .dat (.int lo), .dat (.int hi)] = some (.int v, [.dat (.int v), .dat (.int lo), .dat (.int hi)]) := rfl
    have a1 : eVar 1 [.dat (.int v), .dat (.int lo), .dat (.int hi)] = some (.int lo, [.dat (.int v), .dat (.int lo), .dat (.int hi)]) := rfl
    have a2 : eVar 2 [.dat (.int v), .dat (.int lo), .dat (.int hi)] = some (.int hi, [.dat (.int v), .dat (.int lo), .dat (.int hi)]) := rfl
    unfold m3c
    simp only [a0, a1, a2, leD, h1, h2, decide_true]
  refine run_rt (ρ := [.dat (.int v), .dat (.int lo), .dat (.int hi)]) (ret_eq (d := .bool true) ?_)
  show mAnd _ _ [.dat (.int v), .dat (.int lo), .dat (.int hi)] = _
  unfold mAnd
  simp only [e1, e2]
theorem x_is_cell_by (c : Ce) (h1 : -99 ≤ c.1 ∧ c.1 ≤ 99) (h2 : -99 ≤ c.2 ∧ c.2 ≤ 99) : f_is_cell_by [cE c] = some (.dat (.bool true)) := by
  have e0 : f_are_between [cE c, .int 2, .int (-99), .int 99] = some (.dat (.bool true)) := by
    have e1 : mFz (mCall f_is_tuple_of (aCons (eVar 0) (aCons (eVar 1) aNil))) [.dat (cE c), .dat (.int 2), .dat (.int (-99)), .dat (.int 99), .un] = some (.bool true, [.dat (cE c), .dat (.int 2), .dat (.int (-99)), .dat (.int 99), .un]) := by kernel_rfl
    have e2 : m1 allD (mFz (mLst (mLC [4] (mItems (eVar 0)) (tgN 4) tAll (mFz (mCall f_is_between (aCons (eVar 4) (aCons (eVar 2) (aCons (eVar 3) aNil)))))))) [.dat (cE c), .dat (.int 2), .dat (.int (-99)), .dat (.int 99), .un] = some (.bool true, [.dat (cE c), .dat (.int 2), .dat (.int (-99)), .dat (.int 99), .un]) := by
      refine m1_eq (d := .list ([c.1, c.2].map fun _ => .bool true)) (fz_lst (mLC_eq (ρ1 := [.dat (cE c), .dat (.int 2), .dat (.int (-99)), .dat (.int 99), .un]) (ds := [c.1, c.2].map PyData.int) rfl rfl (lc_cells PyData.int (fun _ => .bool true) [.dat (cE c), .dat (.int 2), .dat (.int (-99)), .dat (.int 99), .un] _ fun x hx => ⟨_, _, rfl, call_eq rfl (x_is_between x (-99) 99 ?_ ?_), rfl⟩) rfl (by simp))) rfl
      · simp at hx; rcases hx with rfl | rfl <;> omega
      · simp at hx; rcases hx with rfl | rfl <;> omega
    refine run_rt (ρ := [.dat (cE c), .dat (.int 2), .dat (.int (-99)), .dat (.int 99), .un]) (ret_eq (d := .bool true) ?_)
    show mAnd _ _ [.dat (cE c), .dat (.int 2), .dat (.int (-99)), .dat (.int 99), .un] = _
    unfold mAnd
    simp only [e1, e2]
  exact run_rt (ρ := [.dat (cE c)]) (ret_eq (call_eq rfl e0))
def lexB (a b : Ce) : Bool := HT.lexLt [a.1, a.2] [b.1, b.2]
def risB (cs : List Ce) : Bool := (List.range (cs.length - 1)).all fun i => lexB (cs.getD i (0, 0)) (cs.getD (i + 1) (0, 0))
theorem ix_at (cs : List Ce) (j : Int) (i : Nat) (hj : j = (i : Int)) (hi : i < cs.length) : ixD (csE cs) (.int j) = some (cE (cs.getD i (0, 0))) := by
  subst hj
  show L2.atI (cs.map cE) (i : Int) = _
  unfold L2.atI L2.ixN
  have : (i : Int) < (cs.map cE).length := by rw [List.length_map]; omega
  have h0 : (0 : Int) ≤ i := by omega
  simp [h0, this, hi, List.getD_eq_getElem?_getD]
theorem x_are_rising (cs : List Ce) (h0 : 1 ≤ cs.length) (hz : cs.length ≤ 1000) (hr : risB cs = true) : f_are_rising [csE cs] = some (.dat (.bool true)) := by
  have e0 : mRng2 (aCons (eC (.int 1)) (aCons (m1 lenD (eLoc 0)) aNil)) [.dat (csE cs), .un] = some ((List.range (cs.length - 1)).map (fun i : Nat => PyData.int (1 + (i : Int))), [.dat (csE cs), .un]) := by
    have e1 : aCons (eC (.int 1)) (aCons (m1 lenD (eLoc 0)) aNil) [.dat (csE cs), .un] = some ([.int 1, .int ((cs.map cE).length : Int)], [.dat (csE cs), .un]) := rfl
    unfold mRng2
    rw [e1]
    have hb : (-(2 ^ 62) ≤ (1 : Int) ∧ (1 : Int) < 2 ^ 62) ∧ -(2 ^ 62) ≤ ((cs.map cE).length : Int) ∧ ((cs.map cE).length : Int) < 2 ^ 62 := by rw [List.length_map]; omega
    simp only [hb, and_self, if_true]
    unfold rngD
    have e2 : (((cs.map cE).length : Int) - 1).toNat = cs.length - 1 := by rw [List.length_map]; omega
    rw [e2]
  refine run_rt (ρ := [.dat (csE cs), .un]) (ret_eq (m1_eq (d := .list ((List.range (cs.length - 1)).map fun _ => .bool true)) (fz_lst (mLC_eq (ρ1 := [.dat (csE cs), .un]) e0 rfl (lc_cells (fun i : Nat => PyData.int (1 + (i : Int))) (fun _ => .bool true) [.dat (csE cs), .un] _ fun i hi => ⟨[.dat (csE cs), .dat (.int (1 + (i : Int)))], [.dat (csE cs), .dat (.int (1 + (i : Int)))], rfl, ?_, rfl⟩) rfl (by simp; omega))) ?_))
  · have hi' : i < cs.length - 1 := List.mem_range.mp hi
    refine m2_eq (m2_eq rfl (m2_eq rfl rfl rfl) (ix_at cs _ i (by omega) (by omega))) (m2_eq rfl rfl (ix_at cs _ (i + 1) (by omega) (by omega))) ?_
    have hl : lexB (cs.getD i (0, 0)) (cs.getD (i + 1) (0, 0)) = true := List.all_eq_true.mp hr i hi
    show some (PyData.bool (lexB (cs.getD i (0, 0)) (cs.getD (i + 1) (0, 0)))) = _
    rw [hl]
  · rw [all_map (List.range (cs.length - 1)) (fun _ => true)]
    simp
def fitB (cs : List Ce) : Bool := decide (1 ≤ cs.length) && decide (cs.length ≤ 16) && (cs.all fun c => decide (-99 ≤ c.1) && decide (c.1 ≤ 99) && decide (-99 ≤ c.2) && decide (c.2 ≤ 99)) && risB cs
theorem x_are_cells_by (cs : List Ce) (h : fitB cs = true) : f_are_cells_by [csE cs] = some (.dat (.bool true)) := by
  unfold fitB at h
  simp only [Bool.and_eq_true, decide_eq_true_eq] at h
  obtain ⟨⟨⟨h1, h2⟩, h3⟩, h4⟩ := h
  have h1' : (1 : Int) ≤ ((cs.map cE).length : Int) := by rw [List.length_map]; omega
  have h2' : ((cs.map cE).length : Int) ≤ 16 := by rw [List.length_map]; omega
  have e1 : tOrM (tNotM (mT (m1 (isiD "tuple") (eVar 0)))) (tNotM (mT (m3c leD leD (eC (.int 1)) (m1 lenD (eLoc 0)) (eC (.int 16))))) [.dat (csE cs), .un] = some (false, [.dat (csE cs), .un]) := by
    have a1 : tNotM (mT (m1 (isiD "tuple") (eVar 0))) [.dat (csE cs), .un] = some (false, [.dat (csE cs), .un]) := by kernel_rfl
    have a2 : m3c leD leD (eC (.int 1)) (m1 lenD (eLoc 0)) (eC (.int 16)) [.dat (csE cs), .un] = some (.bool true, [.dat (csE cs), .un]) := by
      have b1 : m1 lenD (eLoc 0) [.dat (csE cs), .un] = some (.int ((cs.map cE).length : Int), [.dat (csE cs), .un]) := rfl
      unfold m3c eC
      simp only [b1, leD, h1', h2', decide_true]
    unfold tOrM
    simp only [a1]
    unfold tNotM
    rw [mT_eq a2]; rfl
  have e2 : mAnd (m1 allD (mFz (mLst (mLC [1] (mItems (eVar 0)) (tgN 1) tAll (mFz (mCall f_is_cell_by (aCons (eVar 1) aNil))))))) (mFz (mCall f_are_rising (aCons (eVar 0) aNil))) [.dat (csE cs), .un] = some (.bool true, [.dat (csE cs), .un]) := by
    have a1 : m1 allD (mFz (mLst (mLC [1] (mItems (eVar 0)) (tgN 1) tAll (mFz (mCall f_is_cell_by (aCons (eVar 1) aNil)))))) [.dat (csE cs), .un] = some (.bool true, [.dat (csE cs), .un]) := by
      refine m1_eq (d := .list (cs.map fun _ => .bool true)) (fz_lst (mLC_eq (ρ1 := [.dat (csE cs), .un]) (ds := cs.map cE) rfl rfl (lc_cells cE (fun _ => .bool true) [.dat (csE cs), .un] cs fun c hc => ⟨_, _, rfl, call_eq rfl (x_is_cell_by c ?_ ?_), rfl⟩) rfl (by simp; omega))) ?_
      · have := List.all_eq_true.mp h3 c hc; simp at this; omega
      · have := List.all_eq_true.mp h3 c hc; simp at this; omega
      · rw [all_map cs (fun _ => true)]; simp
    have a2 : mFz (mCall f_are_rising (aCons (eVar 0) aNil)) [.dat (csE cs), .un] = some (.bool true, [.dat (csE cs), .un]) := call_eq rfl (x_are_rising cs h1 (by omega) h4)
    unfold mAnd
    simp only [a1, a2]
  exact run_rt (seq_nx (if_false' e1 rfl) (ret_eq e2))
theorem tnot_t {f : M PyData} {ρ ρ1 : Env} (h : f ρ = some (.bool true, ρ1)) : tNotM (mT f) ρ = some (false, ρ1) := by
  unfold tNotM; rw [mT_eq h]; rfl
theorem x_check_cells (cs : List Ce) (h : fitB cs = true) : f_check_cells [csE cs] = some (.dat .none) :=
  run_nx (if_false' (tnot_t (call_eq rfl (x_are_cells_by cs h))) rfl)
theorem x_check_shape (cs : List Ce) (h : f_is_shape_by [csE cs] = some (.dat (.bool true))) : f_check_shape [csE cs] = some (.dat .none) :=
  run_nx (if_false' (tnot_t (call_eq rfl h)) rfl)
theorem x_check_two (cs sh : List Ce) (h : fitB cs = true) (h2 : f_is_shape_by [csE sh] = some (.dat (.bool true))) : f_check_two [csE cs, csE sh] = some (.dat .none) :=
  run_nx (seq_nx (expr_eq (call_eq rfl (x_check_cells cs h))) (expr_eq (call_eq rfl (x_check_shape sh h2))))
theorem x_filling (cs sh : List Ce) (d : PyData) (h : fitB cs = true) (h2 : f_is_shape_by [csE sh] = some (.dat (.bool true))) (h3 : f_filling_by [csE cs, csE sh] = some (.dat d)) : f_filling [csE cs, csE sh] = some (.dat d) :=
  run_rt (seq_nx (expr_eq (call_eq rfl (x_check_two cs sh h h2))) (ret_eq (call_eq rfl h3)))
theorem x_filling_count (cs sh : List Ce) (o : Option (List Ce)) (h : fitB cs = true) (h2 : f_is_shape_by [csE sh] = some (.dat (.bool true))) (h3 : f_filling_by [csE cs, csE sh] = some (.dat (optE o))) : f_filling_count [csE cs, csE sh] = some (.dat (.int (if o.isSome = true then 1 else 0))) := by
  have e : f_filling_count_by [csE cs, csE sh] = some (.dat (.int (if o.isSome = true then 1 else 0))) := by
    cases o with
    | none => exact run_rt (ret_eq (mIf_t (mT_eq (m2_eq (call_eq rfl h3) rfl rfl)) rfl))
    | some a => exact run_rt (ret_eq (mIf_f (mT_eq (m2_eq (call_eq rfl h3) rfl rfl)) rfl))
  exact run_rt (seq_nx (expr_eq (call_eq rfl (x_check_two cs sh h h2))) (ret_eq (call_eq rfl e)))
end Mx
namespace Mx
open Dn Tx
open PySem (PyData NestedKey)
abbrev Row := List Ce × List Ce
def rE (p : Row) : PyData := .tuple [csE p.1, csE p.2]
def stepR (s0 : Ce) (shape : List Ce) (p : Row) : List Row := match p.2 with
  | [] => []
  | l0 :: _ => if (p.2.filter fun x => !decide (x ∈ sh (sb l0 s0) shape)).length + shape.length = p.2.length then [(p.1 ++ [sb l0 s0], p.2.filter fun x => !decide (x ∈ sh (sb l0 s0) shape))] else []
theorem any_cs (T : List Ce) (x : Ce) : ((T.map cE).any fun z => PyData.eqv z (cE x)) = decide (x ∈ T) := by
  induction T with
  | nil => rfl
  | cons a r ih =>
    rw [List.map_cons, List.any_cons, ih, eqv_c]
    by_cases h : a = x
    · subst h; simp
    · have h' : ¬ x = a := fun e => h e.symm
      simp [h, h']
theorem shaped_c (x : Ce) : PySem.SeqAt.shaped (cE x) = true := rfl
theorem notIn_cs (T : List Ce) (x : Ce) : notInD (cE x) (csE T) = some (.bool (!decide (x ∈ T))) := by
  have e : inB (cE x) (csE T) = some (decide (x ∈ T)) := by
    show (if (PySem.SeqAt.shaped (cE x) && PyData.canLayAll0 (T.map cE)) = true then some ((T.map cE).any fun z => PyData.eqv z (cE x)) else none) = _
    rw [shaped_c, lay_cs, any_cs]; rfl
  unfold notInD; rw [e]
theorem eqD_int (a b : Int) : eqD (.int a) (.int b) = some (.bool (decide (a = b))) := by
  show some (PyData.bool (PyData.eqv (.int a) (.int b))) = _
  congr 2
theorem add_tup (xs ys : List PyData) (h : xs.length + ys.length ≤ 100000) : addD (.tuple xs) (.tuple ys) = some (.tuple (xs ++ ys)) := by
  show (if xs.length + ys.length ≤ PySem.sizeLine then some (PyData.tuple (xs ++ ys)) else none) = _
  rw [if_pos (by rw [PySem.sizeLine_eq]; omega)]
theorem add_lst (xs ys : List PyData) (h : xs.length + ys.length ≤ 100000) : addD (.list xs) (.list ys) = some (.list (xs ++ ys)) := by
  show (if xs.length + ys.length ≤ PySem.sizeLine then some (PyData.list (xs ++ ys)) else none) = _
  rw [if_pos (by rw [PySem.sizeLine_eq]; omega)]
theorem aCons_eq {fa : M PyData} {fr : M (List PyData)} {ρ ρ1 ρ2 : Env} {x : PyData} {xs : List PyData} (h1 : fa ρ = some (x, ρ1)) (h2 : fr ρ1 = some (xs, ρ2)) : aCons fa fr ρ = some (x :: xs, ρ2) := by
  unfold aCons; simp only [h1, h2]
theorem tup_eq {fr : M (List PyData)} {ρ ρ1 : Env} {xs : List PyData} (h1 : fr ρ = some (xs, ρ1)) : mTup fr ρ = some (.tuple xs, ρ1) := by
  unfold mTup; simp only [h1]
def bodyR : MS := sIf (mT (m2 eqD (eVar 7) (mTup aNil))) (sExpr (mAppN 3 (m1 tupleD (mFz (mSorted (eLoc 6)))))) (sSeq (sSet 8 (mDat (mTup (aCons (m2 subD (m2 ixD (m2 ixD (eVar 7) (eC (.int 0))) (eC (.int 0))) (m2 ixD (m2 ixD (eVar 1) (eC (.int 0))) (eC (.int 0)))) (aCons (m2 subD (m2 ixD (m2 ixD (eVar 7) (eC (.int 0))) (eC (.int 1))) (m2 ixD (m2 ixD (eVar 1) (eC (.int 0))) (eC (.int 1)))) aNil))))) (sSeq (sSet 9 (mDat (mFz (mCall f_law_moved (aCons (eVar 1) (aCons (eVar 8) aNil)))))) (sSeq (sSet 10 (mDat (m1 tupleD (mFz (mLst (mLC [11] (mItems (eVar 7)) (tgN 11) (mT (m2 notInD (eVar 11) (eLoc 9))) (eVar 11))))))) (sSet 5 (mDat (m2 addD (eVar 5) (mIf (mT (m2 eqD (m2 addD (m1 lenD (eLoc 10)) (m1 lenD (eLoc 9))) (m1 lenD (eLoc 7)))) (mFz (mLst (aCons (mTup (aCons (m2 addD (eVar 6) (mTup (aCons (eVar 8) aNil))) (aCons (eVar 10) aNil))) aNil))) (mFz (mLst aNil)))))))))
theorem turnR (A F W s4 s8 s9 s10 : Sl) (s0 : Ce) (r : List Ce) (m : List PyData) (row : List Ce) (l0 : Ce) (l : List Ce) (h1 : (s0 :: r).length ≤ 1000) (h2 : m.length ≤ 1000) (h3 : row.length ≤ 1000) (h4 : (l0 :: l).length ≤ 1000) :
    ∃ t8 t9 t10, bodyR [A, .dat (csE (s0 :: r)), F, W, s4, .dat (.list m), .dat (csE row), .dat (csE (l0 :: l)), s8, s9, s10, .un] = some (.nx [A, .dat (csE (s0 :: r)), F, W, s4, .dat (.list (m ++ (stepR s0 (s0 :: r) (row, l0 :: l)).map rE)), .dat (csE row), .dat (csE (l0 :: l)), t8, t9, t10, .un]) := by
  have c0 : mT (m2 eqD (eVar 7) (mTup aNil)) [A, .dat (csE (s0 :: r)), F, W, s4, .dat (.list m), .dat (csE row), .dat (csE (l0 :: l)), s8, s9, s10, .un] = some (false, [A, .dat (csE (s0 :: r)), F, W, s4, .dat (.list m), .dat (csE row), .dat (csE (l0 :: l)), s8, s9, s10, .un]) :=
    mT_eq (m2_eq rfl rfl (by have e := eqD_cs (l0 :: l) []; rw [show decide (l0 :: l = []) = false by simp] at e; exact e))
  have c1 : sSet 8 (mDat (mTup (aCons (m2 subD (m2 ixD (m2 ixD (eVar 7) (eC (.int 0))) (eC (.int 0))) (m2 ixD (m2 ixD (eVar 1) (eC (.int 0))) (eC (.int 0)))) (aCons (m2 subD (m2 ixD (m2 ixD (eVar 7) (eC (.int 0))) (eC (.int 1))) (m2 ixD (m2 ixD (eVar 1) (eC (.int 0))) (eC (.int 1)))) aNil)))) [A, .dat (csE (s0 :: r)), F, W, s4, .dat (.list m), .dat (csE row), .dat (csE (l0 :: l)), s8, s9, s10, .un] = some (.nx [A, .dat (csE (s0 :: r)), F, W, s4, .dat (.list m), .dat (csE row), .dat (csE (l0 :: l)), .dat (cE (sb l0 s0)), s9, s10, .un]) :=
    setd_eq (tup_eq (aCons_eq (m2_eq (m2_eq (m2_eq rfl rfl (ix_head l0 l)) rfl rfl) (m2_eq (m2_eq rfl rfl (ix_head s0 r)) rfl rfl) rfl) (aCons_eq (m2_eq (m2_eq (m2_eq rfl rfl (ix_head l0 l)) rfl rfl) (m2_eq (m2_eq rfl rfl (ix_head s0 r)) rfl rfl) rfl) rfl))) rfl
  have c2 : sSet 9 (mDat (mFz (mCall f_law_moved (aCons (eVar 1) (aCons (eVar 8) aNil))))) [A, .dat (csE (s0 :: r)), F, W, s4, .dat (.list m), .dat (csE row), .dat (csE (l0 :: l)), .dat (cE (sb l0 s0)), s9, s10, .un] = some (.nx [A, .dat (csE (s0 :: r)), F, W, s4, .dat (.list m), .dat (csE row), .dat (csE (l0 :: l)), .dat (cE (sb l0 s0)), .dat (csE (sh (sb l0 s0) (s0 :: r))), s10, .un]) :=
    setd_eq (call_eq rfl (x_law_moved (s0 :: r) (sb l0 s0) (by omega))) rfl
  have c3 : sSet 10 (mDat (m1 tupleD (mFz (mLst (mLC [11] (mItems (eVar 7)) (tgN 11) (mT (m2 notInD (eVar 11) (eLoc 9))) (eVar 11)))))) [A, .dat (csE (s0 :: r)), F, W, s4, .dat (.list m), .dat (csE row), .dat (csE (l0 :: l)), .dat (cE (sb l0 s0)), .dat (csE (sh (sb l0 s0) (s0 :: r))), s10, .un] = some (.nx [A, .dat (csE (s0 :: r)), F, W, s4, .dat (.list m), .dat (csE row), .dat (csE (l0 :: l)), .dat (cE (sb l0 s0)), .dat (csE (sh (sb l0 s0) (s0 :: r))), .dat (csE ((l0 :: l).filter fun x => !decide (x ∈ sh (sb l0 s0) (s0 :: r)))), .un]) := by
    have e := lc_map (vs := [11]) (gt := tgN 11) (tt := mT (m2 notInD (eVar 11) (eLoc 9))) (fe := eVar 11) cE cE (fun x => !decide (x ∈ sh (sb l0 s0) (s0 :: r))) [A, .dat (csE (s0 :: r)), F, W, s4, .dat (.list m), .dat (csE row), .dat (csE (l0 :: l)), .dat (cE (sb l0 s0)), .dat (csE (sh (sb l0 s0) (s0 :: r))), s10, .un] (l0 :: l) fun x _ => ⟨_, _, rfl, mT_eq (m2_eq rfl rfl (notIn_cs _ x)), fun _ => rfl, fun _ => ⟨_, rfl, rfl⟩⟩
    refine setd_eq (m1_eq (d := .list (((l0 :: l).filter fun x => !decide (x ∈ sh (sb l0 s0) (s0 :: r))).map cE)) (fz_lst (mLC_eq (ρ1 := [A, .dat (csE (s0 :: r)), F, W, s4, .dat (.list m), .dat (csE row), .dat (csE (l0 :: l)), .dat (cE (sb l0 s0)), .dat (csE (sh (sb l0 s0) (s0 :: r))), s10, .un]) (ds := (l0 :: l).map cE) rfl rfl e rfl ?_)) rfl) rfl
    rw [List.length_map]
    have := List.length_filter_le (fun x => !decide (x ∈ sh (sb l0 s0) (s0 :: r))) (l0 :: l)
    omega
  have lf := List.length_filter_le (fun x => !decide (x ∈ sh (sb l0 s0) (s0 :: r))) (l0 :: l)
  have cL : ∀ ρ : Env, ρ = [A, .dat (csE (s0 :: r)), F, W, s4, .dat (.list m), .dat (csE row), .dat (csE (l0 :: l)), .dat (cE (sb l0 s0)), .dat (csE (sh (sb l0 s0) (s0 :: r))), .dat (csE ((l0 :: l).filter fun x => !decide (x ∈ sh (sb l0 s0) (s0 :: r)))), .un] →
      mT (m2 eqD (m2 addD (m1 lenD (eLoc 10)) (m1 lenD (eLoc 9))) (m1 lenD (eLoc 7))) ρ = some (decide (((l0 :: l).filter fun x => !decide (x ∈ sh (sb l0 s0) (s0 :: r))).length + (s0 :: r).length = (l0 :: l).length), ρ) := by
    rintro ρ rfl
    have e := eqD_int (((((l0 :: l).filter fun x => !decide (x ∈ sh (sb l0 s0) (s0 :: r))).map cE).length : Int) + (((sh (sb l0 s0) (s0 :: r)).map cE).length : Int)) (((l0 :: l).map cE).length : Int)
    refine mT_eq (m2_eq (m2_eq rfl rfl rfl) rfl (e.trans ?_))
    congr 2
    have q : (((((l0 :: l).filter fun x => !decide (x ∈ sh (sb l0 s0) (s0 :: r))).map cE).length : Int) + (((sh (sb l0 s0) (s0 :: r)).map cE).length : Int) = (((l0 :: l).map cE).length : Int)) ↔ ((l0 :: l).filter fun x => !decide (x ∈ sh (sb l0 s0) (s0 :: r))).length + (s0 :: r).length = (l0 :: l).length := by
      simp only [List.length_map, sh]
      omega
    exact decide_eq_decide.mpr q
  have c4 : sSet 5 (mDat (m2 addD (eVar 5) (mIf (mT (m2 eqD (m2 addD (m1 lenD (eLoc 10)) (m1 lenD (eLoc 9))) (m1 lenD (eLoc 7)))) (mFz (mLst (aCons (mTup (aCons (m2 addD (eVar 6) (mTup (aCons (eVar 8) aNil))) (aCons (eVar 10) aNil))) aNil))) (mFz (mLst aNil))))) [A, .dat (csE (s0 :: r)), F, W, s4, .dat (.list m), .dat (csE row), .dat (csE (l0 :: l)), .dat (cE (sb l0 s0)), .dat (csE (sh (sb l0 s0) (s0 :: r))), .dat (csE ((l0 :: l).filter fun x => !decide (x ∈ sh (sb l0 s0) (s0 :: r)))), .un] = some (.nx [A, .dat (csE (s0 :: r)), F, W, s4, .dat (.list (m ++ (stepR s0 (s0 :: r) (row, l0 :: l)).map rE)), .dat (csE row), .dat (csE (l0 :: l)), .dat (cE (sb l0 s0)), .dat (csE (sh (sb l0 s0) (s0 :: r))), .dat (csE ((l0 :: l).filter fun x => !decide (x ∈ sh (sb l0 s0) (s0 :: r)))), .un]) := by
    by_cases hq : ((l0 :: l).filter fun x => !decide (x ∈ sh (sb l0 s0) (s0 :: r))).length + (s0 :: r).length = (l0 :: l).length
    · have e1 := cL _ rfl
      rw [show decide (((l0 :: l).filter fun x => !decide (x ∈ sh (sb l0 s0) (s0 :: r))).length + (s0 :: r).length = (l0 :: l).length) = true from decide_eq_true hq] at e1
      have e2 : stepR s0 (s0 :: r) (row, l0 :: l) = [(row ++ [sb l0 s0], (l0 :: l).filter fun x => !decide (x ∈ sh (sb l0 s0) (s0 :: r)))] := if_pos hq
      rw [e2]
      refine setd_eq (m2_eq rfl (mIf_t e1 (fz_lst (aCons_eq (tup_eq (aCons_eq (m2_eq rfl rfl (add_tup (row.map cE) [cE (sb l0 s0)] (by simp; omega))) rfl)) rfl))) (add_lst m _ (by simp; omega))) ?_
      show setSl 5 (.dat (.list (m ++ [.tuple [.tuple (row.map cE ++ [cE (sb l0 s0)]), csE _]]))) _ = _
      have e3 : row.map cE ++ [cE (sb l0 s0)] = (row ++ [sb l0 s0]).map cE := by simp
      rw [e3]
      rfl
    · have e1 := cL _ rfl
      rw [show decide (((l0 :: l).filter fun x => !decide (x ∈ sh (sb l0 s0) (s0 :: r))).length + (s0 :: r).length = (l0 :: l).length) = false from decide_eq_false hq] at e1
      have e2 : stepR s0 (s0 :: r) (row, l0 :: l) = [] := if_neg hq
      rw [e2]
      exact setd_eq (m2_eq rfl (mIf_f e1 rfl) (add_lst m _ (by simp; omega))) rfl
  exact ⟨_, _, _, if_false' c0 (seq_nx c1 (seq_nx c2 (seq_nx c3 c4)))⟩
theorem step_len (s0 : Ce) (shape : List Ce) (p : Row) : (stepR s0 shape p).length ≤ 1 := by
  unfold stepR
  split
  · simp
  · split <;> simp
theorem step_row (s0 : Ce) (shape : List Ce) (p q : Row) (h : q ∈ stepR s0 shape p) : q.1.length = p.1.length + 1 ∧ q.2.length ≤ p.2.length := by
  unfold stepR at h
  split at h
  · cases h
  · split at h
    · simp at h
      subst h
      exact ⟨by simp, List.length_filter_le _ _⟩
    · cases h
theorem flat_len (s0 : Ce) (shape : List Ce) (es : List Row) : (es.flatMap (stepR s0 shape)).length ≤ es.length := by
  induction es with
  | nil => simp
  | cons a r ih =>
    have := step_len s0 shape a
    simp only [List.flatMap_cons, List.length_append, List.length_cons]
    omega
theorem inner (A F W s4 : Sl) (s0 : Ce) (r : List Ce) (h1 : (s0 :: r).length ≤ 1000) : ∀ (es : List Row) (m : List PyData) (s6 s7 s8 s9 s10 : Sl), m.length + es.length ≤ 1000 → (∀ p ∈ es, p.1.length ≤ 1000 ∧ p.2.length ≤ 1000 ∧ p.2 ≠ []) →
    ∃ t6 t7 t8 t9 t10, sLoop (tgTup 2 (tgCons (tgN 6) (tgCons (tgN 7) tgNil))) bodyR (es.map rE) [A, .dat (csE (s0 :: r)), F, W, s4, .dat (.list m), s6, s7, s8, s9, s10, .un] = some (.nx [A, .dat (csE (s0 :: r)), F, W, s4, .dat (.list (m ++ (es.flatMap (stepR s0 (s0 :: r))).map rE)), t6, t7, t8, t9, t10, .un])
  | [], m, s6, s7, s8, s9, s10, _, _ => ⟨s6, s7, s8, s9, s10, by simp [sLoop]⟩
  | (row, left) :: es, m, s6, s7, s8, s9, s10, hz, h => by
    obtain ⟨h2, h3, h4⟩ := h _ List.mem_cons_self
    cases left with
    | nil => exact absurd rfl h4
    | cons l0 l =>
      have hm : m.length ≤ 1000 := by simp at hz; omega
      obtain ⟨t8, t9, t10, e⟩ := turnR A F W s4 s8 s9 s10 s0 r m row l0 l h1 hm h2 h3
      have hs := step_len s0 (s0 :: r) (row, l0 :: l)
      obtain ⟨u6, u7, u8, u9, u10, e2⟩ := inner A F W s4 s0 r h1 es (m ++ (stepR s0 (s0 :: r) (row, l0 :: l)).map rE) (.dat (csE row)) (.dat (csE (l0 :: l))) t8 t9 t10 (by simp at hz ⊢; omega) fun p hp => h p (List.mem_cons_of_mem _ hp)
      refine ⟨u6, u7, u8, u9, u10, ?_⟩
      have eT : tgTup 2 (tgCons (tgN 6) (tgCons (tgN 7) tgNil)) (rE (row, l0 :: l)) [A, .dat (csE (s0 :: r)), F, W, s4, .dat (.list m), s6, s7, s8, s9, s10, .un] = some [A, .dat (csE (s0 :: r)), F, W, s4, .dat (.list m), .dat (csE row), .dat (csE (l0 :: l)), s8, s9, s10, .un] := rfl
      rw [List.map_cons, sLoop]
      simp only [eT, e]
      rw [e2]
      simp [List.flatMap_cons]
def roundF (s0 : Ce) (shape : List Ce) (es : List Row) : Option (List Row) := if es.all (fun p => !p.2.isEmpty) = true then some (es.flatMap (stepR s0 shape)) else none
def loopF (s0 : Ce) (shape : List Ce) : Nat → List Row → Option (List Row)
  | 0, es => some es
  | n + 1, es => (match roundF s0 shape es with
    | none => none
    | some es' => loopF s0 shape n es')
def bodyO : MS := sSeq (sSet 5 (mDat (mFz (mLst aNil)))) (sSeq (sFor (mItems (eVar 2)) (tgTup 2 (tgCons (tgN 6) (tgCons (tgN 7) tgNil))) bodyR) (sSet 2 (mDat (eVar 5))))
theorem outer (A W : Sl) (s0 : Ce) (r : List Ce) (h1 : (s0 :: r).length ≤ 1000) : ∀ (ds : List PyData) (es out : List Row) (s4 s5 s6 s7 s8 s9 s10 : Sl), es.length ≤ 1000 → (∀ p ∈ es, p.1.length + ds.length ≤ 1000 ∧ p.2.length ≤ 1000) → loopF s0 (s0 :: r) ds.length es = some out →
    ∃ s2 t4 t5 t6 t7 t8 t9 t10, sLoop (tgN 4) bodyO ds [A, .dat (csE (s0 :: r)), .dat (.list (es.map rE)), W, s4, s5, s6, s7, s8, s9, s10, .un] = some (.nx [A, .dat (csE (s0 :: r)), s2, W, t4, t5, t6, t7, t8, t9, t10, .un])
  | [], es, out, s4, s5, s6, s7, s8, s9, s10, _, _, _ => ⟨_, _, _, _, _, _, _, _, rfl⟩
  | d :: ds, es, out, s4, s5, s6, s7, s8, s9, s10, hz, h, hl => by
    rw [List.length_cons, loopF] at hl
    cases hr : roundF s0 (s0 :: r) es with
    | none => rw [hr] at hl; cases hl
    | some es' =>
      rw [hr] at hl
      unfold roundF at hr
      split at hr
      · rename_i ha
        cases hr
        obtain ⟨u6, u7, u8, u9, u10, e⟩ := inner A (.dat (.list (es.map rE))) W (.dat d) s0 r h1 es [] s6 s7 s8 s9 s10 (by simpa using hz) fun p hp => by
          have q := h p hp
          have q2 := List.all_eq_true.mp ha p hp
          refine ⟨by simp at q; omega, q.2, fun z => ?_⟩
          rw [z] at q2; simp at q2
        have hf := flat_len s0 (s0 :: r) es
        obtain ⟨v2, v4, v5, v6, v7, v8, v9, v10, e2⟩ := outer A W s0 r h1 ds _ out (.dat d) (.dat (.list ([] ++ (es.flatMap (stepR s0 (s0 :: r))).map rE))) u6 u7 u8 u9 u10 (by omega) (fun p hp => by
          obtain ⟨q, hq, hp'⟩ := List.mem_flatMap.mp hp
          have := step_row _ _ _ _ hp'
          have := h q hq
          simp at this
          omega) hl
        refine ⟨v2, v4, v5, v6, v7, v8, v9, v10, ?_⟩
        have eB : bodyO [A, .dat (csE (s0 :: r)), .dat (.list (es.map rE)), W, .dat d, s5, s6, s7, s8, s9, s10, .un] = some (.nx [A, .dat (csE (s0 :: r)), .dat (.list ((es.flatMap (stepR s0 (s0 :: r))).map rE)), W, .dat d, .dat (.list ([] ++ (es.flatMap (stepR s0 (s0 :: r))).map rE)), u6, u7, u8, u9, u10, .un]) :=
          seq_nx (ρ1 := [A, .dat (csE (s0 :: r)), .dat (.list (es.map rE)), W, .dat d, .dat (.list []), s6, s7, s8, s9, s10, .un]) rfl (seq_nx (for_eq rfl e) rfl)
        have eT : tgN 4 d [A, .dat (csE (s0 :: r)), .dat (.list (es.map rE)), W, s4, s5, s6, s7, s8, s9, s10, .un] = some [A, .dat (csE (s0 :: r)), .dat (.list (es.map rE)), W, .dat d, s5, s6, s7, s8, s9, s10, .un] := rfl
        rw [sLoop]
        simp only [eT, eB]
        exact e2
      · cases hr
theorem x_law_fillings (cs : List Ce) (s0 : Ce) (r : List Ce) (out : List Row) (h1 : (s0 :: r).length ≤ 100) (h2 : cs.length ≤ 100) (h : loopF s0 (s0 :: r) (cs.length / (s0 :: r).length + 1) [([], cs)] = some out) : f_law_fillings [csE cs, csE (s0 :: r)] = some (.dat (.list [])) := by
  have hd : cs.length / (s0 :: r).length ≤ cs.length := Nat.div_le_self _ _
  have eP : mRng1 (aCons (m2 addD (m2 fdivD (m1 lenD (eLoc 0)) (m1 lenD (eLoc 1))) (eC (.int 1))) aNil) [.dat (csE cs), .dat (csE (s0 :: r)), .dat (.list ([([], cs)].map rE)), .own [], .un, .un, .un, .un, .un, .un, .un, .un] = some (rngD 0 (cs.length / (s0 :: r).length + 1), [.dat (csE cs), .dat (csE (s0 :: r)), .dat (.list ([([], cs)].map rE)), .own [], .un, .un, .un, .un, .un, .un, .un, .un]) := by
    have e1 : aCons (m2 addD (m2 fdivD (m1 lenD (eLoc 0)) (m1 lenD (eLoc 1))) (eC (.int 1))) aNil [.dat (csE cs), .dat (csE (s0 :: r)), .dat (.list ([([], cs)].map rE)), .own [], .un, .un, .un, .un, .un, .un, .un, .un] = some ([.int ((cs.length / (s0 :: r).length + 1 : Nat) : Int)], [.dat (csE cs), .dat (csE (s0 :: r)), .dat (.list ([([], cs)].map rE)), .own [], .un, .un, .un, .un, .un, .un, .un, .un]) := by
      refine aCons_eq (m2_eq (m2_eq (x := .int ((cs.map cE).length : Int)) (y := .int (((s0 :: r).map cE).length : Int)) (z := .int ((cs.length / (s0 :: r).length : Nat) : Int)) rfl rfl ?_) rfl rfl) rfl
      show (if 0 < ((((s0 :: r).map cE).length : Nat) : Int) ∧ ((((s0 :: r).map cE).length : Nat) : Int) < 1073741824 then some (PyData.int (((cs.map cE).length : Int) / (((s0 :: r).map cE).length : Int))) else _) = _
      have hh : 0 < ((((s0 :: r).map cE).length : Nat) : Int) ∧ ((((s0 :: r).map cE).length : Nat) : Int) < 1073741824 := by rw [List.length_map]; simp at h1 ⊢; omega
      rw [if_pos hh, List.length_map, List.length_map]
      rfl
    unfold mRng1
    rw [e1]
    have hb : -(2 ^ 62) ≤ ((cs.length / (s0 :: r).length + 1 : Nat) : Int) ∧ ((cs.length / (s0 :: r).length + 1 : Nat) : Int) < 2 ^ 62 := by
      generalize cs.length / (s0 :: r).length = n at hd ⊢
      omega
    simp only [hb, and_self, if_true]
    rfl
  have hl : (rngD 0 (cs.length / (s0 :: r).length + 1)).length = cs.length / (s0 :: r).length + 1 := by simp [rngD]
  obtain ⟨s2, t4, t5, t6, t7, t8, t9, t10, e⟩ := outer (.dat (csE cs)) (.own []) s0 r (by omega) (rngD 0 (cs.length / (s0 :: r).length + 1)) [([], cs)] out .un .un .un .un .un .un .un (by simp) (fun p hp => by
    have ep : p = ([], cs) := by simpa using hp
    subst ep
    rw [hl]
    refine ⟨?_, by show cs.length ≤ 1000; omega⟩
    show 0 + (cs.length / (s0 :: r).length + 1) ≤ 1000
    generalize cs.length / (s0 :: r).length = n at hd ⊢
    omega) (by rw [hl]; exact h)
  refine run_rt (ρ := [.dat (csE cs), .dat (csE (s0 :: r)), s2, .own [], t4, t5, t6, t7, t8, t9, t10, .un]) (seq_nx (ρ1 := [.dat (csE cs), .dat (csE (s0 :: r)), .dat (.list ([([], cs)].map rE)), .own [], .un, .un, .un, .un, .un, .un, .un, .un]) rfl (seq_nx (for_eq eP e) (ret_eq (d := .list []) ?_)))
  kernel_rfl
end Mx
namespace Mx
open Dn Tx
open PySem (PyData NestedKey)
theorem ad_inj (b x y : Ce) : ad b x = ad b y ↔ x = y := by
  obtain ⟨x1, x2⟩ := x
  obtain ⟨y1, y2⟩ := y
  simp only [ad, Prod.mk.injEq]
  omega
theorem mem_sh (b x : Ce) (L : List Ce) : ad b x ∈ sh b L ↔ x ∈ L := by
  unfold sh
  rw [List.mem_map]
  constructor
  · rintro ⟨y, hy, e⟩
    rw [(ad_inj b y x).mp e] at hy; exact hy
  · exact fun h => ⟨x, h, rfl⟩
theorem sb_ad (b c s : Ce) : sb (ad b c) s = ad b (sb c s) := by
  obtain ⟨c1, c2⟩ := c
  simp only [sb, ad, Prod.mk.injEq]
  omega
theorem sh_ad (b s : Ce) (shape : List Ce) : sh (ad b s) shape = sh b (sh s shape) := by
  unfold sh
  rw [List.map_map]
  refine List.map_congr_left fun c _ => ?_
  obtain ⟨c1, c2⟩ := c
  simp only [ad, Function.comp, Prod.mk.injEq]
  omega
theorem taken_sh (b s : Ce) (L shape : List Ce) : takenB (sh b L) shape (ad b s) = takenB L shape s := by
  unfold takenB
  rw [sh_ad]
  show ((sh s shape).map (ad b)).all _ = _
  rw [List.all_map]
  refine List.all_congr rfl fun x => ?_
  show decide (ad b x ∈ sh b L) = _
  exact decide_eq_decide.mpr (mem_sh b x L)
theorem filter_sh (b x : Ce) (L : List Ce) : ((sh b L).filter fun y => !decide (y = ad b x)) = sh b (L.filter fun y => !decide (y = x)) := by
  unfold sh
  rw [List.filter_map]
  congr 1
  refine List.filter_congr fun y _ => ?_
  show (!decide (ad b y = ad b x)) = _
  rw [decide_eq_decide.mpr (ad_inj b y x)]
theorem pops_sh (b : Ce) : ∀ (xs L : List Ce), popsF (sh b xs) (sh b L) = (popsF xs L).map (sh b)
  | [], L => rfl
  | x :: xs, L => by
    show popsF (ad b x :: sh b xs) (sh b L) = _
    unfold popsF
    by_cases h : x ∈ L
    · rw [if_pos h, if_pos ((mem_sh b x L).mpr h), filter_sh]
      exact pops_sh b xs _
    · rw [if_neg h, if_neg fun z => h ((mem_sh b x L).mp z)]; rfl
theorem fill_sh (b s0 : Ce) (shape : List Ce) : ∀ (cs L acc : List Ce), fillF s0 shape (sh b cs) (sh b L) (sh b acc) = (fillF s0 shape cs L acc).map (Option.map (sh b))
  | [], L, acc => rfl
  | c :: cs, L, acc => by
    show fillF s0 shape (ad b c :: sh b cs) (sh b L) (sh b acc) = _
    unfold fillF
    by_cases h : c ∈ L
    · rw [if_pos h, if_pos ((mem_sh b c L).mpr h), sb_ad, taken_sh, sh_ad, pops_sh]
      by_cases ht : takenB L shape (sb c s0) = true
      · rw [if_pos ht, if_pos ht]
        cases popsF (sh (sb c s0) shape) L with
        | none => rfl
        | some L' =>
          have := fill_sh b s0 shape cs L' (acc ++ [sb c s0])
          have e : sh b (acc ++ [sb c s0]) = sh b acc ++ [ad b (sb c s0)] := by simp [sh]
          rw [e] at this
          exact this
      · rw [if_neg ht, if_neg ht]; rfl
    · rw [if_neg h, if_neg fun z => h ((mem_sh b c L).mp z)]
      exact fill_sh b s0 shape cs L acc
theorem dict_sh (b : Ce) : ∀ (cs L : List Ce), dictF (sh b cs) (sh b L) = sh b (dictF cs L)
  | [], L => rfl
  | c :: cs, L => by
    show dictF (ad b c :: sh b cs) (sh b L) = _
    unfold dictF
    by_cases h : c ∈ L
    · rw [if_pos h, if_pos ((mem_sh b c L).mpr h)]
      exact dict_sh b cs L
    · rw [if_neg h, if_neg fun z => h ((mem_sh b c L).mp z)]
      have := dict_sh b cs (L ++ [c])
      have e : sh b (L ++ [c]) = sh b L ++ [ad b c] := by simp [sh]
      rw [e] at this
      exact this
abbrev shR (b : Ce) (p : Row) : Row := (sh b p.1, sh b p.2)
theorem step_sh (b s0 : Ce) (shape : List Ce) (p : Row) : stepR s0 shape (shR b p) = (stepR s0 shape p).map (shR b) := by
  obtain ⟨row, left⟩ := p
  cases left with
  | nil => rfl
  | cons l0 l =>
    have ef : ((sh b (l0 :: l)).filter fun x => !decide (x ∈ sh (sb (ad b l0) s0) shape)) = sh b ((l0 :: l).filter fun x => !decide (x ∈ sh (sb l0 s0) shape)) := by
      rw [sb_ad, sh_ad]
      unfold sh
      rw [List.filter_map]
      congr 1
      refine List.filter_congr fun y _ => ?_
      show (!decide (ad b y ∈ sh b (sh (sb l0 s0) shape))) = _
      rw [decide_eq_decide.mpr (mem_sh b y _)]; rfl
    show (if ((sh b (l0 :: l)).filter fun x => !decide (x ∈ sh (sb (ad b l0) s0) shape)).length + shape.length = (sh b (l0 :: l)).length then [(sh b row ++ [sb (ad b l0) s0], (sh b (l0 :: l)).filter fun x => !decide (x ∈ sh (sb (ad b l0) s0) shape))] else []) =
      List.map (shR b) (if ((l0 :: l).filter fun x => !decide (x ∈ sh (sb l0 s0) shape)).length + shape.length = (l0 :: l).length then [(row ++ [sb l0 s0], (l0 :: l).filter fun x => !decide (x ∈ sh (sb l0 s0) shape))] else [])
    rw [ef]
    have e1 : (sh b ((l0 :: l).filter fun x => !decide (x ∈ sh (sb l0 s0) shape))).length = ((l0 :: l).filter fun x => !decide (x ∈ sh (sb l0 s0) shape)).length := by simp [sh]
    have e2 : (sh b (l0 :: l)).length = (l0 :: l).length := by simp [sh]
    rw [e1, e2, sb_ad]
    split
    · simp [shR, sh]
    · rfl
theorem round_sh (b s0 : Ce) (shape : List Ce) (es : List Row) : roundF s0 shape (es.map (shR b)) = (roundF s0 shape es).map (List.map (shR b)) := by
  unfold roundF
  have e1 : (es.map (shR b)).all (fun p => !p.2.isEmpty) = es.all (fun p => !p.2.isEmpty) := by
    rw [List.all_map]
    refine List.all_congr rfl fun p => ?_
    obtain ⟨row, left⟩ := p
    cases left <;> rfl
  rw [e1]
  split
  · congr 1
    induction es with
    | nil => rfl
    | cons a r ih =>
      rename_i ha
      rw [List.map_cons, List.flatMap_cons, List.flatMap_cons, List.map_append, step_sh]
      have hr : r.all (fun p => !p.2.isEmpty) = true := by
        rw [List.all_cons, Bool.and_eq_true] at ha; exact ha.2
      have e2 : (r.map (shR b)).all (fun p => !p.2.isEmpty) = r.all (fun p => !p.2.isEmpty) := by
        rw [List.all_map]
        refine List.all_congr rfl fun p => ?_
        obtain ⟨row, left⟩ := p
        cases left <;> rfl
      rw [ih e2 hr]
  · rfl
theorem loop_sh (b s0 : Ce) (shape : List Ce) : ∀ (n : Nat) (es : List Row), loopF s0 shape n (es.map (shR b)) = (loopF s0 shape n es).map (List.map (shR b))
  | 0, es => rfl
  | n + 1, es => by
    unfold loopF
    rw [round_sh]
    cases roundF s0 shape es with
    | none => rfl
    | some es' => exact loop_sh b s0 shape n es'
theorem lex_sh (b x y : Ce) : lexB (ad b x) (ad b y) = lexB x y := by
  obtain ⟨x1, x2⟩ := x
  obtain ⟨y1, y2⟩ := y
  simp only [lexB, ad, HT.lexLt]
  have h1 : (x1 + b.1 = y1 + b.1) ↔ x1 = y1 := by omega
  have h2 : (x2 + b.2 = y2 + b.2) ↔ x2 = y2 := by omega
  have h3 : (x1 + b.1 < y1 + b.1) ↔ x1 < y1 := by omega
  have h4 : (x2 + b.2 < y2 + b.2) ↔ x2 < y2 := by omega
  simp only [h1, h2, h3, h4]
theorem ris_sh (b : Ce) (cs : List Ce) : risB (sh b cs) = risB cs := by
  unfold risB
  have e : (sh b cs).length = cs.length := by simp [sh]
  rw [e]
  have key : ∀ i ∈ List.range (cs.length - 1), lexB ((sh b cs).getD i (0, 0)) ((sh b cs).getD (i + 1) (0, 0)) = lexB (cs.getD i (0, 0)) (cs.getD (i + 1) (0, 0)) := fun i hi => by
    have hi' := List.mem_range.mp hi
    have g : ∀ j, j < cs.length → (sh b cs).getD j (0, 0) = ad b (cs.getD j (0, 0)) := fun j hj => by
      simp [sh, List.getD_eq_getElem?_getD, hj]
    rw [g i (by omega), g (i + 1) (by omega), lex_sh]
  generalize List.range (cs.length - 1) = l at key
  induction l with
  | nil => rfl
  | cons a r ih => rw [List.all_cons, List.all_cons, key a List.mem_cons_self, ih fun i hi => key i (List.mem_cons_of_mem _ hi)]
def fit0 (cs : List Ce) : Bool := decide (1 ≤ cs.length) && decide (cs.length ≤ 16) && (cs.all fun c => decide (0 ≤ c.1) && decide (c.1 ≤ 15) && decide (0 ≤ c.2) && decide (c.2 ≤ 15)) && risB cs
theorem fit_sh (b : Ce) (cs : List Ce) (h : fit0 cs = true) (h1 : -20 ≤ b.1 ∧ b.1 ≤ 20) (h2 : -20 ≤ b.2 ∧ b.2 ≤ 20) : fitB (sh b cs) = true := by
  unfold fit0 at h
  unfold fitB
  simp only [Bool.and_eq_true, decide_eq_true_eq] at h ⊢
  obtain ⟨⟨⟨a1, a2⟩, a3⟩, a4⟩ := h
  have e : (sh b cs).length = cs.length := by simp [sh]
  refine ⟨⟨⟨by omega, by omega⟩, ?_⟩, by rw [ris_sh]; exact a4⟩
  rw [List.all_eq_true] at a3 ⊢
  intro c hc
  obtain ⟨d, hd, rfl⟩ := List.mem_map.mp hc
  have := a3 d hd
  simp only [Bool.and_eq_true, decide_eq_true_eq] at this ⊢
  simp only [ad]
  omega

def boxC (w h : Nat) : List Ce := (List.range w).flatMap fun (x : Nat) => (List.range h).map fun (y : Nat) => (Int.ofNat x, Int.ofNat y)
def dueC (w h one two : Nat) : List Ce := (List.range (w / one)).flatMap fun (x : Nat) => (List.range (h / two)).map fun (y : Nat) => (Int.ofNat (x * one), Int.ofNat (y * two))
def isso (w h one two : Nat) : Bool := w % one == 0 && h % two == 0
def chk (w h one two : Nat) : Bool := fit0 (boxC w h) && decide ((boxC one two).head? = some (0, 0)) && decide ((boxC one two).length ≤ 16) &&
  decide (fillF (0, 0) (boxC one two) (boxC w h) (dictF (boxC w h) []) [] = some (if isso w h one two = true then some (dueC w h one two) else none)) &&
  (isso w h one two || (loopF (0, 0) (boxC one two) ((boxC w h).length / (boxC one two).length + 1) [([], boxC w h)]).isSome)
def boxes : List (Nat × Nat) := (List.range 17).flatMap fun w => ((List.range 17).filter fun h => decide (1 ≤ w ∧ 1 ≤ h ∧ w * h ≤ 16)).map fun h => (w, h)
def small : List (Nat × Nat) := [(1, 1), (1, 2), (1, 3), (1, 4), (2, 1), (2, 2), (2, 3), (2, 4), (3, 1), (3, 2), (3, 3), (3, 4), (4, 1), (4, 2), (4, 3), (4, 4)]
theorem chk_small : (boxes.all fun p => small.all fun q => chk p.1 p.2 q.1 q.2) = true := by decide +kernel
theorem chk_self : (boxes.all fun p => chk p.1 p.2 p.1 p.2) = true := by decide +kernel
end Mx
namespace Mx
open Dn Tx
open PySem (PyData NestedKey)
theorem run_I {m : Nat} {g : MS} {os os' ds : List PyData} {d : PyData} {ρ : Env} (h : g (.own os :: ds.map .dat ++ uns m) = some (.rt (.dat d) (.own os' :: ρ))) : runI' m g os ds = some (.dat d, os') := by
  unfold runI' cleanI runI; simp only [h]; rfl
def PInv (a b : Int) : Prop := 0 ≤ a ∧ a < 2147483489 ∧ 0 ≤ b
abbrev pE (a b c : Int) : List PyData := [.int a, .int b, .int c]
theorem asg_eq {f : M PyData} {gt : PyData → Env → Option Env} {ρ ρ1 ρ2 : Env} {d : PyData} (h1 : f ρ = some (d, ρ1)) (h2 : gt d ρ1 = some ρ2) : sAsg f gt ρ = some (.nx ρ2) := by
  unfold sAsg; simp only [h1, h2]
theorem mul_ok (i j : Int) (h : (-(2 ^ 64) < i ∧ i < 2 ^ 64) ∨ (-(2 ^ 64) < j ∧ j < 2 ^ 64)) : mulD (.int i) (.int j) = some (.int (i * j)) := by
  show (if (-(2 ^ 64) < i ∧ i < 2 ^ 64) ∨ (-(2 ^ 64) < j ∧ j < 2 ^ 64) then some (PyData.int (i * j)) else none) = _
  rw [if_pos h]
theorem mod_ok (i j : Int) (h : 0 < j) : modD (.int i) (.int j) = some (.int (i % j)) := by
  show (if 0 < j then some (PyData.int (i % j)) else _) = _
  rw [if_pos h]
theorem fdiv_ok (i j : Int) (h : 0 < j) (h2 : j < 1073741824) : fdivD (.int i) (.int j) = some (.int (i / j)) := by
  show (if 0 < j ∧ j < 1073741824 then some (PyData.int (i / j)) else _) = _
  rw [if_pos ⟨h, h2⟩]
theorem divmod_ok (i j : Int) (h : 0 < j) (h2 : j < 1073741824) : divmodD (.int i) (.int j) = some (.tuple [.int (i / j), .int (i % j)]) := by
  show (if 0 < j ∧ j < 1073741824 then some (PyData.tuple [.int (i / j), .int (i % j)]) else none) = _
  rw [if_pos ⟨h, h2⟩]
theorem a2_eq {g : PyData → PyData → Option PyData} {f : M (List PyData)} {ρ ρ1 : Env} {x y z : PyData} (h1 : f ρ = some ([x, y], ρ1)) (h2 : g x y = some z) : mA2 g f ρ = some (z, ρ1) := by
  unfold mA2; simp only [h1, h2]
theorem x_draw (a b c many : Int) (hi : PInv a b) (hm : 1 ≤ many ∧ many ≤ 100) : ∃ r a' b' c', f_law_draw (pE a b c) [.int many] = some (.dat (.int r), pE a' b' c') ∧ PInv a' b' ∧ 0 ≤ r ∧ r < many := by
  obtain ⟨h1, h2, h3⟩ := hi
  have eg : mT (m2 gtD (mLoc2 0 ixD (eC (.int 1))) (eC (.int 0))) [.own (pE a b c), .dat (.int many), .un, .un] = some (decide (0 < b), [.own (pE a b c), .dat (.int many), .un, .un]) := rfl
  by_cases hb : 0 < b
  · rw [decide_eq_true hb] at eg
    refine ⟨b % many, a, b / many, c, ?_, ⟨h1, h2, Int.ediv_nonneg h3 (by omega)⟩, Int.emod_nonneg _ (by omega), Int.emod_lt_of_pos _ (by omega)⟩
    have e1 : sAsg (mA2 divmodD (aCons (mLoc2 0 ixD (eC (.int 1))) (aCons (eVar 1) aNil))) (tgTup 2 (tgCons (tgSub 0 (eC (.int 1))) (tgCons (tgN 2) tgNil))) [.own (pE a b c), .dat (.int many), .un, .un] = some (.nx [.own (pE a (b / many) c), .dat (.int many), .dat (.int (b % many)), .un]) :=
      asg_eq (a2_eq rfl (divmod_ok b many (by omega) (by omega))) rfl
    exact run_I (ρ := [.dat (.int many), .dat (.int (b % many)), .un]) (seq_rt (if_true' eg (seq_nx e1 (ret_eq rfl))))
  · rw [decide_eq_false hb] at eg
    have e1 : sAsg (m2 addD (mLoc2 0 ixD (eC (.int 2))) (eC (.int 1))) (tgSub 0 (eC (.int 2))) [.own (pE a b c), .dat (.int many), .un, .un] = some (.nx [.own (pE a b (c + 1)), .dat (.int many), .un, .un]) := rfl
    have e2 : sSet 3 (mDat (m1 intD (mLoc2 0 ixD (eC (.int 0))))) [.own (pE a b (c + 1)), .dat (.int many), .un, .un] = some (.nx [.own (pE a b (c + 1)), .dat (.int many), .un, .dat (.int a)]) := rfl
    have e3 : sAsg (m2 modD (m1 intD (m2 addD (m2 addD (m2 mulD (eVar 3) (m2 addD (m2 modD (eVar 3) (eC (.int 20011))) (eC (.int 30011)))) (m2 mulD (eC (.int 70001)) (mLoc2 0 ixD (eC (.int 2))))) (eC (.int 9)))) (eC (.int 2147483489))) (tgSub 0 (eC (.int 0))) [.own (pE a b (c + 1)), .dat (.int many), .un, .dat (.int a)] = some (.nx [.own (pE ((a * (a % 20011 + 30011) + 70001 * (c + 1) + 9) % 2147483489) b (c + 1)), .dat (.int many), .un, .dat (.int a)]) :=
      asg_eq (m2_eq (m1_eq (m2_eq (m2_eq (m2_eq rfl (m2_eq (m2_eq rfl rfl (mod_ok _ _ (by omega))) rfl rfl) (mul_ok _ _ (.inl (by omega)))) (m2_eq rfl rfl (mul_ok _ _ (.inl (by omega)))) rfl) rfl rfl) rfl) rfl (mod_ok _ _ (by omega))) rfl
    refine ⟨((a * (a % 20011 + 30011) + 70001 * (c + 1) + 9) % 2147483489) / 128 % many, (a * (a % 20011 + 30011) + 70001 * (c + 1) + 9) % 2147483489, b, c + 1, ?_, ⟨Int.emod_nonneg _ (by omega), Int.emod_lt_of_pos _ (by omega), h3⟩, Int.emod_nonneg _ (by omega), Int.emod_lt_of_pos _ (by omega)⟩
    exact run_I (ρ := [.dat (.int many), .un, .dat (.int a)]) (seq_nx (if_false' eg rfl) (seq_nx e1 (seq_nx e2 (seq_nx e3 (ret_eq (m2_eq (m1_eq (m2_eq rfl rfl (fdiv_ok _ _ (by omega) (by omega))) rfl) rfl (mod_ok _ _ (by omega))))))))
theorem run_S {m : Nat} {g : MS} {d0 : PyData} {ds os : List PyData} {ρ : Env} (h : g (.bor d0 :: ds.map .dat ++ uns m) = some (.rt (.own os) ρ)) : runB' m g (d0 :: ds) = some (.own os) := by
  unfold runB' clean runB; simp only [h]; rfl
def stirB : MS := sSet 3 (mDat (m2 modD (m1 intD (m2 addD (m2 addD (m2 mulD (eVar 3) (eC (.int 48271))) (m2 modD (m1 intD (eLoc 4)) (eC (.int 2147483489)))) (eC (.int 283)))) (eC (.int 2147483489))))
theorem stir (A B C : Sl) : ∀ (l : List Int) (s : Int) (s4 : Sl), ∃ s' t4, sLoop (tgN 4) stirB (l.map PyData.int) [A, B, C, .dat (.int s), s4] = some (.nx [A, B, C, .dat (.int s'), t4])
  | [], s, s4 => ⟨s, s4, rfl⟩
  | x :: l, s, s4 => by
    obtain ⟨s', t4, e⟩ := stir A B C l ((s * 48271 + x % 2147483489 + 283) % 2147483489) (.dat (.int x))
    refine ⟨s', t4, ?_⟩
    have eT : tgN 4 (.int x) [A, B, C, .dat (.int s), s4] = some [A, B, C, .dat (.int s), .dat (.int x)] := rfl
    have eB : stirB [A, B, C, .dat (.int s), .dat (.int x)] = some (.nx [A, B, C, .dat (.int ((s * 48271 + x % 2147483489 + 283) % 2147483489)), .dat (.int x)]) :=
      setd_eq (m2_eq (m1_eq (m2_eq (m2_eq (m2_eq rfl rfl (mul_ok _ _ (.inr (by omega)))) (m2_eq rfl rfl (mod_ok _ _ (by omega))) rfl) rfl rfl) rfl) rfl (mod_ok _ _ (by omega))) rfl
    rw [List.map_cons, sLoop]
    simp only [eT, eB]
    exact e
theorem cut_map (ns : List Int) (lo hi : Option Int) : ∃ l : List Int, cutD (ns.map PyData.int) lo hi = l.map PyData.int := by
  unfold cutD
  exact ⟨(ns.drop (HT.sIx (ns.map PyData.int).length 0 lo)).take (HT.sIx (ns.map PyData.int).length (ns.map PyData.int).length hi - HT.sIx (ns.map PyData.int).length 0 lo), by rw [List.map_take, List.map_drop]⟩
theorem x_pool (ns : List Int) (t : Nat) (ht : t ≤ 10) : ∃ a b, f_law_pool [.list (ns.map PyData.int), .int (t : Int)] = some (.own (pE a b 0)) ∧ PInv a b := by
  have own : ∃ w : Int, mIf (mT (m2 ltD (eVar 1) (m1 lenD (eLoc 0)))) (m1 intD (mLoc2 0 ixD (eVar 1))) (m2 addD (m2 mulD (eC (.int 70001)) (eVar 1)) (eC (.int 1115))) [.bor (.list (ns.map PyData.int)), .dat (.int (t : Int)), .un, .un, .un] = some (.int w, [.bor (.list (ns.map PyData.int)), .dat (.int (t : Int)), .un, .un, .un]) := by
    have e0 : mT (m2 ltD (eVar 1) (m1 lenD (eLoc 0))) [.bor (.list (ns.map PyData.int)), .dat (.int (t : Int)), .un, .un, .un] = some (decide ((t : Int) < ((ns.map PyData.int).length : Int)), [.bor (.list (ns.map PyData.int)), .dat (.int (t : Int)), .un, .un, .un]) := rfl
    by_cases h : (t : Int) < ((ns.map PyData.int).length : Int)
    · rw [decide_eq_true h] at e0
      have hl : t < ns.length := by rw [List.length_map] at h; omega
      refine ⟨ns[t], mIf_t e0 (m1_eq (d := .int ns[t]) ?_ rfl)⟩
      have e5 : ixD (.list (ns.map PyData.int)) (.int (t : Int)) = some (.int ns[t]) := by
        show L2.atI (ns.map PyData.int) (t : Int) = _
        unfold L2.atI L2.ixN
        have h0 : (0 : Int) ≤ t := by omega
        simp [h0, h, hl]
      have e6 : mLoc2 0 ixD (eVar 1) [.bor (.list (ns.map PyData.int)), .dat (.int (t : Int)), .un, .un, .un] = (match ixD (.list (ns.map PyData.int)) (.int (t : Int)) with
        | some z => some (z, [.bor (.list (ns.map PyData.int)), .dat (.int (t : Int)), .un, .un, .un])
        | none => none) := rfl
      rw [e6, e5]
    · rw [decide_eq_false h] at e0
      exact ⟨_, mIf_f e0 (m2_eq (m2_eq rfl rfl (mul_ok _ _ (.inl (by omega)))) rfl rfl)⟩
  obtain ⟨w, ew⟩ := own
  have ePar : sPar 2 3 (mDat (mIf (mT (m2 ltD (eVar 1) (m1 lenD (eLoc 0)))) (m1 intD (mLoc2 0 ixD (eVar 1))) (m2 addD (m2 mulD (eC (.int 70001)) (eVar 1)) (eC (.int 1115))))) (mDat (m2 addD (eC (.int 372466)) (m2 mulD (eC (.int 5087)) (eVar 1)))) [.bor (.list (ns.map PyData.int)), .dat (.int (t : Int)), .un, .un, .un] = some (.nx [.bor (.list (ns.map PyData.int)), .dat (.int (t : Int)), .dat (.int w), .dat (.int (372466 + 5087 * (t : Int))), .un]) := by
    have e2 : m2 addD (eC (.int 372466)) (m2 mulD (eC (.int 5087)) (eVar 1)) [.bor (.list (ns.map PyData.int)), .dat (.int (t : Int)), .un, .un, .un] = some (.int (372466 + 5087 * (t : Int)), [.bor (.list (ns.map PyData.int)), .dat (.int (t : Int)), .un, .un, .un]) := m2_eq rfl (m2_eq rfl rfl (mul_ok _ _ (.inl (by omega)))) rfl
    unfold sPar mDat
    simp only [ew, e2]
    rfl
  obtain ⟨l, el⟩ := cut_map ns none (some 63)
  obtain ⟨s', t4, eS⟩ := stir (.bor (.list (ns.map PyData.int))) (.dat (.int (t : Int))) (.dat (.int w)) l (372466 + 5087 * (t : Int)) .un
  have eI : mItems (mSlN 0 mNoPart (mPart (eC (.int 63)))) [.bor (.list (ns.map PyData.int)), .dat (.int (t : Int)), .dat (.int w), .dat (.int (372466 + 5087 * (t : Int))), .un] = some (l.map PyData.int, [.bor (.list (ns.map PyData.int)), .dat (.int (t : Int)), .dat (.int w), .dat (.int (372466 + 5087 * (t : Int))), .un]) := by
    rw [← el]; rfl
  have eA : ∃ b : Int, 0 ≤ b ∧ mIf (tOrM (mT (m2 ltD (eVar 2) (eC (.int 0)))) (mT (m2 geD (eVar 2) (m2 powD (eC (.int 10)) (eC (.int 18)))))) (m1 absD (eLoc 2)) (eC (.int 0)) [.bor (.list (ns.map PyData.int)), .dat (.int (t : Int)), .dat (.int w), .dat (.int s'), t4] = some (.int b, [.bor (.list (ns.map PyData.int)), .dat (.int (t : Int)), .dat (.int w), .dat (.int s'), t4]) := by
    have e0 : mT (m2 ltD (eVar 2) (eC (.int 0))) [.bor (.list (ns.map PyData.int)), .dat (.int (t : Int)), .dat (.int w), .dat (.int s'), t4] = some (decide (w < 0), [.bor (.list (ns.map PyData.int)), .dat (.int (t : Int)), .dat (.int w), .dat (.int s'), t4]) := rfl
    have e1 : mT (m2 geD (eVar 2) (m2 powD (eC (.int 10)) (eC (.int 18)))) [.bor (.list (ns.map PyData.int)), .dat (.int (t : Int)), .dat (.int w), .dat (.int s'), t4] = some (decide ((10 : Int) ^ 18 ≤ w), [.bor (.list (ns.map PyData.int)), .dat (.int (t : Int)), .dat (.int w), .dat (.int s'), t4]) := mT_eq (m2_eq rfl (m2_eq rfl rfl (by show powD (.int 10) (.int 18) = some (.int (10 ^ 18)); rfl)) rfl)
    have eO : tOrM (mT (m2 ltD (eVar 2) (eC (.int 0)))) (mT (m2 geD (eVar 2) (m2 powD (eC (.int 10)) (eC (.int 18))))) [.bor (.list (ns.map PyData.int)), .dat (.int (t : Int)), .dat (.int w), .dat (.int s'), t4] = some (decide (w < 0) || decide ((10 : Int) ^ 18 ≤ w), [.bor (.list (ns.map PyData.int)), .dat (.int (t : Int)), .dat (.int w), .dat (.int s'), t4]) := by
      unfold tOrM
      rw [e0]
      cases decide (w < 0)
      · show mT _ _ = _
        rw [e1]; simp
      · rfl
    cases hb : (decide (w < 0) || decide ((10 : Int) ^ 18 ≤ w)) with
    | true =>
      rw [hb] at eO
      refine ⟨if w < 0 then -w else w, ?_, mIf_t eO rfl⟩
      split <;> omega
    | false =>
      rw [hb] at eO
      exact ⟨0, by omega, mIf_f eO rfl⟩
  obtain ⟨b, hb, eb⟩ := eA
  refine ⟨(s' + w * 1013) % 2147483489, b, ?_, Int.emod_nonneg _ (by omega), Int.emod_lt_of_pos _ (by omega), hb⟩
  have eR : sRetS (mLst (aCons (m2 modD (m1 intD (m2 addD (eVar 3) (m2 mulD (eVar 2) (eC (.int 1013))))) (eC (.int 2147483489))) (aCons (mIf (tOrM (mT (m2 ltD (eVar 2) (eC (.int 0)))) (mT (m2 geD (eVar 2) (m2 powD (eC (.int 10)) (eC (.int 18)))))) (m1 absD (eLoc 2)) (eC (.int 0))) (aCons (eC (.int 0)) aNil)))) [.bor (.list (ns.map PyData.int)), .dat (.int (t : Int)), .dat (.int w), .dat (.int s'), t4] = some (.rt (.own (pE ((s' + w * 1013) % 2147483489) b 0)) [.bor (.list (ns.map PyData.int)), .dat (.int (t : Int)), .dat (.int w), .dat (.int s'), t4]) := by
    have e0 : m1 intD (m2 addD (eVar 3) (m2 mulD (eVar 2) (eC (.int 1013)))) [.bor (.list (ns.map PyData.int)), .dat (.int (t : Int)), .dat (.int w), .dat (.int s'), t4] = some (.int (s' + w * 1013), [.bor (.list (ns.map PyData.int)), .dat (.int (t : Int)), .dat (.int w), .dat (.int s'), t4]) :=
      m1_eq (d := .int (s' + w * 1013)) (m2_eq (x := .int s') (y := .int (w * 1013)) rfl (m2_eq (x := .int w) (y := .int 1013) rfl rfl (mul_ok w 1013 (.inr (by omega)))) rfl) rfl
    have e1 := aCons_eq (m2_eq (fb := eC (.int 2147483489)) e0 rfl (mod_ok (s' + w * 1013) 2147483489 (by omega))) (aCons_eq eb (aCons_eq (fr := aNil) (fa := eC (.int 0)) rfl rfl))
    unfold sRetS mLst
    simp only [e1]
  exact run_S (seq_nx ePar (seq_nx (for_eq eI eS) eR))
end Mx
namespace Mx
open Dn Tx
open PySem (PyData NestedKey)
theorem callI_eq {f : FI} {fr : M (List PyData)} {os os1 os' ds : List PyData} {d : PyData} {ρ ρ1 : Env} (h1 : fr (.own os :: ρ) = some (ds, .own os1 :: ρ1)) (h2 : f os1 ds = some (.dat d, os')) : mFz (mCallI 0 f fr) (.own os :: ρ) = some (d, .own os' :: ρ1) := by
  have e : mCallI 0 f fr (.own os :: ρ) = some (.dat d, .own os' :: ρ1) := by
    unfold mCallI
    have h0 : isOwn 0 (.own os :: ρ) = true := rfl
    rw [if_pos h0, h1]
    show (match f os1 ds with
      | some (s, o) => some (s, (Sl.own os1 :: ρ1).set 0 (.own o))
      | none => none) = _
    rw [h2]; rfl
  unfold mFz; rw [e]
theorem par_eq {i j : Nat} {fa fb : M PyData} {ρ ρ1 ρ2 ρ3 ρ4 : Env} {x y : PyData} (h1 : fa ρ = some (x, ρ1)) (h2 : fb ρ1 = some (y, ρ2)) (h3 : setSl i (.dat x) ρ2 = some ρ3) (h4 : setSl j (.dat y) ρ3 = some ρ4) : sPar i j (mDat fa) (mDat fb) ρ = some (.nx ρ4) := by
  unfold sPar mDat
  simp only [h1, h2, h3, h4]
theorem or_ff {a b : M Bool} {ρ ρ1 ρ2 : Env} (h1 : a ρ = some (false, ρ1)) (h2 : b ρ1 = some (false, ρ2)) : tOrM a b ρ = some (false, ρ2) := by
  unfold tOrM; simp only [h1, h2]
theorem tnot_f {f : M PyData} {ρ ρ1 : Env} (h : f ρ = some (.bool false, ρ1)) : tNotM (mT f) ρ = some (true, ρ1) := by
  unfold tNotM; rw [mT_eq h]; rfl
theorem and_eq {fa fb : M PyData} {ρ ρ1 : Env} {a b : Bool} (h1 : fa ρ = some (.bool a, ρ1)) (h2 : a = true → fb ρ1 = some (.bool b, ρ1)) (h3 : a = false → b = false) : mAnd fa fb ρ = some (.bool b, ρ1) := by
  unfold mAnd
  cases a with
  | true => simp only [h1, h2 rfl]
  | false => simp only [h1, h3 rfl]
def nE (i : Nat) : PyData := .int (0 + (i : Int))
theorem rng_eq {f : M (List PyData)} {ρ ρ1 : Env} {n : Nat} (h : f ρ = some ([.int (n : Int)], ρ1)) (hn : n ≤ 1000) : mRng1 f ρ = some ((List.range n).map nE, ρ1) := by
  unfold mRng1
  rw [h]
  have hb : -(2 ^ 62) ≤ (n : Int) ∧ (n : Int) < 2 ^ 62 := by omega
  simp only [hb, and_self, if_true]
  rfl
def bodyD : MS := sSet 10 (mDat (m2 addD (eVar 10) (mFz (mLst (mLC [12] (mRng1 (aCons (m2 fdivD (eVar 2) (eVar 4)) aNil)) (tgN 12) tAll (mTup (aCons (m2 addD (m2 ixD (eVar 5) (eC (.int 0))) (m2 mulD (eVar 11) (eVar 3))) (aCons (m2 addD (m2 ixD (eVar 5) (eC (.int 1))) (m2 mulD (eVar 12) (eVar 4))) aNil))))))))
def colD (b : Ce) (one two n x : Nat) : List Ce := (List.range n).map fun y : Nat => (b.1 + (0 + (x : Int)) * (one : Int), b.2 + (0 + (y : Int)) * (two : Int))
theorem due_loop (P C1 C2 I9 T : Sl) (b : Ce) (w h one two : Nat) (h1 : h ≤ 16) (h2 : 1 ≤ two ∧ two ≤ 16) (h3 : one ≤ 16) : ∀ (xs : List Nat) (acc : List Ce) (s11 : Sl), (∀ x ∈ xs, x ≤ 100) → acc.length + 16 * xs.length ≤ 1000 →
    ∃ t11, sLoop (tgN 11) bodyD (xs.map nE) [P, .dat (.int (w : Int)), .dat (.int (h : Int)), .dat (.int (one : Int)), .dat (.int (two : Int)), .dat (cE b), C1, C2, I9, T, .dat (.list (acc.map cE)), s11, .un] =
      some (.nx [P, .dat (.int (w : Int)), .dat (.int (h : Int)), .dat (.int (one : Int)), .dat (.int (two : Int)), .dat (cE b), C1, C2, I9, T, .dat (.list ((acc ++ xs.flatMap (colD b one two (h / two))).map cE)), t11, .un])
  | [], acc, s11, _, _ => ⟨s11, by simp [sLoop]⟩
  | x :: xs, acc, s11, hx, hz => by
    have hn : h / two ≤ 16 := Nat.le_trans (Nat.div_le_self _ _) h1
    have hx0 := hx x List.mem_cons_self
    have hl : (colD b one two (h / two) x).length ≤ 16 := by simp [colD]; exact hn
    obtain ⟨t11, e⟩ := due_loop P C1 C2 I9 T b w h one two h1 h2 h3 xs (acc ++ colD b one two (h / two) x) (.dat (nE x)) (fun y hy => hx y (List.mem_cons_of_mem _ hy)) (by simp at hz ⊢; omega)
    refine ⟨t11, ?_⟩
    have eT : tgN 11 (nE x) [P, .dat (.int (w : Int)), .dat (.int (h : Int)), .dat (.int (one : Int)), .dat (.int (two : Int)), .dat (cE b), C1, C2, I9, T, .dat (.list (acc.map cE)), s11, .un] = some [P, .dat (.int (w : Int)), .dat (.int (h : Int)), .dat (.int (one : Int)), .dat (.int (two : Int)), .dat (cE b), C1, C2, I9, T, .dat (.list (acc.map cE)), .dat (nE x), .un] := rfl
    have eR : mRng1 (aCons (m2 fdivD (eVar 2) (eVar 4)) aNil) [P, .dat (.int (w : Int)), .dat (.int (h : Int)), .dat (.int (one : Int)), .dat (.int (two : Int)), .dat (cE b), C1, C2, I9, T, .dat (.list (acc.map cE)), .dat (nE x), .un] = some ((List.range (h / two)).map nE, [P, .dat (.int (w : Int)), .dat (.int (h : Int)), .dat (.int (one : Int)), .dat (.int (two : Int)), .dat (cE b), C1, C2, I9, T, .dat (.list (acc.map cE)), .dat (nE x), .un]) :=
      rng_eq (aCons_eq (m2_eq (x := .int (h : Int)) (y := .int (two : Int)) (z := .int ((h / two : Nat) : Int)) rfl rfl ((fdiv_ok _ _ (by omega) (by omega)).trans rfl)) rfl) (by omega)
    have eB : bodyD [P, .dat (.int (w : Int)), .dat (.int (h : Int)), .dat (.int (one : Int)), .dat (.int (two : Int)), .dat (cE b), C1, C2, I9, T, .dat (.list (acc.map cE)), .dat (nE x), .un] = some (.nx [P, .dat (.int (w : Int)), .dat (.int (h : Int)), .dat (.int (one : Int)), .dat (.int (two : Int)), .dat (cE b), C1, C2, I9, T, .dat (.list ((acc ++ colD b one two (h / two) x).map cE)), .dat (nE x), .un]) := by
      refine setd_eq (m2_eq rfl (fz_lst (mLC_eq (ρ1 := [P, .dat (.int (w : Int)), .dat (.int (h : Int)), .dat (.int (one : Int)), .dat (.int (two : Int)), .dat (cE b), C1, C2, I9, T, .dat (.list (acc.map cE)), .dat (nE x), .un]) eR rfl (lc_cells nE (fun y : Nat => cE (b.1 + (0 + (x : Int)) * (one : Int), b.2 + (0 + (y : Int)) * (two : Int))) [P, .dat (.int (w : Int)), .dat (.int (h : Int)), .dat (.int (one : Int)), .dat (.int (two : Int)), .dat (cE b), C1, C2, I9, T, .dat (.list (acc.map cE)), .dat (nE x), .un] _ fun y hy => ⟨_, [P, .dat (.int (w : Int)), .dat (.int (h : Int)), .dat (.int (one : Int)), .dat (.int (two : Int)), .dat (cE b), C1, C2, I9, T, .dat (.list (acc.map cE)), .dat (nE x), .dat (nE y)], rfl, tup_eq (aCons_eq (m2_eq rfl (m2_eq (x := nE x) (y := .int (one : Int)) rfl rfl (mul_ok _ _ (.inr (by omega)))) rfl) (aCons_eq (m2_eq rfl (m2_eq (x := nE y) (y := .int (two : Int)) rfl rfl (mul_ok _ _ (.inr (by omega)))) rfl) rfl)), rfl⟩) rfl (by simp; omega))) (add_lst _ _ (by simp at hz ⊢; omega))) ?_
      have e3 : acc.map cE ++ ((List.range (h / two)).map fun y : Nat => cE (b.1 + (0 + (x : Int)) * (one : Int), b.2 + (0 + (y : Int)) * (two : Int))) = (acc ++ colD b one two (h / two) x).map cE := by
        simp only [colD, List.map_append, List.map_map]; rfl
      rw [e3]; rfl
    rw [List.map_cons, sLoop]
    simp only [eT, eB]
    rw [e]
    simp [List.flatMap_cons]
theorem due_eq (b : Ce) (w h one two : Nat) : (List.range (w / one)).flatMap (colD b one two (h / two)) = sh b (dueC w h one two) := by
  unfold sh dueC colD
  rw [List.map_flatMap]
  congr 1
  funext x
  rw [List.map_map]
  refine List.map_congr_left fun y _ => ?_
  simp only [ad, Function.comp, Prod.mk.injEq]
  have e1 : Int.ofNat (x * one) = (x : Int) * (one : Int) := Int.natCast_mul x one
  have e2 : Int.ofNat (y * two) = (y : Int) * (two : Int) := Int.natCast_mul y two
  rw [e1, e2]
  constructor <;> (rw [Int.zero_add]; exact Int.add_comm _ _)
theorem box_len (w h : Nat) (hw : w ≤ 16) (hh : h ≤ 16) : (boxC w h).length ≤ 1000 := by
  have g : ∀ l : List Nat, (l.flatMap fun (x : Nat) => (List.range h).map fun (y : Nat) => (Int.ofNat x, Int.ofNat y)).length = l.length * h := by
    intro l
    induction l with
    | nil => simp
    | cons a r ih => rw [List.flatMap_cons, List.length_append, ih, List.length_map, List.length_range, List.length_cons, Nat.succ_mul]; omega
  have : (boxC w h).length = w * h := by
    have q := g (List.range w)
    rw [List.length_range] at q
    exact q
  rw [this]
  exact Nat.le_trans (Nat.mul_le_mul hw hh) (by decide)
theorem x_pair (a b c : Int) (w h one two : Nat) (hi : PInv a b) (hc : chk w h one two = true) (hb1 : f_box [.int (w : Int), .int (h : Int)] = some (.dat (csE (boxC w h)))) (hb2 : f_box [.int (one : Int), .int (two : Int)] = some (.dat (csE (boxC one two)))) (hs : f_is_shape_by [csE (boxC one two)] = some (.dat (.bool true)))
    (hw : w ≤ 16) (hh : h ≤ 16) (ho : 1 ≤ one ∧ one ≤ 16) (ht : 1 ≤ two ∧ two ≤ 16) : ∃ a' b' c', f_law_pair_right (pE a b c) [.int (w : Int), .int (h : Int), .int (one : Int), .int (two : Int)] = some (.dat (.bool true), pE a' b' c') ∧ PInv a' b' := by
  unfold chk at hc
  simp only [Bool.and_eq_true, decide_eq_true_eq] at hc
  obtain ⟨⟨⟨⟨c1, c2⟩, c3⟩, c4⟩, c5⟩ := hc
  obtain ⟨r, hr⟩ : ∃ r, boxC one two = (0, 0) :: r := by
    cases hq : boxC one two with
    | nil => rw [hq] at c2; cases c2
    | cons x r => rw [hq] at c2; simp at c2; exact ⟨r, by rw [c2]⟩
  obtain ⟨r1, a1, b1, d1, e1, i1, l1, u1⟩ := x_draw a b c 40 hi (by omega)
  obtain ⟨r2, a2, b2, d2, e2, i2, l2, u2⟩ := x_draw a1 b1 d1 40 i1 (by omega)
  refine ⟨a2, b2, d2, ?_, i2⟩
  generalize hby : ((r1 - 20, r2 - 20) : Ce) = by'
  have hy1 : -20 ≤ by'.1 ∧ by'.1 ≤ 20 := by subst hby; exact ⟨by show -20 ≤ r1 - 20; omega, by show r1 - 20 ≤ 20; omega⟩
  have hy2 : -20 ≤ by'.2 ∧ by'.2 ≤ 20 := by subst hby; exact ⟨by show -20 ≤ r2 - 20; omega, by show r2 - 20 ≤ 20; omega⟩
  have hfit := fit_sh by' (boxC w h) c1 hy1 hy2
  -- the steps
  have s5 : sSet 5 (mDat (mTup (aCons (m2 subD (mFz (mCallI 0 f_law_draw (aCons (eC (.int 40)) aNil))) (eC (.int 20))) (aCons (m2 subD (mFz (mCallI 0 f_law_draw (aCons (eC (.int 40)) aNil))) (eC (.int 20))) aNil)))) [.own (pE a b c), .dat (.int (w : Int)), .dat (.int (h : Int)), .dat (.int (one : Int)), .dat (.int (two : Int)), .un, .un, .un, .un, .un, .un, .un, .un] = some (.nx [.own (pE a2 b2 d2), .dat (.int (w : Int)), .dat (.int (h : Int)), .dat (.int (one : Int)), .dat (.int (two : Int)), .dat (cE by'), .un, .un, .un, .un, .un, .un, .un]) := by
    subst hby
    exact setd_eq (tup_eq (aCons_eq (m2_eq (callI_eq rfl e1) rfl rfl) (aCons_eq (m2_eq (callI_eq rfl e2) rfl rfl) rfl))) rfl
  have s6 : sPar 6 7 (mDat (mFz (mCall f_law_moved (aCons (mFz (mCall f_box (aCons (eVar 1) (aCons (eVar 2) aNil)))) (aCons (eVar 5) aNil))))) (mDat (mFz (mCall f_box (aCons (eVar 3) (aCons (eVar 4) aNil))))) [.own (pE a2 b2 d2), .dat (.int (w : Int)), .dat (.int (h : Int)), .dat (.int (one : Int)), .dat (.int (two : Int)), .dat (cE by'), .un, .un, .un, .un, .un, .un, .un] = some (.nx [.own (pE a2 b2 d2), .dat (.int (w : Int)), .dat (.int (h : Int)), .dat (.int (one : Int)), .dat (.int (two : Int)), .dat (cE by'), .dat (csE (sh by' (boxC w h))), .dat (csE (boxC one two)), .un, .un, .un, .un, .un]) :=
    par_eq (call_eq (aCons_eq (call_eq rfl hb1) rfl) (x_law_moved (boxC w h) by' (Nat.le_trans (box_len w h hw hh) (by omega)))) (call_eq rfl hb2) rfl rfl
  have eso : mAnd (m2 eqD (m2 modD (m1 intD (eLoc 1)) (eVar 3)) (eC (.int 0))) (m2 eqD (m2 modD (m1 intD (eLoc 2)) (eVar 4)) (eC (.int 0))) [.own (pE a2 b2 d2), .dat (.int (w : Int)), .dat (.int (h : Int)), .dat (.int (one : Int)), .dat (.int (two : Int)), .dat (cE by'), .dat (csE (sh by' (boxC w h))), .dat (csE (boxC one two)), .un, .un, .un, .un, .un] = some (.bool (isso w h one two), [.own (pE a2 b2 d2), .dat (.int (w : Int)), .dat (.int (h : Int)), .dat (.int (one : Int)), .dat (.int (two : Int)), .dat (cE by'), .dat (csE (sh by' (boxC w h))), .dat (csE (boxC one two)), .un, .un, .un, .un, .un]) := by
    have q : ∀ n m : Nat, decide ((n : Int) % (m : Int) = 0) = (n % m == 0) := fun n m => by
      rw [show ((n : Int) % (m : Int)) = ((n % m : Nat) : Int) from rfl]
      by_cases hq : n % m = 0
      · rw [hq]; rfl
      · have : ¬ ((n % m : Nat) : Int) = 0 := by omega
        have e2 : (n % m == 0) = false := by simpa using hq
        rw [e2, decide_eq_false this]
    refine and_eq (a := w % one == 0) (b := isso w h one two) ?_ (fun ha => ?_) (fun ha => by unfold isso; rw [ha]; rfl)
    · refine m2_eq (x := .int ((w : Int) % (one : Int))) (m2_eq (m1_eq (d := .int (w : Int)) rfl rfl) rfl (mod_ok _ _ (by omega))) rfl ((eqD_int _ _).trans ?_)
      rw [q]
    · refine m2_eq (x := .int ((h : Int) % (two : Int))) (m2_eq (m1_eq (d := .int (h : Int)) rfl rfl) rfl (mod_ok _ _ (by omega))) rfl ((eqD_int _ _).trans ?_)
      rw [q]
      unfold isso; rw [ha, Bool.true_and]
  have eF : fillF (0, 0) ((0, 0) :: r) (sh by' (boxC w h)) (dictF (sh by' (boxC w h)) []) [] = some ((if isso w h one two = true then some (dueC w h one two) else none).map (sh by')) := by
    have q1 := fill_sh by' (0, 0) ((0, 0) :: r) (boxC w h) (dictF (boxC w h) []) []
    have q2 := dict_sh by' (boxC w h) []
    have q3 : sh by' [] = [] := rfl
    rw [q3] at q1 q2
    rw [q2, q1, ← hr, c4]
    rfl
  have lsh : (sh by' (boxC w h)).length ≤ 1000 := by unfold sh; rw [List.length_map]; exact box_len w h hw hh
  have lbx : ((0, 0) :: r : List Ce).length ≤ 1000 := by rw [← hr]; exact box_len one two ho.2 ht.2
  have eBy := x_filling_by (sh by' (boxC w h)) (0, 0) r _ lsh lbx eF
  rw [← hr] at eBy
  have eFi := x_filling (sh by' (boxC w h)) (boxC one two) _ hfit hs eBy
  have eCo := x_filling_count (sh by' (boxC w h)) (boxC one two) _ hfit hs eBy
  cases hso : isso w h one two with
  | false =>
    rw [hso] at eso eFi eCo c5
    have s8 : sSet 8 (mDat (mAnd (m2 eqD (m2 modD (m1 intD (eLoc 1)) (eVar 3)) (eC (.int 0))) (m2 eqD (m2 modD (m1 intD (eLoc 2)) (eVar 4)) (eC (.int 0))))) [.own (pE a2 b2 d2), .dat (.int (w : Int)), .dat (.int (h : Int)), .dat (.int (one : Int)), .dat (.int (two : Int)), .dat (cE by'), .dat (csE (sh by' (boxC w h))), .dat (csE (boxC one two)), .un, .un, .un, .un, .un] = some (.nx [.own (pE a2 b2 d2), .dat (.int (w : Int)), .dat (.int (h : Int)), .dat (.int (one : Int)), .dat (.int (two : Int)), .dat (cE by'), .dat (csE (sh by' (boxC w h))), .dat (csE (boxC one two)), .dat (.bool false), .un, .un, .un, .un]) := setd_eq eso rfl
    have s9 : sSet 9 (mDat (mFz (mCall f_filling (aCons (eVar 6) (aCons (eVar 7) aNil))))) [.own (pE a2 b2 d2), .dat (.int (w : Int)), .dat (.int (h : Int)), .dat (.int (one : Int)), .dat (.int (two : Int)), .dat (cE by'), .dat (csE (sh by' (boxC w h))), .dat (csE (boxC one two)), .dat (.bool false), .un, .un, .un, .un] = some (.nx [.own (pE a2 b2 d2), .dat (.int (w : Int)), .dat (.int (h : Int)), .dat (.int (one : Int)), .dat (.int (two : Int)), .dat (cE by'), .dat (csE (sh by' (boxC w h))), .dat (csE (boxC one two)), .dat (.bool false), .dat .none, .un, .un, .un]) := setd_eq (call_eq rfl eFi) rfl
    have hlp : ∃ out, loopF (0, 0) ((0, 0) :: r) ((sh by' (boxC w h)).length / ((0, 0) :: r : List Ce).length + 1) [([], sh by' (boxC w h))] = some out := by
      have q := loop_sh by' (0, 0) ((0, 0) :: r) ((boxC w h).length / ((0, 0) :: r : List Ce).length + 1) [([], boxC w h)]
      rw [hr] at c5
      rw [Bool.false_or] at c5
      obtain ⟨out, eo⟩ := Option.isSome_iff_exists.mp c5
      refine ⟨out.map (shR by'), ?_⟩
      have e3 : (sh by' (boxC w h)).length = (boxC w h).length := by simp [sh]
      rw [e3]
      have e4 : [(([] : List Ce), boxC w h)].map (shR by') = [([], sh by' (boxC w h))] := rfl
      rw [e4] at q
      rw [q, eo]; rfl
    obtain ⟨out, eo⟩ := hlp
    have l16 : (boxC w h).length ≤ 16 := by
      unfold fit0 at c1
      simp only [Bool.and_eq_true, decide_eq_true_eq] at c1
      exact c1.1.1.2
    have eL := x_law_fillings (sh by' (boxC w h)) (0, 0) r out (by rw [← hr]; omega) (by simp [sh]; omega) eo
    rw [← hr] at eL
    exact run_I (seq_nx s5 (seq_nx s6 (seq_nx s8 (seq_nx s9 (seq_nx (if_false' (or_ff (mT_eq (m2_eq (m2_eq rfl rfl rfl) rfl rfl)) (mT_eq (m2_eq (call_eq rfl eCo) rfl rfl))) rfl) (seq_rt (if_true' (tnot_f rfl) (ret_eq (m2_eq (call_eq rfl eL) rfl rfl)))))))))
  | true =>
    rw [hso] at eso eFi eCo
    have s8 : sSet 8 (mDat (mAnd (m2 eqD (m2 modD (m1 intD (eLoc 1)) (eVar 3)) (eC (.int 0))) (m2 eqD (m2 modD (m1 intD (eLoc 2)) (eVar 4)) (eC (.int 0))))) [.own (pE a2 b2 d2), .dat (.int (w : Int)), .dat (.int (h : Int)), .dat (.int (one : Int)), .dat (.int (two : Int)), .dat (cE by'), .dat (csE (sh by' (boxC w h))), .dat (csE (boxC one two)), .un, .un, .un, .un, .un] = some (.nx [.own (pE a2 b2 d2), .dat (.int (w : Int)), .dat (.int (h : Int)), .dat (.int (one : Int)), .dat (.int (two : Int)), .dat (cE by'), .dat (csE (sh by' (boxC w h))), .dat (csE (boxC one two)), .dat (.bool true), .un, .un, .un, .un]) := setd_eq eso rfl
    have s9 : sSet 9 (mDat (mFz (mCall f_filling (aCons (eVar 6) (aCons (eVar 7) aNil))))) [.own (pE a2 b2 d2), .dat (.int (w : Int)), .dat (.int (h : Int)), .dat (.int (one : Int)), .dat (.int (two : Int)), .dat (cE by'), .dat (csE (sh by' (boxC w h))), .dat (csE (boxC one two)), .dat (.bool true), .un, .un, .un, .un] = some (.nx [.own (pE a2 b2 d2), .dat (.int (w : Int)), .dat (.int (h : Int)), .dat (.int (one : Int)), .dat (.int (two : Int)), .dat (cE by'), .dat (csE (sh by' (boxC w h))), .dat (csE (boxC one two)), .dat (.bool true), .dat (csE (sh by' (dueC w h one two))), .un, .un, .un]) := setd_eq (call_eq rfl eFi) rfl
    obtain ⟨t11, eD⟩ := due_loop (.own (pE a2 b2 d2)) (.dat (csE (sh by' (boxC w h)))) (.dat (csE (boxC one two))) (.dat (.bool true)) (.dat (csE (sh by' (dueC w h one two)))) by' w h one two hh ht ho.2 (List.range (w / one)) [] .un (fun x hx => by have := List.mem_range.mp hx; have := Nat.div_le_self w one; omega) (by have := Nat.div_le_self w one; simp; omega)
    rw [List.nil_append, due_eq] at eD
    have eW : mRng1 (aCons (m2 fdivD (eVar 1) (eVar 3)) aNil) [.own (pE a2 b2 d2), .dat (.int (w : Int)), .dat (.int (h : Int)), .dat (.int (one : Int)), .dat (.int (two : Int)), .dat (cE by'), .dat (csE (sh by' (boxC w h))), .dat (csE (boxC one two)), .dat (.bool true), .dat (csE (sh by' (dueC w h one two))), .dat (.list []), .un, .un] = some ((List.range (w / one)).map nE, [.own (pE a2 b2 d2), .dat (.int (w : Int)), .dat (.int (h : Int)), .dat (.int (one : Int)), .dat (.int (two : Int)), .dat (cE by'), .dat (csE (sh by' (boxC w h))), .dat (csE (boxC one two)), .dat (.bool true), .dat (csE (sh by' (dueC w h one two))), .dat (.list []), .un, .un]) :=
      rng_eq (aCons_eq (m2_eq (x := .int (w : Int)) (y := .int (one : Int)) (z := .int ((w / one : Nat) : Int)) rfl rfl ((fdiv_ok _ _ (by omega) (by omega)).trans rfl)) rfl) (by have := Nat.div_le_self w one; omega)
    have eQ : eqD (csE (sh by' (dueC w h one two))) (.tuple ((sh by' (dueC w h one two)).map cE)) = some (.bool true) := by
      have := eqD_cs (sh by' (dueC w h one two)) (sh by' (dueC w h one two))
      rw [decide_eq_true rfl] at this
      exact this
    exact run_I (seq_nx s5 (seq_nx s6 (seq_nx s8 (seq_nx s9 (seq_nx (if_false' (or_ff (mT_eq (m2_eq (m2_eq rfl rfl rfl) rfl rfl)) (mT_eq (m2_eq (call_eq rfl eCo) rfl rfl))) rfl) (seq_nx (if_false' (tnot_t rfl) rfl) (seq_nx rfl (seq_nx (for_eq eW eD) (ret_eq (m2_eq rfl (m1_eq rfl rfl) eQ))))))))))
end Mx
namespace Mx
open Dn Tx
open PySem (PyData NestedKey)
def isT : Option Sl → Bool
  | some (.dat (.bool true)) => true
  | _ => false
theorem isT_eq {o : Option Sl} (h : isT o = true) : o = some (.dat (.bool true)) := by
  unfold isT at h
  split at h
  · rfl
  · cases h
def testD (o : Option Sl) (d : PyData) : Bool := match o with
  | some (.dat d') => (toKey d').isSome && decide (toKey d' = toKey d)
  | _ => false
theorem testD_eq {o : Option Sl} {d : PyData} (h : testD o d = true) : o = some (.dat d) := by
  unfold testD at h
  split at h
  · rename_i d'
    rw [Bool.and_eq_true, decide_eq_true_eq] at h
    obtain ⟨k, ek⟩ := Option.isSome_iff_exists.mp h.1
    rw [toKey_data ek, toKey_data (h.2.symm.trans ek)]
  · cases h
def repOk (d : PyData) : Bool := d.canLay0 && d.showable && d.leavesShort 8 && decide (d.bulk ≤ 2 ^ 20) && decide (d.depth ≤ 16)
theorem repr_ok {xs : List PyData} (h : repOk (.list xs) = true) : ∃ z, reprD (.list xs) = some z ∧ neD z z = some (.bool false) := by
  unfold repOk at h
  simp only [Bool.and_eq_true, decide_eq_true_eq] at h
  obtain ⟨⟨⟨⟨h1, h2⟩, h3⟩, h4⟩, h5⟩ := h
  have hl := PySem.PyData.shown_fits_bulk (B := 8) (by omega) (by omega) h3 h4
  refine ⟨.str (PyData.shown (.list xs)), if_pos ⟨h1, h2, hl, h5⟩, ?_⟩
  show some (PyData.bool (!decide (PyData.shown (.list xs) = PyData.shown (.list xs)))) = _
  simp
def boxT (p : Nat × Nat) : Bool := testD (f_box [.int (p.1 : Int), .int (p.2 : Int)]) (csE (boxC p.1 p.2)) && testD (f_law_box [.int (p.1 : Int), .int (p.2 : Int)]) (csE (boxC p.1 p.2)) && isT (f_is_box [csE (boxC p.1 p.2)]) && testD (f_box_around [csE (boxC p.1 p.2)]) (.tuple [.int (p.1 : Int), .int (p.2 : Int)]) && repOk (.list [csE (boxC p.1 p.2), csE (boxC p.1 p.2)])
def shpT (p : Nat × Nat) : Bool := isT (f_is_shape_by [csE (boxC p.1 p.2)])
end Mx
namespace Mx
open Dn Tx
open PySem (PyData NestedKey)
theorem bs_1_1 : shpT (1, 1) = true := by decide +kernel
theorem bs_3_1 : shpT (3, 1) = true := by decide +kernel
theorem bs_2_2 : shpT (2, 2) = true := by decide +kernel
theorem bs_5_1 : shpT (5, 1) = true := by decide +kernel
theorem bs_3_2 : shpT (3, 2) = true := by decide +kernel
theorem bs_7_1 : shpT (7, 1) = true := by decide +kernel
theorem bs_4_2 : shpT (4, 2) = true := by decide +kernel
theorem bs_9_1 : shpT (9, 1) = true := by decide +kernel
theorem bs_10_1 : shpT (10, 1) = true := by decide +kernel
theorem bs_11_1 : shpT (11, 1) = true := by decide +kernel
theorem bs_2_6 : shpT (2, 6) = true := by decide +kernel
theorem bs_6_2 : shpT (6, 2) = true := by decide +kernel
theorem bs_1_13 : shpT (1, 13) = true := by decide +kernel
theorem bs_2_7 : shpT (2, 7) = true := by decide +kernel
theorem bs_5_3 : shpT (5, 3) = true := by decide +kernel
theorem bs_1_16 : shpT (1, 16) = true := by decide +kernel
theorem bs_8_2 : shpT (8, 2) = true := by decide +kernel
end Mx
namespace Mx
open Dn Tx
open PySem (PyData NestedKey)
theorem bt_1_1 : boxT (1, 1) = true := by decide +kernel
theorem bt_3_1 : boxT (3, 1) = true := by decide +kernel
theorem bt_2_2 : boxT (2, 2) = true := by decide +kernel
theorem bt_5_1 : boxT (5, 1) = true := by decide +kernel
theorem bt_3_2 : boxT (3, 2) = true := by decide +kernel
theorem bt_7_1 : boxT (7, 1) = true := by decide +kernel
theorem bt_4_2 : boxT (4, 2) = true := by decide +kernel
theorem bt_9_1 : boxT (9, 1) = true := by decide +kernel
theorem bt_10_1 : boxT (10, 1) = true := by decide +kernel
theorem bt_11_1 : boxT (11, 1) = true := by decide +kernel
theorem bt_2_6 : boxT (2, 6) = true := by decide +kernel
theorem bt_6_2 : boxT (6, 2) = true := by decide +kernel
theorem bt_1_13 : boxT (1, 13) = true := by decide +kernel
theorem bt_2_7 : boxT (2, 7) = true := by decide +kernel
theorem bt_5_3 : boxT (5, 3) = true := by decide +kernel
theorem bt_1_16 : boxT (1, 16) = true := by decide +kernel
theorem bt_8_2 : boxT (8, 2) = true := by decide +kernel
end Mx
namespace Mx
open Dn Tx
open PySem (PyData NestedKey)
theorem bs_1_2 : shpT (1, 2) = true := by decide +kernel
theorem bs_4_1 : shpT (4, 1) = true := by decide +kernel
theorem bs_1_6 : shpT (1, 6) = true := by decide +kernel
theorem bs_6_1 : shpT (6, 1) = true := by decide +kernel
theorem bs_1_8 : shpT (1, 8) = true := by decide +kernel
theorem bs_8_1 : shpT (8, 1) = true := by decide +kernel
theorem bs_1_9 : shpT (1, 9) = true := by decide +kernel
theorem bs_1_10 : shpT (1, 10) = true := by decide +kernel
theorem bs_2_5 : shpT (2, 5) = true := by decide +kernel
theorem bs_3_4 : shpT (3, 4) = true := by decide +kernel
theorem bs_12_1 : shpT (12, 1) = true := by decide +kernel
theorem bs_13_1 : shpT (13, 1) = true := by decide +kernel
theorem bs_7_2 : shpT (7, 2) = true := by decide +kernel
theorem bs_15_1 : shpT (15, 1) = true := by decide +kernel
theorem bs_2_8 : shpT (2, 8) = true := by decide +kernel
theorem bs_16_1 : shpT (16, 1) = true := by decide +kernel
end Mx
namespace Mx
open Dn Tx
open PySem (PyData NestedKey)
theorem bt_1_2 : boxT (1, 2) = true := by decide +kernel
theorem bt_4_1 : boxT (4, 1) = true := by decide +kernel
theorem bt_1_6 : boxT (1, 6) = true := by decide +kernel
theorem bt_6_1 : boxT (6, 1) = true := by decide +kernel
theorem bt_1_8 : boxT (1, 8) = true := by decide +kernel
theorem bt_8_1 : boxT (8, 1) = true := by decide +kernel
theorem bt_1_9 : boxT (1, 9) = true := by decide +kernel
theorem bt_1_10 : boxT (1, 10) = true := by decide +kernel
theorem bt_2_5 : boxT (2, 5) = true := by decide +kernel
theorem bt_3_4 : boxT (3, 4) = true := by decide +kernel
theorem bt_12_1 : boxT (12, 1) = true := by decide +kernel
theorem bt_13_1 : boxT (13, 1) = true := by decide +kernel
theorem bt_7_2 : boxT (7, 2) = true := by decide +kernel
theorem bt_15_1 : boxT (15, 1) = true := by decide +kernel
theorem bt_2_8 : boxT (2, 8) = true := by decide +kernel
theorem bt_16_1 : boxT (16, 1) = true := by decide +kernel
end Mx
namespace Mx
open Dn Tx
open PySem (PyData NestedKey)
theorem bs_2_1 : shpT (2, 1) = true := by decide +kernel
theorem bs_1_3 : shpT (1, 3) = true := by decide +kernel
theorem bs_1_4 : shpT (1, 4) = true := by decide +kernel
theorem bs_1_5 : shpT (1, 5) = true := by decide +kernel
theorem bs_2_3 : shpT (2, 3) = true := by decide +kernel
theorem bs_1_7 : shpT (1, 7) = true := by decide +kernel
theorem bs_2_4 : shpT (2, 4) = true := by decide +kernel
theorem bs_3_3 : shpT (3, 3) = true := by decide +kernel
theorem bs_5_2 : shpT (5, 2) = true := by decide +kernel
theorem bs_1_11 : shpT (1, 11) = true := by decide +kernel
theorem bs_1_12 : shpT (1, 12) = true := by decide +kernel
theorem bs_4_3 : shpT (4, 3) = true := by decide +kernel
theorem bs_1_14 : shpT (1, 14) = true := by decide +kernel
theorem bs_14_1 : shpT (14, 1) = true := by decide +kernel
theorem bs_1_15 : shpT (1, 15) = true := by decide +kernel
theorem bs_3_5 : shpT (3, 5) = true := by decide +kernel
theorem bs_4_4 : shpT (4, 4) = true := by decide +kernel
end Mx
namespace Mx
open Dn Tx
open PySem (PyData NestedKey)
theorem bt_2_1 : boxT (2, 1) = true := by decide +kernel
theorem bt_1_3 : boxT (1, 3) = true := by decide +kernel
theorem bt_1_4 : boxT (1, 4) = true := by decide +kernel
theorem bt_1_5 : boxT (1, 5) = true := by decide +kernel
theorem bt_2_3 : boxT (2, 3) = true := by decide +kernel
theorem bt_1_7 : boxT (1, 7) = true := by decide +kernel
theorem bt_2_4 : boxT (2, 4) = true := by decide +kernel
theorem bt_3_3 : boxT (3, 3) = true := by decide +kernel
theorem bt_5_2 : boxT (5, 2) = true := by decide +kernel
theorem bt_1_11 : boxT (1, 11) = true := by decide +kernel
theorem bt_1_12 : boxT (1, 12) = true := by decide +kernel
theorem bt_4_3 : boxT (4, 3) = true := by decide +kernel
theorem bt_1_14 : boxT (1, 14) = true := by decide +kernel
theorem bt_14_1 : boxT (14, 1) = true := by decide +kernel
theorem bt_1_15 : boxT (1, 15) = true := by decide +kernel
theorem bt_3_5 : boxT (3, 5) = true := by decide +kernel
theorem bt_4_4 : boxT (4, 4) = true := by decide +kernel
end Mx
namespace Mx
open Dn Tx
open PySem (PyData NestedKey)
theorem boxes_lit : boxes = [(1, 1), (1, 2), (1, 3), (1, 4), (1, 5), (1, 6), (1, 7), (1, 8), (1, 9), (1, 10), (1, 11), (1, 12), (1, 13), (1, 14), (1, 15), (1, 16), (2, 1), (2, 2), (2, 3), (2, 4), (2, 5), (2, 6), (2, 7), (2, 8), (3, 1), (3, 2), (3, 3), (3, 4), (3, 5), (4, 1), (4, 2), (4, 3), (4, 4), (5, 1), (5, 2), (5, 3), (6, 1), (6, 2), (7, 1), (7, 2), (8, 1), (8, 2), (9, 1), (10, 1), (11, 1), (12, 1), (13, 1), (14, 1), (15, 1), (16, 1)] := by decide +kernel
theorem boxes_shp : boxes.all shpT = true := by
  rw [boxes_lit]
  simp only [List.all_cons, List.all_nil, Bool.and_true, bs_1_1, bs_1_2, bs_1_3, bs_1_4, bs_1_5, bs_1_6, bs_1_7, bs_1_8, bs_1_9, bs_1_10, bs_1_11, bs_1_12, bs_1_13, bs_1_14, bs_1_15, bs_1_16, bs_2_1, bs_2_2, bs_2_3, bs_2_4, bs_2_5, bs_2_6, bs_2_7, bs_2_8, bs_3_1, bs_3_2, bs_3_3, bs_3_4, bs_3_5, bs_4_1, bs_4_2, bs_4_3, bs_4_4, bs_5_1, bs_5_2, bs_5_3, bs_6_1, bs_6_2, bs_7_1, bs_7_2, bs_8_1, bs_8_2, bs_9_1, bs_10_1, bs_11_1, bs_12_1, bs_13_1, bs_14_1, bs_15_1, bs_16_1]
theorem boxes_bt : boxes.all boxT = true := by
  rw [boxes_lit]
  simp only [List.all_cons, List.all_nil, Bool.and_true, bt_1_1, bt_1_2, bt_1_3, bt_1_4, bt_1_5, bt_1_6, bt_1_7, bt_1_8, bt_1_9, bt_1_10, bt_1_11, bt_1_12, bt_1_13, bt_1_14, bt_1_15, bt_1_16, bt_2_1, bt_2_2, bt_2_3, bt_2_4, bt_2_5, bt_2_6, bt_2_7, bt_2_8, bt_3_1, bt_3_2, bt_3_3, bt_3_4, bt_3_5, bt_4_1, bt_4_2, bt_4_3, bt_4_4, bt_5_1, bt_5_2, bt_5_3, bt_6_1, bt_6_2, bt_7_1, bt_7_2, bt_8_1, bt_8_2, bt_9_1, bt_10_1, bt_11_1, bt_12_1, bt_13_1, bt_14_1, bt_15_1, bt_16_1]
end Mx
namespace Mx
open Dn Tx
open PySem (PyData NestedKey)
theorem box_bnd : (boxes.all fun p => decide (1 ≤ p.1 ∧ p.1 ≤ 16 ∧ 1 ≤ p.2 ∧ p.2 ≤ 16)) = true := by decide +kernel
theorem bnd {p : Nat × Nat} (h : p ∈ boxes) : 1 ≤ p.1 ∧ p.1 ≤ 16 ∧ 1 ≤ p.2 ∧ p.2 ≤ 16 := of_decide_eq_true (List.all_eq_true.mp box_bnd p h)
structure BoxF (p : Nat × Nat) : Prop where
  box : f_box [.int (p.1 : Int), .int (p.2 : Int)] = some (.dat (csE (boxC p.1 p.2)))
  lbox : f_law_box [.int (p.1 : Int), .int (p.2 : Int)] = some (.dat (csE (boxC p.1 p.2)))
  isb : f_is_box [csE (boxC p.1 p.2)] = some (.dat (.bool true))
  around : f_box_around [csE (boxC p.1 p.2)] = some (.dat (.tuple [.int (p.1 : Int), .int (p.2 : Int)]))
  rep : ∃ z, reprD (.list [csE (boxC p.1 p.2), csE (boxC p.1 p.2)]) = some z ∧ neD z z = some (.bool false)
  shp : f_is_shape_by [csE (boxC p.1 p.2)] = some (.dat (.bool true))
theorem boxF {p : Nat × Nat} (h : p ∈ boxes) : BoxF p := by
  have h1 := List.all_eq_true.mp boxes_bt p h
  have h2 := List.all_eq_true.mp boxes_shp p h
  unfold boxT at h1
  simp only [Bool.and_eq_true] at h1
  obtain ⟨⟨⟨⟨a1, a2⟩, a3⟩, a4⟩, a5⟩ := h1
  exact ⟨testD_eq a1, testD_eq a2, isT_eq a3, testD_eq a4, repr_ok a5, isT_eq h2⟩
theorem mem_boxes {w h : Nat} (h1 : 1 ≤ w) (h2 : 1 ≤ h) (h3 : w * h ≤ 16) : (w, h) ∈ boxes := by
  have hw : w ≤ 16 := Nat.le_trans (Nat.le_mul_of_pos_right w h2) h3
  have hh : h ≤ 16 := Nat.le_trans (Nat.le_mul_of_pos_left h h1) h3
  unfold boxes
  rw [List.mem_flatMap]
  refine ⟨w, List.mem_range.mpr (by omega), List.mem_map.mpr ⟨h, List.mem_filter.mpr ⟨List.mem_range.mpr (by omega), ?_⟩, rfl⟩⟩
  simp [h1, h2, h3]
  try omega
theorem mem_small {o t : Nat} (h1 : 1 ≤ o ∧ o ≤ 4) (h2 : 1 ≤ t ∧ t ≤ 4) : (o, t) ∈ small ∧ (o, t) ∈ boxes := by
  have e1 : o = 1 ∨ o = 2 ∨ o = 3 ∨ o = 4 := by omega
  have e2 : t = 1 ∨ t = 2 ∨ t = 3 ∨ t = 4 := by omega
  rcases e1 with rfl | rfl | rfl | rfl <;> rcases e2 with rfl | rfl | rfl | rfl <;> exact ⟨by decide, mem_boxes (by decide) (by decide) (by decide)⟩
def PairOk (p q : Nat × Nat) : Prop := ∀ a b c : Int, PInv a b → ∃ a' b' c', f_law_pair_right (pE a b c) [.int (p.1 : Int), .int (p.2 : Int), .int (q.1 : Int), .int (q.2 : Int)] = some (.dat (.bool true), pE a' b' c') ∧ PInv a' b'
theorem pairT {p q : Nat × Nat} (hp : p ∈ boxes) (hq : q ∈ boxes) (hc : chk p.1 p.2 q.1 q.2 = true) : PairOk p q := fun a b c hi => by
  have b1 := bnd hp
  have b2 := bnd hq
  exact x_pair a b c p.1 p.2 q.1 q.2 hi hc (boxF hp).box (boxF hq).box (boxF hq).shp b1.2.1 b1.2.2.2 ⟨b2.1, b2.2.1⟩ ⟨b2.2.2.1, b2.2.2.2⟩
theorem pairS {p : Nat × Nat} (hp : p ∈ boxes) {o t : Nat} (h1 : 1 ≤ o ∧ o ≤ 4) (h2 : 1 ≤ t ∧ t ≤ 4) : PairOk p (o, t) := by
  obtain ⟨m1, m2⟩ := mem_small h1 h2
  exact pairT hp m2 (List.all_eq_true.mp (List.all_eq_true.mp chk_small p hp) (o, t) m1)
theorem pairW {p : Nat × Nat} (hp : p ∈ boxes) : PairOk p p := pairT hp hp (List.all_eq_true.mp chk_self p hp)
theorem callK_eq {f : FD} {g : List PyData → List PyData} {fr : M (List PyData)} {ρ ρ1 : Env} {ds : List PyData} {d : PyData} (h1 : fr ρ = some (ds, ρ1)) (h2 : f (g ds) = some (.dat d)) : mFz (mCallK f g fr) ρ = some (d, ρ1) := by
  unfold mFz mCallK; simp only [h1, h2]
theorem or_f {a b : M Bool} {ρ ρ1 : Env} {r : Option (Bool × Env)} (h1 : a ρ = some (false, ρ1)) (h2 : b ρ1 = r) : tOrM a b ρ = r := by
  unfold tOrM; simp only [h1, h2]
theorem neD_c (x : Ce) : neD (cE x) (cE x) = some (.bool false) := by
  show some (PyData.bool (!PyData.eqv (cE x) (cE x))) = _
  rw [eqv_c]; simp
def bodyL : MS := sIf (tNotM (mT (mFz (mCallI 0 f_law_pair_right (aCons (eVar 2) (aCons (eVar 3) (aCons (m2 addD (eC (.int 1)) (mFz (mCallI 0 f_law_draw (aCons (eC (.int 4)) aNil)))) (aCons (m2 addD (eC (.int 1)) (mFz (mCallI 0 f_law_draw (aCons (eC (.int 4)) aNil)))) aNil)))))))) (sRet (eC (.bool false))) sNil
theorem laps (s1 s4 : Sl) (p : Nat × Nat) (hp : p ∈ boxes) : ∀ (ds : List PyData) (a b c : Int) (s5 : Sl), PInv a b →
    ∃ a' b' c' t5, sLoop (tgN 5) bodyL ds [.own (pE a b c), s1, .dat (.int (p.1 : Int)), .dat (.int (p.2 : Int)), s4, s5] = some (.nx [.own (pE a' b' c'), s1, .dat (.int (p.1 : Int)), .dat (.int (p.2 : Int)), s4, t5]) ∧ PInv a' b'
  | [], a, b, c, s5, hi => ⟨a, b, c, s5, rfl, hi⟩
  | d :: ds, a, b, c, s5, hi => by
    obtain ⟨r1, a1, b1, c1, e1, i1, l1, u1⟩ := x_draw a b c 4 hi (by omega)
    obtain ⟨r2, a2, b2, c2, e2, i2, l2, u2⟩ := x_draw a1 b1 c1 4 i1 (by omega)
    obtain ⟨o, ho⟩ : ∃ o : Nat, (1 : Int) + r1 = (o : Int) := ⟨(1 + r1).toNat, by omega⟩
    obtain ⟨t, ht⟩ : ∃ t : Nat, (1 : Int) + r2 = (t : Int) := ⟨(1 + r2).toNat, by omega⟩
    obtain ⟨a3, b3, c3, e3, i3⟩ := pairS hp (o := o) (t := t) (by omega) (by omega) a2 b2 c2 i2
    obtain ⟨a4, b4, c4, t5, e4, i4⟩ := laps s1 s4 p hp ds a3 b3 c3 (.dat d) i3
    refine ⟨a4, b4, c4, t5, ?_, i4⟩
    have eT : tgN 5 d [.own (pE a b c), s1, .dat (.int (p.1 : Int)), .dat (.int (p.2 : Int)), s4, s5] = some [.own (pE a b c), s1, .dat (.int (p.1 : Int)), .dat (.int (p.2 : Int)), s4, .dat d] := rfl
    have eB : bodyL [.own (pE a b c), s1, .dat (.int (p.1 : Int)), .dat (.int (p.2 : Int)), s4, .dat d] = some (.nx [.own (pE a3 b3 c3), s1, .dat (.int (p.1 : Int)), .dat (.int (p.2 : Int)), s4, .dat d]) := by
      refine if_false' (tnot_t (callI_eq (os1 := pE a2 b2 c2) (aCons_eq rfl (aCons_eq rfl (aCons_eq (x := .int (o : Int)) (m2_eq rfl (callI_eq rfl e1) (by show some (PyData.int (1 + r1)) = _; rw [ho])) (aCons_eq (x := .int (t : Int)) (m2_eq rfl (callI_eq rfl e2) (by show some (PyData.int (1 + r2)) = _; rw [ht])) rfl)))) e3)) rfl
    rw [sLoop]
    simp only [eT, eB]
    exact e4
def bodyT : MS := sSeq (sSet 2 (mDat (m2 addD (eC (.int 1)) (mFz (mCallI 0 f_law_draw (aCons (eC (.int 16)) aNil)))))) (sSeq (sSet 3 (mDat (m2 addD (eC (.int 1)) (mFz (mCallI 0 f_law_draw (aCons (m2 fdivD (eC (.int 16)) (eVar 2)) aNil)))))) (sSeq (sSet 4 (mDat (mFz (mCall f_law_box (aCons (eVar 2) (aCons (eVar 3) aNil)))))) (sSeq (sIf (tOrM (mT (m2 neD (m1 reprD (mFz (mLst (aCons (mFz (mCall f_box (aCons (eVar 2) (aCons (eVar 3) aNil)))) (aCons (mFz (mCallK f_box swap2 (aCons (eVar 3) (aCons (eVar 2) aNil)))) aNil))))) (m1 reprD (mFz (mLst (aCons (eVar 4) (aCons (eVar 4) aNil))))))) (tOrM (mT (m2 isntD (mFz (mCall f_is_shape (aCons (eVar 4) aNil))) (eC (.bool true)))) (tOrM (mT (m2 isntD (mFz (mCall f_is_box (aCons (eVar 4) aNil))) (eC (.bool true)))) (mT (m2 neD (mFz (mCall f_box_around (aCons (eVar 4) aNil))) (mTup (aCons (eVar 2) (aCons (eVar 3) aNil)))))))) (sRet (eC (.bool false))) sNil) (sSeq (sFor (mRng1 (aCons (eC (.int 5)) aNil)) (tgN 5) bodyL) (sIf (tOrM (tNotM (mT (mFz (mCallI 0 f_law_pair_right (aCons (eVar 2) (aCons (eVar 3) (aCons (eC (.int 1)) (aCons (eC (.int 2)) aNil)))))))) (tOrM (tNotM (mT (mFz (mCallI 0 f_law_pair_right (aCons (eVar 2) (aCons (eVar 3) (aCons (eC (.int 2)) (aCons (eC (.int 1)) aNil)))))))) (tNotM (mT (mFz (mCallI 0 f_law_pair_right (aCons (eVar 2) (aCons (eVar 3) (aCons (eVar 2) (aCons (eVar 3) aNil)))))))))) (sRet (eC (.bool false))) sNil)))))
theorem turnT (a b c : Int) (s1 s2 s3 s4 s5 : Sl) (hi : PInv a b) : ∃ a' b' c' t2 t3 t4 t5, bodyT [.own (pE a b c), s1, s2, s3, s4, s5] = some (.nx [.own (pE a' b' c'), s1, t2, t3, t4, t5]) ∧ PInv a' b' := by
  obtain ⟨r1, a1, b1, c1, e1, i1, l1, u1⟩ := x_draw a b c 16 hi (by omega)
  obtain ⟨w, hw⟩ : ∃ w : Nat, (1 : Int) + r1 = (w : Int) := ⟨(1 + r1).toNat, by omega⟩
  have hw1 : 1 ≤ w ∧ w ≤ 16 := by omega
  have hm : 1 ≤ 16 / w ∧ 16 / w ≤ 16 := ⟨(Nat.le_div_iff_mul_le (by omega)).mpr (by omega), Nat.div_le_self _ _⟩
  obtain ⟨r2, a2, b2, c2, e2, i2, l2, u2⟩ := x_draw a1 b1 c1 ((16 / w : Nat) : Int) i1 (by omega)
  obtain ⟨h, hh⟩ : ∃ h : Nat, (1 : Int) + r2 = (h : Int) := ⟨(1 + r2).toNat, by omega⟩
  have hh1 : 1 ≤ h ∧ h ≤ 16 / w := by omega
  have hp : (w, h) ∈ boxes := mem_boxes hw1.1 hh1.1 (by
    have := (Nat.le_div_iff_mul_le (by omega : 0 < w)).mp hh1.2
    rw [Nat.mul_comm]; exact this)
  obtain ⟨B1, B2, B3, B4, ⟨z, B5, B6⟩, B7⟩ := boxF hp
  obtain ⟨a3, b3, c3, t5, e3, i3⟩ := laps s1 (.dat (csE (boxC w h))) (w, h) hp ((List.range 5).map nE) a2 b2 c2 s5 i2
  obtain ⟨a4, b4, c4, e4, i4⟩ := pairS hp (o := 1) (t := 2) (by omega) (by omega) a3 b3 c3 i3
  obtain ⟨a5, b5, c5, e5, i5⟩ := pairS hp (o := 2) (t := 1) (by omega) (by omega) a4 b4 c4 i4
  obtain ⟨a6, b6, c6, e6, i6⟩ := pairW hp a5 b5 c5 i5
  refine ⟨a6, b6, c6, .dat (.int (w : Int)), .dat (.int (h : Int)), .dat (csE (boxC w h)), t5, ?_, i6⟩
  have s2' : sSet 2 (mDat (m2 addD (eC (.int 1)) (mFz (mCallI 0 f_law_draw (aCons (eC (.int 16)) aNil))))) [.own (pE a b c), s1, s2, s3, s4, s5] = some (.nx [.own (pE a1 b1 c1), s1, .dat (.int (w : Int)), s3, s4, s5]) :=
    setd_eq (m2_eq (z := .int (w : Int)) rfl (callI_eq rfl e1) (by show some (PyData.int (1 + r1)) = _; rw [hw])) rfl
  have s3' : sSet 3 (mDat (m2 addD (eC (.int 1)) (mFz (mCallI 0 f_law_draw (aCons (m2 fdivD (eC (.int 16)) (eVar 2)) aNil))))) [.own (pE a1 b1 c1), s1, .dat (.int (w : Int)), s3, s4, s5] = some (.nx [.own (pE a2 b2 c2), s1, .dat (.int (w : Int)), .dat (.int (h : Int)), s4, s5]) :=
    setd_eq (m2_eq (z := .int (h : Int)) rfl (callI_eq (os1 := pE a1 b1 c1) (aCons_eq (x := .int ((16 / w : Nat) : Int)) (m2_eq (x := .int 16) (y := .int (w : Int)) rfl rfl ((fdiv_ok 16 (w : Int) (by omega) (by omega)).trans rfl)) rfl) e2) (by show some (PyData.int (1 + r2)) = _; rw [hh])) rfl
  have s4' : sSet 4 (mDat (mFz (mCall f_law_box (aCons (eVar 2) (aCons (eVar 3) aNil))))) [.own (pE a2 b2 c2), s1, .dat (.int (w : Int)), .dat (.int (h : Int)), s4, s5] = some (.nx [.own (pE a2 b2 c2), s1, .dat (.int (w : Int)), .dat (.int (h : Int)), .dat (csE (boxC w h)), s5]) := setd_eq (call_eq rfl B2) rfl
  have eShp : f_is_shape [csE (boxC w h)] = some (.dat (.bool true)) := run_rt (ρ := [.dat (csE (boxC w h))]) (ret_eq (call_eq rfl B7))
  have s6' : sIf (tOrM (mT (m2 neD (m1 reprD (mFz (mLst (aCons (mFz (mCall f_box (aCons (eVar 2) (aCons (eVar 3) aNil)))) (aCons (mFz (mCallK f_box swap2 (aCons (eVar 3) (aCons (eVar 2) aNil)))) aNil))))) (m1 reprD (mFz (mLst (aCons (eVar 4) (aCons (eVar 4) aNil))))))) (tOrM (mT (m2 isntD (mFz (mCall f_is_shape (aCons (eVar 4) aNil))) (eC (.bool true)))) (tOrM (mT (m2 isntD (mFz (mCall f_is_box (aCons (eVar 4) aNil))) (eC (.bool true)))) (mT (m2 neD (mFz (mCall f_box_around (aCons (eVar 4) aNil))) (mTup (aCons (eVar 2) (aCons (eVar 3) aNil)))))))) (sRet (eC (.bool false))) sNil [.own (pE a2 b2 c2), s1, .dat (.int (w : Int)), .dat (.int (h : Int)), .dat (csE (boxC w h)), s5] = some (.nx [.own (pE a2 b2 c2), s1, .dat (.int (w : Int)), .dat (.int (h : Int)), .dat (csE (boxC w h)), s5]) := by
    refine if_false' (or_f (mT_eq (m2_eq (m1_eq (fz_lst (aCons_eq (call_eq rfl B1) (aCons_eq (callK_eq rfl B1) rfl))) B5) (m1_eq (fz_lst (aCons_eq rfl (aCons_eq rfl rfl))) B5) B6)) (or_f (mT_eq (m2_eq (call_eq rfl eShp) rfl rfl)) (or_f (mT_eq (m2_eq (call_eq rfl B3) rfl rfl)) (mT_eq (m2_eq (call_eq rfl B4) rfl (neD_c ((w : Int), (h : Int)))))))) rfl
  have s7' : sFor (mRng1 (aCons (eC (.int 5)) aNil)) (tgN 5) bodyL [.own (pE a2 b2 c2), s1, .dat (.int (w : Int)), .dat (.int (h : Int)), .dat (csE (boxC w h)), s5] = some (.nx [.own (pE a3 b3 c3), s1, .dat (.int (w : Int)), .dat (.int (h : Int)), .dat (csE (boxC w h)), t5]) := for_eq (rng_eq (n := 5) rfl (by omega)) e3
  have s8' : sIf (tOrM (tNotM (mT (mFz (mCallI 0 f_law_pair_right (aCons (eVar 2) (aCons (eVar 3) (aCons (eC (.int 1)) (aCons (eC (.int 2)) aNil)))))))) (tOrM (tNotM (mT (mFz (mCallI 0 f_law_pair_right (aCons (eVar 2) (aCons (eVar 3) (aCons (eC (.int 2)) (aCons (eC (.int 1)) aNil)))))))) (tNotM (mT (mFz (mCallI 0 f_law_pair_right (aCons (eVar 2) (aCons (eVar 3) (aCons (eVar 2) (aCons (eVar 3) aNil)))))))))) (sRet (eC (.bool false))) sNil [.own (pE a3 b3 c3), s1, .dat (.int (w : Int)), .dat (.int (h : Int)), .dat (csE (boxC w h)), t5] = some (.nx [.own (pE a6 b6 c6), s1, .dat (.int (w : Int)), .dat (.int (h : Int)), .dat (csE (boxC w h)), t5]) :=
    if_false' (or_f (tnot_t (callI_eq rfl e4)) (or_f (tnot_t (callI_eq rfl e5)) (tnot_t (callI_eq rfl e6)))) rfl
  exact seq_nx s2' (seq_nx s3' (seq_nx s4' (seq_nx s6' (seq_nx s7' s8'))))
theorem turns : ∀ (ds : List PyData) (a b c : Int) (s1 s2 s3 s4 s5 : Sl), PInv a b → ∃ a' b' c' t1 t2 t3 t4 t5, sLoop (tgN 1) bodyT ds [.own (pE a b c), s1, s2, s3, s4, s5] = some (.nx [.own (pE a' b' c'), t1, t2, t3, t4, t5]) ∧ PInv a' b'
  | [], a, b, c, s1, s2, s3, s4, s5, hi => ⟨a, b, c, s1, s2, s3, s4, s5, rfl, hi⟩
  | d :: ds, a, b, c, s1, s2, s3, s4, s5, hi => by
    obtain ⟨a1, b1, c1, u2, u3, u4, u5, e1, i1⟩ := turnT a b c (.dat d) s2 s3 s4 s5 hi
    obtain ⟨a2, b2, c2, v1, v2, v3, v4, v5, e2, i2⟩ := turns ds a1 b1 c1 (.dat d) u2 u3 u4 u5 i1
    refine ⟨a2, b2, c2, v1, v2, v3, v4, v5, ?_, i2⟩
    have eT : tgN 1 d [.own (pE a b c), s1, s2, s3, s4, s5] = some [.own (pE a b c), .dat d, s2, s3, s4, s5] := rfl
    rw [sLoop]
    simp only [eT, e1]
    exact e2
theorem x_right (a b c : Int) (hi : PInv a b) : ∃ os', f_law_right (pE a b c) [] = some (.dat (.bool true), os') := by
  obtain ⟨a1, b1, c1, t1, t2, t3, t4, t5, e1, i1⟩ := turns ((List.range 6).map nE) a b c .un .un .un .un .un hi
  obtain ⟨a2, b2, c2, e2, i2⟩ := pairS (p := (4, 4)) (mem_boxes (by decide) (by decide) (by decide)) (o := 2) (t := 2) (by omega) (by omega) a1 b1 c1 i1
  obtain ⟨a3, b3, c3, e3, i3⟩ := pairS (p := (6, 2)) (mem_boxes (by decide) (by decide) (by decide)) (o := 3) (t := 2) (by omega) (by omega) a2 b2 c2 i2
  obtain ⟨a4, b4, c4, e4, i4⟩ := pairS (p := (4, 4)) (mem_boxes (by decide) (by decide) (by decide)) (o := 3) (t := 3) (by omega) (by omega) a3 b3 c3 i3
  refine ⟨pE a4 b4 c4, run_I (ρ := [t1, t2, t3, t4, t5]) (seq_nx (for_eq (rng_eq (n := 6) rfl (by omega)) e1) (ret_eq (d := .bool true) ?_))⟩
  have q2 : mFz (mCallI 0 f_law_pair_right (aCons (eC (.int 4)) (aCons (eC (.int 4)) (aCons (eC (.int 2)) (aCons (eC (.int 2)) aNil))))) [.own (pE a1 b1 c1), t1, t2, t3, t4, t5] = some (.bool true, [.own (pE a2 b2 c2), t1, t2, t3, t4, t5]) := callI_eq rfl e2
  have q3 : mFz (mCallI 0 f_law_pair_right (aCons (eC (.int 6)) (aCons (eC (.int 2)) (aCons (eC (.int 3)) (aCons (eC (.int 2)) aNil))))) [.own (pE a2 b2 c2), t1, t2, t3, t4, t5] = some (.bool true, [.own (pE a3 b3 c3), t1, t2, t3, t4, t5]) := callI_eq rfl e3
  have q4 : mFz (mCallI 0 f_law_pair_right (aCons (eC (.int 4)) (aCons (eC (.int 4)) (aCons (eC (.int 3)) (aCons (eC (.int 3)) aNil))))) [.own (pE a3 b3 c3), t1, t2, t3, t4, t5] = some (.bool true, [.own (pE a4 b4 c4), t1, t2, t3, t4, t5]) := callI_eq rfl e4
  unfold mAnd
  simp only [q2, q3, q4]
def bodyW : MS := sIf (tNotM (mT (mFz (mCallN f_law_right (mCallB 0 f_law_pool (aCons (eVar 1) aNil)))))) (sRet (eC (.bool false))) sNil
theorem walk (ns : List Int) : ∀ (xs : List Nat) (s1 : Sl), (∀ x ∈ xs, x ≤ 10) → ∃ t1, sLoop (tgN 1) bodyW (xs.map nE) [.bor (.list (ns.map PyData.int)), s1] = some (.nx [.bor (.list (ns.map PyData.int)), t1])
  | [], s1, _ => ⟨s1, rfl⟩
  | x :: xs, s1, hx => by
    obtain ⟨t1, e⟩ := walk ns xs (.dat (nE x)) fun y hy => hx y (List.mem_cons_of_mem _ hy)
    refine ⟨t1, ?_⟩
    obtain ⟨a, b, e1, hi⟩ := x_pool ns x (hx x List.mem_cons_self)
    obtain ⟨os', e2⟩ := x_right a b 0 hi
    have eT : tgN 1 (nE x) [.bor (.list (ns.map PyData.int)), s1] = some [.bor (.list (ns.map PyData.int)), .dat (nE x)] := rfl
    have eX : nE x = .int (x : Int) := by unfold nE; rw [Int.zero_add]
    have eN : mFz (mCallN f_law_right (mCallB 0 f_law_pool (aCons (eVar 1) aNil))) [.bor (.list (ns.map PyData.int)), .dat (nE x)] = some (.bool true, [.bor (.list (ns.map PyData.int)), .dat (nE x)]) := by
      have e3 : mCallB 0 f_law_pool (aCons (eVar 1) aNil) [.bor (.list (ns.map PyData.int)), .dat (nE x)] = some (.own (pE a b 0), [.bor (.list (ns.map PyData.int)), .dat (nE x)]) := by
        have e4 : mCallB 0 f_law_pool (aCons (eVar 1) aNil) [.bor (.list (ns.map PyData.int)), .dat (nE x)] = (match f_law_pool [.list (ns.map PyData.int), nE x] with
          | some s => some (s, [.bor (.list (ns.map PyData.int)), .dat (nE x)])
          | none => none) := rfl
        rw [e4]
        rw [eX, e1]
      unfold mFz mCallN
      simp only [e3, e2]
    have eB : bodyW [.bor (.list (ns.map PyData.int)), .dat (nE x)] = some (.nx [.bor (.list (ns.map PyData.int)), .dat (nE x)]) := if_false' (tnot_t eN) rfl
    rw [List.map_cons, sLoop]
    simp only [eT, eB]
    exact e
theorem x_law (ns : List Int) : f_law [.list (ns.map PyData.int)] = some (.dat (.bool true)) := by
  have eR : ∃ n : Nat, n ≤ 3 ∧ mRng1 (aCons (mA2 max2D (aCons (eC (.int 2)) (aCons (mA2 min2D (aCons (m1 lenD (eLoc 0)) (aCons (eC (.int 3)) aNil))) aNil))) aNil) [.bor (.list (ns.map PyData.int)), .un] = some ((List.range n).map nE, [.bor (.list (ns.map PyData.int)), .un]) := by
    obtain ⟨v, hv⟩ : ∃ v : Int, v = (if (3 : Int) < ((ns.map PyData.int).length : Int) then (3 : Int) else ((ns.map PyData.int).length : Int)) := ⟨_, rfl⟩
    obtain ⟨u, hu⟩ : ∃ u : Int, u = (if v > 2 then v else 2) := ⟨_, rfl⟩
    have hu2 : 0 ≤ u ∧ u ≤ 3 := by
      subst hu
      have : v ≤ 3 := by rw [hv]; split <;> omega
      split <;> omega
    obtain ⟨n, hn⟩ : ∃ n : Nat, u = (n : Int) := ⟨u.toNat, by omega⟩
    refine ⟨n, by omega, rng_eq (aCons_eq (a2_eq (x := .int 2) (y := .int v) (aCons_eq rfl (aCons_eq (a2_eq (x := .int ((ns.map PyData.int).length : Int)) (y := .int 3) rfl (by rw [hv]; rfl)) rfl)) (by show some (PyData.int (if v > 2 then v else 2)) = _; rw [← hu, hn])) rfl) (by omega)⟩
  obtain ⟨n, hn, eR⟩ := eR
  obtain ⟨t1, e⟩ := walk ns (List.range n) .un fun x hx => by have := List.mem_range.mp hx; omega
  exact run_B (ρ := [.bor (.list (ns.map PyData.int)), t1]) (seq_nx (for_eq eR e) (ret_eq rfl))
end Mx
namespace Hd
open PySem PySem.Spec PyProof.Rows L2
def d_is_whole : He.DefD := ⟨("is_whole", none), "is_whole", "is_whole", defArgs s_is_whole, defBody s_is_whole, defScope s_is_whole, [], []⟩
def d_is_between : He.DefD := ⟨("is_between", none), "is_between", "is_between", defArgs s_is_between, defBody s_is_between, defScope s_is_between, [], []⟩
def d_is_tuple_of : He.DefD := ⟨("is_tuple_of", none), "is_tuple_of", "is_tuple_of", defArgs s_is_tuple_of, defBody s_is_tuple_of, defScope s_is_tuple_of, [], []⟩
def d_are_between : He.DefD := ⟨("are_between", none), "are_between", "are_between", defArgs s_are_between, defBody s_are_between, defScope s_are_between, [], []⟩
def d_are_rising : He.DefD := ⟨("are_rising", none), "are_rising", "are_rising", defArgs s_are_rising, defBody s_are_rising, defScope s_are_rising, [], []⟩
def d_is_cell_by : He.DefD := ⟨("is_cell_by", none), "is_cell_by", "is_cell_by", defArgs s_is_cell_by, defBody s_is_cell_by, defScope s_is_cell_by, [], []⟩
def d_are_cells_by : He.DefD := ⟨("are_cells_by", none), "are_cells_by", "are_cells_by", defArgs s_are_cells_by, defBody s_are_cells_by, defScope s_are_cells_by, [], []⟩
def d_put_to : He.DefD := ⟨("put_to", none), "put_to", "put_to", defArgs s_put_to, defBody s_put_to, defScope s_put_to, [], []⟩
def d_between : He.DefD := ⟨("between", none), "between", "between", defArgs s_between, defBody s_between, defScope s_between, [], []⟩
def d_shifted_by : He.DefD := ⟨("shifted_by", none), "shifted_by", "shifted_by", defArgs s_shifted_by, defBody s_shifted_by, defScope s_shifted_by, [], []⟩
def d_least_x : He.DefD := ⟨("least_x", none), "least_x", "least_x", defArgs s_least_x, defBody s_least_x, defScope s_least_x, [], []⟩
def d_least_y : He.DefD := ⟨("least_y", none), "least_y", "least_y", defArgs s_least_y, defBody s_least_y, defScope s_least_y, [], []⟩
def d_beside : He.DefD := ⟨("beside", none), "beside", "beside", defArgs s_beside, defBody s_beside, defScope s_beside, [], []⟩
def d_part_with : He.DefD := ⟨("part_with", none), "part_with", "part_with", defArgs s_part_with, defBody s_part_with, defScope s_part_with, [], []⟩
def d_do_hang_together : He.DefD := ⟨("do_hang_together", none), "do_hang_together", "do_hang_together", defArgs s_do_hang_together, defBody s_do_hang_together, defScope s_do_hang_together, [], []⟩
def d_around : He.DefD := ⟨("around", none), "around", "around", defArgs s_around, defBody s_around, defScope s_around, [], []⟩
def d_holes_by : He.DefD := ⟨("holes_by", none), "holes_by", "holes_by", defArgs s_holes_by, defBody s_holes_by, defScope s_holes_by, [], []⟩
def d_do_touch_at_corner : He.DefD := ⟨("do_touch_at_corner", none), "do_touch_at_corner", "do_touch_at_corner", defArgs s_do_touch_at_corner, defBody s_do_touch_at_corner, defScope s_do_touch_at_corner, [], []⟩
def d_corners_by : He.DefD := ⟨("corners_by", none), "corners_by", "corners_by", defArgs s_corners_by, defBody s_corners_by, defScope s_corners_by, [], []⟩
def d_is_shape_by : He.DefD := ⟨("is_shape_by", none), "is_shape_by", "is_shape_by", defArgs s_is_shape_by, defBody s_is_shape_by, defScope s_is_shape_by, [], []⟩
def d_check_cells : He.DefD := ⟨("check_cells", none), "check_cells", "check_cells", defArgs s_check_cells, defBody s_check_cells, defScope s_check_cells, [], []⟩
def d_check_shape : He.DefD := ⟨("check_shape", none), "check_shape", "check_shape", defArgs s_check_shape, defBody s_check_shape, defScope s_check_shape, [], []⟩
def d_check_number : He.DefD := ⟨("check_number", none), "check_number", "check_number", defArgs s_check_number, defBody s_check_number, defScope s_check_number, [], []⟩
def d_taken_from : He.DefD := ⟨("taken_from", none), "taken_from", "taken_from", defArgs s_taken_from, defBody s_taken_from, defScope s_taken_from, [], []⟩
def d_filling_by : He.DefD := ⟨("filling_by", none), "filling_by", "filling_by", defArgs s_filling_by, defBody s_filling_by, defScope s_filling_by, [], []⟩
def d_filling_count_by : He.DefD := ⟨("filling_count_by", none), "filling_count_by", "filling_count_by", defArgs s_filling_count_by, defBody s_filling_count_by, defScope s_filling_count_by, [], []⟩
def d_box_by : He.DefD := ⟨("box_by", none), "box_by", "box_by", defArgs s_box_by, defBody s_box_by, defScope s_box_by, [], []⟩
def d_check_two : He.DefD := ⟨("check_two", none), "check_two", "check_two", defArgs s_check_two, defBody s_check_two, defScope s_check_two, [], []⟩
def d_filling : He.DefD := ⟨("filling", none), "filling", "filling", defArgs s_filling, defBody s_filling, defScope s_filling, [], []⟩
def d_filling_count : He.DefD := ⟨("filling_count", none), "filling_count", "filling_count", defArgs s_filling_count, defBody s_filling_count, defScope s_filling_count, [], []⟩
def d_box : He.DefD := ⟨("box", none), "box", "box", defArgs s_box, defBody s_box, defScope s_box, [], []⟩
def d_box_around_by : He.DefD := ⟨("box_around_by", none), "box_around_by", "box_around_by", defArgs s_box_around_by, defBody s_box_around_by, defScope s_box_around_by, [], []⟩
def d_is_box_by : He.DefD := ⟨("is_box_by", none), "is_box_by", "is_box_by", defArgs s_is_box_by, defBody s_is_box_by, defScope s_is_box_by, [], []⟩
def d_box_around : He.DefD := ⟨("box_around", none), "box_around", "box_around", defArgs s_box_around, defBody s_box_around, defScope s_box_around, [], []⟩
def d_is_box : He.DefD := ⟨("is_box", none), "is_box", "is_box", defArgs s_is_box, defBody s_is_box, defScope s_is_box, [], []⟩
def d_is_shape : He.DefD := ⟨("is_shape", none), "is_shape", "is_shape", defArgs s_is_shape, defBody s_is_shape, defScope s_is_shape, [], []⟩
def d_law_pool : He.DefD := ⟨("_law_pool", none), "_law_pool", "_law_pool", defArgs s_law_pool, defBody s_law_pool, defScope s_law_pool, [], []⟩
def d_law_draw : He.DefD := ⟨("_law_draw", none), "_law_draw", "_law_draw", defArgs s_law_draw, defBody s_law_draw, defScope s_law_draw, [], []⟩
def d_law_moved : He.DefD := ⟨("_law_moved", none), "_law_moved", "_law_moved", defArgs s_law_moved, defBody s_law_moved, defScope s_law_moved, [], []⟩
def d_law_box : He.DefD := ⟨("_law_box", none), "_law_box", "_law_box", defArgs s_law_box, defBody s_law_box, defScope s_law_box, [], []⟩
def d_law_fillings : He.DefD := ⟨("_law_fillings", none), "_law_fillings", "_law_fillings", defArgs s_law_fillings, defBody s_law_fillings, defScope s_law_fillings, [], []⟩
def d_law_pair_right : He.DefD := ⟨("_law_pair_right", none), "_law_pair_right", "_law_pair_right", defArgs s_law_pair_right, defBody s_law_pair_right, defScope s_law_pair_right, [], []⟩
def d_law_right : He.DefD := ⟨("_law_right", none), "_law_right", "_law_right", defArgs s_law_right, defBody s_law_right, defScope s_law_right, [], []⟩
def d_law : He.DefD := ⟨("law", none), "law", "law", defArgs s_law, defBody s_law, defScope s_law, [], []⟩
def fn : List He.DefD := [d_is_whole, d_is_between, d_is_tuple_of, d_are_between, d_are_rising, d_is_cell_by, d_are_cells_by, d_put_to, d_between, d_shifted_by, d_least_x, d_least_y, d_beside, d_part_with, d_do_hang_together, d_around, d_holes_by, d_do_touch_at_corner, d_corners_by, d_is_shape_by, d_check_cells, d_check_shape, d_check_number, d_taken_from, d_filling_by, d_filling_count_by, d_box_by, d_check_two, d_filling, d_filling_count, d_box, d_box_around_by, d_is_box_by, d_box_around, d_is_box, d_is_shape, d_law_pool, d_law_draw, d_law_moved, d_law_box, d_law_fillings, d_law_pair_right, d_law_right, d_law]
def fa : List He.Fa := [.glo "is_whole", .glo "is_between", .glo "is_tuple_of", .glo "are_between", .glo "are_rising", .glo "is_cell_by", .glo "are_cells_by", .glo "put_to", .glo "between", .glo "shifted_by", .glo "least_x", .glo "least_y", .glo "beside", .glo "part_with", .glo "do_hang_together", .glo "around", .glo "holes_by", .glo "do_touch_at_corner", .glo "corners_by", .glo "is_shape_by", .glo "check_cells", .glo "check_shape", .glo "check_number", .glo "taken_from", .glo "filling_by", .glo "filling_count_by", .glo "box_by", .glo "check_two", .glo "filling", .glo "filling_count", .glo "box", .glo "box_around_by", .glo "is_box_by", .glo "box_around", .glo "is_box", .glo "is_shape", .glo "_law_pool", .glo "_law_draw", .glo "_law_moved", .glo "_law_box", .glo "_law_fillings", .glo "_law_pair_right", .glo "_law_right", .glo "law", .free "abs", .free "all", .free "bool", .free "divmod", .free "enumerate", .free "int", .free "isinstance", .free "len", .free "max", .free "min", .free "range", .free "repr", .free "sorted", .free "tuple"]
def gs : List (Str × PyData) := [("MOST_CELLS", (.int (16))), ("MOST_LONG", (.int (16))), ("SIDES", (.tuple [(.tuple [(.int (1)), (.int (0))]), (.tuple [(.int (0)), (.int (1))]), (.tuple [(.int (-1)), (.int (0))]), (.tuple [(.int (0)), (.int (-1))])])), ("FARTHEST", (.int (99)))]
abbrev R : PySem.W.OpenRow := PySem.W.OpenLaw.row PySem.Challenge.rw_tileshifts_k77_whole_boxes_filled_by_box
abbrev hk : PySem.W.Hook := Dn.hookG 5 fa fn gs
def ob (s : PySem.W.SharedT) : Dn.AlG := Dn.obsG 5 fa fn gs (HandSHeadRun.getT s)
theorem ob_eq (s : PySem.W.SharedT) : ob s = hk.obs s.abs := Dn.obsG_eq (HandSHeadRun.getT_eq s)
def nm0 : List PySem.Str := ["is_whole", "is_between", "is_tuple_of", "are_between", "are_rising", "FARTHEST", "MOST_CELLS", "SIDES", "is_cell_by", "are_cells_by", "put_to", "between", "shifted_by", "least_x", "least_y", "beside", "part_with", "do_hang_together", "around", "holes_by", "do_touch_at_corner", "corners_by", "is_shape_by", "TileError", "NotCells", "NotAShape", "InvalidNumber", "TooMany", "check_cells", "check_shape"]
def nm1 : List PySem.Str := ["check_number", "taken_from", "filling_by", "filling_count_by", "box_by", "MOST_LONG", "check_two", "filling", "filling_count", "box", "box_around_by", "is_box_by", "box_around", "is_box", "is_shape", "_law_pool", "_law_draw", "_law_moved", "_law_box", "_law_fillings", "_law_pair_right", "_law_right"]
def names : List PySem.Str := nm0 ++ nm1
theorem run (w : World) : HandSHeadRun.RunEq R (PySem.W.view R.prog [62]) hk ob 4000 names w := by
  intro os
  kernel_rfl
end Hd
namespace Fx
open PySem PySem.W PySem.Spec PyProof.Rows L2 C8 Dn Hd Tx
variable {P : Program} {w : World} {K : PySem.W.Frag} {mg : Str → Option Value} {base : Heap}
theorem fnk_box (G : Gv P w K mg) {f : Addr} {fd : FuncData} (F : FunD K "box" "box" (defArgs s_box) (defBody s_box) (defScope s_box) [] [] f fd) (c_check_number : PF P w K mg base 3 "check_number" 3 f_check_number) (c_box_by : PF P w K mg base 1 "box_by" 2 f_box_by) : FnOk P w K mg base C8.CX0 4 f fd ["wide", "high"] (spP ⟨P, w, K⟩ 2 f_box) :=
  fn_pure F S_box rfl fun cdv A outer s H E hr =>
    (dss_cons (ds_expr (de_fz (se_call c_check_number hr (by decide) (da_cons (de_var 0) (da_cons de_int (da_cons (de_gl G.g_MOST_LONG) da_nil)))))) (dss_cons (ds_expr (de_fz (se_call c_check_number hr (by decide) (da_cons (de_var 1) (da_cons de_int (da_cons (de_gl G.g_MOST_LONG) da_nil)))))) (dss_cons (ds_if (dt_cm c_gt (de_mul (de_var 0) (de_var 1)) (de_gl G.g_MOST_CELLS) rfl) (dss_one ds_never) dss_nil) (dss_one (ds_ret (de_fz (se_call c_box_by hr (by decide) (da_cons (de_var 0) (da_cons (de_var 1) da_nil)))))))))
theorem fn_law (G : Gv P w K mg) {f : Addr} {fd : FuncData} (F : FunD K "law" "law" (defArgs s_law) (defBody s_law) (defScope s_law) [] [] f fd) (c_law_right : IG' P w K mg base 11 "_law_right" 0 f_law_right) (c_law_pool : BF P w K mg base 1 "_law_pool" 1 f_law_pool) : FnG P w K mg base C8.CX0 12 f fd ["script"] (spB ⟨P, w, K⟩ 0 f_law) :=
  fn_borG F S_law 0 rfl rfl fun cdv A outer s H E hg hr =>
    (dss_cons (ds_for rfl (di_rng1 (by rfl) G.b_range (da_cons (de_b2 (b_max2 rfl) (by rfl) G.b_max bt_max (da_cons de_int (da_cons (de_b2 (b_min2 rfl) (by rfl) G.b_min bt_min (da_cons (de_b1 b_len (by rfl) G.b_len bt_len (le_loc 0)) (da_cons de_int da_nil))) da_nil))) da_nil)) (dg_name 1 S_law.nd) (dss_one (ds_if (dt_not (dt_val (de_fz (se_callNG c_law_right hg hr (by decide) (se_callB 0 c_law_pool hr (by decide) (da_cons (de_var 1) da_nil)))))) (dss_one (ds_ret de_bl)) dss_nil)) PassesOwn.never) (dss_one (ds_ret de_bl)))
theorem facts {P : Program} {w : World} {K : PySem.W.Frag} {h : Heap} {mg : Str → Option Value} {f : Addr} (X : K.In h) (G : h.Ns mainGlobals mg) (hfa : mg ("law" : Str) = some (.ref f)) (c : He.SaysD fa fn K) (cg : gs.all (glB K) = true) :
    ∃ fd : FuncData, (∀ (s : Shared) (v : Value), BindsTo s fd ⟨[v], []⟩ [("script", v)]) ∧ ∀ base : Heap, K.In base → base.Ns mainGlobals mg → FnG P w K mg base C8.CX0 12 f fd ["script"] (spB ⟨P, w, K⟩ 0 f_law) := by
  have G0 : Gv P w K mg := ⟨He.free_ok X G (c.fact 44 (f := .free "abs") rfl), He.free_ok X G (c.fact 45 (f := .free "all") rfl), He.free_ok X G (c.fact 46 (f := .free "bool") rfl), He.free_ok X G (c.fact 47 (f := .free "divmod") rfl), He.free_ok X G (c.fact 48 (f := .free "enumerate") rfl), He.free_ok X G (c.fact 49 (f := .free "int") rfl), He.free_ok X G (c.fact 50 (f := .free "isinstance") rfl), He.free_ok X G (c.fact 51 (f := .free "len") rfl), He.free_ok X G (c.fact 52 (f := .free "max") rfl), He.free_ok X G (c.fact 53 (f := .free "min") rfl), He.free_ok X G (c.fact 54 (f := .free "range") rfl), He.free_ok X G (c.fact 55 (f := .free "repr") rfl), He.free_ok X G (c.fact 56 (f := .free "sorted") rfl), He.free_ok X G (c.fact 57 (f := .free "tuple") rfl), glB_ok X G (List.all_eq_true.mp cg ("MOST_CELLS", (.int (16))) (List.mem_of_getElem? (i := 0) rfl)), glB_ok X G (List.all_eq_true.mp cg ("MOST_LONG", (.int (16))) (List.mem_of_getElem? (i := 1) rfl)), glB_ok X G (List.all_eq_true.mp cg ("SIDES", (.tuple [(.tuple [(.int (1)), (.int (0))]), (.tuple [(.int (0)), (.int (1))]), (.tuple [(.int (-1)), (.int (0))]), (.tuple [(.int (0)), (.int (-1))])])) (List.mem_of_getElem? (i := 2) rfl)), glB_ok X G (List.all_eq_true.mp cg ("FARTHEST", (.int (99))) (List.mem_of_getElem? (i := 3) rfl))⟩
  obtain ⟨fd_is_whole, F_is_whole⟩ := c.def_ 0 (d := d_is_whole) rfl
  obtain ⟨fd_is_between, F_is_between⟩ := c.def_ 1 (d := d_is_between) rfl
  obtain ⟨fd_is_tuple_of, F_is_tuple_of⟩ := c.def_ 2 (d := d_is_tuple_of) rfl
  obtain ⟨fd_are_between, F_are_between⟩ := c.def_ 3 (d := d_are_between) rfl
  obtain ⟨fd_are_rising, F_are_rising⟩ := c.def_ 4 (d := d_are_rising) rfl
  obtain ⟨fd_is_cell_by, F_is_cell_by⟩ := c.def_ 5 (d := d_is_cell_by) rfl
  obtain ⟨fd_are_cells_by, F_are_cells_by⟩ := c.def_ 6 (d := d_are_cells_by) rfl
  obtain ⟨fd_put_to, F_put_to⟩ := c.def_ 7 (d := d_put_to) rfl
  obtain ⟨fd_between, F_between⟩ := c.def_ 8 (d := d_between) rfl
  obtain ⟨fd_shifted_by, F_shifted_by⟩ := c.def_ 9 (d := d_shifted_by) rfl
  obtain ⟨fd_least_x, F_least_x⟩ := c.def_ 10 (d := d_least_x) rfl
  obtain ⟨fd_least_y, F_least_y⟩ := c.def_ 11 (d := d_least_y) rfl
  obtain ⟨fd_beside, F_beside⟩ := c.def_ 12 (d := d_beside) rfl
  obtain ⟨fd_part_with, F_part_with⟩ := c.def_ 13 (d := d_part_with) rfl
  obtain ⟨fd_do_hang_together, F_do_hang_together⟩ := c.def_ 14 (d := d_do_hang_together) rfl
  obtain ⟨fd_around, F_around⟩ := c.def_ 15 (d := d_around) rfl
  obtain ⟨fd_holes_by, F_holes_by⟩ := c.def_ 16 (d := d_holes_by) rfl
  obtain ⟨fd_do_touch_at_corner, F_do_touch_at_corner⟩ := c.def_ 17 (d := d_do_touch_at_corner) rfl
  obtain ⟨fd_corners_by, F_corners_by⟩ := c.def_ 18 (d := d_corners_by) rfl
  obtain ⟨fd_is_shape_by, F_is_shape_by⟩ := c.def_ 19 (d := d_is_shape_by) rfl
  obtain ⟨fd_check_cells, F_check_cells⟩ := c.def_ 20 (d := d_check_cells) rfl
  obtain ⟨fd_check_shape, F_check_shape⟩ := c.def_ 21 (d := d_check_shape) rfl
  obtain ⟨fd_check_number, F_check_number⟩ := c.def_ 22 (d := d_check_number) rfl
  obtain ⟨fd_taken_from, F_taken_from⟩ := c.def_ 23 (d := d_taken_from) rfl
  obtain ⟨fd_filling_by, F_filling_by⟩ := c.def_ 24 (d := d_filling_by) rfl
  obtain ⟨fd_filling_count_by, F_filling_count_by⟩ := c.def_ 25 (d := d_filling_count_by) rfl
  obtain ⟨fd_box_by, F_box_by⟩ := c.def_ 26 (d := d_box_by) rfl
  obtain ⟨fd_check_two, F_check_two⟩ := c.def_ 27 (d := d_check_two) rfl
  obtain ⟨fd_filling, F_filling⟩ := c.def_ 28 (d := d_filling) rfl
  obtain ⟨fd_filling_count, F_filling_count⟩ := c.def_ 29 (d := d_filling_count) rfl
  obtain ⟨fd_box, F_box⟩ := c.def_ 30 (d := d_box) rfl
  obtain ⟨fd_box_around_by, F_box_around_by⟩ := c.def_ 31 (d := d_box_around_by) rfl
  obtain ⟨fd_is_box_by, F_is_box_by⟩ := c.def_ 32 (d := d_is_box_by) rfl
  obtain ⟨fd_box_around, F_box_around⟩ := c.def_ 33 (d := d_box_around) rfl
  obtain ⟨fd_is_box, F_is_box⟩ := c.def_ 34 (d := d_is_box) rfl
  obtain ⟨fd_is_shape, F_is_shape⟩ := c.def_ 35 (d := d_is_shape) rfl
  obtain ⟨fd_law_pool, F_law_pool⟩ := c.def_ 36 (d := d_law_pool) rfl
  obtain ⟨fd_law_draw, F_law_draw⟩ := c.def_ 37 (d := d_law_draw) rfl
  obtain ⟨fd_law_moved, F_law_moved⟩ := c.def_ 38 (d := d_law_moved) rfl
  obtain ⟨fd_law_box, F_law_box⟩ := c.def_ 39 (d := d_law_box) rfl
  obtain ⟨fd_law_fillings, F_law_fillings⟩ := c.def_ 40 (d := d_law_fillings) rfl
  obtain ⟨fd_law_pair_right, F_law_pair_right⟩ := c.def_ 41 (d := d_law_pair_right) rfl
  obtain ⟨fd_law_right, F_law_right⟩ := c.def_ 42 (d := d_law_right) rfl
  obtain ⟨fd_law, F_law⟩ := c.def_ 43 (d := d_law) rfl
  have e := hfa.symm.trans (He.glo_ok X G (c.fact 43 (f := .glo "law") rfl))
  cases e
  have b := FunD.bindsA (ps := ["script"]) F_law fun _ _ _ _ _ _ us hl => match us, hl with | [_], _ => rfl
  refine ⟨fd_law, fun s v => b s [v] rfl, fun base _ _ => ?_⟩
  have c_is_whole := ok_is_whole (w := w) (base := base) G0 F_is_whole (He.glo_ok X G (c.fact 0 (f := .glo "is_whole") rfl))
  have c_is_tuple_of := ok_is_tuple_of (w := w) (base := base) G0 F_is_tuple_of (He.glo_ok X G (c.fact 2 (f := .glo "is_tuple_of") rfl))
  have c_are_rising := ok_are_rising (w := w) (base := base) G0 F_are_rising (He.glo_ok X G (c.fact 4 (f := .glo "are_rising") rfl))
  have c_put_to := ok_put_to (w := w) (base := base) G0 F_put_to (He.glo_ok X G (c.fact 7 (f := .glo "put_to") rfl))
  have c_between := ok_between (w := w) (base := base) G0 F_between (He.glo_ok X G (c.fact 8 (f := .glo "between") rfl))
  have c_least_x := ok_least_x (w := w) (base := base) G0 F_least_x (He.glo_ok X G (c.fact 10 (f := .glo "least_x") rfl))
  have c_least_y := ok_least_y (w := w) (base := base) G0 F_least_y (He.glo_ok X G (c.fact 11 (f := .glo "least_y") rfl))
  have c_do_touch_at_corner := ok_do_touch_at_corner (w := w) (base := base) G0 F_do_touch_at_corner (He.glo_ok X G (c.fact 17 (f := .glo "do_touch_at_corner") rfl))
  have c_box_by := ok_box_by (w := w) (base := base) G0 F_box_by (He.glo_ok X G (c.fact 26 (f := .glo "box_by") rfl))
  have c_law_pool := ok_law_pool (w := w) (base := base) G0 F_law_pool (He.glo_ok X G (c.fact 36 (f := .glo "_law_pool") rfl))
  have c_law_draw := ok_law_draw (w := w) (base := base) G0 F_law_draw (He.glo_ok X G (c.fact 37 (f := .glo "_law_draw") rfl))
  have c_law_moved := ok_law_moved (w := w) (base := base) G0 F_law_moved (He.glo_ok X G (c.fact 38 (f := .glo "_law_moved") rfl))
  have c_law_box := ok_law_box (w := w) (base := base) G0 F_law_box (He.glo_ok X G (c.fact 39 (f := .glo "_law_box") rfl))
  have c_is_between := ok_is_between (w := w) (base := base) G0 F_is_between (He.glo_ok X G (c.fact 1 (f := .glo "is_between") rfl)) c_is_whole
  have c_shifted_by := ok_shifted_by (w := w) (base := base) G0 F_shifted_by (He.glo_ok X G (c.fact 9 (f := .glo "shifted_by") rfl)) c_put_to
  have c_beside := ok_beside (w := w) (base := base) G0 F_beside (He.glo_ok X G (c.fact 12 (f := .glo "beside") rfl)) c_put_to
  have c_around := ok_around (w := w) (base := base) G0 F_around (He.glo_ok X G (c.fact 15 (f := .glo "around") rfl)) c_least_x c_least_y
  have c_corners_by := ok_corners_by (w := w) (base := base) G0 F_corners_by (He.glo_ok X G (c.fact 18 (f := .glo "corners_by") rfl)) c_do_touch_at_corner
  have c_box_around_by := ok_box_around_by (w := w) (base := base) G0 F_box_around_by (He.glo_ok X G (c.fact 31 (f := .glo "box_around_by") rfl)) c_least_x c_least_y
  have c_law_fillings := ok_law_fillings (w := w) (base := base) G0 F_law_fillings (He.glo_ok X G (c.fact 40 (f := .glo "_law_fillings") rfl)) c_law_moved
  have c_are_between := ok_are_between (w := w) (base := base) G0 F_are_between (He.glo_ok X G (c.fact 3 (f := .glo "are_between") rfl)) c_is_tuple_of c_is_between
  have c_part_with := ok_part_with (w := w) (base := base) G0 F_part_with (He.glo_ok X G (c.fact 13 (f := .glo "part_with") rfl)) c_beside
  have c_check_number := ok_check_number (w := w) (base := base) G0 F_check_number (He.glo_ok X G (c.fact 22 (f := .glo "check_number") rfl)) c_is_between
  have c_taken_from := ok_taken_from (w := w) (base := base) G0 F_taken_from (He.glo_ok X G (c.fact 23 (f := .glo "taken_from") rfl)) c_between c_shifted_by
  have c_is_box_by := ok_is_box_by (w := w) (base := base) G0 F_is_box_by (He.glo_ok X G (c.fact 32 (f := .glo "is_box_by") rfl)) c_box_around_by
  have c_is_cell_by := ok_is_cell_by (w := w) (base := base) G0 F_is_cell_by (He.glo_ok X G (c.fact 5 (f := .glo "is_cell_by") rfl)) c_are_between
  have c_do_hang_together := ok_do_hang_together (w := w) (base := base) G0 F_do_hang_together (He.glo_ok X G (c.fact 14 (f := .glo "do_hang_together") rfl)) c_part_with
  have c_holes_by := ok_holes_by (w := w) (base := base) G0 F_holes_by (He.glo_ok X G (c.fact 16 (f := .glo "holes_by") rfl)) c_around c_part_with
  have c_filling_by := ok_filling_by (w := w) (base := base) G0 F_filling_by (He.glo_ok X G (c.fact 24 (f := .glo "filling_by") rfl)) c_taken_from c_shifted_by
  have c_box := ok_box (w := w) (base := base) G0 F_box (He.glo_ok X G (c.fact 30 (f := .glo "box") rfl)) c_check_number c_box_by
  have ck_box := calK_swap (sw := swap2) F_box (He.glo_ok X G (c.fact 30 (f := .glo "box") rfl)) (fnk_box (w := w) (base := base) G0 F_box c_check_number c_box_by) (fun _ _ => rfl) (fun _ _ _ _ _ _ _ _ => rfl)
  have c_are_cells_by := ok_are_cells_by (w := w) (base := base) G0 F_are_cells_by (He.glo_ok X G (c.fact 6 (f := .glo "are_cells_by") rfl)) c_is_cell_by c_are_rising
  have c_filling_count_by := ok_filling_count_by (w := w) (base := base) G0 F_filling_count_by (He.glo_ok X G (c.fact 25 (f := .glo "filling_count_by") rfl)) c_filling_by
  have c_is_shape_by := ok_is_shape_by (w := w) (base := base) G0 F_is_shape_by (He.glo_ok X G (c.fact 19 (f := .glo "is_shape_by") rfl)) c_are_cells_by c_do_hang_together c_holes_by c_corners_by
  have c_check_cells := ok_check_cells (w := w) (base := base) G0 F_check_cells (He.glo_ok X G (c.fact 20 (f := .glo "check_cells") rfl)) c_are_cells_by
  have c_check_shape := ok_check_shape (w := w) (base := base) G0 F_check_shape (He.glo_ok X G (c.fact 21 (f := .glo "check_shape") rfl)) c_is_shape_by
  have c_box_around := ok_box_around (w := w) (base := base) G0 F_box_around (He.glo_ok X G (c.fact 33 (f := .glo "box_around") rfl)) c_check_cells c_box_around_by
  have c_is_box := ok_is_box (w := w) (base := base) G0 F_is_box (He.glo_ok X G (c.fact 34 (f := .glo "is_box") rfl)) c_check_cells c_is_box_by
  have c_is_shape := ok_is_shape (w := w) (base := base) G0 F_is_shape (He.glo_ok X G (c.fact 35 (f := .glo "is_shape") rfl)) c_is_shape_by
  have c_check_two := ok_check_two (w := w) (base := base) G0 F_check_two (He.glo_ok X G (c.fact 27 (f := .glo "check_two") rfl)) c_check_cells c_check_shape
  have c_filling := ok_filling (w := w) (base := base) G0 F_filling (He.glo_ok X G (c.fact 28 (f := .glo "filling") rfl)) c_check_two c_filling_by
  have c_filling_count := ok_filling_count (w := w) (base := base) G0 F_filling_count (He.glo_ok X G (c.fact 29 (f := .glo "filling_count") rfl)) c_check_two c_filling_count_by
  have c_law_pair_right := ok_law_pair_right (w := w) (base := base) G0 F_law_pair_right (He.glo_ok X G (c.fact 41 (f := .glo "_law_pair_right") rfl)) c_law_draw c_law_moved c_box c_filling c_filling_count c_law_fillings
  have c_law_right := ok_law_right (w := w) (base := base) G0 F_law_right (He.glo_ok X G (c.fact 42 (f := .glo "_law_right") rfl)) c_law_draw c_law_box c_box c_is_shape c_is_box c_box_around c_law_pair_right ck_box
  exact fn_law G0 F_law c_law_right c_law_pool
theorem int_all {Γ : Wd} {H : Hp} : ∀ ns : List Int, DfA Γ H (ns.map V.int) (ns.map PyData.int)
  | [] => .nil
  | n :: ns => .cons (.int n) (int_all ns)
theorem sp_law {Γ : Wd} {H : Hp} {a : Addr} {ns : List Int} (hS : SqL Γ.K H a (ns.map V.int)) (hx : f_law [.list (ns.map PyData.int)] = some (.dat (.bool true))) : spB Γ 0 f_law [.ref a] H (fun v _ => v = .bl true) fun _ _ _ => False :=
  ⟨_, [], _, [], _, rfl, .lst hS (int_all ns), .nil, rfl, hx, fun v H' _ r => Df.bl_inv r⟩
end Fx
open PySem PySem.W PySem.Calls PyProof.Rows
theorem PySem.Challenge.cw_tileshifts_k77_whole_boxes_filled_by_box_holds : PySem.Challenge.rw_tileshifts_k77_whole_boxes_filled_by_box.Holds := by
  w_on; o_law
  refine HandSHeadRun.head_any (r := OpenLaw.row PySem.Challenge.rw_tileshifts_k77_whole_boxes_filled_by_box) (q := view (OpenLaw.row PySem.Challenge.rw_tileshifts_k77_whole_boxes_filled_by_box).prog [62]) (H := Hd.hk) (ob := Hd.ob) (M := 4000) (loose := Hd.names) (d := HandSHeadRun.topDef (OpenLaw.row PySem.Challenge.rw_tileshifts_k77_whole_boxes_filled_by_box).prog 62) (kwd := []) Hd.ob_eq
    (by kernel_rfl) (fun s => by kernel_rfl) Hd.run (by kernel_rfl) (by kernel_rfl) (by kernel_rfl) (by rfl) (by first | assumption | decide +kernel) (by decide +kernel) ⟨rfl, rfl, rfl, rfl, rfl, by decide +kernel⟩ ?hw ?hc
  case hw => w_witness2
  case hc =>
    refine Dn.walk_ofG (l := PySem.Challenge.rw_tileshifts_k77_whole_boxes_filled_by_box) (n := 63) (k := 12) (x := "script") (CX := C8.CX0) rfl (by decide) (by kernel_rfl) ⟨rfl, by decide, by decide⟩ ?F (fun _ _ _ _ z => z)
    intro w mg fa h Y G hmg0
    obtain ⟨K, KX, c, cg⟩ := Y
    have hmg : mg ("law" : PySem.Str) = some (.ref fa) := by
      have e : (HandSHeadRun.topDef (OpenLaw.row PySem.Challenge.rw_tileshifts_k77_whole_boxes_filled_by_box).prog 62).name = ("law" : PySem.Str) := by kernel_rfl
      rw [← e]
      exact hmg0
    obtain ⟨fd, hb, hF⟩ := Fx.facts (P := (PySem.Challenge.rw_tileshifts_k77_whole_boxes_filled_by_box).prog) (w := w) KX G hmg c cg
    exact ⟨K, fd, _, KX, hb, fun H a ns hl hO hS => Fx.sp_law hS (Mx.x_law ns), hF⟩
