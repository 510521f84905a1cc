import PyProof.Rows.All
import Wide.All
import OpenK.AllK
import Wide.FinOn
import KE.KStateDown
import Lean
import HandS.Base
import HandS.Call
import HandS.Ends
import HandS.More
import HandS.Words
import HandS.WordsExc
import HandS.Defaults
import HandS.Head0
import HandS.Head1
import HandS.Head2
import HandS.HeadEnd
import HandS.HeadHook1
import HandS.HeadHook2
import KE.KDictKeyed
import KE.KDictWalk
import KE.SortData
import HandS.ForMost
import HandS.ForExc
import HandS.Deep
import HandS.Flow
import HandS.Style
import HandS.TupAny
import HandS.IsInst
import KE.DataMinMax
import KE.KDictSum
import HandS.Text
import KE.GoesEnum
import KE.GoesMore
import HandS.Walk
import HandS.Comp
import KE.KDictDisplayH
import HandS.DictComp
import HandS.Sort
import HandS.WideBits
import KE.KDictCopyH
import PyProof.TupleOfSeq
import PyProof.ReprRoads
import HandS.RaiseMore
import HandS.Codes
import HandS.New
import HandS.Replace
import HandS.Exc
import HandS.ExcOwn
import HandS.ExcInit
import HandS.ExcField
import HandS.ExcIs
import HandS.ExcCtx
import HandS.ReplaceLit
import HandS.Star
import PyProof.StrBlock2
import KE.KDictPairs
import HandS.HotCalls
import PyProof.Rows.TupIter
import KE.KExcIs
import HandS.Lambda
import HandS.Property
import HandS.Zip
import HandS.HeadHook3
import PySem.Challenge.RW_tileshifts_k87_whole_console_lines_of_an
import PyProof.StrLawsIn
import KE.IntTextLaws
import HandS.ReplaceList
set_option Elab.async false
set_option linter.all false
set_option autoImplicit false
set_option maxRecDepth 1000000
set_option maxHeartbeats 0
namespace Dn
open PySem PySem.Spec PyProof.Rows L2

structure Wd where
  P : Program
  w : World
  K : PySem.W.Frag

abbrev Sg := L2.St
abbrev Ent := NestedKey × Addr × Value

/-- a dict with keys that are tuples of any depth -/
def dO (Γ : Wd) (a : Addr) (xs : List Ent) : HO := .ext fun h =>
  ∃ o es ep, h.get? a = some o ∧ o.ExactDict ∧ o.data = .dict es ep ∧ es.toList = xs.map (entryOfKey (nestedKind Γ.P Γ.w)) ∧ (xs.map (·.1)).Nodup ∧ (a == sysModules) = false ∧ xs.length ≤ sizeLine ∧ ∀ x ∈ xs, x.1.depth ≤ 8

/-- a list that is data: it never changes -/
def Fzl (H : Hp) (a : Addr) (xs : List V) : Prop := ∃ o, H a = some (.frz o (.lst xs))
def Fzd (Γ : Wd) (H : Hp) (a : Addr) (xs : List Ent) : Prop := ∃ o, H a = some (.frz o (dO Γ a xs))

mutual
inductive Df (Γ : Wd) (H : Hp) : V → PyData → Prop
  | non : Df Γ H .non .none
  | bl (b : Bool) : Df Γ H (.bl b) (.bool b)
  | int (i : Int) : Df Γ H (.int i) (.int i)
  | str (x : Str) : Df Γ H (.str x) (.str x)
  | lst {a : Addr} {xs : List V} {ds : List PyData} : Fzl H a xs → DfA Γ H xs ds → Df Γ H (.ref a) (.list ds)
  | tup {a : Addr} {xs : List V} {ds : List PyData} : SqT Γ.K H a xs → DfA Γ H xs ds → Df Γ H (.ref a) (.tuple ds)
  | dic {a : Addr} {xs : List Ent} {kvs : List (PyData × PyData)} : Fzd Γ H a xs → DfE Γ H xs kvs → Df Γ H (.ref a) (.dict kvs)
inductive DfA (Γ : Wd) (H : Hp) : List V → List PyData → Prop
  | nil : DfA Γ H [] []
  | cons {v : V} {vs : List V} {d : PyData} {ds : List PyData} : Df Γ H v d → DfA Γ H vs ds → DfA Γ H (v :: vs) (d :: ds)
inductive DfE (Γ : Wd) (H : Hp) : List Ent → List (PyData × PyData) → Prop
  | nil : DfE Γ H [] []
  | cons {k : NestedKey} {t : Addr} {u : Value} {v : V} {d : PyData} {xs : List Ent} {kvs : List (PyData × PyData)} :
      Df Γ H (.ref t) k.data → RelV v u → Df Γ H v d → DfE Γ H xs kvs → DfE Γ H ((k, t, u) :: xs) ((k.data, d) :: kvs)
end

/-- tuples and what is frozen stay -/
structure Grow (H H' : Hp) : Prop where
  tup : ∀ a xs, H a = some (.tup xs) → H' a = some (.tup xs)
  frz : ∀ a o u, H a = some (.frz o u) → H' a = some (.frz o u)
  rng : ∀ a lo hi, H a = some (.rng lo hi) → H' a = some (.rng lo hi)
theorem Grow.refl (H : Hp) : Grow H H := ⟨fun _ _ h => h, fun _ _ _ h => h, fun _ _ _ h => h⟩
theorem Grow.trans {H H1 H2 : Hp} (a : Grow H H1) (b : Grow H1 H2) : Grow H H2 := ⟨fun x xs h => b.tup x xs (a.tup x xs h), fun x o u h => b.frz x o u (a.frz x o u h), fun x o u h => b.rng x o u (a.rng x o u h)⟩
theorem Grow.same {H H' : Hp} (h : Same H H') : Grow H H' := ⟨fun a xs e => h a _ e, fun a o u e => h a _ e, fun a o u e => h a _ e⟩
theorem Grow.but {H : Hp} {a : Addr} {o : HO} (h : Mut (H a)) : Grow H (upd H a o) := by
  refine ⟨fun b xs e => ?_, fun b p u e => ?_, fun b p u e => ?_⟩ <;> rw [upd_ne (fun z => by subst z; rw [e] at h; exact h)] <;> exact e
theorem Grow.new {H : Hp} {a : Addr} {o : HO} (h : H a = none) : Grow H (upd H a o) := by
  refine ⟨fun b xs e => ?_, fun b p u e => ?_, fun b p u e => ?_⟩ <;> rw [upd_ne (fun z => by subst z; rw [h] at e; cases e)] <;> exact e
theorem Same.new {H : Hp} {a : Addr} {o : HO} (h : H a = none) : Same H (upd H a o) := fun b p e => by
  rw [upd_ne (fun z => by subst z; rw [h] at e; cases e)]; exact e

theorem Fzl.grow {H H' : Hp} {a : Addr} {xs : List V} (g : Grow H H') : Fzl H a xs → Fzl H' a xs
  | ⟨o, h⟩ => ⟨o, g.frz _ _ _ h⟩
theorem Fzl.sq {K : PySem.W.Frag} {H : Hp} {a : Addr} {xs : List V} : Fzl H a xs → SqL K H a xs
  | ⟨o, h⟩ => .inl (.inr ⟨o, h⟩)
theorem sqT_grow {K : PySem.W.Frag} {H H' : Hp} {a : Addr} {xs : List V} (g : Grow H H') : SqT K H a xs → SqT K H' a xs
  | .inl (.inl h) => .inl (.inl (g.tup _ _ h))
  | .inl (.inr ⟨o, h⟩) => .inl (.inr ⟨o, g.frz _ _ _ h⟩)
  | .inr h => .inr h

mutual
theorem Df.grow {Γ : Wd} {H H' : Hp} (g : Grow H H') : ∀ {d : PyData} {v : V}, Df Γ H v d → Df Γ H' v d
  | _, _, .non => .non
  | _, _, .bl b => .bl b
  | _, _, .int b => .int b
  | _, _, .str b => .str b
  | _, _, .lst h hs => .lst (h.grow g) (DfA.grow g hs)
  | _, _, .tup h hs => .tup (sqT_grow g h) (DfA.grow g hs)
  | _, _, .dic ⟨o, h⟩ hs => .dic ⟨o, g.frz _ _ _ h⟩ (DfE.grow g hs)
theorem DfA.grow {Γ : Wd} {H H' : Hp} (g : Grow H H') : ∀ {ds : List PyData} {vs : List V}, DfA Γ H vs ds → DfA Γ H' vs ds
  | _, _, .nil => .nil
  | _, _, .cons h hs => .cons (Df.grow g h) (DfA.grow g hs)
theorem DfE.grow {Γ : Wd} {H H' : Hp} (g : Grow H H') : ∀ {kvs : List (PyData × PyData)} {xs : List Ent}, DfE Γ H xs kvs → DfE Γ H' xs kvs
  | _, _, .nil => .nil
  | _, _, .cons h1 h2 h3 hs => .cons (Df.grow g h1) h2 (Df.grow g h3) (DfE.grow g hs)
end
theorem DfA.length {Γ : Wd} {H : Hp} : ∀ {vs : List V} {ds : List PyData}, DfA Γ H vs ds → vs.length = ds.length
  | _, _, .nil => rfl
  | _, _, .cons _ h => by simp [DfA.length h]
theorem DfA.append {Γ : Wd} {H : Hp} : ∀ {vs ws : List V} {ds es : List PyData}, DfA Γ H vs ds → DfA Γ H ws es → DfA Γ H (vs ++ ws) (ds ++ es)
  | _, _, _, _, .nil, h => h
  | _, _, _, _, .cons h1 h2, h => .cons h1 (DfA.append h2 h)
theorem DfA.get {Γ : Wd} {H : Hp} : ∀ {vs : List V} {ds : List PyData} {i : Nat} {d : PyData}, DfA Γ H vs ds → ds[i]? = some d → ∃ v, vs[i]? = some v ∧ Df Γ H v d
  | _, _, _, _, .nil, h => by simp at h
  | _, _, 0, _, .cons h1 _, h => by simp at h; subst h; exact ⟨_, rfl, h1⟩
  | _, _, i + 1, _, .cons _ h2, h => by
    obtain ⟨v, e, r⟩ := DfA.get (i := i) h2 (by simpa using h)
    exact ⟨v, by simpa using e, r⟩
theorem DfA.getV {Γ : Wd} {H : Hp} : ∀ {vs : List V} {ds : List PyData} {i : Nat} {v : V}, DfA Γ H vs ds → vs[i]? = some v → ∃ d, ds[i]? = some d ∧ Df Γ H v d
  | _, _, _, _, .nil, h => by simp at h
  | _, _, 0, _, .cons h1 _, h => by simp at h; subst h; exact ⟨_, rfl, h1⟩
  | _, _, i + 1, _, .cons _ h2, h => by
    obtain ⟨v, e, r⟩ := DfA.getV (i := i) h2 (by simpa using h)
    exact ⟨v, by simpa using e, r⟩
theorem DfA.take {Γ : Wd} {H : Hp} : ∀ (n : Nat) {vs : List V} {ds : List PyData}, DfA Γ H vs ds → DfA Γ H (vs.take n) (ds.take n)
  | 0, _, _, _ => by simp only [List.take_zero]; exact .nil
  | n + 1, _, _, .nil => .nil
  | n + 1, _, _, .cons h hs => .cons h (DfA.take n hs)
theorem DfA.drop {Γ : Wd} {H : Hp} : ∀ (n : Nat) {vs : List V} {ds : List PyData}, DfA Γ H vs ds → DfA Γ H (vs.drop n) (ds.drop n)
  | 0, _, _, h => h
  | n + 1, _, _, .nil => .nil
  | n + 1, _, _, .cons h hs => DfA.drop n hs
theorem DfE.length {Γ : Wd} {H : Hp} : ∀ {xs : List Ent} {kvs : List (PyData × PyData)}, DfE Γ H xs kvs → xs.length = kvs.length
  | _, _, .nil => rfl
  | _, _, .cons _ _ _ h => by simp [DfE.length h]

mutual
theorem Df.dp {Γ : Wd} {H : Hp} : ∀ {d : PyData} {v : V}, d.canLay0 = true → Df Γ H v d → Dp Γ.K H v d
  | _, _, _, .non => .non
  | _, _, _, .bl b => .bl b
  | _, _, _, .int b => .int b
  | _, _, _, .str b => .str b
  | _, _, c, .lst h hs => .lst h.sq (DfA.dp (by simpa [PyData.canLay0] using c) hs)
  | _, _, c, .tup h hs => .tup h (DfA.dp (by simpa [PyData.canLay0] using c) hs)
  | _, _, c, .dic h hs => by simp [PyData.canLay0] at c
theorem DfA.dp {Γ : Wd} {H : Hp} : ∀ {ds : List PyData} {vs : List V}, PyData.canLayAll0 ds = true → DfA Γ H vs ds → DpAll Γ.K H vs ds
  | _, _, _, .nil => .nil
  | _, _, c, .cons h hs => by
    rw [PyData.canLayAll0, Bool.and_eq_true] at c
    exact .cons (Df.dp c.1 h) (DfA.dp c.2 hs)
end

/-- obj C f d: an instance of C whose one field f is data; sel C f d: the same, at W.sf; con C D x f d: an instance at W.sf whose one field x is such an object, at W.sc; exc a d fs: the exception at a, its dict at d -/
inductive Sl where
  | un | dat (d : PyData) | own (ds : List PyData) | dic (kvs : List (PyData × PyData)) | bor (d : PyData) | rng (lo hi : Int)
  | obj (C : Addr) (f : Str) (d : PyData) | sel (C : Addr) (f : Str) (d : PyData) | con (C D : Addr) (x f : Str) (d : PyData) | exc (a : Addr) (d : Option Addr) (fs : List (Str × PyData))
inductive DfF (Γ : Wd) (H : Hp) : List (Str × V) → List (Str × PyData) → Prop
  | nil : DfF Γ H [] []
  | cons {k : Str} {v : V} {d : PyData} {vs : List (Str × V)} {ds : List (Str × PyData)} (a : Df Γ H v d) (b : DfF Γ H vs ds) : DfF Γ H ((k, v) :: vs) ((k, d) :: ds)
theorem DfF.grow {Γ : Wd} {H H' : Hp} (g : Grow H H') : ∀ {vs : List (Str × V)} {ds : List (Str × PyData)}, DfF Γ H vs ds → DfF Γ H' vs ds
  | _, _, .nil => .nil
  | _, _, .cons a b => .cons (a.grow g) (b.grow g)
theorem DfF.look {Γ : Wd} {H : Hp} {f : Str} {d : PyData} : ∀ {vs : List (Str × V)} {ds : List (Str × PyData)}, DfF Γ H vs ds → ds.lookup f = some d → ∃ v, vs.lookup f = some v ∧ Df Γ H v d
  | _, _, .nil, h => by cases h
  | (k, v) :: vs, (_, d') :: ds, .cons a b, h => by
    rw [List.lookup_cons] at h ⊢
    cases e : f == k with
    | true => rw [e] at h; cases h; exact ⟨v, rfl, a⟩
    | false => rw [e] at h; exact b.look h
abbrev Env := List Sl

/-- a value that is data at this moment (a list or a dict of one's own, too) -/
inductive Dl (Γ : Wd) (H : Hp) : V → PyData → Prop
  | of {v : V} {d : PyData} : Df Γ H v d → Dl Γ H v d
  | lst {a : Addr} {xs : List V} {ds : List PyData} : SqL Γ.K H a xs → DfA Γ H xs ds → Dl Γ H (.ref a) (.list ds)
  | dic {a : Addr} {xs : List Ent} {kvs : List (PyData × PyData)} : H a = some (dO Γ a xs) → DfE Γ H xs kvs → Dl Γ H (.ref a) (.dict kvs)
theorem Dl.same {Γ : Wd} {H H' : Hp} {v : V} {d : PyData} (g : Same H H') : Dl Γ H v d → Dl Γ H' v d
  | .of h => .of (h.grow (.same g))
  | .lst h hs => .lst (g.seq h) (hs.grow (.same g))
  | .dic h hs => .dic (g _ _ h) (hs.grow (.same g))

/-- the dict of an exception: none, or its fields -/
def XdOk (Γ : Wd) (H : Hp) (d : Option Addr) (fs : List (Str × PyData)) : Prop := (d = none ∧ fs = []) ∨ ∃ dd vs, d = some dd ∧ H dd = some (.xd vs) ∧ DfF Γ H vs fs
theorem XdOk.keep {Γ : Wd} {H H' : Hp} {d : Option Addr} {fs : List (Str × PyData)} (k : ∀ b vs, H b = some (.xd vs) → H' b = some (.xd vs)) (g : Grow H H') : XdOk Γ H d fs → XdOk Γ H' d fs
  | .inl h => .inl h
  | .inr ⟨dd, vs, e, h1, h2⟩ => .inr ⟨dd, vs, e, k _ _ h1, h2.grow g⟩
/-- what is to be kept; the address of a list that stands at the first slot -/
structure Wt where
  bo : Hp
  ex : Hp := fun _ => none
  anc : Option Addr := none
  sf : Option Addr := none
  sc : Option Addr := none
def Wt.kp (W : Wt) : Hp := fun a => match W.bo a with
  | some o => some o
  | none => W.ex a
theorem Wt.boKp (W : Wt) : Same W.bo W.kp := fun a o h => by simp [Wt.kp, h]

def SlOk (Γ : Wd) (W : Wt) (H : Hp) (o : Option (Option V)) : Sl → Prop
  | .un => True
  | .dat d => ∃ v, o = some (some v) ∧ Df Γ H v d
  | .own ds => ∃ a xs, o = some (some (.ref a)) ∧ W.kp a = none ∧ H a = some (.lst xs) ∧ DfA Γ H xs ds
  | .dic kvs => ∃ a xs, o = some (some (.ref a)) ∧ W.kp a = none ∧ H a = some (dO Γ a xs) ∧ DfE Γ H xs kvs
  | .bor d => ∃ v, o = some (some v) ∧ Dl Γ W.bo v d
  | .rng lo hi => ∃ a, o = some (some (.ref a)) ∧ H a = some (.rng lo hi)
  | .obj C f d => ∃ a dx v, o = some (some (.ref a)) ∧ W.kp a = none ∧ H a = some (.ins C dx [(f, v)]) ∧ Df Γ H v d
  | .sel C f d => ∃ a dx v, W.sf = some a ∧ o = some (some (.ref a)) ∧ W.kp a = none ∧ H a = some (.ins C dx [(f, v)]) ∧ Df Γ H v d
  | .con C D x f d => ∃ b a bx dx v, W.sf = some b ∧ W.sc = some a ∧ o = some (some (.ref b)) ∧ C ≠ D ∧ W.kp a = none ∧ H b = some (.ins C bx [(x, .ref a)]) ∧ H a = some (.ins D dx [(f, v)]) ∧ Df Γ H v d
  | .exc a d fs => o = some (some (.ref a)) ∧ XdOk Γ H d fs
def mutS : Option Sl → Prop
  | some (.own _) => True
  | some (.dic _) => True
  | _ => False

/-- lists and dicts of one's own -/
def MutL : Option HO → Prop
  | some (.lst _) => True
  | some (.ext _) => True
  | _ => False
theorem MutL.mut {o : Option HO} (h : MutL o) : Mut o := by
  cases o with
  | none => exact h.elim
  | some u => cases u <;> first | exact h.elim | trivial
def objS : Sl → Prop
  | .obj _ _ _ => True
  | .sel _ _ _ => True
  | .con _ _ _ _ _ => True
  | .exc _ _ _ => True
  | _ => False
theorem SlOk.steady {Γ : Wd} {W : Wt} {H H' : Hp} {o : Option (Option V)} (k : ∀ b u, ¬ MutL (some u) → H b = some u → H' b = some u) (g : Grow H H') : ∀ {s : Sl}, objS s → SlOk Γ W H o s → SlOk Γ W H' o s
  | .obj _ _ _, _, ⟨a, dx, v, e, w, h1, h3⟩ => ⟨a, dx, v, e, w, k _ _ (fun z => z) h1, h3.grow g⟩
  | .sel _ _ _, _, ⟨a, dx, v, e0, e, w, h1, h3⟩ => ⟨a, dx, v, e0, e, w, k _ _ (fun z => z) h1, h3.grow g⟩
  | .con _ _ _ _ _, _, ⟨b, a, bx, dx, v, ef, es, e, ne, w, h1, h2, h3⟩ => ⟨b, a, bx, dx, v, ef, es, e, ne, w, k _ _ (fun z => z) h1, k _ _ (fun z => z) h2, h3.grow g⟩
  | .exc _ _ _, _, ⟨e, h⟩ => ⟨e, h.keep (fun b vs q => k b _ (fun z => z) q) g⟩
theorem SlOk.wt {Γ : Wd} {W W' : Wt} {H : Hp} {o : Option (Option V)} (hsf : W'.sf = W.sf) (hsc : W'.sc = W.sc) (k : ∀ b C dx fs, H b = some (.ins C dx fs) → W.kp b = none → W'.kp b = none) : ∀ {s : Sl}, objS s → SlOk Γ W H o s → SlOk Γ W' H o s
  | .obj _ _ _, _, ⟨a, dx, v, e, w, h1, h3⟩ => ⟨a, dx, v, e, k _ _ _ _ h1 w, h1, h3⟩
  | .sel _ _ _, _, ⟨a, dx, v, e0, e, w, h1, h3⟩ => ⟨a, dx, v, hsf.trans e0, e, k _ _ _ _ h1 w, h1, h3⟩
  | .con _ _ _ _ _, _, ⟨b, a, bx, dx, v, ef, es, e, ne, w, h1, h2, h3⟩ => ⟨b, a, bx, dx, v, hsf.trans ef, hsc.trans es, e, ne, k _ _ _ _ h2 w, h1, h2, h3⟩
  | .exc _ _ _, _, h => h
theorem steady_ne {H H' : Hp} {a : Addr} (hm : MutL (H a)) (k : ∀ b o, b ≠ a → H b = some o → H' b = some o) : ∀ b u, ¬ MutL (some u) → H b = some u → H' b = some u := fun b u n e => k b u (fun z => by subst z; rw [e] at hm; exact n hm) e
theorem upd_steady {H : Hp} {a : Addr} {o : HO} (hm : MutL (H a)) : ∀ b u, ¬ MutL (some u) → H b = some u → upd H a o b = some u := steady_ne hm fun b u n e => by rw [upd_ne n]; exact e

structure RepS (Γ : Wd) (W : Wt) (σ : Sg) (H : Hp) (ρ : Env) : Prop where
  len : ρ.length = σ.length
  keep : Same W.kp H
  at_ : ∀ (i : Nat) (s : Sl), ρ[i]? = some s → SlOk Γ W H σ[i]? s
  sep : ∀ (i j : Nat) (a : Addr), i ≠ j → mutS ρ[i]? → mutS ρ[j]? → σ[i]? = some (some (.ref a)) → σ[j]? ≠ some (some (.ref a))
  anc : ∀ (a : Addr), W.anc = some a → σ[0]? = some (some (.ref a)) ∧ ∃ ds, ρ[0]? = some (.own ds)

section
variable {Γ : Wd} {W : Wt} {σ : Sg} {H H' : Hp} {ρ : Env}
theorem SlOk.same {o : Option (Option V)} {s : Sl} (g : Same H H') (h : SlOk Γ W H o s) : SlOk Γ W H' o s := by
  cases s with
  | un => trivial
  | dat d => obtain ⟨v, e, h⟩ := h; exact ⟨v, e, h.grow (.same g)⟩
  | own ds => obtain ⟨a, xs, e, w, h1, h2⟩ := h; exact ⟨a, xs, e, w, g _ _ h1, h2.grow (.same g)⟩
  | dic ds => obtain ⟨a, xs, e, w, h1, h2⟩ := h; exact ⟨a, xs, e, w, g _ _ h1, h2.grow (.same g)⟩
  | bor d => exact h
  | rng lo hi => obtain ⟨a, e, h⟩ := h; exact ⟨a, e, g _ _ h⟩
  | _ => exact SlOk.steady (fun b u _ e => g b u e) (.same g) trivial h
theorem RepS.keepB (R : RepS Γ W σ H ρ) : Same W.bo H := W.boKp.trans R.keep
theorem RepS.same (R : RepS Γ W σ H ρ) (g : Same H H') : RepS Γ W σ H' ρ :=
  ⟨R.len, R.keep.trans g, fun i s e => (R.at_ i s e).same g, R.sep, R.anc⟩
/-- an object at a is changed, that is no slot's but the slot k's -/
theorem RepS.upd_at {a : Addr} {o : HO} {k : Nat} {s : Sl} (R : RepS Γ W σ H ρ) (hm : mutS ρ[k]?) (ha : σ[k]? = some (some (.ref a))) (hs : mutS (some s)) (hs2 : (∃ ds, s = .own ds) ∨ ∃ kvs, ρ[k]? = some (.dic kvs)) (h : SlOk Γ W (upd H a o) σ[k]? s) : RepS Γ W σ (upd H a o) (ρ.set k s) := by
  have hW : W.kp a = none ∧ MutL (H a) := by
    cases e : ρ[k]? with
    | none => rw [e] at hm; exact hm.elim
    | some t =>
      have q := R.at_ k t e
      rw [e] at hm
      cases t with
      | own ds => obtain ⟨b, xs, e1, w, h1, _⟩ := q; rw [ha] at e1; cases e1; exact ⟨w, by rw [h1]; trivial⟩
      | dic ds => obtain ⟨b, xs, e1, w, h1, _⟩ := q; rw [ha] at e1; cases e1; exact ⟨w, by rw [h1]; trivial⟩
      | _ => exact hm.elim
  have hk : k < ρ.length := by
    cases e : ρ[k]? with
    | none => rw [e] at hm; exact hm.elim
    | some t => exact (List.getElem?_eq_some_iff.mp e).1
  have g : Grow H (upd H a o) := .but hW.2.mut
  have mut_set : ∀ j, mutS (ρ.set k s)[j]? → mutS ρ[j]? := fun j hj => by
    by_cases e : k = j
    · subst e; exact hm
    · rw [List.getElem?_set_ne e] at hj; exact hj
  refine ⟨by simpa using R.len, fun b u e => ?_, fun i t e => ?_, fun i j b hij hi hj => R.sep i j b hij (mut_set i hi) (mut_set j hj), fun b hb => ?_⟩
  · rw [upd_ne (fun z => by subst z; rw [hW.1] at e; cases e)]; exact R.keep b u e
  · by_cases ei : k = i
    · subst ei
      rw [List.getElem?_set_self hk] at e; cases e
      exact h
    · rw [List.getElem?_set_ne ei] at e
      have q := R.at_ i t e
      have ne : ∀ b, σ[i]? = some (some (.ref b)) → mutS (some t) → b ≠ a := fun b eb mb z => by
        subst z
        exact R.sep i k b (Ne.symm ei) (by rw [e]; exact mb) hm eb ha
      cases t with
      | un => trivial
      | dat d => obtain ⟨v, e1, h1⟩ := q; exact ⟨v, e1, h1.grow g⟩
      | own ds => obtain ⟨b, xs, e1, w, h1, h2⟩ := q; exact ⟨b, xs, e1, w, by rw [upd_ne (ne b e1 trivial)]; exact h1, h2.grow g⟩
      | dic ds => obtain ⟨b, xs, e1, w, h1, h2⟩ := q; exact ⟨b, xs, e1, w, by rw [upd_ne (ne b e1 trivial)]; exact h1, h2.grow g⟩
      | bor d => exact q
      | rng lo hi => obtain ⟨b, e1, h1⟩ := q; exact ⟨b, e1, g.rng _ _ _ h1⟩
      | _ => exact SlOk.steady (upd_steady hW.2) g trivial q
  · obtain ⟨h1, ds, h2⟩ := R.anc b hb
    refine ⟨h1, ?_⟩
    by_cases ek : k = 0
    · subst ek
      rw [List.getElem?_set_self hk]
      rcases hs2 with ⟨ds', e⟩ | ⟨kvs, e⟩
      · exact ⟨ds', by rw [e]⟩
      · rw [h2] at e; cases e
    · rw [List.getElem?_set_ne ek]; exact ⟨ds, h2⟩
end
end Dn
namespace Dn
open PySem PySem.Spec PyProof.Rows L2

abbrev wdX (X : Cx) : Wd := ⟨X.prog, X.w, X.K⟩
abbrev M (α : Type) := Env → Option (α × Env)

/-- a reading by a function -/
def rdE (Γ : Wd) (W : Wt) (f : M PyData) : TE := fun σ H Q => ∃ ρ d ρ', RepS Γ W σ H ρ ∧ f ρ = some (d, ρ') ∧
  ∀ v H', RepS Γ W σ H' ρ' → Df Γ H' v d → Grow H H' → Q v H'
def rdL (Γ : Wd) (W : Wt) (f : M PyData) : TE := fun σ H Q => ∃ ρ d ρ', RepS Γ W σ H ρ ∧ f ρ = some (d, ρ') ∧
  ∀ v H', RepS Γ W σ H' ρ' → Dl Γ H' v d → Grow H H' → Q v H'
def rdT (Γ : Wd) (W : Wt) (f : M Bool) : TT := fun σ H Q => ∃ ρ b ρ', RepS Γ W σ H ρ ∧ f ρ = some (b, ρ') ∧
  ∀ H', RepS Γ W σ H' ρ' → Grow H H' → Q b H'
/-- several values -/
def rdA (Γ : Wd) (W : Wt) (f : M (List PyData)) : TA := fun σ H Q => ∃ ρ ds ρ', RepS Γ W σ H ρ ∧ f ρ = some (ds, ρ') ∧
  ∀ vs H', RepS Γ W σ H' ρ' → DfA Γ H' vs ds → Grow H H' → Q vs H'

structure DE (X : Cx) (e : Expr) (f : M PyData) : Prop where
  pe : ∀ W, PE X e (rdE (wdX X) W f)
structure LE (X : Cx) (e : Expr) (f : M PyData) : Prop where
  pe : ∀ W, PE X e (rdL (wdX X) W f)
structure DT (X : Cx) (e : Expr) (f : M Bool) : Prop where
  pt : ∀ W, PT X e (rdT (wdX X) W f)
structure DW (X : Cx) (e : Expr) (f : M Bool) : Prop where
  pw : ∀ W, PW X e (rdT (wdX X) W f)
structure DA (X : Cx) (es : List Expr) (f : M (List PyData)) : Prop where
  pa : ∀ W, PA X es (rdA (wdX X) W f)

section
variable {X : Cx}
theorem _root_.L2.PE.imp {e : Expr} {t t' : TE} (h : PE X e t) (i : ∀ σ H Q, t' σ H Q → t σ H Q) : PE X e t' := ⟨fun pins s σ H Q I hq => h.run pins s σ H Q I (i _ _ _ hq)⟩
theorem _root_.L2.PT.imp {e : Expr} {t t' : TT} (h : PT X e t) (i : ∀ σ H Q, t' σ H Q → t σ H Q) : PT X e t' := ⟨fun pins s σ H Q I hq => h.run pins s σ H Q I (i _ _ _ hq)⟩
theorem _root_.L2.PW.imp {e : Expr} {t t' : TT} (h : PW X e t) (i : ∀ σ H Q, t' σ H Q → t σ H Q) : PW X e t' := ⟨fun wh pins s σ H Q I hq => h.run wh pins s σ H Q I (i _ _ _ hq)⟩
theorem _root_.L2.PA.imp {e : List Expr} {t t' : TA} (h : PA X e t) (i : ∀ σ H Q, t' σ H Q → t σ H Q) : PA X e t' := ⟨fun pos pins s σ H Q I hq => h.run pos pins s σ H Q I (i _ _ _ hq)⟩
end

def eVar (i : Nat) : M PyData := fun ρ => match ρ[i]? with
  | some (.dat d) => some (d, ρ)
  | _ => none
def eLoc (i : Nat) : M PyData := fun ρ => match ρ[i]? with
  | some (.dat d) => some (d, ρ)
  | some (.own ds) => some (.list ds, ρ)
  | some (.dic kvs) => some (.dict kvs, ρ)
  | some (.bor d) => some (d, ρ)
  | _ => none
def eC (d : PyData) : M PyData := fun ρ => some (d, ρ)

section
variable {X : Cx} {pos : Pos}
theorem de_var (i : Nat) {x : Str} (hN : X.N[i]? = some x := by rfl) (hv : Vis X.env.scope x := by first | exact Or.inl rfl | exact Or.inr (Or.inl rfl) | exact Or.inr (Or.inr rfl)) (hd : (x == ("__debug__" : Str)) = false := by decide)
    (hcd : (x == ("__classdict__" : Str)) = false := by decide) : DE X (.Name x pos) (eVar i) := by
  refine ⟨fun W => (pe_var (i := i) hN hv hd hcd).imp fun σ H Q ⟨ρ, d, ρ', R, e, k⟩ => ?_⟩
  unfold eVar at e
  split at e
  · rename_i d' h
    cases e
    obtain ⟨v, e1, h1⟩ := R.at_ i _ h
    exact ⟨v, e1, k v H R h1 (.refl H)⟩
  · cases e
theorem le_loc (i : Nat) {x : Str} (hN : X.N[i]? = some x := by rfl) (hv : Vis X.env.scope x := by first | exact Or.inl rfl | exact Or.inr (Or.inl rfl) | exact Or.inr (Or.inr rfl)) (hd : (x == ("__debug__" : Str)) = false := by decide)
    (hcd : (x == ("__classdict__" : Str)) = false := by decide) : LE X (.Name x pos) (eLoc i) := by
  refine ⟨fun W => (pe_var (i := i) hN hv hd hcd).imp fun σ H Q ⟨ρ, d, ρ', R, e, k⟩ => ?_⟩
  unfold eLoc at e
  split at e <;> first
    | (rename_i d' h
       cases e
       have q := R.at_ i _ h
       first
         | (obtain ⟨v, e1, h1⟩ := q; exact ⟨v, e1, k v H R (.of h1) (.refl H)⟩)
         | (obtain ⟨v, e1, h1⟩ := q; exact ⟨v, e1, k v H R (h1.same R.keepB) (.refl H)⟩)
         | (obtain ⟨a, xs, e1, w, h1, h2⟩ := q; exact ⟨.ref a, e1, k _ H R (.lst (.of h1) h2) (.refl H)⟩)
         | (obtain ⟨a, xs, e1, w, h1, h2⟩ := q; exact ⟨.ref a, e1, k _ H R (.dic h1 h2) (.refl H)⟩))
    | cases e
theorem LE.of {e : Expr} {f : M PyData} (h : DE X e f) : LE X e f := ⟨fun W => (h.pe W).imp fun σ H Q ⟨ρ, d, ρ', R, e, k⟩ => ⟨ρ, d, ρ', R, e, fun v H' R' D g => k v H' R' (.of D) g⟩⟩

/-- a constant: its value stands at once -/
theorem de_tC {e : Expr} {v : V} {d : PyData} (h : PE X e (tC v)) (hd : ∀ H, Df (wdX X) H v d) : DE X e (eC d) :=
  ⟨fun W => h.imp fun σ H Q ⟨ρ, d', ρ', R, e, k⟩ => by cases e; exact k v H R (hd H) (.refl H)⟩
theorem de_int {i : Int} {j : _} : DE X (.Constant (.int i) j pos) (eC (.int i)) := de_tC pe_int fun _ => .int i
theorem de_bl {b : Bool} {j : _} : DE X (.Constant (.bool b) j pos) (eC (.bool b)) := de_tC pe_bl fun _ => .bl b
theorem de_non {j : _} : DE X (.Constant .none j pos) (eC .none) := de_tC pe_non fun _ => .non
theorem de_str {x : Str} {j : _} : DE X (.Constant (.str x) j pos) (eC (.str x)) := de_tC pe_str fun _ => .str x
/-- a constant of the module -/
theorem de_glob {x : Str} {v : V} {u : Value} {d : PyData} (hg : Gl X x) (hm : X.mg x = some u) (r : RelV v u) (hd : ∀ H, Df (wdX X) H v d) (hdb : (x == ("__debug__" : Str)) = false := by decide) : DE X (.Name x pos) (eC d) :=
  de_tC (pe_glob hg hm r hdb) hd
end

def m1 (g : PyData → Option PyData) (f : M PyData) : M PyData := fun ρ => match f ρ with
  | some (x, ρ1) => (match g x with
    | some z => some (z, ρ1)
    | none => none)
  | none => none
def m2 (g : PyData → PyData → Option PyData) (fa fb : M PyData) : M PyData := fun ρ => match fa ρ with
  | some (x, ρ1) => (match fb ρ1 with
    | some (y, ρ2) => (match g x y with
      | some z => some (z, ρ2)
      | none => none)
    | none => none)
  | none => none
theorem m1_inv {g : PyData → Option PyData} {f : M PyData} {ρ ρ' : Env} {z : PyData} (h : m1 g f ρ = some (z, ρ')) : ∃ x, f ρ = some (x, ρ') ∧ g x = some z := by
  unfold m1 at h
  cases e1 : f ρ with
  | none => rw [e1] at h; cases h
  | some p =>
    obtain ⟨x, ρ1⟩ := p
    rw [e1] at h
    cases e2 : g x with
    | none => simp only [e2] at h; cases h
    | some z' => simp only [e2] at h; cases h; exact ⟨x, rfl, e2⟩
theorem m2_inv {g : PyData → PyData → Option PyData} {fa fb : M PyData} {ρ ρ' : Env} {z : PyData} (h : m2 g fa fb ρ = some (z, ρ')) : ∃ x ρ1 y, fa ρ = some (x, ρ1) ∧ fb ρ1 = some (y, ρ') ∧ g x y = some z := by
  unfold m2 at h
  cases e1 : fa ρ with
  | none => rw [e1] at h; cases h
  | some p =>
    obtain ⟨x, ρ1⟩ := p
    rw [e1] at h
    cases e2 : fb ρ1 with
    | none => simp only [e2] at h; cases h
    | some q =>
      obtain ⟨y, ρ2⟩ := q
      simp only [e2] at h
      cases e3 : g x y with
      | none => simp only [e3] at h; cases h
      | some z' => simp only [e3] at h; cases h; exact ⟨x, ρ1, y, rfl, e2, e3⟩

/-- what an operation by values must do -/
def Does2 (Γ : Wd) (r : R2) (g : PyData → PyData → Option PyData) : Prop := ∀ (x y : V) (d e z : PyData) (H : Hp) (Q : VK), Df Γ H x d → Df Γ H y e → g d e = some z → (∀ v H', Same H H' → Df Γ H' v z → Q v H') → r x y H Q
theorem tOp_imp {Γ : Wd} {W : Wt} {r : R2} {g : PyData → PyData → Option PyData} {fa fb : M PyData} (hr : Does2 Γ r g) (σ : Sg) (H : Hp) (Q : VK) (h : rdE Γ W (m2 g fa fb) σ H Q) : tOp r (rdE Γ W fa) (rdE Γ W fb) σ H Q := by
  obtain ⟨ρ, z, ρ', R, e, k⟩ := h
  obtain ⟨x, ρ1, y, e1, e2, e3⟩ := m2_inv e
  refine ⟨ρ, x, ρ1, R, e1, fun v H1 R1 D1 g1 => ⟨ρ1, y, ρ', R1, e2, fun u H2 R2 D2 g2 => ?_⟩⟩
  exact hr v u x y z H2 Q (D1.grow g2) D2 e3 fun v' H3 s3 D3 => k v' H3 (R2.same s3) D3 (g1.trans (g2.trans (.same s3)))
section
variable {X : Cx} {pos : Pos} {a b c : Expr} {fa fb fc : M PyData}
theorem de_op {op : Operator} {r : R2} {g : PyData → PyData → Option PyData} (ho : OpR X (binaryOp op) r) (hr : Does2 (wdX X) r g) (ha : DE X a fa) (hb : DE X b fb) : DE X (.BinOp a op b pos) (m2 g fa fb) :=
  ⟨fun W => (pe_op ho (ha.pe W) (hb.pe W)).imp (tOp_imp hr)⟩
theorem de_cmp {op : CmpOp} {r : R2} {g : PyData → PyData → Option PyData} (ho : OpR X (compareOp op) r) (hr : Does2 (wdX X) r g) (ha : DE X a fa) (hb : DE X b fb) (hm : behindInMarks op b = false) : DE X (.Compare a [op] [b] pos) (m2 g fa fb) :=
  ⟨fun W => (pe_cmpR ho (ha.pe W) (hb.pe W) hm).imp (tOp_imp hr)⟩
def Does1 (Γ : Wd) (r : V → Hp → VK → Prop) (g : PyData → Option PyData) : Prop := ∀ (x : V) (d z : PyData) (H : Hp) (Q : VK), Df Γ H x d → g d = some z → (∀ v H', Same H H' → Df Γ H' v z → Q v H') → r x H Q
theorem de_un {op : UnaryOp} {r : V → Hp → VK → Prop} {g : PyData → Option PyData} (ho : UnR X (unaryOp op) r) (hr : Does1 (wdX X) r g) (ha : DE X a fa) : DE X (.UnaryOp op a pos) (m1 g fa) := by
  refine ⟨fun W => (pe_un ho (ha.pe W)).imp fun σ H Q h => ?_⟩
  obtain ⟨ρ, z, ρ', R, e, k⟩ := h
  obtain ⟨x, e1, e2⟩ := m1_inv e
  exact ⟨ρ, x, ρ', R, e1, fun v H1 R1 D1 g1 => hr v x z H1 Q D1 e2 fun v' H3 s3 D3 => k v' H3 (R1.same s3) D3 (g1.trans (.same s3))⟩
end

def addD : PyData → PyData → Option PyData
  | .int i, .int j => some (.int (i + j))
  | .str x, .str y => if x.length + y.length ≤ sizeLine then some (.str (x ++ y)) else none
  | .tuple xs, .tuple ys => if xs.length + ys.length ≤ sizeLine then some (.tuple (xs ++ ys)) else none
  | .list xs, .list ys => if xs.length + ys.length ≤ sizeLine then some (.list (xs ++ ys)) else none
  | _, _ => none
def subD : PyData → PyData → Option PyData
  | .int i, .int j => some (.int (i - j))
  | _, _ => none
def mulD : PyData → PyData → Option PyData
  | .int i, .int j => if (-(2 ^ 64) < i ∧ i < 2 ^ 64) ∨ (-(2 ^ 64) < j ∧ j < 2 ^ 64) then some (.int (i * j)) else none
  | _, _ => none
def fdivD : PyData → PyData → Option PyData
  | .int i, .int j => if 0 < j ∧ j < 1073741824 then some (.int (i / j)) else if j ≠ 0 ∧ j.natAbs < 1073741824 then some (.int (i.fdiv j)) else none
  | _, _ => none
def modD : PyData → PyData → Option PyData
  | .int i, .int j => if 0 < j then some (.int (i % j)) else if j ≠ 0 then some (.int (i.fmod j)) else none
  | _, _ => none
def powD : PyData → PyData → Option PyData
  | .int i, .int j => if 0 ≤ j ∧ j ≤ 1000000 ∧ i.natAbs < 2 ^ 64 then some (.int (i ^ j.toNat)) else none
  | _, _ => none
def negD : PyData → Option PyData
  | .int i => some (.int (-i))
  | _ => none

/-- lists that are data: l + b -/
def rCatF : R2 := fun x y H Q => ∃ l b xs zs, x = .ref l ∧ y = .ref b ∧ Fzl H l xs ∧ Fzl H b zs ∧ xs.length + zs.length ≤ sizeLine ∧ ∀ p, H p = none → Q (.ref p) (upd H p (.lst (xs ++ zs)))
section
variable {X : Cx}
theorem op_catF : OpR X (binaryOp .Add) rCatF := by
  intro pins s σ H x y v u Q I rx ry h
  obtain ⟨l, b, xs, zs, rfl, rfl, ⟨o1, hH⟩, ⟨o2, hB⟩, hz, q⟩ := h
  cases rx
  cases ry
  obtain ⟨_, z, its, n, r, e⟩ := I.hok l _ hH
  obtain ⟨_, z2, its2, n2, r2, e2⟩ := I.hok b _ hB
  have hl := r.length
  have hl2 := r2.length
  refine PySem.P.add_list e e2 ?_ (by rw [List.size_toArray, List.size_toArray]; omega)
  have ea : its.toArray ++ its2.toArray = (its ++ its2).toArray := by simp
  rw [ea]
  exact ⟨.ref _, _, I.lnew (t' := s.toks) (r.append r2) (by rw [List.length_append]; omega), rfl, q _ I.fresh⟩
/-- a value whose list is new, frozen -/
def tFrz (te : TE) : TE := fun σ H Q => te σ H fun v H1 => ∃ a xs, v = .ref a ∧ H1 a = some (.lst xs) ∧ ∀ o, Q v (upd H1 a (.frz o (.lst xs)))
theorem pe_frz {e : Expr} {te : TE} (h : PE X e te) : PE X e (tFrz te) := by
  refine ⟨fun pins s σ H Q I hq => ?_⟩
  refine thn (h.run pins s σ H _ I hq) fun v s1 ⟨x, H1, I1, r1, a, xs, e1, h1, q1⟩ => ?_
  obtain ⟨od, I2⟩ := I1.lock h1 trivial
  exact ⟨x, _, I2, r1, q1 od⟩
theorem Does2.or {Γ : Wd} {r r' : R2} {g : PyData → PyData → Option PyData}
    (h : ∀ (x y : V) (d e z : PyData) (H : Hp) (Q : VK), Df Γ H x d → Df Γ H y e → g d e = some z → (∀ v H', Same H H' → Df Γ H' v z → Q v H') → r x y H Q ∨ r' x y H Q) : Does2 Γ (fun x y H Q => r x y H Q ∨ r' x y H Q) g := h
end
end Dn
namespace Dn
open PySem PySem.Spec PyProof.Rows L2

theorem Df.int_inv {Γ : Wd} {H : Hp} {v : V} {i : Int} (h : Df Γ H v (.int i)) : v = .int i := by cases h; rfl
theorem Df.str_inv {Γ : Wd} {H : Hp} {v : V} {i : Str} (h : Df Γ H v (.str i)) : v = .str i := by cases h; rfl
theorem Df.bl_inv {Γ : Wd} {H : Hp} {v : V} {i : Bool} (h : Df Γ H v (.bool i)) : v = .bl i := by cases h; rfl
theorem Df.non_inv {Γ : Wd} {H : Hp} {v : V} (h : Df Γ H v .none) : v = .non := by cases h; rfl
theorem Df.tup_inv {Γ : Wd} {H : Hp} {v : V} {ds : List PyData} (h : Df Γ H v (.tuple ds)) : ∃ a xs, v = .ref a ∧ SqT Γ.K H a xs ∧ DfA Γ H xs ds := by
  cases h with
  | tup h1 h2 => exact ⟨_, _, rfl, h1, h2⟩
theorem Df.lst_inv {Γ : Wd} {H : Hp} {v : V} {ds : List PyData} (h : Df Γ H v (.list ds)) : ∃ a xs, v = .ref a ∧ Fzl H a xs ∧ DfA Γ H xs ds := by
  cases h with
  | lst h1 h2 => exact ⟨_, _, rfl, h1, h2⟩
theorem DfA.ints {Γ : Wd} {H : Hp} : ∀ {ns : List Int} {vs : List V}, DfA Γ H vs (ns.map PyData.int) → vs = ns.map V.int
  | [], _, h => by cases h; rfl
  | n :: ns, _, h => by
    cases h with
    | cons h1 h2 => cases h1; rw [DfA.ints h2]; rfl
theorem DfA.bools {Γ : Wd} {H : Hp} : ∀ {ns : List Bool} {vs : List V}, DfA Γ H vs (ns.map PyData.bool) → vs = ns.map V.bl
  | [], _, h => by cases h; rfl
  | n :: ns, _, h => by
    cases h with
    | cons h1 h2 => cases h1; rw [DfA.bools h2]; rfl
theorem DfA.of_ints {Γ : Wd} {H : Hp} : ∀ {ns : List Int}, DfA Γ H (ns.map V.int) (ns.map PyData.int)
  | [] => .nil
  | n :: ns => .cons (.int n) (DfA.of_ints (ns := ns))
def intsOf : List PyData → Option (List Int)
  | [] => some []
  | .int i :: r => (intsOf r).map (i :: ·)
  | _ :: _ => none
theorem intsOf_eq : ∀ {ds : List PyData} {ns : List Int}, intsOf ds = some ns → ds = ns.map PyData.int
  | [], ns, h => by cases h; rfl
  | d :: r, ns, h => by
    cases d <;> first | (simp [intsOf] at h; done) | skip
    rename_i i
    simp only [intsOf, Option.map_eq_some_iff] at h
    obtain ⟨ms, h1, rfl⟩ := h
    rw [intsOf_eq h1]; rfl
theorem intsOf_map (ns : List Int) : intsOf (ns.map PyData.int) = some ns := by
  induction ns with
  | nil => rfl
  | cons n ns ih => simp [intsOf, ih]
def boolsOf : List PyData → Option (List Bool)
  | [] => some []
  | .bool i :: r => (boolsOf r).map (i :: ·)
  | _ :: _ => none
theorem boolsOf_eq : ∀ {ds : List PyData} {ns : List Bool}, boolsOf ds = some ns → ds = ns.map PyData.bool
  | [], ns, h => by cases h; rfl
  | d :: r, ns, h => by
    cases d <;> first | (simp [boolsOf] at h; done) | skip
    rename_i i
    simp only [boolsOf, Option.map_eq_some_iff] at h
    obtain ⟨ms, h1, rfl⟩ := h
    rw [boolsOf_eq h1]; rfl
theorem boolsOf_map (ns : List Bool) : boolsOf (ns.map PyData.bool) = some ns := by
  induction ns with
  | nil => rfl
  | cons n ns ih => simp [boolsOf, ih]

section
variable {X : Cx} {pos : Pos} {a b c : Expr} {fa fb fc : M PyData}
/-- a new frozen list as the result of an operation -/
theorem opFrz {f : Value → Value → Sem Value} {r : R2} (h : OpR X f r) : OpR X f (fun x y H Q => r x y H fun v H1 => ∃ a xs, v = .ref a ∧ H1 a = some (.lst xs) ∧ ∀ o, Q v (upd H1 a (.frz o (.lst xs)))) := by
  intro pins s σ H x y v u Q I rx ry hq
  refine thn (h pins s σ H x y v u _ I rx ry hq) fun w s1 ⟨z, H1, I1, r1, a, xs, e1, h1, q1⟩ => ?_
  obtain ⟨od, I2⟩ := I1.lock h1 trivial
  exact ⟨z, _, I2, r1, q1 od⟩
theorem callFrz {f : Value} {r : List V → Hp → VK → Prop} (h : CallR X f r) : CallR X f (fun x H Q => r x H fun v H1 => ∃ a xs, v = .ref a ∧ H1 a = some (.lst xs) ∧ ∀ o, Q v (upd H1 a (.frz o (.lst xs)))) := by
  intro pins s σ H xs us Q I rx hq
  refine thn (h pins s σ H xs us _ I rx hq) fun w s1 ⟨z, H1, I1, r1, a, xs, e1, h1, q1⟩ => ?_
  obtain ⟨od, I2⟩ := I1.lock h1 trivial
  exact ⟨z, _, I2, r1, q1 od⟩
theorem does_of {Γ : Wd} {g : Int → Int → Int} {G : PyData → PyData → Option PyData} {C : Int → Int → Prop} (hG : ∀ d e z, G d e = some z → ∃ i j, d = .int i ∧ e = .int j ∧ C i j ∧ z = .int (g i j)) : Does2 Γ (rI C fun i j => .int (g i j)) G := by
  intro x y d e z H Q hx hy hg k
  obtain ⟨i, j, rfl, rfl, hc, rfl⟩ := hG d e z hg
  exact ⟨i, j, hx.int_inv, hy.int_inv, hc, k _ H (fun _ _ h => h) (.int _)⟩

theorem de_add (ha : DE X a fa) (hb : DE X b fb) : DE X (.BinOp a .Add b pos) (m2 addD fa fb) := by
  refine de_op (op_add.or (op_add_str.or (op_catA.or (opFrz op_catF)))) ?_ ha hb
  intro x y d e z H Q hx hy hg k
  cases d <;> cases e <;> simp only [addD, Option.some.injEq, reduceCtorEq] at hg
  · subst hg; exact .inl ⟨_, _, hx.int_inv, hy.int_inv, k _ H (fun _ _ h => h) (.int _)⟩
  · split at hg
    · rename_i hl
      cases hg
      exact .inr (.inl ⟨_, _, hx.str_inv, hy.str_inv, hl, k _ H (fun _ _ h => h) (.str _)⟩)
    · cases hg
  · split at hg
    · rename_i hl
      cases hg
      obtain ⟨l, xs, rfl, h1, h2⟩ := hx.lst_inv
      obtain ⟨l', ys, rfl, h3, h4⟩ := hy.lst_inv
      refine .inr (.inr (.inr ⟨l, l', xs, ys, rfl, rfl, h1, h3, by rw [h2.length, h4.length]; exact hl, fun p hp => ⟨p, _, rfl, upd_same, fun o => ?_⟩⟩))
      rw [upd_upd]
      exact k _ _ (Same.new hp) (.lst ⟨o, upd_same⟩ ((h2.append h4).grow (.new hp)))
    · cases hg
  · split at hg
    · rename_i hl
      cases hg
      obtain ⟨l, xs, rfl, h1, h2⟩ := hx.tup_inv
      obtain ⟨l', ys, rfl, h3, h4⟩ := hy.tup_inv
      refine .inr (.inr (.inl ⟨l, l', xs, ys, rfl, rfl, h1, h3, by rw [h2.length, h4.length]; exact hl, fun e => ?_, fun e e2 => ?_, fun e e2 p hp => ?_⟩))
      · subst e; cases h2; exact k _ H (fun _ _ h => h) (by simpa using hy)
      · subst e2; cases h4; exact k _ H (fun _ _ h => h) (by simpa using hx)
      · exact k _ _ (Same.new hp) (.tup (.of upd_same) ((h2.append h4).grow (.new hp)))
    · cases hg
theorem de_sub (ha : DE X a fa) (hb : DE X b fb) : DE X (.BinOp a .Sub b pos) (m2 subD fa fb) := by
  refine de_op op_sub ?_ ha hb
  intro x y d e z H Q hx hy hg k
  cases d <;> cases e <;> simp only [subD, Option.some.injEq, reduceCtorEq] at hg
  subst hg; exact ⟨_, _, hx.int_inv, hy.int_inv, k _ H (fun _ _ h => h) (.int _)⟩
theorem de_mul (ha : DE X a fa) (hb : DE X b fb) : DE X (.BinOp a .Mult b pos) (m2 mulD fa fb) := by
  refine de_op op_mul ?_ ha hb
  intro x y d e z H Q hx hy hg k
  cases d <;> cases e <;> simp only [mulD, reduceCtorEq] at hg
  split at hg
  · rename_i hc
    cases hg; exact ⟨_, _, hx.int_inv, hy.int_inv, hc, k _ H (fun _ _ h => h) (.int _)⟩
  · cases hg
theorem de_fdiv (ha : DE X a fa) (hb : DE X b fb) : DE X (.BinOp a .FloorDiv b pos) (m2 fdivD fa fb) := by
  refine de_op (op_fdiv.or op_fdivN) ?_ ha hb
  intro x y d e z H Q hx hy hg k
  cases d <;> cases e <;> simp only [fdivD, reduceCtorEq] at hg
  split at hg
  · rename_i hc
    cases hg; exact .inl ⟨_, _, hx.int_inv, hy.int_inv, hc, k _ H (fun _ _ h => h) (.int _)⟩
  · split at hg
    · rename_i hc
      cases hg; exact .inr ⟨_, _, hx.int_inv, hy.int_inv, hc, k _ H (fun _ _ h => h) (.int _)⟩
    · cases hg
theorem de_mod (ha : DE X a fa) (hb : DE X b fb) : DE X (.BinOp a .Mod b pos) (m2 modD fa fb) := by
  refine de_op (op_mod.or op_modN) ?_ ha hb
  intro x y d e z H Q hx hy hg k
  cases d <;> cases e <;> simp only [modD, reduceCtorEq] at hg
  split at hg
  · rename_i hc
    cases hg; exact .inl ⟨_, _, hx.int_inv, hy.int_inv, hc, k _ H (fun _ _ h => h) (.int _)⟩
  · split at hg
    · rename_i hc
      cases hg; exact .inr ⟨_, _, hx.int_inv, hy.int_inv, hc, k _ H (fun _ _ h => h) (.int _)⟩
    · cases hg
theorem de_pow (ha : DE X a fa) (hb : DE X b fb) : DE X (.BinOp a .Pow b pos) (m2 powD fa fb) := by
  refine de_op op_pow ?_ ha hb
  intro x y d e z H Q hx hy hg k
  cases d <;> cases e <;> simp only [powD, reduceCtorEq] at hg
  split at hg
  · rename_i hc
    cases hg; exact ⟨_, _, hx.int_inv, hy.int_inv, hc, k _ H (fun _ _ h => h) (.int _)⟩
  · cases hg
theorem de_neg (ha : DE X a fa) : DE X (.UnaryOp .USub a pos) (m1 negD fa) := by
  refine de_un un_neg ?_ ha
  intro x d z H Q hx hg k
  cases d <;> simp only [negD, Option.some.injEq, reduceCtorEq] at hg
  subst hg
  exact ⟨_, hx.int_inv, k _ H (fun _ _ h => h) (.int _)⟩
end

def eqD (d e : PyData) : Option PyData := match d, e with
  | .str a, .str b => some (.bool (decide (a = b)))
  | d, e => if (SeqAt.shaped d && SeqAt.shaped e) = true then some (.bool (PyData.eqv d e)) else none
def neD (d e : PyData) : Option PyData := match d, e with
  | .str a, .str b => some (.bool (!decide (a = b)))
  | d, e => if (SeqAt.shaped d && SeqAt.shaped e) = true then some (.bool (!PyData.eqv d e)) else none
def isNone : PyData → Bool
  | .none => true
  | _ => false
def isD : PyData → PyData → Option PyData
  | d, .none => some (.bool (isNone d))
  | .bool a, .bool b => some (.bool (a == b))
  | _, _ => none
def isntD : PyData → PyData → Option PyData
  | d, .none => some (.bool (!isNone d))
  | .bool a, .bool b => some (.bool (!(a == b)))
  | _, _ => none
def ltD : PyData → PyData → Option PyData
  | .int i, .int j => some (.bool (decide (i < j)))
  | .tuple xs, .tuple ys => (match intsOf xs, intsOf ys with
    | some ns, some ms => some (.bool (HT.lexLt ns ms))
    | _, _ => none)
  | _, _ => none
def leD : PyData → PyData → Option PyData
  | .int i, .int j => some (.bool (decide (i ≤ j)))
  | _, _ => none
def gtD : PyData → PyData → Option PyData
  | .int i, .int j => some (.bool (decide (j < i)))
  | _, _ => none
def geD : PyData → PyData → Option PyData
  | .int i, .int j => some (.bool (decide (j ≤ i)))
  | _, _ => none
theorem Df.isNon {Γ : Wd} {H : Hp} {v : V} {d : PyData} (h : Df Γ H v d) : decide (v = .non) = isNone d := by
  cases h <;> simp [isNone]
section
variable {X : Cx} {Γ : Wd} {pos : Pos} {a b c : Expr} {fa fb fc : M PyData} {k : Nat}
abbrev rLt (K : PySem.W.Frag) : R2 := fun x y H Q => rI0 (fun i j => .bl (decide (i < j))) x y H Q ∨ rLtT K x y H Q
/-- room on the stack of the machine that runs Python -/
abbrev RmU (A : Around) : Prop := A.units + 200 < cLine
theorem op_ltA (hr : RmU X.A) : OpR X (compareOp .Lt) (rLt X.K) := op_lt.or (op_ltT (by have : X.A.units + 200 < cLine := hr; omega))
abbrev rEqS (K : PySem.W.Frag) : R2 := fun x y H Q => rEqD K x y H Q ∨ rEq x y H Q
abbrev rNeS (K : PySem.W.Frag) : R2 := fun x y H Q => rNeD K x y H Q ∨ rNe x y H Q
theorem decV_str {a b : Str} : decide (V.str a = V.str b) = decide (a = b) := decide_eq_decide.mpr ⟨fun h => by cases h; rfl, fun h => by rw [h]⟩
theorem eq_does {x y : V} {d e z : PyData} {H : Hp} {Q : VK} (hx : ∀ c : d.canLay0 = true, Dp Γ.K H x d) (hy : ∀ c : e.canLay0 = true, Dp Γ.K H y e) (sx : ∀ a, d = .str a → x = .str a) (sy : ∀ a, e = .str a → y = .str a) (hg : eqD d e = some z) (k : ∀ v, Df Γ H v z → Q v H) : rEqS Γ.K x y H Q := by
  unfold eqD at hg
  split at hg
  · rename_i a b
    cases hg
    rw [sx a rfl, sy b rfl]
    exact .inr ⟨rfl, by rw [decV_str]; exact k _ (.bl _)⟩
  · split at hg
    · rename_i hc
      cases hg
      rw [Bool.and_eq_true] at hc
      exact .inl ⟨d, e, hx (SeqAt.canLay_of_shaped hc.1), hy (SeqAt.canLay_of_shaped hc.2), hc.1, hc.2, k _ (.bl _)⟩
    · cases hg
theorem ne_does {x y : V} {d e z : PyData} {H : Hp} {Q : VK} (hx : ∀ c : d.canLay0 = true, Dp Γ.K H x d) (hy : ∀ c : e.canLay0 = true, Dp Γ.K H y e) (sx : ∀ a, d = .str a → x = .str a) (sy : ∀ a, e = .str a → y = .str a) (hg : neD d e = some z) (k : ∀ v, Df Γ H v z → Q v H) : rNeS Γ.K x y H Q := by
  unfold neD at hg
  split at hg
  · rename_i a b
    cases hg
    rw [sx a rfl, sy b rfl]
    exact .inr ⟨rfl, by rw [decV_str]; exact k _ (.bl _)⟩
  · split at hg
    · rename_i hc
      cases hg
      rw [Bool.and_eq_true] at hc
      exact .inl ⟨d, e, hx (SeqAt.canLay_of_shaped hc.1), hy (SeqAt.canLay_of_shaped hc.2), hc.1, hc.2, k _ (.bl _)⟩
    · cases hg
theorem does_eq : Does2 Γ (rEqS Γ.K) eqD := fun x y d e z H Q hx hy hg k => eq_does (fun c => hx.dp c) (fun c => hy.dp c) (fun a h => by subst h; exact hx.str_inv) (fun a h => by subst h; exact hy.str_inv) hg fun v hv => k v H (fun _ _ h => h) hv
theorem does_ne : Does2 Γ (rNeS Γ.K) neD := fun x y d e z H Q hx hy hg k => ne_does (fun c => hx.dp c) (fun c => hy.dp c) (fun a h => by subst h; exact hx.str_inv) (fun a h => by subst h; exact hy.str_inv) hg fun v hv => k v H (fun _ _ h => h) hv
theorem does_lt : Does2 Γ (rLt Γ.K) ltD := by
  intro x y d e z H Q hx hy hg k
  cases d <;> cases e <;> simp only [ltD, Option.some.injEq, reduceCtorEq] at hg
  · subst hg; exact .inl ⟨_, _, hx.int_inv, hy.int_inv, k _ H (fun _ _ h => h) (.bl _)⟩
  · split at hg
    · rename_i ns ms e1 e2
      cases hg
      rw [intsOf_eq e1] at hx
      rw [intsOf_eq e2] at hy
      obtain ⟨l, xs, rfl, h1, h2⟩ := hx.tup_inv
      obtain ⟨l', ys, rfl, h3, h4⟩ := hy.tup_inv
      rw [h2.ints] at h1
      rw [h4.ints] at h3
      exact .inr ⟨l, l', ns, ms, rfl, rfl, h1, h3, k _ H (fun _ _ h => h) (.bl _)⟩
    · cases hg
theorem does_le : Does2 Γ (rI0 fun i j => .bl (decide (i ≤ j))) leD := by
  intro x y d e z H Q hx hy hg k
  cases d <;> cases e <;> simp only [leD, Option.some.injEq, reduceCtorEq] at hg
  subst hg; exact ⟨_, _, hx.int_inv, hy.int_inv, k _ H (fun _ _ h => h) (.bl _)⟩
theorem does_gt : Does2 Γ (rI0 fun i j => .bl (decide (j < i))) gtD := by
  intro x y d e z H Q hx hy hg k
  cases d <;> cases e <;> simp only [gtD, Option.some.injEq, reduceCtorEq] at hg
  subst hg; exact ⟨_, _, hx.int_inv, hy.int_inv, k _ H (fun _ _ h => h) (.bl _)⟩
theorem does_ge : Does2 Γ (rI0 fun i j => .bl (decide (j ≤ i))) geD := by
  intro x y d e z H Q hx hy hg k
  cases d <;> cases e <;> simp only [geD, Option.some.injEq, reduceCtorEq] at hg
  subst hg; exact ⟨_, _, hx.int_inv, hy.int_inv, k _ H (fun _ _ h => h) (.bl _)⟩
abbrev rIs : R2 := fun x y H Q => (y = .non ∧ Q (.bl (decide (x = .non))) H) ∨ rIsB x y H Q
abbrev rIsnt : R2 := fun x y H Q => (y = .non ∧ Q (.bl (!decide (x = .non))) H) ∨ rNotB x y H Q
theorem op_isA : OpR X (compareOp .Is) rIs := op_isN.or op_isBl
theorem op_isntA : OpR X (compareOp .IsNot) rIsnt := op_notN.or op_notBl
theorem does_is : Does2 Γ rIs isD := by
  intro x y d e z H Q hx hy hg k
  cases e <;> simp only [isD, Option.some.injEq, reduceCtorEq] at hg
  · subst hg; exact .inl ⟨hy.non_inv, by rw [hx.isNon]; exact k _ H (fun _ _ h => h) (.bl _)⟩
  · cases d <;> simp only [isD, Option.some.injEq, reduceCtorEq] at hg
    subst hg
    refine .inr ⟨_, _, hx.bl_inv, hy.bl_inv, ?_⟩
    rw [← Bool.beq_eq_decide_eq]
    exact k _ H (fun _ _ h => h) (.bl _)
  all_goals (cases d <;> simp [isD] at hg)
theorem does_isnt : Does2 Γ rIsnt isntD := by
  intro x y d e z H Q hx hy hg k
  cases e <;> simp only [isntD, Option.some.injEq, reduceCtorEq] at hg
  · subst hg; exact .inl ⟨hy.non_inv, by rw [hx.isNon]; exact k _ H (fun _ _ h => h) (.bl _)⟩
  · cases d <;> simp only [isntD, Option.some.injEq, reduceCtorEq] at hg
    subst hg
    refine .inr ⟨_, _, hx.bl_inv, hy.bl_inv, ?_⟩
    rw [← Bool.beq_eq_decide_eq]
    exact k _ H (fun _ _ h => h) (.bl _)
  all_goals (cases d <;> simp [isntD] at hg)

/-- a comparison's rule, by the operator -/
structure CmpR (X : Cx) (op : CmpOp) (g : PyData → PyData → Option PyData) : Prop where
  ex : ∃ r : R2, OpR X (compareOp op) r ∧ Does2 (wdX X) r g
theorem c_eq (hr : RmU X.A) : CmpR X .Eq eqD := ⟨_, (op_eqD (by have : X.A.units + 200 < cLine := hr; omega)).or op_eq, does_eq⟩
theorem c_ne (hr : RmU X.A) : CmpR X .NotEq neD := ⟨_, (op_neD (by have : X.A.units + 200 < cLine := hr; omega)).or op_ne, does_ne⟩
theorem c_lt (hr : RmU X.A) : CmpR X .Lt ltD := ⟨_, op_ltA hr, does_lt⟩
theorem c_le : CmpR X .LtE leD := ⟨_, op_le, does_le⟩
theorem c_gt : CmpR X .Gt gtD := ⟨_, op_gt, does_gt⟩
theorem c_ge : CmpR X .GtE geD := ⟨_, op_ge, does_ge⟩
theorem c_is : CmpR X .Is isD := ⟨_, op_isA, does_is⟩
theorem c_isnt : CmpR X .IsNot isntD := ⟨_, op_isntA, does_isnt⟩

def mT (f : M PyData) : M Bool := fun ρ => match f ρ with
  | some (.bool b, ρ') => some (b, ρ')
  | _ => none
theorem mT_inv {f : M PyData} {ρ ρ' : Env} {b : Bool} (h : mT f ρ = some (b, ρ')) : f ρ = some (.bool b, ρ') := by
  unfold mT at h
  split at h
  · rename_i e; cases h; exact e
  · cases h
theorem de_cm {op : CmpOp} {g : PyData → PyData → Option PyData} (hc : CmpR X op g) (ha : DE X a fa) (hb : DE X b fb) (hm : behindInMarks op b = false) : DE X (.Compare a [op] [b] pos) (m2 g fa fb) := by
  obtain ⟨r, ho, hd⟩ := hc
  exact de_cmp ho hd ha hb hm
theorem dt_cm {op : CmpOp} {g : PyData → PyData → Option PyData} (hc : CmpR X op g) (ha : DE X a fa) (hb : DE X b fb) (hm : behindInMarks op b = false) : DT X (.Compare a [op] [b] pos) (mT (m2 g fa fb)) := by
  obtain ⟨r, ho, hd⟩ := hc
  refine ⟨fun W => (pt_cmpR ho (ha.pe W) (hb.pe W) hm).imp fun σ H Q ⟨ρ, t, ρ', R, e, q⟩ => ?_⟩
  refine tOp_imp hd σ H _ ⟨ρ, .bool t, ρ', R, mT_inv e, fun v H' R' D g => ?_⟩
  exact ⟨t, D.bl_inv, q H' R' g⟩
/-- a value that is a bool, as a test -/
theorem dt_val {e : Expr} {f : M PyData} (h : DE X e f) (he : ∀ whole, isTrue e X.env whole = (do let v ← whole; standAt e.pos; holding [v] (truthy v)) := by intro _; rfl) : DT X e (mT f) := by
  refine ⟨fun W => (pt_val (h.pe W) he).imp fun σ H Q ⟨ρ, t, ρ', R, e1, q⟩ => ?_⟩
  exact ⟨ρ, .bool t, ρ', R, mT_inv e1, fun v H' R' D g => ⟨t, D.bl_inv, q H' R' g⟩⟩
/-- a op1 b op2 c -/
def m3c (g g' : PyData → PyData → Option PyData) (fa fb fc : M PyData) : M PyData := fun ρ => match fa ρ with
  | some (x, ρ1) => (match fb ρ1 with
    | some (y, ρ2) => (match g x y with
      | some (.bool true) => (match fc ρ2 with
        | some (z, ρ3) => (match g' y z with
          | some w => some (w, ρ3)
          | none => none)
        | none => none)
      | some (.bool false) => some (.bool false, ρ2)
      | _ => none)
    | none => none)
  | none => none
theorem m3c_inv {g g' : PyData → PyData → Option PyData} {ρ ρ' : Env} {z : PyData} (h : m3c g g' fa fb fc ρ = some (z, ρ')) : ∃ x ρ1 y ρ2, fa ρ = some (x, ρ1) ∧ fb ρ1 = some (y, ρ2) ∧
    ((g x y = some (.bool false) ∧ z = .bool false ∧ ρ2 = ρ') ∨ (g x y = some (.bool true) ∧ ∃ t, fc ρ2 = some (t, ρ') ∧ g' y t = some z)) := by
  unfold m3c at h
  cases e1 : fa ρ with
  | none => rw [e1] at h; cases h
  | some p =>
    obtain ⟨x, ρ1⟩ := p
    rw [e1] at h
    cases e2 : fb ρ1 with
    | none => simp only [e2] at h; cases h
    | some q =>
      obtain ⟨y, ρ2⟩ := q
      simp only [e2] at h
      split at h
      · rename_i e3
        cases e4 : fc ρ2 with
        | none => simp only [e4] at h; cases h
        | some q =>
          obtain ⟨t, ρ3⟩ := q
          simp only [e4] at h
          cases e5 : g' y t with
          | none => simp only [e5] at h; cases h
          | some w => simp only [e5] at h; cases h; exact ⟨x, ρ1, y, ρ2, rfl, e2, .inr ⟨e3, t, e4, e5⟩⟩
      · rename_i e3
        cases h
        exact ⟨x, ρ1, y, _, rfl, e2, .inl ⟨e3, rfl, rfl⟩⟩
      · cases h
theorem chain_imp {W : Wt} {r r' : R2} {g g' : PyData → PyData → Option PyData} (hr : Does2 Γ r g) (hr' : Does2 Γ r' g') (σ : Sg) (H : Hp) (Q : VK) (h : rdE Γ W (m3c g g' fa fb fc) σ H Q) : tChain r r' (rdE Γ W fa) (rdE Γ W fb) (rdE Γ W fc) σ H Q := by
  obtain ⟨ρ, z, ρ', R, e, k⟩ := h
  obtain ⟨x, ρ1, y, ρ2, e1, e2, h3⟩ := m3c_inv e
  refine ⟨ρ, x, ρ1, R, e1, fun v H1 R1 D1 g1 => ⟨ρ1, y, ρ2, R1, e2, fun u H2 R2 D2 g2 => ?_⟩⟩
  rcases h3 with ⟨e3, rfl, rfl⟩ | ⟨e3, t, e4, e5⟩
  · refine hr v u x y _ H2 _ (D1.grow g2) D2 e3 fun v' H3 s3 D3 => ⟨false, D3.bl_inv, ?_⟩
    rw [if_neg Bool.false_ne_true]
    exact k _ H3 (R2.same s3) (.bl _) (g1.trans (g2.trans (.same s3)))
  · refine hr v u x y _ H2 _ (D1.grow g2) D2 e3 fun v' H3 s3 D3 => ⟨true, D3.bl_inv, ?_⟩
    rw [if_pos rfl]
    refine ⟨ρ2, t, ρ', R2.same s3, e4, fun w H4 R4 D4 g4 => ?_⟩
    exact hr' u w y t z H4 Q (D2.grow ((Grow.same s3).trans g4)) D4 e5 fun v' H5 s5 D5 => k v' H5 (R4.same s5) D5 (g1.trans (g2.trans ((Grow.same s3).trans (g4.trans (.same s5)))))
theorem de_chain {op op' : CmpOp} {g g' : PyData → PyData → Option PyData} (h : CmpR X op g) (h' : CmpR X op' g') (ha : DE X a fa) (hb : DE X b fb) (hc : DE X c fc) (hm : lastMarks [op, op'] [b, c] = false := by with_unfolding_all rfl) :
    DE X (.Compare a [op, op'] [b, c] pos) (m3c g g' fa fb fc) := by
  obtain ⟨r, ho, hd⟩ := h
  obtain ⟨r', ho', hd'⟩ := h'
  exact ⟨fun W => (pe_chain ho ho' (ha.pe W) (hb.pe W) (hc.pe W) hm).imp (chain_imp hd hd')⟩
theorem dt_chain {op op' : CmpOp} {g g' : PyData → PyData → Option PyData} (h : CmpR X op g) (h' : CmpR X op' g') (ha : DE X a fa) (hb : DE X b fb) (hc : DE X c fc) (hm : lastMarks [op, op'] [b, c] = false := by with_unfolding_all rfl) :
    DT X (.Compare a [op, op'] [b, c] pos) (mT (m3c g g' fa fb fc)) := by
  obtain ⟨r, ho, hd⟩ := h
  obtain ⟨r', ho', hd'⟩ := h'
  refine ⟨fun W => (pt_chain ho ho' (ha.pe W) (hb.pe W) (hc.pe W) hm).imp fun σ H Q ⟨ρ, t, ρ', R, e, q⟩ => ?_⟩
  refine chain_imp hd hd' σ H _ ⟨ρ, .bool t, ρ', R, mT_inv e, fun v H' R' D g => ?_⟩
  exact ⟨t, D.bl_inv, q H' R' g⟩
end
end Dn
namespace Dn
open PySem PySem.Spec PyProof.Rows L2

def mAnd (fa fb : M PyData) : M PyData := fun ρ => match fa ρ with
  | some (.bool true, ρ1) => fb ρ1
  | some (.bool false, ρ1) => some (.bool false, ρ1)
  | _ => none
def mOr (fa fb : M PyData) : M PyData := fun ρ => match fa ρ with
  | some (.bool false, ρ1) => fb ρ1
  | some (.bool true, ρ1) => some (.bool true, ρ1)
  | _ => none
def notD : PyData → Option PyData
  | .bool b => some (.bool (!b))
  | _ => none
def tAndM (fa fb : M Bool) : M Bool := fun ρ => match fa ρ with
  | some (true, ρ1) => fb ρ1
  | some (false, ρ1) => some (false, ρ1)
  | none => none
def tOrM (fa fb : M Bool) : M Bool := fun ρ => match fa ρ with
  | some (false, ρ1) => fb ρ1
  | some (true, ρ1) => some (true, ρ1)
  | none => none
def tNotM (fa : M Bool) : M Bool := fun ρ => match fa ρ with
  | some (b, ρ1) => some (!b, ρ1)
  | none => none
def mIf {α : Type} (c : M Bool) (fa fb : M α) : M α := fun ρ => match c ρ with
  | some (true, ρ1) => fa ρ1
  | some (false, ρ1) => fb ρ1
  | none => none
section
variable {X : Cx} {pos : Pos} {a b c : Expr} {rest : List Expr} {fa fb : M PyData} {ca cb : M Bool}
theorem de_one {op : BoolOp} (h : DE X a fa) : DE X (.BoolOp op [a] pos) fa := ⟨fun W => pe_one (h.pe W)⟩
theorem de_and (ha : DE X a fa) (hb : DE X (.BoolOp .And (b :: rest) pos) fb) : DE X (.BoolOp .And (a :: b :: rest) pos) (mAnd fa fb) := by
  refine ⟨fun W => (pe_and (ha.pe W) (hb.pe W)).imp fun σ H Q ⟨ρ, d, ρ', R, e, k⟩ => ?_⟩
  unfold mAnd at e
  split at e
  · rename_i ρ1 e1
    exact ⟨ρ, _, ρ1, R, e1, fun v H1 R1 D1 g1 => ⟨true, D1.bl_inv, iteT <| ⟨ρ1, d, ρ', R1, e, fun u H2 R2 D2 g2 => k u H2 R2 D2 (g1.trans g2)⟩⟩⟩
  · rename_i ρ1 e1
    cases e
    exact ⟨ρ, _, _, R, e1, fun v H1 R1 D1 g1 => ⟨false, D1.bl_inv, iteF <| k _ H1 R1 (.bl _) g1⟩⟩
  · cases e
theorem de_or (ha : DE X a fa) (hb : DE X (.BoolOp .Or (b :: rest) pos) fb) : DE X (.BoolOp .Or (a :: b :: rest) pos) (mOr fa fb) := by
  refine ⟨fun W => (pe_or (ha.pe W) (hb.pe W)).imp fun σ H Q ⟨ρ, d, ρ', R, e, k⟩ => ?_⟩
  unfold mOr at e
  split at e
  · rename_i ρ1 e1
    exact ⟨ρ, _, ρ1, R, e1, fun v H1 R1 D1 g1 => ⟨false, D1.bl_inv, iteF <| ⟨ρ1, d, ρ', R1, e, fun u H2 R2 D2 g2 => k u H2 R2 D2 (g1.trans g2)⟩⟩⟩
  · rename_i ρ1 e1
    cases e
    exact ⟨ρ, _, _, R, e1, fun v H1 R1 D1 g1 => ⟨true, D1.bl_inv, iteT <| k _ H1 R1 (.bl _) g1⟩⟩
  · cases e
theorem de_not (ha : DE X a fa) : DE X (.UnaryOp .Not a pos) (m1 notD fa) := by
  refine ⟨fun W => (pe_not (ha.pe W)).imp fun σ H Q ⟨ρ, d, ρ', R, e, k⟩ => ?_⟩
  obtain ⟨x, e1, e2⟩ := m1_inv e
  cases x <;> simp only [notD, Option.some.injEq, reduceCtorEq] at e2
  subst e2
  exact ⟨ρ, _, ρ', R, e1, fun v H1 R1 D1 g1 => ⟨_, D1.bl_inv, k _ H1 R1 (.bl _) g1⟩⟩
theorem DW.dt (h : DW X a ca) : DT X a ca := ⟨fun W => (h.pw W).pt⟩
theorem dw_and1 (h : DT X a ca) : DW X (.BoolOp .And [a] pos) ca := ⟨fun W => pw_and1 (h.pt W)⟩
theorem dw_or1 (h : DT X a ca) : DW X (.BoolOp .Or [a] pos) ca := ⟨fun W => pw_or1 (h.pt W)⟩
theorem dw_and (ha : DT X a ca) (hb : DW X (.BoolOp .And (b :: rest) pos) cb) : DW X (.BoolOp .And (a :: b :: rest) pos) (tAndM ca cb) := by
  refine ⟨fun W => (pw_and (ha.pt W) (hb.pw W)).imp fun σ H Q ⟨ρ, d, ρ', R, e, k⟩ => ?_⟩
  unfold tAndM at e
  split at e
  · rename_i ρ1 e1
    exact ⟨ρ, _, ρ1, R, e1, fun H1 R1 g1 => iteT <| ⟨ρ1, d, ρ', R1, e, fun H2 R2 g2 => k H2 R2 (g1.trans g2)⟩⟩
  · rename_i ρ1 e1
    cases e
    exact ⟨ρ, _, _, R, e1, fun H1 R1 g1 => iteF <| k H1 R1 g1⟩
  · cases e
theorem dw_or (ha : DT X a ca) (hb : DW X (.BoolOp .Or (b :: rest) pos) cb) : DW X (.BoolOp .Or (a :: b :: rest) pos) (tOrM ca cb) := by
  refine ⟨fun W => (pw_or (ha.pt W) (hb.pw W)).imp fun σ H Q ⟨ρ, d, ρ', R, e, k⟩ => ?_⟩
  unfold tOrM at e
  split at e
  · rename_i ρ1 e1
    exact ⟨ρ, _, ρ1, R, e1, fun H1 R1 g1 => iteF <| ⟨ρ1, d, ρ', R1, e, fun H2 R2 g2 => k H2 R2 (g1.trans g2)⟩⟩
  · rename_i ρ1 e1
    cases e
    exact ⟨ρ, _, _, R, e1, fun H1 R1 g1 => iteT <| k H1 R1 g1⟩
  · cases e
theorem dt_not (ha : DT X a ca) : DT X (.UnaryOp .Not a pos) (tNotM ca) := by
  refine ⟨fun W => (pt_not (ha.pt W)).imp fun σ H Q ⟨ρ, d, ρ', R, e, k⟩ => ?_⟩
  unfold tNotM at e
  split at e
  · rename_i b0 ρ1 e1
    cases e
    exact ⟨ρ, _, _, R, e1, fun H1 R1 g1 => k H1 R1 g1⟩
  · cases e
theorem de_ifExp (hc : DT X c ca) (ha : DE X a fa) (hb : DE X b fb) : DE X (.IfExp c a b pos) (mIf ca fa fb) := by
  refine ⟨fun W => (pe_ifExp (hc.pt W) (ha.pe W) (hb.pe W)).imp fun σ H Q ⟨ρ, d, ρ', R, e, k⟩ => ?_⟩
  unfold mIf at e
  split at e
  · rename_i ρ1 e1
    exact ⟨ρ, _, ρ1, R, e1, fun H1 R1 g1 => iteT <| ⟨ρ1, d, ρ', R1, e, fun u H2 R2 D2 g2 => k u H2 R2 D2 (g1.trans g2)⟩⟩
  · rename_i ρ1 e1
    exact ⟨ρ, _, ρ1, R, e1, fun H1 R1 g1 => iteF <| ⟨ρ1, d, ρ', R1, e, fun u H2 R2 D2 g2 => k u H2 R2 D2 (g1.trans g2)⟩⟩
  · cases e
end

def aNil : M (List PyData) := fun ρ => some ([], ρ)
def aCons (fa : M PyData) (fr : M (List PyData)) : M (List PyData) := fun ρ => match fa ρ with
  | some (x, ρ1) => (match fr ρ1 with
    | some (xs, ρ2) => some (x :: xs, ρ2)
    | none => none)
  | none => none
theorem aCons_inv {fa : M PyData} {fr : M (List PyData)} {ρ ρ' : Env} {z : List PyData} (h : aCons fa fr ρ = some (z, ρ')) : ∃ x ρ1 xs, fa ρ = some (x, ρ1) ∧ fr ρ1 = some (xs, ρ') ∧ z = x :: xs := by
  unfold aCons at h
  cases e1 : fa ρ with
  | none => rw [e1] at h; cases h
  | some p =>
    obtain ⟨x, ρ1⟩ := p
    rw [e1] at h
    cases e2 : fr ρ1 with
    | none => simp only [e2] at h; cases h
    | some q =>
      obtain ⟨y, ρ2⟩ := q
      simp only [e2] at h
      cases h
      exact ⟨x, ρ1, y, rfl, e2, rfl⟩
/-- arguments, with their number -/
structure DAn (X : Cx) (es : List Expr) (f : M (List PyData)) : Prop where
  pa : ∀ W, PA X es (rdA (wdX X) W f)
  num : ∀ ρ ds ρ', f ρ = some (ds, ρ') → ds.length = es.length
section
variable {X : Cx} {pos : Pos} {e : Expr} {es : List Expr} {fa : M PyData} {fr : M (List PyData)}
theorem da_nil : DAn X [] aNil := ⟨fun W => pa_nil.imp fun σ H Q ⟨ρ, d, ρ', R, e, k⟩ => by cases e; exact k [] H R .nil (.refl H), fun ρ ds ρ' h => by cases h; rfl⟩
theorem da_cons (ha : DE X e fa) (hr : DAn X es fr) (hs : starEach (e :: es) X.env = (false, eval e X.env) :: starEach es X.env := by rfl) : DAn X (e :: es) (aCons fa fr) := by
  refine ⟨fun W => (pa_cons (ha.pe W) (hr.pa W) hs).imp fun σ H Q ⟨ρ, d, ρ', R, h, k⟩ => ?_, fun ρ ds ρ' h => ?_⟩
  · obtain ⟨x, ρ1, xs, e1, e2, rfl⟩ := aCons_inv h
    exact ⟨ρ, x, ρ1, R, e1, fun v H1 R1 D1 g1 => ⟨ρ1, xs, ρ', R1, e2, fun vs H2 R2 D2 g2 => k _ H2 R2 (.cons (D1.grow g2) D2) (g1.trans g2)⟩⟩
  · obtain ⟨x, ρ1, xs, e1, e2, rfl⟩ := aCons_inv h
    simp [hr.num _ _ _ e2]
def mTup (f : M (List PyData)) : M PyData := fun ρ => match f ρ with
  | some (ds, ρ') => some (.tuple ds, ρ')
  | none => none
theorem de_tup {x1 : _} (h : DAn X es fr) (hl : es.length ≤ 1000 := by decide) : DE X (.Tuple es x1 pos) (mTup fr) := by
  refine ⟨fun W => (pe_tup (h.pa W)).imp fun σ H Q ⟨ρ, d, ρ', R, e, k⟩ => ?_⟩
  unfold mTup at e
  split at e
  · rename_i ds ρ1 e1
    cases e
    refine ⟨ρ, ds, ρ', R, e1, fun vs H1 R1 D1 g1 => ⟨?_, fun p hp => ?_⟩⟩
    · rw [D1.length, h.num _ _ _ e1]
      exact Nat.le_trans hl (by rw [sizeLine_eq]; decide)
    · exact k _ _ (R1.same (Same.new hp)) (.tup (.of upd_same) (D1.grow (.new hp))) (g1.trans (.new hp))
  · cases e
end

def Ap (ρ : Env) (σ : Sg) (a : Addr) : Prop := ∀ i : Nat, mutS ρ[i]? → σ[i]? ≠ some (some (.ref a))
def NewS (Γ : Wd) (W : Wt) (σ : Sg) (ρ : Env) (H : Hp) (v : V) : Sl → Prop
  | .dat d => Df Γ H v d
  | .own ds => ∃ a xs, v = .ref a ∧ W.kp a = none ∧ H a = some (.lst xs) ∧ DfA Γ H xs ds ∧ Ap ρ σ a
  | .dic kvs => ∃ a xs, v = .ref a ∧ W.kp a = none ∧ H a = some (dO Γ a xs) ∧ DfE Γ H xs kvs ∧ Ap ρ σ a
  | .rng lo hi => ∃ a, v = .ref a ∧ H a = some (.rng lo hi)
  | .obj C f d => ∃ a dx u, v = .ref a ∧ W.kp a = none ∧ H a = some (.ins C dx [(f, u)]) ∧ Df Γ H u d
  | _ => False
def rdS (Γ : Wd) (W : Wt) (f : M Sl) : TE := fun σ H Q => ∃ ρ s ρ', RepS Γ W σ H ρ ∧ f ρ = some (s, ρ') ∧
  ∀ v H', RepS Γ W σ H' ρ' → NewS Γ W σ ρ' H' v s → Grow H H' → Q v H'
structure SE (X : Cx) (e : Expr) (f : M Sl) : Prop where
  pe : ∀ W, PE X e (rdS (wdX X) W f)
section
variable {Γ : Wd} {W : Wt} {σ : Sg} {H : Hp} {ρ : Env}
theorem RepS.ap (R : RepS Γ W σ H ρ) {a : Addr} (h : H a = none) : Ap ρ σ a := fun i hi e => by
  cases es : ρ[i]? with
  | none => rw [es] at hi; exact hi
  | some s =>
    have q := R.at_ i s es
    rw [es] at hi
    cases s with
    | own ds => obtain ⟨b, xs, e1, _, h1, _⟩ := q; rw [e] at e1; cases e1; rw [h] at h1; cases h1
    | dic ds => obtain ⟨b, xs, e1, _, h1, _⟩ := q; rw [e] at e1; cases e1; rw [h] at h1; cases h1
    | _ => exact hi
theorem RepS.kp_none (R : RepS Γ W σ H ρ) {a : Addr} (h : H a = none) : W.kp a = none := by
  cases e : W.kp a with
  | none => rfl
  | some o => rw [R.keep a o e] at h; cases h
/-- an object is changed that no slot holds -/
theorem RepS.off {a : Addr} {o : HO} (R : RepS Γ W σ H ρ) (hW : W.kp a = none) (hm : MutL (H a)) (ap : Ap ρ σ a) : RepS Γ W σ (upd H a o) ρ := by
  have g : Grow H (upd H a o) := .but hm.mut
  refine ⟨R.len, fun b u e => ?_, fun i t e => ?_, R.sep, R.anc⟩
  · rw [upd_ne (fun z => by subst z; rw [hW] at e; cases e)]; exact R.keep b u e
  · have q := R.at_ i t e
    have ne : ∀ b, σ[i]? = some (some (.ref b)) → mutS (some t) → b ≠ a := fun b eb mb z => by subst z; exact ap i (by rw [e]; exact mb) eb
    cases t with
    | un => trivial
    | dat d => obtain ⟨v, e1, h1⟩ := q; exact ⟨v, e1, h1.grow g⟩
    | own ds => obtain ⟨b, xs, e1, w, h1, h2⟩ := q; exact ⟨b, xs, e1, w, by rw [upd_ne (ne b e1 trivial)]; exact h1, h2.grow g⟩
    | dic ds => obtain ⟨b, xs, e1, w, h1, h2⟩ := q; exact ⟨b, xs, e1, w, by rw [upd_ne (ne b e1 trivial)]; exact h1, h2.grow g⟩
    | bor d => exact q
    | rng lo hi => obtain ⟨b, e1, h1⟩ := q; exact ⟨b, e1, g.rng _ _ _ h1⟩
    | _ => exact SlOk.steady (upd_steady hm) g trivial q
/-- a slot is stored -/
def setSl (i : Nat) (s : Sl) (ρ : Env) : Option Env := match i, ρ with
  | 0, .own _ :: _ => none
  | i, ρ => some (ρ.set i s)
theorem setSl_eq {i : Nat} {s : Sl} {ρ ρ' : Env} (h : setSl i s ρ = some ρ') : ρ' = ρ.set i s ∧ (i = 0 → ∀ ds, ρ[0]? ≠ some (.own ds)) := by
  unfold setSl at h
  split at h
  · cases h
  · rename_i hn
    cases h
    refine ⟨rfl, fun hi ds e => ?_⟩
    subst hi
    cases ρ with
    | nil => simp at e
    | cons s0 r => simp at e; subst e; exact hn ds r rfl rfl
theorem RepS.set {i : Nat} {s : Sl} {ρ' : Env} {v : V} (R : RepS Γ W σ H ρ) (n : NewS Γ W σ ρ H v s) (h : setSl i s ρ = some ρ') : RepS Γ W (σ.set i (some v)) H ρ' := by
  obtain ⟨rfl, hz⟩ := setSl_eq h
  have anc : ∀ a, W.anc = some a → i ≠ 0 := fun a ha hi => by
    obtain ⟨_, ds, e⟩ := R.anc a ha
    exact hz hi ds e
  have mne : ∀ a, v = .ref a → mutS (some s) → ∀ j : Nat, mutS ρ[j]? → σ[j]? ≠ some (some (.ref a)) := fun a ev ms j hj e => by
    cases s with
    | own ds => obtain ⟨b, xs, e1, _, _, _, ap⟩ := n; rw [ev] at e1; cases e1; exact ap j hj e
    | dic ds => obtain ⟨b, xs, e1, _, _, _, ap⟩ := n; rw [ev] at e1; cases e1; exact ap j hj e
    | _ => exact ms
  refine ⟨by simpa using R.len, R.keep, fun j t e => ?_, fun j k a hjk hj hk ej ek => ?_, fun a ha => ?_⟩
  · by_cases hi : i = j
    · subst hi
      have hlt : i < ρ.length := by
        have := (List.getElem?_eq_some_iff.mp e).1
        simpa using this
      rw [List.getElem?_set_self hlt] at e; cases e
      rw [List.getElem?_set_self (by rw [← R.len]; exact hlt)]
      cases s with
      | un => trivial
      | dat d => exact ⟨v, rfl, n⟩
      | own ds => obtain ⟨b, xs, rfl, w, h1, h2, _⟩ := n; exact ⟨b, xs, rfl, w, h1, h2⟩
      | dic ds => obtain ⟨b, xs, rfl, w, h1, h2, _⟩ := n; exact ⟨b, xs, rfl, w, h1, h2⟩
      | bor d => exact n.elim
      | rng lo hi => obtain ⟨b, rfl, h1⟩ := n; exact ⟨b, rfl, h1⟩
      | obj C f d => obtain ⟨b, dx, u, rfl, r⟩ := n; exact ⟨b, dx, u, rfl, r⟩
      | con _ _ _ _ _ => exact n.elim
      | sel _ _ _ => exact n.elim
      | exc _ _ _ => exact n.elim
    · rw [List.getElem?_set_ne hi] at e ⊢
      exact R.at_ j t e
  · have look : ∀ l, mutS (ρ.set i s)[l]? → i ≠ l → mutS ρ[l]? := fun l hl hi => by rw [List.getElem?_set_ne hi] at hl; exact hl
    have own : ∀ l, mutS (ρ.set i s)[l]? → i = l → mutS (some s) ∧ l < σ.length := fun l hl hi => by
      subst hi
      by_cases hlt : i < ρ.length
      · rw [List.getElem?_set_self hlt] at hl; exact ⟨hl, by rw [← R.len]; exact hlt⟩
      · rw [List.getElem?_eq_none (by simpa using hlt)] at hl; exact hl.elim
    by_cases hi : i = j
    · obtain ⟨ms, hlt⟩ := own j hj hi
      subst hi
      rw [List.getElem?_set_self hlt] at ej
      rw [List.getElem?_set_ne hjk] at ek
      cases ej
      exact mne a rfl ms k (look k hk hjk) ek
    · rw [List.getElem?_set_ne hi] at ej
      by_cases hi2 : i = k
      · obtain ⟨ms, hlt⟩ := own k hk hi2
        subst hi2
        rw [List.getElem?_set_self hlt] at ek
        cases ek
        exact mne a rfl ms j (look j hj hi) ej
      · rw [List.getElem?_set_ne hi2] at ek
        exact R.sep j k a hjk (look j hj hi) (look k hk hi2) ej ek
  · have hi := anc a ha
    obtain ⟨h1, ds, h2⟩ := R.anc a ha
    rw [List.getElem?_set_ne hi, List.getElem?_set_ne hi]
    exact ⟨h1, ds, h2⟩
theorem NewS.same {H' : Hp} {v : V} {s : Sl} (g : Same H H') (n : NewS Γ W σ ρ H v s) : NewS Γ W σ ρ H' v s := by
  cases s with
  | un => exact n
  | dat d => exact n.grow (.same g)
  | own ds => obtain ⟨a, xs, e, w, h1, h2, ap⟩ := n; exact ⟨a, xs, e, w, g _ _ h1, h2.grow (.same g), ap⟩
  | dic ds => obtain ⟨a, xs, e, w, h1, h2, ap⟩ := n; exact ⟨a, xs, e, w, g _ _ h1, h2.grow (.same g), ap⟩
  | bor d => exact n
  | rng lo hi => obtain ⟨a, e, h1⟩ := n; exact ⟨a, e, g _ _ h1⟩
  | obj C f d => obtain ⟨b, dx, u, e, w, h1, h3⟩ := n; exact ⟨b, dx, u, e, w, g _ _ h1, h3.grow (.same g)⟩
  | con _ _ _ _ _ => exact n
  | sel _ _ _ => exact n
  | exc _ _ _ => exact n
end
def mDat (f : M PyData) : M Sl := fun ρ => match f ρ with
  | some (d, ρ') => some (.dat d, ρ')
  | none => none
def mFz (f : M Sl) : M PyData := fun ρ => match f ρ with
  | some (.dat d, ρ') => some (d, ρ')
  | some (.own ds, ρ') => some (.list ds, ρ')
  | some (.dic kvs, ρ') => some (.dict kvs, ρ')
  | _ => none
def mLst (f : M (List PyData)) : M Sl := fun ρ => match f ρ with
  | some (ds, ρ') => some (.own ds, ρ')
  | none => none
section
variable {X : Cx} {pos : Pos} {e : Expr} {es : List Expr} {fa : M PyData} {fs : M Sl} {fr : M (List PyData)}
theorem SE.of (h : DE X e fa) : SE X e (mDat fa) := by
  refine ⟨fun W => (h.pe W).imp fun σ H Q ⟨ρ, s, ρ', R, e1, k⟩ => ?_⟩
  unfold mDat at e1
  split at e1
  · rename_i d ρ1 e2
    cases e1
    exact ⟨ρ, d, ρ', R, e2, k⟩
  · cases e1
theorem de_fz (h : SE X e fs) : DE X e (mFz fs) := by
  refine ⟨fun W => ⟨fun pins s σ H Q I ⟨ρ, d, ρ', R, e1, k⟩ => ?_⟩⟩
  have go : ∀ sl, fs ρ = some (sl, ρ') → (∀ v H', RepS (wdX X) W σ H' ρ' → NewS (wdX X) W σ ρ' H' v sl → Grow H H' → ∀ s', Inv X pins σ H' s' → ∃ H'', Inv X pins σ H'' s' ∧ Q v H'') →
      wpAny (model X.prog X.w) X.A (eval e X.env) (EP X pins σ Q) X.xe s := fun sl e2 hk => by
    refine thn ((h.pe W).run pins s σ H (fun v H' => ∀ s', Inv X pins σ H' s' → ∃ H'', Inv X pins σ H'' s' ∧ Q v H'') I ⟨ρ, sl, ρ', R, e2, hk⟩) fun v s1 ⟨x, H1, I1, r1, q1⟩ => ?_
    obtain ⟨H2, I2, q2⟩ := q1 s1 I1
    exact ⟨x, H2, I2, r1, q2⟩
  unfold mFz at e1
  split at e1
  · rename_i d0 ρ1 e2
    cases e1
    exact go _ e2 fun v H' R' n g s' I' => ⟨H', I', k v H' R' n g⟩
  · rename_i ds ρ1 e2
    cases e1
    refine go _ e2 fun v H' R' n g s' I' => ?_
    obtain ⟨a, xs, rfl, w, h1, h2, ap⟩ := n
    obtain ⟨od, I2⟩ := I'.lock h1 trivial
    have hmL : MutL (H' a) := by rw [h1]; trivial
    have hm := hmL.mut
    exact ⟨_, I2, k _ _ (R'.off w hmL ap) (.lst ⟨od, upd_same⟩ (h2.grow (.but hm))) (g.trans (.but hm))⟩
  · rename_i ds ρ1 e2
    cases e1
    refine go _ e2 fun v H' R' n g s' I' => ?_
    obtain ⟨a, xs, rfl, w, h1, h2, ap⟩ := n
    obtain ⟨od, I2⟩ := I'.lock h1 trivial
    have hmL : MutL (H' a) := by rw [h1]; trivial
    have hm := hmL.mut
    exact ⟨_, I2, k _ _ (R'.off w hmL ap) (.dic ⟨od, upd_same⟩ (h2.grow (.but hm))) (g.trans (.but hm))⟩
  · cases e1
theorem se_lst (h : DAn X es fr) (hl : es.length ≤ 1000 := by decide) : SE X (.List es pos) (mLst fr) := by
  refine ⟨fun W => (pe_lst (h.pa W)).imp fun σ H Q ⟨ρ, s, ρ', R, e1, k⟩ => ?_⟩
  unfold mLst at e1
  split at e1
  · rename_i ds ρ1 e2
    cases e1
    refine ⟨ρ, ds, ρ', R, e2, fun vs H1 R1 D1 g1 => ⟨?_, fun p hp => ?_⟩⟩
    · rw [D1.length, h.num _ _ _ e2]
      exact Nat.le_trans hl (by rw [sizeLine_eq]; decide)
    · exact k _ _ (R1.same (Same.new hp)) ⟨p, vs, rfl, R1.kp_none hp, upd_same, D1.grow (.new hp), R1.ap hp⟩ (g1.trans (.new hp))
  · cases e1
end
end Dn
namespace Dn
open PySem PySem.Spec PyProof.Rows L2

theorem Dl.lst_inv {Γ : Wd} {H : Hp} {v : V} {ds : List PyData} (h : Dl Γ H v (.list ds)) : ∃ a xs, v = .ref a ∧ SqL Γ.K H a xs ∧ DfA Γ H xs ds := by
  cases h with
  | of h => obtain ⟨a, xs, e, h1, h2⟩ := h.lst_inv; exact ⟨a, xs, e, h1.sq, h2⟩
  | lst h1 h2 => exact ⟨_, _, rfl, h1, h2⟩
theorem Dl.tup_inv {Γ : Wd} {H : Hp} {v : V} {ds : List PyData} (h : Dl Γ H v (.tuple ds)) : ∃ a xs, v = .ref a ∧ SqT Γ.K H a xs ∧ DfA Γ H xs ds := by
  cases h with
  | of h => exact h.tup_inv
theorem Dl.str_inv {Γ : Wd} {H : Hp} {v : V} {z : Str} (h : Dl Γ H v (.str z)) : v = .str z := by
  cases h with
  | of h => exact h.str_inv
theorem Dl.int_inv {Γ : Wd} {H : Hp} {v : V} {z : Int} (h : Dl Γ H v (.int z)) : v = .int z := by
  cases h with
  | of h => exact h.int_inv
theorem Dl.bl_inv {Γ : Wd} {H : Hp} {v : V} {z : Bool} (h : Dl Γ H v (.bool z)) : v = .bl z := by
  cases h with
  | of h => exact h.bl_inv
theorem Dl.dic_inv {Γ : Wd} {H : Hp} {v : V} {kvs : List (PyData × PyData)} (h : Dl Γ H v (.dict kvs)) : ∃ a xs, v = .ref a ∧ Rd H a (dO Γ a xs) ∧ DfE Γ H xs kvs := by
  cases h with
  | of h =>
    cases h with
    | dic h1 h2 => exact ⟨_, _, rfl, .inr h1, h2⟩
  | dic h1 h2 => exact ⟨_, _, rfl, .inl h1, h2⟩

section
variable {X : Cx} {pins : List (Addr × Obj)} {σ : Sg} {H : Hp} {s : Shared}
theorem reads_of (I : Inv X pins σ H s) {v : V} {u : Value} {d : PyData} (h : Df (wdX X) H v d) (c : d.canLay0 = true) (r : RelV v u) : ∃ as, Reads s.heap u d as := Dp.reads I d v u (h.dp c) r
theorem readsA_of (I : Inv X pins σ H s) {vs : List V} {us : List Value} {ds : List PyData} (h : DfA (wdX X) H vs ds) (c : PyData.canLayAll0 ds = true) (r : Vals vs us) : ∃ as, ReadsAll s.heap us ds as := Dp.readsAll I ds vs us (h.dp c) r

mutual
def toKey : PyData → Option NestedKey
  | .none => some .none
  | .int i => some (.num i)
  | .str x => some (.text x)
  | .tuple ds => (toKeys ds).map .tup
  | .bool _ => none
  | .list _ => none
  | .dict _ => none
def toKeys : List PyData → Option (List NestedKey)
  | [] => some []
  | d :: ds => match toKey d, toKeys ds with
    | some k, some ks => some (k :: ks)
    | _, _ => none
end
mutual
theorem toKey_data : ∀ {d : PyData} {k : NestedKey}, toKey d = some k → d = k.data
  | .none, _, h => by simp only [toKey, Option.some.injEq] at h; subst h; rfl
  | .int i, _, h => by simp only [toKey, Option.some.injEq] at h; subst h; rfl
  | .str i, _, h => by simp only [toKey, Option.some.injEq] at h; subst h; rfl
  | .tuple ds, _, h => by
    simp only [toKey, Option.map_eq_some_iff] at h
    obtain ⟨ks, h1, rfl⟩ := h
    rw [toKeys_data h1]; simp [NestedKey.data]
  | .bool _, _, h => by simp [toKey] at h
  | .list _, _, h => by simp [toKey] at h
  | .dict _, _, h => by simp [toKey] at h
theorem toKeys_data : ∀ {ds : List PyData} {ks : List NestedKey}, toKeys ds = some ks → ds = NestedKey.datas ks
  | [], _, h => by simp only [toKeys, Option.some.injEq] at h; subst h; rfl
  | d :: ds, ks, h => by
    simp only [toKeys] at h
    split at h
    · rename_i k ks' e1 e2
      cases h
      rw [toKey_data e1, toKeys_data e2]; simp [NestedKey.datas]
    · cases h
end
mutual
theorem toKey_of : ∀ k : NestedKey, toKey k.data = some k
  | .none => by simp [NestedKey.data, toKey]
  | .num i => by simp [NestedKey.data, toKey]
  | .text i => by simp [NestedKey.data, toKey]
  | .tup ks => by simp [NestedKey.data, toKey, toKeys_of ks]
theorem toKeys_of : ∀ ks : List NestedKey, toKeys (NestedKey.datas ks) = some ks
  | [] => by simp [NestedKey.datas, toKeys]
  | k :: ks => by simp [NestedKey.datas, toKeys, toKey_of k, toKeys_of ks]
end
mutual
theorem eqv_key : ∀ k j : NestedKey, PyData.eqv k.data j.data = NestedKey.beq k j
  | .none, .none => by simp [NestedKey.data, PyData.eqv, NestedKey.beq]
  | .none, .num _ => by simp [NestedKey.data, PyData.eqv, NestedKey.beq]
  | .none, .text _ => by simp [NestedKey.data, PyData.eqv, NestedKey.beq]
  | .none, .tup _ => by simp [NestedKey.data, PyData.eqv, NestedKey.beq]
  | .num _, .none => by simp [NestedKey.data, PyData.eqv, NestedKey.beq]
  | .num a, .num b => by simp [NestedKey.data, PyData.eqv, NestedKey.beq, Bool.beq_eq_decide_eq]
  | .num _, .text _ => by simp [NestedKey.data, PyData.eqv, NestedKey.beq]
  | .num _, .tup _ => by simp [NestedKey.data, PyData.eqv, NestedKey.beq]
  | .text _, .none => by simp [NestedKey.data, PyData.eqv, NestedKey.beq]
  | .text _, .num _ => by simp [NestedKey.data, PyData.eqv, NestedKey.beq]
  | .text a, .text b => by simp [NestedKey.data, PyData.eqv, NestedKey.beq, Bool.beq_eq_decide_eq]
  | .text _, .tup _ => by simp [NestedKey.data, PyData.eqv, NestedKey.beq]
  | .tup _, .none => by simp [NestedKey.data, PyData.eqv, NestedKey.beq]
  | .tup _, .num _ => by simp [NestedKey.data, PyData.eqv, NestedKey.beq]
  | .tup _, .text _ => by simp [NestedKey.data, PyData.eqv, NestedKey.beq]
  | .tup ks, .tup js => by simp only [NestedKey.data, PyData.eqv, NestedKey.beq]; exact eqv_keys ks js
theorem eqv_keys : ∀ ks js : List NestedKey, PyData.eqvAll (NestedKey.datas ks) (NestedKey.datas js) = NestedKey.beqAll ks js
  | [], [] => by simp [NestedKey.datas, PyData.eqvAll, NestedKey.beqAll]
  | [], _ :: _ => by simp [NestedKey.datas, PyData.eqvAll, NestedKey.beqAll]
  | _ :: _, [] => by simp [NestedKey.datas, PyData.eqvAll, NestedKey.beqAll]
  | k :: ks, j :: js => by simp only [NestedKey.datas, PyData.eqvAll, NestedKey.beqAll, eqv_key k j, eqv_keys ks js]
end
theorem eqv_dec (k j : NestedKey) : PyData.eqv k.data j.data = decide (k = j) := by rw [eqv_key, NestedKey.decide_eq]

mutual
theorem nested_of (I : Inv X pins σ H s) : ∀ (k : NestedKey) (v : V) (u : Value), Df (wdX X) H v k.data → RelV v u → NestedIs s.heap k u
  | .none, v, u, h, r => by
    simp only [NestedKey.data] at h
    rw [h.non_inv] at r; cases r; exact .none
  | .num i, v, u, h, r => by
    simp only [NestedKey.data] at h
    rw [h.int_inv] at r; obtain ⟨t, rfl⟩ := r; exact .int i t
  | .text i, v, u, h, r => by
    simp only [NestedKey.data] at h
    rw [h.str_inv] at r; obtain ⟨t, rfl⟩ := r; exact .text i t
  | .tup ks, v, u, h, r => by
    simp only [NestedKey.data] at h
    obtain ⟨a, xs, rfl, h1, h2⟩ := h.tup_inv
    cases r
    obtain ⟨its, rv, ⟨o, ho, hc, n, hd⟩, _⟩ := I.tuple h1
    exact .tup ho hc hd (by simpa using nesteds_of I ks xs its h2 rv)
theorem nesteds_of (I : Inv X pins σ H s) : ∀ (ks : List NestedKey) (vs : List V) (us : List Value), DfA (wdX X) H vs (NestedKey.datas ks) → Vals vs us → NestedAll s.heap ks us
  | [], vs, us, h, r => by
    simp only [NestedKey.datas] at h
    cases h; cases r; exact .nil
  | k :: ks, vs, us, h, r => by
    simp only [NestedKey.datas] at h
    cases h with
    | cons h1 h2 =>
      cases r with
      | cons r1 r2 => exact .cons (nested_of I k _ _ h1 r1) (nesteds_of I ks _ _ h2 r2)
end

/-- what stands at the dict, by its keys -/
def entP (xs : List Ent) : List (NestedKey × Value) := xs.map fun x => (x.1, x.2.2)
theorem dict_raw (I : Inv X pins σ H s) {a : Addr} {xs : List Ent} (h : Rd H a (dO (wdX X) a xs)) : ∃ o es ep, s.heap.get? a = some o ∧ o.ExactDict ∧ o.data = .dict es ep ∧ es.toList = xs.map (entryOfKey (nestedKind X.prog X.w)) ∧ (xs.map (·.1)).Nodup ∧ (a == sysModules) = false ∧ xs.length ≤ sizeLine ∧ ∀ x ∈ xs, x.1.depth ≤ 8 := by
  rcases h with h | ⟨o, h⟩
  · exact (I.hok a _ h).1
  · exact (I.hok a _ h).2.1
theorem keys_of {kvs : List (PyData × PyData)} : ∀ {xs : List Ent}, DfE (wdX X) H xs kvs → ∀ x ∈ xs, Df (wdX X) H (.ref x.2.1) x.1.data := by
  intro xs h
  have go : ∀ (kvs : List (PyData × PyData)) (xs : List Ent), DfE (wdX X) H xs kvs → ∀ x ∈ xs, Df (wdX X) H (.ref x.2.1) x.1.data := by
    intro kvs
    induction kvs with
    | nil => intro xs h x hx; cases h; cases hx
    | cons p r ih =>
      intro xs h x hx
      cases h with
      | cons h1 h2 h3 h4 =>
        rcases List.mem_cons.mp hx with rfl | hx
        · exact h1
        · exact ih _ h4 x hx
  exact go kvs xs h
theorem keyed_of (I : Inv X pins σ H s) {a : Addr} {xs : List Ent} {kvs : List (PyData × PyData)} (h : Rd H a (dO (wdX X) a xs)) (he : DfE (wdX X) H xs kvs) : s.heap.DictKeyed (nestedKind X.prog X.w) a (entP xs) ∧ (a == sysModules) = false ∧ xs.length ≤ sizeLine := by
  obtain ⟨o, es, ep, ho, hx, hd, hl, hn, hs, hz, hdp⟩ := dict_raw I h
  exact ⟨⟨xs, ⟨o, es, ep, ho, hx, hd, hl, fun x hx => ⟨nested_of I _ _ _ (keys_of he x hx) rfl, hdp x hx⟩, hn⟩, rfl⟩, hs, hz⟩

def inB (d : PyData) : PyData → Option Bool
  | .list ds => if (SeqAt.shaped d && PyData.canLayAll0 ds) = true then some (ds.any fun z => PyData.eqv z d) else none
  | .tuple ds => if (SeqAt.shaped d && PyData.canLayAll0 ds) = true then some (ds.any fun z => PyData.eqv z d) else none
  | .dict kvs => (match toKey d with
    | some (.tup ks) => if (NestedKey.tup ks).depth ≤ 8 then some (kvs.any fun kv => PyData.eqv kv.1 d) else none
    | _ => none)
  | .str y => (match d with
    | .str x => some (!(Builtin.Str.occurrences y x 0 y.length 1).isEmpty)
    | _ => none)
  | _ => none
theorem any_keys (k : NestedKey) : ∀ {xs : List Ent} {kvs : List (PyData × PyData)}, DfE (wdX X) H xs kvs → (kvs.any fun kv => PyData.eqv kv.1 k.data) = (valueAt (entP xs) k).isSome := by
  intro xs kvs h
  have go : ∀ (kvs : List (PyData × PyData)) (xs : List Ent), DfE (wdX X) H xs kvs → (kvs.any fun kv => PyData.eqv kv.1 k.data) = (valueAt (entP xs) k).isSome := by
    intro kvs
    induction kvs with
    | nil => intro xs h; cases h; rfl
    | cons p r ih =>
      intro xs h
      cases h with
      | @cons j t u v d ys _ h1 h2 h3 h4 =>
        rw [List.any_cons, ih _ h4, eqv_dec]
        by_cases e : j = k
        · simp [entP, valueAt, e]
        · simp [entP, valueAt, e]
  exact go kvs xs h
def rInX (Γ : Wd) (neg : Bool) : R2 := fun x y H Q => ∃ d c b, Df Γ H x d ∧ Dl Γ H y c ∧ inB d c = some b ∧ Q (.bl (if neg then !b else b)) H
variable {k : Nat}
theorem op_inX (hr : RmU X.A) : OpR X (compareOp .In) (rInX (wdX X) false) := by
  intro pins s σ H x y v u Q I rx ry h
  obtain ⟨d, c, b, hd, hc, hb, q⟩ := h
  have hun : X.A.units + 200 < cLine := hr
  cases c <;> simp only [inB, reduceCtorEq] at hb
  · cases d <;> simp only [Option.some.injEq, reduceCtorEq] at hb
    subst hb
    exact op_in_str pins s σ H x y v u Q I rx ry ⟨_, _, hd.str_inv, hc.str_inv, q⟩
  · split at hb
    · rename_i hs
      cases hb
      rw [Bool.and_eq_true] at hs
      obtain ⟨a, xs, rfl, h1, h2⟩ := hc.lst_inv
      cases ry
      obtain ⟨its, rv, pl, hz⟩ := I.list h1
      obtain ⟨as, r1⟩ := reads_of I hd (SeqAt.canLay_of_shaped hs.1) rx
      obtain ⟨bs, r2⟩ := readsA_of I h2 hs.2 rv
      obtain ⟨o, n, ho, hcl, hdn, hdt⟩ := pl
      exact SeqAt.in_list_reads (.list ho hcl hdt (by simpa using r2)) r1 hs.2 (SeqAt.canLay_of_shaped hs.1) (room_in_shaped hs.1 (by omega)) ⟨.bl _, H, I, rfl, q⟩
    · cases hb
  · split at hb
    · rename_i hs
      cases hb
      rw [Bool.and_eq_true] at hs
      obtain ⟨a, xs, rfl, h1, h2⟩ := hc.tup_inv
      cases ry
      obtain ⟨its, rv, pl, hz⟩ := I.tuple h1
      obtain ⟨as, r1⟩ := reads_of I hd (SeqAt.canLay_of_shaped hs.1) rx
      obtain ⟨bs, r2⟩ := readsA_of I h2 hs.2 rv
      obtain ⟨o, ho, hcl, n, hdt⟩ := pl
      exact SeqAt.in_tuple_reads (.tuple ho hcl hdt (by simpa using r2)) r1 hs.2 (SeqAt.canLay_of_shaped hs.1) (room_in_shaped hs.1 (by omega)) ⟨.bl _, H, I, rfl, q⟩
    · cases hb
  · split at hb
    · rename_i ks ek
      split at hb
      · rename_i hdp
        cases hb
        obtain ⟨a, xs, rfl, h1, h2⟩ := hc.dic_inv
        cases ry
        have ed := toKey_data ek
        subst ed
        have hn := nested_of I _ _ _ hd rx
        obtain ⟨t, xs', rfl, _⟩ := (show Df (wdX X) H x (.tuple (NestedKey.datas ks)) from by simpa [NestedKey.data] using hd).tup_inv
        cases rx
        obtain ⟨hk, hsm, _⟩ := keyed_of I h1 h2
        rw [any_keys _ h2] at q
        exact in_keyed (knd := nestedKind X.prog X.w) (show X.A.units + 1 + 8 < cLine by omega) ⟨hn, hdp⟩ hsm hk ⟨.bl _, H, I.tok _, rfl, q⟩
      · cases hb
    · cases hb
theorem op_notInX (hr : RmU X.A) : OpR X (compareOp .NotIn) (rInX (wdX X) true) := by
  intro pins s σ H x y v u Q I rx ry h
  obtain ⟨d, c, b, hd, hc, hb, q⟩ := h
  have hun : X.A.units + 200 < cLine := hr
  cases c <;> simp only [inB, reduceCtorEq] at hb
  · cases d <;> simp only [Option.some.injEq, reduceCtorEq] at hb
    subst hb
    exact op_notin_str pins s σ H x y v u Q I rx ry ⟨_, _, hd.str_inv, hc.str_inv, q⟩
  · split at hb
    · rename_i hs
      cases hb
      rw [Bool.and_eq_true] at hs
      obtain ⟨a, xs, rfl, h1, h2⟩ := hc.lst_inv
      cases ry
      obtain ⟨its, rv, pl, hz⟩ := I.list h1
      obtain ⟨as, r1⟩ := reads_of I hd (SeqAt.canLay_of_shaped hs.1) rx
      obtain ⟨bs, r2⟩ := readsA_of I h2 hs.2 rv
      obtain ⟨o, n, ho, hcl, hdn, hdt⟩ := pl
      exact SeqAt.notIn_list_reads (.list ho hcl hdt (by simpa using r2)) r1 hs.2 (SeqAt.canLay_of_shaped hs.1) (room_in_shaped hs.1 (by omega)) ⟨.bl _, H, I, rfl, q⟩
    · cases hb
  · split at hb
    · rename_i hs
      cases hb
      rw [Bool.and_eq_true] at hs
      obtain ⟨a, xs, rfl, h1, h2⟩ := hc.tup_inv
      cases ry
      obtain ⟨its, rv, pl, hz⟩ := I.tuple h1
      obtain ⟨as, r1⟩ := reads_of I hd (SeqAt.canLay_of_shaped hs.1) rx
      obtain ⟨bs, r2⟩ := readsA_of I h2 hs.2 rv
      obtain ⟨o, ho, hcl, n, hdt⟩ := pl
      exact SeqAt.notIn_tuple_reads (.tuple ho hcl hdt (by simpa using r2)) r1 hs.2 (SeqAt.canLay_of_shaped hs.1) (room_in_shaped hs.1 (by omega)) ⟨.bl _, H, I, rfl, q⟩
    · cases hb
  · split at hb
    · rename_i ks ek
      split at hb
      · rename_i hdp
        cases hb
        obtain ⟨a, xs, rfl, h1, h2⟩ := hc.dic_inv
        cases ry
        have ed := toKey_data ek
        subst ed
        have hn := nested_of I _ _ _ hd rx
        obtain ⟨t, xs', rfl, _⟩ := (show Df (wdX X) H x (.tuple (NestedKey.datas ks)) from by simpa [NestedKey.data] using hd).tup_inv
        cases rx
        obtain ⟨hk, hsm, _⟩ := keyed_of I h1 h2
        rw [any_keys _ h2] at q
        exact notIn_keyed (knd := nestedKind X.prog X.w) (show X.A.units + 1 + 8 < cLine by omega) ⟨hn, hdp⟩ hsm hk ⟨.bl _, H, I.tok _, rfl, q⟩
      · cases hb
    · cases hb
def inD (d c : PyData) : Option PyData := match inB d c with
  | some b => some (.bool b)
  | none => none
def notInD (d c : PyData) : Option PyData := match inB d c with
  | some b => some (.bool (!b))
  | none => none
variable {pos : Pos} {a b c : Expr} {fa fb fc : M PyData}
theorem in_imp {Γ : Wd} {W : Wt} {neg : Bool} {g : PyData → PyData → Option PyData} (hg : ∀ d c z, g d c = some z → ∃ b, inB d c = some b ∧ z = .bool (if neg then !b else b)) (σ : Sg) (H : Hp) (Q : VK) (h : rdE Γ W (m2 g fa fb) σ H Q) : tOp (rInX Γ neg) (rdE Γ W fa) (rdL Γ W fb) σ H Q := by
  obtain ⟨ρ, z, ρ', R, e, k⟩ := h
  obtain ⟨x, ρ1, y, e1, e2, e3⟩ := m2_inv e
  obtain ⟨b, e4, rfl⟩ := hg _ _ _ e3
  exact ⟨ρ, x, ρ1, R, e1, fun v H1 R1 D1 g1 => ⟨ρ1, y, ρ', R1, e2, fun u H2 R2 D2 g2 => ⟨x, y, b, D1.grow g2, D2, e4, k _ H2 R2 (.bl _) (g1.trans g2)⟩⟩⟩
theorem inD_inv (d c z : PyData) (h : inD d c = some z) : ∃ b, inB d c = some b ∧ z = .bool (if false = true then !b else b) := by
  unfold inD at h
  split at h
  · rename_i b e; cases h; exact ⟨b, e, rfl⟩
  · cases h
theorem notInD_inv (d c z : PyData) (h : notInD d c = some z) : ∃ b, inB d c = some b ∧ z = .bool (if true = true then !b else b) := by
  unfold notInD at h
  split at h
  · rename_i b e; cases h; exact ⟨b, e, rfl⟩
  · cases h
theorem de_in (hr : RmU X.A) (ha : DE X a fa) (hb : LE X b fb) (hm : behindInMarks .In b = false) : DE X (.Compare a [.In] [b] pos) (m2 inD fa fb) :=
  ⟨fun W => (pe_cmpR (op_inX hr) (ha.pe W) (hb.pe W) hm).imp (in_imp inD_inv)⟩
theorem de_notIn (hr : RmU X.A) (ha : DE X a fa) (hb : LE X b fb) (hm : behindInMarks .NotIn b = false) : DE X (.Compare a [.NotIn] [b] pos) (m2 notInD fa fb) :=
  ⟨fun W => (pe_cmpR (op_notInX hr) (ha.pe W) (hb.pe W) hm).imp (in_imp notInD_inv)⟩
theorem dt_in (hr : RmU X.A) (ha : DE X a fa) (hb : LE X b fb) (hm : behindInMarks .In b = false) : DT X (.Compare a [.In] [b] pos) (mT (m2 inD fa fb)) := by
  refine ⟨fun W => (pt_cmpR (op_inX hr) (ha.pe W) (hb.pe W) hm).imp fun σ H Q ⟨ρ, t, ρ', R, e, q⟩ => ?_⟩
  exact in_imp inD_inv σ H _ ⟨ρ, .bool t, ρ', R, mT_inv e, fun v H' R' D g => ⟨t, D.bl_inv, q H' R' g⟩⟩
theorem dt_notIn (hr : RmU X.A) (ha : DE X a fa) (hb : LE X b fb) (hm : behindInMarks .NotIn b = false) : DT X (.Compare a [.NotIn] [b] pos) (mT (m2 notInD fa fb)) := by
  refine ⟨fun W => (pt_cmpR (op_notInX hr) (ha.pe W) (hb.pe W) hm).imp fun σ H Q ⟨ρ, t, ρ', R, e, q⟩ => ?_⟩
  exact in_imp notInD_inv σ H _ ⟨ρ, .bool t, ρ', R, mT_inv e, fun v H' R' D g => ⟨t, D.bl_inv, q H' R' g⟩⟩
end
end Dn
namespace Dn
open PySem PySem.Spec PyProof.Rows L2

def ixD : PyData → PyData → Option PyData
  | .list ds, .int i => atI ds i
  | .tuple ds, .int i => atI ds i
  | .str z, .int i => if z.length ≤ sizeLine then (atI z.cps.toList i).map fun c => .str ⟨#[c]⟩ else none
  | _, _ => none
theorem atI_df {Γ : Wd} {H : Hp} {vs : List V} {ds : List PyData} {i : Int} {d : PyData} (h : DfA Γ H vs ds) (e : atI ds i = some d) : ∃ v, atI vs i = some v ∧ Df Γ H v d := by
  unfold atI at e ⊢
  rw [h.length]
  cases q : ixN ds.length i with
  | none => rw [q] at e; cases e
  | some j => rw [q] at e; exact h.get e
theorem ix_does {Γ : Wd} {x y : V} {d e z : PyData} {H : Hp} {Q : VK} (hx : Dl Γ H x d) (hy : Df Γ H y e) (hg : ixD d e = some z) (k : ∀ v, Df Γ H v z → Q v H) : rIx Γ.K x y H Q := by
  cases d <;> cases e <;> simp only [ixD, reduceCtorEq] at hg
  · split at hg
    · rename_i hl
      obtain ⟨c, e1, rfl⟩ := Option.map_eq_some_iff.mp hg
      exact .inr (.inr ⟨_, _, c, hx.str_inv, hy.int_inv, hl, e1, k _ (.str _)⟩)
    · cases hg
  · obtain ⟨a, xs, rfl, h1, h2⟩ := hx.lst_inv
    obtain ⟨v, e1, h3⟩ := atI_df h2 hg
    exact .inl ⟨a, xs, _, v, rfl, hy.int_inv, h1, e1, k v h3⟩
  · obtain ⟨a, xs, rfl, h1, h2⟩ := hx.tup_inv
    obtain ⟨v, e1, h3⟩ := atI_df h2 hg
    exact .inr (.inl ⟨a, xs, _, v, rfl, hy.int_inv, h1, e1, k v h3⟩)
/-- the left side a name's slot: read behind the right side -/
def mLoc2 (i : Nat) (g : PyData → PyData → Option PyData) (fb : M PyData) : M PyData := fun ρ => match eLoc i ρ with
  | some _ => (match fb ρ with
    | some (y, ρ1) => (match eLoc i ρ1 with
      | some (x, _) => (match g x y with
        | some z => some (z, ρ1)
        | none => none)
      | none => none)
    | none => none)
  | none => none
theorem mLoc2_inv {i : Nat} {g : PyData → PyData → Option PyData} {fb : M PyData} {ρ ρ' : Env} {z : PyData} (h : mLoc2 i g fb ρ = some (z, ρ')) : (∃ p, eLoc i ρ = some p) ∧ ∃ y x p, fb ρ = some (y, ρ') ∧ eLoc i ρ' = some (x, p) ∧ g x y = some z := by
  unfold mLoc2 at h
  cases e0 : eLoc i ρ with
  | none => rw [e0] at h; cases h
  | some p0 =>
    simp only [e0] at h
    refine ⟨⟨p0, rfl⟩, ?_⟩
    cases e1 : fb ρ with
    | none => simp only [e1] at h; cases h
    | some q =>
      obtain ⟨y, ρ1⟩ := q
      simp only [e1] at h
      cases e2 : eLoc i ρ1 with
      | none => simp only [e2] at h; cases h
      | some q =>
        obtain ⟨x, ρ2⟩ := q
        simp only [e2] at h
        cases e3 : g x y with
        | none => simp only [e3] at h; cases h
        | some w => simp only [e3] at h; cases h; exact ⟨y, x, ρ2, rfl, e2, e3⟩
theorem eLoc_rep {Γ : Wd} {W : Wt} {σ : Sg} {H : Hp} {ρ : Env} {i : Nat} {x : PyData} {p : Env} (R : RepS Γ W σ H ρ) (h : eLoc i ρ = some (x, p)) : ∃ v, σ[i]? = some (some v) ∧ Dl Γ H v x ∧ p = ρ := by
  unfold eLoc at h
  split at h <;> first
    | (rename_i d' e
       cases h
       have q := R.at_ i _ e
       first
         | (obtain ⟨v, e1, h1⟩ := q; exact ⟨v, e1, .of h1, rfl⟩)
         | (obtain ⟨v, e1, h1⟩ := q; exact ⟨v, e1, h1.same R.keepB, rfl⟩)
         | (obtain ⟨a, xs, e1, w, h1, h2⟩ := q; exact ⟨.ref a, e1, .lst (.of h1) h2, rfl⟩)
         | (obtain ⟨a, xs, e1, w, h1, h2⟩ := q; exact ⟨.ref a, e1, .dic h1 h2, rfl⟩))
    | cases h
section
variable {X : Cx} {pos : Pos} {a b c : Expr} {fa fb fc : M PyData} {k : Nat}
theorem de_ix (ha : DE X a fa) (hb : DE X b fb) (hs : PlainIx b := by intro _ _; rfl) : DE X (.Subscript a b pos) (m2 ixD fa fb) := by
  refine ⟨fun W => (pe_ix ix_seq (ha.pe W) (hb.pe W) hs).imp fun σ H Q h => ?_⟩
  refine tOp_imp (Γ := wdX X) (r := rIx X.K) ?_ σ H Q h
  exact fun x y d e z H Q hx hy hg k => ix_does (Γ := wdX X) (.of hx) hy hg fun v hv => k v H (fun _ _ h => h) hv
theorem de_ixN (i : Nat) {x : Str} {p : Pos} (hb : DE X b fb) (hs : PlainIx b := by intro _ _; rfl) (hN : X.N[i]? = some x := by rfl) (hv : Vis X.env.scope x := by first | exact Or.inl rfl | exact Or.inr (Or.inl rfl) | exact Or.inr (Or.inr rfl)) (hd : (x == ("__debug__" : Str)) = false := by decide)
    (hcd : (x == ("__classdict__" : Str)) = false := by decide) : DE X (.Subscript (.Name x p) b pos) (mLoc2 i ixD fb) := by
  refine ⟨fun W => (pe_ix ix_seq (pe_var (i := i) hN hv hd hcd) (hb.pe W) hs).imp fun σ H Q ⟨ρ, z, ρ', R, e, k⟩ => ?_⟩
  obtain ⟨⟨⟨x0, p0⟩, e0⟩, y, x, p, e1, e2, e3⟩ := mLoc2_inv e
  obtain ⟨v, ev, hl, _⟩ := eLoc_rep R e0
  refine ⟨v, ev, ρ, y, ρ', R, e1, fun u H2 R2 D2 g2 => ?_⟩
  obtain ⟨v', ev', hl', _⟩ := eLoc_rep R2 e2
  rw [ev] at ev'; cases ev'
  exact ix_does (Γ := wdX X) hl' D2 e3 fun w hw => k w H2 R2 hw g2

def mPart (f : M PyData) : M (Option Int) := fun ρ => match f ρ with
  | some (.int i, ρ') => some (some i, ρ')
  | _ => none
def mNoPart : M (Option Int) := fun ρ => some (none, ρ)
def rdO (Γ : Wd) (W : Wt) (f : M (Option Int)) : TO := fun σ H Q => ∃ ρ d ρ', RepS Γ W σ H ρ ∧ f ρ = some (d, ρ') ∧ ∀ H', RepS Γ W σ H' ρ' → Grow H H' → Q d H'
structure DO (X : Cx) (e : Option Expr) (f : M (Option Int)) : Prop where
  po : ∀ W, ∃ t, PO X e t ∧ ∀ σ H Q, rdO (wdX X) W f σ H Q → t σ H Q
theorem do_none : DO X none mNoPart := ⟨fun W => ⟨_, po_none, fun σ H Q ⟨ρ, d, ρ', R, e, k⟩ => by cases e; exact k H R (.refl H)⟩⟩
theorem do_some (h : DE X a fa) : DO X (some a) (mPart fa) := by
  refine ⟨fun W => ⟨_, po_some (h.pe W), fun σ H Q ⟨ρ, d, ρ', R, e, k⟩ => ?_⟩⟩
  unfold mPart at e
  split at e
  · rename_i i ρ1 e1
    cases e
    exact ⟨ρ, .int i, ρ', R, e1, fun v H' R' D g => ⟨i, D.int_inv, k H' R' g⟩⟩
  · cases e
def cutD (ds : List PyData) (lo hi : Option Int) : List PyData := (ds.drop (HT.sIx ds.length 0 lo)).take (HT.sIx ds.length ds.length hi - HT.sIx ds.length 0 lo)
def sliceD (lo hi : Option Int) : PyData → Option PyData
  | .list ds => some (.list (cutD ds lo hi))
  | .tuple ds => some (.tuple (cutD ds lo hi))
  | .str z => if z.length ≤ sizeLine then some (.str (cutS z lo hi)) else none
  | _ => none
theorem cut_df {Γ : Wd} {H : Hp} {vs : List V} {ds : List PyData} (h : DfA Γ H vs ds) (lo hi : Option Int) : DfA Γ H (cutV vs lo hi) (cutD ds lo hi) := by
  unfold cutV cutD
  rw [h.length]
  exact (h.drop _).take _
theorem slFrz {r : V → Option Int → Option Int → Hp → VK → Prop} (h : SlR X r) : SlR X (fun x lo hi H Q => r x lo hi H fun v H1 => ∃ a xs, v = .ref a ∧ H1 a = some (.lst xs) ∧ ∀ o, Q v (upd H1 a (.frz o (.lst xs)))) := by
  intro pins s σ H x v vl vu lo hi sl Q I rx hs pl pu hq
  obtain ⟨T, id, h1, h2, h3⟩ := h pins s σ H x v vl vu lo hi sl _ I rx hs pl pu hq
  refine ⟨T, id, h1, h2, thn h3 fun w s1 ⟨z, H1, I1, r1, a, xs, e1, h1, q1⟩ => ?_⟩
  obtain ⟨od, I2⟩ := I1.lock h1 trivial
  exact ⟨z, _, I2, r1, q1 od⟩
def mSl (fa : M PyData) (fl fu : M (Option Int)) : M PyData := fun ρ => match fa ρ with
  | some (x, ρ1) => (match fl ρ1 with
    | some (lo, ρ2) => (match fu ρ2 with
      | some (hi, ρ3) => (match sliceD lo hi x with
        | some z => some (z, ρ3)
        | none => none)
      | none => none)
    | none => none)
  | none => none
theorem mSl_inv {fl fu : M (Option Int)} {ρ ρ' : Env} {z : PyData} (h : mSl fa fl fu ρ = some (z, ρ')) : ∃ x ρ1 lo ρ2 hi, fa ρ = some (x, ρ1) ∧ fl ρ1 = some (lo, ρ2) ∧ fu ρ2 = some (hi, ρ') ∧ sliceD lo hi x = some z := by
  unfold mSl at h
  cases e1 : fa ρ with
  | none => rw [e1] at h; cases h
  | some p =>
    obtain ⟨x, ρ1⟩ := p
    rw [e1] at h
    cases e2 : fl ρ1 with
    | none => simp only [e2] at h; cases h
    | some q =>
      obtain ⟨y, ρ2⟩ := q
      simp only [e2] at h
      cases e3 : fu ρ2 with
      | none => simp only [e3] at h; cases h
      | some q =>
        obtain ⟨y3, ρ3⟩ := q
        simp only [e3] at h
        cases e4 : sliceD y y3 x with
        | none => simp only [e4] at h; cases h
        | some w => simp only [e4] at h; cases h; exact ⟨x, ρ1, y, ρ2, y3, rfl, e2, e3, e4⟩
theorem de_slice {lo hi : Option Expr} {fl fu : M (Option Int)} {p2 : Pos} (ha : DE X a fa) (hl : DO X lo fl) (hu : DO X hi fu) : DE X (.Subscript a (.Slice lo hi none p2) pos) (mSl fa fl fu) := by
  refine ⟨fun W => ?_⟩
  obtain ⟨tl, hl1, hl2⟩ := hl.po W
  obtain ⟨tu, hu1, hu2⟩ := hu.po W
  refine (pe_slice (sl_tupA.or ((slFrz sl_list).or sl_str)) (ha.pe W) hl1 hu1).imp fun σ H Q ⟨ρ, z, ρ', R, e, k⟩ => ?_
  obtain ⟨x, ρ1, l, ρ2, u, e1, e2, e3, e4⟩ := mSl_inv e
  refine ⟨ρ, x, ρ1, R, e1, fun v H1 R1 D1 g1 => hl2 _ _ _ ⟨ρ1, l, ρ2, R1, e2, fun H2 R2 g2 => hu2 _ _ _ ⟨ρ2, u, ρ', R2, e3, fun H3 R3 g3 => ?_⟩⟩⟩
  have D3 := D1.grow (g2.trans g3)
  have g := g1.trans (g2.trans g3)
  cases x <;> simp only [sliceD, Option.some.injEq, reduceCtorEq] at e4
  · split at e4
    · rename_i hz
      cases e4
      exact .inr (.inr ⟨_, D3.str_inv, hz, k _ H3 R3 (.str _) g⟩)
    · cases e4
  · subst e4
    obtain ⟨l', xs, rfl, h1, h2⟩ := D3.lst_inv
    refine .inr (.inl ⟨l', xs, rfl, h1.sq, fun p hp => ⟨p, _, rfl, upd_same, fun o => ?_⟩⟩)
    rw [upd_upd]
    exact k _ _ (R3.same (Same.new hp)) (.lst ⟨o, upd_same⟩ ((cut_df h2 _ _).grow (.new hp))) (g.trans (.new hp))
  · subst e4
    rename_i ds
    obtain ⟨l', xs, rfl, h1, h2⟩ := D3.tup_inv
    refine .inl ⟨l', xs, rfl, h1, fun hw => ?_, fun hw p hp => ?_⟩
    · have e : cutD ds l u = ds := by
        unfold cutD
        rw [← h2.length, hw.1, hw.2, List.drop_zero, h2.length, Nat.sub_zero, List.take_length]
      rw [e] at k
      exact k _ H3 R3 D3 g
    · exact k _ _ (R3.same (Same.new hp)) (.tup (.of upd_same) ((cut_df h2 _ _).grow (.new hp))) (g.trans (.new hp))

theorem call1_imp {Γ : Wd} {W : Wt} {r : List V → Hp → VK → Prop} {g : PyData → Option PyData} (hd : ∀ (x : V) (d z : PyData) (H : Hp) (Q : VK), Dl Γ H x d → g d = some z → (∀ v H', Same H H' → Df Γ H' v z → Q v H') → r [x] H Q) (σ : Sg) (H : Hp) (Q : VK)
    (h : rdE Γ W (m1 g fa) σ H Q) : tCB r (tCons (rdL Γ W fa) tNil) σ H Q := by
  obtain ⟨ρ, z, ρ', R, e, k⟩ := h
  obtain ⟨x, e1, e2⟩ := m1_inv e
  exact ⟨ρ, x, ρ', R, e1, fun v H1 R1 D1 g1 => hd v x z H1 Q D1 e2 fun v' H3 s3 D3 => k v' H3 (R1.same s3) D3 (g1.trans (.same s3))⟩
structure Call1 (X : Cx) (f : Value) (g : PyData → Option PyData) : Prop where
  ex : ∃ r : List V → Hp → VK → Prop, CallR X f r ∧ ∀ (x : V) (d z : PyData) (H : Hp) (Q : VK), Dl (wdX X) H x d → g d = some z → (∀ v H', Same H H' → Df (wdX X) H' v z → Q v H') → r [x] H Q
theorem de_b1 {id : String} {g : PyData → Option PyData} {x : Str} {p : Pos} (hc : Call1 X (.builtin id) g) (hg : Gl X x) (hm : X.mg x = none) (hv : bootBuiltins x = some (.builtin id)) (ha : LE X a fa) (hn : x ≠ "__name__" := by decide) (hdb : (x == ("__debug__" : Str)) = false := by decide)
    (he : starEach [a] X.env = (false, eval a X.env) :: starEach [] X.env := by rfl) (hpl : (backTo pos (starEach [] X.env)).any (·.1) = false := by rfl) : DE X (.Call (.Name x p) [a] [] pos) (m1 g fa) := by
  obtain ⟨r, h1, h2⟩ := hc
  exact ⟨fun W => (pe_callB h1 hg hm hv (pa_cons (ha.pe W) pa_nil he) hn hdb he hpl).imp (call1_imp h2)⟩
theorem de_t1 {T : String} {g : PyData → Option PyData} {x : Str} {p : Pos} (hc : Call1 X (.type T) g) (hg : Gl X x) (hm : X.mg x = none) (hv : bootBuiltins x = some (.type T)) (ha : LE X a fa) (hn : x ≠ "__name__" := by decide) (hdb : (x == ("__debug__" : Str)) = false := by decide)
    (he : starEach [a] X.env = (false, eval a X.env) :: starEach [] X.env := by rfl) (hpl : (backTo pos (starEach [] X.env)).any (·.1) = false := by rfl) : DE X (.Call (.Name x p) [a] [] pos) (m1 g fa) := by
  obtain ⟨r, h1, h2⟩ := hc
  exact ⟨fun W => (pe_callTy h1 hg hm hv (pa_cons (ha.pe W) pa_nil he) hn hdb he hpl).imp (call1_imp h2)⟩
end

def lenD : PyData → Option PyData
  | .list ds => some (.int ds.length)
  | .tuple ds => some (.int ds.length)
  | .str z => if z.length ≤ sizeLine then some (.int z.length) else none
  | .dict kvs => some (.int kvs.length)
  | _ => none
def allD : PyData → Option PyData
  | .list ds => (boolsOf ds).map fun bs => .bool (bs.all id)
  | _ => none
def anyD : PyData → Option PyData
  | .list ds => (boolsOf ds).map fun bs => .bool (bs.any id)
  | _ => none
def sumD : PyData → Option PyData
  | .list ds => (intsOf ds).map fun ns => .int ns.sum
  | _ => none
def intD : PyData → Option PyData
  | .int i => some (.int i)
  | .bool b => some (.int (if b then 1 else 0))
  | _ => none
def absD : PyData → Option PyData
  | .int i => some (.int (if i < 0 then -i else i))
  | _ => none
def tupleD : PyData → Option PyData
  | .list ds => some (.tuple ds)
  | .tuple ds => some (.tuple ds)
  | _ => none
section
variable {X : Cx} {k : Nat}
theorem len_dict : CallR X (.builtin "len") (fun xs H Q => ∃ a ys kvs, xs = [.ref a] ∧ Rd H a (dO (wdX X) a ys) ∧ DfE (wdX X) H ys kvs ∧ Q (.int ys.length) H) := by
  intro pins s σ H xs us Q I r h
  obtain ⟨a, ys, kvs, rfl, h1, h2, q⟩ := h
  obtain ⟨u, rfl, rx⟩ := vals1 r
  cases rx
  obtain ⟨hk, hsm, hz⟩ := keyed_of I h1 h2
  have hle : (entP ys).length = ys.length := by simp [entP]
  rw [sizeLine_eq] at hz
  refine PyProof.Rows.call_len_slot (n := (entP ys).length) hk.typeIs PySem.F.slot_dict_len (fun Q' hq => len_keyed hsm hk hq) (by omega) (by rw [hle]; omega) ?_
  exact ⟨.int ys.length, H, I.tok _, ⟨_, by rw [hle]⟩, q⟩
theorem b_len : Call1 X (.builtin "len") lenD := by
  refine ⟨_, call_len_seq.or (call_len_str.or len_dict), fun x d z H Q hx hg k => ?_⟩
  cases d <;> simp only [lenD, Option.some.injEq, reduceCtorEq] at hg
  · split at hg
    · rename_i hl
      cases hg
      exact .inr (.inl ⟨_, by rw [hx.str_inv], hl, k _ H (fun _ _ h => h) (.int _)⟩)
    · cases hg
  · subst hg
    obtain ⟨a, xs, rfl, h1, h2⟩ := hx.lst_inv
    exact .inl ⟨a, xs, rfl, .inl h1, by rw [h2.length]; exact k _ H (fun _ _ h => h) (.int _)⟩
  · subst hg
    obtain ⟨a, xs, rfl, h1, h2⟩ := hx.tup_inv
    exact .inl ⟨a, xs, rfl, .inr h1, by rw [h2.length]; exact k _ H (fun _ _ h => h) (.int _)⟩
  · subst hg
    obtain ⟨a, xs, rfl, h1, h2⟩ := hx.dic_inv
    exact .inr (.inr ⟨a, xs, _, rfl, h1, h2, by rw [h2.length]; exact k _ H (fun _ _ h => h) (.int _)⟩)
theorem b_all (hc : X.calm = true) : Call1 X (.builtin "all") allD := by
  refine ⟨_, cr_all hc, fun x d z H Q hx hg k => ?_⟩
  cases d <;> simp only [allD, reduceCtorEq] at hg
  obtain ⟨bs, e, rfl⟩ := Option.map_eq_some_iff.mp hg
  rw [boolsOf_eq e] at hx
  obtain ⟨a, xs, rfl, h1, h2⟩ := hx.lst_inv
  rw [h2.bools] at h1
  exact ⟨a, bs, rfl, h1, k _ H (fun _ _ h => h) (.bl _)⟩
theorem b_any (hc : X.calm = true) : Call1 X (.builtin "any") anyD := by
  refine ⟨_, cr_any hc, fun x d z H Q hx hg k => ?_⟩
  cases d <;> simp only [anyD, reduceCtorEq] at hg
  obtain ⟨bs, e, rfl⟩ := Option.map_eq_some_iff.mp hg
  rw [boolsOf_eq e] at hx
  obtain ⟨a, xs, rfl, h1, h2⟩ := hx.lst_inv
  rw [h2.bools] at h1
  exact ⟨a, bs, rfl, h1, k _ H (fun _ _ h => h) (.bl _)⟩
theorem b_sum (hc : X.calm = true) : Call1 X (.builtin "sum") sumD := by
  refine ⟨_, cr_sum hc, fun x d z H Q hx hg k => ?_⟩
  cases d <;> simp only [sumD, reduceCtorEq] at hg
  obtain ⟨bs, e, rfl⟩ := Option.map_eq_some_iff.mp hg
  rw [intsOf_eq e] at hx
  obtain ⟨a, xs, rfl, h1, h2⟩ := hx.lst_inv
  rw [h2.ints] at h1
  exact ⟨a, bs, rfl, h1, k _ H (fun _ _ h => h) (.int _)⟩
theorem b_abs : Call1 X (.builtin "abs") absD := by
  refine ⟨_, call_abs, fun x d z H Q hx hg k => ?_⟩
  cases d <;> simp only [absD, Option.some.injEq, reduceCtorEq] at hg
  subst hg
  exact ⟨_, by rw [hx.int_inv], k _ H (fun _ _ h => h) (.int _)⟩
theorem b_int : Call1 X (.type "int") intD := by
  refine ⟨_, call_int1, fun x d z H Q hx hg k => ?_⟩
  cases d <;> simp only [intD, Option.some.injEq, reduceCtorEq] at hg
  · subst hg; exact .inr ⟨_, by rw [hx.bl_inv], k _ H (fun _ _ h => h) (.int _)⟩
  · subst hg; exact .inl ⟨_, by rw [hx.int_inv], k _ H (fun _ _ h => h) (.int _)⟩
theorem b_tuple : Call1 X (.type "tuple") tupleD := by
  refine ⟨_, call_tuple_of, fun x d z H Q hx hg k => ?_⟩
  cases d <;> simp only [tupleD, Option.some.injEq, reduceCtorEq] at hg
  · subst hg
    obtain ⟨a, xs, rfl, h1, h2⟩ := hx.lst_inv
    exact ⟨a, xs, rfl, .inl ⟨h1, fun l hl => k _ _ (Same.new hl) (.tup (.of upd_same) (h2.grow (.new hl)))⟩⟩
  · subst hg
    obtain ⟨a, xs, rfl, h1, h2⟩ := hx.tup_inv
    exact ⟨a, xs, rfl, .inr ⟨h1, k _ H (fun _ _ h => h) (.tup h1 h2)⟩⟩
end
end Dn
namespace Dn
open PySem PySem.Spec PyProof.Rows L2

inductive Out where
  | nx (ρ : Env) | rt (s : Sl) (ρ : Env) | bk (ρ : Env) | ct (ρ : Env)
abbrev MS := Env → Option Out

def EndOk (Γ : Wd) (W : Wt) (H : Hp) (D : Ends) : Out → Prop
  | .nx ρ' => ∀ σ' H', RepS Γ W σ' H' ρ' → Grow H H' → D.nx σ' H'
  | .rt s ρ' => ∀ v σ' H', RepS Γ W σ' H' ρ' → NewS Γ W σ' ρ' H' v s → Grow H H' → D.rt v H'
  | .bk ρ' => ∀ σ' H', RepS Γ W σ' H' ρ' → Grow H H' → D.bk σ' H'
  | .ct ρ' => ∀ σ' H', RepS Γ W σ' H' ρ' → Grow H H' → D.ct σ' H'
theorem EndOk.grow {Γ : Wd} {W : Wt} {H H' : Hp} {D : Ends} {o : Out} (g : Grow H H') (h : EndOk Γ W H D o) : EndOk Γ W H' D o := by
  cases o with
  | nx ρ => exact fun σ' H2 R g2 => h σ' H2 R (g.trans g2)
  | rt s ρ => exact fun v σ' H2 R n g2 => h v σ' H2 R n (g.trans g2)
  | bk ρ => exact fun σ' H2 R g2 => h σ' H2 R (g.trans g2)
  | ct ρ => exact fun σ' H2 R g2 => h σ' H2 R (g.trans g2)
def rdSt (Γ : Wd) (W : Wt) (g : MS) : TS := fun D σ H => ∃ ρ o, RepS Γ W σ H ρ ∧ g ρ = some o ∧ EndOk Γ W H D o
structure DS (X : Cx) (st : Stmt) (g : MS) : Prop where
  ps : ∀ W, PS X st (rdSt (wdX X) W g)
structure DSs (X : Cx) (st : List Stmt) (g : MS) : Prop where
  ps : ∀ W, PSs X st (rdSt (wdX X) W g)
section
variable {X : Cx}
theorem _root_.L2.PS.imp {e : Stmt} {t t' : TS} (h : PS X e t) (i : ∀ D σ H, t' D σ H → t D σ H) : PS X e t' := ⟨fun pins s σ H D I hq => h.run pins s σ H D I (i _ _ _ hq)⟩
theorem _root_.L2.PSs.imp {e : List Stmt} {t t' : TS} (h : PSs X e t) (i : ∀ D σ H, t' D σ H → t D σ H) : PSs X e t' := ⟨fun pins s σ H D I hq => h.run pins s σ H D I (i _ _ _ hq)⟩
end
def sNil : MS := fun ρ => some (.nx ρ)
def sSeq (g h : MS) : MS := fun ρ => match g ρ with
  | some (.nx ρ1) => h ρ1
  | some o => some o
  | none => none
def sExpr (f : M PyData) : MS := fun ρ => match f ρ with
  | some (_, ρ1) => some (.nx ρ1)
  | none => none
def sRet (f : M PyData) : MS := fun ρ => match f ρ with
  | some (d, ρ1) => some (.rt (.dat d) ρ1)
  | none => none
def sRetS (f : M Sl) : MS := fun ρ => match f ρ with
  | some (s, ρ1) => some (.rt s ρ1)
  | none => none
def sSet (i : Nat) (f : M Sl) : MS := fun ρ => match f ρ with
  | some (s, ρ1) => (match setSl i s ρ1 with
    | some ρ2 => some (.nx ρ2)
    | none => none)
  | none => none
def sIf (c : M Bool) (g h : MS) : MS := fun ρ => match c ρ with
  | some (true, ρ1) => g ρ1
  | some (false, ρ1) => h ρ1
  | none => none
def sNever : MS := fun _ => none
section
variable {X : Cx} {st : Stmt} {rest : List Stmt} {g h : MS} {e : Expr} {f : M PyData} {fs : M Sl} {pos : Pos} {k : Nat}
theorem dss_nil : DSs X [] sNil := ⟨fun W => pss_nil.imp fun D σ H ⟨ρ, o, R, e, q⟩ => by cases e; exact q σ H R (.refl H)⟩
theorem dss_cons (h1 : DS X st g) (h2 : DSs X rest h) : DSs X (st :: rest) (sSeq g h) := by
  refine ⟨fun W => (pss_cons (h1.ps W) (h2.ps W)).imp fun D σ H ⟨ρ, o, R, e, q⟩ => ?_⟩
  unfold sSeq at e
  cases e1 : g ρ with
  | none => rw [e1] at e; cases e
  | some o1 =>
    rw [e1] at e
    refine ⟨ρ, o1, R, e1, ?_⟩
    cases o1 with
    | nx ρ1 => exact fun σ' H' R' g' => ⟨ρ1, o, R', e, q.grow g'⟩
    | rt s ρ1 => cases e; exact q
    | bk ρ1 => cases e; exact q
    | ct ρ1 => cases e; exact q
theorem dss_one (h1 : DS X st g) : DSs X [st] g := ⟨fun W => pss_one (h1.ps W)⟩
theorem ds_expr (he : DE X e f) (hs : swapsWith e none pos.line X.env = pure false := by rfl) : DS X (.Expr e pos) (sExpr f) := by
  refine ⟨fun W => (ps_expr (he.pe W) hs).imp fun D σ H ⟨ρ, o, R, e, q⟩ => ?_⟩
  unfold sExpr at e
  split at e
  · rename_i d ρ1 e1
    cases e
    exact ⟨ρ, d, ρ1, R, e1, fun v H' R' D' g' => q σ H' R' g'⟩
  · cases e
theorem ds_ret (he : DE X e f) : DS X (.Return (some e) pos) (sRet f) := by
  refine ⟨fun W => (ps_ret (he.pe W)).imp fun D σ H ⟨ρ, o, R, e, q⟩ => ?_⟩
  unfold sRet at e
  split at e
  · rename_i d ρ1 e1
    cases e
    exact ⟨ρ, d, ρ1, R, e1, fun v H' R' D' g' => q v σ H' R' D' g'⟩
  · cases e
theorem ds_retS (he : SE X e fs) : DS X (.Return (some e) pos) (sRetS fs) := by
  refine ⟨fun W => (ps_ret (he.pe W)).imp fun D σ H ⟨ρ, o, R, e, q⟩ => ?_⟩
  unfold sRetS at e
  split at e
  · rename_i d ρ1 e1
    cases e
    exact ⟨ρ, d, ρ1, R, e1, fun v H' R' D' g' => q v σ H' R' D' g'⟩
  · cases e
theorem ds_set (i : Nat) {x : Str} {pos' : Pos} (hN : X.N.Nodup) (he : SE X e fs) (hi : X.N[i]? = some x := by rfl) (hx : Loc X.env.scope x := by first | exact .inl rfl | exact .inr rfl)
    (hs : swapsWith e (some (.Name x pos')) pos.line X.env = pure false := by rfl) (hf : X.fn x = true ∨ X.env.scope.names.lookup x = some .local := by first | exact .inl rfl | exact .inr rfl) : DS X (.Assign [.Name x pos'] e pos) (sSet i fs) := by
  refine ⟨fun W => (ps_set hN hi hx (he.pe W) hs hf).imp fun D σ H ⟨ρ, o, R, e, q⟩ => ?_⟩
  unfold sSet at e
  split at e
  · rename_i d ρ1 e1
    split at e
    · rename_i ρ2 e2
      cases e
      exact ⟨ρ, d, ρ1, R, e1, fun v H' R' n g' => q _ H' (R'.set n e2) g'⟩
    · cases e
  · cases e
theorem ds_if {c : Expr} {a b : List Stmt} {ca : M Bool} (hc : DT X c ca) (ha : DSs X a g) (hb : DSs X b h) : DS X (.If c a b pos) (sIf ca g h) := by
  refine ⟨fun W => (ps_if (hc.pt W) (ha.ps W) (hb.ps W)).imp fun D σ H ⟨ρ, o, R, e, q⟩ => ?_⟩
  unfold sIf at e
  split at e
  · rename_i ρ1 e1
    exact ⟨ρ, true, ρ1, R, e1, fun H' R' g' => iteT <| ⟨ρ1, o, R', e, q.grow g'⟩⟩
  · rename_i ρ1 e1
    exact ⟨ρ, false, ρ1, R, e1, fun H' R' g' => iteF <| ⟨ρ1, o, R', e, q.grow g'⟩⟩
  · cases e
/-- what is never come to -/
theorem dss_never {sts : List Stmt} : DSs X sts sNever := ⟨fun W => pss_never.imp fun D σ H ⟨ρ, o, R, e, q⟩ => by cases e⟩
theorem ds_never : DS X st sNever := ⟨fun W => ps_never.imp fun D σ H ⟨ρ, o, R, e, q⟩ => by cases e⟩
theorem ds_break : DS X (.Break pos) (fun ρ => some (.bk ρ)) := ⟨fun W => ps_break.imp fun D σ H ⟨ρ, o, R, e, q⟩ => by cases e; exact q σ H R (.refl H)⟩
theorem ds_continue : DS X (.Continue pos) (fun ρ => some (.ct ρ)) := ⟨fun W => ps_continue.imp fun D σ H ⟨ρ, o, R, e, q⟩ => by cases e; exact q σ H R (.refl H)⟩
theorem ds_pass : DS X (.Pass pos) sNil := ⟨fun W => ps_pass.imp fun D σ H ⟨ρ, o, R, e, q⟩ => by cases e; exact q σ H R (.refl H)⟩
end

def FrS (ts : List Nat) (σ σ' : Sg) : Prop := σ'.length = σ.length ∧ ∀ j, j ∉ ts → σ'[j]? = σ[j]?
def rdG (Γ : Wd) (W : Wt) (ts : List Nat) (gt : PyData → Env → Option Env) : TG := fun v σ H Q => ∃ d ρ ρ', RepS Γ W σ H ρ ∧ Df Γ H v d ∧ gt d ρ = some ρ' ∧
  ∀ σ' H', RepS Γ W σ' H' ρ' → Grow H H' → FrS ts σ σ' → Q σ' H'
def rdGs (Γ : Wd) (W : Wt) (ts : List Nat) (gt : List PyData → Env → Option Env) : TGs := fun v σ H Q => ∃ d ρ ρ', RepS Γ W σ H ρ ∧ DfA Γ H v d ∧ gt d ρ = some ρ' ∧
  ∀ σ' H', RepS Γ W σ' H' ρ' → Grow H H' → FrS ts σ σ' → Q σ' H'
structure DG (X : Cx) (tg : Expr) (ts : List Nat) (gt : PyData → Env → Option Env) : Prop where
  pg : ∀ W, PG X tg (rdG (wdX X) W ts gt)
structure DGs (X : Cx) (tg : List Expr) (ts : List Nat) (gt : List PyData → Env → Option Env) : Prop where
  pg : ∀ W, PGs X tg (rdGs (wdX X) W ts gt)
def tgN (i : Nat) (d : PyData) (ρ : Env) : Option Env := setSl i (.dat d) ρ
def tgNil (ds : List PyData) (ρ : Env) : Option Env := match ds with
  | [] => some ρ
  | _ => none
def tgCons (g : PyData → Env → Option Env) (gs : List PyData → Env → Option Env) (ds : List PyData) (ρ : Env) : Option Env := match ds with
  | d :: r => (match g d ρ with
    | some ρ1 => gs r ρ1
    | none => none)
  | _ => none
def tgTup (n : Nat) (gs : List PyData → Env → Option Env) (d : PyData) (ρ : Env) : Option Env := match d with
  | .tuple ds => if ds.length = n then gs ds ρ else none
  | _ => none
section
variable {X : Cx} {pos : Pos}
theorem _root_.L2.PG.imp {e : Expr} {t t' : TG} (h : PG X e t) (i : ∀ v σ H Q, t' v σ H Q → t v σ H Q) : PG X e t' := ⟨fun pins s σ H v u Q I r hq => h.run pins s σ H v u Q I r (i _ _ _ _ hq)⟩
theorem _root_.L2.PGs.imp {e : List Expr} {t t' : TGs} (h : PGs X e t) (i : ∀ v σ H Q, t' v σ H Q → t v σ H Q) : PGs X e t' := ⟨fun pins s σ H v u Q I r hq => h.run pins s σ H v u Q I r (i _ _ _ _ hq)⟩
theorem dg_name (i : Nat) {x : Str} (hN : X.N.Nodup) (hi : X.N[i]? = some x := by rfl) (hx : Loc X.env.scope x := by first | exact .inl rfl | exact .inr rfl) (hf : X.fn x = true ∨ X.env.scope.names.lookup x = some .local := by first | exact .inl rfl | exact .inr rfl) :
    DG X (.Name x pos) [i] (tgN i) :=
  ⟨fun W => (pg_name hN hi hx hf).imp fun v σ H Q ⟨d, ρ, ρ', R, hd, e, q⟩ => q _ H (R.set (s := .dat d) hd e) (.refl H) ⟨List.length_set .., fun j hj => by rw [List.getElem?_set_ne (fun z => hj (by simp [z]))]⟩⟩
theorem dgs_nil : DGs X [] [] tgNil := ⟨fun W => pgs_nil.imp fun v σ H Q ⟨d, ρ, ρ', R, hd, e, q⟩ => by
  unfold tgNil at e
  cases d with
  | nil => cases hd; cases e; exact ⟨rfl, q σ H R (.refl H) ⟨rfl, fun _ _ => rfl⟩⟩
  | cons => cases e⟩
theorem dgs_cons {e : Expr} {es : List Expr} {t : PyData → Env → Option Env} {u : List PyData → Env → Option Env} {ts1 ts2 : List Nat} (h1 : DG X e ts1 t) (h2 : DGs X es ts2 u)
    (hs : (assignEach (e :: es) X.env).map (·.2) = assign e X.env :: (assignEach es X.env).map (·.2) := by rfl) : DGs X (e :: es) (ts1 ++ ts2) (tgCons t u) := by
  refine ⟨fun W => (pgs_cons (h1.pg W) (h2.pg W) hs).imp fun v σ H Q ⟨d, ρ, ρ', R, hd, e, q⟩ => ?_⟩
  unfold tgCons at e
  cases hd with
  | nil => cases e
  | @cons v vs d ds h3 h4 =>
    cases e1 : t d ρ with
    | none => simp only [e1] at e; cases e
    | some ρ1 =>
      simp only [e1] at e
      exact ⟨v, vs, rfl, d, ρ, ρ1, R, h3, e1, fun σ' H' R' g' f' => ⟨ds, ρ1, ρ', R', h4.grow g', e, fun σ2 H2 R2 g2 f2 => q σ2 H2 R2 (g'.trans g2) ⟨f2.1.trans f'.1, fun j hj => (f2.2 j fun z => hj (by simp [z])).trans (f'.2 j fun z => hj (by simp [z]))⟩⟩⟩
theorem dg_tup {es : List Expr} {kk : _} {t : List PyData → Env → Option Env} {ts : List Nat} (hc : X.calm = true) (h : DGs X es ts t) (n : Nat)
    (hn : (assignEach es X.env).length = n := by rfl) (hst : (assignEach es X.env).findIdx? (·.1) = none := by rfl) : DG X (.Tuple es kk pos) ts (tgTup n t) := by
  refine ⟨fun W => (pg_tup hc (h.pg W) hn hst).imp fun v σ H Q ⟨d, ρ, ρ', R, hd, e, q⟩ => ?_⟩
  unfold tgTup at e
  cases d <;> simp only [reduceCtorEq] at e
  split at e
  · rename_i hl
    obtain ⟨a, xs, rfl, h1, h2⟩ := hd.tup_inv
    exact ⟨a, xs, rfl, h1, by rw [h2.length]; exact hl, _, ρ, ρ', R, h2, e, q⟩
  · cases e
/-- target = value -/
def sAsg (f : M PyData) (gt : PyData → Env → Option Env) : MS := fun ρ => match f ρ with
  | some (d, ρ1) => (match gt d ρ1 with
    | some ρ2 => some (.nx ρ2)
    | none => none)
  | none => none
theorem ds_asg {tg e : Expr} {f : M PyData} {gt : PyData → Env → Option Env} {ts : List Nat} (he : DE X e f) (hg : DG X tg ts gt) (hs : swapsWithSole [tg] e pos.line X.env = pure false := by rfl) (hw : swappedStores [tg] e X.env = pure none := by rfl)
    (h1 : (assignEach [tg] X.env).map (·.2) = [assign tg X.env] := by rfl) : DS X (.Assign [tg] e pos) (sAsg f gt) := by
  refine ⟨fun W => (ps_asg (he.pe W) (hg.pg W) hs hw h1).imp fun D σ H ⟨ρ, o, R, e, q⟩ => ?_⟩
  unfold sAsg at e
  split at e
  · rename_i d ρ1 e1
    split at e
    · rename_i ρ2 e2
      cases e
      exact ⟨ρ, d, ρ1, R, e1, fun v H' R' hd g' => ⟨d, ρ1, ρ2, R', hd, e2, fun σ2 H2 R2 g2 _ => q σ2 H2 R2 (g'.trans g2)⟩⟩
    · cases e
  · cases e
/-- o[i] = v of a list of one's own -/
def tgSub (i : Nat) (fi : M PyData) (d : PyData) (ρ : Env) : Option Env := match eLoc i ρ with
  | some _ => (match fi ρ with
    | some (.int j, ρ1) => (match ρ1[i]? with
      | some (.own ds) => (match ixN ds.length j with
        | some n => some (ρ1.set i (.own (ds.set n d)))
        | none => none)
      | _ => none)
    | _ => none)
  | none => none
theorem DfA.set {Γ : Wd} {H : Hp} {v : V} {d : PyData} (h : Df Γ H v d) : ∀ (n : Nat) {vs : List V} {ds : List PyData}, DfA Γ H vs ds → DfA Γ H (vs.set n v) (ds.set n d)
  | _, _, _, .nil => .nil
  | 0, _, _, .cons _ h2 => .cons h h2
  | n + 1, _, _, .cons h1 h2 => .cons h1 (DfA.set h n h2)
theorem RepS.own_set {Γ : Wd} {W : Wt} {σ : Sg} {H : Hp} {ρ : Env} {i : Nat} {ds es : List PyData} {a : Addr} {ys : List V} (R : RepS Γ W σ H ρ) (e : ρ[i]? = some (.own ds)) (ha : σ[i]? = some (some (.ref a))) (hd : DfA Γ H ys es) (hm : Mut (H a)) :
    RepS Γ W σ (upd H a (.lst ys)) (ρ.set i (.own es)) := by
  obtain ⟨b, xs, e1, w, h1, h2⟩ := R.at_ i _ e
  rw [ha] at e1; cases e1
  exact R.upd_at (k := i) (by rw [e]; trivial) ha trivial (.inl ⟨es, rfl⟩) ⟨a, ys, ha, w, upd_same, hd.grow (.but hm)⟩
theorem dg_sub (i : Nat) {x : Str} {p : Pos} {ie : Expr} {fi : M PyData} (hi : DE X ie fi)
    (hN : X.N[i]? = some x := by rfl) (hv : Vis X.env.scope x := by first | exact Or.inl rfl | exact Or.inr (Or.inl rfl) | exact Or.inr (Or.inr rfl)) (hd : (x == ("__debug__" : Str)) = false := by decide)
    (hcd : (x == ("__classdict__" : Str)) = false := by decide)
    (ha : ∀ v, assign (.Subscript (.Name x p) ie pos) X.env v = (do
      let ov ← holding [v] (eval (.Name x p) X.env)
      let iv ← holding [v, ov] (eval ie X.env)
      standAt pos
      holding [v, ov, iv] (setItem ov iv v)
      release [v, ov, iv] []) := by intro _; rfl) : DG X (.Subscript (.Name x p) ie pos) [] (tgSub i fi) := by
  refine ⟨fun W => (pg_sub (pe_var (i := i) hN hv hd hcd) (hi.pe W) set_list ha).imp fun v σ H Q ⟨d, ρ, ρ', R, hdf, e, q⟩ => ?_⟩
  unfold tgSub at e
  cases e0 : eLoc i ρ with
  | none => simp only [e0] at e; cases e
  | some p0 =>
  simp only [e0] at e
  obtain ⟨w, hw, _, _⟩ := eLoc_rep (x := p0.1) (p := p0.2) R e0
  cases e1 : fi ρ with
  | none => simp only [e1] at e; cases e
  | some pr =>
    obtain ⟨j0, ρ1⟩ := pr
    simp only [e1] at e
    cases j0 <;> simp only [reduceCtorEq] at e
    rename_i j
    cases e2 : ρ1[i]? with
    | none => simp only [e2] at e; cases e
    | some s =>
      simp only [e2] at e
      cases s <;> simp only [reduceCtorEq] at e
      rename_i ds
      cases e3 : ixN ds.length j with
      | none => simp only [e3] at e; cases e
      | some n =>
        simp only [e3] at e
        cases e
        refine ⟨w, hw, ρ, .int j, ρ1, R, e1, fun u H2 R2 D2 g2 => ?_⟩
        obtain ⟨a, xs, ea, wk, h1, h2⟩ := R2.at_ i _ e2
        rw [hw] at ea; cases ea
        have hm : Mut (H2 a) := by rw [h1]; trivial
        refine ⟨a, xs, j, n, rfl, D2.int_inv, h1, by rw [h2.length]; exact e3, ?_⟩
        exact q σ _ (R2.own_set e2 hw (h2.set (hdf.grow g2) n) hm) (g2.trans (.but hm)) ⟨rfl, fun _ _ => rfl⟩
end

def Wk (Γ : Wd) (J : It) (ds : List PyData) (H0 : Hp) : Prop := ∀ H, Grow H0 H → ∀ i : Nat,
  (i < ds.length → J.go i H ∧ ∀ x H', J.yld i H x H' → Same H H' ∧ ∃ d, ds[i]? = some d ∧ Df Γ H' x d) ∧ (ds.length ≤ i → J.stop i H)
def rdI (Γ : Wd) (W : Wt) (fi : M (List PyData)) : TI := fun σ H R => ∃ ρ ds ρ', RepS Γ W σ H ρ ∧ fi ρ = some (ds, ρ') ∧
  ∀ J H', RepS Γ W σ H' ρ' → Grow H H' → Wk Γ J ds H' → R J H'
structure DI (X : Cx) (tg iter : Expr) (fi : M (List PyData)) : Prop where
  pi : ∀ W, PI X tg iter (rdI (wdX X) W fi)
theorem _root_.L2.PI.imp {X : Cx} {tg e : Expr} {t t' : TI} (h : PI X tg e t) (i : ∀ σ H Q, t' σ H Q → t σ H Q) : PI X tg e t' := ⟨fun pins s σ H R I hq => h.run pins s σ H R I (i _ _ _ hq)⟩

def sLoop (gt : PyData → Env → Option Env) (body : MS) : List PyData → MS
  | [], ρ => some (.nx ρ)
  | d :: ds, ρ => (match gt d ρ with
    | none => none
    | some ρ1 => (match body ρ1 with
      | some (.nx ρ2) => sLoop gt body ds ρ2
      | some (.ct ρ2) => sLoop gt body ds ρ2
      | some (.bk ρ2) => some (.nx ρ2)
      | some (.rt s ρ2) => some (.rt s ρ2)
      | none => none))
def sFor (fi : M (List PyData)) (gt : PyData → Env → Option Env) (body : MS) : MS := fun ρ => match fi ρ with
  | some (ds, ρ1) => sLoop gt body ds ρ1
  | none => none
section
variable {X : Cx} {tg iter : Expr} {body : List Stmt} {fi : M (List PyData)} {gt : PyData → Env → Option Env} {g : MS} {pos : Pos}
theorem ds_for (hc : X.calm = true) {ts : List Nat} (hi : DI X tg iter fi) (hg : DG X tg ts gt) (hb : DSs X body g) (hp : PassesOwn (model X.prog X.w) X.A X.env X.xe)
    (hs : ∀ x, foldedSetIterable iter X.env x = pure x := by intro _; rfl) : DS X (.For tg iter body [] pos) (sFor fi gt g) := by
  refine ⟨fun W => (ps_for hp hc (hi.pi W) (hg.pg W) (hb.ps W) hs).imp fun D σ H ⟨ρ, o, R, e, q⟩ => ?_⟩
  unfold sFor at e
  split at e
  · rename_i ds ρ1 e1
    refine ⟨ρ, ds, ρ1, R, e1, fun J H1 R1 g1 wk => ?_⟩
    refine ⟨fun i m σ H2 => m = ds.length - i ∧ i ≤ ds.length ∧ Grow H1 H2 ∧ ∃ ρ2, RepS (wdX X) W σ H2 ρ2 ∧ sLoop gt g (ds.drop i) ρ2 = some o, ⟨ds.length, by simp, Nat.zero_le _, .refl _, ρ1, R1, by simpa using e⟩, ?_⟩
    rintro i m σ H2 ⟨rfl, hi, g2, ρ2, R2, e2⟩
    have gAll := g1.trans g2
    rcases Nat.lt_or_ge i ds.length with hlt | hge
    · obtain ⟨go, yl⟩ := (wk H2 g2 i).1 hlt
      have ed : ds.drop i = ds[i] :: ds.drop (i + 1) := List.drop_eq_getElem_cons hlt
      rw [ed, sLoop] at e2
      cases e3 : gt ds[i] ρ2 with
      | none => simp only [e3] at e2; cases e2
      | some ρ3 =>
        simp only [e3] at e2
        cases e4 : g ρ3 with
        | none => simp only [e4] at e2; cases e2
        | some ob =>
          refine .inr ⟨go, fun σ' H' => Grow H1 H' ∧ ∃ ρ4, RepS (wdX X) W σ' H' ρ4 ∧ sLoop gt g (ds.drop (i + 1)) ρ4 = some o, fun σ' H' ⟨g', ρ4, R4, e5⟩ => ⟨_, by omega, rfl, hlt, g', ρ4, R4, e5⟩, fun x H' y => ?_⟩
          obtain ⟨sm, d, hd, df⟩ := yl x H' y
          rw [List.getElem?_eq_getElem hlt] at hd
          cases hd
          refine ⟨_, ρ2, ρ3, R2.same sm, df, e3, fun σ3 H3 R3 g3 _ => ⟨ρ3, ob, R3, e4, ?_⟩⟩
          have gx : Grow H1 H3 := g2.trans ((Grow.same sm).trans g3)
          rw [e4] at e2
          cases ob with
          | nx ρ4 => exact fun σ' H4 R4 g4 => ⟨gx.trans g4, ρ4, R4, e2⟩
          | ct ρ4 => exact fun σ' H4 R4 g4 => ⟨gx.trans g4, ρ4, R4, e2⟩
          | bk ρ4 => cases e2; exact fun σ' H4 R4 g4 => q σ' H4 R4 (g1.trans (gx.trans g4))
          | rt s ρ4 => cases e2; exact fun v σ' H4 R4 n g4 => q v σ' H4 R4 n (g1.trans (gx.trans g4))
    · have ei : i = ds.length := by omega
      rw [ei, List.drop_length, sLoop] at e2
      cases e2
      exact .inl ⟨(wk H2 g2 i).2 hge, q σ H2 R2 gAll⟩
  · cases e

def sWhile (c : M Bool) (g : MS) : Nat → MS
  | 0, _ => none
  | n + 1, ρ => (match c ρ with
    | none => none
    | some (false, ρ1) => some (.nx ρ1)
    | some (true, ρ1) => (match g ρ1 with
      | some (.nx ρ2) => sWhile c g n ρ2
      | some (.ct ρ2) => sWhile c g n ρ2
      | some (.bk ρ2) => some (.nx ρ2)
      | some (.rt s ρ2) => some (.rt s ρ2)
      | none => none))
theorem ds_while (n : Nat) {c : Expr} {ca : M Bool} (hc : DT X c ca) (hb : DSs X body g) (hp : PassesOwn (model X.prog X.w) X.A X.env X.xe) : DS X (.While c body [] pos) (sWhile ca g n) := by
  refine ⟨fun W => (ps_while hp (hc.pt W) (hb.ps W)).imp fun D σ H ⟨ρ, o, R, e, q⟩ => ?_⟩
  refine ⟨fun m σ' H' => Grow H H' ∧ ∃ ρ', RepS (wdX X) W σ' H' ρ' ∧ sWhile ca g m ρ' = some o, ⟨n, .refl H, ρ, R, e⟩, ?_⟩
  rintro m σ1 H1 ⟨g1, ρ1, R1, e1⟩
  cases m with
  | zero => cases e1
  | succ m =>
    rw [sWhile] at e1
    cases e2 : ca ρ1 with
    | none => simp only [e2] at e1; cases e1
    | some p =>
      obtain ⟨b, ρ2⟩ := p
      simp only [e2] at e1
      refine ⟨ρ1, b, ρ2, R1, e2, fun H2 R2 g2 => ?_⟩
      have gx := g1.trans g2
      cases b with
      | false => cases e1; exact iteF (q σ1 H2 R2 gx)
      | true =>
        refine iteT ⟨fun σ' H' => Grow H H' ∧ ∃ ρ', RepS (wdX X) W σ' H' ρ' ∧ sWhile ca g m ρ' = some o, fun σ' H' h => ⟨m, Nat.lt_succ_self _, h⟩, ?_⟩
        cases e4 : g ρ2 with
        | none => simp only [e4] at e1; cases e1
        | some ob =>
          refine ⟨ρ2, ob, R2, e4, ?_⟩
          simp only [e4] at e1
          cases ob with
          | nx ρ4 => exact fun σ' H4 R4 g4 => ⟨gx.trans g4, ρ4, R4, e1⟩
          | ct ρ4 => exact fun σ' H4 R4 g4 => ⟨gx.trans g4, ρ4, R4, e1⟩
          | bk ρ4 => cases e1; exact fun σ' H4 R4 g4 => q σ' H4 R4 (gx.trans g4)
          | rt s ρ4 => cases e1; exact fun v σ' H4 R4 n g4 => q v σ' H4 R4 n (gx.trans g4)
end
end Dn
namespace Dn
open PySem PySem.Spec PyProof.Rows L2

/-- the keys of a locked dict, in their order -/
def ItD (Γ : Wd) (d : Addr) (o : Obj) (xs : List Ent) : It :=
  ⟨fun i H => H d = some (.frz o (dO Γ d xs)) ∧ i < xs.length, fun i H x H' => H' = H ∧ ∃ y, xs[i]? = some y ∧ x = .ref y.2.1, fun i H => H d = some (.frz o (dO Γ d xs)) ∧ xs.length ≤ i⟩
theorem frzD {X : Cx} {pins : List (Addr × Obj)} {σ : Sg} {H : Hp} {s : Shared} {d : Addr} {o : Obj} {xs : List Ent} (I : Inv X pins σ H s) (h : H d = some (.frz o (dO (wdX X) d xs))) :
    (d == sysModules) = false ∧ s.heap.get? d = some o ∧ o.ExactDict ∧ ∃ (es : Array DictEntry) (ep : Nat), o.data = .dict es ep ∧ es.size = xs.length ∧ ∀ (i : Nat) (y : Ent), xs[i]? = some y → ∃ (en : DictEntry), es[i]? = some en ∧ en.key = .ref y.2.1 := by
  obtain ⟨hd, hh, _⟩ := I.hok d _ h
  obtain ⟨o', es, ep, ho, hx, hdt, he, hn, hs, hz, hdp⟩ := hh
  rw [hd] at ho
  cases ho
  refine ⟨hs, hd, hx, es, ep, hdt, ?_, fun i y e => ?_⟩
  · have l := congrArg List.length he
    simpa using l
  · refine ⟨entryOfKey (nestedKind X.prog X.w) y, ?_, rfl⟩
    rw [← Array.getElem?_toList, he, List.getElem?_map, e]; rfl
theorem turnD {P : Program} {w : World} {K : PySem.W.Frag} {tg : Expr} {d : Addr} {o : Obj} {es : Array DictEntry} {ep : Nat} {xs : List Ent} (it : Addr) (hod : o.data = .dict es ep) :
    Turn P w K tg (ItD ⟨P, w, K⟩ d o xs) [it] it (fun i h => h.IsKeyIter it d i xs.length ep) where
  mem := by simp
  obj := fun i h st b hb => by
    cases (by simpa using hb : b = it)
    obtain ⟨oi, e, c, dd⟩ := st
    exact ⟨oi, e, fun v z => by rw [dd] at z; cases z⟩
  keep := fun i h h' st k => st.at fun oi e => k it (by simp) oi e
  item := by
    intro X hP hw hK hc i pins s σ H E I hf st hg
    subst hP hw hK
    obtain ⟨hd, hi⟩ := hg
    obtain ⟨f0, f1, f2, f3, f4, f5⟩ := hf it (by simp)
    obtain ⟨hs, hgd, hx, es', ep', hdt, hsz, ent⟩ := frzD I hd
    obtain ⟨rfl, rfl⟩ := dict_ep hod hdt
    obtain ⟨en, hen, hkey⟩ := ent i xs[i] (List.getElem?_eq_getElem hi)
    refine next_key_item st hgd hdt hsz hen fun h' st' sb => ?_
    have I1 : Inv X pins σ H { s with heap := h' } := I.turned (t' := s.toks) (fun b ob hb e => (sb.2 b hb).trans e) f0 f1 f3 f4 f5
    obtain ⟨oi, e, c, dd⟩ := id st'
    exact ⟨en.key, rfl, go_of (s := { s with heap := h' }) e c dd (by decide) ⟨.ref xs[i].2.1, H, I1, hkey, ⟨rfl, xs[i], List.getElem?_eq_getElem hi, rfl⟩, st', fun b hb => (hf b hb).1⟩⟩
  done := by
    intro X hP hw hK hc i pins s σ H E I hf st hg
    subst hP hw hK
    obtain ⟨hd, hi⟩ := hg
    obtain ⟨f0, f1, f2, f3, f4, f5⟩ := hf it (by simp)
    obtain ⟨hs, hgd, hx, es', ep', hdt, hsz, ent⟩ := frzD I hd
    obtain ⟨rfl, rfl⟩ := dict_ep hod hdt
    exact next_key_end (I.ok.hd hc) st hgd hdt hsz hi fun h' eb => ⟨rfl, I.turned (t' := s.toks) (fun b ob hb e => eb b ob hb e) f0 f1 f3 f4 f5⟩
  self := fun A i s Q E st h => by
    refine wpAny_pyIter_slot st.typeIs F.slot_dict_keyiterator_iter (wpAny_call_entry F.slot_dict_keyiterator_iter st.typeIs F.entry_dict_keyiterator_iter ?_ (F.args_dict_keyiterator_iter_1 _))
    show wpAny _ _ (ret (.ref it)) _ _ s
    exact wpAny_pure ⟨_, rfl, "dict_keyiterator", _, st.typeIs, F.slot_dict_keyiterator_next.lookup, h⟩

def itemsD : PyData → Option (List PyData)
  | .list ds => some ds
  | .tuple ds => some ds
  | .dict kvs => some (kvs.map (·.1))
  | _ => none
def mItems (f : M PyData) : M (List PyData) := fun ρ => match f ρ with
  | some (d, ρ') => (match itemsD d with
    | some ds => some (ds, ρ')
    | none => none)
  | none => none
theorem mItems_inv {f : M PyData} {ρ ρ' : Env} {ds : List PyData} (h : mItems f ρ = some (ds, ρ')) : ∃ d, f ρ = some (d, ρ') ∧ itemsD d = some ds := by
  unfold mItems at h
  cases e1 : f ρ with
  | none => rw [e1] at h; cases h
  | some p =>
    obtain ⟨d, ρ1⟩ := p
    rw [e1] at h
    cases e2 : itemsD d with
    | none => simp only [e2] at h; cases h
    | some z => simp only [e2] at h; cases h; exact ⟨d, rfl, e2⟩
theorem DfE.keyAt {Γ : Wd} {H : Hp} : ∀ {kvs : List (PyData × PyData)} {xs : List Ent} {i : Nat} {y : Ent}, DfE Γ H xs kvs → xs[i]? = some y → ∃ p, kvs[i]? = some p ∧ Df Γ H (.ref y.2.1) p.1
  | _, _, _, _, .nil, h => by simp at h
  | _, _, 0, _, .cons h1 _ _ _, h => by simp at h; subst h; exact ⟨_, rfl, h1⟩
  | _, _, i + 1, _, .cons _ _ _ h4, h => by
    obtain ⟨p, e, r⟩ := DfE.keyAt (i := i) h4 (by simpa using h)
    exact ⟨p, by simpa using e, r⟩
section
variable {X : Cx} {tg e : Expr} {f : M PyData} {pos : Pos}
theorem wk_list {a : Addr} {xs : List V} {ds : List PyData} {H0 : Hp} (h : Fzl H0 a xs) (hs : DfA (wdX X) H0 xs ds) : Wk (wdX X) (Itl X.K a) ds H0 := by
  intro H g i
  have hq : SqL X.K H a xs := (h.grow g).sq
  have hl := hs.length
  refine ⟨fun hi => ⟨⟨xs, xs[i], hq, List.getElem?_eq_getElem (by omega)⟩, fun x H' y => ?_⟩, fun hi => ⟨xs, hq, by omega⟩⟩
  obtain ⟨rfl, y⟩ := y
  obtain ⟨d, e, r⟩ := (hs.grow g).getV (y xs hq)
  exact ⟨fun _ _ q => q, d, e, r⟩
theorem wk_tup {a : Addr} {xs : List V} {ds : List PyData} {H0 : Hp} (h : SqT X.K H0 a xs) (hs : DfA (wdX X) H0 xs ds) : Wk (wdX X) (Itt X.K a) ds H0 := by
  intro H g i
  have hq : SqT X.K H a xs := sqT_grow g h
  have hl := hs.length
  refine ⟨fun hi => ⟨⟨xs, xs[i], hq, List.getElem?_eq_getElem (by omega)⟩, fun x H' y => ?_⟩, fun hi => ⟨xs, hq, by omega⟩⟩
  obtain ⟨rfl, y⟩ := y
  obtain ⟨d, e, r⟩ := (hs.grow g).getV (y xs hq)
  exact ⟨fun _ _ q => q, d, e, r⟩
theorem di_val (he : DE X e f) : DI X tg e (mItems f) := by
  refine ⟨fun W => ⟨fun pins s σ H R I h => ?_⟩⟩
  obtain ⟨ρ, ds, ρ', Rp, e1, k⟩ := h
  obtain ⟨d, e2, e3⟩ := mItems_inv e1
  cases d <;> simp only [itemsD, Option.some.injEq, reduceCtorEq] at e3
  · subst e3
    refine (pi_list (he.pe W)).run pins s σ H R I ⟨ρ, _, ρ', Rp, e2, fun v H1 R1 D1 g1 => ?_⟩
    obtain ⟨a, xs, rfl, h1, h2⟩ := D1.lst_inv
    exact ⟨a, rfl, ⟨xs, h1.sq⟩, k _ H1 R1 g1 (wk_list h1 h2)⟩
  · subst e3
    refine (pi_tup (he.pe W)).run pins s σ H R I ⟨ρ, _, ρ', Rp, e2, fun v H1 R1 D1 g1 => ?_⟩
    obtain ⟨a, xs, rfl, h1, h2⟩ := D1.tup_inv
    exact ⟨a, rfl, ⟨xs, h1⟩, k _ H1 R1 g1 (wk_tup h1 h2)⟩
  · subst e3
    refine thn ((he.pe W).run pins s σ H (fun v H1 => RepS (wdX X) W σ H1 ρ' ∧ Df (wdX X) H1 v (.dict _) ∧ Grow H H1) I ⟨ρ, _, ρ', Rp, e2, fun v H1 R1 D1 g1 => ⟨R1, D1, g1⟩⟩) fun u s1 ⟨x, H1, I1, rx, R1, D1, g1⟩ => ?_
    cases D1 with
    | @dic a xs kvs hz hs =>
      obtain ⟨o, ho⟩ := hz
      cases rx
      obtain ⟨hsm, hgd, hx, es, ep, hdt, hsz, ent⟩ := frzD I1 ho
      refine iter_keys hsm hgd hx hdt (pi_one (tk := s1.toks) I1 _ (turnD (P := X.prog) (w := X.w) (K := X.K) (d := a) (xs := xs) _ hdt) ⟨_, Heap.get?_push_size _ rfl, rfl, ?_⟩ (k _ H1 R1 g1 ?_))
      · rw [hsz] <;> rfl
      · intro H2 g2 i
        have hl := hs.length
        have hd2 := g2.frz _ _ _ ho
        have hs2 := hs.grow g2
        refine ⟨fun hi => ⟨⟨hd2, by simp at hi; omega⟩, fun x H' y => ?_⟩, fun hi => ⟨hd2, by simp at hi; omega⟩⟩
        obtain ⟨rfl, y0, ey, rfl⟩ := y
        obtain ⟨p, ep, rp⟩ := hs2.keyAt ey
        exact ⟨fun _ _ q => q, p.1, by simp [ep], rp⟩

def rngD (lo : Int) (n : Nat) : List PyData := (List.range n).map fun i => PyData.int (lo + (i : Nat))
def mRng1 (f : M (List PyData)) : M (List PyData) := fun ρ => match f ρ with
  | some ([.int j], ρ') => if -(2 ^ 62) ≤ j ∧ j < 2 ^ 62 then some (rngD 0 j.toNat, ρ') else none
  | _ => none
def mRng2 (f : M (List PyData)) : M (List PyData) := fun ρ => match f ρ with
  | some ([.int i, .int j], ρ') => if (-(2 ^ 62) ≤ i ∧ i < 2 ^ 62) ∧ -(2 ^ 62) ≤ j ∧ j < 2 ^ 62 then some (rngD i (j - i).toNat, ρ') else none
  | _ => none
theorem wk_rng {Γ : Wd} {lo : Int} {n : Nat} {H0 : Hp} : Wk Γ (Itr lo n) (rngD lo n) H0 := by
  intro H g i
  refine ⟨fun hi => ⟨by simpa [rngD, Itr] using hi, fun x H' y => ?_⟩, fun hi => by simpa [rngD, Itr] using hi⟩
  obtain ⟨rfl, rfl⟩ := y
  have hi' : i < n := by simpa [rngD] using hi
  exact ⟨fun _ _ q => q, .int (lo + (i : Nat)), by simp [rngD, hi'], .int _⟩
variable {a b : Expr} {fr : M (List PyData)} {p : Pos}
theorem DfA.one {Γ : Wd} {H : Hp} {vs : List V} {d : PyData} (h : DfA Γ H vs [d]) : ∃ v, vs = [v] ∧ Df Γ H v d := by
  cases h with
  | cons h1 h2 => cases h2; exact ⟨_, rfl, h1⟩
theorem DfA.two {Γ : Wd} {H : Hp} {vs : List V} {d e : PyData} (h : DfA Γ H vs [d, e]) : ∃ v u, vs = [v, u] ∧ Df Γ H v d ∧ Df Γ H u e := by
  cases h with
  | cons h1 h2 => obtain ⟨u, rfl, h3⟩ := h2.one; exact ⟨_, u, rfl, h1, h3⟩
theorem di_rng1 (hg : Gl X "range") (hm : X.mg "range" = none) (ha : DAn X [a] fr) (hs : starEach [a] X.env = [(false, eval a X.env)] := by rfl) : DI X tg (.Call (.Name "range" p) [a] [] pos) (mRng1 fr) := by
  refine ⟨fun W => (pi_range1 hg hm (ha.pa W) hs).imp fun σ H R ⟨ρ, ds, ρ', Rp, e, k⟩ => ?_⟩
  unfold mRng1 at e
  split at e
  · rename_i j ρ1 e1
    split at e
    · rename_i hb
      cases e
      refine ⟨ρ, _, ρ', Rp, e1, fun vs H1 R1 D1 g1 => ?_⟩
      obtain ⟨v, rfl, D3⟩ := D1.one
      exact ⟨j, by rw [D3.int_inv], hb.1, hb.2, k _ H1 R1 g1 wk_rng⟩
    · cases e
  · cases e
theorem di_rng2 (hg : Gl X "range") (hm : X.mg "range" = none) (ha : DAn X [a, b] fr) (hs : starEach [a, b] X.env = [(false, eval a X.env), (false, eval b X.env)] := by rfl) (hs2 : starEach [b] X.env = [(false, eval b X.env)] := by rfl) :
    DI X tg (.Call (.Name "range" p) [a, b] [] pos) (mRng2 fr) := by
  refine ⟨fun W => (pi_range2 hg hm (ha.pa W) hs hs2).imp fun σ H R ⟨ρ, ds, ρ', Rp, e, k⟩ => ?_⟩
  unfold mRng2 at e
  split at e
  · rename_i i j ρ1 e1
    split at e
    · rename_i hb
      cases e
      refine ⟨ρ, _, ρ', Rp, e1, fun vs H1 R1 D1 g1 => ?_⟩
      obtain ⟨v, u, rfl, D3, D4⟩ := D1.two
      exact ⟨i, j, by rw [D3.int_inv, D4.int_inv], ⟨hb.1.1, hb.1.2, hb.2.1, hb.2.2⟩, k _ H1 R1 g1 wk_rng⟩
    · cases e
  · cases e
end

theorem enum_new {v : Value} {o : Obj} {H : Heap → Prop} (B : Begins v o H) :
    Meets (Builtin.«enumerate.__new__» ⟨[.type "enumerate", v], []⟩) (fun _ R s => H s.heap ∧
      R (.ok (.ret (.ref (s.heap.push o).objs.size))) { s with heap := (s.heap.push o).push { cls := .type "enumerate", data := .fields #[.none, .bool false, .ref s.heap.objs.size, rawInt 0, .none, .none] } }) :=
  .of_wp fun prog w A R s h => by
    obtain ⟨hp, g, d, tk, os⟩ := s; obtain ⟨h1, h⟩ := h
    have hsub := sub_enumerate
    have q1 : ∀ {A' : Around} {E : Value → Shared → Prop} {Q : Value → Shared → Prop}, Q (.ref hp.objs.size) ⟨hp.push o, g, d, tk, os⟩ → wpAny (model prog w) A' (pyIter v) Q E ⟨hp, g, d, tk, os⟩ :=
      fun q => B.iter prog w _ _ ⟨hp, g, d, tk, os⟩ _ h1 q
    wp_walk using q1
    refine wpAny_stack_any fun st => wpAny_pure ?_
    split
    · rename_i c _ _ _ _ _
      cases (c == Value.type "enumerate")
      · wp_walk using q1
        exact ⟨_, rfl, h⟩
      · wp_walk using q1
        exact ⟨_, rfl, h⟩
    · wp_walk using q1
      exact ⟨_, rfl, h⟩
theorem call_enum {prog : Program} {w : World} {A : Around} {E : Value → Shared → Prop} {s : Shared} {v : Value} {o : Obj} {H : Heap → Prop} {Q : Value → Shared → Prop} (B : Begins v o H) (h1 : H s.heap)
    (h : ∀ h', IsEnum h' (s.heap.objs.size + 1) s.heap.objs.size 0 .none → h'.get? s.heap.objs.size = some o → h'.objs.size = s.heap.objs.size + 2 → (∀ b o, s.heap.get? b = some o → h'.get? b = some o) → Q (.ref (s.heap.objs.size + 1)) { s with heap := h' }) :
    wpAny (model prog w) A (call (.type "enumerate") [v]) Q E s := by
  refine callType_new F.called_enumerate (by decide) (F.typeCall_enumerate_1 _) (F.newCall_enumerate_1 _) (fun obj => F.args_object_init_2 obj _) F.entry_enumerate_new (enum_new B) ⟨h1, ?_⟩
  have hz : (s.heap.push o).objs.size = s.heap.objs.size + 1 := Heap.size_push ..
  show _ ∧ _
  rw [hz]
  have he : IsEnum ((s.heap.push o).push { cls := .type "enumerate", data := .fields #[.none, .bool false, .ref s.heap.objs.size, rawInt 0, .none, .none] }) (s.heap.objs.size + 1) s.heap.objs.size 0 .none := by
    have := Heap.get?_push_size (s.heap.push o) (o := { cls := .type "enumerate", data := .fields #[.none, .bool false, .ref s.heap.objs.size, rawInt 0, .none, .none] }) rfl
    rw [hz] at this; exact this
  exact ⟨⟨_, he, rfl⟩, h _ he (Heap.get?_push_of_some _ (Heap.get?_push_size _ B.free)) (by rw [Heap.size_push, hz]) fun b o x => Heap.get?_push_of_some _ (Heap.get?_push_of_some _ x)⟩
/-- the tuple at a, each item in a new pair -/
def IteT (K : PySem.W.Frag) (a : Addr) : It :=
  ⟨fun i H => ∃ (xs : List V) (x : V), SqT K H a xs ∧ xs[i]? = some x, fun i H v H' => ∃ T x, v = .ref T ∧ H T = none ∧ H' = upd H T (.tup [.int (i : Nat), x]) ∧ ∀ xs, SqT K H a xs → xs[i]? = some x, fun i H => ∃ xs : List V, SqT K H a xs ∧ xs.length ≤ i⟩
theorem turn_enumT {P : Program} {w : World} {K : PySem.W.Frag} {elts : List Expr} {kk : Nat} {tpos : Pos} (a e it : Addr) (hea : e ≠ a) (hia : a ≠ it) :
    Turn P w K (.Tuple elts kk tpos) (IteT K a) [e, it] e (fun i h => (∃ old, IsEnum h e it ((i : Nat) : Int) old) ∧ h.IsTupleIter it a i ∧ e ≠ it) where
  mem := by simp
  obj := fun i h st b hb => by
    obtain ⟨⟨old, he⟩, ⟨o, ho, hc, hd⟩, _⟩ := st
    have e' : b = e ∨ b = it := by simpa using hb
    rcases e' with z | z
    · rw [z]; exact ⟨_, he, fun v q => nomatch q⟩
    · rw [z]; exact ⟨o, ho, fun v q => by rw [hd] at q; cases q⟩
  keep := fun i h h' st k => let ⟨⟨old, he⟩, hi, hne⟩ := st; ⟨⟨old, k e (by simp) _ he⟩, hi.at fun o q => k it (by simp) o q, hne⟩
  item := by
    intro X hP hw hK hc i pins s σ H E I hf st hg
    subst hP hw hK
    obtain ⟨⟨old, he⟩, hit, hne⟩ := st
    obtain ⟨xs, x, hq, hx⟩ := hg
    obtain ⟨its, rv, p, hz⟩ := I.tuple hq
    obtain ⟨u, hu, ru⟩ := rv.get hx
    have hel : e < s.heap.objs.size := Heap.lt_size he
    have hil : it < s.heap.objs.size := by obtain ⟨_, q, _⟩ := hit; exact Heap.lt_size q
    have D := Draws.tuple (prog := X.prog) (w := X.w) (A := X.A.in1) (I.ok.hd hc) it a hia its.toArray
    have hil' : i < its.toArray.size := by
      have := (List.getElem?_eq_some_iff.mp hu).1
      simpa using this
    refine wpAny_pyNext_enum_itemC D he ⟨hit, show s.heap.IsTuple a its.toArray from p⟩ hil' hne (by simp [hne, hea]) fun x' h' tk hP ho hst' hT hsz hk => ?_
    have ex : x' = u := by
      have q1 : its[i]? = some x' := by simpa using hP
      rw [hu] at q1; cases q1; rfl
    subst ex
    refine ⟨_, rfl, wpAny_letOwnedTupleGo_enum (s := { s with heap := h', toks := tk + 1 }) ho fun h'' he' sb => ?_⟩
    have hT2 : h''.get? s.heap.objs.size = some { cls := .type "tuple", data := .seq #[.int i tk, x'] } := (sb.2 _ (Nat.ne_of_gt hel)).trans hT
    have new : ObjOk X.prog X.w (upd H s.heap.objs.size (.tup [.int (i : Nat), x])) h'' s.heap.objs.size (.tup [.int (i : Nat), x]) :=
      ⟨by show 2 ≤ sizeLine; decide, [.int i tk, x'], .cons ⟨_, rfl⟩ (.cons ru .nil), ⟨_, hT2, rfl, _, rfl⟩⟩
    have I1 : Inv X pins σ (upd H s.heap.objs.size (.tup [.int (i : Nat), x])) { s with heap := h'', toks := tk + 1 } :=
      I.turnedNew (ch := [e, it]) (fun b ob hb q => (sb.2 b (fun z => hb (by simp [z]))).trans (hk b ob (fun z => hb (by simp [z])) (fun z => hb (by simp [z])) q)) hf (Nat.le_refl _) new
    refine ⟨.ref s.heap.objs.size, _, I1, rfl, ⟨_, x, rfl, I.hok.fresh (Nat.le_refl _), rfl, fun ys hy => by rw [I.tuple_inj hy hq]; exact hx⟩, ⟨⟨x', ?_⟩, hst'.1.at fun o q => (sb.2 it (Ne.symm hne)).trans q, hne⟩, fun b hb => ?_⟩
    · have e1 : ((i + 1 : Nat) : Int) = (i : Int) + 1 := by omega
      rw [e1]; exact he'
    · have hb' : b < s.heap.objs.size := by
        have e' : b = e ∨ b = it := by simpa using hb
        rcases e' with z | z
        · rw [z]; exact hel
        · rw [z]; exact hil
      rw [upd_ne (Nat.ne_of_lt hb')]
      exact (hf b hb).1
  done := by
    intro X hP hw hK hc i pins s σ H E I hf st hg
    subst hP hw hK
    obtain ⟨⟨old, he⟩, hit, hne⟩ := st
    obtain ⟨xs, hq, hx⟩ := hg
    obtain ⟨its, rv, p, hz⟩ := I.tuple hq
    obtain ⟨f0, f1, f2, f3, f4, f5⟩ := hf it (by simp)
    have hl := rv.length
    have hT : s.TypeIs (.ref e) "enumerate" := ⟨_, he, rfl⟩
    unfold pyNext
    refine wpAny_bind (wpAny_attempt (wpAny_callSpecial?_slot (name := Str.ofString "__next__") hT F.slot_enumerate_next (wpAny_call_entry F.slot_enumerate_next hT F.entry_enumerate_next ?_ (F.args_enumerate_next_1 _))))
    show wpAny _ _ (field (.ref e) 2 >>= _) _ _ _
    refine wpAny_bind (wpAny_field he rfl (x := .ref it) rfl ?_)
    refine wpAny_bind (wpAny_nextOf_tuple_end (I.ok.hd hc) hit (show s.heap.IsTuple a its.toArray from p) (by simp; omega) fun h' x he' hx' => ?_)
    obtain ⟨o, ho, hcl⟩ := hx'
    refine wpAny_bind (wpAny_isInstance (T := "StopIteration") (b := true) ⟨o, ho, hcl⟩ isSubtype_stop ?_)
    exact wpAny_pure ⟨rfl, I.turned (t' := s.toks) (fun b o hb q => he' b o hb q) f0 f1 f3 f4 f5⟩
  self := fun _ _ _ _ _ st h => let ⟨⟨_, he⟩, _⟩ := st; wpAny_pyIter_enum he h
def enumD (ds : List PyData) : List PyData := (List.range ds.length).zipWith (fun (i : Nat) d => PyData.tuple [.int i, d]) ds
def mEnum (f : M PyData) : M (List PyData) := fun ρ => match f ρ with
  | some (.tuple ds, ρ') => some (enumD ds, ρ')
  | some (.list ds, ρ') => some (enumD ds, ρ')
  | _ => none
theorem enumD_get {ds : List PyData} {i : Nat} {d : PyData} (h : ds[i]? = some d) : (enumD ds)[i]? = some (.tuple [.int (i : Nat), d]) := by
  obtain ⟨hl, rfl⟩ := List.getElem?_eq_some_iff.mp h
  simp [enumD, List.getElem?_zipWith, hl]
theorem enumD_len (ds : List PyData) : (enumD ds).length = ds.length := by simp [enumD]
section
variable {X : Cx} {e : Expr} {f : M PyData} {p pos tpos : Pos} {elts : List Expr} {kk : Nat}
theorem di_enum (hg : Gl X "enumerate") (hm : X.mg "enumerate" = none) (he : DE X e f) (hs : starEach [e] X.env = [(false, eval e X.env)] := by rfl) : DI X (.Tuple elts kk tpos) (.Call (.Name "enumerate" p) [e] [] pos) (mEnum f) := by
  refine ⟨fun W => ⟨fun pins s σ H R I h => ?_⟩⟩
  obtain ⟨ρ, ds, ρ', Rp, e1, k⟩ := h
  have pa : PA X [e] (tCons (rdE (wdX X) W f) tNil) := pa_cons (he.pe W) pa_nil (by rw [hs]; rfl)
  unfold mEnum at e1
  split at e1
  · rename_i ds ρ1 e2
    cases e1
    refine Call_ (ld_blt I hg hm boot_enumerate (PyProof.Rows.callWith_type1 (thn (pa.run pos pins s σ H (fun vs H1 => ∃ a xs, vs = [.ref a] ∧ SqT X.K H1 a xs ∧ DfA (wdX X) H1 xs ds ∧ RepS (wdX X) W σ H1 ρ' ∧ Grow H H1) I ?_) fun us s1 ⟨vs, H1, I1, r1, q1⟩ => ?_) hs rfl))
    · refine ⟨ρ, _, ρ', Rp, e2, fun v H1 R1 D1 g1 => ?_⟩
      obtain ⟨a, xs, rfl, h1, h2⟩ := D1.tup_inv
      exact ⟨a, xs, rfl, h1, h2, R1, g1⟩
    · obtain ⟨a, xs, rfl, h1, h2, R1, g1⟩ := q1
      cases r1 with
      | cons r rr =>
      cases rr
      cases r
      obtain ⟨its, rv, p', hz⟩ := I1.tuple h1
      have p2 : s1.heap.IsTuple a its.toArray := p'
      refine call_enum (begins_tuple a its.toArray) p2 fun h' hE hO hsz hk => wpAny_pyIter_enum hE ?_
      have I2 : Inv X pins σ H1 { s1 with heap := h' } := I1.kept (t' := s1.toks) hk
      have hal : a < s1.heap.objs.size := Heap.lt_size p2.choose_spec.1
      refine ⟨s1.heap.objs.size + 1, [s1.heap.objs.size + 1, s1.heap.objs.size], _, _, H1, rfl, I2, turn_enumT a (s1.heap.objs.size + 1) s1.heap.objs.size (Nat.ne_of_gt (Nat.lt_succ_of_lt hal)) (Nat.ne_of_lt hal), ⟨⟨.none, hE⟩, ⟨_, hO, rfl, rfl⟩, Nat.succ_ne_self _⟩, fun b hb => ?_, k _ H1 R1 g1 ?_⟩
      · have e' : b = s1.heap.objs.size + 1 ∨ b = s1.heap.objs.size := by simpa using hb
        have hle : s1.heap.objs.size ≤ b := by
          rcases e' with z | z
          · rw [z]; exact Nat.le_add_right _ _
          · rw [z]; exact Nat.le_refl _
        exact I1.fpOk hle (I1.hok.fresh hle)
      · intro H2 g2 i
        have hq := sqT_grow g2 h1
        have hs2 := h2.grow g2
        have hl := h2.length
        rw [enumD_len]
        refine ⟨fun hi => ⟨⟨xs, xs[i], hq, List.getElem?_eq_getElem (by omega)⟩, fun x H' y => ?_⟩, fun hi => ⟨xs, hq, by omega⟩⟩
        obtain ⟨T, x, rfl, hT, rfl, y⟩ := y
        obtain ⟨d, ed, rd⟩ := hs2.getV (y xs hq)
        exact ⟨Same.new hT, _, enumD_get ed, .tup (.of upd_same) (.cons (.int _) (.cons (rd.grow (.new hT)) .nil))⟩
  · rename_i ds ρ1 e2
    cases e1
    refine (pi_enum hg hm pa hs).run pins s σ H R I ⟨ρ, _, ρ', Rp, e2, fun v H1 R1 D1 g1 => ?_⟩
    obtain ⟨a, xs, rfl, h1, h2⟩ := D1.lst_inv
    refine ⟨a, xs, rfl, h1.sq, k _ H1 R1 g1 ?_⟩
    intro H2 g2 i
    have hq : SqL X.K H2 a xs := (h1.grow g2).sq
    have hs2 := h2.grow g2
    have hl := h2.length
    rw [enumD_len]
    refine ⟨fun hi => ⟨⟨xs, xs[i], hq, List.getElem?_eq_getElem (by omega)⟩, fun x H' y => ?_⟩, fun hi => ⟨xs, hq, by omega⟩⟩
    obtain ⟨T, x, rfl, hT, rfl, y⟩ := y
    obtain ⟨d, ed, rd⟩ := hs2.getV (y xs hq)
    exact ⟨Same.new hT, _, enumD_get ed, .tup (.of upd_same) (.cons (.int _) (.cons (rd.grow (.new hT)) .nil))⟩
  · cases e1
end
end Dn
namespace Dn
open PySem PySem.Spec PyProof.Rows L2

def Wt.add (W : Wt) (D : Addr) (o : HO) : Wt := { W with ex := upd W.ex D o }
theorem Wt.add_kp {W : Wt} {D : Addr} {o : HO} (h : W.kp D = none) : (W.add D o).kp = upd W.kp D o := by
  funext a
  by_cases e : a = D
  · subst e
    rw [upd_same]
    unfold Wt.kp Wt.add at *
    cases hb : W.bo a with
    | none => simp only [hb] at h ⊢; exact upd_same
    | some p => simp only [hb] at h; cases h
  · rw [upd_ne e]
    unfold Wt.kp Wt.add
    simp only [upd_ne e]
section
variable {Γ : Wd} {W : Wt} {σ : Sg} {H : Hp} {ρ : Env} {D : Addr} {o : HO}
theorem RepS.wide (R : RepS Γ W σ H ρ) (hD : H D = some o) (ap : Ap ρ σ D) (hW : W.kp D = none) (hL : MutL (some o) := by exact True.intro) : RepS Γ (W.add D o) σ H ρ := by
  have hk := Wt.add_kp (o := o) hW
  refine ⟨R.len, fun a p e => ?_, fun i t e => ?_, R.sep, R.anc⟩
  · rw [hk] at e
    by_cases ea : a = D
    · subst ea; rw [upd_same] at e; cases e; exact hD
    · rw [upd_ne ea] at e; exact R.keep a p e
  · have q := R.at_ i t e
    cases t with
    | own ds => obtain ⟨b, xs, e1, w, h⟩ := q; exact ⟨b, xs, e1, by rw [hk, upd_ne (fun z => by subst z; exact ap i (by rw [e]; trivial) e1)]; exact w, h⟩
    | dic ds => obtain ⟨b, xs, e1, w, h⟩ := q; exact ⟨b, xs, e1, by rw [hk, upd_ne (fun z => by subst z; exact ap i (by rw [e]; trivial) e1)]; exact w, h⟩
    | un => exact q
    | dat _ => exact q
    | bor _ => exact q
    | rng _ _ => exact q
    | _ => exact SlOk.wt (by rfl) (by rfl) (fun b C dx fs hb w => by rw [hk, upd_ne (fun z => by subst z; rw [hD] at hb; cases hb; exact hL)]; exact w) trivial q
theorem RepS.narrow (hW : W.kp D = none) (R : RepS Γ (W.add D o) σ H ρ) : RepS Γ W σ H ρ ∧ H D = some o ∧ Ap ρ σ D := by
  have hk := Wt.add_kp (o := o) hW
  have ho : ∀ b, (W.add D o).kp b = none → W.kp b = none ∧ b ≠ D := fun b e => by
    rw [hk] at e
    by_cases eb : b = D
    · subst eb; rw [upd_same] at e; cases e
    · rw [upd_ne eb] at e; exact ⟨e, eb⟩
  refine ⟨⟨R.len, fun a p e => ?_, fun i t e => ?_, R.sep, R.anc⟩, R.keep _ _ (by rw [hk, upd_same]), fun i hi e => ?_⟩
  · have ne : a ≠ D := fun z => by subst z; rw [hW] at e; cases e
    exact R.keep a p (by rw [hk, upd_ne ne]; exact e)
  · have q := R.at_ i t e
    cases t with
    | own ds => obtain ⟨b, xs, e1, w, h⟩ := q; exact ⟨b, xs, e1, (ho b w).1, h⟩
    | dic ds => obtain ⟨b, xs, e1, w, h⟩ := q; exact ⟨b, xs, e1, (ho b w).1, h⟩
    | un => exact q
    | dat _ => exact q
    | bor _ => exact q
    | rng _ _ => exact q
    | _ => exact SlOk.wt (by rfl) (by rfl) (fun b C dx fs hb w => (ho b w).1) trivial q
  · cases es : ρ[i]? with
    | none => rw [es] at hi; exact hi
    | some t =>
      have q := R.at_ i t es
      rw [es] at hi
      cases t with
      | own ds => obtain ⟨b, xs, e1, w, h⟩ := q; rw [e] at e1; cases e1; exact (ho _ w).2 rfl
      | dic ds => obtain ⟨b, xs, e1, w, h⟩ := q; rw [e] at e1; cases e1; exact (ho _ w).2 rfl
      | _ => exact hi
def wipeE : List Nat → Env → Option Env
  | [], ρ => some ρ
  | v :: vs, ρ => (match wipeE vs ρ with
    | some ρ1 => setSl v .un ρ1
    | none => none)
theorem RepS.un {i : Nat} {ρ' : Env} (R : RepS Γ W σ H ρ) (h : setSl i .un ρ = some ρ') : RepS Γ W (σ.set i none) H ρ' := by
  obtain ⟨rfl, hz⟩ := setSl_eq h
  have off : ∀ j, mutS (ρ.set i .un)[j]? → i ≠ j := fun j hj e => by
    subst e
    by_cases hl : i < ρ.length
    · rw [List.getElem?_set_self hl] at hj; exact hj
    · rw [List.getElem?_eq_none (by simpa using hl)] at hj; exact hj
  refine ⟨by simpa using R.len, R.keep, fun j t e => ?_, fun j k a hjk hj hk => ?_, fun a ha => ?_⟩
  · by_cases hi : i = j
    · subst hi
      have hl : i < ρ.length := by
        have := (List.getElem?_eq_some_iff.mp e).1
        simpa using this
      rw [List.getElem?_set_self hl] at e; cases e
      trivial
    · rw [List.getElem?_set_ne hi] at e ⊢
      exact R.at_ j t e
  · have nj := off j hj
    have nk := off k hk
    rw [List.getElem?_set_ne nj] at hj ⊢
    rw [List.getElem?_set_ne nk] at hk ⊢
    exact R.sep j k a hjk hj hk
  · obtain ⟨h1, ds, h2⟩ := R.anc a ha
    have hi : i ≠ 0 := fun z => hz z ds h2
    rw [List.getElem?_set_ne hi, List.getElem?_set_ne hi]
    exact ⟨h1, ds, h2⟩
theorem Ap.un {i : Nat} {ρ' : Env} {a : Addr} (ap : Ap ρ σ a) (h : setSl i .un ρ = some ρ') : Ap ρ' (σ.set i none) a := by
  obtain ⟨rfl, hz⟩ := setSl_eq h
  intro j hj e
  by_cases hi : i = j
  · subst hi
    by_cases hl : i < ρ.length
    · rw [List.getElem?_set_self hl] at hj; exact hj
    · rw [List.getElem?_eq_none (by simpa using hl)] at hj; exact hj
  · rw [List.getElem?_set_ne hi] at hj e
    exact ap j hj e
theorem RepS.wipe : ∀ {vs : List Nat} {ρ' : Env}, RepS Γ W σ H ρ → wipeE vs ρ = some ρ' → RepS Γ W (L2.wipe σ vs) H ρ'
  | [], _, R, h => by cases h; exact R
  | v :: vs, ρ', R, h => by
    unfold wipeE at h
    cases e : wipeE vs ρ with
    | none => rw [e] at h; cases h
    | some ρ1 =>
      rw [e] at h
      exact (RepS.wipe R e).un h
theorem Ap.wipe {a : Addr} : ∀ {vs : List Nat} {ρ' : Env}, Ap ρ σ a → wipeE vs ρ = some ρ' → Ap ρ' (L2.wipe σ vs) a
  | [], _, R, h => by cases h; exact R
  | v :: vs, ρ', R, h => by
    unfold wipeE at h
    cases e : wipeE vs ρ with
    | none => rw [e] at h; cases h
    | some ρ1 =>
      rw [e] at h
      exact (Ap.wipe R e).un h
theorem wipe_at {a : Sg} : ∀ {vs : List Nat} {i : Nat}, i ∈ vs → i < a.length → (L2.wipe a vs)[i]? = some none
  | [], _, h, _ => by cases h
  | v :: vs, i, h, hl => by
    unfold L2.wipe
    by_cases e : v = i
    · subst e
      rw [List.getElem?_set_self (by rw [wipe_length]; exact hl)]
    · rw [List.getElem?_set_ne e]
      exact wipe_at (by rcases List.mem_cons.mp h with z | z; exact absurd z.symm e; exact z) hl
theorem wipe_ext {a b : Sg} {vs : List Nat} (hl : a.length = b.length) (h : ∀ j, j ∉ vs → a[j]? = b[j]?) : L2.wipe a vs = L2.wipe b vs := by
  refine List.ext_getElem? fun i => ?_
  by_cases hi : i ∈ vs
  · by_cases hj : i < a.length
    · rw [wipe_at hi hj, wipe_at hi (by omega)]
    · rw [List.getElem?_eq_none (by rw [wipe_length]; omega), List.getElem?_eq_none (by rw [wipe_length]; omega)]
  · rw [wipe_out hi, wipe_out hi]; exact h i hi
theorem FrS.wipe {vs ts : List Nat} {σ σ2 : Sg} (hts : ∀ i ∈ ts, i ∈ vs) (f : FrS ts (L2.wipe σ vs) σ2) : L2.wipe σ2 vs = L2.wipe σ vs := by
  refine wipe_ext (by rw [f.1, wipe_length]) fun j hj => ?_
  rw [f.2 j fun z => hj (hts j z), wipe_out hj]
/-- the slots as they were -/
def restE (ρ0 : Env) : List Nat → Env → Option Env
  | [], ρ => some ρ
  | v :: vs, ρ => (match restE ρ0 vs ρ with
    | some ρ1 => (match ρ0[v]? with
      | some .un => some (ρ1.set v .un)
      | some (.dat d) => some (ρ1.set v (.dat d))
      | _ => none)
    | none => none)
theorem restE_at {ρ0 : Env} : ∀ {vs : List Nat} {ρ ρ' : Env}, restE ρ0 vs ρ = some ρ' → ρ'.length = ρ.length ∧ (∀ i, i ∉ vs → ρ'[i]? = ρ[i]?) ∧ ∀ i, i ∈ vs → i < ρ.length → ∃ s, ρ'[i]? = some s ∧ ρ0[i]? = some s ∧ (s = .un ∨ ∃ d, s = .dat d)
  | [], ρ, ρ', h => by cases h; exact ⟨rfl, fun _ _ => rfl, fun i hi => by cases hi⟩
  | v :: vs, ρ, ρ', h => by
    unfold restE at h
    cases e : restE ρ0 vs ρ with
    | none => rw [e] at h; cases h
    | some ρ1 =>
      rw [e] at h
      obtain ⟨h1, h2, h3⟩ := restE_at e
      have go : ∀ s, ρ0[v]? = some s → (s = .un ∨ ∃ d, s = .dat d) → ρ' = ρ1.set v s → ρ'.length = ρ.length ∧ (∀ i, i ∉ v :: vs → ρ'[i]? = ρ[i]?) ∧ ∀ i, i ∈ v :: vs → i < ρ.length → ∃ s, ρ'[i]? = some s ∧ ρ0[i]? = some s ∧ (s = .un ∨ ∃ d, s = .dat d) := by
        rintro s hs hk rfl
        refine ⟨by simpa using h1, fun i hi => ?_, fun i hi hl => ?_⟩
        · simp only [List.mem_cons, not_or] at hi
          rw [List.getElem?_set_ne (Ne.symm hi.1)]
          exact h2 i hi.2
        · by_cases ev : v = i
          · subst ev
            exact ⟨s, by rw [List.getElem?_set_self (by omega)], hs, hk⟩
          · rw [List.getElem?_set_ne ev]
            exact h3 i (by rcases List.mem_cons.mp hi with z | z; exact absurd z.symm ev; exact z) hl
      simp only at h
      split at h
      · rename_i hs; cases h; exact go _ hs (.inl rfl) rfl
      · rename_i d hs; cases h; exact go _ hs (.inr ⟨d, rfl⟩) rfl
      · cases h
theorem RepS.rest {vs : List Nat} {H0 : Hp} {ρ0 ρ' : Env} (R0 : RepS Γ W σ H0 ρ0) (g : Grow H0 H) (R : RepS Γ W (L2.wipe σ vs) H ρ) (h : restE ρ0 vs ρ = some ρ') : RepS Γ W σ H ρ' := by
  obtain ⟨h1, h2, h3⟩ := restE_at h
  have hlen : ρ.length = σ.length := by rw [R.len, wipe_length]
  have out : ∀ i, mutS ρ'[i]? → i ∉ vs := fun i hi hv => by
    by_cases hl : i < ρ.length
    · obtain ⟨s, e, _, hk⟩ := h3 i hv hl
      rw [e] at hi
      rcases hk with rfl | ⟨d, rfl⟩ <;> exact hi
    · rw [List.getElem?_eq_none (by omega)] at hi; exact hi
  refine ⟨by rw [h1, hlen], R.keep, fun i t e => ?_, fun i j a hij hi hj => ?_, fun a ha => ?_⟩
  · by_cases hv : i ∈ vs
    · have hl : i < ρ.length := by rw [← h1]; exact (List.getElem?_eq_some_iff.mp e).1
      obtain ⟨s, e1, e2, hk⟩ := h3 i hv hl
      rw [e] at e1; cases e1
      have q := R0.at_ i _ e2
      rcases hk with rfl | ⟨d, rfl⟩
      · trivial
      · obtain ⟨v, e3, h4⟩ := q
        exact ⟨v, e3, h4.grow g⟩
    · rw [h2 i hv] at e
      have q := R.at_ i t e
      rw [wipe_out hv] at q
      exact q
  · have vi := out i hi
    have vj := out j hj
    have q := R.sep i j a hij (by rw [← h2 i vi]; exact hi) (by rw [← h2 j vj]; exact hj)
    rw [wipe_out vi, wipe_out vj] at q
    exact q
  · obtain ⟨e1, ds, e2⟩ := R.anc a ha
    have hv : 0 ∉ vs := fun hv => by
      have hl : 0 < σ.length := by
        have := (List.getElem?_eq_some_iff.mp e1).1
        rw [wipe_length] at this
        exact this
      rw [wipe_at hv hl] at e1; cases e1
    rw [wipe_out hv] at e1
    exact ⟨e1, ds, by rw [h2 0 hv]; exact e2⟩
theorem Ap.rest {vs : List Nat} {ρ0 ρ' : Env} {a : Addr} (hl : ρ.length = σ.length) (ap : Ap ρ (L2.wipe σ vs) a) (h : restE ρ0 vs ρ = some ρ') : Ap ρ' σ a := by
  obtain ⟨h1, h2, h3⟩ := restE_at h
  intro i hi e
  have vi : i ∉ vs := fun hv => by
    by_cases hl : i < ρ.length
    · obtain ⟨s, e, _, hk⟩ := h3 i hv hl
      rw [e] at hi
      rcases hk with rfl | ⟨d, rfl⟩ <;> exact hi
    · rw [List.getElem?_eq_none (by omega)] at hi; exact hi
  exact ap i (by rw [← h2 i vi]; exact hi) (by rw [wipe_out vi]; exact e)
end

def lcLoop (vs : List Nat) (gt : PyData → Env → Option Env) (tt : M Bool) (fe : M PyData) : List PyData → M (List PyData)
  | [], ρ => some ([], ρ)
  | d :: ds, ρ => (match gt d ρ with
    | none => none
    | some ρ1 => (match tt ρ1 with
      | none => none
      | some (false, ρ2) => (match wipeE vs ρ2 with
        | none => none
        | some ρ3 => lcLoop vs gt tt fe ds ρ3)
      | some (true, ρ2) => (match fe ρ2 with
        | none => none
        | some (y, ρ3) => (match wipeE vs ρ3 with
          | none => none
          | some ρ4 => (match lcLoop vs gt tt fe ds ρ4 with
            | none => none
            | some (ys, ρ5) => some (y :: ys, ρ5))))))
def xE (Γ : Wd) (f : M PyData) : TE := fun σ H Q => ∃ W, rdE Γ W f σ H Q
def xT (Γ : Wd) (f : M Bool) : TT := fun σ H Q => ∃ W, rdT Γ W f σ H Q
def xG (Γ : Wd) (ts : List Nat) (gt : PyData → Env → Option Env) : TG := fun v σ H Q => ∃ W, rdG Γ W ts gt v σ H Q
def xI (Γ : Wd) (f : M (List PyData)) : TI := fun σ H R => ∃ W, rdI Γ W f σ H R
theorem lc_turns {Γ : Wd} {W : Wt} {J : It} {ds : List PyData} {H0 Hs : Hp} {σ : Sg} {vs ts : List Nat} {gt : PyData → Env → Option Env} {tt : M Bool} {fe : M PyData} {ρ ρe : Env} {ys pre : List PyData} {D : Addr} {acc0 : List V} {P : Hp → Prop}
    (hts : ∀ i ∈ ts, i ∈ vs) (wk : Wk Γ J ds H0) (g0 : Grow H0 Hs) (R : RepS Γ W (wipe σ vs) Hs ρ) (e : lcLoop vs gt tt fe ds ρ = some (ys, ρe)) (hW : W.kp D = none) (hD : Hs D = some (.lst acc0)) (ha : DfA Γ Hs acc0 pre) (ap : Ap ρ (wipe σ vs) D) (hz : (pre ++ ys).length ≤ 100000)
    (q : ∀ H acc, RepS Γ W (wipe σ vs) H ρe → H D = some (.lst acc) → DfA Γ H acc (pre ++ ys) → Ap ρe (wipe σ vs) D → Grow Hs H → P H) :
    ∃ Wf : Nat → Nat → Hp → Prop, (∃ m, Wf 0 m Hs) ∧ ∀ i m H, Wf i m H → (J.stop i H ∧ P H) ∨ (J.go i H ∧ ∃ Nx : Hp → Prop, (∀ H', Nx H' → ∃ m', m' < m ∧ Wf (i + 1) m' H') ∧ ∀ x H', J.yld i H x H' → xG Γ ts gt x (wipe σ vs) H' fun σ2 H2 => wipe σ2 vs = wipe σ vs ∧ xT Γ tt σ2 H2 fun b H3 =>
      if b = true then xE Γ fe σ2 H3 fun y H4 => ∃ acc, H4 D = some (.lst acc) ∧ acc.length < sizeLine ∧ Nx (upd H4 D (.lst (acc ++ [y]))) else Nx H3) := by
  let Inv' : Nat → Hp → Prop := fun i H => i ≤ ds.length ∧ Grow Hs H ∧ ∃ ρi acc so rest, RepS Γ W (wipe σ vs) H ρi ∧ H D = some (.lst acc) ∧ DfA Γ H acc so ∧ Ap ρi (wipe σ vs) D ∧ lcLoop vs gt tt fe (ds.drop i) ρi = some (rest, ρe) ∧ so ++ rest = pre ++ ys
  refine ⟨fun i m H => m = ds.length - i ∧ Inv' i H, ⟨ds.length, by simp, Nat.zero_le _, .refl _, ρ, acc0, pre, ys, R, hD, ha, ap, by simpa using e, rfl⟩, ?_⟩
  rintro i m H ⟨rfl, hi, g1, ρi, acc, so, rest, Ri, hDi, hai, api, ei, eq⟩
  have gA := g0.trans g1
  rcases Nat.lt_or_ge i ds.length with hlt | hge
  · obtain ⟨go, yl⟩ := (wk H gA i).1 hlt
    have ed : ds.drop i = ds[i] :: ds.drop (i + 1) := List.drop_eq_getElem_cons hlt
    rw [ed, lcLoop] at ei
    refine .inr ⟨go, Inv' (i + 1), fun H' h => ⟨_, by omega, rfl, h⟩, fun x H' y => ?_⟩
    obtain ⟨sm, d, hd, df⟩ := yl x H' y
    rw [List.getElem?_eq_getElem hlt] at hd
    cases hd
    have hD' : H' D = some (.lst acc) := sm _ _ hDi
    have R1 := (Ri.same sm).wide hD' api hW
    cases e3 : gt ds[i] ρi with
    | none => simp only [e3] at ei; cases ei
    | some ρ1 =>
      simp only [e3] at ei
      refine ⟨W.add D (.lst acc), _, ρi, ρ1, R1, df, e3, fun σ2 H2 R2 g2 f2 => ⟨f2.wipe hts, ?_⟩⟩
      have wq := f2.wipe hts
      cases e4 : tt ρ1 with
      | none => simp only [e4] at ei; cases ei
      | some p =>
        obtain ⟨b, ρ2⟩ := p
        refine ⟨W.add D (.lst acc), ρ1, b, ρ2, R2, e4, fun H3 R3 g3 => ?_⟩
        have g13 : Grow H H3 := (Grow.same sm).trans (g2.trans g3)
        cases b with
        | false =>
          simp only [e4] at ei
          refine iteF ?_
          cases e5 : wipeE vs ρ2 with
          | none => simp only [e5] at ei; cases ei
          | some ρ3 =>
            simp only [e5] at ei
            obtain ⟨R4, hD4, ap4⟩ := R3.narrow hW
            refine ⟨hlt, g1.trans g13, ρ3, acc, so, rest, ?_, hD4, hai.grow g13, ?_, ei, eq⟩
            · rw [← wq]; exact R4.wipe e5
            · rw [← wq]; exact ap4.wipe e5
        | true =>
          simp only [e4] at ei
          refine iteT ?_
          cases e5 : fe ρ2 with
          | none => simp only [e5] at ei; cases ei
          | some p =>
            obtain ⟨y1, ρ3⟩ := p
            simp only [e5] at ei
            cases e6 : wipeE vs ρ3 with
            | none => simp only [e6] at ei; cases ei
            | some ρ4 =>
              simp only [e6] at ei
              cases e7 : lcLoop vs gt tt fe (ds.drop (i + 1)) ρ4 with
              | none => simp only [e7] at ei; cases ei
              | some p =>
                obtain ⟨ys', ρ5⟩ := p
                simp only [e7] at ei
                cases ei
                refine ⟨W.add D (.lst acc), ρ2, y1, ρ3, R3, e5, fun yv H4 R4 D4 g4 => ?_⟩
                obtain ⟨R5, hD5, ap5⟩ := R4.narrow hW
                have hmL : MutL (H4 D) := by rw [hD5]; trivial
                have hm := hmL.mut
                have g14 : Grow H H4 := g13.trans g4
                refine ⟨acc, hD5, ?_, hlt, (g1.trans g14).trans (.but hm), ρ4, acc ++ [yv], so ++ [y1], ys', ?_, upd_same, ?_, ?_, e7, ?_⟩
                · have e8 := congrArg List.length eq
                  rw [List.length_append, List.length_cons] at e8
                  rw [hai.length, sizeLine_eq]
                  omega
                · rw [← wq]; exact (R5.off hW hmL ap5).wipe e6
                · exact ((hai.grow g14).append (.cons D4 .nil)).grow (.but hm)
                · rw [← wq]; exact ap5.wipe e6
                · simpa using eq
  · have ee : ds.drop i = [] := List.drop_eq_nil_of_le hge
    rw [ee, lcLoop] at ei
    cases ei
    rw [List.append_nil] at eq
    subst eq
    exact .inl ⟨(wk H gA i).2 hge, q H acc Ri hDi hai api g1⟩

structure DTs (X : Cx) (ifs : List Expr) (tt : M Bool) : Prop where
  pts : ∀ W, PTs X ifs (rdT (wdX X) W tt)
def tAll : M Bool := fun ρ => some (true, ρ)
def mLC (vs : List Nat) (fi : M (List PyData)) (gt : PyData → Env → Option Env) (tt : M Bool) (fe : M PyData) : M (List PyData) := fun ρ => match fi ρ with
  | none => none
  | some (ds, ρ1) => (match wipeE vs ρ1 with
    | none => none
    | some ρ2 => (match lcLoop vs gt tt fe ds ρ2 with
      | none => none
      | some (ys, ρ3) => (match restE ρ1 vs ρ3 with
        | none => none
        | some ρ4 => if ys.length ≤ 100000 then some (ys, ρ4) else none)))
theorem mLC_inv {vs : List Nat} {fi : M (List PyData)} {gt : PyData → Env → Option Env} {tt : M Bool} {fe : M PyData} {ρ ρ' : Env} {ys : List PyData} (h : mLC vs fi gt tt fe ρ = some (ys, ρ')) :
    ∃ ds ρ1 ρ2 ρ3, fi ρ = some (ds, ρ1) ∧ wipeE vs ρ1 = some ρ2 ∧ lcLoop vs gt tt fe ds ρ2 = some (ys, ρ3) ∧ restE ρ1 vs ρ3 = some ρ' ∧ ys.length ≤ 100000 := by
  unfold mLC at h
  cases e1 : fi ρ with
  | none => simp only [e1] at h; cases h
  | some p =>
    obtain ⟨ds, ρ1⟩ := p
    simp only [e1] at h
    cases e2 : wipeE vs ρ1 with
    | none => simp only [e2] at h; cases h
    | some ρ2 =>
      simp only [e2] at h
      cases e3 : lcLoop vs gt tt fe ds ρ2 with
      | none => simp only [e3] at h; cases h
      | some p =>
        obtain ⟨zs, ρ3⟩ := p
        simp only [e3] at h
        cases e4 : restE ρ1 vs ρ3 with
        | none => simp only [e4] at h; cases h
        | some ρ4 =>
          simp only [e4] at h
          split at h
          · rename_i hz
            cases h
            exact ⟨ds, ρ1, ρ2, ρ3, rfl, e2, e3, e4, hz⟩
          · cases h
section
variable {X : Cx} {elt tg iter tg1 iter1 c : Expr} {ifs ifs1 : List Expr} {scope : Scope} {own : List (Str × Nat)} {pos : Pos} {fi fi1 : M (List PyData)} {gt gt1 : PyData → Env → Option Env} {tt tt1 : M Bool} {fe : M PyData} {ts ts1 vs vs1 : List Nat}
theorem DE.x (h : DE X elt fe) : PE X elt (xE (wdX X) fe) := ⟨fun pins s σ H Q I ⟨W, hq⟩ => (h.pe W).run pins s σ H Q I hq⟩
theorem DTs.x (h : DTs X ifs tt) : PTs X ifs (xT (wdX X) tt) := ⟨fun pins s σ H Q I ⟨W, hq⟩ => (h.pts W).run pins s σ H Q I hq⟩
theorem DG.x (h : DG X tg ts gt) : PG X tg (xG (wdX X) ts gt) := ⟨fun pins s σ H v u Q I r ⟨W, hq⟩ => (h.pg W).run pins s σ H v u Q I r hq⟩
theorem DI.x (h : DI X tg iter fi) : PI X tg iter (xI (wdX X) fi) := ⟨fun pins s σ H R I ⟨W, hq⟩ => (h.pi W).run pins s σ H R I hq⟩
theorem _root_.L2.PTs.imp {t t' : TT} (h : PTs X ifs t) (i : ∀ σ H Q, t' σ H Q → t σ H Q) : PTs X ifs t' := ⟨fun pins s σ H Q I hq => h.run pins s σ H Q I (i _ _ _ hq)⟩
theorem dts_nil : DTs X [] tAll := ⟨fun W => pts_nil.imp fun σ H Q ⟨ρ, b, ρ', R, e, k⟩ => by cases e; exact k H R (.refl H)⟩
theorem dts_one (h : DT X c tt) : DTs X [c] tt := ⟨fun W => pts_one (h.pt W)⟩
abbrev AllB (X : Cx) (scope : Scope) (J : Cx → Prop) : Prop := ∀ (s : Shared) (H : Hp) (C : Addr) (cl : List (Str × Addr)) (fp : List Addr), J (X.blk s H scope (compEnvC scope cl C X.env) fp)
theorem lc_imp {Γ : Wd} {W : Wt} (hts : ∀ i ∈ ts, i ∈ vs) (σ : Sg) (H : Hp) (Q : VK) (h : rdS Γ W (mLst (mLC vs fi gt tt fe)) σ H Q) : tLc (xI Γ fi) (xG Γ ts gt) (xT Γ tt) (xE Γ fe) vs σ H Q := by
  obtain ⟨ρ, s, ρ', R, e, k⟩ := h
  unfold mLst at e
  split at e
  · rename_i ys ρ9 e0
    cases e
    obtain ⟨ds, ρ1, ρ2, ρ3, e1, e2, e3, e4, hz⟩ := mLC_inv e0
    refine ⟨W, ρ, ds, ρ1, R, e1, fun J H1 R1 g1 wk D hD => ?_⟩
    have hWD := R1.kp_none hD
    have hm : Grow H1 (upd H1 D (.lst [])) := .new hD
    have R2 : RepS Γ W σ (upd H1 D (.lst [])) ρ1 := R1.same (Same.new hD)
    have ap : Ap ρ1 σ D := R1.ap hD
    refine lc_turns hts wk hm (R2.wipe e2) e3 hWD upd_same .nil (ap.wipe e2) (by simpa using hz) fun H5 acc R5 hD5 ha5 ap5 g5 => ?_
    have R6 := R1.rest (hm.trans g5) R5 e4
    exact k _ H5 R6 ⟨D, acc, rfl, hWD, hD5, by simpa using ha5, ap5.rest (by rw [R5.len, wipe_length]) e4⟩ (g1.trans (hm.trans g5))
  · cases e
/-- [elt for tg in iter if ..] -/
theorem se_lc (hc : X.calm = true) (hN : X.N.Nodup) (hi : DI X tg iter fi) (own : List (Str × Nat)) (ok : blkC X.N X.env.scope scope own = true) (hg : AllB X scope fun Y => DG Y tg ts gt) (ht : AllB X scope fun Y => DTs Y ifs tt) (he : AllB X scope fun Y => DE Y elt fe)
    (hv : own.map (·.2) = vs := by rfl) (hts : ∀ i ∈ ts, i ∈ vs := by decide) (hs : ∀ x, foldedSetIterable iter X.env x = pure x := by intro _; rfl) :
    SE X (.ListComp elt [⟨tg, iter, ifs, 0⟩] scope pos) (mLst (mLC vs fi gt tt fe)) := by
  subst hv
  exact ⟨fun W => (pe_lc (wi := xI (wdX X) fi) (g := xG (wdX X) ts gt) (tt := xT (wdX X) tt) (te := xE (wdX X) fe) hc hN hi.x (blkOk_by ok) (fun s H C cl fp => (hg s H C cl fp).x) (fun s H C cl fp => (ht s H C cl fp).x) (fun s H C cl fp => (he s H C cl fp).x) hs).imp (lc_imp hts)⟩
end

def lcLoop2 (vs vs1 : List Nat) (gt : PyData → Env → Option Env) (tt : M Bool) (fi1 : M (List PyData)) (gt1 : PyData → Env → Option Env) (tt1 : M Bool) (fe : M PyData) : List PyData → M (List PyData)
  | [], ρ => some ([], ρ)
  | d :: ds, ρ => (match gt d ρ with
    | none => none
    | some ρ1 => (match tt ρ1 with
      | none => none
      | some (false, ρ2) => (match wipeE vs ρ2 with
        | none => none
        | some ρ3 => lcLoop2 vs vs1 gt tt fi1 gt1 tt1 fe ds ρ3)
      | some (true, ρ2) => (match fi1 ρ2 with
        | none => none
        | some (ds1, ρ3) => (match wipeE vs1 ρ3 with
          | none => none
          | some ρ4 => (match lcLoop vs1 gt1 tt1 fe ds1 ρ4 with
            | none => none
            | some (ys, ρ5) => (match wipeE vs ρ5 with
              | none => none
              | some ρ6 => (match lcLoop2 vs vs1 gt tt fi1 gt1 tt1 fe ds ρ6 with
                | none => none
                | some (zs, ρ7) => some (ys ++ zs, ρ7))))))))
def mLC2 (vs vs1 : List Nat) (fi : M (List PyData)) (gt : PyData → Env → Option Env) (tt : M Bool) (fi1 : M (List PyData)) (gt1 : PyData → Env → Option Env) (tt1 : M Bool) (fe : M PyData) : M (List PyData) := fun ρ => match fi ρ with
  | none => none
  | some (ds, ρ1) => (match wipeE vs ρ1 with
    | none => none
    | some ρ2 => (match lcLoop2 vs vs1 gt tt fi1 gt1 tt1 fe ds ρ2 with
      | none => none
      | some (ys, ρ3) => (match restE ρ1 vs ρ3 with
        | none => none
        | some ρ4 => if ys.length ≤ 100000 then some (ys, ρ4) else none)))
section
variable {X : Cx} {elt tg iter tg1 iter1 c : Expr} {ifs ifs1 : List Expr} {scope : Scope} {pos : Pos} {fi fi1 : M (List PyData)} {gt gt1 : PyData → Env → Option Env} {tt tt1 : M Bool} {fe : M PyData} {ts ts1 vs vs1 : List Nat}
theorem mLC2_inv {ρ ρ' : Env} {ys : List PyData} (h : mLC2 vs vs1 fi gt tt fi1 gt1 tt1 fe ρ = some (ys, ρ')) :
    ∃ ds ρ1 ρ2 ρ3, fi ρ = some (ds, ρ1) ∧ wipeE vs ρ1 = some ρ2 ∧ lcLoop2 vs vs1 gt tt fi1 gt1 tt1 fe ds ρ2 = some (ys, ρ3) ∧ restE ρ1 vs ρ3 = some ρ' ∧ ys.length ≤ 100000 := by
  unfold mLC2 at h
  cases e1 : fi ρ with
  | none => simp only [e1] at h; cases h
  | some p =>
    obtain ⟨ds, ρ1⟩ := p
    simp only [e1] at h
    cases e2 : wipeE vs ρ1 with
    | none => simp only [e2] at h; cases h
    | some ρ2 =>
      simp only [e2] at h
      cases e3 : lcLoop2 vs vs1 gt tt fi1 gt1 tt1 fe ds ρ2 with
      | none => simp only [e3] at h; cases h
      | some p =>
        obtain ⟨zs, ρ3⟩ := p
        simp only [e3] at h
        cases e4 : restE ρ1 vs ρ3 with
        | none => simp only [e4] at h; cases h
        | some ρ4 =>
          simp only [e4] at h
          split at h
          · rename_i hz
            cases h
            exact ⟨ds, ρ1, ρ2, ρ3, rfl, e2, e3, e4, hz⟩
          · cases h
theorem wipe_sub {σ : Sg} (hv : ∀ i ∈ vs1, i ∈ vs) : wipe (wipe σ vs1) vs = wipe σ vs :=
  wipe_ext (by rw [wipe_length]) fun j hj => wipe_out fun z => hj (hv j z)
theorem lc2_imp {Γ : Wd} {W : Wt} (hts : ∀ i ∈ ts, i ∈ vs) (hts1 : ∀ i ∈ ts1, i ∈ vs1) (hv : ∀ i ∈ vs1, i ∈ vs) (σ : Sg) (H : Hp) (Q : VK) (h : rdS Γ W (mLst (mLC2 vs vs1 fi gt tt fi1 gt1 tt1 fe)) σ H Q) :
    tLc2 (xI Γ fi) (xG Γ ts gt) (xT Γ tt) (xI Γ fi1) (xG Γ ts1 gt1) (xT Γ tt1) (xE Γ fe) vs vs1 σ H Q := by
  obtain ⟨ρ, s, ρ', R, e, k⟩ := h
  unfold mLst at e
  split at e
  · rename_i ys ρ9 e0
    cases e
    obtain ⟨ds, ρ1, ρ2, ρ3, e1, e2, e3, e4, hz⟩ := mLC2_inv e0
    refine ⟨W, ρ, ds, ρ1, R, e1, fun J H1 R1 g1 wk D hD => ?_⟩
    have hW := R1.kp_none hD
    have gN : Grow H1 (upd H1 D (.lst [])) := .new hD
    have R2 : RepS Γ W σ (upd H1 D (.lst [])) ρ1 := R1.same (Same.new hD)
    have ap : Ap ρ1 σ D := R1.ap hD
    let Inv' : Nat → Hp → Prop := fun i H => i ≤ ds.length ∧ Grow H1 H ∧ ∃ ρi acc so rest, RepS Γ W (wipe σ vs) H ρi ∧ H D = some (.lst acc) ∧ DfA Γ H acc so ∧ Ap ρi (wipe σ vs) D ∧ lcLoop2 vs vs1 gt tt fi1 gt1 tt1 fe (ds.drop i) ρi = some (rest, ρ3) ∧ so ++ rest = ys
    refine ⟨fun i m H => m = ds.length - i ∧ Inv' i H, ⟨ds.length, by simp, Nat.zero_le _, gN, ρ2, [], [], ys, R2.wipe e2, upd_same, .nil, ap.wipe e2, by simpa using e3, rfl⟩, ?_⟩
    rintro i m H ⟨rfl, hi, gA, ρi, acc, so, rest, Ri, hDi, hai, api, ei, eq⟩
    rcases Nat.lt_or_ge i ds.length with hlt | hge
    · obtain ⟨go, yl⟩ := (wk H gA i).1 hlt
      have ed : ds.drop i = ds[i] :: ds.drop (i + 1) := List.drop_eq_getElem_cons hlt
      rw [ed, lcLoop2] at ei
      refine .inr ⟨go, Inv' (i + 1), fun H' h => ⟨_, by omega, rfl, h⟩, fun x H' y => ?_⟩
      obtain ⟨sm, d, hd, df⟩ := yl x H' y
      rw [List.getElem?_eq_getElem hlt] at hd
      cases hd
      have hD' : H' D = some (.lst acc) := sm _ _ hDi
      have R1' := (Ri.same sm).wide hD' api hW
      cases e3 : gt ds[i] ρi with
      | none => simp only [e3] at ei; cases ei
      | some ρ1' =>
        simp only [e3] at ei
        refine ⟨W.add D (.lst acc), _, ρi, ρ1', R1', df, e3, fun σ2 H2 R2' g2 f2 => ⟨f2.wipe hts, ?_⟩⟩
        have wq := f2.wipe hts
        cases e4' : tt ρ1' with
        | none => simp only [e4'] at ei; cases ei
        | some p =>
          obtain ⟨b, ρ2'⟩ := p
          refine ⟨W.add D (.lst acc), ρ1', b, ρ2', R2', e4', fun H3 R3 g3 => ?_⟩
          have g13 : Grow H H3 := (Grow.same sm).trans (g2.trans g3)
          cases b with
          | false =>
            simp only [e4'] at ei
            refine iteF ?_
            cases e5 : wipeE vs ρ2' with
            | none => simp only [e5] at ei; cases ei
            | some ρ3' =>
              simp only [e5] at ei
              obtain ⟨R4, hD4, ap4⟩ := R3.narrow hW
              refine ⟨hlt, gA.trans g13, ρ3', acc, so, rest, ?_, hD4, hai.grow g13, ?_, ei, eq⟩
              · rw [← wq]; exact R4.wipe e5
              · rw [← wq]; exact ap4.wipe e5
          | true =>
            simp only [e4'] at ei
            refine iteT ?_
            cases e5 : fi1 ρ2' with
            | none => simp only [e5] at ei; cases ei
            | some p =>
            obtain ⟨ds1, ρ3'⟩ := p
            simp only [e5] at ei
            cases e6 : wipeE vs1 ρ3' with
            | none => simp only [e6] at ei; cases ei
            | some ρ4' =>
            simp only [e6] at ei
            cases e7 : lcLoop vs1 gt1 tt1 fe ds1 ρ4' with
            | none => simp only [e7] at ei; cases ei
            | some p =>
            obtain ⟨ys1, ρ5'⟩ := p
            simp only [e7] at ei
            cases e8 : wipeE vs ρ5' with
            | none => simp only [e8] at ei; cases ei
            | some ρ6' =>
            simp only [e8] at ei
            cases e9 : lcLoop2 vs vs1 gt tt fi1 gt1 tt1 fe (ds.drop (i + 1)) ρ6' with
            | none => simp only [e9] at ei; cases ei
            | some p =>
            obtain ⟨zs, ρ7'⟩ := p
            simp only [e9] at ei
            cases ei
            refine ⟨W.add D (.lst acc), ρ2', ds1, ρ3', R3, e5, fun J1 H4 R4 g4 wk1 => ?_⟩
            obtain ⟨R5, hD5, ap5⟩ := R4.narrow hW
            have g14 : Grow H H4 := g13.trans g4
            refine lc_turns hts1 wk1 (.refl H4) (R5.wipe e6) e7 hW hD5 (hai.grow g14) (ap5.wipe e6) ?_ fun H6 acc6 R6 hD6 ha6 ap6 g6 => ?_
            · have e10 := congrArg List.length eq
              simp only [List.length_append] at e10 ⊢
              omega
            · have wq2 : wipe (wipe σ2 vs1) vs = wipe σ vs := (wipe_sub hv).trans wq
              refine ⟨hlt, gA.trans (g14.trans g6), ρ6', acc6, so ++ ys1, zs, ?_, hD6, ha6, ?_, e9, by simpa using eq⟩
              · rw [← wq2]; exact R6.wipe e8
              · rw [← wq2]; exact ap6.wipe e8
    · have ee : ds.drop i = [] := List.drop_eq_nil_of_le hge
      rw [ee, lcLoop2] at ei
      cases ei
      rw [List.append_nil] at eq
      subst eq
      have R6 := R1.rest gA Ri e4
      exact .inl ⟨(wk H gA i).2 hge, k _ H R6 ⟨D, acc, rfl, hW, hDi, hai, api.rest (by rw [Ri.len, wipe_length]) e4⟩ (g1.trans gA)⟩
  · cases e
theorem se_lc2 (hc : X.calm = true) (hN : X.N.Nodup) (hi : DI X tg iter fi) (own : List (Str × Nat)) (ok : blkC X.N X.env.scope scope own = true) (vs1 : List Nat) (hg : AllB X scope fun Y => DG Y tg ts gt) (ht : AllB X scope fun Y => DTs Y ifs tt)
    (hi1 : AllB X scope fun Y => DI Y tg1 iter1 fi1) (hg1 : AllB X scope fun Y => DG Y tg1 ts1 gt1) (ht1 : AllB X scope fun Y => DTs Y ifs1 tt1) (he : AllB X scope fun Y => DE Y elt fe)
    (hv : own.map (·.2) = vs := by rfl) (hts : ∀ i ∈ ts, i ∈ vs := by decide) (hts1 : ∀ i ∈ ts1, i ∈ vs1 := by decide) (hvs : ∀ i ∈ vs1, i ∈ vs := by decide) (hs : ∀ x, foldedSetIterable iter X.env x = pure x := by intro _; rfl) (hs1 : ∀ env x, foldedSetIterable iter1 env x = pure x := by intro _ _; rfl) :
    SE X (.ListComp elt [⟨tg, iter, ifs, 0⟩, ⟨tg1, iter1, ifs1, 0⟩] scope pos) (mLst (mLC2 vs vs1 fi gt tt fi1 gt1 tt1 fe)) := by
  subst hv
  exact ⟨fun W => (pe_lc2 (wi := xI (wdX X) fi) (g := xG (wdX X) ts gt) (tt := xT (wdX X) tt) (wi1 := xI (wdX X) fi1) (g1 := xG (wdX X) ts1 gt1) (tt1 := xT (wdX X) tt1) (te := xE (wdX X) fe) hc hN hi.x (blkOk_by ok) hvs (fun s H C cl fp => (hg s H C cl fp).x) (fun s H C cl fp => (ht s H C cl fp).x)
    (fun s H C cl fp => (hi1 s H C cl fp).x) (fun s H C cl fp => (hg1 s H C cl fp).x) (fun s H C cl fp => (ht1 s H C cl fp).x) (fun s H C cl fp => (he s H C cl fp).x) hs hs1).imp (lc2_imp hts hts1 hvs)⟩
end
end Dn
namespace Dn
open PySem PySem.Spec PyProof.Rows L2

def storeE (kvs : List (PyData × PyData)) (k d : PyData) : List (PyData × PyData) :=
  if (kvs.any fun kv => PyData.eqv kv.1 k) = true then kvs.map fun kv => if PyData.eqv kv.1 k = true then (kv.1, d) else kv else kvs ++ [(k, d)]
def getE (kvs : List (PyData × PyData)) (k : PyData) : Option PyData := (kvs.find? fun kv => PyData.eqv kv.1 k).map (·.2)
def popE (kvs : List (PyData × PyData)) (k : PyData) : List (PyData × PyData) := kvs.filter fun kv => !(PyData.eqv kv.1 k)
section
variable {Γ : Wd} {H : Hp}
theorem DfE.append : ∀ {xs ys : List Ent} {kvs kws : List (PyData × PyData)}, DfE Γ H xs kvs → DfE Γ H ys kws → DfE Γ H (xs ++ ys) (kvs ++ kws)
  | _, _, _, _, .nil, h => h
  | _, _, _, _, .cons h1 h2 h3 h4, h => .cons h1 h2 h3 (DfE.append h4 h)
theorem atKey_cons (x : Ent) (xs : List Ent) (k : NestedKey) : atKey (x :: xs) k = if x.1 = k then some x.2 else atKey xs k := by
  unfold atKey
  by_cases h : x.1 = k
  · simp [h]
  · simp [h]
theorem DfE.anyKey (k : NestedKey) : ∀ {xs : List Ent} {kvs : List (PyData × PyData)}, DfE Γ H xs kvs → (kvs.any fun kv => PyData.eqv kv.1 k.data) = (atKey xs k).isSome
  | _, _, .nil => rfl
  | _, _, .cons (k := j) (xs := ys) h1 h2 h3 h4 => by
    rw [List.any_cons, DfE.anyKey k h4, eqv_dec, atKey_cons]
    by_cases e : j = k <;> simp [e]
theorem DfE.putAt (k : NestedKey) {v : V} {u : Value} {d : PyData} (r : RelV v u) (hd : Df Γ H v d) : ∀ {xs : List Ent} {kvs : List (PyData × PyData)}, DfE Γ H xs kvs →
    DfE Γ H (xs.map (PySem.putAt k u)) (kvs.map fun kv => if PyData.eqv kv.1 k.data = true then (kv.1, d) else kv)
  | _, _, .nil => .nil
  | _, _, .cons (k := j) (t := t) (u := u') h1 h2 h3 h4 => by
    rw [List.map_cons, List.map_cons]
    show DfE Γ H ((if j = k then (j, t, u) else (j, t, u')) :: _) _
    simp only [eqv_dec]
    by_cases e : j = k
    · subst e
      simp only [decide_true, if_true]
      exact .cons h1 r hd (DfE.putAt j r hd h4)
    · simp only [e, decide_false, if_false, Bool.false_eq_true]
      exact .cons h1 h2 h3 (DfE.putAt k r hd h4)
theorem DfE.store {xs : List Ent} {kvs : List (PyData × PyData)} {k : NestedKey} {t : Addr} {v : V} {u : Value} {d : PyData} (h : DfE Γ H xs kvs) (hk : Df Γ H (.ref t) k.data) (r : RelV v u) (hd : Df Γ H v d) :
    DfE Γ H (storedH xs k t u) (storeE kvs k.data d) := by
  unfold storedH storeE
  rw [h.anyKey k]
  split
  · exact h.putAt k r hd
  · exact h.append (.cons hk r hd .nil)
theorem DfE.pop (k : NestedKey) : ∀ {xs : List Ent} {kvs : List (PyData × PyData)}, DfE Γ H xs kvs → DfE Γ H (withoutH xs k) (popE kvs k.data)
  | _, _, .nil => .nil
  | _, _, .cons (k := j) h1 h2 h3 h4 => by
    have q := DfE.pop k h4
    unfold withoutH popE at *
    rw [List.filter_cons, List.filter_cons]
    simp only [eqv_dec]
    by_cases e : j = k
    · simp only [e, ne_eq, not_true_eq_false, decide_false, decide_true, Bool.not_true, Bool.false_eq_true, if_false]
      exact q
    · simp only [e, ne_eq, not_false_eq_true, decide_true, decide_false, Bool.not_false, if_true]
      exact .cons h1 h2 h3 q
theorem DfE.get (k : NestedKey) : ∀ {xs : List Ent} {kvs : List (PyData × PyData)} {d : PyData}, DfE Γ H xs kvs → getE kvs k.data = some d → ∃ p v, atKey xs k = some p ∧ RelV v p.2 ∧ Df Γ H v d
  | _, _, _, .nil, h => by simp [getE] at h
  | _, _, _, .cons (k := j) (v := v) (t := t) (u := u) h1 h2 h3 h4, h => by
    rw [atKey_cons]
    unfold getE at h
    rw [List.find?_cons] at h
    simp only [eqv_dec] at h
    by_cases e : j = k
    · simp only [e, decide_true, Option.map_some, Option.some.injEq] at h
      subst h
      exact ⟨(t, u), v, by simp [e], h2, h3⟩
    · simp only [e, decide_false] at h
      simp only [e, if_false]
      exact DfE.get k h4 h
end

section
variable {X : Cx} {pins : List (Addr × Obj)} {σ : Sg} {H : Hp} {s : Shared} {D : Addr} {xs : List Ent} {kvs : List (PyData × PyData)}
theorem keyRoom {A : Around} (h : A.units + 9 < cLine) : (nestedKind X.prog X.w).room A.in1 := show A.units + 1 + 8 < cLine by omega
theorem dO_of (I : Inv X pins σ H s) (hD : Rd H D (dO (wdX X) D xs)) (he : DfE (wdX X) H xs kvs) : s.heap.DictOfH (nestedKind X.prog X.w) D xs ∧ (D == sysModules) = false ∧ xs.length ≤ sizeLine ∧ ∀ x ∈ xs, x.1.depth ≤ 8 := by
  obtain ⟨o, es, ep, ho, hx, hd, hl, hn, hs, hz, hdp⟩ := dict_raw I hD
  exact ⟨⟨o, es, ep, ho, hx, hd, hl, fun x hx => ⟨nested_of I _ _ _ (keys_of he x hx) rfl, hdp x hx⟩, hn⟩, hs, hz, hdp⟩
theorem dO_new {H' : Hp} {h' : Heap} (hs : (D == sysModules) = false) (hz : xs.length ≤ sizeLine) (dd : h'.DictOfH (nestedKind X.prog X.w) D xs) : ObjOk X.prog X.w H' h' D (dO (wdX X) D xs) := by
  obtain ⟨o, es, ep, ho, hx, hd, hl, his, hn⟩ := dd
  refine ⟨⟨o, es, ep, ho, hx, hd, hl, hn, hs, hz, fun x hx => (his x hx).2⟩, ⟨o, ho⟩, fun h1 h2 ⟨o, es, ep, ho, r⟩ k => ⟨o, es, ep, k o ho, r⟩⟩
theorem storedH_len (xs : List Ent) (k : NestedKey) (t : Addr) (u : Value) : (storedH xs k t u).length ≤ xs.length + 1 := by
  unfold storedH; split <;> simp
theorem withoutH_len (xs : List Ent) (k : NestedKey) : (withoutH xs k).length ≤ xs.length := List.length_filter_le _ _
/-- an entry is stored by a comprehension or a display -/
theorem dO_dictSet {E : Value → Shared → Prop} {k : NestedKey} {t : Addr} {v : V} {r : Value} {Q : Unit → Shared → Prop} (I : Inv X pins σ H s) (hu : X.A.units + 9 < cLine) (hD : H D = some (dO (wdX X) D xs)) (he : DfE (wdX X) H xs kvs) (hz : xs.length < sizeLine)
    (hk : Df (wdX X) H (.ref t) k.data) (hdp : k.depth ≤ 8) (h : ∀ s', Inv X pins σ (upd H D (dO (wdX X) D (storedH xs k t r))) s' → Q () s') : wpAny (model X.prog X.w) X.A (dictSet D (.ref t) r) Q E s := by
  obtain ⟨dd, hs, _, _⟩ := dO_of I (.inl hD) he
  refine wpAny_dictSet_heap (knd := nestedKind X.prog X.w) (k := k) (hsz := by omega) (show X.A.units + 8 < cLine by omega) ⟨nested_of I _ _ _ hk rfl, hdp⟩ dd fun h' dd' sb => h _ ?_
  have he' : ∃ q, h'.get? D = some q := let ⟨q, _, _, hq, _⟩ := dd'; ⟨q, hq⟩
  have := storedH_len xs k t r
  exact d_write I (by rw [hD]; trivial) sb he' (dO_new hs (by omega) dd')
/-- d[k] = v -/
theorem dO_setItem {E : Value → Shared → Prop} {k : NestedKey} {t : Addr} {v : V} {r : Value} {Q : Unit → Shared → Prop} (I : Inv X pins σ H s) (hu : X.A.units + 9 < cLine) (hD : H D = some (dO (wdX X) D xs)) (he : DfE (wdX X) H xs kvs) (hz : xs.length < sizeLine)
    (hk : Df (wdX X) H (.ref t) k.data) (hdp : k.depth ≤ 8) (h : ∀ s', Inv X pins σ (upd H D (dO (wdX X) D (storedH xs k t r))) s' → Q () s') : wpAny (model X.prog X.w) X.A (setItem (.ref D) (.ref t) r) Q E s := by
  obtain ⟨dd, hs, _, _⟩ := dO_of I (.inl hD) he
  refine wpAny_setItem_heap (knd := nestedKind X.prog X.w) (k := k) (hsz := by omega) (keyRoom hu) ⟨nested_of I _ _ _ hk rfl, hdp⟩ dd fun h' dd' sb => h _ ?_
  have he' : ∃ q, h'.get? D = some q := let ⟨q, _, _, hq, _⟩ := dd'; ⟨q, hq⟩
  have := storedH_len xs k t r
  exact d_write I (by rw [hD]; trivial) sb he' (dO_new hs (by omega) dd')
/-- d.pop(k) of a key that is there -/
theorem dO_pop {k : NestedKey} {t : Addr} {d : PyData} {Q : VK} (I : Inv X pins σ H s) (hu : X.A.units + 9 < cLine) (hD : H D = some (dO (wdX X) D xs)) (he : DfE (wdX X) H xs kvs)
    (hk : Df (wdX X) H (.ref t) k.data) (hdp : k.depth ≤ 8) (hg : getE kvs k.data = some d) (h : ∀ v, Df (wdX X) H v d → Q v (upd H D (dO (wdX X) D (withoutH xs k)))) : wpAny (model X.prog X.w) X.A (call (.builtin "dict.pop") [.ref D, .ref t]) (EP X pins σ Q) X.xe s := by
  obtain ⟨dd, hs, hz, _⟩ := dO_of I (.inl hD) he
  obtain ⟨p, v, hp, rp, hv⟩ := he.get k hg
  refine call_pop_heap (knd := nestedKind X.prog X.w) (k := k) (hsz := hz) (.inl rfl) (F.args_dict_pop_2 _ _) (keyRoom hu) ⟨nested_of I _ _ _ hk rfl, hdp⟩ hs dd hp fun h' dd' sb => ?_
  have he' : ∃ q, h'.get? D = some q := let ⟨q, _, _, hq, _⟩ := dd'; ⟨q, hq⟩
  have := withoutH_len xs k
  exact ⟨v, _, d_write I (by rw [hD]; trivial) sb he' (dO_new hs (by omega) dd'), rp, h v hv⟩
theorem dO_empty {H' : Hp} (h : Heap) (hb : sysModules < h.objs.size) : ObjOk X.prog X.w H' (h.push { cls := .type "dict", data := .dict #[] }) h.objs.size (dO (wdX X) h.objs.size []) :=
  dO_new (beq_eq_false_iff_ne.mpr (Ne.symm (Nat.ne_of_lt hb))) (Nat.zero_le _) (Heap.DictOfH.new h)
end

section
variable {Γ : Wd} {W : Wt} {σ : Sg} {H : Hp} {ρ : Env}
theorem RepS.dic_put {i : Nat} {kvs kws : List (PyData × PyData)} {a : Addr} {ys : List Ent} (R : RepS Γ W σ H ρ) (e : ρ[i]? = some (.dic kvs)) (ha : σ[i]? = some (some (.ref a))) (hd : DfE Γ H ys kws) (hm : Mut (H a)) :
    RepS Γ W σ (upd H a (dO Γ a ys)) (ρ.set i (.dic kws)) := by
  obtain ⟨b, xs, e1, w, h1, h2⟩ := R.at_ i _ e
  rw [ha] at e1; cases e1
  exact R.upd_at (k := i) (by rw [e]; trivial) ha trivial (.inr ⟨kvs, e⟩) ⟨a, ys, ha, w, upd_same, hd.grow (.but hm)⟩
theorem setSl_get {i : Nat} {s : Sl} {ρ' : Env} {t : Sl} (h : setSl i s ρ = some ρ') (e : ρ[i]? = some t) : ρ'[i]? = some s := by
  obtain ⟨rfl, _⟩ := setSl_eq h
  exact List.getElem?_set_self (List.getElem?_eq_some_iff.mp e).1
/-- a slot is forgotten; the value stays -/
theorem RepS.drop {i : Nat} {ρ' : Env} (R : RepS Γ W σ H ρ) (h : setSl i .un ρ = some ρ') : RepS Γ W σ H ρ' := by
  obtain ⟨rfl, hz⟩ := setSl_eq h
  have off : ∀ j, mutS (ρ.set i .un)[j]? → i ≠ j := fun j hj e => by
    subst e
    by_cases hl : i < ρ.length
    · rw [List.getElem?_set_self hl] at hj; exact hj
    · rw [List.getElem?_eq_none (by simpa using hl)] at hj; exact hj
  refine ⟨by simpa using R.len, R.keep, fun j t e => ?_, fun j k a hjk hj hk => ?_, fun a ha => ?_⟩
  · by_cases hi : i = j
    · subst hi
      have hl : i < ρ.length := by
        have := (List.getElem?_eq_some_iff.mp e).1
        simpa using this
      rw [List.getElem?_set_self hl] at e; cases e
      trivial
    · rw [List.getElem?_set_ne hi] at e
      exact R.at_ j t e
  · rw [List.getElem?_set_ne (off j hj)] at hj
    rw [List.getElem?_set_ne (off k hk)] at hk
    exact R.sep j k a hjk hj hk
  · obtain ⟨h1, ds, h2⟩ := R.anc a ha
    have hi : i ≠ 0 := fun z => hz z ds h2
    rw [List.getElem?_set_ne hi]
    exact ⟨h1, ds, h2⟩
theorem RepS.drop_ap {i : Nat} {ρ' : Env} {a : Addr} (R : RepS Γ W σ H ρ) (h : setSl i .un ρ = some ρ') (hm : mutS ρ[i]?) (ha : σ[i]? = some (some (.ref a))) : Ap ρ' σ a := by
  obtain ⟨rfl, hz⟩ := setSl_eq h
  intro j hj e
  by_cases hi : i = j
  · subst hi
    by_cases hl : i < ρ.length
    · rw [List.getElem?_set_self hl] at hj; exact hj
    · rw [List.getElem?_eq_none (by simpa using hl)] at hj; exact hj
  · rw [List.getElem?_set_ne hi] at hj
    exact R.sep i j a hi hm hj ha e
theorem RepS.undat {i : Nat} {v : V} {d : PyData} {ρ' : Env} (R : RepS Γ W σ H ρ) (e : ρ[i]? = some .un) (ha : σ[i]? = some (some v)) (hd : Df Γ H v d) (h : ρ.set i (.dat d) = ρ') : RepS Γ W σ H ρ' := by
  subst h
  have hlt : i < ρ.length := (List.getElem?_eq_some_iff.mp e).1
  have off : ∀ j, mutS (ρ.set i (.dat d))[j]? → mutS ρ[j]? := fun j hj => by
    by_cases hi : i = j
    · subst hi; rw [List.getElem?_set_self hlt] at hj; exact hj.elim
    · rw [List.getElem?_set_ne hi] at hj; exact hj
  refine ⟨by simpa using R.len, R.keep, fun j t ej => ?_, fun j k a hjk hj hk => R.sep j k a hjk (off j hj) (off k hk), fun a haa => ?_⟩
  · by_cases hi : i = j
    · subst hi
      rw [List.getElem?_set_self hlt] at ej; cases ej
      exact ⟨v, ha, hd⟩
    · rw [List.getElem?_set_ne hi] at ej
      exact R.at_ j t ej
  · obtain ⟨h1, ds, h2⟩ := R.anc a haa
    refine ⟨h1, ds, ?_⟩
    by_cases hi : i = 0
    · subst hi; rw [e] at h2; cases h2
    · rw [List.getElem?_set_ne hi]; exact h2
end
/-- a slot's value, as data from now on -/
def eFz (i : Nat) : M PyData := fun ρ => match ρ[i]? with
  | some (.dat d) => some (d, ρ)
  | some (.own ds) => (match setSl i .un ρ with
    | some ρ1 => some (.list ds, ρ1.set i (.dat (.list ds)))
    | none => none)
  | some (.dic kvs) => (match setSl i .un ρ with
    | some ρ1 => some (.dict kvs, ρ1.set i (.dat (.dict kvs)))
    | none => none)
  | _ => none
/-- a slot's value is given away -/
def eMv (i : Nat) : M Sl := fun ρ => match ρ[i]? with
  | some (.dat d) => some (.dat d, ρ)
  | some (.own ds) => (match setSl i .un ρ with
    | some ρ1 => some (.own ds, ρ1)
    | none => none)
  | some (.dic kvs) => (match setSl i .un ρ with
    | some ρ1 => some (.dic kvs, ρ1)
    | none => none)
  | _ => none
section
variable {X : Cx} {pos : Pos}
theorem de_fzv (i : Nat) {x : Str} (hN : X.N[i]? = some x := by rfl) (hv : Vis X.env.scope x := by first | exact Or.inl rfl | exact Or.inr (Or.inl rfl) | exact Or.inr (Or.inr rfl)) (hd : (x == ("__debug__" : Str)) = false := by decide)
    (hcd : (x == ("__classdict__" : Str)) = false := by decide) : DE X (.Name x pos) (eFz i) := by
  refine ⟨fun W => ⟨fun pins s σ H Q I ⟨ρ, d, ρ', R, e, k⟩ => ?_⟩⟩
  have go : ∀ v, σ[i]? = some (some v) → (∀ s', Inv X pins σ H s' → ∃ H', Inv X pins σ H' s' ∧ Q v H') → wpAny (model X.prog X.w) X.A (eval (.Name x pos) X.env) (EP X pins σ Q) X.xe s := fun v ev hk => by
    refine thn ((pe_var (i := i) (pos := pos) hN hv hd hcd).run pins s σ H (fun v' H' => v' = v ∧ ∀ s', Inv X pins σ H' s' → ∃ H'', Inv X pins σ H'' s' ∧ Q v H'') I ⟨v, ev, rfl, hk⟩) fun u s1 ⟨y, H1, I1, r1, ey, q1⟩ => ?_
    subst ey
    obtain ⟨H2, I2, q2⟩ := q1 s1 I1
    exact ⟨y, H2, I2, r1, q2⟩
  unfold eFz at e
  split at e
  · rename_i d0 e0
    cases e
    obtain ⟨v, ev, h1⟩ := R.at_ i _ e0
    exact go v ev fun s' I' => ⟨H, I', k v H R h1 (.refl H)⟩
  · rename_i ds e0
    split at e
    · rename_i ρ1 e1
      cases e
      obtain ⟨a, xs, ev, w, h1, h2⟩ := R.at_ i _ e0
      refine go _ ev fun s' I' => ?_
      obtain ⟨od, I2⟩ := I'.lock h1 trivial
      have hmL : MutL (H a) := by rw [h1]; trivial
      have hm := hmL.mut
      have ap := R.drop_ap e1 (by rw [e0]; trivial) ev
      have R2 := (R.drop e1).off (o := .frz od (.lst xs)) w hmL ap
      have D2 : Df (wdX X) (upd H a (.frz od (.lst xs))) (.ref a) (.list ds) := .lst ⟨od, upd_same⟩ (h2.grow (.but hm))
      exact ⟨_, I2, k _ _ (R2.undat (setSl_get e1 e0) ev D2 rfl) D2 (.but hm)⟩
    · cases e
  · rename_i kvs e0
    split at e
    · rename_i ρ1 e1
      cases e
      obtain ⟨a, xs, ev, w, h1, h2⟩ := R.at_ i _ e0
      refine go _ ev fun s' I' => ?_
      obtain ⟨od, I2⟩ := I'.lock h1 trivial
      have hmL : MutL (H a) := by rw [h1]; trivial
      have hm := hmL.mut
      have ap := R.drop_ap e1 (by rw [e0]; trivial) ev
      have R2 := (R.drop e1).off (o := .frz od (dO (wdX X) a xs)) w hmL ap
      have D2 : Df (wdX X) (upd H a (.frz od (dO (wdX X) a xs))) (.ref a) (.dict kvs) := .dic ⟨od, upd_same⟩ (h2.grow (.but hm))
      exact ⟨_, I2, k _ _ (R2.undat (setSl_get e1 e0) ev D2 rfl) D2 (.but hm)⟩
    · cases e
  · cases e
theorem se_mv (i : Nat) {x : Str} (hN : X.N[i]? = some x := by rfl) (hv : Vis X.env.scope x := by first | exact Or.inl rfl | exact Or.inr (Or.inl rfl) | exact Or.inr (Or.inr rfl)) (hd : (x == ("__debug__" : Str)) = false := by decide)
    (hcd : (x == ("__classdict__" : Str)) = false := by decide) : SE X (.Name x pos) (eMv i) := by
  refine ⟨fun W => (pe_var (i := i) hN hv hd hcd).imp fun σ H Q ⟨ρ, d, ρ', R, e, k⟩ => ?_⟩
  unfold eMv at e
  split at e
  · rename_i d0 e0
    cases e
    obtain ⟨v, ev, h1⟩ := R.at_ i _ e0
    exact ⟨v, ev, k v H R h1 (.refl H)⟩
  · rename_i ds e0
    split at e
    · rename_i ρ1 e1
      cases e
      obtain ⟨a, xs, ev, w, h1, h2⟩ := R.at_ i _ e0
      exact ⟨_, ev, k _ H (R.drop e1) ⟨a, xs, rfl, w, h1, h2, R.drop_ap e1 (by rw [e0]; trivial) ev⟩ (.refl H)⟩
    · cases e
  · rename_i kvs e0
    split at e
    · rename_i ρ1 e1
      cases e
      obtain ⟨a, xs, ev, w, h1, h2⟩ := R.at_ i _ e0
      exact ⟨_, ev, k _ H (R.drop e1) ⟨a, xs, rfl, w, h1, h2, R.drop_ap e1 (by rw [e0]; trivial) ev⟩ (.refl H)⟩
    · cases e
  · cases e

def mApp (i : Nat) (f : M PyData) : M PyData := fun ρ => match f ρ with
  | some (d, ρ1) => (match ρ1[i]? with
    | some (.own ds) => if ds.length ≤ 100000 then some (.none, ρ1.set i (.own (ds ++ [d]))) else none
    | _ => none)
  | none => none
def isOwn (i : Nat) (ρ : Env) : Bool := match ρ[i]? with
  | some (.own _) => true
  | _ => false
def isDic (i : Nat) (ρ : Env) : Bool := match ρ[i]? with
  | some (.dic _) => true
  | _ => false
def mAppN (i : Nat) (f : M PyData) : M PyData := fun ρ => if isOwn i ρ = true then mApp i f ρ else none
theorem isOwn_inv {i : Nat} {ρ : Env} (h : isOwn i ρ = true) : ∃ ds, ρ[i]? = some (.own ds) := by
  unfold isOwn at h; split at h
  · rename_i ds e; exact ⟨ds, e⟩
  · cases h
theorem isDic_inv {i : Nat} {ρ : Env} (h : isDic i ρ = true) : ∃ ds, ρ[i]? = some (.dic ds) := by
  unfold isDic at h; split at h
  · rename_i ds e; exact ⟨ds, e⟩
  · cases h
/-- the receiver is read, then the argument; then the list is written -/
theorem own_app {W : Wt} {σ : Sg} {H : Hp} {ρ : Env} {i : Nat} {ds : List PyData} {a : Addr} {xs : List V} {v : V} {d : PyData} (R : RepS (wdX X) W σ H ρ) (e : ρ[i]? = some (.own ds)) (ha : σ[i]? = some (some (.ref a))) (h1 : H a = some (.lst xs)) (h2 : DfA (wdX X) H xs ds) (hv : Df (wdX X) H v d) :
    RepS (wdX X) W σ (upd H a (.lst (xs ++ [v]))) (ρ.set i (.own (ds ++ [d]))) := R.own_set e ha (h2.append (.cons hv .nil)) (by rw [h1]; trivial)
theorem de_append (i : Nat) {x : Str} {p apos cpos : Pos} {e : Expr} {f : M PyData} (he : DE X e f) (hN : X.N[i]? = some x := by rfl) (hv : Vis X.env.scope x := by first | exact Or.inl rfl | exact Or.inr (Or.inl rfl) | exact Or.inr (Or.inr rfl)) (hd : (x == ("__debug__" : Str)) = false := by decide)
    (hcd : (x == ("__classdict__" : Str)) = false := by decide) (hbase : attributeBase (.Name x p) "append" X.env (eval (.Name x p) X.env) = eval (.Name x p) X.env := by rfl)
    (hfew : ((backTo cpos (starEach (e :: []) X.env)).all (fun x => !x.1) && (backToKw cpos (keywordEach [] X.env)).all (fun x => x.1.isSome)
      && decide ((e :: []).length + ([] : List Keyword).length + (if ([] : List Keyword).isEmpty then 0 else 1) < 30)) = true := by rfl)
    (hline : (apos.endLine == cpos.line) = true := by rfl) (hs : starEach (e :: []) X.env = (false, eval e X.env) :: starEach [] X.env := by rfl) (hplain : (backTo cpos (starEach [] X.env)).any (·.1) = false := by rfl) :
    DE X (.Call (.Attribute (.Name x p) "append" apos) [e] [] cpos) (mAppN i f) := by
  refine ⟨fun W => (pe_bm (T := "list") F.plainAttrs_list F.slot_list_append F.type_list_append mt_append (pe_var (i := i) hN hv hd hcd) (pa_cons (he.pe W) pa_nil hs) hbase hfew hline hs hplain).imp fun σ H Q ⟨ρ, z, ρ', R, h, k⟩ => ?_⟩
  unfold mAppN at h
  split at h
  · rename_i ho
    obtain ⟨ds0, e0⟩ := isOwn_inv ho
    obtain ⟨a, xs0, ev, w, h1, h2⟩ := R.at_ i _ e0
    unfold mApp at h
    split at h
    · rename_i d ρ1 e1
      split at h
      · rename_i ds e2
        split at h
        · rename_i hz
          cases h
          refine ⟨_, ev, .inl ⟨rfl, xs0, .inl (.inl h1)⟩, ρ, d, ρ1, R, e1, fun v H2 R2 D2 g2 => ?_⟩
          obtain ⟨b, xs, eb, w2, h3, h4⟩ := R2.at_ i _ e2
          rw [ev] at eb; cases eb
          refine ⟨a, xs, v, rfl, rfl, h3, ?_, k _ _ (own_app R2 e2 ev h3 h4 D2) .non (g2.trans (.but (by rw [h3]; trivial)))⟩
          rw [h4.length, sizeLine_eq]; omega
        · cases h
      · cases h
    · cases h
  · cases h
/-- l.pop() -/
def mPop (i : Nat) : M PyData := fun ρ => match ρ[i]? with
  | some (.own ds) => (match ds[ds.length - 1]? with
    | some d => some (d, ρ.set i (.own ds.dropLast))
    | none => none)
  | _ => none
theorem DfA.dropLast {Γ : Wd} {H : Hp} {vs : List V} {ds : List PyData} (h : DfA Γ H vs ds) : DfA Γ H vs.dropLast ds.dropLast := by
  rw [List.dropLast_eq_take, List.dropLast_eq_take, h.length]
  exact h.take _
theorem de_pop (i : Nat) {x : Str} {p apos cpos : Pos} (hN : X.N[i]? = some x := by rfl) (hv : Vis X.env.scope x := by first | exact Or.inl rfl | exact Or.inr (Or.inl rfl) | exact Or.inr (Or.inr rfl)) (hd : (x == ("__debug__" : Str)) = false := by decide)
    (hcd : (x == ("__classdict__" : Str)) = false := by decide) (hbase : attributeBase (.Name x p) "pop" X.env (eval (.Name x p) X.env) = eval (.Name x p) X.env := by rfl) (hline : (apos.endLine == cpos.line) = true := by rfl) :
    DE X (.Call (.Attribute (.Name x p) "pop" apos) [] [] cpos) (mPop i) := by
  refine ⟨fun W => (pe_bm0 (T := "list") F.plainAttrs_list F.slot_list_pop F.type_list_pop mt_pop (pe_var (i := i) hN hv hd hcd) hbase hline).imp fun σ H Q ⟨ρ, z, ρ', R, h, k⟩ => ?_⟩
  unfold mPop at h
  split at h
  · rename_i ds e0
    split at h
    · rename_i d e1
      cases h
      obtain ⟨a, xs, ev, w, h1, h2⟩ := R.at_ i _ e0
      obtain ⟨v, hv1, hv2⟩ := h2.get e1
      have hmL : MutL (H a) := by rw [h1]; trivial
      have hm := hmL.mut
      refine ⟨_, ev, .inl ⟨rfl, xs, .inl (.inl h1)⟩, a, xs, v, rfl, rfl, h1, by rw [h2.length]; exact hv1, k _ _ (R.own_set e0 ev h2.dropLast hm) (hv2.grow (.but hm)) (.but hm)⟩
    · cases h
  · cases h

def tupKey (d : PyData) : Option NestedKey := match toKey d with
  | some (.tup ks) => if (NestedKey.tup ks).depth ≤ 8 then some (.tup ks) else none
  | _ => none
theorem tupKey_inv {d : PyData} {k : NestedKey} (h : tupKey d = some k) : ∃ ks, k = .tup ks ∧ d = k.data ∧ k.depth ≤ 8 := by
  unfold tupKey at h
  split at h
  · rename_i ks e
    split at h
    · rename_i hz
      cases h
      exact ⟨ks, rfl, toKey_data e, hz⟩
    · cases h
  · cases h
theorem tupKey_ref {Γ : Wd} {H : Hp} {v : V} {d : PyData} {k : NestedKey} (h : tupKey d = some k) (hv : Df Γ H v d) : ∃ t, v = .ref t ∧ Df Γ H (.ref t) k.data ∧ k.depth ≤ 8 ∧ d = k.data := by
  obtain ⟨ks, rfl, rfl, hz⟩ := tupKey_inv h
  simp only [NestedKey.data] at hv
  obtain ⟨t, xs, rfl, h1, h2⟩ := hv.tup_inv
  exact ⟨t, rfl, by simp only [NestedKey.data]; exact .tup h1 h2, hz, rfl⟩
def tgPut (i : Nat) (fi : M PyData) (d : PyData) (ρ : Env) : Option Env := if isDic i ρ = true then (match fi ρ with
    | some (kd, ρ1) => (match ρ1[i]? with
      | some (.dic kvs) => (match tupKey kd with
        | some _ => if kvs.length ≤ 100000 then some (ρ1.set i (.dic (storeE kvs kd d))) else none
        | none => none)
      | _ => none)
    | none => none) else none
def rPut (Γ : Wd) : V → V → V → Hp → (Hp → Prop) → Prop := fun o y v H Q => ∃ D xs kvs t k, o = .ref D ∧ y = .ref t ∧ H D = some (dO Γ D xs) ∧ DfE Γ H xs kvs ∧ xs.length < sizeLine ∧ Df Γ H (.ref t) k.data ∧ k.depth ≤ 8 ∧ ∀ r, RelV v r → Q (upd H D (dO Γ D (storedH xs k t r)))
theorem set_dO (hu : X.A.units + 9 < cLine) : PSet X (rPut (wdX X)) := by
  intro pins s σ H o i v ov iv u Q I ro ri rv h
  obtain ⟨D, xs, kvs, t, k, rfl, rfl, hD, he, hz, hk, hdp, q⟩ := h
  cases ro
  cases ri
  exact dO_setItem (v := v) I hu hD he hz hk hdp fun s' I' => ⟨_, I', q u rv⟩
theorem dg_put (hu : X.A.units + 9 < cLine) (i : Nat) {x : Str} {p : Pos} {ie : Expr} {fi : M PyData} (hi : DE X ie fi)
    (hN : X.N[i]? = some x := by rfl) (hv : Vis X.env.scope x := by first | exact Or.inl rfl | exact Or.inr (Or.inl rfl) | exact Or.inr (Or.inr rfl)) (hd : (x == ("__debug__" : Str)) = false := by decide)
    (hcd : (x == ("__classdict__" : Str)) = false := by decide)
    (ha : ∀ v, assign (.Subscript (.Name x p) ie pos) X.env v = (do
      let ov ← holding [v] (eval (.Name x p) X.env)
      let iv ← holding [v, ov] (eval ie X.env)
      standAt pos
      holding [v, ov, iv] (setItem ov iv v)
      release [v, ov, iv] []) := by intro _; rfl) : DG X (.Subscript (.Name x p) ie pos) [] (tgPut i fi) := by
  refine ⟨fun W => (pg_sub (pe_var (i := i) hN hv hd hcd) (hi.pe W) (set_dO hu) ha).imp fun v σ H Q ⟨d, ρ, ρ', R, hdf, e, q⟩ => ?_⟩
  unfold tgPut at e
  split at e
  · rename_i hD
    obtain ⟨kvs0, e0⟩ := isDic_inv hD
    obtain ⟨a, xs0, ev, w, h1, h2⟩ := R.at_ i _ e0
    split at e
    · rename_i kd ρ1 e1
      split at e
      · rename_i kvs e2
        split at e
        · rename_i k ek
          split at e
          · rename_i hz
            cases e
            refine ⟨_, ev, ρ, kd, ρ1, R, e1, fun u H2 R2 D2 g2 => ?_⟩
            obtain ⟨b, xs, eb, w2, h3, h4⟩ := R2.at_ i _ e2
            rw [ev] at eb; cases eb
            obtain ⟨t, rfl, hk, hdp, rfl⟩ := tupKey_ref ek D2
            have hmL : MutL (H2 a) := by rw [h3]; trivial
            have hm := hmL.mut
            refine ⟨a, xs, kvs, t, k, rfl, rfl, h3, h4, by rw [h4.length, sizeLine_eq]; omega, hk, hdp, fun r rr => ?_⟩
            exact q σ _ (R2.dic_put e2 ev (h4.store hk rr (hdf.grow g2)) hm) (g2.trans (.but hm)) ⟨rfl, fun _ _ => rfl⟩
          · cases e
        · cases e
      · cases e
    · cases e
  · cases e
def mPopK (i : Nat) (f : M PyData) : M PyData := fun ρ => if isDic i ρ = true then (match f ρ with
    | some (kd, ρ1) => (match ρ1[i]? with
      | some (.dic kvs) => (match tupKey kd, getE kvs kd with
        | some _, some d => some (d, ρ1.set i (.dic (popE kvs kd)))
        | _, _ => none)
      | _ => none)
    | none => none) else none
theorem de_popK (hu : X.A.units + 9 < cLine) (i : Nat) {x : Str} {p apos cpos : Pos} {e : Expr} {f : M PyData} (he : DE X e f) (hN : X.N[i]? = some x := by rfl) (hv : Vis X.env.scope x := by first | exact Or.inl rfl | exact Or.inr (Or.inl rfl) | exact Or.inr (Or.inr rfl)) (hd : (x == ("__debug__" : Str)) = false := by decide)
    (hcd : (x == ("__classdict__" : Str)) = false := by decide) (hbase : attributeBase (.Name x p) "pop" X.env (eval (.Name x p) X.env) = eval (.Name x p) X.env := by rfl)
    (hfew : ((backTo cpos (starEach (e :: []) X.env)).all (fun x => !x.1) && (backToKw cpos (keywordEach [] X.env)).all (fun x => x.1.isSome)
      && decide ((e :: []).length + ([] : List Keyword).length + (if ([] : List Keyword).isEmpty then 0 else 1) < 30)) = true := by rfl)
    (hline : (apos.endLine == cpos.line) = true := by rfl) (hs : starEach (e :: []) X.env = (false, eval e X.env) :: starEach [] X.env := by rfl) (hplain : (backTo cpos (starEach [] X.env)).any (·.1) = false := by rfl) :
    DE X (.Call (.Attribute (.Name x p) "pop" apos) [e] [] cpos) (mPopK i f) := by
  refine ⟨fun W => ⟨fun pins s σ H Q I ⟨ρ, z, ρ', R, h, k⟩ => ?_⟩⟩
  unfold mPopK at h
  split at h
  · rename_i hD
    obtain ⟨kvs0, e0⟩ := isDic_inv hD
    obtain ⟨a, xs0, ev, w, h1, h2⟩ := R.at_ i _ e0
    split at h
    · rename_i kd ρ1 e1
      split at h
      · rename_i kvs e2
        split at h
        · rename_i nk d ek eg
          cases h
          have pa : PA X [e] (tCons (rdE (wdX X) W f) tNil) := pa_cons (he.pe W) pa_nil hs
          refine wpAny_Call_method_late hbase hfew hline rfl (thn ((pe_var (i := i) (pos := p) hN hv hd hcd).run pins s σ H (fun v' H' => v' = .ref a ∧ H' = H) I ⟨_, ev, rfl, rfl⟩) fun u0 s1 ⟨y, H1, I1, r1, ey, eH⟩ => ?_)
          subst ey
          subst eH
          cases r1
          obtain ⟨o, es, ep, ho, hx, hdt, _⟩ := dict_raw I1 (.inl h1)
          refine ⟨"dict", "dict.pop", F.plainAttrs_dict, F.slot_dict_pop, F.type_dict_pop, ⟨o, ho, hx.1⟩, fun b eb => by cases eb; exact ⟨o, ho, hx.2.1⟩, ?_⟩
          have hA := pa.run cpos pins s1 σ _ (fun vs H2 => ∃ v, vs = [v] ∧ RepS (wdX X) W σ H2 ρ1 ∧ Df (wdX X) H2 v kd ∧ Grow H1 H2) I1 ⟨ρ, kd, ρ1, R, e1, fun v H2 R2 D2 g2 => ⟨v, rfl, R2, D2, g2⟩⟩
          rw [hs] at hA ⊢
          refine Calls.callWith_builtin (by show (false || (backTo cpos (starEach [] X.env)).any (·.1)) = false; rw [hplain] <;> rfl) (Calls.evalArgs_plain ?_)
          refine thn hA fun us s2 ⟨vs, H2, I2, r2, v, evs, R2, D2, g2⟩ => ?_
          subst evs
          obtain ⟨u1, rfl, ru⟩ := r2.one
          obtain ⟨b, xs, eb, w2, h3, h4⟩ := R2.at_ i _ e2
          rw [ev] at eb; cases eb
          obtain ⟨t, rfl, hk, hdp, rfl⟩ := tupKey_ref ek D2
          cases ru
          have hmL : MutL (H2 a) := by rw [h3]; trivial
          have hm := hmL.mut
          exact dO_pop I2 hu h3 h4 hk hdp eg fun v hv => k v _ (R2.dic_put e2 ev (h4.pop nk) hm) (hv.grow (.but hm)) (g2.trans (.but hm))
        · cases h
      · cases h
    · cases h
  · cases h
end
end Dn
namespace Dn
open PySem PySem.Spec PyProof.Rows L2

section
variable {X : Cx}
/-- {k: v for target in iter if ..}, keys tuples: D the new dict -/
def tDx (Γ : Wd) (wi : TI) (g : TG) (tt : TT) (tk tv : TE) (vs : List Nat) : TE := fun σ H Q => wi σ H fun J H1 => ∀ D, H1 D = none → ∃ W : Nat → Nat → Hp → Prop, (∃ m, W 0 m (upd H1 D (dO Γ D []))) ∧ ∀ i m H, W i m H →
  (J.stop i H ∧ Q (.ref D) H) ∨ (J.go i H ∧ ∃ Nx : Hp → Prop, (∀ H', Nx H' → ∃ m', m' < m ∧ W (i + 1) m' H') ∧ ∀ x H', J.yld i H x H' → g x (wipe σ vs) H' fun σ2 H2 => wipe σ2 vs = wipe σ vs ∧ tt σ2 H2 fun b H3 =>
    if b = true then tk σ2 H3 fun y H4 => tv σ2 H4 fun z H5 => ∃ xs kvs t k, y = .ref t ∧ H5 D = some (dO Γ D xs) ∧ DfE Γ H5 xs kvs ∧ xs.length < sizeLine ∧ Df Γ H5 (.ref t) k.data ∧ k.depth ≤ 8 ∧ ∀ r, RelV z r → Nx (upd H5 D (dO Γ D (storedH xs k t r))) else Nx H3)
theorem dx_core {pins : List (Addr × Obj)} {s : Shared} {σ : Sg} {H : Hp} {Q : VK} {kx vx tg iter : Expr} {ifs : List Expr} {scope : Scope} {own : List (Str × Nat)} {pos pos' : Pos} {wi : TI} {g : TG} {tt : TT} {tk tv : TE} {use : Option (Value → Sem Unit)} {Qf : Value → Shared → Prop}
    (hu : X.A.units + 9 < cLine) (hc : X.calm = true) (hN : X.N.Nodup) (I : Inv X pins σ H s) (hi : PI X tg iter wi) (ok : BlkOk X.N X.env.scope scope own)
    (hg : ∀ (s : Shared) (H : Hp) (C : Addr) (cl : List (Str × Addr)) (fp : List Addr), PG (X.blk s H scope (compEnvC scope cl C X.env) fp) tg g) (ht : ∀ (s : Shared) (H : Hp) (C : Addr) (cl : List (Str × Addr)) (fp : List Addr), PTs (X.blk s H scope (compEnvC scope cl C X.env) fp) ifs tt)
    (hk : ∀ (s : Shared) (H : Hp) (C : Addr) (cl : List (Str × Addr)) (fp : List Addr), PE (X.blk s H scope (compEnvC scope cl C X.env) fp) kx tk)
    (he : ∀ (s : Shared) (H : Hp) (C : Addr) (cl : List (Str × Addr)) (fp : List Addr), PE (X.blk s H scope (compEnvC scope cl C X.env) fp) vx tv) (hs : ∀ x, foldedSetIterable iter X.env x = pure x)
    (h : tDx (wdX X) wi g tt tk tv (own.map (·.2)) σ H Q)
    (hEnd : ∀ D C s' m H', Inv X pins σ H' s' → Q (.ref D) H' → s'.heap.Ns C m → FpOk X pins H' C → compPost (model X.prog X.w) X.A X.xe use Qf (.ref D) C (.ok .next) s') :
    wpAny (model X.prog X.w) X.A (comprehension (.DictComp kx vx [⟨tg, iter, ifs, 0⟩] scope pos) scope X.env pos' newDict false (eval iter X.env) use) Qf X.xe s := by
  have hFr : ∀ y ∈ scope.names, y.2 = .free → ∃ c, X.env.cells.lookup y.1 = some c := fun y hy e => by
    rcases ok.free y hy e with k | k
    · exact I.ok.has _ (.inl k)
    · exact I.ok.has _ (.inr k)
  refine wpAny_comprehension_free (use := use) rfl hs (closure_ok hFr) ok.kind (fun y hy e => by rw [ok.uniq y hy, e])
    (thn (hi.run pins s σ H _ I h) fun xv sa hx => thn hx fun itv sb0 h2 => ?_)
  obtain ⟨it, fp, tn, J, Ha, e, Ia, Tn, ta, fa, q⟩ := h2
  subst e
  refine wpAny_newObj_type (newEnv_comp ?_)
  generalize hD : sb0.heap.objs.size = D
  have hDn : Ha D = none := Ia.hok.fresh (Nat.le_of_eq hD)
  obtain ⟨Wf, ⟨mz, wz⟩, turn⟩ := q D hDn
  generalize hsc : ({ sb0 with heap := sb0.heap.push { cls := .type "dict", data := .dict #[] } } : Shared) = sc
  have Ib : Inv X pins σ (upd Ha D (dO (wdX X) D [])) sc := by
    rw [← hsc]
    refine Ia.laid (t' := sb0.toks) (fun b o e => Heap.get?_push_of_some _ e) (Nat.le_of_eq hD) ?_
    rw [← hD]
    exact dO_empty sb0.heap Ia.big
  have hsc2 : sc.heap = sb0.heap.push { cls := .type "dict", data := .dict #[] } := by rw [← hsc]
  have small : ∀ b ∈ fp, b < sb0.heap.objs.size := fun b hb => by
    obtain ⟨o, e, _⟩ := Tn.obj _ _ ta b hb
    exact Heap.lt_size e
  have fb : ∀ b ∈ fp, FpOk X pins (upd Ha D (dO (wdX X) D [])) b ∧ b < sc.heap.objs.size := fun b hb => by
    have hlt := small b hb
    refine ⟨⟨?_, (fa b hb).2⟩, by rw [hsc2, Heap.size_push]; exact Nat.lt_succ_of_lt hlt⟩
    rw [upd_ne (by rw [← hD]; exact Nat.ne_of_lt hlt)]
    exact (fa b hb).1
  have tb : tn 0 sc.heap := Tn.keep _ _ _ ta fun b _ o e => by rw [hsc2]; exact Heap.get?_push_of_some _ e
  have Ic := block_start Ib ok hN fb
  have pgx := hg sc (upd Ha D (dO (wdX X) D [])) sc.heap.objs.size (cellsFrom (sc.heap.objs.size + 1) scope.names (cloFrom X.env.cells scope.names [])) fp
  have ptx := ht sc (upd Ha D (dO (wdX X) D [])) sc.heap.objs.size (cellsFrom (sc.heap.objs.size + 1) scope.names (cloFrom X.env.cells scope.names [])) fp
  have pkx := hk sc (upd Ha D (dO (wdX X) D [])) sc.heap.objs.size (cellsFrom (sc.heap.objs.size + 1) scope.names (cloFrom X.env.cells scope.names [])) fp
  have pex := he sc (upd Ha D (dO (wdX X) D [])) sc.heap.objs.size (cellsFrom (sc.heap.objs.size + 1) scope.names (cloFrom X.env.cells scope.names [])) fp
  show codeAny _ _ (.compStart (.DictComp kx vx [⟨tg, iter, ifs, 0⟩] scope pos) 0 (.ref it) (.ref D) (compEnvC scope (cellsFrom (sc.heap.objs.size + 1) scope.names (cloFrom X.env.cells scope.names [])) sc.heap.objs.size X.env)) (compPost (model X.prog X.w) X.A X.xe use Qf (.ref D) sc.heap.objs.size) { sc with heap := pushCells (sc.heap.push { cls := .type "dict", data := .dict #[] }) scope.names }
  have noFp : ∀ b ∈ fp, (upd Ha D (dO (wdX X) D [])) b = none := fun b hb => (fb b hb).1.1
  generalize hev : compEnvC scope (cellsFrom (sc.heap.objs.size + 1) scope.names (cloFrom X.env.cells scope.names [])) sc.heap.objs.size X.env = ev at Ic pgx ptx pkx pex ⊢
  have cLoc : ev.locals = sc.heap.objs.size := by subst hev; rfl
  generalize hHb : upd Ha D (dO (wdX X) D []) = Hb at Ib Ic pgx ptx pkx pex wz noFp fb
  generalize hsd : ({ sc with heap := pushCells (sc.heap.push { cls := .type "dict", data := .dict #[] }) scope.names } : Shared) = sd at Ic ⊢
  have td : tn 0 sd.heap := Tn.keep _ _ _ tb fun b _ o e => by rw [← hsd]; exact pushCells_keeps _ _ _ _ (Heap.get?_push_of_some _ e)
  have still : ∀ {σ' : Sg} {H' : Hp} {s' : Shared}, Inv (X.blk sc Hb scope ev fp) [] σ' H' s' → (∀ b ∈ fp, H' b = none) → ∀ b ∈ fp, FpOk (X.blk sc Hb scope ev fp) [] H' b := fun {σ' H' s'} I' hn b hb =>
    ⟨hn b hb, (I'.ok.exf b hb).1, I'.ok.exfs b hb, .inl hb, fun x c e => (I'.ok.exf b hb).2 x c e, fun p hp => absurd (show p ∈ ([] : List (Addr × Obj)) ++ [] from hp) (by simp)⟩
  have looped : codeAny (model X.prog X.w) X.A (.compLoop (.DictComp kx vx [⟨tg, iter, ifs, 0⟩] scope pos) 0 (.ref it) (.ref D) ev) (compPost (model X.prog X.w) X.A X.xe use Qf (.ref D) sc.heap.objs.size) sd := by
    refine compLoop_anyD (fun n s' => ∃ i H', Inv (X.blk sc Hb scope ev fp) [] (wipe σ (own.map (·.2))) H' s' ∧ tn i s'.heap ∧ (∀ b ∈ fp, H' b = none) ∧ Wf i n H') ?_ mz ⟨0, Hb, Ic, td, noFp, wz⟩
    rintro n se ⟨i, Hc, Id, te5, na, wa⟩
    rcases turn i n Hc wa with ⟨stop, qq⟩ | ⟨go, Nx, hNx, step⟩
    · have td := Tn.done (X.blk sc Hb scope ev fp) rfl rfl rfl hc i [] se _ Hc (fun _ _ => False) Id (still Id na) te5 stop
      refine thnF td fun r sf ⟨hr, Ie⟩ => ?_
      subst hr
      have If : Inv X pins σ Hc sf := Ib.call' (ch := fp) Ie.os Ie.base Ie.hok Ie.bare fun b hb => ⟨(fb b hb).1.2.2.2.1, (fb b hb).1.2.1, (fb b hb).1.2.2.2.2.1, (fb b hb).1.2.2.2.2.2⟩
      have nC : Hc sc.heap.objs.size = none := by
        have z : Hc ev.locals = none := Ie.free
        rw [cLoc] at z
        exact z
      obtain ⟨m, hn, _⟩ := Ie.loc
      have hn : sf.heap.Ns ev.locals m := hn
      rw [cLoc] at hn
      exact hEnd D sc.heap.objs.size sf m Hc If qq hn (Ib.fpOk (Nat.le_refl _) nC)
    · have ti := Tn.item (X.blk sc Hb scope ev fp) rfl rfl rfl hc i [] se _ Hc (fun _ _ => False) Id (still Id na) te5 go
      refine thnF ti fun r sf ⟨u, hr, h6⟩ => ?_
      subst hr
      refine thnF h6 fun _ sg ⟨x, Hd, If, r7, y7, tg7, nb⟩ => ?_
      have If2 := If.pinned (still If nb) (Tn.obj _ _ tg7)
      refine thnF (pgx.run _ sg _ Hd x u _ If2 r7 (step x Hd y7)) fun _ sh ⟨σ8, He, Ig, hwipe, qh⟩ => ?_
      refine thnF (ptx.run _ sh σ8 He _ Ig qh) fun b sj ⟨Hf, Ih, qj⟩ => ?_
      have turned : ∀ {s' : Shared} {H' : Hp}, Inv (X.blk sc Hb scope ev fp) ([] ++ pinsAt fp sg.heap) σ8 H' s' → Nx H' → ∃ m, m < n ∧ ∃ i H', Inv (X.blk sc Hb scope ev fp) [] (wipe σ (own.map (·.2))) H' s' ∧ tn i s'.heap ∧ (∀ b ∈ fp, H' b = none) ∧ Wf i m H' := fun {s' H'} I' nx => by
        obtain ⟨m', hm, w'⟩ := hNx H' nx
        have pin' : ∀ b ∈ fp, ∀ o, sg.heap.get? b = some o → s'.heap.get? b = some o ∧ H' b = none := fun b hb o e =>
          let z := I'.pin (b, o) (List.mem_append_right _ (List.mem_append_right _ (mem_pinsAt hb e)))
          ⟨z.1, z.2.1⟩
        have hl : (wipe σ (own.map (·.2))).length = σ8.length := by rw [← hwipe, wipe_length]
        refine ⟨m', hm, i + 1, H', (I'.unpinned (pins := [])).weak hl (fun j v e => ?_), Tn.keep _ _ _ tg7 fun b hb o e => (pin' b hb o e).1, fun b hb => ?_, w'⟩
        · rw [← hwipe] at e
          exact (wipe_some e).1
        · obtain ⟨o, e, _⟩ := Tn.obj _ _ tg7 b hb
          exact (pin' b hb o e).2
      cases b with
      | false =>
        simp only [Bool.false_eq_true, if_false] at qj ⊢
        exact turned Ih qj
      | true =>
        simp only [if_true] at qj ⊢
        refine thnF (pkx.run _ sj σ8 Hf _ Ih qj) fun z sk ⟨yk, Hg, Ij, r10, qk⟩ => ?_
        refine thnF (pex.run _ sk σ8 Hg _ Ij qk) fun z2 sl ⟨yv, Hi, Ik, r11, xs, kvs, t, k, ek, hD11, hE11, hz11, hK11, hdp11, nx⟩ => ?_
        subst ek
        cases r10
        exact dO_dictSet (X := X.blk sc Hb scope ev fp) (v := yv) Ik hu hD11 hE11 hz11 hK11 hdp11 fun sm Il => turned Il (nx z2 r11)
  exact codeAny_compStart_dict looped (Tn.self X.A 0 _ _ _ td looped)
def dcLoop (vs : List Nat) (gt : PyData → Env → Option Env) (tt : M Bool) (fk fv : M PyData) : List PyData → List (PyData × PyData) → M (List (PyData × PyData))
  | [], kvs, ρ => some (kvs, ρ)
  | d :: ds, kvs, ρ => (match gt d ρ with
    | none => none
    | some ρ1 => (match tt ρ1 with
      | none => none
      | some (false, ρ2) => (match wipeE vs ρ2 with
        | none => none
        | some ρ3 => dcLoop vs gt tt fk fv ds kvs ρ3)
      | some (true, ρ2) => (match fk ρ2 with
        | none => none
        | some (kd, ρ3) => (match fv ρ3 with
          | none => none
          | some (y, ρ4) => (match tupKey kd with
            | none => none
            | some _ => if kvs.length ≤ 100000 then (match wipeE vs ρ4 with
              | none => none
              | some ρ5 => dcLoop vs gt tt fk fv ds (storeE kvs kd y) ρ5) else none)))))
def mDC (vs : List Nat) (fi : M (List PyData)) (gt : PyData → Env → Option Env) (tt : M Bool) (fk fv : M PyData) : M Sl := fun ρ => match fi ρ with
  | none => none
  | some (ds, ρ1) => (match wipeE vs ρ1 with
    | none => none
    | some ρ2 => (match dcLoop vs gt tt fk fv ds [] ρ2 with
      | none => none
      | some (kvs, ρ3) => (match restE ρ1 vs ρ3 with
        | none => none
        | some ρ4 => some (.dic kvs, ρ4))))
theorem dx_imp {Γ : Wd} {W : Wt} {fi : M (List PyData)} {gt : PyData → Env → Option Env} {tt : M Bool} {fk fv : M PyData} {ts vs : List Nat} (hts : ∀ i ∈ ts, i ∈ vs) (σ : Sg) (H : Hp) (Q : VK) (h : rdS Γ W (mDC vs fi gt tt fk fv) σ H Q) :
    tDx Γ (xI Γ fi) (xG Γ ts gt) (xT Γ tt) (xE Γ fk) (xE Γ fv) vs σ H Q := by
  obtain ⟨ρ, s, ρ', R, e, k⟩ := h
  unfold mDC at e
  cases e1 : fi ρ with
  | none => simp only [e1] at e; cases e
  | some p =>
  obtain ⟨ds, ρ1⟩ := p
  simp only [e1] at e
  cases e2 : wipeE vs ρ1 with
  | none => simp only [e2] at e; cases e
  | some ρ2 =>
  simp only [e2] at e
  cases e3 : dcLoop vs gt tt fk fv ds [] ρ2 with
  | none => simp only [e3] at e; cases e
  | some p =>
  obtain ⟨kve, ρ3⟩ := p
  simp only [e3] at e
  cases e4 : restE ρ1 vs ρ3 with
  | none => simp only [e4] at e; cases e
  | some ρ4 =>
  simp only [e4] at e
  cases e
  refine ⟨W, ρ, ds, ρ1, R, e1, fun J H1 R1 g1 wk D hD => ?_⟩
  have hW := R1.kp_none hD
  have gN : Grow H1 (upd H1 D (dO Γ D [])) := .new hD
  have R2 : RepS Γ W σ (upd H1 D (dO Γ D [])) ρ1 := R1.same (Same.new hD)
  have ap : Ap ρ1 σ D := R1.ap hD
  let Inv' : Nat → Hp → Prop := fun i H => i ≤ ds.length ∧ Grow H1 H ∧ ∃ ρi xs kvs, RepS Γ W (wipe σ vs) H ρi ∧ H D = some (dO Γ D xs) ∧ DfE Γ H xs kvs ∧ Ap ρi (wipe σ vs) D ∧ dcLoop vs gt tt fk fv (ds.drop i) kvs ρi = some (kve, ρ3)
  refine ⟨fun i m H => m = ds.length - i ∧ Inv' i H, ⟨ds.length, by simp, Nat.zero_le _, gN, ρ2, [], [], R2.wipe e2, upd_same, .nil, ap.wipe e2, by simpa using e3⟩, ?_⟩
  rintro i m H ⟨rfl, hi, gA, ρi, xs, kvs, Ri, hDi, hai, api, ei⟩
  rcases Nat.lt_or_ge i ds.length with hlt | hge
  · obtain ⟨go, yl⟩ := (wk H gA i).1 hlt
    have ed : ds.drop i = ds[i] :: ds.drop (i + 1) := List.drop_eq_getElem_cons hlt
    rw [ed, dcLoop] at ei
    refine .inr ⟨go, Inv' (i + 1), fun H' h => ⟨_, by omega, rfl, h⟩, fun x H' y => ?_⟩
    obtain ⟨sm, d, hd, df⟩ := yl x H' y
    rw [List.getElem?_eq_getElem hlt] at hd
    cases hd
    have hD' : H' D = some (dO Γ D xs) := sm _ _ hDi
    have R1' := (Ri.same sm).wide hD' api hW
    cases e3 : gt ds[i] ρi with
    | none => simp only [e3] at ei; cases ei
    | some ρ1' =>
      simp only [e3] at ei
      refine ⟨W.add D (dO Γ D xs), _, ρi, ρ1', R1', df, e3, fun σ2 H2 R2' g2 f2 => ⟨f2.wipe hts, ?_⟩⟩
      have wq := f2.wipe hts
      cases e4' : tt ρ1' with
      | none => simp only [e4'] at ei; cases ei
      | some p =>
        obtain ⟨b, ρ2'⟩ := p
        refine ⟨W.add D (dO Γ D xs), ρ1', b, ρ2', R2', e4', fun H3 R3 g3 => ?_⟩
        have g13 : Grow H H3 := (Grow.same sm).trans (g2.trans g3)
        cases b with
        | false =>
          simp only [e4'] at ei
          refine iteF ?_
          cases e5 : wipeE vs ρ2' with
          | none => simp only [e5] at ei; cases ei
          | some ρ3' =>
            simp only [e5] at ei
            obtain ⟨R4, hD4, ap4⟩ := R3.narrow hW
            refine ⟨hlt, gA.trans g13, ρ3', xs, kvs, ?_, hD4, hai.grow g13, ?_, ei⟩
            · rw [← wq]; exact R4.wipe e5
            · rw [← wq]; exact ap4.wipe e5
        | true =>
          simp only [e4'] at ei
          refine iteT ?_
          cases e5 : fk ρ2' with
          | none => simp only [e5] at ei; cases ei
          | some p =>
          obtain ⟨kd, ρ3'⟩ := p
          simp only [e5] at ei
          cases e6 : fv ρ3' with
          | none => simp only [e6] at ei; cases ei
          | some p =>
          obtain ⟨yd, ρ4'⟩ := p
          simp only [e6] at ei
          cases e7 : tupKey kd with
          | none => simp only [e7] at ei; cases ei
          | some nk =>
          simp only [e7] at ei
          by_cases hz : kvs.length ≤ 100000
          · rw [if_pos hz] at ei
            cases e8 : wipeE vs ρ4' with
            | none => simp only [e8] at ei; cases ei
            | some ρ5' =>
            simp only [e8] at ei
            refine ⟨W.add D (dO Γ D xs), ρ2', kd, ρ3', R3, e5, fun kv H4 R4 D4 g4 => ⟨W.add D (dO Γ D xs), ρ3', yd, ρ4', R4, e6, fun yv H5 R5 D5 g5 => ?_⟩⟩
            obtain ⟨R6, hD6, ap6⟩ := R5.narrow hW
            obtain ⟨t, rfl, hk, hdp, rfl⟩ := tupKey_ref e7 (D4.grow g5)
            have g15 : Grow H H5 := g13.trans (g4.trans g5)
            have hmL : MutL (H5 D) := by rw [hD6]; trivial
            have hm := hmL.mut
            have hl := hai.length
            refine ⟨xs, kvs, t, nk, rfl, hD6, hai.grow g15, by rw [hl, sizeLine_eq]; omega, hk, hdp, fun r rr => ⟨hlt, (gA.trans g15).trans (.but hm), ρ5', storedH xs nk t r, storeE kvs nk.data yd, ?_, upd_same, ((hai.grow g15).store hk rr D5).grow (.but hm), ?_, ei⟩⟩
            · rw [← wq]; exact (R6.off hW hmL ap6).wipe e8
            · rw [← wq]; exact ap6.wipe e8
          · rw [if_neg hz] at ei; cases ei
  · have ee : ds.drop i = [] := List.drop_eq_nil_of_le hge
    rw [ee, dcLoop] at ei
    cases ei
    have R6 := R1.rest gA Ri e4
    exact .inl ⟨(wk H gA i).2 hge, k _ H R6 ⟨D, xs, rfl, hW, hDi, hai, api.rest (by rw [Ri.len, wipe_length]) e4⟩ (g1.trans gA)⟩
section
variable {kx vx tg iter : Expr} {ifs : List Expr} {scope : Scope} {pos : Pos} {fi : M (List PyData)} {gt : PyData → Env → Option Env} {tt : M Bool} {fk fv fe : M PyData} {ts vs : List Nat}
theorem se_dc (hu : X.A.units + 9 < cLine) (hc : X.calm = true) (hN : X.N.Nodup) (hi : DI X tg iter fi) (own : List (Str × Nat)) (ok : blkC X.N X.env.scope scope own = true) (hg : AllB X scope fun Y => DG Y tg ts gt) (ht : AllB X scope fun Y => DTs Y ifs tt) (hk : AllB X scope fun Y => DE Y kx fk) (he : AllB X scope fun Y => DE Y vx fv)
    (hv : own.map (·.2) = vs := by rfl) (hts : ∀ i ∈ ts, i ∈ vs := by decide) (hs : ∀ x, foldedSetIterable iter X.env x = pure x := by intro _; rfl) : SE X (.DictComp kx vx [⟨tg, iter, ifs, 0⟩] scope pos) (mDC vs fi gt tt fk fv) := by
  subst hv
  refine ⟨fun W => ⟨fun pins s σ H Q I h => ?_⟩⟩
  rw [arm_eval_DictComp]
  refine dx_core (wi := xI (wdX X) fi) (g := xG (wdX X) ts gt) (tt := xT (wdX X) tt) (tk := xE (wdX X) fk) (tv := xE (wdX X) fv) hu hc hN I hi.x (blkOk_by ok) (fun s H C cl fp => (hg s H C cl fp).x) (fun s H C cl fp => (ht s H C cl fp).x) (fun s H C cl fp => (hk s H C cl fp).x) (fun s H C cl fp => (he s H C cl fp).x) hs (dx_imp hts σ H Q h) fun D C s' m H' I' q hn f => ⟨m, hn, fun h'' sb => ?_⟩
  obtain ⟨f0, f1, f2, f3, f4, f5⟩ := f
  exact ⟨.ref D, H', I'.turned (t' := s'.toks) (fun b o hb e => (sb.2 b hb).trans e) f0 f1 f3 f4 f5, rfl, q⟩
theorem st_imp {i : Nat} {fs : M Sl} {W : Wt} {t : TE} (h : ∀ σ H Q, rdS (wdX X) W fs σ H Q → t σ H Q) (D : Ends) (σ : Sg) (H : Hp) (q : rdSt (wdX X) W (sSet i fs) D σ H) : tAsg t (gName i) D σ H := by
  obtain ⟨ρ, o, R, e, q⟩ := q
  refine h σ H _ ?_
  unfold sSet at e
  split at e
  · rename_i d ρ1 e1
    split at e
    · rename_i ρ2 e2
      cases e
      exact ⟨ρ, d, ρ1, R, e1, fun v H' R' n g' => q _ H' (R'.set n e2) g'⟩
    · cases e
  · cases e
variable {y : Str} {py spos : Pos} {elt : Expr}
/-- y = [..] on one line -/
theorem ds_setLc (i : Nat) (hc : X.calm = true) (hN : X.N.Nodup) (hi : DI X tg iter fi) (own : List (Str × Nat)) (ok : blkC X.N X.env.scope scope own = true) (hg : AllB X scope fun Y => DG Y tg ts gt) (ht : AllB X scope fun Y => DTs Y ifs tt) (he : AllB X scope fun Y => DE Y elt fe)
    (hsw : swapsWith (.ListComp elt [⟨tg, iter, ifs, 0⟩] scope pos) (some (.Name y py)) spos.line X.env = pure true) (hy : X.N[i]? = some y := by rfl) (hyl : X.env.scope.names.lookup y = some .local := by rfl)
    (hv : own.map (·.2) = vs := by rfl) (hts : ∀ i ∈ ts, i ∈ vs := by decide) (hs : ∀ x, foldedSetIterable iter X.env x = pure x := by intro _; rfl) :
    DS X (.Assign [.Name y py] (.ListComp elt [⟨tg, iter, ifs, 0⟩] scope pos) spos) (sSet i (mLst (mLC vs fi gt tt fe))) := by
  subst hv
  exact ⟨fun W => (ps_setLc (wi := xI (wdX X) fi) (g := xG (wdX X) ts gt) (tt := xT (wdX X) tt) (te := xE (wdX X) fe) hc hN hy hyl hsw hi.x (blkOk_by ok) (fun s H C cl fp => (hg s H C cl fp).x) (fun s H C cl fp => (ht s H C cl fp).x) (fun s H C cl fp => (he s H C cl fp).x) hs).imp (st_imp (lc_imp hts))⟩
/-- y = {k: v for ..} on one line -/
theorem ds_setDc (i : Nat) (hu : X.A.units + 9 < cLine) (hc : X.calm = true) (hN : X.N.Nodup) (hi : DI X tg iter fi) (own : List (Str × Nat)) (ok : blkC X.N X.env.scope scope own = true) (hg : AllB X scope fun Y => DG Y tg ts gt) (ht : AllB X scope fun Y => DTs Y ifs tt) (hk : AllB X scope fun Y => DE Y kx fk) (he : AllB X scope fun Y => DE Y vx fv)
    (hsw : swapsWith (.DictComp kx vx [⟨tg, iter, ifs, 0⟩] scope pos) (some (.Name y py)) spos.line X.env = pure true) (hy : X.N[i]? = some y := by rfl) (hyl : X.env.scope.names.lookup y = some .local := by rfl)
    (hv : own.map (·.2) = vs := by rfl) (hts : ∀ i ∈ ts, i ∈ vs := by decide) (hs : ∀ x, foldedSetIterable iter X.env x = pure x := by intro _; rfl) :
    DS X (.Assign [.Name y py] (.DictComp kx vx [⟨tg, iter, ifs, 0⟩] scope pos) spos) (sSet i (mDC vs fi gt tt fk fv)) := by
  subst hv
  refine ⟨fun W => ⟨fun pins s σ H D I h => ?_⟩⟩
  have q0 : tAsg (tDx (wdX X) (xI (wdX X) fi) (xG (wdX X) ts gt) (xT (wdX X) tt) (xE (wdX X) fk) (xE (wdX X) fv) (own.map (·.2))) (gName i) D σ H := st_imp (dx_imp hts) D σ H h
  have q1 : tDx (wdX X) (xI (wdX X) fi) (xG (wdX X) ts gt) (xT (wdX X) tt) (xE (wdX X) fk) (xE (wdX X) fv) (own.map (·.2)) σ H (fun x H1 => gName i x σ H1 D.nx) := q0
  rw [exec_Assign_Name_used _ _ _ _ hsw]
  refine wpAny_bind (wpAny_standAt (wpAny_bind ?_))
  show wpAny _ X.A (do let _ ← comprehension (.DictComp kx vx [⟨tg, iter, ifs, 0⟩] scope pos) scope X.env (firstIterPos [⟨tg, iter, ifs, 0⟩] pos) newDict false (eval iter X.env) (some (assign (.Name y py) X.env))) _ _ s
  refine wpAny_bind (thn (dx_core (Qf := fun _ s' => SP X pins D .next s') hu hc hN I hi.x (blkOk_by ok) (fun s H C cl fp => (hg s H C cl fp).x) (fun s H C cl fp => (ht s H C cl fp).x) (fun s H C cl fp => (hk s H C cl fp).x) (fun s H C cl fp => (he s H C cl fp).x) hs q1 fun L C s' m H' I' q hn f => ?_) fun _ s' hq => wpAny_pure (wpAny_pure hq))
  show wpAny _ _ (assign (.Name y py) X.env (.ref L)) _ _ _
  refine wpAny_assign_Name (store_ok2 (v := V.ref L) I' hN hy (.inl hyl) rfl (fun s2 I2 ⟨a, sb, ha⟩ => ?_) (.inr hyl))
  obtain ⟨f0, f1, f2, f3, f4, f5⟩ := f
  have haC : C ≠ a := by
    rcases ha with z | z
    · rw [z]; exact f1
    · exact fun e => f4 y a z e.symm
  exact ⟨m, hn.sameBut sb haC, fun h3 sb3 => ⟨_, H', I2.turned (t' := s2.toks) (fun b o hb e => (sb3.2 b hb).trans e) f0 f1 f3 f4 f5, q⟩⟩
end

variable {kx vx : Expr} {pos : Pos} {fk fv : M PyData}
def mD0 : M Sl := fun ρ => some (.dic [], ρ)
theorem se_d0 : SE X (.Dict [] [] pos) mD0 := by
  refine ⟨fun W => ⟨fun pins s σ H Q I ⟨ρ, z, ρ', R, e, k⟩ => ?_⟩⟩
  cases e
  have hp := I.hok.fresh (Nat.le_refl s.heap.objs.size)
  refine wpAny_Dict_empty ⟨.ref s.heap.objs.size, _, I.laid (a := s.heap.objs.size) (o := dO (wdX X) s.heap.objs.size []) (t' := s.toks) (fun _ _ q => Heap.get?_push_of_some _ q) (Nat.le_refl _) (dO_empty s.heap I.big), rfl, ?_⟩
  exact k _ _ (R.same (Same.new hp)) ⟨_, [], rfl, R.kp_none hp, upd_same, .nil, R.ap hp⟩ (.new hp)
def mD1 (fk fv : M PyData) : M Sl := fun ρ => match fk ρ with
  | some (kd, ρ1) => (match fv ρ1 with
    | some (d, ρ2) => (match tupKey kd with
      | some _ => some (.dic [(kd, d)], ρ2)
      | none => none)
    | none => none)
  | none => none
theorem se_d1 (hu : X.A.units + 9 < cLine) (hk : DE X kx fk) (hv : DE X vx fv) : SE X (.Dict [some kx] [vx] pos) (mD1 fk fv) := by
  refine ⟨fun W => ⟨fun pins s σ H Q I ⟨ρ, z, ρ', R, e, k⟩ => ?_⟩⟩
  unfold mD1 at e
  split at e
  · rename_i kd ρ1 e1
    split at e
    · rename_i d ρ2 e2
      split at e
      · rename_i nk e3
        cases e
        have hp := I.hok.fresh (Nat.le_refl s.heap.objs.size)
        have I1 := I.laid (a := s.heap.objs.size) (o := dO (wdX X) s.heap.objs.size []) (h' := s.heap.push { cls := .type "dict", data := .dict #[] }) (t' := s.toks) (fun _ _ q => Heap.get?_push_of_some _ q) (Nat.le_refl _) (dO_empty s.heap I.big)
        have hW := R.kp_none hp
        have R1 := (R.same (Same.new (o := dO (wdX X) s.heap.objs.size []) hp)).wide (D := s.heap.objs.size) upd_same (R.ap hp) hW
        rw [arm_eval_Dict, zip_pairTrees [some kx] [vx] X.env pos rfl rfl, dictDisplay_pairs (pairTrees [some kx] [vx] X.env pos) (by rw [pairTrees]; exact fun z => nomatch z) (by simp [pairTrees])]
        refine wpAny_bind (wpAny_standAt (wpAny_bind (wpAny_subDictH (knd := nestedKind X.prog X.w) (Q := fun d s' => wpAny (model X.prog X.w) X.A (pure (Value.ref d)) (EP X pins σ Q) X.xe s') (show X.A.units + 8 < cLine by omega) (by simp [pairTrees]) ?_)))
        refine pairTrees_cons_walk (thn ((hk.pe _).run pins _ σ _ (fun v H2 => RepS (wdX X) _ σ H2 ρ1 ∧ Df (wdX X) H2 v kd ∧ Grow _ H2) I1 ⟨ρ, kd, ρ1, R1, e1, fun v H2 R2 D2 g2 => ⟨R2, D2, g2⟩⟩) fun u1 s2 ⟨v1, H2, I2, r1, R2, D2, g2⟩ => ?_)
        refine thn ((hv.pe _).run pins _ σ _ (fun v H3 => RepS (wdX X) _ σ H3 ρ' ∧ Df (wdX X) H3 v d ∧ Grow _ H3) I2 ⟨ρ1, d, ρ', R2, e2, fun v H2 R2 D2 g2 => ⟨R2, D2, g2⟩⟩) fun u2 s3 ⟨v2, H3, I3, r2, R3, D3, g3⟩ => ?_
        refine pairTrees_nil_walk ?_
        obtain ⟨R4, hD4, ap4⟩ := R3.narrow hW
        obtain ⟨t, rfl, hkd, hdp, rfl⟩ := tupKey_ref e3 (D2.grow g3)
        cases r1
        obtain ⟨dd, hs, _, _⟩ := dO_of (xs := []) (kvs := []) I3 (.inl hD4) .nil
        refine ⟨[(nk, t, u2)], ⟨rfl, rfl, ⟨nested_of I3 _ _ _ hkd rfl, hdp⟩, trivial⟩, dd, fun h' tk dd' sb => wpAny_pure ?_⟩
        have he' : ∃ q, h'.get? s.heap.objs.size = some q := let ⟨q, _, _, hq, _⟩ := dd'; ⟨q, hq⟩
        have hmL : MutL (H3 s.heap.objs.size) := by rw [hD4]; trivial
        have hm := hmL.mut
        have I4 := d_write (t' := tk) I3 hm sb he' (dO_new (X := X) (xs := [(nk, t, u2)]) hs (by rw [sizeLine_eq]; simp) dd')
        refine ⟨.ref s.heap.objs.size, _, I4, rfl, k _ _ (R4.off hW hmL ap4) ⟨_, [(nk, t, u2)], rfl, hW, upd_same, .cons (hkd.grow (.but hm)) r2 (D3.grow (.but hm)) .nil, ap4⟩ ((Grow.new hp).trans (g2.trans (g3.trans (.but hm))))⟩
      · cases e
    · cases e
  · cases e

def mRngS (f : M (List PyData)) : M Sl := fun ρ => match f ρ with
  | some ([.int i, .int j], ρ') => some (.rng i j, ρ')
  | _ => none
theorem se_rng2 {a b : Expr} {p : Pos} {fr : M (List PyData)} (hg : Gl X "range") (hm : X.mg "range" = none) (ha : DAn X [a, b] fr) (he : starEach [a, b] X.env = (false, eval a X.env) :: starEach [b] X.env := by rfl) (hpl : (backTo pos (starEach [b] X.env)).any (·.1) = false := by rfl) : SE X (.Call (.Name "range" p) [a, b] [] pos) (mRngS fr) := by
  refine ⟨fun W => (pe_callTy cr_range2 hg hm boot_range (ha.pa W) (by decide) (by decide) he hpl).imp fun σ H Q ⟨ρ, z, ρ', R, e, k⟩ => ?_⟩
  unfold mRngS at e
  split at e
  · rename_i i j ρ1 e1
    cases e
    refine ⟨ρ, _, ρ', R, e1, fun vs H1 R1 D1 g1 => ?_⟩
    obtain ⟨v, u, rfl, D3, D4⟩ := D1.two
    exact ⟨i, j, by rw [D3.int_inv, D4.int_inv], fun q hq => k _ _ (R1.same (Same.new hq)) ⟨q, rfl, upd_same⟩ (g1.trans (.new hq))⟩
  · cases e
def mRngV (i : Nat) : M (List PyData) := fun ρ => match ρ[i]? with
  | some (.rng lo hi) => if (-(2 ^ 62) ≤ lo ∧ lo < 2 ^ 62) ∧ -(2 ^ 62) ≤ hi ∧ hi < 2 ^ 62 then some (rngD lo (hi - lo).toNat, ρ) else none
  | _ => none
theorem di_rngv (i : Nat) {x : Str} {tg : Expr} (hN : X.N[i]? = some x := by rfl) (hv : Vis X.env.scope x := by first | exact Or.inl rfl | exact Or.inr (Or.inl rfl) | exact Or.inr (Or.inr rfl)) (hd : (x == ("__debug__" : Str)) = false := by decide)
    (hcd : (x == ("__classdict__" : Str)) = false := by decide) : DI X tg (.Name x pos) (mRngV i) := by
  refine ⟨fun W => ⟨fun pins s σ H R I ⟨ρ, ds, ρ', Rp, e, k⟩ => ?_⟩⟩
  unfold mRngV at e
  split at e
  · rename_i lo hi e0
    split at e
    · rename_i hb
      cases e
      obtain ⟨a, ev, h1⟩ := Rp.at_ i _ e0
      refine thn ((pe_var (i := i) (pos := pos) hN hv hd hcd).run pins s σ H (fun v' H' => v' = .ref a ∧ H' = H) I ⟨_, ev, rfl, rfl⟩) fun u0 s1 ⟨y, H1, I1, r1, ey, eH⟩ => ?_
      subst ey
      subst eH
      cases r1
      obtain ⟨t, u, v, hr⟩ := I1.hok a _ h1
      refine wpAny_pyIter_range (show IsRange s1.heap a lo hi 1 t u v from hr) (small_one hb.1.1 hb.1.2 hb.2.1 hb.2.2) (pi_one (tk := s1.toks) I1 _ (turn_range _ lo (hi - lo).toNat) ?_ (k _ H1 Rp (.refl _) wk_rng))
      have e1 : lo + ((0 : Nat) : Int) * 1 = lo := by simp
      have e2 : (((hi - lo).toNat : Nat) : Int) - ((0 : Nat) : Int) = Builtin.Range.rangeSize lo hi 1 := by rw [rangeSize_one]; split <;> omega
      show IsRangeIter _ _ (lo + ((0 : Nat) : Int) * 1) ((((hi - lo).toNat : Nat) : Int) - ((0 : Nat) : Int)) 1
      rw [e1, e2]
      exact Heap.get?_push_size _ rfl
    · cases e
  · cases e

def noObj : Sl → Bool
  | .obj _ _ _ => false
  | _ => true
def apart (v w : V) : Sl → Sl → Prop
  | .own _, .own _ => v ≠ w
  | .own _, .dic _ => v ≠ w
  | .dic _, .own _ => v ≠ w
  | .dic _, .dic _ => v ≠ w
  | _, _ => True
def xS (Γ : Wd) (f : M Sl) : TE := fun σ H Q => ∃ W, rdS Γ W f σ H Q
theorem SE.x {e : Expr} {f : M Sl} (h : SE X e f) : PE X e (xS (wdX X) f) := ⟨fun pins s σ H Q I ⟨W, hq⟩ => (h.pe W).run pins s σ H Q I hq⟩
theorem hold_new {Γ : Wd} {W : Wt} {σ : Sg} {H : Hp} {ρ : Env} {v : V} {s : Sl} (R : RepS Γ W σ H ρ) (n : NewS Γ W σ ρ H v s) (hno : noObj s = true) : ∃ W2, RepS Γ W2 σ H ρ ∧ ∀ H2 ρ2, RepS Γ W2 σ H2 ρ2 → Grow H H2 → RepS Γ W σ H2 ρ2 ∧ NewS Γ W σ ρ2 H2 v s ∧ ∀ v2 s2, NewS Γ W2 σ ρ2 H2 v2 s2 → NewS Γ W σ ρ2 H2 v2 s2 ∧ apart v v2 s s2 := by
  have pass : ∀ s', (∀ v2 s2, apart v v2 s' s2) → NewS Γ W σ ρ H v s' → (∀ H2 ρ2, Grow H H2 → NewS Γ W σ ρ2 H2 v s') → ∃ W2, RepS Γ W2 σ H ρ ∧ ∀ H2 ρ2, RepS Γ W2 σ H2 ρ2 → Grow H H2 → RepS Γ W σ H2 ρ2 ∧ NewS Γ W σ ρ2 H2 v s' ∧ ∀ v2 s2, NewS Γ W2 σ ρ2 H2 v2 s2 → NewS Γ W σ ρ2 H2 v2 s2 ∧ apart v v2 s' s2 :=
    fun s' ha n' hn => ⟨W, R, fun H2 ρ2 R2 g2 => ⟨R2, hn H2 ρ2 g2, fun v2 s2 n2 => ⟨n2, ha v2 s2⟩⟩⟩
  have add : ∀ (D : Addr) (o : HO), W.kp D = none → ∀ b, (W.add D o).kp b = none → W.kp b = none ∧ b ≠ D := fun D o hW b e => by
    rw [Wt.add_kp hW] at e
    by_cases eb : b = D
    · subst eb; rw [upd_same] at e; cases e
    · rw [upd_ne eb] at e; exact ⟨e, eb⟩
  cases s with
  | un => exact n.elim
  | bor d => exact n.elim
  | dat d => exact pass _ (fun _ _ => trivial) n fun H2 ρ2 g => (show Df Γ H v d from n).grow g
  | rng lo hi => exact pass _ (fun _ _ => trivial) n fun H2 ρ2 g => by obtain ⟨a, e, h⟩ := n; exact ⟨a, e, g.rng _ _ _ h⟩
  | con _ _ _ _ _ => exact n.elim
  | sel _ _ _ => exact n.elim
  | exc _ _ _ => exact n.elim
  | obj _ _ _ => cases hno
  | own ds =>
    obtain ⟨a, xs, rfl, w, h1, h2, ap⟩ := n
    refine ⟨W.add a (.lst xs), R.wide h1 ap w, fun H2 ρ2 R2 g2 => ?_⟩
    obtain ⟨R3, hD, ap3⟩ := R2.narrow w
    refine ⟨R3, ⟨a, xs, rfl, w, hD, h2.grow g2, ap3⟩, fun v2 s2 n2 => ?_⟩
    cases s2 with
    | own ds2 => obtain ⟨b, ys, rfl, w2, r⟩ := n2; exact ⟨⟨b, ys, rfl, (add _ _ w b w2).1, r⟩, fun z => (add _ _ w b w2).2 (by cases z; rfl)⟩
    | dic ds2 => obtain ⟨b, ys, rfl, w2, r⟩ := n2; exact ⟨⟨b, ys, rfl, (add _ _ w b w2).1, r⟩, fun z => (add _ _ w b w2).2 (by cases z; rfl)⟩
    | obj C f d => obtain ⟨b, dx, u, rfl, w2, r⟩ := n2; exact ⟨⟨b, dx, u, rfl, (add _ _ w b w2).1, r⟩, trivial⟩
    | un => exact ⟨n2, trivial⟩
    | dat _ => exact ⟨n2, trivial⟩
    | rng _ _ => exact ⟨n2, trivial⟩
    | _ => exact n2.elim
  | dic ds =>
    obtain ⟨a, xs, rfl, w, h1, h2, ap⟩ := n
    refine ⟨W.add a (dO Γ a xs), R.wide h1 ap w, fun H2 ρ2 R2 g2 => ?_⟩
    obtain ⟨R3, hD, ap3⟩ := R2.narrow w
    refine ⟨R3, ⟨a, xs, rfl, w, hD, h2.grow g2, ap3⟩, fun v2 s2 n2 => ?_⟩
    cases s2 with
    | own ds2 => obtain ⟨b, ys, rfl, w2, r⟩ := n2; exact ⟨⟨b, ys, rfl, (add _ _ w b w2).1, r⟩, fun z => (add _ _ w b w2).2 (by cases z; rfl)⟩
    | dic ds2 => obtain ⟨b, ys, rfl, w2, r⟩ := n2; exact ⟨⟨b, ys, rfl, (add _ _ w b w2).1, r⟩, fun z => (add _ _ w b w2).2 (by cases z; rfl)⟩
    | obj C f d => obtain ⟨b, dx, u, rfl, w2, r⟩ := n2; exact ⟨⟨b, dx, u, rfl, (add _ _ w b w2).1, r⟩, trivial⟩
    | un => exact ⟨n2, trivial⟩
    | dat _ => exact ⟨n2, trivial⟩
    | rng _ _ => exact ⟨n2, trivial⟩
    | _ => exact n2.elim
theorem NewS.set {Γ : Wd} {W : Wt} {σ : Sg} {H : Hp} {ρ ρ' : Env} {v w : V} {s s2 : Sl} {i : Nat} (n : NewS Γ W σ ρ H w s2) (ha : apart v w s s2) (h : setSl i s ρ = some ρ') (hl : ρ.length = σ.length) : NewS Γ W (σ.set i (some v)) ρ' H w s2 := by
  obtain ⟨rfl, _⟩ := setSl_eq h
  have go : ∀ b, Ap ρ σ b → (mutS (some s) → v ≠ .ref b) → Ap (ρ.set i s) (σ.set i (some v)) b := fun b ap hv j hj e => by
    by_cases hi : i = j
    · subst hi
      by_cases hlt : i < ρ.length
      · rw [List.getElem?_set_self hlt] at hj
        rw [List.getElem?_set_self (by omega)] at e
        cases e
        exact hv hj rfl
      · rw [List.getElem?_eq_none (by simpa using hlt)] at hj; exact hj
    · rw [List.getElem?_set_ne hi] at hj e
      exact ap j hj e
  cases s2 with
  | own ds => obtain ⟨b, xs, rfl, w2, h1, h2, ap⟩ := n; exact ⟨b, xs, rfl, w2, h1, h2, go b ap fun hm => by cases s <;> first | exact hm.elim | exact ha⟩
  | dic ds => obtain ⟨b, xs, rfl, w2, h1, h2, ap⟩ := n; exact ⟨b, xs, rfl, w2, h1, h2, go b ap fun hm => by cases s <;> first | exact hm.elim | exact ha⟩
  | _ => exact n
def sPar (i j : Nat) (fa fb : M Sl) : MS := fun ρ => match fa ρ with
  | none => none
  | some (s1, ρ1) => (match fb ρ1 with
    | none => none
    | some (s2, ρ2) => if noObj s1 = true then (match setSl i s1 ρ2 with
      | none => none
      | some ρ3 => (match setSl j s2 ρ3 with
        | none => none
        | some ρ4 => some (.nx ρ4))) else none)
theorem ds_par (i j : Nat) {x y : Str} {a b : Expr} {fa fb : M Sl} {px py pt : Pos} {kt k2 pt2} (hc : X.calm = true) (hN : X.N.Nodup) (ha : SE X a fa) (hb : SE X b fb)
    (hw : swappedStores [.Tuple [.Name x px, .Name y py] kt pt] (.Tuple [a, b] k2 pt2) X.env = pure (some [x, y])) (hi : X.N[i]? = some x := by rfl) (hj : X.N[j]? = some y := by rfl) (hij : i ≠ j := by decide)
    (hx : X.env.scope.names.lookup x = some .local := by rfl) (hy : X.env.scope.names.lookup y = some .local := by rfl)
    (hs : swapsWithSole [.Tuple [.Name x px, .Name y py] kt pt] (.Tuple [a, b] k2 pt2) pos.line X.env = pure false := by rfl) (he1 : starEach [a, b] X.env = (false, eval a X.env) :: starEach [b] X.env := by rfl) (he2 : starEach [b] X.env = (false, eval b X.env) :: starEach [] X.env := by rfl) :
    DS X (.Assign [.Tuple [.Name x px, .Name y py] kt pt] (.Tuple [a, b] k2 pt2) pos) (sPar i j fa fb) := by
  refine ⟨fun W => (ps_par hc hN hi hj hij hx hy (pa_cons ha.x (pa_cons hb.x pa_nil he2) he1) hw hs).imp fun D σ H ⟨ρ, o, R, e, q⟩ => ?_⟩
  unfold sPar at e
  cases e1 : fa ρ with
  | none => simp only [e1] at e; cases e
  | some p =>
  obtain ⟨s1, ρ1⟩ := p
  simp only [e1] at e
  cases e2 : fb ρ1 with
  | none => simp only [e2] at e; cases e
  | some p =>
  obtain ⟨s2, ρ2⟩ := p
  simp only [e2] at e
  split at e
  case isFalse => cases e
  rename_i hno
  cases e3 : setSl i s1 ρ2 with
  | none => simp only [e3] at e; cases e
  | some ρ3 =>
  simp only [e3] at e
  cases e4 : setSl j s2 ρ3 with
  | none => simp only [e4] at e; cases e
  | some ρ4 =>
  simp only [e4] at e
  cases e
  refine ⟨W, ρ, s1, ρ1, R, e1, fun v H1 R1 n1 g1 => ?_⟩
  obtain ⟨W2, R1', hold⟩ := hold_new R1 n1 hno
  refine ⟨W2, ρ1, s2, ρ2, R1', e2, fun w H2 R2 n2 g2 => ⟨v, w, rfl, ?_⟩⟩
  obtain ⟨R3, n3, both⟩ := hold H2 ρ2 R2 g2
  obtain ⟨n4, ap⟩ := both w s2 n2
  exact q _ H2 ((R3.set n3 e3).set (n4.set ap e3 R3.len) e4) (g1.trans g2)
end
end Dn
namespace Dn
open PySem PySem.W PySem.Spec PyProof.Rows L2

def tyN : PyData → String
  | .none => "NoneType"
  | .bool _ => "bool"
  | .int _ => "int"
  | .str _ => "str"
  | .list _ => "list"
  | .tuple _ => "tuple"
  | .dict _ => "dict"
def isB (t T : String) : Bool := t == T || (t == "bool" && T == "int")
def isiD (T : String) : PyData → Option PyData
  | .dict _ => none
  | d => some (.bool (isB (tyN d) T))
section
variable {X : Cx} {H : Hp}
theorem tyX_of {v : V} {d : PyData} (h : Df (wdX X) H v d) (hd : ∀ kvs, d ≠ .dict kvs) : TyX X.K H v (.type (tyN d)) := by
  cases h with
  | non => exact .base .non
  | bl b => exact .base (.bl b)
  | int i => exact .base (.int i)
  | str x => exact .base (.str x)
  | lst h1 h2 => obtain ⟨o, h1⟩ := h1; exact .base (.frz h1)
  | tup h1 h2 =>
    rcases h1 with (h1 | ⟨o, h1⟩) | ⟨o, its, n, h1, hc, _⟩
    · exact .base (.tup h1)
    · exact .fTuple h1
    · exact .kTuple h1 hc
  | dic h1 h2 => exact absurd rfl (hd _)
def KitT (T : String) : Prop := ∀ t ∈ ["NoneType", "bool", "int", "str", "list", "tuple"], kitB t T = some (isB t T)
theorem kit_int : KitT "int" := by unfold KitT; decide +kernel
theorem kit_bool : KitT "bool" := by unfold KitT; decide +kernel
theorem kit_str : KitT "str" := by unfold KitT; decide +kernel
theorem kit_list : KitT "list" := by unfold KitT; decide +kernel
theorem kit_tuple : KitT "tuple" := by unfold KitT; decide +kernel
variable {pos : Pos} {a b : Expr} {fa : M PyData}
theorem tyN_mem {d : PyData} (hd : ∀ kvs, d ≠ .dict kvs) : tyN d ∈ ["NoneType", "bool", "int", "str", "list", "tuple"] := by
  cases d <;> first | exact absurd rfl (hd _) | simp [tyN]
theorem de_isi (T : String) {y : Str} {p q : Pos} (hT : KitT T) (ha : DE X a fa) (hg : Gl X "isinstance") (hm : X.mg "isinstance" = none) (hg2 : Gl X y) (hm2 : X.mg y = none) (hv2 : bootBuiltins y = some (.type T) := by decide +kernel)
    (hn2 : y ≠ "__name__" := by decide) (hd2 : (y == ("__debug__" : Str)) = false := by decide) (he1 : starEach [a, .Name y q] X.env = (false, eval a X.env) :: starEach [.Name y q] X.env := by rfl) (he2 : starEach [.Name y q] X.env = (false, eval (.Name y q) X.env) :: starEach [] X.env := by rfl)
    (hpl : (backTo pos (starEach [.Name y q] X.env)).any (·.1) = false := by rfl) : DE X (.Call (.Name "isinstance" p) [a, .Name y q] [] pos) (m1 (isiD T) fa) := by
  refine ⟨fun W => (pe_callB call_isi hg hm (by decide +kernel) (pa_cons (ha.pe W) (pa_cons (pe_bltn (v := .ty T) hg2 hm2 hv2 rfl hn2 hd2) pa_nil he2) he1) (by decide) (by decide) he1 hpl).imp fun σ H Q ⟨ρ, z, ρ', R, e, k⟩ => ?_⟩
  obtain ⟨d, e1, e2⟩ := m1_inv e
  refine ⟨ρ, d, ρ', R, e1, fun v H1 R1 D1 g1 => ?_⟩
  have hd : ∀ kvs, d ≠ .dict kvs := fun kvs z => by subst z; cases e2
  have e3 : z = .bool (isB (tyN d) T) := by cases d <;> first | (cases e2; rfl) | exact absurd rfl (hd _)
  subst e3
  exact ⟨v, .ty T, .type (tyN d), .type T, _, rfl, .ty T, tyX_of D1 hd, kit_ty (hT _ (tyN_mem hd)), k _ H1 R1 (.bl _) g1⟩
end

def insB {α : Type} (le : α → α → Bool) (x : α) : List α → List α
  | [] => [x]
  | y :: ys => if le x y = true then x :: y :: ys else y :: insB le x ys
def isortB {α : Type} (le : α → α → Bool) : List α → List α
  | [] => []
  | x :: xs => insB le x (isortB le xs)
theorem insB_perm {α : Type} (le : α → α → Bool) (x : α) : ∀ l : List α, (insB le x l).Perm (x :: l)
  | [] => .refl _
  | y :: ys => by
    unfold insB
    split
    · exact .refl _
    · exact ((insB_perm le x ys).cons y).trans (.swap x y ys)
theorem isortB_perm {α : Type} (le : α → α → Bool) : ∀ l : List α, (isortB le l).Perm l
  | [] => .refl _
  | x :: xs => (insB_perm le x _).trans ((isortB_perm le xs).cons x)
theorem insB_pw {α : Type} {le : α → α → Bool} (tr : ∀ a b c, le a b = true → le b c = true → le a c = true) (to : ∀ a b, le a b = true ∨ le b a = true) (x : α) : ∀ l : List α, l.Pairwise (fun a b => le a b = true) → (insB le x l).Pairwise (fun a b => le a b = true)
  | [], _ => by simp [insB]
  | y :: ys, h => by
    unfold insB
    obtain ⟨h1, h2⟩ := List.pairwise_cons.mp h
    split
    · rename_i hxy
      refine List.pairwise_cons.mpr ⟨fun z hz => ?_, h⟩
      rcases List.mem_cons.mp hz with rfl | hz
      · exact hxy
      · exact tr _ _ _ hxy (h1 z hz)
    · rename_i hxy
      refine List.pairwise_cons.mpr ⟨fun z hz => ?_, insB_pw tr to x ys h2⟩
      rcases List.mem_cons.mp ((insB_perm le x ys).mem_iff.mp hz) with rfl | hz
      · exact (to z y).resolve_left hxy
      · exact h1 z hz
theorem isortB_pw {α : Type} {le : α → α → Bool} (tr : ∀ a b c, le a b = true → le b c = true → le a c = true) (to : ∀ a b, le a b = true ∨ le b a = true) : ∀ l : List α, (isortB le l).Pairwise (fun a b => le a b = true)
  | [] => .nil
  | x :: xs => insB_pw tr to x _ (isortB_pw tr to xs)
theorem isortB_eq {α : Type} {le : α → α → Bool} (tr : ∀ a b c, le a b = true → le b c = true → le a c = true) (to : ∀ a b, le a b = true ∨ le b a = true) (l : List α) (anti : ∀ a ∈ l, ∀ b ∈ l, le a b = true → le b a = true → a = b) : l.mergeSort le = isortB le l := by
  have p1 : (l.mergeSort le).Perm l := List.mergeSort_perm l le
  have p2 := isortB_perm le l
  have w1 : (l.mergeSort le).Pairwise (fun a b => le a b = true) := List.pairwise_mergeSort tr (fun a b => by have := to a b; simpa using this) l
  exact List.Perm.eq_of_pairwise (fun a b ha hb h1 h2 => anti a (p1.mem_iff.mp ha) b (p2.mem_iff.mp hb) h1 h2) w1 (isortB_pw tr to l) (p1.trans p2.symm)
def leB (a b : PyData) : Bool := dataLe false id a b
def allAlikeB (ds : List PyData) : Bool := ds.all fun a => ds.all fun b => alike a b
def sortB (ds : List PyData) : Bool := (ds.all fun d => match d with | .tuple (_ :: _) => true | _ => false) || ds.all fun d => match d with | .none => false | .tuple _ => false | _ => true
def antiB (ds : List PyData) : Bool := ds.all fun a => (toKey a).isSome && ds.all fun b => !(leB a b && leB b a) || PyData.eqv a b
def sortOk (ds : List PyData) : Bool := PyData.canLayAll0 ds && allAlikeB ds && sortB ds && antiB ds && decide (PyData.depthAll ds ≤ 16) && decide (ds.length ≤ 100000)
def sortedD (d : PyData) : Option PyData := match itemsD d with
  | some ds => if sortOk ds = true then some (.list (isortB leB ds)) else none
  | none => none
theorem allAlike_of {ds : List PyData} (h : allAlikeB ds = true) : AllAlike ds := fun a ha b hb => by
  unfold allAlikeB at h
  exact List.all_eq_true.mp (List.all_eq_true.mp h a ha) b hb
theorem sortable_of {ds : List PyData} (h : sortB ds = true) : Sortable ds := by
  unfold sortB at h
  rw [Bool.or_eq_true] at h
  rcases h with h | h
  · refine .inl fun d hd => ?_
    have := List.all_eq_true.mp h d hd
    cases d <;> first | cases this | skip
    rename_i xs
    cases xs with
    | nil => cases this
    | cons x r => exact ⟨x, r, rfl⟩
  · refine .inr fun d hd => ?_
    have := List.all_eq_true.mp h d hd
    cases d with
    | none => simp at this
    | tuple xs => simp at this
    | _ => exact ⟨by simp, by simp⟩
theorem eqv_eq {a b : PyData} (ha : (toKey a).isSome = true) (hb : (toKey b).isSome = true) (h : PyData.eqv a b = true) : a = b := by
  obtain ⟨k, ek⟩ := Option.isSome_iff_exists.mp ha
  obtain ⟨j, ej⟩ := Option.isSome_iff_exists.mp hb
  rw [toKey_data ek, toKey_data ej] at h ⊢
  rw [eqv_dec] at h
  rw [of_decide_eq_true h]
theorem sort_eq {ds : List PyData} (h : antiB ds = true) : ds.mergeSort (dataLe false id) = isortB leB ds := by
  have T := sortLe_total (listOrd itemOrd) false fun b : PyData => keyToks (id b)
  refine isortB_eq (le := leB) T.trans T.total ds fun a ha b hb h1 h2 => ?_
  unfold antiB at h
  have qa := List.all_eq_true.mp h a ha
  have qb := List.all_eq_true.mp h b hb
  rw [Bool.and_eq_true] at qa qb
  have q := List.all_eq_true.mp qa.2 b hb
  rw [h1, h2] at q
  exact eqv_eq qa.1 qb.1 (by simpa using q)
theorem depth_mem {ds : List PyData} {d : PyData} (h : d ∈ ds) : d.depth ≤ PyData.depthAll ds := by
  induction ds with
  | nil => cases h
  | cons x r ih =>
    rw [PyData.depthAll]
    rcases List.mem_cons.mp h with rfl | h
    · omega
    · have := ih h; omega
section
variable {X : Cx} {pins : List (Addr × Obj)} {σ : Sg} {H : Hp} {s : Shared}
theorem each_of {vs : List V} {us : List Value} {ds : List PyData} (rv : Vals vs us) (hd : DfA (wdX X) H vs ds) : EachIs (fun u d => ∃ v, RelV v u ∧ Df (wdX X) H v d) us ds := by
  induction rv generalizing ds with
  | nil => cases hd; exact .nil
  | cons r rr ih =>
    cases hd with
    | cons h1 h2 => exact .cons ⟨_, r, h1⟩ (ih h2)
theorem of_each {us : List Value} {ds : List PyData} (h : EachIs (fun u d => ∃ v, RelV v u ∧ Df (wdX X) H v d) us ds) : ∃ vs, Vals vs us ∧ DfA (wdX X) H vs ds := by
  induction h with
  | nil => exact ⟨[], .nil, .nil⟩
  | cons r rr ih =>
    obtain ⟨v, r1, h1⟩ := r
    obtain ⟨vs, r2, h2⟩ := ih
    exact ⟨v :: vs, .cons r1 r2, .cons h1 h2⟩
theorem each_reads (I : Inv X pins σ H s) {h' : Heap} {D : Addr} (hk : ∀ b o, s.heap.get? b = some o → h'.get? b = some o) (hD : s.heap.objs.size ≤ D) {us : List Value} {ds : List PyData} (h : EachIs (fun u d => ∃ v, RelV v u ∧ Df (wdX X) H v d) us ds) (c : PyData.canLayAll0 ds = true) :
    EachIs (fun u d => ∃ as, Reads h' u d as ∧ D ∉ as) us ds := by
  induction h with
  | nil => exact .nil
  | cons r rr ih =>
    rw [PyData.canLayAll0, Bool.and_eq_true] at c
    obtain ⟨v, r1, h1⟩ := r
    obtain ⟨as, r2⟩ := reads_of I h1 c.1 r1
    refine .cons ⟨as, Reads.keeps hk r2, fun hm => ?_⟩ (ih c.2)
    obtain ⟨o, e⟩ := PyProof.On.reads_mem_get r2 D hm
    exact absurd (Heap.lt_size e) (Nat.not_lt.mpr hD)
theorem sort_tail {vs : List V} {us : List Value} {ds : List PyData} {Q : VK} {E : Value → Shared → Prop} {tk : Nat} (I : Inv X pins σ H s) (rv : Vals vs us) (hd : DfA (wdX X) H vs ds) (ok : sortOk ds = true) (hu : X.A.units + 32 < cLine)
    (q : ∀ p ys, H p = none → DfA (wdX X) H ys (isortB leB ds) → Q (.ref p) (upd H p (.lst ys))) :
    wpAny (model X.prog X.w) X.A.in1 (call (.builtin "list.sort") [.ref s.heap.objs.size]) (fun _ s' => EP X pins σ Q (.ref s.heap.objs.size) s') E { s with heap := s.heap.push { cls := .type "list", data := .seq us.toArray }, toks := tk } := by
  unfold sortOk at ok
  simp only [Bool.and_eq_true, decide_eq_true_eq] at ok
  obtain ⟨⟨⟨⟨⟨c, hal⟩, hso⟩, han⟩, hdp⟩, hz⟩ := ok
  have ho : (s.heap.push { cls := .type "list", data := .seq us.toArray }).get? s.heap.objs.size = some (seqObj "list" us.toArray 0) := Heap.get?_push_size _ rfl
  have hk2 : ∀ b o, s.heap.get? b = some o → (s.heap.push { cls := .type "list", data := .seq us.toArray }).get? b = some o := fun b o e => Heap.get?_push_of_some _ e
  have e0 := each_of rv hd
  have lz : us.length = ds.length := e0.length
  refine list_sort_data (enc := id) (bs := ds) ho e0 (each_reads I hk2 (Nat.le_refl _) e0 c) (by rw [List.map_id]; exact allAlike_of hal) (by rw [List.map_id]; exact sortable_of hso) (by rw [sizeLine_eq]; omega) (fun d hm => ?_) fun out hl eo => ?_
  · have := depth_mem hm
    show X.A.units + 1 + 1 + d.depth < cLine
    omega
  · rw [sort_eq han] at eo
    obtain ⟨ys, ry, hy⟩ := of_each eo
    obtain ⟨c', hc'⟩ := sortedHeap_at (vs := us) (out := out.toArray) ho
    have lo : out.length ≤ sizeLine := by rw [hl, sizeLine_eq]; omega
    refine ⟨.ref s.heap.objs.size, upd H s.heap.objs.size (.lst ys), I.laid (t' := tk) (fun b u e => ?_) (Nat.le_refl _) ⟨by rw [ry.length]; exact lo, out, c', ry, hc'⟩, rfl, q _ ys (I.hok.fresh (Nat.le_refl _)) hy⟩
    exact (sortedHeap_old (Nat.ne_of_lt (Heap.lt_size e)) (Heap.lt_size (hk2 b u e))).trans (hk2 b u e)

theorem call_sortedL (hu : X.A.units + 32 < cLine) : CallR X (.builtin "sorted") (fun xs H Q => ∃ x d ds, xs = [x] ∧ Dl (wdX X) H x d ∧ itemsD d = some ds ∧ sortOk ds = true ∧ (∀ kvs, d ≠ .dict kvs) ∧ ∀ p ys, H p = none → DfA (wdX X) H ys (isortB leB ds) → Q (.ref p) (upd H p (.lst ys))) := by
  intro pins s σ H xs us Q I r h
  obtain ⟨x, d, ds, rfl, hx, hi, ok, hnd, q⟩ := h
  obtain ⟨u, rfl, rx⟩ := vals1 r
  have main : ∀ (a : Addr) (vs : List V) (its : List Value) (T : String) (o : Obj) (n : Nat), x = .ref a → Vals vs its → DfA (wdX X) H vs ds → (T = "list" ∨ T = "tuple") → s.heap.get? a = some o → o.cls = .type T → o.data = .seq its.toArray n → wpAny (model X.prog X.w) X.A (call (.builtin "sorted") [u]) (EP X pins σ Q) X.xe s := by
    rintro a vs its T o n rfl rv hd hT ho hc hdt
    cases rx
    have hz : its.length ≤ 100000 := by
      have e1 := rv.length
      have e2 := hd.length
      unfold sortOk at ok
      simp only [Bool.and_eq_true, decide_eq_true_eq] at ok
      omega
    refine PySem.Calls.call_function_entry kind_sorted plain_sorted entry_sorted (args_sorted1 _) ?_
    unfold Builtin.«sorted»
    refine wpAny_bind (m := checkCount "sorted" 1 1 _) (wpAny_pure ?_)
    refine wpAny_bind (wpAny_collect_seq (hsz := by rw [sizeLine_eq]; simp; omega) a hT ho hc hdt fun h' hk => ?_)
    have el : its.toArray.toList = its := by simp
    rw [el]
    refine wpAny_bind (wpAny_newList ?_ (by rw [sizeLine_eq]; omega))
    have I1 : Inv X pins σ H { s with heap := h' } := I.kept (t' := s.toks) hk
    refine wpAny_bind (wpAny_holding (wpAny_mono (sort_tail (tk := s.toks) I1 rv hd ok hu q) (fun _ s' x => ?_) fun _ _ e => e))
    exact wpAny_pure ⟨_, rfl, x⟩
  cases d <;> simp only [itemsD, Option.some.injEq, reduceCtorEq] at hi
  · subst hi
    obtain ⟨a, vs, rfl, h1, h2⟩ := hx.lst_inv
    obtain ⟨its, rv, pl, hz⟩ := I.list h1
    obtain ⟨o, n, ho, hc, hdn, hdt⟩ := pl
    exact main a vs its "list" o n rfl rv h2 (.inl rfl) ho hc hdt
  · subst hi
    obtain ⟨a, vs, rfl, h1, h2⟩ := hx.tup_inv
    obtain ⟨its, rv, pl, hz⟩ := I.tuple h1
    obtain ⟨o, ho, hc, n, hdt⟩ := pl
    exact main a vs its "tuple" o n rfl rv h2 (.inr rfl) ho hc hdt
  · exact absurd rfl (hnd _)
theorem keysA : ∀ {xs : List Ent} {kvs : List (PyData × PyData)}, DfE (wdX X) H xs kvs → DfA (wdX X) H (xs.map fun x => V.ref x.2.1) (kvs.map (·.1))
  | _, _, .nil => .nil
  | _, _, .cons h1 _ _ h4 => .cons h1 (keysA h4)
theorem keysV : ∀ (xs : List Ent), Vals (xs.map fun x => V.ref x.2.1) (xs.map fun x => Value.ref x.2.1)
  | [] => .nil
  | x :: xs => .cons rfl (keysV xs)
theorem call_sortedD (hc : X.calm = true) (hu : X.A.units + 32 < cLine) : CallR X (.builtin "sorted") (fun xs H Q => ∃ x kvs, xs = [x] ∧ Dl (wdX X) H x (.dict kvs) ∧ sortOk (kvs.map (·.1)) = true ∧ ∀ p ys, H p = none → DfA (wdX X) H ys (isortB leB (kvs.map (·.1))) → Q (.ref p) (upd H p (.lst ys))) := by
  intro pins s σ H xs us Q I r h
  obtain ⟨x, kvs, rfl, hx, ok, q⟩ := h
  obtain ⟨u, rfl, rx⟩ := vals1 r
  obtain ⟨a, xs, rfl, h1, h2⟩ := hx.dic_inv
  cases rx
  obtain ⟨o, es, ep, ho, hx, hdt, he, hn, hs, hz, hdp⟩ := dict_raw I h1
  have hraw : s.heap.DictRaw a es ep := ⟨o, ho, hx, hdt⟩
  have hsz : es.size = xs.length := by
    have l := congrArg List.length he
    simpa using l
  refine PySem.Calls.call_function_entry kind_sorted plain_sorted entry_sorted (args_sorted1 _) ?_
  unfold Builtin.«sorted»
  refine wpAny_bind (m := checkCount "sorted" 1 1 _) (wpAny_pure ?_)
  refine wpAny_bind (kdu_collect (A := X.A.in1) (KdlSrc.rawDict hs) (I.ok.hd hc) hraw (by omega) fun h' tk acc hk hacc => ?_)
  have el : acc.toList = xs.map fun x => Value.ref x.2.1 := by
    refine List.ext_getElem? fun i => ?_
    have hl : acc.toList.length = xs.length := by rw [Array.length_toList, hacc.1, hsz]
    by_cases hi : i < xs.length
    · have hia : i < acc.size := by rw [hacc.1, hsz]; exact hi
      obtain ⟨hi2, e2⟩ := hacc.2 i acc[i] (by simp [hia])
      have e3 : es[i]? = (xs[i]?).map (entryOfKey (nestedKind X.prog X.w)) := by rw [← Array.getElem?_toList, he, List.getElem?_map]
      rw [List.getElem?_eq_getElem hi, Array.getElem?_eq_getElem hi2] at e3
      have e4 : es[i] = entryOfKey (nestedKind X.prog X.w) xs[i] := Option.some.inj e3
      rw [Array.getElem?_toList, Array.getElem?_eq_getElem hia, e2, e4, List.getElem?_map, List.getElem?_eq_getElem hi]
      rfl
    · rw [List.getElem?_eq_none (by omega), List.getElem?_eq_none (by simp; omega)]
  rw [el]
  refine wpAny_bind (wpAny_newList ?_ (by rw [List.length_map]; exact hz))
  have I1 : Inv X pins σ H { s with heap := h', toks := tk } := I.kept (t' := tk) hk
  refine wpAny_bind (wpAny_holding (wpAny_mono (sort_tail (tk := tk) I1 (keysV xs) (keysA h2) ok hu q) (fun _ s' x => ?_) fun _ _ e => e))
  exact wpAny_pure ⟨_, rfl, x⟩
def mSorted (f : M PyData) : M Sl := fun ρ => match f ρ with
  | some (d, ρ') => (match itemsD d with
    | some ds => if sortOk ds = true then some (.own (isortB leB ds), ρ') else none
    | none => none)
  | none => none
variable {pos : Pos} {a b : Expr} {fa : M PyData}
theorem se_sorted {p : Pos} (hc : X.calm = true) (hu : X.A.units + 32 < cLine) (ha : LE X a fa) (hg : Gl X "sorted") (hm : X.mg "sorted" = none) (he : starEach [a] X.env = (false, eval a X.env) :: starEach [] X.env := by rfl) (hpl : (backTo pos (starEach [] X.env)).any (·.1) = false := by rfl) :
    SE X (.Call (.Name "sorted" p) [a] [] pos) (mSorted fa) := by
  refine ⟨fun W => (pe_callB ((call_sortedL hu).or (call_sortedD hc hu)) hg hm (by decide +kernel) (pa_cons (ha.pe W) pa_nil he) (by decide) (by decide) he hpl).imp fun σ H Q ⟨ρ, z, ρ', R, e, k⟩ => ?_⟩
  unfold mSorted at e
  split at e
  · rename_i d ρ1 e1
    split at e
    · rename_i ds ei
      split at e
      · rename_i ok
        cases e
        refine ⟨ρ, d, ρ', R, e1, fun v H1 R1 D1 g1 => ?_⟩
        have fin : ∀ p ys, H1 p = none → DfA (wdX X) H1 ys (isortB leB ds) → Q (.ref p) (upd H1 p (.lst ys)) := fun p ys hp hy => k _ _ (R1.same (Same.new hp)) ⟨p, ys, rfl, R1.kp_none hp, upd_same, hy.grow (.new hp), R1.ap hp⟩ (g1.trans (.new hp))
        by_cases hd : ∃ kvs, d = .dict kvs
        · obtain ⟨kvs, rfl⟩ := hd
          simp only [itemsD, Option.some.injEq] at ei
          subst ei
          exact .inr ⟨v, kvs, rfl, D1, ok, fin⟩
        · exact .inl ⟨v, d, ds, rfl, D1, ei, ok, fun kvs z => hd ⟨kvs, z⟩, fin⟩
      · cases e
    · cases e
  · cases e
end
end Dn
namespace Dn
open PySem PySem.W PySem.Spec PyProof.Rows L2

def pickOk (ds : List PyData) : Bool := PyData.canLayAll0 ds && allAlikeB ds && (ds.all fun d => !isNone d) && decide (PyData.depthAll ds ≤ 16) && decide (ds.length ≤ 100000)
def minL (d : PyData) : Option PyData := match itemsD d with
  | some (x :: xs) => if pickOk (x :: xs) = true then some (minD x xs) else none
  | _ => none
def maxL (d : PyData) : Option PyData := match itemsD d with
  | some (x :: xs) => if pickOk (x :: xs) = true then some (maxD x xs) else none
  | _ => none
theorem pick_inv {ds : List PyData} (h : pickOk ds = true) : PyData.canLayAll0 ds = true ∧ AlikeAll ds ∧ PyData.depthAll ds ≤ 16 ∧ ds.length ≤ 100000 := by
  unfold pickOk at h
  simp only [Bool.and_eq_true, decide_eq_true_eq] at h
  obtain ⟨⟨⟨⟨c, ha⟩, hn⟩, hd⟩, hz⟩ := h
  refine ⟨c, ⟨fun x hx y hy => allAlike_of ha x hx y hy, fun x hx z => ?_⟩, hd, hz⟩
  have := List.all_eq_true.mp hn x hx
  subst z
  simp [isNone] at this
section
variable {X : Cx} {pins : List (Addr × Obj)} {σ : Sg} {H : Hp} {s : Shared}
theorem pick_at {vs : List V} {us : List Value} {ds : List PyData} {i : Nat} {u : Value} (rv : Vals vs us) (hd : DfA (wdX X) H vs ds) (e : us.toArray[i]? = some u) : ∃ v, RelV v u ∧ i < ds.length ∧ Df (wdX X) H v (ds.getD i .none) := by
  have e' : us[i]? = some u := by simpa using e
  obtain ⟨hi, _⟩ := List.getElem?_eq_some_iff.mp e'
  have hl := rv.length
  have hv : vs[i]? = some vs[i] := List.getElem?_eq_getElem (by omega)
  obtain ⟨u', e2, r⟩ := rv.get hv
  rw [e'] at e2; cases e2
  obtain ⟨d, e3, h3⟩ := hd.getV hv
  have hl2 := hd.length
  exact ⟨_, r, by omega, by rw [List.getD_eq_getElem?_getD, e3]; exact h3⟩
/-- the walk of a list, of a tuple, of a dict's keys, as min and max ask it -/
theorem iter_items (hc : X.calm = true) (I : Inv X pins σ H s) {x : V} {u : Value} {d : PyData} {ds : List PyData} (hx : Dl (wdX X) H x d) (rx : RelV x u) (hi : itemsD d = some ds) {A : Around} (hA : A.handled = none) {E : Value → Shared → Prop} {Q : Value → Shared → Prop}
    (h : ∀ (vs : List V) (us : List Value) (o : Obj) (fp : List Addr) (n : Nat) (St : Nat → Shared → Prop) (s₂ : Shared), Vals vs us → DfA (wdX X) H vs ds → n = ds.length → s₂ = { s with heap := s.heap.push o } → WalksS X.prog X.w A s.heap.objs.size fp [s.heap.objs.size] (fun a b => b = a) n (fun i v => us.toArray[i]? = some v) St → St 0 s₂ → (∀ b ∈ fp, b < s₂.heap.objs.size) →
      (∀ b o, s.heap.get? b = some o → b ∉ [s.heap.objs.size]) → (∀ b o, s.heap.get? b = some o → s₂.heap.get? b = some o) → Q (.ref s.heap.objs.size) s₂) : wpAny (model X.prog X.w) A (pyIter u) Q E s := by
  cases d <;> simp only [itemsD, Option.some.injEq, reduceCtorEq] at hi
  · subst hi
    obtain ⟨a, vs, rfl, h1, h2⟩ := hx.lst_inv
    cases rx
    obtain ⟨its, rv, pl, hz⟩ := I.list h1
    have l1 := rv.length
    have l2 := h2.length
    exact iter_listW hA pl.isList fun s₂ e W st hfp hw hk => h vs its _ _ _ _ s₂ rv h2 (by simp; omega) e W st hfp hw hk
  · subst hi
    obtain ⟨a, vs, rfl, h1, h2⟩ := hx.tup_inv
    cases rx
    obtain ⟨its, rv, pl, hz⟩ := I.tuple h1
    have l1 := rv.length
    have l2 := h2.length
    exact iter_tupleW hA (show s.heap.IsTuple a its.toArray from pl) fun s₂ e W st hfp hw hk => h vs its _ _ _ _ s₂ rv h2 (by simp; omega) e W st hfp hw hk
  · subst hi
    obtain ⟨a, xs, rfl, h1, h2⟩ := hx.dic_inv
    cases rx
    obtain ⟨o, es, ep, ho, hx, hdt, he, hn, hs, hz, hdp⟩ := dict_raw I h1
    have hraw : s.heap.DictRaw a es ep := ⟨o, ho, hx, hdt⟩
    have hsz : es.size = xs.length := by
      have l := congrArg List.length he
      simpa using l
    have hlt : a < s.heap.objs.size := Heap.lt_size ho
    have hent : ∀ i (hi : i < es.size), ∃ y, xs[i]? = some y ∧ es[i].key = .ref y.2.1 ∧ es[i].val = y.2.2 := fun i hi => by
      have e3 : es[i]? = (xs[i]?).map (entryOfKey (nestedKind X.prog X.w)) := by rw [← Array.getElem?_toList, he, List.getElem?_map]
      have hi2 : i < xs.length := by omega
      rw [List.getElem?_eq_getElem hi2, Array.getElem?_eq_getElem hi] at e3
      have e4 : es[i] = entryOfKey (nestedKind X.prog X.w) xs[i] := Option.some.inj e3
      exact ⟨xs[i], List.getElem?_eq_getElem hi2, by rw [e4]; rfl, by rw [e4]; rfl⟩
    have W := ((Walks.keysH (prog := X.prog) (w := X.w) (A := A) hA s.heap.objs.size a (Nat.ne_of_lt hlt) es ep hent).mono_item (P' := fun i v => (xs.map fun x => Value.ref x.2.1).toArray[i]? = some v) fun i v _ ⟨y, e1, e2⟩ => by simp [e1, e2]).toS
    refine wpAny_pyIter_dict_raw hs hraw (h _ _ _ _ _ _ _ (keysV xs) (keysA h2) (by rw [hsz, h2.length, List.length_map]) rfl W ⟨⟨_, Heap.get?_push_size _ rfl, rfl, rfl⟩, hraw.push _⟩ (fun b hb => ?_) (fun b o e hb => ?_) fun b o e => Heap.get?_push_of_some _ e)
    · show b < (s.heap.push _).objs.size
      rw [Heap.size_push]
      rcases List.mem_cons.mp hb with rfl | hb
      · exact Nat.lt_succ_self _
      · rw [List.mem_singleton.mp hb]; exact Nat.lt_succ_of_lt hlt
    · exact absurd (Heap.lt_size e) ((List.mem_singleton.mp hb) ▸ Nat.lt_irrefl _)
theorem call_minX (hc : X.calm = true) (hu : X.A.units + 32 < cLine) : CallR X (.builtin "min") (fun as H Q => ∃ a d z, as = [a] ∧ Dl (wdX X) H a d ∧ minL d = some z ∧ ∀ v, Df (wdX X) H v z → Q v H) := by
  intro pins s σ H as us Q I r h
  obtain ⟨a, d, z, rfl, hx, hm, q⟩ := h
  obtain ⟨u, rfl, rx⟩ := vals1 r
  unfold minL at hm
  split at hm
  · rename_i x xs hi
    split at hm
    · rename_i ok
      cases hm
      obtain ⟨c, hal, hdp, hz⟩ := pick_inv ok
      refine call_min_walkH (iter_items hc I hx rx hi (A := X.A.in1) (I.ok.hd hc) fun vs us o fp n St s₂ rv hd hn e W st hfp hw hk => ?_)
      obtain ⟨as, hr⟩ := readsA_of I hd c rv
      have hr' : ReadsAll s.heap us.toArray.toList (x :: xs) as := by simpa using hr
      have hn' : n = xs.length + 1 := by simpa using hn
      refine ⟨_, _, _, _, _, _, _, s.heap, _, rfl, W, st, hfp, by omega, hw, hk, cmpIn_lt (A := X.A.in1) hr' hal (by show X.A.units + 1 + _ < _; omega), fun v s' hP m => ?_⟩
      obtain ⟨h', tk, rfl, hk'⟩ := moved_old e rfl m
      obtain ⟨w, rw', _, hw'⟩ := pick_at rv hd hP
      have e1 : n - 1 = xs.length := by omega
      have e2 := (argBest_fold dataLt PyData.none x xs xs.length (Nat.le_refl _)).2
      rw [List.take_length] at e2
      rw [e1] at hw'
      exact ⟨w, H, I.kept (t' := tk) hk', rw', q w (by unfold minD; rw [← e2]; exact hw')⟩
    · cases hm
  · cases hm
theorem call_maxX (hc : X.calm = true) (hu : X.A.units + 32 < cLine) : CallR X (.builtin "max") (fun as H Q => ∃ a d z, as = [a] ∧ Dl (wdX X) H a d ∧ maxL d = some z ∧ ∀ v, Df (wdX X) H v z → Q v H) := by
  intro pins s σ H as us Q I r h
  obtain ⟨a, d, z, rfl, hx, hm, q⟩ := h
  obtain ⟨u, rfl, rx⟩ := vals1 r
  unfold maxL at hm
  split at hm
  · rename_i x xs hi
    split at hm
    · rename_i ok
      cases hm
      obtain ⟨c, hal, hdp, hz⟩ := pick_inv ok
      refine call_max_walkH (iter_items hc I hx rx hi (A := X.A.in1) (I.ok.hd hc) fun vs us o fp n St s₂ rv hd hn e W st hfp hw hk => ?_)
      obtain ⟨as, hr⟩ := readsA_of I hd c rv
      have hr' : ReadsAll s.heap us.toArray.toList (x :: xs) as := by simpa using hr
      have hn' : n = xs.length + 1 := by simpa using hn
      refine ⟨_, _, _, _, _, _, _, s.heap, _, rfl, W, st, hfp, by omega, hw, hk, cmpIn_gt (A := X.A.in1) hr' hal (by show X.A.units + 1 + _ < _; omega), fun v s' hP m => ?_⟩
      obtain ⟨h', tk, rfl, hk'⟩ := moved_old e rfl m
      obtain ⟨w, rw', _, hw'⟩ := pick_at rv hd hP
      have e1 : n - 1 = xs.length := by omega
      have e2 := (argBest_fold (fun a b => dataLt b a) PyData.none x xs xs.length (Nat.le_refl _)).2
      rw [List.take_length] at e2
      rw [e1] at hw'
      exact ⟨w, H, I.kept (t' := tk) hk', rw', q w (by unfold maxD; rw [← e2]; exact hw')⟩
    · cases hm
  · cases hm
theorem b_min (hc : X.calm = true) (hu : X.A.units + 32 < cLine) : Call1 X (.builtin "min") minL := ⟨_, call_minX hc hu, fun x d z H Q hx hg k => ⟨x, d, z, rfl, hx, hg, fun v hv => k v H (fun _ _ e => e) hv⟩⟩
theorem b_max (hc : X.calm = true) (hu : X.A.units + 32 < cLine) : Call1 X (.builtin "max") maxL := ⟨_, call_maxX hc hu, fun x d z H Q hx hg k => ⟨x, d, z, rfl, hx, hg, fun v hv => k v H (fun _ _ e => e) hv⟩⟩

def mA2 (g : PyData → PyData → Option PyData) (f : M (List PyData)) : M PyData := fun ρ => match f ρ with
  | some ([x, y], ρ') => (match g x y with
    | some z => some (z, ρ')
    | none => none)
  | _ => none
structure Call2 (X : Cx) (f : Value) (g : PyData → PyData → Option PyData) : Prop where
  ex : ∃ r : List V → Hp → VK → Prop, CallR X f r ∧ ∀ (x y : V) (d e z : PyData) (H : Hp) (Q : VK), Df (wdX X) H x d → Df (wdX X) H y e → g d e = some z → (∀ v H', Same H H' → Df (wdX X) H' v z → Q v H') → r [x, y] H Q
variable {pos : Pos} {a b : Expr} {fa fb : M PyData} {fr : M (List PyData)}
theorem de_b2 {id : String} {g : PyData → PyData → Option PyData} {x : Str} {p : Pos} (hc : Call2 X (.builtin id) g) (hg : Gl X x) (hm : X.mg x = none) (hv : bootBuiltins x = some (.builtin id)) (ha : DAn X [a, b] fr) (hn : x ≠ "__name__" := by decide) (hdb : (x == ("__debug__" : Str)) = false := by decide)
    (he : starEach [a, b] X.env = (false, eval a X.env) :: starEach [b] X.env := by rfl) (hpl : (backTo pos (starEach [b] X.env)).any (·.1) = false := by rfl) : DE X (.Call (.Name x p) [a, b] [] pos) (mA2 g fr) := by
  obtain ⟨r, h1, h2⟩ := hc
  refine ⟨fun W => (pe_callB h1 hg hm hv (ha.pa W) hn hdb he hpl).imp fun σ H Q ⟨ρ, z, ρ', R, e, k⟩ => ?_⟩
  unfold mA2 at e
  split at e
  · rename_i x y ρ1 e1
    split at e
    · rename_i z' e2
      cases e
      refine ⟨ρ, _, ρ', R, e1, fun vs H1 R1 D1 g1 => ?_⟩
      obtain ⟨v, u, rfl, D3, D4⟩ := D1.two
      exact h2 v u x y _ H1 Q D3 D4 e2 fun w H2 sm D5 => k w H2 (R1.same sm) D5 (g1.trans (.same sm))
    · cases e
  · cases e
def min2D : PyData → PyData → Option PyData
  | .int i, .int j => some (.int (if j < i then j else i))
  | _, _ => none
def max2D : PyData → PyData → Option PyData
  | .int i, .int j => some (.int (if j > i then j else i))
  | _, _ => none
def divmodD : PyData → PyData → Option PyData
  | .int i, .int j => if 0 < j ∧ j < 1073741824 then some (.tuple [.int (i / j), .int (i % j)]) else none
  | _, _ => none
theorem b_min2 (hc : X.calm = true) : Call2 X (.builtin "min") min2D := ⟨_, call_min2 hc, fun x y d e z H Q hx hy hg k => by
  cases d <;> cases e <;> simp only [min2D, Option.some.injEq, reduceCtorEq] at hg
  subst hg
  exact ⟨_, _, by rw [hx.int_inv, hy.int_inv], k _ H (fun _ _ e => e) (.int _)⟩⟩
theorem b_max2 (hc : X.calm = true) : Call2 X (.builtin "max") max2D := ⟨_, call_max2 hc, fun x y d e z H Q hx hy hg k => by
  cases d <;> cases e <;> simp only [max2D, Option.some.injEq, reduceCtorEq] at hg
  subst hg
  exact ⟨_, _, by rw [hx.int_inv, hy.int_inv], k _ H (fun _ _ e => e) (.int _)⟩⟩
theorem b_divmod : Call2 X (.builtin "divmod") divmodD := ⟨_, call_divmod, fun x y d e z H Q hx hy hg k => by
  cases d <;> cases e <;> simp only [divmodD, reduceCtorEq] at hg
  split at hg
  · rename_i hc
    cases hg
    exact ⟨_, _, by rw [hx.int_inv, hy.int_inv], hc, fun p hp => k _ _ (Same.new hp) (.tup (.of upd_same) (.cons (.int _) (.cons (.int _) .nil)))⟩
  · cases hg⟩

def reprD (d : PyData) : Option PyData := match d with
  | .list _ => if d.canLay0 = true ∧ d.showable = true ∧ d.shown.length ≤ sizeLine ∧ d.depth ≤ 16 then some (.str d.shown) else none
  | .tuple _ => if d.canLay0 = true ∧ d.showable = true ∧ d.shown.length ≤ sizeLine ∧ d.depth ≤ 16 then some (.str d.shown) else none
  | _ => none
theorem b_repr (hg : X.A.guards = some []) (hu : X.A.units + 32 < cLine) : Call1 X (.builtin "repr") reprD := by
  refine ⟨fun as H Q => ∃ a d, as = [V.ref a] ∧ Dp X.K H (.ref a) d ∧ d.canLay0 = true ∧ d.showable = true ∧ d.shown.length ≤ sizeLine ∧ d.depth ≤ 16 ∧ Q (.str d.shown) H, ?_, fun x d z H Q hx hz k => ?_⟩
  · intro pins s σ H as us Q I r h
    obtain ⟨a, d, rfl, hd, c, hs, hz, hdp, q⟩ := h
    obtain ⟨u, rfl, rx⟩ := vals1 r
    cases rx
    obtain ⟨as, r1⟩ := Dp.reads I d _ _ hd rfl
    refine repr_of_reads' (hsz := hz) r1 hs (fun e => by rw [PySem.PyData.hasDict_of_canLay _ c] at e; cases e) hg (by omega) (fun _ _ e => e) fun h' u tk hk => ⟨.str d.shown, H, I.kept (t' := tk) hk, ⟨u, rfl⟩, q⟩
  · cases d <;> simp only [reprD, reduceCtorEq] at hz
    · split at hz
      · rename_i h
        cases hz
        obtain ⟨a, xs, rfl, h1, h2⟩ := hx.lst_inv
        exact ⟨a, _, rfl, .lst h1 (DfA.dp (by simpa [PyData.canLay0] using h.1) h2), h.1, h.2.1, h.2.2.1, h.2.2.2, k _ H (fun _ _ e => e) (.str _)⟩
      · cases hz
    · split at hz
      · rename_i h
        cases hz
        obtain ⟨a, xs, rfl, h1, h2⟩ := hx.tup_inv
        exact ⟨a, _, rfl, .tup h1 (DfA.dp (by simpa [PyData.canLay0] using h.1) h2), h.1, h.2.1, h.2.2.1, h.2.2.2, k _ H (fun _ _ e => e) (.str _)⟩
      · cases hz

theorem Dl.dp {v : V} {d : PyData} (c : d.canLay0 = true) (h : Dl (wdX X) H v d) : Dp X.K H v d := by
  cases h with
  | of h => exact h.dp c
  | lst h1 h2 => exact .lst h1 (DfA.dp (by simpa [PyData.canLay0] using c) h2)
  | dic h1 h2 => simp [PyData.canLay0] at c
theorem de_eqN (i : Nat) {x : Str} {p : Pos} (hr : RmU X.A) (hb : DE X b fb) (hm : behindInMarks .Eq b = false := by rfl) (hN : X.N[i]? = some x := by rfl) (hv : Vis X.env.scope x := by first | exact Or.inl rfl | exact Or.inr (Or.inl rfl) | exact Or.inr (Or.inr rfl)) (hd : (x == ("__debug__" : Str)) = false := by decide)
    (hcd : (x == ("__classdict__" : Str)) = false := by decide) : DE X (.Compare (.Name x p) [.Eq] [b] pos) (mLoc2 i eqD fb) := by
  have hun : X.A.units + 200 < cLine := hr
  refine ⟨fun W => (pe_cmpR ((op_eqD (by omega)).or op_eq) (pe_var (i := i) hN hv hd hcd) (hb.pe W) hm).imp fun σ H Q ⟨ρ, z, ρ', R, e, k⟩ => ?_⟩
  obtain ⟨⟨⟨x0, p0⟩, e0⟩, y, x, p, e1, e2, e3⟩ := mLoc2_inv e
  obtain ⟨v, ev, hl, _⟩ := eLoc_rep R e0
  refine ⟨v, ev, ρ, y, ρ', R, e1, fun u H2 R2 D2 g2 => ?_⟩
  obtain ⟨v', ev', hl', _⟩ := eLoc_rep R2 e2
  rw [ev] at ev'; cases ev'
  exact eq_does (fun c => hl'.dp c) (fun c => D2.dp c) (fun a h => by subst h; exact hl'.str_inv) (fun a h => by subst h; exact D2.str_inv) e3 fun w hw => k w H2 R2 hw g2
theorem de_neN (i : Nat) {x : Str} {p : Pos} (hr : RmU X.A) (hb : DE X b fb) (hm : behindInMarks .NotEq b = false := by rfl) (hN : X.N[i]? = some x := by rfl) (hv : Vis X.env.scope x := by first | exact Or.inl rfl | exact Or.inr (Or.inl rfl) | exact Or.inr (Or.inr rfl)) (hd : (x == ("__debug__" : Str)) = false := by decide)
    (hcd : (x == ("__classdict__" : Str)) = false := by decide) : DE X (.Compare (.Name x p) [.NotEq] [b] pos) (mLoc2 i neD fb) := by
  have hun : X.A.units + 200 < cLine := hr
  refine ⟨fun W => (pe_cmpR ((op_neD (by omega)).or op_ne) (pe_var (i := i) hN hv hd hcd) (hb.pe W) hm).imp fun σ H Q ⟨ρ, z, ρ', R, e, k⟩ => ?_⟩
  obtain ⟨⟨⟨x0, p0⟩, e0⟩, y, x, p, e1, e2, e3⟩ := mLoc2_inv e
  obtain ⟨v, ev, hl, _⟩ := eLoc_rep R e0
  refine ⟨v, ev, ρ, y, ρ', R, e1, fun u H2 R2 D2 g2 => ?_⟩
  obtain ⟨v', ev', hl', _⟩ := eLoc_rep R2 e2
  rw [ev] at ev'; cases ev'
  exact ne_does (fun c => hl'.dp c) (fun c => D2.dp c) (fun a h => by subst h; exact hl'.str_inv) (fun a h => by subst h; exact D2.str_inv) e3 fun w hw => k w H2 R2 hw g2
end
end Dn
namespace Dn
open PySem PySem.W PySem.Spec PyProof.Rows L2 C8

/-- what a def hands back: data, or a list or dict that is new -/
def ResS (Γ : Wd) (H H' : Hp) (v : V) : Sl → Prop
  | .dat d => Df Γ H' v d
  | .own ds => ∃ a xs, v = .ref a ∧ H a = none ∧ H' a = some (.lst xs) ∧ DfA Γ H' xs ds
  | .dic kvs => ∃ a xs, v = .ref a ∧ H a = none ∧ H' a = some (dO Γ a xs) ∧ DfE Γ H' xs kvs
  | .obj C f d => ∃ a dx u, v = .ref a ∧ H a = none ∧ H' a = some (.ins C dx [(f, u)]) ∧ Df Γ H' u d
  | _ => False
abbrev FD := List PyData → Option Sl
abbrev FI := List PyData → List PyData → Option (Sl × List PyData)
/-- a def of data -/
def spP (Γ : Wd) (n : Nat) (f : FD) : Sp := fun vs H Q _ => ∃ ds s, DfA Γ H vs ds ∧ ds.length = n ∧ f ds = some s ∧ ∀ v H', Same H H' → ResS Γ H H' v s → Q v H'
/-- .. whose first argument is read as it stands -/
def spB (Γ : Wd) (n : Nat) (f : FD) : Sp := fun vs H Q _ => ∃ v0 vs' d0 ds s, vs = v0 :: vs' ∧ Dl Γ H v0 d0 ∧ DfA Γ H vs' ds ∧ ds.length = n ∧ f (d0 :: ds) = some s ∧ ∀ v H', Same H H' → ResS Γ H H' v s → Q v H'
/-- .. whose first argument is a list that it writes -/
def spI (Γ : Wd) (n : Nat) (f : FI) : Sp := fun vs H Q _ => ∃ a xs os vs' ds s os', vs = .ref a :: vs' ∧ H a = some (.lst xs) ∧ DfA Γ H xs os ∧ DfA Γ H vs' ds ∧ ds.length = n ∧ f os ds = some (s, os') ∧
  ∀ v H' ys, (∀ b o, b ≠ a → H b = some o → H' b = some o) → H' a = some (.lst ys) → DfA Γ H' ys os' → ResS Γ H H' v s → Q v H'
section
variable {P : Program} {w : World} {K : PySem.W.Frag} {mg : Str → Option Value} {base : Heap}
abbrev PF (P : Program) (w : World) (K : PySem.W.Frag) (mg : Str → Option Value) (base : Heap) (k : Nat) (x : Str) (n : Nat) (f : FD) : Prop := Cal P w K mg base k x (spP ⟨P, w, K⟩ n f) []
abbrev BF (P : Program) (w : World) (K : PySem.W.Frag) (mg : Str → Option Value) (base : Heap) (k : Nat) (x : Str) (n : Nat) (f : FD) : Prop := Cal P w K mg base k x (spB ⟨P, w, K⟩ n f) []
abbrev IF (P : Program) (w : World) (K : PySem.W.Frag) (mg : Str → Option Value) (base : Heap) (k : Nat) (x : Str) (n : Nat) (f : FI) : Prop := Cal P w K mg base k x (spI ⟨P, w, K⟩ n f) []
abbrev BX (P : Program) (w : World) (K : PySem.W.Frag) (mg : Str → Option Value) (base : Heap) (N : List Str) (x : Str) (sc : Scope) (f : Addr) (cdv : Value) (A : Around) (outer : List PySem.Env) (s : Shared) (H : Hp) (E : XK) : Cx := (cxOf C8.CX0 P w K mg base N x sc f cdv A outer s H E).nox
def uns (n : Nat) : Env := List.replicate n .un
def endP : Option Out → Option Sl
  | some (.rt s _) => some s
  | some (.nx _) => some (.dat .none)
  | _ => none
def runP (m : Nat) (g : MS) : FD := fun ds => endP (g (ds.map .dat ++ uns m))
def runB (m : Nat) (g : MS) : FD := fun ds => match ds with
  | d0 :: ds => endP (g (.bor d0 :: ds.map .dat ++ uns m))
  | [] => none
def endI (s : Sl) (ρ : Env) : Option (Sl × List PyData) := match ρ with
  | .own os :: _ => some (s, os)
  | _ => none
def runI (m : Nat) (g : MS) : FI := fun os ds => match g (.own os :: ds.map .dat ++ uns m) with
  | some (.rt s ρ) => endI s ρ
  | some (.nx ρ) => endI (.dat .none) ρ
  | _ => none
theorem start_len {N : List Str} {vs : List V} (h : vs.length ≤ N.length) : (L2.start N vs).length = N.length := by
  unfold L2.start; simp; omega
theorem start_get {N : List Str} {vs : List V} {i : Nat} {v : V} (h : vs[i]? = some v) : (L2.start N vs)[i]? = some (some v) := by
  unfold L2.start
  have hl := (List.getElem?_eq_some_iff.mp h).1
  rw [List.getElem?_append_left (by simpa using hl), List.getElem?_map, h]; rfl
theorem env_get {ds : List PyData} {m i : Nat} {s : Sl} (h : (ds.map Sl.dat ++ uns m)[i]? = some s) : (∃ d, ds[i]? = some d ∧ s = .dat d) ∨ s = .un := by
  by_cases hi : i < ds.length
  · rw [List.getElem?_append_left (by simpa using hi), List.getElem?_map, List.getElem?_eq_getElem hi] at h
    cases h
    exact .inl ⟨ds[i], List.getElem?_eq_getElem hi, rfl⟩
  · rw [List.getElem?_append_right (by simpa using hi)] at h
    unfold uns at h
    have := List.eq_of_mem_replicate (List.mem_of_getElem? h)
    exact .inr this
theorem env_nomut {ds : List PyData} {m i : Nat} : ¬ mutS (ds.map Sl.dat ++ uns m)[i]? := fun h => by
  cases e : (ds.map Sl.dat ++ uns m)[i]? with
  | none => rw [e] at h; exact h
  | some s =>
    rw [e] at h
    rcases env_get e with ⟨d, _, rfl⟩ | rfl <;> exact h
variable {Γ : Wd} {H : Hp} {N : List Str}
theorem rep_start {vs : List V} {ds : List PyData} {m : Nat} (h : DfA Γ H vs ds) (hm : ds.length + m = N.length) : RepS Γ { bo := H } (L2.start N vs) H (ds.map .dat ++ uns m) := by
  have hl := h.length
  refine ⟨?_, fun a o e => ?_, fun i s e => ?_, fun i j a _ hi => absurd hi env_nomut, fun a e => by cases e⟩
  · rw [start_len (by omega)]; simp [uns]; omega
  · unfold Wt.kp at e
    cases hb : H a with
    | none => simp only [hb] at e; cases e
    | some p => simp only [hb] at e; exact e
  · rcases env_get e with ⟨d, hd, rfl⟩ | rfl
    · obtain ⟨v, hv, dv⟩ := h.get hd
      exact ⟨v, start_get hv, dv⟩
    · trivial
theorem kp_bo {H : Hp} {a : Addr} : (Wt.kp { bo := H }) a = H a := by
  unfold Wt.kp
  cases h : H a <;> simp [h]
theorem res_of {σ : Sg} {H' : Hp} {ρ : Env} {v : V} {s : Sl} (n : NewS Γ { bo := H } σ ρ H' v s) (hs : ∀ lo hi, s ≠ .rng lo hi) : ResS Γ H H' v s := by
  cases s with
  | dat d => exact n
  | own ds => obtain ⟨a, xs, e, hw, h1, h2, _⟩ := n; exact ⟨a, xs, e, by rw [← hw, kp_bo], h1, h2⟩
  | dic ds => obtain ⟨a, xs, e, hw, h1, h2, _⟩ := n; exact ⟨a, xs, e, by rw [← hw, kp_bo], h1, h2⟩
  | rng lo hi => exact absurd rfl (hs lo hi)
  | obj C f d => obtain ⟨a, dx, u, e, hw, r⟩ := n; exact ⟨a, dx, u, e, by rw [← hw, kp_bo], r⟩
  | un => exact n.elim
  | bor _ => exact n.elim
  | con _ _ _ _ _ => exact n.elim
  | sel _ _ _ => exact n.elim
  | exc _ _ _ => exact n.elim
end

def noRng : Option Sl → Bool
  | some (.rng _ _) => false
  | _ => true
section
variable {P : Program} {w : World} {K : PySem.W.Frag} {mg : Str → Option Value} {base : Heap} {x : Str} {params : Arguments} {body : List Stmt} {scope : Scope} {f : Addr} {fd : FuncData} {N ps : List Str} {k m : Nat} {g : MS}
/-- (a range is never handed back) -/
def clean (f : FD) : FD := fun ds => match f ds with
  | some (.rng _ _) => none
  | r => r
def runP' (m : Nat) (g : MS) : FD := clean (runP m g)
theorem cal_pure (F : FunD K x x params body scope [] [] f fd) (hm : mg x = some (.ref f)) (S : FnScope N ps scope) (hN : ps.length + m = N.length)
    (hb : ∀ (kV doc pm : Value) (an : Option Addr) (cdv ct : Value) (us : List Value), us.length = ps.length → bindArgs (PySem.W.fnOf x x params body scope .none kV doc pm an cdv ct) ⟨us, []⟩ = pure (ps.zip us))
    (h : ∀ cdv A outer s H E, Room k (BX P w K mg base N x scope f cdv A outer s H E).A → DSs (BX P w K mg base N x scope f cdv A outer s H E) body g) : PF P w K mg base (k + 1) x ps.length (runP' m g) := by
  refine ⟨f, fd, ps, [], F.ok S (fun vs H Q E ⟨ds, s, hd, hl, _⟩ => by rw [hd.length]; exact hl) (fun cdv A outer s H vs Q E hr ⟨ds, sl, hd, hl, e, q⟩ => ⟨_, PSs.nox ((h cdv A outer s H E hr).ps { bo := H }), ?_⟩), hm, F.kp, F.bindsN hb, .nil⟩
  have e' : runP m g ds = some sl ∧ ∀ lo hi, sl ≠ .rng lo hi := by
    unfold runP' clean at e
    split at e
    · cases e
    · rename_i hne
      exact ⟨e, fun lo hi z => by subst z; exact hne _ _ e⟩
  obtain ⟨e1, hs⟩ := e'
  have R := rep_start (Γ := ⟨P, w, K⟩) (N := N) hd (m := m) (by omega)
  unfold runP at e1
  cases ho : g (ds.map .dat ++ uns m) with
  | none => rw [ho] at e1; cases e1
  | some o =>
    rw [ho] at e1
    refine ⟨_, o, R, ho, ?_⟩
    have kpS : ∀ {σ' : Sg} {H' : Hp} {ρ' : Env}, RepS ⟨P, w, K⟩ { bo := H } σ' H' ρ' → Same H H' := fun R' a o e => R'.keep a o (by rw [kp_bo]; exact e)
    cases o with
    | nx ρ' => cases e1; exact fun σ' H' R' g' => q _ H' (kpS R') .non
    | rt s0 ρ' => cases e1; exact fun v σ' H' R' n g' => q v H' (kpS R') (res_of n hs)
    | bk ρ' => cases e1
    | ct ρ' => cases e1
def runB' (m : Nat) (g : MS) : FD := clean (runB m g)
theorem cal_bor (F : FunD K x x params body scope [] [] f fd) (hm : mg x = some (.ref f)) (S : FnScope N ps scope) (n : Nat) (hn : ps.length = n + 1) (hN : ps.length + m = N.length)
    (hb : ∀ (kV doc pm : Value) (an : Option Addr) (cdv ct : Value) (us : List Value), us.length = ps.length → bindArgs (PySem.W.fnOf x x params body scope .none kV doc pm an cdv ct) ⟨us, []⟩ = pure (ps.zip us))
    (h : ∀ cdv A outer s H E, Room k (BX P w K mg base N x scope f cdv A outer s H E).A → DSs (BX P w K mg base N x scope f cdv A outer s H E) body g) : BF P w K mg base (k + 1) x n (runB' m g) := by
  refine ⟨f, fd, ps, [], F.ok S (fun vs H Q E ⟨v0, vs', d0, ds, s, e0, _, hd, hl, _⟩ => by rw [e0, List.length_cons, hd.length]; omega) (fun cdv A outer s H vs Q E hr ⟨v0, vs', d0, ds, sl, e0, h0, hd, hl, e, q⟩ => ⟨_, PSs.nox ((h cdv A outer s H E hr).ps { bo := H }), ?_⟩), hm, F.kp, F.bindsN hb, .nil⟩
  subst e0
  have e' : runB m g (d0 :: ds) = some sl ∧ ∀ lo hi, sl ≠ .rng lo hi := by
    unfold runB' clean at e
    split at e
    · cases e
    · rename_i hne
      exact ⟨e, fun lo hi z => by subst z; exact hne _ _ e⟩
  obtain ⟨e1, hs⟩ := e'
  have hlv := hd.length
  have R : RepS ⟨P, w, K⟩ { bo := H } (L2.start N (v0 :: vs')) H (.bor d0 :: ds.map .dat ++ uns m) := by
    refine ⟨?_, fun a o e => ?_, fun i s e => ?_, fun i j a hij hi hj => ?_, fun a e => by cases e⟩
    · rw [start_len (by simp; omega)]; simp [uns]; omega
    · rw [kp_bo] at e; exact e
    · cases i with
      | zero => cases e; exact ⟨v0, start_get rfl, h0⟩
      | succ i =>
        have e2 : (ds.map Sl.dat ++ uns m)[i]? = some s := by simpa using e
        rcases env_get e2 with ⟨d, hd', rfl⟩ | rfl
        · obtain ⟨v, hv, dv⟩ := hd.get hd'
          exact ⟨v, start_get (by simpa using hv), dv⟩
        · trivial
    · cases i with
      | zero => exact hi.elim
      | succ i => exact absurd (show mutS (ds.map Sl.dat ++ uns m)[i]? by simpa using hi) env_nomut
  unfold runB at e1
  cases ho : g (.bor d0 :: ds.map .dat ++ uns m) with
  | none => simp only [ho] at e1; cases e1
  | some o =>
    simp only [ho] at e1
    refine ⟨_, o, R, ho, ?_⟩
    have kpS : ∀ {σ' : Sg} {H' : Hp} {ρ' : Env}, RepS ⟨P, w, K⟩ { bo := H } σ' H' ρ' → Same H H' := fun R' a o e => R'.keep a o (by rw [kp_bo]; exact e)
    cases o with
    | nx ρ' => cases e1; exact fun σ' H' R' g' => q _ H' (kpS R') .non
    | rt s0 ρ' => cases e1; exact fun v σ' H' R' n g' => q v H' (kpS R') (res_of n hs)
    | bk ρ' => cases e1
    | ct ρ' => cases e1
def cleanI (f : FI) : FI := fun os ds => match f os ds with
  | some (.rng _ _, _) => none
  | r => r
def runI' (m : Nat) (g : MS) : FI := cleanI (runI m g)
theorem cal_io (F : FunD K x x params body scope [] [] f fd) (hm : mg x = some (.ref f)) (S : FnScope N ps scope) (n : Nat) (hn : ps.length = n + 1) (hN : ps.length + m = N.length)
    (hb : ∀ (kV doc pm : Value) (an : Option Addr) (cdv ct : Value) (us : List Value), us.length = ps.length → bindArgs (PySem.W.fnOf x x params body scope .none kV doc pm an cdv ct) ⟨us, []⟩ = pure (ps.zip us))
    (h : ∀ cdv A outer s H E, Room k (BX P w K mg base N x scope f cdv A outer s H E).A → DSs (BX P w K mg base N x scope f cdv A outer s H E) body g) : IF P w K mg base (k + 1) x n (runI' m g) := by
  refine ⟨f, fd, ps, [], F.ok S (fun vs H Q E ⟨a, xs, os, vs', ds, s, os', e0, _, _, hd, hl, _⟩ => by rw [e0, List.length_cons, hd.length]; omega)
    (fun cdv A outer s H vs Q E hr ⟨a, xs, os, vs', ds, sl, os', e0, ha, hx, hd, hl, e, q⟩ => ⟨_, PSs.nox ((h cdv A outer s H E hr).ps { bo := fun b => if b = a then none else H b, anc := some a }), ?_⟩), hm, F.kp, F.bindsN hb, .nil⟩
  subst e0
  have e' : runI m g os ds = some (sl, os') ∧ ∀ lo hi, sl ≠ .rng lo hi := by
    unfold runI' cleanI at e
    split at e
    · cases e
    · rename_i hne
      exact ⟨e, fun lo hi z => by subst z; exact hne _ _ _ e⟩
  obtain ⟨e1, hs⟩ := e'
  have hlv := hd.length
  have kp1 : ∀ b, (Wt.kp { bo := fun b => if b = a then none else H b, anc := some a }) b = if b = a then none else H b := fun b => by
    unfold Wt.kp
    by_cases hb : b = a
    · simp [hb]
    · simp only [hb, if_false]
      cases H b <;> rfl
  have R : RepS ⟨P, w, K⟩ { bo := fun b => if b = a then none else H b, anc := some a } (L2.start N (.ref a :: vs')) H (.own os :: ds.map .dat ++ uns m) := by
    refine ⟨?_, fun b o e => ?_, fun i s e => ?_, fun i j b hij hi hj => ?_, fun b e => ?_⟩
    · rw [start_len (by simp; omega)]; simp [uns]; omega
    · rw [kp1] at e
      by_cases hb : b = a
      · rw [if_pos hb] at e; cases e
      · rw [if_neg hb] at e; exact e
    · cases i with
      | zero => cases e; exact ⟨a, xs, start_get rfl, by rw [kp1, if_pos rfl], ha, hx⟩
      | succ i =>
        have e2 : (ds.map Sl.dat ++ uns m)[i]? = some s := by simpa using e
        rcases env_get e2 with ⟨d, hd', rfl⟩ | rfl
        · obtain ⟨v, hv, dv⟩ := hd.get hd'
          exact ⟨v, start_get (by simpa using hv), dv⟩
        · trivial
    · cases i with
      | zero =>
        cases j with
        | zero => exact absurd rfl hij
        | succ j => exact absurd (show mutS (ds.map Sl.dat ++ uns m)[j]? by simpa using hj) env_nomut
      | succ i => exact absurd (show mutS (ds.map Sl.dat ++ uns m)[i]? by simpa using hi) env_nomut
    · cases e; exact ⟨start_get rfl, os, rfl⟩
  have fin : ∀ {σ' : Sg} {H' : Hp} {ρ' : Env} {v : V} {s0 : Sl}, RepS ⟨P, w, K⟩ { bo := fun b => if b = a then none else H b, anc := some a } σ' H' ρ' → NewS ⟨P, w, K⟩ { bo := fun b => if b = a then none else H b, anc := some a } σ' ρ' H' v s0 → endI s0 ρ' = some (sl, os') → Q v H' := by
    intro σ' H' ρ' v s0 R' n' ee
    obtain ⟨h1, ds1, h2⟩ := R'.anc a rfl
    unfold endI at ee
    split at ee
    · rename_i os1 r
      cases ee
      obtain ⟨b, ys, eb, _, h3, h4⟩ := R'.at_ 0 _ (by rfl : (Sl.own os' :: r)[0]? = some (.own os'))
      rw [h1] at eb; cases eb
      have res : ResS ⟨P, w, K⟩ H H' v sl := by
        have ne : ∀ b, (Wt.kp { bo := fun b => if b = a then none else H b, anc := some a }) b = none → Ap (Sl.own os' :: r) σ' b → H b = none := fun b e ap => by
          rw [kp1] at e
          by_cases hb : b = a
          · subst hb; exact absurd h1 (ap 0 trivial)
          · rw [if_neg hb] at e; exact e
        cases sl with
        | dat d => exact n'
        | own ds => obtain ⟨b, xs, e, hw, g1, g2, ap⟩ := n'; exact ⟨b, xs, e, ne b hw ap, g1, g2⟩
        | dic ds => obtain ⟨b, xs, e, hw, g1, g2, ap⟩ := n'; exact ⟨b, xs, e, ne b hw ap, g1, g2⟩
        | rng lo hi => exact absurd rfl (hs lo hi)
        | obj C f d =>
          obtain ⟨b, dx, u, e, hw, g1, g3⟩ := n'
          refine ⟨b, dx, u, e, ?_, g1, g3⟩
          rw [kp1] at hw
          by_cases hb : b = a
          · subst hb; rw [h3] at g1; cases g1
          · rw [if_neg hb] at hw; exact hw
        | un => exact n'.elim
        | bor _ => exact n'.elim
        | con _ _ _ _ _ => exact n'.elim
        | sel _ _ _ => exact n'.elim
        | exc _ _ _ => exact n'.elim
      exact q v H' ys (fun b o hb e => R'.keep b o (by rw [kp1, if_neg hb]; exact e)) h3 h4 res
    · cases ee
  unfold runI at e1
  cases ho : g (.own os :: ds.map .dat ++ uns m) with
  | none => simp only [ho] at e1; cases e1
  | some o =>
    simp only [ho] at e1
    refine ⟨_, o, R, ho, ?_⟩
    cases o with
    | nx ρ' => exact fun σ' H' R' g' => fin (s0 := .dat .none) R' (show Df _ _ _ _ from .non) e1
    | rt s0 ρ' => exact fun v σ' H' R' n g' => fin R' n e1
    | bk ρ' => cases e1
    | ct ρ' => cases e1
end

theorem ResS.new {Γ : Wd} {W : Wt} {σ : Sg} {H H' : Hp} {ρ ρ' : Env} {v : V} {s : Sl} (R : RepS Γ W σ H ρ) (R' : RepS Γ W σ H' ρ') (hm : ∀ i : Nat, mutS ρ'[i]? → mutS ρ[i]?) (r : ResS Γ H H' v s) : NewS Γ W σ ρ' H' v s := by
  have ap : ∀ a, H a = none → Ap ρ' σ a := fun a h i hi e => R.ap h i (hm i hi) e
  cases s with
  | dat d => exact r
  | own ds => obtain ⟨a, xs, e, h0, h1, h2⟩ := r; exact ⟨a, xs, e, R.kp_none h0, h1, h2, ap a h0⟩
  | dic ds => obtain ⟨a, xs, e, h0, h1, h2⟩ := r; exact ⟨a, xs, e, R.kp_none h0, h1, h2, ap a h0⟩
  | obj C f d => obtain ⟨a, dx, u, e, h0, h1⟩ := r; exact ⟨a, dx, u, e, R.kp_none h0, h1⟩
  | un => exact r.elim
  | bor _ => exact r.elim
  | rng _ _ => exact r.elim
  | con _ _ _ _ _ => exact r.elim
  | sel _ _ _ => exact r.elim
  | exc _ _ _ => exact r.elim
def mCall (f : FD) (fr : M (List PyData)) : M Sl := fun ρ => match fr ρ with
  | some (ds, ρ') => (match f ds with
    | some s => some (s, ρ')
    | none => none)
  | none => none
section
variable {X : Cx} {k j n : Nat} {x : Str} {f : FD} {e : Expr} {es : List Expr} {fr : M (List PyData)} {p pos : Pos}
theorem se_call (c : PF X.prog X.w X.K X.mg X.base k x n f) (hr : Room j X.A) (hk : k ≤ j) (ha : DAn X (e :: es) fr) (hn : (e :: es).length = n := by rfl) (hg : Gl X x := by rfl)
    (hdb : (x == ("__debug__" : Str)) = false := by decide) (he : starEach (e :: es) X.env = (false, eval e X.env) :: starEach es X.env := by rfl) (hpl : (backTo pos (starEach es X.env)).any (·.1) = false := by rfl) : SE X (.Call (.Name x p) (e :: es) [] pos) (mCall f fr) := by
  refine ⟨fun W => (pe_c c hr hk hg (ha.pa W) hdb he hpl).imp fun σ H Q ⟨ρ, s, ρ', R, h, q⟩ => ?_⟩
  unfold mCall at h
  split at h
  · rename_i ds ρ1 e1
    split at h
    · rename_i s' e2
      cases h
      refine ⟨ρ, ds, ρ', R, e1, fun vs H1 R1 D1 g1 => ⟨ds, s, by simpa using D1, by rw [ha.num _ _ _ e1]; exact hn, e2, fun v H2 sm r => ?_⟩⟩
      have R2 := R1.same sm
      exact q v H2 R2 (ResS.new R1 R2 (fun i h => h) r) (g1.trans (.same sm))
    · cases h
  · cases h
/-- f() -/
def mCall0 (f : FD) : M Sl := fun ρ => match f [] with
  | some s => some (s, ρ)
  | none => none
theorem se_call0 (c : PF X.prog X.w X.K X.mg X.base k x 0 f) (hr : Room j X.A) (hk : k ≤ j) (hg : Gl X x := by rfl) (hdb : (x == ("__debug__" : Str)) = false := by decide) : SE X (.Call (.Name x p) [] [] pos) (mCall0 f) := by
  obtain ⟨fa, fd, ps, ds, F, hm, kp, b, d⟩ := c.ex
  refine ⟨fun W => (pe_call0 (E := C8.E0) F (hr.mono hk) hg hm kp b d C8.pass0 hdb).imp fun σ H Q ⟨ρ, s, ρ', R, h, q⟩ => ?_⟩
  unfold mCall0 at h
  split at h
  · rename_i s' e2
    cases h
    refine ⟨[], s, .nil, rfl, e2, fun v H2 sm r => ?_⟩
    have R2 := R.same sm
    exact q v H2 R2 (ResS.new R R2 (fun i h => h) r) (.same sm)
  · cases h
/-- f(k = v, ..) -/
def mCallK (f : FD) (g : List PyData → List PyData) (fr : M (List PyData)) : M Sl := fun ρ => match fr ρ with
  | some (ds, ρ') => (match f (g ds) with
    | some s => some (s, ρ')
    | none => none)
  | none => none
structure DK (X : Cx) (kws : List Keyword) (f : M (List PyData)) : Prop where
  pk : ∀ W, PK X kws (rdA (wdX X) W f)
theorem _root_.L2.PK.imp {kws : List Keyword} {t t' : TA} (h : PK X kws t) (i : ∀ σ H Q, t' σ H Q → t σ H Q) : PK X kws t' := ⟨fun pos pins s σ H Q I hq => h.run pos pins s σ H Q I (i _ _ _ hq)⟩
theorem dk_nil : DK X [] aNil := ⟨fun W => pk_nil.imp fun σ H Q ⟨ρ, d, ρ', R, e, k⟩ => by cases e; exact k [] H R .nil (.refl H)⟩
theorem dk_cons {nm : Option Str} {kpos : Pos} {kws : List Keyword} {fa : M PyData} (ha : DE X e fa) (hr : DK X kws fr) : DK X (⟨nm, e, kpos⟩ :: kws) (aCons fa fr) := by
  refine ⟨fun W => (pk_cons (ha.pe W) (hr.pk W)).imp fun σ H Q ⟨ρ, d, ρ', R, h, k⟩ => ?_⟩
  obtain ⟨x, ρ1, xs, e1, e2, rfl⟩ := aCons_inv h
  exact ⟨ρ, x, ρ1, R, e1, fun v H1 R1 D1 g1 => ⟨ρ1, xs, ρ', R1, e2, fun vs H2 R2 D2 g2 => k _ H2 R2 (.cons (D1.grow g2) D2) (g1.trans g2)⟩⟩
/-- a def that may be called by keywords alone -/
structure CalK (P : Program) (w : World) (K : PySem.W.Frag) (mg : Str → Option Value) (base : Heap) (k : Nat) (x : Str) (n : Nat) (f : FD) (ks : List Str) (gD : List PyData → List PyData) : Prop where
  ex : ∃ (fa : Addr) (fd : FuncData) (ps : List Str) (g : List Value → List Value → List Value) (gV : List V → List V → List V), FnOk P w K mg base C8.CX0 k fa fd ps (spP ⟨P, w, K⟩ n f) ∧ mg x = some (.ref fa) ∧ PySem.W.keepIn K (.ref fa) = true ∧ KBinds K fd ps ks g gV ∧ ∀ H vs ds, DfA ⟨P, w, K⟩ H vs ds → ds.length = ks.length → DfA ⟨P, w, K⟩ H (gV [] vs) (gD ds) ∧ (gD ds).length = n
theorem se_callK {kws : List Keyword} {ks : List Str} {gD : List PyData → List PyData} (c : CalK X.prog X.w X.K X.mg X.base k x n f ks gD) (hr : Room j X.A) (hk : k ≤ j) (ha : DK X kws fr) (hn : ∀ ρ ds ρ', fr ρ = some (ds, ρ') → ds.length = ks.length) (hg : Gl X x := by rfl)
    (hdb : (x == ("__debug__" : Str)) = false := by decide) (hall : (backToKw pos (keywordEach kws X.env)).all (·.1.isSome) = true := by rfl) (hks : (backToKw pos (keywordEach kws X.env)).filterMap (·.1) = ks := by rfl)
    (hpl : ((backTo pos (starEach [] X.env)).any (·.1) || (backToKw pos (keywordEach kws X.env)).any (·.1.isNone)) = false := by rfl) : SE X (.Call (.Name x p) [] kws pos) (mCallK f gD fr) := by
  obtain ⟨fa, fd, ps, g, gV, F, hm, kp, hb, hgd⟩ := c.ex
  refine ⟨fun W => ⟨fun pins s σ H Q I ⟨ρ, sl, ρ', R, h, q⟩ => ?_⟩⟩
  unfold mCallK at h
  split at h
  · rename_i ds ρ1 e1
    split at h
    · rename_i s' e2
      cases h
      refine wpAny_Call_Name_kw (ld_glob I hg hm ?_ hdb)
      refine PySem.W.callWith_KW0 (h₀ := X.base) I.ok.mod.kin kp hall (thn ((ha.pk W).run pos pins s σ H (fun vs H1 => RepS (wdX X) W σ H1 ρ' ∧ DfA (wdX X) H1 vs ds ∧ Grow H H1) I ⟨ρ, ds, ρ', R, e1, fun vs H1 R1 D1 g1 => ⟨R1, D1, g1⟩⟩) fun ws s2 ⟨zs, H2, I2, rz, R2, D2, g2⟩ => ⟨I2.kIn, ?_⟩) hpl
      rw [hks]
      obtain ⟨d1, l1⟩ := hgd H2 zs ds D2 (hn _ _ _ e1)
      refine run_fnk (us := []) (vs := []) (E := C8.E0) F (hr.mono hk) hb C8.pass0 I2 .nil rz ⟨gD ds, sl, d1, l1, e2, fun v H3 sm r => ?_⟩
      have R3 := R2.same sm
      exact q v H3 R3 (ResS.new R2 R3 (fun i h => h) r) (g2.trans (.same sm))
    · cases h
  · cases h
/-- f(name, ..): the name's list or dict is read as it stands -/
def mCallB (i : Nat) (f : FD) (fr : M (List PyData)) : M Sl := fun ρ => match eLoc i ρ with
  | some _ => (match fr ρ with
    | some (ds, ρ') => (match eLoc i ρ' with
      | some (d0, _) => (match f (d0 :: ds) with
        | some s => some (s, ρ')
        | none => none)
      | none => none)
    | none => none)
  | none => none
theorem se_callB (i : Nat) {y : Str} {py : Pos} (c : BF X.prog X.w X.K X.mg X.base k x n f) (hr : Room j X.A) (hk : k ≤ j) (ha : DAn X es fr) (hn : es.length = n := by rfl) (hg : Gl X x := by rfl)
    (hN : X.N[i]? = some y := by rfl) (hv : Vis X.env.scope y := by first | exact Or.inl rfl | exact Or.inr (Or.inl rfl) | exact Or.inr (Or.inr rfl)) (hd : (y == ("__debug__" : Str)) = false := by decide) (hcd : (y == ("__classdict__" : Str)) = false := by decide)
    (hdb : (x == ("__debug__" : Str)) = false := by decide) (he : starEach (.Name y py :: es) X.env = (false, eval (.Name y py) X.env) :: starEach es X.env := by rfl) (hpl : (backTo pos (starEach es X.env)).any (·.1) = false := by rfl) : SE X (.Call (.Name x p) (.Name y py :: es) [] pos) (mCallB i f fr) := by
  refine ⟨fun W => (pe_c c hr hk hg (pa_cons (pe_var (i := i) hN hv hd hcd) (ha.pa W) he) hdb he hpl).imp fun σ H Q ⟨ρ, s, ρ', R, h, q⟩ => ?_⟩
  unfold mCallB at h
  split at h
  · rename_i p0 e0
    obtain ⟨v0, ev, _, _⟩ := eLoc_rep (x := p0.1) (p := p0.2) R e0
    split at h
    · rename_i ds ρ1 e1
      split at h
      · rename_i d0 ρ2 e3
        split at h
        · rename_i s' e2
          cases h
          refine ⟨v0, ev, ρ, ds, ρ', R, e1, fun vs H1 R1 D1 g1 => ?_⟩
          obtain ⟨v', ev', hl', _⟩ := eLoc_rep R1 e3
          rw [ev] at ev'; cases ev'
          refine ⟨v0, vs, d0, ds, s, by simp, hl', D1, by rw [ha.num _ _ _ e1]; exact hn, e2, fun v H2 sm r => ?_⟩
          have R2 := R1.same sm
          exact q v H2 R2 (ResS.new R1 R2 (fun i h => h) r) (g1.trans (.same sm))
        · cases h
      · cases h
    · cases h
  · cases h
end

section
variable {Γ : Wd} {W : Wt} {σ : Sg} {H H' : Hp} {ρ : Env}
theorem Grow.but1 {a : Addr} (hm : Mut (H a)) (k : ∀ b o, b ≠ a → H b = some o → H' b = some o) : Grow H H' := by
  refine ⟨fun b xs e => k b _ (fun z => ?_) e, fun b o u e => k b _ (fun z => ?_) e, fun b o u e => k b _ (fun z => ?_) e⟩ <;> (subst z; rw [e] at hm; exact hm)
theorem RepS.own_step {i : Nat} {a : Addr} {os os' : List PyData} {ys : List V} (R : RepS Γ W σ H ρ) (e : ρ[i]? = some (.own os)) (ha : σ[i]? = some (some (.ref a))) (k : ∀ b o, b ≠ a → H b = some o → H' b = some o) (h1 : H' a = some (.lst ys)) (h2 : DfA Γ H' ys os') : RepS Γ W σ H' (ρ.set i (.own os')) := by
  obtain ⟨b, xs, e1, w, h3, h4⟩ := R.at_ i _ e
  rw [ha] at e1; cases e1
  have g : Grow H H' := .but1 (by rw [h3]; trivial) k
  have hi : i < ρ.length := (List.getElem?_eq_some_iff.mp e).1
  have mut_set : ∀ j, mutS (ρ.set i (.own os'))[j]? → mutS ρ[j]? := fun j hj => by
    by_cases ej : i = j
    · subst ej; rw [e]; trivial
    · rw [List.getElem?_set_ne ej] at hj; exact hj
  refine ⟨by simpa using R.len, fun b o eb => k b o (fun z => by subst z; rw [w] at eb; cases eb) (R.keep b o eb), fun j t ej => ?_, fun j l b hjl hj hl => R.sep j l b hjl (mut_set j hj) (mut_set l hl), fun b hb => ?_⟩
  · by_cases ei : i = j
    · subst ei
      rw [List.getElem?_set_self hi] at ej; cases ej
      exact ⟨a, ys, ha, w, h1, h2⟩
    · rw [List.getElem?_set_ne ei] at ej
      have q := R.at_ j t ej
      have ne : ∀ b, σ[j]? = some (some (.ref b)) → mutS (some t) → b ≠ a := fun b eb mb z => by
        subst z
        exact R.sep j i b (Ne.symm ei) (by rw [ej]; exact mb) (by rw [e]; trivial) eb ha
      cases t with
      | un => trivial
      | dat d => obtain ⟨v, e1, h1⟩ := q; exact ⟨v, e1, h1.grow g⟩
      | own ds => obtain ⟨b, xs, e1, w, h1, h2⟩ := q; exact ⟨b, xs, e1, w, k _ _ (ne b e1 trivial) h1, h2.grow g⟩
      | dic ds => obtain ⟨b, xs, e1, w, h1, h2⟩ := q; exact ⟨b, xs, e1, w, k _ _ (ne b e1 trivial) h1, h2.grow g⟩
      | bor d => exact q
      | rng lo hi => obtain ⟨b, e1, h1⟩ := q; exact ⟨b, e1, g.rng _ _ _ h1⟩
      | _ => exact SlOk.steady (steady_ne (by rw [h3]; trivial) k) g trivial q
  · obtain ⟨h5, ds, h6⟩ := R.anc b hb
    refine ⟨h5, ?_⟩
    by_cases ek : i = 0
    · subst ek; exact ⟨os', List.getElem?_set_self hi⟩
    · rw [List.getElem?_set_ne ek]; exact ⟨ds, h6⟩
theorem RepS.off_step {a : Addr} (R : RepS Γ W σ H ρ) (hW : W.kp a = none) (hm : MutL (H a)) (ap : Ap ρ σ a) (k : ∀ b o, b ≠ a → H b = some o → H' b = some o) : RepS Γ W σ H' ρ := by
  have g : Grow H H' := .but1 hm.mut k
  refine ⟨R.len, fun b o eb => k b o (fun z => by subst z; rw [hW] at eb; cases eb) (R.keep b o eb), fun j t ej => ?_, R.sep, R.anc⟩
  have q := R.at_ j t ej
  have ne : ∀ b, σ[j]? = some (some (.ref b)) → mutS (some t) → b ≠ a := fun b eb mb z => by
    subst z
    exact ap j (by rw [ej]; exact mb) eb
  cases t with
  | un => trivial
  | dat d => obtain ⟨v, e1, h1⟩ := q; exact ⟨v, e1, h1.grow g⟩
  | own ds => obtain ⟨b, xs, e1, w, h1, h2⟩ := q; exact ⟨b, xs, e1, w, k _ _ (ne b e1 trivial) h1, h2.grow g⟩
  | dic ds => obtain ⟨b, xs, e1, w, h1, h2⟩ := q; exact ⟨b, xs, e1, w, k _ _ (ne b e1 trivial) h1, h2.grow g⟩
  | bor d => exact q
  | rng lo hi => obtain ⟨b, e1, h1⟩ := q; exact ⟨b, e1, g.rng _ _ _ h1⟩
  | _ => exact SlOk.steady (steady_ne hm k) g trivial q
end
def mCallI (i : Nat) (f : FI) (fr : M (List PyData)) : M Sl := fun ρ => if isOwn i ρ = true then (match fr ρ with
    | some (ds, ρ1) => (match ρ1[i]? with
      | some (.own os) => (match f os ds with
        | some (s, os') => some (s, ρ1.set i (.own os'))
        | none => none)
      | _ => none)
    | none => none) else none
/-- the list is new, and is forgotten behind the call -/
def mCallN (f : FI) (fs : M Sl) : M Sl := fun ρ => match fs ρ with
  | some (.own os, ρ1) => (match f os [] with
    | some (s, _) => some (s, ρ1)
    | none => none)
  | _ => none
section
variable {X : Cx} {k j n : Nat} {x : Str} {f : FI} {e : Expr} {es : List Expr} {fr : M (List PyData)} {p pos : Pos}
theorem se_callI (i : Nat) {y : Str} {py : Pos} (c : IF X.prog X.w X.K X.mg X.base k x n f) (hr : Room j X.A) (hk : k ≤ j) (ha : DAn X es fr) (hn : es.length = n := by rfl) (hg : Gl X x := by rfl)
    (hN : X.N[i]? = some y := by rfl) (hv : Vis X.env.scope y := by first | exact Or.inl rfl | exact Or.inr (Or.inl rfl) | exact Or.inr (Or.inr rfl)) (hd : (y == ("__debug__" : Str)) = false := by decide) (hcd : (y == ("__classdict__" : Str)) = false := by decide)
    (hdb : (x == ("__debug__" : Str)) = false := by decide) (he : starEach (.Name y py :: es) X.env = (false, eval (.Name y py) X.env) :: starEach es X.env := by rfl) (hpl : (backTo pos (starEach es X.env)).any (·.1) = false := by rfl) : SE X (.Call (.Name x p) (.Name y py :: es) [] pos) (mCallI i f fr) := by
  refine ⟨fun W => (pe_c c hr hk hg (pa_cons (pe_var (i := i) hN hv hd hcd) (ha.pa W) he) hdb he hpl).imp fun σ H Q ⟨ρ, s, ρ', R, h, q⟩ => ?_⟩
  unfold mCallI at h
  split at h
  · rename_i ho
    obtain ⟨os0, e0⟩ := isOwn_inv ho
    obtain ⟨a, xs0, ev, w0, _, _⟩ := R.at_ i _ e0
    split at h
    · rename_i ds ρ1 e1
      split at h
      · rename_i os e3
        split at h
        · rename_i s' os' e2
          cases h
          refine ⟨_, ev, ρ, ds, ρ1, R, e1, fun vs H1 R1 D1 g1 => ?_⟩
          obtain ⟨b, xs, eb, w, h3, h4⟩ := R1.at_ i _ e3
          rw [ev] at eb; cases eb
          refine ⟨a, xs, os, vs, ds, s, os', by simp, h3, h4, D1, by rw [ha.num _ _ _ e1]; exact hn, e2, fun v H2 ys kk h5 h6 r => ?_⟩
          have R2 := R1.own_step e3 ev kk h5 h6
          refine q v H2 R2 (ResS.new R1 R2 (fun l hl => ?_) r) (g1.trans (.but1 (by rw [h3]; trivial) kk))
          by_cases el : i = l
          · subst el; rw [e3]; trivial
          · rw [List.getElem?_set_ne el] at hl; exact hl
        · cases h
      · cases h
    · cases h
  · cases h
theorem se_callN (c : IF X.prog X.w X.K X.mg X.base k x 0 f) {fs : M Sl} (hr : Room j X.A) (hk : k ≤ j) (ha : SE X e fs) (hg : Gl X x := by rfl)
    (hdb : (x == ("__debug__" : Str)) = false := by decide) (he : starEach [e] X.env = (false, eval e X.env) :: starEach [] X.env := by rfl) (hpl : (backTo pos (starEach [] X.env)).any (·.1) = false := by rfl) : SE X (.Call (.Name x p) [e] [] pos) (mCallN f fs) := by
  refine ⟨fun W => (pe_c c hr hk hg (pa_cons (ha.pe W) pa_nil he) hdb he hpl).imp fun σ H Q ⟨ρ, s, ρ', R, h, q⟩ => ?_⟩
  unfold mCallN at h
  split at h
  · rename_i os ρ1 e1
    split at h
    · rename_i s' os' e2
      cases h
      refine ⟨ρ, _, ρ', R, e1, fun v H1 R1 n1 g1 => ?_⟩
      obtain ⟨a, xs, rfl, w, h1, h2, ap⟩ := n1
      refine ⟨a, xs, os, [], [], s, os', by simp, h1, h2, .nil, rfl, e2, fun v H2 ys kk h5 h6 r => ?_⟩
      have hmL : MutL (H1 a) := by rw [h1]; trivial
      have hm := hmL.mut
      have R2 := R1.off_step w hmL ap kk
      exact q v H2 R2 (ResS.new R1 R2 (fun i h => h) r) (g1.trans (.but1 hm kk))
    · cases h
  · cases h
end
end Dn
namespace Dn
open PySem PySem.W PySem.Spec PyProof.Rows L2 C8

theorem _root_.L2.Room.u {k : Nat} {A : Around} (h : Room k A) : RmU A := by have := h.un; show A.units + 200 < cLine; omega
theorem hu9 {A : Around} (h : RmU A) : A.units + 9 < cLine := by have : A.units + 200 < cLine := h; omega
theorem hu32 {A : Around} (h : RmU A) : A.units + 32 < cLine := by have : A.units + 200 < cLine := h; omega
/-- a constant of the module -/
structure GlD (P : Program) (w : World) (K : PySem.W.Frag) (mg : Str → Option Value) (x : Str) (d : PyData) : Prop where
  ex : ∃ u v, mg x = some u ∧ RelV v u ∧ ∀ H, Df ⟨P, w, K⟩ H v d
theorem GlD.int {P : Program} {w : World} {K : PySem.W.Frag} {mg : Str → Option Value} {x : Str} {i : Int} (h : ∃ t, mg x = some (.int i t)) : GlD P w K mg x (.int i) := by
  obtain ⟨t, h⟩ := h
  exact ⟨_, .int i, h, ⟨t, rfl⟩, fun H => .int i⟩
section
variable {X : Cx} {pos : Pos} {x : Str} {d : PyData}
theorem de_gl (h : GlD X.prog X.w X.K X.mg x d) (hg : Gl X x := by rfl) (hdb : (x == ("__debug__" : Str)) = false := by decide) : DE X (.Name x pos) (eC d) := by
  obtain ⟨u, v, hm, r, hd⟩ := h
  exact de_glob hg hm r hd hdb
end
theorem bt_len : bootBuiltins "len" = some (.builtin "len") := by decide +kernel
theorem bt_all : bootBuiltins "all" = some (.builtin "all") := by decide +kernel
theorem bt_any : bootBuiltins "any" = some (.builtin "any") := by decide +kernel
theorem bt_sum : bootBuiltins "sum" = some (.builtin "sum") := by decide +kernel
theorem bt_abs : bootBuiltins "abs" = some (.builtin "abs") := by decide +kernel
theorem bt_min : bootBuiltins "min" = some (.builtin "min") := by decide +kernel
theorem bt_max : bootBuiltins "max" = some (.builtin "max") := by decide +kernel
theorem bt_repr : bootBuiltins "repr" = some (.builtin "repr") := by decide +kernel
theorem bt_divmod : bootBuiltins "divmod" = some (.builtin "divmod") := by decide +kernel
theorem bt_int : bootBuiltins "int" = some (.type "int") := by decide +kernel
theorem bt_tuple : bootBuiltins "tuple" = some (.type "tuple") := by decide +kernel
theorem bt_list : bootBuiltins "list" = some (.type "list") := by decide +kernel
theorem aLen2 {fa fb : M PyData} {ρ ρ' : Env} {ds : List PyData} (h : aCons fa (aCons fb aNil) ρ = some (ds, ρ')) : ds.length = 2 := by
  obtain ⟨x, ρ1, xs, e1, e2, rfl⟩ := aCons_inv h
  obtain ⟨y, ρ2, ys, e3, e4, rfl⟩ := aCons_inv e2
  cases e4
  rfl
end Dn
namespace Dn
open PySem PySem.W PySem.Spec PyProof.Rows L2 C8
structure FnG (P : Program) (w : World) (K : PySem.W.Frag) (mg : Str → Option Value) (base : Heap) (CX : CXT) (k : Nat) (f : Addr) (fd : FuncData) (ps : List Str) (sp : Sp) : Prop where
  len : ∀ vs H Q E, sp vs H Q E → vs.length = ps.length
  run : ∀ (A : Around) (_ : A.guards = some []) (outer : List PySem.Env) (s : Shared) (H : Hp) (args : Args) (us : List Value) (vs : List V) (Q : VK) (E : XK), Room k A → Env0 P w K mg base A outer s H → BindsTo s fd args (ps.zip us) → Vals vs us → sp vs H Q E →
    codeAny (model P w) A (.call (.ref f) args) (CR CX outer P w H s Q E) s
theorem FnG.mono {P : Program} {w : World} {K : PySem.W.Frag} {mg : Str → Option Value} {base : Heap} {CX : CXT} {j k : Nat} {f : Addr} {fd : FuncData} {ps : List Str} {sp : Sp} (F : FnG P w K mg base CX j f fd ps sp) (h : j ≤ k) : FnG P w K mg base CX k f fd ps sp :=
  ⟨F.len, fun A hgd outer s H args us vs Q E hr => F.run A hgd outer s H args us vs Q E (hr.mono h)⟩
theorem fnG_of {CX : CXT} {P : Program} {w : World} {K : PySem.W.Frag} {mg : Str → Option Value} {base : Heap} {k : Nat} {f : Addr} {name qual : Str} {params : Arguments} {body : List Stmt} {scope : Scope} {dV kV doc pm cdv ct oc : Value} {an od : Option Addr}
    {osl : Array (Option Value)} {N ps : List Str} {sp : Sp} (lk : K.lookup f = some ⟨oc, od, .func (PySem.W.fnOf name qual params body scope dV kV doc pm an cdv ct), osl⟩) (hcd : PySem.W.codeIn K cdv qual = true) (S : FnScope N ps scope)
    (len : ∀ vs H Q E, sp vs H Q E → vs.length = ps.length)
    (hbody : ∀ (A : Around) (_ : A.guards = some []) (outer : List PySem.Env) (s : Shared) (H : Hp) (vs : List V) (Q : VK) (E : XK), Room k (A.deeper (envOfC qual scope s.heap.objs.size f cdv)) → sp vs H Q E →
      ∃ t, PSs (cxOf CX P w K mg base N qual scope f cdv A outer s H E) body t ∧ t { nx := fun _ H' => Q .non H', rt := Q } (L2.start N vs) H) :
    FnG P w K mg base CX (k + 1) f (PySem.W.fnOf name qual params body scope dV kV doc pm an cdv ct) ps sp := by
  refine ⟨len, fun A hgd outer s H args us vs Q E hroom env0 hb r hspec => ?_⟩
  have hlen := len _ _ _ _ hspec
  have kin : K.In s.heap := env0.mod.kin.keeps fun b o e => (env0.bs b o e).1
  have nol : s.heap.NoLimit := env0.mod.nolimit.keeps fun b o e => (env0.bs b o e).1
  have hkd : ∀ y ∈ ps.zip us, scope.names.lookup y.1 = some .local ∨ (scope.names.lookup y.1 = some .cell ∧ ((cellsFrom (s.heap.objs.size + 1) scope.names []).lookup y.1).isSome = true) := fun ⟨n, v⟩ hy => by
    rcases S.par n (List.of_mem_zip hy).1 with q | q
    · exact .inl q
    · exact .inr ⟨q, PySem.W.cellsFrom_some _ _ _ (.inl q)⟩
  refine codeAny_call_function hroom.depth (kin _ _ lk) rfl S.co S.gen rfl (PySem.W.codeRec_of kin hcd) (hb _ _ _ _ ?_)
  refine wpAny_newFunctionEnv_cells S.kind hkd fun env he sb x => ?_
  subst he
  refine ⟨nol.keeps x.toInCall.keep, codeAny_func ?_⟩
  obtain ⟨t, htt, hqq⟩ := hbody A hgd outer s H vs Q E (hroom.deeper _) hspec
  have J0 : Inv (cxOf CX P w K mg base N qual scope f cdv A outer s H E) [] (L2.start N vs) H sb := inv_start S hroom.hd env0 hlen r x
  refine wpAny_mono (htt.run [] sb (L2.start N vs) H _ J0 hqq) (fun fl sz hss => ?_) fun e sz hss => hss
  have leave : ∀ {σ' : Sg} {H' : Hp} {v : V} {u : Value}, Inv (cxOf CX P w K mg base N qual scope f cdv A outer s H E) [] σ' H' sz → RelV v u → Q v H' → CE outer P w H s Q u sz :=
    fun {σ' H' v u} J rvv q => ⟨v, H', J.os, J.bare, J.base, J.hok, rvv, q⟩
  cases fl with
  | ret u =>
    obtain ⟨v, σ', H', J, rvv, q⟩ := hss
    exact leave J rvv q
  | next =>
    obtain ⟨σ', H', J, q⟩ := hss
    exact leave (v := V.non) (u := Value.none) J rfl q
  | brk =>
    obtain ⟨_, _, _, q⟩ := hss
    exact False.elim q
  | cont =>
    obtain ⟨_, _, _, q⟩ := hss
    exact False.elim q
theorem funD_okG {P : Program} {w : World} {K : PySem.W.Frag} {mg : Str → Option Value} {base : Heap} {x qual : Str} {params : Arguments} {body : List Stmt} {scope : Scope} {dvs : List V} {kws : List (Str × V)} {f : Addr} {fd : FuncData} {CX : CXT} {N ps : List Str} {k : Nat} {sp : Sp} (F : FunD K x qual params body scope dvs kws f fd) (S : FnScope N ps scope) (len : ∀ vs H Q E, sp vs H Q E → vs.length = ps.length)
    (hbody : ∀ (cdv : Value) (A : Around) (_ : A.guards = some []) (outer : List PySem.Env) (s : Shared) (H : Hp) (vs : List V) (Q : VK) (E : XK), Room k (A.deeper (envOfC qual scope s.heap.objs.size f cdv)) → sp vs H Q E →
      ∃ t, PSs (cxOf CX P w K mg base N qual scope f cdv A outer s H E) body t ∧ t { nx := fun _ H' => Q .non H', rt := Q } (L2.start N vs) H) : FnG P w K mg base CX (k + 1) f fd ps sp := by
  obtain ⟨oc, od, dV, kV, doc, pm, an, cdv, ct, osl, rfl, lk, hcd, _, _⟩ := F.ex
  exact fnG_of lk hcd S len fun A hgd outer s H vs Q E hr hsp => hbody cdv A hgd outer s H vs Q E hr hsp
structure CalG (P : Program) (w : World) (K : PySem.W.Frag) (mg : Str → Option Value) (base : Heap) (k : Nat) (x : Str) (sp : Sp) : Prop where
  ex : ∃ (f : Addr) (fd : FuncData) (ps : List Str) (ds : List Value), FnG P w K mg base C8.CX0 k f fd ps sp ∧ mg x = some (.ref f) ∧ PySem.W.keepIn K (.ref f) = true ∧ Binds K fd ps ds ∧ Vals [] ds
abbrev PG' (P : Program) (w : World) (K : PySem.W.Frag) (mg : Str → Option Value) (base : Heap) (k : Nat) (x : Str) (n : Nat) (f : FD) : Prop := CalG P w K mg base k x (spP ⟨P, w, K⟩ n f)
abbrev IG' (P : Program) (w : World) (K : PySem.W.Frag) (mg : Str → Option Value) (base : Heap) (k : Nat) (x : Str) (n : Nat) (f : FI) : Prop := CalG P w K mg base k x (spI ⟨P, w, K⟩ n f)
section
variable {P : Program} {w : World} {K : PySem.W.Frag} {mg : Str → Option Value} {base : Heap} {x : Str} {params : Arguments} {body : List Stmt} {scope : Scope} {f : Addr} {fd : FuncData} {N ps : List Str} {k m : Nat} {g : MS}
theorem cal_pureG (F : FunD K x x params body scope [] [] f fd) (hm : mg x = some (.ref f)) (S : FnScope N ps scope) (hN : ps.length + m = N.length)
    (hb : ∀ (kV doc pm : Value) (an : Option Addr) (cdv ct : Value) (us : List Value), us.length = ps.length → bindArgs (PySem.W.fnOf x x params body scope .none kV doc pm an cdv ct) ⟨us, []⟩ = pure (ps.zip us))
    (h : ∀ cdv A outer s H E, (BX P w K mg base N x scope f cdv A outer s H E).A.guards = some [] → Room k (BX P w K mg base N x scope f cdv A outer s H E).A → DSs (BX P w K mg base N x scope f cdv A outer s H E) body g) : PG' P w K mg base (k + 1) x ps.length (runP' m g) := by
  refine ⟨f, fd, ps, [], funD_okG F S (fun vs H Q E ⟨ds, s, hd, hl, _⟩ => by rw [hd.length]; exact hl) (fun cdv A hgd outer s H vs Q E hr ⟨ds, sl, hd, hl, e, q⟩ => ⟨_, PSs.nox ((h cdv A outer s H E hgd hr).ps { bo := H }), ?_⟩), hm, F.kp, F.bindsN hb, .nil⟩
  have e' : runP m g ds = some sl ∧ ∀ lo hi, sl ≠ .rng lo hi := by
    unfold runP' clean at e
    split at e
    · cases e
    · rename_i hne
      exact ⟨e, fun lo hi z => by subst z; exact hne _ _ e⟩
  obtain ⟨e1, hs⟩ := e'
  have R := rep_start (Γ := ⟨P, w, K⟩) (N := N) hd (m := m) (by omega)
  unfold runP at e1
  cases ho : g (ds.map .dat ++ uns m) with
  | none => rw [ho] at e1; cases e1
  | some o =>
    rw [ho] at e1
    refine ⟨_, o, R, ho, ?_⟩
    have kpS : ∀ {σ' : Sg} {H' : Hp} {ρ' : Env}, RepS ⟨P, w, K⟩ { bo := H } σ' H' ρ' → Same H H' := fun R' a o e => R'.keep a o (by rw [kp_bo]; exact e)
    cases o with
    | nx ρ' => cases e1; exact fun σ' H' R' g' => q _ H' (kpS R') .non
    | rt s0 ρ' => cases e1; exact fun v σ' H' R' n g' => q v H' (kpS R') (res_of n hs)
    | bk ρ' => cases e1
    | ct ρ' => cases e1
theorem cal_ioG (F : FunD K x x params body scope [] [] f fd) (hm : mg x = some (.ref f)) (S : FnScope N ps scope) (n : Nat) (hn : ps.length = n + 1) (hN : ps.length + m = N.length)
    (hb : ∀ (kV doc pm : Value) (an : Option Addr) (cdv ct : Value) (us : List Value), us.length = ps.length → bindArgs (PySem.W.fnOf x x params body scope .none kV doc pm an cdv ct) ⟨us, []⟩ = pure (ps.zip us))
    (h : ∀ cdv A outer s H E, (BX P w K mg base N x scope f cdv A outer s H E).A.guards = some [] → Room k (BX P w K mg base N x scope f cdv A outer s H E).A → DSs (BX P w K mg base N x scope f cdv A outer s H E) body g) : IG' P w K mg base (k + 1) x n (runI' m g) := by
  refine ⟨f, fd, ps, [], funD_okG F S (fun vs H Q E ⟨a, xs, os, vs', ds, s, os', e0, _, _, hd, hl, _⟩ => by rw [e0, List.length_cons, hd.length]; omega)
    (fun cdv A hgd outer s H vs Q E hr ⟨a, xs, os, vs', ds, sl, os', e0, ha, hx, hd, hl, e, q⟩ => ⟨_, PSs.nox ((h cdv A outer s H E hgd hr).ps { bo := fun b => if b = a then none else H b, anc := some a }), ?_⟩), hm, F.kp, F.bindsN hb, .nil⟩
  subst e0
  have e' : runI m g os ds = some (sl, os') ∧ ∀ lo hi, sl ≠ .rng lo hi := by
    unfold runI' cleanI at e
    split at e
    · cases e
    · rename_i hne
      exact ⟨e, fun lo hi z => by subst z; exact hne _ _ _ e⟩
  obtain ⟨e1, hs⟩ := e'
  have hlv := hd.length
  have kp1 : ∀ b, (Wt.kp { bo := fun b => if b = a then none else H b, anc := some a }) b = if b = a then none else H b := fun b => by
    unfold Wt.kp
    by_cases hb : b = a
    · simp [hb]
    · simp only [hb, if_false]
      cases H b <;> rfl
  have R : RepS ⟨P, w, K⟩ { bo := fun b => if b = a then none else H b, anc := some a } (L2.start N (.ref a :: vs')) H (.own os :: ds.map .dat ++ uns m) := by
    refine ⟨?_, fun b o e => ?_, fun i s e => ?_, fun i j b hij hi hj => ?_, fun b e => ?_⟩
    · rw [start_len (by simp; omega)]; simp [uns]; omega
    · rw [kp1] at e
      by_cases hb : b = a
      · rw [if_pos hb] at e; cases e
      · rw [if_neg hb] at e; exact e
    · cases i with
      | zero => cases e; exact ⟨a, xs, start_get rfl, by rw [kp1, if_pos rfl], ha, hx⟩
      | succ i =>
        have e2 : (ds.map Sl.dat ++ uns m)[i]? = some s := by simpa using e
        rcases env_get e2 with ⟨d, hd', rfl⟩ | rfl
        · obtain ⟨v, hv, dv⟩ := hd.get hd'
          exact ⟨v, start_get (by simpa using hv), dv⟩
        · trivial
    · cases i with
      | zero =>
        cases j with
        | zero => exact absurd rfl hij
        | succ j => exact absurd (show mutS (ds.map Sl.dat ++ uns m)[j]? by simpa using hj) env_nomut
      | succ i => exact absurd (show mutS (ds.map Sl.dat ++ uns m)[i]? by simpa using hi) env_nomut
    · cases e; exact ⟨start_get rfl, os, rfl⟩
  have fin : ∀ {σ' : Sg} {H' : Hp} {ρ' : Env} {v : V} {s0 : Sl}, RepS ⟨P, w, K⟩ { bo := fun b => if b = a then none else H b, anc := some a } σ' H' ρ' → NewS ⟨P, w, K⟩ { bo := fun b => if b = a then none else H b, anc := some a } σ' ρ' H' v s0 → endI s0 ρ' = some (sl, os') → Q v H' := by
    intro σ' H' ρ' v s0 R' n' ee
    obtain ⟨h1, ds1, h2⟩ := R'.anc a rfl
    unfold endI at ee
    split at ee
    · rename_i os1 r
      cases ee
      obtain ⟨b, ys, eb, _, h3, h4⟩ := R'.at_ 0 _ (by rfl : (Sl.own os' :: r)[0]? = some (.own os'))
      rw [h1] at eb; cases eb
      have res : ResS ⟨P, w, K⟩ H H' v sl := by
        have ne : ∀ b, (Wt.kp { bo := fun b => if b = a then none else H b, anc := some a }) b = none → Ap (Sl.own os' :: r) σ' b → H b = none := fun b e ap => by
          rw [kp1] at e
          by_cases hb : b = a
          · subst hb; exact absurd h1 (ap 0 trivial)
          · rw [if_neg hb] at e; exact e
        cases sl with
        | dat d => exact n'
        | own ds => obtain ⟨b, xs, e, hw, g1, g2, ap⟩ := n'; exact ⟨b, xs, e, ne b hw ap, g1, g2⟩
        | dic ds => obtain ⟨b, xs, e, hw, g1, g2, ap⟩ := n'; exact ⟨b, xs, e, ne b hw ap, g1, g2⟩
        | rng lo hi => exact absurd rfl (hs lo hi)
        | obj C f d =>
          obtain ⟨b, dx, u, e, hw, g1, g3⟩ := n'
          refine ⟨b, dx, u, e, ?_, g1, g3⟩
          rw [kp1] at hw
          by_cases hb : b = a
          · subst hb; rw [h3] at g1; cases g1
          · rw [if_neg hb] at hw; exact hw
        | un => exact n'.elim
        | bor _ => exact n'.elim
        | con _ _ _ _ _ => exact n'.elim
        | sel _ _ _ => exact n'.elim
        | exc _ _ _ => exact n'.elim
      exact q v H' ys (fun b o hb e => R'.keep b o (by rw [kp1, if_neg hb]; exact e)) h3 h4 res
    · cases ee
  unfold runI at e1
  cases ho : g (.own os :: ds.map .dat ++ uns m) with
  | none => simp only [ho] at e1; cases e1
  | some o =>
    simp only [ho] at e1
    refine ⟨_, o, R, ho, ?_⟩
    cases o with
    | nx ρ' => exact fun σ' H' R' g' => fin (s0 := .dat .none) R' (show Df _ _ _ _ from .non) e1
    | rt s0 ρ' => exact fun v σ' H' R' n g' => fin R' n e1
    | bk ρ' => cases e1
    | ct ρ' => cases e1
end
theorem pe_cG {X : Cx} {k j : Nat} {x : Str} {sp : Sp} {p pos : Pos} {e : Expr} {es : List Expr} {t : TA} (c : CalG X.prog X.w X.K X.mg X.base k x sp) (hgd : X.A.guards = some []) (hr : Room j X.A) (hk : k ≤ j) (hg : Gl X x) (ha : PA X (e :: es) t)
    (hdb : (x == ("__debug__" : Str)) = false := by decide) (he : starEach (e :: es) X.env = (false, eval e X.env) :: starEach es X.env := by rfl) (hpl : (backTo pos (starEach es X.env)).any (·.1) = false := by rfl) :
    PE X (.Call (.Name x p) (e :: es) [] pos) (tCall sp [] C8.E0 t) := by
  obtain ⟨f, fd, ps, ds, F0, hm, kp, hb, hd⟩ := c.ex
  have F := F0.mono hk
  refine ⟨fun pins s σ H Q I h => ?_⟩
  refine wpAny_Call_Name_kw (ld_glob I hg hm ?_ hdb)
  refine PySem.W.callWith_K (h₀ := X.base) I.ok.mod.kin kp (thn (ha.run pos pins s σ H _ I h) fun us s1 ⟨vs, H1, I1, r, q⟩ => ⟨I1.kIn, ?_⟩) he hpl
  have r2 : Vals (vs ++ []) (us ++ ds) := r.append hd
  have hl : (us ++ ds).length = ps.length := by rw [← r2.length]; exact F.len _ _ _ _ q
  refine wpAny_call (codeAny_mono (F.run X.A hgd X.stack s1 H1 ⟨us, []⟩ (us ++ ds) (vs ++ []) Q C8.E0 hr I1.env0 (hb s1 us I1.kIn hl) r2 q) fun r s' hq => ?_)
  cases r with
  | error e => exact C8.pass0 (E := C8.E0) pins σ H1 s1 e s' I1 hq
  | ok fl =>
    cases fl with
    | ret u => exact I1.after hq
    | next => exact False.elim hq
    | brk => exact False.elim hq
    | cont => exact False.elim hq
section
variable {X : Cx} {k j n : Nat} {x : Str} {f : FD} {e : Expr} {es : List Expr} {fr : M (List PyData)} {p pos : Pos}
theorem se_callG (c : PG' X.prog X.w X.K X.mg X.base k x n f) (hgd : X.A.guards = some []) (hr : Room j X.A) (hk : k ≤ j) (ha : DAn X (e :: es) fr) (hn : (e :: es).length = n := by rfl) (hg : Gl X x := by rfl)
    (hdb : (x == ("__debug__" : Str)) = false := by decide) (he : starEach (e :: es) X.env = (false, eval e X.env) :: starEach es X.env := by rfl) (hpl : (backTo pos (starEach es X.env)).any (·.1) = false := by rfl) : SE X (.Call (.Name x p) (e :: es) [] pos) (mCall f fr) := by
  refine ⟨fun W => (pe_cG c hgd hr hk hg (ha.pa W) hdb he hpl).imp fun σ H Q ⟨ρ, s, ρ', R, h, q⟩ => ?_⟩
  unfold mCall at h
  split at h
  · rename_i ds ρ1 e1
    split at h
    · rename_i s' e2
      cases h
      refine ⟨ρ, ds, ρ', R, e1, fun vs H1 R1 D1 g1 => ⟨ds, s, by simpa using D1, by rw [ha.num _ _ _ e1]; exact hn, e2, fun v H2 sm r => ?_⟩⟩
      have R2 := R1.same sm
      exact q v H2 R2 (ResS.new R1 R2 (fun i h => h) r) (g1.trans (.same sm))
    · cases h
  · cases h
end
section
variable {X : Cx} {k j n : Nat} {x : Str} {f : FI} {e : Expr} {es : List Expr} {fr : M (List PyData)} {p pos : Pos}
theorem se_callIG (i : Nat) {y : Str} {py : Pos} (c : IG' X.prog X.w X.K X.mg X.base k x n f) (hgd : X.A.guards = some []) (hr : Room j X.A) (hk : k ≤ j) (ha : DAn X es fr) (hn : es.length = n := by rfl) (hg : Gl X x := by rfl)
    (hN : X.N[i]? = some y := by rfl) (hv : Vis X.env.scope y := by first | exact Or.inl rfl | exact Or.inr (Or.inl rfl) | exact Or.inr (Or.inr rfl)) (hd : (y == ("__debug__" : Str)) = false := by decide) (hcd : (y == ("__classdict__" : Str)) = false := by decide)
    (hdb : (x == ("__debug__" : Str)) = false := by decide) (he : starEach (.Name y py :: es) X.env = (false, eval (.Name y py) X.env) :: starEach es X.env := by rfl) (hpl : (backTo pos (starEach es X.env)).any (·.1) = false := by rfl) : SE X (.Call (.Name x p) (.Name y py :: es) [] pos) (mCallI i f fr) := by
  refine ⟨fun W => (pe_cG c hgd hr hk hg (pa_cons (pe_var (i := i) hN hv hd hcd) (ha.pa W) he) hdb he hpl).imp fun σ H Q ⟨ρ, s, ρ', R, h, q⟩ => ?_⟩
  unfold mCallI at h
  split at h
  · rename_i ho
    obtain ⟨os0, e0⟩ := isOwn_inv ho
    obtain ⟨a, xs0, ev, w0, _, _⟩ := R.at_ i _ e0
    split at h
    · rename_i ds ρ1 e1
      split at h
      · rename_i os e3
        split at h
        · rename_i s' os' e2
          cases h
          refine ⟨_, ev, ρ, ds, ρ1, R, e1, fun vs H1 R1 D1 g1 => ?_⟩
          obtain ⟨b, xs, eb, w, h3, h4⟩ := R1.at_ i _ e3
          rw [ev] at eb; cases eb
          refine ⟨a, xs, os, vs, ds, s, os', by simp, h3, h4, D1, by rw [ha.num _ _ _ e1]; exact hn, e2, fun v H2 ys kk h5 h6 r => ?_⟩
          have R2 := R1.own_step e3 ev kk h5 h6
          refine q v H2 R2 (ResS.new R1 R2 (fun l hl => ?_) r) (g1.trans (.but1 (by rw [h3]; trivial) kk))
          by_cases el : i = l
          · subst el; rw [e3]; trivial
          · rw [List.getElem?_set_ne el] at hl; exact hl
        · cases h
      · cases h
    · cases h
  · cases h
theorem se_callNG (c : IG' X.prog X.w X.K X.mg X.base k x 0 f) {fs : M Sl} (hgd : X.A.guards = some []) (hr : Room j X.A) (hk : k ≤ j) (ha : SE X e fs) (hg : Gl X x := by rfl)
    (hdb : (x == ("__debug__" : Str)) = false := by decide) (he : starEach [e] X.env = (false, eval e X.env) :: starEach [] X.env := by rfl) (hpl : (backTo pos (starEach [] X.env)).any (·.1) = false := by rfl) : SE X (.Call (.Name x p) [e] [] pos) (mCallN f fs) := by
  refine ⟨fun W => (pe_cG c hgd hr hk hg (pa_cons (ha.pe W) pa_nil he) hdb he hpl).imp fun σ H Q ⟨ρ, s, ρ', R, h, q⟩ => ?_⟩
  unfold mCallN at h
  split at h
  · rename_i os ρ1 e1
    split at h
    · rename_i s' os' e2
      cases h
      refine ⟨ρ, _, ρ', R, e1, fun v H1 R1 n1 g1 => ?_⟩
      obtain ⟨a, xs, rfl, w, h1, h2, ap⟩ := n1
      refine ⟨a, xs, os, [], [], s, os', by simp, h1, h2, .nil, rfl, e2, fun v H2 ys kk h5 h6 r => ?_⟩
      have hmL : MutL (H1 a) := by rw [h1]; trivial
      have hm := hmL.mut
      have R2 := R1.off_step w hmL ap kk
      exact q v H2 R2 (ResS.new R1 R2 (fun i h => h) r) (g1.trans (.but1 hm kk))
    · cases h
  · cases h
end
theorem law_callG {P : Program} {w : World} {K : PySem.W.Frag} {mg mb : Str → Option Value} {CX : CXT} {k : Nat} {fa a : Addr} {fd : FuncData} {x : Str} {sp : Sp} {s₁ : Shared} {vs : List Value} {ns : List Int}
    (KX : K.In s₁.heap) (hglob : s₁.heap.Ns mainGlobals mg) (hbs : s₁.heap.Ns builtinsNs mb) (hbb : ∀ x : Str, x ≠ "__name__" → mb x = bootBuiltins x) (hnol : s₁.heap.NoLimit) (hg : s₁.gens = #[])
    (ha : s₁.heap.get? a = some { cls := .type "list", data := .seq vs.toArray }) (hi : IntsAre vs ns) (hl : ns.length ≤ sizeLine) (hroom : Room k callerA)
    (F : ∀ base : Heap, K.In base → base.Ns mainGlobals mg → FnG P w K mg base CX k fa fd [x] sp) (hbind : ∀ (s : Shared) (u : Value), BindsTo s fd ⟨[u], []⟩ [(x, u)])
    (hsp : ∀ H : Hp, Only H → SqL K H a (ns.map V.int) → sp [.ref a] H (fun v _ => v = .bl true) fun _ _ _ => False)
    (hCX : ∀ H e s', CX [] H s₁ (fun _ _ _ => False) e s' → False) :
    codeAny (model P w) callerA (.call (.ref fa) ⟨[.ref a], []⟩) (fun r s' => r = .ok (.ret (.bool true)) ∧ OldK s₁.heap s'.heap ∧ s'.os = s₁.os ∧ AllBare s'.gens) s₁ := by
  have rvals := vals_ints hi
  have lenIts := hi.length
  have main : ∀ H : Hp, Only H → SqL K H a (ns.map V.int) → HOk P w H s₁.heap → (∀ b, H b ≠ none → b = a) → (H a ≠ none → K.lookup a = none) →
      codeAny (model P w) callerA (.call (.ref fa) ⟨[.ref a], []⟩) (fun r s' => r = .ok (.ret (.bool true)) ∧ OldK s₁.heap s'.heap ∧ s'.os = s₁.os ∧ AllBare s'.gens) s₁ := by
    intro H hOn hSq hokH hOnly hKn
    have baseOf : ∀ {b : Addr} {o : Obj}, s₁.heap.get? b = some o → H b = none → (hidT s₁.heap H).get? b = some o := fun e n => hidT_get e n
    have notA : ∀ {b : Addr} {o : Obj} {es : Array DictEntry} {ep : Nat}, s₁.heap.get? b = some o → o.data = .dict es ep → H b = none := fun {b o es ep} e d => by
      cases eq0 : H b with
      | none => rfl
      | some u =>
        have e' : b = a := hOnly b (by rw [eq0]; simp)
        subst e'
        rw [ha] at e; cases e
        have d' : Data.seq vs.toArray _ = Data.dict es ep := d
        cases d'
    have nsB : ∀ {b : Addr} {m : Str → Option Value}, s₁.heap.Ns b m → (hidT s₁.heap H).Ns b m := fun {b m} ⟨o, es, ep, e, d, r⟩ => ⟨o, es, ep, baseOf e (notA e d), d, r⟩
    have hKB : K.In (hidT s₁.heap H) := fun b o e => baseOf (KX b o e) (by
      cases eq0 : H b with
      | none => rfl
      | some u =>
        have e' : b = a := hOnly b (by rw [eq0]; simp)
        subst e'
        rw [hKn (by rw [eq0]; simp)] at e; cases e)
    have hMod : Mod K mg (hidT s₁.heap H) := ⟨hKB, nsB hglob, ⟨mb, nsB hbs, hbb⟩, let ⟨mc, h1, h2⟩ := hnol; ⟨mc, nsB h1, h2⟩⟩
    have env0 : Env0 P w K mg (hidT s₁.heap H) callerA [] s₁ H := ⟨rfl, hMod, fun b o e => of_hidT e, Nat.le_of_eq (hidT_size _ _), trivial, fun b hbs => absurd (show b ∈ ([] : List Addr) from hbs) (by simp), hokH, .of_eq hg⟩
    refine codeAny_mono ((F _ hKB (nsB hglob)).run callerA rfl [] s₁ H ⟨[.ref a], []⟩ [.ref a] [.ref a] _ _ hroom env0 (hbind s₁ (.ref a)) (.cons rfl .nil) (hsp H hOn hSq)) fun r s' h => ?_
    cases r with
    | error e => exact (hCX H e s' h).elim
    | ok fl =>
      cases fl with
      | next => exact False.elim h
      | brk => exact False.elim h
      | cont => exact False.elim h
      | ret u =>
        obtain ⟨v, H', os, bares, unch, hok', r', eq0⟩ := h
        have q' : v = .bl true := eq0
        subst q'
        obtain rfl : u = Value.bool true := r'
        refine ⟨rfl, OldK.of_keep fun b o e => ?_, os, bares⟩
        cases eq0 : H b with
        | none => exact unch.keep b o e eq0 (by intro z; exact absurd (show b ∈ ([] : List Addr) from z) (by simp)) (by simp)
        | some u =>
          rcases hOn b with z | ⟨ob, xs, z⟩
          · rw [eq0] at z; cases z
          · have zz := unch.frzs b ob _ z
            obtain ⟨e1, _⟩ := hokH b _ z
            obtain ⟨e2, _⟩ := hok' b _ zz
            rw [e] at e1; cases e1
            exact e2
  cases hk : K.lookup a with
  | some o =>
    have e := KX a o hk
    rw [ha] at e
    cases e
    refine main (fun _ => none) (fun _ => .inl rfl) (.inr ⟨_, vs.toArray, _, hk, rfl, rfl, rfl, by rw [List.size_toArray, lenIts]; exact hl, by simpa using rvals⟩) (fun b u z => by have z' : (none : Option HO) = some u := z; cases z') (fun b z => absurd rfl z) fun z => absurd rfl z
  | none =>
    refine main (fun b => if b = a then some (.frz { cls := .type "list", data := .seq vs.toArray } (.lst (ns.map V.int))) else none) (fun b => ?_) (.inl (.inr ⟨{ cls := .type "list", data := .seq vs.toArray }, if_pos rfl⟩)) (fun b u z => ?_) (fun b z => ?_) fun _ => hk
    · by_cases hbs : b = a
      · exact .inr ⟨_, _, if_pos hbs⟩
      · exact .inl (if_neg hbs)
    · by_cases hbs : b = a
      · have z' := (if_pos hbs).symm.trans z
        cases z'
        subst hbs
        exact ⟨ha, by rw [List.length_map]; exact hl, vs, _, rvals, ha⟩
      · have z' := (if_neg hbs).symm.trans z
        cases z'
    · by_cases hbs : b = a
      · exact hbs
      · exact absurd (if_neg hbs) z
theorem walk_ofG {l : PySem.W.OpenLaw} {n k : Nat} {q : Program} {loose : List Str} {XP : (Str → Option Value) → Heap → Prop} {YP : World → Heap → Prop} {d : DefRec} {CX : CXT} {x : Str} (hn : l.most = some n) (hn2 : n ≤ sizeLine) (hdf : d.params.defaults = []) (hr : Room k callerA)
    (F : ∀ (w : World) (mg : Str → Option Value) (fa : Addr) (h : Heap), YP w h → h.Ns mainGlobals mg → mg d.name = some (.ref fa) → ∃ (K : PySem.W.Frag) (fd : FuncData) (sp : Sp), K.In h ∧ (∀ (s : Shared) (u : Value), BindsTo s fd ⟨[u], []⟩ [(x, u)]) ∧
        (∀ (H : Hp) (a : Addr) (ns : List Int), ns.length ≤ n → Only H → SqL K H a (ns.map V.int) → sp [.ref a] H (fun v _ => v = .bl true) fun _ _ _ => False) ∧ ∀ base : Heap, K.In base → base.Ns mainGlobals mg → FnG l.prog w K mg base CX k fa fd [x] sp)
    (hCX : ∀ (H : Hp) (s : Shared) (e : Value) (s' : Shared), CX [] H s (fun _ _ _ => False) e s' → False) : PySem.W.WalkO q loose XP YP l.row.toRowW d [] (fun f vs => PySem.call f vs) := by
  refine Att.attach_call hn hdf fun w s₀ s₁ mg mb fa o pm cd doc a vs ns G Y ho hd hcd hmg hobj hints hlen hg => ?_
  obtain ⟨K, fd, sp, KX, hb, hsp, hF⟩ := F w mg fa _ Y G.T.g hmg
  exact law_callG KX G.T.g G.T.b G.T.builtins G.T.nolimit hg hobj hints (Nat.le_trans hlen hn2) hr hF hb (fun H hO hS => hsp H a ns hlen hO hS) fun H e s' => hCX H s₁ e s'

section
variable {X : Cx} {pos : Pos} {b : Expr} {fb : M PyData}
theorem dt_eqN (i : Nat) {x : Str} {p : Pos} (hr : RmU X.A) (hb : DE X b fb) (hm : behindInMarks .Eq b = false := by rfl) (hN : X.N[i]? = some x := by rfl) (hv : Vis X.env.scope x := by first | exact Or.inl rfl | exact Or.inr (Or.inl rfl) | exact Or.inr (Or.inr rfl)) (hd : (x == ("__debug__" : Str)) = false := by decide)
    (hcd : (x == ("__classdict__" : Str)) = false := by decide) : DT X (.Compare (.Name x p) [.Eq] [b] pos) (mT (mLoc2 i eqD fb)) := by
  have hun : X.A.units + 200 < cLine := hr
  refine ⟨fun W => (pt_cmpR ((op_eqD (by omega)).or op_eq) (pe_var (i := i) hN hv hd hcd) (hb.pe W) hm).imp fun σ H Q ⟨ρ, t, ρ', R, e, k⟩ => ?_⟩
  obtain ⟨⟨⟨x0, p0⟩, e0⟩, y, x, p, e1, e2, e3⟩ := mLoc2_inv (mT_inv e)
  obtain ⟨v, ev, hl, _⟩ := eLoc_rep R e0
  refine ⟨v, ev, ρ, y, ρ', R, e1, fun u H2 R2 D2 g2 => ?_⟩
  obtain ⟨v', ev', hl', _⟩ := eLoc_rep R2 e2
  rw [ev] at ev'; cases ev'
  refine eq_does (fun c => hl'.dp c) (fun c => D2.dp c) (fun a h => by subst h; exact hl'.str_inv) (fun a h => by subst h; exact D2.str_inv) e3 fun w hw => ⟨_, hw.bl_inv, k H2 R2 g2⟩
theorem dt_neN (i : Nat) {x : Str} {p : Pos} (hr : RmU X.A) (hb : DE X b fb) (hm : behindInMarks .NotEq b = false := by rfl) (hN : X.N[i]? = some x := by rfl) (hv : Vis X.env.scope x := by first | exact Or.inl rfl | exact Or.inr (Or.inl rfl) | exact Or.inr (Or.inr rfl)) (hd : (x == ("__debug__" : Str)) = false := by decide)
    (hcd : (x == ("__classdict__" : Str)) = false := by decide) : DT X (.Compare (.Name x p) [.NotEq] [b] pos) (mT (mLoc2 i neD fb)) := by
  have hun : X.A.units + 200 < cLine := hr
  refine ⟨fun W => (pt_cmpR ((op_neD (by omega)).or op_ne) (pe_var (i := i) hN hv hd hcd) (hb.pe W) hm).imp fun σ H Q ⟨ρ, t, ρ', R, e, k⟩ => ?_⟩
  obtain ⟨⟨⟨x0, p0⟩, e0⟩, y, x, p, e1, e2, e3⟩ := mLoc2_inv (mT_inv e)
  obtain ⟨v, ev, hl, _⟩ := eLoc_rep R e0
  refine ⟨v, ev, ρ, y, ρ', R, e1, fun u H2 R2 D2 g2 => ?_⟩
  obtain ⟨v', ev', hl', _⟩ := eLoc_rep R2 e2
  rw [ev] at ev'; cases ev'
  refine ne_does (fun c => hl'.dp c) (fun c => D2.dp c) (fun a h => by subst h; exact hl'.str_inv) (fun a h => by subst h; exact D2.str_inv) e3 fun w hw => ⟨_, hw.bl_inv, k H2 R2 g2⟩
end
end Dn
namespace Dn
open PySem PySem.W PySem.Spec PyProof.Rows L2 C8
section
variable {P : Program} {w : World} {K : PySem.W.Frag} {mg : Str → Option Value} {base : Heap} {x : Str} {params : Arguments} {body : List Stmt} {scope : Scope} {f : Addr} {fd : FuncData} {N ps : List Str} {k m : Nat} {g : MS}
theorem fn_pure (F : FunD K x x params body scope [] [] f fd) (S : FnScope N ps scope) (hN : ps.length + m = N.length)
    (h : ∀ cdv A outer s H E, Room k (BX P w K mg base N x scope f cdv A outer s H E).A → DSs (BX P w K mg base N x scope f cdv A outer s H E) body g) : FnOk P w K mg base C8.CX0 (k + 1) f fd ps (spP ⟨P, w, K⟩ ps.length (runP' m g)) := by
  refine F.ok S (fun vs H Q E ⟨ds, s, hd, hl, _⟩ => by rw [hd.length]; exact hl) (fun cdv A outer s H vs Q E hr ⟨ds, sl, hd, hl, e, q⟩ => ⟨_, PSs.nox ((h cdv A outer s H E hr).ps { bo := H }), ?_⟩)
  have e' : runP m g ds = some sl ∧ ∀ lo hi, sl ≠ .rng lo hi := by
    unfold runP' clean at e
    split at e
    · cases e
    · rename_i hne
      exact ⟨e, fun lo hi z => by subst z; exact hne _ _ e⟩
  obtain ⟨e1, hs⟩ := e'
  have R := rep_start (Γ := ⟨P, w, K⟩) (N := N) hd (m := m) (by omega)
  unfold runP at e1
  cases ho : g (ds.map .dat ++ uns m) with
  | none => rw [ho] at e1; cases e1
  | some o =>
    rw [ho] at e1
    refine ⟨_, o, R, ho, ?_⟩
    have kpS : ∀ {σ' : Sg} {H' : Hp} {ρ' : Env}, RepS ⟨P, w, K⟩ { bo := H } σ' H' ρ' → Same H H' := fun R' a o e => R'.keep a o (by rw [kp_bo]; exact e)
    cases o with
    | nx ρ' => cases e1; exact fun σ' H' R' g' => q _ H' (kpS R') .non
    | rt s0 ρ' => cases e1; exact fun v σ' H' R' n g' => q v H' (kpS R') (res_of n hs)
    | bk ρ' => cases e1
    | ct ρ' => cases e1
theorem fn_pureG (F : FunD K x x params body scope [] [] f fd) (S : FnScope N ps scope) (hN : ps.length + m = N.length)
    (h : ∀ cdv A outer s H E, (BX P w K mg base N x scope f cdv A outer s H E).A.guards = some [] → Room k (BX P w K mg base N x scope f cdv A outer s H E).A → DSs (BX P w K mg base N x scope f cdv A outer s H E) body g) : FnG P w K mg base C8.CX0 (k + 1) f fd ps (spP ⟨P, w, K⟩ ps.length (runP' m g)) := by
  refine funD_okG F S (fun vs H Q E ⟨ds, s, hd, hl, _⟩ => by rw [hd.length]; exact hl) (fun cdv A hgd outer s H vs Q E hr ⟨ds, sl, hd, hl, e, q⟩ => ⟨_, PSs.nox ((h cdv A outer s H E hgd hr).ps { bo := H }), ?_⟩)
  have e' : runP m g ds = some sl ∧ ∀ lo hi, sl ≠ .rng lo hi := by
    unfold runP' clean at e
    split at e
    · cases e
    · rename_i hne
      exact ⟨e, fun lo hi z => by subst z; exact hne _ _ e⟩
  obtain ⟨e1, hs⟩ := e'
  have R := rep_start (Γ := ⟨P, w, K⟩) (N := N) hd (m := m) (by omega)
  unfold runP at e1
  cases ho : g (ds.map .dat ++ uns m) with
  | none => rw [ho] at e1; cases e1
  | some o =>
    rw [ho] at e1
    refine ⟨_, o, R, ho, ?_⟩
    have kpS : ∀ {σ' : Sg} {H' : Hp} {ρ' : Env}, RepS ⟨P, w, K⟩ { bo := H } σ' H' ρ' → Same H H' := fun R' a o e => R'.keep a o (by rw [kp_bo]; exact e)
    cases o with
    | nx ρ' => cases e1; exact fun σ' H' R' g' => q _ H' (kpS R') .non
    | rt s0 ρ' => cases e1; exact fun v σ' H' R' n g' => q v H' (kpS R') (res_of n hs)
    | bk ρ' => cases e1
    | ct ρ' => cases e1
theorem fn_bor (F : FunD K x x params body scope [] [] f fd) (S : FnScope N ps scope) (n : Nat) (hn : ps.length = n + 1) (hN : ps.length + m = N.length)
    (h : ∀ cdv A outer s H E, Room k (BX P w K mg base N x scope f cdv A outer s H E).A → DSs (BX P w K mg base N x scope f cdv A outer s H E) body g) : FnOk P w K mg base C8.CX0 (k + 1) f fd ps (spB ⟨P, w, K⟩ n (runB' m g)) := by
  refine F.ok S (fun vs H Q E ⟨v0, vs', d0, ds, s, e0, _, hd, hl, _⟩ => by rw [e0, List.length_cons, hd.length]; omega) (fun cdv A outer s H vs Q E hr ⟨v0, vs', d0, ds, sl, e0, h0, hd, hl, e, q⟩ => ⟨_, PSs.nox ((h cdv A outer s H E hr).ps { bo := H }), ?_⟩)
  subst e0
  have e' : runB m g (d0 :: ds) = some sl ∧ ∀ lo hi, sl ≠ .rng lo hi := by
    unfold runB' clean at e
    split at e
    · cases e
    · rename_i hne
      exact ⟨e, fun lo hi z => by subst z; exact hne _ _ e⟩
  obtain ⟨e1, hs⟩ := e'
  have hlv := hd.length
  have R : RepS ⟨P, w, K⟩ { bo := H } (L2.start N (v0 :: vs')) H (.bor d0 :: ds.map .dat ++ uns m) := by
    refine ⟨?_, fun a o e => ?_, fun i s e => ?_, fun i j a hij hi hj => ?_, fun a e => by cases e⟩
    · rw [start_len (by simp; omega)]; simp [uns]; omega
    · rw [kp_bo] at e; exact e
    · cases i with
      | zero => cases e; exact ⟨v0, start_get rfl, h0⟩
      | succ i =>
        have e2 : (ds.map Sl.dat ++ uns m)[i]? = some s := by simpa using e
        rcases env_get e2 with ⟨d, hd', rfl⟩ | rfl
        · obtain ⟨v, hv, dv⟩ := hd.get hd'
          exact ⟨v, start_get (by simpa using hv), dv⟩
        · trivial
    · cases i with
      | zero => exact hi.elim
      | succ i => exact absurd (show mutS (ds.map Sl.dat ++ uns m)[i]? by simpa using hi) env_nomut
  unfold runB at e1
  cases ho : g (.bor d0 :: ds.map .dat ++ uns m) with
  | none => simp only [ho] at e1; cases e1
  | some o =>
    simp only [ho] at e1
    refine ⟨_, o, R, ho, ?_⟩
    have kpS : ∀ {σ' : Sg} {H' : Hp} {ρ' : Env}, RepS ⟨P, w, K⟩ { bo := H } σ' H' ρ' → Same H H' := fun R' a o e => R'.keep a o (by rw [kp_bo]; exact e)
    cases o with
    | nx ρ' => cases e1; exact fun σ' H' R' g' => q _ H' (kpS R') .non
    | rt s0 ρ' => cases e1; exact fun v σ' H' R' n g' => q v H' (kpS R') (res_of n hs)
    | bk ρ' => cases e1
    | ct ρ' => cases e1
theorem fn_borG (F : FunD K x x params body scope [] [] f fd) (S : FnScope N ps scope) (n : Nat) (hn : ps.length = n + 1) (hN : ps.length + m = N.length)
    (h : ∀ cdv A outer s H E, (BX P w K mg base N x scope f cdv A outer s H E).A.guards = some [] → Room k (BX P w K mg base N x scope f cdv A outer s H E).A → DSs (BX P w K mg base N x scope f cdv A outer s H E) body g) : FnG P w K mg base C8.CX0 (k + 1) f fd ps (spB ⟨P, w, K⟩ n (runB' m g)) := by
  refine funD_okG F S (fun vs H Q E ⟨v0, vs', d0, ds, s, e0, _, hd, hl, _⟩ => by rw [e0, List.length_cons, hd.length]; omega) (fun cdv A hgd outer s H vs Q E hr ⟨v0, vs', d0, ds, sl, e0, h0, hd, hl, e, q⟩ => ⟨_, PSs.nox ((h cdv A outer s H E hgd hr).ps { bo := H }), ?_⟩)
  subst e0
  have e' : runB m g (d0 :: ds) = some sl ∧ ∀ lo hi, sl ≠ .rng lo hi := by
    unfold runB' clean at e
    split at e
    · cases e
    · rename_i hne
      exact ⟨e, fun lo hi z => by subst z; exact hne _ _ e⟩
  obtain ⟨e1, hs⟩ := e'
  have hlv := hd.length
  have R : RepS ⟨P, w, K⟩ { bo := H } (L2.start N (v0 :: vs')) H (.bor d0 :: ds.map .dat ++ uns m) := by
    refine ⟨?_, fun a o e => ?_, fun i s e => ?_, fun i j a hij hi hj => ?_, fun a e => by cases e⟩
    · rw [start_len (by simp; omega)]; simp [uns]; omega
    · rw [kp_bo] at e; exact e
    · cases i with
      | zero => cases e; exact ⟨v0, start_get rfl, h0⟩
      | succ i =>
        have e2 : (ds.map Sl.dat ++ uns m)[i]? = some s := by simpa using e
        rcases env_get e2 with ⟨d, hd', rfl⟩ | rfl
        · obtain ⟨v, hv, dv⟩ := hd.get hd'
          exact ⟨v, start_get (by simpa using hv), dv⟩
        · trivial
    · cases i with
      | zero => exact hi.elim
      | succ i => exact absurd (show mutS (ds.map Sl.dat ++ uns m)[i]? by simpa using hi) env_nomut
  unfold runB at e1
  cases ho : g (.bor d0 :: ds.map .dat ++ uns m) with
  | none => simp only [ho] at e1; cases e1
  | some o =>
    simp only [ho] at e1
    refine ⟨_, o, R, ho, ?_⟩
    have kpS : ∀ {σ' : Sg} {H' : Hp} {ρ' : Env}, RepS ⟨P, w, K⟩ { bo := H } σ' H' ρ' → Same H H' := fun R' a o e => R'.keep a o (by rw [kp_bo]; exact e)
    cases o with
    | nx ρ' => cases e1; exact fun σ' H' R' g' => q _ H' (kpS R') .non
    | rt s0 ρ' => cases e1; exact fun v σ' H' R' n g' => q v H' (kpS R') (res_of n hs)
    | bk ρ' => cases e1
    | ct ρ' => cases e1
end
def mSlN (i : Nat) (fl fu : M (Option Int)) : M PyData := fun ρ => match eLoc i ρ with
  | some _ => (match fl ρ with
    | some (lo, ρ2) => (match fu ρ2 with
      | some (hi, ρ3) => (match eLoc i ρ3 with
        | some (.list ds, _) => some (.list (cutD ds lo hi), ρ3)
        | _ => none)
      | none => none)
    | none => none)
  | none => none
theorem de_sliceN {X : Cx} {pos : Pos} (i : Nat) {y : Str} {py : Pos} {lo hi : Option Expr} {fl fu : M (Option Int)} {p2 : Pos} (hl : DO X lo fl) (hu : DO X hi fu) (hN : X.N[i]? = some y := by rfl) (hv : Vis X.env.scope y := by first | exact Or.inl rfl | exact Or.inr (Or.inl rfl) | exact Or.inr (Or.inr rfl)) (hd : (y == ("__debug__" : Str)) = false := by decide)
    (hcd : (y == ("__classdict__" : Str)) = false := by decide) : DE X (.Subscript (.Name y py) (.Slice lo hi none p2) pos) (mSlN i fl fu) := by
  refine ⟨fun W => ?_⟩
  obtain ⟨tl, hl1, hl2⟩ := hl.po W
  obtain ⟨tu, hu1, hu2⟩ := hu.po W
  refine (pe_slice (slFrz sl_list) (pe_var (i := i) hN hv hd hcd) hl1 hu1).imp fun σ H Q ⟨ρ, z, ρ', R, e, k⟩ => ?_
  unfold mSlN at e
  split at e
  · rename_i p0 e0
    obtain ⟨v, ev, _, _⟩ := eLoc_rep (x := p0.1) (p := p0.2) R e0
    split at e
    · rename_i l ρ2 e2
      split at e
      · rename_i u ρ3 e3
        split at e
        · rename_i ds ρ4 e4
          cases e
          refine ⟨v, ev, hl2 _ _ _ ⟨ρ, l, ρ2, R, e2, fun H2 R2 g2 => hu2 _ _ _ ⟨ρ2, u, ρ', R2, e3, fun H3 R3 g3 => ?_⟩⟩⟩
          obtain ⟨v', ev', hl', _⟩ := eLoc_rep R3 e4
          rw [ev] at ev'; cases ev'
          obtain ⟨l', xs, rfl, h1, h2⟩ := hl'.lst_inv
          refine ⟨l', xs, rfl, h1, fun p hp => ⟨p, _, rfl, upd_same, fun o => ?_⟩⟩
          rw [upd_upd]
          exact k _ _ (R3.same (Same.new hp)) (.lst ⟨o, upd_same⟩ ((cut_df h2 _ _).grow (.new hp))) (g2.trans (g3.trans (.new hp)))
        · cases e
      · cases e
    · cases e
  · cases e
mutual
def datV (K : PySem.W.Frag) : PyData → Value → Bool
  | .none, .none => true
  | .bool b, .bool c => b == c
  | .int i, .int j _ => decide (i = j)
  | .str z, .str y _ => decide (z = y)
  | .tuple ds, .ref a => (match K.lookup a with
    | some ⟨.type c, _, .seq its _, _⟩ => decide (c = "tuple") && decide (its.size ≤ sizeLine) && datA K ds its.toList
    | _ => false)
  | _, _ => false
def datA (K : PySem.W.Frag) : List PyData → List Value → Bool
  | [], [] => true
  | d :: ds, u :: us => datV K d u && datA K ds us
  | _, _ => false
end
mutual
theorem datV_ok {P : Program} {w : World} {K : PySem.W.Frag} : ∀ (d : PyData) (u : Value), datV K d u = true → ∃ v, RelV v u ∧ ∀ H, Df ⟨P, w, K⟩ H v d
  | .none, u, h => by cases u <;> simp only [datV, reduceCtorEq, Bool.false_eq_true] at h; exact ⟨.non, rfl, fun H => .non⟩
  | .bool b, u, h => by
    cases u <;> simp only [datV, reduceCtorEq, Bool.false_eq_true] at h
    rename_i c
    have e : b = c := by simpa using h
    subst e
    exact ⟨.bl b, rfl, fun H => .bl b⟩
  | .int i, u, h => by
    cases u <;> simp only [datV, reduceCtorEq, Bool.false_eq_true] at h
    rename_i j t
    have e : i = j := of_decide_eq_true h
    subst e
    exact ⟨.int i, ⟨t, rfl⟩, fun H => .int i⟩
  | .str z, u, h => by
    cases u <;> simp only [datV, reduceCtorEq, Bool.false_eq_true] at h
    rename_i y t
    have e : z = y := of_decide_eq_true h
    subst e
    exact ⟨.str z, ⟨t, rfl⟩, fun H => .str z⟩
  | .list _, u, h => by cases u <;> simp only [datV, reduceCtorEq, Bool.false_eq_true] at h
  | .dict _, u, h => by cases u <;> simp only [datV, reduceCtorEq, Bool.false_eq_true] at h
  | .tuple ds, u, h => by
    cases u <;> simp only [datV, reduceCtorEq, Bool.false_eq_true] at h
    rename_i a
    split at h
    · rename_i c dd its n sl q
      simp only [Bool.and_eq_true, decide_eq_true_eq] at h
      obtain ⟨⟨h1, h2⟩, h3⟩ := h
      subst h1
      obtain ⟨vs, rv, hd⟩ := datA_ok ds its.toList h3
      exact ⟨.ref a, rfl, fun H => .tup (.inr ⟨_, its, n, q, rfl, rfl, h2, rv⟩) (hd H)⟩
    · cases h
theorem datA_ok {P : Program} {w : World} {K : PySem.W.Frag} : ∀ (ds : List PyData) (us : List Value), datA K ds us = true → ∃ vs, Vals vs us ∧ ∀ H, DfA ⟨P, w, K⟩ H vs ds
  | [], [], _ => ⟨[], .nil, fun H => .nil⟩
  | [], _ :: _, h => by simp [datA] at h
  | _ :: _, [], h => by simp [datA] at h
  | d :: ds, u :: us, h => by
    simp only [datA, Bool.and_eq_true] at h
    obtain ⟨v, r, hv⟩ := datV_ok (P := P) (w := w) d u h.1
    obtain ⟨vs, rs, hvs⟩ := datA_ok (P := P) (w := w) ds us h.2
    exact ⟨v :: vs, .cons r rs, fun H => .cons (hv H) (hvs H)⟩
end
def glB (K : PySem.W.Frag) (q : Str × PyData) : Bool := match PySem.W.nsIn K mainGlobals q.1 with
  | some (some u) => datV K q.2 u
  | _ => false
theorem glB_ok {P : Program} {w : World} {K : PySem.W.Frag} {h : Heap} {mg : Str → Option Value} {x : Str} {d : PyData} (X : K.In h) (G : h.Ns mainGlobals mg) (c : glB K (x, d) = true) : GlD P w K mg x d := by
  unfold glB at c
  split at c
  · rename_i u e
    obtain ⟨v, r, hv⟩ := datV_ok (P := P) (w := w) d u c
    exact ⟨u, v, PySem.W.mg_of X G e, r, hv⟩
  · cases c
abbrev AlG : Type := He.AlD × Bool
def obsG (n : Nat) (fa : List He.Fa) (fn : List He.DefD) (gs : List (Str × PyData)) (g : Addr → Option Obj) : AlG := (He.obsD fa fn (He.frG g (He.asD g n)), gs.all (glB (He.frG g (He.asD g n))))
def hookG (n : Nat) (fa : List He.Fa) (fn : List He.DefD) (gs : List (Str × PyData)) : PySem.W.Hook where
  α := AlG
  obs := fun s => obsG n fa fn gs s.heap.get?
  val := fun _ => (He.valD fn, true)
  says := fun _ h => ∃ K : PySem.W.Frag, K.In h ∧ He.SaysD fa fn K ∧ gs.all (glB K) = true
  of := fun _ _ e => ⟨_, He.frG_in, congrArg (fun z : AlG => z.1) e, congrArg (fun z : AlG => z.2) e⟩
  keeps := fun _ _ _ ⟨K, hK, c⟩ k => ⟨K, PySem.W.Frag.In.keeps hK k, c⟩
theorem obsG_eq {n : Nat} {fa : List He.Fa} {fn : List He.DefD} {gs : List (Str × PyData)} {g : Addr → Option Obj} {s : Shared} (h : ∀ a, g a = s.heap.get? a) : obsG n fa fn gs g = (hookG n fa fn gs).obs s := by
  have e : g = s.heap.get? := funext h
  rw [e] <;> rfl
def swapL {α : Type} (us ws : List α) : List α := match us, ws with
  | [], [a, b] => [b, a]
  | _, _ => []
theorem calK_swap {P : Program} {w : World} {K : PySem.W.Frag} {mg : Str → Option Value} {base : Heap} {x p q : Str} {params : Arguments} {body : List Stmt} {scope : Scope} {f : Addr} {fd : FuncData} {k : Nat} {fD : FD} {sw : List PyData → List PyData} (F : FunD K x x params body scope [] [] f fd) (hm : mg x = some (.ref f))
    (Fn : FnOk P w K mg base C8.CX0 k f fd [p, q] (spP ⟨P, w, K⟩ 2 fD)) (hsw : ∀ a b, sw [a, b] = [b, a])
    (hb : ∀ (kV doc pm : Value) (an : Option Addr) (cdv ct : Value) (a b : Value), bindArgs (PySem.W.fnOf x x params body scope .none kV doc pm an cdv ct) ⟨[], [(q, a), (p, b)]⟩ = pure [(p, b), (q, a)]) : CalK P w K mg base k x 2 fD [q, p] sw := by
  refine ⟨f, fd, [p, q], swapL, swapL, Fn, hm, F.kp, ⟨fun s us ws _ hl => ?_, fun {vs us zs ws} r1 r2 => ?_⟩, fun H vs ds hd hl => ?_⟩
  · match us, ws, hl with
    | [], [a, b], _ =>
      obtain ⟨oc, od, dV, kV, doc, pm, an, cdv, ct, osl, rfl, lk, hcd, hD, hK⟩ := F.ex
      rcases hD with ⟨_, rfl⟩ | ⟨e, _⟩
      · exact .of_eq (hb kV doc pm an cdv ct a b)
      · exact absurd rfl e
  · cases r1 with
    | cons a b =>
      cases r2 with
      | nil => exact .nil
      | cons c d => exact .nil
    | nil =>
      cases r2 with
      | nil => exact .nil
      | cons c d =>
        cases d with
        | nil => exact .nil
        | cons d e =>
          cases e with
          | nil => exact .cons d (.cons c .nil)
          | cons f g => exact .nil
  · match ds, hl with
    | [a, b], _ =>
      obtain ⟨v, u, rfl, h1, h2⟩ := hd.two
      rw [hsw]
      exact ⟨.cons h2 (.cons h1 .nil), rfl⟩
end Dn
namespace Dn
open PySem PySem.W PySem.Spec PyProof.Rows L2 C8
section
variable {X : Cx} {o e : Expr} {fo fe : M PyData} {apos pos : Pos}
def strsOf : List PyData → Option (List Str)
  | [] => some []
  | .str z :: ds => (strsOf ds).map (z :: ·)
  | _ :: _ => none
theorem strsOf_eq : ∀ {ds : List PyData} {zs : List Str}, strsOf ds = some zs → ds = zs.map PyData.str
  | [], zs, h => by cases h; rfl
  | d :: ds, zs, h => by
    cases d <;> simp only [strsOf, reduceCtorEq] at h
    obtain ⟨ys, e, rfl⟩ := Option.map_eq_some_iff.mp h
    rw [strsOf_eq e]
    rfl
theorem strsOf_map : ∀ zs : List Str, strsOf (zs.map PyData.str) = some zs
  | [] => rfl
  | z :: zs => by
    show (strsOf (zs.map PyData.str)).map (z :: ·) = _
    rw [strsOf_map zs]
    rfl
theorem DfA.strs {Γ : Wd} {H : Hp} : ∀ {zs : List Str} {vs : List V}, DfA Γ H vs (zs.map PyData.str) → vs = zs.map V.str
  | [], _, h => by cases h; rfl
  | z :: zs, _, h => by
    cases h with
    | cons a b => rw [a.str_inv, DfA.strs b]; rfl
theorem DfA.of_strs {Γ : Wd} {H : Hp} : ∀ {zs : List Str}, DfA Γ H (zs.map V.str) (zs.map PyData.str)
  | [] => .nil
  | z :: zs => .cons (.str z) DfA.of_strs
/-- a method of a text with one argument: its plain answer -/
def MDoes (Γ : Wd) (r : V → List V → Hp → VK → Prop) (g : PyData → PyData → Option PyData) : Prop :=
  ∀ (a : Str) (y : V) (e z : PyData) (H : Hp) (Q : VK), Df Γ H y e → g (.str a) e = some z → (∀ v H', Same H H' → Df Γ H' v z → Q v H') → r (.str a) [y] H Q
def sOnly (g : Str → PyData → Option PyData) : PyData → PyData → Option PyData
  | .str a, e => g a e
  | _, _ => none
theorem de_m1 {id : String} {name : Str} {r : V → List V → Hp → VK → Prop} {g : Str → PyData → Option PyData} (slot : Slot "str" name id) (ty : typeOf (.builtin id) = pure (.type "method_descriptor")) (rule : MtR X id r)
    (hd : MDoes (wdX X) r (sOnly g)) (ho : DE X o fo) (he : DE X e fe) (hs : starEach [e] X.env = [(false, eval e X.env)] := by rfl) (hbase : attributeBase o name X.env (eval o X.env) = eval o X.env := by rfl) (hline : (apos.endLine == pos.line) = true := by rfl) :
    DE X (.Call (.Attribute o name apos) [e] [] pos) (m2 (sOnly g) fo fe) := by
  refine ⟨fun W => (pe_m1 slot ty rule (ho.pe W) (he.pe W) hs hbase hline).imp fun σ H Q ⟨ρ, z, ρ', R, e, k⟩ => ?_⟩
  obtain ⟨x, ρ1, y, e1, e2, e3⟩ := m2_inv e
  cases x <;> simp only [sOnly, reduceCtorEq] at e3
  rename_i a
  refine ⟨ρ, _, ρ1, R, e1, fun v H1 R1 D1 g1 => ?_⟩
  cases D1.str_inv
  exact ⟨⟨a, rfl⟩, ρ1, y, ρ', R1, e2, fun u H2 R2 D2 g2 => hd a u y z H2 Q D2 e3 fun v' H3 s3 D3 => k v' H3 (R2.same s3) D3 (g1.trans (g2.trans (.same s3)))⟩
def startsB (a : Str) : PyData → Option PyData
  | .str b => some (.bool (Txt.startswith a b))
  | _ => none
theorem de_starts (ho : DE X o fo) (he : DE X e fe) (hs : starEach [e] X.env = [(false, eval e X.env)] := by rfl) (hbase : attributeBase o "startswith" X.env (eval o X.env) = eval o X.env := by rfl) (hline : (apos.endLine == pos.line) = true := by rfl) :
    DE X (.Call (.Attribute o "startswith" apos) [e] [] pos) (m2 (sOnly startsB) fo fe) :=
  de_m1 F.slot_str_startswith F.type_str_startswith mt_startswith (fun a y e z H Q D h k => by
    cases e <;> simp only [sOnly, startsB, Option.some.injEq, reduceCtorEq] at h
    subst h
    cases D.str_inv
    exact ⟨_, _, rfl, rfl, k _ H (fun _ _ h => h) (.bl _)⟩) ho he hs hbase hline
def joinB (a : Str) : PyData → Option PyData
  | .list ds => (match strsOf ds with
    | some zs => if (zs.map (·.length)).sum + zs.length * a.length ≤ 16777216 then some (.str (Txt.join a zs)) else none
    | none => none)
  | _ => none
theorem de_join (ho : DE X o fo) (he : DE X e fe) (hs : starEach [e] X.env = [(false, eval e X.env)] := by rfl) (hbase : attributeBase o "join" X.env (eval o X.env) = eval o X.env := by rfl) (hline : (apos.endLine == pos.line) = true := by rfl) :
    DE X (.Call (.Attribute o "join" apos) [e] [] pos) (m2 (sOnly joinB) fo fe) :=
  de_m1 F.slot_str_join F.type_str_join mt_join (fun a y e z H Q D h k => by
    cases e <;> simp only [sOnly, joinB, reduceCtorEq] at h
    split at h
    · rename_i zs ez
      split at h
      · rename_i hz
        cases h
        rw [strsOf_eq ez] at D
        obtain ⟨l, xs, rfl, h1, h2⟩ := D.lst_inv
        rw [h2.strs] at h1
        exact ⟨_, _, zs, rfl, rfl, .inl h1.sq, hz, k _ H (fun _ _ h => h) (.str _)⟩
      · cases h
    · cases h) ho he hs hbase hline
/-- text.split(text): a new list -/
def splitS (fo fe : M PyData) : M Sl := fun ρ => match fo ρ with
  | some (.str a, ρ1) => (match fe ρ1 with
    | some (.str b, ρ2) => if (b.length == 0) = false ∧ a.length + 2 ≤ sizeLine then some (.own ((Txt.split a b).map .str), ρ2) else none
    | _ => none)
  | _ => none
theorem se_split (ho : DE X o fo) (he : DE X e fe) (hs : starEach [e] X.env = [(false, eval e X.env)] := by rfl) (hbase : attributeBase o "split" X.env (eval o X.env) = eval o X.env := by rfl) (hline : (apos.endLine == pos.line) = true := by rfl) :
    SE X (.Call (.Attribute o "split" apos) [e] [] pos) (splitS fo fe) := by
  refine ⟨fun W => (pe_split (ho.pe W) (he.pe W) hs hbase hline).imp fun σ H Q ⟨ρ, z, ρ', R, e, k⟩ => ?_⟩
  unfold splitS at e
  split at e
  · rename_i a ρ1 e1
    split at e
    · rename_i b ρ2 e2
      split at e
      · rename_i hz
        cases e
        refine ⟨ρ, _, ρ1, R, e1, fun v H1 R1 D1 g1 => ?_⟩
        cases D1.str_inv
        refine ⟨⟨a, rfl⟩, ρ1, _, ρ', R1, e2, fun u H2 R2 D2 g2 => ?_⟩
        cases D2.str_inv
        exact ⟨a, b, rfl, rfl, hz.1, hz.2, fun p hp => k _ _ (R2.same (Same.new hp)) ⟨p, _, rfl, R2.kp_none hp, upd_same, DfA.of_strs, R2.ap hp⟩ (g1.trans (g2.trans (.new hp)))⟩
      · cases e
    · cases e
  · cases e
/-- int(text), str(number) -/
def intSD : PyData → Option PyData
  | .int i => some (.int i)
  | .bool b => some (.int (if b then 1 else 0))
  | .str a => if a.length ≤ 640 then (PySem.intText? a).map PyData.int else none
  | _ => none
theorem b_intS : Call1 X (.type "int") intSD := by
  refine ⟨_, call_int1.or call_int_str, fun x d z H Q hx hg k => ?_⟩
  cases d <;> simp only [intSD, Option.some.injEq, reduceCtorEq] at hg
  · subst hg; exact .inl (.inr ⟨_, by rw [hx.bl_inv], k _ H (fun _ _ h => h) (.int _)⟩)
  · subst hg; exact .inl (.inl ⟨_, by rw [hx.int_inv], k _ H (fun _ _ h => h) (.int _)⟩)
  · split at hg
    · rename_i hl
      obtain ⟨n, e, rfl⟩ := Option.map_eq_some_iff.mp hg
      exact .inr ⟨_, n, by rw [hx.str_inv], e, hl, k _ H (fun _ _ h => h) (.int _)⟩
    · cases hg
def strD : PyData → Option PyData
  | .int i => if i.natAbs.log2 < 1920 then some (.str (toString i)) else none
  | .str a => some (.str a)
  | _ => none
theorem b_str : Call1 X (.type "str") strD := by
  refine ⟨_, call_str_int.or SkE.call_str_str, fun x d z H Q hx hg k => ?_⟩
  cases d <;> simp only [strD, Option.some.injEq, reduceCtorEq] at hg
  · split at hg
    · rename_i hl
      cases hg
      exact .inl ⟨_, by rw [hx.int_inv], hl, k _ H (fun _ _ h => h) (.str _)⟩
    · cases hg
  · subst hg
    exact .inr ⟨_, by rw [hx.str_inv], k _ H (fun _ _ h => h) (.str _)⟩
end
end Dn
namespace Dn
open PySem PySem.W PySem.Spec PyProof.Rows L2 C8
structure Xn where
  cls : Str
  fs : List (Str × PyData)
def XnG (Γ : Wd) (mg : Str → Option Value) (H : Hp) (x : Xn) (c : Value) (d : Option Addr) : Prop := ∃ C, mg x.cls = some (.ref C) ∧ c = .ref C ∧ XdOk Γ H d x.fs
abbrev XnOk (X : Cx) (H : Hp) (x : Xn) (c : Value) (d : Option Addr) : Prop := XnG (wdX X) X.mg H x c d
abbrev OX := Out ⊕ (Xn × Env)
abbrev MX := Env → Option OX
def EndX (X : Cx) (W : Wt) (H : Hp) (D : Ends) (Wx : WX) : OX → Prop
  | .inl o => EndOk (wdX X) W H D o
  | .inr (xn, ρ') => ∀ c d σ' H', RepS (wdX X) W σ' H' ρ' → Grow H H' → XnOk X H' xn c d → Wx c d σ' H'
theorem EndX.grow {X : Cx} {W : Wt} {H H' : Hp} {D : Ends} {Wx : WX} {o : OX} (g : Grow H H') (h : EndX X W H D Wx o) : EndX X W H' D Wx o := by
  cases o with
  | inl o => exact EndOk.grow g h
  | inr x => exact fun c d σ' H2 R g2 z => h c d σ' H2 R (g.trans g2) z
def rdSx (X : Cx) (W : Wt) (Wx : WX) (g : MX) : TS := fun D σ H => ∃ ρ o, RepS (wdX X) W σ H ρ ∧ g ρ = some o ∧ EndX X W H D Wx o
structure DSx (X : Cx) (st : Stmt) (g : MX) : Prop where
  ps : ∀ W Wx, L2N.Takes X Wx → PS X st (rdSx X W Wx g)
structure DSsx (X : Cx) (st : List Stmt) (g : MX) : Prop where
  ps : ∀ W Wx, L2N.Takes X Wx → PSs X st (rdSx X W Wx g)
def xOf (g : MS) : MX := fun ρ => (g ρ).map .inl
def xSeq (g h : MX) : MX := fun ρ => match g ρ with
  | some (.inl (.nx ρ1)) => h ρ1
  | some o => some o
  | none => none
def xIf (c : M Bool) (g h : MX) : MX := fun ρ => match c ρ with
  | some (true, ρ1) => g ρ1
  | some (false, ρ1) => h ρ1
  | none => none
section
variable {X : Cx} {st : Stmt} {rest : List Stmt} {g h : MX} {e : Expr} {pos : Pos}
theorem dsx_of {g : MS} (h : DS X st g) : DSx X st (xOf g) := ⟨fun W Wx _ => (h.ps W).imp fun D σ H ⟨ρ, o, R, e, q⟩ => by
  obtain ⟨o', e', rfl⟩ := Option.map_eq_some_iff.mp e
  exact ⟨ρ, o', R, e', q⟩⟩
theorem dssx_of {sts : List Stmt} {g : MS} (h : DSs X sts g) : DSsx X sts (xOf g) := ⟨fun W Wx _ => (h.ps W).imp fun D σ H ⟨ρ, o, R, e, q⟩ => by
  obtain ⟨o', e', rfl⟩ := Option.map_eq_some_iff.mp e
  exact ⟨ρ, o', R, e', q⟩⟩
theorem dssx_one (h1 : DSx X st g) : DSsx X [st] g := ⟨fun W Wx tk => pss_one (h1.ps W Wx tk)⟩
theorem dssx_cons (h1 : DSx X st g) (h2 : DSsx X rest h) : DSsx X (st :: rest) (xSeq g h) := by
  refine ⟨fun W Wx tk => (pss_cons (h1.ps W Wx tk) (h2.ps W Wx tk)).imp fun D σ H ⟨ρ, o, R, e, q⟩ => ?_⟩
  unfold xSeq at e
  cases e1 : g ρ with
  | none => rw [e1] at e; cases e
  | some o1 =>
    rw [e1] at e
    refine ⟨ρ, o1, R, e1, ?_⟩
    cases o1 with
    | inl o1 =>
      cases o1 with
      | nx ρ1 => exact fun σ' H' R' g' => ⟨ρ1, o, R', e, q.grow g'⟩
      | rt s ρ1 => cases e; exact q
      | bk ρ1 => cases e; exact q
      | ct ρ1 => cases e; exact q
    | inr x => cases e; exact q
theorem dsx_if {c : Expr} {a b : List Stmt} {ca : M Bool} (hc : DT X c ca) (ha : DSsx X a g) (hb : DSsx X b h) : DSx X (.If c a b pos) (xIf ca g h) := by
  refine ⟨fun W Wx tk => (ps_if (hc.pt W) (ha.ps W Wx tk) (hb.ps W Wx tk)).imp fun D σ H ⟨ρ, o, R, e, q⟩ => ?_⟩
  unfold xIf at e
  split at e
  · rename_i ρ1 e1
    exact ⟨ρ, true, ρ1, R, e1, fun H' R' g' => iteT <| ⟨ρ1, o, R', e, q.grow g'⟩⟩
  · rename_i ρ1 e1
    exact ⟨ρ, false, ρ1, R, e1, fun H' R' g' => iteF <| ⟨ρ1, o, R', e, q.grow g'⟩⟩
  · cases e
end
end Dn
namespace Dn
open PySem PySem.W PySem.Spec PyProof.Rows L2 C8
/-- __init__(self, x): self.fld = x -/
def spInit (K : PySem.W.Frag) (fld : Str) : Sp := fun vs H Q _ => ∃ (a C : Addr) (v : V), vs = [.ref a, v] ∧ OexC K C ∧ PySem.W.findIn K (.ref C) fld = some none ∧ H a = some (exo a C none) ∧
  ∀ dx, H dx = none → dx ≠ a → Q .non (upd (upd H dx (exd dx [(fld, v)])) a (exo a C (some dx)))
/-- the class C of that name can be made -/
structure ExK (P : Program) (w : World) (K : PySem.W.Frag) (mg : Str → Option Value) (base : Heap) (k : Nat) (x fld : Str) : Prop where
  ex : ∃ (C fI : Addr) (fd : FuncData) (ps : List Str), mg x = some (.ref C) ∧ OexC K C ∧ PySem.W.findIn K (.ref C) "__init__" = some (some (.ref fI)) ∧ PySem.W.typeIn K (.ref fI) = some (.type "function") ∧
    PySem.W.findIn K (.ref C) fld = some none ∧ FnOk P w K mg base C8.CX0 k fI fd ps (spInit K fld) ∧ Binds K fd ps []
def xRaise (nm fld : Str) (f : M PyData) : MX := fun ρ => match f ρ with
  | some (d, ρ1) => some (.inr (⟨nm, [(fld, d)]⟩, ρ1))
  | none => none
theorem upd_del {H : Hp} {a dx : Addr} {o1 o2 o3 : HO} (ha : H a = none) (hd : H dx = none) (hn : dx ≠ a) (o4 : HO) :
    upd (del (upd (upd (upd H a o1) dx o2) a o3) a) dx o4 = upd H dx o4 := by
  funext b
  by_cases h1 : b = dx
  · subst h1; rw [upd_same, upd_same]
  · rw [upd_ne h1, upd_ne h1]
    by_cases h2 : b = a
    · subst h2; rw [del_same, ha]
    · rw [del_ne h2, upd_ne h2, upd_ne h1, upd_ne h2]
section
variable {X : Cx} {x fld : Str} {e : Expr} {f : M PyData} {k j : Nat} {p pos pos2 : Pos}
/-- C(e), raised where nothing is handled -/
theorem mkX (c : ExK X.prog X.w X.K X.mg X.base k x fld) {te : TE} (hr : Room j X.A) (hk : k + 1 ≤ j) (he : PE X e te) (hg : Gl X x) (hdb : (x == ("__debug__" : Str)) = false) (hs : starEach (e :: []) X.env = (false, eval e X.env) :: starEach [] X.env) (hpl : (backTo pos2 (starEach [] X.env)).any (·.1) = false) :
    ∃ C, X.mg x = some (.ref C) ∧ L2N.PMk X (.Call (.Name x p) [e] [] pos2) (fun σ H Q => te σ H fun v H1 => ∀ d, H1 d = none → Q (.ref C) (some d) (upd H1 d (.xd [(fld, v)]))) := by
  obtain ⟨C, fI, fd, ps, hm, T, iC, tI, nf, F, hb⟩ := c.ex
  refine ⟨C, hm, fun pins s σ H Q I h => ?_⟩
  obtain ⟨nm, q, N, bs, bm, sn, sub, ab, col, dd, k0, k1, k2, k3, k5, hC, hbm⟩ := T.cls
  refine wpAny_Call_Name_kw (ld_glob I hg hm ?_ hdb)
  refine PySem.W.callWith_K (h₀ := X.base) I.ok.mod.kin T.kC (thn ((pa_cons he pa_nil hs).run pos2 pins s σ H (fun vs H1 => ∃ v, vs = [v] ∧ ∀ d, H1 d = none → Q (.ref C) (some d) (upd H1 d (.xd [(fld, v)]))) I ?_) fun us s1 ⟨vs, H1, I1, r1, v, ev, q1⟩ => ⟨I1.kIn, ?_⟩) hs hpl
  · have e0 : tCons te tNil σ H (fun vs H1 => ∃ v, vs = [v] ∧ ∀ d, H1 d = none → Q (.ref C) (some d) (upd H1 d (.xd [(fld, v)]))) = te σ H (fun v H1 => ∃ w, [v] = [w] ∧ ∀ d, H1 d = none → Q (.ref C) (some d) (upd H1 d (.xd [(fld, w)]))) := rfl
    rw [e0]
    have e1 : (fun (v : V) (H1 : Hp) => ∃ w, [v] = [w] ∧ ∀ d, H1 d = none → Q (.ref C) (some d) (upd H1 d (.xd [(fld, w)]))) = fun v H1 => ∀ d, H1 d = none → Q (.ref C) (some d) (upd H1 d (.xd [(fld, v)])) := by
      funext v H1
      exact propext ⟨fun ⟨w, e, h⟩ => by cases e; exact h, fun h => ⟨v, rfl, h⟩⟩
    rw [e1]
    exact h
  subst ev
  show wpAny _ _ (call (.ref C) us) _ _ _
  obtain ⟨u, rfl, ru⟩ := vals1 r1
  obtain ⟨hp, g, dr, tk, os⟩ := s1
  have hsz : hp.objs.size ≤ hp.objs.size + 1 := Nat.le_succ _
  have nn : H1 (hp.objs.size + 1) = none := I1.hok.fresh hsz
  have keep : ∀ b o, hp.get? b = some o → ((hp.push (PySem.W.kdv_tup [u])).push (PySem.HandSPX.excO C hp.objs.size)).get? b = some o := fun b o e => Heap.get?_push_of_some _ (Heap.get?_push_of_some _ e)
  have there : ((hp.push (PySem.W.kdv_tup [u])).push (PySem.HandSPX.excO C hp.objs.size)).get? (hp.objs.size + 1) = some (PySem.HandSPX.excO C hp.objs.size) := by heap_get
  have I2 : L2.Inv X pins σ (upd H1 (hp.objs.size + 1) (exo (hp.objs.size + 1) C none)) ⟨(hp.push (PySem.W.kdv_tup [u])).push (PySem.HandSPX.excO C hp.objs.size), g, dr, tk, os⟩ :=
    I1.laid (t' := tk) (a := hp.objs.size + 1) (o := exo (hp.objs.size + 1) C none) (h' := (hp.push (PySem.W.kdv_tup [u])).push (PySem.HandSPX.excO C hp.objs.size)) keep hsz (exo_ok there)
  have sp : spInit X.K fld [.ref (hp.objs.size + 1), v] (upd H1 (hp.objs.size + 1) (exo (hp.objs.size + 1) C none)) (fun z H2 => z = .non ∧ ∃ d, H1 d = none ∧ H2 (hp.objs.size + 1) = some (exo (hp.objs.size + 1) C (some d)) ∧ H2 d = some (exd d [(fld, v)]) ∧ Q (.ref C) (some d) (upd (del H2 (hp.objs.size + 1)) d (.xd [(fld, v)]))) (fun _ _ _ => False) := by
    refine ⟨hp.objs.size + 1, C, v, rfl, T, nf, upd_same, fun dx ndx hne => ⟨rfl, dx, ?_, upd_same, ?_, ?_⟩⟩
    · rw [upd_ne hne] at ndx; exact ndx
    · rw [upd_ne hne, upd_same]
    · rw [upd_ne hne] at ndx
      rw [upd_del nn ndx hne]
      exact q1 dx ndx
  refine wpAny_call (PySem.HandSPX.call_own PySem.F.excBase_ValueError (fun Y => PySem.HandSPX.refsVE_contains Y bm hbm) (I1.kIn _ _ hC) (PySem.W.looks_findIn I1.kIn iC) (fun self => PySem.W.bind_fn I1.kIn self tI) (by show 1 ≤ sizeLine; rw [sizeLine_eq]; omega)
    (codeAny_mono (F.run _ X.stack _ _ ⟨[Value.ref (hp.objs.size + 1), u], []⟩ ([Value.ref (hp.objs.size + 1), u] ++ []) _ _ (fun _ _ _ => False) ((hr.mono hk).make C [u] []) (I2.env0.make C [u] []) (hb _ [Value.ref (hp.objs.size + 1), u] I2.kIn (by rw [← F.len _ _ _ _ sp]; rfl)) (show Vals [V.ref (hp.objs.size + 1), v] [Value.ref (hp.objs.size + 1), u] from .cons rfl (.cons ru .nil)) sp) fun r s' hq' => ?_))
  cases r with
  | error er => exact (C8.pass0 (E := fun _ _ _ => False)) pins σ _ _ er s' I2 hq'
  | ok fl =>
    cases fl with
    | ret w =>
      obtain ⟨z, H2, os2, bare2, un2, hok2, rv, ev, d, nd, ea, ed, q2⟩ := hq'
      subst ev
      obtain ⟨h2, g2, d2, t2, os'⟩ := s'
      obtain ⟨t0, G, J, kG, ge, hoe, na⟩ := mk_end0 (d2 := d2) (t2 := t2) I1 hsz keep un2 hok2 os2 bare2 ea ed nd
      exact ⟨rv, _, _, _, ⟨G, g2, d2, t2, os'⟩, _, .ref C, some d, rfl, J, kG, ge, hoe, ⟨rfl, rfl, fun vs e => by cases e; rfl⟩, rfl, rfl, na, rfl, bare2, raises_own T.exC T.tyC, q2⟩
    | next => exact False.elim hq'
    | brk => exact False.elim hq'
    | cont => exact False.elim hq'
theorem dsx_raise (c : ExK X.prog X.w X.K X.mg X.base k x fld) (hc : X.calm = true) (hr : Room j X.A) (hk : k + 1 ≤ j) (he : DE X e f) (hg : Gl X x := by rfl)
    (hdb : (x == ("__debug__" : Str)) = false := by decide) (hs : starEach (e :: []) X.env = (false, eval e X.env) :: starEach [] X.env := by rfl) (hpl : (backTo pos2 (starEach [] X.env)).any (·.1) = false := by rfl) :
    DSx X (.Raise (some (.Call (.Name x p) [e] [] pos2)) none pos) (xRaise x fld f) := by
  refine ⟨fun W Wx tk => ?_⟩
  obtain ⟨C, hm, mk⟩ := mkX (p := p) c hr hk (he.pe W) hg hdb hs hpl
  refine (L2N.ps_raise hc tk mk).imp fun D σ H ⟨ρ, o, R, e1, q⟩ => ?_
  unfold xRaise at e1
  split at e1
  · rename_i d ρ1 e2
    cases e1
    exact ⟨ρ, d, ρ1, R, e2, fun v H1 R1 D1 g1 dx nd => q _ _ σ _ (R1.same (Same.new nd)) (g1.trans (.new nd)) ⟨C, hm, rfl, .inr ⟨dx, _, rfl, upd_same, .cons (D1.grow (.new nd)) .nil⟩⟩⟩
  · cases e1
/-- the class of that name, made without arguments -/
structure ExZ (K : PySem.W.Frag) (mg : Str → Option Value) (x : Str) : Prop where
  ex : ∃ (C : Addr), mg x = some (.ref C) ∧ PySem.W.excIn K C He.veBase "ValueError.__new__" = true ∧ PySem.W.keepIn K (.ref C) = true ∧ PySem.W.subIn K (.ref C) (.type "BaseException") = some true ∧ PySem.W.typeIn K (.ref C) = some (.type "type")
def xRaise0 (nm : Str) : MX := fun ρ => some (.inr (⟨nm, []⟩, ρ))
theorem dsx_raise0 (c : ExZ X.K X.mg x) (hc : X.calm = true) (hg : Gl X x := by rfl) (hdb : (x == ("__debug__" : Str)) = false := by decide) : DSx X (.Raise (some (.Call (.Name x p) [] [] pos2)) none pos) (xRaise0 x) := by
  obtain ⟨C, hm, q, kC, sC, tC⟩ := c.ex
  have mk : L2N.PMk X (.Call (.Name x p) [] [] pos2) (fun _ H Q => Q (.ref C) none H) := by
    intro pins s σ H Q I h
    refine wpAny_Call_Name_kw (ld_glob I hg hm ?_ hdb)
    refine PySem.W.callWith_K0 I.kIn kC ?_
    obtain ⟨bm, N, nm, qn, bs, hdct, sn, sub, ab, col, dd, k0, k1, k2, k3, k5, mN, hC, hN, hni, T⟩ := exc_obj I.kIn q
    refine wpAny_call_exc_subT PySem.F.excBase_ValueError T hC hN hni (fun h' e hm => ?_) (Nat.zero_le _)
    exact L2N.mk_of I hm (raises_own sC tC) h (I.hok.gone hm.new)
  refine ⟨fun W Wx tk => (L2N.ps_raise hc tk mk).imp fun D σ H ⟨ρ, o, R, e1, q⟩ => ?_⟩
  cases e1
  exact q _ _ σ H R (.refl H) ⟨C, hm, rfl, .inl ⟨rfl, rfl⟩⟩
end
end Dn
namespace Dn
open PySem PySem.W PySem.Spec PyProof.Rows L2 C8
section
variable {P : Program} {w : World} {K : PySem.W.Frag} {mg : Str → Option Value} {base : Heap} {x qual fld : Str} {params : Arguments} {scope : Scope} {f : Addr} {fd : FuncData} {k : Nat} {p1 p2 p3 p4 : Pos}
theorem fn_init (F : FunD K x qual params [.Assign [.Attribute (.Name "self" p1) fld p2] (.Name "given" p3) p4] scope [] [] f fd) (S : FnScope ["self", "given"] ["self", "given"] scope)
    (hv0 : Vis scope "self") (hv1 : Vis scope "given") (hsw : ∀ env, swapsWith (.Name "given" p3) (some (.Attribute (.Name "self" p1) fld p2)) p4.line env = pure false)
    (hab : ∀ env, attributeBase (.Name "self" p1) fld env (eval (.Name "self" p1) env) = eval (.Name "self" p1) env) :
    FnOk P w K mg base C8.CX0 (k + 1) f fd ["self", "given"] (spInit K fld) := by
  refine F.ok S (fun vs H Q E ⟨a, C, v, e, _⟩ => by rw [e]; rfl) (fun cdv A outer s H vs Q E hr ⟨a, C, v, e, T, nf, ha, q⟩ => ⟨_, pss_one (ps_ost (pv 0 rfl hv0) (pv 1 rfl hv1) (hsw _)), ?_⟩)
  subst e
  exact ⟨v, rfl, .ref a, rfl, a, C, rfl, T, nf, .inl ⟨ha, fun dx nd hne => q dx nd hne⟩⟩
end
end Dn
namespace Dn
open PySem PySem.W PySem.Spec PyProof.Rows L2 C8
abbrev FX := List PyData → Option (Sl ⊕ Xn)
def EndG (Γ : Wd) (mg : Str → Option Value) (H : Hp) (Q : VK) (E : XK) : Sl ⊕ Xn → Prop
  | .inl s => ∀ v H', Same H H' → ResS Γ H H' v s → Q v H'
  | .inr xn => ∀ c d H', Same H H' → XnG Γ mg H' xn c d → E c d H'
/-- a def that may raise -/
def spX (Γ : Wd) (mg : Str → Option Value) (n : Nat) (f : FX) : Sp := fun vs H Q E => ∃ ds r, DfA Γ H vs ds ∧ ds.length = n ∧ f ds = some r ∧ EndG Γ mg H Q E r
def endX : Option OX → Option (Sl ⊕ Xn)
  | some (.inl (.rt (.rng _ _) _)) => none
  | some (.inl (.rt s _)) => some (.inl s)
  | some (.inl (.nx _)) => some (.inl (.dat .none))
  | some (.inr (xn, _)) => some (.inr xn)
  | _ => none
def runX (m : Nat) (g : MX) : FX := fun ds => endX (g (ds.map .dat ++ uns m))
abbrev XX (P : Program) (w : World) (K : PySem.W.Frag) (mg : Str → Option Value) (base : Heap) (N : List Str) (x : Str) (sc : Scope) (f : Addr) (cdv : Value) (A : Around) (outer : List PySem.Env) (s : Shared) (H : Hp) (E : XK) : Cx := cxOf (L2N.CX P w) P w K mg base N x sc f cdv A outer s H E
section
variable {P : Program} {w : World} {K : PySem.W.Frag} {mg : Str → Option Value} {base : Heap} {x : Str} {params : Arguments} {body : List Stmt} {scope : Scope} {f : Addr} {fd : FuncData} {N ps : List Str} {k m : Nat} {g : MX}
theorem fn_exc (F : FunD K x x params body scope [] [] f fd) (S : FnScope N ps scope) (hN : ps.length + m = N.length)
    (h : ∀ cdv A outer s H E, Room k (XX P w K mg base N x scope f cdv A outer s H E).A → DSsx (XX P w K mg base N x scope f cdv A outer s H E) body g) : FnOk P w K mg base (L2N.CX P w) (k + 1) f fd ps (spX ⟨P, w, K⟩ mg ps.length (runX m g)) := by
  refine F.ok S (fun vs H Q E ⟨ds, s, hd, hl, _⟩ => by rw [hd.length]; exact hl) (fun cdv A outer s H vs Q E hr ⟨ds, r, hd, hl, e, q⟩ => ⟨_, (h cdv A outer s H E hr).ps { bo := H } (fun c d _ H' => E c d H') (L2N.takes_of rfl rfl rfl rfl), ?_⟩)
  have R := rep_start (Γ := ⟨P, w, K⟩) (N := N) hd (m := m) (by omega)
  unfold runX at e
  cases ho : g (ds.map .dat ++ uns m) with
  | none => rw [ho] at e; cases e
  | some o =>
    rw [ho] at e
    refine ⟨_, o, R, ho, ?_⟩
    have kpS : ∀ {σ' : Sg} {H' : Hp} {ρ' : Env}, RepS ⟨P, w, K⟩ { bo := H } σ' H' ρ' → Same H H' := fun R' a o e => R'.keep a o (by rw [kp_bo]; exact e)
    cases o with
    | inr xr =>
      obtain ⟨xn, ρ'⟩ := xr
      cases e
      exact fun c d σ' H' R' g' z => q c d H' (kpS R') z
    | inl o =>
      cases o with
      | nx ρ' => cases e; exact fun σ' H' R' g' => q _ H' (kpS R') .non
      | rt s0 ρ' =>
        cases s0 with
        | rng lo hi => cases e
        | _ => cases e; exact fun v σ' H' R' n g' => q v H' (kpS R') (res_of n (fun lo hi z => by cases z))
      | bk ρ' => cases e
      | ct ρ' => cases e
/-- such a def, called by its name -/
structure XF (P : Program) (w : World) (K : PySem.W.Frag) (mg : Str → Option Value) (base : Heap) (k : Nat) (x : Str) (n : Nat) (f : FX) : Prop where
  ex : ∃ (fa : Addr) (fd : FuncData) (ps : List Str), FnOk P w K mg base (L2N.CX P w) k fa fd ps (spX ⟨P, w, K⟩ mg n f) ∧ mg x = some (.ref fa) ∧ PySem.W.keepIn K (.ref fa) = true ∧ Binds K fd ps []
theorem cal_exc (F : FunD K x x params body scope [] [] f fd) (hm : mg x = some (.ref f)) (S : FnScope N ps scope) (hN : ps.length + m = N.length)
    (hb : ∀ (kV doc pm : Value) (an : Option Addr) (cdv ct : Value) (us : List Value), us.length = ps.length → bindArgs (PySem.W.fnOf x x params body scope .none kV doc pm an cdv ct) ⟨us, []⟩ = pure (ps.zip us))
    (h : ∀ cdv A outer s H E, Room k (XX P w K mg base N x scope f cdv A outer s H E).A → DSsx (XX P w K mg base N x scope f cdv A outer s H E) body g) : XF P w K mg base (k + 1) x ps.length (runX m g) :=
  ⟨f, fd, ps, fn_exc F S hN h, hm, F.kp, F.bindsN hb⟩
end
def xCall (f : FX) (fr : M (List PyData)) : Env → Option ((Sl ⊕ Xn) × Env) := fun ρ => match fr ρ with
  | some (ds, ρ1) => (f ds).map fun r => (r, ρ1)
  | none => none
def xExpr (c : Env → Option ((Sl ⊕ Xn) × Env)) : MX := fun ρ => match c ρ with
  | some (.inl _, ρ1) => some (.inl (.nx ρ1))
  | some (.inr xn, ρ1) => some (.inr (xn, ρ1))
  | none => none
def xRet (c : Env → Option ((Sl ⊕ Xn) × Env)) : MX := fun ρ => match c ρ with
  | some (.inl s, ρ1) => some (.inl (.rt s ρ1))
  | some (.inr xn, ρ1) => some (.inr (xn, ρ1))
  | none => none
section
variable {X : Cx} {x : Str} {e : Expr} {es : List Expr} {f : FX} {fr : M (List PyData)} {k j n : Nat} {p pos pos2 : Pos}
theorem dsx_call (c : XF X.prog X.w X.K X.mg X.base k x n f) (hr : Room j X.A) (hk : k ≤ j) (ha : DAn X (e :: es) fr) (hn : (e :: es).length = n := by rfl) (hg : Gl X x := by rfl)
    (hdb : (x == ("__debug__" : Str)) = false := by decide) (he : starEach (e :: es) X.env = (false, eval e X.env) :: starEach es X.env := by rfl) (hpl : (backTo pos2 (starEach es X.env)).any (·.1) = false := by rfl)
    (hs : swapsWith (.Call (.Name x p) (e :: es) [] pos2) none pos.line X.env = pure false := by rfl) : DSx X (.Expr (.Call (.Name x p) (e :: es) [] pos2) pos) (xExpr (xCall f fr)) := by
  obtain ⟨fa, fd, ps, F, hm, kp, hb⟩ := c.ex
  refine ⟨fun W Wx tk => (ps_expr (pe_callS (E := fun σ => WE Wx σ) F (hr.mono hk) hg hm kp hb (fun σ => L2N.passAt tk σ) (ha.pa W) hdb he hpl) hs).imp fun D σ H ⟨ρ, o, R, e0, q⟩ => ?_⟩
  unfold xExpr xCall at e0
  cases e1 : fr ρ with
  | none => rw [e1] at e0; cases e0
  | some z =>
    obtain ⟨ds, ρ1⟩ := z
    rw [e1] at e0
    cases e2 : f ds with
    | none => simp only [e2] at e0; cases e0
    | some r =>
      simp only [e2] at e0
      refine ⟨ρ, ds, ρ1, R, e1, fun vs H1 R1 D1 g1 => ⟨ds, r, by simpa using D1, by rw [ha.num _ _ _ e1]; exact hn, e2, ?_⟩⟩
      cases r with
      | inl s => cases e0; exact fun v H2 sm _ => q σ H2 (R1.same sm) (g1.trans (.same sm))
      | inr xn => cases e0; exact fun c d H2 sm z => q c d σ H2 (R1.same sm) (g1.trans (.same sm)) z
theorem dsx_retC (c : XF X.prog X.w X.K X.mg X.base k x n f) (hr : Room j X.A) (hk : k ≤ j) (ha : DAn X (e :: es) fr) (hn : (e :: es).length = n := by rfl) (hg : Gl X x := by rfl)
    (hdb : (x == ("__debug__" : Str)) = false := by decide) (he : starEach (e :: es) X.env = (false, eval e X.env) :: starEach es X.env := by rfl) (hpl : (backTo pos2 (starEach es X.env)).any (·.1) = false := by rfl) :
    DSx X (.Return (some (.Call (.Name x p) (e :: es) [] pos2)) pos) (xRet (xCall f fr)) := by
  obtain ⟨fa, fd, ps, F, hm, kp, hb⟩ := c.ex
  refine ⟨fun W Wx tk => (ps_ret (pe_callS (E := fun σ => WE Wx σ) F (hr.mono hk) hg hm kp hb (fun σ => L2N.passAt tk σ) (ha.pa W) hdb he hpl)).imp fun D σ H ⟨ρ, o, R, e0, q⟩ => ?_⟩
  unfold xRet xCall at e0
  cases e1 : fr ρ with
  | none => rw [e1] at e0; cases e0
  | some z =>
    obtain ⟨ds, ρ1⟩ := z
    rw [e1] at e0
    cases e2 : f ds with
    | none => simp only [e2] at e0; cases e0
    | some r =>
      simp only [e2] at e0
      refine ⟨ρ, ds, ρ1, R, e1, fun vs H1 R1 D1 g1 => ⟨ds, r, by simpa using D1, by rw [ha.num _ _ _ e1]; exact hn, e2, ?_⟩⟩
      cases r with
      | inl s => cases e0; exact fun v H2 sm r => q v σ H2 (R1.same sm) (ResS.new R1 (R1.same sm) (fun i h => h) r) (g1.trans (.same sm))
      | inr xn => cases e0; exact fun c d H2 sm z => q c d σ H2 (R1.same sm) (g1.trans (.same sm)) z
end
end Dn
namespace Dn
open PySem PySem.W PySem.Spec PyProof.Rows L2 C8
def inSD : PyData → PyData → Option PyData
  | .str i, .str j => some (.bool (!(Builtin.Str.occurrences j i 0 j.length 1).isEmpty))
  | _, _ => none
section
variable {X : Cx} {o e : Expr} {fo fe : M PyData} {apos pos : Pos}
theorem c_inS : CmpR X .In inSD := ⟨_, op_in_str, fun x y d e z H Q hx hy hg k => by
  cases d <;> cases e <;> simp only [inSD, Option.some.injEq, reduceCtorEq] at hg
  subst hg
  cases hx.str_inv
  cases hy.str_inv
  exact ⟨_, _, rfl, rfl, k _ H (fun _ _ h => h) (.bl _)⟩⟩
def notInSD : PyData → PyData → Option PyData
  | .str i, .str j => some (.bool (!(!(Builtin.Str.occurrences j i 0 j.length 1).isEmpty)))
  | _, _ => none
theorem c_notInS : CmpR X .NotIn notInSD := ⟨_, op_notin_str, fun x y d e z H Q hx hy hg k => by
  cases d <;> cases e <;> simp only [notInSD, Option.some.injEq, reduceCtorEq] at hg
  subst hg
  cases hx.str_inv
  cases hy.str_inv
  exact ⟨_, _, rfl, rfl, k _ H (fun _ _ h => h) (.bl _)⟩⟩
def indexB (a : Str) : PyData → Option PyData
  | .str b => (match Builtin.Str.occurrences a b 0 a.length 1 with
    | i :: _ => some (.int (i : Nat))
    | [] => none)
  | _ => none
theorem de_indexS (ho : DE X o fo) (he : DE X e fe) (hs : starEach [e] X.env = [(false, eval e X.env)] := by rfl) (hbase : attributeBase o "index" X.env (eval o X.env) = eval o X.env := by rfl) (hline : (apos.endLine == pos.line) = true := by rfl) :
    DE X (.Call (.Attribute o "index" apos) [e] [] pos) (m2 (sOnly indexB) fo fe) :=
  de_m1 F.slot_str_index F.type_str_index mt_sindex (fun a y e z H Q D h k => by
    cases e <;> simp only [sOnly, indexB, reduceCtorEq] at h
    rename_i b
    cases D.str_inv
    cases eo : Builtin.Str.occurrences a b 0 a.length 1 with
    | nil => rw [eo] at h; cases h
    | cons i rest =>
      rw [eo] at h
      cases h
      exact ⟨a, b, i, rest, rfl, rfl, eo, k _ H (fun _ _ h => h) (.int _)⟩) ho he hs hbase hline
def upD : PyData → Option PyData
  | .str a => if a.length ≤ 5592405 then some (.str (Txt.upper a)) else none
  | _ => none
theorem de_upper (ho : DE X o fo) (hbase : attributeBase o "upper" X.env (eval o X.env) = eval o X.env := by rfl) (hline : (apos.endLine == pos.line) = true := by rfl) :
    DE X (.Call (.Attribute o "upper" apos) [] [] pos) (m1 upD fo) := by
  refine ⟨fun W => (pe_upper (ho.pe W) hbase hline).imp fun σ H Q ⟨ρ, z, ρ', R, e, k⟩ => ?_⟩
  obtain ⟨x, e1, e2⟩ := m1_inv e
  cases x <;> simp only [upD, reduceCtorEq] at e2
  rename_i a
  split at e2
  · rename_i hl
    cases e2
    refine ⟨ρ, _, ρ', R, e1, fun v H1 R1 D1 g1 => ?_⟩
    cases D1.str_inv
    exact ⟨⟨a, rfl⟩, a, rfl, rfl, hl, k _ H1 R1 (.str _) g1⟩
  · cases e2
end
end Dn
namespace Dn
open PySem PySem.W PySem.Spec PyProof.Rows L2 C8
def mulSOk (z : Str) (n : Int) : Bool := decide (-(2 ^ 31) ≤ n ∧ n < 2 ^ 31 ∧ z.length * n.toNat ≤ 16777216)
theorem mulSOk_ok {z : Str} {n : Int} (h : mulSOk z n = true) : MulOk z n := by
  obtain ⟨h1, h2, h3⟩ := of_decide_eq_true h
  refine ⟨by rw [decide_eq_false (by omega), decide_eq_false (by omega)]; rfl, fun hn _ => ?_, fun hn _ => ?_⟩
  · have h4 : (z.length : Int) * n ≤ 16777216 := by
      have e : ((n.toNat : Nat) : Int) = n := Int.toNat_of_nonneg (by omega)
      have h6 : ((z.length * n.toNat : Nat) : Int) ≤ 16777216 := Int.ofNat_le.mpr h3
      rw [Int.natCast_mul, e] at h6
      exact h6
    have h5 : (z.length : Int) ≤ (2 ^ 63 - 1) / n := by
      rw [Int.le_ediv_iff_mul_le (by omega)]
      omega
    omega
  · unfold Builtin.Str.tooLong sizeLine
    exact decide_eq_false (by omega)
def rMulS : R2 := fun x y H Q => ∃ z n, x = .str z ∧ y = .int n ∧ mulSOk z n = true ∧ Q (.str (Txt.mul z n)) H
def mulXD : PyData → PyData → Option PyData
  | .str z, .int n => if mulSOk z n = true then some (.str (Txt.mul z n)) else none
  | a, b => mulD a b
section
variable {X : Cx} {pos : Pos} {a b e o : Expr} {fa fb fo : M PyData}
theorem op_mulS : OpR X (binaryOp .Mult) rMulS := by
  intro pins s σ H x y v u Q I rx ry h
  obtain ⟨z, n, rfl, rfl, hz, q⟩ := h
  obtain ⟨t, rfl⟩ := rx
  obtain ⟨t2, rfl⟩ := ry
  exact SB.mul (mulSOk_ok hz) fun t' k => ⟨.str _, H, I.tok k, ⟨t', rfl⟩, q⟩
theorem de_mulX (ha : DE X a fa) (hb : DE X b fb) : DE X (.BinOp a .Mult b pos) (m2 mulXD fa fb) := by
  refine de_op (op_mul.or op_mulS) ?_ ha hb
  intro x y d e z H Q hx hy hg k
  unfold mulXD at hg
  split at hg
  · split at hg
    · rename_i hc
      cases hg
      exact .inr ⟨_, _, hx.str_inv, hy.int_inv, hc, k _ H (fun _ _ h => h) (.str _)⟩
    · cases hg
  · cases d <;> cases e <;> simp only [mulD, reduceCtorEq] at hg
    split at hg
    · rename_i hc
      cases hg; exact .inl ⟨_, _, hx.int_inv, hy.int_inv, hc, k _ H (fun _ _ h => h) (.int _)⟩
    · cases hg
end
def replD (y z : Str) : PyData → Option PyData
  | .str x => if x.length + (x.length + 1) * z.length ≤ 16777216 then some (.str (Txt.replace x y z)) else none
  | _ => none
structure DET (X : Cx) (e : Expr) (f : M PyData) : Prop where
  pe : ∀ W, PET X e (rdE (wdX X) W f)
structure DAT (X : Cx) (es : List Expr) (f : M (List PyData)) : Prop where
  pa : ∀ W, PAT X es (rdA (wdX X) W f)
  num : ∀ ρ ds ρ', f ρ = some (ds, ρ') → ds.length = es.length
structure SET (X : Cx) (e : Expr) (f : M Sl) : Prop where
  pe : ∀ W, PET X e (rdS (wdX X) W f)
structure DST (X : Cx) (st : Stmt) (g : MS) : Prop where
  ps : ∀ W, PST X st (rdSt (wdX X) W g)
structure DSsT (X : Cx) (st : List Stmt) (g : MS) : Prop where
  ps : ∀ W, PSsT X st (rdSt (wdX X) W g)
section
variable {X : Cx} {st : Stmt} {rest : List Stmt} {g h : MS} {e o b : Expr} {es : List Expr} {f fo fb : M PyData} {fs : M Sl} {fr : M (List PyData)} {pos apos c0 c1 : Pos} {y z : Str} {j k : Nat}
theorem PET.imp {t t' : TE} (h : PET X e t) (i : ∀ σ H Q, t' σ H Q → t σ H Q) : PET X e t' := fun pins s σ H Q k I q => h pins s σ H Q k I (i _ _ _ q)
theorem PAT.imp {t t' : TA} (h : PAT X es t) (i : ∀ σ H Q, t' σ H Q → t σ H Q) : PAT X es t' := fun pos pins s σ H Q k I q => h pos pins s σ H Q k I (i _ _ _ q)
theorem PST.imp {t t' : TS} (h : PST X st t) (i : ∀ D σ H, t' D σ H → t D σ H) : PST X st t' := fun pins s σ H D k I q => h pins s σ H D k I (i _ _ _ q)
theorem PSsT.imp {t t' : TS} (h : PSsT X rest t) (i : ∀ D σ H, t' D σ H → t D σ H) : PSsT X rest t' := fun pins s σ H D k I q => h pins s σ H D k I (i _ _ _ q)
theorem det_of (h : DE X e f) : DET X e f := ⟨fun W pins s σ H Q _ I q => (h.pe W).run pins s σ H Q I q⟩
theorem set_of (h : SE X e fs) : SET X e fs := ⟨fun W pins s σ H Q _ I q => (h.pe W).run pins s σ H Q I q⟩
theorem dst_of (h : DS X st g) : DST X st g := ⟨fun W pins s σ H D _ I q => (h.ps W).run pins s σ H D I q⟩
theorem dsst_of (h : DSs X rest g) : DSsT X rest g := ⟨fun W pins s σ H D _ I q => (h.ps W).run pins s σ H D I q⟩
theorem dat_nil : DAT X [] aNil := ⟨fun W => PAT.imp pat_nil fun σ H Q ⟨ρ, d, ρ', R, e, k⟩ => by cases e; exact k [] H R .nil (.refl H), fun ρ ds ρ' h => by cases h; rfl⟩
theorem dat_cons (ha : DET X e f) (hr : DAT X es fr) (hs : starEach (e :: es) X.env = (false, eval e X.env) :: starEach es X.env := by rfl) : DAT X (e :: es) (aCons f fr) := by
  refine ⟨fun W => PAT.imp (pat_cons (ha.pe W) (hr.pa W) hs) fun σ H Q ⟨ρ, d, ρ', R, h, k⟩ => ?_, fun ρ ds ρ' h => ?_⟩
  · obtain ⟨x, ρ1, xs, e1, e2, rfl⟩ := aCons_inv h
    exact ⟨ρ, x, ρ1, R, e1, fun v H1 R1 D1 g1 => ⟨ρ1, xs, ρ', R1, e2, fun vs H2 R2 D2 g2 => k _ H2 R2 (.cons (D1.grow g2) D2) (g1.trans g2)⟩⟩
  · obtain ⟨x, ρ1, xs, e1, e2, rfl⟩ := aCons_inv h
    simp [hr.num _ _ _ e2]
theorem set_lst (h : DAT X es fr) (hl : es.length ≤ 1000 := by decide) : SET X (.List es pos) (mLst fr) := by
  refine ⟨fun W => PET.imp (pet_lst (h.pa W)) fun σ H Q ⟨ρ, s, ρ', R, e1, k⟩ => ?_⟩
  unfold mLst at e1
  split at e1
  · rename_i ds ρ1 e2
    cases e1
    refine ⟨ρ, ds, ρ', R, e2, fun vs H1 R1 D1 g1 => ⟨?_, fun p hp => ?_⟩⟩
    · rw [D1.length, h.num _ _ _ e2]
      exact Nat.le_trans hl (by rw [sizeLine_eq]; decide)
    · exact k _ _ (R1.same (Same.new hp)) ⟨p, vs, rfl, R1.kp_none hp, upd_same, D1.grow (.new hp), R1.ap hp⟩ (g1.trans (.new hp))
  · cases e1
theorem det_fz (h : SET X e fs) : DET X e (mFz fs) := by
  refine ⟨fun W pins s σ H Q h0 I ⟨ρ, d, ρ', R, e1, k⟩ => ?_⟩
  have go : ∀ sl, fs ρ = some (sl, ρ') → (∀ v H', RepS (wdX X) W σ H' ρ' → NewS (wdX X) W σ ρ' H' v sl → Grow H H' → ∀ s', Inv X pins σ H' s' → ∃ H'', Inv X pins σ H'' s' ∧ Q v H'') →
      wpAny (model X.prog X.w) X.A (eval e X.env) (EP X pins σ Q) X.xe s := fun sl e2 hk => by
    refine thn (h.pe W pins s σ H (fun v H' => ∀ s', Inv X pins σ H' s' → ∃ H'', Inv X pins σ H'' s' ∧ Q v H'') h0 I ⟨ρ, sl, ρ', R, e2, hk⟩) fun v s1 ⟨x, H1, I1, r1, q1⟩ => ?_
    obtain ⟨H2, I2, q2⟩ := q1 s1 I1
    exact ⟨x, H2, I2, r1, q2⟩
  unfold mFz at e1
  split at e1
  · rename_i d0 ρ1 e2
    cases e1
    exact go _ e2 fun v H' R' n g s' I' => ⟨H', I', k v H' R' n g⟩
  · rename_i ds ρ1 e2
    cases e1
    refine go _ e2 fun v H' R' n g s' I' => ?_
    obtain ⟨a, xs, rfl, w, h1, h2, ap⟩ := n
    obtain ⟨od, I2⟩ := I'.lock h1 trivial
    have hmL : MutL (H' a) := by rw [h1]; trivial
    have hm := hmL.mut
    exact ⟨_, I2, k _ _ (R'.off w hmL ap) (.lst ⟨od, upd_same⟩ (h2.grow (.but hm))) (g.trans (.but hm))⟩
  · rename_i ds ρ1 e2
    cases e1
    refine go _ e2 fun v H' R' n g s' I' => ?_
    obtain ⟨a, xs, rfl, w, h1, h2, ap⟩ := n
    obtain ⟨od, I2⟩ := I'.lock h1 trivial
    have hmL : MutL (H' a) := by rw [h1]; trivial
    have hm := hmL.mut
    exact ⟨_, I2, k _ _ (R'.off w hmL ap) (.dic ⟨od, upd_same⟩ (h2.grow (.but hm))) (g.trans (.but hm))⟩
  · cases e1
theorem tOp_impT {r : R2} {gg : PyData → PyData → Option PyData} (ho : OpR X (binaryOp .Add) r) (hr : Does2 (wdX X) r gg) (ha : DET X e f) (hb : DET X b fb) : DET X (.BinOp e .Add b pos) (m2 gg f fb) :=
  ⟨fun W => PET.imp (CwR.pet_op ho (ha.pe W) (hb.pe W)) (tOp_imp hr)⟩
theorem dst_ret (he : DET X e f) : DST X (.Return (some e) pos) (sRet f) := by
  refine ⟨fun W => PST.imp (CwR.pst_ret (he.pe W)) fun D σ H ⟨ρ, o, R, e, q⟩ => ?_⟩
  unfold sRet at e
  split at e
  · rename_i d ρ1 e1
    cases e
    exact ⟨ρ, d, ρ1, R, e1, fun v H' R' D' g' => q v σ H' R' D' g'⟩
  · cases e
theorem pst_set {i : Nat} {x : Str} {te : TE} {pos' : Pos} (hN : X.N.Nodup) (hi : X.N[i]? = some x) (hx : Loc X.env.scope x) (he : PET X e te) (hs : swapsWith e (some (.Name x pos')) pos.line X.env = pure false) (hf : X.fn x = true ∨ X.env.scope.names.lookup x = some .local) :
    PST X (.Assign [.Name x pos'] e pos) (tAsg te (gName i)) := by
  intro pins s σ H D h0 I h
  refine wpAny_Assign_Name (thn (he pins s σ H _ h0 I h) fun v s1 ⟨y, H1, I1, r1, q1⟩ => ?_) hs
  exact store_ok I1 hN hi hx r1 (fun s2 I2 => ⟨_, H1, I2, q1⟩) hf
theorem dst_set (i : Nat) {x : Str} {pos' : Pos} (hN : X.N.Nodup) (he : SET X e fs) (hi : X.N[i]? = some x := by rfl) (hx : Loc X.env.scope x := by first | exact .inl rfl | exact .inr rfl)
    (hs : swapsWith e (some (.Name x pos')) pos.line X.env = pure false := by rfl) (hf : X.fn x = true ∨ X.env.scope.names.lookup x = some .local := by first | exact .inl rfl | exact .inr rfl) : DST X (.Assign [.Name x pos'] e pos) (sSet i fs) := by
  refine ⟨fun W => PST.imp (pst_set hN hi hx (he.pe W) hs hf) fun D σ H ⟨ρ, o, R, e, q⟩ => ?_⟩
  unfold sSet at e
  split at e
  · rename_i s0 ρ1 e1
    split at e
    · rename_i ρ2 e2
      cases e
      exact ⟨ρ, s0, ρ1, R, e1, fun v H' R' n g' => q _ H' (R'.set n e2) g'⟩
    · cases e
  · cases e
theorem setD (h : DET X e f) : SET X e (mDat f) := by
  refine ⟨fun W => PET.imp (h.pe W) fun σ H Q ⟨ρ, s, ρ', R, e1, k⟩ => ?_⟩
  unfold mDat at e1
  split at e1
  · rename_i d ρ1 e2
    cases e1
    exact ⟨ρ, d, ρ', R, e2, k⟩
  · cases e1
theorem dsst_one (h1 : DST X st g) : DSsT X [st] g := ⟨fun W => CwR.psst_one (h1.ps W)⟩
theorem dsst_cons (h1 : DST X st g) (h2 : DSsT X rest h) : DSsT X (st :: rest) (sSeq g h) := by
  refine ⟨fun W => PSsT.imp (psst_cons (h1.ps W) (h2.ps W)) fun D σ H ⟨ρ, o, R, e, q⟩ => ?_⟩
  unfold sSeq at e
  cases e1 : g ρ with
  | none => rw [e1] at e; cases e
  | some o1 =>
    rw [e1] at e
    refine ⟨ρ, o1, R, e1, ?_⟩
    cases o1 with
    | nx ρ1 => exact fun σ' H' R' g' => ⟨ρ1, o, R', e, q.grow g'⟩
    | rt s ρ1 => cases e; exact q
    | bk ρ1 => cases e; exact q
    | ct ρ1 => cases e; exact q
theorem det_repl (ho : DE X o fo) (hyz : (y == z) = false := by decide)
    (hst : starEach [.Constant (.str y) j c0, .Constant (.str z) k c1] X.env = [(false, eval (.Constant (.str y) j c0) X.env), (false, eval (.Constant (.str z) k c1) X.env)] := by rfl)
    (hbase : attributeBase o "replace" X.env (eval o X.env) = eval o X.env := by rfl) (hline : (apos.endLine == pos.line) = true := by rfl) :
    DET X (.Call (.Attribute o "replace" apos) [.Constant (.str y) j c0, .Constant (.str z) k c1] [] pos) (m1 (replD y z) fo) := by
  refine ⟨fun W => PET.imp (CwR.pet_replC (ho.pe W) hyz hst hbase hline) fun σ H Q ⟨ρ, d, ρ', R, e, q⟩ => ?_⟩
  obtain ⟨x, e1, e2⟩ := m1_inv e
  cases x <;> simp only [replD, reduceCtorEq] at e2
  split at e2
  · rename_i hz
    cases e2
    exact ⟨ρ, _, ρ', R, e1, fun v H1 R1 D1 g1 => ⟨_, D1.str_inv, hz, q _ H1 R1 (.str _) g1⟩⟩
  · cases e2
/-- e.replace(y, a + b * n) of written texts -/
theorem det_replM {a bb : Str} {n : Int} {j1 j2 j3 : Nat} {p1 p2 p3 p4 : Pos} (ho : DE X o fo) (hz : mulSOk bb n = true := by decide) (hyz : (y == a ++ Txt.mul bb n) = false := by decide) (ha : (a.length == 0) = false := by decide) (hb0 : ((Txt.mul bb n).length == 0) = false := by decide) (hsz : (a ++ Txt.mul bb n).length ≤ sizeLine := by decide)
    (hst : starEach [.Constant (.str y) j c0, .BinOp (.Constant (.str a) j1 p1) .Add (.BinOp (.Constant (.str bb) j2 p2) .Mult (.Constant (.int n) j3 p3) p4) c1] X.env = [(false, eval (.Constant (.str y) j c0) X.env), (false, eval (.BinOp (.Constant (.str a) j1 p1) .Add (.BinOp (.Constant (.str bb) j2 p2) .Mult (.Constant (.int n) j3 p3) p4) c1) X.env)] := by rfl)
    (hbase : attributeBase o "replace" X.env (eval o X.env) = eval o X.env := by rfl) (hline : (apos.endLine == pos.line) = true := by rfl) :
    DET X (.Call (.Attribute o "replace" apos) [.Constant (.str y) j c0, .BinOp (.Constant (.str a) j1 p1) .Add (.BinOp (.Constant (.str bb) j2 p2) .Mult (.Constant (.int n) j3 p3) p4) c1] [] pos) (m1 (replD y (a ++ Txt.mul bb n)) fo) := by
  refine ⟨fun W pins s σ H Q h0 I ⟨ρ, d, ρ', R, e, q⟩ => ?_⟩
  obtain ⟨x, e1, e2⟩ := m1_inv e
  cases x <;> simp only [replD, reduceCtorEq] at e2
  rename_i x
  split at e2
  case isFalse => cases e2
  rename_i hb
  cases e2
  have hh : rdE (wdX X) W fo σ H (fun v H1 => RepS (wdX X) W σ H1 ρ' ∧ v = .str x ∧ Grow H H1) := ⟨ρ, _, ρ', R, e1, fun v H1 R1 D1 g1 => ⟨R1, D1.str_inv, g1⟩⟩
  refine PySem.Call_method2 hbase hst hline (wpAny_mono (PySem.wpAny_toks ((ho.pe W).run pins s σ H _ I hh)) (fun v s1 q1 => ?_) fun _ _ z => z.2)
  obtain ⟨hk, v', H1, I1, r1, R1, e3, g1⟩ := q1
  subst e3
  obtain ⟨tx, e4⟩ := r1
  subst e4
  refine ⟨"str", _, PySem.F.plainAttrs_str, PySem.F.slot_str_replace, PySem.F.type_str_replace, typeIs_str _ _ _, (fun _ e => nomatch e), Calls.callWith_builtin rfl (Calls.evalArgs_plain (Calls.spliced_cons ?_))⟩
  refine Calls.Constant_str (Calls.spliced_cons ?_)
  refine wpAny_BinOp (Calls.Constant_str ?_)
  have hin : PE X (.BinOp (.Constant (.str bb) j2 p2) .Mult (.Constant (.int n) j3 p3) p4) (tOp rMulS (tC (.str bb)) (tC (.int n))) := pe_op op_mulS pe_str pe_int
  have h2 : tOp rMulS (tC (.str bb)) (tC (.int n)) σ H1 (fun v H2 => v = .str (Txt.mul bb n) ∧ H2 = H1) := ⟨bb, n, rfl, rfl, hz, rfl, rfl⟩
  refine wpAny_mono (PySem.wpAny_toks (hin.run pins _ σ H1 _ ((I1.tok (s1.toks + 1)).tok (s1.toks + 1 + 1)) h2)) (fun v2 s2 q2 => ?_) fun _ _ z => z.2
  obtain ⟨hk2, v3, H3, I3, r3, e5, e6⟩ := q2
  subst e5 e6
  obtain ⟨t3, e7⟩ := r3
  subst e7
  have hk3 : s1.toks + 1 + 1 ≤ s2.toks := hk2
  have hk4 : s.toks ≤ s1.toks := hk
  refine P.add_str ?_
  rw [ha, hb0]
  refine ⟨hsz, Calls.spliced_nil ?_⟩
  refine PySem.SC.replace (by show s1.toks ≠ 0; omega) (by show s2.toks ≠ 0; omega) (by show s1.toks ≠ s2.toks; omega) hyz hb fun t' k => ⟨.str _, H3, (I3.tok (s2.toks + 1)).tok k, ⟨t', rfl⟩, q _ H3 R1 (.str _) g1⟩
end
structure PEk (X : Cx) (e : Expr) (t : TE) : Prop where
  run : ∀ (pins : List (Addr × Obj)) (s : Shared) (σ : L2.St) (H : Hp) (Q : VK), L2.Inv X pins σ H s → t σ H Q → wpAny (model X.prog X.w) X.A (eval e X.env) (fun v s' => 1 ≤ s'.toks ∧ EP X pins σ Q v s') X.xe s
section
variable {X : Cx} {st : Stmt} {rest : List Stmt} {g h : MS} {e o b : Expr} {es : List Expr} {fs : M Sl} {fr : M (List PyData)} {te : TE} {ta : TA} {u : TS} {pos c0 : Pos} {y : Str} {j : Nat}
theorem pek_tupS {x1 : _} (h : PA X es ta) (hs : starEach (.Constant (.str y) j c0 :: es) X.env = (false, eval (.Constant (.str y) j c0) X.env) :: starEach es X.env) : PEk X (.Tuple (.Constant (.str y) j c0 :: es) x1 pos) (tTup (tCons (tC (.str y)) ta)) := by
  refine ⟨fun pins s σ H Q I hq => ?_⟩
  refine wpAny_Tuple_spliced ?_
  rw [hs]
  show wpAny _ _ (spliced ((false, eval (.Constant (.str y) j c0) X.env) :: backTo pos (starEach es X.env))) _ _ s
  refine Calls.spliced_cons (Calls.Constant_str ?_)
  refine wpAny_mono (PySem.wpAny_toks (h.run pos pins _ σ H _ (I.tok (s.toks + 1)) hq)) (fun us s1 q => ?_) fun _ _ z => z.2
  obtain ⟨hk, xs, H1, I1, r, z, q⟩ := q
  have hk1 : s.toks + 1 ≤ s1.toks := hk
  refine ⟨by rw [List.length_cons, ← r.length]; exact z, by show 1 ≤ s1.toks; omega, ?_⟩
  have hf : H1 s1.heap.objs.size = none := I1.hok.fresh (Nat.le_refl _)
  refine ⟨.ref s1.heap.objs.size, upd H1 s1.heap.objs.size (.tup (.str y :: xs)), I1.laid (t' := s1.toks) (fun b u e => Heap.get?_push_of_some _ e) (Nat.le_refl _) ?_, rfl, q _ hf⟩
  exact ⟨z, .str y s.toks :: us, .cons ⟨_, rfl⟩ r, ⟨_, Heap.get?_push_size _ rfl, rfl, _, rfl⟩⟩
theorem pss_tok {i : Nat} {x : Str} {pos' : Pos} (he : PEk X e te) (hN : X.N.Nodup) (hi : X.N[i]? = some x) (hx : Loc X.env.scope x) (h2 : PSsT X rest u)
    (hs : swapsWith e (some (.Name x pos')) pos.line X.env = pure false) (hf : X.fn x = true ∨ X.env.scope.names.lookup x = some .local) :
    PSs X (.Assign [.Name x pos'] e pos :: rest) (tSeq (tAsg te (gName i)) u) := by
  refine ⟨fun pins s σ H D I h => ?_⟩
  refine wpAny_execs_cons (wpAny_Assign_Name (thn (he.run pins s σ H _ I h) fun v s1 ⟨h1, y, H1, I1, r1, q1⟩ => ?_) hs)
  refine wpAny_mono (PySem.wpAny_toks (store_ok (v := y) (u := v) (Q := fun _ s2 => Inv X pins (σ.set i (some y)) H1 s2) I1 hN hi hx r1 (fun _ I2 => I2) hf)) (fun _ s2 q => ?_) fun _ _ z => z.2
  exact h2 pins s2 _ H1 D (Nat.le_trans h1 q.1) q.2 q1
structure DEk (X : Cx) (e : Expr) (fs : M Sl) : Prop where
  ex : ∀ W, ∃ te, PEk X e te ∧ ∀ σ H Q, rdS (wdX X) W fs σ H Q → te σ H Q
theorem dek_tupS {x1 : _} (h : DAn X es fr) (hl : es.length ≤ 999 := by decide) (hs : starEach (.Constant (.str y) j c0 :: es) X.env = (false, eval (.Constant (.str y) j c0) X.env) :: starEach es X.env := by rfl) : DEk X (.Tuple (.Constant (.str y) j c0 :: es) x1 pos) (mDat (mTup (aCons (eC (.str y)) fr))) := by
  refine ⟨fun W => ⟨_, pek_tupS (h.pa W) hs, fun σ H Q ⟨ρ, s, ρ', R, e, k⟩ => ?_⟩⟩
  unfold mDat mTup aCons eC at e
  cases e1 : fr ρ with
  | none => simp only [e1] at e; cases e
  | some p =>
    obtain ⟨ds, ρ1⟩ := p
    simp only [e1] at e
    cases e
    refine ⟨ρ, ds, ρ', R, e1, fun vs H1 R1 D1 g1 => ⟨?_, fun p hp => ?_⟩⟩
    · rw [List.length_cons, D1.length, h.num _ _ _ e1]
      exact Nat.le_trans (Nat.succ_le_succ hl) (by rw [sizeLine_eq]; decide)
    · exact k _ _ (R1.same (Same.new hp)) (.tup (.of upd_same) (.cons (.str y) (D1.grow (.new hp)))) (g1.trans (.new hp))
theorem dss_tok (i : Nat) {x : Str} {pos' : Pos} (hN : X.N.Nodup) (he : DEk X e fs) (h2 : DSsT X rest h) (hi : X.N[i]? = some x := by rfl) (hx : Loc X.env.scope x := by first | exact .inl rfl | exact .inr rfl)
    (hs : swapsWith e (some (.Name x pos')) pos.line X.env = pure false := by rfl) (hf : X.fn x = true ∨ X.env.scope.names.lookup x = some .local := by first | exact .inl rfl | exact .inr rfl) : DSs X (.Assign [.Name x pos'] e pos :: rest) (sSeq (sSet i fs) h) := by
  refine ⟨fun W => ?_⟩
  obtain ⟨te, hk, himp⟩ := he.ex W
  refine (pss_tok hk hN hi hx (h2.ps W) hs hf).imp fun D σ H ⟨ρ, o, R, e, q⟩ => himp _ _ _ ?_
  unfold sSeq sSet at e
  cases e1 : fs ρ with
  | none => simp only [e1] at e; cases e
  | some p =>
    obtain ⟨s0, ρ1⟩ := p
    simp only [e1] at e
    cases e2 : setSl i s0 ρ1 with
    | none => simp only [e2] at e; cases e
    | some ρ2 =>
      simp only [e2] at e
      exact ⟨ρ, s0, ρ1, R, e1, fun v H' R' n g' => ⟨ρ2, o, R'.set n e2, e, q.grow g'⟩⟩
end
def aStar (f : M PyData) (fr : M (List PyData)) : M (List PyData) := fun ρ => match f ρ with
  | some (.list xs, ρ1) => (match fr ρ1 with
    | some (ys, ρ2) => some (xs ++ ys, ρ2)
    | none => none)
  | some (.tuple xs, ρ1) => (match fr ρ1 with
    | some (ys, ρ2) => some (xs ++ ys, ρ2)
    | none => none)
  | _ => none
structure DAs (X : Cx) (es : List Expr) (f : M (List PyData)) : Prop where
  pa : ∀ W, PA X es (rdA (wdX X) W f)
section
variable {X : Cx} {e : Expr} {es : List Expr} {f : M PyData} {fr : M (List PyData)} {pos p : Pos}
theorem das_of (h : DAn X es fr) : DAs X es fr := ⟨h.pa⟩
theorem das_cons (ha : DE X e f) (hr : DAs X es fr) (hs : starEach (e :: es) X.env = (false, eval e X.env) :: starEach es X.env := by rfl) : DAs X (e :: es) (aCons f fr) := by
  refine ⟨fun W => (pa_cons (ha.pe W) (hr.pa W) hs).imp fun σ H Q ⟨ρ, d, ρ', R, h, k⟩ => ?_⟩
  obtain ⟨x, ρ1, xs, e1, e2, rfl⟩ := aCons_inv h
  exact ⟨ρ, x, ρ1, R, e1, fun v H1 R1 D1 g1 => ⟨ρ1, xs, ρ', R1, e2, fun vs H2 R2 D2 g2 => k _ H2 R2 (.cons (D1.grow g2) D2) (g1.trans g2)⟩⟩
theorem das_star (ha : DE X e f) (hr : DAs X es fr) (hs : starEach (.Starred e p :: es) X.env = (true, eval e X.env) :: starEach es X.env := by rfl) : DAs X (.Starred e p :: es) (aStar f fr) := by
  refine ⟨fun W => (StX.pa_star (ha.pe W) (hr.pa W) hs).imp fun σ H Q ⟨ρ, d, ρ', R, h, k⟩ => ?_⟩
  unfold aStar at h
  split at h
  · rename_i xs ρ1 e1
    split at h
    · rename_i ys ρ2 e2
      cases h
      refine ⟨ρ, _, ρ1, R, e1, fun v H1 R1 D1 g1 => ?_⟩
      obtain ⟨a, vs, rfl, h1, h2⟩ := D1.lst_inv
      exact ⟨a, vs, rfl, .inr h1.sq, ρ1, ys, ρ', R1, e2, fun ws H2 R2 D2 g2 => k _ H2 R2 ((h2.grow g2).append D2) (g1.trans g2)⟩
    · cases h
  · rename_i xs ρ1 e1
    split at h
    · rename_i ys ρ2 e2
      cases h
      refine ⟨ρ, _, ρ1, R, e1, fun v H1 R1 D1 g1 => ?_⟩
      obtain ⟨a, vs, rfl, h1, h2⟩ := D1.tup_inv
      exact ⟨a, vs, rfl, .inl h1, ρ1, ys, ρ', R1, e2, fun ws H2 R2 D2 g2 => k _ H2 R2 ((h2.grow g2).append D2) (g1.trans g2)⟩
    · cases h
  · cases h
def mTupS (f : M (List PyData)) : M PyData := fun ρ => match f ρ with
  | some (ds, ρ') => if ds.length ≤ 1000 then some (.tuple ds, ρ') else none
  | none => none
theorem de_tupS {x1 : _} (h : DAs X es fr) : DE X (.Tuple es x1 pos) (mTupS fr) := by
  refine ⟨fun W => (pe_tup (h.pa W)).imp fun σ H Q ⟨ρ, d, ρ', R, e, k⟩ => ?_⟩
  unfold mTupS at e
  split at e
  · rename_i ds ρ1 e1
    split at e
    · rename_i hl
      cases e
      refine ⟨ρ, ds, ρ', R, e1, fun vs H1 R1 D1 g1 => ⟨?_, fun p hp => ?_⟩⟩
      · rw [D1.length]
        exact Nat.le_trans hl (by rw [sizeLine_eq]; decide)
      · exact k _ _ (R1.same (Same.new hp)) (.tup (.of upd_same) (D1.grow (.new hp))) (g1.trans (.new hp))
    · cases e
  · cases e
end
end Dn
namespace Dn
open PySem PySem.W PySem.Spec PyProof.Rows L2 C8
def revS (z : Str) : Str := ⟨((Builtin.Str.strSliceIndices none none (-1) z.length).filterMap (z.cps[·]?)).toArray⟩
theorem revS_len (z : Str) : (revS z).length ≤ z.length := by
  have h : ((Builtin.Str.strSliceIndices none none (-1) z.length).filterMap (z.cps[·]?)).length ≤ (Builtin.Str.strSliceIndices none none (-1) z.length).length := List.length_filterMap_le _ _
  have h2 : (Builtin.Str.strSliceIndices none none (-1) z.length).length = z.length := by
    have h3 : ∀ n : Nat, (sliceRange ((n : Int) - 1) (-1) (-1)).length = n := fun n => by
      unfold sliceRange
      rw [List.length_map, List.length_range, if_neg (by decide)]
      by_cases hn : (n : Int) - 1 > -1
      · rw [if_pos hn, show (- -1 : Int) = 1 from rfl, Int.ediv_one]
        omega
      · rw [if_neg hn]
        show 0 = n
        omega
    exact h3 z.length
  show ((((Builtin.Str.strSliceIndices none none (-1) z.length).filterMap (z.cps[·]?)).toArray).size) ≤ _
  rw [List.size_toArray]
  omega
def revD : PyData → Option PyData
  | .str z => if z.length ≤ sizeLine then some (.str (revS z)) else none
  | .list ds => some (.list ds.reverse)
  | _ => none
theorem DfA.reverse {Γ : Wd} {H : Hp} : ∀ {vs : List V} {ds : List PyData}, DfA Γ H vs ds → DfA Γ H vs.reverse ds.reverse
  | _, _, .nil => .nil
  | _, _, .cons a b => by
    rw [List.reverse_cons, List.reverse_cons]
    exact b.reverse.append (.cons a .nil)
def tRevX (K : PySem.W.Frag) (te : TE) : TE := fun σ H Q => te σ H fun x H1 => (∃ z, x = .str z ∧ z.length ≤ sizeLine ∧ Q (.str (revS z)) H1) ∨ (∃ a xs, x = .ref a ∧ SqL K H1 a xs ∧ ∀ p, H1 p = none → Q (.ref p) (upd H1 p (.lst xs.reverse)))
section
variable {X : Cx} {e : Expr} {te : TE} {k : Nat} {p1 p2 p3 pos : Pos} {fe : M PyData}
theorem pe_revX (he : PE X e te) : PE X (.Subscript e (.Slice none none (some (.UnaryOp .USub (.Constant (.int 1) k p1) p2)) p3) pos) (tRevX X.K te) := by
  refine ⟨fun pins s σ H Q I h => ?_⟩
  refine Subscript_ (thn (he.run pins s σ H _ I h) fun v s1 ⟨x, H1, I1, r1, q1⟩ => ?_)
  have hst : PO X (some (.UnaryOp .USub (.Constant (.int 1) k p1) p2)) (tPart (tUn (rU fun i => .int (-i)) (tC (.int 1)))) := po_some (pe_un un_neg pe_int)
  refine wpAny_Slice (thn (po_none.run pins s1 σ H1 (fun o H2 => o = none ∧ H2 = H1) I1 ⟨rfl, rfl⟩) fun vl s2 ⟨l, H2, I2, pl, el, e2⟩ => ?_)
  subst el e2
  refine thn (po_none.run pins s2 σ H2 (fun o H3 => o = none ∧ H3 = H2) I2 ⟨rfl, rfl⟩) fun vu s3 ⟨u, H3, I3, pu, eu, e3⟩ => ?_
  subst eu e3
  refine thn (hst.run pins s3 σ H3 (fun o H4 => o = some (-1) ∧ H4 = H3) I3 ⟨1, rfl, -1, rfl, rfl, rfl⟩) fun vs s4 ⟨o, H4, I4, ps, eo, e4⟩ => ?_
  subst eo e4
  have I5 : L2.Inv X pins σ H4 { s4 with heap := s4.heap.push { cls := .type "slice", data := .fields #[vl, vu, vs] } } := I4.kept (t' := s4.toks) fun b ob q => Heap.get?_push_of_some _ q
  show wpAny (model X.prog X.w) X.A (subscriptTail e (.Slice none none (some (.UnaryOp .USub (.Constant (.int 1) k p1) p2)) p3) v (.ref s4.heap.objs.size)) (EP X pins σ Q) X.xe { s4 with heap := s4.heap.push { cls := .type "slice", data := .fields #[vl, vu, vs] } }
  rcases q1 with ⟨z, ex, hz, q⟩ | ⟨a, xs, ex, hx, q⟩
  · subst ex
    obtain ⟨t, rfl⟩ := r1
    obtain ⟨l, rfl, el⟩ := IsPart.raw pl
    obtain ⟨u, rfl, eu⟩ := IsPart.raw pu
    obtain ⟨w, rfl, ew⟩ := IsPart.raw ps
    have el' : l = none := by cases l <;> simp at el ⊢
    have eu' : u = none := by cases u <;> simp at eu ⊢
    subst el' eu'
    cases w with
    | none => simp at ew
    | some w =>
    obtain ⟨wi, wt⟩ := w
    simp only [Option.map_some, Option.some.injEq] at ew
    subst ew
    refine tail_any (ops := [.ref s4.heap.objs.size, .str z t]) (typeIs_str _ _ _) F.slot_str_getitem.lookup ?_ (by with_unfolding_all rfl)
    refine wpAny_getItem_str_slice (l := none) (u := none) (st := some (-1, wt)) ⟨_, Heap.get?_push_size _ rfl, rfl, rfl⟩ rfl ?_
    have hl : (revS z).length ≤ sizeLine := Nat.le_trans (revS_len z) hz
    show (sliceMade z t none none (some (-1, wt))).post _ _
    unfold sliceMade
    rw [if_neg (by simp)]
    exact ⟨hl, .str _, H4, I5.tok _, ⟨_, rfl⟩, q⟩
  · subst ex
    cases r1
    obtain ⟨its, r, ht, hzz⟩ := I5.list hx
    have hlen := r.length
    refine tail_any (ops := [.ref a, .ref s4.heap.objs.size]) ht.isList.typeIs (PySem.slot_list_getitem.lookup) ?_ (by with_unfolding_all rfl)
    refine wpAny_getItem_list_slice ht.isList (Heap.IsSliceOf.new _ vl vu vs) pl pu ps (by decide) ?_ (by rw [List.size_toArray]; omega)
    rw [PySem.W.krv_pick]
    refine ⟨.ref _, _, I5.laid (t' := s4.toks) (o := .lst xs.reverse) (fun b ob q => Heap.get?_push_of_some _ q) (Nat.le_refl _) ?_, rfl, q _ (I5.hok.fresh (Nat.le_refl _))⟩
    exact ⟨by rw [List.length_reverse]; exact hzz, _, 0, r.reverse, Heap.get?_push_size _ rfl⟩
theorem de_rev (he : LE X e fe) : DE X (.Subscript e (.Slice none none (some (.UnaryOp .USub (.Constant (.int 1) k p1) p2)) p3) pos) (m1 revD fe) := by
  refine ⟨fun W => ⟨fun pins s σ H Q I ⟨ρ, z, ρ', R, e1, q⟩ => ?_⟩⟩
  obtain ⟨x, e2, e3⟩ := m1_inv e1
  have hr := (pe_revX (k := k) (p1 := p1) (p2 := p2) (p3 := p3) (pos := pos) (he.pe W)).run pins s σ H
  cases x <;> simp only [revD, reduceCtorEq, Option.some.injEq] at e3
  · split at e3
    · rename_i hz
      cases e3
      exact hr _ I ⟨ρ, _, ρ', R, e2, fun v H1 R1 D1 g1 => .inl ⟨_, D1.str_inv, hz, q _ H1 R1 (.str _) g1⟩⟩
    · cases e3
  · subst e3
    rename_i ds
    refine thn (hr (fun v H2 => ∃ H1 a xs p, v = .ref p ∧ H2 = upd H1 p (.lst xs) ∧ H1 p = none ∧ RepS (wdX X) W σ H1 ρ' ∧ DfA (wdX X) H1 xs ds.reverse ∧ Grow H H1 ∧ a = 0) I ⟨ρ, _, ρ', R, e2, fun v H1 R1 D1 g1 => ?_⟩) fun v s1 ⟨y, H2, I2, r2, H1, _, xs, p, ev, eH, hp, R1, D1, g1, _⟩ => ?_
    · obtain ⟨a, xs, rfl, h1, h2⟩ := D1.lst_inv
      exact .inr ⟨a, xs, rfl, h1, fun p hp => ⟨H1, 0, _, p, rfl, rfl, hp, R1, h2.reverse, g1, rfl⟩⟩
    · subst ev eH
      obtain ⟨od, I3⟩ := I2.lock upd_same trivial
      refine ⟨_, _, I3, r2, ?_⟩
      rw [upd_upd]
      exact q _ _ (R1.same (Same.new hp)) (.lst ⟨od, upd_same⟩ (D1.grow (.new hp))) (g1.trans (.new hp))
end
def GlT (P : Program) (w : World) (K : PySem.W.Frag) (mg : Str → Option Value) (x : Str) (kvs : List (Str × PyData)) : Prop := ∃ p, mg x = some (.ref p) ∧ ∀ z d, kvs.lookup z = some d → ∃ v, KDct K w p z v ∧ ∀ H, Df ⟨P, w, K⟩ H v d
def tabD (kvs : List (Str × PyData)) : PyData → Option PyData
  | .str z => kvs.lookup z
  | _ => none
section
variable {X : Cx} {x : Str} {b : Expr} {fb : M PyData} {p pos : Pos} {kvs : List (Str × PyData)}
theorem de_tab (G : GlT X.prog X.w X.K X.mg x kvs) (hb : DE X b fb) (hg : Gl X x := by rfl) (hs : PlainIx b := by intro _ _; rfl) (hdb : (x == ("__debug__" : Str)) = false := by decide) : DE X (.Subscript (.Name x p) b pos) (m1 (tabD kvs) fb) := by
  obtain ⟨a, hm, hk⟩ := G
  refine ⟨fun W => (pe_ix ix_kdict (pe_glob (v := .ref a) hg hm rfl hdb) (hb.pe W) hs).imp fun σ H Q ⟨ρ, z, ρ', R, e, q⟩ => ?_⟩
  obtain ⟨y, e1, e2⟩ := m1_inv e
  cases y <;> simp only [tabD, reduceCtorEq] at e2
  rename_i t
  obtain ⟨v, kd, hd⟩ := hk t z e2
  exact ⟨ρ, _, ρ', R, e1, fun u H1 R1 D1 g1 => ⟨a, t, v, rfl, D1.str_inv, kd, q v H1 R1 (hd H1) g1⟩⟩
end
def dictE : List PyData → List (PyData × PyData) → Option (List (PyData × PyData))
  | [], kvs => some kvs
  | .tuple [k, d] :: ds, kvs => (match tupKey k with
    | some nk => dictE ds (storeE kvs nk.data d)
    | none => none)
  | _ :: _, _ => none
def mDict (f : M PyData) : M Sl := fun ρ => match f ρ with
  | some (.list ds, ρ1) => if ds.length ≤ sizeLine then (dictE ds []).map fun kvs => (.dic kvs, ρ1) else none
  | _ => none
section
variable {X : Cx} {pins : List (Addr × Obj)} {σ : Sg} {H : Hp} {s : Shared}
theorem pairsD_of (I : L2.Inv X pins σ H s) : ∀ (ds : List PyData) (xs : List V) (us : List Value) (kv0 kvs : List (PyData × PyData)), DfA (wdX X) H xs ds → Vals xs us → dictE ds kv0 = some kvs →
    ∃ (Ts : List Addr) (ps : List Ent), ps.length = ds.length ∧ us = Ts.map Value.ref ∧ (∀ (j : Nat) (k : NestedKey) (b : Addr) (u : Value), ps[j]? = some (k, b, u) → ∃ T, Ts[j]? = some T ∧ s.heap.IsTuple T #[.ref b, u]) ∧
      (∀ acc : List Ent, DfE (wdX X) H acc kv0 → DfE (wdX X) H (storedAllH acc ps) kvs) ∧ ∀ y ∈ ps, Df (wdX X) H (.ref y.2.1) y.1.data ∧ y.1.depth ≤ 8
  | [], _, _, kv0, kvs, .nil, r, e => by
    cases r
    cases e
    exact ⟨[], [], rfl, rfl, (fun j k b u h => by simp at h), fun acc h => h, fun y hy => by cases hy⟩
  | d :: ds, x :: xs, us, kv0, kvs, .cons hd hds, r, e => by
    cases r with
    | @cons _ u _ us rx rr =>
    unfold dictE at e
    split at e
    · rename_i heq; cases heq
    · rename_i k d' ds' kv heq
      cases heq
      split at e
      · rename_i nk ek
        obtain ⟨a, vs, rfl, h1, h2⟩ := hd.tup_inv
        obtain rfl : u = Value.ref a := rx
        obtain ⟨vk, vd, rfl, hk, hv⟩ := h2.two
        obtain ⟨its, rv, ht, _⟩ := I.tuple h1
        obtain ⟨t, rfl, hkd, hdp, rfl⟩ := tupKey_ref ek hk
        cases rv with
        | @cons _ uk _ _ rk rv =>
        cases rv with
        | @cons _ ud _ _ rd rv =>
        cases rv
        obtain rfl : uk = Value.ref t := rk
        obtain ⟨Ts, ps, hl, hu, hp, hst, hky⟩ := pairsD_of I ds xs us _ kvs hds rr e
        refine ⟨a :: Ts, (nk, t, ud) :: ps, by simp [hl], by simp [hu], fun j k b u hj => ?_, fun acc hacc => ?_, fun y hy => ?_⟩
        · cases j with
          | zero =>
            simp only [List.getElem?_cons_zero, Option.some.injEq, Prod.mk.injEq] at hj
            obtain ⟨rfl, rfl, rfl⟩ := hj
            obtain ⟨o, ho, hc, n, hdt⟩ := ht
            exact ⟨a, rfl, o, ho, hc, n, hdt⟩
          | succ j =>
            rw [List.getElem?_cons_succ] at hj ⊢
            exact hp j k b u hj
        · exact hst _ (hacc.store hkd rd hv)
        · rcases List.mem_cons.mp hy with rfl | hy
          · exact ⟨hkd, hdp⟩
          · exact hky y hy
      · cases e
    · cases e
def rDict (Γ : Wd) : List V → Hp → VK → Prop := fun vs H Q => ∃ a xs ds kvs, vs = [.ref a] ∧ SqL Γ.K H a xs ∧ DfA Γ H xs ds ∧ ds.length ≤ sizeLine ∧ dictE ds [] = some kvs ∧ ∀ p ys, H p = none → DfE Γ H ys kvs → Q (.ref p) (upd H p (dO Γ p ys))
theorem call_dict (hc : X.calm = true) (hu : X.A.units + 32 < cLine) : CallR X (.type "dict") (rDict (wdX X)) := by
  intro pins s σ H vs us Q I r h
  obtain ⟨a, xs, ds, kvs, rfl, h1, h2, hl, e, q⟩ := h
  obtain ⟨u, rfl, rx⟩ := vals1 r
  obtain rfl : u = Value.ref a := rx
  obtain ⟨its, rv, pl, hz⟩ := I.list h1
  obtain ⟨Ts, ps, hpl, hu', hp, hst, hky⟩ := pairsD_of I ds xs its [] kvs h2 rv e
  obtain ⟨o, n, ho, hcl, hdn, hdt⟩ := pl
  have hlen : its.length = ps.length := by rw [← rv.length, h2.length, hpl]
  refine call_dict_pairsH (knd := nestedKind X.prog X.w) (ps := ps) (PairArg.list a its.toArray (fun j => Ts.getD j 0) (ps.map fun y => (Value.ref y.2.1, y.2.2))) (I.ok.hd hc) (show X.A.units + 1 + 1 + 8 < cLine by omega) ⟨⟨o, n, ho, hcl, hdn, hdt⟩, ?_, ?_⟩ ⟨by simp, ?_⟩ ?_ (by simp; omega) ?_
  · simp [hlen]
  · intro j k v hj
    rw [List.getElem?_map, Option.map_eq_some_iff] at hj
    obtain ⟨⟨nk, b, u⟩, hj, ej⟩ := hj
    cases ej
    obtain ⟨T, hT, ht⟩ := hp j nk b u hj
    have eT : Ts.getD j 0 = T := by rw [List.getD_eq_getElem?_getD, hT]; rfl
    refine ⟨?_, ?_⟩
    · show its.toArray[j]? = some (Value.ref (Ts.getD j 0))
      rw [eT, List.getElem?_toArray, hu', List.getElem?_map, hT]; rfl
    · show PairAt _ (Ts.getD j 0) _ _
      rw [eT]
      exact .inl ht
  · intro i key v hrel
    have hrel' : (ps.map fun y => (Value.ref y.2.1, y.2.2))[i]? = some (key, v) := hrel
    rw [List.getElem?_map, Option.map_eq_some_iff] at hrel'
    obtain ⟨⟨nk, b, u⟩, hj, ej⟩ := hrel'
    cases ej
    exact ⟨nk, b, hj, rfl⟩
  · intro h' hk y hy
    obtain ⟨hd, hdp⟩ := hky y hy
    exact ⟨NestedIs.at (fun b o vs n e _ => hk b o (Nat.ne_of_lt (Heap.lt_size e)) (by simp) e) _ _ (nested_of I _ _ _ hd rfl), hdp⟩
  · intro h' tk dd hk
    have hp0 := I.hok.fresh (Nat.le_refl s.heap.objs.size)
    have hlen2 : (storedAllH [] ps).length ≤ sizeLine := by
      have := storedAllH_length ps ([] : List Ent)
      simp at this
      omega
    have I2 := I.laid (a := s.heap.objs.size) (o := dO (wdX X) s.heap.objs.size (storedAllH [] ps)) (h' := h') (t' := tk) (fun b u e => hk b u (by simp) e) (Nat.le_refl _) (dO_new (beq_eq_false_iff_ne.mpr (Ne.symm (Nat.ne_of_lt I.big))) hlen2 dd)
    exact ⟨.ref _, _, I2, rfl, q _ _ hp0 (hst [] .nil)⟩
theorem se_dict {f : M PyData} {e : Expr} {p pos : Pos} (hc : X.calm = true) (hu : X.A.units + 32 < cLine) (ha : DE X e f) (hg : Gl X "dict") (hm : X.mg "dict" = none) (hv : bootBuiltins "dict" = some (.type "dict"))
    (he : starEach [e] X.env = (false, eval e X.env) :: starEach [] X.env := by rfl) (hpl : (backTo pos (starEach [] X.env)).any (·.1) = false := by rfl) : SE X (.Call (.Name "dict" p) [e] [] pos) (mDict f) := by
  refine ⟨fun W => (pe_callTy (call_dict hc hu) hg hm hv (pa_cons (ha.pe W) pa_nil he) (by decide) (by decide) he hpl).imp fun σ H Q ⟨ρ, z, ρ', R, e, k⟩ => ?_⟩
  unfold mDict at e
  split at e
  · rename_i ds ρ1 e1
    split at e
    · rename_i hl
      obtain ⟨kvs, e2, e3⟩ := Option.map_eq_some_iff.mp e
      cases e3
      refine ⟨ρ, _, ρ', R, e1, fun v H1 R1 D1 g1 => ?_⟩
      obtain ⟨a, xs, rfl, h1, h2⟩ := D1.lst_inv
      exact ⟨a, xs, ds, kvs, rfl, h1.sq, h2, hl, e2, fun p ys hp hy => k _ _ (R1.same (Same.new hp)) ⟨p, ys, rfl, R1.kp_none hp, upd_same, hy.grow (.new hp), R1.ap hp⟩ (g1.trans (.new hp))⟩
    · cases e
  · cases e
end
end Dn
namespace Dn
open PySem PySem.W PySem.Spec PyProof.Rows L2 C8
section
variable {prog : Program} {w : World} {A : Around} {E : Value → Shared → Prop} {s : Shared}
/-- StopIteration is raised -/
theorem stopped {α : Type} {x1 : Addr} {Q : α → Shared → Prop} (hot : HotX.HotAt A x1 s.heap)
    (hE : ∀ (h' : Heap) (a : Addr), (∀ b o, s.heap.get? b = some o → h'.get? b = some o) → (∃ oe, h'.get? a = some oe ∧ oe.cls = .type "StopIteration") → E (.ref a) { s with heap := h' }) :
    wpAny (model prog w) A (do let e ← newExc (.type "StopIteration") []; raiseNew e : Sem α) Q E s := by
  obtain ⟨hh, o1, vs1, h1, d1, c1⟩ := hot
  refine wpAny_bind ?_
  simp only [newExc, newTuple]
  refine wpAny_bind (wpAny_newObj_type ?_ (by size_fits))
  refine wpAny_bind (m := firstArgMember _ _) (wpAny_of_eq (a := Value.none) (by first | rfl | (simp only [firstArgMember]; rfl)) ?_)
  refine wpAny_newObj_type ?_ (by size_fits)
  have k1 := Heap.get?_push_of_some { cls := .type "tuple", data := .seq (([] : List Value).toArray) } h1
  refine HotX.raiseNew_hot ⟨hh, o1, vs1, Heap.get?_push_of_some _ (Heap.get?_push_of_some _ h1), d1, c1⟩ (Nat.ne_of_lt (Heap.lt_size (Heap.get?_push_of_some _ h1))) (Heap.get?_push_size _ rfl) rfl (by first | (simp; done) | (simp; omega) | (simp only [Array.size_append]; simp; omega)) (hE _ _ (fun b o e => ?_) ⟨_, Heap.get?_update_self _ (Heap.get?_push_size _ rfl) rfl, rfl⟩)
  have k2 := Heap.get?_push_of_some (h := s.heap) { cls := .type "tuple", data := .seq (([] : List Value).toArray) } e
  rw [Heap.get?_update_other _ _ (Nat.ne_of_gt (Heap.lt_size (Heap.get?_push_of_some _ e)))]
  exact Heap.get?_push_of_some _ (Heap.get?_push_of_some _ e)
theorem hot_upd {x1 it : Addr} {o : Obj} {vs : Array Value} {h h' : Heap} (hot : HotX.HotAt A x1 h) (ho : h.get? it = some o) (hd : o.data = .fields vs) (hs : vs.size = 2) (k : ∀ b o, b ≠ it → h.get? b = some o → h'.get? b = some o) : HotX.HotAt A x1 h' := by
  obtain ⟨hh, o1, vs1, h1, d1, c1⟩ := hot
  refine ⟨hh, o1, vs1, k _ _ (fun z => ?_) h1, d1, c1⟩
  subst z
  rw [ho] at h1; cases h1
  rw [hd] at d1; cases d1
  rw [Array.getElem?_eq_none (by omega)] at c1; cases c1
theorem endT {it t x1 : Addr} {i : Nat} {items : Array Value} {Q : Option Value → Shared → Prop} (hot : HotX.HotAt A x1 s.heap) (hit : IsTupIter s.heap it t i) (ht : IsTup s.heap t items) (hx : items[i]? = none)
    (hQ : ∀ h', (∀ b o, b ≠ it → s.heap.get? b = some o → h'.get? b = some o) → Q none { s with heap := h' }) : wpAny (model prog w) A (pyNext (.ref it)) Q E s := by
  obtain ⟨o, ho, hc, hd⟩ := id hit
  obtain ⟨ot, hot', _, nt, hdt⟩ := ht
  unfold pyNext
  refine wpAny_bind (wpAny_attempt (wpAny_callSpecial?_slot (name := Str.ofString "__next__") hit.typeIs slot_tupleiter_next (wpAny_call_entry slot_tupleiter_next hit.typeIs entry_tupleiter_next ?_ (args_tupleiter_next _))))
  show wpAny _ _ (field (.ref it) 0 >>= _) _ _ s
  refine wpAny_bind (wpAny_field ho hd (x := .ref t) rfl ?_)
  show wpAny _ _ (if (Value.ref t == Value.none) = true then _ else _) _ _ s
  rw [if_neg (show ¬ ((Value.ref t == Value.none) = true) from Bool.false_ne_true)]
  show wpAny _ _ (field (.ref it) 1 >>= _) _ _ s
  refine wpAny_bind (wpAny_field ho hd (x := .int i 0) rfl ?_)
  show wpAny _ _ (seqItems? (.ref t) >>= _) _ _ s
  refine wpAny_bind (wpAny_seqItems hot' hdt ?_)
  simp only [Int.toNat_natCast, hx]
  refine wpAny_bind (wpAny_rule (wpAny_bind (wpAny_setField ho hd (by simp) ?_)))
  have k0 : ∀ b o', b ≠ it → s.heap.get? b = some o' → (s.heap.update it (Obj.mapFields (·.setIfInBounds 0 Value.none))).get? b = some o' := fun b o' hb e => by rw [Heap.get?_update_other _ _ (Ne.symm hb)]; exact e
  refine stopped (hot_upd hot ho hd (by simp) k0) fun h' a k ha => ?_
  refine wpAny_bind (wpAny_isInstance (T := "StopIteration") (b := true) ha isSubtype_stop ?_)
  exact wpAny_pure (hQ _ fun b o' hb e => k b o' (k0 b o' hb e))
theorem endL {it l x1 : Addr} {i : Nat} {items : Array Value} {Q : Option Value → Shared → Prop} (hot : HotX.HotAt A x1 s.heap) (hit : s.heap.IsListIter it l i) (hl : s.heap.IsList l items) (hx : items[i]? = none)
    (hQ : ∀ h', (∀ b o, b ≠ it → s.heap.get? b = some o → h'.get? b = some o) → Q none { s with heap := h' }) : wpAny (model prog w) A (pyNext (.ref it)) Q E s := by
  obtain ⟨o, ho, hc, hd⟩ := id hit
  obtain ⟨ot, hot', _, nt, hdt⟩ := hl
  unfold pyNext
  refine wpAny_bind (wpAny_attempt (wpAny_callSpecial?_slot (name := Str.ofString "__next__") hit.typeIs slot_listiter_next (wpAny_call_entry slot_listiter_next hit.typeIs entry_listiter_next ?_ (args_listiter_next _))))
  show wpAny _ _ (field (.ref it) 0 >>= _) _ _ s
  refine wpAny_bind (wpAny_field ho hd (x := .ref l) rfl ?_)
  show wpAny _ _ (if (Value.ref l == Value.none) = true then _ else _) _ _ s
  rw [if_neg (show ¬ ((Value.ref l == Value.none) = true) from Bool.false_ne_true)]
  show wpAny _ _ (field (.ref it) 1 >>= _) _ _ s
  refine wpAny_bind (wpAny_field ho hd (x := .int i 0) rfl ?_)
  show wpAny _ _ (seqItems? (.ref l) >>= _) _ _ s
  refine wpAny_bind (wpAny_seqItems hot' hdt ?_)
  simp only [Int.toNat_natCast, hx]
  refine wpAny_bind (wpAny_rule (wpAny_bind (wpAny_setField ho hd (by simp) ?_)))
  have k0 : ∀ b o', b ≠ it → s.heap.get? b = some o' → (s.heap.update it (Obj.mapFields (·.setIfInBounds 0 Value.none))).get? b = some o' := fun b o' hb e => by rw [Heap.get?_update_other _ _ (Ne.symm hb)]; exact e
  refine stopped (hot_upd hot ho hd (by simp) k0) fun h' a k ha => ?_
  refine wpAny_bind (wpAny_isInstance (T := "StopIteration") (b := true) ha isSubtype_stop ?_)
  exact wpAny_pure (hQ _ fun b o' hb e => k b o' (k0 b o' hb e))
/-- a, b = t -/
theorem unpackH {env : PySem.Env} {elts : List Expr} {x1 : _} {pos : Pos} {t c : Addr} {items : Array Value} {Q : Unit → Shared → Prop} (hot : HotX.HotAt A c s.heap) (ht : IsTup s.heap t items) (hn : (assignEach elts env).length = items.size) (hstar : (assignEach elts env).findIdx? (·.1) = none)
    (h : ∀ h', (∀ b o, s.heap.get? b = some o → h'.get? b = some o) → wpAny (model prog w) A (assignInOrder ((assignEach elts env).map (·.2)) items.toList) Q E { s with heap := h' }) : wpAny (model prog w) A (assign (.Tuple elts x1 pos) env (.ref t)) Q E s := by
  rw [assign_Tuple]
  refine wpAny_bind (wpAny_standAt ?_)
  unfold unpack
  rw [hn, hstar]
  have hlt : t ≠ s.heap.objs.size := by obtain ⟨o, ho, _⟩ := ht; exact Nat.ne_of_lt (Heap.lt_size ho)
  refine wpAny_bind (wpAny_holding ?_)
  unfold unpackItems
  refine wpAny_bind ?_
  unfold notIterableAtAll
  refine wpAny_bind (wpAny_specialOf ht.typeIs slot_tuple_iter.lookup (wpAny_pure ?_))
  simp only [Bool.false_eq_true, if_false]
  refine wpAny_bind (wpAny_holding (iter_tuple ht ?_))
  refine wpAny_bind (wpAny_holding (draw_tuple hlt items.size 0 _ _ ⟨_, Heap.get?_push_size _ rfl, rfl, rfl⟩ (ht.push _) (by omega) fun h₁ hit₁ hs₁ => ?_))
  rw [List.drop_zero, List.take_of_length_le (by simp : items.toList.length ≤ items.size), if_neg (by simp)]
  have ht₁ : IsTup h₁ t items := (ht.push _).extBut hs₁.extBut hlt
  have k1 : ∀ b o, s.heap.get? b = some o → h₁.get? b = some o := fun b o e => hs₁.extBut b o (Nat.ne_of_lt (Heap.lt_size e)) (Heap.get?_push_of_some _ e)
  have hot1 : HotX.HotAt A c h₁ := by
    obtain ⟨hh, o1, vs1, h1, r⟩ := hot
    exact ⟨hh, o1, vs1, k1 _ _ h1, r⟩
  refine wpAny_bind (wpAny_holding (endT (s := { s with heap := h₁ }) hot1 hit₁ ht₁ (by simp) fun h₂ he₂ => ?_))
  simp only [Option.isSome_none, Bool.false_eq_true, if_false]
  exact wpAny_pure (h h₂ fun b o e => he₂ b o (Nat.ne_of_lt (Heap.lt_size e)) (k1 b o e))
end
section
variable {X : Cx} {pos : Pos}
theorem dg_tupH {es : List Expr} {kk : _} {t : List PyData → Env → Option Env} {ts : List Nat} (hc : L2H.HotC X) (h : DGs X es ts t) (n : Nat) (hn : (assignEach es X.env).length = n := by rfl) (hst : (assignEach es X.env).findIdx? (·.1) = none := by rfl) : DG X (.Tuple es kk pos) ts (tgTup n t) := by
  refine ⟨fun W => ⟨fun pins s σ H v u Q I r ⟨d, ρ, ρ', R, hd, e, q⟩ => ?_⟩⟩
  unfold tgTup at e
  cases d <;> simp only [reduceCtorEq] at e
  split at e
  · rename_i hl
    obtain ⟨a, xs, rfl, h1, h2⟩ := hd.tup_inv
    obtain rfl : u = Value.ref a := r
    obtain ⟨its, rv, ht, hz⟩ := I.tuple h1
    obtain ⟨x1, hot⟩ := hc.at I
    refine unpackH hot ht (by rw [hn, List.size_toArray, ← rv.length, h2.length, hl]) hst fun h' hx => ?_
    have I1 : L2.Inv X pins σ H { s with heap := h' } := I.kept (t' := s.toks) hx
    exact (h.pg W).run pins _ σ H xs _ Q I1 (by simpa using rv) ⟨_, ρ, ρ', R, h2, e, q⟩
  · cases e
end
end Dn
namespace Dn
open PySem PySem.W PySem.Spec PyProof.Rows L2 C8
/-- the block's context, the handled exception's object pinned -/
abbrev blkP (X : Cx) (s : Shared) (H : Hp) (scope : Scope) (cenv : PySem.Env) (fp : List Addr) (p : Addr × Obj) : Cx := { X.blk s H scope cenv fp with pn := [p] }
abbrev AllP (X : Cx) (scope : Scope) (J : Cx → Prop) : Prop := ∀ (s : Shared) (H : Hp) (C : Addr) (cl : List (Str × Addr)) (fp : List Addr) (p : Addr × Obj), L2H.Hot1 X.A p → J (blkP X s H scope (compEnvC scope cl C X.env) fp p)
theorem pin_put {Y : Cx} {p : Addr × Obj} {σ : Sg} {H : Hp} {s : Shared} (hY : Y.pn = []) (I : L2.Inv Y [] σ H s) (h : s.heap.get? p.1 = some p.2 ∧ H p.1 = none ∧ p.1 ≠ Y.env.locals ∧ p.1 ∉ Y.fs ∧ ∀ v, p.2.data ≠ .cell v) : L2.Inv { Y with pn := [p] } [] σ H s := by
  have ok := I.ok
  refine ⟨⟨ok.mod, ok.kind, ok.glob, ok.blt, ok.above, ok.inj, ok.has, ok.cab, ok.hd, ok.frames, ok.stk, ok.exf, ok.bs, ok.bsz, ok.noex, ok.exfs, ok.funs, ok.frf⟩, I.os, I.bare, I.base, I.loc, I.cell, I.free, I.freeC, fun q hq => ?_, I.hok, I.len⟩
  obtain rfl : q = p := by simpa using hq
  exact h
structure DIH (X : Cx) (tg iter : Expr) (fi : M (List PyData)) : Prop where
  pi : ∀ W, L2H.PIH X tg iter (rdI (wdX X) W fi)
section
variable {X : Cx} {elt tg iter : Expr} {ifs : List Expr} {scope : Scope} {own : List (Str × Nat)} {pos : Pos} {fi : M (List PyData)} {gt : PyData → Env → Option Env} {tt : M Bool} {fe : M PyData} {ts vs : List Nat}
theorem lcP_core {pins : List (Addr × Obj)} {s : Shared} {σ : Sg} {H : Hp} {W : Wt} {ρ ρ' : Env} {ys : List PyData} {pos' : Pos} {use : Option (Value → Sem Unit)} {Qf : Value → Shared → Prop}
    (hc : L2H.HotC X) (hN : X.N.Nodup) (I : L2.Inv X pins σ H s) (hi : DIH X tg iter fi) (ok : BlkOk X.N X.env.scope scope own) (hv : own.map (·.2) = vs) (hts : ∀ i ∈ ts, i ∈ vs)
    (hg : AllP X scope fun Y => DG Y tg ts gt) (ht : AllP X scope fun Y => DTs Y ifs tt) (he : AllP X scope fun Y => DE Y elt fe) (hs : ∀ x, foldedSetIterable iter X.env x = pure x)
    (R : RepS (wdX X) W σ H ρ) (e0 : mLC vs fi gt tt fe ρ = some (ys, ρ'))
    (fin : ∀ D acc C s' m H', L2.Inv X pins σ H' s' → RepS (wdX X) W σ H' ρ' → W.kp D = none → H' D = some (.lst acc) → DfA (wdX X) H' acc ys → Ap ρ' σ D → Grow H H' → s'.heap.Ns C m → FpOk X pins H' C → compPost (model X.prog X.w) X.A X.xe use Qf (.ref D) C (.ok .next) s') :
    wpAny (model X.prog X.w) X.A (comprehension (.ListComp elt [⟨tg, iter, ifs, 0⟩] scope pos) scope X.env pos' (newList []) false (eval iter X.env) use) Qf X.xe s := by
  obtain ⟨p, hot, hp⟩ := hc
  obtain ⟨ds, ρ1, ρ2, ρ3, e1, e2, e3, e4, hz⟩ := mLC_inv e0
  have fr : ∀ y ∈ scope.names, y.2 = .free → ∃ c, X.env.cells.lookup y.1 = some c := fun y hy e => (ok.free y hy e).elim (fun k => I.ok.has _ (.inl k)) fun k => I.ok.has _ (.inr k)
  refine wpAny_comprehension_free (use := use) rfl hs (closure_ok fr) ok.kind (fun y hy e => by rw [ok.uniq y hy, e])
    (thn ((hi.pi W).run pins s σ H (fun J H1 => RepS (wdX X) W σ H1 ρ1 ∧ Grow H H1 ∧ Wk (wdX X) J ds H1) I ⟨ρ, ds, ρ1, R, e1, fun J H1 R1 g1 wk => ⟨R1, g1, wk⟩⟩) fun xv sa hx => thn hx fun itv sb hb => ?_)
  obtain ⟨it, fp, tn, J, Ha, rfl, Ia, T, sta, fa, Ra, ga, wk⟩ := hb
  refine wpAny_newObj_type (newEnv_comp ?_) (by show 0 ≤ sizeLine; decide)
  obtain ⟨D, hD⟩ : ∃ D, D = sb.heap.objs.size := ⟨_, rfl⟩
  have nD : Ha D = none := by rw [hD]; exact Ia.hok.fresh (Nat.le_refl _)
  obtain ⟨sc, hsc⟩ : ∃ sc : Shared, sc = { sb with heap := sb.heap.push { cls := .type "list", data := .seq ([] : List Value).toArray } } := ⟨_, rfl⟩
  have hsch : sc.heap = sb.heap.push { cls := .type "list", data := .seq ([] : List Value).toArray } := by rw [hsc]
  have Ib : L2.Inv X pins σ (upd Ha D (.lst [])) sc := by
    rw [hsc, hD]
    exact Ia.laid (t' := sb.toks) (fun b o e => Heap.get?_push_of_some _ e) (Nat.le_refl _) ⟨Nat.zero_le _, [], 0, .nil, Heap.get?_push_size _ rfl⟩
  have gD : Grow Ha (upd Ha D (.lst [])) := .new nD
  have Rb : RepS (wdX X) W σ (upd Ha D (.lst [])) ρ1 := Ra.same (Same.new nD)
  have kD : W.kp D = none := Ra.kp_none nD
  have apD : Ap ρ1 σ D := Ra.ap nD
  have hDb : upd Ha D (.lst []) D = some (.lst []) := upd_same
  have fpb : ∀ b ∈ fp, FpOk X pins (upd Ha D (.lst [])) b ∧ b < sc.heap.objs.size := fun b hb => by
    obtain ⟨o, e, _⟩ := T.obj _ _ sta b hb
    have lt := Heap.lt_size e
    refine ⟨⟨?_, (fa b hb).2⟩, by rw [hsch, Heap.size_push]; exact Nat.lt_succ_of_lt lt⟩
    rw [upd_ne (by rw [hD]; exact Nat.ne_of_lt lt)]
    exact (fa b hb).1
  have stb : tn 0 sc.heap := T.keep _ _ _ sta fun b _ o e => by rw [hsch]; exact Heap.get?_push_of_some _ e
  obtain ⟨Hb, hHb⟩ : ∃ Hb, Hb = upd Ha D (.lst []) := ⟨_, rfl⟩
  rw [← hHb] at Ib gD Rb hDb fpb
  have Ic := block_start Ib ok hN fpb
  obtain ⟨cl, hcl⟩ : ∃ cl, cl = cellsFrom (sc.heap.objs.size + 1) scope.names (cloFrom X.env.cells scope.names []) := ⟨_, rfl⟩
  obtain ⟨C, hC⟩ : ∃ C, C = sc.heap.objs.size := ⟨_, rfl⟩
  obtain ⟨sd, hsd⟩ : ∃ sd : Shared, sd = { sc with heap := pushCells (sc.heap.push { cls := .type "dict", data := .dict #[] }) scope.names } := ⟨_, rfl⟩
  have kd : ∀ b o, sc.heap.get? b = some o → sd.heap.get? b = some o := fun b o e => by rw [hsd]; exact pushCells_keeps _ _ _ _ (Heap.get?_push_of_some _ e)
  have pinX := Ib.pin p (List.mem_append_left _ hp)
  obtain ⟨Y, hY⟩ : ∃ Y, Y = blkP X sc Hb scope (compEnvC scope cl C X.env) fp p := ⟨_, rfl⟩
  have Id0 : L2.Inv (blkP X sc Hb scope (compEnvC scope cl C X.env) fp p) [] (L2.wipe σ (own.map (·.2))) Hb sd := by
    rw [hcl, hC, hsd]
    refine pin_put rfl Ic ⟨?_, pinX.2.1, ?_, ?_, pinX.2.2.2.2⟩
    · have := kd _ _ pinX.1
      rw [hsd] at this
      exact this
    · exact Nat.ne_of_lt (Heap.lt_size pinX.1)
    · exact fun hm => (List.mem_cons.mp (Ib.stkSub p.1 hm)).elim pinX.2.2.1 pinX.2.2.2.1
  rw [hv] at Id0
  have pg := hg sc Hb C cl fp p hot
  have pt := ht sc Hb C cl fp p hot
  have pe := he sc Hb C cl fp p hot
  have hotY : L2H.HotC (blkP X sc Hb scope (compEnvC scope cl C X.env) fp p) := ⟨p, hot, List.mem_singleton.mpr rfl⟩
  have std : tn 0 sd.heap := T.keep _ _ _ stb fun b _ o e => kd b o e
  have nfp : ∀ b ∈ fp, Hb b = none := fun b hb => (fpb b hb).1.1
  have still : ∀ {σ' : Sg} {H' : Hp} {s' : Shared}, L2.Inv (blkP X sc Hb scope (compEnvC scope cl C X.env) fp p) [] σ' H' s' → (∀ b ∈ fp, H' b = none) → ∀ b ∈ fp, FpOk (blkP X sc Hb scope (compEnvC scope cl C X.env) fp p) [] H' b := fun {σ' H' s'} I' hn b hb => by
    refine ⟨hn b hb, (I'.ok.exf b hb).1, I'.ok.exfs b hb, .inl hb, fun x c e => (I'.ok.exf b hb).2 x c e, fun q hq => ?_⟩
    obtain rfl : q = p := by simpa using hq
    exact (fpb b hb).1.2.2.2.2.2 q (List.mem_append_left _ hp)
  have loop : codeAny (model X.prog X.w) X.A (.compLoop (.ListComp elt [⟨tg, iter, ifs, 0⟩] scope pos) 0 (.ref it) (.ref D) (compEnvC scope cl C X.env)) (compPost (model X.prog X.w) X.A X.xe use Qf (.ref D) C) sd := by
    refine compLoop_any (fun n s' => ∃ i H' ρi acc so rest, n = ds.length - i ∧ i ≤ ds.length ∧ L2.Inv (blkP X sc Hb scope (compEnvC scope cl C X.env) fp p) [] (L2.wipe σ vs) H' s' ∧ tn i s'.heap ∧ (∀ b ∈ fp, H' b = none) ∧ Grow Hb H' ∧
      RepS (wdX X) W (L2.wipe σ vs) H' ρi ∧ H' D = some (.lst acc) ∧ DfA (wdX X) H' acc so ∧ Ap ρi (L2.wipe σ vs) D ∧ lcLoop vs gt tt fe (ds.drop i) ρi = some (rest, ρ3) ∧ so ++ rest = ys) ?_ ds.length
      ⟨0, Hb, ρ2, [], [], ys, by simp, Nat.zero_le _, Id0, std, nfp, .refl _, Rb.wipe e2, hDb, .nil, apD.wipe e2, by simpa using e3, rfl⟩
    rintro n s5 ⟨i, H5, ρi, acc, so, rest, rfl, hle, I5, st5, n5, g5, R5, hD5, ha5, ap5, e5, eq5⟩
    rcases Nat.lt_or_ge i ds.length with hlt | hge
    · obtain ⟨go, yl⟩ := (wk H5 (gD.trans g5) i).1 hlt
      rw [List.drop_eq_getElem_cons hlt, lcLoop] at e5
      refine thnF (T.item (blkP X sc Hb scope (compEnvC scope cl C X.env) fp p) rfl rfl rfl hotY i [] s5 _ H5 (fun _ _ => False) I5 (still I5 n5) st5 go) fun r s6 ⟨u, hr, h6⟩ => ?_
      subst hr
      refine thnF h6 fun _ s7 ⟨x, H7, I7, r7, y7, st7, n7⟩ => ?_
      obtain ⟨sm, d, hd, df⟩ := yl x H7 y7
      rw [List.getElem?_eq_getElem hlt] at hd
      cases hd
      have I7' := I7.pinned (still I7 n7) (T.obj _ _ st7)
      cases q3 : gt ds[i] ρi with
      | none => simp only [q3] at e5; cases e5
      | some ρa =>
      simp only [q3] at e5
      have R7 := (R5.same sm).wide (sm _ _ hD5) ap5 kD
      refine thnF ((pg.pg (W.add D (.lst acc))).run _ s7 _ H7 x u (fun σ8 H8 => RepS (wdX X) (W.add D (.lst acc)) σ8 H8 ρa ∧ Grow H7 H8 ∧ FrS ts (L2.wipe σ vs) σ8) I7' r7 ⟨_, ρi, ρa, R7, df, q3, fun σ8 H8 R8 g8 f8 => ⟨R8, g8, f8⟩⟩) fun _ s8 ⟨σ8, H8, I8, R8, g8, f8⟩ => ?_
      have wq := f8.wipe hts
      cases q4 : tt ρa with
      | none => simp only [q4] at e5; cases e5
      | some pr =>
      obtain ⟨b, ρb⟩ := pr
      refine thnF ((pt.pts (W.add D (.lst acc))).run _ s8 σ8 H8 (fun b' H9 => b' = b ∧ RepS (wdX X) (W.add D (.lst acc)) σ8 H9 ρb ∧ Grow H8 H9) I8 ⟨ρa, b, ρb, R8, q4, fun H9 R9 g9 => ⟨rfl, R9, g9⟩⟩) fun b' s9 ⟨H9, I9, eb, R9, g9⟩ => ?_
      subst eb
      have back : ∀ {s' : Shared} {H' : Hp} {ρn : Env} {acc' : List V} {so' rest' : List PyData}, L2.Inv (blkP X sc Hb scope (compEnvC scope cl C X.env) fp p) ([] ++ pinsAt fp s7.heap) σ8 H' s' → Grow Hb H' → RepS (wdX X) W (L2.wipe σ8 vs) H' ρn → H' D = some (.lst acc') → DfA (wdX X) H' acc' so' → Ap ρn (L2.wipe σ8 vs) D →
          lcLoop vs gt tt fe (ds.drop (i + 1)) ρn = some (rest', ρ3) → so' ++ rest' = ys → ∃ m, m < ds.length - i ∧ ∃ i H' ρi acc so rest, m = ds.length - i ∧ i ≤ ds.length ∧ L2.Inv (blkP X sc Hb scope (compEnvC scope cl C X.env) fp p) [] (L2.wipe σ vs) H' s' ∧ tn i s'.heap ∧ (∀ b ∈ fp, H' b = none) ∧ Grow Hb H' ∧
            RepS (wdX X) W (L2.wipe σ vs) H' ρi ∧ H' D = some (.lst acc) ∧ DfA (wdX X) H' acc so ∧ Ap ρi (L2.wipe σ vs) D ∧ lcLoop vs gt tt fe (ds.drop i) ρi = some (rest, ρ3) ∧ so ++ rest = ys := fun {s' H' ρn acc' so' rest'} I' g' R' hD' ha' ap' el eq => by
        have held : ∀ b ∈ fp, ∀ o, s7.heap.get? b = some o → s'.heap.get? b = some o ∧ H' b = none := fun b hb o e =>
          let z := I'.pin (b, o) (List.mem_append_right _ (List.mem_append_right _ (mem_pinsAt hb e)))
          ⟨z.1, z.2.1⟩
        rw [wq] at R' ap'
        refine ⟨ds.length - (i + 1), by omega, i + 1, H', ρn, acc', so', rest', rfl, hlt, (I'.unpinned (pins := [])).weak (by rw [← wq, wipe_length]) (fun j v e => ?_), T.keep _ _ _ st7 fun b hb o e => (held b hb o e).1, fun b hb => ?_, g', R', hD', ha', ap', el, eq⟩
        · rw [← wq] at e
          exact (wipe_some e).1
        · obtain ⟨o, e, _⟩ := T.obj _ _ st7 b hb
          exact (held b hb o e).2
      have gb : Grow Hb H9 := g5.trans ((Grow.same sm).trans (g8.trans g9))
      cases b' with
      | false =>
        simp only [q4] at e5
        simp only [Bool.false_eq_true, if_false]
        cases q5 : wipeE vs ρb with
        | none => simp only [q5] at e5; cases e5
        | some ρc =>
        simp only [q5] at e5
        obtain ⟨R10, hD10, ap10⟩ := R9.narrow kD
        exact back I9 gb (R10.wipe q5) hD10 (ha5.grow ((Grow.same sm).trans (g8.trans g9))) (ap10.wipe q5) e5 eq5
      | true =>
        simp only [q4] at e5
        simp only [if_true]
        cases q5 : fe ρb with
        | none => simp only [q5] at e5; cases e5
        | some pr =>
        obtain ⟨y1, ρc⟩ := pr
        simp only [q5] at e5
        cases q6 : wipeE vs ρc with
        | none => simp only [q6] at e5; cases e5
        | some ρd =>
        simp only [q6] at e5
        cases q7 : lcLoop vs gt tt fe (ds.drop (i + 1)) ρd with
        | none => simp only [q7] at e5; cases e5
        | some pr =>
        obtain ⟨ys', ρe⟩ := pr
        simp only [q7] at e5
        cases e5
        refine thnF ((pe.pe (W.add D (.lst acc))).run _ s9 σ8 H9 (fun v H10 => RepS (wdX X) (W.add D (.lst acc)) σ8 H10 ρc ∧ Df (wdX X) H10 v y1 ∧ Grow H9 H10) I9 ⟨ρb, y1, ρc, R9, q5, fun v H10 R10 D10 g10 => ⟨R10, D10, g10⟩⟩) fun z s10 ⟨yv, H10, I10, r10, R10, D10, g10⟩ => ?_
        obtain ⟨R11, hD11, ap11⟩ := R10.narrow kD
        have mL : MutL (H10 D) := by rw [hD11]; trivial
        have gc : Grow H5 H10 := (Grow.same sm).trans (g8.trans (g9.trans g10))
        have hsz : acc.length < sizeLine := by
          have l := congrArg List.length eq5
          rw [List.length_append, List.length_cons] at l
          rw [ha5.length, sizeLine_eq]
          omega
        refine app_ok (X := blkP X sc Hb scope (compEnvC scope cl C X.env) fp p) I10 hD11 hsz r10 fun s11 I11 => ?_
        exact back (so' := so ++ [y1]) I11 ((g5.trans gc).trans (.but mL.mut)) ((R11.off kD mL ap11).wipe q6) upd_same (((ha5.grow gc).append (.cons D10 .nil)).grow (.but mL.mut)) (ap11.wipe q6) q7 (by simpa using eq5)
    · have ei : i = ds.length := by omega
      rw [ei, List.drop_length, lcLoop] at e5
      cases e5
      rw [List.append_nil] at eq5
      subst eq5
      refine thnF (T.done (blkP X sc Hb scope (compEnvC scope cl C X.env) fp p) rfl rfl rfl hotY i [] s5 _ H5 (fun _ _ => False) I5 (still I5 n5) st5 ((wk H5 (gD.trans g5) i).2 hge)) fun r s6 ⟨hr, I6⟩ => ?_
      subst hr
      have I7 : L2.Inv X pins σ H5 s6 := Ib.call' (ch := fp) I6.os I6.base I6.hok I6.bare fun b hb => ⟨(fpb b hb).1.2.2.2.1, (fpb b hb).1.2.1, (fpb b hb).1.2.2.2.2.1, (fpb b hb).1.2.2.2.2.2⟩
      have nC : H5 C = none := I6.free
      obtain ⟨m, hn, _⟩ := I6.loc
      have R8 := Rb.rest g5 R5 e4
      exact fin D acc C s6 m H5 I7 R8 kD hD5 ha5 (ap5.rest (by rw [R5.len, wipe_length]) e4) (ga.trans (gD.trans g5)) hn (Ib.fpOk (by rw [hC]; exact Nat.le_refl _) nC)
  have goal := codeAny_compStart_list loop (T.self X.A 0 _ _ _ std loop)
  subst hsd
  subst hcl
  subst hC
  subst hHb
  subst hsc
  subst hD
  exact goal
theorem se_lcH (hc : L2H.HotC X) (hN : X.N.Nodup) (hi : DIH X tg iter fi) (own : List (Str × Nat)) (ok : blkC X.N X.env.scope scope own = true) (hg : AllP X scope fun Y => DG Y tg ts gt) (ht : AllP X scope fun Y => DTs Y ifs tt) (he : AllP X scope fun Y => DE Y elt fe)
    (hv : own.map (·.2) = vs := by rfl) (hts : ∀ i ∈ ts, i ∈ vs := by decide) (hs : ∀ x, foldedSetIterable iter X.env x = pure x := by intro _; rfl) : SE X (.ListComp elt [⟨tg, iter, ifs, 0⟩] scope pos) (mLst (mLC vs fi gt tt fe)) := by
  refine ⟨fun W => ⟨fun pins s σ H Q I ⟨ρ, sl, ρ', R, e, k⟩ => ?_⟩⟩
  unfold mLst at e
  split at e
  · rename_i ys ρ9 e0
    cases e
    rw [eval_ListComp]
    refine lcP_core hc hN I hi (blkOk_by ok) hv hts hg ht he hs R e0 fun D acc C s' m H' I' R' kD hD ha ap g hn f => ⟨m, hn, fun h'' sb => ?_⟩
    obtain ⟨f0, f1, f2, f3, f4, f5⟩ := f
    exact ⟨.ref D, H', I'.turned (t' := s'.toks) (fun b o hb e => (sb.2 b hb).trans e) f0 f1 f3 f4 f5, rfl, k _ H' R' ⟨D, acc, rfl, kD, hD, ha, ap⟩ g⟩
  · cases e
theorem ds_setLcH {y : Str} {py spos : Pos} (i : Nat) (hc : L2H.HotC X) (hN : X.N.Nodup) (hi : DIH X tg iter fi) (own : List (Str × Nat)) (ok : blkC X.N X.env.scope scope own = true) (hg : AllP X scope fun Y => DG Y tg ts gt) (ht : AllP X scope fun Y => DTs Y ifs tt) (he : AllP X scope fun Y => DE Y elt fe)
    (hsw : swapsWith (.ListComp elt [⟨tg, iter, ifs, 0⟩] scope pos) (some (.Name y py)) spos.line X.env = pure true) (hy : X.N[i]? = some y := by rfl) (hyl : X.env.scope.names.lookup y = some .local := by rfl)
    (hv : own.map (·.2) = vs := by rfl) (hts : ∀ i ∈ ts, i ∈ vs := by decide) (hs : ∀ x, foldedSetIterable iter X.env x = pure x := by intro _; rfl) :
    DS X (.Assign [.Name y py] (.ListComp elt [⟨tg, iter, ifs, 0⟩] scope pos) spos) (sSet i (mLst (mLC vs fi gt tt fe))) := by
  refine ⟨fun W => ⟨fun pins s σ H D I ⟨ρ, o, R, e, q⟩ => ?_⟩⟩
  unfold sSet mLst at e
  cases e0 : mLC vs fi gt tt fe ρ with
  | none => simp only [e0] at e; cases e
  | some pr =>
  obtain ⟨ys, ρ9⟩ := pr
  simp only [e0] at e
  cases e2 : setSl i (.own ys) ρ9 with
  | none => simp only [e2] at e; cases e
  | some ρ8 =>
  simp only [e2] at e
  cases e
  rw [exec_Assign_Name_used _ _ _ _ hsw]
  refine wpAny_bind (wpAny_standAt (wpAny_bind ?_))
  show wpAny _ X.A (do let _ ← comprehension (.ListComp elt [⟨tg, iter, ifs, 0⟩] scope pos) scope X.env (firstIterPos [⟨tg, iter, ifs, 0⟩] pos) (newList []) false (eval iter X.env) (some (assign (.Name y py) X.env))) _ _ s
  refine wpAny_bind (thn (lcP_core (Qf := fun _ s' => SP X pins D .next s') hc hN I hi (blkOk_by ok) hv hts hg ht he hs R e0 fun L acc C s' m H' I' R' kD hD ha ap g hn f => ?_) fun _ s' hq => wpAny_pure (wpAny_pure hq))
  show wpAny _ _ (assign (.Name y py) X.env (.ref L)) _ _ _
  refine wpAny_assign_Name (store_ok2 (v := V.ref L) I' hN hy (.inl hyl) rfl (fun s2 I2 ⟨a, sb, hb⟩ => ?_) (.inr hyl))
  obtain ⟨f0, f1, f2, f3, f4, f5⟩ := f
  have apart : C ≠ a := hb.elim (fun z => by rw [z]; exact f1) fun z e => f4 y a z e.symm
  exact ⟨m, hn.sameBut sb apart, fun h3 sb3 => ⟨_, H', I2.turned (t' := s2.toks) (fun b o hb e => (sb3.2 b hb).trans e) f0 f1 f3 f4 f5, q _ H' (R'.set (s := .own ys) ⟨L, acc, rfl, kD, hD, ha, ap⟩ e2) g⟩⟩
end
theorem turnL {P : Program} {w : World} {K : PySem.W.Frag} {tg : Expr} (a it : Addr) : L2H.TurnH P w K tg (Itl K a) [it] it (fun i h => h.IsListIter it a i) where
  mem := by simp
  obj := fun i h ⟨o, e, c, d⟩ b hb => by
    obtain rfl : b = it := by simpa using hb
    exact ⟨o, e, fun v z => by rw [d] at z; cases z⟩
  keep := fun i h h' st k => st.at fun o e => k it (by simp) o e
  item := by
    rintro X rfl rfl rfl hc i pins s σ H E I hf st ⟨xs, x, hq, hx⟩
    obtain ⟨its, rv, pl, hz⟩ := I.list hq
    obtain ⟨u, hu, ru⟩ := rv.get hx
    obtain ⟨g0, g1, g2, g3, g4, g5⟩ := hf it (by simp)
    refine wpAny_pyNext_list_item st pl.isList (x := u) (by simpa using hu) fun h' st' sb => ?_
    obtain ⟨o, e, c, d⟩ := id st'
    exact ⟨u, rfl, go_of (s := { s with heap := h' }) e c d (by decide) ⟨x, H, I.turned (t' := s.toks) (fun b o hb e => (sb.2 b hb).trans e) g0 g1 g3 g4 g5, ru, ⟨rfl, fun ys hy => by rw [I.list_inj hy hq]; exact hx⟩, st', fun b hb => (hf b hb).1⟩⟩
  done := by
    rintro X rfl rfl rfl hc i pins s σ H E I hf st ⟨xs, hq, hx⟩
    obtain ⟨its, rv, pl, hz⟩ := I.list hq
    obtain ⟨g0, g1, g2, g3, g4, g5⟩ := hf it (by simp)
    obtain ⟨c, hot⟩ := hc.at I
    have hl := rv.length
    exact endL hot st pl.isList (by simp; omega) fun h' k => ⟨rfl, I.turned (t' := s.toks) k g0 g1 g3 g4 g5⟩
  self := fun _ _ _ _ _ st h => wpAny_pyIter_listiter st h
def mItemsL (f : M PyData) : M (List PyData) := fun ρ => match f ρ with
  | some (.list ds, ρ') => some (ds, ρ')
  | _ => none
theorem dih_list {X : Cx} {tg e : Expr} {f : M PyData} (he : DE X e f) : DIH X tg e (mItemsL f) := by
  refine ⟨fun W => ⟨fun pins s σ H R I ⟨ρ, ds, ρ', Rp, e1, k⟩ => ?_⟩⟩
  unfold mItemsL at e1
  split at e1
  · rename_i ds' ρ1 e2
    cases e1
    refine thn ((he.pe W).run pins s σ H (fun v H1 => RepS (wdX X) W σ H1 ρ' ∧ Df (wdX X) H1 v (.list ds) ∧ Grow H H1) I ⟨ρ, _, ρ', Rp, e2, fun v H1 R1 D1 g1 => ⟨R1, D1, g1⟩⟩) fun u s1 ⟨x, H1, I1, rx, R1, D1, g1⟩ => ?_
    obtain ⟨a, xs, rfl, h1, h2⟩ := D1.lst_inv
    obtain rfl : u = Value.ref a := rx
    obtain ⟨its, rv, pl, hz⟩ := I1.list h1.sq
    refine wpAny_pyIter_list pl.isList ⟨s1.heap.objs.size, [s1.heap.objs.size], _, _, H1, rfl, I1.kept (t' := s1.toks) fun b o e => Heap.get?_push_of_some _ e, turnL a _, ⟨_, Heap.get?_push_size _ rfl, rfl, rfl⟩, fun b hb => ?_, k _ H1 R1 g1 (wk_list h1 h2)⟩
    obtain rfl : b = s1.heap.objs.size := by simpa using hb
    exact I1.fpOk (Nat.le_refl _) (I1.hok.fresh (Nat.le_refl _))
  · cases e1
end Dn
namespace Dn
open PySem PySem.W PySem.Spec PyProof.Rows L2 C8
abbrev MXx := Env → Option ((Sl ⊕ Xn) × Env)
def rdX (X : Cx) (W : Wt) (Wx : WX) (fx : MXx) : TE := fun σ H Q => ∃ ρ r ρ', RepS (wdX X) W σ H ρ ∧ fx ρ = some (r, ρ') ∧ (match r with
  | .inl s => ∀ v H', RepS (wdX X) W σ H' ρ' → NewS (wdX X) W σ ρ' H' v s → Grow H H' → Q v H'
  | .inr xn => ∀ c d H', RepS (wdX X) W σ H' ρ' → Grow H H' → XnOk X H' xn c d → Wx c d σ H')
structure SEx (X : Cx) (e : Expr) (fx : MXx) : Prop where
  pe : ∀ W Wx, L2N.Takes X Wx → PE X e (rdX X W Wx fx)
def xS1 (f : M Sl) : MXx := fun ρ => (f ρ).map fun p => (.inl p.1, p.2)
def xIfE (c : M Bool) (f g : MXx) : MXx := fun ρ => match c ρ with
  | some (true, ρ1) => f ρ1
  | some (false, ρ1) => g ρ1
  | none => none
def xSet (i : Nat) (f : MXx) : MX := fun ρ => match f ρ with
  | some (.inl s, ρ1) => (match setSl i s ρ1 with
    | some ρ2 => some (.inl (.nx ρ2))
    | none => none)
  | some (.inr xn, ρ1) => some (.inr (xn, ρ1))
  | none => none
section
variable {X : Cx} {e a b c : Expr} {es : List Expr} {f g fx : MXx} {k j n : Nat} {x : Str} {fd : FX} {fr : M (List PyData)} {p pos : Pos}
theorem sex_of {f : M Sl} (h : SE X e f) : SEx X e (xS1 f) := ⟨fun W Wx _ => (h.pe W).imp fun σ H Q ⟨ρ, r, ρ', R, e1, q⟩ => by
  obtain ⟨⟨s, ρ1⟩, e2, e3⟩ := Option.map_eq_some_iff.mp e1
  cases e3
  exact ⟨ρ, s, _, R, e2, q⟩⟩
theorem sex_if {tc : M Bool} (hc : DT X c tc) (ha : SEx X a f) (hb : SEx X b g) : SEx X (.IfExp c a b pos) (xIfE tc f g) := by
  refine ⟨fun W Wx tk => (pe_ifExp (hc.pt W) (ha.pe W Wx tk) (hb.pe W Wx tk)).imp fun σ H Q ⟨ρ, r, ρ', R, e1, q⟩ => ?_⟩
  have lift : ∀ (H1 : Hp) (ρ1 : Env) (fx : MXx), RepS (wdX X) W σ H1 ρ1 → Grow H H1 → fx ρ1 = some (r, ρ') → rdX X W Wx fx σ H1 Q := fun H1 ρ1 fx R1 g1 e2 => by
    refine ⟨ρ1, r, ρ', R1, e2, ?_⟩
    cases r with
    | inl s => exact fun v H' R' nn g' => q v H' R' nn (g1.trans g')
    | inr xn => exact fun c d H' R' g' z => q c d H' R' (g1.trans g') z
  unfold xIfE at e1
  split at e1
  · rename_i ρ1 e2
    exact ⟨ρ, true, ρ1, R, e2, fun H' R' g' => iteT (lift _ _ _ R' g' e1)⟩
  · rename_i ρ1 e2
    exact ⟨ρ, false, ρ1, R, e2, fun H' R' g' => iteF (lift _ _ _ R' g' e1)⟩
  · cases e1
theorem sex_call (c : XF X.prog X.w X.K X.mg X.base k x n fd) (hr : Room j X.A) (hk : k ≤ j) (ha : DAn X (e :: es) fr) (hn : (e :: es).length = n := by rfl) (hg : Gl X x := by rfl)
    (hdb : (x == ("__debug__" : Str)) = false := by decide) (he : starEach (e :: es) X.env = (false, eval e X.env) :: starEach es X.env := by rfl) (hpl : (backTo pos (starEach es X.env)).any (·.1) = false := by rfl) : SEx X (.Call (.Name x p) (e :: es) [] pos) (xCall fd fr) := by
  obtain ⟨fa, fd, ps, F, hm, kp, hb⟩ := c.ex
  refine ⟨fun W Wx tk => (pe_callS (E := fun σ => WE Wx σ) F (hr.mono hk) hg hm kp hb (fun σ => L2N.passAt tk σ) (ha.pa W) hdb he hpl).imp fun σ H Q ⟨ρ, r, ρ', R, e0, q⟩ => ?_⟩
  unfold xCall at e0
  cases e1 : fr ρ with
  | none => rw [e1] at e0; cases e0
  | some z =>
    obtain ⟨ds, ρ1⟩ := z
    rw [e1] at e0
    obtain ⟨r', e2, e3⟩ := Option.map_eq_some_iff.mp e0
    cases e3
    refine ⟨ρ, ds, ρ', R, e1, fun vs H1 R1 D1 g1 => ⟨ds, r, by simpa using D1, by rw [ha.num _ _ _ e1]; exact hn, e2, ?_⟩⟩
    cases r with
    | inl s => exact fun v H2 sm rr => q v H2 (R1.same sm) (ResS.new R1 (R1.same sm) (fun i h => h) rr) (g1.trans (.same sm))
    | inr xn => exact fun c d H2 sm z => q c d H2 (R1.same sm) (g1.trans (.same sm)) z
theorem dsx_set (i : Nat) {y : Str} {pos' : Pos} (hN : X.N.Nodup) (he : SEx X e fx) (hi : X.N[i]? = some y := by rfl) (hx : L2.Loc X.env.scope y := by first | exact .inl rfl | exact .inr rfl)
    (hs : swapsWith e (some (.Name y pos')) pos.line X.env = pure false := by rfl) (hf : X.fn y = true ∨ X.env.scope.names.lookup y = some .local := by first | exact .inl rfl | exact .inr rfl) : DSx X (.Assign [.Name y pos'] e pos) (xSet i fx) := by
  refine ⟨fun W Wx tk => (ps_set hN hi hx (he.pe W Wx tk) hs hf).imp fun D σ H ⟨ρ, o, R, e1, q⟩ => ?_⟩
  unfold xSet at e1
  split at e1
  · rename_i s ρ1 e2
    split at e1
    · rename_i ρ2 e3
      cases e1
      exact ⟨ρ, .inl s, ρ1, R, e2, fun v H' R' nn g' => q _ H' (R'.set nn e3) g'⟩
    · cases e1
  · rename_i xn ρ1 e2
    cases e1
    exact ⟨ρ, .inr xn, ρ1, R, e2, fun c d H' R' g' z => q c d σ H' R' g' z⟩
  · cases e1
theorem dsx_retX (he : SEx X e fx) : DSx X (.Return (some e) pos) (xRet fx) := by
  refine ⟨fun W Wx tk => (ps_ret (he.pe W Wx tk)).imp fun D σ H ⟨ρ, o, R, e1, q⟩ => ?_⟩
  unfold xRet at e1
  split at e1
  · rename_i s ρ1 e2
    cases e1
    exact ⟨ρ, .inl s, ρ1, R, e2, fun v H' R' nn g' => q v σ H' R' nn g'⟩
  · rename_i xn ρ1 e2
    cases e1
    exact ⟨ρ, .inr xn, ρ1, R, e2, fun c d H' R' g' z => q c d σ H' R' g' z⟩
  · cases e1
theorem dsx_exprX (he : SEx X e fx) (hs : swapsWith e none pos.line X.env = pure false := by rfl) : DSx X (.Expr e pos) (xExpr fx) := by
  refine ⟨fun W Wx tk => (ps_expr (he.pe W Wx tk) hs).imp fun D σ H ⟨ρ, o, R, e1, q⟩ => ?_⟩
  unfold xExpr at e1
  split at e1
  · rename_i s ρ1 e2
    cases e1
    exact ⟨ρ, .inl s, ρ1, R, e2, fun v H' R' nn g' => q σ H' R' g'⟩
  · rename_i xn ρ1 e2
    cases e1
    exact ⟨ρ, .inr xn, ρ1, R, e2, fun c d H' R' g' z => q c d σ H' R' g' z⟩
  · cases e1
end
section
variable {Γ : Wd} {W : Wt} {σ : Sg} {H : Hp} {ρ : Env}
theorem RepS.exc {i : Nat} {a : Addr} {d : Option Addr} {fs : List (Str × PyData)} {ρ' : Env} (R : RepS Γ W σ H ρ) (hx : XdOk Γ H d fs) (h : setSl i (.exc a d fs) ρ = some ρ') : RepS Γ W (σ.set i (some (.ref a))) H ρ' := by
  obtain ⟨rfl, hz⟩ := setSl_eq h
  have off : ∀ j, mutS (ρ.set i (.exc a d fs))[j]? → i ≠ j := fun j hj e => by
    subst e
    by_cases hl : i < ρ.length
    · rw [List.getElem?_set_self hl] at hj; exact hj
    · rw [List.getElem?_eq_none (by simpa using hl)] at hj; exact hj
  refine ⟨by simpa using R.len, R.keep, fun j t e => ?_, fun j k b hjk hj hk => ?_, fun b hb => ?_⟩
  · by_cases hi : i = j
    · subst hi
      have hl : i < ρ.length := by
        have := (List.getElem?_eq_some_iff.mp e).1
        simpa using this
      rw [List.getElem?_set_self hl] at e; cases e
      rw [List.getElem?_set_self (by rw [← R.len]; exact hl)]
      exact ⟨rfl, hx⟩
    · rw [List.getElem?_set_ne hi] at e ⊢
      exact R.at_ j t e
  · have nj := off j hj
    have nk := off k hk
    rw [List.getElem?_set_ne nj] at hj ⊢
    rw [List.getElem?_set_ne nk] at hk ⊢
    exact R.sep j k b hjk hj hk
  · obtain ⟨h1, ds, h2⟩ := R.anc b hb
    have hi : i ≠ 0 := fun z => hz z ds h2
    rw [List.getElem?_set_ne hi, List.getElem?_set_ne hi]
    exact ⟨h1, ds, h2⟩
end
theorem dict_at {X : Cx} {pins : List (Addr × Obj)} {σ : Sg} {H : Hp} {s : Shared} {d : Option Addr} {fs : List (Str × PyData)} (I : L2.Inv X pins σ H s) (hx : XdOk (wdX X) H d fs) {a C : Addr} {oe : Obj} (hz : Zc (.ref C) d oe) (hf : ∃ vs, oe.data = .fields vs) (ha : s.heap.get? a = some oe) :
    ∃ od, PySem.W.InstAt s.heap a oe C od ∧ ∀ dd, d = some dd → ∀ vs, H dd = some (.xd vs) → ∃ (o : Obj) (mA : Str → Option Value), od = some o ∧ (∀ n, lookIn n o = some (mA n)) ∧ ∀ n, RelO (vs.lookup n) (mA n) := by
  obtain ⟨vs0, hv⟩ := hf
  have no : PySem.W.notCls oe = true := by unfold PySem.W.notCls; rw [hv] <;> rfl
  rcases hx with ⟨rfl, rfl⟩ | ⟨dd, vs, rfl, h1, h2⟩
  · exact ⟨none, ⟨ha, hz.1, no, by rw [hz.2]; trivial⟩, fun dd e => by cases e⟩
  · have hx : ObjOk X.prog X.w H s.heap dd (.xd vs) := I.hok dd _ h1
    obtain ⟨mA, hns, hr⟩ := hx
    obtain ⟨od, ho, hl⟩ := lookIn_ns hns
    refine ⟨some od, ⟨ha, hz.1, no, by rw [hz.2]; exact ho⟩, fun d' e vs' e' => ?_⟩
    cases e
    rw [h1] at e'; cases e'
    exact ⟨od, mA, rfl, hl, hr⟩
/-- e.f of the exception -/
def eExF (i : Nat) (a : Addr) (d : Option Addr) (fld : Str) : M PyData := fun ρ => match ρ[i]? with
  | some (.exc a' d' fs) => if a' = a ∧ d' = d then (fs.lookup fld).map fun x => (x, ρ) else none
  | _ => none
/-- isinstance(e, C): known -/
def eExI (i : Nat) (a : Addr) (d : Option Addr) (b : Bool) : M PyData := fun ρ => match ρ[i]? with
  | some (.exc a' d' _) => if a' = a ∧ d' = d then some (.bool b, ρ) else none
  | _ => none
structure EcC (K : PySem.W.Frag) (C : Addr) : Prop where
  cl : (PySem.W.clsIn K C).isSome = true
  ga : PySem.W.findIn K (.ref C) "__getattribute__" = some (some (.builtin "BaseException.__getattribute__"))
  gg : PySem.W.findIn K (.ref C) "__getattr__" = some none
  sb : PySem.W.subIn K (.ref C) (.type "BaseException") = some true
  hd : PySem.W.hasDictIn K C = true
  cc : PySem.W.findIn K (.ref C) "__class__" = some (some (.builtin "object.__class__"))
  sp : PySem.W.specialIn K (.builtin "object.__class__") "__get__" = some (some (.builtin "getset_descriptor.__get__"))
  tk : PySem.W.takesIn K (.builtin "object.__class__") = some true
  mo : PySem.W.mroIn K C (.type "object") = some true
def ecB (K : PySem.W.Frag) (C : Addr) : Bool := (PySem.W.clsIn K C).isSome && decide (PySem.W.findIn K (.ref C) "__getattribute__" = some (some (.builtin "BaseException.__getattribute__"))) && decide (PySem.W.findIn K (.ref C) "__getattr__" = some none) &&
  decide (PySem.W.subIn K (.ref C) (.type "BaseException") = some true) && PySem.W.hasDictIn K C && decide (PySem.W.findIn K (.ref C) "__class__" = some (some (.builtin "object.__class__"))) &&
  decide (PySem.W.specialIn K (.builtin "object.__class__") "__get__" = some (some (.builtin "getset_descriptor.__get__"))) && decide (PySem.W.takesIn K (.builtin "object.__class__") = some true) && decide (PySem.W.mroIn K C (.type "object") = some true)
theorem ecB_ok {K : PySem.W.Frag} {C : Addr} (h : ecB K C = true) : EcC K C := by
  unfold ecB at h
  simp only [Bool.and_eq_true, decide_eq_true_eq] at h
  obtain ⟨⟨⟨⟨⟨⟨⟨⟨h1, h2⟩, h3⟩, h4⟩, h5⟩, h6⟩, h7⟩, h8⟩, h9⟩ := h
  exact ⟨h1, h2, h3, h4, h5, h6, h7, h8, h9⟩
section
variable {X : Cx} {a C : Addr} {oe : Obj} {d : Option Addr} {n fld : Str} {q pos : Pos}
theorem de_exF (i : Nat) (T : EcC X.K C) (hno : PySem.W.findIn X.K (.ref C) fld = some none) (hz : Zc (.ref C) d oe) (hf : ∃ vs, oe.data = .fields vs) (hp : (a, oe) ∈ X.pn) (hN : X.N[i]? = some n := by rfl) (hv : Vis X.env.scope n := by first | exact Or.inl rfl | exact Or.inr (Or.inl rfl) | exact Or.inr (Or.inr rfl))
    (hd : (n == ("__debug__" : Str)) = false := by decide) (hcd : (n == ("__classdict__" : Str)) = false := by decide) (hb : attributeBase (.Name n q) fld X.env (eval (.Name n q) X.env) = eval (.Name n q) X.env := by rfl) : DE X (.Attribute (.Name n q) fld pos) (eExF i a d fld) := by
  refine ⟨fun W => ⟨fun pins s σ H Q I ⟨ρ, x, ρ', R, e, k⟩ => ?_⟩⟩
  unfold eExF at e
  split at e
  · rename_i a' d' fs es
    split at e
    · rename_i hh
      obtain ⟨rfl, rfl⟩ := hh
      obtain ⟨x', el, e'⟩ := Option.map_eq_some_iff.mp e
      cases e'
      obtain ⟨eσ, hx⟩ := R.at_ i _ es
      refine attr_of hb (thn ((pe_var (i := i) (pos := q) hN hv hd hcd).run pins s σ H (fun v H' => v = .ref a' ∧ H' = H) I ⟨.ref a', eσ, rfl, rfl⟩) fun u s1 ⟨y, H1, I1, ry, ey, eH⟩ => ?_)
      subst ey eH
      obtain rfl : u = Value.ref a' := ry
      have ha := (I1.pin (a', oe) (List.mem_append_left _ hp)).1
      obtain ⟨od, J, look⟩ := dict_at I1 hx hz hf ha
      rcases hx with ⟨_, rfl⟩ | ⟨dd, vs, rfl, h1, h2⟩
      · cases el
      · obtain ⟨o, mA, rfl, hl, hr⟩ := look dd rfl vs h1
        obtain ⟨v, ev, dv⟩ := h2.look el
        obtain ⟨u, hu, ru⟩ := RelO.some_of (v := v) (o := mA fld) (by rw [← ev]; exact hr fld)
        exact PySem.HandSPX.exc_get I1.kIn J T.ga T.gg T.sb (PySem.W.findObj_own T.hd hno rfl (by rw [hl, hu])) (handed_of ru) ⟨v, H1, I1.tok _, ru, k v H1 R dv (.refl _)⟩
    · cases e
  · cases e
theorem de_exI (i : Nat) {T : Str} {cv : Value} {t : V} {b : Bool} {q2 pf : Pos} (Tc : EcC X.K C) (hk : PySem.W.kitOne X.K (.ref C) cv = some b) (hz : Zc (.ref C) d oe) (hf : ∃ vs, oe.data = .fields vs) (hp : (a, oe) ∈ X.pn)
    (hT : PE X (.Name T q2) (tC t)) (ht : ∀ u, RelV t u → u = cv) (hg : Gl X "isinstance") (hm : X.mg "isinstance" = none) (hN : X.N[i]? = some n := by rfl) (hv : Vis X.env.scope n := by first | exact Or.inl rfl | exact Or.inr (Or.inl rfl) | exact Or.inr (Or.inr rfl))
    (hd : (n == ("__debug__" : Str)) = false := by decide) (hcd : (n == ("__classdict__" : Str)) = false := by decide)
    (he1 : starEach [.Name n q, .Name T q2] X.env = (false, eval (.Name n q) X.env) :: starEach [.Name T q2] X.env := by rfl) (he2 : starEach [.Name T q2] X.env = (false, eval (.Name T q2) X.env) :: starEach [] X.env := by rfl) (hpl : (backTo pos (starEach [.Name T q2] X.env)).any (·.1) = false := by rfl) :
    DE X (.Call (.Name "isinstance" pf) [.Name n q, .Name T q2] [] pos) (eExI i a d b) := by
  have cr : CallR X (.builtin "isinstance") (fun xs H Q => ∃ fs, xs = [.ref a, t] ∧ XdOk (wdX X) H d fs ∧ Q (.bl b) H) := by
    intro pins s σ H xs us Q I r ⟨fs, e, hx, qq⟩
    subst e
    cases r with
    | @cons _ u1 _ _ rx rr =>
    cases rr with
    | @cons _ u2 _ _ rt rr =>
    cases rr
    obtain rfl : u1 = Value.ref a := rx
    obtain rfl := ht u2 rt
    have ha := (I.pin (a, oe) (List.mem_append_left _ hp)).1
    obtain ⟨od, J, _⟩ := dict_at I hx hz hf ha
    exact PySem.W.kia_one (PySem.W.kitx_exc Tc.cl Tc.ga Tc.gg Tc.sb Tc.cc Tc.sp Tc.tk Tc.mo) I.kIn J hk (fun z => nomatch z) fun tk => ⟨.bl b, H, I.kept (t' := tk) fun _ _ z => z, rfl, qq⟩
  refine ⟨fun W => (pe_callB cr hg hm (by decide +kernel) (pa_cons (pe_var (i := i) hN hv hd hcd) (pa_cons hT pa_nil he2) he1) (by decide) (by decide) he1 hpl).imp fun σ H Q ⟨ρ, x, ρ', R, e, k⟩ => ?_⟩
  unfold eExI at e
  split at e
  · rename_i a' d' fs es
    split at e
    · rename_i hh
      obtain ⟨rfl, rfl⟩ := hh
      cases e
      obtain ⟨eσ, hx⟩ := R.at_ i _ es
      exact ⟨.ref a', eσ, fs, rfl, hx, k _ H R (.bl b) (.refl H)⟩
    · cases e
  · cases e
end
end Dn
namespace Dn
open PySem PySem.W PySem.Spec PyProof.Rows L2 C8
theorem takesN0 {X : Cx} : L2N.Takes X (fun _ _ _ _ => False) := fun u s' x => by
  obtain ⟨_, _, _, _, _, _, _, _, _, _, _, _, _, _, _, _, z⟩ := x
  exact z.elim
def sTry (okc : Str → Bool) (gb : MX) (hr : Xn → Env → Option (PyData × Env)) : MS := fun ρ => match gb ρ with
  | some (.inl o) => some o
  | some (.inr (xn, ρ1)) => if okc xn.cls = true then (match hr xn ρ1 with
    | some (d, ρo) => some (.rt (.dat d) ρo)
    | none => none) else none
  | none => none
section
variable {X : Cx} {x n : Str} {c : Value} {body suite : List Stmt} {b₀ : Stmt} {np pos pos' : Pos} {gb : MX} {hr : Xn → Env → Option (PyData × Env)} {h : Xn → Addr → Option Addr → MS} {okc : Str → Bool}
theorem ds_try (i : Nat) (hN : X.N.Nodup) (hc : Names X x c) (hok : ∀ nm C, okc nm = true → X.mg nm = some (.ref C) → PySem.W.exmOne X.K (.ref C) c = some true)
    (hb : ∀ pn xe, DSsx (X.tr pn xe) body gb)
    (hsu : ∀ (xn : Xn) (C a : Addr) (oe : Obj) (d : Option Addr) (pn : List (Addr × Obj)), okc xn.cls = true → X.mg xn.cls = some (.ref C) → L2N.Zn (.ref C) d oe → (∃ vs, oe.data = .fields vs) → DSs (X.suite a ((a, oe) :: pn)) (b₀ :: suite) (h xn a d))
    (hpar : ∀ xn ρ1 y ρo, hr xn ρ1 = some (y, ρo) → ∀ a d, ∃ ρu ρ', setSl i (.exc a d xn.fs) ρ1 = some ρu ∧ h xn a d ρu = some (.rt (.dat y) ρ') ∧ setSl i .un ρ' = some ρo)
    (hs : X.stack = X.env :: X.outer := by rfl) (hf : X.env.frame = some X.env.locals := by rfl) (hi : X.N[i]? = some n := by rfl) (hln : X.env.kindOf n = some .local := by rfl) :
    DS X (.Try body [.ExceptHandler (some (.Name x np)) (some n) (b₀ :: suite) pos'] [] [] pos) (sTry okc gb hr) := by
  refine ⟨fun W => (L2N.ps_try_as (i := i) (tb := fun Wx => rdSx X W Wx gb) (ts := fun a cls d D σ H => ∃ xn C, okc xn.cls = true ∧ X.mg xn.cls = some (.ref C) ∧ cls = .ref C ∧ rdSt (wdX X) W (h xn a d) D σ H) (Wout := fun _ _ _ _ => False) hs hf hN hi hln hc takesN0
    (fun W' pn xe tk _ => (hb pn xe).ps W W' tk) (fun a oe cls d pn hz hd => ⟨fun pins s σ H D I ⟨xn, C, ok, hm, ec, q⟩ => ?_⟩)).imp fun D σ H ⟨ρ, o, R, e, q⟩ => ?_⟩
  · subst ec
    exact ((hsu xn C a oe d pn ok hm hz hd).ps W).run pins s σ H D I q
  · unfold sTry at e
    split at e
    · rename_i o' eg
      cases e
      exact ⟨ρ, .inl o, R, eg, q⟩
    · rename_i xn ρ1 eg
      split at e
      · rename_i ok
        split at e
        · rename_i y ρo er
          cases e
          refine ⟨ρ, .inr (xn, ρ1), R, eg, fun cv d σ' H' R' g' ⟨C, hm, ec, hx⟩ => ?_⟩
          subst ec
          refine ⟨true, hok _ _ ok hm, fun _ a na => ?_, fun z => by cases z⟩
          obtain ⟨ρu, ρ', hu, hh, ho⟩ := hpar xn ρ1 y ρo er a d
          exact ⟨xn, C, ok, hm, rfl, ρu, _, R'.exc hx hu, hh, fun v σ2 H2 R2 n2 g2 => q v (σ2.set i none) H2 (R2.un ho) n2 (g'.trans g2)⟩
        · cases e
      · cases e
    · cases e
end
structure FnE (P : Program) (w : World) (K : PySem.W.Frag) (mg : Str → Option Value) (base : Heap) (k : Nat) (f : Addr) (fd : FuncData) (ps : List Str) (sp : Addr × Obj → Sp) : Prop where
  len : ∀ p vs H Q E, sp p vs H Q E → vs.length = ps.length
  run : ∀ (A : Around) (outer : List PySem.Env) (s : Shared) (H : Hp) (args : Args) (us : List Value) (vs : List V) (Q : VK) (E : XK) (p : Addr × Obj), L2H.RoomH k A → L2H.Hot1 A p → L2H.PinOk outer H s p → Env0 P w K mg base A outer s H → BindsTo s fd args (ps.zip us) → Vals vs us → sp p vs H Q E →
    codeAny (model P w) A (.call (.ref f) args) (CR C8.CX0 outer P w H s Q E) s
theorem fnE_of {P : Program} {w : World} {K : PySem.W.Frag} {mg : Str → Option Value} {base : Heap} {x qual : Str} {params : Arguments} {body : List Stmt} {scope : Scope} {dvs : List V} {kws : List (Str × V)} {f : Addr} {fd : FuncData} {N ps : List Str} {k : Nat} {sp : Addr × Obj → Sp} (Fd : FunD K x qual params body scope dvs kws f fd) (S : FnScope N ps scope)
    (len : ∀ p vs H Q E, sp p vs H Q E → vs.length = ps.length)
    (hbody : ∀ (cdv : Value) (A : Around) (outer : List PySem.Env) (s : Shared) (H : Hp) (vs : List V) (Q : VK) (E : XK) (p : Addr × Obj), L2H.Hot1 A p → L2H.RoomH k (A.deeper (envOfC qual scope s.heap.objs.size f cdv)) → sp p vs H Q E →
      ∃ t, PSs (L2H.cxH C8.CX0 P w K mg base N qual scope f cdv A outer s H E p) body t ∧ t { nx := fun _ H' => Q .non H', rt := Q } (L2.start N vs) H) : FnE P w K mg base (k + 1) f fd ps sp := by
  obtain ⟨oc, od, dV, kV, doc, pm, an, cdv, ct, osl, rfl, lk, hcd, _, _⟩ := Fd.ex
  refine ⟨len, fun A outer s H args us vs Q E p room hot pinned env0 binds rel promise => ?_⟩
  have there : K.In s.heap := env0.mod.kin.keeps fun b o e => (env0.bs b o e).1
  refine codeAny_call_function room.depth (there _ _ lk) rfl S.co S.gen rfl (PySem.W.codeRec_of there hcd) (binds _ _ _ _ ?_)
  refine wpAny_newFunctionEnv_cells S.kind (fun ⟨y, v⟩ hy => (S.par y (List.of_mem_zip hy).1).elim .inl fun q => .inr ⟨q, PySem.W.cellsFrom_some _ _ _ (.inl q)⟩) fun env he s1 inc => ?_
  subst he
  refine ⟨(env0.mod.nolimit.keeps fun b o e => (env0.bs b o e).1).keeps inc.toInCall.keep, codeAny_func ?_⟩
  obtain ⟨t, walk, goal⟩ := hbody cdv A outer s H vs Q E p hot (room.deeper _) promise
  have I0 := L2H.inv_startH (CX := C8.CX0) (qual := qual) (f := f) (cd := cdv) (E := E) S pinned env0 (len _ _ _ _ _ promise) rel inc
  refine wpAny_mono (walk.run [] s1 (L2.start N vs) H _ I0 goal) (fun fl s' out => ?_) fun e s' out => out
  cases fl with
  | ret u =>
    obtain ⟨v, σ', H', J, rv, q⟩ := out
    exact ⟨v, H', J.os, J.bare, J.base, J.hok, rv, q⟩
  | next =>
    obtain ⟨σ', H', J, q⟩ := out
    exact ⟨.non, H', J.os, J.bare, J.base, J.hok, rfl, q⟩
  | brk => exact out.elim fun _ ⟨_, _, z⟩ => z.elim
  | cont => exact out.elim fun _ ⟨_, _, z⟩ => z.elim
theorem run_fnE {X : Cx} {k : Nat} {f : Addr} {fd : FuncData} {ps : List Str} {sp : Addr × Obj → Sp} {E : XK} {p : Addr × Obj} {pins : List (Addr × Obj)} {σ : Sg} {H : Hp} {s : Shared} {Q : VK} {us : List Value} {vs : List V} (Fe : FnE X.prog X.w X.K X.mg X.base k f fd ps sp) (room : L2H.RoomH k X.A) (hot : L2H.Hot1 X.A p) (hp : p ∈ X.pn) (hb : L2.Binds X.K fd ps [])
    (I : L2.Inv X pins σ H s) (r : Vals vs us) (h : sp p vs H Q E) : wpAny (model X.prog X.w) X.A (call (.ref f) us) (EP X pins σ Q) X.xe s := by
  have hl : us.length = ps.length := by rw [← r.length]; exact Fe.len _ _ _ _ _ h
  have bound := hb s us I.kIn (by rw [List.append_nil]; exact hl)
  rw [List.append_nil] at bound
  have at_ := I.pin p (List.mem_append_left _ hp)
  refine wpAny_call (codeAny_mono (Fe.run X.A X.stack s H ⟨us, []⟩ us vs Q E p room hot ⟨at_.1, at_.2.1, fun hm => (List.mem_cons.mp (I.stkSub p.1 hm)).elim at_.2.2.1 at_.2.2.2.1, at_.2.2.2.2⟩ I.env0 bound r h) fun r s' out => ?_)
  cases r with
  | error er => exact (C8.pass0 (E := E)) pins σ H s er s' I out
  | ok fl =>
    cases fl with
    | ret u => exact I.after out
    | next => exact out.elim
    | brk => exact out.elim
    | cont => exact out.elim
abbrev FE := Xn → List PyData → Option PyData
def spE (Γ : Wd) (mg : Str → Option Value) (okc : Str → Bool) (n : Nat) (f : FE) : Addr × Obj → Sp := fun p vs H Q _ => ∃ xn C d vs' ds y, vs = .ref p.1 :: vs' ∧ okc xn.cls = true ∧ mg xn.cls = some (.ref C) ∧ L2N.Zn (.ref C) d p.2 ∧ (∃ vs, p.2.data = .fields vs) ∧ XdOk Γ H d xn.fs ∧ DfA Γ H vs' ds ∧ ds.length = n ∧ f xn ds = some y ∧ ∀ v H', Same H H' → Df Γ H' v y → Q v H'
structure EF (P : Program) (w : World) (K : PySem.W.Frag) (mg : Str → Option Value) (base : Heap) (okc : Str → Bool) (k : Nat) (x : Str) (n : Nat) (f : FE) : Prop where
  ex : ∃ (fa : Addr) (fd : FuncData) (ps : List Str), FnE P w K mg base k fa fd ps (spE ⟨P, w, K⟩ mg okc n f) ∧ mg x = some (.ref fa) ∧ PySem.W.keepIn K (.ref fa) = true ∧ L2.Binds K fd ps []
abbrev EX (P : Program) (w : World) (K : PySem.W.Frag) (mg : Str → Option Value) (base : Heap) (N : List Str) (x : Str) (sc : Scope) (f : Addr) (cdv : Value) (A : Around) (outer : List PySem.Env) (s : Shared) (H : Hp) (E : XK) (p : Addr × Obj) : Cx := L2H.cxH C8.CX0 P w K mg base N x sc f cdv A outer s H E p
theorem cal_E {P : Program} {w : World} {K : PySem.W.Frag} {mg : Str → Option Value} {base : Heap} {x : Str} {params : Arguments} {body : List Stmt} {scope : Scope} {f : Addr} {fd : FuncData} {N ps : List Str} {okc : Str → Bool} {k m : Nat} {g : Xn → Addr → Option Addr → MS} {fe : FE} (Fd : FunD K x x params body scope [] [] f fd) (hm : mg x = some (.ref f)) (S : FnScope N ps scope) (n : Nat) (hn : ps.length = n + 1) (hN : ps.length + m = N.length)
    (hb : ∀ (kV doc pm : Value) (an : Option Addr) (cdv ct : Value) (us : List Value), us.length = ps.length → bindArgs (PySem.W.fnOf x x params body scope .none kV doc pm an cdv ct) ⟨us, []⟩ = pure (ps.zip us))
    (h : ∀ cdv A outer s H E a oe xn C d, L2H.Hot1 A (a, oe) → L2H.RoomH k (EX P w K mg base N x scope f cdv A outer s H E (a, oe)).A → okc xn.cls = true → mg xn.cls = some (.ref C) → L2N.Zn (.ref C) d oe → (∃ vs, oe.data = .fields vs) → DSs (EX P w K mg base N x scope f cdv A outer s H E (a, oe)) body (g xn a d))
    (hpar : ∀ xn ds y, fe xn ds = some y → ∀ a d, ∃ ρ', g xn a d (.exc a d xn.fs :: ds.map .dat ++ uns m) = some (.rt (.dat y) ρ')) : EF P w K mg base okc (k + 1) x n fe := by
  refine ⟨f, fd, ps, fnE_of Fd S (fun p vs H Q E ⟨xn, C, d, vs', ds, y, e, _, _, _, _, _, hd, hl, _⟩ => by rw [e, List.length_cons, hd.length]; omega)
    (fun cdv A outer s H vs Q E p hot hr ⟨xn, C, d, vs', ds, y, e, ok, hmC, hz, hf, hx, hd, hl, ef, q⟩ => ?_), hm, Fd.kp, Fd.bindsN hb⟩
  obtain ⟨a, oe⟩ := p
  subst e
  refine ⟨_, (h cdv A outer s H E a oe xn C d hot hr ok hmC hz hf).ps { bo := H }, ?_⟩
  obtain ⟨ρ', eg⟩ := hpar xn ds y ef a d
  have hlv := hd.length
  refine ⟨.exc a d xn.fs :: ds.map .dat ++ uns m, .rt (.dat y) ρ', ⟨?_, fun b o e => ?_, fun i t e => ?_, fun i j b hij hi hj => ?_, fun b e => by cases e⟩, eg, fun v σ' H' R' n' g' => q v H' (fun b o e => R'.keep b o (by rw [kp_bo]; exact e)) n'⟩
  · rw [start_len (by simp; omega)]; simp [uns]; omega
  · rw [kp_bo] at e; exact e
  · cases i with
    | zero => cases e; exact ⟨start_get rfl, hx⟩
    | succ i =>
      have e2 : (ds.map Sl.dat ++ uns m)[i]? = some t := by simpa using e
      rcases env_get e2 with ⟨d', hd', rfl⟩ | rfl
      · obtain ⟨v, hv, dv⟩ := hd.get hd'
        exact ⟨v, start_get (by simpa using hv), dv⟩
      · trivial
  · cases i with
    | zero => exact hi.elim
    | succ i => exact absurd (show mutS (ds.map Sl.dat ++ uns m)[i]? by simpa using hi) env_nomut
def mCallE (i : Nat) (xn : Xn) (a : Addr) (d : Option Addr) (f : FE) (fr : M (List PyData)) : M PyData := fun ρ => match ρ[i]? with
  | some (.exc a' d' fs) => if a' = a ∧ d' = d then (match fr ρ with
    | some (ds, ρ1) => (match ρ1[i]? with
      | some (.exc a2 d2 fs2) => if a2 = a ∧ d2 = d then (f ⟨xn.cls, fs2⟩ ds).map fun y => (y, ρ1) else none
      | _ => none)
    | none => none) else none
  | _ => none
theorem de_callE (i : Nat) {X : Cx} {okc : Str → Bool} {k j n : Nat} {x y : Str} {f : FE} {es : List Expr} {fr : M (List PyData)} {py p pos : Pos} {xn : Xn} {C a : Addr} {oe : Obj} {d : Option Addr} (c : EF X.prog X.w X.K X.mg X.base okc k x n f) (room : L2H.RoomH j X.A) (hk : k ≤ j) (hot : L2H.Hot1 X.A (a, oe)) (hp : (a, oe) ∈ X.pn)
    (ok : okc xn.cls = true) (hmC : X.mg xn.cls = some (.ref C)) (hz : L2N.Zn (.ref C) d oe) (hf : ∃ vs, oe.data = .fields vs) (ha : DAn X es fr) (hn : es.length = n := by rfl) (hg : Gl X x := by rfl)
    (hN : X.N[i]? = some y := by rfl) (hv : Vis X.env.scope y := by first | exact Or.inl rfl | exact Or.inr (Or.inl rfl) | exact Or.inr (Or.inr rfl)) (hd : (y == ("__debug__" : Str)) = false := by decide) (hcd : (y == ("__classdict__" : Str)) = false := by decide)
    (hdb : (x == ("__debug__" : Str)) = false := by decide) (he : starEach (.Name y py :: es) X.env = (false, eval (.Name y py) X.env) :: starEach es X.env := by rfl) (hpl : (backTo pos (starEach es X.env)).any (·.1) = false := by rfl) : DE X (.Call (.Name x p) (.Name y py :: es) [] pos) (mCallE i xn a d f fr) := by
  obtain ⟨fa, fd, ps, Fe, hm, kp, hb⟩ := c.ex
  refine ⟨fun W => ⟨fun pins s σ H Q I ⟨ρ, z, ρ', R, e, q⟩ => ?_⟩⟩
  unfold mCallE at e
  split at e
  · rename_i a' d' fs es0
    split at e
    · rename_i hh
      obtain ⟨rfl, rfl⟩ := hh
      split at e
      · rename_i ds ρ1 e1
        split at e
        · rename_i a2 d2 fs2 es2
          split at e
          · rename_i hh
            obtain ⟨rfl, rfl⟩ := hh
            obtain ⟨y', ef, ee⟩ := Option.map_eq_some_iff.mp e
            cases ee
            have at0 := (R.at_ i _ es0).1
            refine wpAny_Call_Name_kw (ld_glob I hg hm ?_ hdb)
            refine PySem.W.callWith_K (h₀ := X.base) I.ok.mod.kin kp (thn ((pa_cons (pe_var (i := i) hN hv hd hcd) (ha.pa W) he).run pos pins s σ H (fun vs H1 => ∃ vs', vs = .ref a2 :: vs' ∧ RepS (wdX X) W σ H1 ρ' ∧ DfA (wdX X) H1 vs' ds ∧ Grow H H1) I
              ⟨.ref a2, at0, ρ, ds, ρ', R, e1, fun vs H1 R1 D1 g1 => ⟨vs, rfl, R1, D1, g1⟩⟩) fun us s1 ⟨vs, H1, I1, r, vs', ev, R1, D1, g1⟩ => ⟨I1.kIn, ?_⟩) he hpl
            subst ev
            refine run_fnE (E := fun _ _ _ => False) (vs := .ref a2 :: vs') Fe ⟨by have := room.dp; omega, by have := room.un; omega⟩ hot hp hb I1 r ?_
            exact ⟨⟨xn.cls, fs2⟩, C, d2, vs', ds, z, rfl, ok, hmC, hz, hf, (R1.at_ i _ es2).2, D1, by rw [ha.num _ _ _ e1]; exact hn, ef, fun v H2 sm dv => q v H2 (R1.same sm) dv (g1.trans (.same sm))⟩
          · cases e
        · cases e
      · cases e
    · cases e
  · cases e
end Dn
namespace Dn
open PySem PySem.W PySem.Spec PyProof.Rows L2 C8
def At1 (H : Hp) (a C : Addr) (f : Str) (v : V) : Prop := ∃ dx, H a = some (.ins C dx [(f, v)])
def But (a : Addr) (H H' : Hp) : Prop := ∀ b o, b ≠ a → H b = some o → H' b = some o
def isOb : Sl → Bool
  | .obj _ _ _ => true
  | .sel _ _ _ => true
  | .con _ _ _ _ _ => true
  | _ => false
def sole (i : Nat) (ρ : Env) : Bool := (ρ.set i .un).all fun s => !isOb s
def obD (C : Addr) (f : Str) : Sl → Option PyData
  | .obj C' f' d => if C' = C ∧ f' = f then some d else none
  | .sel C' f' d => if C' = C ∧ f' = f then some d else none
  | .con _ C' _ f' d => if C' = C ∧ f' = f then some d else none
  | _ => none
def obA (W : Wt) (o : Option (Option V)) : Sl → Option Addr
  | .obj _ _ _ => (match o with
    | some (some (.ref a)) => some a
    | _ => none)
  | .sel _ _ _ => (match o with
    | some (some (.ref a)) => some a
    | _ => none)
  | .con _ _ _ _ _ => W.sc
  | _ => none
def obSet (s : Sl) (d : PyData) : Sl := match s with
  | .obj C f _ => .obj C f d
  | .sel C f _ => .sel C f d
  | .con C D x f _ => .con C D x f d
  | s => s
theorem But.grow {a : Addr} {H H' : Hp} (h : But a H H') {C dx : Addr} {fs : List (Str × V)} (e : H a = some (.ins C dx fs)) : Grow H H' := .but1 (by rw [e]; trivial) h
section
variable {Γ : Wd} {W : Wt} {σ : Sg} {H H' : Hp} {ρ : Env}
theorem ob_at {o : Option (Option V)} {s : Sl} {C : Addr} {f : Str} {d : PyData} (h : SlOk Γ W H o s) (e : obD C f s = some d) : ∃ a v, obA W o s = some a ∧ W.kp a = none ∧ At1 H a C f v ∧ Df Γ H v d := by
  cases s <;> simp only [obD, reduceCtorEq] at e
  · split at e
    · rename_i hh
      obtain ⟨rfl, rfl⟩ := hh
      cases e
      obtain ⟨a, dx, v, eo, w, h1, h2⟩ := h
      subst eo
      exact ⟨a, v, rfl, w, ⟨dx, h1⟩, h2⟩
    · cases e
  · split at e
    · rename_i hh
      obtain ⟨rfl, rfl⟩ := hh
      cases e
      obtain ⟨a, dx, v, ef, eo, w, h1, h2⟩ := h
      subst eo
      exact ⟨_, v, rfl, w, ⟨dx, h1⟩, h2⟩
    · cases e
  · split at e
    · rename_i hh
      obtain ⟨rfl, rfl⟩ := hh
      cases e
      obtain ⟨b, a, bx, dx, v, ef, es, eo, ne, w, h1, h2, h3⟩ := h
      exact ⟨a, v, es, w, ⟨dx, h2⟩, h3⟩
    · cases e
theorem ob_put {o : Option (Option V)} {s : Sl} {C a : Addr} {f : Str} {d d' : PyData} {v' : V} (h : SlOk Γ W H o s) (e : obD C f s = some d) (ea : obA W o s = some a) (k : But a H H') (h1 : At1 H' a C f v') (h2 : Df Γ H' v' d') : SlOk Γ W H' o (obSet s d') := by
  obtain ⟨dx', h1⟩ := h1
  cases s <;> simp only [obD, reduceCtorEq] at e
  · split at e
    · rename_i hh
      obtain ⟨rfl, rfl⟩ := hh
      cases e
      obtain ⟨a', dx, v, eo, w, h3, h4⟩ := h
      subst eo
      cases ea
      exact ⟨_, dx', v', rfl, w, h1, h2⟩
    · cases e
  · split at e
    · rename_i hh
      obtain ⟨rfl, rfl⟩ := hh
      cases e
      obtain ⟨a', dx, v, ef, eo, w, h3, h4⟩ := h
      subst eo
      cases ea
      exact ⟨_, dx', v', ef, rfl, w, h1, h2⟩
    · cases e
  · split at e
    · rename_i hh
      obtain ⟨rfl, rfl⟩ := hh
      cases e
      obtain ⟨b, a', bx, dx, v, ef, es, eo, ne, w, h3, h4, h5⟩ := h
      have ea' : W.sc = some a := ea
      rw [es] at ea'
      cases ea'
      refine ⟨b, _, bx, dx', v', ef, es, eo, ne, w, k _ _ (fun z => ?_) h3, h1, h2⟩
      subst z
      rw [h3] at h4
      cases h4
      exact ne rfl
    · cases e
theorem isOb_of {s : Sl} {C : Addr} {f : Str} {d : PyData} (e : obD C f s = some d) : isOb s = true := by cases s <;> simp only [obD, reduceCtorEq] at e <;> rfl
theorem isOb_set {s : Sl} {d : PyData} (e : isOb s = true) : isOb (obSet s d) = true := by cases s <;> first | rfl | exact e
theorem isOb_mut {s : Sl} (e : isOb s = true) : ¬ mutS (some s) := by cases s <;> first | (intro h; exact h) | cases e
/-- the object of slot i has changed -/
theorem RepS.ob_step {i : Nat} {s : Sl} {C a : Addr} {f : Str} {d d' : PyData} {v' : V} (R : RepS Γ W σ H ρ) (es : ρ[i]? = some s) (e : obD C f s = some d) (ea : obA W σ[i]? s = some a) (so : sole i ρ = true) (k : But a H H') (h1 : At1 H' a C f v') (h2 : Df Γ H' v' d') : RepS Γ W σ H' (ρ.set i (obSet s d')) := by
  obtain ⟨a2, v, ea2, hW, ⟨dx, hA⟩, hD⟩ := ob_at (R.at_ i s es) e
  rw [ea] at ea2; cases ea2
  have g : Grow H H' := k.grow hA
  have hi : i < ρ.length := (List.getElem?_eq_some_iff.mp es).1
  have mne : ∀ j, mutS (ρ.set i (obSet s d'))[j]? → mutS ρ[j]? := fun j hj => by
    by_cases hij : i = j
    · subst hij
      rw [List.getElem?_set_self hi] at hj
      exact absurd hj (isOb_mut (isOb_set (isOb_of e)))
    · rw [List.getElem?_set_ne hij] at hj; exact hj
  refine ⟨by simpa using R.len, fun b o q => k b o (fun z => by subst z; rw [hW] at q; cases q) (R.keep b o q), fun j t et => ?_, fun j l b hjl hj hl => R.sep j l b hjl (mne j hj) (mne l hl), fun b hb => ?_⟩
  · by_cases hij : i = j
    · subst hij
      rw [List.getElem?_set_self hi] at et; cases et
      exact ob_put (R.at_ i s es) e ea k h1 h2
    · rw [List.getElem?_set_ne hij] at et
      have q := R.at_ j t et
      have no : isOb t = false := by
        have hm : t ∈ ρ.set i .un := List.mem_of_getElem? (i := j) (by rw [List.getElem?_set_ne hij]; exact et)
        have := List.all_eq_true.mp so t hm
        simpa using this
      have ne : ∀ b o, H b = some o → (∀ C dx fs, o ≠ .ins C dx fs) → H' b = some o := fun b o hb hn => k b o (fun z => by subst z; rw [hA] at hb; cases hb; exact hn _ _ _ rfl) hb
      cases t with
      | un => trivial
      | dat d => obtain ⟨v, e1, h1⟩ := q; exact ⟨v, e1, h1.grow g⟩
      | own ds => obtain ⟨b, xs, e1, w, h1, h2⟩ := q; exact ⟨b, xs, e1, w, ne _ _ h1 (fun _ _ _ z => by cases z), h2.grow g⟩
      | dic ds => obtain ⟨b, xs, e1, w, h1, h2⟩ := q; exact ⟨b, xs, e1, w, ne _ _ h1 (fun _ _ _ z => by cases z), h2.grow g⟩
      | bor d => exact q
      | rng lo hi => obtain ⟨b, e1, h1⟩ := q; exact ⟨b, e1, ne _ _ h1 (fun _ _ _ z => by cases z)⟩
      | exc a d fs => obtain ⟨e1, hx⟩ := q; exact ⟨e1, hx.keep (fun b vs hb => ne _ _ hb (fun _ _ _ z => by cases z)) g⟩
      | obj _ _ _ => cases no
      | sel _ _ _ => cases no
      | con _ _ _ _ _ => cases no
  · obtain ⟨e1, ds, e2⟩ := R.anc b hb
    refine ⟨e1, ds, ?_⟩
    by_cases hz : i = 0
    · subst hz
      rw [es] at e2; cases e2
      cases e
    · rw [List.getElem?_set_ne hz]; exact e2
end
structure ObE (X : Cx) (e : Expr) (i : Nat) (kd : Sl → Bool) : Prop where
  pe : ∀ W, PE X e (fun σ H Q => ∃ ρ s a, RepS (wdX X) W σ H ρ ∧ ρ[i]? = some s ∧ kd s = true ∧ obA W σ[i]? s = some a ∧ Q (.ref a) H)
def kdN : Sl → Bool
  | .obj _ _ _ => true
  | .sel _ _ _ => true
  | _ => false
def kdC (C : Addr) (x : Str) : Sl → Bool
  | .con C' _ x' _ _ => decide (C' = C) && decide (x' = x)
  | _ => false
section
variable {X : Cx} {n x : Str} {q pos : Pos}
theorem ob_name (i : Nat) (hN : X.N[i]? = some n := by rfl) (hv : Vis X.env.scope n := by first | exact Or.inl rfl | exact Or.inr (Or.inl rfl) | exact Or.inr (Or.inr rfl)) (hd : (n == ("__debug__" : Str)) = false := by decide) (hcd : (n == ("__classdict__" : Str)) = false := by decide) : ObE X (.Name n q) i kdN := by
  refine ⟨fun W => (pe_var (i := i) hN hv hd hcd).imp fun σ H Q ⟨ρ, s, a, R, es, hk, ea, k⟩ => ?_⟩
  have h := R.at_ i s es
  cases s <;> simp only [kdN, Bool.false_eq_true] at hk
  · obtain ⟨a', dx, v, eo, _⟩ := h
    rw [eo] at ea
    cases ea
    exact ⟨_, eo, k⟩
  · obtain ⟨a', dx, v, _, eo, _⟩ := h
    rw [eo] at ea
    cases ea
    exact ⟨_, eo, k⟩
theorem ob_fld (i : Nat) {C : Addr} (cl : Cls X.K C) (na : NoAttr X.K C x) (hN : X.N[i]? = some n := by rfl) (hv : Vis X.env.scope n := by first | exact Or.inl rfl | exact Or.inr (Or.inl rfl) | exact Or.inr (Or.inr rfl)) (hd : (n == ("__debug__" : Str)) = false := by decide) (hcd : (n == ("__classdict__" : Str)) = false := by decide)
    (hb : attributeBase (.Name n q) x X.env (eval (.Name n q) X.env) = eval (.Name n q) X.env := by rfl) : ObE X (.Attribute (.Name n q) x pos) i (kdC C x) := by
  refine ⟨fun W => (pe_fld (pe_var (i := i) hN hv hd hcd) hb).imp fun σ H Q ⟨ρ, s, a, R, es, hk, ea, k⟩ => ?_⟩
  have h := R.at_ i s es
  cases s <;> simp only [kdC, Bool.false_eq_true, Bool.and_eq_true, decide_eq_true_eq] at hk
  obtain ⟨rfl, rfl⟩ := hk
  obtain ⟨b, a', bx, dx, v, ef, es, eo, ne, w, h1, h2, h3⟩ := h
  have ea' : W.sc = some a := ea
  rw [es] at ea'
  cases ea'
  exact ⟨_, eo, _, _, bx, _, _, rfl, h1, cl, na, by simp, k⟩
end
def eFld (i : Nat) (kd : Sl → Bool) (C : Addr) (f : Str) : M PyData := fun ρ => match ρ[i]? with
  | some s => if kd s = true then (obD C f s).map fun d => (d, ρ) else none
  | none => none
def sFld1 (i : Nat) (kd : Sl → Bool) (C : Addr) (f : Str) (fe : M PyData) : MS := fun ρ => match fe ρ with
  | some (d, ρ1) => (match ρ1[i]? with
    | some s => if kd s = true ∧ sole i ρ1 = true then (match obD C f s with
      | some _ => some (.nx (ρ1.set i (obSet s d)))
      | none => none) else none
    | none => none)
  | none => none
section
variable {X : Cx} {e v : Expr} {i : Nat} {kd : Sl → Bool} {C : Addr} {f : Str} {pos pos' : Pos} {fe : M PyData}
theorem de_fld (he : ObE X e i kd) (cl : Cls X.K C) (na : NoAttr X.K C f) (hb : attributeBase e f X.env (eval e X.env) = eval e X.env := by rfl) : DE X (.Attribute e f pos) (eFld i kd C f) := by
  refine ⟨fun W => (pe_fld (he.pe W) hb).imp fun σ H Q ⟨ρ, d, ρ', R, e1, k⟩ => ?_⟩
  unfold eFld at e1
  split at e1
  · rename_i s es
    split at e1
    · rename_i hk
      obtain ⟨d', e2, e3⟩ := Option.map_eq_some_iff.mp e1
      cases e3
      obtain ⟨a, v, ea, w, ⟨dx, h1⟩, h2⟩ := ob_at (R.at_ i s es) e2
      exact ⟨ρ, s, a, R, es, hk, ea, a, C, dx, _, v, rfl, h1, cl, na, by simp, k v H R h2 (.refl H)⟩
    · cases e1
  · cases e1
theorem ds_stF (he : ObE X e i kd) (cl : Cls X.K C) (na : NoAttr X.K C f) (hv : DE X v fe) (hs : swapsWith v (some (.Attribute e f pos')) pos.line X.env = pure false := by rfl) : DS X (.Assign [.Attribute e f pos'] v pos) (sFld1 i kd C f fe) := by
  refine ⟨fun W => (ps_fld (he.pe W) (hv.pe W) hs).imp fun D σ H ⟨ρ, o, R, e1, q⟩ => ?_⟩
  unfold sFld1 at e1
  split at e1
  · rename_i d ρ1 e2
    split at e1
    · rename_i s es
      split at e1
      · rename_i hk
        split at e1
        · rename_i d0 e3
          cases e1
          refine ⟨ρ, d, ρ1, R, e2, fun y H1 R1 D1 g1 => ?_⟩
          obtain ⟨a, v0, ea, w, ⟨dx, h1⟩, h2⟩ := ob_at (R1.at_ i s es) e3
          refine ⟨ρ1, s, a, R1, es, hk.1, ea, a, C, dx, _, rfl, h1, cl, na, (show 1 < 1000 by decide), ?_⟩
          have hp : putF f y [(f, v0)] = [(f, y)] := by simp [putF]
          rw [hp]
          have kb : But a H1 (upd H1 a (.ins C dx [(f, y)])) := fun b o hb e => by rw [upd_ne hb]; exact e
          have g2 := kb.grow h1
          exact q σ _ (R1.ob_step es e3 ea hk.2 kb ⟨dx, upd_same⟩ (D1.grow g2)) (g1.trans g2)
        · cases e1
      · cases e1
    · cases e1
  · cases e1
end
abbrev FM := PyData → List PyData → Option ((PyData ⊕ Xn) × PyData)
def EndM (Γ : Wd) (mg : Str → Option Value) (C : Addr) (f : Str) (H : Hp) (a : Addr) (Q : VK) (E : XK) (r : (PyData ⊕ Xn) × PyData) : Prop := ∀ H' v', But a H H' → At1 H' a C f v' → Df Γ H' v' r.2 → (match r.1 with
  | .inl y => ∀ z, Df Γ H' z y → Q z H'
  | .inr xn => ∀ c dd, XnG Γ mg H' xn c dd → E c dd H')
/-- self: the object -/
def spM (Γ : Wd) (mg : Str → Option Value) (C : Addr) (f : Str) (n : Nat) (g : FM) : Sp := fun vs H Q E => ∃ a v d vs' ds r, vs = .ref a :: vs' ∧ At1 H a C f v ∧ Df Γ H v d ∧ DfA Γ H vs' ds ∧ ds.length = n ∧ g d ds = some r ∧ EndM Γ mg C f H a Q E r
/-- self: what holds the object -/
def spC (Γ : Wd) (mg : Str → Option Value) (CC : Addr) (x : Str) (C : Addr) (f : Str) (n : Nat) (g : FM) : Sp := fun vs H Q E => ∃ b bx a v d vs' ds r, vs = .ref b :: vs' ∧ CC ≠ C ∧ H b = some (.ins CC bx [(x, .ref a)]) ∧ At1 H a C f v ∧ Df Γ H v d ∧ DfA Γ H vs' ds ∧ ds.length = n ∧ g d ds = some r ∧ EndM Γ mg C f H a Q E r
/-- a property -/
def spG (Γ : Wd) (C : Addr) (f : Str) (g : PyData → Option PyData) : Sp := fun vs H Q _ => ∃ a v d y, vs = [.ref a] ∧ At1 H a C f v ∧ Df Γ H v d ∧ g d = some y ∧ ∀ z H' v', But a H H' → At1 H' a C f v' → Df Γ H' v' d → Df Γ H' z y → Q z H'
structure PropE (P : Program) (w : World) (K : PySem.W.Frag) (mg : Str → Option Value) (base : Heap) (k : Nat) (C : Addr) (p f : Str) (g : PyData → Option PyData) : Prop where
  ex : ∃ (pa ga : Addr) (fd : FuncData) (ps : List Str), Cls K C ∧ PropOf K C p pa ga ∧ FnOk P w K mg base C8.CX0 k ga fd ps (spG ⟨P, w, K⟩ C f g) ∧ L2.Binds K fd ps []
def eProp (i : Nat) (kd : Sl → Bool) (C : Addr) (f : Str) (g : PyData → Option PyData) : M PyData := fun ρ => match ρ[i]? with
  | some s => if kd s = true ∧ sole i ρ = true then (match obD C f s with
    | some d => (g d).map fun y => (y, ρ)
    | none => none) else none
  | none => none
theorem ob_same {s : Sl} {C : Addr} {f : Str} {d : PyData} (e : obD C f s = some d) : obSet s d = s := by
  cases s <;> simp only [obD, reduceCtorEq] at e <;> (split at e <;> first | (cases e; rfl) | cases e)
theorem set_self {ρ : Env} {i : Nat} {s : Sl} (h : ρ[i]? = some s) : ρ.set i s = ρ := by
  refine List.ext_getElem? fun j => ?_
  by_cases hij : i = j
  · subst hij
    rw [List.getElem?_set_self (List.getElem?_eq_some_iff.mp h).1, h]
  · rw [List.getElem?_set_ne hij]
section
variable {X : Cx} {e : Expr} {i k j : Nat} {kd : Sl → Bool} {C : Addr} {f p : Str} {pos : Pos} {g : PyData → Option PyData}
theorem de_prop (c : PropE X.prog X.w X.K X.mg X.base k C p f g) (he : ObE X e i kd) (hr : Room j X.A) (hk : k + 1 ≤ j) (hb : attributeBase e p X.env (eval e X.env) = eval e X.env := by rfl) : DE X (.Attribute e p pos) (eProp i kd C f g) := by
  obtain ⟨pa, ga, fd, ps, cl, hp, F, hbi⟩ := c.ex
  refine ⟨fun W => (pe_prop (E := fun _ _ _ => False) (he.pe W) cl hp F (hr.mono hk) hbi .nil C8.pass0 hb).imp fun σ H Q ⟨ρ, y, ρ', R, e1, q⟩ => ?_⟩
  unfold eProp at e1
  split at e1
  · rename_i s es
    split at e1
    · rename_i hh
      split at e1
      · rename_i d e2
        obtain ⟨y', e3, e4⟩ := Option.map_eq_some_iff.mp e1
        cases e4
        obtain ⟨a, v, ea, w, ⟨dx, h1⟩, h2⟩ := ob_at (R.at_ i s es) e2
        refine ⟨ρ, s, a, R, es, hh.1, ea, a, dx, _, rfl, h1, a, v, d, y, rfl, ⟨dx, h1⟩, h2, e3, fun z H' v' kb a1 d1 dz => ?_⟩
        have R2 := R.ob_step es e2 ea hh.2 kb a1 d1
        rw [ob_same e2, set_self es] at R2
        exact q z H' R2 dz (kb.grow h1)
      · cases e1
    · cases e1
  · cases e1
end
def Keeps {α : Type} (f : M α) : Prop := ∀ ρ y ρ', f ρ = some (y, ρ') → ρ' = ρ
structure MetE (P : Program) (w : World) (K : PySem.W.Frag) (mg : Str → Option Value) (base : Heap) (k : Nat) (C : Addr) (m f : Str) (n : Nat) (g : FM) : Prop where
  ex : ∃ (ga : Addr) (fd : FuncData) (ps : List Str), Cls K C ∧ Meth K C m ga ∧ FnOk P w K mg base (L2N.CX P w) k ga fd ps (spM ⟨P, w, K⟩ mg C f n g) ∧ L2.Binds K fd ps []
structure MetC (P : Program) (w : World) (K : PySem.W.Frag) (mg : Str → Option Value) (base : Heap) (k : Nat) (CC : Addr) (x : Str) (C : Addr) (m f : Str) (n : Nat) (g : FM) (kn : Str) : Prop where
  ex : ∃ (ga : Addr) (fd : FuncData) (ps : List Str), Cls K CC ∧ Meth K CC m ga ∧ FnOk P w K mg base (L2N.CX P w) k ga fd ps (spC ⟨P, w, K⟩ mg CC x C f n g) ∧ L2.Binds K fd ps [] ∧ (n = 1 → ∀ s u v, K.In s.heap → BindsTo s fd ⟨[u], [(kn, v)]⟩ (ps.zip [u, v]))
def xMeth (i : Nat) (kd : Sl → Bool) (C : Addr) (f : Str) (g : FM) (fr : M (List PyData)) : MXx := fun ρ => match ρ[i]? with
  | some s => if kd s = true ∧ sole i ρ = true then (match obD C f s with
    | some d => (match fr ρ with
      | some (ds, _) => (match g d ds with
        | some (.inl y, d') => some (.inl (.dat y), ρ.set i (obSet s d'))
        | some (.inr xn, d') => some (.inr xn, ρ.set i (obSet s d'))
        | none => none)
      | none => none)
    | none => none) else none
  | none => none
def AftM (X : Cx) (W : Wt) (Wx : WX) (σ : Sg) (H : Hp) (Q : VK) (ρ' : Env) : Sl ⊕ Xn → Prop
  | .inl s => ∀ v H', RepS (wdX X) W σ H' ρ' → NewS (wdX X) W σ ρ' H' v s → Grow H H' → Q v H'
  | .inr xn => ∀ c d H', RepS (wdX X) W σ H' ρ' → Grow H H' → XnOk X H' xn c d → Wx c d σ H'
theorem xMeth_inv {i : Nat} {kd : Sl → Bool} {C : Addr} {f : Str} {g : FM} {fr : M (List PyData)} {ρ ρ' : Env} {r : Sl ⊕ Xn} (h : xMeth i kd C f g fr ρ = some (r, ρ')) : ∃ s d ds ρ1 q d', ρ[i]? = some s ∧ kd s = true ∧ sole i ρ = true ∧ obD C f s = some d ∧ fr ρ = some (ds, ρ1) ∧ g d ds = some (q, d') ∧ ρ' = ρ.set i (obSet s d') ∧
    ((∃ y, q = .inl y ∧ r = .inl (.dat y)) ∨ ∃ xn, q = .inr xn ∧ r = .inr xn) := by
  unfold xMeth at h
  cases e1 : ρ[i]? with
  | none => simp only [e1] at h; cases h
  | some s =>
  simp only [e1] at h
  split at h
  case isFalse => cases h
  rename_i hh
  cases e2 : obD C f s with
  | none => simp only [e2] at h; cases h
  | some d =>
  simp only [e2] at h
  cases e3 : fr ρ with
  | none => simp only [e3] at h; cases h
  | some p =>
  obtain ⟨ds, ρ1⟩ := p
  simp only [e3] at h
  cases e4 : g d ds with
  | none => simp only [e4] at h; cases h
  | some p =>
  obtain ⟨q, d'⟩ := p
  cases q with
  | inl y => simp only [e4] at h; cases h; exact ⟨s, d, ds, ρ1, .inl y, d', rfl, hh.1, hh.2, e2, rfl, e4, rfl, .inl ⟨y, rfl, rfl⟩⟩
  | inr xn => simp only [e4] at h; cases h; exact ⟨s, d, ds, ρ1, .inr xn, d', rfl, hh.1, hh.2, e2, rfl, e4, rfl, .inr ⟨xn, rfl, rfl⟩⟩
section
variable {X : Cx} {o e : Expr} {es : List Expr} {i k j n : Nat} {kd : Sl → Bool} {C : Addr} {f m : Str} {p apos pos : Pos} {g : FM} {fr : M (List PyData)}
/-- what follows the call -/
theorem meth_end {W : Wt} {Wx : WX} {σ : Sg} {H H1 : Hp} {Q : VK} {ρ ρ' : Env} {r : Sl ⊕ Xn} {s : Sl} {a : Addr} {d d' : PyData} {q : PyData ⊕ Xn} (R1 : RepS (wdX X) W σ H1 ρ) (g1 : Grow H H1) (es : ρ[i]? = some s) (so : sole i ρ = true) (ed : obD C f s = some d) (ea : obA W σ[i]? s = some a)
    (e7 : ρ' = ρ.set i (obSet s d')) (e8 : (∃ y, q = .inl y ∧ r = .inl (.dat y)) ∨ ∃ xn, q = .inr xn ∧ r = .inr xn)
    (k : AftM X W Wx σ H Q ρ' r) : EndM (wdX X) X.mg C f H1 a Q (WE Wx σ) (q, d') := by
  intro H' v' kb a1 d1
  obtain ⟨a2, v, ea2, w, ⟨dx, h1⟩, h2⟩ := ob_at (R1.at_ i s es) ed
  rw [ea] at ea2; cases ea2
  have R2 := R1.ob_step es ed ea so kb a1 d1
  rw [← e7] at R2
  have g2 := g1.trans (kb.grow h1)
  rcases e8 with ⟨y, rfl, rfl⟩ | ⟨xn, rfl, rfl⟩
  · exact fun z dz => k z H' R2 dz g2
  · exact fun c dd xg => k c dd H' R2 g2 xg
/-- o.m(e, ..) -/
theorem sex_meth {pl : Sem Bool} (c : MetE X.prog X.w X.K X.mg X.base k C m f n g) (ho : ObE X o i kd) (hr : Room j X.A) (hk : k ≤ j) (hf0 : (f == m) = false) (ha : DAn X (e :: es) fr) (hkp : Keeps fr) (hn : (e :: es).length = n := by rfl)
    (hst : starEach (e :: es) X.env = (false, eval e X.env) :: starEach es X.env := by rfl) (hpl : (backTo pos (starEach es X.env)).any (·.1) = false := by rfl)
    (ht : eval (.Call (.Attribute o m apos) (e :: es) [] pos) X.env = (do
      let ov ← eval o X.env
      standAt apos.atName
      let (f, first) ← holding [ov] (getMethod ov m pl)
      callWith pos f first (backTo pos (starEach (e :: es) X.env)) (backToKw pos (keywordEach [] X.env))) := by rfl) : SEx X (.Call (.Attribute o m apos) (e :: es) [] pos) (xMeth i kd C f g fr) := by
  obtain ⟨ga, fd, ps, cl, hm, F, hb⟩ := c.ex
  refine ⟨fun W Wx tk => ⟨fun pins s σ H Q I ⟨ρ, r, ρ', R, e1, q⟩ => ?_⟩⟩
  obtain ⟨sl, d, ds, ρ1, q0, d', es, hkd, so, ed, ef, eg, e7, e8⟩ := xMeth_inv e1
  have := hkp _ _ _ ef
  subst this
  obtain ⟨a, v, ea, w, ⟨dx, h1⟩, h2⟩ := ob_at (R.at_ i sl es) ed
  refine PySem.W.methodCall_KW (pl := pl) (thn ((ho.pe W).run pins s σ H (fun x H1 => x = .ref a ∧ H1 = H) I ⟨ρ1, sl, a, R, es, hkd, ea, rfl, rfl⟩) fun u s1 ⟨x, H1, I1, rx, ex, eH⟩ => ?_) ht
  subst ex eH
  obtain rfl : u = Value.ref a := rx
  have lm : [(f, v)].lookup m = none := by
    have : (m == f) = false := by rw [beq_eq_false_iff_ne] at hf0 ⊢; exact fun z => hf0 z.symm
    simp [List.lookup, this]
  refine getmeth_ok I1 h1 cl hm lm ?_
  refine PySem.W.callWith_K (first := [.ref a]) (h₀ := X.base) I.ok.mod.kin hm.kp (thn ((ha.pa W).run pos pins s1 σ H1 (fun vs H2 => RepS (wdX X) W σ H2 ρ1 ∧ DfA (wdX X) H2 vs ds ∧ Grow H1 H2) I1 ⟨ρ1, ds, ρ1, R, ef, fun vs H2 R2 D2 g2 => ⟨R2, D2, g2⟩⟩) fun us s2 ⟨vs, H2, I2, r2, R2, D2, g2⟩ => ⟨I2.kIn, ?_⟩) hst hpl
  obtain ⟨a2, v2, ea2, w2, at2, dv2⟩ := ob_at (R2.at_ i sl es) ed
  rw [ea] at ea2; cases ea2
  exact run_fnS (E := fun σ => WE Wx σ) (us := .ref a :: us) (vs := .ref a :: vs) F (hr.mono hk) hb (L2N.passAt tk σ) I2 (.cons rfl r2) ⟨a, v2, d, vs, ds, _, rfl, at2, dv2, D2, by rw [ha.num _ _ _ ef]; exact hn, eg, meth_end R2 g2 es so ed ea e7 e8 q⟩
/-- o.m() -/
theorem sex_meth0 {pl : Sem Bool} (c : MetE X.prog X.w X.K X.mg X.base k C m f 0 g) (ho : ObE X o i kd) (hr : Room j X.A) (hk : k ≤ j) (hf0 : (f == m) = false)
    (ht : eval (.Call (.Attribute o m apos) [] [] pos) X.env = (do
      let ov ← eval o X.env
      standAt apos.atName
      let (f, first) ← holding [ov] (getMethod ov m pl)
      callWith pos f first (backTo pos (starEach [] X.env)) (backToKw pos (keywordEach [] X.env))) := by rfl) : SEx X (.Call (.Attribute o m apos) [] [] pos) (xMeth i kd C f g aNil) := by
  obtain ⟨ga, fd, ps, cl, hm, F, hb⟩ := c.ex
  refine ⟨fun W Wx tk => ⟨fun pins s σ H Q I ⟨ρ, r, ρ', R, e1, q⟩ => ?_⟩⟩
  obtain ⟨sl, d, ds, ρ1, q0, d', es, hkd, so, ed, ef, eg, e7, e8⟩ := xMeth_inv e1
  cases ef
  obtain ⟨a, v, ea, w, ⟨dx, h1⟩, h2⟩ := ob_at (R.at_ i sl es) ed
  refine PySem.W.methodCall_KW (pl := pl) (thn ((ho.pe W).run pins s σ H (fun x H1 => x = .ref a ∧ H1 = H) I ⟨ρ, sl, a, R, es, hkd, ea, rfl, rfl⟩) fun u s1 ⟨x, H1, I1, rx, ex, eH⟩ => ?_) ht
  subst ex eH
  obtain rfl : u = Value.ref a := rx
  have lm : [(f, v)].lookup m = none := by
    have : (m == f) = false := by rw [beq_eq_false_iff_ne] at hf0 ⊢; exact fun z => hf0 z.symm
    simp [List.lookup, this]
  refine getmeth_ok I1 h1 cl hm lm ?_
  exact PySem.W.callWith_K0 (first := [.ref a]) I1.kIn hm.kp (run_fnS (E := fun σ => WE Wx σ) (us := [.ref a]) (vs := [.ref a]) F (hr.mono hk) hb (L2N.passAt tk σ) I1 (.cons rfl .nil) ⟨a, v, d, [], [], _, rfl, ⟨dx, h1⟩, h2, .nil, rfl, eg, meth_end R (.refl H1) es so ed ea e7 e8 q⟩)
end
def kdB (CC : Addr) (x : Str) (C : Addr) (f : Str) : Sl → Bool
  | .con CC' C' x' f' _ => decide (CC' = CC) && decide (x' = x) && decide (C' = C) && decide (f' = f)
  | _ => false
theorem con_at {Γ : Wd} {W : Wt} {H : Hp} {o : Option (Option V)} {s : Sl} {CC C : Addr} {x f : Str} (h : SlOk Γ W H o s) (hk : kdB CC x C f s = true) : ∃ b a d bx v, s = .con CC C x f d ∧ W.sf = some b ∧ W.sc = some a ∧ o = some (some (.ref b)) ∧ CC ≠ C ∧ H b = some (.ins CC bx [(x, .ref a)]) ∧ At1 H a C f v ∧ Df Γ H v d := by
  cases s <;> simp only [kdB, Bool.false_eq_true, Bool.and_eq_true, decide_eq_true_eq] at hk
  obtain ⟨⟨⟨rfl, rfl⟩, rfl⟩, rfl⟩ := hk
  obtain ⟨b, a, bx, dx, v, ef, es, eo, ne, w, h1, h2, h3⟩ := h
  exact ⟨b, a, _, bx, v, rfl, ef, es, eo, ne, h1, ⟨dx, h2⟩, h3⟩
section
variable {X : Cx} {e : Expr} {es : List Expr} {i k j n : Nat} {CC C : Addr} {y x f m kn : Str} {qy apos pos kpos : Pos} {g : FM} {fr : M (List PyData)} {fe : M PyData}
/-- y.m(e, ..), y what holds the object -/
theorem sex_con {pl : Sem Bool} (i : Nat) (c : MetC X.prog X.w X.K X.mg X.base k CC x C m f n g kn) (hr : Room j X.A) (hk : k ≤ j) (hf0 : (x == m) = false) (ha : DAn X (e :: es) fr) (hkp : Keeps fr) (hn : (e :: es).length = n := by rfl)
    (hN : X.N[i]? = some y := by rfl) (hv : Vis X.env.scope y := by first | exact Or.inl rfl | exact Or.inr (Or.inl rfl) | exact Or.inr (Or.inr rfl)) (hd : (y == ("__debug__" : Str)) = false := by decide) (hcd : (y == ("__classdict__" : Str)) = false := by decide)
    (hst : starEach (e :: es) X.env = (false, eval e X.env) :: starEach es X.env := by rfl) (hpl : (backTo pos (starEach es X.env)).any (·.1) = false := by rfl)
    (ht : eval (.Call (.Attribute (.Name y qy) m apos) (e :: es) [] pos) X.env = (do
      let ov ← eval (.Name y qy) X.env
      standAt apos.atName
      let (f, first) ← holding [ov] (getMethod ov m pl)
      callWith pos f first (backTo pos (starEach (e :: es) X.env)) (backToKw pos (keywordEach [] X.env))) := by rfl) : SEx X (.Call (.Attribute (.Name y qy) m apos) (e :: es) [] pos) (xMeth i (kdB CC x C f) C f g fr) := by
  obtain ⟨ga, fd, ps, cl, hm, F, hb, _⟩ := c.ex
  refine ⟨fun W Wx tk => ⟨fun pins s σ H Q I ⟨ρ, r, ρ', R, e1, q⟩ => ?_⟩⟩
  obtain ⟨sl, d, ds, ρ1, q0, d', es, hkd, so, ed, ef, eg, e7, e8⟩ := xMeth_inv e1
  have := hkp _ _ _ ef
  subst this
  obtain ⟨b, a, d0, bx, v, rfl, esf, esc, eb, ne, hB, hA, hD⟩ := con_at (R.at_ i sl es) hkd
  refine PySem.W.methodCall_KW (pl := pl) (thn ((pe_var (i := i) (pos := qy) hN hv hd hcd).run pins s σ H (fun x H1 => x = .ref b ∧ H1 = H) I ⟨.ref b, eb, rfl, rfl⟩) fun u s1 ⟨z, H1, I1, rz, ez, eH⟩ => ?_) ht
  subst ez eH
  obtain rfl : u = Value.ref b := rz
  have lm : [(x, V.ref a)].lookup m = none := by
    have : (m == x) = false := by rw [beq_eq_false_iff_ne] at hf0 ⊢; exact fun z => hf0 z.symm
    simp [List.lookup, this]
  refine getmeth_ok I1 hB cl hm lm ?_
  refine PySem.W.callWith_K (first := [.ref b]) (h₀ := X.base) I.ok.mod.kin hm.kp (thn ((ha.pa W).run pos pins s1 σ H1 (fun vs H2 => RepS (wdX X) W σ H2 ρ1 ∧ DfA (wdX X) H2 vs ds ∧ Grow H1 H2) I1 ⟨ρ1, ds, ρ1, R, ef, fun vs H2 R2 D2 g2 => ⟨R2, D2, g2⟩⟩) fun us s2 ⟨vs, H2, I2, r2, R2, D2, g2⟩ => ⟨I2.kIn, ?_⟩) hst hpl
  obtain ⟨b2, a2, d2, bx2, v2, e2, ef2, es2, _, ne2, hB2, hA2, hD2⟩ := con_at (R2.at_ i _ es) hkd
  rw [esf] at ef2
  rw [esc] at es2
  cases e2
  cases ef2
  cases es2
  have ed' : d = d0 := by simpa [obD] using ed.symm
  subst ed'
  exact run_fnS (E := fun σ => WE Wx σ) (us := .ref b :: us) (vs := .ref b :: vs) F (hr.mono hk) hb (L2N.passAt tk σ) I2 (.cons rfl r2) ⟨b, bx2, a, v2, d, vs, ds, _, rfl, ne, hB2, hA2, hD2, D2, by rw [ha.num _ _ _ ef]; exact hn, eg, meth_end R2 g2 es so ed esc e7 e8 q⟩
/-- y.m(k = e) -/
theorem sex_conK {pl : Sem Bool} (i : Nat) (c : MetC X.prog X.w X.K X.mg X.base k CC x C m f 1 g kn) (hr : Room j X.A) (hk : k ≤ j) (hf0 : (x == m) = false) (ha : DE X e fe) (hkp : Keeps fe)
    (hN : X.N[i]? = some y := by rfl) (hv : Vis X.env.scope y := by first | exact Or.inl rfl | exact Or.inr (Or.inl rfl) | exact Or.inr (Or.inr rfl)) (hd : (y == ("__debug__" : Str)) = false := by decide) (hcd : (y == ("__classdict__" : Str)) = false := by decide)
    (hall : (backToKw pos (keywordEach [⟨some kn, e, kpos⟩] X.env)).all (·.1.isSome) = true := by rfl) (hks : (backToKw pos (keywordEach [⟨some kn, e, kpos⟩] X.env)).filterMap (·.1) = [kn] := by rfl)
    (hpl : ((backTo pos (starEach [] X.env)).any (·.1) || (backToKw pos (keywordEach [⟨some kn, e, kpos⟩] X.env)).any (·.1.isNone)) = false := by rfl)
    (ht : eval (.Call (.Attribute (.Name y qy) m apos) [] [⟨some kn, e, kpos⟩] pos) X.env = (do
      let ov ← eval (.Name y qy) X.env
      standAt apos.atName
      let (f, first) ← holding [ov] (getMethod ov m pl)
      callWith pos f first (backTo pos (starEach [] X.env)) (backToKw pos (keywordEach [⟨some kn, e, kpos⟩] X.env))) := by rfl) : SEx X (.Call (.Attribute (.Name y qy) m apos) [] [⟨some kn, e, kpos⟩] pos) (xMeth i (kdB CC x C f) C f g (aCons fe aNil)) := by
  obtain ⟨ga, fd, ps, cl, hm, F, _, hbk⟩ := c.ex
  refine ⟨fun W Wx tk => ⟨fun pins s σ H Q I ⟨ρ, r, ρ', R, e1, q⟩ => ?_⟩⟩
  obtain ⟨sl, d, ds, ρ1, q0, d', es, hkd, so, ed, ef, eg, e7, e8⟩ := xMeth_inv e1
  obtain ⟨y1, ρ2, xs, ef1, ef2, rfl⟩ := aCons_inv ef
  cases ef2
  have := hkp _ _ _ ef1
  subst this
  obtain ⟨b, a, d0, bx, v, rfl, esf, esc, eb, ne, hB, hA, hD⟩ := con_at (R.at_ i sl es) hkd
  refine PySem.W.methodCall_KW (pl := pl) (thn ((pe_var (i := i) (pos := qy) hN hv hd hcd).run pins s σ H (fun x H1 => x = .ref b ∧ H1 = H) I ⟨.ref b, eb, rfl, rfl⟩) fun u s1 ⟨z, H1, I1, rz, ez, eH⟩ => ?_) ht
  subst ez eH
  obtain rfl : u = Value.ref b := rz
  have lm : [(x, V.ref a)].lookup m = none := by
    have : (m == x) = false := by rw [beq_eq_false_iff_ne] at hf0 ⊢; exact fun z => hf0 z.symm
    simp [List.lookup, this]
  refine getmeth_ok I1 hB cl hm lm ?_
  refine PySem.W.callWith_KW0 (first := [.ref b]) (h₀ := X.base) I.ok.mod.kin hm.kp hall (thn ((pk_cons (kws := []) (ha.pe W) pk_nil).run pos pins s1 σ H1 (fun vs H2 => ∃ v, vs = [v] ∧ RepS (wdX X) W σ H2 ρ1 ∧ Df (wdX X) H2 v y1 ∧ Grow H1 H2) I1 ⟨ρ1, y1, ρ1, R, ef1, fun v H2 R2 D2 g2 => ⟨v, rfl, R2, D2, g2⟩⟩) fun ws s2 ⟨vs, H2, I2, r2, v1, ev, R2, D2, g2⟩ => ⟨I2.kIn, ?_⟩) hpl
  subst ev
  rw [hks]
  obtain ⟨w1, rfl, rw1⟩ := vals1 r2
  obtain ⟨b2, a2, d2, bx2, v2, e2, ef2, es2, _, ne2, hB2, hA2, hD2⟩ := con_at (R2.at_ i _ es) hkd
  rw [esf] at ef2
  rw [esc] at es2
  cases e2
  cases ef2
  cases es2
  have ed' : d = d0 := by simpa [obD] using ed.symm
  subst ed'
  have promise : spC (wdX X) X.mg CC x C f 1 g [.ref b, v1] H2 Q (WE Wx σ) := ⟨b, bx2, a, v2, d, [v1], [y1], _, rfl, ne, hB2, hA2, hD2, .cons D2 .nil, rfl, eg, meth_end R2 g2 es so ed esc e7 e8 q⟩
  refine wpAny_call (codeAny_mono (F.run X.A X.stack s2 H2 ⟨[.ref b], [(kn, w1)]⟩ [.ref b, w1] [.ref b, v1] Q (WE Wx σ) (hr.mono hk) I2.env0 (hbk rfl s2 _ _ I2.kIn) (.cons rfl (.cons rw1 .nil)) promise) fun r s' out => ?_)
  cases r with
  | error er => exact L2N.passAt tk σ pins H2 s2 er s' I2 out
  | ok fl =>
    cases fl with
    | ret u => exact I2.after out
    | next => exact out.elim
    | brk => exact out.elim
    | cont => exact out.elim
end
end Dn
namespace Dn
open PySem PySem.W PySem.Spec PyProof.Rows L2 C8
theorem _root_.L2H.RoomH.u {k : Nat} {A : Around} (h : L2H.RoomH k A) : RmU A := by have := h.un; show A.units + 200 < cLine; omega
section
variable {X : Cx} {tg e a b : Expr} {f fa fb : M PyData} {pos p q1 q2 : Pos}
theorem de_never {e : Expr} : DE X e (fun _ => none) := ⟨fun W => ⟨fun pins s σ H Q I ⟨ρ, d, ρ', R, e, k⟩ => by cases e⟩⟩
theorem dt_never {e : Expr} : DT X e (fun _ => none) := ⟨fun W => ⟨fun pins s σ H Q I ⟨ρ, d, ρ', R, e, k⟩ => by cases e⟩⟩
theorem dsx_never {st : Stmt} : DSx X st (fun _ => none) := ⟨fun W Wx tk => ⟨fun pins s σ H D I ⟨ρ, o, R, e, k⟩ => by cases e⟩⟩
def charsD : PyData → Option (List PyData)
  | .str z => some (z.cps.toList.map fun c => .str ⟨#[c]⟩)
  | _ => none
def mChars (f : M PyData) : M (List PyData) := fun ρ => match f ρ with
  | some (.str z, ρ') => some (z.cps.toList.map fun c => .str ⟨#[c]⟩, ρ')
  | _ => none
theorem di_str (he : DE X e f) : DI X tg e (mChars f) := by
  refine ⟨fun W => ⟨fun pins s σ H R I h => ?_⟩⟩
  obtain ⟨ρ, ds, ρ', Rp, e1, k⟩ := h
  unfold mChars at e1
  split at e1
  · rename_i z ρ1 e2
    cases e1
    refine (pi_str (he.pe W)).run pins s σ H R I ⟨ρ, _, ρ', Rp, e2, fun v H1 R1 D1 g1 => ?_⟩
    cases D1
    refine ⟨z, rfl, k _ H1 R1 g1 ?_⟩
    intro H2 g2 i
    have wk := walk_str (z := z)
    refine ⟨fun hi => ⟨wk.goes i H2 (by simpa using hi) trivial, fun x H' y => ?_⟩, fun hi => ?_⟩
    · obtain ⟨rfl, c, ec, rfl⟩ := wk.yields i H2 x H' (by simpa using hi) trivial y
      exact ⟨fun _ _ q => q, .str ⟨#[c]⟩, by simp [ec], .str _⟩
    · have := wk.stops H2 trivial
      have hi' : z.cps.size ≤ i := by simpa using hi
      exact hi'
  · cases e1
def zipP (xs ys : List PyData) : List PyData := (xs.zip ys).map fun p => .tuple [p.1, p.2]
def mZip (fr : M (List PyData)) : M (List PyData) := fun ρ => match fr ρ with
  | some ([.tuple xs, .tuple ys], ρ') => some (zipP xs ys, ρ')
  | some ([.list xs, .list ys], ρ') => some (zipP xs ys, ρ')
  | _ => none
theorem zipP_len (xs ys : List PyData) : (zipP xs ys).length = min xs.length ys.length := by simp [zipP]
theorem zipP_get {xs ys : List PyData} {i : Nat} {a b : PyData} (ha : xs[i]? = some a) (hb : ys[i]? = some b) : (zipP xs ys)[i]? = some (.tuple [a, b]) := by
  unfold zipP
  have : (xs.zip ys)[i]? = some (a, b) := List.getElem?_zip_eq_some.mpr ⟨ha, hb⟩
  rw [List.getElem?_map, this]
  rfl
variable {elts : List Expr} {kk : Nat} {tpos : Pos} {fr : M (List PyData)}
theorem di_zip (hg : Gl X "zip") (hm : X.mg "zip" = none) (ha : DAn X [a, b] fr) (hs : starEach [a, b] X.env = (false, eval a X.env) :: starEach [b] X.env := by rfl) (hpl : (backTo pos (starEach [b] X.env)).any (·.1) = false := by rfl) : DI X (.Tuple elts kk tpos) (.Call (.Name "zip" p) [a, b] [] pos) (mZip fr) := by
  refine ⟨fun W => ⟨fun pins s σ H R I h => ?_⟩⟩
  obtain ⟨ρ, ds, ρ', Rp, e1, k⟩ := h
  unfold mZip at e1
  split at e1
  · rename_i xs ys ρ1 e2
    cases e1
    refine (RZ.pi_zipA hg hm (ha.pa W) hs hpl).run pins s σ H R I ⟨ρ, _, ρ', Rp, e2, fun vs H1 R1 D1 g1 => ?_⟩
    obtain ⟨v1, v2, rfl, d1, d2⟩ : ∃ v1 v2, vs = [v1, v2] ∧ Df (wdX X) H1 v1 (.tuple xs) ∧ Df (wdX X) H1 v2 (.tuple ys) := by
      cases D1 with
      | cons d1 t => cases t with
        | cons d2 t => cases t; exact ⟨_, _, rfl, d1, d2⟩
    obtain ⟨a1, xv, rfl, h1, k1⟩ := d1.tup_inv
    obtain ⟨a2, yv, rfl, h2, k2⟩ := d2.tup_inv
    refine ⟨a1, a2, xv, yv, rfl, .inr ⟨h1, h2, k _ H1 R1 g1 ?_⟩⟩
    intro H2 g2 i
    have q1 := sqT_grow g2 h1
    have q2 := sqT_grow g2 h2
    have s1 := k1.grow g2
    have s2 := k2.grow g2
    have l1 := s1.length
    have l2 := s2.length
    rw [zipP_len]
    refine ⟨fun hi => ⟨⟨xv, yv, xv[i]'(by omega), yv[i]'(by omega), q1, q2, List.getElem?_eq_getElem _, List.getElem?_eq_getElem _⟩, fun v H' y => ?_⟩, fun hi => ⟨xv, yv, q1, q2, by omega⟩⟩
    obtain ⟨T, x, y, rfl, hT, rfl, y1, y2⟩ := y
    obtain ⟨d1, e1, r1⟩ := s1.getV (y1 xv q1)
    obtain ⟨d2, e2, r2⟩ := s2.getV (y2 yv q2)
    exact ⟨Same.new hT, _, zipP_get e1 e2, .tup (.of upd_same) (.cons (r1.grow (.new hT)) (.cons (r2.grow (.new hT)) .nil))⟩
  · rename_i xs ys ρ1 e2
    cases e1
    refine (RZ.pi_zipA hg hm (ha.pa W) hs hpl).run pins s σ H R I ⟨ρ, _, ρ', Rp, e2, fun vs H1 R1 D1 g1 => ?_⟩
    obtain ⟨v1, v2, rfl, d1, d2⟩ : ∃ v1 v2, vs = [v1, v2] ∧ Df (wdX X) H1 v1 (.list xs) ∧ Df (wdX X) H1 v2 (.list ys) := by
      cases D1 with
      | cons d1 t => cases t with
        | cons d2 t => cases t; exact ⟨_, _, rfl, d1, d2⟩
    obtain ⟨a1, xv, rfl, h1, k1⟩ := d1.lst_inv
    obtain ⟨a2, yv, rfl, h2, k2⟩ := d2.lst_inv
    refine ⟨a1, a2, xv, yv, rfl, .inl ⟨h1.sq, h2.sq, k _ H1 R1 g1 ?_⟩⟩
    intro H2 g2 i
    have q1 : SqL X.K H2 a1 xv := (h1.grow g2).sq
    have q2 : SqL X.K H2 a2 yv := (h2.grow g2).sq
    have s1 := k1.grow g2
    have s2 := k2.grow g2
    have l1 := s1.length
    have l2 := s2.length
    rw [zipP_len]
    refine ⟨fun hi => ⟨⟨xv, yv, xv[i]'(by omega), yv[i]'(by omega), q1, q2, List.getElem?_eq_getElem _, List.getElem?_eq_getElem _⟩, fun v H' y => ?_⟩, fun hi => ⟨xv, yv, q1, q2, by omega⟩⟩
    obtain ⟨T, x, y, rfl, hT, rfl, y1, y2⟩ := y
    obtain ⟨d1, e1, r1⟩ := s1.getV (y1 xv q1)
    obtain ⟨d2, e2, r2⟩ := s2.getV (y2 yv q2)
    exact ⟨Same.new hT, _, zipP_get e1 e2, .tup (.of upd_same) (.cons (r1.grow (.new hT)) (.cons (r2.grow (.new hT)) .nil))⟩
  · cases e1
def isi2D (S T : String) : PyData → Option PyData
  | .dict _ => none
  | d => some (.bool (isB (tyN d) S || isB (tyN d) T))
theorem de_isi2 (S T : String) {x y : Str} {q3 : Pos} {n : _} (hS : KitT S) (hT : KitT T) (ha : DE X a fa) (hg : Gl X "isinstance") (hm : X.mg "isinstance" = none) (hg1 : Gl X x) (hm1 : X.mg x = none) (hg2 : Gl X y) (hm2 : X.mg y = none)
    (hv1 : bootBuiltins x = some (.type S) := by decide +kernel) (hv2 : bootBuiltins y = some (.type T) := by decide +kernel)
    (hn1 : x ≠ "__name__" := by decide) (hd1 : (x == ("__debug__" : Str)) = false := by decide) (hn2 : y ≠ "__name__" := by decide) (hd2 : (y == ("__debug__" : Str)) = false := by decide)
    (he1 : starEach [a, .Tuple [.Name x q1, .Name y q2] n q3] X.env = (false, eval a X.env) :: starEach [.Tuple [.Name x q1, .Name y q2] n q3] X.env := by rfl) (he2 : starEach [.Tuple [.Name x q1, .Name y q2] n q3] X.env = (false, eval (.Tuple [.Name x q1, .Name y q2] n q3) X.env) :: starEach [] X.env := by rfl)
    (he3 : starEach [.Name x q1, .Name y q2] X.env = (false, eval (.Name x q1) X.env) :: starEach [.Name y q2] X.env := by rfl) (he4 : starEach [.Name y q2] X.env = (false, eval (.Name y q2) X.env) :: starEach [] X.env := by rfl)
    (hpl : (backTo pos (starEach [.Tuple [.Name x q1, .Name y q2] n q3] X.env)).any (·.1) = false := by rfl) : DE X (.Call (.Name "isinstance" p) [a, .Tuple [.Name x q1, .Name y q2] n q3] [] pos) (m1 (isi2D S T) fa) := by
  refine ⟨fun W => (pe_callB call_isiT hg hm (by decide +kernel) (pa_cons (ha.pe W) (pa_cons (pe_tup (pa_cons (pe_bltn (v := .ty S) hg1 hm1 hv1 rfl hn1 hd1) (pa_cons (pe_bltn (v := .ty T) hg2 hm2 hv2 rfl hn2 hd2) pa_nil he4) he3)) pa_nil he2) he1) (by decide) (by decide) he1 hpl).imp fun σ H Q ⟨ρ, z, ρ', R, e, k⟩ => ?_⟩
  obtain ⟨d, e1, e2⟩ := m1_inv e
  refine ⟨ρ, d, ρ', R, e1, fun v H1 R1 D1 g1 => ?_⟩
  have hd : ∀ kvs, d ≠ .dict kvs := fun kvs z => by subst z; cases e2
  have e3 : z = .bool (isB (tyN d) S || isB (tyN d) T) := by cases d <;> first | (cases e2; rfl) | exact absurd rfl (hd _)
  subst e3
  refine ⟨by rw [sizeLine_eq]; show 2 ≤ 16777216; decide, fun t ht => ?_⟩
  have D2 := D1.grow (.new (o := .tup [.ty S, .ty T]) ht)
  refine ⟨v, t, [.ty S, .ty T], .type (tyN d), [.type S, .type T], _, rfl, upd_same, .cons (.ty S) (.cons (.ty T) .nil), tyX_of D2 hd, ?_, k _ _ (R1.same (Same.new ht)) (.bl _) (g1.trans (.new ht))⟩
  refine kitAny_cons (b := isB (tyN d) S) (kit_ty (hS _ (tyN_mem hd))) (fun h => ?_) (fun h => by rw [h]; rfl)
  rw [h, Bool.false_or]
  refine kitAny_cons (b := isB (tyN d) T) (kit_ty (hT _ (tyN_mem hd))) (fun h => ?_) (fun h => h)
  rw [h]
  exact kitAny_nil
end
section
variable {X : Cx} {elt tg tg1 iter iter1 : Expr} {ifs ifs1 : List Expr} {scope : Scope} {pos py spos : Pos} {y : Str} {fi fi1 : M (List PyData)} {gt gt1 : PyData → Env → Option Env} {tt tt1 : M Bool} {fe : M PyData} {ts ts1 vs : List Nat}
theorem ds_setLc2 (i : Nat) (hc : X.calm = true) (hN : X.N.Nodup) (hi : DI X tg iter fi) (own : List (Str × Nat)) (ok : blkC X.N X.env.scope scope own = true) (vs1 : List Nat) (hg : AllB X scope fun Y => DG Y tg ts gt) (ht : AllB X scope fun Y => DTs Y ifs tt)
    (hi1 : AllB X scope fun Y => DI Y tg1 iter1 fi1) (hg1 : AllB X scope fun Y => DG Y tg1 ts1 gt1) (ht1 : AllB X scope fun Y => DTs Y ifs1 tt1) (he : AllB X scope fun Y => DE Y elt fe)
    (hsw : swapsWith (.ListComp elt [⟨tg, iter, ifs, 0⟩, ⟨tg1, iter1, ifs1, 0⟩] scope pos) (some (.Name y py)) spos.line X.env = pure true) (hy : X.N[i]? = some y := by rfl) (hyl : X.env.scope.names.lookup y = some .local := by rfl)
    (hv : own.map (·.2) = vs := by rfl) (hts : ∀ i ∈ ts, i ∈ vs := by decide) (hts1 : ∀ i ∈ ts1, i ∈ vs1 := by decide) (hvs : ∀ i ∈ vs1, i ∈ vs := by decide) (hs : ∀ x, foldedSetIterable iter X.env x = pure x := by intro _; rfl) (hs1 : ∀ env x, foldedSetIterable iter1 env x = pure x := by intro _ _; rfl) :
    DS X (.Assign [.Name y py] (.ListComp elt [⟨tg, iter, ifs, 0⟩, ⟨tg1, iter1, ifs1, 0⟩] scope pos) spos) (sSet i (mLst (mLC2 vs vs1 fi gt tt fi1 gt1 tt1 fe))) := by
  subst hv
  exact ⟨fun W => (ps_setLc2 (wi := xI (wdX X) fi) (g := xG (wdX X) ts gt) (tt := xT (wdX X) tt) (wi1 := xI (wdX X) fi1) (g1 := xG (wdX X) ts1 gt1) (tt1 := xT (wdX X) tt1) (te := xE (wdX X) fe) hc hN hy hyl hsw hi.x (blkOk_by ok) hvs (fun s H C cl fp => (hg s H C cl fp).x) (fun s H C cl fp => (ht s H C cl fp).x)
    (fun s H C cl fp => (hi1 s H C cl fp).x) (fun s H C cl fp => (hg1 s H C cl fp).x) (fun s H C cl fp => (ht1 s H C cl fp).x) (fun s H C cl fp => (he s H C cl fp).x) hs hs1).imp (st_imp (lc2_imp hts hts1 hvs))⟩
end

def rIxO (Γ : Wd) : R2 := fun x y H Q => ∃ D xs kvs t k d, x = .ref D ∧ y = .ref t ∧ H D = some (dO Γ D xs) ∧ DfE Γ H xs kvs ∧ Df Γ H (.ref t) (NestedKey.data k) ∧ k.depth ≤ 8 ∧ getE kvs k.data = some d ∧ ∀ v, Df Γ H v d → Q v H
theorem ix_dO {X : Cx} (hu : X.A.units + 9 < cLine) : IxR X (rIxO (wdX X)) := by
  intro value slice pins s σ H x y v u Q I rx ry h hs
  obtain ⟨D, xs, kvs, t, k, d, rfl, rfl, hD, he, hk, hdp, hg, q⟩ := h
  obtain rfl : v = Value.ref D := rx
  obtain rfl : u = Value.ref t := ry
  obtain ⟨dd, hsm, hz, _⟩ := dO_of I (.inl hD) he
  obtain ⟨p, w, hp, rp, hv⟩ := he.get k hg
  exact tail_any dd.typeIs slot_dict_getitem.lookup (wpAny_getItem_heap (knd := nestedKind X.prog X.w) (keyRoom hu) ⟨nested_of I _ _ _ hk rfl, hdp⟩ dd hp ⟨w, H, I.tok _, rp, q w hv⟩) hs
def mDget (i : Nat) (fb : M PyData) : M PyData := fun ρ => if isDic i ρ = true then (match fb ρ with
    | some (kd, ρ1) => (match ρ1[i]? with
      | some (.dic kvs) => (match tupKey kd, getE kvs kd with
        | some _, some d => some (d, ρ1)
        | _, _ => none)
      | _ => none)
    | none => none) else none
theorem de_dget {X : Cx} {b : Expr} {fb : M PyData} {pos : Pos} (hu : X.A.units + 9 < cLine) (i : Nat) {x : Str} {p : Pos} (hb : DE X b fb) (hs : PlainIx b := by intro _ _; rfl) (hN : X.N[i]? = some x := by rfl) (hv : Vis X.env.scope x := by first | exact Or.inl rfl | exact Or.inr (Or.inl rfl) | exact Or.inr (Or.inr rfl)) (hd : (x == ("__debug__" : Str)) = false := by decide)
    (hcd : (x == ("__classdict__" : Str)) = false := by decide) : DE X (.Subscript (.Name x p) b pos) (mDget i fb) := by
  refine ⟨fun W => (pe_ix (ix_dO hu) (pe_var (i := i) hN hv hd hcd) (hb.pe W) hs).imp fun σ H Q ⟨ρ, z, ρ', R, e, k⟩ => ?_⟩
  unfold mDget at e
  split at e
  · rename_i hD
    obtain ⟨kvs0, e0⟩ := isDic_inv hD
    obtain ⟨a, xs0, ev, w, h1, h2⟩ := R.at_ i _ e0
    split at e
    · rename_i kd ρ1 e1
      split at e
      · rename_i kvs e2
        split at e
        · rename_i nk d ek eg
          cases e
          refine ⟨_, ev, ρ, kd, _, R, e1, fun u H2 R2 D2 g2 => ?_⟩
          obtain ⟨b, xs, eb, w2, h3, h4⟩ := R2.at_ i _ e2
          rw [ev] at eb; cases eb
          obtain ⟨t, rfl, hk, hdp, rfl⟩ := tupKey_ref ek D2
          exact ⟨a, xs, kvs, t, nk, _, rfl, rfl, h3, h4, hk, hdp, eg, fun v hv => k v H2 R2 hv g2⟩
        · cases e
      · cases e
    · cases e
  · cases e
end Dn
namespace Dn
open PySem PySem.W PySem.Spec PyProof.Rows L2 C8
theorem pf_none {P : Program} {w : World} {K : PySem.W.Frag} {mg : Str → Option Value} {base : Heap} {k m n : Nat} {x : Str} (c : PF P w K mg base k x n (runP' m fun _ => none)) : PF P w K mg base k x n (fun _ => none) := by
  have e : runP' m (fun _ => none) = fun _ => none := by
    funext ds
    rfl
  rw [e] at c
  exact c
theorem bt_str : bootBuiltins "str" = some (.type "str") := by decide +kernel
theorem bt_dict : bootBuiltins "dict" = some (.type "dict") := by decide +kernel
end Dn
namespace Dn
open PySem PySem.W PySem.Spec PyProof.Rows L2 C8
def selD (C : Addr) (f : Str) (ρ : Env) : Option PyData := match ρ[(0 : Nat)]? with
  | some (.sel C' f' d) => if C' = C ∧ f' = f then some d else none
  | _ => none
def conD (CC : Addr) (x : Str) (C : Addr) (f : Str) (ρ : Env) : Option PyData := match ρ[(0 : Nat)]? with
  | some (.con CC' C' x' f' d) => if CC' = CC ∧ C' = C ∧ x' = x ∧ f' = f then some d else none
  | _ => none
def endM (sd : Env → Option PyData) : Option OX → Option ((PyData ⊕ Xn) × PyData)
  | some (.inl (.rt (.dat y) ρ)) => (sd ρ).map fun d => (.inl y, d)
  | some (.inl (.nx ρ)) => (sd ρ).map fun d => (.inl .none, d)
  | some (.inr (xn, ρ)) => (sd ρ).map fun d => (.inr xn, d)
  | _ => none
def runM (C : Addr) (f : Str) (m : Nat) (g : MX) : FM := fun d ds => endM (selD C f) (g (.sel C f d :: ds.map .dat ++ uns m))
def runC (CC : Addr) (x : Str) (C : Addr) (f : Str) (m : Nat) (g : MX) : FM := fun d ds => endM (conD CC x C f) (g (.con CC C x f d :: ds.map .dat ++ uns m))
def endG : Option Out → Option (PyData × Env)
  | some (.rt (.dat y) ρ) => some (y, ρ)
  | _ => none
def runG (C : Addr) (f : Str) (m : Nat) (g : MS) : PyData → Option PyData := fun d => match endG (g (.sel C f d :: uns m)) with
  | some (y, ρ) => if selD C f ρ = none then none else some y
  | none => none
def minus (H : Hp) (a : Addr) : Hp := fun b => if b = a then none else H b
theorem kp_minus {H : Hp} {a : Addr} {sf sc : Option Addr} (b : Addr) : (Wt.kp { bo := minus H a, sf := sf, sc := sc }) b = if b = a then none else H b := by
  unfold Wt.kp minus
  by_cases hb : b = a
  · simp [hb]
  · simp only [hb, if_false]
    cases H b <;> rfl
section
variable {Γ : Wd} {H : Hp} {N : List Str} {vs : List V} {ds : List PyData} {m : Nat} {a b : Addr} {sf sc : Option Addr} {s : Sl}
theorem rep_obj (hs : SlOk Γ { bo := minus H a, sf := sf, sc := sc } H (some (some (.ref b))) s) (hm : ¬ mutS (some s)) (hd : DfA Γ H vs ds) (hl : ds.length + m + 1 = N.length) : RepS Γ { bo := minus H a, sf := sf, sc := sc } (L2.start N (.ref b :: vs)) H (s :: ds.map .dat ++ uns m) := by
  have hlv := hd.length
  refine ⟨?_, fun b o e => ?_, fun i t e => ?_, fun i j b hij hi hj => ?_, fun b e => by cases e⟩
  · rw [start_len (by simp; omega)]; simp [uns]; omega
  · rw [kp_minus] at e
    split at e
    · cases e
    · exact e
  · cases i with
    | zero =>
      cases e
      rw [show (L2.start N (.ref b :: vs))[0]? = some (some (.ref b)) from start_get rfl]
      exact hs
    | succ i =>
      have e2 : (ds.map Sl.dat ++ uns m)[i]? = some t := by simpa using e
      rcases env_get e2 with ⟨d, hd', rfl⟩ | rfl
      · obtain ⟨v, hv, dv⟩ := hd.get hd'
        exact ⟨v, start_get (by simpa using hv), dv⟩
      · trivial
  · exfalso
    cases i with
    | zero => exact hm hi
    | succ i => exact absurd (show mutS (ds.map Sl.dat ++ uns m)[i]? by simpa using hi) env_nomut
theorem keep_minus {σ' : Sg} {H' : Hp} {ρ' : Env} (R : RepS Γ { bo := minus H a, sf := sf, sc := sc } σ' H' ρ') : But a H H' := fun b o hb e => R.keep b o (by rw [kp_minus, if_neg hb]; exact e)
theorem sel_end {C : Addr} {f : Str} {d : PyData} {σ' : Sg} {H' : Hp} {ρ' : Env} (R : RepS Γ { bo := minus H a, sf := some a, sc := sc } σ' H' ρ') (e : selD C f ρ' = some d) : ∃ v', At1 H' a C f v' ∧ Df Γ H' v' d := by
  unfold selD at e
  split at e
  · rename_i C' f' d' es
    split at e
    · rename_i hh
      obtain ⟨rfl, rfl⟩ := hh
      cases e
      obtain ⟨a', dx, v, ef, eo, w, h1, h2⟩ := R.at_ 0 _ es
      cases ef
      exact ⟨v, ⟨dx, h1⟩, h2⟩
    · cases e
  · cases e
theorem con_end {CC C : Addr} {x f : Str} {d : PyData} {σ' : Sg} {H' : Hp} {ρ' : Env} (R : RepS Γ { bo := minus H a, sf := sf, sc := some a } σ' H' ρ') (e : conD CC x C f ρ' = some d) : ∃ v', At1 H' a C f v' ∧ Df Γ H' v' d := by
  unfold conD at e
  split at e
  · rename_i CC' C' x' f' d' es
    split at e
    · rename_i hh
      obtain ⟨rfl, rfl, rfl, rfl⟩ := hh
      cases e
      obtain ⟨b', a', bx, dx, v, ef, esc, eo, ne, w, h1, h2, h3⟩ := R.at_ 0 _ es
      cases esc
      exact ⟨v, ⟨dx, h2⟩, h3⟩
    · cases e
  · cases e
end
section
variable {P : Program} {w : World} {K : PySem.W.Frag} {mg : Str → Option Value} {base : Heap} {x qual : Str} {params : Arguments} {body : List Stmt} {scope : Scope} {f : Addr} {fd : FuncData} {N ps : List Str} {k m : Nat} {g : MX}
theorem fn_meth {C : Addr} {fld : Str} (F : FunD K x qual params body scope [] [] f fd) (S : FnScope N ps scope) (n : Nat) (hn : ps.length = n + 1) (hN : ps.length + m = N.length)
    (h : ∀ cdv A outer s H E, Room k (XX P w K mg base N qual scope f cdv A outer s H E).A → DSsx (XX P w K mg base N qual scope f cdv A outer s H E) body g) : FnOk P w K mg base (L2N.CX P w) (k + 1) f fd ps (spM ⟨P, w, K⟩ mg C fld n (runM C fld m g)) := by
  refine F.ok S (fun vs H Q E ⟨a, v, d, vs', ds, r, e0, _, _, hd, hl, _⟩ => by rw [e0, List.length_cons, hd.length]; omega) (fun cdv A outer s H vs Q E hr ⟨a, v, d, vs', ds, r, e0, ⟨dx, ha⟩, hv, hd, hl, e, q⟩ => ⟨_, (h cdv A outer s H E hr).ps { bo := minus H a, sf := some a } (fun c d _ H' => E c d H') (L2N.takes_of rfl rfl rfl rfl), ?_⟩)
  subst e0
  have R := rep_obj (Γ := ⟨P, w, K⟩) (N := N) (vs := vs') (ds := ds) (m := m) (a := a) (b := a) (sf := some a) (sc := none) (s := .sel C fld d) (H := H) ⟨a, dx, v, rfl, rfl, by rw [kp_minus, if_pos rfl], ha, hv⟩ (fun z => z) hd (by omega)
  unfold runM at e
  cases ho : g (.sel C fld d :: ds.map .dat ++ uns m) with
  | none => rw [ho] at e; cases e
  | some o =>
    rw [ho] at e
    refine ⟨_, o, R, ho, ?_⟩
    cases o with
    | inr xr =>
      obtain ⟨xn, ρ'⟩ := xr
      obtain ⟨d', e1, e2⟩ := Option.map_eq_some_iff.mp e
      subst e2
      intro c dd σ' H' R' g' z
      obtain ⟨v', h1, h2⟩ := sel_end R' e1
      exact q H' v' (keep_minus R') h1 h2 c dd z
    | inl o =>
      cases o with
      | nx ρ' =>
        obtain ⟨d', e1, e2⟩ := Option.map_eq_some_iff.mp e
        subst e2
        intro σ' H' R' g'
        obtain ⟨v', h1, h2⟩ := sel_end R' e1
        exact q H' v' (keep_minus R') h1 h2 .non .non
      | rt s0 ρ' =>
        cases s0 with
        | dat y =>
          obtain ⟨d', e1, e2⟩ := Option.map_eq_some_iff.mp e
          subst e2
          intro u σ' H' R' n g'
          obtain ⟨v', h1, h2⟩ := sel_end R' e1
          exact q H' v' (keep_minus R') h1 h2 u n
        | _ => cases e
      | bk ρ' => cases e
      | ct ρ' => cases e
theorem fn_con {CC C : Addr} {y fld : Str} (F : FunD K x qual params body scope [] [] f fd) (S : FnScope N ps scope) (n : Nat) (hn : ps.length = n + 1) (hN : ps.length + m = N.length)
    (h : ∀ cdv A outer s H E, Room k (XX P w K mg base N qual scope f cdv A outer s H E).A → DSsx (XX P w K mg base N qual scope f cdv A outer s H E) body g) : FnOk P w K mg base (L2N.CX P w) (k + 1) f fd ps (spC ⟨P, w, K⟩ mg CC y C fld n (runC CC y C fld m g)) := by
  refine F.ok S (fun vs H Q E ⟨b, bx, a, v, d, vs', ds, r, e0, _, _, _, _, hd, hl, _⟩ => by rw [e0, List.length_cons, hd.length]; omega) (fun cdv A outer s H vs Q E hr ⟨b, bx, a, v, d, vs', ds, r, e0, ne, hb, ⟨dx, ha⟩, hv, hd, hl, e, q⟩ => ⟨_, (h cdv A outer s H E hr).ps { bo := minus H a, sf := some b, sc := some a } (fun c d _ H' => E c d H') (L2N.takes_of rfl rfl rfl rfl), ?_⟩)
  subst e0
  have R := rep_obj (Γ := ⟨P, w, K⟩) (N := N) (vs := vs') (ds := ds) (m := m) (a := a) (b := b) (sf := some b) (sc := some a) (s := .con CC C y fld d) (H := H) ⟨b, a, bx, dx, v, rfl, rfl, rfl, ne, by rw [kp_minus, if_pos rfl], hb, ha, hv⟩ (fun z => z) hd (by omega)
  unfold runC at e
  cases ho : g (.con CC C y fld d :: ds.map .dat ++ uns m) with
  | none => rw [ho] at e; cases e
  | some o =>
    rw [ho] at e
    refine ⟨_, o, R, ho, ?_⟩
    cases o with
    | inr xr =>
      obtain ⟨xn, ρ'⟩ := xr
      obtain ⟨d', e1, e2⟩ := Option.map_eq_some_iff.mp e
      subst e2
      intro c dd σ' H' R' g' z
      obtain ⟨v', h1, h2⟩ := con_end R' e1
      exact q H' v' (keep_minus R') h1 h2 c dd z
    | inl o =>
      cases o with
      | nx ρ' =>
        obtain ⟨d', e1, e2⟩ := Option.map_eq_some_iff.mp e
        subst e2
        intro σ' H' R' g'
        obtain ⟨v', h1, h2⟩ := con_end R' e1
        exact q H' v' (keep_minus R') h1 h2 .non .non
      | rt s0 ρ' =>
        cases s0 with
        | dat y =>
          obtain ⟨d', e1, e2⟩ := Option.map_eq_some_iff.mp e
          subst e2
          intro u σ' H' R' n g'
          obtain ⟨v', h1, h2⟩ := con_end R' e1
          exact q H' v' (keep_minus R') h1 h2 u n
        | _ => cases e
      | bk ρ' => cases e
      | ct ρ' => cases e
theorem fn_get {C : Addr} {fld : Str} {g : MS} (F : FunD K x qual params body scope [] [] f fd) (S : FnScope N ps scope) (hn : ps.length = 1) (hN : ps.length + m = N.length)
    (h : ∀ cdv A outer s H E, Room k (BX P w K mg base N qual scope f cdv A outer s H E).A → DSs (BX P w K mg base N qual scope f cdv A outer s H E) body g) (hself : ∀ d y ρ, endG (g (.sel C fld d :: uns m)) = some (y, ρ) → selD C fld ρ = none ∨ selD C fld ρ = some d) : FnOk P w K mg base C8.CX0 (k + 1) f fd ps (spG ⟨P, w, K⟩ C fld (runG C fld m g)) := by
  refine F.ok S (fun vs H Q E ⟨a, v, d, y, e0, _⟩ => by rw [e0, hn]; rfl) (fun cdv A outer s H vs Q E hr ⟨a, v, d, y, e0, ⟨dx, ha⟩, hv, e, q⟩ => ⟨_, PSs.nox ((h cdv A outer s H E hr).ps { bo := minus H a, sf := some a }), ?_⟩)
  subst e0
  have R := rep_obj (Γ := ⟨P, w, K⟩) (N := N) (vs := []) (ds := []) (m := m) (a := a) (b := a) (sf := some a) (sc := none) (s := .sel C fld d) (H := H) ⟨a, dx, v, rfl, rfl, by rw [kp_minus, if_pos rfl], ha, hv⟩ (fun z => z) .nil (by simp; omega)
  unfold runG at e
  split at e
  · rename_i y' ρ' e1
    split at e
    · cases e
    · rename_i hne
      cases e
      have hs : selD C fld ρ' = some d := (hself d y ρ' e1).resolve_left hne
      cases ho : g (.sel C fld d :: uns m) with
      | none => rw [ho] at e1; cases e1
      | some o =>
        rw [ho] at e1
        refine ⟨_, o, R, ho, ?_⟩
        cases o with
        | rt s0 ρ2 =>
          cases s0 with
          | dat y2 =>
            cases e1
            intro u σ' H' R' n g'
            obtain ⟨v', h1, h2⟩ := sel_end R' hs
            exact q u H' v' (keep_minus R') h1 h2 n
          | _ => cases e1
        | _ => cases e1
  · cases e
end
end Dn
namespace Dn
open PySem PySem.W PySem.Spec PyProof.Rows L2 C8
theorem passN {X : Cx} : Passes (L2N.CX X.prog X.w) X (fun _ _ _ => False) := fun pins σ H s e s' I h => by
  obtain ⟨_, _, _, _, _, _, _, _, _, _, _, _, z⟩ := h
  exact z.elim
def spIn (Γ : Wd) (C : Addr) (f : Str) (gi : PyData → Option PyData) : Sp := fun vs H Q _ => ∃ a dx v d y, vs = [.ref a, v] ∧ H a = some (.ins C dx []) ∧ Df Γ H v d ∧ gi d = some y ∧ ∀ H' v', But a H H' → At1 H' a C f v' → Df Γ H' v' y → Q .non H'
structure MkE (P : Program) (w : World) (K : PySem.W.Frag) (mg : Str → Option Value) (base : Heap) (k : Nat) (x : Str) (C : Addr) (f : Str) (gi : PyData → Option PyData) : Prop where
  ex : ∃ (ga : Addr) (fd : FuncData) (ps : List Str), Mk K C ga ∧ mg x = some (.ref C) ∧ FnOk P w K mg base (L2N.CX P w) k ga fd ps (spIn ⟨P, w, K⟩ C f gi) ∧ L2.Binds K fd ps []
def mMake (C : Addr) (f : Str) (gi : PyData → Option PyData) (fe : M PyData) : M Sl := fun ρ => match fe ρ with
  | some (d, ρ1) => (match gi d with
    | some y => some (.obj C f y, ρ1)
    | none => none)
  | none => none
theorem made_same {H : Hp} {x dx C : Addr} (hx : H x = none) (hd : H dx = none) : Same H (upd (upd H dx (.own x)) x (.ins C dx [])) := fun b o e => by
  rw [upd_ne (fun z => by subst z; rw [hx] at e; cases e), upd_ne (fun z => by subst z; rw [hd] at e; cases e)]
  exact e
theorem make_same {H H' : Hp} {x dx C : Addr} (hx : H x = none) (hd : H dx = none) (k : But x (upd (upd H dx (.own x)) x (.ins C dx [])) H') : Same H H' := fun b o e => k b o (fun z => by subst z; rw [hx] at e; cases e) (made_same hx hd b o e)
section
variable {X : Cx} {k j : Nat} {x f : Str} {C : Addr} {gi : PyData → Option PyData} {e : Expr} {fe : M PyData} {p pos : Pos}
theorem se_make (c : MkE X.prog X.w X.K X.mg X.base k x C f gi) (hr : Room j X.A) (hk : k + 1 ≤ j) (ha : DE X e fe) (hg : Gl X x := by rfl) (hdb : (x == ("__debug__" : Str)) = false := by decide) (he : starEach [e] X.env = (false, eval e X.env) :: starEach [] X.env := by rfl) (hpl : (backTo pos (starEach [] X.env)).any (·.1) = false := by rfl) : SE X (.Call (.Name x p) [e] [] pos) (mMake C f gi fe) := by
  obtain ⟨ga, fd, ps, M, hm, F, hb⟩ := c.ex
  refine ⟨fun W => (pe_make M F (hr.mono hk) hg hm hb .nil passN (pa_cons (ha.pe W) pa_nil he) hdb he hpl).imp fun σ H Q ⟨ρ, s, ρ', R, e1, q⟩ => ?_⟩
  unfold mMake at e1
  split at e1
  · rename_i d ρ1 e2
    split at e1
    · rename_i y e3
      cases e1
      refine ⟨ρ, d, _, R, e2, fun v H1 R1 D1 g1 x dx hx hd ne => ?_⟩
      have sm := made_same (C := C) hx hd
      refine ⟨x, dx, v, d, y, rfl, upd_same, D1.grow (.same sm), e3, fun H' v' kb ⟨dx', h1⟩ h2 => ⟨rfl, ?_⟩⟩
      have sm2 := make_same hx hd kb
      exact q _ H' (R1.same sm2) ⟨x, dx', v', rfl, (by
        cases hW : W.kp x with
        | none => rfl
        | some o => have := R1.keep x o hW; rw [hx] at this; cases this), h1, h2⟩ (g1.trans (.same sm2))
    · cases e1
  · cases e1
end
theorem rep_gen {Γ : Wd} {H : Hp} {N : List Str} {vs : List V} {ds : List PyData} {m : Nat} {v : V} {s : Sl} {W : Wt} (hk : Same W.kp H) (ha : W.anc = none) (hs : SlOk Γ W H (some (some v)) s) (hm : ¬ mutS (some s)) (hd : DfA Γ H vs ds) (hl : ds.length + m + 1 = N.length) : RepS Γ W (L2.start N (v :: vs)) H (s :: ds.map .dat ++ uns m) := by
  have hlv := hd.length
  refine ⟨?_, hk, fun i t e => ?_, fun i j b hij hi hj => ?_, fun b e => by rw [ha] at e; cases e⟩
  · rw [start_len (by simp; omega)]; simp [uns]; omega
  · cases i with
    | zero =>
      cases e
      rw [show (L2.start N (v :: vs))[0]? = some (some v) from start_get rfl]
      exact hs
    | succ i =>
      have e2 : (ds.map Sl.dat ++ uns m)[i]? = some t := by simpa using e
      rcases env_get e2 with ⟨d, hd', rfl⟩ | rfl
      · obtain ⟨v, hv, dv⟩ := hd.get hd'
        exact ⟨v, start_get (by simpa using hv), dv⟩
      · trivial
  · exfalso
    cases i with
    | zero => exact hm hi
    | succ i => exact absurd (show mutS (ds.map Sl.dat ++ uns m)[i]? by simpa using hi) env_nomut
theorem Same.bo {H H' : Hp} (h : Same H H') : Same (Wt.kp { bo := H }) H' := fun a o e => h a o (by rw [kp_bo] at e; exact e)
/-- check(cell); self.f = e -/
def giX (fx : FX) (fe : M PyData) : PyData → Option PyData := fun d => match fx [d] with
  | some (.inl _) => (match fe [.un, .dat d] with
    | some (y, _) => some y
    | none => none)
  | _ => none
section
variable {P : Program} {w : World} {K : PySem.W.Frag} {mg : Str → Option Value} {base : Heap} {qual y z ck fld : Str} {params : Arguments} {scope : Scope} {ga : Addr} {fd : FuncData} {k j : Nat} {fx : FX} {fe : M PyData} {p1 p2 p3 p4 q1 q2 q3 : Pos} {e : Expr} {C : Addr}
theorem fn_init1 (F : FunD K "__init__" qual params [.Expr (.Call (.Name ck p1) [.Name z p2] [] p3) p4, .Assign [.Attribute (.Name y q1) fld q2] e q3] scope [] [] ga fd) (S : FnScope [y, z] [y, z] scope) (c : XF P w K mg base k ck 1 fx) (hk : k ≤ j) (cl : Cls K C) (na : NoAttr K C fld)
    (he : ∀ cdv A outer s H E, Room j (XX P w K mg base [y, z] qual scope ga cdv A outer s H E).A → DE (XX P w K mg base [y, z] qual scope ga cdv A outer s H E) e fe)
    (hg : ∀ cdv A outer s H E, Gl (XX P w K mg base [y, z] qual scope ga cdv A outer s H E) ck) (hv1 : ∀ cdv A outer s H E, Vis (XX P w K mg base [y, z] qual scope ga cdv A outer s H E).env.scope y) (hv2 : ∀ cdv A outer s H E, Vis (XX P w K mg base [y, z] qual scope ga cdv A outer s H E).env.scope z)
    (hy : (y == ("__debug__" : Str)) = false) (hy2 : (y == ("__classdict__" : Str)) = false) (hz : (z == ("__debug__" : Str)) = false) (hz2 : (z == ("__classdict__" : Str)) = false) (hck : (ck == ("__debug__" : Str)) = false)
    (hsw : ∀ env, swapsWith (.Call (.Name ck p1) [.Name z p2] [] p3) none p4.line env = pure false) (hsw2 : ∀ env, swapsWith e (some (.Attribute (.Name y q1) fld q2)) q3.line env = pure false) : FnOk P w K mg base (L2N.CX P w) (j + 1) ga fd [y, z] (spIn ⟨P, w, K⟩ C fld (giX fx fe)) := by
  obtain ⟨fa, fdc, psc, Fc, hmc, kpc, hbc⟩ := c.ex
  refine F.ok S (fun vs H Q E ⟨a, dx, v, d, y, e0, _⟩ => by rw [e0]; rfl) (fun cdv A outer s H vs Q E hr ⟨a, dx, v, d, yy, e0, ha, hv, eg, q⟩ => ⟨_, pss_cons (ps_expr (pe_callS (E := fun σ => WE (fun _ _ _ _ => False) σ) Fc (hr.mono hk) (hg cdv A outer s H E) hmc kpc hbc (fun σ => L2N.passAt takesN0 σ) (pa_cons (pe_var (i := 1) rfl (hv2 cdv A outer s H E) hz hz2) pa_nil) hck) (hsw _)) (pss_one (ps_fld (pe_var (i := 0) rfl (hv1 cdv A outer s H E) hy hy2) ((he cdv A outer s H E hr).pe { bo := H }) (hsw2 _))), ?_⟩)
  subst e0
  unfold giX at eg
  split at eg
  · rename_i s0 ec
    split at eg
    · rename_i y' ρ2 ee
      cases eg
      refine ⟨v, rfl, [d], .inl s0, .cons hv .nil, rfl, ec, fun u H2 sm _ => ?_⟩
      have R : RepS ⟨P, w, K⟩ { bo := H } (L2.start [y, z] [.ref a, v]) H2 [.un, .dat d] := rep_gen (W := { bo := H }) (N := [y, z]) (vs := [v]) (ds := [d]) (m := 0) (s := .un) (Same.bo sm) rfl trivial (fun z => z) (.cons (hv.grow (.same sm)) .nil) rfl
      refine ⟨_, _, _, R, ee, fun u3 H3 R3 D3 g3 => ?_⟩
      have h3 : H3 a = some (.ins C dx []) := R3.keep a _ (by rw [kp_bo]; exact ha)
      refine ⟨.ref a, start_get rfl, a, C, dx, [], rfl, h3, cl, na, (show 0 < 1000 by decide), ?_⟩
      refine q _ u3 (fun b o hb e => ?_) ⟨dx, upd_same⟩ (D3.grow ?_)
      · rw [upd_ne hb]
        exact R3.keep b o (by rw [kp_bo]; exact e)
      · exact .but (by rw [h3]; trivial)
    · cases eg
  · cases eg
end

def spInC (CC : Addr) (x : Str) (C : Addr) : Sp := fun vs H Q _ => ∃ b bx a dx fs, vs = [.ref b, .ref a] ∧ H b = some (.ins CC bx []) ∧ H a = some (.ins C dx fs) ∧ b ≠ a ∧ ∀ H', But b H H' → (∃ bx', H' b = some (.ins CC bx' [(x, .ref a)])) → Q .non H'
structure MkC (P : Program) (w : World) (K : PySem.W.Frag) (mg : Str → Option Value) (base : Heap) (k : Nat) (nm : Str) (CC : Addr) (x : Str) (C : Addr) : Prop where
  ex : ∃ (ga : Addr) (fd : FuncData) (ps : List Str), Mk K CC ga ∧ mg nm = some (.ref CC) ∧ FnOk P w K mg base (L2N.CX P w) k ga fd ps (spInC CC x C) ∧ L2.Binds K fd ps [] ∧ CC ≠ C
section
variable {P : Program} {w : World} {K : PySem.W.Frag} {mg : Str → Option Value} {base : Heap} {qual y z nm fld : Str} {params : Arguments} {scope : Scope} {ga : Addr} {fd : FuncData} {j : Nat} {p1 p2 p3 p4 p5 p6 q0 q1 q2 q3 : Pos} {rs : List Stmt} {CC C : Addr}
theorem fn_init2 (F : FunD K "__init__" qual params [.If (.UnaryOp .Not (.Call (.Name "isinstance" p1) [.Name z p2, .Name nm p3] [] p4) p5) rs [] p6, .Assign [.Attribute (.Name y q1) fld q2] (.Name z q0) q3] scope [] [] ga fd) (S : FnScope [y, z] [y, z] scope) (cl : Cls K CC) (na : NoAttr K CC fld) (ic : InsC K C)
    (hmi : mg "isinstance" = none) (hmn : mg nm = some (.ref C))
    (hgi : ∀ cdv A outer s H E, Gl (XX P w K mg base [y, z] qual scope ga cdv A outer s H E) "isinstance") (hgn : ∀ cdv A outer s H E, Gl (XX P w K mg base [y, z] qual scope ga cdv A outer s H E) nm)
    (hv1 : ∀ cdv A outer s H E, Vis (XX P w K mg base [y, z] qual scope ga cdv A outer s H E).env.scope y) (hv2 : ∀ cdv A outer s H E, Vis (XX P w K mg base [y, z] qual scope ga cdv A outer s H E).env.scope z)
    (hy : (y == ("__debug__" : Str)) = false) (hy2 : (y == ("__classdict__" : Str)) = false) (hz : (z == ("__debug__" : Str)) = false) (hz2 : (z == ("__classdict__" : Str)) = false) (hn : (nm == ("__debug__" : Str)) = false)
    (hsw2 : ∀ env, swapsWith (.Name z q0) (some (.Attribute (.Name y q1) fld q2)) q3.line env = pure false) : FnOk P w K mg base (L2N.CX P w) (j + 1) ga fd [y, z] (spInC CC fld C) := by
  refine F.ok S (fun vs H Q E ⟨b, bx, a, dx, fs, e0, _⟩ => by rw [e0]; rfl) (fun cdv A outer s H vs Q E hr ⟨b, bx, a, dx, fs, e0, hb, ha, ne, q⟩ => ⟨_, pss_cons (ps_if (pt_not (pt_val (pe_callB (call_isC ic) (hgi cdv A outer s H E) hmi (by decide +kernel) (pa_cons (pe_var (i := 1) rfl (hv2 cdv A outer s H E) hz hz2) (pa_cons (pe_glob (v := .ref C) (hgn cdv A outer s H E) hmn rfl hn) pa_nil)) (by decide) (by decide)))) pss_never pss_nil) (pss_one (ps_fld (pe_var (i := 0) rfl (hv1 cdv A outer s H E) hy hy2) (pe_var (i := 1) rfl (hv2 cdv A outer s H E) hz hz2) (hsw2 _))), ?_⟩)
  subst e0
  refine ⟨.ref a, start_get rfl, a, dx, fs, rfl, ha, true, rfl, ?_⟩
  show tNext _ _ _
  refine ⟨.ref a, start_get rfl, .ref b, start_get rfl, b, CC, bx, [], rfl, hb, cl, na, (show 0 < 1000 by decide), ?_⟩
  exact q _ (fun c o hc e => by rw [upd_ne hc]; exact e) ⟨bx, upd_same⟩
end
end Dn
namespace Dn
open PySem PySem.W PySem.Spec PyProof.Rows L2 C8
abbrev FSd := List PyData → PyData → PyData → Option (PyData × List PyData × PyData)
def But2 (u a : Addr) (H H' : Hp) : Prop := ∀ b o, b ≠ u → b ≠ a → H b = some o → H' b = some o
def EndS (Γ : Wd) (C : Addr) (f : Str) (u a : Addr) (H : Hp) (Q : VK) (r : PyData × List PyData × PyData) : Prop := ∀ H' xs' v' z, But2 u a H H' → H' u = some (.lst xs') → DfA Γ H' xs' r.2.1 → At1 H' a C f v' → Df Γ H' v' r.2.2 → Df Γ H' z r.1 → Q z H'
def spS (Γ : Wd) (CC : Addr) (x : Str) (C : Addr) (f : Str) (g : FSd) : Sp := fun vs H Q _ => ∃ u b bx a v l xs os d yl r, vs = [.ref u, .ref b, l] ∧ CC ≠ C ∧ H u = some (.lst xs) ∧ DfA Γ H xs os ∧ H b = some (.ins CC bx [(x, .ref a)]) ∧ At1 H a C f v ∧ Df Γ H v d ∧ Df Γ H l yl ∧ g os d yl = some r ∧ EndS Γ C f u a H Q r
def endS (CC : Addr) (x : Str) (C : Addr) (f : Str) : Option Out → Option (PyData × List PyData × PyData)
  | some (.rt (.dat y) ρ) => (match ρ[(0 : Nat)]?, ρ[(1 : Nat)]? with
    | some (.own os'), some (.con CC' C' x' f' d') => if CC' = CC ∧ C' = C ∧ x' = x ∧ f' = f then some (y, os', d') else none
    | _, _ => none)
  | _ => none
def runS (CC : Addr) (x : Str) (C : Addr) (f : Str) (m : Nat) (g : MS) : FSd := fun os d yl => endS CC x C f (g (.own os :: .con CC C x f d :: .dat yl :: uns m))
def minus2 (H : Hp) (u a : Addr) : Hp := fun b => if b = u ∨ b = a then none else H b
theorem kp_minus2 {H : Hp} {u a : Addr} {an sf sc : Option Addr} (b : Addr) : (Wt.kp { bo := minus2 H u a, anc := an, sf := sf, sc := sc }) b = if b = u ∨ b = a then none else H b := by
  unfold Wt.kp minus2
  by_cases hb : b = u ∨ b = a
  · simp [hb]
  · simp only [hb, if_false]
    cases H b <;> rfl
section
variable {P : Program} {w : World} {K : PySem.W.Frag} {mg : Str → Option Value} {base : Heap} {x : Str} {params : Arguments} {body : List Stmt} {scope : Scope} {f : Addr} {fd : FuncData} {N ps : List Str} {k m : Nat} {g : MS}
theorem fn_said {CC C : Addr} {fx fld : Str} (F : FunD K x x params body scope [] [] f fd) (S : FnScope N ps scope) (hn : ps.length = 3) (hN : 3 + m = N.length)
    (h : ∀ cdv A outer s H E, Room k (BX P w K mg base N x scope f cdv A outer s H E).A → DSs (BX P w K mg base N x scope f cdv A outer s H E) body g) : FnOk P w K mg base C8.CX0 (k + 1) f fd ps (spS ⟨P, w, K⟩ CC fx C fld (runS CC fx C fld m g)) := by
  refine F.ok S (fun vs H Q E ⟨u, b, bx, a, v, l, xs, os, d, yl, r, e0, _⟩ => by rw [e0, hn]; rfl) (fun cdv A outer s H vs Q E hr ⟨u, b, bx, a, v, l, xs, os, d, yl, r, e0, ne, hu, hx, hb, ⟨dx, ha⟩, hv, hl, e, q⟩ => ⟨_, PSs.nox ((h cdv A outer s H E hr).ps { bo := minus2 H u a, anc := some u, sf := some b, sc := some a }), ?_⟩)
  subst e0
  have ua : u ≠ a := fun z => by subst z; rw [hu] at ha; cases ha
  have ub : u ≠ b := fun z => by subst z; rw [hu] at hb; cases hb
  have ba : b ≠ a := fun z => by subst z; rw [hb] at ha; cases ha; exact ne rfl
  have R : RepS ⟨P, w, K⟩ { bo := minus2 H u a, anc := some u, sf := some b, sc := some a } (L2.start N [.ref u, .ref b, l]) H (.own os :: .con CC C fx fld d :: .dat yl :: uns m) := by
    refine ⟨?_, fun b o e => ?_, fun i s e => ?_, fun i j b hij hi hj => ?_, fun b e => ?_⟩
    · rw [start_len (by simp; omega)]; simp [uns]; omega
    · rw [kp_minus2] at e
      split at e
      · cases e
      · exact e
    · match i, e with
      | 0, e => cases e; exact ⟨u, xs, start_get rfl, by rw [kp_minus2, if_pos (.inl rfl)], hu, hx⟩
      | 1, e => cases e; exact ⟨b, a, bx, dx, v, rfl, rfl, start_get rfl, ne, by rw [kp_minus2, if_pos (.inr rfl)], hb, ha, hv⟩
      | 2, e => cases e; exact ⟨l, start_get rfl, hl⟩
      | i + 3, e =>
        have e2 : (uns m)[i]? = some s := by simpa using e
        unfold uns at e2
        have := List.eq_of_mem_replicate (List.mem_of_getElem? e2)
        subst this
        trivial
    · have no : ∀ i, mutS (Sl.own os :: .con CC C fx fld d :: .dat yl :: uns m)[i]? → i = 0 := fun i hi => by
        match i, hi with
        | 0, _ => rfl
        | 1, hi => exact hi.elim
        | 2, hi => exact hi.elim
        | i + 3, hi =>
          exfalso
          have e2 : mutS (uns m)[i]? := by simpa using hi
          cases e3 : (uns m)[i]? with
          | none => rw [e3] at e2; exact e2
          | some t =>
            rw [e3] at e2
            unfold uns at e3
            have := List.eq_of_mem_replicate (List.mem_of_getElem? e3)
            subst this
            exact e2
      rw [no i hi, no j hj] at hij
      exact absurd rfl hij
    · cases e; exact ⟨start_get rfl, os, rfl⟩
  unfold runS at e
  cases ho : g (.own os :: .con CC C fx fld d :: .dat yl :: uns m) with
  | none => rw [ho] at e; cases e
  | some o =>
    rw [ho] at e
    refine ⟨_, o, R, ho, ?_⟩
    cases o with
    | rt s0 ρ' =>
      cases s0 with
      | dat y =>
        unfold endS at e
        dsimp only at e
        split at e
        · rename_i os' CC' C' x' f' d' e1 e2
          split at e
          · rename_i hh
            obtain ⟨rfl, rfl, rfl, rfl⟩ := hh
            cases e
            intro z σ' H' R' n g'
            obtain ⟨h1, _⟩ := R'.anc u rfl
            obtain ⟨u', xs', eu', _, h3, h4⟩ := R'.at_ 0 _ e1
            rw [h1] at eu'; cases eu'
            obtain ⟨b', a', bx', dx', v', ef, esc, eo, _, _, hb', ha', hv'⟩ := R'.at_ 1 _ e2
            cases ef
            cases esc
            exact q H' xs' v' z (fun c o hu ha e => R'.keep c o (by rw [kp_minus2, if_neg (fun z => z.elim hu ha)]; exact e)) h3 h4 ⟨dx', ha'⟩ hv' n
          · cases e
        · cases e
      | _ => cases e
    | _ => cases e
end
theorem RepS.two_step {Γ : Wd} {W : Wt} {σ : Sg} {H H' : Hp} {ρ : Env} {iu is_ : Nat} {u a C : Addr} {s : Sl} {f : Str} {d d' : PyData} {os os' : List PyData} {xs' : List V} {v' : V} (R : RepS Γ W σ H ρ) (eu : ρ[iu]? = some (.own os)) (hu : σ[iu]? = some (some (.ref u))) (es : ρ[is_]? = some s) (ed : obD C f s = some d) (ea : obA W σ[is_]? s = some a) (so : sole is_ ρ = true)
    (k : But2 u a H H') (h1 : H' u = some (.lst xs')) (h2 : DfA Γ H' xs' os') (h3 : At1 H' a C f v') (h4 : Df Γ H' v' d') : RepS Γ W σ H' ((ρ.set iu (.own os')).set is_ (obSet s d')) := by
  obtain ⟨u0, xs, eu2, wu, hHu, hxs⟩ := R.at_ iu _ eu
  rw [hu] at eu2; cases eu2
  obtain ⟨a2, v, ea2, wa, ⟨dx, hHa⟩, hD⟩ := ob_at (R.at_ is_ s es) ed
  rw [ea] at ea2; cases ea2
  have ua : u ≠ a := fun z => by subst z; rw [hHu] at hHa; cases hHa
  have ij : iu ≠ is_ := fun z => by
    subst z
    rw [eu] at es; cases es
    cases ed
  obtain ⟨dx', h3'⟩ := h3
  have R1 := R.own_step (H' := fun b => if b = a then H a else H' b) eu hu (fun b o hb e => by
    by_cases hba : b = a
    · subst hba; simpa using e
    · simp only [if_neg hba]; exact k b o hb hba e) (by simp only [if_neg ua]; exact h1) (h2.grow ⟨fun b xs e => by
      by_cases hba : b = a
      · subst hba; rw [h3'] at e; cases e
      · simp only [if_neg hba]; exact e, fun b o p e => by
      by_cases hba : b = a
      · subst hba; rw [h3'] at e; cases e
      · simp only [if_neg hba]; exact e, fun b o p e => by
      by_cases hba : b = a
      · subst hba; rw [h3'] at e; cases e
      · simp only [if_neg hba]; exact e⟩)
  refine R1.ob_step (C := C) (f := f) (d := d) (a := a) (by rw [List.getElem?_set_ne ij]; exact es) ed ea ?_ (fun b o hb e => by simpa only [if_neg hb] using e) ⟨dx', h3'⟩ h4
  have := List.all_eq_true.mp so
  refine List.all_eq_true.mpr fun t ht => ?_
  rw [List.set_comm _ _ ij] at ht
  rcases List.mem_or_eq_of_mem_set ht with h | h
  · exact this t h
  · subst h; rfl
structure SdE (P : Program) (w : World) (K : PySem.W.Frag) (mg : Str → Option Value) (base : Heap) (k : Nat) (nm : Str) (CC : Addr) (x : Str) (C : Addr) (f : Str) (g : FSd) : Prop where
  ex : ∃ (ga : Addr) (fd : FuncData) (ps : List Str), FnOk P w K mg base C8.CX0 k ga fd ps (spS ⟨P, w, K⟩ CC x C f g) ∧ mg nm = some (.ref ga) ∧ PySem.W.keepIn K (.ref ga) = true ∧ L2.Binds K fd ps []
def mSaid (iu is_ il : Nat) (C : Addr) (f : Str) (g : FSd) : M PyData := fun ρ => match ρ[iu]?, ρ[is_]?, ρ[il]? with
  | some (.own os), some (.obj C' f' d), some (.dat yl) => if (C' = C ∧ f' = f) ∧ sole is_ ρ = true then (match g os d yl with
    | some r => some (r.1, (ρ.set iu (.own r.2.1)).set is_ (.obj C f r.2.2))
    | none => none) else none
  | _, _, _ => none
section
variable {X : Cx} {k kc j : Nat} {nm cn x f y1 y2 y3 : Str} {CC C : Addr} {g : FSd} {p p1 p2 p3 p4 p5 pos : Pos}
theorem de_said (iu is_ il : Nat) (c : SdE X.prog X.w X.K X.mg X.base k nm CC x C f g) (m : MkC X.prog X.w X.K X.mg X.base kc cn CC x C) (hr : Room j X.A) (hk : k ≤ j) (hkc : kc + 1 ≤ j)
    (hg : Gl X nm := by rfl) (hdb : (nm == ("__debug__" : Str)) = false := by decide) (hg2 : Gl X cn := by rfl) (hdb2 : (cn == ("__debug__" : Str)) = false := by decide)
    (hN1 : X.N[iu]? = some y1 := by rfl) (hv1 : Vis X.env.scope y1 := by first | exact Or.inl rfl | exact Or.inr (Or.inl rfl) | exact Or.inr (Or.inr rfl)) (hd1 : (y1 == ("__debug__" : Str)) = false := by decide) (hc1 : (y1 == ("__classdict__" : Str)) = false := by decide)
    (hN2 : X.N[is_]? = some y2 := by rfl) (hv2 : Vis X.env.scope y2 := by first | exact Or.inl rfl | exact Or.inr (Or.inl rfl) | exact Or.inr (Or.inr rfl)) (hd2 : (y2 == ("__debug__" : Str)) = false := by decide) (hc2 : (y2 == ("__classdict__" : Str)) = false := by decide)
    (hN3 : X.N[il]? = some y3 := by rfl) (hv3 : Vis X.env.scope y3 := by first | exact Or.inl rfl | exact Or.inr (Or.inl rfl) | exact Or.inr (Or.inr rfl)) (hd3 : (y3 == ("__debug__" : Str)) = false := by decide) (hc3 : (y3 == ("__classdict__" : Str)) = false := by decide)
    (he1 : starEach [.Name y1 p1, .Call (.Name cn p2) [.Name y2 p3] [] p4, .Name y3 p5] X.env = (false, eval (.Name y1 p1) X.env) :: starEach [.Call (.Name cn p2) [.Name y2 p3] [] p4, .Name y3 p5] X.env := by rfl)
    (he2 : starEach [.Call (.Name cn p2) [.Name y2 p3] [] p4, .Name y3 p5] X.env = (false, eval (.Call (.Name cn p2) [.Name y2 p3] [] p4) X.env) :: starEach [.Name y3 p5] X.env := by rfl) (he3 : starEach [.Name y3 p5] X.env = (false, eval (.Name y3 p5) X.env) :: starEach [] X.env := by rfl)
    (he4 : starEach [.Name y2 p3] X.env = (false, eval (.Name y2 p3) X.env) :: starEach [] X.env := by rfl)
    (hpl : (backTo pos (starEach [.Call (.Name cn p2) [.Name y2 p3] [] p4, .Name y3 p5] X.env)).any (·.1) = false := by rfl) (hpl2 : (backTo p4 (starEach [] X.env)).any (·.1) = false := by rfl) :
    DE X (.Call (.Name nm p) [.Name y1 p1, .Call (.Name cn p2) [.Name y2 p3] [] p4, .Name y3 p5] [] pos) (mSaid iu is_ il C f g) := by
  obtain ⟨ga, fd, ps, F, hm, kp, hb⟩ := c.ex
  obtain ⟨gb, fdc, psc, M, hmc, Fc, hbc, hne⟩ := m.ex
  refine ⟨fun W => (pe_callS (E := fun _ _ _ _ => False) F (hr.mono hk) hg hm kp hb (fun σ => (fun pins H s e s' I h => C8.pass0 pins σ H s e s' I h)) (pa_cons (pe_var (i := iu) hN1 hv1 hd1 hc1) (pa_cons (pe_make M Fc (hr.mono hkc) hg2 hmc hbc .nil passN (pa_cons (pe_var (i := is_) hN2 hv2 hd2 hc2) pa_nil he4) hdb2 he4 hpl2) (pa_cons (pe_var (i := il) hN3 hv3 hd3 hc3) pa_nil he3) he2) he1) hdb he1 hpl).imp fun σ H Q ⟨ρ, y, ρ', R, e, q⟩ => ?_⟩
  unfold mSaid at e
  split at e
  · rename_i os C' f' d yl eu es el
    split at e
    · rename_i hh
      obtain ⟨⟨rfl, rfl⟩, so⟩ := hh
      split at e
      · rename_i r eg
        cases e
        obtain ⟨u, xs, hu, wu, hHu, hxs⟩ := R.at_ iu _ eu
        obtain ⟨a, dx, v, ha, wa, hHa, hD⟩ := R.at_ is_ _ es
        obtain ⟨l, hl, hL⟩ := R.at_ il _ el
        refine ⟨_, hu, _, ha, fun b bx hb hbx nb => ?_⟩
        have sm := made_same (C := CC) hb hbx
        refine ⟨b, bx, a, dx, _, rfl, upd_same, sm a _ hHa, (fun z => by subst z; rw [hHa] at hb; cases hb), fun H2 kb ⟨bx', hb'⟩ => ⟨rfl, l, hl, ?_⟩⟩
        have sm2 := make_same hb hbx kb
        refine ⟨u, b, bx', a, v, l, xs, os, d, yl, r, rfl, hne, sm2 u _ hHu, hxs.grow (.same sm2), hb', ⟨dx, sm2 a _ hHa⟩, hD.grow (.same sm2), hL.grow (.same sm2), eg, fun H3 xs' v' z k2 h1 h2 h3 h4 h5 => ?_⟩
        have R2 := (R.same sm2).two_step (C := C') (f := f') (d := d) (a := a) eu hu es (by simp [obD]) (by rw [ha]; rfl) so k2 h1 h2 h3 h4
        refine q z H3 R2 h5 ((Grow.same sm2).trans ⟨fun c ys e => k2 c _ ?_ ?_ e, fun c o p e => k2 c _ ?_ ?_ e, fun c o p e => k2 c _ ?_ ?_ e⟩) <;> (intro z; subst z; first | (rw [sm2 _ _ hHu] at e; cases e) | (rw [sm2 _ _ hHa] at e; cases e))
      · cases e
    · cases e
  · cases e
end
end Dn
namespace Dn
open PySem PySem.W PySem.Spec PyProof.Rows L2 C8
section
variable {f g : M PyData} {fr : M (List PyData)} {fs : M Sl}
theorem keeps_var {i : Nat} : Keeps (eVar i) := fun ρ y ρ' h => by
  unfold eVar at h
  split at h
  · cases h; rfl
  · cases h
theorem keeps_C {d : PyData} : Keeps (eC d) := fun ρ y ρ' h => by cases h; rfl
theorem keeps_prop {i : Nat} {kd : Sl → Bool} {C : Addr} {p : Str} {gg : PyData → Option PyData} : Keeps (eProp i kd C p gg) := fun ρ y ρ' h => by
  unfold eProp at h
  split at h
  · split at h
    · split at h
      · obtain ⟨_, _, e⟩ := Option.map_eq_some_iff.mp h
        cases e; rfl
      · cases h
    · cases h
  · cases h
theorem keeps_fld {i : Nat} {kd : Sl → Bool} {C : Addr} {p : Str} : Keeps (eFld i kd C p) := fun ρ y ρ' h => by
  unfold eFld at h
  split at h
  · split at h
    · obtain ⟨_, _, e⟩ := Option.map_eq_some_iff.mp h
      cases e; rfl
    · cases h
  · cases h
theorem keeps_m1 {gg : PyData → Option PyData} (h : Keeps f) : Keeps (m1 gg f) := fun ρ y ρ' e => by
  obtain ⟨x, e1, e2⟩ := m1_inv e
  exact h _ _ _ e1
theorem keeps_m2 {gg : PyData → PyData → Option PyData} (h : Keeps f) (k : Keeps g) : Keeps (m2 gg f g) := fun ρ y ρ' e => by
  obtain ⟨x, ρ1, z, e1, e2, e3⟩ := m2_inv e
  have := h _ _ _ e1
  subst this
  exact k _ _ _ e2
theorem keeps_nil : Keeps aNil := fun ρ y ρ' h => by cases h; rfl
theorem keeps_cons (h : Keeps f) (k : Keeps fr) : Keeps (aCons f fr) := fun ρ y ρ' e => by
  obtain ⟨x, ρ1, z, e1, e2, _⟩ := aCons_inv e
  have := h _ _ _ e1
  subst this
  exact k _ _ _ e2
theorem keeps_star (h : Keeps f) (k : Keeps fr) : Keeps (aStar f fr) := fun ρ y ρ' e => by
  unfold aStar at e
  split at e
  · rename_i xs ρ1 e1
    have := h _ _ _ e1
    subst this
    split at e
    · rename_i ys ρ2 e3
      cases e
      exact k _ _ _ e3
    · cases e
  · rename_i xs ρ1 e1
    have := h _ _ _ e1
    subst this
    split at e
    · rename_i ys ρ2 e3
      cases e
      exact k _ _ _ e3
    · cases e
  · cases e
theorem keeps_tup (h : Keeps fr) : Keeps (mTup fr) := fun ρ y ρ' e => by
  unfold mTup at e
  split at e
  · rename_i ds ρ1 e1
    cases e
    exact h _ _ _ e1
  · cases e
theorem keeps_tupS (h : Keeps fr) : Keeps (mTupS fr) := fun ρ y ρ' e => by
  unfold mTupS at e
  split at e
  · rename_i ds ρ1 e1
    split at e
    · cases e
      exact h _ _ _ e1
    · cases e
  · cases e
theorem keeps_fz (h : Keeps fs) : Keeps (mFz fs) := fun ρ y ρ' e => by
  unfold mFz at e
  split at e
  · rename_i d ρ1 e1
    cases e
    exact h _ _ _ e1
  · rename_i d ρ1 e1
    cases e
    exact h _ _ _ e1
  · rename_i d ρ1 e1
    cases e
    exact h _ _ _ e1
  · cases e
theorem keeps_sorted (h : Keeps f) : Keeps (mSorted f) := fun ρ y ρ' e => by
  unfold mSorted at e
  split at e
  · rename_i d ρ1 e1
    have := h _ _ _ e1
    subst this
    split at e
    · split at e
      · cases e
        rfl
      · cases e
    · cases e
  · cases e
theorem get_self {C : Addr} {fld : Str} {m : Nat} (h : Keeps f) : ∀ d y ρ, endG (sRet f (.sel C fld d :: uns m)) = some (y, ρ) → selD C fld ρ = none ∨ selD C fld ρ = some d := fun d y ρ e => by
  unfold sRet at e
  cases e1 : f (.sel C fld d :: uns m) with
  | none => rw [e1] at e; cases e
  | some p =>
    obtain ⟨z, ρ1⟩ := p
    have := h _ _ _ e1
    subst this
    rw [e1] at e
    cases e
    exact .inr (by simp [selD])
end
def gAt (j : Int) (d : PyData) : Option PyData := match ixD d (.int (-1)) with
  | some x => ixD x (.int j)
  | none => none
theorem bindsK {K : PySem.W.Frag} {x qual p q : Str} {params : Arguments} {body : List Stmt} {scope : Scope} {f : Addr} {fd : FuncData} (F : FunD K x qual params body scope [] [] f fd)
    (hb : ∀ (kV doc pm : Value) (an : Option Addr) (cdv ct : Value) (a b : Value), bindArgs (PySem.W.fnOf x qual params body scope .none kV doc pm an cdv ct) ⟨[a], [(q, b)]⟩ = pure [(p, a), (q, b)]) (s : Shared) (u v : Value) : BindsTo s fd ⟨[u], [(q, v)]⟩ ([p, q].zip [u, v]) := by
  obtain ⟨oc, od, dV, kV, doc, pm, an, cdv, ct, osl, rfl, lk, hcd, hD, hK⟩ := F.ex
  rcases hD with ⟨_, rfl⟩ | ⟨e, _⟩
  · exact .of_eq (hb kV doc pm an cdv ct u v)
  · exact absurd rfl e
theorem gAt_eq {C : Addr} {fld : Str} {j : Int} : runG C fld 0 (sRet (m2 ixD (m2 ixD (eFld 0 kdN C fld) (m1 negD (eC (.int 1)))) (eC (.int j)))) = gAt j := by
  funext d
  have e0 : eFld 0 kdN C fld (.sel C fld d :: uns 0) = some (d, .sel C fld d :: uns 0) := by simp [eFld, kdN, obD, uns]
  have e1 : m1 negD (eC (.int 1)) (.sel C fld d :: uns 0) = some (.int (-1), .sel C fld d :: uns 0) := rfl
  unfold runG gAt sRet
  simp only [m2, e0, e1]
  cases h1 : ixD d (.int (-1)) with
  | none => rfl
  | some x =>
    simp only [eC]
    cases h2 : ixD x (.int j) with
    | none => rfl
    | some y => simp [endG, selD]
end Dn
namespace Dn
open PySem PySem.W PySem.Spec PyProof.Rows L2 C8
section
variable {X : Cx} {a b : Expr} {fa fb : M PyData} {pos : Pos}
theorem det_add (ha : DET X a fa) (hb : DET X b fb) : DET X (.BinOp a .Add b pos) (m2 addD fa fb) := by
  refine tOp_impT (op_add.or (op_add_str.or (op_catA.or (opFrz op_catF)))) ?_ ha hb
  intro x y d e z H Q hx hy hg k
  cases d <;> cases e <;> simp only [addD, Option.some.injEq, reduceCtorEq] at hg
  · subst hg; exact .inl ⟨_, _, hx.int_inv, hy.int_inv, k _ H (fun _ _ h => h) (.int _)⟩
  · split at hg
    · rename_i hl
      cases hg
      exact .inr (.inl ⟨_, _, hx.str_inv, hy.str_inv, hl, k _ H (fun _ _ h => h) (.str _)⟩)
    · cases hg
  · split at hg
    · rename_i hl
      cases hg
      obtain ⟨l, xs, rfl, h1, h2⟩ := hx.lst_inv
      obtain ⟨l', ys, rfl, h3, h4⟩ := hy.lst_inv
      refine .inr (.inr (.inr ⟨l, l', xs, ys, rfl, rfl, h1, h3, by rw [h2.length, h4.length]; exact hl, fun p hp => ⟨p, _, rfl, upd_same, fun o => ?_⟩⟩))
      rw [upd_upd]
      exact k _ _ (Same.new hp) (.lst ⟨o, upd_same⟩ ((h2.append h4).grow (.new hp)))
    · cases hg
  · split at hg
    · rename_i hl
      cases hg
      obtain ⟨l, xs, rfl, h1, h2⟩ := hx.tup_inv
      obtain ⟨l', ys, rfl, h3, h4⟩ := hy.tup_inv
      refine .inr (.inr (.inl ⟨l, l', xs, ys, rfl, rfl, h1, h3, by rw [h2.length, h4.length]; exact hl, fun e => ?_, fun e e2 => ?_, fun e e2 p hp => ?_⟩))
      · subst e; cases h2; exact k _ H (fun _ _ h => h) (by simpa using hy)
      · subst e2; cases h4; exact k _ H (fun _ _ h => h) (by simpa using hx)
      · exact k _ _ (Same.new hp) (.tup (.of upd_same) ((h2.append h4).grow (.new hp)))
    · cases hg
end
theorem hot_of {X : Cx} {a : Addr} {oe : Obj} {cls : Value} {d : Option Addr} {pn : List (Addr × Obj)} (hz : L2N.Zn cls d oe) (hf : ∃ vs, oe.data = .fields vs) : L2H.Hot1 (X.suite a ((a, oe) :: pn)).A (a, oe) := by
  obtain ⟨vs, hv⟩ := hf
  exact ⟨rfl, vs, hv, hz.2.2 vs hv⟩
theorem hotC_of {X : Cx} {a : Addr} {oe : Obj} {cls : Value} {d : Option Addr} {pn : List (Addr × Obj)} (hz : L2N.Zn cls d oe) (hf : ∃ vs, oe.data = .fields vs) : L2H.HotC (X.suite a ((a, oe) :: pn)) := ⟨(a, oe), hot_of hz hf, List.mem_cons_self⟩
theorem roomH_suite {X : Cx} {a : Addr} {pn : List (Addr × Obj)} {k : Nat} (h : Room k X.A) : L2H.RoomH k (X.suite a pn).A := ⟨h.dp, h.un⟩
theorem eExI_ok {i : Nat} {a : Addr} {d : Option Addr} {b : Bool} {ρ : Env} {fs : List (Str × PyData)} (h : ρ[i]? = some (.exc a d fs)) : eExI i a d b ρ = some (.bool b, ρ) := by simp [eExI, h]
theorem eExF_ok {i : Nat} {a : Addr} {d : Option Addr} {f : Str} {ρ : Env} {fs : List (Str × PyData)} {x : PyData} (h : ρ[i]? = some (.exc a d fs)) (hx : fs.lookup f = some x) : eExF i a d f ρ = some (x, ρ) := by simp [eExF, h, hx]
theorem mCallE_ok {i : Nat} {xn : Xn} {a : Addr} {d : Option Addr} {f : FE} {fr : M (List PyData)} {ρ ρ1 : Env} {ds : List PyData} {y : PyData} {fs2 fs : List (Str × PyData)} (h : ρ[i]? = some (.exc a d fs)) (h1 : fr ρ = some (ds, ρ1)) (h2 : ρ1[i]? = some (.exc a d fs2)) (hf : f ⟨xn.cls, fs2⟩ ds = some y) : mCallE i xn a d f fr ρ = some (y, ρ1) := by simp [mCallE, h, h1, h2, hf]
end Dn
namespace Dn
open PySem PySem.W PySem.Spec PyProof.Rows L2 C8
structure PrD where
  cls : Str
  name : Str
  qual : Str
  params : Arguments
  body : List Stmt
  scope : Scope
def prA (K : PySem.W.Frag) (d : PrD) : Addr := He.ma K (He.ga K d.cls) d.name
def gtA (K : PySem.W.Frag) (d : PrD) : Addr := match PySem.W.recIn K (prA K d) "property" with
  | some (.ref g :: _) => g
  | _ => 0
def fnA (K : PySem.W.Frag) (a : Addr) : He.FnW := match K.lookup a with
  | some ⟨_, _, .func fd, _⟩ => some (fd.name, fd.qualname, fd.params, fd.body, fd.scope, fd.globals, fd.closure, fd.builtins)
  | _ => none
def PrD.val (d : PrD) : He.FnW := some (d.name, d.qual, d.params, .stmts d.body, d.scope, mainGlobals, [], builtinsNs)
def PrD.ok (K : PySem.W.Frag) (d : PrD) : Bool := He.eqO (PySem.W.findIn K (.ref (He.ga K d.cls)) d.name) (some (some (.ref (prA K d)))) && (decide (PySem.W.specialIn K (.ref (prA K d)) "__get__" = some (some (.builtin "property.__get__"))) && (decide (PySem.W.takesIn K (.ref (prA K d)) = some true) &&
  ((match PySem.W.recIn K (prA K d) "property" with
    | some (.ref _ :: _) => true
    | _ => false) && (PySem.W.keepIn K (.ref (gtA K d)) && (match K.lookup (gtA K d) with
      | some ⟨_, _, .func fd, _⟩ => PySem.W.codeIn K fd.code d.qual && (He.dflB K fd.defaults [] && He.kwdB K fd.kwdefaults [])
      | _ => false)))))
theorem PrD.prop {K : PySem.W.Frag} {d : PrD} (c : d.ok K = true) : PropOf K (He.ga K d.cls) d.name (prA K d) (gtA K d) := by
  obtain ⟨c1, c⟩ := He.ba c
  obtain ⟨c2, c⟩ := He.ba c
  obtain ⟨c3, c⟩ := He.ba c
  obtain ⟨c4, _⟩ := He.ba c
  refine ⟨He.eqO_ok c1, of_decide_eq_true c2, of_decide_eq_true c3, ?_⟩
  unfold gtA
  split at c4
  · rename_i g r e
    exact ⟨r, e⟩
  · cases c4
theorem PrD.funD {K : PySem.W.Frag} {d : PrD} (e : fnA K (gtA K d) = d.val) (c : d.ok K = true) : ∃ fd, FunD K d.name d.qual d.params d.body d.scope [] [] (gtA K d) fd := by
  obtain ⟨_, c⟩ := He.ba c
  obtain ⟨_, c⟩ := He.ba c
  obtain ⟨_, c⟩ := He.ba c
  obtain ⟨_, c⟩ := He.ba c
  obtain ⟨kp, c2⟩ := He.ba c
  unfold fnA at e
  cases q : K.lookup (gtA K d) with
  | none => rw [q] at c2; cases c2
  | some o =>
    obtain ⟨oc, od, dt, osl⟩ := o
    rw [q] at c2 e
    cases dt with
    | func fd =>
      obtain ⟨n1, n2, n3, n4, n5, n6, n7, n8, n9, n10, n11, n12, n13, n14, n15⟩ := fd
      have e2 : (some (n1, n2, n3, n4, n5, n6, n7, n15) : He.FnW) = some (d.name, d.qual, d.params, .stmts d.body, d.scope, mainGlobals, [], builtinsNs) := e
      simp only [Option.some.injEq, Prod.mk.injEq] at e2
      obtain ⟨h1, h2, h3, h4, h5, h6, h7, h8⟩ := e2
      subst h1 h2 h3 h4 h5 h6 h7 h8
      have c3 : (PySem.W.codeIn K n13 d.qual && (He.dflB K n8 [] && He.kwdB K n9 [])) = true := c2
      obtain ⟨k1, k2⟩ := He.ba c3
      obtain ⟨k3, k4⟩ := He.ba k2
      exact ⟨_, ⟨oc, od, n8, n9, n10, n11, n12, n13, n14, osl, rfl, q, k1, He.dflB_ok k3, He.kwdB_ok k4⟩, kp⟩
    | _ => cases c2
def oexB (K : PySem.W.Frag) (C : Addr) : Bool := (match K.lookup C with
  | some ⟨.type "type", _, .cls cd, sl⟩ => (match cd.mro, sl.toList with
    | .ref C' :: bm, [_, _, _, _, some (.builtin n), _] => C' == C && n == "ValueError.__new__" && !cd.hasDel && cd.hasDict && PySem.HandSPX.refsVE bm
    | _, _ => false)
  | _ => false) && (He.eqO (PySem.W.findIn K (.ref C) "__setattr__") (some (some (.builtin "object.__setattr__"))) && (decide (PySem.W.subIn K (.ref C) (.type "BaseException") = some true) && (decide (PySem.W.typeIn K (.ref C) = some (.type "type")) && PySem.W.keepIn K (.ref C))))
theorem oexB_ok {K : PySem.W.Frag} {C : Addr} (h : oexB K C = true) : OexC K C := by
  obtain ⟨q, h⟩ := He.ba h
  obtain ⟨h2, h⟩ := He.ba h
  obtain ⟨h3, h⟩ := He.ba h
  obtain ⟨h4, h5⟩ := He.ba h
  refine ⟨?_, He.eqO_ok h2, of_decide_eq_true h3, of_decide_eq_true h4, h5⟩
  split at q
  · rename_i dd cd sl ho
    split at q
    · rename_i C' bm k0 k1 k2 k3 n k5 hm hs
      simp only [Bool.and_eq_true, beq_iff_eq, Bool.not_eq_true'] at q
      obtain ⟨⟨⟨⟨rfl, rfl⟩, hdel⟩, hdict⟩, ht⟩ := q
      obtain ⟨nm, bs, mro, ns, qn, hd, sn, sub, ab, col, del⟩ := cd
      dsimp only at hm hdel hdict
      subst hm hdel hdict
      have hsl : sl = #[k0, k1, k2, k3, some (.builtin "ValueError.__new__"), k5] := by
        obtain ⟨l⟩ := sl
        simp only at hs
        rw [hs]
      subst hsl
      exact ⟨nm, qn, ns, bs, bm, sn, sub, ab, col, dd, k0, k1, k2, k3, k5, ho, ht⟩
    · cases q
  · cases q
def incB (K : PySem.W.Frag) (C : Addr) : Bool := He.eqO (PySem.W.findIn K (.ref C) "__class__") (some (some (.builtin "object.__class__"))) && (decide (PySem.W.specialIn K (.builtin "object.__class__") "__get__" = some (some (.builtin "getset_descriptor.__get__"))) && (decide (PySem.W.takesIn K (.builtin "object.__class__") = some true) &&
  (decide (PySem.W.mroIn K C (.type "object") = some true) && decide (PySem.W.kitOne K (.ref C) (.ref C) = some true))))
theorem incB_ok {K : PySem.W.Frag} {C : Addr} (cl : Cls K C) (h : incB K C = true) : InsC K C := by
  obtain ⟨h1, h⟩ := He.ba h
  obtain ⟨h2, h⟩ := He.ba h
  obtain ⟨h3, h⟩ := He.ba h
  obtain ⟨h4, h5⟩ := He.ba h
  exact ⟨cl, He.eqO_ok h1, of_decide_eq_true h2, of_decide_eq_true h3, of_decide_eq_true h4, of_decide_eq_true h5⟩
def tabB (K : PySem.W.Frag) (x : Str) (kvs : List (Str × PyData)) : Bool := kvs.all fun q => match PySem.W.nsIn K (He.ga K x) q.1 with
  | some (some u) => datV K q.2 u
  | _ => false
theorem lookup_mem {kvs : List (Str × PyData)} {z : Str} {d : PyData} : kvs.lookup z = some d → (z, d) ∈ kvs := by
  induction kvs with
  | nil => intro h; cases h
  | cons q r ih =>
    intro h
    obtain ⟨k, v⟩ := q
    rw [List.lookup_cons] at h
    cases e : z == k with
    | true => rw [e] at h; cases h; rw [beq_iff_eq.mp e]; exact List.mem_cons_self
    | false => rw [e] at h; exact List.mem_cons_of_mem _ (ih h)
theorem glT_of {P : Program} {w : World} {K : PySem.W.Frag} {mg : Str → Option Value} {x : Str} {kvs : List (Str × PyData)} {es : Array DictEntry} {n : Nat} (hm : mg x = some (.ref (He.ga K x))) (D : KDict K w (He.ga K x) es n) (c : tabB K x kvs = true) : GlT P w K mg x kvs := by
  refine ⟨_, hm, fun z d h => ?_⟩
  have c2 := List.all_eq_true.mp c (z, d) (lookup_mem h)
  dsimp only at c2
  split at c2
  · rename_i u e
    obtain ⟨v, r, hv⟩ := datV_ok (P := P) (w := w) d u c2
    exact ⟨v, ⟨es, n, u, D.at_, D.lit, e, r⟩, hv⟩
  · cases c2
def refsS (o : Obj) : List Addr := match o.data with
  | .seq its _ => its.toList.flatMap He.refV
  | .dict es _ => es.toList.flatMap fun e => He.refV e.val
  | .func fd => He.refV fd.code
  | .cls cd => [cd.ns]
  | .fields vs => vs.toList.flatMap He.refV
  | _ => []
def lvlS (g : Addr → Option Obj) (as : List Addr) : List Addr := as.flatMap fun a => match g a with
  | some o => refsS o
  | none => []
def asS (g : Addr → Option Obj) : Nat → List Addr → List Addr
  | 0, l => l
  | n + 1, l => l ++ asS g n (lvlS g l)
abbrev AlB : Type := (He.AlT × Bool) × List He.FnW
def obsB (fa : List He.Fa) (fn : List He.DefD) (ts : List He.Tab) (pd : List PrD) (ex : PySem.W.Frag → Bool) (K : PySem.W.Frag) : AlB := ((He.obsT fa fn ts K, ex K && pd.all fun d => d.ok K), pd.map fun d => fnA K (gtA K d))
def valB (fn : List He.DefD) (ts : List He.Tab) (pd : List PrD) (w : World) : AlB := ((He.valT fn ts w, true), pd.map PrD.val)
def obsBG (n : Nat) (fa : List He.Fa) (fn : List He.DefD) (ts : List He.Tab) (pd : List PrD) (ex : PySem.W.Frag → Bool) (g : Addr → Option Obj) : AlB := obsB fa fn ts pd ex (He.frG g (asS g n [mainGlobals]))
structure SaysB (fa : List He.Fa) (fn : List He.DefD) (ts : List He.Tab) (pd : List PrD) (ex : PySem.W.Frag → Bool) (w : World) (K : PySem.W.Frag) : Prop where
  eq : obsB fa fn ts pd ex K = valB fn ts pd w
def hookB (n : Nat) (fa : List He.Fa) (fn : List He.DefD) (ts : List He.Tab) (pd : List PrD) (ex : PySem.W.Frag → Bool) : PySem.W.Hook where
  α := AlB
  obs := fun s => obsBG n fa fn ts pd ex s.heap.get?
  val := fun w => valB fn ts pd w
  says := fun w h => ∃ K : PySem.W.Frag, K.In h ∧ SaysB fa fn ts pd ex w K
  of := fun _ _ e => ⟨_, He.frG_in, ⟨e⟩⟩
  keeps := fun _ _ _ ⟨K, hK, c⟩ k => ⟨K, PySem.W.Frag.In.keeps hK k, c⟩
theorem obsBG_eq {n : Nat} {fa : List He.Fa} {fn : List He.DefD} {ts : List He.Tab} {pd : List PrD} {ex : PySem.W.Frag → Bool} {g : Addr → Option Obj} {s : Shared} (h : ∀ a, g a = s.heap.get? a) : obsBG n fa fn ts pd ex g = (hookB n fa fn ts pd ex).obs s := by
  have e : g = s.heap.get? := funext h
  rw [e] <;> rfl
section
variable {fa : List He.Fa} {fn : List He.DefD} {ts : List He.Tab} {pd : List PrD} {xb : PySem.W.Frag → Bool} {w : World} {K : PySem.W.Frag}
theorem SaysB.t (c : SaysB fa fn ts pd xb w K) : He.SaysT fa fn ts w K := congrArg (fun z : AlB => z.1.1) c.eq
theorem SaysB.d (c : SaysB fa fn ts pd xb w K) : He.SaysD fa fn K := c.t.d
theorem SaysB.ex (c : SaysB fa fn ts pd xb w K) : xb K = true := (He.ba (show (xb K && pd.all fun d => d.ok K) = true from congrArg (fun z : AlB => z.1.2) c.eq)).1
theorem SaysB.pr (c : SaysB fa fn ts pd xb w K) (i : Nat) {d : PrD} (h : pd[i]? = some d := by rfl) : PropOf K (He.ga K d.cls) d.name (prA K d) (gtA K d) ∧ ∃ fd, FunD K d.name d.qual d.params d.body d.scope [] [] (gtA K d) fd := by
  have c1 := (He.ba (show (xb K && pd.all fun d => d.ok K) = true from congrArg (fun z : AlB => z.1.2) c.eq)).2
  have c2 := List.all_eq_true.mp c1 d (List.mem_of_getElem? h)
  have e : pd.map (fun d => fnA K (gtA K d)) = pd.map PrD.val := congrArg (fun z : AlB => z.2) c.eq
  have e2 : (pd.map fun d => fnA K (gtA K d))[i]? = (pd.map PrD.val)[i]? := by rw [e]
  rw [List.getElem?_map, List.getElem?_map, h] at e2
  exact ⟨PrD.prop c2, PrD.funD (Option.some.inj e2) c2⟩
end
theorem world_split {C : World → Prop} (h : ∀ (w : World) (g : String → Bool) (b : Bool), C { w with params := { w.params with followText := fun s => bif s == "special-get-raises" then b else g s } }) (w : World) : C w := by
  have q := h w w.params.followText (w.params.followText "special-get-raises")
  have e : (fun s => bif s == "special-get-raises" then w.params.followText "special-get-raises" else w.params.followText s) = w.params.followText := by
    funext s
    cases hs : s == "special-get-raises" with
    | true => rw [beq_iff_eq.mp hs]; rfl
    | false => rfl
  rw [e] at q
  exact q
end Dn
namespace Hd
open PySem PySem.Spec PyProof.Rows L2
def topS (i : Nat) : Stmt := PySem.Challenge.pw_tileshifts_k87_whole_console_lines_of_an.main.body.getD i (.Pass ⟨0, 0, 0, 0⟩)
abbrev s_is_whole : Stmt := topS 2
abbrev s_is_between : Stmt := topS 3
abbrev s_is_tuple_of : Stmt := topS 4
abbrev s_are_between : Stmt := topS 5
abbrev s_are_unlike : Stmt := topS 6
abbrev s_are_rising : Stmt := topS 7
abbrev s_is_cell_by : Stmt := topS 12
abbrev s_are_cells_by : Stmt := topS 13
abbrev s_put_to : Stmt := topS 14
abbrev s_least_x : Stmt := topS 15
abbrev s_least_y : Stmt := topS 16
abbrev s_beside : Stmt := topS 17
abbrev s_part_with : Stmt := topS 18
abbrev s_do_hang_together : Stmt := topS 19
abbrev s_around : Stmt := topS 20
abbrev s_holes_by : Stmt := topS 21
abbrev s_do_touch_at_corner : Stmt := topS 22
abbrev s_corners_by : Stmt := topS 23
abbrev s_is_shape_by : Stmt := topS 24
abbrev s_is_figures : Stmt := topS 33
abbrev s_is_number_text : Stmt := topS 34
abbrev s_line_parts : Stmt := topS 35
abbrev s_yes_or_no : Stmt := topS 36
abbrev s_lattices_text : Stmt := topS 37
abbrev s_size_by : Stmt := topS 42
abbrev s_rest_by : Stmt := topS 43
abbrev s_fits_by : Stmt := topS 44
abbrev s_lattices_by : Stmt := topS 45
abbrev s_fitting_by : Stmt := topS 46
abbrev s_points_of : Stmt := topS 50
abbrev s_told_back_by : Stmt := topS 51
abbrev s_sides_of : Stmt := topS 52
abbrev s_rim_at : Stmt := topS 53
abbrev s_rim_by : Stmt := topS 54
abbrev s_read_from : Stmt := topS 55
abbrev s_words_of : Stmt := topS 57
abbrev s_goes_back : Stmt := topS 58
abbrev s_lengths_of : Stmt := topS 59
abbrev s_all_parts_by : Stmt := topS 60
abbrev s_parts_by : Stmt := topS 61
abbrev s_covers_by : Stmt := topS 62
abbrev s_check_cell : Stmt := topS 75
abbrev s_first_broken : Stmt := topS 86
abbrev s_law_urn : Stmt := topS 94
abbrev s_law_nip : Stmt := topS 95
abbrev s_law_any_of : Stmt := topS 96
abbrev s_law_is_whole : Stmt := topS 97
abbrev s_law_same : Stmt := topS 98
abbrev s_law_is_cell : Stmt := topS 99
abbrev s_law_beside : Stmt := topS 100
abbrev s_law_word : Stmt := topS 101
abbrev s_law_number : Stmt := topS 102
abbrev s_law_form : Stmt := topS 103
abbrev s_law_due : Stmt := topS 104
abbrev s_law_said : Stmt := topS 105
abbrev s_law_any_line : Stmt := topS 106
abbrev s_law_near : Stmt := topS 107
abbrev s_law_right : Stmt := topS 108
abbrev s_law : Stmt := topS 109
end Hd
namespace Tx
open PySem PySem.W PySem.Spec PyProof.Rows L2 C8 Dn Hd
abbrev t_STEPS : List (Str × PyData) := [("e", (.tuple [(.int (1)), (.int (0))])), ("n", (.tuple [(.int (0)), (.int (1))])), ("w", (.tuple [(.int (-1)), (.int (0))])), ("s", (.tuple [(.int (0)), (.int (-1))]))]
abbrev t_BACK : List (Str × PyData) := [("e", (.str "w")), ("n", (.str "s")), ("w", (.str "e")), ("s", (.str "n"))]
structure Gv (P : Program) (w : World) (K : PySem.W.Frag) (mg : Str → Option Value) : Prop where
  b_abs : mg "abs" = none
  b_all : mg "all" = none
  b_any : mg "any" = none
  b_bool : mg "bool" = none
  b_dict : mg "dict" = none
  b_divmod : mg "divmod" = none
  b_enumerate : mg "enumerate" = none
  b_int : mg "int" = none
  b_isinstance : mg "isinstance" = none
  b_len : mg "len" = none
  b_list : mg "list" = none
  b_max : mg "max" = none
  b_min : mg "min" = none
  b_range : mg "range" = none
  b_sorted : mg "sorted" = none
  b_str : mg "str" = none
  b_sum : mg "sum" = none
  b_tuple : mg "tuple" = none
  b_zip : mg "zip" = none
  g_BACK : GlT P w K mg "BACK" t_BACK
  g_STEPS : GlT P w K mg "STEPS" t_STEPS
  g_UNDO : GlD P w K mg "UNDO" (.str "undo")
  g_TAKE : GlD P w K mg "TAKE" (.str "take")
  g_PUT : GlD P w K mg "PUT" (.str "put")
  g_Q : GlD P w K mg "Q" (.int (1))
  g_R : GlD P w K mg "R" (.int (2))
  g_P : GlD P w K mg "P" (.int (0))
  g_FIGURES : GlD P w K mg "FIGURES" (.str "0123456789")
  g_MINUS : GlD P w K mg "MINUS" (.str "-")
  g_BLANK : GlD P w K mg "BLANK" (.str " ")
  g_PLAIN_WORDS : GlD P w K mg "PLAIN_WORDS" (.tuple [(.str "undo"), (.str "area"), (.str "shape"), (.str "covers"), (.str "rim"), (.str "lattices")])
  g_NONE : GlD P w K mg "NONE" (.str "none")
  g_SIDES : GlD P w K mg "SIDES" (.tuple [(.tuple [(.int (1)), (.int (0))]), (.tuple [(.int (0)), (.int (1))]), (.tuple [(.int (-1)), (.int (0))]), (.tuple [(.int (0)), (.int (-1))])])
  g_FARTHEST : GlD P w K mg "FARTHEST" (.int (99))
  g_MOST_CELLS : GlD P w K mg "MOST_CELLS" (.int (16))
  g_DONE : GlD P w K mg "DONE" (.str "done")
def swap2 (ds : List PyData) : List PyData := match ds with | [a, b] => [b, a] | _ => ds
section
variable {P : Program} {w : World} {K : PySem.W.Frag} {mg : Str → Option Value} {base : Heap}
theorem S_is_whole : FnScope ["value"] ["value"] (defScope s_is_whole) := fnScope_by (by decide +kernel)
def g_is_whole : MS := (sRet (mAnd (m1 (isiD "int") (eVar 0)) (m1 notD (m1 (isiD "bool") (eVar 0)))))
def f_is_whole : FD := runP' 0 g_is_whole
theorem ok_is_whole (G : Gv P w K mg) {f : Addr} {fd : FuncData} (F : FunD K "is_whole" "is_whole" (defArgs s_is_whole) (defBody s_is_whole) (defScope s_is_whole) [] [] f fd) (hm : mg "is_whole" = some (.ref f)) : PF P w K mg base 1 "is_whole" 1 f_is_whole :=
  cal_pure F hm S_is_whole rfl (fun _ _ _ _ _ _ us hl => match us, hl with | [_], _ => rfl) fun cdv A outer s H E hr =>
    (dss_one (ds_ret (de_and (de_isi "int" kit_int (de_var 0) (by rfl) G.b_isinstance (by rfl) G.b_int) (de_one (de_not (de_isi "bool" kit_bool (de_var 0) (by rfl) G.b_isinstance (by rfl) G.b_bool))))))
theorem S_is_tuple_of : FnScope ["value", "many"] ["value", "many"] (defScope s_is_tuple_of) := fnScope_by (by decide +kernel)
def g_is_tuple_of : MS := (sRet (mAnd (m1 (isiD "tuple") (eVar 0)) (m2 eqD (m1 lenD (eLoc 0)) (eVar 1))))
def f_is_tuple_of : FD := runP' 0 g_is_tuple_of
theorem ok_is_tuple_of (G : Gv P w K mg) {f : Addr} {fd : FuncData} (F : FunD K "is_tuple_of" "is_tuple_of" (defArgs s_is_tuple_of) (defBody s_is_tuple_of) (defScope s_is_tuple_of) [] [] f fd) (hm : mg "is_tuple_of" = some (.ref f)) : PF P w K mg base 1 "is_tuple_of" 2 f_is_tuple_of :=
  cal_pure F hm S_is_tuple_of rfl (fun _ _ _ _ _ _ us hl => match us, hl with | [_, _], _ => rfl) fun cdv A outer s H E hr =>
    (dss_one (ds_ret (de_and (de_isi "tuple" kit_tuple (de_var 0) (by rfl) G.b_isinstance (by rfl) G.b_tuple) (de_one (de_cm (c_eq hr.u) (de_b1 b_len (by rfl) G.b_len bt_len (le_loc 0)) (de_var 1) rfl)))))
theorem S_are_unlike : FnScope ["value", "index", "each"] ["value"] (defScope s_are_unlike) := fnScope_by (by decide +kernel)
def g_are_unlike : MS := (sRet (m1 allD (mFz (mLst (mLC [1, 2] (mEnum (eVar 0)) (tgTup 2 (tgCons (tgN 1) (tgCons (tgN 2) tgNil))) tAll (m2 notInD (eVar 2) (mSl (eVar 0) mNoPart (mPart (eVar 1)))))))))
def f_are_unlike : FD := runP' 2 g_are_unlike
theorem ok_are_unlike (G : Gv P w K mg) {f : Addr} {fd : FuncData} (F : FunD K "are_unlike" "are_unlike" (defArgs s_are_unlike) (defBody s_are_unlike) (defScope s_are_unlike) [] [] f fd) (hm : mg "are_unlike" = some (.ref f)) : PF P w K mg base 1 "are_unlike" 1 f_are_unlike :=
  cal_pure F hm S_are_unlike rfl (fun _ _ _ _ _ _ us hl => match us, hl with | [_], _ => rfl) fun cdv A outer s H E hr =>
    (dss_one (ds_ret (de_b1 (b_all rfl) (by rfl) G.b_all bt_all (LE.of (de_fz (se_lc rfl S_are_unlike.nd (di_enum (by rfl) G.b_enumerate (de_var 0)) [("index", 1), ("each", 2)] (by rfl) (fun _ _ _ _ _ => (dg_tup rfl (dgs_cons (dg_name 1 S_are_unlike.nd) (dgs_cons (dg_name 2 S_are_unlike.nd) dgs_nil)) 2)) (fun _ _ _ _ _ => dts_nil) (fun _ _ _ _ _ => (de_notIn hr.u (de_var 2) (LE.of (de_slice (de_var 0) do_none (do_some (de_var 1)))) rfl))))))))
theorem S_are_rising : FnScope ["value", "index"] ["value"] (defScope s_are_rising) := fnScope_by (by decide +kernel)
def g_are_rising : MS := (sRet (m1 allD (mFz (mLst (mLC [1] (mRng2 (aCons (eC (.int 1)) (aCons (m1 lenD (eLoc 0)) aNil))) (tgN 1) tAll (m2 ltD (m2 ixD (eVar 0) (m2 subD (eVar 1) (eC (.int 1)))) (m2 ixD (eVar 0) (eVar 1))))))))
def f_are_rising : FD := runP' 1 g_are_rising
theorem ok_are_rising (G : Gv P w K mg) {f : Addr} {fd : FuncData} (F : FunD K "are_rising" "are_rising" (defArgs s_are_rising) (defBody s_are_rising) (defScope s_are_rising) [] [] f fd) (hm : mg "are_rising" = some (.ref f)) : PF P w K mg base 1 "are_rising" 1 f_are_rising :=
  cal_pure F hm S_are_rising rfl (fun _ _ _ _ _ _ us hl => match us, hl with | [_], _ => rfl) fun cdv A outer s H E hr =>
    (dss_one (ds_ret (de_b1 (b_all rfl) (by rfl) G.b_all bt_all (LE.of (de_fz (se_lc rfl S_are_rising.nd (di_rng2 (by rfl) G.b_range (da_cons de_int (da_cons (de_b1 b_len (by rfl) G.b_len bt_len (le_loc 0)) da_nil))) [("index", 1)] (by rfl) (fun _ _ _ _ _ => (dg_name 1 S_are_rising.nd)) (fun _ _ _ _ _ => dts_nil) (fun _ _ _ _ _ => (de_cm (c_lt hr.u) (de_ix (de_var 0) (de_sub (de_var 1) de_int)) (de_ix (de_var 0) (de_var 1)) rfl))))))))
theorem S_put_to : FnScope ["cell", "shift"] ["cell", "shift"] (defScope s_put_to) := fnScope_by (by decide +kernel)
def g_put_to : MS := (sRet (mTup (aCons (m2 addD (m2 ixD (eVar 0) (eC (.int 0))) (m2 ixD (eVar 1) (eC (.int 0)))) (aCons (m2 addD (m2 ixD (eVar 0) (eC (.int 1))) (m2 ixD (eVar 1) (eC (.int 1)))) aNil))))
def f_put_to : FD := runP' 0 g_put_to
theorem ok_put_to (G : Gv P w K mg) {f : Addr} {fd : FuncData} (F : FunD K "put_to" "put_to" (defArgs s_put_to) (defBody s_put_to) (defScope s_put_to) [] [] f fd) (hm : mg "put_to" = some (.ref f)) : PF P w K mg base 1 "put_to" 2 f_put_to :=
  cal_pure F hm S_put_to rfl (fun _ _ _ _ _ _ us hl => match us, hl with | [_, _], _ => rfl) fun cdv A outer s H E hr =>
    (dss_one (ds_ret (de_tup (da_cons (de_add (de_ix (de_var 0) de_int) (de_ix (de_var 1) de_int)) (da_cons (de_add (de_ix (de_var 0) de_int) (de_ix (de_var 1) de_int)) da_nil)))))
theorem S_least_x : FnScope ["cells", "cell"] ["cells"] (defScope s_least_x) := fnScope_by (by decide +kernel)
def g_least_x : MS := (sRet (m1 minL (mFz (mLst (mLC [1] (mItems (eVar 0)) (tgN 1) tAll (m2 ixD (eVar 1) (eC (.int 0))))))))
def f_least_x : FD := runP' 1 g_least_x
theorem ok_least_x (G : Gv P w K mg) {f : Addr} {fd : FuncData} (F : FunD K "least_x" "least_x" (defArgs s_least_x) (defBody s_least_x) (defScope s_least_x) [] [] f fd) (hm : mg "least_x" = some (.ref f)) : PF P w K mg base 1 "least_x" 1 f_least_x :=
  cal_pure F hm S_least_x rfl (fun _ _ _ _ _ _ us hl => match us, hl with | [_], _ => rfl) fun cdv A outer s H E hr =>
    (dss_one (ds_ret (de_b1 (b_min rfl (hu32 hr.u)) (by rfl) G.b_min bt_min (LE.of (de_fz (se_lc rfl S_least_x.nd (di_val (de_var 0)) [("cell", 1)] (by rfl) (fun _ _ _ _ _ => (dg_name 1 S_least_x.nd)) (fun _ _ _ _ _ => dts_nil) (fun _ _ _ _ _ => (de_ix (de_var 1) de_int))))))))
theorem S_least_y : FnScope ["cells", "cell"] ["cells"] (defScope s_least_y) := fnScope_by (by decide +kernel)
def g_least_y : MS := (sRet (m1 minL (mFz (mLst (mLC [1] (mItems (eVar 0)) (tgN 1) tAll (m2 ixD (eVar 1) (eC (.int 1))))))))
def f_least_y : FD := runP' 1 g_least_y
theorem ok_least_y (G : Gv P w K mg) {f : Addr} {fd : FuncData} (F : FunD K "least_y" "least_y" (defArgs s_least_y) (defBody s_least_y) (defScope s_least_y) [] [] f fd) (hm : mg "least_y" = some (.ref f)) : PF P w K mg base 1 "least_y" 1 f_least_y :=
  cal_pure F hm S_least_y rfl (fun _ _ _ _ _ _ us hl => match us, hl with | [_], _ => rfl) fun cdv A outer s H E hr =>
    (dss_one (ds_ret (de_b1 (b_min rfl (hu32 hr.u)) (by rfl) G.b_min bt_min (LE.of (de_fz (se_lc rfl S_least_y.nd (di_val (de_var 0)) [("cell", 1)] (by rfl) (fun _ _ _ _ _ => (dg_name 1 S_least_y.nd)) (fun _ _ _ _ _ => dts_nil) (fun _ _ _ _ _ => (de_ix (de_var 1) de_int))))))))
theorem S_do_touch_at_corner : FnScope ["cells", "one", "two"] ["cells", "one", "two"] (defScope s_do_touch_at_corner) := fnScope_by (by decide +kernel)
def g_do_touch_at_corner : MS := (sSeq (sIf (tOrM (mT (m2 neD (m1 absD (m2 subD (m2 ixD (eVar 1) (eC (.int 0))) (m2 ixD (eVar 2) (eC (.int 0))))) (eC (.int 1)))) (mT (m2 neD (m1 absD (m2 subD (m2 ixD (eVar 1) (eC (.int 1))) (m2 ixD (eVar 2) (eC (.int 1))))) (eC (.int 1))))) (sRet (eC (.bool false))) sNil) (sRet (mAnd (m2 notInD (mTup (aCons (m2 ixD (eVar 1) (eC (.int 0))) (aCons (m2 ixD (eVar 2) (eC (.int 1))) aNil))) (eLoc 0)) (m2 notInD (mTup (aCons (m2 ixD (eVar 2) (eC (.int 0))) (aCons (m2 ixD (eVar 1) (eC (.int 1))) aNil))) (eLoc 0)))))
def f_do_touch_at_corner : FD := runP' 0 g_do_touch_at_corner
theorem ok_do_touch_at_corner (G : Gv P w K mg) {f : Addr} {fd : FuncData} (F : FunD K "do_touch_at_corner" "do_touch_at_corner" (defArgs s_do_touch_at_corner) (defBody s_do_touch_at_corner) (defScope s_do_touch_at_corner) [] [] f fd) (hm : mg "do_touch_at_corner" = some (.ref f)) : PF P w K mg base 1 "do_touch_at_corner" 3 f_do_touch_at_corner :=
  cal_pure F hm S_do_touch_at_corner rfl (fun _ _ _ _ _ _ us hl => match us, hl with | [_, _, _], _ => rfl) fun cdv A outer s H E hr =>
    (dss_cons (ds_if (DW.dt (dw_or (dt_cm (c_ne hr.u) (de_b1 b_abs (by rfl) G.b_abs bt_abs (LE.of (de_sub (de_ix (de_var 1) de_int) (de_ix (de_var 2) de_int)))) de_int rfl) (dw_or1 (dt_cm (c_ne hr.u) (de_b1 b_abs (by rfl) G.b_abs bt_abs (LE.of (de_sub (de_ix (de_var 1) de_int) (de_ix (de_var 2) de_int)))) de_int rfl)))) (dss_one (ds_ret de_bl)) dss_nil) (dss_one (ds_ret (de_and (de_notIn hr.u (de_tup (da_cons (de_ix (de_var 1) de_int) (da_cons (de_ix (de_var 2) de_int) da_nil))) (le_loc 0) rfl) (de_one (de_notIn hr.u (de_tup (da_cons (de_ix (de_var 2) de_int) (da_cons (de_ix (de_var 1) de_int) da_nil))) (le_loc 0) rfl))))))
theorem S_is_figures : FnScope ["text", "sign"] ["text"] (defScope s_is_figures) := fnScope_by (by decide +kernel)
def g_is_figures : MS := (sSeq (sIf (tOrM (mT (m2 eqD (eVar 0) (eC (.str "")))) (mT (m1 anyD (mFz (mLst (mLC [1] (mChars (eVar 0)) (tgN 1) tAll (m2 notInSD (eVar 1) (eC (.str "0123456789"))))))))) (sRet (eC (.bool false))) sNil) (sRet (mOr (m2 eqD (eVar 0) (eC (.str "0"))) (m2 neD (m2 ixD (eVar 0) (eC (.int 0))) (eC (.str "0"))))))
def f_is_figures : FD := runP' 1 g_is_figures
theorem ok_is_figures (G : Gv P w K mg) {f : Addr} {fd : FuncData} (F : FunD K "is_figures" "is_figures" (defArgs s_is_figures) (defBody s_is_figures) (defScope s_is_figures) [] [] f fd) (hm : mg "is_figures" = some (.ref f)) : PF P w K mg base 1 "is_figures" 1 f_is_figures :=
  cal_pure F hm S_is_figures rfl (fun _ _ _ _ _ _ us hl => match us, hl with | [_], _ => rfl) fun cdv A outer s H E hr =>
    (dss_cons (ds_if (DW.dt (dw_or (dt_cm (c_eq hr.u) (de_var 0) de_str rfl) (dw_or1 (dt_val (de_b1 (b_any rfl) (by rfl) G.b_any bt_any (LE.of (de_fz (se_lc rfl S_is_figures.nd (di_str (de_var 0)) [("sign", 1)] (by rfl) (fun _ _ _ _ _ => (dg_name 1 S_is_figures.nd)) (fun _ _ _ _ _ => dts_nil) (fun _ _ _ _ _ => (de_cm c_notInS (de_var 1) (de_gl G.g_FIGURES) rfl)))))))))) (dss_one (ds_ret de_bl)) dss_nil) (dss_one (ds_ret (de_or (de_cm (c_eq hr.u) (de_var 0) de_str rfl) (de_one (de_cm (c_ne hr.u) (de_ix (de_var 0) de_int) de_str rfl))))))
theorem S_yes_or_no : FnScope ["is_so"] ["is_so"] (defScope s_yes_or_no) := fnScope_by (by decide +kernel)
def g_yes_or_no : MS := (sRet (mIf (mT (eVar 0)) (eC (.str "yes")) (eC (.str "no"))))
def f_yes_or_no : FD := runP' 0 g_yes_or_no
theorem ok_yes_or_no (G : Gv P w K mg) {f : Addr} {fd : FuncData} (F : FunD K "yes_or_no" "yes_or_no" (defArgs s_yes_or_no) (defBody s_yes_or_no) (defScope s_yes_or_no) [] [] f fd) (hm : mg "yes_or_no" = some (.ref f)) : PF P w K mg base 1 "yes_or_no" 1 f_yes_or_no :=
  cal_pure F hm S_yes_or_no rfl (fun _ _ _ _ _ _ us hl => match us, hl with | [_], _ => rfl) fun cdv A outer s H E hr =>
    (dss_one (ds_ret (de_ifExp (dt_val (de_var 0)) de_str de_str)))
theorem S_lattices_text : FnScope ["lattices", "texts", "number", "lattice"] ["lattices"] (defScope s_lattices_text) := fnScope_by (by decide +kernel)
def g_lattices_text : MS := (sSeq (sSet 1 (mLst (mLC [3] (mItems (eVar 0)) (tgN 3) tAll (m2 (sOnly joinB) (eC (.str " ")) (mFz (mLst (mLC [2] (mItems (eVar 3)) (tgN 2) tAll (m1 strD (eLoc 2))))))))) (sRet (mIf (mT (m2 neD (eFz 1) (mFz (mLst aNil)))) (m2 (sOnly joinB) (eC (.str "; ")) (eFz 1)) (eC (.str "none")))))
def f_lattices_text : FD := runP' 3 g_lattices_text
theorem ok_lattices_text (G : Gv P w K mg) {f : Addr} {fd : FuncData} (F : FunD K "lattices_text" "lattices_text" (defArgs s_lattices_text) (defBody s_lattices_text) (defScope s_lattices_text) [] [] f fd) (hm : mg "lattices_text" = some (.ref f)) : PF P w K mg base 1 "lattices_text" 1 f_lattices_text :=
  cal_pure F hm S_lattices_text rfl (fun _ _ _ _ _ _ us hl => match us, hl with | [_], _ => rfl) fun cdv A outer s H E hr =>
    (dss_cons (ds_setLc 1 rfl S_lattices_text.nd (di_val (de_var 0)) [("lattice", 3)] (by rfl) (fun _ _ _ _ _ => (dg_name 3 S_lattices_text.nd)) (fun _ _ _ _ _ => dts_nil) (fun _ _ _ _ _ => (de_join (de_gl G.g_BLANK) (de_fz (se_lc rfl S_lattices_text.nd (di_val (de_var 3)) [("number", 2)] (by rfl) (fun _ _ _ _ _ => (dg_name 2 S_lattices_text.nd)) (fun _ _ _ _ _ => dts_nil) (fun _ _ _ _ _ => (de_t1 b_str (by rfl) G.b_str bt_str (le_loc 2))))))) (sw_true rfl rfl rfl rfl)) (dss_one (ds_ret (de_ifExp (dt_cm (c_ne hr.u) (de_fzv 1) (de_fz (se_lst da_nil)) rfl) (de_join de_str (de_fzv 1)) (de_gl G.g_NONE)))))
theorem S_size_by : FnScope ["lattice"] ["lattice"] (defScope s_size_by) := fnScope_by (by decide +kernel)
def g_size_by : MS := (sRet (m2 mulD (m2 ixD (eVar 0) (eC (.int (0)))) (m2 ixD (eVar 0) (eC (.int (2))))))
def f_size_by : FD := runP' 0 g_size_by
theorem ok_size_by (G : Gv P w K mg) {f : Addr} {fd : FuncData} (F : FunD K "size_by" "size_by" (defArgs s_size_by) (defBody s_size_by) (defScope s_size_by) [] [] f fd) (hm : mg "size_by" = some (.ref f)) : PF P w K mg base 1 "size_by" 1 f_size_by :=
  cal_pure F hm S_size_by rfl (fun _ _ _ _ _ _ us hl => match us, hl with | [_], _ => rfl) fun cdv A outer s H E hr =>
    (dss_one (ds_ret (de_mul (de_ix (de_var 0) (de_gl G.g_P)) (de_ix (de_var 0) (de_gl G.g_R)))))
theorem S_rest_by : FnScope ["lattice", "cell", "times"] ["lattice", "cell"] (defScope s_rest_by) := fnScope_by (by decide +kernel)
def g_rest_by : MS := (sSeq (sSet 2 (mDat (m2 fdivD (m2 ixD (eVar 1) (eC (.int 1))) (m2 ixD (eVar 0) (eC (.int (2))))))) (sRet (mTup (aCons (m2 modD (m1 intD (m2 subD (m2 ixD (eVar 1) (eC (.int 0))) (m2 mulD (eVar 2) (m2 ixD (eVar 0) (eC (.int (1))))))) (m2 ixD (eVar 0) (eC (.int (0))))) (aCons (m2 subD (m2 ixD (eVar 1) (eC (.int 1))) (m2 mulD (eVar 2) (m2 ixD (eVar 0) (eC (.int (2)))))) aNil)))))
def f_rest_by : FD := runP' 1 g_rest_by
theorem ok_rest_by (G : Gv P w K mg) {f : Addr} {fd : FuncData} (F : FunD K "rest_by" "rest_by" (defArgs s_rest_by) (defBody s_rest_by) (defScope s_rest_by) [] [] f fd) (hm : mg "rest_by" = some (.ref f)) : PF P w K mg base 1 "rest_by" 2 f_rest_by :=
  cal_pure F hm S_rest_by rfl (fun _ _ _ _ _ _ us hl => match us, hl with | [_, _], _ => rfl) fun cdv A outer s H E hr =>
    (dss_cons (ds_set 2 S_rest_by.nd (SE.of (de_fdiv (de_ix (de_var 1) de_int) (de_ix (de_var 0) (de_gl G.g_R))))) (dss_one (ds_ret (de_tup (da_cons (de_mod (de_t1 b_int (by rfl) G.b_int bt_int (LE.of (de_sub (de_ix (de_var 1) de_int) (de_mul (de_var 2) (de_ix (de_var 0) (de_gl G.g_Q)))))) (de_ix (de_var 0) (de_gl G.g_P))) (da_cons (de_sub (de_ix (de_var 1) de_int) (de_mul (de_var 2) (de_ix (de_var 0) (de_gl G.g_R)))) da_nil))))))
theorem S_lattices_by : FnScope ["many", "wide", "number", "across"] ["many"] (defScope s_lattices_by) := fnScope_by (by decide +kernel)
def g_lattices_by : MS := (sSeq (sSet 1 (mLst (mLC [2] (mRng2 (aCons (eC (.int 1)) (aCons (m2 addD (eVar 0) (eC (.int 1))) aNil))) (tgN 2) (mT (m2 eqD (m2 modD (m1 intD (eLoc 0)) (eVar 2)) (eC (.int 0)))) (eVar 2)))) (sRet (mFz (mLst (mLC2 [2, 3] [3] (mItems (eFz 1)) (tgN 2) tAll (mRng1 (aCons (eVar 2) aNil)) (tgN 3) tAll (mTup (aCons (eVar 2) (aCons (eVar 3) (aCons (m2 fdivD (eVar 0) (eVar 2)) aNil)))))))))
def f_lattices_by : FD := runP' 3 g_lattices_by
theorem ok_lattices_by (G : Gv P w K mg) {f : Addr} {fd : FuncData} (F : FunD K "lattices_by" "lattices_by" (defArgs s_lattices_by) (defBody s_lattices_by) (defScope s_lattices_by) [] [] f fd) (hm : mg "lattices_by" = some (.ref f)) : PF P w K mg base 1 "lattices_by" 1 f_lattices_by :=
  cal_pure F hm S_lattices_by rfl (fun _ _ _ _ _ _ us hl => match us, hl with | [_], _ => rfl) fun cdv A outer s H E hr =>
    (dss_cons (ds_setLc 1 rfl S_lattices_by.nd (di_rng2 (by rfl) G.b_range (da_cons de_int (da_cons (de_add (de_var 0) de_int) da_nil))) [("number", 2)] (by rfl) (fun _ _ _ _ _ => (dg_name 2 S_lattices_by.nd)) (fun _ _ _ _ _ => (dts_one (dt_cm (c_eq hr.u) (de_mod (de_t1 b_int (by rfl) G.b_int bt_int (le_loc 0)) (de_var 2)) de_int rfl))) (fun _ _ _ _ _ => (de_var 2)) (sw_true rfl rfl rfl rfl)) (dss_one (ds_ret (de_fz (se_lc2 rfl S_lattices_by.nd (di_val (de_fzv 1)) [("number", 2), ("across", 3)] (by rfl) [3] (fun _ _ _ _ _ => (dg_name 2 S_lattices_by.nd)) (fun _ _ _ _ _ => dts_nil) (fun _ _ _ _ _ => (di_rng1 (by rfl) G.b_range (da_cons (de_var 2) da_nil))) (fun _ _ _ _ _ => (dg_name 3 S_lattices_by.nd)) (fun _ _ _ _ _ => dts_nil) (fun _ _ _ _ _ => (de_tup (da_cons (de_var 2) (da_cons (de_var 3) (da_cons (de_fdiv (de_var 0) (de_var 2)) da_nil))))))))))
theorem S_points_of : FnScope ["word", "start", "found", "letter", "step"] ["word", "start"] (defScope s_points_of) := fnScope_by (by decide +kernel)
def g_points_of : MS := (sSeq (sSet 2 (mLst (aCons (eVar 1) aNil))) (sSeq (sFor (mChars (eVar 0)) (tgN 3) (sSeq (sSet 4 (mDat (m1 (tabD t_STEPS) (eVar 3)))) (sExpr (mAppN 2 (mTup (aCons (m2 addD (m2 ixD (mLoc2 2 ixD (m1 negD (eC (.int 1)))) (eC (.int 0))) (m2 ixD (eVar 4) (eC (.int 0)))) (aCons (m2 addD (m2 ixD (mLoc2 2 ixD (m1 negD (eC (.int 1)))) (eC (.int 1))) (m2 ixD (eVar 4) (eC (.int 1)))) aNil))))))) (sRet (eFz 2))))
def f_points_of : FD := runP' 3 g_points_of
theorem ok_points_of (G : Gv P w K mg) {f : Addr} {fd : FuncData} (F : FunD K "points_of" "points_of" (defArgs s_points_of) (defBody s_points_of) (defScope s_points_of) [] [] f fd) (hm : mg "points_of" = some (.ref f)) : PF P w K mg base 1 "points_of" 2 f_points_of :=
  cal_pure F hm S_points_of rfl (fun _ _ _ _ _ _ us hl => match us, hl with | [_, _], _ => rfl) fun cdv A outer s H E hr =>
    (dss_cons (ds_set 2 S_points_of.nd (se_lst (da_cons (de_var 1) da_nil))) (dss_cons (ds_for rfl (di_str (de_var 0)) (dg_name 3 S_points_of.nd) (dss_cons (ds_set 4 S_points_of.nd (SE.of (de_tab G.g_STEPS (de_var 3)))) (dss_one (ds_expr (de_append 2 (de_tup (da_cons (de_add (de_ix (de_ixN 2 (de_neg de_int)) de_int) (de_ix (de_var 4) de_int)) (da_cons (de_add (de_ix (de_ixN 2 (de_neg de_int)) de_int) (de_ix (de_var 4) de_int)) da_nil))))))) PassesOwn.never) (dss_one (ds_ret (de_fzv 2)))))
theorem S_told_back_by : FnScope ["word", "letter"] ["word"] (defScope s_told_back_by) := fnScope_by (by decide +kernel)
def g_told_back_by : MS := (sRet (m2 (sOnly joinB) (eC (.str "")) (mFz (mLst (mLC [1] (mChars (m1 revD (eLoc 0))) (tgN 1) tAll (m1 (tabD t_BACK) (eVar 1)))))))
def f_told_back_by : FD := runP' 1 g_told_back_by
theorem ok_told_back_by (G : Gv P w K mg) {f : Addr} {fd : FuncData} (F : FunD K "told_back_by" "told_back_by" (defArgs s_told_back_by) (defBody s_told_back_by) (defScope s_told_back_by) [] [] f fd) (hm : mg "told_back_by" = some (.ref f)) : PF P w K mg base 1 "told_back_by" 1 f_told_back_by :=
  cal_pure F hm S_told_back_by rfl (fun _ _ _ _ _ _ us hl => match us, hl with | [_], _ => rfl) fun cdv A outer s H E hr =>
    (dss_one (ds_ret (de_join de_str (de_fz (se_lc rfl S_told_back_by.nd (di_str (de_rev (le_loc 0))) [("letter", 1)] (by rfl) (fun _ _ _ _ _ => (dg_name 1 S_told_back_by.nd)) (fun _ _ _ _ _ => dts_nil) (fun _ _ _ _ _ => (de_tab G.g_BACK (de_var 1))))))))
theorem S_sides_of : FnScope ["cells", "cell", "x", "y", "sides", "more", "point", "letter", "other"] ["cells", "cell"] (defScope s_sides_of) := fnScope_by (by decide +kernel)
def g_sides_of : MS := (sSeq (sAsg (eVar 1) (tgTup 2 (tgCons (tgN 2) (tgCons (tgN 3) tgNil)))) (sSeq (sSet 4 (mDat (mTup (aCons (mTup (aCons (mTup (aCons (eVar 2) (aCons (eVar 3) aNil))) (aCons (eC (.str "e")) (aCons (mTup (aCons (eVar 2) (aCons (m2 subD (eVar 3) (eC (.int 1))) aNil))) aNil)))) (aCons (mTup (aCons (mTup (aCons (m2 addD (eVar 2) (eC (.int 1))) (aCons (eVar 3) aNil))) (aCons (eC (.str "n")) (aCons (mTup (aCons (m2 addD (eVar 2) (eC (.int 1))) (aCons (eVar 3) aNil))) aNil)))) aNil))))) (sSeq (sSet 5 (mDat (mTup (aCons (mTup (aCons (mTup (aCons (m2 addD (eVar 2) (eC (.int 1))) (aCons (m2 addD (eVar 3) (eC (.int 1))) aNil))) (aCons (eC (.str "w")) (aCons (mTup (aCons (eVar 2) (aCons (m2 addD (eVar 3) (eC (.int 1))) aNil))) aNil)))) (aCons (mTup (aCons (mTup (aCons (eVar 2) (aCons (m2 addD (eVar 3) (eC (.int 1))) aNil))) (aCons (eC (.str "s")) (aCons (mTup (aCons (m2 subD (eVar 2) (eC (.int 1))) (aCons (eVar 3) aNil))) aNil)))) aNil))))) (sRet (mFz (mLst (mLC [6, 7, 8] (mItems (m2 addD (eVar 4) (eVar 5))) (tgTup 3 (tgCons (tgN 6) (tgCons (tgN 7) (tgCons (tgN 8) tgNil)))) (mT (m2 notInD (eVar 8) (eLoc 0))) (mTup (aCons (eVar 6) (aCons (eVar 7) aNil))))))))))
def f_sides_of : FD := runP' 7 g_sides_of
theorem ok_sides_of (G : Gv P w K mg) {f : Addr} {fd : FuncData} (F : FunD K "sides_of" "sides_of" (defArgs s_sides_of) (defBody s_sides_of) (defScope s_sides_of) [] [] f fd) (hm : mg "sides_of" = some (.ref f)) : PF P w K mg base 1 "sides_of" 2 f_sides_of :=
  cal_pure F hm S_sides_of rfl (fun _ _ _ _ _ _ us hl => match us, hl with | [_, _], _ => rfl) fun cdv A outer s H E hr =>
    (dss_cons (ds_asg (de_var 1) (dg_tup rfl (dgs_cons (dg_name 2 S_sides_of.nd) (dgs_cons (dg_name 3 S_sides_of.nd) dgs_nil)) 2)) (dss_cons (ds_set 4 S_sides_of.nd (SE.of (de_tup (da_cons (de_tup (da_cons (de_tup (da_cons (de_var 2) (da_cons (de_var 3) da_nil))) (da_cons de_str (da_cons (de_tup (da_cons (de_var 2) (da_cons (de_sub (de_var 3) de_int) da_nil))) da_nil)))) (da_cons (de_tup (da_cons (de_tup (da_cons (de_add (de_var 2) de_int) (da_cons (de_var 3) da_nil))) (da_cons de_str (da_cons (de_tup (da_cons (de_add (de_var 2) de_int) (da_cons (de_var 3) da_nil))) da_nil)))) da_nil))))) (dss_cons (ds_set 5 S_sides_of.nd (SE.of (de_tup (da_cons (de_tup (da_cons (de_tup (da_cons (de_add (de_var 2) de_int) (da_cons (de_add (de_var 3) de_int) da_nil))) (da_cons de_str (da_cons (de_tup (da_cons (de_var 2) (da_cons (de_add (de_var 3) de_int) da_nil))) da_nil)))) (da_cons (de_tup (da_cons (de_tup (da_cons (de_var 2) (da_cons (de_add (de_var 3) de_int) da_nil))) (da_cons de_str (da_cons (de_tup (da_cons (de_sub (de_var 2) de_int) (da_cons (de_var 3) da_nil))) da_nil)))) da_nil))))) (dss_one (ds_ret (de_fz (se_lc rfl S_sides_of.nd (di_val (de_add (de_var 4) (de_var 5))) [("point", 6), ("letter", 7), ("other", 8)] (by rfl) (fun _ _ _ _ _ => (dg_tup rfl (dgs_cons (dg_name 6 S_sides_of.nd) (dgs_cons (dg_name 7 S_sides_of.nd) (dgs_cons (dg_name 8 S_sides_of.nd) dgs_nil))) 3)) (fun _ _ _ _ _ => (dts_one (dt_notIn hr.u (de_var 8) (le_loc 0) rfl))) (fun _ _ _ _ _ => (de_tup (da_cons (de_var 6) (da_cons (de_var 7) da_nil)))))))))))
theorem S_read_from : FnScope ["word", "index"] ["word", "index"] (defScope s_read_from) := fnScope_by (by decide +kernel)
def g_read_from : MS := (sRet (m2 addD (mSl (eVar 0) (mPart (eVar 1)) mNoPart) (mSl (eVar 0) mNoPart (mPart (eVar 1)))))
def f_read_from : FD := runP' 0 g_read_from
theorem ok_read_from (G : Gv P w K mg) {f : Addr} {fd : FuncData} (F : FunD K "read_from" "read_from" (defArgs s_read_from) (defBody s_read_from) (defScope s_read_from) [] [] f fd) (hm : mg "read_from" = some (.ref f)) : PF P w K mg base 1 "read_from" 2 f_read_from :=
  cal_pure F hm S_read_from rfl (fun _ _ _ _ _ _ us hl => match us, hl with | [_, _], _ => rfl) fun cdv A outer s H E hr =>
    (dss_one (ds_ret (de_add (de_slice (de_var 0) (do_some (de_var 1)) do_none) (de_slice (de_var 0) do_none (do_some (de_var 1))))))
theorem S_lengths_of : FnScope ["half", "one", "two"] ["half"] (defScope s_lengths_of) := fnScope_by (by decide +kernel)
def g_lengths_of : MS := (sRet (mFz (mLst (mLC2 [1, 2] [2] (mRng2 (aCons (eC (.int 1)) (aCons (eVar 0) aNil))) (tgN 1) tAll (mRng2 (aCons (eC (.int 1)) (aCons (m2 addD (m2 subD (eVar 0) (eVar 1)) (eC (.int 1))) aNil))) (tgN 2) tAll (mTup (aCons (eVar 1) (aCons (eVar 2) (aCons (m2 subD (m2 subD (eVar 0) (eVar 1)) (eVar 2)) aNil))))))))
def f_lengths_of : FD := runP' 2 g_lengths_of
theorem ok_lengths_of (G : Gv P w K mg) {f : Addr} {fd : FuncData} (F : FunD K "lengths_of" "lengths_of" (defArgs s_lengths_of) (defBody s_lengths_of) (defScope s_lengths_of) [] [] f fd) (hm : mg "lengths_of" = some (.ref f)) : PF P w K mg base 1 "lengths_of" 1 f_lengths_of :=
  cal_pure F hm S_lengths_of rfl (fun _ _ _ _ _ _ us hl => match us, hl with | [_], _ => rfl) fun cdv A outer s H E hr =>
    (dss_one (ds_ret (de_fz (se_lc2 rfl S_lengths_of.nd (di_rng2 (by rfl) G.b_range (da_cons de_int (da_cons (de_var 0) da_nil))) [("one", 1), ("two", 2)] (by rfl) [2] (fun _ _ _ _ _ => (dg_name 1 S_lengths_of.nd)) (fun _ _ _ _ _ => dts_nil) (fun _ _ _ _ _ => (di_rng2 (by rfl) G.b_range (da_cons de_int (da_cons (de_add (de_sub (de_var 0) (de_var 1)) de_int) da_nil)))) (fun _ _ _ _ _ => (dg_name 2 S_lengths_of.nd)) (fun _ _ _ _ _ => dts_nil) (fun _ _ _ _ _ => (de_tup (da_cons (de_var 1) (da_cons (de_var 2) (da_cons (de_sub (de_sub (de_var 0) (de_var 1)) (de_var 2)) da_nil)))))))))
theorem S_first_broken : FnScope ["cells", "wishes", "index", "wish"] ["cells", "wishes"] (defScope s_first_broken) := fnScope_by (by decide +kernel)
def g_first_broken : MS := (sRet (mSl (mFz (mLst (mLC [2, 3] (mEnum (eVar 1)) (tgTup 2 (tgCons (tgN 2) (tgCons (tgN 3) tgNil))) (tNotM (mT (fun _ => none))) (eVar 2)))) mNoPart (mPart (eC (.int 1)))))
def f_first_broken : FD := runP' 2 g_first_broken
theorem ok_first_broken (G : Gv P w K mg) {f : Addr} {fd : FuncData} (F : FunD K "first_broken" "first_broken" (defArgs s_first_broken) (defBody s_first_broken) (defScope s_first_broken) [] [] f fd) (hm : mg "first_broken" = some (.ref f)) : PF P w K mg base 1 "first_broken" 2 f_first_broken :=
  cal_pure F hm S_first_broken rfl (fun _ _ _ _ _ _ us hl => match us, hl with | [_, _], _ => rfl) fun cdv A outer s H E hr =>
    (dss_one (ds_ret (de_slice (de_fz (se_lc rfl S_first_broken.nd (di_enum (by rfl) G.b_enumerate (de_var 1)) [("index", 2), ("wish", 3)] (by rfl) (fun _ _ _ _ _ => (dg_tup rfl (dgs_cons (dg_name 2 S_first_broken.nd) (dgs_cons (dg_name 3 S_first_broken.nd) dgs_nil)) 2)) (fun _ _ _ _ _ => (dts_one (dt_not (dt_val de_never)))) (fun _ _ _ _ _ => (de_var 2)))) do_none (do_some de_int))))
theorem S_law_urn : FnScope ["script", "lap", "own", "stir", "each"] ["script", "lap"] (defScope s_law_urn) := fnScope_by (by decide +kernel)
def g_law_urn : MS := (sSeq (sSet 2 (mDat (mIf (mT (m2 ltD (eVar 1) (m1 lenD (eLoc 0)))) (m1 intD (mLoc2 0 ixD (eVar 1))) (m2 addD (m2 addD (m2 mulD (eC (.int 9551)) (eVar 1)) (eC (.int 479))) (m2 modD (m1 intD (m1 sumD (mSlN 0 mNoPart (mPart (eC (.int 5)))))) (eC (.int 999631))))))) (sSeq (sSet 3 (mDat (m2 addD (eC (.int 94999)) (m2 mulD (eC (.int 4139)) (eVar 1))))) (sSeq (sFor (mItems (m2 addD (mSlN 0 mNoPart (mPart (eC (.int 11)))) (mFz (mLst (aCons (eVar 2) aNil))))) (tgN 4) (sSet 3 (mDat (m2 modD (m1 intD (m2 addD (m2 addD (m2 mulD (eVar 3) (eC (.int 44789))) (m2 modD (m1 intD (eLoc 4)) (eC (.int 2147483179)))) (eC (.int 43)))) (eC (.int 2147483137)))))) (sRetS (mLst (aCons (mIf (tOrM (mT (m2 ltD (eVar 2) (eC (.int 0)))) (mT (m2 geD (eVar 2) (m2 powD (eC (.int 10)) (eC (.int 18)))))) (m2 modD (m1 intD (m1 absD (eLoc 2))) (m2 powD (eC (.int 10)) (eC (.int 60)))) (eC (.int 0))) (aCons (eVar 3) (aCons (eC (.int 0)) aNil))))))))
def f_law_urn : FD := runB' 3 g_law_urn
theorem ok_law_urn (G : Gv P w K mg) {f : Addr} {fd : FuncData} (F : FunD K "_law_urn" "_law_urn" (defArgs s_law_urn) (defBody s_law_urn) (defScope s_law_urn) [] [] f fd) (hm : mg "_law_urn" = some (.ref f)) : BF P w K mg base 1 "_law_urn" 1 f_law_urn :=
  cal_bor F hm S_law_urn 1 rfl rfl (fun _ _ _ _ _ _ us hl => match us, hl with | [_, _], _ => rfl) fun cdv A outer s H E hr =>
    (dss_cons (ds_set 2 S_law_urn.nd (SE.of (de_ifExp (dt_cm (c_lt hr.u) (de_var 1) (de_b1 b_len (by rfl) G.b_len bt_len (le_loc 0)) rfl) (de_t1 b_int (by rfl) G.b_int bt_int (LE.of (de_ixN 0 (de_var 1)))) (de_add (de_add (de_mul de_int (de_var 1)) de_int) (de_mod (de_t1 b_int (by rfl) G.b_int bt_int (LE.of (de_b1 (b_sum rfl) (by rfl) G.b_sum bt_sum (LE.of (de_sliceN 0 do_none (do_some de_int)))))) de_int))))) (dss_cons (ds_set 3 S_law_urn.nd (SE.of (de_add de_int (de_mul de_int (de_var 1))))) (dss_cons (ds_for rfl (di_val (de_add (de_sliceN 0 do_none (do_some de_int)) (de_fz (se_lst (da_cons (de_var 2) da_nil))))) (dg_name 4 S_law_urn.nd) (dss_one (ds_set 3 S_law_urn.nd (SE.of (de_mod (de_t1 b_int (by rfl) G.b_int bt_int (LE.of (de_add (de_add (de_mul (de_var 3) de_int) (de_mod (de_t1 b_int (by rfl) G.b_int bt_int (le_loc 4)) de_int)) de_int))) de_int)))) PassesOwn.never) (dss_one (ds_retS (se_lst (da_cons (de_ifExp (DW.dt (dw_or (dt_cm (c_lt hr.u) (de_var 2) de_int rfl) (dw_or1 (dt_cm c_ge (de_var 2) (de_pow de_int de_int) rfl)))) (de_mod (de_t1 b_int (by rfl) G.b_int bt_int (LE.of (de_b1 b_abs (by rfl) G.b_abs bt_abs (le_loc 2)))) (de_pow de_int de_int)) de_int) (da_cons (de_var 3) (da_cons de_int da_nil)))))))))
theorem S_law_nip : FnScope ["urn", "many", "found", "lap"] ["urn", "many"] (defScope s_law_nip) := fnScope_by (by decide +kernel)
def g_law_nip : MS := (sSeq (sIf (mT (m2 gtD (mLoc2 0 ixD (eC (.int 0))) (eC (.int 0)))) (sSeq (sAsg (mA2 divmodD (aCons (mLoc2 0 ixD (eC (.int 0))) (aCons (eVar 1) aNil))) (tgTup 2 (tgCons (tgSub 0 (eC (.int 0))) (tgCons (tgN 2) tgNil)))) (sRet (eVar 2))) sNil) (sSeq (sAsg (m2 addD (mLoc2 0 ixD (eC (.int 2))) (eC (.int 1))) (tgSub 0 (eC (.int 2)))) (sSeq (sSet 3 (mDat (m2 modD (m1 intD (m2 addD (m2 addD (m2 mulD (mLoc2 0 ixD (eC (.int 1))) (eC (.int 41299))) (m2 mulD (mLoc2 0 ixD (eC (.int 2))) (eC (.int 50951)))) (eC (.int 23)))) (eC (.int 2147483423))))) (sSeq (sAsg (m2 modD (m1 intD (m2 addD (m2 mulD (eVar 3) (m2 addD (m2 mulD (eC (.int 2)) (m2 fdivD (eVar 3) (eC (.int 37)))) (eC (.int 20011)))) (mLoc2 0 ixD (eC (.int 2))))) (eC (.int 2147483423))) (tgSub 0 (eC (.int 1)))) (sRet (m2 modD (m1 intD (m2 fdivD (mLoc2 0 ixD (eC (.int 1))) (eC (.int 103)))) (eVar 1)))))))
def f_law_nip : FI := runI' 2 g_law_nip
theorem ok_law_nip (G : Gv P w K mg) {f : Addr} {fd : FuncData} (F : FunD K "_law_nip" "_law_nip" (defArgs s_law_nip) (defBody s_law_nip) (defScope s_law_nip) [] [] f fd) (hm : mg "_law_nip" = some (.ref f)) : IF P w K mg base 1 "_law_nip" 1 f_law_nip :=
  cal_io F hm S_law_nip 1 rfl rfl (fun _ _ _ _ _ _ us hl => match us, hl with | [_, _], _ => rfl) fun cdv A outer s H E hr =>
    (dss_cons (ds_if (dt_cm c_gt (de_ixN 0 de_int) de_int rfl) (dss_cons (ds_asg (de_b2 b_divmod (by rfl) G.b_divmod bt_divmod (da_cons (de_ixN 0 de_int) (da_cons (de_var 1) da_nil))) (dg_tup rfl (dgs_cons (dg_sub 0 de_int) (dgs_cons (dg_name 2 S_law_nip.nd) dgs_nil)) 2)) (dss_one (ds_ret (de_var 2)))) dss_nil) (dss_cons (ds_asg (de_add (de_ixN 0 de_int) de_int) (dg_sub 0 de_int)) (dss_cons (ds_set 3 S_law_nip.nd (SE.of (de_mod (de_t1 b_int (by rfl) G.b_int bt_int (LE.of (de_add (de_add (de_mul (de_ixN 0 de_int) de_int) (de_mul (de_ixN 0 de_int) de_int)) de_int))) de_int))) (dss_cons (ds_asg (de_mod (de_t1 b_int (by rfl) G.b_int bt_int (LE.of (de_add (de_mul (de_var 3) (de_add (de_mul de_int (de_fdiv (de_var 3) de_int)) de_int)) (de_ixN 0 de_int)))) de_int) (dg_sub 0 de_int)) (dss_one (ds_ret (de_mod (de_t1 b_int (by rfl) G.b_int bt_int (LE.of (de_fdiv (de_ixN 0 de_int) de_int))) (de_var 1))))))))
theorem S_law_is_whole : FnScope ["value"] ["value"] (defScope s_law_is_whole) := fnScope_by (by decide +kernel)
def g_law_is_whole : MS := (sRet (mAnd (m1 (isiD "int") (eVar 0)) (m1 notD (m1 (isiD "bool") (eVar 0)))))
def f_law_is_whole : FD := runP' 0 g_law_is_whole
theorem ok_law_is_whole (G : Gv P w K mg) {f : Addr} {fd : FuncData} (F : FunD K "_law_is_whole" "_law_is_whole" (defArgs s_law_is_whole) (defBody s_law_is_whole) (defScope s_law_is_whole) [] [] f fd) (hm : mg "_law_is_whole" = some (.ref f)) : PF P w K mg base 1 "_law_is_whole" 1 f_law_is_whole :=
  cal_pure F hm S_law_is_whole rfl (fun _ _ _ _ _ _ us hl => match us, hl with | [_], _ => rfl) fun cdv A outer s H E hr =>
    (dss_one (ds_ret (de_and (de_isi "int" kit_int (de_var 0) (by rfl) G.b_isinstance (by rfl) G.b_int) (de_one (de_not (de_isi "bool" kit_bool (de_var 0) (by rfl) G.b_isinstance (by rfl) G.b_bool))))))
theorem S_law_beside : FnScope ["cell", "x", "y"] ["cell"] (defScope s_law_beside) := fnScope_by (by decide +kernel)
def g_law_beside : MS := (sSeq (sAsg (eVar 0) (tgTup 2 (tgCons (tgN 1) (tgCons (tgN 2) tgNil)))) (sRet (mFz (mLst (aCons (mTup (aCons (m2 subD (eVar 1) (eC (.int 1))) (aCons (eVar 2) aNil))) (aCons (mTup (aCons (eVar 1) (aCons (m2 subD (eVar 2) (eC (.int 1))) aNil))) (aCons (mTup (aCons (eVar 1) (aCons (m2 addD (eVar 2) (eC (.int 1))) aNil))) (aCons (mTup (aCons (m2 addD (eVar 1) (eC (.int 1))) (aCons (eVar 2) aNil))) aNil))))))))
def f_law_beside : FD := runP' 2 g_law_beside
theorem ok_law_beside (G : Gv P w K mg) {f : Addr} {fd : FuncData} (F : FunD K "_law_beside" "_law_beside" (defArgs s_law_beside) (defBody s_law_beside) (defScope s_law_beside) [] [] f fd) (hm : mg "_law_beside" = some (.ref f)) : PF P w K mg base 1 "_law_beside" 1 f_law_beside :=
  cal_pure F hm S_law_beside rfl (fun _ _ _ _ _ _ us hl => match us, hl with | [_], _ => rfl) fun cdv A outer s H E hr =>
    (dss_cons (ds_asg (de_var 0) (dg_tup rfl (dgs_cons (dg_name 1 S_law_beside.nd) (dgs_cons (dg_name 2 S_law_beside.nd) dgs_nil)) 2)) (dss_one (ds_ret (de_fz (se_lst (da_cons (de_tup (da_cons (de_sub (de_var 1) de_int) (da_cons (de_var 2) da_nil))) (da_cons (de_tup (da_cons (de_var 1) (da_cons (de_sub (de_var 2) de_int) da_nil))) (da_cons (de_tup (da_cons (de_var 1) (da_cons (de_add (de_var 2) de_int) da_nil))) (da_cons (de_tup (da_cons (de_add (de_var 1) de_int) (da_cons (de_var 2) da_nil))) da_nil)))))))))
theorem S_law_number : FnScope ["text", "figures", "sign", "found"] ["text"] (defScope s_law_number) := fnScope_by (by decide +kernel)
def g_law_number : MS := (sSeq (sSet 1 (mDat (mIf (mT (m2 eqD (mSl (eVar 0) mNoPart (mPart (eC (.int 1)))) (eC (.str "-")))) (mSl (eVar 0) (mPart (eC (.int 1))) mNoPart) (eVar 0)))) (sSeq (sIf (tOrM (mT (m2 eqD (eVar 1) (eC (.str "")))) (tOrM (mT (m2 gtD (m1 lenD (eLoc 1)) (eC (.int 40)))) (tOrM (mT (m2 neD (mFz (mLst (mLC [2] (mChars (eVar 1)) (tgN 2) (mT (m2 notInSD (eVar 2) (eC (.str "0123456789")))) (eVar 2)))) (mFz (mLst aNil)))) (tAndM (mT (m2 eqD (m2 ixD (eVar 1) (eC (.int 0))) (eC (.str "0")))) (mT (m2 neD (eVar 0) (eC (.str "0")))))))) (sRet (eC .none)) sNil) (sSeq (sSet 3 (mDat (eC (.int 0)))) (sSeq (sFor (mChars (eVar 1)) (tgN 2) (sSet 3 (mDat (m2 addD (m2 mulD (eVar 3) (eC (.int 10))) (m2 (sOnly indexB) (eC (.str "0123456789")) (eVar 2)))))) (sRet (mIf (mT (m2 eqD (eVar 1) (eVar 0))) (eVar 3) (m2 subD (eC (.int 0)) (eVar 3))))))))
def f_law_number : FD := runP' 3 g_law_number
theorem ok_law_number (G : Gv P w K mg) {f : Addr} {fd : FuncData} (F : FunD K "_law_number" "_law_number" (defArgs s_law_number) (defBody s_law_number) (defScope s_law_number) [] [] f fd) (hm : mg "_law_number" = some (.ref f)) : PF P w K mg base 1 "_law_number" 1 f_law_number :=
  cal_pure F hm S_law_number rfl (fun _ _ _ _ _ _ us hl => match us, hl with | [_], _ => rfl) fun cdv A outer s H E hr =>
    (dss_cons (ds_set 1 S_law_number.nd (SE.of (de_ifExp (dt_cm (c_eq hr.u) (de_slice (de_var 0) do_none (do_some de_int)) de_str rfl) (de_slice (de_var 0) (do_some de_int) do_none) (de_var 0)))) (dss_cons (ds_if (DW.dt (dw_or (dt_cm (c_eq hr.u) (de_var 1) de_str rfl) (dw_or (dt_cm c_gt (de_b1 b_len (by rfl) G.b_len bt_len (le_loc 1)) de_int rfl) (dw_or (dt_cm (c_ne hr.u) (de_fz (se_lc rfl S_law_number.nd (di_str (de_var 1)) [("sign", 2)] (by rfl) (fun _ _ _ _ _ => (dg_name 2 S_law_number.nd)) (fun _ _ _ _ _ => (dts_one (dt_cm c_notInS (de_var 2) de_str rfl))) (fun _ _ _ _ _ => (de_var 2)))) (de_fz (se_lst da_nil)) rfl) (dw_or1 (DW.dt (dw_and (dt_cm (c_eq hr.u) (de_ix (de_var 1) de_int) de_str rfl) (dw_and1 (dt_cm (c_ne hr.u) (de_var 0) de_str rfl))))))))) (dss_one (ds_ret de_non)) dss_nil) (dss_cons (ds_set 3 S_law_number.nd (SE.of de_int)) (dss_cons (ds_for rfl (di_str (de_var 1)) (dg_name 2 S_law_number.nd) (dss_one (ds_set 3 S_law_number.nd (SE.of (de_add (de_mul (de_var 3) de_int) (de_indexS de_str (de_var 2)))))) PassesOwn.never) (dss_one (ds_ret (de_ifExp (dt_cm (c_eq hr.u) (de_var 1) (de_var 0) rfl) (de_var 3) (de_sub de_int (de_var 3)))))))))
theorem S_is_between : FnScope ["value", "low", "high"] ["value", "low", "high"] (defScope s_is_between) := fnScope_by (by decide +kernel)
def g_is_between : MS := (sRet (mAnd (mFz (mCall f_is_whole (aCons (eVar 0) aNil))) (m3c leD leD (eVar 1) (eVar 0) (eVar 2))))
def f_is_between : FD := runP' 0 g_is_between
theorem ok_is_between (G : Gv P w K mg) {f : Addr} {fd : FuncData} (F : FunD K "is_between" "is_between" (defArgs s_is_between) (defBody s_is_between) (defScope s_is_between) [] [] f fd) (hm : mg "is_between" = some (.ref f)) (c_is_whole : PF P w K mg base 1 "is_whole" 1 f_is_whole) : PF P w K mg base 2 "is_between" 3 f_is_between :=
  cal_pure F hm S_is_between rfl (fun _ _ _ _ _ _ us hl => match us, hl with | [_, _, _], _ => rfl) fun cdv A outer s H E hr =>
    (dss_one (ds_ret (de_and (de_fz (se_call c_is_whole hr (by decide) (da_cons (de_var 0) da_nil))) (de_one (de_chain c_le c_le (de_var 1) (de_var 0) (de_var 2))))))
theorem S_beside : FnScope ["cell", "side"] ["cell"] (defScope s_beside) := fnScope_by (by decide +kernel)
def g_beside : MS := (sRet (mFz (mLst (mLC [1] (mItems (eC (.tuple [(.tuple [(.int (1)), (.int (0))]), (.tuple [(.int (0)), (.int (1))]), (.tuple [(.int (-1)), (.int (0))]), (.tuple [(.int (0)), (.int (-1))])]))) (tgN 1) tAll (mFz (mCall f_put_to (aCons (eVar 0) (aCons (eVar 1) aNil))))))))
def f_beside : FD := runP' 1 g_beside
theorem ok_beside (G : Gv P w K mg) {f : Addr} {fd : FuncData} (F : FunD K "beside" "beside" (defArgs s_beside) (defBody s_beside) (defScope s_beside) [] [] f fd) (hm : mg "beside" = some (.ref f)) (c_put_to : PF P w K mg base 1 "put_to" 2 f_put_to) : PF P w K mg base 2 "beside" 1 f_beside :=
  cal_pure F hm S_beside rfl (fun _ _ _ _ _ _ us hl => match us, hl with | [_], _ => rfl) fun cdv A outer s H E hr =>
    (dss_one (ds_ret (de_fz (se_lc rfl S_beside.nd (di_val (de_gl G.g_SIDES)) [("side", 1)] (by rfl) (fun _ _ _ _ _ => (dg_name 1 S_beside.nd)) (fun _ _ _ _ _ => dts_nil) (fun _ _ _ _ _ => (de_fz (se_call c_put_to hr (by decide) (da_cons (de_var 0) (da_cons (de_var 1) da_nil)))))))))
theorem S_around : FnScope ["cells", "across", "cell", "upwards", "x", "y"] ["cells"] (defScope s_around) := fnScope_by (by decide +kernel)
def g_around : MS := (sSeq (sSet 1 (mRngS (aCons (m2 subD (mFz (mCall f_least_x (aCons (eVar 0) aNil))) (eC (.int 1))) (aCons (m2 addD (m1 maxL (mFz (mLst (mLC [2] (mItems (eVar 0)) (tgN 2) tAll (m2 ixD (eVar 2) (eC (.int 0))))))) (eC (.int 2))) aNil)))) (sSeq (sSet 3 (mRngS (aCons (m2 subD (mFz (mCall f_least_y (aCons (eVar 0) aNil))) (eC (.int 1))) (aCons (m2 addD (m1 maxL (mFz (mLst (mLC [2] (mItems (eVar 0)) (tgN 2) tAll (m2 ixD (eVar 2) (eC (.int 1))))))) (eC (.int 2))) aNil)))) (sRet (mFz (mLst (mLC2 [4, 5] [5] (mRngV 1) (tgN 4) tAll (mRngV 3) (tgN 5) tAll (mTup (aCons (eVar 4) (aCons (eVar 5) aNil)))))))))
def f_around : FD := runP' 5 g_around
theorem ok_around (G : Gv P w K mg) {f : Addr} {fd : FuncData} (F : FunD K "around" "around" (defArgs s_around) (defBody s_around) (defScope s_around) [] [] f fd) (hm : mg "around" = some (.ref f)) (c_least_x : PF P w K mg base 1 "least_x" 1 f_least_x) (c_least_y : PF P w K mg base 1 "least_y" 1 f_least_y) : PF P w K mg base 2 "around" 1 f_around :=
  cal_pure F hm S_around rfl (fun _ _ _ _ _ _ us hl => match us, hl with | [_], _ => rfl) fun cdv A outer s H E hr =>
    (dss_cons (ds_set 1 S_around.nd (se_rng2 (by rfl) G.b_range (da_cons (de_sub (de_fz (se_call c_least_x hr (by decide) (da_cons (de_var 0) da_nil))) de_int) (da_cons (de_add (de_b1 (b_max rfl (hu32 hr.u)) (by rfl) G.b_max bt_max (LE.of (de_fz (se_lc rfl S_around.nd (di_val (de_var 0)) [("cell", 2)] (by rfl) (fun _ _ _ _ _ => (dg_name 2 S_around.nd)) (fun _ _ _ _ _ => dts_nil) (fun _ _ _ _ _ => (de_ix (de_var 2) de_int)))))) de_int) da_nil)))) (dss_cons (ds_set 3 S_around.nd (se_rng2 (by rfl) G.b_range (da_cons (de_sub (de_fz (se_call c_least_y hr (by decide) (da_cons (de_var 0) da_nil))) de_int) (da_cons (de_add (de_b1 (b_max rfl (hu32 hr.u)) (by rfl) G.b_max bt_max (LE.of (de_fz (se_lc rfl S_around.nd (di_val (de_var 0)) [("cell", 2)] (by rfl) (fun _ _ _ _ _ => (dg_name 2 S_around.nd)) (fun _ _ _ _ _ => dts_nil) (fun _ _ _ _ _ => (de_ix (de_var 2) de_int)))))) de_int) da_nil)))) (dss_one (ds_ret (de_fz (se_lc2 rfl S_around.nd (di_rngv 1) [("x", 4), ("y", 5)] (by rfl) [5] (fun _ _ _ _ _ => (dg_name 4 S_around.nd)) (fun _ _ _ _ _ => dts_nil) (fun _ _ _ _ _ => (di_rngv 3)) (fun _ _ _ _ _ => (dg_name 5 S_around.nd)) (fun _ _ _ _ _ => dts_nil) (fun _ _ _ _ _ => (de_tup (da_cons (de_var 4) (da_cons (de_var 5) da_nil))))))))))
theorem S_corners_by : FnScope ["cells", "found", "index", "one", "second"] ["cells"] (defScope s_corners_by) := fnScope_by (by decide +kernel)
def g_corners_by : MS := (sSeq (sSet 1 (mLst aNil)) (sSeq (sFor (mEnum (eVar 0)) (tgTup 2 (tgCons (tgN 2) (tgCons (tgN 3) tgNil))) (sFor (mRng2 (aCons (m2 addD (eVar 2) (eC (.int 1))) (aCons (m1 lenD (eLoc 0)) aNil))) (tgN 4) (sIf (mT (mFz (mCall f_do_touch_at_corner (aCons (eVar 0) (aCons (eVar 3) (aCons (m2 ixD (eVar 0) (eVar 4)) aNil)))))) (sExpr (mAppN 1 (mTup (aCons (eVar 2) (aCons (eVar 4) aNil))))) sNil))) (sRet (m1 tupleD (eLoc 1)))))
def f_corners_by : FD := runP' 4 g_corners_by
theorem ok_corners_by (G : Gv P w K mg) {f : Addr} {fd : FuncData} (F : FunD K "corners_by" "corners_by" (defArgs s_corners_by) (defBody s_corners_by) (defScope s_corners_by) [] [] f fd) (hm : mg "corners_by" = some (.ref f)) (c_do_touch_at_corner : PF P w K mg base 1 "do_touch_at_corner" 3 f_do_touch_at_corner) : PF P w K mg base 2 "corners_by" 1 f_corners_by :=
  cal_pure F hm S_corners_by rfl (fun _ _ _ _ _ _ us hl => match us, hl with | [_], _ => rfl) fun cdv A outer s H E hr =>
    (dss_cons (ds_set 1 S_corners_by.nd (se_lst da_nil)) (dss_cons (ds_for rfl (di_enum (by rfl) G.b_enumerate (de_var 0)) (dg_tup rfl (dgs_cons (dg_name 2 S_corners_by.nd) (dgs_cons (dg_name 3 S_corners_by.nd) dgs_nil)) 2) (dss_one (ds_for rfl (di_rng2 (by rfl) G.b_range (da_cons (de_add (de_var 2) de_int) (da_cons (de_b1 b_len (by rfl) G.b_len bt_len (le_loc 0)) da_nil))) (dg_name 4 S_corners_by.nd) (dss_one (ds_if (dt_val (de_fz (se_call c_do_touch_at_corner hr (by decide) (da_cons (de_var 0) (da_cons (de_var 3) (da_cons (de_ix (de_var 0) (de_var 4)) da_nil)))))) (dss_one (ds_expr (de_append 1 (de_tup (da_cons (de_var 2) (da_cons (de_var 4) da_nil)))))) dss_nil)) PassesOwn.never)) PassesOwn.never) (dss_one (ds_ret (de_t1 b_tuple (by rfl) G.b_tuple bt_tuple (le_loc 1))))))
theorem S_is_number_text : FnScope ["text"] ["text"] (defScope s_is_number_text) := fnScope_by (by decide +kernel)
def g_is_number_text : MS := (sRet (mIf (mT (m2 (sOnly startsB) (eVar 0) (eC (.str "-")))) (mAnd (mFz (mCall f_is_figures (aCons (mSl (eVar 0) (mPart (eC (.int 1))) mNoPart) aNil))) (m2 neD (eVar 0) (eC (.str "-0")))) (mFz (mCall f_is_figures (aCons (eVar 0) aNil)))))
def f_is_number_text : FD := runP' 0 g_is_number_text
theorem ok_is_number_text (G : Gv P w K mg) {f : Addr} {fd : FuncData} (F : FunD K "is_number_text" "is_number_text" (defArgs s_is_number_text) (defBody s_is_number_text) (defScope s_is_number_text) [] [] f fd) (hm : mg "is_number_text" = some (.ref f)) (c_is_figures : PF P w K mg base 1 "is_figures" 1 f_is_figures) : PF P w K mg base 2 "is_number_text" 1 f_is_number_text :=
  cal_pure F hm S_is_number_text rfl (fun _ _ _ _ _ _ us hl => match us, hl with | [_], _ => rfl) fun cdv A outer s H E hr =>
    (dss_one (ds_ret (de_ifExp (dt_val (de_starts (de_var 0) (de_gl G.g_MINUS))) (de_and (de_fz (se_call c_is_figures hr (by decide) (da_cons (de_slice (de_var 0) (do_some de_int) do_none) da_nil))) (de_one (de_cm (c_ne hr.u) (de_var 0) de_str rfl))) (de_fz (se_call c_is_figures hr (by decide) (da_cons (de_var 0) da_nil))))))
theorem S_fits_by : FnScope ["shape", "lattice", "cell"] ["shape", "lattice"] (defScope s_fits_by) := fnScope_by (by decide +kernel)
def g_fits_by : MS := (sSeq (sIf (mT (m2 neD (mFz (mCall f_size_by (aCons (eVar 1) aNil))) (m1 lenD (eLoc 0)))) (sRet (eC (.bool false))) sNil) (sRet (mFz (mCall f_are_unlike (aCons (mFz (mLst (mLC [2] (mItems (eVar 0)) (tgN 2) tAll (mFz (mCall f_rest_by (aCons (eVar 1) (aCons (eVar 2) aNil))))))) aNil)))))
def f_fits_by : FD := runP' 1 g_fits_by
theorem ok_fits_by (G : Gv P w K mg) {f : Addr} {fd : FuncData} (F : FunD K "fits_by" "fits_by" (defArgs s_fits_by) (defBody s_fits_by) (defScope s_fits_by) [] [] f fd) (hm : mg "fits_by" = some (.ref f)) (c_size_by : PF P w K mg base 1 "size_by" 1 f_size_by) (c_are_unlike : PF P w K mg base 1 "are_unlike" 1 f_are_unlike) (c_rest_by : PF P w K mg base 1 "rest_by" 2 f_rest_by) : PF P w K mg base 2 "fits_by" 2 f_fits_by :=
  cal_pure F hm S_fits_by rfl (fun _ _ _ _ _ _ us hl => match us, hl with | [_, _], _ => rfl) fun cdv A outer s H E hr =>
    (dss_cons (ds_if (dt_cm (c_ne hr.u) (de_fz (se_call c_size_by hr (by decide) (da_cons (de_var 1) da_nil))) (de_b1 b_len (by rfl) G.b_len bt_len (le_loc 0)) rfl) (dss_one (ds_ret de_bl)) dss_nil) (dss_one (ds_ret (de_fz (se_call c_are_unlike hr (by decide) (da_cons (de_fz (se_lc rfl S_fits_by.nd (di_val (de_var 0)) [("cell", 2)] (by rfl) (fun _ _ _ _ _ => (dg_name 2 S_fits_by.nd)) (fun _ _ _ _ _ => dts_nil) (fun _ _ _ _ _ => (de_fz (se_call c_rest_by hr (by decide) (da_cons (de_var 1) (da_cons (de_var 2) da_nil))))))) da_nil))))))
theorem S_rim_at : FnScope ["cells", "letters", "cell", "side", "start", "found", "point"] ["cells"] (defScope s_rim_at) := fnScope_by (by decide +kernel)
def g_rim_at : MS := (sSeq (sSet 1 (mDict (mFz (mLst (mLC2 [2, 3] [3] (mItems (eVar 0)) (tgN 2) tAll (mItems (mFz (mCall f_sides_of (aCons (eVar 0) (aCons (eVar 2) aNil))))) (tgN 3) tAll (eVar 3)))))) (sSeq (sSet 4 (mDat (m1 minL (eLoc 1)))) (sSeq (sPar 5 6 (mDat (mDget 1 (eVar 4))) (mDat (m2 ixD (mFz (mCall f_points_of (aCons (mDget 1 (eVar 4)) (aCons (eVar 4) aNil)))) (m1 negD (eC (.int 1)))))) (sSeq (sWhile (mT (m2 neD (eVar 6) (eVar 4))) (sPar 5 6 (mDat (m2 addD (eVar 5) (mDget 1 (eVar 6)))) (mDat (m2 ixD (mFz (mCall f_points_of (aCons (mDget 1 (eVar 6)) (aCons (eVar 6) aNil)))) (m1 negD (eC (.int 1)))))) 4000) (sRet (mTup (aCons (eVar 4) (aCons (eVar 5) aNil))))))))
def f_rim_at : FD := runP' 6 g_rim_at
theorem ok_rim_at (G : Gv P w K mg) {f : Addr} {fd : FuncData} (F : FunD K "rim_at" "rim_at" (defArgs s_rim_at) (defBody s_rim_at) (defScope s_rim_at) [] [] f fd) (hm : mg "rim_at" = some (.ref f)) (c_sides_of : PF P w K mg base 1 "sides_of" 2 f_sides_of) (c_points_of : PF P w K mg base 1 "points_of" 2 f_points_of) : PF P w K mg base 2 "rim_at" 1 f_rim_at :=
  cal_pure F hm S_rim_at rfl (fun _ _ _ _ _ _ us hl => match us, hl with | [_], _ => rfl) fun cdv A outer s H E hr =>
    (dss_cons (ds_set 1 S_rim_at.nd (se_dict rfl (hu32 hr.u) (de_fz (se_lc2 rfl S_rim_at.nd (di_val (de_var 0)) [("cell", 2), ("side", 3)] (by rfl) [3] (fun _ _ _ _ _ => (dg_name 2 S_rim_at.nd)) (fun _ _ _ _ _ => dts_nil) (fun _ _ _ _ _ => (di_val (de_fz (se_call c_sides_of hr (by decide) (da_cons (de_var 0) (da_cons (de_var 2) da_nil)))))) (fun _ _ _ _ _ => (dg_name 3 S_rim_at.nd)) (fun _ _ _ _ _ => dts_nil) (fun _ _ _ _ _ => (de_var 3)))) (by rfl) G.b_dict bt_dict)) (dss_cons (ds_set 4 S_rim_at.nd (SE.of (de_b1 (b_min rfl (hu32 hr.u)) (by rfl) G.b_min bt_min (le_loc 1)))) (dss_cons (ds_par 5 6 rfl S_rim_at.nd (SE.of (de_dget (hu9 hr.u) 1 (de_var 4))) (SE.of (de_ix (de_fz (se_call c_points_of hr (by decide) (da_cons (de_dget (hu9 hr.u) 1 (de_var 4)) (da_cons (de_var 4) da_nil)))) (de_neg de_int))) (by rfl)) (dss_cons (ds_while 4000 (dt_cm (c_ne hr.u) (de_var 6) (de_var 4) rfl) (dss_one (ds_par 5 6 rfl S_rim_at.nd (SE.of (de_add (de_var 5) (de_dget (hu9 hr.u) 1 (de_var 6)))) (SE.of (de_ix (de_fz (se_call c_points_of hr (by decide) (da_cons (de_dget (hu9 hr.u) 1 (de_var 6)) (da_cons (de_var 6) da_nil)))) (de_neg de_int))) (by rfl))) PassesOwn.never) (dss_one (ds_ret (de_tup (da_cons (de_var 4) (da_cons (de_var 5) da_nil)))))))))
theorem S_words_of : FnScope ["word", "parts", "index", "one", "two", "three", "read"] ["word", "parts"] (defScope s_words_of) := fnScope_by (by decide +kernel)
def g_words_of : MS := (sSeq (sAsg (eVar 1) (tgTup 4 (tgCons (tgN 2) (tgCons (tgN 3) (tgCons (tgN 4) (tgCons (tgN 5) tgNil)))))) (sSeq (sSet 6 (mDat (mFz (mCall f_read_from (aCons (eVar 0) (aCons (eVar 2) aNil)))))) (sRet (mFz (mLst (aCons (mSl (eVar 6) mNoPart (mPart (eVar 3))) (aCons (mSl (eVar 6) (mPart (eVar 3)) (mPart (m2 addD (eVar 3) (eVar 4)))) (aCons (mSl (eVar 6) (mPart (m2 addD (eVar 3) (eVar 4))) (mPart (m2 addD (m2 addD (eVar 3) (eVar 4)) (eVar 5)))) aNil))))))))
def f_words_of : FD := runP' 5 g_words_of
theorem ok_words_of (G : Gv P w K mg) {f : Addr} {fd : FuncData} (F : FunD K "words_of" "words_of" (defArgs s_words_of) (defBody s_words_of) (defScope s_words_of) [] [] f fd) (hm : mg "words_of" = some (.ref f)) (c_read_from : PF P w K mg base 1 "read_from" 2 f_read_from) : PF P w K mg base 2 "words_of" 2 f_words_of :=
  cal_pure F hm S_words_of rfl (fun _ _ _ _ _ _ us hl => match us, hl with | [_, _], _ => rfl) fun cdv A outer s H E hr =>
    (dss_cons (ds_asg (de_var 1) (dg_tup rfl (dgs_cons (dg_name 2 S_words_of.nd) (dgs_cons (dg_name 3 S_words_of.nd) (dgs_cons (dg_name 4 S_words_of.nd) (dgs_cons (dg_name 5 S_words_of.nd) dgs_nil)))) 4)) (dss_cons (ds_set 6 S_words_of.nd (SE.of (de_fz (se_call c_read_from hr (by decide) (da_cons (de_var 0) (da_cons (de_var 2) da_nil)))))) (dss_one (ds_ret (de_fz (se_lst (da_cons (de_slice (de_var 6) do_none (do_some (de_var 3))) (da_cons (de_slice (de_var 6) (do_some (de_var 3)) (do_some (de_add (de_var 3) (de_var 4)))) (da_cons (de_slice (de_var 6) (do_some (de_add (de_var 3) (de_var 4))) (do_some (de_add (de_add (de_var 3) (de_var 4)) (de_var 5)))) da_nil)))))))))
theorem S_law_any_of : FnScope ["urn", "some"] ["urn", "some"] (defScope s_law_any_of) := fnScope_by (by decide +kernel)
def g_law_any_of : MS := (sRet (m2 ixD (eVar 1) (mFz (mCallI 0 f_law_nip (aCons (m1 lenD (eLoc 1)) aNil)))))
def f_law_any_of : FI := runI' 0 g_law_any_of
theorem ok_law_any_of (G : Gv P w K mg) {f : Addr} {fd : FuncData} (F : FunD K "_law_any_of" "_law_any_of" (defArgs s_law_any_of) (defBody s_law_any_of) (defScope s_law_any_of) [] [] f fd) (hm : mg "_law_any_of" = some (.ref f)) (c_law_nip : IF P w K mg base 1 "_law_nip" 1 f_law_nip) : IF P w K mg base 2 "_law_any_of" 1 f_law_any_of :=
  cal_io F hm S_law_any_of 1 rfl rfl (fun _ _ _ _ _ _ us hl => match us, hl with | [_, _], _ => rfl) fun cdv A outer s H E hr =>
    (dss_one (ds_ret (de_ix (de_var 1) (de_fz (se_callI 0 c_law_nip hr (by decide) (da_cons (de_b1 b_len (by rfl) G.b_len bt_len (le_loc 1)) da_nil))))))
theorem S_law_is_cell : FnScope ["value", "each"] ["value"] (defScope s_law_is_cell) := fnScope_by (by decide +kernel)
def g_law_is_cell : MS := (sRet (mAnd (m1 (isiD "tuple") (eVar 0)) (mAnd (m2 eqD (m1 lenD (eLoc 0)) (eC (.int 2))) (m2 notInD (eC (.bool false)) (mFz (mLst (mLC [1] (mItems (eVar 0)) (tgN 1) tAll (mAnd (mFz (mCall f_law_is_whole (aCons (eVar 1) aNil))) (m3c ltD ltD (m2 subD (eC (.int 0)) (eC (.int 100))) (eVar 1) (eC (.int 100)))))))))))
def f_law_is_cell : FD := runP' 1 g_law_is_cell
theorem ok_law_is_cell (G : Gv P w K mg) {f : Addr} {fd : FuncData} (F : FunD K "_law_is_cell" "_law_is_cell" (defArgs s_law_is_cell) (defBody s_law_is_cell) (defScope s_law_is_cell) [] [] f fd) (hm : mg "_law_is_cell" = some (.ref f)) (c_law_is_whole : PF P w K mg base 1 "_law_is_whole" 1 f_law_is_whole) : PF P w K mg base 2 "_law_is_cell" 1 f_law_is_cell :=
  cal_pure F hm S_law_is_cell rfl (fun _ _ _ _ _ _ us hl => match us, hl with | [_], _ => rfl) fun cdv A outer s H E hr =>
    (dss_one (ds_ret (de_and (de_isi "tuple" kit_tuple (de_var 0) (by rfl) G.b_isinstance (by rfl) G.b_tuple) (de_and (de_cm (c_eq hr.u) (de_b1 b_len (by rfl) G.b_len bt_len (le_loc 0)) de_int rfl) (de_one (de_notIn hr.u de_bl (LE.of (de_fz (se_lc rfl S_law_is_cell.nd (di_val (de_var 0)) [("each", 1)] (by rfl) (fun _ _ _ _ _ => (dg_name 1 S_law_is_cell.nd)) (fun _ _ _ _ _ => dts_nil) (fun _ _ _ _ _ => (de_and (de_fz (se_call c_law_is_whole hr (by decide) (da_cons (de_var 1) da_nil))) (de_one (de_chain (c_lt hr.u) (c_lt hr.u) (de_sub de_int de_int) (de_var 1) de_int))))))) rfl))))))
theorem S_law_form : FnScope ["line", "words", "x", "y"] ["line"] (defScope s_law_form) := fnScope_by (by decide +kernel)
def g_law_form : MS := (sSeq (sIf (tNotM (mT (m1 (isiD "str") (eVar 0)))) (sRet (eC .none)) sNil) (sSeq (sSet 1 (splitS (eVar 0) (eC (.str " ")))) (sSeq (sIf (mT (m2 inD (eVar 0) (mTup (aCons (eC (.str "undo")) (aCons (eC (.str "area")) (aCons (eC (.str "shape")) (aCons (eC (.str "covers")) (aCons (eC (.str "rim")) (aCons (eC (.str "lattices")) aNil))))))))) (sRet (mTup (aCons (eVar 0) (aCons (eC .none) aNil)))) sNil) (sSeq (sIf (tOrM (mT (m2 neD (m1 lenD (eLoc 1)) (eC (.int 3)))) (mT (m2 notInD (mLoc2 1 ixD (eC (.int 0))) (mTup (aCons (eC (.str "put")) (aCons (eC (.str "take")) aNil)))))) (sRet (eC .none)) sNil) (sSeq (sPar 2 3 (mDat (mFz (mCall f_law_number (aCons (mLoc2 1 ixD (eC (.int 1))) aNil)))) (mDat (mFz (mCall f_law_number (aCons (mLoc2 1 ixD (eC (.int 2))) aNil))))) (sRet (mIf (tOrM (mT (m2 isD (eVar 2) (eC .none))) (mT (m2 isD (eVar 3) (eC .none)))) (eC .none) (mTup (aCons (mLoc2 1 ixD (eC (.int 0))) (aCons (mTup (aCons (eVar 2) (aCons (eVar 3) aNil))) aNil))))))))))
def f_law_form : FD := runP' 3 g_law_form
theorem ok_law_form (G : Gv P w K mg) {f : Addr} {fd : FuncData} (F : FunD K "_law_form" "_law_form" (defArgs s_law_form) (defBody s_law_form) (defScope s_law_form) [] [] f fd) (hm : mg "_law_form" = some (.ref f)) (c_law_number : PF P w K mg base 1 "_law_number" 1 f_law_number) : PF P w K mg base 2 "_law_form" 1 f_law_form :=
  cal_pure F hm S_law_form rfl (fun _ _ _ _ _ _ us hl => match us, hl with | [_], _ => rfl) fun cdv A outer s H E hr =>
    (dss_cons (ds_if (dt_not (dt_val (de_isi "str" kit_str (de_var 0) (by rfl) G.b_isinstance (by rfl) G.b_str))) (dss_one (ds_ret de_non)) dss_nil) (dss_cons (ds_set 1 S_law_form.nd (se_split (de_var 0) de_str)) (dss_cons (ds_if (dt_in hr.u (de_var 0) (LE.of (de_tup (da_cons de_str (da_cons de_str (da_cons de_str (da_cons de_str (da_cons de_str (da_cons de_str da_nil)))))))) rfl) (dss_one (ds_ret (de_tup (da_cons (de_var 0) (da_cons de_non da_nil))))) dss_nil) (dss_cons (ds_if (DW.dt (dw_or (dt_cm (c_ne hr.u) (de_b1 b_len (by rfl) G.b_len bt_len (le_loc 1)) de_int rfl) (dw_or1 (dt_notIn hr.u (de_ixN 1 de_int) (LE.of (de_tup (da_cons de_str (da_cons de_str da_nil)))) rfl)))) (dss_one (ds_ret de_non)) dss_nil) (dss_cons (ds_par 2 3 rfl S_law_form.nd (SE.of (de_fz (se_call c_law_number hr (by decide) (da_cons (de_ixN 1 de_int) da_nil)))) (SE.of (de_fz (se_call c_law_number hr (by decide) (da_cons (de_ixN 1 de_int) da_nil)))) (by rfl)) (dss_one (ds_ret (de_ifExp (DW.dt (dw_or (dt_cm c_is (de_var 2) de_non rfl) (dw_or1 (dt_cm c_is (de_var 3) de_non rfl)))) de_non (de_tup (da_cons (de_ixN 1 de_int) (da_cons (de_tup (da_cons (de_var 2) (da_cons (de_var 3) da_nil))) da_nil)))))))))))
theorem S_are_between : FnScope ["value", "many", "low", "high", "each"] ["value", "many", "low", "high"] (defScope s_are_between) := fnScope_by (by decide +kernel)
def g_are_between : MS := (sRet (mAnd (mFz (mCall f_is_tuple_of (aCons (eVar 0) (aCons (eVar 1) aNil)))) (m1 allD (mFz (mLst (mLC [4] (mItems (eVar 0)) (tgN 4) tAll (mFz (mCall f_is_between (aCons (eVar 4) (aCons (eVar 2) (aCons (eVar 3) aNil)))))))))))
def f_are_between : FD := runP' 1 g_are_between
theorem ok_are_between (G : Gv P w K mg) {f : Addr} {fd : FuncData} (F : FunD K "are_between" "are_between" (defArgs s_are_between) (defBody s_are_between) (defScope s_are_between) [] [] f fd) (hm : mg "are_between" = some (.ref f)) (c_is_tuple_of : PF P w K mg base 1 "is_tuple_of" 2 f_is_tuple_of) (c_is_between : PF P w K mg base 2 "is_between" 3 f_is_between) : PF P w K mg base 3 "are_between" 4 f_are_between :=
  cal_pure F hm S_are_between rfl (fun _ _ _ _ _ _ us hl => match us, hl with | [_, _, _, _], _ => rfl) fun cdv A outer s H E hr =>
    (dss_one (ds_ret (de_and (de_fz (se_call c_is_tuple_of hr (by decide) (da_cons (de_var 0) (da_cons (de_var 1) da_nil)))) (de_one (de_b1 (b_all rfl) (by rfl) G.b_all bt_all (LE.of (de_fz (se_lc rfl S_are_between.nd (di_val (de_var 0)) [("each", 4)] (by rfl) (fun _ _ _ _ _ => (dg_name 4 S_are_between.nd)) (fun _ _ _ _ _ => dts_nil) (fun _ _ _ _ _ => (de_fz (se_call c_is_between hr (by decide) (da_cons (de_var 4) (da_cons (de_var 2) (da_cons (de_var 3) da_nil))))))))))))))
theorem S_part_with : FnScope ["cells", "start", "found", "waiting", "cell"] ["cells", "start"] (defScope s_part_with) := fnScope_by (by decide +kernel)
def g_part_with : MS := (sSeq (sPar 2 3 (mD1 (eVar 1) (eC (.bool true))) (mLst (aCons (eVar 1) aNil))) (sSeq (sWhile (mT (mLoc2 3 neD (mFz (mLst aNil)))) (sFor (mItems (mFz (mCall f_beside (aCons (mPop 3) aNil)))) (tgN 4) (sIf (tAndM (mT (m2 inD (eVar 4) (eLoc 0))) (mT (m2 notInD (eVar 4) (eLoc 2)))) (sSeq (sAsg (eC (.bool true)) (tgPut 2 (eVar 4))) (sExpr (mAppN 3 (eVar 4)))) sNil)) 4000) (sRet (m1 tupleD (mFz (mSorted (eLoc 2)))))))
def f_part_with : FD := runP' 3 g_part_with
theorem ok_part_with (G : Gv P w K mg) {f : Addr} {fd : FuncData} (F : FunD K "part_with" "part_with" (defArgs s_part_with) (defBody s_part_with) (defScope s_part_with) [] [] f fd) (hm : mg "part_with" = some (.ref f)) (c_beside : PF P w K mg base 2 "beside" 1 f_beside) : PF P w K mg base 3 "part_with" 2 f_part_with :=
  cal_pure F hm S_part_with rfl (fun _ _ _ _ _ _ us hl => match us, hl with | [_, _], _ => rfl) fun cdv A outer s H E hr =>
    (dss_cons (ds_par 2 3 rfl S_part_with.nd (se_d1 (hu9 hr.u) (de_var 1) de_bl) (se_lst (da_cons (de_var 1) da_nil)) (by rfl)) (dss_cons (ds_while 4000 (dt_neN 3 hr.u (de_fz (se_lst da_nil))) (dss_one (ds_for rfl (di_val (de_fz (se_call c_beside hr (by decide) (da_cons (de_pop 3) da_nil)))) (dg_name 4 S_part_with.nd) (dss_one (ds_if (DW.dt (dw_and (dt_in hr.u (de_var 4) (le_loc 0) rfl) (dw_and1 (dt_notIn hr.u (de_var 4) (le_loc 2) rfl)))) (dss_cons (ds_asg de_bl (dg_put (hu9 hr.u) 2 (de_var 4))) (dss_one (ds_expr (de_append 3 (de_var 4))))) dss_nil)) PassesOwn.never)) PassesOwn.never) (dss_one (ds_ret (de_t1 b_tuple (by rfl) G.b_tuple bt_tuple (LE.of (de_fz (se_sorted rfl (hu32 hr.u) (le_loc 2) (by rfl) G.b_sorted))))))))
theorem S_line_parts : FnScope ["line", "words", "word"] ["line"] (defScope s_line_parts) := fnScope_by (by decide +kernel)
def g_line_parts : MS := (sSeq (sIf (mT (m2 inD (eVar 0) (eC (.tuple [(.str "undo"), (.str "area"), (.str "shape"), (.str "covers"), (.str "rim"), (.str "lattices")])))) (sRet (mFz (mLst (aCons (mTup (aCons (eVar 0) (aCons (eC .none) aNil))) aNil)))) sNil) (sSeq (sSet 1 (splitS (eVar 0) (eC (.str " ")))) (sSeq (sIf (tOrM (mT (m2 neD (m1 lenD (eLoc 1)) (eC (.int 3)))) (tOrM (mT (m2 notInD (mLoc2 1 ixD (eC (.int 0))) (mTup (aCons (eC (.str "put")) (aCons (eC (.str "take")) aNil))))) (tNotM (mT (m1 allD (mFz (mLst (mLC [2] (mItems (mSlN 1 (mPart (eC (.int 1))) mNoPart)) (tgN 2) tAll (mFz (mCall f_is_number_text (aCons (eVar 2) aNil))))))))))) (sRet (mFz (mLst aNil))) sNil) (sRet (mFz (mLst (aCons (mTup (aCons (mLoc2 1 ixD (eC (.int 0))) (aCons (mTup (aCons (m1 intSD (mLoc2 1 ixD (eC (.int 1)))) (aCons (m1 intSD (mLoc2 1 ixD (eC (.int 2)))) aNil))) aNil))) aNil)))))))
def f_line_parts : FD := runP' 2 g_line_parts
theorem ok_line_parts (G : Gv P w K mg) {f : Addr} {fd : FuncData} (F : FunD K "line_parts" "line_parts" (defArgs s_line_parts) (defBody s_line_parts) (defScope s_line_parts) [] [] f fd) (hm : mg "line_parts" = some (.ref f)) (c_is_number_text : PF P w K mg base 2 "is_number_text" 1 f_is_number_text) : PF P w K mg base 3 "line_parts" 1 f_line_parts :=
  cal_pure F hm S_line_parts rfl (fun _ _ _ _ _ _ us hl => match us, hl with | [_], _ => rfl) fun cdv A outer s H E hr =>
    (dss_cons (ds_if (dt_in hr.u (de_var 0) (LE.of (de_gl G.g_PLAIN_WORDS)) rfl) (dss_one (ds_ret (de_fz (se_lst (da_cons (de_tup (da_cons (de_var 0) (da_cons de_non da_nil))) da_nil))))) dss_nil) (dss_cons (ds_set 1 S_line_parts.nd (se_split (de_var 0) (de_gl G.g_BLANK))) (dss_cons (ds_if (DW.dt (dw_or (dt_cm (c_ne hr.u) (de_b1 b_len (by rfl) G.b_len bt_len (le_loc 1)) de_int rfl) (dw_or (dt_notIn hr.u (de_ixN 1 de_int) (LE.of (de_tup (da_cons (de_gl G.g_PUT) (da_cons (de_gl G.g_TAKE) da_nil)))) rfl) (dw_or1 (dt_not (dt_val (de_b1 (b_all rfl) (by rfl) G.b_all bt_all (LE.of (de_fz (se_lc rfl S_line_parts.nd (di_val (de_sliceN 1 (do_some de_int) do_none)) [("word", 2)] (by rfl) (fun _ _ _ _ _ => (dg_name 2 S_line_parts.nd)) (fun _ _ _ _ _ => dts_nil) (fun _ _ _ _ _ => (de_fz (se_call c_is_number_text hr (by decide) (da_cons (de_var 2) da_nil)))))))))))))) (dss_one (ds_ret (de_fz (se_lst da_nil)))) dss_nil) (dss_one (ds_ret (de_fz (se_lst (da_cons (de_tup (da_cons (de_ixN 1 de_int) (da_cons (de_tup (da_cons (de_t1 b_intS (by rfl) G.b_int bt_int (LE.of (de_ixN 1 de_int))) (da_cons (de_t1 b_intS (by rfl) G.b_int bt_int (LE.of (de_ixN 1 de_int))) da_nil))) da_nil))) da_nil))))))))
theorem S_fitting_by : FnScope ["shape", "lattice"] ["shape"] (defScope s_fitting_by) := fnScope_by (by decide +kernel)
def g_fitting_by : MS := (sRet (m1 tupleD (mFz (mLst (mLC [1] (mItems (mFz (mCall f_lattices_by (aCons (m1 lenD (eLoc 0)) aNil)))) (tgN 1) (mT (mFz (mCall f_fits_by (aCons (eVar 0) (aCons (eVar 1) aNil))))) (eVar 1))))))
def f_fitting_by : FD := runP' 1 g_fitting_by
theorem ok_fitting_by (G : Gv P w K mg) {f : Addr} {fd : FuncData} (F : FunD K "fitting_by" "fitting_by" (defArgs s_fitting_by) (defBody s_fitting_by) (defScope s_fitting_by) [] [] f fd) (hm : mg "fitting_by" = some (.ref f)) (c_lattices_by : PF P w K mg base 1 "lattices_by" 1 f_lattices_by) (c_fits_by : PF P w K mg base 2 "fits_by" 2 f_fits_by) : PF P w K mg base 3 "fitting_by" 1 f_fitting_by :=
  cal_pure F hm S_fitting_by rfl (fun _ _ _ _ _ _ us hl => match us, hl with | [_], _ => rfl) fun cdv A outer s H E hr =>
    (dss_one (ds_ret (de_t1 b_tuple (by rfl) G.b_tuple bt_tuple (LE.of (de_fz (se_lc rfl S_fitting_by.nd (di_val (de_fz (se_call c_lattices_by hr (by decide) (da_cons (de_b1 b_len (by rfl) G.b_len bt_len (le_loc 0)) da_nil)))) [("lattice", 1)] (by rfl) (fun _ _ _ _ _ => (dg_name 1 S_fitting_by.nd)) (fun _ _ _ _ _ => (dts_one (dt_val (de_fz (se_call c_fits_by hr (by decide) (da_cons (de_var 0) (da_cons (de_var 1) da_nil))))))) (fun _ _ _ _ _ => (de_var 1))))))))
theorem S_rim_by : FnScope ["cells"] ["cells"] (defScope s_rim_by) := fnScope_by (by decide +kernel)
def g_rim_by : MS := (sRet (m2 ixD (mFz (mCall f_rim_at (aCons (eVar 0) aNil))) (eC (.int 1))))
def f_rim_by : FD := runP' 0 g_rim_by
theorem ok_rim_by (G : Gv P w K mg) {f : Addr} {fd : FuncData} (F : FunD K "rim_by" "rim_by" (defArgs s_rim_by) (defBody s_rim_by) (defScope s_rim_by) [] [] f fd) (hm : mg "rim_by" = some (.ref f)) (c_rim_at : PF P w K mg base 2 "rim_at" 1 f_rim_at) : PF P w K mg base 3 "rim_by" 1 f_rim_by :=
  cal_pure F hm S_rim_by rfl (fun _ _ _ _ _ _ us hl => match us, hl with | [_], _ => rfl) fun cdv A outer s H E hr =>
    (dss_one (ds_ret (de_ix (de_fz (se_call c_rim_at hr (by decide) (da_cons (de_var 0) da_nil))) de_int)))
theorem S_goes_back : FnScope ["word", "parts", "read", "half", "each"] ["word", "parts"] (defScope s_goes_back) := fnScope_by (by decide +kernel)
def g_goes_back : MS := (sSeq (sPar 2 3 (mDat (mFz (mCall f_read_from (aCons (eVar 0) (aCons (m2 ixD (eVar 1) (eC (.int 0))) aNil))))) (mDat (m2 fdivD (m1 lenD (eLoc 0)) (eC (.int 2))))) (sRet (m2 eqD (mSl (eVar 2) (mPart (eVar 3)) mNoPart) (m2 (sOnly joinB) (eC (.str "")) (mFz (mLst (mLC [4] (mItems (mFz (mCall f_words_of (aCons (eVar 0) (aCons (eVar 1) aNil))))) (tgN 4) tAll (mFz (mCall f_told_back_by (aCons (eVar 4) aNil))))))))))
def f_goes_back : FD := runP' 3 g_goes_back
theorem ok_goes_back (G : Gv P w K mg) {f : Addr} {fd : FuncData} (F : FunD K "goes_back" "goes_back" (defArgs s_goes_back) (defBody s_goes_back) (defScope s_goes_back) [] [] f fd) (hm : mg "goes_back" = some (.ref f)) (c_read_from : PF P w K mg base 1 "read_from" 2 f_read_from) (c_words_of : PF P w K mg base 2 "words_of" 2 f_words_of) (c_told_back_by : PF P w K mg base 1 "told_back_by" 1 f_told_back_by) : PF P w K mg base 3 "goes_back" 2 f_goes_back :=
  cal_pure F hm S_goes_back rfl (fun _ _ _ _ _ _ us hl => match us, hl with | [_, _], _ => rfl) fun cdv A outer s H E hr =>
    (dss_cons (ds_par 2 3 rfl S_goes_back.nd (SE.of (de_fz (se_call c_read_from hr (by decide) (da_cons (de_var 0) (da_cons (de_ix (de_var 1) de_int) da_nil))))) (SE.of (de_fdiv (de_b1 b_len (by rfl) G.b_len bt_len (le_loc 0)) de_int)) (by rfl)) (dss_one (ds_ret (de_cm (c_eq hr.u) (de_slice (de_var 2) (do_some (de_var 3)) do_none) (de_join de_str (de_fz (se_lc rfl S_goes_back.nd (di_val (de_fz (se_call c_words_of hr (by decide) (da_cons (de_var 0) (da_cons (de_var 1) da_nil))))) [("each", 4)] (by rfl) (fun _ _ _ _ _ => (dg_name 4 S_goes_back.nd)) (fun _ _ _ _ _ => dts_nil) (fun _ _ _ _ _ => (de_fz (se_call c_told_back_by hr (by decide) (da_cons (de_var 4) da_nil))))))) rfl))))
theorem S_law_due : FnScope ["line", "cells", "form", "deed", "cell", "each"] ["line", "cells"] (defScope s_law_due) := fnScope_by (by decide +kernel)
def g_law_due : MS := (sSeq (sSet 2 (mDat (mFz (mCall f_law_form (aCons (eVar 0) aNil))))) (sSeq (sIf (mT (m2 isD (eVar 2) (eC .none))) (sRet (mTup (aCons (eC (.str "line")) (aCons (eVar 0) aNil)))) sNil) (sSeq (sAsg (eVar 2) (tgTup 2 (tgCons (tgN 3) (tgCons (tgN 4) tgNil)))) (sSeq (sIf (mT (m2 eqD (eVar 3) (eC (.str "undo")))) (sRet (mTup (aCons (eC (.str "nothing")) (aCons (eC .none) aNil)))) sNil) (sSeq (sIf (mT (m2 inD (eVar 3) (mTup (aCons (eC (.str "put")) (aCons (eC (.str "take")) aNil))))) (sSeq (sIf (tNotM (mT (mFz (mCall f_law_is_cell (aCons (eVar 4) aNil))))) (sRet (mTup (aCons (eC (.str "cell")) (aCons (eVar 4) aNil)))) sNil) (sIf (tOrM (mT (m2 eqD (eVar 3) (eC (.str "take")))) (tOrM (mT (m2 inD (eVar 4) (eLoc 1))) (mT (m2 eqD (mFz (mLst (mLC [5] (mItems (mFz (mCall f_law_beside (aCons (eVar 4) aNil)))) (tgN 5) (mT (m2 inD (eVar 5) (eLoc 1))) (eVar 5)))) (mFz (mLst aNil)))))) (sRet (mTup (aCons (eC (.str "now")) (aCons (eVar 4) aNil)))) sNil)) sNil) (sRet (mTup (aCons (eC (.str "told")) (aCons (eC .none) aNil)))))))))
def f_law_due : FD := runP' 4 g_law_due
theorem ok_law_due (G : Gv P w K mg) {f : Addr} {fd : FuncData} (F : FunD K "_law_due" "_law_due" (defArgs s_law_due) (defBody s_law_due) (defScope s_law_due) [] [] f fd) (hm : mg "_law_due" = some (.ref f)) (c_law_form : PF P w K mg base 2 "_law_form" 1 f_law_form) (c_law_is_cell : PF P w K mg base 2 "_law_is_cell" 1 f_law_is_cell) (c_law_beside : PF P w K mg base 1 "_law_beside" 1 f_law_beside) : PF P w K mg base 3 "_law_due" 2 f_law_due :=
  cal_pure F hm S_law_due rfl (fun _ _ _ _ _ _ us hl => match us, hl with | [_, _], _ => rfl) fun cdv A outer s H E hr =>
    (dss_cons (ds_set 2 S_law_due.nd (SE.of (de_fz (se_call c_law_form hr (by decide) (da_cons (de_var 0) da_nil))))) (dss_cons (ds_if (dt_cm c_is (de_var 2) de_non rfl) (dss_one (ds_ret (de_tup (da_cons de_str (da_cons (de_var 0) da_nil))))) dss_nil) (dss_cons (ds_asg (de_var 2) (dg_tup rfl (dgs_cons (dg_name 3 S_law_due.nd) (dgs_cons (dg_name 4 S_law_due.nd) dgs_nil)) 2)) (dss_cons (ds_if (dt_cm (c_eq hr.u) (de_var 3) de_str rfl) (dss_one (ds_ret (de_tup (da_cons de_str (da_cons de_non da_nil))))) dss_nil) (dss_cons (ds_if (dt_in hr.u (de_var 3) (LE.of (de_tup (da_cons de_str (da_cons de_str da_nil)))) rfl) (dss_cons (ds_if (dt_not (dt_val (de_fz (se_call c_law_is_cell hr (by decide) (da_cons (de_var 4) da_nil))))) (dss_one (ds_ret (de_tup (da_cons de_str (da_cons (de_var 4) da_nil))))) dss_nil) (dss_one (ds_if (DW.dt (dw_or (dt_cm (c_eq hr.u) (de_var 3) de_str rfl) (dw_or (dt_in hr.u (de_var 4) (le_loc 1) rfl) (dw_or1 (dt_cm (c_eq hr.u) (de_fz (se_lc rfl S_law_due.nd (di_val (de_fz (se_call c_law_beside hr (by decide) (da_cons (de_var 4) da_nil)))) [("each", 5)] (by rfl) (fun _ _ _ _ _ => (dg_name 5 S_law_due.nd)) (fun _ _ _ _ _ => (dts_one (dt_in hr.u (de_var 5) (le_loc 1) rfl))) (fun _ _ _ _ _ => (de_var 5)))) (de_fz (se_lst da_nil)) rfl))))) (dss_one (ds_ret (de_tup (da_cons de_str (da_cons (de_var 4) da_nil))))) dss_nil))) dss_nil) (dss_one (ds_ret (de_tup (da_cons de_str (da_cons de_non da_nil))))))))))
theorem S_law_any_line : FnScope ["urn", "way", "x", "y"] ["urn"] (defScope s_law_any_line) := fnScope_by (by decide +kernel)
def g_law_any_line : MS := (sSeq (sSet 1 (mDat (mFz (mCallI 0 f_law_nip (aCons (eC (.int 9)) aNil))))) (sSeq (sIf (mT (m2 ltD (eVar 1) (eC (.int 6)))) (sRet (m2 ixD (mTup (aCons (eC (.str "undo")) (aCons (eC (.str "area")) (aCons (eC (.str "shape")) (aCons (eC (.str "covers")) (aCons (eC (.str "rim")) (aCons (eC (.str "lattices")) aNil))))))) (eVar 1))) sNil) (sSeq (sPar 2 3 (mDat (mFz (mCallI 0 f_law_any_of (aCons (mTup (aCons (eC (.int 0)) (aCons (eC (.int 1)) (aCons (m2 subD (eC (.int 0)) (eC (.int 1))) (aCons (m2 subD (mFz (mCallI 0 f_law_nip (aCons (eC (.int 241)) aNil))) (eC (.int 120))) aNil))))) aNil)))) (mDat (mFz (mCallI 0 f_law_any_of (aCons (mTup (aCons (eC (.int 0)) (aCons (eC (.int 1)) (aCons (m2 subD (eC (.int 0)) (eC (.int 1))) (aCons (m2 subD (mFz (mCallI 0 f_law_nip (aCons (eC (.int 241)) aNil))) (eC (.int 120))) aNil))))) aNil))))) (sRet (m2 addD (m2 addD (m2 addD (m2 addD (mFz (mCallI 0 f_law_any_of (aCons (mTup (aCons (eC (.str "put")) (aCons (eC (.str "take")) aNil))) aNil))) (eC (.str " "))) (m1 strD (eLoc 2))) (eC (.str " "))) (m1 strD (eLoc 3)))))))
def f_law_any_line : FI := runI' 3 g_law_any_line
theorem ok_law_any_line (G : Gv P w K mg) {f : Addr} {fd : FuncData} (F : FunD K "_law_any_line" "_law_any_line" (defArgs s_law_any_line) (defBody s_law_any_line) (defScope s_law_any_line) [] [] f fd) (hm : mg "_law_any_line" = some (.ref f)) (c_law_nip : IF P w K mg base 1 "_law_nip" 1 f_law_nip) (c_law_any_of : IF P w K mg base 2 "_law_any_of" 1 f_law_any_of) : IF P w K mg base 3 "_law_any_line" 0 f_law_any_line :=
  cal_io F hm S_law_any_line 0 rfl rfl (fun _ _ _ _ _ _ us hl => match us, hl with | [_], _ => rfl) fun cdv A outer s H E hr =>
    (dss_cons (ds_set 1 S_law_any_line.nd (SE.of (de_fz (se_callI 0 c_law_nip hr (by decide) (da_cons de_int da_nil))))) (dss_cons (ds_if (dt_cm (c_lt hr.u) (de_var 1) de_int rfl) (dss_one (ds_ret (de_ix (de_tup (da_cons de_str (da_cons de_str (da_cons de_str (da_cons de_str (da_cons de_str (da_cons de_str da_nil))))))) (de_var 1)))) dss_nil) (dss_cons (ds_par 2 3 rfl S_law_any_line.nd (SE.of (de_fz (se_callI 0 c_law_any_of hr (by decide) (da_cons (de_tup (da_cons de_int (da_cons de_int (da_cons (de_sub de_int de_int) (da_cons (de_sub (de_fz (se_callI 0 c_law_nip hr (by decide) (da_cons de_int da_nil))) de_int) da_nil))))) da_nil)))) (SE.of (de_fz (se_callI 0 c_law_any_of hr (by decide) (da_cons (de_tup (da_cons de_int (da_cons de_int (da_cons (de_sub de_int de_int) (da_cons (de_sub (de_fz (se_callI 0 c_law_nip hr (by decide) (da_cons de_int da_nil))) de_int) da_nil))))) da_nil)))) (by rfl)) (dss_one (ds_ret (de_add (de_add (de_add (de_add (de_fz (se_callI 0 c_law_any_of hr (by decide) (da_cons (de_tup (da_cons de_str (da_cons de_str da_nil))) da_nil))) de_str) (de_t1 b_str (by rfl) G.b_str bt_str (le_loc 2))) de_str) (de_t1 b_str (by rfl) G.b_str bt_str (le_loc 3))))))))
theorem S_is_cell_by : FnScope ["value"] ["value"] (defScope s_is_cell_by) := fnScope_by (by decide +kernel)
def g_is_cell_by : MS := (sRet (mFz (mCall f_are_between (aCons (eVar 0) (aCons (eC (.int 2)) (aCons (m1 negD (eC (.int (99)))) (aCons (eC (.int (99))) aNil)))))))
def f_is_cell_by : FD := runP' 0 g_is_cell_by
theorem ok_is_cell_by (G : Gv P w K mg) {f : Addr} {fd : FuncData} (F : FunD K "is_cell_by" "is_cell_by" (defArgs s_is_cell_by) (defBody s_is_cell_by) (defScope s_is_cell_by) [] [] f fd) (hm : mg "is_cell_by" = some (.ref f)) (c_are_between : PF P w K mg base 3 "are_between" 4 f_are_between) : PF P w K mg base 4 "is_cell_by" 1 f_is_cell_by :=
  cal_pure F hm S_is_cell_by rfl (fun _ _ _ _ _ _ us hl => match us, hl with | [_], _ => rfl) fun cdv A outer s H E hr =>
    (dss_one (ds_ret (de_fz (se_call c_are_between hr (by decide) (da_cons (de_var 0) (da_cons de_int (da_cons (de_neg (de_gl G.g_FARTHEST)) (da_cons (de_gl G.g_FARTHEST) da_nil))))))))
theorem S_do_hang_together : FnScope ["cells"] ["cells"] (defScope s_do_hang_together) := fnScope_by (by decide +kernel)
def g_do_hang_together : MS := (sRet (m2 eqD (m1 lenD (mFz (mCall f_part_with (aCons (eVar 0) (aCons (m2 ixD (eVar 0) (eC (.int 0))) aNil))))) (m1 lenD (eLoc 0))))
def f_do_hang_together : FD := runP' 0 g_do_hang_together
theorem ok_do_hang_together (G : Gv P w K mg) {f : Addr} {fd : FuncData} (F : FunD K "do_hang_together" "do_hang_together" (defArgs s_do_hang_together) (defBody s_do_hang_together) (defScope s_do_hang_together) [] [] f fd) (hm : mg "do_hang_together" = some (.ref f)) (c_part_with : PF P w K mg base 3 "part_with" 2 f_part_with) : PF P w K mg base 4 "do_hang_together" 1 f_do_hang_together :=
  cal_pure F hm S_do_hang_together rfl (fun _ _ _ _ _ _ us hl => match us, hl with | [_], _ => rfl) fun cdv A outer s H E hr =>
    (dss_one (ds_ret (de_cm (c_eq hr.u) (de_b1 b_len (by rfl) G.b_len bt_len (LE.of (de_fz (se_call c_part_with hr (by decide) (da_cons (de_var 0) (da_cons (de_ix (de_var 0) de_int) da_nil)))))) (de_b1 b_len (by rfl) G.b_len bt_len (le_loc 0)) rfl)))
theorem S_holes_by : FnScope ["cells", "free", "cell", "outside"] ["cells"] (defScope s_holes_by) := fnScope_by (by decide +kernel)
def g_holes_by : MS := (sSeq (sSet 1 (mDC [2] (mItems (mFz (mCall f_around (aCons (eVar 0) aNil)))) (tgN 2) (mT (m2 notInD (eVar 2) (eLoc 0))) (eVar 2) (eC (.bool true)))) (sSeq (sSet 3 (mDC [2] (mItems (mFz (mCall f_part_with (aCons (eFz 1) (aCons (m1 minL (eLoc 1)) aNil))))) (tgN 2) tAll (eVar 2) (eC (.bool true)))) (sRet (m1 tupleD (mFz (mLst (mLC [2] (mItems (eFz 1)) (tgN 2) (mT (m2 notInD (eVar 2) (eLoc 3))) (eVar 2))))))))
def f_holes_by : FD := runP' 3 g_holes_by
theorem ok_holes_by (G : Gv P w K mg) {f : Addr} {fd : FuncData} (F : FunD K "holes_by" "holes_by" (defArgs s_holes_by) (defBody s_holes_by) (defScope s_holes_by) [] [] f fd) (hm : mg "holes_by" = some (.ref f)) (c_around : PF P w K mg base 2 "around" 1 f_around) (c_part_with : PF P w K mg base 3 "part_with" 2 f_part_with) : PF P w K mg base 4 "holes_by" 1 f_holes_by :=
  cal_pure F hm S_holes_by rfl (fun _ _ _ _ _ _ us hl => match us, hl with | [_], _ => rfl) fun cdv A outer s H E hr =>
    (dss_cons (ds_setDc 1 (hu9 hr.u) rfl S_holes_by.nd (di_val (de_fz (se_call c_around hr (by decide) (da_cons (de_var 0) da_nil)))) [("cell", 2)] (by rfl) (fun _ _ _ _ _ => (dg_name 2 S_holes_by.nd)) (fun _ _ _ _ _ => (dts_one (dt_notIn hr.u (de_var 2) (le_loc 0) rfl))) (fun _ _ _ _ _ => (de_var 2)) (fun _ _ _ _ _ => de_bl) (by rfl)) (dss_cons (ds_set 3 S_holes_by.nd (se_dc (hu9 hr.u) rfl S_holes_by.nd (di_val (de_fz (se_call c_part_with hr (by decide) (da_cons (de_fzv 1) (da_cons (de_b1 (b_min rfl (hu32 hr.u)) (by rfl) G.b_min bt_min (le_loc 1)) da_nil))))) [("cell", 2)] (by rfl) (fun _ _ _ _ _ => (dg_name 2 S_holes_by.nd)) (fun _ _ _ _ _ => dts_nil) (fun _ _ _ _ _ => (de_var 2)) (fun _ _ _ _ _ => de_bl))) (dss_one (ds_ret (de_t1 b_tuple (by rfl) G.b_tuple bt_tuple (LE.of (de_fz (se_lc rfl S_holes_by.nd (di_val (de_fzv 1)) [("cell", 2)] (by rfl) (fun _ _ _ _ _ => (dg_name 2 S_holes_by.nd)) (fun _ _ _ _ _ => (dts_one (dt_notIn hr.u (de_var 2) (le_loc 3) rfl))) (fun _ _ _ _ _ => (de_var 2))))))))))
theorem S_all_parts_by : FnScope ["shape", "word", "half", "quadruples", "index", "lengths", "parts"] ["shape"] (defScope s_all_parts_by) := fnScope_by (by decide +kernel)
def g_all_parts_by : MS := (sSeq (sSet 1 (mDat (mFz (mCall f_rim_by (aCons (eVar 0) aNil))))) (sSeq (sSet 2 (mDat (m2 fdivD (m1 lenD (eLoc 1)) (eC (.int 2))))) (sSeq (sSet 3 (mLst (mLC2 [4, 5] [5] (mRng1 (aCons (eVar 2) aNil)) (tgN 4) tAll (mItems (mFz (mCall f_lengths_of (aCons (eVar 2) aNil)))) (tgN 5) tAll (mTupS (aCons (eVar 4) (aStar (eVar 5) aNil)))))) (sRet (m1 tupleD (mFz (mSorted (mFz (mLst (mLC [6] (mItems (eFz 3)) (tgN 6) (mT (mFz (mCall f_goes_back (aCons (eVar 1) (aCons (eVar 6) aNil))))) (eVar 6)))))))))))
def f_all_parts_by : FD := runP' 6 g_all_parts_by
theorem ok_all_parts_by (G : Gv P w K mg) {f : Addr} {fd : FuncData} (F : FunD K "all_parts_by" "all_parts_by" (defArgs s_all_parts_by) (defBody s_all_parts_by) (defScope s_all_parts_by) [] [] f fd) (hm : mg "all_parts_by" = some (.ref f)) (c_rim_by : PF P w K mg base 3 "rim_by" 1 f_rim_by) (c_lengths_of : PF P w K mg base 1 "lengths_of" 1 f_lengths_of) (c_goes_back : PF P w K mg base 3 "goes_back" 2 f_goes_back) : PF P w K mg base 4 "all_parts_by" 1 f_all_parts_by :=
  cal_pure F hm S_all_parts_by rfl (fun _ _ _ _ _ _ us hl => match us, hl with | [_], _ => rfl) fun cdv A outer s H E hr =>
    (dss_cons (ds_set 1 S_all_parts_by.nd (SE.of (de_fz (se_call c_rim_by hr (by decide) (da_cons (de_var 0) da_nil))))) (dss_cons (ds_set 2 S_all_parts_by.nd (SE.of (de_fdiv (de_b1 b_len (by rfl) G.b_len bt_len (le_loc 1)) de_int))) (dss_cons (ds_setLc2 3 rfl S_all_parts_by.nd (di_rng1 (by rfl) G.b_range (da_cons (de_var 2) da_nil)) [("index", 4), ("lengths", 5)] (by rfl) [5] (fun _ _ _ _ _ => (dg_name 4 S_all_parts_by.nd)) (fun _ _ _ _ _ => dts_nil) (fun _ _ _ _ _ => (di_val (de_fz (se_call c_lengths_of hr (by decide) (da_cons (de_var 2) da_nil))))) (fun _ _ _ _ _ => (dg_name 5 S_all_parts_by.nd)) (fun _ _ _ _ _ => dts_nil) (fun _ _ _ _ _ => (de_tupS (das_cons (de_var 4) (das_star (de_var 5) (das_of da_nil))))) (sw_true rfl rfl rfl rfl)) (dss_one (ds_ret (de_t1 b_tuple (by rfl) G.b_tuple bt_tuple (LE.of (de_fz (se_sorted rfl (hu32 hr.u) (LE.of (de_fz (se_lc rfl S_all_parts_by.nd (di_val (de_fzv 3)) [("parts", 6)] (by rfl) (fun _ _ _ _ _ => (dg_name 6 S_all_parts_by.nd)) (fun _ _ _ _ _ => (dts_one (dt_val (de_fz (se_call c_goes_back hr (by decide) (da_cons (de_var 1) (da_cons (de_var 6) da_nil))))))) (fun _ _ _ _ _ => (de_var 6))))) (by rfl) G.b_sorted)))))))))
theorem S_are_cells_by : FnScope ["value", "each"] ["value"] (defScope s_are_cells_by) := fnScope_by (by decide +kernel)
def g_are_cells_by : MS := (sSeq (sIf (tOrM (tNotM (mT (m1 (isiD "tuple") (eVar 0)))) (tNotM (mT (m3c leD leD (eC (.int 1)) (m1 lenD (eLoc 0)) (eC (.int (16))))))) (sRet (eC (.bool false))) sNil) (sRet (mAnd (m1 allD (mFz (mLst (mLC [1] (mItems (eVar 0)) (tgN 1) tAll (mFz (mCall f_is_cell_by (aCons (eVar 1) aNil))))))) (mFz (mCall f_are_rising (aCons (eVar 0) aNil))))))
def f_are_cells_by : FD := runP' 1 g_are_cells_by
theorem ok_are_cells_by (G : Gv P w K mg) {f : Addr} {fd : FuncData} (F : FunD K "are_cells_by" "are_cells_by" (defArgs s_are_cells_by) (defBody s_are_cells_by) (defScope s_are_cells_by) [] [] f fd) (hm : mg "are_cells_by" = some (.ref f)) (c_is_cell_by : PF P w K mg base 4 "is_cell_by" 1 f_is_cell_by) (c_are_rising : PF P w K mg base 1 "are_rising" 1 f_are_rising) : PF P w K mg base 5 "are_cells_by" 1 f_are_cells_by :=
  cal_pure F hm S_are_cells_by rfl (fun _ _ _ _ _ _ us hl => match us, hl with | [_], _ => rfl) fun cdv A outer s H E hr =>
    (dss_cons (ds_if (DW.dt (dw_or (dt_not (dt_val (de_isi "tuple" kit_tuple (de_var 0) (by rfl) G.b_isinstance (by rfl) G.b_tuple))) (dw_or1 (dt_not (dt_chain c_le c_le de_int (de_b1 b_len (by rfl) G.b_len bt_len (le_loc 0)) (de_gl G.g_MOST_CELLS)))))) (dss_one (ds_ret de_bl)) dss_nil) (dss_one (ds_ret (de_and (de_b1 (b_all rfl) (by rfl) G.b_all bt_all (LE.of (de_fz (se_lc rfl S_are_cells_by.nd (di_val (de_var 0)) [("each", 1)] (by rfl) (fun _ _ _ _ _ => (dg_name 1 S_are_cells_by.nd)) (fun _ _ _ _ _ => dts_nil) (fun _ _ _ _ _ => (de_fz (se_call c_is_cell_by hr (by decide) (da_cons (de_var 1) da_nil)))))))) (de_one (de_fz (se_call c_are_rising hr (by decide) (da_cons (de_var 0) da_nil))))))))
theorem S_parts_by : FnScope ["shape", "found"] ["shape"] (defScope s_parts_by) := fnScope_by (by decide +kernel)
def g_parts_by : MS := (sSeq (sSet 1 (mDat (mFz (mCall f_all_parts_by (aCons (eVar 0) aNil))))) (sRet (mIf (mT (m2 neD (eVar 1) (mTup aNil))) (m2 ixD (eVar 1) (eC (.int 0))) (eC .none))))
def f_parts_by : FD := runP' 1 g_parts_by
theorem ok_parts_by (G : Gv P w K mg) {f : Addr} {fd : FuncData} (F : FunD K "parts_by" "parts_by" (defArgs s_parts_by) (defBody s_parts_by) (defScope s_parts_by) [] [] f fd) (hm : mg "parts_by" = some (.ref f)) (c_all_parts_by : PF P w K mg base 4 "all_parts_by" 1 f_all_parts_by) : PF P w K mg base 5 "parts_by" 1 f_parts_by :=
  cal_pure F hm S_parts_by rfl (fun _ _ _ _ _ _ us hl => match us, hl with | [_], _ => rfl) fun cdv A outer s H E hr =>
    (dss_cons (ds_set 1 S_parts_by.nd (SE.of (de_fz (se_call c_all_parts_by hr (by decide) (da_cons (de_var 0) da_nil))))) (dss_one (ds_ret (de_ifExp (dt_cm (c_ne hr.u) (de_var 1) (de_tup da_nil) rfl) (de_ix (de_var 1) de_int) de_non))))
theorem S_is_shape_by : FnScope ["value"] ["value"] (defScope s_is_shape_by) := fnScope_by (by decide +kernel)
def g_is_shape_by : MS := (sSeq (sIf (tOrM (tNotM (mT (mFz (mCall f_are_cells_by (aCons (eVar 0) aNil))))) (tNotM (mT (mFz (mCall f_do_hang_together (aCons (eVar 0) aNil)))))) (sRet (eC (.bool false))) sNil) (sRet (mAnd (m2 eqD (mFz (mCall f_holes_by (aCons (eVar 0) aNil))) (mTup aNil)) (m2 eqD (mFz (mCall f_corners_by (aCons (eVar 0) aNil))) (mTup aNil)))))
def f_is_shape_by : FD := runP' 0 g_is_shape_by
theorem ok_is_shape_by (G : Gv P w K mg) {f : Addr} {fd : FuncData} (F : FunD K "is_shape_by" "is_shape_by" (defArgs s_is_shape_by) (defBody s_is_shape_by) (defScope s_is_shape_by) [] [] f fd) (hm : mg "is_shape_by" = some (.ref f)) (c_are_cells_by : PF P w K mg base 5 "are_cells_by" 1 f_are_cells_by) (c_do_hang_together : PF P w K mg base 4 "do_hang_together" 1 f_do_hang_together) (c_holes_by : PF P w K mg base 4 "holes_by" 1 f_holes_by) (c_corners_by : PF P w K mg base 2 "corners_by" 1 f_corners_by) : PF P w K mg base 6 "is_shape_by" 1 f_is_shape_by :=
  cal_pure F hm S_is_shape_by rfl (fun _ _ _ _ _ _ us hl => match us, hl with | [_], _ => rfl) fun cdv A outer s H E hr =>
    (dss_cons (ds_if (DW.dt (dw_or (dt_not (dt_val (de_fz (se_call c_are_cells_by hr (by decide) (da_cons (de_var 0) da_nil))))) (dw_or1 (dt_not (dt_val (de_fz (se_call c_do_hang_together hr (by decide) (da_cons (de_var 0) da_nil)))))))) (dss_one (ds_ret de_bl)) dss_nil) (dss_one (ds_ret (de_and (de_cm (c_eq hr.u) (de_fz (se_call c_holes_by hr (by decide) (da_cons (de_var 0) da_nil))) (de_tup da_nil) rfl) (de_one (de_cm (c_eq hr.u) (de_fz (se_call c_corners_by hr (by decide) (da_cons (de_var 0) da_nil))) (de_tup da_nil) rfl))))))
theorem S_covers_by : FnScope ["shape"] ["shape"] (defScope s_covers_by) := fnScope_by (by decide +kernel)
def g_covers_by : MS := (sRet (m2 isntD (mFz (mCall f_parts_by (aCons (eVar 0) aNil))) (eC .none)))
def f_covers_by : FD := runP' 0 g_covers_by
theorem ok_covers_by (G : Gv P w K mg) {f : Addr} {fd : FuncData} (F : FunD K "covers_by" "covers_by" (defArgs s_covers_by) (defBody s_covers_by) (defScope s_covers_by) [] [] f fd) (hm : mg "covers_by" = some (.ref f)) (c_parts_by : PF P w K mg base 5 "parts_by" 1 f_parts_by) : PF P w K mg base 6 "covers_by" 1 f_covers_by :=
  cal_pure F hm S_covers_by rfl (fun _ _ _ _ _ _ us hl => match us, hl with | [_], _ => rfl) fun cdv A outer s H E hr =>
    (dss_one (ds_ret (de_cm c_isnt (de_fz (se_call c_parts_by hr (by decide) (da_cons (de_var 0) da_nil))) de_non rfl)))
theorem S_law_same : FnScope ["one", "two", "a", "b"] ["one", "two"] (defScope s_law_same) := fnScope_by (by decide +kernel)
def g_law_same (f_law_same : FD) : MS := (sSeq (sIf (mT (m1 (isi2D "tuple" "list") (eVar 0))) (sSeq (sIf (tOrM (mT (m2 neD (m1 (isiD "tuple") (eVar 0)) (m1 (isiD "tuple") (eVar 1)))) (mT (m2 neD (m1 (isiD "list") (eVar 0)) (m1 (isiD "list") (eVar 1))))) (sRet (eC (.bool false))) sNil) (sRet (mAnd (m2 eqD (m1 lenD (eLoc 0)) (m1 lenD (eLoc 1))) (m2 notInD (eC (.bool false)) (mFz (mLst (mLC [2, 3] (mZip (aCons (eVar 0) (aCons (eVar 1) aNil))) (tgTup 2 (tgCons (tgN 2) (tgCons (tgN 3) tgNil))) tAll (mFz (mCall f_law_same (aCons (eVar 2) (aCons (eVar 3) aNil))))))))))) sNil) (sSeq (sIf (tOrM (mT (m1 (isi2D "tuple" "list") (eVar 1))) (mT (m2 neD (m1 (isiD "bool") (eVar 0)) (m1 (isiD "bool") (eVar 1))))) (sRet (eC (.bool false))) sNil) (sRet (mAnd (m2 eqD (m1 (isiD "str") (eVar 0)) (m1 (isiD "str") (eVar 1))) (m2 eqD (eVar 0) (eVar 1))))))
def fr_law_same : Nat → FD
  | 0 => fun _ => none
  | n + 1 => runP' 2 (g_law_same (fr_law_same n))
def f_law_same : FD := fr_law_same 5
theorem okr_law_same (G : Gv P w K mg) {f : Addr} {fd : FuncData} (F : FunD K "_law_same" "_law_same" (defArgs s_law_same) (defBody s_law_same) (defScope s_law_same) [] [] f fd) (hm : mg "_law_same" = some (.ref f)) : ∀ n, PF P w K mg base (1 + n) "_law_same" 2 (fr_law_same n) := by
  intro n
  induction n with
  | zero =>
    exact pf_none (cal_pure F hm S_law_same (m := 2) (k := 0) rfl (fun _ _ _ _ _ _ us hl => match us, hl with | [_, _], _ => rfl) fun cdv A outer s H E hr => dss_never)
  | succ n c_law_same =>
    exact cal_pure F hm S_law_same rfl (fun _ _ _ _ _ _ us hl => match us, hl with | [_, _], _ => rfl) fun cdv A outer s H E hr =>
    (dss_cons (ds_if (dt_val (de_isi2 "tuple" "list" kit_tuple kit_list (de_var 0) (by rfl) G.b_isinstance (by rfl) G.b_tuple (by rfl) G.b_list)) (dss_cons (ds_if (DW.dt (dw_or (dt_cm (c_ne hr.u) (de_isi "tuple" kit_tuple (de_var 0) (by rfl) G.b_isinstance (by rfl) G.b_tuple) (de_isi "tuple" kit_tuple (de_var 1) (by rfl) G.b_isinstance (by rfl) G.b_tuple) rfl) (dw_or1 (dt_cm (c_ne hr.u) (de_isi "list" kit_list (de_var 0) (by rfl) G.b_isinstance (by rfl) G.b_list) (de_isi "list" kit_list (de_var 1) (by rfl) G.b_isinstance (by rfl) G.b_list) rfl)))) (dss_one (ds_ret de_bl)) dss_nil) (dss_one (ds_ret (de_and (de_cm (c_eq hr.u) (de_b1 b_len (by rfl) G.b_len bt_len (le_loc 0)) (de_b1 b_len (by rfl) G.b_len bt_len (le_loc 1)) rfl) (de_one (de_notIn hr.u de_bl (LE.of (de_fz (se_lc rfl S_law_same.nd (di_zip (by rfl) G.b_zip (da_cons (de_var 0) (da_cons (de_var 1) da_nil))) [("a", 2), ("b", 3)] (by rfl) (fun _ _ _ _ _ => (dg_tup rfl (dgs_cons (dg_name 2 S_law_same.nd) (dgs_cons (dg_name 3 S_law_same.nd) dgs_nil)) 2)) (fun _ _ _ _ _ => dts_nil) (fun _ _ _ _ _ => (de_fz (se_call c_law_same hr (Nat.le_refl _) (da_cons (de_var 2) (da_cons (de_var 3) da_nil)))))))) rfl)))))) dss_nil) (dss_cons (ds_if (DW.dt (dw_or (dt_val (de_isi2 "tuple" "list" kit_tuple kit_list (de_var 1) (by rfl) G.b_isinstance (by rfl) G.b_tuple (by rfl) G.b_list)) (dw_or1 (dt_cm (c_ne hr.u) (de_isi "bool" kit_bool (de_var 0) (by rfl) G.b_isinstance (by rfl) G.b_bool) (de_isi "bool" kit_bool (de_var 1) (by rfl) G.b_isinstance (by rfl) G.b_bool) rfl)))) (dss_one (ds_ret de_bl)) dss_nil) (dss_one (ds_ret (de_and (de_cm (c_eq hr.u) (de_isi "str" kit_str (de_var 0) (by rfl) G.b_isinstance (by rfl) G.b_str) (de_isi "str" kit_str (de_var 1) (by rfl) G.b_isinstance (by rfl) G.b_str) rfl) (de_one (de_cm (c_eq hr.u) (de_var 0) (de_var 1) rfl)))))))
theorem ok_law_same (G : Gv P w K mg) {f : Addr} {fd : FuncData} (F : FunD K "_law_same" "_law_same" (defArgs s_law_same) (defBody s_law_same) (defScope s_law_same) [] [] f fd) (hm : mg "_law_same" = some (.ref f)) : PF P w K mg base 6 "_law_same" 2 f_law_same := okr_law_same G F hm 5
end
end Tx
namespace Hd
open PySem PySem.Spec PyProof.Rows L2
def clsBody : Stmt → List Stmt
  | .ClassDef _ _ _ b _ _ _ _ _ _ _ => b
  | _ => []
abbrev s_Site_init : Stmt := (clsBody (topS 88)).getD 0 (.Pass ⟨0, 0, 0, 0⟩)
abbrev s_Site_cells : Stmt := (clsBody (topS 88)).getD 1 (.Pass ⟨0, 0, 0, 0⟩)
abbrev s_Site_wishes : Stmt := (clsBody (topS 88)).getD 2 (.Pass ⟨0, 0, 0, 0⟩)
abbrev s_Site_keep : Stmt := (clsBody (topS 88)).getD 3 (.Pass ⟨0, 0, 0, 0⟩)
abbrev s_Site_put : Stmt := (clsBody (topS 88)).getD 4 (.Pass ⟨0, 0, 0, 0⟩)
abbrev s_Site_take : Stmt := (clsBody (topS 88)).getD 5 (.Pass ⟨0, 0, 0, 0⟩)
abbrev s_Site_undo : Stmt := (clsBody (topS 88)).getD 8 (.Pass ⟨0, 0, 0, 0⟩)
abbrev s_Console_init : Stmt := (clsBody (topS 92)).getD 0 (.Pass ⟨0, 0, 0, 0⟩)
abbrev s_Console_do : Stmt := (clsBody (topS 92)).getD 1 (.Pass ⟨0, 0, 0, 0⟩)
abbrev s_Console_told : Stmt := (clsBody (topS 92)).getD 2 (.Pass ⟨0, 0, 0, 0⟩)
abbrev s_Console_say : Stmt := (clsBody (topS 92)).getD 3 (.Pass ⟨0, 0, 0, 0⟩)
end Hd
namespace Tx
open PySem PySem.W PySem.Spec PyProof.Rows L2 C8 Dn Hd
section
variable {P : Program} {w : World} {K : PySem.W.Frag} {mg : Str → Option Value} {base : Heap} {C CC : Addr}
theorem S_check_cell : FnScope ["value"] ["value"] (defScope s_check_cell) := fnScope_by (by decide +kernel)
def gx_check_cell : MX := (xIf (tNotM (mT (mFz (mCall f_is_cell_by (aCons (eVar 0) aNil))))) (xRaise "InvalidCell" "given" (eVar 0)) (xOf sNil))
def f_check_cell : FX := runX 0 gx_check_cell
theorem ok_check_cell (G : Gv P w K mg) (c_is_cell_by : PF P w K mg base 4 "is_cell_by" 1 f_is_cell_by) (e_InvalidCell : ExK P w K mg base 1 "InvalidCell" "given") {f : Addr} {fd : FuncData} (F : FunD K "check_cell" "check_cell" (defArgs s_check_cell) (defBody s_check_cell) (defScope s_check_cell) [] [] f fd) (hm : mg "check_cell" = some (.ref f)) : XF P w K mg base 5 "check_cell" 1 f_check_cell :=
  cal_exc F hm S_check_cell rfl (fun _ _ _ _ _ _ us hl => match us, hl with | [_], _ => rfl) fun cdv A outer s H E hr =>
    (dssx_one (dsx_if (dt_not (dt_val (de_fz (se_call c_is_cell_by hr (by decide) (da_cons (de_var 0) da_nil))))) (dssx_one (dsx_raise e_InvalidCell rfl hr (by decide) (de_var 0))) (dssx_of dss_nil)))
theorem S_Site_cells : FnScope ["self"] ["self"] (defScope s_Site_cells) := fnScope_by (by decide +kernel)
def gp_Site_cells (C : Addr) : MS := (sRet (m2 ixD (m2 ixD (eFld 0 kdN C "past") (m1 negD (eC (.int 1)))) (eC (.int 0))))
theorem ok_Site_cells (cl : Cls K C) (na : NoAttr K C "past") {f : Addr} {fd : FuncData} (F : FunD K "cells" "Site.cells" (defArgs s_Site_cells) (defBody s_Site_cells) (defScope s_Site_cells) [] [] f fd) {pa : Addr} (hp : PropOf K C "cells" pa f) : PropE P w K mg base 1 C "cells" "past" (gAt 0) :=
  ⟨pa, f, fd, ["self"], cl, hp, gAt_eq ▸ fn_get F S_Site_cells rfl rfl (fun cdv A outer s H E hr =>
    (dss_one (ds_ret (de_ix (de_ix (de_fld (ob_name 0) cl na) (de_neg de_int)) de_int)))) (get_self (keeps_m2 (keeps_m2 keeps_fld (keeps_m1 keeps_C)) keeps_C)), (F.bindsN fun _ _ _ _ _ _ us hl => match us, hl with | [_], _ => rfl)⟩
theorem S_Site_wishes : FnScope ["self"] ["self"] (defScope s_Site_wishes) := fnScope_by (by decide +kernel)
def gp_Site_wishes (C : Addr) : MS := (sRet (m2 ixD (m2 ixD (eFld 0 kdN C "past") (m1 negD (eC (.int 1)))) (eC (.int 1))))
theorem ok_Site_wishes (cl : Cls K C) (na : NoAttr K C "past") {f : Addr} {fd : FuncData} (F : FunD K "wishes" "Site.wishes" (defArgs s_Site_wishes) (defBody s_Site_wishes) (defScope s_Site_wishes) [] [] f fd) {pa : Addr} (hp : PropOf K C "wishes" pa f) : PropE P w K mg base 1 C "wishes" "past" (gAt 1) :=
  ⟨pa, f, fd, ["self"], cl, hp, gAt_eq ▸ fn_get F S_Site_wishes rfl rfl (fun cdv A outer s H E hr =>
    (dss_one (ds_ret (de_ix (de_ix (de_fld (ob_name 0) cl na) (de_neg de_int)) de_int)))) (get_self (keeps_m2 (keeps_m2 keeps_fld (keeps_m1 keeps_C)) keeps_C)), (F.bindsN fun _ _ _ _ _ _ us hl => match us, hl with | [_], _ => rfl)⟩
theorem S_Site_keep : FnScope ["self", "cells", "wishes", "index"] ["self", "cells", "wishes"] (defScope s_Site_keep) := fnScope_by (by decide +kernel)
def gm_Site_keep (C : Addr) : MX := (xSeq (xOf (sFor (mItems (mFz (mCall f_first_broken (aCons (eVar 1) (aCons (eVar 2) aNil))))) (tgN 3) sNever)) (xOf (sFld1 0 kdN C "past" (mTupS (aStar (eFld 0 kdN C "past") (aCons (mTup (aCons (eVar 1) (aCons (eVar 2) aNil))) aNil))))))
def fm_keep (C : Addr) : FM := runM C "past" 1 (gm_Site_keep C)
theorem ok_Site_keep (G : Gv P w K mg) (c_first_broken : PF P w K mg base 1 "first_broken" 2 f_first_broken) (cl : Cls K C) (na : NoAttr K C "past") {f : Addr} {fd : FuncData} (F : FunD K "keep" "Site.keep" (defArgs s_Site_keep) (defBody s_Site_keep) (defScope s_Site_keep) [] [] f fd) (hme : Meth K C "keep" f) : MetE P w K mg base 2 C "keep" "past" 2 (fm_keep C) :=
  ⟨f, fd, ["self", "cells", "wishes"], cl, hme, fn_meth F S_Site_keep 2 rfl rfl fun cdv A outer s H E hr =>
    (dssx_cons (dsx_of (ds_for rfl (di_val (de_fz (se_call c_first_broken hr (by decide) (da_cons (de_var 1) (da_cons (de_var 2) da_nil))))) (dg_name 3 S_Site_keep.nd) (dss_one ds_never) (passes_of rfl))) (dssx_of (dss_one (ds_stF (ob_name 0) cl na (de_tupS (das_star (de_fld (ob_name 0) cl na) (das_cons (de_tup (da_cons (de_var 1) (da_cons (de_var 2) da_nil))) (das_of da_nil)))))))), (F.bindsN fun _ _ _ _ _ _ us hl => match us, hl with | [_, _, _], _ => rfl)⟩
theorem S_Site_put : FnScope ["self", "cell", "other"] ["self", "cell"] (defScope s_Site_put) := fnScope_by (by decide +kernel)
def gm_Site_put (C : Addr) : MX := (xSeq (xExpr (xCall f_check_cell (aCons (eVar 1) aNil))) (xSeq (xIf (tOrM (mT (m2 inD (eVar 1) (eProp 0 kdN C "past" (gAt 0)))) (tNotM (mT (m1 anyD (mFz (mLst (mLC [2] (mItems (mFz (mCall f_beside (aCons (eVar 1) aNil)))) (tgN 2) tAll (m2 inD (eVar 2) (eProp 0 kdN C "past" (gAt 0)))))))))) (xRaise "NotNow" "given" (eVar 1)) (xOf sNil)) (xSeq (xIf (mT (m2 eqD (m1 lenD (eProp 0 kdN C "past" (gAt 0))) (eC (.int (16))))) (xRaise0 "TooMany") (xOf sNil)) (xExpr (xMeth 0 kdN C "past" (fm_keep C) (aCons (m1 tupleD (mFz (mSorted (mTupS (aStar (eProp 0 kdN C "past" (gAt 0)) (aCons (eVar 1) aNil)))))) (aCons (eProp 0 kdN C "past" (gAt 1)) aNil)))))))
def fm_put (C : Addr) : FM := runM C "past" 1 (gm_Site_put C)
theorem ok_Site_put (G : Gv P w K mg) (c_beside : PF P w K mg base 2 "beside" 1 f_beside) (c_check_cell : XF P w K mg base 5 "check_cell" 1 f_check_cell) (p_cells : PropE P w K mg base 1 C "cells" "past" (gAt 0)) (e_NotNow : ExK P w K mg base 1 "NotNow" "given") (z_TooMany : ExZ K mg "TooMany") (m_keep : MetE P w K mg base 2 C "keep" "past" 2 (fm_keep C)) (p_wishes : PropE P w K mg base 1 C "wishes" "past" (gAt 1)) (cl : Cls K C) (na : NoAttr K C "past") {f : Addr} {fd : FuncData} (F : FunD K "put" "Site.put" (defArgs s_Site_put) (defBody s_Site_put) (defScope s_Site_put) [] [] f fd) (hme : Meth K C "put" f) : MetE P w K mg base 6 C "put" "past" 1 (fm_put C) :=
  ⟨f, fd, ["self", "cell"], cl, hme, fn_meth F S_Site_put 1 rfl rfl fun cdv A outer s H E hr =>
    (dssx_cons (dsx_exprX (sex_call c_check_cell hr (by decide) (da_cons (de_var 1) da_nil))) (dssx_cons (dsx_if (DW.dt (dw_or (dt_in hr.u (de_var 1) (LE.of (de_prop p_cells (ob_name 0) hr (by decide))) rfl) (dw_or1 (dt_not (dt_val (de_b1 (b_any rfl) (by rfl) G.b_any bt_any (LE.of (de_fz (se_lc rfl S_Site_put.nd (di_val (de_fz (se_call c_beside hr (by decide) (da_cons (de_var 1) da_nil)))) [("other", 2)] (by rfl) (fun _ _ _ _ _ => (dg_name 2 S_Site_put.nd)) (fun _ _ _ _ _ => dts_nil) (fun _ _ _ _ _ => (de_in hr.u (de_var 2) (LE.of (de_prop p_cells (ob_name 0) hr (by decide))) rfl))))))))))) (dssx_one (dsx_raise e_NotNow rfl hr (by decide) (de_var 1))) (dssx_of dss_nil)) (dssx_cons (dsx_if (dt_cm (c_eq hr.u) (de_b1 b_len (by rfl) G.b_len bt_len (LE.of (de_prop p_cells (ob_name 0) hr (by decide)))) (de_gl G.g_MOST_CELLS) rfl) (dssx_one (dsx_raise0 z_TooMany rfl)) (dssx_of dss_nil)) (dssx_one (dsx_exprX (sex_meth m_keep (ob_name 0) hr (by decide) (by decide) (da_cons (de_t1 b_tuple (by rfl) G.b_tuple bt_tuple (LE.of (de_fz (se_sorted rfl (hu32 hr.u) (LE.of (de_tupS (das_star (de_prop p_cells (ob_name 0) hr (by decide)) (das_cons (de_var 1) (das_of da_nil))))) (by rfl) G.b_sorted)))) (da_cons (de_prop p_wishes (ob_name 0) hr (by decide)) da_nil)) (keeps_cons (keeps_m1 (keeps_fz (keeps_sorted (keeps_tupS (keeps_star keeps_prop (keeps_cons keeps_var keeps_nil)))))) (keeps_cons keeps_prop keeps_nil)))))))), (F.bindsN fun _ _ _ _ _ _ us hl => match us, hl with | [_, _], _ => rfl)⟩
theorem S_Site_take : FnScope ["self", "cell", "others", "each"] ["self", "cell"] (defScope s_Site_take) := fnScope_by (by decide +kernel)
def gm_Site_take (C : Addr) : MX := (xSeq (xExpr (xCall f_check_cell (aCons (eVar 1) aNil))) (xSeq (xOf (sSet 2 (mDat (m1 tupleD (mFz (mLst (mLC [3] (mItems (eProp 0 kdN C "past" (gAt 0))) (tgN 3) (mT (m2 neD (eVar 3) (eVar 1))) (eVar 3)))))))) (xSeq (xIf (tOrM (mT (m2 notInD (eVar 1) (eProp 0 kdN C "past" (gAt 0)))) (tOrM (mT (m2 eqD (eVar 2) (mTup aNil))) (tNotM (mT (mFz (mCall f_do_hang_together (aCons (eVar 2) aNil))))))) (xRaise "NotNow" "given" (eVar 1)) (xOf sNil)) (xExpr (xMeth 0 kdN C "past" (fm_keep C) (aCons (eVar 2) (aCons (eProp 0 kdN C "past" (gAt 1)) aNil)))))))
def fm_take (C : Addr) : FM := runM C "past" 2 (gm_Site_take C)
theorem ok_Site_take (G : Gv P w K mg) (c_do_hang_together : PF P w K mg base 4 "do_hang_together" 1 f_do_hang_together) (c_check_cell : XF P w K mg base 5 "check_cell" 1 f_check_cell) (p_cells : PropE P w K mg base 1 C "cells" "past" (gAt 0)) (e_NotNow : ExK P w K mg base 1 "NotNow" "given") (m_keep : MetE P w K mg base 2 C "keep" "past" 2 (fm_keep C)) (p_wishes : PropE P w K mg base 1 C "wishes" "past" (gAt 1)) (cl : Cls K C) (na : NoAttr K C "past") {f : Addr} {fd : FuncData} (F : FunD K "take" "Site.take" (defArgs s_Site_take) (defBody s_Site_take) (defScope s_Site_take) [] [] f fd) (hme : Meth K C "take" f) : MetE P w K mg base 6 C "take" "past" 1 (fm_take C) :=
  ⟨f, fd, ["self", "cell"], cl, hme, fn_meth F S_Site_take 1 rfl rfl fun cdv A outer s H E hr =>
    (dssx_cons (dsx_exprX (sex_call c_check_cell hr (by decide) (da_cons (de_var 1) da_nil))) (dssx_cons (dsx_of (ds_set 2 S_Site_take.nd (SE.of (de_t1 b_tuple (by rfl) G.b_tuple bt_tuple (LE.of (de_fz (se_lc rfl S_Site_take.nd (di_val (de_prop p_cells (ob_name 0) hr (by decide))) [("each", 3)] (by rfl) (fun _ _ _ _ _ => (dg_name 3 S_Site_take.nd)) (fun _ _ _ _ _ => (dts_one (dt_cm (c_ne hr.u) (de_var 3) (de_var 1) rfl))) (fun _ _ _ _ _ => (de_var 3))))))))) (dssx_cons (dsx_if (DW.dt (dw_or (dt_notIn hr.u (de_var 1) (LE.of (de_prop p_cells (ob_name 0) hr (by decide))) rfl) (dw_or (dt_cm (c_eq hr.u) (de_var 2) (de_tup da_nil) rfl) (dw_or1 (dt_not (dt_val (de_fz (se_call c_do_hang_together hr (by decide) (da_cons (de_var 2) da_nil))))))))) (dssx_one (dsx_raise e_NotNow rfl hr (by decide) (de_var 1))) (dssx_of dss_nil)) (dssx_one (dsx_exprX (sex_meth m_keep (ob_name 0) hr (by decide) (by decide) (da_cons (de_var 2) (da_cons (de_prop p_wishes (ob_name 0) hr (by decide)) da_nil)) (keeps_cons keeps_var (keeps_cons keeps_prop keeps_nil)))))))), (F.bindsN fun _ _ _ _ _ _ us hl => match us, hl with | [_, _], _ => rfl)⟩
theorem S_Site_undo : FnScope ["self"] ["self"] (defScope s_Site_undo) := fnScope_by (by decide +kernel)
def gm_Site_undo (C : Addr) : MX := (xSeq (xIf (mT (m2 eqD (m1 lenD (eFld 0 kdN C "past")) (eC (.int 1)))) (xRaise0 "NothingToUndo") (xOf sNil)) (xOf (sFld1 0 kdN C "past" (mSl (eFld 0 kdN C "past") mNoPart (mPart (m1 negD (eC (.int 1))))))))
def fm_undo (C : Addr) : FM := runM C "past" 0 (gm_Site_undo C)
theorem ok_Site_undo (G : Gv P w K mg) (z_NothingToUndo : ExZ K mg "NothingToUndo") (cl : Cls K C) (na : NoAttr K C "past") {f : Addr} {fd : FuncData} (F : FunD K "undo" "Site.undo" (defArgs s_Site_undo) (defBody s_Site_undo) (defScope s_Site_undo) [] [] f fd) (hme : Meth K C "undo" f) : MetE P w K mg base 1 C "undo" "past" 0 (fm_undo C) :=
  ⟨f, fd, ["self"], cl, hme, fn_meth F S_Site_undo 0 rfl rfl fun cdv A outer s H E hr =>
    (dssx_cons (dsx_if (dt_cm (c_eq hr.u) (de_b1 b_len (by rfl) G.b_len bt_len (LE.of (de_fld (ob_name 0) cl na))) de_int rfl) (dssx_one (dsx_raise0 z_NothingToUndo rfl)) (dssx_of dss_nil)) (dssx_of (dss_one (ds_stF (ob_name 0) cl na (de_slice (de_fld (ob_name 0) cl na) do_none (do_some (de_neg de_int))))))), (F.bindsN fun _ _ _ _ _ _ us hl => match us, hl with | [_], _ => rfl)⟩
theorem S_Console_do : FnScope ["self", "word", "cell"] ["self", "word", "cell"] (defScope s_Console_do) := fnScope_by (by decide +kernel)
def gk_Console_do (CC C : Addr) : MX := (xSeq (xIf (mT (m2 eqD (eVar 1) (eC (.str "put")))) (xExpr (xMeth 0 (kdC CC "site") C "past" (fm_put C) (aCons (eVar 2) aNil))) (xIf (mT (m2 eqD (eVar 1) (eC (.str "take")))) (xExpr (xMeth 0 (kdC CC "site") C "past" (fm_take C) (aCons (eVar 2) aNil))) (xExpr (xMeth 0 (kdC CC "site") C "past" (fm_undo C) aNil)))) (xOf (sRet (eC (.str "done")))))
def fk_do (CC C : Addr) : FM := runC CC "site" C "past" 0 (gk_Console_do CC C)
theorem ok_Console_do (G : Gv P w K mg) (m_put : MetE P w K mg base 6 C "put" "past" 1 (fm_put C)) (m_take : MetE P w K mg base 6 C "take" "past" 1 (fm_take C)) (m_undo : MetE P w K mg base 1 C "undo" "past" 0 (fm_undo C)) (clC : Cls K CC) (naC : NoAttr K CC "site") {f : Addr} {fd : FuncData} (F : FunD K "do" "Console.do" (defArgs s_Console_do) (defBody s_Console_do) (defScope s_Console_do) [] [] f fd) (hme : Meth K CC "do" f) : MetC P w K mg base 7 CC "site" C "do" "past" 2 (fk_do CC C) "" :=
  ⟨f, fd, ["self", "word", "cell"], clC, hme, fn_con F S_Console_do 2 rfl rfl fun cdv A outer s H E hr =>
    (dssx_cons (dsx_if (dt_cm (c_eq hr.u) (de_var 1) (de_gl G.g_PUT) rfl) (dssx_one (dsx_exprX (sex_meth m_put (ob_fld 0 clC naC) hr (by decide) (by decide) (da_cons (de_var 2) da_nil) (keeps_cons keeps_var keeps_nil)))) (dssx_one (dsx_if (dt_cm (c_eq hr.u) (de_var 1) (de_gl G.g_TAKE) rfl) (dssx_one (dsx_exprX (sex_meth m_take (ob_fld 0 clC naC) hr (by decide) (by decide) (da_cons (de_var 2) da_nil) (keeps_cons keeps_var keeps_nil)))) (dssx_one (dsx_exprX (sex_meth0 m_undo (ob_fld 0 clC naC) hr (by decide) (by decide))))))) (dssx_of (dss_one (ds_ret (de_gl G.g_DONE))))), (F.bindsN fun _ _ _ _ _ _ us hl => match us, hl with | [_, _, _], _ => rfl), fun h => by cases h⟩
theorem S_Console_told : FnScope ["self", "word", "cells", "is_whole"] ["self", "word"] (defScope s_Console_told) := fnScope_by (by decide +kernel)
def gk_Console_told (CC C : Addr) : MX := (xOf (sSeq (sSet 2 (mDat (eProp 0 (kdC CC "site") C "past" (gAt 0)))) (sSeq (sSet 3 (mDat (mFz (mCall f_is_shape_by (aCons (eVar 2) aNil))))) (sSeq (sIf (mT (m2 eqD (eVar 1) (eC (.str "area")))) (sRet (m1 strD (m1 lenD (eLoc 2)))) sNil) (sSeq (sIf (mT (m2 eqD (eVar 1) (eC (.str "shape")))) (sRet (mFz (mCall f_yes_or_no (aCons (eVar 3) aNil)))) sNil) (sSeq (sIf (mT (m2 eqD (eVar 1) (eC (.str "covers")))) (sRet (mFz (mCall f_yes_or_no (aCons (mAnd (eVar 3) (mFz (mCall f_covers_by (aCons (eVar 2) aNil)))) aNil)))) sNil) (sSeq (sIf (mT (m2 eqD (eVar 1) (eC (.str "rim")))) (sRet (mIf (mT (eVar 3)) (mFz (mCall f_rim_by (aCons (eVar 2) aNil))) (eC (.str "none")))) sNil) (sRet (mIf (mT (eVar 3)) (mFz (mCall f_lattices_text (aCons (mFz (mCall f_fitting_by (aCons (eVar 2) aNil))) aNil))) (eC (.str "none")))))))))))
def fk_told (CC C : Addr) : FM := runC CC "site" C "past" 2 (gk_Console_told CC C)
theorem ok_Console_told (G : Gv P w K mg) (c_is_shape_by : PF P w K mg base 6 "is_shape_by" 1 f_is_shape_by) (c_yes_or_no : PF P w K mg base 1 "yes_or_no" 1 f_yes_or_no) (c_covers_by : PF P w K mg base 6 "covers_by" 1 f_covers_by) (c_rim_by : PF P w K mg base 3 "rim_by" 1 f_rim_by) (c_lattices_text : PF P w K mg base 1 "lattices_text" 1 f_lattices_text) (c_fitting_by : PF P w K mg base 3 "fitting_by" 1 f_fitting_by) (p_cells : PropE P w K mg base 1 C "cells" "past" (gAt 0)) (clC : Cls K CC) (naC : NoAttr K CC "site") {f : Addr} {fd : FuncData} (F : FunD K "told" "Console.told" (defArgs s_Console_told) (defBody s_Console_told) (defScope s_Console_told) [] [] f fd) (hme : Meth K CC "told" f) : MetC P w K mg base 7 CC "site" C "told" "past" 1 (fk_told CC C) "word" :=
  ⟨f, fd, ["self", "word"], clC, hme, fn_con F S_Console_told 1 rfl rfl fun cdv A outer s H E hr =>
    (dssx_of (dss_cons (ds_set 2 S_Console_told.nd (SE.of (de_prop p_cells (ob_fld 0 clC naC) hr (by decide)))) (dss_cons (ds_set 3 S_Console_told.nd (SE.of (de_fz (se_call c_is_shape_by hr (by decide) (da_cons (de_var 2) da_nil))))) (dss_cons (ds_if (dt_cm (c_eq hr.u) (de_var 1) de_str rfl) (dss_one (ds_ret (de_t1 b_str (by rfl) G.b_str bt_str (LE.of (de_b1 b_len (by rfl) G.b_len bt_len (le_loc 2)))))) dss_nil) (dss_cons (ds_if (dt_cm (c_eq hr.u) (de_var 1) de_str rfl) (dss_one (ds_ret (de_fz (se_call c_yes_or_no hr (by decide) (da_cons (de_var 3) da_nil))))) dss_nil) (dss_cons (ds_if (dt_cm (c_eq hr.u) (de_var 1) de_str rfl) (dss_one (ds_ret (de_fz (se_call c_yes_or_no hr (by decide) (da_cons (de_and (de_var 3) (de_one (de_fz (se_call c_covers_by hr (by decide) (da_cons (de_var 2) da_nil))))) da_nil))))) dss_nil) (dss_cons (ds_if (dt_cm (c_eq hr.u) (de_var 1) de_str rfl) (dss_one (ds_ret (de_ifExp (dt_val (de_var 3)) (de_fz (se_call c_rim_by hr (by decide) (da_cons (de_var 2) da_nil))) (de_gl G.g_NONE)))) dss_nil) (dss_one (ds_ret (de_ifExp (dt_val (de_var 3)) (de_fz (se_call c_lattices_text hr (by decide) (da_cons (de_fz (se_call c_fitting_by hr (by decide) (da_cons (de_var 2) da_nil))) da_nil))) (de_gl G.g_NONE))))))))))), (F.bindsN fun _ _ _ _ _ _ us hl => match us, hl with | [_, _], _ => rfl), fun _ s u v _ => bindsK F (fun _ _ _ _ _ _ a b => rfl) s u v⟩
theorem S_Console_say : FnScope ["self", "line", "found", "word", "cell"] ["self", "line"] (defScope s_Console_say) := fnScope_by (by decide +kernel)
def gk_Console_say (CC C : Addr) : MX := (xSeq (xOf (sSet 2 (mDat (mIf (mT (m1 (isiD "str") (eVar 1))) (mFz (mCall f_line_parts (aCons (eVar 1) aNil))) (mFz (mLst aNil)))))) (xSeq (xIf (mT (m2 eqD (eVar 2) (mFz (mLst aNil)))) (xRaise "InvalidLine" "given" (eVar 1)) (xOf sNil)) (xSeq (xOf (sAsg (m2 ixD (eVar 2) (eC (.int 0))) (tgTup 2 (tgCons (tgN 3) (tgCons (tgN 4) tgNil))))) (xRet (xIfE (mT (m2 inD (eVar 3) (mTup (aCons (eC (.str "put")) (aCons (eC (.str "take")) (aCons (eC (.str "undo")) aNil)))))) (xMeth 0 (kdB CC "site" C "past") C "past" (fk_do CC C) (aCons (eVar 3) (aCons (eVar 4) aNil))) (xMeth 0 (kdB CC "site" C "past") C "past" (fk_told CC C) (aCons (eVar 3) aNil)))))))
def fk_say (CC C : Addr) : FM := runC CC "site" C "past" 3 (gk_Console_say CC C)
theorem ok_Console_say (G : Gv P w K mg) (c_line_parts : PF P w K mg base 3 "line_parts" 1 f_line_parts) (e_InvalidLine : ExK P w K mg base 1 "InvalidLine" "given") (k_do : MetC P w K mg base 7 CC "site" C "do" "past" 2 (fk_do CC C) "") (k_told : MetC P w K mg base 7 CC "site" C "told" "past" 1 (fk_told CC C) "word") (clC : Cls K CC) (naC : NoAttr K CC "site") {f : Addr} {fd : FuncData} (F : FunD K "say" "Console.say" (defArgs s_Console_say) (defBody s_Console_say) (defScope s_Console_say) [] [] f fd) (hme : Meth K CC "say" f) : MetC P w K mg base 8 CC "site" C "say" "past" 1 (fk_say CC C) "line" :=
  ⟨f, fd, ["self", "line"], clC, hme, fn_con F S_Console_say 1 rfl rfl fun cdv A outer s H E hr =>
    (dssx_cons (dsx_of (ds_set 2 S_Console_say.nd (SE.of (de_ifExp (dt_val (de_isi "str" kit_str (de_var 1) (by rfl) G.b_isinstance (by rfl) G.b_str)) (de_fz (se_call c_line_parts hr (by decide) (da_cons (de_var 1) da_nil))) (de_fz (se_lst da_nil)))))) (dssx_cons (dsx_if (dt_cm (c_eq hr.u) (de_var 2) (de_fz (se_lst da_nil)) rfl) (dssx_one (dsx_raise e_InvalidLine rfl hr (by decide) (de_var 1))) (dssx_of dss_nil)) (dssx_cons (dsx_of (ds_asg (de_ix (de_var 2) de_int) (dg_tup rfl (dgs_cons (dg_name 3 S_Console_say.nd) (dgs_cons (dg_name 4 S_Console_say.nd) dgs_nil)) 2))) (dssx_one (dsx_retX (sex_if (dt_in hr.u (de_var 3) (LE.of (de_tup (da_cons (de_gl G.g_PUT) (da_cons (de_gl G.g_TAKE) (da_cons (de_gl G.g_UNDO) da_nil))))) rfl) (sex_con 0 k_do hr (by decide) (by decide) (da_cons (de_var 3) (da_cons (de_var 4) da_nil)) (keeps_cons keeps_var (keeps_cons keeps_var keeps_nil))) (sex_con 0 k_told hr (by decide) (by decide) (da_cons (de_var 3) da_nil) (keeps_cons keeps_var keeps_nil)))))))), (F.bindsN fun _ _ _ _ _ _ us hl => match us, hl with | [_, _], _ => rfl), fun _ s u v _ => bindsK F (fun _ _ _ _ _ _ a b => rfl) s u v⟩
end
end Tx
namespace Tx
open PySem PySem.W PySem.Spec PyProof.Rows L2 C8 Dn Hd
def okc (x : Str) : Bool := x == "InvalidLine" || x == "InvalidCell" || x == "NotNow" || x == "NothingToUndo"
/-- what the exceptions' classes are known by -/
structure Exs (K : PySem.W.Frag) (mg : Str → Option Value) : Prop where
  te : ∃ T, mg "TileError" = some (.ref T) ∧ ∀ nm C, okc nm = true → mg nm = some (.ref C) → PySem.W.exmOne K (.ref C) (.ref T) = some true
  ec : ∀ nm C, okc nm = true → mg nm = some (.ref C) → EcC K C ∧ PySem.W.findIn K (.ref C) "given" = some none ∧ PySem.W.kitOne K (.ref C) (.type "ValueError") = some true
  isi : ∀ nm T C, okc nm = true → okc T = true → mg nm = some (.ref C) → ∃ D, mg T = some (.ref D) ∧ PySem.W.kitOne K (.ref C) (.ref D) = some (nm == T)
def okl : List Str := ["InvalidLine", "InvalidCell", "NotNow", "NothingToUndo"]
def exsB (K : PySem.W.Frag) : Bool := okl.all fun x => ecB K (He.ga K x) && (He.eqO (PySem.W.findIn K (.ref (He.ga K x)) "given") (some none) && (decide (PySem.W.kitOne K (.ref (He.ga K x)) (.type "ValueError") = some true) && (decide (PySem.W.exmOne K (.ref (He.ga K x)) (.ref (He.ga K "TileError")) = some true) &&
  okl.all fun T => decide (PySem.W.kitOne K (.ref (He.ga K x)) (.ref (He.ga K T)) = some (x == T)))))
theorem okl_of {x : Str} (h : okc x = true) : x ∈ okl := by
  unfold okc at h
  simp only [Bool.or_eq_true, beq_iff_eq] at h
  rcases h with ((h | h) | h) | h <;> subst h <;> simp [okl]
theorem exs_of {K : PySem.W.Frag} {mg : Str → Option Value} (hg : ∀ x ∈ okl, mg x = some (.ref (He.ga K x))) (ht : mg "TileError" = some (.ref (He.ga K "TileError"))) (h : exsB K = true) : Exs K mg := by
  have pt : ∀ nm C, okc nm = true → mg nm = some (.ref C) → C = He.ga K nm := fun nm C ok e => by
    rw [hg nm (okl_of ok)] at e
    cases e; rfl
  have all := List.all_eq_true.mp h
  refine ⟨⟨_, ht, fun nm C ok e => ?_⟩, fun nm C ok e => ?_, fun nm T C ok okT e => ⟨_, hg T (okl_of okT), ?_⟩⟩
  · have := pt nm C ok e
    subst this
    obtain ⟨_, b⟩ := He.ba (all nm (okl_of ok))
    obtain ⟨_, b⟩ := He.ba b
    obtain ⟨_, b⟩ := He.ba b
    exact of_decide_eq_true (He.ba b).1
  · have := pt nm C ok e
    subst this
    obtain ⟨b1, b⟩ := He.ba (all nm (okl_of ok))
    obtain ⟨b2, b⟩ := He.ba b
    obtain ⟨b3, b⟩ := He.ba b
    exact ⟨ecB_ok b1, He.eqO_ok b2, of_decide_eq_true b3⟩
  · have := pt nm C ok e
    subst this
    obtain ⟨_, b⟩ := He.ba (all nm (okl_of ok))
    obtain ⟨_, b⟩ := He.ba b
    obtain ⟨_, b⟩ := He.ba b
    exact of_decide_eq_true (List.all_eq_true.mp (He.ba b).2 T (okl_of okT))
section
variable {P : Program} {w : World} {K : PySem.W.Frag} {mg : Str → Option Value} {base : Heap} {C CC : Addr}
theorem S_law_word : FnScope ["e", "marks", "some", "word", "is_so"] ["e", "marks"] (defScope s_law_word) := fnScope_by (by decide +kernel)
def g_word (xn : Xn) (a : Addr) (d : Option Addr) : MS :=
  sSeq (sSet 2 (mLst (mLC [3, 4] (mItemsL (eVar 1)) (tgTup 2 (tgCons (tgN 3) (tgCons (tgN 4) tgNil))) (mT (eVar 4)) (eVar 3))))
    (sRet (mIf (tAndM (mT (m2 eqD (m1 lenD (eLoc 2)) (eC (.int 1)))) (mT (eExI 0 a d true))) (mLoc2 2 ixD (eC (.int 0))) (eC (.str "odd"))))
def pick (l : List (Str × Bool)) : PyData := match l.filter (·.2) with
  | [p] => .str p.1
  | _ => .str "odd"
def fe_word : FE := fun xn ds => match ds with
  | [.list [.tuple [.str w1, .bool b1], .tuple [.str w2, .bool b2], .tuple [.str w3, .bool b3], .tuple [.str w4, .bool b4]]] => some (pick [(w1, b1), (w2, b2), (w3, b3), (w4, b4)])
  | _ => none
theorem hotY {X : Cx} {s : Shared} {H : Hp} {sc : Scope} {env : PySem.Env} {fp : List Addr} {p : Addr × Obj} (h : L2H.Hot1 X.A p) : L2H.HotC (blkP X s H sc env fp p) := ⟨p, h, List.mem_cons_self⟩
def one1 (ws : List PyData) : PyData := match ws with
  | [w] => w
  | _ => .str "odd"
theorem word_end (ρ : Dn.Env) (ws : List PyData) (a : Addr) (d : Option Addr) (fs : List (Str × PyData)) (h0 : ρ[(0 : Nat)]? = some (Sl.exc a d fs)) (h2 : ρ[(2 : Nat)]? = some (Sl.own ws)) :
    sRet (mIf (tAndM (mT (m2 eqD (m1 lenD (eLoc 2)) (eC (.int 1)))) (mT (eExI 0 a d true))) (mLoc2 2 ixD (eC (.int 0))) (eC (.str "odd"))) ρ = some (.rt (.dat (one1 ws)) ρ) := by
  have e1 : m1 lenD (eLoc 2) ρ = some (.int ws.length, ρ) := by simp [m1, eLoc, h2, lenD]
  have e4 := eExI_ok (b := true) h0
  have e5 : mT (eExI 0 a d true) ρ = some (true, ρ) := by unfold mT; rw [e4]
  have t1 : eqD (.int ws.length) (.int 1) = some (.bool (decide (ws.length = 1))) := by
    have : PyData.eqv (.int ws.length) (.int 1) = decide (ws.length = 1) := by
      simp [PyData.eqv]
      by_cases h : ws.length = 1 <;> simp [h] <;> omega
    simp [eqD, SeqAt.shaped, PyData.canLay0, PyData.depth, this]
  have c1 : mT (m2 eqD (m1 lenD (eLoc 2)) (eC (.int 1))) ρ = some (decide (ws.length = 1), ρ) := by
    unfold mT m2
    rw [e1]
    simp only [eC, t1]
  have c2 : tAndM (mT (m2 eqD (m1 lenD (eLoc 2)) (eC (.int 1)))) (mT (eExI 0 a d true)) ρ = some (decide (ws.length = 1), ρ) := by
    unfold tAndM
    rw [c1]
    by_cases h : ws.length = 1
    · simp only [h, decide_true, e5]
    · simp only [h, decide_false]
  unfold sRet mIf
  rw [c2]
  match ws, h2 with
  | [], h2 => rfl
  | [w], h2 =>
    have e6 : mLoc2 2 ixD (eC (.int 0)) ρ = some (w, ρ) := by
      unfold mLoc2
      have : eLoc 2 ρ = some (.list [w], ρ) := by simp [eLoc, h2]
      simp only [this, eC]
      rfl
    simp only [List.length_cons, List.length_nil, Nat.zero_add, decide_true, e6]
    rfl
  | w :: v :: r, h2 =>
    have : (w :: v :: r).length ≠ 1 := by simp
    simp only [this, decide_false]
    rfl
theorem word_par : ∀ xn ds y, fe_word xn ds = some y → ∀ a d, ∃ ρ', g_word xn a d (.exc a d xn.fs :: ds.map .dat ++ uns 3) = some (.rt (.dat y) ρ') := by
  intro xn ds y h a d
  unfold fe_word at h
  split at h
  · rename_i w1 b1 w2 b2 w3 b3 w4 b4
    cases h
    have key : sSet 2 (mLst (mLC [3, 4] (mItemsL (eVar 1)) (tgTup 2 (tgCons (tgN 3) (tgCons (tgN 4) tgNil))) (mT (eVar 4)) (eVar 3))) [.exc a d xn.fs, .dat (.list [.tuple [.str w1, .bool b1], .tuple [.str w2, .bool b2], .tuple [.str w3, .bool b3], .tuple [.str w4, .bool b4]]), .un, .un, .un] =
        some (.nx [.exc a d xn.fs, .dat (.list [.tuple [.str w1, .bool b1], .tuple [.str w2, .bool b2], .tuple [.str w3, .bool b3], .tuple [.str w4, .bool b4]]), .own ((([(w1, b1), (w2, b2), (w3, b3), (w4, b4)] : List (Str × Bool)).filter (·.2)).map fun p => PyData.str p.1), .un, .un]) := by
      cases b1 <;> cases b2 <;> cases b3 <;> cases b4 <;> kernel_rfl
    have e := word_end _ _ a d xn.fs (by rfl : ([.exc a d xn.fs, .dat (.list [.tuple [.str w1, .bool b1], .tuple [.str w2, .bool b2], .tuple [.str w3, .bool b3], .tuple [.str w4, .bool b4]]), .own ((([(w1, b1), (w2, b2), (w3, b3), (w4, b4)] : List (Str × Bool)).filter (·.2)).map fun p => PyData.str p.1), .un, .un] : Dn.Env)[(0 : Nat)]? = some (Sl.exc a d xn.fs)) rfl
    have e2 : one1 ((([(w1, b1), (w2, b2), (w3, b3), (w4, b4)] : List (Str × Bool)).filter (·.2)).map fun p => PyData.str p.1) = pick [(w1, b1), (w2, b2), (w3, b3), (w4, b4)] := by
      cases b1 <;> cases b2 <;> cases b3 <;> cases b4 <;> rfl
    rw [e2] at e
    refine ⟨_, Eq.trans ?_ e⟩
    show sSeq _ _ _ = _
    unfold sSeq
    rw [show (Sl.exc a d xn.fs :: [PyData.list [.tuple [.str w1, .bool b1], .tuple [.str w2, .bool b2], .tuple [.str w3, .bool b3], .tuple [.str w4, .bool b4]]].map Sl.dat ++ uns 3) = [.exc a d xn.fs, .dat (.list [.tuple [.str w1, .bool b1], .tuple [.str w2, .bool b2], .tuple [.str w3, .bool b3], .tuple [.str w4, .bool b4]]), .un, .un, .un] from rfl, key]
  · cases h
theorem ok_law_word (G : Gv P w K mg) (x : Exs K mg) {f : Addr} {fd : FuncData} (F : FunD K "_law_word" "_law_word" (defArgs s_law_word) (defBody s_law_word) (defScope s_law_word) [] [] f fd) (hm : mg "_law_word" = some (.ref f)) (hve : mg "ValueError" = none) : EF P w K mg base okc 1 "_law_word" 1 fe_word :=
  cal_E (k := 0) (m := 3) (g := g_word) F hm S_law_word 1 rfl rfl (fun _ _ _ _ _ _ us hl => match us, hl with | [_, _], _ => rfl) (fun cdv A outer s H E a oe xn C d hot hr ok hmC hz hf =>
    have T := x.ec _ _ ok hmC
    dss_cons (ds_setLcH 2 ⟨_, hot, List.mem_cons_self⟩ S_law_word.nd (dih_list (de_var 1)) [("word", 3), ("is_so", 4)] (by rfl) (fun _ _ _ _ _ _ h => dg_tupH (hotY h) (dgs_cons (dg_name 3 S_law_word.nd) (dgs_cons (dg_name 4 S_law_word.nd) dgs_nil)) 2) (fun _ _ _ _ _ _ _ => dts_one (dt_val (de_var 4))) (fun _ _ _ _ _ _ _ => de_var 3) (sw_true rfl rfl rfl rfl))
      (dss_one (ds_ret (de_ifExp (DW.dt (dw_and (dt_cm (c_eq hr.u) (de_b1 b_len (by rfl) G.b_len bt_len (le_loc 2)) de_int rfl) (dw_and1 (dt_val (de_exI 0 T.1 T.2.2 hz.zc hf List.mem_cons_self (pe_bltn (v := .ty "ValueError") (by rfl) hve (by decide +kernel) rfl) (fun _ h => h) (by rfl) G.b_isinstance))))) (de_ixN 2 de_int) de_str)))) word_par
theorem S_law_said : FnScope ["urn", "console", "line", "told", "e", "marks", "word"] ["urn", "console", "line"] (defScope s_law_said) := fnScope_by (by decide +kernel)
def gb_said (CC C : Addr) : MX :=
  xSeq (xSet 3 (xIfE (mT (m2 eqD (mFz (mCallI 0 f_law_nip (aCons (eC (.int 2)) aNil))) (eC (.int 0)))) (xMeth 1 (kdB CC "site" C "past") C "past" (fk_say CC C) (aCons (eVar 2) aNil)) (xMeth 1 (kdB CC "site" C "past") C "past" (fk_say CC C) (aCons (eVar 2) aNil))))
    (xOf (sRet (mIf (mT (m1 (isiD "str") (eVar 3))) (mTup (aCons (eC (.str "told")) (aCons (eC .none) aNil))) (mTup (aCons (eC (.str "odd")) (aCons (eC .none) aNil))))))
def h_said (xn : Xn) (a : Addr) (d : Option Addr) : MS :=
  sSeq (sSet 5 (mLst (aCons (mTup (aCons (eC (.str "line")) (aCons (eExI 4 a d (xn.cls == "InvalidLine")) aNil))) (aCons (mTup (aCons (eC (.str "cell")) (aCons (eExI 4 a d (xn.cls == "InvalidCell")) aNil))) (aCons (mTup (aCons (eC (.str "now")) (aCons (eExI 4 a d (xn.cls == "NotNow")) aNil))) (aCons (mTup (aCons (eC (.str "nothing")) (aCons (eExI 4 a d (xn.cls == "NothingToUndo")) aNil))) aNil))))))
    (sSeq (sSet 6 (mDat (mCallE 4 xn a d fe_word (aCons (eFz 5) aNil))))
      (sRet (mTup (aCons (eVar 6) (aCons (mIf (mT (m2 inD (eVar 6) (mTup (aCons (eC (.str "line")) (aCons (eC (.str "cell")) (aCons (eC (.str "now")) aNil)))))) (eExF 4 a d "given") (eC .none)) aNil)))))
def marksD (c : Str) : List PyData := [.tuple [.str "line", .bool (c == "InvalidLine")], .tuple [.str "cell", .bool (c == "InvalidCell")], .tuple [.str "now", .bool (c == "NotNow")], .tuple [.str "nothing", .bool (c == "NothingToUndo")]]
def wordOf (c : Str) : PyData := pick [("line", c == "InvalidLine"), ("cell", c == "InvalidCell"), ("now", c == "NotNow"), ("nothing", c == "NothingToUndo")]
def resOf (xn : Xn) : Option PyData := if xn.cls = "NothingToUndo" then some (.tuple [.str "nothing", .none]) else if xn.cls = "InvalidLine" ∨ xn.cls = "InvalidCell" ∨ xn.cls = "NotNow" then (xn.fs.lookup ("given" : Str)).map fun x => .tuple [wordOf xn.cls, x] else none
def hr_said (xn : Xn) (ρ : Dn.Env) : Option (PyData × Dn.Env) := match ρ with
  | [s0, s1, s2, s3, _, _, _] => (resOf xn).map fun y => (y, [s0, s1, s2, s3, .un, .dat (.list (marksD xn.cls)), .dat (wordOf xn.cls)])
  | _ => none
theorem aCons_ok {f : M PyData} {g : M (List PyData)} {ρ ρ1 ρ2 : Dn.Env} {x : PyData} {xs : List PyData} (h : f ρ = some (x, ρ1)) (k : g ρ1 = some (xs, ρ2)) : aCons f g ρ = some (x :: xs, ρ2) := by
  unfold aCons
  rw [h]
  simp only
  rw [k]
theorem mTup_ok {f : M (List PyData)} {ρ ρ1 : Dn.Env} {xs : List PyData} (h : f ρ = some (xs, ρ1)) : mTup f ρ = some (.tuple xs, ρ1) := by
  unfold mTup
  rw [h]
theorem sRet_ok {f : M PyData} {ρ ρ1 : Dn.Env} {x : PyData} (h : f ρ = some (x, ρ1)) : sRet f ρ = some (.rt (.dat x) ρ1) := by
  unfold sRet
  rw [h]
theorem said_par : ∀ xn ρ1 y ρo, hr_said xn ρ1 = some (y, ρo) → ∀ a d, ∃ ρu ρ', setSl 4 (.exc a d xn.fs) ρ1 = some ρu ∧ h_said xn a d ρu = some (.rt (.dat y) ρ') ∧ setSl 4 .un ρ' = some ρo := by
  intro xn ρ1 y ρo h a d
  unfold hr_said at h
  split at h
  · rename_i s0 s1 s2 s3 s4 s5 s6
    obtain ⟨y', h1, h2⟩ := Option.map_eq_some_iff.mp h
    cases h2
    refine ⟨[s0, s1, s2, s3, .exc a d xn.fs, s5, s6], [s0, s1, s2, s3, .exc a d xn.fs, .dat (.list (marksD xn.cls)), .dat (wordOf xn.cls)], by simp [setSl], ?_, by simp [setSl]⟩
    have i0 : ∀ b, eExI 4 a d b [s0, s1, s2, s3, .exc a d xn.fs, s5, s6] = some (.bool b, [s0, s1, s2, s3, .exc a d xn.fs, s5, s6]) := fun b => eExI_ok rfl
    have st1 : sSet 5 (mLst (aCons (mTup (aCons (eC (.str "line")) (aCons (eExI 4 a d (xn.cls == "InvalidLine")) aNil))) (aCons (mTup (aCons (eC (.str "cell")) (aCons (eExI 4 a d (xn.cls == "InvalidCell")) aNil))) (aCons (mTup (aCons (eC (.str "now")) (aCons (eExI 4 a d (xn.cls == "NotNow")) aNil))) (aCons (mTup (aCons (eC (.str "nothing")) (aCons (eExI 4 a d (xn.cls == "NothingToUndo")) aNil))) aNil)))))
        [s0, s1, s2, s3, .exc a d xn.fs, s5, s6] = some (.nx [s0, s1, s2, s3, .exc a d xn.fs, .own (marksD xn.cls), s6]) := by
      simp only [sSet, mLst, mTup, aCons, eC, aNil, i0]
      simp [setSl, marksD]
    have st2 : sSet 6 (mDat (mCallE 4 xn a d fe_word (aCons (eFz 5) aNil))) [s0, s1, s2, s3, .exc a d xn.fs, .own (marksD xn.cls), s6] = some (.nx [s0, s1, s2, s3, .exc a d xn.fs, .dat (.list (marksD xn.cls)), .dat (wordOf xn.cls)]) := by
      have e1 : aCons (eFz 5) aNil [s0, s1, s2, s3, .exc a d xn.fs, .own (marksD xn.cls), s6] = some ([.list (marksD xn.cls)], [s0, s1, s2, s3, .exc a d xn.fs, .dat (.list (marksD xn.cls)), s6]) := by simp [aCons, eFz, setSl, aNil]
      have e2 := mCallE_ok (xn := xn) (f := fe_word) (y := wordOf xn.cls) (i := 4) (a := a) (d := d) (fs := xn.fs) rfl e1 (by rfl : [s0, s1, s2, s3, .exc a d xn.fs, .dat (.list (marksD xn.cls)), s6][(4 : Nat)]? = some (Sl.exc a d xn.fs)) rfl
      unfold sSet mDat
      rw [e2]
      simp [setSl]
    unfold h_said sSeq
    rw [st1]
    simp only
    rw [st2]
    simp only
    unfold resOf at h1
    split at h1
    · rename_i hc
      cases h1
      have ew : wordOf xn.cls = .str "nothing" := by rw [hc]; kernel_rfl
      rw [ew]
      kernel_rfl
    · split at h1
      · rename_i hc
        obtain ⟨x, ex, e3⟩ := Option.map_eq_some_iff.mp h1
        cases e3
        have e4 := eExF_ok (i := 4) (a := a) (d := d) (ρ := [s0, s1, s2, s3, .exc a d xn.fs, .dat (.list (marksD xn.cls)), .dat (wordOf xn.cls)]) (fs := xn.fs) (f := "given") rfl ex
        have e5 : mT (m2 inD (eVar 6) (mTup (aCons (eC (.str "line")) (aCons (eC (.str "cell")) (aCons (eC (.str "now")) aNil))))) [s0, s1, s2, s3, .exc a d xn.fs, .dat (.list (marksD xn.cls)), .dat (wordOf xn.cls)] = some (true, [s0, s1, s2, s3, .exc a d xn.fs, .dat (.list (marksD xn.cls)), .dat (wordOf xn.cls)]) := by
          rcases hc with h | h | h
          · have ew : wordOf xn.cls = .str "line" := by rw [h]; kernel_rfl
            rw [ew]; kernel_rfl
          · have ew : wordOf xn.cls = .str "cell" := by rw [h]; kernel_rfl
            rw [ew]; kernel_rfl
          · have ew : wordOf xn.cls = .str "now" := by rw [h]; kernel_rfl
            rw [ew]; kernel_rfl
        have e6 : eVar 6 [s0, s1, s2, s3, .exc a d xn.fs, .dat (.list (marksD xn.cls)), .dat (wordOf xn.cls)] = some (wordOf xn.cls, [s0, s1, s2, s3, .exc a d xn.fs, .dat (.list (marksD xn.cls)), .dat (wordOf xn.cls)]) := rfl
        have e7 : mIf (mT (m2 inD (eVar 6) (mTup (aCons (eC (.str "line")) (aCons (eC (.str "cell")) (aCons (eC (.str "now")) aNil)))))) (eExF 4 a d "given") (eC .none) [s0, s1, s2, s3, .exc a d xn.fs, .dat (.list (marksD xn.cls)), .dat (wordOf xn.cls)] = some (x, [s0, s1, s2, s3, .exc a d xn.fs, .dat (.list (marksD xn.cls)), .dat (wordOf xn.cls)]) := by
          unfold mIf
          rw [e5]
          exact e4
        have e8 := aCons_ok e6 (aCons_ok e7 (show aNil _ = some ([], _) from rfl))
        exact sRet_ok (mTup_ok e8)
      · cases h1
  · cases h
def g_said (CC C : Addr) : MS := sTry okc (gb_said CC C) hr_said
def f_said (CC C : Addr) : FSd := runS CC "site" C "past" 4 (g_said CC C)
theorem ok_law_said (G : Gv P w K mg) (x : Exs K mg) (c_law_nip : IF P w K mg base 1 "_law_nip" 1 f_law_nip) (k_say : MetC P w K mg base 8 CC "site" C "say" "past" 1 (fk_say CC C) "line") (c_word : EF P w K mg base okc 1 "_law_word" 1 fe_word)
    {f : Addr} {fd : FuncData} (F : FunD K "_law_said" "_law_said" (defArgs s_law_said) (defBody s_law_said) (defScope s_law_said) [] [] f fd) (hm : mg "_law_said" = some (.ref f)) : SdE P w K mg base 9 "_law_said" CC "site" C "past" (f_said CC C) := by
  obtain ⟨T, hT, hTx⟩ := x.te
  refine ⟨f, fd, ["urn", "console", "line"], fn_said F S_law_said rfl rfl fun cdv A outer s H E hr => ?_, hm, F.kp, F.bindsN fun _ _ _ _ _ _ us hl => match us, hl with | [_, _, _], _ => rfl⟩
  refine dss_one (ds_try (h := h_said) 4 S_law_said.nd ⟨by rfl, by decide, .inl hT⟩ hTx (fun pn xe => ?_) (fun xn D a oe d pn ok hD hz hf => ?_) said_par)
  · exact dssx_cons (dsx_set 3 S_law_said.nd (sex_if (dt_cm (c_eq hr.u) (de_fz (se_callI 0 c_law_nip hr (by decide) (da_cons de_int da_nil))) de_int rfl) (sex_con 1 k_say hr (by decide) (by decide) (da_cons (de_var 2) da_nil) (keeps_cons keeps_var keeps_nil)) (sex_conK 1 k_say hr (by decide) (by decide) (de_var 2) keeps_var)))
      (dssx_of (dss_one (ds_ret (de_ifExp (dt_val (de_isi "str" kit_str (de_var 3) (by rfl) G.b_isinstance (by rfl) G.b_str)) (de_tup (da_cons de_str (da_cons de_non da_nil))) (de_tup (da_cons de_str (da_cons de_non da_nil)))))))
  · have rm := roomH_suite (a := a) (pn := (a, oe) :: pn) hr
    obtain ⟨T1, T2, T3⟩ := x.ec _ _ ok hD
    obtain ⟨D1, m1, k1⟩ := x.isi xn.cls "InvalidLine" D ok (by decide) hD
    obtain ⟨D2, m2, k2⟩ := x.isi xn.cls "InvalidCell" D ok (by decide) hD
    obtain ⟨D3, m3, k3⟩ := x.isi xn.cls "NotNow" D ok (by decide) hD
    obtain ⟨D4, m4, k4⟩ := x.isi xn.cls "NothingToUndo" D ok (by decide) hD
    exact dss_cons (ds_set 5 S_law_said.nd (se_lst (da_cons (de_tup (da_cons de_str (da_cons (de_exI 4 T1 k1 hz.zc hf List.mem_cons_self (pe_glob (v := .ref D1) (by rfl) m1 rfl) (fun _ h => h) (by rfl) G.b_isinstance) da_nil)))
        (da_cons (de_tup (da_cons de_str (da_cons (de_exI 4 T1 k2 hz.zc hf List.mem_cons_self (pe_glob (v := .ref D2) (by rfl) m2 rfl) (fun _ h => h) (by rfl) G.b_isinstance) da_nil)))
        (da_cons (de_tup (da_cons de_str (da_cons (de_exI 4 T1 k3 hz.zc hf List.mem_cons_self (pe_glob (v := .ref D3) (by rfl) m3 rfl) (fun _ h => h) (by rfl) G.b_isinstance) da_nil)))
        (da_cons (de_tup (da_cons de_str (da_cons (de_exI 4 T1 k4 hz.zc hf List.mem_cons_self (pe_glob (v := .ref D4) (by rfl) m4 rfl) (fun _ h => h) (by rfl) G.b_isinstance) da_nil))) da_nil))))))
      (dss_cons (ds_set 6 S_law_said.nd (SE.of (de_callE 4 c_word rm (by decide) (hot_of hz hf) List.mem_cons_self ok hD hz hf (da_cons (de_fzv 5) da_nil))))
      (dss_one (ds_ret (de_tup (da_cons (de_var 6) (da_cons (de_ifExp (dt_in rm.u (de_var 6) (LE.of (de_tup (da_cons de_str (da_cons de_str (da_cons de_str da_nil))))) rfl) (de_exF 4 T1 T2 hz.zc hf List.mem_cons_self) de_non) da_nil))))))
end
end Tx
namespace Tx
open PySem PySem.W PySem.Spec PyProof.Rows L2 C8 Dn Hd
section
variable {P : Program} {w : World} {K : PySem.W.Frag} {mg : Str → Option Value} {base : Heap} {C CC : Addr}
theorem S_law_near : FnScope ["urn", "line", "at", "signs", "found", "sign"] ["urn", "line"] (defScope s_law_near) := fnScope_by (by decide +kernel)
def g_law_near : MS := (sSeq (sSet 2 (mDat (mFz (mCallI 0 f_law_nip (aCons (m1 lenD (eLoc 1)) aNil))))) (sSeq (sSet 3 (mDat (mTup (aCons (eC (.str "0")) (aCons (eC (.str "-")) (aCons (eC (.str " ")) (aCons (eC (.str "a")) (aCons (eC (.str "1")) (aCons (eC (.str "+")) (aCons (eC (.str "	")) (aCons (eC (.str "\n")) (aCons (eC (.str ".")) (aCons (eC (.str ";")) (aCons (eC (.str "")) aNil)))))))))))))) (sSeq (sSet 4 (mLst (aCons (eVar 1) (aCons (m2 addD (eVar 1) (eC (.str " "))) (aCons (m2 addD (eC (.str " ")) (eVar 1)) (aCons (m2 addD (eVar 1) (eC (.str "\n"))) (aCons (m1 upD (eVar 1)) (aCons (m1 (replD " " "  ") (eVar 1)) (aCons (m1 (replD " " "	") (eVar 1)) (aCons (m1 (replD " " ",") (eVar 1)) (aCons (m1 revD (eLoc 1)) (aCons (m2 addD (eVar 1) (eC (.str " 0"))) (aCons (mFz (mLst (aCons (eVar 1) aNil))) (aCons (eC .none) (aCons (eC (.int 4)) aNil))))))))))))))) (sSeq (sSet 4 (mDat (m2 addD (m2 addD (eFz 4) (mFz (mLst (mLC [5] (mItems (eVar 3)) (tgN 5) tAll (m2 addD (m2 addD (mSl (eVar 1) mNoPart (mPart (eVar 2))) (eVar 5)) (mSl (eVar 1) (mPart (eVar 2)) mNoPart)))))) (mFz (mLst (mLC [5] (mItems (eVar 3)) (tgN 5) tAll (m2 addD (m2 addD (mSl (eVar 1) mNoPart (mPart (eVar 2))) (eVar 5)) (mSl (eVar 1) (mPart (m2 addD (eVar 2) (eC (.int 1)))) mNoPart)))))))) (sRet (m2 addD (eFz 4) (mFz (mLst (aCons (m1 (replD "put" "take") (eVar 1)) (aCons (m1 (replD " " " 0") (eVar 1)) (aCons (m1 (replD " " " -") (eVar 1)) (aCons (m1 (replD " 0" " -0") (eVar 1)) (aCons (m1 (replD "1" "01") (eVar 1)) (aCons (m1 (replD " 1" (" 1" ++ Txt.mul "0" 30)) (eVar 1)) (aCons (eC (.str "")) (aCons (mTup (aCons (eVar 1) aNil)) aNil))))))))))))))))
def f_law_near : FI := runI' 4 (g_law_near)
theorem ok_law_near (G : Gv P w K mg) {f : Addr} {fd : FuncData} (F : FunD K "_law_near" "_law_near" (defArgs s_law_near) (defBody s_law_near) (defScope s_law_near) [] [] f fd) (hm : mg "_law_near" = some (.ref f)) (c_law_nip : IF P w K mg base 1 "_law_nip" 1 f_law_nip) : IF P w K mg base 2 "_law_near" 1 (f_law_near) :=
  cal_io F hm S_law_near 1 rfl rfl (fun _ _ _ _ _ _ us hl => match us, hl with | [_, _], _ => rfl) fun cdv A outer s H E hr =>
    (dss_cons (ds_set 2 S_law_near.nd (SE.of (de_fz (se_callI 0 c_law_nip hr (by decide) (da_cons (de_b1 b_len (by rfl) G.b_len bt_len (le_loc 1)) da_nil))))) (dss_tok 3 S_law_near.nd (dek_tupS (da_cons de_str (da_cons de_str (da_cons de_str (da_cons de_str (da_cons de_str (da_cons de_str (da_cons de_str (da_cons de_str (da_cons de_str (da_cons de_str da_nil))))))))))) (dsst_cons (dst_set 4 S_law_near.nd (set_lst (dat_cons (det_of (de_var 1)) (dat_cons (det_of (de_add (de_var 1) de_str)) (dat_cons (det_of (de_add de_str (de_var 1))) (dat_cons (det_of (de_add (de_var 1) de_str)) (dat_cons (det_of (de_upper (de_var 1))) (dat_cons (det_repl (de_var 1)) (dat_cons (det_repl (de_var 1)) (dat_cons (det_repl (de_var 1)) (dat_cons (det_of (de_rev (le_loc 1))) (dat_cons (det_of (de_add (de_var 1) de_str)) (dat_cons (det_of (de_fz (se_lst (da_cons (de_var 1) da_nil)))) (dat_cons (det_of de_non) (dat_cons (det_of de_int) dat_nil))))))))))))))) (dsst_cons (dst_of (ds_set 4 S_law_near.nd (SE.of (de_add (de_add (de_fzv 4) (de_fz (se_lc rfl S_law_near.nd (di_val (de_var 3)) [("sign", 5)] (by rfl) (fun _ _ _ _ _ => (dg_name 5 S_law_near.nd)) (fun _ _ _ _ _ => dts_nil) (fun _ _ _ _ _ => (de_add (de_add (de_slice (de_var 1) do_none (do_some (de_var 2))) (de_var 5)) (de_slice (de_var 1) (do_some (de_var 2)) do_none)))))) (de_fz (se_lc rfl S_law_near.nd (di_val (de_var 3)) [("sign", 5)] (by rfl) (fun _ _ _ _ _ => (dg_name 5 S_law_near.nd)) (fun _ _ _ _ _ => dts_nil) (fun _ _ _ _ _ => (de_add (de_add (de_slice (de_var 1) do_none (do_some (de_var 2))) (de_var 5)) (de_slice (de_var 1) (do_some (de_add (de_var 2) de_int)) do_none))))))))) (dsst_one (dst_ret (det_add (det_of (de_fzv 4)) (det_fz (set_lst (dat_cons (det_repl (de_var 1)) (dat_cons (det_repl (de_var 1)) (dat_cons (det_repl (de_var 1)) (dat_cons (det_repl (de_var 1)) (dat_cons (det_repl (de_var 1)) (dat_cons (det_replM (de_var 1)) (dat_cons (det_of de_str) (dat_cons (det_of (de_tup (da_cons (de_var 1) da_nil))) dat_nil)))))))))))))))))
def fe_init : M PyData := (mTup (aCons (mTup (aCons (mTup (aCons (eVar 1) aNil)) (aCons (mTup aNil) aNil))) aNil))
def gi_Site : PyData → Option PyData := giX f_check_cell fe_init
theorem S_Site_init : FnScope ["self", "cell"] ["self", "cell"] (defScope s_Site_init) := fnScope_by (by decide +kernel)
theorem ok_Site (c_check_cell : XF P w K mg base 5 "check_cell" 1 f_check_cell) (cl : Cls K C) (na : NoAttr K C "past") {f : Addr} {fd : FuncData} (F : FunD K "__init__" "Site.__init__" (defArgs s_Site_init) (defBody s_Site_init) (defScope s_Site_init) [] [] f fd) (M : Mk K C f) (hm : mg "Site" = some (.ref C)) : MkE P w K mg base 6 "Site" C "past" gi_Site :=
  ⟨f, fd, ["self", "cell"], M, hm, fn_init1 F S_Site_init c_check_cell (Nat.le_refl 5) cl na (fun cdv A outer s H E hr => de_tup (da_cons (de_tup (da_cons (de_tup (da_cons (de_var 1) da_nil)) (da_cons (de_tup da_nil) da_nil))) da_nil)) (fun _ _ _ _ _ _ => by rfl) (fun _ _ _ _ _ _ => by first | exact Or.inl rfl | exact Or.inr (Or.inl rfl) | exact Or.inr (Or.inr rfl)) (fun _ _ _ _ _ _ => by first | exact Or.inl rfl | exact Or.inr (Or.inl rfl) | exact Or.inr (Or.inr rfl)) (by decide) (by decide) (by decide) (by decide) (by decide) (fun _ => by rfl) (fun _ => by rfl), F.bindsN fun _ _ _ _ _ _ us hl => match us, hl with | [_, _], _ => rfl⟩
theorem S_Console_init : FnScope ["self", "site"] ["self", "site"] (defScope s_Console_init) := fnScope_by (by decide +kernel)
theorem ok_Console (G : Gv P w K mg) (cl : Cls K CC) (na : NoAttr K CC "site") (ic : InsC K C) (hs : mg "Site" = some (.ref C)) (ne : CC ≠ C) {f : Addr} {fd : FuncData} (F : FunD K "__init__" "Console.__init__" (defArgs s_Console_init) (defBody s_Console_init) (defScope s_Console_init) [] [] f fd) (M : Mk K CC f) (hm : mg "Console" = some (.ref CC)) : MkC P w K mg base 1 "Console" CC "site" C :=
  ⟨f, fd, ["self", "site"], M, hm, fn_init2 (j := 0) F S_Console_init cl na ic G.b_isinstance hs (fun _ _ _ _ _ _ => by rfl) (fun _ _ _ _ _ _ => by rfl) (fun _ _ _ _ _ _ => by first | exact Or.inl rfl | exact Or.inr (Or.inl rfl) | exact Or.inr (Or.inr rfl)) (fun _ _ _ _ _ _ => by first | exact Or.inl rfl | exact Or.inr (Or.inl rfl) | exact Or.inr (Or.inr rfl)) (by decide) (by decide) (by decide) (by decide) (by decide) (fun _ => by rfl), F.bindsN (fun _ _ _ _ _ _ us hl => match us, hl with | [_, _], _ => rfl), ne⟩
theorem S_law_right : FnScope ["urn", "lap", "line", "each", "site", "due", "grown"] ["urn"] (defScope s_law_right) := fnScope_by (by decide +kernel)
def g_law_right (CC C : Addr) : MS := (sSeq (sFor (mRng1 (aCons (eC (.int 10)) aNil)) (tgN 1) (sSeq (sSet 2 (mDat (mFz (mCallI 0 f_law_any_line aNil)))) (sFor (mItems (mFz (mCallI 0 f_law_near (aCons (eVar 2) aNil)))) (tgN 3) (sSeq (sSet 4 (mMake C "past" gi_Site (mTup (aCons (eC (.int 0)) (aCons (eC (.int 0)) aNil))))) (sSeq (sSet 5 (mDat (mFz (mCall f_law_due (aCons (eVar 3) (aCons (mTup (aCons (mTup (aCons (eC (.int 0)) (aCons (eC (.int 0)) aNil))) aNil)) aNil)))))) (sSeq (sIf (tNotM (mT (mFz (mCall f_law_same (aCons (mSaid 0 4 3 C "past" (f_said CC C)) (aCons (eVar 5) aNil)))))) (sRet (eC (.bool false))) sNil) (sSeq (sSet 6 (mDat (mAnd (m2 eqD (eVar 5) (mTup (aCons (eC (.str "told")) (aCons (eC .none) aNil)))) (m2 eqD (m2 ixD (mFz (mCall f_law_form (aCons (eVar 3) aNil))) (eC (.int 0))) (eC (.str "put")))))) (sIf (tNotM (mT (mFz (mCall f_law_same (aCons (eProp 4 kdN C "past" (gAt 0)) (aCons (mIf (mT (eVar 6)) (m1 tupleD (mFz (mSorted (mFz (mLst (aCons (mTup (aCons (eC (.int 0)) (aCons (eC (.int 0)) aNil))) (aCons (m2 ixD (mFz (mCall f_law_form (aCons (eVar 3) aNil))) (eC (.int 1))) aNil))))))) (mTup (aCons (mTup (aCons (eC (.int 0)) (aCons (eC (.int 0)) aNil))) aNil))) aNil)))))) (sRet (eC (.bool false))) sNil)))))))) (sRet (eC (.bool true))))
def f_law_right (CC C : Addr) : FI := runI' 6 (g_law_right CC C)
theorem ok_law_right (G : Gv P w K mg) {f : Addr} {fd : FuncData} (F : FunD K "_law_right" "_law_right" (defArgs s_law_right) (defBody s_law_right) (defScope s_law_right) [] [] f fd) (hm : mg "_law_right" = some (.ref f)) (c_law_any_line : IF P w K mg base 3 "_law_any_line" 0 f_law_any_line) (c_law_near : IF P w K mg base 2 "_law_near" 1 f_law_near) (c_law_due : PF P w K mg base 3 "_law_due" 2 f_law_due) (c_law_same : PF P w K mg base 6 "_law_same" 2 f_law_same) (c_law_form : PF P w K mg base 2 "_law_form" 1 f_law_form) (p_cells : PropE P w K mg base 1 C "cells" "past" (gAt 0)) (k_said : SdE P w K mg base 9 "_law_said" CC "site" C "past" (f_said CC C)) (mk_Console : MkC P w K mg base 1 "Console" CC "site" C) (mk_Site : MkE P w K mg base 6 "Site" C "past" gi_Site) : IF P w K mg base 10 "_law_right" 0 (f_law_right CC C) :=
  cal_io F hm S_law_right 0 rfl rfl (fun _ _ _ _ _ _ us hl => match us, hl with | [_], _ => rfl) fun cdv A outer s H E hr =>
    (dss_cons (ds_for rfl (di_rng1 (by rfl) G.b_range (da_cons de_int da_nil)) (dg_name 1 S_law_right.nd) (dss_cons (ds_set 2 S_law_right.nd (SE.of (de_fz (se_callI 0 c_law_any_line hr (by decide) da_nil)))) (dss_one (ds_for rfl (di_val (de_fz (se_callI 0 c_law_near hr (by decide) (da_cons (de_var 2) da_nil)))) (dg_name 3 S_law_right.nd) (dss_cons (ds_set 4 S_law_right.nd (se_make mk_Site hr (by decide) (de_tup (da_cons de_int (da_cons de_int da_nil))))) (dss_cons (ds_set 5 S_law_right.nd (SE.of (de_fz (se_call c_law_due hr (by decide) (da_cons (de_var 3) (da_cons (de_tup (da_cons (de_tup (da_cons de_int (da_cons de_int da_nil))) da_nil)) da_nil)))))) (dss_cons (ds_if (dt_not (dt_val (de_fz (se_call c_law_same hr (by decide) (da_cons (de_said 0 4 3 k_said mk_Console hr (by decide) (by decide)) (da_cons (de_var 5) da_nil)))))) (dss_one (ds_ret de_bl)) dss_nil) (dss_cons (ds_set 6 S_law_right.nd (SE.of (de_and (de_cm (c_eq hr.u) (de_var 5) (de_tup (da_cons de_str (da_cons de_non da_nil))) rfl) (de_one (de_cm (c_eq hr.u) (de_ix (de_fz (se_call c_law_form hr (by decide) (da_cons (de_var 3) da_nil))) de_int) de_str rfl))))) (dss_one (ds_if (dt_not (dt_val (de_fz (se_call c_law_same hr (by decide) (da_cons (de_prop p_cells (ob_name 4) hr (by decide)) (da_cons (de_ifExp (dt_val (de_var 6)) (de_t1 b_tuple (by rfl) G.b_tuple bt_tuple (LE.of (de_fz (se_sorted rfl (hu32 hr.u) (LE.of (de_fz (se_lst (da_cons (de_tup (da_cons de_int (da_cons de_int da_nil))) (da_cons (de_ix (de_fz (se_call c_law_form hr (by decide) (da_cons (de_var 3) da_nil))) de_int) da_nil))))) (by rfl) G.b_sorted)))) (de_tup (da_cons (de_tup (da_cons de_int (da_cons de_int da_nil))) da_nil))) da_nil)))))) (dss_one (ds_ret de_bl)) dss_nil)))))) PassesOwn.never))) PassesOwn.never) (dss_one (ds_ret de_bl)))
theorem S_law : FnScope ["script", "lap"] ["script"] (defScope s_law) := fnScope_by (by decide +kernel)
def g_law (CC C : Addr) : MS := (sRet (m1 allD (mFz (mLst (mLC [1] (mRng1 (aCons (eC (.int 2)) aNil)) (tgN 1) tAll (mFz (mCallN (f_law_right CC C) (mCallB 0 f_law_urn (aCons (eVar 1) aNil)))))))))
def f_law (CC C : Addr) : FD := runB' 1 (g_law CC C)
theorem fn_law (G : Gv P w K mg) {f : Addr} {fd : FuncData} (F : FunD K "law" "law" (defArgs s_law) (defBody s_law) (defScope s_law) [] [] f fd) (c_law_right : IF P w K mg base 10 "_law_right" 0 (f_law_right CC C)) (c_law_urn : BF P w K mg base 1 "_law_urn" 1 f_law_urn) : FnOk P w K mg base C8.CX0 11 f fd ["script"] (spB ⟨P, w, K⟩ 0 (f_law CC C)) :=
  fn_bor F S_law 0 rfl rfl fun cdv A outer s H E hr =>
    (dss_one (ds_ret (de_b1 (b_all rfl) (by rfl) G.b_all bt_all (LE.of (de_fz (se_lc rfl S_law.nd (di_rng1 (by rfl) G.b_range (da_cons de_int da_nil)) [("lap", 1)] (by rfl) (fun _ _ _ _ _ => (dg_name 1 S_law.nd)) (fun _ _ _ _ _ => dts_nil) (fun _ _ _ _ _ => (de_fz (se_callN c_law_right hr (by decide) (se_callB 0 c_law_urn hr (by decide) (da_cons (de_var 1) da_nil)))))))))))
end
end Tx
namespace Hd
open PySem PySem.Spec PyProof.Rows L2 Tx
abbrev s_InvalidCell_init : Stmt := (clsBody (topS 67)).getD 0 (.Pass ⟨0, 0, 0, 0⟩)
abbrev s_NotNow_init : Stmt := (clsBody (topS 66)).getD 0 (.Pass ⟨0, 0, 0, 0⟩)
abbrev s_InvalidLine_init : Stmt := (clsBody (topS 70)).getD 0 (.Pass ⟨0, 0, 0, 0⟩)
def d_is_whole : He.DefD := ⟨("is_whole", none), "is_whole", "is_whole", defArgs s_is_whole, defBody s_is_whole, defScope s_is_whole, [], []⟩
def d_is_between : He.DefD := ⟨("is_between", none), "is_between", "is_between", defArgs s_is_between, defBody s_is_between, defScope s_is_between, [], []⟩
def d_is_tuple_of : He.DefD := ⟨("is_tuple_of", none), "is_tuple_of", "is_tuple_of", defArgs s_is_tuple_of, defBody s_is_tuple_of, defScope s_is_tuple_of, [], []⟩
def d_are_between : He.DefD := ⟨("are_between", none), "are_between", "are_between", defArgs s_are_between, defBody s_are_between, defScope s_are_between, [], []⟩
def d_are_unlike : He.DefD := ⟨("are_unlike", none), "are_unlike", "are_unlike", defArgs s_are_unlike, defBody s_are_unlike, defScope s_are_unlike, [], []⟩
def d_are_rising : He.DefD := ⟨("are_rising", none), "are_rising", "are_rising", defArgs s_are_rising, defBody s_are_rising, defScope s_are_rising, [], []⟩
def d_is_cell_by : He.DefD := ⟨("is_cell_by", none), "is_cell_by", "is_cell_by", defArgs s_is_cell_by, defBody s_is_cell_by, defScope s_is_cell_by, [], []⟩
def d_are_cells_by : He.DefD := ⟨("are_cells_by", none), "are_cells_by", "are_cells_by", defArgs s_are_cells_by, defBody s_are_cells_by, defScope s_are_cells_by, [], []⟩
def d_put_to : He.DefD := ⟨("put_to", none), "put_to", "put_to", defArgs s_put_to, defBody s_put_to, defScope s_put_to, [], []⟩
def d_least_x : He.DefD := ⟨("least_x", none), "least_x", "least_x", defArgs s_least_x, defBody s_least_x, defScope s_least_x, [], []⟩
def d_least_y : He.DefD := ⟨("least_y", none), "least_y", "least_y", defArgs s_least_y, defBody s_least_y, defScope s_least_y, [], []⟩
def d_beside : He.DefD := ⟨("beside", none), "beside", "beside", defArgs s_beside, defBody s_beside, defScope s_beside, [], []⟩
def d_part_with : He.DefD := ⟨("part_with", none), "part_with", "part_with", defArgs s_part_with, defBody s_part_with, defScope s_part_with, [], []⟩
def d_do_hang_together : He.DefD := ⟨("do_hang_together", none), "do_hang_together", "do_hang_together", defArgs s_do_hang_together, defBody s_do_hang_together, defScope s_do_hang_together, [], []⟩
def d_around : He.DefD := ⟨("around", none), "around", "around", defArgs s_around, defBody s_around, defScope s_around, [], []⟩
def d_holes_by : He.DefD := ⟨("holes_by", none), "holes_by", "holes_by", defArgs s_holes_by, defBody s_holes_by, defScope s_holes_by, [], []⟩
def d_do_touch_at_corner : He.DefD := ⟨("do_touch_at_corner", none), "do_touch_at_corner", "do_touch_at_corner", defArgs s_do_touch_at_corner, defBody s_do_touch_at_corner, defScope s_do_touch_at_corner, [], []⟩
def d_corners_by : He.DefD := ⟨("corners_by", none), "corners_by", "corners_by", defArgs s_corners_by, defBody s_corners_by, defScope s_corners_by, [], []⟩
def d_is_shape_by : He.DefD := ⟨("is_shape_by", none), "is_shape_by", "is_shape_by", defArgs s_is_shape_by, defBody s_is_shape_by, defScope s_is_shape_by, [], []⟩
def d_is_figures : He.DefD := ⟨("is_figures", none), "is_figures", "is_figures", defArgs s_is_figures, defBody s_is_figures, defScope s_is_figures, [], []⟩
def d_is_number_text : He.DefD := ⟨("is_number_text", none), "is_number_text", "is_number_text", defArgs s_is_number_text, defBody s_is_number_text, defScope s_is_number_text, [], []⟩
def d_line_parts : He.DefD := ⟨("line_parts", none), "line_parts", "line_parts", defArgs s_line_parts, defBody s_line_parts, defScope s_line_parts, [], []⟩
def d_yes_or_no : He.DefD := ⟨("yes_or_no", none), "yes_or_no", "yes_or_no", defArgs s_yes_or_no, defBody s_yes_or_no, defScope s_yes_or_no, [], []⟩
def d_lattices_text : He.DefD := ⟨("lattices_text", none), "lattices_text", "lattices_text", defArgs s_lattices_text, defBody s_lattices_text, defScope s_lattices_text, [], []⟩
def d_size_by : He.DefD := ⟨("size_by", none), "size_by", "size_by", defArgs s_size_by, defBody s_size_by, defScope s_size_by, [], []⟩
def d_rest_by : He.DefD := ⟨("rest_by", none), "rest_by", "rest_by", defArgs s_rest_by, defBody s_rest_by, defScope s_rest_by, [], []⟩
def d_fits_by : He.DefD := ⟨("fits_by", none), "fits_by", "fits_by", defArgs s_fits_by, defBody s_fits_by, defScope s_fits_by, [], []⟩
def d_lattices_by : He.DefD := ⟨("lattices_by", none), "lattices_by", "lattices_by", defArgs s_lattices_by, defBody s_lattices_by, defScope s_lattices_by, [], []⟩
def d_fitting_by : He.DefD := ⟨("fitting_by", none), "fitting_by", "fitting_by", defArgs s_fitting_by, defBody s_fitting_by, defScope s_fitting_by, [], []⟩
def d_points_of : He.DefD := ⟨("points_of", none), "points_of", "points_of", defArgs s_points_of, defBody s_points_of, defScope s_points_of, [], []⟩
def d_told_back_by : He.DefD := ⟨("told_back_by", none), "told_back_by", "told_back_by", defArgs s_told_back_by, defBody s_told_back_by, defScope s_told_back_by, [], []⟩
def d_sides_of : He.DefD := ⟨("sides_of", none), "sides_of", "sides_of", defArgs s_sides_of, defBody s_sides_of, defScope s_sides_of, [], []⟩
def d_rim_at : He.DefD := ⟨("rim_at", none), "rim_at", "rim_at", defArgs s_rim_at, defBody s_rim_at, defScope s_rim_at, [], []⟩
def d_rim_by : He.DefD := ⟨("rim_by", none), "rim_by", "rim_by", defArgs s_rim_by, defBody s_rim_by, defScope s_rim_by, [], []⟩
def d_read_from : He.DefD := ⟨("read_from", none), "read_from", "read_from", defArgs s_read_from, defBody s_read_from, defScope s_read_from, [], []⟩
def d_words_of : He.DefD := ⟨("words_of", none), "words_of", "words_of", defArgs s_words_of, defBody s_words_of, defScope s_words_of, [], []⟩
def d_goes_back : He.DefD := ⟨("goes_back", none), "goes_back", "goes_back", defArgs s_goes_back, defBody s_goes_back, defScope s_goes_back, [], []⟩
def d_lengths_of : He.DefD := ⟨("lengths_of", none), "lengths_of", "lengths_of", defArgs s_lengths_of, defBody s_lengths_of, defScope s_lengths_of, [], []⟩
def d_all_parts_by : He.DefD := ⟨("all_parts_by", none), "all_parts_by", "all_parts_by", defArgs s_all_parts_by, defBody s_all_parts_by, defScope s_all_parts_by, [], []⟩
def d_parts_by : He.DefD := ⟨("parts_by", none), "parts_by", "parts_by", defArgs s_parts_by, defBody s_parts_by, defScope s_parts_by, [], []⟩
def d_covers_by : He.DefD := ⟨("covers_by", none), "covers_by", "covers_by", defArgs s_covers_by, defBody s_covers_by, defScope s_covers_by, [], []⟩
def d_check_cell : He.DefD := ⟨("check_cell", none), "check_cell", "check_cell", defArgs s_check_cell, defBody s_check_cell, defScope s_check_cell, [], []⟩
def d_first_broken : He.DefD := ⟨("first_broken", none), "first_broken", "first_broken", defArgs s_first_broken, defBody s_first_broken, defScope s_first_broken, [], []⟩
def d_law_urn : He.DefD := ⟨("_law_urn", none), "_law_urn", "_law_urn", defArgs s_law_urn, defBody s_law_urn, defScope s_law_urn, [], []⟩
def d_law_nip : He.DefD := ⟨("_law_nip", none), "_law_nip", "_law_nip", defArgs s_law_nip, defBody s_law_nip, defScope s_law_nip, [], []⟩
def d_law_any_of : He.DefD := ⟨("_law_any_of", none), "_law_any_of", "_law_any_of", defArgs s_law_any_of, defBody s_law_any_of, defScope s_law_any_of, [], []⟩
def d_law_is_whole : He.DefD := ⟨("_law_is_whole", none), "_law_is_whole", "_law_is_whole", defArgs s_law_is_whole, defBody s_law_is_whole, defScope s_law_is_whole, [], []⟩
def d_law_same : He.DefD := ⟨("_law_same", none), "_law_same", "_law_same", defArgs s_law_same, defBody s_law_same, defScope s_law_same, [], []⟩
def d_law_is_cell : He.DefD := ⟨("_law_is_cell", none), "_law_is_cell", "_law_is_cell", defArgs s_law_is_cell, defBody s_law_is_cell, defScope s_law_is_cell, [], []⟩
def d_law_beside : He.DefD := ⟨("_law_beside", none), "_law_beside", "_law_beside", defArgs s_law_beside, defBody s_law_beside, defScope s_law_beside, [], []⟩
def d_law_word : He.DefD := ⟨("_law_word", none), "_law_word", "_law_word", defArgs s_law_word, defBody s_law_word, defScope s_law_word, [], []⟩
def d_law_number : He.DefD := ⟨("_law_number", none), "_law_number", "_law_number", defArgs s_law_number, defBody s_law_number, defScope s_law_number, [], []⟩
def d_law_form : He.DefD := ⟨("_law_form", none), "_law_form", "_law_form", defArgs s_law_form, defBody s_law_form, defScope s_law_form, [], []⟩
def d_law_due : He.DefD := ⟨("_law_due", none), "_law_due", "_law_due", defArgs s_law_due, defBody s_law_due, defScope s_law_due, [], []⟩
def d_law_said : He.DefD := ⟨("_law_said", none), "_law_said", "_law_said", defArgs s_law_said, defBody s_law_said, defScope s_law_said, [], []⟩
def d_law_any_line : He.DefD := ⟨("_law_any_line", none), "_law_any_line", "_law_any_line", defArgs s_law_any_line, defBody s_law_any_line, defScope s_law_any_line, [], []⟩
def d_law_near : He.DefD := ⟨("_law_near", none), "_law_near", "_law_near", defArgs s_law_near, defBody s_law_near, defScope s_law_near, [], []⟩
def d_law_right : He.DefD := ⟨("_law_right", none), "_law_right", "_law_right", defArgs s_law_right, defBody s_law_right, defScope s_law_right, [], []⟩
def d_law : He.DefD := ⟨("law", none), "law", "law", defArgs s_law, defBody s_law, defScope s_law, [], []⟩
def d_Site_keep : He.DefD := ⟨("Site", some "keep"), "keep", "Site.keep", defArgs s_Site_keep, defBody s_Site_keep, defScope s_Site_keep, [], []⟩
def d_Site_put : He.DefD := ⟨("Site", some "put"), "put", "Site.put", defArgs s_Site_put, defBody s_Site_put, defScope s_Site_put, [], []⟩
def d_Site_take : He.DefD := ⟨("Site", some "take"), "take", "Site.take", defArgs s_Site_take, defBody s_Site_take, defScope s_Site_take, [], []⟩
def d_Site_undo : He.DefD := ⟨("Site", some "undo"), "undo", "Site.undo", defArgs s_Site_undo, defBody s_Site_undo, defScope s_Site_undo, [], []⟩
def d_Console_do : He.DefD := ⟨("Console", some "do"), "do", "Console.do", defArgs s_Console_do, defBody s_Console_do, defScope s_Console_do, [], []⟩
def d_Console_told : He.DefD := ⟨("Console", some "told"), "told", "Console.told", defArgs s_Console_told, defBody s_Console_told, defScope s_Console_told, [], []⟩
def d_Console_say : He.DefD := ⟨("Console", some "say"), "say", "Console.say", defArgs s_Console_say, defBody s_Console_say, defScope s_Console_say, [], []⟩
def d_Site_init : He.DefD := ⟨("Site", some "__init__"), "__init__", "Site.__init__", defArgs s_Site_init, defBody s_Site_init, defScope s_Site_init, [], []⟩
def d_Console_init : He.DefD := ⟨("Console", some "__init__"), "__init__", "Console.__init__", defArgs s_Console_init, defBody s_Console_init, defScope s_Console_init, [], []⟩
def d_InvalidCell_init : He.DefD := ⟨("InvalidCell", some "__init__"), "__init__", "InvalidCell.__init__", defArgs s_InvalidCell_init, defBody s_InvalidCell_init, defScope s_InvalidCell_init, [], []⟩
def d_NotNow_init : He.DefD := ⟨("NotNow", some "__init__"), "__init__", "NotNow.__init__", defArgs s_NotNow_init, defBody s_NotNow_init, defScope s_NotNow_init, [], []⟩
def d_InvalidLine_init : He.DefD := ⟨("InvalidLine", some "__init__"), "__init__", "InvalidLine.__init__", defArgs s_InvalidLine_init, defBody s_InvalidLine_init, defScope s_InvalidLine_init, [], []⟩
def fn : List He.DefD := [d_is_whole, d_is_between, d_is_tuple_of, d_are_between, d_are_unlike, d_are_rising, d_is_cell_by, d_are_cells_by, d_put_to, d_least_x, d_least_y, d_beside, d_part_with, d_do_hang_together, d_around, d_holes_by, d_do_touch_at_corner, d_corners_by, d_is_shape_by, d_is_figures, d_is_number_text, d_line_parts, d_yes_or_no, d_lattices_text, d_size_by, d_rest_by, d_fits_by, d_lattices_by, d_fitting_by, d_points_of, d_told_back_by, d_sides_of, d_rim_at, d_rim_by, d_read_from, d_words_of, d_goes_back, d_lengths_of, d_all_parts_by, d_parts_by, d_covers_by, d_check_cell, d_first_broken, d_law_urn, d_law_nip, d_law_any_of, d_law_is_whole, d_law_same, d_law_is_cell, d_law_beside, d_law_word, d_law_number, d_law_form, d_law_due, d_law_said, d_law_any_line, d_law_near, d_law_right, d_law, d_Site_keep, d_Site_put, d_Site_take, d_Site_undo, d_Console_do, d_Console_told, d_Console_say, d_Site_init, d_Console_init, d_InvalidCell_init, d_NotNow_init, d_InvalidLine_init]
def fa : List He.Fa := [.glo "is_whole", .glo "is_between", .glo "is_tuple_of", .glo "are_between", .glo "are_unlike", .glo "are_rising", .glo "is_cell_by", .glo "are_cells_by", .glo "put_to", .glo "least_x", .glo "least_y", .glo "beside", .glo "part_with", .glo "do_hang_together", .glo "around", .glo "holes_by", .glo "do_touch_at_corner", .glo "corners_by", .glo "is_shape_by", .glo "is_figures", .glo "is_number_text", .glo "line_parts", .glo "yes_or_no", .glo "lattices_text", .glo "size_by", .glo "rest_by", .glo "fits_by", .glo "lattices_by", .glo "fitting_by", .glo "points_of", .glo "told_back_by", .glo "sides_of", .glo "rim_at", .glo "rim_by", .glo "read_from", .glo "words_of", .glo "goes_back", .glo "lengths_of", .glo "all_parts_by", .glo "parts_by", .glo "covers_by", .glo "check_cell", .glo "first_broken", .glo "_law_urn", .glo "_law_nip", .glo "_law_any_of", .glo "_law_is_whole", .glo "_law_same", .glo "_law_is_cell", .glo "_law_beside", .glo "_law_word", .glo "_law_number", .glo "_law_form", .glo "_law_due", .glo "_law_said", .glo "_law_any_line", .glo "_law_near", .glo "_law_right", .glo "law", .glo "Site", .glo "Console", .glo "TileError", .glo "STEPS", .glo "BACK", .glo "InvalidCell", .glo "NotNow", .glo "InvalidLine", .glo "TooMany", .glo "NothingToUndo", .free "abs", .free "all", .free "any", .free "bool", .free "dict", .free "divmod", .free "enumerate", .free "int", .free "isinstance", .free "len", .free "list", .free "max", .free "min", .free "range", .free "sorted", .free "str", .free "sum", .free "tuple", .free "zip", .free "ValueError", .cls "Site", .cls "Console", .noat "Site" "past", .noat "Console" "site", .mkr "Site", .mkr "Console", .meth "Site" "keep", .meth "Site" "put", .meth "Site" "take", .meth "Site" "undo", .meth "Console" "do", .meth "Console" "told", .meth "Console" "say", .meth "InvalidCell" "__init__", .meth "NotNow" "__init__", .meth "InvalidLine" "__init__", .noat "InvalidCell" "given", .noat "NotNow" "given", .noat "InvalidLine" "given", .exc "TooMany", .exc "NothingToUndo"]
def gs : List (Str × PyData) := [("UNDO", (.str "undo")), ("TAKE", (.str "take")), ("PUT", (.str "put")), ("Q", (.int (1))), ("R", (.int (2))), ("P", (.int (0))), ("FIGURES", (.str "0123456789")), ("MINUS", (.str "-")), ("BLANK", (.str " ")), ("PLAIN_WORDS", (.tuple [(.str "undo"), (.str "area"), (.str "shape"), (.str "covers"), (.str "rim"), (.str "lattices")])), ("NONE", (.str "none")), ("SIDES", (.tuple [(.tuple [(.int (1)), (.int (0))]), (.tuple [(.int (0)), (.int (1))]), (.tuple [(.int (-1)), (.int (0))]), (.tuple [(.int (0)), (.int (-1))])])), ("FARTHEST", (.int (99))), ("MOST_CELLS", (.int (16))), ("DONE", (.str "done"))]
def ts : List He.Tab := [((fun K => He.ga K "BACK"), ["e", "n", "w", "s"]), ((fun K => He.ga K "STEPS"), ["e", "n", "w", "s"])]
def pd : List Dn.PrD := [⟨"Site", "cells", "Site.cells", defArgs s_Site_cells, defBody s_Site_cells, defScope s_Site_cells⟩, ⟨"Site", "wishes", "Site.wishes", defArgs s_Site_wishes, defBody s_Site_wishes, defScope s_Site_wishes⟩]
def ex (K : PySem.W.Frag) : Bool := gs.all (Dn.glB K) && (exsB K && ((["InvalidCell", "NotNow", "InvalidLine"] : List Str).all (fun x => Dn.oexB K (He.ga K x)) && (Dn.incB K (He.ga K "Site") && (decide (He.ga K "Console" ≠ He.ga K "Site") && (Dn.tabB K "BACK" t_BACK && Dn.tabB K "STEPS" t_STEPS)))))
abbrev R : PySem.W.OpenRow := PySem.W.OpenLaw.row PySem.Challenge.rw_tileshifts_k87_whole_console_lines_of_an
abbrev hk : PySem.W.Hook := Dn.hookB 5 fa fn ts pd ex
def ob (s : PySem.W.SharedT) : Dn.AlB := Dn.obsBG 5 fa fn ts pd ex (HandSHeadRun.getT s)
theorem ob_eq (s : PySem.W.SharedT) : ob s = hk.obs s.abs := Dn.obsBG_eq (HandSHeadRun.getT_eq s)
def nm0 : List PySem.Str := ["_wall", "is_whole", "is_between", "is_tuple_of", "are_between", "are_unlike", "are_rising", "FARTHEST", "MOST_CELLS", "SIDES", "is_cell_by", "are_cells_by", "put_to", "least_x", "least_y", "beside", "part_with", "do_hang_together", "around", "holes_by", "do_touch_at_corner", "corners_by", "is_shape_by", "FIGURES", "BLANK", "MINUS", "PUT", "TAKE", "PLAIN_WORDS", "NONE"]
def nm1 : List PySem.Str := ["is_figures", "is_number_text", "line_parts", "yes_or_no", "lattices_text", "P", "Q", "R", "size_by", "rest_by", "fits_by", "lattices_by", "fitting_by", "STEPS", "BACK", "points_of", "told_back_by", "sides_of", "rim_at", "rim_by", "read_from", "words_of", "goes_back", "lengths_of", "all_parts_by", "parts_by", "covers_by", "TileError", "NotASite", "NotNow"]
def nm2 : List PySem.Str := ["InvalidCell", "InvalidNumber", "InvalidWish", "InvalidLine", "Broken", "TooMany", "NothingToUndo", "check_cell", "check_number", "COVERS", "WHOLE", "FEW", "SIZES", "LEAST_RIM", "MOST_RIM", "is_wish", "holds_wish", "first_broken", "Site", "UNDO", "DONE", "Console", "_law_urn", "_law_nip", "_law_any_of", "_law_is_whole", "_law_same", "_law_is_cell", "_law_beside", "_law_word"]
def nm3 : List PySem.Str := ["_law_number", "_law_form", "_law_due", "_law_said", "_law_any_line", "_law_near", "_law_right"]
def names : List PySem.Str := nm0 ++ nm1 ++ nm2 ++ nm3
theorem run_t (w : World) (g : String → Bool) : HandSHeadRun.RunEq R (PySem.W.view R.prog [109]) hk ob 6000 names { w with params := { w.params with followText := fun s => bif s == "special-get-raises" then true else g s } } := by
  intro os
  kernel_rfl
theorem run_f (w : World) (g : String → Bool) : HandSHeadRun.RunEq R (PySem.W.view R.prog [109]) hk ob 6000 names { w with params := { w.params with followText := fun s => bif s == "special-get-raises" then false else g s } } := by
  intro os
  kernel_rfl
theorem run (w : World) : HandSHeadRun.RunEq R (PySem.W.view R.prog [109]) hk ob 6000 names w := by
  refine Dn.world_split (C := fun w => HandSHeadRun.RunEq R (PySem.W.view R.prog [109]) hk ob 6000 names w) (fun w g b => ?_) w
  cases b
  · exact run_f w g
  · exact run_t w g
end Hd
namespace Fx
open PySem PySem.W PySem.Spec PyProof.Rows L2 C8 Dn Hd Tx
theorem facts {P : Program} {w : World} {K : PySem.W.Frag} {h : Heap} {mg : Str → Option Value} {f : Addr} (X : K.In h) (G : h.Ns mainGlobals mg) (hfa : mg ("law" : Str) = some (.ref f)) (c : SaysB fa fn ts pd ex w K) :
    ∃ fd : FuncData, (∀ (s : Shared) (v : Value), BindsTo s fd ⟨[v], []⟩ [("script", v)]) ∧ ∀ base : Heap, K.In base → base.Ns mainGlobals mg → FnOk P w K mg base C8.CX0 11 f fd ["script"] (spB ⟨P, w, K⟩ 0 (f_law (He.ga K "Console") (He.ga K "Site"))) := by
  obtain ⟨cg, x1⟩ := He.ba c.ex
  obtain ⟨cx, x2⟩ := He.ba x1
  obtain ⟨co, x3⟩ := He.ba x2
  obtain ⟨ci, x4⟩ := He.ba x3
  obtain ⟨cne, ct⟩ := He.ba x4
  have ctt := ct
  simp only [Bool.and_eq_true] at ctt
  obtain ⟨es_BACK, n_BACK, D_BACK⟩ := c.t.tab 0 (t := ((fun K => He.ga K "BACK"), ["e", "n", "w", "s"])) rfl
  obtain ⟨es_STEPS, n_STEPS, D_STEPS⟩ := c.t.tab 1 (t := ((fun K => He.ga K "STEPS"), ["e", "n", "w", "s"])) rfl
  have G0 : Gv P w K mg := ⟨He.free_ok X G (c.d.fact 69 (f := .free "abs") rfl), He.free_ok X G (c.d.fact 70 (f := .free "all") rfl), He.free_ok X G (c.d.fact 71 (f := .free "any") rfl), He.free_ok X G (c.d.fact 72 (f := .free "bool") rfl), He.free_ok X G (c.d.fact 73 (f := .free "dict") rfl), He.free_ok X G (c.d.fact 74 (f := .free "divmod") rfl), He.free_ok X G (c.d.fact 75 (f := .free "enumerate") rfl), He.free_ok X G (c.d.fact 76 (f := .free "int") rfl), He.free_ok X G (c.d.fact 77 (f := .free "isinstance") rfl), He.free_ok X G (c.d.fact 78 (f := .free "len") rfl), He.free_ok X G (c.d.fact 79 (f := .free "list") rfl), He.free_ok X G (c.d.fact 80 (f := .free "max") rfl), He.free_ok X G (c.d.fact 81 (f := .free "min") rfl), He.free_ok X G (c.d.fact 82 (f := .free "range") rfl), He.free_ok X G (c.d.fact 83 (f := .free "sorted") rfl), He.free_ok X G (c.d.fact 84 (f := .free "str") rfl), He.free_ok X G (c.d.fact 85 (f := .free "sum") rfl), He.free_ok X G (c.d.fact 86 (f := .free "tuple") rfl), He.free_ok X G (c.d.fact 87 (f := .free "zip") rfl), glT_of (He.glo_ok X G (c.d.fact 63 (f := .glo "BACK") rfl)) D_BACK ctt.1, glT_of (He.glo_ok X G (c.d.fact 62 (f := .glo "STEPS") rfl)) D_STEPS ctt.2, glB_ok X G (List.all_eq_true.mp cg ("UNDO", (.str "undo")) (List.mem_of_getElem? (i := 0) rfl)), glB_ok X G (List.all_eq_true.mp cg ("TAKE", (.str "take")) (List.mem_of_getElem? (i := 1) rfl)), glB_ok X G (List.all_eq_true.mp cg ("PUT", (.str "put")) (List.mem_of_getElem? (i := 2) rfl)), glB_ok X G (List.all_eq_true.mp cg ("Q", (.int (1))) (List.mem_of_getElem? (i := 3) rfl)), glB_ok X G (List.all_eq_true.mp cg ("R", (.int (2))) (List.mem_of_getElem? (i := 4) rfl)), glB_ok X G (List.all_eq_true.mp cg ("P", (.int (0))) (List.mem_of_getElem? (i := 5) rfl)), glB_ok X G (List.all_eq_true.mp cg ("FIGURES", (.str "0123456789")) (List.mem_of_getElem? (i := 6) rfl)), glB_ok X G (List.all_eq_true.mp cg ("MINUS", (.str "-")) (List.mem_of_getElem? (i := 7) rfl)), glB_ok X G (List.all_eq_true.mp cg ("BLANK", (.str " ")) (List.mem_of_getElem? (i := 8) rfl)), glB_ok X G (List.all_eq_true.mp cg ("PLAIN_WORDS", (.tuple [(.str "undo"), (.str "area"), (.str "shape"), (.str "covers"), (.str "rim"), (.str "lattices")])) (List.mem_of_getElem? (i := 9) rfl)), glB_ok X G (List.all_eq_true.mp cg ("NONE", (.str "none")) (List.mem_of_getElem? (i := 10) rfl)), glB_ok X G (List.all_eq_true.mp cg ("SIDES", (.tuple [(.tuple [(.int (1)), (.int (0))]), (.tuple [(.int (0)), (.int (1))]), (.tuple [(.int (-1)), (.int (0))]), (.tuple [(.int (0)), (.int (-1))])])) (List.mem_of_getElem? (i := 11) rfl)), glB_ok X G (List.all_eq_true.mp cg ("FARTHEST", (.int (99))) (List.mem_of_getElem? (i := 12) rfl)), glB_ok X G (List.all_eq_true.mp cg ("MOST_CELLS", (.int (16))) (List.mem_of_getElem? (i := 13) rfl)), glB_ok X G (List.all_eq_true.mp cg ("DONE", (.str "done")) (List.mem_of_getElem? (i := 14) rfl))⟩
  obtain ⟨fd_is_whole, F_is_whole⟩ := c.d.def_ 0 (d := d_is_whole) rfl
  obtain ⟨fd_is_between, F_is_between⟩ := c.d.def_ 1 (d := d_is_between) rfl
  obtain ⟨fd_is_tuple_of, F_is_tuple_of⟩ := c.d.def_ 2 (d := d_is_tuple_of) rfl
  obtain ⟨fd_are_between, F_are_between⟩ := c.d.def_ 3 (d := d_are_between) rfl
  obtain ⟨fd_are_unlike, F_are_unlike⟩ := c.d.def_ 4 (d := d_are_unlike) rfl
  obtain ⟨fd_are_rising, F_are_rising⟩ := c.d.def_ 5 (d := d_are_rising) rfl
  obtain ⟨fd_is_cell_by, F_is_cell_by⟩ := c.d.def_ 6 (d := d_is_cell_by) rfl
  obtain ⟨fd_are_cells_by, F_are_cells_by⟩ := c.d.def_ 7 (d := d_are_cells_by) rfl
  obtain ⟨fd_put_to, F_put_to⟩ := c.d.def_ 8 (d := d_put_to) rfl
  obtain ⟨fd_least_x, F_least_x⟩ := c.d.def_ 9 (d := d_least_x) rfl
  obtain ⟨fd_least_y, F_least_y⟩ := c.d.def_ 10 (d := d_least_y) rfl
  obtain ⟨fd_beside, F_beside⟩ := c.d.def_ 11 (d := d_beside) rfl
  obtain ⟨fd_part_with, F_part_with⟩ := c.d.def_ 12 (d := d_part_with) rfl
  obtain ⟨fd_do_hang_together, F_do_hang_together⟩ := c.d.def_ 13 (d := d_do_hang_together) rfl
  obtain ⟨fd_around, F_around⟩ := c.d.def_ 14 (d := d_around) rfl
  obtain ⟨fd_holes_by, F_holes_by⟩ := c.d.def_ 15 (d := d_holes_by) rfl
  obtain ⟨fd_do_touch_at_corner, F_do_touch_at_corner⟩ := c.d.def_ 16 (d := d_do_touch_at_corner) rfl
  obtain ⟨fd_corners_by, F_corners_by⟩ := c.d.def_ 17 (d := d_corners_by) rfl
  obtain ⟨fd_is_shape_by, F_is_shape_by⟩ := c.d.def_ 18 (d := d_is_shape_by) rfl
  obtain ⟨fd_is_figures, F_is_figures⟩ := c.d.def_ 19 (d := d_is_figures) rfl
  obtain ⟨fd_is_number_text, F_is_number_text⟩ := c.d.def_ 20 (d := d_is_number_text) rfl
  obtain ⟨fd_line_parts, F_line_parts⟩ := c.d.def_ 21 (d := d_line_parts) rfl
  obtain ⟨fd_yes_or_no, F_yes_or_no⟩ := c.d.def_ 22 (d := d_yes_or_no) rfl
  obtain ⟨fd_lattices_text, F_lattices_text⟩ := c.d.def_ 23 (d := d_lattices_text) rfl
  obtain ⟨fd_size_by, F_size_by⟩ := c.d.def_ 24 (d := d_size_by) rfl
  obtain ⟨fd_rest_by, F_rest_by⟩ := c.d.def_ 25 (d := d_rest_by) rfl
  obtain ⟨fd_fits_by, F_fits_by⟩ := c.d.def_ 26 (d := d_fits_by) rfl
  obtain ⟨fd_lattices_by, F_lattices_by⟩ := c.d.def_ 27 (d := d_lattices_by) rfl
  obtain ⟨fd_fitting_by, F_fitting_by⟩ := c.d.def_ 28 (d := d_fitting_by) rfl
  obtain ⟨fd_points_of, F_points_of⟩ := c.d.def_ 29 (d := d_points_of) rfl
  obtain ⟨fd_told_back_by, F_told_back_by⟩ := c.d.def_ 30 (d := d_told_back_by) rfl
  obtain ⟨fd_sides_of, F_sides_of⟩ := c.d.def_ 31 (d := d_sides_of) rfl
  obtain ⟨fd_rim_at, F_rim_at⟩ := c.d.def_ 32 (d := d_rim_at) rfl
  obtain ⟨fd_rim_by, F_rim_by⟩ := c.d.def_ 33 (d := d_rim_by) rfl
  obtain ⟨fd_read_from, F_read_from⟩ := c.d.def_ 34 (d := d_read_from) rfl
  obtain ⟨fd_words_of, F_words_of⟩ := c.d.def_ 35 (d := d_words_of) rfl
  obtain ⟨fd_goes_back, F_goes_back⟩ := c.d.def_ 36 (d := d_goes_back) rfl
  obtain ⟨fd_lengths_of, F_lengths_of⟩ := c.d.def_ 37 (d := d_lengths_of) rfl
  obtain ⟨fd_all_parts_by, F_all_parts_by⟩ := c.d.def_ 38 (d := d_all_parts_by) rfl
  obtain ⟨fd_parts_by, F_parts_by⟩ := c.d.def_ 39 (d := d_parts_by) rfl
  obtain ⟨fd_covers_by, F_covers_by⟩ := c.d.def_ 40 (d := d_covers_by) rfl
  obtain ⟨fd_check_cell, F_check_cell⟩ := c.d.def_ 41 (d := d_check_cell) rfl
  obtain ⟨fd_first_broken, F_first_broken⟩ := c.d.def_ 42 (d := d_first_broken) rfl
  obtain ⟨fd_law_urn, F_law_urn⟩ := c.d.def_ 43 (d := d_law_urn) rfl
  obtain ⟨fd_law_nip, F_law_nip⟩ := c.d.def_ 44 (d := d_law_nip) rfl
  obtain ⟨fd_law_any_of, F_law_any_of⟩ := c.d.def_ 45 (d := d_law_any_of) rfl
  obtain ⟨fd_law_is_whole, F_law_is_whole⟩ := c.d.def_ 46 (d := d_law_is_whole) rfl
  obtain ⟨fd_law_same, F_law_same⟩ := c.d.def_ 47 (d := d_law_same) rfl
  obtain ⟨fd_law_is_cell, F_law_is_cell⟩ := c.d.def_ 48 (d := d_law_is_cell) rfl
  obtain ⟨fd_law_beside, F_law_beside⟩ := c.d.def_ 49 (d := d_law_beside) rfl
  obtain ⟨fd_law_word, F_law_word⟩ := c.d.def_ 50 (d := d_law_word) rfl
  obtain ⟨fd_law_number, F_law_number⟩ := c.d.def_ 51 (d := d_law_number) rfl
  obtain ⟨fd_law_form, F_law_form⟩ := c.d.def_ 52 (d := d_law_form) rfl
  obtain ⟨fd_law_due, F_law_due⟩ := c.d.def_ 53 (d := d_law_due) rfl
  obtain ⟨fd_law_said, F_law_said⟩ := c.d.def_ 54 (d := d_law_said) rfl
  obtain ⟨fd_law_any_line, F_law_any_line⟩ := c.d.def_ 55 (d := d_law_any_line) rfl
  obtain ⟨fd_law_near, F_law_near⟩ := c.d.def_ 56 (d := d_law_near) rfl
  obtain ⟨fd_law_right, F_law_right⟩ := c.d.def_ 57 (d := d_law_right) rfl
  obtain ⟨fd_law, F_law⟩ := c.d.def_ 58 (d := d_law) rfl
  obtain ⟨fd_Site_keep, F_Site_keep⟩ := c.d.def_ 59 (d := d_Site_keep) rfl
  obtain ⟨fd_Site_put, F_Site_put⟩ := c.d.def_ 60 (d := d_Site_put) rfl
  obtain ⟨fd_Site_take, F_Site_take⟩ := c.d.def_ 61 (d := d_Site_take) rfl
  obtain ⟨fd_Site_undo, F_Site_undo⟩ := c.d.def_ 62 (d := d_Site_undo) rfl
  obtain ⟨fd_Console_do, F_Console_do⟩ := c.d.def_ 63 (d := d_Console_do) rfl
  obtain ⟨fd_Console_told, F_Console_told⟩ := c.d.def_ 64 (d := d_Console_told) rfl
  obtain ⟨fd_Console_say, F_Console_say⟩ := c.d.def_ 65 (d := d_Console_say) rfl
  obtain ⟨fd_Site_init, F_Site_init⟩ := c.d.def_ 66 (d := d_Site_init) rfl
  obtain ⟨fd_Console_init, F_Console_init⟩ := c.d.def_ 67 (d := d_Console_init) rfl
  obtain ⟨fd_InvalidCell_init, F_InvalidCell_init⟩ := c.d.def_ 68 (d := d_InvalidCell_init) rfl
  obtain ⟨fd_NotNow_init, F_NotNow_init⟩ := c.d.def_ 69 (d := d_NotNow_init) rfl
  obtain ⟨fd_InvalidLine_init, F_InvalidLine_init⟩ := c.d.def_ 70 (d := d_InvalidLine_init) rfl
  have e := hfa.symm.trans (He.glo_ok X G (c.d.fact 58 (f := .glo "law") rfl))
  cases e
  have b := FunD.bindsA (ps := ["script"]) F_law fun _ _ _ _ _ _ us hl => match us, hl with | [_], _ => rfl
  refine ⟨fd_law, fun s v => b s [v] rfl, fun base _ _ => ?_⟩
  have cl := He.cls_ok (c.d.fact 89 (f := .cls "Site") rfl)
  have clC := He.cls_ok (c.d.fact 90 (f := .cls "Console") rfl)
  have na := He.noat_ok (c.d.fact 91 (f := .noat "Site" "past") rfl)
  have naC := He.noat_ok (c.d.fact 92 (f := .noat "Console" "site") rfl)
  obtain ⟨hp_cells, fd_cells, F_cells⟩ := c.pr 0 (d := ⟨"Site", "cells", "Site.cells", defArgs s_Site_cells, defBody s_Site_cells, defScope s_Site_cells⟩) rfl
  have p_cells := ok_Site_cells (P := P) (w := w) (mg := mg) (base := base) cl na F_cells hp_cells
  obtain ⟨hp_wishes, fd_wishes, F_wishes⟩ := c.pr 1 (d := ⟨"Site", "wishes", "Site.wishes", defArgs s_Site_wishes, defBody s_Site_wishes, defScope s_Site_wishes⟩) rfl
  have p_wishes := ok_Site_wishes (P := P) (w := w) (mg := mg) (base := base) cl na F_wishes hp_wishes
  have e_InvalidCell : ExK P w K mg base 1 "InvalidCell" "given" := ⟨_, _, fd_InvalidCell_init, ["self", "given"], (He.glo_ok X G (c.d.fact 64 (f := .glo "InvalidCell") rfl)), oexB_ok (List.all_eq_true.mp co "InvalidCell" (List.mem_of_getElem? (i := 0) rfl)), (He.meth_ok (c.d.fact 102 (f := .meth "InvalidCell" "__init__") rfl)).at_, beq_iff_eq.mp (He.meth_ok (c.d.fact 102 (f := .meth "InvalidCell" "__init__") rfl)).fn, He.noat_ok (c.d.fact 105 (f := .noat "InvalidCell" "given") rfl), fn_init (k := 0) F_InvalidCell_init (fnScope_by (by decide +kernel)) (by first | exact Or.inl rfl | exact Or.inr (Or.inl rfl) | exact Or.inr (Or.inr rfl)) (by first | exact Or.inl rfl | exact Or.inr (Or.inl rfl) | exact Or.inr (Or.inr rfl)) (fun _ => by rfl) (fun _ => by rfl), F_InvalidCell_init.bindsN fun _ _ _ _ _ _ us hl => match us, hl with | [_, _], _ => rfl⟩
  have e_NotNow : ExK P w K mg base 1 "NotNow" "given" := ⟨_, _, fd_NotNow_init, ["self", "given"], (He.glo_ok X G (c.d.fact 65 (f := .glo "NotNow") rfl)), oexB_ok (List.all_eq_true.mp co "NotNow" (List.mem_of_getElem? (i := 1) rfl)), (He.meth_ok (c.d.fact 103 (f := .meth "NotNow" "__init__") rfl)).at_, beq_iff_eq.mp (He.meth_ok (c.d.fact 103 (f := .meth "NotNow" "__init__") rfl)).fn, He.noat_ok (c.d.fact 106 (f := .noat "NotNow" "given") rfl), fn_init (k := 0) F_NotNow_init (fnScope_by (by decide +kernel)) (by first | exact Or.inl rfl | exact Or.inr (Or.inl rfl) | exact Or.inr (Or.inr rfl)) (by first | exact Or.inl rfl | exact Or.inr (Or.inl rfl) | exact Or.inr (Or.inr rfl)) (fun _ => by rfl) (fun _ => by rfl), F_NotNow_init.bindsN fun _ _ _ _ _ _ us hl => match us, hl with | [_, _], _ => rfl⟩
  have e_InvalidLine : ExK P w K mg base 1 "InvalidLine" "given" := ⟨_, _, fd_InvalidLine_init, ["self", "given"], (He.glo_ok X G (c.d.fact 66 (f := .glo "InvalidLine") rfl)), oexB_ok (List.all_eq_true.mp co "InvalidLine" (List.mem_of_getElem? (i := 2) rfl)), (He.meth_ok (c.d.fact 104 (f := .meth "InvalidLine" "__init__") rfl)).at_, beq_iff_eq.mp (He.meth_ok (c.d.fact 104 (f := .meth "InvalidLine" "__init__") rfl)).fn, He.noat_ok (c.d.fact 107 (f := .noat "InvalidLine" "given") rfl), fn_init (k := 0) F_InvalidLine_init (fnScope_by (by decide +kernel)) (by first | exact Or.inl rfl | exact Or.inr (Or.inl rfl) | exact Or.inr (Or.inr rfl)) (by first | exact Or.inl rfl | exact Or.inr (Or.inl rfl) | exact Or.inr (Or.inr rfl)) (fun _ => by rfl) (fun _ => by rfl), F_InvalidLine_init.bindsN fun _ _ _ _ _ _ us hl => match us, hl with | [_, _], _ => rfl⟩
  have z_TooMany : ExZ K mg "TooMany" := ⟨_, (He.glo_ok X G (c.d.fact 67 (f := .glo "TooMany") rfl)), He.exc_ok (c.d.fact 108 (f := .exc "TooMany") rfl)⟩
  have z_NothingToUndo : ExZ K mg "NothingToUndo" := ⟨_, (He.glo_ok X G (c.d.fact 68 (f := .glo "NothingToUndo") rfl)), He.exc_ok (c.d.fact 109 (f := .exc "NothingToUndo") rfl)⟩
  have xs : Exs K mg := exs_of (fun x hx => by
    simp only [okl, List.mem_cons, List.not_mem_nil, or_false] at hx
    rcases hx with rfl | rfl | rfl | rfl
    · exact (He.glo_ok X G (c.d.fact 66 (f := .glo "InvalidLine") rfl))
    · exact (He.glo_ok X G (c.d.fact 64 (f := .glo "InvalidCell") rfl))
    · exact (He.glo_ok X G (c.d.fact 65 (f := .glo "NotNow") rfl))
    · exact (He.glo_ok X G (c.d.fact 68 (f := .glo "NothingToUndo") rfl))) (He.glo_ok X G (c.d.fact 61 (f := .glo "TileError") rfl)) cx
  have c_is_whole := ok_is_whole (w := w) (base := base) G0 F_is_whole (He.glo_ok X G (c.d.fact 0 (f := .glo "is_whole") rfl))
  have c_is_tuple_of := ok_is_tuple_of (w := w) (base := base) G0 F_is_tuple_of (He.glo_ok X G (c.d.fact 2 (f := .glo "is_tuple_of") rfl))
  have c_are_unlike := ok_are_unlike (w := w) (base := base) G0 F_are_unlike (He.glo_ok X G (c.d.fact 4 (f := .glo "are_unlike") rfl))
  have c_are_rising := ok_are_rising (w := w) (base := base) G0 F_are_rising (He.glo_ok X G (c.d.fact 5 (f := .glo "are_rising") rfl))
  have c_put_to := ok_put_to (w := w) (base := base) G0 F_put_to (He.glo_ok X G (c.d.fact 8 (f := .glo "put_to") rfl))
  have c_least_x := ok_least_x (w := w) (base := base) G0 F_least_x (He.glo_ok X G (c.d.fact 9 (f := .glo "least_x") rfl))
  have c_least_y := ok_least_y (w := w) (base := base) G0 F_least_y (He.glo_ok X G (c.d.fact 10 (f := .glo "least_y") rfl))
  have c_do_touch_at_corner := ok_do_touch_at_corner (w := w) (base := base) G0 F_do_touch_at_corner (He.glo_ok X G (c.d.fact 16 (f := .glo "do_touch_at_corner") rfl))
  have c_is_figures := ok_is_figures (w := w) (base := base) G0 F_is_figures (He.glo_ok X G (c.d.fact 19 (f := .glo "is_figures") rfl))
  have c_yes_or_no := ok_yes_or_no (w := w) (base := base) G0 F_yes_or_no (He.glo_ok X G (c.d.fact 22 (f := .glo "yes_or_no") rfl))
  have c_lattices_text := ok_lattices_text (w := w) (base := base) G0 F_lattices_text (He.glo_ok X G (c.d.fact 23 (f := .glo "lattices_text") rfl))
  have c_size_by := ok_size_by (w := w) (base := base) G0 F_size_by (He.glo_ok X G (c.d.fact 24 (f := .glo "size_by") rfl))
  have c_rest_by := ok_rest_by (w := w) (base := base) G0 F_rest_by (He.glo_ok X G (c.d.fact 25 (f := .glo "rest_by") rfl))
  have c_lattices_by := ok_lattices_by (w := w) (base := base) G0 F_lattices_by (He.glo_ok X G (c.d.fact 27 (f := .glo "lattices_by") rfl))
  have c_points_of := ok_points_of (w := w) (base := base) G0 F_points_of (He.glo_ok X G (c.d.fact 29 (f := .glo "points_of") rfl))
  have c_told_back_by := ok_told_back_by (w := w) (base := base) G0 F_told_back_by (He.glo_ok X G (c.d.fact 30 (f := .glo "told_back_by") rfl))
  have c_sides_of := ok_sides_of (w := w) (base := base) G0 F_sides_of (He.glo_ok X G (c.d.fact 31 (f := .glo "sides_of") rfl))
  have c_read_from := ok_read_from (w := w) (base := base) G0 F_read_from (He.glo_ok X G (c.d.fact 34 (f := .glo "read_from") rfl))
  have c_lengths_of := ok_lengths_of (w := w) (base := base) G0 F_lengths_of (He.glo_ok X G (c.d.fact 37 (f := .glo "lengths_of") rfl))
  have c_first_broken := ok_first_broken (w := w) (base := base) G0 F_first_broken (He.glo_ok X G (c.d.fact 42 (f := .glo "first_broken") rfl))
  have c_law_urn := ok_law_urn (w := w) (base := base) G0 F_law_urn (He.glo_ok X G (c.d.fact 43 (f := .glo "_law_urn") rfl))
  have c_law_nip := ok_law_nip (w := w) (base := base) G0 F_law_nip (He.glo_ok X G (c.d.fact 44 (f := .glo "_law_nip") rfl))
  have c_law_is_whole := ok_law_is_whole (w := w) (base := base) G0 F_law_is_whole (He.glo_ok X G (c.d.fact 46 (f := .glo "_law_is_whole") rfl))
  have c_law_beside := ok_law_beside (w := w) (base := base) G0 F_law_beside (He.glo_ok X G (c.d.fact 49 (f := .glo "_law_beside") rfl))
  have c_law_number := ok_law_number (w := w) (base := base) G0 F_law_number (He.glo_ok X G (c.d.fact 51 (f := .glo "_law_number") rfl))
  have c_is_between := ok_is_between (w := w) (base := base) G0 F_is_between (He.glo_ok X G (c.d.fact 1 (f := .glo "is_between") rfl)) c_is_whole
  have c_beside := ok_beside (w := w) (base := base) G0 F_beside (He.glo_ok X G (c.d.fact 11 (f := .glo "beside") rfl)) c_put_to
  have c_around := ok_around (w := w) (base := base) G0 F_around (He.glo_ok X G (c.d.fact 14 (f := .glo "around") rfl)) c_least_x c_least_y
  have c_corners_by := ok_corners_by (w := w) (base := base) G0 F_corners_by (He.glo_ok X G (c.d.fact 17 (f := .glo "corners_by") rfl)) c_do_touch_at_corner
  have c_is_number_text := ok_is_number_text (w := w) (base := base) G0 F_is_number_text (He.glo_ok X G (c.d.fact 20 (f := .glo "is_number_text") rfl)) c_is_figures
  have c_fits_by := ok_fits_by (w := w) (base := base) G0 F_fits_by (He.glo_ok X G (c.d.fact 26 (f := .glo "fits_by") rfl)) c_size_by c_are_unlike c_rest_by
  have c_rim_at := ok_rim_at (w := w) (base := base) G0 F_rim_at (He.glo_ok X G (c.d.fact 32 (f := .glo "rim_at") rfl)) c_sides_of c_points_of
  have c_words_of := ok_words_of (w := w) (base := base) G0 F_words_of (He.glo_ok X G (c.d.fact 35 (f := .glo "words_of") rfl)) c_read_from
  have c_law_any_of := ok_law_any_of (w := w) (base := base) G0 F_law_any_of (He.glo_ok X G (c.d.fact 45 (f := .glo "_law_any_of") rfl)) c_law_nip
  have c_law_is_cell := ok_law_is_cell (w := w) (base := base) G0 F_law_is_cell (He.glo_ok X G (c.d.fact 48 (f := .glo "_law_is_cell") rfl)) c_law_is_whole
  have c_law_form := ok_law_form (w := w) (base := base) G0 F_law_form (He.glo_ok X G (c.d.fact 52 (f := .glo "_law_form") rfl)) c_law_number
  have c_are_between := ok_are_between (w := w) (base := base) G0 F_are_between (He.glo_ok X G (c.d.fact 3 (f := .glo "are_between") rfl)) c_is_tuple_of c_is_between
  have c_part_with := ok_part_with (w := w) (base := base) G0 F_part_with (He.glo_ok X G (c.d.fact 12 (f := .glo "part_with") rfl)) c_beside
  have c_line_parts := ok_line_parts (w := w) (base := base) G0 F_line_parts (He.glo_ok X G (c.d.fact 21 (f := .glo "line_parts") rfl)) c_is_number_text
  have c_fitting_by := ok_fitting_by (w := w) (base := base) G0 F_fitting_by (He.glo_ok X G (c.d.fact 28 (f := .glo "fitting_by") rfl)) c_lattices_by c_fits_by
  have c_rim_by := ok_rim_by (w := w) (base := base) G0 F_rim_by (He.glo_ok X G (c.d.fact 33 (f := .glo "rim_by") rfl)) c_rim_at
  have c_goes_back := ok_goes_back (w := w) (base := base) G0 F_goes_back (He.glo_ok X G (c.d.fact 36 (f := .glo "goes_back") rfl)) c_read_from c_words_of c_told_back_by
  have c_law_due := ok_law_due (w := w) (base := base) G0 F_law_due (He.glo_ok X G (c.d.fact 53 (f := .glo "_law_due") rfl)) c_law_form c_law_is_cell c_law_beside
  have c_law_any_line := ok_law_any_line (w := w) (base := base) G0 F_law_any_line (He.glo_ok X G (c.d.fact 55 (f := .glo "_law_any_line") rfl)) c_law_nip c_law_any_of
  have c_is_cell_by := ok_is_cell_by (w := w) (base := base) G0 F_is_cell_by (He.glo_ok X G (c.d.fact 6 (f := .glo "is_cell_by") rfl)) c_are_between
  have c_do_hang_together := ok_do_hang_together (w := w) (base := base) G0 F_do_hang_together (He.glo_ok X G (c.d.fact 13 (f := .glo "do_hang_together") rfl)) c_part_with
  have c_holes_by := ok_holes_by (w := w) (base := base) G0 F_holes_by (He.glo_ok X G (c.d.fact 15 (f := .glo "holes_by") rfl)) c_around c_part_with
  have c_all_parts_by := ok_all_parts_by (w := w) (base := base) G0 F_all_parts_by (He.glo_ok X G (c.d.fact 38 (f := .glo "all_parts_by") rfl)) c_rim_by c_lengths_of c_goes_back
  have c_are_cells_by := ok_are_cells_by (w := w) (base := base) G0 F_are_cells_by (He.glo_ok X G (c.d.fact 7 (f := .glo "are_cells_by") rfl)) c_is_cell_by c_are_rising
  have c_parts_by := ok_parts_by (w := w) (base := base) G0 F_parts_by (He.glo_ok X G (c.d.fact 39 (f := .glo "parts_by") rfl)) c_all_parts_by
  have c_is_shape_by := ok_is_shape_by (w := w) (base := base) G0 F_is_shape_by (He.glo_ok X G (c.d.fact 18 (f := .glo "is_shape_by") rfl)) c_are_cells_by c_do_hang_together c_holes_by c_corners_by
  have c_covers_by := ok_covers_by (w := w) (base := base) G0 F_covers_by (He.glo_ok X G (c.d.fact 40 (f := .glo "covers_by") rfl)) c_parts_by
  have c_law_same := ok_law_same (w := w) (base := base) G0 F_law_same (He.glo_ok X G (c.d.fact 47 (f := .glo "_law_same") rfl))
  have c_check_cell := ok_check_cell (w := w) (base := base) G0 c_is_cell_by e_InvalidCell F_check_cell (He.glo_ok X G (c.d.fact 41 (f := .glo "check_cell") rfl))
  have m_keep := ok_Site_keep (w := w) (base := base) G0 c_first_broken cl na F_Site_keep (He.meth_ok (c.d.fact 95 (f := .meth "Site" "keep") rfl))
  have m_put := ok_Site_put (w := w) (base := base) G0 c_beside c_check_cell p_cells e_NotNow z_TooMany m_keep p_wishes cl na F_Site_put (He.meth_ok (c.d.fact 96 (f := .meth "Site" "put") rfl))
  have m_take := ok_Site_take (w := w) (base := base) G0 c_do_hang_together c_check_cell p_cells e_NotNow m_keep p_wishes cl na F_Site_take (He.meth_ok (c.d.fact 97 (f := .meth "Site" "take") rfl))
  have m_undo := ok_Site_undo (w := w) (base := base) G0 z_NothingToUndo cl na F_Site_undo (He.meth_ok (c.d.fact 98 (f := .meth "Site" "undo") rfl))
  have k_do := ok_Console_do (C := He.ga K "Site") (w := w) (base := base) G0 m_put m_take m_undo clC naC F_Console_do (He.meth_ok (c.d.fact 99 (f := .meth "Console" "do") rfl))
  have k_told := ok_Console_told (C := He.ga K "Site") (w := w) (base := base) G0 c_is_shape_by c_yes_or_no c_covers_by c_rim_by c_lattices_text c_fitting_by p_cells clC naC F_Console_told (He.meth_ok (c.d.fact 100 (f := .meth "Console" "told") rfl))
  have k_say := ok_Console_say (C := He.ga K "Site") (w := w) (base := base) G0 c_line_parts e_InvalidLine k_do k_told clC naC F_Console_say (He.meth_ok (c.d.fact 101 (f := .meth "Console" "say") rfl))
  have mk_Site := ok_Site (w := w) (base := base) c_check_cell cl na F_Site_init (He.mkr_ok (c.d.fact 93 (f := .mkr "Site") rfl)) (He.glo_ok X G (c.d.fact 59 (f := .glo "Site") rfl))
  have mk_Console := ok_Console (w := w) (base := base) G0 clC naC (incB_ok cl ci) (He.glo_ok X G (c.d.fact 59 (f := .glo "Site") rfl)) (of_decide_eq_true cne) F_Console_init (He.mkr_ok (c.d.fact 94 (f := .mkr "Console") rfl)) (He.glo_ok X G (c.d.fact 60 (f := .glo "Console") rfl))
  have c_word := ok_law_word (P := P) (w := w) (base := base) G0 xs F_law_word (He.glo_ok X G (c.d.fact 50 (f := .glo "_law_word") rfl)) (He.free_ok X G (c.d.fact 88 (f := .free "ValueError") rfl))
  have k_said := ok_law_said (w := w) (base := base) G0 xs c_law_nip k_say c_word F_law_said (He.glo_ok X G (c.d.fact 54 (f := .glo "_law_said") rfl))
  have c_law_near := ok_law_near (w := w) (base := base) G0 F_law_near (He.glo_ok X G (c.d.fact 56 (f := .glo "_law_near") rfl)) c_law_nip
  have c_law_right := ok_law_right (w := w) (base := base) G0 F_law_right (He.glo_ok X G (c.d.fact 57 (f := .glo "_law_right") rfl)) c_law_any_line c_law_near c_law_due c_law_same c_law_form p_cells k_said mk_Console mk_Site
  exact fn_law G0 F_law c_law_right c_law_urn
theorem int_all {Γ : Wd} {H : Hp} : ∀ ns : List Int, DfA Γ H (ns.map V.int) (ns.map PyData.int)
  | [] => .nil
  | n :: ns => .cons (.int n) (int_all ns)
theorem sp_law {Γ : Wd} {H : Hp} {a : Addr} {ns : List Int} {CC C : Addr} (hS : SqL Γ.K H a (ns.map V.int)) (hx : f_law CC C [.list (ns.map PyData.int)] = some (.dat (.bool true))) : spB Γ 0 (f_law CC C) [.ref a] H (fun v _ => v = .bl true) fun _ _ _ => False :=
  ⟨_, [], _, [], _, rfl, .lst hS (int_all ns), .nil, rfl, hx, fun v H' _ r => Df.bl_inv r⟩
end Fx
namespace Mx
open Dn Tx
open PySem (PyData NestedKey Str)
theorem lc_map {vs : List Nat} {gt : PyData → Env → Option Env} {tt : M Bool} {fe : M PyData} {α : Type} (en : α → PyData) (φ : α → PyData) (p : α → Bool) (ρ : Env) : ∀ (l : List α), (∀ a ∈ l, ∃ ρ1 ρ2, gt (en a) ρ = some ρ1 ∧ tt ρ1 = some (p a, ρ2) ∧ (p a = false → wipeE vs ρ2 = some ρ) ∧ (p a = true → ∃ ρ3, fe ρ2 = some (φ a, ρ3) ∧ wipeE vs ρ3 = some ρ)) →
    lcLoop vs gt tt fe (l.map en) ρ = some ((l.filter p).map φ, ρ)
  | [], _ => rfl
  | a :: l, h => by
    obtain ⟨ρ1, ρ2, e1, e2, e3, e4⟩ := h a List.mem_cons_self
    have ih := lc_map en φ p ρ l fun b hb => h b (List.mem_cons_of_mem _ hb)
    rw [List.map_cons, lcLoop]
    simp only [e1, e2]
    cases hp : p a with
    | false =>
      simp only [e3 hp, ih, List.filter_cons, hp, Bool.false_eq_true, if_false]
    | true =>
      obtain ⟨ρ3, e5, e6⟩ := e4 hp
      simp only [e5, e6, ih, List.filter_cons, hp, if_true, List.map_cons]
theorem mLC_eq {vs : List Nat} {fi : M (List PyData)} {gt : PyData → Env → Option Env} {tt : M Bool} {fe : M PyData} {ρ ρ1 ρ2 ρ3 ρ4 : Env} {ds ys : List PyData} (h1 : fi ρ = some (ds, ρ1)) (h2 : wipeE vs ρ1 = some ρ2) (h3 : lcLoop vs gt tt fe ds ρ2 = some (ys, ρ3)) (h4 : restE ρ1 vs ρ3 = some ρ4) (hz : ys.length ≤ 100000) : mLC vs fi gt tt fe ρ = some (ys, ρ4) := by
  unfold mLC
  simp only [h1, h2, h3, h4, hz, if_true]
theorem filter_true {α : Type} (l : List α) : l.filter (fun _ => true) = l := by simp
/-- a comprehension without a test over cells -/
theorem lc_cells {vs : List Nat} {gt : PyData → Env → Option Env} {fe : M PyData} {α : Type} (en : α → PyData) (φ : α → PyData) (ρ : Env) (l : List α) (h : ∀ a ∈ l, ∃ ρ1 ρ3, gt (en a) ρ = some ρ1 ∧ fe ρ1 = some (φ a, ρ3) ∧ wipeE vs ρ3 = some ρ) : lcLoop vs gt tAll fe (l.map en) ρ = some (l.map φ, ρ) := by
  have := lc_map (tt := tAll) en φ (fun _ => true) ρ l (vs := vs) (gt := gt) (fe := fe) fun a ha => by
    obtain ⟨ρ1, ρ3, e1, e2, e3⟩ := h a ha
    exact ⟨ρ1, ρ1, e1, rfl, (fun z => nomatch z), fun _ => ⟨ρ3, e2, e3⟩⟩
  rw [filter_true] at this
  exact this
theorem seq_nx {g h : MS} {ρ ρ1 : Env} {r : Option Out} (h1 : g ρ = some (.nx ρ1)) (h2 : h ρ1 = r) : sSeq g h ρ = r := by
  unfold sSeq; simp only [h1]; exact h2
theorem seq_rt {g h : MS} {ρ ρ1 : Env} {s : Sl} (h1 : g ρ = some (.rt s ρ1)) : sSeq g h ρ = some (.rt s ρ1) := by
  unfold sSeq; simp only [h1]
theorem set_eq {i : Nat} {f : M Sl} {ρ ρ1 ρ2 : Env} {s : Sl} (h1 : f ρ = some (s, ρ1)) (h2 : setSl i s ρ1 = some ρ2) : sSet i f ρ = some (.nx ρ2) := by
  unfold sSet; simp only [h1, h2]
theorem setd_eq {i : Nat} {f : M PyData} {ρ ρ1 ρ2 : Env} {d : PyData} (h1 : f ρ = some (d, ρ1)) (h2 : setSl i (.dat d) ρ1 = some ρ2) : sSet i (mDat f) ρ = some (.nx ρ2) := by
  refine set_eq (s := .dat d) ?_ h2
  unfold mDat; simp only [h1]
theorem if_true' {c : M Bool} {g h : MS} {ρ ρ1 : Env} {r : Option Out} (h1 : c ρ = some (true, ρ1)) (h2 : g ρ1 = r) : sIf c g h ρ = r := by
  unfold sIf; simp only [h1]; exact h2
theorem if_false' {c : M Bool} {g h : MS} {ρ ρ1 : Env} {r : Option Out} (h1 : c ρ = some (false, ρ1)) (h2 : h ρ1 = r) : sIf c g h ρ = r := by
  unfold sIf; simp only [h1]; exact h2
theorem ret_eq {f : M PyData} {ρ ρ1 : Env} {d : PyData} (h1 : f ρ = some (d, ρ1)) : sRet f ρ = some (.rt (.dat d) ρ1) := by
  unfold sRet; simp only [h1]
theorem expr_eq {f : M PyData} {ρ ρ1 : Env} {d : PyData} (h1 : f ρ = some (d, ρ1)) : sExpr f ρ = some (.nx ρ1) := by
  unfold sExpr; simp only [h1]
theorem for_eq {fi : M (List PyData)} {gt : PyData → Env → Option Env} {b : MS} {ρ ρ1 : Env} {ds : List PyData} {r : Option Out} (h1 : fi ρ = some (ds, ρ1)) (h2 : sLoop gt b ds ρ1 = r) : sFor fi gt b ρ = r := by
  unfold sFor; simp only [h1]; exact h2
theorem call_eq {f : FD} {fr : M (List PyData)} {ρ ρ1 : Env} {ds : List PyData} {d : PyData} (h1 : fr ρ = some (ds, ρ1)) (h2 : f ds = some (.dat d)) : mFz (mCall f fr) ρ = some (d, ρ1) := by
  unfold mFz mCall; simp only [h1, h2]
theorem fz_lst {f : M (List PyData)} {ρ ρ1 : Env} {ds : List PyData} (h1 : f ρ = some (ds, ρ1)) : mFz (mLst f) ρ = some (.list ds, ρ1) := by
  unfold mFz mLst; simp only [h1]
theorem m1_eq {g : PyData → Option PyData} {f : M PyData} {ρ ρ1 : Env} {d z : PyData} (h1 : f ρ = some (d, ρ1)) (h2 : g d = some z) : m1 g f ρ = some (z, ρ1) := by
  unfold m1; simp only [h1, h2]
theorem m2_eq {g : PyData → PyData → Option PyData} {fa fb : M PyData} {ρ ρ1 ρ2 : Env} {x y z : PyData} (h1 : fa ρ = some (x, ρ1)) (h2 : fb ρ1 = some (y, ρ2)) (h3 : g x y = some z) : m2 g fa fb ρ = some (z, ρ2) := by
  unfold m2; simp only [h1, h2, h3]
theorem mT_eq {f : M PyData} {ρ ρ1 : Env} {b : Bool} (h1 : f ρ = some (.bool b, ρ1)) : mT f ρ = some (b, ρ1) := by
  unfold mT; simp only [h1]
theorem run_rt {m : Nat} {g : MS} {ds : List PyData} {d : PyData} {ρ : Env} (h : g (ds.map .dat ++ uns m) = some (.rt (.dat d) ρ)) : runP' m g ds = some (.dat d) := by
  unfold runP' clean runP; rw [h]; rfl
theorem run_nx {m : Nat} {g : MS} {ds : List PyData} {ρ : Env} (h : g (ds.map .dat ++ uns m) = some (.nx ρ)) : runP' m g ds = some (.dat .none) := by
  unfold runP' clean runP; rw [h]; rfl
theorem mIf_t {c : M Bool} {fa fb : M PyData} {ρ ρ1 : Env} {r : Option (PyData × Env)} (h1 : c ρ = some (true, ρ1)) (h2 : fa ρ1 = r) : mIf c fa fb ρ = r := by
  unfold mIf; simp only [h1]; exact h2
theorem mIf_f {c : M Bool} {fa fb : M PyData} {ρ ρ1 : Env} {r : Option (PyData × Env)} (h1 : c ρ = some (false, ρ1)) (h2 : fb ρ1 = r) : mIf c fa fb ρ = r := by
  unfold mIf; simp only [h1]; exact h2
theorem tOr_t {fa fb : M Bool} {ρ ρ1 : Env} (h1 : fa ρ = some (true, ρ1)) : tOrM fa fb ρ = some (true, ρ1) := by
  unfold tOrM; simp only [h1]
theorem tOr_f {fa fb : M Bool} {ρ ρ1 : Env} {r : Option (Bool × Env)} (h1 : fa ρ = some (false, ρ1)) (h2 : fb ρ1 = r) : tOrM fa fb ρ = r := by
  unfold tOrM; simp only [h1]; exact h2
theorem tAnd_f {fa fb : M Bool} {ρ ρ1 : Env} (h1 : fa ρ = some (false, ρ1)) : tAndM fa fb ρ = some (false, ρ1) := by
  unfold tAndM; simp only [h1]
theorem tAnd_t {fa fb : M Bool} {ρ ρ1 : Env} {r : Option (Bool × Env)} (h1 : fa ρ = some (true, ρ1)) (h2 : fb ρ1 = r) : tAndM fa fb ρ = r := by
  unfold tAndM; simp only [h1]; exact h2
theorem mOr_f {fa fb : M PyData} {ρ ρ1 : Env} {r : Option (PyData × Env)} (h1 : fa ρ = some (.bool false, ρ1)) (h2 : fb ρ1 = r) : mOr fa fb ρ = r := by
  unfold mOr; simp only [h1]; exact h2
theorem mOr_t {fa fb : M PyData} {ρ ρ1 : Env} (h1 : fa ρ = some (.bool true, ρ1)) : mOr fa fb ρ = some (.bool true, ρ1) := by
  unfold mOr; simp only [h1]
theorem mAnd_t {fa fb : M PyData} {ρ ρ1 : Env} {r : Option (PyData × Env)} (h1 : fa ρ = some (.bool true, ρ1)) (h2 : fb ρ1 = r) : mAnd fa fb ρ = r := by
  unfold mAnd; simp only [h1]; exact h2
theorem mAnd_f {fa fb : M PyData} {ρ ρ1 : Env} (h1 : fa ρ = some (.bool false, ρ1)) : mAnd fa fb ρ = some (.bool false, ρ1) := by
  unfold mAnd; simp only [h1]
theorem items_eq {f : M PyData} {ρ ρ1 : Env} {d : PyData} {ds : List PyData} (h1 : f ρ = some (d, ρ1)) (h2 : itemsD d = some ds) : mItems f ρ = some (ds, ρ1) := by
  unfold mItems; simp only [h1, h2]
theorem aCons_eq {fa : M PyData} {fr : M (List PyData)} {ρ ρ1 ρ2 : Env} {x : PyData} {xs : List PyData} (h1 : fa ρ = some (x, ρ1)) (h2 : fr ρ1 = some (xs, ρ2)) : aCons fa fr ρ = some (x :: xs, ρ2) := by
  unfold aCons; simp only [h1, h2]
theorem tup_eq {fr : M (List PyData)} {ρ ρ1 : Env} {xs : List PyData} (h1 : fr ρ = some (xs, ρ1)) : mTup fr ρ = some (.tuple xs, ρ1) := by
  unfold mTup; simp only [h1]
theorem bools_map {α : Type} (l : List α) (p : α → Bool) : boolsOf (l.map fun a => PyData.bool (p a)) = some (l.map p) := by
  induction l with
  | nil => rfl
  | cons a r ih => simp [boolsOf, ih]
theorem any_map {α : Type} (l : List α) (p : α → Bool) : anyD (.list (l.map fun a => PyData.bool (p a))) = some (.bool (l.any p)) := by
  show (boolsOf _).map _ = _
  rw [bools_map]
  simp
theorem all_map {α : Type} (l : List α) (p : α → Bool) : allD (.list (l.map fun a => PyData.bool (p a))) = some (.bool (l.all p)) := by
  show (boolsOf _).map _ = _
  rw [bools_map]
  simp
abbrev T (cs : List Nat) : Str := ⟨cs.toArray⟩
theorem T_inj {a b : List Nat} : T a = T b ↔ a = b := by
  constructor
  · intro h
    have := congrArg (fun z : Str => z.cps.toList) h
    simpa using this
  · rintro rfl; rfl
theorem T_of (z : Str) : z = T z.cps.toList := by
  obtain ⟨a⟩ := z
  simp
def isDg (c : Nat) : Bool := decide (48 ≤ c ∧ c ≤ 57)
theorem notIn_fig (c : Nat) : notInSD (.str ⟨#[c]⟩) (.str "0123456789") = some (.bool (!isDg c)) := by
  show some (PyData.bool (!(!(PySem.Builtin.Str.occurrences ("0123456789" : Str) ⟨#[c]⟩ 0 ("0123456789" : Str).length 1).isEmpty))) = _
  rw [PySem.StrLaws.found_one]
  have e : ("0123456789" : Str).cps.toList = [48, 49, 50, 51, 52, 53, 54, 55, 56, 57] := by decide +kernel
  rw [e]
  have : decide (c ∈ [48, 49, 50, 51, 52, 53, 54, 55, 56, 57]) = isDg c := by
    unfold isDg
    refine decide_eq_decide.mpr ?_
    simp only [List.mem_cons, List.not_mem_nil, or_false]
    omega
  rw [this]
theorem index_fig (c : Nat) (h : isDg c = true) : indexB ("0123456789" : Str) (.str ⟨#[c]⟩) = some (.int (c - 48 : Nat)) := by
  have h' : 48 ≤ c ∧ c ≤ 57 := of_decide_eq_true h
  have : c = 48 ∨ c = 49 ∨ c = 50 ∨ c = 51 ∨ c = 52 ∨ c = 53 ∨ c = 54 ∨ c = 55 ∨ c = 56 ∨ c = 57 := by omega
  rcases this with rfl | rfl | rfl | rfl | rfl | rfl | rfl | rfl | rfl | rfl <;> kernel_rfl
theorem eqD_T (a b : List Nat) : eqD (.str (T a)) (.str (T b)) = some (.bool (decide (a = b))) := by
  show some (PyData.bool (decide (T a = T b))) = _
  rw [decide_eq_decide.mpr T_inj]
theorem neD_T (a b : List Nat) : neD (.str (T a)) (.str (T b)) = some (.bool (!decide (a = b))) := by
  show some (PyData.bool (!decide (T a = T b))) = _
  rw [decide_eq_decide.mpr T_inj]
theorem s_empty : ("" : Str) = T [] := by decide +kernel
theorem s_zero : ("0" : Str) = T [48] := by decide +kernel
theorem s_minus : ("-" : Str) = T [45] := by decide +kernel
theorem s_mzero : ("-0" : Str) = T [45, 48] := by decide +kernel
theorem ix0_T (c : Nat) (r : List Nat) (h : (c :: r).length ≤ 1000) : ixD (.str (T (c :: r))) (.int 0) = some (.str (T [c])) := by
  have h1 : (T (c :: r)).length ≤ PySem.sizeLine := Nat.le_trans (show (c :: r).length ≤ 1000 from h) (by unfold PySem.sizeLine; decide)
  have h2 : L2.atI (T (c :: r)).cps.toList 0 = some c := by
    show (L2.ixN (c :: r).length 0).bind _ = some c
    have : L2.ixN (c :: r).length 0 = some 0 := by
      unfold L2.ixN
      rw [if_pos (Int.le_refl 0), if_pos (by simp <;> omega)]
      rfl
    rw [this]
    rfl
  show (if (T (c :: r)).length ≤ PySem.sizeLine then (L2.atI (T (c :: r)).cps.toList 0).map fun c => PyData.str ⟨#[c]⟩ else none) = _
  rw [if_pos h1, h2]
  rfl
theorem cutS_1 (cs : List Nat) : L2.cutS (T cs) (some 1) none = T (cs.drop 1) := by
  show T (((cs.drop (HT.sIx cs.length 0 (some ((1 : Nat) : Int)))).take (cs.length - HT.sIx cs.length 0 (some ((1 : Nat) : Int))))) = _
  rw [HT.sIx_nat]
  refine T_inj.mpr ?_
  cases cs with
  | nil => rfl
  | cons c r =>
    have : min 1 (c :: r).length = 1 := by simp <;> omega
    rw [this]
    exact List.take_of_length_le (by simp)
theorem cutS_h (cs : List Nat) : L2.cutS (T cs) none (some 1) = T (cs.take 1) := by
  show T (((cs.drop 0).take (HT.sIx cs.length cs.length (some ((1 : Nat) : Int)) - 0))) = _
  rw [HT.sIx_nat]
  refine T_inj.mpr ?_
  cases cs with
  | nil => rfl
  | cons c r =>
    have : min 1 (c :: r).length = 1 := by simp <;> omega
    rw [this]
    rfl
/-- figures, no nought ahead -/
def figB : List Nat → Bool
  | [] => false
  | c :: r => (c :: r).all isDg && (decide (c :: r = [48]) || !decide (c = 48))
theorem fig_any (cs : List Nat) (h : cs.length ≤ 1000) : m1 anyD (mFz (mLst (mLC [1] (mChars (eVar 0)) (tgN 1) tAll (m2 notInSD (eVar 1) (eC (.str "0123456789")))))) [.dat (.str (T cs)), .un] = some (.bool (cs.any fun c => !isDg c), [.dat (.str (T cs)), .un]) := by
  refine m1_eq (d := .list (cs.map fun c => .bool (!isDg c))) (fz_lst (mLC_eq (ρ1 := [.dat (.str (T cs)), .un]) (ρ2 := [.dat (.str (T cs)), .un]) (ρ3 := [.dat (.str (T cs)), .un]) (ds := cs.map fun c => PyData.str ⟨#[c]⟩) ?_ rfl (lc_cells (fun c => PyData.str ⟨#[c]⟩) (fun c => PyData.bool (!isDg c)) _ cs fun c _ => ⟨[.dat (.str (T cs)), .dat (.str ⟨#[c]⟩)], [.dat (.str (T cs)), .dat (.str ⟨#[c]⟩)], rfl, m2_eq (x := .str ⟨#[c]⟩) (y := .str "0123456789") rfl rfl (notIn_fig c), rfl⟩) rfl (by simpa using Nat.le_trans h (by decide)))) (any_map cs _)
  show some ((T cs).cps.toList.map _, _) = _
  simp
theorem x_is_figures (cs : List Nat) (h : cs.length ≤ 1000) : f_is_figures [.str (T cs)] = some (.dat (.bool (figB cs))) := by
  have e0 : m2 eqD (eVar 0) (eC (.str "")) [.dat (.str (T cs)), .un] = some (.bool (decide (cs = [])), [.dat (.str (T cs)), .un]) := m2_eq rfl rfl (by rw [s_empty]; exact eqD_T cs [])
  have e1 : mT (m1 anyD (mFz (mLst (mLC [1] (mChars (eVar 0)) (tgN 1) tAll (m2 notInSD (eVar 1) (eC (.str "0123456789"))))))) [.dat (.str (T cs)), .un] = some (cs.any fun c => !isDg c, [.dat (.str (T cs)), .un]) := mT_eq (fig_any cs h)
  match cs, h, e0, e1 with
  | [], h, e0, e1 => exact run_rt (m := 1) (ρ := [.dat (.str (T [])), .un]) (seq_rt (if_true' (tOr_t (mT_eq e0)) (ret_eq rfl)))
  | c :: r, h, e0, e1 =>
    have e0' : mT (m2 eqD (eVar 0) (eC (.str ""))) [.dat (.str (T (c :: r))), .un] = some (false, [.dat (.str (T (c :: r))), .un]) := mT_eq e0
    cases ha : (c :: r).any fun c => !isDg c with
    | true =>
      have hb : figB (c :: r) = false := by
        have : (c :: r).all isDg = false := by
          rw [← Bool.not_eq_true]
          intro z
          obtain ⟨x, hx, hn⟩ := List.any_eq_true.mp ha
          rw [List.all_eq_true.mp z x hx] at hn
          cases hn
        show ((c :: r).all isDg && _) = _
        rw [this]; rfl
      rw [hb]
      rw [ha] at e1
      exact run_rt (m := 1) (ρ := [.dat (.str (T (c :: r))), .un]) (seq_rt (if_true' (tOr_f e0' e1) (ret_eq rfl)))
    | false =>
      rw [ha] at e1
      have hall : (c :: r).all isDg = true := by
        refine List.all_eq_true.mpr fun x hx => ?_
        have := List.any_eq_false.mp ha x hx
        simpa using this
      have e2 : m2 eqD (eVar 0) (eC (.str "0")) [.dat (.str (T (c :: r))), .un] = some (.bool (decide (c :: r = [48])), [.dat (.str (T (c :: r))), .un]) := m2_eq rfl rfl (by rw [s_zero]; exact eqD_T _ _)
      have e3 : m2 neD (m2 ixD (eVar 0) (eC (.int 0))) (eC (.str "0")) [.dat (.str (T (c :: r))), .un] = some (.bool (!decide (c = 48)), [.dat (.str (T (c :: r))), .un]) := by
        refine m2_eq (m2_eq rfl rfl (ix0_T c r h)) rfl ?_
        rw [s_zero, neD_T]
        simp
      refine run_rt (m := 1) (ρ := [.dat (.str (T (c :: r))), .un]) (seq_nx (if_false' (tOr_f e0' e1) rfl) (ret_eq (d := .bool (figB (c :: r))) ?_))
      have hf : figB (c :: r) = (decide (c :: r = [48]) || !decide (c = 48)) := by
        show ((c :: r).all isDg && _) = _
        rw [hall]; rfl
      rw [hf]
      cases h8 : decide (c :: r = [48]) with
      | true => rw [h8] at e2; exact mOr_t e2
      | false => rw [h8] at e2; exact mOr_f e2 (by rw [e3]; rfl)
end Mx
namespace Mx
open Dn Tx
open PySem (PyData NestedKey Str)
def numB : List Nat → Bool
  | 45 :: r => figB r && !decide (r = [48])
  | cs => figB cs
def valN : List Nat → Int
  | 45 :: r => -((PySem.NumText.digitsVal r : Nat) : Int)
  | cs => ((PySem.NumText.digitsVal cs : Nat) : Int)
theorem starts_T (cs : List Nat) : startsB (T cs) (.str "-") = some (.bool (decide (cs.head? = some 45))) := by
  show some (PyData.bool (PySem.Txt.startswith (T cs) "-")) = _
  have e : PySem.Txt.startswith (T cs) "-" = decide (cs.head? = some 45) := by
    rw [Bool.eq_iff_iff, decide_eq_true_eq, show ("-" : Str) = ⟨#[45]⟩ from s_minus]
    unfold PySem.Txt.startswith
    rw [Bool.and_eq_true, decide_eq_true_eq, PySem.StrLaws.subAt_one (T cs) 45 0]
    show cs[0]? = some 45 ↔ _
    rw [List.head?_eq_getElem?]
  rw [e]
theorem sl_1 (cs : List Nat) (h : cs.length ≤ 1000) : sliceD (some 1) none (.str (T cs)) = some (.str (T (cs.drop 1))) := by
  show (if (T cs).length ≤ PySem.sizeLine then some (PyData.str (L2.cutS (T cs) (some 1) none)) else none) = _
  have hz : (T cs).length ≤ PySem.sizeLine := Nat.le_trans (show cs.length ≤ 1000 from h) (by unfold PySem.sizeLine; decide)
  rw [if_pos hz, cutS_1]
theorem sl_h (cs : List Nat) (h : cs.length ≤ 1000) : sliceD none (some 1) (.str (T cs)) = some (.str (T (cs.take 1))) := by
  show (if (T cs).length ≤ PySem.sizeLine then some (PyData.str (L2.cutS (T cs) none (some 1))) else none) = _
  have hz : (T cs).length ≤ PySem.sizeLine := Nat.le_trans (show cs.length ≤ 1000 from h) (by unfold PySem.sizeLine; decide)
  rw [if_pos hz, cutS_h]
theorem mSl_eq {fa : M PyData} {fl fu : M (Option Int)} {ρ ρ1 ρ2 ρ3 : Env} {x z : PyData} {lo hi : Option Int} (h1 : fa ρ = some (x, ρ1)) (h2 : fl ρ1 = some (lo, ρ2)) (h3 : fu ρ2 = some (hi, ρ3)) (h4 : sliceD lo hi x = some z) : mSl fa fl fu ρ = some (z, ρ3) := by
  unfold mSl; simp only [h1, h2, h3, h4]
theorem x_is_number (cs : List Nat) (h : cs.length ≤ 1000) : f_is_number_text [.str (T cs)] = some (.dat (.bool (numB cs))) := by
  have e0 : mT (m2 (sOnly startsB) (eVar 0) (eC (.str "-"))) [.dat (.str (T cs))] = some (decide (cs.head? = some 45), [.dat (.str (T cs))]) := mT_eq (m2_eq rfl rfl (starts_T cs))
  refine run_rt (m := 0) (ρ := [.dat (.str (T cs))]) (ret_eq ?_)
  show mIf _ _ _ [Sl.dat (.str (T cs))] = _
  by_cases hc : cs.head? = some 45
  · obtain ⟨r, rfl⟩ : ∃ r, cs = 45 :: r := by
      cases cs with
      | nil => cases hc
      | cons c r => simp at hc; exact ⟨r, by rw [hc]⟩
    rw [decide_eq_true hc] at e0
    refine mIf_t e0 ?_
    have hr : r.length ≤ 1000 := by simp at h; omega
    have e1 : mFz (mCall f_is_figures (aCons (mSl (eVar 0) (mPart (eC (.int 1))) mNoPart) aNil)) [.dat (.str (T (45 :: r)))] = some (.bool (figB r), [.dat (.str (T (45 :: r)))]) :=
      call_eq (ds := [.str (T r)]) (aCons_eq (mSl_eq (lo := some 1) (hi := none) rfl rfl rfl (sl_1 _ h)) rfl) (x_is_figures r hr)
    have e2 : m2 neD (eVar 0) (eC (.str "-0")) [.dat (.str (T (45 :: r)))] = some (.bool (!decide (r = [48])), [.dat (.str (T (45 :: r)))]) := m2_eq rfl rfl (by rw [s_mzero, neD_T]; simp)
    show mAnd _ _ _ = _
    show _ = some (PyData.bool (figB r && !decide (r = [48])), _)
    cases hf : figB r with
    | true => rw [hf] at e1; exact mAnd_t e1 (by rw [e2]; rfl)
    | false => rw [hf] at e1; exact mAnd_f e1
  · rw [decide_eq_false hc] at e0
    have hn : numB cs = figB cs := by
      unfold numB
      split
      · simp at hc
      · rfl
    rw [hn]
    exact mIf_f e0 (call_eq (ds := [.str (T cs)]) rfl (x_is_figures cs h))

def chs (cs : List Nat) : List PyData := cs.map fun c => PyData.str ⟨#[c]⟩
def bodyN : MS := sSet 3 (mDat (m2 addD (m2 mulD (eVar 3) (eC (.int 10))) (m2 (sOnly indexB) (eC (.str "0123456789")) (eVar 2))))
theorem mul_small (a b : Int) (h : -(2 ^ 64) < b ∧ b < 2 ^ 64) : mulD (.int a) (.int b) = some (.int (a * b)) := if_pos (.inr h)
theorem loop_nx {gt : PyData → Env → Option Env} {body : MS} {d : PyData} {ds : List PyData} {ρ ρ1 ρ2 : Env} {r : Option Out} (h1 : gt d ρ = some ρ1) (h2 : body ρ1 = some (.nx ρ2)) (h3 : sLoop gt body ds ρ2 = r) : sLoop gt body (d :: ds) ρ = r := by
  rw [sLoop]
  simp only [h1, h2]
  exact h3
theorem num_turn (a0 a1 a2 : Sl) (c n : Nat) (hd : isDg c = true) : bodyN [a0, a1, .dat (.str ⟨#[c]⟩), .dat (.int n)] = some (.nx [a0, a1, .dat (.str ⟨#[c]⟩), .dat (.int ((n * 10 + (c - 48) : Nat) : Int))]) := by
  refine setd_eq (d := .int ((n * 10 + (c - 48) : Nat) : Int)) (ρ1 := [a0, a1, .dat (.str ⟨#[c]⟩), .dat (.int n)]) (m2_eq (x := .int ((n : Int) * 10)) (y := .int (c - 48 : Nat)) (m2_eq rfl rfl ?_) (m2_eq rfl rfl (index_fig c hd)) ?_) rfl
  · exact mul_small _ _ (by decide)
  · show some (PyData.int ((n : Int) * 10 + ((c - 48 : Nat) : Int))) = _
    rw [Int.natCast_add, Int.natCast_mul]; rfl
theorem num_loop (a0 a1 : Sl) : ∀ (cs : List Nat) (n : Nat) (a2 : Sl), cs.all isDg = true → ∃ a2', sLoop (tgN 2) bodyN (chs cs) [a0, a1, a2, .dat (.int n)] = some (.nx [a0, a1, a2', .dat (.int ((cs.foldl (fun acc c => acc * 10 + (c - 48)) n : Nat) : Int))])
  | [], n, a2, _ => ⟨a2, rfl⟩
  | c :: cs, n, a2, h => by
    rw [List.all_cons, Bool.and_eq_true] at h
    obtain ⟨a2', e⟩ := num_loop a0 a1 cs (n * 10 + (c - 48)) (.dat (.str ⟨#[c]⟩)) h.2
    refine ⟨a2', ?_⟩
    have e1 := num_turn a0 a1 a2 c n h.1
    exact loop_nx (ρ1 := [a0, a1, .dat (.str ⟨#[c]⟩), .dat (.int n)]) rfl e1 e
theorem lay_chs (cs : List Nat) (h : ∀ c ∈ cs, c < 1114112) : PyData.canLayAll0 (chs cs) = true := by
  induction cs with
  | nil => rfl
  | cons a r ih =>
    show (PyData.canLay0 (.str ⟨#[a]⟩) && PyData.canLayAll0 (chs r)) = true
    rw [ih fun c hc => h c (List.mem_cons_of_mem _ hc)]
    have : PyData.canLay0 (.str ⟨#[a]⟩) = true := by
      have := h a List.mem_cons_self
      show (#[a] : Array Nat).all (· < 0x110000) = true
      simpa using this
    rw [this]; rfl
theorem dep_chs (cs : List Nat) : PyData.depthAll (chs cs) = 0 := by
  induction cs with
  | nil => rfl
  | cons a r ih => show max (PyData.depth (.str ⟨#[a]⟩)) (PyData.depthAll (chs r)) = 0; rw [ih]; rfl
theorem ne_nil (cs : List Nat) (h : ∀ c ∈ cs, c < 1114112) : neD (.list (chs cs)) (.list []) = some (.bool (!decide (cs = []))) := by
  have hs : PySem.SeqAt.shaped (.list (chs cs)) = true := by
    unfold PySem.SeqAt.shaped
    have h1 : (PyData.list (chs cs)).canLay0 = true := lay_chs cs h
    have h2 : (PyData.list (chs cs)).depth ≤ 64 := by
      show PyData.depthAll (chs cs) + 1 ≤ 64
      rw [dep_chs]; decide
    simp [h1, h2]
  show (if (PySem.SeqAt.shaped (.list (chs cs)) && PySem.SeqAt.shaped (.list [])) = true then some (PyData.bool (!PyData.eqv (.list (chs cs)) (.list []))) else none) = _
  rw [hs]
  cases cs <;> rfl
/-- the figures that are looked at -/
def figs : List Nat → List Nat
  | 45 :: r => r
  | cs => cs
theorem lc_odd (z F : List Nat) (h : F.length ≤ 1000) (a3 : Sl) : mFz (mLst (mLC [2] (mChars (eVar 1)) (tgN 2) (mT (m2 notInSD (eVar 2) (eC (.str "0123456789")))) (eVar 2))) [.dat (.str (T z)), .dat (.str (T F)), .un, a3] = some (.list (chs (F.filter fun c => !isDg c)), [.dat (.str (T z)), .dat (.str (T F)), .un, a3]) := by
  refine fz_lst (mLC_eq (ρ1 := [.dat (.str (T z)), .dat (.str (T F)), .un, a3]) (ρ2 := [.dat (.str (T z)), .dat (.str (T F)), .un, a3]) (ρ3 := [.dat (.str (T z)), .dat (.str (T F)), .un, a3]) (ds := F.map fun c => PyData.str ⟨#[c]⟩) ?_ rfl (lc_map (fun c => PyData.str ⟨#[c]⟩) (fun c => PyData.str ⟨#[c]⟩) (fun c => !isDg c) _ F fun c _ =>
    ⟨[.dat (.str (T z)), .dat (.str (T F)), .dat (.str ⟨#[c]⟩), a3], [.dat (.str (T z)), .dat (.str (T F)), .dat (.str ⟨#[c]⟩), a3], rfl, mT_eq (m2_eq (x := .str ⟨#[c]⟩) (y := .str "0123456789") rfl rfl (notIn_fig c)), fun _ => rfl, fun _ => ⟨[.dat (.str (T z)), .dat (.str (T F)), .dat (.str ⟨#[c]⟩), a3], rfl, rfl⟩⟩) rfl ?_)
  · show some ((T F).cps.toList.map _, _) = _
    simp
  · show ((F.filter fun c => !isDg c).map _).length ≤ 100000
    rw [List.length_map]
    exact Nat.le_trans (List.length_filter_le _ _) (Nat.le_trans h (by decide))
theorem figs_take (z : List Nat) : (z.take 1 = [45] → figs z = z.drop 1) ∧ (z.take 1 ≠ [45] → figs z = z) := by
  unfold figs
  split
  · exact ⟨fun _ => rfl, fun h => absurd rfl h⟩
  · rename_i hn
    refine ⟨fun h => ?_, fun _ => rfl⟩
    match z, h with
    | [c], h => simp at h; subst h; exact absurd rfl (hn [])
    | c :: d :: r, h => simp at h; subst h; exact absurd rfl (hn (d :: r))
theorem neg_or (z : List Nat) : (∃ r, z = 45 :: r) ∨ (numB z = figB z ∧ figs z = z) := by
  match z with
  | [] => exact .inr ⟨rfl, rfl⟩
  | c :: r =>
    by_cases h : c = 45
    · subst h; exact .inl ⟨r, rfl⟩
    · refine .inr ⟨?_, ?_⟩
      · unfold numB
        split
        · rename_i e; exact absurd (by cases e; rfl) h
        · rfl
      · unfold figs
        split
        · rename_i e; exact absurd (by cases e; rfl) h
        · rfl
theorem num_none (z : List Nat) (h : figs z = [] ∨ (figs z).all isDg = false ∨ ((figs z).head? = some 48 ∧ z ≠ [48])) : numB z = false := by
  rcases neg_or z with ⟨r, rfl⟩ | ⟨e1, e2⟩
  · change (r = [] ∨ r.all isDg = false ∨ (r.head? = some 48 ∧ (45 :: r) ≠ [48])) at h
    show (figB r && !decide (r = [48])) = false
    rcases h with h | h | ⟨h, _⟩
    · subst h; rfl
    · cases r with
      | nil => rfl
      | cons c t =>
        show ((c :: t).all isDg && _ && _) = false
        rw [h]; rfl
    · cases r with
      | nil => cases h
      | cons c t =>
        simp at h
        subst h
        show ((48 :: t).all isDg && (decide (48 :: t = [48]) || !decide ((48 : Nat) = 48)) && !decide (48 :: t = [48])) = false
        cases decide (48 :: t = [48]) <;> simp
  · rw [e1]
    rw [e2] at h
    rcases h with h | h | ⟨h, h2⟩
    · subst h; rfl
    · cases z with
      | nil => rfl
      | cons c t =>
        show ((c :: t).all isDg && _) = false
        rw [h]; rfl
    · cases z with
      | nil => cases h
      | cons c t =>
        simp only [List.head?_cons, Option.some.injEq] at h
        subst h
        show ((48 :: t).all isDg && (decide (48 :: t = [48]) || !decide ((48 : Nat) = 48))) = false
        rw [decide_eq_false h2]
        simp
theorem num_some (z : List Nat) (h1 : figs z ≠ []) (h2 : (figs z).all isDg = true) (h3 : (figs z).head? = some 48 → z = [48]) : numB z = true := by
  rcases neg_or z with ⟨r, rfl⟩ | ⟨e1, e2⟩
  · change r ≠ [] at h1
    change r.all isDg = true at h2
    change r.head? = some 48 → 45 :: r = [48] at h3
    cases r with
    | nil => exact absurd rfl h1
    | cons c t =>
      have hc : c ≠ 48 := fun e => by
        subst e
        have := h3 rfl
        cases this
      show ((c :: t).all isDg && (decide (c :: t = [48]) || !decide (c = 48)) && !decide (c :: t = [48])) = true
      rw [h2, decide_eq_false hc]
      have : decide (c :: t = [48]) = false := decide_eq_false fun e => hc (by cases e; rfl)
      rw [this]; rfl
  · rw [e1]
    rw [e2] at h1 h2 h3
    cases z with
    | nil => exact absurd rfl h1
    | cons c t =>
      show ((c :: t).all isDg && (decide (c :: t = [48]) || !decide (c = 48))) = true
      rw [h2]
      by_cases hc : c = 48
      · rw [decide_eq_true (h3 (by rw [hc]; rfl))]; rfl
      · rw [decide_eq_false hc]; simp
theorem val_eq (z : List Nat) : valN z = if figs z = z then ((PySem.NumText.digitsVal (figs z) : Nat) : Int) else 0 - ((PySem.NumText.digitsVal (figs z) : Nat) : Int) := by
  unfold valN figs
  split
  · rename_i r
    rw [if_neg (fun e => by have := congrArg List.length e; simp at this)]
    omega
  · rw [if_pos rfl]
theorem x_law_number (z : List Nat) (h : z.length ≤ 40) (hc : ∀ c ∈ z, c < 1114112) : f_law_number [.str (T z)] = some (.dat (if numB z = true then .int (valN z) else .none)) := by
  have hz : z.length ≤ 1000 := by omega
  have hF : (figs z).length ≤ 40 := by
    unfold figs
    split
    · simp at h; omega
    · exact h
  have hFc : ∀ c ∈ figs z, c < 1114112 := by
    unfold figs
    split
    · exact fun c hm => hc c (List.mem_cons_of_mem _ hm)
    · exact hc
  have st1 : sSet 1 (mDat (mIf (mT (m2 eqD (mSl (eVar 0) mNoPart (mPart (eC (.int 1)))) (eC (.str "-")))) (mSl (eVar 0) (mPart (eC (.int 1))) mNoPart) (eVar 0))) [.dat (.str (T z)), .un, .un, .un] = some (.nx [.dat (.str (T z)), .dat (.str (T (figs z))), .un, .un]) := by
    have e1 : mT (m2 eqD (mSl (eVar 0) mNoPart (mPart (eC (.int 1)))) (eC (.str "-"))) [.dat (.str (T z)), .un, .un, .un] = some (decide (z.take 1 = [45]), [.dat (.str (T z)), .un, .un, .un]) := mT_eq (m2_eq (mSl_eq (lo := none) (hi := some 1) rfl rfl rfl (sl_h z hz)) rfl (by rw [s_minus]; exact eqD_T _ _))
    refine setd_eq (d := .str (T (figs z))) (ρ1 := [.dat (.str (T z)), .un, .un, .un]) ?_ rfl
    by_cases ht : z.take 1 = [45]
    · rw [decide_eq_true ht] at e1
      refine mIf_t e1 ?_
      rw [(figs_take z).1 ht]
      exact mSl_eq (lo := some 1) (hi := none) rfl rfl rfl (sl_1 z hz)
    · rw [decide_eq_false ht] at e1
      refine mIf_f e1 ?_
      rw [(figs_take z).2 ht]
      rfl
  have t1 : mT (m2 eqD (eVar 1) (eC (.str ""))) [.dat (.str (T z)), .dat (.str (T (figs z))), .un, .un] = some (decide (figs z = []), [.dat (.str (T z)), .dat (.str (T (figs z))), .un, .un]) := mT_eq (m2_eq rfl rfl (by rw [s_empty]; exact eqD_T _ _))
  have t2 : mT (m2 gtD (m1 lenD (eLoc 1)) (eC (.int 40))) [.dat (.str (T z)), .dat (.str (T (figs z))), .un, .un] = some (false, [.dat (.str (T z)), .dat (.str (T (figs z))), .un, .un]) := by
    refine mT_eq (m2_eq (x := .int (figs z).length) (m1_eq rfl ?_) rfl ?_)
    · have hl : (T (figs z)).length ≤ PySem.sizeLine := Nat.le_trans (show (figs z).length ≤ 40 from hF) (by unfold PySem.sizeLine; decide)
      exact if_pos hl
    · show some (PyData.bool (decide ((40 : Int) < ((figs z).length : Int)))) = _
      rw [decide_eq_false (by omega)]
  have t3 : mT (m2 neD (mFz (mLst (mLC [2] (mChars (eVar 1)) (tgN 2) (mT (m2 notInSD (eVar 2) (eC (.str "0123456789")))) (eVar 2)))) (mFz (mLst aNil))) [.dat (.str (T z)), .dat (.str (T (figs z))), .un, .un] = some (!(figs z).all isDg, [.dat (.str (T z)), .dat (.str (T (figs z))), .un, .un]) := by
    refine mT_eq (m2_eq (lc_odd z (figs z) (by omega) .un) rfl ?_)
    rw [ne_nil _ fun c hm => hFc c (List.mem_filter.mp hm).1]
    have : decide ((figs z).filter (fun c => !isDg c) = []) = (figs z).all isDg := by
      rw [Bool.eq_iff_iff, decide_eq_true_eq, List.filter_eq_nil_iff, List.all_eq_true]
      simp
    rw [this]
  have rest := fun (hb : numB z = false) => (by rw [hb]; rfl : (if numB z = true then PyData.int (valN z) else .none) = .none)
  unfold f_law_number
  by_cases h0 : figs z = []
  · rw [rest (num_none z (.inl h0))]
    rw [decide_eq_true h0] at t1
    exact run_rt (m := 3) (ρ := [.dat (.str (T z)), .dat (.str (T (figs z))), .un, .un]) (seq_nx st1 (seq_rt (if_true' (tOr_t t1) (ret_eq rfl))))
  rw [decide_eq_false h0] at t1
  cases ha : (figs z).all isDg with
  | false =>
    rw [rest (num_none z (.inr (.inl ha)))]
    rw [ha] at t3
    exact run_rt (m := 3) (ρ := [.dat (.str (T z)), .dat (.str (T (figs z))), .un, .un]) (seq_nx st1 (seq_rt (if_true' (tOr_f t1 (tOr_f t2 (tOr_t t3))) (ret_eq rfl))))
  | true =>
    rw [ha] at t3
    obtain ⟨c, r, hcr⟩ : ∃ c r, figs z = c :: r := by
      cases e : figs z with
      | nil => exact absurd e h0
      | cons c r => exact ⟨c, r, rfl⟩
    have t4 : tAndM (mT (m2 eqD (m2 ixD (eVar 1) (eC (.int 0))) (eC (.str "0")))) (mT (m2 neD (eVar 0) (eC (.str "0")))) [.dat (.str (T z)), .dat (.str (T (figs z))), .un, .un] = some (decide (c = 48) && !decide (z = [48]), [.dat (.str (T z)), .dat (.str (T (figs z))), .un, .un]) := by
      have e1 : mT (m2 eqD (m2 ixD (eVar 1) (eC (.int 0))) (eC (.str "0"))) [.dat (.str (T z)), .dat (.str (T (figs z))), .un, .un] = some (decide (c = 48), [.dat (.str (T z)), .dat (.str (T (figs z))), .un, .un]) := by
        refine mT_eq (m2_eq (x := .str (T [c])) (m2_eq rfl rfl ?_) rfl ?_)
        · rw [hcr]
          exact ix0_T c r (by rw [hcr] at hF; omega)
        · rw [s_zero, eqD_T]; simp
      have e2 : mT (m2 neD (eVar 0) (eC (.str "0"))) [.dat (.str (T z)), .dat (.str (T (figs z))), .un, .un] = some (!decide (z = [48]), [.dat (.str (T z)), .dat (.str (T (figs z))), .un, .un]) := mT_eq (m2_eq rfl rfl (by rw [s_zero]; exact neD_T _ _))
      by_cases h8 : c = 48
      · rw [decide_eq_true h8] at e1 ⊢
        exact tAnd_t e1 e2
      · rw [decide_eq_false h8] at e1 ⊢
        exact tAnd_f e1
    by_cases h9 : c = 48 ∧ z ≠ [48]
    · rw [rest (num_none z (.inr (.inr ⟨by rw [hcr, h9.1]; rfl, h9.2⟩)))]
      rw [decide_eq_true h9.1, decide_eq_false h9.2] at t4
      exact run_rt (m := 3) (ρ := [.dat (.str (T z)), .dat (.str (T (figs z))), .un, .un]) (seq_nx st1 (seq_rt (if_true' (tOr_f t1 (tOr_f t2 (tOr_f t3 t4))) (ret_eq rfl))))
    · have hb : numB z = true := num_some z h0 ha (fun e => by
        rw [hcr] at e
        simp at e
        exact Classical.byContradiction fun hn => h9 ⟨e, hn⟩)
      have hn : (decide (c = 48) && !decide (z = [48])) = false := by
        cases e1 : decide (c = 48) with
        | false => rfl
        | true =>
          cases e2 : decide (z = [48]) with
          | true => rfl
          | false => exact absurd ⟨of_decide_eq_true e1, of_decide_eq_false e2⟩ h9
      rw [hn] at t4
      obtain ⟨a2', el⟩ := num_loop (.dat (.str (T z))) (.dat (.str (T (figs z)))) (figs z) 0 .un ha
      rw [if_pos hb]
      have e5 : mT (m2 eqD (eVar 1) (eVar 0)) [.dat (.str (T z)), .dat (.str (T (figs z))), a2', .dat (.int ((PySem.NumText.digitsVal (figs z) : Nat) : Int))] = some (decide (figs z = z), [.dat (.str (T z)), .dat (.str (T (figs z))), a2', .dat (.int ((PySem.NumText.digitsVal (figs z) : Nat) : Int))]) := mT_eq (m2_eq rfl rfl (eqD_T _ _))
      refine run_rt (m := 3) (ρ := [.dat (.str (T z)), .dat (.str (T (figs z))), a2', .dat (.int ((PySem.NumText.digitsVal (figs z) : Nat) : Int))]) (seq_nx st1 (seq_nx (if_false' (tOr_f t1 (tOr_f t2 (tOr_f t3 t4))) rfl) (seq_nx (setd_eq rfl rfl) (seq_nx (for_eq (ds := chs (figs z)) ?_ el) (ret_eq ?_)))))
      · show some ((T (figs z)).cps.toList.map _, _) = _
        simp [chs]
      · rw [val_eq z]
        by_cases e6 : figs z = z
        · rw [decide_eq_true e6] at e5
          rw [if_pos e6]
          exact mIf_t e5 rfl
        · rw [decide_eq_false e6] at e5
          rw [if_neg e6]
          exact mIf_f e5 (m2_eq rfl rfl rfl)
end Mx
namespace Mx
open Dn Tx
open PySem (PyData NestedKey Str)
theorem eqD_int (a b : Int) : eqD (.int a) (.int b) = some (.bool (decide (a = b))) := by
  have : PyData.eqv (.int a) (.int b) = decide (a = b) := by
    simp [PyData.eqv]
    by_cases h : a = b <;> simp [h]
  simp [eqD, PySem.SeqAt.shaped, PyData.canLay0, PyData.depth, this]
theorem neD_int (a b : Int) : neD (.int a) (.int b) = some (.bool (!decide (a = b))) := by
  have : PyData.eqv (.int a) (.int b) = decide (a = b) := by
    simp [PyData.eqv]
    by_cases h : a = b <;> simp [h]
  simp [neD, PySem.SeqAt.shaped, PyData.canLay0, PyData.depth, this]
abbrev sT (w : List Nat) : PyData := .str (T w)
def words (L : List Nat) : List (List Nat) := TL.spl [32] 0 [] L
abbrev Ok (L : List Nat) : Prop := ∀ c ∈ L, c < 1114112
theorem spl_in (S : List Nat) : ∀ (L : List Nat) (k : Nat) (acc : List Nat), ∀ w ∈ TL.spl S k acc L, (w.length ≤ acc.length + L.length ∧ ∀ c ∈ w, c ∈ acc ∨ c ∈ L)
  | [], k, acc, w, h => by
    rw [TL.spl_nil] at h
    simp at h
    subst h
    exact ⟨by simp, fun c hc => .inl hc⟩
  | c :: r, 0, acc, w, h => by
    unfold TL.spl at h
    split at h
    · rcases List.mem_cons.mp h with rfl | h
      · exact ⟨by simp, fun c hc => .inl hc⟩
      · obtain ⟨h1, h2⟩ := spl_in S r _ _ w h
        exact ⟨by simp at h1 ⊢; omega, fun c hc => (h2 c hc).elim (fun z => absurd z (by simp)) fun z => .inr (List.mem_cons_of_mem _ z)⟩
    · obtain ⟨h1, h2⟩ := spl_in S r _ _ w h
      refine ⟨by simp at h1 ⊢; omega, fun d hd => ?_⟩
      rcases h2 d hd with z | z
      · rcases List.mem_append.mp z with z | z
        · exact .inl z
        · simp at z; subst z; exact .inr List.mem_cons_self
      · exact .inr (List.mem_cons_of_mem _ z)
  | c :: r, k + 1, acc, w, h => by
    unfold TL.spl at h
    obtain ⟨h1, h2⟩ := spl_in S r _ _ w h
    exact ⟨by simp at h1 ⊢; omega, fun d hd => (h2 d hd).imp id (List.mem_cons_of_mem _)⟩
theorem word_in {L w : List Nat} (h : w ∈ words L) : w.length ≤ L.length ∧ ∀ c ∈ w, c ∈ L := by
  obtain ⟨h1, h2⟩ := spl_in _ _ _ _ _ h
  exact ⟨by simpa using h1, fun c hc => (h2 c hc).elim (fun z => absurd z (by simp)) id⟩
theorem s_blank : (" " : Str) = T [32] := by decide +kernel
theorem split_ev (L : List Nat) (h : L.length ≤ 1000) (s1 s2 s3 : Sl) (ρ : Env) (hr : ρ[(0 : Nat)]? = some (Sl.dat (sT L))) : splitS (eVar 0) (eC (.str " ")) ρ = some (.own ((words L).map sT), ρ) := by
  have e0 : eVar 0 ρ = some (sT L, ρ) := by unfold eVar; rw [hr]
  have hz : (T L).length + 2 ≤ PySem.sizeLine := Nat.le_trans (show L.length + 2 ≤ 1002 by omega) (by unfold PySem.sizeLine; decide)
  unfold splitS
  simp only [e0, eC]
  rw [if_pos ⟨by decide +kernel, hz⟩]
  have : PySem.Txt.split (T L) " " = (words L).map T := by
    rw [s_blank]
    exact SX.split_S (by decide) (by decide)
  rw [this, List.map_map]
  rfl
theorem lay_T (L : List Nat) (h : Ok L) : PyData.canLay0 (sT L) = true := by
  show (L.toArray : Array Nat).all (· < 0x110000) = true
  simp
  exact h
theorem eqv_T (a b : List Nat) : PyData.eqv (sT a) (sT b) = decide (a = b) := by
  show (T a == T b) = _
  rw [Bool.eq_iff_iff, beq_iff_eq, decide_eq_true_eq]
  exact T_inj
theorem inD_T (L : List Nat) (ps : List (List Nat)) (h : Ok L) (hp : ∀ p ∈ ps, Ok p) : inD (sT L) (.tuple (ps.map sT)) = some (.bool (ps.any fun p => decide (p = L))) ∧ notInD (sT L) (.tuple (ps.map sT)) = some (.bool (!(ps.any fun p => decide (p = L)))) := by
  have hl : PyData.canLayAll0 (ps.map sT) = true := by
    induction ps with
    | nil => rfl
    | cons p r ih =>
      show (PyData.canLay0 (sT p) && PyData.canLayAll0 (r.map sT)) = true
      rw [lay_T p (hp p List.mem_cons_self), ih fun q hq => hp q (List.mem_cons_of_mem _ hq)]; rfl
  have hs : PySem.SeqAt.shaped (sT L) = true := by
    unfold PySem.SeqAt.shaped
    rw [lay_T L h]; rfl
  have hb : inB (sT L) (.tuple (ps.map sT)) = some (ps.any fun p => decide (p = L)) := by
    show (if (PySem.SeqAt.shaped (sT L) && PyData.canLayAll0 (ps.map sT)) = true then some ((ps.map sT).any fun z => PyData.eqv z (sT L)) else none) = _
    rw [hs, hl]
    show some _ = _
    rw [List.any_map]
    congr 2
    funext p
    exact eqv_T p L
  unfold inD notInD
  rw [hb]
  exact ⟨rfl, rfl⟩
end Mx
namespace Mx
open Dn Tx
open PySem (PyData NestedKey Str)
def plains : List (List Nat) := [[117, 110, 100, 111], [97, 114, 101, 97], [115, 104, 97, 112, 101], [99, 111, 118, 101, 114, 115], [114, 105, 109], [108, 97, 116, 116, 105, 99, 101, 115]]
def verbs : List (List Nat) := [[112, 117, 116], [116, 97, 107, 101]]
theorem plains_s : [PyData.str "undo", .str "area", .str "shape", .str "covers", .str "rim", .str "lattices"] = plains.map sT := by kernel_rfl
theorem verbs_s : [PyData.str "put", .str "take"] = verbs.map sT := by kernel_rfl
def isPl (L : List Nat) : Bool := plains.any fun p => decide (p = L)
def isVb (L : List Nat) : Bool := verbs.any fun p => decide (p = L)
theorem plains_ok : ∀ p ∈ plains, Ok p := by unfold Ok plains; decide
theorem verbs_ok : ∀ p ∈ verbs, Ok p := by unfold Ok verbs; decide
def num3 : List (List Nat) → PyData
  | [w0, w1, w2] => if isVb w0 = true ∧ numB w1 = true ∧ numB w2 = true then .tuple [sT w0, .tuple [.int (valN w1), .int (valN w2)]] else .none
  | _ => .none
/-- the law's form -/
def formL (L : List Nat) : PyData := if isPl L = true then .tuple [sT L, .none] else num3 (words L)
theorem int_num (z : List Nat) (h : numB z = true) (hl : z.length ≤ 640) : intSD (sT z) = some (.int (valN z)) := by
  have hl' : (T z).length ≤ 640 := hl
  show (if (T z).length ≤ 640 then (PySem.intText? (T z)).map PyData.int else none) = _
  rw [if_pos hl']
  have dg : ∀ cs : List Nat, cs.all isDg = true → PySem.NumText.AllDigits cs := fun cs h c hc => of_decide_eq_true (List.all_eq_true.mp h c hc)
  rcases neg_or z with ⟨r, rfl⟩ | ⟨e1, e2⟩
  · have h' : (figB r && !decide (r = [48])) = true := h
    rw [Bool.and_eq_true] at h'
    obtain ⟨h1, _⟩ := h'
    cases r with
    | nil => cases h1
    | cons c t =>
      have ha : (c :: t).all isDg = true := (Bool.and_eq_true_iff.mp (show ((c :: t).all isDg && _) = true from h1)).1
      rw [PySem.intText_neg (x := T (45 :: c :: t)) (cs := c :: t) rfl (dg _ ha) (by simp) (Nat.le_trans hl' (by decide))]
      rfl
  · rw [e1] at h
    cases z with
    | nil => cases h
    | cons c t =>
      have ha : (c :: t).all isDg = true := (Bool.and_eq_true_iff.mp (show ((c :: t).all isDg && _) = true from h)).1
      rw [PySem.intText_digits (x := T (c :: t)) (dg _ ha) (by simp) (Nat.le_trans hl' (by decide))]
      have : valN (c :: t) = ((PySem.NumText.digitsVal (c :: t) : Nat) : Int) := by rw [val_eq, if_pos e2, e2]
      rw [this]
      rfl
theorem len_ev (ws : List PyData) (i : Nat) (ρ : Env) (h : ρ[i]? = some (Sl.own ws)) : m1 lenD (eLoc i) ρ = some (.int ws.length, ρ) := m1_eq (d := .list ws) (by unfold eLoc; rw [h]) rfl
theorem loc_ev (ws : List PyData) (i : Nat) (j : Int) (d : PyData) (ρ : Env) (h : ρ[i]? = some (Sl.own ws)) (hd : ixD (.list ws) (.int j) = some d) : mLoc2 i ixD (eC (.int j)) ρ = some (d, ρ) := by
  have e : eLoc i ρ = some (.list ws, ρ) := by unfold eLoc; rw [h]
  unfold mLoc2
  simp only [e, eC, hd]
theorem x_law_form (L : List Nat) (h : L.length ≤ 1000) (hc : Ok L) (hw : ∀ w ∈ words L, w.length ≤ 40) : f_law_form [sT L] = some (.dat (formL L)) := by
  have hs := split_ev L h .un .un .un [.dat (sT L), .un, .un, .un] rfl
  have e0 : sIf (tNotM (mT (m1 (isiD "str") (eVar 0)))) (sRet (eC .none)) sNil [.dat (sT L), .un, .un, .un] = some (.nx [.dat (sT L), .un, .un, .un]) := by kernel_rfl
  have e1 : sSet 1 (splitS (eVar 0) (eC (.str " "))) [.dat (sT L), .un, .un, .un] = some (.nx [.dat (sT L), .own ((words L).map sT), .un, .un]) := set_eq hs rfl
  have e2 : mT (m2 inD (eVar 0) (mTup (aCons (eC (.str "undo")) (aCons (eC (.str "area")) (aCons (eC (.str "shape")) (aCons (eC (.str "covers")) (aCons (eC (.str "rim")) (aCons (eC (.str "lattices")) aNil)))))))) [.dat (sT L), .own ((words L).map sT), .un, .un] = some (isPl L, [.dat (sT L), .own ((words L).map sT), .un, .un]) :=
    mT_eq (m2_eq (y := .tuple [PyData.str "undo", .str "area", .str "shape", .str "covers", .str "rim", .str "lattices"]) rfl rfl (by rw [plains_s]; exact (inD_T L plains hc plains_ok).1))
  unfold f_law_form
  cases hp : isPl L with
  | true =>
    rw [hp] at e2
    have : formL L = .tuple [sT L, .none] := if_pos hp
    rw [this]
    exact run_rt (m := 3) (ρ := [.dat (sT L), .own ((words L).map sT), .un, .un]) (seq_nx e0 (seq_nx e1 (seq_rt (if_true' e2 (ret_eq rfl)))))
  | false =>
    rw [hp] at e2
    have hf : formL L = num3 (words L) := if_neg (by rw [hp]; decide)
    rw [hf]
    have e3 : mT (m2 neD (m1 lenD (eLoc 1)) (eC (.int 3))) [.dat (sT L), .own ((words L).map sT), .un, .un] = some (!decide ((words L).length = 3), [.dat (sT L), .own ((words L).map sT), .un, .un]) := by
      refine mT_eq (m2_eq (len_ev _ 1 _ rfl) rfl ?_)
      rw [neD_int]
      congr 3
      refine decide_eq_decide.mpr ?_
      simp
      omega
    by_cases h3 : (words L).length = 3
    · obtain ⟨w0, w1, w2, hW⟩ : ∃ w0 w1 w2, words L = [w0, w1, w2] := by
        match words L, h3 with
        | [a, b, c], _ => exact ⟨a, b, c, rfl⟩
      rw [decide_eq_true h3] at e3
      rw [hW] at e1 e2 e3 hw ⊢
      have i0 := word_in (L := L) (w := w0) (by rw [hW]; simp)
      have i1 := word_in (L := L) (w := w1) (by rw [hW]; simp)
      have i2 := word_in (L := L) (w := w2) (by rw [hW]; simp)
      have o0 : Ok w0 := fun c hm => hc c (i0.2 c hm)
      have e4 : mT (m2 notInD (mLoc2 1 ixD (eC (.int 0))) (mTup (aCons (eC (.str "put")) (aCons (eC (.str "take")) aNil)))) [.dat (sT L), .own ([w0, w1, w2].map sT), .un, .un] = some (!isVb w0, [.dat (sT L), .own ([w0, w1, w2].map sT), .un, .un]) :=
        mT_eq (m2_eq (y := .tuple [PyData.str "put", .str "take"]) (loc_ev _ 1 0 (sT w0) _ rfl rfl) rfl (by rw [verbs_s]; exact (inD_T w0 verbs o0 verbs_ok).2))
      cases hv : isVb w0 with
      | false =>
        rw [hv] at e4
        have : num3 [w0, w1, w2] = .none := if_neg (by rw [hv]; simp)
        rw [this]
        exact run_rt (m := 3) (ρ := [.dat (sT L), .own ([w0, w1, w2].map sT), .un, .un]) (seq_nx e0 (seq_nx e1 (seq_nx (if_false' e2 rfl) (seq_rt (if_true' (tOr_f e3 e4) (ret_eq rfl))))))
      | true =>
        rw [hv] at e4
        have n1 := x_law_number w1 (hw w1 (by simp)) fun c hm => hc c (i1.2 c hm)
        have n2 := x_law_number w2 (hw w2 (by simp)) fun c hm => hc c (i2.2 c hm)
        have c1 : mFz (mCall f_law_number (aCons (mLoc2 1 ixD (eC (.int 1))) aNil)) [.dat (sT L), .own ([w0, w1, w2].map sT), .un, .un] = some (if numB w1 = true then .int (valN w1) else .none, [.dat (sT L), .own ([w0, w1, w2].map sT), .un, .un]) :=
          call_eq (ds := [sT w1]) (aCons_eq (loc_ev _ 1 1 (sT w1) _ rfl rfl) rfl) n1
        have c2 : mFz (mCall f_law_number (aCons (mLoc2 1 ixD (eC (.int 2))) aNil)) [.dat (sT L), .own ([w0, w1, w2].map sT), .un, .un] = some (if numB w2 = true then .int (valN w2) else .none, [.dat (sT L), .own ([w0, w1, w2].map sT), .un, .un]) :=
          call_eq (ds := [sT w2]) (aCons_eq (loc_ev _ 1 2 (sT w2) _ rfl rfl) rfl) n2
        have e5 : sPar 2 3 (mDat (mFz (mCall f_law_number (aCons (mLoc2 1 ixD (eC (.int 1))) aNil)))) (mDat (mFz (mCall f_law_number (aCons (mLoc2 1 ixD (eC (.int 2))) aNil)))) [.dat (sT L), .own ([w0, w1, w2].map sT), .un, .un] =
            some (.nx [.dat (sT L), .own ([w0, w1, w2].map sT), .dat (if numB w1 = true then .int (valN w1) else .none), .dat (if numB w2 = true then .int (valN w2) else .none)]) := by
          unfold sPar mDat
          simp only [c1, c2]
          rfl
        refine run_rt (m := 3) (ρ := [.dat (sT L), .own ([w0, w1, w2].map sT), .dat (if numB w1 = true then .int (valN w1) else .none), .dat (if numB w2 = true then .int (valN w2) else .none)]) (seq_nx e0 (seq_nx e1 (seq_nx (if_false' e2 rfl) (seq_nx (if_false' (tOr_f e3 e4) rfl) (seq_nx e5 (ret_eq ?_))))))
        show mIf _ _ _ _ = some (if isVb w0 = true ∧ numB w1 = true ∧ numB w2 = true then PyData.tuple [sT w0, .tuple [.int (valN w1), .int (valN w2)]] else .none, _)
        rw [hv]
        cases b1 : numB w1 <;> cases b2 : numB w2 <;> kernel_rfl
    · rw [decide_eq_false h3] at e3
      have : num3 (words L) = .none := by
        unfold num3
        split
        · rename_i e; rw [e] at h3; exact absurd rfl h3
        · rfl
      rw [this]
      exact run_rt (m := 3) (ρ := [.dat (sT L), .own ((words L).map sT), .un, .un]) (seq_nx e0 (seq_nx e1 (seq_nx (if_false' e2 rfl) (seq_rt (if_true' (tOr_t e3) (ret_eq rfl))))))
/-- what line_parts gives -/
def partsL (L : List Nat) : List PyData := match formL L with
  | .none => []
  | d => [d]
theorem x_line_parts (L : List Nat) (h : L.length ≤ 600) (hc : Ok L) : f_line_parts [sT L] = some (.dat (.list (partsL L))) := by
  have hL : L.length ≤ 1000 := by omega
  have hs := split_ev L hL .un .un .un [.dat (sT L), .un, .un] rfl
  have e1 : sSet 1 (splitS (eVar 0) (eC (.str " "))) [.dat (sT L), .un, .un] = some (.nx [.dat (sT L), .own ((words L).map sT), .un]) := set_eq hs rfl
  have e2 : mT (m2 inD (eVar 0) (eC (.tuple [(.str "undo"), (.str "area"), (.str "shape"), (.str "covers"), (.str "rim"), (.str "lattices")]))) [.dat (sT L), .un, .un] = some (isPl L, [.dat (sT L), .un, .un]) :=
    mT_eq (m2_eq rfl rfl (by rw [plains_s]; exact (inD_T L plains hc plains_ok).1))
  unfold f_line_parts
  cases hp : isPl L with
  | true =>
    rw [hp] at e2
    have : partsL L = [.tuple [sT L, .none]] := by
      unfold partsL
      rw [show formL L = .tuple [sT L, .none] from if_pos hp]
    rw [this]
    exact run_rt (m := 2) (ρ := [.dat (sT L), .un, .un]) (seq_rt (if_true' e2 (ret_eq rfl)))
  | false =>
    rw [hp] at e2
    have hf : formL L = num3 (words L) := if_neg (by rw [hp]; decide)
    have e3 : mT (m2 neD (m1 lenD (eLoc 1)) (eC (.int 3))) [.dat (sT L), .own ((words L).map sT), .un] = some (!decide ((words L).length = 3), [.dat (sT L), .own ((words L).map sT), .un]) := by
      refine mT_eq (m2_eq (len_ev _ 1 _ rfl) rfl ?_)
      rw [neD_int]
      congr 3
      refine decide_eq_decide.mpr ?_
      simp
      omega
    by_cases h3 : (words L).length = 3
    · obtain ⟨w0, w1, w2, hW⟩ : ∃ w0 w1 w2, words L = [w0, w1, w2] := by
        match words L, h3 with
        | [a, b, c], _ => exact ⟨a, b, c, rfl⟩
      rw [decide_eq_true h3] at e3
      have i0 := word_in (L := L) (w := w0) (by rw [hW]; simp)
      have i1 := word_in (L := L) (w := w1) (by rw [hW]; simp)
      have i2 := word_in (L := L) (w := w2) (by rw [hW]; simp)
      unfold partsL
      rw [hf]
      rw [hW] at e1 e3 ⊢
      have o0 : Ok w0 := fun c hm => hc c (i0.2 c hm)
      have e4 : mT (m2 notInD (mLoc2 1 ixD (eC (.int 0))) (mTup (aCons (eC (.str "put")) (aCons (eC (.str "take")) aNil)))) [.dat (sT L), .own ([w0, w1, w2].map sT), .un] = some (!isVb w0, [.dat (sT L), .own ([w0, w1, w2].map sT), .un]) :=
        mT_eq (m2_eq (y := .tuple [PyData.str "put", .str "take"]) (loc_ev _ 1 0 (sT w0) _ rfl rfl) rfl (by rw [verbs_s]; exact (inD_T w0 verbs o0 verbs_ok).2))
      cases hv : isVb w0 with
      | false =>
        rw [hv] at e4
        have : num3 [w0, w1, w2] = .none := if_neg (by rw [hv]; simp)
        rw [this]
        exact run_rt (m := 2) (ρ := [.dat (sT L), .own ([w0, w1, w2].map sT), .un]) (seq_nx (if_false' e2 rfl) (seq_nx e1 (seq_rt (if_true' (tOr_f e3 (tOr_t e4)) (ret_eq rfl)))))
      | true =>
        rw [hv] at e4
        have e5 : tNotM (mT (m1 allD (mFz (mLst (mLC [2] (mItems (mSlN 1 (mPart (eC (.int 1))) mNoPart)) (tgN 2) tAll (mFz (mCall f_is_number_text (aCons (eVar 2) aNil)))))))) [.dat (sT L), .own ([w0, w1, w2].map sT), .un] = some (!([w1, w2].all numB), [.dat (sT L), .own ([w0, w1, w2].map sT), .un]) := by
          have e6 : m1 allD (mFz (mLst (mLC [2] (mItems (mSlN 1 (mPart (eC (.int 1))) mNoPart)) (tgN 2) tAll (mFz (mCall f_is_number_text (aCons (eVar 2) aNil)))))) [.dat (sT L), .own ([w0, w1, w2].map sT), .un] = some (.bool ([w1, w2].all numB), [.dat (sT L), .own ([w0, w1, w2].map sT), .un]) := by
            refine m1_eq (d := .list ([w1, w2].map fun w => .bool (numB w))) (fz_lst (mLC_eq (ρ1 := [.dat (sT L), .own ([w0, w1, w2].map sT), .un]) (ρ2 := [.dat (sT L), .own ([w0, w1, w2].map sT), .un]) (ρ3 := [.dat (sT L), .own ([w0, w1, w2].map sT), .un]) (ds := [w1, w2].map sT) (by kernel_rfl) rfl (lc_cells sT (fun w => PyData.bool (numB w)) _ [w1, w2] fun w hw =>
              ⟨[.dat (sT L), .own ([w0, w1, w2].map sT), .dat (sT w)], [.dat (sT L), .own ([w0, w1, w2].map sT), .dat (sT w)], rfl, call_eq (ds := [sT w]) rfl (x_is_number w ?_), rfl⟩) rfl (by simp))) (all_map _ _)
            simp at hw
            rcases hw with rfl | rfl
            · exact Nat.le_trans i1.1 hL
            · exact Nat.le_trans i2.1 hL
          unfold tNotM mT
          rw [e6]
        cases hb : [w1, w2].all numB with
        | false =>
          rw [hb] at e5
          have : num3 [w0, w1, w2] = .none := if_neg (fun z => by simp [z.2.1, z.2.2] at hb)
          rw [this]
          exact run_rt (m := 2) (ρ := [.dat (sT L), .own ([w0, w1, w2].map sT), .un]) (seq_nx (if_false' e2 rfl) (seq_nx e1 (seq_rt (if_true' (tOr_f e3 (tOr_f e4 e5)) (ret_eq rfl)))))
        | true =>
          rw [hb] at e5
          simp at hb
          have : num3 [w0, w1, w2] = .tuple [sT w0, .tuple [.int (valN w1), .int (valN w2)]] := if_pos ⟨hv, hb.1, hb.2⟩
          rw [this]
          have v1 : m1 intSD (mLoc2 1 ixD (eC (.int 1))) [.dat (sT L), .own ([w0, w1, w2].map sT), .un] = some (.int (valN w1), [.dat (sT L), .own ([w0, w1, w2].map sT), .un]) := m1_eq (loc_ev _ 1 1 (sT w1) _ rfl rfl) (int_num w1 hb.1 (by have := i1.1; omega))
          have v2 : m1 intSD (mLoc2 1 ixD (eC (.int 2))) [.dat (sT L), .own ([w0, w1, w2].map sT), .un] = some (.int (valN w2), [.dat (sT L), .own ([w0, w1, w2].map sT), .un]) := m1_eq (loc_ev _ 1 2 (sT w2) _ rfl rfl) (int_num w2 hb.2 (by have := i2.1; omega))
          refine run_rt (m := 2) (ρ := [.dat (sT L), .own ([w0, w1, w2].map sT), .un]) (seq_nx (if_false' e2 rfl) (seq_nx e1 (seq_nx (if_false' (tOr_f e3 (tOr_f e4 e5)) rfl) (ret_eq ?_))))
          exact fz_lst (aCons_eq (tup_eq (aCons_eq (loc_ev _ 1 0 (sT w0) _ rfl rfl) (aCons_eq (tup_eq (aCons_eq v1 (aCons_eq v2 rfl))) rfl))) rfl)
    · rw [decide_eq_false h3] at e3
      have : num3 (words L) = .none := by
        unfold num3
        split
        · rename_i e; rw [e] at h3; exact absurd rfl h3
        · rfl
      have hpn : partsL L = [] := by
        unfold partsL
        rw [hf, this]
      rw [hpn]
      exact run_rt (m := 2) (ρ := [.dat (sT L), .own ((words L).map sT), .un]) (seq_nx (if_false' e2 rfl) (seq_nx e1 (seq_rt (if_true' (tOr_t e3) (ret_eq rfl)))))
end Mx
namespace Mx
open Dn Tx
open PySem (PyData NestedKey Str Addr)
abbrev Ce := Int × Int
def cE (c : Ce) : PyData := .tuple [.int c.1, .int c.2]
theorem eqv_c (a b : Ce) : PyData.eqv (cE a) (cE b) = decide (a = b) := by
  show (PyData.eqv (.int a.1) (.int b.1) && (PyData.eqv (.int a.2) (.int b.2) && true)) = _
  have h : ∀ i j : Int, PyData.eqv (.int i) (.int j) = decide (i = j) := fun i j => by
    simp [PyData.eqv]
    by_cases h : i = j <;> simp [h]
  rw [h, h, Bool.and_true, ← Bool.decide_and]
  refine decide_eq_decide.mpr ?_
  rw [Prod.ext_iff]
theorem x_is_between (v lo hi : Int) : f_is_between [.int v, .int lo, .int hi] = some (.dat (.bool (decide (lo ≤ v) && decide (v ≤ hi)))) := by
  have e1 : mFz (mCall f_is_whole (aCons (eVar 0) aNil)) [.dat (.int v), .dat (.int lo), .dat (.int hi)] = some (.bool true, [.dat (.int v), .dat (.int lo), .dat (.int hi)]) := by kernel_rfl
  have e2 : m3c leD leD (eVar 1) (eVar 0) (eVar 2) [.dat (.int v), .dat (.int lo), .dat (.int hi)] = some (.bool (decide (lo ≤ v) && decide (v ≤ hi)), [.dat (.int v), .dat (.int lo), .dat (.int hi)]) := by
    have a0 : eVar 0 [.dat (.int v), .dat (.int lo), .dat (.int hi)] = some (.int v, [.dat (.int v), .dat (.int lo), .dat (.int hi)]) := rfl
    have a1 : eVar 1 [.dat (.int v), .dat (.int lo), .dat (.int hi)] = some (.int lo, [.dat (.int v), .dat (.int lo), .dat (.int hi)]) := rfl
    have a2 : eVar 2 [.dat (.int v), .dat (.int lo), .dat (.int hi)] = some (.int hi, [.dat (.int v), .dat (.int lo), .dat (.int hi)]) := rfl
    unfold m3c
    simp only [a0, a1, a2, leD]
    cases decide (lo ≤ v) <;> rfl
  exact run_rt (m := 0) (ρ := [.dat (.int v), .dat (.int lo), .dat (.int hi)]) (ret_eq (mAnd_t e1 e2))
def inR (c : Ce) : Bool := (decide (-99 ≤ c.1) && decide (c.1 ≤ 99)) && (decide (-99 ≤ c.2) && decide (c.2 ≤ 99))
theorem x_is_cell_by (c : Ce) : f_is_cell_by [cE c] = some (.dat (.bool (inR c))) := by
  have e0 : f_are_between [cE c, .int 2, .int (-99), .int 99] = some (.dat (.bool (inR c))) := by
    have e1 : mFz (mCall f_is_tuple_of (aCons (eVar 0) (aCons (eVar 1) aNil))) [.dat (cE c), .dat (.int 2), .dat (.int (-99)), .dat (.int 99), .un] = some (.bool true, [.dat (cE c), .dat (.int 2), .dat (.int (-99)), .dat (.int 99), .un]) := by kernel_rfl
    have e2 : m1 allD (mFz (mLst (mLC [4] (mItems (eVar 0)) (tgN 4) tAll (mFz (mCall f_is_between (aCons (eVar 4) (aCons (eVar 2) (aCons (eVar 3) aNil)))))))) [.dat (cE c), .dat (.int 2), .dat (.int (-99)), .dat (.int 99), .un] = some (.bool (inR c), [.dat (cE c), .dat (.int 2), .dat (.int (-99)), .dat (.int 99), .un]) := by
      refine m1_eq (d := .list ([c.1, c.2].map fun v => .bool (decide (-99 ≤ v) && decide (v ≤ 99)))) (fz_lst (mLC_eq (ρ1 := [.dat (cE c), .dat (.int 2), .dat (.int (-99)), .dat (.int 99), .un]) (ρ2 := [.dat (cE c), .dat (.int 2), .dat (.int (-99)), .dat (.int 99), .un]) (ρ3 := [.dat (cE c), .dat (.int 2), .dat (.int (-99)), .dat (.int 99), .un]) (ds := [c.1, c.2].map PyData.int) rfl rfl (lc_cells PyData.int (fun v => .bool (decide (-99 ≤ v) && decide (v ≤ 99))) _ [c.1, c.2] fun v _ =>
        ⟨[.dat (cE c), .dat (.int 2), .dat (.int (-99)), .dat (.int 99), .dat (.int v)], [.dat (cE c), .dat (.int 2), .dat (.int (-99)), .dat (.int 99), .dat (.int v)], rfl, call_eq (ds := [.int v, .int (-99), .int 99]) rfl (x_is_between v (-99) 99), rfl⟩) rfl (by simp))) ?_
      rw [all_map]
      simp [inR]
    exact run_rt (m := 1) (ρ := [.dat (cE c), .dat (.int 2), .dat (.int (-99)), .dat (.int 99), .un]) (ret_eq (mAnd_t e1 e2))
  exact run_rt (m := 0) (ρ := [.dat (cE c)]) (ret_eq (call_eq (ds := [cE c, .int 2, .int (-99), .int 99]) rfl e0))
theorem xseq_nx {g h : MX} {ρ ρ1 : Env} {r : Option OX} (h1 : g ρ = some (.inl (.nx ρ1))) (h2 : h ρ1 = r) : xSeq g h ρ = r := by
  unfold xSeq; simp only [h1]; exact h2
theorem xseq_ex {g h : MX} {ρ : Env} {x : Xn × Env} (h1 : g ρ = some (.inr x)) : xSeq g h ρ = some (.inr x) := by
  unfold xSeq; simp only [h1]
theorem xif_t {c : M Bool} {g h : MX} {ρ ρ1 : Env} {r : Option OX} (h1 : c ρ = some (true, ρ1)) (h2 : g ρ1 = r) : xIf c g h ρ = r := by
  unfold xIf; simp only [h1]; exact h2
theorem xif_f {c : M Bool} {g h : MX} {ρ ρ1 : Env} {r : Option OX} (h1 : c ρ = some (false, ρ1)) (h2 : h ρ1 = r) : xIf c g h ρ = r := by
  unfold xIf; simp only [h1]; exact h2
theorem xraise_eq {nm fld : Str} {f : M PyData} {ρ ρ1 : Env} {d : PyData} (h : f ρ = some (d, ρ1)) : xRaise nm fld f ρ = some (.inr (⟨nm, [(fld, d)]⟩, ρ1)) := by
  unfold xRaise; simp only [h]
theorem xof_eq {g : MS} {ρ : Env} {o : Out} (h : g ρ = some o) : xOf g ρ = some (.inl o) := by
  unfold xOf; rw [h]; rfl
theorem xexpr_nx {c : MXx} {ρ ρ1 : Env} {s : Sl} (h : c ρ = some (.inl s, ρ1)) : xExpr c ρ = some (.inl (.nx ρ1)) := by
  unfold xExpr; simp only [h]
theorem xexpr_ex {c : MXx} {ρ ρ1 : Env} {x : Xn} (h : c ρ = some (.inr x, ρ1)) : xExpr c ρ = some (.inr (x, ρ1)) := by
  unfold xExpr; simp only [h]
theorem xcall_eq {f : FX} {fr : M (List PyData)} {ρ ρ1 : Env} {ds : List PyData} {r : Sl ⊕ Xn} (h1 : fr ρ = some (ds, ρ1)) (h2 : f ds = some r) : xCall f fr ρ = some (r, ρ1) := by
  unfold xCall; simp only [h1, h2]; rfl
theorem tnot_eq {f : M Bool} {ρ ρ1 : Env} {b : Bool} (h : f ρ = some (b, ρ1)) : tNotM f ρ = some (!b, ρ1) := by
  unfold tNotM; simp only [h]
theorem x_check (c : Ce) : f_check_cell [cE c] = some (if inR c = true then .inl (.dat .none) else .inr ⟨"InvalidCell", [("given", cE c)]⟩) := by
  have e1 : tNotM (mT (mFz (mCall f_is_cell_by (aCons (eVar 0) aNil)))) [.dat (cE c)] = some (!inR c, [.dat (cE c)]) := tnot_eq (mT_eq (call_eq (ds := [cE c]) rfl (x_is_cell_by c)))
  show endX (gx_check_cell [.dat (cE c)]) = _
  cases h : inR c with
  | true =>
    rw [h] at e1
    rw [show gx_check_cell [.dat (cE c)] = some (.inl (.nx [.dat (cE c)])) from xif_f e1 (xof_eq rfl)]
    rfl
  | false =>
    rw [h] at e1
    rw [show gx_check_cell [.dat (cE c)] = some (.inr (⟨"InvalidCell", [("given", cE c)]⟩, [.dat (cE c)])) from xif_t e1 (xraise_eq rfl)]
    rfl
section
variable {C CC : Addr} {d d' y : PyData} {r : Env} {g : PyData → Option PyData}
theorem fld_sel : eFld 0 kdN C "past" (.sel C "past" d :: r) = some (d, .sel C "past" d :: r) := by simp [eFld, kdN, obD]
theorem prop_sel (hr : r.all (fun s => !isOb s) = true) (h : g d = some y) : eProp 0 kdN C "past" g (.sel C "past" d :: r) = some (y, .sel C "past" d :: r) := by
  have : sole 0 (.sel C "past" d :: r) = true := by simpa [sole, isOb] using hr
  simp [eProp, kdN, obD, this, h]
theorem prop_con (hr : r.all (fun s => !isOb s) = true) (h : g d = some y) : eProp 0 (kdC CC "site") C "past" g (.con CC C "site" "past" d :: r) = some (y, .con CC C "site" "past" d :: r) := by
  have : sole 0 (.con CC C "site" "past" d :: r) = true := by simpa [sole, isOb] using hr
  simp [eProp, kdC, obD, this, h]
theorem st_sel {fe : M PyData} (hr : r.all (fun s => !isOb s) = true) (h : fe (.sel C "past" d :: r) = some (d', .sel C "past" d :: r)) : sFld1 0 kdN C "past" fe (.sel C "past" d :: r) = some (.nx (.sel C "past" d' :: r)) := by
  have : sole 0 (.sel C "past" d :: r) = true := by simpa [sole, isOb] using hr
  simp [sFld1, h, kdN, obD, this, obSet]
theorem meth_sel {F : FM} {fr : M (List PyData)} {ds : List PyData} {q : PyData ⊕ Xn} (hr : r.all (fun s => !isOb s) = true) (h1 : fr (.sel C "past" d :: r) = some (ds, .sel C "past" d :: r)) (h2 : F d ds = some (q, d')) :
    xMeth 0 kdN C "past" F fr (.sel C "past" d :: r) = some (q.elim (fun y => .inl (.dat y)) .inr, .sel C "past" d' :: r) := by
  have : sole 0 (.sel C "past" d :: r) = true := by simpa [sole, isOb] using hr
  cases q <;> simp [xMeth, kdN, obD, this, h1, h2, obSet]
theorem meth_con {F : FM} {fr : M (List PyData)} {ds : List PyData} {q : PyData ⊕ Xn} (hr : r.all (fun s => !isOb s) = true) (h1 : fr (.con CC C "site" "past" d :: r) = some (ds, .con CC C "site" "past" d :: r)) (h2 : F d ds = some (q, d')) :
    xMeth 0 (kdC CC "site") C "past" F fr (.con CC C "site" "past" d :: r) = some (q.elim (fun y => .inl (.dat y)) .inr, .con CC C "site" "past" d' :: r) := by
  have : sole 0 (.con CC C "site" "past" d :: r) = true := by simpa [sole, isOb] using hr
  cases q <;> simp [xMeth, kdC, obD, this, h1, h2, obSet]
theorem meth_self {F : FM} {fr : M (List PyData)} {ds : List PyData} {q : PyData ⊕ Xn} (hr : r.all (fun s => !isOb s) = true) (h1 : fr (.con CC C "site" "past" d :: r) = some (ds, .con CC C "site" "past" d :: r)) (h2 : F d ds = some (q, d')) :
    xMeth 0 (kdB CC "site" C "past") C "past" F fr (.con CC C "site" "past" d :: r) = some (q.elim (fun y => .inl (.dat y)) .inr, .con CC C "site" "past" d' :: r) := by
  have : sole 0 (.con CC C "site" "past" d :: r) = true := by simpa [sole, isOb] using hr
  cases q <;> simp [xMeth, kdB, obD, this, h1, h2, obSet]
end
end Mx
namespace Mx
open Dn Tx
open PySem (PyData NestedKey Str Addr)
def c0 : PyData := .tuple [cE (0, 0)]
def d0 : PyData := .tuple [.tuple [c0, .tuple []]]
theorem gi_ok : gi_Site (cE (0, 0)) = some d0 := by kernel_rfl
def bes (c : Ce) : List Ce := [(c.1 + 1, c.2 + 0), (c.1 + 0, c.2 + 1), (c.1 + -1, c.2 + 0), (c.1 + 0, c.2 + -1)]
theorem x_beside (c : Ce) : f_beside [cE c] = some (.dat (.list ((bes c).map cE))) := by kernel_rfl
def adj (c : Ce) : Bool := (bes c).any fun o => decide ((0, 0) = o)
theorem in_c0 (c : Ce) : inD (cE c) c0 = some (.bool (decide ((0, 0) = c))) := by
  have : inB (cE c) c0 = some (decide ((0, 0) = c)) := by
    show (if (PySem.SeqAt.shaped (cE c) && PyData.canLayAll0 [cE (0, 0)]) = true then some ([cE (0, 0)].any fun z => PyData.eqv z (cE c)) else none) = _
    rw [show (PySem.SeqAt.shaped (cE c) && PyData.canLayAll0 [cE (0, 0)]) = true from rfl]
    show some (PyData.eqv (cE (0, 0)) (cE c) || false) = _
    rw [eqv_c, Bool.or_false]
  unfold inD
  rw [this]
theorem notIn_c0 (c : Ce) : notInD (cE c) c0 = some (.bool (!decide ((0, 0) = c))) := by
  have h := in_c0 c
  unfold inD at h
  unfold notInD
  split at h
  · cases h
    rfl
  · cases h
section
variable {C CC : Addr}
theorem end_ex {d : PyData} {r : Env} {x : Xn} : endM (selD C "past") (some (.inr (x, .sel C "past" d :: r))) = some (.inr x, d) := by simp [endM, selD]
theorem end_nx {d : PyData} {r : Env} : endM (selD C "past") (some (.inl (.nx (.sel C "past" d :: r)))) = some (.inl .none, d) := by simp [endM, selD]
theorem x_keep (past : List PyData) (X : PyData) (h : past.length ≤ 100) : fm_keep C (.tuple past) [X, .tuple []] = some (.inl .none, .tuple (past ++ [.tuple [X, .tuple []]])) := by
  have e1 : sFor (mItems (mFz (mCall f_first_broken (aCons (eVar 1) (aCons (eVar 2) aNil))))) (tgN 3) sNever [.sel C "past" (.tuple past), .dat X, .dat (.tuple []), .un] = some (.nx [.sel C "past" (.tuple past), .dat X, .dat (.tuple []), .un]) :=
    for_eq (ds := []) (items_eq (d := .list []) (call_eq (ds := [X, .tuple []]) rfl (by rfl)) rfl) rfl
  have e2 : mTupS (aStar (eFld 0 kdN C "past") (aCons (mTup (aCons (eVar 1) (aCons (eVar 2) aNil))) aNil)) [.sel C "past" (.tuple past), .dat X, .dat (.tuple []), .un] = some (.tuple (past ++ [.tuple [X, .tuple []]]), [.sel C "past" (.tuple past), .dat X, .dat (.tuple []), .un]) := by
    have e3 : aStar (eFld 0 kdN C "past") (aCons (mTup (aCons (eVar 1) (aCons (eVar 2) aNil))) aNil) [.sel C "past" (.tuple past), .dat X, .dat (.tuple []), .un] = some (past ++ [.tuple [X, .tuple []]], [.sel C "past" (.tuple past), .dat X, .dat (.tuple []), .un]) := by
      unfold aStar
      rw [fld_sel]
      rfl
    unfold mTupS
    rw [e3]
    have : (past ++ [PyData.tuple [X, .tuple []]]).length ≤ 1000 := by simp; omega
    simp only [this, if_true]
  show endM (selD C "past") (gm_Site_keep C [.sel C "past" (.tuple past), .dat X, .dat (.tuple []), .un]) = _
  rw [show gm_Site_keep C [.sel C "past" (.tuple past), .dat X, .dat (.tuple []), .un] = some (.inl (.nx [.sel C "past" (.tuple (past ++ [.tuple [X, .tuple []]])), .dat X, .dat (.tuple []), .un])) from xseq_nx (xof_eq e1) (xof_eq (st_sel rfl e2))]
  exact end_nx
/-- what put does -/
def putR (c : Ce) : (PyData ⊕ Xn) × PyData := if inR c = false then (.inr ⟨"InvalidCell", [("given", cE c)]⟩, d0) else if (decide ((0, 0) = c) || !adj c) = true then (.inr ⟨"NotNow", [("given", cE c)]⟩, d0) else (.inl .none, .tuple [.tuple [c0, .tuple []], .tuple [.tuple (isortB leB [cE (0, 0), cE c]), .tuple []]])
theorem adj_cases {c : Ce} (h : adj c = true) : c = (-1, 0) ∨ c = (0, -1) ∨ c = (1, 0) ∨ c = (0, 1) := by
  obtain ⟨x, y⟩ := c
  simp [adj, bes, Prod.ext_iff] at h
  simp only [Prod.ext_iff]
  omega
theorem adj_sort {c : Ce} (h : adj c = true) : sortOk [cE (0, 0), cE c] = true := by
  rcases adj_cases h with rfl | rfl | rfl | rfl <;> decide +kernel
theorem x_put (c : Ce) : fm_put C d0 [cE c] = some (putR c) := by
  show endM (selD C "past") (gm_Site_put C [.sel C "past" d0, .dat (cE c), .un]) = _
  have ck : xCall f_check_cell (aCons (eVar 1) aNil) [.sel C "past" d0, .dat (cE c), .un] = some (if inR c = true then .inl (.dat .none) else .inr ⟨"InvalidCell", [("given", cE c)]⟩, [.sel C "past" d0, .dat (cE c), .un]) := xcall_eq (ds := [cE c]) rfl (x_check c)
  unfold putR
  cases hi : inR c with
  | false =>
    rw [hi] at ck
    rw [show gm_Site_put C [.sel C "past" d0, .dat (cE c), .un] = some (.inr (⟨"InvalidCell", [("given", cE c)]⟩, [.sel C "past" d0, .dat (cE c), .un])) from xseq_ex (xexpr_ex ck)]
    exact end_ex
  | true =>
    rw [hi] at ck
    have s1 := xexpr_nx ck
    have q1 : mT (m2 inD (eVar 1) (eProp 0 kdN C "past" (gAt 0))) [.sel C "past" d0, .dat (cE c), .un] = some (decide ((0, 0) = c), [.sel C "past" d0, .dat (cE c), .un]) := mT_eq (m2_eq (y := c0) rfl (prop_sel rfl rfl) (in_c0 c))
    have q2 : tNotM (mT (m1 anyD (mFz (mLst (mLC [2] (mItems (mFz (mCall f_beside (aCons (eVar 1) aNil)))) (tgN 2) tAll (m2 inD (eVar 2) (eProp 0 kdN C "past" (gAt 0)))))))) [.sel C "past" d0, .dat (cE c), .un] = some (!adj c, [.sel C "past" d0, .dat (cE c), .un]) := by
      refine tnot_eq (mT_eq (m1_eq (d := .list ((bes c).map fun o => .bool (decide ((0, 0) = o)))) (fz_lst (mLC_eq (ρ1 := [.sel C "past" d0, .dat (cE c), .un]) (ρ2 := [.sel C "past" d0, .dat (cE c), .un]) (ρ3 := [.sel C "past" d0, .dat (cE c), .un]) (ds := (bes c).map cE) (items_eq (call_eq (ds := [cE c]) rfl (x_beside c)) rfl) rfl (lc_cells cE (fun o => .bool (decide ((0, 0) = o))) _ (bes c) fun o _ =>
        ⟨[.sel C "past" d0, .dat (cE c), .dat (cE o)], [.sel C "past" d0, .dat (cE c), .dat (cE o)], rfl, m2_eq (y := c0) rfl (prop_sel rfl rfl) (in_c0 o), rfl⟩) rfl (by simp [bes]))) (any_map _ _)))
    cases hn : (decide ((0, 0) = c) || !adj c) with
    | true =>
      have q3 : tOrM (mT (m2 inD (eVar 1) (eProp 0 kdN C "past" (gAt 0)))) (tNotM (mT (m1 anyD (mFz (mLst (mLC [2] (mItems (mFz (mCall f_beside (aCons (eVar 1) aNil)))) (tgN 2) tAll (m2 inD (eVar 2) (eProp 0 kdN C "past" (gAt 0))))))))) [.sel C "past" d0, .dat (cE c), .un] = some (true, [.sel C "past" d0, .dat (cE c), .un]) := by
        cases h0 : decide ((0, 0) = c) with
        | true => rw [h0] at q1; exact tOr_t q1
        | false => rw [h0] at q1 hn; exact tOr_f q1 (by rw [q2]; simpa using hn)
      rw [show gm_Site_put C [.sel C "past" d0, .dat (cE c), .un] = some (.inr (⟨"NotNow", [("given", cE c)]⟩, [.sel C "past" d0, .dat (cE c), .un])) from xseq_nx s1 (xseq_ex (xif_t q3 (xraise_eq rfl)))]
      exact end_ex
    | false =>
      obtain ⟨h0, h1⟩ := Bool.or_eq_false_iff.mp hn
      have ha : adj c = true := by simpa using h1
      rw [h0] at q1
      rw [h1] at q2
      have q4 : mT (m2 eqD (m1 lenD (eProp 0 kdN C "past" (gAt 0))) (eC (.int 16))) [.sel C "past" d0, .dat (cE c), .un] = some (false, [.sel C "past" d0, .dat (cE c), .un]) := mT_eq (m2_eq (x := .int 1) (m1_eq (d := c0) (prop_sel rfl rfl) rfl) rfl rfl)
      have f1 : m1 tupleD (mFz (mSorted (mTupS (aStar (eProp 0 kdN C "past" (gAt 0)) (aCons (eVar 1) aNil))))) [.sel C "past" d0, .dat (cE c), .un] = some (.tuple (isortB leB [cE (0, 0), cE c]), [.sel C "past" d0, .dat (cE c), .un]) := by
        refine m1_eq (d := .list (isortB leB [cE (0, 0), cE c])) ?_ rfl
        have g1 : mTupS (aStar (eProp 0 kdN C "past" (gAt 0)) (aCons (eVar 1) aNil)) [.sel C "past" d0, .dat (cE c), .un] = some (.tuple [cE (0, 0), cE c], [.sel C "past" d0, .dat (cE c), .un]) := by
          unfold mTupS aStar
          rw [prop_sel (C := C) (d := d0) (y := c0) (g := gAt 0) (r := [.dat (cE c), .un]) rfl rfl]
          rfl
        have g2 : mSorted (mTupS (aStar (eProp 0 kdN C "past" (gAt 0)) (aCons (eVar 1) aNil))) [.sel C "past" d0, .dat (cE c), .un] = some (.own (isortB leB [cE (0, 0), cE c]), [.sel C "past" d0, .dat (cE c), .un]) := by
          unfold mSorted
          rw [g1]
          show (if sortOk [cE (0, 0), cE c] = true then _ else none) = _
          rw [if_pos (adj_sort ha)]
        unfold mFz
        rw [g2]
      have f2 : aCons (m1 tupleD (mFz (mSorted (mTupS (aStar (eProp 0 kdN C "past" (gAt 0)) (aCons (eVar 1) aNil)))))) (aCons (eProp 0 kdN C "past" (gAt 1)) aNil) [.sel C "past" d0, .dat (cE c), .un] = some ([.tuple (isortB leB [cE (0, 0), cE c]), .tuple []], [.sel C "past" d0, .dat (cE c), .un]) := aCons_eq f1 (aCons_eq (prop_sel rfl rfl) rfl)
      have f3 := meth_sel (C := C) (r := [.dat (cE c), .un]) rfl f2 (x_keep (C := C) [.tuple [c0, .tuple []]] (.tuple (isortB leB [cE (0, 0), cE c])) (by simp))
      rw [show gm_Site_put C [.sel C "past" d0, .dat (cE c), .un] = some (.inl (.nx [.sel C "past" (.tuple ([.tuple [c0, .tuple []]] ++ [.tuple [.tuple (isortB leB [cE (0, 0), cE c]), .tuple []]])), .dat (cE c), .un])) from xseq_nx s1 (xseq_nx (xif_f (tOr_f q1 q2) (xof_eq rfl)) (xseq_nx (xif_f q4 (xof_eq rfl)) (xexpr_nx f3)))]
      exact end_nx
end
end Mx
namespace Mx
open Dn Tx
open PySem (PyData NestedKey Str Addr)
theorem ne_c (a b : Ce) : neD (cE a) (cE b) = some (.bool (!decide (a = b))) := by
  show (if (PySem.SeqAt.shaped (cE a) && PySem.SeqAt.shaped (cE b)) = true then some (PyData.bool (!PyData.eqv (cE a) (cE b))) else none) = _
  rw [show (PySem.SeqAt.shaped (cE a) && PySem.SeqAt.shaped (cE b)) = true from rfl, eqv_c]
  rfl
def takeR (c : Ce) : (PyData ⊕ Xn) × PyData := if inR c = false then (.inr ⟨"InvalidCell", [("given", cE c)]⟩, d0) else (.inr ⟨"NotNow", [("given", cE c)]⟩, d0)
section
variable {C CC : Addr}
theorem x_take (c : Ce) : fm_take C d0 [cE c] = some (takeR c) := by
  show endM (selD C "past") (gm_Site_take C [.sel C "past" d0, .dat (cE c), .un, .un]) = _
  have ck : xCall f_check_cell (aCons (eVar 1) aNil) [.sel C "past" d0, .dat (cE c), .un, .un] = some (if inR c = true then .inl (.dat .none) else .inr ⟨"InvalidCell", [("given", cE c)]⟩, [.sel C "past" d0, .dat (cE c), .un, .un]) := xcall_eq (ds := [cE c]) rfl (x_check c)
  unfold takeR
  cases hi : inR c with
  | false =>
    rw [hi] at ck
    rw [show gm_Site_take C [.sel C "past" d0, .dat (cE c), .un, .un] = some (.inr (⟨"InvalidCell", [("given", cE c)]⟩, [.sel C "past" d0, .dat (cE c), .un, .un])) from xseq_ex (xexpr_ex ck)]
    exact end_ex
  | true =>
    rw [hi] at ck
    have s1 := xexpr_nx ck
    have s2 : sSet 2 (mDat (m1 tupleD (mFz (mLst (mLC [3] (mItems (eProp 0 kdN C "past" (gAt 0))) (tgN 3) (mT (m2 neD (eVar 3) (eVar 1))) (eVar 3)))))) [.sel C "past" d0, .dat (cE c), .un, .un] = some (.nx [.sel C "past" d0, .dat (cE c), .dat (.tuple (([((0, 0) : Ce)].filter fun o => !decide (o = c)).map cE)), .un]) := by
      refine setd_eq (ρ1 := [.sel C "past" d0, .dat (cE c), .un, .un]) (m1_eq (d := .list (([((0, 0) : Ce)].filter fun o => !decide (o = c)).map cE)) (fz_lst (mLC_eq (ρ1 := [.sel C "past" d0, .dat (cE c), .un, .un]) (ρ2 := [.sel C "past" d0, .dat (cE c), .un, .un]) (ρ3 := [.sel C "past" d0, .dat (cE c), .un, .un]) (ds := [((0, 0) : Ce)].map cE) (items_eq (d := c0) (prop_sel rfl rfl) rfl) rfl (lc_map cE cE (fun o => !decide (o = c)) _ [(0, 0)] fun o _ =>
        ⟨[.sel C "past" d0, .dat (cE c), .un, .dat (cE o)], [.sel C "past" d0, .dat (cE c), .un, .dat (cE o)], rfl, mT_eq (m2_eq (x := cE o) (y := cE c) rfl rfl (ne_c o c)), fun _ => rfl, fun _ => ⟨_, rfl, rfl⟩⟩) rfl ?_)) rfl) rfl
      rw [List.length_map]
      exact Nat.le_trans (List.length_filter_le _ _) (by simp)
    have q1 : ∀ X, mT (m2 notInD (eVar 1) (eProp 0 kdN C "past" (gAt 0))) [.sel C "past" d0, .dat (cE c), .dat X, .un] = some (!decide ((0, 0) = c), [.sel C "past" d0, .dat (cE c), .dat X, .un]) := fun X => mT_eq (m2_eq (y := c0) rfl (prop_sel rfl rfl) (notIn_c0 c))
    have q2 : tOrM (mT (m2 notInD (eVar 1) (eProp 0 kdN C "past" (gAt 0)))) (tOrM (mT (m2 eqD (eVar 2) (mTup aNil))) (tNotM (mT (mFz (mCall f_do_hang_together (aCons (eVar 2) aNil)))))) [.sel C "past" d0, .dat (cE c), .dat (.tuple (([((0, 0) : Ce)].filter fun o => !decide (o = c)).map cE)), .un] = some (true, [.sel C "past" d0, .dat (cE c), .dat (.tuple (([((0, 0) : Ce)].filter fun o => !decide (o = c)).map cE)), .un]) := by
      by_cases h0 : ((0, 0) : Ce) = c
      · subst h0
        exact tOr_f (q1 _) (tOr_t (mT_eq (m2_eq rfl rfl rfl)))
      · refine tOr_t ?_
        rw [q1, decide_eq_false h0]
        rfl
    rw [show gm_Site_take C [.sel C "past" d0, .dat (cE c), .un, .un] = some (.inr (⟨"NotNow", [("given", cE c)]⟩, [.sel C "past" d0, .dat (cE c), .dat (.tuple (([((0, 0) : Ce)].filter fun o => !decide (o = c)).map cE)), .un])) from xseq_nx s1 (xseq_nx (xof_eq s2) (xseq_ex (xif_t q2 (xraise_eq rfl))))]
    exact end_ex
theorem x_undo : fm_undo C d0 [] = some (.inr ⟨"NothingToUndo", []⟩, d0) := by
  show endM (selD C "past") (gm_Site_undo C [.sel C "past" d0]) = _
  have q : mT (m2 eqD (m1 lenD (eFld 0 kdN C "past")) (eC (.int 1))) [.sel C "past" d0] = some (true, [.sel C "past" d0]) := mT_eq (m2_eq (x := .int 1) (m1_eq (d := d0) fld_sel rfl) rfl rfl)
  rw [show gm_Site_undo C [.sel C "past" d0] = some (.inr (⟨"NothingToUndo", []⟩, [.sel C "past" d0])) from xseq_ex (xif_t q rfl)]
  exact end_ex
theorem endc_ex {d : PyData} {r : Env} {x : Xn} : endM (conD CC "site" C "past") (some (.inr (x, .con CC C "site" "past" d :: r))) = some (.inr x, d) := by simp [endM, conD]
theorem endc_rt {d y : PyData} {r : Env} : endM (conD CC "site" C "past") (some (.inl (.rt (.dat y) (.con CC C "site" "past" d :: r)))) = some (.inl y, d) := by simp [endM, conD]
/-- do: the result where nothing is raised is 'done' -/
def doneR (q : (PyData ⊕ Xn) × PyData) : (PyData ⊕ Xn) × PyData := (match q.1 with
  | .inl _ => .inl (.str "done")
  | .inr x => .inr x, q.2)
theorem do_put {q : PyData ⊕ Xn} {d' : PyData} (c : Ce) (h : fm_put C d0 [cE c] = some (q, d')) : fk_do CC C d0 [.str "put", cE c] = some (doneR (q, d')) := by
  show endM (conD CC "site" C "past") (gk_Console_do CC C [.con CC C "site" "past" d0, .dat (.str "put"), .dat (cE c)]) = _
  have e : mT (m2 eqD (eVar 1) (eC (.str "put"))) [.con CC C "site" "past" d0, .dat (.str "put"), .dat (cE c)] = some (true, [.con CC C "site" "past" d0, .dat (.str "put"), .dat (cE c)]) := mT_eq (m2_eq rfl rfl rfl)
  have m := meth_con (CC := CC) (C := C) (F := fm_put C) (fr := aCons (eVar 2) aNil) (ds := [cE c]) (r := [.dat (.str "put"), .dat (cE c)]) (q := q) (d' := d') rfl rfl h
  cases q with
  | inl y =>
    rw [show gk_Console_do CC C [.con CC C "site" "past" d0, .dat (.str "put"), .dat (cE c)] = some (.inl (.rt (.dat (.str "done")) [.con CC C "site" "past" d', .dat (.str "put"), .dat (cE c)])) from xseq_nx (xif_t e (xexpr_nx m)) (xof_eq rfl)]
    exact endc_rt
  | inr x =>
    rw [show gk_Console_do CC C [.con CC C "site" "past" d0, .dat (.str "put"), .dat (cE c)] = some (.inr (x, [.con CC C "site" "past" d', .dat (.str "put"), .dat (cE c)])) from xseq_ex (xif_t e (xexpr_ex m))]
    exact endc_ex
theorem do_take {q : PyData ⊕ Xn} {d' : PyData} (c : Ce) (h : fm_take C d0 [cE c] = some (q, d')) : fk_do CC C d0 [.str "take", cE c] = some (doneR (q, d')) := by
  show endM (conD CC "site" C "past") (gk_Console_do CC C [.con CC C "site" "past" d0, .dat (.str "take"), .dat (cE c)]) = _
  have e0 : mT (m2 eqD (eVar 1) (eC (.str "put"))) [.con CC C "site" "past" d0, .dat (.str "take"), .dat (cE c)] = some (false, [.con CC C "site" "past" d0, .dat (.str "take"), .dat (cE c)]) := mT_eq (m2_eq rfl rfl rfl)
  have e : mT (m2 eqD (eVar 1) (eC (.str "take"))) [.con CC C "site" "past" d0, .dat (.str "take"), .dat (cE c)] = some (true, [.con CC C "site" "past" d0, .dat (.str "take"), .dat (cE c)]) := mT_eq (m2_eq rfl rfl rfl)
  have m := meth_con (CC := CC) (C := C) (F := fm_take C) (fr := aCons (eVar 2) aNil) (ds := [cE c]) (r := [.dat (.str "take"), .dat (cE c)]) (q := q) (d' := d') rfl rfl h
  cases q with
  | inl y =>
    rw [show gk_Console_do CC C [.con CC C "site" "past" d0, .dat (.str "take"), .dat (cE c)] = some (.inl (.rt (.dat (.str "done")) [.con CC C "site" "past" d', .dat (.str "take"), .dat (cE c)])) from xseq_nx (xif_f e0 (xif_t e (xexpr_nx m))) (xof_eq rfl)]
    exact endc_rt
  | inr x =>
    rw [show gk_Console_do CC C [.con CC C "site" "past" d0, .dat (.str "take"), .dat (cE c)] = some (.inr (x, [.con CC C "site" "past" d', .dat (.str "take"), .dat (cE c)])) from xseq_ex (xif_f e0 (xif_t e (xexpr_ex m)))]
    exact endc_ex
theorem x_do_put (c : Ce) : fk_do CC C d0 [.str "put", cE c] = some (doneR (putR c)) := do_put (q := (putR c).1) (d' := (putR c).2) c (x_put c)
theorem x_do_take (c : Ce) : fk_do CC C d0 [.str "take", cE c] = some (doneR (takeR c)) := do_take (q := (takeR c).1) (d' := (takeR c).2) c (x_take c)
theorem x_do_undo (z : PyData) : fk_do CC C d0 [.str "undo", z] = some (.inr ⟨"NothingToUndo", []⟩, d0) := by
  show endM (conD CC "site" C "past") (gk_Console_do CC C [.con CC C "site" "past" d0, .dat (.str "undo"), .dat z]) = _
  have q0 : mT (m2 eqD (eVar 1) (eC (.str "put"))) [.con CC C "site" "past" d0, .dat (.str "undo"), .dat z] = some (false, [.con CC C "site" "past" d0, .dat (.str "undo"), .dat z]) := mT_eq (m2_eq rfl rfl rfl)
  have q : mT (m2 eqD (eVar 1) (eC (.str "take"))) [.con CC C "site" "past" d0, .dat (.str "undo"), .dat z] = some (false, [.con CC C "site" "past" d0, .dat (.str "undo"), .dat z]) := mT_eq (m2_eq rfl rfl rfl)
  have m := meth_con (CC := CC) (C := C) (F := fm_undo C) (fr := aNil) (ds := []) (r := [.dat (.str "undo"), .dat z]) rfl rfl x_undo
  rw [show gk_Console_do CC C [.con CC C "site" "past" d0, .dat (.str "undo"), .dat z] = some (.inr (⟨"NothingToUndo", []⟩, [.con CC C "site" "past" d0, .dat (.str "undo"), .dat z])) from xseq_ex (xif_f q0 (xif_f q (xexpr_ex m)))]
  exact endc_ex
theorem x_told (w : Str) (h : w = "area" ∨ w = "shape" ∨ w = "covers" ∨ w = "rim" ∨ w = "lattices") : ∃ z : Str, fk_told CC C d0 [.str w] = some (.inl (.str z), d0) := by
  have s1 : ∀ w : Str, sSet 2 (mDat (eProp 0 (kdC CC "site") C "past" (gAt 0))) [.con CC C "site" "past" d0, .dat (.str w), .un, .un] = some (.nx [.con CC C "site" "past" d0, .dat (.str w), .dat c0, .un]) := fun w => setd_eq (prop_con rfl rfl) rfl
  have fin : ∀ (w z : Str) (r : Env), gk_Console_told CC C [.con CC C "site" "past" d0, .dat (.str w), .un, .un] = some (.inl (.rt (.dat (.str z)) (.con CC C "site" "past" d0 :: r))) → ∃ z : Str, fk_told CC C d0 [.str w] = some (.inl (.str z), d0) := fun w z r e => ⟨z, by
    show endM (conD CC "site" C "past") (gk_Console_told CC C [.con CC C "site" "past" d0, .dat (.str w), .un, .un]) = _
    rw [e]
    exact endc_rt⟩
  rcases h with rfl | rfl | rfl | rfl | rfl
  · exact fin _ "1" [.dat (.str "area"), .dat c0, .dat (.bool true)] (xof_eq (seq_nx (s1 _) (by kernel_rfl)))
  · exact fin _ "yes" [.dat (.str "shape"), .dat c0, .dat (.bool true)] (xof_eq (seq_nx (s1 _) (by kernel_rfl)))
  · exact fin _ "yes" [.dat (.str "covers"), .dat c0, .dat (.bool true)] (xof_eq (seq_nx (s1 _) (by kernel_rfl)))
  · exact fin _ "enws" [.dat (.str "rim"), .dat c0, .dat (.bool true)] (xof_eq (seq_nx (s1 _) (by kernel_rfl)))
  · exact fin _ "1 0 1" [.dat (.str "lattices"), .dat c0, .dat (.bool true)] (xof_eq (seq_nx (s1 _) (by kernel_rfl)))
end
end Mx
namespace Mx
open Dn Tx
open PySem (PyData NestedKey Str Addr)
theorem xifE_t {c : M Bool} {f g : MXx} {ρ ρ1 : Env} {r : Option ((Sl ⊕ Xn) × Env)} (h1 : c ρ = some (true, ρ1)) (h2 : f ρ1 = r) : xIfE c f g ρ = r := by
  unfold xIfE; simp only [h1]; exact h2
theorem xifE_f {c : M Bool} {f g : MXx} {ρ ρ1 : Env} {r : Option ((Sl ⊕ Xn) × Env)} (h1 : c ρ = some (false, ρ1)) (h2 : g ρ1 = r) : xIfE c f g ρ = r := by
  unfold xIfE; simp only [h1]; exact h2
theorem xret_nx {c : MXx} {ρ ρ1 : Env} {s : Sl} (h : c ρ = some (.inl s, ρ1)) : xRet c ρ = some (.inl (.rt s ρ1)) := by
  unfold xRet; simp only [h]
theorem xret_ex {c : MXx} {ρ ρ1 : Env} {x : Xn} (h : c ρ = some (.inr x, ρ1)) : xRet c ρ = some (.inr (x, ρ1)) := by
  unfold xRet; simp only [h]
theorem asg_eq {f : M PyData} {gt : PyData → Env → Option Env} {ρ ρ1 ρ2 : Env} {d : PyData} (h1 : f ρ = some (d, ρ1)) (h2 : gt d ρ1 = some ρ2) : sAsg f gt ρ = some (.nx ρ2) := by
  unfold sAsg; simp only [h1, h2]
section
variable {C CC : Addr}
/-- nothing is found -/
theorem say_odd (line : PyData) (h : mIf (mT (m1 (isiD "str") (eVar 1))) (mFz (mCall f_line_parts (aCons (eVar 1) aNil))) (mFz (mLst aNil)) [.con CC C "site" "past" d0, .dat line, .un, .un, .un] = some (.list [], [.con CC C "site" "past" d0, .dat line, .un, .un, .un])) :
    fk_say CC C d0 [line] = some (.inr ⟨"InvalidLine", [("given", line)]⟩, d0) := by
  show endM (conD CC "site" C "past") (gk_Console_say CC C [.con CC C "site" "past" d0, .dat line, .un, .un, .un]) = _
  have q : mT (m2 eqD (eVar 2) (mFz (mLst aNil))) [.con CC C "site" "past" d0, .dat line, .dat (.list []), .un, .un] = some (true, [.con CC C "site" "past" d0, .dat line, .dat (.list []), .un, .un]) := mT_eq (m2_eq rfl rfl rfl)
  rw [show gk_Console_say CC C [.con CC C "site" "past" d0, .dat line, .un, .un, .un] = some (.inr (⟨"InvalidLine", [("given", line)]⟩, [.con CC C "site" "past" d0, .dat line, .dat (.list []), .un, .un])) from xseq_nx (xof_eq (setd_eq h rfl)) (xseq_ex (xif_t q (xraise_eq rfl)))]
  exact endc_ex
theorem say_other (line : PyData) (h : isiD "str" line = some (.bool false)) : fk_say CC C d0 [line] = some (.inr ⟨"InvalidLine", [("given", line)]⟩, d0) :=
  say_odd line (mIf_f (mT_eq (m1_eq rfl h)) rfl)
theorem found_eq (L : List Nat) (h : L.length ≤ 600) (hc : Ok L) : mIf (mT (m1 (isiD "str") (eVar 1))) (mFz (mCall f_line_parts (aCons (eVar 1) aNil))) (mFz (mLst aNil)) [.con CC C "site" "past" d0, .dat (sT L), .un, .un, .un] = some (.list (partsL L), [.con CC C "site" "past" d0, .dat (sT L), .un, .un, .un]) :=
  mIf_t (mT_eq (m1_eq rfl rfl)) (call_eq (ds := [sT L]) rfl (x_line_parts L h hc))
theorem say_form {q : PyData ⊕ Xn} {d' : PyData} (line : PyData) (v : Str) (a : PyData) (b : Bool) (h : mIf (mT (m1 (isiD "str") (eVar 1))) (mFz (mCall f_line_parts (aCons (eVar 1) aNil))) (mFz (mLst aNil)) [.con CC C "site" "past" d0, .dat line, .un, .un, .un] = some (.list [.tuple [.str v, a]], [.con CC C "site" "past" d0, .dat line, .un, .un, .un]))
    (hs : eqD (.list [.tuple [.str v, a]]) (.list []) = some (.bool false)) (hb : inD (.str v) (.tuple [.str "put", .str "take", .str "undo"]) = some (.bool b))
    (hq : (if b = true then fk_do CC C d0 [.str v, a] else fk_told CC C d0 [.str v]) = some (q, d')) : fk_say CC C d0 [line] = some (q, d') := by
  show endM (conD CC "site" C "past") (gk_Console_say CC C [.con CC C "site" "past" d0, .dat line, .un, .un, .un]) = _
  have e1 : mT (m2 eqD (eVar 2) (mFz (mLst aNil))) [.con CC C "site" "past" d0, .dat line, .dat (.list [.tuple [.str v, a]]), .un, .un] = some (false, [.con CC C "site" "past" d0, .dat line, .dat (.list [.tuple [.str v, a]]), .un, .un]) := mT_eq (m2_eq rfl rfl hs)
  have e2 : sAsg (m2 ixD (eVar 2) (eC (.int 0))) (tgTup 2 (tgCons (tgN 3) (tgCons (tgN 4) tgNil))) [.con CC C "site" "past" d0, .dat line, .dat (.list [.tuple [.str v, a]]), .un, .un] = some (.nx [.con CC C "site" "past" d0, .dat line, .dat (.list [.tuple [.str v, a]]), .dat (.str v), .dat a]) :=
    asg_eq (d := .tuple [.str v, a]) (m2_eq rfl rfl rfl) rfl
  have e3 : mT (m2 inD (eVar 3) (mTup (aCons (eC (.str "put")) (aCons (eC (.str "take")) (aCons (eC (.str "undo")) aNil))))) [.con CC C "site" "past" d0, .dat line, .dat (.list [.tuple [.str v, a]]), .dat (.str v), .dat a] = some (b, [.con CC C "site" "past" d0, .dat line, .dat (.list [.tuple [.str v, a]]), .dat (.str v), .dat a]) := mT_eq (m2_eq rfl rfl hb)
  have e4 : xIfE (mT (m2 inD (eVar 3) (mTup (aCons (eC (.str "put")) (aCons (eC (.str "take")) (aCons (eC (.str "undo")) aNil)))))) (xMeth 0 (kdB CC "site" C "past") C "past" (fk_do CC C) (aCons (eVar 3) (aCons (eVar 4) aNil))) (xMeth 0 (kdB CC "site" C "past") C "past" (fk_told CC C) (aCons (eVar 3) aNil)) [.con CC C "site" "past" d0, .dat line, .dat (.list [.tuple [.str v, a]]), .dat (.str v), .dat a] =
      some (q.elim (fun y => .inl (.dat y)) .inr, [.con CC C "site" "past" d', .dat line, .dat (.list [.tuple [.str v, a]]), .dat (.str v), .dat a]) := by
    cases b with
    | true => exact xifE_t e3 (meth_self (ds := [.str v, a]) (r := [.dat line, .dat (.list [.tuple [.str v, a]]), .dat (.str v), .dat a]) rfl rfl hq)
    | false => exact xifE_f e3 (meth_self (ds := [.str v]) (r := [.dat line, .dat (.list [.tuple [.str v, a]]), .dat (.str v), .dat a]) rfl rfl hq)
  cases q with
  | inl y =>
    rw [show gk_Console_say CC C [.con CC C "site" "past" d0, .dat line, .un, .un, .un] = some (.inl (.rt (.dat y) [.con CC C "site" "past" d', .dat line, .dat (.list [.tuple [.str v, a]]), .dat (.str v), .dat a])) from xseq_nx (xof_eq (setd_eq h rfl)) (xseq_nx (xif_f e1 (xof_eq rfl)) (xseq_nx (xof_eq e2) (xret_nx e4)))]
    exact endc_rt
  | inr x =>
    rw [show gk_Console_say CC C [.con CC C "site" "past" d0, .dat line, .un, .un, .un] = some (.inr (x, [.con CC C "site" "past" d', .dat line, .dat (.list [.tuple [.str v, a]]), .dat (.str v), .dat a])) from xseq_nx (xof_eq (setd_eq h rfl)) (xseq_nx (xif_f e1 (xof_eq rfl)) (xseq_nx (xof_eq e2) (xret_ex e4)))]
    exact endc_ex
end
inductive Form : List Nat → PyData → Prop
  | odd {L : List Nat} : Form L .none
  | plain {L : List Nat} (w : Str) (h : w ∈ (["undo", "area", "shape", "covers", "rim", "lattices"] : List Str)) : Form L (.tuple [.str w, .none])
  | cell {L : List Nat} (v : Str) (h : v ∈ (["put", "take"] : List Str)) (c : Ce) : Form L (.tuple [.str v, cE c])
theorem form_of (L : List Nat) : Form L (formL L) := by
  unfold formL
  by_cases h : isPl L = true
  · rw [if_pos h]
    obtain ⟨p, hp, e⟩ := List.any_eq_true.mp h
    have e' : p = L := of_decide_eq_true e
    subst e'
    refine .plain (T p) ?_
    have : (["undo", "area", "shape", "covers", "rim", "lattices"] : List Str) = plains.map T := by decide +kernel
    rw [this]
    exact List.mem_map_of_mem hp
  · rw [if_neg h]
    unfold num3
    split
    · split
      · rename_i w0 w1 w2 _ hh
        obtain ⟨p, hp, e⟩ := List.any_eq_true.mp hh.1
        have e' : p = w0 := of_decide_eq_true e
        subst e'
        refine .cell (T p) ?_ (valN w1, valN w2)
        have : (["put", "take"] : List Str) = verbs.map T := by decide +kernel
        rw [this]
        exact List.mem_map_of_mem hp
      · exact .odd
    · exact .odd
end Mx
namespace Mx
open Dn Tx
open PySem (PyData NestedKey Str Addr)
theorem lay_cs (cs : List Ce) : PyData.canLayAll0 (cs.map cE) = true := by
  induction cs with
  | nil => rfl
  | cons a r ih => show (PyData.canLay0 (cE a) && PyData.canLayAll0 (r.map cE)) = true; rw [ih]; rfl
theorem dep_cs (cs : List Ce) : PyData.depthAll (cs.map cE) ≤ 1 := by
  induction cs with
  | nil => exact Nat.zero_le _
  | cons a r ih =>
    show max (PyData.depth (cE a)) (PyData.depthAll (r.map cE)) ≤ 1
    have : PyData.depth (cE a) = 1 := rfl
    omega
theorem eq_nil (cs : List Ce) : eqD (.list (cs.map cE)) (.list []) = some (.bool (decide (cs = []))) := by
  have hs : PySem.SeqAt.shaped (.list (cs.map cE)) = true := by
    unfold PySem.SeqAt.shaped
    have h1 : (PyData.list (cs.map cE)).canLay0 = true := lay_cs cs
    have h2 : (PyData.list (cs.map cE)).depth ≤ 64 := by
      have := dep_cs cs
      show PyData.depthAll (cs.map cE) + 1 ≤ 64
      omega
    simp [h1, h2]
  show (if (PySem.SeqAt.shaped (.list (cs.map cE)) && PySem.SeqAt.shaped (.list [])) = true then some (PyData.bool (PyData.eqv (.list (cs.map cE)) (.list []))) else none) = _
  rw [hs]
  cases cs <;> rfl
theorem x_law_is_cell (c : Ce) : f_law_is_cell [cE c] = some (.dat (.bool (inR c))) := by
  have t : ∀ v : Int, mAnd (mFz (mCall f_law_is_whole (aCons (eVar 1) aNil))) (m3c ltD ltD (m2 subD (eC (.int 0)) (eC (.int 100))) (eVar 1) (eC (.int 100))) [.dat (cE c), .dat (.int v)] = some (.bool (decide (-100 < v) && decide (v < 100)), [.dat (cE c), .dat (.int v)]) := fun v => by
    have e1 : mFz (mCall f_law_is_whole (aCons (eVar 1) aNil)) [.dat (cE c), .dat (.int v)] = some (.bool true, [.dat (cE c), .dat (.int v)]) := by kernel_rfl
    refine mAnd_t e1 ?_
    have a0 : m2 subD (eC (.int 0)) (eC (.int 100)) [.dat (cE c), .dat (.int v)] = some (.int (-100), [.dat (cE c), .dat (.int v)]) := rfl
    have a1 : eVar 1 [.dat (cE c), .dat (.int v)] = some (.int v, [.dat (cE c), .dat (.int v)]) := rfl
    have a2 : eC (.int 100) [.dat (cE c), .dat (.int v)] = some (.int 100, [.dat (cE c), .dat (.int v)]) := rfl
    have l1 : ltD (.int (-100)) (.int v) = some (.bool (decide (-100 < v))) := rfl
    have l2 : ltD (.int v) (.int 100) = some (.bool (decide (v < 100))) := rfl
    unfold m3c
    simp only [a0, a1, a2, l1, l2]
    cases decide (-100 < v) <;> rfl
  have e2 : m2 notInD (eC (.bool false)) (mFz (mLst (mLC [1] (mItems (eVar 0)) (tgN 1) tAll (mAnd (mFz (mCall f_law_is_whole (aCons (eVar 1) aNil))) (m3c ltD ltD (m2 subD (eC (.int 0)) (eC (.int 100))) (eVar 1) (eC (.int 100))))))) [.dat (cE c), .un] = some (.bool (inR c), [.dat (cE c), .un]) := by
    refine m2_eq (y := .list ([c.1, c.2].map fun v => .bool (decide (-100 < v) && decide (v < 100)))) rfl (fz_lst (mLC_eq (ρ1 := [.dat (cE c), .un]) (ρ2 := [.dat (cE c), .un]) (ρ3 := [.dat (cE c), .un]) (ds := [c.1, c.2].map PyData.int) rfl rfl (lc_cells PyData.int (fun v => .bool (decide (-100 < v) && decide (v < 100))) _ [c.1, c.2] fun v _ =>
      ⟨[.dat (cE c), .dat (.int v)], [.dat (cE c), .dat (.int v)], rfl, t v, rfl⟩) rfl (by simp))) ?_
    have hR : inR c = ((decide (-100 < c.1) && decide (c.1 < 100)) && (decide (-100 < c.2) && decide (c.2 < 100))) := by
      unfold inR
      rw [show decide (-99 ≤ c.1) = decide (-100 < c.1) from decide_eq_decide.mpr (by omega), show decide (c.1 ≤ 99) = decide (c.1 < 100) from decide_eq_decide.mpr (by omega), show decide (-99 ≤ c.2) = decide (-100 < c.2) from decide_eq_decide.mpr (by omega), show decide (c.2 ≤ 99) = decide (c.2 < 100) from decide_eq_decide.mpr (by omega)]
    rw [hR]
    show notInD (.bool false) (.list [.bool (decide (-100 < c.1) && decide (c.1 < 100)), .bool (decide (-100 < c.2) && decide (c.2 < 100))]) = _
    cases (decide (-100 < c.1) && decide (c.1 < 100)) <;> cases (decide (-100 < c.2) && decide (c.2 < 100)) <;> kernel_rfl
  exact run_rt (m := 1) (ρ := [.dat (cE c), .un]) (ret_eq (mAnd_t (m1_eq (d := cE c) rfl rfl) (mAnd_t (m2_eq (x := .int 2) (m1_eq (d := cE c) rfl rfl) rfl rfl) e2)))
def lbes (c : Ce) : List Ce := [(c.1 - 1, c.2), (c.1, c.2 - 1), (c.1, c.2 + 1), (c.1 + 1, c.2)]
theorem x_law_beside (c : Ce) : f_law_beside [cE c] = some (.dat (.list ((lbes c).map cE))) := by kernel_rfl
theorem filter_any {α : Type} [DecidableEq α] (l : List α) (p : α → Bool) : decide (l.filter p = []) = !l.any p := by
  induction l with
  | nil => rfl
  | cons a r ih =>
    rw [List.any_cons, List.filter_cons]
    cases p a with
    | true => simp
    | false => simpa using ih
theorem lbes_any (c : Ce) : (lbes c).any (fun o => decide ((0, 0) = o)) = adj c := by
  obtain ⟨x, y⟩ := c
  have e1 : x + 0 = x := Int.add_zero x
  have e2 : y + 0 = y := Int.add_zero y
  have e3 : x + -1 = x - 1 := rfl
  have e4 : y + -1 = y - 1 := rfl
  simp only [adj, bes, lbes, List.any_cons, List.any_nil, e1, e2, e3, e4]
  cases decide (((0, 0) : Ce) = (x - 1, y)) <;> cases decide (((0, 0) : Ce) = (x, y - 1)) <;> cases decide (((0, 0) : Ce) = (x, y + 1)) <;> cases decide (((0, 0) : Ce) = (x + 1, y)) <;> rfl
theorem lbes_adj (c : Ce) : decide ((lbes c).filter (fun o => decide ((0, 0) = o)) = []) = !adj c := by rw [filter_any, lbes_any]
/-- what the law takes as due -/
def dueC (v : Str) (c : Ce) : PyData := if inR c = false then .tuple [.str "cell", cE c] else if (decide (v = "take") || (decide ((0, 0) = c) || !adj c)) = true then .tuple [.str "now", cE c] else .tuple [.str "told", .none]
theorem due_none (line : PyData) (hf : f_law_form [line] = some (.dat .none)) : f_law_due [line, c0] = some (.dat (.tuple [.str "line", line])) :=
  run_rt (m := 4) (ρ := [.dat line, .dat c0, .dat .none, .un, .un, .un]) (seq_nx (setd_eq (d := .none) (ρ1 := [.dat line, .dat c0, .un, .un, .un, .un]) (call_eq (ds := [line]) rfl hf) rfl) (seq_rt (if_true' (ρ1 := [.dat line, .dat c0, .dat .none, .un, .un, .un]) (mT_eq (m2_eq rfl rfl rfl)) (ret_eq rfl))))
theorem due_asg (line : PyData) (v : Str) (a : PyData) (hf : f_law_form [line] = some (.dat (.tuple [.str v, a]))) {r : Option Out} {h : MS}
    (hr : h [.dat line, .dat c0, .dat (.tuple [.str v, a]), .dat (.str v), .dat a, .un] = r) :
    sSeq (sSet 2 (mDat (mFz (mCall f_law_form (aCons (eVar 0) aNil))))) (sSeq (sIf (mT (m2 isD (eVar 2) (eC .none))) (sRet (mTup (aCons (eC (.str "line")) (aCons (eVar 0) aNil)))) sNil) (sSeq (sAsg (eVar 2) (tgTup 2 (tgCons (tgN 3) (tgCons (tgN 4) tgNil)))) h)) [.dat line, .dat c0, .un, .un, .un, .un] = r := by
  refine seq_nx (setd_eq (d := .tuple [.str v, a]) (ρ1 := [.dat line, .dat c0, .un, .un, .un, .un]) (call_eq (ds := [line]) rfl hf) rfl) (seq_nx (if_false' (ρ1 := [.dat line, .dat c0, .dat (.tuple [.str v, a]), .un, .un, .un]) (mT_eq (m2_eq rfl rfl rfl)) rfl) (seq_nx (asg_eq (d := .tuple [.str v, a]) (ρ1 := [.dat line, .dat c0, .dat (.tuple [.str v, a]), .un, .un, .un]) rfl rfl) hr))
def dueP (w : Str) : PyData := if w = "undo" then .tuple [.str "nothing", .none] else .tuple [.str "told", .none]
theorem due_plain (line : PyData) (w : Str) (h : w ∈ (["undo", "area", "shape", "covers", "rim", "lattices"] : List Str)) (hf : f_law_form [line] = some (.dat (.tuple [.str w, .none]))) : f_law_due [line, c0] = some (.dat (dueP w)) := by
  have fin : ∀ (d : PyData) (ρ : Env), g_law_due [.dat line, .dat c0, .un, .un, .un, .un] = some (.rt (.dat d) ρ) → f_law_due [line, c0] = some (.dat d) := fun d ρ e => run_rt (m := 4) (ρ := ρ) e
  simp only [List.mem_cons, List.not_mem_nil, or_false] at h
  rcases h with rfl | rfl | rfl | rfl | rfl | rfl
  · exact fin (dueP "undo") [.dat line, .dat c0, .dat (.tuple [.str "undo", .none]), .dat (.str "undo"), .dat .none, .un] (due_asg line "undo" .none hf (by kernel_rfl))
  · exact fin (dueP "area") [.dat line, .dat c0, .dat (.tuple [.str "area", .none]), .dat (.str "area"), .dat .none, .un] (due_asg line "area" .none hf (by kernel_rfl))
  · exact fin (dueP "shape") [.dat line, .dat c0, .dat (.tuple [.str "shape", .none]), .dat (.str "shape"), .dat .none, .un] (due_asg line "shape" .none hf (by kernel_rfl))
  · exact fin (dueP "covers") [.dat line, .dat c0, .dat (.tuple [.str "covers", .none]), .dat (.str "covers"), .dat .none, .un] (due_asg line "covers" .none hf (by kernel_rfl))
  · exact fin (dueP "rim") [.dat line, .dat c0, .dat (.tuple [.str "rim", .none]), .dat (.str "rim"), .dat .none, .un] (due_asg line "rim" .none hf (by kernel_rfl))
  · exact fin (dueP "lattices") [.dat line, .dat c0, .dat (.tuple [.str "lattices", .none]), .dat (.str "lattices"), .dat .none, .un] (due_asg line "lattices" .none hf (by kernel_rfl))
theorem due_cell (line : PyData) (v : Str) (h : v ∈ (["put", "take"] : List Str)) (c : Ce) (hf : f_law_form [line] = some (.dat (.tuple [.str v, cE c]))) : f_law_due [line, c0] = some (.dat (dueC v c)) := by
  have fin : ∀ (d : PyData) (ρ : Env), g_law_due [.dat line, .dat c0, .un, .un, .un, .un] = some (.rt (.dat d) ρ) → f_law_due [line, c0] = some (.dat d) := fun d ρ e => run_rt (m := 4) (ρ := ρ) e
  have hu : eqD (.str v) (.str "undo") = some (.bool false) ∧ inD (.str v) (.tuple [.str "put", .str "take"]) = some (.bool true) ∧ eqD (.str v) (.str "take") = some (.bool (decide (v = "take"))) := by
    simp only [List.mem_cons, List.not_mem_nil, or_false] at h
    rcases h with rfl | rfl
    · exact ⟨by kernel_rfl, by kernel_rfl, rfl⟩
    · exact ⟨by kernel_rfl, by kernel_rfl, rfl⟩
  have q0 : mT (m2 eqD (eVar 3) (eC (.str "undo"))) [.dat line, .dat c0, .dat (.tuple [.str v, cE c]), .dat (.str v), .dat (cE c), .un] = some (false, [.dat line, .dat c0, .dat (.tuple [.str v, cE c]), .dat (.str v), .dat (cE c), .un]) := mT_eq (m2_eq rfl rfl hu.1)
  have q1 : mT (m2 inD (eVar 3) (mTup (aCons (eC (.str "put")) (aCons (eC (.str "take")) aNil)))) [.dat line, .dat c0, .dat (.tuple [.str v, cE c]), .dat (.str v), .dat (cE c), .un] = some (true, [.dat line, .dat c0, .dat (.tuple [.str v, cE c]), .dat (.str v), .dat (cE c), .un]) := mT_eq (m2_eq rfl rfl hu.2.1)
  have q2 : tNotM (mT (mFz (mCall f_law_is_cell (aCons (eVar 4) aNil)))) [.dat line, .dat c0, .dat (.tuple [.str v, cE c]), .dat (.str v), .dat (cE c), .un] = some (!inR c, [.dat line, .dat c0, .dat (.tuple [.str v, cE c]), .dat (.str v), .dat (cE c), .un]) := tnot_eq (mT_eq (call_eq (ds := [cE c]) rfl (x_law_is_cell c)))
  unfold dueC
  cases hi : inR c with
  | false =>
    rw [hi] at q2
    exact fin _ _ (due_asg line v (cE c) hf (seq_nx (if_false' q0 rfl) (seq_rt (if_true' q1 (seq_rt (if_true' q2 (ret_eq rfl)))))))
  | true =>
    rw [hi] at q2
    have q3 : tOrM (mT (m2 eqD (eVar 3) (eC (.str "take")))) (tOrM (mT (m2 inD (eVar 4) (eLoc 1))) (mT (m2 eqD (mFz (mLst (mLC [5] (mItems (mFz (mCall f_law_beside (aCons (eVar 4) aNil)))) (tgN 5) (mT (m2 inD (eVar 5) (eLoc 1))) (eVar 5)))) (mFz (mLst aNil))))) [.dat line, .dat c0, .dat (.tuple [.str v, cE c]), .dat (.str v), .dat (cE c), .un] = some (decide (v = "take") || (decide ((0, 0) = c) || !adj c), [.dat line, .dat c0, .dat (.tuple [.str v, cE c]), .dat (.str v), .dat (cE c), .un]) := by
      have r1 : mT (m2 eqD (eVar 3) (eC (.str "take"))) [.dat line, .dat c0, .dat (.tuple [.str v, cE c]), .dat (.str v), .dat (cE c), .un] = some (decide (v = "take"), [.dat line, .dat c0, .dat (.tuple [.str v, cE c]), .dat (.str v), .dat (cE c), .un]) := mT_eq (m2_eq rfl rfl hu.2.2)
      have r2 : mT (m2 inD (eVar 4) (eLoc 1)) [.dat line, .dat c0, .dat (.tuple [.str v, cE c]), .dat (.str v), .dat (cE c), .un] = some (decide ((0, 0) = c), [.dat line, .dat c0, .dat (.tuple [.str v, cE c]), .dat (.str v), .dat (cE c), .un]) := mT_eq (m2_eq (y := c0) rfl rfl (in_c0 c))
      have r3 : mT (m2 eqD (mFz (mLst (mLC [5] (mItems (mFz (mCall f_law_beside (aCons (eVar 4) aNil)))) (tgN 5) (mT (m2 inD (eVar 5) (eLoc 1))) (eVar 5)))) (mFz (mLst aNil))) [.dat line, .dat c0, .dat (.tuple [.str v, cE c]), .dat (.str v), .dat (cE c), .un] = some (!adj c, [.dat line, .dat c0, .dat (.tuple [.str v, cE c]), .dat (.str v), .dat (cE c), .un]) := by
        refine mT_eq (m2_eq (x := .list (((lbes c).filter (fun o => decide ((0, 0) = o))).map cE)) (fz_lst (mLC_eq (ρ1 := [.dat line, .dat c0, .dat (.tuple [.str v, cE c]), .dat (.str v), .dat (cE c), .un]) (ρ2 := [.dat line, .dat c0, .dat (.tuple [.str v, cE c]), .dat (.str v), .dat (cE c), .un]) (ρ3 := [.dat line, .dat c0, .dat (.tuple [.str v, cE c]), .dat (.str v), .dat (cE c), .un]) (ds := (lbes c).map cE) (items_eq (call_eq (ds := [cE c]) rfl (x_law_beside c)) rfl) rfl (lc_map cE cE (fun o => decide ((0, 0) = o)) _ (lbes c) fun o _ =>
          ⟨[.dat line, .dat c0, .dat (.tuple [.str v, cE c]), .dat (.str v), .dat (cE c), .dat (cE o)], [.dat line, .dat c0, .dat (.tuple [.str v, cE c]), .dat (.str v), .dat (cE c), .dat (cE o)], rfl, mT_eq (m2_eq (y := c0) rfl rfl (in_c0 o)), fun _ => rfl, fun _ => ⟨_, rfl, rfl⟩⟩) rfl ?_)) rfl ?_)
        · rw [List.length_map]
          exact Nat.le_trans (List.length_filter_le _ _) (by simp [lbes])
        · rw [eq_nil, lbes_adj]
      cases h1 : decide (v = "take") with
      | true => rw [h1] at r1; exact tOr_t r1
      | false =>
        rw [h1] at r1
        refine tOr_f r1 ?_
        cases h2 : decide (((0, 0) : Ce) = c) with
        | true => rw [h2] at r2; exact tOr_t r2
        | false => rw [h2] at r2; exact tOr_f r2 r3
    cases hn : (decide (v = "take") || (decide ((0, 0) = c) || !adj c)) with
    | true =>
      rw [hn] at q3
      exact fin _ _ (due_asg line v (cE c) hf (seq_nx (if_false' q0 rfl) (seq_rt (if_true' q1 (seq_nx (if_false' q2 rfl) (if_true' q3 (ret_eq rfl)))))))
    | false =>
      rw [hn] at q3
      exact fin _ _ (due_asg line v (cE c) hf (seq_nx (if_false' q0 rfl) (seq_nx (if_true' q1 (seq_nx (if_false' q2 rfl) (if_false' q3 rfl))) (ret_eq rfl))))
end Mx
namespace Mx
open Dn Tx
open PySem (PyData NestedKey Str Addr)
inductive Good : Nat → PyData → Prop
  | non {n : Nat} : Good (n + 1) .none
  | int {n : Nat} (i : Int) : Good (n + 1) (.int i)
  | str {n : Nat} (z : Str) : Good (n + 1) (.str z)
  | tup {n : Nat} {xs : List PyData} (h : ∀ a ∈ xs, Good n a) (hz : xs.length ≤ 1000) : Good (n + 1) (.tuple xs)
  | lst {n : Nat} {xs : List PyData} (h : ∀ a ∈ xs, Good n a) (hz : xs.length ≤ 1000) : Good (n + 1) (.list xs)
theorem notIn_trues (xs : List PyData) : notInD (.bool false) (.list (xs.map fun _ => PyData.bool true)) = some (.bool true) := by
  have hl : PyData.canLayAll0 (xs.map fun _ => PyData.bool true) = true := by
    induction xs with
    | nil => rfl
    | cons a r ih => show (true && PyData.canLayAll0 (r.map fun _ => PyData.bool true)) = true; rw [ih]; rfl
  have hb : inB (.bool false) (.list (xs.map fun _ => PyData.bool true)) = some false := by
    show (if (PySem.SeqAt.shaped (.bool false) && PyData.canLayAll0 (xs.map fun _ => PyData.bool true)) = true then some ((xs.map fun _ => PyData.bool true).any fun z => PyData.eqv z (.bool false)) else none) = _
    rw [hl, show (PySem.SeqAt.shaped (.bool false) && true) = true from rfl, if_pos rfl]
    congr 1
    induction xs with
    | nil => rfl
    | cons a r ih =>
      rw [List.map_cons, List.any_cons]
      rw [ih (by
        have : (true && PyData.canLayAll0 (r.map fun _ => PyData.bool true)) = true := hl
        simpa using this)]
      rfl
  unfold notInD
  rw [hb]
  rfl
theorem zip_self (xs : List PyData) : zipP xs xs = xs.map fun a => .tuple [a, a] := by
  unfold zipP
  induction xs with
  | nil => rfl
  | cons a r ih => simp only [List.zip_cons_cons, List.map_cons, ih]
theorem same_seq {f : FD} (x : PyData) (xs : List PyData) (hx : x = .tuple xs ∨ x = .list xs) (hz : xs.length ≤ 1000) (h : ∀ a ∈ xs, f [a, a] = some (.dat (.bool true))) : runP' 2 (g_law_same f) [x, x] = some (.dat (.bool true)) := by
  have e1 : mT (m1 (isi2D "tuple" "list") (eVar 0)) [.dat x, .dat x, .un, .un] = some (true, [.dat x, .dat x, .un, .un]) := by
    rcases hx with rfl | rfl <;> exact mT_eq (m1_eq rfl (by kernel_rfl))
  have e2 : tOrM (mT (m2 neD (m1 (isiD "tuple") (eVar 0)) (m1 (isiD "tuple") (eVar 1)))) (mT (m2 neD (m1 (isiD "list") (eVar 0)) (m1 (isiD "list") (eVar 1)))) [.dat x, .dat x, .un, .un] = some (false, [.dat x, .dat x, .un, .un]) := by
    rcases hx with rfl | rfl
    · exact tOr_f (mT_eq (m2_eq (x := .bool true) (y := .bool true) (m1_eq rfl (by kernel_rfl)) (m1_eq rfl (by kernel_rfl)) (by kernel_rfl))) (mT_eq (m2_eq (x := .bool false) (y := .bool false) (m1_eq rfl (by kernel_rfl)) (m1_eq rfl (by kernel_rfl)) (by kernel_rfl)))
    · exact tOr_f (mT_eq (m2_eq (x := .bool false) (y := .bool false) (m1_eq rfl (by kernel_rfl)) (m1_eq rfl (by kernel_rfl)) (by kernel_rfl))) (mT_eq (m2_eq (x := .bool true) (y := .bool true) (m1_eq rfl (by kernel_rfl)) (m1_eq rfl (by kernel_rfl)) (by kernel_rfl)))
  have e3 : m2 eqD (m1 lenD (eLoc 0)) (m1 lenD (eLoc 1)) [.dat x, .dat x, .un, .un] = some (.bool true, [.dat x, .dat x, .un, .un]) := by
    refine m2_eq (x := .int xs.length) (y := .int xs.length) (m1_eq rfl ?_) (m1_eq rfl ?_) (by rw [eqD_int]; simp)
    · rcases hx with rfl | rfl <;> rfl
    · rcases hx with rfl | rfl <;> rfl
  have e4 : mZip (aCons (eVar 0) (aCons (eVar 1) aNil)) [.dat x, .dat x, .un, .un] = some (xs.map (fun a => .tuple [a, a]), [.dat x, .dat x, .un, .un]) := by
    rw [← zip_self]
    rcases hx with rfl | rfl <;> rfl
  have e5 : m2 notInD (eC (.bool false)) (mFz (mLst (mLC [2, 3] (mZip (aCons (eVar 0) (aCons (eVar 1) aNil))) (tgTup 2 (tgCons (tgN 2) (tgCons (tgN 3) tgNil))) tAll (mFz (mCall f (aCons (eVar 2) (aCons (eVar 3) aNil))))))) [.dat x, .dat x, .un, .un] = some (.bool true, [.dat x, .dat x, .un, .un]) :=
    m2_eq rfl (fz_lst (mLC_eq (ρ1 := [.dat x, .dat x, .un, .un]) (ρ2 := [.dat x, .dat x, .un, .un]) (ρ3 := [.dat x, .dat x, .un, .un]) e4 rfl (lc_cells (fun a => .tuple [a, a]) (fun _ => .bool true) _ xs fun a ha =>
      ⟨[.dat x, .dat x, .dat a, .dat a], [.dat x, .dat x, .dat a, .dat a], rfl, call_eq (ds := [a, a]) rfl (h a ha), rfl⟩) rfl (by rw [List.length_map]; omega))) (notIn_trues xs)
  exact run_rt (m := 2) (ρ := [.dat x, .dat x, .un, .un]) (seq_rt (if_true' e1 (seq_nx (if_false' e2 rfl) (ret_eq (mAnd_t e3 e5)))))
theorem same_refl : ∀ (n : Nat) (x : PyData), Good n x → fr_law_same n [x, x] = some (.dat (.bool true))
  | 0, x, h => by cases h
  | n + 1, x, h => by
    show runP' 2 (g_law_same (fr_law_same n)) [x, x] = _
    cases h with
    | non => kernel_rfl
    | int i =>
      have e : m2 eqD (eVar 0) (eVar 1) [.dat (.int i), .dat (.int i), .un, .un] = some (.bool true, [.dat (.int i), .dat (.int i), .un, .un]) := m2_eq rfl rfl (by rw [eqD_int]; simp)
      exact run_rt (m := 2) (ρ := [.dat (.int i), .dat (.int i), .un, .un]) (seq_nx (if_false' (ρ1 := [.dat (.int i), .dat (.int i), .un, .un]) (by kernel_rfl) rfl) (seq_nx (if_false' (ρ1 := [.dat (.int i), .dat (.int i), .un, .un]) (by kernel_rfl) rfl) (ret_eq (mAnd_t (ρ1 := [.dat (.int i), .dat (.int i), .un, .un]) (by kernel_rfl) e))))
    | str z =>
      have e : m2 eqD (eVar 0) (eVar 1) [.dat (.str z), .dat (.str z), .un, .un] = some (.bool true, [.dat (.str z), .dat (.str z), .un, .un]) := m2_eq rfl rfl (by show some (PyData.bool (decide (z = z))) = _; simp)
      exact run_rt (m := 2) (ρ := [.dat (.str z), .dat (.str z), .un, .un]) (seq_nx (if_false' (ρ1 := [.dat (.str z), .dat (.str z), .un, .un]) (by kernel_rfl) rfl) (seq_nx (if_false' (ρ1 := [.dat (.str z), .dat (.str z), .un, .un]) (by kernel_rfl) rfl) (ret_eq (mAnd_t (ρ1 := [.dat (.str z), .dat (.str z), .un, .un]) (by kernel_rfl) e))))
    | tup hx hz => exact same_seq _ _ (.inl rfl) hz fun a ha => same_refl n a (hx a ha)
    | lst hx hz => exact same_seq _ _ (.inr rfl) hz fun a ha => same_refl n a (hx a ha)
theorem x_same (x : PyData) (h : Good 5 x) : f_law_same [x, x] = some (.dat (.bool true)) := same_refl 5 x h
end Mx
namespace Mx
open Dn Tx
open PySem (PyData NestedKey Str Addr)
theorem callI_eq {i : Nat} {f : FI} {fr : M (List PyData)} {ρ ρ1 : Env} {os os0 os' : List PyData} {ds : List PyData} {s : Sl} (h0 : ρ[i]? = some (Sl.own os0)) (h1 : fr ρ = some (ds, ρ1)) (h2 : ρ1[i]? = some (Sl.own os)) (h3 : f os ds = some (s, os')) : mCallI i f fr ρ = some (s, ρ1.set i (.own os')) := by
  unfold mCallI
  have : isOwn i ρ = true := by unfold isOwn; rw [h0]
  rw [if_pos this]
  simp only [h1, h2, h3]
theorem fzd_eq {fs : M Sl} {ρ ρ1 : Env} {d : PyData} (h : fs ρ = some (.dat d, ρ1)) : mFz fs ρ = some (d, ρ1) := by
  unfold mFz; simp only [h]
section
variable {C CC : Addr}
theorem meth_at1 {F : FM} {fr : M (List PyData)} {ds : List PyData} {q : PyData ⊕ Xn} {o0 : List PyData} {d d' : PyData} {r : Env} (hr : r.all (fun s => !isOb s) = true) (h1 : fr (.own o0 :: .con CC C "site" "past" d :: r) = some (ds, .own o0 :: .con CC C "site" "past" d :: r)) (h2 : F d ds = some (q, d')) :
    xMeth 1 (kdB CC "site" C "past") C "past" F fr (.own o0 :: .con CC C "site" "past" d :: r) = some (q.elim (fun y => .inl (.dat y)) .inr, .own o0 :: .con CC C "site" "past" d' :: r) := by
  have : sole 1 (.own o0 :: .con CC C "site" "past" d :: r) = true := by simpa [sole, isOb] using hr
  cases q <;> simp [xMeth, kdB, obD, this, h1, h2, obSet]
def resP (q : PyData ⊕ Xn) (res : PyData) : Prop := match q with
  | .inl y => (∃ z, y = .str z) ∧ res = .tuple [.str "told", .none]
  | .inr x => okc x.cls = true ∧ resOf x = some res
theorem x_said {os os' : List PyData} {k : Int} {line : PyData} {q : PyData ⊕ Xn} {d' : PyData} {res : PyData} (hn : f_law_nip os [.int 2] = some (.dat (.int k), os')) (hs : fk_say CC C d0 [line] = some (q, d')) (hq : resP q res) : f_said CC C os d0 line = some (res, os', d') := by
  show endS CC "site" C "past" (g_said CC C [.own os, .con CC C "site" "past" d0, .dat line, .un, .un, .un, .un]) = _
  have e1 : mT (m2 eqD (mFz (mCallI 0 f_law_nip (aCons (eC (.int 2)) aNil))) (eC (.int 0))) [.own os, .con CC C "site" "past" d0, .dat line, .un, .un, .un, .un] = some (decide (k = 0), [.own os', .con CC C "site" "past" d0, .dat line, .un, .un, .un, .un]) :=
    mT_eq (m2_eq (fzd_eq (callI_eq (ρ1 := [.own os, .con CC C "site" "past" d0, .dat line, .un, .un, .un, .un]) (os := os) rfl rfl rfl hn)) rfl (eqD_int k 0))
  have e2 : xMeth 1 (kdB CC "site" C "past") C "past" (fk_say CC C) (aCons (eVar 2) aNil) [.own os', .con CC C "site" "past" d0, .dat line, .un, .un, .un, .un] = some (q.elim (fun y => .inl (.dat y)) .inr, [.own os', .con CC C "site" "past" d', .dat line, .un, .un, .un, .un]) := meth_at1 (ds := [line]) rfl rfl hs
  have e3 : xIfE (mT (m2 eqD (mFz (mCallI 0 f_law_nip (aCons (eC (.int 2)) aNil))) (eC (.int 0)))) (xMeth 1 (kdB CC "site" C "past") C "past" (fk_say CC C) (aCons (eVar 2) aNil)) (xMeth 1 (kdB CC "site" C "past") C "past" (fk_say CC C) (aCons (eVar 2) aNil)) [.own os, .con CC C "site" "past" d0, .dat line, .un, .un, .un, .un] = some (q.elim (fun y => .inl (.dat y)) .inr, [.own os', .con CC C "site" "past" d', .dat line, .un, .un, .un, .un]) := by
    cases hk : decide (k = 0) with
    | true => rw [hk] at e1; exact xifE_t e1 e2
    | false => rw [hk] at e1; exact xifE_f e1 e2
  have fin : ∀ (ρ : Env) , g_said CC C [.own os, .con CC C "site" "past" d0, .dat line, .un, .un, .un, .un] = some (.rt (.dat res) (.own os' :: .con CC C "site" "past" d' :: ρ)) → endS CC "site" C "past" (g_said CC C [.own os, .con CC C "site" "past" d0, .dat line, .un, .un, .un, .un]) = some (res, os', d') := fun ρ e => by
    rw [e]
    simp [endS]
  cases q with
  | inl y =>
    obtain ⟨⟨z, rfl⟩, rfl⟩ := hq
    have g1 : gb_said CC C [.own os, .con CC C "site" "past" d0, .dat line, .un, .un, .un, .un] = some (.inl (.rt (.dat (.tuple [.str "told", .none])) [.own os', .con CC C "site" "past" d', .dat line, .dat (.str z), .un, .un, .un])) := by
      refine xseq_nx (ρ1 := [.own os', .con CC C "site" "past" d', .dat line, .dat (.str z), .un, .un, .un]) ?_ (xof_eq (ret_eq (mIf_t (mT_eq (m1_eq rfl rfl)) rfl)))
      show xSet 3 _ _ = _
      unfold xSet
      rw [e3]
      rfl
    refine fin [.dat line, .dat (.str z), .un, .un, .un] ?_
    show sTry okc (gb_said CC C) hr_said _ = _
    unfold sTry
    rw [g1]
  | inr x =>
    obtain ⟨ok, hres⟩ := hq
    have g1 : gb_said CC C [.own os, .con CC C "site" "past" d0, .dat line, .un, .un, .un, .un] = some (.inr (x, [.own os', .con CC C "site" "past" d', .dat line, .un, .un, .un, .un])) := by
      refine xseq_ex ?_
      show xSet 3 _ _ = _
      unfold xSet
      rw [e3]
      rfl
    have h1 : hr_said x [.own os', .con CC C "site" "past" d', .dat line, .un, .un, .un, .un] = some (res, [.own os', .con CC C "site" "past" d', .dat line, .un, .un, .dat (.list (marksD x.cls)), .dat (wordOf x.cls)]) := by
      show (resOf x).map _ = _
      rw [hres]
      rfl
    refine fin [.dat line, .un, .un, .dat (.list (marksD x.cls)), .dat (wordOf x.cls)] ?_
    show sTry okc (gb_said CC C) hr_said _ = _
    unfold sTry
    rw [g1]
    simp only [ok, if_true, h1]
theorem res_line (line : PyData) : resP (.inr ⟨"InvalidLine", [("given", line)]⟩) (.tuple [.str "line", line]) := ⟨by kernel_rfl, by kernel_rfl⟩
theorem res_cell (c : Ce) : resP (.inr ⟨"InvalidCell", [("given", cE c)]⟩) (.tuple [.str "cell", cE c]) := ⟨by kernel_rfl, by kernel_rfl⟩
theorem res_now (c : Ce) : resP (.inr ⟨"NotNow", [("given", cE c)]⟩) (.tuple [.str "now", cE c]) := ⟨by kernel_rfl, by kernel_rfl⟩
theorem res_nothing : resP (.inr ⟨"NothingToUndo", []⟩) (.tuple [.str "nothing", .none]) := ⟨by kernel_rfl, by kernel_rfl⟩
/-- the cells behind a line -/
def after (L : List Nat) : PyData := match formL L with
  | .tuple [.str v, .tuple [.int x, .int y]] => if v = "put" ∧ inR (x, y) = true ∧ ((0, 0) : Ce) ≠ (x, y) ∧ adj (x, y) = true then .tuple [.tuple [c0, .tuple []], .tuple [.tuple (isortB leB [cE (0, 0), cE (x, y)]), .tuple []]] else d0
  | _ => d0
end
end Mx
namespace Mx
open Dn Tx
open PySem (PyData NestedKey Str Addr)
abbrev ur (a b c : Int) : List PyData := [.int a, .int b, .int c]
theorem runI_rt {m : Nat} {g : MS} {os os' ds : List PyData} {d : PyData} {r : Env} (h : g (.own os :: ds.map .dat ++ uns m) = some (.rt (.dat d) (.own os' :: r))) : runI' m g os ds = some (.dat d, os') := by
  unfold runI' cleanI runI
  rw [h]
  rfl
theorem fdiv_eq (a b : Int) (h : 0 < b ∧ b < 1073741824) : fdivD (.int a) (.int b) = some (.int (a / b)) := if_pos h
theorem divmod_eq (a b : Int) (h : 0 < b ∧ b < 1073741824) : divmodD (.int a) (.int b) = some (.tuple [.int (a / b), .int (a % b)]) := if_pos h
theorem mul_small1 (a b : Int) (h : -(2 ^ 64) < a ∧ a < 2 ^ 64) : mulD (.int a) (.int b) = some (.int (a * b)) := if_pos (.inl h)
theorem mod_eq (a b : Int) (h : 0 < b) : modD (.int a) (.int b) = some (.int (a % b)) := if_pos h
theorem ix_ur (a b c : Int) : ixD (.list (ur a b c)) (.int 0) = some (.int a) ∧ ixD (.list (ur a b c)) (.int 1) = some (.int b) ∧ ixD (.list (ur a b c)) (.int 2) = some (.int c) := ⟨rfl, rfl, rfl⟩
theorem mA2_eq {g : PyData → PyData → Option PyData} {f : M (List PyData)} {ρ ρ1 : Env} {x y z : PyData} (h1 : f ρ = some ([x, y], ρ1)) (h2 : g x y = some z) : mA2 g f ρ = some (z, ρ1) := by
  unfold mA2; simp only [h1, h2]
theorem x_nip (a b c m : Int) (ha : 0 ≤ a) (hm : 0 < m ∧ m < 1073741824) : ∃ k a' b' c' : Int, f_law_nip (ur a b c) [.int m] = some (.dat (.int k), ur a' b' c') ∧ 0 ≤ k ∧ k < m ∧ 0 ≤ a' := by
  have q : mT (m2 gtD (mLoc2 0 ixD (eC (.int 0))) (eC (.int 0))) [.own (ur a b c), .dat (.int m), .un, .un] = some (decide (0 < a), [.own (ur a b c), .dat (.int m), .un, .un]) := mT_eq (m2_eq (loc_ev (ur a b c) 0 0 (.int a) _ rfl rfl) rfl rfl)
  by_cases h0 : 0 < a
  · rw [decide_eq_true h0] at q
    refine ⟨a % m, a / m, b, c, runI_rt (m := 2) (r := [.dat (.int m), .dat (.int (a % m)), .un]) (seq_rt (if_true' q (seq_nx (ρ1 := [.own (ur (a / m) b c), .dat (.int m), .dat (.int (a % m)), .un]) (asg_eq (ρ1 := [.own (ur a b c), .dat (.int m), .un, .un]) (mA2_eq (x := .int a) (y := .int m) (aCons_eq (loc_ev (ur a b c) 0 0 (.int a) _ rfl rfl) rfl) (divmod_eq a m hm)) (by kernel_rfl)) (ret_eq rfl)))), Int.emod_nonneg _ (by omega), Int.emod_lt_of_pos _ hm.1, Int.ediv_nonneg ha (by omega)⟩
  · rw [decide_eq_false h0] at q
    have hl0 := Int.emod_nonneg (b * 41299 + (c + 1) * 50951 + 23) (show (2147483423 : Int) ≠ 0 by decide)
    have hl1 := Int.emod_lt_of_pos (b * 41299 + (c + 1) * 50951 + 23) (show (0 : Int) < 2147483423 by decide)
    generalize hlap : (b * 41299 + (c + 1) * 50951 + 23) % 2147483423 = lap at hl0 hl1
    have s1 : sAsg (m2 addD (mLoc2 0 ixD (eC (.int 2))) (eC (.int 1))) (tgSub 0 (eC (.int 2))) [.own (ur a b c), .dat (.int m), .un, .un] = some (.nx [.own (ur a b (c + 1)), .dat (.int m), .un, .un]) :=
      asg_eq (ρ1 := [.own (ur a b c), .dat (.int m), .un, .un]) (d := .int (c + 1)) (m2_eq (loc_ev (ur a b c) 0 2 (.int c) _ rfl rfl) rfl rfl) (by kernel_rfl)
    have s2 : sSet 3 (mDat (m2 modD (m1 intD (m2 addD (m2 addD (m2 mulD (mLoc2 0 ixD (eC (.int 1))) (eC (.int 41299))) (m2 mulD (mLoc2 0 ixD (eC (.int 2))) (eC (.int 50951)))) (eC (.int 23)))) (eC (.int 2147483423)))) [.own (ur a b (c + 1)), .dat (.int m), .un, .un] = some (.nx [.own (ur a b (c + 1)), .dat (.int m), .un, .dat (.int lap)]) := by
      refine setd_eq (d := .int lap) (ρ1 := [.own (ur a b (c + 1)), .dat (.int m), .un, .un]) (m2_eq (m1_eq (d := .int (b * 41299 + (c + 1) * 50951 + 23)) (m2_eq (x := .int (b * 41299 + (c + 1) * 50951)) (m2_eq (m2_eq (loc_ev (ur a b (c + 1)) 0 1 (.int b) _ rfl rfl) rfl (mul_small _ _ (by decide))) (m2_eq (loc_ev (ur a b (c + 1)) 0 2 (.int (c + 1)) _ rfl rfl) rfl (mul_small _ _ (by decide))) rfl) rfl rfl) rfl) rfl ?_) rfl
      rw [mod_eq _ _ (by decide), hlap]
    have s3 : sAsg (m2 modD (m1 intD (m2 addD (m2 mulD (eVar 3) (m2 addD (m2 mulD (eC (.int 2)) (m2 fdivD (eVar 3) (eC (.int 37)))) (eC (.int 20011)))) (mLoc2 0 ixD (eC (.int 2))))) (eC (.int 2147483423))) (tgSub 0 (eC (.int 1))) [.own (ur a b (c + 1)), .dat (.int m), .un, .dat (.int lap)] =
        some (.nx [.own (ur a ((lap * (2 * (lap / 37) + 20011) + (c + 1)) % 2147483423) (c + 1)), .dat (.int m), .un, .dat (.int lap)]) :=
      asg_eq (ρ1 := [.own (ur a b (c + 1)), .dat (.int m), .un, .dat (.int lap)]) (d := .int ((lap * (2 * (lap / 37) + 20011) + (c + 1)) % 2147483423)) (m2_eq (m1_eq (d := .int (lap * (2 * (lap / 37) + 20011) + (c + 1))) (m2_eq (x := .int (lap * (2 * (lap / 37) + 20011))) (m2_eq (x := .int lap) (y := .int (2 * (lap / 37) + 20011)) rfl (m2_eq (m2_eq (x := .int 2) (y := .int (lap / 37)) rfl (m2_eq rfl rfl (fdiv_eq _ _ (by decide))) (mul_small1 _ _ (by decide))) rfl rfl) (mul_small1 _ _ ⟨by omega, by omega⟩)) (loc_ev (ur a b (c + 1)) 0 2 (.int (c + 1)) _ rfl rfl) rfl) rfl) rfl (mod_eq _ _ (by decide))) (by kernel_rfl)
    refine ⟨((lap * (2 * (lap / 37) + 20011) + (c + 1)) % 2147483423 / 103) % m, a, _, c + 1, runI_rt (m := 2) (r := [.dat (.int m), .un, .dat (.int lap)]) (seq_nx (if_false' q rfl) (seq_nx s1 (seq_nx s2 (seq_nx s3 (ret_eq (m2_eq (m1_eq (m2_eq (loc_ev _ 0 1 _ _ rfl (ix_ur _ _ _).2.1) rfl (fdiv_eq _ _ (by decide))) rfl) rfl (mod_eq _ _ hm.1))))))), Int.emod_nonneg _ (by omega), Int.emod_lt_of_pos _ hm.1, ha⟩
end Mx
namespace Mx
open Dn Tx
open PySem (PyData NestedKey Str Addr)
theorem ints_map (l : List Int) : intsOf (l.map PyData.int) = some l := by
  induction l with
  | nil => rfl
  | cons a r ih => simp [intsOf, ih]
theorem cut_map (l : List Int) (lo hi : Option Int) : cutD (l.map PyData.int) lo hi = ((l.drop (HT.sIx l.length 0 lo)).take (HT.sIx l.length l.length hi - HT.sIx l.length 0 lo)).map PyData.int := by
  unfold cutD
  rw [List.length_map, List.map_take, List.map_drop]
def bodyU : MS := sSet 3 (mDat (m2 modD (m1 intD (m2 addD (m2 addD (m2 mulD (eVar 3) (eC (.int 44789))) (m2 modD (m1 intD (eLoc 4)) (eC (.int 2147483179)))) (eC (.int 43)))) (eC (.int 2147483137))))
theorem urn_loop (a0 a1 a2 : Sl) : ∀ (l : List Int) (n : Int) (a4 : Sl), ∃ (n' : Int) (a4' : Sl), sLoop (tgN 4) bodyU (l.map PyData.int) [a0, a1, a2, .dat (.int n), a4] = some (.nx [a0, a1, a2, .dat (.int n'), a4'])
  | [], n, a4 => ⟨n, a4, rfl⟩
  | x :: l, n, a4 => by
    obtain ⟨n', a4', e⟩ := urn_loop a0 a1 a2 l ((n * 44789 + x % 2147483179 + 43) % 2147483137) (.dat (.int x))
    refine ⟨n', a4', loop_nx (ρ1 := [a0, a1, a2, .dat (.int n), .dat (.int x)]) rfl ?_ e⟩
    exact setd_eq (ρ1 := [a0, a1, a2, .dat (.int n), .dat (.int x)]) (m2_eq (m1_eq (d := .int (n * 44789 + x % 2147483179 + 43)) (m2_eq (x := .int (n * 44789 + x % 2147483179)) (m2_eq (x := .int (n * 44789)) (y := .int (x % 2147483179)) (m2_eq rfl rfl (mul_small _ _ (by decide))) (m2_eq (m1_eq rfl rfl) rfl (mod_eq _ _ (by decide))) rfl) rfl rfl) rfl) rfl (mod_eq _ _ (by decide))) rfl
theorem sln_eq {ds : List PyData} {i : Nat} {lo hi : Option Int} {fl fu : M (Option Int)} {ρ : Env} (h : eLoc i ρ = some (.list ds, ρ)) (h1 : fl ρ = some (lo, ρ)) (h2 : fu ρ = some (hi, ρ)) : mSlN i fl fu ρ = some (.list (cutD ds lo hi), ρ) := by
  unfold mSlN
  simp only [h, h1, h2]
theorem loc2_eq {ds : List PyData} {i : Nat} {g : PyData → PyData → Option PyData} {fb : M PyData} {ρ : Env} {y z : PyData} (h : eLoc i ρ = some (.list ds, ρ)) (h1 : fb ρ = some (y, ρ)) (h2 : g (.list ds) y = some z) : mLoc2 i g fb ρ = some (z, ρ) := by
  unfold mLoc2
  simp only [h, h1, h2]
theorem x_urn (ns : List Int) (lap : Int) (hl : lap = 0 ∨ lap = 1) : ∃ a b : Int, f_law_urn [.list (ns.map PyData.int), .int lap] = some (.own (ur a b 0)) ∧ 0 ≤ a := by
  have loc : ∀ r, eLoc 0 (.bor (.list (ns.map PyData.int)) :: r) = some (.list (ns.map PyData.int), .bor (.list (ns.map PyData.int)) :: r) := fun r => rfl
  have o1 : ∃ w : Int, mIf (mT (m2 ltD (eVar 1) (m1 lenD (eLoc 0)))) (m1 intD (mLoc2 0 ixD (eVar 1))) (m2 addD (m2 addD (m2 mulD (eC (.int 9551)) (eVar 1)) (eC (.int 479))) (m2 modD (m1 intD (m1 sumD (mSlN 0 mNoPart (mPart (eC (.int 5)))))) (eC (.int 999631)))) [.bor (.list (ns.map PyData.int)), .dat (.int lap), .un, .un, .un] = some (.int w, [.bor (.list (ns.map PyData.int)), .dat (.int lap), .un, .un, .un]) := by
    have q : mT (m2 ltD (eVar 1) (m1 lenD (eLoc 0))) [.bor (.list (ns.map PyData.int)), .dat (.int lap), .un, .un, .un] = some (decide (lap < ((ns.map PyData.int).length : Int)), [.bor (.list (ns.map PyData.int)), .dat (.int lap), .un, .un, .un]) := mT_eq (m2_eq rfl (m1_eq (loc _) rfl) rfl)
    by_cases hlt : lap < ((ns.map PyData.int).length : Int)
    · rw [decide_eq_true hlt] at q
      obtain ⟨w, hw⟩ : ∃ w : Int, ixD (.list (ns.map PyData.int)) (.int lap) = some (.int w) := by
        rw [List.length_map] at hlt
        have hn : L2.ixN (ns.map PyData.int).length lap = some lap.toNat := by
          unfold L2.ixN
          rw [List.length_map, if_pos (by omega), if_pos hlt]
        show ∃ w, (L2.ixN (ns.map PyData.int).length lap).bind (fun j => (ns.map PyData.int)[j]?) = some (.int w)
        rw [hn]
        have hj : lap.toNat < ns.length := by omega
        refine ⟨ns[lap.toNat], ?_⟩
        show (ns.map PyData.int)[lap.toNat]? = _
        rw [List.getElem?_map, List.getElem?_eq_getElem hj]
        rfl
      exact ⟨w, mIf_t q (m1_eq (loc2_eq (loc _) rfl hw) rfl)⟩
    · rw [decide_eq_false hlt] at q
      have hsum : ∃ t : Int, m1 sumD (mSlN 0 mNoPart (mPart (eC (.int 5)))) [.bor (.list (ns.map PyData.int)), .dat (.int lap), .un, .un, .un] = some (.int t, [.bor (.list (ns.map PyData.int)), .dat (.int lap), .un, .un, .un]) := by
        have hs : ∃ t : Int, sumD (.list (cutD (ns.map PyData.int) none (some 5))) = some (.int t) := by
          rw [cut_map]
          refine ⟨((ns.drop (HT.sIx ns.length 0 none)).take (HT.sIx ns.length ns.length (some 5) - HT.sIx ns.length 0 none)).sum, ?_⟩
          show (intsOf _).map _ = _
          rw [ints_map]
          rfl
        obtain ⟨t, hs⟩ := hs
        exact ⟨t, m1_eq (sln_eq (loc _) rfl rfl) hs⟩
      obtain ⟨t, hsum⟩ := hsum
      exact ⟨9551 * lap + 479 + t % 999631, mIf_f q (m2_eq (m2_eq (m2_eq (x := .int 9551) (y := .int lap) rfl rfl (mul_small1 _ _ (by decide))) rfl rfl) (m2_eq (m1_eq hsum rfl) rfl (mod_eq _ _ (by decide))) rfl)⟩
  obtain ⟨w, o1⟩ := o1
  have e1 := setd_eq (i := 2) (ρ2 := [.bor (.list (ns.map PyData.int)), .dat (.int lap), .dat (.int w), .un, .un]) o1 rfl
  have e2 : sSet 3 (mDat (m2 addD (eC (.int 94999)) (m2 mulD (eC (.int 4139)) (eVar 1)))) [.bor (.list (ns.map PyData.int)), .dat (.int lap), .dat (.int w), .un, .un] = some (.nx [.bor (.list (ns.map PyData.int)), .dat (.int lap), .dat (.int w), .dat (.int (94999 + 4139 * lap)), .un]) :=
    setd_eq (ρ1 := [.bor (.list (ns.map PyData.int)), .dat (.int lap), .dat (.int w), .un, .un]) (m2_eq rfl (m2_eq rfl rfl (mul_small1 _ _ (by decide))) rfl) rfl
  have e3 : ∃ l : List Int, mItems (m2 addD (mSlN 0 mNoPart (mPart (eC (.int 11)))) (mFz (mLst (aCons (eVar 2) aNil)))) [.bor (.list (ns.map PyData.int)), .dat (.int lap), .dat (.int w), .dat (.int (94999 + 4139 * lap)), .un] = some (l.map PyData.int, [.bor (.list (ns.map PyData.int)), .dat (.int lap), .dat (.int w), .dat (.int (94999 + 4139 * lap)), .un]) := by
    refine ⟨(ns.drop (HT.sIx ns.length 0 none)).take (HT.sIx ns.length ns.length (some ((11 : Nat) : Int)) - HT.sIx ns.length 0 none) ++ [w], items_eq (d := .list (((ns.drop (HT.sIx ns.length 0 none)).take (HT.sIx ns.length ns.length (some ((11 : Nat) : Int)) - HT.sIx ns.length 0 none) ++ [w]).map PyData.int)) (m2_eq (sln_eq (hi := some ((11 : Nat) : Int)) (loc _) rfl rfl) rfl ?_) rfl⟩
    rw [cut_map, List.map_append]
    refine if_pos ?_
    rw [List.length_map, HT.sIx_nat]
    have h1 : ((ns.drop (HT.sIx ns.length 0 none)).take (min 11 ns.length - HT.sIx ns.length 0 none)).length ≤ 11 := by
      rw [List.length_take]
      omega
    refine Nat.le_trans (Nat.add_le_add h1 (Nat.le_refl _)) ?_
    show 12 ≤ PySem.sizeLine
    unfold PySem.sizeLine
    decide
  obtain ⟨l, e3⟩ := e3
  obtain ⟨n', a4', e4⟩ := urn_loop (.bor (.list (ns.map PyData.int))) (.dat (.int lap)) (.dat (.int w)) l (94999 + 4139 * lap) .un
  have e5 : ∃ a : Int, 0 ≤ a ∧ mIf (tOrM (mT (m2 ltD (eVar 2) (eC (.int 0)))) (mT (m2 geD (eVar 2) (m2 powD (eC (.int 10)) (eC (.int 18)))))) (m2 modD (m1 intD (m1 absD (eLoc 2))) (m2 powD (eC (.int 10)) (eC (.int 60)))) (eC (.int 0)) [.bor (.list (ns.map PyData.int)), .dat (.int lap), .dat (.int w), .dat (.int n'), a4'] = some (.int a, [.bor (.list (ns.map PyData.int)), .dat (.int lap), .dat (.int w), .dat (.int n'), a4']) := by
    have p18 : powD (.int 10) (.int 18) = some (.int (10 ^ 18)) := by kernel_rfl
    have p60 : powD (.int 10) (.int 60) = some (.int (10 ^ 60)) := by kernel_rfl
    have t1 : ∃ b, tOrM (mT (m2 ltD (eVar 2) (eC (.int 0)))) (mT (m2 geD (eVar 2) (m2 powD (eC (.int 10)) (eC (.int 18))))) [.bor (.list (ns.map PyData.int)), .dat (.int lap), .dat (.int w), .dat (.int n'), a4'] = some (b, [.bor (.list (ns.map PyData.int)), .dat (.int lap), .dat (.int w), .dat (.int n'), a4']) := by
      have u1 : mT (m2 ltD (eVar 2) (eC (.int 0))) [.bor (.list (ns.map PyData.int)), .dat (.int lap), .dat (.int w), .dat (.int n'), a4'] = some (decide (w < 0), [.bor (.list (ns.map PyData.int)), .dat (.int lap), .dat (.int w), .dat (.int n'), a4']) := mT_eq (m2_eq rfl rfl rfl)
      have u2 : mT (m2 geD (eVar 2) (m2 powD (eC (.int 10)) (eC (.int 18)))) [.bor (.list (ns.map PyData.int)), .dat (.int lap), .dat (.int w), .dat (.int n'), a4'] = some (decide ((10 ^ 18 : Int) ≤ w), [.bor (.list (ns.map PyData.int)), .dat (.int lap), .dat (.int w), .dat (.int n'), a4']) := mT_eq (m2_eq rfl (m2_eq rfl rfl p18) rfl)
      cases hw : decide (w < 0) with
      | true => rw [hw] at u1; exact ⟨true, tOr_t u1⟩
      | false => rw [hw] at u1; exact ⟨_, tOr_f u1 u2⟩
    obtain ⟨b, t1⟩ := t1
    cases b with
    | true => exact ⟨(if w < 0 then -w else w) % 10 ^ 60, Int.emod_nonneg _ (by decide), mIf_t t1 (m2_eq (m1_eq (m1_eq rfl rfl) rfl) (m2_eq rfl rfl p60) (mod_eq _ _ (by decide)))⟩
    | false => exact ⟨0, Int.le_refl 0, mIf_f t1 rfl⟩
  obtain ⟨a, ha, e5⟩ := e5
  refine ⟨a, n', ?_, ha⟩
  have e6 : g_law_urn [.bor (.list (ns.map PyData.int)), .dat (.int lap), .un, .un, .un] = some (.rt (.own (ur a n' 0)) [.bor (.list (ns.map PyData.int)), .dat (.int lap), .dat (.int w), .dat (.int n'), a4']) := by
    refine seq_nx e1 (seq_nx e2 (seq_nx (for_eq e3 e4) ?_))
    have e7 := aCons_eq e5 (aCons_eq (fa := eVar 3) (fr := aCons (eC (.int 0)) aNil) (x := .int n') (xs := [.int 0]) (ρ1 := [.bor (.list (ns.map PyData.int)), .dat (.int lap), .dat (.int w), .dat (.int n'), a4']) (ρ2 := [.bor (.list (ns.map PyData.int)), .dat (.int lap), .dat (.int w), .dat (.int n'), a4']) rfl rfl)
    unfold sRetS mLst
    simp only [e7]
  show clean (runB 3 g_law_urn) _ = _
  unfold clean
  rw [show runB 3 g_law_urn [.list (ns.map PyData.int), .int lap] = some (.own (ur a n' 0)) from by
    show endP (g_law_urn [.bor (.list (ns.map PyData.int)), .dat (.int lap), .un, .un, .un]) = _
    rw [e6]
    rfl]
end Mx
namespace Mx
open Dn Tx
open PySem (PyData NestedKey Str Addr)
def toldE : PyData := .tuple [.str "told", .none]
def d1 (c : Ce) : PyData := .tuple [.tuple [c0, .tuple []], .tuple [.tuple (isortB leB [cE (0, 0), cE c]), .tuple []]]
inductive GoodE : PyData → Prop
  | other (e : PyData) (h1 : isiD "str" e = some (.bool false)) (h2 : f_law_form [e] = some (.dat .none)) (h3 : Good 4 e) (h4 : PySem.SeqAt.shaped (.tuple [.str "line", e]) = true) : GoodE e
  | text (L : List Nat) (h1 : L.length ≤ 600) (h2 : Ok L) (h3 : ∀ w ∈ words L, w.length ≤ 40) : GoodE (sT L)
theorem eq_told (X : Str) (y : PyData) (hs : PySem.SeqAt.shaped (.tuple [.str X, y]) = true) (hX : (X == "told") = false) : eqD (.tuple [.str X, y]) toldE = some (.bool false) := by
  show (if (PySem.SeqAt.shaped (.tuple [.str X, y]) && PySem.SeqAt.shaped toldE) = true then some (PyData.bool (PyData.eqv (.tuple [.str X, y]) toldE)) else none) = _
  rw [hs, show (true && PySem.SeqAt.shaped toldE) = true from by kernel_rfl, if_pos rfl]
  have : PyData.eqv (.tuple [.str X, y]) toldE = ((X == "told") && (PyData.eqv y .none && true)) := rfl
  rw [this, hX]
  rfl
theorem good_cE (n : Nat) (c : Ce) : Good (n + 2) (cE c) := .tup (fun a ha => by
  simp at ha
  rcases ha with rfl | rfl <;> exact .int _) (by simp)
theorem good_pair (X : Str) (y : PyData) (n : Nat) (h : Good (n + 1) y) : Good (n + 2) (.tuple [.str X, y]) := .tup (fun a ha => by
  simp at ha
  rcases ha with rfl | rfl
  · exact .str _
  · exact h) (by simp)
def Kind (e due d' : PyData) : Prop := (∃ X y, due = .tuple [.str X, y] ∧ eqD due toldE = some (.bool false) ∧ d' = d0) ∨
  (due = toldE ∧ ∃ w : Str, f_law_form [e] = some (.dat (.tuple [.str w, .none])) ∧ eqD (.str w) (.str "put") = some (.bool false) ∧ d' = d0) ∨
  (due = toldE ∧ ∃ c, f_law_form [e] = some (.dat (.tuple [.str "put", cE c])) ∧ adj c = true ∧ d' = d1 c)
section
variable {C CC : Addr}
theorem entry (e : PyData) (h : GoodE e) : ∃ (due d' : PyData) (q : PyData ⊕ Xn), f_law_due [e, c0] = some (.dat due) ∧ fk_say CC C d0 [e] = some (q, d') ∧ resP q due ∧ Good 5 due ∧ Kind e due d' := by
  cases h with
  | other e h1 h2 h3 h4 =>
    exact ⟨_, _, _, due_none e h2, say_other e h1, res_line e, good_pair _ _ 3 h3, .inl ⟨_, _, rfl, eq_told _ _ h4 (by decide +kernel), rfl⟩⟩
  | text L h1 h2 h3 =>
    have hf := x_law_form L (by omega) h2 h3
    have hp := found_eq (C := C) (CC := CC) L h1 h2
    have hF := form_of L
    unfold partsL at hp
    generalize formL L = form at hf hp hF
    cases hF with
    | odd =>
      have hs : PySem.SeqAt.shaped (.tuple [.str "line", sT L]) = true := by
        unfold PySem.SeqAt.shaped
        have : (PyData.tuple [.str "line", sT L]).canLay0 = true := by
          show (PyData.canLay0 (.str "line") && (PyData.canLay0 (sT L) && true)) = true
          rw [lay_T L h2]
          decide +kernel
        rw [this]
        rfl
      exact ⟨_, _, _, due_none _ hf, say_odd _ hp, res_line _, good_pair _ _ 3 (.str _), .inl ⟨_, _, rfl, eq_told _ _ hs (by decide +kernel), rfl⟩⟩
    | plain w hw =>
      have hd := due_plain _ w hw hf
      by_cases hu : w = "undo"
      · subst hu
        exact ⟨_, _, _, hd, say_form _ "undo" .none true hp (by kernel_rfl) (by kernel_rfl) (x_do_undo .none), res_nothing, good_pair _ _ 3 .non, .inl ⟨_, _, rfl, by kernel_rfl, rfl⟩⟩
      · have hw2 : w = "area" ∨ w = "shape" ∨ w = "covers" ∨ w = "rim" ∨ w = "lattices" := by
          simp only [List.mem_cons, List.not_mem_nil, or_false] at hw
          exact hw.resolve_left hu
        obtain ⟨z, ht⟩ := x_told (C := C) (CC := CC) w hw2
        have hdu : dueP w = toldE := if_neg hu
        rw [hdu] at hd
        have hb : inD (.str w) (.tuple [.str "put", .str "take", .str "undo"]) = some (.bool false) ∧ eqD (.list [.tuple [.str w, .none]]) (.list []) = some (.bool false) ∧ eqD (.str w) (.str "put") = some (.bool false) := by
          rcases hw2 with rfl | rfl | rfl | rfl | rfl <;> exact ⟨by kernel_rfl, by kernel_rfl, by kernel_rfl⟩
        exact ⟨_, _, _, hd, say_form _ w .none false hp hb.2.1 hb.1 ht, ⟨⟨z, rfl⟩, rfl⟩, good_pair _ _ 3 .non, .inr (.inl ⟨rfl, w, hf, hb.2.2, rfl⟩)⟩
    | cell v hv c =>
      have hd := due_cell _ v hv c hf
      have hb : inD (.str v) (.tuple [.str "put", .str "take", .str "undo"]) = some (.bool true) ∧ eqD (.list [.tuple [.str v, cE c]]) (.list []) = some (.bool false) := by
        simp only [List.mem_cons, List.not_mem_nil, or_false] at hv
        rcases hv with rfl | rfl <;> exact ⟨by kernel_rfl, by kernel_rfl⟩
      have hsh : ∀ X : Str, PyData.canLay0 (.str X) = true → PySem.SeqAt.shaped (.tuple [.str X, cE c]) = true := fun X hX => by
        unfold PySem.SeqAt.shaped
        have : (PyData.tuple [.str X, cE c]).canLay0 = true := by
          show (PyData.canLay0 (.str X) && (PyData.canLay0 (cE c) && true)) = true
          rw [hX]; rfl
        rw [this]
        rfl
      simp only [List.mem_cons, List.not_mem_nil, or_false] at hv
      unfold dueC at hd
      cases hi : inR c with
      | false =>
        rw [hi, if_pos rfl] at hd
        refine ⟨_, d0, .inr ⟨"InvalidCell", [("given", cE c)]⟩, hd, say_form _ v (cE c) true hp hb.2 hb.1 ?_, res_cell c, good_pair _ _ 3 (good_cE 2 c), .inl ⟨_, _, rfl, eq_told _ _ (hsh _ (by decide +kernel)) (by decide +kernel), rfl⟩⟩
        rcases hv with rfl | rfl
        · rw [if_pos rfl, x_do_put]; simp [putR, hi, doneR]
        · rw [if_pos rfl, x_do_take]; simp [takeR, hi, doneR]
      | true =>
        rw [hi, if_neg (by decide)] at hd
        rcases hv with rfl | rfl
        · rw [show (decide (("put" : Str) = "take")) = false from by decide +kernel, Bool.false_or] at hd
          cases hn : (decide ((0, 0) = c) || !adj c) with
          | true =>
            rw [hn, if_pos rfl] at hd
            refine ⟨_, d0, .inr ⟨"NotNow", [("given", cE c)]⟩, hd, say_form _ "put" (cE c) true hp hb.2 hb.1 ?_, res_now c, good_pair _ _ 3 (good_cE 2 c), .inl ⟨_, _, rfl, eq_told _ _ (hsh _ (by decide +kernel)) (by decide +kernel), rfl⟩⟩
            rw [if_pos rfl, x_do_put]
            unfold putR
            rw [hi, if_neg (by decide), hn, if_pos rfl]
            rfl
          | false =>
            rw [hn, if_neg (by decide)] at hd
            have ha : adj c = true := by
              have := (Bool.or_eq_false_iff.mp hn).2
              simpa using this
            refine ⟨_, d1 c, .inl (.str "done"), hd, say_form _ "put" (cE c) true hp hb.2 hb.1 ?_, ⟨⟨"done", rfl⟩, rfl⟩, good_pair _ _ 3 .non, .inr (.inr ⟨rfl, c, hf, ha, rfl⟩)⟩
            rw [if_pos rfl, x_do_put]
            unfold putR
            rw [hi, if_neg (by decide), hn, if_neg (by decide)]
            rfl
        · rw [show (decide (("take" : Str) = "take")) = true from by decide +kernel, Bool.true_or, if_pos rfl] at hd
          refine ⟨_, d0, .inr ⟨"NotNow", [("given", cE c)]⟩, hd, say_form _ "take" (cE c) true hp hb.2 hb.1 ?_, res_now c, good_pair _ _ 3 (good_cE 2 c), .inl ⟨_, _, rfl, eq_told _ _ (hsh _ (by decide +kernel)) (by decide +kernel), rfl⟩⟩
          rw [if_pos rfl, x_do_take]
          unfold takeR
          rw [hi, if_neg (by decide)]
          rfl
end
end Mx
namespace Mx
open Dn Tx
open PySem (PyData NestedKey Str Addr)
def bodyR (CC C : Addr) : MS := (sSeq (sSet 4 (mMake C "past" gi_Site (mTup (aCons (eC (.int 0)) (aCons (eC (.int 0)) aNil))))) (sSeq (sSet 5 (mDat (mFz (mCall f_law_due (aCons (eVar 3) (aCons (mTup (aCons (mTup (aCons (eC (.int 0)) (aCons (eC (.int 0)) aNil))) aNil)) aNil)))))) (sSeq (sIf (tNotM (mT (mFz (mCall f_law_same (aCons (mSaid 0 4 3 C "past" (f_said CC C)) (aCons (eVar 5) aNil)))))) (sRet (eC (.bool false))) sNil) (sSeq (sSet 6 (mDat (mAnd (m2 eqD (eVar 5) (mTup (aCons (eC (.str "told")) (aCons (eC .none) aNil)))) (m2 eqD (m2 ixD (mFz (mCall f_law_form (aCons (eVar 3) aNil))) (eC (.int 0))) (eC (.str "put")))))) (sIf (tNotM (mT (mFz (mCall f_law_same (aCons (eProp 4 kdN C "past" (gAt 0)) (aCons (mIf (mT (eVar 6)) (m1 tupleD (mFz (mSorted (mFz (mLst (aCons (mTup (aCons (eC (.int 0)) (aCons (eC (.int 0)) aNil))) (aCons (m2 ixD (mFz (mCall f_law_form (aCons (eVar 3) aNil))) (eC (.int 1))) aNil))))))) (mTup (aCons (mTup (aCons (eC (.int 0)) (aCons (eC (.int 0)) aNil))) aNil))) aNil)))))) (sRet (eC (.bool false))) sNil)))))
def bodyO (CC C : Addr) : MS := (sSeq (sSet 2 (mDat (mFz (mCallI 0 f_law_any_line aNil)))) (sFor (mItems (mFz (mCallI 0 f_law_near (aCons (eVar 2) aNil)))) (tgN 3) (bodyR CC C)))
theorem right_eq (CC C : Addr) : g_law_right CC C = sSeq (sFor (mRng1 (aCons (eC (.int 10)) aNil)) (tgN 1) (bodyO CC C)) (sRet (eC (.bool true))) := rfl
section
variable {C CC : Addr}
theorem fzo_eq {fs : M Sl} {ρ ρ1 : Env} {ds : List PyData} (h : fs ρ = some (.own ds, ρ1)) : mFz fs ρ = some (.list ds, ρ1) := by
  unfold mFz; simp only [h]
theorem sorted_eq {f : M PyData} {ρ ρ1 : Env} {ds : List PyData} (h : f ρ = some (.list ds, ρ1)) (hs : sortOk ds = true) : mSorted f ρ = some (.own (isortB leB ds), ρ1) := by
  unfold mSorted; simp only [h, itemsD, hs, if_true]
theorem said_eq {os os' : List PyData} {lap line e due d' : PyData} {s5 s6 : Sl} (h5 : isOb s5 = false) (h6 : isOb s6 = false) (h : f_said CC C os d0 e = some (due, os', d')) :
    mSaid 0 4 3 C "past" (f_said CC C) [.own os, .dat lap, .dat line, .dat e, .obj C "past" d0, s5, s6] = some (due, [.own os', .dat lap, .dat line, .dat e, .obj C "past" d', s5, s6]) := by
  have so : sole 4 [.own os, .dat lap, .dat line, .dat e, .obj C "past" d0, s5, s6] = true := by simp [sole, isOb]; exact ⟨h5, h6⟩
  simp [mSaid, so, h]
theorem prop_obj {os : List PyData} {lap line e d y : PyData} {s5 s6 : Sl} (h5 : isOb s5 = false) (h6 : isOb s6 = false) (h : gAt 0 d = some y) :
    eProp 4 kdN C "past" (gAt 0) [.own os, .dat lap, .dat line, .dat e, .obj C "past" d, s5, s6] = some (y, [.own os, .dat lap, .dat line, .dat e, .obj C "past" d, s5, s6]) := by
  have so : sole 4 [.own os, .dat lap, .dat line, .dat e, .obj C "past" d, s5, s6] = true := by simp [sole, isOb]; exact ⟨h5, h6⟩
  simp [eProp, so, kdN, obD, h]
theorem turn (lap line e : PyData) (a b c : Int) (ha : 0 ≤ a) (s4 s5 s6 : Sl) (h6 : isOb s6 = false) (he : GoodE e) : ∃ (a' b' c' : Int) (s4' s5' s6' : Sl), 0 ≤ a' ∧ isOb s6' = false ∧
    bodyR CC C [.own (ur a b c), .dat lap, .dat line, .dat e, s4, s5, s6] = some (.nx [.own (ur a' b' c'), .dat lap, .dat line, .dat e, s4', s5', s6']) := by
  obtain ⟨due, d', q, hd, hs, hq, hg, hk⟩ := entry (C := C) (CC := CC) e he
  obtain ⟨k, a', b', c', hn, _, _, ha'⟩ := x_nip a b c 2 ha (by decide)
  have hsd := x_said hn hs hq
  have e1 : sSet 4 (mMake C "past" gi_Site (mTup (aCons (eC (.int 0)) (aCons (eC (.int 0)) aNil)))) [.own (ur a b c), .dat lap, .dat line, .dat e, s4, s5, s6] = some (.nx [.own (ur a b c), .dat lap, .dat line, .dat e, .obj C "past" d0, s5, s6]) := by
    refine set_eq (s := .obj C "past" d0) (ρ1 := [.own (ur a b c), .dat lap, .dat line, .dat e, s4, s5, s6]) ?_ rfl
    unfold mMake
    rw [show mTup (aCons (eC (.int 0)) (aCons (eC (.int 0)) aNil)) [.own (ur a b c), .dat lap, .dat line, .dat e, s4, s5, s6] = some (cE (0, 0), [.own (ur a b c), .dat lap, .dat line, .dat e, s4, s5, s6]) from rfl]
    simp only [gi_ok]
  have e2 : sSet 5 (mDat (mFz (mCall f_law_due (aCons (eVar 3) (aCons (mTup (aCons (mTup (aCons (eC (.int 0)) (aCons (eC (.int 0)) aNil))) aNil)) aNil))))) [.own (ur a b c), .dat lap, .dat line, .dat e, .obj C "past" d0, s5, s6] = some (.nx [.own (ur a b c), .dat lap, .dat line, .dat e, .obj C "past" d0, .dat due, s6]) :=
    setd_eq (ρ1 := [.own (ur a b c), .dat lap, .dat line, .dat e, .obj C "past" d0, s5, s6]) (call_eq (ds := [e, c0]) rfl hd) rfl
  have e3 : tNotM (mT (mFz (mCall f_law_same (aCons (mSaid 0 4 3 C "past" (f_said CC C)) (aCons (eVar 5) aNil))))) [.own (ur a b c), .dat lap, .dat line, .dat e, .obj C "past" d0, .dat due, s6] = some (false, [.own (ur a' b' c'), .dat lap, .dat line, .dat e, .obj C "past" d', .dat due, s6]) :=
    tnot_eq (b := true) (mT_eq (call_eq (ds := [due, due]) (aCons_eq (said_eq rfl h6 hsd) rfl) (x_same due hg)))
  have g1 : ∀ cs : PyData, Good 5 cs → gAt 0 d' = some cs → ∀ (gr : Bool), (mIf (mT (eVar 6)) (m1 tupleD (mFz (mSorted (mFz (mLst (aCons (mTup (aCons (eC (.int 0)) (aCons (eC (.int 0)) aNil))) (aCons (m2 ixD (mFz (mCall f_law_form (aCons (eVar 3) aNil))) (eC (.int 1))) aNil))))))) (mTup (aCons (mTup (aCons (eC (.int 0)) (aCons (eC (.int 0)) aNil))) aNil)) [.own (ur a' b' c'), .dat lap, .dat line, .dat e, .obj C "past" d', .dat due, .dat (.bool gr)] = some (cs, [.own (ur a' b' c'), .dat lap, .dat line, .dat e, .obj C "past" d', .dat due, .dat (.bool gr)])) →
      tNotM (mT (mFz (mCall f_law_same (aCons (eProp 4 kdN C "past" (gAt 0)) (aCons (mIf (mT (eVar 6)) (m1 tupleD (mFz (mSorted (mFz (mLst (aCons (mTup (aCons (eC (.int 0)) (aCons (eC (.int 0)) aNil))) (aCons (m2 ixD (mFz (mCall f_law_form (aCons (eVar 3) aNil))) (eC (.int 1))) aNil))))))) (mTup (aCons (mTup (aCons (eC (.int 0)) (aCons (eC (.int 0)) aNil))) aNil))) aNil))))) [.own (ur a' b' c'), .dat lap, .dat line, .dat e, .obj C "past" d', .dat due, .dat (.bool gr)] = some (false, [.own (ur a' b' c'), .dat lap, .dat line, .dat e, .obj C "past" d', .dat due, .dat (.bool gr)]) :=
    fun cs hcs h1 gr h2 => tnot_eq (b := true) (mT_eq (call_eq (ds := [cs, cs]) (aCons_eq (prop_obj rfl rfl h1) (aCons_eq h2 rfl)) (x_same cs hcs)))
  have gc0 : Good 5 c0 := .tup (fun x hx => by simp at hx; subst hx; exact good_cE 2 _) (by simp)
  have fin : ∀ gr : Bool, mAnd (m2 eqD (eVar 5) (mTup (aCons (eC (.str "told")) (aCons (eC .none) aNil)))) (m2 eqD (m2 ixD (mFz (mCall f_law_form (aCons (eVar 3) aNil))) (eC (.int 0))) (eC (.str "put"))) [.own (ur a' b' c'), .dat lap, .dat line, .dat e, .obj C "past" d', .dat due, s6] = some (.bool gr, [.own (ur a' b' c'), .dat lap, .dat line, .dat e, .obj C "past" d', .dat due, s6]) →
      (∃ cs, Good 5 cs ∧ gAt 0 d' = some cs ∧ mIf (mT (eVar 6)) (m1 tupleD (mFz (mSorted (mFz (mLst (aCons (mTup (aCons (eC (.int 0)) (aCons (eC (.int 0)) aNil))) (aCons (m2 ixD (mFz (mCall f_law_form (aCons (eVar 3) aNil))) (eC (.int 1))) aNil))))))) (mTup (aCons (mTup (aCons (eC (.int 0)) (aCons (eC (.int 0)) aNil))) aNil)) [.own (ur a' b' c'), .dat lap, .dat line, .dat e, .obj C "past" d', .dat due, .dat (.bool gr)] = some (cs, [.own (ur a' b' c'), .dat lap, .dat line, .dat e, .obj C "past" d', .dat due, .dat (.bool gr)])) →
      bodyR CC C [.own (ur a b c), .dat lap, .dat line, .dat e, s4, s5, s6] = some (.nx [.own (ur a' b' c'), .dat lap, .dat line, .dat e, .obj C "past" d', .dat due, .dat (.bool gr)]) := fun gr hgr ⟨cs, hcs, h1, h2⟩ =>
    seq_nx e1 (seq_nx e2 (seq_nx (if_false' e3 rfl) (seq_nx (setd_eq hgr rfl) (if_false' (g1 cs hcs h1 gr h2) rfl))))
  have told : mTup (aCons (eC (.str "told")) (aCons (eC .none) aNil)) [.own (ur a' b' c'), .dat lap, .dat line, .dat e, .obj C "past" d', .dat due, s6] = some (toldE, [.own (ur a' b' c'), .dat lap, .dat line, .dat e, .obj C "past" d', .dat due, s6]) := rfl
  rcases hk with ⟨X, y, rfl, h7, rfl⟩ | ⟨rfl, w, h7, h8, rfl⟩ | ⟨rfl, cc, h7, h8, rfl⟩
  · exact ⟨a', b', c', _, _, _, ha', rfl, fin false (mAnd_f (m2_eq rfl told h7)) ⟨c0, gc0, rfl, rfl⟩⟩
  · refine ⟨a', b', c', _, _, _, ha', rfl, fin false (mAnd_t (m2_eq rfl told (by kernel_rfl)) (m2_eq (m2_eq (call_eq (ds := [e]) rfl h7) rfl rfl) rfl h8)) ⟨c0, gc0, rfl, rfl⟩⟩
  · refine ⟨a', b', c', _, _, _, ha', rfl, fin true (mAnd_t (m2_eq rfl told (by kernel_rfl)) (m2_eq (m2_eq (call_eq (ds := [e]) rfl h7) rfl rfl) rfl (by kernel_rfl))) ⟨.tuple (isortB leB [cE (0, 0), cE cc]), ?_, rfl, ?_⟩⟩
    · refine .tup (fun x hx => ?_) ?_
      · have hx2 := (isortB_perm leB [cE (0, 0), cE cc]).mem_iff.mp hx
        simp at hx2
        rcases hx2 with rfl | rfl <;> exact good_cE 2 _
      · rw [(isortB_perm leB [cE (0, 0), cE cc]).length_eq]; simp
    · refine mIf_t (mT_eq rfl) (m1_eq (d := .list (isortB leB [cE (0, 0), cE cc])) ?_ rfl)
      have f1 : mFz (mLst (aCons (mTup (aCons (eC (.int 0)) (aCons (eC (.int 0)) aNil))) (aCons (m2 ixD (mFz (mCall f_law_form (aCons (eVar 3) aNil))) (eC (.int 1))) aNil))) [.own (ur a' b' c'), .dat lap, .dat line, .dat e, .obj C "past" (d1 cc), .dat toldE, .dat (.bool true)] = some (.list [cE (0, 0), cE cc], [.own (ur a' b' c'), .dat lap, .dat line, .dat e, .obj C "past" (d1 cc), .dat toldE, .dat (.bool true)]) :=
        fz_lst (aCons_eq rfl (aCons_eq (m2_eq (call_eq (ds := [e]) rfl h7) rfl rfl) rfl))
      exact fzo_eq (sorted_eq f1 (adj_sort h8))
end
end Mx
namespace Mx
open Dn Tx
open PySem (PyData NestedKey Str Addr)
open PySem.StrLaws (replS replL)
abbrev Z1 : List Nat := [32, 49] ++ List.replicate 30 48
theorem spl_b (acc r : List Nat) : TL.spl [32] 0 acc (32 :: r) = acc :: TL.spl [32] 0 [] r := TL.spl_hit rfl
theorem pre_no {c : Nat} {r : List Nat} (h : c ≠ 32) : TL.pre [32] (c :: r) = false := by
  cases hp : TL.pre [32] (c :: r) with
  | false => rfl
  | true => exact absurd (by simpa [TL.pre] using hp) h
theorem spl_c (acc r : List Nat) (c : Nat) (h : c ≠ 32) : TL.spl [32] 0 acc (c :: r) = TL.spl [32] 0 (acc ++ [c]) r := by
  show (if TL.pre [32] (c :: r) = true then _ else _) = _
  rw [pre_no h, if_neg (by decide)]
theorem spl_free (xs : List Nat) : ∀ (acc r : List Nat), (∀ c ∈ xs, c ≠ 32) → TL.spl [32] 0 acc (xs ++ r) = TL.spl [32] 0 (acc ++ xs) r := by
  induction xs with
  | nil => intro acc r _; rw [List.append_nil, List.nil_append]
  | cons c t ih =>
    intro acc r h
    rw [List.cons_append, spl_c _ _ _ (h c List.mem_cons_self), ih _ _ fun d hd => h d (List.mem_cons_of_mem _ hd), List.append_assoc]
    rfl
theorem rs_hit (r : List Nat) : replS [32, 49] Z1 0 (32 :: 49 :: r) = Z1 ++ replS [32, 49] Z1 0 r := by
  have e : List.take ([32, 49] : List Nat).length (32 :: 49 :: r) = [32, 49] := rfl
  rw [replS, if_pos e]
  show Z1 ++ replS [32, 49] Z1 1 (49 :: r) = _
  rw [replS]
theorem rs_miss (c : Nat) (r : List Nat) (h : (c :: r).take 2 ≠ [32, 49]) : replS [32, 49] Z1 0 (c :: r) = c :: replS [32, 49] Z1 0 r := by
  have h' : List.take ([32, 49] : List Nat).length (c :: r) ≠ [32, 49] := h
  rw [replS, if_neg h']
theorem long_words : ∀ (R acc : List Nat), ∀ w ∈ TL.spl [32] 0 acc (replS [32, 49] Z1 0 R), w.length ≤ max (acc.length + R.length) (29 + R.length)
  | [], acc, w, h => by
    rw [replS, TL.spl_nil] at h
    simp at h
    subst h
    simp
    omega
  | [c], acc, w, h => by
    rw [rs_miss c [] (by simp), replS] at h
    by_cases hc : c = 32
    · subst hc
      rw [spl_b, TL.spl_nil] at h
      simp at h
      rcases h with rfl | rfl <;> simp <;> omega
    · rw [spl_c _ _ _ hc, TL.spl_nil] at h
      simp at h
      subst h
      simp
      omega
  | c :: d :: r, acc, w, h => by
    by_cases h2 : c = 32 ∧ d = 49
    · obtain ⟨rfl, rfl⟩ := h2
      rw [rs_hit, show Z1 = 32 :: ([49] ++ List.replicate 30 48) from rfl, List.cons_append, spl_b] at h
      rcases List.mem_cons.mp h with rfl | h
      · simp; omega
      · rw [spl_free _ _ _ (by decide)] at h
        have := long_words r _ w h
        simp at this ⊢
        omega
    · rw [rs_miss c (d :: r) (fun e => h2 (by simpa using e))] at h
      by_cases hc : c = 32
      · subst hc
        rw [spl_b] at h
        rcases List.mem_cons.mp h with rfl | h
        · simp; omega
        · have := long_words (d :: r) _ w h
          simp at this ⊢
          omega
      · rw [spl_c _ _ _ hc] at h
        have := long_words (d :: r) _ w h
        simp at this ⊢
        omega
theorem rs_free (V : List Nat) : ∀ R : List Nat, (∀ c ∈ V, c ≠ 32) → replS [32, 49] Z1 0 (V ++ R) = V ++ replS [32, 49] Z1 0 R := by
  induction V with
  | nil => intro R _; rfl
  | cons c t ih =>
    intro R h
    have hc : c ≠ 32 := h c List.mem_cons_self
    rw [List.cons_append, rs_miss c _ (by
      cases t ++ R <;> simp [hc]), ih R fun d hd => h d (List.mem_cons_of_mem _ hd)]
    rfl
/-- the words of a line in which ' 1' has grown -/
theorem grown_words (V R : List Nat) (hV : V.length ≤ 4) (hf : ∀ c ∈ V, c ≠ 32) (hR : R.length ≤ 10) : ∀ w ∈ words (replL [32, 49] Z1 (V ++ R)), w.length ≤ 40 := by
  intro w h
  unfold words replL at h
  rw [rs_free V R hf, spl_free V [] _ hf] at h
  have := long_words R _ w h
  simp at this
  omega
theorem rs_len (y z : List Nat) (hy : 1 ≤ y.length) (hz : z.length ≤ 2 * y.length) : ∀ (L : List Nat) (k : Nat), k + 1 ≤ y.length → (replS y z k L).length ≤ 2 * (L.length - k)
  | [], k, _ => by cases k <;> simp [replS]
  | c :: r, 0, _ => by
    rw [replS]
    split
    · rename_i e
      have hl : y.length ≤ (c :: r).length := by
        have := congrArg List.length e
        rw [List.length_take] at this
        omega
      have := rs_len y z hy hz r (y.length - 1) (by omega)
      rw [List.length_append]
      simp at hl ⊢
      omega
    · have := rs_len y z hy hz r 0 (by omega)
      simp at this ⊢
      omega
  | c :: r, k + 1, hk => by
    rw [replS]
    have := rs_len y z hy hz r k (by omega)
    simp at this ⊢
    omega
theorem rs_mem (y z : List Nat) : ∀ (L : List Nat) (k : Nat), ∀ c ∈ replS y z k L, c ∈ z ∨ c ∈ L
  | [], k, c, h => by cases k <;> simp [replS] at h
  | d :: r, 0, c, h => by
    rw [replS] at h
    split at h
    · rcases List.mem_append.mp h with h | h
      · exact .inl h
      · exact (rs_mem y z r _ c h).imp id (List.mem_cons_of_mem _)
    · rcases List.mem_cons.mp h with rfl | h
      · exact .inr List.mem_cons_self
      · exact (rs_mem y z r _ c h).imp id (List.mem_cons_of_mem _)
  | d :: r, k + 1, c, h => by
    rw [replS] at h
    exact (rs_mem y z r _ c h).imp id (List.mem_cons_of_mem _)
end Mx
namespace Mx
open Dn Tx
open PySem (PyData NestedKey Str Addr)
open PySem.StrLaws (replS replL)
inductive LineOk : List Nat → Prop
  | plain (p : List Nat) (h : p ∈ plains) : LineOk p
  | cmd (V R : List Nat) (h : V ∈ verbs) (hR : R.length ≤ 10) (hc : ∀ c ∈ R, c < 128) : LineOk (V ++ R)
theorem line_len {L : List Nat} (h : LineOk L) : 1 ≤ L.length ∧ L.length ≤ 14 ∧ ∀ c ∈ L, c < 128 := by
  cases h with
  | plain p h =>
    have : ∀ p ∈ plains, 1 ≤ p.length ∧ p.length ≤ 14 ∧ ∀ c ∈ p, c < 128 := by unfold plains; decide
    exact this _ h
  | cmd V R h hR hc =>
    have : ∀ p ∈ verbs, 1 ≤ p.length ∧ p.length ≤ 4 ∧ ∀ c ∈ p, c < 128 := by unfold verbs; decide
    obtain ⟨h1, h2, h3⟩ := this V h
    refine ⟨by rw [List.length_append]; omega, by rw [List.length_append]; omega, fun c hm => ?_⟩
    rcases List.mem_append.mp hm with z | z
    · exact h3 c z
    · exact hc c z
theorem line_grown {L : List Nat} (h : LineOk L) : ∀ w ∈ words (replL [32, 49] Z1 L), w.length ≤ 40 := by
  cases h with
  | plain p h =>
    have : ∀ p ∈ plains, ∀ w ∈ words (replL [32, 49] Z1 p), w.length ≤ 40 := by decide +kernel
    exact this _ h
  | cmd V R h hR hc =>
    have : ∀ p ∈ verbs, p.length ≤ 4 ∧ ∀ c ∈ p, c ≠ 32 := by unfold verbs; decide
    exact grown_words V R (this V h).1 (this V h).2 hR
theorem gt (L : List Nat) (h : L.length ≤ 40) (hc : Ok L) : GoodE (sT L) := .text L (by omega) hc fun w hw => Nat.le_trans (word_in hw).1 h
theorem add_T (a b : List Nat) (h : a.length + b.length ≤ 1000) : addD (sT a) (sT b) = some (sT (a ++ b)) := by
  have : (T a).length + (T b).length ≤ PySem.sizeLine := Nat.le_trans (show a.length + b.length ≤ 1000 from h) (by unfold PySem.sizeLine; decide)
  show (if (T a).length + (T b).length ≤ PySem.sizeLine then some (PyData.str (T a ++ T b)) else none) = _
  rw [if_pos this]
  exact congrArg (fun z => some (PyData.str z)) (SX.S_cat a b)
theorem repl_T (yl zl L : List Nat) (hy : 1 ≤ yl.length) (hz : zl.length ≤ 40) (hL : L.length ≤ 14) : replD (T yl) (T zl) (sT L) = some (sT (replL yl zl L)) := by
  have h1 : (T L).length + ((T L).length + 1) * (T zl).length ≤ 16777216 := by
    have a : (T L).length ≤ 14 := hL
    have b : (T zl).length ≤ 40 := hz
    have := Nat.mul_le_mul (Nat.add_le_add_right a 1) b
    omega
  show (if (T L).length + ((T L).length + 1) * (T zl).length ≤ 16777216 then some (PyData.str (PySem.Txt.replace (T L) (T yl) (T zl))) else none) = _
  rw [if_pos h1]
  have := PySem.StrLaws.replace_list (x := T L) (y := T yl) (z := T zl) hy
  have e : PySem.Txt.replace (T L) (T yl) (T zl) = T (replL yl zl L) := (T_of _).trans (by rw [this])
  rw [e]
theorem up_T (L : List Nat) (h : L.length ≤ 14) (hc : ∀ c ∈ L, c < 128) : upD (sT L) = some (sT (L.map PyProof.Rows.up1)) := by
  have h1 : (T L).length ≤ 5592405 := Nat.le_trans (show L.length ≤ 14 from h) (by decide)
  show (if (T L).length ≤ 5592405 then some (PyData.str (PySem.Txt.upper (T L))) else none) = _
  rw [if_pos h1]
  exact congrArg (fun z => some (PyData.str z)) (SX.upper_S (a := L) (List.all_eq_true.mpr fun c hm => decide_eq_true (hc c hm)))
theorem up1_lt (c : Nat) (h : c < 128) : PyProof.Rows.up1 c < 1114112 := by
  unfold PyProof.Rows.up1
  split <;> omega
theorem rev_T (L : List Nat) (h : L.length ≤ 14) : ∃ cs, revD (sT L) = some (sT cs) ∧ cs.length ≤ 14 ∧ ∀ c ∈ cs, c ∈ L := by
  have h1 : (T L).length ≤ PySem.sizeLine := Nat.le_trans (show L.length ≤ 14 from h) (by unfold PySem.sizeLine; decide)
  refine ⟨(revS (T L)).cps.toList, ?_, ?_, fun c hm => ?_⟩
  · show (if (T L).length ≤ PySem.sizeLine then some (PyData.str (revS (T L))) else none) = _
    exact (if_pos h1).trans (congrArg (fun z => some (PyData.str z)) (T_of _))
  · have := revS_len (T L)
    have h2 : (revS (T L)).cps.toList.length = (revS (T L)).length := Array.length_toList
    rw [h2]
    exact Nat.le_trans this h
  · unfold revS at hm
    simp only [List.mem_filterMap] at hm
    obtain ⟨i, _, hi⟩ := hm
    obtain ⟨hlt, e⟩ := Array.getElem?_eq_some_iff.mp hi
    have : c ∈ (T L).cps := by rw [← e]; exact Array.getElem_mem hlt
    simpa using this
theorem cut_T (L : List Nat) (h : L.length ≤ 14) (lo hi : Option Int) : ∃ cs, sliceD lo hi (sT L) = some (sT cs) ∧ cs.length ≤ 14 ∧ ∀ c ∈ cs, c ∈ L := by
  have h1 : (T L).length ≤ PySem.sizeLine := Nat.le_trans (show L.length ≤ 14 from h) (by unfold PySem.sizeLine; decide)
  refine ⟨(L.drop (HT.sIx L.length 0 lo)).take (HT.sIx L.length L.length hi - HT.sIx L.length 0 lo), ?_, ?_, fun c hm => List.mem_of_mem_drop (List.mem_of_mem_take hm)⟩
  · show (if (T L).length ≤ PySem.sizeLine then some (PyData.str (L2.cutS (T L) lo hi)) else none) = _
    exact if_pos h1
  · rw [List.length_take, List.length_drop]
    omega
theorem shaped_line (x : PyData) (h : x.canLay0 = true) (hd : x.depth ≤ 2) : PySem.SeqAt.shaped (.tuple [.str "line", x]) = true := by
  unfold PySem.SeqAt.shaped
  have h1 : (PyData.tuple [.str "line", x]).canLay0 = true := by
    show (PyData.canLay0 (.str "line") && (x.canLay0 && true)) = true
    rw [h]
    decide +kernel
  have h2 : (PyData.tuple [.str "line", x]).depth ≤ 64 := by
    show max (PyData.depth (.str "line")) (max x.depth 0) + 1 ≤ 64
    have : PyData.depth (.str "line") = 0 := rfl
    omega
  rw [h1]
  simp [h2]
theorem odd_lst (L : List Nat) (hc : Ok L) : GoodE (.list [sT L]) := .other _ rfl (by kernel_rfl) (.lst (fun a ha => by simp at ha; subst ha; exact .str _) (by simp)) (shaped_line _ (by show (PyData.canLay0 (sT L) && true) = true; rw [lay_T L hc]; rfl) (by show max 0 0 + 1 ≤ 2; decide))
theorem odd_tup (L : List Nat) (hc : Ok L) : GoodE (.tuple [sT L]) := .other _ rfl (by kernel_rfl) (.tup (fun a ha => by simp at ha; subst ha; exact .str _) (by simp)) (shaped_line _ (by show (PyData.canLay0 (sT L) && true) = true; rw [lay_T L hc]; rfl) (by show max 0 0 + 1 ≤ 2; decide))
theorem odd_non : GoodE .none := .other _ rfl (by kernel_rfl) .non (shaped_line _ rfl (by decide))
theorem odd_four : GoodE (.int 4) := .other _ rfl (by kernel_rfl) (.int 4) (shaped_line _ rfl (by decide))
end Mx
namespace Mx
open Dn Tx
open PySem (PyData NestedKey Str Addr)
open PySem.StrLaws (replS replL)
def sgs : List (List Nat) := [[48], [45], [32], [97], [49], [43], [9], [10], [46], [59], []]
def mSg : M PyData := (mTup (aCons (eC (.str "0")) (aCons (eC (.str "-")) (aCons (eC (.str " ")) (aCons (eC (.str "a")) (aCons (eC (.str "1")) (aCons (eC (.str "+")) (aCons (eC (.str "	")) (aCons (eC (.str "\n")) (aCons (eC (.str ".")) (aCons (eC (.str ";")) (aCons (eC (.str "")) aNil))))))))))))
def mE1 : M Sl := (mLst (aCons (eVar 1) (aCons (m2 addD (eVar 1) (eC (.str " "))) (aCons (m2 addD (eC (.str " ")) (eVar 1)) (aCons (m2 addD (eVar 1) (eC (.str "\n"))) (aCons (m1 upD (eVar 1)) (aCons (m1 (replD " " "  ") (eVar 1)) (aCons (m1 (replD " " "	") (eVar 1)) (aCons (m1 (replD " " ",") (eVar 1)) (aCons (m1 revD (eLoc 1)) (aCons (m2 addD (eVar 1) (eC (.str " 0"))) (aCons (mFz (mLst (aCons (eVar 1) aNil))) (aCons (eC .none) (aCons (eC (.int 4)) aNil))))))))))))))
def mE3 : M Sl := (mLst (aCons (m1 (replD "put" "take") (eVar 1)) (aCons (m1 (replD " " " 0") (eVar 1)) (aCons (m1 (replD " " " -") (eVar 1)) (aCons (m1 (replD " 0" " -0") (eVar 1)) (aCons (m1 (replD "1" "01") (eVar 1)) (aCons (m1 (replD " 1" (" 1" ++ PySem.Txt.mul "0" 30)) (eVar 1)) (aCons (eC (.str "")) (aCons (mTup (aCons (eVar 1) aNil)) aNil)))))))))
def mC1 : M PyData := (mFz (mLst (mLC [5] (mItems (eVar 3)) (tgN 5) tAll (m2 addD (m2 addD (mSl (eVar 1) mNoPart (mPart (eVar 2))) (eVar 5)) (mSl (eVar 1) (mPart (eVar 2)) mNoPart)))))
def mC2 : M PyData := (mFz (mLst (mLC [5] (mItems (eVar 3)) (tgN 5) tAll (m2 addD (m2 addD (mSl (eVar 1) mNoPart (mPart (eVar 2))) (eVar 5)) (mSl (eVar 1) (mPart (m2 addD (eVar 2) (eC (.int 1)))) mNoPart)))))
theorem near_eq : g_law_near = sSeq (sSet 2 (mDat (mFz (mCallI 0 f_law_nip (aCons (m1 lenD (eLoc 1)) aNil))))) (sSeq (sSet 3 (mDat mSg)) (sSeq (sSet 4 mE1) (sSeq (sSet 4 (mDat (m2 addD (m2 addD (eFz 4) mC1) mC2))) (sRet (m2 addD (eFz 4) (mFz mE3)))))) := rfl
theorem sg_ev (ρ : Env) : mSg ρ = some (.tuple (sgs.map sT), ρ) := by
  have e : ∀ ρ : Env, mSg ρ = some (.tuple [.str "0", .str "-", .str " ", .str "a", .str "1", .str "+", .str "	", .str "\n", .str ".", .str ";", .str ""], ρ) := fun _ => rfl
  rw [e]
  have : [PyData.str "0", .str "-", .str " ", .str "a", .str "1", .str "+", .str "	", .str "\n", .str ".", .str ";", .str ""] = sgs.map sT := by kernel_rfl
  rw [this]
theorem comp_ev {u : List PyData} {L A B : List Nat} {k : Int} {s4 : Sl} {f : M PyData} (hA : sliceD none (some k) (sT L) = some (sT A)) (hA2 : A.length ≤ 14) (hB2 : B.length ≤ 14)
    (hf : ∀ s : PyData, f [.own u, .dat (sT L), .dat (.int k), .dat (.tuple (sgs.map sT)), s4, .dat s] = some (sT B, [.own u, .dat (sT L), .dat (.int k), .dat (.tuple (sgs.map sT)), s4, .dat s])) :
    mFz (mLst (mLC [5] (mItems (eVar 3)) (tgN 5) tAll (m2 addD (m2 addD (mSl (eVar 1) mNoPart (mPart (eVar 2))) (eVar 5)) f))) [.own u, .dat (sT L), .dat (.int k), .dat (.tuple (sgs.map sT)), s4, .un] = some (.list (sgs.map fun s => sT (A ++ s ++ B)), [.own u, .dat (sT L), .dat (.int k), .dat (.tuple (sgs.map sT)), s4, .un]) := by
  have hs : ∀ s ∈ sgs, s.length ≤ 1 := by unfold sgs; decide
  refine fz_lst (mLC_eq (ρ1 := [.own u, .dat (sT L), .dat (.int k), .dat (.tuple (sgs.map sT)), s4, .un]) (ρ2 := [.own u, .dat (sT L), .dat (.int k), .dat (.tuple (sgs.map sT)), s4, .un]) (ρ3 := [.own u, .dat (sT L), .dat (.int k), .dat (.tuple (sgs.map sT)), s4, .un]) (ds := sgs.map sT) (items_eq (d := .tuple (sgs.map sT)) rfl rfl) rfl (lc_cells sT (fun s => sT (A ++ s ++ B)) _ sgs fun s hm =>
    ⟨[.own u, .dat (sT L), .dat (.int k), .dat (.tuple (sgs.map sT)), s4, .dat (sT s)], [.own u, .dat (sT L), .dat (.int k), .dat (.tuple (sgs.map sT)), s4, .dat (sT s)], rfl, m2_eq (m2_eq (mSl_eq (lo := none) (hi := some k) rfl rfl rfl hA) rfl (add_T A s (by have := hs s hm; omega))) (hf (sT s)) (add_T (A ++ s) B (by have := hs s hm; rw [List.length_append]; omega)), rfl⟩) rfl (by simp [sgs]))
theorem lst_eq {f : M (List PyData)} {ρ ρ1 : Env} {ds : List PyData} (h : f ρ = some (ds, ρ1)) : mLst f ρ = some (.own ds, ρ1) := by
  unfold mLst; simp only [h]
theorem e1_ev {L cs : List Nat} (hl : L.length ≤ 14) (hc : ∀ c ∈ L, c < 128) (hr : revD (sT L) = some (sT cs)) (ρ : Env) (h1 : ρ[(1 : Nat)]? = some (Sl.dat (sT L))) :
    mE1 ρ = some (.own [sT L, sT (L ++ [32]), sT ([32] ++ L), sT (L ++ [10]), sT (L.map PyProof.Rows.up1), sT (replL [32] [32, 32] L), sT (replL [32] [9] L), sT (replL [32] [44] L), sT cs, sT (L ++ [32, 48]), .list [sT L], .none, .int 4], ρ) := by
  have v : eVar 1 ρ = some (sT L, ρ) := by unfold eVar; rw [h1]
  have l : eLoc 1 ρ = some (sT L, ρ) := by unfold eLoc; rw [h1]
  have b : (" " : Str) = T [32] := s_blank
  have b2 : ("  " : Str) = T [32, 32] := by decide +kernel
  have b3 : ("	" : Str) = T [9] := by decide +kernel
  have b4 : ("," : Str) = T [44] := by decide +kernel
  have b5 : ("\n" : Str) = T [10] := by decide +kernel
  have b6 : (" 0" : Str) = T [32, 48] := by decide +kernel
  unfold mE1
  rw [b, b2, b3, b4, b5, b6]
  exact lst_eq (aCons_eq v (aCons_eq (m2_eq v rfl (add_T _ _ (by simp; omega))) (aCons_eq (m2_eq rfl v (add_T _ _ (by simp; omega))) (aCons_eq (m2_eq v rfl (add_T _ _ (by simp; omega))) (aCons_eq (m1_eq v (up_T L hl hc)) (aCons_eq (m1_eq v (repl_T _ _ _ (by simp) (by simp) hl)) (aCons_eq (m1_eq v (repl_T _ _ _ (by simp) (by simp) hl)) (aCons_eq (m1_eq v (repl_T _ _ _ (by simp) (by simp) hl)) (aCons_eq (m1_eq l hr) (aCons_eq (m2_eq v rfl (add_T _ _ (by simp; omega))) (aCons_eq (fz_lst (aCons_eq v rfl)) (aCons_eq rfl (aCons_eq rfl rfl)))))))))))))
theorem e3_ev {L : List Nat} (hl : L.length ≤ 14) (ρ : Env) (h1 : ρ[(1 : Nat)]? = some (Sl.dat (sT L))) :
    mFz mE3 ρ = some (.list [sT (replL [112, 117, 116] [116, 97, 107, 101] L), sT (replL [32] [32, 48] L), sT (replL [32] [32, 45] L), sT (replL [32, 48] [32, 45, 48] L), sT (replL [49] [48, 49] L), sT (replL [32, 49] Z1 L), sT [], .tuple [sT L]], ρ) := by
  have v : eVar 1 ρ = some (sT L, ρ) := by unfold eVar; rw [h1]
  have b1 : ("put" : Str) = T [112, 117, 116] := by decide +kernel
  have b2 : ("take" : Str) = T [116, 97, 107, 101] := by decide +kernel
  have b : (" " : Str) = T [32] := s_blank
  have b3 : (" 0" : Str) = T [32, 48] := by decide +kernel
  have b4 : (" -" : Str) = T [32, 45] := by decide +kernel
  have b5 : (" -0" : Str) = T [32, 45, 48] := by decide +kernel
  have b6 : ("1" : Str) = T [49] := by decide +kernel
  have b7 : ("01" : Str) = T [48, 49] := by decide +kernel
  have b8 : (" 1" : Str) ++ PySem.Txt.mul "0" 30 = T Z1 := by decide +kernel
  have b9 : (" 1" : Str) = T [32, 49] := by decide +kernel
  unfold mE3
  rw [b8, b9, b1, b2, b, b3, b4, b5, b6, b7, s_empty]
  exact fz_lst (aCons_eq (m1_eq v (repl_T _ _ _ (by simp) (by simp) hl)) (aCons_eq (m1_eq v (repl_T _ _ _ (by simp) (by simp) hl)) (aCons_eq (m1_eq v (repl_T _ _ _ (by simp) (by simp) hl)) (aCons_eq (m1_eq v (repl_T _ _ _ (by simp) (by simp) hl)) (aCons_eq (m1_eq v (repl_T _ _ _ (by simp) (by simp) hl)) (aCons_eq (m1_eq v (repl_T _ _ _ (by simp) (by decide) hl)) (aCons_eq rfl (aCons_eq (tup_eq (aCons_eq v rfl)) rfl))))))))
end Mx
namespace Mx
open Dn Tx
open PySem (PyData NestedKey Str Addr)
open PySem.StrLaws (replS replL)
theorem add_lst (xs ys : List PyData) (h : xs.length + ys.length ≤ 1000) : addD (.list xs) (.list ys) = some (.list (xs ++ ys)) := by
  have : xs.length + ys.length ≤ PySem.sizeLine := Nat.le_trans h (by unfold PySem.sizeLine; decide)
  show (if xs.length + ys.length ≤ PySem.sizeLine then some (PyData.list (xs ++ ys)) else none) = _
  rw [if_pos this]
theorem g_repl {L : List Nat} (hl : L.length ≤ 14) (hc : Ok L) (y z : List Nat) (hy : 1 ≤ y.length) (hz : z.length ≤ 2 * y.length) (hzc : Ok z) : GoodE (sT (replL y z L)) := by
  refine gt _ ?_ fun c hm => ?_
  · have := rs_len y z hy hz L 0 (by omega)
    unfold replL
    omega
  · exact (rs_mem y z L 0 c hm).elim (hzc c) (hc c)
theorem x_near (L : List Nat) (hL : LineOk L) (a b c : Int) (ha : 0 ≤ a) : ∃ (es : List PyData) (a' b' c' : Int), f_law_near (ur a b c) [sT L] = some (.dat (.list es), ur a' b' c') ∧ (∀ e ∈ es, GoodE e) ∧ 0 ≤ a' := by
  obtain ⟨h1, hl, hc⟩ := line_len hL
  have ok : Ok L := fun c hm => Nat.lt_trans (hc c hm) (by decide)
  obtain ⟨k, a', b', c', hn, hk0, hk1, ha'⟩ := x_nip a b c L.length ha ⟨by omega, by omega⟩
  obtain ⟨cs, hr, hr2, hr3⟩ := rev_T L hl
  obtain ⟨A, hA, hA2, hA3⟩ := cut_T L hl none (some k)
  obtain ⟨B, hB, hB2, hB3⟩ := cut_T L hl (some k) none
  obtain ⟨D, hD, hD2, hD3⟩ := cut_T L hl (some (k + 1)) none
  have q1 : sSet 2 (mDat (mFz (mCallI 0 f_law_nip (aCons (m1 lenD (eLoc 1)) aNil)))) [.own (ur a b c), .dat (sT L), .un, .un, .un, .un] = some (.nx [.own (ur a' b' c'), .dat (sT L), .dat (.int k), .un, .un, .un]) := by
    have hz : (T L).length ≤ PySem.sizeLine := Nat.le_trans (show L.length ≤ 14 from hl) (by unfold PySem.sizeLine; decide)
    refine setd_eq (d := .int k) (ρ1 := [.own (ur a' b' c'), .dat (sT L), .un, .un, .un, .un]) (fzd_eq (callI_eq (ρ1 := [.own (ur a b c), .dat (sT L), .un, .un, .un, .un]) (os := ur a b c) (os0 := ur a b c) rfl (aCons_eq (x := .int L.length) (m1_eq (d := sT L) rfl ?_) rfl) rfl hn)) rfl
    exact if_pos hz
  have q2 : sSet 3 (mDat mSg) [.own (ur a' b' c'), .dat (sT L), .dat (.int k), .un, .un, .un] = some (.nx [.own (ur a' b' c'), .dat (sT L), .dat (.int k), .dat (.tuple (sgs.map sT)), .un, .un]) := setd_eq (sg_ev _) rfl
  have q3 := set_eq (i := 4) (ρ2 := [.own (ur a' b' c'), .dat (sT L), .dat (.int k), .dat (.tuple (sgs.map sT)), .own [sT L, sT (L ++ [32]), sT ([32] ++ L), sT (L ++ [10]), sT (L.map PyProof.Rows.up1), sT (replL [32] [32, 32] L), sT (replL [32] [9] L), sT (replL [32] [44] L), sT cs, sT (L ++ [32, 48]), .list [sT L], .none, .int 4], .un]) (e1_ev hl hc hr [.own (ur a' b' c'), .dat (sT L), .dat (.int k), .dat (.tuple (sgs.map sT)), .un, .un] rfl) rfl
  have k1 := comp_ev (u := ur a' b' c') (s4 := .dat (.list [sT L, sT (L ++ [32]), sT ([32] ++ L), sT (L ++ [10]), sT (L.map PyProof.Rows.up1), sT (replL [32] [32, 32] L), sT (replL [32] [9] L), sT (replL [32] [44] L), sT cs, sT (L ++ [32, 48]), .list [sT L], .none, .int 4])) (f := mSl (eVar 1) (mPart (eVar 2)) mNoPart) hA hA2 hB2 (fun s => mSl_eq (lo := some k) (hi := none) rfl rfl rfl hB)
  have k2 := comp_ev (u := ur a' b' c') (s4 := .dat (.list [sT L, sT (L ++ [32]), sT ([32] ++ L), sT (L ++ [10]), sT (L.map PyProof.Rows.up1), sT (replL [32] [32, 32] L), sT (replL [32] [9] L), sT (replL [32] [44] L), sT cs, sT (L ++ [32, 48]), .list [sT L], .none, .int 4])) (f := mSl (eVar 1) (mPart (m2 addD (eVar 2) (eC (.int 1)))) mNoPart) hA hA2 hD2 (fun s => mSl_eq (lo := some (k + 1)) (hi := none) rfl rfl rfl hD)
  have q4 : sSet 4 (mDat (m2 addD (m2 addD (eFz 4) mC1) mC2)) [.own (ur a' b' c'), .dat (sT L), .dat (.int k), .dat (.tuple (sgs.map sT)), .own [sT L, sT (L ++ [32]), sT ([32] ++ L), sT (L ++ [10]), sT (L.map PyProof.Rows.up1), sT (replL [32] [32, 32] L), sT (replL [32] [9] L), sT (replL [32] [44] L), sT cs, sT (L ++ [32, 48]), .list [sT L], .none, .int 4], .un] =
      some (.nx [.own (ur a' b' c'), .dat (sT L), .dat (.int k), .dat (.tuple (sgs.map sT)), .dat (.list ([sT L, sT (L ++ [32]), sT ([32] ++ L), sT (L ++ [10]), sT (L.map PyProof.Rows.up1), sT (replL [32] [32, 32] L), sT (replL [32] [9] L), sT (replL [32] [44] L), sT cs, sT (L ++ [32, 48]), .list [sT L], .none, .int 4] ++ (sgs.map fun s => sT (A ++ s ++ B)) ++ (sgs.map fun s => sT (A ++ s ++ D)))), .un]) :=
    setd_eq (m2_eq (m2_eq rfl k1 (add_lst _ _ (by simp [sgs]))) k2 (add_lst _ _ (by simp [sgs]))) rfl
  refine ⟨_, a', b', c', runI_rt (m := 4) (r := [.dat (sT L), .dat (.int k), .dat (.tuple (sgs.map sT)), .dat (.list ([sT L, sT (L ++ [32]), sT ([32] ++ L), sT (L ++ [10]), sT (L.map PyProof.Rows.up1), sT (replL [32] [32, 32] L), sT (replL [32] [9] L), sT (replL [32] [44] L), sT cs, sT (L ++ [32, 48]), .list [sT L], .none, .int 4] ++ (sgs.map fun s => sT (A ++ s ++ B)) ++ (sgs.map fun s => sT (A ++ s ++ D)))), .un]) (by
    show g_law_near _ = _
    rw [near_eq]
    exact seq_nx q1 (seq_nx q2 (seq_nx q3 (seq_nx q4 (ret_eq (m2_eq rfl (e3_ev hl _ rfl) (add_lst _ _ (by simp [sgs])))))))), ?_, ha'⟩
  have hg : ∀ s ∈ sgs, s.length ≤ 1 ∧ ∀ c ∈ s, c < 128 := by unfold sgs; decide
  have gc : ∀ (X Y : List Nat), X.length ≤ 14 → Y.length ≤ 14 → (∀ c ∈ X, c ∈ L) → (∀ c ∈ Y, c ∈ L) → ∀ e ∈ sgs.map (fun s => sT (X ++ s ++ Y)), GoodE e := fun X Y hX hY hX3 hY3 e he => by
    obtain ⟨s, hs, rfl⟩ := List.mem_map.mp he
    obtain ⟨s1, s2⟩ := hg s hs
    refine gt _ (by rw [List.length_append, List.length_append]; omega) fun c hm => ?_
    rcases List.mem_append.mp hm with hm | hm
    · rcases List.mem_append.mp hm with hm | hm
      · exact ok c (hX3 c hm)
      · exact Nat.lt_trans (s2 c hm) (by decide)
    · exact ok c (hY3 c hm)
  have ap : ∀ (X Y : List Nat), X.length + Y.length ≤ 40 → Ok X → Ok Y → GoodE (sT (X ++ Y)) := fun X Y hl hX hY => gt _ (by rw [List.length_append]; exact hl) fun c hm => (List.mem_append.mp hm).elim (hX c) (hY c)
  intro e he
  rcases List.mem_append.mp he with he | he
  · rcases List.mem_append.mp he with he | he
    · rcases List.mem_append.mp he with he | he
      · simp only [List.mem_cons, List.not_mem_nil, or_false] at he
        rcases he with rfl | rfl | rfl | rfl | rfl | rfl | rfl | rfl | rfl | rfl | rfl | rfl | rfl
        · exact gt L (by omega) ok
        · exact ap L [32] (by simp; omega) ok (by unfold Ok; decide)
        · exact ap [32] L (by simp; omega) (by unfold Ok; decide) ok
        · exact ap L [10] (by simp; omega) ok (by unfold Ok; decide)
        · refine gt _ (by rw [List.length_map]; omega) fun c hm => ?_
          obtain ⟨d, hd, rfl⟩ := List.mem_map.mp hm
          exact up1_lt d (hc d hd)
        · exact g_repl hl ok [32] [32, 32] (by decide) (by decide) (by unfold Ok; decide)
        · exact g_repl hl ok [32] [9] (by decide) (by decide) (by unfold Ok; decide)
        · exact g_repl hl ok [32] [44] (by decide) (by decide) (by unfold Ok; decide)
        · exact gt cs (by omega) fun c hm => ok c (hr3 c hm)
        · exact ap L [32, 48] (by simp; omega) ok (by unfold Ok; decide)
        · exact odd_lst L ok
        · exact odd_non
        · exact odd_four
      · exact gc A B hA2 hB2 hA3 hB3 e he
    · exact gc A D hA2 hD2 hA3 hD3 e he
  · simp only [List.mem_cons, List.not_mem_nil, or_false] at he
    rcases he with rfl | rfl | rfl | rfl | rfl | rfl | rfl | rfl
    · exact g_repl hl ok [112, 117, 116] [116, 97, 107, 101] (by decide) (by decide) (by unfold Ok; decide)
    · exact g_repl hl ok [32] [32, 48] (by decide) (by decide) (by unfold Ok; decide)
    · exact g_repl hl ok [32] [32, 45] (by decide) (by decide) (by unfold Ok; decide)
    · exact g_repl hl ok [32, 48] [32, 45, 48] (by decide) (by decide) (by unfold Ok; decide)
    · exact g_repl hl ok [49] [48, 49] (by decide) (by decide) (by unfold Ok; decide)
    · refine .text _ ?_ (fun c hm => ?_) (line_grown hL)
      · have := PySem.StrLaws.replace_list (x := T L) (y := T [32, 49]) (z := T Z1) (by decide)
        have h2 := TK.replace_len (T L) (T [32, 49]) (T Z1)
        have h3 : (replL [32, 49] Z1 L).length = (PySem.Txt.replace (T L) (T [32, 49]) (T Z1)).length := by
          have e : (PySem.Txt.replace (T L) (T [32, 49]) (T Z1)).cps.toList = replL [32, 49] Z1 L := this
          rw [← e]
          exact Array.length_toList
        rw [h3]
        refine Nat.le_trans h2 ?_
        have hL' : (T L).length ≤ 14 := hl
        have hZ : (T Z1).length = 32 := by decide
        rw [hZ]
        omega
      · exact (rs_mem [32, 49] Z1 L 0 c hm).elim ((by unfold Z1; decide : ∀ c ∈ Z1, c < 1114112) c) (ok c)
    · exact gt [] (by decide) (by unfold Ok; decide)
    · exact odd_tup L ok
end Mx
namespace Mx
open Dn Tx
open PySem (PyData NestedKey Str Addr)
def okStr (o : Option PyData) : Bool := match o with
  | some (.str s) => decide (s.cps.toList.length ≤ 4) && s.cps.toList.all (fun c => decide (c < 128))
  | _ => false
theorem str_all : ∀ n < 241, okStr (strD (.int ((n : Nat) - 120))) = true := by decide +kernel
theorem str_T (x : Int) (h : -120 ≤ x ∧ x ≤ 120) : ∃ X : List Nat, strD (.int x) = some (sT X) ∧ X.length ≤ 4 ∧ ∀ c ∈ X, c < 128 := by
  have := str_all (x + 120).toNat (by omega)
  rw [show (((x + 120).toNat : Nat) : Int) - 120 = x from by omega] at this
  generalize strD (.int x) = o at this
  unfold okStr at this
  split at this
  · rename_i s
    rw [Bool.and_eq_true, List.all_eq_true] at this
    exact ⟨s.cps.toList, rfl, of_decide_eq_true this.1, fun c hc => of_decide_eq_true (this.2 c hc)⟩
  · cases this
theorem any_eq (xs : List PyData) (r : PyData) (k a b c a' b' c' : Int) (hn : f_law_nip (ur a b c) [.int xs.length] = some (.dat (.int k), ur a' b' c')) (h : ixD (.tuple xs) (.int k) = some r) : f_law_any_of (ur a b c) [.tuple xs] = some (.dat r, ur a' b' c') := by
  refine runI_rt (m := 0) (r := [.dat (.tuple xs)]) (ret_eq (m2_eq (x := .tuple xs) (ρ1 := [.own (ur a b c), .dat (.tuple xs)]) rfl (fzd_eq (callI_eq (ρ1 := [.own (ur a b c), .dat (.tuple xs)]) (os := ur a b c) (os0 := ur a b c) rfl (aCons_eq (x := .int xs.length) (m1_eq (d := .tuple xs) rfl rfl) rfl) rfl hn)) h))
theorem x_any4 (w x y z : PyData) (a b c : Int) (ha : 0 ≤ a) : ∃ (r : PyData) (a' b' c' : Int), f_law_any_of (ur a b c) [.tuple [w, x, y, z]] = some (.dat r, ur a' b' c') ∧ (r = w ∨ r = x ∨ r = y ∨ r = z) ∧ 0 ≤ a' := by
  obtain ⟨k, a', b', c', hn, h0, h1, ha'⟩ := x_nip a b c 4 ha (by decide)
  have hk : ∃ r, ixD (.tuple [w, x, y, z]) (.int k) = some r ∧ (r = w ∨ r = x ∨ r = y ∨ r = z) := by
    obtain rfl | rfl | rfl | rfl : k = 0 ∨ k = 1 ∨ k = 2 ∨ k = 3 := by omega
    · exact ⟨w, rfl, .inl rfl⟩
    · exact ⟨x, rfl, .inr (.inl rfl)⟩
    · exact ⟨y, rfl, .inr (.inr (.inl rfl))⟩
    · exact ⟨z, rfl, .inr (.inr (.inr rfl))⟩
  obtain ⟨r, h2, h3⟩ := hk
  exact ⟨r, a', b', c', any_eq _ r k _ _ _ _ _ _ hn h2, h3, ha'⟩
theorem x_any2 (x y : PyData) (a b c : Int) (ha : 0 ≤ a) : ∃ (r : PyData) (a' b' c' : Int), f_law_any_of (ur a b c) [.tuple [x, y]] = some (.dat r, ur a' b' c') ∧ (r = x ∨ r = y) ∧ 0 ≤ a' := by
  obtain ⟨k, a', b', c', hn, h0, h1, ha'⟩ := x_nip a b c 2 ha (by decide)
  have hk : ∃ r, ixD (.tuple [x, y]) (.int k) = some r ∧ (r = x ∨ r = y) := by
    obtain rfl | rfl : k = 0 ∨ k = 1 := by omega
    · exact ⟨x, rfl, .inl rfl⟩
    · exact ⟨y, rfl, .inr rfl⟩
  obtain ⟨r, h2, h3⟩ := hk
  exact ⟨r, a', b', c', any_eq _ r k _ _ _ _ _ _ hn h2, h3, ha'⟩
def mPick : M PyData := mFz (mCallI 0 f_law_any_of (aCons (mTup (aCons (eC (.int 0)) (aCons (eC (.int 1)) (aCons (m2 subD (eC (.int 0)) (eC (.int 1))) (aCons (m2 subD (mFz (mCallI 0 f_law_nip (aCons (eC (.int 241)) aNil))) (eC (.int 120))) aNil))))) aNil))
theorem pick_eq (s1 s2 s3 : Sl) (a b c : Int) (ha : 0 ≤ a) : ∃ x a' b' c' : Int, mPick [.own (ur a b c), s1, s2, s3] = some (.int x, [.own (ur a' b' c'), s1, s2, s3]) ∧ -120 ≤ x ∧ x ≤ 120 ∧ 0 ≤ a' := by
  obtain ⟨k, a1, b1, c1, hn, h0, h1, ha1⟩ := x_nip a b c 241 ha (by decide)
  obtain ⟨r, a2, b2, c2, h2, h3, ha2⟩ := x_any4 (.int 0) (.int 1) (.int (0 - 1)) (.int (k - 120)) a1 b1 c1 ha1
  have hr : ∃ x : Int, r = .int x ∧ -120 ≤ x ∧ x ≤ 120 := by
    rcases h3 with rfl | rfl | rfl | rfl
    · exact ⟨0, rfl, by omega, by omega⟩
    · exact ⟨1, rfl, by omega, by omega⟩
    · exact ⟨_, rfl, by omega, by omega⟩
    · exact ⟨_, rfl, by omega, by omega⟩
  obtain ⟨x, rfl, hx⟩ := hr
  refine ⟨x, a2, b2, c2, ?_, hx.1, hx.2, ha2⟩
  have f : mTup (aCons (eC (.int 0)) (aCons (eC (.int 1)) (aCons (m2 subD (eC (.int 0)) (eC (.int 1))) (aCons (m2 subD (mFz (mCallI 0 f_law_nip (aCons (eC (.int 241)) aNil))) (eC (.int 120))) aNil)))) [.own (ur a b c), s1, s2, s3] = some (.tuple [.int 0, .int 1, .int (0 - 1), .int (k - 120)], [.own (ur a1 b1 c1), s1, s2, s3]) :=
    tup_eq (aCons_eq rfl (aCons_eq rfl (aCons_eq rfl (aCons_eq (m2_eq (x := .int k) (y := .int 120) (fzd_eq (callI_eq (ρ1 := [.own (ur a b c), s1, s2, s3]) (os := ur a b c) (os0 := ur a b c) rfl (aCons_eq rfl rfl) rfl hn)) rfl rfl) rfl))))
  exact fzd_eq (callI_eq (ρ1 := [.own (ur a1 b1 c1), s1, s2, s3]) (os := ur a1 b1 c1) (os0 := ur a b c) rfl (aCons_eq f rfl) rfl h2)
theorem x_any_line (a b c : Int) (ha : 0 ≤ a) : ∃ (L : List Nat) (a' b' c' : Int), f_law_any_line (ur a b c) [] = some (.dat (sT L), ur a' b' c') ∧ LineOk L ∧ 0 ≤ a' := by
  obtain ⟨k, a1, b1, c1, hn, h0, h1, ha1⟩ := x_nip a b c 9 ha (by decide)
  have q1 : sSet 1 (mDat (mFz (mCallI 0 f_law_nip (aCons (eC (.int 9)) aNil)))) [.own (ur a b c), .un, .un, .un] = some (.nx [.own (ur a1 b1 c1), .dat (.int k), .un, .un]) :=
    setd_eq (d := .int k) (ρ1 := [.own (ur a1 b1 c1), .un, .un, .un]) (fzd_eq (callI_eq (ρ1 := [.own (ur a b c), .un, .un, .un]) (os := ur a b c) (os0 := ur a b c) rfl (aCons_eq rfl rfl) rfl hn)) rfl
  have q2 : mT (m2 ltD (eVar 1) (eC (.int 6))) [.own (ur a1 b1 c1), .dat (.int k), .un, .un] = some (decide (k < 6), [.own (ur a1 b1 c1), .dat (.int k), .un, .un]) := mT_eq (m2_eq (x := .int k) (y := .int 6) rfl rfl rfl)
  by_cases hk : k < 6
  · rw [decide_eq_true hk] at q2
    have hw : ∃ p, p ∈ plains ∧ ixD (.tuple [.str "undo", .str "area", .str "shape", .str "covers", .str "rim", .str "lattices"]) (.int k) = some (sT p) := by
      obtain rfl | rfl | rfl | rfl | rfl | rfl : k = 0 ∨ k = 1 ∨ k = 2 ∨ k = 3 ∨ k = 4 ∨ k = 5 := by omega
      · exact ⟨[117, 110, 100, 111], by unfold plains; decide, by kernel_rfl⟩
      · exact ⟨[97, 114, 101, 97], by unfold plains; decide, by kernel_rfl⟩
      · exact ⟨[115, 104, 97, 112, 101], by unfold plains; decide, by kernel_rfl⟩
      · exact ⟨[99, 111, 118, 101, 114, 115], by unfold plains; decide, by kernel_rfl⟩
      · exact ⟨[114, 105, 109], by unfold plains; decide, by kernel_rfl⟩
      · exact ⟨[108, 97, 116, 116, 105, 99, 101, 115], by unfold plains; decide, by kernel_rfl⟩
    obtain ⟨p, hp, hq⟩ := hw
    exact ⟨p, a1, b1, c1, runI_rt (m := 3) (r := [.dat (.int k), .un, .un]) (seq_nx q1 (seq_rt (if_true' q2 (ret_eq (m2_eq (ρ1 := [.own (ur a1 b1 c1), .dat (.int k), .un, .un]) rfl rfl hq))))), .plain p hp, ha1⟩
  · rw [decide_eq_false hk] at q2
    obtain ⟨x, a2, b2, c2, hx, hx1, hx2, ha2⟩ := pick_eq (.dat (.int k)) .un .un a1 b1 c1 ha1
    obtain ⟨y, a3, b3, c3, hy, hy1, hy2, ha3⟩ := pick_eq (.dat (.int k)) .un .un a2 b2 c2 ha2
    obtain ⟨v, a4, b4, c4, hv, hv1, ha4⟩ := x_any2 (.str "put") (.str "take") a3 b3 c3 ha3
    obtain ⟨X, sx, lx, cx⟩ := str_T x ⟨hx1, hx2⟩
    obtain ⟨Y, sy, ly, cy⟩ := str_T y ⟨hy1, hy2⟩
    have hV : ∃ V, V ∈ verbs ∧ v = sT V ∧ V.length ≤ 4 := by
      rcases hv1 with rfl | rfl
      · exact ⟨[112, 117, 116], by unfold verbs; decide, by kernel_rfl, by decide⟩
      · exact ⟨[116, 97, 107, 101], by unfold verbs; decide, by kernel_rfl, by decide⟩
    obtain ⟨V, hV1, rfl, hV2⟩ := hV
    have q3 : sPar 2 3 (mDat mPick) (mDat mPick) [.own (ur a1 b1 c1), .dat (.int k), .un, .un] = some (.nx [.own (ur a3 b3 c3), .dat (.int k), .dat (.int x), .dat (.int y)]) := by
      unfold sPar mDat
      simp only [hx, hy]
      rfl
    have q4 : mFz (mCallI 0 f_law_any_of (aCons (mTup (aCons (eC (.str "put")) (aCons (eC (.str "take")) aNil))) aNil)) [.own (ur a3 b3 c3), .dat (.int k), .dat (.int x), .dat (.int y)] = some (sT V, [.own (ur a4 b4 c4), .dat (.int k), .dat (.int x), .dat (.int y)]) :=
      fzd_eq (callI_eq (ρ1 := [.own (ur a3 b3 c3), .dat (.int k), .dat (.int x), .dat (.int y)]) (os := ur a3 b3 c3) (os0 := ur a3 b3 c3) rfl (aCons_eq (tup_eq (aCons_eq rfl (aCons_eq rfl rfl))) rfl) rfl hv)
    have sp : eC (.str " ") [.own (ur a4 b4 c4), .dat (.int k), .dat (.int x), .dat (.int y)] = some (sT [32], [.own (ur a4 b4 c4), .dat (.int k), .dat (.int x), .dat (.int y)]) := by kernel_rfl
    have fin := m2_eq (m2_eq (m2_eq (m2_eq q4 sp (add_T V [32] (by simp; omega))) (m1_eq (f := eLoc 2) rfl sx) (add_T (V ++ [32]) X (by simp; omega))) sp (add_T (V ++ [32] ++ X) [32] (by simp; omega))) (m1_eq (f := eLoc 3) rfl sy) (add_T (V ++ [32] ++ X ++ [32]) Y (by simp; omega))
    refine ⟨V ++ [32] ++ X ++ [32] ++ Y, a4, b4, c4, runI_rt (m := 3) (r := [.dat (.int k), .dat (.int x), .dat (.int y)]) (seq_nx q1 (seq_nx (if_false' q2 rfl) (seq_nx q3 (ret_eq fin)))), ?_, ha4⟩
    rw [show V ++ [32] ++ X ++ [32] ++ Y = V ++ ([32] ++ X ++ [32] ++ Y) from by simp]
    refine .cmd V _ hV1 (by simp; omega) fun c hc => ?_
    simp only [List.mem_append, List.mem_singleton] at hc
    rcases hc with ((rfl | h) | rfl) | h
    · decide
    · exact cx c h
    · decide
    · exact cy c h
end Mx
namespace Mx
open Dn Tx
open PySem (PyData NestedKey Str Addr)
section
variable {C CC : Addr}
theorem inner (lap line : PyData) : ∀ (es : List PyData) (a b c : Int), 0 ≤ a → ∀ (s3 s4 s5 s6 : Sl), isOb s6 = false → (∀ e ∈ es, GoodE e) → ∃ (a' b' c' : Int) (s3' s4' s5' s6' : Sl), 0 ≤ a' ∧ isOb s6' = false ∧
    sLoop (tgN 3) (bodyR CC C) es [.own (ur a b c), .dat lap, .dat line, s3, s4, s5, s6] = some (.nx [.own (ur a' b' c'), .dat lap, .dat line, s3', s4', s5', s6'])
  | [], a, b, c, ha, s3, s4, s5, s6, h6, he => ⟨a, b, c, s3, s4, s5, s6, ha, h6, rfl⟩
  | e :: es, a, b, c, ha, s3, s4, s5, s6, h6, he => by
    obtain ⟨a1, b1, c1, t4, t5, t6, ha1, h1, q1⟩ := turn (C := C) (CC := CC) lap line e a b c ha s4 s5 s6 h6 (he e (List.mem_cons_self ..))
    obtain ⟨a2, b2, c2, u3, u4, u5, u6, ha2, h2, q2⟩ := inner lap line es a1 b1 c1 ha1 (.dat e) t4 t5 t6 h1 (fun x hx => he x (List.mem_cons_of_mem _ hx))
    exact ⟨a2, b2, c2, u3, u4, u5, u6, ha2, h2, loop_nx (ρ1 := [.own (ur a b c), .dat lap, .dat line, .dat e, s4, s5, s6]) rfl q1 q2⟩
theorem one (lap : PyData) (a b c : Int) (ha : 0 ≤ a) (s2 s3 s4 s5 s6 : Sl) (h6 : isOb s6 = false) : ∃ (a' b' c' : Int) (s2' s3' s4' s5' s6' : Sl), 0 ≤ a' ∧ isOb s6' = false ∧
    bodyO CC C [.own (ur a b c), .dat lap, s2, s3, s4, s5, s6] = some (.nx [.own (ur a' b' c'), .dat lap, s2', s3', s4', s5', s6']) := by
  obtain ⟨L, a1, b1, c1, q1, hL, ha1⟩ := x_any_line a b c ha
  obtain ⟨es, a2, b2, c2, q2, hes, ha2⟩ := x_near L hL a1 b1 c1 ha1
  obtain ⟨a3, b3, c3, u3, u4, u5, u6, ha3, h3, q3⟩ := inner (C := C) (CC := CC) lap (sT L) es a2 b2 c2 ha2 s3 s4 s5 s6 h6 hes
  refine ⟨a3, b3, c3, _, u3, u4, u5, u6, ha3, h3, seq_nx (ρ1 := [.own (ur a1 b1 c1), .dat lap, .dat (sT L), s3, s4, s5, s6]) ?_ (for_eq (ds := es) (ρ1 := [.own (ur a2 b2 c2), .dat lap, .dat (sT L), s3, s4, s5, s6]) ?_ q3)⟩
  · exact setd_eq (d := sT L) (ρ1 := [.own (ur a1 b1 c1), .dat lap, s2, s3, s4, s5, s6]) (fzd_eq (callI_eq (ρ1 := [.own (ur a b c), .dat lap, s2, s3, s4, s5, s6]) (os := ur a b c) (os0 := ur a b c) rfl rfl rfl q1)) rfl
  · unfold mItems
    rw [fzd_eq (callI_eq (ρ1 := [.own (ur a1 b1 c1), .dat lap, .dat (sT L), s3, s4, s5, s6]) (os := ur a1 b1 c1) (os0 := ur a1 b1 c1) rfl (aCons_eq (x := sT L) rfl rfl) rfl q2)]
    rfl
theorem outer : ∀ (ds : List PyData) (a b c : Int), 0 ≤ a → ∀ (s1 s2 s3 s4 s5 s6 : Sl), isOb s6 = false → ∃ (a' b' c' : Int) (r : Env),
    sLoop (tgN 1) (bodyO CC C) ds [.own (ur a b c), s1, s2, s3, s4, s5, s6] = some (.nx (.own (ur a' b' c') :: r))
  | [], a, b, c, ha, s1, s2, s3, s4, s5, s6, h6 => ⟨a, b, c, _, rfl⟩
  | d :: ds, a, b, c, ha, s1, s2, s3, s4, s5, s6, h6 => by
    obtain ⟨a1, b1, c1, t2, t3, t4, t5, t6, ha1, h1, q1⟩ := one (C := C) (CC := CC) d a b c ha s2 s3 s4 s5 s6 h6
    obtain ⟨a2, b2, c2, r, q2⟩ := outer ds a1 b1 c1 ha1 (.dat d) t2 t3 t4 t5 t6 h1
    exact ⟨a2, b2, c2, r, loop_nx (ρ1 := [.own (ur a b c), .dat d, s2, s3, s4, s5, s6]) rfl q1 q2⟩
theorem x_right (a b c : Int) (ha : 0 ≤ a) : ∃ os, f_law_right CC C (ur a b c) [] = some (.dat (.bool true), os) := by
  obtain ⟨a1, b1, c1, r, q⟩ := outer (C := C) (CC := CC) (rngD 0 10) a b c ha .un .un .un .un .un .un rfl
  refine ⟨ur a1 b1 c1, ?_⟩
  unfold f_law_right
  rw [right_eq]
  exact runI_rt (m := 6) (ds := []) (r := r) (seq_nx (for_eq (ds := rngD 0 10) (ρ1 := [.own (ur a b c), .un, .un, .un, .un, .un, .un]) rfl q) (ret_eq rfl))
end
end Mx
namespace Mx
open Dn Tx
open PySem (PyData NestedKey Str Addr)
section
variable {C CC : Addr}
theorem lap_eq (D : PyData) (ns : List Int) (hD : D = .list (ns.map PyData.int)) (lap : Int) (hl : lap = 0 ∨ lap = 1) :
    mFz (mCallN (f_law_right CC C) (mCallB 0 f_law_urn (aCons (eVar 1) aNil))) [.bor D, .dat (.int lap)] = some (.bool true, [.bor D, .dat (.int lap)]) := by
  obtain ⟨a, b, hu, ha⟩ := x_urn ns lap hl
  obtain ⟨os, hr⟩ := x_right (C := C) (CC := CC) a b 0 ha
  rw [← hD] at hu
  refine fzd_eq ?_
  have h1 : mCallB 0 f_law_urn (aCons (eVar 1) aNil) [.bor D, .dat (.int lap)] = some (.own (ur a b 0), [.bor D, .dat (.int lap)]) := by
    unfold mCallB
    rw [show eLoc 0 [Sl.bor D, .dat (.int lap)] = some (D, [Sl.bor D, .dat (.int lap)]) from rfl]
    rw [show aCons (eVar 1) aNil [Sl.bor D, .dat (.int lap)] = some ([.int lap], [Sl.bor D, .dat (.int lap)]) from rfl]
    simp only [show eLoc 0 [Sl.bor D, .dat (.int lap)] = some (D, [Sl.bor D, .dat (.int lap)]) from rfl, hu]
  unfold mCallN
  rw [h1]
  simp only [hr]
theorem laps (D : PyData) (ns : List Int) (hD : D = .list (ns.map PyData.int)) : lcLoop [1] (tgN 1) tAll (mFz (mCallN (f_law_right CC C) (mCallB 0 f_law_urn (aCons (eVar 1) aNil)))) [.int 0, .int 1] [.bor D, .un] = some ([.bool true, .bool true], [.bor D, .un]) := by
  have w : ∀ s, wipeE [1] [Sl.bor D, s] = some [Sl.bor D, .un] := fun s => rfl
  have t : ∀ d s, tgN 1 d [Sl.bor D, s] = some [Sl.bor D, .dat d] := fun d s => rfl
  have k : ∀ ρ, tAll ρ = some (true, ρ) := fun ρ => rfl
  simp only [lcLoop, t, k, lap_eq (C := C) (CC := CC) D ns hD 0 (.inl rfl), lap_eq (C := C) (CC := CC) D ns hD 1 (.inr rfl), w]
theorem x_law : ∀ (CC C : Addr) (ns : List Int), f_law CC C [.list (ns.map PyData.int)] = some (.dat (.bool true)) := fun CC C ns => by
  have h : ∀ D : PyData, D = .list (ns.map PyData.int) → g_law CC C [.bor D, .un] = some (.rt (.dat (.bool true)) [.bor D, .un]) := fun D hD => by
    have c : mLC [1] (mRng1 (aCons (eC (.int 2)) aNil)) (tgN 1) tAll (mFz (mCallN (f_law_right CC C) (mCallB 0 f_law_urn (aCons (eVar 1) aNil)))) [.bor D, .un] = some ([.bool true, .bool true], [.bor D, .un]) := by
      unfold mLC
      rw [show mRng1 (aCons (eC (.int 2)) aNil) [Sl.bor D, .un] = some ([.int 0, .int 1], [Sl.bor D, .un]) from rfl]
      simp only [show wipeE [1] [Sl.bor D, .un] = some [Sl.bor D, .un] from rfl, laps (C := C) (CC := CC) D ns hD]
      rfl
    exact ret_eq (m1_eq (fz_lst c) rfl)
  have e : runB 1 (g_law CC C) [.list (ns.map PyData.int)] = some (.dat (.bool true)) := by
    show endP (g_law CC C [.bor (.list (ns.map PyData.int)), .un]) = _
    rw [h _ rfl]
    rfl
  show clean (runB 1 (g_law CC C)) [.list (ns.map PyData.int)] = _
  unfold clean
  rw [e]
end
end Mx
open PySem PySem.W PySem.Calls PyProof.Rows
theorem PySem.Challenge.cw_tileshifts_k87_whole_console_lines_of_an_holds : PySem.Challenge.rw_tileshifts_k87_whole_console_lines_of_an.Holds := by
  w_on; o_law
  refine HandSHeadRun.head_any (r := OpenLaw.row PySem.Challenge.rw_tileshifts_k87_whole_console_lines_of_an) (q := view (OpenLaw.row PySem.Challenge.rw_tileshifts_k87_whole_console_lines_of_an).prog [109]) (H := Hd.hk) (ob := Hd.ob) (M := 6000) (loose := Hd.names) (d := HandSHeadRun.topDef (OpenLaw.row PySem.Challenge.rw_tileshifts_k87_whole_console_lines_of_an).prog 109) (kwd := []) Hd.ob_eq
    (by kernel_rfl) (fun s => by kernel_rfl) Hd.run (by kernel_rfl) (by kernel_rfl) (by kernel_rfl) (by rfl) (by first | assumption | decide +kernel) (by decide +kernel) ⟨rfl, rfl, rfl, rfl, rfl, by decide +kernel⟩ ?hw ?hc
  case hw => w_witness2
  case hc =>
    refine L2.walk_ofE (l := PySem.Challenge.rw_tileshifts_k87_whole_console_lines_of_an) (n := 63) (k := 11) (x := "script") (CX := C8.CX0) rfl (by decide) (by kernel_rfl) ⟨rfl, by decide, by decide⟩ ?F (fun _ _ _ _ z => z)
    intro w mg fa h Y G hmg0
    obtain ⟨K, KX, c⟩ := Y
    have hmg : mg ("law" : PySem.Str) = some (.ref fa) := by
      have e : (HandSHeadRun.topDef (OpenLaw.row PySem.Challenge.rw_tileshifts_k87_whole_console_lines_of_an).prog 109).name = ("law" : PySem.Str) := by kernel_rfl
      rw [← e]
      exact hmg0
    obtain ⟨fd, hb, hF⟩ := Fx.facts (P := (PySem.Challenge.rw_tileshifts_k87_whole_console_lines_of_an).prog) (w := w) KX G hmg c
    exact ⟨K, fd, _, KX, hb, fun H a ns hl hO hS => Fx.sp_law hS (Mx.x_law _ _ ns), hF⟩
