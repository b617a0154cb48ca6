import PyProof.Rows.All
import Wide.All
import OpenK.AllK
import Wide.FinOn
import KE.KStateDown
import HandS.Base
import HandS.Call
import HandS.List
import HandS.Comp
import HandS.Ends
import HandS.Iter
import HandS.Walk
import HandS.Conv
import HandS.Wide
import HandS.IsInst
import HandS.CallLocal
import HandS.Words
import HandS.WordsExc
import HandS.Defaults
import HandS.Lambda
import KE.GoesEnum
import HandS.Zip
import HandS.TupAny
import HandS.More
import PyProof.ReprRoads
import HandS.EndTab
import HandS.HeadHook4
import PyProof.P3In
import HandS.Sort
import KE.DataMinMax
import HandS.SetFor
import HandS.TupSets
import HandS.Strs
import HandS.Style
import HandS.WideMore
import KE.DataFind
import PySem.Challenge.RW_warmthbytouch_k33_reason_warmest
import HandS.Head0
import HandS.Head1
import HandS.Head2
import HandS.HeadEnd
import HandS.HeadHook1
import HandS.HeadHook2
set_option Elab.async false
set_option linter.all false
set_option maxRecDepth 100000
set_option maxHeartbeats 0
/-! A layer over the hand layer: defs read as functions of plain data. Slots hold data (frozen: never changed again), or a list of the def's own that may change; no addresses are told. -/
namespace AL
open PySem PySem.Spec L2

/-! ### data on the heap -/
mutual
inductive Dd (K : PySem.W.Frag) (Z : Hp) : V → PyData → Prop
  | non : Dd K Z .non .none
  | bl (b : Bool) : Dd K Z (.bl b) (.bool b)
  | int (i : Int) : Dd K Z (.int i) (.int i)
  | str (x : Str) : Dd K Z (.str x) (.str x)
  | lst {a : Addr} {xs : List V} {ds : List PyData} : Z a = some (.lst xs) → DdA K Z xs ds → Dd K Z (.ref a) (.list ds)
  | tup {a : Addr} {xs : List V} {ds : List PyData} : SqT K Z a xs → DdA K Z xs ds → Dd K Z (.ref a) (.tuple ds)
  /-- a list of ints that is only read (the script); told as a dict, which is never data else -/
  | scr {a : Addr} {ns : List Int} : SqL K Z a (ns.map V.int) → Dd K Z (.ref a) (.dict (ns.map fun n => (.int n, .none)))
inductive DdA (K : PySem.W.Frag) (Z : Hp) : List V → List PyData → Prop
  | nil : DdA K Z [] []
  | cons {v : V} {vs : List V} {d : PyData} {ds : List PyData} : Dd K Z v d → DdA K Z vs ds → DdA K Z (v :: vs) (d :: ds)
end
mutual
def nol : PyData → Bool
  | .list _ => false
  | .dict _ => false
  | .tuple ds => nolA ds
  | _ => true
def nolA : List PyData → Bool
  | [] => true
  | d :: ds => nol d && nolA ds
end
def scr (ns : List Int) : PyData := .dict (ns.map fun n => (.int n, .none))
section
variable {K : PySem.W.Frag} {Z Z' H H' : Hp}
theorem Same.seqT {a : Addr} {xs : List V} (e : Same Z Z') (h : SqT K Z a xs) : SqT K Z' a xs := by
  rcases h with (h | ⟨o, h⟩) | h
  · exact .inl (.inl (e _ _ h))
  · exact .inl (.inr ⟨o, e _ _ h⟩)
  · exact .inr h
mutual
theorem Dd.mono (e : Same Z Z') : ∀ (d : PyData) (v : V), Dd K Z v d → Dd K Z' v d
  | .none, _, h => by cases h; exact .non
  | .bool b, _, h => by cases h; exact .bl b
  | .int i, _, h => by cases h; exact .int i
  | .str x, _, h => by cases h; exact .str x
  | .list ds, _, h => by
    cases h with
    | lst h1 h2 => exact .lst (e _ _ h1) (DdA.mono e ds _ h2)
  | .tuple ds, _, h => by
    cases h with
    | tup h1 h2 => exact .tup (Same.seqT e h1) (DdA.mono e ds _ h2)
  | .dict _, _, h => by
    cases h with
    | scr h1 => exact .scr (Same.seq e h1)
theorem DdA.mono (e : Same Z Z') : ∀ (ds : List PyData) (vs : List V), DdA K Z vs ds → DdA K Z' vs ds
  | [], _, h => by cases h; exact .nil
  | d :: ds, _, h => by
    cases h with
    | cons h1 h2 => exact .cons (Dd.mono e d _ h1) (DdA.mono e ds _ h2)
end
mutual
theorem Dd.tups (e : ∀ a xs, SqT K Z a xs → SqT K Z' a xs) : ∀ (d : PyData) (v : V), nol d = true → Dd K Z v d → Dd K Z' v d
  | .none, _, _, h => by cases h; exact .non
  | .bool b, _, _, h => by cases h; exact .bl b
  | .int i, _, _, h => by cases h; exact .int i
  | .str x, _, _, h => by cases h; exact .str x
  | .list ds, _, n, h => by simp [nol] at n
  | .tuple ds, _, n, h => by
    cases h with
    | tup h1 h2 => exact .tup (e _ _ h1) (DdA.tups e ds _ (by simpa [nol] using n) h2)
  | .dict _, _, n, h => by simp [nol] at n
theorem DdA.tups (e : ∀ a xs, SqT K Z a xs → SqT K Z' a xs) : ∀ (ds : List PyData) (vs : List V), nolA ds = true → DdA K Z vs ds → DdA K Z' vs ds
  | [], _, _, h => by cases h; exact .nil
  | d :: ds, _, n, h => by
    have n' : nol d = true ∧ nolA ds = true := by simpa [nolA] using n
    cases h with
    | cons h1 h2 => exact .cons (Dd.tups e d _ n'.1 h1) (DdA.tups e ds _ n'.2 h2)
end
mutual
theorem Dd.dp (e : Same Z H) : ∀ (d : PyData) (v : V), d.canLay0 = true → Dd K Z v d → Dp K H v d
  | .none, _, _, h => by cases h; exact .non
  | .bool b, _, _, h => by cases h; exact .bl b
  | .int i, _, _, h => by cases h; exact .int i
  | .str x, _, _, h => by cases h; exact .str x
  | .list ds, _, n, h => by
    cases h with
    | lst h1 h2 => exact .lst (SqL.of (e _ _ h1)) (DdA.dp e ds _ (by simpa [PyData.canLay0] using n) h2)
  | .tuple ds, _, n, h => by
    cases h with
    | tup h1 h2 => exact .tup (Same.seqT e h1) (DdA.dp e ds _ (by simpa [PyData.canLay0] using n) h2)
  | .dict _, _, n, h => by simp [PyData.canLay0] at n
theorem DdA.dp (e : Same Z H) : ∀ (ds : List PyData) (vs : List V), PyData.canLayAll0 ds = true → DdA K Z vs ds → DpAll K H vs ds
  | [], _, _, h => by cases h; exact .nil
  | d :: ds, _, n, h => by
    have n' : d.canLay0 = true ∧ PyData.canLayAll0 ds = true := by simpa [PyData.canLayAll0] using n
    cases h with
    | cons h1 h2 => exact .cons (Dd.dp e d _ n'.1 h1) (DdA.dp e ds _ n'.2 h2)
end
theorem DdA.length : ∀ {ds : List PyData} {vs : List V}, DdA K Z vs ds → vs.length = ds.length
  | [], _, h => by cases h; rfl
  | d :: ds, _, h => by
    cases h with
    | cons h1 h2 => simp [DdA.length h2]
theorem DdA.get : ∀ {ds : List PyData} {vs : List V} {i : Nat} {d : PyData}, DdA K Z vs ds → ds[i]? = some d → ∃ v, vs[i]? = some v ∧ Dd K Z v d
  | [], _, _, _, _, e => by simp at e
  | d :: ds, _, 0, _, h, e => by
    cases h with
    | cons h1 h2 => simp at e; subst e; exact ⟨_, rfl, h1⟩
  | d :: ds, _, i + 1, _, h, e => by
    cases h with
    | cons h1 h2 =>
      obtain ⟨v, e1, e2⟩ := DdA.get h2 (by simpa using e)
      exact ⟨v, by simpa using e1, e2⟩
theorem DdA.getV : ∀ {ds : List PyData} {vs : List V} {i : Nat} {v : V}, DdA K Z vs ds → vs[i]? = some v → ∃ d, ds[i]? = some d ∧ Dd K Z v d
  | [], _, _, _, h, e => by cases h; simp at e
  | d :: ds, _, 0, _, h, e => by
    cases h with
    | cons h1 h2 => simp at e; subst e; exact ⟨_, rfl, h1⟩
  | d :: ds, _, i + 1, _, h, e => by
    cases h with
    | cons h1 h2 =>
      obtain ⟨v, e1, e2⟩ := DdA.getV h2 (by simpa using e)
      exact ⟨v, by simpa using e1, e2⟩
theorem DdA.append : ∀ {ds es : List PyData} {vs ws : List V}, DdA K Z vs ds → DdA K Z ws es → DdA K Z (vs ++ ws) (ds ++ es)
  | [], _, _, _, h, k => by cases h; exact k
  | d :: ds, _, _, _, h, k => by
    cases h with
    | cons h1 h2 => exact .cons h1 (DdA.append h2 k)
theorem DdA.set : ∀ {ds : List PyData} {vs : List V} {v : V} {d : PyData} (i : Nat), DdA K Z vs ds → Dd K Z v d → DdA K Z (vs.set i v) (ds.set i d)
  | [], _, _, _, _, h, _ => by cases h; exact .nil
  | d :: ds, _, _, _, 0, h, k => by
    cases h with
    | cons h1 h2 => exact .cons k h2
  | d :: ds, _, _, _, i + 1, h, k => by
    cases h with
    | cons h1 h2 => exact .cons h1 (DdA.set i h2 k)
theorem DdA.take : ∀ {ds : List PyData} {vs : List V} (i : Nat), DdA K Z vs ds → DdA K Z (vs.take i) (ds.take i)
  | [], _, _, h => by cases h; simpa using DdA.nil
  | d :: ds, _, 0, h => by simpa using DdA.nil
  | d :: ds, _, i + 1, h => by
    cases h with
    | cons h1 h2 => exact .cons h1 (DdA.take i h2)
theorem DdA.drop : ∀ {ds : List PyData} {vs : List V} (i : Nat), DdA K Z vs ds → DdA K Z (vs.drop i) (ds.drop i)
  | [], _, _, h => by cases h; simpa using DdA.nil
  | d :: ds, _, 0, h => by simpa using h
  | d :: ds, _, i + 1, h => by
    cases h with
    | cons h1 h2 => exact DdA.drop i h2
theorem DdA.insertIdx {v : V} {d : PyData} (i : Nat) {ds : List PyData} {vs : List V} (hi : i ≤ ds.length) (h : DdA K Z vs ds) (k : Dd K Z v d) : DdA K Z (vs.take i ++ v :: vs.drop i) (ds.take i ++ d :: ds.drop i) :=
  (h.take i).append (.cons k (h.drop i))
theorem DdA.ints : ∀ {vs : List V} {is : List Int}, DdA K Z vs (is.map PyData.int) → vs = is.map V.int
  | _, [], h => by cases h; rfl
  | _, i :: is, h => by
    cases h with
    | cons h1 h2 => cases h1; rw [DdA.ints h2]; rfl
theorem Dd.int_inv {v : V} {i : Int} (h : Dd K Z v (.int i)) : v = .int i := by cases h; rfl
end

/-! ### the state of a body -/
inductive Ent where
  /-- nothing is told -/
  | no
  /-- frozen data -/
  | im (d : PyData)
  /-- a list of its own (none), or the k-th that was handed in to be changed -/
  | ls (w : Option Nat) (ds : List PyData)
  /-- a value as it is: a def, a class -/
  | vl (v : V)
abbrev Gm := List Ent
/-- the entry: the heap, its frozen part, the lists handed in to be changed -/
structure Ct where
  H0 : Hp
  Z0 : Hp
  W : List Addr
  /-- tables of code objects, which a lambda's making may lengthen -/
  T : List (Addr × Str)
def OwnOk (C : Ct) : Option Nat → Addr → Prop
  | none, a => C.H0 a = none
  | some k, a => C.W[k]? = some a
def EntOk (K : PySem.W.Frag) (C : Ct) (H Z : Hp) (sv : Option (Option V)) : Ent → Prop
  | .no => True
  | .im d => ∃ v, sv = some (some v) ∧ Dd K Z v d
  | .ls w ds => ∃ a xs, sv = some (some (V.ref a)) ∧ H a = some (.lst xs) ∧ Z a = none ∧ DdA K Z xs ds ∧ OwnOk C w a
  | .vl v => sv = some (some v)
structure Ok (K : PySem.W.Frag) (C : Ct) (g : Gm) (σ : St) (H Z : Hp) : Prop where
  ln : g.length = σ.length
  fz : Same Z H
  fr : ∀ (a : Addr) (o : HO), C.H0 a = some o → a ∉ C.W → a ∉ C.T.map (·.1) → H a = some o
  z0 : Same C.Z0 Z
  nw : ∀ (a : Addr) (o : HO), Z a = some o → C.Z0 a = some o ∨ C.H0 a = none
  b0 : Same C.Z0 C.H0
  wz : ∀ a, a ∈ C.W → (C.H0 a).isSome = true ∧ C.Z0 a = none
  wh : ∀ a, a ∈ C.W → (H a).isSome = true
  ent : ∀ (i : Nat) (e : Ent), g[i]? = some e → EntOk K C H Z σ[i]? e
  inj : ∀ (i j : Nat) (w w' : Option Nat) (ds es : List PyData) (a : Addr), g[i]? = some (Ent.ls w ds) → g[j]? = some (Ent.ls w' es) → σ[i]? = some (some (V.ref a)) → σ[j]? = some (some (V.ref a)) → i = j
  tb : LamX.Tabs C.T H
  tz : ∀ p, p ∈ C.T → (C.H0 p.1).isSome = true ∧ C.Z0 p.1 = none

/-- a value that an expression gives: data; the list in slot j; a value as it is -/
inductive Av where
  | d (d : PyData)
  | o (j : Nat)
  | v (v : V)
def AvOk (K : PySem.W.Frag) (σ : St) (Z : Hp) : Av → V → Prop
  | .d d, v => Dd K Z v d
  | .o j, v => σ[j]? = some (some v)
  | .v w, v => v = w
inductive AvsOk (K : PySem.W.Frag) (σ : St) (Z : Hp) : List Av → List V → Prop
  | nil : AvsOk K σ Z [] []
  | cons {x : Av} {v : V} {xs : List Av} {vs : List V} : AvOk K σ Z x v → AvsOk K σ Z xs vs → AvsOk K σ Z (x :: xs) (v :: vs)
theorem AvOk.mono {K : PySem.W.Frag} {σ : St} {Z Z' : Hp} (e : Same Z Z') : ∀ {x : Av} {v : V}, AvOk K σ Z x v → AvOk K σ Z' x v
  | .d d, v, h => Dd.mono e d v h
  | .o _, _, h => h
  | .v _, _, h => h
theorem AvsOk.mono {K : PySem.W.Frag} {σ : St} {Z Z' : Hp} (e : Same Z Z') : ∀ {xs : List Av} {vs : List V}, AvsOk K σ Z xs vs → AvsOk K σ Z' xs vs
  | _, _, .nil => .nil
  | _, _, .cons h t => .cons (h.mono e) (t.mono e)

section
variable (K : PySem.W.Frag) (C : Ct)
def AE (te : TE) (g : Gm) (Q : Av → Gm → Prop) : Prop := ∀ σ H Z, Ok K C g σ H Z → ∀ Q' : VK, (∀ v H' Z' x g', Ok K C g' σ H' Z' → Same Z Z' → AvOk K σ Z' x v → Q x g' → Q' v H') → te σ H Q'
def AT (tt : TT) (g : Gm) (Q : Bool → Gm → Prop) : Prop := ∀ σ H Z, Ok K C g σ H Z → ∀ Q' : Bool → Hp → Prop, (∀ b H' Z' g', Ok K C g' σ H' Z' → Same Z Z' → Q b g' → Q' b H') → tt σ H Q'
def AA (ta : TA) (g : Gm) (Q : List Av → Gm → Prop) : Prop := ∀ σ H Z, Ok K C g σ H Z → ∀ Q' : List V → Hp → Prop, (∀ vs H' Z' xs g', Ok K C g' σ H' Z' → Same Z Z' → AvsOk K σ Z' xs vs → Q xs g' → Q' vs H') → ta σ H Q'
/-- the list at p is new: nobody holds it -/
structure New (g : Gm) (σ : St) (H Z : Hp) (p : Addr) (ds : List PyData) : Prop where
  at_ : ∃ xs, H p = some (.lst xs) ∧ DdA K Z xs ds
  nz : Z p = none
  n0 : C.H0 p = none
  no : ∀ (j : Nat) (w : Option Nat) (es : List PyData), g[j]? = some (Ent.ls w es) → σ[j]? ≠ some (some (V.ref p))
/-- an expression whose value is a new list -/
def AN (te : TE) (g : Gm) (Q : List PyData → Gm → Prop) : Prop := ∀ σ H Z, Ok K C g σ H Z → ∀ Q' : VK, (∀ p H' Z' ds g', Ok K C g' σ H' Z' → Same Z Z' → New K C g' σ H' Z' p ds → Q ds g' → Q' (.ref p) H') → te σ H Q'
structure Ae where
  nx : Gm → Prop
  rt : Av → Gm → Prop
  bk : Gm → Prop := fun _ => False
  ct : Gm → Prop := fun _ => False
  /-- a new list is handed back -/
  rn : List PyData → Gm → Prop := fun _ _ => False
/-- the ends D' do what D says, from the frozen part Z on -/
structure Does (Z0 : Hp) (D : Ae) (D' : Ends) : Prop where
  nx : ∀ g σ H Z, Ok K C g σ H Z → Same Z0 Z → D.nx g → D'.nx σ H
  rt : ∀ x v g σ H Z, Ok K C g σ H Z → Same Z0 Z → AvOk K σ Z x v → D.rt x g → D'.rt v H
  bk : ∀ g σ H Z, Ok K C g σ H Z → Same Z0 Z → D.bk g → D'.bk σ H
  ct : ∀ g σ H Z, Ok K C g σ H Z → Same Z0 Z → D.ct g → D'.ct σ H
  rn : ∀ ds p g σ H Z, Ok K C g σ H Z → Same Z0 Z → New K C g σ H Z p ds → D.rn ds g → D'.rt (.ref p) H
def AS (ts : TS) (g : Gm) (D : Ae) : Prop := ∀ σ H Z, Ok K C g σ H Z → ∀ D' : Ends, Does K C Z D D' → ts D' σ H
/-- a target of a store -/
def AG (tg : TG) (x : Av) (g : Gm) (Q : Gm → Prop) : Prop := ∀ σ H Z v, Ok K C g σ H Z → AvOk K σ Z x v → ∀ Q' : St → Hp → Prop, (∀ g' σ' H' Z', Ok K C g' σ' H' Z' → Same Z Z' → Q g' → Q' σ' H') → tg v σ H Q'
end

/-! ### stores of slots, new objects -/
section
variable {K : PySem.W.Frag} {C : Ct} {g : Gm} {σ : St} {H Z : Hp}
theorem Ok.new (I : Ok K C g σ H Z) {a : Addr} (h : H a = none) : Z a = none ∧ C.H0 a = none ∧ ∀ (j : Nat) (w : Option Nat) (es : List PyData), g[j]? = some (Ent.ls w es) → σ[j]? ≠ some (some (V.ref a)) := by
  have hz : Z a = none := I.fz.free h
  refine ⟨hz, ?_, fun j w es e z => ?_⟩
  · cases q : C.H0 a with
    | none => rfl
    | some o =>
      by_cases hw : a ∈ C.W
      · have z := I.wh a hw
        rw [h] at z; cases z
      · by_cases ht : a ∈ C.T.map (·.1)
        · obtain ⟨p, hp, e⟩ := List.mem_map.mp ht
          obtain ⟨ps, z, _⟩ := I.tb p hp
          rw [e, h] at z; cases z
        · rw [I.fr a o q hw ht] at h; cases h
  · obtain ⟨b, xs, e1, e2, _⟩ := I.ent j _ e
    rw [z] at e1
    cases e1
    rw [e2] at h; cases h
end
end AL
/-! The layer's rules over readings. -/
namespace AL
open PySem PySem.Spec L2

/-! ### stores of entries -/
inductive SetE : Gm → Nat → Ent → Gm → Prop
  | z {a e : Ent} {g : Gm} : SetE (a :: g) 0 e (e :: g)
  | s {a e : Ent} {g g' : Gm} {i : Nat} : SetE g i e g' → SetE (a :: g) (i + 1) e (a :: g')
theorem SetE.eq : ∀ {g g' : Gm} {i : Nat} {e : Ent}, SetE g i e g' → g' = g.set i e ∧ i < g.length
  | _, _, _, _, .z => ⟨rfl, by simp⟩
  | _, _, _, _, .s h => by
    obtain ⟨h1, h2⟩ := h.eq
    exact ⟨by rw [h1]; rfl, by simpa using h2⟩
theorem SetE.len {g g' : Gm} {i : Nat} {e : Ent} (h : SetE g i e g') : g'.length = g.length ∧ i < g.length := by
  obtain ⟨h1, h2⟩ := h.eq
  exact ⟨by rw [h1, List.length_set], h2⟩
theorem SetE.same {g g' : Gm} {i : Nat} {e : Ent} (h : SetE g i e g') : g'[i]? = some e := by
  obtain ⟨h1, h2⟩ := h.eq
  rw [h1, List.getElem?_set_self h2]
theorem SetE.ne {g g' : Gm} {i j : Nat} {e : Ent} (h : SetE g i e g') (n : j ≠ i) : g'[j]? = g[j]? := by
  obtain ⟨h1, h2⟩ := h.eq
  rw [h1, List.getElem?_set_ne (Ne.symm n)]
/-- entries forgotten -/
inductive WkE : Gm → Gm → Prop
  | nil : WkE [] []
  | same {e : Ent} {g g' : Gm} : WkE g g' → WkE (e :: g) (e :: g')
  | drop {e : Ent} {g g' : Gm} : WkE g g' → WkE (e :: g) (.no :: g')
theorem WkE.refl : ∀ g : Gm, WkE g g
  | [] => .nil
  | _ :: g => .same (WkE.refl g)
theorem WkE.len : ∀ {g g' : Gm}, WkE g g' → g'.length = g.length
  | _, _, .nil => rfl
  | _, _, .same w => by simp [WkE.len w]
  | _, _, .drop w => by simp [WkE.len w]
theorem WkE.get : ∀ {g g' : Gm} {i : Nat} {e : Ent}, WkE g g' → g'[i]? = some e → e = .no ∨ g[i]? = some e
  | _, _, _, _, .nil, h => by simp at h
  | _, _, 0, _, .same _, h => by simp at h; subst h; exact .inr rfl
  | _, _, 0, _, .drop _, h => by simp at h; exact .inl h.symm
  | _, _, i + 1, _, .same w, h => by simpa using WkE.get (i := i) w (by simpa using h)
  | _, _, i + 1, _, .drop w, h => by simpa using WkE.get (i := i) w (by simpa using h)
inductive WipeE : Gm → List Nat → Gm → Prop
  | nil {g : Gm} : WipeE g [] g
  | cons {g g1 g2 : Gm} {i : Nat} {l : List Nat} : WipeE g l g1 → SetE g1 i .no g2 → WipeE g (i :: l) g2

/-- tables stand where all but lists stands -/
theorem Tabs.keep {T : List (Addr × Str)} {H H' : Hp} (t : LamX.Tabs T H) (e : ∀ b o, H b = some o → (∀ xs, o ≠ .lst xs) → H' b = some o) : LamX.Tabs T H' := fun p hp => by
  obtain ⟨ps, h1, h2, h3⟩ := t p hp
  refine ⟨ps, e _ _ h1 (fun xs z => by cases z), h2, fun pos cv hc => ?_⟩
  obtain ⟨c, e1, e2⟩ := h3 pos cv hc
  exact ⟨c, e1, e _ _ e2 fun xs z => by unfold LamX.CodeO at z; cases z⟩
section
variable {K : PySem.W.Frag} {C : Ct} {g g' : Gm} {σ : St} {H H' Z Z' : Hp}
theorem Ok.weak (I : Ok K C g σ H Z) (w : WkE g g') : Ok K C g' σ H Z := by
  refine ⟨w.len.trans I.ln, I.fz, I.fr, I.z0, I.nw, I.b0, I.wz, I.wh, fun i e h => ?_, fun i j v v' ds es a h1 h2 => ?_, I.tb, I.tz⟩
  · rcases w.get h with z | z
    · subst z; trivial
    · exact I.ent i e z
  · rcases w.get h1 with z | z
    · cases z
    · rcases w.get h2 with z' | z'
      · cases z'
      · exact I.inj i j v v' ds es a z z'
/-- the heap's frozen part grows by new objects, the rest stands -/
theorem Ok.grow (I : Ok K C g σ H Z) (hH : Same H H') (hZ : Same Z Z') (hZH : Same Z' H') (hn : ∀ (a : Addr) (o : HO), Z' a = some o → Z a = some o ∨ H a = none) : Ok K C g σ H' Z' := by
  refine ⟨I.ln, hZH, fun a o h hw ht => hH a o (I.fr a o h hw ht), fun a o h => hZ a o (I.z0 a o h), fun a o h => ?_, I.b0, I.wz, fun a h => ?_, fun i e h => ?_, I.inj, I.tb.ext hH, I.tz⟩
  · rcases hn a o h with z | z
    · exact I.nw a o z
    · exact .inr (I.new z).2.1
  · cases q : H a with
    | none => have := I.wh a h; rw [q] at this; cases this
    | some o => rw [hH a o q]; rfl
  · have q := I.ent i e h
    cases e with
    | no => trivial
    | im d => obtain ⟨v, e1, e2⟩ := q; exact ⟨v, e1, e2.mono hZ⟩
    | ls w ds =>
      obtain ⟨a, xs, e1, e2, e3, e4, e5⟩ := q
      refine ⟨a, xs, e1, hH a _ e2, ?_, e4.mono hZ, e5⟩
      cases q : Z' a with
      | none => rfl
      | some o =>
        rcases hn a o q with z | z
        · rw [e3] at z; cases z
        · rw [e2] at z; cases z
    | vl v => exact q
theorem Ok.zt (I : Ok K C g σ H Z) {p : Addr × Str} (hp : p ∈ C.T) : Z p.1 = none := by
  obtain ⟨h1, h2⟩ := I.tz p hp
  cases q : Z p.1 with
  | none => rfl
  | some o =>
    rcases I.nw _ _ q with z | z
    · rw [h2] at z; cases z
    · rw [z] at h1; cases h1
/-- .. and the tables may be lengthened -/
theorem Ok.growT (I : Ok K C g σ H Z) (hT : LamX.Tabs C.T H') (hH : ∀ (a : Addr) (o : HO), a ∉ C.T.map (·.1) → H a = some o → H' a = some o) (hZ : Same Z Z') (hZH : Same Z' H') (hn : ∀ (a : Addr) (o : HO), Z' a = some o → Z a = some o ∨ H a = none) : Ok K C g σ H' Z' := by
  have nT : ∀ {a xs}, H a = some (.lst xs) → a ∉ C.T.map (·.1) := fun {a xs} e m => by
    obtain ⟨p, hp, e2⟩ := List.mem_map.mp m
    obtain ⟨ps, z, _⟩ := I.tb p hp
    rw [e2, e] at z; cases z
  refine ⟨I.ln, hZH, fun a o h hw ht => hH a o ht (I.fr a o h hw ht), fun a o h => hZ a o (I.z0 a o h), fun a o h => ?_, I.b0, I.wz, fun a h => ?_, fun i e h => ?_, I.inj, hT, I.tz⟩
  · rcases hn a o h with z | z
    · exact I.nw a o z
    · exact .inr (I.new z).2.1
  · by_cases m : a ∈ C.T.map (·.1)
    · obtain ⟨p, hp, e2⟩ := List.mem_map.mp m
      obtain ⟨ps, z, _⟩ := hT p hp
      rw [← e2, z]; rfl
    · cases q : H a with
      | none => have := I.wh a h; rw [q] at this; cases this
      | some o => rw [hH a o m q]; rfl
  · have q := I.ent i e h
    cases e with
    | no => trivial
    | im d => obtain ⟨v, e1, e2⟩ := q; exact ⟨v, e1, e2.mono hZ⟩
    | ls w ds =>
      obtain ⟨a, xs, e1, e2, e3, e4, e5⟩ := q
      refine ⟨a, xs, e1, hH a _ (nT e2) e2, ?_, e4.mono hZ, e5⟩
      cases q : Z' a with
      | none => rfl
      | some o =>
        rcases hn a o q with z | z
        · rw [e3] at z; cases z
        · rw [e2] at z; cases z
    | vl v => exact q
/-- a new frozen object -/
theorem Ok.newF (I : Ok K C g σ H Z) {p : Addr} {o : HO} (h : H p = none) : Ok K C g σ (upd H p o) (upd Z p o) ∧ Same Z (upd Z p o) ∧ Same H (upd H p o) := by
  have hz := (I.new h).1
  have s1 : Same Z (upd Z p o) := fun a u q => by rw [upd_ne (ne_of_none q hz)]; exact q
  have s2 : Same H (upd H p o) := fun a u q => by rw [upd_ne (ne_of_none q h)]; exact q
  refine ⟨I.grow s2 s1 (fun a u q => ?_) (fun a u q => ?_), s1, s2⟩
  · by_cases e : a = p
    · subst e; rw [upd_same] at q ⊢; exact q
    · rw [upd_ne e] at q ⊢; exact I.fz a u q
  · by_cases e : a = p
    · subst e; exact .inr h
    · rw [upd_ne e] at q; exact .inl q
/-- a new object that is not frozen -/
theorem Ok.newO (I : Ok K C g σ H Z) {p : Addr} {o : HO} (h : H p = none) : Ok K C g σ (upd H p o) Z :=
  I.grow (fun a u q => by rw [upd_ne (ne_of_none q h)]; exact q) (Same.refl _) (fun a u q => by rw [upd_ne (ne_of_none (I.fz a u q) h)]; exact I.fz a u q) fun _ _ q => .inl q
/-- a slot is stored: data, a value -/
theorem Ok.setD (I : Ok K C g σ H Z) {i : Nat} {v : V} {d : PyData} (hv : Dd K Z v d) (s : SetE g i (.im d) g') : Ok K C g' (σ.set i (some v)) H Z := by
  have hl : i < σ.length := by rw [← I.ln]; exact s.len.2
  refine ⟨by rw [List.length_set, s.len.1, I.ln], I.fz, I.fr, I.z0, I.nw, I.b0, I.wz, I.wh, fun j e h => ?_, fun j k w w' ds es a h1 h2 h3 h4 => ?_, I.tb, I.tz⟩
  · by_cases q : j = i
    · subst q
      rw [s.same] at h; cases h
      exact ⟨v, List.getElem?_set_self hl, hv⟩
    · rw [s.ne q] at h
      rw [List.getElem?_set_ne (Ne.symm q)]
      exact I.ent j e h
  · have q1 : j ≠ i := fun z => by subst z; rw [s.same] at h1; cases h1
    have q2 : k ≠ i := fun z => by subst z; rw [s.same] at h2; cases h2
    rw [s.ne q1] at h1; rw [s.ne q2] at h2
    rw [List.getElem?_set_ne (Ne.symm q1)] at h3
    rw [List.getElem?_set_ne (Ne.symm q2)] at h4
    exact I.inj j k w w' ds es a h1 h2 h3 h4
theorem Ok.setV (I : Ok K C g σ H Z) {i : Nat} {v : V} (s : SetE g i (.vl v) g') : Ok K C g' (σ.set i (some v)) H Z := by
  have hl : i < σ.length := by rw [← I.ln]; exact s.len.2
  refine ⟨by rw [List.length_set, s.len.1, I.ln], I.fz, I.fr, I.z0, I.nw, I.b0, I.wz, I.wh, fun j e h => ?_, fun j k w w' ds es a h1 h2 h3 h4 => ?_, I.tb, I.tz⟩
  · by_cases q : j = i
    · subst q
      rw [s.same] at h; cases h
      exact List.getElem?_set_self hl
    · rw [s.ne q] at h
      rw [List.getElem?_set_ne (Ne.symm q)]
      exact I.ent j e h
  · have q1 : j ≠ i := fun z => by subst z; rw [s.same] at h1; cases h1
    have q2 : k ≠ i := fun z => by subst z; rw [s.same] at h2; cases h2
    rw [s.ne q1] at h1; rw [s.ne q2] at h2
    rw [List.getElem?_set_ne (Ne.symm q1)] at h3
    rw [List.getElem?_set_ne (Ne.symm q2)] at h4
    exact I.inj j k w w' ds es a h1 h2 h3 h4
/-- a slot takes a new list -/
theorem Ok.setL (I : Ok K C g σ H Z) {i : Nat} {p : Addr} {ds : List PyData} (n : New K C g σ H Z p ds) (s : SetE g i (.ls none ds) g') : Ok K C g' (σ.set i (some (.ref p))) H Z := by
  have hl : i < σ.length := by rw [← I.ln]; exact s.len.2
  refine ⟨by rw [List.length_set, s.len.1, I.ln], I.fz, I.fr, I.z0, I.nw, I.b0, I.wz, I.wh, fun j e h => ?_, fun j k w w' ds' es a h1 h2 h3 h4 => ?_, I.tb, I.tz⟩
  · by_cases q : j = i
    · subst q
      rw [s.same] at h; cases h
      obtain ⟨xs, n1, n2⟩ := n.at_
      exact ⟨p, xs, List.getElem?_set_self hl, n1, n.nz, n2, n.n0⟩
    · rw [s.ne q] at h
      rw [List.getElem?_set_ne (Ne.symm q)]
      exact I.ent j e h
  · by_cases q1 : j = i
    · by_cases q2 : k = i
      · rw [q1, q2]
      · subst q1
        rw [List.getElem?_set_self hl] at h3
        cases h3
        rw [s.ne q2] at h2
        rw [List.getElem?_set_ne (Ne.symm q2)] at h4
        exact absurd h4 (n.no k w' es h2)
    · rw [s.ne q1] at h1
      rw [List.getElem?_set_ne (Ne.symm q1)] at h3
      by_cases q2 : k = i
      · subst q2
        rw [List.getElem?_set_self hl] at h4
        cases h4
        exact absurd h3 (n.no j w ds' h1)
      · rw [s.ne q2] at h2
        rw [List.getElem?_set_ne (Ne.symm q2)] at h4
        exact I.inj j k w w' ds' es a h1 h2 h3 h4
theorem Ok.own (I : Ok K C g σ H Z) {j : Nat} {w : Option Nat} {ds : List PyData} {v : V} (h : g[j]? = some (.ls w ds)) (hv : σ[j]? = some (some v)) :
    ∃ a xs, v = .ref a ∧ H a = some (.lst xs) ∧ Z a = none ∧ DdA K Z xs ds ∧ OwnOk C w a := by
  obtain ⟨a, xs, e1, e2, e3, e4, e5⟩ := I.ent j _ h
  rw [hv] at e1; cases e1
  exact ⟨a, xs, rfl, e2, e3, e4, e5⟩
/-- an own list is changed -/
theorem Ok.put (I : Ok K C g σ H Z) {j : Nat} {w : Option Nat} {ds es : List PyData} {a : Addr} {ys : List V} (h : g[j]? = some (.ls w ds)) (hv : σ[j]? = some (some (V.ref a))) (hy : DdA K Z ys es) (s : SetE g j (.ls w es) g') :
    Ok K C g' σ (upd H a (.lst ys)) Z := by
  obtain ⟨b, xs, e0, e2, e3, e4, e5⟩ := I.own h hv
  cases e0
  refine ⟨s.len.1.trans I.ln, fun b o q => ?_, fun b o q hw ht => ?_, I.z0, I.nw, I.b0, I.wz, fun b hb => ?_, fun k e hk => ?_, fun i k v v' ds' es' b h1 h2 h3 h4 => ?_, Tabs.keep I.tb fun b o q n => ?_, I.tz⟩
  · rw [upd_ne (ne_of_none q e3)]; exact I.fz b o q
  · have ne : b ≠ a := fun z => by
      subst z
      cases w with
      | none =>
        have z : C.H0 b = none := e5
        rw [z] at q; cases q
      | some k => exact hw (List.mem_of_getElem? (show C.W[k]? = some b from e5))
    rw [upd_ne ne]; exact I.fr b o q hw ht
  · by_cases z : b = a
    · subst z; rw [upd_same]; rfl
    · rw [upd_ne z]; exact I.wh b hb
  · by_cases q : k = j
    · subst q
      rw [s.same] at hk; cases hk
      exact ⟨a, ys, hv, upd_same, e3, hy, e5⟩
    · rw [s.ne q] at hk
      have r := I.ent k e hk
      cases e with
      | no => trivial
      | im d => exact r
      | ls w2 ds2 =>
        obtain ⟨b, zs, f1, f2, f3, f4, f5⟩ := r
        have ne : b ≠ a := fun z => by subst z; exact q (I.inj k j w2 w ds2 ds _ hk h f1 hv)
        exact ⟨b, zs, f1, by rw [upd_ne ne]; exact f2, f3, f4, f5⟩
      | vl v => exact r
  · have l : ∀ {i : Nat} {v : Option Nat} {ds' : List PyData}, g'[i]? = some (.ls v ds') → ∃ v'' ds'', g[i]? = some (Ent.ls v'' ds'') := fun {i v ds'} h1 => by
      by_cases q : i = j
      · subst q; exact ⟨w, ds, h⟩
      · rw [s.ne q] at h1; exact ⟨v, ds', h1⟩
    obtain ⟨v1, d1, k1⟩ := l h1
    obtain ⟨v2, d2, k2⟩ := l h2
    exact I.inj i k v1 v2 d1 d2 b k1 k2 h3 h4
  · have ne : b ≠ a := fun z => by
      subst z
      rw [e2] at q; cases q
      exact n xs rfl
    rw [upd_ne ne]; exact q
/-- an own list is frozen -/
theorem Ok.frz (I : Ok K C g σ H Z) {j : Nat} {ds : List PyData} {v : V} (h : g[j]? = some (.ls none ds)) (hv : σ[j]? = some (some v)) (s : SetE g j (.im (.list ds)) g') :
    ∃ Z', Ok K C g' σ H Z' ∧ Same Z Z' ∧ Dd K Z' v (.list ds) := by
  obtain ⟨a, xs, e0, e2, e3, e4, e5⟩ := I.own h hv
  subst e0
  have s1 : Same Z (upd Z a (.lst xs)) := fun b u q => by rw [upd_ne (ne_of_none q e3)]; exact q
  have hd : Dd K (upd Z a (.lst xs)) (.ref a) (.list ds) := .lst upd_same (e4.mono s1)
  refine ⟨upd Z a (.lst xs), ⟨s.len.1.trans I.ln, fun b o q => ?_, I.fr, fun b o q => s1 b o (I.z0 b o q), fun b o q => ?_, I.b0, I.wz, I.wh, fun k e hk => ?_, fun i k w w' ds' es' b h1 h2 h3 h4 => ?_, I.tb, I.tz⟩, s1, hd⟩
  · by_cases z : b = a
    · subst z; rw [upd_same] at q; cases q; exact e2
    · rw [upd_ne z] at q; exact I.fz b o q
  · by_cases z : b = a
    · subst z; exact .inr e5
    · rw [upd_ne z] at q; exact I.nw b o q
  · by_cases q : k = j
    · subst q
      rw [s.same] at hk; cases hk
      exact ⟨_, hv, hd⟩
    · rw [s.ne q] at hk
      have r := I.ent k e hk
      cases e with
      | no => trivial
      | im d => obtain ⟨v, r1, r2⟩ := r; exact ⟨v, r1, r2.mono s1⟩
      | ls w2 ds2 =>
        obtain ⟨b, zs, f1, f2, f3, f4, f5⟩ := r
        have ne : b ≠ a := fun z => by subst z; exact q (I.inj k j w2 none ds2 ds _ hk h f1 hv)
        exact ⟨b, zs, f1, f2, by rw [upd_ne ne]; exact f3, f4.mono s1, f5⟩
      | vl v => exact r
  · have q1 : i ≠ j := fun z => by subst z; rw [s.same] at h1; cases h1
    have q2 : k ≠ j := fun z => by subst z; rw [s.same] at h2; cases h2
    rw [s.ne q1] at h1; rw [s.ne q2] at h2
    exact I.inj i k w w' ds' es' b h1 h2 h3 h4
/-- a new list is frozen -/
theorem Ok.frzN (I : Ok K C g σ H Z) {p : Addr} {ds : List PyData} (n : New K C g σ H Z p ds) : ∃ Z', Ok K C g σ H Z' ∧ Same Z Z' ∧ Dd K Z' (.ref p) (.list ds) := by
  obtain ⟨xs, n1, n2⟩ := n.at_
  have s1 : Same Z (upd Z p (.lst xs)) := fun b u q => by rw [upd_ne (ne_of_none q n.nz)]; exact q
  refine ⟨upd Z p (.lst xs), ⟨I.ln, fun b o q => ?_, I.fr, fun b o q => s1 b o (I.z0 b o q), fun b o q => ?_, I.b0, I.wz, I.wh, fun k e hk => ?_, I.inj, I.tb, I.tz⟩, s1, .lst upd_same (n2.mono s1)⟩
  · by_cases z : b = p
    · subst z; rw [upd_same] at q; cases q; exact n1
    · rw [upd_ne z] at q; exact I.fz b o q
  · by_cases z : b = p
    · subst z; exact .inr n.n0
    · rw [upd_ne z] at q; exact I.nw b o q
  · have r := I.ent k e hk
    cases e with
    | no => trivial
    | im d => obtain ⟨v, r1, r2⟩ := r; exact ⟨v, r1, r2.mono s1⟩
    | ls w2 ds2 =>
      obtain ⟨b, zs, f1, f2, f3, f4, f5⟩ := r
      have ne : b ≠ p := fun z => by subst z; exact n.no k w2 ds2 hk f1
      exact ⟨b, zs, f1, f2, by rw [upd_ne ne]; exact f3, f4.mono s1, f5⟩
    | vl v => exact r
end
end AL
/-! The layer's rules over readings: expressions, tests, statements. -/
namespace AL
open PySem PySem.Spec L2

def BR (b : Bool) (A B : Prop) : Prop := (b = true → A) ∧ (b = false → B)
theorem br_t {A B : Prop} (h : A) : BR true A B := ⟨fun _ => h, fun z => Bool.noConfusion z⟩
theorem br_f {A B : Prop} (h : B) : BR false A B := ⟨fun z => Bool.noConfusion z, fun _ => h⟩
theorem br_d {p A B : Prop} [Decidable p] (h : p → A) (k : ¬ p → B) : BR (decide p) A B := ⟨fun z => h (of_decide_eq_true z), fun z => k (of_decide_eq_false z)⟩
theorem br_n {b : Bool} {A B : Prop} (h : BR b B A) : BR (!b) A B := by
  cases b with
  | true => exact br_f (h.1 rfl)
  | false => exact br_t (h.2 rfl)
theorem br_b {b : Bool} {A B : Prop} (h : b = true → A) (k : b = false → B) : BR b A B := ⟨h, k⟩
theorem br_dt {p A B : Prop} [Decidable p] (hp : p) (h : A) : BR (decide p) A B := br_d (fun _ => h) fun z => absurd hp z
theorem br_df {p A B : Prop} [Decidable p] (hp : ¬ p) (h : B) : BR (decide p) A B := br_d (fun z => absurd z hp) fun _ => h

/-- the data of a list of values; owned lists among them are frozen -/
inductive Frz : List Av → Gm → List PyData → Gm → Prop
  | nil {g : Gm} : Frz [] g [] g
  | d {d : PyData} {xs : List Av} {g g' : Gm} {ds : List PyData} : Frz xs g ds g' → Frz (.d d :: xs) g (d :: ds) g'
  | o {j : Nat} {xs : List Av} {g g1 g' : Gm} {es ds : List PyData} : g[j]? = some (.ls none es) → SetE g j (.im (.list es)) g1 → Frz xs g1 ds g' → Frz (.o j :: xs) g (.list es :: ds) g'
section
variable {K : PySem.W.Frag} {C : Ct} {g g' : Gm} {σ : St} {H H' Z Z' : Hp}
theorem Frz.run : ∀ {xs : List Av} {g g' : Gm} {ds : List PyData} {vs : List V} {Z : Hp}, Frz xs g ds g' → Ok K C g σ H Z → AvsOk K σ Z xs vs → ∃ Z', Ok K C g' σ H Z' ∧ Same Z Z' ∧ DdA K Z' vs ds
  | _, _, _, _, _, Z, .nil, I, .nil => ⟨Z, I, Same.refl _, .nil⟩
  | _, _, _, _, _, Z, .d f, I, .cons h t => by
    obtain ⟨Z', I', s, r⟩ := f.run I t
    exact ⟨Z', I', s, .cons (Dd.mono s _ _ h) r⟩
  | _, _, _, _, _, Z, .o h1 h2 f, I, .cons h t => by
    obtain ⟨Z1, I1, s1, r1⟩ := I.frz h1 h h2
    obtain ⟨Z', I', s, r⟩ := f.run I1 (t.mono s1)
    exact ⟨Z', I', s1.trans s, .cons (Dd.mono s _ _ r1) r⟩

/-! ### expressions -/
variable {Q : Av → Gm → Prop} {te ta tb : TE} {tt tu : TT}
theorem AE.mono {Q' : Av → Gm → Prop} (h : AE K C te g Q) (k : ∀ x g', Q x g' → Q' x g') : AE K C te g Q' := fun σ H Z I P p => h σ H Z I P fun v H' Z' x g' I' s a q => p v H' Z' x g' I' s a (k x g' q)
theorem ae_im {i : Nat} {d : PyData} (h : g[i]? = some (.im d)) (q : Q (.d d) g) : AE K C (tVar i) g Q := fun σ H Z I P p => by
  obtain ⟨v, e1, e2⟩ := I.ent i _ h
  exact ⟨v, e1, p v H Z (.d d) g I (Same.refl _) e2 q⟩
theorem ae_ls {i : Nat} {w : Option Nat} {ds : List PyData} (h : g[i]? = some (.ls w ds)) (q : Q (.o i) g) : AE K C (tVar i) g Q := fun σ H Z I P p => by
  obtain ⟨a, xs, e1, _⟩ := I.ent i _ h
  exact ⟨_, e1, p _ H Z (.o i) g I (Same.refl _) e1 q⟩
theorem ae_vl {i : Nat} {v : V} (h : g[i]? = some (.vl v)) (q : Q (.v v) g) : AE K C (tVar i) g Q := fun σ H Z I P p => by
  have e : σ[i]? = some (some v) := I.ent i _ h
  exact ⟨v, e, p v H Z (.v v) g I (Same.refl _) rfl q⟩
theorem ae_cv {v : V} (q : Q (.v v) g) : AE K C (tC v) g Q := fun σ H Z I P p => p v H Z (.v v) g I (Same.refl _) rfl q
theorem ae_cd {v : V} {d : PyData} (hd : ∀ Z, Dd K Z v d) (q : Q (.d d) g) : AE K C (tC v) g Q := fun σ H Z I P p => p v H Z (.d d) g I (Same.refl _) (hd Z) q
/-- what an operation on two values gives -/
def RA (K : PySem.W.Frag) (C : Ct) (r : R2) (x y : Av) (g : Gm) (Q : Av → Gm → Prop) : Prop := ∀ σ H Z v w, Ok K C g σ H Z → AvOk K σ Z x v → AvOk K σ Z y w → ∀ P : VK, (∀ u H' Z' z g', Ok K C g' σ H' Z' → Same Z Z' → AvOk K σ Z' z u → Q z g' → P u H') → r v w H P
theorem ae_op {r : R2} (h : AE K C ta g fun x g1 => AE K C tb g1 fun y g2 => RA K C r x y g2 Q) : AE K C (tOp r ta tb) g Q := fun σ H Z I P p =>
  h σ H Z I _ fun v H1 Z1 x g1 I1 s1 a1 q1 => q1 σ H1 Z1 I1 _ fun w H2 Z2 y g2 I2 s2 a2 q2 => q2 σ H2 Z2 v w I2 (a1.mono s2) a2 P fun u H3 Z3 z g3 I3 s3 a3 q3 => p u H3 Z3 z g3 I3 ((s1.trans s2).trans s3) a3 q3
theorem ra_or1 {r r' : R2} {x y : Av} (h : RA K C r x y g Q) : RA K C (fun v w H P => r v w H P ∨ r' v w H P) x y g Q := fun σ H Z v w I a b P p => .inl (h σ H Z v w I a b P p)
theorem ra_or2 {r r' : R2} {x y : Av} (h : RA K C r' x y g Q) : RA K C (fun v w H P => r v w H P ∨ r' v w H P) x y g Q := fun σ H Z v w I a b P p => .inr (h σ H Z v w I a b P p)
theorem ra_I0 {f : Int → Int → V} {i j : Int} {d : PyData} (hd : ∀ Z, Dd K Z (f i j) d) (q : Q (.d d) g) : RA K C (rI0 f) (.d (.int i)) (.d (.int j)) g Q := fun σ H Z v w I a b P p => by
  cases a; cases b
  exact ⟨i, j, rfl, rfl, p _ H Z (.d d) g I (Same.refl _) (hd Z) q⟩
theorem ra_I {R : Int → Int → Prop} {f : Int → Int → V} {i j : Int} {d : PyData} (hc : R i j) (hd : ∀ Z, Dd K Z (f i j) d) (q : Q (.d d) g) : RA K C (rI R f) (.d (.int i)) (.d (.int j)) g Q := fun σ H Z v w I a b P p => by
  cases a; cases b
  exact ⟨i, j, rfl, rfl, hc, p _ H Z (.d d) g I (Same.refl _) (hd Z) q⟩
/-- an unary operation -/
theorem ae_un {f : Int → V} {d : Int → PyData} (hd : ∀ Z i, Dd K Z (f i) (d i)) (h : AE K C ta g fun x g1 => ∃ i, x = .d (.int i) ∧ Q (.d (d i)) g1) : AE K C (tUn (rU f) ta) g Q := fun σ H Z I P p =>
  h σ H Z I _ fun v H1 Z1 x g1 I1 s1 a1 q1 => by
    obtain ⟨i, rfl, q⟩ := q1
    cases a1
    exact ⟨i, rfl, p _ H1 Z1 (.d (d i)) g1 I1 s1 (hd Z1 i) q⟩
theorem aa_nil {QA : List Av → Gm → Prop} (q : QA [] g) : AA K C tNil g QA := fun σ H Z I P p => p [] H Z [] g I (Same.refl _) .nil q
theorem aa_cons {QA : List Av → Gm → Prop} {tr : TA} (h : AE K C ta g fun x g1 => AA K C tr g1 fun xs g2 => QA (x :: xs) g2) : AA K C (tCons ta tr) g QA := fun σ H Z I P p =>
  h σ H Z I _ fun v H1 Z1 x g1 I1 s1 a1 q1 => q1 σ H1 Z1 I1 _ fun vs H2 Z2 xs g2 I2 s2 a2 q2 => p (v :: vs) H2 Z2 (x :: xs) g2 I2 (s1.trans s2) (.cons (a1.mono s2) a2) q2
theorem ae_tup {tr : TA} (h : AA K C tr g fun xs g1 => ∃ ds g2, Frz xs g1 ds g2 ∧ ds.length ≤ 1000000 ∧ Q (.d (.tuple ds)) g2) : AE K C (tTup tr) g Q := fun σ H Z I P p =>
  h σ H Z I _ fun vs H1 Z1 xs g1 I1 s1 a1 q1 => by
    obtain ⟨ds, g2, f, hl, q⟩ := q1
    obtain ⟨Z2, I2, s2, r2⟩ := f.run I1 a1
    refine ⟨by rw [r2.length]; exact Nat.le_trans hl (by decide), fun t ht => ?_⟩
    obtain ⟨I3, s3, _⟩ := I2.newF (o := .tup vs) ht
    exact p _ _ _ (.d (.tuple ds)) g2 I3 ((s1.trans s2).trans s3) (.tup (SqT.of upd_same) (r2.mono s3)) q
theorem an_lst {QL : List PyData → Gm → Prop} {tr : TA} (h : AA K C tr g fun xs g1 => ∃ ds g2, Frz xs g1 ds g2 ∧ ds.length ≤ 1000000 ∧ QL ds g2) : AN K C (tLst tr) g QL := fun σ H Z I P p =>
  h σ H Z I _ fun vs H1 Z1 xs g1 I1 s1 a1 q1 => by
    obtain ⟨ds, g2, f, hl, q⟩ := q1
    obtain ⟨Z2, I2, s2, r2⟩ := f.run I1 a1
    refine ⟨by rw [r2.length]; exact Nat.le_trans hl (by decide), fun t ht => ?_⟩
    obtain ⟨n1, n2, n3⟩ := I2.new ht
    exact p t _ Z2 ds g2 (I2.newO ht) (s1.trans s2) ⟨⟨vs, upd_same, r2⟩, n1, n2, n3⟩ q
/-- a new list as data -/
theorem ae_an (h : AN K C te g fun ds g1 => Q (.d (.list ds)) g1) : AE K C te g Q := fun σ H Z I P p =>
  h σ H Z I P fun t H1 Z1 ds g1 I1 s1 n q => by
    obtain ⟨Z2, I2, s2, r⟩ := I1.frzN n
    exact p _ H1 Z2 (.d (.list ds)) g1 I2 (s1.trans s2) r q
theorem ae_if (h : AT K C tt g fun b g1 => BR b (AE K C ta g1 Q) (AE K C tb g1 Q)) : AE K C (tIf tt ta tb) g Q := fun σ H Z I P p =>
  h σ H Z I _ fun b H1 Z1 g1 I1 s1 q1 => by
    cases b with
    | true => exact q1.1 rfl σ H1 Z1 I1 P fun v H2 Z2 x g2 I2 s2 => p v H2 Z2 x g2 I2 (s1.trans s2)
    | false => exact q1.2 rfl σ H1 Z1 I1 P fun v H2 Z2 x g2 I2 s2 => p v H2 Z2 x g2 I2 (s1.trans s2)
theorem ae_andV (h : AE K C ta g fun x g1 => ∃ b, x = .d (.bool b) ∧ BR b (AE K C tb g1 Q) (Q (.d (.bool false)) g1)) : AE K C (tAndV ta tb) g Q := fun σ H Z I P p =>
  h σ H Z I _ fun v H1 Z1 x g1 I1 s1 a1 q1 => by
    obtain ⟨b, rfl, q⟩ := q1
    cases a1
    refine ⟨b, rfl, ?_⟩
    cases b with
    | true => exact q.1 rfl σ H1 Z1 I1 P fun v H2 Z2 x g2 I2 s2 => p v H2 Z2 x g2 I2 (s1.trans s2)
    | false => exact p _ H1 Z1 (.d (.bool false)) g1 I1 s1 (Dd.bl false) (q.2 rfl)
theorem ae_orV (h : AE K C ta g fun x g1 => ∃ b, x = .d (.bool b) ∧ BR b (Q (.d (.bool true)) g1) (AE K C tb g1 Q)) : AE K C (tOrV ta tb) g Q := fun σ H Z I P p =>
  h σ H Z I _ fun v H1 Z1 x g1 I1 s1 a1 q1 => by
    obtain ⟨b, rfl, q⟩ := q1
    cases a1
    refine ⟨b, rfl, ?_⟩
    cases b with
    | true => exact p _ H1 Z1 (.d (.bool true)) g1 I1 s1 (Dd.bl true) (q.1 rfl)
    | false => exact q.2 rfl σ H1 Z1 I1 P fun v H2 Z2 x g2 I2 s2 => p v H2 Z2 x g2 I2 (s1.trans s2)
theorem ae_notV (h : AE K C ta g fun x g1 => ∃ b, x = .d (.bool b) ∧ Q (.d (.bool (!b))) g1) : AE K C (tNotV ta) g Q := fun σ H Z I P p =>
  h σ H Z I _ fun v H1 Z1 x g1 I1 s1 a1 q1 => by
    obtain ⟨b, rfl, q⟩ := q1
    cases a1
    exact ⟨b, rfl, p _ H1 Z1 (.d (.bool (!b))) g1 I1 s1 (Dd.bl _) q⟩
theorem ae_isN (h : AE K C ta g fun x g1 => ∃ d, x = .d d ∧ Q (.d (.bool (match d with | .none => true | _ => false))) g1) : AE K C (tIsN ta) g Q := fun σ H Z I P p =>
  h σ H Z I _ fun v H1 Z1 x g1 I1 s1 a1 q1 => by
    obtain ⟨d, rfl, q⟩ := q1
    have a2 : Dd K Z1 v d := a1
    refine p _ H1 Z1 (.d _) g1 I1 s1 ?_ q
    cases a2 <;> exact Dd.bl _
theorem ae_notN (h : AE K C ta g fun x g1 => ∃ d, x = .d d ∧ Q (.d (.bool (match d with | .none => false | _ => true))) g1) : AE K C (tNotN ta) g Q := fun σ H Z I P p =>
  h σ H Z I _ fun v H1 Z1 x g1 I1 s1 a1 q1 => by
    obtain ⟨d, rfl, q⟩ := q1
    have a2 : Dd K Z1 v d := a1
    refine p _ H1 Z1 (.d _) g1 I1 s1 ?_ q
    cases a2 <;> exact Dd.bl _
/-- a < b < c -/
theorem ae_chain {tc : TE} {r r' : R2} (h : AE K C ta g fun x g1 => AE K C tb g1 fun y g2 => RA K C r x y g2 fun z g3 => ∃ b, z = .d (.bool b) ∧ BR b (AE K C tc g3 fun w g4 => RA K C r' y w g4 Q) (Q (.d (.bool false)) g3)) : AE K C (tChain r r' ta tb tc) g Q := fun σ H Z I P p =>
  h σ H Z I _ fun v H1 Z1 x g1 I1 s1 a1 q1 => q1 σ H1 Z1 I1 _ fun w H2 Z2 y g2 I2 s2 a2 q2 => q2 σ H2 Z2 v w I2 (a1.mono s2) a2 _ fun u H3 Z3 z g3 I3 s3 a3 q3 => by
    obtain ⟨b, rfl, q⟩ := q3
    cases a3
    refine ⟨b, rfl, ?_⟩
    cases b with
    | true => exact q.1 rfl σ H3 Z3 I3 _ fun w' H4 Z4 w4 g4 I4 s4 a4 q4 => q4 σ H4 Z4 w w' I4 ((a2.mono s3).mono s4) a4 P fun u H5 Z5 z g5 I5 s5 => p u H5 Z5 z g5 I5 ((((s1.trans s2).trans s3).trans s4).trans s5)
    | false => exact p _ H3 Z3 (.d (.bool false)) g3 I3 ((s1.trans s2).trans s3) (Dd.bl false) (q.2 rfl)

/-! ### tests -/
variable {QT : Bool → Gm → Prop}
theorem at_test (h : AE K C te g fun x g1 => ∃ b, x = .d (.bool b) ∧ QT b g1) : AT K C (tTest te) g QT := fun σ H Z I P p =>
  h σ H Z I _ fun v H1 Z1 x g1 I1 s1 a1 q1 => by
    obtain ⟨b, rfl, q⟩ := q1
    cases a1
    exact ⟨b, rfl, p _ H1 Z1 g1 I1 s1 q⟩
theorem at_B (h : AE K C te g fun x g1 => ∃ b, x = .d (.bool b) ∧ QT b g1) : AT K C (tB te) g QT := fun σ H Z I P p =>
  h σ H Z I _ fun v H1 Z1 x g1 I1 s1 a1 q1 => by
    obtain ⟨b, rfl, q⟩ := q1
    cases a1
    exact ⟨b, rfl, p _ H1 Z1 g1 I1 s1 q⟩
theorem at_not (h : AT K C tt g fun b g1 => QT (!b) g1) : AT K C (tNot tt) g QT := fun σ H Z I P p =>
  h σ H Z I _ fun b H1 Z1 g1 I1 s1 q1 => p _ H1 Z1 g1 I1 s1 q1
theorem at_and (h : AT K C tt g fun b g1 => BR b (AT K C tu g1 QT) (QT false g1)) : AT K C (tAnd tt tu) g QT := fun σ H Z I P p =>
  h σ H Z I _ fun b H1 Z1 g1 I1 s1 q1 => by
    cases b with
    | true => exact q1.1 rfl σ H1 Z1 I1 P fun v H2 Z2 g2 I2 s2 => p v H2 Z2 g2 I2 (s1.trans s2)
    | false => exact p _ H1 Z1 g1 I1 s1 (q1.2 rfl)
theorem at_or (h : AT K C tt g fun b g1 => BR b (QT true g1) (AT K C tu g1 QT)) : AT K C (tOr tt tu) g QT := fun σ H Z I P p =>
  h σ H Z I _ fun b H1 Z1 g1 I1 s1 q1 => by
    cases b with
    | true => exact p _ H1 Z1 g1 I1 s1 (q1.1 rfl)
    | false => exact q1.2 rfl σ H1 Z1 I1 P fun v H2 Z2 g2 I2 s2 => p v H2 Z2 g2 I2 (s1.trans s2)

/-! ### targets -/
variable {QG : Gm → Prop}
theorem ag_d {i : Nat} {d : PyData} (h : SetE g i (.im d) g') (q : QG g') : AG K C (gName i) (.d d) g QG := fun σ H Z v I a P p =>
  p g' _ H Z (I.setD a h) (Same.refl _) q
theorem ag_v {i : Nat} {v : V} (h : SetE g i (.vl v) g') (q : QG g') : AG K C (gName i) (.v v) g QG := fun σ H Z v I a P p => by
  cases a
  exact p g' _ H Z (I.setV h) (Same.refl _) q
/-- several targets, data given -/
def AGs (K : PySem.W.Frag) (C : Ct) (tg : TGs) (ds : List PyData) (g : Gm) (Q : Gm → Prop) : Prop := ∀ σ H Z vs, Ok K C g σ H Z → DdA K Z vs ds → ∀ Q' : St → Hp → Prop, (∀ g' σ' H' Z', Ok K C g' σ' H' Z' → Same Z Z' → Q g' → Q' σ' H') → tg vs σ H Q'
theorem ags_nil (q : QG g) : AGs K C gNil [] g QG := fun σ H Z vs I a P p => by
  cases a
  exact ⟨rfl, p g σ H Z I (Same.refl _) q⟩
theorem ags_cons {t : TG} {u : TGs} {d : PyData} {ds : List PyData} (h : AG K C t (.d d) g fun g1 => AGs K C u ds g1 QG) : AGs K C (gCons t u) (d :: ds) g QG := fun σ H Z vs I a P p => by
  cases a with
  | @cons v vs _ _ a1 a2 =>
    exact ⟨v, vs, rfl, h σ H Z v I a1 _ fun g1 σ1 H1 Z1 I1 s1 q1 => q1 σ1 H1 Z1 vs I1 (a2.mono s1) P fun g2 σ2 H2 Z2 I2 s2 => p g2 σ2 H2 Z2 I2 (s1.trans s2)⟩
theorem ag_tup {n : Nat} {t : TGs} {ds : List PyData} (hl : ds.length = n) (h : AGs K C t ds g QG) : AG K C (gTup K n t) (.d (.tuple ds)) g QG := fun σ H Z v I a P p => by
  have a' : Dd K Z v (.tuple ds) := a
  cases a' with
  | @tup q xs _ a1 a2 =>
    exact ⟨q, xs, rfl, Same.seqT I.fz a1, by rw [a2.length]; exact hl, h σ H Z xs I a2 P p⟩

/-! ### statements -/
variable {D : Ae} {ts tu' : TS} {tg : TG}
theorem Does.mono {Za Zb : Hp} {D' : Ends} (d : Does K C Za D D') (s : Same Za Zb) : Does K C Zb D D' :=
  ⟨fun g σ H Z I q => d.nx g σ H Z I (s.trans q), fun x v g σ H Z I q => d.rt x v g σ H Z I (s.trans q), fun g σ H Z I q => d.bk g σ H Z I (s.trans q), fun g σ H Z I q => d.ct g σ H Z I (s.trans q), fun ds p g σ H Z I q => d.rn ds p g σ H Z I (s.trans q)⟩
theorem Does.seq {Za : Hp} {D' : Ends} (d : Does K C Za D D') : Does K C Za { D with nx := fun g => AS K C tu' g D } { D' with nx := tu' D' } :=
  ⟨fun g σ H Z I s q => q σ H Z I D' (d.mono s), d.rt, d.bk, d.ct, d.rn⟩
theorem as_next (q : D.nx g) : AS K C tNext g D := fun σ H Z I D' d => d.nx g σ H Z I (Same.refl _) q
theorem as_seq (h : AS K C ts g { D with nx := fun g' => AS K C tu' g' D }) : AS K C (tSeq ts tu') g D := fun σ H Z I D' d => h σ H Z I _ d.seq
theorem as_drop (h : AE K C te g fun _ g' => D.nx g') : AS K C (tDrop te) g D := fun σ H Z I D' d => h σ H Z I _ fun v H1 Z1 x g1 I1 s1 a1 q1 => d.nx g1 σ H1 Z1 I1 s1 q1
theorem as_ret (h : AE K C te g D.rt) : AS K C (tRet te) g D := fun σ H Z I D' d => h σ H Z I _ fun v H1 Z1 x g1 I1 s1 a1 q1 => d.rt x v g1 σ H1 Z1 I1 s1 a1 q1
theorem as_retL (h : AN K C te g D.rn) : AS K C (tRet te) g D := fun σ H Z I D' d => h σ H Z I _ fun p H1 Z1 ds g1 I1 s1 n q1 => d.rn ds p g1 σ H1 Z1 I1 s1 n q1
theorem as_retN (h : D.rt (.d .none) g) : AS K C tRetN g D := fun σ H Z I D' d => d.rt (.d .none) .non g σ H Z I (Same.refl _) Dd.non h
theorem as_if (h : AT K C tt g fun b g1 => BR b (AS K C ts g1 D) (AS K C tu' g1 D)) : AS K C (tIfS tt ts tu') g D := fun σ H Z I D' d =>
  h σ H Z I _ fun b H1 Z1 g1 I1 s1 q1 => by
    cases b with
    | true => exact q1.1 rfl σ H1 Z1 I1 D' (d.mono s1)
    | false => exact q1.2 rfl σ H1 Z1 I1 D' (d.mono s1)
theorem as_brk (q : D.bk g) : AS K C tBreak g D := fun σ H Z I D' d => d.bk g σ H Z I (Same.refl _) q
theorem as_ct (q : D.ct g) : AS K C tCont g D := fun σ H Z I D' d => d.ct g σ H Z I (Same.refl _) q
theorem as_asg (h : AE K C te g fun x g1 => AG K C tg x g1 D.nx) : AS K C (tAsg te tg) g D := fun σ H Z I D' d =>
  h σ H Z I _ fun v H1 Z1 x g1 I1 s1 a1 q1 => q1 σ H1 Z1 v I1 a1 _ fun g2 σ2 H2 Z2 I2 s2 q2 => d.nx g2 σ2 H2 Z2 I2 (s1.trans s2) q2
/-- a slot takes a new list to change -/
theorem as_asgN {i : Nat} (h : AN K C te g fun ds g1 => ∃ g2, SetE g1 i (.ls none ds) g2 ∧ D.nx g2) : AS K C (tAsg te (gName i)) g D := fun σ H Z I D' d =>
  h σ H Z I _ fun p H1 Z1 ds g1 I1 s1 n q1 => by
    obtain ⟨g2, h2, q⟩ := q1
    exact d.nx g2 _ H1 Z1 (I1.setL n h2) s1 q
theorem as_par {i j : Nat} {tr : TA} (h : AA K C tr g fun xs g1 => ∃ d e g2 g3, xs = [.d d, .d e] ∧ SetE g1 i (.im d) g2 ∧ SetE g2 j (.im e) g3 ∧ D.nx g3) : AS K C (tPar i j tr) g D := fun σ H Z I D' d =>
  h σ H Z I _ fun vs H1 Z1 xs g1 I1 s1 a1 q1 => by
    obtain ⟨x, y, g2, g3, rfl, h2, h3, q⟩ := q1
    cases a1 with
    | @cons _ v _ _ a2 a3 =>
      cases a3 with
      | @cons _ w _ _ a4 a5 =>
        cases a5
        exact ⟨v, w, rfl, d.nx g3 _ H1 Z1 ((I1.setD a2 h2).setD a4 h3) s1 q⟩
theorem as_aug {i : Nat} {f : Int → Int → Int} {a : Int} (h0 : g[i]? = some (.im (.int a))) (h : AE K C te g fun x g1 => ∃ b g2, x = .d (.int b) ∧ SetE g1 i (.im (.int (f a b))) g2 ∧ D.nx g2) : AS K C (tAug i te (ipI f)) g D := fun σ H Z I D' d => by
  obtain ⟨v, e1, e2⟩ := I.ent i _ h0
  refine ⟨v, e1, h σ H Z I _ fun w H1 Z1 x g1 I1 s1 a1 q1 => ?_⟩
  obtain ⟨b, g2, rfl, h2, q⟩ := q1
  cases e2; cases a1
  exact ⟨a, b, rfl, rfl, d.nx g2 _ H1 Z1 (I1.setD (Dd.int _) h2) s1 q⟩
/-- while: m falls -/
theorem as_while (J : Nat → Gm → Prop) (h0 : ∃ m, J m g) (h : ∀ m g', J m g' → AT K C tt g' fun b g2 => BR b (AS K C ts g2 { D with nx := fun g3 => ∃ m', m' < m ∧ J m' g3, ct := fun g3 => ∃ m', m' < m ∧ J m' g3, bk := D.nx }) (D.nx g2)) : AS K C (tWhile tt ts) g D := fun σ H Z I D' d => by
  obtain ⟨m0, h0⟩ := h0
  refine ⟨fun m σ H => ∃ g' Z', Ok K C g' σ H Z' ∧ Same Z Z' ∧ J m g', ⟨m0, g, Z, I, Same.refl _, h0⟩, ?_⟩
  rintro m σ1 H1 ⟨g1, Z1, I1, s1, j1⟩
  refine h m g1 j1 σ1 H1 Z1 I1 _ fun b H2 Z2 g2 I2 s2 q2 => ?_
  have s02 := s1.trans s2
  cases b with
  | true =>
    show ∃ N : St → Hp → Prop, _
    refine ⟨fun σ3 H3 => ∃ m', m' < m ∧ ∃ g' Z', Ok K C g' σ3 H3 Z' ∧ Same Z Z' ∧ J m' g', fun _ _ z => z, ?_⟩
    have d2 := d.mono s02
    exact q2.1 rfl σ1 H2 Z2 I2 _ ⟨fun g3 σ3 H3 Z3 I3 s3 ⟨m', l, j⟩ => ⟨m', l, g3, Z3, I3, s02.trans s3, j⟩, d2.rt, d2.nx, fun g3 σ3 H3 Z3 I3 s3 ⟨m', l, j⟩ => ⟨m', l, g3, Z3, I3, s02.trans s3, j⟩, d2.rn⟩
  | false => exact d.nx g2 σ1 H2 Z2 I2 s02 (q2.2 rfl)
/-- what is walked: its items -/
structure Wk (K : PySem.W.Frag) (Z1 : Hp) (J : It) (ds : List PyData) : Prop where
  ex : ∃ (G : Hp → Prop) (Y : Nat → Hp → V → Hp → Prop), Walk J ds.length G Y ∧ (∀ (C : Ct) g σ H Z, Ok K C g σ H Z → Same Z1 Z → G H) ∧
    (∀ (C : Ct) i H x H' g σ Z d, Ok K C g σ H Z → Same Z1 Z → ds[i]? = some d → Y i H x H' → ∃ Z', Ok K C g σ H' Z' ∧ Same Z Z' ∧ Dd K Z' x d)
def AI (K : PySem.W.Frag) (C : Ct) (wi : TI) (g : Gm) (Q : List PyData → Gm → Prop) : Prop := ∀ σ H Z, Ok K C g σ H Z → ∀ R : It → Hp → Prop, (∀ J H' Z' ds g', Ok K C g' σ H' Z' → Same Z Z' → Wk K Z' J ds → Q ds g' → R J H') → wi σ H R
theorem as_for {wi : TI} (h : AI K C wi g fun ds g1 => ∃ J : Nat → Gm → Prop, J 0 g1 ∧ (∀ i d g', ds[i]? = some d → J i g' → AG K C tg (.d d) g' fun g2 => AS K C ts g2 { D with nx := J (i + 1), ct := J (i + 1), bk := D.nx }) ∧ ∀ g', J ds.length g' → D.nx g') : AS K C (tFor wi tg ts) g D := fun σ H Z I D' d =>
  h σ H Z I _ fun J H1 Z1 ds g1 I1 s1 w q => by
    obtain ⟨W, j0, js, jn⟩ := q
    obtain ⟨G, Y, wk, wg, wy⟩ := w.ex
    refine for_it wk (fun i σ H => ∃ g Z, Ok K C g σ H Z ∧ Same Z1 Z ∧ W i g) ⟨g1, Z1, I1, Same.refl _, j0⟩ (fun i σ H _ ⟨g, Z, I, s, _⟩ => wg C g σ H Z I s) ?_ fun σ H ⟨g, Z, I, s, q⟩ => d.nx g σ H Z I (s1.trans s) (jn g q)
    rintro i x σ2 H2 H3 hi ⟨g2, Z2, I2, s2, q2⟩ y
    have e : ds[i]? = some ds[i] := List.getElem?_eq_getElem hi
    obtain ⟨Z3, I3, s3, a3⟩ := wy C i H2 x H3 g2 σ2 Z2 _ I2 s2 e y
    refine js i _ g2 e q2 σ2 H3 Z3 x I3 a3 _ fun g4 σ4 H4 Z4 I4 s4 q4 => ?_
    have s14 : Same Z1 Z4 := (s2.trans s3).trans s4
    have d4 := d.mono (s1.trans s14)
    exact q4 σ4 H4 Z4 I4 _ ⟨fun g5 σ5 H5 Z5 I5 s5 q5 => ⟨g5, Z5, I5, s14.trans s5, q5⟩, d4.rt, d4.nx, fun g5 σ5 H5 Z5 I5 s5 q5 => ⟨g5, Z5, I5, s14.trans s5, q5⟩, d4.rn⟩

/-! ### what is walked -/
theorem ai_list {tl : TE} {QI : List PyData → Gm → Prop} (h : AE K C tl g fun x g1 => ∃ xs g2, Frz [x] g1 [.list xs] g2 ∧ QI xs g2) : AI K C (iList K tl) g QI := fun σ H Z I R p =>
  h σ H Z I _ fun v H1 Z1 x g1 I1 s1 a1 q1 => by
    obtain ⟨ds, g2, f, q⟩ := q1
    obtain ⟨Z2, I2, s2, r2⟩ := f.run I1 (.cons a1 .nil)
    cases r2 with
    | cons r3 _ =>
      cases r3 with
      | @lst a xs _ e1 e2 =>
        refine ⟨a, rfl, ⟨xs, SqL.of (I2.fz _ _ e1)⟩, p _ H1 Z2 ds g2 I2 (s1.trans s2) ⟨fun H => SqL K H a xs, YAt xs, ?_, fun _ g σ H Z I s => SqL.of (I.fz _ _ (s _ _ e1)), fun _ i H x H' g σ Z d I s e y => ?_⟩ q⟩
        · rw [← e2.length]; exact walk_list
        · obtain ⟨rfl, y2⟩ := y
          obtain ⟨d', k1, k2⟩ := (e2.mono s).getV y2
          rw [e] at k1; cases k1
          exact ⟨Z, I, Same.refl _, k2⟩
theorem ai_tup {tl : TE} {QI : List PyData → Gm → Prop} (h : AE K C tl g fun x g1 => ∃ xs, x = .d (.tuple xs) ∧ QI xs g1) : AI K C (iTup K tl) g QI := fun σ H Z I R p =>
  h σ H Z I _ fun v H1 Z1 x g1 I1 s1 a1 q1 => by
    obtain ⟨ds, rfl, q⟩ := q1
    have a2 : Dd K Z1 v (.tuple ds) := a1
    cases a2 with
    | @tup a xs _ e1 e2 =>
      refine ⟨a, rfl, ⟨xs, Same.seqT I1.fz e1⟩, p _ H1 Z1 ds g1 I1 s1 ⟨fun H => SqT K H a xs, YAt xs, ?_, fun _ g σ H Z I s => Same.seqT I.fz (Same.seqT s e1), fun _ i H x H' g σ Z d I s e y => ?_⟩ q⟩
      · rw [← e2.length]; exact walk_tup
      · obtain ⟨rfl, y2⟩ := y
        obtain ⟨d', k1, k2⟩ := (e2.mono s).getV y2
        rw [e] at k1; cases k1
        exact ⟨Z, I, Same.refl _, k2⟩
def rangeD (lo : Int) (n : Nat) : List PyData := (List.range n).map fun i => .int (lo + (i : Nat))
theorem rangeD_len (lo : Int) (n : Nat) : (rangeD lo n).length = n := by simp [rangeD]
theorem rangeD_get {lo : Int} {n i : Nat} {d : PyData} (h : (rangeD lo n)[i]? = some d) : i < n ∧ d = .int (lo + (i : Nat)) := by
  simp only [rangeD, List.getElem?_map, Option.map_eq_some_iff] at h
  obtain ⟨j, h1, h2⟩ := h
  have h3 := List.getElem?_eq_some_iff.mp h1
  obtain ⟨h4, h5⟩ := h3
  simp at h4 h5
  subst h5
  exact ⟨h4, h2.symm⟩
theorem wk_range {Z1 : Hp} {lo : Int} {n : Nat} : Wk K Z1 (Itr lo n) (rangeD lo n) := by
  refine ⟨fun _ => True, YFn fun i => .int (lo + i), ?_, fun _ _ _ _ _ _ _ => trivial, fun _ i H x H' g σ Z d I s e y => ?_⟩
  · rw [rangeD_len]; exact walk_range
  · obtain ⟨rfl, rfl⟩ := y
    obtain ⟨_, rfl⟩ := rangeD_get e
    exact ⟨Z, I, Same.refl _, .int _⟩
theorem ai_range1 {tr : TA} {QI : List PyData → Gm → Prop} (h : AA K C tr g fun xs g1 => ∃ j, xs = [.d (.int j)] ∧ -(2 ^ 62) ≤ j ∧ j < 2 ^ 62 ∧ QI (rangeD 0 j.toNat) g1) : AI K C (iRng1 tr) g QI := fun σ H Z I R p =>
  h σ H Z I _ fun vs H1 Z1 xs g1 I1 s1 a1 q1 => by
    obtain ⟨j, rfl, h1, h2, q⟩ := q1
    cases a1 with
    | cons a2 a3 =>
      cases a3; cases a2
      exact ⟨j, rfl, h1, h2, p _ H1 Z1 _ g1 I1 s1 wk_range q⟩
theorem ai_range2 {tr : TA} {QI : List PyData → Gm → Prop} (h : AA K C tr g fun xs g1 => ∃ i j, xs = [.d (.int i), .d (.int j)] ∧ (-(2 ^ 62) ≤ i ∧ i < 2 ^ 62 ∧ -(2 ^ 62) ≤ j ∧ j < 2 ^ 62) ∧ QI (rangeD i (j - i).toNat) g1) : AI K C (iRng2 tr) g QI := fun σ H Z I R p =>
  h σ H Z I _ fun vs H1 Z1 xs g1 I1 s1 a1 q1 => by
    obtain ⟨i, j, rfl, h1, q⟩ := q1
    cases a1 with
    | cons a2 a3 =>
      cases a3 with
      | cons a4 a5 =>
        cases a5; cases a4; cases a2
        exact ⟨i, j, rfl, h1, p _ H1 Z1 _ g1 I1 s1 wk_range q⟩
/-- pairs of a place and an item -/
def enumD (ds : List PyData) : List PyData := ds.zipIdx.map fun p => .tuple [.int (p.2 : Nat), p.1]
theorem enumD_len (ds : List PyData) : (enumD ds).length = ds.length := by simp [enumD]
theorem enumD_get {ds : List PyData} {i : Nat} {d : PyData} (h : (enumD ds)[i]? = some d) : ∃ e, ds[i]? = some e ∧ d = .tuple [.int (i : Nat), e] := by
  simp only [enumD, List.getElem?_map, Option.map_eq_some_iff, List.getElem?_zipIdx] at h
  obtain ⟨j, ⟨e, h1, h2⟩, h3⟩ := h
  subst h2
  refine ⟨e, h1, ?_⟩
  rw [← h3]; simp
end
end AL
/-! enumerate of a tuple. -/
namespace AL
open PySem PySem.Spec L2
open Sem (wp)
theorem meets_enumerate_new1 {v : Value} {o : Obj} {H : Heap → Prop} (B : Begins v o H) :
    Meets (Builtin.«enumerate.__new__» ⟨[.type "enumerate", v], []⟩) (fun _ R s => H s.heap ∧
      R (.ok (.ret (.ref (s.heap.push o).objs.size))) { s with heap := (s.heap.push o).push { cls := .type "enumerate", data := .fields #[.none, .bool false, .ref s.heap.objs.size, rawInt 0, .none, .none] } }) :=
  .of_wp fun prog w A R s h => by
    obtain ⟨hp, g, d, tk, os⟩ := s; obtain ⟨h1, h⟩ := h
    have hsub := sub_enumerate
    have q1 : ∀ {A' : Around} {E : Value → Shared → Prop} {Q : Value → Shared → Prop}, Q (.ref hp.objs.size) ⟨hp.push o, g, d, tk, os⟩ → wpAny (model prog w) A' (pyIter v) Q E ⟨hp, g, d, tk, os⟩ :=
      fun q => B.iter prog w _ _ ⟨hp, g, d, tk, os⟩ _ h1 q
    wp_walk using q1
    refine wpAny_stack_any fun st => wpAny_pure ?_
    split
    · rename_i c _ _ _ _ _
      cases (c == Value.type "enumerate")
      · wp_walk using q1
        exact ⟨_, rfl, h⟩
      · wp_walk using q1
        exact ⟨_, rfl, h⟩
    · wp_walk using q1
      exact ⟨_, rfl, h⟩
theorem call_enumerate_1 {prog : Program} {w : World} {A : Around} {E : Value → Shared → Prop} {s : Shared} {v : Value} {o : Obj} {H : Heap → Prop} {Q : Value → Shared → Prop} (B : Begins v o H) (h1 : H s.heap)
    (h : ∀ h', IsEnum h' (s.heap.objs.size + 1) s.heap.objs.size 0 .none → h'.get? s.heap.objs.size = some o → h'.objs.size = s.heap.objs.size + 2 →
      (∀ b o, s.heap.get? b = some o → h'.get? b = some o) → Q (.ref (s.heap.objs.size + 1)) { s with heap := h' }) :
    wpAny (model prog w) A (call (.type "enumerate") [v]) Q E s := by
  refine callType_new F.called_enumerate (by decide) (F.typeCall_enumerate_1 _) (F.newCall_enumerate_1 _) (fun obj => F.args_object_init_2 obj _) F.entry_enumerate_new
    (meets_enumerate_new1 B) ⟨h1, ?_⟩
  have hz : (s.heap.push o).objs.size = s.heap.objs.size + 1 := Heap.size_push ..
  show _ ∧ _
  rw [hz]
  have he : IsEnum ((s.heap.push o).push { cls := .type "enumerate", data := .fields #[.none, .bool false, .ref s.heap.objs.size, rawInt 0, .none, .none] }) (s.heap.objs.size + 1) s.heap.objs.size 0 .none := by
    have := Heap.get?_push_size (s.heap.push o) (o := { cls := .type "enumerate", data := .fields #[.none, .bool false, .ref s.heap.objs.size, rawInt 0, .none, .none] }) rfl
    rw [hz] at this; exact this
  refine ⟨⟨_, he, rfl⟩, h _ he (Heap.get?_push_of_some _ (Heap.get?_push_size _ B.free)) (by rw [Heap.size_push, hz]) fun b o x => Heap.get?_push_of_some _ (Heap.get?_push_of_some _ x)⟩

/-- the tuple at a, its items in new pairs with their places -/
def IteT (K : PySem.W.Frag) (a : Addr) : It :=
  ⟨fun i H => ∃ (xs : List V) (x : V), SqT K H a xs ∧ xs[i]? = some x, fun i H v H' => ∃ T x, v = .ref T ∧ H T = none ∧ H' = upd H T (.tup [.int (i : Nat), x]) ∧ ∀ xs, SqT K H a xs → xs[i]? = some x, fun i H => ∃ xs : List V, SqT K H a xs ∧ xs.length ≤ i⟩
theorem turn_enumT {P : Program} {w : World} {K : PySem.W.Frag} {elts : List Expr} {kk : Nat} {tpos : Pos} (a e it : Addr) :
    Turn P w K (.Tuple elts kk tpos) (IteT K a) [e, it] e (fun i h => (∃ old, IsEnum h e it ((i : Nat) : Int) old) ∧ h.IsTupleIter it a i ∧ e ≠ it) where
  mem := by simp
  obj := fun i h st b hb => by
    obtain ⟨⟨old, he⟩, ⟨o, ho, hc, hd⟩, _⟩ := st
    have e' : b = e ∨ b = it := by simpa using hb
    rcases e' with z | z
    · rw [z]; exact ⟨_, he, fun v q => nomatch q⟩
    · rw [z]; exact ⟨o, ho, fun v q => by rw [hd] at q; cases q⟩
  keep := fun i h h' st k => let ⟨⟨old, he⟩, hi, hne⟩ := st; ⟨⟨old, k e (by simp) _ he⟩, hi.at fun o q => k it (by simp) o q, hne⟩
  item := by
    intro X hP hw hK hc i pins s σ H E I hf st hg
    subst hP hw hK
    obtain ⟨⟨old, he⟩, hit, hne⟩ := st
    obtain ⟨xs, x, hq, hx⟩ := hg
    obtain ⟨its, rv, p, hz⟩ := I.tuple hq
    obtain ⟨u, hu, ru⟩ := rv.get hx
    have hel : e < s.heap.objs.size := Heap.lt_size he
    have hil : it < s.heap.objs.size := by obtain ⟨_, q, _⟩ := hit; exact Heap.lt_size q
    have hilt : i < its.toArray.size := by
      have := (List.getElem?_eq_some_iff.mp hu).1
      simpa using this
    have ne1 : a ≠ it := fun z => by
      obtain ⟨o, q1, q2, _⟩ := hit
      obtain ⟨o', q3, q4, _⟩ := (show s.heap.IsTuple a its.toArray from p)
      rw [z, q1] at q3; cases q3; rw [q2] at q4; injection q4 with z2; exact absurd z2 (by decide)
    have ne2 : e ≠ a := fun z => by
      obtain ⟨o', q3, q4, _⟩ := (show s.heap.IsTuple a its.toArray from p)
      have he' : s.heap.get? e = some _ := he
      rw [z, q3] at he'; injection he' with z1; rw [z1] at q4; injection q4 with z2; exact absurd z2 (by decide)
    have D := Draws.tuple (prog := X.prog) (w := X.w) (A := X.A.in1) (I.ok.hd hc) it a ne1 its.toArray
    refine wpAny_pyNext_enum_itemD D he ⟨hit, p⟩ hilt hne (by simp [hne, ne2]) fun y h' tk hy ho st' hT hsz hk => ?_
    have ey : u = y := by
      have h1 : its[i]? = some y := by simpa using hy
      rw [hu] at h1; exact Option.some.inj h1
    subst ey
    refine ⟨_, rfl, wpAny_letOwnedTupleGo_enum (s := { s with heap := h', toks := tk + 1 }) ho fun h'' he' sb => ?_⟩
    have hT2 : h''.get? s.heap.objs.size = some { cls := .type "tuple", data := .seq #[.int i tk, u] } := (sb.2 _ (Nat.ne_of_gt hel)).trans hT
    have new : ObjOk X.prog X.w (upd H s.heap.objs.size (.tup [.int (i : Nat), x])) h'' s.heap.objs.size (.tup [.int (i : Nat), x]) :=
      ⟨by show 2 ≤ sizeLine; decide, [.int i tk, u], .cons ⟨_, rfl⟩ (.cons ru .nil), ⟨_, hT2, rfl, _, rfl⟩⟩
    have I1 : Inv X pins σ (upd H s.heap.objs.size (.tup [.int (i : Nat), x])) { s with heap := h'', toks := tk + 1 } :=
      I.turnedNew (ch := [e, it]) (fun b ob hb q => (sb.2 b (fun z => hb (by simp [z]))).trans (hk b ob (fun z => hb (by simp [z])) (fun z => hb (by simp [z])) q)) hf (Nat.le_refl _) new
    refine ⟨.ref s.heap.objs.size, _, I1, rfl, ⟨_, x, rfl, I.hok.fresh (Nat.le_refl _), rfl, fun ys hy => by rw [I.tuple_inj hy hq]; exact hx⟩, ⟨⟨u, ?_⟩, st'.1.at fun o q => (sb.2 it (Ne.symm hne)).trans q, hne⟩, fun b hb => ?_⟩
    · have e1 : ((i + 1 : Nat) : Int) = (i : Int) + 1 := by omega
      rw [e1]; exact he'
    · have hb' : b < s.heap.objs.size := by
        have e' : b = e ∨ b = it := by simpa using hb
        rcases e' with z | z
        · rw [z]; exact hel
        · rw [z]; exact hil
      rw [upd_ne (Nat.ne_of_lt hb')]
      exact (hf b hb).1
  done := by
    intro X hP hw hK hc i pins s σ H E I hf st hg
    subst hP hw hK
    obtain ⟨⟨old, he⟩, hit, hne⟩ := st
    obtain ⟨xs, hq, hx⟩ := hg
    obtain ⟨its, rv, p, hz⟩ := I.tuple hq
    obtain ⟨f0, f1, f2, f3, f4, f5⟩ := hf it (by simp)
    have hl := rv.length
    have hT : s.TypeIs (.ref e) "enumerate" := ⟨_, he, rfl⟩
    unfold pyNext
    refine wpAny_bind (wpAny_attempt (wpAny_callSpecial?_slot (name := Str.ofString "__next__") hT F.slot_enumerate_next
      (wpAny_call_entry F.slot_enumerate_next hT F.entry_enumerate_next ?_ (F.args_enumerate_next_1 _))))
    show wpAny _ _ (field (.ref e) 2 >>= _) _ _ _
    refine wpAny_bind (wpAny_field he rfl (x := .ref it) rfl ?_)
    refine wpAny_bind (wpAny_nextOf_tuple_end (A := X.A.in1) (I.ok.hd hc) hit p (by simp; omega) fun h' x he' hx' => ?_)
    obtain ⟨o, ho, hc'⟩ := hx'
    refine wpAny_bind (wpAny_isInstance (T := "StopIteration") (b := true) ⟨o, ho, hc'⟩ isSubtype_stop ?_)
    exact wpAny_pure ⟨rfl, I.turned (t' := s.toks) (fun b o hb q => he' b o hb q) f0 f1 f3 f4 f5⟩
  self := fun A i s Q E st h => let ⟨⟨_, he⟩, _⟩ := st; wpAny_pyIter_enum he h
/-- enumerate of a list or of a tuple -/
def iEnumA (K : PySem.W.Frag) (ta : TA) : TI := fun σ H R => ta σ H fun vs H1 => ∃ a xs, vs = [.ref a] ∧ ((SqL K H1 a xs ∧ R (Ite K a) H1) ∨ (SqT K H1 a xs ∧ R (IteT K a) H1))
theorem pi_enumA {X : Cx} {e : Expr} {ta : TA} {p pos tpos : Pos} {elts : List Expr} {kk : Nat} (hg : Gl X "enumerate") (hm : X.mg "enumerate" = none) (ha : PA X [e] ta) (hs : starEach [e] X.env = [(false, eval e X.env)] := by rfl) :
    PI X (.Tuple elts kk tpos) (.Call (.Name "enumerate" p) [e] [] pos) (iEnumA X.K ta) := by
  refine ⟨fun pins s σ H R I h => ?_⟩
  refine PyProof.Rows.Call_ (ld_blt I hg hm PyProof.Rows.boot_enumerate (PyProof.Rows.callWith_type1 (thn (ha.run pos pins s σ H _ I h) fun us s1 ⟨vs, H1, I1, r1, q1⟩ => ?_) hs rfl))
  obtain ⟨a, xs, ex, q⟩ := q1
  subst ex
  cases r1 with
  | cons r rr =>
    cases rr
    cases r
    have fp : ∀ b ∈ [s1.heap.objs.size + 1, s1.heap.objs.size], FpOk X pins H1 b := fun b hb => by
      have e' : b = s1.heap.objs.size + 1 ∨ b = s1.heap.objs.size := by simpa using hb
      have hle : s1.heap.objs.size ≤ b := by
        rcases e' with z | z
        · rw [z]; exact Nat.le_add_right _ _
        · rw [z]; exact Nat.le_refl _
      exact I1.fpOk hle (I1.hok.fresh hle)
    rcases q with ⟨hq, q⟩ | ⟨hq, q⟩
    · obtain ⟨its, rv, p', hz⟩ := I1.list hq
      refine call_enumerate_list p'.isList fun h' he hit hsz hk => wpAny_pyIter_enum he ?_
      have I2 : Inv X pins σ H1 { s1 with heap := h' } := I1.kept (t' := s1.toks) hk
      exact ⟨s1.heap.objs.size + 1, [s1.heap.objs.size + 1, s1.heap.objs.size], _, _, H1, rfl, I2, turn_enum a (s1.heap.objs.size + 1) s1.heap.objs.size, ⟨⟨.none, he⟩, hit, Nat.succ_ne_self _⟩, fp, q⟩
    · obtain ⟨its, rv, p', hz⟩ := I1.tuple hq
      refine call_enumerate_1 (begins_tuple a its.toArray) p' fun h' he hit hsz hk => wpAny_pyIter_enum he ?_
      have I2 : Inv X pins σ H1 { s1 with heap := h' } := I1.kept (t' := s1.toks) hk
      exact ⟨s1.heap.objs.size + 1, [s1.heap.objs.size + 1, s1.heap.objs.size], _, _, H1, rfl, I2, turn_enumT a (s1.heap.objs.size + 1) s1.heap.objs.size, ⟨⟨.none, he⟩, ⟨_, hit, rfl, rfl⟩, Nat.succ_ne_self _⟩, fp, q⟩
end AL
/-! The layer's rules over the text: contexts, names, expressions, calls. -/
namespace AL
open PySem PySem.Spec L2

/-! ### readings of the text itself -/
def tE (X : Cx) (e : Expr) : TE := fun σ H Q => ∀ pins s, Inv X pins σ H s → wpAny (model X.prog X.w) X.A (eval e X.env) (EP X pins σ Q) X.xe s
def tT (X : Cx) (e : Expr) : TT := fun σ H Q => ∀ pins s, Inv X pins σ H s → wpAny (model X.prog X.w) X.A (isTrue e X.env (eval e X.env)) (TP X pins σ Q) X.xe s
def tW (X : Cx) (e : Expr) : TT := fun σ H Q => ∀ wh pins s, Inv X pins σ H s → wpAny (model X.prog X.w) X.A (isTrue e X.env wh) (TP X pins σ Q) X.xe s
def tA (X : Cx) (es : List Expr) : TA := fun σ H Q => ∀ pos pins s, Inv X pins σ H s → wpAny (model X.prog X.w) X.A (spliced (backTo pos (starEach es X.env))) (AP X pins σ Q) X.xe s
def tS (X : Cx) (st : Stmt) : TS := fun D σ H => ∀ pins s, Inv X pins σ H s → wpAny (model X.prog X.w) X.A (exec st X.env) (SP X pins D) X.xe s
def tSs (X : Cx) (sts : List Stmt) : TS := fun D σ H => ∀ pins s, Inv X pins σ H s → wpAny (model X.prog X.w) X.A (execs sts X.env) (SP X pins D) X.xe s
def tG (X : Cx) (tg : Expr) : TG := fun v σ H Q => ∀ pins s u, Inv X pins σ H s → RelV v u → wpAny (model X.prog X.w) X.A (assign tg X.env u) (fun _ s' => ∃ σ' H', Inv X pins σ' H' s' ∧ Q σ' H') X.xe s
def tGs (X : Cx) (tgs : List Expr) : TGs := fun vs σ H Q => ∀ pins s us, Inv X pins σ H s → Vals vs us → wpAny (model X.prog X.w) X.A (assignInOrder ((assignEach tgs X.env).map (·.2)) us) (fun _ s' => ∃ σ' H', Inv X pins σ' H' s' ∧ Q σ' H') X.xe s
def tI (X : Cx) (tg iter : Expr) : TI := fun σ H R => ∀ pins s, Inv X pins σ H s → wpAny (model X.prog X.w) X.A (eval iter X.env) (fun v s1 => wpAny (model X.prog X.w) X.A (pyIter v) (PIE X pins σ tg R) X.xe s1) X.xe s
def tTs (X : Cx) (ifs : List Expr) : TT := fun σ H Q => ∀ pins s, Inv X pins σ H s → wpAny (model X.prog X.w) X.A (forIn ifs true fun c r => if r = true then do let ok ← isTrue c X.env (eval c X.env); pure (ForInStep.yield ok) else pure (ForInStep.yield r)) (TP X pins σ Q) X.xe s
section
variable {X : Cx} {e : Expr} {es : List Expr} {st : Stmt} {sts : List Stmt}
theorem pe_t : PE X e (tE X e) := ⟨fun pins s σ H Q I h => h pins s I⟩
theorem pt_t : PT X e (tT X e) := ⟨fun pins s σ H Q I h => h pins s I⟩
theorem pw_t : PW X e (tW X e) := ⟨fun wh pins s σ H Q I h => h wh pins s I⟩
theorem pa_t : PA X es (tA X es) := ⟨fun pos pins s σ H Q I h => h pos pins s I⟩
theorem ps_t : PS X st (tS X st) := ⟨fun pins s σ H D I h => h pins s I⟩
theorem pss_t : PSs X sts (tSs X sts) := ⟨fun pins s σ H D I h => h pins s I⟩
theorem pg_t {tg : Expr} : PG X tg (tG X tg) := ⟨fun pins s σ H v u Q I r h => h pins s u I r⟩
theorem pgs_t {tgs : List Expr} : PGs X tgs (tGs X tgs) := ⟨fun pins s σ H vs us Q I r h => h pins s us I r⟩
theorem pi_t {tg iter : Expr} : PI X tg iter (tI X tg iter) := ⟨fun pins s σ H R I h => h pins s I⟩
theorem pts_t {ifs : List Expr} : PTs X ifs (tTs X ifs) := ⟨fun pins s σ H Q I h => h pins s I⟩
end
def EE (X : Cx) (C : Ct) (e : Expr) (g : Gm) (Q : Av → Gm → Prop) : Prop := AE X.K C (tE X e) g Q
def EN (X : Cx) (C : Ct) (e : Expr) (g : Gm) (Q : List PyData → Gm → Prop) : Prop := AN X.K C (tE X e) g Q
def ET (X : Cx) (C : Ct) (e : Expr) (g : Gm) (Q : Bool → Gm → Prop) : Prop := AT X.K C (tT X e) g Q
def EW (X : Cx) (C : Ct) (e : Expr) (g : Gm) (Q : Bool → Gm → Prop) : Prop := AT X.K C (tW X e) g Q
def ETs (X : Cx) (C : Ct) (es : List Expr) (g : Gm) (Q : Bool → Gm → Prop) : Prop := AT X.K C (tTs X es) g Q
def EA (X : Cx) (C : Ct) (es : List Expr) (g : Gm) (Q : List Av → Gm → Prop) : Prop := AA X.K C (tA X es) g Q
def ES (X : Cx) (C : Ct) (st : Stmt) (g : Gm) (D : Ae) : Prop := AS X.K C (tS X st) g D
def ESs (X : Cx) (C : Ct) (sts : List Stmt) (g : Gm) (D : Ae) : Prop := AS X.K C (tSs X sts) g D
def EG (X : Cx) (C : Ct) (tg : Expr) (x : Av) (g : Gm) (Q : Gm → Prop) : Prop := AG X.K C (tG X tg) x g Q
def EGs (X : Cx) (C : Ct) (tgs : List Expr) (ds : List PyData) (g : Gm) (Q : Gm → Prop) : Prop := AGs X.K C (tGs X tgs) ds g Q
def EI (X : Cx) (C : Ct) (tg iter : Expr) (g : Gm) (Q : List PyData → Gm → Prop) : Prop := AI X.K C (tI X tg iter) g Q
section
variable {X : Cx} {C : Ct} {g : Gm} {e : Expr} {Q : Av → Gm → Prop}
theorem EE.of {t : TE} (h : PE X e t) (a : AE X.K C t g Q) : EE X C e g Q := fun σ H Z I P p pins s J => h.run pins s σ H P J (a σ H Z I P p)
theorem EN.of {t : TE} {QL : List PyData → Gm → Prop} (h : PE X e t) (a : AN X.K C t g QL) : EN X C e g QL := fun σ H Z I P p pins s J => h.run pins s σ H P J (a σ H Z I P p)
theorem ET.of {t : TT} {QT : Bool → Gm → Prop} (h : PT X e t) (a : AT X.K C t g QT) : ET X C e g QT := fun σ H Z I P p pins s J => h.run pins s σ H P J (a σ H Z I P p)
theorem EW.of {t : TT} {QT : Bool → Gm → Prop} (h : PW X e t) (a : AT X.K C t g QT) : EW X C e g QT := fun σ H Z I P p wh pins s J => h.run wh pins s σ H P J (a σ H Z I P p)
theorem ETs.of {es : List Expr} {t : TT} {QT : Bool → Gm → Prop} (h : PTs X es t) (a : AT X.K C t g QT) : ETs X C es g QT := fun σ H Z I P p pins s J => h.run pins s σ H P J (a σ H Z I P p)
theorem EA.of {es : List Expr} {t : TA} {QA : List Av → Gm → Prop} (h : PA X es t) (a : AA X.K C t g QA) : EA X C es g QA := fun σ H Z I P p pos pins s J => h.run pos pins s σ H P J (a σ H Z I P p)
theorem ES.of {st : Stmt} {t : TS} {D : Ae} (h : PS X st t) (a : AS X.K C t g D) : ES X C st g D := fun σ H Z I D' d pins s J => h.run pins s σ H D' J (a σ H Z I D' d)
theorem ESs.of {sts : List Stmt} {t : TS} {D : Ae} (h : PSs X sts t) (a : AS X.K C t g D) : ESs X C sts g D := fun σ H Z I D' d pins s J => h.run pins s σ H D' J (a σ H Z I D' d)
theorem EG.of {tg : Expr} {t : TG} {x : Av} {QG : Gm → Prop} (h : PG X tg t) (a : AG X.K C t x g QG) : EG X C tg x g QG := fun σ H Z v I r P p pins s u J q => h.run pins s σ H v u P J q (a σ H Z v I r P p)
theorem EGs.of {tgs : List Expr} {t : TGs} {ds : List PyData} {QG : Gm → Prop} (h : PGs X tgs t) (a : AGs X.K C t ds g QG) : EGs X C tgs ds g QG := fun σ H Z vs I r P p pins s us J q => h.run pins s σ H vs us P J q (a σ H Z vs I r P p)
theorem EI.of {tg iter : Expr} {t : TI} {QI : List PyData → Gm → Prop} (h : PI X tg iter t) (a : AI X.K C t g QI) : EI X C tg iter g QI := fun σ H Z I R p pins s J => h.run pins s σ H R J (a σ H Z I R p)
end

/-! ### contexts and names -/
structure CxF (X : Cx) (N : List Str) (sc : Scope) (k : Nat) : Prop where
  hN : X.N = N
  hsc : X.env.scope = sc
  calm : X.calm = true
  nd : N.Nodup
  room : Room k X.A
  fn : ∀ x, X.fn x = true
structure Nm (X : Cx) (i : Nat) (x : Str) : Prop where
  hN : X.N[i]? = some x
  vis : Vis X.env.scope x
  d1 : (x == ("__debug__" : Str)) = false
  d2 : (x == ("__classdict__" : Str)) = false
structure Lc (X : Cx) (i : Nat) (x : Str) : Prop where
  hN : X.N[i]? = some x
  nd : X.N.Nodup
  loc : Loc X.env.scope x
  fn : X.fn x = true ∨ X.env.scope.names.lookup x = some .local
structure Gn (X : Cx) (x : Str) : Prop where
  gl : Gl X x
  d1 : (x == ("__debug__" : Str)) = false
/-- a built-in's name -/
structure Bn (X : Cx) (x : Str) : Prop where
  gl : Gl X x
  mg : X.mg x = none
  d1 : (x == ("__debug__" : Str)) = false
  n1 : x ≠ "__name__"
def okName (x : Str) : Bool := !(x == ("__debug__" : Str)) && (!(x == ("__classdict__" : Str)) && !decide (x = "__name__"))
def visB (sc : Scope) (x : Str) : Bool := match sc.names.lookup x with
  | some .local => true
  | some .cell => true
  | some .free => true
  | _ => false
def locB (sc : Scope) (x : Str) : Bool := match sc.names.lookup x with
  | some .local => true
  | _ => false
def locC (sc : Scope) (x : Str) : Bool := match sc.names.lookup x with
  | some .local => true
  | some .cell => true
  | _ => false
def glB (sc : Scope) (x : Str) : Bool := match sc.names.lookup x with
  | some .globalImplicit => true
  | _ => false
theorem visB_ok {sc : Scope} {x : Str} (h : visB sc x = true) : Vis sc x := by
  unfold visB at h
  unfold Vis
  split at h <;> simp_all
theorem locB_ok {sc : Scope} {x : Str} (h : locB sc x = true) : sc.names.lookup x = some .local := by
  unfold locB at h
  split at h <;> simp_all
theorem locC_ok {sc : Scope} {x : Str} (h : locC sc x = true) : L2.Loc sc x := by
  unfold locC at h
  unfold L2.Loc
  split at h <;> simp_all
theorem glB_ok {sc : Scope} {x : Str} (h : glB sc x = true) : sc.names.lookup x = some .globalImplicit := by
  unfold glB at h
  split at h <;> simp_all
theorem okName_ok {x : Str} (h : okName x = true) : (x == ("__debug__" : Str)) = false ∧ (x == ("__classdict__" : Str)) = false ∧ x ≠ "__name__" := by
  unfold okName at h
  simp only [Bool.and_eq_true, Bool.not_eq_true', decide_eq_false_iff_not] at h
  exact h
section
variable {X : Cx} {N : List Str} {sc : Scope} {k i : Nat} {x : Str}
theorem CxF.nm (F : CxF X N sc k) (h : (decide (N[i]? = some x) && (visB sc x && okName x)) = true) : Nm X i x := by
  simp only [Bool.and_eq_true, decide_eq_true_eq] at h
  obtain ⟨h1, h2, h3⟩ := h
  have q := okName_ok h3
  exact ⟨by rw [F.hN]; exact h1, by rw [F.hsc]; exact visB_ok h2, q.1, q.2.1⟩
theorem CxF.lc (F : CxF X N sc k) (h : (decide (N[i]? = some x) && locC sc x) = true) : Lc X i x := by
  simp only [Bool.and_eq_true, decide_eq_true_eq] at h
  exact ⟨by rw [F.hN]; exact h.1, by rw [F.hN]; exact F.nd, by rw [F.hsc]; exact locC_ok h.2, .inl (F.fn x)⟩
theorem CxF.gn (F : CxF X N sc k) (h : (glB sc x && okName x) = true) : Gn X x := by
  simp only [Bool.and_eq_true] at h
  exact ⟨by show X.env.scope.names.lookup x = _; rw [F.hsc]; exact glB_ok h.1, (okName_ok h.2).1⟩
theorem CxF.bn (F : CxF X N sc k) (h : (glB sc x && okName x) = true) (m : X.mg x = none) : Bn X x := by
  simp only [Bool.and_eq_true] at h
  exact ⟨by show X.env.scope.names.lookup x = _; rw [F.hsc]; exact glB_ok h.1, m, (okName_ok h.2).1, (okName_ok h.2).2.2⟩
end

/-! ### blocks of comprehensions -/
theorem relabel_look {env : Env} {x : Str} {kd : NameKind} (hk : kd ≠ .free) : ∀ {names : List (Str × NameKind)}, names.lookup x = some kd →
    (names.map fun (n, k) => if (k == NameKind.free && env.scope.kind == .function && env.kindOf n == some .cell) then (n, NameKind.cell) else (n, k)).lookup x = some kd
  | [], h => by simp at h
  | (n, k) :: r, h => by
    have ih := @relabel_look env x kd hk r
    show List.lookup x ((if (k == NameKind.free && env.scope.kind == .function && env.kindOf n == some .cell) = true then (n, NameKind.cell) else (n, k)) :: _) = _
    cases hx : x == n with
    | true =>
      simp only [List.lookup_cons, hx] at h
      cases h
      have : (kd == NameKind.free) = false := by simpa using hk
      simp [List.lookup_cons, hx, this]
    | false =>
      simp only [List.lookup_cons, hx] at h
      by_cases hc : (k == NameKind.free && env.scope.kind == .function && env.kindOf n == some .cell) = true
      · rw [if_pos hc]; simp only [List.lookup_cons, hx]; exact ih h
      · rw [if_neg hc]; simp only [List.lookup_cons, hx]; exact ih h
theorem relabel_free {env : Env} {x : Str} : ∀ {names : List (Str × NameKind)}, names.lookup x = some .free →
    (names.map fun (n, k) => if (k == NameKind.free && env.scope.kind == .function && env.kindOf n == some .cell) then (n, NameKind.cell) else (n, k)).lookup x = some .free ∨
    (names.map fun (n, k) => if (k == NameKind.free && env.scope.kind == .function && env.kindOf n == some .cell) then (n, NameKind.cell) else (n, k)).lookup x = some .cell
  | [], h => by simp at h
  | (n, k) :: r, h => by
    have ih := @relabel_free env x r
    show List.lookup x ((if (k == NameKind.free && env.scope.kind == .function && env.kindOf n == some .cell) = true then (n, NameKind.cell) else (n, k)) :: _) = _ ∨ List.lookup x ((if (k == NameKind.free && env.scope.kind == .function && env.kindOf n == some .cell) = true then (n, NameKind.cell) else (n, k)) :: _) = _
    cases hx : x == n with
    | true =>
      simp only [List.lookup_cons, hx] at h
      cases h
      by_cases hc : (NameKind.free == NameKind.free && env.scope.kind == .function && env.kindOf n == some .cell) = true
      · rw [if_pos hc]; simp [List.lookup_cons, hx]
      · rw [if_neg hc]; simp [List.lookup_cons, hx]
    | false =>
      simp only [List.lookup_cons, hx] at h
      by_cases hc : (k == NameKind.free && env.scope.kind == .function && env.kindOf n == some .cell) = true
      · rw [if_pos hc]; simp only [List.lookup_cons, hx]; exact ih h
      · rw [if_neg hc]; simp only [List.lookup_cons, hx]; exact ih h
section
variable {X : Cx} {N : List Str} {sc scope : Scope} {k i : Nat} {x : Str} {s : Shared} {H : Hp} {Cm : Addr} {cl : List (Str × Addr)} {fp : List Addr}
abbrev bk (X : Cx) (scope : Scope) (s : Shared) (H : Hp) (Cm : Addr) (cl : List (Str × Addr)) (fp : List Addr) : Cx := X.blk s H scope (compEnvC scope cl Cm X.env) fp
theorem CxF.ok (F : CxF X N sc k) {own : List (Str × Nat)} (h : blkC N sc scope own = true) : BlkOk X.N X.env.scope scope own := by
  rw [F.hN, F.hsc]
  exact blkOk_by h
theorem Nm.blk (n : Nm X i x) (h : visB scope x = true) : Nm (bk X scope s H Cm cl fp) i x := by
  refine ⟨n.hN, ?_, n.d1, n.d2⟩
  show Vis (relabel scope X.env) x
  rcases visB_ok h with h | h | h
  · exact .inl (relabel_look (by decide) h)
  · exact .inr (.inl (relabel_look (by decide) h))
  · rcases relabel_free (env := X.env) h with z | z
    · exact .inr (.inr z)
    · exact .inr (.inl z)
theorem CxF.lcB (F : CxF X N sc k) (h : (decide (N[i]? = some x) && locB scope x) = true) : Lc (bk X scope s H Cm cl fp) i x := by
  simp only [Bool.and_eq_true, decide_eq_true_eq] at h
  have q : (relabel scope X.env).names.lookup x = some .local := relabel_look (by decide) (locB_ok h.2)
  exact ⟨by show X.N[i]? = _; rw [F.hN]; exact h.1, by show X.N.Nodup; rw [F.hN]; exact F.nd, .inl q, .inr q⟩
theorem CxF.nmB (F : CxF X N sc k) (h : (decide (N[i]? = some x) && (locB scope x && okName x)) = true) : Nm (bk X scope s H Cm cl fp) i x := by
  simp only [Bool.and_eq_true, decide_eq_true_eq] at h
  have q : (relabel scope X.env).names.lookup x = some .local := relabel_look (by decide) (locB_ok h.2.1)
  have z := okName_ok h.2.2
  exact ⟨by show X.N[i]? = _; rw [F.hN]; exact h.1, .inl q, z.1, z.2.1⟩
theorem Gn.blk (n : Gn X x) (h : glB scope x = true) : Gn (bk X scope s H Cm cl fp) x :=
  ⟨relabel_look (by decide) (glB_ok h), n.d1⟩
theorem gnB (h : (glB scope x && okName x) = true) : Gn (bk X scope s H Cm cl fp) x := by
  simp only [Bool.and_eq_true] at h
  exact ⟨relabel_look (by decide) (glB_ok h.1), (okName_ok h.2).1⟩
theorem bnB (h : (glB scope x && okName x) = true) (m : X.mg x = none) : Bn (bk X scope s H Cm cl fp) x := by
  simp only [Bool.and_eq_true] at h
  exact ⟨relabel_look (by decide) (glB_ok h.1), m, (okName_ok h.2).1, (okName_ok h.2).2.2⟩
end
end AL
/-! The layer's rules over the text: expressions. -/
namespace AL
open PySem PySem.Spec L2

section
variable {X : Cx} {C : Ct} {g g' : Gm} {e a b c : Expr} {es : List Expr} {pos p : Pos} {Q : Av → Gm → Prop} {QT : Bool → Gm → Prop} {x : Str}
/-! ### names, constants -/
theorem ee_im {i : Nat} {d : PyData} (n : Nm X i x) (h : g[i]? = some (.im d)) (q : Q (.d d) g) : EE X C (.Name x pos) g Q := EE.of (pe_var n.hN n.vis n.d1 n.d2) (ae_im h q)
theorem ee_ls {i : Nat} {w : Option Nat} {ds : List PyData} (n : Nm X i x) (h : g[i]? = some (.ls w ds)) (q : Q (.o i) g) : EE X C (.Name x pos) g Q := EE.of (pe_var n.hN n.vis n.d1 n.d2) (ae_ls h q)
theorem ee_vl {i : Nat} {v : V} (n : Nm X i x) (h : g[i]? = some (.vl v)) (q : Q (.v v) g) : EE X C (.Name x pos) g Q := EE.of (pe_var n.hN n.vis n.d1 n.d2) (ae_vl h q)
/-- a module's whole number -/
theorem ee_gi {i : Int} {t : Tok} (n : Gn X x) (m : X.mg x = some (.int i t)) (q : Q (.d (.int i)) g) : EE X C (.Name x pos) g Q := EE.of (pe_glob (v := .int i) n.gl m ⟨t, rfl⟩ n.d1) (ae_cd (fun _ => .int i) q)
/-- a module's def, class, object -/
theorem ee_gr {f : Addr} (n : Gn X x) (m : X.mg x = some (.ref f)) (q : Q (.v (.ref f)) g) : EE X C (.Name x pos) g Q := EE.of (pe_glob (v := .ref f) n.gl m rfl n.d1) (ae_cv q)
/-- a built-in class -/
theorem ee_ty {T : String} (n : Bn X x) (hv : bootBuiltins x = some (.type T)) (q : Q (.v (.ty T)) g) : EE X C (.Name x pos) g Q := EE.of (pe_bltn (v := .ty T) n.gl n.mg hv rfl n.n1 n.d1) (ae_cv q)
theorem ee_int {i : Int} {j : Nat} (q : Q (.d (.int i)) g) : EE X C (.Constant (.int i) j pos) g Q := EE.of pe_int (ae_cd (fun _ => .int i) q)
theorem ee_bl {i : Bool} {j : Nat} (q : Q (.d (.bool i)) g) : EE X C (.Constant (.bool i) j pos) g Q := EE.of pe_bl (ae_cd (fun _ => .bl i) q)
theorem ee_non {j : Nat} (q : Q (.d .none) g) : EE X C (.Constant .none j pos) g Q := EE.of pe_non (ae_cd (fun _ => .non) q)
theorem ee_str {s : Str} {j : Nat} (q : Q (.d (.str s)) g) : EE X C (.Constant (.str s) j pos) g Q := EE.of pe_str (ae_cd (fun _ => .str s) q)

/-! ### operators -/
abbrev rAddA (K : PySem.W.Frag) : R2 := fun x y H P => (fun x y H P => rI0 (fun i j => .int (i + j)) x y H P ∨ rCatA K x y H P) x y H P ∨ rCat x y H P
theorem op_addA : OpR X (binaryOp .Add) (rAddA X.K) := OpR.or (OpR.or op_add op_catA) op_cat
theorem ee_add (h : EE X C a g fun x g1 => EE X C b g1 fun y g2 => RA X.K C (rAddA X.K) x y g2 Q) : EE X C (.BinOp a .Add b pos) g Q := EE.of (pe_op op_addA pe_t pe_t) (ae_op h)
theorem ee_sub (h : EE X C a g fun x g1 => EE X C b g1 fun y g2 => RA X.K C (rI0 fun i j => .int (i - j)) x y g2 Q) : EE X C (.BinOp a .Sub b pos) g Q := EE.of (pe_op op_sub pe_t pe_t) (ae_op h)
theorem ee_mul (h : EE X C a g fun x g1 => EE X C b g1 fun y g2 => RA X.K C (fun x y H P => rI CMulW (fun i j => .int (i * j)) x y H P ∨ rI CMul (fun i j => .int (i * j)) x y H P) x y g2 Q) : EE X C (.BinOp a .Mult b pos) g Q := EE.of (pe_op (OpR.or op_mulW op_mul) pe_t pe_t) (ae_op h)
theorem ee_fdiv (h : EE X C a g fun x g1 => EE X C b g1 fun y g2 => RA X.K C (rI CDivW fun i j => .int (i / j)) x y g2 Q) : EE X C (.BinOp a .FloorDiv b pos) g Q := EE.of (pe_op op_fdivW pe_t pe_t) (ae_op h)
theorem ee_mod (h : EE X C a g fun x g1 => EE X C b g1 fun y g2 => RA X.K C (rI (fun _ j => 0 < j) fun i j => .int (i % j)) x y g2 Q) : EE X C (.BinOp a .Mod b pos) g Q := EE.of (pe_op op_mod pe_t pe_t) (ae_op h)
theorem ee_pow (h : EE X C a g fun x g1 => EE X C b g1 fun y g2 => RA X.K C (rI CPow fun i j => .int (i ^ j.toNat)) x y g2 Q) : EE X C (.BinOp a .Pow b pos) g Q := EE.of (pe_op op_pow pe_t pe_t) (ae_op h)
theorem ee_neg (h : EE X C a g fun x g1 => ∃ i, x = .d (.int i) ∧ Q (.d (.int (-i))) g1) : EE X C (.UnaryOp .USub a pos) g Q := EE.of (pe_un un_neg pe_t) (ae_un (fun _ i => .int _) h)
theorem ra_add {i j : Int} {K : PySem.W.Frag} (q : Q (.d (.int (i + j))) g) : RA K C (rAddA K) (.d (.int i)) (.d (.int j)) g Q := ra_or1 (ra_or1 (ra_I0 (fun _ => .int _) q))
theorem ra_sub {i j : Int} {K : PySem.W.Frag} (q : Q (.d (.int (i - j))) g) : RA K C (rI0 fun i j => .int (i - j)) (.d (.int i)) (.d (.int j)) g Q := ra_I0 (fun _ => .int _) q
theorem ra_mul {i j : Int} {K : PySem.W.Frag} (hc : CMulW i j) (q : Q (.d (.int (i * j))) g) : RA K C (fun x y H P => rI CMulW (fun i j => .int (i * j)) x y H P ∨ rI CMul (fun i j => .int (i * j)) x y H P) (.d (.int i)) (.d (.int j)) g Q := ra_or1 (ra_I hc (fun _ => .int _) q)
theorem ra_mulS {i j : Int} {K : PySem.W.Frag} (hc : CMul i j) (q : Q (.d (.int (i * j))) g) : RA K C (fun x y H P => rI CMulW (fun i j => .int (i * j)) x y H P ∨ rI CMul (fun i j => .int (i * j)) x y H P) (.d (.int i)) (.d (.int j)) g Q := ra_or2 (ra_I hc (fun _ => .int _) q)
theorem ra_fdiv {i j : Int} {K : PySem.W.Frag} (hc : CDivW i j) (q : Q (.d (.int (i / j))) g) : RA K C (rI CDivW fun i j => .int (i / j)) (.d (.int i)) (.d (.int j)) g Q := ra_I hc (fun _ => .int _) q
theorem ra_mod {i j : Int} {K : PySem.W.Frag} (hc : 0 < j) (q : Q (.d (.int (i % j))) g) : RA K C (rI (fun _ j => 0 < j) fun i j => .int (i % j)) (.d (.int i)) (.d (.int j)) g Q := ra_I hc (fun _ => .int _) q
theorem ra_pow {i j : Int} {K : PySem.W.Frag} (hc : CPow i j) (q : Q (.d (.int (i ^ j.toNat))) g) : RA K C (rI CPow fun i j => .int (i ^ j.toNat)) (.d (.int i)) (.d (.int j)) g Q := ra_I hc (fun _ => .int _) q
/-- t + u, tuples -/
theorem ra_catT {ds es : List PyData} {K : PySem.W.Frag} (h3 : ds.length + es.length ≤ 1000000) (q : Q (.d (.tuple (ds ++ es))) g) : RA K C (rAddA K) (.d (.tuple ds)) (.d (.tuple es)) g Q := ra_or1 (ra_or2 fun σ H Z v w I hx hy P p => by
  have hx' : Dd K Z v (.tuple ds) := hx
  have hy' : Dd K Z w (.tuple es) := hy
  cases hx' with
  | @tup a xs _ a1 a2 =>
    cases hy' with
    | @tup b ys _ b1 b2 =>
      refine ⟨a, b, xs, ys, rfl, rfl, Same.seqT I.fz a1, Same.seqT I.fz b1, ?_, ?_, ?_, ?_⟩
      · rw [a2.length, b2.length]; exact Nat.le_trans h3 (by decide)
      · intro z; subst z; cases a2; exact p _ _ _ (.d (.tuple ([] ++ es))) g I (Same.refl _) (Dd.tup b1 b2) q
      · intro _ z; subst z; cases b2; rw [List.append_nil] at q; exact p _ _ _ (.d (.tuple ds)) g I (Same.refl _) (Dd.tup a1 a2) q
      · intro _ _ p' hp
        obtain ⟨I2, s2, _⟩ := I.newF (o := .tup (xs ++ ys)) hp
        exact p _ _ _ (.d (.tuple (ds ++ es))) g I2 s2 (Dd.tup (SqT.of upd_same) ((a2.append b2).mono s2)) q)

/-! ### comparisons -/
theorem ee_lt (h : EE X C a g fun x g1 => EE X C b g1 fun y g2 => RA X.K C (rI0 fun i j => .bl (decide (i < j))) x y g2 Q) : EE X C (.Compare a [.Lt] [b] pos) g Q := EE.of (pe_cmpR op_lt pe_t pe_t (nobehind _ (by decide) (by decide))) (ae_op h)
theorem ee_le (h : EE X C a g fun x g1 => EE X C b g1 fun y g2 => RA X.K C (rI0 fun i j => .bl (decide (i ≤ j))) x y g2 Q) : EE X C (.Compare a [.LtE] [b] pos) g Q := EE.of (pe_cmpR op_le pe_t pe_t (nobehind _ (by decide) (by decide))) (ae_op h)
theorem ee_gt (h : EE X C a g fun x g1 => EE X C b g1 fun y g2 => RA X.K C (rI0 fun i j => .bl (decide (j < i))) x y g2 Q) : EE X C (.Compare a [.Gt] [b] pos) g Q := EE.of (pe_cmpR op_gt pe_t pe_t (nobehind _ (by decide) (by decide))) (ae_op h)
theorem ee_ge (h : EE X C a g fun x g1 => EE X C b g1 fun y g2 => RA X.K C (rI0 fun i j => .bl (decide (j ≤ i))) x y g2 Q) : EE X C (.Compare a [.GtE] [b] pos) g Q := EE.of (pe_cmpR op_ge pe_t pe_t (nobehind _ (by decide) (by decide))) (ae_op h)
theorem ee_eq {k : Nat} (hr : Room k X.A) (h : EE X C a g fun x g1 => EE X C b g1 fun y g2 => RA X.K C (rEqD X.K) x y g2 Q) : EE X C (.Compare a [.Eq] [b] pos) g Q := EE.of (pe_cmpR (op_eqD hr.units) pe_t pe_t (nobehind _ (by decide) (by decide))) (ae_op h)
theorem ee_ne {k : Nat} (hr : Room k X.A) (h : EE X C a g fun x g1 => EE X C b g1 fun y g2 => RA X.K C (rNeD X.K) x y g2 Q) : EE X C (.Compare a [.NotEq] [b] pos) g Q := EE.of (pe_cmpR (op_neD hr.units) pe_t pe_t (nobehind _ (by decide) (by decide))) (ae_op h)
theorem ra_B0 {f : Int → Int → Bool} {i j : Int} {K : PySem.W.Frag} (q : Q (.d (.bool (f i j))) g) : RA K C (rI0 fun i j => .bl (f i j)) (.d (.int i)) (.d (.int j)) g Q := ra_I0 (fun _ => .bl _) q
theorem ee_isN {j : Nat} {p' : Pos} (h : EE X C a g fun x g1 => ∃ d, x = .d d ∧ Q (.d (.bool (match d with | .none => true | _ => false))) g1) : EE X C (.Compare a [.Is] [.Constant .none j p'] pos) g Q := EE.of (pe_cmp (pc_isN pe_t) rfl) (ae_isN h)
theorem ee_notN {j : Nat} {p' : Pos} (h : EE X C a g fun x g1 => ∃ d, x = .d d ∧ Q (.d (.bool (match d with | .none => false | _ => true))) g1) : EE X C (.Compare a [.IsNot] [.Constant .none j p'] pos) g Q := EE.of (pe_cmp (pc_notN pe_t) rfl) (ae_notN h)
/-- data on both sides; an owned list may stand on one -/
def dOf (g : Gm) : Av → PyData
  | .d d => d
  | .o j => match g[j]? with
    | some (.ls _ ds) => .list ds
    | _ => .none
  | .v _ => .none
def isDO (g : Gm) : Av → Bool
  | .d _ => true
  | .o j => match g[j]? with
    | some (.ls _ _) => true
    | _ => false
  | .v _ => false
theorem Ok.dp {K : PySem.W.Frag} {σ : St} {H Z : Hp} (I : Ok K C g σ H Z) : ∀ {x : Av} {v : V}, AvOk K σ Z x v → isDO g x = true → (dOf g x).canLay0 = true → Dp K H v (dOf g x)
  | .d d, v, h, _, n => Dd.dp I.fz d v n h
  | .o j, v, h, k, n => by
    have k' : (match g[j]? with
      | some (.ls _ _) => true
      | _ => false) = true := k
    have e : ∃ w ds, g[j]? = some (.ls w ds) := by
      split at k'
      · rename_i w ds e
        exact ⟨w, ds, e⟩
      · cases k'
    obtain ⟨w, ds, e⟩ := e
    obtain ⟨a, xs, rfl, h2, h3, h4, h5⟩ := I.own e h
    have q : dOf g (.o j) = .list ds := by
      show (match g[j]? with
        | some (.ls _ ds) => PyData.list ds
        | _ => .none) = .list ds
      rw [e]
    rw [q] at n ⊢
    exact .lst (SqL.of h2) (DdA.dp I.fz ds xs (by simpa [PyData.canLay0] using n) h4)
theorem ra_eq {x y : Av} {K : PySem.W.Frag} (h1 : isDO g x = true) (h2 : isDO g y = true) (s1 : SeqAt.shaped (dOf g x) = true) (s2 : SeqAt.shaped (dOf g y) = true) (q : Q (.d (.bool (PyData.eqv (dOf g x) (dOf g y)))) g) : RA K C (rEqD K) x y g Q := fun σ H Z v w I hx hy P p =>
  ⟨_, _, I.dp hx h1 (SeqAt.canLay_of_shaped s1), I.dp hy h2 (SeqAt.canLay_of_shaped s2), s1, s2, p _ H Z (.d (.bool _)) g I (Same.refl _) (Dd.bl _) q⟩
theorem ra_ne {x y : Av} {K : PySem.W.Frag} (h1 : isDO g x = true) (h2 : isDO g y = true) (s1 : SeqAt.shaped (dOf g x) = true) (s2 : SeqAt.shaped (dOf g y) = true) (q : Q (.d (.bool (!PyData.eqv (dOf g x) (dOf g y)))) g) : RA K C (rNeD K) x y g Q := fun σ H Z v w I hx hy P p =>
  ⟨_, _, I.dp hx h1 (SeqAt.canLay_of_shaped s1), I.dp hy h2 (SeqAt.canLay_of_shaped s2), s1, s2, p _ H Z (.d (.bool _)) g I (Same.refl _) (Dd.bl _) q⟩
/-- a <= b <= c, a < b < c .. of whole numbers -/
theorem ee_chainLL (h : EE X C a g fun x g1 => EE X C b g1 fun y g2 => ∃ i j, x = .d (.int i) ∧ y = .d (.int j) ∧ BR (decide (i ≤ j)) (EE X C c g2 fun z g3 => ∃ k, z = .d (.int k) ∧ Q (.d (.bool (decide (j ≤ k)))) g3) (Q (.d (.bool false)) g2)) (hm : lastMarks [.LtE, .LtE] [b, c] = false := by with_unfolding_all rfl) : EE X C (.Compare a [.LtE, .LtE] [b, c] pos) g Q :=
  EE.of (pe_chain op_le op_le pe_t pe_t pe_t hm) (ae_chain (h.mono fun x g1 h1 => AE.mono h1 fun y g2 h2 => by
    obtain ⟨i, j, rfl, rfl, q⟩ := h2
    refine ra_B0 ⟨_, rfl, q.1.comp id |> fun f => ⟨fun z => AE.mono (f z) fun z g3 h3 => ?_, q.2⟩⟩
    obtain ⟨k, rfl, q3⟩ := h3
    exact ra_B0 q3))
theorem ee_chainLt (h : EE X C a g fun x g1 => EE X C b g1 fun y g2 => ∃ i j, x = .d (.int i) ∧ y = .d (.int j) ∧ BR (decide (i ≤ j)) (EE X C c g2 fun z g3 => ∃ k, z = .d (.int k) ∧ Q (.d (.bool (decide (j < k)))) g3) (Q (.d (.bool false)) g2)) (hm : lastMarks [.LtE, .Lt] [b, c] = false := by with_unfolding_all rfl) : EE X C (.Compare a [.LtE, .Lt] [b, c] pos) g Q :=
  EE.of (pe_chain op_le op_lt pe_t pe_t pe_t hm) (ae_chain (h.mono fun x g1 h1 => AE.mono h1 fun y g2 h2 => by
    obtain ⟨i, j, rfl, rfl, q⟩ := h2
    refine ra_B0 ⟨_, rfl, q.1.comp id |> fun f => ⟨fun z => AE.mono (f z) fun z g3 h3 => ?_, q.2⟩⟩
    obtain ⟨k, rfl, q3⟩ := h3
    exact ra_B0 q3))

/-! ### and, or, not, if -/
theorem ee_one {op : BoolOp} (h : EE X C a g Q) : EE X C (.BoolOp op [a] pos) g Q := EE.of (pe_one pe_t) h
theorem ee_and (h : EE X C a g fun x g1 => ∃ i, x = .d (.bool i) ∧ BR i (EE X C (.BoolOp .And (b :: es) pos) g1 Q) (Q (.d (.bool false)) g1)) : EE X C (.BoolOp .And (a :: b :: es) pos) g Q := EE.of (pe_and pe_t pe_t) (ae_andV h)
theorem ee_or (h : EE X C a g fun x g1 => ∃ i, x = .d (.bool i) ∧ BR i (Q (.d (.bool true)) g1) (EE X C (.BoolOp .Or (b :: es) pos) g1 Q)) : EE X C (.BoolOp .Or (a :: b :: es) pos) g Q := EE.of (pe_or pe_t pe_t) (ae_orV h)
theorem ee_not (h : EE X C a g fun x g1 => ∃ i, x = .d (.bool i) ∧ Q (.d (.bool (!i))) g1) : EE X C (.UnaryOp .Not a pos) g Q := EE.of (pe_not pe_t) (ae_notV h)
theorem ee_if (h : ET X C a g fun i g1 => BR i (EE X C b g1 Q) (EE X C c g1 Q)) : EE X C (.IfExp a b c pos) g Q := EE.of (pe_ifExp pt_t pe_t pe_t) (ae_if h)
/-- comparisons as tests -/
theorem et_cmpR {op : CmpOp} {r : R2} (ho : OpR X (compareOp op) r) (hm : behindInMarks op b = false) (h : EE X C a g fun x g1 => EE X C b g1 fun y g2 => RA X.K C r x y g2 fun z g3 => ∃ i, z = .d (.bool i) ∧ QT i g3) : ET X C (.Compare a [op] [b] pos) g QT := ET.of (pt_cmpR ho pe_t pe_t hm) (at_test (ae_op h))
theorem et_lt (h : EE X C a g fun x g1 => EE X C b g1 fun y g2 => RA X.K C (rI0 fun i j => .bl (decide (i < j))) x y g2 fun z g3 => ∃ i, z = .d (.bool i) ∧ QT i g3) : ET X C (.Compare a [.Lt] [b] pos) g QT := et_cmpR op_lt (nobehind _ (by decide) (by decide)) h
theorem et_le (h : EE X C a g fun x g1 => EE X C b g1 fun y g2 => RA X.K C (rI0 fun i j => .bl (decide (i ≤ j))) x y g2 fun z g3 => ∃ i, z = .d (.bool i) ∧ QT i g3) : ET X C (.Compare a [.LtE] [b] pos) g QT := et_cmpR op_le (nobehind _ (by decide) (by decide)) h
theorem et_gt (h : EE X C a g fun x g1 => EE X C b g1 fun y g2 => RA X.K C (rI0 fun i j => .bl (decide (j < i))) x y g2 fun z g3 => ∃ i, z = .d (.bool i) ∧ QT i g3) : ET X C (.Compare a [.Gt] [b] pos) g QT := et_cmpR op_gt (nobehind _ (by decide) (by decide)) h
theorem et_ge (h : EE X C a g fun x g1 => EE X C b g1 fun y g2 => RA X.K C (rI0 fun i j => .bl (decide (j ≤ i))) x y g2 fun z g3 => ∃ i, z = .d (.bool i) ∧ QT i g3) : ET X C (.Compare a [.GtE] [b] pos) g QT := et_cmpR op_ge (nobehind _ (by decide) (by decide)) h
theorem et_eq {k : Nat} (hr : Room k X.A) (h : EE X C a g fun x g1 => EE X C b g1 fun y g2 => RA X.K C (rEqD X.K) x y g2 fun z g3 => ∃ i, z = .d (.bool i) ∧ QT i g3) : ET X C (.Compare a [.Eq] [b] pos) g QT := et_cmpR (op_eqD hr.units) (nobehind _ (by decide) (by decide)) h
theorem et_ne {k : Nat} (hr : Room k X.A) (h : EE X C a g fun x g1 => EE X C b g1 fun y g2 => RA X.K C (rNeD X.K) x y g2 fun z g3 => ∃ i, z = .d (.bool i) ∧ QT i g3) : ET X C (.Compare a [.NotEq] [b] pos) g QT := et_cmpR (op_neD hr.units) (nobehind _ (by decide) (by decide)) h
theorem et_isN {j : Nat} {p' : Pos} (h : EE X C a g fun x g1 => ∃ d, x = .d d ∧ QT (match d with | .none => true | _ => false) g1) : ET X C (.Compare a [.Is] [.Constant .none j p'] pos) g QT := ET.of (pt_cmp (pc_isN pe_t) rfl) (at_B (ae_isN (h.mono fun x g1 ⟨d, e, q⟩ => ⟨d, e, _, rfl, q⟩)))
theorem et_notN {j : Nat} {p' : Pos} (h : EE X C a g fun x g1 => ∃ d, x = .d d ∧ QT (match d with | .none => false | _ => true) g1) : ET X C (.Compare a [.IsNot] [.Constant .none j p'] pos) g QT := ET.of (pt_cmp (pc_notN pe_t) rfl) (at_B (ae_notN (h.mono fun x g1 ⟨d, e, q⟩ => ⟨d, e, _, rfl, q⟩)))
theorem et_chainLL (h : EE X C a g fun x g1 => EE X C b g1 fun y g2 => ∃ i j, x = .d (.int i) ∧ y = .d (.int j) ∧ BR (decide (i ≤ j)) (EE X C c g2 fun z g3 => ∃ k, z = .d (.int k) ∧ QT (decide (j ≤ k)) g3) (QT false g2)) (hm : lastMarks [.LtE, .LtE] [b, c] = false := by with_unfolding_all rfl) : ET X C (.Compare a [.LtE, .LtE] [b, c] pos) g QT :=
  ET.of (pt_chain op_le op_le pe_t pe_t pe_t hm) (at_test (ae_chain (h.mono fun x g1 h1 => AE.mono h1 fun y g2 h2 => by
    obtain ⟨i, j, rfl, rfl, q⟩ := h2
    refine ra_B0 ⟨_, rfl, fun z => AE.mono (q.1 z) fun z g3 h3 => ?_, fun z => ⟨_, rfl, q.2 z⟩⟩
    obtain ⟨k, rfl, q3⟩ := h3
    exact ra_B0 ⟨_, rfl, q3⟩)))
theorem et_chainLt (h : EE X C a g fun x g1 => EE X C b g1 fun y g2 => ∃ i j, x = .d (.int i) ∧ y = .d (.int j) ∧ BR (decide (i ≤ j)) (EE X C c g2 fun z g3 => ∃ k, z = .d (.int k) ∧ QT (decide (j < k)) g3) (QT false g2)) (hm : lastMarks [.LtE, .Lt] [b, c] = false := by with_unfolding_all rfl) : ET X C (.Compare a [.LtE, .Lt] [b, c] pos) g QT :=
  ET.of (pt_chain op_le op_lt pe_t pe_t pe_t hm) (at_test (ae_chain (h.mono fun x g1 h1 => AE.mono h1 fun y g2 h2 => by
    obtain ⟨i, j, rfl, rfl, q⟩ := h2
    refine ra_B0 ⟨_, rfl, fun z => AE.mono (q.1 z) fun z g3 h3 => ?_, fun z => ⟨_, rfl, q.2 z⟩⟩
    obtain ⟨k, rfl, q3⟩ := h3
    exact ra_B0 ⟨_, rfl, q3⟩)))
end
end AL
/-! The layer's rules over the text: tests, displays, subscripts, calls. -/
namespace AL
open PySem PySem.Spec L2

section
variable {X : Cx} {C : Ct} {g g' : Gm} {e a b c : Expr} {es : List Expr} {pos p : Pos} {Q : Av → Gm → Prop} {QT : Bool → Gm → Prop} {QL : List PyData → Gm → Prop} {QA : List Av → Gm → Prop} {x : Str}
/-! ### tests -/
theorem et_val (h : EE X C e g fun x g1 => ∃ i, x = .d (.bool i) ∧ QT i g1) (he : ∀ whole, isTrue e X.env whole = (do let v ← whole; standAt e.pos; holding [v] (truthy v)) := by intro _; rfl) : ET X C e g QT := ET.of (pt_val pe_t he) (at_B h)
theorem et_not (h : ET X C a g fun i g1 => QT (!i) g1) : ET X C (.UnaryOp .Not a pos) g QT := ET.of (pt_not pt_t) (at_not h)
theorem et_and (h : EW X C (.BoolOp .And es pos) g QT) : ET X C (.BoolOp .And es pos) g QT := ET.of (PW.pt pw_t) h
theorem et_or (h : EW X C (.BoolOp .Or es pos) g QT) : ET X C (.BoolOp .Or es pos) g QT := ET.of (PW.pt pw_t) h
theorem ew_and (h : ET X C a g fun i g1 => BR i (EW X C (.BoolOp .And (b :: es) pos) g1 QT) (QT false g1)) : EW X C (.BoolOp .And (a :: b :: es) pos) g QT := EW.of (pw_and pt_t pw_t) (at_and h)
theorem ew_or (h : ET X C a g fun i g1 => BR i (QT true g1) (EW X C (.BoolOp .Or (b :: es) pos) g1 QT)) : EW X C (.BoolOp .Or (a :: b :: es) pos) g QT := EW.of (pw_or pt_t pw_t) (at_or h)
theorem ew_and1 (h : ET X C a g QT) : EW X C (.BoolOp .And [a] pos) g QT := EW.of (pw_and1 pt_t) h
theorem ew_or1 (h : ET X C a g QT) : EW X C (.BoolOp .Or [a] pos) g QT := EW.of (pw_or1 pt_t) h
theorem ets_nil (q : QT true g) : ETs X C [] g QT := ETs.of pts_nil (fun σ H Z I P p => p true H Z g I (Same.refl _) q)
theorem ets_one (h : ET X C a g QT) : ETs X C [a] g QT := ETs.of (pts_one pt_t) h

/-! ### displays -/
theorem ea_nil (q : QA [] g) : EA X C [] g QA := EA.of pa_nil (aa_nil q)
theorem ea_cons (h : EE X C e g fun x g1 => EA X C es g1 fun xs g2 => QA (x :: xs) g2) (he : starEach (e :: es) X.env = (false, eval e X.env) :: starEach es X.env := by rfl) : EA X C (e :: es) g QA := EA.of (pa_cons pe_t pa_t he) (aa_cons h)
theorem ee_tup {k : Nat} (h : EA X C es g fun xs g1 => ∃ ds g2, Frz xs g1 ds g2 ∧ ds.length ≤ 1000000 ∧ Q (.d (.tuple ds)) g2) : EE X C (.Tuple es k pos) g Q := EE.of (pe_tup pa_t) (ae_tup h)
theorem en_lst (h : EA X C es g fun xs g1 => ∃ ds g2, Frz xs g1 ds g2 ∧ ds.length ≤ 1000000 ∧ QL ds g2) : EN X C (.List es pos) g QL := EN.of (pe_lst pa_t) (an_lst h)
theorem ee_en (h : EN X C e g fun ds g1 => Q (.d (.list ds)) g1) : EE X C e g Q := ae_an h
theorem ee_lst (h : EA X C es g fun xs g1 => ∃ ds g2, Frz xs g1 ds g2 ∧ ds.length ≤ 1000000 ∧ Q (.d (.list ds)) g2) : EE X C (.List es pos) g Q := ee_en (en_lst h)

/-! ### subscripts -/
theorem ee_ix (hs : PlainIx b) (h : EE X C a g fun x g1 => EE X C b g1 fun y g2 => RA X.K C (fun x y H P => rIxL X.K x y H P ∨ rIxT X.K x y H P) x y g2 Q) : EE X C (.Subscript a b pos) g Q := EE.of (pe_ix (IxR.or ix_list ix_tup) pe_t pe_t hs) (ae_op h)
theorem atI_map {K : PySem.W.Frag} {Z : Hp} {ds : List PyData} {vs : List V} {i : Int} {d : PyData} (h : DdA K Z vs ds) (e : atI ds i = some d) : ∃ v, atI vs i = some v ∧ Dd K Z v d := by
  unfold atI at e ⊢
  rw [h.length]
  cases q : ixN ds.length i with
  | none => rw [q] at e; cases e
  | some j =>
    rw [q] at e
    exact h.get e
theorem ra_ixT {ds : List PyData} {i : Int} {d : PyData} {K : PySem.W.Frag} (hi : atI ds i = some d) (q : Q (.d d) g) : RA K C (fun x y H P => rIxL K x y H P ∨ rIxT K x y H P) (.d (.tuple ds)) (.d (.int i)) g Q := ra_or2 fun σ H Z v w I hx hy P p => by
  have hx' : Dd K Z v (.tuple ds) := hx
  cases hy
  cases hx' with
  | @tup a xs _ a1 a2 =>
    obtain ⟨u, e1, e2⟩ := atI_map a2 hi
    exact ⟨a, xs, i, u, rfl, rfl, Same.seqT I.fz a1, e1, p u H Z (.d d) g I (Same.refl _) e2 q⟩
theorem ra_ixL {ds : List PyData} {i : Int} {d : PyData} {K : PySem.W.Frag} (hi : atI ds i = some d) (q : Q (.d d) g) : RA K C (fun x y H P => rIxL K x y H P ∨ rIxT K x y H P) (.d (.list ds)) (.d (.int i)) g Q := ra_or1 fun σ H Z v w I hx hy P p => by
  have hx' : Dd K Z v (.list ds) := hx
  cases hy
  cases hx' with
  | @lst a xs _ a1 a2 =>
    obtain ⟨u, e1, e2⟩ := atI_map a2 hi
    exact ⟨a, xs, i, u, rfl, rfl, SqL.of (I.fz _ _ a1), e1, p u H Z (.d d) g I (Same.refl _) e2 q⟩
theorem ra_ixO {ds : List PyData} {w : Option Nat} {j : Nat} {i : Int} {d : PyData} {K : PySem.W.Frag} (hj : g[j]? = some (.ls w ds)) (hi : atI ds i = some d) (q : Q (.d d) g) : RA K C (fun x y H P => rIxL K x y H P ∨ rIxT K x y H P) (.o j) (.d (.int i)) g Q := ra_or1 fun σ H Z v w' I hx hy P p => by
  cases hy
  obtain ⟨a, xs, rfl, h2, h3, h4, h5⟩ := I.own hj hx
  obtain ⟨u, e1, e2⟩ := atI_map h4 hi
  exact ⟨a, xs, i, u, rfl, rfl, SqL.of h2, e1, p u H Z (.d d) g I (Same.refl _) e2 q⟩
theorem atI_nat' {ds : List PyData} {i : Nat} {d : PyData} (h : ds[i]? = some d) : atI ds (i : Int) = some d := atI_nat h
theorem atI_int {α : Type} {ds : List α} {i : Int} {d : α} (h0 : 0 ≤ i) (h : ds[i.toNat]? = some d) : atI ds i = some d := by
  have := atI_nat (j := i.toNat) h
  rwa [Int.toNat_of_nonneg h0] at this

/-! ### calls -/
inductive Ar where
  | d (d : PyData)
  | v (v : V)
def ArOk (K : PySem.W.Frag) (Z : Hp) : Ar → V → Prop
  | .d d, v => Dd K Z v d
  | .v w, v => v = w
inductive ArsOk (K : PySem.W.Frag) (Z : Hp) : List Ar → List V → Prop
  | nil : ArsOk K Z [] []
  | cons {x : Ar} {v : V} {xs : List Ar} {vs : List V} : ArOk K Z x v → ArsOk K Z xs vs → ArsOk K Z (x :: xs) (v :: vs)
theorem ArsOk.length {K : PySem.W.Frag} {Z : Hp} : ∀ {xs : List Ar} {vs : List V}, ArsOk K Z xs vs → vs.length = xs.length
  | _, _, .nil => rfl
  | _, _, .cons _ t => by simp [t.length]
abbrev Con := List Ar → PyData → Prop
/-- a def read as a function of data: arguments, result; nothing that stood is changed -/
def spR (K : PySem.W.Frag) (n : Nat) (S : Con) : Sp := fun vs H Q _ => vs.length = n ∧ ∃ Z as r, Same Z H ∧ ArsOk K Z as vs ∧ S as r ∧
  ∀ v H' Z', Same H H' → Same Z Z' → Same Z' H' → (∀ (a : Addr) (o : HO), Z' a = some o → Z a = some o ∨ H a = none) → Dd K Z' v r → Q v H'
/-- .. whose result is a new list -/
def spN (K : PySem.W.Frag) (n : Nat) (S : List Ar → List PyData → Prop) : Sp := fun vs H Q _ => vs.length = n ∧ ∃ Z as r, Same Z H ∧ ArsOk K Z as vs ∧ S as r ∧
  ∀ p H' Z' xs, Same H H' → Same Z Z' → Same Z' H' → (∀ (a : Addr) (o : HO), Z' a = some o → Z a = some o ∨ H a = none) → H p = none → H' p = some (.lst xs) → Z' p = none → DdA K Z' xs r → Q (.ref p) H'
/-- .. that changes the list handed in first -/
abbrev ConM := List PyData → List Ar → PyData → List PyData → Prop
def spM (K : PySem.W.Frag) (n : Nat) (S : ConM) : Sp := fun vs H Q _ => vs.length = n ∧ ∃ a vs' Z xs ds as r ds', vs = .ref a :: vs' ∧ H a = some (.lst xs) ∧ Z a = none ∧ Same Z H ∧ DdA K Z xs ds ∧ ArsOk K Z as vs' ∧ S ds as r ds' ∧
  ∀ v H' Z' xs', (∀ (b : Addr) (o : HO), b ≠ a → H b = some o → H' b = some o) → H' a = some (.lst xs') → Same Z Z' → Same Z' H' → Z' a = none → (∀ (b : Addr) (o : HO), Z' b = some o → Z b = some o ∨ H b = none) → DdA K Z' xs' ds' → Dd K Z' v r → Q v H'
structure Callable (P : Program) (w : World) (K : PySem.W.Frag) (mg : Str → Option Value) (base : Heap) (x : Str) (k : Nat) (sp : Sp) : Prop where
  ex : ∃ (f : Addr) (fd : FuncData) (ps : List Str), FnOk P w K mg base CX0 k f fd ps sp ∧ mg x = some (.ref f) ∧ PySem.W.keepIn K (.ref f) = true ∧ Binds K fd ps []
abbrev Cal (X : Cx) (x : Str) (k : Nat) (sp : Sp) : Prop := Callable X.prog X.w X.K X.mg X.base x k sp
theorem Callable.mono {P : Program} {w : World} {K : PySem.W.Frag} {mg : Str → Option Value} {base : Heap} {k k' : Nat} {sp : Sp} (c : Callable P w K mg base x k sp) (h : k ≤ k') : Callable P w K mg base x k' sp := by
  obtain ⟨f, fd, ps, F, r⟩ := c.ex
  exact ⟨f, fd, ps, F.mono h, r⟩
inductive CvA (g : Gm) : List Av → List Ar → Prop
  | nil : CvA g [] []
  | d {d : PyData} {xs : List Av} {as : List Ar} : CvA g xs as → CvA g (.d d :: xs) (.d d :: as)
  | v {v : V} {xs : List Av} {as : List Ar} : CvA g xs as → CvA g (.v v :: xs) (.v v :: as)
theorem CvA.run {K : PySem.W.Frag} {σ : St} {Z : Hp} : ∀ {xs : List Av} {as : List Ar} {vs : List V}, CvA g xs as → AvsOk K σ Z xs vs → ArsOk K Z as vs
  | _, _, _, .nil, .nil => .nil
  | _, _, _, .d h, .cons a t => .cons a (h.run t)
  | _, _, _, .v h, .cons a t => .cons a (h.run t)
theorem AvsOk.length {K : PySem.W.Frag} {σ : St} {Z : Hp} : ∀ {xs : List Av} {vs : List V}, AvsOk K σ Z xs vs → vs.length = xs.length
  | _, _, .nil => rfl
  | _, _, .cons _ t => by simp [t.length]
theorem ee_call {k n : Nat} {S : Con} (c : Cal X x k (spR X.K n S)) (hr : Room k X.A) (n1 : Gn X x) (h : EA X C (e :: es) g fun xs g1 => xs.length = n ∧ ∃ as r, CvA g1 xs as ∧ S as r ∧ Q (.d r) g1)
    (he : starEach (e :: es) X.env = (false, eval e X.env) :: starEach es X.env := by rfl) (hpl : (backTo pos (starEach es X.env)).any (·.1) = false := by rfl) : EE X C (.Call (.Name x p) (e :: es) [] pos) g Q := by
  obtain ⟨f, fd, ps, F, m, kp, B⟩ := c.ex
  refine EE.of (pe_call (dvs := []) (ds := []) (E := E0) F hr n1.gl m kp B .nil pass0 pa_t n1.d1 he hpl) fun σ H Z I P p => ?_
  refine h σ H Z I _ fun vs H1 Z1 xs g1 I1 s1 a1 q1 => ?_
  obtain ⟨hl, as, r, cv, hS, q⟩ := q1
  rw [List.append_nil]
  refine ⟨a1.length.trans hl, Z1, as, r, I1.fz, cv.run a1, hS, fun v H' Z' h1 h2 h3 h4 h5 => ?_⟩
  exact p v H' Z' (.d r) g1 (I1.grow h1 h2 h3 h4) (s1.trans h2) h5 q
theorem en_call {k n : Nat} {S : List Ar → List PyData → Prop} (c : Cal X x k (spN X.K n S)) (hr : Room k X.A) (n1 : Gn X x) (h : EA X C (e :: es) g fun xs g1 => xs.length = n ∧ ∃ as r, CvA g1 xs as ∧ S as r ∧ QL r g1)
    (he : starEach (e :: es) X.env = (false, eval e X.env) :: starEach es X.env := by rfl) (hpl : (backTo pos (starEach es X.env)).any (·.1) = false := by rfl) : EN X C (.Call (.Name x p) (e :: es) [] pos) g QL := by
  obtain ⟨f, fd, ps, F, m, kp, B⟩ := c.ex
  refine EN.of (pe_call (dvs := []) (ds := []) (E := E0) F hr n1.gl m kp B .nil pass0 pa_t n1.d1 he hpl) fun σ H Z I P p => ?_
  refine h σ H Z I _ fun vs H1 Z1 xs g1 I1 s1 a1 q1 => ?_
  obtain ⟨hl, as, r, cv, hS, q⟩ := q1
  rw [List.append_nil]
  refine ⟨a1.length.trans hl, Z1, as, r, I1.fz, cv.run a1, hS, fun t H' Z' xs h1 h2 h3 h4 h5 h6 h7 h8 => ?_⟩
  obtain ⟨m1, m2, m3⟩ := I1.new h5
  exact p t H' Z' r g1 (I1.grow h1 h2 h3 h4) (s1.trans h2) ⟨⟨xs, h6, h8⟩, h7, m2, m3⟩ q
/-- a call that changes the owned list handed in first -/
theorem ee_callM {k n : Nat} {S : ConM} (c : Cal X x k (spM X.K n S)) (hr : Room k X.A) (n1 : Gn X x) (h : EA X C (e :: es) g fun xs g1 => xs.length = n ∧ ∃ j w ds rest as r ds' g2, xs = .o j :: rest ∧ CvA g1 rest as ∧ g1[j]? = some (.ls w ds) ∧ S ds as r ds' ∧ SetE g1 j (.ls w ds') g2 ∧ Q (.d r) g2)
    (he : starEach (e :: es) X.env = (false, eval e X.env) :: starEach es X.env := by rfl) (hpl : (backTo pos (starEach es X.env)).any (·.1) = false := by rfl) : EE X C (.Call (.Name x p) (e :: es) [] pos) g Q := by
  obtain ⟨f, fd, ps, F, m, kp, B⟩ := c.ex
  refine EE.of (pe_call (dvs := []) (ds := []) (E := E0) F hr n1.gl m kp B .nil pass0 pa_t n1.d1 he hpl) fun σ H Z I P p => ?_
  refine h σ H Z I _ fun vs H1 Z1 xs g1 I1 s1 a1 q1 => ?_
  obtain ⟨hl, j, w, ds, rest, as, r, ds', g2, rfl, cv, hj, hS, hs, q⟩ := q1
  rw [List.append_nil]
  have hlen := a1.length.trans hl
  cases a1 with
  | @cons _ v _ vs' b1 b2 =>
    obtain ⟨a, xs, rfl, o2, o3, o4, o5⟩ := I1.own hj b1
    refine ⟨hlen, a, vs', Z1, xs, ds, as, r, ds', rfl, o2, o3, I1.fz, o4, cv.run b2, hS, fun v H' Z' xs' h1 h2 h3 h4 h5 h6 h7 h8 => ?_⟩
    -- first the heap grows but for a, then a is stored
    have e0 : H' = upd (fun b => if b = a then some (.lst xs) else H' b) a (.lst xs') := by
      funext b
      by_cases z : b = a
      · subst z; rw [upd_same]; exact h2
      · rw [upd_ne z]; simp [z]
    have I2 : Ok X.K C g1 σ (fun b => if b = a then some (.lst xs) else H' b) Z' := by
      refine I1.grow (fun b o q => ?_) h3 (fun b o q => ?_) h6
      · by_cases z : b = a
        · subst z; rw [o2] at q; cases q; simp
        · simp only [z, if_false]; exact h1 b o z q
      · by_cases z : b = a
        · subst z; rw [h5] at q; cases q
        · simp only [z, if_false]; exact h4 b o q
    have I3 := I2.put hj b1 h7 hs
    rw [← e0] at I3
    exact p v H' Z' (.d r) g2 I3 (s1.trans h3) h8 q
end

/-! ### a def keeps its promise -/
def entOf : Ar → Ent
  | .d d => .im d
  | .v v => .vl v
/-- what a body hands back -/
inductive Ret (r : PyData) : Av → Gm → Prop
  | d {g : Gm} : Ret r (.d r) g
  | o {j : Nat} {es : List PyData} {g : Gm} : g[j]? = some (.ls none es) → r = .list es → Ret r (.o j) g
theorem ret_d {r d : PyData} {g : Gm} (h : d = r) : Ret r (.d d) g := by subst h; exact .d
inductive RetN (r : List PyData) : Av → Gm → Prop
  | o {j : Nat} {es : List PyData} {g : Gm} : g[j]? = some (.ls none es) → es = r → RetN r (.o j) g
section
variable {K : PySem.W.Frag} {C : Ct} {g : Gm} {σ : St} {H Z : Hp}
theorem SetE.mk' {e : Ent} : ∀ {g : Gm} {j : Nat}, j < g.length → SetE g j e (g.set j e)
  | [], _, h => by simp at h
  | _ :: g, 0, _ => .z
  | _ :: g, j + 1, h => .s (SetE.mk' (by simpa using h))
theorem start_get {as : List Ar} {vs : List V} {n : Nat} (h : ArsOk K Z as vs) (i : Nat) (e : Ent) (q : (as.map entOf ++ List.replicate n Ent.no)[i]? = some e) : EntOk K C H Z (vs.map some ++ List.replicate n none)[i]? e := by
  induction h generalizing i with
  | nil =>
    have q' : (List.replicate n Ent.no)[i]? = some e := by simpa using q
    have z := List.getElem?_eq_some_iff.mp q'
    obtain ⟨z1, z2⟩ := z
    simp at z2
    subst z2
    trivial
  | @cons x v xs vs h1 h2 ih =>
    cases i with
    | zero =>
      have q' : entOf x = e := by simpa using q
      subst q'
      cases x with
      | d d => exact ⟨v, by simp, h1⟩
      | v w =>
        have : v = w := h1
        subst this
        show _ = _
        simp
    | succ i =>
      have := ih i (by simpa using q)
      simpa using this
theorem start_ok {as : List Ar} {vs : List V} {N : List Str} {T : List (Addr × Str)} (h : ArsOk K Z as vs) (hz : Same Z H) (tb : LamX.Tabs T H) (tz : ∀ p ∈ T, Z p.1 = none) : Ok K ⟨H, Z, [], T⟩ (as.map entOf ++ List.replicate (N.length - vs.length) Ent.no) (L2.start N vs) H Z := by
  refine ⟨by simp [L2.start, h.length], hz, fun a o q _ _ => q, Same.refl _, fun a o q => .inl q, hz, fun a q => by simp at q, fun a q => by simp at q, fun i e q => start_get h i e q, fun i j w w' ds es a q1 => ?_, tb, fun p hp => ⟨by obtain ⟨ps, z, _⟩ := tb p hp; show (H p.1).isSome = true; rw [z]; rfl, tz p hp⟩⟩
  exfalso
  have : ∀ (as : List Ar) (n i : Nat), (as.map entOf ++ List.replicate n Ent.no)[i]? ≠ some (.ls w ds) := by
    intro as n
    induction as with
    | nil =>
      intro i q
      have q' : (List.replicate n Ent.no)[i]? = some (.ls w ds) := by simpa using q
      obtain ⟨_, z⟩ := List.getElem?_eq_some_iff.mp q'
      simp at z
    | cons x xs ih =>
      intro i q
      cases i with
      | zero => cases x <;> simp [entOf] at q
      | succ i => exact ih i (by simpa using q)
  exact this _ _ _ q1
end
abbrev FnP (K : PySem.W.Frag) (x : Str) (st : Stmt) (f : Addr) (fd : FuncData) : Prop := FunD K x x (defArgs st) (defBody st) (defScope st) [] [] f fd
theorem fn_ok {P : Program} {w : World} {K : PySem.W.Frag} {mg : Str → Option Value} {base : Heap} {x : Str} {st : Stmt} {f : Addr} {fd : FuncData} {N ps : List Str} {k n : Nat} {S : Con} {kws : List (Str × V)} (F : FunD K x x (defArgs st) (defBody st) (defScope st) [] kws f fd) (Sc : FnScope N ps (defScope st)) (hn : ps.length = n)
    (hbody : ∀ (X : Cx), X.prog = P → X.w = w → X.K = K → X.mg = mg → X.base = base → PassesOwn (model X.prog X.w) X.A X.env X.xe → CxF X N (defScope st) k → ∀ C as r, S as r → as.length = n → C.W = [] →
      ESs X C (defBody st) (as.map entOf ++ List.replicate (N.length - n) Ent.no) { nx := fun _ => r = .none, rt := Ret r }) : FnOk P w K mg base CX0 (k + 1) f fd ps (spR K n S) := by
  refine F.ok Sc (fun vs H Q E h => by rw [h.1, hn]) (fun cdv A outer s H vs Q E hr h => ?_)
  obtain ⟨hl, Z, as, r, hz, ha, hS, q⟩ := h
  refine ⟨_, PSs.nox (pss_t (X := (cxOf CX0 P w K mg base N x (defScope st) f cdv A outer s H E).nox)), ?_⟩
  have al : as.length = n := by rw [← ha.length]; exact hl
  have b := hbody (cxOf CX0 P w K mg base N x (defScope st) f cdv A outer s H E).nox rfl rfl rfl rfl rfl PassesOwn.never ⟨rfl, rfl, rfl, Sc.nd, hr, fun _ => rfl⟩ ⟨H, Z, [], []⟩ as r hS al rfl
  have I := start_ok (N := N) (T := []) ha hz (fun p hp => by cases hp) (fun p hp => by cases hp)
  rw [hl] at I
  have fin : ∀ v σ' H' Z' g', Ok K ⟨H, Z, [], []⟩ g' σ' H' Z' → Dd K Z' v r → Q v H' := fun v σ' H' Z' g' I' hd =>
    q v H' Z' (fun a o e => I'.fr a o e (by simp) (by simp)) I'.z0 I'.fz I'.nw hd
  refine b _ H Z I _ ⟨fun g' σ' H' Z' I' _ e => ?_, fun x v g' σ' H' Z' I' _ a e => ?_, fun _ _ _ _ _ _ z => z.elim, fun _ _ _ _ _ _ z => z.elim, fun _ _ _ _ _ _ _ _ _ z => z.elim⟩
  · exact fin _ σ' H' Z' g' I' (by rw [e]; exact .non)
  · cases e with
    | d => exact fin v σ' H' Z' g' I' a
    | @o j es _ e1 e2 =>
      subst e2
      have hj := (List.getElem?_eq_some_iff.mp e1).1
      obtain ⟨Z2, I2, s2, d2⟩ := I'.frz e1 a (g' := g'.set j (.im (.list es))) (SetE.mk' hj)
      exact fin v σ' H' Z2 _ I2 d2
theorem fn_okN {P : Program} {w : World} {K : PySem.W.Frag} {mg : Str → Option Value} {base : Heap} {x : Str} {st : Stmt} {f : Addr} {fd : FuncData} {N ps : List Str} {k n : Nat} {S : List Ar → List PyData → Prop} {kws : List (Str × V)} (F : FunD K x x (defArgs st) (defBody st) (defScope st) [] kws f fd) (Sc : FnScope N ps (defScope st)) (hn : ps.length = n)
    (hbody : ∀ (X : Cx), X.prog = P → X.w = w → X.K = K → X.mg = mg → X.base = base → PassesOwn (model X.prog X.w) X.A X.env X.xe → CxF X N (defScope st) k → ∀ C as r, S as r → as.length = n → C.W = [] →
      ESs X C (defBody st) (as.map entOf ++ List.replicate (N.length - n) Ent.no) { nx := fun _ => False, rt := RetN r, rn := fun ds _ => ds = r }) : FnOk P w K mg base CX0 (k + 1) f fd ps (spN K n S) := by
  refine F.ok Sc (fun vs H Q E h => by rw [h.1, hn]) (fun cdv A outer s H vs Q E hr h => ?_)
  obtain ⟨hl, Z, as, r, hz, ha, hS, q⟩ := h
  refine ⟨_, PSs.nox (pss_t (X := (cxOf CX0 P w K mg base N x (defScope st) f cdv A outer s H E).nox)), ?_⟩
  have al : as.length = n := by rw [← ha.length]; exact hl
  have b := hbody (cxOf CX0 P w K mg base N x (defScope st) f cdv A outer s H E).nox rfl rfl rfl rfl rfl PassesOwn.never ⟨rfl, rfl, rfl, Sc.nd, hr, fun _ => rfl⟩ ⟨H, Z, [], []⟩ as r hS al rfl
  have I := start_ok (N := N) (T := []) ha hz (fun p hp => by cases hp) (fun p hp => by cases hp)
  rw [hl] at I
  refine b _ H Z I _ ⟨fun g' σ' H' Z' I' _ e => e.elim, fun x v g' σ' H' Z' I' _ a e => ?_, fun _ _ _ _ _ _ z => z.elim, fun _ _ _ _ _ _ z => z.elim, fun ds p g' σ' H' Z' I' _ n e => ?_⟩
  · cases e with
    | o e1 e2 =>
      subst e2
      obtain ⟨p, xs, rfl, o2, o3, o4, o5⟩ := I'.own e1 a
      exact q p H' Z' xs (fun a o e => I'.fr a o e (by simp) (by simp)) I'.z0 I'.fz I'.nw o5 o2 o3 o4
  · obtain ⟨xs, n1, n2⟩ := n.at_
    have e' : ds = r := e
    subst e'
    exact q p H' Z' xs (fun a o e => I'.fr a o e (by simp) (by simp)) I'.z0 I'.fz I'.nw n.n0 n1 n.nz n2
theorem fn_okM {P : Program} {w : World} {K : PySem.W.Frag} {mg : Str → Option Value} {base : Heap} {x : Str} {st : Stmt} {f : Addr} {fd : FuncData} {N ps : List Str} {k n : Nat} {S : ConM} {kws : List (Str × V)} (F : FunD K x x (defArgs st) (defBody st) (defScope st) [] kws f fd) (Sc : FnScope N ps (defScope st)) (hn : ps.length = n)
    (hbody : ∀ (X : Cx), X.prog = P → X.w = w → X.K = K → X.mg = mg → X.base = base → PassesOwn (model X.prog X.w) X.A X.env X.xe → CxF X N (defScope st) k → ∀ C ds as r ds', S ds as r ds' → as.length + 1 = n →
      ESs X C (defBody st) (.ls (some 0) ds :: (as.map entOf ++ List.replicate (N.length - n) Ent.no)) { nx := fun g => r = .none ∧ g[0]? = some (.ls (some 0) ds'), rt := fun x g => Ret r x g ∧ g[0]? = some (.ls (some 0) ds') }) : FnOk P w K mg base CX0 (k + 1) f fd ps (spM K n S) := by
  refine F.ok Sc (fun vs H Q E h => by rw [h.1, hn]) (fun cdv A outer s H vs Q E hr h => ?_)
  obtain ⟨hl, a, vs', Z, xs, ds, as, r, ds', rfl, h1, h2, hz, hd, ha, hS, q⟩ := h
  refine ⟨_, PSs.nox (pss_t (X := (cxOf CX0 P w K mg base N x (defScope st) f cdv A outer s H E).nox)), ?_⟩
  have al : as.length + 1 = n := by rw [← ha.length]; simpa using hl
  have b := hbody (cxOf CX0 P w K mg base N x (defScope st) f cdv A outer s H E).nox rfl rfl rfl rfl rfl PassesOwn.never ⟨rfl, rfl, rfl, Sc.nd, hr, fun _ => rfl⟩ ⟨H, Z, [a], []⟩ ds as r ds' hS al
  have hl' : vs'.length = as.length := ha.length
  have I : Ok K ⟨H, Z, [a], []⟩ (.ls (some 0) ds :: (as.map entOf ++ List.replicate (N.length - n) Ent.no)) (L2.start N (.ref a :: vs')) H Z := by
    refine ⟨by simp [L2.start, hl']; omega, hz, fun b o q _ _ => q, Same.refl _, fun b o q => .inl q, hz, fun b q => ?_, fun b q => ?_, fun i e q => ?_, fun i j w w' ds1 es b q1 q2 => ?_, fun p hp => (by cases hp), fun p hp => (by cases hp)⟩
    · have this : b = a := by simpa using q
      rw [this]
      exact ⟨by show (H a).isSome = true; rw [h1]; rfl, h2⟩
    · have this : b = a := by simpa using q
      rw [this, h1]; rfl
    · cases i with
      | zero =>
        have q' : Ent.ls (some 0) ds = e := by simpa using q
        subst q'
        exact ⟨a, xs, by simp [L2.start], h1, h2, hd, rfl⟩
      | succ i =>
        have := start_get (H := H) (C := ⟨H, Z, [a], []⟩) (n := N.length - n) ha i e (by simpa using q)
        have e2 : N.length - (V.ref a :: vs').length = N.length - n := by rw [hl]
        unfold L2.start
        rw [e2]
        simpa using this
    · have aux : ∀ (as : List Ar) (n i : Nat) (w : Option Nat) (ds : List PyData), (as.map entOf ++ List.replicate n Ent.no)[i]? ≠ some (.ls w ds) := by
        intro as n
        induction as with
        | nil =>
          intro i w ds q
          have q' : (List.replicate n Ent.no)[i]? = some (.ls w ds) := by simpa using q
          obtain ⟨_, z⟩ := List.getElem?_eq_some_iff.mp q'
          simp at z
        | cons x xs ih =>
          intro i w ds q
          cases i with
          | zero => cases x <;> simp [entOf] at q
          | succ i => exact ih i w ds (by simpa using q)
      cases i with
      | zero =>
        cases j with
        | zero => intros; rfl
        | succ j => exact absurd (by simpa using q2) (aux as (N.length - n) j w' es)
      | succ i => exact absurd (by simpa using q1) (aux as (N.length - n) i w ds1)
  have fin : ∀ v σ' H' Z' g', Ok K ⟨H, Z, [a], []⟩ g' σ' H' Z' → g'[0]? = some (.ls (some 0) ds') → Dd K Z' v r → Q v H' := fun v σ' H' Z' g' I' e hd' => by
    obtain ⟨b, ys, f1, f2, f3, f4, f5⟩ := I'.ent 0 _ e
    have this : b = a := by
      have z : [a][0]? = some b := f5
      simpa using z.symm
    rw [this] at f2 f3
    exact q v H' Z' ys (fun c o hc e => I'.fr c o e (by simpa using hc) (by simp)) f2 I'.z0 I'.fz f3 I'.nw f4 hd'
  refine b _ H Z I _ ⟨fun g' σ' H' Z' I' _ e => ?_, fun x v g' σ' H' Z' I' _ a e => ?_, fun _ _ _ _ _ _ z => z.elim, fun _ _ _ _ _ _ z => z.elim, fun _ _ _ _ _ _ _ _ _ z => z.elim⟩
  · exact fin _ σ' H' Z' g' I' e.2 (by rw [e.1]; exact .non)
  · obtain ⟨e, e0⟩ := e
    cases e with
    | d => exact fin v σ' H' Z' g' I' e0 a
    | @o j es _ e1 e2 =>
      subst e2
      have hj := (List.getElem?_eq_some_iff.mp e1).1
      obtain ⟨Z2, I2, s2, d2⟩ := I'.frz e1 a (SetE.mk' hj)
      have ne : (0 : Nat) ≠ j := fun z => by subst z; rw [e0] at e1; cases e1
      exact fin v σ' H' Z2 _ I2 (by rw [(SetE.mk' hj).ne ne]; exact e0) d2
end AL
/-! The layer's rules over the text: built-ins, methods of lists, comprehensions, statements. -/
namespace AL
open PySem PySem.Spec L2

/-- what a built-in's call gives -/
def RC (K : PySem.W.Frag) (C : Ct) (r : List V → Hp → VK → Prop) (xs : List Av) (g : Gm) (Q : Av → Gm → Prop) : Prop := ∀ σ H Z vs, Ok K C g σ H Z → AvsOk K σ Z xs vs → ∀ P : VK, (∀ u H' Z' z g', Ok K C g' σ H' Z' → Same Z Z' → AvOk K σ Z' z u → Q z g' → P u H') → r vs H P
section
variable {X : Cx} {C : Ct} {g g' : Gm} {e a b c o : Expr} {es : List Expr} {pos p apos : Pos} {Q : Av → Gm → Prop} {QT : Bool → Gm → Prop} {QL : List PyData → Gm → Prop} {QA : List Av → Gm → Prop} {x : Str} {K : PySem.W.Frag}
theorem ae_cb {r : List V → Hp → VK → Prop} {ta : TA} (h : AA K C ta g fun xs g1 => RC K C r xs g1 Q) : AE K C (tCB r ta) g Q := fun σ H Z I P p =>
  h σ H Z I _ fun vs H1 Z1 xs g1 I1 s1 a1 q1 => q1 σ H1 Z1 vs I1 a1 P fun u H2 Z2 z g2 I2 s2 => p u H2 Z2 z g2 I2 (s1.trans s2)
theorem ee_callB {id : String} {r : List V → Hp → VK → Prop} (hc : CallR X (.builtin id) r) (n : Bn X x) (hv : bootBuiltins x = some (.builtin id)) (h : EA X C (e :: es) g fun xs g1 => RC X.K C r xs g1 Q)
    (he : starEach (e :: es) X.env = (false, eval e X.env) :: starEach es X.env) (hpl : (backTo pos (starEach es X.env)).any (·.1) = false) : EE X C (.Call (.Name x p) (e :: es) [] pos) g Q := EE.of (pe_callB hc n.gl n.mg hv pa_t n.n1 n.d1 he hpl) (ae_cb h)
theorem ee_callTy {T : String} {r : List V → Hp → VK → Prop} (hc : CallR X (.type T) r) (n : Bn X x) (hv : bootBuiltins x = some (.type T)) (h : EA X C (e :: es) g fun xs g1 => RC X.K C r xs g1 Q)
    (he : starEach (e :: es) X.env = (false, eval e X.env) :: starEach es X.env) (hpl : (backTo pos (starEach es X.env)).any (·.1) = false) : EE X C (.Call (.Name x p) (e :: es) [] pos) g Q := EE.of (pe_callTy hc n.gl n.mg hv pa_t n.n1 n.d1 he hpl) (ae_cb h)
/-- one argument, two -/
theorem ee_len (n : Bn X "len") (h : EE X C e g fun x g1 => RC X.K C (fun xs H Q => ∃ x n, xs = [x] ∧ LenV X.K x H n ∧ Q (.int n) H) [x] g1 Q) (he : starEach [e] X.env = (false, eval e X.env) :: starEach [] X.env := by rfl) : EE X C (.Call (.Name "len" p) [e] [] pos) g Q :=
  ee_callB call_len n PySem.boot_len (ea_cons (h.mono fun x g1 q => ea_nil q) he) he rfl
theorem rc_lenL {ds : List PyData} (q : Q (.d (.int ds.length)) g) : RC K C (fun xs H Q => ∃ x n, xs = [x] ∧ LenV K x H n ∧ Q (.int n) H) [.d (.list ds)] g Q := fun σ H Z vs I a P p => by
  cases a with
  | @cons _ v _ _ a1 a2 =>
    cases a2
    have a1' : Dd K Z v (.list ds) := a1
    cases a1' with
    | @lst ad xs _ b1 b2 => exact ⟨_, ds.length, rfl, .inl ⟨xs, SqL.of (I.fz _ _ b1), b2.length.symm⟩, p _ H Z (.d (.int _)) g I (Same.refl _) (Dd.int _) q⟩
theorem rc_lenT {ds : List PyData} (q : Q (.d (.int ds.length)) g) : RC K C (fun xs H Q => ∃ x n, xs = [x] ∧ LenV K x H n ∧ Q (.int n) H) [.d (.tuple ds)] g Q := fun σ H Z vs I a P p => by
  cases a with
  | @cons _ v _ _ a1 a2 =>
    cases a2
    have a1' : Dd K Z v (.tuple ds) := a1
    cases a1' with
    | @tup ad xs _ b1 b2 => exact ⟨_, ds.length, rfl, .inr ⟨xs, Same.seqT I.fz b1, b2.length.symm⟩, p _ H Z (.d (.int _)) g I (Same.refl _) (Dd.int _) q⟩
theorem rc_lenS {s : Str} (hs : s.length ≤ sizeLine) (q : Q (.d (.int s.length)) g) : RC K C (fun xs H Q => ∃ x n, xs = [x] ∧ LenV K x H n ∧ Q (.int n) H) [.d (.str s)] g Q := fun σ H Z vs I a P p => by
  cases a with
  | @cons _ v _ _ a1 a2 =>
    cases a2; cases a1
    exact ⟨_, s.length, rfl, ⟨hs, rfl⟩, p _ H Z (.d (.int _)) g I (Same.refl _) (Dd.int _) q⟩
theorem rc_lenO {j : Nat} {w : Option Nat} {ds : List PyData} (hj : g[j]? = some (.ls w ds)) (q : Q (.d (.int ds.length)) g) : RC K C (fun xs H Q => ∃ x n, xs = [x] ∧ LenV K x H n ∧ Q (.int n) H) [.o j] g Q := fun σ H Z vs I a P p => by
  cases a with
  | @cons _ v _ _ a1 a2 =>
    cases a2
    obtain ⟨ad, xs, rfl, o2, o3, o4, o5⟩ := I.own hj a1
    exact ⟨_, ds.length, rfl, .inl ⟨xs, SqL.of o2, o4.length.symm⟩, p _ H Z (.d (.int _)) g I (Same.refl _) (Dd.int _) q⟩
theorem ee_abs (n : Bn X "abs") (h : EE X C e g fun x g1 => ∃ i, x = .d (.int i) ∧ Q (.d (.int (if i < 0 then -i else i))) g1) (he : starEach [e] X.env = (false, eval e X.env) :: starEach [] X.env := by rfl) : EE X C (.Call (.Name "abs" p) [e] [] pos) g Q :=
  ee_callB call_abs n (by decide +kernel) (ea_cons (h.mono fun x g1 q => ea_nil fun σ H Z vs I a P p => by
    obtain ⟨i, rfl, q⟩ := q
    cases a with
    | cons a1 a2 =>
      cases a2; cases a1
      exact ⟨i, rfl, p _ H Z (.d (.int _)) g1 I (Same.refl _) (Dd.int _) q⟩) he) he rfl
theorem ee_max2 (n : Bn X "max") (hc : X.calm = true) (h : EE X C a g fun x g1 => EE X C b g1 fun y g2 => ∃ i j, x = .d (.int i) ∧ y = .d (.int j) ∧ Q (.d (.int (if j > i then j else i))) g2) (he : starEach [a, b] X.env = (false, eval a X.env) :: starEach [b] X.env := by rfl) (he2 : starEach [b] X.env = (false, eval b X.env) :: starEach [] X.env := by rfl) : EE X C (.Call (.Name "max" p) [a, b] [] pos) g Q :=
  ee_callB (call_max2 hc) n (by decide +kernel) (ea_cons (h.mono fun x g1 h1 => ea_cons (h1.mono fun y g2 q => ea_nil fun σ H Z vs I a P p => by
    obtain ⟨i, j, rfl, rfl, q⟩ := q
    cases a with
    | cons a1 a2 =>
      cases a2 with
      | cons a3 a4 =>
        cases a4; cases a3; cases a1
        exact ⟨i, j, rfl, p _ H Z (.d (.int _)) g2 I (Same.refl _) (Dd.int _) q⟩) he2) he) he (by rw [he2]; rfl)
theorem ee_min2 (n : Bn X "min") (hc : X.calm = true) (h : EE X C a g fun x g1 => EE X C b g1 fun y g2 => ∃ i j, x = .d (.int i) ∧ y = .d (.int j) ∧ Q (.d (.int (if j < i then j else i))) g2) (he : starEach [a, b] X.env = (false, eval a X.env) :: starEach [b] X.env := by rfl) (he2 : starEach [b] X.env = (false, eval b X.env) :: starEach [] X.env := by rfl) : EE X C (.Call (.Name "min" p) [a, b] [] pos) g Q :=
  ee_callB (call_min2 hc) n (by decide +kernel) (ea_cons (h.mono fun x g1 h1 => ea_cons (h1.mono fun y g2 q => ea_nil fun σ H Z vs I a P p => by
    obtain ⟨i, j, rfl, rfl, q⟩ := q
    cases a with
    | cons a1 a2 =>
      cases a2 with
      | cons a3 a4 =>
        cases a4; cases a3; cases a1
        exact ⟨i, j, rfl, p _ H Z (.d (.int _)) g2 I (Same.refl _) (Dd.int _) q⟩) he2) he) he (by rw [he2]; rfl)
/-- int(a bool) -/
theorem ee_intB (n : Bn X "int") (h : EE X C e g fun x g1 => ∃ i, x = .d (.bool i) ∧ Q (.d (.int (if i then 1 else 0))) g1) (he : starEach [e] X.env = (false, eval e X.env) :: starEach [] X.env := by rfl) : EE X C (.Call (.Name "int" p) [e] [] pos) g Q :=
  ee_callTy call_int1 n (by decide +kernel) (ea_cons (h.mono fun x g1 q => ea_nil fun σ H Z vs I a P p => by
    obtain ⟨i, rfl, q⟩ := q
    cases a with
    | cons a1 a2 =>
      cases a2; cases a1
      exact .inr ⟨i, rfl, p _ H Z (.d (.int _)) g1 I (Same.refl _) (Dd.int _) q⟩) he) he rfl
/-- tuple(xs) -/
def KT (g : Gm) (x : Av) (ds : List PyData) : Prop := x = .d (.list ds) ∨ x = .d (.tuple ds) ∨ ∃ j w, x = .o j ∧ g[j]? = some (.ls w ds)
theorem ee_tuple (n : Bn X "tuple") (h : EE X C e g fun x g1 => ∃ ds, KT g1 x ds ∧ Q (.d (.tuple ds)) g1) (he : starEach [e] X.env = (false, eval e X.env) :: starEach [] X.env := by rfl) : EE X C (.Call (.Name "tuple" p) [e] [] pos) g Q :=
  EE.of (pe_tupleOf n.gl n.mg pe_t he) fun σ H Z I P p => h σ H Z I _ fun v H1 Z1 x g1 I1 s1 a1 q1 => by
    obtain ⟨ds, kt, q⟩ := q1
    have fin : ∀ ad xs, H1 ad = some (.lst xs) → DdA X.K Z1 xs ds → kTup X.K (.ref ad) H1 P := fun ad xs b1 b2 => by
      refine .inl ⟨ad, xs, rfl, SqL.of b1, fun t ht => ?_⟩
      obtain ⟨I2, s2, _⟩ := I1.newF (o := .tup xs) ht
      exact p _ _ _ (.d (.tuple ds)) g1 I2 (s1.trans s2) (.tup (SqT.of upd_same) (b2.mono s2)) q
    rcases kt with rfl | rfl | ⟨j, w, rfl, hj⟩
    · have a1' : Dd X.K Z1 v (.list ds) := a1
      cases a1' with
      | @lst ad xs _ b1 b2 => exact fin ad xs (I1.fz _ _ b1) b2
    · have a1' : Dd X.K Z1 v (.tuple ds) := a1
      cases a1' with
      | @tup ad xs _ b1 b2 => exact .inr ⟨ad, xs, rfl, Same.seqT I1.fz b1, p _ H1 Z1 (.d (.tuple ds)) g1 I1 s1 (.tup b1 b2) q⟩
    · obtain ⟨ad, xs, rfl, o2, o3, o4, o5⟩ := I1.own hj a1
      exact fin ad xs o2 o4
theorem kt_l {ds : List PyData} : KT g (.d (.list ds)) ds := .inl rfl
theorem kt_t {ds : List PyData} : KT g (.d (.tuple ds)) ds := .inr (.inl rfl)
theorem kt_o {j : Nat} {w : Option Nat} {ds : List PyData} (h : g[j]? = some (.ls w ds)) : KT g (.o j) ds := .inr (.inr ⟨j, w, rfl, h⟩)
/-- list(xs): a new list -/
theorem en_list (n : Bn X "list") (h : EE X C e g fun x g1 => ∃ ds, KT g1 x ds ∧ QL ds g1) (he : starEach [e] X.env = (false, eval e X.env) :: starEach [] X.env := by rfl) : EN X C (.Call (.Name "list" p) [e] [] pos) g QL :=
  EN.of (pe_callTy (T := "list") call_list_of n.gl n.mg (by decide +kernel) pa_t n.n1 n.d1 he rfl) fun σ H Z I P p =>
    (show EA X C [e] g (fun xs g1 => ∃ x ds, xs = [x] ∧ KT g1 x ds ∧ QL ds g1) from ea_cons (h.mono fun x g1 q => by
      obtain ⟨ds, q1, q2⟩ := q
      exact ea_nil ⟨x, ds, rfl, q1, q2⟩) he) σ H Z I _ fun vs H1 Z1 xs g1 I1 s1 a1 q1 => by
    obtain ⟨x, ds, rfl, kt, q⟩ := q1
    cases a1 with
    | @cons _ v _ _ a1 a2 =>
      cases a2
      have fin : ∀ xs l, H1 l = none → DdA X.K Z1 xs ds → P (.ref l) (upd H1 l (.lst xs)) := fun xs l hl b2 => by
        obtain ⟨m1, m2, m3⟩ := I1.new hl
        exact p l _ Z1 ds g1 (I1.newO hl) s1 ⟨⟨xs, upd_same, b2⟩, m1, m2, m3⟩ q
      rcases kt with rfl | rfl | ⟨j, w, rfl, hj⟩
      · have a1' : Dd X.K Z1 v (.list ds) := a1
        cases a1' with
        | @lst ad xs _ b1 b2 => exact ⟨ad, xs, rfl, .inl (SqL.of (I1.fz _ _ b1)), fun l hl => fin xs l hl b2⟩
      · have a1' : Dd X.K Z1 v (.tuple ds) := a1
        cases a1' with
        | @tup ad xs _ b1 b2 => exact ⟨ad, xs, rfl, .inr (Same.seqT I1.fz b1), fun l hl => fin xs l hl b2⟩
      · obtain ⟨ad, xs, rfl, o2, o3, o4, o5⟩ := I1.own hj a1
        exact ⟨ad, xs, rfl, .inl (SqL.of o2), fun l hl => fin xs l hl o4⟩
/-- xs + ys, lists: a new list -/
theorem en_cat (h : EE X C a g fun x g1 => EE X C b g1 fun y g2 => ∃ ds es, (x = .d (.list ds) ∨ ∃ j w, x = .o j ∧ g2[j]? = some (.ls w ds)) ∧ (y = .d (.list es) ∨ ∃ j w, y = .o j ∧ g2[j]? = some (.ls w es)) ∧ ds.length + es.length ≤ 1000000 ∧ QL (ds ++ es) g2) : EN X C (.BinOp a .Add b pos) g QL :=
  EN.of (pe_op op_cat pe_t pe_t) fun σ H Z I P p => h σ H Z I _ fun v H1 Z1 x g1 I1 s1 a1 h1 => h1 σ H1 Z1 I1 _ fun w H2 Z2 y g2 I2 s2 a2 q => by
    obtain ⟨ds, es, hx, hy, hl, q⟩ := q
    have get : ∀ {z : Av} {u : V} {ds : List PyData}, AvOk X.K σ Z2 z u → (z = .d (.list ds) ∨ ∃ j w, z = .o j ∧ g2[j]? = some (.ls w ds)) → ∃ ad xs, u = .ref ad ∧ H2 ad = some (.lst xs) ∧ DdA X.K Z2 xs ds := fun {z u ds} az hz => by
      rcases hz with rfl | ⟨j, w, rfl, hj⟩
      · have a1' : Dd X.K Z2 u (.list ds) := az
        cases a1' with
        | @lst ad xs _ b1 b2 => exact ⟨ad, xs, rfl, I2.fz _ _ b1, b2⟩
      · obtain ⟨ad, xs, rfl, o2, o3, o4, o5⟩ := I2.own hj az
        exact ⟨ad, xs, rfl, o2, o4⟩
    obtain ⟨ad, xs, rfl, b1, b2⟩ := get (a1.mono s2) hx
    obtain ⟨bd, ys, rfl, c1, c2⟩ := get a2 hy
    refine ⟨ad, bd, xs, ys, rfl, rfl, b1, c1, by rw [b2.length, c2.length]; exact Nat.le_trans hl (by decide), fun l hl => ?_⟩
    obtain ⟨m1, m2, m3⟩ := I2.new hl
    exact p l _ Z2 (ds ++ es) g2 (I2.newO hl) (s1.trans s2) ⟨⟨xs ++ ys, upd_same, b2.append c2⟩, m1, m2, m3⟩ q

/-! ### isinstance -/
def tyN : PyData → String
  | .none => "NoneType"
  | .bool _ => "bool"
  | .int _ => "int"
  | .str _ => "str"
  | .list _ => "list"
  | .tuple _ => "tuple"
  | .dict _ => "dict"
def isiT : List String := ["bool", "int", "str", "list", "tuple", "dict"]
def isiB (a b : String) : Bool := a == b || (a == "bool" && b == "int")
theorem isi_all : (["NoneType", "bool", "int", "str", "list", "tuple"].all fun a => isiT.all fun b => decide (kitB a b = some (isiB a b))) = true := by decide +kernel
theorem isi_ok {a b : String} (ha : a ∈ ["NoneType", "bool", "int", "str", "list", "tuple"]) (hb : b ∈ isiT) : kitB a b = some (isiB a b) :=
  of_decide_eq_true (List.all_eq_true.mp (List.all_eq_true.mp isi_all a ha) b hb)
def notD : PyData → Bool
  | .dict _ => false
  | _ => true
theorem Ok.ty {σ : St} {H Z : Hp} (I : Ok K C g σ H Z) {d : PyData} {v : V} (nd : notD d = true) (h : Dd K Z v d) : TyX K H v (.type (tyN d)) ∧ tyN d ∈ ["NoneType", "bool", "int", "str", "list", "tuple"] := by
  cases h with
  | non => exact ⟨.base .non, by simp [tyN]⟩
  | bl b => exact ⟨.base (.bl b), by simp [tyN]⟩
  | int i => exact ⟨.base (.int i), by simp [tyN]⟩
  | str s => exact ⟨.base (.str s), by simp [tyN]⟩
  | scr h1 => simp [notD] at nd
  | lst h1 h2 => exact ⟨.base (.lst (I.fz _ _ h1)), by simp [tyN]⟩
  | tup h1 h2 =>
    refine ⟨?_, by simp [tyN]⟩
    rcases h1 with (h | ⟨o, h⟩) | ⟨o, its, n, h1, h2, _⟩
    · exact .base (.tup (I.fz _ _ h))
    · exact .fTuple (I.fz _ _ h)
    · exact .kTuple h1 h2
theorem ee_isi {T : String} (n : Bn X "isinstance") (hT : T ∈ isiT) (h : EE X C a g fun x g1 => EE X C b g1 fun y g2 => ∃ d, notD d = true ∧ (x = .d d ∨ ∃ j w ds, x = .o j ∧ g2[j]? = some (.ls w ds) ∧ d = .list ds) ∧ y = .v (.ty T) ∧ Q (.d (.bool (isiB (tyN d) T))) g2) (he : starEach [a, b] X.env = (false, eval a X.env) :: starEach [b] X.env := by rfl) (he2 : starEach [b] X.env = (false, eval b X.env) :: starEach [] X.env := by rfl) : EE X C (.Call (.Name "isinstance" p) [a, b] [] pos) g Q :=
  ee_callB call_isi n (by decide +kernel) (ea_cons (h.mono fun x g1 h1 => ea_cons (h1.mono fun y g2 q => ea_nil fun σ H Z vs I a P p => by
    obtain ⟨d, nd, hx, rfl, q⟩ := q
    cases a with
    | @cons _ v _ _ a1 a2 =>
      cases a2 with
      | cons a3 a4 =>
        cases a4; cases a3
        have ty : TyX X.K H v (.type (tyN d)) ∧ tyN d ∈ ["NoneType", "bool", "int", "str", "list", "tuple"] := by
          rcases hx with rfl | ⟨j, w, ds, rfl, hj, rfl⟩
          · exact I.ty nd a1
          · obtain ⟨ad, xs, rfl, o2, o3, o4, o5⟩ := I.own hj a1
            exact ⟨.base (.lst o2), by simp [tyN]⟩
        exact ⟨v, .ty T, _, _, _, rfl, .ty T, ty.1, kit_ty (isi_ok ty.2 hT), p _ H Z (.d (.bool _)) g2 I (Same.refl _) (Dd.bl _) q⟩) he2) he) he (by rw [he2]; rfl)

/-! ### methods of an own list -/
theorem ee_append (h : EE X C o g fun x g1 => ∃ j w0 ds0, x = .o j ∧ g1[j]? = some (.ls w0 ds0) ∧ EE X C e g1 fun y g2 => ∃ w ds d g3 g4, Frz [y] g2 [d] g3 ∧ g3[j]? = some (.ls w ds) ∧ ds.length < 1000000 ∧ SetE g3 j (.ls w (ds ++ [d])) g4 ∧ Q (.d .none) g4)
    (hbase : attributeBase o "append" X.env (eval o X.env) = eval o X.env := by rfl) (hline : (apos.endLine == pos.line) = true := by rfl) (hs : starEach [e] X.env = (false, eval e X.env) :: starEach [] X.env := by rfl)
    (hfew : ((backTo pos (starEach [e] X.env)).all (fun x => !x.1) && (backToKw pos (keywordEach [] X.env)).all (fun x => x.1.isSome) && decide ([e].length + ([] : List Keyword).length + (if ([] : List Keyword).isEmpty then 0 else 1) < 30)) = true := by rfl) :
    EE X C (.Call (.Attribute o "append" apos) [e] [] pos) g Q :=
  EE.of (pe_bm PySem.F.plainAttrs_list PySem.F.slot_list_append PySem.F.type_list_append mt_append pe_t pa_t hbase hfew hline hs rfl) fun σ H Z I P p =>
    h σ H Z I _ fun v H1 Z1 x g1 I1 s1 a1 q1 => by
      obtain ⟨j, w0, ds0, rfl, hj0, h2⟩ := q1
      obtain ⟨ad, xs0, rfl, o2, o3, o4, o5⟩ := I1.own hj0 a1
      refine ⟨.inl ⟨rfl, xs0, SqL.of o2⟩, ?_⟩
      refine (show EA X C [e] g1 (fun ys g2 => ∃ y w ds d g3 g4, ys = [y] ∧ Frz [y] g2 [d] g3 ∧ g3[j]? = some (.ls w ds) ∧ ds.length < 1000000 ∧ SetE g3 j (.ls w (ds ++ [d])) g4 ∧ Q (.d .none) g4) from ea_cons (h2.mono fun y g2 q => by
        obtain ⟨w, ds, d, g3, g4, q⟩ := q
        exact ea_nil ⟨y, w, ds, d, g3, g4, rfl, q⟩) hs) σ H1 Z1 I1 _ fun vs H2 Z2 ys g2 I2 s2 a2 q => ?_
      obtain ⟨y, w, ds, d, g3, g4, rfl, f, hj, hl, hs4, q⟩ := q
      obtain ⟨Z3, I3, s3, r3⟩ := f.run I2 a2
      cases r3 with
      | @cons u _ _ _ r4 r5 =>
        cases r5
        obtain ⟨ad', xs, e0, o2', o3', o4', o5'⟩ := I3.own hj a1
        cases e0
        refine ⟨ad, xs, u, rfl, rfl, o2', by rw [o4'.length]; exact Nat.lt_of_lt_of_le hl (by decide), ?_⟩
        exact p .non _ Z3 (.d .none) g4 (I3.put hj a1 (o4'.append (.cons r4 .nil)) hs4) ((s1.trans s2).trans s3) Dd.non q
end
end AL
/-! The layer's rules over the text: what is walked, comprehensions, statements. -/
namespace AL
open PySem PySem.Spec L2

def NoAt (g : Gm) (vs : List Nat) : Prop := ∀ i ∈ vs, g[i]? = some .no
section
variable {K : PySem.W.Frag} {C : Ct} {g g' : Gm} {σ : St} {H H' Z Z' : Hp}
theorem wipe_get {σ : St} {i : Nat} : ∀ {vs : List Nat}, i ∉ vs → (wipe σ vs)[i]? = σ[i]?
  | [], _ => rfl
  | v :: vs, h => by
    unfold wipe
    rw [List.getElem?_set_ne (by simp at h; exact fun z => h.1 z.symm)]
    exact wipe_get (by simp at h; exact h.2)
theorem Ok.wipe (I : Ok K C g σ H Z) {vs : List Nat} (n : NoAt g vs) : Ok K C g (L2.wipe σ vs) H Z := by
  have q : ∀ {i : Nat} {e : Ent}, g[i]? = some e → e ≠ .no → (L2.wipe σ vs)[i]? = σ[i]? := fun {i e} h ne => wipe_get fun hm => by
    rw [n i hm] at h; cases h; exact ne rfl
  refine ⟨I.ln.trans (wipe_length σ vs).symm, I.fz, I.fr, I.z0, I.nw, I.b0, I.wz, I.wh, fun i e h => ?_, fun i j w w' ds es a h1 h2 h3 h4 => ?_, I.tb, I.tz⟩
  · have r := I.ent i e h
    cases e with
    | no => trivial
    | im d => rw [q h (by simp)]; exact r
    | ls w ds => rw [q h (by simp)]; exact r
    | vl v => rw [q h (by simp)]; exact r
  · rw [q h1 (by simp)] at h3
    rw [q h2 (by simp)] at h4
    exact I.inj i j w w' ds es a h1 h2 h3 h4
theorem Ok.unwipe {vs : List Nat} (I : Ok K C g (L2.wipe σ vs) H Z) (n : NoAt g vs) : Ok K C g σ H Z := by
  have q : ∀ {i : Nat} {e : Ent}, g[i]? = some e → e ≠ .no → (L2.wipe σ vs)[i]? = σ[i]? := fun {i e} h ne => wipe_get fun hm => by
    rw [n i hm] at h; cases h; exact ne rfl
  refine ⟨I.ln.trans (wipe_length σ vs), I.fz, I.fr, I.z0, I.nw, I.b0, I.wz, I.wh, fun i e h => ?_, fun i j w w' ds es a h1 h2 h3 h4 => ?_, I.tb, I.tz⟩
  · have r := I.ent i e h
    cases e with
    | no => trivial
    | im d => rw [q h (by simp)] at r; exact r
    | ls w ds => rw [q h (by simp)] at r; exact r
    | vl v => rw [q h (by simp)] at r; exact r
  · rw [← q h1 (by simp)] at h3
    rw [← q h2 (by simp)] at h4
    exact I.inj i j w w' ds es a h1 h2 h3 h4
theorem WipeE.wk : ∀ {vs : List Nat} {g g' : Gm}, WipeE g vs g' → WkE g g' ∧ NoAt g' vs
  | [], _, _, .nil => ⟨WkE.refl _, fun _ h => by simp at h⟩
  | v :: vs, g, g', .cons h s => by
    obtain ⟨w, n⟩ := h.wk
    have aux : ∀ {g g1 g2 : Gm} {i : Nat}, WkE g g1 → SetE g1 i .no g2 → WkE g g2 := by
      intro g g1 g2 i w s
      induction w generalizing i g2 with
      | nil => cases s
      | same w ih =>
        cases s with
        | z => exact .drop w
        | s s => exact .same (ih s)
      | drop w ih =>
        cases s with
        | z => exact .drop w
        | s s => exact .drop (ih s)
    refine ⟨aux w s, fun i hi => ?_⟩
    by_cases q : i = v
    · subst q; exact s.same
    · rw [s.ne q]; exact n i (by simpa [q] using hi)

/-- a target that stores only at vs -/
def AGv (K : PySem.W.Frag) (C : Ct) (vs : List Nat) (tg : TG) (x : Av) (g : Gm) (Q : Gm → Prop) : Prop := ∀ σ H Z v, Ok K C g σ H Z → AvOk K σ Z x v → ∀ Q' : St → Hp → Prop, (∀ g' σ' H' Z', Ok K C g' σ' H' Z' → Same Z Z' → (∀ i, i ∉ vs → σ'[i]? = σ[i]?) → σ'.length = σ.length → Q g' → Q' σ' H') → tg v σ H Q'
def AGsv (K : PySem.W.Frag) (C : Ct) (vs : List Nat) (tg : TGs) (ds : List PyData) (g : Gm) (Q : Gm → Prop) : Prop := ∀ σ H Z ws, Ok K C g σ H Z → DdA K Z ws ds → ∀ Q' : St → Hp → Prop, (∀ g' σ' H' Z', Ok K C g' σ' H' Z' → Same Z Z' → (∀ i, i ∉ vs → σ'[i]? = σ[i]?) → σ'.length = σ.length → Q g' → Q' σ' H') → tg ws σ H Q'
section
variable {vs : List Nat} {QG : Gm → Prop}
theorem agv_d {i : Nat} {d : PyData} (hi : i ∈ vs) (h : SetE g i (.im d) g') (q : QG g') : AGv K C vs (gName i) (.d d) g QG := fun σ H Z v I a P p =>
  p g' _ H Z (I.setD a h) (Same.refl _) (fun j hj => List.getElem?_set_ne (fun z => hj (by rw [← z]; exact hi))) (by simp) q
theorem agsv_nil (q : QG g) : AGsv K C vs gNil [] g QG := fun σ H Z ws I a P p => by
  cases a
  exact ⟨rfl, p g σ H Z I (Same.refl _) (fun _ _ => rfl) rfl q⟩
theorem agsv_cons {t : TG} {u : TGs} {d : PyData} {ds : List PyData} (h : AGv K C vs t (.d d) g fun g1 => AGsv K C vs u ds g1 QG) : AGsv K C vs (gCons t u) (d :: ds) g QG := fun σ H Z ws I a P p => by
  cases a with
  | @cons v ws _ _ a1 a2 =>
    exact ⟨v, ws, rfl, h σ H Z v I a1 _ fun g1 σ1 H1 Z1 I1 s1 f1 l1 q1 => q1 σ1 H1 Z1 ws I1 (a2.mono s1) P fun g2 σ2 H2 Z2 I2 s2 f2 l2 => p g2 σ2 H2 Z2 I2 (s1.trans s2) (fun i hi => (f2 i hi).trans (f1 i hi)) (l2.trans l1)⟩
theorem agv_tup {n : Nat} {t : TGs} {ds : List PyData} (hl : ds.length = n) (h : AGsv K C vs t ds g QG) : AGv K C vs (gTup K n t) (.d (.tuple ds)) g QG := fun σ H Z v I a P p => by
  have a' : Dd K Z v (.tuple ds) := a
  cases a' with
  | @tup q xs _ a1 a2 =>
    exact ⟨q, xs, rfl, Same.seqT I.fz a1, by rw [a2.length]; exact hl, h σ H Z xs I a2 P p⟩
end
/-- a context with the same tables -/
structure CtT (C : Ct) where
  val : Ct
  hT : val.T = C.T
/-- the list at D kept safe -/
def Ct.with (C : Ct) (D : Addr) (xs : List V) : Ct := ⟨upd C.H0 D (.lst xs), C.Z0, C.W, C.T⟩
theorem Ok.safe (I : Ok K C g σ H Z) {D : Addr} {ds : List PyData} (n : New K C g σ H Z D ds) {xs : List V} (hx : H D = some (.lst xs)) : Ok K (C.with D xs) g σ H Z := by
  have nW : D ∉ C.W := fun z => by
    have := (I.wz D z).1
    rw [n.n0] at this; cases this
  refine ⟨I.ln, I.fz, fun a o h hw ht => ?_, I.z0, fun a o h => ?_, fun a o h => ?_, fun a h => ⟨?_, (I.wz a h).2⟩, I.wh, fun i e h => ?_, I.inj, I.tb, fun p h => ⟨?_, (I.tz p h).2⟩⟩
  · by_cases z : a = D
    · subst z
      have h' : upd C.H0 a (.lst xs) a = some o := h
      rw [upd_same] at h'; cases h'; exact hx
    · have h' : upd C.H0 D (.lst xs) a = some o := h
      rw [upd_ne z] at h'; exact I.fr a o h' hw ht
  · have z : a ≠ D := fun z => by subst z; rw [n.nz] at h; cases h
    rcases I.nw a o h with q | q
    · exact .inl q
    · exact .inr (by show upd C.H0 D (.lst xs) a = none; rw [upd_ne z]; exact q)
  · have z : a ≠ D := fun z => by subst z; have := I.z0 a o h; rw [n.nz] at this; cases this
    show upd C.H0 D (.lst xs) a = some o
    rw [upd_ne z]; exact I.b0 a o h
  · have z : a ≠ D := fun z => by subst z; exact nW h
    show (upd C.H0 D (.lst xs) a).isSome = true
    rw [upd_ne z]; exact (I.wz a h).1
  · have r := I.ent i e h
    cases e with
    | no => trivial
    | im d => exact r
    | ls w ds2 =>
      obtain ⟨a, ys, f1, f2, f3, f4, f5⟩ := r
      refine ⟨a, ys, f1, f2, f3, f4, ?_⟩
      cases w with
      | none =>
        have z : a ≠ D := fun z => by subst z; exact n.no i none ds2 h f1
        show upd C.H0 D (.lst xs) a = none
        rw [upd_ne z]; exact f5
      | some k => exact f5
    | vl v => exact r
  · have z : p.1 ≠ D := fun z => by have := (I.tz p h).1; rw [z, n.n0] at this; cases this
    show (upd C.H0 D (.lst xs) p.1).isSome = true
    rw [upd_ne z]; exact (I.tz p h).1
theorem Ok.nT (I : Ok K C g σ H Z) {D : Addr} (n0 : C.H0 D = none) : D ∉ C.T.map (·.1) := fun m => by
  obtain ⟨p, hp, e⟩ := List.mem_map.mp m
  have := (I.tz p hp).1
  rw [e, n0] at this; cases this
theorem Ok.unsafe (n0 : C.H0 D = none) (nW : D ∉ C.W) (nT : D ∉ C.T.map (·.1)) (nZ : C.Z0 D = none) {xs : List V} (I : Ok K (C.with D xs) g σ H Z) : Ok K C g σ H Z ∧ H D = some (.lst xs) ∧ Z D = none ∧ ∀ (j : Nat) (w : Option Nat) (es : List PyData), g[j]? = some (Ent.ls w es) → σ[j]? ≠ some (some (V.ref D)) := by
  have hD : H D = some (.lst xs) := I.fr D _ upd_same nW nT
  have hZ : Z D = none := by
    cases q : Z D with
    | none => rfl
    | some o =>
      rcases I.nw D o q with z | z
      · have z' : C.Z0 D = some o := z
        rw [nZ] at z'; cases z'
      · have z' : upd C.H0 D (.lst xs) D = none := z
        rw [upd_same] at z'; cases z'
  have ne0 : ∀ {a : Addr}, a ≠ D → (C.with D xs).H0 a = C.H0 a := fun {a} z => upd_ne z
  refine ⟨⟨I.ln, I.fz, fun a o h hw ht => ?_, I.z0, fun a o h => ?_, fun a o h => ?_, fun a h => ⟨?_, (I.wz a h).2⟩, I.wh, fun i e h => ?_, I.inj, I.tb, fun p h => ⟨?_, (I.tz p h).2⟩⟩, hD, hZ, fun j w es e z => ?_⟩
  · have z : a ≠ D := fun z => by subst z; rw [n0] at h; cases h
    exact I.fr a o (by rw [ne0 z]; exact h) hw ht
  · rcases I.nw a o h with q | q
    · exact .inl q
    · by_cases z : a = D
      · subst z; rw [hZ] at h; cases h
      · rw [ne0 z] at q; exact .inr q
  · have q := I.b0 a o h
    by_cases z : a = D
    · subst z; rw [nZ] at h; cases h
    · rw [ne0 z] at q; exact q
  · have q := (I.wz a h).1
    by_cases z : a = D
    · subst z; exact absurd h nW
    · rw [ne0 z] at q; exact q
  · have r := I.ent i e h
    cases e with
    | no => trivial
    | im d => exact r
    | ls w ds2 =>
      obtain ⟨a, ys, f1, f2, f3, f4, f5⟩ := r
      refine ⟨a, ys, f1, f2, f3, f4, ?_⟩
      cases w with
      | none =>
        have f5' : (C.with D xs).H0 a = none := f5
        by_cases z : a = D
        · subst z
          have f6 : upd C.H0 a (.lst xs) a = none := f5'
          rw [upd_same] at f6; cases f6
        · rw [ne0 z] at f5'; exact f5'
      | some k => exact f5
    | vl v => exact r
  · have q := (I.tz p h).1
    have z : p.1 ≠ D := fun z => nT (List.mem_map.mpr ⟨p, h, z⟩)
    rw [ne0 z] at q; exact q
  · obtain ⟨a, ys, f1, f2, f3, f4, f5⟩ := I.ent j _ e
    rw [z] at f1; cases f1
    cases w with
    | none =>
      have f6 : upd C.H0 D (.lst xs) D = none := f5
      rw [upd_same] at f6; cases f6
    | some k => exact nW (List.mem_of_getElem? (show C.W[k]? = some D from f5))

/-- a comprehension; J: the turn, what is made so far -/
theorem an_lc {wi : TI} {tg : TG} {tt : TT} {te : TE} {vs : List Nat} {QL : List PyData → Gm → Prop} (h : AI K C wi g fun ds g1 => ∃ g2, WipeE g1 vs g2 ∧ ∃ J : Nat → List PyData → Gm → Prop, J 0 [] g2 ∧ (∀ i acc g', J i acc g' → NoAt g' vs) ∧
      (∀ (C' : CtT C) i d acc g', ds[i]? = some d → J i acc g' → AGv K C'.1 vs tg (.d d) g' fun g3 => AT K C'.1 tt g3 fun b g4 => BR b (AE K C'.1 te g4 fun x g5 => ∃ d' g6 g7, Frz [x] g5 [d'] g6 ∧ acc.length < 1000000 ∧ WkE g6 g7 ∧ J (i + 1) (acc ++ [d']) g7) (∃ g7, WkE g4 g7 ∧ J (i + 1) acc g7)) ∧
      (∀ acc g', J ds.length acc g' → QL acc g')) : AN K C (tLc wi tg tt te vs) g QL := fun σ H Z I P p =>
  h σ H Z I _ fun J H1 Z1 ds g1 I1 s1 w q => by
    obtain ⟨g2, hw, W, j0, jn, js, je⟩ := q
    obtain ⟨G, Y, wk, wg, wy⟩ := w.ex
    obtain ⟨w1, w2⟩ := hw.wk
    have I2 : Ok K C g2 σ H1 Z1 := I1.weak w1
    intro D hD
    obtain ⟨n1, n2, n3⟩ := I2.new hD
    have nW : D ∉ C.W := fun z => by
      have := I2.wh D z
      rw [hD] at this; cases this
    have nZ0 : C.Z0 D = none := by
      cases q : C.Z0 D with
      | none => rfl
      | some o => have := I2.b0 D o q; rw [n2] at this; cases this
    -- the state between the turns
    refine lc_it wk (vs := vs) (σ := σ) (fun i H => ∃ g' Z' acc, Ok K C g' (L2.wipe σ vs) H Z' ∧ Same Z1 Z' ∧ New K C g' (L2.wipe σ vs) H Z' D acc ∧ W i acc g') ?_ (fun i H _ ⟨g', Z', acc, I', s', _⟩ => wg C g' _ H Z' I' s') ?_ ?_
    · have I3 : Ok K C g2 σ (upd H1 D (.lst [])) Z1 := I2.newO hD
      refine ⟨g2, Z1, [], I3.wipe w2, Same.refl _, ⟨⟨[], upd_same, .nil⟩, n1, n2, fun j w es e z => ?_⟩, j0⟩
      have hj : j ∉ vs := fun hm => by rw [w2 j hm] at e; cases e
      rw [wipe_get hj] at z
      exact n3 j w es e z
    · rintro i x H2 H3 hi ⟨g3, Z3, acc, I3, s3, nw, j3⟩ y
      have e : ds[i]? = some ds[i] := List.getElem?_eq_getElem hi
      obtain ⟨xs, x1, x2⟩ := nw.at_
      have Is := I3.safe nw x1
      -- the walk's step keeps the list too
      obtain ⟨Z4, I4, s4, a4⟩ := wy (C.with D xs) i H2 x H3 g3 _ Z3 _ Is s3 e y
      refine js ⟨C.with D xs, rfl⟩ i _ acc g3 e j3 _ H3 Z4 x I4 a4 _ fun g5 σ5 H5 Z5 I5 s5 f5 l5 q5 => ?_
      have hwp : L2.wipe σ5 vs = L2.wipe σ vs := by
        apply List.ext_getElem?
        intro k
        by_cases hk : k ∈ vs
        · have aux : ∀ (τ : St) (l : List Nat), k ∈ l → (L2.wipe τ l)[k]? = (if k < τ.length then some none else none) := by
            intro τ l
            induction l with
            | nil => intro h; simp at h
            | cons a l ih =>
              intro h
              unfold L2.wipe
              by_cases ka : a = k
              · subst ka
                by_cases kl : a < τ.length
                · rw [List.getElem?_set_self (by rw [wipe_length]; exact kl), if_pos kl]
                · rw [if_neg kl, List.getElem?_eq_none (by simp [wipe_length]; omega)]
              · rw [List.getElem?_set_ne ka]
                exact ih (by simpa [Ne.symm ka] using h)
          rw [aux _ _ hk, aux _ _ hk, l5, wipe_length]
        · rw [wipe_get hk, wipe_get hk, f5 k hk, wipe_get hk]
      refine ⟨hwp, q5 σ5 H5 Z5 I5 _ fun b H6 Z6 g6 I6 s6 q6 => ?_⟩
      cases b with
      | true =>
        refine q6.1 rfl σ5 H6 Z6 I6 _ fun v H7 Z7 x7 g7 I7 s7 a7 q7 => ?_
        obtain ⟨d', g8, g9, fz, hl, wk9, j9⟩ := q7
        obtain ⟨Z8, I8, s8, r8⟩ := fz.run I7 (.cons a7 .nil)
        cases r8 with
        | @cons _ _ _ _ r9 r10 =>
          cases r10
          obtain ⟨I9, e1, e2, e3⟩ := I8.unsafe n2 nW (I2.nT n2) nZ0
          have s38 : Same Z3 Z8 := (((s4.trans s5).trans s6).trans s7).trans s8
          have I10 : Ok K C g9 (L2.wipe σ vs) H7 Z8 := by rw [← hwp]; exact (I9.weak wk9).wipe (jn _ _ _ j9)
          refine ⟨xs, e1, by rw [x2.length]; exact Nat.lt_of_lt_of_le hl (by decide), g9, Z8, acc ++ [d'], ?_, s3.trans s38, ⟨⟨xs ++ [v], upd_same, (x2.mono s38).append (.cons r9 .nil)⟩, e2, n2, fun j w es e z => ?_⟩, j9⟩
          · -- the list at D is changed: nobody holds it
            refine ⟨I10.ln, fun a o q => ?_, fun a o q hw ht => ?_, I10.z0, I10.nw, I10.b0, I10.wz, fun a q => ?_, fun k en q => ?_, I10.inj, Tabs.keep I10.tb (fun a o q n => ?_), I10.tz⟩
            · rw [upd_ne (ne_of_none q e2)]; exact I10.fz a o q
            · rw [upd_ne (ne_of_none q n2)]; exact I10.fr a o q hw ht
            · rw [upd_ne (fun z => nW (by rw [← z]; exact q))]; exact I10.wh a q
            · have r := I10.ent k en q
              cases en with
              | no => trivial
              | im d => exact r
              | ls w ds2 =>
                obtain ⟨a, ys, f1, f2, f3, f4, f5'⟩ := r
                have ne : a ≠ D := fun z => by
                  subst z
                  have hk : k ∉ vs := fun hm => by rw [jn _ _ _ j9 k hm] at q; cases q
                  rw [← hwp, wipe_get hk] at f1
                  rcases wk9.get q with zz | zz
                  · cases zz
                  · exact e3 k w ds2 zz f1
                exact ⟨a, ys, f1, by rw [upd_ne ne]; exact f2, f3, f4, f5'⟩
              | vl v => exact r
            · rw [upd_ne (fun z => by subst z; rw [e1] at q; cases q; exact n _ rfl)]; exact q
          · have hk : j ∉ vs := fun hm => by rw [jn _ _ _ j9 j hm] at e; cases e
            rw [← hwp, wipe_get hk] at z
            rcases wk9.get e with zz | zz
            · cases zz
            · exact e3 j w es zz z
      | false =>
        obtain ⟨g9, wk9, j9⟩ := q6.2 rfl
        obtain ⟨I9, e1, e2, e3⟩ := I6.unsafe n2 nW (I2.nT n2) nZ0
        have s38 : Same Z3 Z6 := (s4.trans s5).trans s6
        have I10 : Ok K C g9 (L2.wipe σ vs) H6 Z6 := by rw [← hwp]; exact (I9.weak wk9).wipe (jn _ _ _ j9)
        refine ⟨g9, Z6, acc, I10, s3.trans s38, ⟨⟨xs, e1, x2.mono s38⟩, e2, n2, fun j w es e z => ?_⟩, j9⟩
        have hk : j ∉ vs := fun hm => by rw [jn _ _ _ j9 j hm] at e; cases e
        rw [← hwp, wipe_get hk] at z
        rcases wk9.get e with zz | zz
        · cases zz
        · exact e3 j w es zz z
    · rintro H2 ⟨g3, Z3, acc, I3, s3, nw, j3⟩
      refine p D H2 Z3 acc g3 (I3.unwipe (jn _ _ _ j3)) (s1.trans s3) ⟨nw.at_, nw.nz, nw.n0, fun j w es e z => ?_⟩ (je acc g3 j3)
      have hj : j ∉ vs := fun hm => by rw [jn _ _ _ j3 j hm] at e; cases e
      exact nw.no j w es e (by rw [wipe_get hj]; exact z)
end
end AL
/-! The layer's rules over the text: what is walked, comprehensions, targets, statements. -/
namespace AL
open PySem PySem.Spec L2

section
variable {X : Cx} {C : Ct} {g g' : Gm} {e a b c o tg iter elt : Expr} {es ifs : List Expr} {pos p apos p' : Pos} {Q : Av → Gm → Prop} {QT : Bool → Gm → Prop} {QL : List PyData → Gm → Prop} {QI : List PyData → Gm → Prop} {QG : Gm → Prop} {x : Str}
/-! ### what is walked -/
theorem ei_list (h : EE X C iter g fun x g1 => ∃ xs g2, Frz [x] g1 [.list xs] g2 ∧ QI xs g2) : EI X C tg iter g QI := EI.of (pi_list pe_t) (ai_list h)
theorem ei_tup (h : EE X C iter g fun x g1 => ∃ xs, x = .d (.tuple xs) ∧ QI xs g1) : EI X C tg iter g QI := EI.of (pi_tup pe_t) (ai_tup h)
theorem ei_range1 (n : Bn X "range") (h : EE X C a g fun x g1 => ∃ j, x = .d (.int j) ∧ -(2 ^ 62) ≤ j ∧ j < 2 ^ 62 ∧ QI (rangeD 0 j.toNat) g1) (he : starEach [a] X.env = (false, eval a X.env) :: starEach [] X.env := by rfl) (hs : starEach [a] X.env = [(false, eval a X.env)] := by rfl) : EI X C tg (.Call (.Name "range" p) [a] [] pos) g QI :=
  EI.of (pi_range1 n.gl n.mg pa_t hs) (ai_range1 (ea_cons (h.mono fun x g1 ⟨j, e1, h1, h2, q⟩ => ea_nil ⟨j, by rw [e1], h1, h2, q⟩) he))
theorem ei_range2 (n : Bn X "range") (h : EE X C a g fun x g1 => EE X C b g1 fun y g2 => ∃ i j, x = .d (.int i) ∧ y = .d (.int j) ∧ (-(2 ^ 62) ≤ i ∧ i < 2 ^ 62 ∧ -(2 ^ 62) ≤ j ∧ j < 2 ^ 62) ∧ QI (rangeD i (j - i).toNat) g2) (he : starEach [a, b] X.env = (false, eval a X.env) :: starEach [b] X.env := by rfl) (he2 : starEach [b] X.env = (false, eval b X.env) :: starEach [] X.env := by rfl)
    (hs : starEach [a, b] X.env = [(false, eval a X.env), (false, eval b X.env)] := by rfl) (hs2 : starEach [b] X.env = [(false, eval b X.env)] := by rfl) : EI X C tg (.Call (.Name "range" p) [a, b] [] pos) g QI :=
  EI.of (pi_range2 n.gl n.mg pa_t hs hs2) (ai_range2 (ea_cons (h.mono fun x g1 h1 => ea_cons (h1.mono fun y g2 ⟨i, j, e1, e2, h3, q⟩ => ea_nil ⟨i, j, by rw [e1, e2], h3, q⟩) he2) he))
theorem wk_enumL {K : PySem.W.Frag} {Z1 : Hp} {ad : Addr} {xs : List V} {ds : List PyData} (e1 : Z1 ad = some (.lst xs)) (e2 : DdA K Z1 xs ds) : Wk K Z1 (Ite K ad) (enumD ds) := by
  refine ⟨fun H => SqL K H ad xs, YPair (fun i => some (.int (i : Nat))) (fun i => xs[i]?), ?_, fun _ g σ H Z I s => SqL.of (I.fz _ _ (s _ _ e1)), fun _ i H x H' g σ Z d I s e y => ?_⟩
  · rw [enumD_len, ← e2.length]; exact walk_enum
  · obtain ⟨T, u, v, rfl, hT, rfl, h1, h2⟩ := y
    cases h1
    obtain ⟨d', k1, k2⟩ := (e2.mono s).getV h2
    obtain ⟨d'', k3, rfl⟩ := enumD_get e
    rw [k1] at k3; cases k3
    obtain ⟨I2, s2, _⟩ := I.newF (o := .tup [.int (i : Nat), v]) hT
    exact ⟨_, I2, s2, .tup (SqT.of upd_same) (.cons (.int _) (.cons (k2.mono s2) .nil))⟩
theorem wk_enumT {K : PySem.W.Frag} {Z1 : Hp} {ad : Addr} {xs : List V} {ds : List PyData} (e1 : SqT K Z1 ad xs) (e2 : DdA K Z1 xs ds) : Wk K Z1 (IteT K ad) (enumD ds) := by
  refine ⟨fun H => SqT K H ad xs, YPair (fun i => some (.int (i : Nat))) (fun i => xs[i]?), ?_, fun _ g σ H Z I s => Same.seqT I.fz (Same.seqT s e1), fun _ i H x H' g σ Z d I s e y => ?_⟩
  · rw [enumD_len, ← e2.length]
    refine ⟨fun i _ hi q => ⟨xs, xs[i], q, by simp [hi]⟩, fun _ q => ⟨xs, q, Nat.le_refl _⟩, fun i H v H' _ q y => ?_⟩
    obtain ⟨T, x, h1, h2, h3, h4⟩ := y
    exact ⟨T, .int (i : Nat), x, h1, h2, h3, rfl, h4 xs q⟩
  · obtain ⟨T, u, v, rfl, hT, rfl, h1, h2⟩ := y
    cases h1
    obtain ⟨d', k1, k2⟩ := (e2.mono s).getV h2
    obtain ⟨d'', k3, rfl⟩ := enumD_get e
    rw [k1] at k3; cases k3
    obtain ⟨I2, s2, _⟩ := I.newF (o := .tup [.int (i : Nat), v]) hT
    exact ⟨_, I2, s2, .tup (SqT.of upd_same) (.cons (.int _) (.cons (k2.mono s2) .nil))⟩
theorem ei_enum {elts : List Expr} {kk : Nat} {tpos : Pos} (n : Bn X "enumerate") (h : EE X C a g fun x g1 => ∃ ds g2, ((∃ es, Frz [x] g1 [.list ds] g2 ∧ es = ds) ∨ (x = .d (.tuple ds) ∧ g2 = g1)) ∧ QI (enumD ds) g2) (he : starEach [a] X.env = (false, eval a X.env) :: starEach [] X.env := by rfl) (hs : starEach [a] X.env = [(false, eval a X.env)] := by rfl) : EI X C (.Tuple elts kk tpos) (.Call (.Name "enumerate" p) [a] [] pos) g QI :=
  EI.of (pi_enumA n.gl n.mg pa_t hs) fun σ H Z I R p =>
    (show EA X C [a] g (fun xs g1 => ∃ x ds g2, xs = [x] ∧ ((∃ es, Frz [x] g1 [.list ds] g2 ∧ es = ds) ∨ (x = .d (.tuple ds) ∧ g2 = g1)) ∧ QI (enumD ds) g2) from ea_cons (h.mono fun x g1 ⟨ds, g2, q⟩ => ea_nil ⟨x, ds, g2, rfl, q⟩) he) σ H Z I _ fun vs H1 Z1 xs g1 I1 s1 a1 q1 => by
      obtain ⟨x, ds, g2, rfl, hx, q⟩ := q1
      cases a1 with
      | @cons _ v _ _ a1 a2 =>
        cases a2
        rcases hx with ⟨_, f, _⟩ | ⟨rfl, rfl⟩
        · obtain ⟨Z2, I2, s2, r2⟩ := f.run I1 (.cons a1 .nil)
          cases r2 with
          | cons r3 _ =>
            cases r3 with
            | @lst ad xs _ e1 e2 => exact ⟨ad, xs, rfl, .inl ⟨SqL.of (I2.fz _ _ e1), p _ H1 Z2 _ g2 I2 (s1.trans s2) (wk_enumL e1 e2) q⟩⟩
        · have a' : Dd X.K Z1 v (.tuple ds) := a1
          cases a' with
          | @tup ad xs _ e1 e2 => exact ⟨ad, xs, rfl, .inr ⟨Same.seqT I1.fz e1, p _ H1 Z1 _ g2 I1 s1 (wk_enumT e1 e2) q⟩⟩

/-! ### targets -/
theorem eg_d {i : Nat} {d : PyData} (l : Lc X i x) (h : SetE g i (.im d) g') (q : QG g') : EG X C (.Name x pos) (.d d) g QG := EG.of (pg_name l.nd l.hN l.loc l.fn) (ag_d h q)
theorem eg_v {i : Nat} {v : V} (l : Lc X i x) (h : SetE g i (.vl v) g') (q : QG g') : EG X C (.Name x pos) (.v v) g QG := EG.of (pg_name l.nd l.hN l.loc l.fn) (ag_v h q)
theorem eg_o {i j : Nat} {ds : List PyData} {g1 : Gm} (l : Lc X i x) (hj : g[j]? = some (.ls none ds)) (hf : SetE g j (.im (.list ds)) g1) (h : SetE g1 i (.im (.list ds)) g') (q : QG g') : EG X C (.Name x pos) (.o j) g QG := EG.of (pg_name l.nd l.hN l.loc l.fn) fun σ H Z v I a P p => by
  obtain ⟨Z1, I1, s1, d1⟩ := I.frz hj a hf
  exact p g' _ H Z1 (I1.setD d1 h) s1 q
theorem egs_nil (q : QG g) : EGs X C [] [] g QG := EGs.of pgs_nil (ags_nil q)
theorem egs_cons {d : PyData} {ds : List PyData} (h : EG X C e (.d d) g fun g1 => EGs X C es ds g1 QG) (hs : (assignEach (e :: es) X.env).map (·.2) = assign e X.env :: (assignEach es X.env).map (·.2) := by rfl) : EGs X C (e :: es) (d :: ds) g QG := EGs.of (pgs_cons pg_t pgs_t hs) (ags_cons h)
theorem eg_tup {k n : Nat} {ds : List PyData} (hc : X.calm = true) (hl : ds.length = n) (h : EGs X C es ds g QG) (hn : (assignEach es X.env).length = n := by rfl) (hst : (assignEach es X.env).findIdx? (·.1) = none := by rfl) : EG X C (.Tuple es k pos) (.d (.tuple ds)) g QG := EG.of (pg_tup hc pgs_t hn hst) (ag_tup hl h)
/-- the same in a comprehension -/
def EGv (X : Cx) (C : Ct) (vs : List Nat) (tg : Expr) (x : Av) (g : Gm) (Q : Gm → Prop) : Prop := AGv X.K C vs (tG X tg) x g Q
def EGsv (X : Cx) (C : Ct) (vs : List Nat) (tgs : List Expr) (ds : List PyData) (g : Gm) (Q : Gm → Prop) : Prop := AGsv X.K C vs (tGs X tgs) ds g Q
theorem EGv.of {vs : List Nat} {t : TG} {x : Av} (h : PG X tg t) (a : AGv X.K C vs t x g QG) : EGv X C vs tg x g QG := fun σ H Z v I r P p pins s u J q => h.run pins s σ H v u P J q (a σ H Z v I r P p)
theorem EGsv.of {vs : List Nat} {tgs : List Expr} {t : TGs} {ds : List PyData} (h : PGs X tgs t) (a : AGsv X.K C vs t ds g QG) : EGsv X C vs tgs ds g QG := fun σ H Z ws I r P p pins s us J q => h.run pins s σ H ws us P J q (a σ H Z ws I r P p)
theorem egv_d {vs : List Nat} {i : Nat} {d : PyData} (l : Lc X i x) (hi : i ∈ vs) (h : SetE g i (.im d) g') (q : QG g') : EGv X C vs (.Name x pos) (.d d) g QG := EGv.of (pg_name l.nd l.hN l.loc l.fn) (agv_d hi h q)
theorem egsv_nil {vs : List Nat} (q : QG g) : EGsv X C vs [] [] g QG := EGsv.of pgs_nil (agsv_nil q)
theorem egsv_cons {vs : List Nat} {d : PyData} {ds : List PyData} (h : EGv X C vs e (.d d) g fun g1 => EGsv X C vs es ds g1 QG) (hs : (assignEach (e :: es) X.env).map (·.2) = assign e X.env :: (assignEach es X.env).map (·.2) := by rfl) : EGsv X C vs (e :: es) (d :: ds) g QG := EGsv.of (pgs_cons pg_t pgs_t hs) (agsv_cons h)
theorem egv_tup {vs : List Nat} {k n : Nat} {ds : List PyData} (hc : X.calm = true) (hl : ds.length = n) (h : EGsv X C vs es ds g QG) (hn : (assignEach es X.env).length = n := by rfl) (hst : (assignEach es X.env).findIdx? (·.1) = none := by rfl) : EGv X C vs (.Tuple es k pos) (.d (.tuple ds)) g QG := EGv.of (pg_tup hc pgs_t hn hst) (agv_tup hl h)

/-! ### comprehensions -/
def uE (X : Cx) (sc : Scope) (e : Expr) : TE := fun σ H Q => ∀ s H' Cm cl fp, tE (bk X sc s H' Cm cl fp) e σ H Q
def uT (X : Cx) (sc : Scope) (es : List Expr) : TT := fun σ H Q => ∀ s H' Cm cl fp, tTs (bk X sc s H' Cm cl fp) es σ H Q
def uG (X : Cx) (sc : Scope) (tg : Expr) : TG := fun v σ H Q => ∀ s H' Cm cl fp, tG (bk X sc s H' Cm cl fp) tg v σ H Q
/-- in every block of the comprehension -/
def Bk (X : Cx) (sc : Scope) (φ : Cx → Prop) : Prop := ∀ s H Cm cl fp, φ (bk X sc s H Cm cl fp)
/-- one turn of a comprehension -/
def Turns (X : Cx) (sc : Scope) (C : Ct) (vs : List Nat) (tg : Expr) (ifs : List Expr) (elt : Expr) (d : PyData) (g : Gm) (yes : PyData → Gm → Prop) (no : Gm → Prop) : Prop :=
  Bk X sc fun X1 => EGv X1 C vs tg (.d d) g fun g3 => Bk X sc fun X2 => ETs X2 C ifs g3 fun b g4 => BR b (Bk X sc fun X3 => EE X3 C elt g4 fun x g5 => ∃ d' g6, Frz [x] g5 [d'] g6 ∧ yes d' g6) (no g4)
theorem tl_lc {scope : Scope} {vs : List Nat} (h : EI X C tg iter g fun ds g1 => ∃ g2, WipeE g1 vs g2 ∧ ∃ J : Nat → List PyData → Gm → Prop, J 0 [] g2 ∧ (∀ i acc g', J i acc g' → NoAt g' vs) ∧
      (∀ (C' : CtT C) i d acc g', ds[i]? = some d → J i acc g' → Turns X scope C'.1 vs tg ifs elt d g' (fun d' g6 => ∃ g7, acc.length < 1000000 ∧ WkE g6 g7 ∧ J (i + 1) (acc ++ [d']) g7) (fun g4 => ∃ g7, WkE g4 g7 ∧ J (i + 1) acc g7)) ∧
      (∀ acc g', J ds.length acc g' → QL acc g')) : AN X.K C (tLc (tI X tg iter) (uG X scope tg) (uT X scope ifs) (uE X scope elt) vs) g QL := by
  refine an_lc fun σ H Z I R p => h σ H Z I R fun J H' Z' ds g' I' s' w ⟨g2, h1, J', h2, h3, h4, h5⟩ => p J H' Z' ds g' I' s' w ⟨g2, h1, J', h2, h3, fun C' i d acc g3 e j => ?_, h5⟩
  have t := h4 C' i d acc g3 e j
  intro σ1 H1 Z1 v I1 a1 Q' q' s H2 Cm cl fp
  refine t s H2 Cm cl fp σ1 H1 Z1 v I1 a1 Q' fun g4 σ4 H4 Z4 I4 s4 f4 l4 q4 => q' g4 σ4 H4 Z4 I4 s4 f4 l4 ?_
  intro σ5 H5 Z5 I5 Q5 p5 s H2 Cm cl fp
  refine q4 s H2 Cm cl fp σ5 H5 Z5 I5 Q5 fun b H6 Z6 g6 I6 s6 q6 => p5 b H6 Z6 g6 I6 s6 ⟨fun hb => ?_, fun hb => q6.2 hb⟩
  intro σ7 H7 Z7 I7 Q7 p7 s H2 Cm cl fp
  refine q6.1 hb s H2 Cm cl fp σ7 H7 Z7 I7 Q7 fun v H8 Z8 x g8 I8 s8 a8 q8 => p7 v H8 Z8 x g8 I8 s8 a8 ?_
  obtain ⟨d', g9, f, g10, hl, wk, hj⟩ := q8
  exact ⟨d', g9, g10, f, hl, wk, hj⟩
theorem en_lc {N : List Str} {sc scope : Scope} {k : Nat} (F : CxF X N sc k) (own : List (Str × Nat)) (ok : blkC N sc scope own = true) (h : EI X C tg iter g fun ds g1 => ∃ g2, WipeE g1 (own.map (·.2)) g2 ∧ ∃ J : Nat → List PyData → Gm → Prop, J 0 [] g2 ∧ (∀ i acc g', J i acc g' → NoAt g' (own.map (·.2))) ∧
      (∀ (C' : CtT C) i d acc g', ds[i]? = some d → J i acc g' → Turns X scope C'.1 (own.map (·.2)) tg ifs elt d g' (fun d' g6 => ∃ g7, acc.length < 1000000 ∧ WkE g6 g7 ∧ J (i + 1) (acc ++ [d']) g7) (fun g4 => ∃ g7, WkE g4 g7 ∧ J (i + 1) acc g7)) ∧
      (∀ acc g', J ds.length acc g' → QL acc g')) (hs : ∀ x, foldedSetIterable iter X.env x = pure x := by intro _; rfl) : EN X C (.ListComp elt [⟨tg, iter, ifs, 0⟩] scope pos) g QL :=
  EN.of (pe_lc F.calm (by rw [F.hN]; exact F.nd) pi_t (F.ok ok) (g := uG X scope tg) (tt := uT X scope ifs) (te := uE X scope elt) (fun s H Cm cl fp => ⟨fun pins s1 σ H1 v u Q I r h => h s H Cm cl fp pins s1 u I r⟩) (fun s H Cm cl fp => ⟨fun pins s1 σ H1 Q I h => h s H Cm cl fp pins s1 I⟩) (fun s H Cm cl fp => ⟨fun pins s1 σ H1 Q I h => h s H Cm cl fp pins s1 I⟩) hs) (tl_lc h)
/-- turns that leave the slots as they are: the i-th item gives the i-th of rs -/
theorem lcMap {vs : List Nat} {scope : Scope} {QL : List PyData → Gm → Prop} {ds rs : List PyData} {g1 g2 : Gm} (hw : WipeE g1 vs g2) (hl : rs.length = ds.length) (hz : ds.length ≤ 1000000)
    (h : ∀ (C' : CtT C) (i : Nat) (d : PyData), ds[i]? = some d → Turns X scope C'.1 vs tg ifs elt d g2 (fun d' g6 => rs[i]? = some d' ∧ WkE g6 g2) (fun _ => False)) (q : QL rs g2) :
    ∃ g2, WipeE g1 vs g2 ∧ ∃ J : Nat → List PyData → Gm → Prop, J 0 [] g2 ∧ (∀ i acc g', J i acc g' → NoAt g' vs) ∧
      (∀ (C' : CtT C) i d acc g', ds[i]? = some d → J i acc g' → Turns X scope C'.1 vs tg ifs elt d g' (fun d' g6 => ∃ g7, acc.length < 1000000 ∧ WkE g6 g7 ∧ J (i + 1) (acc ++ [d']) g7) (fun g4 => ∃ g7, WkE g4 g7 ∧ J (i + 1) acc g7)) ∧
      (∀ acc g', J ds.length acc g' → QL acc g') := by
  refine ⟨g2, hw, fun i acc g' => g' = g2 ∧ acc = rs.take i ∧ i ≤ ds.length, ⟨rfl, by simp, Nat.zero_le _⟩, fun i acc g' ⟨e, _⟩ => by rw [e]; exact hw.wk.2, ?_, fun acc g' ⟨e1, e2, _⟩ => by rw [e1, e2, ← hl, List.take_length]; exact q⟩
  rintro C' i d acc g' e ⟨rfl, rfl, hi⟩ s H Cm cl fp σ1 H1 Z1 v I1 a1 Q' q'
  have hi' : i < ds.length := (List.getElem?_eq_some_iff.mp e).1
  refine h C' i d e s H Cm cl fp σ1 H1 Z1 v I1 a1 Q' fun g4 σ4 H4 Z4 I4 s4 f4 l4 q4 => q' g4 σ4 H4 Z4 I4 s4 f4 l4 ?_
  intro s H Cm cl fp σ5 H5 Z5 I5 Q5 p5
  refine q4 s H Cm cl fp σ5 H5 Z5 I5 Q5 fun b H6 Z6 g6 I6 s6 q6 => p5 b H6 Z6 g6 I6 s6 ⟨fun hb => ?_, fun hb => (q6.2 hb).elim⟩
  intro s H Cm cl fp σ7 H7 Z7 I7 Q7 p7
  refine q6.1 hb s H Cm cl fp σ7 H7 Z7 I7 Q7 fun v H8 Z8 x g8 I8 s8 a8 q8 => p7 v H8 Z8 x g8 I8 s8 a8 ?_
  obtain ⟨d', g9, f, er, wk⟩ := q8
  refine ⟨d', g9, f, _, by rw [List.length_take]; omega, wk, rfl, ?_, hi'⟩
  have hr := List.getElem?_eq_some_iff.mp er
  obtain ⟨hr1, hr2⟩ := hr
  rw [← hr2]; exact List.take_append_getElem hr1
/-- .. with a test: sel tells what the i-th item gives -/
theorem lcSel {vs : List Nat} {scope : Scope} {ds : List PyData} {g1 g2 : Gm} (sel : Nat → Option PyData) (hw : WipeE g1 vs g2) (hz : ds.length ≤ 1000000)
    (h : ∀ (C' : CtT C) (i : Nat) (d : PyData), ds[i]? = some d → Turns X scope C'.1 vs tg ifs elt d g2 (fun d' g6 => sel i = some d' ∧ WkE g6 g2) (fun g4 => sel i = none ∧ WkE g4 g2)) (q : QL ((List.range ds.length).filterMap sel) g2) :
    ∃ g2, WipeE g1 vs g2 ∧ ∃ J : Nat → List PyData → Gm → Prop, J 0 [] g2 ∧ (∀ i acc g', J i acc g' → NoAt g' vs) ∧
      (∀ (C' : CtT C) i d acc g', ds[i]? = some d → J i acc g' → Turns X scope C'.1 vs tg ifs elt d g' (fun d' g6 => ∃ g7, acc.length < 1000000 ∧ WkE g6 g7 ∧ J (i + 1) (acc ++ [d']) g7) (fun g4 => ∃ g7, WkE g4 g7 ∧ J (i + 1) acc g7)) ∧
      (∀ acc g', J ds.length acc g' → QL acc g') := by
  refine ⟨g2, hw, fun i acc g' => g' = g2 ∧ acc = (List.range i).filterMap sel ∧ i ≤ ds.length, ⟨rfl, by simp, Nat.zero_le _⟩, fun i acc g' ⟨e, _⟩ => by rw [e]; exact hw.wk.2, ?_, fun acc g' ⟨e1, e2, _⟩ => by rw [e1, e2]; exact q⟩
  rintro C' i d acc g' e ⟨rfl, rfl, hi⟩ s H Cm cl fp σ1 H1 Z1 v I1 a1 Q' q'
  have hi' : i < ds.length := (List.getElem?_eq_some_iff.mp e).1
  refine h C' i d e s H Cm cl fp σ1 H1 Z1 v I1 a1 Q' fun g4 σ4 H4 Z4 I4 s4 f4 l4 q4 => q' g4 σ4 H4 Z4 I4 s4 f4 l4 ?_
  intro s H Cm cl fp σ5 H5 Z5 I5 Q5 p5
  refine q4 s H Cm cl fp σ5 H5 Z5 I5 Q5 fun b H6 Z6 g6 I6 s6 q6 => p5 b H6 Z6 g6 I6 s6 ⟨fun hb => ?_, fun hb => ?_⟩
  · intro s H Cm cl fp σ7 H7 Z7 I7 Q7 p7
    refine q6.1 hb s H Cm cl fp σ7 H7 Z7 I7 Q7 fun v H8 Z8 x g8 I8 s8 a8 q8 => p7 v H8 Z8 x g8 I8 s8 a8 ?_
    obtain ⟨d', g9, f, er, wk⟩ := q8
    refine ⟨d', g9, f, _, ?_, wk, rfl, ?_, hi'⟩
    · have := List.length_filterMap_le sel (List.range i)
      simp at this
      omega
    · rw [List.range_succ, List.filterMap_append]
      simp [er]
  · obtain ⟨er, wk⟩ := q6.2 hb
    refine ⟨_, wk, rfl, ?_, hi'⟩
    rw [List.range_succ, List.filterMap_append]
    simp [er]

/-! ### statements -/
variable {D : Ae} {st : Stmt} {sts body body2 : List Stmt}
theorem ess_nil (q : D.nx g) : ESs X C [] g D := ESs.of pss_nil (as_next q)
theorem ess_cons (h : ES X C st g { D with nx := fun g' => ESs X C sts g' D }) : ESs X C (st :: sts) g D := ESs.of (pss_cons ps_t pss_t) (as_seq h)
theorem ess_one (h : ES X C st g D) : ESs X C [st] g D := ESs.of (pss_one ps_t) h
theorem es_ret (h : EE X C e g D.rt) : ES X C (.Return (some e) pos) g D := ES.of (ps_ret pe_t) (as_ret h)
theorem es_retL (h : EN X C e g D.rn) : ES X C (.Return (some e) pos) g D := ES.of (ps_ret pe_t) (as_retL h)
theorem es_pass (h : D.nx g) : ES X C (.Pass pos) g D := ES.of ps_pass (as_next h)
theorem es_if (h : ET X C c g fun b g1 => BR b (ESs X C body g1 D) (ESs X C body2 g1 D)) : ES X C (.If c body body2 pos) g D := ES.of (ps_if pt_t pss_t pss_t) (as_if h)
theorem es_expr (h : EE X C e g fun _ g' => D.nx g') (hs : swapsWith e none pos.line X.env = pure false := by rfl) : ES X C (.Expr e pos) g D := ES.of (ps_expr pe_t hs) (as_drop h)
theorem es_set {i : Nat} (l : Lc X i x) (h : EE X C e g fun y g1 => AG X.K C (gName i) y g1 D.nx) (hs : swapsWith e (some (.Name x p')) pos.line X.env = pure false := by rfl) : ES X C (.Assign [.Name x p'] e pos) g D := ES.of (ps_set l.nd l.hN l.loc pe_t hs l.fn) (as_asg h)
/-- a slot takes a new list of its own -/
theorem es_setN {i : Nat} (l : Lc X i x) (h : EN X C e g fun ds g1 => ∃ g2, SetE g1 i (.ls none ds) g2 ∧ D.nx g2) (hs : swapsWith e (some (.Name x p')) pos.line X.env = pure false := by rfl) : ES X C (.Assign [.Name x p'] e pos) g D := ES.of (ps_set l.nd l.hN l.loc pe_t hs l.fn) (as_asgN h)
theorem ag_o {i j : Nat} {ds : List PyData} {g1 : Gm} (hj : g[j]? = some (.ls none ds)) (hf : SetE g j (.im (.list ds)) g1) (h : SetE g1 i (.im (.list ds)) g') (q : QG g') : AG X.K C (gName i) (.o j) g QG := fun σ H Z v I a P p => by
  obtain ⟨Z1, I1, s1, d1⟩ := I.frz hj a hf
  exact p g' _ H Z1 (I1.setD d1 h) s1 q
/-- name = a comprehension -/
theorem es_lcN {N : List Str} {sc scope : Scope} {k i : Nat} (F : CxF X N sc k) (own : List (Str × Nat)) (ok : blkC N sc scope own = true) (hy : (decide (N[i]? = some x) && locB sc x) = true) (h : EI X C tg iter g fun ds g1 => ∃ g2, WipeE g1 (own.map (·.2)) g2 ∧ ∃ J : Nat → List PyData → Gm → Prop, J 0 [] g2 ∧ (∀ i acc g', J i acc g' → NoAt g' (own.map (·.2))) ∧
      (∀ (C' : CtT C) i d acc g', ds[i]? = some d → J i acc g' → Turns X scope C'.1 (own.map (·.2)) tg ifs elt d g' (fun d' g6 => ∃ g7, acc.length < 1000000 ∧ WkE g6 g7 ∧ J (i + 1) (acc ++ [d']) g7) (fun g4 => ∃ g7, WkE g4 g7 ∧ J (i + 1) acc g7)) ∧
      (∀ acc g', J ds.length acc g' → ∃ g2, SetE g' i (.ls none acc) g2 ∧ D.nx g2)) (hsw : swapsWith (.ListComp elt [⟨tg, iter, ifs, 0⟩] scope pos) (some (.Name x p')) p.line X.env = pure true) (hs : ∀ x, foldedSetIterable iter X.env x = pure x := by intro _; rfl) : ES X C (.Assign [.Name x p'] (.ListComp elt [⟨tg, iter, ifs, 0⟩] scope pos) p) g D := by
  simp only [Bool.and_eq_true, decide_eq_true_eq] at hy
  exact ES.of (ps_setLc F.calm (by rw [F.hN]; exact F.nd) (by rw [F.hN]; exact hy.1) (by rw [F.hsc]; exact locB_ok hy.2) hsw pi_t (F.ok ok) (g := uG X scope tg) (tt := uT X scope ifs) (te := uE X scope elt) (fun s H Cm cl fp => ⟨fun pins s1 σ H1 v u Q I r h => h s H Cm cl fp pins s1 u I r⟩) (fun s H Cm cl fp => ⟨fun pins s1 σ H1 Q I h => h s H Cm cl fp pins s1 I⟩) (fun s H Cm cl fp => ⟨fun pins s1 σ H1 Q I h => h s H Cm cl fp pins s1 I⟩) hs) (as_asgN (tl_lc h))
theorem es_lc {N : List Str} {sc scope : Scope} {k i : Nat} (F : CxF X N sc k) (own : List (Str × Nat)) (ok : blkC N sc scope own = true) (hy : (decide (N[i]? = some x) && locB sc x) = true) (h : EI X C tg iter g fun ds g1 => ∃ g2, WipeE g1 (own.map (·.2)) g2 ∧ ∃ J : Nat → List PyData → Gm → Prop, J 0 [] g2 ∧ (∀ i acc g', J i acc g' → NoAt g' (own.map (·.2))) ∧
      (∀ (C' : CtT C) i d acc g', ds[i]? = some d → J i acc g' → Turns X scope C'.1 (own.map (·.2)) tg ifs elt d g' (fun d' g6 => ∃ g7, acc.length < 1000000 ∧ WkE g6 g7 ∧ J (i + 1) (acc ++ [d']) g7) (fun g4 => ∃ g7, WkE g4 g7 ∧ J (i + 1) acc g7)) ∧
      (∀ acc g', J ds.length acc g' → ∃ g2, SetE g' i (.im (.list acc)) g2 ∧ D.nx g2)) (hsw : swapsWith (.ListComp elt [⟨tg, iter, ifs, 0⟩] scope pos) (some (.Name x p')) p.line X.env = pure true) (hs : ∀ x, foldedSetIterable iter X.env x = pure x := by intro _; rfl) : ES X C (.Assign [.Name x p'] (.ListComp elt [⟨tg, iter, ifs, 0⟩] scope pos) p) g D := by
  simp only [Bool.and_eq_true, decide_eq_true_eq] at hy
  refine ES.of (ps_setLc F.calm (by rw [F.hN]; exact F.nd) (by rw [F.hN]; exact hy.1) (by rw [F.hsc]; exact locB_ok hy.2) hsw pi_t (F.ok ok) (g := uG X scope tg) (tt := uT X scope ifs) (te := uE X scope elt) (fun s H Cm cl fp => ⟨fun pins s1 σ H1 v u Q I r h => h s H Cm cl fp pins s1 u I r⟩) (fun s H Cm cl fp => ⟨fun pins s1 σ H1 Q I h => h s H Cm cl fp pins s1 I⟩) (fun s H Cm cl fp => ⟨fun pins s1 σ H1 Q I h => h s H Cm cl fp pins s1 I⟩) hs) (as_asg (ae_an ?_))
  refine tl_lc ?_
  exact fun σ H Z I R pp => h σ H Z I R fun J H' Z' ds g' I' s' w ⟨g2, h1, J', h2, h3, h4, h5⟩ => pp J H' Z' ds g' I' s' w ⟨g2, h1, J', h2, h3, h4, fun acc g' hj => by
    obtain ⟨g2, s2, q⟩ := h5 acc g' hj
    exact ag_d s2 q⟩
/-- a, b = e1, e2 -/
theorem es_par {i j : Nat} {x y : Str} {px py pt : Pos} {kt k2 : Nat} {pt2 : Pos} (hc : X.calm = true) (l1 : Lc X i x) (l2 : Lc X j y) (hij : i ≠ j) (hx : X.env.scope.names.lookup x = some .local) (hy : X.env.scope.names.lookup y = some .local)
    (h : EA X C [a, b] g fun xs g1 => ∃ d e g2 g3, xs = [.d d, .d e] ∧ SetE g1 i (.im d) g2 ∧ SetE g2 j (.im e) g3 ∧ D.nx g3)
    (hw : swappedStores [.Tuple [.Name x px, .Name y py] kt pt] (.Tuple [a, b] k2 pt2) X.env = pure (some [x, y]))
    (hs : swapsWithSole [.Tuple [.Name x px, .Name y py] kt pt] (.Tuple [a, b] k2 pt2) pos.line X.env = pure false := by rfl) : ES X C (.Assign [.Tuple [.Name x px, .Name y py] kt pt] (.Tuple [a, b] k2 pt2) pos) g D :=
  ES.of (ps_par hc l1.nd l1.hN l2.hN hij hx hy pa_t hw hs) (as_par h)
/-- target = e, of any form -/
theorem es_asg (h : EE X C e g fun y g1 => EG X C tg y g1 D.nx) (hs : swapsWithSole [tg] e pos.line X.env = pure false := by rfl) (hw : swappedStores [tg] e X.env = pure none := by rfl) (h1 : (assignEach [tg] X.env).map (·.2) = [assign tg X.env] := by rfl) : ES X C (.Assign [tg] e pos) g D := ES.of (ps_asg pe_t pg_t hs hw h1) (as_asg h)
theorem es_augAdd {i : Nat} {v : Int} (l : Lc X i x) (h0 : g[i]? = some (.im (.int v))) (h : EE X C e g fun x g1 => ∃ b g2, x = .d (.int b) ∧ SetE g1 i (.im (.int (v + b))) g2 ∧ D.nx g2) : ES X C (.AugAssign (.Name x p') .Add e pos) g D := ES.of (ps_aug l.nd l.hN l.loc pe_t ip_add l.fn) (as_aug h0 h)
theorem es_augSub {i : Nat} {v : Int} (l : Lc X i x) (h0 : g[i]? = some (.im (.int v))) (h : EE X C e g fun x g1 => ∃ b g2, x = .d (.int b) ∧ SetE g1 i (.im (.int (v - b))) g2 ∧ D.nx g2) : ES X C (.AugAssign (.Name x p') .Sub e pos) g D := ES.of (ps_aug l.nd l.hN l.loc pe_t ip_sub l.fn) (as_aug h0 h)
theorem es_while (hp : PassesOwn (model X.prog X.w) X.A X.env X.xe) (J : Nat → Gm → Prop) (h0 : ∃ m, J m g) (h : ∀ m g', J m g' → ET X C c g' fun b g2 => BR b (ESs X C body g2 { D with nx := fun g3 => ∃ m', m' < m ∧ J m' g3, ct := fun g3 => ∃ m', m' < m ∧ J m' g3, bk := D.nx }) (D.nx g2)) : ES X C (.While c body [] pos) g D := ES.of (ps_while hp pt_t pss_t) (as_while J h0 h)
theorem es_for (hp : PassesOwn (model X.prog X.w) X.A X.env X.xe) (hc : X.calm = true) (h : EI X C tg iter g fun ds g1 => ∃ J : Nat → Gm → Prop, J 0 g1 ∧ (∀ i d g', ds[i]? = some d → J i g' → EG X C tg (.d d) g' fun g2 => ESs X C body g2 { D with nx := J (i + 1), ct := J (i + 1), bk := D.nx }) ∧ ∀ g', J ds.length g' → D.nx g') (hs : ∀ x, foldedSetIterable iter X.env x = pure x := by intro _; rfl) : ES X C (.For tg iter body [] pos) g D := ES.of (ps_for hp hc pi_t pg_t pss_t hs) (as_for h)
theorem es_break (h : D.bk g) : ES X C (.Break pos) g D := ES.of ps_break (as_brk h)
theorem es_continue (h : D.ct g) : ES X C (.Continue pos) g D := ES.of ps_continue (as_ct h)
/-- xs[i] = e, xs an own list -/
theorem es_setIx {o ix : Expr} {tp : Pos} (h : EE X C e g fun y g1 => EE X C o g1 fun x g2 => EE X C ix g2 fun z g3 => ∃ j w ds d g4 g5 i k, x = .o j ∧ z = .d (.int i) ∧ Frz [y] g3 [d] g4 ∧ g4[j]? = some (.ls w ds) ∧ ixN ds.length i = some k ∧ SetE g4 j (.ls w (ds.set k d)) g5 ∧ D.nx g5)
    (ha : ∀ v, assign (.Subscript o ix tp) X.env v = (do
      let ov ← holding [v] (eval o X.env)
      let iv ← holding [v, ov] (eval ix X.env)
      standAt tp
      holding [v, ov, iv] (setItem ov iv v)
      release [v, ov, iv] []) := by intro _; rfl)
    (hs : swapsWithSole [.Subscript o ix tp] e pos.line X.env = pure false := by rfl) (hw : swappedStores [.Subscript o ix tp] e X.env = pure none := by rfl) (h1 : (assignEach [.Subscript o ix tp] X.env).map (·.2) = [assign (.Subscript o ix tp) X.env] := by rfl) : ES X C (.Assign [.Subscript o ix tp] e pos) g D :=
  ES.of (ps_asg pe_t (pg_sub pe_t pe_t set_list ha) hs hw h1) fun σ H Z I D' d => h σ H Z I _ fun v H1 Z1 y g1 I1 s1 a1 q1 => by
    refine q1 σ H1 Z1 I1 _ fun u H2 Z2 x g2 I2 s2 a2 q2 => q2 σ H2 Z2 I2 _ fun w' H3 Z3 z g3 I3 s3 a3 q3 => ?_
    obtain ⟨j, w, ds, dd, g4, g5, i, k, rfl, rfl, f, hj, hk, hs5, q⟩ := q3
    obtain ⟨Z4, I4, s4, r4⟩ := f.run I3 (.cons ((a1.mono s2).mono s3) .nil)
    cases r4 with
    | cons r5 r6 =>
      cases r6; cases a3
      obtain ⟨ad, xs, rfl, o2, o3, o4, o5⟩ := I4.own hj a2
      refine ⟨ad, xs, i, k, rfl, rfl, o2, by rw [o4.length]; exact hk, ?_⟩
      exact d.nx g5 _ _ Z4 (I4.put hj a2 (o4.set k r5) hs5) (((s1.trans s2).trans s3).trans s4) q
end
end AL
/-! The layer's leaves and its stepping tactic. -/
namespace AL
open PySem PySem.Spec L2

def IxN (N : List Str) (i : Nat) (x : Str) : Prop := N[i]? = some x
section
variable {X : Cx} {C : Ct} {g g' g2 g3 g4 : Gm} {Q : Av → Gm → Prop} {QG : Gm → Prop} {QL : List PyData → Gm → Prop} {K : PySem.W.Frag}
theorem nm_own {N : List Str} {sc scope : Scope} {k i : Nat} {x : Str} {s : Shared} {H : Hp} {Cm : Addr} {cl : List (Str × Addr)} {fp : List Addr} (F : CxF X N sc k) (h : IxN N i x) (hc : (locB scope x && okName x) = true) : Nm (bk X scope s H Cm cl fp) i x := by
  refine F.nmB ?_
  simp only [Bool.and_eq_true, decide_eq_true_eq]
  simp only [Bool.and_eq_true] at hc
  exact ⟨h, hc⟩
theorem lc_own {N : List Str} {sc scope : Scope} {k i : Nat} {x : Str} {s : Shared} {H : Hp} {Cm : Addr} {cl : List (Str × Addr)} {fp : List Addr} (F : CxF X N sc k) (h : IxN N i x) (hc : locB scope x = true) : Lc (bk X scope s H Cm cl fp) i x := by
  refine F.lcB ?_
  simp only [Bool.and_eq_true, decide_eq_true_eq]
  exact ⟨h, hc⟩
theorem lf_frz {xs : List Av} {ds : List PyData} (f : Frz xs g ds g2) (hl : ds.length ≤ 1000000) (q : QL ds g2) : ∃ ds g2, Frz xs g ds g2 ∧ ds.length ≤ 1000000 ∧ QL ds g2 := ⟨ds, g2, f, hl, q⟩
theorem lf_call {S : Con} {n : Nat} {xs : List Av} {as : List Ar} {r : PyData} {φ : PyData → Prop} (hn : xs.length = n) (cv : CvA g xs as) (con : S as r) (q : φ r) : xs.length = n ∧ ∃ as r, CvA g xs as ∧ S as r ∧ φ r := ⟨hn, as, r, cv, con, q⟩
theorem lf_callN {S : List Ar → List PyData → Prop} {n : Nat} {xs : List Av} {as : List Ar} {r : List PyData} (hn : xs.length = n) (cv : CvA g xs as) {φ : List PyData → Prop} (con : S as r) (q : φ r) : xs.length = n ∧ ∃ as r, CvA g xs as ∧ S as r ∧ φ r := ⟨hn, as, r, cv, con, q⟩
theorem lf_callM {S : ConM} {n j : Nat} {w : Option Nat} {rest : List Av} {as : List Ar} {ds ds' : List PyData} {r : PyData} (hn : (Av.o j :: rest).length = n) (cv : CvA g rest as) (hj : g[j]? = some (.ls w ds)) (con : S ds as r ds') (hs : SetE g j (.ls w ds') g2) {φ : PyData → Gm → Prop} (q : φ r g2) :
    (Av.o j :: rest).length = n ∧ ∃ j' w ds rest' as r ds' g2, (Av.o j :: rest) = .o j' :: rest' ∧ CvA g rest' as ∧ g[j']? = some (.ls w ds) ∧ S ds as r ds' ∧ SetE g j' (.ls w ds') g2 ∧ φ r g2 := ⟨hn, j, w, ds, rest, as, r, ds', g2, rfl, cv, hj, con, hs, q⟩
theorem lf_setN {i : Nat} {ds : List PyData} (hs : SetE g i (.ls none ds) g2) (q : QG g2) : ∃ g2, SetE g i (.ls none ds) g2 ∧ QG g2 := ⟨g2, hs, q⟩
theorem lf_setI {i : Nat} {ds : List PyData} (hs : SetE g i (.im (.list ds)) g2) (q : QG g2) : ∃ g2, SetE g i (.im (.list ds)) g2 ∧ QG g2 := ⟨g2, hs, q⟩
theorem lf_par {i j : Nat} {d e : PyData} (h1 : SetE g i (.im d) g2) (h2 : SetE g2 j (.im e) g3) (q : QG g3) : ∃ d' e' g2 g3, [Av.d d, Av.d e] = [.d d', .d e'] ∧ SetE g i (.im d') g2 ∧ SetE g2 j (.im e') g3 ∧ QG g3 := ⟨d, e, g2, g3, rfl, h1, h2, q⟩
theorem lf_aug {i : Nat} {b : Int} {f : Int → Int} (h1 : SetE g i (.im (.int (f b))) g2) (q : QG g2) : ∃ b' g2, Av.d (.int b) = .d (.int b') ∧ SetE g i (.im (.int (f b'))) g2 ∧ QG g2 := ⟨b, g2, rfl, h1, q⟩
theorem lf_append {j : Nat} {w : Option Nat} {y : Av} {ds : List PyData} {d : PyData} (f : Frz [y] g [d] g3) (hj : g3[j]? = some (.ls w ds)) (hl : ds.length < 1000000) (hs : SetE g3 j (.ls w (ds ++ [d])) g4) (q : QG g4) :
    ∃ w ds d g3 g4, Frz [y] g [d] g3 ∧ g3[j]? = some (.ls w ds) ∧ ds.length < 1000000 ∧ SetE g3 j (.ls w (ds ++ [d])) g4 ∧ QG g4 := ⟨w, ds, d, g3, g4, f, hj, hl, hs, q⟩
theorem lf_app0 {j : Nat} {w0 : Option Nat} {ds0 : List PyData} {A : Nat → Prop} (hj : g[j]? = some (.ls w0 ds0)) (h : A j) : ∃ j' w0 ds0, Av.o j = .o j' ∧ g[j']? = some (.ls w0 ds0) ∧ A j' := ⟨j, w0, ds0, rfl, hj, h⟩
theorem lf_turn {x : Av} {d : PyData} {yes : PyData → Gm → Prop} (f : Frz [x] g [d] g2) (q : yes d g2) : ∃ d' g6, Frz [x] g [d'] g6 ∧ yes d' g6 := ⟨d, g2, f, q⟩
theorem lf_kt {x : Av} {ds : List PyData} {φ : List PyData → Prop} (h : KT g x ds) (q : φ ds) : ∃ ds, KT g x ds ∧ φ ds := ⟨ds, h, q⟩
theorem lf_isi {d : PyData} {y : V} {q : PyData → Prop} (hd : notD d = true) (h : q d) : ∃ d', notD d' = true ∧ (Av.d d = .d d' ∨ ∃ j w ds, Av.d d = .o j ∧ g[j]? = some (.ls w ds) ∧ d' = .list ds) ∧ Av.v y = .v y ∧ q d' := ⟨d, hd, .inl rfl, rfl, h⟩
theorem lf_iL {x : Av} {xs : List PyData} (f : Frz [x] g [.list xs] g2) (q : QL xs g2) : ∃ xs g2, Frz [x] g [.list xs] g2 ∧ QL xs g2 := ⟨xs, g2, f, q⟩
theorem lf_enumT {ds : List PyData} {φ : List PyData → Gm → Prop} (q : φ ds g) : ∃ ds' g2, ((∃ es, Frz [Av.d (.tuple ds)] g [.list ds'] g2 ∧ es = ds') ∨ (Av.d (.tuple ds) = .d (.tuple ds') ∧ g2 = g)) ∧ φ ds' g2 := ⟨ds, g, .inr ⟨rfl, rfl⟩, q⟩
theorem lf_enumL {x : Av} {ds : List PyData} {φ : List PyData → Gm → Prop} (f : Frz [x] g [.list ds] g2) (q : φ ds g2) : ∃ ds' g2, ((∃ es, Frz [x] g [.list ds'] g2 ∧ es = ds') ∨ (x = .d (.tuple ds') ∧ g2 = g)) ∧ φ ds' g2 := ⟨ds, g2, .inl ⟨ds, f, rfl⟩, q⟩
end
theorem small_mul {i j : Int} (h : -(2 ^ 64) < j ∧ j < 2 ^ 64) : CMul i j := .inr h
theorem small_mulL {i j : Int} (h : -(2 ^ 64) < i ∧ i < 2 ^ 64) : CMul i j := .inl h
theorem small_div {i j : Int} (h : 0 < j ∧ j < 2 ^ 64) : CDivW i j := wide_div h.1 (b := 64) (by omega) (by decide) (by decide)
theorem br_not {p : Prop} [Decidable p] {A B : Prop} (h : p → B) (k : ¬ p → A) : BR (!decide p) A B := br_n (br_d h k)
theorem bk_i {X : Cx} {sc : Scope} {φ : Cx → Prop} (h : ∀ s H Cm cl fp, φ (bk X sc s H Cm cl fp)) : Bk X sc φ := h
theorem nx_mk {P : Gm → Prop} {rt : Av → Gm → Prop} {bk ct : Gm → Prop} {rn : List PyData → Gm → Prop} {g : Gm} (h : P g) : Ae.nx ⟨P, rt, bk, ct, rn⟩ g := h
theorem rt_mk {P : Gm → Prop} {rt : Av → Gm → Prop} {bk ct : Gm → Prop} {rn : List PyData → Gm → Prop} {x : Av} {g : Gm} (h : rt x g) : Ae.rt ⟨P, rt, bk, ct, rn⟩ x g := h
theorem bk_mk {P : Gm → Prop} {rt : Av → Gm → Prop} {bk ct : Gm → Prop} {rn : List PyData → Gm → Prop} {g : Gm} (h : bk g) : Ae.bk ⟨P, rt, bk, ct, rn⟩ g := h
theorem ct_mk {P : Gm → Prop} {rt : Av → Gm → Prop} {bk ct : Gm → Prop} {rn : List PyData → Gm → Prop} {g : Gm} (h : ct g) : Ae.ct ⟨P, rt, bk, ct, rn⟩ g := h
theorem rn_mk {P : Gm → Prop} {rt : Av → Gm → Prop} {bk ct : Gm → Prop} {rn : List PyData → Gm → Prop} {ds : List PyData} {g : Gm} (h : rn ds g) : Ae.rn ⟨P, rt, bk, ct, rn⟩ ds g := h
theorem CxF.look {X : Cx} {N : List Str} {sc : Scope} {k : Nat} {x : Str} (F : CxF X N sc k) (h : locB sc x = true) : X.env.scope.names.lookup x = some .local := by rw [F.hsc]; exact locB_ok h
end AL
/-! More rules: slices, insert, calls of a def that a slot holds, the script. -/
namespace AL
open PySem PySem.Spec L2

section
variable {X : Cx} {C : Ct} {g g' : Gm} {e a b c o hi lo : Expr} {es : List Expr} {pos p p2 apos : Pos} {Q : Av → Gm → Prop} {QL : List PyData → Gm → Prop} {x : Str}
/-! ### slices -/
def cutD (ds : List PyData) (lo hi : Option Int) : List PyData := (ds.drop (HT.sIx ds.length 0 lo)).take (HT.sIx ds.length ds.length hi - HT.sIx ds.length 0 lo)
theorem cut_hi {ds : List PyData} {k : Int} (h : 0 ≤ k) : cutD ds none (some k) = ds.take k.toNat := by
  unfold cutD
  rw [HT.sIx_none]
  have e : HT.sIx ds.length ds.length (some k) = min k.toNat ds.length := by
    have := HT.sIx_nat ds.length ds.length k.toNat
    rwa [Int.toNat_of_nonneg h] at this
  rw [e, Nat.sub_zero, List.drop_zero, ← List.take_take]
  simp
theorem cut_lo {ds : List PyData} {k : Int} (h : 0 ≤ k) : cutD ds (some k) none = ds.drop k.toNat := by
  unfold cutD
  rw [HT.sIx_none]
  have e : HT.sIx ds.length 0 (some k) = min k.toNat ds.length := by
    have := HT.sIx_nat ds.length 0 k.toNat
    rwa [Int.toNat_of_nonneg h] at this
  rw [e]
  by_cases hk : k.toNat ≤ ds.length
  · rw [Nat.min_eq_left hk, List.take_of_length_le (by simp)]
  · rw [Nat.min_eq_right (by omega)]
    simp
    omega
theorem DdA.cut {K : PySem.W.Frag} {Z : Hp} {ds : List PyData} {xs : List V} (h : DdA K Z xs ds) (lo hi : Option Int) : DdA K Z (cutV xs lo hi) (cutD ds lo hi) := by
  unfold cutV cutD
  rw [h.length]
  exact (h.drop _).take _
theorem ta_sl {K : PySem.W.Frag} {σ : St} {H Z : Hp} {v : V} {ds : List PyData} {l u : Option Int} {P : VK} (I : Ok K C g σ H Z) (h : Dd K Z v (.tuple ds)) (p : ∀ v H' Z', Ok K C g σ H' Z' → Same Z Z' → Dd K Z' v (.tuple (cutD ds l u)) → P v H') : rSlA K v l u H P := by
  cases h with
  | @tup q xs _ a1 a2 =>
    refine ⟨q, xs, rfl, Same.seqT I.fz a1, fun ⟨z1, z2⟩ => ?_, fun _ t ht => ?_⟩
    · refine p _ H Z I (Same.refl _) ?_
      have e : cutD ds l u = ds := by
        unfold cutD
        rw [← a2.length, z1, z2]
        rw [a2.length]; simp
      rw [e]
      exact .tup a1 a2
    · obtain ⟨I2, s2, _⟩ := I.newF (o := .tup (cutV xs l u)) ht
      exact p _ _ _ I2 s2 (.tup (SqT.of upd_same) ((a2.cut l u).mono s2))
/-- t[:k] -/
theorem ee_slHi (h : EE X C e g fun x g1 => EE X C hi g1 fun y g2 => ∃ k ds, x = .d (.tuple ds) ∧ y = .d (.int k) ∧ 0 ≤ k ∧ Q (.d (.tuple (ds.take k.toNat))) g2) : EE X C (.Subscript e (.Slice none (some hi) none p2) pos) g Q :=
  EE.of (pe_slice sl_tupA pe_t po_none (po_some pe_t)) fun σ H Z I P p => h σ H Z I _ fun v H1 Z1 x g1 I1 s1 a1 h1 => h1 σ H1 Z1 I1 _ fun w H2 Z2 y g2 I2 s2 a2 q => by
    obtain ⟨k, ds, rfl, rfl, hk, q⟩ := q
    have a2' : Dd X.K Z2 w (.int k) := a2
    cases a2'
    refine ⟨k, rfl, ta_sl I2 (Dd.mono s2 _ _ a1) fun v H3 Z3 I3 s3 d3 => ?_⟩
    rw [cut_hi hk] at d3
    exact p v H3 Z3 (.d (.tuple (ds.take k.toNat))) g2 I3 ((s1.trans s2).trans s3) d3 q
/-- t[k:] -/
theorem ee_slLo (h : EE X C e g fun x g1 => EE X C lo g1 fun y g2 => ∃ k ds, x = .d (.tuple ds) ∧ y = .d (.int k) ∧ 0 ≤ k ∧ Q (.d (.tuple (ds.drop k.toNat))) g2) : EE X C (.Subscript e (.Slice (some lo) none none p2) pos) g Q :=
  EE.of (pe_slice sl_tupA pe_t (po_some pe_t) po_none) fun σ H Z I P p => h σ H Z I _ fun v H1 Z1 x g1 I1 s1 a1 h1 => h1 σ H1 Z1 I1 _ fun w H2 Z2 y g2 I2 s2 a2 q => by
    obtain ⟨k, ds, rfl, rfl, hk, q⟩ := q
    have a2' : Dd X.K Z2 w (.int k) := a2
    cases a2'
    refine ⟨k, rfl, ta_sl I2 (Dd.mono s2 _ _ a1) fun v H3 Z3 I3 s3 d3 => ?_⟩
    rw [cut_lo hk] at d3
    exact p v H3 Z3 (.d (.tuple (ds.drop k.toNat))) g2 I3 ((s1.trans s2).trans s3) d3 q

/-! ### insert -/
theorem ee_insert (h : EE X C o g fun x g1 => ∃ j w0 ds0, x = .o j ∧ g1[j]? = some (.ls w0 ds0) ∧ EE X C a g1 fun z g2 => EE X C e g2 fun y g3 => ∃ i w ds d g4 g5, z = .d (.int i) ∧ 0 ≤ i ∧ i < 2 ^ 63 ∧ Frz [y] g3 [d] g4 ∧ g4[j]? = some (.ls w ds) ∧ ds.length < 1000000 ∧ SetE g4 j (.ls w (ds.take i.toNat ++ d :: ds.drop i.toNat)) g5 ∧ Q (.d .none) g5)
    (hbase : attributeBase o "insert" X.env (eval o X.env) = eval o X.env := by rfl) (hline : (apos.endLine == pos.line) = true := by rfl) (hs : starEach [a, e] X.env = (false, eval a X.env) :: starEach [e] X.env := by rfl) (hs2 : starEach [e] X.env = (false, eval e X.env) :: starEach [] X.env := by rfl)
    (hfew : ((backTo pos (starEach [a, e] X.env)).all (fun x => !x.1) && (backToKw pos (keywordEach [] X.env)).all (fun x => x.1.isSome) && decide ([a, e].length + ([] : List Keyword).length + (if ([] : List Keyword).isEmpty then 0 else 1) < 30)) = true := by rfl) :
    EE X C (.Call (.Attribute o "insert" apos) [a, e] [] pos) g Q :=
  EE.of (pe_bm PySem.F.plainAttrs_list PySem.F.slot_list_insert PySem.F.type_list_insert mt_insert pe_t pa_t hbase hfew hline hs (by rw [hs2]; rfl)) fun σ H Z I P p =>
    h σ H Z I _ fun v H1 Z1 x g1 I1 s1 a1 q1 => by
      obtain ⟨j, w0, ds0, rfl, hj0, h2⟩ := q1
      obtain ⟨ad, xs0, rfl, o2, o3, o4, o5⟩ := I1.own hj0 a1
      refine ⟨.inl ⟨rfl, xs0, SqL.of o2⟩, ?_⟩
      refine (show EA X C [a, e] g1 (fun ys g3 => ∃ z y i w ds d g4 g5, ys = [z, y] ∧ z = .d (.int i) ∧ 0 ≤ i ∧ i < 2 ^ 63 ∧ Frz [y] g3 [d] g4 ∧ g4[j]? = some (.ls w ds) ∧ ds.length < 1000000 ∧ SetE g4 j (.ls w (ds.take i.toNat ++ d :: ds.drop i.toNat)) g5 ∧ Q (.d .none) g5) from ea_cons (h2.mono fun z g2 h3 => ea_cons (h3.mono fun y g3 q => by
        obtain ⟨i, w, ds, d, g4, g5, q⟩ := q
        exact ea_nil ⟨z, y, i, w, ds, d, g4, g5, rfl, q⟩) hs2) hs) σ H1 Z1 I1 _ fun vs H2 Z2 ys g2 I2 s2 a2 q => ?_
      obtain ⟨z, y, i, w, ds, d, g4, g5, rfl, rfl, i0, i1, f, hj, hl, hs4, q⟩ := q
      cases a2 with
      | @cons _ vz _ _ az a2 =>
        have az' : Dd X.K Z2 vz (.int i) := az
        cases az'
        obtain ⟨Z3, I3, s3, r3⟩ := f.run I2 a2
        cases a2 with
        | @cons _ vy _ _ ay a3 =>
          cases a3
          cases r3 with
          | cons r4 r5 =>
            cases r5
            obtain ⟨ad', xs, e0, o2', o3', o4', o5'⟩ := I3.own hj a1
            cases e0
            refine ⟨ad, xs, i, vy, rfl, rfl, o2', by rw [o4'.length]; exact Nat.lt_of_lt_of_le hl (by decide), i0, i1, ?_⟩
            have r6 : DdA X.K Z3 (xs.take i.toNat ++ [vy] ++ xs.drop i.toNat) (ds.take i.toNat ++ d :: ds.drop i.toNat) := by
              have := ((o4'.take i.toNat).append (.cons r4 .nil)).append (o4'.drop i.toNat)
              simpa using this
            exact p .non _ Z3 (.d .none) g5 (I3.put hj a1 r6 hs4) ((s1.trans s2).trans s3) Dd.non q
end

/-! ### a def that a slot holds -/
structure HeldF (P : Program) (w : World) (K : PySem.W.Frag) (mg : Str → Option Value) (base : Heap) (k : Nat) (v : V) (sp : Sp) : Prop where
  ex : ∃ (f : Addr) (fd : FuncData) (ps : List Str), v = .ref f ∧ FnOk P w K mg base CX0 k f fd ps sp ∧ PySem.W.keepIn K (.ref f) = true ∧ Binds K fd ps []
abbrev HeldX (X : Cx) (k : Nat) (v : V) (sp : Sp) : Prop := HeldF X.prog X.w X.K X.mg X.base k v sp
theorem HeldF.mono {P : Program} {w : World} {K : PySem.W.Frag} {mg : Str → Option Value} {base : Heap} {k k' : Nat} {v : V} {sp : Sp} (c : HeldF P w K mg base k v sp) (h : k ≤ k') : HeldF P w K mg base k' v sp := by
  obtain ⟨f, fd, ps, e, F, r⟩ := c.ex
  exact ⟨f, fd, ps, e, F.mono h, r⟩
theorem Callable.held {P : Program} {w : World} {K : PySem.W.Frag} {mg : Str → Option Value} {base : Heap} {x : Str} {k : Nat} {sp : Sp} (c : Callable P w K mg base x k sp) : ∃ f, mg x = some (.ref f) ∧ HeldF P w K mg base k (.ref f) sp := by
  obtain ⟨f, fd, ps, F, m, kp, B⟩ := c.ex
  exact ⟨f, m, f, fd, ps, rfl, F, kp, B⟩
section
variable {X : Cx} {C : Ct} {g g' : Gm} {e : Expr} {es : List Expr} {pos p : Pos} {Q : Av → Gm → Prop} {x : Str}
theorem ee_callX {i k n : Nat} {S : Con} {v : V} (m : Nm X i x) (h0 : g[i]? = some (.vl v)) (c : HeldX X k v (spR X.K n S)) (hr : Room k X.A) (h : EA X C (e :: es) g fun xs g1 => xs.length = n ∧ ∃ as r, CvA g1 xs as ∧ S as r ∧ Q (.d r) g1)
    (he : starEach (e :: es) X.env = (false, eval e X.env) :: starEach es X.env := by rfl) (hpl : (backTo pos (starEach es X.env)).any (·.1) = false := by rfl) : EE X C (.Call (.Name x p) (e :: es) [] pos) g Q := by
  obtain ⟨f, fd, ps, rfl, F, kp, B⟩ := c.ex
  refine EE.of (pe_callL (i := i) (dvs := []) (ds := []) (E := E0) F hr m.hN m.vis kp B .nil pass0 pa_t m.d1 m.d2 he hpl) fun σ H Z I P p => ⟨I.ent i _ h0, ?_⟩
  refine h σ H Z I _ fun vs H1 Z1 xs g1 I1 s1 a1 q1 => ?_
  obtain ⟨hl, as, r, cv, hS, q⟩ := q1
  rw [List.append_nil]
  refine ⟨a1.length.trans hl, Z1, as, r, I1.fz, cv.run a1, hS, fun v H' Z' h1 h2 h3 h4 h5 => ?_⟩
  exact p v H' Z' (.d r) g1 (I1.grow h1 h2 h3 h4) (s1.trans h2) h5 q
/-! ### the script -/
theorem scr_inj : ∀ {a b : List Int}, a.map (fun n => (PyData.int n, PyData.none)) = b.map (fun n => (PyData.int n, PyData.none)) → a = b
  | [], [], _ => rfl
  | [], _ :: _, h => by simp at h
  | _ :: _, [], h => by simp at h
  | a :: as, b :: bs, h => by
    simp only [List.map_cons, List.cons.injEq, Prod.mk.injEq, PyData.int.injEq, and_true] at h
    rw [h.1, scr_inj h.2]
theorem Dd.scr_inv {K : PySem.W.Frag} {Z : Hp} {v : V} {ns : List Int} (h : Dd K Z v (AL.scr ns)) : ∃ a, v = .ref a ∧ SqL K Z a (ns.map V.int) := by
  unfold AL.scr at h
  generalize e : (ns.map fun n => (PyData.int n, PyData.none)) = l at h
  cases h with
  | @scr a ms h1 =>
    have := scr_inj e
    subst this
    exact ⟨a, rfl, h1⟩
theorem rc_lenX {K : PySem.W.Frag} {ns : List Int} (q : Q (.d (.int ns.length)) g) : RC K C (fun xs H Q => ∃ x n, xs = [x] ∧ LenV K x H n ∧ Q (.int n) H) [.d (AL.scr ns)] g Q := fun σ H Z vs I a P p => by
  cases a with
  | @cons _ v _ _ a1 a2 =>
    cases a2
    obtain ⟨a, rfl, h⟩ := Dd.scr_inv a1
    exact ⟨_, ns.length, rfl, .inl ⟨_, Same.seq I.fz h, by simp⟩, p _ H Z (.d (.int _)) g I (Same.refl _) (Dd.int _) q⟩
theorem ra_ixX {K : PySem.W.Frag} {ns : List Int} {i d : Int} (h0 : 0 ≤ i) (hi : ns[i.toNat]? = some d) (q : Q (.d (.int d)) g) : RA K C (fun x y H P => rIxL K x y H P ∨ rIxT K x y H P) (.d (AL.scr ns)) (.d (.int i)) g Q := ra_or1 fun σ H Z v w I hx hy P p => by
  have hy' : Dd K Z w (.int i) := hy
  cases hy'
  obtain ⟨a, rfl, h⟩ := Dd.scr_inv hx
  exact ⟨a, _, i, .int d, rfl, rfl, Same.seq I.fz h, atI_int h0 (by rw [List.getElem?_map, hi]; rfl), p _ H Z (.d (.int d)) g I (Same.refl _) (.int d) q⟩
end
end AL
/-! What holds within the blocks of a comprehension; leaves. -/
namespace AL
open PySem PySem.Spec L2
section
variable {X : Cx} {C : Ct} {g g' g2 g3 g4 g5 : Gm} {Q : Av → Gm → Prop} {QG : Gm → Prop} {QL : List PyData → Gm → Prop} {scope : Scope} {s : Shared} {H : Hp} {Cm : Addr} {cl : List (Str × Addr)} {fp : List Addr} {x : Str} {k : Nat} {sp : Sp}
theorem calB (c : Cal X x k sp) : Cal (bk X scope s H Cm cl fp) x k sp := c
theorem heldB {v : V} (c : HeldX X k v sp) : HeldX (bk X scope s H Cm cl fp) k v sp := c
theorem roomB (c : Room k X.A) : Room k (bk X scope s H Cm cl fp).A := c
theorem calmB (c : X.calm = true) : (bk X scope s H Cm cl fp).calm = true := c
theorem mgB {r : Option Value} (c : X.mg x = r) : (bk X scope s H Cm cl fp).mg x = r := c
theorem lf_insert {j : Nat} {w : Option Nat} {z y : Av} {i : Int} {ds : List PyData} {d : PyData} (hz : z = .d (.int i)) (i0 : 0 ≤ i) (i1 : i < 2 ^ 63) (f : Frz [y] g3 [d] g4) (hj : g4[j]? = some (.ls w ds)) (hl : ds.length < 1000000) (hs : SetE g4 j (.ls w (ds.take i.toNat ++ d :: ds.drop i.toNat)) g5) (q : QG g5) :
    ∃ i w ds d g4 g5, z = .d (.int i) ∧ 0 ≤ i ∧ i < 2 ^ 63 ∧ Frz [y] g3 [d] g4 ∧ g4[j]? = some (.ls w ds) ∧ ds.length < 1000000 ∧ SetE g4 j (.ls w (ds.take i.toNat ++ d :: ds.drop i.toNat)) g5 ∧ QG g5 := ⟨i, w, ds, d, g4, g5, hz, i0, i1, f, hj, hl, hs, q⟩
theorem lf_sl {x y : Av} {k : Int} {ds : List PyData} {φ : Int → List PyData → Prop} (hx : x = .d (.tuple ds)) (hy : y = .d (.int k)) (hk : 0 ≤ k) (q : φ k ds) : ∃ k ds, x = .d (.tuple ds) ∧ y = .d (.int k) ∧ 0 ≤ k ∧ φ k ds := ⟨k, ds, hx, hy, hk, q⟩
/-- xs[i] = e -/
theorem lf_setIx {x y z : Av} {j k : Nat} {w : Option Nat} {ds : List PyData} {d : PyData} {i : Int} (hx : x = .o j) (hz : z = .d (.int i)) (f : Frz [y] g3 [d] g4) (hj : g4[j]? = some (.ls w ds)) (hi : ixN ds.length i = some k) (hs : SetE g4 j (.ls w (ds.set k d)) g5) (q : QG g5) :
    ∃ j w ds d g4 g5 i k, x = .o j ∧ z = .d (.int i) ∧ Frz [y] g3 [d] g4 ∧ g4[j]? = some (.ls w ds) ∧ ixN ds.length i = some k ∧ SetE g4 j (.ls w (ds.set k d)) g5 ∧ QG g5 := ⟨j, w, ds, d, g4, g5, i, k, hx, hz, f, hj, hi, hs, q⟩
theorem ra_eqI {i j : Int} {K : PySem.W.Frag} (q : Q (.d (.bool (decide (i = j)))) g) : RA K C (rEqD K) (.d (.int i)) (.d (.int j)) g Q := ra_eq rfl rfl rfl rfl (by
  have e : PyData.eqv (dOf g (.d (.int i))) (dOf g (.d (.int j))) = decide (i = j) := by
    show PyData.eqv (.int i) (.int j) = _
    simp only [PyData.eqv]; rfl
  rw [e]; exact q)
theorem ra_neI {i j : Int} {K : PySem.W.Frag} (q : Q (.d (.bool (!decide (i = j)))) g) : RA K C (rNeD K) (.d (.int i)) (.d (.int j)) g Q := ra_ne rfl rfl rfl rfl (by
  have e : PyData.eqv (dOf g (.d (.int i))) (dOf g (.d (.int j))) = decide (i = j) := by
    show PyData.eqv (.int i) (.int j) = _
    simp only [PyData.eqv]; rfl
  rw [e]; exact q)
theorem eqv_two (a b c d : Int) : PyData.eqv (.tuple [.int a, .int b]) (.tuple [.int c, .int d]) = decide (a = c ∧ b = d) := by
  simp only [PyData.eqv, PyData.eqvAll, Bool.and_true]
  by_cases h1 : a = c <;> by_cases h2 : b = d <;> simp [h1, h2]
theorem ra_eqF {a b c d : Int} {K : PySem.W.Frag} (q : Q (.d (.bool (decide (a = c ∧ b = d)))) g) : RA K C (rEqD K) (.d (.tuple [.int a, .int b])) (.d (.tuple [.int c, .int d])) g Q := ra_eq rfl rfl rfl rfl (by
  have e : PyData.eqv (dOf g (.d (.tuple [.int a, .int b]))) (dOf g (.d (.tuple [.int c, .int d]))) = decide (a = c ∧ b = d) := eqv_two a b c d
  rw [e]; exact q)
theorem ra_neF {a b c d : Int} {K : PySem.W.Frag} (q : Q (.d (.bool (!decide (a = c ∧ b = d)))) g) : RA K C (rNeD K) (.d (.tuple [.int a, .int b])) (.d (.tuple [.int c, .int d])) g Q := ra_ne rfl rfl rfl rfl (by
  have e : PyData.eqv (dOf g (.d (.tuple [.int a, .int b]))) (dOf g (.d (.tuple [.int c, .int d]))) = decide (a = c ∧ b = d) := eqv_two a b c d
  rw [e]; exact q)
theorem abs_if (a : Int) : (if a < 0 then -a else a) = (a.natAbs : Int) := by split <;> omega
theorem CxF.swapE {X : Cx} {N : List Str} {sc : Scope} {k : Nat} (F : CxF X N sc k) {ts : List Expr} {v : Expr} {r : Sem (Option (List Str))} (h : swappedStores ts v { X.env with scope := sc } = r) : swappedStores ts v X.env = r := by
  have e : X.env = { X.env with scope := sc } := by rw [← F.hsc]
  rw [e]; exact h
theorem CxF.swapW {X : Cx} {N : List Str} {sc : Scope} {k : Nat} (F : CxF X N sc k) {v : Expr} {t : Option Expr} {l : Nat} {r : Sem Bool} (h : swapsWith v t l { X.env with scope := sc } = r) : swapsWith v t l X.env = r := by
  have e : X.env = { X.env with scope := sc } := by rw [← F.hsc]
  rw [e]; exact h
theorem BR.of_eq {b c : Bool} {A B : Prop} (e : b = c) (h : BR c A B) : BR b A B := by rw [e]; exact h
theorem BR.byt {b : Bool} {A B : Prop} (e : b = true) (h : A) : BR b A B := by rw [e]; exact br_t h
theorem BR.byf {b : Bool} {A B : Prop} (e : b = false) (h : B) : BR b A B := by rw [e]; exact br_f h
end
end AL
/-! A list of the def's own is only read while an expression is evaluated; weaker promises. -/
namespace AL
open PySem PySem.Spec L2
section
variable {K : PySem.W.Frag} {C : Ct} {g g1 : Gm} {Q : Av → Gm → Prop} {te : TE}
def lsNol (j : Nat) (g : Gm) : Prop := ∀ i w es, g[i]? = some (Ent.ls w es) → i ≠ j → nolA es = true
theorem ae_borrow {j : Nat} {ds : List PyData} (hj : g[j]? = some (.ls none ds)) (hs : SetE g j (.im (.list ds)) g1) (hn : lsNol j g) (h : AE K C te g1 fun x g2 => ∃ d, x = .d d ∧ nol d = true ∧ g2 = g1 ∧ Q (.d d) g) : AE K C te g Q := fun σ H Z I Q' q' => by
  have e0 := I.ent j _ hj
  obtain ⟨a, xs, f1, f2, f3, f4, f5⟩ := e0
  have f5' : C.H0 a = none := f5
  have hZ0 : C.Z0 a = none := by
    cases q : C.Z0 a with
    | none => rfl
    | some o => have := I.b0 a o q; rw [f5'] at this; cases this
  have s1 : Same Z (upd Z a (.lst xs)) := fun b u q => by rw [upd_ne (ne_of_none q f3)]; exact q
  obtain ⟨j1, j2⟩ := hs.len
  have I1 : Ok K C g1 σ H (upd Z a (.lst xs)) := by
    refine ⟨hs.len.1.trans I.ln, fun b o q => ?_, I.fr, fun b o q => s1 b o (I.z0 b o q), fun b o q => ?_, I.b0, I.wz, I.wh, fun i e q => ?_, fun i k w w' es es' b q1 q2 q3 q4 => ?_, I.tb, I.tz⟩
    · by_cases z : b = a
      · subst z; rw [upd_same] at q; cases q; exact f2
      · rw [upd_ne z] at q; exact I.fz b o q
    · by_cases z : b = a
      · subst z; exact .inr f5'
      · rw [upd_ne z] at q; exact I.nw b o q
    · by_cases z : i = j
      · subst z
        rw [hs.same] at q; cases q
        exact ⟨.ref a, f1, .lst upd_same (f4.mono s1)⟩
      · rw [hs.ne z] at q
        have r := I.ent i e q
        cases e with
        | no => trivial
        | im d =>
          obtain ⟨v, r1, r2⟩ := r
          exact ⟨v, r1, Dd.mono s1 d v r2⟩
        | ls w es =>
          obtain ⟨b, ys, r1, r2, r3, r4, r5⟩ := r
          have nb : b ≠ a := fun zz => by
            subst zz
            exact z (I.inj i j w none es ds b q hj r1 f1)
          exact ⟨b, ys, r1, r2, by rw [upd_ne nb]; exact r3, r4.mono s1, r5⟩
        | vl v => exact r
    · have n1 : i ≠ j := fun z => by subst z; rw [hs.same] at q1; cases q1
      have n2 : k ≠ j := fun z => by subst z; rw [hs.same] at q2; cases q2
      rw [hs.ne n1] at q1
      rw [hs.ne n2] at q2
      exact I.inj i k w w' es es' b q1 q2 q3 q4
  refine h σ H _ I1 Q' fun v H2 Z2 x g2 I2 s2 a2 q2 => ?_
  obtain ⟨d, rfl, nd, rfl, q⟩ := q2
  have e2 : Z2 a = some (.lst xs) := s2 a _ upd_same
  have g3 : ∀ b o, (if b = a then none else Z2 b) = some o → b ≠ a ∧ Z2 b = some o := fun b o q => by
    by_cases z : b = a
    · rw [if_pos z] at q; cases q
    · rw [if_neg z] at q; exact ⟨z, q⟩
  have sT : ∀ b ys, SqT K Z2 b ys → SqT K (fun b => if b = a then none else Z2 b) b ys := fun b ys t => by
    rcases t with (t | ⟨o, t⟩) | t
    · refine .inl (.inl ?_)
      show (if b = a then none else Z2 b) = _
      by_cases z : b = a
      · subst z; rw [e2] at t; cases t
      · rw [if_neg z]; exact t
    · refine .inl (.inr ⟨o, ?_⟩)
      show (if b = a then none else Z2 b) = _
      by_cases z : b = a
      · subst z; rw [e2] at t; cases t
      · rw [if_neg z]; exact t
    · exact .inr t
  have s3 : Same Z (fun b => if b = a then none else Z2 b) := fun b o q => by
    have nb : b ≠ a := ne_of_none q f3
    show (if b = a then none else Z2 b) = _
    rw [if_neg nb]
    exact s2 b o (s1 b o q)
  have I3 : Ok K C g σ H2 (fun b => if b = a then none else Z2 b) := by
    refine ⟨I.ln, fun b o q => I2.fz b o (g3 b o q).2, I2.fr, fun b o q => ?_, fun b o q => I2.nw b o (g3 b o q).2, I2.b0, I2.wz, I2.wh, fun i e q => ?_, I.inj, I2.tb, I2.tz⟩
    · have nb : b ≠ a := ne_of_none q hZ0
      show (if b = a then none else Z2 b) = _
      rw [if_neg nb]
      exact I2.z0 b o q
    · by_cases z : i = j
      · subst z
        rw [hj] at q; cases q
        exact ⟨a, xs, f1, I2.fz a _ e2, by simp, f4.mono s3, f5⟩
      · have r := I.ent i e q
        cases e with
        | no => trivial
        | im d =>
          obtain ⟨v, r1, r2⟩ := r
          exact ⟨v, r1, Dd.mono s3 d v r2⟩
        | ls w es =>
          have q' : g2[i]? = some (.ls w es) := by rw [hs.ne z]; exact q
          obtain ⟨b, ys, r1, r2, r3, r4, r5⟩ := I2.ent i _ q'
          refine ⟨b, ys, r1, r2, ?_, DdA.tups sT es ys (hn i w es q z) r4, r5⟩
          show (if b = a then none else Z2 b) = none
          split
          · rfl
          · exact r3
        | vl v => exact r
  exact q' v H2 _ (.d d) g I3 s3 (Dd.tups sT d v nd a2) q
end
def entNol : Ent → Prop
  | .ls _ es => nolA es = true
  | _ => True
def allNol : Gm → Prop
  | [] => True
  | e :: g => entNol e ∧ allNol g
def lsNolR : Nat → Gm → Prop
  | _, [] => True
  | 0, _ :: g => allNol g
  | j + 1, e :: g => entNol e ∧ lsNolR j g
theorem allNol.at_ : ∀ {g : Gm} {i : Nat} {w : Option Nat} {es : List PyData}, allNol g → g[i]? = some (Ent.ls w es) → nolA es = true
  | [], _, _, _, _, h => by simp at h
  | e :: g, 0, _, _, ⟨h1, _⟩, h => by simp at h; subst h; exact h1
  | e :: g, i + 1, _, _, ⟨_, h2⟩, h => allNol.at_ h2 (by simpa using h)
theorem lsNol_of : ∀ {j : Nat} {g : Gm}, lsNolR j g → lsNol j g
  | _, [], _ => fun i w es h _ => by simp at h
  | 0, e :: g, h => fun i w es q n => by
    cases i with
    | zero => exact absurd rfl n
    | succ i => exact allNol.at_ h (by simpa using q)
  | j + 1, e :: g, ⟨h1, h2⟩ => fun i w es q n => by
    cases i with
    | zero => simp at q; subst q; exact h1
    | succ i => exact lsNol_of h2 i w es (by simpa using q) (by omega)
section
variable {X : Cx} {C : Ct} {g g1 : Gm} {Q : Av → Gm → Prop} {e : Expr}
theorem ee_borrow (j : Nat) {ds : List PyData} (hj : g[j]? = some (.ls none ds)) (hs : SetE g j (.im (.list ds)) g1) (hn : lsNolR j g) (h : EE X C e g1 fun x g2 => ∃ d, x = .d d ∧ nol d = true ∧ g2 = g1 ∧ Q (.d d) g) : EE X C e g Q := ae_borrow hj hs (lsNol_of hn) h
end
/-! ### weaker promises -/
theorem spR.imp {K : PySem.W.Frag} {n : Nat} {S S' : Con} (h : ∀ as r, S' as r → S as r) : ∀ vs H Q E, spR K n S' vs H Q E → spR K n S vs H Q E := fun vs H Q E ⟨h1, Z, as, r, h2, h3, h4, h5⟩ => ⟨h1, Z, as, r, h2, h3, h _ _ h4, h5⟩
theorem HeldF.imp {P : Program} {w : World} {K : PySem.W.Frag} {mg : Str → Option Value} {base : Heap} {k n : Nat} {v : V} {S S' : Con} (c : HeldF P w K mg base k v (spR K n S)) (h : ∀ as r, S' as r → S as r) : HeldF P w K mg base k v (spR K n S') := by
  obtain ⟨f, fd, ps, e, F, r⟩ := c.ex
  exact ⟨f, fd, ps, e, F.imp (spR.imp h), r⟩
theorem Callable.imp {P : Program} {w : World} {K : PySem.W.Frag} {mg : Str → Option Value} {base : Heap} {x : Str} {k n : Nat} {S S' : Con} (c : Callable P w K mg base x k (spR K n S)) (h : ∀ as r, S' as r → S as r) : Callable P w K mg base x k (spR K n S') := by
  obtain ⟨f, fd, ps, F, r⟩ := c.ex
  exact ⟨f, fd, ps, F.imp (spR.imp h), r⟩
end AL
namespace AL
open PySem PySem.Spec L2
section
variable {X : Cx} {C : Ct} {g : Gm} {D : Ae} {st : Stmt} {sts : List Stmt}
/-- one statement, then what it leaves -/
theorem ess_cut {R : Gm → Prop} (h : ES X C st g { D with nx := R }) (k : ∀ g', R g' → ESs X C sts g' D) : ESs X C (st :: sts) g D :=
  ess_cons fun σ H Z I D' d => h σ H Z I D' ⟨fun g σ H Z I s q => d.nx g σ H Z I s (k g q), d.rt, d.bk, d.ct, d.rn⟩
theorem es_cut {R : Gm → Prop} (h : ES X C st g { D with nx := R }) (k : ∀ g', R g' → D.nx g') : ES X C st g D :=
  fun σ H Z I D' d => h σ H Z I D' ⟨fun g σ H Z I s q => d.nx g σ H Z I s (k g q), d.rt, d.bk, d.ct, d.rn⟩
end
end AL
/-! x in xs, of whole numbers. -/
namespace AL
open PySem PySem.Spec L2
theorem inV_ints (i : Int) : ∀ (is : List Int), inV (.int i) (is.map V.int) = decide (i ∈ is)
  | [] => by simp [inV]
  | j :: is => by
    have ih := inV_ints i is
    unfold inV at ih ⊢
    rw [List.map_cons, List.any_cons, ih]
    have e : eqV (.int j) (.int i) = decide (i = j) := by
      show decide _ = decide _
      apply decide_eq_decide.mpr
      constructor <;> intro h <;> exact h.symm
    rw [e]
    by_cases h : i = j <;> simp [h]
theorem flat_ints (is : List Int) : (is.map V.int).all flatV = true := by
  rw [List.all_eq_true]
  intro x hx
  obtain ⟨j, _, rfl⟩ := List.mem_map.mp hx
  rfl
section
variable {X : Cx} {C : Ct} {g : Gm} {a b : Expr} {pos : Pos} {Q : Av → Gm → Prop} {QT : Bool → Gm → Prop}
theorem ra_inG {neg : Bool} {i : Int} {is : List Int} {y : Av} {K : PySem.W.Frag} (hy : y = .d (.tuple (is.map PyData.int)) ∨ y = .d (.list (is.map PyData.int)) ∨ ∃ j w, y = .o j ∧ g[j]? = some (.ls w (is.map PyData.int))) (q : Q (.d (.bool (if neg then !decide (i ∈ is) else decide (i ∈ is)))) g) : RA K C (rIn K neg) (.d (.int i)) y g Q := fun σ H Z v w I hx hw P p => by
  have hx' : Dd K Z v (.int i) := hx
  cases hx'
  have fin : ∀ ad xs, w = .ref ad → (SqL K H ad xs ∨ SqT K H ad xs) → DdA K Z xs (is.map PyData.int) → rIn K neg (.int i) w H P := fun ad xs e h1 h2 => by
    have e2 := h2.ints
    subst e2
    refine ⟨ad, _, e, h1, rfl, flat_ints is, ?_⟩
    rw [inV_ints]
    exact p _ H Z (.d (.bool _)) g I (Same.refl _) (Dd.bl _) q
  rcases hy with rfl | rfl | ⟨j, w', rfl, hj⟩
  · have hw' : Dd K Z w (.tuple (is.map PyData.int)) := hw
    cases hw' with
    | @tup ad xs _ a1 a2 => exact fin ad xs rfl (.inr (Same.seqT I.fz a1)) a2
  · have hw' : Dd K Z w (.list (is.map PyData.int)) := hw
    cases hw' with
    | @lst ad xs _ a1 a2 => exact fin ad xs rfl (.inl (SqL.of (I.fz _ _ a1))) a2
  · obtain ⟨ad, xs, e, o2, o3, o4, o5⟩ := I.own hj hw
    exact fin ad xs e (.inl (SqL.of o2)) o4
theorem ee_in (hm : behindInMarks .In b = false) (h : EE X C a g fun x g1 => EE X C b g1 fun y g2 => RA X.K C (rIn X.K false) x y g2 Q) : EE X C (.Compare a [.In] [b] pos) g Q := EE.of (pe_cmpR op_in_seq pe_t pe_t hm) (ae_op h)
theorem ee_notIn (hm : behindInMarks .NotIn b = false) (h : EE X C a g fun x g1 => EE X C b g1 fun y g2 => RA X.K C (rIn X.K true) x y g2 Q) : EE X C (.Compare a [.NotIn] [b] pos) g Q := EE.of (pe_cmpR op_notIn_seq pe_t pe_t hm) (ae_op h)
theorem et_in (hm : behindInMarks .In b = false) (h : EE X C a g fun x g1 => EE X C b g1 fun y g2 => RA X.K C (rIn X.K false) x y g2 fun z g3 => ∃ i, z = .d (.bool i) ∧ QT i g3) : ET X C (.Compare a [.In] [b] pos) g QT := et_cmpR op_in_seq hm h
theorem et_notIn (hm : behindInMarks .NotIn b = false) (h : EE X C a g fun x g1 => EE X C b g1 fun y g2 => RA X.K C (rIn X.K true) x y g2 fun z g3 => ∃ i, z = .d (.bool i) ∧ QT i g3) : ET X C (.Compare a [.NotIn] [b] pos) g QT := et_cmpR op_notIn_seq hm h
theorem ra_in2 {i j k : Int} {K : PySem.W.Frag} (q : Q (.d (.bool (decide (i = j ∨ i = k)))) g) : RA K C (rIn K false) (.d (.int i)) (.d (.tuple [.int j, .int k])) g Q := ra_inG (neg := false) (is := [j, k]) (.inl rfl) (by
  have e : (if false = true then !decide (i ∈ [j, k]) else decide (i ∈ [j, k])) = decide (i = j ∨ i = k) := by simp
  rw [e]; exact q)
theorem ra_nin2 {i j k : Int} {K : PySem.W.Frag} (q : Q (.d (.bool (!decide (i = j ∨ i = k)))) g) : RA K C (rIn K true) (.d (.int i)) (.d (.tuple [.int j, .int k])) g Q := ra_inG (neg := true) (is := [j, k]) (.inl rfl) (by
  have e : (if true = true then !decide (i ∈ [j, k]) else decide (i ∈ [j, k])) = !decide (i = j ∨ i = k) := by simp
  rw [e]; exact q)
end
end AL
/-! Calls with keywords; keyword-only parameters with defaults. -/
namespace AL
open PySem PySem.Spec L2
def tKw (X : Cx) (kws : List Keyword) : TA := fun σ H Q => ∀ pos pins s, Inv X pins σ H s → wpAny (model X.prog X.w) X.A (evalAll ((backToKw pos (keywordEach kws X.env)).map (·.2))) (AP X pins σ Q) X.xe s
theorem pk_t {X : Cx} {kws : List Keyword} : PK X kws (tKw X kws) := ⟨fun pos pins s σ H Q I h => h pos pins s I⟩
def EK (X : Cx) (C : Ct) (kws : List Keyword) (g : Gm) (Q : List Av → Gm → Prop) : Prop := AA X.K C (tKw X kws) g Q
section
variable {X : Cx} {C : Ct} {g g' : Gm} {e : Expr} {es : List Expr} {kws : List Keyword} {pos p kpos : Pos} {Q : Av → Gm → Prop} {QA : List Av → Gm → Prop} {x : Str} {nm : Option Str}
theorem EK.of {t : TA} (h : PK X kws t) (a : AA X.K C t g QA) : EK X C kws g QA := fun σ H Z I P p pos pins s J => h.run pos pins s σ H P J (a σ H Z I P p)
theorem ek_nil (q : QA [] g) : EK X C [] g QA := EK.of pk_nil (aa_nil q)
theorem ek_cons (h : EE X C e g fun x g1 => EK X C kws g1 fun xs g2 => QA (x :: xs) g2) : EK X C (⟨nm, e, kpos⟩ :: kws) g QA := EK.of (pk_cons pe_t pk_t) (aa_cons h)
theorem ArsOk.append {K : PySem.W.Frag} {Z : Hp} : ∀ {xs ys : List Ar} {vs ws : List V}, ArsOk K Z xs vs → ArsOk K Z ys ws → ArsOk K Z (xs ++ ys) (vs ++ ws)
  | _, _, _, _, .nil, k => k
  | _, _, _, _, .cons a t, k => .cons a (t.append k)
theorem ArOk.mono {K : PySem.W.Frag} {Z Z' : Hp} (e : Same Z Z') : ∀ {x : Ar} {v : V}, ArOk K Z x v → ArOk K Z' x v
  | .d d, v, h => Dd.mono e d v h
  | .v _, _, h => h
theorem ArsOk.mono {K : PySem.W.Frag} {Z Z' : Hp} (e : Same Z Z') : ∀ {xs : List Ar} {vs : List V}, ArsOk K Z xs vs → ArsOk K Z' xs vs
  | _, _, .nil => .nil
  | _, _, .cons a t => .cons (a.mono e) (t.mono e)
end
/-- values in the def's order -/
def pk {α : Type} (pm : List Nat) (l : List α) : List α := pm.filterMap fun i => l[i]?
theorem pk_vals {vs : List V} {us : List Value} (r : Vals vs us) : ∀ pm : List Nat, Vals (pk pm vs) (pk pm us)
  | [] => .nil
  | i :: pm => by
    have ih := pk_vals r pm
    unfold pk at ih ⊢
    rw [List.filterMap_cons, List.filterMap_cons]
    cases e : vs[i]? with
    | none =>
      have : us[i]? = none := by
        have h := List.getElem?_eq_none_iff.mp e
        exact List.getElem?_eq_none (by rw [← r.length]; exact h)
      rw [this]; exact ih
    | some v =>
      obtain ⟨u, h1, h2⟩ := r.get e
      rw [h1]; exact .cons h2 ih
theorem pk_ars {K : PySem.W.Frag} {Z : Hp} {as : List Ar} {vs : List V} (r : ArsOk K Z as vs) : ∀ pm : List Nat, ArsOk K Z (pk pm as) (pk pm vs)
  | [] => .nil
  | i :: pm => by
    have ih := pk_ars r pm
    unfold pk at ih ⊢
    rw [List.filterMap_cons, List.filterMap_cons]
    have key : ∀ {as : List Ar} {vs : List V} (i : Nat), ArsOk K Z as vs → (as[i]? = none ∧ vs[i]? = none) ∨ ∃ a v, as[i]? = some a ∧ vs[i]? = some v ∧ ArOk K Z a v := by
      intro as vs i h
      induction h generalizing i with
      | nil => exact .inl ⟨by simp, by simp⟩
      | @cons a v _ _ h1 _ ih =>
        cases i with
        | zero => exact .inr ⟨a, v, by simp, by simp, h1⟩
        | succ i => simpa using ih i
    rcases key i r with ⟨e1, e2⟩ | ⟨a, v, e1, e2, h⟩
    · rw [e1, e2]; exact ih
    · rw [e1, e2]; exact .cons h ih
/-- a def whose last parameters are keyword-only, with the defaults dd -/
structure CallableD (P : Program) (w : World) (K : PySem.W.Frag) (mg : Str → Option Value) (base : Heap) (x : Str) (k : Nat) (sp : Sp) (dd : List Ar) : Prop where
  ex : ∃ (f : Addr) (fd : FuncData) (ps : List Str) (ds : List Value) (dvs : List V), FnOk P w K mg base CX0 k f fd ps sp ∧ mg x = some (.ref f) ∧ PySem.W.keepIn K (.ref f) = true ∧ Binds K fd ps ds ∧ Vals dvs ds ∧ ∀ Z : Hp, ArsOk K Z dd dvs
/-- .. called with n values and the keywords ks, in the def's order -/
structure CallableK (P : Program) (w : World) (K : PySem.W.Frag) (mg : Str → Option Value) (base : Heap) (x : Str) (k : Nat) (sp : Sp) (n : Nat) (ks : List Str) (pm : List Nat) : Prop where
  ex : ∃ (f : Addr) (fd : FuncData) (ps : List Str), FnOk P w K mg base CX0 k f fd ps sp ∧ mg x = some (.ref f) ∧ PySem.W.keepIn K (.ref f) = true ∧ KBn K fd ps n ks (fun us ws => pk pm (us ++ ws)) (fun vs zs => pk pm (vs ++ zs))
theorem CallableD.mono {P : Program} {w : World} {K : PySem.W.Frag} {mg : Str → Option Value} {base : Heap} {x : Str} {k k' : Nat} {sp : Sp} {dd : List Ar} (c : CallableD P w K mg base x k sp dd) (h : k ≤ k') : CallableD P w K mg base x k' sp dd := by
  obtain ⟨f, fd, ps, ds, dvs, F, r⟩ := c.ex
  exact ⟨f, fd, ps, ds, dvs, F.mono h, r⟩
theorem CallableK.mono {P : Program} {w : World} {K : PySem.W.Frag} {mg : Str → Option Value} {base : Heap} {x : Str} {k k' : Nat} {sp : Sp} {n : Nat} {ks : List Str} {pm : List Nat} (c : CallableK P w K mg base x k sp n ks pm) (h : k ≤ k') : CallableK P w K mg base x k' sp n ks pm := by
  obtain ⟨f, fd, ps, F, r⟩ := c.ex
  exact ⟨f, fd, ps, F.mono h, r⟩
abbrev CalD (X : Cx) (x : Str) (k : Nat) (sp : Sp) (dd : List Ar) : Prop := CallableD X.prog X.w X.K X.mg X.base x k sp dd
abbrev CalK (X : Cx) (x : Str) (k : Nat) (sp : Sp) (n : Nat) (ks : List Str) (pm : List Nat) : Prop := CallableK X.prog X.w X.K X.mg X.base x k sp n ks pm
section
variable {X : Cx} {C : Ct} {g g' : Gm} {e : Expr} {es : List Expr} {kws : List Keyword} {pos p kpos : Pos} {Q : Av → Gm → Prop} {QL : List PyData → Gm → Prop} {x : Str}
/-- f(a, b): the keyword-only ones by default -/
theorem ee_callD {k n : Nat} {S : Con} {dd : List Ar} (c : CalD X x k (spR X.K n S) dd) (hr : Room k X.A) (n1 : Gn X x) (h : EA X C (e :: es) g fun xs g1 => xs.length + dd.length = n ∧ ∃ as r, CvA g1 xs as ∧ S (as ++ dd) r ∧ Q (.d r) g1)
    (he : starEach (e :: es) X.env = (false, eval e X.env) :: starEach es X.env := by rfl) (hpl : (backTo pos (starEach es X.env)).any (·.1) = false := by rfl) : EE X C (.Call (.Name x p) (e :: es) [] pos) g Q := by
  obtain ⟨f, fd, ps, ds, dvs, F, m, kp, B, V0, D0⟩ := c.ex
  refine EE.of (pe_call (dvs := dvs) (ds := ds) (E := E0) F hr n1.gl m kp B V0 pass0 pa_t n1.d1 he hpl) fun σ H Z I P p => ?_
  refine h σ H Z I _ fun vs H1 Z1 xs g1 I1 s1 a1 q1 => ?_
  obtain ⟨hl, as, r, cv, hS, q⟩ := q1
  have hd := (D0 Z1).length
  refine ⟨by rw [List.length_append, a1.length, hd]; exact hl, Z1, as ++ dd, r, I1.fz, (cv.run a1).append (D0 Z1), hS, fun v H' Z' h1 h2 h3 h4 h5 => ?_⟩
  exact p v H' Z' (.d r) g1 (I1.grow h1 h2 h3 h4) (s1.trans h2) h5 q
theorem en_callD {k n : Nat} {S : List Ar → List PyData → Prop} {dd : List Ar} (c : CalD X x k (spN X.K n S) dd) (hr : Room k X.A) (n1 : Gn X x) (h : EA X C (e :: es) g fun xs g1 => xs.length + dd.length = n ∧ ∃ as r, CvA g1 xs as ∧ S (as ++ dd) r ∧ QL r g1)
    (he : starEach (e :: es) X.env = (false, eval e X.env) :: starEach es X.env := by rfl) (hpl : (backTo pos (starEach es X.env)).any (·.1) = false := by rfl) : EN X C (.Call (.Name x p) (e :: es) [] pos) g QL := by
  obtain ⟨f, fd, ps, ds, dvs, F, m, kp, B, V0, D0⟩ := c.ex
  refine EN.of (pe_call (dvs := dvs) (ds := ds) (E := E0) F hr n1.gl m kp B V0 pass0 pa_t n1.d1 he hpl) fun σ H Z I P p => ?_
  refine h σ H Z I _ fun vs H1 Z1 xs g1 I1 s1 a1 q1 => ?_
  obtain ⟨hl, as, r, cv, hS, q⟩ := q1
  have hd := (D0 Z1).length
  refine ⟨by rw [List.length_append, a1.length, hd]; exact hl, Z1, as ++ dd, r, I1.fz, (cv.run a1).append (D0 Z1), hS, fun t H' Z' xs h1 h2 h3 h4 h5 h6 h7 h8 => ?_⟩
  obtain ⟨m1, m2, m3⟩ := I1.new h5
  exact p t H' Z' r g1 (I1.grow h1 h2 h3 h4) (s1.trans h2) ⟨⟨xs, h6, h8⟩, h7, m2, m3⟩ q
theorem AvsOk.append {K : PySem.W.Frag} {σ : St} {Z : Hp} : ∀ {xs ys : List Av} {vs zs : List V}, AvsOk K σ Z xs vs → AvsOk K σ Z ys zs → AvsOk K σ Z (xs ++ ys) (vs ++ zs)
  | _, _, _, _, .nil, k => k
  | _, _, _, _, .cons a t, k => .cons a (t.append k)
/-- f(a, b, k = v) -/
theorem ee_callK {k n m : Nat} {ks : List Str} {pm : List Nat} {S : Con} (c : CalK X x k (spR X.K n S) m ks pm) (hr : Room k X.A) (n1 : Gn X x) (h : EA X C (e :: es) g fun xs g1 => EK X C kws g1 fun ys g2 => xs.length = m ∧ ys.length = ks.length ∧ ∃ as r, CvA g2 (xs ++ ys) as ∧ (pk pm as).length = n ∧ S (pk pm as) r ∧ Q (.d r) g2)
    (hall : (backToKw pos (keywordEach kws X.env)).all (·.1.isSome) = true := by rfl) (hks : (backToKw pos (keywordEach kws X.env)).filterMap (·.1) = ks := by rfl)
    (he : starEach (e :: es) X.env = (false, eval e X.env) :: starEach es X.env := by rfl)
    (hpl : ((backTo pos (starEach (e :: es) X.env)).any (·.1) || (backToKw pos (keywordEach kws X.env)).any (·.1.isNone)) = false := by rfl) : EE X C (.Call (.Name x p) (e :: es) kws pos) g Q := by
  obtain ⟨f, fd, ps, F, mm, kp, B⟩ := c.ex
  refine EE.of (pe_callN (E := E0) F hr n1.gl mm kp B pass0 pa_t pk_t hall hks n1.d1 he hpl) fun σ H Z I P p => ?_
  refine h σ H Z I _ fun vs H1 Z1 xs g1 I1 s1 a1 q1 => q1 σ H1 Z1 I1 _ fun zs H2 Z2 ys g2 I2 s2 a2 q2 => ?_
  obtain ⟨l1, l2, as, r, cv, l3, hS, q⟩ := q2
  have ar := pk_ars (cv.run ((a1.mono s2).append a2)) pm
  refine ⟨a1.length.trans l1, a2.length.trans l2, ar.length.trans l3, Z2, pk pm as, r, I2.fz, ar, hS, fun v H' Z' h1 h2 h3 h4 h5 => ?_⟩
  exact p v H' Z' (.d r) g2 (I2.grow h1 h2 h3 h4) ((s1.trans s2).trans h2) h5 q
theorem en_callK {k n m : Nat} {ks : List Str} {pm : List Nat} {S : List Ar → List PyData → Prop} (c : CalK X x k (spN X.K n S) m ks pm) (hr : Room k X.A) (n1 : Gn X x) (h : EA X C (e :: es) g fun xs g1 => EK X C kws g1 fun ys g2 => xs.length = m ∧ ys.length = ks.length ∧ ∃ as r, CvA g2 (xs ++ ys) as ∧ (pk pm as).length = n ∧ S (pk pm as) r ∧ QL r g2)
    (hall : (backToKw pos (keywordEach kws X.env)).all (·.1.isSome) = true := by rfl) (hks : (backToKw pos (keywordEach kws X.env)).filterMap (·.1) = ks := by rfl)
    (he : starEach (e :: es) X.env = (false, eval e X.env) :: starEach es X.env := by rfl)
    (hpl : ((backTo pos (starEach (e :: es) X.env)).any (·.1) || (backToKw pos (keywordEach kws X.env)).any (·.1.isNone)) = false := by rfl) : EN X C (.Call (.Name x p) (e :: es) kws pos) g QL := by
  obtain ⟨f, fd, ps, F, mm, kp, B⟩ := c.ex
  refine EN.of (pe_callN (E := E0) F hr n1.gl mm kp B pass0 pa_t pk_t hall hks n1.d1 he hpl) fun σ H Z I P p => ?_
  refine h σ H Z I _ fun vs H1 Z1 xs g1 I1 s1 a1 q1 => q1 σ H1 Z1 I1 _ fun zs H2 Z2 ys g2 I2 s2 a2 q2 => ?_
  obtain ⟨l1, l2, as, r, cv, l3, hS, q⟩ := q2
  have ar := pk_ars (cv.run ((a1.mono s2).append a2)) pm
  refine ⟨a1.length.trans l1, a2.length.trans l2, ar.length.trans l3, Z2, pk pm as, r, I2.fz, ar, hS, fun t H' Z' xs h1 h2 h3 h4 h5 h6 h7 h8 => ?_⟩
  obtain ⟨m1, m2, m3⟩ := I2.new h5
  exact p t H' Z' r g2 (I2.grow h1 h2 h3 h4) ((s1.trans s2).trans h2) ⟨⟨xs, h6, h8⟩, h7, m2, m3⟩ q
/-- f(k = v, ..) -/
theorem pe_callN0 {CX : CXT} {k : Nat} {f : Addr} {fd : FuncData} {ps ks : List Str} {sp : Sp} {E : XK} {tk : TA} {g : List Value → List Value → List Value} {gV : List V → List V → List V} (F : FnOk X.prog X.w X.K X.mg X.base CX k f fd ps sp) (hr : Room k X.A) (hg : Gl X x) (hm : X.mg x = some (.ref f)) (hk : PySem.W.keepIn X.K (.ref f) = true) (hb : KBn X.K fd ps 0 ks g gV) (hx : Passes CX X E)
    (hkw : PK X kws tk) (hall : (backToKw pos (keywordEach kws X.env)).all (·.1.isSome) = true) (hks : (backToKw pos (keywordEach kws X.env)).filterMap (·.1) = ks) (hdb : (x == ("__debug__" : Str)) = false)
    (hpl : ((backTo pos (starEach [] X.env)).any (·.1) || (backToKw pos (keywordEach kws X.env)).any (·.1.isNone)) = false) : PE X (.Call (.Name x p) [] kws pos) (tCallN 0 ks.length sp gV E tNil tk) :=
  ⟨fun pins s σ H Q I h => wpAny_Call_Name_kw (ld_glob I hg hm (PySem.W.callWith_KW0 (h₀ := X.base) I.ok.mod.kin hk hall (thn (hkw.run pos pins s σ H _ I h) fun ws s2 q => by
    obtain ⟨zs, H2, I2, rz, l1, l2, q2⟩ := q
    refine ⟨I2.kIn, ?_⟩
    rw [hks]
    exact run_fnN (us := []) (vs := []) F hr hb hx I2 .nil rz l1 l2 q2) hpl) hdb)⟩
theorem ee_callK0 {k n : Nat} {ks : List Str} {pm : List Nat} {S : Con} (c : CalK X x k (spR X.K n S) 0 ks pm) (hr : Room k X.A) (n1 : Gn X x) (h : EK X C kws g fun ys g2 => ys.length = ks.length ∧ ∃ as r, CvA g2 ys as ∧ (pk pm as).length = n ∧ S (pk pm as) r ∧ Q (.d r) g2)
    (hall : (backToKw pos (keywordEach kws X.env)).all (·.1.isSome) = true := by rfl) (hks : (backToKw pos (keywordEach kws X.env)).filterMap (·.1) = ks := by rfl)
    (hpl : ((backTo pos (starEach [] X.env)).any (·.1) || (backToKw pos (keywordEach kws X.env)).any (·.1.isNone)) = false := by rfl) : EE X C (.Call (.Name x p) [] kws pos) g Q := by
  obtain ⟨f, fd, ps, F, mm, kp, B⟩ := c.ex
  refine EE.of (pe_callN0 (E := E0) F hr n1.gl mm kp B pass0 pk_t hall hks n1.d1 hpl) fun σ H Z I P p => ?_
  refine h σ H Z I _ fun zs H2 Z2 ys g2 I2 s2 a2 q2 => ?_
  obtain ⟨l2, as, r, cv, l3, hS, q⟩ := q2
  have ar := pk_ars (cv.run a2) pm
  refine ⟨rfl, a2.length.trans l2, ar.length.trans l3, Z2, pk pm as, r, I2.fz, ar, hS, fun v H' Z' h1 h2 h3 h4 h5 => ?_⟩
  exact p v H' Z' (.d r) g2 (I2.grow h1 h2 h3 h4) (s2.trans h2) h5 q
theorem en_callK0 {k n : Nat} {ks : List Str} {pm : List Nat} {S : List Ar → List PyData → Prop} (c : CalK X x k (spN X.K n S) 0 ks pm) (hr : Room k X.A) (n1 : Gn X x) (h : EK X C kws g fun ys g2 => ys.length = ks.length ∧ ∃ as r, CvA g2 ys as ∧ (pk pm as).length = n ∧ S (pk pm as) r ∧ QL r g2)
    (hall : (backToKw pos (keywordEach kws X.env)).all (·.1.isSome) = true := by rfl) (hks : (backToKw pos (keywordEach kws X.env)).filterMap (·.1) = ks := by rfl)
    (hpl : ((backTo pos (starEach [] X.env)).any (·.1) || (backToKw pos (keywordEach kws X.env)).any (·.1.isNone)) = false := by rfl) : EN X C (.Call (.Name x p) [] kws pos) g QL := by
  obtain ⟨f, fd, ps, F, mm, kp, B⟩ := c.ex
  refine EN.of (pe_callN0 (E := E0) F hr n1.gl mm kp B pass0 pk_t hall hks n1.d1 hpl) fun σ H Z I P p => ?_
  refine h σ H Z I _ fun zs H2 Z2 ys g2 I2 s2 a2 q2 => ?_
  obtain ⟨l2, as, r, cv, l3, hS, q⟩ := q2
  have ar := pk_ars (cv.run a2) pm
  refine ⟨rfl, a2.length.trans l2, ar.length.trans l3, Z2, pk pm as, r, I2.fz, ar, hS, fun t H' Z' xs h1 h2 h3 h4 h5 h6 h7 h8 => ?_⟩
  obtain ⟨m1, m2, m3⟩ := I2.new h5
  exact p t H' Z' r g2 (I2.grow h1 h2 h3 h4) (s2.trans h2) ⟨⟨xs, h6, h8⟩, h7, m2, m3⟩ q
end
section
variable {X : Cx} {g : Gm} {scope : Scope} {s : Shared} {H : Hp} {Cm : Addr} {cl : List (Str × Addr)} {fp : List Addr} {x : Str} {k n : Nat} {sp : Sp} {dd : List Ar} {ks : List Str} {pm : List Nat}
theorem calDB (c : CalD X x k sp dd) : CalD (bk X scope s H Cm cl fp) x k sp dd := c
theorem calKB (c : CalK X x k sp n ks pm) : CalK (bk X scope s H Cm cl fp) x k sp n ks pm := c
theorem lf_callD {α : Type} {S : List Ar → α → Prop} {xs : List Av} {as : List Ar} {r : α} {φ : α → Prop} (hn : xs.length + dd.length = n) (cv : CvA g xs as) (con : S (as ++ dd) r) (q : φ r) : xs.length + dd.length = n ∧ ∃ as r, CvA g xs as ∧ S (as ++ dd) r ∧ φ r := ⟨hn, as, r, cv, con, q⟩
theorem lf_callK {α : Type} {S : List Ar → α → Prop} {m : Nat} {xs ys : List Av} {as : List Ar} {r : α} {φ : α → Prop} (h1 : xs.length = m) (h2 : ys.length = ks.length) (cv : CvA g (xs ++ ys) as) (h3 : (pk pm as).length = n) (con : S (pk pm as) r) (q : φ r) : xs.length = m ∧ ys.length = ks.length ∧ ∃ as r, CvA g (xs ++ ys) as ∧ (pk pm as).length = n ∧ S (pk pm as) r ∧ φ r := ⟨h1, h2, as, r, cv, h3, con, q⟩
theorem lf_callK0 {α : Type} {S : List Ar → α → Prop} {ys : List Av} {as : List Ar} {r : α} {φ : α → Prop} (h2 : ys.length = ks.length) (cv : CvA g ys as) (h3 : (pk pm as).length = n) (con : S (pk pm as) r) (q : φ r) : ys.length = ks.length ∧ ∃ as r, CvA g ys as ∧ (pk pm as).length = n ∧ S (pk pm as) r ∧ φ r := ⟨h2, as, r, cv, h3, con, q⟩
end
/-- every parameter is given -/
theorem kb_all {K : PySem.W.Frag} {x qual : Str} {params : Arguments} {body : List Stmt} {scope : Scope} {kws : List (Str × V)} {f : Addr} {fd : FuncData} {ps : List Str} (F : FunD K x qual params body scope [] kws f fd) (n : Nat) (ks : List Str) (pm : List Nat)
    (h : ∀ (kV doc pm' : Value) (an : Option Addr) (cdv ct : Value) (us ws : List Value), us.length = n → ws.length = ks.length → bindArgs (PySem.W.fnOf x qual params body scope .none kV doc pm' an cdv ct) ⟨us, ks.zip ws⟩ = pure (ps.zip (pk pm (us ++ ws)))) : KBn K fd ps n ks (fun us ws => pk pm (us ++ ws)) (fun vs zs => pk pm (vs ++ zs)) := by
  obtain ⟨oc, od, dV, kV, doc, pm', an, cdv, ct, osl, rfl, lk, hcd, hD, hK⟩ := F.ex
  rcases hD with ⟨_, rfl⟩ | ⟨e, _⟩
  · exact ⟨fun s us ws _ l1 l2 => .of_eq (h kV doc pm' an cdv ct us ws l1 l2), fun r1 r2 => pk_vals (r1.append r2) pm⟩
  · exact absurd rfl e
end AL
/-! zip of two lists; slices of lists. -/
namespace AL
open PySem PySem.Spec L2
def zipD (ds es : List PyData) : List PyData := (ds.zip es).map fun p => .tuple [p.1, p.2]
theorem zipD_len (ds es : List PyData) : (zipD ds es).length = min ds.length es.length := by simp [zipD]
theorem zipD_get {ds es : List PyData} {i : Nat} {d : PyData} (h : (zipD ds es)[i]? = some d) : ∃ x y, ds[i]? = some x ∧ es[i]? = some y ∧ d = .tuple [x, y] := by
  simp only [zipD, List.getElem?_map, Option.map_eq_some_iff] at h
  obtain ⟨⟨x, y⟩, h1, h2⟩ := h
  obtain ⟨h3, h4⟩ := List.getElem?_zip_eq_some.mp h1
  exact ⟨x, y, h3, h4, h2.symm⟩
theorem wk_zipL {K : PySem.W.Frag} {Z1 : Hp} {a b : Addr} {xs ys : List V} {ds es : List PyData} (e1 : Z1 a = some (.lst xs)) (d1 : DdA K Z1 xs ds) (e2 : Z1 b = some (.lst ys)) (d2 : DdA K Z1 ys es) : Wk K Z1 (Itz K a b) (zipD ds es) := by
  refine ⟨fun H => SqL K H a xs ∧ SqL K H b ys, YPair (fun i => xs[i]?) (fun i => ys[i]?), ?_, fun _ g σ H Z I s => ⟨SqL.of (I.fz _ _ (s _ _ e1)), SqL.of (I.fz _ _ (s _ _ e2))⟩, fun _ i H x H' g σ Z d I s e y => ?_⟩
  · exact walk_zip (by rw [zipD_len, d1.length, d2.length])
  · obtain ⟨T, u, v, rfl, hT, rfl, h1, h2⟩ := y
    obtain ⟨p, k1, k2⟩ := (d1.mono s).getV h1
    obtain ⟨q, k3, k4⟩ := (d2.mono s).getV h2
    obtain ⟨p', q', k5, k6, rfl⟩ := zipD_get e
    rw [k1] at k5; cases k5
    rw [k3] at k6; cases k6
    obtain ⟨I2, s2, _⟩ := I.newF (o := .tup [u, v]) hT
    exact ⟨_, I2, s2, .tup (SqT.of upd_same) (.cons (k2.mono s2) (.cons (k4.mono s2) .nil))⟩
section
variable {X : Cx} {C : Ct} {g g' : Gm} {e a b o hi lo : Expr} {pos p p2 tpos : Pos} {Q : Av → Gm → Prop} {QI : List PyData → Gm → Prop} {elts : List Expr} {kk : Nat}
theorem ei_zip (n : Bn X "zip") (h : EE X C a g fun x g1 => EE X C b g1 fun y g2 => ∃ ds es g3, Frz [x, y] g2 [.list ds, .list es] g3 ∧ QI (zipD ds es) g3) (he : starEach [a, b] X.env = (false, eval a X.env) :: starEach [b] X.env := by rfl) (he2 : starEach [b] X.env = (false, eval b X.env) :: starEach [] X.env := by rfl) : EI X C (.Tuple elts kk tpos) (.Call (.Name "zip" p) [a, b] [] pos) g QI :=
  EI.of (pi_zip n.gl n.mg pa_t he (by rw [he2]; rfl)) fun σ H Z I R p =>
    (show EA X C [a, b] g (fun xs g2 => ∃ x y ds es g3, xs = [x, y] ∧ Frz [x, y] g2 [.list ds, .list es] g3 ∧ QI (zipD ds es) g3) from ea_cons (h.mono fun x g1 h1 => ea_cons (h1.mono fun y g2 ⟨ds, es, g3, q⟩ => ea_nil ⟨x, y, ds, es, g3, rfl, q⟩) he2) he) σ H Z I _ fun vs H1 Z1 xs g1 I1 s1 a1 q1 => by
      obtain ⟨x, y, ds, es, g3, rfl, f, q⟩ := q1
      obtain ⟨Z2, I2, s2, r2⟩ := f.run I1 a1
      cases r2 with
      | cons r3 r4 =>
        cases r4 with
        | cons r5 r6 =>
          cases r6
          cases r3 with
          | @lst ad xs _ e1 d1 =>
            cases r5 with
            | @lst bd ys _ e2 d2 =>
              exact ⟨ad, bd, xs, ys, rfl, SqL.of (I2.fz _ _ e1), SqL.of (I2.fz _ _ e2), p _ H1 Z2 _ g3 I2 (s1.trans s2) (wk_zipL e1 d1 e2 d2) q⟩
theorem lf_zip {x y : Av} {ds es : List PyData} {g2 g3 : Gm} {φ : List PyData → List PyData → Gm → Prop} (f : Frz [x, y] g2 [.list ds, .list es] g3) (q : φ ds es g3) : ∃ ds es g3, Frz [x, y] g2 [.list ds, .list es] g3 ∧ φ ds es g3 := ⟨ds, es, g3, f, q⟩
/-! ### slices of tuples and lists -/
def KL (g : Gm) (x : Av) (ds : List PyData) : Prop := x = .d (.list ds) ∨ ∃ j w, x = .o j ∧ g[j]? = some (.ls w ds)
theorem ta_slL {K : PySem.W.Frag} {σ : St} {H Z : Hp} {x : Av} {v : V} {ds : List PyData} {l u : Option Int} {P : VK} (I : Ok K C g σ H Z) (hx : KL g x ds) (h : AvOk K σ Z x v) (p : ∀ v H' Z', Ok K C g σ H' Z' → Same Z Z' → Dd K Z' v (.list (cutD ds l u)) → P v H') : rSlL K v l u H P := by
  have fin : ∀ ad xs, v = .ref ad → SqL K H ad xs → DdA K Z xs ds → rSlL K v l u H P := fun ad xs e h1 h2 => by
    refine ⟨ad, xs, e, h1, fun t ht => ?_⟩
    obtain ⟨m1, m2, m3⟩ := I.new ht
    have I2 : Ok K C g σ (upd H t (.lst (cutV xs l u))) Z := I.newO ht
    obtain ⟨Z', I3, s3, d3⟩ := I2.frzN (p := t) (ds := cutD ds l u) ⟨⟨_, upd_same, h2.cut l u⟩, m1, m2, m3⟩
    exact p _ _ Z' I3 s3 d3
  rcases hx with rfl | ⟨j, w, rfl, hj⟩
  · have h' : Dd K Z v (.list ds) := h
    cases h' with
    | @lst ad xs _ a1 a2 => exact fin ad xs rfl (SqL.of (I.fz _ _ a1)) a2
  · obtain ⟨ad, xs, e, o2, o3, o4, o5⟩ := I.own hj h
    exact fin ad xs e (SqL.of o2) o4
abbrev rSl2 (K : PySem.W.Frag) := fun (x : V) (l u : Option Int) (H : Hp) (P : VK) => rSlA K x l u H P ∨ rSlL K x l u H P
/-- x[k:] -/
theorem ee_sl2Lo (h : EE X C e g fun x g1 => EE X C lo g1 fun y g2 => ∃ k ds, y = .d (.int k) ∧ 0 ≤ k ∧ ((x = .d (.tuple ds) ∧ Q (.d (.tuple (ds.drop k.toNat))) g2) ∨ (KL g2 x ds ∧ Q (.d (.list (ds.drop k.toNat))) g2))) : EE X C (.Subscript e (.Slice (some lo) none none p2) pos) g Q :=
  EE.of (pe_slice (SlR.or sl_tupA sl_list) pe_t (po_some pe_t) po_none) fun σ H Z I P p => h σ H Z I _ fun v H1 Z1 x g1 I1 s1 a1 h1 => h1 σ H1 Z1 I1 _ fun w H2 Z2 y g2 I2 s2 a2 q => by
    obtain ⟨k, ds, rfl, hk, q⟩ := q
    have a2' : Dd X.K Z2 w (.int k) := a2
    cases a2'
    rcases q with ⟨rfl, q⟩ | ⟨kl, q⟩
    · refine ⟨k, rfl, .inl (ta_sl I2 (Dd.mono s2 _ _ a1) fun v H3 Z3 I3 s3 d3 => ?_)⟩
      rw [cut_lo hk] at d3
      exact p v H3 Z3 (.d (.tuple (ds.drop k.toNat))) g2 I3 ((s1.trans s2).trans s3) d3 q
    · refine ⟨k, rfl, .inr (ta_slL I2 kl (a1.mono s2) fun v H3 Z3 I3 s3 d3 => ?_)⟩
      rw [cut_lo hk] at d3
      exact p v H3 Z3 (.d (.list (ds.drop k.toNat))) g2 I3 ((s1.trans s2).trans s3) d3 q
/-- x[:k] -/
theorem ee_sl2Hi (h : EE X C e g fun x g1 => EE X C hi g1 fun y g2 => ∃ k ds, y = .d (.int k) ∧ 0 ≤ k ∧ ((x = .d (.tuple ds) ∧ Q (.d (.tuple (ds.take k.toNat))) g2) ∨ (KL g2 x ds ∧ Q (.d (.list (ds.take k.toNat))) g2))) : EE X C (.Subscript e (.Slice none (some hi) none p2) pos) g Q :=
  EE.of (pe_slice (SlR.or sl_tupA sl_list) pe_t po_none (po_some pe_t)) fun σ H Z I P p => h σ H Z I _ fun v H1 Z1 x g1 I1 s1 a1 h1 => h1 σ H1 Z1 I1 _ fun w H2 Z2 y g2 I2 s2 a2 q => by
    obtain ⟨k, ds, rfl, hk, q⟩ := q
    have a2' : Dd X.K Z2 w (.int k) := a2
    cases a2'
    rcases q with ⟨rfl, q⟩ | ⟨kl, q⟩
    · refine ⟨k, rfl, .inl (ta_sl I2 (Dd.mono s2 _ _ a1) fun v H3 Z3 I3 s3 d3 => ?_)⟩
      rw [cut_hi hk] at d3
      exact p v H3 Z3 (.d (.tuple (ds.take k.toNat))) g2 I3 ((s1.trans s2).trans s3) d3 q
    · refine ⟨k, rfl, .inr (ta_slL I2 kl (a1.mono s2) fun v H3 Z3 I3 s3 d3 => ?_)⟩
      rw [cut_hi hk] at d3
      exact p v H3 Z3 (.d (.list (ds.take k.toNat))) g2 I3 ((s1.trans s2).trans s3) d3 q
theorem lf_slT {y : Av} {k : Int} {ds : List PyData} {φ : Int → List PyData → Prop} {A : Int → List PyData → Prop} {B : Int → List PyData → Prop} (hy : y = .d (.int k)) (hk : 0 ≤ k) (hx : φ k ds) (q : A k ds) : ∃ k ds, y = .d (.int k) ∧ 0 ≤ k ∧ ((φ k ds ∧ A k ds) ∨ B k ds) := ⟨k, ds, hy, hk, .inl ⟨hx, q⟩⟩
theorem lf_slL {y x : Av} {k : Int} {ds : List PyData} {B : Int → List PyData → Prop} {A : Int → List PyData → Prop} (hy : y = .d (.int k)) (hk : 0 ≤ k) (hx : KL g x ds) (q : A k ds) : ∃ k ds, y = .d (.int k) ∧ 0 ≤ k ∧ (B k ds ∨ (KL g x ds ∧ A k ds)) := ⟨k, ds, hy, hk, .inr ⟨hx, q⟩⟩
theorem kl_l {ds : List PyData} : KL g (.d (.list ds)) ds := .inl rfl
theorem kl_o {j : Nat} {w : Option Nat} {ds : List PyData} (h : g[j]? = some (.ls w ds)) : KL g (.o j) ds := .inr ⟨j, w, rfl, h⟩
end
end AL
/-! Defs in which repr is asked or lambdas are made: promises that know the guards and the tables. -/
namespace AL
open PySem PySem.Spec PyProof.Rows L2
/-! ### what repr writes -/
structure Shb (n k : Nat) (d : PyData) : Prop where
  lay : d.canLay0 = true
  shw : d.showable = true
  len : d.shown.length ≤ n
  dep : d.depth ≤ k
theorem Shb.mono {n n' k k' : Nat} {d : PyData} (h : Shb n k d) (a : n ≤ n') (b : k ≤ k') : Shb n' k' d := ⟨h.lay, h.shw, Nat.le_trans h.len a, Nat.le_trans h.dep b⟩
theorem shb_none : Shb 4 0 .none := ⟨rfl, rfl, by decide +kernel, Nat.le_refl _⟩
theorem shb_bool (b : Bool) : Shb 5 0 (.bool b) := by
  cases b <;> exact ⟨rfl, rfl, by decide +kernel, Nat.le_refl _⟩
structure ShbA (n k : Nat) (ds : List PyData) : Prop where
  lay : PyData.canLayAll0 ds = true
  shw : PyData.showableAll ds = true
  len : ∀ t ∈ PyData.shownAll ds, t.length ≤ n
  cnt : (PyData.shownAll ds).length = ds.length
  dep : PyData.depthAll ds ≤ k
theorem shbA {n k : Nat} : ∀ {ds : List PyData}, (∀ d ∈ ds, Shb n k d) → ShbA n k ds
  | [], _ => ⟨rfl, rfl, fun t h => (by simp [PyData.shownAll] at h), rfl, Nat.zero_le _⟩
  | d :: ds, h => by
    have a := h d (by simp)
    have b := shbA (ds := ds) fun e he => h e (by simp [he])
    refine ⟨by simp [PyData.canLayAll0, a.lay, b.lay], by simp [PyData.showableAll, a.shw, b.shw], fun t ht => ?_, by simp [PyData.shownAll, b.cnt], ?_⟩
    · simp only [PyData.shownAll, List.mem_cons] at ht
      rcases ht with e | ht
      · rw [e]; exact a.len
      · exact b.len t ht
    · simp only [PyData.depthAll]; exact Nat.max_le.mpr ⟨a.dep, b.dep⟩
theorem textFrom_le {n : Nat} : ∀ (ts : List Str) (k : Nat) (acc : Str), (∀ t ∈ ts, t.length ≤ n) → (textFrom k acc ts).length ≤ acc.length + ts.length * (n + 2)
  | [], k, acc, _ => by simp [textFrom]
  | t :: ts, k, acc, h => by
    have ih := textFrom_le ts (k + 1) (acc ++ (if k > 0 then ", " else "" : String) ++ t) fun u hu => h u (by simp [hu])
    have e : (acc ++ (if k > 0 then ", " else "" : String) ++ t).length = acc.length + (if k > 0 then 2 else 0) + t.length := by
      rw [strLen_append, strLen_append]
      split <;> rfl
    have ht := h t (by simp)
    simp only [textFrom, List.length_cons, Nat.add_mul]
    have e2 : (if k > 0 then 2 else 0) ≤ 2 := by split <;> omega
    omega
theorem join_le {n : Nat} : ∀ (ts : List Str), (∀ t ∈ ts, t.length ≤ n) → (Str.join ", " ts).length ≤ ts.length * (n + 2)
  | [], _ => by simp [Str.join, Str.length, Str.empty]
  | [t], h => by
    have := h t (by simp)
    show t.length ≤ _
    simp only [List.length_cons, List.length_nil]; omega
  | t :: u :: ts, h => by
    have ih := join_le (u :: ts) fun v hv => h v (by simp at hv ⊢; right; exact hv)
    have ht := h t (by simp)
    show (t ++ ", " ++ Str.join ", " (u :: ts)).length ≤ _
    rw [strLen_append, strLen_append]
    have e : ((", " : String) : Str).length = 2 := rfl
    rw [e]
    simp only [List.length_cons, Nat.add_mul] at ih ⊢
    omega
theorem shb_list {n k m : Nat} {ds : List PyData} (h : ∀ d ∈ ds, Shb n k d) (hl : ds.length ≤ m) : Shb (m * (n + 2) + 2) (k + 1) (.list ds) := by
  have a := shbA h
  refine ⟨by simp [PyData.canLay0, a.lay], by simp [PyData.showable, a.shw], ?_, by simp only [PyData.depth]; have := a.dep; omega⟩
  simp only [PyData.shown, listText]
  rw [strLen_append]
  have e := textFrom_le (PyData.shownAll ds) 0 "[" a.len
  rw [a.cnt] at e
  have e2 : ((("[" : String)) : Str).length = 1 := rfl
  have e3 : ((("]" : String)) : Str).length = 1 := rfl
  rw [e2] at e
  rw [e3]
  have := Nat.mul_le_mul_right (n + 2) hl
  omega
theorem shb_tup {n k m : Nat} {ds : List PyData} (h : ∀ d ∈ ds, Shb n k d) (hl : ds.length ≤ m) : Shb (m * (n + 2) + 3) (k + 1) (.tuple ds) := by
  have a := shbA h
  refine ⟨by simp [PyData.canLay0, a.lay], by simp [PyData.showable, a.shw], ?_, by simp only [PyData.depth]; have := a.dep; omega⟩
  simp only [PyData.shown, tupleText]
  rw [strLen_append, strLen_append]
  have e := join_le (PyData.shownAll ds) a.len
  rw [a.cnt] at e
  have e2 : ((("(" : String)) : Str).length = 1 := rfl
  have e3 : ((if (PyData.shownAll ds).length == 1 then ",)" else ")" : String) : Str).length ≤ 2 := by split <;> decide
  rw [e2]
  have := Nat.mul_le_mul_right (n + 2) hl
  omega
theorem log2_lt {n k : Nat} (h : n < 2 ^ k) (hk : 0 < k) : n.log2 < k := by
  by_cases z : n = 0
  · rw [z]; simpa using hk
  · exact (Nat.log2_lt z).mpr h
theorem shb_int {i : Int} (h : i.natAbs < 2 ^ 1920) : Shb 1921 0 (.int i) := by
  have l : i.natAbs.log2 < 1920 := log2_lt h (by decide)
  refine ⟨rfl, by simp [PyData.showable, l], ?_, Nat.le_refl _⟩
  show (Str.ofString (toString i)).length ≤ _
  rw [PySem.ofString_length]
  exact int_text_length_le (by decide) l
theorem shb_small {i : Int} {k : Nat} (hk : 0 < k) (hk2 : k ≤ 570) (h : i.natAbs < 10 ^ k) : Shb (k + 1) 0 (.int i) := by
  have l : i.natAbs.log2 < 1920 := log2_lt (Nat.lt_of_lt_of_le h (Nat.le_trans (Nat.pow_le_pow_right (by decide) hk2) (by decide +kernel))) (by decide)
  refine ⟨rfl, by simp [PyData.showable, l], ?_, Nat.le_refl _⟩
  show (Str.ofString (toString i)).length ≤ _
  rw [PySem.ofString_length]
  exact int_text_length_le10 hk h
/-- what may be shown whole -/
def Shw (d : PyData) : Prop := Shb 16000000 60 d
/-- repr(e) -/
def rRep (K : PySem.W.Frag) : List V → Hp → VK → Prop := fun xs H Q => ∃ x d, xs = [x] ∧ Dp K H x d ∧ Shw d ∧ Q (.str d.shown) H
theorem call_rep {X : Cx} {k : Nat} (hr : Room k X.A) (hg : X.A.guards = some []) : CallR X (.builtin "repr") (rRep X.K) := by
  intro pins s σ H xs us Q I r h
  obtain ⟨x, d, rfl, hd, sh, q⟩ := h
  obtain ⟨u, rfl, t⟩ := vals1 r
  have fin : ∀ h' w tk, (∀ b o, s.heap.get? b = some o → h'.get? b = some o) → EP X pins σ Q (.str d.shown w) { s with heap := h', toks := tk } := fun h' w tk hk =>
    ⟨.str d.shown, H, I.kept hk, ⟨w, rfl⟩, q⟩
  have fin0 : ∀ w tk, EP X pins σ Q (.str d.shown w) { s with toks := tk } := fun w tk => ⟨.str d.shown, H, I.tok _, ⟨w, rfl⟩, q⟩
  have hsz : d.shown.length ≤ sizeLine := Nat.le_trans sh.len (by decide)
  have un := hr.un
  cases d with
  | none => cases hd; cases t; exact PySem.P.repr_of_none (fin0 _ _)
  | bool b => cases hd; cases t; exact PySem.P.repr_of_bool (fin0 _ _)
  | int i =>
    cases hd
    obtain ⟨t, rfl⟩ := t
    have z : i.natAbs.log2 < 1920 := by have := sh.shw; simpa [PyData.showable] using this
    exact PySem.P.repr_of_int z (fin0 _ _)
  | str y =>
    cases hd
    obtain ⟨t, rfl⟩ := t
    exact PySem.P.repr_of_str (fin0 _ _) hsz
  | list ds =>
    obtain ⟨as, rd⟩ := Dp.reads I _ _ _ hd t
    cases hd
    cases t
    exact PySem.repr_of_reads' rd sh.shw (PyData.noDict_hsm (PyData.hasDict_of_canLay _ sh.lay)) hg (by have := sh.dep; omega) (fun _ _ e => e) fin hsz
  | tuple ds =>
    obtain ⟨as, rd⟩ := Dp.reads I _ _ _ hd t
    cases hd
    cases t
    exact PySem.repr_of_reads' rd sh.shw (PyData.noDict_hsm (PyData.hasDict_of_canLay _ sh.lay)) hg (by have := sh.dep; omega) (fun _ _ e => e) fin hsz
  | dict l => cases hd
end AL
/-! Promises that know the guards and the tables; their calls. -/
namespace AL
open PySem PySem.Spec L2
open PyProof.Rows hiding St
structure FnG (P : Program) (w : World) (K : PySem.W.Frag) (mg : Str → Option Value) (base : Heap) (k : Nat) (f : Addr) (fd : FuncData) (ps : List Str) (sp : Sp) : Prop where
  len : ∀ vs H Q E, sp vs H Q E → vs.length = ps.length
  run : ∀ (A : Around) (outer : List Env) (s : Shared) (H : Hp) (args : Args) (us : List Value) (vs : List V) (Q : VK), Room k A → A.guards = some [] → Env0 P w K mg base A outer s H → BindsTo s fd args (ps.zip us) → Vals vs us →
    sp vs H Q L2.E0 → codeAny (model P w) A (.call (.ref f) args) (CR L2.CX0 outer P w H s Q L2.E0) s
theorem FnG.mono {P : Program} {w : World} {K : PySem.W.Frag} {mg : Str → Option Value} {base : Heap} {j k : Nat} {f : Addr} {fd : FuncData} {ps : List Str} {sp : Sp} (F : FnG P w K mg base j f fd ps sp) (h : j ≤ k) : FnG P w K mg base k f fd ps sp :=
  ⟨F.len, fun A outer s H args us vs Q hr => F.run A outer s H args us vs Q (hr.mono h)⟩
theorem FnG.imp {P : Program} {w : World} {K : PySem.W.Frag} {mg : Str → Option Value} {base : Heap} {k : Nat} {f : Addr} {fd : FuncData} {ps : List Str} {sp sp' : Sp} (F : FnG P w K mg base k f fd ps sp) (h : ∀ vs H Q E, sp' vs H Q E → sp vs H Q E) : FnG P w K mg base k f fd ps sp' :=
  ⟨fun vs H Q E q => F.len vs H Q E (h _ _ _ _ q), fun A outer s H args us vs Q hr hg he hb hv hs => F.run A outer s H args us vs Q hr hg he hb hv (h _ _ _ _ hs)⟩
abbrev Tb := List (Addr × Str)
/-- all that stood stands, but for the tables -/
def SameT (T : Tb) (H H' : Hp) : Prop := ∀ (a : Addr) (o : HO), a ∉ T.map (·.1) → H a = some o → H' a = some o
def spG (K : PySem.W.Frag) (T : Tb) (n : Nat) (S : Con) : Sp := fun vs H Q _ => vs.length = n ∧ LamX.Tabs T H ∧ ∃ Z as r, Same Z H ∧ (∀ p ∈ T, Z p.1 = none) ∧ ArsOk K Z as vs ∧ S as r ∧
  ∀ v H' Z', LamX.Tabs T H' → SameT T H H' → Same Z Z' → Same Z' H' → (∀ (a : Addr) (o : HO), Z' a = some o → Z a = some o ∨ H a = none) → Dd K Z' v r → Q v H'
def spGN (K : PySem.W.Frag) (T : Tb) (n : Nat) (S : List Ar → List PyData → Prop) : Sp := fun vs H Q _ => vs.length = n ∧ LamX.Tabs T H ∧ ∃ Z as r, Same Z H ∧ (∀ p ∈ T, Z p.1 = none) ∧ ArsOk K Z as vs ∧ S as r ∧
  ∀ p H' Z' xs, LamX.Tabs T H' → SameT T H H' → Same Z Z' → Same Z' H' → (∀ (a : Addr) (o : HO), Z' a = some o → Z a = some o ∨ H a = none) → H p = none → H' p = some (.lst xs) → Z' p = none → DdA K Z' xs r → Q (.ref p) H'
def spGM (K : PySem.W.Frag) (T : Tb) (n : Nat) (S : ConM) : Sp := fun vs H Q _ => vs.length = n ∧ LamX.Tabs T H ∧ ∃ a vs' Z xs ds as r ds', vs = .ref a :: vs' ∧ H a = some (.lst xs) ∧ Z a = none ∧ Same Z H ∧ (∀ p ∈ T, Z p.1 = none) ∧ DdA K Z xs ds ∧ ArsOk K Z as vs' ∧ S ds as r ds' ∧
  ∀ v H' Z' xs', LamX.Tabs T H' → (∀ (b : Addr) (o : HO), b ≠ a → b ∉ T.map (·.1) → H b = some o → H' b = some o) → H' a = some (.lst xs') → Same Z Z' → Same Z' H' → Z' a = none → (∀ (b : Addr) (o : HO), Z' b = some o → Z b = some o ∨ H b = none) → DdA K Z' xs' ds' → Dd K Z' v r → Q v H'
structure CallableG (P : Program) (w : World) (K : PySem.W.Frag) (mg : Str → Option Value) (base : Heap) (x : Str) (k : Nat) (sp : Sp) : Prop where
  ex : ∃ (f : Addr) (fd : FuncData) (ps : List Str), FnG P w K mg base k f fd ps sp ∧ mg x = some (.ref f) ∧ PySem.W.keepIn K (.ref f) = true ∧ Binds K fd ps []
abbrev CalG (X : Cx) (x : Str) (k : Nat) (sp : Sp) : Prop := CallableG X.prog X.w X.K X.mg X.base x k sp
theorem CallableG.mono {P : Program} {w : World} {K : PySem.W.Frag} {mg : Str → Option Value} {base : Heap} {x : Str} {k k' : Nat} {sp : Sp} (c : CallableG P w K mg base x k sp) (h : k ≤ k') : CallableG P w K mg base x k' sp := by
  obtain ⟨f, fd, ps, F, r⟩ := c.ex
  exact ⟨f, fd, ps, F.mono h, r⟩
section
variable {X : Cx} {k : Nat} {f : Addr} {fd : FuncData} {ps : List Str} {sp : Sp} {x : Str} {p pos : Pos} {e : Expr} {es : List Expr} {t : TA}
theorem run_g {pins : List (Addr × Obj)} {σ : St} {H : Hp} {s : Shared} {Q : VK} {us : List Value} {vs : List V} (F : FnG X.prog X.w X.K X.mg X.base k f fd ps sp) (hr : Room k X.A) (hg : X.A.guards = some []) (hb : Binds X.K fd ps [])
    (I : Inv X pins σ H s) (r : Vals vs us) (h : sp vs H Q L2.E0) : wpAny (model X.prog X.w) X.A (call (.ref f) us) (EP X pins σ Q) X.xe s := by
  have hl : (us ++ []).length = ps.length := by rw [List.append_nil, ← r.length]; exact F.len _ _ _ _ h
  have b := hb s us I.kIn hl
  rw [List.append_nil] at b
  have c := F.run X.A X.stack s H ⟨us, []⟩ us vs Q hr hg I.env0 b r h
  refine wpAny_call (codeAny_mono c fun z s' hq => ?_)
  match z, hq with
  | .ok (.ret u), hq => exact I.after hq
  | .ok .next, hq => exact hq.elim
  | .ok .brk, hq => exact hq.elim
  | .ok .cont, hq => exact hq.elim
  | .error _, hq => exact (show False from hq).elim
def tCallG (sp : Sp) (t : TA) : TE := fun σ H Q => t σ H fun vs H1 => sp vs H1 Q L2.E0
theorem pe_callG (F : FnG X.prog X.w X.K X.mg X.base k f fd ps sp) (hr : Room k X.A) (hgd : X.A.guards = some []) (hg : Gl X x) (hm : X.mg x = some (.ref f)) (hk : PySem.W.keepIn X.K (.ref f) = true) (hb : Binds X.K fd ps []) (ha : PA X (e :: es) t)
    (hdb : (x == ("__debug__" : Str)) = false) (he : starEach (e :: es) X.env = (false, eval e X.env) :: starEach es X.env) (hpl : (backTo pos (starEach es X.env)).any (·.1) = false) : PE X (.Call (.Name x p) (e :: es) [] pos) (tCallG sp t) :=
  ⟨fun pins s σ H Q I h => wpAny_Call_Name_kw (ld_glob I hg hm (PySem.W.callWith_K (h₀ := X.base) I.ok.mod.kin hk (thn (ha.run pos pins s σ H _ I h) fun us s1 q => by
    obtain ⟨vs, H1, I1, r, q⟩ := q
    exact ⟨I1.kIn, run_g F hr hgd hb I1 r q⟩) he hpl) hdb)⟩
theorem pe_callG0 (F : FnG X.prog X.w X.K X.mg X.base k f fd ps sp) (hr : Room k X.A) (hgd : X.A.guards = some []) (hg : Gl X x) (hm : X.mg x = some (.ref f)) (hk : PySem.W.keepIn X.K (.ref f) = true) (hb : Binds X.K fd ps [])
    (hdb : (x == ("__debug__" : Str)) = false) : PE X (.Call (.Name x p) [] [] pos) (tCallG sp tNil) :=
  ⟨fun pins s σ H Q I h => wpAny_Call_Name_kw (ld_glob I hg hm (PySem.W.callWith_K0 I.kIn hk (run_g (us := []) F hr hgd hb I .nil h)) hdb)⟩
end
section
variable {X : Cx} {C : Ct} {g g' : Gm} {e : Expr} {es : List Expr} {pos p : Pos} {Q : Av → Gm → Prop} {QL : List PyData → Gm → Prop} {x : Str}
theorem ee_callG {k n : Nat} {T : Tb} {S : Con} (c : CalG X x k (spG X.K T n S)) (hT : C.T = T) (hr : Room k X.A) (hgd : X.A.guards = some []) (n1 : Gn X x) (h : EA X C (e :: es) g fun xs g1 => xs.length = n ∧ ∃ as r, CvA g1 xs as ∧ S as r ∧ Q (.d r) g1)
    (he : starEach (e :: es) X.env = (false, eval e X.env) :: starEach es X.env := by rfl) (hpl : (backTo pos (starEach es X.env)).any (·.1) = false := by rfl) : EE X C (.Call (.Name x p) (e :: es) [] pos) g Q := by
  subst hT
  obtain ⟨f, fd, ps, F, m, kp, B⟩ := c.ex
  refine EE.of (pe_callG F hr hgd n1.gl m kp B pa_t n1.d1 he hpl) fun σ H Z I P p => ?_
  refine h σ H Z I _ fun vs H1 Z1 xs g1 I1 s1 a1 q1 => ?_
  obtain ⟨hl, as, r, cv, hS, q⟩ := q1
  refine ⟨a1.length.trans hl, I1.tb, Z1, as, r, I1.fz, fun p hp => I1.zt hp, cv.run a1, hS, fun v H' Z' h0 h1 h2 h3 h4 h5 => ?_⟩
  exact p v H' Z' (.d r) g1 (I1.growT h0 h1 h2 h3 h4) (s1.trans h2) h5 q
theorem ee_callG0 {k : Nat} {T : Tb} {S : Con} {r : PyData} (c : CalG X x k (spG X.K T 0 S)) (hT : C.T = T) (hr : Room k X.A) (hgd : X.A.guards = some []) (n1 : Gn X x) (hS : S [] r) (q : Q (.d r) g) : EE X C (.Call (.Name x p) [] [] pos) g Q := by
  subst hT
  obtain ⟨f, fd, ps, F, m, kp, B⟩ := c.ex
  refine EE.of (pe_callG0 F hr hgd n1.gl m kp B n1.d1) fun σ H Z I P p => ?_
  refine ⟨rfl, I.tb, Z, [], r, I.fz, fun p hp => I.zt hp, .nil, hS, fun v H' Z' h0 h1 h2 h3 h4 h5 => ?_⟩
  exact p v H' Z' (.d r) g (I.growT h0 h1 h2 h3 h4) h2 h5 q
theorem en_callG {k n : Nat} {T : Tb} {S : List Ar → List PyData → Prop} (c : CalG X x k (spGN X.K T n S)) (hT : C.T = T) (hr : Room k X.A) (hgd : X.A.guards = some []) (n1 : Gn X x) (h : EA X C (e :: es) g fun xs g1 => xs.length = n ∧ ∃ as r, CvA g1 xs as ∧ S as r ∧ QL r g1)
    (he : starEach (e :: es) X.env = (false, eval e X.env) :: starEach es X.env := by rfl) (hpl : (backTo pos (starEach es X.env)).any (·.1) = false := by rfl) : EN X C (.Call (.Name x p) (e :: es) [] pos) g QL := by
  subst hT
  obtain ⟨f, fd, ps, F, m, kp, B⟩ := c.ex
  refine EN.of (pe_callG F hr hgd n1.gl m kp B pa_t n1.d1 he hpl) fun σ H Z I P p => ?_
  refine h σ H Z I _ fun vs H1 Z1 xs g1 I1 s1 a1 q1 => ?_
  obtain ⟨hl, as, r, cv, hS, q⟩ := q1
  refine ⟨a1.length.trans hl, I1.tb, Z1, as, r, I1.fz, fun p hp => I1.zt hp, cv.run a1, hS, fun t H' Z' xs h0 h1 h2 h3 h4 h5 h6 h7 h8 => ?_⟩
  obtain ⟨m1, m2, m3⟩ := I1.new h5
  exact p t H' Z' r g1 (I1.growT h0 h1 h2 h3 h4) (s1.trans h2) ⟨⟨xs, h6, h8⟩, h7, m2, m3⟩ q
theorem ee_callGM {k n : Nat} {T : Tb} {S : ConM} (c : CalG X x k (spGM X.K T n S)) (hT : C.T = T) (hr : Room k X.A) (hgd : X.A.guards = some []) (n1 : Gn X x) (h : EA X C (e :: es) g fun xs g1 => xs.length = n ∧ ∃ j w ds rest as r ds' g2, xs = .o j :: rest ∧ CvA g1 rest as ∧ g1[j]? = some (.ls w ds) ∧ S ds as r ds' ∧ SetE g1 j (.ls w ds') g2 ∧ Q (.d r) g2)
    (he : starEach (e :: es) X.env = (false, eval e X.env) :: starEach es X.env := by rfl) (hpl : (backTo pos (starEach es X.env)).any (·.1) = false := by rfl) : EE X C (.Call (.Name x p) (e :: es) [] pos) g Q := by
  subst hT
  obtain ⟨f, fd, ps, F, m, kp, B⟩ := c.ex
  refine EE.of (pe_callG F hr hgd n1.gl m kp B pa_t n1.d1 he hpl) fun σ H Z I P p => ?_
  refine h σ H Z I _ fun vs H1 Z1 xs g1 I1 s1 a1 q1 => ?_
  obtain ⟨hl, j, w, ds, rest, as, r, ds', g2, rfl, cv, hj, hS, hs, q⟩ := q1
  have hlen := a1.length.trans hl
  cases a1 with
  | @cons _ v _ vs' b1 b2 =>
    obtain ⟨a, xs, rfl, o2, o3, o4, o5⟩ := I1.own hj b1
    have aT : a ∉ C.T.map (·.1) := fun m => by
      obtain ⟨p, hp, e2⟩ := List.mem_map.mp m
      obtain ⟨qs, z, _⟩ := I1.tb p hp
      rw [e2, o2] at z; cases z
    refine ⟨hlen, I1.tb, a, vs', Z1, xs, ds, as, r, ds', rfl, o2, o3, I1.fz, fun p hp => I1.zt hp, o4, cv.run b2, hS, fun v H' Z' xs' h0 h1 h2 h3 h4 h5 h6 h7 h8 => ?_⟩
    -- first the heap grows but for a, then a is stored
    have e0 : H' = upd (fun b => if b = a then some (.lst xs) else H' b) a (.lst xs') := by
      funext b
      by_cases z : b = a
      · subst z; rw [upd_same]; exact h2
      · rw [upd_ne z]; simp [z]
    have I2 : Ok X.K C g1 σ (fun b => if b = a then some (.lst xs) else H' b) Z' := by
      refine I1.growT (Tabs.keep h0 fun b o q n => ?_) (fun b o nt q => ?_) h3 (fun b o q => ?_) h6
      · by_cases z : b = a
        · subst z; rw [h2] at q; cases q; exact absurd rfl (n xs')
        · simp only [z, if_false]; exact q
      · by_cases z : b = a
        · subst z; rw [o2] at q; cases q; simp
        · simp only [z, if_false]; exact h1 b o z nt q
      · by_cases z : b = a
        · subst z; rw [h5] at q; cases q
        · simp only [z, if_false]; exact h4 b o q
    have I3 := I2.put hj b1 h7 hs
    rw [← e0] at I3
    exact p v H' Z' (.d r) g2 I3 (s1.trans h3) h8 q
/-- repr(e) -/
theorem ee_repr {k : Nat} (hr : Room k X.A) (hgd : X.A.guards = some []) (n : Bn X "repr") (h : EE X C e g fun x g1 => isDO g1 x = true ∧ Shw (dOf g1 x) ∧ Q (.d (.str (dOf g1 x).shown)) g1) (he : starEach [e] X.env = (false, eval e X.env) :: starEach [] X.env := by rfl) : EE X C (.Call (.Name "repr" p) [e] [] pos) g Q :=
  ee_callB (call_rep hr hgd) n (by decide +kernel) (ea_cons (h.mono fun x g1 q => ea_nil fun σ H Z vs I a P p => by
    obtain ⟨q1, q2, q3⟩ := q
    cases a with
    | cons a1 a2 =>
      cases a2
      exact ⟨_, _, rfl, I.dp a1 q1 q2.lay, q2, p _ H Z (.d (.str _)) g1 I (Same.refl _) (Dd.str _) q3⟩) he) he (by rfl)
end
/-! ### a def of this kind, by its body -/
section
variable {P : Program} {w : World} {K : PySem.W.Frag} {mg : Str → Option Value} {base : Heap} {x : Str} {st : Stmt} {f : Addr} {fd : FuncData} {N ps : List Str} {k n : Nat} {kws : List (Str × V)} {T : Tb}
theorem FnG.of {sp : Sp} (F : FunD K x x (defArgs st) (defBody st) (defScope st) [] kws f fd) (Sc : FnScope N ps (defScope st)) (len : ∀ vs H Q E, sp vs H Q E → vs.length = ps.length)
    (hb : ∀ (X : Cx) (vs : List V) (H : Hp) (Q : VK), X.prog = P → X.w = w → X.K = K → X.mg = mg → X.base = base → PassesOwn (model X.prog X.w) X.A X.env X.xe → CxF X N (defScope st) k → X.A.guards = some [] → sp vs H Q L2.E0 → tSs X (defBody st) { nx := fun _ H' => Q .non H', rt := Q } (L2.start N vs) H) : FnG P w K mg base (k + 1) f fd ps sp := by
  obtain ⟨oc, od, dV, kV, doc, pm, an, cdv, ct, osl, rfl, lk, hcd, hD, hK⟩ := F.ex
  refine ⟨len, fun A outer s H args us vs Q hr hg e0 hbd r hs => ?_⟩
  refine LamX.run_ofS lk hcd Sc hr e0 hbd r (len _ _ _ _ hs) fun hr2 => ⟨_, PSs.nox (pss_t (X := (cxOf L2.CX0 P w K mg base N x (defScope st) f cdv A outer s H L2.E0).nox)), ?_⟩
  exact hb (cxOf L2.CX0 P w K mg base N x (defScope st) f cdv A outer s H L2.E0).nox vs H Q rfl rfl rfl rfl rfl PassesOwn.never ⟨rfl, rfl, rfl, Sc.nd, hr2, fun _ => rfl⟩ hg hs
theorem fn_okG {S : Con} (F : FunD K x x (defArgs st) (defBody st) (defScope st) [] kws f fd) (Sc : FnScope N ps (defScope st)) (hn : ps.length = n)
    (hbody : ∀ (X : Cx), X.prog = P → X.w = w → X.K = K → X.mg = mg → X.base = base → PassesOwn (model X.prog X.w) X.A X.env X.xe → CxF X N (defScope st) k → X.A.guards = some [] → ∀ C as r, S as r → as.length = n → C.W = [] → C.T = T →
      ESs X C (defBody st) (as.map entOf ++ List.replicate (N.length - n) Ent.no) { nx := fun _ => r = .none, rt := Ret r }) : FnG P w K mg base (k + 1) f fd ps (spG K T n S) := by
  refine FnG.of F Sc (fun vs H Q E h => by rw [h.1, hn]) fun X vs H Q e1 e2 e3 e4 e5 hp hF hg h => ?_
  obtain ⟨hl, tb, Z, as, r, hz, zt, ha, hS, q⟩ := h
  subst e3
  have b := hbody X e1 e2 rfl e4 e5 hp hF hg ⟨H, Z, [], T⟩ as r hS (by rw [← ha.length]; exact hl) rfl rfl
  have I := start_ok (N := N) (T := T) ha hz tb zt
  rw [hl] at I
  have fin : ∀ v σ' H' Z' g', Ok X.K ⟨H, Z, [], T⟩ g' σ' H' Z' → Dd X.K Z' v r → Q v H' := fun v σ' H' Z' g' I' hd =>
    q v H' Z' I'.tb (fun a o nt e => I'.fr a o e (by simp) nt) I'.z0 I'.fz I'.nw hd
  refine b _ H Z I _ ⟨fun g' σ' H' Z' I' _ e => ?_, fun y v g' σ' H' Z' I' _ a e => ?_, fun _ _ _ _ _ _ z => z.elim, fun _ _ _ _ _ _ z => z.elim, fun _ _ _ _ _ _ _ _ _ z => z.elim⟩
  · exact fin _ σ' H' Z' g' I' (by rw [e]; exact .non)
  · cases e with
    | d => exact fin v σ' H' Z' g' I' a
    | @o j es _ e1 e2 =>
      subst e2
      have hj := (List.getElem?_eq_some_iff.mp e1).1
      obtain ⟨Z2, I2, s2, d2⟩ := I'.frz e1 a (g' := g'.set j (.im (.list es))) (SetE.mk' hj)
      exact fin v σ' H' Z2 _ I2 d2
theorem fn_okGN {S : List Ar → List PyData → Prop} (F : FunD K x x (defArgs st) (defBody st) (defScope st) [] kws f fd) (Sc : FnScope N ps (defScope st)) (hn : ps.length = n)
    (hbody : ∀ (X : Cx), X.prog = P → X.w = w → X.K = K → X.mg = mg → X.base = base → PassesOwn (model X.prog X.w) X.A X.env X.xe → CxF X N (defScope st) k → X.A.guards = some [] → ∀ C as r, S as r → as.length = n → C.W = [] → C.T = T →
      ESs X C (defBody st) (as.map entOf ++ List.replicate (N.length - n) Ent.no) { nx := fun _ => False, rt := RetN r, rn := fun ds _ => ds = r }) : FnG P w K mg base (k + 1) f fd ps (spGN K T n S) := by
  refine FnG.of F Sc (fun vs H Q E h => by rw [h.1, hn]) fun X vs H Q e1 e2 e3 e4 e5 hp hF hg h => ?_
  obtain ⟨hl, tb, Z, as, r, hz, zt, ha, hS, q⟩ := h
  subst e3
  have b := hbody X e1 e2 rfl e4 e5 hp hF hg ⟨H, Z, [], T⟩ as r hS (by rw [← ha.length]; exact hl) rfl rfl
  have I := start_ok (N := N) (T := T) ha hz tb zt
  rw [hl] at I
  refine b _ H Z I _ ⟨fun g' σ' H' Z' I' _ e => e.elim, fun x v g' σ' H' Z' I' _ a e => ?_, fun _ _ _ _ _ _ z => z.elim, fun _ _ _ _ _ _ z => z.elim, fun ds p g' σ' H' Z' I' _ n e => ?_⟩
  · cases e with
    | o e1 e2 =>
      subst e2
      obtain ⟨p, xs, rfl, o2, o3, o4, o5⟩ := I'.own e1 a
      exact q p H' Z' xs I'.tb (fun a o nt e => I'.fr a o e (by simp) nt) I'.z0 I'.fz I'.nw o5 o2 o3 o4
  · obtain ⟨xs, n1, n2⟩ := n.at_
    have e' : ds = r := e
    subst e'
    exact q p H' Z' xs I'.tb (fun a o nt e => I'.fr a o e (by simp) nt) I'.z0 I'.fz I'.nw n.n0 n1 n.nz n2
end
end AL
/-! The end of a law whose defs know guards and tables. -/
namespace AL
open PySem PySem.Spec L2
open PyProof.Rows hiding St
section
variable {P : Program} {w : World} {K : PySem.W.Frag} {mg mb : Str → Option Value} {a : Addr} {ts : List Addr} {h : Heap} {vs : List Value} {ns : List Int}
abbrev tab0 : Obj := { cls := .none, data := .fields #[] }
abbrev scrO (vs : List Value) : Obj := { cls := .type "list", data := .seq vs.toArray }
/-- what is tracked when the law begins: the empty tables; the script, if it isn't the written part's -/
def hp0 (K : PySem.W.Frag) (ts : List Addr) (a : Addr) (vs : List Value) (ns : List Int) : Hp := fun b =>
  if b ∈ ts then some (.tbl #[]) else if b = a ∧ K.lookup a = none then some (.frz (scrO vs) (.lst (ns.map V.int))) else none
theorem hp0_tab {b : Addr} (hb : b ∈ ts) : hp0 K ts a vs ns b = some (.tbl #[]) := by unfold hp0; rw [if_pos hb]
theorem hp0_cases {b : Addr} : (b ∈ ts ∧ hp0 K ts a vs ns b = some (.tbl #[])) ∨ (b ∉ ts ∧ b = a ∧ K.lookup a = none ∧ hp0 K ts a vs ns b = some (.frz (scrO vs) (.lst (ns.map V.int)))) ∨ (b ∉ ts ∧ (b = a → K.lookup a ≠ none) ∧ hp0 K ts a vs ns b = none) := by
  by_cases h1 : b ∈ ts
  · exact .inl ⟨h1, hp0_tab h1⟩
  · by_cases h2 : b = a ∧ K.lookup a = none
    · exact .inr (.inl ⟨h1, h2.1, h2.2, by unfold hp0; rw [if_neg h1, if_pos h2]⟩)
    · exact .inr (.inr ⟨h1, fun e z => h2 ⟨e, z⟩, by unfold hp0; rw [if_neg h1, if_neg h2]⟩)
variable (hT : ∀ b ∈ ts, h.get? b = some tab0) (ha : h.get? a = some (scrO vs))
include hT ha
theorem scr_free : a ∉ ts := fun m => by
  have e := (hT a m).symm.trans ha
  cases e
theorem hp0_ok (rv : Vals (ns.map V.int) vs) (hl : ns.length ≤ sizeLine) : HOk P w (hp0 K ts a vs ns) h := fun b u e => by
  rcases hp0_cases (K := K) (ts := ts) (a := a) (vs := vs) (ns := ns) (b := b) with ⟨m, z⟩ | ⟨m, z1, z2, z⟩ | ⟨m, _, z⟩ <;> rw [z] at e <;> cases e
  · exact hT b m
  · subst z1
    exact ⟨ha, by rw [List.length_map]; exact hl, vs, _, rv, ha⟩
theorem hp0_scr (KX : K.In h) (rv : Vals (ns.map V.int) vs) (hl : vs.length ≤ sizeLine) : SqL K (hp0 K ts a vs ns) a (ns.map V.int) := by
  have nt := scr_free hT ha
  cases q : K.lookup a with
  | none => exact .inl (.inr ⟨scrO vs, by unfold hp0; rw [if_neg nt, if_pos ⟨rfl, q⟩]⟩)
  | some o =>
    have e := (KX a o q).symm.trans ha
    cases e
    exact .inr ⟨_, vs.toArray, _, q, rfl, rfl, rfl, by rw [List.size_toArray]; exact hl, by simpa using rv⟩
/-- what isn't tracked is in the ground -/
theorem hp0_see {b : Addr} {o : Obj} (e : h.get? b = some o) (n1 : o ≠ tab0) (n2 : o ≠ scrO vs ∨ K.lookup b ≠ none) : (hidT h (hp0 K ts a vs ns)).get? b = some o := by
  refine hidT_get e ?_
  rcases hp0_cases (K := K) (ts := ts) (a := a) (vs := vs) (ns := ns) (b := b) with ⟨m, z⟩ | ⟨m, z1, z2, z⟩ | ⟨m, _, z⟩
  · exact absurd (Option.some.inj ((hT b m).symm.trans e)).symm n1
  · subst z1
    rcases n2 with n2 | n2
    · exact absurd (Option.some.inj (ha.symm.trans e)).symm n2
    · exact absurd z2 n2
  · exact z
theorem hp0_ns {b : Addr} {m : Str → Option Value} (n : h.Ns b m) : (hidT h (hp0 K ts a vs ns)).Ns b m := by
  obtain ⟨o, es, ep, e, d, r⟩ := n
  refine ⟨o, es, ep, hp0_see hT ha e (fun z => ?_) (.inl fun z => ?_), d, r⟩ <;> (rw [z] at d; cases d)
theorem hp0_in (KX : K.In h) (nT : ∀ b ∈ ts, K.lookup b = none) : K.In (hidT h (hp0 K ts a vs ns)) := fun b o e => by
  refine hidT_get (KX b o e) ?_
  rcases hp0_cases (K := K) (ts := ts) (a := a) (vs := vs) (ns := ns) (b := b) with ⟨m, _⟩ | ⟨_, z1, z2, _⟩ | ⟨_, _, z⟩
  · rw [nT b m] at e; cases e
  · rw [z1, z2] at e; cases e
  · exact z
end
/-- the law's call -/
theorem law_callG {P : Program} {w : World} {K : PySem.W.Frag} {mg mb : Str → Option Value} {k : Nat} {fa a : Addr} {cs : List (Addr × Addr)} {fd : FuncData} {x : Str} {sp : Sp} {s : Shared} {vs : List Value} {ns : List Int}
    (KX : K.In s.heap) (gN : s.heap.Ns mainGlobals mg) (bN : s.heap.Ns builtinsNs mb) (bB : ∀ x : Str, x ≠ "__name__" → mb x = bootBuiltins x) (nL : s.heap.NoLimit) (nG : s.gens = #[])
    (hT : ∀ p ∈ cs, s.heap.get? p.2 = some tab0) (nT : ∀ p ∈ cs, K.lookup p.2 = none) (hC : ∀ p ∈ cs, PySem.W.codeHdIn K p.1 p.2 = true)
    (bM : ∃ (bm : Addr) (ob : Obj), mg "__builtins__" = some (.ref bm) ∧ bm ≠ builtinsNs ∧ s.heap.get? bm = some ob ∧ ob.cls = .type "module" ∧ ob.dict = some builtinsNs ∧ ob.data = .plain)
    (ha : s.heap.get? a = some (scrO vs)) (hi : IntsAre vs ns) (hl : ns.length ≤ sizeLine) (hr : Room k callerA)
    (F : ∀ base : Heap, K.In base → base.Ns mainGlobals mg → (∀ p ∈ cs, LamX.TabB base mg p.1 p.2) → FnG P w K mg base k fa fd [x] sp) (hb : ∀ (s : Shared) (u : Value), BindsTo s fd ⟨[u], []⟩ [(x, u)])
    (hs : ∀ H : Hp, (∀ p ∈ cs, H p.2 = some (.tbl #[])) → SqL K H a (ns.map V.int) → sp [.ref a] H (fun v _ => v = .bl true) L2.E0) :
    codeAny (model P w) callerA (.call (.ref fa) ⟨[.ref a], []⟩) (fun r s' => r = .ok (.ret (.bool true)) ∧ OldK s.heap s'.heap ∧ s'.os = s.os ∧ AllBare s'.gens) s := by
  obtain ⟨ts, ets⟩ : ∃ ts : List Addr, ts = cs.map (·.2) := ⟨_, rfl⟩
  have mem : ∀ p ∈ cs, p.2 ∈ ts := fun p hp => by rw [ets]; exact List.mem_map.mpr ⟨p, hp, rfl⟩
  have hT' : ∀ b ∈ ts, s.heap.get? b = some tab0 := fun b m => by
    rw [ets] at m
    obtain ⟨p, hp, e⟩ := List.mem_map.mp m
    rw [← e]; exact hT p hp
  have nT' : ∀ b ∈ ts, K.lookup b = none := fun b m => by
    rw [ets] at m
    obtain ⟨p, hp, e⟩ := List.mem_map.mp m
    rw [← e]; exact nT p hp
  have rv : Vals (ns.map V.int) vs := vals_ints hi
  have lv : vs.length ≤ sizeLine := by rw [hi.length]; exact hl
  obtain ⟨H, eH⟩ : ∃ H : Hp, H = hp0 K ts a vs ns := ⟨_, rfl⟩
  have hok : HOk P w H s.heap := by rw [eH]; exact hp0_ok hT' ha rv hl
  have hsq : SqL K H a (ns.map V.int) := by rw [eH]; exact hp0_scr hT' ha KX rv lv
  have bK : K.In (hidT s.heap H) := by rw [eH]; exact hp0_in hT' ha KX nT'
  have bG : (hidT s.heap H).Ns mainGlobals mg := by rw [eH]; exact hp0_ns hT' ha gN
  have bn : (hidT s.heap H).Ns builtinsNs mb := by rw [eH]; exact hp0_ns hT' ha bN
  have hM : L2.Mod K mg (hidT s.heap H) := ⟨bK, bG, ⟨mb, bn, bB⟩, by
    obtain ⟨m, l1, l2⟩ := nL
    exact ⟨m, by rw [eH]; exact hp0_ns hT' ha l1, l2⟩⟩
  have TB : ∀ p ∈ cs, LamX.TabB (hidT s.heap H) mg p.1 p.2 := fun p hp => by
    have e0 := hT p hp
    obtain ⟨bm, ob, m1, m2, m3, m4, m5, m6⟩ := bM
    have nP : bm ≠ p.2 := fun z => by
      rw [z, e0] at m3; cases m3; cases m6
    have nGl : bm ≠ mainGlobals := fun z => by
      obtain ⟨o, es, ep, e, d, _⟩ := gN
      rw [← z, m3] at e; cases e
      rw [m6] at d; cases d
    refine ⟨PySem.W.codeHd_of_K bK (hC p hp), ⟨bm, ob, m1, m2, nGl, nP, ?_, m4, m5, m6⟩, fun z => ?_⟩
    · rw [eH]
      refine hp0_see hT' ha m3 (fun z => ?_) (.inl fun z => ?_) <;> (rw [z] at m6; cases m6)
    · obtain ⟨o, es, ep, e, d, _⟩ := gN
      rw [z, e0] at e; cases e; cases d
  have E : Env0 P w K mg (hidT s.heap H) callerA [] s H := ⟨rfl, hM, fun b o e => of_hidT e, Nat.le_of_eq (hidT_size _ _), trivial, fun b m => absurd (show b ∈ ([] : List Addr) from m) (by simp), hok, .of_eq nG⟩
  have hH : ∀ p ∈ cs, H p.2 = some (.tbl #[]) := fun p hp => by rw [eH]; exact hp0_tab (mem p hp)
  refine codeAny_mono ((F _ bK bG TB).run callerA [] s H ⟨[.ref a], []⟩ [.ref a] [.ref a] _ hr rfl E (hb s (.ref a)) (.cons rfl .nil) (hs H hH hsq)) fun r s' q => ?_
  match r, q with
  | .error _, q => exact (show False from q).elim
  | .ok .next, q => exact q.elim
  | .ok .brk, q => exact q.elim
  | .ok .cont, q => exact q.elim
  | .ok (.ret u), q =>
    obtain ⟨v, H', os, bare, un, hok', rv', qv⟩ := q
    have qv' : v = .bl true := qv
    subst qv'
    obtain rfl : u = Value.bool true := rv'
    have tabs : ∀ b ∈ ts, ∃ more : Array Value, s'.heap.get? b = some { cls := .none, data := .fields more } := fun b m => by
      obtain ⟨more, z⟩ := un.tbls b #[] (by rw [eH]; exact hp0_tab m)
      exact ⟨_, hok' b _ z⟩
    have rest : ∀ b o, b ∉ ts → s.heap.get? b = some o → s'.heap.get? b = some o := fun b o nb e => by
      rcases hp0_cases (K := K) (ts := ts) (a := a) (vs := vs) (ns := ns) (b := b) with ⟨m, _⟩ | ⟨_, _, _, z⟩ | ⟨_, _, z⟩
      · exact absurd m nb
      · rw [← eH] at z
        have z2 := un.frzs b _ _ z
        have e1 := (hok b _ z).1
        rw [e] at e1; cases e1
        exact (hok' b _ z2).1
      · rw [← eH] at z
        exact un.keep b o e z (by intro m; exact absurd (show b ∈ ([] : List Addr) from m) (by simp)) (by simp)
    refine ⟨rfl, ⟨fun b o e => ?_, fun b o e => ?_⟩, os, bare⟩
    · by_cases m : b ∈ ts
      · have m' := m
        rw [ets] at m'
        obtain ⟨p, hp, ep⟩ := List.mem_map.mp m'
        obtain ⟨more, hm⟩ := tabs b m
        have e0 := hT' b m
        rw [e] at e0; cases e0
        refine .inr (.inl ⟨?_, rfl, #[], more, rfl, by rw [Array.empty_append]; exact hm⟩)
        rw [← ep]
        exact ((PySem.W.codeHd_of_K KX (hC p hp)).tab (hT p hp)).isCodeTable
      · exact .inl (rest b o m e)
    · by_cases m : b ∈ ts
      · obtain ⟨more, hm⟩ := tabs b m
        exact ⟨_, hm⟩
      · exact ⟨o, rest b o m e⟩
/-- the end by the head's facts -/
theorem walk_ofG {l : PySem.W.OpenLaw} {n k : Nat} {q : Program} {loose : List Str} {XP : (Str → Option Value) → Heap → Prop} {YP : World → Heap → Prop} {d : DefRec} {x : Str} (hn : l.most = some n) (hn2 : n ≤ sizeLine) (hdf : d.params.defaults = []) (hr : Room k callerA)
    (F : ∀ (w : World) (mg : Str → Option Value) (fa : Addr) (h : Heap), YP w h → h.Ns mainGlobals mg → mg d.name = some (.ref fa) → ∃ (K : PySem.W.Frag) (fd : FuncData) (cs : List (Addr × Addr)) (sp : Sp), K.In h ∧ (∀ p ∈ cs, h.get? p.2 = some tab0) ∧ (∀ p ∈ cs, K.lookup p.2 = none) ∧ (∀ p ∈ cs, PySem.W.codeHdIn K p.1 p.2 = true) ∧
      (∀ (s : Shared) (u : Value), BindsTo s fd ⟨[u], []⟩ [(x, u)]) ∧ (∀ (H : Hp) (a : Addr) (ns : List Int), ns.length ≤ n → (∀ p ∈ cs, H p.2 = some (.tbl #[])) → SqL K H a (ns.map V.int) → sp [.ref a] H (fun v _ => v = .bl true) L2.E0) ∧
      ∀ base : Heap, K.In base → base.Ns mainGlobals mg → (∀ p ∈ cs, LamX.TabB base mg p.1 p.2) → FnG l.prog w K mg base k fa fd [x] sp) :
    PySem.W.WalkO q loose XP YP l.row.toRowW d [] (fun f vs => PySem.call f vs) := by
  refine Att.attach_callB hn hdf fun w s₀ s₁ mg mb fa o pm cd doc a vs ns G Y ho hd hcd hmg hobj hints hlen hbits hg => ?_
  obtain ⟨K, fd, cs, sp, KX, h1, h2, h3, h4, h5, h6⟩ := F w mg fa _ Y G.T.g hmg
  exact law_callG KX G.T.g G.T.b G.T.builtins G.T.nolimit hg h1 h2 h3 G.T.bmain hobj hints (Nat.le_trans hlen hn2) hr h6 h4 fun H e1 e2 => h5 H a ns hlen e1 e2
/-- the promise of the law's def at its beginning -/
theorem spG_law {K : PySem.W.Frag} {T : Tb} {S : Con} {H : Hp} {a : Addr} {ns : List Int} (hT : ∀ p ∈ T, H p.1 = some (.tbl #[])) (hS : SqL K H a (ns.map V.int)) (hs : S [.d (scr ns)] (.bool true)) : spG K T 1 S [.ref a] H (fun v _ => v = .bl true) L2.E0 := by
  have key : SqL K (fun b => if b ∈ T.map (·.1) then none else H b) a (ns.map V.int) := by
    have nt : ∀ {u}, H a = some u → (∀ ps, u ≠ .tbl ps) → (if a ∈ T.map (·.1) then none else H a) = some u := fun {u} e n => by
      by_cases m : a ∈ T.map (·.1)
      · obtain ⟨p, hp, e2⟩ := List.mem_map.mp m
        have := hT p hp
        rw [e2, e] at this
        exact absurd (Option.some.inj this) (n _)
      · rw [if_neg m]; exact e
    rcases hS with (z | ⟨o, z⟩) | z
    · exact .inl (.inl (nt z fun ps q => by cases q))
    · exact .inl (.inr ⟨o, nt z fun ps q => by cases q⟩)
    · exact .inr z
  refine ⟨rfl, fun p hp => LamX.TabS.nil (hT p hp), _, [.d (scr ns)], .bool true, fun b o e => ?_, fun p hp => ?_, .cons (Dd.scr key) .nil, hs, fun v H' Z' _ _ _ _ _ d => ?_⟩
  · have e' : (if b ∈ T.map (·.1) then none else H b) = some o := e
    split at e'
    · cases e'
    · exact e'
  · show (if p.1 ∈ T.map (·.1) then none else H p.1) = none
    rw [if_pos (List.mem_map.mpr ⟨p, hp, rfl⟩)]
  · cases d; rfl
end AL
/-! A comprehension of two clauses; ranges downward. -/
namespace AL
open PySem PySem.Spec L2
theorem wipe_at {τ : St} {k : Nat} : ∀ {l : List Nat}, k ∈ l → (L2.wipe τ l)[k]? = (if k < τ.length then some none else none)
  | [], h => by simp at h
  | a :: l, h => by
    unfold L2.wipe
    by_cases ka : a = k
    · subst ka
      by_cases kl : a < τ.length
      · rw [List.getElem?_set_self (by rw [wipe_length]; exact kl), if_pos kl]
      · rw [if_neg kl, List.getElem?_eq_none (by simp [wipe_length]; omega)]
    · rw [List.getElem?_set_ne ka]
      exact wipe_at (by simpa [Ne.symm ka] using h)
theorem wipe_same {σ τ : St} {vs : List Nat} (f : ∀ i, i ∉ vs → τ[i]? = (L2.wipe σ vs)[i]?) (l : τ.length = (L2.wipe σ vs).length) : L2.wipe τ vs = L2.wipe σ vs := by
  apply List.ext_getElem?
  intro k
  by_cases hk : k ∈ vs
  · rw [wipe_at hk, wipe_at hk, l, wipe_length]
  · rw [wipe_get hk, wipe_get hk, f k hk, wipe_get hk]
theorem wipe_in {σ : St} {vs vs1 : List Nat} (h : ∀ i ∈ vs1, i ∈ vs) : L2.wipe (L2.wipe σ vs1) vs = L2.wipe σ vs := by
  apply List.ext_getElem?
  intro k
  by_cases hk : k ∈ vs
  · rw [wipe_at hk, wipe_at hk, wipe_length]
  · rw [wipe_get hk, wipe_get hk, wipe_get fun m => hk (h k m)]
def flatR (rs : Nat → List PyData) (i : Nat) : List PyData := (List.range i).flatMap rs
theorem flatR_succ (rs : Nat → List PyData) (i : Nat) : flatR rs (i + 1) = flatR rs i ++ rs i := by unfold flatR; rw [List.range_succ, List.flatMap_append]; simp
theorem flatR_le (rs : Nat → List PyData) {i n : Nat} (h : i ≤ n) : (flatR rs i).length ≤ (flatR rs n).length := by
  induction n with
  | zero => have : i = 0 := by omega
            subst this; exact Nat.le_refl _
  | succ n ih =>
    by_cases e : i = n + 1
    · subst e; exact Nat.le_refl _
    · have := ih (by omega)
      rw [flatR_succ, List.length_append]; omega
section
variable {K : PySem.W.Frag} {C : Ct} {g g' : Gm} {σ : St} {H H' Z Z' : Hp}
/-- the list at D takes one more -/
theorem New.push (I : Ok K C g σ H Z) {D : Addr} {acc : List PyData} (n : New K C g σ H Z D acc) {xs : List V} (hx : H D = some (.lst xs)) (hd : DdA K Z xs acc) {v : V} {d : PyData} (hv : Dd K Z v d) (nW : D ∉ C.W) :
    Ok K C g σ (upd H D (.lst (xs ++ [v]))) Z ∧ New K C g σ (upd H D (.lst (xs ++ [v]))) Z D (acc ++ [d]) := by
  refine ⟨⟨I.ln, fun a o q => ?_, fun a o q hw ht => ?_, I.z0, I.nw, I.b0, I.wz, fun a q => ?_, fun k en q => ?_, I.inj, Tabs.keep I.tb (fun a o q nn => ?_), I.tz⟩, ⟨xs ++ [v], upd_same, hd.append (.cons hv .nil)⟩, n.nz, n.n0, n.no⟩
  · rw [upd_ne (ne_of_none q n.nz)]; exact I.fz a o q
  · rw [upd_ne (ne_of_none q n.n0)]; exact I.fr a o q hw ht
  · rw [upd_ne (fun z => nW (by rw [← z]; exact q))]; exact I.wh a q
  · have r := I.ent k en q
    cases en with
    | no => trivial
    | im d => exact r
    | ls w ds2 =>
      obtain ⟨a, ys, f1, f2, f3, f4, f5⟩ := r
      have ne : a ≠ D := fun z => by subst z; exact n.no k w ds2 q f1
      exact ⟨a, ys, f1, by rw [upd_ne ne]; exact f2, f3, f4, f5⟩
    | vl v => exact r
  · rw [upd_ne (fun z => by subst z; rw [hx] at q; cases q; exact nn _ rfl)]; exact q
/-- a comprehension of two clauses without tests; rs: what each turn of the first gives -/
theorem an_lc2 {wi wi1 : TI} {tg tg1 : TG} {te : TE} {vs vs1 : List Nat} {QL : List PyData → Gm → Prop} (hv : ∀ i ∈ vs1, i ∈ vs) (h : AI K C wi g fun ds g1 => ∃ g2, WipeE g1 vs g2 ∧ ∃ rs : Nat → List PyData, (flatR rs ds.length).length ≤ 1000000 ∧
      (∀ (C' : CtT C) i d, ds[i]? = some d → AGv K C'.1 vs tg (.d d) g2 fun g3 => AI K C'.1 wi1 g3 fun es g4 => ∃ g5, WipeE g4 vs1 g5 ∧ WkE g5 g2 ∧ es.length = (rs i).length ∧
        ∀ (C'' : CtT C) (j : Nat) (e : PyData), es[j]? = some e → AGv K C''.1 vs1 tg1 (.d e) g5 fun g6 => AE K C''.1 te g6 fun x g7 => ∃ d' g8, Frz [x] g7 [d'] g8 ∧ (rs i)[j]? = some d' ∧ WkE g8 g5) ∧
      QL (flatR rs ds.length) g2) : AN K C (tLc2 wi tg tYes wi1 tg1 tYes te vs vs1) g QL := fun σ H Z I P p =>
  h σ H Z I _ fun J H1 Z1 ds g1 I1 s1 w q => by
    obtain ⟨g2, hw, rs, hz, js, je⟩ := q
    obtain ⟨G, Y, wk, wg, wy⟩ := w.ex
    obtain ⟨w1, w2⟩ := hw.wk
    have I2 : Ok K C g2 σ H1 Z1 := I1.weak w1
    intro D hD
    obtain ⟨n1, n2, n3⟩ := I2.new hD
    have nW : D ∉ C.W := fun z => by
      have := I2.wh D z
      rw [hD] at this; cases this
    have nZ0 : C.Z0 D = none := by
      cases q : C.Z0 D with
      | none => rfl
      | some o => have := I2.b0 D o q; rw [n2] at this; cases this
    have nT := I2.nT n2
    -- between the turns of the first clause
    refine ⟨fun i m H => m = ds.length - i ∧ i ≤ ds.length ∧ ∃ Z', Ok K C g2 (L2.wipe σ vs) H Z' ∧ Same Z1 Z' ∧ New K C g2 (L2.wipe σ vs) H Z' D (flatR rs i), ⟨ds.length, by simp, Nat.zero_le _, Z1, (I2.newO hD).wipe w2, Same.refl _, ⟨⟨[], upd_same, .nil⟩, n1, n2, fun j w es e z => ?_⟩⟩, ?_⟩
    · have hj : j ∉ vs := fun hm => by rw [w2 j hm] at e; cases e
      rw [wipe_get hj] at z
      exact n3 j w es e z
    rintro i m H2 ⟨rfl, hi, Z3, I3, s3, nw⟩
    have hG := wg C g2 _ H2 Z3 I3 s3
    by_cases hlt : i < ds.length
    · refine .inr ⟨wk.goes i H2 hlt hG, fun H => i + 1 ≤ ds.length ∧ ∃ Z', Ok K C g2 (L2.wipe σ vs) H Z' ∧ Same Z1 Z' ∧ New K C g2 (L2.wipe σ vs) H Z' D (flatR rs (i + 1)), fun H' p' => ⟨ds.length - (i + 1), by omega, rfl, p'.1, p'.2⟩, fun x H3 y => ?_⟩
      have y := wk.yields i H2 x H3 hlt hG y
      have e : ds[i]? = some ds[i] := List.getElem?_eq_getElem hlt
      obtain ⟨xs, x1, x2⟩ := nw.at_
      have Is := I3.safe nw x1
      obtain ⟨Z4, I4, s4, a4⟩ := wy (C.with D xs) i H2 x H3 g2 _ Z3 _ Is s3 e y
      refine js ⟨C.with D xs, rfl⟩ i _ e _ H3 Z4 x I4 a4 _ fun g5 σ5 H5 Z5 I5 s5 f5 l5 q5 => ?_
      refine ⟨wipe_same f5 l5, ?_⟩
      show wi1 σ5 H5 _
      refine q5 σ5 H5 Z5 I5 _ fun J1 H6 Z6 es g6 I6 s6 v6 q6 => ?_
      obtain ⟨g7, hw7, wk7, hel, js7⟩ := q6
      obtain ⟨G1, Y1, wk1, wg1, wy1⟩ := v6.ex
      obtain ⟨u1, u2⟩ := hw7.wk
      obtain ⟨I7, e1, e2, e3⟩ := I6.unsafe n2 nW nT nZ0
      have I8 : Ok K C g7 σ5 H6 Z6 := I7.weak u1
      have s36 : Same Z3 Z6 := (s4.trans s5).trans s6
      -- between the turns of the second clause
      refine ⟨fun j m H => m = es.length - j ∧ j ≤ es.length ∧ ∃ Z', Ok K C g7 (L2.wipe σ5 vs1) H Z' ∧ Same Z6 Z' ∧ New K C g7 (L2.wipe σ5 vs1) H Z' D (flatR rs i ++ (rs i).take j), ⟨es.length, by simp, Nat.zero_le _, Z6, I8.wipe u2, Same.refl _, ⟨⟨xs, e1, by simpa using x2.mono s36⟩, e2, n2, fun j w es2 ee z => ?_⟩⟩, ?_⟩
      · have hj : j ∉ vs1 := fun hm => by rw [u2 j hm] at ee; cases ee
        rw [wipe_get hj] at z
        rcases u1.get ee with zz | zz
        · cases zz
        · exact e3 j w es2 zz z
      rintro j k H7 ⟨rfl, hj, Z7, J7, s7, nw7⟩
      have hG1 := wg1 C g7 _ H7 Z7 J7 s7
      by_cases hlt1 : j < es.length
      · refine .inr ⟨wk1.goes j H7 hlt1 hG1, fun H => j + 1 ≤ es.length ∧ ∃ Z', Ok K C g7 (L2.wipe σ5 vs1) H Z' ∧ Same Z6 Z' ∧ New K C g7 (L2.wipe σ5 vs1) H Z' D (flatR rs i ++ (rs i).take (j + 1)), fun H' p' => ⟨es.length - (j + 1), by omega, rfl, p'.1, p'.2⟩, fun x1' H8 y1 => ?_⟩
        have y1 := wk1.yields j H7 x1' H8 hlt1 hG1 y1
        have ee : es[j]? = some es[j] := List.getElem?_eq_getElem hlt1
        obtain ⟨zs, z1, z2⟩ := nw7.at_
        have Js := J7.safe nw7 z1
        obtain ⟨Z8, J8, t8, a8⟩ := wy1 (C.with D zs) j H7 x1' H8 g7 _ Z7 _ Js s7 ee y1
        refine js7 ⟨C.with D zs, rfl⟩ j _ ee _ H8 Z8 x1' J8 a8 _ fun g9 σ9 H9 Z9 J9 t9 f9 l9 q9 => ?_
        refine ⟨wipe_same f9 l9, ?_⟩
        show te σ9 H9 _
        refine q9 σ9 H9 Z9 J9 _ fun v Ha Za xa ga Ja ta aa qa => ?_
        obtain ⟨d', gb, fz, hd', wkb⟩ := qa
        obtain ⟨Zb, Jb, tb, rb⟩ := fz.run Ja (.cons aa .nil)
        cases rb with
        | @cons _ _ _ _ rb1 rb2 =>
          cases rb2
          obtain ⟨Jc, c1, c2, c3⟩ := Jb.unsafe n2 nW nT nZ0
          have Jd : Ok K C g7 σ9 Ha Zb := Jc.weak wkb
          have tt : Same Z7 Zb := ((t8.trans t9).trans ta).trans tb
          have Je : Ok K C g7 (L2.wipe σ5 vs1) Ha Zb := by
            have := Jd.wipe u2
            rwa [wipe_same f9 l9] at this
          have nwe : New K C g7 (L2.wipe σ5 vs1) Ha Zb D (flatR rs i ++ (rs i).take j) := ⟨⟨zs, c1, z2.mono tt⟩, c2, n2, fun j2 w2' es2 e2' zz => by
            have hj2 : j2 ∉ vs1 := fun hm => by rw [u2 j2 hm] at e2'; cases e2'
            rw [← wipe_same f9 l9, wipe_get hj2] at zz
            rcases wkb.get e2' with q | q
            · cases q
            · exact c3 j2 w2' es2 q zz⟩
          have pu := nwe.push Je c1 (z2.mono tt) rb1 nW
          have hlen : zs.length < sizeLine := by
            have h1 := z2.length
            have h2 : (flatR rs i ++ (rs i).take j).length < (flatR rs (i + 1)).length := by
              rw [flatR_succ, List.length_append, List.length_append, List.length_take]; omega
            have h3 := flatR_le rs (show i + 1 ≤ ds.length by omega)
            have h4 : (1000000 : Nat) ≤ sizeLine := by decide
            rw [h1]; omega
          refine ⟨zs, c1, hlen, by omega, Zb, pu.1, s7.trans tt, ?_⟩
          have et : (rs i).take (j + 1) = (rs i).take j ++ [d'] := by rw [List.take_add_one, hd']; rfl
          rw [et, ← List.append_assoc]
          exact pu.2
      · have ej : j = es.length := by omega
        subst ej
        refine .inl ⟨wk1.stops H7 hG1, by omega, Z7, ?_, (s3.trans s36).trans s7, ?_⟩
        · have q1 := (J7.weak wk7).wipe w2
          rwa [wipe_in hv, wipe_same f5 l5] at q1
        · obtain ⟨zs, z1, z2⟩ := nw7.at_
          rw [hel, List.take_length, ← flatR_succ] at z2
          refine ⟨⟨zs, z1, z2⟩, nw7.nz, n2, fun j2 w2' es2 e2' zz => ?_⟩
          have hj2 : j2 ∉ vs := fun hm => by rw [w2 j2 hm] at e2'; cases e2'
          rw [wipe_get hj2] at zz
          have hb : (L2.wipe σ5 vs1)[j2]? = some (some (V.ref D)) := by
            rw [wipe_get fun m => hj2 (hv j2 m), f5 j2 hj2, wipe_get hj2]; exact zz
          rcases wk7.get e2' with q | q
          · cases q
          · exact nw7.no j2 w2' es2 q hb
    · have ei : i = ds.length := by omega
      subst ei
      refine .inl ⟨wk.stops H2 hG, ?_⟩
      have I9 := I3.unwipe w2
      refine p D H2 Z3 _ g2 I9 (s1.trans s3) ⟨nw.at_, nw.nz, n2, fun j2 w2' es2 e2' zz => ?_⟩ je
      have hj2 : j2 ∉ vs := fun hm => by rw [w2 j2 hm] at e2'; cases e2'
      exact nw.no j2 w2' es2 e2' (by rw [wipe_get hj2]; exact zz)
end
end AL
namespace AL
open PySem PySem.Spec L2
def uI (X : Cx) (sc : Scope) (tg iter : Expr) : TI := fun σ H R => ∀ s H' Cm cl fp, tI (bk X sc s H' Cm cl fp) tg iter σ H R
section
variable {X : Cx} {C : Ct} {g g' : Gm} {a b c tg iter tg1 iter1 elt : Expr} {pos p p' : Pos} {x : Str} {D : Ae} {QI : List PyData → Gm → Prop}
/-- name = [elt for .. for ..] on one line -/
theorem es_lc2 {N : List Str} {sc scope : Scope} {k i : Nat} (F : CxF X N sc k) (own : List (Str × Nat)) (vs1 : List Nat) (hv : ∀ i ∈ vs1, i ∈ own.map (·.2)) (ok : blkC N sc scope own = true) (hy : (decide (N[i]? = some x) && locB sc x) = true)
    (h : EI X C tg iter g fun ds g1 => ∃ g2, WipeE g1 (own.map (·.2)) g2 ∧ ∃ rs : Nat → List PyData, (flatR rs ds.length).length ≤ 1000000 ∧
      (∀ (C' : CtT C) (i : Nat) (d : PyData), ds[i]? = some d → Bk X scope fun X1 => EGv X1 C'.1 (own.map (·.2)) tg (.d d) g2 fun g3 => Bk X scope fun X2 => EI X2 C'.1 tg1 iter1 g3 fun es g4 => ∃ g5, WipeE g4 vs1 g5 ∧ WkE g5 g2 ∧ es.length = (rs i).length ∧
        ∀ (C'' : CtT C) (j : Nat) (e : PyData), es[j]? = some e → Bk X scope fun X3 => EGv X3 C''.1 vs1 tg1 (.d e) g5 fun g6 => Bk X scope fun X4 => EE X4 C''.1 elt g6 fun x g7 => ∃ d' g8, Frz [x] g7 [d'] g8 ∧ (rs i)[j]? = some d' ∧ WkE g8 g5) ∧
      ∃ g3, SetE g2 i (.im (.list (flatR rs ds.length))) g3 ∧ D.nx g3)
    (hsw : swapsWith (.ListComp elt [⟨tg, iter, [], 0⟩, ⟨tg1, iter1, [], 0⟩] scope pos) (some (.Name x p')) p.line X.env = pure true) (hs : ∀ x, foldedSetIterable iter X.env x = pure x := by intro _; rfl) (hs1 : ∀ env x, foldedSetIterable iter1 env x = pure x := by intro _ _; rfl) :
    ES X C (.Assign [.Name x p'] (.ListComp elt [⟨tg, iter, [], 0⟩, ⟨tg1, iter1, [], 0⟩] scope pos) p) g D := by
  simp only [Bool.and_eq_true, decide_eq_true_eq] at hy
  refine ES.of (ps_setLc2 F.calm (by rw [F.hN]; exact F.nd) (by rw [F.hN]; exact hy.1) (by rw [F.hsc]; exact locB_ok hy.2) hsw pi_t (F.ok ok) hv (g := uG X scope tg) (tt := tYes) (te := uE X scope elt) (wi1 := uI X scope tg1 iter1) (g1 := uG X scope tg1) (tt1 := tYes)
    (fun s H Cm cl fp => ⟨fun pins s1 σ H1 v u Q I r h => h s H Cm cl fp pins s1 u I r⟩) (fun s H Cm cl fp => pts_nil) (fun s H Cm cl fp => ⟨fun pins s1 σ H1 R I h => h s H Cm cl fp pins s1 I⟩) (fun s H Cm cl fp => ⟨fun pins s1 σ H1 v u Q I r h => h s H Cm cl fp pins s1 u I r⟩) (fun s H Cm cl fp => pts_nil) (fun s H Cm cl fp => ⟨fun pins s1 σ H1 Q I h => h s H Cm cl fp pins s1 I⟩) hs hs1) (as_asg (ae_an ?_))
  refine an_lc2 hv fun σ H Z I R pp => h σ H Z I R fun J H' Z' ds g' I' s' w ⟨g2, h1, rs, h2, h3, g3, h4, h5⟩ => pp J H' Z' ds g' I' s' w ⟨g2, h1, rs, h2, fun C' i d e => ?_, ag_d h4 h5⟩
  have t := h3 C' i d e
  intro σ1 H1 Z1 v I1 a1 Q' q' s H2 Cm cl fp
  refine t s H2 Cm cl fp σ1 H1 Z1 v I1 a1 Q' fun g4 σ4 H4 Z4 I4 s4 f4 l4 q4 => q' g4 σ4 H4 Z4 I4 s4 f4 l4 ?_
  intro σ5 H5 Z5 I5 Q5 p5 s H2 Cm cl fp
  refine q4 s H2 Cm cl fp σ5 H5 Z5 I5 Q5 fun J1 H6 Z6 es g6 I6 s6 w6 q6 => p5 J1 H6 Z6 es g6 I6 s6 w6 ?_
  obtain ⟨g7, k1, k2, k3, k4⟩ := q6
  refine ⟨g7, k1, k2, k3, fun C'' j e he => ?_⟩
  have t := k4 C'' j e he
  intro σ1 H1 Z1 v I1 a1 Q' q' s H2 Cm cl fp
  refine t s H2 Cm cl fp σ1 H1 Z1 v I1 a1 Q' fun g4 σ4 H4 Z4 I4 s4 f4 l4 q4 => q' g4 σ4 H4 Z4 I4 s4 f4 l4 ?_
  intro σ7 H7 Z7 I7 Q7 p7 s H2 Cm cl fp
  refine q4 s H2 Cm cl fp σ7 H7 Z7 I7 Q7 fun v H8 Z8 x g8 I8 s8 a8 q8 => p7 v H8 Z8 x g8 I8 s8 a8 ?_
  exact q8
/-- range(a, b, -1) -/
def downD (hi : Int) (n : Nat) : List PyData := (List.range n).map fun (i : Nat) => .int (hi - (i : Nat))
theorem downD_len (hi : Int) (n : Nat) : (downD hi n).length = n := by simp [downD]
theorem downD_get {hi : Int} {n i : Nat} {d : PyData} (h : (downD hi n)[i]? = some d) : i < n ∧ d = .int (hi - (i : Nat)) := by
  simp only [downD, List.getElem?_map, Option.map_eq_some_iff] at h
  obtain ⟨j, h1, h2⟩ := h
  obtain ⟨h4, h5⟩ := List.getElem?_eq_some_iff.mp h1
  simp at h4 h5
  subst h5
  exact ⟨h4, h2.symm⟩
theorem wk_down {K : PySem.W.Frag} {Z1 : Hp} {hi : Int} {n : Nat} : Wk K Z1 (Itc hi (-1) n) (downD hi n) := by
  refine ⟨fun _ => True, YFn fun i => .int (hi + (i : Nat) * (-1)), ?_, fun _ _ _ _ _ _ _ => trivial, fun _ i H x H' g σ Z d I s e y => ?_⟩
  · rw [downD_len]; exact walk_rangeC
  · obtain ⟨rfl, rfl⟩ := y
    obtain ⟨_, rfl⟩ := downD_get e
    have z : hi + (i : Nat) * (-1 : Int) = hi - (i : Nat) := by omega
    exact ⟨Z, I, Same.refl _, by show Dd K Z (.int (hi + (i : Nat) * (-1 : Int))) _; rw [z]; exact .int _⟩
theorem ei_down (n : Bn X "range") (h : EE X C a g fun x g1 => EE X C b g1 fun y g2 => EE X C c g2 fun z g3 => ∃ i j, x = .d (.int i) ∧ y = .d (.int j) ∧ z = .d (.int (-1)) ∧ (-(2 ^ 62) ≤ i ∧ i < 2 ^ 62 ∧ -(2 ^ 62) ≤ j ∧ j < 2 ^ 62) ∧ QI (downD i (i - j).toNat) g3)
    (he : starEach [a, b, c] X.env = (false, eval a X.env) :: starEach [b, c] X.env := by rfl) (he2 : starEach [b, c] X.env = (false, eval b X.env) :: starEach [c] X.env := by rfl) (he3 : starEach [c] X.env = (false, eval c X.env) :: starEach [] X.env := by rfl) (hpl : (backTo pos (starEach [b, c] X.env)).any (·.1) = false := by rfl) : EI X C tg (.Call (.Name "range" p) [a, b, c] [] pos) g QI :=
  EI.of (pi_range3 n.gl n.mg pa_t he hpl) fun σ H Z I R p =>
    (show EA X C [a, b, c] g (fun xs g3 => ∃ i j, xs = [.d (.int i), .d (.int j), .d (.int (-1))] ∧ (-(2 ^ 62) ≤ i ∧ i < 2 ^ 62 ∧ -(2 ^ 62) ≤ j ∧ j < 2 ^ 62) ∧ QI (downD i (i - j).toNat) g3) from
      ea_cons (h.mono fun x g1 h1 => ea_cons (h1.mono fun y g2 h2 => ea_cons (h2.mono fun z g3 ⟨i, j, e1, e2, e3, h3, q⟩ => ea_nil ⟨i, j, by rw [e1, e2, e3], h3, q⟩) he3) he2) he) σ H Z I _ fun vs H1 Z1 xs g1 I1 s1 a1 q1 => by
      obtain ⟨i, j, rfl, ⟨b1, b2, b3, b4⟩, q⟩ := q1
      cases a1 with
      | cons a2 a3 =>
        cases a3 with
        | cons a4 a5 =>
          cases a5 with
          | cons a6 a7 =>
            cases a7; cases a6; cases a4; cases a2
            exact ⟨i, j, -1, _, rfl, RgC.neg b1 b2 b3 b4, p _ H1 Z1 _ g1 I1 s1 wk_down q⟩
theorem lf_down {x y z : Av} {i j : Int} {φ : Int → Int → Prop} (hx : x = .d (.int i)) (hy : y = .d (.int j)) (hz : z = .d (.int (-1))) (b : -(2 ^ 62) ≤ i ∧ i < 2 ^ 62 ∧ -(2 ^ 62) ≤ j ∧ j < 2 ^ 62) (q : φ i j) : ∃ i j, x = .d (.int i) ∧ y = .d (.int j) ∧ z = .d (.int (-1)) ∧ (-(2 ^ 62) ≤ i ∧ i < 2 ^ 62 ∧ -(2 ^ 62) ≤ j ∧ j < 2 ^ 62) ∧ φ i j := ⟨i, j, hx, hy, hz, b, q⟩
theorem lf_rep {x : Av} {φ : Gm → Prop} (h1 : isDO g x = true) (h2 : Shw (dOf g x)) (q : φ g) : isDO g x = true ∧ Shw (dOf g x) ∧ φ g := ⟨h1, h2, q⟩
end
section
variable {X : Cx} {scope : Scope} {s : Shared} {H : Hp} {Cm : Addr} {cl : List (Str × Addr)} {fp : List Addr} {x : Str} {k : Nat} {sp : Sp}
theorem calGB (c : CalG X x k sp) : CalG (bk X scope s H Cm cl fp) x k sp := c
theorem guardB (c : X.A.guards = some []) : (bk X scope s H Cm cl fp).A.guards = some [] := c
end
end AL
/-! x in xs, x not in xs, data of any depth. -/
namespace AL
open PySem PySem.Spec L2
def rInD (K : PySem.W.Frag) (neg : Bool) : R2 := fun x y H Q => ∃ d ds, Dp K H x d ∧ (Dp K H y (.list ds) ∨ Dp K H y (.tuple ds)) ∧ SeqAt.shaped d = true ∧ PyData.canLayAll0 ds = true ∧ Q (.bl (if neg then !(ds.any fun z => PyData.eqv z d) else ds.any fun z => PyData.eqv z d)) H
abbrev rInA (K : PySem.W.Frag) (neg : Bool) : R2 := fun x y H Q => rIn K neg x y H Q ∨ rInD K neg x y H Q
theorem op_inDT {X : Cx} (hu : X.A.units + 66 < cLine) : OpR X (compareOp .In) (rInD X.K false) := by
  intro pins s σ H x y v u Q I rx ry h
  obtain ⟨d, ds, hd, he, sd, se, q⟩ := h
  obtain ⟨as, r1⟩ := Dp.reads I d x v hd rx
  have room : X.A.units + 1 + min (PyData.depthAll ds) d.depth < cLine := by have := SeqAt.depth_of_shaped sd; omega
  rcases he with he | he
  · obtain ⟨bs, r2⟩ := Dp.reads I (.list ds) y u he ry
    exact SeqAt.in_list_reads r2 r1 se (SeqAt.canLay_of_shaped sd) room ⟨.bl _, H, I, rfl, q⟩
  · obtain ⟨bs, r2⟩ := Dp.reads I (.tuple ds) y u he ry
    exact SeqAt.in_tuple_reads r2 r1 se (SeqAt.canLay_of_shaped sd) room ⟨.bl _, H, I, rfl, q⟩
theorem op_notInDT {X : Cx} (hu : X.A.units + 66 < cLine) : OpR X (compareOp .NotIn) (rInD X.K true) := by
  intro pins s σ H x y v u Q I rx ry h
  obtain ⟨d, ds, hd, he, sd, se, q⟩ := h
  obtain ⟨as, r1⟩ := Dp.reads I d x v hd rx
  have room : X.A.units + 1 + min (PyData.depthAll ds) d.depth < cLine := by have := SeqAt.depth_of_shaped sd; omega
  rcases he with he | he
  · obtain ⟨bs, r2⟩ := Dp.reads I (.list ds) y u he ry
    exact SeqAt.notIn_list_reads r2 r1 se (SeqAt.canLay_of_shaped sd) room ⟨.bl _, H, I, rfl, q⟩
  · obtain ⟨bs, r2⟩ := Dp.reads I (.tuple ds) y u he ry
    exact SeqAt.notIn_tuple_reads r2 r1 se (SeqAt.canLay_of_shaped sd) room ⟨.bl _, H, I, rfl, q⟩
theorem op_inA {X : Cx} (hu : X.A.units + 66 < cLine) : OpR X (compareOp .In) (rInA X.K false) := by
  intro pins s σ H x y v u Q I rx ry h
  rcases h with h | h
  · exact op_in_seq pins s σ H x y v u Q I rx ry h
  · exact op_inDT hu pins s σ H x y v u Q I rx ry h
theorem op_notInA {X : Cx} (hu : X.A.units + 66 < cLine) : OpR X (compareOp .NotIn) (rInA X.K true) := by
  intro pins s σ H x y v u Q I rx ry h
  rcases h with h | h
  · exact op_notIn_seq pins s σ H x y v u Q I rx ry h
  · exact op_notInDT hu pins s σ H x y v u Q I rx ry h
section
variable {X : Cx} {C : Ct} {g : Gm} {a b : Expr} {pos : Pos} {k : Nat} {Q : Av → Gm → Prop} {QT : Bool → Gm → Prop} {K : PySem.W.Frag}
theorem ee_inA (hr : Room k X.A) (hm : behindInMarks .In b = false) (h : EE X C a g fun x g1 => EE X C b g1 fun y g2 => RA X.K C (rInA X.K false) x y g2 Q) : EE X C (.Compare a [.In] [b] pos) g Q := EE.of (pe_cmpR (op_inA (by have := hr.un; omega)) pe_t pe_t hm) (ae_op h)
theorem ee_notInA (hr : Room k X.A) (hm : behindInMarks .NotIn b = false) (h : EE X C a g fun x g1 => EE X C b g1 fun y g2 => RA X.K C (rInA X.K true) x y g2 Q) : EE X C (.Compare a [.NotIn] [b] pos) g Q := EE.of (pe_cmpR (op_notInA (by have := hr.un; omega)) pe_t pe_t hm) (ae_op h)
theorem et_inA (hr : Room k X.A) (hm : behindInMarks .In b = false) (h : EE X C a g fun x g1 => EE X C b g1 fun y g2 => RA X.K C (rInA X.K false) x y g2 fun z g3 => ∃ i, z = .d (.bool i) ∧ QT i g3) : ET X C (.Compare a [.In] [b] pos) g QT := et_cmpR (op_inA (by have := hr.un; omega)) hm h
theorem et_notInA (hr : Room k X.A) (hm : behindInMarks .NotIn b = false) (h : EE X C a g fun x g1 => EE X C b g1 fun y g2 => RA X.K C (rInA X.K true) x y g2 fun z g3 => ∃ i, z = .d (.bool i) ∧ QT i g3) : ET X C (.Compare a [.NotIn] [b] pos) g QT := et_cmpR (op_notInA (by have := hr.un; omega)) hm h
theorem ra_inA2 {i j k : Int} (q : Q (.d (.bool (decide (i = j ∨ i = k)))) g) : RA K C (rInA K false) (.d (.int i)) (.d (.tuple [.int j, .int k])) g Q := ra_or1 (ra_in2 q)
theorem ra_ninA2 {i j k : Int} (q : Q (.d (.bool (!decide (i = j ∨ i = k)))) g) : RA K C (rInA K true) (.d (.int i)) (.d (.tuple [.int j, .int k])) g Q := ra_or1 (ra_nin2 q)
/-- the container: a list, a tuple, an own list -/
theorem ra_inD {neg : Bool} {x y : Av} {ds : List PyData} (h1 : isDO g x = true) (h2 : KT g y ds) (s1 : SeqAt.shaped (dOf g x) = true) (s2 : PyData.canLayAll0 ds = true) (q : Q (.d (.bool (if neg then !(ds.any fun z => PyData.eqv z (dOf g x)) else ds.any fun z => PyData.eqv z (dOf g x)))) g) : RA K C (rInA K neg) x y g Q :=
  ra_or2 fun σ H Z v w I hx hw P p => by
    have dx := I.dp hx h1 (SeqAt.canLay_of_shaped s1)
    refine ⟨dOf g x, ds, dx, ?_, s1, s2, p _ H Z (.d (.bool _)) g I (Same.refl _) (Dd.bl _) q⟩
    rcases h2 with rfl | rfl | ⟨j, w', rfl, hj⟩
    · exact .inl (Dd.dp I.fz (.list ds) w (by simp [PyData.canLay0, s2]) hw)
    · exact .inr (Dd.dp I.fz (.tuple ds) w (by simp [PyData.canLay0, s2]) hw)
    · obtain ⟨ad, xs, e, o2, o3, o4, o5⟩ := I.own hj hw
      subst e
      exact .inl (.lst (SqL.of o2) (DdA.dp I.fz ds xs s2 o4))
end
/-! ### what may be compared -/
theorem eqv_int (i j : Int) : PyData.eqv (.int i) (.int j) = decide (i = j) := by simp only [PyData.eqv]; rfl
theorem lay_ints : ∀ l : List Int, PyData.canLayAll0 (l.map PyData.int) = true
  | [] => rfl
  | i :: l => by simp [PyData.canLayAll0, PyData.canLay0, lay_ints l]
theorem any_ints (l : List Int) (i : Int) : ((l.map PyData.int).any fun z => PyData.eqv z (.int i)) = decide (i ∈ l) := by
  induction l with
  | nil => simp
  | cons j l ih =>
    rw [List.map_cons, List.any_cons, ih, eqv_int]
    by_cases h : j = i
    · subst h; simp
    · have h2 : ¬ i = j := fun z => h z.symm
      simp [h, h2]
end AL
/-! Equality of data without truth values; what may be compared. -/
namespace AL
open PySem PySem.Spec L2
mutual
/-- no truth value, no dict within -/
def nb : PyData → Bool
  | .bool _ => false
  | .dict _ => false
  | .list ds => nbA ds
  | .tuple ds => nbA ds
  | _ => true
def nbA : List PyData → Bool
  | [] => true
  | d :: ds => nb d && nbA ds
end
mutual
theorem eqv_iff : ∀ (d e : PyData), nb d = true → nb e = true → (PyData.eqv d e = true ↔ d = e)
  | .none, e, _, h => by cases e <;> simp_all [PyData.eqv, nb]
  | .bool b, _, h, _ => by simp [nb] at h
  | .int i, e, _, h => by cases e <;> simp_all [PyData.eqv, nb]
  | .str x, e, _, h => by cases e <;> simp_all [PyData.eqv, nb]
  | .list ds, e, h1, h2 => by
    cases e with
    | list es =>
      have := eqvAll_iff ds es (by simpa [nb] using h1) (by simpa [nb] using h2)
      simp only [PyData.eqv, this, PyData.list.injEq]
    | _ => simp_all [PyData.eqv, nb]
  | .tuple ds, e, h1, h2 => by
    cases e with
    | tuple es =>
      have := eqvAll_iff ds es (by simpa [nb] using h1) (by simpa [nb] using h2)
      simp only [PyData.eqv, this, PyData.tuple.injEq]
    | _ => simp_all [PyData.eqv, nb]
  | .dict _, _, h, _ => by simp [nb] at h
theorem eqvAll_iff : ∀ (ds es : List PyData), nbA ds = true → nbA es = true → (PyData.eqvAll ds es = true ↔ ds = es)
  | [], [], _, _ => by simp [PyData.eqvAll]
  | [], e :: es, _, _ => by simp [PyData.eqvAll]
  | d :: ds, [], _, _ => by simp [PyData.eqvAll]
  | d :: ds, e :: es, h1, h2 => by
    have a : nb d = true ∧ nbA ds = true := by simpa [nbA] using h1
    have b : nb e = true ∧ nbA es = true := by simpa [nbA] using h2
    have i1 := eqv_iff d e a.1 b.1
    have i2 := eqvAll_iff ds es a.2 b.2
    simp only [PyData.eqvAll, Bool.and_eq_true, i1, i2, List.cons.injEq]
end
theorem nbA_of {ds : List PyData} (h : ∀ d ∈ ds, nb d = true) : nbA ds = true := by
  induction ds with
  | nil => rfl
  | cons d ds ih => simp [nbA, h d (by simp), ih fun e he => h e (by simp [he])]
theorem eqv_dec {d e : PyData} (h1 : nb d = true) (h2 : nb e = true) [Decidable (d = e)] : PyData.eqv d e = decide (d = e) := by
  have := eqv_iff d e h1 h2
  by_cases h : d = e
  · rw [decide_eq_true h]; exact this.mpr h
  · rw [decide_eq_false h]
    cases q : PyData.eqv d e with
    | false => rfl
    | true => exact absurd (this.mp q) h
/-- plain data: it may be compared -/
structure Plain (k : Nat) (d : PyData) : Prop where
  nb : AL.nb d = true
  lay : d.canLay0 = true
  dep : d.depth ≤ k
theorem Plain.shaped {k : Nat} {d : PyData} (h : Plain k d) (hk : k ≤ 64 := by decide) : SeqAt.shaped d = true := by
  unfold SeqAt.shaped
  rw [h.lay, decide_eq_true (Nat.le_trans h.dep hk)]; rfl
theorem Plain.mono {k k' : Nat} {d : PyData} (h : Plain k d) (hk : k ≤ k') : Plain k' d := ⟨h.nb, h.lay, Nat.le_trans h.dep hk⟩
theorem plain_int (i : Int) : Plain 0 (.int i) := ⟨rfl, rfl, Nat.le_refl _⟩
theorem plain_none : Plain 0 .none := ⟨rfl, rfl, Nat.le_refl _⟩
theorem plainA {k : Nat} : ∀ {ds : List PyData}, (∀ d ∈ ds, Plain k d) → nbA ds = true ∧ PyData.canLayAll0 ds = true ∧ PyData.depthAll ds ≤ k
  | [], _ => ⟨rfl, rfl, Nat.zero_le _⟩
  | d :: ds, h => by
    have a := h d (by simp)
    obtain ⟨b1, b2, b3⟩ := plainA (ds := ds) fun e he => h e (by simp [he])
    exact ⟨by simp [nbA, a.nb, b1], by simp [PyData.canLayAll0, a.lay, b2], by simp only [PyData.depthAll]; exact Nat.max_le.mpr ⟨a.dep, b3⟩⟩
theorem plain_list {k : Nat} {ds : List PyData} (h : ∀ d ∈ ds, Plain k d) : Plain (k + 1) (.list ds) := by
  obtain ⟨b1, b2, b3⟩ := plainA h
  exact ⟨by simp [nb, b1], by simp [PyData.canLay0, b2], by simp only [PyData.depth]; omega⟩
theorem plain_tup {k : Nat} {ds : List PyData} (h : ∀ d ∈ ds, Plain k d) : Plain (k + 1) (.tuple ds) := by
  obtain ⟨b1, b2, b3⟩ := plainA h
  exact ⟨by simp [nb, b1], by simp [PyData.canLay0, b2], by simp only [PyData.depth]; omega⟩
theorem plain_two {k : Nat} {d e : PyData} (h : Plain k d) (h2 : Plain k e) : Plain (k + 1) (.tuple [d, e]) := plain_tup fun x hx => by
  simp at hx
  rcases hx with rfl | rfl
  · exact h
  · exact h2
section
variable {C : Ct} {g : Gm} {Q : Av → Gm → Prop} {K : PySem.W.Frag}
/-- the same data on both sides -/
theorem ra_neSame {x y : Av} (h1 : isDO g x = true) (h2 : isDO g y = true) {d : PyData} (e1 : dOf g x = d) (e2 : dOf g y = d) (s : SeqAt.shaped d = true) (q : Q (.d (.bool false)) g) : RA K C (rNeD K) x y g Q := by
  refine ra_ne h1 h2 (by rw [e1]; exact s) (by rw [e2]; exact s) ?_
  rw [e1, e2, SeqAt.eqv_refl d (SeqAt.canLay_of_shaped s)]; exact q
theorem ra_eqSame {x y : Av} (h1 : isDO g x = true) (h2 : isDO g y = true) {d : PyData} (e1 : dOf g x = d) (e2 : dOf g y = d) (s : SeqAt.shaped d = true) (q : Q (.d (.bool true)) g) : RA K C (rEqD K) x y g Q := by
  refine ra_eq h1 h2 (by rw [e1]; exact s) (by rw [e2]; exact s) ?_
  rw [e1, e2, SeqAt.eqv_refl d (SeqAt.canLay_of_shaped s)]; exact q
/-- plain data: equal or not -/
theorem ra_neP {x y : Av} {k : Nat} (h1 : isDO g x = true) (h2 : isDO g y = true) (s1 : Plain k (dOf g x)) (s2 : Plain k (dOf g y)) (hk : k ≤ 64) (q : ∀ b, (b = true ↔ dOf g x ≠ dOf g y) → Q (.d (.bool b)) g) : RA K C (rNeD K) x y g Q :=
  ra_ne h1 h2 (s1.shaped hk) (s2.shaped hk) (q _ (by
    have := eqv_iff (dOf g x) (dOf g y) s1.nb s2.nb
    cases h : PyData.eqv (dOf g x) (dOf g y) with
    | true => simp [this.mp h]
    | false =>
      have n : dOf g x ≠ dOf g y := fun z => by rw [this.mpr z] at h; cases h
      simp [n]))
theorem ra_eqP {x y : Av} {k : Nat} (h1 : isDO g x = true) (h2 : isDO g y = true) (s1 : Plain k (dOf g x)) (s2 : Plain k (dOf g y)) (hk : k ≤ 64) (q : ∀ b, (b = true ↔ dOf g x = dOf g y) → Q (.d (.bool b)) g) : RA K C (rEqD K) x y g Q :=
  ra_eq h1 h2 (s1.shaped hk) (s2.shaped hk) (q _ (eqv_iff (dOf g x) (dOf g y) s1.nb s2.nb))
/-- x not in (), x in () -/
theorem ra_ninNil {d : PyData} (s1 : SeqAt.shaped d = true) (q : Q (.d (.bool true)) g) : RA K C (rInA K true) (.d d) (.d (.tuple [])) g Q := ra_inD rfl kt_t s1 rfl (by simpa using q)
theorem any_eqv {k : Nat} {ds : List PyData} {d : PyData} (h : ∀ e ∈ ds, Plain k e) (hd : Plain k d) : ((ds.any fun z => PyData.eqv z d) = true) ↔ d ∈ ds := by
  rw [List.any_eq_true]
  constructor
  · rintro ⟨x, h1, h2⟩
    rw [← (eqv_iff x d (h x h1).nb hd.nb).mp h2]; exact h1
  · intro m; exact ⟨d, m, (eqv_iff d d hd.nb hd.nb).mpr rfl⟩
/-- membership of plain data -/
theorem ra_inP {neg : Bool} {k : Nat} {x y : Av} {ds : List PyData} (h1 : isDO g x = true) (h2 : KT g y ds) (s1 : Plain k (dOf g x)) (s2 : ∀ e ∈ ds, Plain k e) (hk : k ≤ 64) (q : ∀ b, (b = true ↔ dOf g x ∈ ds) → Q (.d (.bool (if neg then !b else b))) g) : RA K C (rInA K neg) x y g Q :=
  ra_inD h1 h2 (s1.shaped hk) (plainA s2).2.1 (q _ (any_eqv s2 s1))
end
/-! ### == and != of data or of flat things (texts) -/
abbrev rEqA (K : PySem.W.Frag) : R2 := fun x y H Q => rEqD K x y H Q ∨ rEq x y H Q
abbrev rNeA (K : PySem.W.Frag) : R2 := fun x y H Q => rNeD K x y H Q ∨ rNe x y H Q
theorem op_eqA {X : Cx} {k : Nat} (hr : Room k X.A) : OpR X (compareOp .Eq) (rEqA X.K) := by
  intro pins s σ H x y v u Q I rx ry h
  rcases h with h | h
  · exact op_eqD hr.units pins s σ H x y v u Q I rx ry h
  · exact op_eq pins s σ H x y v u Q I rx ry h
theorem op_neA {X : Cx} {k : Nat} (hr : Room k X.A) : OpR X (compareOp .NotEq) (rNeA X.K) := by
  intro pins s σ H x y v u Q I rx ry h
  rcases h with h | h
  · exact op_neD hr.units pins s σ H x y v u Q I rx ry h
  · exact op_ne pins s σ H x y v u Q I rx ry h
section
variable {X : Cx} {C : Ct} {g : Gm} {a b : Expr} {pos : Pos} {k : Nat} {Q : Av → Gm → Prop} {QT : Bool → Gm → Prop} {K : PySem.W.Frag}
theorem ee_eqA (hr : Room k X.A) (h : EE X C a g fun x g1 => EE X C b g1 fun y g2 => RA X.K C (rEqA X.K) x y g2 Q) : EE X C (.Compare a [.Eq] [b] pos) g Q := EE.of (pe_cmpR (op_eqA hr) pe_t pe_t (nomark _)) (ae_op h)
theorem ee_neA (hr : Room k X.A) (h : EE X C a g fun x g1 => EE X C b g1 fun y g2 => RA X.K C (rNeA X.K) x y g2 Q) : EE X C (.Compare a [.NotEq] [b] pos) g Q := EE.of (pe_cmpR (op_neA hr) pe_t pe_t (nomark _)) (ae_op h)
theorem et_eqA (hr : Room k X.A) (h : EE X C a g fun x g1 => EE X C b g1 fun y g2 => RA X.K C (rEqA X.K) x y g2 fun z g3 => ∃ i, z = .d (.bool i) ∧ QT i g3) : ET X C (.Compare a [.Eq] [b] pos) g QT := et_cmpR (op_eqA hr) (nomark _) h
theorem et_neA (hr : Room k X.A) (h : EE X C a g fun x g1 => EE X C b g1 fun y g2 => RA X.K C (rNeA X.K) x y g2 fun z g3 => ∃ i, z = .d (.bool i) ∧ QT i g3) : ET X C (.Compare a [.NotEq] [b] pos) g QT := et_cmpR (op_neA hr) (nomark _) h
theorem ra_eqS {x y : Str} (q : Q (.d (.bool (decide (x = y)))) g) : RA K C (rEqA K) (.d (.str x)) (.d (.str y)) g Q := ra_or2 fun σ H Z v w I hx hw P p => by
  have a1 : Dd K Z v (.str x) := hx
  have a2 : Dd K Z w (.str y) := hw
  cases a1; cases a2
  refine ⟨rfl, ?_⟩
  have e : decide (V.str x = V.str y) = decide (x = y) := decide_eq_decide.mpr ⟨fun z => by cases z; rfl, fun z => by rw [z]⟩
  rw [e]
  exact p _ H Z (.d (.bool _)) g I (Same.refl _) (Dd.bl _) q
theorem ra_neS {x y : Str} (q : Q (.d (.bool (!decide (x = y)))) g) : RA K C (rNeA K) (.d (.str x)) (.d (.str y)) g Q := ra_or2 fun σ H Z v w I hx hw P p => by
  have a1 : Dd K Z v (.str x) := hx
  have a2 : Dd K Z w (.str y) := hw
  cases a1; cases a2
  refine ⟨rfl, ?_⟩
  have e : decide (V.str x = V.str y) = decide (x = y) := decide_eq_decide.mpr ⟨fun z => by cases z; rfl, fun z => by rw [z]⟩
  rw [e]
  exact p _ H Z (.d (.bool _)) g I (Same.refl _) (Dd.bl _) q
theorem ra_eqStr {x y : Str} (h : x = y) (q : Q (.d (.bool true)) g) : RA K C (rEqA K) (.d (.str x)) (.d (.str y)) g Q := ra_eqS (by rw [decide_eq_true h]; exact q)
theorem ra_neStr {x y : Str} (h : x = y) (q : Q (.d (.bool false)) g) : RA K C (rNeA K) (.d (.str x)) (.d (.str y)) g Q := ra_neS (by rw [decide_eq_true h]; exact q)
end
end AL
/-! Fractions as data; sizes in bits. -/
namespace AL
open PySem PySem.Spec L2

/-- a fraction in lowest terms -/
abbrev fr (q : Rat) : PyData := .tuple [.int q.num, .int q.den]
theorem fr_mk (a b : Int) (h : 0 < b) : (.tuple [.int (a / (Int.gcd a b : Int)), .int (b / (Int.gcd a b : Int))] : PyData) = fr (Rat.divInt a b) := by
  have hs : b.sign = 1 := Int.sign_eq_one_of_pos h
  have e1 : (Rat.divInt a b).num = a / (Int.gcd a b : Int) := by rw [Rat.num_divInt, hs, Int.one_mul, Int.gcd_comm]
  have e2 : ((Rat.divInt a b).den : Int) = b / (Int.gcd a b : Int) := by
    rw [Rat.den_divInt, if_neg (by omega), Int.gcd_comm]
    rw [Int.natCast_ediv]
    congr 1
    omega
  unfold fr
  rw [e1, e2]
theorem fr_eq {p q : Rat} : (p.num = q.num ∧ (p.den : Int) = (q.den : Int)) ↔ p = q := by
  constructor
  · rintro ⟨h1, h2⟩
    exact Rat.ext h1 (by omega)
  · rintro rfl; exact ⟨rfl, rfl⟩
theorem fr_lt {p q : Rat} : p.num * (q.den : Int) < q.num * (p.den : Int) ↔ p < q := (Rat.lt_iff p q).symm
theorem fr_inj {p q : Rat} (h : fr p = fr q) : p = q := by
  unfold fr at h
  simp only [PyData.tuple.injEq, List.cons.injEq, PyData.int.injEq, and_true] at h
  exact fr_eq.mp h
theorem di_self (q : Rat) : Rat.divInt q.num q.den = q := Rat.num_divInt_den q
theorem di_add (p q : Rat) : Rat.divInt (p.num * (q.den : Int) + q.num * (p.den : Int)) ((p.den : Int) * (q.den : Int)) = p + q := by
  have h1 : (p.den : Int) ≠ 0 := by have := p.den_nz; omega
  have h2 : (q.den : Int) ≠ 0 := by have := q.den_nz; omega
  rw [← Rat.divInt_add_divInt _ _ h1 h2, di_self, di_self]
theorem di_mul (p q : Rat) : Rat.divInt (p.num * q.num) ((p.den : Int) * (q.den : Int)) = p * q := by
  rw [← Rat.divInt_mul_divInt, di_self, di_self]
theorem di_one (s : Int) : Rat.divInt s 1 = (s : Rat) := by rw [Rat.divInt_eq_div]; show (s : Rat) / ((1 : Int) : Rat) = s; have : ((1 : Int) : Rat) = 1 := rfl; rw [this]; grind
theorem di_cmul (s : Int) (q : Rat) : Rat.divInt (s * q.num) (1 * (q.den : Int)) = (s : Rat) * q := by
  rw [← Rat.divInt_mul_divInt, di_self, di_one]
theorem di_div (q : Rat) (c : Int) : Rat.divInt q.num ((q.den : Int) * c) = q / (c : Rat) := by
  have e : Rat.divInt 1 c = 1 / (c : Rat) := by rw [Rat.divInt_eq_div]; simp
  have := Rat.divInt_mul_divInt q.num 1 (d₁ := (q.den : Int)) (d₂ := c)
  rw [Int.mul_one, di_self, e] at this
  rw [← this, Rat.div_def, Rat.div_def, Rat.one_mul]
/-- of two blocks that touch -/
def mix (s : Int) (t : Rat) (p : Int) (u : Rat) : Rat := ((s : Rat) * t + (p : Rat) * u) / ((s + p : Int) : Rat)

/-! ### sizes -/
def Bt (n : Nat) (a : Int) : Prop := a.natAbs < 2 ^ n
theorem Bt.mono {n m : Nat} {a : Int} (h : Bt n a) (hm : n ≤ m) : Bt m a := Nat.lt_of_lt_of_le h (Nat.pow_le_pow_right (by decide) hm)
theorem Bt.mul {n m : Nat} {a b : Int} (h : Bt n a) (k : Bt m b) : Bt (n + m) (a * b) := wide_lt h k
theorem Bt.add {n : Nat} {a b : Int} (h : Bt n a) (k : Bt n b) : Bt (n + 1) (a + b) := by
  unfold Bt at *
  have := Int.natAbs_add_le a b
  rw [Nat.pow_succ]; omega
theorem Bt.div {n : Nat} {a b : Int} (h : Bt n a) : Bt n (a / b) := Nat.lt_of_le_of_lt (Int.natAbs_ediv_le_natAbs a b) h
theorem Bt.gcd {n : Nat} {a b : Int} (h : Bt n b) (hb : 0 < b) : Bt n (Int.gcd a b : Int) := by
  unfold Bt at *
  have h1 : Int.gcd a b ≤ b.natAbs := Nat.le_of_dvd (by omega) (Int.gcd_dvd_natAbs_right a b)
  omega
theorem bt_cmul {n m : Nat} {i j : Int} (ha : Bt n i) (hb : Bt m j) (h : n + m ≤ 900000 := by decide) : CMulW i j :=
  wide_mul (a := n + 1) (b := m + 1) (Bt.mono ha (Nat.le_succ _)) (Bt.mono hb (Nat.le_succ _)) (by omega) (by omega) (by omega)
theorem bt_cdiv {n : Nat} {i j : Int} (hj : 0 < j) (hb : Bt n j) (h : n ≤ 8999 := by decide) : CDivW i j :=
  wide_div hj (b := n + 1) (Bt.mono hb (Nat.le_succ _)) (by omega) (by omega)
theorem gcd_pos {a b : Int} (h : 0 < b) : (0 : Int) < (Int.gcd a b : Int) := by
  have := Int.gcd_pos_of_ne_zero_right a (show b ≠ 0 by omega)
  omega
theorem bt_small {a : Int} {n : Nat} (h : a.natAbs < 2 ^ n) : Bt n a := h
def Rb (n : Nat) (q : Rat) : Prop := Bt n q.num ∧ Bt n q.den
theorem Rb.n {n : Nat} {q : Rat} (h : Rb n q) : Bt n q.num := h.1
theorem Rb.d {n : Nat} {q : Rat} (h : Rb n q) : Bt n q.den := h.2
theorem den_pos (q : Rat) : (0 : Int) < (q.den : Int) := by have := q.den_nz; omega
theorem Rb.mono {n m : Nat} {q : Rat} (h : Rb n q) (hm : n ≤ m) : Rb m q := ⟨h.1.mono hm, h.2.mono hm⟩
theorem Rb.di {n : Nat} {a b : Int} (ha : Bt n a) (hb : Bt n b) (h : 0 < b) : Rb n (Rat.divInt a b) := by
  constructor
  · rw [Rat.num_divInt, Int.sign_eq_one_of_pos h, Int.one_mul]
    exact ha.div
  · rw [Rat.den_divInt, if_neg (by omega)]
    unfold Bt at *
    exact Nat.lt_of_le_of_lt (Nat.div_le_self _ _) hb
theorem Rb.add {n m : Nat} {p q : Rat} (h : Rb n p) (k : Rb m q) : Rb (n + m + 1) (p + q) := by
  rw [← di_add]
  have a1 := h.1.mul k.2
  have a2 := k.1.mul h.2
  rw [Nat.add_comm m n] at a2
  exact .di (a1.add a2) ((h.2.mul k.2).mono (by omega)) (Int.mul_pos (den_pos p) (den_pos q))
theorem Rb.cmul {n m : Nat} {s : Int} {q : Rat} (h : Bt n s) (k : Rb m q) : Rb (n + m) ((s : Rat) * q) := by
  rw [← di_cmul]
  exact .di (h.mul k.1) (by rw [Int.one_mul]; exact k.2.mono (by omega)) (by rw [Int.one_mul]; exact den_pos q)
theorem Rb.mix {n m : Nat} {s p : Int} {t u : Rat} (ht : Rb n t) (hu : Rb m u) (hs : 0 < s ∧ s < 128) (hp : 0 < p ∧ p < 128) : Rb (n + m + 23) (mix s t p u) := by
  unfold AL.mix
  have bs : Bt 7 s := by unfold Bt; omega
  have bp : Bt 7 p := by unfold Bt; omega
  have bsp : Bt 8 (s + p) := by unfold Bt; omega
  have h1 := (Rb.cmul bs ht).add (Rb.cmul bp hu)
  rw [← di_div]
  exact .di (h1.1.mono (by omega)) ((h1.2.mul bsp).mono (by omega)) (Int.mul_pos (den_pos _) (by omega))
end AL
/-! States, plans: what the defs compute. -/
namespace AL
open PySem PySem.Spec L2

abbrev Bl := Int × Rat
abbrev blk (b : Bl) : PyData := .tuple [.int b.1, fr b.2]
abbrev stD (L : List Bl) : PyData := .tuple (L.map blk)
def Sz (s : Int) : Prop := 1 ≤ s ∧ s ≤ 99
/-- between -2^n and 2^n -/
def Bd (n : Nat) (q : Rat) : Prop := -((2 ^ n : Int) : Rat) ≤ q ∧ q ≤ ((2 ^ n : Int) : Rat)
theorem two_le {n m : Nat} (h : n ≤ m) : ((2 ^ n : Int) : Rat) ≤ ((2 ^ m : Int) : Rat) := by
  rw [Rat.intCast_le_intCast]
  have : 2 ^ n ≤ 2 ^ m := Nat.pow_le_pow_right (by decide) h
  exact_mod_cast this
theorem Bd.mono {n m : Nat} {q : Rat} (h : Bd n q) (k : n ≤ m) : Bd m q := by
  have := two_le k
  exact ⟨by have := h.1; grind, by have := h.2; grind⟩
theorem Bd.num {n : Nat} {q : Rat} (h : Bd n q) : q.num.natAbs ≤ 2 ^ n * q.den := by
  obtain ⟨h1, h2⟩ := h
  rw [Rat.le_iff] at h1 h2
  have e : ((2 ^ n : Int) : Rat).num = 2 ^ n := rfl
  have e2 : ((2 ^ n : Int) : Rat).den = 1 := rfl
  have e3 : (-((2 ^ n : Int) : Rat)).num = -(2 ^ n) := rfl
  have e4 : (-((2 ^ n : Int) : Rat)).den = 1 := rfl
  rw [e3, e4] at h1
  rw [e, e2] at h2
  have c : ((2 ^ n * q.den : Nat) : Int) = (2 : Int) ^ n * (q.den : Int) := by simp
  have a1 : -(((2 ^ n * q.den : Nat) : Int)) ≤ q.num := by rw [c]; rw [Int.neg_mul] at h1; simpa using h1
  have a2 : q.num ≤ ((2 ^ n * q.den : Nat) : Int) := by rw [c]; simpa using h2
  omega
/-- the denominator divides E, the size is at most 2^n -/
structure Gr (E n : Nat) (q : Rat) : Prop where
  dv : q.den ∣ E
  bd : Bd n q
theorem Gr.rb {E n m : Nat} {q : Rat} (h : Gr E n q) (h0 : 0 < E) (h1 : E < 2 ^ m) : Rb (n + m) q := by
  have hd : q.den ≤ E := Nat.le_of_dvd h0 h.dv
  have hn := h.bd.num
  constructor
  · unfold Bt
    rw [Nat.pow_add]
    exact Nat.lt_of_le_of_lt hn (Nat.mul_lt_mul_of_pos_left (by omega) (Nat.two_pow_pos n))
  · unfold Bt
    rw [Nat.pow_add]
    have h2 := Nat.two_pow_pos n
    have : 2 ^ m ≤ 2 ^ n * 2 ^ m := Nat.le_mul_of_pos_left _ h2
    omega
theorem eq_div_of {x N K : Rat} (hK : K ≠ 0) (h : x * K = N) : x = N / K := by
  rw [Rat.div_def, ← h, Rat.mul_assoc, Rat.mul_inv_cancel _ hK, Rat.mul_one]
theorem mul_den (t : Rat) : t * ((t.den : Int) : Rat) = (t.num : Rat) := by
  have h := Rat.num_divInt_den t
  rw [Rat.divInt_eq_div] at h
  have hd : (((t.den : Int)) : Rat) ≠ 0 := by
    intro z
    have := t.den_nz
    have h2 : ((t.den : Int) : Rat) = ((0 : Int) : Rat) := z
    rw [Rat.intCast_inj] at h2
    omega
  have := Rat.div_mul_cancel (a := (t.num : Rat)) hd
  rw [h] at this; exact this
theorem mul_dvd {t : Rat} {E : Nat} {k : Nat} (h : E = t.den * k) : t * ((E : Int) : Rat) = ((t.num * k : Int) : Rat) := by
  rw [h, Int.natCast_mul, Rat.intCast_mul, ← Rat.mul_assoc, mul_den, Rat.intCast_mul]
theorem mix_gr {E n : Nat} {S s : Int} {t T : Rat} (hS : 0 < S) (hs : 0 < s) (ht : Gr E n t) (hT : Gr E n T) (hE : 0 < E) : Gr (E * (S + s).toNat) n (mix S t s T) := by
  have hc : (0 : Rat) < ((S + s : Int) : Rat) := Rat.intCast_pos.mpr (by omega)
  have hS' : (0 : Rat) < (S : Rat) := Rat.intCast_pos.mpr hS
  have hs' : (0 : Rat) < (s : Rat) := Rat.intCast_pos.mpr hs
  have e : mix S t s T * ((S : Rat) + (s : Rat)) = (S : Rat) * t + (s : Rat) * T := by
    unfold mix
    rw [Rat.intCast_add] at hc ⊢
    rw [Rat.div_def, Rat.mul_assoc, Rat.inv_mul_cancel _ (by grind), Rat.mul_one]
  constructor
  · obtain ⟨k, hk⟩ := ht.dv
    obtain ⟨l, hl⟩ := hT.dv
    have et := mul_dvd hk
    have eT := mul_dvd hl
    have key : mix S t s T = Rat.divInt (S * (t.num * k) + s * (T.num * l)) ((E : Int) * (S + s)) := by
      have hd : (0 : Rat) < (((E : Int) * (S + s) : Int) : Rat) := Rat.intCast_pos.mpr (Int.mul_pos (by omega) (by omega))
      rw [Rat.divInt_eq_div]
      refine eq_div_of (by grind) ?_
      simp only [Rat.intCast_mul, Rat.intCast_add] at et eT ⊢
      rw [← et, ← eT]
      grind
    rw [key, Rat.den_divInt, if_neg (by have := Int.mul_pos (show (0 : Int) < (E : Int) by omega) (show 0 < S + s by omega); omega)]
    have : ((E : Int) * (S + s)).natAbs = E * (S + s).toNat := by rw [Int.natAbs_mul]; congr 1; omega
    rw [this]
    refine Nat.div_dvd_of_dvd ?_
    rw [← this]
    exact Int.gcd_dvd_natAbs_left _ _
  · obtain ⟨a1, a2⟩ := ht.bd
    obtain ⟨b1, b2⟩ := hT.bd
    constructor
    · apply Classical.byContradiction
      intro hn
      have h1 := Rat.mul_pos (a := -((2 ^ n : Int) : Rat) - mix S t s T) (b := (S : Rat) + (s : Rat)) (by grind) (by grind)
      have h2 := Rat.mul_nonneg (a := (S : Rat)) (b := t + ((2 ^ n : Int) : Rat)) (by grind) (by grind)
      have h3 := Rat.mul_nonneg (a := (s : Rat)) (b := T + ((2 ^ n : Int) : Rat)) (by grind) (by grind)
      grind
    · apply Classical.byContradiction
      intro hn
      have h1 := Rat.mul_pos (a := mix S t s T - ((2 ^ n : Int) : Rat)) (b := (S : Rat) + (s : Rat)) (by grind) (by grind)
      have h2 := Rat.mul_nonneg (a := (S : Rat)) (b := ((2 ^ n : Int) : Rat) - t) (by grind) (by grind)
      have h3 := Rat.mul_nonneg (a := (s : Rat)) (b := ((2 ^ n : Int) : Rat) - T) (by grind) (by grind)
      grind
/-- a valid state: a common denominator below 2^n, no temperature beyond 2^n -/
structure OkSt (n : Nat) (L : List Bl) : Prop where
  one : 1 ≤ L.length
  most : L.length ≤ 12
  szs : ∀ b ∈ L, Sz b.1
  cd : ∃ D : Nat, 0 < D ∧ D < 2 ^ n ∧ ∀ b ∈ L, Gr D n b.2
theorem OkSt.mono {n m : Nat} {L : List Bl} (o : OkSt n L) (h : n ≤ m) : OkSt m L := by
  obtain ⟨D, d0, d1, d2⟩ := o.cd
  exact ⟨o.one, o.most, o.szs, D, d0, Nat.lt_of_lt_of_le d1 (Nat.pow_le_pow_right (by decide) h), fun b hb => ⟨(d2 b hb).dv, (d2 b hb).bd.mono h⟩⟩
theorem Sz.i {s : Int} (h : Sz s) : 0 < s ∧ s < 128 := by unfold Sz at h; omega
def siz (L : List Bl) (i : Nat) : Int := (L.getD i (1, 0)).1
def tmp (L : List Bl) (i : Nat) : Rat := (L.getD i (1, 0)).2
theorem getD_eq {L : List Bl} {i : Nat} (h : i < L.length) : L.getD i (1, 0) = L[i] := by simp [h]
theorem at_st {L : List Bl} {i : Nat} (h : i < L.length) : atI (L.map blk) (i : Int) = some (.tuple [.int (siz L i), fr (tmp L i)]) := by
  refine atI_nat ?_
  rw [List.getElem?_map, List.getElem?_eq_getElem h]
  unfold siz tmp
  rw [getD_eq h]; rfl
theorem OkSt.sz {n : Nat} {L : List Bl} (o : OkSt n L) {i : Nat} (h : i < L.length) : Sz (siz L i) := by
  unfold siz; rw [getD_eq h]; exact o.szs _ (List.getElem_mem h)
theorem OkSt.each {n : Nat} {L : List Bl} (o : OkSt n L) : ∀ b ∈ L, Sz b.1 ∧ Rb (2 * n) b.2 := fun b hb => by
  obtain ⟨D, d0, d1, d2⟩ := o.cd
  exact ⟨o.szs b hb, by have := (d2 b hb).rb d0 d1; rwa [← Nat.two_mul] at this⟩
theorem OkSt.rb {n : Nat} {L : List Bl} (o : OkSt n L) {i : Nat} (h : i < L.length) : Rb (2 * n) (tmp L i) := by
  unfold tmp; rw [getD_eq h]; exact (o.each _ (List.getElem_mem h)).2
/-- of blocks with their own bounds -/
theorem OkSt.of_rb {m : Nat} : ∀ {L : List Bl}, 1 ≤ L.length → L.length ≤ 12 → (∀ b ∈ L, Sz b.1 ∧ Rb m b.2) → OkSt (12 * m + 1) L := by
  intro L h1 h12 h
  have key : ∀ M : List Bl, (∀ b ∈ M, Rb m b.2) → ∃ D : Nat, 0 < D ∧ D ≤ 2 ^ (m * M.length) ∧ ∀ b ∈ M, b.2.den ∣ D := by
    intro M
    induction M with
    | nil => intro _; exact ⟨1, by decide, by simp, by simp⟩
    | cons b M ih =>
      intro hM
      obtain ⟨D, d0, d1, d2⟩ := ih fun c hc => hM c (by simp [hc])
      have hb := (hM b (by simp)).2
      unfold Bt at hb
      have hb' : b.2.den < 2 ^ m := by simpa using hb
      refine ⟨b.2.den * D, Nat.mul_pos b.2.den_pos d0, ?_, fun c hc => ?_⟩
      · rw [List.length_cons, Nat.mul_succ, Nat.add_comm, Nat.pow_add]
        exact Nat.mul_le_mul (Nat.le_of_lt hb') d1
      · rcases List.mem_cons.mp hc with rfl | hc
        · exact Nat.dvd_mul_right _ _
        · exact Nat.dvd_trans (d2 c hc) (Nat.dvd_mul_left _ _)
  obtain ⟨D, d0, d1, d2⟩ := key L fun b hb => (h b hb).2
  have hp : 2 ^ (m * L.length) < 2 ^ (12 * m + 1) := Nat.pow_lt_pow_right (by decide) (by
    have : m * L.length ≤ m * 12 := Nat.mul_le_mul_left _ h12
    omega)
  refine ⟨h1, h12, fun b hb => (h b hb).1, D, d0, by omega, fun b hb => ⟨d2 b hb, ?_⟩⟩
  have hn := (h b hb).2.1
  unfold Bt at hn
  have hd := b.2.den_pos
  have hm : (2 : Nat) ^ m ≤ 2 ^ (12 * m + 1) := Nat.pow_le_pow_right (by decide) (by omega)
  have hk : b.2.num.natAbs ≤ 2 ^ (12 * m + 1) * b.2.den := Nat.le_trans (Nat.le_of_lt (Nat.lt_of_lt_of_le hn hm)) (Nat.le_mul_of_pos_right _ hd)
  have c : ((2 ^ (12 * m + 1) * b.2.den : Nat) : Int) = (2 : Int) ^ (12 * m + 1) * (b.2.den : Int) := by simp
  constructor
  · rw [Rat.le_iff]
    show -(2 : Int) ^ (12 * m + 1) * (b.2.den : Int) ≤ b.2.num * ((1 : Nat) : Int)
    rw [Int.neg_mul, ← c]; omega
  · rw [Rat.le_iff]
    show b.2.num * ((1 : Nat) : Int) ≤ (2 : Int) ^ (12 * m + 1) * (b.2.den : Int)
    rw [← c]; omega
/-- which of two temperatures is ahead -/
def ahead (up : Bool) (p q : Rat) : Bool := if up then decide (p < q) else decide (q < p)
/-- a def that tells which of two fractions is ahead -/
def S_ahead (up : Bool) : Con := fun as r => ∃ p q : Rat, as = [.d (fr p), .d (fr q)] ∧ Rb 4400 p ∧ Rb 4400 q ∧ r = .bool (ahead up p q)
def bfr (up : Bool) (L : List Bl) (i j : Nat) : Bool := if tmp L i = tmp L j then decide (i < j) else ahead up (tmp L i) (tmp L j)
def natD (l : List Nat) : List PyData := l.map fun n => .int (n : Nat)
theorem natD_get {l : List Nat} {i : Nat} {d : PyData} (h : (natD l)[i]? = some d) : ∃ n, l[i]? = some n ∧ d = .int (n : Nat) := by
  simp only [natD, List.getElem?_map, Option.map_eq_some_iff] at h
  obtain ⟨n, h1, h2⟩ := h
  exact ⟨n, h1, h2.symm⟩
theorem natD_len (l : List Nat) : (natD l).length = l.length := by simp [natD]
theorem fm_range {α β : Type} : ∀ (l : List α) (f : α → Option β), ((List.range l.length).filterMap fun k => (l[k]?).bind f) = l.filterMap f
  | [], f => by simp
  | a :: l, f => by
    rw [List.length_cons, List.range_succ_eq_map, List.filterMap_cons, List.filterMap_map, List.filterMap_cons]
    have ih := fm_range l f
    have e : ((fun k => ((a :: l)[k]?).bind f) ∘ Nat.succ) = fun k => (l[k]?).bind f := by funext k; simp
    rw [e, ih]
    simp
theorem sel_count (l : List Nat) (p : Nat → Bool) : ((List.range (natD l).length).filterMap fun k => (l[k]?).bind fun o => if p o = true then some (PyData.int (o : Nat)) else none).length = (l.filter p).length := by
  rw [natD_len, fm_range]
  induction l with
  | nil => rfl
  | cons a l ih =>
    rw [List.filterMap_cons, List.filter_cons]
    by_cases h : p a = true
    · rw [if_pos h]; simp [h, ih]
    · rw [if_neg h]; simp [h, ih]
theorem natD_ins (l : List Nat) (c n : Nat) : (natD l).take c ++ PyData.int (n : Nat) :: (natD l).drop c = natD (l.take c ++ n :: l.drop c) := by simp [natD, List.map_take, List.map_drop]
/-- the others in order, the first m blocks looked at -/
def ordStep (up : Bool) (L : List Bl) (b : Nat) (l : List Nat) (n : Nat) : List Nat :=
  if n = b then l else l.take (l.filter fun o => bfr up L o n).length ++ n :: l.drop (l.filter fun o => bfr up L o n).length
def ordTo (up : Bool) (L : List Bl) (b : Nat) (m : Nat) : List Nat := (List.range m).foldl (ordStep up L b) []
theorem ordTo_succ (up : Bool) (L : List Bl) (b m : Nat) : ordTo up L b (m + 1) = ordStep up L b (ordTo up L b m) m := by
  unfold ordTo; rw [List.range_succ, List.foldl_append]; rfl
def ordO (up : Bool) (L : List Bl) (b : Nat) : List Nat := ordTo up L b L.length
theorem ordTo_mem {up : Bool} {L : List Bl} {b : Nat} : ∀ {m n : Nat}, n ∈ ordTo up L b m → n < m ∧ n ≠ b
  | 0, _, h => by simp [ordTo] at h
  | m + 1, n, h => by
    rw [ordTo_succ] at h
    unfold ordStep at h
    split at h
    · have := ordTo_mem h; omega
    · rename_i hm
      rw [List.mem_append, List.mem_cons] at h
      rcases h with h | rfl | h
      · have := ordTo_mem (List.mem_of_mem_take h); omega
      · exact ⟨Nat.lt_succ_self _, hm⟩
      · have := ordTo_mem (List.mem_of_mem_drop h); omega
theorem ordTo_len {up : Bool} {L : List Bl} {b : Nat} : ∀ m : Nat, (ordTo up L b m).length ≤ m
  | 0 => by simp [ordTo]
  | m + 1 => by
    have := ordTo_len (up := up) (L := L) (b := b) m
    rw [ordTo_succ]; unfold ordStep
    split
    · omega
    · rw [List.length_append, List.length_cons, List.length_take, List.length_drop]; omega
/-- the greedy walk over blocks in an order: the temperature, the plan -/
def exStep (up : Bool) (L : List Bl) (b : Nat) (x : Rat × List Nat) (o : Nat) : Rat × List Nat :=
  if ahead up x.1 (tmp L o) then (mix (siz L b) x.1 (siz L o) (tmp L o), x.2 ++ [o]) else x
def exOf (up : Bool) (L : List Bl) (b : Nat) (l : List Nat) : Rat × List Nat := l.foldl (exStep up L b) (tmp L b, [])
def ext (up : Bool) (L : List Bl) (b : Nat) : Rat × List Nat := exOf up L b (ordO up L b)
theorem exOf_snoc (up : Bool) (L : List Bl) (b : Nat) (l : List Nat) (o : Nat) : exOf up L b (l ++ [o]) = exStep up L b (exOf up L b l) o := by
  unfold exOf; rw [List.foldl_append]; rfl
theorem exFold_gr {up : Bool} {L : List Bl} {b n D : Nat} (O : OkSt n L) (hD : ∀ c ∈ L, Gr D n c.2) (hb : b < L.length) : ∀ (l : List Nat) (x : Rat × List Nat) (E m : Nat), 0 < E → E < 2 ^ m → D ∣ E → Gr E n x.1 → (∀ o ∈ l, o < L.length) → (∃ E', 0 < E' ∧ E' < 2 ^ (m + 8 * l.length) ∧ Gr E' n (l.foldl (exStep up L b) x).1) ∧ (l.foldl (exStep up L b) x).2.length ≤ x.2.length + l.length
  | [], x, E, m, e0, e1, _, h, _ => ⟨⟨E, e0, by simpa using e1, h⟩, by simp⟩
  | o :: l, x, E, m, e0, e1, eD, h, hl => by
    have ho : o < L.length := hl o (by simp)
    have hl' : ∀ q ∈ l, q < L.length := fun q h => hl q (by simp [h])
    have s1 := O.sz hb
    have s2 := O.sz ho
    unfold Sz at s1 s2
    have hc0 : 0 < (siz L b + siz L o).toNat := by omega
    have hc1 : (siz L b + siz L o).toNat < 2 ^ 8 := by
      have : (siz L b + siz L o).toNat ≤ 198 := by omega
      exact Nat.lt_of_le_of_lt this (by decide)
    have g0 : 0 < E * (siz L b + siz L o).toNat := Nat.mul_pos e0 hc0
    have g1 : E * (siz L b + siz L o).toNat < 2 ^ (m + 8) := by rw [Nat.pow_add]; exact Nat.mul_lt_mul'' e1 hc1
    have g2 : D ∣ E * (siz L b + siz L o).toNat := Nat.dvd_trans eD (Nat.dvd_mul_right _ _)
    have ht : Gr D n (tmp L o) := by unfold tmp; rw [getD_eq ho]; exact hD _ (List.getElem_mem ho)
    have k : Gr (E * (siz L b + siz L o).toNat) n (exStep up L b x o).1 ∧ (exStep up L b x o).2.length ≤ x.2.length + 1 := by
      unfold exStep
      split
      · exact ⟨mix_gr (by omega) (by omega) h ⟨Nat.dvd_trans ht.dv eD, ht.bd⟩ e0, by simp⟩
      · exact ⟨⟨Nat.dvd_trans h.dv (Nat.dvd_mul_right _ _), h.bd⟩, by omega⟩
    obtain ⟨⟨E', f0, f1, f2⟩, i2⟩ := exFold_gr O hD hb l (exStep up L b x o) _ _ g0 g1 g2 k.1 hl'
    rw [List.foldl_cons, List.length_cons]
    refine ⟨⟨E', f0, ?_, f2⟩, by have := k.2; omega⟩
    rwa [show m + 8 * (l.length + 1) = m + 8 + 8 * l.length by omega]
theorem exOf_rb {up : Bool} {L : List Bl} {b n : Nat} (O : OkSt n L) (hb : b < L.length) (l : List Nat) (hl : ∀ o ∈ l, o < L.length) : Rb (n + (n + 8 * l.length)) (exOf up L b l).1 ∧ (exOf up L b l).2.length ≤ l.length := by
  obtain ⟨D, d0, d1, d2⟩ := O.cd
  have hg : Gr D n (tmp L b) := by unfold tmp; rw [getD_eq hb]; exact d2 _ (List.getElem_mem hb)
  obtain ⟨⟨E, e0, e1, e2⟩, h2⟩ := exFold_gr (up := up) O d2 hb l (tmp L b, []) D n d0 d1 (Nat.dvd_refl _) hg hl
  exact ⟨e2.rb e0 e1, by simpa [exOf] using h2⟩
theorem ext_rb {up : Bool} {L : List Bl} {b : Nat} (O : OkSt 1900 L) (hb : b < L.length) : Rb 4000 (ext up L b).1 := by
  obtain ⟨r0, r1⟩ := exOf_rb (up := up) O hb (ordO up L b) fun o h => (ordTo_mem h).1
  have hl1 := ordTo_len (up := up) (L := L) (b := b) L.length
  have hm := O.most
  have h : (ordO up L b).length ≤ 12 := Nat.le_trans hl1 hm
  exact r0.mono (by omega)
/-- the state wout the block at r, with the block r in two parts -/
def wout (L : List Bl) (r : Nat) : List Bl := L.take r ++ L.drop (r + 1)
def parted (L : List Bl) (r : Nat) (s : Int) : List Bl := L.take r ++ (s, tmp L r) :: L.drop (r + 1) ++ [(siz L r - s, tmp L r)]
end AL
/-! The laws' own helpers: the pool, what is taken of it. -/
namespace AL
open PySem PySem.Spec L2

/-- the pool: two numbers -/
structure Pl where
  x : Int
  y : Int
structure Pl.Ok (p : Pl) : Prop where
  x0 : 0 ≤ p.x
  y0 : 0 ≤ p.y
  y1 : p.y < 2147483647
abbrev Pl.ds (p : Pl) : List PyData := [.int p.x, .int p.y]
def cellS (ns : List Int) (k : Nat) : Int := if k < ns.length then ((ns.getD k 0).natAbs : Int) else 0
def pool (ns : List Int) (k : Nat) : Pl :=
  let b := (cellS ns k % 2147483629 + 7919 * k * k + 31 * k + 17) * 48271 % 2147483647
  ⟨cellS ns k * (if decide ((10 : Int) ^ 18 ≤ cellS ns k) = true then 1 else 0), b * b % 2147483629⟩
theorem cell_nn (ns : List Int) (k : Nat) : 0 ≤ cellS ns k := by unfold cellS; split <;> omega
theorem pool_ok (ns : List Int) (k : Nat) : (pool ns k).Ok := by
  refine ⟨?_, ?_, ?_⟩
  · refine Int.mul_nonneg (cell_nn ns k) ?_
    split <;> decide
  · exact Int.emod_nonneg _ (by decide)
  · exact Int.lt_trans (Int.emod_lt_of_pos _ (by decide)) (by decide)
/-- take from the pool a number below w -/
def pick (p : Pl) (w : Int) : Int := if 0 < p.x then p.x % w else ((p.y * 48271 + 12345) % 2147483647) * ((p.y * 48271 + 12345) % 2147483647) % 2147483629 / 64 % w
def left (p : Pl) (w : Int) : Pl := if 0 < p.x then ⟨p.x / w, p.y⟩ else ⟨p.x, (p.y * 48271 + 12345) % 2147483647⟩
theorem left_ok {p : Pl} (h : p.Ok) {w : Int} (hw : 0 < w) : (left p w).Ok := by
  unfold left
  split
  · exact ⟨Int.ediv_nonneg h.x0 (by omega), h.y0, h.y1⟩
  · exact ⟨h.x0, Int.emod_nonneg _ (by decide), Int.emod_lt_of_pos _ (by decide)⟩
theorem pick_nn {p : Pl} {w : Int} (hw : 0 < w) : 0 ≤ pick p w := by
  unfold pick; split <;> exact Int.emod_nonneg _ (by omega)
theorem pick_lt {p : Pl} {w : Int} (hw : 0 < w) : pick p w < w := by
  unfold pick; split <;> exact Int.emod_lt_of_pos _ hw
/-- as a number of a place -/
def pickN (p : Pl) (w : Int) : Nat := (pick p w).toNat
theorem pickN_eq {p : Pl} {w : Int} (hw : 0 < w) : (pickN p w : Int) = pick p w := Int.toNat_of_nonneg (pick_nn hw)
end AL
namespace AL
open PySem PySem.Spec L2
def dn7 (w : Int) : Int := if w = 4 then 2 else if w = 5 then 3 else if w = 6 then 5 else 1
theorem at_dn7 {w : Int} (h0 : 0 ≤ w) (h1 : w < 8) (hn : ¬ w = 0) : atI ([.int 1, .int 1, .int 1, .int 2, .int 3, .int 5, .int 1] : List PyData) (w - 1) = some (.int (dn7 w)) := by
  have h : w = 1 ∨ w = 2 ∨ w = 3 ∨ w = 4 ∨ w = 5 ∨ w = 6 ∨ w = 7 := by omega
  rcases h with rfl | rfl | rfl | rfl | rfl | rfl | rfl <;> rfl
theorem dn7_pos (w : Int) : 0 < dn7 w ∧ dn7 w < 8 := by
  unfold dn7
  split
  · decide
  · split
    · decide
    · split <;> decide
/-- a drawn temperature (the laws k08, k72, k73) -/
def shareS (p : Pl) : Rat := if pick p 8 = 0 then Rat.divInt (pick (left p 8) 2000000000 - 1000000000) (1 + pick (left (left p 8) 2000000000) 6) else Rat.divInt (pick (left p 8) 16 - 4) (dn7 (pick p 8))
def shareP (p : Pl) : Pl := if pick p 8 = 0 then left (left (left p 8) 2000000000) 6 else left (left p 8) 16
theorem shareP_ok {p : Pl} (h : p.Ok) : (shareP p).Ok := by
  unfold shareP
  split
  · exact left_ok (left_ok (left_ok h (by decide)) (by decide)) (by decide)
  · exact left_ok (left_ok h (by decide)) (by decide)
theorem shareS_rb {p : Pl} : Rb 40 (shareS p) := by
  unfold shareS
  split
  · have a := pick_nn (p := left p 8) (w := 2000000000) (by decide)
    have b := pick_lt (p := left p 8) (w := 2000000000) (by decide)
    have c := pick_nn (p := left (left p 8) 2000000000) (w := 6) (by decide)
    have d := pick_lt (p := left (left p 8) 2000000000) (w := 6) (by decide)
    exact .di (by unfold Bt; omega) (by unfold Bt; omega) (by omega)
  · have a := pick_nn (p := left p 8) (w := 16) (by decide)
    have b := pick_lt (p := left p 8) (w := 16) (by decide)
    have c := dn7_pos (pick p 8)
    exact .di (by unfold Bt; omega) (by unfold Bt; omega) c.1
/-- a drawn size -/
def size4 (a b c d : Int) : Int := if d = 0 then 1 else if d = 1 then 1 + a else if d = 2 then 1 + b else 1 + c
theorem at_size4 {a b c d : Int} (h0 : 0 ≤ d) (h1 : d < 4) : atI ([.int 1, .int (1 + a), .int (1 + b), .int (1 + c)] : List PyData) d = some (.int (size4 a b c d)) := by
  have h : d = 0 ∨ d = 1 ∨ d = 2 ∨ d = 3 := by omega
  rcases h with rfl | rfl | rfl | rfl <;> rfl
def sizeS (p : Pl) : Int := size4 (pick p 4) (pick (left p 4) 9) (pick (left (left p 4) 9) 99) (pick (left (left (left p 4) 9) 99) 4)
def sizeP (p : Pl) : Pl := left (left (left (left p 4) 9) 99) 4
theorem sizeP_ok {p : Pl} (h : p.Ok) : (sizeP p).Ok := left_ok (left_ok (left_ok (left_ok h (by decide)) (by decide)) (by decide)) (by decide)
theorem sizeS_sz (p : Pl) : Sz (sizeS p) := by
  have a := pick_nn (p := p) (w := 4) (by decide)
  have a' := pick_lt (p := p) (w := 4) (by decide)
  have b := pick_nn (p := left p 4) (w := 9) (by decide)
  have b' := pick_lt (p := left p 4) (w := 9) (by decide)
  have c := pick_nn (p := left (left p 4) 9) (w := 99) (by decide)
  have c' := pick_lt (p := left (left p 4) 9) (w := 99) (by decide)
  unfold sizeS size4 Sz
  split
  · decide
  · split
    · omega
    · split <;> omega
/-- n drawn blocks -/
def lotN : Nat → Pl → List Bl × Pl
  | 0, p => ([], p)
  | n + 1, p => ((lotN n p).1 ++ [(sizeS (lotN n p).2, shareS (sizeP (lotN n p).2))], shareP (sizeP (lotN n p).2))
theorem lotN_ok {p : Pl} (h : p.Ok) : ∀ n : Nat, (lotN n p).2.Ok
  | 0 => h
  | n + 1 => shareP_ok (sizeP_ok (lotN_ok h n))
theorem lotN_len (p : Pl) : ∀ n : Nat, (lotN n p).1.length = n
  | 0 => rfl
  | n + 1 => by
    show ((lotN n p).1 ++ [_]).length = _
    rw [List.length_append, lotN_len p n]; rfl
theorem lotN_each (p : Pl) : ∀ (n : Nat) (b : Bl), b ∈ (lotN n p).1 → Sz b.1 ∧ Rb 40 b.2
  | 0, b, h => by simp [lotN] at h
  | n + 1, b, h => by
    have h' : b ∈ (lotN n p).1 ++ [(sizeS (lotN n p).2, shareS (sizeP (lotN n p).2))] := h
    rw [List.mem_append, List.mem_singleton] at h'
    rcases h' with h' | rfl
    · exact lotN_each p n b h'
    · exact ⟨sizeS_sz _, shareS_rb⟩
def lotS (p : Pl) (m : Int) : List Bl := (lotN (1 + pick p m).toNat (left p m)).1
def lotP (p : Pl) (m : Int) : Pl := (lotN (1 + pick p m).toNat (left p m)).2
end AL
/-! What the laws say of states: wout a block, with a block in two parts. -/
namespace AL
open PySem PySem.Spec L2
def NoneLess (L W : List Bl) (b o : Nat) (u : Rat) : Prop := ¬ (ext true L b).1 < (ext true W o).1 ∧ ¬ (ext false W o).1 < (ext false L b).1 ∧ (¬ tmp L b < u → (ext true L b).1 = (ext true W o).1) ∧ (¬ u < tmp L b → (ext false L b).1 = (ext false W o).1)
theorem wout_len {L : List Bl} {r : Nat} (hr : r < L.length) : (wout L r).length + 1 = L.length := by
  unfold wout; rw [List.length_append, List.length_take, List.length_drop]; omega
theorem mem_wout {L : List Bl} {r : Nat} {b : Bl} (hb : b ∈ wout L r) : b ∈ L := by
  unfold wout at hb
  rcases List.mem_append.mp hb with h | h
  · exact List.mem_of_mem_take h
  · exact List.mem_of_mem_drop h
theorem wout_ok {n : Nat} {L : List Bl} {r : Nat} (O : OkSt n L) (h2 : 2 ≤ L.length) (hr : r < L.length) : OkSt n (wout L r) := by
  have := wout_len hr
  have := O.most
  obtain ⟨D, d0, d1, d2⟩ := O.cd
  exact ⟨by omega, by omega, fun b hb => O.szs b (mem_wout hb), D, d0, d1, fun b hb => d2 b (mem_wout hb)⟩
theorem parted_len {L : List Bl} {r : Nat} {s : Int} (hr : r < L.length) : (parted L r s).length = L.length + 1 := by
  unfold parted
  rw [List.length_append, List.length_append, List.length_cons, List.length_take, List.length_drop, List.length_singleton]; omega
theorem parted_ok {n : Nat} {L : List Bl} {r : Nat} {s : Int} (O : OkSt n L) (hr : r < L.length) (h12 : L.length < 12) (h0 : 1 ≤ s) (h1 : s < siz L r) : OkSt n (parted L r s) := by
  have := parted_len (s := s) hr
  have hs := O.sz hr
  obtain ⟨D, d0, d1, d2⟩ := O.cd
  have hT : Gr D n (tmp L r) := by unfold tmp; rw [getD_eq hr]; exact d2 _ (List.getElem_mem hr)
  have key : ∀ b ∈ parted L r s, b ∈ L ∨ (Sz b.1 ∧ b.2 = tmp L r) := fun b hb => by
    unfold parted at hb
    rw [List.mem_append, List.mem_append, List.mem_cons, List.mem_singleton] at hb
    rcases hb with (h | rfl | h) | rfl
    · exact .inl (List.mem_of_mem_take h)
    · exact .inr ⟨by unfold Sz at *; omega, rfl⟩
    · exact .inl (List.mem_of_mem_drop h)
    · exact .inr ⟨by unfold Sz at *; show 1 ≤ siz L r - s ∧ siz L r - s ≤ 99; omega, rfl⟩
  refine ⟨by omega, by omega, fun b hb => ?_, D, d0, d1, fun b hb => ?_⟩
  · rcases key b hb with h | h
    · exact O.szs b h
    · exact h.1
  · rcases key b hb with h | h
    · exact d2 b h
    · rw [h.2]; exact hT
end AL
/-! One touch as a function of the temperature; the order of the others. -/
namespace AL
open PySem PySem.Spec L2

/-! ### mixing -/
theorem mix_eq {S s : Int} (t T : Rat) (hS : 0 < S) (hs : 0 < s) : mix S t s T * ((S : Rat) + (s : Rat)) = (S : Rat) * t + (s : Rat) * T := by
  have h : (0 : Rat) < ((S + s : Int) : Rat) := Rat.intCast_pos.mpr (by omega)
  unfold mix
  rw [Rat.intCast_add] at h ⊢
  rw [Rat.div_def, Rat.mul_assoc, Rat.inv_mul_cancel _ (by grind), Rat.mul_one]
section
variable {x y S s t u T : Rat}
theorem mx_lt (hS : 0 < S) (hs : 0 < s) (h : x * (S + s) = S * t + s * T) (ht : t < T) : x < T := by
  have h1 : 0 < S * (T - t) := Rat.mul_pos hS (by grind)
  apply Classical.byContradiction
  intro hn
  have h4 : 0 ≤ (x - T) * (S + s) := Rat.mul_nonneg (by grind) (by grind)
  grind
theorem mx_gt (hS : 0 < S) (hs : 0 < s) (h : x * (S + s) = S * t + s * T) (ht : t < T) : t < x := by
  have h1 : 0 < s * (T - t) := Rat.mul_pos hs (by grind)
  apply Classical.byContradiction
  intro hn
  have h4 : 0 ≤ (t - x) * (S + s) := Rat.mul_nonneg (by grind) (by grind)
  grind
theorem mx_lt' (hS : 0 < S) (hs : 0 < s) (h : x * (S + s) = S * t + s * T) (ht : T < t) : T < x := by
  have h1 : 0 < S * (t - T) := Rat.mul_pos hS (by grind)
  apply Classical.byContradiction
  intro hn
  have h4 : 0 ≤ (T - x) * (S + s) := Rat.mul_nonneg (by grind) (by grind)
  grind
theorem mx_gt' (hS : 0 < S) (hs : 0 < s) (h : x * (S + s) = S * t + s * T) (ht : T < t) : x < t := by
  have h1 : 0 < s * (t - T) := Rat.mul_pos hs (by grind)
  apply Classical.byContradiction
  intro hn
  have h4 : 0 ≤ (x - t) * (S + s) := Rat.mul_nonneg (by grind) (by grind)
  grind
theorem mx_mono (hS : 0 < S) (hs : 0 < s) (h : x * (S + s) = S * t + s * T) (k : y * (S + s) = S * u + s * T) (ht : t < u) : x < y := by
  have h1 : 0 < S * (u - t) := Rat.mul_pos hS (by grind)
  apply Classical.byContradiction
  intro hn
  have h4 : 0 ≤ (x - y) * (S + s) := Rat.mul_nonneg (by grind) (by grind)
  grind
end
theorem cast_pos {s : Int} (h : 0 < s) : (0 : Rat) < (s : Rat) := Rat.intCast_pos.mpr h
/-- one touch in the direction -/
def stp (up : Bool) (S : Int) (t : Rat) (s : Int) (T : Rat) : Rat := if ahead up t T then mix S t s T else t
/-- at least as far in the direction -/
def lef (up : Bool) (t u : Rat) : Prop := if up then t ≤ u else u ≤ t
def ltf (up : Bool) (t u : Rat) : Prop := if up then t < u else u < t
theorem lef.refl (up : Bool) (t : Rat) : lef up t t := by unfold lef; split <;> exact Rat.le_refl
theorem lef.trans {up : Bool} {t u v : Rat} (h : lef up t u) (k : lef up u v) : lef up t v := by
  unfold lef at *
  cases up
  · simp at *; exact Rat.le_trans k h
  · simp at *; exact Rat.le_trans h k
theorem lef_of {up : Bool} {t u : Rat} (h : ltf up t u) : lef up t u := by
  unfold ltf lef at *
  cases up <;> simp at * <;> grind
theorem lef_cases {up : Bool} {t u : Rat} (h : lef up t u) : t = u ∨ ltf up t u := by
  unfold ltf lef at *
  cases up <;> simp at * <;> grind
theorem ahead_iff {up : Bool} {t T : Rat} : ahead up t T = true ↔ ltf up t T := by
  unfold ahead ltf
  cases up <;> simp
section
variable {up : Bool} {S s : Int} {t u T : Rat}
theorem stp_yes (h : ltf up t T) : stp up S t s T = mix S t s T := by unfold stp; rw [if_pos (ahead_iff.mpr h)]
theorem stp_no (h : ¬ ltf up t T) : stp up S t s T = t := by unfold stp; rw [if_neg (fun z => h (ahead_iff.mp z))]
theorem mix_between (hS : 0 < S) (hs : 0 < s) (h : ltf up t T) : ltf up t (mix S t s T) ∧ ltf up (mix S t s T) T := by
  have e := mix_eq t T hS hs
  have a := cast_pos hS
  have b := cast_pos hs
  unfold ltf at *
  cases up
  · simp at *; exact ⟨mx_gt' a b e h, mx_lt' a b e h⟩
  · simp at *; exact ⟨mx_gt a b e h, mx_lt a b e h⟩
theorem stp_ge (hS : 0 < S) (hs : 0 < s) : lef up t (stp up S t s T) := by
  by_cases h : ltf up t T
  · rw [stp_yes h]; exact lef_of (mix_between hS hs h).1
  · rw [stp_no h]; exact lef.refl _ _
theorem stp_mono (hS : 0 < S) (hs : 0 < s) (h : ltf up t u) : ltf up (stp up S t s T) (stp up S u s T) := by
  have e1 := mix_eq t T hS hs
  have e2 := mix_eq u T hS hs
  have a := cast_pos hS
  have b := cast_pos hs
  by_cases h1 : ltf up t T
  · rw [stp_yes h1]
    by_cases h2 : ltf up u T
    · rw [stp_yes h2]
      unfold ltf at *
      cases up
      · simp at *; exact mx_mono a b e2 e1 h
      · simp at *; exact mx_mono a b e1 e2 h
    · rw [stp_no h2]
      have := (mix_between hS hs h1).2
      unfold ltf at *
      cases up
      · simp at *; grind
      · simp at *; grind
  · have h2 : ¬ ltf up u T := by
      unfold ltf at *
      cases up
      · simp at *; grind
      · simp at *; grind
    rw [stp_no h1, stp_no h2]; exact h
theorem stp_lt {U : Rat} (hS : 0 < S) (hs : 0 < s) (h : ltf up t U) (k : lef up T U) : ltf up (stp up S t s T) U := by
  by_cases h1 : ltf up t T
  · rw [stp_yes h1]
    have := (mix_between hS hs h1).2
    unfold ltf lef at *
    cases up
    · simp at *; grind
    · simp at *; grind
  · rw [stp_no h1]; exact h
end
/-! ### a row of touches -/
def Gt (up : Bool) (L : List Bl) (S : Int) (l : List Nat) (t : Rat) : Rat := l.foldl (fun t o => stp up S t (siz L o) (tmp L o)) t
theorem ext_Gt (up : Bool) (L : List Bl) (b : Nat) : (ext up L b).1 = Gt up L (siz L b) (ordO up L b) (tmp L b) := by
  unfold ext exOf Gt
  generalize ordO up L b = l
  have : ∀ (l : List Nat) (x : Rat × List Nat), (l.foldl (exStep up L b) x).1 = l.foldl (fun t o => stp up (siz L b) t (siz L o) (tmp L o)) x.1 := by
    intro l
    induction l with
    | nil => intro x; rfl
    | cons o l ih =>
      intro x
      rw [List.foldl_cons, List.foldl_cons, ih]
      congr 1
      unfold exStep stp
      split <;> rfl
  exact this l (tmp L b, [])
section
variable {up : Bool} {L : List Bl} {S : Int} {t u : Rat}
/-- all the blocks of the row have a size -/
def Szs (L : List Bl) (l : List Nat) : Prop := ∀ o ∈ l, 0 < siz L o
theorem Gt_app (l m : List Nat) (t : Rat) : Gt up L S (l ++ m) t = Gt up L S m (Gt up L S l t) := by unfold Gt; rw [List.foldl_append]
theorem Gt_cons (o : Nat) (m : List Nat) (t : Rat) : Gt up L S (o :: m) t = Gt up L S m (stp up S t (siz L o) (tmp L o)) := rfl
theorem Gt_mono (hS : 0 < S) : ∀ {l : List Nat} {t u : Rat}, Szs L l → ltf up t u → ltf up (Gt up L S l t) (Gt up L S l u)
  | [], _, _, _, h => h
  | o :: l, t, u, z, h => Gt_mono (l := l) (t := stp up S t (siz L o) (tmp L o)) (u := stp up S u (siz L o) (tmp L o)) hS (fun q hq => z q (by simp [hq])) (stp_mono hS (z o (by simp)) h)
theorem Gt_monoE (hS : 0 < S) {l : List Nat} {t u : Rat} (z : Szs L l) (h : lef up t u) : lef up (Gt up L S l t) (Gt up L S l u) := by
  rcases lef_cases h with rfl | h
  · exact lef.refl _ _
  · exact lef_of (Gt_mono hS z h)
theorem Gt_ge (hS : 0 < S) : ∀ {l : List Nat} {t : Rat}, Szs L l → lef up t (Gt up L S l t)
  | [], _, _ => lef.refl _ _
  | o :: l, t, z => (stp_ge hS (z o (by simp))).trans (Gt_ge hS (fun q hq => z q (by simp [hq])))
theorem Gt_lt (hS : 0 < S) {U : Rat} : ∀ {l : List Nat} {t : Rat}, Szs L l → (∀ o ∈ l, lef up (tmp L o) U) → ltf up t U → ltf up (Gt up L S l t) U
  | [], _, _, _, h => h
  | o :: l, t, z, k, h => Gt_lt (l := l) (t := stp up S t (siz L o) (tmp L o)) hS (fun q hq => z q (by simp [hq])) (fun q hq => k q (by simp [hq])) (stp_lt hS (z o (by simp)) h (k o (by simp)))
/-- without r -/
theorem Gt_filter (hS : 0 < S) (r : Nat) : ∀ {l : List Nat} {t : Rat}, Szs L l → lef up (Gt up L S (l.filter fun o => decide (o ≠ r)) t) (Gt up L S l t)
  | [], _, _ => lef.refl _ _
  | o :: l, t, z => by
    have z' : Szs L l := fun q hq => z q (by simp [hq])
    by_cases h : o = r
    · rw [List.filter_cons, if_neg (by simp [h])]
      exact (Gt_filter hS r z').trans (Gt_monoE hS z' (stp_ge hS (z o (by simp))))
    · rw [List.filter_cons, if_pos (by simp [h])]
      exact Gt_filter hS r z'
theorem Gt_filter_eq (hS : 0 < S) (r : Nat) : ∀ {l : List Nat} {t : Rat}, Szs L l → lef up (tmp L r) t → Gt up L S (l.filter fun o => decide (o ≠ r)) t = Gt up L S l t
  | [], _, _, _ => rfl
  | o :: l, t, z, k => by
    have z' : Szs L l := fun q hq => z q (by simp [hq])
    by_cases h : o = r
    · rw [List.filter_cons, if_neg (by simp [h]), Gt_cons, stp_no (by
        rw [h]; unfold ltf lef at *; cases up <;> simp at * <;> grind)]
      exact Gt_filter_eq hS r z' k
    · rw [List.filter_cons, if_pos (by simp [h])]
      exact Gt_filter_eq hS r z' (k.trans (stp_ge hS (z o (by simp))))
end

/-! ### the order -/
section
variable {up : Bool} {L : List Bl}
theorem bfr_iff {i j : Nat} : bfr up L i j = true ↔ (tmp L i = tmp L j ∧ i < j) ∨ (tmp L i ≠ tmp L j ∧ ltf up (tmp L i) (tmp L j)) := by
  unfold bfr
  by_cases h : tmp L i = tmp L j
  · rw [if_pos h]; simp [h]
  · rw [if_neg h, ahead_iff]; simp [h]
theorem bfr_trans {i j k : Nat} (h : bfr up L i j = true) (g : bfr up L j k = true) : bfr up L i k = true := by
  rw [bfr_iff] at *
  unfold ltf at *
  cases up <;> simp at * <;> grind
theorem bfr_asym {i j : Nat} (h : bfr up L i j = true) (g : bfr up L j i = true) : False := by
  rw [bfr_iff] at *
  unfold ltf at *
  cases up <;> simp at * <;> grind
theorem bfr_total {i j : Nat} (n : i ≠ j) (h : ¬ bfr up L i j = true) : bfr up L j i = true := by
  rw [bfr_iff] at *
  unfold ltf at *
  cases up <;> simp at * <;> grind
theorem bfr_lef {i j : Nat} (h : bfr up L i j = true) : lef up (tmp L i) (tmp L j) := by
  rw [bfr_iff] at h
  rcases h with ⟨e, _⟩ | ⟨_, h⟩
  · rw [e]; exact lef.refl _ _
  · exact lef_of h
end
/-- of a sorted list, those before a place are a beginning of it -/
theorem filter_take {α : Type} {R : α → α → Prop} {p : α → Bool} (hp : ∀ x y, R x y → p y = true → p x = true) : ∀ {l : List α}, l.Pairwise R → l.take (l.filter p).length = l.filter p ∧ l.drop (l.filter p).length = l.filter (fun x => !p x)
  | [], _ => by simp
  | x :: l, h => by
    rw [List.pairwise_cons] at h
    obtain ⟨h1, h2⟩ := h
    obtain ⟨i1, i2⟩ := filter_take hp h2
    by_cases hx : p x = true
    · rw [List.filter_cons, if_pos hx, List.filter_cons, if_neg (by simp [hx])]
      simp [i1, i2]
    · have e : l.filter p = [] := by
        rw [List.filter_eq_nil_iff]
        intro y hy hpy
        exact hx (hp x y (h1 y hy) hpy)
      have e2 : l.filter (fun x => !p x) = l := by
        rw [List.filter_eq_self]
        intro y hy
        have : ¬ p y = true := fun z => hx (hp x y (h1 y hy) z)
        simp [this]
      rw [List.filter_cons, if_neg hx, e, List.filter_cons, if_pos (by simp [hx]), e2]
      simp
theorem sorted_unique {α : Type} {R : α → α → Prop} (asym : ∀ a b, R a b → R b a → False) : ∀ {l m : List α}, l.Pairwise R → m.Pairwise R → (∀ x, x ∈ l ↔ x ∈ m) → l = m
  | [], [], _, _, _ => rfl
  | [], b :: m, _, _, h => absurd ((h b).mpr (by simp)) (by simp)
  | a :: l, [], _, _, h => absurd ((h a).mp (by simp)) (by simp)
  | a :: l, b :: m, hl, hm, h => by
    rw [List.pairwise_cons] at hl hm
    have e : a = b := by
      rcases List.mem_cons.mp ((h a).mp (by simp)) with e | ha
      · exact e
      · rcases List.mem_cons.mp ((h b).mpr (by simp)) with e | hb
        · exact e.symm
        · exact (asym _ _ (hm.1 a ha) (hl.1 b hb)).elim
    subst e
    rw [sorted_unique asym hl.2 hm.2 fun x => ⟨fun hx => ?_, fun hx => ?_⟩]
    · rcases List.mem_cons.mp ((h x).mp (List.mem_cons_of_mem _ hx)) with e | q
      · subst e; exact (asym _ _ (hl.1 x hx) (hl.1 x hx)).elim
      · exact q
    · rcases List.mem_cons.mp ((h x).mpr (List.mem_cons_of_mem _ hx)) with e | q
      · subst e; exact (asym _ _ (hm.1 x hx) (hm.1 x hx)).elim
      · exact q
section
variable {up : Bool} {L : List Bl} {b : Nat}
theorem ordTo_pw : ∀ m : Nat, (ordTo up L b m).Pairwise fun i j => bfr up L i j = true
  | 0 => by simp [ordTo]
  | m + 1 => by
    have ih := ordTo_pw m
    rw [ordTo_succ]; unfold ordStep
    split
    · exact ih
    · obtain ⟨e1, e2⟩ := filter_take (p := fun o => bfr up L o m) (fun x y h g => bfr_trans h g) ih
      rw [e1, e2, List.pairwise_append, List.pairwise_cons]
      refine ⟨ih.filter _, ⟨fun y hy => ?_, ih.filter _⟩, fun x hx y hy => ?_⟩
      · have h1 := List.mem_filter.mp hy
        have h2 := ordTo_mem h1.1
        exact bfr_total (by omega) (by simpa using h1.2)
      · have h1 := (List.mem_filter.mp hx).2
        rcases List.mem_cons.mp hy with rfl | hy
        · exact h1
        · have h3 := List.mem_filter.mp hy
          have h2 := ordTo_mem h3.1
          exact bfr_trans h1 (bfr_total (by omega) (by simpa using h3.2))
theorem mem_ordTo : ∀ {m n : Nat}, n < m → n ≠ b → n ∈ ordTo up L b m
  | m + 1, n, h, hn => by
    rw [ordTo_succ]; unfold ordStep
    by_cases e : n = m
    · subst e
      rw [if_neg hn]; simp
    · have ih := mem_ordTo (m := m) (n := n) (by omega) hn
      split
      · exact ih
      · rw [List.mem_append, List.mem_cons]
        rw [← List.take_append_drop ((ordTo up L b m).filter fun o => bfr up L o m).length (ordTo up L b m), List.mem_append] at ih
        rcases ih with h | h
        · exact .inl h
        · exact .inr (.inr h)
end
end AL
/-! Without a block; with a block in two parts. -/
namespace AL
open PySem PySem.Spec L2
theorem getD_congr {L M : List Bl} {i j : Nat} (h : L[i]? = M[j]?) : siz L i = siz M j ∧ tmp L i = tmp M j := by
  unfold siz tmp
  rw [List.getD_eq_getElem?_getD, List.getD_eq_getElem?_getD, h]
  exact ⟨rfl, rfl⟩
/-- the place in the whole state -/
def upto (r x : Nat) : Nat := if x < r then x else x + 1
theorem wout_get {L : List Bl} {r x : Nat} (hr : r < L.length) : (wout L r)[x]? = L[upto r x]? := by
  unfold wout upto
  by_cases h : x < r
  · rw [if_pos h, List.getElem?_append_left (by rw [List.length_take]; omega), List.getElem?_take, if_pos h]
  · rw [if_neg h, List.getElem?_append_right (by rw [List.length_take]; omega), List.length_take, List.getElem?_drop]
    congr 1
    omega
section
variable {up : Bool} {L : List Bl} {r b : Nat}
theorem wout_siz (hr : r < L.length) (x : Nat) : siz (wout L r) x = siz L (upto r x) := (getD_congr (wout_get hr)).1
theorem wout_tmp (hr : r < L.length) (x : Nat) : tmp (wout L r) x = tmp L (upto r x) := (getD_congr (wout_get hr)).2
theorem wout_bfr (hr : r < L.length) (i j : Nat) : bfr up (wout L r) i j = bfr up L (upto r i) (upto r j) := by
  unfold bfr
  rw [wout_tmp hr, wout_tmp hr]
  have : decide (i < j) = decide (upto r i < upto r j) := by
    apply decide_eq_decide.mpr
    unfold upto
    split <;> split <;> omega
  rw [this]
theorem wout_ord (hr : r < L.length) (hb : b < L.length) (hne : b ≠ r) : (ordO up (wout L r) (if r < b then b - 1 else b)).map (upto r) = (ordO up L b).filter fun o => decide (o ≠ r) := by
  have hl := wout_len hr
  refine sorted_unique (R := fun i j => bfr up L i j = true) (fun _ _ h g => bfr_asym h g) ?_ ?_ fun x => ?_
  · rw [List.pairwise_map]
    refine (ordTo_pw (up := up) (L := wout L r) (b := if r < b then b - 1 else b) _).imp fun {i j} h => ?_
    rwa [wout_bfr hr] at h
  · exact (ordTo_pw (up := up) (L := L) (b := b) _).filter _
  · rw [List.mem_map, List.mem_filter]
    constructor
    · rintro ⟨i, hi, rfl⟩
      have := ordTo_mem hi
      refine ⟨mem_ordTo ?_ ?_, ?_⟩
      · unfold upto; split <;> omega
      · unfold upto; split <;> split at this <;> omega
      · unfold upto; simp; split <;> omega
    · rintro ⟨hx, hr'⟩
      have hx2 := ordTo_mem hx
      have hr2 : x ≠ r := by simpa using hr'
      refine ⟨if r < x then x - 1 else x, mem_ordTo ?_ ?_, ?_⟩
      · split <;> omega
      · split <;> split <;> omega
      · unfold upto; split <;> split <;> omega
theorem wout_Gt (hr : r < L.length) (S : Int) : ∀ (l : List Nat) (t : Rat), Gt up (wout L r) S l t = Gt up L S (l.map (upto r)) t
  | [], _ => rfl
  | o :: l, t => by
    rw [List.map_cons, Gt_cons, Gt_cons, wout_siz hr, wout_tmp hr]
    exact wout_Gt hr S l _
theorem wout_ext (hr : r < L.length) (hb : b < L.length) (hne : b ≠ r) : (ext up (wout L r) (if r < b then b - 1 else b)).1 = Gt up L (siz L b) ((ordO up L b).filter fun o => decide (o ≠ r)) (tmp L b) := by
  have e : upto r (if r < b then b - 1 else b) = b := by unfold upto; split <;> split <;> omega
  rw [ext_Gt, wout_siz hr, wout_tmp hr, e, wout_Gt hr, wout_ord hr hb hne]
end
theorem szs_ord {up : Bool} {n : Nat} {L : List Bl} {b : Nat} (O : OkSt n L) : Szs L (ordO up L b) := fun o ho => by
  have := O.sz (ordTo_mem ho).1
  unfold Sz at this; omega
theorem none_less_ok {n : Nat} {L : List Bl} {r b : Nat} (O : OkSt n L) (hr : r < L.length) (hb : b < L.length) (hne : b ≠ r) : NoneLess L (wout L r) b (if r < b then b - 1 else b) (tmp L r) := by
  have hS : 0 < siz L b := by have := O.sz hb; unfold Sz at this; omega
  unfold NoneLess
  rw [wout_ext hr hb hne, wout_ext hr hb hne, ext_Gt, ext_Gt]
  refine ⟨?_, ?_, fun h => ?_, fun h => ?_⟩
  · have h := Gt_filter (up := true) (t := tmp L b) hS r (szs_ord (up := true) (b := b) O)
    unfold lef at h; rw [if_pos rfl] at h
    exact Rat.not_lt.mpr h
  · have h := Gt_filter (up := false) (t := tmp L b) hS r (szs_ord (up := false) (b := b) O)
    unfold lef at h; rw [if_neg (by decide)] at h
    exact Rat.not_lt.mpr h
  · exact (Gt_filter_eq (up := true) hS r (szs_ord (up := true) (b := b) O) (by unfold lef; simp; exact Rat.not_lt.mp h)).symm
  · exact (Gt_filter_eq (up := false) hS r (szs_ord (up := false) (b := b) O) (by unfold lef; simp; exact Rat.not_lt.mp h)).symm
/-! ### two parts -/
section
variable {S s s' u T X Y Y' Z : Rat}
theorem mul_cancel_lt {a b K : Rat} (hK : 0 < K) (h : a * K < b * K) : a < b := by
  apply Classical.byContradiction
  intro hn
  have := Rat.mul_nonneg (a := a - b) (b := K) (by grind) (by grind)
  grind
theorem mul_cancel_eq {a b K : Rat} (hK : 0 < K) (h : a * K = b * K) : a = b := by
  apply Classical.byContradiction
  intro hn
  rcases (show a < b ∨ b < a by grind) with h1 | h1
  · have := Rat.mul_pos (a := b - a) (b := K) (by grind) hK
    grind
  · have := Rat.mul_pos (a := a - b) (b := K) (by grind) hK
    grind
theorem mx_comm (hS : 0 < S) (hs : 0 < s) (hs' : 0 < s') (h1 : X * (S + s) = S * u + s * T) (h2 : Y * (S + s') = S * X + s' * T) (k1 : Z * (S + s') = S * u + s' * T) (k2 : Y' * (S + s) = S * Z + s * T) : Y = Y' := by
  have hK : 0 < (S + s) * (S + s') := Rat.mul_pos (by grind) (by grind)
  refine mul_cancel_eq hK ?_
  have a : Y * ((S + s) * (S + s')) = S * (X * (S + s)) + s' * T * (S + s) := by grind
  have b : Y' * ((S + s) * (S + s')) = S * (Z * (S + s')) + s * T * (S + s') := by grind
  rw [a, b, h1, k1]; grind
theorem mx_two (hS : 0 < S) (hs : 0 < s) (hs' : 0 < s') (ht : u < T) (h1 : X * (S + s) = S * u + s * T) (h2 : Y * (S + s') = S * X + s' * T) (k : Z * (S + (s + s')) = S * u + (s + s') * T) : Z < Y := by
  have hX : X < T := mx_lt hS hs h1 ht
  have hY : Y < T := mx_lt hS hs' h2 hX
  have hA : 0 < S * (S + (s + s')) := Rat.mul_pos hS (by grind)
  have e1 : (T - Y) * ((S + s) * (S + s')) = S * (S * (T - u)) := by
    have : (T - Y) * (S + s') = S * (T - X) := by grind
    have : (T - X) * (S + s) = S * (T - u) := by grind
    grind
  have e2 : (T - Z) * (S * (S + (s + s'))) = S * (S * (T - u)) := by
    have : (T - Z) * (S + (s + s')) = S * (T - u) := by grind
    grind
  have e3 : (S + s) * (S + s') = S * (S + (s + s')) + s * s' := by grind
  have e4 : 0 < (T - Y) * (s * s') := Rat.mul_pos (by grind) (Rat.mul_pos hs hs')
  have e5 : (T - Y) * (S * (S + (s + s'))) < (T - Z) * (S * (S + (s + s'))) := by
    rw [e2, ← e1, e3]; grind
  have := mul_cancel_lt hA e5
  grind
end
section
variable {S s s' : Int} {u T : Rat}
theorem ltf_true {t u : Rat} : ltf true t u ↔ t < u := by unfold ltf; simp
theorem stp_comm (hS : 0 < S) (hs : 0 < s) (hs' : 0 < s') : stp true S (stp true S u s T) s' T = stp true S (stp true S u s' T) s T := by
  by_cases h : ltf true u T
  · have a := (mix_between hS hs h).2
    have b := (mix_between hS hs' h).2
    rw [stp_yes h, stp_yes h, stp_yes a, stp_yes b]
    exact mx_comm (cast_pos hS) (cast_pos hs) (cast_pos hs') (mix_eq u T hS hs) (mix_eq _ T hS hs') (mix_eq u T hS hs') (mix_eq _ T hS hs)
  · simp only [stp_no h]
theorem stp_two (hS : 0 < S) (hs : 0 < s) (hs' : 0 < s') (h : u < T) : stp true S u (s + s') T < stp true S (stp true S u s T) s' T := by
  have h' : ltf true u T := ltf_true.mpr h
  have a := (mix_between hS hs h').2
  rw [stp_yes h', stp_yes h', stp_yes a]
  have k := mix_eq u T hS (show 0 < s + s' by omega)
  rw [Rat.intCast_add] at k
  exact mx_two (cast_pos hS) (cast_pos hs) (cast_pos hs') h (mix_eq u T hS hs) (mix_eq _ T hS hs') k
theorem stp_twoE (hS : 0 < S) (hs : 0 < s) (hs' : 0 < s') : lef true (stp true S u (s + s') T) (stp true S (stp true S u s T) s' T) := by
  by_cases h : u < T
  · exact lef_of (ltf_true.mpr (stp_two hS hs hs' h))
  · have h' : ¬ ltf true u T := fun z => h (ltf_true.mp z)
    simp only [stp_no h']; exact lef.refl _ _
theorem Gt_comm {L : List Bl} (hS : 0 < S) (hs : 0 < s) : ∀ {m : List Nat} {u : Rat}, Szs L m → (∀ o ∈ m, tmp L o = T) → stp true S (Gt true L S m u) s T = Gt true L S m (stp true S u s T)
  | [], _, _, _ => rfl
  | o :: m, u, z, h => by
    have ho := h o (by simp)
    rw [Gt_cons, Gt_cons, Gt_comm hS hs (fun q hq => z q (by simp [hq])) (fun q hq => h q (by simp [hq])), ho, stp_comm hS (z o (by simp)) hs]
end
theorem Gt_congr {up : Bool} {P L : List Bl} {S : Int} : ∀ {l : List Nat} {t : Rat}, (∀ o ∈ l, siz P o = siz L o ∧ tmp P o = tmp L o) → Gt up P S l t = Gt up L S l t
  | [], _, _ => rfl
  | o :: l, t, h => by
    rw [Gt_cons, Gt_cons, (h o (by simp)).1, (h o (by simp)).2]
    exact Gt_congr fun q hq => h q (by simp [hq])
section
variable {L : List Bl} {r b : Nat} {s : Int}
theorem parted_get {x : Nat} (hr : r < L.length) (hx : x < L.length) : (parted L r s)[x]? = if x = r then some (s, tmp L r) else L[x]? := by
  unfold parted
  rw [List.getElem?_append_left (by rw [List.length_append, List.length_cons, List.length_take, List.length_drop]; omega)]
  by_cases h : x < r
  · rw [if_neg (by omega), List.getElem?_append_left (by rw [List.length_take]; omega), List.getElem?_take, if_pos h]
  · rw [List.getElem?_append_right (by rw [List.length_take]; omega), List.length_take, Nat.min_eq_left (by omega)]
    by_cases e : x = r
    · subst e; simp
    · rw [if_neg e]
      obtain ⟨k, rfl⟩ : ∃ k, x = r + (k + 1) := ⟨x - r - 1, by omega⟩
      rw [show r + (k + 1) - r = k + 1 by omega, List.getElem?_cons_succ, List.getElem?_drop]
      congr 1; omega
theorem parted_last (hr : r < L.length) : (parted L r s)[L.length]? = some (siz L r - s, tmp L r) := by
  unfold parted
  have e : (List.take r L ++ (s, tmp L r) :: List.drop (r + 1) L).length = L.length := by rw [List.length_append, List.length_cons, List.length_take, List.length_drop]; omega
  rw [List.getElem?_append_right (by omega), e]
  simp
theorem parted_tmp {x : Nat} (hr : r < L.length) (hx : x < L.length) : tmp (parted L r s) x = tmp L x := by
  have h := parted_get (s := s) hr hx
  by_cases e : x = r
  · subst e
    rw [if_pos rfl] at h
    show ((parted L x s).getD x (1, 0)).2 = _
    rw [List.getD_eq_getElem?_getD, h]; rfl
  · rw [if_neg e] at h; exact (getD_congr h).2
theorem parted_siz {x : Nat} (hr : r < L.length) (hx : x < L.length) (e : x ≠ r) : siz (parted L r s) x = siz L x := by
  have h := parted_get (s := s) hr hx
  rw [if_neg e] at h; exact (getD_congr h).1
theorem parted_r (hr : r < L.length) : siz (parted L r s) r = s := by
  have h := parted_get (s := s) hr hr
  rw [if_pos rfl] at h
  unfold siz
  rw [List.getD_eq_getElem?_getD, h]; rfl
theorem parted_end (hr : r < L.length) : siz (parted L r s) L.length = siz L r - s ∧ tmp (parted L r s) L.length = tmp L r := by
  have h := parted_last (s := s) hr
  constructor
  · show ((parted L r s).getD L.length (1, 0)).1 = _
    rw [List.getD_eq_getElem?_getD, h]; rfl
  · show ((parted L r s).getD L.length (1, 0)).2 = _
    rw [List.getD_eq_getElem?_getD, h]; rfl
theorem parted_bfr {up : Bool} {i j : Nat} (hr : r < L.length) (hi : i < L.length) (hj : j < L.length) : bfr up (parted L r s) i j = bfr up L i j := by
  unfold bfr; rw [parted_tmp hr hi, parted_tmp hr hj]
theorem parted_ordTo {up : Bool} (hr : r < L.length) : ∀ m : Nat, m ≤ L.length → ordTo up (parted L r s) b m = ordTo up L b m
  | 0, _ => rfl
  | m + 1, h => by
    rw [ordTo_succ, ordTo_succ, parted_ordTo hr m (by omega)]
    unfold ordStep
    have e : ((ordTo up L b m).filter fun o => bfr up (parted L r s) o m) = (ordTo up L b m).filter fun o => bfr up L o m := by
      refine List.filter_congr fun x hx => ?_
      have := (ordTo_mem hx).1
      exact parted_bfr hr (by omega) (by omega)
    rw [e]
end
theorem split_more {n : Nat} {L : List Bl} {r b : Nat} {s : Int} (O : OkSt n L) (hr : r < L.length) (hb : b < L.length) (hne : b ≠ r) (h0 : 1 ≤ s) (h1 : s < siz L r) : ¬ (ext true (parted L r s) b).1 < (ext true L b).1 ∧ (tmp L b < tmp L r → (ext true (parted L r s) b).1 ≠ (ext true L b).1) := by
  have hS : 0 < siz L b := by have := O.sz hb; unfold Sz at this; omega
  have hz := szs_ord (up := true) (b := b) O
  have hmem : r ∈ ordO true L b := mem_ordTo hr (Ne.symm hne)
  have pw := ordTo_pw (up := true) (L := L) (b := b) L.length
  obtain ⟨l1, l2, hl⟩ := List.append_of_mem hmem
  have hl' : ordTo true L b L.length = l1 ++ r :: l2 := hl
  have hlt : ∀ x ∈ l1 ++ r :: l2, x < L.length := fun x hx => by rw [← hl] at hx; exact (ordTo_mem hx).1
  rw [hl'] at pw
  have pw0 := pw
  rw [List.pairwise_append, List.pairwise_cons] at pw
  obtain ⟨p1, ⟨p2, p3⟩, p4⟩ := pw
  have q1 : ∀ x ∈ l1, bfr true L x r = true := fun x hx => p4 x hx r (by simp)
  have nr1 : ∀ x ∈ l1, x ≠ r := fun x hx e => by subst e; exact bfr_asym (q1 x hx) (q1 x hx)
  have nr2 : ∀ x ∈ l2, x ≠ r := fun x hx e => by subst e; exact bfr_asym (p2 x hx) (p2 x hx)
  -- what stands before the last block of the parted state
  have pe := parted_end (s := s) hr
  have hp : ∀ x, x < L.length → (bfr true (parted L r s) x L.length = true ↔ tmp L x ≤ tmp L r) := fun x hx => by
    rw [bfr_iff, parted_tmp hr hx, pe.2, ltf_true]
    constructor
    · rintro (⟨e, _⟩ | ⟨_, h⟩)
      · rw [e]; exact Rat.le_refl
      · exact Rat.le_of_lt h
    · intro h
      by_cases e : tmp L x = tmp L r
      · exact .inl ⟨e, hx⟩
      · exact .inr ⟨e, by grind⟩
  have le1 : ∀ x ∈ l1, tmp L x ≤ tmp L r := fun x hx => by
    have := bfr_lef (q1 x hx); unfold lef at this; rwa [if_pos rfl] at this
  have ge2 : ∀ x ∈ l2, tmp L r ≤ tmp L x := fun x hx => by
    have := bfr_lef (p2 x hx); unfold lef at this; rwa [if_pos rfl] at this
  have mono : ∀ x y, (bfr true L x y = true ∧ x < L.length ∧ y < L.length) → bfr true (parted L r s) y L.length = true → bfr true (parted L r s) x L.length = true := fun x y h g => by
    have hy : tmp L x ≤ tmp L y := by have := bfr_lef h.1; unfold lef at this; rwa [if_pos rfl] at this
    exact (hp x h.2.1).mpr (Rat.le_trans hy ((hp y h.2.2).mp g))
  have pwX : (l1 ++ r :: l2).Pairwise fun i j => bfr true L i j = true ∧ i < L.length ∧ j < L.length := pw0.imp_of_mem fun {i j} hi hj h => ⟨h, hlt i hi, hlt j hj⟩
  have pw2 : l2.Pairwise fun i j => bfr true L i j = true ∧ i < L.length ∧ j < L.length := p3.imp_of_mem fun {i j} hi hj h => ⟨h, hlt i (by simp [hi]), hlt j (by simp [hj])⟩
  have ft := filter_take mono pwX
  have ft2 := filter_take mono pw2
  have f1 : l1.filter (fun o => bfr true (parted L r s) o L.length) = l1 := List.filter_eq_self.mpr fun x hx => (hp x (hlt x (by simp [hx]))).mpr (le1 x hx)
  have f2 : l1.filter (fun o => !bfr true (parted L r s) o L.length) = [] := List.filter_eq_nil_iff.mpr fun x hx => by
    have : bfr true (parted L r s) x L.length = true := (hp x (hlt x (by simp [hx]))).mpr (le1 x hx)
    simp [this]
  have f3 : bfr true (parted L r s) r L.length = true := (hp r hr).mpr Rat.le_refl
  have e2 : l2 = l2.filter (fun o => bfr true (parted L r s) o L.length) ++ l2.filter (fun o => !bfr true (parted L r s) o L.length) := by
    have h := List.take_append_drop (l2.filter fun o => bfr true (parted L r s) o L.length).length l2
    have h1 := ft2.1
    have h2 := ft2.2
    rw [h1, h2] at h; exact h.symm
  have ord : ordO true (parted L r s) b = (l1 ++ r :: l2.filter fun o => bfr true (parted L r s) o L.length) ++ L.length :: l2.filter fun o => !bfr true (parted L r s) o L.length := by
    unfold ordO
    rw [parted_len hr, ordTo_succ, parted_ordTo hr _ (Nat.le_refl _), hl']
    unfold ordStep
    rw [if_neg (by omega)]
    have h1 := ft.1
    have h2 := ft.2
    rw [h1, h2, List.filter_append, List.filter_append, List.filter_cons, List.filter_cons, f1, f2, if_pos f3, if_neg (by simp [f3])]
    rfl
  generalize hm : l2.filter (fun o => bfr true (parted L r s) o L.length) = m at e2 ord
  generalize hrest : l2.filter (fun o => !bfr true (parted L r s) o L.length) = rest at e2 ord
  have mT : ∀ o ∈ m, tmp L o = tmp L r := fun o ho => by
    rw [← hm] at ho
    have h := List.mem_filter.mp ho
    have := (hp o (hlt o (by simp [h.1]))).mp h.2
    have := ge2 o h.1
    grind
  have m2 : ∀ o ∈ m, o ∈ l2 := fun o ho => by rw [e2]; simp [ho]
  have r2 : ∀ o ∈ rest, o ∈ l2 := fun o ho => by rw [e2]; simp [ho]
  have z1 : Szs L l1 := fun o ho => hz o (by rw [hl]; simp [ho])
  have zm : Szs L m := fun o ho => hz o (by rw [hl]; simp [m2 o ho])
  have zr : Szs L rest := fun o ho => hz o (by rw [hl]; simp [r2 o ho])
  have c1 : ∀ o ∈ l1, siz (parted L r s) o = siz L o ∧ tmp (parted L r s) o = tmp L o := fun o ho => ⟨parted_siz hr (hlt o (by simp [ho])) (nr1 o ho), parted_tmp hr (hlt o (by simp [ho]))⟩
  have cm : ∀ o ∈ m, siz (parted L r s) o = siz L o ∧ tmp (parted L r s) o = tmp L o := fun o ho => ⟨parted_siz hr (hlt o (by simp [m2 o ho])) (nr2 o (m2 o ho)), parted_tmp hr (hlt o (by simp [m2 o ho]))⟩
  have cr : ∀ o ∈ rest, siz (parted L r s) o = siz L o ∧ tmp (parted L r s) o = tmp L o := fun o ho => ⟨parted_siz hr (hlt o (by simp [r2 o ho])) (nr2 o (r2 o ho)), parted_tmp hr (hlt o (by simp [r2 o ho]))⟩
  have hs' : 0 < siz L r - s := by omega
  have hs0 : 0 < s := by omega
  have E1 : (ext true (parted L r s) b).1 = Gt true L (siz L b) rest (Gt true L (siz L b) m (stp true (siz L b) (stp true (siz L b) (Gt true L (siz L b) l1 (tmp L b)) s (tmp L r)) (siz L r - s) (tmp L r))) := by
    rw [ext_Gt, parted_siz hr hb hne, parted_tmp hr hb, ord, Gt_app, Gt_app, Gt_cons, Gt_cons, parted_r hr, parted_tmp hr hr, pe.1, pe.2, Gt_congr c1, Gt_congr cm, Gt_congr cr, Gt_comm hS hs' zm mT]
  have E2 : (ext true L b).1 = Gt true L (siz L b) rest (Gt true L (siz L b) m (stp true (siz L b) (Gt true L (siz L b) l1 (tmp L b)) (s + (siz L r - s)) (tmp L r))) := by
    rw [ext_Gt, hl, Gt_app, Gt_cons, e2, Gt_app, show s + (siz L r - s) = siz L r by omega]
  rw [E1, E2]
  constructor
  · have h := Gt_monoE hS zr (Gt_monoE hS zm (stp_twoE (S := siz L b) (u := Gt true L (siz L b) l1 (tmp L b)) (T := tmp L r) hS hs0 hs'))
    unfold lef at h; rw [if_pos rfl] at h
    exact Rat.not_lt.mpr h
  · intro hlt'
    have h1 : Gt true L (siz L b) l1 (tmp L b) < tmp L r := ltf_true.mp (Gt_lt hS z1 (fun o ho => by unfold lef; rw [if_pos rfl]; exact le1 o ho) (ltf_true.mpr hlt'))
    have h := ltf_true.mp (Gt_mono hS zr (Gt_mono hS zm (ltf_true.mpr (stp_two (S := siz L b) hS hs0 hs' h1))))
    exact Rat.ne_of_gt h
end AL
/-! The order of touches; touches never raise the warmest value; warm and cold exchanged. -/
namespace AL
open PySem PySem.Spec L2

/-! ### rows of pairs -/
def Fp (up : Bool) (S : Int) (ps : List Bl) (t : Rat) : Rat := ps.foldl (fun t p => stp up S t p.1 p.2) t
theorem Fp_app (up : Bool) (S : Int) (p q : List Bl) (t : Rat) : Fp up S (p ++ q) t = Fp up S q (Fp up S p t) := by unfold Fp; rw [List.foldl_append]
theorem Fp_cons (up : Bool) (S : Int) (p : Bl) (q : List Bl) (t : Rat) : Fp up S (p :: q) t = Fp up S q (stp up S t p.1 p.2) := rfl
def prs (L : List Bl) (l : List Nat) : List Bl := l.map fun o => (siz L o, tmp L o)
theorem Gt_Fp (up : Bool) (L : List Bl) (S : Int) : ∀ (l : List Nat) (t : Rat), Gt up L S l t = Fp up S (prs L l) t
  | [], _ => rfl
  | o :: l, t => by rw [Gt_cons, Gt_Fp up L S l]; rfl
def Pos (ps : List Bl) : Prop := ∀ p ∈ ps, 0 < p.1
theorem Fp_mono {up : Bool} {S : Int} (hS : 0 < S) : ∀ {l : List Bl} {t u : Rat}, Pos l → ltf up t u → ltf up (Fp up S l t) (Fp up S l u)
  | [], _, _, _, h => h
  | o :: l, t, u, z, h => Fp_mono (l := l) (t := stp up S t o.1 o.2) (u := stp up S u o.1 o.2) hS (fun q hq => z q (by simp [hq])) (stp_mono hS (z o (by simp)) h)
theorem Fp_monoE {up : Bool} {S : Int} (hS : 0 < S) {l : List Bl} {t u : Rat} (z : Pos l) (h : lef up t u) : lef up (Fp up S l t) (Fp up S l u) := by
  rcases lef_cases h with rfl | h
  · exact lef.refl _ _
  · exact lef_of (Fp_mono hS z h)
theorem Fp_ge {up : Bool} {S : Int} (hS : 0 < S) : ∀ {l : List Bl} {t : Rat}, Pos l → lef up t (Fp up S l t)
  | [], _, _ => lef.refl _ _
  | o :: l, t, z => (stp_ge hS (z o (by simp))).trans (Fp_ge hS (fun q hq => z q (by simp [hq])))

/-! ### warm and cold exchanged -/
def ngL (L : List Bl) : List Bl := L.map fun p => (p.1, -p.2)
theorem ltf_neg {t u : Rat} : ltf false t u ↔ ltf true (-t) (-u) := by unfold ltf; simp
theorem lef_neg {t u : Rat} : lef false t u ↔ lef true (-t) (-u) := by unfold lef; simp
theorem mix_neg (S : Int) (t : Rat) (s : Int) (T : Rat) : mix S (-t) s (-T) = - mix S t s T := by
  unfold mix
  rw [Rat.div_def, Rat.div_def, ← Rat.neg_mul]
  congr 1
  grind
theorem stp_neg (S : Int) (t : Rat) (s : Int) (T : Rat) : stp true S (-t) s (-T) = - stp false S t s T := by
  by_cases h : ltf false t T
  · rw [stp_yes h, stp_yes (ltf_neg.mp h), mix_neg]
  · rw [stp_no h, stp_no (fun z => h (ltf_neg.mpr z))]
theorem Fp_neg (S : Int) : ∀ (l : List Bl) (t : Rat), Fp true S (ngL l) (-t) = - Fp false S l t
  | [], _ => rfl
  | o :: l, t => by
    show Fp true S (ngL l) (stp true S (-t) o.1 (-o.2)) = _
    rw [stp_neg, Fp_neg S l]; rfl
theorem ngL_get (L : List Bl) (i : Nat) (h : i < L.length) : siz (ngL L) i = siz L i ∧ tmp (ngL L) i = - tmp L i := by
  have h' : i < (ngL L).length := by unfold ngL; rw [List.length_map]; exact h
  unfold siz tmp
  rw [getD_eq h, getD_eq h']
  simp [ngL]
theorem ngL_bfr (L : List Bl) {i j : Nat} (hi : i < L.length) (hj : j < L.length) : bfr true (ngL L) i j = bfr false L i j := by
  have a := (ngL_get L i hi).2
  have b := (ngL_get L j hj).2
  unfold bfr ahead
  rw [a, b]
  by_cases e : tmp L i = tmp L j
  · rw [if_pos e, if_pos (by rw [e])]
  · rw [if_neg e, if_neg (by grind)]
    simp
theorem ngL_ordTo (L : List Bl) (b : Nat) : ∀ m : Nat, m ≤ L.length → ordTo true (ngL L) b m = ordTo false L b m
  | 0, _ => rfl
  | m + 1, h => by
    rw [ordTo_succ, ordTo_succ, ngL_ordTo L b m (by omega)]
    unfold ordStep
    have e : ((ordTo false L b m).filter fun o => bfr true (ngL L) o m) = (ordTo false L b m).filter fun o => bfr false L o m := by
      refine List.filter_congr fun x hx => ?_
      have := (ordTo_mem hx).1
      exact ngL_bfr L (by omega) (by omega)
    rw [e]
theorem ext_neg (L : List Bl) (b : Nat) (hb : b < L.length) : (ext false L b).1 = - (ext true (ngL L) b).1 ∧ (ext false L b).2 = (ext true (ngL L) b).2 := by
  unfold ext
  have hl : (ngL L).length = L.length := by unfold ngL; rw [List.length_map]
  have e : ordO true (ngL L) b = ordO false L b := by unfold ordO; rw [hl]; exact ngL_ordTo L b _ (Nat.le_refl _)
  rw [e]
  have hm : ∀ o ∈ ordO false L b, o < L.length := fun o h => (ordTo_mem h).1
  unfold exOf
  rw [(ngL_get L b hb).2]
  generalize ordO false L b = l at hm
  have key : ∀ (l : List Nat) (x y : Rat × List Nat), (∀ o ∈ l, o < L.length) → x.1 = - y.1 → x.2 = y.2 → (l.foldl (exStep false L b) x).1 = - (l.foldl (exStep true (ngL L) b) y).1 ∧ (l.foldl (exStep false L b) x).2 = (l.foldl (exStep true (ngL L) b) y).2 := by
    intro l
    induction l with
    | nil => intro x y _ h1 h2; exact ⟨h1, h2⟩
    | cons o l ih =>
      intro x y hl h1 h2
      rw [List.foldl_cons, List.foldl_cons]
      have ho := ngL_get L o (hl o (by simp))
      have hbb := ngL_get L b hb
      refine ih _ _ (fun q hq => hl q (by simp [hq])) ?_ ?_
      · unfold exStep
        rw [ho.1, ho.2, hbb.1]
        have e1 : ahead false x.1 (tmp L o) = ahead true y.1 (- tmp L o) := by unfold ahead; simp; rw [h1]; grind
        rw [e1]
        split
        · show mix _ _ _ _ = - mix _ _ _ _
          rw [← mix_neg, h1]; congr 1; grind
        · exact h1
      · unfold exStep
        rw [ho.2]
        have e1 : ahead false x.1 (tmp L o) = ahead true y.1 (- tmp L o) := by unfold ahead; simp; rw [h1]; grind
        rw [e1]
        split
        · show x.2 ++ [o] = y.2 ++ [o]; rw [h2]
        · exact h2
  exact key l _ _ hm (by simp) rfl

/-! ### the best order is the ascending one -/
section
variable {S a c t A C x y z : Rat}
theorem mx_ex (hS : 0 < S) (ha : 0 < a) (hc : 0 < c) (h : C ≤ A) (h1 : x * (S + a) = S * t + a * A) (h2 : y * (S + c) = S * x + c * C) (k1 : z * (S + c) = S * t + c * C) {w : Rat} (k2 : w * (S + a) = S * z + a * A) : y ≤ w := by
  have hK : 0 < (S + a) * (S + c) := Rat.mul_pos (by grind) (by grind)
  have e1 : y * ((S + a) * (S + c)) = S * (S * t + a * A) + c * C * (S + a) := by
    have : y * ((S + a) * (S + c)) = S * (x * (S + a)) + c * C * (S + a) := by grind
    rw [this, h1]
  have e2 : w * ((S + a) * (S + c)) = S * (S * t + c * C) + a * A * (S + c) := by
    have : w * ((S + a) * (S + c)) = S * (z * (S + c)) + a * A * (S + c) := by grind
    rw [this, k1]
  have e3 : 0 ≤ a * c * (A - C) := Rat.mul_nonneg (Rat.le_of_lt (Rat.mul_pos ha hc)) (by grind)
  apply Classical.byContradiction
  intro hn
  have := Rat.mul_pos (a := y - w) (b := (S + a) * (S + c)) (by grind) hK
  grind
end
theorem lef_true {t u : Rat} : lef true t u ↔ t ≤ u := by unfold lef; simp
theorem stp_ex {S a c : Int} {t A C : Rat} (hS : 0 < S) (ha : 0 < a) (hc : 0 < c) (h : C ≤ A) : stp true S (stp true S t a A) c C ≤ stp true S (stp true S t c C) a A := by
  by_cases h1 : t < A
  · have b1 := mix_between hS ha (ltf_true.mpr h1)
    rw [stp_yes (ltf_true.mpr h1)]
    by_cases h2 : t < C
    · have b2 := mix_between hS hc (ltf_true.mpr h2)
      have b3 : mix S t c C < A := by have := ltf_true.mp b2.2; grind
      rw [stp_yes (ltf_true.mpr h2), stp_yes (ltf_true.mpr b3)]
      by_cases h3 : mix S t a A < C
      · rw [stp_yes (ltf_true.mpr h3)]
        exact mx_ex (cast_pos hS) (cast_pos ha) (cast_pos hc) h (mix_eq t A hS ha) (mix_eq _ C hS hc) (mix_eq t C hS hc) (mix_eq _ A hS ha)
      · rw [stp_no (fun q => h3 (ltf_true.mp q))]
        exact Rat.le_of_lt (mx_mono (cast_pos hS) (cast_pos ha) (mix_eq t A hS ha) (mix_eq _ A hS ha) (ltf_true.mp b2.1))
    · have h3 : ¬ mix S t a A < C := by have := ltf_true.mp b1.1; grind
      rw [stp_no (fun q => h3 (ltf_true.mp q)), stp_no (fun q => h2 (ltf_true.mp q)), stp_yes (ltf_true.mpr h1)]
      exact Rat.le_refl
  · have h2 : ¬ t < C := by grind
    rw [stp_no (fun q => h1 (ltf_true.mp q)), stp_no (fun q => h2 (ltf_true.mp q)), stp_no (fun q => h1 (ltf_true.mp q))]
    exact Rat.le_refl
/-- a coldest one comes first -/
theorem Fp_front {S : Int} (hS : 0 < S) {x : Bl} (hx : 0 < x.1) : ∀ {p : List Bl} {q : List Bl} {t : Rat}, Pos p → Pos q → (∀ y ∈ p, x.2 ≤ y.2) → Fp true S (p ++ x :: q) t ≤ Fp true S (x :: (p ++ q)) t
  | [], _, _, _, _, _ => Rat.le_refl
  | y :: p, q, t, zp, zq, h => by
    have zp' : Pos p := fun o ho => zp o (by simp [ho])
    have ih := Fp_front (q := q) (t := stp true S t y.1 y.2) hS hx zp' zq fun o ho => h o (by simp [ho])
    rw [List.cons_append, Fp_cons]
    refine Rat.le_trans ih ?_
    rw [Fp_cons, Fp_cons, List.cons_append, Fp_cons]
    have z : Pos (p ++ q) := fun o ho => by
      rcases List.mem_append.mp ho with h | h
      · exact zp' o h
      · exact zq o h
    exact lef_true.mp (Fp_monoE hS z (lef_true.mpr (stp_ex hS (zp y (by simp)) hx (h y (by simp)))))
/-- ascending temperatures -/
def Asc (l : List Bl) : Prop := l.Pairwise fun p q => p.2 ≤ q.2
theorem Fp_best {S : Int} (hS : 0 < S) : ∀ {l p : List Bl} {t : Rat}, Asc l → Pos l → p.Perm l → Fp true S p t ≤ Fp true S l t
  | [], p, t, _, _, h => by rw [h.eq_nil]; exact Rat.le_refl
  | x :: l, p, t, hl, z, h => by
    have hl' : Asc l := (List.pairwise_cons.mp hl).2
    have hx : ∀ y ∈ l, x.2 ≤ y.2 := (List.pairwise_cons.mp hl).1
    obtain ⟨p1, p2, rfl⟩ := List.append_of_mem (h.symm.subset (List.mem_cons_self ..))
    have h2 : (p1 ++ p2).Perm l := (List.perm_cons x).mp (List.perm_middle.symm.trans h)
    have zp : Pos (p1 ++ x :: p2) := fun o ho => z o (h.subset ho)
    have z1 : Pos p1 := fun o ho => zp o (by simp [ho])
    have z2 : Pos p2 := fun o ho => zp o (by simp [ho])
    refine Rat.le_trans (Fp_front hS (z x (by simp)) z1 z2 fun y hy => ?_) ?_
    · rcases List.mem_cons.mp (h.subset (show y ∈ p1 ++ x :: p2 by simp [hy])) with rfl | q
      · exact Rat.le_refl
      · exact hx y q
    · rw [Fp_cons, Fp_cons]
      exact Fp_best hS hl' (fun o ho => z o (by simp [ho])) h2
/-- fewer touches do no better -/
theorem Fp_fewer {S : Int} (hS : 0 < S) {l p q : List Bl} {t : Rat} (hl : Asc l) (z : Pos l) (h : (p ++ q).Perm l) : Fp true S p t ≤ Fp true S l t := by
  refine Rat.le_trans ?_ (Fp_best hS hl z h)
  rw [Fp_app]
  exact lef_true.mp (Fp_ge hS fun o ho => z o (h.subset (by simp [ho])))
theorem Fp_same {S : Int} (hS : 0 < S) {l p : List Bl} {t : Rat} (hl : Asc l) (hp : Asc p) (z : Pos l) (h : p.Perm l) : Fp true S p t = Fp true S l t := by
  have a := Fp_best (t := t) hS hl z h
  have b := Fp_best (t := t) hS hp (fun o ho => z o (h.subset ho)) h.symm
  exact Rat.le_antisymm a b

/-! ### a touch of two others -/
section
variable {S a c t A C m x y z w : Rat}
theorem mx_pair (hS : 0 < S) (ha : 0 < a) (hc : 0 < c) (h : C ≤ A) (hm : m * (c + a) = c * C + a * A) (h1 : x * (S + c) = S * t + c * m) (h2 : y * (S + a) = S * x + a * m) (k1 : z * (S + c) = S * t + c * C) (k2 : w * (S + a) = S * z + a * A) : y ≤ w := by
  have hK : 0 < (S + c) * (S + a) := Rat.mul_pos (by grind) (by grind)
  have hmA : m ≤ A := by
    have e : 0 ≤ c * (A - C) := Rat.mul_nonneg (Rat.le_of_lt hc) (by grind)
    apply Classical.byContradiction
    intro hn
    have := Rat.mul_pos (a := m - A) (b := c + a) (by grind) (by grind)
    grind
  have e1 : y * ((S + c) * (S + a)) = S * (S * t + c * m) + a * m * (S + c) := by
    have : y * ((S + c) * (S + a)) = S * (x * (S + c)) + a * m * (S + c) := by grind
    rw [this, h1]
  have e2 : w * ((S + c) * (S + a)) = S * (S * t + c * C) + a * A * (S + c) := by
    have : w * ((S + c) * (S + a)) = S * (z * (S + c)) + a * A * (S + c) := by grind
    rw [this, k1]
  have e3 : 0 ≤ a * c * (A - m) := Rat.mul_nonneg (Rat.le_of_lt (Rat.mul_pos ha hc)) (by grind)
  have e4 : S * (m * (c + a)) = S * (c * C + a * A) := by rw [hm]
  apply Classical.byContradiction
  intro hn
  have := Rat.mul_pos (a := y - w) (b := (S + c) * (S + a)) (by grind) hK
  grind
end
theorem mix_le_stp {S s : Int} {t T : Rat} (hS : 0 < S) (hs : 0 < s) : mix S t s T ≤ stp true S t s T := by
  by_cases h : t < T
  · rw [stp_yes (ltf_true.mpr h)]; exact Rat.le_refl
  · rw [stp_no (fun q => h (ltf_true.mp q))]
    rcases (show T < t ∨ T = t by grind) with h1 | h1
    · exact Rat.le_of_lt (mx_gt' (cast_pos hS) (cast_pos hs) (mix_eq t T hS hs) h1)
    · have e := mix_eq t T hS hs
      rw [h1] at e
      have hK : (0 : Rat) < (S : Rat) + (s : Rat) := by have := cast_pos hS; have := cast_pos hs; grind
      have : mix S t s t = t := mul_cancel_eq hK (by rw [e]; grind)
      rw [h1, this]; exact Rat.le_refl
theorem mix_mono {S s : Int} {t u T : Rat} (hS : 0 < S) (hs : 0 < s) (h : t ≤ u) : mix S t s T ≤ mix S u s T := by
  rcases (show t < u ∨ t = u by grind) with h1 | h1
  · exact Rat.le_of_lt (mx_mono (cast_pos hS) (cast_pos hs) (mix_eq t T hS hs) (mix_eq u T hS hs) h1)
  · rw [h1]; exact Rat.le_refl
theorem stp_pair {S c a : Int} {t C A : Rat} (hS : 0 < S) (hc : 0 < c) (ha : 0 < a) (h : C ≤ A) : stp true S (stp true S t c (mix c C a A)) a (mix c C a A) ≤ stp true S (stp true S t c C) a A := by
  have hm : mix c C a A * ((c : Rat) + (a : Rat)) = (c : Rat) * C + (a : Rat) * A := mix_eq C A hc ha
  by_cases h1 : t < mix c C a A
  · have b1 := mix_between hS hc (ltf_true.mpr h1)
    rw [stp_yes (ltf_true.mpr h1), stp_yes b1.2]
    have p := mx_pair (cast_pos hS) (cast_pos ha) (cast_pos hc) h hm (mix_eq t _ hS hc) (mix_eq _ _ hS ha) (mix_eq t C hS hc) (mix_eq _ A hS ha)
    refine Rat.le_trans p ?_
    exact Rat.le_trans (mix_mono hS ha (mix_le_stp hS hc)) (mix_le_stp hS ha)
  · have n := fun q => h1 (ltf_true.mp q)
    rw [stp_no n, stp_no n]
    exact Rat.le_trans (lef_true.mp (stp_ge hS hc)) (lef_true.mp (stp_ge hS ha))
end AL
/-! A touch never raises the warmest value, never lowers the coldest. -/
namespace AL
open PySem PySem.Spec L2
theorem asc_ord (L : List Bl) (b : Nat) : Asc (prs L (ordO true L b)) := by
  unfold Asc prs
  rw [List.pairwise_map]
  exact (ordTo_pw (up := true) (L := L) (b := b) _).imp fun h => lef_true.mp (bfr_lef h)
theorem ext_Fp (up : Bool) (L : List Bl) (b : Nat) : (ext up L b).1 = Fp up (siz L b) (prs L (ordO up L b)) (tmp L b) := by rw [ext_Gt, Gt_Fp]
theorem pos_ord {up : Bool} {n : Nat} {L : List Bl} (O : OkSt n L) (b : Nat) : Pos (prs L (ordO up L b)) := fun p hp => by
  obtain ⟨o, ho, rfl⟩ := List.mem_map.mp hp
  have := O.sz (ordTo_mem ho).1
  unfold Sz at this
  show 0 < siz L o
  omega
theorem siz_pos {n : Nat} {L : List Bl} (O : OkSt n L) {b : Nat} (hb : b < L.length) : 0 < siz L b := by have := O.sz hb; unfold Sz at this; omega
theorem ext_best {n : Nat} {L : List Bl} {b : Nat} (O : OkSt n L) (hb : b < L.length) {p q : List Bl} (h : (p ++ q).Perm (prs L (ordO true L b))) : Fp true (siz L b) p (tmp L b) ≤ (ext true L b).1 := by
  rw [ext_Fp]; exact Fp_fewer (siz_pos O hb) (asc_ord L b) (pos_ord O b) h
theorem ext_eq {n : Nat} {L : List Bl} {b : Nat} (O : OkSt n L) (hb : b < L.length) {l : List Bl} (hl : Asc l) (h : l.Perm (prs L (ordO true L b))) : (ext true L b).1 = Fp true (siz L b) l (tmp L b) := by
  rw [ext_Fp]; exact (Fp_same (siz_pos O hb) (asc_ord L b) hl (pos_ord O b) h).symm
theorem ord_nodup (up : Bool) (L : List Bl) (b : Nat) : (ordO up L b).Nodup := (ordTo_pw (up := up) (L := L) (b := b) _).imp fun {i j} h e => by subst e; exact bfr_asym h h
theorem mem_ord {up : Bool} {L : List Bl} {b x : Nat} : x ∈ ordO up L b ↔ x < L.length ∧ x ≠ b := ⟨fun h => ordTo_mem h, fun h => mem_ordTo h.1 h.2⟩
theorem ord_perm {up up' : Bool} {L M : List Bl} {b : Nat} (h : L.length = M.length) : (ordO up L b).Perm (ordO up' M b) := by
  rw [List.perm_ext_iff_of_nodup (ord_nodup up L b) (ord_nodup up' M b)]
  intro x; rw [mem_ord, mem_ord, h]
/-- the others of b but i, j -/
def rest2 (l : List Nat) (i j : Nat) : List Nat := l.filter fun o => decide (o ≠ i ∧ o ≠ j)
theorem ord_split {up : Bool} {L : List Bl} {b i j : Nat} (hi : i < L.length) (hj : j < L.length) (hij : i ≠ j) (hib : i ≠ b) (hjb : j ≠ b) : (ordO up L b).Perm (i :: j :: rest2 (ordO up L b) i j) := by
  rw [List.perm_ext_iff_of_nodup (ord_nodup up L b)]
  · intro x
    simp only [List.mem_cons, rest2, List.mem_filter, mem_ord, decide_eq_true_eq]
    constructor
    · rintro ⟨h1, h2⟩
      by_cases a : x = i
      · exact .inl a
      · by_cases c : x = j
        · exact .inr (.inl c)
        · exact .inr (.inr ⟨⟨h1, h2⟩, a, c⟩)
    · rintro (rfl | rfl | ⟨h, _⟩)
      · exact ⟨hi, hib⟩
      · exact ⟨hj, hjb⟩
      · exact h
  · rw [List.nodup_cons, List.nodup_cons]
    refine ⟨?_, ?_, (ord_nodup up L b).filter _⟩
    · simp [rest2, hij]
    · simp [rest2]
/-- M is L after i and j touched: both have the temperature m -/
structure Tch (L M : List Bl) (i j : Nat) (m : Rat) : Prop where
  len : M.length = L.length
  sz : ∀ x, x < L.length → siz M x = siz L x
  ti : tmp M i = m
  tj : tmp M j = m
  tx : ∀ x, x < L.length → x ≠ i → x ≠ j → tmp M x = tmp L x
theorem Tch.symm {L M : List Bl} {i j : Nat} {m : Rat} (h : Tch L M i j m) : Tch L M j i m := ⟨h.len, h.sz, h.tj, h.ti, fun x a b c => h.tx x a c b⟩
theorem mix_comm (s : Int) (t : Rat) (p : Int) (u : Rat) : mix s t p u = mix p u s t := by
  unfold mix; rw [Int.add_comm, Rat.add_comm]
/-- two others touch -/
theorem tch_others {n n' : Nat} {L M : List Bl} {b i j : Nat} (O : OkSt n L) (O' : OkSt n' M) (hb : b < L.length) (hi : i < L.length) (hj : j < L.length) (hij : i ≠ j) (hib : i ≠ b) (hjb : j ≠ b) (h : Tch L M i j (mix (siz L i) (tmp L i) (siz L j) (tmp L j))) : (ext true M b).1 ≤ (ext true L b).1 := by
  -- i is the colder one
  have main : ∀ i j : Nat, i < L.length → j < L.length → i ≠ j → i ≠ b → j ≠ b → tmp L i ≤ tmp L j → Tch L M i j (mix (siz L i) (tmp L i) (siz L j) (tmp L j)) → (ext true M b).1 ≤ (ext true L b).1 := by
    intro i j hi hj hij hib hjb hle h
    have hS := siz_pos O hb
    have pL := ord_split (up := true) (L := L) (b := b) hi hj hij hib hjb
    have pM : (ordO true M b).Perm (i :: j :: rest2 (ordO true L b) i j) := (ord_perm h.len).trans pL
    generalize hm : mix (siz L i) (tmp L i) (siz L j) (tmp L j) = m at h
    have hr : prs M (rest2 (ordO true L b) i j) = prs L (rest2 (ordO true L b) i j) := by
      unfold prs
      refine List.map_congr_left fun x hx => ?_
      have h1 := List.mem_filter.mp hx
      have h2 := mem_ord.mp h1.1
      have h3 : x ≠ i ∧ x ≠ j := by simpa using h1.2
      rw [h.sz x h2.1, h.tx x h2.1 h3.1 h3.2]
    have hasc : Asc (prs L (rest2 (ordO true L b) i j)) := by
      unfold Asc prs rest2
      rw [List.pairwise_map]
      exact ((ordTo_pw (up := true) (L := L) (b := b) _).filter _).imp fun h => lef_true.mp (bfr_lef h)
    generalize hR : prs L (rest2 (ordO true L b) i j) = R at hr hasc
    have qL : (prs L (ordO true L b)).Perm ((siz L i, tmp L i) :: (siz L j, tmp L j) :: R) := by rw [← hR]; exact pL.map _
    have qM : (prs M (ordO true M b)).Perm ((siz L i, m) :: (siz L j, m) :: R) := by
      have := pM.map fun o => (siz M o, tmp M o)
      refine this.trans (by
        show ((siz M i, tmp M i) :: (siz M j, tmp M j) :: prs M (rest2 (ordO true L b) i j)).Perm _
        rw [h.sz i hi, h.sz j hj, h.ti, h.tj, hr])
    -- the rest before m, behind m
    have fp : (R.filter (fun p => decide (p.2 ≤ m)) ++ R.filter (fun p => !decide (p.2 ≤ m))).Perm R := List.filter_append_perm ..
    generalize hA : R.filter (fun p => decide (p.2 ≤ m)) = A at fp
    generalize hB : R.filter (fun p => !decide (p.2 ≤ m)) = B at fp
    have aA : Asc A := by rw [← hA]; exact hasc.filter _
    have aB : Asc B := by rw [← hB]; exact hasc.filter _
    have lA : ∀ p ∈ A, p.2 ≤ m := fun p hp => by rw [← hA] at hp; simpa using (List.mem_filter.mp hp).2
    have gB : ∀ p ∈ B, m ≤ p.2 := fun p hp => by
      rw [← hB] at hp
      have := (List.mem_filter.mp hp).2
      simp at this
      exact Rat.le_of_lt (Rat.not_le.mp (by grind))
    have mid : ∀ x y : Bl, (A ++ x :: y :: B).Perm (x :: y :: R) := fun x y =>
      (List.perm_middle.trans ((List.perm_middle).cons x)).trans ((fp.cons y).cons x)
    have aM : Asc (A ++ (siz L i, m) :: (siz L j, m) :: B) := by
      unfold Asc
      rw [List.pairwise_append, List.pairwise_cons, List.pairwise_cons]
      refine ⟨aA, ⟨fun y hy => ?_, ⟨fun y hy => gB y hy, aB⟩⟩, fun x hx y hy => ?_⟩
      · rcases List.mem_cons.mp hy with rfl | hy
        · exact Rat.le_refl
        · exact gB y hy
      · rcases List.mem_cons.mp hy with rfl | hy
        · exact lA x hx
        · rcases List.mem_cons.mp hy with rfl | hy
          · exact lA x hx
          · exact Rat.le_trans (lA x hx) (gB y hy)
    have hbM : b < M.length := by rw [h.len]; exact hb
    rw [ext_eq O' hbM aM ((mid _ _).trans qM.symm), h.sz b hb, h.tx b hb (Ne.symm hib) (Ne.symm hjb)]
    have key := ext_best (q := []) O hb (p := A ++ (siz L i, tmp L i) :: (siz L j, tmp L j) :: B) (by rw [List.append_nil]; exact (mid _ _).trans qL.symm)
    refine Rat.le_trans ?_ key
    rw [Fp_app, Fp_app, Fp_cons, Fp_cons, Fp_cons, Fp_cons]
    have zB : Pos B := fun p hp => by
      have hp2 : p ∈ R := fp.subset (by simp [hp])
      exact pos_ord O b p (qL.symm.subset (by simp [hp2]))
    refine lef_true.mp (Fp_monoE hS zB (lef_true.mpr ?_))
    rw [← hm]
    exact stp_pair hS (siz_pos O hi) (siz_pos O hj) hle
  rcases (show tmp L i ≤ tmp L j ∨ tmp L j ≤ tmp L i from Rat.le_total) with hle | hle
  · exact main i j hi hj hij hib hjb hle h
  · refine main j i hj hi (Ne.symm hij) hjb hib hle ?_
    rw [mix_comm]; exact h.symm
/-- the block itself touches another one -/
theorem tch_own {n n' : Nat} {L M : List Bl} {b i : Nat} (O : OkSt n L) (O' : OkSt n' M) (hb : b < L.length) (hi : i < L.length) (hib : i ≠ b) (h : Tch L M b i (mix (siz L b) (tmp L b) (siz L i) (tmp L i))) : (ext true M b).1 ≤ (ext true L b).1 := by
  have hS := siz_pos O hb
  have split : (ordO true L b).Perm (i :: (ordO true L b).filter fun o => decide (o ≠ i)) := by
    rw [List.perm_ext_iff_of_nodup (ord_nodup true L b)]
    · intro x
      simp only [List.mem_cons, List.mem_filter, mem_ord, decide_eq_true_eq]
      constructor
      · rintro ⟨h1, h2⟩
        by_cases a : x = i
        · exact .inl a
        · exact .inr ⟨⟨h1, h2⟩, a⟩
      · rintro (rfl | ⟨h, _⟩)
        · exact ⟨hi, hib⟩
        · exact h
    · rw [List.nodup_cons]
      exact ⟨by simp, (ord_nodup true L b).filter _⟩
  have pM : (ordO true M b).Perm (i :: (ordO true L b).filter fun o => decide (o ≠ i)) := (ord_perm h.len).trans split
  generalize hm : mix (siz L b) (tmp L b) (siz L i) (tmp L i) = m at h
  have hbM : b < M.length := by rw [h.len]; exact hb
  -- the touched one is not warmer any more
  have hR : prs M ((ordO true L b).filter fun o => decide (o ≠ i)) = prs L ((ordO true L b).filter fun o => decide (o ≠ i)) := by
    unfold prs
    refine List.map_congr_left fun x hx => ?_
    have h1 := List.mem_filter.mp hx
    have h2 := mem_ord.mp h1.1
    have h3 : x ≠ i := by simpa using h1.2
    rw [h.sz x h2.1, h.tx x h2.1 h2.2 h3]
  have zM := pos_ord (up := true) O' b
  have e1 : (ext true M b).1 = Gt true M (siz M b) ((ordO true M b).filter fun o => decide (o ≠ i)) (tmp M b) := by
    rw [ext_Gt]
    have hSM : 0 < siz M b := by rw [h.sz b hb]; exact hS
    exact (Gt_filter_eq hSM i (szs_ord O') (by rw [h.tj, h.ti]; exact lef.refl _ _)).symm
  have pF : ((ordO true M b).filter fun o => decide (o ≠ i)).Perm ((ordO true L b).filter fun o => decide (o ≠ i)) := (ord_perm h.len).filter _
  have aF : Asc (prs L ((ordO true L b).filter fun o => decide (o ≠ i))) := by
    unfold Asc prs
    rw [List.pairwise_map]
    exact ((ordTo_pw (up := true) (L := L) (b := b) _).filter _).imp fun h => lef_true.mp (bfr_lef h)
  have zF : Pos (prs L ((ordO true L b).filter fun o => decide (o ≠ i))) := fun p hp => by
    obtain ⟨o, ho, rfl⟩ := List.mem_map.mp hp
    exact siz_pos O (mem_ord.mp (List.mem_filter.mp ho).1).1
  have le1 : Gt true M (siz M b) ((ordO true M b).filter fun o => decide (o ≠ i)) (tmp M b) ≤ Fp true (siz L b) (prs L ((ordO true L b).filter fun o => decide (o ≠ i))) m := by
    rw [Gt_Fp, h.sz b hb, h.ti]
    refine Fp_best hS aF zF ?_
    have := pF.map fun o => (siz M o, tmp M o)
    exact this.trans (by show (prs M _).Perm _; rw [hR])
  rw [e1]
  refine Rat.le_trans le1 ?_
  have key := ext_best (q := []) O hb (p := (siz L i, tmp L i) :: prs L ((ordO true L b).filter fun o => decide (o ≠ i))) (by rw [List.append_nil]; exact (split.map fun o => (siz L o, tmp L o)).symm)
  refine Rat.le_trans ?_ key
  rw [Fp_cons]
  refine lef_true.mp (Fp_monoE hS zF (lef_true.mpr ?_))
  rw [← hm]
  exact mix_le_stp hS (siz_pos O hi)
end AL
/-! Touches and sequences of them. -/
namespace AL
open PySem PySem.Spec L2
abbrev tcD (t : Nat × Nat) : PyData := .tuple [.int t.1, .int t.2]
/-- the state after i and j touch -/
def tchS (L : List Bl) (i j : Nat) : List Bl := (List.range L.length).map fun k => (siz L k, if k = i ∨ k = j then mix (siz L i) (tmp L i) (siz L j) (tmp L j) else tmp L k)
theorem tchS_len (L : List Bl) (i j : Nat) : (tchS L i j).length = L.length := by simp [tchS]
theorem tchS_get {L : List Bl} {i j k : Nat} (h : k < L.length) : siz (tchS L i j) k = siz L k ∧ tmp (tchS L i j) k = if k = i ∨ k = j then mix (siz L i) (tmp L i) (siz L j) (tmp L j) else tmp L k := by
  have h' : k < (tchS L i j).length := by rw [tchS_len]; exact h
  have e : (tchS L i j).getD k (1, 0) = (siz L k, if k = i ∨ k = j then mix (siz L i) (tmp L i) (siz L j) (tmp L j) else tmp L k) := by
    rw [getD_eq h']; simp [tchS]
  constructor
  · show ((tchS L i j).getD k (1, 0)).1 = _; rw [e]
  · show ((tchS L i j).getD k (1, 0)).2 = _; rw [e]
theorem tchS_at {L : List Bl} {i j k : Nat} (h : k < L.length) : ((tchS L i j).map blk)[k]? = some (.tuple [.int (siz L k), fr (if k = i ∨ k = j then mix (siz L i) (tmp L i) (siz L j) (tmp L j) else tmp L k)]) := by
  rw [List.getElem?_map]
  unfold tchS
  rw [List.getElem?_map, List.getElem?_range h]
  rfl
theorem blk_at {L : List Bl} {k : Nat} {p : Bl} (h : L[k]? = some p) : k < L.length ∧ p.1 = siz L k ∧ p.2 = tmp L k := by
  obtain ⟨h1, h2⟩ := List.getElem?_eq_some_iff.mp h
  refine ⟨h1, ?_, ?_⟩
  · unfold siz; rw [getD_eq h1, h2]
  · unfold tmp; rw [getD_eq h1, h2]
theorem tchS_tch {L : List Bl} {i j : Nat} (hi : i < L.length) (hj : j < L.length) : Tch L (tchS L i j) i j (mix (siz L i) (tmp L i) (siz L j) (tmp L j)) :=
  ⟨tchS_len L i j, fun x h => (tchS_get h).1, by rw [(tchS_get hi).2, if_pos (.inl rfl)], by rw [(tchS_get hj).2, if_pos (.inr rfl)], fun x h a b => by rw [(tchS_get h).2, if_neg (by omega)]⟩
theorem tchS_ok {n : Nat} {L : List Bl} {i j : Nat} (O : OkSt n L) (hi : i < L.length) (hj : j < L.length) : OkSt (n + 8) (tchS L i j) := by
  obtain ⟨D, d0, d1, d2⟩ := O.cd
  have s1 := O.sz hi
  have s2 := O.sz hj
  unfold Sz at s1 s2
  have gi : Gr D n (tmp L i) := by unfold tmp; rw [getD_eq hi]; exact d2 _ (List.getElem_mem hi)
  have gj : Gr D n (tmp L j) := by unfold tmp; rw [getD_eq hj]; exact d2 _ (List.getElem_mem hj)
  have hc1 : (siz L i + siz L j).toNat < 2 ^ 8 := by
    have : (siz L i + siz L j).toNat ≤ 198 := by omega
    exact Nat.lt_of_le_of_lt this (by decide)
  refine ⟨by rw [tchS_len]; exact O.one, by rw [tchS_len]; exact O.most, fun b hb => ?_, D * (siz L i + siz L j).toNat, Nat.mul_pos d0 (by omega), by rw [Nat.pow_add]; exact Nat.mul_lt_mul'' d1 hc1, fun b hb => ?_⟩
  · obtain ⟨k, hk, rfl⟩ := List.mem_map.mp hb
    exact O.sz (by simpa using hk)
  · obtain ⟨k, hk, rfl⟩ := List.mem_map.mp hb
    have hk' : k < L.length := by simpa using hk
    have gk : Gr D n (tmp L k) := by unfold tmp; rw [getD_eq hk']; exact d2 _ (List.getElem_mem hk')
    have g : Gr (D * (siz L i + siz L j).toNat) n (if k = i ∨ k = j then mix (siz L i) (tmp L i) (siz L j) (tmp L j) else tmp L k) := by
      split
      · exact mix_gr (by omega) (by omega) gi gj d0
      · exact ⟨Nat.dvd_trans gk.dv (Nat.dvd_mul_right _ _), gk.bd⟩
    exact ⟨g.dv, g.bd.mono (by omega)⟩
/-- after a sequence -/
def afterS (L : List Bl) (ts : List (Nat × Nat)) : List Bl := ts.foldl (fun M t => tchS M t.1 t.2) L
def alongS (L : List Bl) (ts : List (Nat × Nat)) : List (List Bl) := (List.range (ts.length + 1)).map fun k => afterS L (ts.take k)
theorem afterS_len (L : List Bl) : ∀ ts : List (Nat × Nat), (afterS L ts).length = L.length := by
  intro ts
  unfold afterS
  induction ts generalizing L with
  | nil => rfl
  | cons t ts ih => rw [List.foldl_cons, ih, tchS_len]
theorem afterS_snoc (L : List Bl) (ts : List (Nat × Nat)) (t : Nat × Nat) : afterS L (ts ++ [t]) = tchS (afterS L ts) t.1 t.2 := by unfold afterS; rw [List.foldl_append]; rfl
/-- the states along a sequence, as data -/
def alRow (L : List Bl) (ts : List (Nat × Nat)) (i : Nat) : List PyData := (List.range (i + 1)).map fun k => stD (afterS L (ts.take k))
theorem alRow_len (L : List Bl) (ts : List (Nat × Nat)) (i : Nat) : (alRow L ts i).length = i + 1 := by simp [alRow]
theorem at_last {xs : List PyData} {x : PyData} (h : xs.getLast? = some x) : atI xs (-1) = some x := by
  have hne : xs ≠ [] := by intro z; subst z; simp at h
  have hl : 0 < xs.length := List.length_pos_iff.mpr hne
  have e : ixN xs.length (-1) = some (xs.length - 1) := by
    unfold ixN
    rw [if_neg (by omega)]
    first
      | (rw [if_pos (by omega)]; congr 1; omega)
      | (rw [if_neg (by omega)]; congr 1; omega)
  unfold atI
  rw [e]
  rw [List.getLast?_eq_getElem?] at h
  exact h
theorem alRow_last (L : List Bl) (ts : List (Nat × Nat)) (i : Nat) : atI (alRow L ts i) (-1) = some (stD (afterS L (ts.take i))) := by
  refine at_last ?_
  unfold alRow
  rw [List.range_succ, List.map_append]
  simp
theorem alRow_succ {L : List Bl} {ts : List (Nat × Nat)} {i : Nat} {t : Nat × Nat} (h : ts[i]? = some t) : alRow L ts (i + 1) = alRow L ts i ++ [stD (tchS (afterS L (ts.take i)) t.1 t.2)] := by
  unfold alRow
  rw [List.range_succ, List.map_append, List.map_singleton, List.take_add_one, h]
  show _ ++ [stD (afterS L (ts.take i ++ [t]))] = _
  rw [afterS_snoc]
def OkTs (m : Nat) (ts : List (Nat × Nat)) : Prop := ∀ t ∈ ts, t.1 < m ∧ t.2 < m ∧ t.1 ≠ t.2
theorem afterS_ok {n : Nat} : ∀ {ts : List (Nat × Nat)} {L : List Bl}, OkSt n L → OkTs L.length ts → OkSt (n + 8 * ts.length) (afterS L ts)
  | [], L, O, _ => O
  | t :: ts, L, O, h => by
    have ht := h t (by simp)
    have := afterS_ok (n := n + 8) (ts := ts) (tchS_ok O ht.1 ht.2.1) (by rw [tchS_len]; exact fun q hq => h q (by simp [hq]))
    rw [List.length_cons, show n + 8 * (ts.length + 1) = n + 8 + 8 * ts.length by omega]
    exact this
/-- a touch never raises the warmest value -/
theorem tch_warm {n : Nat} {L : List Bl} {i j b : Nat} (O : OkSt n L) (hi : i < L.length) (hj : j < L.length) (hij : i ≠ j) (hb : b < L.length) : (ext true (tchS L i j) b).1 ≤ (ext true L b).1 := by
  have O' := tchS_ok O hi hj
  have T := tchS_tch hi hj
  by_cases h1 : i = b
  · subst h1
    exact tch_own O O' hb hj (Ne.symm hij) T
  · by_cases h2 : j = b
    · subst h2
      rw [mix_comm] at T
      exact tch_own O O' hb hi h1 T.symm
    · exact tch_others O O' hb hi hj hij h1 h2 T
end AL
namespace AL
open PySem PySem.Spec L2
theorem di_sub (p q : Rat) : Rat.divInt (p.num * (q.den : Int) - q.num * (p.den : Int)) ((p.den : Int) * (q.den : Int)) = p - q := by
  have := di_add p (-q)
  have e1 : (-q).num = - q.num := Rat.neg_num _
  have e2 : (-q).den = q.den := Rat.neg_den _
  rw [e1, e2] at this
  rw [Rat.sub_eq_add_neg, ← this]
  congr 1
  rw [Int.neg_mul, Int.sub_eq_add_neg]
/-- the extreme value after the first k touches -/
def endE (up : Bool) (L : List Bl) (ts : List (Nat × Nat)) (b k : Nat) : Rat := (ext up (afterS L (ts.take k)) b).1
def endsD (up : Bool) (L : List Bl) (ts : List (Nat × Nat)) (b : Nat) : List PyData := (List.range (ts.length + 1)).map fun k => fr (endE up L ts b k)
def lossOf (cold : Bool) (L : List Bl) (ts : List (Nat × Nat)) (b k : Nat) : Rat := if cold then endE false L ts b (k + 1) - endE false L ts b k else endE true L ts b k - endE true L ts b (k + 1)
def lossD (L : List Bl) (ts : List (Nat × Nat)) (b : Nat) (cold : Bool) : List PyData := (List.range ts.length).map fun k => fr (lossOf cold L ts b k)
theorem alRow_get {L : List Bl} {ts : List (Nat × Nat)} {n k : Nat} {d : PyData} (h : (alRow L ts n)[k]? = some d) : k < n + 1 ∧ d = stD (afterS L (ts.take k)) := by
  unfold alRow at h
  rw [List.getElem?_map, Option.map_eq_some_iff] at h
  obtain ⟨j, h1, h2⟩ := h
  obtain ⟨h3, h4⟩ := List.getElem?_eq_some_iff.mp h1
  simp at h3 h4
  subst h4
  exact ⟨h3, h2.symm⟩
theorem endsD_at {up : Bool} {L : List Bl} {ts : List (Nat × Nat)} {b k : Nat} (h : k < ts.length + 1) : (endsD up L ts b)[k]? = some (fr (endE up L ts b k)) := by
  unfold endsD
  rw [List.getElem?_map, List.getElem?_range h]; rfl
theorem endsD_len (up : Bool) (L : List Bl) (ts : List (Nat × Nat)) (b : Nat) : (endsD up L ts b).length = ts.length + 1 := by simp [endsD]
theorem lossD_at {L : List Bl} {ts : List (Nat × Nat)} {b k : Nat} {cold : Bool} (h : k < ts.length) : (lossD L ts b cold)[k]? = some (fr (lossOf cold L ts b k)) := by
  unfold lossD
  rw [List.getElem?_map, List.getElem?_range h]; rfl
theorem lossD_len (L : List Bl) (ts : List (Nat × Nat)) (b : Nat) (cold : Bool) : (lossD L ts b cold).length = ts.length := by simp [lossD]
/-- the pairs of neighbours -/
theorem ends_zip {up : Bool} {L : List Bl} {ts : List (Nat × Nat)} {b k : Nat} {d : PyData} (h : (zipD (endsD up L ts b) ((endsD up L ts b).drop 1))[k]? = some d) : k < ts.length ∧ d = .tuple [fr (endE up L ts b k), fr (endE up L ts b (k + 1))] := by
  obtain ⟨x, y, h1, h2, rfl⟩ := zipD_get h
  rw [List.getElem?_drop] at h2
  have hk : 1 + k < ts.length + 1 := by
    have := (List.getElem?_eq_some_iff.mp h2).1
    rwa [endsD_len] at this
  rw [endsD_at (by omega)] at h1
  rw [endsD_at hk] at h2
  cases h1; cases h2
  rw [Nat.add_comm 1 k]
  exact ⟨by omega, rfl⟩
theorem ends_zip_len (up : Bool) (L : List Bl) (ts : List (Nat × Nat)) (b : Nat) : (zipD (endsD up L ts b) ((endsD up L ts b).drop 1)).length = ts.length := by
  rw [zipD_len, List.length_drop, endsD_len]; omega
theorem endE_rb {up : Bool} {L : List Bl} {ts : List (Nat × Nat)} {b k : Nat} (O : OkSt 1600 L) (h : OkTs L.length ts) (hl : ts.length ≤ 24) (hb : b < L.length) : OkSt 1900 (afterS L (ts.take k)) ∧ b < (afterS L (ts.take k)).length ∧ Rb 4400 (endE up L ts b k) := by
  have ht : (ts.take k).length ≤ 24 := by rw [List.length_take]; omega
  have O2 : OkSt 1900 (afterS L (ts.take k)) := (afterS_ok O fun q hq => h q (List.mem_of_mem_take hq)).mono (by omega)
  have hb2 : b < (afterS L (ts.take k)).length := by rw [afterS_len]; exact hb
  exact ⟨O2, hb2, (ext_rb O2 hb2).mono (by decide)⟩
end AL
namespace AL
open PySem PySem.Spec L2
def costD (L : List Bl) (ts : List (Nat × Nat)) (b : Nat) (cold : Bool) : List PyData := (List.range ts.length).filterMap fun k => if lossOf cold L ts b k = 0 then none else some (.int (k : Nat))
theorem fr_zero {q : Rat} : (q.num = 0 ∧ (q.den : Int) = 1) ↔ q = 0 := by
  have := fr_eq (p := q) (q := 0)
  exact this
end AL
/-! Plans; the extreme within a limit. -/
namespace AL
open PySem PySem.Spec L2
/-- induction at the list's end -/
theorem snoc_ind {α : Type} {P : List α → Prop} (h0 : P []) (h1 : ∀ l a, P l → P (l ++ [a])) (l : List α) : P l := by
  have key : ∀ m : List α, P m.reverse := by
    intro m
    induction m with
    | nil => exact h0
    | cons a m ih => rw [List.reverse_cons]; exact h1 _ _ ih
  have := key l.reverse
  rwa [List.reverse_reverse] at this
theorem nodup_len {l : List Nat} {n : Nat} (h : l.Nodup) (k : ∀ x ∈ l, x < n) : l.length ≤ n := by
  have e : l.Perm ((List.range n).filter fun x => decide (x ∈ l)) := (List.perm_ext_iff_of_nodup h (List.nodup_range.filter _)).mpr fun x => by
    rw [List.mem_filter, List.mem_range]
    constructor
    · intro z; exact ⟨k x z, by simpa using z⟩
    · intro z; simpa using z.2
  have h2 := List.length_filter_le (fun x => decide (x ∈ l)) (List.range n)
  rw [← e.length_eq, List.length_range] at h2
  exact h2
/-- the temperature of b after a plan -/
def Pv (L : List Bl) (b : Nat) (p : List Nat) : Rat := p.foldl (fun t o => mix (siz L b) t (siz L o) (tmp L o)) (tmp L b)
theorem Pv_snoc (L : List Bl) (b : Nat) (p : List Nat) (o : Nat) : Pv L b (p ++ [o]) = mix (siz L b) (Pv L b p) (siz L o) (tmp L o) := by unfold Pv; rw [List.foldl_append]; rfl
structure IsPlan (L : List Bl) (b : Nat) (p : List Nat) : Prop where
  nd : p.Nodup
  mem : ∀ o ∈ p, o < L.length ∧ o ≠ b
theorem IsPlan.nil {L : List Bl} {b : Nat} : IsPlan L b [] := ⟨List.nodup_nil, by simp⟩
theorem IsPlan.sub {L : List Bl} {b : Nat} {p q : List Nat} (h : IsPlan L b q) (s : p.Sublist q) : IsPlan L b p := ⟨h.nd.sublist s, fun o ho => h.mem o (s.subset ho)⟩
theorem ord_plan {up : Bool} {L : List Bl} {b : Nat} : IsPlan L b (ordO up L b) := ⟨ord_nodup up L b, fun o h => mem_ord.mp h⟩
theorem IsPlan.len {L : List Bl} {b : Nat} {p : List Nat} (h : IsPlan L b p) (hb : b < L.length) : p.length + 1 ≤ L.length := by
  have h2 : (b :: p).Nodup := List.nodup_cons.mpr ⟨fun m => (h.mem b m).2 rfl, h.nd⟩
  have h3 := nodup_len (n := L.length) h2 fun x hx => by
    rcases List.mem_cons.mp hx with rfl | hx
    · exact hb
    · exact (h.mem x hx).1
  simpa using h3
section
variable {L : List Bl} {b n : Nat}
theorem pos_prs (O : OkSt n L) {l : List Nat} (h : ∀ o ∈ l, o < L.length) : Pos (prs L l) := fun p hp => by
  obtain ⟨o, ho, rfl⟩ := List.mem_map.mp hp
  exact siz_pos O (h o ho)
theorem prs_app (l m : List Nat) : prs L (l ++ m) = prs L l ++ prs L m := by simp [prs]
/-- touching always does no better than touching where it is of use -/
theorem Pv_le (O : OkSt n L) (hb : b < L.length) {p : List Nat} (h : ∀ o ∈ p, o < L.length) : Pv L b p ≤ Fp true (siz L b) (prs L p) (tmp L b) := by
  have hS := siz_pos O hb
  induction p using snoc_ind with
  | h0 => exact Rat.le_refl
  | h1 p o ih =>
    have ho := siz_pos O (h o (by simp))
    have ih' := ih fun q hq => h q (by simp [hq])
    rw [Pv_snoc, prs_app, Fp_app]
    show _ ≤ stp true (siz L b) _ (siz L o) (tmp L o)
    exact Rat.le_trans (mix_mono hS ho ih') (mix_le_stp hS ho)
/-- those of the order that stand in p -/
def srt (up : Bool) (L : List Bl) (b : Nat) (p : List Nat) : List Nat := (ordO up L b).filter fun o => decide (o ∈ p)
theorem srt_perm {up : Bool} {p : List Nat} (h : IsPlan L b p) : (srt up L b p).Perm p := by
  refine (List.perm_ext_iff_of_nodup ((ord_nodup up L b).filter _) h.nd).mpr fun x => ?_
  show x ∈ (ordO up L b).filter (fun o => decide (o ∈ p)) ↔ _
  rw [List.mem_filter, mem_ord]
  constructor
  · intro z; simpa using z.2
  · intro z; exact ⟨h.mem x z, by simpa using z⟩
theorem srt_sub {up : Bool} {p : List Nat} : (srt up L b p).Sublist (ordO up L b) := List.filter_sublist
theorem asc_sub {l m : List Nat} (h : Asc (prs L m)) (s : l.Sublist m) : Asc (prs L l) := List.Pairwise.sublist (s.map _) h
theorem Pv_srt (O : OkSt n L) (hb : b < L.length) {p : List Nat} (h : IsPlan L b p) : Pv L b p ≤ Fp true (siz L b) (prs L (srt true L b p)) (tmp L b) := by
  refine Rat.le_trans (Pv_le O hb fun o ho => (h.mem o ho).1) (Fp_best (siz_pos O hb) (asc_sub (asc_ord L b) srt_sub) (pos_prs O fun o ho => (mem_ord.mp (srt_sub.subset ho)).1) ?_)
  exact (srt_perm h).symm.map _
/-! ### the greedy plan -/
theorem exOf_plan (up : Bool) (L : List Bl) (b : Nat) (l : List Nat) : (exOf up L b l).1 = Pv L b (exOf up L b l).2 ∧ (exOf up L b l).2.Sublist l := by
  induction l using snoc_ind with
  | h0 => exact ⟨rfl, List.Sublist.slnil⟩
  | h1 l o ih =>
    rw [exOf_snoc]
    unfold exStep
    split
    · refine ⟨?_, ih.2.append (List.Sublist.refl _)⟩
      show mix _ (exOf up L b l).1 _ _ = Pv L b ((exOf up L b l).2 ++ [o])
      rw [Pv_snoc, ← ih.1]
    · exact ⟨ih.1, ih.2.trans (List.sublist_append_left _ _)⟩
theorem ext_plan (up : Bool) (L : List Bl) (b : Nat) : (ext up L b).1 = Pv L b (ext up L b).2 ∧ IsPlan L b (ext up L b).2 := by
  obtain ⟨h1, h2⟩ := exOf_plan up L b (ordO up L b)
  exact ⟨h1, ord_plan.sub h2⟩
theorem ext_top (O : OkSt n L) (hb : b < L.length) {p : List Nat} (h : IsPlan L b p) : Pv L b p ≤ (ext true L b).1 := by
  refine Rat.le_trans (Pv_srt O hb h) ?_
  have e : (prs L (srt true L b p) ++ prs L ((ordO true L b).filter fun o => !decide (o ∈ p))).Perm (prs L (ordO true L b)) := by
    rw [← prs_app]
    exact (List.filter_append_perm _ _).map _
  exact ext_best O hb e
end
/-! ### warm and cold -/
theorem ngL_len (L : List Bl) : (ngL L).length = L.length := by simp [ngL]
theorem ngL_ok {n : Nat} {L : List Bl} (O : OkSt n L) : OkSt n (ngL L) := by
  obtain ⟨D, d0, d1, d2⟩ := O.cd
  refine ⟨by rw [ngL_len]; exact O.one, by rw [ngL_len]; exact O.most, fun b hb => ?_, D, d0, d1, fun b hb => ?_⟩
  · obtain ⟨c, hc, rfl⟩ := List.mem_map.mp hb
    exact O.szs c hc
  · obtain ⟨c, hc, rfl⟩ := List.mem_map.mp hb
    have h := d2 c hc
    refine ⟨by show (-c.2).den ∣ D; rw [Rat.neg_den]; exact h.dv, ?_⟩
    obtain ⟨h1, h2⟩ := h.bd
    show Bd n (-c.2)
    constructor <;> grind
theorem Pv_neg {L : List Bl} {b : Nat} (hb : b < L.length) {p : List Nat} (h : ∀ o ∈ p, o < L.length) : Pv (ngL L) b p = - Pv L b p := by
  induction p using snoc_ind with
  | h0 => exact (ngL_get L b hb).2
  | h1 p o ih =>
    obtain ⟨e1, e2⟩ := ngL_get L o (h o (by simp))
    rw [Pv_snoc, Pv_snoc, ih fun q hq => h q (by simp [hq]), e1, e2, (ngL_get L b hb).1, mix_neg]
theorem IsPlan.neg {L : List Bl} {b : Nat} {p : List Nat} : IsPlan (ngL L) b p ↔ IsPlan L b p := by
  constructor <;> intro h <;> refine ⟨h.nd, fun o ho => ?_⟩ <;> have := h.mem o ho <;> rw [ngL_len] at * <;> exact this
/-- no plan does better than the extreme value -/
theorem ext_all {up : Bool} {n : Nat} {L : List Bl} {b : Nat} (O : OkSt n L) (hb : b < L.length) {p : List Nat} (h : IsPlan L b p) : lef up (Pv L b p) (ext up L b).1 := by
  cases up with
  | true => exact lef_true.mpr (ext_top O hb h)
  | false =>
    have z := ext_top (ngL_ok O) (by rw [ngL_len]; exact hb) (IsPlan.neg.mpr h)
    rw [Pv_neg hb fun o ho => (h.mem o ho).1] at z
    rw [(ext_neg L b hb).1]
    show - (ext true (ngL L) b).1 ≤ Pv L b p
    grind
theorem lef_antisymm {up : Bool} {t u : Rat} (h : lef up t u) (k : lef up u t) : t = u := by
  cases up
  · exact Rat.le_antisymm k h
  · exact Rat.le_antisymm h k
end AL
/-! The extreme within a limit: what the def computes is the best of all plans within the limit. -/
namespace AL
open PySem PySem.Spec L2
abbrev Bp := Rat × List Nat
def bAt (bs : List Bp) (j : Nat) : Bp := bs.getD j (0, [])
def ewTry (up : Bool) (L : List Bl) (b : Nat) (a c : Bp) (o : Nat) : Bp :=
  if ahead up a.1 (tmp L o) then (if ahead up c.1 (mix (siz L b) a.1 (siz L o) (tmp L o)) then (mix (siz L b) a.1 (siz L o) (tmp L o), a.2 ++ [o]) else c) else c
def ewNew (up : Bool) (L : List Bl) (b : Nat) (bs : List Bp) (o j : Nat) : Bp := if j = 0 then bAt bs 0 else ewTry up L b (bAt bs (j - 1)) (bAt bs j) o
def ewRow (up : Bool) (L : List Bl) (b : Nat) (bs : List Bp) (o : Nat) : List Bp := (List.range bs.length).map (ewNew up L b bs o)
def ewGrow (many : Int) (bs : List Bp) : List Bp := if (bs.length : Int) ≤ many then bs ++ [bAt bs (bs.length - 1)] else bs
def ewStep (up : Bool) (L : List Bl) (b : Nat) (many : Int) (bs : List Bp) (o : Nat) : List Bp := ewRow up L b (ewGrow many bs) o
def ewOf (up : Bool) (L : List Bl) (b : Nat) (many : Int) (l : List Nat) : List Bp := l.foldl (ewStep up L b many) [(tmp L b, [])]
def extW (up : Bool) (L : List Bl) (b : Nat) (many : Int) : Bp := bAt (ewOf up L b many (ordO up L b)) ((ewOf up L b many (ordO up L b)).length - 1)
theorem ewOf_snoc (up : Bool) (L : List Bl) (b : Nat) (many : Int) (l : List Nat) (o : Nat) : ewOf up L b many (l ++ [o]) = ewStep up L b many (ewOf up L b many l) o := by unfold ewOf; rw [List.foldl_append]; rfl
theorem bAt_map {n j : Nat} {f : Nat → Bp} (h : j < n) : bAt ((List.range n).map f) j = f j := by simp [bAt, h]
theorem bAt_app {bs : List Bp} {x : Bp} {j : Nat} : bAt (bs ++ [x]) j = if j < bs.length then bAt bs j else if j = bs.length then x else (0, []) := by
  unfold bAt
  rw [List.getD_eq_getElem?_getD, List.getD_eq_getElem?_getD, List.getElem?_append]
  split
  · rfl
  · split
    · rename_i h h2; rw [h2]; simp
    · rename_i h h2
      rw [List.getElem?_eq_none (by simp; omega)]; rfl
theorem ewGrow_len (many : Int) (bs : List Bp) : (ewGrow many bs).length = if (bs.length : Int) ≤ many then bs.length + 1 else bs.length := by
  unfold ewGrow; split <;> simp
theorem ewStep_len (up : Bool) (L : List Bl) (b : Nat) (many : Int) (bs : List Bp) (o : Nat) : (ewStep up L b many bs o).length = if (bs.length : Int) ≤ many then bs.length + 1 else bs.length := by
  unfold ewStep ewRow; rw [List.length_map, List.length_range, ewGrow_len]
theorem ewOf_len (up : Bool) (L : List Bl) (b : Nat) {many : Int} (hm : 0 ≤ many) (l : List Nat) : (ewOf up L b many l).length = min l.length many.toNat + 1 := by
  induction l using snoc_ind with
  | h0 => simp [ewOf]
  | h1 l o ih =>
    rw [ewOf_snoc, ewStep_len, ih, List.length_append]
    simp only [List.length_cons, List.length_nil]
    split <;> omega
theorem ewTry_ge {up : Bool} {L : List Bl} {b : Nat} {a c : Bp} {o : Nat} : lef up c.1 (ewTry up L b a c o).1 := by
  unfold ewTry
  split
  · split
    · rename_i h; exact lef_of (ahead_iff.mp h)
    · exact lef.refl _ _
  · exact lef.refl _ _
section
variable {L : List Bl} {b n : Nat}
/-- what holds of the best ones, the blocks of l looked at -/
structure EwI (L : List Bl) (b : Nat) (l : List Nat) (bs : List Bp) : Prop where
  at_ : ∀ j, j < bs.length → (bAt bs j).1 = Pv L b (bAt bs j).2 ∧ (bAt bs j).2.Sublist l ∧ (bAt bs j).2.length ≤ j
  top : ∀ j, j < bs.length → ∀ q : List Nat, q.Sublist l → q.length ≤ j → Fp true (siz L b) (prs L q) (tmp L b) ≤ (bAt bs j).1
theorem EwI.mono (O : OkSt n L) (hb : b < L.length) {l : List Nat} (hl : ∀ o ∈ l, o < L.length) {bs : List Bp} (I : EwI L b l bs) {i j : Nat} (hij : i ≤ j) (hj : j < bs.length) : (bAt bs i).1 ≤ (bAt bs j).1 := by
  obtain ⟨h1, h2, h3⟩ := I.at_ i (by omega)
  rw [h1]
  exact Rat.le_trans (Pv_le O hb fun o ho => hl o (h2.subset ho)) (I.top j hj _ h2 (by omega))
theorem sub_snoc {l q : List Nat} {o : Nat} (h : q.Sublist (l ++ [o])) : q.Sublist l ∨ ∃ q', q = q' ++ [o] ∧ q'.Sublist l := by
  obtain ⟨q1, q2, rfl, h1, h2⟩ := List.sublist_append_iff.mp h
  cases h2 with
  | cons _ h2 => cases h2; left; simpa using h1
  | cons_cons _ h2 => cases h2; exact .inr ⟨q1, rfl, h1⟩
theorem EwI.step (O : OkSt n L) (hb : b < L.length) {many : Int} (hm : 0 ≤ many) {l : List Nat} {o : Nat} (hl : ∀ q ∈ l, q < L.length) (ho : o < L.length) (I : EwI L b l (ewOf true L b many l)) : EwI L b (l ++ [o]) (ewOf true L b many (l ++ [o])) := by
  have hS := siz_pos O hb
  have hs := siz_pos O ho
  have hlen := ewOf_len true L b hm l
  rw [ewOf_snoc]
  obtain ⟨bs, ebs⟩ : ∃ bs, bs = ewOf true L b many l := ⟨_, rfl⟩
  rw [← ebs] at I hlen ⊢
  -- the list made longer
  have G : EwI L b l (ewGrow many bs) ∧ (ewGrow many bs).length ≤ l.length + 2 := by
    unfold ewGrow
    split
    · rename_i hg
      have hl0 : bs.length = l.length + 1 := by omega
      refine ⟨⟨fun j hj => ?_, fun j hj q hq hqj => ?_⟩, by simp; omega⟩
      · rw [bAt_app]
        have hj' : j < bs.length + 1 := by simpa using hj
        split
        · exact I.at_ j (by assumption)
        · rw [if_pos (by omega)]
          obtain ⟨a1, a2, a3⟩ := I.at_ (bs.length - 1) (by omega)
          exact ⟨a1, a2, by omega⟩
      · rw [bAt_app]
        have hj' : j < bs.length + 1 := by simpa using hj
        split
        · exact I.top j (by assumption) q hq hqj
        · rw [if_pos (by omega)]
          exact I.top (bs.length - 1) (by omega) q hq (by have := hq.length_le; omega)
    · exact ⟨I, by omega⟩
  obtain ⟨cs, ecs⟩ : ∃ cs, cs = ewGrow many bs := ⟨_, rfl⟩
  unfold ewStep ewRow
  rw [← ecs] at G ⊢
  obtain ⟨G, hcl⟩ := G
  have len : ((List.range cs.length).map (ewNew true L b cs o)).length = cs.length := by simp
  refine ⟨fun j hj => ?_, fun j hj q hq hqj => ?_⟩
  · rw [len] at hj
    rw [bAt_map hj]
    unfold ewNew
    split
    · obtain ⟨a1, a2, a3⟩ := G.at_ 0 (by omega)
      exact ⟨a1, a2.trans (List.sublist_append_left _ _), by omega⟩
    · obtain ⟨a1, a2, a3⟩ := G.at_ j hj
      obtain ⟨c1, c2, c3⟩ := G.at_ (j - 1) (by omega)
      unfold ewTry
      split
      · split
        · exact ⟨by show _ = Pv L b (_ ++ [o]); rw [Pv_snoc, ← c1], c2.append (List.Sublist.refl _), by simp; omega⟩
        · exact ⟨a1, a2.trans (List.sublist_append_left _ _), a3⟩
      · exact ⟨a1, a2.trans (List.sublist_append_left _ _), a3⟩
  · rw [len] at hj
    rw [bAt_map hj]
    have old : (bAt cs j).1 ≤ (ewNew true L b cs o j).1 := by
      unfold ewNew
      split
      · rename_i z; rw [z]; exact Rat.le_refl
      · exact ewTry_ge (up := true)
    rcases sub_snoc hq with hq | ⟨q', rfl, hq2⟩
    · exact Rat.le_trans (G.top j hj q hq hqj) old
    · have hj0 : j ≠ 0 := fun z => by rw [z] at hqj; simp at hqj
      have hq' : q'.length ≤ j - 1 := by have : q'.length + 1 ≤ j := by simpa using hqj
                                         omega
      rw [prs_app, Fp_app]
      show stp true (siz L b) _ (siz L o) (tmp L o) ≤ _
      have t1 := G.top (j - 1) (by omega) q' hq2 hq'
      have pz : Pos (prs L [o]) := pos_prs O (by simpa using ho)
      have t2 : stp true (siz L b) (Fp true (siz L b) (prs L q') (tmp L b)) (siz L o) (tmp L o) ≤ stp true (siz L b) (bAt cs (j - 1)).1 (siz L o) (tmp L o) :=
        lef_true.mp (Fp_monoE (l := prs L [o]) hS pz (lef_true.mpr t1))
      refine Rat.le_trans t2 ?_
      by_cases ha : ltf true (bAt cs (j - 1)).1 (tmp L o)
      · rw [stp_yes ha]
        unfold ewNew
        rw [if_neg hj0]
        unfold ewTry
        rw [if_pos (ahead_iff.mpr ha)]
        split
        · exact Rat.le_refl
        · rename_i hn
          have hn' : ¬ ltf true (bAt cs j).1 (mix (siz L b) (bAt cs (j - 1)).1 (siz L o) (tmp L o)) := fun z => hn (ahead_iff.mpr z)
          have : ¬ (bAt cs j).1 < mix (siz L b) (bAt cs (j - 1)).1 (siz L o) (tmp L o) := hn'
          exact Rat.not_lt.mp this
      · rw [stp_no ha]
        exact Rat.le_trans (G.mono O hb hl (by omega) hj) old
theorem ewOf_inv (O : OkSt n L) (hb : b < L.length) {many : Int} (hm : 0 ≤ many) (l : List Nat) (hl : ∀ q ∈ l, q < L.length) : EwI L b l (ewOf true L b many l) := by
  induction l using snoc_ind with
  | h0 =>
    refine ⟨fun j hj => ?_, fun j hj q hq _ => ?_⟩
    · have : j = 0 := by simp [ewOf] at hj; exact hj
      subst this
      exact ⟨rfl, List.Sublist.slnil, Nat.zero_le _⟩
    · have : j = 0 := by simp [ewOf] at hj; exact hj
      subst this
      rw [List.sublist_nil.mp hq]
      exact Rat.le_refl
  | h1 l o ih => exact (ih fun q h => hl q (by simp [h])).step O hb hm (fun q h => hl q (by simp [h])) (hl o (by simp))
theorem extW_true (O : OkSt n L) (hb : b < L.length) {many : Int} (hm : 0 ≤ many) : ((extW true L b many).1 = Pv L b (extW true L b many).2 ∧ IsPlan L b (extW true L b many).2 ∧ ((extW true L b many).2.length : Int) ≤ many) ∧ ∀ p, IsPlan L b p → (p.length : Int) ≤ many → Pv L b p ≤ (extW true L b many).1 := by
  have hl : ∀ q ∈ ordO true L b, q < L.length := fun q h => (mem_ord.mp h).1
  have I := ewOf_inv O hb hm (ordO true L b) hl
  have len := ewOf_len true L b hm (ordO true L b)
  unfold extW
  refine ⟨?_, fun p hp hpm => ?_⟩
  · obtain ⟨a1, a2, a3⟩ := I.at_ ((ewOf true L b many (ordO true L b)).length - 1) (by omega)
    exact ⟨a1, ord_plan.sub a2, by omega⟩
  · refine Rat.le_trans (Pv_srt O hb hp) (I.top _ (by omega) _ srt_sub ?_)
    have h1 := (srt_perm (up := true) hp).length_eq
    have h2 := (srt_sub (up := true) (L := L) (b := b) (p := p)).length_le
    omega
end
/-! ### warm and cold exchanged -/
theorem ew_neg {L : List Bl} {b : Nat} (hb : b < L.length) (many : Int) : ∀ (l : List Nat), (∀ o ∈ l, o < L.length) → ewOf true (ngL L) b many l = (ewOf false L b many l).map fun x => (-x.1, x.2) := by
  intro l h
  induction l using snoc_ind with
  | h0 => simp [ewOf, (ngL_get L b hb).2]
  | h1 l o ih =>
    have ih := ih fun q hq => h q (by simp [hq])
    have ho := h o (by simp)
    obtain ⟨e1, e2⟩ := ngL_get L o ho
    obtain ⟨e3, e4⟩ := ngL_get L b hb
    rw [ewOf_snoc, ewOf_snoc, ih]
    generalize ewOf false L b many l = bs
    have m1 : ∀ (cs : List Bp) (j : Nat), bAt (cs.map fun x => (-x.1, x.2)) j = (-(bAt cs j).1, (bAt cs j).2) := fun cs j => by
      unfold bAt
      rw [List.getD_eq_getElem?_getD, List.getD_eq_getElem?_getD, List.getElem?_map]
      cases cs[j]? with
      | none => simp
      | some x => rfl
    have m2 : ewGrow many (bs.map fun x => (-x.1, x.2)) = (ewGrow many bs).map fun x => (-x.1, x.2) := by
      unfold ewGrow
      rw [List.length_map]
      split
      · rw [List.map_append, m1]; rfl
      · rfl
    have m3 : ∀ t u : Rat, ahead true (-t) (-u) = ahead false t u := fun t u => by
      show decide (-t < -u) = decide (u < t)
      congr 1
      apply propext
      constructor <;> intro z <;> grind
    unfold ewStep ewRow
    rw [m2, List.length_map, List.map_map]
    refine List.map_congr_left fun j _ => ?_
    show ewNew true (ngL L) b _ o j = (-(ewNew false L b (ewGrow many bs) o j).1, (ewNew false L b (ewGrow many bs) o j).2)
    unfold ewNew
    split
    · rw [m1]
    · rw [m1, m1]
      unfold ewTry
      rw [e1, e2, e3]
      simp only [mix_neg, m3]
      split
      · split <;> rfl
      · rfl
theorem extW_neg {L : List Bl} {b : Nat} (hb : b < L.length) (many : Int) : (extW true (ngL L) b many).1 = -(extW false L b many).1 ∧ (extW true (ngL L) b many).2 = (extW false L b many).2 := by
  unfold extW
  have e : ordO true (ngL L) b = ordO false L b := by
    unfold ordO; rw [ngL_len]; exact ngL_ordTo L b _ (Nat.le_refl _)
  rw [e, ew_neg hb many _ fun o h => (mem_ord.mp h).1, List.length_map]
  have m1 : ∀ (cs : List Bp) (j : Nat), bAt (cs.map fun x => (-x.1, x.2)) j = (-(bAt cs j).1, (bAt cs j).2) := fun cs j => by
    unfold bAt
    rw [List.getD_eq_getElem?_getD, List.getD_eq_getElem?_getD, List.getElem?_map]
    cases cs[j]? with
    | none => simp
    | some x => rfl
  rw [m1]
  exact ⟨rfl, rfl⟩
/-- the best of all plans within the limit, and a plan that reaches it -/
theorem extW_best {up : Bool} {n : Nat} {L : List Bl} {b : Nat} (O : OkSt n L) (hb : b < L.length) {many : Int} (hm : 0 ≤ many) : ((extW up L b many).1 = Pv L b (extW up L b many).2 ∧ IsPlan L b (extW up L b many).2 ∧ ((extW up L b many).2.length : Int) ≤ many) ∧ ∀ p, IsPlan L b p → (p.length : Int) ≤ many → lef up (Pv L b p) (extW up L b many).1 := by
  cases up with
  | true => exact extW_true O hb hm
  | false =>
    obtain ⟨⟨h1, h2, h3⟩, h4⟩ := extW_true (ngL_ok O) (by rw [ngL_len]; exact hb) hm
    obtain ⟨e1, e2⟩ := extW_neg hb many
    rw [e2] at h1 h2 h3
    rw [e1] at h1 h4
    have h2' := IsPlan.neg.mp h2
    rw [Pv_neg hb fun o ho => (h2'.mem o ho).1] at h1
    refine ⟨⟨by grind, h2', h3⟩, fun p hp hpm => ?_⟩
    have z := h4 p (IsPlan.neg.mpr hp) hpm
    rw [Pv_neg hb fun o ho => (hp.mem o ho).1] at z
    show (extW false L b many).1 ≤ Pv L b p
    grind
end AL
/-! Helpers of the laws 31 to 52: drawn heaps, touches, heat moved. -/
namespace AL
open PySem PySem.Spec L2
/-- d is the fraction q -/
def IsFr (d : PyData) (q : Rat) : Prop := d = fr q
theorem isfr_rfl {q : Rat} : IsFr (fr q) q := rfl
theorem isfr_neg {q : Rat} : IsFr (.tuple [.int (0 - q.num), .int (q.den : Int)]) (-q) := by
  show (_ : PyData) = .tuple [.int (-q).num, .int ((-q).den : Int)]
  rw [Rat.neg_num, Rat.neg_den, Int.zero_sub]
/-! ### bounds -/
theorem Rb.neg {n : Nat} {q : Rat} (h : Rb n q) : Rb n (-q) := by
  obtain ⟨h1, h2⟩ := h
  constructor
  · rw [Rat.neg_num]; unfold Bt at *; rwa [Int.natAbs_neg]
  · rw [Rat.neg_den]; exact h2
theorem Rb.mul {n m : Nat} {p q : Rat} (h : Rb n p) (k : Rb m q) : Rb (n + m) (p * q) := by
  rw [← di_mul]
  exact Rb.di (h.1.mul k.1) (h.2.mul k.2) (Int.mul_pos (den_pos p) (den_pos q))
theorem Gr.mono {E F n m : Nat} {q : Rat} (h : Gr E n q) (hE : E ∣ F) (hn : n ≤ m) : Gr F m q := ⟨Nat.dvd_trans h.dv hE, h.bd.mono hn⟩
theorem Gr.neg {E n : Nat} {q : Rat} (h : Gr E n q) : Gr E n (-q) := by
  refine ⟨by rw [Rat.neg_den]; exact h.dv, ?_⟩
  obtain ⟨h1, h2⟩ := h.bd
  constructor <;> grind
theorem den_dvd_of {q : Rat} {E : Nat} {z : Int} (hE : 0 < E) (h : q * ((E : Int) : Rat) = (z : Rat)) : q.den ∣ E := by
  have hE' : (0 : Rat) < ((E : Int) : Rat) := Rat.intCast_pos.mpr (by omega)
  have e : q = Rat.divInt z E := by
    rw [Rat.divInt_eq_div]
    exact eq_div_of (by grind) h
  rw [e, Rat.den_divInt, if_neg (by omega)]
  have : ((E : Int)).natAbs = E := by omega
  rw [this]
  refine Nat.div_dvd_of_dvd ?_
  conv => rhs; rw [← this]
  exact Int.gcd_dvd_natAbs_left _ _
theorem two_add (n : Nat) : ((2 ^ (n + 1) : Int) : Rat) = ((2 ^ n : Int) : Rat) + ((2 ^ n : Int) : Rat) := by
  rw [← Rat.intCast_add]; congr 1
  rw [Int.pow_succ]; omega
theorem Gr.add {E n : Nat} {p q : Rat} (hE : 0 < E) (h : Gr E n p) (k : Gr E n q) : Gr E (n + 1) (p + q) := by
  refine ⟨?_, ?_⟩
  · obtain ⟨a, ha⟩ := h.dv
    obtain ⟨b, hb⟩ := k.dv
    have e1 := mul_dvd ha
    have e2 := mul_dvd hb
    refine den_dvd_of (z := p.num * a + q.num * b) hE ?_
    rw [Rat.intCast_add, ← e1, ← e2]; grind
  · obtain ⟨a1, a2⟩ := h.bd
    obtain ⟨b1, b2⟩ := k.bd
    unfold Bd
    rw [two_add]
    constructor <;> grind
theorem Gr.mul {E F n m : Nat} {p q : Rat} (hE : 0 < E) (hF : 0 < F) (h : Gr E n p) (k : Gr F m q) : Gr (E * F) (n + m) (p * q) := by
  refine ⟨?_, ?_⟩
  · obtain ⟨a, ha⟩ := h.dv
    obtain ⟨b, hb⟩ := k.dv
    have e1 := mul_dvd ha
    have e2 := mul_dvd hb
    refine den_dvd_of (z := (p.num * a) * (q.num * b)) (Nat.mul_pos hE hF) ?_
    rw [Rat.intCast_mul, ← e1, ← e2, Int.natCast_mul, Rat.intCast_mul]; grind
  · obtain ⟨a1, a2⟩ := h.bd
    obtain ⟨b1, b2⟩ := k.bd
    have e : ((2 ^ (n + m) : Int) : Rat) = ((2 ^ n : Int) : Rat) * ((2 ^ m : Int) : Rat) := by
      rw [← Rat.intCast_mul]; congr 1; rw [Int.pow_add]
    unfold Bd
    rw [e]
    generalize ((2 ^ n : Int) : Rat) = A at *
    generalize ((2 ^ m : Int) : Rat) = B at *
    constructor
    · have h1 := Rat.mul_nonneg (a := A - p) (b := B + q) (by grind) (by grind)
      have h2 := Rat.mul_nonneg (a := A + p) (b := B - q) (by grind) (by grind)
      have h3 := Rat.mul_nonneg (a := A + p) (b := B + q) (by grind) (by grind)
      have h4 := Rat.mul_nonneg (a := A - p) (b := B - q) (by grind) (by grind)
      grind
    · have h1 := Rat.mul_nonneg (a := A - p) (b := B + q) (by grind) (by grind)
      have h2 := Rat.mul_nonneg (a := A + p) (b := B - q) (by grind) (by grind)
      grind
theorem Gr.of_rb {m : Nat} {q : Rat} (h : Rb m q) : Gr q.den m q := by
  refine ⟨Nat.dvd_refl _, ?_⟩
  have h1 : q.num.natAbs < 2 ^ m := h.1
  have hd := q.den_pos
  have c : ((2 ^ m * q.den : Nat) : Int) = (2 : Int) ^ m * (q.den : Int) := by simp
  have hk : q.num.natAbs ≤ 2 ^ m * q.den := Nat.le_trans (Nat.le_of_lt h1) (Nat.le_mul_of_pos_right _ hd)
  constructor
  · rw [Rat.le_iff]
    show -(2 : Int) ^ m * (q.den : Int) ≤ q.num * ((1 : Nat) : Int)
    rw [Int.neg_mul, ← c]; omega
  · rw [Rat.le_iff]
    show q.num * ((1 : Nat) : Int) ≤ (2 : Int) ^ m * (q.den : Int)
    rw [← c]; omega
theorem Gr.divi {E n : Nat} {q : Rat} {s : Int} (hE : 0 < E) (hs : 0 < s) (h : Gr E n q) : Gr (E * s.toNat) n (q / (s : Rat)) := by
  have hs' : (0 : Rat) < (s : Rat) := Rat.intCast_pos.mpr hs
  have hs1 : (1 : Rat) ≤ (s : Rat) := by
    have : ((1 : Int) : Rat) ≤ (s : Rat) := Rat.intCast_le_intCast.mpr (by omega)
    simpa using this
  have e : q / (s : Rat) * (s : Rat) = q := Rat.div_mul_cancel (by grind)
  refine ⟨?_, ?_⟩
  · obtain ⟨a, ha⟩ := h.dv
    have e1 := mul_dvd ha
    refine den_dvd_of (z := q.num * a) (Nat.mul_pos hE (by omega)) ?_
    rw [Int.natCast_mul, show ((s.toNat : Nat) : Int) = s by omega, Rat.intCast_mul, ← e1]
    have : q / (s : Rat) * (((E : Int) : Rat) * (s : Rat)) = (q / (s : Rat) * (s : Rat)) * ((E : Int) : Rat) := by grind
    rw [this, e]
  · obtain ⟨a1, a2⟩ := h.bd
    unfold Bd
    generalize q / (s : Rat) = x at *
    generalize ((2 ^ n : Int) : Rat) = A at *
    have hA : 0 ≤ A := by grind
    constructor
    · apply Classical.byContradiction
      intro hn
      have h1 := Rat.mul_pos (a := -A - x) (b := (s : Rat)) (by grind) hs'
      have h2 := Rat.mul_nonneg (a := A) (b := (s : Rat) - 1) hA (by grind)
      grind
    · apply Classical.byContradiction
      intro hn
      have h1 := Rat.mul_pos (a := x - A) (b := (s : Rat)) (by grind) hs'
      have h2 := Rat.mul_nonneg (a := A) (b := (s : Rat) - 1) hA (by grind)
      grind
theorem Gr.di {a b : Int} {n : Nat} (hb : 0 < b) (ha : a.natAbs < 2 ^ n) : Gr b.toNat n (Rat.divInt a b) := by
  have e : Rat.divInt a b = (a : Rat) / (b : Rat) := Rat.divInt_eq_div a b
  have h1 : Gr 1 n (a : Rat) := by
    refine ⟨by rw [Rat.den_intCast]; exact Nat.dvd_refl _, ?_⟩
    have h2 : -((2 : Int) ^ n) ≤ a ∧ a ≤ 2 ^ n := by
      have : ((2 ^ n : Nat) : Int) = 2 ^ n := by simp
      omega
    constructor
    · have := Rat.intCast_le_intCast.mpr h2.1
      rw [Rat.intCast_neg] at this; exact this
    · exact Rat.intCast_le_intCast.mpr h2.2
  have := h1.divi (by decide) hb
  rw [Nat.one_mul] at this
  rw [e]; exact this
/-- a state of the blocks of another one with new temperatures -/
theorem OkSt.of_gr {n m : Nat} {L M : List Bl} (O : OkSt n L) (hl : M.length = L.length) (hs : ∀ b ∈ M, Sz b.1) {D : Nat} (h0 : 0 < D) (h1 : D < 2 ^ m) (h : ∀ b ∈ M, Gr D m b.2) : OkSt m M :=
  ⟨by rw [hl]; exact O.one, by rw [hl]; exact O.most, hs, D, h0, h1, h⟩
/-! ### two places changed -/
theorem getD_set {L : List Bl} {i k : Nat} {x : Bl} (hi : i < L.length) : (L.set i x).getD k (1, 0) = if k = i then x else L.getD k (1, 0) := by
  rw [List.getD_eq_getElem?_getD, List.getD_eq_getElem?_getD]
  by_cases h : k = i
  · subst h; rw [if_pos rfl, List.getElem?_set_self hi]; rfl
  · rw [if_neg h, List.getElem?_set_ne (Ne.symm h)]
/-- new temperatures at i and j -/
def putT (L : List Bl) (i : Nat) (t : Rat) : List Bl := L.set i (siz L i, t)
theorem putT_len (L : List Bl) (i : Nat) (t : Rat) : (putT L i t).length = L.length := by simp [putT]
theorem putT_siz {L : List Bl} {i : Nat} {t : Rat} (hi : i < L.length) (k : Nat) : siz (putT L i t) k = siz L k := by
  unfold siz putT; rw [getD_set hi]; split
  · rename_i h; rw [h]; rfl
  · rfl
theorem putT_tmp {L : List Bl} {i : Nat} {t : Rat} (hi : i < L.length) (k : Nat) : tmp (putT L i t) k = if k = i then t else tmp L k := by
  unfold tmp putT; rw [getD_set hi]; split <;> rfl
theorem bl_ext {L M : List Bl} (hl : L.length = M.length) (h : ∀ k, k < L.length → siz L k = siz M k ∧ tmp L k = tmp M k) : L = M := by
  apply List.ext_getElem hl
  intro k h1 h2
  obtain ⟨e1, e2⟩ := h k h1
  unfold siz at e1; unfold tmp at e2
  rw [getD_eq h1, getD_eq h2] at e1 e2
  exact Prod.ext e1 e2
theorem putT_two {L : List Bl} {i j : Nat} (hi : i < L.length) (hj : j < L.length) : putT (putT L i (mix (siz L i) (tmp L i) (siz L j) (tmp L j))) j (mix (siz L i) (tmp L i) (siz L j) (tmp L j)) = tchS L i j := by
  refine bl_ext (by rw [putT_len, putT_len, tchS_len]) fun k hk => ?_
  have hj' : j < (putT L i (mix (siz L i) (tmp L i) (siz L j) (tmp L j))).length := by rw [putT_len]; exact hj
  rw [putT_len, putT_len] at hk
  obtain ⟨e1, e2⟩ := tchS_get (L := L) (i := i) (j := j) hk
  rw [putT_siz hj', putT_siz hi, putT_tmp hj', putT_tmp hi, e1, e2]
  refine ⟨rfl, ?_⟩
  by_cases h1 : k = j <;> by_cases h2 : k = i <;> simp [h1, h2]
theorem putT_data (L : List Bl) (i : Nat) (t : Rat) : (L.map blk).set i (.tuple [.int (siz L i), fr t]) = (putT L i t).map blk := by
  unfold putT; rw [List.map_set]
theorem set_mem {α : Type} {l : List α} {i : Nat} {x y : α} (h : y ∈ l.set i x) : y ∈ l ∨ y = x := by
  rcases List.mem_or_eq_of_mem_set h with h | h
  · exact .inl h
  · exact .inr h
end AL
/-! Helpers of the laws 31 to 52: what they compute. -/
namespace AL
open PySem PySem.Spec L2
/-- a drawn temperature, a wide one below c parts -/
def shareC (c : Int) (p : Pl) : Rat := if pick p 8 = 0 then Rat.divInt (pick (left p 8) 2000000000 - 1000000000) (1 + pick (left (left p 8) 2000000000) c) else Rat.divInt (pick (left p 8) 16 - 4) (dn7 (pick p 8))
def sharePC (c : Int) (p : Pl) : Pl := if pick p 8 = 0 then left (left (left p 8) 2000000000) c else left (left p 8) 16
theorem sharePC_ok {c : Int} (hc : 0 < c) {p : Pl} (h : p.Ok) : (sharePC c p).Ok := by
  unfold sharePC; split
  · exact left_ok (left_ok (left_ok h (by decide)) (by decide)) hc
  · exact left_ok (left_ok h (by decide)) (by decide)
theorem shareC_rb {c : Int} (hc : 0 < c) (hc2 : c ≤ 1000000) {p : Pl} : Rb 40 (shareC c p) := by
  unfold shareC
  split
  · have a0 := pick_nn (p := left p 8) (w := 2000000000) (by decide)
    have a1 := pick_lt (p := left p 8) (w := 2000000000) (by decide)
    have b0 := pick_nn (p := left (left p 8) 2000000000) hc
    have b1 := pick_lt (p := left (left p 8) 2000000000) hc
    refine Rb.di ?_ ?_ (by omega) <;> (unfold Bt; omega)
  · have a0 := pick_nn (p := left p 8) (w := 16) (by decide)
    have a1 := pick_lt (p := left p 8) (w := 16) (by decide)
    have d := dn7_pos (pick p 8)
    refine Rb.di ?_ ?_ d.1 <;> (unfold Bt; omega)
/-! ### drawn heaps -/
def sizeB (p : Pl) : Int := size4 (pick p 3) (pick (left p 3) 6) (pick (left (left p 3) 6) 99) (pick (left (left (left p 3) 6) 99) 4)
def sizePB (p : Pl) : Pl := left (left (left (left p 3) 6) 99) 4
theorem sizePB_ok {p : Pl} (h : p.Ok) : (sizePB p).Ok := left_ok (left_ok (left_ok (left_ok h (by decide)) (by decide)) (by decide)) (by decide)
theorem sizeB_sz (p : Pl) : Sz (sizeB p) := by
  have a0 := pick_nn (p := p) (w := 3) (by decide)
  have a1 := pick_lt (p := p) (w := 3) (by decide)
  have b0 := pick_nn (p := left p 3) (w := 6) (by decide)
  have b1 := pick_lt (p := left p 3) (w := 6) (by decide)
  have c0 := pick_nn (p := left (left p 3) 6) (w := 99) (by decide)
  have c1 := pick_lt (p := left (left p 3) 6) (w := 99) (by decide)
  unfold sizeB size4 Sz
  split
  · omega
  · split
    · omega
    · split <;> omega
def dn4 (w : Int) : Int := if w = 2 then 2 else if w = 3 then 3 else 1
theorem at_dn4 {w : Int} (h0 : 0 ≤ w) (h1 : w < 4) : atI ([.int 1, .int 1, .int 2, .int 3] : List PyData) w = some (.int (dn4 w)) := by
  have : w = 0 ∨ w = 1 ∨ w = 2 ∨ w = 3 := by omega
  rcases this with rfl | rfl | rfl | rfl <;> rfl
theorem dn4_pos (w : Int) : 0 < dn4 w ∧ dn4 w < 4 := by unfold dn4; split <;> (try split) <;> omega
def warmB (p : Pl) : Rat := Rat.divInt (pick p 12 - 3) (dn4 (pick (left p 12) 4))
def warmPB (p : Pl) : Pl := left (left p 12) 4
theorem warmPB_ok {p : Pl} (h : p.Ok) : (warmPB p).Ok := left_ok (left_ok h (by decide)) (by decide)
theorem warmB_rb (p : Pl) : Rb 5 (warmB p) := by
  have a0 := pick_nn (p := p) (w := 12) (by decide)
  have a1 := pick_lt (p := p) (w := 12) (by decide)
  have d := dn4_pos (pick (left p 12) 4)
  refine Rb.di ?_ ?_ d.1 <;> (unfold Bt; omega)
def lotNB : Nat → Pl → List Bl × Pl
  | 0, p => ([], p)
  | n + 1, p => ((lotNB n p).1 ++ [(sizeB (lotNB n p).2, warmB (sizePB (lotNB n p).2))], warmPB (sizePB (lotNB n p).2))
theorem lotNB_ok {p : Pl} (h : p.Ok) : ∀ n : Nat, (lotNB n p).2.Ok
  | 0 => h
  | n + 1 => warmPB_ok (sizePB_ok (lotNB_ok h n))
theorem lotNB_len (p : Pl) : ∀ n : Nat, (lotNB n p).1.length = n
  | 0 => rfl
  | n + 1 => by
    show ((lotNB n p).1 ++ [_]).length = _
    rw [List.length_append, lotNB_len p n]; rfl
theorem lotNB_each (p : Pl) : ∀ (n : Nat) (b : Bl), b ∈ (lotNB n p).1 → Sz b.1 ∧ Rb 5 b.2
  | 0, b, h => by simp [lotNB] at h
  | n + 1, b, h => by
    have h' : b ∈ (lotNB n p).1 ++ [(sizeB (lotNB n p).2, warmB (sizePB (lotNB n p).2))] := h
    rcases List.mem_append.mp h' with h | h
    · exact lotNB_each p n b h
    · rw [List.mem_singleton.mp h]
      exact ⟨sizeB_sz _, warmB_rb _⟩
def lotB (few more : Int) (p : Pl) : List Bl := (lotNB (few + pick p (more - few + 1)).toNat (left p (more - few + 1))).1
def lotPB (few more : Int) (p : Pl) : Pl := (lotNB (few + pick p (more - few + 1)).toNat (left p (more - few + 1))).2
theorem lotB_len {few more : Int} {p : Pl} (h0 : 1 ≤ few) (h1 : few ≤ more) : few ≤ ((lotB few more p).length : Int) ∧ ((lotB few more p).length : Int) ≤ more := by
  have a0 := pick_nn (p := p) (w := more - few + 1) (by omega)
  have a1 := pick_lt (p := p) (w := more - few + 1) (by omega)
  unfold lotB; rw [lotNB_len]; omega
theorem lotB_ok {few more : Int} {p : Pl} (h0 : 1 ≤ few) (h1 : few ≤ more) (h2 : more ≤ 12) : OkSt 61 (lotB few more p) := by
  have l := lotB_len (p := p) h0 h1
  have l1 : 1 ≤ (lotB few more p).length := by omega
  have l2 : (lotB few more p).length ≤ 12 := by omega
  exact OkSt.of_rb (m := 5) l1 l2 fun b hb => lotNB_each _ _ b hb
theorem lotPB_ok {few more : Int} {p : Pl} (h : p.Ok) (h1 : few ≤ more) : (lotPB few more p).Ok := lotNB_ok (left_ok h (by omega)) _
/-! ### heat moved -/
/-- q of heat to i, out of j -/
def shiftS (L : List Bl) (i j : Nat) (q : Rat) : List Bl := putT (putT L i (tmp L i + q / (siz L i : Rat))) j (tmp L j + -(q / (siz L j : Rat)))
def gapQ (L : List Bl) (i j : Nat) (part : Rat) : Rat := (tmp L j + -tmp L i) * part * Rat.divInt (siz L i * siz L j) (siz L i + siz L j)
def partlyS (L : List Bl) (i j : Nat) (part : Rat) : List Bl := shiftS L i j (gapQ L i j part)
theorem shiftS_len (L : List Bl) (i j : Nat) (q : Rat) : (shiftS L i j q).length = L.length := by unfold shiftS; rw [putT_len, putT_len]
theorem putT_sz {L : List Bl} {i : Nat} {t : Rat} (hi : i < L.length) (h : ∀ b ∈ L, Sz b.1) : ∀ b ∈ putT L i t, Sz b.1 := fun b hb => by
  rcases set_mem hb with hb | rfl
  · exact h b hb
  · show Sz (siz L i)
    have := h _ (List.getElem_mem hi)
    unfold siz; rw [getD_eq hi]; exact this
theorem putT_gr {L : List Bl} {i : Nat} {t : Rat} {D n : Nat} (h : ∀ b ∈ L, Gr D n b.2) (ht : Gr D n t) : ∀ b ∈ putT L i t, Gr D n b.2 := fun b hb => by
  rcases set_mem hb with hb | rfl
  · exact h b hb
  · exact ht
theorem siz_lt {n : Nat} {L : List Bl} (O : OkSt n L) {i : Nat} (hi : i < L.length) : 0 < siz L i ∧ siz L i < 2 ^ 7 := by
  have := O.sz hi; unfold Sz at this; omega
theorem partlyS_ok {n : Nat} {L : List Bl} {i j : Nat} {part : Rat} (O : OkSt n L) (hi : i < L.length) (hj : j < L.length) (hp : Gr part.den 3 part) (hd : part.den < 2 ^ 3) : OkSt (n + 25) (partlyS L i j part) := by
  obtain ⟨D, d0, d1, d2⟩ := O.cd
  obtain ⟨s0, s1⟩ := siz_lt O hi
  obtain ⟨p0, p1⟩ := siz_lt O hj
  have gi : Gr D n (tmp L i) := by unfold tmp; rw [getD_eq hi]; exact d2 _ (List.getElem_mem hi)
  have gj : Gr D n (tmp L j) := by unfold tmp; rw [getD_eq hj]; exact d2 _ (List.getElem_mem hj)
  have c0 : 0 < part.den := part.den_pos
  have e1 : Gr (D * part.den) (n + 1 + 3) ((tmp L j + -tmp L i) * part) := Gr.mul d0 c0 (Gr.add d0 gj gi.neg) hp
  have u0 : 0 < siz L i + siz L j := by omega
  have hprod : (siz L i * siz L j).natAbs < 2 ^ 14 := by
    rw [Int.natAbs_mul]
    exact Nat.mul_lt_mul'' (a := (siz L i).natAbs) (b := (siz L j).natAbs) (c := 2 ^ 7) (d := 2 ^ 7) (by omega) (by omega)
  have e2 : Gr (siz L i + siz L j).toNat 14 (Rat.divInt (siz L i * siz L j) (siz L i + siz L j)) := Gr.di u0 hprod
  have e3 : Gr (D * part.den * (siz L i + siz L j).toNat) (n + 1 + 3 + 14) (gapQ L i j part) := Gr.mul (Nat.mul_pos d0 c0) (by omega) e1 e2
  have e30 : 0 < D * part.den * (siz L i + siz L j).toNat := Nat.mul_pos (Nat.mul_pos d0 c0) (by omega)
  obtain ⟨E, eE⟩ : ∃ E, E = D * part.den * (siz L i + siz L j).toNat * (siz L i).toNat * (siz L j).toNat := ⟨_, rfl⟩
  have E0 : 0 < E := by rw [eE]; exact Nat.mul_pos (Nat.mul_pos e30 (by omega)) (by omega)
  have E1 : E < 2 ^ (n + 25) := by
    have a1 : D * part.den < 2 ^ (n + 3) := by rw [Nat.pow_add]; exact Nat.mul_lt_mul'' d1 hd
    have a2 : D * part.den * (siz L i + siz L j).toNat < 2 ^ (n + 3 + 8) := by rw [Nat.pow_add]; exact Nat.mul_lt_mul'' a1 (by omega)
    have a3 : D * part.den * (siz L i + siz L j).toNat * (siz L i).toNat < 2 ^ (n + 3 + 8 + 7) := by rw [Nat.pow_add]; exact Nat.mul_lt_mul'' a2 (by omega)
    rw [eE, show n + 25 = n + 3 + 8 + 7 + 7 by omega, Nat.pow_add]
    exact Nat.mul_lt_mul'' a3 (by omega)
  have dD : D ∣ E := by rw [eE, Nat.mul_assoc, Nat.mul_assoc, Nat.mul_assoc]; exact Nat.dvd_mul_right _ _
  have x1 : Gr E (n + 24) (gapQ L i j part / (siz L i : Rat)) := (Gr.divi e30 s0 e3).mono (by rw [eE]; exact Nat.dvd_mul_right _ _) (by omega)
  have x2 : Gr E (n + 24) (gapQ L i j part / (siz L j : Rat)) := (Gr.divi e30 p0 e3).mono (by rw [eE]; exact Nat.mul_dvd_mul (Nat.dvd_mul_right _ _) (Nat.dvd_refl _)) (by omega)
  have y1 := Gr.add E0 (gi.mono dD (by omega : n ≤ n + 24)) x1
  have y2 := Gr.add E0 (gj.mono dD (by omega : n ≤ n + 24)) x2.neg
  have hj' : j < (putT L i (tmp L i + gapQ L i j part / (siz L i : Rat))).length := by rw [putT_len]; exact hj
  refine O.of_gr (shiftS_len _ _ _ _) (putT_sz hj' (putT_sz hi O.szs)) E0 E1 (putT_gr (putT_gr (fun b hb => (d2 b hb).mono dD (by omega)) y1) y2)
/-- one temperature changed -/
theorem putT_ok {n m : Nat} {L : List Bl} {i : Nat} {t : Rat} (O : OkSt n L) (hi : i < L.length) (ht : Rb m t) : OkSt (n + m + 1) (putT L i (tmp L i + t)) := by
  obtain ⟨D, d0, d1, d2⟩ := O.cd
  have gi : Gr D n (tmp L i) := by unfold tmp; rw [getD_eq hi]; exact d2 _ (List.getElem_mem hi)
  have g := Gr.of_rb ht
  have c0 := t.den_pos
  have c1 : t.den < 2 ^ m := by have := ht.2; unfold Bt at this; simpa using this
  have E0 : 0 < D * t.den := Nat.mul_pos d0 c0
  have y := Gr.add E0 (gi.mono (Nat.dvd_mul_right D t.den) (show n ≤ n + m by omega)) (g.mono (Nat.dvd_mul_left t.den D) (show m ≤ n + m by omega))
  refine O.of_gr (putT_len _ _ _) (putT_sz hi O.szs) E0 ?_ (putT_gr (fun b hb => (d2 b hb).mono (Nat.dvd_mul_right _ _) (by omega)) y)
  have : D * t.den < 2 ^ (n + m) := by rw [Nat.pow_add]; exact Nat.mul_lt_mul'' d1 c1
  exact Nat.lt_trans this (Nat.pow_lt_pow_right (by decide) (by omega))
/-! ### the second state -/
def maxOne (n : Int) : Int := if n > 1 then n else 1
def secT (x : List Bl × Pl) : List Bl × Pl :=
  (if pick x.2 x.1.length = (pick x.2 x.1.length + 1 + pick (left x.2 x.1.length) (maxOne (x.1.length - 1))) % x.1.length then x.1
   else tchS x.1 (pick x.2 x.1.length).toNat ((pick x.2 x.1.length + 1 + pick (left x.2 x.1.length) (maxOne (x.1.length - 1))) % x.1.length).toNat,
   left (left x.2 x.1.length) (maxOne (x.1.length - 1)))
def secN : Nat → List Bl × Pl → List Bl × Pl
  | 0, x => x
  | k + 1, x => secT (secN k x)
theorem maxOne_pos (n : Int) : 0 < maxOne n := by unfold maxOne; split <;> omega
theorem secT_ok {n : Nat} {x : List Bl × Pl} (O : OkSt n x.1) (h : x.2.Ok) : OkSt (n + 8) (secT x).1 ∧ (secT x).2.Ok ∧ (secT x).1.length = x.1.length := by
  have h1 := O.one
  have hn : (0 : Int) < x.1.length := by omega
  have a0 := pick_nn (p := x.2) hn
  have a1 := pick_lt (p := x.2) hn
  have b0 := Int.emod_nonneg (pick x.2 x.1.length + 1 + pick (left x.2 x.1.length) (maxOne (x.1.length - 1))) (show (x.1.length : Int) ≠ 0 by omega)
  have b1 := Int.emod_lt_of_pos (pick x.2 x.1.length + 1 + pick (left x.2 x.1.length) (maxOne (x.1.length - 1))) hn
  refine ⟨?_, left_ok (left_ok h hn) (maxOne_pos _), ?_⟩
  · unfold secT
    dsimp only
    split
    · exact O.mono (by omega)
    · exact tchS_ok O (by omega) (by omega)
  · unfold secT
    dsimp only
    split
    · rfl
    · rw [tchS_len]
theorem secN_ok {n : Nat} {x : List Bl × Pl} (O : OkSt n x.1) (h : x.2.Ok) : ∀ k, OkSt (n + 8 * k) (secN k x).1 ∧ (secN k x).2.Ok ∧ (secN k x).1.length = x.1.length
  | 0 => ⟨O, h, rfl⟩
  | k + 1 => by
    obtain ⟨a, b, c⟩ := secN_ok O h k
    obtain ⟨a', b', c'⟩ := secT_ok a b
    exact ⟨by rw [show n + 8 * (k + 1) = n + 8 * k + 8 by omega]; exact a', b', c'.trans c⟩
def sec0 (p : Pl) (L : List Bl) : List Bl × Pl := secN (pick (left p 4) 5).toNat (L, left (left p 4) 5)
def part0 (p : Pl) : Rat := Rat.divInt (pick (left p 5) (1 + pick p 5 + 1)) (1 + pick p 5)
def sec1 (p : Pl) (L : List Bl) : List Bl × Pl :=
  if pick p 4 = 0 ∧ 1 < L.length then (partlyS (sec0 p L).1 0 (L.length - 1) (part0 (sec0 p L).2), left (left (sec0 p L).2 5) (1 + pick (sec0 p L).2 5 + 1)) else sec0 p L
def sec2 (p : Pl) (L : List Bl) : List Bl × Pl :=
  if pick p 4 = 1 then (putT (sec1 p L).1 (pick (sec1 p L).2 L.length).toNat (tmp (sec1 p L).1 (pick (sec1 p L).2 L.length).toNat + shareC 1000000 (left (sec1 p L).2 L.length)), sharePC 1000000 (left (sec1 p L).2 L.length)) else sec1 p L
theorem part0_ok (p : Pl) : Gr (part0 p).den 3 (part0 p) ∧ (part0 p).den < 2 ^ 3 := by
  have a0 := pick_nn (p := p) (w := 5) (by decide)
  have a1 := pick_lt (p := p) (w := 5) (by decide)
  have b0 := pick_nn (p := left p 5) (w := 1 + pick p 5 + 1) (by omega)
  have b1 := pick_lt (p := left p 5) (w := 1 + pick p 5 + 1) (by omega)
  have h : Rb 3 (part0 p) := by
    refine Rb.di ?_ ?_ (by omega) <;> (unfold Bt; omega)
  exact ⟨Gr.of_rb h, by have := h.2; unfold Bt at this; simpa using this⟩
theorem sec0_ok {n : Nat} {L : List Bl} {p : Pl} (O : OkSt n L) (h : p.Ok) : OkSt (n + 32) (sec0 p L).1 ∧ (sec0 p L).2.Ok ∧ (sec0 p L).1.length = L.length := by
  have a0 := pick_nn (p := left p 4) (w := 5) (by decide)
  have a1 := pick_lt (p := left p 4) (w := 5) (by decide)
  obtain ⟨x, y, z⟩ := secN_ok (x := (L, left (left p 4) 5)) O (left_ok (left_ok h (by decide)) (by decide)) (pick (left p 4) 5).toNat
  exact ⟨x.mono (by omega), y, z⟩
theorem sec1_ok {n : Nat} {L : List Bl} {p : Pl} (O : OkSt n L) (h : p.Ok) : OkSt (n + 57) (sec1 p L).1 ∧ (sec1 p L).2.Ok ∧ (sec1 p L).1.length = L.length := by
  obtain ⟨x, y, z⟩ := sec0_ok O h
  have a0 := pick_nn (p := (sec0 p L).2) (w := 5) (by decide)
  unfold sec1
  split
  · obtain ⟨q1, q2⟩ := part0_ok (sec0 p L).2
    refine ⟨(partlyS_ok x (by rw [z]; have := O.one; omega) (by rw [z]; have := O.one; omega) q1 q2).mono (by omega), left_ok (left_ok y (by decide)) (by omega), ?_⟩
    show (partlyS _ _ _ _).length = _
    unfold partlyS; rw [shiftS_len]; exact z
  · exact ⟨x.mono (by omega), y, z⟩
theorem sec2_ok {n : Nat} {L : List Bl} {p : Pl} (O : OkSt n L) (h : p.Ok) : OkSt (n + 98) (sec2 p L).1 ∧ (sec2 p L).2.Ok ∧ (sec2 p L).1.length = L.length := by
  obtain ⟨x, y, z⟩ := sec1_ok O h
  have hn : (0 : Int) < L.length := by have := O.one; omega
  have a0 := pick_nn (p := (sec1 p L).2) hn
  have a1 := pick_lt (p := (sec1 p L).2) hn
  unfold sec2
  split
  · refine ⟨(putT_ok x (by rw [z]; omega) (shareC_rb (by decide) (by decide))).mono (by omega), sharePC_ok (by decide) (left_ok y hn), ?_⟩
    show (putT _ _ _).length = _
    rw [putT_len]; exact z
  · exact ⟨x.mono (by omega), y, z⟩
end AL
/-! All plans by their lengths; the best of them. -/
namespace AL
open PySem PySem.Spec L2
theorem Pv_gr {n : Nat} {L : List Bl} {b D : Nat} (O : OkSt n L) (hD : ∀ c ∈ L, Gr D n c.2) (d0 : 0 < D) (hb : b < L.length) {p : List Nat} (h : ∀ o ∈ p, o < L.length) {m : Nat} (d1 : D < 2 ^ m) : ∃ E, 0 < E ∧ E < 2 ^ (m + 8 * p.length) ∧ D ∣ E ∧ Gr E n (Pv L b p) := by
  induction p using snoc_ind with
  | h0 => exact ⟨D, d0, by simpa using d1, Nat.dvd_refl _, by show Gr D n (tmp L b); unfold tmp; rw [getD_eq hb]; exact hD _ (List.getElem_mem hb)⟩
  | h1 p o ih =>
    obtain ⟨E, e0, e1, e2, e3⟩ := ih fun q hq => h q (by simp [hq])
    have ho : o < L.length := h o (by simp)
    obtain ⟨s0, s1⟩ := siz_lt O hb
    obtain ⟨p0, p1⟩ := siz_lt O ho
    have ht : Gr D n (tmp L o) := by unfold tmp; rw [getD_eq ho]; exact hD _ (List.getElem_mem ho)
    refine ⟨E * (siz L b + siz L o).toNat, Nat.mul_pos e0 (by omega), ?_, Nat.dvd_trans e2 (Nat.dvd_mul_right _ _), by rw [Pv_snoc]; exact mix_gr s0 p0 e3 (ht.mono e2 (Nat.le_refl _)) e0⟩
    rw [List.length_append, show m + 8 * (p.length + [o].length) = m + 8 * p.length + 8 by simp; omega, Nat.pow_add]
    exact Nat.mul_lt_mul'' e1 (by omega)
theorem Pv_rb {n : Nat} {L : List Bl} {b : Nat} (O : OkSt n L) (hb : b < L.length) {p : List Nat} (h : ∀ o ∈ p, o < L.length) : Rb (n + (n + 8 * p.length)) (Pv L b p) := by
  obtain ⟨D, d0, d1, d2⟩ := O.cd
  obtain ⟨E, e0, e1, _, e3⟩ := Pv_gr O d2 d0 hb h d1
  exact e3.rb e0 e1
/-- the plans that go on from p -/
def nextP (n b : Nat) (p : List Nat) (c : Nat) : List (List Nat) := ((List.range c).filter fun t => decide (t ≠ b ∧ t ∉ p)).map fun t => p ++ [t]
def levP (n b : Nat) : Nat → List (List Nat)
  | 0 => [[]]
  | k + 1 => (levP n b k).flatMap fun p => nextP n b p n
theorem mem_nextP {n b : Nat} {p q : List Nat} {c : Nat} : q ∈ nextP n b p c ↔ ∃ t, t < c ∧ t ≠ b ∧ t ∉ p ∧ q = p ++ [t] := by
  unfold nextP
  rw [List.mem_map]
  constructor
  · rintro ⟨t, h1, rfl⟩
    rw [List.mem_filter, List.mem_range] at h1
    have := of_decide_eq_true h1.2
    exact ⟨t, h1.1, this.1, this.2, rfl⟩
  · rintro ⟨t, h1, h2, h3, rfl⟩
    exact ⟨t, by rw [List.mem_filter, List.mem_range]; exact ⟨h1, decide_eq_true ⟨h2, h3⟩⟩, rfl⟩
theorem mem_levP {n b : Nat} : ∀ {k : Nat} {p : List Nat}, p ∈ levP n b k ↔ p.length = k ∧ p.Nodup ∧ ∀ o ∈ p, o < n ∧ o ≠ b
  | 0, p => by
    show p ∈ [[]] ↔ _
    rw [List.mem_singleton]
    constructor
    · rintro rfl; exact ⟨rfl, List.nodup_nil, by simp⟩
    · rintro ⟨h, _⟩; exact List.length_eq_zero_iff.mp h
  | k + 1, p => by
    show p ∈ (levP n b k).flatMap _ ↔ _
    rw [List.mem_flatMap]
    constructor
    · rintro ⟨q, h1, h2⟩
      obtain ⟨t, t1, t2, t3, rfl⟩ := mem_nextP.mp h2
      obtain ⟨l1, l2, l3⟩ := mem_levP.mp h1
      refine ⟨by simp [l1], ?_, fun o ho => ?_⟩
      · rw [List.nodup_append]
        exact ⟨l2, by simp, fun a ha c hc => by rw [List.mem_singleton] at hc; subst hc; intro e; subst e; exact t3 ha⟩
      · rcases List.mem_append.mp ho with ho | ho
        · exact l3 o ho
        · rw [List.mem_singleton.mp ho]; exact ⟨t1, t2⟩
    · rintro ⟨h1, h2, h3⟩
      rcases List.eq_nil_or_concat p with rfl | ⟨q, t, rfl⟩
      · simp at h1
      · rw [List.concat_eq_append] at *
        have hq : q.length = k := by simpa using h1
        rw [List.nodup_append] at h2
        refine ⟨q, mem_levP.mpr ⟨hq, h2.1, fun o ho => h3 o (by simp [ho])⟩, mem_nextP.mpr ⟨t, (h3 t (by simp)).1, (h3 t (by simp)).2, fun m => h2.2.2 t m t (by simp) rfl, rfl⟩⟩
theorem nextP_len (n b : Nat) (p : List Nat) (c : Nat) : (nextP n b p c).length ≤ c := by
  unfold nextP; rw [List.length_map]
  have := List.length_filter_le (fun t => decide (t ≠ b ∧ t ∉ p)) (List.range c)
  rwa [List.length_range] at this
theorem flat_len {α β : Type} {m : Nat} (f : α → List β) : ∀ (l : List α), (∀ a ∈ l, (f a).length ≤ m) → (l.flatMap f).length ≤ l.length * m
  | [], _ => by simp
  | a :: l, h => by
    rw [List.flatMap_cons, List.length_append, List.length_cons, Nat.succ_mul]
    have := flat_len f l fun x hx => h x (by simp [hx])
    have := h a (by simp)
    omega
theorem levP_len (n b : Nat) : ∀ k, (levP n b k).length ≤ n ^ k
  | 0 => by simp [levP]
  | k + 1 => by
    have h := flat_len (fun p => nextP n b p n) (levP n b k) fun p _ => nextP_len n b p n
    have ih := Nat.mul_le_mul_right n (levP_len n b k)
    rw [Nat.pow_succ]
    exact Nat.le_trans h ih
/-- the best of some plans -/
def mostV (up : Bool) (L : List Bl) (b : Nat) (ps : List (List Nat)) (t : Rat) : Rat := ps.foldl (fun t p => if ahead up t (Pv L b p) then Pv L b p else t) t
theorem mostV_app (up : Bool) (L : List Bl) (b : Nat) (ps qs : List (List Nat)) (t : Rat) : mostV up L b (ps ++ qs) t = mostV up L b qs (mostV up L b ps t) := by unfold mostV; rw [List.foldl_append]
theorem mostV_cons (up : Bool) (L : List Bl) (b : Nat) (p : List Nat) (qs : List (List Nat)) (t : Rat) : mostV up L b (p :: qs) t = mostV up L b qs (if ahead up t (Pv L b p) then Pv L b p else t) := rfl
theorem lef_or {up : Bool} {t u : Rat} (h : ¬ ltf up t u) : lef up u t := by
  cases up
  · exact Rat.not_lt.mp h
  · exact Rat.not_lt.mp h
theorem mostV_top (up : Bool) (L : List Bl) (b : Nat) : ∀ (ps : List (List Nat)) (t : Rat), lef up t (mostV up L b ps t) ∧ (∀ p ∈ ps, lef up (Pv L b p) (mostV up L b ps t)) ∧ (mostV up L b ps t = t ∨ ∃ p ∈ ps, mostV up L b ps t = Pv L b p)
  | [], t => ⟨lef.refl _ _, by simp, .inl rfl⟩
  | p :: ps, t => by
    obtain ⟨h1, h2, h3⟩ := mostV_top up L b ps (if ahead up t (Pv L b p) then Pv L b p else t)
    rw [mostV_cons]
    by_cases ha : ahead up t (Pv L b p) = true
    · rw [if_pos ha] at h1 h2 h3 ⊢
      refine ⟨(lef_of (ahead_iff.mp ha)).trans h1, fun q hq => ?_, ?_⟩
      · rcases List.mem_cons.mp hq with rfl | hq
        · exact h1
        · exact h2 q hq
      · rcases h3 with h3 | ⟨q, hq, h3⟩
        · exact .inr ⟨p, by simp, h3⟩
        · exact .inr ⟨q, by simp [hq], h3⟩
    · rw [if_neg ha] at h1 h2 h3 ⊢
      refine ⟨h1, fun q hq => ?_, ?_⟩
      · rcases List.mem_cons.mp hq with rfl | hq
        · exact (lef_or fun z => ha (ahead_iff.mpr z)).trans h1
        · exact h2 q hq
      · rcases h3 with h3 | ⟨q, hq, h3⟩
        · exact .inl h3
        · exact .inr ⟨q, by simp [hq], h3⟩
/-- the plans of less than k blocks -/
def plansTo (n b k : Nat) : List (List Nat) := (List.range k).flatMap (levP n b)
theorem mem_plansTo {n b k : Nat} {p : List Nat} : p ∈ plansTo n b k ↔ p.length < k ∧ p.Nodup ∧ ∀ o ∈ p, o < n ∧ o ≠ b := by
  unfold plansTo
  rw [List.mem_flatMap]
  constructor
  · rintro ⟨j, h1, h2⟩
    obtain ⟨l1, l2⟩ := mem_levP.mp h2
    rw [List.mem_range] at h1
    exact ⟨by omega, l2⟩
  · rintro ⟨h1, h2⟩
    exact ⟨p.length, List.mem_range.mpr h1, mem_levP.mpr ⟨rfl, h2⟩⟩
/-- the best of the plans within a limit, as the law asks -/
def mostN (up : Bool) (L : List Bl) (b : Nat) (a : Nat) : Rat := mostV up L b (plansTo L.length b (min (a + 1) L.length)) (tmp L b)
theorem mostN_plan {up : Bool} {L : List Bl} {b a : Nat} : ∃ p, IsPlan L b p ∧ p.length ≤ a ∧ mostN up L b a = Pv L b p := by
  rcases (mostV_top up L b (plansTo L.length b (min (a + 1) L.length)) (tmp L b)).2.2 with h | ⟨p, hp, h⟩
  · exact ⟨[], .nil, Nat.zero_le _, h⟩
  · obtain ⟨m1, m2, m3⟩ := mem_plansTo.mp hp
    exact ⟨p, ⟨m2, m3⟩, by omega, h⟩
theorem mostN_top {up : Bool} {L : List Bl} {b a : Nat} {p : List Nat} (hb : b < L.length) (h : IsPlan L b p) (hl : p.length ≤ a) : lef up (Pv L b p) (mostN up L b a) :=
  (mostV_top up L b _ (tmp L b)).2.1 p (mem_plansTo.mpr ⟨by have := h.len hb; omega, h.nd, h.mem⟩)
theorem mostN_extW {up : Bool} {n : Nat} {L : List Bl} {b a : Nat} (O : OkSt n L) (hb : b < L.length) : mostN up L b a = (extW up L b (a : Nat)).1 := by
  obtain ⟨⟨h1, h2, h3⟩, h4⟩ := extW_best (up := up) O hb (many := (a : Nat)) (by omega)
  obtain ⟨p, p1, p2, p3⟩ := mostN_plan (up := up) (L := L) (b := b) (a := a)
  refine lef_antisymm (up := up) ?_ ?_
  · rw [p3]; exact h4 p p1 (by omega)
  · rw [h1]; exact mostN_top hb h2 (by omega)
theorem mostN_ext {up : Bool} {n : Nat} {L : List Bl} {b a : Nat} (O : OkSt n L) (hb : b < L.length) (ha : L.length ≤ a + 1) : mostN up L b a = (ext up L b).1 := by
  obtain ⟨h1, h2⟩ := ext_plan up L b
  obtain ⟨p, p1, p2, p3⟩ := mostN_plan (up := up) (L := L) (b := b) (a := a)
  refine lef_antisymm (up := up) ?_ ?_
  · rw [p3]; exact ext_all O hb p1
  · rw [h1]; exact mostN_top hb h2 (by have := h2.len hb; omega)
theorem mostV_rb {up : Bool} {m : Nat} {L : List Bl} {b : Nat} {ps : List (List Nat)} {t : Rat} (ht : Rb m t) (h : ∀ p ∈ ps, Rb m (Pv L b p)) : Rb m (mostV up L b ps t) := by
  rcases (mostV_top up L b ps t).2.2 with e | ⟨p, hp, e⟩
  · rw [e]; exact ht
  · rw [e]; exact h p hp
/-! ### data -/
def pD (L : List Bl) (b : Nat) (p : List Nat) : PyData := .tuple [.tuple (natD p), fr (Pv L b p)]
def levD (L : List Bl) (b : Nat) (k : Nat) : PyData := .list ((levP L.length b k).map (pD L b))
def endsD' (L : List Bl) (b : Nat) (k : Nat) : List PyData := (List.range k).map (levD L b)
theorem nextP_succ (n b : Nat) (p : List Nat) (c : Nat) : nextP n b p (c + 1) = nextP n b p c ++ (if c ≠ b ∧ c ∉ p then [p ++ [c]] else []) := by
  unfold nextP
  rw [List.range_succ, List.filter_append, List.map_append]
  congr 1
  by_cases h : c ≠ b ∧ c ∉ p
  · rw [if_pos h]; simp [List.filter_cons, h]
  · rw [if_neg h, List.filter_cons, if_neg (by simpa using h)]; rfl
/-- pairs, smaller number first -/
def prsAt (m i : Nat) : List (Nat × Nat) := (List.range (m - (i + 1))).map fun k => (i, i + 1 + k)
def prsTo (m k : Nat) : List (Nat × Nat) := (List.range k).flatMap (prsAt m)
def prsL (m : Nat) : List (Nat × Nat) := prsTo m m
theorem prsTo_succ (m k : Nat) : prsTo m (k + 1) = prsTo m k ++ prsAt m k := by unfold prsTo; rw [List.range_succ, List.flatMap_append]; simp
theorem mem_prsL {m : Nat} {t : Nat × Nat} : t ∈ prsL m ↔ t.1 < t.2 ∧ t.2 < m := by
  unfold prsL prsTo
  rw [List.mem_flatMap]
  constructor
  · rintro ⟨i, hi, h⟩
    unfold prsAt at h
    obtain ⟨k, hk, rfl⟩ := List.mem_map.mp h
    rw [List.mem_range] at hi hk
    show i < i + 1 + k ∧ i + 1 + k < m
    omega
  · rintro ⟨h1, h2⟩
    refine ⟨t.1, List.mem_range.mpr (by omega), List.mem_map.mpr ⟨t.2 - t.1 - 1, List.mem_range.mpr (by omega), ?_⟩⟩
    obtain ⟨a, b⟩ := t
    show (a, a + 1 + (b - a - 1)) = (a, b)
    have : a < b := h1
    congr 1; omega
theorem prsL_len (m : Nat) : (prsL m).length ≤ m * m := by
  have h := flat_len (m := m) (prsAt m) (List.range m) fun i _ => by unfold prsAt; rw [List.length_map, List.length_range]; omega
  rwa [List.length_range] at h
end AL
/-! What the defs of unreachable.py compute. -/
namespace AL
open PySem PySem.Spec L2
def szD (L : List Bl) : PyData := .tuple (L.map fun b => .int b.1)
theorem szD_shaped (L : List Bl) : SeqAt.shaped (szD L) = true := (plain_tup (k := 0) fun d hd => by
  obtain ⟨b, _, rfl⟩ := List.mem_map.mp hd
  exact plain_int _).shaped
theorem szD_len {L M : List Bl} (h : szD L = szD M) : L.length = M.length := by
  unfold szD at h
  have := congrArg List.length (PyData.tuple.inj h)
  rwa [List.length_map, List.length_map] at this
theorem szD_of {L M : List Bl} (hl : L.length = M.length) (h : ∀ k, k < L.length → siz L k = siz M k) : szD L = szD M := by
  unfold szD
  congr 1
  apply List.ext_getElem (by simp [hl])
  intro k h1 h2
  rw [List.getElem_map, List.getElem_map]
  have hk : k < L.length := by simpa using h1
  have e := h k hk
  unfold siz at e
  rw [getD_eq hk, getD_eq (by omega)] at e
  rw [e]
theorem szD_tch (L : List Bl) (i j : Nat) : szD (tchS L i j) = szD L := szD_of (tchS_len L i j) fun k hk => (tchS_get (by rwa [tchS_len] at hk)).1
theorem szD_put {L : List Bl} {i : Nat} {t : Rat} (hi : i < L.length) : szD (putT L i t) = szD L := szD_of (putT_len _ _ _) fun k _ => putT_siz hi k
def outAt (L M : List Bl) (k : Nat) : Bool := decide ((ext true L k).1 < tmp M k) || decide (tmp M k < (ext false L k).1)
def outR (L M : List Bl) : Bool := (List.range L.length).any (outAt L M)
theorem outR_true {L M : List Bl} {i : Nat} (hi : i < L.length) (h : outAt L M i = true) : outR L M = true := List.any_eq_true.mpr ⟨i, List.mem_range.mpr hi, h⟩
theorem outR_false {L M : List Bl} (h : ∀ k, k < L.length → outAt L M k = false) : outR L M = false := by
  cases q : outR L M with
  | false => rfl
  | true =>
    obtain ⟨k, h1, h2⟩ := List.any_eq_true.mp q
    rw [h k (List.mem_range.mp h1)] at h2; cases h2
def impL (L M : List Bl) : List (Nat × Nat) := (prsL L.length).filter fun t => outR (tchS L t.1 t.2) M
def impD (L M : List Bl) : List PyData := (prsL L.length).filterMap fun t => if outR (tchS L t.1 t.2) M then some (tcD t) else none
theorem impD_eq (L M : List Bl) : impD L M = (impL L M).map tcD := by
  unfold impD impL
  induction prsL L.length with
  | nil => rfl
  | cons t l ih =>
    rw [List.filterMap_cons, List.filter_cons]
    by_cases h : outR (tchS L t.1 t.2) M = true
    · rw [if_pos h, if_pos h, List.map_cons, ih]
    · rw [if_neg h, if_neg h, ih]
end AL
/-! Leaves for the helpers of the laws 31 to 52. -/
namespace AL
open PySem PySem.Spec L2
theorem ixN_int {n : Nat} {i : Int} (h0 : 0 ≤ i) (h1 : i < n) : ixN n i = some i.toNat := by
  unfold ixN
  rw [if_pos h0, if_pos h1]
theorem di_mix (s p : Int) (t u : Rat) : Rat.divInt (s * t.num * (u.den : Int) + p * u.num * (t.den : Int)) ((t.den : Int) * (u.den : Int) * (s + p)) = mix s t p u := by
  have e : (s : Rat) * t + (p : Rat) * u = Rat.divInt (s * t.num * (u.den : Int) + p * u.num * (t.den : Int)) ((t.den : Int) * (u.den : Int)) := by
    have h1 := mul_den t
    have h2 := mul_den u
    have ht : ((t.den : Int) : Rat) ≠ 0 := by have := Rat.intCast_pos.mpr (den_pos t); grind
    have hu : ((u.den : Int) : Rat) ≠ 0 := by have := Rat.intCast_pos.mpr (den_pos u); grind
    rw [Rat.divInt_eq_div]
    refine eq_div_of (by rw [Rat.intCast_mul]; grind) ?_
    simp only [Rat.intCast_mul, Rat.intCast_add]
    rw [← h1, ← h2]; grind
  unfold mix
  rw [e]
  rw [Rat.divInt_eq_div, Rat.divInt_eq_div, Rat.intCast_mul _ (s + p), Rat.div_def, Rat.div_def, Rat.div_def, Rat.inv_mul_rev, Rat.mul_assoc]
  congr 1
  exact Rat.mul_comm _ _
theorem di_divn (q : Rat) (s : Int) : Rat.divInt (0 - q.num) ((q.den : Int) * s) = -(q / (s : Rat)) := by
  have := di_div (-q) s
  rw [Rat.neg_num, Rat.neg_den] at this
  rw [Int.zero_sub, this, Rat.div_def, Rat.div_def, Rat.neg_mul]
theorem gapQ_rb {n : Nat} {L : List Bl} {i j : Nat} {part : Rat} (O : OkSt n L) (hn : n ≤ 900) (hi : i < L.length) (hj : j < L.length) (hp : Gr part.den 3 part) (hd : part.den < 2 ^ 3) :
    Rb 4000 (tmp L i) ∧ Rb 4000 (tmp L j) ∧ Rb 4000 (tmp L j + -tmp L i) ∧ Rb 4000 part ∧ Rb 4000 ((tmp L j + -tmp L i) * part) ∧ Rb 4000 (Rat.divInt (siz L i * siz L j) (siz L i + siz L j)) ∧ Rb 4000 (gapQ L i j part) ∧ Rb 4000 (gapQ L i j part / (siz L i : Rat)) ∧ Rb 4000 (gapQ L i j part / (siz L j : Rat)) := by
  obtain ⟨D, d0, d1, d2⟩ := O.cd
  obtain ⟨s0, s1⟩ := siz_lt O hi
  obtain ⟨p0, p1⟩ := siz_lt O hj
  have gi : Gr D n (tmp L i) := by unfold tmp; rw [getD_eq hi]; exact d2 _ (List.getElem_mem hi)
  have gj : Gr D n (tmp L j) := by unfold tmp; rw [getD_eq hj]; exact d2 _ (List.getElem_mem hj)
  have c0 : 0 < part.den := part.den_pos
  have g0 := Gr.add d0 gj gi.neg
  have e1 : Gr (D * part.den) (n + 1 + 3) ((tmp L j + -tmp L i) * part) := Gr.mul d0 c0 g0 hp
  have u0 : 0 < siz L i + siz L j := by omega
  have hprod : (siz L i * siz L j).natAbs < 2 ^ 14 := by
    rw [Int.natAbs_mul]
    exact Nat.mul_lt_mul'' (a := (siz L i).natAbs) (b := (siz L j).natAbs) (c := 2 ^ 7) (d := 2 ^ 7) (by omega) (by omega)
  have e2 : Gr (siz L i + siz L j).toNat 14 (Rat.divInt (siz L i * siz L j) (siz L i + siz L j)) := Gr.di u0 hprod
  have e3 : Gr (D * part.den * (siz L i + siz L j).toNat) (n + 1 + 3 + 14) (gapQ L i j part) := Gr.mul (Nat.mul_pos d0 c0) (by omega) e1 e2
  have a1 : D * part.den < 2 ^ (n + 3) := by rw [Nat.pow_add]; exact Nat.mul_lt_mul'' d1 hd
  have a2 : D * part.den * (siz L i + siz L j).toNat < 2 ^ (n + 3 + 8) := by rw [Nat.pow_add]; exact Nat.mul_lt_mul'' a1 (by omega)
  have a20 : 0 < D * part.den * (siz L i + siz L j).toNat := Nat.mul_pos (Nat.mul_pos d0 c0) (by omega)
  have e4 := Gr.divi a20 s0 e3
  have e5 := Gr.divi a20 p0 e3
  have a3 : D * part.den * (siz L i + siz L j).toNat * (siz L i).toNat < 2 ^ (n + 3 + 8 + 7) := by rw [Nat.pow_add]; exact Nat.mul_lt_mul'' a2 (by omega)
  have a4 : D * part.den * (siz L i + siz L j).toNat * (siz L j).toNat < 2 ^ (n + 3 + 8 + 7) := by rw [Nat.pow_add]; exact Nat.mul_lt_mul'' a2 (by omega)
  exact ⟨(gi.rb d0 d1).mono (by omega), (gj.rb d0 d1).mono (by omega), (g0.rb d0 d1).mono (by omega), (hp.rb c0 hd).mono (by omega), (e1.rb (Nat.mul_pos d0 c0) a1).mono (by omega), (e2.rb (m := 8) (by omega) (by omega)).mono (by omega), (e3.rb a20 a2).mono (by omega),
    (e4.rb (Nat.mul_pos a20 (by omega)) a3).mono (by omega), (e5.rb (Nat.mul_pos a20 (by omega)) a4).mono (by omega)⟩
theorem blk_set (L : List Bl) (i : Nat) (s : Int) (t : Rat) (h : s = siz L i) : (L.map blk).set i (.tuple [.int s, fr t]) = (putT L i t).map blk := by rw [h]; exact putT_data L i t
theorem endsD'_succ (L : List Bl) (b k : Nat) : endsD' L b (k + 1) = endsD' L b k ++ [levD L b k] := by unfold endsD'; rw [List.range_succ, List.map_append]; rfl
theorem endsD'_len (L : List Bl) (b k : Nat) : (endsD' L b k).length = k := by simp [endsD']
theorem endsD'_last (L : List Bl) (b k : Nat) : atI (endsD' L b (k + 1)) (-1) = some (levD L b k) := at_last (by rw [endsD'_succ]; simp)
theorem two_at (s p : Int) (t u : Rat) : atI ((tchS [(s, t), (p, u)] 0 1).map blk) 0 = some (.tuple [.int s, fr (mix s t p u)]) := rfl
theorem levP_small {n b k : Nat} (hn : n ≤ 4) (hk : k ≤ 4) : (levP n b k).length ≤ 256 := by
  have h := levP_len n b k
  have h1 : n ^ k ≤ 4 ^ k := Nat.pow_le_pow_left hn k
  have h2 : 4 ^ k ≤ 4 ^ 4 := Nat.pow_le_pow_right (by decide) hk
  omega
/-- the plans that go on from the first a of ps, and from the next by the first c blocks -/
def goOn (n b : Nat) (ps : List (List Nat)) (a : Nat) : List (List Nat) := (ps.take a).flatMap fun p => nextP n b p n
theorem goOn_succ {n b : Nat} {ps : List (List Nat)} {a : Nat} {p : List Nat} (h : ps[a]? = some p) : goOn n b ps (a + 1) = goOn n b ps a ++ nextP n b p n := by
  unfold goOn
  rw [List.take_add_one, h, List.flatMap_append]
  simp
theorem goOn_all (n b k : Nat) : goOn n b (levP n b k) (levP n b k).length = levP n b (k + 1) := by
  unfold goOn; rw [List.take_length]; rfl
theorem goOn_len {n b : Nat} {ps : List (List Nat)} {a : Nat} (h : ps.length ≤ 256) (hn : n ≤ 4) : (goOn n b ps a).length ≤ 1024 := by
  have := flat_len (m := n) (fun p => nextP n b p n) (ps.take a) fun p _ => nextP_len n b p n
  have h2 : (ps.take a).length * n ≤ 256 * 4 := Nat.mul_le_mul (by rw [List.length_take]; omega) hn
  unfold goOn; omega
theorem pD_snoc (L : List Bl) (b : Nat) (p : List Nat) (c : Nat) : pD L b (p ++ [c]) = .tuple [.tuple (natD p ++ [.int (c : Nat)]), fr (mix (siz L b) (Pv L b p) (siz L c) (tmp L c))] := by
  unfold pD; rw [Pv_snoc]; simp [natD]
theorem levD_get {L : List Bl} {b k a : Nat} {d : PyData} (h : ((levP L.length b k).map (pD L b))[a]? = some d) : ∃ p, (levP L.length b k)[a]? = some p ∧ d = pD L b p := by
  rw [List.getElem?_map, Option.map_eq_some_iff] at h
  obtain ⟨p, h1, h2⟩ := h
  exact ⟨p, h1, h2.symm⟩
theorem levP_plan {L : List Bl} {b k a : Nat} {p : List Nat} (h : (levP L.length b k)[a]? = some p) : IsPlan L b p ∧ p.length = k := by
  obtain ⟨h1, h2, h3⟩ := mem_levP.mp (List.mem_of_getElem? h)
  exact ⟨⟨h2, h3⟩, h1⟩
theorem natD_mem {p : List Nat} {c : Nat} {K : PySem.W.Frag} {C : Ct} {g : Gm} {Q : Av → Gm → Prop} (q : Q (.d (.bool (!decide (c ∈ p)))) g) : RA K C (rInA K true) (.d (.int (c : Nat))) (.d (.tuple (natD p))) g Q := by
  have e : natD p = (p.map fun n : Nat => (n : Int)).map PyData.int := by simp [natD]
  have hm : decide ((c : Int) ∈ p.map fun n : Nat => (n : Int)) = decide (c ∈ p) := by
    apply decide_eq_decide.mpr
    rw [List.mem_map]
    constructor
    · rintro ⟨a, h1, h2⟩
      have : a = c := by omega
      rw [← this]; exact h1
    · intro h; exact ⟨c, h, rfl⟩
  refine ra_or1 ?_
  rw [e]
  refine ra_inG (neg := true) (is := p.map fun n : Nat => (n : Int)) (.inl rfl) ?_
  rw [hm]; exact q
end AL
namespace AL
open PySem PySem.Spec L2
theorem plansTo_succ (n b k : Nat) : plansTo n b (k + 1) = plansTo n b k ++ levP n b k := by unfold plansTo; rw [List.range_succ, List.flatMap_append]; simp
theorem ends_get {L : List Bl} {b n m i : Nat} {d : PyData} (h : ((endsD' L b n).take m)[i]? = some d) : i < n ∧ d = levD L b i := by
  have h2 : (endsD' L b n)[i]? = some d := by
    obtain ⟨h3, h4⟩ := List.getElem?_eq_some_iff.mp h
    rw [List.getElem_take] at h4
    exact List.getElem?_eq_some_iff.mpr ⟨_, h4⟩
  simp only [endsD', List.getElem?_map, Option.map_eq_some_iff] at h2
  obtain ⟨j, h3, h4⟩ := h2
  obtain ⟨h5, h6⟩ := List.getElem?_eq_some_iff.mp h3
  simp at h5 h6
  subst h6
  exact ⟨h5, h4.symm⟩
theorem lev1_rb {L : List Bl} {b k : Nat} {p : List Nat} (O : OkSt 1000 L) (hb : b < L.length) (h4 : L.length ≤ 4) (hk : k ≤ 4) (hp : p ∈ levP L.length b k) : Rb 4000 (Pv L b p) := by
  obtain ⟨h1, h2, h3⟩ := mem_levP.mp hp
  exact (Pv_rb O hb fun o ho => (h3 o ho).1).mono (by omega)
theorem lev_rb {L : List Bl} {b k : Nat} {p : List Nat} (O : OkSt 1000 L) (hb : b < L.length) (h4 : L.length ≤ 4) (hk : k ≤ 4) (hp : p ∈ plansTo L.length b k) : Rb 4000 (Pv L b p) := by
  obtain ⟨h1, h2, h3⟩ := mem_plansTo.mp hp
  exact (Pv_rb O hb fun o ho => (h3 o ho).1).mono (by omega)
theorem at_stI {L : List Bl} {i : Int} (h0 : 0 ≤ i) (h : i < L.length) : atI (L.map blk) i = some (.tuple [.int (siz L i.toNat), fr (tmp L i.toNat)]) := by
  obtain ⟨k, rfl⟩ := Int.eq_ofNat_of_zero_le h0
  exact at_st (by omega)
theorem cut_put {L : List Bl} {i : Int} {t : Rat} {k : Nat} (h0 : 0 ≤ i) (h : i < L.length) (hk : k = i.toNat + 1) : (L.map blk).take i.toNat ++ [.tuple [.int (siz L i.toNat), fr t]] ++ (L.map blk).drop k = (putT L i.toNat t).map blk := by
  subst hk
  rw [← putT_data, List.set_eq_take_append_cons_drop, if_pos (by rw [List.length_map]; omega), List.append_assoc]
  rfl
theorem szD_shift {L : List Bl} {i j : Nat} {q : Rat} (hi : i < L.length) (hj : j < L.length) : szD (shiftS L i j q) = szD L := by
  unfold shiftS
  rw [szD_put (by rw [putT_len]; exact hj), szD_put hi]
theorem szD_secN (x : List Bl × Pl) : ∀ k, szD (secN k x).1 = szD x.1
  | 0 => rfl
  | k + 1 => by
    show szD (secT (secN k x)).1 = _
    unfold secT
    dsimp only
    split
    · exact szD_secN x k
    · rw [szD_tch]; exact szD_secN x k
theorem szD_sec2 {n : Nat} {p : Pl} {L : List Bl} (O : OkSt n L) (h : p.Ok) : szD (sec2 p L).1 = szD L := by
  have h0 : szD (sec0 p L).1 = szD L := szD_secN _ _
  have l0 := szD_len h0
  have h1 : szD (sec1 p L).1 = szD L := by
    unfold sec1
    split
    · rename_i c
      unfold partlyS
      rw [szD_shift (by omega) (by omega)]; exact h0
    · exact h0
  have l1 := szD_len h1
  have hn : (0 : Int) < L.length := by have := O.one; omega
  have a0 := pick_nn (p := (sec1 p L).2) hn
  have a1 := pick_lt (p := (sec1 p L).2) hn
  unfold sec2
  split
  · rw [szD_put (by omega)]; exact h1
  · exact h1
theorem tcD_shb {t : Nat × Nat} (h1 : t.1 < 100) (h2 : t.2 < 100) : Shb 13 1 (tcD t) := by
  refine (shb_tup (n := 3) (k := 0) (m := 2) (fun d hd => ?_) (by simp)).mono (by omega) (Nat.le_refl _)
  rw [List.mem_cons, List.mem_singleton] at hd
  rcases hd with rfl | rfl
  · exact shb_small (k := 2) (by decide) (by decide) (by omega)
  · exact shb_small (k := 2) (by decide) (by decide) (by omega)
theorem tcs_shw {ts : List PyData} (hl : ts.length ≤ 1000) (h : ∀ d ∈ ts, ∃ t : Nat × Nat, d = tcD t ∧ t.1 < 100 ∧ t.2 < 100) : Shw (.list ts) := by
  refine (shb_list (n := 13) (k := 1) (m := 1000) (fun d hd => ?_) hl).mono (by omega) (by omega)
  obtain ⟨t, rfl, h1, h2⟩ := h d hd
  exact tcD_shb h1 h2
theorem impD_len (L M : List Bl) : (impD L M).length ≤ L.length * L.length := by
  rw [impD_eq, List.length_map]
  exact Nat.le_trans (List.length_filter_le _ _) (prsL_len _)
theorem impD_shw {L M : List Bl} (h : L.length ≤ 12) : Shw (.list (impD L M)) := by
  have hl := impD_len L M
  have hl2 : L.length * L.length ≤ 144 := Nat.mul_le_mul h h
  refine tcs_shw (by omega) fun d hd => ?_
  rw [impD_eq, List.mem_map] at hd
  obtain ⟨t, ht, rfl⟩ := hd
  obtain ⟨t1, t2⟩ := mem_prsL.mp (List.mem_filter.mp ht).1
  exact ⟨t, rfl, by omega, by omega⟩
theorem lf_rep2 {g : Gm} {x : Av} {φ : Prop} (h1 : isDO g x = true) (h2 : Shw (dOf g x)) (q : φ) : isDO g x = true ∧ Shw (dOf g x) ∧ φ := ⟨h1, h2, q⟩
end AL
/-! The extreme within a limit, as the def makes it; the least amount within which all lies. -/
namespace AL
open PySem PySem.Spec L2
abbrev bpD (x : Bp) : PyData := .tuple [fr x.1, .list (natD x.2)]
def EwA (L : List Bl) (b : Nat) (l : List Nat) (k : Nat) (bs : List Bp) : Prop := ∀ j, j < bs.length → (bAt bs j).1 = Pv L b (bAt bs j).2 ∧ (∀ o ∈ (bAt bs j).2, o ∈ l) ∧ (bAt bs j).2.length ≤ k
section
variable {up : Bool} {L : List Bl} {b k o : Nat} {l : List Nat} {bs : List Bp} {many : Int}
theorem EwA.grow (h : EwA L b l k bs) (h1 : 1 ≤ bs.length) : EwA L b l k (ewGrow many bs) := by
  unfold ewGrow
  split
  · intro j hj
    rw [List.length_append, List.length_singleton] at hj
    rw [bAt_app]
    split
    · exact h j (by assumption)
    · rw [if_pos (by omega)]
      exact h _ (by omega)
  · exact h
theorem EwA.new (h : EwA L b l k bs) {j : Nat} (hj : j < bs.length) : (ewNew up L b bs o j).1 = Pv L b (ewNew up L b bs o j).2 ∧ (∀ q ∈ (ewNew up L b bs o j).2, q ∈ l ++ [o]) ∧ (ewNew up L b bs o j).2.length ≤ k + 1 := by
  unfold ewNew
  split
  · obtain ⟨h1, h2, h3⟩ := h 0 (by omega)
    exact ⟨h1, fun q hq => by simp [h2 q hq], by omega⟩
  · obtain ⟨h1, h2, h3⟩ := h j hj
    obtain ⟨c1, c2, c3⟩ := h (j - 1) (by omega)
    unfold ewTry
    split
    · split
      · refine ⟨by show _ = Pv L b (_ ++ [o]); rw [Pv_snoc, ← c1], fun q hq => ?_, by simp; omega⟩
        have hq' : q ∈ (bAt bs (j - 1)).2 ++ [o] := hq
        rw [List.mem_append] at hq' ⊢
        exact hq'.imp (c2 q) id
      · exact ⟨h1, fun q hq => by simp [h2 q hq], by omega⟩
    · exact ⟨h1, fun q hq => by simp [h2 q hq], by omega⟩
theorem EwA.mono {k' : Nat} (h : EwA L b l k bs) (hk : k ≤ k') : EwA L b l k' bs := fun j hj => ⟨(h j hj).1, (h j hj).2.1, Nat.le_trans (h j hj).2.2 hk⟩
theorem ewOf_A (hm : 0 ≤ many) (l : List Nat) : EwA L b l l.length (ewOf up L b many l) := by
  induction l using snoc_ind with
  | h0 =>
    intro j hj
    have : j = 0 := by simp [ewOf] at hj; exact hj
    subst this
    exact ⟨rfl, fun q hq => by simp [ewOf, bAt] at hq, Nat.le_refl _⟩
  | h1 l o ih =>
    have hl := ewOf_len up L b hm l
    intro j hj
    rw [ewOf_snoc] at hj ⊢
    have g := ih.grow (many := many) (by omega)
    unfold ewStep ewRow at hj ⊢
    rw [List.length_map, List.length_range] at hj
    rw [bAt_map hj, List.length_append]
    exact g.new hj
def ewMid (up : Bool) (L : List Bl) (b : Nat) (bs : List Bp) (o i : Nat) : List Bp := (List.range bs.length).map fun j => if j + i < bs.length then bAt bs j else ewNew up L b bs o j
theorem ewMid_len (i : Nat) : (ewMid up L b bs o i).length = bs.length := by unfold ewMid; simp
theorem ewMid_at {i j : Nat} (h : j < bs.length) : bAt (ewMid up L b bs o i) j = if j + i < bs.length then bAt bs j else ewNew up L b bs o j := by unfold ewMid; rw [bAt_map h]
theorem bAt_get {j : Nat} (h : j < bs.length) : bs[j]? = some (bAt bs j) := by
  unfold bAt; rw [List.getElem?_eq_getElem h, List.getD_eq_getElem?_getD, List.getElem?_eq_getElem h]; rfl
theorem bAt_ext {cs : List Bp} (hl : bs.length = cs.length) (h : ∀ j, j < bs.length → bAt bs j = bAt cs j) : bs = cs := by
  apply List.ext_getElem?
  intro j
  by_cases hj : j < bs.length
  · rw [bAt_get hj, bAt_get (by omega), h j hj]
  · rw [List.getElem?_eq_none (by omega), List.getElem?_eq_none (by omega)]
theorem ewMid_zero : ewMid up L b bs o 0 = bs := bAt_ext (ewMid_len _) fun j hj => by
  rw [ewMid_len] at hj
  rw [ewMid_at hj, if_pos (by omega)]
theorem ewMid_all (h : 1 ≤ bs.length) : ewMid up L b bs o (bs.length - 1) = ewRow up L b bs o := bAt_ext (by rw [ewMid_len]; unfold ewRow; simp) fun j hj => by
  rw [ewMid_len] at hj
  rw [ewMid_at hj]
  unfold ewRow
  rw [bAt_map hj]
  split
  · have : j = 0 := by omega
    subst this
    unfold ewNew; rw [if_pos rfl]
  · rfl
theorem bAt_set {j i : Nat} {x : Bp} (h : j < bs.length) : bAt (bs.set i x) j = if j = i then x else bAt bs j := by
  unfold bAt
  rw [List.getD_eq_getElem?_getD, List.getD_eq_getElem?_getD, List.getElem?_set]
  by_cases e : i = j
  · subst e; simp [h]
  · rw [if_neg e, if_neg (fun z => e z.symm)]
theorem ewMid_succ {i : Nat} (h : i < bs.length - 1) : ewMid up L b bs o (i + 1) = (ewMid up L b bs o i).set (bs.length - 1 - i) (ewNew up L b bs o (bs.length - 1 - i)) := bAt_ext (by rw [ewMid_len, List.length_set, ewMid_len]) fun j hj => by
  rw [ewMid_len] at hj
  rw [bAt_set (by rw [ewMid_len]; exact hj), ewMid_at hj, ewMid_at hj]
  by_cases e : j = bs.length - 1 - i
  · rw [if_pos e, if_neg (by omega), e]
  · rw [if_neg e]
    by_cases f : j + i < bs.length
    · rw [if_pos f, if_pos (by omega)]
    · rw [if_neg f, if_neg (by omega)]
theorem at_bp {j : Int} (h0 : 0 ≤ j) (h : j < bs.length) : atI (bs.map bpD) j = some (bpD (bAt bs j.toNat)) := by
  obtain ⟨k, rfl⟩ := Int.eq_ofNat_of_zero_le h0
  refine atI_nat ?_
  rw [List.getElem?_map, bAt_get (by omega)]; rfl
theorem at_bpL (h : 1 ≤ bs.length) : atI (bs.map bpD) (-1) = some (bpD (bAt bs (bs.length - 1))) := by
  unfold atI ixN
  rw [if_neg (by decide), if_pos (by rw [List.length_map]; omega)]
  show (bs.map bpD)[_]? = _
  rw [List.length_map, show (-1 + (bs.length : Int)).toNat = bs.length - 1 by omega, List.getElem?_map, bAt_get (by omega)]; rfl
theorem bp_set {j : Nat} {x : Bp} : (bs.map bpD).set j (bpD x) = (bs.set j x).map bpD := by rw [List.map_set]
theorem set_bAt {j : Nat} : bs.set j (bAt bs j) = bs := bAt_ext (by simp) fun i hi => by
  rw [List.length_set] at hi
  rw [bAt_set hi]
  split
  · rename_i e; rw [e]
  · rfl
theorem EwA.rb {n : Nat} (h : EwA L b l k bs) (O : OkSt n L) (hb : b < L.length) (hl : ∀ q ∈ l, q < L.length) {j : Nat} (hj : j < bs.length) : Rb (n + (n + 8 * k)) (bAt bs j).1 := by
  obtain ⟨h1, h2, h3⟩ := h j hj
  rw [h1]
  exact (Pv_rb O hb fun o ho => hl o (h2 o ho)).mono (by omega)
end
section
variable {L : List Bl} {b n : Nat}
theorem ordO_lt {up : Bool} : ∀ q ∈ ordO up L b, q < L.length := fun q hq => (ordTo_mem hq).1
theorem extW_rb {up : Bool} {many : Int} (hm : 0 ≤ many) (O : OkSt n L) (hb : b < L.length) : Rb (2 * n + 96) (extW up L b many).1 := by
  have hl := ordTo_len (up := up) (L := L) (b := b) L.length
  have h12 := O.most
  have hl2 := ewOf_len up L b hm (ordO up L b)
  exact ((ewOf_A (up := up) (L := L) (b := b) hm (ordO up L b)).rb O hb ordO_lt (by omega)).mono (by show n + (n + 8 * (ordTo up L b L.length).length) ≤ _; omega)
/-- the block's warmth is within the best of the plans of that length -/
def inW (L : List Bl) (b : Nat) (many : Int) (t : Rat) : Bool := !decide ((extW true L b many).1 < t) && !decide (t < (extW false L b many).1)
def allW (L M : List Bl) (many : Nat) : Bool := (List.range L.length).all fun k => inW L k (many : Nat) (tmp M k)
def minT (L M : List Bl) : Option Nat := (List.range L.length).find? (allW L M)
def optD : Option Nat → PyData
  | some k => .int (k : Nat)
  | none => .none
theorem inW_iff {many : Int} {t : Rat} : inW L b many t = true ↔ t ≤ (extW true L b many).1 ∧ (extW false L b many).1 ≤ t := by
  unfold inW
  simp [Rat.not_lt]
theorem extW_mono {up : Bool} (O : OkSt n L) (hb : b < L.length) {m m' : Int} (h0 : 0 ≤ m) (h : m ≤ m') : lef up (extW up L b m).1 (extW up L b m').1 := by
  obtain ⟨⟨h1, h2, h3⟩, -⟩ := extW_best (up := up) O hb h0
  obtain ⟨-, h4⟩ := extW_best (up := up) O hb (many := m') (by omega)
  rw [h1]
  exact h4 _ h2 (by omega)
theorem inW_mono (O : OkSt n L) (hb : b < L.length) {m m' : Int} {t : Rat} (h0 : 0 ≤ m) (h : m ≤ m') (hw : inW L b m t = true) : inW L b m' t = true := by
  obtain ⟨h1, h2⟩ := inW_iff.mp hw
  have a := extW_mono (up := true) O hb h0 h
  have c := extW_mono (up := false) O hb h0 h
  exact inW_iff.mpr ⟨Rat.le_trans h1 (lef_true.mp a), Rat.le_trans (show (extW false L b m').1 ≤ (extW false L b m).1 from c) h2⟩
theorem allW_iff {M : List Bl} {m : Nat} : allW L M m = true ↔ ∀ k, k < L.length → inW L k (m : Nat) (tmp M k) = true := by
  unfold allW
  rw [List.all_eq_true]
  exact ⟨fun h k hk => h k (List.mem_range.mpr hk), fun h k hk => h k (List.mem_range.mp hk)⟩
theorem allW_no {M : List Bl} {m k : Nat} (hk : k < L.length) (h : inW L k (m : Nat) (tmp M k) = false) : allW L M m = false := by
  cases q : allW L M m with
  | false => rfl
  | true =>
    have := allW_iff.mp q k hk
    rw [h] at this; cases this
theorem find_range {p : Nat → Bool} {n m : Nat} (h : m < n) (hp : p m = true) (hn : ∀ a, a < m → p a = false) : (List.range n).find? p = some m := by
  rw [List.find?_eq_some_iff_append]
  refine ⟨hp, List.range m, (List.range (n - m - 1)).map (m + 1 + ·), ?_, fun a ha => by rw [hn a (List.mem_range.mp ha)]; rfl⟩
  apply List.ext_getElem?
  intro i
  rw [List.getElem?_append]
  by_cases h1 : i < m
  · rw [if_pos (by simpa using h1), List.getElem?_range h1, List.getElem?_range (by omega)]
  · rw [if_neg (by simpa using h1), List.length_range]
    by_cases h2 : i = m
    · subst h2; simp [h]
    · obtain ⟨j, rfl⟩ : ∃ j, i = m + 1 + j := ⟨i - m - 1, by omega⟩
      rw [show m + 1 + j - m = j + 1 by omega, List.getElem?_cons_succ, List.getElem?_map]
      by_cases h3 : j < n - m - 1
      · rw [List.getElem?_range h3, List.getElem?_range (by omega)]; rfl
      · rw [List.getElem?_eq_none (by simp; omega), List.getElem?_eq_none (by simp; omega)]; rfl
theorem find_none {p : Nat → Bool} {n : Nat} (hn : ∀ a, a < n → p a = false) : (List.range n).find? p = none := by
  rw [List.find?_eq_none]
  intro a ha
  rw [hn a (List.mem_range.mp ha)]; decide
theorem minT_some {M : List Bl} {m : Nat} (h : m < L.length) (hp : allW L M m = true) (hn : ∀ a, a < m → allW L M a = false) : minT L M = some m := find_range h hp hn
theorem minT_none {M : List Bl} (hn : ∀ a, a < L.length → allW L M a = false) : minT L M = none := find_none hn
theorem minT_self (O : OkSt n L) : minT L L = some 0 := by
  refine minT_some O.one (allW_iff.mpr fun k hk => inW_iff.mpr ?_) (by omega)
  have key : ∀ up, (extW up L k ((0 : Nat) : Int)).1 = tmp L k := fun up => by
    obtain ⟨⟨h1, h2, h3⟩, -⟩ := extW_best (up := up) O hk (many := ((0 : Nat) : Int)) (by omega)
    have : (extW up L k ((0 : Nat) : Int)).2 = [] := List.eq_nil_of_length_eq_zero (by omega)
    rw [h1, this]; rfl
  rw [key, key]
  exact ⟨Rat.le_refl, Rat.le_refl⟩
theorem optD_shw {M : List Bl} (h : L.length ≤ 12) : Shw (optD (minT L M)) := by
  unfold minT
  cases q : (List.range L.length).find? (allW L M) with
  | none => exact shb_none.mono (by omega) (by omega)
  | some k =>
    have hk := List.mem_range.mp (List.mem_of_find?_eq_some q)
    exact (shb_small (k := 2) (by decide) (by decide) (by show (k : Int).natAbs < _; omega)).mono (by omega) (by omega)
end
end AL
/-! The limits of so many touches, along a sequence of touches. -/
namespace AL
open PySem PySem.Spec L2
theorem exOf_Gt (up : Bool) (L : List Bl) (b : Nat) (l : List Nat) : (exOf up L b l).1 = Gt up L (siz L b) l (tmp L b) := by
  unfold exOf Gt
  have : ∀ (l : List Nat) (x : Rat × List Nat), (l.foldl (exStep up L b) x).1 = l.foldl (fun t o => stp up (siz L b) t (siz L o) (tmp L o)) x.1 := by
    intro l
    induction l with
    | nil => intro x; rfl
    | cons o l ih =>
      intro x
      rw [List.foldl_cons, List.foldl_cons, ih]
      congr 1
      unfold exStep stp
      split <;> rfl
  exact this l (tmp L b, [])
section
variable {n n' : Nat} {L M : List Bl} {b i j : Nat} {k : Int}
/-- a plan walked with care is within the limit -/
theorem topF (O : OkSt n L) (hb : b < L.length) {q : List Nat} (hq : IsPlan L b q) (hk : (q.length : Int) ≤ k) : Fp true (siz L b) (prs L q) (tmp L b) ≤ (extW true L b k).1 := by
  rw [← Gt_Fp, ← exOf_Gt]
  obtain ⟨h1, h2⟩ := exOf_plan true L b q
  rw [h1]
  exact lef_true.mp ((extW_best (up := true) O hb (many := k) (by omega)).2 _ (hq.sub h2) (by have := h2.length_le; omega))
theorem W_le (O : OkSt n L) (hb : b < L.length) (hk : 0 ≤ k) {U : Rat} (h : ∀ p, IsPlan L b p → (p.length : Int) ≤ k → Fp true (siz L b) (prs L p) (tmp L b) ≤ U) : (extW true L b k).1 ≤ U := by
  obtain ⟨⟨h1, h2, h3⟩, -⟩ := extW_best (up := true) O hb hk
  rw [h1]
  exact Rat.le_trans (Pv_le O hb fun o ho => (h2.mem o ho).1) (h _ h2 h3)
theorem W_others (O : OkSt n L) (O' : OkSt n' M) (hb : b < L.length) (hi : i < L.length) (hj : j < L.length) (hij : i ≠ j) (hib : i ≠ b) (hjb : j ≠ b) (hk : 0 ≤ k) (h : Tch L M i j (mix (siz L i) (tmp L i) (siz L j) (tmp L j))) : (extW true M b k).1 ≤ (extW true L b (k + 1)).1 := by
  have main : ∀ i j : Nat, i < L.length → j < L.length → i ≠ j → i ≠ b → j ≠ b → tmp L i ≤ tmp L j → Tch L M i j (mix (siz L i) (tmp L i) (siz L j) (tmp L j)) → (extW true M b k).1 ≤ (extW true L b (k + 1)).1 := by
    intro i j hi hj hij hib hjb hle h
    have hS := siz_pos O hb
    have hbM : b < M.length := by rw [h.len]; exact hb
    have sM : siz M b = siz L b := h.sz b hb
    have tM : tmp M b = tmp L b := h.tx b hb (Ne.symm hib) (Ne.symm hjb)
    refine W_le O' hbM hk fun p hp hpk => ?_
    rw [sM, tM]
    have pl : ∀ {q : List Nat}, IsPlan M b q → IsPlan L b q := fun z => ⟨z.nd, fun o ho => by have := z.mem o ho; rw [h.len] at this; exact this⟩
    by_cases hno : i ∉ p ∧ j ∉ p
    · have e : prs M p = prs L p := by
        unfold prs
        refine List.map_congr_left fun x hx => ?_
        have h2 := (pl hp).mem x hx
        rw [h.sz x h2.1, h.tx x h2.1 (fun z => hno.1 (z ▸ hx)) (fun z => hno.2 (z ▸ hx))]
      rw [e]
      exact topF O hb (pl hp) (by omega)
    · -- the plan's other blocks
      obtain ⟨rest, er⟩ : ∃ rest, rest = rest2 p i j := ⟨_, rfl⟩
      have rmem : ∀ x ∈ rest, x ∈ p ∧ x ≠ i ∧ x ≠ j := fun x hx => by
        rw [er] at hx
        have h1 := List.mem_filter.mp hx
        exact ⟨h1.1, by simpa using h1.2⟩
      have prest : IsPlan M b rest := hp.sub (by rw [er]; exact List.filter_sublist)
      obtain ⟨rs, ers⟩ : ∃ rs, rs = srt true M b rest := ⟨_, rfl⟩
      have rsp : rs.Perm rest := by rw [ers]; exact srt_perm prest
      have asc : Asc (prs M rs) := by rw [ers]; exact asc_sub (asc_ord M b) srt_sub
      generalize hm : mix (siz L i) (tmp L i) (siz L j) (tmp L j) = m at h
      obtain ⟨A, eA⟩ : ∃ A, A = rs.filter fun o => decide (tmp M o ≤ m) := ⟨_, rfl⟩
      obtain ⟨B, eB⟩ : ∃ B, B = rs.filter fun o => !decide (tmp M o ≤ m) := ⟨_, rfl⟩
      have fp : (A ++ B).Perm rs := by rw [eA, eB]; exact List.filter_append_perm ..
      have amem : ∀ x, x ∈ A ++ B → x ∈ p ∧ x ≠ i ∧ x ≠ j := fun x hx => rmem x (rsp.subset (fp.subset hx))
      have aA : Asc (prs M A) := asc_sub asc (by rw [eA]; exact List.filter_sublist)
      have aB : Asc (prs M B) := asc_sub asc (by rw [eB]; exact List.filter_sublist)
      have lA : ∀ y ∈ prs M A, y.2 ≤ m := fun y hy => by
        obtain ⟨o, ho, rfl⟩ := List.mem_map.mp hy
        rw [eA] at ho
        simpa using (List.mem_filter.mp ho).2
      have gB : ∀ y ∈ prs M B, m ≤ y.2 := fun y hy => by
        obtain ⟨o, ho, rfl⟩ := List.mem_map.mp hy
        rw [eB] at ho
        have := (List.mem_filter.mp ho).2
        simp at this
        exact Rat.le_of_lt (Rat.not_le.mp (by grind))
      have eAL : prs M A = prs L A := by
        unfold prs
        refine List.map_congr_left fun x hx => ?_
        have h2 := amem x (by simp [hx])
        have h3 := (pl hp).mem x h2.1
        rw [h.sz x h3.1, h.tx x h3.1 h2.2.1 h2.2.2]
      have eBL : prs M B = prs L B := by
        unfold prs
        refine List.map_congr_left fun x hx => ?_
        have h2 := amem x (by simp [hx])
        have h3 := (pl hp).mem x h2.1
        rw [h.sz x h3.1, h.tx x h3.1 h2.2.1 h2.2.2]
      have aM : Asc (prs M (A ++ i :: j :: B)) := by
        rw [prs_app]
        show Asc (prs M A ++ (siz M i, tmp M i) :: (siz M j, tmp M j) :: prs M B)
        rw [h.ti, h.tj]
        unfold Asc
        rw [List.pairwise_append, List.pairwise_cons, List.pairwise_cons]
        refine ⟨aA, ⟨fun y hy => ?_, ⟨fun y hy => gB y hy, aB⟩⟩, fun x hx y hy => ?_⟩
        · rcases List.mem_cons.mp hy with rfl | hy
          · exact Rat.le_refl
          · exact gB y hy
        · rcases List.mem_cons.mp hy with rfl | hy
          · exact lA x hx
          · rcases List.mem_cons.mp hy with rfl | hy
            · exact lA x hx
            · exact Rat.le_trans (lA x hx) (gB y hy)
      -- the plan with both
      have nd0 : (A ++ B).Nodup := fp.nodup_iff.mpr (rsp.nodup_iff.mpr prest.nd)
      have pq : (A ++ i :: j :: B).Perm (i :: j :: (A ++ B)) := (List.perm_middle.trans (List.perm_middle.cons i))
      have qplan : IsPlan M b (A ++ i :: j :: B) := by
        refine ⟨pq.nodup_iff.mpr ?_, fun o ho => ?_⟩
        · rw [List.nodup_cons, List.nodup_cons]
          refine ⟨fun z => ?_, fun z => (amem j z).2.2 rfl, nd0⟩
          rcases List.mem_cons.mp z with z | z
          · exact hij z
          · exact (amem i z).2.1 rfl
        · have := pq.subset ho
          rcases List.mem_cons.mp this with rfl | this
          · exact ⟨by rw [h.len]; exact hi, hib⟩
          · rcases List.mem_cons.mp this with rfl | this
            · exact ⟨by rw [h.len]; exact hj, hjb⟩
            · exact hp.mem o (amem o this).1
      -- what the plan lacks
      obtain ⟨lack, el⟩ : ∃ lack, lack = (if i ∈ p then [] else [i]) ++ (if j ∈ p then [] else [j]) := ⟨_, rfl⟩
      have lm : ∀ x, x ∈ lack ↔ (x = i ∧ i ∉ p) ∨ (x = j ∧ j ∉ p) := fun x => by
        rw [el, List.mem_append]
        by_cases a : i ∈ p <;> by_cases c : j ∈ p <;> simp [a, c]
      have ll : lack.length ≤ 1 := by
        rw [el]
        by_cases a : i ∈ p
        · by_cases c : j ∈ p <;> simp [a, c]
        · by_cases c : j ∈ p
          · simp [a, c]
          · exact absurd ⟨a, c⟩ hno
      have perm : (p ++ lack).Perm (A ++ i :: j :: B) := by
        rw [List.perm_ext_iff_of_nodup]
        · intro x
          rw [List.mem_append, lm, pq.mem_iff, List.mem_cons, List.mem_cons, (fp.trans rsp).mem_iff, er]
          simp only [rest2, List.mem_filter, decide_eq_true_eq]
          constructor
          · rintro (hx | ⟨rfl, _⟩ | ⟨rfl, _⟩)
            · by_cases a : x = i
              · exact .inl a
              · by_cases c : x = j
                · exact .inr (.inl c)
                · exact .inr (.inr ⟨hx, a, c⟩)
            · exact .inl rfl
            · exact .inr (.inl rfl)
          · rintro (rfl | rfl | ⟨hx, _⟩)
            · by_cases a : x ∈ p
              · exact .inl a
              · exact .inr (.inl ⟨rfl, a⟩)
            · by_cases a : x ∈ p
              · exact .inl a
              · exact .inr (.inr ⟨rfl, a⟩)
            · exact .inl hx
        · rw [List.nodup_append]
          refine ⟨hp.nd, ?_, fun x hx y hy e => ?_⟩
          · match lack, ll with
            | [], _ => exact List.nodup_nil
            | [_], _ => simp
          · subst e
            rcases (lm x).mp hy with ⟨rfl, z⟩ | ⟨rfl, z⟩
            · exact z hx
            · exact z hx
        · exact qplan.nd
      have zM : Pos (prs M (A ++ i :: j :: B)) := pos_prs O' fun o ho => (qplan.mem o ho).1
      have s1 : Fp true (siz L b) (prs M p) (tmp L b) ≤ Fp true (siz L b) (prs M (A ++ i :: j :: B)) (tmp L b) :=
        Fp_fewer hS aM zM (q := prs M lack) (by rw [← prs_app]; exact perm.map _)
      refine Rat.le_trans s1 (Rat.le_trans ?_ (topF O hb (pl qplan) (by
        have := perm.length_eq
        rw [List.length_append] at this
        omega)))
      rw [prs_app, prs_app]
      show Fp true _ (prs M A ++ (siz M i, tmp M i) :: (siz M j, tmp M j) :: prs M B) _ ≤ Fp true _ (prs L A ++ (siz L i, tmp L i) :: (siz L j, tmp L j) :: prs L B) _
      rw [h.ti, h.tj, h.sz i hi, h.sz j hj, eAL, eBL, Fp_app, Fp_app, Fp_cons, Fp_cons, Fp_cons, Fp_cons]
      have zB : Pos (prs L B) := pos_prs O fun o ho => ((pl hp).mem o (amem o (by simp [ho])).1).1
      refine lef_true.mp (Fp_monoE hS zB (lef_true.mpr ?_))
      rw [← hm]
      exact stp_pair hS (siz_pos O hi) (siz_pos O hj) hle
  rcases (show tmp L i ≤ tmp L j ∨ tmp L j ≤ tmp L i from Rat.le_total) with hle | hle
  · exact main i j hi hj hij hib hjb hle h
  · refine main j i hj hi (Ne.symm hij) hjb hib hle ?_
    rw [mix_comm]; exact h.symm
theorem W_own (O : OkSt n L) (O' : OkSt n' M) (hb : b < L.length) (hi : i < L.length) (hib : i ≠ b) (hk : 0 ≤ k) (h : Tch L M b i (mix (siz L b) (tmp L b) (siz L i) (tmp L i))) : (extW true M b k).1 ≤ (extW true L b (k + 1)).1 := by
  have hS := siz_pos O hb
  have hbM : b < M.length := by rw [h.len]; exact hb
  have sM : siz M b = siz L b := h.sz b hb
  refine W_le O' hbM hk fun p hp hpk => ?_
  have pl : ∀ {q : List Nat}, IsPlan M b q → IsPlan L b q := fun z => ⟨z.nd, fun o ho => by have := z.mem o ho; rw [h.len] at this; exact this⟩
  have szp : Szs M p := fun o ho => siz_pos O' (hp.mem o ho).1
  have e1 := Gt_filter_eq (up := true) (L := M) (S := siz M b) (by rw [sM]; exact hS) i szp (t := tmp M b) (by rw [h.tj, h.ti]; exact lef.refl _ _)
  rw [Gt_Fp, Gt_Fp] at e1
  rw [← e1]
  obtain ⟨rest, er⟩ : ∃ rest, rest = p.filter fun o => decide (o ≠ i) := ⟨_, rfl⟩
  rw [← er]
  have rmem : ∀ x ∈ rest, x ∈ p ∧ x ≠ i := fun x hx => by
    rw [er] at hx
    have h1 := List.mem_filter.mp hx
    exact ⟨h1.1, by simpa using h1.2⟩
  have prest : IsPlan L b rest := (pl hp).sub (by rw [er]; exact List.filter_sublist)
  have e2 : prs M rest = prs L rest := by
    unfold prs
    refine List.map_congr_left fun x hx => ?_
    have h3 := prest.mem x hx
    rw [h.sz x h3.1, h.tx x h3.1 h3.2 (rmem x hx).2]
  have qplan : IsPlan L b (i :: rest) := ⟨List.nodup_cons.mpr ⟨fun z => (rmem i z).2 rfl, prest.nd⟩, fun o ho => by
    rcases List.mem_cons.mp ho with rfl | ho
    · exact ⟨hi, hib⟩
    · exact prest.mem o ho⟩
  have hl : rest.length ≤ p.length := by rw [er]; exact List.length_filter_le _ _
  refine Rat.le_trans ?_ (topF O hb qplan (k := k + 1) (by rw [List.length_cons]; omega))
  show _ ≤ Fp true (siz L b) ((siz L i, tmp L i) :: prs L rest) (tmp L b)
  rw [Fp_cons, e2, sM, h.ti]
  refine lef_true.mp (Fp_monoE hS (pos_prs O fun o ho => (prest.mem o ho).1) (lef_true.mpr ?_))
  exact mix_le_stp hS (siz_pos O hi)
theorem W_tch1 (O : OkSt n L) (O' : OkSt n' M) (hb : b < L.length) (hi : i < L.length) (hj : j < L.length) (hij : i ≠ j) (hk : 0 ≤ k) (T : Tch L M i j (mix (siz L i) (tmp L i) (siz L j) (tmp L j))) : (extW true M b k).1 ≤ (extW true L b (k + 1)).1 := by
  by_cases h1 : i = b
  · subst h1
    exact W_own O O' hb hj (Ne.symm hij) hk T
  · by_cases h2 : j = b
    · subst h2
      rw [mix_comm] at T
      exact W_own O O' hb hi h1 hk T.symm
    · exact W_others O O' hb hi hj hij h1 h2 hk T
theorem Tch.neg (hi : i < L.length) (hj : j < L.length) (T : Tch L M i j (mix (siz L i) (tmp L i) (siz L j) (tmp L j))) : Tch (ngL L) (ngL M) i j (mix (siz (ngL L) i) (tmp (ngL L) i) (siz (ngL L) j) (tmp (ngL L) j)) := by
  have hiM : i < M.length := by rw [T.len]; exact hi
  have hjM : j < M.length := by rw [T.len]; exact hj
  rw [(ngL_get L i hi).1, (ngL_get L i hi).2, (ngL_get L j hj).1, (ngL_get L j hj).2, mix_neg]
  refine ⟨by rw [ngL_len, ngL_len, T.len], fun x hx => ?_, by rw [(ngL_get M i hiM).2, T.ti], by rw [(ngL_get M j hjM).2, T.tj], fun x hx a c => ?_⟩
  · rw [ngL_len] at hx
    rw [(ngL_get M x (by rw [T.len]; exact hx)).1, (ngL_get L x hx).1, T.sz x hx]
  · rw [ngL_len] at hx
    rw [(ngL_get M x (by rw [T.len]; exact hx)).2, (ngL_get L x hx).2, T.tx x hx a c]
theorem W_tch {up : Bool} (O : OkSt n L) (hb : b < L.length) (hi : i < L.length) (hj : j < L.length) (hij : i ≠ j) (hk : 0 ≤ k) : lef up (extW up (tchS L i j) b k).1 (extW up L b (k + 1)).1 := by
  have O' := tchS_ok O hi hj
  have T := tchS_tch hi hj
  cases up with
  | true => exact lef_true.mpr (W_tch1 O O' hb hi hj hij hk T)
  | false =>
    have h := W_tch1 (k := k) (b := b) (ngL_ok O) (ngL_ok O') (by rw [ngL_len]; exact hb) (by rw [ngL_len]; exact hi) (by rw [ngL_len]; exact hj) hij hk (T.neg hi hj)
    rw [(extW_neg (L := tchS L i j) (by rw [tchS_len]; exact hb) k).1, (extW_neg hb (k + 1)).1] at h
    exact lef_neg.mpr (lef_true.mpr h)
theorem W_after {up : Bool} {b : Nat} : ∀ {ts : List (Nat × Nat)} {n : Nat} {L : List Bl} (O : OkSt n L) (hb : b < L.length) (h : OkTs L.length ts) {k : Int} (hk : 0 ≤ k), lef up (extW up (afterS L ts) b k).1 (extW up L b (k + ts.length)).1
  | [], n, L, O, hb, h, k, hk => by
    show lef up (extW up L b k).1 (extW up L b (k + (0 : Nat))).1
    rw [show k + ((0 : Nat) : Int) = k by omega]
    exact lef.refl _ _
  | t :: ts, n, L, O, hb, h, k, hk => by
    have ht := h t (by simp)
    have ih := W_after (up := up) (L := tchS L t.1 t.2) (b := b) (ts := ts) (tchS_ok O ht.1 ht.2.1) (by rw [tchS_len]; exact hb) (by rw [tchS_len]; exact fun q hq => h q (by simp [hq])) hk
    refine lef.trans ih ?_
    have := W_tch (up := up) (b := b) O hb ht.1 ht.2.1 ht.2.2 (k := k + ts.length) (by omega)
    rw [List.length_cons, show k + ((ts.length + 1 : Nat) : Int) = k + ts.length + 1 by omega]
    exact this
/-- so many touches bring no block beyond its limit for so many -/
theorem after_in {ts : List (Nat × Nat)} (O : OkSt n L) (hb : b < L.length) (h : OkTs L.length ts) : inW L b (ts.length : Nat) (tmp (afterS L ts) b) = true := by
  have O2 := afterS_ok O h
  have hb2 : b < (afterS L ts).length := by rw [afterS_len]; exact hb
  have key : ∀ up, lef up (tmp (afterS L ts) b) (extW up L b (ts.length : Nat)).1 := fun up => by
    have h1 := (extW_best (up := up) O2 hb2 (many := 0) (by omega)).2 [] .nil (by simp)
    have h2 := W_after (up := up) O hb h (k := 0) (by omega)
    rw [show (0 : Int) + (ts.length : Nat) = ((ts.length : Nat) : Int) by omega] at h2
    exact lef.trans (show lef up (tmp (afterS L ts) b) _ from h1) h2
  exact inW_iff.mpr ⟨lef_true.mp (key true), key false⟩
end
end AL
/-! Slices from the end; a number in a range; the least and the greatest of a row of numbers. -/
namespace AL
open PySem PySem.Spec L2 PySem.W
theorem cut_hiN {ds : List PyData} {k : Nat} (h : 0 < k) : cutD ds none (some (-(k : Int))) = ds.take (ds.length - k) := by
  unfold cutD
  rw [HT.sIx_none]
  have e : HT.sIx ds.length ds.length (some (-(k : Int))) = ds.length - k := by
    have := HT.clip_eq (-(k : Int)) ds.length ds.length
    rw [if_pos (by omega)] at this
    omega
  rw [e, Nat.sub_zero, List.drop_zero]
section
variable {X : Cx} {C : Ct} {g : Gm} {e a hi : Expr} {pos p p2 p3 : PySem.Pos} {Q : Av → Gm → Prop} {QT : Bool → Gm → Prop}
/-- x[:-1] -/
theorem ee_slHiN (h : EE X C e g fun x g1 => EE X C hi g1 fun y g2 => ∃ (k : Nat) (ds : List PyData), y = .d (.int (-(k : Int))) ∧ 0 < k ∧ ((x = .d (.tuple ds) ∧ Q (.d (.tuple (ds.take (ds.length - k)))) g2) ∨ (KL g2 x ds ∧ Q (.d (.list (ds.take (ds.length - k)))) g2))) : EE X C (.Subscript e (.Slice none (some hi) none p2) pos) g Q :=
  EE.of (pe_slice (SlR.or sl_tupA sl_list) pe_t po_none (po_some pe_t)) fun σ H Z I P p => h σ H Z I _ fun v H1 Z1 x g1 I1 s1 a1 h1 => h1 σ H1 Z1 I1 _ fun w H2 Z2 y g2 I2 s2 a2 q => by
    obtain ⟨k, ds, rfl, hk, q⟩ := q
    have a2' : Dd X.K Z2 w (.int (-(k : Int))) := a2
    cases a2'
    rcases q with ⟨rfl, q⟩ | ⟨kl, q⟩
    · refine ⟨-(k : Int), rfl, .inl (ta_sl I2 (Dd.mono s2 _ _ a1) fun v H3 Z3 I3 s3 d3 => ?_)⟩
      rw [cut_hiN hk] at d3
      exact p v H3 Z3 (.d (.tuple (ds.take (ds.length - k)))) g2 I3 ((s1.trans s2).trans s3) d3 q
    · refine ⟨-(k : Int), rfl, .inr (ta_slL I2 kl (a1.mono s2) fun v H3 Z3 I3 s3 d3 => ?_)⟩
      rw [cut_hiN hk] at d3
      exact p v H3 Z3 (.d (.list (ds.take (ds.length - k)))) g2 I3 ((s1.trans s2).trans s3) d3 q
end
/-! ### a number in a range -/
section
variable {X : Cx}
theorem op_notIn_rng : OpR X (compareOp .NotIn) (fun x y H Q => ∃ i a lo hi, x = V.int i ∧ y = V.ref a ∧ H a = some (.rng lo hi) ∧ Q (.bl (!decide (lo ≤ i ∧ i < hi))) H) := by
  intro pins s σ H x y v u Q I rx ry h
  obtain ⟨i, a, lo, hi, rfl, rfl, ha, q⟩ := h
  obtain ⟨k, rfl⟩ := rx
  obtain rfl : u = Value.ref a := ry
  obtain ⟨t1, t2, t3, ho⟩ := I.hok a _ ha
  show wpAny _ _ (do return Value.bool (!(← contains (Value.ref a) (Value.int i k)))) _ _ s
  refine wpAny_bind (wpAny_contains_slot (T := "range") ⟨_, ho, rfl⟩ F.slot_range_contains (call_meets F.slot_range_contains ⟨_, ho, rfl⟩ F.entry_range_contains (F.args_range_contains_2 _ _) (q_contains a lo hi i t1 t2 t3 k)
    ⟨ho, wpAny_truthy_bool (wpAny_pure ⟨.bl _, H, I, rfl, ?_⟩)⟩))
  rw [place1]
  exact q
theorem cr_range1 : CallR X (.type "range") (fun vs H Q => ∃ j, vs = [V.int j] ∧ ∀ p, H p = none → Q (.ref p) (upd H p (.rng 0 j))) := by
  intro pins s σ H vs us Q I r h
  obtain ⟨j, rfl, q⟩ := h
  obtain ⟨u1, rfl, ri⟩ := vals1 r
  obtain ⟨t, rfl⟩ := ri
  refine call_range_1 ⟨.ref s.heap.objs.size, upd H s.heap.objs.size (.rng 0 j), I.laid (t' := s.toks + 1 + 1) (fun b o e => Heap.get?_push_of_some _ e) (Nat.le_refl _) ?_, rfl, q _ (I.hok.fresh (Nat.le_refl _))⟩
  exact ⟨s.toks, t, s.toks + 1, Heap.get?_push_size _ rfl⟩
end
section
variable {X : Cx} {C : Ct} {g : Gm} {a b e : Expr} {pos p p2 : PySem.Pos} {Q : Av → Gm → Prop} {QT : Bool → Gm → Prop}
abbrev rRng1 : R2 := fun x y H Q => ∃ i a lo hi, x = V.int i ∧ y = V.ref a ∧ H a = some (.rng lo hi) ∧ Q (.bl (!decide (lo ≤ i ∧ i < hi))) H
/-- a not in range(b) -/
theorem ae_notInRng {ta tb : TE} (h : AE X.K C ta g fun x g1 => AE X.K C tb g1 fun y g2 => ∃ i j, x = .d (.int i) ∧ y = .d (.int j) ∧ Q (.d (.bool (!decide (0 ≤ i ∧ i < j)))) g2) : AE X.K C (tOp rRng1 ta (tCB (fun vs H Q => ∃ j, vs = [V.int j] ∧ ∀ p, H p = none → Q (.ref p) (upd H p (.rng 0 j))) (tCons tb tNil))) g Q :=
  fun σ H Z I P p => h σ H Z I _ fun v H1 Z1 x g1 I1 s1 a1 q1 => q1 σ H1 Z1 I1 _ fun w H2 Z2 y g2 I2 s2 a2 q2 => by
    obtain ⟨i, j, rfl, rfl, q⟩ := q2
    have a1' : Dd X.K Z1 v (.int i) := a1
    have a2' : Dd X.K Z2 w (.int j) := a2
    cases a1'; cases a2'
    refine ⟨j, rfl, fun pp hp => ⟨i, pp, 0, j, rfl, rfl, upd_same, ?_⟩⟩
    exact p _ _ Z2 (.d (.bool _)) g2 (I2.newO hp) (s1.trans s2) (Dd.bl _) q
theorem pe_notInRng {ta tb : TE} (n : Bn X "range") (ha : PE X a ta) (hb : PE X b tb) (hm : behindInMarks .NotIn (.Call (.Name "range" p) [b] [] p2) = false) (he : starEach [b] X.env = (false, eval b X.env) :: starEach [] X.env := by rfl) : PE X (.Compare a [.NotIn] [.Call (.Name "range" p) [b] [] p2] pos) (tOp rRng1 ta (tCB (fun vs H Q => ∃ j, vs = [V.int j] ∧ ∀ p, H p = none → Q (.ref p) (upd H p (.rng 0 j))) (tCons tb tNil))) :=
  pe_cmpR op_notIn_rng ha (pe_callTy (T := "range") cr_range1 n.gl n.mg (by decide +kernel) (pa_cons hb pa_nil he) n.n1 n.d1 he rfl) hm
theorem ee_notInRng (n : Bn X "range") (h : EE X C a g fun x g1 => EE X C b g1 fun y g2 => ∃ i j, x = .d (.int i) ∧ y = .d (.int j) ∧ Q (.d (.bool (!decide (0 ≤ i ∧ i < j)))) g2) (hm : behindInMarks .NotIn (.Call (.Name "range" p) [b] [] p2) = false := by rfl) (he : starEach [b] X.env = (false, eval b X.env) :: starEach [] X.env := by rfl) : EE X C (.Compare a [.NotIn] [.Call (.Name "range" p) [b] [] p2] pos) g Q :=
  EE.of (pe_notInRng n pe_t pe_t hm he) (ae_notInRng h)
end
section
variable {X : Cx} {C : Ct} {g : Gm} {a b e : Expr} {pos p p2 : PySem.Pos} {QT : Bool → Gm → Prop}
theorem et_notInRng (n : Bn X "range") (h : EE X C a g fun x g1 => EE X C b g1 fun y g2 => ∃ i j, x = .d (.int i) ∧ y = .d (.int j) ∧ QT (!decide (0 ≤ i ∧ i < j)) g2) (hm : behindInMarks .NotIn (.Call (.Name "range" p) [b] [] p2) = false := by rfl) (he : starEach [b] X.env = (false, eval b X.env) :: starEach [] X.env := by rfl) : ET X C (.Compare a [.NotIn] [.Call (.Name "range" p) [b] [] p2] pos) g QT :=
  ET.of (pt_cmpR op_notIn_rng pe_t (pe_callTy (T := "range") cr_range1 n.gl n.mg (by decide +kernel) (pa_cons pe_t pa_nil he) n.n1 n.d1 he rfl) hm) (at_test (ae_notInRng (h.mono fun x g1 h1 => h1.mono fun y g2 ⟨i, j, e1, e2, q⟩ => ⟨i, j, e1, e2, _, rfl, q⟩)))
end
/-! ### the least and the greatest of a row of numbers -/
theorem vals_reads {h : Heap} : ∀ {ns : List Int} {us : List Value}, Vals (ns.map V.int) us → ReadsAll h us (ns.map PyData.int) []
  | [], _, r => by cases r; exact .nil
  | n :: ns, _, r => by
    cases r with
    | cons r1 r2 =>
      obtain ⟨t, rfl⟩ := r1
      exact .cons (as := []) (.int n t) (vals_reads r2)
theorem ints_alike (ns : List Int) : AlikeAll (ns.map PyData.int) := ⟨fun x hx y hy => by
    obtain ⟨i, _, rfl⟩ := List.mem_map.mp hx
    obtain ⟨j, _, rfl⟩ := List.mem_map.mp hy
    rfl, fun x hx => by
    obtain ⟨i, _, rfl⟩ := List.mem_map.mp hx
    exact fun z => by cases z⟩
theorem ints_depth : ∀ ns : List Int, PyData.depthAll (ns.map PyData.int) = 0
  | [] => rfl
  | n :: ns => by
    show max (PyData.depth (.int n)) (PyData.depthAll (ns.map PyData.int)) = 0
    rw [ints_depth ns]; rfl
section
variable {X : Cx} {k : Nat}
theorem cr_minI (hc : X.calm = true) (hr : Room k X.A) : CallR X (.builtin "min") (fun vs H Q => ∃ a n ns, vs = [V.ref a] ∧ (SqT X.K H a ((n :: ns).map V.int) ∨ SqL X.K H a ((n :: ns).map V.int)) ∧ Q (.int (ns.foldl min n)) H) := by
  intro pins s σ H vs us Q I r h
  obtain ⟨a, n, ns, rfl, hs, q⟩ := h
  have hu := hr.units
  rcases hs with hs | hs
  · obtain ⟨its, rv, ht, hz⟩ := I.tuple hs
    rw [Vals.ref1 r]
    refine min_tuple_data (x := .int n) (xs := ns.map .int) (as := []) (I.ok.hd hc) ht (by rw [List.toList_toArray]; exact vals_reads (ns := n :: ns) rv) (ints_alike (n :: ns)) (by rw [show PyData.int n :: ns.map PyData.int = (n :: ns).map PyData.int from rfl, ints_depth]; omega) fun i v h' tk bs hv hrd hk => ?_
    rw [minD_ints] at hrd
    cases hrd
    exact ⟨.int _, H, I.kept hk, ⟨_, rfl⟩, q⟩
  · obtain ⟨its, rv, ht, hz⟩ := I.list hs
    rw [Vals.ref1 r]
    refine min_list_data (x := .int n) (xs := ns.map .int) (as := []) (I.ok.hd hc) ht.isList (by rw [List.toList_toArray]; exact vals_reads (ns := n :: ns) rv) (ints_alike (n :: ns)) (by rw [show PyData.int n :: ns.map PyData.int = (n :: ns).map PyData.int from rfl, ints_depth]; omega) fun i v h' tk bs hv hrd hk => ?_
    rw [minD_ints] at hrd
    cases hrd
    exact ⟨.int _, H, I.kept hk, ⟨_, rfl⟩, q⟩
theorem cr_maxI (hc : X.calm = true) (hr : Room k X.A) : CallR X (.builtin "max") (fun vs H Q => ∃ a n ns, vs = [V.ref a] ∧ (SqT X.K H a ((n :: ns).map V.int) ∨ SqL X.K H a ((n :: ns).map V.int)) ∧ Q (.int (ns.foldl max n)) H) := by
  intro pins s σ H vs us Q I r h
  obtain ⟨a, n, ns, rfl, hs, q⟩ := h
  have hu := hr.units
  rcases hs with hs | hs
  · obtain ⟨its, rv, ht, hz⟩ := I.tuple hs
    rw [Vals.ref1 r]
    refine max_tuple_data (x := .int n) (xs := ns.map .int) (as := []) (I.ok.hd hc) ht (by rw [List.toList_toArray]; exact vals_reads (ns := n :: ns) rv) (ints_alike (n :: ns)) (by rw [show PyData.int n :: ns.map PyData.int = (n :: ns).map PyData.int from rfl, ints_depth]; omega) fun i v h' tk bs hv hrd hk => ?_
    rw [maxD_ints] at hrd
    cases hrd
    exact ⟨.int _, H, I.kept hk, ⟨_, rfl⟩, q⟩
  · obtain ⟨its, rv, ht, hz⟩ := I.list hs
    rw [Vals.ref1 r]
    refine max_list_data (x := .int n) (xs := ns.map .int) (as := []) (I.ok.hd hc) ht.isList (by rw [List.toList_toArray]; exact vals_reads (ns := n :: ns) rv) (ints_alike (n :: ns)) (by rw [show PyData.int n :: ns.map PyData.int = (n :: ns).map PyData.int from rfl, ints_depth]; omega) fun i v h' tk bs hv hrd hk => ?_
    rw [maxD_ints] at hrd
    cases hrd
    exact ⟨.int _, H, I.kept hk, ⟨_, rfl⟩, q⟩
end
section
variable {X : Cx} {C : Ct} {g : Gm} {e : Expr} {pos p : PySem.Pos} {Q : Av → Gm → Prop} {k : Nat}
theorem rc_row {K : PySem.W.Frag} {f : Int → List Int → Int} {x : Av} {n : Int} {ns : List Int} (hx : x = .d (.tuple ((n :: ns).map PyData.int)) ∨ KL g x ((n :: ns).map PyData.int)) (q : Q (.d (.int (f n ns))) g) : RC K C (fun vs H Q => ∃ a n ns, vs = [V.ref a] ∧ (SqT K H a ((n :: ns).map V.int) ∨ SqL K H a ((n :: ns).map V.int)) ∧ Q (.int (f n ns)) H) [x] g Q := fun σ H Z vs I a P p => by
  cases a with
  | @cons _ v _ _ a1 a2 =>
    cases a2
    have fin : ∀ ad xs, v = .ref ad → (SqT K H ad xs ∨ SqL K H ad xs) → DdA K Z xs ((n :: ns).map PyData.int) → ∃ a n ns, [v] = [V.ref a] ∧ (SqT K H a ((n :: ns).map V.int) ∨ SqL K H a ((n :: ns).map V.int)) ∧ P (.int (f n ns)) H := fun ad xs e h1 h2 => by
      have e2 := h2.ints
      subst e2 e
      exact ⟨ad, n, ns, rfl, h1, p _ H Z (.d (.int _)) g I (Same.refl _) (Dd.int _) q⟩
    rcases hx with rfl | rfl | ⟨j, w, rfl, hj⟩
    · have h' : Dd K Z v (.tuple ((n :: ns).map PyData.int)) := a1
      cases h' with
      | @tup ad xs _ b1 b2 => exact fin ad xs rfl (.inl (Same.seqT I.fz b1)) b2
    · have h' : Dd K Z v (.list ((n :: ns).map PyData.int)) := a1
      cases h' with
      | @lst ad xs _ b1 b2 => exact fin ad xs rfl (.inr (SqL.of (I.fz _ _ b1))) b2
    · obtain ⟨ad, xs, e, o2, o3, o4, o5⟩ := I.own hj a1
      exact fin ad xs e (.inr (SqL.of o2)) o4
theorem ee_minI (n1 : Bn X "min") (hc : X.calm = true) (hr : Room k X.A) (h : EE X C e g fun x g1 => ∃ n ns, (x = .d (.tuple ((n :: ns).map PyData.int)) ∨ KL g1 x ((n :: ns).map PyData.int)) ∧ Q (.d (.int (ns.foldl min n))) g1) (he : starEach [e] X.env = (false, eval e X.env) :: starEach [] X.env := by rfl) : EE X C (.Call (.Name "min" p) [e] [] pos) g Q :=
  ee_callB (cr_minI hc hr) n1 (by decide +kernel) (ea_cons (h.mono fun x g1 q => ea_nil (by
    obtain ⟨n, ns, hx, q⟩ := q
    exact rc_row (f := fun n ns => ns.foldl min n) hx q)) he) he (by rfl)
theorem ee_maxI (n1 : Bn X "max") (hc : X.calm = true) (hr : Room k X.A) (h : EE X C e g fun x g1 => ∃ n ns, (x = .d (.tuple ((n :: ns).map PyData.int)) ∨ KL g1 x ((n :: ns).map PyData.int)) ∧ Q (.d (.int (ns.foldl max n))) g1) (he : starEach [e] X.env = (false, eval e X.env) :: starEach [] X.env := by rfl) : EE X C (.Call (.Name "max" p) [e] [] pos) g Q :=
  ee_callB (cr_maxI hc hr) n1 (by decide +kernel) (ea_cons (h.mono fun x g1 q => ea_nil (by
    obtain ⟨n, ns, hx, q⟩ := q
    exact rc_row (f := fun n ns => ns.foldl max n) hx q)) he) he (by rfl)
theorem lf_sl1T {g : Gm} {y x : Av} {ds : List PyData} {φ : List PyData → Prop} {ψ : Nat → List PyData → Prop} (hy : y = .d (.int (-1))) (hx : x = .d (.tuple ds)) (q : φ (ds.take (ds.length - 1))) : ∃ (k : Nat) (ds : List PyData), y = .d (.int (-(k : Int))) ∧ 0 < k ∧ ((x = .d (.tuple ds) ∧ φ (ds.take (ds.length - k))) ∨ (KL g x ds ∧ ψ k ds)) := ⟨1, ds, by rw [hy]; rfl, by decide, .inl ⟨hx, q⟩⟩
theorem lf_row2 {x : Av} {i j : Int} {φ : Int → List Int → Prop} (hx : x = .d (.tuple [.int i, .int j])) (q : φ i [j]) : ∃ n ns, (x = .d (.tuple ((n :: ns).map PyData.int)) ∨ KL g x ((n :: ns).map PyData.int)) ∧ φ n ns := ⟨i, [j], .inl hx, q⟩
end
end AL
/-! The least amount, the impossible pairs: after touches; a touch of a cell. -/
namespace AL
open PySem PySem.Spec L2
section
variable {n : Nat} {L M : List Bl} {b i j : Nat} {k : Int}
theorem extW_ext {up : Bool} {a : Nat} (O : OkSt n L) (hb : b < L.length) (ha : L.length ≤ a + 1) : (extW up L b (a : Nat)).1 = (ext up L b).1 := by
  rw [← mostN_extW O hb, mostN_ext O hb ha]
theorem extW_le {up : Bool} (O : OkSt n L) (hb : b < L.length) (h0 : 0 ≤ k) : lef up (extW up L b k).1 (ext up L b).1 := by
  obtain ⟨⟨h1, h2, h3⟩, -⟩ := extW_best (up := up) O hb h0
  rw [h1]
  exact ext_all O hb h2
/-- at the most, all the others are touched -/
theorem inW_cap {m : Nat} {t : Rat} (O : OkSt n L) (hb : b < L.length) (h : inW L b (m : Nat) t = true) : inW L b ((min m (L.length - 1) : Nat) : Int) t = true := by
  by_cases hm : m ≤ L.length - 1
  · rw [Nat.min_eq_left hm]; exact h
  · rw [Nat.min_eq_right (by omega)]
    obtain ⟨h1, h2⟩ := inW_iff.mp h
    rw [extW_ext O hb (by omega)] at h1 h2
    exact inW_iff.mpr ⟨by rw [extW_ext O hb (by omega)]; exact h1, by rw [extW_ext O hb (by omega)]; exact h2⟩
theorem allW_after {ts : List (Nat × Nat)} (O : OkSt n L) (h : OkTs L.length ts) : allW L (afterS L ts) (min ts.length (L.length - 1)) = true :=
  allW_iff.mpr fun k hk => inW_cap O hk (after_in O hk h)
theorem minT_ge {m a : Nat} (h : minT L M = some m) (ha : a < L.length) (hw : allW L M a = true) : m ≤ a := by
  unfold minT at h
  rw [List.find?_eq_some_iff_append] at h
  obtain ⟨h1, xs, ys, e, h2⟩ := h
  by_cases hle : m ≤ a
  · exact hle
  · have e1 : (List.range L.length)[xs.length]? = some m := by rw [e, List.getElem?_append_right (Nat.le_refl _)]; simp
    have hx : xs.length < L.length := by
      have := congrArg List.length e
      rw [List.length_range, List.length_append, List.length_cons] at this
      omega
    rw [List.getElem?_range hx] at e1
    have e2 : xs.length = m := Option.some.inj e1
    have e3 : (List.range L.length)[a]? = xs[a]? := by rw [e, List.getElem?_append_left (by omega)]
    rw [List.getElem?_range ha] at e3
    have : a ∈ xs := List.mem_of_getElem? e3.symm
    have := h2 a this
    rw [hw] at this; cases this
theorem minT_at {m : Nat} (h : minT L M = some m) : m < L.length ∧ allW L M m = true := by
  unfold minT at h
  exact ⟨List.mem_range.mp (List.mem_of_find?_eq_some h), List.find?_some h⟩
theorem minT_below {m a : Nat} (h : minT L M = some m) (ha : a < m) : allW L M a = false := by
  cases q : allW L M a with
  | false => rfl
  | true =>
    have := minT_ge h (Nat.lt_trans ha (minT_at h).1) q
    omega
theorem minT_no {a : Nat} (h : minT L M = none) (ha : a < L.length) : allW L M a = false := by
  unfold minT at h
  rw [List.find?_eq_none] at h
  have := h a (List.mem_range.mpr ha)
  cases q : allW L M a with
  | false => rfl
  | true => exact absurd q this
theorem minT_after {ts : List (Nat × Nat)} (O : OkSt n L) (h : OkTs L.length ts) : ∃ m, minT L (afterS L ts) = some m ∧ m ≤ ts.length := by
  have h1 := O.one
  have w := allW_after O h
  have hlt : min ts.length (L.length - 1) < L.length := by omega
  cases q : minT L (afterS L ts) with
  | none => rw [minT_no q hlt] at w; cases w
  | some m => exact ⟨m, rfl, by have := minT_ge q hlt w; omega⟩
theorem outAt_iff {L M : List Bl} {k : Nat} : outAt L M k = true ↔ ¬ (tmp M k ≤ (ext true L k).1 ∧ (ext false L k).1 ≤ tmp M k) := by
  unfold outAt
  simp only [Bool.or_eq_true, decide_eq_true_eq]
  constructor
  · rintro (h | h) ⟨a, c⟩
    · exact absurd a (Rat.not_le.mpr h)
    · exact absurd c (Rat.not_le.mpr h)
  · intro h
    by_cases a : tmp M k ≤ (ext true L k).1
    · exact .inr (Rat.not_le.mp fun c => h ⟨a, c⟩)
    · exact .inl (Rat.not_le.mp a)
theorem outR_after {t : Nat × Nat} {ts : List (Nat × Nat)} (O : OkSt n L) (h : OkTs L.length (t :: ts)) : outR (tchS L t.1 t.2) (afterS L (t :: ts)) = false := by
  have ht := h t (by simp)
  have O2 := tchS_ok O ht.1 ht.2.1
  refine outR_false fun k hk => ?_
  cases q : outAt (tchS L t.1 t.2) (afterS L (t :: ts)) k with
  | false => rfl
  | true =>
    refine absurd ?_ (outAt_iff.mp q)
    have w := inW_iff.mp (after_in (ts := ts) O2 hk (by rw [tchS_len]; exact fun q hq => h q (by simp [hq])))
    have a := extW_le (up := true) (k := (ts.length : Nat)) O2 hk (by omega)
    have c := extW_le (up := false) (k := (ts.length : Nat)) O2 hk (by omega)
    exact ⟨Rat.le_trans w.1 (lef_true.mp a), Rat.le_trans (show (ext false _ k).1 ≤ _ from c) w.2⟩
theorem ext_tch {up : Bool} (O : OkSt n L) (hi : i < L.length) (hj : j < L.length) (hij : i ≠ j) (hb : b < L.length) : lef up (ext up (tchS L i j) b).1 (ext up L b).1 := by
  have O2 := tchS_ok O hi hj
  have h := W_tch (up := up) O hb hi hj hij (k := (L.length : Nat)) (by omega)
  have e : ((L.length : Nat) : Int) + 1 = ((L.length + 1 : Nat) : Int) := by omega
  rw [e, extW_ext O2 (by rw [tchS_len]; exact hb) (by rw [tchS_len]; omega), extW_ext O hb (by omega)] at h
  exact h
/-- what no plan reaches, none reaches after a touch -/
theorem out_tch (O : OkSt n L) (hi : i < L.length) (hj : j < L.length) (hij : i ≠ j) (h : minT L M = none) : outR (tchS L i j) M = true := by
  have h1 := O.one
  have w := minT_no h (a := L.length - 1) (by omega)
  have : ∃ k, k < L.length ∧ inW L k ((L.length - 1 : Nat) : Int) (tmp M k) = false := by
    by_cases hall : ∀ k, k < L.length → inW L k ((L.length - 1 : Nat) : Int) (tmp M k) = true
    · rw [allW_iff.mpr hall] at w; cases w
    · have ⟨k, hk⟩ := Classical.not_forall.mp hall
      have ⟨hk1, hk2⟩ := Classical.not_imp.mp hk
      exact ⟨k, hk1, by simpa using hk2⟩
  obtain ⟨k, hk, e⟩ := this
  refine outR_true (i := k) (by rw [tchS_len]; exact hk) (outAt_iff.mpr fun z => ?_)
  have a := ext_tch (up := true) O hi hj hij hk
  have c := ext_tch (up := false) O hi hj hij hk
  have : inW L k ((L.length - 1 : Nat) : Int) (tmp M k) = true := by
    refine inW_iff.mpr ⟨?_, ?_⟩
    · rw [extW_ext O hk (by omega)]; exact Rat.le_trans z.1 (lef_true.mp a)
    · rw [extW_ext O hk (by omega)]; exact Rat.le_trans (show (ext false L k).1 ≤ _ from c) z.2
  rw [e] at this; cases this
theorem impD_all (O : OkSt n L) (h : minT L M = none) : impD L M = (prsL L.length).map tcD := by
  unfold impD
  have key : ∀ l : List (Nat × Nat), (∀ t ∈ l, outR (tchS L t.1 t.2) M = true) → (l.filterMap fun t => if outR (tchS L t.1 t.2) M then some (tcD t) else none) = l.map tcD := by
    intro l
    induction l with
    | nil => intro _; rfl
    | cons t l ih =>
      intro hl
      have h1 := hl t (by simp)
      rw [List.filterMap_cons, if_pos h1, ih fun q hq => hl q (by simp [hq])]
      rfl
  exact key _ fun t ht => by
    obtain ⟨t1, t2⟩ := mem_prsL.mp ht
    exact out_tch O (by omega) t2 (by omega) h
end
/-- a touch of a cell -/
def tof (ns : List Int) (k m : Nat) : Nat × Nat := ((pick (pool ns k) m).toNat, ((pick (pool ns k) m + 1 + pick (left (pool ns k) m) ((m : Int) - 1)) % m).toNat)
theorem tof_ok {ns : List Int} {k m : Nat} (hm : 2 ≤ m) : (tof ns k m).1 < m ∧ (tof ns k m).2 < m ∧ (tof ns k m).1 ≠ (tof ns k m).2 := by
  have a0 := pick_nn (p := pool ns k) (w := (m : Int)) (by omega)
  have a1 := pick_lt (p := pool ns k) (w := (m : Int)) (by omega)
  have b0 := pick_nn (p := left (pool ns k) m) (w := (m : Int) - 1) (by omega)
  have b1 := pick_lt (p := left (pool ns k) m) (w := (m : Int) - 1) (by omega)
  have c0 := Int.emod_nonneg (pick (pool ns k) m + 1 + pick (left (pool ns k) m) ((m : Int) - 1)) (show (m : Int) ≠ 0 by omega)
  have c1 := Int.emod_lt_of_pos (pick (pool ns k) m + 1 + pick (left (pool ns k) m) ((m : Int) - 1)) (show (0 : Int) < m by omega)
  unfold tof
  refine ⟨by show (pick _ _).toNat < m; omega, by show Int.toNat _ < m; omega, fun e => ?_⟩
  have e : (pick (pool ns k) m).toNat = ((pick (pool ns k) m + 1 + pick (left (pool ns k) m) ((m : Int) - 1)) % m).toNat := e
  generalize pick (pool ns k) m = x at a0 a1 c0 c1 e b0 b1
  generalize pick (left (pool ns k) m) ((m : Int) - 1) = y at b0 b1 c0 c1 e
  have e2 : x = (x + 1 + y) % m := by omega
  by_cases h : x + 1 + y < m
  · rw [Int.emod_eq_of_lt (by omega) h] at e2; omega
  · have : (x + 1 + y) % m = x + 1 + y - m := by
      rw [← Int.emod_eq_of_lt (a := x + 1 + y - m) (b := m) (by omega) (by omega), Int.sub_emod_right]
    omega
def tsOf (ns : List Int) (m K : Nat) : List (Nat × Nat) := (List.range K).map fun k => tof ns (1 + k) m
theorem tsOf_ok {ns : List Int} {m K : Nat} (hm : 2 ≤ m) : OkTs m (tsOf ns m K) := fun t ht => by
  obtain ⟨k, _, rfl⟩ := List.mem_map.mp ht
  exact tof_ok hm
theorem tsOf_len (ns : List Int) (m K : Nat) : (tsOf ns m K).length = K := by simp [tsOf]
theorem tchS_symm (L : List Bl) (i j : Nat) : tchS L i j = tchS L j i := by
  unfold tchS
  refine List.map_congr_left fun k _ => ?_
  rw [mix_comm (siz L i)]
  by_cases h : k = i <;> by_cases h2 : k = j <;> simp [h, h2]
theorem szD_after (L : List Bl) : ∀ ts : List (Nat × Nat), szD (afterS L ts) = szD L
  | [] => rfl
  | t :: ts => by
    show szD (afterS (tchS L t.1 t.2) ts) = _
    rw [szD_after _ ts, szD_tch]
theorem at_stL {L : List Bl} {n : Nat} (h : n < L.length) (hn : L.length = n + 1) : atI (List.map blk L) (-1) = some (.tuple [.int (siz L n), fr (tmp L n)]) := by
  refine at_last ?_
  rw [List.getLast?_eq_getElem?, List.length_map, List.getElem?_map, show L.length - 1 = n by omega, List.getElem?_eq_getElem h]
  unfold siz tmp
  rw [getD_eq h]
  rfl
theorem add_back (z t : Rat) : t + (z + -t) = z := by grind
theorem cut_putL {L : List Bl} {n : Nat} {z : Int} (h : n < L.length) (hn : L.length = n + 1) : (L.map blk).take (L.length - 1) ++ [.tuple [.int (siz L n), .tuple [.int z, .int 1]]] = (putT L n (z : Rat)).map blk := by
  have := cut_put (L := L) (i := (n : Int)) (t := (z : Rat)) (k := n + 1) (by omega) (by omega) (by omega)
  rw [Int.toNat_natCast] at this
  rw [← this, List.drop_of_length_le (by rw [List.length_map]; omega), List.append_nil, show L.length - 1 = n by omega]
  have e : fr (z : Rat) = .tuple [.int z, .int 1] := by
    unfold fr
    simp
  rw [e]
theorem Rb.ofInt {n : Nat} {i : Int} (h : Bt n i) : Rb (n + 1) (i : Rat) := by
  refine ⟨?_, ?_⟩
  · rw [Rat.num_intCast]; exact h.mono (by omega)
  · rw [Rat.den_intCast]; exact (show Bt 1 ((1 : Nat) : Int) by unfold Bt; decide).mono (by omega)
theorem lf_sl1U {g : Gm} {y x : Av} {ds : List PyData} {φ ψ : Nat → List PyData → Prop} (hy : y = .d (.int (-1))) (hx : x = .d (.tuple ds)) (q : φ 1 ds) : ∃ (k : Nat) (ds : List PyData), y = .d (.int (-(k : Int))) ∧ 0 < k ∧ ((x = .d (.tuple ds) ∧ φ k ds) ∨ (KL g x ds ∧ ψ k ds)) := ⟨1, ds, by rw [hy]; rfl, by decide, .inl ⟨hx, q⟩⟩
theorem first_not {n : Nat} {L : List Bl} {ts : List (Nat × Nat)} {t : Nat × Nat} (O : OkSt n L) (h : OkTs L.length ts) (h0 : ts[0]? = some t) {x y : Int} (hx : x = min (t.1 : Int) t.2) (hy : y = max (t.1 : Int) t.2) : PyData.tuple [.int x, .int y] ∉ impD L (afterS L ts) := by
  intro hm
  rw [impD_eq, List.mem_map] at hm
  obtain ⟨q, hq, e⟩ := hm
  have hq2 := (List.mem_filter.mp hq).2
  match ts, h0 with
  | t' :: ts', h0 =>
    have e0 : t' = t := Option.some.inj h0
    subst e0
    have w := outR_after O h
    have e1 : ((q.1 : Nat) : Int) = x ∧ ((q.2 : Nat) : Int) = y := by
      have e' : PyData.tuple [.int (q.1 : Nat), .int (q.2 : Nat)] = PyData.tuple [.int x, .int y] := e
      injection e' with e'
      injection e' with a1 a2
      injection a2 with a2 _
      injection a1 with a1
      injection a2 with a2
      exact ⟨a1, a2⟩
    have : tchS L q.1 q.2 = tchS L t'.1 t'.2 := by
      by_cases hlt : t'.1 ≤ t'.2
      · rw [show q.1 = t'.1 by omega, show q.2 = t'.2 by omega]
      · rw [show q.1 = t'.2 by omega, show q.2 = t'.1 by omega, tchS_symm]
    rw [this, w] at hq2
    cases hq2
theorem tcD_plain (t : Nat × Nat) : Plain 1 (tcD t) := plain_tup fun d hd => by
  rw [List.mem_cons, List.mem_singleton] at hd
  rcases hd with rfl | rfl
  · exact plain_int _
  · exact plain_int _
theorem two_plain (i j : Int) : Plain 1 (.tuple [.int i, .int j]) := plain_tup fun d hd => by
  rw [List.mem_cons, List.mem_singleton] at hd
  rcases hd with rfl | rfl
  · exact plain_int _
  · exact plain_int _
theorem impD_plain {L M : List Bl} : ∀ d ∈ impD L M, Plain 1 d := fun d hd => by
  rw [impD_eq, List.mem_map] at hd
  obtain ⟨t, _, rfl⟩ := hd
  exact tcD_plain t
theorem prs_shaped (m : Nat) : SeqAt.shaped (.list ((prsL m).map tcD)) = true := (plain_list (k := 1) fun d hd => by
  obtain ⟨t, _, rfl⟩ := List.mem_map.mp hd
  exact tcD_plain t).shaped (by decide)
end AL
/-! Rows of touches: the warmer others in ascending order, drawn ones. -/
namespace AL
open PySem PySem.Spec L2
def st9 : Nat → Pl → List Bl × Pl
  | 0, p => ([], p)
  | k + 1, p => ((st9 k p).1 ++ [(1 + pick (st9 k p).2 3, ((pick (left (st9 k p).2 3) 60 - 20 : Int) : Rat))], left (left (st9 k p).2 3) 60)
theorem st9_ok {p : Pl} (h : p.Ok) : ∀ k, (st9 k p).2.Ok
  | 0 => h
  | k + 1 => left_ok (left_ok (st9_ok h k) (by decide)) (by decide)
theorem st9_len (p : Pl) : ∀ k, (st9 k p).1.length = k
  | 0 => rfl
  | k + 1 => by
    show ((st9 k p).1 ++ [_]).length = _
    rw [List.length_append, st9_len p k]; rfl
theorem st9_each (p : Pl) : ∀ (k : Nat) (b : Bl), b ∈ (st9 k p).1 → Sz b.1 ∧ Rb 7 b.2
  | 0, b, h => by simp [st9] at h
  | k + 1, b, h => by
    have h' : b ∈ (st9 k p).1 ++ [(1 + pick (st9 k p).2 3, ((pick (left (st9 k p).2 3) 60 - 20 : Int) : Rat))] := h
    rcases List.mem_append.mp h' with h | h
    · exact st9_each p k b h
    · rw [List.mem_singleton.mp h]
      have a0 := pick_nn (p := (st9 k p).2) (w := 3) (by decide)
      have a1 := pick_lt (p := (st9 k p).2) (w := 3) (by decide)
      have b0 := pick_nn (p := left (st9 k p).2 3) (w := 60) (by decide)
      have b1 := pick_lt (p := left (st9 k p).2 3) (w := 60) (by decide)
      exact ⟨by unfold Sz; dsimp only; omega, Rb.ofInt (by unfold Bt; omega)⟩
def stN (p : Pl) : List Bl := (st9 (9 + pick p 4).toNat (left p 4)).1
def stP (p : Pl) : Pl := (st9 (9 + pick p 4).toNat (left p 4)).2
theorem stN_ok (p : Pl) : OkSt 85 (stN p) ∧ 9 ≤ (stN p).length := by
  have a0 := pick_nn (p := p) (w := 4) (by decide)
  have a1 := pick_lt (p := p) (w := 4) (by decide)
  have hl : (stN p).length = (9 + pick p 4).toNat := st9_len _ _
  exact ⟨OkSt.of_rb (m := 7) (by omega) (by omega) fun b hb => st9_each _ _ b hb, by omega⟩
theorem stP_ok {p : Pl} (h : p.Ok) : (stP p).Ok := st9_ok (left_ok h (by decide)) _
/-! ### the warmer others, in ascending order -/
def ascStep (L : List Bl) (b : Nat) (l : List Nat) (x : Nat) : List Nat :=
  if x ≠ b ∧ tmp L b < tmp L x then l.take (l.filter fun o => !decide (tmp L x < tmp L o)).length ++ x :: l.drop (l.filter fun o => !decide (tmp L x < tmp L o)).length else l
def ascTo (L : List Bl) (b m : Nat) : List Nat := (List.range m).foldl (ascStep L b) []
theorem ascTo_succ (L : List Bl) (b m : Nat) : ascTo L b (m + 1) = ascStep L b (ascTo L b m) m := by unfold ascTo; rw [List.range_succ, List.foldl_append]; rfl
theorem ascTo_mem {L : List Bl} {b : Nat} : ∀ {m n : Nat}, n ∈ ascTo L b m → n < m ∧ n ≠ b
  | 0, _, h => by simp [ascTo] at h
  | m + 1, n, h => by
    rw [ascTo_succ] at h
    unfold ascStep at h
    have up : n ∈ ascTo L b m → n < m + 1 ∧ n ≠ b := fun z => by have := ascTo_mem z; omega
    split at h
    · rename_i hc
      rcases List.mem_append.mp h with h | h
      · exact up (List.mem_of_mem_take h)
      · rcases List.mem_cons.mp h with rfl | h
        · exact ⟨by omega, hc.1⟩
        · exact up (List.mem_of_mem_drop h)
    · exact up h
theorem ascTo_len {L : List Bl} {b : Nat} : ∀ m : Nat, (ascTo L b m).length ≤ m
  | 0 => by simp [ascTo]
  | m + 1 => by
    have := ascTo_len (L := L) (b := b) m
    rw [ascTo_succ]; unfold ascStep
    split
    · rw [List.length_append, List.length_cons, List.length_take, List.length_drop]; omega
    · omega
def ascTs (L : List Bl) (b : Nat) : List (Nat × Nat) := (ascTo L b L.length).map fun x => (b, x)
theorem ascTs_ok {L : List Bl} {b : Nat} (hb : b < L.length) : OkTs L.length (ascTs L b) := fun t ht => by
  obtain ⟨x, hx, rfl⟩ := List.mem_map.mp ht
  have := ascTo_mem hx
  exact ⟨hb, this.1, Ne.symm this.2⟩
theorem ascTs_len (L : List Bl) (b : Nat) : (ascTs L b).length ≤ L.length := by unfold ascTs; rw [List.length_map]; exact ascTo_len _
def seqTs (ns : List Int) (L : List Bl) (b : Nat) : List (Nat × Nat) := if ns.length < 2 ∨ ns.getD 0 0 % 2 = 0 then ascTs L b else tsOf ns L.length (min ns.length 25 - 1)
theorem seqTs_ok {ns : List Int} {L : List Bl} {b : Nat} (hb : b < L.length) (h2 : 2 ≤ L.length) : OkTs L.length (seqTs ns L b) := by
  unfold seqTs
  split
  · exact ascTs_ok hb
  · exact tsOf_ok h2
theorem seqTs_len {ns : List Int} {L : List Bl} {b : Nat} (h : L.length ≤ 12) : (seqTs ns L b).length ≤ 24 := by
  unfold seqTs
  split
  · have := ascTs_len L b; omega
  · rw [tsOf_len]; omega
theorem take_ok {n k : Nat} {L : List Bl} (O : OkSt n L) (hk : 1 ≤ k) : OkSt n (L.take k) := by
  obtain ⟨D, d0, d1, d2⟩ := O.cd
  have h1 := O.one
  have h2 := O.most
  exact ⟨by rw [List.length_take]; omega, by rw [List.length_take]; omega, fun b hb => (O.each b (List.mem_of_mem_take hb)).1, ⟨D, d0, d1, fun b hb => d2 b (List.mem_of_mem_take hb)⟩⟩
theorem tcD_mem {L M : List Bl} {t : Nat × Nat} (ht : t ∈ prsL L.length) : tcD t ∈ impD L M ↔ outR (tchS L t.1 t.2) M = true := by
  rw [impD_eq, List.mem_map]
  constructor
  · rintro ⟨q, hq, e⟩
    have e1 : q = t := by
      have e' : PyData.tuple [.int (q.1 : Nat), .int (q.2 : Nat)] = PyData.tuple [.int (t.1 : Nat), .int (t.2 : Nat)] := e
      injection e' with e'
      injection e' with a1 a2
      injection a2 with a2 _
      injection a1 with a1
      injection a2 with a2
      exact Prod.ext (by omega) (by omega)
    subst e1
    exact (List.mem_filter.mp hq).2
  · intro h
    exact ⟨t, List.mem_filter.mpr ⟨ht, h⟩, rfl⟩
theorem impD_bool {L M : List Bl} {t : Nat × Nat} {b : Bool} (ht : t ∈ prsL L.length) (h : b = true ↔ tcD t ∈ impD L M) : b = outR (tchS L t.1 t.2) M := by
  rw [tcD_mem ht] at h
  cases b <;> cases q : outR (tchS L t.1 t.2) M
  · rfl
  · rw [q] at h; exact absurd (h.mpr rfl) (by decide)
  · rw [q] at h; exact absurd (h.mp rfl) (by decide)
  · rfl
theorem prs9 : (prsL 9).length = 36 := by decide
def leftN (w : Int) : Nat → Pl → Pl
  | 0, p => p
  | k + 1, p => left (leftN w k p) w
theorem leftN_ok {w : Int} (hw : 0 < w) {p : Pl} (h : p.Ok) : ∀ k, (leftN w k p).Ok
  | 0 => h
  | k + 1 => left_ok (leftN_ok hw h k) hw
section
variable {K : PySem.W.Frag} {C : Ct} {g : Gm} {Q : Av → Gm → Prop}
theorem ra_neB {x y : Bool} (q : Q (.d (.bool (!decide (x = y)))) g) : RA K C (rNeA K) (.d (.bool x)) (.d (.bool y)) g Q := ra_or2 fun σ H Z v w I hx hw P p => by
  have a1 : Dd K Z v (.bool x) := hx
  have a2 : Dd K Z w (.bool y) := hw
  cases a1; cases a2
  refine ⟨rfl, ?_⟩
  have e : decide (V.bl x = V.bl y) = decide (x = y) := decide_eq_decide.mpr ⟨fun z => by cases z; rfl, fun z => by rw [z]⟩
  rw [e]
  exact p _ H Z (.d (.bool _)) g I (Same.refl _) (Dd.bl _) q
end
theorem asc_sel (L : List Bl) (x : Nat) (l : List Nat) : ((List.range (natD l).length).filterMap fun k => (l[k]?).bind fun o => if (!decide (tmp L x < tmp L o)) = true then some (PyData.int (o : Nat)) else none).length = (l.filter fun o => !decide (tmp L x < tmp L o)).length := sel_count l _
theorem fr_int (i : Int) : fr (i : Rat) = .tuple [.int i, .int 1] := by
  unfold fr
  simp
end AL
/-! Blocks of one size: the best of so many touches takes the warmest ones, in ascending order. -/
namespace AL
open PySem PySem.Spec L2
section
variable {S : Int}
theorem stp_up {t C A : Rat} (hS : 0 < S) (h : C ≤ A) : stp true S t S C ≤ stp true S t S A := by
  by_cases h1 : t < C
  · have h2 : t < A := by grind
    rw [stp_yes (ltf_true.mpr h1), stp_yes (ltf_true.mpr h2)]
    have e1 := mix_eq t C hS hS
    have e2 := mix_eq t A hS hS
    have p : (0 : Rat) < (S : Rat) + (S : Rat) := by have := cast_pos hS; grind
    refine Rat.not_lt.mp fun q => ?_
    have : mix S t S A * ((S : Rat) + S) < mix S t S C * ((S : Rat) + S) := (Rat.mul_lt_mul_right p).mpr q
    rw [e1, e2] at this
    have c := Rat.mul_le_mul_of_nonneg_left h (Rat.le_of_lt (cast_pos hS))
    grind
  · rw [stp_no (fun z => h1 (ltf_true.mp z))]
    exact lef_true.mp (stp_ge hS hS)
/-- the last k of an ascending row do best -/
theorem Fp_last (hS : 0 < S) : ∀ (A : List Bl), (∀ p ∈ A, p.1 = S) → Asc A → ∀ (q : List Bl) (k : Nat) (t : Rat), q.Sublist A → q.length ≤ k → Fp true S q t ≤ Fp true S (A.drop (A.length - k)) t := by
  intro A
  induction A using snoc_ind with
  | h0 =>
    intro _ _ q k t hq _
    cases hq
    rw [List.drop_nil]
    exact Rat.le_refl
  | h1 A a ih =>
    intro hA asc q k t hq hk
    have hA' : ∀ p ∈ A, p.1 = S := fun p hp => hA p (by simp [hp])
    have ha : a.1 = S := hA a (by simp)
    unfold Asc at asc
    rw [List.pairwise_append] at asc
    obtain ⟨asc1, _, asc2⟩ := asc
    have pos : ∀ {l : List Bl}, l.Sublist A → Pos l := fun hl p hp => by rw [hA' p (hl.subset hp)]; exact hS
    match k, hk with
    | 0, hk =>
      have : q = [] := List.eq_nil_of_length_eq_zero (by omega)
      subst this
      rw [Nat.sub_zero, List.drop_length]
      exact Rat.le_refl
    | k + 1, hk =>
      have ed : (A ++ [a]).drop ((A ++ [a]).length - (k + 1)) = A.drop (A.length - k) ++ [a] := by
        rw [List.length_append, List.length_singleton, show A.length + 1 - (k + 1) = A.length - k by omega, List.drop_append_of_le_length (by omega)]
      rw [ed, Fp_app]
      have last : ∀ (q' : List Bl) (c : Bl), q'.Sublist A → q'.length ≤ k → c.1 = S → c.2 ≤ a.2 → Fp true S (q' ++ [c]) t ≤ Fp true S [a] (Fp true S (A.drop (A.length - k)) t) := by
        intro q' c h1 h2 h3 h4
        have h := ih hA' asc1 q' k t h1 h2
        rw [Fp_app]
        show stp true S _ c.1 c.2 ≤ stp true S _ a.1 a.2
        rw [h3, ha]
        refine Rat.le_trans (stp_up hS h4) ?_
        exact lef_true.mp (Fp_monoE (l := [(S, a.2)]) hS (fun p hp => by rw [List.mem_singleton.mp hp]; exact hS) (lef_true.mpr h))
      obtain ⟨q1, q2, rfl, h1, h2⟩ := List.sublist_append_iff.mp hq
      cases h2 with
      | cons _ h2 =>
        cases h2
        rw [List.append_nil] at hk ⊢
        -- all of q lies in A
        rcases List.eq_nil_or_concat q1 with rfl | ⟨q', c, rfl⟩
        · refine Rat.le_trans (show Fp true S [] t ≤ Fp true S (A.drop (A.length - k)) t from lef_true.mp (Fp_ge hS (pos (List.drop_sublist _ _)))) ?_
          exact lef_true.mp (Fp_ge hS (fun p hp => by rw [List.mem_singleton.mp hp, ha]; exact hS))
        · rw [List.concat_eq_append] at h1 hk ⊢
          rw [List.length_append, List.length_singleton] at hk
          have hc : c ∈ A := h1.subset (by simp)
          exact last q' c ((List.sublist_append_left _ _).trans h1) (by omega) (hA' c hc) (asc2 c hc a (by simp))
      | cons_cons _ h2 =>
        cases h2
        rw [List.length_append, List.length_singleton] at hk
        exact last q1 a h1 (by omega) ha Rat.le_refl
end
section
variable {n : Nat} {L : List Bl} {b : Nat} {S : Int}
/-- the others ahead of b, in order -/
def aheadO (up : Bool) (L : List Bl) (b : Nat) : List Nat := (ordO up L b).filter fun o => ahead up (tmp L b) (tmp L o)
def lastO (up : Bool) (L : List Bl) (b k : Nat) : List Nat := (aheadO up L b).drop ((aheadO up L b).length - k)
theorem extW_eq1 (O : OkSt n L) (hb : b < L.length) (hS : ∀ o, o < L.length → siz L o = S) (k : Nat) : (extW true L b (k : Nat)).1 = Fp true S (prs L (lastO true L b k)) (tmp L b) := by
  have hS0 : 0 < S := by rw [← hS b hb]; exact siz_pos O hb
  have sb := hS b hb
  have plA : IsPlan L b (aheadO true L b) := ord_plan.sub List.filter_sublist
  have plL : IsPlan L b (lastO true L b k) := plA.sub (List.drop_sublist _ _)
  have szs : ∀ {l : List Nat}, (∀ o ∈ l, o < L.length) → ∀ p ∈ prs L l, p.1 = S := fun hl p hp => by
    obtain ⟨o, ho, rfl⟩ := List.mem_map.mp hp
    exact hS o (hl o ho)
  have asc : Asc (prs L (aheadO true L b)) := asc_sub (asc_ord L b) List.filter_sublist
  refine Rat.le_antisymm ?_ ?_
  · refine W_le O hb (by omega) fun p hp hk => ?_
    rw [sb]
    have s1 : Fp true S (prs L p) (tmp L b) ≤ Fp true S (prs L (srt true L b p)) (tmp L b) := by
      have zp : Pos (prs L (srt true L b p)) := pos_prs O fun o ho => (hp.mem o ((srt_perm hp).subset ho)).1
      exact Fp_best hS0 (asc_sub (asc_ord L b) srt_sub) zp (((srt_perm hp).symm).map _)
    refine Rat.le_trans s1 ?_
    -- what isn't ahead is left out
    have drop : ∀ (l : List Nat) (t : Rat), (∀ o ∈ l, o < L.length) → tmp L b ≤ t → Fp true S (prs L l) t = Fp true S (prs L (l.filter fun o => ahead true (tmp L b) (tmp L o))) t := by
      intro l
      induction l with
      | nil => intro t _ _; rfl
      | cons o l ih =>
        intro t hl ht
        have ho := hl o (by simp)
        have hl' : ∀ q ∈ l, q < L.length := fun q hq => hl q (by simp [hq])
        by_cases ha : ahead true (tmp L b) (tmp L o) = true
        · rw [List.filter_cons_of_pos (by simpa using ha)]
          show Fp true S (prs L l) (stp true S t (siz L o) (tmp L o)) = Fp true S (prs L (l.filter _)) (stp true S t (siz L o) (tmp L o))
          refine ih _ hl' (Rat.le_trans ht (lef_true.mp (stp_ge hS0 ?_)))
          rw [hS o ho]; exact hS0
        · rw [List.filter_cons_of_neg (by simpa using ha)]
          show Fp true S (prs L l) (stp true S t (siz L o) (tmp L o)) = _
          have : ¬ ltf true t (tmp L o) := fun z => ha (ahead_iff.mpr (ltf_true.mpr (by have := ltf_true.mp z; grind)))
          rw [stp_no this]
          exact ih t hl' ht
    rw [drop _ _ (fun o ho => (hp.mem o ((srt_perm hp).subset ho)).1) Rat.le_refl]
    have sub : (prs L ((srt true L b p).filter fun o => ahead true (tmp L b) (tmp L o))).Sublist (prs L (aheadO true L b)) := (srt_sub.filter _).map _
    have hl : (prs L ((srt true L b p).filter fun o => ahead true (tmp L b) (tmp L o))).length ≤ k := by
      unfold prs
      rw [List.length_map]
      have h1 := List.length_filter_le (fun o => ahead true (tmp L b) (tmp L o)) (srt true L b p)
      have h2 := (srt_perm (up := true) hp).length_eq
      omega
    have := Fp_last hS0 (prs L (aheadO true L b)) (szs fun o ho => (plA.mem o ho).1) asc _ k (tmp L b) sub hl
    have e : prs L (lastO true L b k) = (prs L (aheadO true L b)).drop ((prs L (aheadO true L b)).length - k) := by
      unfold lastO prs
      rw [List.map_drop, List.length_map]
    rw [e]
    exact this
  · rw [← sb]
    refine topF O hb plL ?_
    unfold lastO
    rw [List.length_drop]; omega
end
end AL
/-! Blocks of one size: the law's own way to the best (k72). -/
namespace AL
open PySem PySem.Spec L2
section
variable {n : Nat} {L : List Bl} {b : Nat} {S : Int}
theorem ahead_neg {t T : Rat} : ahead true (-t) (-T) = ahead false t T := by
  unfold ahead
  simp only [if_true]
  exact decide_eq_decide.mpr ⟨fun h => by grind, fun h => by grind⟩
theorem lastO_neg (hb : b < L.length) (k : Nat) : lastO true (ngL L) b k = lastO false L b k := by
  have e : aheadO true (ngL L) b = aheadO false L b := by
    unfold aheadO
    have eo : ordO true (ngL L) b = ordO false L b := by
      unfold ordO
      rw [ngL_len]
      exact ngL_ordTo L b _ (Nat.le_refl _)
    rw [eo]
    refine List.filter_congr fun o ho => ?_
    rw [(ngL_get L b hb).2, (ngL_get L o (mem_ord.mp ho).1).2]
    exact ahead_neg
  unfold lastO
  rw [e]
theorem prs_neg {l : List Nat} (hl : ∀ o ∈ l, o < L.length) : prs (ngL L) l = ngL (prs L l) := by
  unfold prs ngL
  rw [List.map_map]
  refine List.map_congr_left fun o ho => ?_
  have := ngL_get L o (hl o ho)
  unfold ngL at this
  show (siz _ o, tmp _ o) = (siz L o, -tmp L o)
  rw [this.1, this.2]
theorem lastO_mem {up : Bool} {k o : Nat} (h : o ∈ lastO up L b k) : o < L.length ∧ o ≠ b ∧ ahead up (tmp L b) (tmp L o) = true := by
  have h1 := List.mem_of_mem_drop h
  have h2 := List.mem_filter.mp h1
  exact ⟨(mem_ord.mp h2.1).1, (mem_ord.mp h2.1).2, h2.2⟩
theorem extW_eq {up : Bool} (O : OkSt n L) (hb : b < L.length) (hS : ∀ o, o < L.length → siz L o = S) (k : Nat) : (extW up L b (k : Nat)).1 = Fp up S (prs L (lastO up L b k)) (tmp L b) := by
  cases up with
  | true => exact extW_eq1 O hb hS k
  | false =>
    have h := extW_eq1 (L := ngL L) (b := b) (S := S) (ngL_ok O) (by rw [ngL_len]; exact hb) (fun o ho => by
      rw [ngL_len] at ho
      rw [(ngL_get L o ho).1]; exact hS o ho) k
    rw [(extW_neg hb ((k : Nat) : Int)).1, lastO_neg hb, prs_neg (fun o ho => (lastO_mem ho).1), (ngL_get L b hb).2, Fp_neg] at h
    have := congrArg (fun x : Rat => -x) h
    simpa using this
/-! ### the law's own way -/
def insA (up : Bool) (l : List Rat) (x : Rat) : List Rat := l.take (l.takeWhile fun u => !ahead up u x).length ++ x :: l.drop (l.takeWhile fun u => !ahead up u x).length
def sortA (up : Bool) (l : List Rat) : List Rat := l.foldl (insA up) []
def avg (t u : Rat) : Rat := (t + u) * Rat.divInt 1 2
def someA (up : Bool) (L : List Bl) (b : Nat) : List Rat := (((List.range L.length).filter fun o => decide (o ≠ b)).map (tmp L)).filter fun u => ahead up (tmp L b) u
def dueA (up : Bool) (L : List Bl) (b k : Nat) : Rat := ((sortA up (someA up L b)).take k).reverse.foldl avg (tmp L b)
def Dsc (up : Bool) (l : List Rat) : Prop := l.Pairwise fun u v => lef up v u
theorem not_ahead {up : Bool} {u x : Rat} (h : ahead up u x = false) : lef up x u := by
  cases up <;> simp [ahead, lef] at h ⊢ <;> grind
theorem ahead_lef {up : Bool} {u x : Rat} (h : ahead up u x = true) : lef up u x := lef_of (ahead_iff.mp h)
theorem insA_eq (up : Bool) (l : List Rat) (x : Rat) : insA up l x = (l.takeWhile fun u => !ahead up u x) ++ x :: (l.dropWhile fun u => !ahead up u x) := by
  unfold insA
  have e := List.takeWhile_append_dropWhile (p := fun u => !ahead up u x) (l := l)
  generalize hA : (l.takeWhile fun u => !ahead up u x) = A at e ⊢
  generalize hB : (l.dropWhile fun u => !ahead up u x) = B at e ⊢
  rw [← e, List.take_left', List.drop_left'] <;> rfl
theorem insA_perm (up : Bool) (l : List Rat) (x : Rat) : (insA up l x).Perm (x :: l) := by
  rw [insA_eq]
  refine List.perm_middle.trans ?_
  rw [List.takeWhile_append_dropWhile]
theorem insA_dsc {up : Bool} {l : List Rat} {x : Rat} (h : Dsc up l) : Dsc up (insA up l x) := by
  rw [insA_eq]
  have e := List.takeWhile_append_dropWhile (p := fun u => !ahead up u x) (l := l)
  have hA : ∀ u ∈ l.takeWhile fun u => !ahead up u x, lef up x u := fun u hu => by
    have := List.all_eq_true.mp (List.all_takeWhile (l := l) (p := fun u => !ahead up u x)) u hu
    exact not_ahead (by simpa using this)
  have hd : ∀ u ∈ l.dropWhile fun u => !ahead up u x, lef up u x := by
    cases hB : l.dropWhile fun u => !ahead up u x with
    | nil => simp
    | cons c B =>
      have hc : ahead up c x = true := by
        have := List.head?_dropWhile_not (fun u => !ahead up u x) l
        rw [hB] at this
        simpa using this
      have hp : Dsc up (c :: B) := by
        have : (l.dropWhile fun u => !ahead up u x).Sublist l := List.dropWhile_sublist _
        rw [hB] at this
        exact List.Pairwise.sublist this h
      intro u hu
      rcases List.mem_cons.mp hu with rfl | hu
      · exact ahead_lef hc
      · exact lef.trans ((List.pairwise_cons.mp hp).1 u hu) (ahead_lef hc)
  unfold Dsc at h ⊢
  rw [← e, List.pairwise_append] at h
  rw [List.pairwise_append, List.pairwise_cons]
  refine ⟨h.1, ⟨fun u hu => hd u hu, h.2.1⟩, fun u hu v hv => ?_⟩
  rcases List.mem_cons.mp hv with rfl | hv
  · exact hA u hu
  · exact h.2.2 u hu v hv
theorem sortA_to {up : Bool} : ∀ (l acc : List Rat), Dsc up acc → Dsc up (l.foldl (insA up) acc) ∧ (l.foldl (insA up) acc).Perm (l ++ acc)
  | [], acc, h => ⟨h, List.Perm.refl _⟩
  | x :: l, acc, h => by
    obtain ⟨h1, h2⟩ := sortA_to l (insA up acc x) (insA_dsc h)
    refine ⟨h1, h2.trans ?_⟩
    refine ((insA_perm up acc x).append_left l).trans ?_
    exact List.perm_middle
theorem lef_anti {up : Bool} {t u : Rat} (h : lef up t u) (k : lef up u t) : t = u := lef_antisymm h k
theorem sorted_eq {up : Bool} : ∀ {l m : List Rat}, l.Pairwise (lef up) → m.Pairwise (lef up) → l.Perm m → l = m := fun {l m} hl hm p =>
  List.Perm.eq_of_pairwise (fun a c _ _ h k => lef_anti h k) hl hm p
theorem asc_up (up : Bool) (L : List Bl) (b : Nat) : ((ordO up L b).map (tmp L)).Pairwise (lef up) := by
  rw [List.pairwise_map]
  exact (ordTo_pw (up := up) (L := L) (b := b) _).imp fun h => bfr_lef h
theorem rev_sort (up : Bool) (L : List Bl) (b : Nat) : (sortA up (someA up L b)).reverse = (aheadO up L b).map (tmp L) := by
  obtain ⟨h1, h2⟩ := sortA_to (up := up) (someA up L b) [] List.Pairwise.nil
  rw [List.append_nil] at h2
  refine sorted_eq (up := up) (List.pairwise_reverse.mpr h1) (List.Pairwise.sublist (List.filter_sublist.map _) (asc_up up L b)) ?_
  refine (List.reverse_perm _).trans (h2.trans ?_)
  unfold someA aheadO
  rw [List.filter_map]
  refine List.Perm.map _ ?_
  refine List.Perm.filter _ ?_
  rw [List.perm_ext_iff_of_nodup (List.nodup_range.filter _) (ord_nodup up L b)]
  intro x
  rw [mem_ord, List.mem_filter, List.mem_range]
  simp
theorem due_last (up : Bool) (L : List Bl) (b k : Nat) : ((sortA up (someA up L b)).take k).reverse = (lastO up L b k).map (tmp L) := by
  have h := rev_sort up L b
  have hl : (sortA up (someA up L b)).length = (aheadO up L b).length := by
    have := congrArg List.length h
    rw [List.length_reverse, List.length_map] at this
    exact this
  rw [List.reverse_take, h, hl]
  unfold lastO
  rw [List.map_drop]
theorem mix_avg {t u : Rat} (hS : 0 < S) : mix S t S u = avg t u := by
  have h2 : Rat.divInt 1 2 = (1 : Rat) / 2 := by decide +kernel
  have p := cast_pos hS
  refine mul_cancel_eq (K := (S : Rat) + (S : Rat)) (by grind) ?_
  rw [mix_eq t u hS hS]
  unfold avg
  rw [h2]
  grind
theorem Fp_avg {up : Bool} (hS : 0 < S) : ∀ {l : List Nat} {t : Rat}, (∀ o ∈ l, siz L o = S ∧ ltf up t (tmp L o)) → (l.map (tmp L)).Pairwise (lef up) → Fp up S (prs L l) t = (l.map (tmp L)).foldl avg t
  | [], t, _, _ => rfl
  | o :: l, t, h, hp => by
    have ho := h o (by simp)
    rw [List.map_cons, List.pairwise_cons] at hp
    show Fp up S (prs L l) (stp up S t (siz L o) (tmp L o)) = (l.map (tmp L)).foldl avg (avg t (tmp L o))
    rw [ho.1, stp_yes ho.2, mix_avg hS, Fp_avg hS (fun q hq => ⟨(h q (by simp [hq])).1, ?_⟩) hp.2]
    have b1 := (mix_between hS hS ho.2).2
    rw [mix_avg hS] at b1
    have b2 := hp.1 (tmp L q) (List.mem_map.mpr ⟨q, hq, rfl⟩)
    cases up <;> simp [ltf, lef] at b1 b2 ⊢ <;> grind
theorem dueA_eq {up : Bool} (O : OkSt n L) (hb : b < L.length) (hS : ∀ o, o < L.length → siz L o = S) (k : Nat) : (extW up L b (k : Nat)).1 = dueA up L b k := by
  have hS0 : 0 < S := by rw [← hS b hb]; exact siz_pos O hb
  rw [extW_eq O hb hS]
  unfold dueA
  rw [due_last]
  refine Fp_avg hS0 (fun o ho => ?_) ?_
  · have := lastO_mem ho
    exact ⟨hS o this.1, ahead_iff.mp this.2.2⟩
  · refine List.Pairwise.sublist ?_ (asc_up up L b)
    exact ((List.drop_sublist _ _).trans List.filter_sublist).map _
end
end AL
/-! sorted(set(xs)) of a list of numbers; a list backward. -/
namespace AL
open PySem PySem.Spec PyProof.Rows L2
section
variable {P : Program} {w : World} {A : Around} {E : Value → Shared → Prop} {s : Shared}
abbrev set0 (w : World) : Obj := { cls := .type "set", dict := none, data := .set #[] 0 (.fresh 0 0 (!w.params.followText "set-order")) }
/-- the new set's filling from a list of numbers -/
theorem fill_list {l : Addr} {items : Array Value} {ns : List Int} (hh : A.handled = none) (hl : s.heap.IsList l items) (hit : IntsAre items.toList ns) (hb : ns.length + 1 < scanBound) {R : Result → Shared → Prop}
    (h : ∀ (h' : Heap) (tk c : Nat), SetR w h' s.heap.objs.size (fun j => decide (j ∈ ns)) c → c ≤ ns.length → (∀ b o, s.heap.get? b = some o → h'.get? b = some o) → R (.ok (.ret .none)) { s with heap := h', toks := tk }) :
    ∀ (B : Around), B.handled = none → codeAny (model P w) B (.builtin "set.update.loop" ⟨[.ref s.heap.objs.size, .ref (s.heap.push (set0 w)).objs.size], []⟩) R
      { s with heap := (s.heap.push (set0 w)).push { cls := .type "list_iterator", data := .fields #[.ref l, .int 0 0] } } := by
  intro B hB
  have hn : items.size = ns.length := by
    have q := IntsAre.length hit
    rwa [Array.length_toList] at q
  have hl1 : (s.heap.push (set0 w)).IsList l items := hl.push _
  obtain ⟨ol, hol, _⟩ := hl
  have hlS := Heap.lt_size hol
  have hz : (s.heap.push (set0 w)).objs.size = s.heap.objs.size + 1 := Heap.size_push ..
  have hS0 : (s.heap.push (set0 w)).get? s.heap.objs.size = some (set0 w) := Heap.get?_push_size _ rfl
  have hval : ∀ (i : Nat) (v : Value), items[i]? = some v → ∃ k t, ns[i]? = some k ∧ v = .int k t := fun i v hv => by
    obtain ⟨t, e⟩ := PyProof.Rows.IntsAre.int_at hit i v (by rw [Array.getElem?_toList]; exact hv)
    have hi : i < ns.length := by rw [← hn]; exact (Array.getElem?_eq_some_iff.mp hv).1
    exact ⟨_, t, List.getElem?_eq_getElem hi, by rw [e, List.getD_eq_getElem?_getD, List.getElem?_eq_getElem hi]; rfl⟩
  refine set_update_ints ((Walks.list (A := B.in1) (by simp [hB]) _ l (by rw [hz]; exact Nat.ne_of_lt (Nat.lt_succ_of_lt hlS)) items).toS) s.heap.objs.size (by
    rw [hz]; simp only [List.mem_cons, List.mem_singleton, List.not_mem_nil, or_false, not_or]; exact ⟨Nat.ne_of_lt (Nat.lt_succ_self _), Nat.ne_of_gt hlS⟩) ns hn hb hval (items.size - 0) 0 _ (by omega) (Nat.zero_le _)
    ⟨⟨_, Heap.get?_push_size _ rfl, rfl, rfl⟩, hl1.push _⟩ ⟨0, Nat.le_refl 0, setR_new_at (Heap.get?_push_of_some _ hS0)⟩ fun s' c hm hc hS => ?_
  obtain ⟨h', g2, d', tk', os'⟩ := s'
  have eg : g2 = s.gens := hm.gens
  have ed : d' = s.drawn := hm.drawn
  have eo : os' = s.os := hm.os
  subst eg; subst ed; subst eo
  refine h h' tk' c hS (by omega) fun b o e => ?_
  have hb0 := Heap.lt_size e
  exact hm.heap b o (by rw [hz]; simp only [List.mem_cons, List.mem_singleton, List.not_mem_nil, or_false, not_or]; exact ⟨Nat.ne_of_lt hb0, Nat.ne_of_lt (Nat.lt_succ_of_lt hb0)⟩) (Heap.get?_push_of_some _ (Heap.get?_push_of_some _ e))
/-- set(xs), xs a list of numbers: what set(t) of a tuple of numbers is (HandS.SetFor), for a list -/
theorem call_set_ls {l : Addr} {items : Array Value} {ns : List Int} {Q : Value → Shared → Prop} (hh : A.handled = none) (hl : s.heap.IsList l items) (hit : IntsAre items.toList ns) (hb : ns.length + 1 < scanBound)
    (h : ∀ (h' : Heap) (tk c : Nat), SetR w h' s.heap.objs.size (fun j => decide (j ∈ ns)) c → c ≤ ns.length → (∀ b o, s.heap.get? b = some o → h'.get? b = some o) → Q (.ref s.heap.objs.size) { s with heap := h', toks := tk }) :
    wpAny (model P w) A (call (.type "set") [.ref l]) Q E s := by
  obtain ⟨c, tl, hmro⟩ := F.called_set.mro
  have hmade := F.called_set.made
  have hsub := F.called_set.sub
  refine wpAny_call (codeAny_of_tree ?_)
  show wpAny _ _ (callAny (.type "set") _) _ _ _
  refine wpAny_pure ⟨Code.quiet_builtin _ (by decide +kernel), codeAny_builtin F.entry_type_call ?_⟩
  rw [Around.under_plain (weight_type_call_type "set" [.ref l] []) rfl]
  have h1 := F.called_set.notType
  have h2 := F.called_set.canCreate
  have hct := F.typeCall_set_1 (.ref l)
  repeat (any_goals (first | assumption | wp_step))
  refine codeAny_mono (code_set_led1 (.ref l) (E := E) (Q₁ := fun obj s₁ => obj = .ref s.heap.objs.size ∧ s₁ = { s with heap := s.heap.push (set0 w) }) ⟨rfl, rfl⟩) fun r s₁ hr => ?_
  match r, hr with
  | .error e, hr => exact hr
  | .ok .next, hr => exact hr.elim
  | .ok .brk, hr => exact hr.elim
  | .ok .cont, hr => exact hr.elim
  | .ok (.ret obj), hr =>
    obtain ⟨rfl, rfl⟩ := hr
    have hS : (s.heap.push (set0 w)).get? s.heap.objs.size = some (set0 w) := Heap.get?_push_size _ rfl
    have hT : Shared.TypeIs { s with heap := s.heap.push (set0 w) } (.ref s.heap.objs.size) "set" := ⟨_, hS, rfl⟩
    have hli := F.called_set.init.lookup
    have hbi := F.called_set.init.bind (.ref s.heap.objs.size)
    repeat (any_goals (first | assumption | wp_step))
    refine codeAny_mono (codeAny_call_builtin (R := wants (fun r s₂ => r = .none ∧ ∃ h' tk c, s₂ = { s with heap := h', toks := tk } ∧ SetR w h' s.heap.objs.size (fun j => decide (j ∈ ns)) c ∧ c ≤ ns.length ∧
        (∀ b o, s.heap.get? b = some o → h'.get? b = some o)) E) F.called_set.init.plain F.entry_set_init (check_set_init_1 hT ?_)) fun r₂ s₂ hr₂ => ?_
    · have hl0 := hl
      obtain ⟨⟨ocls, odict, odata, oslots⟩, hol, hcl, nl, hdl⟩ := hl
      simp only at hcl hdl
      subst hcl; subst hdl
      have hol' : (s.heap.push (set0 w)).get? l = some { cls := .type "list", dict := odict, data := .seq items nl, slots := oslots } := Heap.get?_push_of_some _ hol
      have hsls := F.sub_list_set
      have hslf := F.sub_list_frozenset
      have hne : (Value.type "list" == Value.type "dict") = false := by decide
      have hl1 : (s.heap.push (set0 w)).IsList l items := ⟨_, hol', rfl, nl, rfl⟩
      unfold Builtin.«set.__init__» noKeywords Builtin.Frozenset.updateFrom
      generalize hPI : pyIter = PI
      wp_walk
      subst hPI
      refine wpAny_pyIter_list hl1 ?_
      refine wpAny_bind (wpAny_runValue ?_)
      refine codeAny_mono (fill_list (P := P) (w := w) (R := fun r s' => r = .ok (.ret .none) ∧ ∃ h' tk c, s' = { s with heap := h', toks := tk } ∧ SetR w h' s.heap.objs.size (fun j => decide (j ∈ ns)) c ∧ c ≤ ns.length ∧ (∀ b o, s.heap.get? b = some o → h'.get? b = some o)) hh hl0 hit hb (fun h' tk c a b k => ⟨rfl, h', tk, c, rfl, a, b, k⟩) _ (by simp [hh])) fun r s' q => ?_
      obtain ⟨rfl, h', tk, c, rfl, a, b, k⟩ := q
      show wpAny _ _ _ _ _ _
      refine wpAny_pure ?_
      show wpAny _ _ (ret Value.none) _ _ _
      exact wpAny_pure ⟨rfl, h', tk, c, rfl, a, b, k⟩
    · match r₂, hr₂ with
      | .error e, hr₂ => exact hr₂
      | .ok .next, hr₂ => exact hr₂.elim
      | .ok .brk, hr₂ => exact hr₂.elim
      | .ok .cont, hr₂ => exact hr₂.elim
      | .ok (.ret r), hr₂ =>
        obtain ⟨rfl, h', tk, c, rfl, hS', g', hk'⟩ := hr₂
        repeat (any_goals (first | assumption | wp_step))
        exact h _ _ _ hS' g' hk'
end
end AL
/-! sorted(set(xs)), xs[::-1]: read on data. -/
namespace AL
open PySem PySem.Spec L2
open PyProof.Rows hiding St
def rSetL (K : PySem.W.Frag) (w : World) : List V → Hp → VK → Prop := fun vs H Q => ∃ (a : Addr) (ns : List Int), vs = [V.ref a] ∧ SqL K H a (ns.map V.int) ∧ ns.length < 60 ∧
  ∀ (p : Addr) (c : Nat), c ≤ ns.length → H p = none → Q (.ref p) (upd H p (SetO w p (fun j => decide (j ∈ ns)) c))
theorem cr_setL {X : Cx} (hc : X.calm = true) : CallR X (.type "set") (rSetL X.K X.w) := by
  intro pins s σ H vs us Q I r h
  obtain ⟨a, ns, rfl, hs, hl, q⟩ := h
  obtain ⟨its, rv, pl, hz⟩ := I.list hs
  rw [Vals.ref1 r]
  refine call_set_ls (I.ok.hd hc) pl.isList (ns := ns) (by simpa using rv.ints) (by unfold scanBound; omega) fun h' tk c R hc' hk => ?_
  exact ⟨.ref s.heap.objs.size, upd H s.heap.objs.size (SetO X.w s.heap.objs.size (fun j => decide (j ∈ ns)) c), I.laid (t' := tk) hk (Nat.le_refl _) (setO_new R), rfl, q _ c hc' (I.hok.fresh (Nat.le_refl _))⟩
theorem dda_ints {K : PySem.W.Frag} {Z : Hp} : ∀ ns : List Int, DdA K Z (ns.map V.int) (ns.map PyData.int)
  | [] => .nil
  | n :: ns => .cons (Dd.int n) (dda_ints ns)
theorem DdA.reverse {K : PySem.W.Frag} {Z : Hp} : ∀ {ds : List PyData} {vs : List V}, DdA K Z vs ds → DdA K Z vs.reverse ds.reverse
  | [], _, h => by cases h; exact .nil
  | d :: ds, _, h => by
    cases h with
    | cons h1 h2 =>
      rw [List.reverse_cons, List.reverse_cons]
      exact (DdA.reverse h2).append (.cons h1 .nil)
section
variable {X : Cx} {C : Ct} {g : Gm} {e : Expr} {pos p p2 p3 : PySem.Pos} {Q : Av → Gm → Prop} {QL : List PyData → Gm → Prop}
theorem en_sortSet (n1 : Bn X "sorted") (n2 : Bn X "set") (hc : X.calm = true) (h : EE X C e g fun x g1 => ∃ ns : List Int, KL g1 x (ns.map PyData.int) ∧ ns.length < 60 ∧ ∀ r : List Int, r.Pairwise (· < ·) → (∀ k, k ∈ r ↔ k ∈ ns) → QL (r.map PyData.int) g1)
    (he : starEach [e] X.env = (false, eval e X.env) :: starEach [] X.env := by rfl) (he2 : starEach [Expr.Call (.Name "set" p2) [e] [] p3] X.env = (false, eval (Expr.Call (.Name "set" p2) [e] [] p3) X.env) :: starEach [] X.env := by rfl) : EN X C (.Call (.Name "sorted" p) [.Call (.Name "set" p2) [e] [] p3] [] pos) g QL :=
  EN.of (pe_callB (cr_sortedSet hc) n1.gl n1.mg (by decide +kernel) (pa_cons (pe_callTy (T := "set") (cr_setL hc) n2.gl n2.mg (by decide +kernel) (pa_cons pe_t pa_nil he) n2.n1 n2.d1 he rfl) pa_nil he2) n1.n1 n1.d1 he2 rfl) fun σ H Z I P pp => h σ H Z I _ fun v H1 Z1 x g1 I1 s1 a1 q1 => by
    obtain ⟨ns, kl, hl, q⟩ := q1
    have fin : ∀ ad xs, v = .ref ad → SqL X.K H1 ad xs → DdA X.K Z1 xs (ns.map PyData.int) → rSetL X.K X.w [v] H1 fun y H2 => rSortedSet X.w [y] H2 P := fun ad xs e1 h1 h2 => by
      have e2 := h2.ints
      subst e2 e1
      refine ⟨ad, ns, rfl, h1, hl, fun p1 c hc1 hp1 => ⟨p1, _, c, rfl, upd_same, by omega, fun r q2 r1 r2 r3 r4 => ?_⟩⟩
      have I2 : Ok X.K C g1 σ (upd H1 p1 (SetO X.w p1 (fun j => decide (j ∈ ns)) c)) Z1 := I1.newO hp1
      obtain ⟨m1, m2, m3⟩ := I2.new r4
      exact pp q2 _ Z1 (r.map PyData.int) g1 (I2.newO r4) s1 ⟨⟨_, upd_same, dda_ints r⟩, m1, m2, m3⟩ (q r r1 fun k => by rw [r2 k]; simp)
    rcases kl with rfl | ⟨j, w', rfl, hj⟩
    · have h' : Dd X.K Z1 v (.list (ns.map PyData.int)) := a1
      cases h' with
      | @lst ad xs _ b1 b2 => exact fin ad xs rfl (SqL.of (I1.fz _ _ b1)) b2
    · obtain ⟨ad, xs, e1, o2, o3, o4, o5⟩ := I1.own hj a1
      exact fin ad xs e1 (SqL.of o2) o4
/-- xs[::-1] of a list -/
theorem ee_revL {kk : Nat} {p1 : PySem.Pos} (h : EE X C e g fun x g1 => ∃ ds, KL g1 x ds ∧ Q (.d (.list ds.reverse)) g1) : EE X C (.Subscript e (.Slice none none (some (.UnaryOp .USub (.Constant (.int 1) kk p1) p2)) p3) pos) g Q :=
  EE.of (pe_revL pe_t) fun σ H Z I P pp => h σ H Z I _ fun v H1 Z1 x g1 I1 s1 a1 q1 => by
    obtain ⟨ds, kl, q⟩ := q1
    have fin : ∀ ad xs, v = .ref ad → SqL X.K H1 ad xs → DdA X.K Z1 xs ds → ∃ a xs, v = .ref a ∧ SqL X.K H1 a xs ∧ ∀ p, H1 p = none → P (.ref p) (upd H1 p (.lst xs.reverse)) := fun ad xs e1 h1 h2 => by
      refine ⟨ad, xs, e1, h1, fun t ht => ?_⟩
      obtain ⟨m1, m2, m3⟩ := I1.new ht
      have I2 : Ok X.K C g1 σ (upd H1 t (.lst xs.reverse)) Z1 := I1.newO ht
      obtain ⟨Z', I3, s3, d3⟩ := I2.frzN (p := t) (ds := ds.reverse) ⟨⟨_, upd_same, h2.reverse⟩, m1, m2, m3⟩
      exact pp _ _ Z' (.d (.list ds.reverse)) g1 I3 (s1.trans s3) d3 q
    rcases kl with rfl | ⟨j, w', rfl, hj⟩
    · have h' : Dd X.K Z1 v (.list ds) := a1
      cases h' with
      | @lst ad xs _ b1 b2 => exact fin ad xs rfl (SqL.of (I1.fz _ _ b1)) b2
    · obtain ⟨ad, xs, e1, o2, o3, o4, o5⟩ := I1.own hj a1
      exact fin ad xs e1 (SqL.of o2) o4
end
end AL
/-! k72: for the walk. -/
namespace AL
open PySem PySem.Spec L2
theorem takeWhile_len {p : Rat → Bool} : ∀ {l : List Rat} {j : Nat}, j ≤ l.length → (∀ m, m < j → p (l.getD m 0) = true) → (j < l.length → p (l.getD j 0) = false) → (l.takeWhile p).length = j
  | [], j, h, _, _ => by simp at h; subst h; rfl
  | x :: l, 0, _, _, h2 => by
    have := h2 (by simp)
    rw [List.takeWhile_cons_of_neg (by simpa using this)]; rfl
  | x :: l, j + 1, h, h1, h2 => by
    have := h1 0 (by omega)
    rw [List.takeWhile_cons_of_pos (by simpa using this), List.length_cons, takeWhile_len (j := j) (by simpa using h) (fun m hm => by simpa using h1 (m + 1) (by omega)) (fun hj => by simpa using h2 (by simpa using hj))]
theorem insA_at {up : Bool} {l : List Rat} {x : Rat} {j : Nat} (h : j ≤ l.length) (h1 : ∀ m, m < j → ahead up (l.getD m 0) x = false) (h2 : j < l.length → ahead up (l.getD j 0) x = true) : insA up l x = l.take j ++ x :: l.drop j := by
  unfold insA
  rw [takeWhile_len h (fun m hm => by rw [h1 m hm]; rfl) (fun hj => by rw [h2 hj]; rfl)]
theorem sortA_take {up : Bool} {ts : List Rat} {i : Nat} {t : Rat} (h : ts[i]? = some t) : (ts.take (i + 1)).foldl (insA up) [] = insA up ((ts.take i).foldl (insA up) []) t := by
  rw [List.take_add_one, h]
  simp [List.foldl_append]
theorem sortA_len {up : Bool} (ts : List Rat) : (ts.foldl (insA up) []).length = ts.length := by
  have := (sortA_to (up := up) ts [] List.Pairwise.nil).2.length_eq
  simpa using this
theorem sortA_mem {up : Bool} {ts : List Rat} {t : Rat} (h : t ∈ ts.foldl (insA up) []) : t ∈ ts := by
  have := (sortA_to (up := up) ts [] List.Pairwise.nil).2.mem_iff.mp h
  simpa using this
theorem fr_ins (l : List Rat) (j : Nat) (x : Rat) : (l.map fr).take j ++ fr x :: (l.map fr).drop j = (l.take j ++ x :: l.drop j).map fr := by simp [List.map_take, List.map_drop]
theorem at_fr {l : List Rat} {j : Nat} (h : j < l.length) : atI (l.map fr) (j : Int) = some (fr (l.getD j 0)) := by
  refine atI_nat ?_
  rw [List.getElem?_map, List.getD_eq_getElem?_getD, List.getElem?_eq_getElem h]; rfl
/-- sign * (one - found) > 0 -/
theorem sign_up {p q : Rat} : (1 * (p.num * (q.den : Int) - q.num * (p.den : Int)) > 0) ↔ ahead true q p = true := by
  rw [Int.one_mul, ahead_iff, ltf_true, ← fr_lt]
  constructor <;> intro h <;> omega
theorem sign_dn {p q : Rat} : (-1 * (p.num * (q.den : Int) - q.num * (p.den : Int)) > 0) ↔ ahead false q p = true := by
  have : ahead false q p = ahead true p q := by simp [ahead]
  rw [this, ahead_iff, ltf_true, ← fr_lt]
  constructor <;> intro h <;> omega
section
variable {L : List Bl} {b : Nat} {S : Int}
theorem avg_Pv (hS0 : 0 < S) (hb : siz L b = S) : ∀ l : List Nat, (∀ o ∈ l, siz L o = S) → (l.map (tmp L)).foldl avg (tmp L b) = Pv L b l := by
  intro l
  induction l using snoc_ind with
  | h0 => intro _; rfl
  | h1 l o ih =>
    intro h
    rw [List.map_append, List.foldl_append, ih fun q hq => h q (by simp [hq]), Pv_snoc, hb, h o (by simp), mix_avg hS0]
    rfl
end
theorem others_eq (L : List Bl) (b : Nat) : ∀ n : Nat, ((List.range n).filterMap fun k => if k = b then none else some (fr (tmp L k))) = (((List.range n).filter fun o => decide (o ≠ b)).map (tmp L)).map fr
  | 0 => rfl
  | n + 1 => by
    rw [List.range_succ, List.filterMap_append, List.filter_append, List.map_append, List.map_append, others_eq L b n]
    by_cases h : n = b <;> simp [h]
theorem some_eq (p : Rat → Bool) : ∀ l : List Rat, (l.filterMap fun t => if p t = true then some (fr t) else none) = (l.filter p).map fr
  | [] => rfl
  | t :: l => by
    by_cases h : p t = true
    · rw [List.filterMap_cons, if_pos h, List.filter_cons_of_pos h, some_eq p l]; rfl
    · rw [List.filterMap_cons, if_neg h, List.filter_cons_of_neg h, some_eq p l]
end AL
/-! k72: the drawn state. -/
namespace AL
open PySem PySem.Spec L2
/-- n drawn blocks of one size -/
def eqN (S : Int) : Nat → Pl → List Bl × Pl
  | 0, p => ([], p)
  | n + 1, p => ((eqN S n p).1 ++ [(S, shareS (eqN S n p).2)], shareP (eqN S n p).2)
theorem eqN_ok {S : Int} {p : Pl} (h : p.Ok) : ∀ n : Nat, (eqN S n p).2.Ok
  | 0 => h
  | n + 1 => shareP_ok (eqN_ok h n)
theorem eqN_len (S : Int) (p : Pl) : ∀ n : Nat, (eqN S n p).1.length = n
  | 0 => rfl
  | n + 1 => by
    show ((eqN S n p).1 ++ [_]).length = _
    rw [List.length_append, eqN_len S p n]; rfl
theorem eqN_each (S : Int) (p : Pl) : ∀ (n : Nat) (b : Bl), b ∈ (eqN S n p).1 → b.1 = S ∧ Rb 40 b.2
  | 0, b, h => by simp [eqN] at h
  | n + 1, b, h => by
    have h' : b ∈ (eqN S n p).1 ++ [(S, shareS (eqN S n p).2)] := h
    rw [List.mem_append, List.mem_singleton] at h'
    rcases h' with h' | rfl
    · exact eqN_each S p n b h'
    · exact ⟨rfl, shareS_rb⟩
theorem eqN_st {S : Int} {p : Pl} {n : Nat} (hS : Sz S) (h1 : 1 ≤ n) (h2 : n ≤ 12) : OkSt 900 (eqN S n p).1 :=
  (OkSt.of_rb (m := 40) (by rw [eqN_len]; exact h1) (by rw [eqN_len]; exact h2) fun b hb => by
    obtain ⟨h, k⟩ := eqN_each S p n b hb
    exact ⟨by rw [h]; exact hS, k⟩).mono (by decide)
theorem eqN_siz {S : Int} {p : Pl} {n o : Nat} (h : o < (eqN S n p).1.length) : siz (eqN S n p).1 o = S := by
  unfold siz
  rw [getD_eq h]
  exact (eqN_each S p n _ (List.getElem_mem h)).1
end AL
/-! The heat that an amount of size can hold: how it is computed, and that averaging never raises it. -/
namespace AL
open PySem PySem.Spec L2
/-! ### blocks in descending order -/
def dscC (l : List Bl) (b : Bl) : Nat := (l.filter fun a => decide (b.2 < a.2)).length
def dscIns (l : List Bl) (b : Bl) : List Bl := l.take (dscC l b) ++ b :: l.drop (dscC l b)
def dscL (L : List Bl) : List Bl := L.foldl dscIns []
def Des (l : List Bl) : Prop := l.Pairwise fun a b => b.2 ≤ a.2
theorem dscC_le (l : List Bl) (b : Bl) : dscC l b ≤ l.length := List.length_filter_le ..
theorem dscIns_perm (l : List Bl) (b : Bl) : (dscIns l b).Perm (b :: l) := by
  unfold dscIns
  exact List.perm_middle.trans ((List.Perm.of_eq (List.take_append_drop _ _)).cons b)
/-- in a descending row the warmer ones stand first -/
theorem des_split {l : List Bl} {b : Bl} (h : Des l) : l.take (dscC l b) = l.filter (fun a => decide (b.2 < a.2)) ∧ l.drop (dscC l b) = l.filter (fun a => !decide (b.2 < a.2)) := by
  unfold dscC
  refine filter_take (α := Bl) (R := fun (a c : Bl) => c.2 ≤ a.2) (p := fun (a : Bl) => decide (b.2 < a.2)) (fun x y hxy hy => ?_) h
  simp only [decide_eq_true_eq] at hy ⊢
  grind
theorem dscIns_des {l : List Bl} {b : Bl} (h : Des l) : Des (dscIns l b) := by
  unfold dscIns Des
  obtain ⟨e1, e2⟩ := des_split (b := b) h
  rw [e1, e2, List.pairwise_append, List.pairwise_cons]
  refine ⟨h.filter _, ⟨fun c hc => ?_, h.filter _⟩, fun a ha c hc => ?_⟩
  · have := (List.mem_filter.mp hc).2
    simp at this
    grind
  · have h1 := (List.mem_filter.mp ha).2
    simp only [decide_eq_true_eq] at h1
    rcases List.mem_cons.mp hc with rfl | hc
    · grind
    · have h2 := (List.mem_filter.mp hc).2
      simp at h2
      grind
theorem dscF {L : List Bl} : ∀ {acc : List Bl}, Des acc → Des (L.foldl dscIns acc) ∧ (L.foldl dscIns acc).Perm (L ++ acc) := by
  induction L with
  | nil => intro acc h; exact ⟨h, List.Perm.refl _⟩
  | cons b L ih =>
    intro acc h
    obtain ⟨h1, h2⟩ := ih (dscIns_des (b := b) h)
    refine ⟨h1, h2.trans ?_⟩
    exact (List.Perm.append_left L (dscIns_perm acc b)).trans List.perm_middle
theorem dscL_des (L : List Bl) : Des (dscL L) := (dscF (acc := []) List.Pairwise.nil).1
theorem dscL_perm (L : List Bl) : (dscL L).Perm L := by
  have h := (dscF (L := L) (acc := []) List.Pairwise.nil).2
  rw [List.append_nil] at h
  exact h
theorem dscL_len (L : List Bl) : (dscL L).length = L.length := (dscL_perm L).length_eq
theorem dsc_take {L : List Bl} {i : Nat} {b : Bl} (h : L[i]? = some b) : dscL (L.take (i + 1)) = dscIns (dscL (L.take i)) b := by
  unfold dscL
  rw [List.take_add_one, h]
  simp [List.foldl_append]
/-! ### the heat of an amount -/
abbrev prt (s x : Int) : Int := if x < s then x else s
def hstep (a : Rat × Int) (b : Bl) : Rat × Int := (a.1 + ((prt b.1 a.2 : Int) : Rat) * b.2, a.2 - prt b.1 a.2)
def hoa (l : List Bl) (x : Int) : Rat := (l.foldl hstep (0, x)).1
def hr : List Bl → Int → Rat
  | [], _ => 0
  | b :: l, x => ((prt b.1 x : Int) : Rat) * b.2 + hr l (x - prt b.1 x)
theorem hfold : ∀ (l : List Bl) (a : Rat) (x : Int), (l.foldl hstep (a, x)).1 = a + hr l x
  | [], a, x => by show a = a + 0; grind
  | b :: l, a, x => by
    show (l.foldl hstep (a + ((prt b.1 x : Int) : Rat) * b.2, x - prt b.1 x)).1 = a + (((prt b.1 x : Int) : Rat) * b.2 + hr l (x - prt b.1 x))
    rw [hfold l]; grind
theorem hoa_hr (l : List Bl) (x : Int) : hoa l x = hr l x := by unfold hoa; rw [hfold]; grind
def tot (l : List Bl) : Int := l.foldr (fun b a => b.1 + a) 0
theorem tot_cons (b : Bl) (l : List Bl) : tot (b :: l) = b.1 + tot l := rfl
theorem tot_app (l m : List Bl) : tot (l ++ m) = tot l + tot m := by
  induction l with
  | nil => show tot m = 0 + tot m; omega
  | cons b l ih => rw [List.cons_append, tot_cons, tot_cons, ih]; omega
theorem tot_perm {l m : List Bl} (h : l.Perm m) : tot l = tot m := by
  induction h with
  | nil => rfl
  | cons x _ ih => rw [tot_cons, tot_cons, ih]
  | swap x y l => rw [tot_cons, tot_cons, tot_cons, tot_cons]; omega
  | trans _ _ ih1 ih2 => exact ih1.trans ih2
theorem tot_nn {l : List Bl} (h : Pos l) : 0 ≤ tot l := by
  induction l with
  | nil => exact Int.le_refl 0
  | cons b l ih =>
    have := h b (by simp)
    have := ih fun p hp => h p (by simp [hp])
    rw [tot_cons]; omega
/-- the part above t -/
def pst (x : Rat) : Rat := if 0 < x then x else 0
theorem pst_nn (x : Rat) : 0 ≤ pst x := by unfold pst; split <;> grind
theorem pst_ge (x : Rat) : x ≤ pst x := by unfold pst; split <;> grind
def phi (t : Rat) (l : List Bl) : Rat := l.foldr (fun b a => (b.1 : Rat) * pst (b.2 - t) + a) 0
theorem phi_cons (t : Rat) (b : Bl) (l : List Bl) : phi t (b :: l) = (b.1 : Rat) * pst (b.2 - t) + phi t l := rfl
theorem phi_perm {t : Rat} {l m : List Bl} (h : l.Perm m) : phi t l = phi t m := by
  induction h with
  | nil => rfl
  | cons x _ ih => rw [phi_cons, phi_cons, ih]
  | swap x y l => rw [phi_cons, phi_cons, phi_cons, phi_cons]; grind
  | trans _ _ ih1 ih2 => exact ih1.trans ih2
/-- no more than so -/
theorem hr_le (t : Rat) : ∀ {l : List Bl} {x : Int}, Pos l → 0 ≤ x → x ≤ tot l → hr l x ≤ t * (x : Rat) + phi t l
  | [], x, _, h0, h1 => by
    have h2 : x ≤ 0 := h1
    have : x = 0 := by omega
    subst this
    show (0 : Rat) ≤ t * ((0 : Int) : Rat) + 0
    have : ((0 : Int) : Rat) = 0 := rfl
    grind
  | b :: l, x, z, h0, h1 => by
    have zb := z b (by simp)
    rw [tot_cons] at h1
    have tl := tot_nn (l := l) fun p hp => z p (by simp [hp])
    obtain ⟨p, hp⟩ : ∃ p, p = prt b.1 x := ⟨_, rfl⟩
    have p0 : 0 ≤ p := by rw [hp]; unfold prt; split <;> omega
    have p1 : p ≤ b.1 := by rw [hp]; unfold prt; split <;> omega
    have p2 : 0 ≤ x - p ∧ x - p ≤ tot l := by rw [hp]; unfold prt; split <;> omega
    have ih := hr_le t (l := l) (x := x - p) (fun q hq => z q (by simp [hq])) p2.1 p2.2
    show ((prt b.1 x : Int) : Rat) * b.2 + hr l (x - prt b.1 x) ≤ _
    rw [← hp, phi_cons]
    rw [Rat.intCast_sub] at ih
    have q0 : (0 : Rat) ≤ (p : Rat) := Rat.intCast_nonneg.mpr p0
    have q1 : (p : Rat) ≤ (b.1 : Rat) := Rat.intCast_le_intCast.mpr p1
    have key : (p : Rat) * (b.2 - t) ≤ (b.1 : Rat) * pst (b.2 - t) := by
      have a1 := Rat.mul_le_mul_of_nonneg_left (pst_ge (b.2 - t)) q0
      have a2 := Rat.mul_le_mul_of_nonneg_right q1 (pst_nn (b.2 - t))
      exact Rat.le_trans a1 a2
    grind
theorem hr_zero : ∀ {l : List Bl}, Pos l → hr l 0 = 0
  | [], _ => rfl
  | b :: l, z => by
    have zb := z b (by simp)
    have e : prt b.1 0 = 0 := by unfold prt; rw [if_pos zb]
    show ((prt b.1 0 : Int) : Rat) * b.2 + hr l (0 - prt b.1 0) = 0
    rw [e, show (0 : Int) - 0 = 0 by omega, hr_zero fun p hp => z p (by simp [hp])]
    have : ((0 : Int) : Rat) = 0 := rfl
    grind
theorem phi_zero {t : Rat} : ∀ {l : List Bl}, (∀ b ∈ l, b.2 ≤ t) → phi t l = 0
  | [], _ => rfl
  | b :: l, h => by
    have h1 := h b (by simp)
    rw [phi_cons, phi_zero fun c hc => h c (by simp [hc])]
    have : pst (b.2 - t) = 0 := by unfold pst; rw [if_neg (by grind)]
    rw [this]; grind
/-- .. and so much, for some block's temperature -/
theorem hr_eq : ∀ {l : List Bl} {x : Int}, Des l → Pos l → l ≠ [] → 0 ≤ x → x ≤ tot l → ∃ b ∈ l, hr l x = b.2 * (x : Rat) + phi b.2 l
  | [], _, _, _, h, _, _ => absurd rfl h
  | b :: l, x, hd, z, _, h0, h1 => by
    have zb := z b (by simp)
    unfold Des at hd
    rw [List.pairwise_cons] at hd
    obtain ⟨hd1, hd2⟩ := hd
    have zl : Pos l := fun p hp => z p (by simp [hp])
    by_cases hx : x ≤ b.1
    · refine ⟨b, by simp, ?_⟩
      have e : prt b.1 x = x := by unfold prt; split <;> omega
      show ((prt b.1 x : Int) : Rat) * b.2 + hr l (x - prt b.1 x) = _
      rw [e, show x - x = 0 by omega, hr_zero zl, phi_cons, phi_zero hd1]
      have : pst (b.2 - b.2) = 0 := by unfold pst; rw [if_neg (by grind)]
      rw [this]; grind
    · rw [tot_cons] at h1
      have hl : l ≠ [] := fun e => by subst e; have : x ≤ b.1 + 0 := h1; omega
      have e : prt b.1 x = b.1 := by unfold prt; rw [if_neg (by omega)]
      obtain ⟨c, hc, ih⟩ := hr_eq (l := l) (x := x - b.1) hd2 zl hl (by omega) (by omega)
      refine ⟨c, by simp [hc], ?_⟩
      show ((prt b.1 x : Int) : Rat) * b.2 + hr l (x - prt b.1 x) = _
      rw [e, ih, phi_cons, Rat.intCast_sub]
      have := hd1 c hc
      have p : pst (b.2 - c.2) = b.2 - c.2 := by unfold pst; split <;> grind
      rw [p]; grind
/-- what holds no more above every temperature holds no more of any amount -/
theorem hoa_maj {l m : List Bl} {x : Int} (dl : Des l) (zl : Pos l) (zm : Pos m) (hl : l ≠ []) (ht : tot m = tot l) (h : ∀ t, phi t m ≤ phi t l) (h0 : 0 ≤ x) (h1 : x ≤ tot l) : hoa m x ≤ hoa l x := by
  rw [hoa_hr, hoa_hr]
  obtain ⟨b, _, e⟩ := hr_eq dl zl hl h0 h1
  rw [e]
  have := hr_le b.2 zm h0 (by rw [ht]; exact h1)
  have := h b.2
  grind
/-! ### two blocks brought together -/
theorem pst_cvx {p q u t : Rat} (h1 : p ≤ u) (h2 : u ≤ q) : pst (u - t) * (q - p) ≤ (u - p) * pst (q - t) + (q - u) * pst (p - t) := by
  have a1 := Rat.mul_nonneg (show 0 ≤ u - p by grind) (show 0 ≤ pst (q - t) from pst_nn _)
  have a2 := Rat.mul_nonneg (show 0 ≤ q - u by grind) (show 0 ≤ pst (p - t) from pst_nn _)
  by_cases hu : 0 < u - t
  · have e : pst (u - t) = u - t := by unfold pst; rw [if_pos hu]
    have b1 := Rat.mul_le_mul_of_nonneg_left (pst_ge (q - t)) (show 0 ≤ u - p by grind)
    have b2 := Rat.mul_le_mul_of_nonneg_left (pst_ge (p - t)) (show 0 ≤ q - u by grind)
    rw [e]; grind
  · have e : pst (u - t) = 0 := by unfold pst; rw [if_neg hu]
    rw [e]; grind
theorem pst_two {S s p q u v t : Rat} (hS : 0 < S) (hs : 0 < s) (he : S * u + s * v = S * p + s * q) (h1 : p ≤ u) (h2 : u ≤ q) (h3 : p ≤ v) (h4 : v ≤ q) : S * pst (u - t) + s * pst (v - t) ≤ S * pst (p - t) + s * pst (q - t) := by
  by_cases hpq : p = q
  · have e1 : u = p := by grind
    have e2 : v = p := by grind
    subst hpq; subst e1; subst e2
    exact Rat.le_refl
  · have hlt : 0 < q - p := by grind
    have c1 := Rat.mul_le_mul_of_nonneg_left (pst_cvx (t := t) h1 h2) (Rat.le_of_lt hS)
    have c2 := Rat.mul_le_mul_of_nonneg_left (pst_cvx (t := t) h3 h4) (Rat.le_of_lt hs)
    have k1 : (S * u + s * v) * pst (q - t) = (S * p + s * q) * pst (q - t) := by rw [he]
    have k2 : (S * u + s * v) * pst (p - t) = (S * p + s * q) * pst (p - t) := by rw [he]
    have key : (S * pst (u - t) + s * pst (v - t)) * (q - p) ≤ (S * pst (p - t) + s * pst (q - t)) * (q - p) := by grind
    exact Rat.le_of_mul_le_mul_right key hlt
end AL
/-! unreachable_reason: what its parts compute. -/
namespace AL
open PySem PySem.Spec L2
/-! ### sums of fractions with a common denominator -/
theorem den_of {q : Rat} {E : Nat} {k : Int} (hE : 0 < E) (h : q * ((E : Int) : Rat) = (k : Rat)) : q.den ∣ E := by
  have hd : (0 : Rat) < ((E : Int) : Rat) := Rat.intCast_pos.mpr (by omega)
  have key : q = Rat.divInt k (E : Int) := by rw [Rat.divInt_eq_div]; exact eq_div_of (by grind) h
  rw [key, Rat.den_divInt, if_neg (by omega)]
  have : ((E : Int)).natAbs = E := by omega
  rw [this]
  refine Nat.div_dvd_of_dvd ?_
  rw [← this]
  exact Int.gcd_dvd_natAbs_left _ _
section
variable {E F n m : Nat} {p q : Rat}
theorem Gr.up (h : Gr E n p) (hE : E ∣ F) (hn : n ≤ m) : Gr F m p := ⟨Nat.dvd_trans h.dv hE, h.bd.mono hn⟩
theorem Gr.zero : Gr E n 0 := ⟨by show 1 ∣ E; exact Nat.one_dvd _, by
  have h : (0 : Rat) ≤ ((2 ^ n : Int) : Rat) := Rat.intCast_nonneg.mpr (Int.pow_nonneg (by decide))
  exact ⟨by grind, h⟩⟩
theorem two_succ (n : Nat) : ((2 ^ (n + 1) : Int) : Rat) = ((2 ^ n : Int) : Rat) + ((2 ^ n : Int) : Rat) := by
  rw [← Rat.intCast_add]; congr 1; omega
theorem Gr.sub (hE : 0 < E) (h : Gr E n p) (k : Gr E n q) : Gr E (n + 1) (p - q) := by
  have := h.add hE k.neg
  rwa [← Rat.sub_eq_add_neg] at this
/-- s times, s below 128 -/
theorem Gr.smul {s : Int} (hE : 0 < E) (hs : 0 ≤ s ∧ s < 128) (h : Gr E n p) : Gr E (n + 7) ((s : Rat) * p) := by
  obtain ⟨a, ha⟩ := h.dv
  refine ⟨den_of hE (k := s * (p.num * a)) ?_, ?_⟩
  · rw [Rat.intCast_mul, ← mul_dvd ha]; grind
  · have e : ((2 ^ (n + 7) : Int) : Rat) = (128 : Rat) * ((2 ^ n : Int) : Rat) := by
      rw [show (128 : Rat) = ((128 : Int) : Rat) from rfl, ← Rat.intCast_mul]; congr 1; rw [Int.pow_add]; omega
    have s0 : (0 : Rat) ≤ (s : Rat) := Rat.intCast_nonneg.mpr hs.1
    have s1 : (s : Rat) ≤ (128 : Rat) := Rat.intCast_le_intCast.mpr (show s ≤ (128 : Int) by omega)
    obtain ⟨h1, h2⟩ := h.bd
    have t0 : (0 : Rat) ≤ ((2 ^ n : Int) : Rat) := by grind
    rw [show Bd (n + 7) ((s : Rat) * p) ↔ _ from Iff.rfl]
    unfold Bd
    rw [e]
    have a1 := Rat.mul_le_mul_of_nonneg_left h2 s0
    have a2 := Rat.mul_le_mul_of_nonneg_left h1 s0
    have a3 := Rat.mul_le_mul_of_nonneg_right s1 t0
    exact ⟨by grind, by grind⟩
end
/-! ### the heat -/
def heatF (l : List Bl) : Rat := l.foldl (fun a b => a + (b.1 : Rat) * b.2) 0
def heatS (l : List Bl) : Rat := l.foldr (fun b a => (b.1 : Rat) * b.2 + a) 0
theorem heatF_eq (l : List Bl) : heatF l = heatS l := by
  have key : ∀ (l : List Bl) (a : Rat), l.foldl (fun a b => a + (b.1 : Rat) * b.2) a = a + heatS l := by
    intro l
    induction l with
    | nil => intro a; show a = a + 0; grind
    | cons b l ih => intro a; rw [List.foldl_cons, ih]; show _ = a + ((b.1 : Rat) * b.2 + heatS l); grind
  unfold heatF
  rw [key]; grind
theorem fold_gr {E n : Nat} (hE : 0 < E) : ∀ (l : List Rat) (k : Nat) (a : Rat), Gr E (n + k) a → (∀ q ∈ l, Gr E n q) → Gr E (n + k + l.length) (l.foldl (· + ·) a)
  | [], k, a, h, _ => h
  | q :: l, k, a, h, hl => by
    have := fold_gr hE l (k + 1) (a + q) ((h.add hE ((hl q (by simp)).up (Nat.dvd_refl _) (by omega))).up (Nat.dvd_refl _) (by omega)) fun r hr => hl r (by simp [hr])
    exact this.up (Nat.dvd_refl _) (by rw [List.length_cons]; omega)
/-- sums of so many parts -/
theorem sum_gr {E n : Nat} (hE : 0 < E) {l : List Rat} (h : ∀ q ∈ l, Gr E n q) : Gr E (n + l.length) (l.foldl (· + ·) 0) := by
  have := fold_gr (n := n) hE l 0 0 Gr.zero h
  exact this.up (Nat.dvd_refl _) (by omega)
/-- the shares of the heat -/
def heatL (L : List Bl) : List Rat := L.map fun b => (b.1 : Rat) * b.2
theorem heatL_sum (L : List Bl) : (heatL L).foldl (· + ·) 0 = heatF L := by unfold heatL heatF; rw [List.foldl_map]
theorem heatL_gr {n E : Nat} {L : List Bl} (hE : 0 < E) (hs : ∀ b ∈ L, Sz b.1) (h : ∀ b ∈ L, Gr E n b.2) : ∀ q ∈ heatL L, Gr E (n + 7) q := fun q hq => by
  obtain ⟨b, hb, rfl⟩ := List.mem_map.mp hq
  have := hs b hb
  unfold Sz at this
  exact (h b hb).smul hE (by omega)
/-- partial sums of fractions -/
def sumTo (l : List Rat) (i : Nat) : Rat := (l.take i).foldl (· + ·) 0
theorem sumTo_succ {l : List Rat} {i : Nat} {q : Rat} (h : l[i]? = some q) : sumTo l (i + 1) = sumTo l i + q := by
  unfold sumTo
  rw [List.take_add_one, h]
  simp [List.foldl_append]
theorem sumTo_all (l : List Rat) : sumTo l l.length = l.foldl (· + ·) 0 := by unfold sumTo; rw [List.take_length]
/-! ### heat of an amount -/
theorem prt_nn {s x : Int} (hs : 0 < s) (hx : 0 ≤ x) : 0 ≤ prt s x ∧ prt s x ≤ s ∧ prt s x ≤ x := by unfold prt; split <;> omega
def hto (l : List Bl) (x : Int) (i : Nat) : Rat × Int := (l.take i).foldl hstep (0, x)
theorem hto_succ {l : List Bl} {x : Int} {i : Nat} {b : Bl} (h : l[i]? = some b) : hto l x (i + 1) = hstep (hto l x i) b := by
  unfold hto
  rw [List.take_add_one, h]
  simp [List.foldl_append]
theorem hto_all (l : List Bl) (x : Int) : (hto l x l.length).1 = hoa l x := by unfold hto hoa; rw [List.take_length]
theorem hto_nn {l : List Bl} {x : Int} (z : Pos l) (hx : 0 ≤ x) : ∀ i, 0 ≤ (hto l x i).2 ∧ (hto l x i).2 ≤ x
  | 0 => ⟨hx, Int.le_refl _⟩
  | i + 1 => by
    obtain ⟨h1, h2⟩ := hto_nn z hx i
    cases q : l[i]? with
    | none =>
      have : l.take (i + 1) = l.take i := by
        have := List.getElem?_eq_none_iff.mp q
        rw [List.take_of_length_le (by omega), List.take_of_length_le this]
      unfold hto at h1 h2 ⊢
      rw [this]; exact ⟨h1, h2⟩
    | some b =>
      rw [hto_succ q]
      have := prt_nn (z b (List.mem_of_getElem? q)) h1
      show 0 ≤ (hto l x i).2 - prt b.1 (hto l x i).2 ∧ _ ≤ x
      exact ⟨by omega, by show (hto l x i).2 - prt b.1 (hto l x i).2 ≤ x; omega⟩
theorem hto_gr {E n : Nat} {l : List Bl} {x : Int} (hE : 0 < E) (hs : ∀ b ∈ l, Sz b.1) (h : ∀ b ∈ l, Gr E n b.2) (hx : 0 ≤ x) : ∀ i, Gr E (n + 7 + i) (hto l x i).1
  | 0 => Gr.zero
  | i + 1 => by
    have ih := hto_gr hE hs h hx i
    have z : Pos l := fun b hb => by have := hs b hb; unfold Sz at this; omega
    cases q : l[i]? with
    | none =>
      have : l.take (i + 1) = l.take i := by
        have := List.getElem?_eq_none_iff.mp q
        rw [List.take_of_length_le (by omega), List.take_of_length_le this]
      unfold hto at ih ⊢
      rw [this]; exact ih.up (Nat.dvd_refl _) (by omega)
    | some b =>
      rw [hto_succ q]
      have hb := List.mem_of_getElem? q
      have h1 := hs b hb
      unfold Sz at h1
      have h2 := prt_nn (z b hb) (hto_nn z hx i).1
      show Gr E (n + 7 + (i + 1)) ((hto l x i).1 + ((prt b.1 (hto l x i).2 : Int) : Rat) * b.2)
      exact (ih.add hE (((h b hb).smul hE (s := prt b.1 (hto l x i).2) (by omega)).up (Nat.dvd_refl _) (by omega))).up (Nat.dvd_refl _) (by omega)
theorem hoa_gr {E n : Nat} {L : List Bl} {x : Int} (hE : 0 < E) (hl : L.length ≤ 12) (hs : ∀ b ∈ L, Sz b.1) (h : ∀ b ∈ L, Gr E n b.2) (hx : 0 ≤ x) : Gr E (n + 19) (hoa (dscL L) x) := by
  have hp := dscL_perm L
  rw [← hto_all]
  exact (hto_gr hE (fun b hb => hs b (hp.subset hb)) (fun b hb => h b (hp.subset hb)) hx _).up (Nat.dvd_refl _) (by rw [dscL_len]; omega)
/-! ### the points where the slope changes -/
def bpF : List Bl → Int → List Int
  | [], _ => []
  | b :: l, a => (a + b.1) :: bpF l (a + b.1)
def bps (L : List Bl) : List Int := bpF (dscL L) 0
theorem bpF_len : ∀ (l : List Bl) (a : Int), (bpF l a).length = l.length
  | [], _ => rfl
  | b :: l, a => by show (bpF l _).length + 1 = l.length + 1; rw [bpF_len l]
theorem bpF_snoc (b : Bl) : ∀ (l : List Bl) (a : Int), bpF (l ++ [b]) a = bpF l a ++ [a + tot l + b.1]
  | [], a => by show [a + b.1] = [a + 0 + b.1]; rw [Int.add_zero]
  | c :: l, a => by
    show (a + c.1) :: bpF (l ++ [b]) (a + c.1) = (a + c.1) :: (bpF l (a + c.1) ++ [a + tot (c :: l) + b.1])
    rw [bpF_snoc b l, tot_cons, show a + c.1 + tot l + b.1 = a + (c.1 + tot l) + b.1 by omega]
theorem bpF_last : ∀ (l : List Bl) (a : Int), (a :: bpF l a).getLast? = some (a + tot l)
  | [], a => by show some a = some (a + 0); rw [Int.add_zero]
  | b :: l, a => by
    show (a :: (a + b.1) :: bpF l (a + b.1)).getLast? = _
    rw [List.getLast?_cons_cons, bpF_last l, tot_cons]
    congr 1; omega
theorem bpF_mem {e : Int} : ∀ {l : List Bl} {a : Int}, Pos l → e ∈ bpF l a → a < e ∧ e ≤ a + tot l
  | [], a, _, h => by simp [bpF] at h
  | b :: l, a, z, h => by
    have zb := z b (by simp)
    have zl : Pos l := fun p hp => z p (by simp [hp])
    have tl := tot_nn zl
    rw [tot_cons]
    have h' : e = a + b.1 ∨ e ∈ bpF l (a + b.1) := List.mem_cons.mp h
    rcases h' with rfl | h'
    · omega
    · have := bpF_mem zl h'; omega
theorem bps_mem {L : List Bl} {e : Int} (z : Pos L) (h : e ∈ bps L) : 0 < e ∧ e ≤ tot L := by
  have hp := dscL_perm L
  have := bpF_mem (fun b hb => z b (hp.subset hb)) h
  rw [tot_perm hp] at this; omega
/-- all of them, in ascending order -/
def ends (L M : List Bl) : List Int := ((List.range 1300).map fun k => ((k : Nat) : Int)).filter fun e => decide (e ∈ bps L ++ bps M)
theorem ends_pw (L M : List Bl) : (ends L M).Pairwise (· < ·) := by
  unfold ends
  refine List.Pairwise.filter _ ?_
  rw [List.pairwise_map]
  exact List.pairwise_lt_range.imp fun h => by omega
theorem ends_mem {L M : List Bl} {e : Int} (zl : Pos L) (zm : Pos M) (hl : tot L ≤ 1200) (hm : tot M ≤ 1200) : e ∈ ends L M ↔ e ∈ bps L ++ bps M := by
  unfold ends
  rw [List.mem_filter, decide_eq_true_eq]
  refine ⟨fun h => h.2, fun h => ⟨?_, h⟩⟩
  have hb : 0 < e ∧ e ≤ 1200 := by
    rcases List.mem_append.mp h with q | q
    · have := bps_mem zl q; omega
    · have := bps_mem zm q; omega
  rw [List.mem_map]
  exact ⟨e.toNat, List.mem_range.mpr (by omega), by omega⟩
theorem ends_unique {L M : List Bl} {r : List Int} (zl : Pos L) (zm : Pos M) (hl : tot L ≤ 1200) (hm : tot M ≤ 1200) (h1 : r.Pairwise (· < ·)) (h2 : ∀ k, k ∈ r ↔ k ∈ bps L ++ bps M) : r = ends L M :=
  sorted_unique (R := fun a b : Int => a < b) (fun a b h k => by omega) h1 (ends_pw L M) fun x => by rw [h2 x, ends_mem zl zm hl hm]
theorem tot_le {L : List Bl} (hl : L.length ≤ 12) (h : ∀ b ∈ L, Sz b.1) : tot L ≤ 1200 := by
  have key : ∀ l : List Bl, (∀ b ∈ l, Sz b.1) → tot l ≤ 99 * l.length := by
    intro l
    induction l with
    | nil => intro _; exact Int.le_refl 0
    | cons b l ih =>
      intro h
      have h1 := h b (by simp)
      unfold Sz at h1
      have := ih fun c hc => h c (by simp [hc])
      rw [tot_cons, List.length_cons]; omega
  have := key L h
  omega
/-- the first excess -/
def exc (L M : List Bl) (e : Int) : Rat := hoa (dscL M) e - hoa (dscL L) e
def fexG (L M : List Bl) : List Int → Int → Rat → Option Int
  | [], _, _ => none
  | e :: r, a, le => if 0 < (exc L M e).num then some (a + (0 - le.num) * (((exc L M e - le) * Rat.divInt 1 (e - a)).den : Int) / ((le.den : Int) * ((exc L M e - le) * Rat.divInt 1 (e - a)).num) + 1) else fexG L M r e (exc L M e)
def fexc (L M : List Bl) : Option Int := fexG L M (ends L M) 0 0
def optI : Option Int → PyData
  | none => .none
  | some i => .int i
/-- where the loop stands: nothing was found among the first i -/
def fexNo (L M : List Bl) : Prop := ∀ e ∈ ends L M, ¬ 0 < (exc L M e).num
theorem fexG_none {L M : List Bl} : ∀ {r : List Int} {a : Int} {le : Rat}, (∀ e ∈ r, ¬ 0 < (exc L M e).num) → fexG L M r a le = none
  | [], _, _, _ => rfl
  | e :: r, a, le, h => by
    show (if _ then _ else _) = _
    rw [if_neg (h e (by simp))]
    exact fexG_none fun f hf => h f (by simp [hf])
/-! ### the greatest step -/
def rgcd (p q : Rat) : Rat := Rat.divInt (Int.gcd (p.num * (q.den : Int)) (q.num * (p.den : Int))) ((p.den : Int) * (q.den : Int))
def cst (L : List Bl) (i : Nat) : Rat := (L.take i).foldl (fun f b => rgcd f (b.2 - tmp L 0)) 0
def cstep (L : List Bl) : Rat := cst L L.length
theorem cst_succ {L : List Bl} {i : Nat} {b : Bl} (h : L[i]? = some b) : cst L (i + 1) = rgcd (cst L i) (b.2 - tmp L 0) := by
  unfold cst
  rw [List.take_add_one, h]
  simp [List.foldl_append]
theorem rgcd_mul {p q : Rat} {E : Nat} {a b : Int} (hE : 0 < E) (ha : p * ((E : Int) : Rat) = (a : Rat)) (hb : q * ((E : Int) : Rat) = (b : Rat)) : rgcd p q * ((E : Int) : Rat) = ((Int.gcd a b : Nat) : Int) := by
  have hp : (0 : Int) < (p.den : Int) := by have := p.den_pos; omega
  have hq : (0 : Int) < (q.den : Int) := by have := q.den_pos; omega
  have hpq := Int.mul_pos hp hq
  have e1 : a * (p.den : Int) = p.num * (E : Int) := by
    have := mul_den p
    rw [← Rat.intCast_inj, Rat.intCast_mul, Rat.intCast_mul, ← ha, ← this]; grind
  have e2 : b * (q.den : Int) = q.num * (E : Int) := by
    have := mul_den q
    rw [← Rat.intCast_inj, Rat.intCast_mul, Rat.intCast_mul, ← hb, ← this]; grind
  have key : ((Int.gcd (p.num * (q.den : Int)) (q.num * (p.den : Int)) : Nat) : Int) * (E : Int) = ((Int.gcd a b : Nat) : Int) * ((p.den : Int) * (q.den : Int)) := by
    have h1 := Int.gcd_mul_right (p.num * (q.den : Int)) (E : Int) (q.num * (p.den : Int))
    have h2 := Int.gcd_mul_right a ((p.den : Int) * (q.den : Int)) b
    have f1 : p.num * (q.den : Int) * (E : Int) = a * ((p.den : Int) * (q.den : Int)) := by
      rw [show a * ((p.den : Int) * (q.den : Int)) = a * (p.den : Int) * (q.den : Int) by rw [Int.mul_assoc], e1, Int.mul_right_comm]
    have f2 : q.num * (p.den : Int) * (E : Int) = b * ((p.den : Int) * (q.den : Int)) := by
      rw [show b * ((p.den : Int) * (q.den : Int)) = b * (q.den : Int) * (p.den : Int) by rw [Int.mul_assoc, Int.mul_comm (p.den : Int)], e2, Int.mul_right_comm]
    rw [f1, f2, h2] at h1
    have hn1 : ((E : Int)).natAbs = E := by omega
    have hn2 : (((p.den : Int) * (q.den : Int)).natAbs : Int) = (p.den : Int) * (q.den : Int) := Int.natAbs_of_nonneg (Int.le_of_lt hpq)
    rw [hn1] at h1
    have h3 := congrArg (fun z : Nat => (z : Int)) h1
    simp only [Int.natCast_mul] at h3
    rw [hn2] at h3
    exact h3.symm
  unfold rgcd
  have hd : (((p.den : Int) * (q.den : Int) : Int) : Rat) ≠ 0 := by
    intro z
    have z' : (((p.den : Int) * (q.den : Int) : Int) : Rat) = ((0 : Int) : Rat) := z
    rw [Rat.intCast_inj] at z'; omega
  rw [Rat.divInt_eq_div, Rat.div_def, Rat.mul_assoc, Rat.mul_comm _ ((E : Int) : Rat), ← Rat.mul_assoc, ← Rat.intCast_mul, key, Rat.intCast_mul, Rat.mul_assoc, Rat.mul_inv_cancel _ hd, Rat.mul_one]
theorem rgcd_nn (p q : Rat) : 0 ≤ rgcd p q := by
  have hp : (0 : Int) < (p.den : Int) := by have := p.den_pos; omega
  have hq : (0 : Int) < (q.den : Int) := by have := q.den_pos; omega
  unfold rgcd
  exact Rat.divInt_nonneg (by omega) (Int.le_of_lt (Int.mul_pos hp hq))
theorem rgcd_gr {E n : Nat} {p q : Rat} (hE : 0 < E) (h : Gr E n p) (k : Gr E n q) : Gr E n (rgcd p q) := by
  obtain ⟨a, ha⟩ := h.dv
  obtain ⟨b, hb⟩ := k.dv
  have e := rgcd_mul hE (mul_dvd ha) (mul_dvd hb)
  have hd : (0 : Rat) < ((E : Int) : Rat) := Rat.intCast_pos.mpr (by omega)
  refine ⟨den_of hE e, ?_⟩
  have nn := rgcd_nn p q
  have bp := h.bd
  have bq := k.bd
  have ea := mul_dvd ha
  have eb := mul_dvd hb
  generalize p.num * (a : Int) = x at e ea
  generalize q.num * (b : Int) = y at e eb
  have up : ∀ {r : Rat} {z : Int}, Bd n r → r * ((E : Int) : Rat) = (z : Rat) → (z.natAbs : Rat) ≤ ((2 ^ n : Int) : Rat) * ((E : Int) : Rat) := by
    intro r z hb hz
    have h1 := Rat.mul_le_mul_of_nonneg_right hb.2 (Rat.le_of_lt hd)
    have h2 := Rat.mul_le_mul_of_nonneg_right hb.1 (Rat.le_of_lt hd)
    rcases Int.natAbs_eq z with q | q
    · have : ((z.natAbs : Nat) : Rat) = (z : Rat) := by
        rw [show ((z.natAbs : Nat) : Rat) = (((z.natAbs : Nat) : Int) : Rat) from rfl, ← q]
      rw [this]; grind
    · have : ((z.natAbs : Nat) : Rat) = -(z : Rat) := by
        have h5 := congrArg (fun t : Int => (t : Rat)) q
        simp only [Rat.intCast_neg] at h5
        have h6 : ((z.natAbs : Nat) : Rat) = (((z.natAbs : Nat) : Int) : Rat) := rfl
        rw [h6]; grind
      rw [this]; grind
  have fin : ∀ {z : Int}, ((Int.gcd x y : Nat) : Int) ≤ (z.natAbs : Int) → ((z.natAbs : Nat) : Rat) ≤ ((2 ^ n : Int) : Rat) * ((E : Int) : Rat) → rgcd p q ≤ ((2 ^ n : Int) : Rat) := by
    intro z h1 h2
    have h3 : ((((Int.gcd x y : Nat) : Int)) : Rat) ≤ (((z.natAbs : Nat) : Int) : Rat) := Rat.intCast_le_intCast.mpr h1
    rw [← e] at h3
    exact Rat.le_of_mul_le_mul_right (Rat.le_trans h3 h2) hd
  have two : (0 : Rat) ≤ ((2 ^ n : Int) : Rat) := Rat.intCast_nonneg.mpr (Int.pow_nonneg (by decide))
  refine ⟨by grind, ?_⟩
  by_cases hx : x = 0
  · refine fin (z := y) ?_ (up bq eb)
    rw [hx, Int.gcd_zero_left]; exact Int.le_refl _
  · refine fin (z := x) ?_ (up bp ea)
    have : Int.gcd x y ≤ x.natAbs := Nat.gcd_le_left _ (by omega)
    omega
theorem cst_gr {E n : Nat} {L : List Bl} (hE : 0 < E) (h : ∀ b ∈ L, Gr E n b.2) (h0 : Gr E n (tmp L 0)) : ∀ i, Gr E (n + 1) (cst L i)
  | 0 => Gr.zero
  | i + 1 => by
    have ih := cst_gr hE h h0 i
    cases q : L[i]? with
    | none =>
      have : L.take (i + 1) = L.take i := by
        have := List.getElem?_eq_none_iff.mp q
        rw [List.take_of_length_le (by omega), List.take_of_length_le this]
      unfold cst at ih ⊢
      rw [this]; exact ih
    | some b =>
      rw [cst_succ q]
      exact rgcd_gr hE ih ((h b (List.mem_of_getElem? q)).sub hE h0)
theorem cst_nn {L : List Bl} : ∀ i, 0 ≤ cst L i
  | 0 => Rat.le_refl
  | i + 1 => by
    cases q : L[i]? with
    | none =>
      have : L.take (i + 1) = L.take i := by
        have := List.getElem?_eq_none_iff.mp q
        rw [List.take_of_length_le (by omega), List.take_of_length_le this]
      have := cst_nn (L := L) i
      unfold cst at this ⊢
      rw [‹L.take (i + 1) = L.take i›]; exact this
    | some b => rw [cst_succ q]; exact rgcd_nn _ _
/-! ### what is left of a number -/
def remG : Nat → Nat → Nat → Nat
  | 0, n, _ => n
  | f + 1, n, s => if 1 < Nat.gcd n s then remG f (n / Nat.gcd n s) s else n
def remOne (n s : Nat) : Nat := remG n n s
def remN (n : Nat) (l : List Nat) : Nat := l.foldl remOne n
def dvs (L : List Bl) : List Nat := (prsL L.length).map fun t => ((siz L t.1 + siz L t.2) / (Int.gcd (siz L t.1) (siz L t.2) : Int)).toNat
/-- the first block that needs a strange denominator -/
def frg (L M : List Bl) (k : Nat) : Nat := remN (Rat.divInt ((tmp M k - tmp L 0).num * ((cstep L).den : Int)) (((tmp M k - tmp L 0).den : Int) * (cstep L).num)).den (dvs L)
def frgD (L M : List Bl) : PyData := if cstep L = 0 then .none else match (List.range M.length).find? fun k => decide (1 < frg L M k) with
  | none => .none
  | some k => .tuple [.str "part", .int (k : Nat), .int (frg L M k : Nat)]
/-! ### the reason -/
def reaD (L M : List Bl) : PyData :=
  if ¬ L.map (·.1) = M.map (·.1) then .tuple [.str "sizes"]
  else if ¬ heatF L = heatF M then .tuple [.str "heat"]
  else match fexc L M with
    | some x => .tuple [.str "warmest", .int x]
    | none => if M ≠ L ∧ (M.map (·.2)).Nodup then .tuple [.str "last"] else frgD L M
end AL
/-! len(set(xs)): xs a list of numbers, a list of tuples of numbers. -/
namespace AL
open PySem PySem.Spec PyProof.Rows L2
theorem dedup_ok (val : Nat → Int) : ∀ i, (firstMet val i).Nodup ∧ ∀ k, k ∈ firstMet val i ↔ k ∈ (List.range i).map val
  | 0 => ⟨by rw [firstMet_zero]; exact List.nodup_nil, fun k => by rw [firstMet_zero]; simp⟩
  | i + 1 => by
    obtain ⟨nd, mem⟩ := dedup_ok val i
    rw [firstMet_succ, List.range_succ, List.map_append]
    unfold step_dedup
    by_cases hb : (firstMet val i).any (· == val i) = true
    · rw [if_pos hb]
      refine ⟨nd, fun k => ?_⟩
      obtain ⟨y, hy, ey⟩ := List.any_eq_true.mp hb
      have ey : y = val i := eq_of_beq ey
      subst ey
      rw [mem k, List.mem_append]
      constructor
      · exact .inl
      · rintro (q | q)
        · exact q
        · have : k = val i := by simpa using q
          subst this
          exact (mem _).mp hy
    · rw [if_neg hb]
      refine ⟨?_, fun k => ?_⟩
      · rw [List.nodup_append]
        refine ⟨nd, by simp, fun a ha b hb' e => ?_⟩
        have : b = val i := by simpa using hb'
        subst this
        subst e
        exact hb (List.any_eq_true.mpr ⟨_, ha, by simp⟩)
      · rw [List.mem_append, List.mem_append, mem k]; simp
theorem getD_range (ns : List Int) : (List.range ns.length).map (fun i => ns.getD i 0) = ns := by
  refine List.ext_getElem (by simp) fun i h1 h2 => ?_
  simp [List.getElem?_eq_getElem h2]
def tLenSetN (K : PySem.W.Frag) (te : TE) : TE := fun τ G R => te τ G fun x G1 => ∃ (p : Addr) (ns : List Int), x = V.ref p ∧ SqL K G1 p (ns.map V.int) ∧ ns.length < 1000 ∧ ∀ D : List Int, D.Nodup → (∀ k, k ∈ D ↔ k ∈ ns) → R (.int D.length) G1
theorem pe_lenSetN {Y : Cx} {b : Expr} {tb : TE} {q1 q2 q3 q4 : PySem.Pos} (calm : Y.calm = true) (gl : Gl Y "len") (ml : Y.mg "len" = none) (gs : Gl Y "set") (ms : Y.mg "set" = none) (hb : PE Y b tb)
    (hs : starEach [b] Y.env = (false, eval b Y.env) :: starEach [] Y.env) : PE Y (.Call (.Name "len" q1) [.Call (.Name "set" q2) [b] [] q3] [] q4) (tLenSetN Y.K tb) := by
  refine ⟨fun ps0 s0 τ G R J hyp => ?_⟩
  refine Call_ (ld_blt J gl ml boot_len (callWith_builtin1 (args_cons ?_ rfl) rfl rfl))
  refine Call_ (ld_blt J gs ms boot_set (callWith_type1 (args_cons (thn (hb.run ps0 s0 τ G _ J hyp) fun v s1 ans => args_nil ?_) hs) hs rfl))
  obtain ⟨x, G1, J1, rx, p, ns, rfl, sq, few, fin⟩ := ans
  cases rx
  obtain ⟨items, vv, pl, sz⟩ := J1.list sq
  have en : items.toArray.size = ns.length := by rw [List.size_toArray, ← vv.length]; simp
  refine call_set_list (ns := ns) (J1.ok.hd calm) pl.isList (by simpa using vv.ints) (by rw [en]; unfold scanBound; omega) fun h2 tk2 made stays => args_nil ?_
  rw [en] at made
  obtain ⟨nd, mem⟩ := dedup_ok (fun i => ns.getD i 0) ns.length
  rw [getD_range] at mem
  have lD := firstMet_length_le (fun i => ns.getD i 0) ns.length
  generalize firstMet (fun i => ns.getD i 0) ns.length = D at made nd mem lD
  obtain ⟨ob, en2, ep2, tb2, at2, ex2, dt2, _, _, _, fit2, cnt⟩ := made
  have J2 : Inv Y ps0 τ G1 { s1 with heap := h2, toks := tk2 } := J1.kept fun b o e => stays b o (Heap.lt_size e) e
  exact call_len_set at2 ex2 dt2 fit2 (by rw [cnt]; omega) ⟨.int D.length, G1, J2.tok _, ⟨_, by rw [cnt]⟩, fin D nd mem⟩
/-! ### tuples of numbers -/
def rLenT (K : PySem.W.Frag) (P : Program) (w : World) : List V → Hp → VK → Prop := fun vs G R => ∃ (p : Addr) (L : List (Addr × List Int)), vs = [V.ref p] ∧ G p = some (SetTO P w p L) ∧ (∀ t ∈ L, SqT K G t.1 (t.2.map V.int)) ∧ ((L.map (·.2)).Nodup → R (.int L.length) G)
theorem cr_lenT {Y : Cx} : CallR Y (.builtin "len") (rLenT Y.K Y.prog Y.w) := by
  intro ps0 s0 τ G vs us R J rv hyp
  obtain ⟨p, L, rfl, at1, tup, fin⟩ := hyp
  rw [Vals.ref1 rv]
  have ok1 : ObjOk Y.prog Y.w G s0.heap p (.ext fun h => SetT0 Y.prog Y.w h p L) := J.hok p _ at1
  obtain ⟨en, ep, tb, full⟩ := ok1.1.full fun t ht => J.isT (tup t ht)
  obtain ⟨ob, at2, ex2, dt2⟩ := full.ob
  have few := full.few
  have sz := full.size
  exact call_len_set at2 ex2 dt2 full.fits (by rw [sz]; omega) ⟨.int L.length, G, J.tok _, ⟨_, by rw [sz]⟩, fin full.nd⟩
abbrev tupD (k : List Int) : PyData := .tuple (k.map PyData.int)
theorem dda_tups {K : PySem.W.Frag} {Z : Hp} : ∀ {ks : List (List Int)} {xs : List V}, DdA K Z xs (ks.map tupD) → ∃ L : List (Addr × List Int), xs = L.map (fun t => V.ref t.1) ∧ L.map (·.2) = ks ∧ ∀ t ∈ L, SqT K Z t.1 (t.2.map V.int)
  | [], _, h => by cases h; exact ⟨[], rfl, rfl, by simp⟩
  | k :: ks, _, h => by
    cases h with
    | cons h1 h2 =>
      obtain ⟨L, e1, e2, e3⟩ := dda_tups h2
      cases h1 with
      | @tup a ys _ t1 t2 =>
        have := t2.ints
        subst this
        refine ⟨(a, k) :: L, by rw [e1]; rfl, by rw [← e2]; rfl, fun t ht => ?_⟩
        rcases List.mem_cons.mp ht with rfl | ht
        · exact t1
        · exact e3 t ht
section
variable {X : Cx} {C : Ct} {g : Gm} {e : Expr} {pos p p2 p3 : PySem.Pos} {Q : Av → Gm → Prop}
theorem ee_lenSetT {k : Nat} (n1 : Bn X "len") (n2 : Bn X "set") (hc : X.calm = true) (hr : Room k X.A) (h : EE X C e g fun x g1 => ∃ ks : List (List Int), KL g1 x (ks.map tupD) ∧ ks.length < 60 ∧ ∀ D : List (List Int), D.Nodup → (∀ t, t ∈ D ↔ t ∈ ks) → Q (.d (.int D.length)) g1)
    (he : starEach [e] X.env = (false, eval e X.env) :: starEach [] X.env := by rfl) (he2 : starEach [Expr.Call (.Name "set" p2) [e] [] p3] X.env = (false, eval (Expr.Call (.Name "set" p2) [e] [] p3) X.env) :: starEach [] X.env := by rfl) : EE X C (.Call (.Name "len" p) [.Call (.Name "set" p2) [e] [] p3] [] pos) g Q :=
  EE.of (pe_callB cr_lenT n1.gl n1.mg PySem.boot_len (pa_cons (pe_callTy (T := "set") (cr_setOfT hc hr.units) n2.gl n2.mg (by decide +kernel) (pa_cons pe_t pa_nil he) n2.n1 n2.d1 he rfl) pa_nil he2) n1.n1 n1.d1 he2 rfl) fun σ H Z I P pp => h σ H Z I _ fun v H1 Z1 x g1 I1 s1 a1 q1 => by
    obtain ⟨ks, kl, few, q⟩ := q1
    have fin : ∀ ad xs, v = .ref ad → SqL X.K H1 ad xs → DdA X.K Z1 xs (ks.map tupD) → rSetOfT X.K X.prog X.w [v] H1 fun y H2 => rLenT X.K X.prog X.w [y] H2 P := fun ad xs e1 h1 h2 => by
      obtain ⟨L, e2, e3, e4⟩ := dda_tups h2
      subst e2 e1
      have lL : L.length < 64 := by rw [← List.length_map (f := fun t : Addr × List Int => t.2), e3]; omega
      refine ⟨ad, L, rfl, h1, fun t ht => Same.seqT I1.fz (e4 t ht), lL, fun a D hn d1 d2 => ?_⟩
      have I2 : Ok X.K C g1 σ (upd H1 a (SetTO X.prog X.w a D)) Z1 := I1.newO hn
      refine ⟨a, D, rfl, upd_same, fun t ht => Same.seqT I2.fz (e4 t (d1 t ht)), fun nd => ?_⟩
      refine pp _ _ Z1 (.d (.int (D.length : Nat))) g1 I2 s1 (Dd.int _) ?_
      have := q (D.map (·.2)) nd fun t => by
        rw [← e3]
        constructor
        · intro ht
          obtain ⟨y, hy, rfl⟩ := List.mem_map.mp ht
          exact List.mem_map.mpr ⟨y, d1 y hy, rfl⟩
        · intro ht
          obtain ⟨y, hy, rfl⟩ := List.mem_map.mp ht
          exact d2 y hy
      rwa [List.length_map] at this
    rcases kl with rfl | ⟨j, w', rfl, hj⟩
    · have h' : Dd X.K Z1 v (.list (ks.map tupD)) := a1
      cases h' with
      | @lst ad xs _ b1 b2 => exact fin ad xs rfl (SqL.of (I1.fz _ _ b1)) b2
    · obtain ⟨ad, xs, e1, o2, o3, o4, o5⟩ := I1.own hj a1
      exact fin ad xs e1 (SqL.of o2) o4
theorem ee_lenSetN (n1 : Bn X "len") (n2 : Bn X "set") (hc : X.calm = true) (h : EE X C e g fun x g1 => ∃ ns : List Int, KL g1 x (ns.map PyData.int) ∧ ns.length < 1000 ∧ ∀ D : List Int, D.Nodup → (∀ k, k ∈ D ↔ k ∈ ns) → Q (.d (.int D.length)) g1)
    (he : starEach [e] X.env = (false, eval e X.env) :: starEach [] X.env := by rfl) : EE X C (.Call (.Name "len" p) [.Call (.Name "set" p2) [e] [] p3] [] pos) g Q :=
  EE.of (pe_lenSetN hc n1.gl n1.mg n2.gl n2.mg pe_t he) fun σ H Z I P pp => h σ H Z I _ fun v H1 Z1 x g1 I1 s1 a1 q1 => by
    obtain ⟨ns, kl, few, q⟩ := q1
    have fin : ∀ ad xs, v = .ref ad → SqL X.K H1 ad xs → DdA X.K Z1 xs (ns.map PyData.int) → ∃ (p : Addr) (ns : List Int), v = V.ref p ∧ SqL X.K H1 p (ns.map V.int) ∧ ns.length < 1000 ∧ ∀ D : List Int, D.Nodup → (∀ k, k ∈ D ↔ k ∈ ns) → P (.int D.length) H1 := fun ad xs e1 h1 h2 => by
      have := h2.ints
      subst this
      exact ⟨ad, ns, e1, h1, few, fun D nd mem => pp _ _ Z1 (.d (.int (D.length : Nat))) g1 I1 s1 (Dd.int _) (q D nd mem)⟩
    rcases kl with rfl | ⟨j, w', rfl, hj⟩
    · have h' : Dd X.K Z1 v (.list (ns.map PyData.int)) := a1
      cases h' with
      | @lst ad xs _ b1 b2 => exact fin ad xs rfl (SqL.of (I1.fz _ _ b1)) b2
    · obtain ⟨ad, xs, e1, o2, o3, o4, o5⟩ := I1.own hj a1
      exact fin ad xs e1 (SqL.of o2) o4
end
end AL
/-! A module's constants that are tuples of numbers. -/
namespace AL
open PySem PySem.Spec L2
def intsB : List Value → List Int → Bool
  | [], [] => true
  | .int i _ :: vs, n :: ns => decide (i = n) && intsB vs ns
  | _, _ => false
theorem intsB_ok : ∀ {vs : List Value} {ns : List Int}, intsB vs ns = true → Vals (ns.map V.int) vs
  | [], [], _ => .nil
  | [], _ :: _, h => by simp [intsB] at h
  | v :: vs, [], h => by cases v <;> simp [intsB] at h
  | v :: vs, n :: ns, h => by
    cases v with
    | int i t =>
      simp only [intsB, Bool.and_eq_true, decide_eq_true_eq] at h
      obtain ⟨rfl, h2⟩ := h
      exact .cons ⟨t, rfl⟩ (intsB_ok h2)
    | _ => simp [intsB] at h
def tupO (o : Obj) (ns : List Int) : Bool := decide (o.cls = .type "tuple") && match o.data with
  | .seq its _ => decide (its.size ≤ 1000) && intsB its.toList ns
  | _ => false
/-- the constant x is a tuple of these numbers -/
def tupK (K : PySem.W.Frag) (x : Str) (ns : List Int) : Bool := match PySem.W.nsIn K mainGlobals x with
  | some (some (.ref a)) => (match K.lookup a with
    | some o => tupO o ns
    | none => false)
  | _ => false
structure TupC (K : PySem.W.Frag) (mg : Str → Option Value) (x : Str) (ns : List Int) : Prop where
  ex : ∃ a, mg x = some (.ref a) ∧ ∀ H : Hp, SqT K H a (ns.map V.int)
theorem tupC_of {K : PySem.W.Frag} {h : Heap} {mg : Str → Option Value} (X : K.In h) (G : h.Ns mainGlobals mg) {x : Str} {ns : List Int} (c : tupK K x ns = true) : TupC K mg x ns := by
  unfold tupK at c
  split at c
  · rename_i a e
    split at c
    · rename_i o lk
      unfold tupO at c
      rw [Bool.and_eq_true, decide_eq_true_eq] at c
      obtain ⟨c1, c2⟩ := c
      split at c2
      · rename_i its n dt
        rw [Bool.and_eq_true, decide_eq_true_eq] at c2
        exact ⟨a, PySem.W.mg_of X G e, fun H => .inr ⟨o, its, n, lk, c1, dt, Nat.le_trans c2.1 (by decide), intsB_ok c2.2⟩⟩
      · cases c2
    · cases c
  · cases c
theorem tups_of {K : PySem.W.Frag} {h : Heap} {mg : Str → Option Value} (X : K.In h) (G : h.Ns mainGlobals mg) {l : List (Str × List Int)} (c : (l.all fun p => tupK K p.1 p.2) = true) (i : Nat) {x : Str} {ns : List Int} (hi : l[i]? = some (x, ns)) : TupC K mg x ns :=
  tupC_of X G (List.all_eq_true.mp c (x, ns) (List.mem_of_getElem? hi))
theorem ae_ca {K : PySem.W.Frag} {C : Ct} {g : Gm} {Q : Av → Gm → Prop} {a : Addr} {d : PyData} (hd : ∀ Z, Dd K Z (.ref a) d) (q : Q (.d d) g) : AE K C (tC (.ref a)) g Q := ae_cd hd q
section
variable {X : Cx} {C : Ct} {g : Gm} {pos : PySem.Pos} {Q : Av → Gm → Prop} {x : Str}
theorem ee_glT {ns : List Int} (n : Gn X x) (t : TupC X.K X.mg x ns) (q : Q (.d (tupD ns)) g) : EE X C (.Name x pos) g Q := by
  obtain ⟨a, m, s⟩ := t.ex
  exact EE.of (pe_glob (v := .ref a) n.gl m rfl n.d1) (ae_cd (fun Z => .tup (s Z) (dda_ints ns)) q)
theorem tcB {scope : Scope} {s : Shared} {H : Hp} {Cm : Addr} {cl : List (Str × Addr)} {fp : List Addr} {ns : List Int} (t : TupC X.K X.mg x ns) : TupC (bk X scope s H Cm cl fp).K (bk X scope s H Cm cl fp).mg x ns := t
end
end AL
/-! unreachable_reason: for the walk. -/
namespace AL
open PySem PySem.Spec L2
theorem selB_len (l : List Bl) (p : Bl → Bool) : ((List.range (l.map blk).length).filterMap fun k => (l[k]?).bind fun a => if p a = true then some (blk a) else none).length = (l.filter p).length := by
  rw [List.length_map, fm_range]
  induction l with
  | nil => rfl
  | cons a l ih =>
    by_cases h : p a = true
    · rw [List.filterMap_cons, if_pos h, List.filter_cons_of_pos h, List.length_cons, List.length_cons, ih]
    · rw [List.filterMap_cons, if_neg h, List.filter_cons_of_neg h, ih]
theorem blk_ins (l : List Bl) (c : Nat) (b : Bl) : (l.map blk).take c ++ blk b :: (l.map blk).drop c = (l.take c ++ b :: l.drop c).map blk := by simp [List.map_take, List.map_drop]
theorem dsc_mem {L : List Bl} {i : Nat} {b : Bl} (h : b ∈ dscL (L.take i)) : b ∈ L := List.mem_of_mem_take ((dscL_perm _).subset h)
theorem heatL_get {L : List Bl} {i : Nat} {b : Bl} (h : L[i]? = some b) : (heatL L)[i]? = some ((b.1 : Rat) * b.2) := by unfold heatL; rw [List.getElem?_map, h]; rfl
theorem OkSt.heat {n : Nat} {L : List Bl} (O : OkSt n L) (hn : n ≤ 1900) : (∀ i, Rb 4390 (sumTo (heatL L) i)) ∧ ∀ q ∈ heatL L, Rb 4390 q := by
  obtain ⟨D, d0, d1, d2⟩ := O.cd
  have g := heatL_gr d0 O.szs d2
  have hl : (heatL L).length ≤ 12 := by unfold heatL; rw [List.length_map]; exact O.most
  refine ⟨fun i => ?_, fun q hq => ((g q hq).rb d0 d1).mono (by omega)⟩
  have := sum_gr (n := n + 7) d0 (l := (heatL L).take i) fun q hq => g q (List.mem_of_mem_take hq)
  have h2 : ((heatL L).take i).length ≤ 12 := by rw [List.length_take]; omega
  exact (this.rb d0 d1).mono (by omega)
theorem OkSt.pos {n : Nat} {L : List Bl} (O : OkSt n L) : Pos L := fun b hb => by have := O.szs b hb; unfold Sz at this; omega
theorem OkSt.posD {n : Nat} {L : List Bl} (O : OkSt n L) : Pos (dscL L) := fun b hb => O.pos b ((dscL_perm L).subset hb)
theorem OkSt.hto {n : Nat} {L : List Bl} {x : Int} (O : OkSt n L) (hn : n ≤ 1900) (hx : 0 ≤ x) (i : Nat) (hi : i ≤ 12) : Rb 4390 (hto (dscL L) x i).1 ∧ 0 ≤ (hto (dscL L) x i).2 ∧ (hto (dscL L) x i).2 ≤ x := by
  obtain ⟨D, d0, d1, d2⟩ := O.cd
  have hp := dscL_perm L
  exact ⟨((hto_gr d0 (fun b hb => O.szs b (hp.subset hb)) (fun b hb => d2 b (hp.subset hb)) hx i).rb d0 d1).mono (by omega), hto_nn O.posD hx i⟩
theorem OkSt.tot {n : Nat} {L : List Bl} (O : OkSt n L) : tot L ≤ 1200 := tot_le O.most O.szs
/-- the excess and its changes -/
theorem exc_gr {n : Nat} {L M : List Bl} (O : OkSt n L) (O2 : OkSt n M) : ∃ E, 0 < E ∧ E < 2 ^ (2 * n) ∧ (∀ e, 0 ≤ e → Gr E (n + 19) (hoa (dscL L) e) ∧ Gr E (n + 19) (hoa (dscL M) e)) ∧ ∀ e, 0 ≤ e → Gr E (n + 20) (exc L M e) := by
  obtain ⟨D, d0, d1, d2⟩ := O.cd
  obtain ⟨F, f0, f1, f2⟩ := O2.cd
  have h1 : ∀ e, 0 ≤ e → Gr (D * F) (n + 19) (hoa (dscL L) e) := fun e he => (hoa_gr d0 O.most O.szs d2 he).mono (Nat.dvd_mul_right _ _) (Nat.le_refl _)
  have h2 : ∀ e, 0 ≤ e → Gr (D * F) (n + 19) (hoa (dscL M) e) := fun e he => (hoa_gr f0 O2.most O2.szs f2 he).mono (Nat.dvd_mul_left _ _) (Nat.le_refl _)
  refine ⟨D * F, Nat.mul_pos d0 f0, ?_, fun e he => ⟨h1 e he, h2 e he⟩, fun e he => ?_⟩
  · rw [Nat.two_mul, Nat.pow_add]; exact Nat.mul_lt_mul'' d1 f1
  · exact (h2 e he).sub (Nat.mul_pos d0 f0) (h1 e he)
theorem ends_pos {L M : List Bl} (zl : Pos L) (zm : Pos M) {e : Int} (h : e ∈ ends L M) : 0 < e ∧ e < 1300 := by
  unfold ends at h
  rw [List.mem_filter, decide_eq_true_eq] at h
  obtain ⟨h1, h2⟩ := h
  obtain ⟨k, hk, rfl⟩ := List.mem_map.mp h1
  have := List.mem_range.mp hk
  rcases List.mem_append.mp h2 with q | q
  · have := bps_mem zl q; omega
  · have := bps_mem zm q; omega
/-- the loop's state: where it stands, the excess there -/
def fexV (L M : List Bl) (e a : Int) (le : Rat) : Int := a + (0 - le.num) * (((exc L M e - le) * Rat.divInt 1 (e - a)).den : Int) / ((le.den : Int) * ((exc L M e - le) * Rat.divInt 1 (e - a)).num) + 1
def pA (r : List Int) (i : Nat) (a : Int) : Int := if i = 0 then a else r.getD (i - 1) 0
def pL (L M : List Bl) (r : List Int) (i : Nat) (le : Rat) : Rat := if i = 0 then le else exc L M (r.getD (i - 1) 0)
def fexA (L M : List Bl) (i : Nat) : Int := pA (ends L M) i 0
def fexL (L M : List Bl) (i : Nat) : Rat := pL L M (ends L M) i 0
theorem fexG_at {L M : List Bl} : ∀ {r : List Int} {i : Nat} {e a : Int} {le : Rat}, r[i]? = some e → (∀ k, k < i → ¬ 0 < (exc L M (r.getD k 0)).num) → 0 < (exc L M e).num →
    fexG L M r a le = some (fexV L M e (pA r i a) (pL L M r i le))
  | [], i, e, a, le, h, _, _ => by simp at h
  | x :: r, 0, e, a, le, h, _, hp => by
    simp at h; subst h
    show (if _ then _ else _) = _
    rw [if_pos hp]; rfl
  | x :: r, i + 1, e, a, le, h, hn, hp => by
    have h0 : ¬ 0 < (exc L M x).num := hn 0 (by omega)
    show (if _ then _ else _) = _
    rw [if_neg h0]
    have ih := fexG_at (r := r) (i := i) (a := x) (le := exc L M x) (by simpa using h) (fun k hk => by simpa using hn (k + 1) (by omega)) hp
    rw [ih]
    cases i with
    | zero => rfl
    | succ i => rfl
theorem fexc_at {L M : List Bl} {i : Nat} {e : Int} (h : (ends L M)[i]? = some e) (hn : ∀ k, k < i → ¬ 0 < (exc L M ((ends L M).getD k 0)).num) (hp : 0 < (exc L M e).num) :
    fexc L M = some (fexV L M e (fexA L M i) (fexL L M i)) := fexG_at h hn hp
theorem fexc_no {L M : List Bl} (hn : ∀ k, k < (ends L M).length → ¬ 0 < (exc L M ((ends L M).getD k 0)).num) : fexc L M = none := by
  refine fexG_none fun e he => ?_
  obtain ⟨k, hk, rfl⟩ := List.mem_iff_getElem.mp he
  have := hn k hk
  rw [List.getD_eq_getElem?_getD, List.getElem?_eq_getElem hk] at this
  exact this
theorem fexA_succ {L M : List Bl} {i : Nat} {e : Int} (h : (ends L M)[i]? = some e) : fexA L M (i + 1) = e ∧ fexL L M (i + 1) = exc L M e := by
  unfold fexA fexL pA pL
  rw [if_neg (by omega), if_neg (by omega), Nat.add_sub_cancel, List.getD_eq_getElem?_getD, h]
  exact ⟨rfl, rfl⟩
theorem fexA_lt {L M : List Bl} (zl : Pos L) (zm : Pos M) {i : Nat} {e : Int} (h : (ends L M)[i]? = some e) : 0 ≤ fexA L M i ∧ fexA L M i < e := by
  have hi := (List.getElem?_eq_some_iff.mp h).1
  unfold fexA pA
  split
  · have := ends_pos zl zm (List.mem_of_getElem? h); omega
  · have hi1 : i - 1 < (ends L M).length := by omega
    have := List.pairwise_iff_getElem.mp (ends_pw L M) (i - 1) i hi1 hi (by omega)
    rw [List.getD_eq_getElem?_getD, List.getElem?_eq_getElem hi1]
    have e2 := (List.getElem?_eq_some_iff.mp h).2
    have := ends_pos zl zm (List.getElem_mem hi1)
    show 0 ≤ (ends L M)[i - 1] ∧ (ends L M)[i - 1] < e
    omega
theorem rem_pos : ∀ (f n s : Nat), 0 < n → 0 < remG f n s ∧ remG f n s ≤ n
  | 0, n, s, h => ⟨h, Nat.le_refl _⟩
  | f + 1, n, s, h => by
    show 0 < (if 1 < Nat.gcd n s then remG f (n / Nat.gcd n s) s else n) ∧ (if 1 < Nat.gcd n s then remG f (n / Nat.gcd n s) s else n) ≤ n
    split
    · have hd := Nat.gcd_dvd_left n s
      have h1 := Nat.div_pos (Nat.le_of_dvd h hd) (by omega)
      have := rem_pos f (n / Nat.gcd n s) s h1
      have h2 := Nat.div_le_self n (Nat.gcd n s)
      omega
    · omega
theorem remN_take {n : Nat} {l : List Nat} {i s : Nat} (h : l[i]? = some s) : remN n (l.take (i + 1)) = remOne (remN n (l.take i)) s := by
  unfold remN
  rw [List.take_add_one, h]
  simp [List.foldl_append]
theorem remN_pos {n : Nat} (h : 0 < n) : ∀ (l : List Nat), 0 < remN n l ∧ remN n l ≤ n := by
  intro l
  induction l using snoc_ind with
  | h0 => exact ⟨h, Nat.le_refl _⟩
  | h1 l s ih =>
    unfold remN at ih ⊢
    rw [List.foldl_append]
    have := rem_pos (l.foldl remOne n) (l.foldl remOne n) s ih.1
    show 0 < remG _ _ s ∧ remG _ _ s ≤ n
    exact ⟨this.1, Nat.le_trans this.2 ih.2⟩
theorem dvs_pos {n : Nat} {L : List Bl} (O : OkSt n L) : ∀ s ∈ dvs L, 0 < s ∧ s < 256 := fun s hs => by
  obtain ⟨t, ht, rfl⟩ := List.mem_map.mp hs
  obtain ⟨t1, t2⟩ := mem_prsL.mp ht
  have a := O.sz (i := t.1) (by omega)
  have b := O.sz t2
  unfold Sz at a b
  have hg : (Int.gcd (siz L t.1) (siz L t.2) : Int) ∣ siz L t.1 + siz L t.2 := Int.dvd_add (Int.gcd_dvd_left _ _) (Int.gcd_dvd_right _ _)
  have g0 : 0 < Int.gcd (siz L t.1) (siz L t.2) := Int.gcd_pos_of_ne_zero_left _ (by omega)
  have h1 : 0 < (siz L t.1 + siz L t.2) / (Int.gcd (siz L t.1) (siz L t.2) : Int) := Int.ediv_pos_of_pos_of_dvd (by omega) (by omega) hg
  have h2 : (siz L t.1 + siz L t.2) / (Int.gcd (siz L t.1) (siz L t.2) : Int) ≤ siz L t.1 + siz L t.2 := Int.ediv_le_self _ (by omega)
  omega
theorem frg_bt {n : Nat} {L M : List Bl} (O : OkSt n L) (O2 : OkSt n M) (hn : n ≤ 900) {k : Nat} (hk : k < M.length) : Rb (3 * n + 1) (tmp M k - tmp L 0) ∧ Rb (2 * n + 1) (cstep L) := by
  obtain ⟨D, d0, d1, d2⟩ := O.cd
  obtain ⟨F, f0, f1, f2⟩ := O2.cd
  have h0 : 0 < L.length := O.one
  have g0 : Gr D n (tmp L 0) := by unfold tmp; rw [getD_eq h0]; exact d2 _ (List.getElem_mem h0)
  have gk : Gr F n (tmp M k) := by unfold tmp; rw [getD_eq hk]; exact f2 _ (List.getElem_mem hk)
  have hE : D * F < 2 ^ (2 * n) := by rw [Nat.two_mul, Nat.pow_add]; exact Nat.mul_lt_mul'' d1 f1
  constructor
  · have := (gk.mono (F := D * F) (Nat.dvd_mul_left _ _) (Nat.le_refl _)).sub (Nat.mul_pos d0 f0) (g0.mono (Nat.dvd_mul_right _ _) (Nat.le_refl _))
    exact (this.rb (Nat.mul_pos d0 f0) hE).mono (by omega)
  · exact ((cst_gr d0 d2 g0 _).rb d0 d1).mono (by omega)
theorem cst_rb {n : Nat} {L : List Bl} (O : OkSt n L) (hn : n ≤ 900) (i : Nat) : Rb 1801 (cst L i) := by
  obtain ⟨D, d0, d1, d2⟩ := O.cd
  have h0 : 0 < L.length := O.one
  have g0 : Gr D n (tmp L 0) := by unfold tmp; rw [getD_eq h0]; exact d2 _ (List.getElem_mem h0)
  exact ((cst_gr d0 d2 g0 i).rb d0 d1).mono (by omega)
theorem dif_rb {n : Nat} {L : List Bl} (O : OkSt n L) (hn : n ≤ 900) {b : Bl} (hb : b ∈ L) : Rb 1801 (b.2 - tmp L 0) := by
  obtain ⟨D, d0, d1, d2⟩ := O.cd
  have h0 : 0 < L.length := O.one
  have g0 : Gr D n (tmp L 0) := by unfold tmp; rw [getD_eq h0]; exact d2 _ (List.getElem_mem h0)
  exact (((d2 b hb).sub d0 g0).rb d0 d1).mono (by omega)
theorem cst_pos {L : List Bl} (h : ¬ cstep L = 0) : 0 < (cstep L).num := by
  have := cst_nn (L := L) L.length
  have h2 : 0 < cstep L := by unfold cstep at h ⊢; grind
  have := fr_lt.mpr h2
  have e : (0 : Rat).num = 0 := rfl
  have e2 : ((0 : Rat).den : Int) = 1 := rfl
  rw [e, e2] at this; omega
end AL
/-! x //= e, x *= e. -/
namespace AL
open PySem PySem.Spec L2
theorem as_augR {K : PySem.W.Frag} {C : Ct} {te : TE} {g : Gm} {D : Ae} {i : Nat} {R : Int → Int → Prop} {f : Int → Int → Int} {a : Int} (h0 : g[i]? = some (.im (.int a))) (h : AE K C te g fun x g1 => ∃ b g2, x = .d (.int b) ∧ R a b ∧ SetE g1 i (.im (.int (f a b))) g2 ∧ D.nx g2) : AS K C (tAug i te (rI R fun i j => .int (f i j))) g D := fun σ H Z I D' d => by
  obtain ⟨v, e1, e2⟩ := I.ent i _ h0
  refine ⟨v, e1, h σ H Z I _ fun w H1 Z1 x g1 I1 s1 a1 q1 => ?_⟩
  obtain ⟨b, g2, rfl, hR, h2, q⟩ := q1
  cases e2; cases a1
  exact ⟨a, b, rfl, rfl, hR, d.nx g2 _ H1 Z1 (I1.setD (Dd.int _) h2) s1 q⟩
section
variable {X : Cx} {C : Ct} {g : Gm} {D : Ae} {e : Expr} {x : Str} {pos p' : PySem.Pos}
theorem es_augDiv {i : Nat} {v : Int} (l : Lc X i x) (h0 : g[i]? = some (.im (.int v))) (h : EE X C e g fun x g1 => ∃ b g2, x = .d (.int b) ∧ CDivW v b ∧ SetE g1 i (.im (.int (v / b))) g2 ∧ D.nx g2) : ES X C (.AugAssign (.Name x p') .FloorDiv e pos) g D := ES.of (ps_aug l.nd l.hN l.loc pe_t iop_fdivW l.fn) (as_augR h0 h)
theorem iop_mulN : OpR X (inplaceOp .Mult) (rI CMulW fun i j => .int (i * j)) := opI fun _ _ _ _ _ _ _ hc q => PySem.P.imul_int q hc.ok
theorem es_augMul {i : Nat} {v : Int} (l : Lc X i x) (h0 : g[i]? = some (.im (.int v))) (h : EE X C e g fun x g1 => ∃ b g2, x = .d (.int b) ∧ CMulW v b ∧ SetE g1 i (.im (.int (v * b))) g2 ∧ D.nx g2) : ES X C (.AugAssign (.Name x p') .Mult e pos) g D := ES.of (ps_aug l.nd l.hN l.loc pe_t iop_mulN l.fn) (as_augR h0 h)
end
theorem lf_augDiv {g : Gm} {y : Av} {i : Nat} {v b : Int} {g2 : Gm} {φ : Gm → Prop} (hy : y = .d (.int b)) (hR : CDivW v b) (s : SetE g i (.im (.int (v / b))) g2) (q : φ g2) : ∃ b g2, y = .d (.int b) ∧ CDivW v b ∧ SetE g i (.im (.int (v / b))) g2 ∧ φ g2 := ⟨b, g2, hy, hR, s, q⟩
theorem lf_augMul {g : Gm} {y : Av} {i : Nat} {v b : Int} {g2 : Gm} {φ : Gm → Prop} (hy : y = .d (.int b)) (hR : CMulW v b) (s : SetE g i (.im (.int (v * b))) g2) (q : φ g2) : ∃ b g2, y = .d (.int b) ∧ CMulW v b ∧ SetE g i (.im (.int (v * b))) g2 ∧ φ g2 := ⟨b, g2, hy, hR, s, q⟩
end AL
/-! unreachable_reason: for the walk, further. -/
namespace AL
open PySem PySem.Spec L2
section
variable {X : Cx} {C : Ct} {g : Gm} {pos : PySem.Pos} {Q : Av → Gm → Prop} {x : Str}
theorem ee_glT2 {a b : Int} (n : Gn X x) (t : TupC X.K X.mg x [a, b]) (q : Q (.d (.tuple [.int a, .int b])) g) : EE X C (.Name x pos) g Q := ee_glT n t q
end
theorem szD_plain (L : List Bl) : Plain 1 (szD L) := plain_tup (k := 0) fun d hd => by
  obtain ⟨b, _, rfl⟩ := List.mem_map.mp hd
  exact plain_int _
theorem fr_plain (q : Rat) : Plain 1 (fr q) := plain_two (plain_int _) (plain_int _)
theorem stD_plain (L : List Bl) : Plain 3 (stD L) := plain_tup (k := 2) fun d hd => by
  obtain ⟨b, _, rfl⟩ := List.mem_map.mp hd
  exact plain_two ((plain_int _).mono (by decide)) (fr_plain _)
theorem szD_iff {L M : List Bl} : szD L = szD M ↔ L.map (·.1) = M.map (·.1) := by
  have key : ∀ {l m : List Bl}, (l.map fun b => PyData.int b.1) = (m.map fun b => PyData.int b.1) ↔ l.map (·.1) = m.map (·.1) := by
    intro l
    induction l with
    | nil => intro m; cases m <;> simp
    | cons b l ih => intro m; cases m with
      | nil => simp
      | cons c m =>
        simp only [List.map_cons, List.cons.injEq, PyData.int.injEq]
        rw [ih]
  unfold szD
  rw [PyData.tuple.injEq]; exact key
theorem stD_inj {L M : List Bl} : stD L = stD M ↔ L = M := by
  refine ⟨fun h => ?_, fun h => by rw [h]⟩
  unfold stD at h
  rw [PyData.tuple.injEq] at h
  have key : ∀ {l m : List Bl}, l.map blk = m.map blk → l = m := by
    intro l
    induction l with
    | nil => intro m h; cases m with
      | nil => rfl
      | cons c m => simp at h
    | cons b l ih => intro m h; cases m with
      | nil => simp at h
      | cons c m =>
        simp only [List.map_cons, List.cons.injEq] at h
        obtain ⟨h1, h2⟩ := h
        have h1' : (.tuple [.int b.1, fr b.2] : PyData) = .tuple [.int c.1, fr c.2] := h1
        simp only [PyData.tuple.injEq, List.cons.injEq, and_true, PyData.int.injEq] at h1'
        have : fr b.2 = fr c.2 := by
          show (.tuple [.int b.2.num, .int b.2.den] : PyData) = .tuple [.int c.2.num, .int c.2.den]
          simp only [PyData.tuple.injEq, List.cons.injEq, and_true, PyData.int.injEq]
          exact ⟨h1'.2.1, h1'.2.2⟩
        rw [ih h2, Prod.ext h1'.1 (fr_inj this)]
  exact key h
theorem nodup_sub {α : Type} [DecidableEq α] : ∀ (D ks : List α), D.Nodup → (∀ x ∈ D, x ∈ ks) → D.length ≤ ks.length
  | [], _, _, _ => Nat.zero_le _
  | d :: D, ks, hn, h => by
    rw [List.nodup_cons] at hn
    have hd := h d (by simp)
    have := nodup_sub D (ks.erase d) hn.2 fun x hx => (List.mem_erase_of_ne (fun e => by subst e; exact hn.1 hx)).mpr (h x (by simp [hx]))
    rw [List.length_erase_of_mem hd] at this
    have := List.length_pos_of_mem hd
    rw [List.length_cons]; omega
theorem nodup_iff_len {α : Type} [DecidableEq α] {D ks : List α} (hn : D.Nodup) (h : ∀ x, x ∈ D ↔ x ∈ ks) : D.length = ks.length ↔ ks.Nodup := by
  constructor
  · intro hl
    refine Classical.byContradiction fun hk => ?_
    have : ∃ x a b, ks = a ++ x :: b ∧ (x ∈ a ++ b) := by
      clear h hl
      induction ks with
      | nil => exact absurd List.nodup_nil hk
      | cons y ks ih =>
        by_cases hy : y ∈ ks
        · exact ⟨y, [], ks, rfl, hy⟩
        · have : ¬ ks.Nodup := fun z => hk (List.nodup_cons.mpr ⟨hy, z⟩)
          obtain ⟨x, a, b, e, m⟩ := ih this
          exact ⟨x, y :: a, b, by rw [e]; rfl, by rw [List.cons_append]; exact List.mem_cons_of_mem _ m⟩
    obtain ⟨x, a, b, e, m⟩ := this
    have := nodup_sub D (a ++ b) hn fun z hz => by
      have := (h z).mp hz
      rw [e] at this
      simp only [List.mem_append, List.mem_cons] at this m ⊢
      rcases this with q | q | q
      · exact .inl q
      · subst q; exact m
      · exact .inr q
    rw [hl, e] at this
    simp at this
    omega
  · intro hk
    exact ((List.perm_ext_iff_of_nodup hn hk).mpr h).length_eq
/-- temperatures as rows of numbers -/
def tmK (M : List Bl) : List (List Int) := M.map fun b => [b.2.num, (b.2.den : Int)]
theorem tmK_len (M : List Bl) : (tmK M).length = M.length := by simp [tmK]
theorem tmK_nodup {M : List Bl} : (tmK M).Nodup ↔ (M.map (·.2)).Nodup := by
  have e : tmK M = (M.map (·.2)).map fun q : Rat => [q.num, (q.den : Int)] := by unfold tmK; rw [List.map_map]; rfl
  rw [e]
  constructor
  · exact fun h => List.Pairwise.of_map (fun q : Rat => [q.num, (q.den : Int)]) (fun a b hne he => hne (by rw [he])) h
  · intro h
    exact List.Pairwise.map _ (fun a b hne he => hne (by
      simp only [List.cons.injEq, and_true] at he
      exact fr_eq.mp he)) h
theorem frg_find {M : List Bl} {p : Nat → Bool} {k : Nat} (hk : k < M.length) (h : p k = true) (hn : ∀ j, j < k → p j = false) : (List.range M.length).find? p = some k := by
  have key : ∀ n, k < n → (List.range n).find? p = some k := by
    intro n
    induction n with
    | zero => intro h; omega
    | succ n ih =>
      intro hkn
      rw [List.range_succ, List.find?_append]
      by_cases q : k < n
      · rw [ih q]; rfl
      · have : k = n := by omega
        subst this
        have : (List.range k).find? p = none := List.find?_eq_none.mpr fun j hj => by rw [hn j (List.mem_range.mp hj)]; decide
        rw [this]
        simp [h]
  exact key _ hk
theorem frg_none {M : List Bl} {p : Nat → Bool} (hn : ∀ j, j < M.length → p j = false) : (List.range M.length).find? p = none := List.find?_eq_none.mpr fun j hj => by rw [hn j (List.mem_range.mp hj)]; decide
end AL
/-! A state that touches reach has no reason against it. -/
namespace AL
open PySem PySem.Spec L2
/-! ### the blocks two by two -/
theorem list_prs (L : List Bl) : prs L (List.range L.length) = L := by
  unfold prs
  refine List.ext_getElem (by simp) fun k h1 h2 => ?_
  simp only [List.getElem_map, List.getElem_range]
  unfold siz tmp
  rw [getD_eq h2]
theorem range_split {n i j : Nat} (hi : i < n) (hj : j < n) (hij : i ≠ j) : (List.range n).Perm (i :: j :: rest2 (List.range n) i j) := by
  rw [List.perm_ext_iff_of_nodup List.nodup_range]
  · intro x
    simp only [List.mem_cons, rest2, List.mem_filter, List.mem_range, decide_eq_true_eq]
    constructor
    · intro h1
      by_cases a : x = i
      · exact .inl a
      · by_cases c : x = j
        · exact .inr (.inl c)
        · exact .inr (.inr ⟨h1, a, c⟩)
    · rintro (rfl | rfl | ⟨h, _⟩)
      · exact hi
      · exact hj
      · exact h
  · rw [List.nodup_cons, List.nodup_cons]
    exact ⟨by simp [rest2, hij], by simp [rest2], List.nodup_range.filter _⟩
/-- M is L but for i and j, whose heat together is the same -/
structure Mov (L M : List Bl) (i j : Nat) : Prop where
  len : M.length = L.length
  sz : ∀ x, x < L.length → siz M x = siz L x
  tx : ∀ x, x < L.length → x ≠ i → x ≠ j → tmp M x = tmp L x
  heat : (siz L i : Rat) * tmp M i + (siz L j : Rat) * tmp M j = (siz L i : Rat) * tmp L i + (siz L j : Rat) * tmp L j
theorem Mov.rest {L M : List Bl} {i j : Nat} (h : Mov L M i j) : prs M (rest2 (List.range L.length) i j) = prs L (rest2 (List.range L.length) i j) := by
  unfold prs
  refine List.map_congr_left fun x hx => ?_
  have h1 := List.mem_filter.mp hx
  have h2 := List.mem_range.mp h1.1
  have h3 : x ≠ i ∧ x ≠ j := by simpa using h1.2
  rw [h.sz x h2, h.tx x h2 h3.1 h3.2]
theorem perm_two {L : List Bl} {i j : Nat} (hi : i < L.length) (hj : j < L.length) (hij : i ≠ j) : L.Perm ((siz L i, tmp L i) :: (siz L j, tmp L j) :: prs L (rest2 (List.range L.length) i j)) := by
  have := (range_split hi hj hij).map fun o => (siz L o, tmp L o)
  have e : (List.range L.length).map (fun o => (siz L o, tmp L o)) = L := list_prs L
  rw [e] at this
  exact this
theorem Mov.perm {L M : List Bl} {i j : Nat} (h : Mov L M i j) (hi : i < L.length) (hj : j < L.length) (hij : i ≠ j) : M.Perm ((siz L i, tmp M i) :: (siz L j, tmp M j) :: prs L (rest2 (List.range L.length) i j)) := by
  have := perm_two (L := M) (i := i) (j := j) (by rw [h.len]; exact hi) (by rw [h.len]; exact hj) hij
  rw [h.sz i hi, h.sz j hj, h.len, h.rest] at this
  exact this
theorem heatS_cons (b : Bl) (l : List Bl) : heatS (b :: l) = (b.1 : Rat) * b.2 + heatS l := rfl
theorem heatS_perm {l m : List Bl} (h : l.Perm m) : heatS l = heatS m := by
  induction h with
  | nil => rfl
  | cons x _ ih => rw [heatS_cons, heatS_cons, ih]
  | swap x y l => rw [heatS_cons, heatS_cons, heatS_cons, heatS_cons]; grind
  | trans _ _ ih1 ih2 => exact ih1.trans ih2
theorem Mov.heatF {L M : List Bl} {i j : Nat} (h : Mov L M i j) (hi : i < L.length) (hj : j < L.length) (hij : i ≠ j) : heatF M = heatF L := by
  rw [heatF_eq, heatF_eq, heatS_perm (h.perm hi hj hij), heatS_perm (perm_two hi hj hij), heatS_cons, heatS_cons, heatS_cons, heatS_cons]
  have := h.heat
  grind
theorem Mov.tot {L M : List Bl} {i j : Nat} (h : Mov L M i j) (hi : i < L.length) (hj : j < L.length) (hij : i ≠ j) : tot M = tot L := by
  rw [tot_perm (h.perm hi hj hij), tot_perm (perm_two hi hj hij)]
  rw [tot_cons, tot_cons, tot_cons, tot_cons]
/-- both end between where they were: nothing above any temperature is won -/
theorem Mov.phi {n : Nat} {L M : List Bl} {i j : Nat} (O : OkSt n L) (h : Mov L M i j) (hi : i < L.length) (hj : j < L.length) (hij : i ≠ j) (hle : tmp L i ≤ tmp L j) (h1 : tmp L i ≤ tmp M i ∧ tmp M i ≤ tmp L j) (h2 : tmp L i ≤ tmp M j ∧ tmp M j ≤ tmp L j) (t : Rat) : phi t M ≤ phi t L := by
  rw [phi_perm (h.perm hi hj hij), phi_perm (perm_two hi hj hij), phi_cons, phi_cons, phi_cons, phi_cons]
  have := pst_two (t := t) (cast_pos (siz_pos O hi)) (cast_pos (siz_pos O hj)) h.heat h1.1 h1.2 h2.1 h2.2
  grind
theorem Mov.symm {L M : List Bl} {i j : Nat} (h : Mov L M i j) : Mov L M j i := ⟨h.len, h.sz, fun x a b c => h.tx x a c b, by have := h.heat; grind⟩
/-- what holds no more above any temperature -/
def Les (L M : List Bl) : Prop := tot M = tot L ∧ heatF M = heatF L ∧ ∀ t, phi t M ≤ phi t L
theorem Les.refl (L : List Bl) : Les L L := ⟨rfl, rfl, fun _ => Rat.le_refl⟩
theorem Les.trans {L M N : List Bl} (h : Les L M) (k : Les M N) : Les L N := ⟨k.1.trans h.1, k.2.1.trans h.2.1, fun t => Rat.le_trans (k.2.2 t) (h.2.2 t)⟩
theorem Les.fexc {n m : Nat} {L M : List Bl} (O : OkSt n L) (O2 : OkSt m M) (h : Les L M) : fexc L M = none := by
  refine fexG_none fun e he => ?_
  have z := ends_pos O.pos O2.pos he
  have hx : e ≤ tot L := by
    unfold ends at he
    rw [List.mem_filter, decide_eq_true_eq, List.mem_append] at he
    rcases he.2 with q | q
    · exact (bps_mem O.pos q).2
    · rw [← h.1]; exact (bps_mem O2.pos q).2
  have hl : dscL L ≠ [] := fun q => by
    have := dscL_len L
    rw [q] at this
    have := O.one
    simp at *; omega
  have key := hoa_maj (l := dscL L) (m := dscL M) (x := e) (dscL_des L) O.posD O2.posD hl (by rw [tot_perm (dscL_perm M), tot_perm (dscL_perm L), h.1]) (fun t => by
    rw [phi_perm (dscL_perm M), phi_perm (dscL_perm L)]; exact h.2.2 t) (by omega) (by rw [tot_perm (dscL_perm L)]; exact hx)
  intro hp
  have : 0 < exc L M e := by
    refine fr_lt.mp ?_
    show 0 * ((exc L M e).den : Int) < (exc L M e).num * 1
    omega
  unfold exc at this
  grind
/-! ### touches -/
theorem tch_mov {n : Nat} {L : List Bl} {i j : Nat} (O : OkSt n L) (hi : i < L.length) (hj : j < L.length) (hij : i ≠ j) : Mov L (tchS L i j) i j := by
  have T := tchS_tch hi hj
  refine ⟨T.len, T.sz, T.tx, ?_⟩
  rw [T.ti, T.tj]
  have := mix_eq (tmp L i) (tmp L j) (siz_pos O hi) (siz_pos O hj)
  grind
theorem mix_ltR {s p : Int} {C A : Rat} (hs : 0 < s) (hp : 0 < p) (h : C < A) : C < mix s C p A ∧ mix s C p A < A := by
  have := mix_between (up := true) hs hp (ltf_true.mpr h)
  exact ⟨ltf_true.mp this.1, ltf_true.mp this.2⟩
theorem mix_mid {s p : Int} {C A : Rat} (hs : 0 < s) (hp : 0 < p) (h : C ≤ A) : C ≤ mix s C p A ∧ mix s C p A ≤ A := by
  by_cases q : C = A
  · subst q
    have e := mix_eq C C hs hp
    have k : (0 : Rat) < (s : Rat) + (p : Rat) := by have := cast_pos hs; have := cast_pos hp; grind
    have : mix s C p C = C := mul_cancel_eq k (by grind)
    rw [this]; exact ⟨Rat.le_refl, Rat.le_refl⟩
  · have := mix_ltR hs hp (show C < A by grind)
    exact ⟨Rat.le_of_lt this.1, Rat.le_of_lt this.2⟩
theorem tch_les {n : Nat} {L : List Bl} {i j : Nat} (O : OkSt n L) (hi : i < L.length) (hj : j < L.length) (hij : i ≠ j) : Les L (tchS L i j) := by
  have h := tch_mov O hi hj hij
  have T := tchS_tch hi hj
  refine ⟨h.tot hi hj hij, h.heatF hi hj hij, ?_⟩
  rcases (show tmp L i ≤ tmp L j ∨ tmp L j ≤ tmp L i from Rat.le_total) with q | q
  · have m := mix_mid (siz_pos O hi) (siz_pos O hj) q
    exact h.phi O hi hj hij q (by rw [T.ti]; exact m) (by rw [T.tj]; exact m)
  · have m := mix_mid (siz_pos O hj) (siz_pos O hi) q
    rw [mix_comm] at m
    exact h.symm.phi O hj hi (Ne.symm hij) q (by rw [T.tj]; exact m) (by rw [T.ti]; exact m)
theorem after_les : ∀ {ts : List (Nat × Nat)} {n : Nat} {L : List Bl}, OkSt n L → OkTs L.length ts → Les L (afterS L ts)
  | [], _, L, _, _ => Les.refl L
  | t :: ts, n, L, O, h => by
    obtain ⟨h1, h2, h3⟩ := h t (by simp)
    have O2 := tchS_ok O h1 h2
    have h4 : OkTs (tchS L t.1 t.2).length ts := fun q hq => by rw [tchS_len]; exact h q (by simp [hq])
    exact (tch_les O h1 h2 h3).trans (after_les O2 h4)
/-! ### what is left of a smooth number -/
theorem remG_ok : ∀ (f n s : Nat), 0 < n → n ≤ f → 0 < s → remG f n s ∣ n ∧ Nat.Coprime (remG f n s) s
  | 0, n, s, h, k, _ => by omega
  | f + 1, n, s, h, k, hs => by
    show (if 1 < Nat.gcd n s then remG f (n / Nat.gcd n s) s else n) ∣ n ∧ Nat.Coprime (if 1 < Nat.gcd n s then remG f (n / Nat.gcd n s) s else n) s
    split
    · rename_i hg
      have hd := Nat.gcd_dvd_left n s
      have h1 := Nat.div_pos (Nat.le_of_dvd h hd) (show 0 < Nat.gcd n s by omega)
      have h2 := Nat.div_lt_self h hg
      obtain ⟨a, b⟩ := remG_ok f (n / Nat.gcd n s) s h1 (by omega) hs
      exact ⟨Nat.dvd_trans a (Nat.div_dvd_of_dvd hd), b⟩
    · rename_i hg
      have := Nat.gcd_pos_of_pos_left s h
      exact ⟨Nat.dvd_refl _, by unfold Nat.Coprime; omega⟩
theorem remN_ok {n : Nat} (h : 0 < n) : ∀ (l : List Nat), (∀ s ∈ l, 0 < s) → remN n l ∣ n ∧ ∀ s ∈ l, Nat.Coprime (remN n l) s := by
  intro l
  induction l using snoc_ind with
  | h0 => intro _; exact ⟨Nat.dvd_refl _, by simp⟩
  | h1 l s ih =>
    intro hl
    obtain ⟨a, b⟩ := ih fun q hq => hl q (by simp [hq])
    have hp := remN_pos h l
    have e : remN n (l ++ [s]) = remG (remN n l) (remN n l) s := by unfold remN; rw [List.foldl_append]; rfl
    obtain ⟨c, d⟩ := remG_ok (remN n l) (remN n l) s hp.1 (Nat.le_refl _) (hl s (by simp))
    rw [e]
    refine ⟨Nat.dvd_trans c a, fun q hq => ?_⟩
    rcases List.mem_append.mp hq with z | z
    · exact Nat.Coprime.coprime_dvd_left c (b q z)
    · have : q = s := by simpa using z
      subst this; exact d
def prodN (l : List Nat) : Nat := l.foldr (· * ·) 1
theorem cop_prod {r : Nat} : ∀ {l : List Nat}, (∀ s ∈ l, Nat.Coprime r s) → Nat.Coprime r (prodN l)
  | [], _ => Nat.coprime_one_right _
  | s :: l, h => Nat.Coprime.mul_right (h s (by simp)) (cop_prod fun q hq => h q (by simp [hq]))
theorem dvd_prod {s : Nat} : ∀ {l : List Nat}, s ∈ l → s ∣ prodN l
  | x :: l, h => by
    rcases List.mem_cons.mp h with rfl | h
    · exact Nat.dvd_mul_right _ _
    · exact Nat.dvd_trans (dvd_prod h) (Nat.dvd_mul_left _ _)
theorem prod_pos : ∀ {l : List Nat}, (∀ s ∈ l, 0 < s) → 0 < prodN l
  | [], _ => by decide
  | s :: l, h => Nat.mul_pos (h s (by simp)) (prod_pos fun q hq => h q (by simp [hq]))
theorem remN_one {n m : Nat} {l : List Nat} (h : 0 < n) (hl : ∀ s ∈ l, 0 < s) (hd : n ∣ prodN l ^ m) : remN n l = 1 := by
  obtain ⟨a, b⟩ := remN_ok h l hl
  have c := Nat.Coprime.pow_right m (cop_prod b)
  exact Nat.Coprime.eq_one_of_dvd c (Nat.dvd_trans a hd)
/-! ### the lattice -/
/-- q is a whole number of steps, over a power of P -/
def Sm (P : Nat) (st q : Rat) : Prop := ∃ (m : Nat) (z : Int), q * (((P ^ m : Nat) : Int) : Rat) = (z : Rat) * st
theorem Sm.add {P : Nat} {st p q : Rat} (h : Sm P st p) (k : Sm P st q) : Sm P st (p + q) := by
  obtain ⟨m, z, e⟩ := h
  obtain ⟨n, y, f⟩ := k
  refine ⟨m + n, z * ((P ^ n : Nat) : Int) + y * ((P ^ m : Nat) : Int), ?_⟩
  rw [Nat.pow_add, Int.natCast_mul, Rat.intCast_mul, Rat.intCast_add, Rat.intCast_mul, Rat.intCast_mul]
  have e1 : p * ((((P ^ m : Nat) : Int) : Rat) * (((P ^ n : Nat) : Int) : Rat)) = (z : Rat) * st * (((P ^ n : Nat) : Int) : Rat) := by rw [← e]; grind
  have e2 : q * ((((P ^ m : Nat) : Int) : Rat) * (((P ^ n : Nat) : Int) : Rat)) = (y : Rat) * st * (((P ^ m : Nat) : Int) : Rat) := by rw [← f]; grind
  grind
theorem Sm.mul {P : Nat} {st q : Rat} (c : Int) (h : Sm P st q) : Sm P st ((c : Rat) * q) := by
  obtain ⟨m, z, e⟩ := h
  refine ⟨m, c * z, ?_⟩
  rw [Rat.intCast_mul]
  have : (c : Rat) * q * (((P ^ m : Nat) : Int) : Rat) = (c : Rat) * ((z : Rat) * st) := by rw [← e]; grind
  rw [this]; grind
/-- d divides P: what is so d times is so -/
theorem Sm.divi {P d : Nat} {st q : Rat} (hd : d ∣ P) (h : Sm P st (((d : Nat) : Int) * q)) : Sm P st q := by
  obtain ⟨m, z, e⟩ := h
  obtain ⟨c, hc⟩ := hd
  refine ⟨m + 1, (c : Int) * z, ?_⟩
  rw [Nat.pow_succ, Int.natCast_mul, Rat.intCast_mul, Rat.intCast_mul]
  have hP : (((P : Nat) : Int) : Rat) = (((d : Nat) : Int) : Rat) * (((c : Nat) : Int) : Rat) := by rw [← Rat.intCast_mul, ← Int.natCast_mul, ← hc]
  rw [hP]
  have : q * ((((P ^ m : Nat) : Int) : Rat) * ((((d : Nat) : Int) : Rat) * (((c : Nat) : Int) : Rat))) = (((c : Nat) : Int) : Rat) * ((((d : Nat) : Int) : Rat) * q * (((P ^ m : Nat) : Int) : Rat)) := by grind
  rw [this, e]; grind
theorem Sm.one {P : Nat} {st q : Rat} {z : Int} (h : q = (z : Rat) * st) : Sm P st q := ⟨0, z, by
  rw [Nat.pow_zero, h]
  have : (((1 : Nat) : Int) : Rat) = 1 := rfl
  rw [this]; grind⟩
/-- .. its denominator in steps divides a power of P -/
theorem Sm.den {P : Nat} {st q : Rat} (hP : 0 < P) (hs : ¬ st = 0) (h : Sm P st q) : ∃ m, (q / st).den ∣ P ^ m := by
  obtain ⟨m, z, e⟩ := h
  refine ⟨m, den_of (Nat.pow_pos hP) (k := z) ?_⟩
  rw [Rat.div_def]
  have : q * st⁻¹ * (((P ^ m : Nat) : Int) : Rat) = q * (((P ^ m : Nat) : Int) : Rat) * st⁻¹ := by grind
  rw [this, e, Rat.mul_assoc, Rat.mul_inv_cancel _ hs, Rat.mul_one]
theorem di_quot (p q : Rat) : Rat.divInt (p.num * (q.den : Int)) ((p.den : Int) * q.num) = p / q := by
  have h1 : Rat.divInt (q.den : Int) q.num = q⁻¹ := by
    have := Rat.inv_divInt q.num (q.den : Int)
    rw [di_self] at this
    exact this.symm
  rw [← Rat.divInt_mul_divInt, di_self, h1, Rat.div_def]
/-- the step divides every difference -/
theorem rgcd_dvd {p q : Rat} {E : Nat} {a b : Int} (hE : 0 < E) (ha : p * ((E : Int) : Rat) = (a : Rat)) (hb : q * ((E : Int) : Rat) = (b : Rat)) : (∃ z : Int, p = (z : Rat) * rgcd p q) ∧ ∃ z : Int, q = (z : Rat) * rgcd p q := by
  have e := rgcd_mul hE ha hb
  have hd : (0 : Rat) < ((E : Int) : Rat) := Rat.intCast_pos.mpr (by omega)
  obtain ⟨x, hx⟩ := Int.gcd_dvd_left a b
  obtain ⟨y, hy⟩ := Int.gcd_dvd_right a b
  refine ⟨⟨x, mul_cancel_eq hd ?_⟩, ⟨y, mul_cancel_eq hd ?_⟩⟩
  · rw [ha, Rat.mul_assoc, e, ← Rat.intCast_mul, Int.mul_comm]; exact congrArg (fun z : Int => (z : Rat)) hx
  · rw [hb, Rat.mul_assoc, e, ← Rat.intCast_mul, Int.mul_comm]; exact congrArg (fun z : Int => (z : Rat)) hy
theorem cst_dvd {E n : Nat} {L : List Bl} (hE : 0 < E) (h : ∀ b ∈ L, Gr E n b.2) (h0 : Gr E n (tmp L 0)) : ∀ i, ∀ k, k < i → k < L.length → ∃ z : Int, tmp L k - tmp L 0 = (z : Rat) * cst L i
  | 0, k, hk, _ => by omega
  | i + 1, k, hk, hkl => by
    cases q : L[i]? with
    | none =>
      have hl := List.getElem?_eq_none_iff.mp q
      have : L.take (i + 1) = L.take i := by rw [List.take_of_length_le (by omega), List.take_of_length_le hl]
      have ih := cst_dvd hE h h0 i k (by omega) hkl
      unfold cst at ih ⊢
      rw [this]; exact ih
    | some b =>
      rw [cst_succ q]
      obtain ⟨x, hx⟩ := (cst_gr hE h h0 i).dv
      obtain ⟨y, hy⟩ := ((h b (List.mem_of_getElem? q)).sub hE h0).dv
      obtain ⟨d1, d2⟩ := rgcd_dvd hE (mul_dvd hx) (mul_dvd hy)
      by_cases hki : k < i
      · obtain ⟨z, hz⟩ := cst_dvd hE h h0 i k hki hkl
        obtain ⟨w, hw⟩ := d1
        refine ⟨z * w, ?_⟩
        rw [hz, Rat.intCast_mul, Rat.mul_assoc, ← hw]
      · have : k = i := by omega
        subst this
        obtain ⟨w, hw⟩ := d2
        have e : tmp L k = b.2 := by
          have := List.getElem?_eq_some_iff.mp q
          unfold tmp; rw [getD_eq hkl, this.2]
        rw [e]; exact ⟨w, hw⟩
/-- all temperatures of M lie on L's lattice -/
def OnLat (L M : List Bl) : Prop := ∀ k, k < L.length → Sm (prodN (dvs L)) (cstep L) (tmp M k - tmp L 0)
theorem onLat_self {n : Nat} {L : List Bl} (O : OkSt n L) : OnLat L L := fun k hk => by
  obtain ⟨D, d0, d1, d2⟩ := O.cd
  have h0 : 0 < L.length := O.one
  have g0 : Gr D n (tmp L 0) := by unfold tmp; rw [getD_eq h0]; exact d2 _ (List.getElem_mem h0)
  obtain ⟨z, hz⟩ := cst_dvd d0 d2 g0 L.length k hk hk
  exact Sm.one (z := z) hz
theorem dvs_mem {n : Nat} {L : List Bl} (O : OkSt n L) {i j : Nat} (hi : i < L.length) (hj : j < L.length) (hij : i ≠ j) : ((siz L i + siz L j) / (Int.gcd (siz L i) (siz L j) : Int)).toNat ∈ dvs L := by
  unfold dvs
  by_cases h : i < j
  · exact List.mem_map.mpr ⟨(i, j), mem_prsL.mpr ⟨h, hj⟩, rfl⟩
  · refine List.mem_map.mpr ⟨(j, i), mem_prsL.mpr ⟨by show j < i; omega, hi⟩, ?_⟩
    show ((siz L j + siz L i) / (Int.gcd (siz L j) (siz L i) : Int)).toNat = _
    rw [Int.add_comm, Int.gcd_comm]
theorem onLat_tch {n m : Nat} {L M : List Bl} {i j : Nat} (O : OkSt n L) (O2 : OkSt m M) (hl : M.length = L.length) (hs : ∀ x, x < L.length → siz M x = siz L x) (h : OnLat L M) (hi : i < L.length) (hj : j < L.length) (hij : i ≠ j) : OnLat L (tchS M i j) := fun k hk => by
  have hkM : k < M.length := by omega
  rw [(tchS_get (i := i) (j := j) hkM).2]
  by_cases q : k = i ∨ k = j
  · rw [if_pos q, hs i hi, hs j hj]
    have si := siz_pos O hi
    have sj := siz_pos O hj
    have hdm := dvs_mem O hi hj hij
    have hd := dvd_prod hdm
    have hdp := (dvs_pos O _ hdm).1
    refine Sm.divi hd ?_
    obtain ⟨a, ha⟩ := Int.gcd_dvd_left (siz L i) (siz L j)
    obtain ⟨b, hb⟩ := Int.gcd_dvd_right (siz L i) (siz L j)
    have g0 : 0 < Int.gcd (siz L i) (siz L j) := Int.gcd_pos_of_ne_zero_left _ (by omega)
    have hdiv : (siz L i + siz L j) / (Int.gcd (siz L i) (siz L j) : Int) = a + b := by
      have : siz L i + siz L j = (a + b) * (Int.gcd (siz L i) (siz L j) : Int) := by rw [Int.add_mul, Int.mul_comm a, ← ha, Int.mul_comm b, ← hb]
      rw [this]; exact Int.mul_ediv_cancel _ (by omega)
    have hcast : (((((siz L i + siz L j) / (Int.gcd (siz L i) (siz L j) : Int)).toNat : Nat) : Int) : Rat) = (a : Rat) + (b : Rat) := by
      rw [Int.toNat_of_nonneg (by omega), hdiv, Rat.intCast_add]
    rw [hcast]
    have e := mix_eq (tmp M i) (tmp M j) si sj
    have sa : (siz L i : Rat) = (((Int.gcd (siz L i) (siz L j) : Nat) : Int) : Rat) * (a : Rat) := by rw [← Rat.intCast_mul, ← ha]
    have sb : (siz L j : Rat) = (((Int.gcd (siz L i) (siz L j) : Nat) : Int) : Rat) * (b : Rat) := by rw [← Rat.intCast_mul, ← hb]
    have gr0 : (0 : Rat) < (((Int.gcd (siz L i) (siz L j) : Nat) : Int) : Rat) := Rat.intCast_pos.mpr (by omega)
    have key : ((a : Rat) + (b : Rat)) * (mix (siz L i) (tmp M i) (siz L j) (tmp M j) - tmp L 0) = (a : Rat) * (tmp M i - tmp L 0) + (b : Rat) * (tmp M j - tmp L 0) := by
      refine mul_cancel_eq gr0 ?_
      generalize mix (siz L i) (tmp M i) (siz L j) (tmp M j) = x at e ⊢
      rw [sa, sb] at e
      generalize (((Int.gcd (siz L i) (siz L j) : Nat) : Int) : Rat) = g at e ⊢
      grind
    rw [key]
    exact ((h i hi).mul a).add ((h j hj).mul b)
  · rw [if_neg q]; exact h k hk
theorem onLat_after : ∀ {ts : List (Nat × Nat)} {n m : Nat} {L M : List Bl}, OkSt n L → OkSt m M → M.length = L.length → (∀ x, x < L.length → siz M x = siz L x) → OnLat L M → OkTs L.length ts → OnLat L (afterS M ts)
  | [], _, _, _, _, _, _, _, _, h, _ => h
  | t :: ts, n, m, L, M, O, O2, hl, hs, h, ht => by
    obtain ⟨h1, h2, h3⟩ := ht t (by simp)
    have O3 := tchS_ok O2 (i := t.1) (j := t.2) (by omega) (by omega)
    exact onLat_after (M := tchS M t.1 t.2) O O3 (by rw [tchS_len]; exact hl) (fun x hx => by rw [(tchS_get (i := t.1) (j := t.2) (by omega)).1]; exact hs x hx) (onLat_tch O O2 hl hs h h1 h2 h3) fun q hq => ht q (by simp [hq])
theorem frgD_none {n : Nat} {L M : List Bl} (O : OkSt n L) (hl : M.length = L.length) (h : OnLat L M) : frgD L M = .none := by
  unfold frgD
  by_cases hc : cstep L = 0
  · rw [if_pos hc]
  · rw [if_neg hc]
    have hp : ∀ s ∈ dvs L, 0 < s := fun s hs => (dvs_pos O s hs).1
    rw [frg_none fun k hk => decide_eq_false ?_]
    obtain ⟨m, hm⟩ := (h k (by omega)).den (prod_pos hp) hc
    unfold frg
    rw [di_quot, remN_one (Rat.den_pos _) hp hm]
    decide
/-- what touches reach: no reason -/
theorem reaD_after {n : Nat} {L : List Bl} {ts : List (Nat × Nat)} (O : OkSt n L) (ht : OkTs L.length ts) : reaD L (afterS L ts) = .none := by
  have O2 := afterS_ok O ht
  have hl := afterS_len L ts
  have les := after_les O ht
  unfold reaD
  rw [if_neg (fun z => z (szD_iff.mp (szD_after L ts)).symm), if_neg (fun z => z les.2.1.symm), les.fexc O O2]
  show (if afterS L ts ≠ L ∧ ((afterS L ts).map (·.2)).Nodup then _ else _) = _
  rw [if_neg]
  · exact frgD_none O hl (onLat_after O O rfl (fun _ _ => rfl) (onLat_self O) ht)
  · rintro ⟨h1, h2⟩
    cases ts using snoc_ind with
    | h0 => exact h1 rfl
    | h1 ts t =>
      obtain ⟨t1, t2, t3⟩ := ht t (by simp)
      rw [afterS_snoc] at h2
      have hlA := afterS_len L ts
      have k1 : t.1 < (afterS L ts).length := by omega
      have k2 : t.2 < (afterS L ts).length := by omega
      have T := tchS_tch k1 k2
      have e : tmp (tchS (afterS L ts) t.1 t.2) t.1 = tmp (tchS (afterS L ts) t.1 t.2) t.2 := by rw [T.ti, T.tj]
      unfold tmp at e
      have l1 : t.1 < (tchS (afterS L ts) t.1 t.2).length := by rw [tchS_len]; exact k1
      have l2 : t.2 < (tchS (afterS L ts) t.1 t.2).length := by rw [tchS_len]; exact k2
      rw [getD_eq l1, getD_eq l2] at e
      rw [List.nodup_iff_pairwise_ne, List.pairwise_iff_getElem] at h2
      rcases Nat.lt_or_gt_of_ne t3 with q | q
      · exact h2 t.1 t.2 (by simpa using l1) (by simpa using l2) q (by simpa using e)
      · exact h2 t.2 t.1 (by simpa using l2) (by simpa using l1) q (by simpa using e.symm)
end AL
/-! The drawn states of the laws on reasons; sequences cut in two. -/
namespace AL
open PySem PySem.Spec L2
def sizeZ (z : Int) (p : Pl) : Int := size4 (pick p 4) (pick (left p 4) 9) (pick (left (left p 4) 9) z) (pick (left (left (left p 4) 9) z) 4)
def sizePZ (z : Int) (p : Pl) : Pl := left (left (left (left p 4) 9) z) 4
theorem sizePZ_ok {z : Int} (hz : 0 < z) {p : Pl} (h : p.Ok) : (sizePZ z p).Ok := left_ok (left_ok (left_ok (left_ok h (by decide)) (by decide)) hz) (by decide)
theorem sizeZ_sz {z : Int} (hz : 0 < z) (hz2 : z ≤ 99) (p : Pl) : Sz (sizeZ z p) := by
  have a := pick_nn (p := p) (w := 4) (by decide)
  have a' := pick_lt (p := p) (w := 4) (by decide)
  have b := pick_nn (p := left p 4) (w := 9) (by decide)
  have b' := pick_lt (p := left p 4) (w := 9) (by decide)
  have c := pick_nn (p := left (left p 4) 9) (w := z) hz
  have c' := pick_lt (p := left (left p 4) 9) (w := z) hz
  unfold sizeZ size4 Sz
  split
  · decide
  · split
    · omega
    · split <;> omega
/-- n drawn blocks -/
def lotZN (z : Int) : Nat → Pl → List Bl × Pl
  | 0, p => ([], p)
  | n + 1, p => ((lotZN z n p).1 ++ [(sizeZ z (lotZN z n p).2, shareC 1000000 (sizePZ z (lotZN z n p).2))], sharePC 1000000 (sizePZ z (lotZN z n p).2))
/-- fit blocks -/
def Eac (L : List Bl) : Prop := ∀ b ∈ L, Sz b.1 ∧ Rb 40 b.2
theorem lotZN_ok {z : Int} (hz : 0 < z) {p : Pl} (h : p.Ok) : ∀ n : Nat, (lotZN z n p).2.Ok
  | 0 => h
  | n + 1 => sharePC_ok (by decide) (sizePZ_ok hz (lotZN_ok hz h n))
theorem lotZN_len (z : Int) (p : Pl) : ∀ n : Nat, (lotZN z n p).1.length = n
  | 0 => rfl
  | n + 1 => by
    show ((lotZN z n p).1 ++ [_]).length = _
    rw [List.length_append, lotZN_len z p n]; rfl
theorem lotZN_each {z : Int} (hz : 0 < z) (hz2 : z ≤ 99) (p : Pl) : ∀ n : Nat, Eac (lotZN z n p).1
  | 0, b, h => by simp [lotZN] at h
  | n + 1, b, h => by
    have h' : b ∈ (lotZN z n p).1 ++ [(sizeZ z (lotZN z n p).2, shareC 1000000 (sizePZ z (lotZN z n p).2))] := h
    rw [List.mem_append, List.mem_singleton] at h'
    rcases h' with h' | rfl
    · exact lotZN_each hz hz2 p n b h'
    · exact ⟨sizeZ_sz hz hz2 _, shareC_rb (by decide) (by decide)⟩
def lotZ (z : Int) (few more : Int) (p : Pl) : List Bl := (lotZN z (few + pick p (more - few + 1)).toNat (left p (more - few + 1))).1
def lotPZ (z : Int) (few more : Int) (p : Pl) : Pl := (lotZN z (few + pick p (more - few + 1)).toNat (left p (more - few + 1))).2
theorem lotZ_each {z : Int} (hz : 0 < z) (hz2 : z ≤ 99) (few more : Int) (p : Pl) : Eac (lotZ z few more p) := lotZN_each hz hz2 _ _
theorem lotZ_len {z few more : Int} {p : Pl} (h0 : 0 ≤ few) (h : few ≤ more) : few ≤ (lotZ z few more p).length ∧ ((lotZ z few more p).length : Int) ≤ more := by
  unfold lotZ
  rw [lotZN_len]
  have a := pick_nn (p := p) (w := more - few + 1) (by omega)
  have b := pick_lt (p := p) (w := more - few + 1) (by omega)
  omega
theorem lotPZ_ok {z few more : Int} {p : Pl} (hz : 0 < z) (h : few ≤ more) (O : p.Ok) : (lotPZ z few more p).Ok := lotZN_ok hz (left_ok O (by omega)) _
theorem Eac.at {L : List Bl} (h : Eac L) {i : Nat} (hi : i < L.length) : Sz (siz L i) ∧ Rb 40 (tmp L i) := by
  unfold siz tmp
  rw [getD_eq hi]
  exact h _ (List.getElem_mem hi)
theorem Eac.app {L M : List Bl} (h : Eac L) (k : Eac M) : Eac (L ++ M) := fun b hb => by
  rcases List.mem_append.mp hb with q | q
  · exact h b q
  · exact k b q
theorem Eac.put {L : List Bl} (h : Eac L) {i : Nat} {t : Rat} (hi : i < L.length) (ht : Rb 40 t) : Eac (putT L i t) := fun b hb => by
  unfold putT at hb
  rcases List.mem_or_eq_of_mem_set hb with q | q
  · exact h b q
  · subst q
    exact ⟨(h.at hi).1, ht⟩
theorem Eac.st {L : List Bl} (h : Eac L) (h1 : 1 ≤ L.length) (h2 : L.length ≤ 12) : OkSt 481 L := OkSt.of_rb (m := 40) h1 h2 h
/-! ### no touches: only the state itself -/
theorem extW_zero {n : Nat} {up : Bool} {L : List Bl} {b : Nat} (O : OkSt n L) (hb : b < L.length) : (extW up L b ((0 : Nat) : Int)).1 = tmp L b := by
  obtain ⟨⟨h1, h2, h3⟩, -⟩ := extW_best (up := up) O hb (many := ((0 : Nat) : Int)) (by omega)
  have : (extW up L b ((0 : Nat) : Int)).2 = [] := List.eq_nil_of_length_eq_zero (by omega)
  rw [h1, this]; rfl
theorem st_ext {L M : List Bl} (hs : M.map (·.1) = L.map (·.1)) (ht : ∀ k, k < L.length → tmp M k = tmp L k) : M = L := by
  have hl : M.length = L.length := by have := congrArg List.length hs; simpa using this
  refine List.ext_getElem hl fun k h1 h2 => ?_
  have a : (M.map (·.1))[k]? = (L.map (·.1))[k]? := by rw [hs]
  rw [List.getElem?_map, List.getElem?_map, List.getElem?_eq_getElem h1, List.getElem?_eq_getElem h2] at a
  have b := ht k h2
  unfold tmp at b
  rw [getD_eq h1, getD_eq h2] at b
  exact Prod.ext (Option.some.inj a) b
theorem minT_zero {n : Nat} {L M : List Bl} (O : OkSt n L) (hs : szD M = szD L) : minT L M = some 0 ↔ L = M := by
  constructor
  · intro h
    have h2 := (minT_at h).2
    rw [allW_iff] at h2
    refine (st_ext (szD_iff.mp hs) fun k hk => ?_).symm
    have := inW_iff.mp (h2 k hk)
    rw [extW_zero O hk, extW_zero O hk] at this
    grind
  · rintro rfl
    exact minT_self O
/-! ### sequences cut in two -/
theorem afterS_app (L : List Bl) (ts us : List (Nat × Nat)) : afterS L (ts ++ us) = afterS (afterS L ts) us := by unfold afterS; rw [List.foldl_append]
theorem after_cut (L : List Bl) (ts : List (Nat × Nat)) {a b : Nat} (h : a ≤ b) : afterS L (ts.take b) = afterS (afterS L (ts.take a)) ((ts.take b).drop a) := by
  rw [← afterS_app, show ts.take a = (ts.take b).take a by rw [List.take_take, Nat.min_eq_left h], List.take_append_drop]
theorem cut_len {ts : List (Nat × Nat)} {a b : Nat} (hb : b ≤ ts.length) : ((ts.take b).drop a).length = b - a := by rw [List.length_drop, List.length_take, Nat.min_eq_left hb]
theorem cut_head {ts : List (Nat × Nat)} {a b : Nat} (h : a < b) : ((ts.take b).drop a)[0]? = ts[a]? := by
  rw [List.getElem?_drop, Nat.add_zero, List.getElem?_take, if_pos h]
theorem cut_ok {m : Nat} {ts : List (Nat × Nat)} {a b : Nat} (h : OkTs m ts) : OkTs m ((ts.take b).drop a) := fun t ht => h t (List.mem_of_mem_take (List.mem_of_mem_drop ht))
theorem alRow_at {L : List Bl} {ts : List (Nat × Nat)} {n k : Nat} (h : k < n + 1) : atI (alRow L ts n) ((k : Nat) : Int) = some (stD (afterS L (ts.take k))) := by
  refine atI_nat ?_
  unfold alRow
  rw [List.getElem?_map, List.getElem?_range h]; rfl
end AL
/-! xs.count(x), data of any depth. -/
namespace AL
open PySem PySem.Spec L2
def rCntD (K : PySem.W.Frag) : V → List V → Hp → VK → Prop := fun x xs H Q => ∃ y d ds, xs = [y] ∧ Dp K H x (.list ds) ∧ Dp K H y d ∧ SeqAt.shaped d = true ∧ PyData.canLayAll0 ds = true ∧ Q (.int ((ds.countP fun z => PyData.eqv z d : Nat) : Int)) H
theorem mt_countD {X : Cx} (hu : X.A.units + 66 < cLine) : MtR X "list.count" (rCntD X.K) := by
  intro pins s σ H x xs v us Q I rx rxs h
  obtain ⟨y, d, ds, rfl, hx, hy, sd, se, q⟩ := h
  obtain ⟨u, rfl, ru⟩ := rxs.one
  obtain ⟨as, r1⟩ := Dp.reads I (.list ds) x v hx rx
  obtain ⟨bs, r2⟩ := Dp.reads I d y u hy ru
  have room : X.A.units + 1 + min (PyData.depthAll ds) d.depth < cLine := by have := SeqAt.depth_of_shaped sd; omega
  cases r1 with
  | list h1 h2 h3 h4 => exact SeqAt.count_list_data ⟨_, h1, h2, _, h3⟩ h4 r2 (PyData.plainAll_of_canLay0 _ se) (PyData.plain_of_canLay0 _ (SeqAt.canLay_of_shaped sd)) room ⟨.int _, H, I.tok _, ⟨_, rfl⟩, q⟩
section
variable {X : Cx} {C : Ct} {g : Gm} {o e : Expr} {pos apos : PySem.Pos} {k : Nat} {Q : Av → Gm → Prop}
/-- of a list that is data -/
theorem ee_count (hr : Room k X.A) (h : EE X C o g fun x g1 => ∃ ds, x = .d (.list ds) ∧ EE X C e g1 fun y g2 => ∃ d, y = .d d ∧ SeqAt.shaped d = true ∧ PyData.canLayAll0 ds = true ∧ Q (.d (.int ((ds.countP fun z => PyData.eqv z d : Nat) : Int))) g2)
    (hbase : attributeBase o "count" X.env (eval o X.env) = eval o X.env := by rfl) (hline : (apos.endLine == pos.line) = true := by rfl) (hs : starEach [e] X.env = (false, eval e X.env) :: starEach [] X.env := by rfl)
    (hfew : ((backTo pos (starEach [e] X.env)).all (fun x => !x.1) && (backToKw pos (keywordEach [] X.env)).all (fun x => x.1.isSome) && decide ([e].length + ([] : List Keyword).length + (if ([] : List Keyword).isEmpty then 0 else 1) < 30)) = true := by rfl) :
    EE X C (.Call (.Attribute o "count" apos) [e] [] pos) g Q :=
  EE.of (pe_bm PySem.F.plainAttrs_list PySem.F.slot_list_count PySem.F.type_list_count (mt_countD (by have := hr.un; omega)) pe_t pa_t hbase hfew hline hs rfl) fun σ H Z I P p =>
    h σ H Z I _ fun v H1 Z1 x g1 I1 s1 a1 q1 => by
      obtain ⟨ds, rfl, h2⟩ := q1
      have a1' : Dd X.K Z1 v (.list ds) := a1
      have a1k := a1'
      cases a1' with
      | @lst ad xs _ z1 z2 =>
        refine ⟨.inl ⟨rfl, xs, SqL.of (I1.fz _ _ z1)⟩, ?_⟩
        refine (show EA X C [e] g1 (fun ys g2 => ∃ y d, ys = [y] ∧ y = .d d ∧ SeqAt.shaped d = true ∧ PyData.canLayAll0 ds = true ∧ Q (.d (.int ((ds.countP fun z => PyData.eqv z d : Nat) : Int))) g2) from ea_cons (h2.mono fun y g2 q => by
          obtain ⟨d, q⟩ := q
          exact ea_nil ⟨y, d, rfl, q⟩) hs) σ H1 Z1 I1 _ fun vs H2 Z2 ys g2 I2 s2 a2 q => ?_
        obtain ⟨y, d, rfl, rfl, sd, se, q⟩ := q
        cases a2 with
        | @cons _ vy _ _ ay a3 =>
          cases a3
          have ay' : Dd X.K Z2 vy d := ay
          exact ⟨vy, d, ds, rfl, Dd.dp I2.fz (.list ds) _ (by simp [PyData.canLay0, se]) (Dd.mono s2 _ _ a1k), Dd.dp I2.fz d vy (SeqAt.canLay_of_shaped sd) ay', sd, se, p _ H2 Z2 (.d (.int _)) g2 I2 (s1.trans s2) (Dd.int _) q⟩
end
theorem cnt_fr (qs : List Rat) (q : Rat) : ((qs.map fr).countP fun z => PyData.eqv z (fr q)) = qs.count q := by
  rw [List.countP_map, List.count]
  refine List.countP_congr fun x _ => ?_
  have := eqv_iff (fr x) (fr q) (fr_plain x).nb (fr_plain q).nb
  simp only [Function.comp_apply, beq_iff_eq]
  rw [this]
  exact ⟨fr_inj, fun h => by rw [h]⟩
theorem fr_shaped (q : Rat) : SeqAt.shaped (fr q) = true := (fr_plain q).shaped (by decide)
theorem frs_lay (qs : List Rat) : PyData.canLayAll0 (qs.map fr) = true := (plainA (k := 1) fun d hd => by
  obtain ⟨q, _, rfl⟩ := List.mem_map.mp hd
  exact fr_plain q).2.1
end AL
/-! Heat moved: two blocks brought together by a part. -/
namespace AL
open PySem PySem.Spec L2
theorem gapQ_rb4 {n : Nat} {L : List Bl} {i j : Nat} {part : Rat} (O : OkSt n L) (hn : n ≤ 900) (hi : i < L.length) (hj : j < L.length) (hp : Gr part.den 4 part) (hd : part.den < 2 ^ 4) :
    Rb 4000 (tmp L i) ∧ Rb 4000 (tmp L j) ∧ Rb 4000 (tmp L j + -tmp L i) ∧ Rb 4000 part ∧ Rb 4000 ((tmp L j + -tmp L i) * part) ∧ Rb 4000 (Rat.divInt (siz L i * siz L j) (siz L i + siz L j)) ∧ Rb 4000 (gapQ L i j part) ∧ Rb 4000 (gapQ L i j part / (siz L i : Rat)) ∧ Rb 4000 (gapQ L i j part / (siz L j : Rat)) := by
  obtain ⟨D, d0, d1, d2⟩ := O.cd
  obtain ⟨s0, s1⟩ := siz_lt O hi
  obtain ⟨p0, p1⟩ := siz_lt O hj
  have gi : Gr D n (tmp L i) := by unfold tmp; rw [getD_eq hi]; exact d2 _ (List.getElem_mem hi)
  have gj : Gr D n (tmp L j) := by unfold tmp; rw [getD_eq hj]; exact d2 _ (List.getElem_mem hj)
  have c0 : 0 < part.den := part.den_pos
  have g0 := Gr.add d0 gj gi.neg
  have e1 : Gr (D * part.den) (n + 1 + 4) ((tmp L j + -tmp L i) * part) := Gr.mul d0 c0 g0 hp
  have u0 : 0 < siz L i + siz L j := by omega
  have hprod : (siz L i * siz L j).natAbs < 2 ^ 14 := by
    rw [Int.natAbs_mul]
    exact Nat.mul_lt_mul'' (a := (siz L i).natAbs) (b := (siz L j).natAbs) (c := 2 ^ 7) (d := 2 ^ 7) (by omega) (by omega)
  have e2 : Gr (siz L i + siz L j).toNat 14 (Rat.divInt (siz L i * siz L j) (siz L i + siz L j)) := Gr.di u0 hprod
  have e3 : Gr (D * part.den * (siz L i + siz L j).toNat) (n + 1 + 4 + 14) (gapQ L i j part) := Gr.mul (Nat.mul_pos d0 c0) (by omega) e1 e2
  have a1 : D * part.den < 2 ^ (n + 4) := by rw [Nat.pow_add]; exact Nat.mul_lt_mul'' d1 hd
  have a2 : D * part.den * (siz L i + siz L j).toNat < 2 ^ (n + 4 + 8) := by rw [Nat.pow_add]; exact Nat.mul_lt_mul'' a1 (by omega)
  have a20 : 0 < D * part.den * (siz L i + siz L j).toNat := Nat.mul_pos (Nat.mul_pos d0 c0) (by omega)
  have e4 := Gr.divi a20 s0 e3
  have e5 := Gr.divi a20 p0 e3
  have a3 : D * part.den * (siz L i + siz L j).toNat * (siz L i).toNat < 2 ^ (n + 4 + 8 + 7) := by rw [Nat.pow_add]; exact Nat.mul_lt_mul'' a2 (by omega)
  have a4 : D * part.den * (siz L i + siz L j).toNat * (siz L j).toNat < 2 ^ (n + 4 + 8 + 7) := by rw [Nat.pow_add]; exact Nat.mul_lt_mul'' a2 (by omega)
  exact ⟨(gi.rb d0 d1).mono (by omega), (gj.rb d0 d1).mono (by omega), (g0.rb d0 d1).mono (by omega), (hp.rb c0 hd).mono (by omega), (e1.rb (Nat.mul_pos d0 c0) a1).mono (by omega), (e2.rb (m := 8) (by omega) (by omega)).mono (by omega), (e3.rb a20 a2).mono (by omega),
    (e4.rb (Nat.mul_pos a20 (by omega)) a3).mono (by omega), (e5.rb (Nat.mul_pos a20 (by omega)) a4).mono (by omega)⟩
theorem partlyS_ok4 {n : Nat} {L : List Bl} {i j : Nat} {part : Rat} (O : OkSt n L) (hi : i < L.length) (hj : j < L.length) (hp : Gr part.den 4 part) (hd : part.den < 2 ^ 4) : OkSt (n + 26) (partlyS L i j part) := by
  obtain ⟨D, d0, d1, d2⟩ := O.cd
  obtain ⟨s0, s1⟩ := siz_lt O hi
  obtain ⟨p0, p1⟩ := siz_lt O hj
  have gi : Gr D n (tmp L i) := by unfold tmp; rw [getD_eq hi]; exact d2 _ (List.getElem_mem hi)
  have gj : Gr D n (tmp L j) := by unfold tmp; rw [getD_eq hj]; exact d2 _ (List.getElem_mem hj)
  have c0 : 0 < part.den := part.den_pos
  have e1 : Gr (D * part.den) (n + 1 + 4) ((tmp L j + -tmp L i) * part) := Gr.mul d0 c0 (Gr.add d0 gj gi.neg) hp
  have u0 : 0 < siz L i + siz L j := by omega
  have hprod : (siz L i * siz L j).natAbs < 2 ^ 14 := by
    rw [Int.natAbs_mul]
    exact Nat.mul_lt_mul'' (a := (siz L i).natAbs) (b := (siz L j).natAbs) (c := 2 ^ 7) (d := 2 ^ 7) (by omega) (by omega)
  have e2 : Gr (siz L i + siz L j).toNat 14 (Rat.divInt (siz L i * siz L j) (siz L i + siz L j)) := Gr.di u0 hprod
  have e3 : Gr (D * part.den * (siz L i + siz L j).toNat) (n + 1 + 4 + 14) (gapQ L i j part) := Gr.mul (Nat.mul_pos d0 c0) (by omega) e1 e2
  have e30 : 0 < D * part.den * (siz L i + siz L j).toNat := Nat.mul_pos (Nat.mul_pos d0 c0) (by omega)
  obtain ⟨E, eE⟩ : ∃ E, E = D * part.den * (siz L i + siz L j).toNat * (siz L i).toNat * (siz L j).toNat := ⟨_, rfl⟩
  have E0 : 0 < E := by rw [eE]; exact Nat.mul_pos (Nat.mul_pos e30 (by omega)) (by omega)
  have E1 : E < 2 ^ (n + 26) := by
    have a1 : D * part.den < 2 ^ (n + 4) := by rw [Nat.pow_add]; exact Nat.mul_lt_mul'' d1 hd
    have a2 : D * part.den * (siz L i + siz L j).toNat < 2 ^ (n + 4 + 8) := by rw [Nat.pow_add]; exact Nat.mul_lt_mul'' a1 (by omega)
    have a3 : D * part.den * (siz L i + siz L j).toNat * (siz L i).toNat < 2 ^ (n + 4 + 8 + 7) := by rw [Nat.pow_add]; exact Nat.mul_lt_mul'' a2 (by omega)
    rw [eE, show n + 26 = n + 4 + 8 + 7 + 7 by omega, Nat.pow_add]
    exact Nat.mul_lt_mul'' a3 (by omega)
  have dD : D ∣ E := by rw [eE, Nat.mul_assoc, Nat.mul_assoc, Nat.mul_assoc]; exact Nat.dvd_mul_right _ _
  have x1 : Gr E (n + 25) (gapQ L i j part / (siz L i : Rat)) := (Gr.divi e30 s0 e3).mono (by rw [eE]; exact Nat.dvd_mul_right _ _) (by omega)
  have x2 : Gr E (n + 25) (gapQ L i j part / (siz L j : Rat)) := (Gr.divi e30 p0 e3).mono (by rw [eE]; exact Nat.mul_dvd_mul (Nat.dvd_mul_right _ _) (Nat.dvd_refl _)) (by omega)
  have y1 := Gr.add E0 (gi.mono dD (by omega : n ≤ n + 25)) x1
  have y2 := Gr.add E0 (gj.mono dD (by omega : n ≤ n + 25)) x2.neg
  have hj' : j < (putT L i (tmp L i + gapQ L i j part / (siz L i : Rat))).length := by rw [putT_len]; exact hj
  refine O.of_gr (shiftS_len _ _ _ _) (putT_sz hj' (putT_sz hi O.szs)) E0 E1 (putT_gr (putT_gr (fun b hb => (d2 b hb).mono dD (by omega)) y1) y2)

/-- heat moved: q of at most m digits -/
theorem shiftS_ok {n m : Nat} {L : List Bl} {i j : Nat} {q : Rat} (O : OkSt n L) (hi : i < L.length) (hj : j < L.length) (hq : Rb m q) : OkSt (n + m + 15) (shiftS L i j q) := by
  obtain ⟨D, d0, d1, d2⟩ := O.cd
  obtain ⟨s0, s1⟩ := siz_lt O hi
  obtain ⟨p0, p1⟩ := siz_lt O hj
  have gi : Gr D n (tmp L i) := by unfold tmp; rw [getD_eq hi]; exact d2 _ (List.getElem_mem hi)
  have gj : Gr D n (tmp L j) := by unfold tmp; rw [getD_eq hj]; exact d2 _ (List.getElem_mem hj)
  have gq : Gr q.den m q := Gr.of_rb hq
  have c0 : 0 < q.den := q.den_pos
  have hd : q.den < 2 ^ m := by have := hq.2; unfold Bt at this; simpa using this
  obtain ⟨E, eE⟩ : ∃ E, E = D * q.den * (siz L i).toNat * (siz L j).toNat := ⟨_, rfl⟩
  have E0 : 0 < E := by rw [eE]; exact Nat.mul_pos (Nat.mul_pos (Nat.mul_pos d0 c0) (by omega)) (by omega)
  have E1 : E < 2 ^ (n + m + 14) := by
    have a1 : D * q.den < 2 ^ (n + m) := by rw [Nat.pow_add]; exact Nat.mul_lt_mul'' d1 hd
    have a2 : D * q.den * (siz L i).toNat < 2 ^ (n + m + 7) := by rw [Nat.pow_add]; exact Nat.mul_lt_mul'' a1 (by omega)
    rw [eE, show n + m + 14 = n + m + 7 + 7 by omega, Nat.pow_add]
    exact Nat.mul_lt_mul'' a2 (by omega)
  have dD : D ∣ E := by rw [eE, Nat.mul_assoc, Nat.mul_assoc]; exact Nat.dvd_mul_right _ _
  have x1 : Gr E (n + m + 13) (q / (siz L i : Rat)) := (Gr.divi c0 s0 gq).mono (by rw [eE, show D * q.den * (siz L i).toNat * (siz L j).toNat = q.den * (siz L i).toNat * (D * (siz L j).toNat) by ac_rfl]; exact Nat.dvd_mul_right _ _) (by omega)
  have x2 : Gr E (n + m + 13) (q / (siz L j : Rat)) := (Gr.divi c0 p0 gq).mono (by rw [eE, show D * q.den * (siz L i).toNat * (siz L j).toNat = q.den * (siz L j).toNat * (D * (siz L i).toNat) by ac_rfl]; exact Nat.dvd_mul_right _ _) (by omega)
  have y1 := Gr.add E0 (gi.mono dD (by omega : n ≤ n + m + 13)) x1
  have y2 := Gr.add E0 (gj.mono dD (by omega : n ≤ n + m + 13)) x2.neg
  have hj' : j < (putT L i (tmp L i + q / (siz L i : Rat))).length := by rw [putT_len]; exact hj
  exact (O.of_gr (m := n + m + 14) (shiftS_len _ _ _ _) (putT_sz hj' (putT_sz hi O.szs)) E0 E1 (putT_gr (putT_gr (fun b hb => (d2 b hb).mono dD (by omega)) (y1.mono (Nat.dvd_refl _) (by omega))) (y2.mono (Nat.dvd_refl _) (by omega)))).mono (by omega)
/-! ### who is how warm then -/
theorem shift_tmp {L : List Bl} {i j : Nat} {q : Rat} (hi : i < L.length) (hj : j < L.length) (hij : i ≠ j) (k : Nat) : tmp (shiftS L i j q) k = if k = j then tmp L j + -(q / (siz L j : Rat)) else if k = i then tmp L i + q / (siz L i : Rat) else tmp L k := by
  unfold shiftS
  rw [putT_tmp (by rw [putT_len]; exact hj), putT_tmp hi]
theorem shift_mov {n : Nat} {L : List Bl} {i j : Nat} {q : Rat} (O : OkSt n L) (hi : i < L.length) (hj : j < L.length) (hij : i ≠ j) : Mov L (shiftS L i j q) i j := by
  refine ⟨shiftS_len _ _ _ _, fun x hx => ?_, fun x hx h1 h2 => ?_, ?_⟩
  · unfold shiftS
    rw [putT_siz (by rw [putT_len]; exact hj), putT_siz hi]
  · rw [shift_tmp hi hj hij, if_neg h2, if_neg h1]
  · rw [shift_tmp hi hj hij, shift_tmp hi hj hij, if_neg hij, if_pos rfl, if_pos rfl]
    have a := cast_pos (siz_pos O hi)
    have b := cast_pos (siz_pos O hj)
    have e1 := Rat.div_mul_cancel (a := q) (b := (siz L i : Rat)) (by grind)
    have e2 := Rat.div_mul_cancel (a := q) (b := (siz L j : Rat)) (by grind)
    grind
theorem le_scale {x y c : Rat} (hc : 0 < c) (h : x * c ≤ y * c) : x ≤ y := Rat.le_of_mul_le_mul_right h hc
/-- the heat given, as a share of the gap -/
theorem gap_share {n : Nat} {L : List Bl} {i j : Nat} {part : Rat} (O : OkSt n L) (hi : i < L.length) (hj : j < L.length) :
    gapQ L i j part / (siz L i : Rat) * ((siz L i : Rat) + (siz L j : Rat)) = (tmp L j - tmp L i) * (part * (siz L j : Rat)) ∧ gapQ L i j part / (siz L j : Rat) * ((siz L i : Rat) + (siz L j : Rat)) = (tmp L j - tmp L i) * (part * (siz L i : Rat)) := by
  have a := cast_pos (siz_pos O hi)
  have b := cast_pos (siz_pos O hj)
  have e0 : Rat.divInt (siz L i * siz L j) (siz L i + siz L j) = ((siz L i : Rat) * (siz L j : Rat)) / ((siz L i : Rat) + (siz L j : Rat)) := by
    rw [Rat.divInt_eq_div, Rat.intCast_mul, Rat.intCast_add]
  unfold gapQ
  rw [e0]
  generalize (siz L i : Rat) = s at a ⊢
  generalize (siz L j : Rat) = p at b ⊢
  have e1 := Rat.div_mul_cancel (a := s * p) (b := s + p) (by grind)
  generalize s * p / (s + p) = w at e1 ⊢
  generalize tmp L j = u
  generalize tmp L i = v
  have e2 := Rat.div_mul_cancel (a := (u + -v) * part * w) (b := s) (by grind)
  have e3 := Rat.div_mul_cancel (a := (u + -v) * part * w) (b := p) (by grind)
  generalize (u + -v) * part * w / s = x at e2 ⊢
  generalize (u + -v) * part * w / p = y at e3 ⊢
  constructor
  · refine mul_cancel_eq a ?_
    grind
  · refine mul_cancel_eq b ?_
    grind
theorem share_mid {u v part s p x : Rat} (hs : 0 < s) (hp : 0 < p) (h0 : 0 ≤ part) (h1 : part ≤ 1) (hle : v ≤ u) (e : x * (s + p) = (u - v) * (part * p)) : v ≤ v + x ∧ v + x ≤ u := by
  have c : 0 < s + p := by grind
  have g : 0 ≤ u - v := by grind
  have k0 : 0 ≤ (u - v) * (part * p) := Rat.mul_nonneg g (Rat.mul_nonneg h0 (Rat.le_of_lt hp))
  have k1 : part * p ≤ s + p := by
    have := Rat.mul_le_mul_of_nonneg_right h1 (Rat.le_of_lt hp)
    grind
  have k2 := Rat.mul_le_mul_of_nonneg_left k1 g
  have a : 0 ≤ x := le_scale c (by grind)
  have b : x ≤ u - v := le_scale c (by grind)
  grind
theorem partly_les {n : Nat} {L : List Bl} {i j : Nat} {part : Rat} (O : OkSt n L) (hi : i < L.length) (hj : j < L.length) (hij : i ≠ j) (h0 : 0 ≤ part) (h1 : part ≤ 1) : Les L (partlyS L i j part) := by
  have h : Mov L (partlyS L i j part) i j := shift_mov O hi hj hij
  obtain ⟨g1, g2⟩ := gap_share (part := part) O hi hj
  have a := cast_pos (siz_pos O hi)
  have b := cast_pos (siz_pos O hj)
  have t1 : tmp (partlyS L i j part) i = tmp L i + gapQ L i j part / (siz L i : Rat) := by unfold partlyS; rw [shift_tmp hi hj hij, if_neg hij, if_pos rfl]
  have t2 : tmp (partlyS L i j part) j = tmp L j + -(gapQ L i j part / (siz L j : Rat)) := by unfold partlyS; rw [shift_tmp hi hj hij, if_pos rfl]
  refine ⟨h.tot hi hj hij, h.heatF hi hj hij, ?_⟩
  generalize gapQ L i j part / (siz L i : Rat) = x at g1 t1
  generalize gapQ L i j part / (siz L j : Rat) = y at g2 t2
  rcases (show tmp L i ≤ tmp L j ∨ tmp L j ≤ tmp L i from Rat.le_total) with q | q
  · have m1 := share_mid a b h0 h1 q g1
    have m2 := share_mid (u := -tmp L i) (v := -tmp L j) (x := y) b a h0 h1 (by grind) (by grind)
    exact h.phi O hi hj hij q (by rw [t1]; exact m1) (by rw [t2]; grind)
  · have m1 := share_mid (u := -tmp L j) (v := -tmp L i) (x := -x) a b h0 h1 (by grind) (by grind)
    have m2 := share_mid (u := tmp L i) (v := tmp L j) (x := -y) b a h0 h1 q (by grind)
    exact h.symm.phi O hj hi (Ne.symm hij) q (by rw [t2]; exact m2) (by rw [t1]; grind)
/-- a drawn part: from 0 to 1 -/
def partC (c : Int) (p : Pl) : Rat := Rat.divInt (pick (left p c) (1 + pick p c + 1)) (1 + pick p c)
theorem partC_ok {c : Int} (hc : 0 < c) (hc2 : c ≤ 14) (p : Pl) : Gr (partC c p).den 4 (partC c p) ∧ (partC c p).den < 2 ^ 4 ∧ 0 ≤ partC c p ∧ partC c p ≤ 1 := by
  have a0 := pick_nn (p := p) hc
  have a1 := pick_lt (p := p) hc
  have b0 := pick_nn (p := left p c) (w := 1 + pick p c + 1) (by omega)
  have b1 := pick_lt (p := left p c) (w := 1 + pick p c + 1) (by omega)
  unfold partC
  generalize pick (left p c) (1 + pick p c + 1) = u at b0 b1
  generalize pick p c = v at a0 a1 b1 ⊢
  have h : Rb 4 (Rat.divInt u (1 + v)) := by
    refine Rb.di ?_ ?_ (by omega) <;> (unfold Bt; omega)
  refine ⟨Gr.of_rb h, by have := h.2; unfold Bt at this; simpa using this, ?_, ?_⟩
  · exact (Rat.divInt_nonneg_iff_of_pos_right (by omega)).mpr b0
  · have hv : (0 : Rat) < ((1 + v : Int) : Rat) := by exact_mod_cast (show (0 : Int) < 1 + v by omega)
    refine le_scale hv ?_
    rw [Rat.divInt_eq_div, Rat.div_mul_cancel (by grind), Rat.one_mul]
    exact_mod_cast (show u ≤ 1 + v by omega)
end AL
/-! k34: states made by bringing pairs together. -/
namespace AL
open PySem PySem.Spec L2
/-- one turn: two drawn blocks, brought together by a drawn part -/
def secPT (c : Int) (x : List Bl × Pl) : List Bl × Pl :=
  if pick x.2 x.1.length = (pick x.2 x.1.length + 1 + pick (left x.2 x.1.length) (maxOne (x.1.length - 1))) % x.1.length then (x.1, left (left (left x.2 x.1.length) (maxOne (x.1.length - 1))) c)
  else (partlyS x.1 (pick x.2 x.1.length).toNat ((pick x.2 x.1.length + 1 + pick (left x.2 x.1.length) (maxOne (x.1.length - 1))) % x.1.length).toNat (partC c (left (left x.2 x.1.length) (maxOne (x.1.length - 1)))),
    left (left (left (left x.2 x.1.length) (maxOne (x.1.length - 1))) c) (1 + pick (left (left x.2 x.1.length) (maxOne (x.1.length - 1))) c + 1))
def secPN (c : Int) : Nat → List Bl × Pl → List Bl × Pl
  | 0, x => x
  | k + 1, x => secPT c (secPN c k x)
theorem partlyS_len (L : List Bl) (i j : Nat) (q : Rat) : (partlyS L i j q).length = L.length := shiftS_len _ _ _ _
theorem szL_shift {L : List Bl} {i j : Nat} {q : Rat} (hi : i < L.length) (hj : j < L.length) : (shiftS L i j q).map (·.1) = L.map (·.1) := by
  refine List.ext_getElem (by rw [List.length_map, List.length_map, shiftS_len]) fun k h1 h2 => ?_
  rw [List.getElem_map, List.getElem_map]
  have e : siz (shiftS L i j q) k = siz L k := by
    unfold shiftS
    rw [putT_siz (by rw [putT_len]; exact hj), putT_siz hi]
  have a1 : k < (shiftS L i j q).length := by simpa using h1
  have a2 : k < L.length := by simpa using h2
  unfold siz at e
  rw [getD_eq a1, getD_eq a2] at e
  exact e
theorem secPT_ok {c : Int} (hc : 0 < c) (hc2 : c ≤ 14) {n : Nat} {x : List Bl × Pl} (O : OkSt n x.1) (h : x.2.Ok) : OkSt (n + 26) (secPT c x).1 ∧ (secPT c x).2.Ok ∧ (secPT c x).1.length = x.1.length ∧ (secPT c x).1.map (·.1) = x.1.map (·.1) ∧ Les x.1 (secPT c x).1 := by
  have h1 := O.one
  have hn : (0 : Int) < x.1.length := by omega
  have a0 := pick_nn (p := x.2) hn
  have a1 := pick_lt (p := x.2) hn
  have b0 := Int.emod_nonneg (pick x.2 x.1.length + 1 + pick (left x.2 x.1.length) (maxOne (x.1.length - 1))) (show (x.1.length : Int) ≠ 0 by omega)
  have b1 := Int.emod_lt_of_pos (pick x.2 x.1.length + 1 + pick (left x.2 x.1.length) (maxOne (x.1.length - 1))) hn
  have O1 := left_ok (left_ok h hn) (maxOne_pos ((x.1.length : Int) - 1))
  unfold secPT
  split
  · exact ⟨O.mono (by omega), left_ok O1 hc, rfl, rfl, Les.refl _⟩
  · rename_i hne
    obtain ⟨q1, q2, q3, q4⟩ := partC_ok hc hc2 (left (left x.2 x.1.length) (maxOne (x.1.length - 1)))
    have e0 := pick_nn (p := left (left x.2 x.1.length) (maxOne (x.1.length - 1))) hc
    exact ⟨partlyS_ok4 O (by omega) (by omega) q1 q2, left_ok (left_ok O1 hc) (by omega), partlyS_len _ _ _ _, szL_shift (by omega) (by omega), partly_les O (by omega) (by omega) (by omega) q3 q4⟩
theorem secPN_ok {c : Int} (hc : 0 < c) (hc2 : c ≤ 14) {n : Nat} {x : List Bl × Pl} (O : OkSt n x.1) (h : x.2.Ok) : ∀ k, OkSt (n + 26 * k) (secPN c k x).1 ∧ (secPN c k x).2.Ok ∧ (secPN c k x).1.length = x.1.length ∧ (secPN c k x).1.map (·.1) = x.1.map (·.1) ∧ Les x.1 (secPN c k x).1
  | 0 => ⟨O, h, rfl, rfl, Les.refl _⟩
  | k + 1 => by
    obtain ⟨a, b, d, e, f⟩ := secPN_ok hc hc2 O h k
    obtain ⟨a', b', d', e', f'⟩ := secPT_ok hc hc2 a b
    exact ⟨by rw [show n + 26 * (k + 1) = n + 26 * k + 26 by omega]; exact a', b', d'.trans d, e'.trans e, f.trans f'⟩
def s34 (p : Pl) (L : List Bl) : List Bl × Pl := secPN 11 (pick (left p 3) 5).toNat (L, left (left p 3) 5)
def sec34 (p : Pl) (L : List Bl) : List Bl := if pick p 3 = 0 ∧ 1 < L.length then tchS (s34 p L).1 0 (L.length - 1) else (s34 p L).1
theorem szL_tch {L : List Bl} {i j : Nat} : (tchS L i j).map (·.1) = L.map (·.1) := szD_iff.mp (szD_tch ..)
theorem s34_ok {n : Nat} {p : Pl} {L : List Bl} (O : OkSt n L) (h : p.Ok) : OkSt (n + 104) (s34 p L).1 ∧ (s34 p L).2.Ok ∧ (s34 p L).1.length = L.length ∧ (s34 p L).1.map (·.1) = L.map (·.1) ∧ Les L (s34 p L).1 := by
  have v0 := pick_nn (p := left p 3) (w := 5) (by decide)
  have v1 := pick_lt (p := left p 3) (w := 5) (by decide)
  obtain ⟨a, b, c, d, e⟩ := secPN_ok (c := 11) (by decide) (by decide) (x := (L, left (left p 3) 5)) O (left_ok (left_ok h (by decide)) (by decide)) (pick (left p 3) 5).toNat
  exact ⟨a.mono (by omega), b, c, d, e⟩
theorem sec34_ok {n : Nat} {p : Pl} {L : List Bl} (O : OkSt n L) (h : p.Ok) : OkSt (n + 112) (sec34 p L) ∧ (sec34 p L).length = L.length ∧ (sec34 p L).map (·.1) = L.map (·.1) ∧ Les L (sec34 p L) := by
  obtain ⟨a, b, c, d, e⟩ := s34_ok O h
  unfold sec34
  split
  · rename_i hq
    have i1 : 0 < (s34 p L).1.length := by omega
    have i2 : L.length - 1 < (s34 p L).1.length := by omega
    exact ⟨tchS_ok a i1 i2, by rw [tchS_len]; exact c, szL_tch.trans d, e.trans (tch_les a i1 i2 (by omega))⟩
  · exact ⟨a.mono (by omega), c, d, e⟩
/-! ### the reason then -/
theorem reaD_les {n m : Nat} {L M : List Bl} (O : OkSt n L) (O2 : OkSt m M) (hs : M.map (·.1) = L.map (·.1)) (h : Les L M) : reaD L M = if M ≠ L ∧ (M.map (·.2)).Nodup then .tuple [.str "last"] else frgD L M := by
  unfold reaD
  rw [if_neg (fun z => z hs.symm), if_neg (fun z => z h.2.1.symm), Les.fexc O O2 h]
theorem frgD_form (L M : List Bl) : frgD L M = .none ∨ ∃ k v, frgD L M = .tuple [.str "part", .int k, .int v] := by
  unfold frgD
  split
  · exact .inl rfl
  · split
    · exact .inl rfl
    · exact .inr ⟨_, _, rfl⟩
/-- the temperatures that stand more than once -/
def twc (qs : List Rat) : List Rat := qs.filter fun q => decide (1 < qs.count q)
theorem frsD_plain (qs : List Rat) : Plain 2 (.list (qs.map fr)) := plain_list (k := 1) fun d hd => by
  obtain ⟨q, _, rfl⟩ := List.mem_map.mp hd
  exact fr_plain q
theorem twc_range (qs : List Rat) : ((List.range qs.length).filterMap fun k => (qs[k]?).bind fun q => if 1 < qs.count q then some (fr q) else none) = (twc qs).map fr := by
  unfold twc
  generalize hf : (fun q : Rat => if 1 < qs.count q then some (fr q) else none) = f
  have key : ∀ l : List Rat, ((List.range l.length).filterMap fun k => (l[k]?).bind f) = l.filterMap f := by
    intro l
    have e : l.filterMap f = ((List.range l.length).map fun k => l[k]?).filterMap (fun o => o.bind f) := by
      have : ((List.range l.length).map fun k => l[k]?) = l.map some := by
        refine List.ext_getElem (by simp) fun k h1 h2 => ?_
        simp only [List.getElem_map, List.getElem_range]
        exact List.getElem?_eq_getElem (by simpa using h2)
      rw [this, List.filterMap_map]
      rfl
    rw [e, List.filterMap_map]
    rfl
  rw [key, ← hf]
  have g : ∀ l : List Rat, l.filterMap (fun q => if 1 < qs.count q then some (fr q) else none) = (l.filter fun q => decide (1 < qs.count q)).map fr := by
    intro l
    induction l with
    | nil => rfl
    | cons a l ih =>
      by_cases h : 1 < qs.count a
      · rw [List.filterMap_cons, if_pos h, List.filter_cons_of_pos (by simpa using h), List.map_cons, ih]
      · rw [List.filterMap_cons, if_neg h, List.filter_cons_of_neg (by simpa using h), ih]
  exact g qs
theorem twc_nil (qs : List Rat) : twc qs = [] ↔ qs.Nodup := by
  unfold twc
  rw [List.filter_eq_nil_iff, List.nodup_iff_count]
  constructor
  · intro h a
    by_cases ha : a ∈ qs
    · have := h a ha
      simp only [decide_eq_true_eq] at this
      omega
    · rw [List.count_eq_zero_of_not_mem ha]; omega
  · intro h a ha
    have := h a
    simp only [decide_eq_true_eq]
    omega
end AL
/-! The heat of an amount, unit by unit; the first excess is the least amount with more heat. -/
namespace AL
open PySem PySem.Spec L2
/-! ### units of temperature, warmest first -/
def expd (l : List Bl) : List Rat := l.flatMap fun b => List.replicate b.1.toNat b.2
theorem expd_cons (b : Bl) (l : List Bl) : expd (b :: l) = List.replicate b.1.toNat b.2 ++ expd l := rfl
def unsC (u : List Rat) (b : Bl) : Nat := (u.filter fun x => !decide (x < b.2)).length
def unsIns (u : List Rat) (b : Bl) : List Rat := u.take (unsC u b) ++ List.replicate b.1.toNat b.2 ++ u.drop (unsC u b)
def unsL (L : List Bl) : List Rat := L.foldl unsIns []
def DesR (u : List Rat) : Prop := u.Pairwise fun a b => b ≤ a
theorem uns_split {u : List Rat} {b : Bl} (h : DesR u) : u.take (unsC u b) = u.filter (fun x => !decide (x < b.2)) ∧ u.drop (unsC u b) = u.filter (fun x => !(!decide (x < b.2))) := by
  unfold unsC
  refine filter_take (α := Rat) (R := fun a c => c ≤ a) (p := fun x => !decide (x < b.2)) (fun x y hxy hy => ?_) h
  simp only [Bool.not_eq_true', decide_eq_false_iff_not] at hy ⊢
  grind
theorem unsIns_perm (u : List Rat) (b : Bl) : (unsIns u b).Perm (List.replicate b.1.toNat b.2 ++ u) := by
  unfold unsIns
  refine (List.Perm.append_right _ List.perm_append_comm).trans ?_
  rw [List.append_assoc, List.take_append_drop]
theorem unsIns_des {u : List Rat} {b : Bl} (h : DesR u) : DesR (unsIns u b) := by
  unfold unsIns DesR
  obtain ⟨e1, e2⟩ := uns_split (b := b) h
  rw [e1, e2, List.append_assoc, List.pairwise_append, List.pairwise_append]
  refine ⟨h.filter _, ⟨?_, h.filter _, fun x hx c hc => ?_⟩, fun x hx c hc => ?_⟩
  · rw [List.pairwise_replicate]; exact .inr Rat.le_refl
  · have := List.eq_of_mem_replicate hx
    subst this
    have := (List.mem_filter.mp hc).2
    simp at this
    grind
  · have h1 := (List.mem_filter.mp hx).2
    simp at h1
    rcases List.mem_append.mp hc with hc | hc
    · have := List.eq_of_mem_replicate hc
      subst this
      grind
    · have h2 := (List.mem_filter.mp hc).2
      simp at h2
      grind
theorem unsF {L : List Bl} : ∀ {acc : List Rat}, DesR acc → DesR (L.foldl unsIns acc) ∧ (L.foldl unsIns acc).Perm (expd L ++ acc) := by
  induction L with
  | nil => intro acc h; exact ⟨h, List.Perm.refl _⟩
  | cons b L ih =>
    intro acc h
    obtain ⟨h1, h2⟩ := ih (unsIns_des (b := b) h)
    refine ⟨h1, h2.trans ?_⟩
    rw [expd_cons]
    refine (List.Perm.append_left (expd L) (unsIns_perm acc b)).trans ?_
    rw [← List.append_assoc]
    exact List.Perm.append_right _ List.perm_append_comm
theorem expd_des {l : List Bl} (h : Des l) : DesR (expd l) := by
  induction l with
  | nil => exact List.Pairwise.nil
  | cons b l ih =>
    obtain ⟨h1, h2⟩ := List.pairwise_cons.mp h
    rw [expd_cons]
    unfold DesR
    rw [List.pairwise_append]
    refine ⟨List.pairwise_replicate.mpr (.inr Rat.le_refl), ih h2, fun x hx c hc => ?_⟩
    have := List.eq_of_mem_replicate hx
    subst this
    obtain ⟨d, hd, hc⟩ := List.mem_flatMap.mp hc
    have := List.eq_of_mem_replicate hc
    subst this
    exact h1 d hd
theorem unsL_eq (L : List Bl) : unsL L = expd (dscL L) := by
  obtain ⟨h1, h2⟩ := unsF (L := L) (acc := []) List.Pairwise.nil
  rw [List.append_nil] at h2
  refine List.Perm.eq_of_pairwise (le := fun a b : Rat => b ≤ a) (fun a b _ _ p q => Rat.le_antisymm q p) h1 (expd_des (dscL_des L)) (h2.trans ?_)
  exact (List.Perm.flatMap_right _ (dscL_perm L)).symm
theorem uns_take {L : List Bl} {i : Nat} {b : Bl} (h : L[i]? = some b) : unsL (L.take (i + 1)) = unsIns (unsL (L.take i)) b := by
  unfold unsL
  rw [List.take_add_one, h]
  simp [List.foldl_append]
theorem expd_len {l : List Bl} (z : Pos l) : ((expd l).length : Int) = tot l := by
  induction l with
  | nil => rfl
  | cons b l ih =>
    have zb := z b (by simp)
    have := ih fun p hp => z p (by simp [hp])
    rw [expd_cons, List.length_append, List.length_replicate, tot_cons]; omega
theorem unsL_len {L : List Bl} (z : Pos L) : ((unsL L).length : Int) = tot L := by
  rw [unsL_eq, expd_len fun p hp => z p ((dscL_perm L).subset hp), tot_perm (dscL_perm L)]
/-! ### their sums -/
theorem fold_add (l : List Rat) (a : Rat) : l.foldl (· + ·) a = a + l.foldl (· + ·) 0 := by
  induction l generalizing a with
  | nil => show a = a + 0; grind
  | cons b l ih =>
    show l.foldl (· + ·) (a + b) = a + l.foldl (· + ·) (0 + b)
    rw [ih (a + b), ih (0 + b)]; grind
theorem sum_rep (n : Nat) (q : Rat) : (List.replicate n q).foldl (· + ·) 0 = ((n : Int) : Rat) * q := by
  induction n with
  | zero => show (0 : Rat) = ((0 : Int) : Rat) * q; have : ((0 : Int) : Rat) = 0 := rfl; grind
  | succ n ih =>
    rw [List.replicate_succ]
    show (List.replicate n q).foldl (· + ·) (0 + q) = _
    rw [fold_add, ih]
    have : (((n + 1 : Nat) : Int) : Rat) = ((n : Int) : Rat) + 1 := by
      rw [show ((n + 1 : Nat) : Int) = (n : Int) + 1 by omega, Rat.intCast_add]; rfl
    rw [this]; grind
theorem hr_sum : ∀ {l : List Bl} {x : Int}, Pos l → 0 ≤ x → x ≤ tot l → hr l x = sumTo (expd l) x.toNat
  | [], x, _, h0, h1 => by
    have h2 : x ≤ 0 := h1
    have : x = 0 := by omega
    subst this; rfl
  | b :: l, x, z, h0, h1 => by
    have zb := z b (by simp)
    have zl : Pos l := fun p hp => z p (by simp [hp])
    rw [tot_cons] at h1
    have tl := tot_nn zl
    show ((prt b.1 x : Int) : Rat) * b.2 + hr l (x - prt b.1 x) = _
    rw [expd_cons]
    unfold sumTo
    rw [List.take_append, List.foldl_append, fold_add, List.length_replicate, List.take_replicate]
    have e1 : prt b.1 x = ((min x.toNat b.1.toNat : Nat) : Int) := by unfold prt; split <;> omega
    rw [sum_rep, ← e1]
    have ih := hr_sum (l := l) (x := x - prt b.1 x) zl (by unfold prt; split <;> omega) (by unfold prt; split <;> omega)
    rw [ih]
    have e2 : (x - prt b.1 x).toNat = x.toNat - b.1.toNat := by unfold prt; split <;> omega
    unfold sumTo
    rw [e2]
theorem hoa_sum {L : List Bl} {k : Nat} (z : Pos L) (h : (k : Int) ≤ tot L) : hoa (dscL L) (k : Int) = sumTo (unsL L) k := by
  rw [hoa_hr, unsL_eq, hr_sum (fun p hp => z p ((dscL_perm L).subset hp)) (by omega) (by rw [tot_perm (dscL_perm L)]; exact h), Int.toNat_natCast]
/-! ### constant between the points where the slope changes -/
theorem expd_same : ∀ {l : List Bl} {a : Int} {k : Nat}, Pos l → (k : Int) + 1 < tot l → a + (k + 1) ∉ bpF l a → (expd l)[k]? = (expd l)[k + 1]?
  | [], a, k, _, h, _ => by
    have : (k : Int) + 1 < 0 := h
    omega
  | b :: l, a, k, z, h, hn => by
    have zb := z b (by simp)
    have zl : Pos l := fun p hp => z p (by simp [hp])
    rw [tot_cons] at h
    have hn' : ¬ (a + (k + 1) = a + b.1 ∨ a + (k + 1) ∈ bpF l (a + b.1)) := fun q => hn (List.mem_cons.mpr q)
    rw [expd_cons]
    by_cases h1 : (k : Int) + 1 < b.1
    · rw [List.getElem?_append_left (by rw [List.length_replicate]; omega), List.getElem?_append_left (by rw [List.length_replicate]; omega), List.getElem?_replicate, List.getElem?_replicate, if_pos (by omega), if_pos (by omega)]
    · have h2 : ¬ (k : Int) + 1 = b.1 := fun q => hn' (.inl (by omega))
      rw [List.getElem?_append_right (by rw [List.length_replicate]; omega), List.getElem?_append_right (by rw [List.length_replicate]; omega), List.length_replicate]
      have ih := expd_same (l := l) (a := a + b.1) (k := k - b.1.toNat) zl (by omega) (fun q => hn' (.inr (by
        have : a + b.1 + (((k - b.1.toNat : Nat) : Int) + 1) = a + (k + 1) := by omega
        rw [this] at q; exact q)))
      rw [ih, show k - b.1.toNat + 1 = k + 1 - b.1.toNat by omega]
theorem uns_same {L : List Bl} {k : Nat} (z : Pos L) (h : (k : Int) + 1 < tot L) (hn : (k : Int) + 1 ∉ bps L) : (unsL L).getD k 0 = (unsL L).getD (k + 1) 0 := by
  rw [unsL_eq, List.getD_eq_getElem?_getD, List.getD_eq_getElem?_getD]
  rw [expd_same (a := 0) (fun p hp => z p ((dscL_perm L).subset hp)) (by rw [tot_perm (dscL_perm L)]; exact h) (by rw [Int.zero_add]; exact hn)]
section
variable {L M : List Bl}
def slp (L M : List Bl) (k : Nat) : Rat := (unsL M).getD k 0 - (unsL L).getD k 0
theorem sumTo_step {l : List Rat} {k : Nat} (h : k < l.length) : sumTo l (k + 1) = sumTo l k + l.getD k 0 := by
  rw [sumTo_succ (List.getElem?_eq_getElem h), List.getD_eq_getElem?_getD, List.getElem?_eq_getElem h]; rfl
theorem exc_sum (zl : Pos L) (zm : Pos M) (ht : tot M = tot L) {k : Nat} (h : (k : Int) ≤ tot L) : exc L M (k : Int) = sumTo (unsL M) k - sumTo (unsL L) k := by
  unfold exc; rw [hoa_sum zl h, hoa_sum zm (by omega)]
theorem exc_step (zl : Pos L) (zm : Pos M) (ht : tot M = tot L) {k : Nat} (h : (k : Int) + 1 ≤ tot L) : exc L M ((k : Int) + 1) = exc L M (k : Int) + slp L M k := by
  have a := unsL_len zl
  have b := unsL_len zm
  have e := exc_sum zl zm ht (k := k + 1) (by omega)
  rw [show ((k + 1 : Nat) : Int) = (k : Int) + 1 by omega] at e
  rw [e, exc_sum zl zm ht (by omega), sumTo_step (by omega), sumTo_step (by omega)]
  unfold slp; grind
theorem slp_same (zl : Pos L) (zm : Pos M) (ht : tot M = tot L) {k : Nat} (h : (k : Int) + 1 < tot L) (hn : (k : Int) + 1 ∉ bps L ++ bps M) : slp L M (k + 1) = slp L M k := by
  rw [List.mem_append, not_or] at hn
  unfold slp
  rw [uns_same zl h hn.1, uns_same zm (by omega) hn.2]
/-- from a on, in a straight line, as far as no end comes -/
theorem exc_line (zl : Pos L) (zm : Pos M) (ht : tot M = tot L) {a e : Int} (ha : 0 ≤ a) (he : e ≤ tot L) (hn : ∀ x, a < x → x < e → x ∉ bps L ++ bps M) : ∀ n : Nat, a + n ≤ e → exc L M (a + n) = exc L M a + ((n : Int) : Rat) * slp L M a.toNat ∧ (a + n < e → slp L M (a.toNat + n) = slp L M a.toNat)
  | 0, h => by
    refine ⟨?_, fun _ => rfl⟩
    rw [show a + ((0 : Nat) : Int) = a by omega]
    have : (((0 : Nat) : Int) : Rat) = 0 := rfl
    rw [this]; grind
  | n + 1, h => by
    obtain ⟨h1, h2⟩ := exc_line zl zm ht ha he hn n (by omega)
    have h3 := h2 (by omega)
    have e1 := exc_step zl zm ht (k := a.toNat + n) (by omega)
    rw [show ((a.toNat + n : Nat) : Int) + 1 = a + ((n + 1 : Nat) : Int) by omega, show ((a.toNat + n : Nat) : Int) = a + n by omega, h1, h3] at e1
    have c : (((n + 1 : Nat) : Int) : Rat) = ((n : Int) : Rat) + 1 := by
      rw [show ((n + 1 : Nat) : Int) = (n : Int) + 1 by omega, Rat.intCast_add]; rfl
    refine ⟨by rw [e1, c]; grind, fun h4 => ?_⟩
    rw [show a.toNat + (n + 1) = a.toNat + n + 1 by omega, slp_same zl zm ht (by omega) (by
      rw [show ((a.toNat + n : Nat) : Int) + 1 = a + ((n + 1 : Nat) : Int) by omega]
      exact hn _ (by omega) h4), h3]
theorem exc_at (zl : Pos L) (zm : Pos M) (ht : tot M = tot L) {a e x : Int} (ha : 0 ≤ a) (he : e ≤ tot L) (hn : ∀ x, a < x → x < e → x ∉ bps L ++ bps M) (h1 : a ≤ x) (h2 : x ≤ e) : exc L M x = exc L M a + ((x - a : Int) : Rat) * slp L M a.toNat := by
  have := (exc_line zl zm ht ha he hn (x - a).toNat (by omega)).1
  rw [show a + (((x - a).toNat : Nat) : Int) = x by omega, show (((x - a).toNat : Nat) : Int) = x - a by omega] at this
  exact this
theorem num_pos_iff (q : Rat) : 0 < q.num ↔ 0 < q := by
  constructor
  · intro h
    refine fr_lt.mp ?_
    show 0 * (q.den : Int) < q.num * 1
    omega
  · intro h
    have := fr_lt.mpr h
    have e1 : (0 : Rat).num = 0 := rfl
    have e2 : ((0 : Rat).den : Int) = 1 := rfl
    rw [e1, e2] at this
    omega
/-- the first place above zero on a line that starts at or below it -/
theorem fexV_least (zl : Pos L) (zm : Pos M) (ht : tot M = tot L) {a e : Int} (ha : 0 ≤ a) (hae : a < e) (he : e ≤ tot L) (hn : ∀ x, a < x → x < e → x ∉ bps L ++ bps M) (h0 : exc L M a ≤ 0) (h1 : 0 < exc L M e) :
    a < fexV L M e a (exc L M a) ∧ fexV L M e a (exc L M a) ≤ e ∧ 0 < exc L M (fexV L M e a (exc L M a)) ∧ ∀ y, a ≤ y → y < fexV L M e a (exc L M a) → exc L M y ≤ 0 := by
  have line := fun {x : Int} (p : a ≤ x) (q : x ≤ e) => exc_at (x := x) zl zm ht ha he hn p q
  have le := line (x := e) (by omega) (Int.le_refl _)
  have hd : (0 : Rat) < ((e - a : Int) : Rat) := Rat.intCast_pos.mpr (by omega)
  have hstep : (exc L M e - exc L M a) * Rat.divInt 1 (e - a) = slp L M a.toNat := by
    rw [Rat.divInt_eq_div]
    have c := Rat.div_mul_cancel (a := ((1 : Int) : Rat)) (b := ((e - a : Int) : Rat)) (by grind)
    have o : ((1 : Int) : Rat) = 1 := rfl
    rw [o] at c ⊢
    generalize (1 : Rat) / ((e - a : Int) : Rat) = w at c ⊢
    rw [le]
    grind
  have hs0 : 0 < slp L M a.toNat := by
    rw [le] at h1
    refine Classical.byContradiction fun z => ?_
    have : slp L M a.toNat ≤ 0 := by grind
    have := Rat.mul_le_mul_of_nonneg_left this (Rat.le_of_lt hd)
    grind
  unfold fexV
  rw [hstep]
  generalize hS : slp L M a.toNat = S at hs0 line le
  generalize exc L M a = A at h0 line le ⊢
  obtain ⟨n, hnn⟩ : ∃ n, n = (0 - A.num) * (S.den : Int) / ((A.den : Int) * S.num) := ⟨_, rfl⟩
  rw [← hnn]
  have sn : 0 < S.num := (num_pos_iff S).mpr hs0
  have ad := den_pos A
  have sd := den_pos S
  have c0 : 0 < (A.den : Int) * S.num := Int.mul_pos ad sn
  have an : A.num ≤ 0 := by
    refine Classical.byContradiction fun z => ?_
    have := (num_pos_iff A).mp (by omega)
    grind
  have n0 : 0 ≤ n := by
    rw [hnn]
    exact Int.ediv_nonneg (Int.mul_nonneg (by omega) (by omega)) (by omega)
  -- n * S ≤ -A < (n + 1) * S
  have eA : A * ((A.den : Int) : Rat) = (A.num : Rat) := by
    exact mul_den A
  have eS : S * ((S.den : Int) : Rat) = (S.num : Rat) := by
    exact mul_den S
  have dA : (0 : Rat) < ((A.den : Int) : Rat) := Rat.intCast_pos.mpr ad
  have dS : (0 : Rat) < ((S.den : Int) : Rat) := Rat.intCast_pos.mpr sd
  have i1 : n * ((A.den : Int) * S.num) ≤ (0 - A.num) * (S.den : Int) := (Int.le_ediv_iff_mul_le c0).mp (by omega)
  have i2 : (0 - A.num) * (S.den : Int) < (n + 1) * ((A.den : Int) * S.num) := (Int.ediv_lt_iff_lt_mul c0).mp (by omega)
  have j1 : (n : Rat) * (((A.den : Int) : Rat) * (S.num : Rat)) ≤ (0 - (A.num : Rat)) * ((S.den : Int) : Rat) := by
    have := Rat.intCast_le_intCast.mpr i1
    rw [Rat.intCast_mul, Rat.intCast_mul, Rat.intCast_mul, Rat.intCast_sub] at this
    exact this
  have j2 : (0 - (A.num : Rat)) * ((S.den : Int) : Rat) < ((n : Rat) + 1) * (((A.den : Int) : Rat) * (S.num : Rat)) := by
    have := Rat.intCast_lt_intCast.mpr i2
    rw [Rat.intCast_mul, Rat.intCast_mul, Rat.intCast_mul, Rat.intCast_sub, Rat.intCast_add] at this
    exact this
  rw [← eA, ← eS] at j1 j2
  generalize ((A.den : Int) : Rat) = u at dA j1 j2
  generalize ((S.den : Int) : Rat) = v at dS j1 j2
  have uv : 0 < u * v := Rat.mul_pos dA dS
  have k1 : (n : Rat) * S ≤ -A := le_scale uv (by grind)
  have k2 : -A < ((n : Rat) + 1) * S := by
    refine Classical.byContradiction fun z => ?_
    have z' : ((n : Rat) + 1) * S ≤ -A := by grind
    have := Rat.mul_le_mul_of_nonneg_right z' (Rat.le_of_lt uv)
    grind
  have hne : n + 1 ≤ e - a := by
    refine Classical.byContradiction fun z => ?_
    have z' : e - a ≤ n := by omega
    have := Rat.mul_le_mul_of_nonneg_right (Rat.intCast_le_intCast.mpr z') (Rat.le_of_lt hs0)
    grind
  refine ⟨by omega, by omega, ?_, fun y y0 y1 => ?_⟩
  · rw [line (by omega) (by omega), show a + n + 1 - a = n + 1 by omega, Rat.intCast_add]
    have o : ((1 : Int) : Rat) = 1 := rfl
    rw [o]; grind
  · rw [line (by omega) (by omega)]
    have z' : y - a ≤ n := by omega
    have := Rat.mul_le_mul_of_nonneg_right (Rat.intCast_le_intCast.mpr z') (Rat.le_of_lt hs0)
    grind
/-- between two ends that are not above zero nothing is -/
theorem exc_below (zl : Pos L) (zm : Pos M) (ht : tot M = tot L) {a e : Int} (ha : 0 ≤ a) (hae : a < e) (he : e ≤ tot L) (hn : ∀ x, a < x → x < e → x ∉ bps L ++ bps M) (h0 : exc L M a ≤ 0) (h1 : exc L M e ≤ 0) {y : Int} (y0 : a ≤ y) (y1 : y ≤ e) : exc L M y ≤ 0 := by
  have l1 := exc_at (x := y) zl zm ht ha he hn y0 y1
  have l2 := exc_at (x := e) zl zm ht ha he hn (by omega) (Int.le_refl _)
  rw [l2] at h1
  rw [l1]
  generalize slp L M a.toNat = S at h1 ⊢
  have q0 : (0 : Rat) ≤ ((y - a : Int) : Rat) := Rat.intCast_nonneg.mpr (by omega)
  have q1 : ((y - a : Int) : Rat) ≤ ((e - a : Int) : Rat) := Rat.intCast_le_intCast.mpr (by omega)
  by_cases hS : 0 ≤ S
  · have := Rat.mul_le_mul_of_nonneg_right q1 hS
    grind
  · have := Rat.mul_le_mul_of_nonneg_left (show S ≤ 0 by grind) q0
    grind
theorem fexG_spec (zl : Pos L) (zm : Pos M) (ht : tot M = tot L) : ∀ {r : List Int} {a : Int}, 0 ≤ a → (a :: r).Pairwise (· < ·) → (∀ e ∈ r, e ≤ tot L) → (∀ x, a < x → x ∈ bps L ++ bps M → x ∈ r) → exc L M a ≤ 0 → (∀ y, 0 ≤ y → y ≤ a → exc L M y ≤ 0) → (a :: r).getLast? = some (tot L) →
    match fexG L M r a (exc L M a) with
    | some x => 0 < x ∧ x ≤ tot L ∧ 0 < exc L M x ∧ ∀ y, 0 ≤ y → y < x → exc L M y ≤ 0
    | none => ∀ y, 0 ≤ y → y ≤ tot L → exc L M y ≤ 0
  | [], a, ha, _, _, _, _, h, hl => by
    show ∀ y, 0 ≤ y → y ≤ tot L → exc L M y ≤ 0
    have : a = tot L := by simpa using hl
    intro y y0 y1
    exact h y y0 (by omega)
  | e :: r, a, ha, hp, hm, hx, h0, h, hl => by
    obtain ⟨p1, p2⟩ := List.pairwise_cons.mp hp
    have hae := p1 e (by simp)
    have hee := hm e (by simp)
    have hn : ∀ x, a < x → x < e → x ∉ bps L ++ bps M := fun x x0 x1 q => by
      rcases List.mem_cons.mp (hx x x0 q) with rfl | q
      · omega
      · have := (List.pairwise_cons.mp p2).1 x q; omega
    have e0 : fexG L M (e :: r) a (exc L M a) = if 0 < (exc L M e).num then some (fexV L M e a (exc L M a)) else fexG L M r e (exc L M e) := rfl
    rw [e0]
    by_cases hq : 0 < (exc L M e).num
    · rw [if_pos hq]
      have hq' := (num_pos_iff _).mp hq
      obtain ⟨f1, f2, f3, f4⟩ := fexV_least zl zm ht ha hae hee hn h0 hq'
      show 0 < fexV L M e a (exc L M a) ∧ _
      refine ⟨by omega, by omega, f3, fun y y0 y1 => ?_⟩
      by_cases hya : y ≤ a
      · exact h y y0 hya
      · exact f4 y (by omega) y1
    · rw [if_neg hq]
      have h1 : exc L M e ≤ 0 := by
        refine Classical.byContradiction fun z => hq ((num_pos_iff _).mpr (by grind))
      refine fexG_spec zl zm ht (by omega) p2 (fun x hx2 => hm x (by simp [hx2])) (fun x x0 q => ?_) h1 (fun y y0 y1 => ?_) (by rw [List.getLast?_cons_cons] at hl; exact hl)
      · rcases List.mem_cons.mp (hx x (by omega) q) with rfl | q
        · omega
        · exact q
      · by_cases hya : y ≤ a
        · exact h y y0 hya
        · exact exc_below zl zm ht ha hae hee hn h0 h1 (by omega) y1
end
end AL
/-! xs * n, lists; len(str(n)). -/
namespace AL
open PySem PySem.Spec L2
theorem DdA.rep {K : PySem.W.Frag} {Z : Hp} {xs : List V} {ds : List PyData} (h : DdA K Z xs ds) : ∀ k : Nat, DdA K Z (List.replicate k xs).flatten (List.replicate k ds).flatten
  | 0 => DdA.nil
  | k + 1 => by
    rw [List.replicate_succ, List.replicate_succ, List.flatten_cons, List.flatten_cons]
    exact h.append (DdA.rep h k)
section
variable {X : Cx} {C : Ct} {g : Gm} {a b : Expr} {pos : PySem.Pos} {QL : List PyData → Gm → Prop}
/-- a new list -/
theorem en_rep (h : EE X C a g fun x g1 => EE X C b g1 fun y g2 => ∃ ds k, KL g2 x ds ∧ y = .d (.int k) ∧ 0 ≤ k ∧ k ≤ 1000000 ∧ ds.length * k.toNat ≤ 1000000 ∧ QL (List.replicate k.toNat ds).flatten g2) : EN X C (.BinOp a .Mult b pos) g QL :=
  EN.of (pe_op op_rep pe_t pe_t) fun σ H Z I P p => h σ H Z I _ fun v H1 Z1 x g1 I1 s1 a1 h1 => h1 σ H1 Z1 I1 _ fun w H2 Z2 y g2 I2 s2 a2 q => by
    obtain ⟨ds, k, hx, rfl, k0, k1, hl, q⟩ := q
    have a2' : Dd X.K Z2 w (.int k) := a2
    cases a2'
    have get : ∃ ad xs, v = .ref ad ∧ H2 ad = some (.lst xs) ∧ DdA X.K Z2 xs ds := by
      have az := a1.mono s2
      rcases hx with rfl | ⟨j, w, rfl, hj⟩
      · have az' : Dd X.K Z2 v (.list ds) := az
        cases az' with
        | @lst ad xs _ b1 b2 => exact ⟨ad, xs, rfl, I2.fz _ _ b1, b2⟩
      · obtain ⟨ad, xs, e, o2, o3, o4, o5⟩ := I2.own hj az
        exact ⟨ad, xs, e, o2, o4⟩
    obtain ⟨ad, xs, rfl, b1, b2⟩ := get
    refine ⟨ad, k, xs, rfl, rfl, b1, by omega, by omega, by rw [b2.length]; exact Nat.le_trans hl (by decide), fun l hl => ?_⟩
    obtain ⟨m1, m2, m3⟩ := I2.new hl
    exact p l _ Z2 _ g2 (I2.newO hl) (s1.trans s2) ⟨⟨_, upd_same, b2.rep k.toNat⟩, m1, m2, m3⟩ q
end
/-- what a target leaves -/
theorem eg_cut {X : Cx} {C : Ct} {tg : Expr} {x : Av} {g : Gm} {Q R : Gm → Prop} (h : EG X C tg x g R) (k : ∀ g', R g' → Q g') : EG X C tg x g Q :=
  fun σ H Z v I a P p => h σ H Z v I a P fun g' σ' H' Z' I' s q => p g' σ' H' Z' I' s (k g' q)
theorem rep_one (n : Nat) (d : PyData) : (List.replicate n [d]).flatten = List.replicate n d := by
  induction n with
  | zero => rfl
  | succ n ih => rw [List.replicate_succ, List.flatten_cons, ih]; rfl
end AL
/-! The reason, by sums of units; k33: heat moved. -/
namespace AL
open PySem PySem.Spec L2
theorem last_max {m : Int} : ∀ {l : List Int}, l.Pairwise (· < ·) → m ∈ l → (∀ x ∈ l, x ≤ m) → l.getLast? = some m
  | [], _, h, _ => by cases h
  | [x], _, h, _ => by
    have : m = x := by simpa using h
    subst this; rfl
  | x :: y :: l, hp, h, hm => by
    rw [List.getLast?_cons_cons]
    obtain ⟨h1, h2⟩ := List.pairwise_cons.mp hp
    refine last_max h2 ?_ fun z hz => hm z (by simp [hz])
    rcases List.mem_cons.mp h with rfl | h
    · have := h1 y (by simp)
      have := hm y (by simp)
      omega
    · exact h
theorem bpF_top {l : List Bl} {a : Int} (h : l ≠ []) : a + tot l ∈ bpF l a := by
  have := bpF_last l a
  cases l with
  | nil => exact absurd rfl h
  | cons b l =>
    show a + tot (b :: l) ∈ (a + b.1) :: bpF l (a + b.1)
    have e : (a :: (a + b.1) :: bpF l (a + b.1)).getLast? = some (a + tot (b :: l)) := this
    rw [List.getLast?_cons_cons] at e
    exact List.mem_of_getLast? e
theorem bps_top {n : Nat} {L : List Bl} (O : OkSt n L) : tot L ∈ bps L := by
  have h : dscL L ≠ [] := fun q => by
    have := dscL_len L
    rw [q] at this
    have := O.one
    simp at *; omega
  have := bpF_top (a := 0) h
  rw [Int.zero_add, tot_perm (dscL_perm L)] at this
  exact this
section
variable {n m : Nat} {L M : List Bl}
theorem exc_zero (zl : Pos L) (zm : Pos M) : exc L M 0 = 0 := by
  unfold exc
  rw [hoa_hr, hoa_hr, hr_zero fun p hp => zl p ((dscL_perm L).subset hp), hr_zero fun p hp => zm p ((dscL_perm M).subset hp)]
  grind
theorem fexc_spec (O : OkSt n L) (O2 : OkSt m M) (ht : tot M = tot L) : match fexc L M with
    | some x => 0 < x ∧ x ≤ tot L ∧ 0 < exc L M x ∧ ∀ y, 0 ≤ y → y < x → exc L M y ≤ 0
    | none => ∀ y, 0 ≤ y → y ≤ tot L → exc L M y ≤ 0 := by
  have zl := O.pos
  have zm := O2.pos
  have e0 := exc_zero (L := L) (M := M) zl zm
  have hm := fun e => ends_mem (e := e) zl zm O.tot O2.tot
  have key := fexG_spec zl zm ht (r := ends L M) (a := 0) (Int.le_refl 0) (List.pairwise_cons.mpr ⟨fun e he => (ends_pos zl zm he).1, ends_pw L M⟩)
    (fun e he => by
      rcases List.mem_append.mp ((hm e).mp he) with q | q
      · exact (bps_mem zl q).2
      · rw [← ht]; exact (bps_mem zm q).2)
    (fun x _ q => (hm x).mpr q) (by rw [e0]; exact Rat.le_refl) (fun y y0 y1 => by
      have : y = 0 := by omega
      rw [this, e0]; exact Rat.le_refl)
    (last_max (List.pairwise_cons.mpr ⟨fun e he => (ends_pos zl zm he).1, ends_pw L M⟩) (List.mem_cons.mpr (.inr ((hm _).mpr (List.mem_append.mpr (.inl (bps_top O)))))) fun x hx => by
      rcases List.mem_cons.mp hx with rfl | hx
      · exact tot_nn zl
      · rcases List.mem_append.mp ((hm x).mp hx) with q | q
        · exact (bps_mem zl q).2
        · rw [← ht]; exact (bps_mem zm q).2)
  rw [e0] at key
  exact key
theorem hr_all : ∀ {l : List Bl}, Pos l → hr l (tot l) = heatS l
  | [], _ => rfl
  | b :: l, z => by
    have zb := z b (by simp)
    have zl : Pos l := fun p hp => z p (by simp [hp])
    have tl := tot_nn zl
    rw [tot_cons, heatS_cons]
    show ((prt b.1 (b.1 + tot l) : Int) : Rat) * b.2 + hr l (b.1 + tot l - prt b.1 (b.1 + tot l)) = _
    have e : prt b.1 (b.1 + tot l) = b.1 := by unfold prt; split <;> omega
    rw [e, show b.1 + tot l - b.1 = tot l by omega, hr_all zl]
theorem sum_all (z : Pos L) : sumTo (unsL L) (unsL L).length = heatF L := by
  have h := unsL_len z
  have e := hoa_sum (k := (unsL L).length) z (by omega)
  rw [← e, h, hoa_hr, heatF_eq, ← tot_perm (dscL_perm L), hr_all fun p hp => z p ((dscL_perm L).subset hp), heatS_perm (dscL_perm L)]
theorem tot_map (L : List Bl) : tot L = (L.map (·.1)).foldr (· + ·) 0 := by
  induction L with
  | nil => rfl
  | cons b l ih => rw [tot_cons, ih]; rfl
theorem tot_sz (hs : M.map (·.1) = L.map (·.1)) : tot M = tot L := by rw [tot_map, tot_map, hs]
theorem uns_len_eq (zl : Pos L) (zm : Pos M) (hs : M.map (·.1) = L.map (·.1)) : (unsL M).length = (unsL L).length := by
  have a := unsL_len zl
  have b := unsL_len zm
  have := tot_sz hs
  omega
theorem reaD_heat (hs : M.map (·.1) = L.map (·.1)) (h : ¬ heatF L = heatF M) : reaD L M = .tuple [.str "heat"] := by
  unfold reaD
  rw [if_neg (fun z => z hs.symm), if_pos h]
/-- nothing in excess among the first i amounts -/
def noEx (L M : List Bl) (i : Nat) : Prop := ∀ k, k < i → ¬ sumTo (unsL L) k < sumTo (unsL M) k
theorem reaD_warm (O : OkSt n L) (O2 : OkSt m M) (hs : M.map (·.1) = L.map (·.1)) (hh : heatF L = heatF M) {i : Nat} (hi : i < (unsL L).length + 1) (hn : noEx L M i) (hp : sumTo (unsL L) i < sumTo (unsL M) i) : reaD L M = .tuple [.str "warmest", .int (i : Nat)] := by
  have ht := tot_sz hs
  have hl := unsL_len O.pos
  have ex := fun {k : Nat} (h : (k : Int) ≤ tot L) => exc_sum O.pos O2.pos ht h
  have sp := fexc_spec O O2 ht
  unfold reaD
  rw [if_neg (fun z => z hs.symm), if_neg (fun z => z hh)]
  cases hf : fexc L M with
  | none =>
    rw [hf] at sp
    have := sp (i : Nat) (by omega) (by omega)
    rw [ex (by omega)] at this
    grind
  | some x =>
    rw [hf] at sp
    obtain ⟨x0, x1, x2, x3⟩ := sp
    have e : x = (i : Nat) := by
      by_cases hlt : x < (i : Nat)
      · exfalso
        have := hn x.toNat (by omega)
        rw [show x = ((x.toNat : Nat) : Int) by omega, ex (by omega)] at x2
        grind
      · by_cases hgt : ((i : Nat) : Int) < x
        · exfalso
          have := x3 (i : Nat) (by omega) hgt
          rw [ex (by omega)] at this
          grind
        · omega
    rw [e]
theorem reaD_rest (O : OkSt n L) (O2 : OkSt m M) (hs : M.map (·.1) = L.map (·.1)) (hh : heatF L = heatF M) (hn : noEx L M ((unsL L).length + 1)) : reaD L M = if M ≠ L ∧ (M.map (·.2)).Nodup then .tuple [.str "last"] else frgD L M := by
  have ht := tot_sz hs
  have hl := unsL_len O.pos
  have ex := fun {k : Nat} (h : (k : Int) ≤ tot L) => exc_sum O.pos O2.pos ht h
  have sp := fexc_spec O O2 ht
  unfold reaD
  rw [if_neg (fun z => z hs.symm), if_neg (fun z => z hh)]
  cases hf : fexc L M with
  | none => rfl
  | some x =>
    rw [hf] at sp
    obtain ⟨x0, x1, x2, x3⟩ := sp
    exfalso
    have := hn x.toNat (by omega)
    rw [show x = ((x.toNat : Nat) : Int) by omega, ex (by omega)] at x2
    grind
end
/-! ### what the law lists -/
def sumsD (u : List Rat) (k : Nat) : List PyData := (List.range k).map fun i => fr (sumTo u i)
theorem sumsD_len (u : List Rat) (k : Nat) : (sumsD u k).length = k := by simp [sumsD]
theorem sumsD_succ (u : List Rat) (k : Nat) : sumsD u (k + 1) = sumsD u k ++ [fr (sumTo u k)] := by unfold sumsD; rw [List.range_succ, List.map_append]; rfl
theorem sumsD_last (u : List Rat) (k : Nat) : atI (sumsD u (k + 1)) (-1) = some (fr (sumTo u k)) := at_last (by rw [sumsD_succ]; simp)
theorem sumsD_at {u : List Rat} {k i : Nat} (h : i < k) : atI (sumsD u k) ((i : Nat) : Int) = some (fr (sumTo u i)) := by
  refine atI_nat ?_
  unfold sumsD
  rw [List.getElem?_map, List.getElem?_range h]; rfl
theorem uns_data (u : List Rat) (b : Bl) : (u.map fr).take (unsC u b) ++ List.replicate b.1.toNat (fr b.2) ++ (u.map fr).drop (unsC u b) = (unsIns u b).map fr := by
  unfold unsIns
  rw [List.map_append, List.map_append, List.map_take, List.map_drop, List.map_replicate]
theorem selR_len (l : List Rat) (p : Rat → Bool) : ((List.range (l.map fr).length).filterMap fun k => (l[k]?).bind fun a => if p a = true then some (fr a) else none).length = (l.filter p).length := by
  rw [List.length_map]
  have e : ((List.range l.length).filterMap fun k => (l[k]?).bind fun a => if p a = true then some (fr a) else none) = l.filterMap fun a => if p a = true then some (fr a) else none := by
    have : ((List.range l.length).map fun k => l[k]?) = l.map some := by
      refine List.ext_getElem (by simp) fun k h1 h2 => ?_
      simp only [List.getElem_map, List.getElem_range]
      exact List.getElem?_eq_getElem (by simpa using h2)
    have e2 : (((List.range l.length).map fun k => l[k]?).filterMap fun o => o.bind fun a => if p a = true then some (fr a) else none) = l.filterMap fun a => if p a = true then some (fr a) else none := by
      rw [this, List.filterMap_map]; rfl
    rw [← e2, List.filterMap_map]; rfl
  rw [e]
  induction l with
  | nil => rfl
  | cons a l ih =>
    have ih := ih (by
      have : ((List.range l.length).map fun k => l[k]?) = l.map some := by
        refine List.ext_getElem (by simp) fun k h1 h2 => ?_
        simp only [List.getElem_map, List.getElem_range]
        exact List.getElem?_eq_getElem (by simpa using h2)
      have e2 : (((List.range l.length).map fun k => l[k]?).filterMap fun o => o.bind fun a => if p a = true then some (fr a) else none) = l.filterMap fun a => if p a = true then some (fr a) else none := by
        rw [this, List.filterMap_map]; rfl
      rw [← e2, List.filterMap_map]; rfl)
    by_cases h : p a = true
    · rw [List.filterMap_cons, if_pos h, List.filter_cons_of_pos h, List.length_cons, List.length_cons, ih]
    · rw [List.filterMap_cons, if_neg h, List.filter_cons_of_neg h, ih]
theorem OkSt.sums {n : Nat} {L : List Bl} (O : OkSt n L) (hn : n ≤ 1900) {k : Nat} (hk : k ≤ (unsL L).length) : Rb 4390 (sumTo (unsL L) k) := by
  have hl := unsL_len O.pos
  rw [← hoa_sum O.pos (by omega), ← hto_all]
  exact (O.hto hn (by omega) _ (by rw [dscL_len]; exact O.most)).1
theorem uns_mem {L : List Bl} {q : Rat} (h : q ∈ unsL L) : ∃ b ∈ L, q = b.2 := by
  rw [unsL_eq] at h
  obtain ⟨b, hb, h⟩ := List.mem_flatMap.mp h
  exact ⟨b, (dscL_perm L).subset hb, List.eq_of_mem_replicate h⟩
/-! ### k33: the second state -/
def w2 (n : Int) (q : Pl) : Int := (pick q n + 1 + pick (left q n) (n - 1)) % n
def wP (n : Int) (q : Pl) : Pl := left (left q n) (n - 1)
def s33T (x : List Bl × Pl) : List Bl × Pl :=
  if pick x.2 3 = 0 then (shiftS x.1 (pick (left x.2 3) x.1.length).toNat (w2 x.1.length (left x.2 3)).toNat (shareC 1000000 (wP x.1.length (left x.2 3))), sharePC 1000000 (wP x.1.length (left x.2 3)))
  else (partlyS x.1 (pick (left x.2 3) x.1.length).toNat (w2 x.1.length (left x.2 3)).toNat (partC 6 (wP x.1.length (left x.2 3))), left (left (wP x.1.length (left x.2 3)) 6) (1 + pick (wP x.1.length (left x.2 3)) 6 + 1))
def s33N : Nat → List Bl × Pl → List Bl × Pl
  | 0, x => x
  | k + 1, x => s33T (s33N k x)
theorem w2_ok {n : Int} {q : Pl} (hn : 2 ≤ n) : 0 ≤ pick q n ∧ pick q n < n ∧ 0 ≤ w2 n q ∧ w2 n q < n ∧ pick q n ≠ w2 n q := by
  have a0 := pick_nn (p := q) (w := n) (by omega)
  have a1 := pick_lt (p := q) (w := n) (by omega)
  have b0 := pick_nn (p := left q n) (w := n - 1) (by omega)
  have b1 := pick_lt (p := left q n) (w := n - 1) (by omega)
  unfold w2
  have c0 := Int.emod_nonneg (pick q n + 1 + pick (left q n) (n - 1)) (show n ≠ 0 by omega)
  have c1 := Int.emod_lt_of_pos (pick q n + 1 + pick (left q n) (n - 1)) (show 0 < n by omega)
  refine ⟨a0, a1, c0, c1, ?_⟩
  by_cases h : pick q n + 1 + pick (left q n) (n - 1) < n
  · rw [Int.emod_eq_of_lt (by omega) h]; omega
  · have : (pick q n + 1 + pick (left q n) (n - 1)) % n = pick q n + 1 + pick (left q n) (n - 1) - n := by
      rw [← Int.sub_emod_right, Int.emod_eq_of_lt (by omega) (by omega)]
    rw [this]; omega
theorem wP_ok {n : Int} {q : Pl} (hn : 2 ≤ n) (h : q.Ok) : (wP n q).Ok := left_ok (left_ok h (by omega)) (by omega)
theorem s33T_ok {n : Nat} {x : List Bl × Pl} (O : OkSt n x.1) (h : x.2.Ok) (h2 : 2 ≤ x.1.length) : OkSt (n + 55) (s33T x).1 ∧ (s33T x).2.Ok ∧ (s33T x).1.length = x.1.length ∧ (s33T x).1.map (·.1) = x.1.map (·.1) := by
  obtain ⟨a0, a1, b0, b1, hne⟩ := w2_ok (n := (x.1.length : Int)) (q := left x.2 3) (by omega)
  have hq := wP_ok (n := (x.1.length : Int)) (by omega) (left_ok h (show (0 : Int) < 3 by decide))
  unfold s33T
  generalize wP (x.1.length : Int) (left x.2 3) = q at hq ⊢
  split
  · exact ⟨shiftS_ok O (by omega) (by omega) (shareC_rb (by decide) (by decide)), sharePC_ok (by decide) hq, shiftS_len _ _ _ _, szL_shift (by omega) (by omega)⟩
  · obtain ⟨q1, q2, q3, q4⟩ := partC_ok (c := 6) (by decide) (by decide) q
    have e0 := pick_nn (p := q) (w := 6) (by decide)
    exact ⟨(partlyS_ok4 O (by omega) (by omega) q1 q2).mono (by omega), left_ok (left_ok hq (by decide)) (by omega), partlyS_len _ _ _ _, szL_shift (by omega) (by omega)⟩
theorem s33N_ok {n : Nat} {x : List Bl × Pl} (O : OkSt n x.1) (h : x.2.Ok) (h2 : 2 ≤ x.1.length) : ∀ k, OkSt (n + 55 * k) (s33N k x).1 ∧ (s33N k x).2.Ok ∧ (s33N k x).1.length = x.1.length ∧ (s33N k x).1.map (·.1) = x.1.map (·.1)
  | 0 => ⟨O, h, rfl, rfl⟩
  | k + 1 => by
    obtain ⟨a, b, d, e⟩ := s33N_ok O h h2 k
    obtain ⟨a', b', d', e'⟩ := s33T_ok a b (by omega)
    exact ⟨by rw [show n + 55 * (k + 1) = n + 55 * k + 55 by omega]; exact a', b', d'.trans d, e'.trans e⟩
def sec33 (p : Pl) (L : List Bl) : List Bl × Pl := s33N (1 + pick p 4).toNat (L, left p 4)
theorem sec33_ok {n : Nat} {p : Pl} {L : List Bl} (O : OkSt n L) (h : p.Ok) (h2 : 2 ≤ L.length) : OkSt (n + 220) (sec33 p L).1 ∧ (sec33 p L).2.Ok ∧ (sec33 p L).1.length = L.length ∧ (sec33 p L).1.map (·.1) = L.map (·.1) := by
  have v0 := pick_nn (p := p) (w := 4) (by decide)
  have v1 := pick_lt (p := p) (w := 4) (by decide)
  obtain ⟨a, b, c, d⟩ := s33N_ok (x := (L, left p 4)) O (left_ok h (by decide)) h2 (1 + pick p 4).toNat
  exact ⟨a.mono (by omega), b, c, d⟩
theorem div_rb {q : Rat} {s : Int} (h : Rb 40 q) (hs : Sz s) : Rb 4000 (q / (s : Rat)) := by
  unfold Sz at hs
  have g := Gr.of_rb h
  have c0 := q.den_pos
  have hd : q.den < 2 ^ 40 := by have := h.2; unfold Bt at this; simpa using this
  have e := Gr.divi c0 (show 0 < s ∧ s < 2 ^ 7 by omega).1 g
  have : q.den * s.toNat < 2 ^ (40 + 7) := by rw [Nat.pow_add]; exact Nat.mul_lt_mul'' hd (by omega)
  exact (e.rb (Nat.mul_pos c0 (by omega)) this).mono (by omega)
theorem share_div {q : Rat} {s p : Int} (h : Rb 40 q) (hs : Sz s) (hp : Sz p) : Rb 4000 (q / (s : Rat)) ∧ Rb 4000 (q / (p : Rat)) := ⟨div_rb h hs, div_rb h hp⟩
theorem rat_of' {p q : Rat} (h : p.num = q.num ∧ (p.den : Int) = (q.den : Int)) : p = q := Rat.ext h.1 (by omega)
theorem shb_str {s : Str} {n : Nat} (h1 : (PyData.str s).canLay0 = true) (h2 : (PyData.str s).showable = true) (h3 : (PyData.str s).shown.length ≤ n) : Shb n 0 (.str s) := ⟨h1, h2, h3, Nat.le_refl _⟩
theorem shw_warm {x : Nat} (h : x ≤ 9999) : Shw (.tuple [.str "warmest", .int (x : Nat)]) := (shb_tup (n := 12) (k := 0) (m := 2) (ds := [.str "warmest", .int (x : Nat)]) (fun d hd => by
  simp only [List.mem_cons, List.not_mem_nil, or_false] at hd
  rcases hd with rfl | rfl
  · exact shb_str (by decide +kernel) (by decide +kernel) (by decide +kernel)
  · exact (shb_small (k := 4) (by decide) (by decide) (by omega)).mono (by omega) (by omega)) (by show 2 ≤ 2; decide)).mono (by decide) (by decide)
def sev : Rat := ⟨1, 7, by decide, by decide⟩
theorem sev_fr : (.tuple [.int 1, .int 7] : PyData) = fr sev := rfl
theorem sev_rb : Rb 4 sev := ⟨by show Bt 4 1; unfold Bt; decide, by show Bt 4 7; unfold Bt; decide⟩
def hot33 (b : Bool) (M : List Bl) : List Bl := if b then putT M 0 (tmp M 0 + sev) else M
theorem szL_put {L : List Bl} {i : Nat} {t : Rat} (hi : i < L.length) : (putT L i t).map (·.1) = L.map (·.1) := szD_iff.mp (szD_put hi)
theorem hot33_ok {n : Nat} {M : List Bl} (b : Bool) (O : OkSt n M) : OkSt (n + 5) (hot33 b M) ∧ (hot33 b M).length = M.length ∧ (hot33 b M).map (·.1) = M.map (·.1) := by
  unfold hot33
  cases b with
  | false => exact ⟨O.mono (by omega), rfl, rfl⟩
  | true => exact ⟨putT_ok O O.one sev_rb, putT_len _ _ _, szL_put O.one⟩
theorem cut_first {L : List Bl} {t : Rat} (h : 0 < L.length) : .tuple [.int (siz L 0), fr t] :: (L.map blk).drop 1 = (putT L 0 t).map blk := by
  have := cut_put (L := L) (i := 0) (t := t) (k := 1) (by omega) (by omega) rfl
  exact this
theorem hot_data {M : List Bl} (h : 0 < M.length) : stD (hot33 true M) = .tuple ([.tuple [.int (siz M (0 : Int).toNat), fr (tmp M (0 : Int).toNat + sev)]] ++ List.drop (1 : Int).toNat (List.map blk M)) := by
  show PyData.tuple ((putT M 0 (tmp M 0 + sev)).map blk) = _
  rw [← cut_first h]; rfl
end AL
namespace T33
open PySem PySem.Spec PyProof.Rows L2
/-! ### the text by its places (printed by wip/gen.py) -/
abbrev R : PySem.W.OpenRow := PySem.W.OpenLaw.row PySem.Challenge.rw_warmthbytouch_k33_reason_warmest
def top (i : Nat) : Stmt := PySem.Challenge.pw_warmthbytouch_k33_reason_warmest.main.body.getD i (.Pass ⟨0, 0, 0, 0⟩)
abbrev s_is_integer : Stmt := top 4
abbrev s_in_range : Stmt := top 5
abbrev s_gcd : Stmt := top 6
abbrev s_is_fraction : Stmt := top 7
abbrev s_reduced : Stmt := top 8
abbrev s_fraction_sum : Stmt := top 9
abbrev s_fraction_difference : Stmt := top 10
abbrev s_fraction_product : Stmt := top 11
abbrev s_is_lower : Stmt := top 12
abbrev s_total_of : Stmt := top 13
abbrev s_is_valid_size : Stmt := top 17
abbrev s_is_valid_block : Stmt := top 18
abbrev s_check_each : Stmt := top 19
abbrev s_check_state : Stmt := top 20
abbrev s_sizes_of : Stmt := top 21
abbrev s_heat_of : Stmt := top 22
abbrev s_allowed_pairs : Stmt := top 24
abbrev s_descending : Stmt := top 27
abbrev s_heat_of_amount : Stmt := top 28
abbrev s_breakpoints : Stmt := top 29
abbrev s_first_excess : Stmt := top 30
abbrev s_common_step : Stmt := top 31
abbrev s_divisors_of : Stmt := top 32
abbrev s_remaining_factor : Stmt := top 33
abbrev s_foreign_factor : Stmt := top 34
abbrev s_reason_for : Stmt := top 35
abbrev s_unreachable_reason : Stmt := top 36
abbrev s_w_pool : Stmt := top 38
abbrev s_w_take : Stmt := top 39
abbrev s_w_low : Stmt := top 40
abbrev s_w_plus : Stmt := top 41
abbrev s_w_times : Stmt := top 42
abbrev s_w_less : Stmt := top 43
abbrev s_w_share : Stmt := top 44
abbrev s_w_lot : Stmt := top 45
abbrev s_w_units : Stmt := top 46
abbrev s_w_sums : Stmt := top 47
abbrev s_w_shifted : Stmt := top 48
abbrev s_w_partly : Stmt := top 49
abbrev s_w_second : Stmt := top 50
abbrev s_w_right : Stmt := top 51
abbrev s_law : Stmt := top 52
def d_is_integer : He.DefD := ⟨("is_integer", none), "is_integer", "is_integer", defArgs s_is_integer, defBody s_is_integer, defScope s_is_integer, [], []⟩
def d_in_range : He.DefD := ⟨("in_range", none), "in_range", "in_range", defArgs s_in_range, defBody s_in_range, defScope s_in_range, [], []⟩
def d_gcd : He.DefD := ⟨("gcd", none), "gcd", "gcd", defArgs s_gcd, defBody s_gcd, defScope s_gcd, [], []⟩
def d_is_fraction : He.DefD := ⟨("is_fraction", none), "is_fraction", "is_fraction", defArgs s_is_fraction, defBody s_is_fraction, defScope s_is_fraction, [], []⟩
def d_reduced : He.DefD := ⟨("reduced", none), "reduced", "reduced", defArgs s_reduced, defBody s_reduced, defScope s_reduced, [], []⟩
def d_fraction_sum : He.DefD := ⟨("fraction_sum", none), "fraction_sum", "fraction_sum", defArgs s_fraction_sum, defBody s_fraction_sum, defScope s_fraction_sum, [], []⟩
def d_fraction_difference : He.DefD := ⟨("fraction_difference", none), "fraction_difference", "fraction_difference", defArgs s_fraction_difference, defBody s_fraction_difference, defScope s_fraction_difference, [], []⟩
def d_fraction_product : He.DefD := ⟨("fraction_product", none), "fraction_product", "fraction_product", defArgs s_fraction_product, defBody s_fraction_product, defScope s_fraction_product, [], []⟩
def d_is_lower : He.DefD := ⟨("is_lower", none), "is_lower", "is_lower", defArgs s_is_lower, defBody s_is_lower, defScope s_is_lower, [], []⟩
def d_total_of : He.DefD := ⟨("total_of", none), "total_of", "total_of", defArgs s_total_of, defBody s_total_of, defScope s_total_of, [], []⟩
def d_is_valid_size : He.DefD := ⟨("is_valid_size", none), "is_valid_size", "is_valid_size", defArgs s_is_valid_size, defBody s_is_valid_size, defScope s_is_valid_size, [], []⟩
def d_is_valid_block : He.DefD := ⟨("is_valid_block", none), "is_valid_block", "is_valid_block", defArgs s_is_valid_block, defBody s_is_valid_block, defScope s_is_valid_block, [], []⟩
def d_check_each : He.DefD := ⟨("check_each", none), "check_each", "check_each", defArgs s_check_each, defBody s_check_each, defScope s_check_each, [], []⟩
def d_check_state : He.DefD := ⟨("check_state", none), "check_state", "check_state", defArgs s_check_state, defBody s_check_state, defScope s_check_state, [], []⟩
def d_sizes_of : He.DefD := ⟨("sizes_of", none), "sizes_of", "sizes_of", defArgs s_sizes_of, defBody s_sizes_of, defScope s_sizes_of, [], []⟩
def d_heat_of : He.DefD := ⟨("heat_of", none), "heat_of", "heat_of", defArgs s_heat_of, defBody s_heat_of, defScope s_heat_of, [], []⟩
def d_allowed_pairs : He.DefD := ⟨("allowed_pairs", none), "allowed_pairs", "allowed_pairs", defArgs s_allowed_pairs, defBody s_allowed_pairs, defScope s_allowed_pairs, [], []⟩
def d_descending : He.DefD := ⟨("descending", none), "descending", "descending", defArgs s_descending, defBody s_descending, defScope s_descending, [], []⟩
def d_heat_of_amount : He.DefD := ⟨("heat_of_amount", none), "heat_of_amount", "heat_of_amount", defArgs s_heat_of_amount, defBody s_heat_of_amount, defScope s_heat_of_amount, [], []⟩
def d_breakpoints : He.DefD := ⟨("breakpoints", none), "breakpoints", "breakpoints", defArgs s_breakpoints, defBody s_breakpoints, defScope s_breakpoints, [], []⟩
def d_first_excess : He.DefD := ⟨("first_excess", none), "first_excess", "first_excess", defArgs s_first_excess, defBody s_first_excess, defScope s_first_excess, [], []⟩
def d_common_step : He.DefD := ⟨("common_step", none), "common_step", "common_step", defArgs s_common_step, defBody s_common_step, defScope s_common_step, [], []⟩
def d_divisors_of : He.DefD := ⟨("divisors_of", none), "divisors_of", "divisors_of", defArgs s_divisors_of, defBody s_divisors_of, defScope s_divisors_of, [], []⟩
def d_remaining_factor : He.DefD := ⟨("remaining_factor", none), "remaining_factor", "remaining_factor", defArgs s_remaining_factor, defBody s_remaining_factor, defScope s_remaining_factor, [], []⟩
def d_foreign_factor : He.DefD := ⟨("foreign_factor", none), "foreign_factor", "foreign_factor", defArgs s_foreign_factor, defBody s_foreign_factor, defScope s_foreign_factor, [], []⟩
def d_reason_for : He.DefD := ⟨("reason_for", none), "reason_for", "reason_for", defArgs s_reason_for, defBody s_reason_for, defScope s_reason_for, [], []⟩
def d_unreachable_reason : He.DefD := ⟨("unreachable_reason", none), "unreachable_reason", "unreachable_reason", defArgs s_unreachable_reason, defBody s_unreachable_reason, defScope s_unreachable_reason, [], []⟩
def d_w_pool : He.DefD := ⟨("_law_pool", none), "_law_pool", "_law_pool", defArgs s_w_pool, defBody s_w_pool, defScope s_w_pool, [], []⟩
def d_w_take : He.DefD := ⟨("_law_take", none), "_law_take", "_law_take", defArgs s_w_take, defBody s_w_take, defScope s_w_take, [], []⟩
def d_w_low : He.DefD := ⟨("_law_low", none), "_law_low", "_law_low", defArgs s_w_low, defBody s_w_low, defScope s_w_low, [], []⟩
def d_w_plus : He.DefD := ⟨("_law_plus", none), "_law_plus", "_law_plus", defArgs s_w_plus, defBody s_w_plus, defScope s_w_plus, [], []⟩
def d_w_times : He.DefD := ⟨("_law_times", none), "_law_times", "_law_times", defArgs s_w_times, defBody s_w_times, defScope s_w_times, [], []⟩
def d_w_less : He.DefD := ⟨("_law_less", none), "_law_less", "_law_less", defArgs s_w_less, defBody s_w_less, defScope s_w_less, [], []⟩
def d_w_share : He.DefD := ⟨("_law_share", none), "_law_share", "_law_share", defArgs s_w_share, defBody s_w_share, defScope s_w_share, [], []⟩
def d_w_lot : He.DefD := ⟨("_law_lot", none), "_law_lot", "_law_lot", defArgs s_w_lot, defBody s_w_lot, defScope s_w_lot, [], []⟩
def d_w_units : He.DefD := ⟨("_law_units", none), "_law_units", "_law_units", defArgs s_w_units, defBody s_w_units, defScope s_w_units, [], []⟩
def d_w_sums : He.DefD := ⟨("_law_sums", none), "_law_sums", "_law_sums", defArgs s_w_sums, defBody s_w_sums, defScope s_w_sums, [], []⟩
def d_w_shifted : He.DefD := ⟨("_law_shifted", none), "_law_shifted", "_law_shifted", defArgs s_w_shifted, defBody s_w_shifted, defScope s_w_shifted, [], []⟩
def d_w_partly : He.DefD := ⟨("_law_partly", none), "_law_partly", "_law_partly", defArgs s_w_partly, defBody s_w_partly, defScope s_w_partly, [], []⟩
def d_w_second : He.DefD := ⟨("_law_second", none), "_law_second", "_law_second", defArgs s_w_second, defBody s_w_second, defScope s_w_second, [], []⟩
def d_w_right : He.DefD := ⟨("_law_right", none), "_law_right", "_law_right", defArgs s_w_right, defBody s_w_right, defScope s_w_right, [], []⟩
def d_law : He.DefD := ⟨("law", none), "law", "law", defArgs s_law, defBody s_law, defScope s_law, [], []⟩
def fn : List He.DefD := [d_is_integer, d_in_range, d_gcd, d_is_fraction, d_reduced, d_fraction_sum, d_fraction_difference, d_fraction_product, d_is_lower, d_total_of, d_is_valid_size, d_is_valid_block, d_check_each, d_check_state, d_sizes_of, d_heat_of, d_allowed_pairs, d_descending, d_heat_of_amount, d_breakpoints, d_first_excess, d_common_step, d_divisors_of, d_remaining_factor, d_foreign_factor, d_reason_for, d_unreachable_reason, d_w_pool, d_w_take, d_w_low, d_w_plus, d_w_times, d_w_less, d_w_share, d_w_lot, d_w_units, d_w_sums, d_w_shifted, d_w_partly, d_w_second, d_w_right, d_law]
def fa : List He.Fa := [.glo "is_integer", .glo "in_range", .glo "gcd", .glo "is_fraction", .glo "reduced", .glo "fraction_sum", .glo "fraction_difference", .glo "fraction_product", .glo "is_lower", .glo "total_of", .glo "is_valid_size", .glo "is_valid_block", .glo "check_each", .glo "check_state", .glo "sizes_of", .glo "heat_of", .glo "allowed_pairs", .glo "descending", .glo "heat_of_amount", .glo "breakpoints", .glo "first_excess", .glo "common_step", .glo "divisors_of", .glo "remaining_factor", .glo "foreign_factor", .glo "reason_for", .glo "unreachable_reason", .glo "_law_pool", .glo "_law_take", .glo "_law_low", .glo "_law_plus", .glo "_law_times", .glo "_law_less", .glo "_law_share", .glo "_law_lot", .glo "_law_units", .glo "_law_sums", .glo "_law_shifted", .glo "_law_partly", .glo "_law_second", .glo "_law_right", .glo "law", .int "MAX_BLOCKS" 12, .int "MAX_SIZE" 99, .free "abs", .free "bool", .free "enumerate", .free "int", .free "isinstance", .free "len", .free "list", .free "max", .free "min", .free "range", .free "repr", .free "set", .free "sorted", .free "tuple"]
def loose0 : List Str := ["ContactError", "InvalidState", "is_integer", "in_range", "gcd", "is_fraction", "reduced", "fraction_sum", "fraction_difference", "fraction_product", "is_lower", "total_of", "MAX_BLOCKS", "MAX_SIZE", "is_valid_size", "is_valid_block", "check_each", "check_state", "sizes_of", "heat_of", "allowed_pairs", "ZERO", "descending", "heat_of_amount", "breakpoints", "first_excess", "common_step", "divisors_of", "remaining_factor", "foreign_factor"]
def loose1 : List Str := ["reason_for", "unreachable_reason", "_law_pool", "_law_take", "_law_low", "_law_plus", "_law_times", "_law_less", "_law_share", "_law_lot", "_law_units", "_law_sums", "_law_shifted", "_law_partly", "_law_second", "_law_right"]
def loose : List Str := loose0 ++ loose1
def tf : List He.Defn := []
def tc : List (Str × List Int) := [("ZERO", [0, 1])]
def ex : PySem.W.Frag → Bool := fun K => tc.all fun p => AL.tupK K p.1 p.2
abbrev hk : PySem.W.Hook := He.hookX 4 fa fn [] tf ex
def ob (s : PySem.W.SharedT) : He.AlX := He.obsX 4 fa fn [] tf ex (HandSHeadRun.getT s)
theorem ob_eq (s : PySem.W.SharedT) : ob s = hk.obs s.abs := He.obsX_eq (HandSHeadRun.getT_eq s)
theorem run (w : World) : HandSHeadRun.RunEq R (PySem.W.view R.prog [52]) hk ob 20000 loose w := by
  intro os
  kernel_rfl
end T33
set_option pp.maxSteps 3500
namespace T33
open PySem PySem.Spec L2 AL
local macro_rules | `(tactic| walk_at "se") => `(tactic| (first | exact AL.SetE.z | (apply AL.SetE.s; walk_at "se")))
local macro_rules | `(tactic| walk_at "fz") => `(tactic| (first | exact AL.Frz.nil | (apply AL.Frz.d; walk_at "fz") | exact AL.Frz.o (by rfl) (by walk_at "se") (by walk_at "fz")))
local macro_rules | `(tactic| walk_at "cv") => `(tactic| (first | exact AL.CvA.nil | (apply AL.CvA.d; walk_at "cv") | (apply AL.CvA.v; walk_at "cv")))
local macro_rules | `(tactic| walk_at "wk") => `(tactic| (first | exact AL.WkE.nil | (with_reducible apply AL.WkE.same; walk_at "wk") | (apply AL.WkE.drop; walk_at "wk")))
local macro_rules | `(tactic| walk_at "wipe") => `(tactic| (first | exact AL.WipeE.nil | (apply AL.WipeE.cons; walk_at "wipe"; walk_at "se")))
local macro_rules | `(tactic| walk_at "nm") => `(tactic| (first | with_reducible assumption | exact AL.Nm.blk (by with_reducible assumption) (by decide +kernel) | exact AL.nm_own (by assumption) (by with_reducible assumption) (by decide +kernel)))
local macro_rules | `(tactic| walk_at "lc") => `(tactic| (first | with_reducible assumption | exact AL.lc_own (by assumption) (by with_reducible assumption) (by decide +kernel)))
local macro_rules | `(tactic| walk_at "gn") => `(tactic| (first | with_reducible assumption | (refine AL.gnB ?_; decide +kernel)))
local macro_rules | `(tactic| walk_at "bn") => `(tactic| (first | with_reducible assumption | (refine AL.bnB ?_ ?_; decide +kernel; with_reducible assumption)))
local macro_rules | `(tactic| walk_at "cal") => `(tactic| (first | with_reducible assumption | (refine AL.calB ?_; with_reducible assumption)))
local macro_rules | `(tactic| walk_at "calD") => `(tactic| (first | with_reducible assumption | (refine AL.calDB ?_; with_reducible assumption)))
local macro_rules | `(tactic| walk_at "calK") => `(tactic| (first | with_reducible assumption | (refine AL.calKB ?_; with_reducible assumption)))
local macro_rules | `(tactic| walk_at "calG") => `(tactic| (first | with_reducible assumption | (refine AL.calGB ?_; with_reducible assumption)))
local macro_rules | `(tactic| walk_at "hgd") => `(tactic| (first | with_reducible assumption | (refine AL.guardB ?_; with_reducible assumption)))
local macro_rules | `(tactic| walk_at "hT") => `(tactic| (first | with_reducible assumption | exact (AL.CtT.hT _).trans (by with_reducible assumption)))
local macro_rules | `(tactic| walk_at "shw") => `(tactic| (first | assumption | (simp only [AL.dOf]; assumption)))
local macro_rules | `(tactic| walk_at "held") => `(tactic| (first | with_reducible assumption | (refine AL.heldB ?_; with_reducible assumption)))
local macro_rules | `(tactic| walk_at "mg") => `(tactic| (first | with_reducible assumption | (refine AL.mgB ?_; with_reducible assumption)))
local macro_rules | `(tactic| walk_at "tc") => `(tactic| (first | with_reducible assumption | (refine AL.tcB ?_; with_reducible assumption)))
local macro_rules | `(tactic| walk_at "room") => `(tactic| (first | exact AL.CxF.room (by with_reducible assumption) | exact AL.roomB (AL.CxF.room (by with_reducible assumption))))
local macro_rules | `(tactic| walk_at "calm") => `(tactic| (first | exact AL.CxF.calm (by with_reducible assumption) | exact AL.calmB (AL.CxF.calm (by with_reducible assumption))))
local macro_rules | `(tactic| walk_at "boot") => `(tactic| (decide +kernel))
local macro_rules | `(tactic| walk_at "ix") => `(tactic| (first | rfl | assumption | exact AL.at_st (by first | assumption | omega) | exact AL.at_stI (by omega) (by omega) | exact AL.at_dn7 (by omega) (by omega) (by assumption) | exact AL.at_size4 (by omega) (by omega) | exact AL.at_dn4 (by omega) (by omega) | exact AL.ixN_int (by omega) (by first | omega | (simp only [List.length_set, List.length_map]; omega))))
local macro_rules | `(tactic| walk_at "isfr") => `(tactic| (first | exact AL.isfr_rfl | exact AL.isfr_neg))
local macro_rules | `(tactic| walk_at "len") => `(tactic| (first | (simp only [List.length_cons, List.length_nil, List.length_map]; omega) | omega | (simp; omega)))
local macro_rules | `(tactic| walk_at "look") => `(tactic| (exact AL.CxF.look (by with_reducible assumption) (by decide +kernel)))
local macro_rules | `(tactic| walk_at "swap") => `(tactic| (exact AL.CxF.swapE (by with_reducible assumption) (by kernel_rfl)))
local macro_rules | `(tactic| walk_at "swapw") => `(tactic| (exact AL.CxF.swapW (by with_reducible assumption) (by kernel_rfl)))
local macro_rules | `(tactic| walk_at "pos") => `(tactic| (first | omega | decide))
local macro_rules | `(tactic| walk_at "mul") => `(tactic| (first | assumption | exact AL.bt_cmul (by assumption) (by assumption) | exact AL.small_mul (by omega) | exact AL.small_mulL (by omega) | exact AL.small_mul (by split <;> omega)))
local macro_rules | `(tactic| walk_at "div") => `(tactic| (first | assumption | exact AL.bt_cdiv (by assumption) (by assumption) | exact AL.small_div (by omega)))
local macro_rules | `(tactic| walk_at "nd") => `(tactic| (first | rfl | assumption))
local macro_rules | `(tactic| walk_at "nn") => `(tactic| (first | omega | assumption | decide))
local macro_rules | `(tactic| walk_at "pf") => `(tactic| (first | with_reducible assumption | exact AL.Rb.n (by with_reducible assumption) | exact AL.Rb.d (by with_reducible assumption) | omega | assumption | decide | (simp only [List.length_map]; omega)))
local macro_rules | `(tactic| walk_at "con") => `(tactic| (assumption))
local macro_rules | `(tactic| walk_at "pok") => `(tactic| (first | assumption | exact AL.left_ok (by walk_at "pok") (by walk_at "pf") | exact AL.shareP_ok (by walk_at "pok") | exact AL.sizeP_ok (by walk_at "pok")))
local macro_rules | `(tactic| walk_at "con") => `(tactic| (((with_reducible show AL.S_ahead _ _ _); unfold AL.S_ahead; exact ⟨_, _, rfl, by walk_at "pf", by walk_at "pf", rfl⟩)))
local macro_rules | `(tactic| walk_at "ln") => `(tactic| (first | trivial | exact ⟨trivial, by walk_at "ln"⟩ | exact ⟨by first | assumption | (simp [AL.entNol, AL.nolA]; done), by walk_at "ln"⟩))
local macro_rules | `(tactic| walk_at "pow") => `(tactic| (first | decide | decide +kernel | assumption | (unfold L2.CPow; decide +kernel)))
local macro_rules | `(tactic| walk_at "shaped") => `(tactic| (first | rfl | assumption))
local macro_rules | `(tactic| walk_at "leaf") => `(tactic| (first | ((with_reducible show ∃ _ _, _ = _ ∧ _ = _ ∧ _ = AL.Av.d (PySem.PyData.int (-1)) ∧ _); first | refine AL.lf_down rfl rfl rfl ⟨by walk_at "len", by walk_at "len", by walk_at "len", by walk_at "len"⟩ ?_) | ((with_reducible show ∃ _, AL.KL _ _ _ ∧ AL.EE _ _ _ _ _); first | refine ⟨_, .inl rfl, ?_⟩ | refine ⟨_, AL.kl_o (by rfl), ?_⟩) | ((with_reducible show ∃ _ _, (_ = AL.Av.d (PySem.PyData.tuple _) ∨ AL.KL _ _ _) ∧ _); first | refine AL.lf_row2 rfl ?_) | ((with_reducible show ∃ _, AL.KL _ _ _ ∧ _); first | refine ⟨_, .inl rfl, ?_⟩ | refine ⟨_, AL.kl_o (by rfl), ?_⟩) | ((with_reducible show ∃ _ _, _ = _ ∧ (0 : Nat) < _ ∧ (_ ∨ _)); first | refine AL.lf_sl1U rfl rfl ?_) | ((with_reducible show ∃ _, _ = _ ∧ _); first | refine ⟨_, rfl, ?_⟩) | ((with_reducible show ∃ _ _, _ = _ ∧ _ = _ ∧ _); first | refine ⟨_, _, rfl, rfl, ?_⟩) | ((with_reducible show 0 ≤ _ ∧ AL.EE _ _ _ _ _); first | refine ⟨by walk_at "nn", ?_⟩) | ((with_reducible show 0 ≤ _ ∧ AL.RA _ _ _ _ _ _ _); first | refine ⟨by walk_at "nn", ?_⟩) | ((with_reducible show 0 ≤ _ ∧ _); first | refine ⟨by walk_at "nn", ?_⟩) | ((with_reducible show _ ≤ _ ∧ _ < _ ∧ _); first | refine ⟨by walk_at "len", by walk_at "len", ?_⟩) | ((with_reducible show (_ ≤ _ ∧ _ < _ ∧ _ ≤ _ ∧ _ < _) ∧ _); first | refine ⟨⟨by walk_at "len", by walk_at "len", by walk_at "len", by walk_at "len"⟩, ?_⟩) | ((with_reducible show ∃ _ _ _ _, _ = _ ∧ AL.SetE _ _ _ _ ∧ _); first | refine AL.lf_par (by walk_at "se") (by walk_at "se") ?_) | ((with_reducible show ∃ _ _, _ = _ ∧ L2.CDivW _ _ ∧ AL.SetE _ _ _ _ ∧ _); first | refine AL.lf_augDiv rfl (by walk_at "div") (by walk_at "se") ?_) | ((with_reducible show ∃ _ _, _ = _ ∧ L2.CMulW _ _ ∧ AL.SetE _ _ _ _ ∧ _); first | refine AL.lf_augMul rfl (by walk_at "mul") (by walk_at "se") ?_) | ((with_reducible show ∃ _ _, _ = _ ∧ AL.SetE _ _ _ _ ∧ _); first | refine AL.lf_aug (by walk_at "se") ?_) | ((with_reducible show ∃ _ _, AL.Frz _ _ _ _ ∧ _ ≤ _ ∧ _); first | refine AL.lf_frz (by walk_at "fz") (by walk_at "len") ?_) | ((with_reducible show ∃ _, AL.SetE _ _ _ _ ∧ _); first | refine AL.lf_setN (by walk_at "se") ?_ | refine AL.lf_setI (by walk_at "se") ?_) | ((with_reducible show ∃ _ _ _ _ _, AL.Frz _ _ _ _ ∧ _); first | refine AL.lf_append (by walk_at "fz") (by rfl) (by walk_at "len") (by walk_at "se") ?_) | ((with_reducible show ∃ _ _, AL.Frz _ _ [_] _ ∧ _); first | refine AL.lf_turn (by walk_at "fz") ?_ | refine AL.lf_iL (by walk_at "fz") ?_) | ((with_reducible show ∃ _, AL.KT _ _ _ ∧ _); first | refine AL.lf_kt AL.kt_l ?_ | refine AL.lf_kt AL.kt_t ?_ | refine AL.lf_kt (AL.kt_o (by rfl)) ?_) | ((with_reducible show ∃ _, AL.notD _ = true ∧ _); first | refine AL.lf_isi (by walk_at "nd") ?_) | ((with_reducible show ∃ _ _ _, _ = AL.Av.o _ ∧ _); first | refine AL.lf_app0 (by rfl) ?_) | ((with_reducible show ∃ _ _ _ _ _ _, _ = _ ∧ 0 ≤ _ ∧ _ < _ ∧ AL.Frz _ _ _ _ ∧ _); first | refine AL.lf_insert rfl (by walk_at "nn") (by walk_at "len") (by walk_at "fz") (by rfl) (by walk_at "len") (by walk_at "se") ?_) | ((with_reducible show ∃ _ _, _ = _ ∧ 0 ≤ _ ∧ (_ ∨ _)); first | refine AL.lf_slT rfl (by walk_at "nn") rfl ?_ | refine AL.lf_slL rfl (by walk_at "nn") AL.kl_l ?_ | refine AL.lf_slL rfl (by walk_at "nn") (AL.kl_o (by rfl)) ?_) | ((with_reducible show ∃ _ _ _, AL.Frz [_, _] _ _ _ ∧ _); first | refine AL.lf_zip (by walk_at "fz") ?_) | ((with_reducible show ∃ _ _ _ _ _ _ _ _, _ = _ ∧ _ = _ ∧ AL.Frz _ _ _ _ ∧ _); first | refine AL.lf_setIx rfl rfl (by walk_at "fz") (by rfl) (by walk_at "ix") (by walk_at "se") ?_) | ((with_reducible show ∃ _ _, (_ ∨ _) ∧ _); first | refine AL.lf_enumT ?_ | refine AL.lf_enumL (by walk_at "fz") ?_) | ((with_reducible show _ ∧ ∃ _ _, AL.CvA _ _ _ ∧ _); first | refine AL.lf_call rfl (by walk_at "cv") (by walk_at "con") ?_ | refine AL.lf_callN rfl (by walk_at "cv") (by walk_at "con") ?_ | refine AL.lf_callD rfl (by walk_at "cv") (by walk_at "con") ?_ | refine AL.lf_callK0 rfl (by walk_at "cv") (by rfl) (by walk_at "con") ?_) | ((with_reducible show _ ∧ _ ∧ ∃ _ _, AL.CvA _ _ _ ∧ _); first | refine AL.lf_callK rfl rfl (by walk_at "cv") (by rfl) (by walk_at "con") ?_) | ((with_reducible show _ ∧ AL.Shw _ ∧ _); first | refine AL.lf_rep2 (by rfl) (by walk_at "shw") ?_) | ((with_reducible show _ = _ ∧ ∃ _ _ _ _ _ _ _ _, _); first | refine AL.lf_callM rfl (by walk_at "cv") (by rfl) (by walk_at "con") (by walk_at "se") ?_)))
local macro_rules | `(tactic| walk_at "GEE.Constant") => `(tactic| (first | ((with_reducible show AL.EE _ _ (PySem.Expr.Constant (PySem.Const.int _) _ _) _ _); first | refine AL.ee_int ?_) | ((with_reducible show AL.EE _ _ (PySem.Expr.Constant (PySem.Const.bool _) _ _) _ _); first | refine AL.ee_bl ?_) | ((with_reducible show AL.EE _ _ (PySem.Expr.Constant PySem.Const.none _ _) _ _); first | refine AL.ee_non ?_) | ((with_reducible show AL.EE _ _ (PySem.Expr.Constant (PySem.Const.str _) _ _) _ _); first | refine AL.ee_str ?_)))
local macro_rules | `(tactic| walk_at "GEE.Name") => `(tactic| (first | ((with_reducible show AL.EE _ _ (PySem.Expr.Name "bool" _) _ _); first | refine AL.ee_ty (T := "bool") (by walk_at "bn") (by walk_at "boot") ?_) | ((with_reducible show AL.EE _ _ (PySem.Expr.Name "int" _) _ _); first | refine AL.ee_ty (T := "int") (by walk_at "bn") (by walk_at "boot") ?_) | ((with_reducible show AL.EE _ _ (PySem.Expr.Name "str" _) _ _); first | refine AL.ee_ty (T := "str") (by walk_at "bn") (by walk_at "boot") ?_) | ((with_reducible show AL.EE _ _ (PySem.Expr.Name "list" _) _ _); first | refine AL.ee_ty (T := "list") (by walk_at "bn") (by walk_at "boot") ?_) | ((with_reducible show AL.EE _ _ (PySem.Expr.Name "tuple" _) _ _); first | refine AL.ee_ty (T := "tuple") (by walk_at "bn") (by walk_at "boot") ?_) | ((with_reducible show AL.EE _ _ (PySem.Expr.Name "dict" _) _ _); first | refine AL.ee_ty (T := "dict") (by walk_at "bn") (by walk_at "boot") ?_) | ((with_reducible show AL.EE _ _ (PySem.Expr.Name _ _) _ _); first | refine AL.ee_im (by walk_at "nm") (by rfl) ?_ | refine AL.ee_ls (by walk_at "nm") (by rfl) ?_ | refine AL.ee_vl (by walk_at "nm") (by rfl) ?_ | refine AL.ee_gi (by walk_at "gn") (by walk_at "mg") ?_ | refine AL.ee_ty (by walk_at "bn") (by walk_at "boot") ?_ | refine AL.ee_glT2 (by walk_at "gn") (by walk_at "tc") ?_ | refine AL.ee_glT (by walk_at "gn") (by walk_at "tc") ?_ | refine AL.ee_gr (by walk_at "gn") (by walk_at "mg") ?_)))
local macro_rules | `(tactic| walk_at "GEE.BinOp") => `(tactic| (first | ((with_reducible show AL.EE _ _ (PySem.Expr.BinOp _ PySem.Operator.Add (PySem.Expr.List _ _) _) _ _); first | refine AL.ee_en (AL.en_cat ?_)) | ((with_reducible show AL.EE _ _ (PySem.Expr.BinOp _ PySem.Operator.Add _ _) _ _); first | refine AL.ee_add ?_) | ((with_reducible show AL.EE _ _ (PySem.Expr.BinOp _ PySem.Operator.Sub _ _) _ _); first | refine AL.ee_sub ?_) | ((with_reducible show AL.EE _ _ (PySem.Expr.BinOp (PySem.Expr.List _ _) PySem.Operator.Mult _ _) _ _); first | refine AL.ee_en (AL.en_rep ?_)) | ((with_reducible show AL.EE _ _ (PySem.Expr.BinOp _ PySem.Operator.Mult _ _) _ _); first | refine AL.ee_mul ?_) | ((with_reducible show AL.EE _ _ (PySem.Expr.BinOp _ PySem.Operator.FloorDiv _ _) _ _); first | refine AL.ee_fdiv ?_) | ((with_reducible show AL.EE _ _ (PySem.Expr.BinOp _ PySem.Operator.Mod _ _) _ _); first | refine AL.ee_mod ?_) | ((with_reducible show AL.EE _ _ (PySem.Expr.BinOp _ PySem.Operator.Pow _ _) _ _); first | refine AL.ee_pow ?_)))
local macro_rules | `(tactic| walk_at "GEE.UnaryOp") => `(tactic| (first | ((with_reducible show AL.EE _ _ (PySem.Expr.UnaryOp PySem.UnaryOp.USub _ _) _ _); first | refine AL.ee_neg ?_) | ((with_reducible show AL.EE _ _ (PySem.Expr.UnaryOp PySem.UnaryOp.Not _ _) _ _); first | refine AL.ee_not ?_)))
local macro_rules | `(tactic| walk_at "GEE.Compare") => `(tactic| (first | ((with_reducible show AL.EE _ _ (PySem.Expr.Compare _ [PySem.CmpOp.Lt] [_] _) _ _); first | refine AL.ee_lt ?_) | ((with_reducible show AL.EE _ _ (PySem.Expr.Compare _ [PySem.CmpOp.LtE] [_] _) _ _); first | refine AL.ee_le ?_) | ((with_reducible show AL.EE _ _ (PySem.Expr.Compare _ [PySem.CmpOp.Gt] [_] _) _ _); first | refine AL.ee_gt ?_) | ((with_reducible show AL.EE _ _ (PySem.Expr.Compare _ [PySem.CmpOp.GtE] [_] _) _ _); first | refine AL.ee_ge ?_) | ((with_reducible show AL.EE _ _ (PySem.Expr.Compare _ [PySem.CmpOp.Eq] [_] _) _ _); first | refine AL.ee_eqA (by walk_at "room") ?_) | ((with_reducible show AL.EE _ _ (PySem.Expr.Compare _ [PySem.CmpOp.NotEq] [_] _) _ _); first | refine AL.ee_neA (by walk_at "room") ?_) | ((with_reducible show AL.EE _ _ (PySem.Expr.Compare _ [PySem.CmpOp.Is] [PySem.Expr.Constant PySem.Const.none _ _] _) _ _); first | refine AL.ee_isN ?_) | ((with_reducible show AL.EE _ _ (PySem.Expr.Compare _ [PySem.CmpOp.IsNot] [PySem.Expr.Constant PySem.Const.none _ _] _) _ _); first | refine AL.ee_notN ?_) | ((with_reducible show AL.EE _ _ (PySem.Expr.Compare _ [PySem.CmpOp.LtE, PySem.CmpOp.LtE] [_, _] _) _ _); first | refine AL.ee_chainLL ?_) | ((with_reducible show AL.EE _ _ (PySem.Expr.Compare _ [PySem.CmpOp.LtE, PySem.CmpOp.Lt] [_, _] _) _ _); first | refine AL.ee_chainLt ?_) | ((with_reducible show AL.EE _ _ (PySem.Expr.Compare _ [PySem.CmpOp.In] [_] _) _ _); first | refine AL.ee_inA (by walk_at "room") (by rfl) ?_) | ((with_reducible show AL.EE _ _ (PySem.Expr.Compare _ [PySem.CmpOp.NotIn] [PySem.Expr.Call (PySem.Expr.Name "range" _) [_] [] _] _) _ _); first | refine AL.ee_notInRng (by walk_at "bn") ?_) | ((with_reducible show AL.EE _ _ (PySem.Expr.Compare _ [PySem.CmpOp.NotIn] [_] _) _ _); first | refine AL.ee_notInA (by walk_at "room") (by rfl) ?_)))
local macro_rules | `(tactic| walk_at "GEE.BoolOp") => `(tactic| (first | ((with_reducible show AL.EE _ _ (PySem.Expr.BoolOp _ [_] _) _ _); first | refine AL.ee_one ?_) | ((with_reducible show AL.EE _ _ (PySem.Expr.BoolOp PySem.BoolOp.And (_ :: _ :: _) _) _ _); first | refine AL.ee_and ?_) | ((with_reducible show AL.EE _ _ (PySem.Expr.BoolOp PySem.BoolOp.Or (_ :: _ :: _) _) _ _); first | refine AL.ee_or ?_)))
local macro_rules | `(tactic| walk_at "GEE.IfExp") => `(tactic| (first | ((with_reducible show AL.EE _ _ (PySem.Expr.IfExp _ _ _ _) _ _); first | refine AL.ee_if ?_)))
local macro_rules | `(tactic| walk_at "GEE.Tuple") => `(tactic| (first | ((with_reducible show AL.EE _ _ (PySem.Expr.Tuple _ _ _) _ _); first | refine AL.ee_tup ?_)))
local macro_rules | `(tactic| walk_at "GEE.List") => `(tactic| (first | ((with_reducible show AL.EE _ _ (PySem.Expr.List _ _) _ _); first | refine AL.ee_lst ?_)))
local macro_rules | `(tactic| walk_at "GEE.Subscript") => `(tactic| (first | ((with_reducible show AL.EE _ _ (PySem.Expr.Subscript _ (PySem.Expr.Slice none none (some _) _) _) _ _); first | refine AL.ee_revL ?_) | ((with_reducible show AL.EE _ _ (PySem.Expr.Subscript _ (PySem.Expr.Slice none (some (PySem.Expr.UnaryOp PySem.UnaryOp.USub _ _)) none _) _) _ _); first | refine AL.ee_slHiN ?_) | ((with_reducible show AL.EE _ _ (PySem.Expr.Subscript _ (PySem.Expr.Slice none (some _) none _) _) _ _); first | refine AL.ee_sl2Hi ?_) | ((with_reducible show AL.EE _ _ (PySem.Expr.Subscript _ (PySem.Expr.Slice (some _) none none _) _) _ _); first | refine AL.ee_sl2Lo ?_) | ((with_reducible show AL.EE _ _ (PySem.Expr.Subscript _ _ _) _ _); first | refine AL.ee_ix (by intro _ _; rfl) ?_)))
local macro_rules | `(tactic| walk_at "GEE.Call") => `(tactic| (first | ((with_reducible show AL.EE _ _ (PySem.Expr.Call (PySem.Expr.Name "len" _) [PySem.Expr.Call (PySem.Expr.Name "set" _) [_] [] _] [] _) _ _); first | refine AL.ee_lenSetT (by walk_at "bn") (by walk_at "bn") (by walk_at "calm") (by walk_at "room") ?_) | ((with_reducible show AL.EE _ _ (PySem.Expr.Call (PySem.Expr.Name "len" _) [PySem.Expr.Name _ _] [] _) _ _); first | refine AL.ee_len (by walk_at "bn") ?_) | ((with_reducible show AL.EE _ _ (PySem.Expr.Call (PySem.Expr.Name "len" _) [PySem.Expr.Subscript _ _ _] [] _) _ _); first | refine AL.ee_len (by walk_at "bn") ?_) | ((with_reducible show AL.EE _ _ (PySem.Expr.Call (PySem.Expr.Name "len" _) [PySem.Expr.Call _ _ _ _] [] _) _ _); first | refine AL.ee_len (by walk_at "bn") ?_) | ((with_reducible show AL.EE _ _ (PySem.Expr.Call (PySem.Expr.Name "len" _) [PySem.Expr.BinOp _ _ _ _] [] _) _ _); first | refine AL.ee_len (by walk_at "bn") ?_) | ((with_reducible show AL.EE _ _ (PySem.Expr.Call (PySem.Expr.Name "abs" _) [_] [] _) _ _); first | refine AL.ee_abs (by walk_at "bn") ?_) | ((with_reducible show AL.EE _ _ (PySem.Expr.Call (PySem.Expr.Name "int" _) [_] [] _) _ _); first | refine AL.ee_intB (by walk_at "bn") ?_) | ((with_reducible show AL.EE _ _ (PySem.Expr.Call (PySem.Expr.Name "max" _) [_, _] [] _) _ _); first | refine AL.ee_max2 (by walk_at "bn") (by walk_at "calm") ?_) | ((with_reducible show AL.EE _ _ (PySem.Expr.Call (PySem.Expr.Name "min" _) [_, _] [] _) _ _); first | refine AL.ee_min2 (by walk_at "bn") (by walk_at "calm") ?_) | ((with_reducible show AL.EE _ _ (PySem.Expr.Call (PySem.Expr.Name "sorted" _) [PySem.Expr.Call (PySem.Expr.Name "set" _) [_] [] _] [] _) _ _); first | refine AL.ee_en (AL.en_sortSet (by walk_at "bn") (by walk_at "bn") (by walk_at "calm") ?_)) | ((with_reducible show AL.EE _ _ (PySem.Expr.Call (PySem.Expr.Name "min" _) [_] [] _) _ _); first | refine AL.ee_minI (by walk_at "bn") (by walk_at "calm") (by walk_at "room") ?_) | ((with_reducible show AL.EE _ _ (PySem.Expr.Call (PySem.Expr.Name "max" _) [_] [] _) _ _); first | refine AL.ee_maxI (by walk_at "bn") (by walk_at "calm") (by walk_at "room") ?_) | ((with_reducible show AL.EE _ _ (PySem.Expr.Call (PySem.Expr.Name "list" _) [_] [] _) _ _); first | refine AL.ee_en (AL.en_list (by walk_at "bn") ?_)) | ((with_reducible show AL.EE _ _ (PySem.Expr.Call (PySem.Expr.Name "tuple" _) [_] [] _) _ _); first | refine AL.ee_tuple (by walk_at "bn") ?_) | ((with_reducible show AL.EE _ _ (PySem.Expr.Call (PySem.Expr.Attribute _ "append" _) [_] [] _) _ _); first | refine AL.ee_append ?_) | ((with_reducible show AL.EE _ _ (PySem.Expr.Call (PySem.Expr.Attribute _ "insert" _) [_, _] [] _) _ _); first | refine AL.ee_insert ?_) | ((with_reducible show AL.EE _ _ (PySem.Expr.Call (PySem.Expr.Attribute _ "count" _) [_] [] _) _ _); first | refine AL.ee_count (by walk_at "room") ?_) | ((with_reducible show AL.EE _ _ (PySem.Expr.Call (PySem.Expr.Name "repr" _) [_] [] _) _ _); first | refine AL.ee_repr (by walk_at "room") (by walk_at "hgd") (by walk_at "bn") ?_) | ((with_reducible show AL.EE _ _ (PySem.Expr.Call (PySem.Expr.Name _ _) (_ :: _) (_ :: _) _) _ _); first | refine AL.ee_callK (by walk_at "calK") (by walk_at "room") (by walk_at "gn") ?_ | refine AL.ee_en (AL.en_callK (by walk_at "calK") (by walk_at "room") (by walk_at "gn") ?_)) | ((with_reducible show AL.EE _ _ (PySem.Expr.Call (PySem.Expr.Name _ _) [] (_ :: _) _) _ _); first | refine AL.ee_callK0 (by walk_at "calK") (by walk_at "room") (by walk_at "gn") ?_ | refine AL.ee_en (AL.en_callK0 (by walk_at "calK") (by walk_at "room") (by walk_at "gn") ?_)) | ((with_reducible show AL.EE _ _ (PySem.Expr.Call (PySem.Expr.Name "isinstance" _) [_, PySem.Expr.Name "bool" _] [] _) _ _); refine AL.ee_isi (T := "bool") (by walk_at "bn") (by decide) ?_) | ((with_reducible show AL.EE _ _ (PySem.Expr.Call (PySem.Expr.Name "isinstance" _) [_, PySem.Expr.Name "int" _] [] _) _ _); refine AL.ee_isi (T := "int") (by walk_at "bn") (by decide) ?_) | ((with_reducible show AL.EE _ _ (PySem.Expr.Call (PySem.Expr.Name "isinstance" _) [_, PySem.Expr.Name "str" _] [] _) _ _); refine AL.ee_isi (T := "str") (by walk_at "bn") (by decide) ?_) | ((with_reducible show AL.EE _ _ (PySem.Expr.Call (PySem.Expr.Name "isinstance" _) [_, PySem.Expr.Name "list" _] [] _) _ _); refine AL.ee_isi (T := "list") (by walk_at "bn") (by decide) ?_) | ((with_reducible show AL.EE _ _ (PySem.Expr.Call (PySem.Expr.Name "isinstance" _) [_, PySem.Expr.Name "tuple" _] [] _) _ _); refine AL.ee_isi (T := "tuple") (by walk_at "bn") (by decide) ?_) | ((with_reducible show AL.EE _ _ (PySem.Expr.Call (PySem.Expr.Name "isinstance" _) [_, PySem.Expr.Name "dict" _] [] _) _ _); refine AL.ee_isi (T := "dict") (by walk_at "bn") (by decide) ?_) | ((with_reducible show AL.EE _ _ (PySem.Expr.Call (PySem.Expr.Name _ _) (_ :: _) [] _) _ _); first | refine AL.ee_call (by walk_at "cal") (by walk_at "room") (by walk_at "gn") ?_ | refine AL.ee_callM (by walk_at "cal") (by walk_at "room") (by walk_at "gn") ?_ | refine AL.ee_en (AL.en_call (by walk_at "cal") (by walk_at "room") (by walk_at "gn") ?_) | refine AL.ee_callD (by walk_at "calD") (by walk_at "room") (by walk_at "gn") ?_ | refine AL.ee_en (AL.en_callD (by walk_at "calD") (by walk_at "room") (by walk_at "gn") ?_) | refine AL.ee_callX (by walk_at "nm") (by rfl) (by walk_at "held") (by walk_at "room") ?_ | refine AL.ee_callG (by walk_at "calG") (by walk_at "hT") (by walk_at "room") (by walk_at "hgd") (by walk_at "gn") ?_ | refine AL.ee_callGM (by walk_at "calG") (by walk_at "hT") (by walk_at "room") (by walk_at "hgd") (by walk_at "gn") ?_ | refine AL.ee_en (AL.en_callG (by walk_at "calG") (by walk_at "hT") (by walk_at "room") (by walk_at "hgd") (by walk_at "gn") ?_))))
local macro_rules | `(tactic| walk_at "GEE") => `(tactic| (first | ((with_reducible show AL.EE _ _ (PySem.Expr.Constant _ _ _) _ _); walk_at "GEE.Constant") | ((with_reducible show AL.EE _ _ (PySem.Expr.Name _ _) _ _); walk_at "GEE.Name") | ((with_reducible show AL.EE _ _ (PySem.Expr.BinOp _ _ _ _) _ _); walk_at "GEE.BinOp") | ((with_reducible show AL.EE _ _ (PySem.Expr.UnaryOp _ _ _) _ _); walk_at "GEE.UnaryOp") | ((with_reducible show AL.EE _ _ (PySem.Expr.Compare _ _ _ _) _ _); walk_at "GEE.Compare") | ((with_reducible show AL.EE _ _ (PySem.Expr.BoolOp _ _ _) _ _); walk_at "GEE.BoolOp") | ((with_reducible show AL.EE _ _ (PySem.Expr.IfExp _ _ _ _) _ _); walk_at "GEE.IfExp") | ((with_reducible show AL.EE _ _ (PySem.Expr.Tuple _ _ _) _ _); walk_at "GEE.Tuple") | ((with_reducible show AL.EE _ _ (PySem.Expr.List _ _) _ _); walk_at "GEE.List") | ((with_reducible show AL.EE _ _ (PySem.Expr.Subscript _ _ _) _ _); walk_at "GEE.Subscript") | ((with_reducible show AL.EE _ _ (PySem.Expr.Call _ _ _ _) _ _); walk_at "GEE.Call")))
local macro_rules | `(tactic| walk_at "GET.Compare") => `(tactic| (first | ((with_reducible show AL.ET _ _ (PySem.Expr.Compare _ [PySem.CmpOp.Lt] [_] _) _ _); first | refine AL.et_lt ?_) | ((with_reducible show AL.ET _ _ (PySem.Expr.Compare _ [PySem.CmpOp.LtE] [_] _) _ _); first | refine AL.et_le ?_) | ((with_reducible show AL.ET _ _ (PySem.Expr.Compare _ [PySem.CmpOp.Gt] [_] _) _ _); first | refine AL.et_gt ?_) | ((with_reducible show AL.ET _ _ (PySem.Expr.Compare _ [PySem.CmpOp.GtE] [_] _) _ _); first | refine AL.et_ge ?_) | ((with_reducible show AL.ET _ _ (PySem.Expr.Compare _ [PySem.CmpOp.Eq] [_] _) _ _); first | refine AL.et_eqA (by walk_at "room") ?_) | ((with_reducible show AL.ET _ _ (PySem.Expr.Compare _ [PySem.CmpOp.NotEq] [_] _) _ _); first | refine AL.et_neA (by walk_at "room") ?_) | ((with_reducible show AL.ET _ _ (PySem.Expr.Compare _ [PySem.CmpOp.In] [_] _) _ _); first | refine AL.et_inA (by walk_at "room") (by rfl) ?_) | ((with_reducible show AL.ET _ _ (PySem.Expr.Compare _ [PySem.CmpOp.NotIn] [PySem.Expr.Call (PySem.Expr.Name "range" _) [_] [] _] _) _ _); first | refine AL.et_notInRng (by walk_at "bn") ?_) | ((with_reducible show AL.ET _ _ (PySem.Expr.Compare _ [PySem.CmpOp.NotIn] [_] _) _ _); first | refine AL.et_notInA (by walk_at "room") (by rfl) ?_) | ((with_reducible show AL.ET _ _ (PySem.Expr.Compare _ [PySem.CmpOp.Is] [PySem.Expr.Constant PySem.Const.none _ _] _) _ _); first | refine AL.et_isN ?_) | ((with_reducible show AL.ET _ _ (PySem.Expr.Compare _ [PySem.CmpOp.IsNot] [PySem.Expr.Constant PySem.Const.none _ _] _) _ _); first | refine AL.et_notN ?_) | ((with_reducible show AL.ET _ _ (PySem.Expr.Compare _ [PySem.CmpOp.LtE, PySem.CmpOp.LtE] [_, _] _) _ _); first | refine AL.et_chainLL ?_) | ((with_reducible show AL.ET _ _ (PySem.Expr.Compare _ [PySem.CmpOp.LtE, PySem.CmpOp.Lt] [_, _] _) _ _); first | refine AL.et_chainLt ?_)))
local macro_rules | `(tactic| walk_at "GET.UnaryOp") => `(tactic| (first | ((with_reducible show AL.ET _ _ (PySem.Expr.UnaryOp PySem.UnaryOp.Not _ _) _ _); first | refine AL.et_not ?_)))
local macro_rules | `(tactic| walk_at "GET.BoolOp") => `(tactic| (first | ((with_reducible show AL.ET _ _ (PySem.Expr.BoolOp PySem.BoolOp.And _ _) _ _); first | refine AL.et_and ?_) | ((with_reducible show AL.ET _ _ (PySem.Expr.BoolOp PySem.BoolOp.Or _ _) _ _); first | refine AL.et_or ?_)))
local macro_rules | `(tactic| walk_at "GET.Call") => `(tactic| (first | ((with_reducible show AL.ET _ _ (PySem.Expr.Call _ _ _ _) _ _); first | refine AL.et_val ?_)))
local macro_rules | `(tactic| walk_at "GET.Name") => `(tactic| (first | ((with_reducible show AL.ET _ _ (PySem.Expr.Name _ _) _ _); first | refine AL.et_val ?_)))
local macro_rules | `(tactic| walk_at "GET.Subscript") => `(tactic| (first | ((with_reducible show AL.ET _ _ (PySem.Expr.Subscript _ _ _) _ _); first | refine AL.et_val ?_)))
local macro_rules | `(tactic| walk_at "GET.IfExp") => `(tactic| (first | ((with_reducible show AL.ET _ _ (PySem.Expr.IfExp _ _ _ _) _ _); first | refine AL.et_val ?_)))
local macro_rules | `(tactic| walk_at "GET") => `(tactic| (first | ((with_reducible show AL.ET _ _ (PySem.Expr.Compare _ _ _ _) _ _); walk_at "GET.Compare") | ((with_reducible show AL.ET _ _ (PySem.Expr.UnaryOp _ _ _) _ _); walk_at "GET.UnaryOp") | ((with_reducible show AL.ET _ _ (PySem.Expr.BoolOp _ _ _) _ _); walk_at "GET.BoolOp") | ((with_reducible show AL.ET _ _ (PySem.Expr.Call _ _ _ _) _ _); walk_at "GET.Call") | ((with_reducible show AL.ET _ _ (PySem.Expr.Name _ _) _ _); walk_at "GET.Name") | ((with_reducible show AL.ET _ _ (PySem.Expr.Subscript _ _ _) _ _); walk_at "GET.Subscript") | ((with_reducible show AL.ET _ _ (PySem.Expr.IfExp _ _ _ _) _ _); walk_at "GET.IfExp")))
local macro_rules | `(tactic| walk_at "GEW.BoolOp") => `(tactic| (first | ((with_reducible show AL.EW _ _ (PySem.Expr.BoolOp PySem.BoolOp.And [_] _) _ _); first | refine AL.ew_and1 ?_) | ((with_reducible show AL.EW _ _ (PySem.Expr.BoolOp PySem.BoolOp.Or [_] _) _ _); first | refine AL.ew_or1 ?_) | ((with_reducible show AL.EW _ _ (PySem.Expr.BoolOp PySem.BoolOp.And (_ :: _ :: _) _) _ _); first | refine AL.ew_and ?_) | ((with_reducible show AL.EW _ _ (PySem.Expr.BoolOp PySem.BoolOp.Or (_ :: _ :: _) _) _ _); first | refine AL.ew_or ?_)))
local macro_rules | `(tactic| walk_at "GEW") => `(tactic| (first | ((with_reducible show AL.EW _ _ (PySem.Expr.BoolOp _ _ _) _ _); walk_at "GEW.BoolOp")))
local macro_rules | `(tactic| walk_at "GETs") => `(tactic| (first | ((with_reducible show AL.ETs _ _ [] _ _); first | refine AL.ets_nil ?_) | ((with_reducible show AL.ETs _ _ [_] _ _); first | refine AL.ets_one ?_)))
local macro_rules | `(tactic| walk_at "GEA") => `(tactic| (first | ((with_reducible show AL.EA _ _ [] _ _); first | refine AL.ea_nil ?_) | ((with_reducible show AL.EA _ _ (_ :: _) _ _); first | refine AL.ea_cons ?_)))
local macro_rules | `(tactic| walk_at "GEK") => `(tactic| (first | ((with_reducible show AL.EK _ _ [] _ _); first | refine AL.ek_nil ?_) | ((with_reducible show AL.EK _ _ (_ :: _) _ _); first | refine AL.ek_cons ?_)))
local macro_rules | `(tactic| walk_at "GEN.List") => `(tactic| (first | ((with_reducible show AL.EN _ _ (PySem.Expr.List _ _) _ _); first | refine AL.en_lst ?_)))
local macro_rules | `(tactic| walk_at "GEN.BinOp") => `(tactic| (first | ((with_reducible show AL.EN _ _ (PySem.Expr.BinOp _ PySem.Operator.Add _ _) _ _); first | refine AL.en_cat ?_)))
local macro_rules | `(tactic| walk_at "GEN.Call") => `(tactic| (first | ((with_reducible show AL.EN _ _ (PySem.Expr.Call (PySem.Expr.Name "list" _) [_] [] _) _ _); first | refine AL.en_list (by walk_at "bn") ?_) | ((with_reducible show AL.EN _ _ (PySem.Expr.Call (PySem.Expr.Name _ _) (_ :: _) [] _) _ _); first | refine AL.en_call (by walk_at "cal") (by walk_at "room") (by walk_at "gn") ?_)))
local macro_rules | `(tactic| walk_at "GEN") => `(tactic| (first | ((with_reducible show AL.EN _ _ (PySem.Expr.List _ _) _ _); walk_at "GEN.List") | ((with_reducible show AL.EN _ _ (PySem.Expr.BinOp _ _ _ _) _ _); walk_at "GEN.BinOp") | ((with_reducible show AL.EN _ _ (PySem.Expr.Call _ _ _ _) _ _); walk_at "GEN.Call")))
local macro_rules | `(tactic| walk_at "GRA") => `(tactic| (first | ((with_reducible show AL.RA _ _ _ (AL.Av.d (PySem.PyData.tuple _)) (AL.Av.d (PySem.PyData.int _)) _ _); first | refine AL.ra_ixT (by walk_at "ix") ?_) | ((with_reducible show AL.RA _ _ _ (AL.Av.d (PySem.PyData.list _)) (AL.Av.d (PySem.PyData.int _)) _ _); first | refine AL.ra_ixL (by walk_at "ix") ?_) | ((with_reducible show AL.RA _ _ _ (AL.Av.o _) (AL.Av.d (PySem.PyData.int _)) _ _); first | refine AL.ra_ixO (by rfl) (by walk_at "ix") ?_) | ((with_reducible show AL.RA _ _ _ (AL.Av.d (AL.scr _)) (AL.Av.d (PySem.PyData.int _)) _ _); first | refine AL.ra_ixX (by walk_at "nn") (by walk_at "ix") ?_) | ((with_reducible show AL.RA _ _ _ (AL.Av.d (PySem.PyData.tuple _)) (AL.Av.d (PySem.PyData.tuple _)) _ _); first | refine AL.ra_catT (by walk_at "len") ?_) | ((with_reducible show AL.RA _ _ (AL.rEqA _) (AL.Av.d (PySem.PyData.int _)) (AL.Av.d (PySem.PyData.int _)) _ _); first | refine AL.ra_or1 (AL.ra_eqI ?_)) | ((with_reducible show AL.RA _ _ (AL.rEqA _) (AL.Av.d (PySem.PyData.str _)) (AL.Av.d (PySem.PyData.str _)) _ _); first | refine AL.ra_eqStr (by with_reducible rfl) ?_ | refine AL.ra_eqS ?_) | ((with_reducible show AL.RA _ _ (AL.rEqA _) (AL.Av.d (PySem.PyData.tuple [PySem.PyData.int _, PySem.PyData.int _])) (AL.Av.d (PySem.PyData.tuple [PySem.PyData.int _, PySem.PyData.int _])) _ _); first | refine AL.ra_or1 (AL.ra_eqF ?_)) | ((with_reducible show AL.RA _ _ (AL.rNeA _) (AL.Av.d (PySem.PyData.int _)) (AL.Av.d (PySem.PyData.int _)) _ _); first | refine AL.ra_or1 (AL.ra_neI ?_)) | ((with_reducible show AL.RA _ _ (AL.rNeA _) (AL.Av.d (PySem.PyData.str _)) (AL.Av.d (PySem.PyData.str _)) _ _); first | refine AL.ra_neStr (by with_reducible rfl) ?_ | refine AL.ra_neS ?_) | ((with_reducible show AL.RA _ _ (AL.rNeA _) (AL.Av.d (PySem.PyData.tuple [PySem.PyData.int _, PySem.PyData.int _])) (AL.Av.d (PySem.PyData.tuple [PySem.PyData.int _, PySem.PyData.int _])) _ _); first | refine AL.ra_or1 (AL.ra_neF ?_)) | ((with_reducible show AL.RA _ _ (AL.rInA _ true) (AL.Av.d _) (AL.Av.d (PySem.PyData.tuple [])) _ _); first | refine AL.ra_ninNil (by walk_at "shaped") ?_) | ((with_reducible show AL.RA _ _ (AL.rEqA _) _ _ _ _); first | refine AL.ra_or1 (AL.ra_eq (by rfl) (by rfl) (by walk_at "shaped") (by walk_at "shaped") ?_)) | ((with_reducible show AL.RA _ _ (AL.rNeA _) _ _ _ _); first | refine AL.ra_or1 (AL.ra_ne (by rfl) (by rfl) (by walk_at "shaped") (by walk_at "shaped") ?_)) | ((with_reducible show AL.RA _ _ _ (AL.Av.d (PySem.PyData.int _)) (AL.Av.d (PySem.PyData.int _)) _ _); first | refine AL.ra_add ?_ | refine AL.ra_sub ?_ | refine AL.ra_mul (by walk_at "mul") ?_ | refine AL.ra_mulS (by walk_at "mul") ?_ | refine AL.ra_fdiv (by walk_at "div") ?_ | refine AL.ra_mod (by walk_at "pos") ?_ | refine AL.ra_pow (by walk_at "pow") ?_ | refine AL.ra_B0 ?_) | ((with_reducible show AL.RA _ _ (AL.rInA _ false) (AL.Av.d (PySem.PyData.int _)) (AL.Av.d (PySem.PyData.tuple [PySem.PyData.int _, PySem.PyData.int _])) _ _); first | refine AL.ra_inA2 ?_) | ((with_reducible show AL.RA _ _ (AL.rInA _ true) (AL.Av.d (PySem.PyData.int _)) (AL.Av.d (PySem.PyData.tuple [PySem.PyData.int _, PySem.PyData.int _])) _ _); first | refine AL.ra_ninA2 ?_)))
local macro_rules | `(tactic| walk_at "GRC") => `(tactic| (first | ((with_reducible show AL.RC _ _ _ [AL.Av.d (PySem.PyData.list _)] _ _); first | refine AL.rc_lenL ?_) | ((with_reducible show AL.RC _ _ _ [AL.Av.d (PySem.PyData.tuple _)] _ _); first | refine AL.rc_lenT ?_) | ((with_reducible show AL.RC _ _ _ [AL.Av.d (PySem.PyData.str _)] _ _); first | refine AL.rc_lenS (by walk_at "len") ?_) | ((with_reducible show AL.RC _ _ _ [AL.Av.d (AL.scr _)] _ _); first | refine AL.rc_lenX ?_) | ((with_reducible show AL.RC _ _ _ [AL.Av.o _] _ _); first | refine AL.rc_lenO (by rfl) ?_)))
local macro_rules | `(tactic| walk_at "GEI") => `(tactic| (first | ((with_reducible show AL.EI _ _ _ (PySem.Expr.Call (PySem.Expr.Name "range" _) [_] [] _) _ _); first | refine AL.ei_range1 (by walk_at "bn") ?_) | ((with_reducible show AL.EI _ _ _ (PySem.Expr.Call (PySem.Expr.Name "range" _) [_, _] [] _) _ _); first | refine AL.ei_range2 (by walk_at "bn") ?_) | ((with_reducible show AL.EI _ _ _ (PySem.Expr.Call (PySem.Expr.Name "range" _) [_, _, _] [] _) _ _); first | refine AL.ei_down (by walk_at "bn") ?_) | ((with_reducible show AL.EI _ _ (PySem.Expr.Tuple _ _ _) (PySem.Expr.Call (PySem.Expr.Name "zip" _) [_, _] [] _) _ _); first | refine AL.ei_zip (by walk_at "bn") ?_) | ((with_reducible show AL.EI _ _ (PySem.Expr.Tuple _ _ _) (PySem.Expr.Call (PySem.Expr.Name "enumerate" _) [_] [] _) _ _); first | refine AL.ei_enum (by walk_at "bn") ?_)))
local macro_rules | `(tactic| walk_at "GAG") => `(tactic| (first | ((with_reducible show AL.AG _ _ (L2.gName _) (AL.Av.d _) _ _); first | refine AL.ag_d (by walk_at "se") ?_) | ((with_reducible show AL.AG _ _ (L2.gName _) (AL.Av.v _) _ _); first | refine AL.ag_v (by walk_at "se") ?_) | ((with_reducible show AL.AG _ _ (L2.gName _) (AL.Av.o _) _ _); first | refine AL.ag_o (by rfl) (by walk_at "se") (by walk_at "se") ?_)))
local macro_rules | `(tactic| walk_at "GEG") => `(tactic| (first | ((with_reducible show AL.EG _ _ (PySem.Expr.Name _ _) (AL.Av.d _) _ _); first | refine AL.eg_d (by walk_at "lc") (by walk_at "se") ?_) | ((with_reducible show AL.EG _ _ (PySem.Expr.Name _ _) (AL.Av.o _) _ _); first | refine AL.eg_o (by walk_at "lc") (by rfl) (by walk_at "se") (by walk_at "se") ?_) | ((with_reducible show AL.EG _ _ (PySem.Expr.Tuple _ _ _) (AL.Av.d (PySem.PyData.tuple _)) _ _); first | refine AL.eg_tup (by walk_at "calm") (by rfl) ?_)))
local macro_rules | `(tactic| walk_at "GEGs") => `(tactic| (first | ((with_reducible show AL.EGs _ _ [] [] _ _); first | refine AL.egs_nil ?_) | ((with_reducible show AL.EGs _ _ (_ :: _) (_ :: _) _ _); first | refine AL.egs_cons ?_)))
local macro_rules | `(tactic| walk_at "GEGv") => `(tactic| (first | ((with_reducible show AL.EGv _ _ _ (PySem.Expr.Name _ _) (AL.Av.d _) _ _); first | refine AL.egv_d (by walk_at "lc") (by decide) (by walk_at "se") ?_) | ((with_reducible show AL.EGv _ _ _ (PySem.Expr.Tuple _ _ _) (AL.Av.d (PySem.PyData.tuple _)) _ _); first | refine AL.egv_tup (by walk_at "calm") (by rfl) ?_)))
local macro_rules | `(tactic| walk_at "GEGsv") => `(tactic| (first | ((with_reducible show AL.EGsv _ _ _ [] [] _ _); first | refine AL.egsv_nil ?_) | ((with_reducible show AL.EGsv _ _ _ (_ :: _) (_ :: _) _ _); first | refine AL.egsv_cons ?_)))
local macro_rules | `(tactic| walk_at "GESs") => `(tactic| (first | ((with_reducible show AL.ESs _ _ [] _ _); first | refine AL.ess_nil ?_) | ((with_reducible show AL.ESs _ _ [_] _ _); first | refine AL.ess_one ?_) | ((with_reducible show AL.ESs _ _ (_ :: _) _ _); first | refine AL.ess_cons ?_)))
local macro_rules | `(tactic| walk_at "GES.Return") => `(tactic| (first | ((with_reducible show AL.ES _ _ (PySem.Stmt.Return (some (PySem.Expr.Name _ _)) _) _ _); first | refine AL.es_ret ?_) | ((with_reducible show AL.ES _ _ (PySem.Stmt.Return (some (PySem.Expr.Subscript _ _ _)) _) _ _); first | refine AL.es_ret ?_) | ((with_reducible show AL.ES _ _ (PySem.Stmt.Return (some (PySem.Expr.Call _ _ _ _)) _) _ _); first | refine AL.es_ret ?_) | ((with_reducible show AL.ES _ _ (PySem.Stmt.Return (some (PySem.Expr.BinOp _ _ _ _)) _) _ _); first | refine AL.es_ret ?_) | ((with_reducible show AL.ES _ _ (PySem.Stmt.Return (some (PySem.Expr.Tuple _ _ _)) _) _ _); first | refine AL.es_ret ?_) | ((with_reducible show AL.ES _ _ (PySem.Stmt.Return (some (PySem.Expr.Constant _ _ _)) _) _ _); first | refine AL.es_ret ?_) | ((with_reducible show AL.ES _ _ (PySem.Stmt.Return (some (PySem.Expr.Compare _ _ _ _)) _) _ _); first | refine AL.es_ret ?_) | ((with_reducible show AL.ES _ _ (PySem.Stmt.Return (some (PySem.Expr.BoolOp _ _ _)) _) _ _); first | refine AL.es_ret ?_) | ((with_reducible show AL.ES _ _ (PySem.Stmt.Return (some (PySem.Expr.IfExp _ _ _ _)) _) _ _); first | refine AL.es_ret ?_) | ((with_reducible show AL.ES _ _ (PySem.Stmt.Return (some (PySem.Expr.UnaryOp _ _ _)) _) _ _); first | refine AL.es_ret ?_)))
local macro_rules | `(tactic| walk_at "GES.Pass") => `(tactic| (first | ((with_reducible show AL.ES _ _ (PySem.Stmt.Pass _) _ _); first | refine AL.es_pass ?_)))
local macro_rules | `(tactic| walk_at "GES.If") => `(tactic| (first | ((with_reducible show AL.ES _ _ (PySem.Stmt.If _ _ _ _) _ _); first | refine AL.es_if ?_)))
local macro_rules | `(tactic| walk_at "GES.Expr") => `(tactic| (first | ((with_reducible show AL.ES _ _ (PySem.Stmt.Expr _ _) _ _); first | refine AL.es_expr ?_)))
local macro_rules | `(tactic| walk_at "GES.Assign") => `(tactic| (first | ((with_reducible show AL.ES _ _ (PySem.Stmt.Assign [PySem.Expr.Tuple [PySem.Expr.Name _ _, PySem.Expr.Name _ _] _ _] (PySem.Expr.Tuple [_, _] _ _) _) _ _); first | refine AL.es_par (by walk_at "calm") (by walk_at "lc") (by walk_at "lc") (by decide) (by walk_at "look") (by walk_at "look") ?_ (by walk_at "swap")) | ((with_reducible show AL.ES _ _ (PySem.Stmt.Assign [PySem.Expr.Name _ _] (PySem.Expr.Call (PySem.Expr.Name "list" _) [_] [] _) _) _ _); first | refine AL.es_setN (by walk_at "lc") (AL.en_list (by walk_at "bn") ?_)) | ((with_reducible show AL.ES _ _ (PySem.Stmt.Assign [PySem.Expr.Name _ _] (PySem.Expr.List _ _) _) _ _); first | refine AL.es_setN (by walk_at "lc") ?_) | ((with_reducible show AL.ES _ _ (PySem.Stmt.Assign [PySem.Expr.Name _ _] (PySem.Expr.Call (PySem.Expr.Name _ _) (_ :: _) [] _) _) _ _); first | refine AL.es_setN (by walk_at "lc") (AL.en_call (by walk_at "cal") (by walk_at "room") (by walk_at "gn") ?_) | refine AL.es_setN (by walk_at "lc") (AL.en_callG (by walk_at "calG") (by walk_at "hT") (by walk_at "room") (by walk_at "hgd") (by walk_at "gn") ?_)) | ((with_reducible show AL.ES _ _ (PySem.Stmt.Assign [PySem.Expr.Name _ _] (PySem.Expr.Call (PySem.Expr.Name _ _) (_ :: _) (_ :: _) _) _) _ _); first | refine AL.es_setN (by walk_at "lc") (AL.en_callK (by walk_at "calK") (by walk_at "room") (by walk_at "gn") ?_)) | ((with_reducible show AL.ES _ _ (PySem.Stmt.Assign [PySem.Expr.Name _ _] (PySem.Expr.Call (PySem.Expr.Name _ _) [] (_ :: _) _) _) _ _); first | refine AL.es_setN (by walk_at "lc") (AL.en_callK0 (by walk_at "calK") (by walk_at "room") (by walk_at "gn") ?_)) | ((with_reducible show AL.ES _ _ (PySem.Stmt.Assign [PySem.Expr.Name _ _] (PySem.Expr.Name _ _) _) _ _); first | refine AL.es_set (by walk_at "lc") ?_) | ((with_reducible show AL.ES _ _ (PySem.Stmt.Assign [PySem.Expr.Name _ _] (PySem.Expr.Subscript _ _ _) _) _ _); first | refine AL.es_set (by walk_at "lc") ?_) | ((with_reducible show AL.ES _ _ (PySem.Stmt.Assign [PySem.Expr.Name _ _] (PySem.Expr.Call _ _ _ _) _) _ _); first | refine AL.es_set (by walk_at "lc") ?_) | ((with_reducible show AL.ES _ _ (PySem.Stmt.Assign [PySem.Expr.Name _ _] (PySem.Expr.BinOp _ _ _ _) _) _ _); first | refine AL.es_set (by walk_at "lc") ?_) | ((with_reducible show AL.ES _ _ (PySem.Stmt.Assign [PySem.Expr.Name _ _] (PySem.Expr.Tuple _ _ _) _) _ _); first | refine AL.es_set (by walk_at "lc") ?_) | ((with_reducible show AL.ES _ _ (PySem.Stmt.Assign [PySem.Expr.Name _ _] (PySem.Expr.Constant _ _ _) _) _ _); first | refine AL.es_set (by walk_at "lc") ?_) | ((with_reducible show AL.ES _ _ (PySem.Stmt.Assign [PySem.Expr.Name _ _] (PySem.Expr.Compare _ _ _ _) _) _ _); first | refine AL.es_set (by walk_at "lc") ?_) | ((with_reducible show AL.ES _ _ (PySem.Stmt.Assign [PySem.Expr.Name _ _] (PySem.Expr.BoolOp _ _ _) _) _ _); first | refine AL.es_set (by walk_at "lc") ?_) | ((with_reducible show AL.ES _ _ (PySem.Stmt.Assign [PySem.Expr.Name _ _] (PySem.Expr.IfExp _ _ _ _) _) _ _); first | refine AL.es_set (by walk_at "lc") ?_) | ((with_reducible show AL.ES _ _ (PySem.Stmt.Assign [PySem.Expr.Name _ _] (PySem.Expr.UnaryOp _ _ _) _) _ _); first | refine AL.es_set (by walk_at "lc") ?_) | ((with_reducible show AL.ES _ _ (PySem.Stmt.Assign [PySem.Expr.Tuple _ _ _] _ _) _ _); first | refine AL.es_asg ?_) | ((with_reducible show AL.ES _ _ (PySem.Stmt.Assign [PySem.Expr.Subscript _ _ _] _ _) _ _); first | refine AL.es_setIx ?_)))
local macro_rules | `(tactic| walk_at "GES.AugAssign") => `(tactic| (first | ((with_reducible show AL.ES _ _ (PySem.Stmt.AugAssign (PySem.Expr.Name _ _) PySem.Operator.Add _ _) _ _); first | refine AL.es_augAdd (by walk_at "lc") (by rfl) ?_) | ((with_reducible show AL.ES _ _ (PySem.Stmt.AugAssign (PySem.Expr.Name _ _) PySem.Operator.Sub _ _) _ _); first | refine AL.es_augSub (by walk_at "lc") (by rfl) ?_) | ((with_reducible show AL.ES _ _ (PySem.Stmt.AugAssign (PySem.Expr.Name _ _) PySem.Operator.FloorDiv _ _) _ _); first | refine AL.es_augDiv (by walk_at "lc") (by rfl) ?_) | ((with_reducible show AL.ES _ _ (PySem.Stmt.AugAssign (PySem.Expr.Name _ _) PySem.Operator.Mult _ _) _ _); first | refine AL.es_augMul (by walk_at "lc") (by rfl) ?_)))
local macro_rules | `(tactic| walk_at "GES.Break") => `(tactic| (first | ((with_reducible show AL.ES _ _ (PySem.Stmt.Break _) _ _); first | refine AL.es_break ?_)))
local macro_rules | `(tactic| walk_at "GES.Continue") => `(tactic| (first | ((with_reducible show AL.ES _ _ (PySem.Stmt.Continue _) _ _); first | refine AL.es_continue ?_)))
local macro_rules | `(tactic| walk_at "GES") => `(tactic| (first | ((with_reducible show AL.ES _ _ (PySem.Stmt.Return _ _) _ _); walk_at "GES.Return") | ((with_reducible show AL.ES _ _ (PySem.Stmt.Pass _) _ _); walk_at "GES.Pass") | ((with_reducible show AL.ES _ _ (PySem.Stmt.If _ _ _ _) _ _); walk_at "GES.If") | ((with_reducible show AL.ES _ _ (PySem.Stmt.Expr _ _) _ _); walk_at "GES.Expr") | ((with_reducible show AL.ES _ _ (PySem.Stmt.Assign _ _ _) _ _); walk_at "GES.Assign") | ((with_reducible show AL.ES _ _ (PySem.Stmt.AugAssign _ _ _ _) _ _); walk_at "GES.AugAssign") | ((with_reducible show AL.ES _ _ (PySem.Stmt.Break _) _ _); walk_at "GES.Break") | ((with_reducible show AL.ES _ _ (PySem.Stmt.Continue _) _ _); walk_at "GES.Continue")))
local macro_rules | `(tactic| walk_at "GBR") => `(tactic| (first | ((with_reducible show AL.BR true _ _); first | refine AL.br_t ?_) | ((with_reducible show AL.BR false _ _); first | refine AL.br_f ?_) | ((with_reducible show AL.BR (Decidable.decide _) _ _); first | refine AL.br_d (fun _ => ?_) (fun _ => ?_)) | ((with_reducible show AL.BR (!Decidable.decide _) _ _); first | refine AL.br_not (fun _ => ?_) (fun _ => ?_)) | ((with_reducible show AL.BR _ _ _); first | refine AL.BR.byt (by first | assumption | rfl | decide +kernel) ?_ | refine AL.BR.byf (by first | assumption | rfl | decide +kernel) ?_)))
local macro_rules | `(tactic| walk_at "text") => `(tactic| (conv => arg 3; whnf))
local macro_rules | `(tactic| walk_at "env") => `(tactic| (conv => arg 4; simp only [List.map_cons, List.map_nil, AL.entOf, List.cons_append, List.nil_append, List.length_cons, List.length_nil, Nat.reduceAdd, Nat.reduceSub, List.replicate_succ, List.replicate_zero, Nat.zero_add]))
local macro_rules | `(tactic| walk_at "s") => `(tactic| (first | ((with_reducible show AL.EE _ _ _ _ _); walk_at "GEE") | ((with_reducible show AL.ET _ _ _ _ _); walk_at "GET") | ((with_reducible show AL.EW _ _ _ _ _); walk_at "GEW") | ((with_reducible show AL.ETs _ _ _ _ _); walk_at "GETs") | ((with_reducible show AL.EA _ _ _ _ _); walk_at "GEA") | ((with_reducible show AL.EK _ _ _ _ _); walk_at "GEK") | ((with_reducible show AL.EN _ _ _ _ _); walk_at "GEN") | ((with_reducible show AL.RA _ _ _ _ _ _ _); walk_at "GRA") | ((with_reducible show AL.RC _ _ _ _ _ _); walk_at "GRC") | ((with_reducible show AL.EI _ _ _ _ _ _); walk_at "GEI") | ((with_reducible show AL.AG _ _ _ _ _ _); walk_at "GAG") | ((with_reducible show AL.EG _ _ _ _ _ _); walk_at "GEG") | ((with_reducible show AL.EGs _ _ _ _ _ _); walk_at "GEGs") | ((with_reducible show AL.EGv _ _ _ _ _ _ _); walk_at "GEGv") | ((with_reducible show AL.EGsv _ _ _ _ _ _ _); walk_at "GEGsv") | ((with_reducible show AL.ESs _ _ _ _ _); walk_at "GESs") | ((with_reducible show AL.ES _ _ _ _ _); walk_at "GES") | ((with_reducible show AL.BR _ _ _); walk_at "GBR") | ((with_reducible show AL.Bk _ _ _); intro _ _ _ _ _) | ((with_reducible show AL.Turns _ _ _ _ _ _ _ _ _ _ _); unfold AL.Turns) | ((with_reducible show AL.EI _ _ _ (PySem.Expr.Name _ _) _ _); first | (refine AL.ei_list ?_; walk_at "s"; refine AL.lf_iL (by walk_at "fz") ?_) | (refine AL.ei_tup ?_; walk_at "s"; refine ⟨_, rfl, ?_⟩)) | ((with_reducible show AL.EI _ _ _ (PySem.Expr.Call _ _ _ _) _ _); refine AL.ei_list ?_) | ((with_reducible show AL.Ae.nx _ _); refine AL.nx_mk ?_) | ((with_reducible show AL.Ae.rt _ _ _); refine AL.rt_mk ?_) | ((with_reducible show AL.Ae.bk _ _); refine AL.bk_mk ?_) | ((with_reducible show AL.Ae.ct _ _); refine AL.ct_mk ?_) | ((with_reducible show AL.Ae.rn _ _ _); refine AL.rn_mk ?_) | ((with_reducible show AL.Ret _ (AL.Av.d _) _); refine AL.ret_d ?_) | ((with_reducible show Exists _); walk_at "leaf") | ((with_reducible show _ ∧ _); walk_at "leaf")))
local macro_rules | `(tactic| walk_at "go") => `(tactic| (repeat' (walk_at "s")))
/-! ### is_integer -/
def isInt : PyData → Bool
  | .int _ => true
  | _ => false
abbrev N_is_integer : List Str := ["value"]
theorem sc_is_integer : FnScope N_is_integer ["value"] (defScope s_is_integer) := ⟨rfl, rfl, rfl, by decide +kernel, rfl, by decide +kernel, by decide +kernel⟩
def S_is_integer : Con := fun as r => ∃ d, notD d = true ∧ as = [.d d] ∧ r = .bool (isInt d)
theorem ok_is_integer {P : Program} {w : World} {K : PySem.W.Frag} {mg : Str → Option Value} {base : Heap} {f : Addr} {fd : FuncData} (FD : FnP K "is_integer" s_is_integer f fd) (b_isinstance : mg "isinstance" = none) (b_int : mg "int" = none) (b_bool : mg "bool" = none) : FnOk P w K mg base CX0 1 f fd ["value"] (spR K 1 S_is_integer) := by
  refine fn_ok FD sc_is_integer rfl ?_
  intro X e1 e2 e3 e4 e5 hp F C as r hS hl hW
  subst e1 e2 e3 e4 e5
  obtain ⟨d, nd, rfl, rfl⟩ := hS
  have n0 : Nm X 0 "value" := F.nm (by decide +kernel)
  have z_isinstance : Bn X "isinstance" := F.bn (by decide +kernel) b_isinstance
  have z_int : Bn X "int" := F.bn (by decide +kernel) b_int
  have z_bool : Bn X "bool" := F.bn (by decide +kernel) b_bool
  walk_at "text"
  walk_at "env"
  cases d <;> (walk_at "go")
  all_goals first | rfl | (cases nd; done) | skip
local macro_rules | `(tactic| walk_at "con") => `(tactic| ((with_reducible show S_is_integer _ _); unfold S_is_integer; exact ⟨_, by walk_at "nd", rfl, rfl⟩))
/-! ### in_range -/
def inRg : PyData → Int → Int → Bool
  | .int i, lo, hi => decide (lo ≤ i) && decide (i ≤ hi)
  | _, _, _ => false
abbrev N_in_range : List Str := ["value", "least", "most"]
theorem sc_in_range : FnScope N_in_range ["value", "least", "most"] (defScope s_in_range) := ⟨rfl, rfl, rfl, by decide +kernel, rfl, by decide +kernel, by decide +kernel⟩
def S_in_range : Con := fun as r => ∃ d lo hi, notD d = true ∧ as = [.d d, .d (.int lo), .d (.int hi)] ∧ r = .bool (inRg d lo hi)
theorem ok_in_range {P : Program} {w : World} {K : PySem.W.Frag} {mg : Str → Option Value} {base : Heap} {f : Addr} {fd : FuncData} (FD : FnP K "in_range" s_in_range f fd) (c_is_integer : Callable P w K mg base "is_integer" 1 (spR K 1 S_is_integer)) : FnOk P w K mg base CX0 2 f fd ["value", "least", "most"] (spR K 3 S_in_range) := by
  refine fn_ok FD sc_in_range rfl ?_
  intro X e1 e2 e3 e4 e5 hp F C as r hS hl hW
  subst e1 e2 e3 e4 e5
  obtain ⟨d, lo, hi, nd, rfl, rfl⟩ := hS
  have n0 : Nm X 0 "value" := F.nm (by decide +kernel)
  have n1 : Nm X 1 "least" := F.nm (by decide +kernel)
  have n2 : Nm X 2 "most" := F.nm (by decide +kernel)
  have g_is_integer : Gn X "is_integer" := F.gn (by decide +kernel)
  have d_is_integer : Cal X "is_integer" 1 (spR X.K 1 S_is_integer) := c_is_integer.mono (by decide)
  walk_at "text"
  walk_at "env"
  cases d <;> (walk_at "go")
  all_goals first | rfl | (simp [inRg]; omega) | (cases nd; done) | (simp_all [inRg])
local macro_rules | `(tactic| walk_at "con") => `(tactic| ((with_reducible show S_in_range _ _); unfold S_in_range; exact ⟨_, _, _, by walk_at "nd", rfl, rfl⟩))
/-! ### gcd -/
abbrev N_gcd : List Str := ["one", "other"]
theorem sc_gcd : FnScope N_gcd ["one", "other"] (defScope s_gcd) := ⟨rfl, rfl, rfl, by decide +kernel, rfl, by decide +kernel, by decide +kernel⟩
def S_gcd : Con := fun as r => ∃ a b : Int, as = [.d (.int a), .d (.int b)] ∧ r = .int (Int.gcd a b)
theorem ok_gcd {P : Program} {w : World} {K : PySem.W.Frag} {mg : Str → Option Value} {base : Heap} {f : Addr} {fd : FuncData} (FD : FnP K "gcd" s_gcd f fd) (b_abs : mg "abs" = none) : FnOk P w K mg base CX0 1 f fd ["one", "other"] (spR K 2 S_gcd) := by
  refine fn_ok FD sc_gcd rfl ?_
  intro X e1 e2 e3 e4 e5 hp F C as r hS hl hW
  subst e1 e2 e3 e4 e5
  obtain ⟨a, b, rfl, rfl⟩ := hS
  have n0 : Nm X 0 "one" := F.nm (by decide +kernel)
  have l0 : Lc X 0 "one" := F.lc (by decide +kernel)
  have n1 : Nm X 1 "other" := F.nm (by decide +kernel)
  have l1 : Lc X 1 "other" := F.lc (by decide +kernel)
  have z_abs : Bn X "abs" := F.bn (by decide +kernel) b_abs
  walk_at "text"
  walk_at "env"
  walk_at "go"
  refine AL.es_while hp (fun m g => ∃ x y : Nat, g = [.im (.int x), .im (.int y)] ∧ x.gcd y = a.gcd b ∧ m = y) ⟨_, a.natAbs, b.natAbs, by rw [AL.abs_if, AL.abs_if], rfl, rfl⟩ ?_
  rintro m g ⟨x, y, rfl, e, rfl⟩
  walk_at "go"
  · have hm : m = 0 := by omega
    subst hm
    rw [Nat.gcd_zero_right] at e
    rw [e]
  · refine ⟨x % m, Nat.mod_lt _ (by omega), m, x % m, by rw [Int.natCast_emod], ?_, rfl⟩
    rw [Nat.gcd_comm, ← Nat.gcd_rec, Nat.gcd_comm]; exact e
local macro_rules | `(tactic| walk_at "con") => `(tactic| ((with_reducible show S_gcd _ _); unfold S_gcd; exact ⟨_, _, rfl, rfl⟩))
/-! ### is_fraction -/
abbrev N_is_fraction : List Str := ["value"]
theorem sc_is_fraction : FnScope N_is_fraction ["value"] (defScope s_is_fraction) := ⟨rfl, rfl, rfl, by decide +kernel, rfl, by decide +kernel, by decide +kernel⟩
def S_is_fraction : Con := fun as r => ∃ q : Rat, as = [.d (fr q)] ∧ r = .bool true
theorem ok_is_fraction {P : Program} {w : World} {K : PySem.W.Frag} {mg : Str → Option Value} {base : Heap} {f : Addr} {fd : FuncData} (FD : FnP K "is_fraction" s_is_fraction f fd) (c_is_integer : Callable P w K mg base "is_integer" 1 (spR K 1 S_is_integer)) (c_gcd : Callable P w K mg base "gcd" 1 (spR K 2 S_gcd)) (b_isinstance : mg "isinstance" = none) (b_tuple : mg "tuple" = none) (b_len : mg "len" = none) : FnOk P w K mg base CX0 2 f fd ["value"] (spR K 1 S_is_fraction) := by
  refine fn_ok FD sc_is_fraction rfl ?_
  intro X e1 e2 e3 e4 e5 hp F C as r hS hl hW
  subst e1 e2 e3 e4 e5
  obtain ⟨q, rfl, rfl⟩ := hS
  have hd := den_pos q
  have hg : ((Int.gcd q.num q.den : Nat) : Int) = 1 := by have := q.reduced; show ((Nat.gcd q.num.natAbs q.den : Nat) : Int) = 1; rw [this]; rfl
  have n0 : Nm X 0 "value" := F.nm (by decide +kernel)
  have g_is_integer : Gn X "is_integer" := F.gn (by decide +kernel)
  have g_gcd : Gn X "gcd" := F.gn (by decide +kernel)
  have d_is_integer : Cal X "is_integer" 1 (spR X.K 1 S_is_integer) := c_is_integer.mono (by decide)
  have d_gcd : Cal X "gcd" 1 (spR X.K 2 S_gcd) := c_gcd.mono (by decide)
  have z_isinstance : Bn X "isinstance" := F.bn (by decide +kernel) b_isinstance
  have z_tuple : Bn X "tuple" := F.bn (by decide +kernel) b_tuple
  have z_len : Bn X "len" := F.bn (by decide +kernel) b_len
  walk_at "text"
  walk_at "env"
  walk_at "go"
  · rw [decide_eq_true hg]
  · exact absurd hd (by assumption)
  · exact absurd (show (([PyData.none, PyData.none] : List PyData).length : Int) = 2 from rfl) (by assumption)
local macro_rules | `(tactic| walk_at "con") => `(tactic| ((with_reducible show S_is_fraction _ _); unfold S_is_fraction; exact ⟨_, rfl, rfl⟩))
/-! ### reduced -/
abbrev N_reduced : List Str := ["top", "bottom", "both"]
theorem sc_reduced : FnScope N_reduced ["top", "bottom"] (defScope s_reduced) := ⟨rfl, rfl, rfl, by decide +kernel, rfl, by decide +kernel, by decide +kernel⟩
def S_reduced : Con := fun as r => ∃ a b : Int, as = [.d (.int a), .d (.int b)] ∧ 0 < b ∧ Bt 8999 b ∧ r = fr (Rat.divInt a b)
theorem ok_reduced {P : Program} {w : World} {K : PySem.W.Frag} {mg : Str → Option Value} {base : Heap} {f : Addr} {fd : FuncData} (FD : FnP K "reduced" s_reduced f fd) (c_gcd : Callable P w K mg base "gcd" 1 (spR K 2 S_gcd)) : FnOk P w K mg base CX0 2 f fd ["top", "bottom"] (spR K 2 S_reduced) := by
  refine fn_ok FD sc_reduced rfl ?_
  intro X e1 e2 e3 e4 e5 hp F C as r hS hl hW
  subst e1 e2 e3 e4 e5
  obtain ⟨a, b, rfl, hb, hz, rfl⟩ := hS
  have h1 := gcd_pos (a := a) hb
  have h2 := Bt.gcd (a := a) hz hb
  have n0 : Nm X 0 "top" := F.nm (by decide +kernel)
  have n1 : Nm X 1 "bottom" := F.nm (by decide +kernel)
  have n2 : Nm X 2 "both" := F.nm (by decide +kernel)
  have l2 : Lc X 2 "both" := F.lc (by decide +kernel)
  have g_gcd : Gn X "gcd" := F.gn (by decide +kernel)
  have d_gcd : Cal X "gcd" 1 (spR X.K 2 S_gcd) := c_gcd.mono (by decide)
  walk_at "text"
  walk_at "env"
  walk_at "go"
  exact fr_mk a b hb
local macro_rules | `(tactic| walk_at "con") => `(tactic| ((with_reducible show S_reduced _ _); unfold S_reduced; exact ⟨_, _, rfl, by walk_at "pf", by walk_at "pf", rfl⟩))
/-! ### fraction_sum -/
abbrev N_fraction_sum : List Str := ["one", "other"]
theorem sc_fraction_sum : FnScope N_fraction_sum ["one", "other"] (defScope s_fraction_sum) := ⟨rfl, rfl, rfl, by decide +kernel, rfl, by decide +kernel, by decide +kernel⟩
def S_fraction_sum : Con := fun as r => ∃ a b c d : Int, as = [.d (.tuple [.int a, .int b]), .d (.tuple [.int c, .int d])] ∧ (0 < b ∧ 0 < d) ∧ (Bt 4400 a ∧ Bt 4400 b) ∧ (Bt 4400 c ∧ Bt 4400 d) ∧ r = fr (Rat.divInt (a * d + c * b) (b * d))
theorem ok_fraction_sum {P : Program} {w : World} {K : PySem.W.Frag} {mg : Str → Option Value} {base : Heap} {f : Addr} {fd : FuncData} (FD : FnP K "fraction_sum" s_fraction_sum f fd) (c_reduced : Callable P w K mg base "reduced" 2 (spR K 2 S_reduced)) : FnOk P w K mg base CX0 3 f fd ["one", "other"] (spR K 2 S_fraction_sum) := by
  refine fn_ok FD sc_fraction_sum rfl ?_
  intro X e1 e2 e3 e4 e5 hp F C as r hS hl hW
  subst e1 e2 e3 e4 e5
  obtain ⟨a, b, c, d, rfl, ⟨hb, hd⟩, ⟨z1, z2⟩, ⟨z3, z4⟩, rfl⟩ := hS
  have h1 : 0 < b * d := Int.mul_pos hb hd
  have h2 : Bt 8999 (b * d) := (z2.mul z4).mono (by decide)
  have n0 : Nm X 0 "one" := F.nm (by decide +kernel)
  have n1 : Nm X 1 "other" := F.nm (by decide +kernel)
  have g_reduced : Gn X "reduced" := F.gn (by decide +kernel)
  have d_reduced : Cal X "reduced" 2 (spR X.K 2 S_reduced) := c_reduced.mono (by decide)
  walk_at "text"
  walk_at "env"
  walk_at "go"
  rfl
local macro_rules | `(tactic| walk_at "con") => `(tactic| ((with_reducible show S_fraction_sum _ _); unfold S_fraction_sum; exact ⟨_, _, _, _, rfl, ⟨by walk_at "pf", by walk_at "pf"⟩, ⟨by walk_at "pf", by walk_at "pf"⟩, ⟨by walk_at "pf", by walk_at "pf"⟩, rfl⟩))
/-! ### fraction_difference -/
abbrev N_fraction_difference : List Str := ["one", "other"]
theorem sc_fraction_difference : FnScope N_fraction_difference ["one", "other"] (defScope s_fraction_difference) := ⟨rfl, rfl, rfl, by decide +kernel, rfl, by decide +kernel, by decide +kernel⟩
def S_fraction_difference : Con := fun as r => ∃ a b c d : Int, as = [.d (.tuple [.int a, .int b]), .d (.tuple [.int c, .int d])] ∧ (0 < b ∧ 0 < d) ∧ (Bt 4400 a ∧ Bt 4400 b) ∧ (Bt 4400 c ∧ Bt 4400 d) ∧ r = fr (Rat.divInt (a * d - c * b) (b * d))
theorem ok_fraction_difference {P : Program} {w : World} {K : PySem.W.Frag} {mg : Str → Option Value} {base : Heap} {f : Addr} {fd : FuncData} (FD : FnP K "fraction_difference" s_fraction_difference f fd) (c_reduced : Callable P w K mg base "reduced" 2 (spR K 2 S_reduced)) : FnOk P w K mg base CX0 3 f fd ["one", "other"] (spR K 2 S_fraction_difference) := by
  refine fn_ok FD sc_fraction_difference rfl ?_
  intro X e1 e2 e3 e4 e5 hp F C as r hS hl hW
  subst e1 e2 e3 e4 e5
  obtain ⟨a, b, c, d, rfl, ⟨hb, hd⟩, ⟨z1, z2⟩, ⟨z3, z4⟩, rfl⟩ := hS
  have h1 : 0 < b * d := Int.mul_pos hb hd
  have h2 : Bt 8999 (b * d) := (z2.mul z4).mono (by decide)
  have n0 : Nm X 0 "one" := F.nm (by decide +kernel)
  have n1 : Nm X 1 "other" := F.nm (by decide +kernel)
  have g_reduced : Gn X "reduced" := F.gn (by decide +kernel)
  have d_reduced : Cal X "reduced" 2 (spR X.K 2 S_reduced) := c_reduced.mono (by decide)
  walk_at "text"
  walk_at "env"
  walk_at "go"
  rfl
local macro_rules | `(tactic| walk_at "con") => `(tactic| ((with_reducible show S_fraction_difference _ _); unfold S_fraction_difference; exact ⟨_, _, _, _, rfl, ⟨by walk_at "pf", by walk_at "pf"⟩, ⟨by walk_at "pf", by walk_at "pf"⟩, ⟨by walk_at "pf", by walk_at "pf"⟩, rfl⟩))
/-! ### fraction_product -/
abbrev N_fraction_product : List Str := ["one", "other"]
theorem sc_fraction_product : FnScope N_fraction_product ["one", "other"] (defScope s_fraction_product) := ⟨rfl, rfl, rfl, by decide +kernel, rfl, by decide +kernel, by decide +kernel⟩
def S_fraction_product : Con := fun as r => ∃ a b c d : Int, as = [.d (.tuple [.int a, .int b]), .d (.tuple [.int c, .int d])] ∧ (0 < b ∧ 0 < d) ∧ (Bt 4400 a ∧ Bt 4400 b) ∧ (Bt 4400 c ∧ Bt 4400 d) ∧ r = fr (Rat.divInt (a * c) (b * d))
theorem ok_fraction_product {P : Program} {w : World} {K : PySem.W.Frag} {mg : Str → Option Value} {base : Heap} {f : Addr} {fd : FuncData} (FD : FnP K "fraction_product" s_fraction_product f fd) (c_reduced : Callable P w K mg base "reduced" 2 (spR K 2 S_reduced)) : FnOk P w K mg base CX0 3 f fd ["one", "other"] (spR K 2 S_fraction_product) := by
  refine fn_ok FD sc_fraction_product rfl ?_
  intro X e1 e2 e3 e4 e5 hp F C as r hS hl hW
  subst e1 e2 e3 e4 e5
  obtain ⟨a, b, c, d, rfl, ⟨hb, hd⟩, ⟨z1, z2⟩, ⟨z3, z4⟩, rfl⟩ := hS
  have h1 : 0 < b * d := Int.mul_pos hb hd
  have h2 : Bt 8999 (b * d) := (z2.mul z4).mono (by decide)
  have n0 : Nm X 0 "one" := F.nm (by decide +kernel)
  have n1 : Nm X 1 "other" := F.nm (by decide +kernel)
  have g_reduced : Gn X "reduced" := F.gn (by decide +kernel)
  have d_reduced : Cal X "reduced" 2 (spR X.K 2 S_reduced) := c_reduced.mono (by decide)
  walk_at "text"
  walk_at "env"
  walk_at "go"
  rfl
local macro_rules | `(tactic| walk_at "con") => `(tactic| ((with_reducible show S_fraction_product _ _); unfold S_fraction_product; exact ⟨_, _, _, _, rfl, ⟨by walk_at "pf", by walk_at "pf"⟩, ⟨by walk_at "pf", by walk_at "pf"⟩, ⟨by walk_at "pf", by walk_at "pf"⟩, rfl⟩))
/-! ### is_lower -/
abbrev N_is_lower : List Str := ["one", "other"]
theorem sc_is_lower : FnScope N_is_lower ["one", "other"] (defScope s_is_lower) := ⟨rfl, rfl, rfl, by decide +kernel, rfl, by decide +kernel, by decide +kernel⟩
def S_is_lower : Con := fun as r => ∃ a b c d : Int, as = [.d (.tuple [.int a, .int b]), .d (.tuple [.int c, .int d])] ∧ (Bt 4400 a ∧ Bt 4400 b) ∧ (Bt 4400 c ∧ Bt 4400 d) ∧ r = .bool (decide (a * d < c * b))
theorem ok_is_lower {P : Program} {w : World} {K : PySem.W.Frag} {mg : Str → Option Value} {base : Heap} {f : Addr} {fd : FuncData} (FD : FnP K "is_lower" s_is_lower f fd) : FnOk P w K mg base CX0 1 f fd ["one", "other"] (spR K 2 S_is_lower) := by
  refine fn_ok FD sc_is_lower rfl ?_
  intro X e1 e2 e3 e4 e5 hp F C as r hS hl hW
  subst e1 e2 e3 e4 e5
  obtain ⟨a, b, c, d, rfl, ⟨z1, z2⟩, ⟨z3, z4⟩, rfl⟩ := hS
  have n0 : Nm X 0 "one" := F.nm (by decide +kernel)
  have n1 : Nm X 1 "other" := F.nm (by decide +kernel)
  walk_at "text"
  walk_at "env"
  walk_at "go"
  rfl
local macro_rules | `(tactic| walk_at "con") => `(tactic| ((with_reducible show S_is_lower _ _); unfold S_is_lower; exact ⟨_, _, _, _, rfl, ⟨by walk_at "pf", by walk_at "pf"⟩, ⟨by walk_at "pf", by walk_at "pf"⟩, rfl⟩))
/-! ### total_of -/
abbrev N_total_of : List Str := ["shares", "found", "share"]
theorem sc_total_of : FnScope N_total_of ["shares"] (defScope s_total_of) := ⟨rfl, rfl, rfl, by decide +kernel, rfl, by decide +kernel, by decide +kernel⟩
def S_total_of : Con := fun as r => ∃ l : List Rat, as = [.d (.list (l.map fr))] ∧ (∀ i, Rb 4390 (sumTo l i)) ∧ (∀ q ∈ l, Rb 4390 q) ∧ r = fr (l.foldl (· + ·) 0)
theorem ok_total_of {P : Program} {w : World} {K : PySem.W.Frag} {mg : Str → Option Value} {base : Heap} {f : Addr} {fd : FuncData} (FD : FnP K "total_of" s_total_of f fd) (c_fraction_sum : Callable P w K mg base "fraction_sum" 3 (spR K 2 S_fraction_sum)) : FnOk P w K mg base CX0 4 f fd ["shares"] (spR K 1 S_total_of) := by
  refine fn_ok FD sc_total_of rfl ?_
  intro X e1 e2 e3 e4 e5 hp F C as r hS hl hW
  subst e1 e2 e3 e4 e5
  obtain ⟨l, rfl, hs, hq, rfl⟩ := hS
  have n0 : Nm X 0 "shares" := F.nm (by decide +kernel)
  have n1 : Nm X 1 "found" := F.nm (by decide +kernel)
  have l1 : Lc X 1 "found" := F.lc (by decide +kernel)
  have n2 : Nm X 2 "share" := F.nm (by decide +kernel)
  have l2 : Lc X 2 "share" := F.lc (by decide +kernel)
  have g_fraction_sum : Gn X "fraction_sum" := F.gn (by decide +kernel)
  have d_fraction_sum : Cal X "fraction_sum" 3 (spR X.K 2 S_fraction_sum) := c_fraction_sum.mono (by decide)
  walk_at "text"
  walk_at "env"
  refine AL.ess_cut (R := fun g => g = [.im (.list (l.map fr)), .im (fr 0), .no]) (by walk_at "go"; rfl) ?_
  rintro _ rfl
  refine AL.ess_cut (R := fun g => ∃ e2, g = [.im (.list (l.map fr)), .im (fr (sumTo l l.length)), e2]) ?_ ?_
  · refine AL.es_for hp (by walk_at "calm") ?_
    refine AL.ei_list ?_
    walk_at "go"
    refine ⟨fun i g => ∃ e2, g = [.im (.list (l.map fr)), .im (fr (sumTo l i)), e2], ⟨_, rfl⟩, ?_, ?_⟩
    · rintro i d g' e ⟨e2, rfl⟩
      rw [List.getElem?_map, Option.map_eq_some_iff] at e
      obtain ⟨q, e1, rfl⟩ := e
      have y1 := (hs i).mono (m := 4400) (by decide)
      have y2 := (hq q (List.mem_of_getElem? e1)).mono (m := 4400) (by decide)
      have z1 := y1.1
      have z2 := y1.2
      have z3 := y2.1
      have z4 := y2.2
      have z5 := den_pos (sumTo l i)
      have z6 := den_pos q
      walk_at "go"
      rw [di_add, ← sumTo_succ e1]
      exact ⟨_, rfl⟩
    · rintro g' ⟨e2, rfl⟩
      rw [List.length_map]
      exact ⟨_, rfl⟩
  rintro _ ⟨e2, rfl⟩
  walk_at "go"
  rw [sumTo_all]
local macro_rules | `(tactic| walk_at "con") => `(tactic| ((with_reducible show S_total_of _ _); unfold S_total_of; exact ⟨_, rfl, by walk_at "pf", by walk_at "pf", rfl⟩))
/-! ### is_valid_size -/
abbrev N_is_valid_size : List Str := ["value"]
theorem sc_is_valid_size : FnScope N_is_valid_size ["value"] (defScope s_is_valid_size) := ⟨rfl, rfl, rfl, by decide +kernel, rfl, by decide +kernel, by decide +kernel⟩
def S_is_valid_size : Con := fun as r => ∃ d, notD d = true ∧ as = [.d d] ∧ r = .bool (inRg d 1 99)
theorem ok_is_valid_size {P : Program} {w : World} {K : PySem.W.Frag} {mg : Str → Option Value} {base : Heap} {f : Addr} {fd : FuncData} (FD : FnP K "is_valid_size" s_is_valid_size f fd) (c_in_range : Callable P w K mg base "in_range" 2 (spR K 3 S_in_range)) (i_MAX_SIZE : ∃ t, mg "MAX_SIZE" = some (.int 99 t)) : FnOk P w K mg base CX0 3 f fd ["value"] (spR K 1 S_is_valid_size) := by
  refine fn_ok FD sc_is_valid_size rfl ?_
  intro X e1 e2 e3 e4 e5 hp F C as r hS hl hW
  subst e1 e2 e3 e4 e5
  obtain ⟨d, nd, rfl, rfl⟩ := hS
  have n0 : Nm X 0 "value" := F.nm (by decide +kernel)
  have g_in_range : Gn X "in_range" := F.gn (by decide +kernel)
  have d_in_range : Cal X "in_range" 2 (spR X.K 3 S_in_range) := c_in_range.mono (by decide)
  have g_MAX_SIZE : Gn X "MAX_SIZE" := F.gn (by decide +kernel)
  obtain ⟨t_MAX_SIZE, j_MAX_SIZE⟩ := i_MAX_SIZE
  walk_at "text"
  walk_at "env"
  walk_at "go"
  rfl
local macro_rules | `(tactic| walk_at "con") => `(tactic| ((with_reducible show S_is_valid_size _ _); unfold S_is_valid_size; exact ⟨_, by walk_at "nd", rfl, rfl⟩))
/-! ### is_valid_block -/
abbrev N_is_valid_block : List Str := ["value"]
theorem sc_is_valid_block : FnScope N_is_valid_block ["value"] (defScope s_is_valid_block) := ⟨rfl, rfl, rfl, by decide +kernel, rfl, by decide +kernel, by decide +kernel⟩
def S_is_valid_block : Con := fun as r => ∃ b : Bl, Sz b.1 ∧ as = [.d (blk b)] ∧ r = .bool true
theorem ok_is_valid_block {P : Program} {w : World} {K : PySem.W.Frag} {mg : Str → Option Value} {base : Heap} {f : Addr} {fd : FuncData} (FD : FnP K "is_valid_block" s_is_valid_block f fd) (c_is_valid_size : Callable P w K mg base "is_valid_size" 3 (spR K 1 S_is_valid_size)) (c_is_fraction : Callable P w K mg base "is_fraction" 2 (spR K 1 S_is_fraction)) (b_isinstance : mg "isinstance" = none) (b_tuple : mg "tuple" = none) (b_len : mg "len" = none) : FnOk P w K mg base CX0 4 f fd ["value"] (spR K 1 S_is_valid_block) := by
  refine fn_ok FD sc_is_valid_block rfl ?_
  intro X e1 e2 e3 e4 e5 hp F C as r hS hl hW
  subst e1 e2 e3 e4 e5
  obtain ⟨b, hb, rfl, rfl⟩ := hS
  have hs : inRg (.int b.1) 1 99 = true := by unfold Sz at hb; simp [inRg]; omega
  have n0 : Nm X 0 "value" := F.nm (by decide +kernel)
  have g_is_valid_size : Gn X "is_valid_size" := F.gn (by decide +kernel)
  have g_is_fraction : Gn X "is_fraction" := F.gn (by decide +kernel)
  have d_is_valid_size : Cal X "is_valid_size" 3 (spR X.K 1 S_is_valid_size) := c_is_valid_size.mono (by decide)
  have d_is_fraction : Cal X "is_fraction" 3 (spR X.K 1 S_is_fraction) := c_is_fraction.mono (by decide)
  have z_isinstance : Bn X "isinstance" := F.bn (by decide +kernel) b_isinstance
  have z_tuple : Bn X "tuple" := F.bn (by decide +kernel) b_tuple
  have z_len : Bn X "len" := F.bn (by decide +kernel) b_len
  walk_at "text"
  walk_at "env"
  walk_at "go"
  · rfl
  · exact absurd (show (([PyData.none, PyData.none] : List PyData).length : Int) = 2 from rfl) (by assumption)
local macro_rules | `(tactic| walk_at "con") => `(tactic| ((with_reducible show S_is_valid_block _ _); unfold S_is_valid_block; exact ⟨_, by walk_at "pf", rfl, rfl⟩))
/-! ### check_each -/
abbrev N_check_each : List Str := ["value", "is_one", "number", "one"]
theorem sc_check_each : FnScope N_check_each ["value", "is_one"] (defScope s_check_each) := ⟨rfl, rfl, rfl, by decide +kernel, rfl, by decide +kernel, by decide +kernel⟩
def S_check_each (P : Program) (w : World) (K : PySem.W.Frag) (mg : Str → Option Value) (base : Heap) : Con := fun as r => ∃ ds v S, as = [.d (.tuple ds), .v v] ∧ HeldF P w K mg base 4 v (spR K 1 S) ∧ (∀ d ∈ ds, S [.d d] (.bool true)) ∧ 1 ≤ ds.length ∧ ds.length ≤ 12 ∧ r = .none
theorem ok_check_each {P : Program} {w : World} {K : PySem.W.Frag} {mg : Str → Option Value} {base : Heap} {f : Addr} {fd : FuncData} (FD : FnP K "check_each" s_check_each f fd) (i_MAX_BLOCKS : ∃ t, mg "MAX_BLOCKS" = some (.int 12 t)) (b_isinstance : mg "isinstance" = none) (b_tuple : mg "tuple" = none) (b_len : mg "len" = none) (b_enumerate : mg "enumerate" = none) : FnOk P w K mg base CX0 5 f fd ["value", "is_one"] (spR K 2 (S_check_each P w K mg base)) := by
  refine fn_ok FD sc_check_each rfl ?_
  intro X e1 e2 e3 e4 e5 hp F C as r hS hl hW
  subst e1 e2 e3 e4 e5
  obtain ⟨ds, v, S, rfl, hv, hall, h1, h2, rfl⟩ := hS
  have n0 : Nm X 0 "value" := F.nm (by decide +kernel)
  have n1 : Nm X 1 "is_one" := F.nm (by decide +kernel)
  have n2 : Nm X 2 "number" := F.nm (by decide +kernel)
  have l2 : Lc X 2 "number" := F.lc (by decide +kernel)
  have n3 : Nm X 3 "one" := F.nm (by decide +kernel)
  have l3 : Lc X 3 "one" := F.lc (by decide +kernel)
  have g_MAX_BLOCKS : Gn X "MAX_BLOCKS" := F.gn (by decide +kernel)
  obtain ⟨t_MAX_BLOCKS, j_MAX_BLOCKS⟩ := i_MAX_BLOCKS
  have z_isinstance : Bn X "isinstance" := F.bn (by decide +kernel) b_isinstance
  have z_tuple : Bn X "tuple" := F.bn (by decide +kernel) b_tuple
  have z_len : Bn X "len" := F.bn (by decide +kernel) b_len
  have z_enumerate : Bn X "enumerate" := F.bn (by decide +kernel) b_enumerate
  walk_at "text"
  walk_at "env"
  walk_at "go"
  all_goals try (exfalso; omega)
  refine AL.es_for hp (by walk_at "calm") ?_
  walk_at "go"
  refine ⟨fun i g => ∃ e2 e3, g = [.im (.tuple ds), .vl v, e2, e3], ⟨_, _, rfl⟩, ?_, ?_⟩
  · rintro i d g' e ⟨e2, e3, rfl⟩
    obtain ⟨d, e1, rfl⟩ := enumD_get e
    have hd : S [.d d] (.bool true) := hall d (List.mem_of_getElem? e1)
    walk_at "go"
    exact ⟨_, _, rfl⟩
  · rintro g' ⟨e2, e3, rfl⟩
    walk_at "go"
    rfl
local macro_rules | `(tactic| walk_at "con") => `(tactic| ((with_reducible show S_check_each _ _ _ _ _ _ _); unfold S_check_each; exact ⟨_, _, _, rfl, by walk_at "held", by walk_at "pf", by walk_at "pf", by walk_at "pf", rfl⟩))
/-! ### check_state -/
abbrev N_check_state : List Str := ["value"]
theorem sc_check_state : FnScope N_check_state ["value"] (defScope s_check_state) := ⟨rfl, rfl, rfl, by decide +kernel, rfl, by decide +kernel, by decide +kernel⟩
def S_check_state : Con := fun as r => ∃ L n, as = [.d (stD L)] ∧ OkSt n L ∧ r = .none
theorem ok_check_state {P : Program} {w : World} {K : PySem.W.Frag} {mg : Str → Option Value} {base : Heap} {f : Addr} {fd : FuncData} (FD : FnP K "check_state" s_check_state f fd) (c_check_each : Callable P w K mg base "check_each" 5 (spR K 2 (S_check_each P w K mg base))) (c_is_valid_block : Callable P w K mg base "is_valid_block" 4 (spR K 1 S_is_valid_block)) : FnOk P w K mg base CX0 6 f fd ["value"] (spR K 1 S_check_state) := by
  refine fn_ok FD sc_check_state rfl ?_
  intro X e1 e2 e3 e4 e5 hp F C as r hS hl hW
  subst e1 e2 e3 e4 e5
  obtain ⟨L, n, rfl, O, rfl⟩ := hS
  have h1 : 1 ≤ (L.map blk).length := by rw [List.length_map]; exact O.one
  have h2 : (L.map blk).length ≤ 12 := by rw [List.length_map]; exact O.most
  have hall : ∀ d ∈ L.map blk, S_is_valid_block [.d d] (.bool true) := fun d hd => by
    obtain ⟨b, hb, rfl⟩ := List.mem_map.mp hd
    exact ⟨b, (O.each b hb).1, rfl, rfl⟩
  have n0 : Nm X 0 "value" := F.nm (by decide +kernel)
  have g_check_each : Gn X "check_each" := F.gn (by decide +kernel)
  have g_is_valid_block : Gn X "is_valid_block" := F.gn (by decide +kernel)
  have d_check_each : Cal X "check_each" 5 (spR X.K 2 (S_check_each X.prog X.w X.K X.mg X.base)) := c_check_each.mono (by decide)
  have d_is_valid_block : Cal X "is_valid_block" 5 (spR X.K 1 S_is_valid_block) := c_is_valid_block.mono (by decide)
  obtain ⟨a_is_valid_block, m_is_valid_block, h_is_valid_block⟩ := c_is_valid_block.held
  walk_at "text"
  walk_at "env"
  walk_at "go"
  rfl
local macro_rules | `(tactic| walk_at "con") => `(tactic| ((with_reducible show S_check_state _ _); unfold S_check_state; exact ⟨_, _, rfl, by walk_at "pf", rfl⟩))
/-! ### sizes_of -/
abbrev N_sizes_of : List Str := ["state", "size", "temperature"]
theorem sc_sizes_of : FnScope N_sizes_of ["state"] (defScope s_sizes_of) := ⟨rfl, rfl, rfl, by decide +kernel, rfl, by decide +kernel, by decide +kernel⟩
def S_sizes_of : Con := fun as r => ∃ L n, as = [.d (stD L)] ∧ OkSt n L ∧ r = szD L
theorem ok_sizes_of {P : Program} {w : World} {K : PySem.W.Frag} {mg : Str → Option Value} {base : Heap} {f : Addr} {fd : FuncData} (FD : FnP K "sizes_of" s_sizes_of f fd) (b_tuple : mg "tuple" = none) : FnOk P w K mg base CX0 1 f fd ["state"] (spR K 1 S_sizes_of) := by
  refine fn_ok FD sc_sizes_of rfl ?_
  intro X e1 e2 e3 e4 e5 hp F C as r hS hl hW
  subst e1 e2 e3 e4 e5
  obtain ⟨L, n, rfl, O, rfl⟩ := hS
  have hm := O.most
  have n0 : Nm X 0 "state" := F.nm (by decide +kernel)
  have o1 : IxN N_sizes_of 1 "size" := rfl
  have o2 : IxN N_sizes_of 2 "temperature" := rfl
  have z_tuple : Bn X "tuple" := F.bn (by decide +kernel) b_tuple
  walk_at "text"
  walk_at "env"
  walk_at "go"
  refine AL.ee_en (AL.en_lc F [("size", 1), ("temperature", 2)] (by decide +kernel) ?_)
  walk_at "go"
  refine AL.lcMap (rs := L.map fun b => .int b.1) (by walk_at "wipe") (by rw [List.length_map, List.length_map]) (by rw [List.length_map]; omega) ?_ ?_
  · intro C' k d e
    rw [List.getElem?_map, Option.map_eq_some_iff] at e
    obtain ⟨p, e1, rfl⟩ := e
    walk_at "go"
    exact ⟨by rw [List.getElem?_map, e1]; rfl, by walk_at "wk"⟩
  · walk_at "go"
    rfl
local macro_rules | `(tactic| walk_at "con") => `(tactic| ((with_reducible show S_sizes_of _ _); unfold S_sizes_of; exact ⟨_, _, rfl, by walk_at "pf", rfl⟩))
/-! ### heat_of -/
abbrev N_heat_of : List Str := ["state", "size", "temperature"]
theorem sc_heat_of : FnScope N_heat_of ["state"] (defScope s_heat_of) := ⟨rfl, rfl, rfl, by decide +kernel, rfl, by decide +kernel, by decide +kernel⟩
def S_heat_of : Con := fun as r => ∃ L, as = [.d (stD L)] ∧ OkSt 1900 L ∧ r = fr (heatF L)
theorem ok_heat_of {P : Program} {w : World} {K : PySem.W.Frag} {mg : Str → Option Value} {base : Heap} {f : Addr} {fd : FuncData} (FD : FnP K "heat_of" s_heat_of f fd) (c_total_of : Callable P w K mg base "total_of" 4 (spR K 1 S_total_of)) (c_fraction_product : Callable P w K mg base "fraction_product" 3 (spR K 2 S_fraction_product)) : FnOk P w K mg base CX0 5 f fd ["state"] (spR K 1 S_heat_of) := by
  refine fn_ok FD sc_heat_of rfl ?_
  intro X e1 e2 e3 e4 e5 hp F C as r hS hl hW
  subst e1 e2 e3 e4 e5
  obtain ⟨L, rfl, O, rfl⟩ := hS
  have hm := O.most
  obtain ⟨hs1, hs2⟩ := O.heat (by decide)
  have hl := heatL_sum L
  have n0 : Nm X 0 "state" := F.nm (by decide +kernel)
  have o1 : IxN N_heat_of 1 "size" := rfl
  have o2 : IxN N_heat_of 2 "temperature" := rfl
  have g_total_of : Gn X "total_of" := F.gn (by decide +kernel)
  have d_total_of : Cal X "total_of" 4 (spR X.K 1 S_total_of) := c_total_of.mono (by decide)
  have d_fraction_product : Cal X "fraction_product" 4 (spR X.K 2 S_fraction_product) := c_fraction_product.mono (by decide)
  walk_at "text"
  walk_at "env"
  walk_at "go"
  refine AL.ee_en (AL.en_lc F [("size", 1), ("temperature", 2)] (by decide +kernel) ?_)
  walk_at "go"
  refine AL.lcMap (rs := (heatL L).map fr) (by walk_at "wipe") (by unfold heatL; rw [List.length_map, List.length_map, List.length_map]) (by rw [List.length_map]; omega) ?_ ?_
  · intro C' k d e
    rw [List.getElem?_map, Option.map_eq_some_iff] at e
    obtain ⟨p, e1, rfl⟩ := e
    have hp1 := O.each p (List.mem_of_getElem? e1)
    have hp2 := hp1.1
    unfold Sz at hp2
    have y0 : Bt 4400 p.1 := (show Bt 7 p.1 by unfold Bt; omega).mono (by decide)
    have y1 := (hp1.2.mono (m := 4400) (by decide)).1
    have y2 := (hp1.2.mono (m := 4400) (by decide)).2
    have y3 := den_pos p.2
    have y4 : Bt 4400 1 := (show Bt 1 1 by unfold Bt; decide).mono (by decide)
    walk_at "go"
    refine ⟨?_, by walk_at "wk"⟩
    rw [di_cmul, List.getElem?_map, heatL_get e1]; rfl
  · walk_at "go"
    exact congrArg fr hl
local macro_rules | `(tactic| walk_at "con") => `(tactic| ((with_reducible show S_heat_of _ _); unfold S_heat_of; exact ⟨_, rfl, by walk_at "pf", rfl⟩))
/-! ### allowed_pairs -/
abbrev N_allowed_pairs : List Str := ["many", "forbidden", "found", "one", "other", "pair"]
theorem sc_allowed_pairs : FnScope N_allowed_pairs ["many", "forbidden"] (defScope s_allowed_pairs) := ⟨rfl, rfl, rfl, by decide +kernel, rfl, by decide +kernel, by decide +kernel⟩
def S_allowed_pairs : List Ar → List PyData → Prop := fun as r => ∃ m : Nat, as = [.d (.int m), .d (.tuple [])] ∧ m ≤ 12 ∧ r = (prsL m).map tcD
theorem ok_allowed_pairs {P : Program} {w : World} {K : PySem.W.Frag} {mg : Str → Option Value} {base : Heap} {f : Addr} {fd : FuncData} (FD : FnP K "allowed_pairs" s_allowed_pairs f fd) (b_range : mg "range" = none) : FnOk P w K mg base CX0 1 f fd ["many", "forbidden"] (spN K 2 S_allowed_pairs) := by
  refine fn_okN FD sc_allowed_pairs rfl ?_
  intro X e1 e2 e3 e4 e5 hp F C as r hS hl hW
  subst e1 e2 e3 e4 e5
  obtain ⟨m, rfl, hm, rfl⟩ := hS
  have hl := prsL_len m
  have hl2 : m * m ≤ 144 := Nat.mul_le_mul hm hm
  have n0 : Nm X 0 "many" := F.nm (by decide +kernel)
  have n1 : Nm X 1 "forbidden" := F.nm (by decide +kernel)
  have n2 : Nm X 2 "found" := F.nm (by decide +kernel)
  have l2 : Lc X 2 "found" := F.lc (by decide +kernel)
  have o3 : IxN N_allowed_pairs 3 "one" := rfl
  have o4 : IxN N_allowed_pairs 4 "other" := rfl
  have o5 : IxN N_allowed_pairs 5 "pair" := rfl
  have z_range : Bn X "range" := F.bn (by decide +kernel) b_range
  walk_at "text"
  walk_at "env"
  refine AL.ess_cons ?_
  refine AL.es_lc2 (i := 2) F [("one", 3), ("other", 4)] [4] (by decide) (by decide +kernel) (by decide +kernel) ?_ (by walk_at "swapw")
  walk_at "go"
  have hfl : ∀ k, flatR (fun i => (prsAt m i).map tcD) k = (prsTo m k).map tcD := fun k => by
    unfold flatR prsTo
    rw [List.map_flatMap]
  refine ⟨_, by walk_at "wipe", fun i => (prsAt m i).map tcD, ?_, ?_, ?_⟩
  · rw [hfl, rangeD_len, List.length_map, Int.toNat_natCast]; exact Nat.le_trans hl (by omega)
  · intro C' i d e
    obtain ⟨hi, rfl⟩ := rangeD_get e
    walk_at "go"
    refine ⟨_, by walk_at "wipe", by walk_at "wk", ?_, ?_⟩
    · rw [rangeD_len, List.length_map]; unfold prsAt; rw [List.length_map, List.length_range]; omega
    · intro C'' j d e2
      obtain ⟨hj, rfl⟩ := rangeD_get e2
      walk_at "go"
      refine ⟨?_, by walk_at "wk"⟩
      have hj2 : j < m - (i + 1) := by omega
      rw [List.getElem?_map]; unfold prsAt
      rw [List.getElem?_map, List.getElem?_range hj2]
      show some (PyData.tuple [.int ((i : Nat) : Int), .int ((i + 1 + j : Nat) : Int)]) = _
      simp
  · refine ⟨_, by walk_at "se", ?_⟩
    rw [hfl, rangeD_len, Int.toNat_natCast]
    walk_at "go"
    refine AL.es_retL ?_
    refine AL.en_lc F [("pair", 5)] (by decide +kernel) ?_
    walk_at "go"
    refine AL.lcMap (rs := (prsL m).map tcD) (by walk_at "wipe") (by rfl) (by rw [List.length_map]; show (prsL m).length ≤ _; omega) ?_ ?_
    · intro C' k d e
      have e' := e
      rw [List.getElem?_map, Option.map_eq_some_iff] at e'
      obtain ⟨t, e1, rfl⟩ := e'
      walk_at "go"
      exact ⟨e, by walk_at "wk"⟩
    · walk_at "go"
      rfl
local macro_rules | `(tactic| walk_at "con") => `(tactic| ((with_reducible show S_allowed_pairs _ _); unfold S_allowed_pairs; exact ⟨_, rfl, by walk_at "pf", rfl⟩))
/-! ### descending -/
abbrev N_descending : List Str := ["state", "found", "size", "temperature", "one"]
theorem sc_descending : FnScope N_descending ["state"] (defScope s_descending) := ⟨rfl, rfl, rfl, by decide +kernel, rfl, by decide +kernel, by decide +kernel⟩
def S_descending : List Ar → List PyData → Prop := fun as r => ∃ L, as = [.d (stD L)] ∧ OkSt 1900 L ∧ r = (dscL L).map blk
theorem ok_descending {P : Program} {w : World} {K : PySem.W.Frag} {mg : Str → Option Value} {base : Heap} {f : Addr} {fd : FuncData} (FD : FnP K "descending" s_descending f fd) (c_is_lower : Callable P w K mg base "is_lower" 1 (spR K 2 S_is_lower)) (b_len : mg "len" = none) : FnOk P w K mg base CX0 2 f fd ["state"] (spN K 1 S_descending) := by
  refine fn_okN FD sc_descending rfl ?_
  intro X e1 e2 e3 e4 e5 hp F C as r hS hl hW
  subst e1 e2 e3 e4 e5
  obtain ⟨L, rfl, O, rfl⟩ := hS
  have hm := O.most
  have n0 : Nm X 0 "state" := F.nm (by decide +kernel)
  have n1 : Nm X 1 "found" := F.nm (by decide +kernel)
  have l1 : Lc X 1 "found" := F.lc (by decide +kernel)
  have n2 : Nm X 2 "size" := F.nm (by decide +kernel)
  have l2 : Lc X 2 "size" := F.lc (by decide +kernel)
  have n3 : Nm X 3 "temperature" := F.nm (by decide +kernel)
  have l3 : Lc X 3 "temperature" := F.lc (by decide +kernel)
  have o4 : IxN N_descending 4 "one" := rfl
  have d_is_lower : Cal X "is_lower" 1 (spR X.K 2 S_is_lower) := c_is_lower.mono (by decide)
  have z_len : Bn X "len" := F.bn (by decide +kernel) b_len
  walk_at "text"
  walk_at "env"
  walk_at "go"
  refine AL.es_for hp (by walk_at "calm") ?_
  walk_at "go"
  refine ⟨fun i g => ∃ e2 e3, g = [.im (stD L), .ls none ((dscL (L.take i)).map blk), e2, e3, .no], ⟨_, _, rfl⟩, ?_, ?_⟩
  · rintro i d g' e ⟨e2, e3, rfl⟩
    rw [List.getElem?_map, Option.map_eq_some_iff] at e
    obtain ⟨b, e1, rfl⟩ := e
    have hb := O.each b (List.mem_of_getElem? e1)
    have y1 := (hb.2.mono (m := 4400) (by decide)).1
    have y2 := (hb.2.mono (m := 4400) (by decide)).2
    have hn := dscL_len (L.take i)
    have hn2 : (L.take i).length ≤ 12 := by rw [List.length_take]; omega
    have hd := dsc_take e1
    have hmem : ∀ a ∈ dscL (L.take i), a ∈ L := fun a ha => dsc_mem ha
    generalize dscL (L.take i) = l at hn hmem hd ⊢
    have hl0 : (List.map blk l).length = l.length := List.length_map ..
    walk_at "go"
    refine AL.ee_borrow 1 rfl (by walk_at "se") (by walk_at "ln") ?_
    refine AL.ee_len (by walk_at "bn") ?_
    refine AL.ee_en (AL.en_lc F [("one", 4)] (by decide +kernel) ?_)
    walk_at "go"
    refine AL.lcSel (fun k => (l[k]?).bind fun a => if decide (b.2 < a.2) = true then some (blk a) else none) (by walk_at "wipe") (by rw [List.length_map]; omega) ?_ ?_
    · intro C' k d e
      rw [List.getElem?_map, Option.map_eq_some_iff] at e
      obtain ⟨a, e2, rfl⟩ := e
      have ha := O.each a (hmem a (List.mem_of_getElem? e2))
      have y3 := (ha.2.mono (m := 4400) (by decide)).1
      have y4 := (ha.2.mono (m := 4400) (by decide)).2
      walk_at "go"
      · exact ⟨by rw [e2, Option.bind_some, if_pos (decide_eq_true (fr_lt.mp (by assumption)))], by walk_at "wk"⟩
      · exact ⟨by rw [e2, Option.bind_some, if_neg (fun z => absurd (fr_lt.mpr (of_decide_eq_true z)) (by assumption))], by walk_at "wk"⟩
    · walk_at "go"
      refine ⟨rfl, rfl, ?_⟩
      walk_at "go"
      rw [selB_len l fun a => decide (b.2 < a.2)]
      have hc : (l.filter fun a => decide (b.2 < a.2)).length ≤ l.length := List.length_filter_le ..
      refine AL.lf_insert rfl (by omega) (by omega) (by walk_at "fz") (by rfl) (by rw [List.length_map]; omega) (by walk_at "se") ?_
      exact ⟨_, _, by rw [hd, Int.toNat_natCast, blk_ins]; rfl⟩
  · rintro g' ⟨e2, e3, rfl⟩
    walk_at "go"
    rw [List.length_map, List.take_length]
    exact .o rfl rfl
local macro_rules | `(tactic| walk_at "con") => `(tactic| ((with_reducible show S_descending _ _); unfold S_descending; exact ⟨_, rfl, by walk_at "pf", rfl⟩))
/-! ### heat_of_amount -/
abbrev N_heat_of_amount : List Str := ["state", "size", "found", "own", "temperature", "part"]
theorem sc_heat_of_amount : FnScope N_heat_of_amount ["state", "size"] (defScope s_heat_of_amount) := ⟨rfl, rfl, rfl, by decide +kernel, rfl, by decide +kernel, by decide +kernel⟩
def S_heat_of_amount : Con := fun as r => ∃ L x, as = [.d (stD L), .d (.int x)] ∧ OkSt 1900 L ∧ 0 ≤ x ∧ x < 2000 ∧ r = fr (hoa (dscL L) x)
theorem ok_heat_of_amount {P : Program} {w : World} {K : PySem.W.Frag} {mg : Str → Option Value} {base : Heap} {f : Addr} {fd : FuncData} (FD : FnP K "heat_of_amount" s_heat_of_amount f fd) (c_descending : Callable P w K mg base "descending" 2 (spN K 1 S_descending)) (c_fraction_sum : Callable P w K mg base "fraction_sum" 3 (spR K 2 S_fraction_sum)) (c_fraction_product : Callable P w K mg base "fraction_product" 3 (spR K 2 S_fraction_product)) (t_ZERO : TupC K mg "ZERO" [0, 1]) (b_min : mg "min" = none) : FnOk P w K mg base CX0 4 f fd ["state", "size"] (spR K 2 S_heat_of_amount) := by
  refine fn_ok FD sc_heat_of_amount rfl ?_
  intro X e1 e2 e3 e4 e5 hp F C as r hS hl hW
  subst e1 e2 e3 e4 e5
  obtain ⟨L, x, rfl, O, x0, x1, rfl⟩ := hS
  have hm := O.most
  have hdl := dscL_len L
  have n0 : Nm X 0 "state" := F.nm (by decide +kernel)
  have n1 : Nm X 1 "size" := F.nm (by decide +kernel)
  have l1 : Lc X 1 "size" := F.lc (by decide +kernel)
  have n2 : Nm X 2 "found" := F.nm (by decide +kernel)
  have l2 : Lc X 2 "found" := F.lc (by decide +kernel)
  have n3 : Nm X 3 "own" := F.nm (by decide +kernel)
  have l3 : Lc X 3 "own" := F.lc (by decide +kernel)
  have n4 : Nm X 4 "temperature" := F.nm (by decide +kernel)
  have l4 : Lc X 4 "temperature" := F.lc (by decide +kernel)
  have n5 : Nm X 5 "part" := F.nm (by decide +kernel)
  have l5 : Lc X 5 "part" := F.lc (by decide +kernel)
  have g_descending : Gn X "descending" := F.gn (by decide +kernel)
  have g_fraction_sum : Gn X "fraction_sum" := F.gn (by decide +kernel)
  have g_fraction_product : Gn X "fraction_product" := F.gn (by decide +kernel)
  have d_descending : Cal X "descending" 3 (spN X.K 1 S_descending) := c_descending.mono (by decide)
  have d_fraction_sum : Cal X "fraction_sum" 3 (spR X.K 2 S_fraction_sum) := c_fraction_sum.mono (by decide)
  have d_fraction_product : Cal X "fraction_product" 3 (spR X.K 2 S_fraction_product) := c_fraction_product.mono (by decide)
  have g_ZERO : Gn X "ZERO" := F.gn (by decide +kernel)
  have z_min : Bn X "min" := F.bn (by decide +kernel) b_min
  walk_at "text"
  walk_at "env"
  refine AL.ess_cut (R := fun g => g = [.im (stD L), .im (.int x), .im (fr 0), .no, .no, .no]) (by walk_at "go"; rfl) ?_
  rintro _ rfl
  refine AL.ess_cut (R := fun g => ∃ e1 e3 e4 e5, g = [.im (stD L), e1, .im (fr (hoa (dscL L) x)), e3, e4, e5]) ?_ ?_
  · refine AL.es_for hp (by walk_at "calm") ?_
    walk_at "go"
    refine ⟨fun i g => ∃ e3 e4 e5, g = [.im (stD L), .im (.int (hto (dscL L) x i).2), .im (fr (hto (dscL L) x i).1), e3, e4, e5], ⟨_, _, _, rfl⟩, ?_, ?_⟩
    · rintro i d g' e ⟨e3, e4, e5, rfl⟩
      rw [List.getElem?_map, Option.map_eq_some_iff] at e
      obtain ⟨b, e1, rfl⟩ := e
      have hi := (List.getElem?_eq_some_iff.mp e1).1
      have hb := O.each b ((dscL_perm L).subset (List.mem_of_getElem? e1))
      have hz := hb.1
      unfold Sz at hz
      obtain ⟨h1, h2, h3⟩ := O.hto (x := x) (by decide) x0 i (by omega)
      have h4 := (O.hto (x := x) (by decide) x0 (i + 1) (by omega)).1
      have hsu := hto_succ (x := x) e1
      rw [hsu] at h4
      generalize hto (dscL L) x i = a at h1 h2 h3 h4 hsu ⊢
      obtain ⟨f, y⟩ := a
      simp only at h1 h2 h3
      have hq : Bt 8 (prt b.1 y) := by have := prt_nn (s := b.1) (x := y) (by omega) h2; unfold Bt; omega
      have hpn := prt_nn (s := b.1) (x := y) (by omega) h2
      have hpe : (if y < b.1 then y else b.1) = prt b.1 y := rfl
      have hpb : Rb 4400 (((prt b.1 y : Int) : Rat) * b.2) := (Rb.cmul hq hb.2).mono (by decide)
      have z1 := (h1.mono (m := 4400) (by decide)).1
      have z2 := (h1.mono (m := 4400) (by decide)).2
      have z3 := den_pos f
      have y1 := (hb.2.mono (m := 4400) (by decide)).1
      have y2 := (hb.2.mono (m := 4400) (by decide)).2
      have y3 := den_pos b.2
      have y4 : Bt 4400 1 := (show Bt 1 1 by unfold Bt; decide).mono (by decide)
      have y5 := hq.mono (m := 4400) (by decide)
      have ep : Rat.divInt (prt b.1 y * b.2.num) (1 * (b.2.den : Int)) = ((prt b.1 y : Int) : Rat) * b.2 := di_cmul _ _
      rw [← ep] at hpb
      have w1 := hpb.1
      have w2 := hpb.2
      have w3 := den_pos (Rat.divInt (prt b.1 y * b.2.num) (1 * (b.2.den : Int)))
      walk_at "go"
      exact ⟨_, _, _, by rw [hsu, di_add, di_cmul]; rfl⟩
    · rintro g' ⟨e3, e4, e5, rfl⟩
      rw [List.length_map, hto_all]
      exact ⟨_, _, _, _, rfl⟩
  rintro _ ⟨e1, e3, e4, e5, rfl⟩
  walk_at "go"
  rfl
local macro_rules | `(tactic| walk_at "con") => `(tactic| ((with_reducible show S_heat_of_amount _ _); unfold S_heat_of_amount; exact ⟨_, _, rfl, by walk_at "pf", by walk_at "pf", by walk_at "pf", rfl⟩))
/-! ### breakpoints -/
abbrev N_breakpoints : List Str := ["state", "found", "size", "temperature"]
theorem sc_breakpoints : FnScope N_breakpoints ["state"] (defScope s_breakpoints) := ⟨rfl, rfl, rfl, by decide +kernel, rfl, by decide +kernel, by decide +kernel⟩
def S_breakpoints : Con := fun as r => ∃ L, as = [.d (stD L)] ∧ OkSt 1900 L ∧ r = .list ((bps L).map PyData.int)
theorem ok_breakpoints {P : Program} {w : World} {K : PySem.W.Frag} {mg : Str → Option Value} {base : Heap} {f : Addr} {fd : FuncData} (FD : FnP K "breakpoints" s_breakpoints f fd) (c_descending : Callable P w K mg base "descending" 2 (spN K 1 S_descending)) : FnOk P w K mg base CX0 3 f fd ["state"] (spR K 1 S_breakpoints) := by
  refine fn_ok FD sc_breakpoints rfl ?_
  intro X e1 e2 e3 e4 e5 hp F C as r hS hl hW
  subst e1 e2 e3 e4 e5
  obtain ⟨L, rfl, O, rfl⟩ := hS
  have hm := O.most
  have hdl := dscL_len L
  have hbl := bpF_len (dscL L) 0
  have n0 : Nm X 0 "state" := F.nm (by decide +kernel)
  have n1 : Nm X 1 "found" := F.nm (by decide +kernel)
  have l1 : Lc X 1 "found" := F.lc (by decide +kernel)
  have n2 : Nm X 2 "size" := F.nm (by decide +kernel)
  have l2 : Lc X 2 "size" := F.lc (by decide +kernel)
  have n3 : Nm X 3 "temperature" := F.nm (by decide +kernel)
  have l3 : Lc X 3 "temperature" := F.lc (by decide +kernel)
  have g_descending : Gn X "descending" := F.gn (by decide +kernel)
  have d_descending : Cal X "descending" 2 (spN X.K 1 S_descending) := c_descending.mono (by decide)
  walk_at "text"
  walk_at "env"
  refine AL.ess_cut (R := fun g => g = [.im (stD L), .ls none [.int 0], .no, .no]) (by walk_at "go"; rfl) ?_
  rintro _ rfl
  refine AL.ess_cut (R := fun g => ∃ e2 e3, g = [.im (stD L), .ls none ((0 :: bpF (dscL L) 0).map PyData.int), e2, e3]) ?_ ?_
  · refine AL.es_for hp (by walk_at "calm") ?_
    walk_at "go"
    refine ⟨fun i g => ∃ e2 e3, g = [.im (stD L), .ls none ((0 :: bpF ((dscL L).take i) 0).map PyData.int), e2, e3], ⟨_, _, rfl⟩, ?_, ?_⟩
    · rintro i d g' e ⟨e2, e3, rfl⟩
      rw [List.getElem?_map, Option.map_eq_some_iff] at e
      obtain ⟨b, e1, rfl⟩ := e
      have hi := (List.getElem?_eq_some_iff.mp e1).1
      have hsn : bpF ((dscL L).take (i + 1)) 0 = bpF ((dscL L).take i) 0 ++ [0 + tot ((dscL L).take i) + b.1] := by
        rw [List.take_add_one, e1]; exact bpF_snoc b _ _
      have hla := bpF_last ((dscL L).take i) 0
      have hlen := bpF_len ((dscL L).take i) 0
      have hlt : ((dscL L).take i).length ≤ 12 := by rw [List.length_take]; omega
      have hx : atI ((0 :: bpF ((dscL L).take i) 0).map PyData.int) (-1) = some (.int (0 + tot ((dscL L).take i))) := at_last (by rw [List.getLast?_map, hla]; rfl)
      have hn : ((0 :: bpF ((dscL L).take i) 0).map PyData.int).length < 1000000 := by rw [List.length_map, List.length_cons, hlen]; omega
      walk_at "go"
      exact ⟨_, _, by rw [hsn, ← List.cons_append, List.map_append]; rfl⟩
    · rintro g' ⟨e2, e3, rfl⟩
      rw [List.length_map, List.take_length]
      exact ⟨_, _, rfl⟩
  rintro _ ⟨e2, e3, rfl⟩
  walk_at "go"
  rfl
local macro_rules | `(tactic| walk_at "con") => `(tactic| ((with_reducible show S_breakpoints _ _); unfold S_breakpoints; exact ⟨_, rfl, by walk_at "pf", rfl⟩))
/-! ### first_excess -/
abbrev N_first_excess : List Str := ["state", "other", "ahead", "less", "end", "more", "step"]
theorem sc_first_excess : FnScope N_first_excess ["state", "other"] (defScope s_first_excess) := ⟨rfl, rfl, rfl, by decide +kernel, rfl, by decide +kernel, by decide +kernel⟩
def S_first_excess : Con := fun as r => ∃ L M, as = [.d (stD L), .d (stD M)] ∧ OkSt 900 L ∧ OkSt 900 M ∧ r = optI (fexc L M)
theorem ok_first_excess {P : Program} {w : World} {K : PySem.W.Frag} {mg : Str → Option Value} {base : Heap} {f : Addr} {fd : FuncData} (FD : FnP K "first_excess" s_first_excess f fd) (c_fraction_difference : Callable P w K mg base "fraction_difference" 3 (spR K 2 S_fraction_difference)) (c_heat_of_amount : Callable P w K mg base "heat_of_amount" 4 (spR K 2 S_heat_of_amount)) (c_fraction_product : Callable P w K mg base "fraction_product" 3 (spR K 2 S_fraction_product)) (c_breakpoints : Callable P w K mg base "breakpoints" 3 (spR K 1 S_breakpoints)) (t_ZERO : TupC K mg "ZERO" [0, 1]) (b_sorted : mg "sorted" = none) (b_set : mg "set" = none) : FnOk P w K mg base CX0 5 f fd ["state", "other"] (spR K 2 S_first_excess) := by
  refine fn_ok FD sc_first_excess rfl ?_
  intro X e1 e2 e3 e4 e5 hp F C as r hS hl hW
  subst e1 e2 e3 e4 e5
  obtain ⟨L, M, rfl, O, O2, rfl⟩ := hS
  have O3 : OkSt 1900 L := O.mono (by decide)
  have O4 : OkSt 1900 M := O2.mono (by decide)
  have hm := O.most
  have hm2 := O2.most
  have lb : (bps L).length ≤ 12 := by unfold bps; rw [bpF_len, dscL_len]; exact hm
  have lb2 : (bps M).length ≤ 12 := by unfold bps; rw [bpF_len, dscL_len]; exact hm2
  have lb3 : ((bps L).map PyData.int).length = (bps L).length := List.length_map ..
  have lb4 : ((bps M).map PyData.int).length = (bps M).length := List.length_map ..
  obtain ⟨E, E0, E1, E2, E3⟩ := exc_gr O O2
  have n0 : Nm X 0 "state" := F.nm (by decide +kernel)
  have n1 : Nm X 1 "other" := F.nm (by decide +kernel)
  have n2 : Nm X 2 "ahead" := F.nm (by decide +kernel)
  have l2 : Lc X 2 "ahead" := F.lc (by decide +kernel)
  have n3 : Nm X 3 "less" := F.nm (by decide +kernel)
  have l3 : Lc X 3 "less" := F.lc (by decide +kernel)
  have n4 : Nm X 4 "end" := F.nm (by decide +kernel)
  have l4 : Lc X 4 "end" := F.lc (by decide +kernel)
  have n5 : Nm X 5 "more" := F.nm (by decide +kernel)
  have l5 : Lc X 5 "more" := F.lc (by decide +kernel)
  have n6 : Nm X 6 "step" := F.nm (by decide +kernel)
  have l6 : Lc X 6 "step" := F.lc (by decide +kernel)
  have g_fraction_difference : Gn X "fraction_difference" := F.gn (by decide +kernel)
  have g_heat_of_amount : Gn X "heat_of_amount" := F.gn (by decide +kernel)
  have g_fraction_product : Gn X "fraction_product" := F.gn (by decide +kernel)
  have g_breakpoints : Gn X "breakpoints" := F.gn (by decide +kernel)
  have d_fraction_difference : Cal X "fraction_difference" 4 (spR X.K 2 S_fraction_difference) := c_fraction_difference.mono (by decide)
  have d_heat_of_amount : Cal X "heat_of_amount" 4 (spR X.K 2 S_heat_of_amount) := c_heat_of_amount.mono (by decide)
  have d_fraction_product : Cal X "fraction_product" 4 (spR X.K 2 S_fraction_product) := c_fraction_product.mono (by decide)
  have d_breakpoints : Cal X "breakpoints" 4 (spR X.K 1 S_breakpoints) := c_breakpoints.mono (by decide)
  have g_ZERO : Gn X "ZERO" := F.gn (by decide +kernel)
  have z_sorted : Bn X "sorted" := F.bn (by decide +kernel) b_sorted
  have z_set : Bn X "set" := F.bn (by decide +kernel) b_set
  walk_at "text"
  walk_at "env"
  refine AL.ess_cut (R := fun g => g = [.im (stD L), .im (stD M), .im (.int 0), .im (fr 0), .no, .no, .no]) (by walk_at "go"; rfl) ?_
  rintro _ rfl
  refine AL.ess_cut (R := fun g => (∀ k, k < (ends L M).length → ¬ 0 < (exc L M ((ends L M).getD k 0)).num) ∧ ∃ e2 e3 e4 e5 e6, g = [.im (stD L), .im (stD M), e2, e3, e4, e5, e6]) ?_ ?_
  · refine AL.es_for hp (by walk_at "calm") ?_
    refine AL.ei_list (AL.ee_en (AL.en_sortSet (by walk_at "bn") (by walk_at "bn") (by walk_at "calm") (AL.ee_en (AL.en_cat ?_))))
    walk_at "go"
    refine ⟨_, _, .inl rfl, .inl rfl, by omega, bps L ++ bps M, .inl (by rw [List.map_append]), by rw [List.length_append]; omega, fun r r1 r2 => ?_⟩
    rw [ends_unique O.pos O2.pos O.tot O2.tot r1 r2]
    walk_at "go"
    refine ⟨fun i g => (∀ k, k < i → ¬ 0 < (exc L M ((ends L M).getD k 0)).num) ∧ ∃ e4 e5 e6, g = [.im (stD L), .im (stD M), .im (.int (fexA L M i)), .im (fr (fexL L M i)), e4, e5, e6], ⟨by omega, _, _, _, rfl⟩, ?_, ?_⟩
    · rintro i d g' e ⟨hno, e4, e5, e6, rfl⟩
      rw [List.getElem?_map, Option.map_eq_some_iff] at e
      obtain ⟨x, e1, rfl⟩ := e
      have hx := ends_pos O.pos O2.pos (List.mem_of_getElem? e1)
      have hx1 : 0 ≤ x := by omega
      have hx2 : x < 2000 := by omega
      obtain ⟨f1, f2⟩ := fexA_succ (L := L) (M := M) e1
      obtain ⟨b0, b1⟩ := fexA_lt O.pos O2.pos e1
      have hgd : (ends L M).getD i 0 = x := by rw [List.getD_eq_getElem?_getD, e1]; rfl
      have g1 := ((E2 x hx1).1.rb E0 E1).mono (m := 4400) (by decide)
      have g2 := ((E2 x hx1).2.rb E0 E1).mono (m := 4400) (by decide)
      have g3 := (E3 x hx1).rb E0 E1
      have gl : Gr E 920 (fexL L M i) := by
        unfold fexL pL
        split
        · exact Gr.zero
        · exact E3 _ (by have := b0; unfold fexA pA at this; rwa [if_neg (by assumption)] at this)
      have g4 := gl.rb E0 E1
      have g5 := ((E3 x hx1).sub E0 gl).rb E0 E1
      have q1 := g1.1
      have q2 := g1.2
      have q3 := g2.1
      have q4 := g2.2
      have q5 := den_pos (hoa (dscL L) x)
      have q6 := den_pos (hoa (dscL M) x)
      have hex : Rat.divInt ((hoa (dscL M) x).num * ((hoa (dscL L) x).den : Int) - (hoa (dscL L) x).num * ((hoa (dscL M) x).den : Int)) (((hoa (dscL M) x).den : Int) * ((hoa (dscL L) x).den : Int)) = exc L M x := di_sub _ _
      refine AL.eg_d (by walk_at "lc") (by walk_at "se") ?_
      refine AL.ess_cut (R := fun g => g = [.im (stD L), .im (stD M), .im (.int (fexA L M i)), .im (fr (fexL L M i)), .im (.int x), .im (fr (exc L M x)), e6]) (by walk_at "go"; rw [hex]) ?_
      rintro _ rfl
      have u1 := (g3.mono (m := 4400) (by decide)).1
      have u2 := (g3.mono (m := 4400) (by decide)).2
      have u3 := (g4.mono (m := 4400) (by decide)).1
      have u4 := (g4.mono (m := 4400) (by decide)).2
      have u5 := den_pos (exc L M x)
      have u6 := den_pos (fexL L M i)
      obtain ⟨w, hw⟩ : ∃ w, w = Rat.divInt ((exc L M x).num * ((fexL L M i).den : Int) - (fexL L M i).num * ((exc L M x).den : Int)) (((exc L M x).den : Int) * ((fexL L M i).den : Int)) := ⟨_, rfl⟩
      have hw2 : w = exc L M x - fexL L M i := hw.trans (di_sub _ _)
      rw [← hw2] at g5
      have w1 := (g5.mono (m := 4400) (by decide)).1
      have w2 := (g5.mono (m := 4400) (by decide)).2
      have w3 := den_pos w
      have w4 : Bt 12 (x - fexA L M i) := by unfold Bt; omega
      have w5 := w4.mono (m := 4400) (by decide)
      have w6 : 0 < x - fexA L M i := by omega
      have w7 : Bt 4400 1 := (show Bt 1 1 by unfold Bt; decide).mono (by decide)
      obtain ⟨st, hst⟩ : ∃ st, st = Rat.divInt (w.num * 1) ((w.den : Int) * (x - fexA L M i)) := ⟨_, rfl⟩
      have hst2 : st = (exc L M x - fexL L M i) * Rat.divInt 1 (x - fexA L M i) := by
        rw [hst, ← Rat.divInt_mul_divInt, di_self, hw2]
      have hsr : Rb 2733 st := by
        rw [hst2, ← hw2]
        exact (g5.mul (Rb.di (n := 12) (show Bt 12 1 by unfold Bt; decide) w4 w6)).mono (by decide)
      have v1 := hsr.1
      have v2 := hsr.2
      have v3 := den_pos st
      have hgoal : 0 < (exc L M x).num → 0 < ((fexL L M i).den : Int) * st.num ∧ Bt 8999 (((fexL L M i).den : Int) * st.num) := fun hp => by
        have hle : (fexL L M i).num ≤ 0 := by
          unfold fexL pL
          split
          · exact Int.le_refl 0
          · have := hno (i - 1) (by omega); omega
        have h0 : 0 < st := by
          have a1 : 0 < exc L M x := by
            refine fr_lt.mp ?_
            show 0 * ((exc L M x).den : Int) < (exc L M x).num * 1
            omega
          have a2 : fexL L M i ≤ 0 := by
            refine Rat.not_lt.mp fun q => ?_
            have := fr_lt.mpr q
            have e1 : (0 : Rat).num = 0 := rfl
            have e2 : ((0 : Rat).den : Int) = 1 := rfl
            rw [e1, e2] at this; omega
          have a3 : 0 < Rat.divInt 1 (x - fexA L M i) := by
            rw [Rat.divInt_eq_div, show ((1 : Int) : Rat) = 1 from rfl, Rat.div_def, Rat.one_mul]
            exact Rat.inv_pos.mpr (Rat.intCast_pos.mpr w6)
          rw [hst2]
          exact Rat.mul_pos (by grind) a3
        have hn : 0 < st.num := by
          have := fr_lt.mpr h0
          have e1 : (0 : Rat).num = 0 := rfl
          have e2 : ((0 : Rat).den : Int) = 1 := rfl
          rw [e1, e2] at this; omega
        exact ⟨Int.mul_pos u6 hn, (u4.mul v1).mono (by decide)⟩
      have u7 : Bt 4400 (0 - (fexL L M i).num) := by have := u3; unfold Bt at this ⊢; rwa [Int.zero_sub, Int.natAbs_neg]
      refine AL.ess_cons ?_
      refine AL.es_if ?_
      walk_at "go"
      · rename_i hp0
        obtain ⟨x1, x2⟩ := hgoal (by omega)
        rw [← hw]
        walk_at "go"
        rw [← hst]
        walk_at "go"
        rw [fexc_at e1 hno (by omega), hst2]
        rfl
      · rename_i hp0
        refine ⟨fun k hk => ?_, ?_⟩
        · by_cases hki : k < i
          · exact hno k hki
          · have : k = i := by omega
            subst this
            rw [hgd]; omega
        · exact ⟨_, _, _, by rw [f1, f2]⟩
    · rintro g' ⟨hno, e4, e5, e6, rfl⟩
      rw [List.length_map] at hno
      exact ⟨hno, _, _, _, _, _, rfl⟩
  rintro _ ⟨hno, e2, e3, e4, e5, e6, rfl⟩
  walk_at "go"
  rw [fexc_no hno]; rfl
local macro_rules | `(tactic| walk_at "con") => `(tactic| ((with_reducible show S_first_excess _ _); unfold S_first_excess; exact ⟨_, _, rfl, by walk_at "pf", by walk_at "pf", rfl⟩))
/-! ### common_step -/
abbrev N_common_step : List Str := ["state", "found", "size", "temperature", "one"]
theorem sc_common_step : FnScope N_common_step ["state"] (defScope s_common_step) := ⟨rfl, rfl, rfl, by decide +kernel, rfl, by decide +kernel, by decide +kernel⟩
def S_common_step : Con := fun as r => ∃ L, as = [.d (stD L)] ∧ OkSt 900 L ∧ r = fr (cstep L)
theorem ok_common_step {P : Program} {w : World} {K : PySem.W.Frag} {mg : Str → Option Value} {base : Heap} {f : Addr} {fd : FuncData} (FD : FnP K "common_step" s_common_step f fd) (c_fraction_difference : Callable P w K mg base "fraction_difference" 3 (spR K 2 S_fraction_difference)) (c_reduced : Callable P w K mg base "reduced" 2 (spR K 2 S_reduced)) (c_gcd : Callable P w K mg base "gcd" 1 (spR K 2 S_gcd)) (t_ZERO : TupC K mg "ZERO" [0, 1]) : FnOk P w K mg base CX0 4 f fd ["state"] (spR K 1 S_common_step) := by
  refine fn_ok FD sc_common_step rfl ?_
  intro X e1 e2 e3 e4 e5 hp F C as r hS hl hW
  subst e1 e2 e3 e4 e5
  obtain ⟨L, rfl, O, rfl⟩ := hS
  have hm := O.most
  have h0 : 0 < L.length := O.one
  have n0 : Nm X 0 "state" := F.nm (by decide +kernel)
  have n1 : Nm X 1 "found" := F.nm (by decide +kernel)
  have l1 : Lc X 1 "found" := F.lc (by decide +kernel)
  have n2 : Nm X 2 "size" := F.nm (by decide +kernel)
  have l2 : Lc X 2 "size" := F.lc (by decide +kernel)
  have n3 : Nm X 3 "temperature" := F.nm (by decide +kernel)
  have l3 : Lc X 3 "temperature" := F.lc (by decide +kernel)
  have n4 : Nm X 4 "one" := F.nm (by decide +kernel)
  have l4 : Lc X 4 "one" := F.lc (by decide +kernel)
  have g_fraction_difference : Gn X "fraction_difference" := F.gn (by decide +kernel)
  have g_reduced : Gn X "reduced" := F.gn (by decide +kernel)
  have g_gcd : Gn X "gcd" := F.gn (by decide +kernel)
  have d_fraction_difference : Cal X "fraction_difference" 3 (spR X.K 2 S_fraction_difference) := c_fraction_difference.mono (by decide)
  have d_reduced : Cal X "reduced" 3 (spR X.K 2 S_reduced) := c_reduced.mono (by decide)
  have d_gcd : Cal X "gcd" 3 (spR X.K 2 S_gcd) := c_gcd.mono (by decide)
  have g_ZERO : Gn X "ZERO" := F.gn (by decide +kernel)
  walk_at "text"
  walk_at "env"
  refine AL.ess_cut (R := fun g => g = [.im (stD L), .im (fr 0), .no, .no, .no]) (by walk_at "go"; rfl) ?_
  rintro _ rfl
  refine AL.ess_cut (R := fun g => ∃ e2 e3 e4, g = [.im (stD L), .im (fr (cstep L)), e2, e3, e4]) ?_ ?_
  · refine AL.es_for hp (by walk_at "calm") ?_
    walk_at "go"
    refine ⟨fun i g => ∃ e2 e3 e4, g = [.im (stD L), .im (fr (cst L i)), e2, e3, e4], ⟨_, _, _, rfl⟩, ?_, ?_⟩
    · rintro i d g' e ⟨e2, e3, e4, rfl⟩
      rw [List.getElem?_map, Option.map_eq_some_iff] at e
      obtain ⟨b, e1, rfl⟩ := e
      have hb := O.each b (List.mem_of_getElem? e1)
      have ht0 := O.rb h0
      have ix0 := at_st h0
      have c1 := cst_rb O (Nat.le_refl _) i
      have c2 := dif_rb O (Nat.le_refl _) (List.mem_of_getElem? e1)
      have y1 := (hb.2.mono (m := 4400) (by decide)).1
      have y2 := (hb.2.mono (m := 4400) (by decide)).2
      have y3 := (ht0.mono (m := 4400) (by decide)).1
      have y4 := (ht0.mono (m := 4400) (by decide)).2
      have y5 := den_pos b.2
      have y6 := den_pos (tmp L 0)
      obtain ⟨w, hw⟩ : ∃ w, w = Rat.divInt (b.2.num * ((tmp L 0).den : Int) - (tmp L 0).num * (b.2.den : Int)) ((b.2.den : Int) * ((tmp L 0).den : Int)) := ⟨_, rfl⟩
      have hw2 : w = b.2 - tmp L 0 := hw.trans (di_sub _ _)
      have hcs : cst L (i + 1) = rgcd (cst L i) w := by rw [hw2]; exact cst_succ e1
      rw [← hw2] at c2
      have z1 := c1.1
      have z2 := c1.2
      have z3 := c2.1
      have z4 := c2.2
      have z5 : 0 < (w.den : Int) * ((cst L i).den : Int) := Int.mul_pos (den_pos _) (den_pos _)
      have z6 : Bt 8999 ((w.den : Int) * ((cst L i).den : Int)) := (z4.mul z2).mono (by decide)
      have z7 : 0 < ((cst L i).den : Int) * (w.den : Int) := Int.mul_pos (den_pos _) (den_pos _)
      have z8 : Bt 8999 (((cst L i).den : Int) * (w.den : Int)) := (z2.mul z4).mono (by decide)
      walk_at "go"
      rw [← hw]
      walk_at "go"
      exact ⟨_, _, _, by rw [hcs]; rfl⟩
    · rintro g' ⟨e2, e3, e4, rfl⟩
      rw [List.length_map]
      exact ⟨_, _, _, rfl⟩
  rintro _ ⟨e2, e3, e4, rfl⟩
  walk_at "go"
  rfl
local macro_rules | `(tactic| walk_at "con") => `(tactic| ((with_reducible show S_common_step _ _); unfold S_common_step; exact ⟨_, rfl, by walk_at "pf", rfl⟩))
/-! ### divisors_of -/
abbrev N_divisors_of : List Str := ["sizes", "pairs", "one", "other"]
theorem sc_divisors_of : FnScope N_divisors_of ["sizes"] (defScope s_divisors_of) := ⟨rfl, rfl, rfl, by decide +kernel, rfl, by decide +kernel, by decide +kernel⟩
def S_divisors_of : Con := fun as r => ∃ (L : List Bl) (n : Nat), as = [.d (szD L)] ∧ OkSt n L ∧ r = .list ((dvs L).map fun s => .int (s : Nat))
theorem ok_divisors_of {P : Program} {w : World} {K : PySem.W.Frag} {mg : Str → Option Value} {base : Heap} {f : Addr} {fd : FuncData} (FD : FnP K "divisors_of" s_divisors_of f fd) (c_allowed_pairs : Callable P w K mg base "allowed_pairs" 1 (spN K 2 S_allowed_pairs)) (c_gcd : Callable P w K mg base "gcd" 1 (spR K 2 S_gcd)) (b_len : mg "len" = none) : FnOk P w K mg base CX0 2 f fd ["sizes"] (spR K 1 S_divisors_of) := by
  refine fn_ok FD sc_divisors_of rfl ?_
  intro X e1 e2 e3 e4 e5 hp F C as r hS hl hW
  subst e1 e2 e3 e4 e5
  obtain ⟨L, n, rfl, O, rfl⟩ := hS
  have hm := O.most
  have hpl := prsL_len L.length
  have hpl2 : L.length * L.length ≤ 144 := Nat.mul_le_mul hm hm
  have hsl : (L.map fun b => PyData.int b.1).length = L.length := List.length_map ..
  have n0 : Nm X 0 "sizes" := F.nm (by decide +kernel)
  have n1 : Nm X 1 "pairs" := F.nm (by decide +kernel)
  have l1 : Lc X 1 "pairs" := F.lc (by decide +kernel)
  have o2 : IxN N_divisors_of 2 "one" := rfl
  have o3 : IxN N_divisors_of 3 "other" := rfl
  have g_allowed_pairs : Gn X "allowed_pairs" := F.gn (by decide +kernel)
  have d_allowed_pairs : Cal X "allowed_pairs" 1 (spN X.K 2 S_allowed_pairs) := c_allowed_pairs.mono (by decide)
  have d_gcd : Cal X "gcd" 1 (spR X.K 2 S_gcd) := c_gcd.mono (by decide)
  have z_len : Bn X "len" := F.bn (by decide +kernel) b_len
  walk_at "text"
  walk_at "env"
  refine AL.ess_cut (R := fun g => g = [.im (szD L), .ls none ((prsL L.length).map tcD), .no, .no]) ?_ ?_
  · refine AL.es_setN (by walk_at "lc") (AL.en_call (by walk_at "cal") (by walk_at "room") (by walk_at "gn") ?_)
    unfold szD
    walk_at "go"
    rw [hsl]
  rintro _ rfl
  refine AL.ess_one ?_
  refine AL.es_ret (AL.ee_en (AL.en_lc F [("one", 2), ("other", 3)] (by decide +kernel) ?_))
  walk_at "go"
  refine AL.lcMap (rs := (dvs L).map fun s => .int (s : Nat)) (by walk_at "wipe") (by rw [List.length_map, List.length_map]; unfold dvs; rw [List.length_map]) (by rw [List.length_map]; omega) ?_ ?_
  · intro C' k d e
    rw [List.getElem?_map, Option.map_eq_some_iff] at e
    obtain ⟨t, e1, rfl⟩ := e
    obtain ⟨t1, t2⟩ := mem_prsL.mp (List.mem_of_getElem? e1)
    have a1 := O.sz (i := t.1) (by omega)
    have a2 := O.sz t2
    unfold Sz at a1 a2
    have ix : ∀ j, j < L.length → atI (L.map fun b => PyData.int b.1) ((j : Nat) : Int) = some (.int (siz L j)) := fun j hj => atI_nat (by rw [List.getElem?_map, List.getElem?_eq_getElem hj]; unfold siz; rw [getD_eq hj]; rfl)
    have ix1 := ix t.1 (by omega)
    have ix2 := ix t.2 t2
    have g0 : 0 < Int.gcd (siz L t.1) (siz L t.2) := Int.gcd_pos_of_ne_zero_left _ (by omega)
    have g1 : (Int.gcd (siz L t.1) (siz L t.2) : Int) ≤ siz L t.1 := Int.le_of_dvd (by omega) (Int.gcd_dvd_left _ _)
    have hdp := dvs_pos O ((siz L t.1 + siz L t.2) / (Int.gcd (siz L t.1) (siz L t.2) : Int)).toNat (List.mem_map.mpr ⟨t, List.mem_of_getElem? e1, rfl⟩)
    unfold szD
    walk_at "go"
    refine ⟨?_, by walk_at "wk"⟩
    rw [List.getElem?_map]
    unfold dvs
    rw [List.getElem?_map, e1]
    show some (PyData.int ((((siz L t.1 + siz L t.2) / (Int.gcd (siz L t.1) (siz L t.2) : Int)).toNat : Nat) : Int)) = _
    rw [Int.toNat_of_nonneg (by omega)]
  · walk_at "go"
    rfl
local macro_rules | `(tactic| walk_at "con") => `(tactic| ((with_reducible show S_divisors_of _ _); unfold S_divisors_of; exact ⟨_, _, rfl, by walk_at "pf", rfl⟩))
/-! ### remaining_factor -/
abbrev N_remaining_factor : List Str := ["number", "sums", "one", "both"]
theorem sc_remaining_factor : FnScope N_remaining_factor ["number", "sums"] (defScope s_remaining_factor) := ⟨rfl, rfl, rfl, by decide +kernel, rfl, by decide +kernel, by decide +kernel⟩
def S_remaining_factor : Con := fun as r => ∃ (n : Nat) (l : List Nat), as = [.d (.int n), .d (.list (l.map fun s => .int (s : Nat)))] ∧ 0 < n ∧ Bt 8999 n ∧ (∀ s ∈ l, 0 < s ∧ s < 256) ∧ r = .int (remN n l : Nat)
theorem ok_remaining_factor {P : Program} {w : World} {K : PySem.W.Frag} {mg : Str → Option Value} {base : Heap} {f : Addr} {fd : FuncData} (FD : FnP K "remaining_factor" s_remaining_factor f fd) (c_gcd : Callable P w K mg base "gcd" 1 (spR K 2 S_gcd)) : FnOk P w K mg base CX0 2 f fd ["number", "sums"] (spR K 2 S_remaining_factor) := by
  refine fn_ok FD sc_remaining_factor rfl ?_
  intro X e1 e2 e3 e4 e5 hp F C as r hS hl hW
  subst e1 e2 e3 e4 e5
  obtain ⟨n, l, rfl, hn0, hn1, hl2, rfl⟩ := hS
  have n0 : Nm X 0 "number" := F.nm (by decide +kernel)
  have l0 : Lc X 0 "number" := F.lc (by decide +kernel)
  have n1 : Nm X 1 "sums" := F.nm (by decide +kernel)
  have n2 : Nm X 2 "one" := F.nm (by decide +kernel)
  have l2 : Lc X 2 "one" := F.lc (by decide +kernel)
  have n3 : Nm X 3 "both" := F.nm (by decide +kernel)
  have l3 : Lc X 3 "both" := F.lc (by decide +kernel)
  have g_gcd : Gn X "gcd" := F.gn (by decide +kernel)
  have d_gcd : Cal X "gcd" 1 (spR X.K 2 S_gcd) := c_gcd.mono (by decide)
  walk_at "text"
  walk_at "env"
  refine AL.ess_cut (R := fun g => ∃ e2 e3, g = [.im (.int (remN n l : Nat)), .im (.list (l.map fun s => .int (s : Nat))), e2, e3]) ?_ ?_
  · refine AL.es_for hp (by walk_at "calm") ?_
    refine AL.ei_list ?_
    walk_at "go"
    refine ⟨fun i g => ∃ e2 e3, g = [.im (.int (remN n (l.take i) : Nat)), .im (.list (l.map fun s => .int (s : Nat))), e2, e3], ⟨_, _, rfl⟩, ?_, ?_⟩
    · rintro i d g' e ⟨e2, e3, rfl⟩
      rw [List.getElem?_map, Option.map_eq_some_iff] at e
      obtain ⟨s, e1, rfl⟩ := e
      obtain ⟨s0, s1⟩ := hl2 s (List.mem_of_getElem? e1)
      have hrt := remN_take (n := n) e1
      obtain ⟨r0, r1⟩ := remN_pos hn0 (l.take i)
      generalize remN n (l.take i) = m at hrt r0 r1 ⊢
      refine AL.eg_d (by walk_at "lc") (by walk_at "se") ?_
      refine AL.ess_cut (R := fun g => g = [.im (.int (m : Nat)), .im (.list (l.map fun s => .int (s : Nat))), .im (.int (s : Nat)), .im (.int (Nat.gcd m s : Nat))]) (by walk_at "go"; rfl) ?_
      rintro _ rfl
      refine AL.ess_one ?_
      refine AL.es_while hp (fun z g => ∃ f k : Nat, remG f k s = remOne m s ∧ k ≤ f ∧ 0 < k ∧ k ≤ m ∧ z = k ∧ g = [.im (.int (k : Nat)), .im (.list (l.map fun s => .int (s : Nat))), .im (.int (s : Nat)), .im (.int (Nat.gcd k s : Nat))]) ⟨_, m, m, rfl, Nat.le_refl _, r0, Nat.le_refl _, rfl, rfl⟩ ?_
      rintro z g ⟨f, z, f1, f2, k0, k1, rfl, rfl⟩
      have gl := Nat.gcd_le_right (m := z) (n := s) s0
      walk_at "go"
      · rename_i h
        have hf : f = f - 1 + 1 := by omega
        have h1 : 1 < Nat.gcd z s := by omega
        have hd := Nat.div_lt_self k0 h1
        have hp := Nat.div_pos (Nat.le_of_dvd k0 (Nat.gcd_dvd_left z s)) (show 0 < Nat.gcd z s by omega)
        rw [hf] at f1
        have f1 : (if 1 < Nat.gcd z s then remG (f - 1) (z / Nat.gcd z s) s else z) = remOne m s := f1
        rw [if_pos h1] at f1
        exact ⟨z / Nat.gcd z s, hd, f - 1, z / Nat.gcd z s, f1, by omega, hp, by omega, rfl, rfl⟩
      · rename_i h
        have hf : f = f - 1 + 1 := by omega
        rw [hf] at f1
        have f1 : (if 1 < Nat.gcd z s then remG (f - 1) (z / Nat.gcd z s) s else z) = remOne m s := f1
        rw [if_neg (by omega)] at f1
        exact ⟨_, _, by rw [hrt, ← f1]⟩
    · rintro g' ⟨e2, e3, rfl⟩
      rw [List.length_map, List.take_length]
      exact ⟨_, _, rfl⟩
  rintro _ ⟨e2, e3, rfl⟩
  walk_at "go"
  rfl
local macro_rules | `(tactic| walk_at "con") => `(tactic| ((with_reducible show S_remaining_factor _ _); unfold S_remaining_factor; exact ⟨_, _, rfl, by walk_at "pf", by walk_at "pf", by walk_at "pf", rfl⟩))
/-! ### foreign_factor -/
abbrev N_foreign_factor : List Str := ["state", "other", "step", "sums", "block", "size", "temperature", "more", "number"]
theorem sc_foreign_factor : FnScope N_foreign_factor ["state", "other"] (defScope s_foreign_factor) := ⟨rfl, rfl, rfl, by decide +kernel, rfl, by decide +kernel, by decide +kernel⟩
def S_foreign_factor : Con := fun as r => ∃ L M, as = [.d (stD L), .d (stD M)] ∧ OkSt 900 L ∧ OkSt 900 M ∧ r = frgD L M
theorem ok_foreign_factor {P : Program} {w : World} {K : PySem.W.Frag} {mg : Str → Option Value} {base : Heap} {f : Addr} {fd : FuncData} (FD : FnP K "foreign_factor" s_foreign_factor f fd) (c_common_step : Callable P w K mg base "common_step" 4 (spR K 1 S_common_step)) (c_divisors_of : Callable P w K mg base "divisors_of" 2 (spR K 1 S_divisors_of)) (c_sizes_of : Callable P w K mg base "sizes_of" 1 (spR K 1 S_sizes_of)) (c_fraction_difference : Callable P w K mg base "fraction_difference" 3 (spR K 2 S_fraction_difference)) (c_remaining_factor : Callable P w K mg base "remaining_factor" 2 (spR K 2 S_remaining_factor)) (c_reduced : Callable P w K mg base "reduced" 2 (spR K 2 S_reduced)) (t_ZERO : TupC K mg "ZERO" [0, 1]) (b_enumerate : mg "enumerate" = none) : FnOk P w K mg base CX0 5 f fd ["state", "other"] (spR K 2 S_foreign_factor) := by
  refine fn_ok FD sc_foreign_factor rfl ?_
  intro X e1 e2 e3 e4 e5 hp F C as r hS hl hW
  subst e1 e2 e3 e4 e5
  obtain ⟨L, M, rfl, O, O2, rfl⟩ := hS
  have O3 : OkSt 1900 L := O.mono (by decide)
  have hm := O.most
  have hm2 := O2.most
  have h0 : 0 < L.length := O.one
  have n0 : Nm X 0 "state" := F.nm (by decide +kernel)
  have n1 : Nm X 1 "other" := F.nm (by decide +kernel)
  have n2 : Nm X 2 "step" := F.nm (by decide +kernel)
  have l2 : Lc X 2 "step" := F.lc (by decide +kernel)
  have n3 : Nm X 3 "sums" := F.nm (by decide +kernel)
  have l3 : Lc X 3 "sums" := F.lc (by decide +kernel)
  have n4 : Nm X 4 "block" := F.nm (by decide +kernel)
  have l4 : Lc X 4 "block" := F.lc (by decide +kernel)
  have n5 : Nm X 5 "size" := F.nm (by decide +kernel)
  have l5 : Lc X 5 "size" := F.lc (by decide +kernel)
  have n6 : Nm X 6 "temperature" := F.nm (by decide +kernel)
  have l6 : Lc X 6 "temperature" := F.lc (by decide +kernel)
  have n7 : Nm X 7 "more" := F.nm (by decide +kernel)
  have l7 : Lc X 7 "more" := F.lc (by decide +kernel)
  have n8 : Nm X 8 "number" := F.nm (by decide +kernel)
  have l8 : Lc X 8 "number" := F.lc (by decide +kernel)
  have g_common_step : Gn X "common_step" := F.gn (by decide +kernel)
  have g_divisors_of : Gn X "divisors_of" := F.gn (by decide +kernel)
  have g_sizes_of : Gn X "sizes_of" := F.gn (by decide +kernel)
  have g_fraction_difference : Gn X "fraction_difference" := F.gn (by decide +kernel)
  have g_remaining_factor : Gn X "remaining_factor" := F.gn (by decide +kernel)
  have g_reduced : Gn X "reduced" := F.gn (by decide +kernel)
  have d_common_step : Cal X "common_step" 4 (spR X.K 1 S_common_step) := c_common_step.mono (by decide)
  have d_divisors_of : Cal X "divisors_of" 4 (spR X.K 1 S_divisors_of) := c_divisors_of.mono (by decide)
  have d_sizes_of : Cal X "sizes_of" 4 (spR X.K 1 S_sizes_of) := c_sizes_of.mono (by decide)
  have d_fraction_difference : Cal X "fraction_difference" 4 (spR X.K 2 S_fraction_difference) := c_fraction_difference.mono (by decide)
  have d_remaining_factor : Cal X "remaining_factor" 4 (spR X.K 2 S_remaining_factor) := c_remaining_factor.mono (by decide)
  have d_reduced : Cal X "reduced" 4 (spR X.K 2 S_reduced) := c_reduced.mono (by decide)
  have g_ZERO : Gn X "ZERO" := F.gn (by decide +kernel)
  have z_enumerate : Bn X "enumerate" := F.bn (by decide +kernel) b_enumerate
  walk_at "text"
  walk_at "env"
  refine AL.ess_cut (R := fun g => g = [.im (stD L), .im (stD M), .im (fr (cstep L)), .no, .no, .no, .no, .no, .no]) (by walk_at "go"; rfl) ?_
  rintro _ rfl
  walk_at "go"
  · rename_i h
    have h2 : cstep L = 0 := fr_eq.mp h
    unfold frgD; rw [if_pos h2]
  · rename_i h
    have h2 : ¬ cstep L = 0 := fun z => h (by rw [z]; exact ⟨rfl, rfl⟩)
    have hcp := cst_pos h2
    refine AL.es_for hp (by walk_at "calm") ?_
    walk_at "go"
    refine ⟨fun i g => (∀ k, k < i → frg L M k ≤ 1) ∧ ∃ e4 e5 e6 e7 e8, g = [.im (stD L), .im (stD M), .im (fr (cstep L)), .im (.list ((dvs L).map fun s => .int (s : Nat))), e4, e5, e6, e7, e8], ⟨by omega, _, _, _, _, _, rfl⟩, ?_, ?_⟩
    · rintro i d g' e ⟨hno, e4, e5, e6, e7, e8, rfl⟩
      obtain ⟨d, e1, rfl⟩ := enumD_get e
      rw [List.getElem?_map, Option.map_eq_some_iff] at e1
      obtain ⟨p, e1, rfl⟩ := e1
      obtain ⟨hi, hp1, hp2⟩ := blk_at e1
      obtain ⟨b1, b2⟩ := frg_bt O O2 (by decide) hi
      have r0 := O.rb h0
      have r1 := O2.rb hi
      rw [← hp2] at r1
      have ix0 := at_st h0
      have y1 := (r1.mono (m := 4400) (by decide)).1
      have y2 := (r1.mono (m := 4400) (by decide)).2
      have y3 := (r0.mono (m := 4400) (by decide)).1
      have y4 := (r0.mono (m := 4400) (by decide)).2
      have y5 := den_pos p.2
      have y6 := den_pos (tmp L 0)
      obtain ⟨w, hw⟩ : ∃ w, w = Rat.divInt (p.2.num * ((tmp L 0).den : Int) - (tmp L 0).num * (p.2.den : Int)) ((p.2.den : Int) * ((tmp L 0).den : Int)) := ⟨_, rfl⟩
      have hw2 : w = tmp M i - tmp L 0 := by rw [← hp2]; exact hw.trans (di_sub _ _)
      rw [← hw2] at b1
      have z1 := b1.1
      have z2 := b1.2
      have z3 := b2.1
      have z4 := b2.2
      have z5 : 0 < (w.den : Int) * (cstep L).num := Int.mul_pos (den_pos _) hcp
      have z6 : Bt 8999 ((w.den : Int) * (cstep L).num) := (z2.mul z3).mono (by decide)
      have z7 : Bt 8999 (w.num * ((cstep L).den : Int)) := (z1.mul z4).mono (by decide)
      have hfr : frg L M i = remN (Rat.divInt (w.num * ((cstep L).den : Int)) ((w.den : Int) * (cstep L).num)).den (dvs L) := by unfold frg; rw [hw2]
      obtain ⟨u, hu⟩ : ∃ u, u = Rat.divInt (w.num * ((cstep L).den : Int)) ((w.den : Int) * (cstep L).num) := ⟨_, rfl⟩
      have hub : Rb 8999 u := by rw [hu]; exact Rb.di z7 z6 z5
      have u1 := hub.2
      have u2 := u.den_pos
      have hdp := dvs_pos O
      rw [← hu] at hfr
      walk_at "go"
      rw [← hw]
      walk_at "go"
      · rw [← hu]
        walk_at "go"
        · rename_i hgt
          rw [← hfr] at hgt ⊢
          unfold frgD
          rw [if_neg h2, frg_find hi (k := i) (decide_eq_true (by omega)) fun j hj => decide_eq_false (by have := hno j hj; omega)]
        · rename_i hgt
          rw [← hfr] at hgt
          refine ⟨fun k hk => ?_, _, _, _, _, _, rfl⟩
          by_cases hki : k < i
          · exact hno k hki
          · have : k = i := by omega
            subst this
            omega
    · rintro g' ⟨hno, e4, e5, e6, e7, e8, rfl⟩
      walk_at "go"
      rw [enumD_len, List.length_map] at hno
      unfold frgD
      rw [if_neg h2, frg_none fun j hj => decide_eq_false (by have := hno j hj; omega)]
local macro_rules | `(tactic| walk_at "con") => `(tactic| ((with_reducible show S_foreign_factor _ _); unfold S_foreign_factor; exact ⟨_, _, rfl, by walk_at "pf", by walk_at "pf", rfl⟩))
/-! ### reason_for -/
abbrev N_reason_for : List Str := ["state", "other", "size", "temperature"]
theorem sc_reason_for : FnScope N_reason_for ["state", "other"] (defScope s_reason_for) := ⟨rfl, rfl, rfl, by decide +kernel, rfl, by decide +kernel, by decide +kernel⟩
def S_reason_for : Con := fun as r => ∃ L M, as = [.d (stD L), .d (stD M)] ∧ OkSt 900 L ∧ OkSt 900 M ∧ r = reaD L M
theorem ok_reason_for {P : Program} {w : World} {K : PySem.W.Frag} {mg : Str → Option Value} {base : Heap} {f : Addr} {fd : FuncData} (FD : FnP K "reason_for" s_reason_for f fd) (c_sizes_of : Callable P w K mg base "sizes_of" 1 (spR K 1 S_sizes_of)) (c_heat_of : Callable P w K mg base "heat_of" 5 (spR K 1 S_heat_of)) (c_first_excess : Callable P w K mg base "first_excess" 5 (spR K 2 S_first_excess)) (c_foreign_factor : Callable P w K mg base "foreign_factor" 5 (spR K 2 S_foreign_factor)) (b_len : mg "len" = none) (b_set : mg "set" = none) : FnOk P w K mg base CX0 6 f fd ["state", "other"] (spR K 2 S_reason_for) := by
  refine fn_ok FD sc_reason_for rfl ?_
  intro X e1 e2 e3 e4 e5 hp F C as r hS hl hW
  subst e1 e2 e3 e4 e5
  obtain ⟨L, M, rfl, O, O2, rfl⟩ := hS
  have O3 : OkSt 1900 L := O.mono (by decide)
  have O4 : OkSt 1900 M := O2.mono (by decide)
  have hm := O.most
  have hm2 := O2.most
  have n0 : Nm X 0 "state" := F.nm (by decide +kernel)
  have n1 : Nm X 1 "other" := F.nm (by decide +kernel)
  have n2 : Nm X 2 "size" := F.nm (by decide +kernel)
  have l2 : Lc X 2 "size" := F.lc (by decide +kernel)
  have o2 : IxN N_reason_for 2 "size" := rfl
  have o3 : IxN N_reason_for 3 "temperature" := rfl
  have g_sizes_of : Gn X "sizes_of" := F.gn (by decide +kernel)
  have g_heat_of : Gn X "heat_of" := F.gn (by decide +kernel)
  have g_first_excess : Gn X "first_excess" := F.gn (by decide +kernel)
  have g_foreign_factor : Gn X "foreign_factor" := F.gn (by decide +kernel)
  have d_sizes_of : Cal X "sizes_of" 5 (spR X.K 1 S_sizes_of) := c_sizes_of.mono (by decide)
  have d_heat_of : Cal X "heat_of" 5 (spR X.K 1 S_heat_of) := c_heat_of.mono (by decide)
  have d_first_excess : Cal X "first_excess" 5 (spR X.K 2 S_first_excess) := c_first_excess.mono (by decide)
  have d_foreign_factor : Cal X "foreign_factor" 5 (spR X.K 2 S_foreign_factor) := c_foreign_factor.mono (by decide)
  have z_len : Bn X "len" := F.bn (by decide +kernel) b_len
  have z_set : Bn X "set" := F.bn (by decide +kernel) b_set
  walk_at "text"
  walk_at "env"
  refine AL.ess_cut (R := fun g => szD L = szD M ∧ g = [.im (stD L), .im (stD M), .no, .no]) ?_ ?_
  · walk_at "go"
    refine AL.ra_or1 (AL.ra_neP (k := 1) rfl rfl (szD_plain L) (szD_plain M) (by decide) fun b hb => ?_)
    refine ⟨b, rfl, AL.br_b (fun h => ?_) (fun h => ?_)⟩
    · have hne : ¬ szD L = szD M := hb.mp h
      walk_at "go"
      unfold reaD
      rw [if_pos (fun z => hne (szD_iff.mpr z))]
    · have he : szD L = szD M := Classical.byContradiction fun z => by rw [hb.mpr z] at h; cases h
      walk_at "go"
      exact ⟨he, rfl⟩
  rintro _ ⟨hsz, rfl⟩
  have hsz2 := szD_iff.mp hsz
  have hle := szD_len hsz
  refine AL.ess_cut (R := fun g => heatF L = heatF M ∧ g = [.im (stD L), .im (stD M), .no, .no]) ?_ ?_
  · walk_at "go"
    · rename_i h
      exact ⟨fr_eq.mp h, rfl⟩
    · rename_i h
      unfold reaD
      rw [if_neg (fun z => z hsz2), if_pos (fun z => h (fr_eq.mpr z))]
  rintro _ ⟨hht, rfl⟩
  refine AL.ess_cut (R := fun g => g = [.im (stD L), .im (stD M), .im (optI (fexc L M)), .no]) (by walk_at "go"; rfl) ?_
  rintro _ rfl
  cases hf : fexc L M with
  | some x =>
    rw [show optI (some x) = PyData.int x from rfl]
    walk_at "go"
    unfold reaD
    rw [if_neg (fun z => z hsz2), if_neg (fun z => z hht), hf]
  | none =>
    rw [show optI none = PyData.none from rfl]
    have hr : reaD L M = if M ≠ L ∧ (M.map (·.2)).Nodup then .tuple [.str "last"] else frgD L M := by
      unfold reaD
      rw [if_neg (fun z => z hsz2), if_neg (fun z => z hht), hf]
    rw [hr]
    walk_at "go"
    refine AL.ra_or1 (AL.ra_neP (k := 3) rfl rfl (stD_plain M) (stD_plain L) (by decide) fun b hb => ?_)
    refine ⟨b, rfl, AL.br_b (fun h => ?_) (fun h => ?_)⟩
    · have hne : M ≠ L := fun z => (hb.mp h) (by rw [z])
      walk_at "go"
      refine AL.ee_en (AL.en_lc F [("size", 2), ("temperature", 3)] (by decide +kernel) ?_)
      walk_at "go"
      refine AL.lcMap (rs := (tmK M).map tupD) (by walk_at "wipe") (by rw [List.length_map, List.length_map, tmK_len]) (by rw [List.length_map]; omega) ?_ ?_
      · intro C' k d e
        rw [List.getElem?_map, Option.map_eq_some_iff] at e
        obtain ⟨p, e1, rfl⟩ := e
        walk_at "go"
        refine ⟨?_, by walk_at "wk"⟩
        rw [List.getElem?_map]
        unfold tmK
        rw [List.getElem?_map, e1]; rfl
      · refine ⟨tmK M, .inl rfl, by rw [tmK_len]; omega, fun D d1 d2 => ?_⟩
        have hnd := (nodup_iff_len d1 d2).trans tmK_nodup
        rw [tmK_len] at hnd
        have hl0 : (List.map blk M).length = M.length := List.length_map ..
        walk_at "go"
        · rename_i h3
          rw [if_pos ⟨hne, hnd.mp (by omega)⟩]
        · rename_i h3
          rw [if_neg (fun z => h3 (by have := hnd.mpr z.2; omega))]
    · have he : M = L := Classical.byContradiction fun z => by rw [hb.mpr (fun q => z (stD_inj.mp q))] at h; cases h
      walk_at "go"
      rw [if_neg (fun z => z.1 he)]
local macro_rules | `(tactic| walk_at "con") => `(tactic| ((with_reducible show S_reason_for _ _); unfold S_reason_for; exact ⟨_, _, rfl, by walk_at "pf", by walk_at "pf", rfl⟩))
/-! ### unreachable_reason -/
abbrev N_unreachable_reason : List Str := ["state", "target"]
theorem sc_unreachable_reason : FnScope N_unreachable_reason ["state", "target"] (defScope s_unreachable_reason) := ⟨rfl, rfl, rfl, by decide +kernel, rfl, by decide +kernel, by decide +kernel⟩
def S_unreachable_reason : Con := fun as r => ∃ L M, as = [.d (stD L), .d (stD M)] ∧ OkSt 900 L ∧ OkSt 900 M ∧ r = reaD L M
theorem ok_unreachable_reason {P : Program} {w : World} {K : PySem.W.Frag} {mg : Str → Option Value} {base : Heap} {f : Addr} {fd : FuncData} (FD : FnP K "unreachable_reason" s_unreachable_reason f fd) (c_check_state : Callable P w K mg base "check_state" 6 (spR K 1 S_check_state)) (c_reason_for : Callable P w K mg base "reason_for" 6 (spR K 2 S_reason_for)) : FnOk P w K mg base CX0 7 f fd ["state", "target"] (spR K 2 S_unreachable_reason) := by
  refine fn_ok FD sc_unreachable_reason rfl ?_
  intro X e1 e2 e3 e4 e5 hp F C as r hS hl hW
  subst e1 e2 e3 e4 e5
  obtain ⟨L, M, rfl, O, O2, rfl⟩ := hS
  have n0 : Nm X 0 "state" := F.nm (by decide +kernel)
  have n1 : Nm X 1 "target" := F.nm (by decide +kernel)
  have g_check_state : Gn X "check_state" := F.gn (by decide +kernel)
  have g_reason_for : Gn X "reason_for" := F.gn (by decide +kernel)
  have d_check_state : Cal X "check_state" 6 (spR X.K 1 S_check_state) := c_check_state.mono (by decide)
  have d_reason_for : Cal X "reason_for" 6 (spR X.K 2 S_reason_for) := c_reason_for.mono (by decide)
  walk_at "text"
  walk_at "env"
  refine AL.ess_cut (R := fun g => g = [.im (stD L), .im (stD M)]) (by walk_at "go"; rfl) ?_
  rintro _ rfl
  refine AL.ess_cut (R := fun g => g = [.im (stD L), .im (stD M)]) (by walk_at "go"; rfl) ?_
  rintro _ rfl
  walk_at "go"
  rfl
local macro_rules | `(tactic| walk_at "con") => `(tactic| ((with_reducible show S_unreachable_reason _ _); unfold S_unreachable_reason; exact ⟨_, _, rfl, by walk_at "pf", by walk_at "pf", rfl⟩))
/-! ### _law_pool -/
abbrev N_w_pool : List Str := ["_law_script", "_law_k", "_law_cell", "_law_blend"]
theorem sc_w_pool : FnScope N_w_pool ["_law_script", "_law_k"] (defScope s_w_pool) := ⟨rfl, rfl, rfl, by decide +kernel, rfl, by decide +kernel, by decide +kernel⟩
def S_w_pool : List Ar → List PyData → Prop := fun as r => ∃ ns k, as = [.d (scr ns), .d (.int (k : Nat))] ∧ k < 64 ∧ r = (pool ns k).ds
theorem ok_w_pool {P : Program} {w : World} {K : PySem.W.Frag} {mg : Str → Option Value} {base : Heap} {f : Addr} {fd : FuncData} (FD : FnP K "_law_pool" s_w_pool f fd) (b_len : mg "len" = none) (b_abs : mg "abs" = none) (b_int : mg "int" = none) : FnOk P w K mg base CX0 1 f fd ["_law_script", "_law_k"] (spN K 2 S_w_pool) := by
  refine fn_okN FD sc_w_pool rfl ?_
  intro X e1 e2 e3 e4 e5 hp F C as r hS hl hW
  subst e1 e2 e3 e4 e5
  obtain ⟨ns, k, rfl, hk, rfl⟩ := hS
  have n0 : Nm X 0 "_law_script" := F.nm (by decide +kernel)
  have n1 : Nm X 1 "_law_k" := F.nm (by decide +kernel)
  have n2 : Nm X 2 "_law_cell" := F.nm (by decide +kernel)
  have l2 : Lc X 2 "_law_cell" := F.lc (by decide +kernel)
  have n3 : Nm X 3 "_law_blend" := F.nm (by decide +kernel)
  have l3 : Lc X 3 "_law_blend" := F.lc (by decide +kernel)
  have z_len : Bn X "len" := F.bn (by decide +kernel) b_len
  have z_abs : Bn X "abs" := F.bn (by decide +kernel) b_abs
  have z_int : Bn X "int" := F.bn (by decide +kernel) b_int
  walk_at "text"
  walk_at "env"
  by_cases hk2 : k < ns.length
  · have hix : ns[((k : Nat) : Int).toNat]? = some (ns.getD k 0) := by rw [Int.toNat_natCast]; simp [hk2]
    have hc : cellS ns k = (if ns.getD k 0 < 0 then -(ns.getD k 0) else ns.getD k 0) := by unfold cellS; rw [if_pos hk2, abs_if]
    walk_at "go"
    all_goals try (exfalso; omega)
    refine AL.es_retL ?_
    walk_at "go"
    unfold pool
    rw [hc]; rfl
  · walk_at "go"
    all_goals try (exfalso; omega)
    refine AL.es_retL ?_
    walk_at "go"
    unfold pool
    rw [show cellS ns k = 0 from if_neg hk2]; rfl
local macro_rules | `(tactic| walk_at "con") => `(tactic| ((with_reducible show S_w_pool _ _); unfold S_w_pool; exact ⟨_, _, rfl, by walk_at "pf", rfl⟩))
/-! ### _law_take -/
abbrev N_w_take : List Str := ["_law_pool_here", "_law_sides", "_law_found"]
theorem sc_w_take : FnScope N_w_take ["_law_pool_here", "_law_sides"] (defScope s_w_take) := ⟨rfl, rfl, rfl, by decide +kernel, rfl, by decide +kernel, by decide +kernel⟩
def S_w_take : ConM := fun ds as r ds' => ∃ (p : Pl) (v : Int), ds = p.ds ∧ as = [.d (.int v)] ∧ p.Ok ∧ 0 < v ∧ v < 2 ^ 40 ∧ r = .int (pick p v) ∧ ds' = (left p v).ds
theorem ok_w_take {P : Program} {w : World} {K : PySem.W.Frag} {mg : Str → Option Value} {base : Heap} {f : Addr} {fd : FuncData} (FD : FnP K "_law_take" s_w_take f fd) : FnOk P w K mg base CX0 1 f fd ["_law_pool_here", "_law_sides"] (spM K 2 S_w_take) := by
  refine fn_okM FD sc_w_take rfl ?_
  intro X e1 e2 e3 e4 e5 hp F C ds as r ds' hS hl
  subst e1 e2 e3 e4 e5
  obtain ⟨p, v, rfl, rfl, O, h0, h1, rfl, rfl⟩ := hS
  have y0 := O.y0
  have y1 := O.y1
  have n0 : Nm X 0 "_law_pool_here" := F.nm (by decide +kernel)
  have n1 : Nm X 1 "_law_sides" := F.nm (by decide +kernel)
  have n2 : Nm X 2 "_law_found" := F.nm (by decide +kernel)
  have l2 : Lc X 2 "_law_found" := F.lc (by decide +kernel)
  walk_at "text"
  walk_at "env"
  walk_at "go"
  · rename_i h
    refine ⟨AL.ret_d ?_, ?_⟩
    · unfold pick; rw [if_pos h]
    · unfold left; rw [if_pos h]; rfl
  · rename_i h
    refine ⟨AL.ret_d ?_, ?_⟩
    · unfold pick; rw [if_neg h]
    · unfold left; rw [if_neg h]; rfl
local macro_rules | `(tactic| walk_at "con") => `(tactic| ((with_reducible show S_w_take _ _ _ _); unfold S_w_take; exact ⟨_, _, rfl, rfl, by walk_at "pok", by walk_at "pf", by walk_at "pf", rfl, rfl⟩))
/-! ### _law_low -/
abbrev N_w_low : List Str := ["_law_top", "_law_bottom", "_law_one", "_law_two"]
theorem sc_w_low : FnScope N_w_low ["_law_top", "_law_bottom"] (defScope s_w_low) := ⟨rfl, rfl, rfl, by decide +kernel, rfl, by decide +kernel, by decide +kernel⟩
def S_w_low : Con := fun as r => ∃ a b : Int, as = [.d (.int a), .d (.int b)] ∧ 0 < b ∧ Bt 8999 b ∧ r = fr (Rat.divInt a b)
theorem ok_w_low {P : Program} {w : World} {K : PySem.W.Frag} {mg : Str → Option Value} {base : Heap} {f : Addr} {fd : FuncData} (FD : FnP K "_law_low" s_w_low f fd) (b_abs : mg "abs" = none) : FnOk P w K mg base CX0 1 f fd ["_law_top", "_law_bottom"] (spR K 2 S_w_low) := by
  refine fn_ok FD sc_w_low rfl ?_
  intro X e1 e2 e3 e4 e5 hp F C as r hS hl hW
  subst e1 e2 e3 e4 e5
  obtain ⟨a, b, rfl, hb, hz, rfl⟩ := hS
  have h1 := gcd_pos (a := a) hb
  have h2 := Bt.gcd (a := a) hz hb
  have n0 : Nm X 0 "_law_top" := F.nm (by decide +kernel)
  have n1 : Nm X 1 "_law_bottom" := F.nm (by decide +kernel)
  have n2 : Nm X 2 "_law_one" := F.nm (by decide +kernel)
  have l2 : Lc X 2 "_law_one" := F.lc (by decide +kernel)
  have n3 : Nm X 3 "_law_two" := F.nm (by decide +kernel)
  have l3 : Lc X 3 "_law_two" := F.lc (by decide +kernel)
  have z_abs : Bn X "abs" := F.bn (by decide +kernel) b_abs
  walk_at "text"
  walk_at "env"
  walk_at "go"
  refine AL.es_while hp (fun m g => ∃ x y : Nat, g = [.im (.int a), .im (.int b), .im (.int x), .im (.int y)] ∧ x.gcd y = a.gcd b ∧ m = y) ⟨_, a.natAbs, b.natAbs, by rw [AL.abs_if, Int.natAbs_of_nonneg (Int.le_of_lt hb)], rfl, rfl⟩ ?_
  rintro m g ⟨x, y, rfl, e, rfl⟩
  walk_at "go"
  · have hm : m = 0 := by omega
    subst hm
    rw [Nat.gcd_zero_right] at e
    subst e
    walk_at "go"
    exact fr_mk a b hb
  · refine ⟨x % m, Nat.mod_lt _ (by omega), m, x % m, by rw [Int.natCast_emod], ?_, rfl⟩
    rw [Nat.gcd_comm, ← Nat.gcd_rec, Nat.gcd_comm]; exact e
local macro_rules | `(tactic| walk_at "con") => `(tactic| ((with_reducible show S_w_low _ _); unfold S_w_low; exact ⟨_, _, rfl, by walk_at "pf", by walk_at "pf", rfl⟩))
/-! ### _law_plus -/
abbrev N_w_plus : List Str := ["_law_one", "_law_two"]
theorem sc_w_plus : FnScope N_w_plus ["_law_one", "_law_two"] (defScope s_w_plus) := ⟨rfl, rfl, rfl, by decide +kernel, rfl, by decide +kernel, by decide +kernel⟩
def S_w_plus : Con := fun as r => ∃ d e p q, as = [.d d, .d e] ∧ IsFr d p ∧ IsFr e q ∧ Rb 4400 p ∧ Rb 4400 q ∧ r = fr (p + q)
theorem ok_w_plus {P : Program} {w : World} {K : PySem.W.Frag} {mg : Str → Option Value} {base : Heap} {f : Addr} {fd : FuncData} (FD : FnP K "_law_plus" s_w_plus f fd) (c_w_low : Callable P w K mg base "_law_low" 1 (spR K 2 S_w_low)) : FnOk P w K mg base CX0 2 f fd ["_law_one", "_law_two"] (spR K 2 S_w_plus) := by
  refine fn_ok FD sc_w_plus rfl ?_
  intro X e1 e2 e3 e4 e5 hp F C as r hS hl hW
  subst e1 e2 e3 e4 e5
  obtain ⟨d, e, p, q, rfl, h1, h2, z1, z2, rfl⟩ := hS
  obtain rfl : d = fr p := h1
  obtain rfl : e = fr q := h2
  have y1 := z1.1
  have y2 := z1.2
  have y3 := z2.1
  have y4 := z2.2
  have h1 : 0 < (p.den : Int) * (q.den : Int) := Int.mul_pos (den_pos p) (den_pos q)
  have h2 : Bt 8999 ((p.den : Int) * (q.den : Int)) := (y2.mul y4).mono (by decide)
  have n0 : Nm X 0 "_law_one" := F.nm (by decide +kernel)
  have n1 : Nm X 1 "_law_two" := F.nm (by decide +kernel)
  have g_w_low : Gn X "_law_low" := F.gn (by decide +kernel)
  have d_w_low : Cal X "_law_low" 1 (spR X.K 2 S_w_low) := c_w_low.mono (by decide)
  walk_at "text"
  walk_at "env"
  walk_at "go"
  rw [di_add]
local macro_rules | `(tactic| walk_at "con") => `(tactic| ((with_reducible show S_w_plus _ _); unfold S_w_plus; exact ⟨_, _, _, _, rfl, by walk_at "isfr", by walk_at "isfr", by walk_at "pf", by walk_at "pf", rfl⟩))
/-! ### _law_times -/
abbrev N_w_times : List Str := ["_law_one", "_law_two"]
theorem sc_w_times : FnScope N_w_times ["_law_one", "_law_two"] (defScope s_w_times) := ⟨rfl, rfl, rfl, by decide +kernel, rfl, by decide +kernel, by decide +kernel⟩
def S_w_times : Con := fun as r => ∃ d e p q, as = [.d d, .d e] ∧ IsFr d p ∧ IsFr e q ∧ Rb 4400 p ∧ Rb 4400 q ∧ r = fr (p * q)
theorem ok_w_times {P : Program} {w : World} {K : PySem.W.Frag} {mg : Str → Option Value} {base : Heap} {f : Addr} {fd : FuncData} (FD : FnP K "_law_times" s_w_times f fd) (c_w_low : Callable P w K mg base "_law_low" 1 (spR K 2 S_w_low)) : FnOk P w K mg base CX0 2 f fd ["_law_one", "_law_two"] (spR K 2 S_w_times) := by
  refine fn_ok FD sc_w_times rfl ?_
  intro X e1 e2 e3 e4 e5 hp F C as r hS hl hW
  subst e1 e2 e3 e4 e5
  obtain ⟨d, e, p, q, rfl, h1, h2, z1, z2, rfl⟩ := hS
  obtain rfl : d = fr p := h1
  obtain rfl : e = fr q := h2
  have y1 := z1.1
  have y2 := z1.2
  have y3 := z2.1
  have y4 := z2.2
  have h1 : 0 < (p.den : Int) * (q.den : Int) := Int.mul_pos (den_pos p) (den_pos q)
  have h2 : Bt 8999 ((p.den : Int) * (q.den : Int)) := (y2.mul y4).mono (by decide)
  have n0 : Nm X 0 "_law_one" := F.nm (by decide +kernel)
  have n1 : Nm X 1 "_law_two" := F.nm (by decide +kernel)
  have g_w_low : Gn X "_law_low" := F.gn (by decide +kernel)
  have d_w_low : Cal X "_law_low" 1 (spR X.K 2 S_w_low) := c_w_low.mono (by decide)
  walk_at "text"
  walk_at "env"
  walk_at "go"
  rw [di_mul]
local macro_rules | `(tactic| walk_at "con") => `(tactic| ((with_reducible show S_w_times _ _); unfold S_w_times; exact ⟨_, _, _, _, rfl, by walk_at "isfr", by walk_at "isfr", by walk_at "pf", by walk_at "pf", rfl⟩))
/-! ### _law_less -/
abbrev N_w_less : List Str := ["_law_one", "_law_two"]
theorem sc_w_less : FnScope N_w_less ["_law_one", "_law_two"] (defScope s_w_less) := ⟨rfl, rfl, rfl, by decide +kernel, rfl, by decide +kernel, by decide +kernel⟩
def S_w_less : Con := fun as r => ∃ p q : Rat, as = [.d (fr p), .d (fr q)] ∧ Rb 4400 p ∧ Rb 4400 q ∧ r = .bool (decide (p < q))
theorem ok_w_less {P : Program} {w : World} {K : PySem.W.Frag} {mg : Str → Option Value} {base : Heap} {f : Addr} {fd : FuncData} (FD : FnP K "_law_less" s_w_less f fd) : FnOk P w K mg base CX0 1 f fd ["_law_one", "_law_two"] (spR K 2 S_w_less) := by
  refine fn_ok FD sc_w_less rfl ?_
  intro X e1 e2 e3 e4 e5 hp F C as r hS hl hW
  subst e1 e2 e3 e4 e5
  obtain ⟨p, q, rfl, z1, z2, rfl⟩ := hS
  have y1 := z1.1
  have y2 := z1.2
  have y3 := z2.1
  have y4 := z2.2
  have n0 : Nm X 0 "_law_one" := F.nm (by decide +kernel)
  have n1 : Nm X 1 "_law_two" := F.nm (by decide +kernel)
  walk_at "text"
  walk_at "env"
  walk_at "go"
  exact congrArg PyData.bool (decide_eq_decide.mpr fr_lt)
local macro_rules | `(tactic| walk_at "con") => `(tactic| ((with_reducible show S_w_less _ _); unfold S_w_less; exact ⟨_, _, rfl, by walk_at "pf", by walk_at "pf", rfl⟩))
/-! ### _law_share -/
abbrev N_w_share : List Str := ["_law_pool_here", "_law_way"]
theorem sc_w_share : FnScope N_w_share ["_law_pool_here"] (defScope s_w_share) := ⟨rfl, rfl, rfl, by decide +kernel, rfl, by decide +kernel, by decide +kernel⟩
def S_w_share : ConM := fun ds as r ds' => ∃ (p : Pl), ds = p.ds ∧ as = [] ∧ p.Ok ∧ r = fr (shareC 1000000 p) ∧ ds' = (sharePC 1000000 p).ds
theorem ok_w_share {P : Program} {w : World} {K : PySem.W.Frag} {mg : Str → Option Value} {base : Heap} {f : Addr} {fd : FuncData} (FD : FnP K "_law_share" s_w_share f fd) (c_w_take : Callable P w K mg base "_law_take" 1 (spM K 2 S_w_take)) (c_w_low : Callable P w K mg base "_law_low" 1 (spR K 2 S_w_low)) : FnOk P w K mg base CX0 2 f fd ["_law_pool_here"] (spM K 1 S_w_share) := by
  refine fn_okM FD sc_w_share rfl ?_
  intro X e1 e2 e3 e4 e5 hp F C ds as r ds' hS hl
  subst e1 e2 e3 e4 e5
  obtain ⟨p, rfl, rfl, O, rfl, rfl⟩ := hS
  have w0 := pick_nn (p := p) (w := 8) (by decide)
  have w1 := pick_lt (p := p) (w := 8) (by decide)
  have q0 := pick_nn (p := left (left p 8) 2000000000) (w := 1000000) (by decide)
  have q1 := pick_lt (p := left (left p 8) 2000000000) (w := 1000000) (by decide)
  have q2 : Bt 8999 (1 + pick (left (left p 8) 2000000000) 1000000) := (show Bt 21 _ by unfold Bt; omega).mono (by decide)
  have d0 := dn7_pos (pick p 8)
  have d1 := d0.1
  have d2 : Bt 8999 (dn7 (pick p 8)) := (show Bt 7 _ by unfold Bt; omega).mono (by decide)
  have n0 : Nm X 0 "_law_pool_here" := F.nm (by decide +kernel)
  have n1 : Nm X 1 "_law_way" := F.nm (by decide +kernel)
  have l1 : Lc X 1 "_law_way" := F.lc (by decide +kernel)
  have g_w_take : Gn X "_law_take" := F.gn (by decide +kernel)
  have g_w_low : Gn X "_law_low" := F.gn (by decide +kernel)
  have d_w_take : Cal X "_law_take" 1 (spM X.K 2 S_w_take) := c_w_take.mono (by decide)
  have d_w_low : Cal X "_law_low" 1 (spR X.K 2 S_w_low) := c_w_low.mono (by decide)
  walk_at "text"
  walk_at "env"
  have hT : (2 : Int) * 1000000000 = 2000000000 := by decide
  have hT2 : (10 : Int) ^ Int.toNat 9 = 1000000000 := by decide
  have hT3 : (10 : Int) ^ Int.toNat 6 = 1000000 := by decide
  walk_at "go"
  · rename_i h
    simp only [hT, hT2, hT3]
    walk_at "go"
    refine ⟨AL.ret_d ?_, ?_⟩
    · unfold shareC; rw [if_pos h]
    · unfold sharePC; rw [if_pos h]; rfl
  · rename_i h
    walk_at "go"
    refine ⟨AL.ret_d ?_, ?_⟩
    · unfold shareC; rw [if_neg h]
    · unfold sharePC; rw [if_neg h]; rfl
local macro_rules | `(tactic| walk_at "con") => `(tactic| ((with_reducible show S_w_share _ _ _ _); unfold S_w_share; exact ⟨_, rfl, rfl, by walk_at "pok", rfl, rfl⟩))
/-! ### _law_lot -/
abbrev N_w_lot : List Str := ["_law_pool_here", "_law_few", "_law_more", "_law_found", "_law_who", "_law_grams"]
theorem sc_w_lot : FnScope N_w_lot ["_law_pool_here", "_law_few", "_law_more"] (defScope s_w_lot) := ⟨rfl, rfl, rfl, by decide +kernel, rfl, by decide +kernel, by decide +kernel⟩
def S_w_lot : ConM := fun ds as r ds' => ∃ (p : Pl) (few more : Int), ds = p.ds ∧ as = [.d (.int few), .d (.int more)] ∧ p.Ok ∧ 0 ≤ few ∧ few ≤ more ∧ more ≤ 12 ∧ r = stD (lotZ 20 few more p) ∧ ds' = (lotPZ 20 few more p).ds
theorem ok_w_lot {P : Program} {w : World} {K : PySem.W.Frag} {mg : Str → Option Value} {base : Heap} {f : Addr} {fd : FuncData} (FD : FnP K "_law_lot" s_w_lot f fd) (c_w_take : Callable P w K mg base "_law_take" 1 (spM K 2 S_w_take)) (c_w_share : Callable P w K mg base "_law_share" 2 (spM K 1 S_w_share)) (b_range : mg "range" = none) (b_tuple : mg "tuple" = none) : FnOk P w K mg base CX0 3 f fd ["_law_pool_here", "_law_few", "_law_more"] (spM K 3 S_w_lot) := by
  refine fn_okM FD sc_w_lot rfl ?_
  intro X e1 e2 e3 e4 e5 hp F C ds as r ds' hS hl
  subst e1 e2 e3 e4 e5
  obtain ⟨p, few, more, rfl, rfl, O, h0, h1, h2, rfl, rfl⟩ := hS
  have w0 := pick_nn (p := p) (w := more - few + 1) (by omega)
  have w1 := pick_lt (p := p) (w := more - few + 1) (by omega)
  have n0 : Nm X 0 "_law_pool_here" := F.nm (by decide +kernel)
  have n1 : Nm X 1 "_law_few" := F.nm (by decide +kernel)
  have n2 : Nm X 2 "_law_more" := F.nm (by decide +kernel)
  have n3 : Nm X 3 "_law_found" := F.nm (by decide +kernel)
  have l3 : Lc X 3 "_law_found" := F.lc (by decide +kernel)
  have n4 : Nm X 4 "_law_who" := F.nm (by decide +kernel)
  have l4 : Lc X 4 "_law_who" := F.lc (by decide +kernel)
  have n5 : Nm X 5 "_law_grams" := F.nm (by decide +kernel)
  have l5 : Lc X 5 "_law_grams" := F.lc (by decide +kernel)
  have g_w_take : Gn X "_law_take" := F.gn (by decide +kernel)
  have g_w_share : Gn X "_law_share" := F.gn (by decide +kernel)
  have d_w_take : Cal X "_law_take" 2 (spM X.K 2 S_w_take) := c_w_take.mono (by decide)
  have d_w_share : Cal X "_law_share" 2 (spM X.K 1 S_w_share) := c_w_share.mono (by decide)
  have z_range : Bn X "range" := F.bn (by decide +kernel) b_range
  have z_tuple : Bn X "tuple" := F.bn (by decide +kernel) b_tuple
  walk_at "text"
  walk_at "env"
  walk_at "go"
  refine AL.es_for hp (by walk_at "calm") ?_
  walk_at "go"
  refine ⟨fun i g => ∃ e4 e5, g = [.ls (some 0) (lotZN 20 i (left p (more - few + 1))).2.ds, .im (.int few), .im (.int more), .ls none ((lotZN 20 i (left p (more - few + 1))).1.map blk), e4, e5], ⟨_, _, rfl⟩, ?_, ?_⟩
  · rintro i d g' e ⟨e4, e5, rfl⟩
    obtain ⟨hi, rfl⟩ := rangeD_get e
    have O2 := lotZN_ok (z := 20) (by decide) (left_ok O (show 0 < more - few + 1 by omega)) i
    have hl := lotZN_len 20 (left p (more - few + 1)) i
    obtain ⟨x, ex⟩ : ∃ x, x = lotZN 20 i (left p (more - few + 1)) := ⟨_, rfl⟩
    have ex2 : lotZN 20 (i + 1) (left p (more - few + 1)) = (x.1 ++ [(sizeZ 20 x.2, shareC 1000000 (sizePZ 20 x.2))], sharePC 1000000 (sizePZ 20 x.2)) := by rw [ex]; rfl
    rw [← ex] at O2 hl ⊢
    have a0 := pick_nn (p := left (left (left x.2 4) 9) 20) (w := 4) (by decide)
    have a1 := pick_lt (p := left (left (left x.2 4) 9) 20) (w := 4) (by decide)
    have hl2 : (x.1.map blk).length < 1000000 := by rw [List.length_map]; omega
    walk_at "go"
    dsimp only
    rw [ex2]
    exact ⟨_, _, by rw [List.map_append]; rfl⟩
  · rintro g' ⟨e4, e5, rfl⟩
    walk_at "go"
    rw [rangeD_len]
    exact ⟨AL.ret_d rfl, rfl⟩
local macro_rules | `(tactic| walk_at "con") => `(tactic| ((with_reducible show S_w_lot _ _ _ _); unfold S_w_lot; exact ⟨_, _, _, rfl, rfl, by walk_at "pok", by walk_at "pf", by walk_at "pf", by walk_at "pf", rfl, rfl⟩))
/-! ### _law_units -/
abbrev N_w_units : List Str := ["_law_heap", "_law_found", "_law_grams", "_law_warmth", "_law_at", "_law_one"]
theorem sc_w_units : FnScope N_w_units ["_law_heap"] (defScope s_w_units) := ⟨rfl, rfl, rfl, by decide +kernel, rfl, by decide +kernel, by decide +kernel⟩
def S_w_units : List Ar → List PyData → Prop := fun as r => ∃ L, as = [.d (stD L)] ∧ OkSt 900 L ∧ r = (unsL L).map fr
theorem ok_w_units {P : Program} {w : World} {K : PySem.W.Frag} {mg : Str → Option Value} {base : Heap} {f : Addr} {fd : FuncData} (FD : FnP K "_law_units" s_w_units f fd) (c_w_less : Callable P w K mg base "_law_less" 1 (spR K 2 S_w_less)) (b_len : mg "len" = none) : FnOk P w K mg base CX0 2 f fd ["_law_heap"] (spN K 1 S_w_units) := by
  refine fn_okN FD sc_w_units rfl ?_
  intro X e1 e2 e3 e4 e5 hp F C as r hS hl hW
  subst e1 e2 e3 e4 e5
  obtain ⟨L, rfl, O, rfl⟩ := hS
  have hm := O.most
  have n0 : Nm X 0 "_law_heap" := F.nm (by decide +kernel)
  have n1 : Nm X 1 "_law_found" := F.nm (by decide +kernel)
  have l1 : Lc X 1 "_law_found" := F.lc (by decide +kernel)
  have n2 : Nm X 2 "_law_grams" := F.nm (by decide +kernel)
  have l2 : Lc X 2 "_law_grams" := F.lc (by decide +kernel)
  have n3 : Nm X 3 "_law_warmth" := F.nm (by decide +kernel)
  have l3 : Lc X 3 "_law_warmth" := F.lc (by decide +kernel)
  have n4 : Nm X 4 "_law_at" := F.nm (by decide +kernel)
  have l4 : Lc X 4 "_law_at" := F.lc (by decide +kernel)
  have o5 : IxN N_w_units 5 "_law_one" := rfl
  have d_w_less : Cal X "_law_less" 1 (spR X.K 2 S_w_less) := c_w_less.mono (by decide)
  have z_len : Bn X "len" := F.bn (by decide +kernel) b_len
  walk_at "text"
  walk_at "env"
  walk_at "go"
  refine AL.es_for hp (by walk_at "calm") ?_
  walk_at "go"
  refine ⟨fun i g => ∃ e2 e3 e4, AL.entNol e4 ∧ g = [.im (stD L), .ls none ((unsL (L.take i)).map fr), e2, e3, e4, .no], ⟨_, _, _, (show AL.entNol .no from trivial), rfl⟩, ?_, ?_⟩
  · rintro i d g' e ⟨e2, e3, e4, h4, rfl⟩
    rw [List.getElem?_map, Option.map_eq_some_iff] at e
    obtain ⟨b, e1, rfl⟩ := e
    have hb := O.each b (List.mem_of_getElem? e1)
    have hbs := hb.1
    unfold Sz at hbs
    have hb2 : Rb 4400 b.2 := hb.2.mono (by decide)
    have hpos : Pos (L.take i) := fun q hq => O.pos q (List.mem_of_mem_take hq)
    have hn := unsL_len hpos
    have hn2 : tot (L.take i) ≤ 1200 := tot_le (by rw [List.length_take]; omega) fun q hq => O.szs q (List.mem_of_mem_take hq)
    have hd := uns_take e1
    have hmem : ∀ a ∈ unsL (L.take i), Rb 4400 a := fun a ha => by
      obtain ⟨c, hc, rfl⟩ := uns_mem ha
      exact (O.each c (List.mem_of_mem_take hc)).2.mono (by decide)
    generalize unsL (L.take i) = u at hn hmem hd ⊢
    have hl0 : (List.map fr u).length = u.length := List.length_map ..
    have hc : unsC u b ≤ u.length := List.length_filter_le ..
    refine AL.eg_cut (R := fun g => g = [.im (stD L), .ls none (u.map fr), .im (.int b.1), .im (fr b.2), e4, .no]) (by walk_at "go"; rfl) ?_
    rintro _ rfl
    refine AL.ess_cut (R := fun g => g = [.im (stD L), .ls none (u.map fr), .im (.int b.1), .im (fr b.2), .im (.int (unsC u b : Nat)), .no]) ?_ ?_
    · walk_at "go"
      refine AL.ee_borrow 1 rfl (by walk_at "se") (by walk_at "ln") ?_
      refine AL.ee_len (by walk_at "bn") ?_
      refine AL.ee_en (AL.en_lc F [("_law_one", 5)] (by decide +kernel) ?_)
      walk_at "go"
      refine AL.lcSel (fun k => (u[k]?).bind fun a => if (!decide (a < b.2)) = true then some (fr a) else none) (by walk_at "wipe") (by rw [List.length_map]; omega) ?_ ?_
      · intro C' k d e
        rw [List.getElem?_map, Option.map_eq_some_iff] at e
        obtain ⟨a, e2, rfl⟩ := e
        have ha := hmem a (List.mem_of_getElem? e2)
        walk_at "go"
        · have z : a < b.2 := by assumption
          exact ⟨by rw [e2, Option.bind_some, if_neg (by simpa using z)], by walk_at "wk"⟩
        · have z : ¬ a < b.2 := by assumption
          exact ⟨by rw [e2, Option.bind_some, if_pos (by simpa using z)], by walk_at "wk"⟩
      · walk_at "go"
        refine ⟨rfl, rfl, ?_⟩
        walk_at "go"
        rw [selR_len u fun a => !decide (a < b.2)]
        rfl
    rintro _ rfl
    refine AL.ess_one ?_
    refine AL.es_setN (by walk_at "lc") (AL.en_cat ?_)
    refine AL.ee_en (AL.en_cat ?_)
    walk_at "go"
    refine ⟨_, _, kl_l, rfl, by omega, by omega, by show 1 * b.1.toNat ≤ 1000000; omega, ?_⟩
    rw [rep_one]
    have lr : (List.replicate b.1.toNat (fr b.2)).length = b.1.toNat := List.length_replicate
    have lt : (List.take ((unsC u b : Nat) : Int).toNat (List.map fr u)).length ≤ 1200 := by rw [List.length_take]; omega
    refine ⟨_, _, .inl rfl, .inl rfl, by omega, ?_⟩
    walk_at "go"
    have ld : (List.drop ((unsC u b : Nat) : Int).toNat (List.map fr u)).length ≤ 1200 := by rw [List.length_drop]; omega
    refine ⟨_, _, .inl rfl, .inl rfl, by rw [List.length_append]; omega, [.im (stD L), .ls none ((unsL (L.take (i + 1))).map fr), .im (.int b.1), .im (fr b.2), .im (.int (unsC u b : Nat)), .no], by rw [hd, ← uns_data, Int.toNat_natCast]; walk_at "se", .im (.int b.1), .im (fr b.2), .im (.int (unsC u b : Nat)), ?_, rfl⟩
    trivial
  · rintro g' ⟨e2, e3, e4, h4, rfl⟩
    walk_at "go"
    rw [List.length_map, List.take_length]
    exact .o rfl rfl
local macro_rules | `(tactic| walk_at "con") => `(tactic| ((with_reducible show S_w_units _ _); unfold S_w_units; exact ⟨_, rfl, by walk_at "pf", rfl⟩))
/-! ### _law_sums -/
abbrev N_w_sums : List Str := ["_law_heap", "_law_found", "_law_warmth"]
theorem sc_w_sums : FnScope N_w_sums ["_law_heap"] (defScope s_w_sums) := ⟨rfl, rfl, rfl, by decide +kernel, rfl, by decide +kernel, by decide +kernel⟩
def S_w_sums : List Ar → List PyData → Prop := fun as r => ∃ L, as = [.d (stD L)] ∧ OkSt 900 L ∧ r = sumsD (unsL L) ((unsL L).length + 1)
theorem ok_w_sums {P : Program} {w : World} {K : PySem.W.Frag} {mg : Str → Option Value} {base : Heap} {f : Addr} {fd : FuncData} (FD : FnP K "_law_sums" s_w_sums f fd) (c_w_units : Callable P w K mg base "_law_units" 2 (spN K 1 S_w_units)) (c_w_plus : Callable P w K mg base "_law_plus" 2 (spR K 2 S_w_plus)) : FnOk P w K mg base CX0 3 f fd ["_law_heap"] (spN K 1 S_w_sums) := by
  refine fn_okN FD sc_w_sums rfl ?_
  intro X e1 e2 e3 e4 e5 hp F C as r hS hl hW
  subst e1 e2 e3 e4 e5
  obtain ⟨L, rfl, O, rfl⟩ := hS
  have hm := O.most
  have hul := unsL_len O.pos
  have htl := O.tot
  have n0 : Nm X 0 "_law_heap" := F.nm (by decide +kernel)
  have n1 : Nm X 1 "_law_found" := F.nm (by decide +kernel)
  have l1 : Lc X 1 "_law_found" := F.lc (by decide +kernel)
  have n2 : Nm X 2 "_law_warmth" := F.nm (by decide +kernel)
  have l2 : Lc X 2 "_law_warmth" := F.lc (by decide +kernel)
  have g_w_units : Gn X "_law_units" := F.gn (by decide +kernel)
  have g_w_plus : Gn X "_law_plus" := F.gn (by decide +kernel)
  have d_w_units : Cal X "_law_units" 2 (spN X.K 1 S_w_units) := c_w_units.mono (by decide)
  have d_w_plus : Cal X "_law_plus" 2 (spR X.K 2 S_w_plus) := c_w_plus.mono (by decide)
  walk_at "text"
  walk_at "env"
  refine AL.ess_cut (R := fun g => g = [.im (stD L), .ls none (sumsD (unsL L) 1), .no]) (by walk_at "go"; rfl) ?_
  rintro _ rfl
  refine AL.ess_cut (R := fun g => ∃ e2, g = [.im (stD L), .ls none (sumsD (unsL L) ((unsL L).length + 1)), e2]) ?_ ?_
  · refine AL.es_for hp (by walk_at "calm") ?_
    walk_at "go"
    refine ⟨fun i g => ∃ e2, g = [.im (stD L), .ls none (sumsD (unsL L) (i + 1)), e2], ⟨_, rfl⟩, ?_, ?_⟩
    · rintro i d g' e ⟨e2, rfl⟩
      rw [List.getElem?_map, Option.map_eq_some_iff] at e
      obtain ⟨q, e1, rfl⟩ := e
      have hi := (List.getElem?_eq_some_iff.mp e1).1
      have hx := sumsD_last (unsL L) i
      have hln := sumsD_len (unsL L) (i + 1)
      have z1 : Rb 4400 (sumTo (unsL L) i) := (O.sums (by decide) (by omega)).mono (by decide)
      have z2 : Rb 4400 q := by
        obtain ⟨c, hc, rfl⟩ := uns_mem (List.mem_of_getElem? e1)
        exact (O.each c hc).2.mono (by decide)
      have hs := sumTo_succ e1
      walk_at "go"
      exact ⟨_, by rw [sumsD_succ _ (i + 1), hs]⟩
    · rintro g' ⟨e2, rfl⟩
      rw [List.length_map]
      exact ⟨_, rfl⟩
  rintro _ ⟨e2, rfl⟩
  walk_at "go"
  exact .o rfl rfl
local macro_rules | `(tactic| walk_at "con") => `(tactic| ((with_reducible show S_w_sums _ _); unfold S_w_sums; exact ⟨_, rfl, by walk_at "pf", rfl⟩))
/-! ### _law_shifted -/
abbrev N_w_shifted : List Str := ["_law_heap", "_law_one", "_law_two", "_law_given", "_law_found"]
theorem sc_w_shifted : FnScope N_w_shifted ["_law_heap", "_law_one", "_law_two", "_law_given"] (defScope s_w_shifted) := ⟨rfl, rfl, rfl, by decide +kernel, rfl, by decide +kernel, by decide +kernel⟩
def S_w_shifted : Con := fun as r => ∃ (L : List Bl) (i j : Int) (q : Rat), as = [.d (stD L), .d (.int i), .d (.int j), .d (fr q)] ∧ (0 ≤ i ∧ i < L.length) ∧ (0 ≤ j ∧ j < L.length) ∧ L.length ≤ 12 ∧ (Sz (siz L i.toNat) ∧ Sz (siz L j.toNat)) ∧ (Rb 4000 (tmp L i.toNat) ∧ Rb 4000 (tmp L j.toNat) ∧ Rb 4000 q ∧ Rb 4000 (q / (siz L i.toNat : Rat)) ∧ Rb 4000 (q / (siz L j.toNat : Rat))) ∧ r = stD (shiftS L i.toNat j.toNat q)
theorem ok_w_shifted {P : Program} {w : World} {K : PySem.W.Frag} {mg : Str → Option Value} {base : Heap} {f : Addr} {fd : FuncData} (FD : FnP K "_law_shifted" s_w_shifted f fd) (c_w_plus : Callable P w K mg base "_law_plus" 2 (spR K 2 S_w_plus)) (c_w_low : Callable P w K mg base "_law_low" 1 (spR K 2 S_w_low)) (b_list : mg "list" = none) (b_tuple : mg "tuple" = none) : FnOk P w K mg base CX0 3 f fd ["_law_heap", "_law_one", "_law_two", "_law_given"] (spR K 4 S_w_shifted) := by
  refine fn_ok FD sc_w_shifted rfl ?_
  intro X e1 e2 e3 e4 e5 hp F C as r hS hl hW
  subst e1 e2 e3 e4 e5
  obtain ⟨L, i, j, q, rfl, ⟨i0, i1⟩, ⟨j0, j1⟩, hm, ⟨s1, s2⟩, ⟨r1, r2, r3, r4, r5⟩, rfl⟩ := hS
  obtain ⟨i, rfl⟩ := Int.eq_ofNat_of_zero_le i0
  obtain ⟨j, rfl⟩ := Int.eq_ofNat_of_zero_le j0
  simp only [Int.toNat_natCast] at s1 s2 r1 r2 r4 r5 ⊢
  have i1 : i < L.length := by omega
  have j1 : j < L.length := by omega
  unfold Sz at s1 s2
  have bs : Bt 7 (siz L i) := by unfold Bt; omega
  have bp : Bt 7 (siz L j) := by unfold Bt; omega
  have b1 := (r3.2.mul bs).mono (m := 8999) (by decide)
  have b2 := (r3.2.mul bp).mono (m := 8999) (by decide)
  have b3 := Int.mul_pos (den_pos q) (show 0 < siz L i by omega)
  have b4 := Int.mul_pos (den_pos q) (show 0 < siz L j by omega)
  have t1 := r1.mono (m := 4400) (by decide)
  have t2 := r2.mono (m := 4400) (by decide)
  have t3 : Rb 4400 (Rat.divInt q.num ((q.den : Int) * siz L i)) := by rw [di_div]; exact r4.mono (by decide)
  have t4 : Rb 4400 (Rat.divInt (0 - q.num) ((q.den : Int) * siz L j)) := by rw [di_divn]; exact (r5.mono (by decide)).neg
  have hl0 : (List.map blk L).length = L.length := List.length_map ..
  have n0 : Nm X 0 "_law_heap" := F.nm (by decide +kernel)
  have n1 : Nm X 1 "_law_one" := F.nm (by decide +kernel)
  have n2 : Nm X 2 "_law_two" := F.nm (by decide +kernel)
  have n3 : Nm X 3 "_law_given" := F.nm (by decide +kernel)
  have n4 : Nm X 4 "_law_found" := F.nm (by decide +kernel)
  have l4 : Lc X 4 "_law_found" := F.lc (by decide +kernel)
  have g_w_plus : Gn X "_law_plus" := F.gn (by decide +kernel)
  have g_w_low : Gn X "_law_low" := F.gn (by decide +kernel)
  have d_w_plus : Cal X "_law_plus" 2 (spR X.K 2 S_w_plus) := c_w_plus.mono (by decide)
  have d_w_low : Cal X "_law_low" 2 (spR X.K 2 S_w_low) := c_w_low.mono (by decide)
  have z_list : Bn X "list" := F.bn (by decide +kernel) b_list
  have z_tuple : Bn X "tuple" := F.bn (by decide +kernel) b_tuple
  walk_at "text"
  walk_at "env"
  walk_at "go"
  rw [di_div, di_divn, Int.toNat_natCast, Int.toNat_natCast, blk_set L i _ _ rfl, blk_set _ j _ _ (putT_siz i1 j).symm]
  rfl
local macro_rules | `(tactic| walk_at "con") => `(tactic| ((with_reducible show S_w_shifted _ _); unfold S_w_shifted; exact ⟨_, _, _, _, rfl, ⟨by walk_at "pf", by walk_at "pf"⟩, ⟨by walk_at "pf", by walk_at "pf"⟩, by walk_at "pf", ⟨by walk_at "pf", by walk_at "pf"⟩, ⟨by walk_at "pf", by walk_at "pf", by walk_at "pf", by walk_at "pf", by walk_at "pf"⟩, rfl⟩))
/-! ### _law_partly -/
abbrev N_w_partly : List Str := ["_law_heap", "_law_one", "_law_two", "_law_part", "_law_grams", "_law_gap", "_law_given"]
theorem sc_w_partly : FnScope N_w_partly ["_law_heap", "_law_one", "_law_two", "_law_part"] (defScope s_w_partly) := ⟨rfl, rfl, rfl, by decide +kernel, rfl, by decide +kernel, by decide +kernel⟩
def S_w_partly : Con := fun as r => ∃ (L : List Bl) (i j : Int) (part : Rat), as = [.d (stD L), .d (.int i), .d (.int j), .d (fr part)] ∧ OkSt 900 L ∧ (0 ≤ i ∧ i < L.length) ∧ (0 ≤ j ∧ j < L.length) ∧ Gr part.den 4 part ∧ part.den < 2 ^ 4 ∧ r = stD (partlyS L i.toNat j.toNat part)
theorem ok_w_partly {P : Program} {w : World} {K : PySem.W.Frag} {mg : Str → Option Value} {base : Heap} {f : Addr} {fd : FuncData} (FD : FnP K "_law_partly" s_w_partly f fd) (c_w_plus : Callable P w K mg base "_law_plus" 2 (spR K 2 S_w_plus)) (c_w_times : Callable P w K mg base "_law_times" 2 (spR K 2 S_w_times)) (c_w_low : Callable P w K mg base "_law_low" 1 (spR K 2 S_w_low)) (c_w_shifted : Callable P w K mg base "_law_shifted" 3 (spR K 4 S_w_shifted)) : FnOk P w K mg base CX0 4 f fd ["_law_heap", "_law_one", "_law_two", "_law_part"] (spR K 4 S_w_partly) := by
  refine fn_ok FD sc_w_partly rfl ?_
  intro X e1 e2 e3 e4 e5 hp F C as r hS hl hW
  subst e1 e2 e3 e4 e5
  obtain ⟨L, i, j, part, rfl, O, ⟨i0, i1⟩, ⟨j0, j1⟩, hp1, hp2, rfl⟩ := hS
  obtain ⟨i, rfl⟩ := Int.eq_ofNat_of_zero_le i0
  obtain ⟨j, rfl⟩ := Int.eq_ofNat_of_zero_le j0
  have i1 : i < L.length := by omega
  have j1 : j < L.length := by omega
  have hm := O.most
  have s1 := O.sz i1
  have s2 := O.sz j1
  obtain ⟨q1, q2, q3, q4, q5, q6, q7, q8, q9⟩ := gapQ_rb4 O (by decide) i1 j1 hp1 hp2
  have z1 := q1.neg.mono (m := 4400) (by decide)
  have z2 := q2.mono (m := 4400) (by decide)
  have z3 := q3.mono (m := 4400) (by decide)
  have z4 := q4.mono (m := 4400) (by decide)
  have z5 := q5.mono (m := 4400) (by decide)
  have z6 := q6.mono (m := 4400) (by decide)
  have s1' := s1
  have s2' := s2
  unfold Sz at s1' s2'
  have b1 : 0 < siz L i + siz L j := by omega
  have b2 : Bt 8999 (siz L i + siz L j) := (show Bt 8 _ by unfold Bt; omega).mono (by decide)
  have k1 : Int.toNat (i : Int) = i := Int.toNat_natCast i
  have k2 : Int.toNat (j : Int) = j := Int.toNat_natCast j
  have n1 : Sz (siz L (Int.toNat (i : Int))) := by rw [k1]; exact s1
  have n2 : Sz (siz L (Int.toNat (j : Int))) := by rw [k2]; exact s2
  have n3 : Rb 4000 (tmp L (Int.toNat (i : Int))) := by rw [k1]; exact q1
  have n4 : Rb 4000 (tmp L (Int.toNat (j : Int))) := by rw [k2]; exact q2
  have n5 : Rb 4000 ((tmp L j + -tmp L i) * part * Rat.divInt (siz L i * siz L j) (siz L i + siz L j)) := q7
  have n6 : Rb 4000 ((tmp L j + -tmp L i) * part * Rat.divInt (siz L i * siz L j) (siz L i + siz L j) / (siz L (Int.toNat (i : Int)) : Rat)) := by rw [k1]; exact q8
  have n7 : Rb 4000 ((tmp L j + -tmp L i) * part * Rat.divInt (siz L i * siz L j) (siz L i + siz L j) / (siz L (Int.toNat (j : Int)) : Rat)) := by rw [k2]; exact q9
  have hl0 : (List.map blk L).length = L.length := List.length_map ..
  have n0 : Nm X 0 "_law_heap" := F.nm (by decide +kernel)
  have n1 : Nm X 1 "_law_one" := F.nm (by decide +kernel)
  have n2 : Nm X 2 "_law_two" := F.nm (by decide +kernel)
  have n3 : Nm X 3 "_law_part" := F.nm (by decide +kernel)
  have n4 : Nm X 4 "_law_grams" := F.nm (by decide +kernel)
  have l4 : Lc X 4 "_law_grams" := F.lc (by decide +kernel)
  have n5 : Nm X 5 "_law_gap" := F.nm (by decide +kernel)
  have l5 : Lc X 5 "_law_gap" := F.lc (by decide +kernel)
  have n6 : Nm X 6 "_law_given" := F.nm (by decide +kernel)
  have l6 : Lc X 6 "_law_given" := F.lc (by decide +kernel)
  have g_w_plus : Gn X "_law_plus" := F.gn (by decide +kernel)
  have g_w_times : Gn X "_law_times" := F.gn (by decide +kernel)
  have g_w_low : Gn X "_law_low" := F.gn (by decide +kernel)
  have g_w_shifted : Gn X "_law_shifted" := F.gn (by decide +kernel)
  have d_w_plus : Cal X "_law_plus" 3 (spR X.K 2 S_w_plus) := c_w_plus.mono (by decide)
  have d_w_times : Cal X "_law_times" 3 (spR X.K 2 S_w_times) := c_w_times.mono (by decide)
  have d_w_low : Cal X "_law_low" 3 (spR X.K 2 S_w_low) := c_w_low.mono (by decide)
  have d_w_shifted : Cal X "_law_shifted" 3 (spR X.K 4 S_w_shifted) := c_w_shifted.mono (by decide)
  walk_at "text"
  walk_at "env"
  walk_at "go"
  rfl
local macro_rules | `(tactic| walk_at "con") => `(tactic| ((with_reducible show S_w_partly _ _); unfold S_w_partly; exact ⟨_, _, _, _, rfl, by walk_at "pf", ⟨by walk_at "pf", by walk_at "pf"⟩, ⟨by walk_at "pf", by walk_at "pf"⟩, by walk_at "pf", by walk_at "pf", rfl⟩))
/-! ### _law_second -/
abbrev N_w_second : List Str := ["_law_pool_here", "_law_heap", "_law_found", "_law_turn", "_law_way", "_law_one", "_law_two", "_law_bottom"]
theorem sc_w_second : FnScope N_w_second ["_law_pool_here", "_law_heap"] (defScope s_w_second) := ⟨rfl, rfl, rfl, by decide +kernel, rfl, by decide +kernel, by decide +kernel⟩
def S_w_second : ConM := fun ds as r ds' => ∃ (p : Pl) (L : List Bl), ds = p.ds ∧ as = [.d (stD L)] ∧ p.Ok ∧ OkSt 481 L ∧ 2 ≤ L.length ∧ r = stD (sec33 p L).1 ∧ ds' = (sec33 p L).2.ds
theorem ok_w_second {P : Program} {w : World} {K : PySem.W.Frag} {mg : Str → Option Value} {base : Heap} {f : Addr} {fd : FuncData} (FD : FnP K "_law_second" s_w_second f fd) (c_w_take : Callable P w K mg base "_law_take" 1 (spM K 2 S_w_take)) (c_w_shifted : Callable P w K mg base "_law_shifted" 3 (spR K 4 S_w_shifted)) (c_w_partly : Callable P w K mg base "_law_partly" 4 (spR K 4 S_w_partly)) (c_w_share : Callable P w K mg base "_law_share" 2 (spM K 1 S_w_share)) (c_w_low : Callable P w K mg base "_law_low" 1 (spR K 2 S_w_low)) (b_range : mg "range" = none) (b_len : mg "len" = none) : FnOk P w K mg base CX0 5 f fd ["_law_pool_here", "_law_heap"] (spM K 2 S_w_second) := by
  refine fn_okM FD sc_w_second rfl ?_
  intro X e1 e2 e3 e4 e5 hp F C ds as r ds' hS hl
  subst e1 e2 e3 e4 e5
  obtain ⟨p, L, rfl, rfl, O, OL, h2, rfl, rfl⟩ := hS
  have hm := OL.most
  have v0 := pick_nn (p := p) (w := 4) (by decide)
  have v1 := pick_lt (p := p) (w := 4) (by decide)
  have hl0 : (List.map blk L).length = L.length := List.length_map ..
  have O1 : (left p 4).Ok := left_ok O (by decide)
  have n0 : Nm X 0 "_law_pool_here" := F.nm (by decide +kernel)
  have n1 : Nm X 1 "_law_heap" := F.nm (by decide +kernel)
  have n2 : Nm X 2 "_law_found" := F.nm (by decide +kernel)
  have l2 : Lc X 2 "_law_found" := F.lc (by decide +kernel)
  have n3 : Nm X 3 "_law_turn" := F.nm (by decide +kernel)
  have l3 : Lc X 3 "_law_turn" := F.lc (by decide +kernel)
  have n4 : Nm X 4 "_law_way" := F.nm (by decide +kernel)
  have l4 : Lc X 4 "_law_way" := F.lc (by decide +kernel)
  have n5 : Nm X 5 "_law_one" := F.nm (by decide +kernel)
  have l5 : Lc X 5 "_law_one" := F.lc (by decide +kernel)
  have n6 : Nm X 6 "_law_two" := F.nm (by decide +kernel)
  have l6 : Lc X 6 "_law_two" := F.lc (by decide +kernel)
  have n7 : Nm X 7 "_law_bottom" := F.nm (by decide +kernel)
  have l7 : Lc X 7 "_law_bottom" := F.lc (by decide +kernel)
  have g_w_take : Gn X "_law_take" := F.gn (by decide +kernel)
  have g_w_shifted : Gn X "_law_shifted" := F.gn (by decide +kernel)
  have g_w_partly : Gn X "_law_partly" := F.gn (by decide +kernel)
  have g_w_share : Gn X "_law_share" := F.gn (by decide +kernel)
  have g_w_low : Gn X "_law_low" := F.gn (by decide +kernel)
  have d_w_take : Cal X "_law_take" 4 (spM X.K 2 S_w_take) := c_w_take.mono (by decide)
  have d_w_shifted : Cal X "_law_shifted" 4 (spR X.K 4 S_w_shifted) := c_w_shifted.mono (by decide)
  have d_w_partly : Cal X "_law_partly" 4 (spR X.K 4 S_w_partly) := c_w_partly.mono (by decide)
  have d_w_share : Cal X "_law_share" 4 (spM X.K 1 S_w_share) := c_w_share.mono (by decide)
  have d_w_low : Cal X "_law_low" 4 (spR X.K 2 S_w_low) := c_w_low.mono (by decide)
  have z_range : Bn X "range" := F.bn (by decide +kernel) b_range
  have z_len : Bn X "len" := F.bn (by decide +kernel) b_len
  walk_at "text"
  walk_at "env"
  refine AL.ess_cut (R := fun g => g = [.ls (some 0) p.ds, .im (stD L), .im (stD L), .no, .no, .no, .no, .no]) (by walk_at "go"; rfl) ?_
  rintro _ rfl
  refine AL.ess_cut (R := fun g => ∃ e3 e4 e5 e6 e7, g = [.ls (some 0) (sec33 p L).2.ds, .im (stD L), .im (stD (sec33 p L).1), e3, e4, e5, e6, e7]) ?_ ?_
  · refine AL.es_for hp (by walk_at "calm") ?_
    walk_at "go"
    refine ⟨fun i g => ∃ e3 e4 e5 e6 e7, g = [.ls (some 0) (s33N i (L, left p 4)).2.ds, .im (stD L), .im (stD (s33N i (L, left p 4)).1), e3, e4, e5, e6, e7], ⟨_, _, _, _, _, rfl⟩, ?_, ?_⟩
    · rintro i d g' e ⟨e3, e4, e5, e6, e7, rfl⟩
      obtain ⟨hi, rfl⟩ := rangeD_get e
      obtain ⟨x, ex⟩ : ∃ x, x = s33N i (L, left p 4) := ⟨_, rfl⟩
      have ex2 : s33N (i + 1) (L, left p 4) = s33T x := by rw [ex]; rfl
      obtain ⟨OX, OP, xl, xs⟩ := s33N_ok (x := (L, left p 4)) OL O1 h2 i
      rw [← ex] at OX OP xl ⊢
      replace xl : x.1.length = L.length := xl
      have hi4 : i ≤ 4 := by omega
      obtain ⟨a0, a1, b0, b1, hne⟩ := w2_ok (n := (L.length : Int)) (q := left x.2 3) (by omega)
      have hq := wP_ok (n := (L.length : Int)) (q := left x.2 3) (by omega) (left_ok OP (by decide))
      have O2 : (left x.2 3).Ok := left_ok OP (by decide)
      have O3 : (left (left x.2 3) L.length).Ok := left_ok O2 (by omega)
      unfold s33T at ex2
      rw [xl] at ex2
      refine AL.eg_d (by walk_at "lc") (by walk_at "se") ?_
      refine AL.ess_cut (R := fun g => g = [.ls (some 0) (left x.2 3).ds, .im (stD L), .im (stD x.1), .im (.int (0 + (i : Nat))), .im (.int (pick x.2 3)), e5, e6, e7]) (by walk_at "go"; rfl) ?_
      rintro _ rfl
      refine AL.ess_cut (R := fun g => g = [.ls (some 0) (left (left x.2 3) L.length).ds, .im (stD L), .im (stD x.1), .im (.int (0 + (i : Nat))), .im (.int (pick x.2 3)), .im (.int (pick (left x.2 3) L.length)), e6, e7]) (by walk_at "go"; rw [hl0]) ?_
      rintro _ rfl
      refine AL.ess_cut (R := fun g => g = [.ls (some 0) (wP L.length (left x.2 3)).ds, .im (stD L), .im (stD x.1), .im (.int (0 + (i : Nat))), .im (.int (pick x.2 3)), .im (.int (pick (left x.2 3) L.length)), .im (.int (w2 L.length (left x.2 3))), e7]) (by walk_at "go"; rw [hl0]; rfl) ?_
      rintro _ rfl
      generalize wP L.length (left x.2 3) = q at hq ex2 ⊢
      generalize w2 L.length (left x.2 3) = two at b0 b1 hne ex2 ⊢
      generalize pick (left x.2 3) L.length = one at a0 a1 hne ex2 ⊢
      have OX9 : OkSt 900 x.1 := OX.mono (by omega)
      have c1 : Sz (siz x.1 one.toNat) := OX.sz (by omega)
      have c2 : Sz (siz x.1 two.toNat) := OX.sz (by omega)
      have c3 : Rb 4000 (tmp x.1 one.toNat) := (OX.rb (by omega)).mono (by omega)
      have c4 : Rb 4000 (tmp x.1 two.toNat) := (OX.rb (by omega)).mono (by omega)
      have hs : Rb 40 (shareC 1000000 q) := shareC_rb (by decide) (by decide)
      have c5 : Rb 4000 (shareC 1000000 q) := hs.mono (by decide)
      obtain ⟨c6, c7⟩ := share_div hs c1 c2
      obtain ⟨u4, u6, u7, u8⟩ := partC_ok (c := 6) (by decide) (by decide) q
      have ue : partC 6 q = Rat.divInt (pick (left q 6) (1 + pick q 6 + 1)) (1 + pick q 6) := rfl
      rw [ue] at u4 u6 ex2
      have d0 := pick_nn (p := q) (w := 6) (by decide)
      have d1 := pick_lt (p := q) (w := 6) (by decide)
      have d2 := pick_nn (p := left q 6) (w := 1 + pick q 6 + 1) (by omega)
      have d3 := pick_lt (p := left q 6) (w := 1 + pick q 6 + 1) (by omega)
      have u5 : Bt 8999 (1 + pick q 6) := (show Bt 21 _ by unfold Bt; omega).mono (by decide)
      have hq1 : (left q 6).Ok := left_ok hq (by decide)
      walk_at "go"
      · rename_i h
        dsimp only
        rw [ex2, if_pos h]
        exact ⟨_, _, _, _, _, rfl⟩
      · rename_i h
        dsimp only
        rw [ex2, if_neg h]
        exact ⟨_, _, _, _, _, rfl⟩
    · rintro g' ⟨e3, e4, e5, e6, e7, rfl⟩
      rw [rangeD_len]
      exact ⟨_, _, _, _, _, rfl⟩
  rintro _ ⟨e3, e4, e5, e6, e7, rfl⟩
  walk_at "go"
  exact ⟨AL.ret_d rfl, rfl⟩
local macro_rules | `(tactic| walk_at "con") => `(tactic| ((with_reducible show S_w_second _ _ _ _); unfold S_w_second; exact ⟨_, _, rfl, rfl, by walk_at "pok", by walk_at "pf", by walk_at "pf", rfl, rfl⟩))
/-! ### _law_right -/
abbrev N_w_right : List Str := ["_law_heap", "_law_second_here", "_law_told", "_law_mine", "_law_theirs", "_law_at"]
theorem sc_w_right : FnScope N_w_right ["_law_heap", "_law_second_here"] (defScope s_w_right) := ⟨rfl, rfl, rfl, by decide +kernel, rfl, by decide +kernel, by decide +kernel⟩
def S_w_right : Con := fun as r => ∃ L M, as = [.d (stD L), .d (stD M)] ∧ OkSt 900 L ∧ OkSt 900 M ∧ M.map (·.1) = L.map (·.1) ∧ r = .bool true
theorem ok_w_right {P : Program} {w : World} {K : PySem.W.Frag} {mg : Str → Option Value} {base : Heap} {f : Addr} {fd : FuncData} {T : Tb} (FD : FnP K "_law_right" s_w_right f fd) (c_unreachable_reason : Callable P w K mg base "unreachable_reason" 7 (spR K 2 S_unreachable_reason)) (c_w_sums : Callable P w K mg base "_law_sums" 3 (spN K 1 S_w_sums)) (c_w_less : Callable P w K mg base "_law_less" 1 (spR K 2 S_w_less)) (b_range : mg "range" = none) (b_len : mg "len" = none) (b_repr : mg "repr" = none) : FnG P w K mg base 8 f fd ["_law_heap", "_law_second_here"] (spG K T 2 S_w_right) := by
  refine fn_okG FD sc_w_right rfl ?_
  intro X e1 e2 e3 e4 e5 hp F hgd C as r hS hl hW hT
  subst e1 e2 e3 e4 e5
  obtain ⟨L, M, rfl, O, O2, hs, rfl⟩ := hS
  have hul := unsL_len O.pos
  have htl := O.tot
  have hml := uns_len_eq O.pos O2.pos hs
  have n0 : Nm X 0 "_law_heap" := F.nm (by decide +kernel)
  have n1 : Nm X 1 "_law_second_here" := F.nm (by decide +kernel)
  have n2 : Nm X 2 "_law_told" := F.nm (by decide +kernel)
  have l2 : Lc X 2 "_law_told" := F.lc (by decide +kernel)
  have n3 : Nm X 3 "_law_mine" := F.nm (by decide +kernel)
  have l3 : Lc X 3 "_law_mine" := F.lc (by decide +kernel)
  have n4 : Nm X 4 "_law_theirs" := F.nm (by decide +kernel)
  have l4 : Lc X 4 "_law_theirs" := F.lc (by decide +kernel)
  have n5 : Nm X 5 "_law_at" := F.nm (by decide +kernel)
  have l5 : Lc X 5 "_law_at" := F.lc (by decide +kernel)
  have g_unreachable_reason : Gn X "unreachable_reason" := F.gn (by decide +kernel)
  have g_w_sums : Gn X "_law_sums" := F.gn (by decide +kernel)
  have g_w_less : Gn X "_law_less" := F.gn (by decide +kernel)
  have d_unreachable_reason : Cal X "unreachable_reason" 7 (spR X.K 2 S_unreachable_reason) := c_unreachable_reason.mono (by decide)
  have d_w_sums : Cal X "_law_sums" 7 (spN X.K 1 S_w_sums) := c_w_sums.mono (by decide)
  have d_w_less : Cal X "_law_less" 7 (spR X.K 2 S_w_less) := c_w_less.mono (by decide)
  have z_range : Bn X "range" := F.bn (by decide +kernel) b_range
  have z_len : Bn X "len" := F.bn (by decide +kernel) b_len
  have z_repr : Bn X "repr" := F.bn (by decide +kernel) b_repr
  walk_at "text"
  walk_at "env"
  refine AL.ess_cut (R := fun g => g = [.im (stD L), .im (stD M), .im (reaD L M), .no, .no, .no]) (by walk_at "go"; rfl) ?_
  rintro _ rfl
  refine AL.ess_cut (R := fun g => g = [.im (stD L), .im (stD M), .im (reaD L M), .im (.list (sumsD (unsL L) ((unsL L).length + 1))), .im (.list (sumsD (unsL M) ((unsL M).length + 1))), .no]) ?_ ?_
  · walk_at "go"
    rfl
  rintro _ rfl
  have x1 := sumsD_last (unsL L) (unsL L).length
  have x2 := sumsD_last (unsL M) (unsL M).length
  rw [sum_all O.pos] at x1
  rw [sum_all O2.pos] at x2
  by_cases hh : heatF L = heatF M
  · refine AL.ess_cut (R := fun g => g = [.im (stD L), .im (stD M), .im (reaD L M), .im (.list (sumsD (unsL L) ((unsL L).length + 1))), .im (.list (sumsD (unsL M) ((unsL M).length + 1))), .no]) ?_ ?_
    · walk_at "go"
      · rfl
      · rename_i h
        exact absurd ⟨by rw [hh], by rw [hh]⟩ h
    rintro _ rfl
    have l1 := sumsD_len (unsL L) ((unsL L).length + 1)
    refine AL.ess_cut (R := fun g => noEx L M ((unsL L).length + 1) ∧ ∃ e5, g = [.im (stD L), .im (stD M), .im (reaD L M), .im (.list (sumsD (unsL L) ((unsL L).length + 1))), .im (.list (sumsD (unsL M) ((unsL M).length + 1))), e5]) ?_ ?_
    · refine AL.es_for hp (by walk_at "calm") ?_
      walk_at "go"
      refine ⟨fun i g => noEx L M i ∧ ∃ e5, g = [.im (stD L), .im (stD M), .im (reaD L M), .im (.list (sumsD (unsL L) ((unsL L).length + 1))), .im (.list (sumsD (unsL M) ((unsL M).length + 1))), e5], ⟨fun k hk => by omega, _, rfl⟩, ?_, ?_⟩
      · rintro i d g' e ⟨hno, e5, rfl⟩
        obtain ⟨hi, rfl⟩ := rangeD_get e
        rw [l1] at hi
        rw [Int.zero_add]
        have y1 := sumsD_at (u := unsL L) (k := (unsL L).length + 1) (i := i) (by omega)
        have y2 := sumsD_at (u := unsL M) (k := (unsL M).length + 1) (i := i) (by omega)
        have z1 : Rb 4400 (sumTo (unsL L) i) := (O.sums (by decide) (by omega)).mono (by decide)
        have z2 : Rb 4400 (sumTo (unsL M) i) := (O2.sums (by decide) (by omega)).mono (by decide)
        walk_at "go"
        · rename_i hlt
          rw [reaD_warm O O2 hs hh (by omega) hno hlt]
          have sh := shw_warm (x := i) (by omega)
          refine ⟨rfl, sh, ?_⟩
          walk_at "go"
          rfl
        · rename_i hlt
          refine ⟨fun k hk => ?_, _, rfl⟩
          by_cases hki : k < i
          · exact hno k hki
          · have : k = i := by omega
            subst this
            exact hlt
      · rintro g' ⟨hno, e5, rfl⟩
        rw [rangeD_len, l1] at hno
        exact ⟨hno, _, rfl⟩
    rintro _ ⟨hno, e5, rfl⟩
    rw [reaD_rest O O2 hs hh hno]
    split
    · walk_at "go"
      refine AL.ra_inD rfl kt_l (show SeqAt.shaped (.str "last") = true by decide +kernel) (by decide +kernel) (AL.ret_d ?_)
      exact congrArg PyData.bool (show ([.str "last", .str "part"].any fun z => PyData.eqv z (.str "last")) = true by decide +kernel)
    · rcases frgD_form L M with hf | ⟨k, v, hf⟩
      · rw [hf]
        walk_at "go"
        rfl
      · rw [hf]
        walk_at "go"
        refine AL.ra_inD rfl kt_l (show SeqAt.shaped (.str "part") = true by decide +kernel) (by decide +kernel) (AL.ret_d ?_)
        exact congrArg PyData.bool (show ([.str "last", .str "part"].any fun z => PyData.eqv z (.str "part")) = true by decide +kernel)
  · rw [reaD_heat hs hh]
    walk_at "go"
    · rename_i h
      exact absurd (rat_of' h) hh
    · exact AL.ra_or1 (AL.ra_eqSame (d := .tuple [.str "heat"]) rfl rfl rfl rfl (by decide +kernel) (AL.ret_d rfl))
local macro_rules | `(tactic| walk_at "con") => `(tactic| ((with_reducible show S_w_right _ _); unfold S_w_right; exact ⟨_, _, rfl, by walk_at "pf", by walk_at "pf", by walk_at "pf", rfl⟩))
/-! ### law -/
abbrev N_law : List Str := ["_law_script", "_law_k", "_law_pool_here", "_law_hotter", "_law_heap", "_law_second_here"]
theorem sc_law : FnScope N_law ["_law_script"] (defScope s_law) := ⟨rfl, rfl, rfl, by decide +kernel, rfl, by decide +kernel, by decide +kernel⟩
def S_law : Con := fun as r => ∃ ns, as = [.d (scr ns)] ∧ ns.length ≤ 63 ∧ r = .bool true
theorem ok_law {P : Program} {w : World} {K : PySem.W.Frag} {mg : Str → Option Value} {base : Heap} {f : Addr} {fd : FuncData} {T : Tb} (FD : FnP K "law" s_law f fd) (c_w_pool : Callable P w K mg base "_law_pool" 1 (spN K 2 S_w_pool)) (c_w_take : Callable P w K mg base "_law_take" 1 (spM K 2 S_w_take)) (c_w_lot : Callable P w K mg base "_law_lot" 3 (spM K 3 S_w_lot)) (c_w_second : Callable P w K mg base "_law_second" 5 (spM K 2 S_w_second)) (c_w_right : CallableG P w K mg base "_law_right" 8 (spG K T 2 S_w_right)) (c_w_plus : Callable P w K mg base "_law_plus" 2 (spR K 2 S_w_plus)) (b_range : mg "range" = none) (b_max : mg "max" = none) (b_min : mg "min" = none) (b_len : mg "len" = none) : FnG P w K mg base 9 f fd ["_law_script"] (spG K T 1 S_law) := by
  refine fn_okG FD sc_law rfl ?_
  intro X e1 e2 e3 e4 e5 hp F hgd C as r hS hl hW hT
  subst e1 e2 e3 e4 e5
  obtain ⟨ns, rfl, hns, rfl⟩ := hS
  have n0 : Nm X 0 "_law_script" := F.nm (by decide +kernel)
  have n1 : Nm X 1 "_law_k" := F.nm (by decide +kernel)
  have l1 : Lc X 1 "_law_k" := F.lc (by decide +kernel)
  have n2 : Nm X 2 "_law_pool_here" := F.nm (by decide +kernel)
  have l2 : Lc X 2 "_law_pool_here" := F.lc (by decide +kernel)
  have n3 : Nm X 3 "_law_hotter" := F.nm (by decide +kernel)
  have l3 : Lc X 3 "_law_hotter" := F.lc (by decide +kernel)
  have n4 : Nm X 4 "_law_heap" := F.nm (by decide +kernel)
  have l4 : Lc X 4 "_law_heap" := F.lc (by decide +kernel)
  have n5 : Nm X 5 "_law_second_here" := F.nm (by decide +kernel)
  have l5 : Lc X 5 "_law_second_here" := F.lc (by decide +kernel)
  have g_w_pool : Gn X "_law_pool" := F.gn (by decide +kernel)
  have g_w_take : Gn X "_law_take" := F.gn (by decide +kernel)
  have g_w_lot : Gn X "_law_lot" := F.gn (by decide +kernel)
  have g_w_second : Gn X "_law_second" := F.gn (by decide +kernel)
  have g_w_right : Gn X "_law_right" := F.gn (by decide +kernel)
  have g_w_plus : Gn X "_law_plus" := F.gn (by decide +kernel)
  have d_w_pool : Cal X "_law_pool" 8 (spN X.K 2 S_w_pool) := c_w_pool.mono (by decide)
  have d_w_take : Cal X "_law_take" 8 (spM X.K 2 S_w_take) := c_w_take.mono (by decide)
  have d_w_lot : Cal X "_law_lot" 8 (spM X.K 3 S_w_lot) := c_w_lot.mono (by decide)
  have d_w_second : Cal X "_law_second" 8 (spM X.K 2 S_w_second) := c_w_second.mono (by decide)
  have d_w_right : CalG X "_law_right" 8 (spG X.K T 2 S_w_right) := c_w_right.mono (by decide)
  have d_w_plus : Cal X "_law_plus" 8 (spR X.K 2 S_w_plus) := c_w_plus.mono (by decide)
  have z_range : Bn X "range" := F.bn (by decide +kernel) b_range
  have z_max : Bn X "max" := F.bn (by decide +kernel) b_max
  have z_min : Bn X "min" := F.bn (by decide +kernel) b_min
  have z_len : Bn X "len" := F.bn (by decide +kernel) b_len
  walk_at "text"
  walk_at "env"
  refine AL.ess_cut (R := fun g => ∃ e1 e2 e3 e4 e5, g = [.im (scr ns), e1, e2, e3, e4, e5]) ?_ ?_
  · refine AL.es_for hp (by walk_at "calm") ?_
    walk_at "go"
    refine ⟨fun i g => ∃ e1 e2 e3 e4 e5, g = [.im (scr ns), e1, e2, e3, e4, e5], ⟨_, _, _, _, _, rfl⟩, ?_, ?_⟩
    · rintro i d g' e ⟨e1, e2, e3, e4, e5, rfl⟩
      obtain ⟨hi, rfl⟩ := rangeD_get e
      have hi3 : i < 3 := by split at hi <;> split at hi <;> omega
      clear hi
      rw [Int.zero_add]
      refine AL.eg_d (by walk_at "lc") (by walk_at "se") ?_
      have PO := pool_ok ns i
      refine AL.ess_cut (R := fun g => g = [.im (scr ns), .im (.int (i : Nat)), .ls none (pool ns i).ds, e3, e4, e5]) (by walk_at "go"; rfl) ?_
      rintro _ rfl
      generalize pool ns i = p0 at PO ⊢
      have w0 := pick_nn (p := p0) (w := 5) (by decide)
      have w1 := pick_lt (p := p0) (w := 5) (by decide)
      refine AL.ess_cut (R := fun g => g = [.im (scr ns), .im (.int (i : Nat)), .ls none (left p0 5).ds, .im (.int (pick p0 5)), e4, e5]) (by walk_at "go"; rfl) ?_
      rintro _ rfl
      have PO1 : (left p0 5).Ok := left_ok PO (by decide)
      generalize pick p0 5 = hot at w0 w1 ⊢
      generalize left p0 5 = p1 at PO1 ⊢
      obtain ⟨l1, l4⟩ := lotZ_len (z := 20) (few := 2) (more := 6) (p := p1) (by decide) (by decide)
      have OL : OkSt 481 (lotZ 20 2 6 p1) := (lotZ_each (by decide) (by decide) 2 6 p1).st (by omega) (by omega)
      have P2 : (lotPZ 20 2 6 p1).Ok := lotPZ_ok (by decide) (by decide) PO1
      refine AL.ess_cut (R := fun g => g = [.im (scr ns), .im (.int (i : Nat)), .ls none (lotPZ 20 2 6 p1).ds, .im (.int hot), .im (stD (lotZ 20 2 6 p1)), e5]) (by walk_at "go"; rfl) ?_
      rintro _ rfl
      generalize lotZ 20 2 6 p1 = L at OL l1 l4 ⊢
      generalize lotPZ 20 2 6 p1 = p2 at P2 ⊢
      have l2 : 2 ≤ L.length := by omega
      obtain ⟨OM, P3, lM, sM⟩ := sec33_ok OL P2 l2
      refine AL.ess_cut (R := fun g => g = [.im (scr ns), .im (.int (i : Nat)), .ls none (sec33 p2 L).2.ds, .im (.int hot), .im (stD L), .im (stD (sec33 p2 L).1)]) (by walk_at "go"; rfl) ?_
      rintro _ rfl
      generalize (sec33 p2 L).2 = p3
      generalize (sec33 p2 L).1 = M at OM lM sM ⊢
      have OM1 : Rb 4400 (tmp M 0) := (OM.rb OM.one).mono (by decide)
      have hM0 : (List.map blk M).length = M.length := List.length_map ..
      refine AL.ess_cut (R := fun g => ∃ b, g = [.im (scr ns), .im (.int (i : Nat)), .ls none p3.ds, .im (.int hot), .im (stD L), .im (stD (hot33 b M))]) ?_ ?_
      · have sv : Rb 4400 sev := sev_rb.mono (by decide)
        walk_at "go"
        · rw [sev_fr]
          walk_at "go"
          exact ⟨true, by rw [hot_data OM.one]⟩
        · exact ⟨false, rfl⟩
      rintro _ ⟨b, rfl⟩
      obtain ⟨OH, lH, sH⟩ := hot33_ok b OM
      generalize hot33 b M = H at OH lH sH ⊢
      have OL9 : OkSt 900 L := OL.mono (by decide)
      have OH9 : OkSt 900 H := OH.mono (by decide)
      have s1 : H.map (·.1) = L.map (·.1) := sH.trans sM
      have s2 := s1.symm
      walk_at "go"
      exact ⟨_, _, _, _, _, rfl⟩
    · rintro g' ⟨e1, e2, e3, e4, e5, rfl⟩
      exact ⟨_, _, _, _, _, rfl⟩
  rintro _ ⟨e1, e2, e3, e4, e5, rfl⟩
  walk_at "go"
  rfl
local macro_rules | `(tactic| walk_at "con") => `(tactic| ((with_reducible show S_law _ _); unfold S_law; exact ⟨_, rfl, rfl⟩))
/-! ### the end -/
theorem facts {P : Program} {w : World} {K : PySem.W.Frag} {h : Heap} {mg : Str → Option Value} {f : Addr} (X : K.In h) (G : h.Ns mainGlobals mg) (hfa : mg ("law" : Str) = some (.ref f)) (c : He.SaysD fa fn K) (cx : ex K = true) :
    ∃ fd : FuncData, (∀ (s : Shared) (v : Value), BindsTo s fd ⟨[v], []⟩ [("_law_script", v)]) ∧ ∀ base : Heap, K.In base → base.Ns mainGlobals mg → FnG P w K mg base 9 f fd ["_law_script"] (spG K [] 1 S_law) := by
  obtain ⟨fd_is_integer, F_is_integer⟩ := c.def_ 0 (d := d_is_integer) rfl
  obtain ⟨fd_in_range, F_in_range⟩ := c.def_ 1 (d := d_in_range) rfl
  obtain ⟨fd_gcd, F_gcd⟩ := c.def_ 2 (d := d_gcd) rfl
  obtain ⟨fd_is_fraction, F_is_fraction⟩ := c.def_ 3 (d := d_is_fraction) rfl
  obtain ⟨fd_reduced, F_reduced⟩ := c.def_ 4 (d := d_reduced) rfl
  obtain ⟨fd_fraction_sum, F_fraction_sum⟩ := c.def_ 5 (d := d_fraction_sum) rfl
  obtain ⟨fd_fraction_difference, F_fraction_difference⟩ := c.def_ 6 (d := d_fraction_difference) rfl
  obtain ⟨fd_fraction_product, F_fraction_product⟩ := c.def_ 7 (d := d_fraction_product) rfl
  obtain ⟨fd_is_lower, F_is_lower⟩ := c.def_ 8 (d := d_is_lower) rfl
  obtain ⟨fd_total_of, F_total_of⟩ := c.def_ 9 (d := d_total_of) rfl
  obtain ⟨fd_is_valid_size, F_is_valid_size⟩ := c.def_ 10 (d := d_is_valid_size) rfl
  obtain ⟨fd_is_valid_block, F_is_valid_block⟩ := c.def_ 11 (d := d_is_valid_block) rfl
  obtain ⟨fd_check_each, F_check_each⟩ := c.def_ 12 (d := d_check_each) rfl
  obtain ⟨fd_check_state, F_check_state⟩ := c.def_ 13 (d := d_check_state) rfl
  obtain ⟨fd_sizes_of, F_sizes_of⟩ := c.def_ 14 (d := d_sizes_of) rfl
  obtain ⟨fd_heat_of, F_heat_of⟩ := c.def_ 15 (d := d_heat_of) rfl
  obtain ⟨fd_allowed_pairs, F_allowed_pairs⟩ := c.def_ 16 (d := d_allowed_pairs) rfl
  obtain ⟨fd_descending, F_descending⟩ := c.def_ 17 (d := d_descending) rfl
  obtain ⟨fd_heat_of_amount, F_heat_of_amount⟩ := c.def_ 18 (d := d_heat_of_amount) rfl
  obtain ⟨fd_breakpoints, F_breakpoints⟩ := c.def_ 19 (d := d_breakpoints) rfl
  obtain ⟨fd_first_excess, F_first_excess⟩ := c.def_ 20 (d := d_first_excess) rfl
  obtain ⟨fd_common_step, F_common_step⟩ := c.def_ 21 (d := d_common_step) rfl
  obtain ⟨fd_divisors_of, F_divisors_of⟩ := c.def_ 22 (d := d_divisors_of) rfl
  obtain ⟨fd_remaining_factor, F_remaining_factor⟩ := c.def_ 23 (d := d_remaining_factor) rfl
  obtain ⟨fd_foreign_factor, F_foreign_factor⟩ := c.def_ 24 (d := d_foreign_factor) rfl
  obtain ⟨fd_reason_for, F_reason_for⟩ := c.def_ 25 (d := d_reason_for) rfl
  obtain ⟨fd_unreachable_reason, F_unreachable_reason⟩ := c.def_ 26 (d := d_unreachable_reason) rfl
  obtain ⟨fd_w_pool, F_w_pool⟩ := c.def_ 27 (d := d_w_pool) rfl
  obtain ⟨fd_w_take, F_w_take⟩ := c.def_ 28 (d := d_w_take) rfl
  obtain ⟨fd_w_low, F_w_low⟩ := c.def_ 29 (d := d_w_low) rfl
  obtain ⟨fd_w_plus, F_w_plus⟩ := c.def_ 30 (d := d_w_plus) rfl
  obtain ⟨fd_w_times, F_w_times⟩ := c.def_ 31 (d := d_w_times) rfl
  obtain ⟨fd_w_less, F_w_less⟩ := c.def_ 32 (d := d_w_less) rfl
  obtain ⟨fd_w_share, F_w_share⟩ := c.def_ 33 (d := d_w_share) rfl
  obtain ⟨fd_w_lot, F_w_lot⟩ := c.def_ 34 (d := d_w_lot) rfl
  obtain ⟨fd_w_units, F_w_units⟩ := c.def_ 35 (d := d_w_units) rfl
  obtain ⟨fd_w_sums, F_w_sums⟩ := c.def_ 36 (d := d_w_sums) rfl
  obtain ⟨fd_w_shifted, F_w_shifted⟩ := c.def_ 37 (d := d_w_shifted) rfl
  obtain ⟨fd_w_partly, F_w_partly⟩ := c.def_ 38 (d := d_w_partly) rfl
  obtain ⟨fd_w_second, F_w_second⟩ := c.def_ 39 (d := d_w_second) rfl
  obtain ⟨fd_w_right, F_w_right⟩ := c.def_ 40 (d := d_w_right) rfl
  obtain ⟨fd_law, F_law⟩ := c.def_ 41 (d := d_law) rfl
  have e := hfa.symm.trans (He.glo_ok X G (c.fact 41 (f := .glo "law") rfl))
  cases e
  have b := FunD.bindsA (ps := ["_law_script"]) F_law fun _ _ _ _ _ _ us hl => match us, hl with | [_], _ => rfl
  refine ⟨fd_law, fun s v => b s [v] rfl, fun base _ _ => ?_⟩
  have q_is_integer := ok_is_integer (P := P) (w := w) (base := base) (mg := mg) F_is_integer (He.free_ok X G (c.fact 48 (f := .free "isinstance") rfl)) (He.free_ok X G (c.fact 47 (f := .free "int") rfl)) (He.free_ok X G (c.fact 45 (f := .free "bool") rfl))
  have c_is_integer := Callable.mk (P := P) (w := w) (base := base) (mg := mg) ⟨_, _, _, q_is_integer, (He.glo_ok X G (c.fact 0 (f := .glo "is_integer") rfl)), F_is_integer.kp, FunD.bindsN F_is_integer fun _ _ _ _ _ _ us hl => match us, hl with | [_], _ => rfl⟩
  have q_in_range := ok_in_range (P := P) (w := w) (base := base) (mg := mg) F_in_range c_is_integer
  have c_in_range := Callable.mk (P := P) (w := w) (base := base) (mg := mg) ⟨_, _, _, q_in_range, (He.glo_ok X G (c.fact 1 (f := .glo "in_range") rfl)), F_in_range.kp, FunD.bindsN F_in_range fun _ _ _ _ _ _ us hl => match us, hl with | [_, _, _], _ => rfl⟩
  have q_gcd := ok_gcd (P := P) (w := w) (base := base) (mg := mg) F_gcd (He.free_ok X G (c.fact 44 (f := .free "abs") rfl))
  have c_gcd := Callable.mk (P := P) (w := w) (base := base) (mg := mg) ⟨_, _, _, q_gcd, (He.glo_ok X G (c.fact 2 (f := .glo "gcd") rfl)), F_gcd.kp, FunD.bindsN F_gcd fun _ _ _ _ _ _ us hl => match us, hl with | [_, _], _ => rfl⟩
  have q_is_fraction := ok_is_fraction (P := P) (w := w) (base := base) (mg := mg) F_is_fraction c_is_integer c_gcd (He.free_ok X G (c.fact 48 (f := .free "isinstance") rfl)) (He.free_ok X G (c.fact 57 (f := .free "tuple") rfl)) (He.free_ok X G (c.fact 49 (f := .free "len") rfl))
  have c_is_fraction := Callable.mk (P := P) (w := w) (base := base) (mg := mg) ⟨_, _, _, q_is_fraction, (He.glo_ok X G (c.fact 3 (f := .glo "is_fraction") rfl)), F_is_fraction.kp, FunD.bindsN F_is_fraction fun _ _ _ _ _ _ us hl => match us, hl with | [_], _ => rfl⟩
  have q_reduced := ok_reduced (P := P) (w := w) (base := base) (mg := mg) F_reduced c_gcd
  have c_reduced := Callable.mk (P := P) (w := w) (base := base) (mg := mg) ⟨_, _, _, q_reduced, (He.glo_ok X G (c.fact 4 (f := .glo "reduced") rfl)), F_reduced.kp, FunD.bindsN F_reduced fun _ _ _ _ _ _ us hl => match us, hl with | [_, _], _ => rfl⟩
  have q_fraction_sum := ok_fraction_sum (P := P) (w := w) (base := base) (mg := mg) F_fraction_sum c_reduced
  have c_fraction_sum := Callable.mk (P := P) (w := w) (base := base) (mg := mg) ⟨_, _, _, q_fraction_sum, (He.glo_ok X G (c.fact 5 (f := .glo "fraction_sum") rfl)), F_fraction_sum.kp, FunD.bindsN F_fraction_sum fun _ _ _ _ _ _ us hl => match us, hl with | [_, _], _ => rfl⟩
  have q_fraction_difference := ok_fraction_difference (P := P) (w := w) (base := base) (mg := mg) F_fraction_difference c_reduced
  have c_fraction_difference := Callable.mk (P := P) (w := w) (base := base) (mg := mg) ⟨_, _, _, q_fraction_difference, (He.glo_ok X G (c.fact 6 (f := .glo "fraction_difference") rfl)), F_fraction_difference.kp, FunD.bindsN F_fraction_difference fun _ _ _ _ _ _ us hl => match us, hl with | [_, _], _ => rfl⟩
  have q_fraction_product := ok_fraction_product (P := P) (w := w) (base := base) (mg := mg) F_fraction_product c_reduced
  have c_fraction_product := Callable.mk (P := P) (w := w) (base := base) (mg := mg) ⟨_, _, _, q_fraction_product, (He.glo_ok X G (c.fact 7 (f := .glo "fraction_product") rfl)), F_fraction_product.kp, FunD.bindsN F_fraction_product fun _ _ _ _ _ _ us hl => match us, hl with | [_, _], _ => rfl⟩
  have q_is_lower := ok_is_lower (P := P) (w := w) (base := base) (mg := mg) F_is_lower
  have c_is_lower := Callable.mk (P := P) (w := w) (base := base) (mg := mg) ⟨_, _, _, q_is_lower, (He.glo_ok X G (c.fact 8 (f := .glo "is_lower") rfl)), F_is_lower.kp, FunD.bindsN F_is_lower fun _ _ _ _ _ _ us hl => match us, hl with | [_, _], _ => rfl⟩
  have q_total_of := ok_total_of (P := P) (w := w) (base := base) (mg := mg) F_total_of c_fraction_sum
  have c_total_of := Callable.mk (P := P) (w := w) (base := base) (mg := mg) ⟨_, _, _, q_total_of, (He.glo_ok X G (c.fact 9 (f := .glo "total_of") rfl)), F_total_of.kp, FunD.bindsN F_total_of fun _ _ _ _ _ _ us hl => match us, hl with | [_], _ => rfl⟩
  have q_is_valid_size := ok_is_valid_size (P := P) (w := w) (base := base) (mg := mg) F_is_valid_size c_in_range (He.int_ok X G (c.fact 43 (f := .int "MAX_SIZE" 99) rfl))
  have c_is_valid_size := Callable.mk (P := P) (w := w) (base := base) (mg := mg) ⟨_, _, _, q_is_valid_size, (He.glo_ok X G (c.fact 10 (f := .glo "is_valid_size") rfl)), F_is_valid_size.kp, FunD.bindsN F_is_valid_size fun _ _ _ _ _ _ us hl => match us, hl with | [_], _ => rfl⟩
  have q_is_valid_block := ok_is_valid_block (P := P) (w := w) (base := base) (mg := mg) F_is_valid_block c_is_valid_size c_is_fraction (He.free_ok X G (c.fact 48 (f := .free "isinstance") rfl)) (He.free_ok X G (c.fact 57 (f := .free "tuple") rfl)) (He.free_ok X G (c.fact 49 (f := .free "len") rfl))
  have c_is_valid_block := Callable.mk (P := P) (w := w) (base := base) (mg := mg) ⟨_, _, _, q_is_valid_block, (He.glo_ok X G (c.fact 11 (f := .glo "is_valid_block") rfl)), F_is_valid_block.kp, FunD.bindsN F_is_valid_block fun _ _ _ _ _ _ us hl => match us, hl with | [_], _ => rfl⟩
  have q_check_each := ok_check_each (P := P) (w := w) (base := base) (mg := mg) F_check_each (He.int_ok X G (c.fact 42 (f := .int "MAX_BLOCKS" 12) rfl)) (He.free_ok X G (c.fact 48 (f := .free "isinstance") rfl)) (He.free_ok X G (c.fact 57 (f := .free "tuple") rfl)) (He.free_ok X G (c.fact 49 (f := .free "len") rfl)) (He.free_ok X G (c.fact 46 (f := .free "enumerate") rfl))
  have c_check_each := Callable.mk (P := P) (w := w) (base := base) (mg := mg) ⟨_, _, _, q_check_each, (He.glo_ok X G (c.fact 12 (f := .glo "check_each") rfl)), F_check_each.kp, FunD.bindsN F_check_each fun _ _ _ _ _ _ us hl => match us, hl with | [_, _], _ => rfl⟩
  have q_check_state := ok_check_state (P := P) (w := w) (base := base) (mg := mg) F_check_state c_check_each c_is_valid_block
  have c_check_state := Callable.mk (P := P) (w := w) (base := base) (mg := mg) ⟨_, _, _, q_check_state, (He.glo_ok X G (c.fact 13 (f := .glo "check_state") rfl)), F_check_state.kp, FunD.bindsN F_check_state fun _ _ _ _ _ _ us hl => match us, hl with | [_], _ => rfl⟩
  have q_sizes_of := ok_sizes_of (P := P) (w := w) (base := base) (mg := mg) F_sizes_of (He.free_ok X G (c.fact 57 (f := .free "tuple") rfl))
  have c_sizes_of := Callable.mk (P := P) (w := w) (base := base) (mg := mg) ⟨_, _, _, q_sizes_of, (He.glo_ok X G (c.fact 14 (f := .glo "sizes_of") rfl)), F_sizes_of.kp, FunD.bindsN F_sizes_of fun _ _ _ _ _ _ us hl => match us, hl with | [_], _ => rfl⟩
  have q_heat_of := ok_heat_of (P := P) (w := w) (base := base) (mg := mg) F_heat_of c_total_of c_fraction_product
  have c_heat_of := Callable.mk (P := P) (w := w) (base := base) (mg := mg) ⟨_, _, _, q_heat_of, (He.glo_ok X G (c.fact 15 (f := .glo "heat_of") rfl)), F_heat_of.kp, FunD.bindsN F_heat_of fun _ _ _ _ _ _ us hl => match us, hl with | [_], _ => rfl⟩
  have q_allowed_pairs := ok_allowed_pairs (P := P) (w := w) (base := base) (mg := mg) F_allowed_pairs (He.free_ok X G (c.fact 53 (f := .free "range") rfl))
  have c_allowed_pairs := Callable.mk (P := P) (w := w) (base := base) (mg := mg) ⟨_, _, _, q_allowed_pairs, (He.glo_ok X G (c.fact 16 (f := .glo "allowed_pairs") rfl)), F_allowed_pairs.kp, FunD.bindsN F_allowed_pairs fun _ _ _ _ _ _ us hl => match us, hl with | [_, _], _ => rfl⟩
  have q_descending := ok_descending (P := P) (w := w) (base := base) (mg := mg) F_descending c_is_lower (He.free_ok X G (c.fact 49 (f := .free "len") rfl))
  have c_descending := Callable.mk (P := P) (w := w) (base := base) (mg := mg) ⟨_, _, _, q_descending, (He.glo_ok X G (c.fact 17 (f := .glo "descending") rfl)), F_descending.kp, FunD.bindsN F_descending fun _ _ _ _ _ _ us hl => match us, hl with | [_], _ => rfl⟩
  have q_heat_of_amount := ok_heat_of_amount (P := P) (w := w) (base := base) (mg := mg) F_heat_of_amount c_descending c_fraction_sum c_fraction_product (tups_of X G cx 0 (x := "ZERO") rfl) (He.free_ok X G (c.fact 52 (f := .free "min") rfl))
  have c_heat_of_amount := Callable.mk (P := P) (w := w) (base := base) (mg := mg) ⟨_, _, _, q_heat_of_amount, (He.glo_ok X G (c.fact 18 (f := .glo "heat_of_amount") rfl)), F_heat_of_amount.kp, FunD.bindsN F_heat_of_amount fun _ _ _ _ _ _ us hl => match us, hl with | [_, _], _ => rfl⟩
  have q_breakpoints := ok_breakpoints (P := P) (w := w) (base := base) (mg := mg) F_breakpoints c_descending
  have c_breakpoints := Callable.mk (P := P) (w := w) (base := base) (mg := mg) ⟨_, _, _, q_breakpoints, (He.glo_ok X G (c.fact 19 (f := .glo "breakpoints") rfl)), F_breakpoints.kp, FunD.bindsN F_breakpoints fun _ _ _ _ _ _ us hl => match us, hl with | [_], _ => rfl⟩
  have q_first_excess := ok_first_excess (P := P) (w := w) (base := base) (mg := mg) F_first_excess c_fraction_difference c_heat_of_amount c_fraction_product c_breakpoints (tups_of X G cx 0 (x := "ZERO") rfl) (He.free_ok X G (c.fact 56 (f := .free "sorted") rfl)) (He.free_ok X G (c.fact 55 (f := .free "set") rfl))
  have c_first_excess := Callable.mk (P := P) (w := w) (base := base) (mg := mg) ⟨_, _, _, q_first_excess, (He.glo_ok X G (c.fact 20 (f := .glo "first_excess") rfl)), F_first_excess.kp, FunD.bindsN F_first_excess fun _ _ _ _ _ _ us hl => match us, hl with | [_, _], _ => rfl⟩
  have q_common_step := ok_common_step (P := P) (w := w) (base := base) (mg := mg) F_common_step c_fraction_difference c_reduced c_gcd (tups_of X G cx 0 (x := "ZERO") rfl)
  have c_common_step := Callable.mk (P := P) (w := w) (base := base) (mg := mg) ⟨_, _, _, q_common_step, (He.glo_ok X G (c.fact 21 (f := .glo "common_step") rfl)), F_common_step.kp, FunD.bindsN F_common_step fun _ _ _ _ _ _ us hl => match us, hl with | [_], _ => rfl⟩
  have q_divisors_of := ok_divisors_of (P := P) (w := w) (base := base) (mg := mg) F_divisors_of c_allowed_pairs c_gcd (He.free_ok X G (c.fact 49 (f := .free "len") rfl))
  have c_divisors_of := Callable.mk (P := P) (w := w) (base := base) (mg := mg) ⟨_, _, _, q_divisors_of, (He.glo_ok X G (c.fact 22 (f := .glo "divisors_of") rfl)), F_divisors_of.kp, FunD.bindsN F_divisors_of fun _ _ _ _ _ _ us hl => match us, hl with | [_], _ => rfl⟩
  have q_remaining_factor := ok_remaining_factor (P := P) (w := w) (base := base) (mg := mg) F_remaining_factor c_gcd
  have c_remaining_factor := Callable.mk (P := P) (w := w) (base := base) (mg := mg) ⟨_, _, _, q_remaining_factor, (He.glo_ok X G (c.fact 23 (f := .glo "remaining_factor") rfl)), F_remaining_factor.kp, FunD.bindsN F_remaining_factor fun _ _ _ _ _ _ us hl => match us, hl with | [_, _], _ => rfl⟩
  have q_foreign_factor := ok_foreign_factor (P := P) (w := w) (base := base) (mg := mg) F_foreign_factor c_common_step c_divisors_of c_sizes_of c_fraction_difference c_remaining_factor c_reduced (tups_of X G cx 0 (x := "ZERO") rfl) (He.free_ok X G (c.fact 46 (f := .free "enumerate") rfl))
  have c_foreign_factor := Callable.mk (P := P) (w := w) (base := base) (mg := mg) ⟨_, _, _, q_foreign_factor, (He.glo_ok X G (c.fact 24 (f := .glo "foreign_factor") rfl)), F_foreign_factor.kp, FunD.bindsN F_foreign_factor fun _ _ _ _ _ _ us hl => match us, hl with | [_, _], _ => rfl⟩
  have q_reason_for := ok_reason_for (P := P) (w := w) (base := base) (mg := mg) F_reason_for c_sizes_of c_heat_of c_first_excess c_foreign_factor (He.free_ok X G (c.fact 49 (f := .free "len") rfl)) (He.free_ok X G (c.fact 55 (f := .free "set") rfl))
  have c_reason_for := Callable.mk (P := P) (w := w) (base := base) (mg := mg) ⟨_, _, _, q_reason_for, (He.glo_ok X G (c.fact 25 (f := .glo "reason_for") rfl)), F_reason_for.kp, FunD.bindsN F_reason_for fun _ _ _ _ _ _ us hl => match us, hl with | [_, _], _ => rfl⟩
  have q_unreachable_reason := ok_unreachable_reason (P := P) (w := w) (base := base) (mg := mg) F_unreachable_reason c_check_state c_reason_for
  have c_unreachable_reason := Callable.mk (P := P) (w := w) (base := base) (mg := mg) ⟨_, _, _, q_unreachable_reason, (He.glo_ok X G (c.fact 26 (f := .glo "unreachable_reason") rfl)), F_unreachable_reason.kp, FunD.bindsN F_unreachable_reason fun _ _ _ _ _ _ us hl => match us, hl with | [_, _], _ => rfl⟩
  have q_w_pool := ok_w_pool (P := P) (w := w) (base := base) (mg := mg) F_w_pool (He.free_ok X G (c.fact 49 (f := .free "len") rfl)) (He.free_ok X G (c.fact 44 (f := .free "abs") rfl)) (He.free_ok X G (c.fact 47 (f := .free "int") rfl))
  have c_w_pool := Callable.mk (P := P) (w := w) (base := base) (mg := mg) ⟨_, _, _, q_w_pool, (He.glo_ok X G (c.fact 27 (f := .glo "_law_pool") rfl)), F_w_pool.kp, FunD.bindsN F_w_pool fun _ _ _ _ _ _ us hl => match us, hl with | [_, _], _ => rfl⟩
  have q_w_take := ok_w_take (P := P) (w := w) (base := base) (mg := mg) F_w_take
  have c_w_take := Callable.mk (P := P) (w := w) (base := base) (mg := mg) ⟨_, _, _, q_w_take, (He.glo_ok X G (c.fact 28 (f := .glo "_law_take") rfl)), F_w_take.kp, FunD.bindsN F_w_take fun _ _ _ _ _ _ us hl => match us, hl with | [_, _], _ => rfl⟩
  have q_w_low := ok_w_low (P := P) (w := w) (base := base) (mg := mg) F_w_low (He.free_ok X G (c.fact 44 (f := .free "abs") rfl))
  have c_w_low := Callable.mk (P := P) (w := w) (base := base) (mg := mg) ⟨_, _, _, q_w_low, (He.glo_ok X G (c.fact 29 (f := .glo "_law_low") rfl)), F_w_low.kp, FunD.bindsN F_w_low fun _ _ _ _ _ _ us hl => match us, hl with | [_, _], _ => rfl⟩
  have q_w_plus := ok_w_plus (P := P) (w := w) (base := base) (mg := mg) F_w_plus c_w_low
  have c_w_plus := Callable.mk (P := P) (w := w) (base := base) (mg := mg) ⟨_, _, _, q_w_plus, (He.glo_ok X G (c.fact 30 (f := .glo "_law_plus") rfl)), F_w_plus.kp, FunD.bindsN F_w_plus fun _ _ _ _ _ _ us hl => match us, hl with | [_, _], _ => rfl⟩
  have q_w_times := ok_w_times (P := P) (w := w) (base := base) (mg := mg) F_w_times c_w_low
  have c_w_times := Callable.mk (P := P) (w := w) (base := base) (mg := mg) ⟨_, _, _, q_w_times, (He.glo_ok X G (c.fact 31 (f := .glo "_law_times") rfl)), F_w_times.kp, FunD.bindsN F_w_times fun _ _ _ _ _ _ us hl => match us, hl with | [_, _], _ => rfl⟩
  have q_w_less := ok_w_less (P := P) (w := w) (base := base) (mg := mg) F_w_less
  have c_w_less := Callable.mk (P := P) (w := w) (base := base) (mg := mg) ⟨_, _, _, q_w_less, (He.glo_ok X G (c.fact 32 (f := .glo "_law_less") rfl)), F_w_less.kp, FunD.bindsN F_w_less fun _ _ _ _ _ _ us hl => match us, hl with | [_, _], _ => rfl⟩
  have q_w_share := ok_w_share (P := P) (w := w) (base := base) (mg := mg) F_w_share c_w_take c_w_low
  have c_w_share := Callable.mk (P := P) (w := w) (base := base) (mg := mg) ⟨_, _, _, q_w_share, (He.glo_ok X G (c.fact 33 (f := .glo "_law_share") rfl)), F_w_share.kp, FunD.bindsN F_w_share fun _ _ _ _ _ _ us hl => match us, hl with | [_], _ => rfl⟩
  have q_w_lot := ok_w_lot (P := P) (w := w) (base := base) (mg := mg) F_w_lot c_w_take c_w_share (He.free_ok X G (c.fact 53 (f := .free "range") rfl)) (He.free_ok X G (c.fact 57 (f := .free "tuple") rfl))
  have c_w_lot := Callable.mk (P := P) (w := w) (base := base) (mg := mg) ⟨_, _, _, q_w_lot, (He.glo_ok X G (c.fact 34 (f := .glo "_law_lot") rfl)), F_w_lot.kp, FunD.bindsN F_w_lot fun _ _ _ _ _ _ us hl => match us, hl with | [_, _, _], _ => rfl⟩
  have q_w_units := ok_w_units (P := P) (w := w) (base := base) (mg := mg) F_w_units c_w_less (He.free_ok X G (c.fact 49 (f := .free "len") rfl))
  have c_w_units := Callable.mk (P := P) (w := w) (base := base) (mg := mg) ⟨_, _, _, q_w_units, (He.glo_ok X G (c.fact 35 (f := .glo "_law_units") rfl)), F_w_units.kp, FunD.bindsN F_w_units fun _ _ _ _ _ _ us hl => match us, hl with | [_], _ => rfl⟩
  have q_w_sums := ok_w_sums (P := P) (w := w) (base := base) (mg := mg) F_w_sums c_w_units c_w_plus
  have c_w_sums := Callable.mk (P := P) (w := w) (base := base) (mg := mg) ⟨_, _, _, q_w_sums, (He.glo_ok X G (c.fact 36 (f := .glo "_law_sums") rfl)), F_w_sums.kp, FunD.bindsN F_w_sums fun _ _ _ _ _ _ us hl => match us, hl with | [_], _ => rfl⟩
  have q_w_shifted := ok_w_shifted (P := P) (w := w) (base := base) (mg := mg) F_w_shifted c_w_plus c_w_low (He.free_ok X G (c.fact 50 (f := .free "list") rfl)) (He.free_ok X G (c.fact 57 (f := .free "tuple") rfl))
  have c_w_shifted := Callable.mk (P := P) (w := w) (base := base) (mg := mg) ⟨_, _, _, q_w_shifted, (He.glo_ok X G (c.fact 37 (f := .glo "_law_shifted") rfl)), F_w_shifted.kp, FunD.bindsN F_w_shifted fun _ _ _ _ _ _ us hl => match us, hl with | [_, _, _, _], _ => rfl⟩
  have q_w_partly := ok_w_partly (P := P) (w := w) (base := base) (mg := mg) F_w_partly c_w_plus c_w_times c_w_low c_w_shifted
  have c_w_partly := Callable.mk (P := P) (w := w) (base := base) (mg := mg) ⟨_, _, _, q_w_partly, (He.glo_ok X G (c.fact 38 (f := .glo "_law_partly") rfl)), F_w_partly.kp, FunD.bindsN F_w_partly fun _ _ _ _ _ _ us hl => match us, hl with | [_, _, _, _], _ => rfl⟩
  have q_w_second := ok_w_second (P := P) (w := w) (base := base) (mg := mg) F_w_second c_w_take c_w_shifted c_w_partly c_w_share c_w_low (He.free_ok X G (c.fact 53 (f := .free "range") rfl)) (He.free_ok X G (c.fact 49 (f := .free "len") rfl))
  have c_w_second := Callable.mk (P := P) (w := w) (base := base) (mg := mg) ⟨_, _, _, q_w_second, (He.glo_ok X G (c.fact 39 (f := .glo "_law_second") rfl)), F_w_second.kp, FunD.bindsN F_w_second fun _ _ _ _ _ _ us hl => match us, hl with | [_, _], _ => rfl⟩
  have q_w_right := ok_w_right (P := P) (w := w) (base := base) (mg := mg) (T := []) F_w_right c_unreachable_reason c_w_sums c_w_less (He.free_ok X G (c.fact 53 (f := .free "range") rfl)) (He.free_ok X G (c.fact 49 (f := .free "len") rfl)) (He.free_ok X G (c.fact 54 (f := .free "repr") rfl))
  have c_w_right := CallableG.mk (P := P) (w := w) (base := base) (mg := mg) ⟨_, _, _, q_w_right, (He.glo_ok X G (c.fact 40 (f := .glo "_law_right") rfl)), F_w_right.kp, FunD.bindsN F_w_right fun _ _ _ _ _ _ us hl => match us, hl with | [_, _], _ => rfl⟩
  exact ok_law F_law c_w_pool c_w_take c_w_lot c_w_second c_w_right c_w_plus (He.free_ok X G (c.fact 53 (f := .free "range") rfl)) (He.free_ok X G (c.fact 51 (f := .free "max") rfl)) (He.free_ok X G (c.fact 52 (f := .free "min") rfl)) (He.free_ok X G (c.fact 49 (f := .free "len") rfl))
end T33
open PySem PySem.W PySem.Calls PyProof.Rows
theorem PySem.Challenge.cw_warmthbytouch_k33_reason_warmest_holds : PySem.Challenge.rw_warmthbytouch_k33_reason_warmest.Holds := by
  w_on; o_law
  refine HandSHeadRun.head_any (r := OpenLaw.row PySem.Challenge.rw_warmthbytouch_k33_reason_warmest) (q := view (OpenLaw.row PySem.Challenge.rw_warmthbytouch_k33_reason_warmest).prog [52]) (H := T33.hk) (ob := T33.ob) (M := 20000) (loose := T33.loose) (d := HandSHeadRun.topDef (OpenLaw.row PySem.Challenge.rw_warmthbytouch_k33_reason_warmest).prog 52) (kwd := []) T33.ob_eq
    (by kernel_rfl) (fun s => by kernel_rfl) T33.run (by kernel_rfl) (by kernel_rfl) (by kernel_rfl) (by rfl) (by first | assumption | decide +kernel) (by decide +kernel) ⟨rfl, rfl, rfl, rfl, rfl, by decide +kernel⟩ ?hw ?hc
  case hw => w_witness2
  case hc =>
    refine AL.walk_ofG (l := PySem.Challenge.rw_warmthbytouch_k33_reason_warmest) (n := 63) (k := 9) (x := "_law_script") rfl (by decide) (by kernel_rfl) ⟨rfl, by decide, by decide⟩ ?F
    intro w mg fa h Y G hmg0
    obtain ⟨K, KX, c⟩ := Y
    have hmg : mg ("law" : PySem.Str) = some (.ref fa) := by
      have e : (HandSHeadRun.topDef (OpenLaw.row PySem.Challenge.rw_warmthbytouch_k33_reason_warmest).prog 52).name = ("law" : PySem.Str) := by kernel_rfl
      rw [← e]
      exact hmg0
    obtain ⟨fd, hb, hF⟩ := T33.facts (P := (PySem.Challenge.rw_warmthbytouch_k33_reason_warmest).prog) (w := w) KX G hmg c.t.d c.more
    refine ⟨K, fd, [], _, KX, fun p hp => absurd hp (by simp), fun p hp => absurd hp (by simp), fun p hp => absurd hp (by simp), hb, fun H a ns hl _ hS => ?_, fun base e1 e2 _ => hF base e1 e2⟩
    exact AL.spG_law (fun p hp => absurd hp (by simp)) hS ⟨ns, rfl, hl, rfl⟩
