import PyProof.Rows.All
import Wide.All
import OpenK.AllK
import Wide.FinOn
import KE.KStateDown
import HandS.Base
import HandS.Call
import HandS.List
import HandS.Comp
import HandS.Ends
import HandS.Iter
import HandS.Walk
import HandS.Conv
import HandS.Wide
import HandS.IsInst
import HandS.CallLocal
import HandS.Words
import HandS.WordsExc
import HandS.Defaults
import KE.GoesEnum
import HandS.Zip
import HandS.TupAny
import HandS.More
import PySem.Challenge.RW_warmthbytouch_k73_whole_insertion_and_re
import HandS.Head0
import HandS.Head1
import HandS.Head2
import HandS.HeadEnd
import HandS.HeadHook1
import HandS.HeadHook2
set_option Elab.async false
set_option linter.all false
set_option maxRecDepth 100000
set_option maxHeartbeats 0
/-! A layer over the hand layer: defs read as functions of plain data. Slots hold data (frozen: never changed again), or a list of the def's own that may change; no addresses are told. -/
namespace AL
open PySem PySem.Spec L2

/-! ### data on the heap -/
mutual
inductive Dd (K : PySem.W.Frag) (Z : Hp) : V → PyData → Prop
  | non : Dd K Z .non .none
  | bl (b : Bool) : Dd K Z (.bl b) (.bool b)
  | int (i : Int) : Dd K Z (.int i) (.int i)
  | str (x : Str) : Dd K Z (.str x) (.str x)
  | lst {a : Addr} {xs : List V} {ds : List PyData} : Z a = some (.lst xs) → DdA K Z xs ds → Dd K Z (.ref a) (.list ds)
  | tup {a : Addr} {xs : List V} {ds : List PyData} : SqT K Z a xs → DdA K Z xs ds → Dd K Z (.ref a) (.tuple ds)
  /-- a list of ints that is only read (the script); told as a dict, which is never data else -/
  | scr {a : Addr} {ns : List Int} : SqL K Z a (ns.map V.int) → Dd K Z (.ref a) (.dict (ns.map fun n => (.int n, .none)))
inductive DdA (K : PySem.W.Frag) (Z : Hp) : List V → List PyData → Prop
  | nil : DdA K Z [] []
  | cons {v : V} {vs : List V} {d : PyData} {ds : List PyData} : Dd K Z v d → DdA K Z vs ds → DdA K Z (v :: vs) (d :: ds)
end
mutual
def nol : PyData → Bool
  | .list _ => false
  | .dict _ => false
  | .tuple ds => nolA ds
  | _ => true
def nolA : List PyData → Bool
  | [] => true
  | d :: ds => nol d && nolA ds
end
def scr (ns : List Int) : PyData := .dict (ns.map fun n => (.int n, .none))
section
variable {K : PySem.W.Frag} {Z Z' H H' : Hp}
theorem Same.seqT {a : Addr} {xs : List V} (e : Same Z Z') (h : SqT K Z a xs) : SqT K Z' a xs := by
  rcases h with (h | ⟨o, h⟩) | h
  · exact .inl (.inl (e _ _ h))
  · exact .inl (.inr ⟨o, e _ _ h⟩)
  · exact .inr h
mutual
theorem Dd.mono (e : Same Z Z') : ∀ (d : PyData) (v : V), Dd K Z v d → Dd K Z' v d
  | .none, _, h => by cases h; exact .non
  | .bool b, _, h => by cases h; exact .bl b
  | .int i, _, h => by cases h; exact .int i
  | .str x, _, h => by cases h; exact .str x
  | .list ds, _, h => by
    cases h with
    | lst h1 h2 => exact .lst (e _ _ h1) (DdA.mono e ds _ h2)
  | .tuple ds, _, h => by
    cases h with
    | tup h1 h2 => exact .tup (Same.seqT e h1) (DdA.mono e ds _ h2)
  | .dict _, _, h => by
    cases h with
    | scr h1 => exact .scr (Same.seq e h1)
theorem DdA.mono (e : Same Z Z') : ∀ (ds : List PyData) (vs : List V), DdA K Z vs ds → DdA K Z' vs ds
  | [], _, h => by cases h; exact .nil
  | d :: ds, _, h => by
    cases h with
    | cons h1 h2 => exact .cons (Dd.mono e d _ h1) (DdA.mono e ds _ h2)
end
mutual
theorem Dd.tups (e : ∀ a xs, SqT K Z a xs → SqT K Z' a xs) : ∀ (d : PyData) (v : V), nol d = true → Dd K Z v d → Dd K Z' v d
  | .none, _, _, h => by cases h; exact .non
  | .bool b, _, _, h => by cases h; exact .bl b
  | .int i, _, _, h => by cases h; exact .int i
  | .str x, _, _, h => by cases h; exact .str x
  | .list ds, _, n, h => by simp [nol] at n
  | .tuple ds, _, n, h => by
    cases h with
    | tup h1 h2 => exact .tup (e _ _ h1) (DdA.tups e ds _ (by simpa [nol] using n) h2)
  | .dict _, _, n, h => by simp [nol] at n
theorem DdA.tups (e : ∀ a xs, SqT K Z a xs → SqT K Z' a xs) : ∀ (ds : List PyData) (vs : List V), nolA ds = true → DdA K Z vs ds → DdA K Z' vs ds
  | [], _, _, h => by cases h; exact .nil
  | d :: ds, _, n, h => by
    have n' : nol d = true ∧ nolA ds = true := by simpa [nolA] using n
    cases h with
    | cons h1 h2 => exact .cons (Dd.tups e d _ n'.1 h1) (DdA.tups e ds _ n'.2 h2)
end
mutual
theorem Dd.dp (e : Same Z H) : ∀ (d : PyData) (v : V), d.canLay0 = true → Dd K Z v d → Dp K H v d
  | .none, _, _, h => by cases h; exact .non
  | .bool b, _, _, h => by cases h; exact .bl b
  | .int i, _, _, h => by cases h; exact .int i
  | .str x, _, _, h => by cases h; exact .str x
  | .list ds, _, n, h => by
    cases h with
    | lst h1 h2 => exact .lst (SqL.of (e _ _ h1)) (DdA.dp e ds _ (by simpa [PyData.canLay0] using n) h2)
  | .tuple ds, _, n, h => by
    cases h with
    | tup h1 h2 => exact .tup (Same.seqT e h1) (DdA.dp e ds _ (by simpa [PyData.canLay0] using n) h2)
  | .dict _, _, n, h => by simp [PyData.canLay0] at n
theorem DdA.dp (e : Same Z H) : ∀ (ds : List PyData) (vs : List V), PyData.canLayAll0 ds = true → DdA K Z vs ds → DpAll K H vs ds
  | [], _, _, h => by cases h; exact .nil
  | d :: ds, _, n, h => by
    have n' : d.canLay0 = true ∧ PyData.canLayAll0 ds = true := by simpa [PyData.canLayAll0] using n
    cases h with
    | cons h1 h2 => exact .cons (Dd.dp e d _ n'.1 h1) (DdA.dp e ds _ n'.2 h2)
end
theorem DdA.length : ∀ {ds : List PyData} {vs : List V}, DdA K Z vs ds → vs.length = ds.length
  | [], _, h => by cases h; rfl
  | d :: ds, _, h => by
    cases h with
    | cons h1 h2 => simp [DdA.length h2]
theorem DdA.get : ∀ {ds : List PyData} {vs : List V} {i : Nat} {d : PyData}, DdA K Z vs ds → ds[i]? = some d → ∃ v, vs[i]? = some v ∧ Dd K Z v d
  | [], _, _, _, _, e => by simp at e
  | d :: ds, _, 0, _, h, e => by
    cases h with
    | cons h1 h2 => simp at e; subst e; exact ⟨_, rfl, h1⟩
  | d :: ds, _, i + 1, _, h, e => by
    cases h with
    | cons h1 h2 =>
      obtain ⟨v, e1, e2⟩ := DdA.get h2 (by simpa using e)
      exact ⟨v, by simpa using e1, e2⟩
theorem DdA.getV : ∀ {ds : List PyData} {vs : List V} {i : Nat} {v : V}, DdA K Z vs ds → vs[i]? = some v → ∃ d, ds[i]? = some d ∧ Dd K Z v d
  | [], _, _, _, h, e => by cases h; simp at e
  | d :: ds, _, 0, _, h, e => by
    cases h with
    | cons h1 h2 => simp at e; subst e; exact ⟨_, rfl, h1⟩
  | d :: ds, _, i + 1, _, h, e => by
    cases h with
    | cons h1 h2 =>
      obtain ⟨v, e1, e2⟩ := DdA.getV h2 (by simpa using e)
      exact ⟨v, by simpa using e1, e2⟩
theorem DdA.append : ∀ {ds es : List PyData} {vs ws : List V}, DdA K Z vs ds → DdA K Z ws es → DdA K Z (vs ++ ws) (ds ++ es)
  | [], _, _, _, h, k => by cases h; exact k
  | d :: ds, _, _, _, h, k => by
    cases h with
    | cons h1 h2 => exact .cons h1 (DdA.append h2 k)
theorem DdA.set : ∀ {ds : List PyData} {vs : List V} {v : V} {d : PyData} (i : Nat), DdA K Z vs ds → Dd K Z v d → DdA K Z (vs.set i v) (ds.set i d)
  | [], _, _, _, _, h, _ => by cases h; exact .nil
  | d :: ds, _, _, _, 0, h, k => by
    cases h with
    | cons h1 h2 => exact .cons k h2
  | d :: ds, _, _, _, i + 1, h, k => by
    cases h with
    | cons h1 h2 => exact .cons h1 (DdA.set i h2 k)
theorem DdA.take : ∀ {ds : List PyData} {vs : List V} (i : Nat), DdA K Z vs ds → DdA K Z (vs.take i) (ds.take i)
  | [], _, _, h => by cases h; simpa using DdA.nil
  | d :: ds, _, 0, h => by simpa using DdA.nil
  | d :: ds, _, i + 1, h => by
    cases h with
    | cons h1 h2 => exact .cons h1 (DdA.take i h2)
theorem DdA.drop : ∀ {ds : List PyData} {vs : List V} (i : Nat), DdA K Z vs ds → DdA K Z (vs.drop i) (ds.drop i)
  | [], _, _, h => by cases h; simpa using DdA.nil
  | d :: ds, _, 0, h => by simpa using h
  | d :: ds, _, i + 1, h => by
    cases h with
    | cons h1 h2 => exact DdA.drop i h2
theorem DdA.insertIdx {v : V} {d : PyData} (i : Nat) {ds : List PyData} {vs : List V} (hi : i ≤ ds.length) (h : DdA K Z vs ds) (k : Dd K Z v d) : DdA K Z (vs.take i ++ v :: vs.drop i) (ds.take i ++ d :: ds.drop i) :=
  (h.take i).append (.cons k (h.drop i))
theorem DdA.ints : ∀ {vs : List V} {is : List Int}, DdA K Z vs (is.map PyData.int) → vs = is.map V.int
  | _, [], h => by cases h; rfl
  | _, i :: is, h => by
    cases h with
    | cons h1 h2 => cases h1; rw [DdA.ints h2]; rfl
theorem Dd.int_inv {v : V} {i : Int} (h : Dd K Z v (.int i)) : v = .int i := by cases h; rfl
end

/-! ### the state of a body -/
inductive Ent where
  /-- nothing is told -/
  | no
  /-- frozen data -/
  | im (d : PyData)
  /-- a list of its own (none), or the k-th that was handed in to be changed -/
  | ls (w : Option Nat) (ds : List PyData)
  /-- a value as it is: a def, a class -/
  | vl (v : V)
abbrev Gm := List Ent
/-- the entry: the heap, its frozen part, the lists handed in to be changed -/
structure Ct where
  H0 : Hp
  Z0 : Hp
  W : List Addr
def OwnOk (C : Ct) : Option Nat → Addr → Prop
  | none, a => C.H0 a = none
  | some k, a => C.W[k]? = some a
def EntOk (K : PySem.W.Frag) (C : Ct) (H Z : Hp) (sv : Option (Option V)) : Ent → Prop
  | .no => True
  | .im d => ∃ v, sv = some (some v) ∧ Dd K Z v d
  | .ls w ds => ∃ a xs, sv = some (some (V.ref a)) ∧ H a = some (.lst xs) ∧ Z a = none ∧ DdA K Z xs ds ∧ OwnOk C w a
  | .vl v => sv = some (some v)
structure Ok (K : PySem.W.Frag) (C : Ct) (g : Gm) (σ : St) (H Z : Hp) : Prop where
  ln : g.length = σ.length
  fz : Same Z H
  fr : ∀ (a : Addr) (o : HO), C.H0 a = some o → a ∉ C.W → H a = some o
  z0 : Same C.Z0 Z
  nw : ∀ (a : Addr) (o : HO), Z a = some o → C.Z0 a = some o ∨ C.H0 a = none
  b0 : Same C.Z0 C.H0
  wz : ∀ a, a ∈ C.W → (C.H0 a).isSome = true ∧ C.Z0 a = none
  wh : ∀ a, a ∈ C.W → (H a).isSome = true
  ent : ∀ (i : Nat) (e : Ent), g[i]? = some e → EntOk K C H Z σ[i]? e
  inj : ∀ (i j : Nat) (w w' : Option Nat) (ds es : List PyData) (a : Addr), g[i]? = some (Ent.ls w ds) → g[j]? = some (Ent.ls w' es) → σ[i]? = some (some (V.ref a)) → σ[j]? = some (some (V.ref a)) → i = j

/-- a value that an expression gives: data; the list in slot j; a value as it is -/
inductive Av where
  | d (d : PyData)
  | o (j : Nat)
  | v (v : V)
def AvOk (K : PySem.W.Frag) (σ : St) (Z : Hp) : Av → V → Prop
  | .d d, v => Dd K Z v d
  | .o j, v => σ[j]? = some (some v)
  | .v w, v => v = w
inductive AvsOk (K : PySem.W.Frag) (σ : St) (Z : Hp) : List Av → List V → Prop
  | nil : AvsOk K σ Z [] []
  | cons {x : Av} {v : V} {xs : List Av} {vs : List V} : AvOk K σ Z x v → AvsOk K σ Z xs vs → AvsOk K σ Z (x :: xs) (v :: vs)
theorem AvOk.mono {K : PySem.W.Frag} {σ : St} {Z Z' : Hp} (e : Same Z Z') : ∀ {x : Av} {v : V}, AvOk K σ Z x v → AvOk K σ Z' x v
  | .d d, v, h => Dd.mono e d v h
  | .o _, _, h => h
  | .v _, _, h => h
theorem AvsOk.mono {K : PySem.W.Frag} {σ : St} {Z Z' : Hp} (e : Same Z Z') : ∀ {xs : List Av} {vs : List V}, AvsOk K σ Z xs vs → AvsOk K σ Z' xs vs
  | _, _, .nil => .nil
  | _, _, .cons h t => .cons (h.mono e) (t.mono e)

section
variable (K : PySem.W.Frag) (C : Ct)
def AE (te : TE) (g : Gm) (Q : Av → Gm → Prop) : Prop := ∀ σ H Z, Ok K C g σ H Z → ∀ Q' : VK, (∀ v H' Z' x g', Ok K C g' σ H' Z' → Same Z Z' → AvOk K σ Z' x v → Q x g' → Q' v H') → te σ H Q'
def AT (tt : TT) (g : Gm) (Q : Bool → Gm → Prop) : Prop := ∀ σ H Z, Ok K C g σ H Z → ∀ Q' : Bool → Hp → Prop, (∀ b H' Z' g', Ok K C g' σ H' Z' → Same Z Z' → Q b g' → Q' b H') → tt σ H Q'
def AA (ta : TA) (g : Gm) (Q : List Av → Gm → Prop) : Prop := ∀ σ H Z, Ok K C g σ H Z → ∀ Q' : List V → Hp → Prop, (∀ vs H' Z' xs g', Ok K C g' σ H' Z' → Same Z Z' → AvsOk K σ Z' xs vs → Q xs g' → Q' vs H') → ta σ H Q'
/-- the list at p is new: nobody holds it -/
structure New (g : Gm) (σ : St) (H Z : Hp) (p : Addr) (ds : List PyData) : Prop where
  at_ : ∃ xs, H p = some (.lst xs) ∧ DdA K Z xs ds
  nz : Z p = none
  n0 : C.H0 p = none
  no : ∀ (j : Nat) (w : Option Nat) (es : List PyData), g[j]? = some (Ent.ls w es) → σ[j]? ≠ some (some (V.ref p))
/-- an expression whose value is a new list -/
def AN (te : TE) (g : Gm) (Q : List PyData → Gm → Prop) : Prop := ∀ σ H Z, Ok K C g σ H Z → ∀ Q' : VK, (∀ p H' Z' ds g', Ok K C g' σ H' Z' → Same Z Z' → New K C g' σ H' Z' p ds → Q ds g' → Q' (.ref p) H') → te σ H Q'
structure Ae where
  nx : Gm → Prop
  rt : Av → Gm → Prop
  bk : Gm → Prop := fun _ => False
  ct : Gm → Prop := fun _ => False
  /-- a new list is handed back -/
  rn : List PyData → Gm → Prop := fun _ _ => False
/-- the ends D' do what D says, from the frozen part Z on -/
structure Does (Z0 : Hp) (D : Ae) (D' : Ends) : Prop where
  nx : ∀ g σ H Z, Ok K C g σ H Z → Same Z0 Z → D.nx g → D'.nx σ H
  rt : ∀ x v g σ H Z, Ok K C g σ H Z → Same Z0 Z → AvOk K σ Z x v → D.rt x g → D'.rt v H
  bk : ∀ g σ H Z, Ok K C g σ H Z → Same Z0 Z → D.bk g → D'.bk σ H
  ct : ∀ g σ H Z, Ok K C g σ H Z → Same Z0 Z → D.ct g → D'.ct σ H
  rn : ∀ ds p g σ H Z, Ok K C g σ H Z → Same Z0 Z → New K C g σ H Z p ds → D.rn ds g → D'.rt (.ref p) H
def AS (ts : TS) (g : Gm) (D : Ae) : Prop := ∀ σ H Z, Ok K C g σ H Z → ∀ D' : Ends, Does K C Z D D' → ts D' σ H
/-- a target of a store -/
def AG (tg : TG) (x : Av) (g : Gm) (Q : Gm → Prop) : Prop := ∀ σ H Z v, Ok K C g σ H Z → AvOk K σ Z x v → ∀ Q' : St → Hp → Prop, (∀ g' σ' H' Z', Ok K C g' σ' H' Z' → Same Z Z' → Q g' → Q' σ' H') → tg v σ H Q'
end

/-! ### stores of slots, new objects -/
section
variable {K : PySem.W.Frag} {C : Ct} {g : Gm} {σ : St} {H Z : Hp}
theorem Ok.new (I : Ok K C g σ H Z) {a : Addr} (h : H a = none) : Z a = none ∧ C.H0 a = none ∧ ∀ (j : Nat) (w : Option Nat) (es : List PyData), g[j]? = some (Ent.ls w es) → σ[j]? ≠ some (some (V.ref a)) := by
  have hz : Z a = none := I.fz.free h
  refine ⟨hz, ?_, fun j w es e z => ?_⟩
  · cases q : C.H0 a with
    | none => rfl
    | some o =>
      by_cases hw : a ∈ C.W
      · have z := I.wh a hw
        rw [h] at z; cases z
      · rw [I.fr a o q hw] at h; cases h
  · obtain ⟨b, xs, e1, e2, _⟩ := I.ent j _ e
    rw [z] at e1
    cases e1
    rw [e2] at h; cases h
end
end AL
/-! The layer's rules over readings. -/
namespace AL
open PySem PySem.Spec L2

/-! ### stores of entries -/
inductive SetE : Gm → Nat → Ent → Gm → Prop
  | z {a e : Ent} {g : Gm} : SetE (a :: g) 0 e (e :: g)
  | s {a e : Ent} {g g' : Gm} {i : Nat} : SetE g i e g' → SetE (a :: g) (i + 1) e (a :: g')
theorem SetE.eq : ∀ {g g' : Gm} {i : Nat} {e : Ent}, SetE g i e g' → g' = g.set i e ∧ i < g.length
  | _, _, _, _, .z => ⟨rfl, by simp⟩
  | _, _, _, _, .s h => by
    obtain ⟨h1, h2⟩ := h.eq
    exact ⟨by rw [h1]; rfl, by simpa using h2⟩
theorem SetE.len {g g' : Gm} {i : Nat} {e : Ent} (h : SetE g i e g') : g'.length = g.length ∧ i < g.length := by
  obtain ⟨h1, h2⟩ := h.eq
  exact ⟨by rw [h1, List.length_set], h2⟩
theorem SetE.same {g g' : Gm} {i : Nat} {e : Ent} (h : SetE g i e g') : g'[i]? = some e := by
  obtain ⟨h1, h2⟩ := h.eq
  rw [h1, List.getElem?_set_self h2]
theorem SetE.ne {g g' : Gm} {i j : Nat} {e : Ent} (h : SetE g i e g') (n : j ≠ i) : g'[j]? = g[j]? := by
  obtain ⟨h1, h2⟩ := h.eq
  rw [h1, List.getElem?_set_ne (Ne.symm n)]
/-- entries forgotten -/
inductive WkE : Gm → Gm → Prop
  | nil : WkE [] []
  | same {e : Ent} {g g' : Gm} : WkE g g' → WkE (e :: g) (e :: g')
  | drop {e : Ent} {g g' : Gm} : WkE g g' → WkE (e :: g) (.no :: g')
theorem WkE.refl : ∀ g : Gm, WkE g g
  | [] => .nil
  | _ :: g => .same (WkE.refl g)
theorem WkE.len : ∀ {g g' : Gm}, WkE g g' → g'.length = g.length
  | _, _, .nil => rfl
  | _, _, .same w => by simp [WkE.len w]
  | _, _, .drop w => by simp [WkE.len w]
theorem WkE.get : ∀ {g g' : Gm} {i : Nat} {e : Ent}, WkE g g' → g'[i]? = some e → e = .no ∨ g[i]? = some e
  | _, _, _, _, .nil, h => by simp at h
  | _, _, 0, _, .same _, h => by simp at h; subst h; exact .inr rfl
  | _, _, 0, _, .drop _, h => by simp at h; exact .inl h.symm
  | _, _, i + 1, _, .same w, h => by simpa using WkE.get (i := i) w (by simpa using h)
  | _, _, i + 1, _, .drop w, h => by simpa using WkE.get (i := i) w (by simpa using h)
inductive WipeE : Gm → List Nat → Gm → Prop
  | nil {g : Gm} : WipeE g [] g
  | cons {g g1 g2 : Gm} {i : Nat} {l : List Nat} : WipeE g l g1 → SetE g1 i .no g2 → WipeE g (i :: l) g2

section
variable {K : PySem.W.Frag} {C : Ct} {g g' : Gm} {σ : St} {H H' Z Z' : Hp}
theorem Ok.weak (I : Ok K C g σ H Z) (w : WkE g g') : Ok K C g' σ H Z := by
  refine ⟨w.len.trans I.ln, I.fz, I.fr, I.z0, I.nw, I.b0, I.wz, I.wh, fun i e h => ?_, fun i j v v' ds es a h1 h2 => ?_⟩
  · rcases w.get h with z | z
    · subst z; trivial
    · exact I.ent i e z
  · rcases w.get h1 with z | z
    · cases z
    · rcases w.get h2 with z' | z'
      · cases z'
      · exact I.inj i j v v' ds es a z z'
/-- the heap's frozen part grows by new objects, the rest stands -/
theorem Ok.grow (I : Ok K C g σ H Z) (hH : Same H H') (hZ : Same Z Z') (hZH : Same Z' H') (hn : ∀ (a : Addr) (o : HO), Z' a = some o → Z a = some o ∨ H a = none) : Ok K C g σ H' Z' := by
  refine ⟨I.ln, hZH, fun a o h hw => hH a o (I.fr a o h hw), fun a o h => hZ a o (I.z0 a o h), fun a o h => ?_, I.b0, I.wz, fun a h => ?_, fun i e h => ?_, I.inj⟩
  · rcases hn a o h with z | z
    · exact I.nw a o z
    · exact .inr (I.new z).2.1
  · cases q : H a with
    | none => have := I.wh a h; rw [q] at this; cases this
    | some o => rw [hH a o q]; rfl
  · have q := I.ent i e h
    cases e with
    | no => trivial
    | im d => obtain ⟨v, e1, e2⟩ := q; exact ⟨v, e1, e2.mono hZ⟩
    | ls w ds =>
      obtain ⟨a, xs, e1, e2, e3, e4, e5⟩ := q
      refine ⟨a, xs, e1, hH a _ e2, ?_, e4.mono hZ, e5⟩
      cases q : Z' a with
      | none => rfl
      | some o =>
        rcases hn a o q with z | z
        · rw [e3] at z; cases z
        · rw [e2] at z; cases z
    | vl v => exact q
/-- a new frozen object -/
theorem Ok.newF (I : Ok K C g σ H Z) {p : Addr} {o : HO} (h : H p = none) : Ok K C g σ (upd H p o) (upd Z p o) ∧ Same Z (upd Z p o) ∧ Same H (upd H p o) := by
  have hz := (I.new h).1
  have s1 : Same Z (upd Z p o) := fun a u q => by rw [upd_ne (ne_of_none q hz)]; exact q
  have s2 : Same H (upd H p o) := fun a u q => by rw [upd_ne (ne_of_none q h)]; exact q
  refine ⟨I.grow s2 s1 (fun a u q => ?_) (fun a u q => ?_), s1, s2⟩
  · by_cases e : a = p
    · subst e; rw [upd_same] at q ⊢; exact q
    · rw [upd_ne e] at q ⊢; exact I.fz a u q
  · by_cases e : a = p
    · subst e; exact .inr h
    · rw [upd_ne e] at q; exact .inl q
/-- a new object that is not frozen -/
theorem Ok.newO (I : Ok K C g σ H Z) {p : Addr} {o : HO} (h : H p = none) : Ok K C g σ (upd H p o) Z :=
  I.grow (fun a u q => by rw [upd_ne (ne_of_none q h)]; exact q) (Same.refl _) (fun a u q => by rw [upd_ne (ne_of_none (I.fz a u q) h)]; exact I.fz a u q) fun _ _ q => .inl q
/-- a slot is stored: data, a value -/
theorem Ok.setD (I : Ok K C g σ H Z) {i : Nat} {v : V} {d : PyData} (hv : Dd K Z v d) (s : SetE g i (.im d) g') : Ok K C g' (σ.set i (some v)) H Z := by
  have hl : i < σ.length := by rw [← I.ln]; exact s.len.2
  refine ⟨by rw [List.length_set, s.len.1, I.ln], I.fz, I.fr, I.z0, I.nw, I.b0, I.wz, I.wh, fun j e h => ?_, fun j k w w' ds es a h1 h2 h3 h4 => ?_⟩
  · by_cases q : j = i
    · subst q
      rw [s.same] at h; cases h
      exact ⟨v, List.getElem?_set_self hl, hv⟩
    · rw [s.ne q] at h
      rw [List.getElem?_set_ne (Ne.symm q)]
      exact I.ent j e h
  · have q1 : j ≠ i := fun z => by subst z; rw [s.same] at h1; cases h1
    have q2 : k ≠ i := fun z => by subst z; rw [s.same] at h2; cases h2
    rw [s.ne q1] at h1; rw [s.ne q2] at h2
    rw [List.getElem?_set_ne (Ne.symm q1)] at h3
    rw [List.getElem?_set_ne (Ne.symm q2)] at h4
    exact I.inj j k w w' ds es a h1 h2 h3 h4
theorem Ok.setV (I : Ok K C g σ H Z) {i : Nat} {v : V} (s : SetE g i (.vl v) g') : Ok K C g' (σ.set i (some v)) H Z := by
  have hl : i < σ.length := by rw [← I.ln]; exact s.len.2
  refine ⟨by rw [List.length_set, s.len.1, I.ln], I.fz, I.fr, I.z0, I.nw, I.b0, I.wz, I.wh, fun j e h => ?_, fun j k w w' ds es a h1 h2 h3 h4 => ?_⟩
  · by_cases q : j = i
    · subst q
      rw [s.same] at h; cases h
      exact List.getElem?_set_self hl
    · rw [s.ne q] at h
      rw [List.getElem?_set_ne (Ne.symm q)]
      exact I.ent j e h
  · have q1 : j ≠ i := fun z => by subst z; rw [s.same] at h1; cases h1
    have q2 : k ≠ i := fun z => by subst z; rw [s.same] at h2; cases h2
    rw [s.ne q1] at h1; rw [s.ne q2] at h2
    rw [List.getElem?_set_ne (Ne.symm q1)] at h3
    rw [List.getElem?_set_ne (Ne.symm q2)] at h4
    exact I.inj j k w w' ds es a h1 h2 h3 h4
/-- a slot takes a new list -/
theorem Ok.setL (I : Ok K C g σ H Z) {i : Nat} {p : Addr} {ds : List PyData} (n : New K C g σ H Z p ds) (s : SetE g i (.ls none ds) g') : Ok K C g' (σ.set i (some (.ref p))) H Z := by
  have hl : i < σ.length := by rw [← I.ln]; exact s.len.2
  refine ⟨by rw [List.length_set, s.len.1, I.ln], I.fz, I.fr, I.z0, I.nw, I.b0, I.wz, I.wh, fun j e h => ?_, fun j k w w' ds' es a h1 h2 h3 h4 => ?_⟩
  · by_cases q : j = i
    · subst q
      rw [s.same] at h; cases h
      obtain ⟨xs, n1, n2⟩ := n.at_
      exact ⟨p, xs, List.getElem?_set_self hl, n1, n.nz, n2, n.n0⟩
    · rw [s.ne q] at h
      rw [List.getElem?_set_ne (Ne.symm q)]
      exact I.ent j e h
  · by_cases q1 : j = i
    · by_cases q2 : k = i
      · rw [q1, q2]
      · subst q1
        rw [List.getElem?_set_self hl] at h3
        cases h3
        rw [s.ne q2] at h2
        rw [List.getElem?_set_ne (Ne.symm q2)] at h4
        exact absurd h4 (n.no k w' es h2)
    · rw [s.ne q1] at h1
      rw [List.getElem?_set_ne (Ne.symm q1)] at h3
      by_cases q2 : k = i
      · subst q2
        rw [List.getElem?_set_self hl] at h4
        cases h4
        exact absurd h3 (n.no j w ds' h1)
      · rw [s.ne q2] at h2
        rw [List.getElem?_set_ne (Ne.symm q2)] at h4
        exact I.inj j k w w' ds' es a h1 h2 h3 h4
theorem Ok.own (I : Ok K C g σ H Z) {j : Nat} {w : Option Nat} {ds : List PyData} {v : V} (h : g[j]? = some (.ls w ds)) (hv : σ[j]? = some (some v)) :
    ∃ a xs, v = .ref a ∧ H a = some (.lst xs) ∧ Z a = none ∧ DdA K Z xs ds ∧ OwnOk C w a := by
  obtain ⟨a, xs, e1, e2, e3, e4, e5⟩ := I.ent j _ h
  rw [hv] at e1; cases e1
  exact ⟨a, xs, rfl, e2, e3, e4, e5⟩
/-- an own list is changed -/
theorem Ok.put (I : Ok K C g σ H Z) {j : Nat} {w : Option Nat} {ds es : List PyData} {a : Addr} {ys : List V} (h : g[j]? = some (.ls w ds)) (hv : σ[j]? = some (some (V.ref a))) (hy : DdA K Z ys es) (s : SetE g j (.ls w es) g') :
    Ok K C g' σ (upd H a (.lst ys)) Z := by
  obtain ⟨b, xs, e0, e2, e3, e4, e5⟩ := I.own h hv
  cases e0
  refine ⟨s.len.1.trans I.ln, fun b o q => ?_, fun b o q hw => ?_, I.z0, I.nw, I.b0, I.wz, fun b hb => ?_, fun k e hk => ?_, fun i k v v' ds' es' b h1 h2 h3 h4 => ?_⟩
  · rw [upd_ne (ne_of_none q e3)]; exact I.fz b o q
  · have ne : b ≠ a := fun z => by
      subst z
      cases w with
      | none =>
        have z : C.H0 b = none := e5
        rw [z] at q; cases q
      | some k => exact hw (List.mem_of_getElem? (show C.W[k]? = some b from e5))
    rw [upd_ne ne]; exact I.fr b o q hw
  · by_cases z : b = a
    · subst z; rw [upd_same]; rfl
    · rw [upd_ne z]; exact I.wh b hb
  · by_cases q : k = j
    · subst q
      rw [s.same] at hk; cases hk
      exact ⟨a, ys, hv, upd_same, e3, hy, e5⟩
    · rw [s.ne q] at hk
      have r := I.ent k e hk
      cases e with
      | no => trivial
      | im d => exact r
      | ls w2 ds2 =>
        obtain ⟨b, zs, f1, f2, f3, f4, f5⟩ := r
        have ne : b ≠ a := fun z => by subst z; exact q (I.inj k j w2 w ds2 ds _ hk h f1 hv)
        exact ⟨b, zs, f1, by rw [upd_ne ne]; exact f2, f3, f4, f5⟩
      | vl v => exact r
  · have l : ∀ {i : Nat} {v : Option Nat} {ds' : List PyData}, g'[i]? = some (.ls v ds') → ∃ v'' ds'', g[i]? = some (Ent.ls v'' ds'') := fun {i v ds'} h1 => by
      by_cases q : i = j
      · subst q; exact ⟨w, ds, h⟩
      · rw [s.ne q] at h1; exact ⟨v, ds', h1⟩
    obtain ⟨v1, d1, k1⟩ := l h1
    obtain ⟨v2, d2, k2⟩ := l h2
    exact I.inj i k v1 v2 d1 d2 b k1 k2 h3 h4
/-- an own list is frozen -/
theorem Ok.frz (I : Ok K C g σ H Z) {j : Nat} {ds : List PyData} {v : V} (h : g[j]? = some (.ls none ds)) (hv : σ[j]? = some (some v)) (s : SetE g j (.im (.list ds)) g') :
    ∃ Z', Ok K C g' σ H Z' ∧ Same Z Z' ∧ Dd K Z' v (.list ds) := by
  obtain ⟨a, xs, e0, e2, e3, e4, e5⟩ := I.own h hv
  subst e0
  have s1 : Same Z (upd Z a (.lst xs)) := fun b u q => by rw [upd_ne (ne_of_none q e3)]; exact q
  have hd : Dd K (upd Z a (.lst xs)) (.ref a) (.list ds) := .lst upd_same (e4.mono s1)
  refine ⟨upd Z a (.lst xs), ⟨s.len.1.trans I.ln, fun b o q => ?_, I.fr, fun b o q => s1 b o (I.z0 b o q), fun b o q => ?_, I.b0, I.wz, I.wh, fun k e hk => ?_, fun i k w w' ds' es' b h1 h2 h3 h4 => ?_⟩, s1, hd⟩
  · by_cases z : b = a
    · subst z; rw [upd_same] at q; cases q; exact e2
    · rw [upd_ne z] at q; exact I.fz b o q
  · by_cases z : b = a
    · subst z; exact .inr e5
    · rw [upd_ne z] at q; exact I.nw b o q
  · by_cases q : k = j
    · subst q
      rw [s.same] at hk; cases hk
      exact ⟨_, hv, hd⟩
    · rw [s.ne q] at hk
      have r := I.ent k e hk
      cases e with
      | no => trivial
      | im d => obtain ⟨v, r1, r2⟩ := r; exact ⟨v, r1, r2.mono s1⟩
      | ls w2 ds2 =>
        obtain ⟨b, zs, f1, f2, f3, f4, f5⟩ := r
        have ne : b ≠ a := fun z => by subst z; exact q (I.inj k j w2 none ds2 ds _ hk h f1 hv)
        exact ⟨b, zs, f1, f2, by rw [upd_ne ne]; exact f3, f4.mono s1, f5⟩
      | vl v => exact r
  · have q1 : i ≠ j := fun z => by subst z; rw [s.same] at h1; cases h1
    have q2 : k ≠ j := fun z => by subst z; rw [s.same] at h2; cases h2
    rw [s.ne q1] at h1; rw [s.ne q2] at h2
    exact I.inj i k w w' ds' es' b h1 h2 h3 h4
/-- a new list is frozen -/
theorem Ok.frzN (I : Ok K C g σ H Z) {p : Addr} {ds : List PyData} (n : New K C g σ H Z p ds) : ∃ Z', Ok K C g σ H Z' ∧ Same Z Z' ∧ Dd K Z' (.ref p) (.list ds) := by
  obtain ⟨xs, n1, n2⟩ := n.at_
  have s1 : Same Z (upd Z p (.lst xs)) := fun b u q => by rw [upd_ne (ne_of_none q n.nz)]; exact q
  refine ⟨upd Z p (.lst xs), ⟨I.ln, fun b o q => ?_, I.fr, fun b o q => s1 b o (I.z0 b o q), fun b o q => ?_, I.b0, I.wz, I.wh, fun k e hk => ?_, I.inj⟩, s1, .lst upd_same (n2.mono s1)⟩
  · by_cases z : b = p
    · subst z; rw [upd_same] at q; cases q; exact n1
    · rw [upd_ne z] at q; exact I.fz b o q
  · by_cases z : b = p
    · subst z; exact .inr n.n0
    · rw [upd_ne z] at q; exact I.nw b o q
  · have r := I.ent k e hk
    cases e with
    | no => trivial
    | im d => obtain ⟨v, r1, r2⟩ := r; exact ⟨v, r1, r2.mono s1⟩
    | ls w2 ds2 =>
      obtain ⟨b, zs, f1, f2, f3, f4, f5⟩ := r
      have ne : b ≠ p := fun z => by subst z; exact n.no k w2 ds2 hk f1
      exact ⟨b, zs, f1, f2, by rw [upd_ne ne]; exact f3, f4.mono s1, f5⟩
    | vl v => exact r
end
end AL
/-! The layer's rules over readings: expressions, tests, statements. -/
namespace AL
open PySem PySem.Spec L2

def BR (b : Bool) (A B : Prop) : Prop := (b = true → A) ∧ (b = false → B)
theorem br_t {A B : Prop} (h : A) : BR true A B := ⟨fun _ => h, fun z => Bool.noConfusion z⟩
theorem br_f {A B : Prop} (h : B) : BR false A B := ⟨fun z => Bool.noConfusion z, fun _ => h⟩
theorem br_d {p A B : Prop} [Decidable p] (h : p → A) (k : ¬ p → B) : BR (decide p) A B := ⟨fun z => h (of_decide_eq_true z), fun z => k (of_decide_eq_false z)⟩
theorem br_n {b : Bool} {A B : Prop} (h : BR b B A) : BR (!b) A B := by
  cases b with
  | true => exact br_f (h.1 rfl)
  | false => exact br_t (h.2 rfl)
theorem br_b {b : Bool} {A B : Prop} (h : b = true → A) (k : b = false → B) : BR b A B := ⟨h, k⟩
theorem br_dt {p A B : Prop} [Decidable p] (hp : p) (h : A) : BR (decide p) A B := br_d (fun _ => h) fun z => absurd hp z
theorem br_df {p A B : Prop} [Decidable p] (hp : ¬ p) (h : B) : BR (decide p) A B := br_d (fun z => absurd z hp) fun _ => h

/-- the data of a list of values; owned lists among them are frozen -/
inductive Frz : List Av → Gm → List PyData → Gm → Prop
  | nil {g : Gm} : Frz [] g [] g
  | d {d : PyData} {xs : List Av} {g g' : Gm} {ds : List PyData} : Frz xs g ds g' → Frz (.d d :: xs) g (d :: ds) g'
  | o {j : Nat} {xs : List Av} {g g1 g' : Gm} {es ds : List PyData} : g[j]? = some (.ls none es) → SetE g j (.im (.list es)) g1 → Frz xs g1 ds g' → Frz (.o j :: xs) g (.list es :: ds) g'
section
variable {K : PySem.W.Frag} {C : Ct} {g g' : Gm} {σ : St} {H H' Z Z' : Hp}
theorem Frz.run : ∀ {xs : List Av} {g g' : Gm} {ds : List PyData} {vs : List V} {Z : Hp}, Frz xs g ds g' → Ok K C g σ H Z → AvsOk K σ Z xs vs → ∃ Z', Ok K C g' σ H Z' ∧ Same Z Z' ∧ DdA K Z' vs ds
  | _, _, _, _, _, Z, .nil, I, .nil => ⟨Z, I, Same.refl _, .nil⟩
  | _, _, _, _, _, Z, .d f, I, .cons h t => by
    obtain ⟨Z', I', s, r⟩ := f.run I t
    exact ⟨Z', I', s, .cons (Dd.mono s _ _ h) r⟩
  | _, _, _, _, _, Z, .o h1 h2 f, I, .cons h t => by
    obtain ⟨Z1, I1, s1, r1⟩ := I.frz h1 h h2
    obtain ⟨Z', I', s, r⟩ := f.run I1 (t.mono s1)
    exact ⟨Z', I', s1.trans s, .cons (Dd.mono s _ _ r1) r⟩

/-! ### expressions -/
variable {Q : Av → Gm → Prop} {te ta tb : TE} {tt tu : TT}
theorem AE.mono {Q' : Av → Gm → Prop} (h : AE K C te g Q) (k : ∀ x g', Q x g' → Q' x g') : AE K C te g Q' := fun σ H Z I P p => h σ H Z I P fun v H' Z' x g' I' s a q => p v H' Z' x g' I' s a (k x g' q)
theorem ae_im {i : Nat} {d : PyData} (h : g[i]? = some (.im d)) (q : Q (.d d) g) : AE K C (tVar i) g Q := fun σ H Z I P p => by
  obtain ⟨v, e1, e2⟩ := I.ent i _ h
  exact ⟨v, e1, p v H Z (.d d) g I (Same.refl _) e2 q⟩
theorem ae_ls {i : Nat} {w : Option Nat} {ds : List PyData} (h : g[i]? = some (.ls w ds)) (q : Q (.o i) g) : AE K C (tVar i) g Q := fun σ H Z I P p => by
  obtain ⟨a, xs, e1, _⟩ := I.ent i _ h
  exact ⟨_, e1, p _ H Z (.o i) g I (Same.refl _) e1 q⟩
theorem ae_vl {i : Nat} {v : V} (h : g[i]? = some (.vl v)) (q : Q (.v v) g) : AE K C (tVar i) g Q := fun σ H Z I P p => by
  have e : σ[i]? = some (some v) := I.ent i _ h
  exact ⟨v, e, p v H Z (.v v) g I (Same.refl _) rfl q⟩
theorem ae_cv {v : V} (q : Q (.v v) g) : AE K C (tC v) g Q := fun σ H Z I P p => p v H Z (.v v) g I (Same.refl _) rfl q
theorem ae_cd {v : V} {d : PyData} (hd : ∀ Z, Dd K Z v d) (q : Q (.d d) g) : AE K C (tC v) g Q := fun σ H Z I P p => p v H Z (.d d) g I (Same.refl _) (hd Z) q
/-- what an operation on two values gives -/
def RA (K : PySem.W.Frag) (C : Ct) (r : R2) (x y : Av) (g : Gm) (Q : Av → Gm → Prop) : Prop := ∀ σ H Z v w, Ok K C g σ H Z → AvOk K σ Z x v → AvOk K σ Z y w → ∀ P : VK, (∀ u H' Z' z g', Ok K C g' σ H' Z' → Same Z Z' → AvOk K σ Z' z u → Q z g' → P u H') → r v w H P
theorem ae_op {r : R2} (h : AE K C ta g fun x g1 => AE K C tb g1 fun y g2 => RA K C r x y g2 Q) : AE K C (tOp r ta tb) g Q := fun σ H Z I P p =>
  h σ H Z I _ fun v H1 Z1 x g1 I1 s1 a1 q1 => q1 σ H1 Z1 I1 _ fun w H2 Z2 y g2 I2 s2 a2 q2 => q2 σ H2 Z2 v w I2 (a1.mono s2) a2 P fun u H3 Z3 z g3 I3 s3 a3 q3 => p u H3 Z3 z g3 I3 ((s1.trans s2).trans s3) a3 q3
theorem ra_or1 {r r' : R2} {x y : Av} (h : RA K C r x y g Q) : RA K C (fun v w H P => r v w H P ∨ r' v w H P) x y g Q := fun σ H Z v w I a b P p => .inl (h σ H Z v w I a b P p)
theorem ra_or2 {r r' : R2} {x y : Av} (h : RA K C r' x y g Q) : RA K C (fun v w H P => r v w H P ∨ r' v w H P) x y g Q := fun σ H Z v w I a b P p => .inr (h σ H Z v w I a b P p)
theorem ra_I0 {f : Int → Int → V} {i j : Int} {d : PyData} (hd : ∀ Z, Dd K Z (f i j) d) (q : Q (.d d) g) : RA K C (rI0 f) (.d (.int i)) (.d (.int j)) g Q := fun σ H Z v w I a b P p => by
  cases a; cases b
  exact ⟨i, j, rfl, rfl, p _ H Z (.d d) g I (Same.refl _) (hd Z) q⟩
theorem ra_I {R : Int → Int → Prop} {f : Int → Int → V} {i j : Int} {d : PyData} (hc : R i j) (hd : ∀ Z, Dd K Z (f i j) d) (q : Q (.d d) g) : RA K C (rI R f) (.d (.int i)) (.d (.int j)) g Q := fun σ H Z v w I a b P p => by
  cases a; cases b
  exact ⟨i, j, rfl, rfl, hc, p _ H Z (.d d) g I (Same.refl _) (hd Z) q⟩
/-- an unary operation -/
theorem ae_un {f : Int → V} {d : Int → PyData} (hd : ∀ Z i, Dd K Z (f i) (d i)) (h : AE K C ta g fun x g1 => ∃ i, x = .d (.int i) ∧ Q (.d (d i)) g1) : AE K C (tUn (rU f) ta) g Q := fun σ H Z I P p =>
  h σ H Z I _ fun v H1 Z1 x g1 I1 s1 a1 q1 => by
    obtain ⟨i, rfl, q⟩ := q1
    cases a1
    exact ⟨i, rfl, p _ H1 Z1 (.d (d i)) g1 I1 s1 (hd Z1 i) q⟩
theorem aa_nil {QA : List Av → Gm → Prop} (q : QA [] g) : AA K C tNil g QA := fun σ H Z I P p => p [] H Z [] g I (Same.refl _) .nil q
theorem aa_cons {QA : List Av → Gm → Prop} {tr : TA} (h : AE K C ta g fun x g1 => AA K C tr g1 fun xs g2 => QA (x :: xs) g2) : AA K C (tCons ta tr) g QA := fun σ H Z I P p =>
  h σ H Z I _ fun v H1 Z1 x g1 I1 s1 a1 q1 => q1 σ H1 Z1 I1 _ fun vs H2 Z2 xs g2 I2 s2 a2 q2 => p (v :: vs) H2 Z2 (x :: xs) g2 I2 (s1.trans s2) (.cons (a1.mono s2) a2) q2
theorem ae_tup {tr : TA} (h : AA K C tr g fun xs g1 => ∃ ds g2, Frz xs g1 ds g2 ∧ ds.length ≤ 1000000 ∧ Q (.d (.tuple ds)) g2) : AE K C (tTup tr) g Q := fun σ H Z I P p =>
  h σ H Z I _ fun vs H1 Z1 xs g1 I1 s1 a1 q1 => by
    obtain ⟨ds, g2, f, hl, q⟩ := q1
    obtain ⟨Z2, I2, s2, r2⟩ := f.run I1 a1
    refine ⟨by rw [r2.length]; exact Nat.le_trans hl (by decide), fun t ht => ?_⟩
    obtain ⟨I3, s3, _⟩ := I2.newF (o := .tup vs) ht
    exact p _ _ _ (.d (.tuple ds)) g2 I3 ((s1.trans s2).trans s3) (.tup (SqT.of upd_same) (r2.mono s3)) q
theorem an_lst {QL : List PyData → Gm → Prop} {tr : TA} (h : AA K C tr g fun xs g1 => ∃ ds g2, Frz xs g1 ds g2 ∧ ds.length ≤ 1000000 ∧ QL ds g2) : AN K C (tLst tr) g QL := fun σ H Z I P p =>
  h σ H Z I _ fun vs H1 Z1 xs g1 I1 s1 a1 q1 => by
    obtain ⟨ds, g2, f, hl, q⟩ := q1
    obtain ⟨Z2, I2, s2, r2⟩ := f.run I1 a1
    refine ⟨by rw [r2.length]; exact Nat.le_trans hl (by decide), fun t ht => ?_⟩
    obtain ⟨n1, n2, n3⟩ := I2.new ht
    exact p t _ Z2 ds g2 (I2.newO ht) (s1.trans s2) ⟨⟨vs, upd_same, r2⟩, n1, n2, n3⟩ q
/-- a new list as data -/
theorem ae_an (h : AN K C te g fun ds g1 => Q (.d (.list ds)) g1) : AE K C te g Q := fun σ H Z I P p =>
  h σ H Z I P fun t H1 Z1 ds g1 I1 s1 n q => by
    obtain ⟨Z2, I2, s2, r⟩ := I1.frzN n
    exact p _ H1 Z2 (.d (.list ds)) g1 I2 (s1.trans s2) r q
theorem ae_if (h : AT K C tt g fun b g1 => BR b (AE K C ta g1 Q) (AE K C tb g1 Q)) : AE K C (tIf tt ta tb) g Q := fun σ H Z I P p =>
  h σ H Z I _ fun b H1 Z1 g1 I1 s1 q1 => by
    cases b with
    | true => exact q1.1 rfl σ H1 Z1 I1 P fun v H2 Z2 x g2 I2 s2 => p v H2 Z2 x g2 I2 (s1.trans s2)
    | false => exact q1.2 rfl σ H1 Z1 I1 P fun v H2 Z2 x g2 I2 s2 => p v H2 Z2 x g2 I2 (s1.trans s2)
theorem ae_andV (h : AE K C ta g fun x g1 => ∃ b, x = .d (.bool b) ∧ BR b (AE K C tb g1 Q) (Q (.d (.bool false)) g1)) : AE K C (tAndV ta tb) g Q := fun σ H Z I P p =>
  h σ H Z I _ fun v H1 Z1 x g1 I1 s1 a1 q1 => by
    obtain ⟨b, rfl, q⟩ := q1
    cases a1
    refine ⟨b, rfl, ?_⟩
    cases b with
    | true => exact q.1 rfl σ H1 Z1 I1 P fun v H2 Z2 x g2 I2 s2 => p v H2 Z2 x g2 I2 (s1.trans s2)
    | false => exact p _ H1 Z1 (.d (.bool false)) g1 I1 s1 (Dd.bl false) (q.2 rfl)
theorem ae_orV (h : AE K C ta g fun x g1 => ∃ b, x = .d (.bool b) ∧ BR b (Q (.d (.bool true)) g1) (AE K C tb g1 Q)) : AE K C (tOrV ta tb) g Q := fun σ H Z I P p =>
  h σ H Z I _ fun v H1 Z1 x g1 I1 s1 a1 q1 => by
    obtain ⟨b, rfl, q⟩ := q1
    cases a1
    refine ⟨b, rfl, ?_⟩
    cases b with
    | true => exact p _ H1 Z1 (.d (.bool true)) g1 I1 s1 (Dd.bl true) (q.1 rfl)
    | false => exact q.2 rfl σ H1 Z1 I1 P fun v H2 Z2 x g2 I2 s2 => p v H2 Z2 x g2 I2 (s1.trans s2)
theorem ae_notV (h : AE K C ta g fun x g1 => ∃ b, x = .d (.bool b) ∧ Q (.d (.bool (!b))) g1) : AE K C (tNotV ta) g Q := fun σ H Z I P p =>
  h σ H Z I _ fun v H1 Z1 x g1 I1 s1 a1 q1 => by
    obtain ⟨b, rfl, q⟩ := q1
    cases a1
    exact ⟨b, rfl, p _ H1 Z1 (.d (.bool (!b))) g1 I1 s1 (Dd.bl _) q⟩
theorem ae_isN (h : AE K C ta g fun x g1 => ∃ d, x = .d d ∧ Q (.d (.bool (match d with | .none => true | _ => false))) g1) : AE K C (tIsN ta) g Q := fun σ H Z I P p =>
  h σ H Z I _ fun v H1 Z1 x g1 I1 s1 a1 q1 => by
    obtain ⟨d, rfl, q⟩ := q1
    have a2 : Dd K Z1 v d := a1
    refine p _ H1 Z1 (.d _) g1 I1 s1 ?_ q
    cases a2 <;> exact Dd.bl _
theorem ae_notN (h : AE K C ta g fun x g1 => ∃ d, x = .d d ∧ Q (.d (.bool (match d with | .none => false | _ => true))) g1) : AE K C (tNotN ta) g Q := fun σ H Z I P p =>
  h σ H Z I _ fun v H1 Z1 x g1 I1 s1 a1 q1 => by
    obtain ⟨d, rfl, q⟩ := q1
    have a2 : Dd K Z1 v d := a1
    refine p _ H1 Z1 (.d _) g1 I1 s1 ?_ q
    cases a2 <;> exact Dd.bl _
/-- a < b < c -/
theorem ae_chain {tc : TE} {r r' : R2} (h : AE K C ta g fun x g1 => AE K C tb g1 fun y g2 => RA K C r x y g2 fun z g3 => ∃ b, z = .d (.bool b) ∧ BR b (AE K C tc g3 fun w g4 => RA K C r' y w g4 Q) (Q (.d (.bool false)) g3)) : AE K C (tChain r r' ta tb tc) g Q := fun σ H Z I P p =>
  h σ H Z I _ fun v H1 Z1 x g1 I1 s1 a1 q1 => q1 σ H1 Z1 I1 _ fun w H2 Z2 y g2 I2 s2 a2 q2 => q2 σ H2 Z2 v w I2 (a1.mono s2) a2 _ fun u H3 Z3 z g3 I3 s3 a3 q3 => by
    obtain ⟨b, rfl, q⟩ := q3
    cases a3
    refine ⟨b, rfl, ?_⟩
    cases b with
    | true => exact q.1 rfl σ H3 Z3 I3 _ fun w' H4 Z4 w4 g4 I4 s4 a4 q4 => q4 σ H4 Z4 w w' I4 ((a2.mono s3).mono s4) a4 P fun u H5 Z5 z g5 I5 s5 => p u H5 Z5 z g5 I5 ((((s1.trans s2).trans s3).trans s4).trans s5)
    | false => exact p _ H3 Z3 (.d (.bool false)) g3 I3 ((s1.trans s2).trans s3) (Dd.bl false) (q.2 rfl)

/-! ### tests -/
variable {QT : Bool → Gm → Prop}
theorem at_test (h : AE K C te g fun x g1 => ∃ b, x = .d (.bool b) ∧ QT b g1) : AT K C (tTest te) g QT := fun σ H Z I P p =>
  h σ H Z I _ fun v H1 Z1 x g1 I1 s1 a1 q1 => by
    obtain ⟨b, rfl, q⟩ := q1
    cases a1
    exact ⟨b, rfl, p _ H1 Z1 g1 I1 s1 q⟩
theorem at_B (h : AE K C te g fun x g1 => ∃ b, x = .d (.bool b) ∧ QT b g1) : AT K C (tB te) g QT := fun σ H Z I P p =>
  h σ H Z I _ fun v H1 Z1 x g1 I1 s1 a1 q1 => by
    obtain ⟨b, rfl, q⟩ := q1
    cases a1
    exact ⟨b, rfl, p _ H1 Z1 g1 I1 s1 q⟩
theorem at_not (h : AT K C tt g fun b g1 => QT (!b) g1) : AT K C (tNot tt) g QT := fun σ H Z I P p =>
  h σ H Z I _ fun b H1 Z1 g1 I1 s1 q1 => p _ H1 Z1 g1 I1 s1 q1
theorem at_and (h : AT K C tt g fun b g1 => BR b (AT K C tu g1 QT) (QT false g1)) : AT K C (tAnd tt tu) g QT := fun σ H Z I P p =>
  h σ H Z I _ fun b H1 Z1 g1 I1 s1 q1 => by
    cases b with
    | true => exact q1.1 rfl σ H1 Z1 I1 P fun v H2 Z2 g2 I2 s2 => p v H2 Z2 g2 I2 (s1.trans s2)
    | false => exact p _ H1 Z1 g1 I1 s1 (q1.2 rfl)
theorem at_or (h : AT K C tt g fun b g1 => BR b (QT true g1) (AT K C tu g1 QT)) : AT K C (tOr tt tu) g QT := fun σ H Z I P p =>
  h σ H Z I _ fun b H1 Z1 g1 I1 s1 q1 => by
    cases b with
    | true => exact p _ H1 Z1 g1 I1 s1 (q1.1 rfl)
    | false => exact q1.2 rfl σ H1 Z1 I1 P fun v H2 Z2 g2 I2 s2 => p v H2 Z2 g2 I2 (s1.trans s2)

/-! ### targets -/
variable {QG : Gm → Prop}
theorem ag_d {i : Nat} {d : PyData} (h : SetE g i (.im d) g') (q : QG g') : AG K C (gName i) (.d d) g QG := fun σ H Z v I a P p =>
  p g' _ H Z (I.setD a h) (Same.refl _) q
theorem ag_v {i : Nat} {v : V} (h : SetE g i (.vl v) g') (q : QG g') : AG K C (gName i) (.v v) g QG := fun σ H Z v I a P p => by
  cases a
  exact p g' _ H Z (I.setV h) (Same.refl _) q
/-- several targets, data given -/
def AGs (K : PySem.W.Frag) (C : Ct) (tg : TGs) (ds : List PyData) (g : Gm) (Q : Gm → Prop) : Prop := ∀ σ H Z vs, Ok K C g σ H Z → DdA K Z vs ds → ∀ Q' : St → Hp → Prop, (∀ g' σ' H' Z', Ok K C g' σ' H' Z' → Same Z Z' → Q g' → Q' σ' H') → tg vs σ H Q'
theorem ags_nil (q : QG g) : AGs K C gNil [] g QG := fun σ H Z vs I a P p => by
  cases a
  exact ⟨rfl, p g σ H Z I (Same.refl _) q⟩
theorem ags_cons {t : TG} {u : TGs} {d : PyData} {ds : List PyData} (h : AG K C t (.d d) g fun g1 => AGs K C u ds g1 QG) : AGs K C (gCons t u) (d :: ds) g QG := fun σ H Z vs I a P p => by
  cases a with
  | @cons v vs _ _ a1 a2 =>
    exact ⟨v, vs, rfl, h σ H Z v I a1 _ fun g1 σ1 H1 Z1 I1 s1 q1 => q1 σ1 H1 Z1 vs I1 (a2.mono s1) P fun g2 σ2 H2 Z2 I2 s2 => p g2 σ2 H2 Z2 I2 (s1.trans s2)⟩
theorem ag_tup {n : Nat} {t : TGs} {ds : List PyData} (hl : ds.length = n) (h : AGs K C t ds g QG) : AG K C (gTup K n t) (.d (.tuple ds)) g QG := fun σ H Z v I a P p => by
  have a' : Dd K Z v (.tuple ds) := a
  cases a' with
  | @tup q xs _ a1 a2 =>
    exact ⟨q, xs, rfl, Same.seqT I.fz a1, by rw [a2.length]; exact hl, h σ H Z xs I a2 P p⟩

/-! ### statements -/
variable {D : Ae} {ts tu' : TS} {tg : TG}
theorem Does.mono {Za Zb : Hp} {D' : Ends} (d : Does K C Za D D') (s : Same Za Zb) : Does K C Zb D D' :=
  ⟨fun g σ H Z I q => d.nx g σ H Z I (s.trans q), fun x v g σ H Z I q => d.rt x v g σ H Z I (s.trans q), fun g σ H Z I q => d.bk g σ H Z I (s.trans q), fun g σ H Z I q => d.ct g σ H Z I (s.trans q), fun ds p g σ H Z I q => d.rn ds p g σ H Z I (s.trans q)⟩
theorem Does.seq {Za : Hp} {D' : Ends} (d : Does K C Za D D') : Does K C Za { D with nx := fun g => AS K C tu' g D } { D' with nx := tu' D' } :=
  ⟨fun g σ H Z I s q => q σ H Z I D' (d.mono s), d.rt, d.bk, d.ct, d.rn⟩
theorem as_next (q : D.nx g) : AS K C tNext g D := fun σ H Z I D' d => d.nx g σ H Z I (Same.refl _) q
theorem as_seq (h : AS K C ts g { D with nx := fun g' => AS K C tu' g' D }) : AS K C (tSeq ts tu') g D := fun σ H Z I D' d => h σ H Z I _ d.seq
theorem as_drop (h : AE K C te g fun _ g' => D.nx g') : AS K C (tDrop te) g D := fun σ H Z I D' d => h σ H Z I _ fun v H1 Z1 x g1 I1 s1 a1 q1 => d.nx g1 σ H1 Z1 I1 s1 q1
theorem as_ret (h : AE K C te g D.rt) : AS K C (tRet te) g D := fun σ H Z I D' d => h σ H Z I _ fun v H1 Z1 x g1 I1 s1 a1 q1 => d.rt x v g1 σ H1 Z1 I1 s1 a1 q1
theorem as_retL (h : AN K C te g D.rn) : AS K C (tRet te) g D := fun σ H Z I D' d => h σ H Z I _ fun p H1 Z1 ds g1 I1 s1 n q1 => d.rn ds p g1 σ H1 Z1 I1 s1 n q1
theorem as_retN (h : D.rt (.d .none) g) : AS K C tRetN g D := fun σ H Z I D' d => d.rt (.d .none) .non g σ H Z I (Same.refl _) Dd.non h
theorem as_if (h : AT K C tt g fun b g1 => BR b (AS K C ts g1 D) (AS K C tu' g1 D)) : AS K C (tIfS tt ts tu') g D := fun σ H Z I D' d =>
  h σ H Z I _ fun b H1 Z1 g1 I1 s1 q1 => by
    cases b with
    | true => exact q1.1 rfl σ H1 Z1 I1 D' (d.mono s1)
    | false => exact q1.2 rfl σ H1 Z1 I1 D' (d.mono s1)
theorem as_brk (q : D.bk g) : AS K C tBreak g D := fun σ H Z I D' d => d.bk g σ H Z I (Same.refl _) q
theorem as_ct (q : D.ct g) : AS K C tCont g D := fun σ H Z I D' d => d.ct g σ H Z I (Same.refl _) q
theorem as_asg (h : AE K C te g fun x g1 => AG K C tg x g1 D.nx) : AS K C (tAsg te tg) g D := fun σ H Z I D' d =>
  h σ H Z I _ fun v H1 Z1 x g1 I1 s1 a1 q1 => q1 σ H1 Z1 v I1 a1 _ fun g2 σ2 H2 Z2 I2 s2 q2 => d.nx g2 σ2 H2 Z2 I2 (s1.trans s2) q2
/-- a slot takes a new list to change -/
theorem as_asgN {i : Nat} (h : AN K C te g fun ds g1 => ∃ g2, SetE g1 i (.ls none ds) g2 ∧ D.nx g2) : AS K C (tAsg te (gName i)) g D := fun σ H Z I D' d =>
  h σ H Z I _ fun p H1 Z1 ds g1 I1 s1 n q1 => by
    obtain ⟨g2, h2, q⟩ := q1
    exact d.nx g2 _ H1 Z1 (I1.setL n h2) s1 q
theorem as_par {i j : Nat} {tr : TA} (h : AA K C tr g fun xs g1 => ∃ d e g2 g3, xs = [.d d, .d e] ∧ SetE g1 i (.im d) g2 ∧ SetE g2 j (.im e) g3 ∧ D.nx g3) : AS K C (tPar i j tr) g D := fun σ H Z I D' d =>
  h σ H Z I _ fun vs H1 Z1 xs g1 I1 s1 a1 q1 => by
    obtain ⟨x, y, g2, g3, rfl, h2, h3, q⟩ := q1
    cases a1 with
    | @cons _ v _ _ a2 a3 =>
      cases a3 with
      | @cons _ w _ _ a4 a5 =>
        cases a5
        exact ⟨v, w, rfl, d.nx g3 _ H1 Z1 ((I1.setD a2 h2).setD a4 h3) s1 q⟩
theorem as_aug {i : Nat} {f : Int → Int → Int} {a : Int} (h0 : g[i]? = some (.im (.int a))) (h : AE K C te g fun x g1 => ∃ b g2, x = .d (.int b) ∧ SetE g1 i (.im (.int (f a b))) g2 ∧ D.nx g2) : AS K C (tAug i te (ipI f)) g D := fun σ H Z I D' d => by
  obtain ⟨v, e1, e2⟩ := I.ent i _ h0
  refine ⟨v, e1, h σ H Z I _ fun w H1 Z1 x g1 I1 s1 a1 q1 => ?_⟩
  obtain ⟨b, g2, rfl, h2, q⟩ := q1
  cases e2; cases a1
  exact ⟨a, b, rfl, rfl, d.nx g2 _ H1 Z1 (I1.setD (Dd.int _) h2) s1 q⟩
/-- while: m falls -/
theorem as_while (J : Nat → Gm → Prop) (h0 : ∃ m, J m g) (h : ∀ m g', J m g' → AT K C tt g' fun b g2 => BR b (AS K C ts g2 { D with nx := fun g3 => ∃ m', m' < m ∧ J m' g3, ct := fun g3 => ∃ m', m' < m ∧ J m' g3, bk := D.nx }) (D.nx g2)) : AS K C (tWhile tt ts) g D := fun σ H Z I D' d => by
  obtain ⟨m0, h0⟩ := h0
  refine ⟨fun m σ H => ∃ g' Z', Ok K C g' σ H Z' ∧ Same Z Z' ∧ J m g', ⟨m0, g, Z, I, Same.refl _, h0⟩, ?_⟩
  rintro m σ1 H1 ⟨g1, Z1, I1, s1, j1⟩
  refine h m g1 j1 σ1 H1 Z1 I1 _ fun b H2 Z2 g2 I2 s2 q2 => ?_
  have s02 := s1.trans s2
  cases b with
  | true =>
    show ∃ N : St → Hp → Prop, _
    refine ⟨fun σ3 H3 => ∃ m', m' < m ∧ ∃ g' Z', Ok K C g' σ3 H3 Z' ∧ Same Z Z' ∧ J m' g', fun _ _ z => z, ?_⟩
    have d2 := d.mono s02
    exact q2.1 rfl σ1 H2 Z2 I2 _ ⟨fun g3 σ3 H3 Z3 I3 s3 ⟨m', l, j⟩ => ⟨m', l, g3, Z3, I3, s02.trans s3, j⟩, d2.rt, d2.nx, fun g3 σ3 H3 Z3 I3 s3 ⟨m', l, j⟩ => ⟨m', l, g3, Z3, I3, s02.trans s3, j⟩, d2.rn⟩
  | false => exact d.nx g2 σ1 H2 Z2 I2 s02 (q2.2 rfl)
/-- what is walked: its items -/
structure Wk (K : PySem.W.Frag) (Z1 : Hp) (J : It) (ds : List PyData) : Prop where
  ex : ∃ (G : Hp → Prop) (Y : Nat → Hp → V → Hp → Prop), Walk J ds.length G Y ∧ (∀ (C : Ct) g σ H Z, Ok K C g σ H Z → Same Z1 Z → G H) ∧
    (∀ (C : Ct) i H x H' g σ Z d, Ok K C g σ H Z → Same Z1 Z → ds[i]? = some d → Y i H x H' → ∃ Z', Ok K C g σ H' Z' ∧ Same Z Z' ∧ Dd K Z' x d)
def AI (K : PySem.W.Frag) (C : Ct) (wi : TI) (g : Gm) (Q : List PyData → Gm → Prop) : Prop := ∀ σ H Z, Ok K C g σ H Z → ∀ R : It → Hp → Prop, (∀ J H' Z' ds g', Ok K C g' σ H' Z' → Same Z Z' → Wk K Z' J ds → Q ds g' → R J H') → wi σ H R
theorem as_for {wi : TI} (h : AI K C wi g fun ds g1 => ∃ J : Nat → Gm → Prop, J 0 g1 ∧ (∀ i d g', ds[i]? = some d → J i g' → AG K C tg (.d d) g' fun g2 => AS K C ts g2 { D with nx := J (i + 1), ct := J (i + 1), bk := D.nx }) ∧ ∀ g', J ds.length g' → D.nx g') : AS K C (tFor wi tg ts) g D := fun σ H Z I D' d =>
  h σ H Z I _ fun J H1 Z1 ds g1 I1 s1 w q => by
    obtain ⟨W, j0, js, jn⟩ := q
    obtain ⟨G, Y, wk, wg, wy⟩ := w.ex
    refine for_it wk (fun i σ H => ∃ g Z, Ok K C g σ H Z ∧ Same Z1 Z ∧ W i g) ⟨g1, Z1, I1, Same.refl _, j0⟩ (fun i σ H _ ⟨g, Z, I, s, _⟩ => wg C g σ H Z I s) ?_ fun σ H ⟨g, Z, I, s, q⟩ => d.nx g σ H Z I (s1.trans s) (jn g q)
    rintro i x σ2 H2 H3 hi ⟨g2, Z2, I2, s2, q2⟩ y
    have e : ds[i]? = some ds[i] := List.getElem?_eq_getElem hi
    obtain ⟨Z3, I3, s3, a3⟩ := wy C i H2 x H3 g2 σ2 Z2 _ I2 s2 e y
    refine js i _ g2 e q2 σ2 H3 Z3 x I3 a3 _ fun g4 σ4 H4 Z4 I4 s4 q4 => ?_
    have s14 : Same Z1 Z4 := (s2.trans s3).trans s4
    have d4 := d.mono (s1.trans s14)
    exact q4 σ4 H4 Z4 I4 _ ⟨fun g5 σ5 H5 Z5 I5 s5 q5 => ⟨g5, Z5, I5, s14.trans s5, q5⟩, d4.rt, d4.nx, fun g5 σ5 H5 Z5 I5 s5 q5 => ⟨g5, Z5, I5, s14.trans s5, q5⟩, d4.rn⟩

/-! ### what is walked -/
theorem ai_list {tl : TE} {QI : List PyData → Gm → Prop} (h : AE K C tl g fun x g1 => ∃ xs g2, Frz [x] g1 [.list xs] g2 ∧ QI xs g2) : AI K C (iList K tl) g QI := fun σ H Z I R p =>
  h σ H Z I _ fun v H1 Z1 x g1 I1 s1 a1 q1 => by
    obtain ⟨ds, g2, f, q⟩ := q1
    obtain ⟨Z2, I2, s2, r2⟩ := f.run I1 (.cons a1 .nil)
    cases r2 with
    | cons r3 _ =>
      cases r3 with
      | @lst a xs _ e1 e2 =>
        refine ⟨a, rfl, ⟨xs, SqL.of (I2.fz _ _ e1)⟩, p _ H1 Z2 ds g2 I2 (s1.trans s2) ⟨fun H => SqL K H a xs, YAt xs, ?_, fun _ g σ H Z I s => SqL.of (I.fz _ _ (s _ _ e1)), fun _ i H x H' g σ Z d I s e y => ?_⟩ q⟩
        · rw [← e2.length]; exact walk_list
        · obtain ⟨rfl, y2⟩ := y
          obtain ⟨d', k1, k2⟩ := (e2.mono s).getV y2
          rw [e] at k1; cases k1
          exact ⟨Z, I, Same.refl _, k2⟩
theorem ai_tup {tl : TE} {QI : List PyData → Gm → Prop} (h : AE K C tl g fun x g1 => ∃ xs, x = .d (.tuple xs) ∧ QI xs g1) : AI K C (iTup K tl) g QI := fun σ H Z I R p =>
  h σ H Z I _ fun v H1 Z1 x g1 I1 s1 a1 q1 => by
    obtain ⟨ds, rfl, q⟩ := q1
    have a2 : Dd K Z1 v (.tuple ds) := a1
    cases a2 with
    | @tup a xs _ e1 e2 =>
      refine ⟨a, rfl, ⟨xs, Same.seqT I1.fz e1⟩, p _ H1 Z1 ds g1 I1 s1 ⟨fun H => SqT K H a xs, YAt xs, ?_, fun _ g σ H Z I s => Same.seqT I.fz (Same.seqT s e1), fun _ i H x H' g σ Z d I s e y => ?_⟩ q⟩
      · rw [← e2.length]; exact walk_tup
      · obtain ⟨rfl, y2⟩ := y
        obtain ⟨d', k1, k2⟩ := (e2.mono s).getV y2
        rw [e] at k1; cases k1
        exact ⟨Z, I, Same.refl _, k2⟩
def rangeD (lo : Int) (n : Nat) : List PyData := (List.range n).map fun i => .int (lo + (i : Nat))
theorem rangeD_len (lo : Int) (n : Nat) : (rangeD lo n).length = n := by simp [rangeD]
theorem rangeD_get {lo : Int} {n i : Nat} {d : PyData} (h : (rangeD lo n)[i]? = some d) : i < n ∧ d = .int (lo + (i : Nat)) := by
  simp only [rangeD, List.getElem?_map, Option.map_eq_some_iff] at h
  obtain ⟨j, h1, h2⟩ := h
  have h3 := List.getElem?_eq_some_iff.mp h1
  obtain ⟨h4, h5⟩ := h3
  simp at h4 h5
  subst h5
  exact ⟨h4, h2.symm⟩
theorem wk_range {Z1 : Hp} {lo : Int} {n : Nat} : Wk K Z1 (Itr lo n) (rangeD lo n) := by
  refine ⟨fun _ => True, YFn fun i => .int (lo + i), ?_, fun _ _ _ _ _ _ _ => trivial, fun _ i H x H' g σ Z d I s e y => ?_⟩
  · rw [rangeD_len]; exact walk_range
  · obtain ⟨rfl, rfl⟩ := y
    obtain ⟨_, rfl⟩ := rangeD_get e
    exact ⟨Z, I, Same.refl _, .int _⟩
theorem ai_range1 {tr : TA} {QI : List PyData → Gm → Prop} (h : AA K C tr g fun xs g1 => ∃ j, xs = [.d (.int j)] ∧ -(2 ^ 62) ≤ j ∧ j < 2 ^ 62 ∧ QI (rangeD 0 j.toNat) g1) : AI K C (iRng1 tr) g QI := fun σ H Z I R p =>
  h σ H Z I _ fun vs H1 Z1 xs g1 I1 s1 a1 q1 => by
    obtain ⟨j, rfl, h1, h2, q⟩ := q1
    cases a1 with
    | cons a2 a3 =>
      cases a3; cases a2
      exact ⟨j, rfl, h1, h2, p _ H1 Z1 _ g1 I1 s1 wk_range q⟩
theorem ai_range2 {tr : TA} {QI : List PyData → Gm → Prop} (h : AA K C tr g fun xs g1 => ∃ i j, xs = [.d (.int i), .d (.int j)] ∧ (-(2 ^ 62) ≤ i ∧ i < 2 ^ 62 ∧ -(2 ^ 62) ≤ j ∧ j < 2 ^ 62) ∧ QI (rangeD i (j - i).toNat) g1) : AI K C (iRng2 tr) g QI := fun σ H Z I R p =>
  h σ H Z I _ fun vs H1 Z1 xs g1 I1 s1 a1 q1 => by
    obtain ⟨i, j, rfl, h1, q⟩ := q1
    cases a1 with
    | cons a2 a3 =>
      cases a3 with
      | cons a4 a5 =>
        cases a5; cases a4; cases a2
        exact ⟨i, j, rfl, h1, p _ H1 Z1 _ g1 I1 s1 wk_range q⟩
/-- pairs of a place and an item -/
def enumD (ds : List PyData) : List PyData := ds.zipIdx.map fun p => .tuple [.int (p.2 : Nat), p.1]
theorem enumD_len (ds : List PyData) : (enumD ds).length = ds.length := by simp [enumD]
theorem enumD_get {ds : List PyData} {i : Nat} {d : PyData} (h : (enumD ds)[i]? = some d) : ∃ e, ds[i]? = some e ∧ d = .tuple [.int (i : Nat), e] := by
  simp only [enumD, List.getElem?_map, Option.map_eq_some_iff, List.getElem?_zipIdx] at h
  obtain ⟨j, ⟨e, h1, h2⟩, h3⟩ := h
  subst h2
  refine ⟨e, h1, ?_⟩
  rw [← h3]; simp
end
end AL
/-! enumerate of a tuple. -/
namespace AL
open PySem PySem.Spec L2
open Sem (wp)
theorem meets_enumerate_new1 {v : Value} {o : Obj} {H : Heap → Prop} (B : Begins v o H) :
    Meets (Builtin.«enumerate.__new__» ⟨[.type "enumerate", v], []⟩) (fun _ R s => H s.heap ∧
      R (.ok (.ret (.ref (s.heap.push o).objs.size))) { s with heap := (s.heap.push o).push { cls := .type "enumerate", data := .fields #[.none, .bool false, .ref s.heap.objs.size, rawInt 0, .none, .none] } }) :=
  .of_wp fun prog w A R s h => by
    obtain ⟨hp, g, d, tk, os⟩ := s; obtain ⟨h1, h⟩ := h
    have hsub := sub_enumerate
    have q1 : ∀ {A' : Around} {E : Value → Shared → Prop} {Q : Value → Shared → Prop}, Q (.ref hp.objs.size) ⟨hp.push o, g, d, tk, os⟩ → wpAny (model prog w) A' (pyIter v) Q E ⟨hp, g, d, tk, os⟩ :=
      fun q => B.iter prog w _ _ ⟨hp, g, d, tk, os⟩ _ h1 q
    wp_walk using q1
    refine wpAny_stack_any fun st => wpAny_pure ?_
    split
    · rename_i c _ _ _ _ _
      cases (c == Value.type "enumerate")
      · wp_walk using q1
        exact ⟨_, rfl, h⟩
      · wp_walk using q1
        exact ⟨_, rfl, h⟩
    · wp_walk using q1
      exact ⟨_, rfl, h⟩
theorem call_enumerate_1 {prog : Program} {w : World} {A : Around} {E : Value → Shared → Prop} {s : Shared} {v : Value} {o : Obj} {H : Heap → Prop} {Q : Value → Shared → Prop} (B : Begins v o H) (h1 : H s.heap)
    (h : ∀ h', IsEnum h' (s.heap.objs.size + 1) s.heap.objs.size 0 .none → h'.get? s.heap.objs.size = some o → h'.objs.size = s.heap.objs.size + 2 →
      (∀ b o, s.heap.get? b = some o → h'.get? b = some o) → Q (.ref (s.heap.objs.size + 1)) { s with heap := h' }) :
    wpAny (model prog w) A (call (.type "enumerate") [v]) Q E s := by
  refine callType_new F.called_enumerate (by decide) (F.typeCall_enumerate_1 _) (F.newCall_enumerate_1 _) (fun obj => F.args_object_init_2 obj _) F.entry_enumerate_new
    (meets_enumerate_new1 B) ⟨h1, ?_⟩
  have hz : (s.heap.push o).objs.size = s.heap.objs.size + 1 := Heap.size_push ..
  show _ ∧ _
  rw [hz]
  have he : IsEnum ((s.heap.push o).push { cls := .type "enumerate", data := .fields #[.none, .bool false, .ref s.heap.objs.size, rawInt 0, .none, .none] }) (s.heap.objs.size + 1) s.heap.objs.size 0 .none := by
    have := Heap.get?_push_size (s.heap.push o) (o := { cls := .type "enumerate", data := .fields #[.none, .bool false, .ref s.heap.objs.size, rawInt 0, .none, .none] }) rfl
    rw [hz] at this; exact this
  refine ⟨⟨_, he, rfl⟩, h _ he (Heap.get?_push_of_some _ (Heap.get?_push_size _ B.free)) (by rw [Heap.size_push, hz]) fun b o x => Heap.get?_push_of_some _ (Heap.get?_push_of_some _ x)⟩

/-- the tuple at a, its items in new pairs with their places -/
def IteT (K : PySem.W.Frag) (a : Addr) : It :=
  ⟨fun i H => ∃ (xs : List V) (x : V), SqT K H a xs ∧ xs[i]? = some x, fun i H v H' => ∃ T x, v = .ref T ∧ H T = none ∧ H' = upd H T (.tup [.int (i : Nat), x]) ∧ ∀ xs, SqT K H a xs → xs[i]? = some x, fun i H => ∃ xs : List V, SqT K H a xs ∧ xs.length ≤ i⟩
theorem turn_enumT {P : Program} {w : World} {K : PySem.W.Frag} {elts : List Expr} {kk : Nat} {tpos : Pos} (a e it : Addr) :
    Turn P w K (.Tuple elts kk tpos) (IteT K a) [e, it] e (fun i h => (∃ old, IsEnum h e it ((i : Nat) : Int) old) ∧ h.IsTupleIter it a i ∧ e ≠ it) where
  mem := by simp
  obj := fun i h st b hb => by
    obtain ⟨⟨old, he⟩, ⟨o, ho, hc, hd⟩, _⟩ := st
    have e' : b = e ∨ b = it := by simpa using hb
    rcases e' with z | z
    · rw [z]; exact ⟨_, he, fun v q => nomatch q⟩
    · rw [z]; exact ⟨o, ho, fun v q => by rw [hd] at q; cases q⟩
  keep := fun i h h' st k => let ⟨⟨old, he⟩, hi, hne⟩ := st; ⟨⟨old, k e (by simp) _ he⟩, hi.at fun o q => k it (by simp) o q, hne⟩
  item := by
    intro X hP hw hK hc i pins s σ H E I hf st hg
    subst hP hw hK
    obtain ⟨⟨old, he⟩, hit, hne⟩ := st
    obtain ⟨xs, x, hq, hx⟩ := hg
    obtain ⟨its, rv, p, hz⟩ := I.tuple hq
    obtain ⟨u, hu, ru⟩ := rv.get hx
    have hel : e < s.heap.objs.size := Heap.lt_size he
    have hil : it < s.heap.objs.size := by obtain ⟨_, q, _⟩ := hit; exact Heap.lt_size q
    have hilt : i < its.toArray.size := by
      have := (List.getElem?_eq_some_iff.mp hu).1
      simpa using this
    have ne1 : a ≠ it := fun z => by
      obtain ⟨o, q1, q2, _⟩ := hit
      obtain ⟨o', q3, q4, _⟩ := (show s.heap.IsTuple a its.toArray from p)
      rw [z, q1] at q3; cases q3; rw [q2] at q4; injection q4 with z2; exact absurd z2 (by decide)
    have ne2 : e ≠ a := fun z => by
      obtain ⟨o', q3, q4, _⟩ := (show s.heap.IsTuple a its.toArray from p)
      have he' : s.heap.get? e = some _ := he
      rw [z, q3] at he'; injection he' with z1; rw [z1] at q4; injection q4 with z2; exact absurd z2 (by decide)
    have D := Draws.tuple (prog := X.prog) (w := X.w) (A := X.A.in1) (I.ok.hd hc) it a ne1 its.toArray
    refine wpAny_pyNext_enum_itemD D he ⟨hit, p⟩ hilt hne (by simp [hne, ne2]) fun y h' tk hy ho st' hT hsz hk => ?_
    have ey : u = y := by
      have h1 : its[i]? = some y := by simpa using hy
      rw [hu] at h1; exact Option.some.inj h1
    subst ey
    refine ⟨_, rfl, wpAny_letOwnedTupleGo_enum (s := { s with heap := h', toks := tk + 1 }) ho fun h'' he' sb => ?_⟩
    have hT2 : h''.get? s.heap.objs.size = some { cls := .type "tuple", data := .seq #[.int i tk, u] } := (sb.2 _ (Nat.ne_of_gt hel)).trans hT
    have new : ObjOk X.prog X.w (upd H s.heap.objs.size (.tup [.int (i : Nat), x])) h'' s.heap.objs.size (.tup [.int (i : Nat), x]) :=
      ⟨by show 2 ≤ sizeLine; decide, [.int i tk, u], .cons ⟨_, rfl⟩ (.cons ru .nil), ⟨_, hT2, rfl, _, rfl⟩⟩
    have I1 : Inv X pins σ (upd H s.heap.objs.size (.tup [.int (i : Nat), x])) { s with heap := h'', toks := tk + 1 } :=
      I.turnedNew (ch := [e, it]) (fun b ob hb q => (sb.2 b (fun z => hb (by simp [z]))).trans (hk b ob (fun z => hb (by simp [z])) (fun z => hb (by simp [z])) q)) hf (Nat.le_refl _) new
    refine ⟨.ref s.heap.objs.size, _, I1, rfl, ⟨_, x, rfl, I.hok.fresh (Nat.le_refl _), rfl, fun ys hy => by rw [I.tuple_inj hy hq]; exact hx⟩, ⟨⟨u, ?_⟩, st'.1.at fun o q => (sb.2 it (Ne.symm hne)).trans q, hne⟩, fun b hb => ?_⟩
    · have e1 : ((i + 1 : Nat) : Int) = (i : Int) + 1 := by omega
      rw [e1]; exact he'
    · have hb' : b < s.heap.objs.size := by
        have e' : b = e ∨ b = it := by simpa using hb
        rcases e' with z | z
        · rw [z]; exact hel
        · rw [z]; exact hil
      rw [upd_ne (Nat.ne_of_lt hb')]
      exact (hf b hb).1
  done := by
    intro X hP hw hK hc i pins s σ H E I hf st hg
    subst hP hw hK
    obtain ⟨⟨old, he⟩, hit, hne⟩ := st
    obtain ⟨xs, hq, hx⟩ := hg
    obtain ⟨its, rv, p, hz⟩ := I.tuple hq
    obtain ⟨f0, f1, f2, f3, f4, f5⟩ := hf it (by simp)
    have hl := rv.length
    have hT : s.TypeIs (.ref e) "enumerate" := ⟨_, he, rfl⟩
    unfold pyNext
    refine wpAny_bind (wpAny_attempt (wpAny_callSpecial?_slot (name := Str.ofString "__next__") hT F.slot_enumerate_next
      (wpAny_call_entry F.slot_enumerate_next hT F.entry_enumerate_next ?_ (F.args_enumerate_next_1 _))))
    show wpAny _ _ (field (.ref e) 2 >>= _) _ _ _
    refine wpAny_bind (wpAny_field he rfl (x := .ref it) rfl ?_)
    refine wpAny_bind (wpAny_nextOf_tuple_end (A := X.A.in1) (I.ok.hd hc) hit p (by simp; omega) fun h' x he' hx' => ?_)
    obtain ⟨o, ho, hc'⟩ := hx'
    refine wpAny_bind (wpAny_isInstance (T := "StopIteration") (b := true) ⟨o, ho, hc'⟩ isSubtype_stop ?_)
    exact wpAny_pure ⟨rfl, I.turned (t' := s.toks) (fun b o hb q => he' b o hb q) f0 f1 f3 f4 f5⟩
  self := fun A i s Q E st h => let ⟨⟨_, he⟩, _⟩ := st; wpAny_pyIter_enum he h
/-- enumerate of a list or of a tuple -/
def iEnumA (K : PySem.W.Frag) (ta : TA) : TI := fun σ H R => ta σ H fun vs H1 => ∃ a xs, vs = [.ref a] ∧ ((SqL K H1 a xs ∧ R (Ite K a) H1) ∨ (SqT K H1 a xs ∧ R (IteT K a) H1))
theorem pi_enumA {X : Cx} {e : Expr} {ta : TA} {p pos tpos : Pos} {elts : List Expr} {kk : Nat} (hg : Gl X "enumerate") (hm : X.mg "enumerate" = none) (ha : PA X [e] ta) (hs : starEach [e] X.env = [(false, eval e X.env)] := by rfl) :
    PI X (.Tuple elts kk tpos) (.Call (.Name "enumerate" p) [e] [] pos) (iEnumA X.K ta) := by
  refine ⟨fun pins s σ H R I h => ?_⟩
  refine PyProof.Rows.Call_ (ld_blt I hg hm PyProof.Rows.boot_enumerate (PyProof.Rows.callWith_type1 (thn (ha.run pos pins s σ H _ I h) fun us s1 ⟨vs, H1, I1, r1, q1⟩ => ?_) hs rfl))
  obtain ⟨a, xs, ex, q⟩ := q1
  subst ex
  cases r1 with
  | cons r rr =>
    cases rr
    cases r
    have fp : ∀ b ∈ [s1.heap.objs.size + 1, s1.heap.objs.size], FpOk X pins H1 b := fun b hb => by
      have e' : b = s1.heap.objs.size + 1 ∨ b = s1.heap.objs.size := by simpa using hb
      have hle : s1.heap.objs.size ≤ b := by
        rcases e' with z | z
        · rw [z]; exact Nat.le_add_right _ _
        · rw [z]; exact Nat.le_refl _
      exact I1.fpOk hle (I1.hok.fresh hle)
    rcases q with ⟨hq, q⟩ | ⟨hq, q⟩
    · obtain ⟨its, rv, p', hz⟩ := I1.list hq
      refine call_enumerate_list p'.isList fun h' he hit hsz hk => wpAny_pyIter_enum he ?_
      have I2 : Inv X pins σ H1 { s1 with heap := h' } := I1.kept (t' := s1.toks) hk
      exact ⟨s1.heap.objs.size + 1, [s1.heap.objs.size + 1, s1.heap.objs.size], _, _, H1, rfl, I2, turn_enum a (s1.heap.objs.size + 1) s1.heap.objs.size, ⟨⟨.none, he⟩, hit, Nat.succ_ne_self _⟩, fp, q⟩
    · obtain ⟨its, rv, p', hz⟩ := I1.tuple hq
      refine call_enumerate_1 (begins_tuple a its.toArray) p' fun h' he hit hsz hk => wpAny_pyIter_enum he ?_
      have I2 : Inv X pins σ H1 { s1 with heap := h' } := I1.kept (t' := s1.toks) hk
      exact ⟨s1.heap.objs.size + 1, [s1.heap.objs.size + 1, s1.heap.objs.size], _, _, H1, rfl, I2, turn_enumT a (s1.heap.objs.size + 1) s1.heap.objs.size, ⟨⟨.none, he⟩, ⟨_, hit, rfl, rfl⟩, Nat.succ_ne_self _⟩, fp, q⟩
end AL
/-! The layer's rules over the text: contexts, names, expressions, calls. -/
namespace AL
open PySem PySem.Spec L2

/-! ### readings of the text itself -/
def tE (X : Cx) (e : Expr) : TE := fun σ H Q => ∀ pins s, Inv X pins σ H s → wpAny (model X.prog X.w) X.A (eval e X.env) (EP X pins σ Q) X.xe s
def tT (X : Cx) (e : Expr) : TT := fun σ H Q => ∀ pins s, Inv X pins σ H s → wpAny (model X.prog X.w) X.A (isTrue e X.env (eval e X.env)) (TP X pins σ Q) X.xe s
def tW (X : Cx) (e : Expr) : TT := fun σ H Q => ∀ wh pins s, Inv X pins σ H s → wpAny (model X.prog X.w) X.A (isTrue e X.env wh) (TP X pins σ Q) X.xe s
def tA (X : Cx) (es : List Expr) : TA := fun σ H Q => ∀ pos pins s, Inv X pins σ H s → wpAny (model X.prog X.w) X.A (spliced (backTo pos (starEach es X.env))) (AP X pins σ Q) X.xe s
def tS (X : Cx) (st : Stmt) : TS := fun D σ H => ∀ pins s, Inv X pins σ H s → wpAny (model X.prog X.w) X.A (exec st X.env) (SP X pins D) X.xe s
def tSs (X : Cx) (sts : List Stmt) : TS := fun D σ H => ∀ pins s, Inv X pins σ H s → wpAny (model X.prog X.w) X.A (execs sts X.env) (SP X pins D) X.xe s
def tG (X : Cx) (tg : Expr) : TG := fun v σ H Q => ∀ pins s u, Inv X pins σ H s → RelV v u → wpAny (model X.prog X.w) X.A (assign tg X.env u) (fun _ s' => ∃ σ' H', Inv X pins σ' H' s' ∧ Q σ' H') X.xe s
def tGs (X : Cx) (tgs : List Expr) : TGs := fun vs σ H Q => ∀ pins s us, Inv X pins σ H s → Vals vs us → wpAny (model X.prog X.w) X.A (assignInOrder ((assignEach tgs X.env).map (·.2)) us) (fun _ s' => ∃ σ' H', Inv X pins σ' H' s' ∧ Q σ' H') X.xe s
def tI (X : Cx) (tg iter : Expr) : TI := fun σ H R => ∀ pins s, Inv X pins σ H s → wpAny (model X.prog X.w) X.A (eval iter X.env) (fun v s1 => wpAny (model X.prog X.w) X.A (pyIter v) (PIE X pins σ tg R) X.xe s1) X.xe s
def tTs (X : Cx) (ifs : List Expr) : TT := fun σ H Q => ∀ pins s, Inv X pins σ H s → wpAny (model X.prog X.w) X.A (forIn ifs true fun c r => if r = true then do let ok ← isTrue c X.env (eval c X.env); pure (ForInStep.yield ok) else pure (ForInStep.yield r)) (TP X pins σ Q) X.xe s
section
variable {X : Cx} {e : Expr} {es : List Expr} {st : Stmt} {sts : List Stmt}
theorem pe_t : PE X e (tE X e) := ⟨fun pins s σ H Q I h => h pins s I⟩
theorem pt_t : PT X e (tT X e) := ⟨fun pins s σ H Q I h => h pins s I⟩
theorem pw_t : PW X e (tW X e) := ⟨fun wh pins s σ H Q I h => h wh pins s I⟩
theorem pa_t : PA X es (tA X es) := ⟨fun pos pins s σ H Q I h => h pos pins s I⟩
theorem ps_t : PS X st (tS X st) := ⟨fun pins s σ H D I h => h pins s I⟩
theorem pss_t : PSs X sts (tSs X sts) := ⟨fun pins s σ H D I h => h pins s I⟩
theorem pg_t {tg : Expr} : PG X tg (tG X tg) := ⟨fun pins s σ H v u Q I r h => h pins s u I r⟩
theorem pgs_t {tgs : List Expr} : PGs X tgs (tGs X tgs) := ⟨fun pins s σ H vs us Q I r h => h pins s us I r⟩
theorem pi_t {tg iter : Expr} : PI X tg iter (tI X tg iter) := ⟨fun pins s σ H R I h => h pins s I⟩
theorem pts_t {ifs : List Expr} : PTs X ifs (tTs X ifs) := ⟨fun pins s σ H Q I h => h pins s I⟩
end
def EE (X : Cx) (C : Ct) (e : Expr) (g : Gm) (Q : Av → Gm → Prop) : Prop := AE X.K C (tE X e) g Q
def EN (X : Cx) (C : Ct) (e : Expr) (g : Gm) (Q : List PyData → Gm → Prop) : Prop := AN X.K C (tE X e) g Q
def ET (X : Cx) (C : Ct) (e : Expr) (g : Gm) (Q : Bool → Gm → Prop) : Prop := AT X.K C (tT X e) g Q
def EW (X : Cx) (C : Ct) (e : Expr) (g : Gm) (Q : Bool → Gm → Prop) : Prop := AT X.K C (tW X e) g Q
def ETs (X : Cx) (C : Ct) (es : List Expr) (g : Gm) (Q : Bool → Gm → Prop) : Prop := AT X.K C (tTs X es) g Q
def EA (X : Cx) (C : Ct) (es : List Expr) (g : Gm) (Q : List Av → Gm → Prop) : Prop := AA X.K C (tA X es) g Q
def ES (X : Cx) (C : Ct) (st : Stmt) (g : Gm) (D : Ae) : Prop := AS X.K C (tS X st) g D
def ESs (X : Cx) (C : Ct) (sts : List Stmt) (g : Gm) (D : Ae) : Prop := AS X.K C (tSs X sts) g D
def EG (X : Cx) (C : Ct) (tg : Expr) (x : Av) (g : Gm) (Q : Gm → Prop) : Prop := AG X.K C (tG X tg) x g Q
def EGs (X : Cx) (C : Ct) (tgs : List Expr) (ds : List PyData) (g : Gm) (Q : Gm → Prop) : Prop := AGs X.K C (tGs X tgs) ds g Q
def EI (X : Cx) (C : Ct) (tg iter : Expr) (g : Gm) (Q : List PyData → Gm → Prop) : Prop := AI X.K C (tI X tg iter) g Q
section
variable {X : Cx} {C : Ct} {g : Gm} {e : Expr} {Q : Av → Gm → Prop}
theorem EE.of {t : TE} (h : PE X e t) (a : AE X.K C t g Q) : EE X C e g Q := fun σ H Z I P p pins s J => h.run pins s σ H P J (a σ H Z I P p)
theorem EN.of {t : TE} {QL : List PyData → Gm → Prop} (h : PE X e t) (a : AN X.K C t g QL) : EN X C e g QL := fun σ H Z I P p pins s J => h.run pins s σ H P J (a σ H Z I P p)
theorem ET.of {t : TT} {QT : Bool → Gm → Prop} (h : PT X e t) (a : AT X.K C t g QT) : ET X C e g QT := fun σ H Z I P p pins s J => h.run pins s σ H P J (a σ H Z I P p)
theorem EW.of {t : TT} {QT : Bool → Gm → Prop} (h : PW X e t) (a : AT X.K C t g QT) : EW X C e g QT := fun σ H Z I P p wh pins s J => h.run wh pins s σ H P J (a σ H Z I P p)
theorem ETs.of {es : List Expr} {t : TT} {QT : Bool → Gm → Prop} (h : PTs X es t) (a : AT X.K C t g QT) : ETs X C es g QT := fun σ H Z I P p pins s J => h.run pins s σ H P J (a σ H Z I P p)
theorem EA.of {es : List Expr} {t : TA} {QA : List Av → Gm → Prop} (h : PA X es t) (a : AA X.K C t g QA) : EA X C es g QA := fun σ H Z I P p pos pins s J => h.run pos pins s σ H P J (a σ H Z I P p)
theorem ES.of {st : Stmt} {t : TS} {D : Ae} (h : PS X st t) (a : AS X.K C t g D) : ES X C st g D := fun σ H Z I D' d pins s J => h.run pins s σ H D' J (a σ H Z I D' d)
theorem ESs.of {sts : List Stmt} {t : TS} {D : Ae} (h : PSs X sts t) (a : AS X.K C t g D) : ESs X C sts g D := fun σ H Z I D' d pins s J => h.run pins s σ H D' J (a σ H Z I D' d)
theorem EG.of {tg : Expr} {t : TG} {x : Av} {QG : Gm → Prop} (h : PG X tg t) (a : AG X.K C t x g QG) : EG X C tg x g QG := fun σ H Z v I r P p pins s u J q => h.run pins s σ H v u P J q (a σ H Z v I r P p)
theorem EGs.of {tgs : List Expr} {t : TGs} {ds : List PyData} {QG : Gm → Prop} (h : PGs X tgs t) (a : AGs X.K C t ds g QG) : EGs X C tgs ds g QG := fun σ H Z vs I r P p pins s us J q => h.run pins s σ H vs us P J q (a σ H Z vs I r P p)
theorem EI.of {tg iter : Expr} {t : TI} {QI : List PyData → Gm → Prop} (h : PI X tg iter t) (a : AI X.K C t g QI) : EI X C tg iter g QI := fun σ H Z I R p pins s J => h.run pins s σ H R J (a σ H Z I R p)
end

/-! ### contexts and names -/
structure CxF (X : Cx) (N : List Str) (sc : Scope) (k : Nat) : Prop where
  hN : X.N = N
  hsc : X.env.scope = sc
  calm : X.calm = true
  nd : N.Nodup
  room : Room k X.A
  fn : ∀ x, X.fn x = true
structure Nm (X : Cx) (i : Nat) (x : Str) : Prop where
  hN : X.N[i]? = some x
  vis : Vis X.env.scope x
  d1 : (x == ("__debug__" : Str)) = false
  d2 : (x == ("__classdict__" : Str)) = false
structure Lc (X : Cx) (i : Nat) (x : Str) : Prop where
  hN : X.N[i]? = some x
  nd : X.N.Nodup
  loc : Loc X.env.scope x
  fn : X.fn x = true ∨ X.env.scope.names.lookup x = some .local
structure Gn (X : Cx) (x : Str) : Prop where
  gl : Gl X x
  d1 : (x == ("__debug__" : Str)) = false
/-- a built-in's name -/
structure Bn (X : Cx) (x : Str) : Prop where
  gl : Gl X x
  mg : X.mg x = none
  d1 : (x == ("__debug__" : Str)) = false
  n1 : x ≠ "__name__"
def okName (x : Str) : Bool := !(x == ("__debug__" : Str)) && (!(x == ("__classdict__" : Str)) && !decide (x = "__name__"))
def visB (sc : Scope) (x : Str) : Bool := match sc.names.lookup x with
  | some .local => true
  | some .cell => true
  | some .free => true
  | _ => false
def locB (sc : Scope) (x : Str) : Bool := match sc.names.lookup x with
  | some .local => true
  | _ => false
def locC (sc : Scope) (x : Str) : Bool := match sc.names.lookup x with
  | some .local => true
  | some .cell => true
  | _ => false
def glB (sc : Scope) (x : Str) : Bool := match sc.names.lookup x with
  | some .globalImplicit => true
  | _ => false
theorem visB_ok {sc : Scope} {x : Str} (h : visB sc x = true) : Vis sc x := by
  unfold visB at h
  unfold Vis
  split at h <;> simp_all
theorem locB_ok {sc : Scope} {x : Str} (h : locB sc x = true) : sc.names.lookup x = some .local := by
  unfold locB at h
  split at h <;> simp_all
theorem locC_ok {sc : Scope} {x : Str} (h : locC sc x = true) : L2.Loc sc x := by
  unfold locC at h
  unfold L2.Loc
  split at h <;> simp_all
theorem glB_ok {sc : Scope} {x : Str} (h : glB sc x = true) : sc.names.lookup x = some .globalImplicit := by
  unfold glB at h
  split at h <;> simp_all
theorem okName_ok {x : Str} (h : okName x = true) : (x == ("__debug__" : Str)) = false ∧ (x == ("__classdict__" : Str)) = false ∧ x ≠ "__name__" := by
  unfold okName at h
  simp only [Bool.and_eq_true, Bool.not_eq_true', decide_eq_false_iff_not] at h
  exact h
section
variable {X : Cx} {N : List Str} {sc : Scope} {k i : Nat} {x : Str}
theorem CxF.nm (F : CxF X N sc k) (h : (decide (N[i]? = some x) && (visB sc x && okName x)) = true) : Nm X i x := by
  simp only [Bool.and_eq_true, decide_eq_true_eq] at h
  obtain ⟨h1, h2, h3⟩ := h
  have q := okName_ok h3
  exact ⟨by rw [F.hN]; exact h1, by rw [F.hsc]; exact visB_ok h2, q.1, q.2.1⟩
theorem CxF.lc (F : CxF X N sc k) (h : (decide (N[i]? = some x) && locC sc x) = true) : Lc X i x := by
  simp only [Bool.and_eq_true, decide_eq_true_eq] at h
  exact ⟨by rw [F.hN]; exact h.1, by rw [F.hN]; exact F.nd, by rw [F.hsc]; exact locC_ok h.2, .inl (F.fn x)⟩
theorem CxF.gn (F : CxF X N sc k) (h : (glB sc x && okName x) = true) : Gn X x := by
  simp only [Bool.and_eq_true] at h
  exact ⟨by show X.env.scope.names.lookup x = _; rw [F.hsc]; exact glB_ok h.1, (okName_ok h.2).1⟩
theorem CxF.bn (F : CxF X N sc k) (h : (glB sc x && okName x) = true) (m : X.mg x = none) : Bn X x := by
  simp only [Bool.and_eq_true] at h
  exact ⟨by show X.env.scope.names.lookup x = _; rw [F.hsc]; exact glB_ok h.1, m, (okName_ok h.2).1, (okName_ok h.2).2.2⟩
end

/-! ### blocks of comprehensions -/
theorem relabel_look {env : Env} {x : Str} {kd : NameKind} (hk : kd ≠ .free) : ∀ {names : List (Str × NameKind)}, names.lookup x = some kd →
    (names.map fun (n, k) => if (k == NameKind.free && env.scope.kind == .function && env.kindOf n == some .cell) then (n, NameKind.cell) else (n, k)).lookup x = some kd
  | [], h => by simp at h
  | (n, k) :: r, h => by
    have ih := @relabel_look env x kd hk r
    show List.lookup x ((if (k == NameKind.free && env.scope.kind == .function && env.kindOf n == some .cell) = true then (n, NameKind.cell) else (n, k)) :: _) = _
    cases hx : x == n with
    | true =>
      simp only [List.lookup_cons, hx] at h
      cases h
      have : (kd == NameKind.free) = false := by simpa using hk
      simp [List.lookup_cons, hx, this]
    | false =>
      simp only [List.lookup_cons, hx] at h
      by_cases hc : (k == NameKind.free && env.scope.kind == .function && env.kindOf n == some .cell) = true
      · rw [if_pos hc]; simp only [List.lookup_cons, hx]; exact ih h
      · rw [if_neg hc]; simp only [List.lookup_cons, hx]; exact ih h
theorem relabel_free {env : Env} {x : Str} : ∀ {names : List (Str × NameKind)}, names.lookup x = some .free →
    (names.map fun (n, k) => if (k == NameKind.free && env.scope.kind == .function && env.kindOf n == some .cell) then (n, NameKind.cell) else (n, k)).lookup x = some .free ∨
    (names.map fun (n, k) => if (k == NameKind.free && env.scope.kind == .function && env.kindOf n == some .cell) then (n, NameKind.cell) else (n, k)).lookup x = some .cell
  | [], h => by simp at h
  | (n, k) :: r, h => by
    have ih := @relabel_free env x r
    show List.lookup x ((if (k == NameKind.free && env.scope.kind == .function && env.kindOf n == some .cell) = true then (n, NameKind.cell) else (n, k)) :: _) = _ ∨ List.lookup x ((if (k == NameKind.free && env.scope.kind == .function && env.kindOf n == some .cell) = true then (n, NameKind.cell) else (n, k)) :: _) = _
    cases hx : x == n with
    | true =>
      simp only [List.lookup_cons, hx] at h
      cases h
      by_cases hc : (NameKind.free == NameKind.free && env.scope.kind == .function && env.kindOf n == some .cell) = true
      · rw [if_pos hc]; simp [List.lookup_cons, hx]
      · rw [if_neg hc]; simp [List.lookup_cons, hx]
    | false =>
      simp only [List.lookup_cons, hx] at h
      by_cases hc : (k == NameKind.free && env.scope.kind == .function && env.kindOf n == some .cell) = true
      · rw [if_pos hc]; simp only [List.lookup_cons, hx]; exact ih h
      · rw [if_neg hc]; simp only [List.lookup_cons, hx]; exact ih h
section
variable {X : Cx} {N : List Str} {sc scope : Scope} {k i : Nat} {x : Str} {s : Shared} {H : Hp} {Cm : Addr} {cl : List (Str × Addr)} {fp : List Addr}
abbrev bk (X : Cx) (scope : Scope) (s : Shared) (H : Hp) (Cm : Addr) (cl : List (Str × Addr)) (fp : List Addr) : Cx := X.blk s H scope (compEnvC scope cl Cm X.env) fp
theorem CxF.ok (F : CxF X N sc k) {own : List (Str × Nat)} (h : blkC N sc scope own = true) : BlkOk X.N X.env.scope scope own := by
  rw [F.hN, F.hsc]
  exact blkOk_by h
theorem Nm.blk (n : Nm X i x) (h : visB scope x = true) : Nm (bk X scope s H Cm cl fp) i x := by
  refine ⟨n.hN, ?_, n.d1, n.d2⟩
  show Vis (relabel scope X.env) x
  rcases visB_ok h with h | h | h
  · exact .inl (relabel_look (by decide) h)
  · exact .inr (.inl (relabel_look (by decide) h))
  · rcases relabel_free (env := X.env) h with z | z
    · exact .inr (.inr z)
    · exact .inr (.inl z)
theorem CxF.lcB (F : CxF X N sc k) (h : (decide (N[i]? = some x) && locB scope x) = true) : Lc (bk X scope s H Cm cl fp) i x := by
  simp only [Bool.and_eq_true, decide_eq_true_eq] at h
  have q : (relabel scope X.env).names.lookup x = some .local := relabel_look (by decide) (locB_ok h.2)
  exact ⟨by show X.N[i]? = _; rw [F.hN]; exact h.1, by show X.N.Nodup; rw [F.hN]; exact F.nd, .inl q, .inr q⟩
theorem CxF.nmB (F : CxF X N sc k) (h : (decide (N[i]? = some x) && (locB scope x && okName x)) = true) : Nm (bk X scope s H Cm cl fp) i x := by
  simp only [Bool.and_eq_true, decide_eq_true_eq] at h
  have q : (relabel scope X.env).names.lookup x = some .local := relabel_look (by decide) (locB_ok h.2.1)
  have z := okName_ok h.2.2
  exact ⟨by show X.N[i]? = _; rw [F.hN]; exact h.1, .inl q, z.1, z.2.1⟩
theorem Gn.blk (n : Gn X x) (h : glB scope x = true) : Gn (bk X scope s H Cm cl fp) x :=
  ⟨relabel_look (by decide) (glB_ok h), n.d1⟩
theorem gnB (h : (glB scope x && okName x) = true) : Gn (bk X scope s H Cm cl fp) x := by
  simp only [Bool.and_eq_true] at h
  exact ⟨relabel_look (by decide) (glB_ok h.1), (okName_ok h.2).1⟩
theorem bnB (h : (glB scope x && okName x) = true) (m : X.mg x = none) : Bn (bk X scope s H Cm cl fp) x := by
  simp only [Bool.and_eq_true] at h
  exact ⟨relabel_look (by decide) (glB_ok h.1), m, (okName_ok h.2).1, (okName_ok h.2).2.2⟩
end
end AL
/-! The layer's rules over the text: expressions. -/
namespace AL
open PySem PySem.Spec L2

section
variable {X : Cx} {C : Ct} {g g' : Gm} {e a b c : Expr} {es : List Expr} {pos p : Pos} {Q : Av → Gm → Prop} {QT : Bool → Gm → Prop} {x : Str}
/-! ### names, constants -/
theorem ee_im {i : Nat} {d : PyData} (n : Nm X i x) (h : g[i]? = some (.im d)) (q : Q (.d d) g) : EE X C (.Name x pos) g Q := EE.of (pe_var n.hN n.vis n.d1 n.d2) (ae_im h q)
theorem ee_ls {i : Nat} {w : Option Nat} {ds : List PyData} (n : Nm X i x) (h : g[i]? = some (.ls w ds)) (q : Q (.o i) g) : EE X C (.Name x pos) g Q := EE.of (pe_var n.hN n.vis n.d1 n.d2) (ae_ls h q)
theorem ee_vl {i : Nat} {v : V} (n : Nm X i x) (h : g[i]? = some (.vl v)) (q : Q (.v v) g) : EE X C (.Name x pos) g Q := EE.of (pe_var n.hN n.vis n.d1 n.d2) (ae_vl h q)
/-- a module's whole number -/
theorem ee_gi {i : Int} {t : Tok} (n : Gn X x) (m : X.mg x = some (.int i t)) (q : Q (.d (.int i)) g) : EE X C (.Name x pos) g Q := EE.of (pe_glob (v := .int i) n.gl m ⟨t, rfl⟩ n.d1) (ae_cd (fun _ => .int i) q)
/-- a module's def, class, object -/
theorem ee_gr {f : Addr} (n : Gn X x) (m : X.mg x = some (.ref f)) (q : Q (.v (.ref f)) g) : EE X C (.Name x pos) g Q := EE.of (pe_glob (v := .ref f) n.gl m rfl n.d1) (ae_cv q)
/-- a built-in class -/
theorem ee_ty {T : String} (n : Bn X x) (hv : bootBuiltins x = some (.type T)) (q : Q (.v (.ty T)) g) : EE X C (.Name x pos) g Q := EE.of (pe_bltn (v := .ty T) n.gl n.mg hv rfl n.n1 n.d1) (ae_cv q)
theorem ee_int {i : Int} {j : Nat} (q : Q (.d (.int i)) g) : EE X C (.Constant (.int i) j pos) g Q := EE.of pe_int (ae_cd (fun _ => .int i) q)
theorem ee_bl {i : Bool} {j : Nat} (q : Q (.d (.bool i)) g) : EE X C (.Constant (.bool i) j pos) g Q := EE.of pe_bl (ae_cd (fun _ => .bl i) q)
theorem ee_non {j : Nat} (q : Q (.d .none) g) : EE X C (.Constant .none j pos) g Q := EE.of pe_non (ae_cd (fun _ => .non) q)
theorem ee_str {s : Str} {j : Nat} (q : Q (.d (.str s)) g) : EE X C (.Constant (.str s) j pos) g Q := EE.of pe_str (ae_cd (fun _ => .str s) q)

/-! ### operators -/
abbrev rAddA (K : PySem.W.Frag) : R2 := fun x y H P => (fun x y H P => rI0 (fun i j => .int (i + j)) x y H P ∨ rCatA K x y H P) x y H P ∨ rCat x y H P
theorem op_addA : OpR X (binaryOp .Add) (rAddA X.K) := OpR.or (OpR.or op_add op_catA) op_cat
theorem ee_add (h : EE X C a g fun x g1 => EE X C b g1 fun y g2 => RA X.K C (rAddA X.K) x y g2 Q) : EE X C (.BinOp a .Add b pos) g Q := EE.of (pe_op op_addA pe_t pe_t) (ae_op h)
theorem ee_sub (h : EE X C a g fun x g1 => EE X C b g1 fun y g2 => RA X.K C (rI0 fun i j => .int (i - j)) x y g2 Q) : EE X C (.BinOp a .Sub b pos) g Q := EE.of (pe_op op_sub pe_t pe_t) (ae_op h)
theorem ee_mul (h : EE X C a g fun x g1 => EE X C b g1 fun y g2 => RA X.K C (fun x y H P => rI CMulW (fun i j => .int (i * j)) x y H P ∨ rI CMul (fun i j => .int (i * j)) x y H P) x y g2 Q) : EE X C (.BinOp a .Mult b pos) g Q := EE.of (pe_op (OpR.or op_mulW op_mul) pe_t pe_t) (ae_op h)
theorem ee_fdiv (h : EE X C a g fun x g1 => EE X C b g1 fun y g2 => RA X.K C (rI CDivW fun i j => .int (i / j)) x y g2 Q) : EE X C (.BinOp a .FloorDiv b pos) g Q := EE.of (pe_op op_fdivW pe_t pe_t) (ae_op h)
theorem ee_mod (h : EE X C a g fun x g1 => EE X C b g1 fun y g2 => RA X.K C (rI (fun _ j => 0 < j) fun i j => .int (i % j)) x y g2 Q) : EE X C (.BinOp a .Mod b pos) g Q := EE.of (pe_op op_mod pe_t pe_t) (ae_op h)
theorem ee_pow (h : EE X C a g fun x g1 => EE X C b g1 fun y g2 => RA X.K C (rI CPow fun i j => .int (i ^ j.toNat)) x y g2 Q) : EE X C (.BinOp a .Pow b pos) g Q := EE.of (pe_op op_pow pe_t pe_t) (ae_op h)
theorem ee_neg (h : EE X C a g fun x g1 => ∃ i, x = .d (.int i) ∧ Q (.d (.int (-i))) g1) : EE X C (.UnaryOp .USub a pos) g Q := EE.of (pe_un un_neg pe_t) (ae_un (fun _ i => .int _) h)
theorem ra_add {i j : Int} {K : PySem.W.Frag} (q : Q (.d (.int (i + j))) g) : RA K C (rAddA K) (.d (.int i)) (.d (.int j)) g Q := ra_or1 (ra_or1 (ra_I0 (fun _ => .int _) q))
theorem ra_sub {i j : Int} {K : PySem.W.Frag} (q : Q (.d (.int (i - j))) g) : RA K C (rI0 fun i j => .int (i - j)) (.d (.int i)) (.d (.int j)) g Q := ra_I0 (fun _ => .int _) q
theorem ra_mul {i j : Int} {K : PySem.W.Frag} (hc : CMulW i j) (q : Q (.d (.int (i * j))) g) : RA K C (fun x y H P => rI CMulW (fun i j => .int (i * j)) x y H P ∨ rI CMul (fun i j => .int (i * j)) x y H P) (.d (.int i)) (.d (.int j)) g Q := ra_or1 (ra_I hc (fun _ => .int _) q)
theorem ra_mulS {i j : Int} {K : PySem.W.Frag} (hc : CMul i j) (q : Q (.d (.int (i * j))) g) : RA K C (fun x y H P => rI CMulW (fun i j => .int (i * j)) x y H P ∨ rI CMul (fun i j => .int (i * j)) x y H P) (.d (.int i)) (.d (.int j)) g Q := ra_or2 (ra_I hc (fun _ => .int _) q)
theorem ra_fdiv {i j : Int} {K : PySem.W.Frag} (hc : CDivW i j) (q : Q (.d (.int (i / j))) g) : RA K C (rI CDivW fun i j => .int (i / j)) (.d (.int i)) (.d (.int j)) g Q := ra_I hc (fun _ => .int _) q
theorem ra_mod {i j : Int} {K : PySem.W.Frag} (hc : 0 < j) (q : Q (.d (.int (i % j))) g) : RA K C (rI (fun _ j => 0 < j) fun i j => .int (i % j)) (.d (.int i)) (.d (.int j)) g Q := ra_I hc (fun _ => .int _) q
theorem ra_pow {i j : Int} {K : PySem.W.Frag} (hc : CPow i j) (q : Q (.d (.int (i ^ j.toNat))) g) : RA K C (rI CPow fun i j => .int (i ^ j.toNat)) (.d (.int i)) (.d (.int j)) g Q := ra_I hc (fun _ => .int _) q
/-- t + u, tuples -/
theorem ra_catT {ds es : List PyData} {K : PySem.W.Frag} (h3 : ds.length + es.length ≤ 1000000) (q : Q (.d (.tuple (ds ++ es))) g) : RA K C (rAddA K) (.d (.tuple ds)) (.d (.tuple es)) g Q := ra_or1 (ra_or2 fun σ H Z v w I hx hy P p => by
  have hx' : Dd K Z v (.tuple ds) := hx
  have hy' : Dd K Z w (.tuple es) := hy
  cases hx' with
  | @tup a xs _ a1 a2 =>
    cases hy' with
    | @tup b ys _ b1 b2 =>
      refine ⟨a, b, xs, ys, rfl, rfl, Same.seqT I.fz a1, Same.seqT I.fz b1, ?_, ?_, ?_, ?_⟩
      · rw [a2.length, b2.length]; exact Nat.le_trans h3 (by decide)
      · intro z; subst z; cases a2; exact p _ _ _ (.d (.tuple ([] ++ es))) g I (Same.refl _) (Dd.tup b1 b2) q
      · intro _ z; subst z; cases b2; rw [List.append_nil] at q; exact p _ _ _ (.d (.tuple ds)) g I (Same.refl _) (Dd.tup a1 a2) q
      · intro _ _ p' hp
        obtain ⟨I2, s2, _⟩ := I.newF (o := .tup (xs ++ ys)) hp
        exact p _ _ _ (.d (.tuple (ds ++ es))) g I2 s2 (Dd.tup (SqT.of upd_same) ((a2.append b2).mono s2)) q)

/-! ### comparisons -/
theorem ee_lt (h : EE X C a g fun x g1 => EE X C b g1 fun y g2 => RA X.K C (rI0 fun i j => .bl (decide (i < j))) x y g2 Q) : EE X C (.Compare a [.Lt] [b] pos) g Q := EE.of (pe_cmpR op_lt pe_t pe_t (nobehind _ (by decide) (by decide))) (ae_op h)
theorem ee_le (h : EE X C a g fun x g1 => EE X C b g1 fun y g2 => RA X.K C (rI0 fun i j => .bl (decide (i ≤ j))) x y g2 Q) : EE X C (.Compare a [.LtE] [b] pos) g Q := EE.of (pe_cmpR op_le pe_t pe_t (nobehind _ (by decide) (by decide))) (ae_op h)
theorem ee_gt (h : EE X C a g fun x g1 => EE X C b g1 fun y g2 => RA X.K C (rI0 fun i j => .bl (decide (j < i))) x y g2 Q) : EE X C (.Compare a [.Gt] [b] pos) g Q := EE.of (pe_cmpR op_gt pe_t pe_t (nobehind _ (by decide) (by decide))) (ae_op h)
theorem ee_ge (h : EE X C a g fun x g1 => EE X C b g1 fun y g2 => RA X.K C (rI0 fun i j => .bl (decide (j ≤ i))) x y g2 Q) : EE X C (.Compare a [.GtE] [b] pos) g Q := EE.of (pe_cmpR op_ge pe_t pe_t (nobehind _ (by decide) (by decide))) (ae_op h)
theorem ee_eq {k : Nat} (hr : Room k X.A) (h : EE X C a g fun x g1 => EE X C b g1 fun y g2 => RA X.K C (rEqD X.K) x y g2 Q) : EE X C (.Compare a [.Eq] [b] pos) g Q := EE.of (pe_cmpR (op_eqD hr.units) pe_t pe_t (nobehind _ (by decide) (by decide))) (ae_op h)
theorem ee_ne {k : Nat} (hr : Room k X.A) (h : EE X C a g fun x g1 => EE X C b g1 fun y g2 => RA X.K C (rNeD X.K) x y g2 Q) : EE X C (.Compare a [.NotEq] [b] pos) g Q := EE.of (pe_cmpR (op_neD hr.units) pe_t pe_t (nobehind _ (by decide) (by decide))) (ae_op h)
theorem ra_B0 {f : Int → Int → Bool} {i j : Int} {K : PySem.W.Frag} (q : Q (.d (.bool (f i j))) g) : RA K C (rI0 fun i j => .bl (f i j)) (.d (.int i)) (.d (.int j)) g Q := ra_I0 (fun _ => .bl _) q
theorem ee_isN {j : Nat} {p' : Pos} (h : EE X C a g fun x g1 => ∃ d, x = .d d ∧ Q (.d (.bool (match d with | .none => true | _ => false))) g1) : EE X C (.Compare a [.Is] [.Constant .none j p'] pos) g Q := EE.of (pe_cmp (pc_isN pe_t) rfl) (ae_isN h)
theorem ee_notN {j : Nat} {p' : Pos} (h : EE X C a g fun x g1 => ∃ d, x = .d d ∧ Q (.d (.bool (match d with | .none => false | _ => true))) g1) : EE X C (.Compare a [.IsNot] [.Constant .none j p'] pos) g Q := EE.of (pe_cmp (pc_notN pe_t) rfl) (ae_notN h)
/-- data on both sides; an owned list may stand on one -/
def dOf (g : Gm) : Av → PyData
  | .d d => d
  | .o j => match g[j]? with
    | some (.ls _ ds) => .list ds
    | _ => .none
  | .v _ => .none
def isDO (g : Gm) : Av → Bool
  | .d _ => true
  | .o j => match g[j]? with
    | some (.ls _ _) => true
    | _ => false
  | .v _ => false
theorem Ok.dp {K : PySem.W.Frag} {σ : St} {H Z : Hp} (I : Ok K C g σ H Z) : ∀ {x : Av} {v : V}, AvOk K σ Z x v → isDO g x = true → (dOf g x).canLay0 = true → Dp K H v (dOf g x)
  | .d d, v, h, _, n => Dd.dp I.fz d v n h
  | .o j, v, h, k, n => by
    have k' : (match g[j]? with
      | some (.ls _ _) => true
      | _ => false) = true := k
    have e : ∃ w ds, g[j]? = some (.ls w ds) := by
      split at k'
      · rename_i w ds e
        exact ⟨w, ds, e⟩
      · cases k'
    obtain ⟨w, ds, e⟩ := e
    obtain ⟨a, xs, rfl, h2, h3, h4, h5⟩ := I.own e h
    have q : dOf g (.o j) = .list ds := by
      show (match g[j]? with
        | some (.ls _ ds) => PyData.list ds
        | _ => .none) = .list ds
      rw [e]
    rw [q] at n ⊢
    exact .lst (SqL.of h2) (DdA.dp I.fz ds xs (by simpa [PyData.canLay0] using n) h4)
theorem ra_eq {x y : Av} {K : PySem.W.Frag} (h1 : isDO g x = true) (h2 : isDO g y = true) (s1 : SeqAt.shaped (dOf g x) = true) (s2 : SeqAt.shaped (dOf g y) = true) (q : Q (.d (.bool (PyData.eqv (dOf g x) (dOf g y)))) g) : RA K C (rEqD K) x y g Q := fun σ H Z v w I hx hy P p =>
  ⟨_, _, I.dp hx h1 (SeqAt.canLay_of_shaped s1), I.dp hy h2 (SeqAt.canLay_of_shaped s2), s1, s2, p _ H Z (.d (.bool _)) g I (Same.refl _) (Dd.bl _) q⟩
theorem ra_ne {x y : Av} {K : PySem.W.Frag} (h1 : isDO g x = true) (h2 : isDO g y = true) (s1 : SeqAt.shaped (dOf g x) = true) (s2 : SeqAt.shaped (dOf g y) = true) (q : Q (.d (.bool (!PyData.eqv (dOf g x) (dOf g y)))) g) : RA K C (rNeD K) x y g Q := fun σ H Z v w I hx hy P p =>
  ⟨_, _, I.dp hx h1 (SeqAt.canLay_of_shaped s1), I.dp hy h2 (SeqAt.canLay_of_shaped s2), s1, s2, p _ H Z (.d (.bool _)) g I (Same.refl _) (Dd.bl _) q⟩
/-- a <= b <= c, a < b < c .. of whole numbers -/
theorem ee_chainLL (h : EE X C a g fun x g1 => EE X C b g1 fun y g2 => ∃ i j, x = .d (.int i) ∧ y = .d (.int j) ∧ BR (decide (i ≤ j)) (EE X C c g2 fun z g3 => ∃ k, z = .d (.int k) ∧ Q (.d (.bool (decide (j ≤ k)))) g3) (Q (.d (.bool false)) g2)) (hm : lastMarks [.LtE, .LtE] [b, c] = false := by with_unfolding_all rfl) : EE X C (.Compare a [.LtE, .LtE] [b, c] pos) g Q :=
  EE.of (pe_chain op_le op_le pe_t pe_t pe_t hm) (ae_chain (h.mono fun x g1 h1 => AE.mono h1 fun y g2 h2 => by
    obtain ⟨i, j, rfl, rfl, q⟩ := h2
    refine ra_B0 ⟨_, rfl, q.1.comp id |> fun f => ⟨fun z => AE.mono (f z) fun z g3 h3 => ?_, q.2⟩⟩
    obtain ⟨k, rfl, q3⟩ := h3
    exact ra_B0 q3))
theorem ee_chainLt (h : EE X C a g fun x g1 => EE X C b g1 fun y g2 => ∃ i j, x = .d (.int i) ∧ y = .d (.int j) ∧ BR (decide (i ≤ j)) (EE X C c g2 fun z g3 => ∃ k, z = .d (.int k) ∧ Q (.d (.bool (decide (j < k)))) g3) (Q (.d (.bool false)) g2)) (hm : lastMarks [.LtE, .Lt] [b, c] = false := by with_unfolding_all rfl) : EE X C (.Compare a [.LtE, .Lt] [b, c] pos) g Q :=
  EE.of (pe_chain op_le op_lt pe_t pe_t pe_t hm) (ae_chain (h.mono fun x g1 h1 => AE.mono h1 fun y g2 h2 => by
    obtain ⟨i, j, rfl, rfl, q⟩ := h2
    refine ra_B0 ⟨_, rfl, q.1.comp id |> fun f => ⟨fun z => AE.mono (f z) fun z g3 h3 => ?_, q.2⟩⟩
    obtain ⟨k, rfl, q3⟩ := h3
    exact ra_B0 q3))

/-! ### and, or, not, if -/
theorem ee_one {op : BoolOp} (h : EE X C a g Q) : EE X C (.BoolOp op [a] pos) g Q := EE.of (pe_one pe_t) h
theorem ee_and (h : EE X C a g fun x g1 => ∃ i, x = .d (.bool i) ∧ BR i (EE X C (.BoolOp .And (b :: es) pos) g1 Q) (Q (.d (.bool false)) g1)) : EE X C (.BoolOp .And (a :: b :: es) pos) g Q := EE.of (pe_and pe_t pe_t) (ae_andV h)
theorem ee_or (h : EE X C a g fun x g1 => ∃ i, x = .d (.bool i) ∧ BR i (Q (.d (.bool true)) g1) (EE X C (.BoolOp .Or (b :: es) pos) g1 Q)) : EE X C (.BoolOp .Or (a :: b :: es) pos) g Q := EE.of (pe_or pe_t pe_t) (ae_orV h)
theorem ee_not (h : EE X C a g fun x g1 => ∃ i, x = .d (.bool i) ∧ Q (.d (.bool (!i))) g1) : EE X C (.UnaryOp .Not a pos) g Q := EE.of (pe_not pe_t) (ae_notV h)
theorem ee_if (h : ET X C a g fun i g1 => BR i (EE X C b g1 Q) (EE X C c g1 Q)) : EE X C (.IfExp a b c pos) g Q := EE.of (pe_ifExp pt_t pe_t pe_t) (ae_if h)
/-- comparisons as tests -/
theorem et_cmpR {op : CmpOp} {r : R2} (ho : OpR X (compareOp op) r) (hm : behindInMarks op b = false) (h : EE X C a g fun x g1 => EE X C b g1 fun y g2 => RA X.K C r x y g2 fun z g3 => ∃ i, z = .d (.bool i) ∧ QT i g3) : ET X C (.Compare a [op] [b] pos) g QT := ET.of (pt_cmpR ho pe_t pe_t hm) (at_test (ae_op h))
theorem et_lt (h : EE X C a g fun x g1 => EE X C b g1 fun y g2 => RA X.K C (rI0 fun i j => .bl (decide (i < j))) x y g2 fun z g3 => ∃ i, z = .d (.bool i) ∧ QT i g3) : ET X C (.Compare a [.Lt] [b] pos) g QT := et_cmpR op_lt (nobehind _ (by decide) (by decide)) h
theorem et_le (h : EE X C a g fun x g1 => EE X C b g1 fun y g2 => RA X.K C (rI0 fun i j => .bl (decide (i ≤ j))) x y g2 fun z g3 => ∃ i, z = .d (.bool i) ∧ QT i g3) : ET X C (.Compare a [.LtE] [b] pos) g QT := et_cmpR op_le (nobehind _ (by decide) (by decide)) h
theorem et_gt (h : EE X C a g fun x g1 => EE X C b g1 fun y g2 => RA X.K C (rI0 fun i j => .bl (decide (j < i))) x y g2 fun z g3 => ∃ i, z = .d (.bool i) ∧ QT i g3) : ET X C (.Compare a [.Gt] [b] pos) g QT := et_cmpR op_gt (nobehind _ (by decide) (by decide)) h
theorem et_ge (h : EE X C a g fun x g1 => EE X C b g1 fun y g2 => RA X.K C (rI0 fun i j => .bl (decide (j ≤ i))) x y g2 fun z g3 => ∃ i, z = .d (.bool i) ∧ QT i g3) : ET X C (.Compare a [.GtE] [b] pos) g QT := et_cmpR op_ge (nobehind _ (by decide) (by decide)) h
theorem et_eq {k : Nat} (hr : Room k X.A) (h : EE X C a g fun x g1 => EE X C b g1 fun y g2 => RA X.K C (rEqD X.K) x y g2 fun z g3 => ∃ i, z = .d (.bool i) ∧ QT i g3) : ET X C (.Compare a [.Eq] [b] pos) g QT := et_cmpR (op_eqD hr.units) (nobehind _ (by decide) (by decide)) h
theorem et_ne {k : Nat} (hr : Room k X.A) (h : EE X C a g fun x g1 => EE X C b g1 fun y g2 => RA X.K C (rNeD X.K) x y g2 fun z g3 => ∃ i, z = .d (.bool i) ∧ QT i g3) : ET X C (.Compare a [.NotEq] [b] pos) g QT := et_cmpR (op_neD hr.units) (nobehind _ (by decide) (by decide)) h
theorem et_isN {j : Nat} {p' : Pos} (h : EE X C a g fun x g1 => ∃ d, x = .d d ∧ QT (match d with | .none => true | _ => false) g1) : ET X C (.Compare a [.Is] [.Constant .none j p'] pos) g QT := ET.of (pt_cmp (pc_isN pe_t) rfl) (at_B (ae_isN (h.mono fun x g1 ⟨d, e, q⟩ => ⟨d, e, _, rfl, q⟩)))
theorem et_notN {j : Nat} {p' : Pos} (h : EE X C a g fun x g1 => ∃ d, x = .d d ∧ QT (match d with | .none => false | _ => true) g1) : ET X C (.Compare a [.IsNot] [.Constant .none j p'] pos) g QT := ET.of (pt_cmp (pc_notN pe_t) rfl) (at_B (ae_notN (h.mono fun x g1 ⟨d, e, q⟩ => ⟨d, e, _, rfl, q⟩)))
theorem et_chainLL (h : EE X C a g fun x g1 => EE X C b g1 fun y g2 => ∃ i j, x = .d (.int i) ∧ y = .d (.int j) ∧ BR (decide (i ≤ j)) (EE X C c g2 fun z g3 => ∃ k, z = .d (.int k) ∧ QT (decide (j ≤ k)) g3) (QT false g2)) (hm : lastMarks [.LtE, .LtE] [b, c] = false := by with_unfolding_all rfl) : ET X C (.Compare a [.LtE, .LtE] [b, c] pos) g QT :=
  ET.of (pt_chain op_le op_le pe_t pe_t pe_t hm) (at_test (ae_chain (h.mono fun x g1 h1 => AE.mono h1 fun y g2 h2 => by
    obtain ⟨i, j, rfl, rfl, q⟩ := h2
    refine ra_B0 ⟨_, rfl, fun z => AE.mono (q.1 z) fun z g3 h3 => ?_, fun z => ⟨_, rfl, q.2 z⟩⟩
    obtain ⟨k, rfl, q3⟩ := h3
    exact ra_B0 ⟨_, rfl, q3⟩)))
theorem et_chainLt (h : EE X C a g fun x g1 => EE X C b g1 fun y g2 => ∃ i j, x = .d (.int i) ∧ y = .d (.int j) ∧ BR (decide (i ≤ j)) (EE X C c g2 fun z g3 => ∃ k, z = .d (.int k) ∧ QT (decide (j < k)) g3) (QT false g2)) (hm : lastMarks [.LtE, .Lt] [b, c] = false := by with_unfolding_all rfl) : ET X C (.Compare a [.LtE, .Lt] [b, c] pos) g QT :=
  ET.of (pt_chain op_le op_lt pe_t pe_t pe_t hm) (at_test (ae_chain (h.mono fun x g1 h1 => AE.mono h1 fun y g2 h2 => by
    obtain ⟨i, j, rfl, rfl, q⟩ := h2
    refine ra_B0 ⟨_, rfl, fun z => AE.mono (q.1 z) fun z g3 h3 => ?_, fun z => ⟨_, rfl, q.2 z⟩⟩
    obtain ⟨k, rfl, q3⟩ := h3
    exact ra_B0 ⟨_, rfl, q3⟩)))
end
end AL
/-! The layer's rules over the text: tests, displays, subscripts, calls. -/
namespace AL
open PySem PySem.Spec L2

section
variable {X : Cx} {C : Ct} {g g' : Gm} {e a b c : Expr} {es : List Expr} {pos p : Pos} {Q : Av → Gm → Prop} {QT : Bool → Gm → Prop} {QL : List PyData → Gm → Prop} {QA : List Av → Gm → Prop} {x : Str}
/-! ### tests -/
theorem et_val (h : EE X C e g fun x g1 => ∃ i, x = .d (.bool i) ∧ QT i g1) (he : ∀ whole, isTrue e X.env whole = (do let v ← whole; standAt e.pos; holding [v] (truthy v)) := by intro _; rfl) : ET X C e g QT := ET.of (pt_val pe_t he) (at_B h)
theorem et_not (h : ET X C a g fun i g1 => QT (!i) g1) : ET X C (.UnaryOp .Not a pos) g QT := ET.of (pt_not pt_t) (at_not h)
theorem et_and (h : EW X C (.BoolOp .And es pos) g QT) : ET X C (.BoolOp .And es pos) g QT := ET.of (PW.pt pw_t) h
theorem et_or (h : EW X C (.BoolOp .Or es pos) g QT) : ET X C (.BoolOp .Or es pos) g QT := ET.of (PW.pt pw_t) h
theorem ew_and (h : ET X C a g fun i g1 => BR i (EW X C (.BoolOp .And (b :: es) pos) g1 QT) (QT false g1)) : EW X C (.BoolOp .And (a :: b :: es) pos) g QT := EW.of (pw_and pt_t pw_t) (at_and h)
theorem ew_or (h : ET X C a g fun i g1 => BR i (QT true g1) (EW X C (.BoolOp .Or (b :: es) pos) g1 QT)) : EW X C (.BoolOp .Or (a :: b :: es) pos) g QT := EW.of (pw_or pt_t pw_t) (at_or h)
theorem ew_and1 (h : ET X C a g QT) : EW X C (.BoolOp .And [a] pos) g QT := EW.of (pw_and1 pt_t) h
theorem ew_or1 (h : ET X C a g QT) : EW X C (.BoolOp .Or [a] pos) g QT := EW.of (pw_or1 pt_t) h
theorem ets_nil (q : QT true g) : ETs X C [] g QT := ETs.of pts_nil (fun σ H Z I P p => p true H Z g I (Same.refl _) q)
theorem ets_one (h : ET X C a g QT) : ETs X C [a] g QT := ETs.of (pts_one pt_t) h

/-! ### displays -/
theorem ea_nil (q : QA [] g) : EA X C [] g QA := EA.of pa_nil (aa_nil q)
theorem ea_cons (h : EE X C e g fun x g1 => EA X C es g1 fun xs g2 => QA (x :: xs) g2) (he : starEach (e :: es) X.env = (false, eval e X.env) :: starEach es X.env := by rfl) : EA X C (e :: es) g QA := EA.of (pa_cons pe_t pa_t he) (aa_cons h)
theorem ee_tup {k : Nat} (h : EA X C es g fun xs g1 => ∃ ds g2, Frz xs g1 ds g2 ∧ ds.length ≤ 1000000 ∧ Q (.d (.tuple ds)) g2) : EE X C (.Tuple es k pos) g Q := EE.of (pe_tup pa_t) (ae_tup h)
theorem en_lst (h : EA X C es g fun xs g1 => ∃ ds g2, Frz xs g1 ds g2 ∧ ds.length ≤ 1000000 ∧ QL ds g2) : EN X C (.List es pos) g QL := EN.of (pe_lst pa_t) (an_lst h)
theorem ee_en (h : EN X C e g fun ds g1 => Q (.d (.list ds)) g1) : EE X C e g Q := ae_an h
theorem ee_lst (h : EA X C es g fun xs g1 => ∃ ds g2, Frz xs g1 ds g2 ∧ ds.length ≤ 1000000 ∧ Q (.d (.list ds)) g2) : EE X C (.List es pos) g Q := ee_en (en_lst h)

/-! ### subscripts -/
theorem ee_ix (hs : PlainIx b) (h : EE X C a g fun x g1 => EE X C b g1 fun y g2 => RA X.K C (fun x y H P => rIxL X.K x y H P ∨ rIxT X.K x y H P) x y g2 Q) : EE X C (.Subscript a b pos) g Q := EE.of (pe_ix (IxR.or ix_list ix_tup) pe_t pe_t hs) (ae_op h)
theorem atI_map {K : PySem.W.Frag} {Z : Hp} {ds : List PyData} {vs : List V} {i : Int} {d : PyData} (h : DdA K Z vs ds) (e : atI ds i = some d) : ∃ v, atI vs i = some v ∧ Dd K Z v d := by
  unfold atI at e ⊢
  rw [h.length]
  cases q : ixN ds.length i with
  | none => rw [q] at e; cases e
  | some j =>
    rw [q] at e
    exact h.get e
theorem ra_ixT {ds : List PyData} {i : Int} {d : PyData} {K : PySem.W.Frag} (hi : atI ds i = some d) (q : Q (.d d) g) : RA K C (fun x y H P => rIxL K x y H P ∨ rIxT K x y H P) (.d (.tuple ds)) (.d (.int i)) g Q := ra_or2 fun σ H Z v w I hx hy P p => by
  have hx' : Dd K Z v (.tuple ds) := hx
  cases hy
  cases hx' with
  | @tup a xs _ a1 a2 =>
    obtain ⟨u, e1, e2⟩ := atI_map a2 hi
    exact ⟨a, xs, i, u, rfl, rfl, Same.seqT I.fz a1, e1, p u H Z (.d d) g I (Same.refl _) e2 q⟩
theorem ra_ixL {ds : List PyData} {i : Int} {d : PyData} {K : PySem.W.Frag} (hi : atI ds i = some d) (q : Q (.d d) g) : RA K C (fun x y H P => rIxL K x y H P ∨ rIxT K x y H P) (.d (.list ds)) (.d (.int i)) g Q := ra_or1 fun σ H Z v w I hx hy P p => by
  have hx' : Dd K Z v (.list ds) := hx
  cases hy
  cases hx' with
  | @lst a xs _ a1 a2 =>
    obtain ⟨u, e1, e2⟩ := atI_map a2 hi
    exact ⟨a, xs, i, u, rfl, rfl, SqL.of (I.fz _ _ a1), e1, p u H Z (.d d) g I (Same.refl _) e2 q⟩
theorem ra_ixO {ds : List PyData} {w : Option Nat} {j : Nat} {i : Int} {d : PyData} {K : PySem.W.Frag} (hj : g[j]? = some (.ls w ds)) (hi : atI ds i = some d) (q : Q (.d d) g) : RA K C (fun x y H P => rIxL K x y H P ∨ rIxT K x y H P) (.o j) (.d (.int i)) g Q := ra_or1 fun σ H Z v w' I hx hy P p => by
  cases hy
  obtain ⟨a, xs, rfl, h2, h3, h4, h5⟩ := I.own hj hx
  obtain ⟨u, e1, e2⟩ := atI_map h4 hi
  exact ⟨a, xs, i, u, rfl, rfl, SqL.of h2, e1, p u H Z (.d d) g I (Same.refl _) e2 q⟩
theorem atI_nat' {ds : List PyData} {i : Nat} {d : PyData} (h : ds[i]? = some d) : atI ds (i : Int) = some d := atI_nat h
theorem atI_int {α : Type} {ds : List α} {i : Int} {d : α} (h0 : 0 ≤ i) (h : ds[i.toNat]? = some d) : atI ds i = some d := by
  have := atI_nat (j := i.toNat) h
  rwa [Int.toNat_of_nonneg h0] at this

/-! ### calls -/
inductive Ar where
  | d (d : PyData)
  | v (v : V)
def ArOk (K : PySem.W.Frag) (Z : Hp) : Ar → V → Prop
  | .d d, v => Dd K Z v d
  | .v w, v => v = w
inductive ArsOk (K : PySem.W.Frag) (Z : Hp) : List Ar → List V → Prop
  | nil : ArsOk K Z [] []
  | cons {x : Ar} {v : V} {xs : List Ar} {vs : List V} : ArOk K Z x v → ArsOk K Z xs vs → ArsOk K Z (x :: xs) (v :: vs)
theorem ArsOk.length {K : PySem.W.Frag} {Z : Hp} : ∀ {xs : List Ar} {vs : List V}, ArsOk K Z xs vs → vs.length = xs.length
  | _, _, .nil => rfl
  | _, _, .cons _ t => by simp [t.length]
abbrev Con := List Ar → PyData → Prop
/-- a def read as a function of data: arguments, result; nothing that stood is changed -/
def spR (K : PySem.W.Frag) (n : Nat) (S : Con) : Sp := fun vs H Q _ => vs.length = n ∧ ∃ Z as r, Same Z H ∧ ArsOk K Z as vs ∧ S as r ∧
  ∀ v H' Z', Same H H' → Same Z Z' → Same Z' H' → (∀ (a : Addr) (o : HO), Z' a = some o → Z a = some o ∨ H a = none) → Dd K Z' v r → Q v H'
/-- .. whose result is a new list -/
def spN (K : PySem.W.Frag) (n : Nat) (S : List Ar → List PyData → Prop) : Sp := fun vs H Q _ => vs.length = n ∧ ∃ Z as r, Same Z H ∧ ArsOk K Z as vs ∧ S as r ∧
  ∀ p H' Z' xs, Same H H' → Same Z Z' → Same Z' H' → (∀ (a : Addr) (o : HO), Z' a = some o → Z a = some o ∨ H a = none) → H p = none → H' p = some (.lst xs) → Z' p = none → DdA K Z' xs r → Q (.ref p) H'
/-- .. that changes the list handed in first -/
abbrev ConM := List PyData → List Ar → PyData → List PyData → Prop
def spM (K : PySem.W.Frag) (n : Nat) (S : ConM) : Sp := fun vs H Q _ => vs.length = n ∧ ∃ a vs' Z xs ds as r ds', vs = .ref a :: vs' ∧ H a = some (.lst xs) ∧ Z a = none ∧ Same Z H ∧ DdA K Z xs ds ∧ ArsOk K Z as vs' ∧ S ds as r ds' ∧
  ∀ v H' Z' xs', (∀ (b : Addr) (o : HO), b ≠ a → H b = some o → H' b = some o) → H' a = some (.lst xs') → Same Z Z' → Same Z' H' → Z' a = none → (∀ (b : Addr) (o : HO), Z' b = some o → Z b = some o ∨ H b = none) → DdA K Z' xs' ds' → Dd K Z' v r → Q v H'
structure Callable (P : Program) (w : World) (K : PySem.W.Frag) (mg : Str → Option Value) (base : Heap) (x : Str) (k : Nat) (sp : Sp) : Prop where
  ex : ∃ (f : Addr) (fd : FuncData) (ps : List Str), FnOk P w K mg base CX0 k f fd ps sp ∧ mg x = some (.ref f) ∧ PySem.W.keepIn K (.ref f) = true ∧ Binds K fd ps []
abbrev Cal (X : Cx) (x : Str) (k : Nat) (sp : Sp) : Prop := Callable X.prog X.w X.K X.mg X.base x k sp
theorem Callable.mono {P : Program} {w : World} {K : PySem.W.Frag} {mg : Str → Option Value} {base : Heap} {k k' : Nat} {sp : Sp} (c : Callable P w K mg base x k sp) (h : k ≤ k') : Callable P w K mg base x k' sp := by
  obtain ⟨f, fd, ps, F, r⟩ := c.ex
  exact ⟨f, fd, ps, F.mono h, r⟩
inductive CvA (g : Gm) : List Av → List Ar → Prop
  | nil : CvA g [] []
  | d {d : PyData} {xs : List Av} {as : List Ar} : CvA g xs as → CvA g (.d d :: xs) (.d d :: as)
  | v {v : V} {xs : List Av} {as : List Ar} : CvA g xs as → CvA g (.v v :: xs) (.v v :: as)
theorem CvA.run {K : PySem.W.Frag} {σ : St} {Z : Hp} : ∀ {xs : List Av} {as : List Ar} {vs : List V}, CvA g xs as → AvsOk K σ Z xs vs → ArsOk K Z as vs
  | _, _, _, .nil, .nil => .nil
  | _, _, _, .d h, .cons a t => .cons a (h.run t)
  | _, _, _, .v h, .cons a t => .cons a (h.run t)
theorem AvsOk.length {K : PySem.W.Frag} {σ : St} {Z : Hp} : ∀ {xs : List Av} {vs : List V}, AvsOk K σ Z xs vs → vs.length = xs.length
  | _, _, .nil => rfl
  | _, _, .cons _ t => by simp [t.length]
theorem ee_call {k n : Nat} {S : Con} (c : Cal X x k (spR X.K n S)) (hr : Room k X.A) (n1 : Gn X x) (h : EA X C (e :: es) g fun xs g1 => xs.length = n ∧ ∃ as r, CvA g1 xs as ∧ S as r ∧ Q (.d r) g1)
    (he : starEach (e :: es) X.env = (false, eval e X.env) :: starEach es X.env := by rfl) (hpl : (backTo pos (starEach es X.env)).any (·.1) = false := by rfl) : EE X C (.Call (.Name x p) (e :: es) [] pos) g Q := by
  obtain ⟨f, fd, ps, F, m, kp, B⟩ := c.ex
  refine EE.of (pe_call (dvs := []) (ds := []) (E := E0) F hr n1.gl m kp B .nil pass0 pa_t n1.d1 he hpl) fun σ H Z I P p => ?_
  refine h σ H Z I _ fun vs H1 Z1 xs g1 I1 s1 a1 q1 => ?_
  obtain ⟨hl, as, r, cv, hS, q⟩ := q1
  rw [List.append_nil]
  refine ⟨a1.length.trans hl, Z1, as, r, I1.fz, cv.run a1, hS, fun v H' Z' h1 h2 h3 h4 h5 => ?_⟩
  exact p v H' Z' (.d r) g1 (I1.grow h1 h2 h3 h4) (s1.trans h2) h5 q
theorem en_call {k n : Nat} {S : List Ar → List PyData → Prop} (c : Cal X x k (spN X.K n S)) (hr : Room k X.A) (n1 : Gn X x) (h : EA X C (e :: es) g fun xs g1 => xs.length = n ∧ ∃ as r, CvA g1 xs as ∧ S as r ∧ QL r g1)
    (he : starEach (e :: es) X.env = (false, eval e X.env) :: starEach es X.env := by rfl) (hpl : (backTo pos (starEach es X.env)).any (·.1) = false := by rfl) : EN X C (.Call (.Name x p) (e :: es) [] pos) g QL := by
  obtain ⟨f, fd, ps, F, m, kp, B⟩ := c.ex
  refine EN.of (pe_call (dvs := []) (ds := []) (E := E0) F hr n1.gl m kp B .nil pass0 pa_t n1.d1 he hpl) fun σ H Z I P p => ?_
  refine h σ H Z I _ fun vs H1 Z1 xs g1 I1 s1 a1 q1 => ?_
  obtain ⟨hl, as, r, cv, hS, q⟩ := q1
  rw [List.append_nil]
  refine ⟨a1.length.trans hl, Z1, as, r, I1.fz, cv.run a1, hS, fun t H' Z' xs h1 h2 h3 h4 h5 h6 h7 h8 => ?_⟩
  obtain ⟨m1, m2, m3⟩ := I1.new h5
  exact p t H' Z' r g1 (I1.grow h1 h2 h3 h4) (s1.trans h2) ⟨⟨xs, h6, h8⟩, h7, m2, m3⟩ q
/-- a call that changes the owned list handed in first -/
theorem ee_callM {k n : Nat} {S : ConM} (c : Cal X x k (spM X.K n S)) (hr : Room k X.A) (n1 : Gn X x) (h : EA X C (e :: es) g fun xs g1 => xs.length = n ∧ ∃ j w ds rest as r ds' g2, xs = .o j :: rest ∧ CvA g1 rest as ∧ g1[j]? = some (.ls w ds) ∧ S ds as r ds' ∧ SetE g1 j (.ls w ds') g2 ∧ Q (.d r) g2)
    (he : starEach (e :: es) X.env = (false, eval e X.env) :: starEach es X.env := by rfl) (hpl : (backTo pos (starEach es X.env)).any (·.1) = false := by rfl) : EE X C (.Call (.Name x p) (e :: es) [] pos) g Q := by
  obtain ⟨f, fd, ps, F, m, kp, B⟩ := c.ex
  refine EE.of (pe_call (dvs := []) (ds := []) (E := E0) F hr n1.gl m kp B .nil pass0 pa_t n1.d1 he hpl) fun σ H Z I P p => ?_
  refine h σ H Z I _ fun vs H1 Z1 xs g1 I1 s1 a1 q1 => ?_
  obtain ⟨hl, j, w, ds, rest, as, r, ds', g2, rfl, cv, hj, hS, hs, q⟩ := q1
  rw [List.append_nil]
  have hlen := a1.length.trans hl
  cases a1 with
  | @cons _ v _ vs' b1 b2 =>
    obtain ⟨a, xs, rfl, o2, o3, o4, o5⟩ := I1.own hj b1
    refine ⟨hlen, a, vs', Z1, xs, ds, as, r, ds', rfl, o2, o3, I1.fz, o4, cv.run b2, hS, fun v H' Z' xs' h1 h2 h3 h4 h5 h6 h7 h8 => ?_⟩
    -- first the heap grows but for a, then a is stored
    have e0 : H' = upd (fun b => if b = a then some (.lst xs) else H' b) a (.lst xs') := by
      funext b
      by_cases z : b = a
      · subst z; rw [upd_same]; exact h2
      · rw [upd_ne z]; simp [z]
    have I2 : Ok X.K C g1 σ (fun b => if b = a then some (.lst xs) else H' b) Z' := by
      refine I1.grow (fun b o q => ?_) h3 (fun b o q => ?_) h6
      · by_cases z : b = a
        · subst z; rw [o2] at q; cases q; simp
        · simp only [z, if_false]; exact h1 b o z q
      · by_cases z : b = a
        · subst z; rw [h5] at q; cases q
        · simp only [z, if_false]; exact h4 b o q
    have I3 := I2.put hj b1 h7 hs
    rw [← e0] at I3
    exact p v H' Z' (.d r) g2 I3 (s1.trans h3) h8 q
end

/-! ### a def keeps its promise -/
def entOf : Ar → Ent
  | .d d => .im d
  | .v v => .vl v
/-- what a body hands back -/
inductive Ret (r : PyData) : Av → Gm → Prop
  | d {g : Gm} : Ret r (.d r) g
  | o {j : Nat} {es : List PyData} {g : Gm} : g[j]? = some (.ls none es) → r = .list es → Ret r (.o j) g
theorem ret_d {r d : PyData} {g : Gm} (h : d = r) : Ret r (.d d) g := by subst h; exact .d
inductive RetN (r : List PyData) : Av → Gm → Prop
  | o {j : Nat} {es : List PyData} {g : Gm} : g[j]? = some (.ls none es) → es = r → RetN r (.o j) g
section
variable {K : PySem.W.Frag} {C : Ct} {g : Gm} {σ : St} {H Z : Hp}
theorem SetE.mk' {e : Ent} : ∀ {g : Gm} {j : Nat}, j < g.length → SetE g j e (g.set j e)
  | [], _, h => by simp at h
  | _ :: g, 0, _ => .z
  | _ :: g, j + 1, h => .s (SetE.mk' (by simpa using h))
theorem start_get {as : List Ar} {vs : List V} {n : Nat} (h : ArsOk K Z as vs) (i : Nat) (e : Ent) (q : (as.map entOf ++ List.replicate n Ent.no)[i]? = some e) : EntOk K C H Z (vs.map some ++ List.replicate n none)[i]? e := by
  induction h generalizing i with
  | nil =>
    have q' : (List.replicate n Ent.no)[i]? = some e := by simpa using q
    have z := List.getElem?_eq_some_iff.mp q'
    obtain ⟨z1, z2⟩ := z
    simp at z2
    subst z2
    trivial
  | @cons x v xs vs h1 h2 ih =>
    cases i with
    | zero =>
      have q' : entOf x = e := by simpa using q
      subst q'
      cases x with
      | d d => exact ⟨v, by simp, h1⟩
      | v w =>
        have : v = w := h1
        subst this
        show _ = _
        simp
    | succ i =>
      have := ih i (by simpa using q)
      simpa using this
theorem start_ok {as : List Ar} {vs : List V} {N : List Str} (h : ArsOk K Z as vs) (hz : Same Z H) : Ok K ⟨H, Z, []⟩ (as.map entOf ++ List.replicate (N.length - vs.length) Ent.no) (L2.start N vs) H Z := by
  refine ⟨by simp [L2.start, h.length], hz, fun a o q _ => q, Same.refl _, fun a o q => .inl q, hz, fun a q => by simp at q, fun a q => by simp at q, fun i e q => start_get h i e q, fun i j w w' ds es a q1 => ?_⟩
  exfalso
  have : ∀ (as : List Ar) (n i : Nat), (as.map entOf ++ List.replicate n Ent.no)[i]? ≠ some (.ls w ds) := by
    intro as n
    induction as with
    | nil =>
      intro i q
      have q' : (List.replicate n Ent.no)[i]? = some (.ls w ds) := by simpa using q
      obtain ⟨_, z⟩ := List.getElem?_eq_some_iff.mp q'
      simp at z
    | cons x xs ih =>
      intro i q
      cases i with
      | zero => cases x <;> simp [entOf] at q
      | succ i => exact ih i (by simpa using q)
  exact this _ _ _ q1
end
abbrev FnP (K : PySem.W.Frag) (x : Str) (st : Stmt) (f : Addr) (fd : FuncData) : Prop := FunD K x x (defArgs st) (defBody st) (defScope st) [] [] f fd
theorem fn_ok {P : Program} {w : World} {K : PySem.W.Frag} {mg : Str → Option Value} {base : Heap} {x : Str} {st : Stmt} {f : Addr} {fd : FuncData} {N ps : List Str} {k n : Nat} {S : Con} {kws : List (Str × V)} (F : FunD K x x (defArgs st) (defBody st) (defScope st) [] kws f fd) (Sc : FnScope N ps (defScope st)) (hn : ps.length = n)
    (hbody : ∀ (X : Cx), X.prog = P → X.w = w → X.K = K → X.mg = mg → X.base = base → PassesOwn (model X.prog X.w) X.A X.env X.xe → CxF X N (defScope st) k → ∀ C as r, S as r → as.length = n → C.W = [] →
      ESs X C (defBody st) (as.map entOf ++ List.replicate (N.length - n) Ent.no) { nx := fun _ => r = .none, rt := Ret r }) : FnOk P w K mg base CX0 (k + 1) f fd ps (spR K n S) := by
  refine F.ok Sc (fun vs H Q E h => by rw [h.1, hn]) (fun cdv A outer s H vs Q E hr h => ?_)
  obtain ⟨hl, Z, as, r, hz, ha, hS, q⟩ := h
  refine ⟨_, PSs.nox (pss_t (X := (cxOf CX0 P w K mg base N x (defScope st) f cdv A outer s H E).nox)), ?_⟩
  have al : as.length = n := by rw [← ha.length]; exact hl
  have b := hbody (cxOf CX0 P w K mg base N x (defScope st) f cdv A outer s H E).nox rfl rfl rfl rfl rfl PassesOwn.never ⟨rfl, rfl, rfl, Sc.nd, hr, fun _ => rfl⟩ ⟨H, Z, []⟩ as r hS al rfl
  have I := start_ok (N := N) ha hz
  rw [hl] at I
  have fin : ∀ v σ' H' Z' g', Ok K ⟨H, Z, []⟩ g' σ' H' Z' → Dd K Z' v r → Q v H' := fun v σ' H' Z' g' I' hd =>
    q v H' Z' (fun a o e => I'.fr a o e (by simp)) I'.z0 I'.fz I'.nw hd
  refine b _ H Z I _ ⟨fun g' σ' H' Z' I' _ e => ?_, fun x v g' σ' H' Z' I' _ a e => ?_, fun _ _ _ _ _ _ z => z.elim, fun _ _ _ _ _ _ z => z.elim, fun _ _ _ _ _ _ _ _ _ z => z.elim⟩
  · exact fin _ σ' H' Z' g' I' (by rw [e]; exact .non)
  · cases e with
    | d => exact fin v σ' H' Z' g' I' a
    | @o j es _ e1 e2 =>
      subst e2
      have hj := (List.getElem?_eq_some_iff.mp e1).1
      obtain ⟨Z2, I2, s2, d2⟩ := I'.frz e1 a (g' := g'.set j (.im (.list es))) (SetE.mk' hj)
      exact fin v σ' H' Z2 _ I2 d2
theorem fn_okN {P : Program} {w : World} {K : PySem.W.Frag} {mg : Str → Option Value} {base : Heap} {x : Str} {st : Stmt} {f : Addr} {fd : FuncData} {N ps : List Str} {k n : Nat} {S : List Ar → List PyData → Prop} {kws : List (Str × V)} (F : FunD K x x (defArgs st) (defBody st) (defScope st) [] kws f fd) (Sc : FnScope N ps (defScope st)) (hn : ps.length = n)
    (hbody : ∀ (X : Cx), X.prog = P → X.w = w → X.K = K → X.mg = mg → X.base = base → PassesOwn (model X.prog X.w) X.A X.env X.xe → CxF X N (defScope st) k → ∀ C as r, S as r → as.length = n → C.W = [] →
      ESs X C (defBody st) (as.map entOf ++ List.replicate (N.length - n) Ent.no) { nx := fun _ => False, rt := RetN r, rn := fun ds _ => ds = r }) : FnOk P w K mg base CX0 (k + 1) f fd ps (spN K n S) := by
  refine F.ok Sc (fun vs H Q E h => by rw [h.1, hn]) (fun cdv A outer s H vs Q E hr h => ?_)
  obtain ⟨hl, Z, as, r, hz, ha, hS, q⟩ := h
  refine ⟨_, PSs.nox (pss_t (X := (cxOf CX0 P w K mg base N x (defScope st) f cdv A outer s H E).nox)), ?_⟩
  have al : as.length = n := by rw [← ha.length]; exact hl
  have b := hbody (cxOf CX0 P w K mg base N x (defScope st) f cdv A outer s H E).nox rfl rfl rfl rfl rfl PassesOwn.never ⟨rfl, rfl, rfl, Sc.nd, hr, fun _ => rfl⟩ ⟨H, Z, []⟩ as r hS al rfl
  have I := start_ok (N := N) ha hz
  rw [hl] at I
  refine b _ H Z I _ ⟨fun g' σ' H' Z' I' _ e => e.elim, fun x v g' σ' H' Z' I' _ a e => ?_, fun _ _ _ _ _ _ z => z.elim, fun _ _ _ _ _ _ z => z.elim, fun ds p g' σ' H' Z' I' _ n e => ?_⟩
  · cases e with
    | o e1 e2 =>
      subst e2
      obtain ⟨p, xs, rfl, o2, o3, o4, o5⟩ := I'.own e1 a
      exact q p H' Z' xs (fun a o e => I'.fr a o e (by simp)) I'.z0 I'.fz I'.nw o5 o2 o3 o4
  · obtain ⟨xs, n1, n2⟩ := n.at_
    have e' : ds = r := e
    subst e'
    exact q p H' Z' xs (fun a o e => I'.fr a o e (by simp)) I'.z0 I'.fz I'.nw n.n0 n1 n.nz n2
theorem fn_okM {P : Program} {w : World} {K : PySem.W.Frag} {mg : Str → Option Value} {base : Heap} {x : Str} {st : Stmt} {f : Addr} {fd : FuncData} {N ps : List Str} {k n : Nat} {S : ConM} {kws : List (Str × V)} (F : FunD K x x (defArgs st) (defBody st) (defScope st) [] kws f fd) (Sc : FnScope N ps (defScope st)) (hn : ps.length = n)
    (hbody : ∀ (X : Cx), X.prog = P → X.w = w → X.K = K → X.mg = mg → X.base = base → PassesOwn (model X.prog X.w) X.A X.env X.xe → CxF X N (defScope st) k → ∀ C ds as r ds', S ds as r ds' → as.length + 1 = n →
      ESs X C (defBody st) (.ls (some 0) ds :: (as.map entOf ++ List.replicate (N.length - n) Ent.no)) { nx := fun g => r = .none ∧ g[0]? = some (.ls (some 0) ds'), rt := fun x g => Ret r x g ∧ g[0]? = some (.ls (some 0) ds') }) : FnOk P w K mg base CX0 (k + 1) f fd ps (spM K n S) := by
  refine F.ok Sc (fun vs H Q E h => by rw [h.1, hn]) (fun cdv A outer s H vs Q E hr h => ?_)
  obtain ⟨hl, a, vs', Z, xs, ds, as, r, ds', rfl, h1, h2, hz, hd, ha, hS, q⟩ := h
  refine ⟨_, PSs.nox (pss_t (X := (cxOf CX0 P w K mg base N x (defScope st) f cdv A outer s H E).nox)), ?_⟩
  have al : as.length + 1 = n := by rw [← ha.length]; simpa using hl
  have b := hbody (cxOf CX0 P w K mg base N x (defScope st) f cdv A outer s H E).nox rfl rfl rfl rfl rfl PassesOwn.never ⟨rfl, rfl, rfl, Sc.nd, hr, fun _ => rfl⟩ ⟨H, Z, [a]⟩ ds as r ds' hS al
  have hl' : vs'.length = as.length := ha.length
  have I : Ok K ⟨H, Z, [a]⟩ (.ls (some 0) ds :: (as.map entOf ++ List.replicate (N.length - n) Ent.no)) (L2.start N (.ref a :: vs')) H Z := by
    refine ⟨by simp [L2.start, hl']; omega, hz, fun b o q _ => q, Same.refl _, fun b o q => .inl q, hz, fun b q => ?_, fun b q => ?_, fun i e q => ?_, fun i j w w' ds1 es b q1 q2 => ?_⟩
    · have this : b = a := by simpa using q
      rw [this]
      exact ⟨by show (H a).isSome = true; rw [h1]; rfl, h2⟩
    · have this : b = a := by simpa using q
      rw [this, h1]; rfl
    · cases i with
      | zero =>
        have q' : Ent.ls (some 0) ds = e := by simpa using q
        subst q'
        exact ⟨a, xs, by simp [L2.start], h1, h2, hd, rfl⟩
      | succ i =>
        have := start_get (H := H) (C := ⟨H, Z, [a]⟩) (n := N.length - n) ha i e (by simpa using q)
        have e2 : N.length - (V.ref a :: vs').length = N.length - n := by rw [hl]
        unfold L2.start
        rw [e2]
        simpa using this
    · have aux : ∀ (as : List Ar) (n i : Nat) (w : Option Nat) (ds : List PyData), (as.map entOf ++ List.replicate n Ent.no)[i]? ≠ some (.ls w ds) := by
        intro as n
        induction as with
        | nil =>
          intro i w ds q
          have q' : (List.replicate n Ent.no)[i]? = some (.ls w ds) := by simpa using q
          obtain ⟨_, z⟩ := List.getElem?_eq_some_iff.mp q'
          simp at z
        | cons x xs ih =>
          intro i w ds q
          cases i with
          | zero => cases x <;> simp [entOf] at q
          | succ i => exact ih i w ds (by simpa using q)
      cases i with
      | zero =>
        cases j with
        | zero => intros; rfl
        | succ j => exact absurd (by simpa using q2) (aux as (N.length - n) j w' es)
      | succ i => exact absurd (by simpa using q1) (aux as (N.length - n) i w ds1)
  have fin : ∀ v σ' H' Z' g', Ok K ⟨H, Z, [a]⟩ g' σ' H' Z' → g'[0]? = some (.ls (some 0) ds') → Dd K Z' v r → Q v H' := fun v σ' H' Z' g' I' e hd' => by
    obtain ⟨b, ys, f1, f2, f3, f4, f5⟩ := I'.ent 0 _ e
    have this : b = a := by
      have z : [a][0]? = some b := f5
      simpa using z.symm
    rw [this] at f2 f3
    exact q v H' Z' ys (fun c o hc e => I'.fr c o e (by simpa using hc)) f2 I'.z0 I'.fz f3 I'.nw f4 hd'
  refine b _ H Z I _ ⟨fun g' σ' H' Z' I' _ e => ?_, fun x v g' σ' H' Z' I' _ a e => ?_, fun _ _ _ _ _ _ z => z.elim, fun _ _ _ _ _ _ z => z.elim, fun _ _ _ _ _ _ _ _ _ z => z.elim⟩
  · exact fin _ σ' H' Z' g' I' e.2 (by rw [e.1]; exact .non)
  · obtain ⟨e, e0⟩ := e
    cases e with
    | d => exact fin v σ' H' Z' g' I' e0 a
    | @o j es _ e1 e2 =>
      subst e2
      have hj := (List.getElem?_eq_some_iff.mp e1).1
      obtain ⟨Z2, I2, s2, d2⟩ := I'.frz e1 a (SetE.mk' hj)
      have ne : (0 : Nat) ≠ j := fun z => by subst z; rw [e0] at e1; cases e1
      exact fin v σ' H' Z2 _ I2 (by rw [(SetE.mk' hj).ne ne]; exact e0) d2
end AL
/-! The layer's rules over the text: built-ins, methods of lists, comprehensions, statements. -/
namespace AL
open PySem PySem.Spec L2

/-- what a built-in's call gives -/
def RC (K : PySem.W.Frag) (C : Ct) (r : List V → Hp → VK → Prop) (xs : List Av) (g : Gm) (Q : Av → Gm → Prop) : Prop := ∀ σ H Z vs, Ok K C g σ H Z → AvsOk K σ Z xs vs → ∀ P : VK, (∀ u H' Z' z g', Ok K C g' σ H' Z' → Same Z Z' → AvOk K σ Z' z u → Q z g' → P u H') → r vs H P
section
variable {X : Cx} {C : Ct} {g g' : Gm} {e a b c o : Expr} {es : List Expr} {pos p apos : Pos} {Q : Av → Gm → Prop} {QT : Bool → Gm → Prop} {QL : List PyData → Gm → Prop} {QA : List Av → Gm → Prop} {x : Str} {K : PySem.W.Frag}
theorem ae_cb {r : List V → Hp → VK → Prop} {ta : TA} (h : AA K C ta g fun xs g1 => RC K C r xs g1 Q) : AE K C (tCB r ta) g Q := fun σ H Z I P p =>
  h σ H Z I _ fun vs H1 Z1 xs g1 I1 s1 a1 q1 => q1 σ H1 Z1 vs I1 a1 P fun u H2 Z2 z g2 I2 s2 => p u H2 Z2 z g2 I2 (s1.trans s2)
theorem ee_callB {id : String} {r : List V → Hp → VK → Prop} (hc : CallR X (.builtin id) r) (n : Bn X x) (hv : bootBuiltins x = some (.builtin id)) (h : EA X C (e :: es) g fun xs g1 => RC X.K C r xs g1 Q)
    (he : starEach (e :: es) X.env = (false, eval e X.env) :: starEach es X.env) (hpl : (backTo pos (starEach es X.env)).any (·.1) = false) : EE X C (.Call (.Name x p) (e :: es) [] pos) g Q := EE.of (pe_callB hc n.gl n.mg hv pa_t n.n1 n.d1 he hpl) (ae_cb h)
theorem ee_callTy {T : String} {r : List V → Hp → VK → Prop} (hc : CallR X (.type T) r) (n : Bn X x) (hv : bootBuiltins x = some (.type T)) (h : EA X C (e :: es) g fun xs g1 => RC X.K C r xs g1 Q)
    (he : starEach (e :: es) X.env = (false, eval e X.env) :: starEach es X.env) (hpl : (backTo pos (starEach es X.env)).any (·.1) = false) : EE X C (.Call (.Name x p) (e :: es) [] pos) g Q := EE.of (pe_callTy hc n.gl n.mg hv pa_t n.n1 n.d1 he hpl) (ae_cb h)
/-- one argument, two -/
theorem ee_len (n : Bn X "len") (h : EE X C e g fun x g1 => RC X.K C (fun xs H Q => ∃ x n, xs = [x] ∧ LenV X.K x H n ∧ Q (.int n) H) [x] g1 Q) (he : starEach [e] X.env = (false, eval e X.env) :: starEach [] X.env := by rfl) : EE X C (.Call (.Name "len" p) [e] [] pos) g Q :=
  ee_callB call_len n PySem.boot_len (ea_cons (h.mono fun x g1 q => ea_nil q) he) he rfl
theorem rc_lenL {ds : List PyData} (q : Q (.d (.int ds.length)) g) : RC K C (fun xs H Q => ∃ x n, xs = [x] ∧ LenV K x H n ∧ Q (.int n) H) [.d (.list ds)] g Q := fun σ H Z vs I a P p => by
  cases a with
  | @cons _ v _ _ a1 a2 =>
    cases a2
    have a1' : Dd K Z v (.list ds) := a1
    cases a1' with
    | @lst ad xs _ b1 b2 => exact ⟨_, ds.length, rfl, .inl ⟨xs, SqL.of (I.fz _ _ b1), b2.length.symm⟩, p _ H Z (.d (.int _)) g I (Same.refl _) (Dd.int _) q⟩
theorem rc_lenT {ds : List PyData} (q : Q (.d (.int ds.length)) g) : RC K C (fun xs H Q => ∃ x n, xs = [x] ∧ LenV K x H n ∧ Q (.int n) H) [.d (.tuple ds)] g Q := fun σ H Z vs I a P p => by
  cases a with
  | @cons _ v _ _ a1 a2 =>
    cases a2
    have a1' : Dd K Z v (.tuple ds) := a1
    cases a1' with
    | @tup ad xs _ b1 b2 => exact ⟨_, ds.length, rfl, .inr ⟨xs, Same.seqT I.fz b1, b2.length.symm⟩, p _ H Z (.d (.int _)) g I (Same.refl _) (Dd.int _) q⟩
theorem rc_lenS {s : Str} (hs : s.length ≤ sizeLine) (q : Q (.d (.int s.length)) g) : RC K C (fun xs H Q => ∃ x n, xs = [x] ∧ LenV K x H n ∧ Q (.int n) H) [.d (.str s)] g Q := fun σ H Z vs I a P p => by
  cases a with
  | @cons _ v _ _ a1 a2 =>
    cases a2; cases a1
    exact ⟨_, s.length, rfl, ⟨hs, rfl⟩, p _ H Z (.d (.int _)) g I (Same.refl _) (Dd.int _) q⟩
theorem rc_lenO {j : Nat} {w : Option Nat} {ds : List PyData} (hj : g[j]? = some (.ls w ds)) (q : Q (.d (.int ds.length)) g) : RC K C (fun xs H Q => ∃ x n, xs = [x] ∧ LenV K x H n ∧ Q (.int n) H) [.o j] g Q := fun σ H Z vs I a P p => by
  cases a with
  | @cons _ v _ _ a1 a2 =>
    cases a2
    obtain ⟨ad, xs, rfl, o2, o3, o4, o5⟩ := I.own hj a1
    exact ⟨_, ds.length, rfl, .inl ⟨xs, SqL.of o2, o4.length.symm⟩, p _ H Z (.d (.int _)) g I (Same.refl _) (Dd.int _) q⟩
theorem ee_abs (n : Bn X "abs") (h : EE X C e g fun x g1 => ∃ i, x = .d (.int i) ∧ Q (.d (.int (if i < 0 then -i else i))) g1) (he : starEach [e] X.env = (false, eval e X.env) :: starEach [] X.env := by rfl) : EE X C (.Call (.Name "abs" p) [e] [] pos) g Q :=
  ee_callB call_abs n (by decide +kernel) (ea_cons (h.mono fun x g1 q => ea_nil fun σ H Z vs I a P p => by
    obtain ⟨i, rfl, q⟩ := q
    cases a with
    | cons a1 a2 =>
      cases a2; cases a1
      exact ⟨i, rfl, p _ H Z (.d (.int _)) g1 I (Same.refl _) (Dd.int _) q⟩) he) he rfl
theorem ee_max2 (n : Bn X "max") (hc : X.calm = true) (h : EE X C a g fun x g1 => EE X C b g1 fun y g2 => ∃ i j, x = .d (.int i) ∧ y = .d (.int j) ∧ Q (.d (.int (if j > i then j else i))) g2) (he : starEach [a, b] X.env = (false, eval a X.env) :: starEach [b] X.env := by rfl) (he2 : starEach [b] X.env = (false, eval b X.env) :: starEach [] X.env := by rfl) : EE X C (.Call (.Name "max" p) [a, b] [] pos) g Q :=
  ee_callB (call_max2 hc) n (by decide +kernel) (ea_cons (h.mono fun x g1 h1 => ea_cons (h1.mono fun y g2 q => ea_nil fun σ H Z vs I a P p => by
    obtain ⟨i, j, rfl, rfl, q⟩ := q
    cases a with
    | cons a1 a2 =>
      cases a2 with
      | cons a3 a4 =>
        cases a4; cases a3; cases a1
        exact ⟨i, j, rfl, p _ H Z (.d (.int _)) g2 I (Same.refl _) (Dd.int _) q⟩) he2) he) he (by rw [he2]; rfl)
theorem ee_min2 (n : Bn X "min") (hc : X.calm = true) (h : EE X C a g fun x g1 => EE X C b g1 fun y g2 => ∃ i j, x = .d (.int i) ∧ y = .d (.int j) ∧ Q (.d (.int (if j < i then j else i))) g2) (he : starEach [a, b] X.env = (false, eval a X.env) :: starEach [b] X.env := by rfl) (he2 : starEach [b] X.env = (false, eval b X.env) :: starEach [] X.env := by rfl) : EE X C (.Call (.Name "min" p) [a, b] [] pos) g Q :=
  ee_callB (call_min2 hc) n (by decide +kernel) (ea_cons (h.mono fun x g1 h1 => ea_cons (h1.mono fun y g2 q => ea_nil fun σ H Z vs I a P p => by
    obtain ⟨i, j, rfl, rfl, q⟩ := q
    cases a with
    | cons a1 a2 =>
      cases a2 with
      | cons a3 a4 =>
        cases a4; cases a3; cases a1
        exact ⟨i, j, rfl, p _ H Z (.d (.int _)) g2 I (Same.refl _) (Dd.int _) q⟩) he2) he) he (by rw [he2]; rfl)
/-- int(a bool) -/
theorem ee_intB (n : Bn X "int") (h : EE X C e g fun x g1 => ∃ i, x = .d (.bool i) ∧ Q (.d (.int (if i then 1 else 0))) g1) (he : starEach [e] X.env = (false, eval e X.env) :: starEach [] X.env := by rfl) : EE X C (.Call (.Name "int" p) [e] [] pos) g Q :=
  ee_callTy call_int1 n (by decide +kernel) (ea_cons (h.mono fun x g1 q => ea_nil fun σ H Z vs I a P p => by
    obtain ⟨i, rfl, q⟩ := q
    cases a with
    | cons a1 a2 =>
      cases a2; cases a1
      exact .inr ⟨i, rfl, p _ H Z (.d (.int _)) g1 I (Same.refl _) (Dd.int _) q⟩) he) he rfl
/-- tuple(xs) -/
def KT (g : Gm) (x : Av) (ds : List PyData) : Prop := x = .d (.list ds) ∨ x = .d (.tuple ds) ∨ ∃ j w, x = .o j ∧ g[j]? = some (.ls w ds)
theorem ee_tuple (n : Bn X "tuple") (h : EE X C e g fun x g1 => ∃ ds, KT g1 x ds ∧ Q (.d (.tuple ds)) g1) (he : starEach [e] X.env = (false, eval e X.env) :: starEach [] X.env := by rfl) : EE X C (.Call (.Name "tuple" p) [e] [] pos) g Q :=
  EE.of (pe_tupleOf n.gl n.mg pe_t he) fun σ H Z I P p => h σ H Z I _ fun v H1 Z1 x g1 I1 s1 a1 q1 => by
    obtain ⟨ds, kt, q⟩ := q1
    have fin : ∀ ad xs, H1 ad = some (.lst xs) → DdA X.K Z1 xs ds → kTup X.K (.ref ad) H1 P := fun ad xs b1 b2 => by
      refine .inl ⟨ad, xs, rfl, SqL.of b1, fun t ht => ?_⟩
      obtain ⟨I2, s2, _⟩ := I1.newF (o := .tup xs) ht
      exact p _ _ _ (.d (.tuple ds)) g1 I2 (s1.trans s2) (.tup (SqT.of upd_same) (b2.mono s2)) q
    rcases kt with rfl | rfl | ⟨j, w, rfl, hj⟩
    · have a1' : Dd X.K Z1 v (.list ds) := a1
      cases a1' with
      | @lst ad xs _ b1 b2 => exact fin ad xs (I1.fz _ _ b1) b2
    · have a1' : Dd X.K Z1 v (.tuple ds) := a1
      cases a1' with
      | @tup ad xs _ b1 b2 => exact .inr ⟨ad, xs, rfl, Same.seqT I1.fz b1, p _ H1 Z1 (.d (.tuple ds)) g1 I1 s1 (.tup b1 b2) q⟩
    · obtain ⟨ad, xs, rfl, o2, o3, o4, o5⟩ := I1.own hj a1
      exact fin ad xs o2 o4
theorem kt_l {ds : List PyData} : KT g (.d (.list ds)) ds := .inl rfl
theorem kt_t {ds : List PyData} : KT g (.d (.tuple ds)) ds := .inr (.inl rfl)
theorem kt_o {j : Nat} {w : Option Nat} {ds : List PyData} (h : g[j]? = some (.ls w ds)) : KT g (.o j) ds := .inr (.inr ⟨j, w, rfl, h⟩)
/-- list(xs): a new list -/
theorem en_list (n : Bn X "list") (h : EE X C e g fun x g1 => ∃ ds, KT g1 x ds ∧ QL ds g1) (he : starEach [e] X.env = (false, eval e X.env) :: starEach [] X.env := by rfl) : EN X C (.Call (.Name "list" p) [e] [] pos) g QL :=
  EN.of (pe_callTy (T := "list") call_list_of n.gl n.mg (by decide +kernel) pa_t n.n1 n.d1 he rfl) fun σ H Z I P p =>
    (show EA X C [e] g (fun xs g1 => ∃ x ds, xs = [x] ∧ KT g1 x ds ∧ QL ds g1) from ea_cons (h.mono fun x g1 q => by
      obtain ⟨ds, q1, q2⟩ := q
      exact ea_nil ⟨x, ds, rfl, q1, q2⟩) he) σ H Z I _ fun vs H1 Z1 xs g1 I1 s1 a1 q1 => by
    obtain ⟨x, ds, rfl, kt, q⟩ := q1
    cases a1 with
    | @cons _ v _ _ a1 a2 =>
      cases a2
      have fin : ∀ xs l, H1 l = none → DdA X.K Z1 xs ds → P (.ref l) (upd H1 l (.lst xs)) := fun xs l hl b2 => by
        obtain ⟨m1, m2, m3⟩ := I1.new hl
        exact p l _ Z1 ds g1 (I1.newO hl) s1 ⟨⟨xs, upd_same, b2⟩, m1, m2, m3⟩ q
      rcases kt with rfl | rfl | ⟨j, w, rfl, hj⟩
      · have a1' : Dd X.K Z1 v (.list ds) := a1
        cases a1' with
        | @lst ad xs _ b1 b2 => exact ⟨ad, xs, rfl, .inl (SqL.of (I1.fz _ _ b1)), fun l hl => fin xs l hl b2⟩
      · have a1' : Dd X.K Z1 v (.tuple ds) := a1
        cases a1' with
        | @tup ad xs _ b1 b2 => exact ⟨ad, xs, rfl, .inr (Same.seqT I1.fz b1), fun l hl => fin xs l hl b2⟩
      · obtain ⟨ad, xs, rfl, o2, o3, o4, o5⟩ := I1.own hj a1
        exact ⟨ad, xs, rfl, .inl (SqL.of o2), fun l hl => fin xs l hl o4⟩
/-- xs + ys, lists: a new list -/
theorem en_cat (h : EE X C a g fun x g1 => EE X C b g1 fun y g2 => ∃ ds es, (x = .d (.list ds) ∨ ∃ j w, x = .o j ∧ g2[j]? = some (.ls w ds)) ∧ (y = .d (.list es) ∨ ∃ j w, y = .o j ∧ g2[j]? = some (.ls w es)) ∧ ds.length + es.length ≤ 1000000 ∧ QL (ds ++ es) g2) : EN X C (.BinOp a .Add b pos) g QL :=
  EN.of (pe_op op_cat pe_t pe_t) fun σ H Z I P p => h σ H Z I _ fun v H1 Z1 x g1 I1 s1 a1 h1 => h1 σ H1 Z1 I1 _ fun w H2 Z2 y g2 I2 s2 a2 q => by
    obtain ⟨ds, es, hx, hy, hl, q⟩ := q
    have get : ∀ {z : Av} {u : V} {ds : List PyData}, AvOk X.K σ Z2 z u → (z = .d (.list ds) ∨ ∃ j w, z = .o j ∧ g2[j]? = some (.ls w ds)) → ∃ ad xs, u = .ref ad ∧ H2 ad = some (.lst xs) ∧ DdA X.K Z2 xs ds := fun {z u ds} az hz => by
      rcases hz with rfl | ⟨j, w, rfl, hj⟩
      · have a1' : Dd X.K Z2 u (.list ds) := az
        cases a1' with
        | @lst ad xs _ b1 b2 => exact ⟨ad, xs, rfl, I2.fz _ _ b1, b2⟩
      · obtain ⟨ad, xs, rfl, o2, o3, o4, o5⟩ := I2.own hj az
        exact ⟨ad, xs, rfl, o2, o4⟩
    obtain ⟨ad, xs, rfl, b1, b2⟩ := get (a1.mono s2) hx
    obtain ⟨bd, ys, rfl, c1, c2⟩ := get a2 hy
    refine ⟨ad, bd, xs, ys, rfl, rfl, b1, c1, by rw [b2.length, c2.length]; exact Nat.le_trans hl (by decide), fun l hl => ?_⟩
    obtain ⟨m1, m2, m3⟩ := I2.new hl
    exact p l _ Z2 (ds ++ es) g2 (I2.newO hl) (s1.trans s2) ⟨⟨xs ++ ys, upd_same, b2.append c2⟩, m1, m2, m3⟩ q

/-! ### isinstance -/
def tyN : PyData → String
  | .none => "NoneType"
  | .bool _ => "bool"
  | .int _ => "int"
  | .str _ => "str"
  | .list _ => "list"
  | .tuple _ => "tuple"
  | .dict _ => "dict"
def isiT : List String := ["bool", "int", "str", "list", "tuple", "dict"]
def isiB (a b : String) : Bool := a == b || (a == "bool" && b == "int")
theorem isi_all : (["NoneType", "bool", "int", "str", "list", "tuple"].all fun a => isiT.all fun b => decide (kitB a b = some (isiB a b))) = true := by decide +kernel
theorem isi_ok {a b : String} (ha : a ∈ ["NoneType", "bool", "int", "str", "list", "tuple"]) (hb : b ∈ isiT) : kitB a b = some (isiB a b) :=
  of_decide_eq_true (List.all_eq_true.mp (List.all_eq_true.mp isi_all a ha) b hb)
def notD : PyData → Bool
  | .dict _ => false
  | _ => true
theorem Ok.ty {σ : St} {H Z : Hp} (I : Ok K C g σ H Z) {d : PyData} {v : V} (nd : notD d = true) (h : Dd K Z v d) : TyX K H v (.type (tyN d)) ∧ tyN d ∈ ["NoneType", "bool", "int", "str", "list", "tuple"] := by
  cases h with
  | non => exact ⟨.base .non, by simp [tyN]⟩
  | bl b => exact ⟨.base (.bl b), by simp [tyN]⟩
  | int i => exact ⟨.base (.int i), by simp [tyN]⟩
  | str s => exact ⟨.base (.str s), by simp [tyN]⟩
  | scr h1 => simp [notD] at nd
  | lst h1 h2 => exact ⟨.base (.lst (I.fz _ _ h1)), by simp [tyN]⟩
  | tup h1 h2 =>
    refine ⟨?_, by simp [tyN]⟩
    rcases h1 with (h | ⟨o, h⟩) | ⟨o, its, n, h1, h2, _⟩
    · exact .base (.tup (I.fz _ _ h))
    · exact .fTuple (I.fz _ _ h)
    · exact .kTuple h1 h2
theorem ee_isi {T : String} (n : Bn X "isinstance") (hT : T ∈ isiT) (h : EE X C a g fun x g1 => EE X C b g1 fun y g2 => ∃ d, notD d = true ∧ (x = .d d ∨ ∃ j w ds, x = .o j ∧ g2[j]? = some (.ls w ds) ∧ d = .list ds) ∧ y = .v (.ty T) ∧ Q (.d (.bool (isiB (tyN d) T))) g2) (he : starEach [a, b] X.env = (false, eval a X.env) :: starEach [b] X.env := by rfl) (he2 : starEach [b] X.env = (false, eval b X.env) :: starEach [] X.env := by rfl) : EE X C (.Call (.Name "isinstance" p) [a, b] [] pos) g Q :=
  ee_callB call_isi n (by decide +kernel) (ea_cons (h.mono fun x g1 h1 => ea_cons (h1.mono fun y g2 q => ea_nil fun σ H Z vs I a P p => by
    obtain ⟨d, nd, hx, rfl, q⟩ := q
    cases a with
    | @cons _ v _ _ a1 a2 =>
      cases a2 with
      | cons a3 a4 =>
        cases a4; cases a3
        have ty : TyX X.K H v (.type (tyN d)) ∧ tyN d ∈ ["NoneType", "bool", "int", "str", "list", "tuple"] := by
          rcases hx with rfl | ⟨j, w, ds, rfl, hj, rfl⟩
          · exact I.ty nd a1
          · obtain ⟨ad, xs, rfl, o2, o3, o4, o5⟩ := I.own hj a1
            exact ⟨.base (.lst o2), by simp [tyN]⟩
        exact ⟨v, .ty T, _, _, _, rfl, .ty T, ty.1, kit_ty (isi_ok ty.2 hT), p _ H Z (.d (.bool _)) g2 I (Same.refl _) (Dd.bl _) q⟩) he2) he) he (by rw [he2]; rfl)

/-! ### methods of an own list -/
theorem ee_append (h : EE X C o g fun x g1 => ∃ j w0 ds0, x = .o j ∧ g1[j]? = some (.ls w0 ds0) ∧ EE X C e g1 fun y g2 => ∃ w ds d g3 g4, Frz [y] g2 [d] g3 ∧ g3[j]? = some (.ls w ds) ∧ ds.length < 1000000 ∧ SetE g3 j (.ls w (ds ++ [d])) g4 ∧ Q (.d .none) g4)
    (hbase : attributeBase o "append" X.env (eval o X.env) = eval o X.env := by rfl) (hline : (apos.endLine == pos.line) = true := by rfl) (hs : starEach [e] X.env = (false, eval e X.env) :: starEach [] X.env := by rfl)
    (hfew : ((backTo pos (starEach [e] X.env)).all (fun x => !x.1) && (backToKw pos (keywordEach [] X.env)).all (fun x => x.1.isSome) && decide ([e].length + ([] : List Keyword).length + (if ([] : List Keyword).isEmpty then 0 else 1) < 30)) = true := by rfl) :
    EE X C (.Call (.Attribute o "append" apos) [e] [] pos) g Q :=
  EE.of (pe_bm PySem.F.plainAttrs_list PySem.F.slot_list_append PySem.F.type_list_append mt_append pe_t pa_t hbase hfew hline hs rfl) fun σ H Z I P p =>
    h σ H Z I _ fun v H1 Z1 x g1 I1 s1 a1 q1 => by
      obtain ⟨j, w0, ds0, rfl, hj0, h2⟩ := q1
      obtain ⟨ad, xs0, rfl, o2, o3, o4, o5⟩ := I1.own hj0 a1
      refine ⟨.inl ⟨rfl, xs0, SqL.of o2⟩, ?_⟩
      refine (show EA X C [e] g1 (fun ys g2 => ∃ y w ds d g3 g4, ys = [y] ∧ Frz [y] g2 [d] g3 ∧ g3[j]? = some (.ls w ds) ∧ ds.length < 1000000 ∧ SetE g3 j (.ls w (ds ++ [d])) g4 ∧ Q (.d .none) g4) from ea_cons (h2.mono fun y g2 q => by
        obtain ⟨w, ds, d, g3, g4, q⟩ := q
        exact ea_nil ⟨y, w, ds, d, g3, g4, rfl, q⟩) hs) σ H1 Z1 I1 _ fun vs H2 Z2 ys g2 I2 s2 a2 q => ?_
      obtain ⟨y, w, ds, d, g3, g4, rfl, f, hj, hl, hs4, q⟩ := q
      obtain ⟨Z3, I3, s3, r3⟩ := f.run I2 a2
      cases r3 with
      | @cons u _ _ _ r4 r5 =>
        cases r5
        obtain ⟨ad', xs, e0, o2', o3', o4', o5'⟩ := I3.own hj a1
        cases e0
        refine ⟨ad, xs, u, rfl, rfl, o2', by rw [o4'.length]; exact Nat.lt_of_lt_of_le hl (by decide), ?_⟩
        exact p .non _ Z3 (.d .none) g4 (I3.put hj a1 (o4'.append (.cons r4 .nil)) hs4) ((s1.trans s2).trans s3) Dd.non q
end
end AL
/-! The layer's rules over the text: what is walked, comprehensions, statements. -/
namespace AL
open PySem PySem.Spec L2

def NoAt (g : Gm) (vs : List Nat) : Prop := ∀ i ∈ vs, g[i]? = some .no
section
variable {K : PySem.W.Frag} {C : Ct} {g g' : Gm} {σ : St} {H H' Z Z' : Hp}
theorem wipe_get {σ : St} {i : Nat} : ∀ {vs : List Nat}, i ∉ vs → (wipe σ vs)[i]? = σ[i]?
  | [], _ => rfl
  | v :: vs, h => by
    unfold wipe
    rw [List.getElem?_set_ne (by simp at h; exact fun z => h.1 z.symm)]
    exact wipe_get (by simp at h; exact h.2)
theorem Ok.wipe (I : Ok K C g σ H Z) {vs : List Nat} (n : NoAt g vs) : Ok K C g (L2.wipe σ vs) H Z := by
  have q : ∀ {i : Nat} {e : Ent}, g[i]? = some e → e ≠ .no → (L2.wipe σ vs)[i]? = σ[i]? := fun {i e} h ne => wipe_get fun hm => by
    rw [n i hm] at h; cases h; exact ne rfl
  refine ⟨I.ln.trans (wipe_length σ vs).symm, I.fz, I.fr, I.z0, I.nw, I.b0, I.wz, I.wh, fun i e h => ?_, fun i j w w' ds es a h1 h2 h3 h4 => ?_⟩
  · have r := I.ent i e h
    cases e with
    | no => trivial
    | im d => rw [q h (by simp)]; exact r
    | ls w ds => rw [q h (by simp)]; exact r
    | vl v => rw [q h (by simp)]; exact r
  · rw [q h1 (by simp)] at h3
    rw [q h2 (by simp)] at h4
    exact I.inj i j w w' ds es a h1 h2 h3 h4
theorem Ok.unwipe {vs : List Nat} (I : Ok K C g (L2.wipe σ vs) H Z) (n : NoAt g vs) : Ok K C g σ H Z := by
  have q : ∀ {i : Nat} {e : Ent}, g[i]? = some e → e ≠ .no → (L2.wipe σ vs)[i]? = σ[i]? := fun {i e} h ne => wipe_get fun hm => by
    rw [n i hm] at h; cases h; exact ne rfl
  refine ⟨I.ln.trans (wipe_length σ vs), I.fz, I.fr, I.z0, I.nw, I.b0, I.wz, I.wh, fun i e h => ?_, fun i j w w' ds es a h1 h2 h3 h4 => ?_⟩
  · have r := I.ent i e h
    cases e with
    | no => trivial
    | im d => rw [q h (by simp)] at r; exact r
    | ls w ds => rw [q h (by simp)] at r; exact r
    | vl v => rw [q h (by simp)] at r; exact r
  · rw [← q h1 (by simp)] at h3
    rw [← q h2 (by simp)] at h4
    exact I.inj i j w w' ds es a h1 h2 h3 h4
theorem WipeE.wk : ∀ {vs : List Nat} {g g' : Gm}, WipeE g vs g' → WkE g g' ∧ NoAt g' vs
  | [], _, _, .nil => ⟨WkE.refl _, fun _ h => by simp at h⟩
  | v :: vs, g, g', .cons h s => by
    obtain ⟨w, n⟩ := h.wk
    have aux : ∀ {g g1 g2 : Gm} {i : Nat}, WkE g g1 → SetE g1 i .no g2 → WkE g g2 := by
      intro g g1 g2 i w s
      induction w generalizing i g2 with
      | nil => cases s
      | same w ih =>
        cases s with
        | z => exact .drop w
        | s s => exact .same (ih s)
      | drop w ih =>
        cases s with
        | z => exact .drop w
        | s s => exact .drop (ih s)
    refine ⟨aux w s, fun i hi => ?_⟩
    by_cases q : i = v
    · subst q; exact s.same
    · rw [s.ne q]; exact n i (by simpa [q] using hi)

/-- a target that stores only at vs -/
def AGv (K : PySem.W.Frag) (C : Ct) (vs : List Nat) (tg : TG) (x : Av) (g : Gm) (Q : Gm → Prop) : Prop := ∀ σ H Z v, Ok K C g σ H Z → AvOk K σ Z x v → ∀ Q' : St → Hp → Prop, (∀ g' σ' H' Z', Ok K C g' σ' H' Z' → Same Z Z' → (∀ i, i ∉ vs → σ'[i]? = σ[i]?) → σ'.length = σ.length → Q g' → Q' σ' H') → tg v σ H Q'
def AGsv (K : PySem.W.Frag) (C : Ct) (vs : List Nat) (tg : TGs) (ds : List PyData) (g : Gm) (Q : Gm → Prop) : Prop := ∀ σ H Z ws, Ok K C g σ H Z → DdA K Z ws ds → ∀ Q' : St → Hp → Prop, (∀ g' σ' H' Z', Ok K C g' σ' H' Z' → Same Z Z' → (∀ i, i ∉ vs → σ'[i]? = σ[i]?) → σ'.length = σ.length → Q g' → Q' σ' H') → tg ws σ H Q'
section
variable {vs : List Nat} {QG : Gm → Prop}
theorem agv_d {i : Nat} {d : PyData} (hi : i ∈ vs) (h : SetE g i (.im d) g') (q : QG g') : AGv K C vs (gName i) (.d d) g QG := fun σ H Z v I a P p =>
  p g' _ H Z (I.setD a h) (Same.refl _) (fun j hj => List.getElem?_set_ne (fun z => hj (by rw [← z]; exact hi))) (by simp) q
theorem agsv_nil (q : QG g) : AGsv K C vs gNil [] g QG := fun σ H Z ws I a P p => by
  cases a
  exact ⟨rfl, p g σ H Z I (Same.refl _) (fun _ _ => rfl) rfl q⟩
theorem agsv_cons {t : TG} {u : TGs} {d : PyData} {ds : List PyData} (h : AGv K C vs t (.d d) g fun g1 => AGsv K C vs u ds g1 QG) : AGsv K C vs (gCons t u) (d :: ds) g QG := fun σ H Z ws I a P p => by
  cases a with
  | @cons v ws _ _ a1 a2 =>
    exact ⟨v, ws, rfl, h σ H Z v I a1 _ fun g1 σ1 H1 Z1 I1 s1 f1 l1 q1 => q1 σ1 H1 Z1 ws I1 (a2.mono s1) P fun g2 σ2 H2 Z2 I2 s2 f2 l2 => p g2 σ2 H2 Z2 I2 (s1.trans s2) (fun i hi => (f2 i hi).trans (f1 i hi)) (l2.trans l1)⟩
theorem agv_tup {n : Nat} {t : TGs} {ds : List PyData} (hl : ds.length = n) (h : AGsv K C vs t ds g QG) : AGv K C vs (gTup K n t) (.d (.tuple ds)) g QG := fun σ H Z v I a P p => by
  have a' : Dd K Z v (.tuple ds) := a
  cases a' with
  | @tup q xs _ a1 a2 =>
    exact ⟨q, xs, rfl, Same.seqT I.fz a1, by rw [a2.length]; exact hl, h σ H Z xs I a2 P p⟩
end
/-- the list at D kept safe -/
def Ct.with (C : Ct) (D : Addr) (xs : List V) : Ct := ⟨upd C.H0 D (.lst xs), C.Z0, C.W⟩
theorem Ok.safe (I : Ok K C g σ H Z) {D : Addr} {ds : List PyData} (n : New K C g σ H Z D ds) {xs : List V} (hx : H D = some (.lst xs)) : Ok K (C.with D xs) g σ H Z := by
  have nW : D ∉ C.W := fun z => by
    have := (I.wz D z).1
    rw [n.n0] at this; cases this
  refine ⟨I.ln, I.fz, fun a o h hw => ?_, I.z0, fun a o h => ?_, fun a o h => ?_, fun a h => ⟨?_, (I.wz a h).2⟩, I.wh, fun i e h => ?_, I.inj⟩
  · by_cases z : a = D
    · subst z
      have h' : upd C.H0 a (.lst xs) a = some o := h
      rw [upd_same] at h'; cases h'; exact hx
    · have h' : upd C.H0 D (.lst xs) a = some o := h
      rw [upd_ne z] at h'; exact I.fr a o h' hw
  · have z : a ≠ D := fun z => by subst z; rw [n.nz] at h; cases h
    rcases I.nw a o h with q | q
    · exact .inl q
    · exact .inr (by show upd C.H0 D (.lst xs) a = none; rw [upd_ne z]; exact q)
  · have z : a ≠ D := fun z => by subst z; have := I.z0 a o h; rw [n.nz] at this; cases this
    show upd C.H0 D (.lst xs) a = some o
    rw [upd_ne z]; exact I.b0 a o h
  · have z : a ≠ D := fun z => by subst z; exact nW h
    show (upd C.H0 D (.lst xs) a).isSome = true
    rw [upd_ne z]; exact (I.wz a h).1
  · have r := I.ent i e h
    cases e with
    | no => trivial
    | im d => exact r
    | ls w ds2 =>
      obtain ⟨a, ys, f1, f2, f3, f4, f5⟩ := r
      refine ⟨a, ys, f1, f2, f3, f4, ?_⟩
      cases w with
      | none =>
        have z : a ≠ D := fun z => by subst z; exact n.no i none ds2 h f1
        show upd C.H0 D (.lst xs) a = none
        rw [upd_ne z]; exact f5
      | some k => exact f5
    | vl v => exact r
theorem Ok.unsafe (n0 : C.H0 D = none) (nW : D ∉ C.W) (nZ : C.Z0 D = none) {xs : List V} (I : Ok K (C.with D xs) g σ H Z) : Ok K C g σ H Z ∧ H D = some (.lst xs) ∧ Z D = none ∧ ∀ (j : Nat) (w : Option Nat) (es : List PyData), g[j]? = some (Ent.ls w es) → σ[j]? ≠ some (some (V.ref D)) := by
  have hD : H D = some (.lst xs) := I.fr D _ upd_same nW
  have hZ : Z D = none := by
    cases q : Z D with
    | none => rfl
    | some o =>
      rcases I.nw D o q with z | z
      · have z' : C.Z0 D = some o := z
        rw [nZ] at z'; cases z'
      · have z' : upd C.H0 D (.lst xs) D = none := z
        rw [upd_same] at z'; cases z'
  have ne0 : ∀ {a : Addr}, a ≠ D → (C.with D xs).H0 a = C.H0 a := fun {a} z => upd_ne z
  refine ⟨⟨I.ln, I.fz, fun a o h hw => ?_, I.z0, fun a o h => ?_, fun a o h => ?_, fun a h => ⟨?_, (I.wz a h).2⟩, I.wh, fun i e h => ?_, I.inj⟩, hD, hZ, fun j w es e z => ?_⟩
  · have z : a ≠ D := fun z => by subst z; rw [n0] at h; cases h
    exact I.fr a o (by rw [ne0 z]; exact h) hw
  · rcases I.nw a o h with q | q
    · exact .inl q
    · by_cases z : a = D
      · subst z; rw [hZ] at h; cases h
      · rw [ne0 z] at q; exact .inr q
  · have q := I.b0 a o h
    by_cases z : a = D
    · subst z; rw [nZ] at h; cases h
    · rw [ne0 z] at q; exact q
  · have q := (I.wz a h).1
    by_cases z : a = D
    · subst z; exact absurd h nW
    · rw [ne0 z] at q; exact q
  · have r := I.ent i e h
    cases e with
    | no => trivial
    | im d => exact r
    | ls w ds2 =>
      obtain ⟨a, ys, f1, f2, f3, f4, f5⟩ := r
      refine ⟨a, ys, f1, f2, f3, f4, ?_⟩
      cases w with
      | none =>
        have f5' : (C.with D xs).H0 a = none := f5
        by_cases z : a = D
        · subst z
          have f6 : upd C.H0 a (.lst xs) a = none := f5'
          rw [upd_same] at f6; cases f6
        · rw [ne0 z] at f5'; exact f5'
      | some k => exact f5
    | vl v => exact r
  · obtain ⟨a, ys, f1, f2, f3, f4, f5⟩ := I.ent j _ e
    rw [z] at f1; cases f1
    cases w with
    | none =>
      have f6 : upd C.H0 D (.lst xs) D = none := f5
      rw [upd_same] at f6; cases f6
    | some k => exact nW (List.mem_of_getElem? (show C.W[k]? = some D from f5))

/-- a comprehension; J: the turn, what is made so far -/
theorem an_lc {wi : TI} {tg : TG} {tt : TT} {te : TE} {vs : List Nat} {QL : List PyData → Gm → Prop} (h : AI K C wi g fun ds g1 => ∃ g2, WipeE g1 vs g2 ∧ ∃ J : Nat → List PyData → Gm → Prop, J 0 [] g2 ∧ (∀ i acc g', J i acc g' → NoAt g' vs) ∧
      (∀ C' i d acc g', ds[i]? = some d → J i acc g' → AGv K C' vs tg (.d d) g' fun g3 => AT K C' tt g3 fun b g4 => BR b (AE K C' te g4 fun x g5 => ∃ d' g6 g7, Frz [x] g5 [d'] g6 ∧ acc.length < 1000000 ∧ WkE g6 g7 ∧ J (i + 1) (acc ++ [d']) g7) (∃ g7, WkE g4 g7 ∧ J (i + 1) acc g7)) ∧
      (∀ acc g', J ds.length acc g' → QL acc g')) : AN K C (tLc wi tg tt te vs) g QL := fun σ H Z I P p =>
  h σ H Z I _ fun J H1 Z1 ds g1 I1 s1 w q => by
    obtain ⟨g2, hw, W, j0, jn, js, je⟩ := q
    obtain ⟨G, Y, wk, wg, wy⟩ := w.ex
    obtain ⟨w1, w2⟩ := hw.wk
    have I2 : Ok K C g2 σ H1 Z1 := I1.weak w1
    intro D hD
    obtain ⟨n1, n2, n3⟩ := I2.new hD
    have nW : D ∉ C.W := fun z => by
      have := I2.wh D z
      rw [hD] at this; cases this
    have nZ0 : C.Z0 D = none := by
      cases q : C.Z0 D with
      | none => rfl
      | some o => have := I2.b0 D o q; rw [n2] at this; cases this
    -- the state between the turns
    refine lc_it wk (vs := vs) (σ := σ) (fun i H => ∃ g' Z' acc, Ok K C g' (L2.wipe σ vs) H Z' ∧ Same Z1 Z' ∧ New K C g' (L2.wipe σ vs) H Z' D acc ∧ W i acc g') ?_ (fun i H _ ⟨g', Z', acc, I', s', _⟩ => wg C g' _ H Z' I' s') ?_ ?_
    · have I3 : Ok K C g2 σ (upd H1 D (.lst [])) Z1 := I2.newO hD
      refine ⟨g2, Z1, [], I3.wipe w2, Same.refl _, ⟨⟨[], upd_same, .nil⟩, n1, n2, fun j w es e z => ?_⟩, j0⟩
      have hj : j ∉ vs := fun hm => by rw [w2 j hm] at e; cases e
      rw [wipe_get hj] at z
      exact n3 j w es e z
    · rintro i x H2 H3 hi ⟨g3, Z3, acc, I3, s3, nw, j3⟩ y
      have e : ds[i]? = some ds[i] := List.getElem?_eq_getElem hi
      obtain ⟨xs, x1, x2⟩ := nw.at_
      have Is := I3.safe nw x1
      -- the walk's step keeps the list too
      obtain ⟨Z4, I4, s4, a4⟩ := wy (C.with D xs) i H2 x H3 g3 _ Z3 _ Is s3 e y
      refine js (C.with D xs) i _ acc g3 e j3 _ H3 Z4 x I4 a4 _ fun g5 σ5 H5 Z5 I5 s5 f5 l5 q5 => ?_
      have hwp : L2.wipe σ5 vs = L2.wipe σ vs := by
        apply List.ext_getElem?
        intro k
        by_cases hk : k ∈ vs
        · have aux : ∀ (τ : St) (l : List Nat), k ∈ l → (L2.wipe τ l)[k]? = (if k < τ.length then some none else none) := by
            intro τ l
            induction l with
            | nil => intro h; simp at h
            | cons a l ih =>
              intro h
              unfold L2.wipe
              by_cases ka : a = k
              · subst ka
                by_cases kl : a < τ.length
                · rw [List.getElem?_set_self (by rw [wipe_length]; exact kl), if_pos kl]
                · rw [if_neg kl, List.getElem?_eq_none (by simp [wipe_length]; omega)]
              · rw [List.getElem?_set_ne ka]
                exact ih (by simpa [Ne.symm ka] using h)
          rw [aux _ _ hk, aux _ _ hk, l5, wipe_length]
        · rw [wipe_get hk, wipe_get hk, f5 k hk, wipe_get hk]
      refine ⟨hwp, q5 σ5 H5 Z5 I5 _ fun b H6 Z6 g6 I6 s6 q6 => ?_⟩
      cases b with
      | true =>
        refine q6.1 rfl σ5 H6 Z6 I6 _ fun v H7 Z7 x7 g7 I7 s7 a7 q7 => ?_
        obtain ⟨d', g8, g9, fz, hl, wk9, j9⟩ := q7
        obtain ⟨Z8, I8, s8, r8⟩ := fz.run I7 (.cons a7 .nil)
        cases r8 with
        | @cons _ _ _ _ r9 r10 =>
          cases r10
          obtain ⟨I9, e1, e2, e3⟩ := I8.unsafe n2 nW nZ0
          have s38 : Same Z3 Z8 := (((s4.trans s5).trans s6).trans s7).trans s8
          have I10 : Ok K C g9 (L2.wipe σ vs) H7 Z8 := by rw [← hwp]; exact (I9.weak wk9).wipe (jn _ _ _ j9)
          refine ⟨xs, e1, by rw [x2.length]; exact Nat.lt_of_lt_of_le hl (by decide), g9, Z8, acc ++ [d'], ?_, s3.trans s38, ⟨⟨xs ++ [v], upd_same, (x2.mono s38).append (.cons r9 .nil)⟩, e2, n2, fun j w es e z => ?_⟩, j9⟩
          · -- the list at D is changed: nobody holds it
            refine ⟨I10.ln, fun a o q => ?_, fun a o q hw => ?_, I10.z0, I10.nw, I10.b0, I10.wz, fun a q => ?_, fun k en q => ?_, I10.inj⟩
            · rw [upd_ne (ne_of_none q e2)]; exact I10.fz a o q
            · rw [upd_ne (ne_of_none q n2)]; exact I10.fr a o q hw
            · rw [upd_ne (fun z => nW (by rw [← z]; exact q))]; exact I10.wh a q
            · have r := I10.ent k en q
              cases en with
              | no => trivial
              | im d => exact r
              | ls w ds2 =>
                obtain ⟨a, ys, f1, f2, f3, f4, f5'⟩ := r
                have ne : a ≠ D := fun z => by
                  subst z
                  have hk : k ∉ vs := fun hm => by rw [jn _ _ _ j9 k hm] at q; cases q
                  rw [← hwp, wipe_get hk] at f1
                  rcases wk9.get q with zz | zz
                  · cases zz
                  · exact e3 k w ds2 zz f1
                exact ⟨a, ys, f1, by rw [upd_ne ne]; exact f2, f3, f4, f5'⟩
              | vl v => exact r
          · have hk : j ∉ vs := fun hm => by rw [jn _ _ _ j9 j hm] at e; cases e
            rw [← hwp, wipe_get hk] at z
            rcases wk9.get e with zz | zz
            · cases zz
            · exact e3 j w es zz z
      | false =>
        obtain ⟨g9, wk9, j9⟩ := q6.2 rfl
        obtain ⟨I9, e1, e2, e3⟩ := I6.unsafe n2 nW nZ0
        have s38 : Same Z3 Z6 := (s4.trans s5).trans s6
        have I10 : Ok K C g9 (L2.wipe σ vs) H6 Z6 := by rw [← hwp]; exact (I9.weak wk9).wipe (jn _ _ _ j9)
        refine ⟨g9, Z6, acc, I10, s3.trans s38, ⟨⟨xs, e1, x2.mono s38⟩, e2, n2, fun j w es e z => ?_⟩, j9⟩
        have hk : j ∉ vs := fun hm => by rw [jn _ _ _ j9 j hm] at e; cases e
        rw [← hwp, wipe_get hk] at z
        rcases wk9.get e with zz | zz
        · cases zz
        · exact e3 j w es zz z
    · rintro H2 ⟨g3, Z3, acc, I3, s3, nw, j3⟩
      refine p D H2 Z3 acc g3 (I3.unwipe (jn _ _ _ j3)) (s1.trans s3) ⟨nw.at_, nw.nz, nw.n0, fun j w es e z => ?_⟩ (je acc g3 j3)
      have hj : j ∉ vs := fun hm => by rw [jn _ _ _ j3 j hm] at e; cases e
      exact nw.no j w es e (by rw [wipe_get hj]; exact z)
end
end AL
/-! The layer's rules over the text: what is walked, comprehensions, targets, statements. -/
namespace AL
open PySem PySem.Spec L2

section
variable {X : Cx} {C : Ct} {g g' : Gm} {e a b c o tg iter elt : Expr} {es ifs : List Expr} {pos p apos p' : Pos} {Q : Av → Gm → Prop} {QT : Bool → Gm → Prop} {QL : List PyData → Gm → Prop} {QI : List PyData → Gm → Prop} {QG : Gm → Prop} {x : Str}
/-! ### what is walked -/
theorem ei_list (h : EE X C iter g fun x g1 => ∃ xs g2, Frz [x] g1 [.list xs] g2 ∧ QI xs g2) : EI X C tg iter g QI := EI.of (pi_list pe_t) (ai_list h)
theorem ei_tup (h : EE X C iter g fun x g1 => ∃ xs, x = .d (.tuple xs) ∧ QI xs g1) : EI X C tg iter g QI := EI.of (pi_tup pe_t) (ai_tup h)
theorem ei_range1 (n : Bn X "range") (h : EE X C a g fun x g1 => ∃ j, x = .d (.int j) ∧ -(2 ^ 62) ≤ j ∧ j < 2 ^ 62 ∧ QI (rangeD 0 j.toNat) g1) (he : starEach [a] X.env = (false, eval a X.env) :: starEach [] X.env := by rfl) (hs : starEach [a] X.env = [(false, eval a X.env)] := by rfl) : EI X C tg (.Call (.Name "range" p) [a] [] pos) g QI :=
  EI.of (pi_range1 n.gl n.mg pa_t hs) (ai_range1 (ea_cons (h.mono fun x g1 ⟨j, e1, h1, h2, q⟩ => ea_nil ⟨j, by rw [e1], h1, h2, q⟩) he))
theorem ei_range2 (n : Bn X "range") (h : EE X C a g fun x g1 => EE X C b g1 fun y g2 => ∃ i j, x = .d (.int i) ∧ y = .d (.int j) ∧ (-(2 ^ 62) ≤ i ∧ i < 2 ^ 62 ∧ -(2 ^ 62) ≤ j ∧ j < 2 ^ 62) ∧ QI (rangeD i (j - i).toNat) g2) (he : starEach [a, b] X.env = (false, eval a X.env) :: starEach [b] X.env := by rfl) (he2 : starEach [b] X.env = (false, eval b X.env) :: starEach [] X.env := by rfl)
    (hs : starEach [a, b] X.env = [(false, eval a X.env), (false, eval b X.env)] := by rfl) (hs2 : starEach [b] X.env = [(false, eval b X.env)] := by rfl) : EI X C tg (.Call (.Name "range" p) [a, b] [] pos) g QI :=
  EI.of (pi_range2 n.gl n.mg pa_t hs hs2) (ai_range2 (ea_cons (h.mono fun x g1 h1 => ea_cons (h1.mono fun y g2 ⟨i, j, e1, e2, h3, q⟩ => ea_nil ⟨i, j, by rw [e1, e2], h3, q⟩) he2) he))
theorem wk_enumL {K : PySem.W.Frag} {Z1 : Hp} {ad : Addr} {xs : List V} {ds : List PyData} (e1 : Z1 ad = some (.lst xs)) (e2 : DdA K Z1 xs ds) : Wk K Z1 (Ite K ad) (enumD ds) := by
  refine ⟨fun H => SqL K H ad xs, YPair (fun i => some (.int (i : Nat))) (fun i => xs[i]?), ?_, fun _ g σ H Z I s => SqL.of (I.fz _ _ (s _ _ e1)), fun _ i H x H' g σ Z d I s e y => ?_⟩
  · rw [enumD_len, ← e2.length]; exact walk_enum
  · obtain ⟨T, u, v, rfl, hT, rfl, h1, h2⟩ := y
    cases h1
    obtain ⟨d', k1, k2⟩ := (e2.mono s).getV h2
    obtain ⟨d'', k3, rfl⟩ := enumD_get e
    rw [k1] at k3; cases k3
    obtain ⟨I2, s2, _⟩ := I.newF (o := .tup [.int (i : Nat), v]) hT
    exact ⟨_, I2, s2, .tup (SqT.of upd_same) (.cons (.int _) (.cons (k2.mono s2) .nil))⟩
theorem wk_enumT {K : PySem.W.Frag} {Z1 : Hp} {ad : Addr} {xs : List V} {ds : List PyData} (e1 : SqT K Z1 ad xs) (e2 : DdA K Z1 xs ds) : Wk K Z1 (IteT K ad) (enumD ds) := by
  refine ⟨fun H => SqT K H ad xs, YPair (fun i => some (.int (i : Nat))) (fun i => xs[i]?), ?_, fun _ g σ H Z I s => Same.seqT I.fz (Same.seqT s e1), fun _ i H x H' g σ Z d I s e y => ?_⟩
  · rw [enumD_len, ← e2.length]
    refine ⟨fun i _ hi q => ⟨xs, xs[i], q, by simp [hi]⟩, fun _ q => ⟨xs, q, Nat.le_refl _⟩, fun i H v H' _ q y => ?_⟩
    obtain ⟨T, x, h1, h2, h3, h4⟩ := y
    exact ⟨T, .int (i : Nat), x, h1, h2, h3, rfl, h4 xs q⟩
  · obtain ⟨T, u, v, rfl, hT, rfl, h1, h2⟩ := y
    cases h1
    obtain ⟨d', k1, k2⟩ := (e2.mono s).getV h2
    obtain ⟨d'', k3, rfl⟩ := enumD_get e
    rw [k1] at k3; cases k3
    obtain ⟨I2, s2, _⟩ := I.newF (o := .tup [.int (i : Nat), v]) hT
    exact ⟨_, I2, s2, .tup (SqT.of upd_same) (.cons (.int _) (.cons (k2.mono s2) .nil))⟩
theorem ei_enum {elts : List Expr} {kk : Nat} {tpos : Pos} (n : Bn X "enumerate") (h : EE X C a g fun x g1 => ∃ ds g2, ((∃ es, Frz [x] g1 [.list ds] g2 ∧ es = ds) ∨ (x = .d (.tuple ds) ∧ g2 = g1)) ∧ QI (enumD ds) g2) (he : starEach [a] X.env = (false, eval a X.env) :: starEach [] X.env := by rfl) (hs : starEach [a] X.env = [(false, eval a X.env)] := by rfl) : EI X C (.Tuple elts kk tpos) (.Call (.Name "enumerate" p) [a] [] pos) g QI :=
  EI.of (pi_enumA n.gl n.mg pa_t hs) fun σ H Z I R p =>
    (show EA X C [a] g (fun xs g1 => ∃ x ds g2, xs = [x] ∧ ((∃ es, Frz [x] g1 [.list ds] g2 ∧ es = ds) ∨ (x = .d (.tuple ds) ∧ g2 = g1)) ∧ QI (enumD ds) g2) from ea_cons (h.mono fun x g1 ⟨ds, g2, q⟩ => ea_nil ⟨x, ds, g2, rfl, q⟩) he) σ H Z I _ fun vs H1 Z1 xs g1 I1 s1 a1 q1 => by
      obtain ⟨x, ds, g2, rfl, hx, q⟩ := q1
      cases a1 with
      | @cons _ v _ _ a1 a2 =>
        cases a2
        rcases hx with ⟨_, f, _⟩ | ⟨rfl, rfl⟩
        · obtain ⟨Z2, I2, s2, r2⟩ := f.run I1 (.cons a1 .nil)
          cases r2 with
          | cons r3 _ =>
            cases r3 with
            | @lst ad xs _ e1 e2 => exact ⟨ad, xs, rfl, .inl ⟨SqL.of (I2.fz _ _ e1), p _ H1 Z2 _ g2 I2 (s1.trans s2) (wk_enumL e1 e2) q⟩⟩
        · have a' : Dd X.K Z1 v (.tuple ds) := a1
          cases a' with
          | @tup ad xs _ e1 e2 => exact ⟨ad, xs, rfl, .inr ⟨Same.seqT I1.fz e1, p _ H1 Z1 _ g2 I1 s1 (wk_enumT e1 e2) q⟩⟩

/-! ### targets -/
theorem eg_d {i : Nat} {d : PyData} (l : Lc X i x) (h : SetE g i (.im d) g') (q : QG g') : EG X C (.Name x pos) (.d d) g QG := EG.of (pg_name l.nd l.hN l.loc l.fn) (ag_d h q)
theorem eg_v {i : Nat} {v : V} (l : Lc X i x) (h : SetE g i (.vl v) g') (q : QG g') : EG X C (.Name x pos) (.v v) g QG := EG.of (pg_name l.nd l.hN l.loc l.fn) (ag_v h q)
theorem eg_o {i j : Nat} {ds : List PyData} {g1 : Gm} (l : Lc X i x) (hj : g[j]? = some (.ls none ds)) (hf : SetE g j (.im (.list ds)) g1) (h : SetE g1 i (.im (.list ds)) g') (q : QG g') : EG X C (.Name x pos) (.o j) g QG := EG.of (pg_name l.nd l.hN l.loc l.fn) fun σ H Z v I a P p => by
  obtain ⟨Z1, I1, s1, d1⟩ := I.frz hj a hf
  exact p g' _ H Z1 (I1.setD d1 h) s1 q
theorem egs_nil (q : QG g) : EGs X C [] [] g QG := EGs.of pgs_nil (ags_nil q)
theorem egs_cons {d : PyData} {ds : List PyData} (h : EG X C e (.d d) g fun g1 => EGs X C es ds g1 QG) (hs : (assignEach (e :: es) X.env).map (·.2) = assign e X.env :: (assignEach es X.env).map (·.2) := by rfl) : EGs X C (e :: es) (d :: ds) g QG := EGs.of (pgs_cons pg_t pgs_t hs) (ags_cons h)
theorem eg_tup {k n : Nat} {ds : List PyData} (hc : X.calm = true) (hl : ds.length = n) (h : EGs X C es ds g QG) (hn : (assignEach es X.env).length = n := by rfl) (hst : (assignEach es X.env).findIdx? (·.1) = none := by rfl) : EG X C (.Tuple es k pos) (.d (.tuple ds)) g QG := EG.of (pg_tup hc pgs_t hn hst) (ag_tup hl h)
/-- the same in a comprehension -/
def EGv (X : Cx) (C : Ct) (vs : List Nat) (tg : Expr) (x : Av) (g : Gm) (Q : Gm → Prop) : Prop := AGv X.K C vs (tG X tg) x g Q
def EGsv (X : Cx) (C : Ct) (vs : List Nat) (tgs : List Expr) (ds : List PyData) (g : Gm) (Q : Gm → Prop) : Prop := AGsv X.K C vs (tGs X tgs) ds g Q
theorem EGv.of {vs : List Nat} {t : TG} {x : Av} (h : PG X tg t) (a : AGv X.K C vs t x g QG) : EGv X C vs tg x g QG := fun σ H Z v I r P p pins s u J q => h.run pins s σ H v u P J q (a σ H Z v I r P p)
theorem EGsv.of {vs : List Nat} {tgs : List Expr} {t : TGs} {ds : List PyData} (h : PGs X tgs t) (a : AGsv X.K C vs t ds g QG) : EGsv X C vs tgs ds g QG := fun σ H Z ws I r P p pins s us J q => h.run pins s σ H ws us P J q (a σ H Z ws I r P p)
theorem egv_d {vs : List Nat} {i : Nat} {d : PyData} (l : Lc X i x) (hi : i ∈ vs) (h : SetE g i (.im d) g') (q : QG g') : EGv X C vs (.Name x pos) (.d d) g QG := EGv.of (pg_name l.nd l.hN l.loc l.fn) (agv_d hi h q)
theorem egsv_nil {vs : List Nat} (q : QG g) : EGsv X C vs [] [] g QG := EGsv.of pgs_nil (agsv_nil q)
theorem egsv_cons {vs : List Nat} {d : PyData} {ds : List PyData} (h : EGv X C vs e (.d d) g fun g1 => EGsv X C vs es ds g1 QG) (hs : (assignEach (e :: es) X.env).map (·.2) = assign e X.env :: (assignEach es X.env).map (·.2) := by rfl) : EGsv X C vs (e :: es) (d :: ds) g QG := EGsv.of (pgs_cons pg_t pgs_t hs) (agsv_cons h)
theorem egv_tup {vs : List Nat} {k n : Nat} {ds : List PyData} (hc : X.calm = true) (hl : ds.length = n) (h : EGsv X C vs es ds g QG) (hn : (assignEach es X.env).length = n := by rfl) (hst : (assignEach es X.env).findIdx? (·.1) = none := by rfl) : EGv X C vs (.Tuple es k pos) (.d (.tuple ds)) g QG := EGv.of (pg_tup hc pgs_t hn hst) (agv_tup hl h)

/-! ### comprehensions -/
def uE (X : Cx) (sc : Scope) (e : Expr) : TE := fun σ H Q => ∀ s H' Cm cl fp, tE (bk X sc s H' Cm cl fp) e σ H Q
def uT (X : Cx) (sc : Scope) (es : List Expr) : TT := fun σ H Q => ∀ s H' Cm cl fp, tTs (bk X sc s H' Cm cl fp) es σ H Q
def uG (X : Cx) (sc : Scope) (tg : Expr) : TG := fun v σ H Q => ∀ s H' Cm cl fp, tG (bk X sc s H' Cm cl fp) tg v σ H Q
/-- in every block of the comprehension -/
def Bk (X : Cx) (sc : Scope) (φ : Cx → Prop) : Prop := ∀ s H Cm cl fp, φ (bk X sc s H Cm cl fp)
/-- one turn of a comprehension -/
def Turns (X : Cx) (sc : Scope) (C : Ct) (vs : List Nat) (tg : Expr) (ifs : List Expr) (elt : Expr) (d : PyData) (g : Gm) (yes : PyData → Gm → Prop) (no : Gm → Prop) : Prop :=
  Bk X sc fun X1 => EGv X1 C vs tg (.d d) g fun g3 => Bk X sc fun X2 => ETs X2 C ifs g3 fun b g4 => BR b (Bk X sc fun X3 => EE X3 C elt g4 fun x g5 => ∃ d' g6, Frz [x] g5 [d'] g6 ∧ yes d' g6) (no g4)
theorem tl_lc {scope : Scope} {vs : List Nat} (h : EI X C tg iter g fun ds g1 => ∃ g2, WipeE g1 vs g2 ∧ ∃ J : Nat → List PyData → Gm → Prop, J 0 [] g2 ∧ (∀ i acc g', J i acc g' → NoAt g' vs) ∧
      (∀ C' i d acc g', ds[i]? = some d → J i acc g' → Turns X scope C' vs tg ifs elt d g' (fun d' g6 => ∃ g7, acc.length < 1000000 ∧ WkE g6 g7 ∧ J (i + 1) (acc ++ [d']) g7) (fun g4 => ∃ g7, WkE g4 g7 ∧ J (i + 1) acc g7)) ∧
      (∀ acc g', J ds.length acc g' → QL acc g')) : AN X.K C (tLc (tI X tg iter) (uG X scope tg) (uT X scope ifs) (uE X scope elt) vs) g QL := by
  refine an_lc fun σ H Z I R p => h σ H Z I R fun J H' Z' ds g' I' s' w ⟨g2, h1, J', h2, h3, h4, h5⟩ => p J H' Z' ds g' I' s' w ⟨g2, h1, J', h2, h3, fun C' i d acc g3 e j => ?_, h5⟩
  have t := h4 C' i d acc g3 e j
  intro σ1 H1 Z1 v I1 a1 Q' q' s H2 Cm cl fp
  refine t s H2 Cm cl fp σ1 H1 Z1 v I1 a1 Q' fun g4 σ4 H4 Z4 I4 s4 f4 l4 q4 => q' g4 σ4 H4 Z4 I4 s4 f4 l4 ?_
  intro σ5 H5 Z5 I5 Q5 p5 s H2 Cm cl fp
  refine q4 s H2 Cm cl fp σ5 H5 Z5 I5 Q5 fun b H6 Z6 g6 I6 s6 q6 => p5 b H6 Z6 g6 I6 s6 ⟨fun hb => ?_, fun hb => q6.2 hb⟩
  intro σ7 H7 Z7 I7 Q7 p7 s H2 Cm cl fp
  refine q6.1 hb s H2 Cm cl fp σ7 H7 Z7 I7 Q7 fun v H8 Z8 x g8 I8 s8 a8 q8 => p7 v H8 Z8 x g8 I8 s8 a8 ?_
  obtain ⟨d', g9, f, g10, hl, wk, hj⟩ := q8
  exact ⟨d', g9, g10, f, hl, wk, hj⟩
theorem en_lc {N : List Str} {sc scope : Scope} {k : Nat} (F : CxF X N sc k) (own : List (Str × Nat)) (ok : blkC N sc scope own = true) (h : EI X C tg iter g fun ds g1 => ∃ g2, WipeE g1 (own.map (·.2)) g2 ∧ ∃ J : Nat → List PyData → Gm → Prop, J 0 [] g2 ∧ (∀ i acc g', J i acc g' → NoAt g' (own.map (·.2))) ∧
      (∀ C' i d acc g', ds[i]? = some d → J i acc g' → Turns X scope C' (own.map (·.2)) tg ifs elt d g' (fun d' g6 => ∃ g7, acc.length < 1000000 ∧ WkE g6 g7 ∧ J (i + 1) (acc ++ [d']) g7) (fun g4 => ∃ g7, WkE g4 g7 ∧ J (i + 1) acc g7)) ∧
      (∀ acc g', J ds.length acc g' → QL acc g')) (hs : ∀ x, foldedSetIterable iter X.env x = pure x := by intro _; rfl) : EN X C (.ListComp elt [⟨tg, iter, ifs, 0⟩] scope pos) g QL :=
  EN.of (pe_lc F.calm (by rw [F.hN]; exact F.nd) pi_t (F.ok ok) (g := uG X scope tg) (tt := uT X scope ifs) (te := uE X scope elt) (fun s H Cm cl fp => ⟨fun pins s1 σ H1 v u Q I r h => h s H Cm cl fp pins s1 u I r⟩) (fun s H Cm cl fp => ⟨fun pins s1 σ H1 Q I h => h s H Cm cl fp pins s1 I⟩) (fun s H Cm cl fp => ⟨fun pins s1 σ H1 Q I h => h s H Cm cl fp pins s1 I⟩) hs) (tl_lc h)
/-- turns that leave the slots as they are: the i-th item gives the i-th of rs -/
theorem lcMap {vs : List Nat} {scope : Scope} {QL : List PyData → Gm → Prop} {ds rs : List PyData} {g1 g2 : Gm} (hw : WipeE g1 vs g2) (hl : rs.length = ds.length) (hz : ds.length ≤ 1000000)
    (h : ∀ (C' : Ct) (i : Nat) (d : PyData), ds[i]? = some d → Turns X scope C' vs tg ifs elt d g2 (fun d' g6 => rs[i]? = some d' ∧ WkE g6 g2) (fun _ => False)) (q : QL rs g2) :
    ∃ g2, WipeE g1 vs g2 ∧ ∃ J : Nat → List PyData → Gm → Prop, J 0 [] g2 ∧ (∀ i acc g', J i acc g' → NoAt g' vs) ∧
      (∀ C' i d acc g', ds[i]? = some d → J i acc g' → Turns X scope C' vs tg ifs elt d g' (fun d' g6 => ∃ g7, acc.length < 1000000 ∧ WkE g6 g7 ∧ J (i + 1) (acc ++ [d']) g7) (fun g4 => ∃ g7, WkE g4 g7 ∧ J (i + 1) acc g7)) ∧
      (∀ acc g', J ds.length acc g' → QL acc g') := by
  refine ⟨g2, hw, fun i acc g' => g' = g2 ∧ acc = rs.take i ∧ i ≤ ds.length, ⟨rfl, by simp, Nat.zero_le _⟩, fun i acc g' ⟨e, _⟩ => by rw [e]; exact hw.wk.2, ?_, fun acc g' ⟨e1, e2, _⟩ => by rw [e1, e2, ← hl, List.take_length]; exact q⟩
  rintro C' i d acc g' e ⟨rfl, rfl, hi⟩ s H Cm cl fp σ1 H1 Z1 v I1 a1 Q' q'
  have hi' : i < ds.length := (List.getElem?_eq_some_iff.mp e).1
  refine h C' i d e s H Cm cl fp σ1 H1 Z1 v I1 a1 Q' fun g4 σ4 H4 Z4 I4 s4 f4 l4 q4 => q' g4 σ4 H4 Z4 I4 s4 f4 l4 ?_
  intro s H Cm cl fp σ5 H5 Z5 I5 Q5 p5
  refine q4 s H Cm cl fp σ5 H5 Z5 I5 Q5 fun b H6 Z6 g6 I6 s6 q6 => p5 b H6 Z6 g6 I6 s6 ⟨fun hb => ?_, fun hb => (q6.2 hb).elim⟩
  intro s H Cm cl fp σ7 H7 Z7 I7 Q7 p7
  refine q6.1 hb s H Cm cl fp σ7 H7 Z7 I7 Q7 fun v H8 Z8 x g8 I8 s8 a8 q8 => p7 v H8 Z8 x g8 I8 s8 a8 ?_
  obtain ⟨d', g9, f, er, wk⟩ := q8
  refine ⟨d', g9, f, _, by rw [List.length_take]; omega, wk, rfl, ?_, hi'⟩
  have hr := List.getElem?_eq_some_iff.mp er
  obtain ⟨hr1, hr2⟩ := hr
  rw [← hr2]; exact List.take_append_getElem hr1
/-- .. with a test: sel tells what the i-th item gives -/
theorem lcSel {vs : List Nat} {scope : Scope} {ds : List PyData} {g1 g2 : Gm} (sel : Nat → Option PyData) (hw : WipeE g1 vs g2) (hz : ds.length ≤ 1000000)
    (h : ∀ (C' : Ct) (i : Nat) (d : PyData), ds[i]? = some d → Turns X scope C' vs tg ifs elt d g2 (fun d' g6 => sel i = some d' ∧ WkE g6 g2) (fun g4 => sel i = none ∧ WkE g4 g2)) (q : QL ((List.range ds.length).filterMap sel) g2) :
    ∃ g2, WipeE g1 vs g2 ∧ ∃ J : Nat → List PyData → Gm → Prop, J 0 [] g2 ∧ (∀ i acc g', J i acc g' → NoAt g' vs) ∧
      (∀ C' i d acc g', ds[i]? = some d → J i acc g' → Turns X scope C' vs tg ifs elt d g' (fun d' g6 => ∃ g7, acc.length < 1000000 ∧ WkE g6 g7 ∧ J (i + 1) (acc ++ [d']) g7) (fun g4 => ∃ g7, WkE g4 g7 ∧ J (i + 1) acc g7)) ∧
      (∀ acc g', J ds.length acc g' → QL acc g') := by
  refine ⟨g2, hw, fun i acc g' => g' = g2 ∧ acc = (List.range i).filterMap sel ∧ i ≤ ds.length, ⟨rfl, by simp, Nat.zero_le _⟩, fun i acc g' ⟨e, _⟩ => by rw [e]; exact hw.wk.2, ?_, fun acc g' ⟨e1, e2, _⟩ => by rw [e1, e2]; exact q⟩
  rintro C' i d acc g' e ⟨rfl, rfl, hi⟩ s H Cm cl fp σ1 H1 Z1 v I1 a1 Q' q'
  have hi' : i < ds.length := (List.getElem?_eq_some_iff.mp e).1
  refine h C' i d e s H Cm cl fp σ1 H1 Z1 v I1 a1 Q' fun g4 σ4 H4 Z4 I4 s4 f4 l4 q4 => q' g4 σ4 H4 Z4 I4 s4 f4 l4 ?_
  intro s H Cm cl fp σ5 H5 Z5 I5 Q5 p5
  refine q4 s H Cm cl fp σ5 H5 Z5 I5 Q5 fun b H6 Z6 g6 I6 s6 q6 => p5 b H6 Z6 g6 I6 s6 ⟨fun hb => ?_, fun hb => ?_⟩
  · intro s H Cm cl fp σ7 H7 Z7 I7 Q7 p7
    refine q6.1 hb s H Cm cl fp σ7 H7 Z7 I7 Q7 fun v H8 Z8 x g8 I8 s8 a8 q8 => p7 v H8 Z8 x g8 I8 s8 a8 ?_
    obtain ⟨d', g9, f, er, wk⟩ := q8
    refine ⟨d', g9, f, _, ?_, wk, rfl, ?_, hi'⟩
    · have := List.length_filterMap_le sel (List.range i)
      simp at this
      omega
    · rw [List.range_succ, List.filterMap_append]
      simp [er]
  · obtain ⟨er, wk⟩ := q6.2 hb
    refine ⟨_, wk, rfl, ?_, hi'⟩
    rw [List.range_succ, List.filterMap_append]
    simp [er]

/-! ### statements -/
variable {D : Ae} {st : Stmt} {sts body body2 : List Stmt}
theorem ess_nil (q : D.nx g) : ESs X C [] g D := ESs.of pss_nil (as_next q)
theorem ess_cons (h : ES X C st g { D with nx := fun g' => ESs X C sts g' D }) : ESs X C (st :: sts) g D := ESs.of (pss_cons ps_t pss_t) (as_seq h)
theorem ess_one (h : ES X C st g D) : ESs X C [st] g D := ESs.of (pss_one ps_t) h
theorem es_ret (h : EE X C e g D.rt) : ES X C (.Return (some e) pos) g D := ES.of (ps_ret pe_t) (as_ret h)
theorem es_retL (h : EN X C e g D.rn) : ES X C (.Return (some e) pos) g D := ES.of (ps_ret pe_t) (as_retL h)
theorem es_pass (h : D.nx g) : ES X C (.Pass pos) g D := ES.of ps_pass (as_next h)
theorem es_if (h : ET X C c g fun b g1 => BR b (ESs X C body g1 D) (ESs X C body2 g1 D)) : ES X C (.If c body body2 pos) g D := ES.of (ps_if pt_t pss_t pss_t) (as_if h)
theorem es_expr (h : EE X C e g fun _ g' => D.nx g') (hs : swapsWith e none pos.line X.env = pure false := by rfl) : ES X C (.Expr e pos) g D := ES.of (ps_expr pe_t hs) (as_drop h)
theorem es_set {i : Nat} (l : Lc X i x) (h : EE X C e g fun y g1 => AG X.K C (gName i) y g1 D.nx) (hs : swapsWith e (some (.Name x p')) pos.line X.env = pure false := by rfl) : ES X C (.Assign [.Name x p'] e pos) g D := ES.of (ps_set l.nd l.hN l.loc pe_t hs l.fn) (as_asg h)
/-- a slot takes a new list of its own -/
theorem es_setN {i : Nat} (l : Lc X i x) (h : EN X C e g fun ds g1 => ∃ g2, SetE g1 i (.ls none ds) g2 ∧ D.nx g2) (hs : swapsWith e (some (.Name x p')) pos.line X.env = pure false := by rfl) : ES X C (.Assign [.Name x p'] e pos) g D := ES.of (ps_set l.nd l.hN l.loc pe_t hs l.fn) (as_asgN h)
theorem ag_o {i j : Nat} {ds : List PyData} {g1 : Gm} (hj : g[j]? = some (.ls none ds)) (hf : SetE g j (.im (.list ds)) g1) (h : SetE g1 i (.im (.list ds)) g') (q : QG g') : AG X.K C (gName i) (.o j) g QG := fun σ H Z v I a P p => by
  obtain ⟨Z1, I1, s1, d1⟩ := I.frz hj a hf
  exact p g' _ H Z1 (I1.setD d1 h) s1 q
/-- name = a comprehension -/
theorem es_lcN {N : List Str} {sc scope : Scope} {k i : Nat} (F : CxF X N sc k) (own : List (Str × Nat)) (ok : blkC N sc scope own = true) (hy : (decide (N[i]? = some x) && locB sc x) = true) (h : EI X C tg iter g fun ds g1 => ∃ g2, WipeE g1 (own.map (·.2)) g2 ∧ ∃ J : Nat → List PyData → Gm → Prop, J 0 [] g2 ∧ (∀ i acc g', J i acc g' → NoAt g' (own.map (·.2))) ∧
      (∀ C' i d acc g', ds[i]? = some d → J i acc g' → Turns X scope C' (own.map (·.2)) tg ifs elt d g' (fun d' g6 => ∃ g7, acc.length < 1000000 ∧ WkE g6 g7 ∧ J (i + 1) (acc ++ [d']) g7) (fun g4 => ∃ g7, WkE g4 g7 ∧ J (i + 1) acc g7)) ∧
      (∀ acc g', J ds.length acc g' → ∃ g2, SetE g' i (.ls none acc) g2 ∧ D.nx g2)) (hsw : swapsWith (.ListComp elt [⟨tg, iter, ifs, 0⟩] scope pos) (some (.Name x p')) p.line X.env = pure true) (hs : ∀ x, foldedSetIterable iter X.env x = pure x := by intro _; rfl) : ES X C (.Assign [.Name x p'] (.ListComp elt [⟨tg, iter, ifs, 0⟩] scope pos) p) g D := by
  simp only [Bool.and_eq_true, decide_eq_true_eq] at hy
  exact ES.of (ps_setLc F.calm (by rw [F.hN]; exact F.nd) (by rw [F.hN]; exact hy.1) (by rw [F.hsc]; exact locB_ok hy.2) hsw pi_t (F.ok ok) (g := uG X scope tg) (tt := uT X scope ifs) (te := uE X scope elt) (fun s H Cm cl fp => ⟨fun pins s1 σ H1 v u Q I r h => h s H Cm cl fp pins s1 u I r⟩) (fun s H Cm cl fp => ⟨fun pins s1 σ H1 Q I h => h s H Cm cl fp pins s1 I⟩) (fun s H Cm cl fp => ⟨fun pins s1 σ H1 Q I h => h s H Cm cl fp pins s1 I⟩) hs) (as_asgN (tl_lc h))
theorem es_lc {N : List Str} {sc scope : Scope} {k i : Nat} (F : CxF X N sc k) (own : List (Str × Nat)) (ok : blkC N sc scope own = true) (hy : (decide (N[i]? = some x) && locB sc x) = true) (h : EI X C tg iter g fun ds g1 => ∃ g2, WipeE g1 (own.map (·.2)) g2 ∧ ∃ J : Nat → List PyData → Gm → Prop, J 0 [] g2 ∧ (∀ i acc g', J i acc g' → NoAt g' (own.map (·.2))) ∧
      (∀ C' i d acc g', ds[i]? = some d → J i acc g' → Turns X scope C' (own.map (·.2)) tg ifs elt d g' (fun d' g6 => ∃ g7, acc.length < 1000000 ∧ WkE g6 g7 ∧ J (i + 1) (acc ++ [d']) g7) (fun g4 => ∃ g7, WkE g4 g7 ∧ J (i + 1) acc g7)) ∧
      (∀ acc g', J ds.length acc g' → ∃ g2, SetE g' i (.im (.list acc)) g2 ∧ D.nx g2)) (hsw : swapsWith (.ListComp elt [⟨tg, iter, ifs, 0⟩] scope pos) (some (.Name x p')) p.line X.env = pure true) (hs : ∀ x, foldedSetIterable iter X.env x = pure x := by intro _; rfl) : ES X C (.Assign [.Name x p'] (.ListComp elt [⟨tg, iter, ifs, 0⟩] scope pos) p) g D := by
  simp only [Bool.and_eq_true, decide_eq_true_eq] at hy
  refine ES.of (ps_setLc F.calm (by rw [F.hN]; exact F.nd) (by rw [F.hN]; exact hy.1) (by rw [F.hsc]; exact locB_ok hy.2) hsw pi_t (F.ok ok) (g := uG X scope tg) (tt := uT X scope ifs) (te := uE X scope elt) (fun s H Cm cl fp => ⟨fun pins s1 σ H1 v u Q I r h => h s H Cm cl fp pins s1 u I r⟩) (fun s H Cm cl fp => ⟨fun pins s1 σ H1 Q I h => h s H Cm cl fp pins s1 I⟩) (fun s H Cm cl fp => ⟨fun pins s1 σ H1 Q I h => h s H Cm cl fp pins s1 I⟩) hs) (as_asg (ae_an ?_))
  refine tl_lc ?_
  exact fun σ H Z I R pp => h σ H Z I R fun J H' Z' ds g' I' s' w ⟨g2, h1, J', h2, h3, h4, h5⟩ => pp J H' Z' ds g' I' s' w ⟨g2, h1, J', h2, h3, h4, fun acc g' hj => by
    obtain ⟨g2, s2, q⟩ := h5 acc g' hj
    exact ag_d s2 q⟩
/-- a, b = e1, e2 -/
theorem es_par {i j : Nat} {x y : Str} {px py pt : Pos} {kt k2 : Nat} {pt2 : Pos} (hc : X.calm = true) (l1 : Lc X i x) (l2 : Lc X j y) (hij : i ≠ j) (hx : X.env.scope.names.lookup x = some .local) (hy : X.env.scope.names.lookup y = some .local)
    (h : EA X C [a, b] g fun xs g1 => ∃ d e g2 g3, xs = [.d d, .d e] ∧ SetE g1 i (.im d) g2 ∧ SetE g2 j (.im e) g3 ∧ D.nx g3)
    (hw : swappedStores [.Tuple [.Name x px, .Name y py] kt pt] (.Tuple [a, b] k2 pt2) X.env = pure (some [x, y]))
    (hs : swapsWithSole [.Tuple [.Name x px, .Name y py] kt pt] (.Tuple [a, b] k2 pt2) pos.line X.env = pure false := by rfl) : ES X C (.Assign [.Tuple [.Name x px, .Name y py] kt pt] (.Tuple [a, b] k2 pt2) pos) g D :=
  ES.of (ps_par hc l1.nd l1.hN l2.hN hij hx hy pa_t hw hs) (as_par h)
/-- target = e, of any form -/
theorem es_asg (h : EE X C e g fun y g1 => EG X C tg y g1 D.nx) (hs : swapsWithSole [tg] e pos.line X.env = pure false := by rfl) (hw : swappedStores [tg] e X.env = pure none := by rfl) (h1 : (assignEach [tg] X.env).map (·.2) = [assign tg X.env] := by rfl) : ES X C (.Assign [tg] e pos) g D := ES.of (ps_asg pe_t pg_t hs hw h1) (as_asg h)
theorem es_augAdd {i : Nat} {v : Int} (l : Lc X i x) (h0 : g[i]? = some (.im (.int v))) (h : EE X C e g fun x g1 => ∃ b g2, x = .d (.int b) ∧ SetE g1 i (.im (.int (v + b))) g2 ∧ D.nx g2) : ES X C (.AugAssign (.Name x p') .Add e pos) g D := ES.of (ps_aug l.nd l.hN l.loc pe_t ip_add l.fn) (as_aug h0 h)
theorem es_augSub {i : Nat} {v : Int} (l : Lc X i x) (h0 : g[i]? = some (.im (.int v))) (h : EE X C e g fun x g1 => ∃ b g2, x = .d (.int b) ∧ SetE g1 i (.im (.int (v - b))) g2 ∧ D.nx g2) : ES X C (.AugAssign (.Name x p') .Sub e pos) g D := ES.of (ps_aug l.nd l.hN l.loc pe_t ip_sub l.fn) (as_aug h0 h)
theorem es_while (hp : PassesOwn (model X.prog X.w) X.A X.env X.xe) (J : Nat → Gm → Prop) (h0 : ∃ m, J m g) (h : ∀ m g', J m g' → ET X C c g' fun b g2 => BR b (ESs X C body g2 { D with nx := fun g3 => ∃ m', m' < m ∧ J m' g3, ct := fun g3 => ∃ m', m' < m ∧ J m' g3, bk := D.nx }) (D.nx g2)) : ES X C (.While c body [] pos) g D := ES.of (ps_while hp pt_t pss_t) (as_while J h0 h)
theorem es_for (hp : PassesOwn (model X.prog X.w) X.A X.env X.xe) (hc : X.calm = true) (h : EI X C tg iter g fun ds g1 => ∃ J : Nat → Gm → Prop, J 0 g1 ∧ (∀ i d g', ds[i]? = some d → J i g' → EG X C tg (.d d) g' fun g2 => ESs X C body g2 { D with nx := J (i + 1), ct := J (i + 1), bk := D.nx }) ∧ ∀ g', J ds.length g' → D.nx g') (hs : ∀ x, foldedSetIterable iter X.env x = pure x := by intro _; rfl) : ES X C (.For tg iter body [] pos) g D := ES.of (ps_for hp hc pi_t pg_t pss_t hs) (as_for h)
theorem es_break (h : D.bk g) : ES X C (.Break pos) g D := ES.of ps_break (as_brk h)
theorem es_continue (h : D.ct g) : ES X C (.Continue pos) g D := ES.of ps_continue (as_ct h)
/-- xs[i] = e, xs an own list -/
theorem es_setIx {o ix : Expr} {tp : Pos} (h : EE X C e g fun y g1 => EE X C o g1 fun x g2 => EE X C ix g2 fun z g3 => ∃ j w ds d g4 g5 i k, x = .o j ∧ z = .d (.int i) ∧ Frz [y] g3 [d] g4 ∧ g4[j]? = some (.ls w ds) ∧ ixN ds.length i = some k ∧ SetE g4 j (.ls w (ds.set k d)) g5 ∧ D.nx g5)
    (ha : ∀ v, assign (.Subscript o ix tp) X.env v = (do
      let ov ← holding [v] (eval o X.env)
      let iv ← holding [v, ov] (eval ix X.env)
      standAt tp
      holding [v, ov, iv] (setItem ov iv v)
      release [v, ov, iv] []) := by intro _; rfl)
    (hs : swapsWithSole [.Subscript o ix tp] e pos.line X.env = pure false := by rfl) (hw : swappedStores [.Subscript o ix tp] e X.env = pure none := by rfl) (h1 : (assignEach [.Subscript o ix tp] X.env).map (·.2) = [assign (.Subscript o ix tp) X.env] := by rfl) : ES X C (.Assign [.Subscript o ix tp] e pos) g D :=
  ES.of (ps_asg pe_t (pg_sub pe_t pe_t set_list ha) hs hw h1) fun σ H Z I D' d => h σ H Z I _ fun v H1 Z1 y g1 I1 s1 a1 q1 => by
    refine q1 σ H1 Z1 I1 _ fun u H2 Z2 x g2 I2 s2 a2 q2 => q2 σ H2 Z2 I2 _ fun w' H3 Z3 z g3 I3 s3 a3 q3 => ?_
    obtain ⟨j, w, ds, dd, g4, g5, i, k, rfl, rfl, f, hj, hk, hs5, q⟩ := q3
    obtain ⟨Z4, I4, s4, r4⟩ := f.run I3 (.cons ((a1.mono s2).mono s3) .nil)
    cases r4 with
    | cons r5 r6 =>
      cases r6; cases a3
      obtain ⟨ad, xs, rfl, o2, o3, o4, o5⟩ := I4.own hj a2
      refine ⟨ad, xs, i, k, rfl, rfl, o2, by rw [o4.length]; exact hk, ?_⟩
      exact d.nx g5 _ _ Z4 (I4.put hj a2 (o4.set k r5) hs5) (((s1.trans s2).trans s3).trans s4) q
end
end AL
/-! The layer's leaves and its stepping tactic. -/
namespace AL
open PySem PySem.Spec L2

def IxN (N : List Str) (i : Nat) (x : Str) : Prop := N[i]? = some x
section
variable {X : Cx} {C : Ct} {g g' g2 g3 g4 : Gm} {Q : Av → Gm → Prop} {QG : Gm → Prop} {QL : List PyData → Gm → Prop} {K : PySem.W.Frag}
theorem nm_own {N : List Str} {sc scope : Scope} {k i : Nat} {x : Str} {s : Shared} {H : Hp} {Cm : Addr} {cl : List (Str × Addr)} {fp : List Addr} (F : CxF X N sc k) (h : IxN N i x) (hc : (locB scope x && okName x) = true) : Nm (bk X scope s H Cm cl fp) i x := by
  refine F.nmB ?_
  simp only [Bool.and_eq_true, decide_eq_true_eq]
  simp only [Bool.and_eq_true] at hc
  exact ⟨h, hc⟩
theorem lc_own {N : List Str} {sc scope : Scope} {k i : Nat} {x : Str} {s : Shared} {H : Hp} {Cm : Addr} {cl : List (Str × Addr)} {fp : List Addr} (F : CxF X N sc k) (h : IxN N i x) (hc : locB scope x = true) : Lc (bk X scope s H Cm cl fp) i x := by
  refine F.lcB ?_
  simp only [Bool.and_eq_true, decide_eq_true_eq]
  exact ⟨h, hc⟩
theorem lf_frz {xs : List Av} {ds : List PyData} (f : Frz xs g ds g2) (hl : ds.length ≤ 1000000) (q : QL ds g2) : ∃ ds g2, Frz xs g ds g2 ∧ ds.length ≤ 1000000 ∧ QL ds g2 := ⟨ds, g2, f, hl, q⟩
theorem lf_call {S : Con} {n : Nat} {xs : List Av} {as : List Ar} {r : PyData} {φ : PyData → Prop} (hn : xs.length = n) (cv : CvA g xs as) (con : S as r) (q : φ r) : xs.length = n ∧ ∃ as r, CvA g xs as ∧ S as r ∧ φ r := ⟨hn, as, r, cv, con, q⟩
theorem lf_callN {S : List Ar → List PyData → Prop} {n : Nat} {xs : List Av} {as : List Ar} {r : List PyData} (hn : xs.length = n) (cv : CvA g xs as) {φ : List PyData → Prop} (con : S as r) (q : φ r) : xs.length = n ∧ ∃ as r, CvA g xs as ∧ S as r ∧ φ r := ⟨hn, as, r, cv, con, q⟩
theorem lf_callM {S : ConM} {n j : Nat} {w : Option Nat} {rest : List Av} {as : List Ar} {ds ds' : List PyData} {r : PyData} (hn : (Av.o j :: rest).length = n) (cv : CvA g rest as) (hj : g[j]? = some (.ls w ds)) (con : S ds as r ds') (hs : SetE g j (.ls w ds') g2) {φ : PyData → Gm → Prop} (q : φ r g2) :
    (Av.o j :: rest).length = n ∧ ∃ j' w ds rest' as r ds' g2, (Av.o j :: rest) = .o j' :: rest' ∧ CvA g rest' as ∧ g[j']? = some (.ls w ds) ∧ S ds as r ds' ∧ SetE g j' (.ls w ds') g2 ∧ φ r g2 := ⟨hn, j, w, ds, rest, as, r, ds', g2, rfl, cv, hj, con, hs, q⟩
theorem lf_setN {i : Nat} {ds : List PyData} (hs : SetE g i (.ls none ds) g2) (q : QG g2) : ∃ g2, SetE g i (.ls none ds) g2 ∧ QG g2 := ⟨g2, hs, q⟩
theorem lf_setI {i : Nat} {ds : List PyData} (hs : SetE g i (.im (.list ds)) g2) (q : QG g2) : ∃ g2, SetE g i (.im (.list ds)) g2 ∧ QG g2 := ⟨g2, hs, q⟩
theorem lf_par {i j : Nat} {d e : PyData} (h1 : SetE g i (.im d) g2) (h2 : SetE g2 j (.im e) g3) (q : QG g3) : ∃ d' e' g2 g3, [Av.d d, Av.d e] = [.d d', .d e'] ∧ SetE g i (.im d') g2 ∧ SetE g2 j (.im e') g3 ∧ QG g3 := ⟨d, e, g2, g3, rfl, h1, h2, q⟩
theorem lf_aug {i : Nat} {b : Int} {f : Int → Int} (h1 : SetE g i (.im (.int (f b))) g2) (q : QG g2) : ∃ b' g2, Av.d (.int b) = .d (.int b') ∧ SetE g i (.im (.int (f b'))) g2 ∧ QG g2 := ⟨b, g2, rfl, h1, q⟩
theorem lf_append {j : Nat} {w : Option Nat} {y : Av} {ds : List PyData} {d : PyData} (f : Frz [y] g [d] g3) (hj : g3[j]? = some (.ls w ds)) (hl : ds.length < 1000000) (hs : SetE g3 j (.ls w (ds ++ [d])) g4) (q : QG g4) :
    ∃ w ds d g3 g4, Frz [y] g [d] g3 ∧ g3[j]? = some (.ls w ds) ∧ ds.length < 1000000 ∧ SetE g3 j (.ls w (ds ++ [d])) g4 ∧ QG g4 := ⟨w, ds, d, g3, g4, f, hj, hl, hs, q⟩
theorem lf_app0 {j : Nat} {w0 : Option Nat} {ds0 : List PyData} {A : Nat → Prop} (hj : g[j]? = some (.ls w0 ds0)) (h : A j) : ∃ j' w0 ds0, Av.o j = .o j' ∧ g[j']? = some (.ls w0 ds0) ∧ A j' := ⟨j, w0, ds0, rfl, hj, h⟩
theorem lf_turn {x : Av} {d : PyData} {yes : PyData → Gm → Prop} (f : Frz [x] g [d] g2) (q : yes d g2) : ∃ d' g6, Frz [x] g [d'] g6 ∧ yes d' g6 := ⟨d, g2, f, q⟩
theorem lf_kt {x : Av} {ds : List PyData} {φ : List PyData → Prop} (h : KT g x ds) (q : φ ds) : ∃ ds, KT g x ds ∧ φ ds := ⟨ds, h, q⟩
theorem lf_isi {d : PyData} {y : V} {q : PyData → Prop} (hd : notD d = true) (h : q d) : ∃ d', notD d' = true ∧ (Av.d d = .d d' ∨ ∃ j w ds, Av.d d = .o j ∧ g[j]? = some (.ls w ds) ∧ d' = .list ds) ∧ Av.v y = .v y ∧ q d' := ⟨d, hd, .inl rfl, rfl, h⟩
theorem lf_iL {x : Av} {xs : List PyData} (f : Frz [x] g [.list xs] g2) (q : QL xs g2) : ∃ xs g2, Frz [x] g [.list xs] g2 ∧ QL xs g2 := ⟨xs, g2, f, q⟩
theorem lf_enumT {ds : List PyData} {φ : List PyData → Gm → Prop} (q : φ ds g) : ∃ ds' g2, ((∃ es, Frz [Av.d (.tuple ds)] g [.list ds'] g2 ∧ es = ds') ∨ (Av.d (.tuple ds) = .d (.tuple ds') ∧ g2 = g)) ∧ φ ds' g2 := ⟨ds, g, .inr ⟨rfl, rfl⟩, q⟩
theorem lf_enumL {x : Av} {ds : List PyData} {φ : List PyData → Gm → Prop} (f : Frz [x] g [.list ds] g2) (q : φ ds g2) : ∃ ds' g2, ((∃ es, Frz [x] g [.list ds'] g2 ∧ es = ds') ∨ (x = .d (.tuple ds') ∧ g2 = g)) ∧ φ ds' g2 := ⟨ds, g2, .inl ⟨ds, f, rfl⟩, q⟩
end
theorem small_mul {i j : Int} (h : -(2 ^ 64) < j ∧ j < 2 ^ 64) : CMul i j := .inr h
theorem small_mulL {i j : Int} (h : -(2 ^ 64) < i ∧ i < 2 ^ 64) : CMul i j := .inl h
theorem small_div {i j : Int} (h : 0 < j ∧ j < 2 ^ 64) : CDivW i j := wide_div h.1 (b := 64) (by omega) (by decide) (by decide)
theorem br_not {p : Prop} [Decidable p] {A B : Prop} (h : p → B) (k : ¬ p → A) : BR (!decide p) A B := br_n (br_d h k)
theorem bk_i {X : Cx} {sc : Scope} {φ : Cx → Prop} (h : ∀ s H Cm cl fp, φ (bk X sc s H Cm cl fp)) : Bk X sc φ := h
theorem nx_mk {P : Gm → Prop} {rt : Av → Gm → Prop} {bk ct : Gm → Prop} {rn : List PyData → Gm → Prop} {g : Gm} (h : P g) : Ae.nx ⟨P, rt, bk, ct, rn⟩ g := h
theorem rt_mk {P : Gm → Prop} {rt : Av → Gm → Prop} {bk ct : Gm → Prop} {rn : List PyData → Gm → Prop} {x : Av} {g : Gm} (h : rt x g) : Ae.rt ⟨P, rt, bk, ct, rn⟩ x g := h
theorem bk_mk {P : Gm → Prop} {rt : Av → Gm → Prop} {bk ct : Gm → Prop} {rn : List PyData → Gm → Prop} {g : Gm} (h : bk g) : Ae.bk ⟨P, rt, bk, ct, rn⟩ g := h
theorem ct_mk {P : Gm → Prop} {rt : Av → Gm → Prop} {bk ct : Gm → Prop} {rn : List PyData → Gm → Prop} {g : Gm} (h : ct g) : Ae.ct ⟨P, rt, bk, ct, rn⟩ g := h
theorem rn_mk {P : Gm → Prop} {rt : Av → Gm → Prop} {bk ct : Gm → Prop} {rn : List PyData → Gm → Prop} {ds : List PyData} {g : Gm} (h : rn ds g) : Ae.rn ⟨P, rt, bk, ct, rn⟩ ds g := h
theorem CxF.look {X : Cx} {N : List Str} {sc : Scope} {k : Nat} {x : Str} (F : CxF X N sc k) (h : locB sc x = true) : X.env.scope.names.lookup x = some .local := by rw [F.hsc]; exact locB_ok h
end AL
/-! More rules: slices, insert, calls of a def that a slot holds, the script. -/
namespace AL
open PySem PySem.Spec L2

section
variable {X : Cx} {C : Ct} {g g' : Gm} {e a b c o hi lo : Expr} {es : List Expr} {pos p p2 apos : Pos} {Q : Av → Gm → Prop} {QL : List PyData → Gm → Prop} {x : Str}
/-! ### slices -/
def cutD (ds : List PyData) (lo hi : Option Int) : List PyData := (ds.drop (HT.sIx ds.length 0 lo)).take (HT.sIx ds.length ds.length hi - HT.sIx ds.length 0 lo)
theorem cut_hi {ds : List PyData} {k : Int} (h : 0 ≤ k) : cutD ds none (some k) = ds.take k.toNat := by
  unfold cutD
  rw [HT.sIx_none]
  have e : HT.sIx ds.length ds.length (some k) = min k.toNat ds.length := by
    have := HT.sIx_nat ds.length ds.length k.toNat
    rwa [Int.toNat_of_nonneg h] at this
  rw [e, Nat.sub_zero, List.drop_zero, ← List.take_take]
  simp
theorem cut_lo {ds : List PyData} {k : Int} (h : 0 ≤ k) : cutD ds (some k) none = ds.drop k.toNat := by
  unfold cutD
  rw [HT.sIx_none]
  have e : HT.sIx ds.length 0 (some k) = min k.toNat ds.length := by
    have := HT.sIx_nat ds.length 0 k.toNat
    rwa [Int.toNat_of_nonneg h] at this
  rw [e]
  by_cases hk : k.toNat ≤ ds.length
  · rw [Nat.min_eq_left hk, List.take_of_length_le (by simp)]
  · rw [Nat.min_eq_right (by omega)]
    simp
    omega
theorem DdA.cut {K : PySem.W.Frag} {Z : Hp} {ds : List PyData} {xs : List V} (h : DdA K Z xs ds) (lo hi : Option Int) : DdA K Z (cutV xs lo hi) (cutD ds lo hi) := by
  unfold cutV cutD
  rw [h.length]
  exact (h.drop _).take _
theorem ta_sl {K : PySem.W.Frag} {σ : St} {H Z : Hp} {v : V} {ds : List PyData} {l u : Option Int} {P : VK} (I : Ok K C g σ H Z) (h : Dd K Z v (.tuple ds)) (p : ∀ v H' Z', Ok K C g σ H' Z' → Same Z Z' → Dd K Z' v (.tuple (cutD ds l u)) → P v H') : rSlA K v l u H P := by
  cases h with
  | @tup q xs _ a1 a2 =>
    refine ⟨q, xs, rfl, Same.seqT I.fz a1, fun ⟨z1, z2⟩ => ?_, fun _ t ht => ?_⟩
    · refine p _ H Z I (Same.refl _) ?_
      have e : cutD ds l u = ds := by
        unfold cutD
        rw [← a2.length, z1, z2]
        rw [a2.length]; simp
      rw [e]
      exact .tup a1 a2
    · obtain ⟨I2, s2, _⟩ := I.newF (o := .tup (cutV xs l u)) ht
      exact p _ _ _ I2 s2 (.tup (SqT.of upd_same) ((a2.cut l u).mono s2))
/-- t[:k] -/
theorem ee_slHi (h : EE X C e g fun x g1 => EE X C hi g1 fun y g2 => ∃ k ds, x = .d (.tuple ds) ∧ y = .d (.int k) ∧ 0 ≤ k ∧ Q (.d (.tuple (ds.take k.toNat))) g2) : EE X C (.Subscript e (.Slice none (some hi) none p2) pos) g Q :=
  EE.of (pe_slice sl_tupA pe_t po_none (po_some pe_t)) fun σ H Z I P p => h σ H Z I _ fun v H1 Z1 x g1 I1 s1 a1 h1 => h1 σ H1 Z1 I1 _ fun w H2 Z2 y g2 I2 s2 a2 q => by
    obtain ⟨k, ds, rfl, rfl, hk, q⟩ := q
    have a2' : Dd X.K Z2 w (.int k) := a2
    cases a2'
    refine ⟨k, rfl, ta_sl I2 (Dd.mono s2 _ _ a1) fun v H3 Z3 I3 s3 d3 => ?_⟩
    rw [cut_hi hk] at d3
    exact p v H3 Z3 (.d (.tuple (ds.take k.toNat))) g2 I3 ((s1.trans s2).trans s3) d3 q
/-- t[k:] -/
theorem ee_slLo (h : EE X C e g fun x g1 => EE X C lo g1 fun y g2 => ∃ k ds, x = .d (.tuple ds) ∧ y = .d (.int k) ∧ 0 ≤ k ∧ Q (.d (.tuple (ds.drop k.toNat))) g2) : EE X C (.Subscript e (.Slice (some lo) none none p2) pos) g Q :=
  EE.of (pe_slice sl_tupA pe_t (po_some pe_t) po_none) fun σ H Z I P p => h σ H Z I _ fun v H1 Z1 x g1 I1 s1 a1 h1 => h1 σ H1 Z1 I1 _ fun w H2 Z2 y g2 I2 s2 a2 q => by
    obtain ⟨k, ds, rfl, rfl, hk, q⟩ := q
    have a2' : Dd X.K Z2 w (.int k) := a2
    cases a2'
    refine ⟨k, rfl, ta_sl I2 (Dd.mono s2 _ _ a1) fun v H3 Z3 I3 s3 d3 => ?_⟩
    rw [cut_lo hk] at d3
    exact p v H3 Z3 (.d (.tuple (ds.drop k.toNat))) g2 I3 ((s1.trans s2).trans s3) d3 q

/-! ### insert -/
theorem ee_insert (h : EE X C o g fun x g1 => ∃ j w0 ds0, x = .o j ∧ g1[j]? = some (.ls w0 ds0) ∧ EE X C a g1 fun z g2 => EE X C e g2 fun y g3 => ∃ i w ds d g4 g5, z = .d (.int i) ∧ 0 ≤ i ∧ i < 2 ^ 63 ∧ Frz [y] g3 [d] g4 ∧ g4[j]? = some (.ls w ds) ∧ ds.length < 1000000 ∧ SetE g4 j (.ls w (ds.take i.toNat ++ d :: ds.drop i.toNat)) g5 ∧ Q (.d .none) g5)
    (hbase : attributeBase o "insert" X.env (eval o X.env) = eval o X.env := by rfl) (hline : (apos.endLine == pos.line) = true := by rfl) (hs : starEach [a, e] X.env = (false, eval a X.env) :: starEach [e] X.env := by rfl) (hs2 : starEach [e] X.env = (false, eval e X.env) :: starEach [] X.env := by rfl)
    (hfew : ((backTo pos (starEach [a, e] X.env)).all (fun x => !x.1) && (backToKw pos (keywordEach [] X.env)).all (fun x => x.1.isSome) && decide ([a, e].length + ([] : List Keyword).length + (if ([] : List Keyword).isEmpty then 0 else 1) < 30)) = true := by rfl) :
    EE X C (.Call (.Attribute o "insert" apos) [a, e] [] pos) g Q :=
  EE.of (pe_bm PySem.F.plainAttrs_list PySem.F.slot_list_insert PySem.F.type_list_insert mt_insert pe_t pa_t hbase hfew hline hs (by rw [hs2]; rfl)) fun σ H Z I P p =>
    h σ H Z I _ fun v H1 Z1 x g1 I1 s1 a1 q1 => by
      obtain ⟨j, w0, ds0, rfl, hj0, h2⟩ := q1
      obtain ⟨ad, xs0, rfl, o2, o3, o4, o5⟩ := I1.own hj0 a1
      refine ⟨.inl ⟨rfl, xs0, SqL.of o2⟩, ?_⟩
      refine (show EA X C [a, e] g1 (fun ys g3 => ∃ z y i w ds d g4 g5, ys = [z, y] ∧ z = .d (.int i) ∧ 0 ≤ i ∧ i < 2 ^ 63 ∧ Frz [y] g3 [d] g4 ∧ g4[j]? = some (.ls w ds) ∧ ds.length < 1000000 ∧ SetE g4 j (.ls w (ds.take i.toNat ++ d :: ds.drop i.toNat)) g5 ∧ Q (.d .none) g5) from ea_cons (h2.mono fun z g2 h3 => ea_cons (h3.mono fun y g3 q => by
        obtain ⟨i, w, ds, d, g4, g5, q⟩ := q
        exact ea_nil ⟨z, y, i, w, ds, d, g4, g5, rfl, q⟩) hs2) hs) σ H1 Z1 I1 _ fun vs H2 Z2 ys g2 I2 s2 a2 q => ?_
      obtain ⟨z, y, i, w, ds, d, g4, g5, rfl, rfl, i0, i1, f, hj, hl, hs4, q⟩ := q
      cases a2 with
      | @cons _ vz _ _ az a2 =>
        have az' : Dd X.K Z2 vz (.int i) := az
        cases az'
        obtain ⟨Z3, I3, s3, r3⟩ := f.run I2 a2
        cases a2 with
        | @cons _ vy _ _ ay a3 =>
          cases a3
          cases r3 with
          | cons r4 r5 =>
            cases r5
            obtain ⟨ad', xs, e0, o2', o3', o4', o5'⟩ := I3.own hj a1
            cases e0
            refine ⟨ad, xs, i, vy, rfl, rfl, o2', by rw [o4'.length]; exact Nat.lt_of_lt_of_le hl (by decide), i0, i1, ?_⟩
            have r6 : DdA X.K Z3 (xs.take i.toNat ++ [vy] ++ xs.drop i.toNat) (ds.take i.toNat ++ d :: ds.drop i.toNat) := by
              have := ((o4'.take i.toNat).append (.cons r4 .nil)).append (o4'.drop i.toNat)
              simpa using this
            exact p .non _ Z3 (.d .none) g5 (I3.put hj a1 r6 hs4) ((s1.trans s2).trans s3) Dd.non q
end

/-! ### a def that a slot holds -/
structure HeldF (P : Program) (w : World) (K : PySem.W.Frag) (mg : Str → Option Value) (base : Heap) (k : Nat) (v : V) (sp : Sp) : Prop where
  ex : ∃ (f : Addr) (fd : FuncData) (ps : List Str), v = .ref f ∧ FnOk P w K mg base CX0 k f fd ps sp ∧ PySem.W.keepIn K (.ref f) = true ∧ Binds K fd ps []
abbrev HeldX (X : Cx) (k : Nat) (v : V) (sp : Sp) : Prop := HeldF X.prog X.w X.K X.mg X.base k v sp
theorem HeldF.mono {P : Program} {w : World} {K : PySem.W.Frag} {mg : Str → Option Value} {base : Heap} {k k' : Nat} {v : V} {sp : Sp} (c : HeldF P w K mg base k v sp) (h : k ≤ k') : HeldF P w K mg base k' v sp := by
  obtain ⟨f, fd, ps, e, F, r⟩ := c.ex
  exact ⟨f, fd, ps, e, F.mono h, r⟩
theorem Callable.held {P : Program} {w : World} {K : PySem.W.Frag} {mg : Str → Option Value} {base : Heap} {x : Str} {k : Nat} {sp : Sp} (c : Callable P w K mg base x k sp) : ∃ f, mg x = some (.ref f) ∧ HeldF P w K mg base k (.ref f) sp := by
  obtain ⟨f, fd, ps, F, m, kp, B⟩ := c.ex
  exact ⟨f, m, f, fd, ps, rfl, F, kp, B⟩
section
variable {X : Cx} {C : Ct} {g g' : Gm} {e : Expr} {es : List Expr} {pos p : Pos} {Q : Av → Gm → Prop} {x : Str}
theorem ee_callX {i k n : Nat} {S : Con} {v : V} (m : Nm X i x) (h0 : g[i]? = some (.vl v)) (c : HeldX X k v (spR X.K n S)) (hr : Room k X.A) (h : EA X C (e :: es) g fun xs g1 => xs.length = n ∧ ∃ as r, CvA g1 xs as ∧ S as r ∧ Q (.d r) g1)
    (he : starEach (e :: es) X.env = (false, eval e X.env) :: starEach es X.env := by rfl) (hpl : (backTo pos (starEach es X.env)).any (·.1) = false := by rfl) : EE X C (.Call (.Name x p) (e :: es) [] pos) g Q := by
  obtain ⟨f, fd, ps, rfl, F, kp, B⟩ := c.ex
  refine EE.of (pe_callL (i := i) (dvs := []) (ds := []) (E := E0) F hr m.hN m.vis kp B .nil pass0 pa_t m.d1 m.d2 he hpl) fun σ H Z I P p => ⟨I.ent i _ h0, ?_⟩
  refine h σ H Z I _ fun vs H1 Z1 xs g1 I1 s1 a1 q1 => ?_
  obtain ⟨hl, as, r, cv, hS, q⟩ := q1
  rw [List.append_nil]
  refine ⟨a1.length.trans hl, Z1, as, r, I1.fz, cv.run a1, hS, fun v H' Z' h1 h2 h3 h4 h5 => ?_⟩
  exact p v H' Z' (.d r) g1 (I1.grow h1 h2 h3 h4) (s1.trans h2) h5 q
/-! ### the script -/
theorem scr_inj : ∀ {a b : List Int}, a.map (fun n => (PyData.int n, PyData.none)) = b.map (fun n => (PyData.int n, PyData.none)) → a = b
  | [], [], _ => rfl
  | [], _ :: _, h => by simp at h
  | _ :: _, [], h => by simp at h
  | a :: as, b :: bs, h => by
    simp only [List.map_cons, List.cons.injEq, Prod.mk.injEq, PyData.int.injEq, and_true] at h
    rw [h.1, scr_inj h.2]
theorem Dd.scr_inv {K : PySem.W.Frag} {Z : Hp} {v : V} {ns : List Int} (h : Dd K Z v (AL.scr ns)) : ∃ a, v = .ref a ∧ SqL K Z a (ns.map V.int) := by
  unfold AL.scr at h
  generalize e : (ns.map fun n => (PyData.int n, PyData.none)) = l at h
  cases h with
  | @scr a ms h1 =>
    have := scr_inj e
    subst this
    exact ⟨a, rfl, h1⟩
theorem rc_lenX {K : PySem.W.Frag} {ns : List Int} (q : Q (.d (.int ns.length)) g) : RC K C (fun xs H Q => ∃ x n, xs = [x] ∧ LenV K x H n ∧ Q (.int n) H) [.d (AL.scr ns)] g Q := fun σ H Z vs I a P p => by
  cases a with
  | @cons _ v _ _ a1 a2 =>
    cases a2
    obtain ⟨a, rfl, h⟩ := Dd.scr_inv a1
    exact ⟨_, ns.length, rfl, .inl ⟨_, Same.seq I.fz h, by simp⟩, p _ H Z (.d (.int _)) g I (Same.refl _) (Dd.int _) q⟩
theorem ra_ixX {K : PySem.W.Frag} {ns : List Int} {i d : Int} (h0 : 0 ≤ i) (hi : ns[i.toNat]? = some d) (q : Q (.d (.int d)) g) : RA K C (fun x y H P => rIxL K x y H P ∨ rIxT K x y H P) (.d (AL.scr ns)) (.d (.int i)) g Q := ra_or1 fun σ H Z v w I hx hy P p => by
  have hy' : Dd K Z w (.int i) := hy
  cases hy'
  obtain ⟨a, rfl, h⟩ := Dd.scr_inv hx
  exact ⟨a, _, i, .int d, rfl, rfl, Same.seq I.fz h, atI_int h0 (by rw [List.getElem?_map, hi]; rfl), p _ H Z (.d (.int d)) g I (Same.refl _) (.int d) q⟩
end
end AL
/-! What holds within the blocks of a comprehension; leaves. -/
namespace AL
open PySem PySem.Spec L2
section
variable {X : Cx} {C : Ct} {g g' g2 g3 g4 g5 : Gm} {Q : Av → Gm → Prop} {QG : Gm → Prop} {QL : List PyData → Gm → Prop} {scope : Scope} {s : Shared} {H : Hp} {Cm : Addr} {cl : List (Str × Addr)} {fp : List Addr} {x : Str} {k : Nat} {sp : Sp}
theorem calB (c : Cal X x k sp) : Cal (bk X scope s H Cm cl fp) x k sp := c
theorem heldB {v : V} (c : HeldX X k v sp) : HeldX (bk X scope s H Cm cl fp) k v sp := c
theorem roomB (c : Room k X.A) : Room k (bk X scope s H Cm cl fp).A := c
theorem calmB (c : X.calm = true) : (bk X scope s H Cm cl fp).calm = true := c
theorem mgB {r : Option Value} (c : X.mg x = r) : (bk X scope s H Cm cl fp).mg x = r := c
theorem lf_insert {j : Nat} {w : Option Nat} {z y : Av} {i : Int} {ds : List PyData} {d : PyData} (hz : z = .d (.int i)) (i0 : 0 ≤ i) (i1 : i < 2 ^ 63) (f : Frz [y] g3 [d] g4) (hj : g4[j]? = some (.ls w ds)) (hl : ds.length < 1000000) (hs : SetE g4 j (.ls w (ds.take i.toNat ++ d :: ds.drop i.toNat)) g5) (q : QG g5) :
    ∃ i w ds d g4 g5, z = .d (.int i) ∧ 0 ≤ i ∧ i < 2 ^ 63 ∧ Frz [y] g3 [d] g4 ∧ g4[j]? = some (.ls w ds) ∧ ds.length < 1000000 ∧ SetE g4 j (.ls w (ds.take i.toNat ++ d :: ds.drop i.toNat)) g5 ∧ QG g5 := ⟨i, w, ds, d, g4, g5, hz, i0, i1, f, hj, hl, hs, q⟩
theorem lf_sl {x y : Av} {k : Int} {ds : List PyData} {φ : Int → List PyData → Prop} (hx : x = .d (.tuple ds)) (hy : y = .d (.int k)) (hk : 0 ≤ k) (q : φ k ds) : ∃ k ds, x = .d (.tuple ds) ∧ y = .d (.int k) ∧ 0 ≤ k ∧ φ k ds := ⟨k, ds, hx, hy, hk, q⟩
/-- xs[i] = e -/
theorem lf_setIx {x y z : Av} {j k : Nat} {w : Option Nat} {ds : List PyData} {d : PyData} {i : Int} (hx : x = .o j) (hz : z = .d (.int i)) (f : Frz [y] g3 [d] g4) (hj : g4[j]? = some (.ls w ds)) (hi : ixN ds.length i = some k) (hs : SetE g4 j (.ls w (ds.set k d)) g5) (q : QG g5) :
    ∃ j w ds d g4 g5 i k, x = .o j ∧ z = .d (.int i) ∧ Frz [y] g3 [d] g4 ∧ g4[j]? = some (.ls w ds) ∧ ixN ds.length i = some k ∧ SetE g4 j (.ls w (ds.set k d)) g5 ∧ QG g5 := ⟨j, w, ds, d, g4, g5, i, k, hx, hz, f, hj, hi, hs, q⟩
theorem ra_eqI {i j : Int} {K : PySem.W.Frag} (q : Q (.d (.bool (decide (i = j)))) g) : RA K C (rEqD K) (.d (.int i)) (.d (.int j)) g Q := ra_eq rfl rfl rfl rfl (by
  have e : PyData.eqv (dOf g (.d (.int i))) (dOf g (.d (.int j))) = decide (i = j) := by
    show PyData.eqv (.int i) (.int j) = _
    simp only [PyData.eqv]; rfl
  rw [e]; exact q)
theorem ra_neI {i j : Int} {K : PySem.W.Frag} (q : Q (.d (.bool (!decide (i = j)))) g) : RA K C (rNeD K) (.d (.int i)) (.d (.int j)) g Q := ra_ne rfl rfl rfl rfl (by
  have e : PyData.eqv (dOf g (.d (.int i))) (dOf g (.d (.int j))) = decide (i = j) := by
    show PyData.eqv (.int i) (.int j) = _
    simp only [PyData.eqv]; rfl
  rw [e]; exact q)
theorem eqv_two (a b c d : Int) : PyData.eqv (.tuple [.int a, .int b]) (.tuple [.int c, .int d]) = decide (a = c ∧ b = d) := by
  simp only [PyData.eqv, PyData.eqvAll, Bool.and_true]
  by_cases h1 : a = c <;> by_cases h2 : b = d <;> simp [h1, h2]
theorem ra_eqF {a b c d : Int} {K : PySem.W.Frag} (q : Q (.d (.bool (decide (a = c ∧ b = d)))) g) : RA K C (rEqD K) (.d (.tuple [.int a, .int b])) (.d (.tuple [.int c, .int d])) g Q := ra_eq rfl rfl rfl rfl (by
  have e : PyData.eqv (dOf g (.d (.tuple [.int a, .int b]))) (dOf g (.d (.tuple [.int c, .int d]))) = decide (a = c ∧ b = d) := eqv_two a b c d
  rw [e]; exact q)
theorem ra_neF {a b c d : Int} {K : PySem.W.Frag} (q : Q (.d (.bool (!decide (a = c ∧ b = d)))) g) : RA K C (rNeD K) (.d (.tuple [.int a, .int b])) (.d (.tuple [.int c, .int d])) g Q := ra_ne rfl rfl rfl rfl (by
  have e : PyData.eqv (dOf g (.d (.tuple [.int a, .int b]))) (dOf g (.d (.tuple [.int c, .int d]))) = decide (a = c ∧ b = d) := eqv_two a b c d
  rw [e]; exact q)
theorem abs_if (a : Int) : (if a < 0 then -a else a) = (a.natAbs : Int) := by split <;> omega
theorem CxF.swapE {X : Cx} {N : List Str} {sc : Scope} {k : Nat} (F : CxF X N sc k) {ts : List Expr} {v : Expr} {r : Sem (Option (List Str))} (h : swappedStores ts v { X.env with scope := sc } = r) : swappedStores ts v X.env = r := by
  have e : X.env = { X.env with scope := sc } := by rw [← F.hsc]
  rw [e]; exact h
theorem CxF.swapW {X : Cx} {N : List Str} {sc : Scope} {k : Nat} (F : CxF X N sc k) {v : Expr} {t : Option Expr} {l : Nat} {r : Sem Bool} (h : swapsWith v t l { X.env with scope := sc } = r) : swapsWith v t l X.env = r := by
  have e : X.env = { X.env with scope := sc } := by rw [← F.hsc]
  rw [e]; exact h
theorem BR.of_eq {b c : Bool} {A B : Prop} (e : b = c) (h : BR c A B) : BR b A B := by rw [e]; exact h
theorem BR.byt {b : Bool} {A B : Prop} (e : b = true) (h : A) : BR b A B := by rw [e]; exact br_t h
theorem BR.byf {b : Bool} {A B : Prop} (e : b = false) (h : B) : BR b A B := by rw [e]; exact br_f h
end
end AL
/-! A list of the def's own is only read while an expression is evaluated; weaker promises. -/
namespace AL
open PySem PySem.Spec L2
section
variable {K : PySem.W.Frag} {C : Ct} {g g1 : Gm} {Q : Av → Gm → Prop} {te : TE}
def lsNol (j : Nat) (g : Gm) : Prop := ∀ i w es, g[i]? = some (Ent.ls w es) → i ≠ j → nolA es = true
theorem ae_borrow {j : Nat} {ds : List PyData} (hj : g[j]? = some (.ls none ds)) (hs : SetE g j (.im (.list ds)) g1) (hn : lsNol j g) (h : AE K C te g1 fun x g2 => ∃ d, x = .d d ∧ nol d = true ∧ g2 = g1 ∧ Q (.d d) g) : AE K C te g Q := fun σ H Z I Q' q' => by
  have e0 := I.ent j _ hj
  obtain ⟨a, xs, f1, f2, f3, f4, f5⟩ := e0
  have f5' : C.H0 a = none := f5
  have hZ0 : C.Z0 a = none := by
    cases q : C.Z0 a with
    | none => rfl
    | some o => have := I.b0 a o q; rw [f5'] at this; cases this
  have s1 : Same Z (upd Z a (.lst xs)) := fun b u q => by rw [upd_ne (ne_of_none q f3)]; exact q
  obtain ⟨j1, j2⟩ := hs.len
  have I1 : Ok K C g1 σ H (upd Z a (.lst xs)) := by
    refine ⟨hs.len.1.trans I.ln, fun b o q => ?_, I.fr, fun b o q => s1 b o (I.z0 b o q), fun b o q => ?_, I.b0, I.wz, I.wh, fun i e q => ?_, fun i k w w' es es' b q1 q2 q3 q4 => ?_⟩
    · by_cases z : b = a
      · subst z; rw [upd_same] at q; cases q; exact f2
      · rw [upd_ne z] at q; exact I.fz b o q
    · by_cases z : b = a
      · subst z; exact .inr f5'
      · rw [upd_ne z] at q; exact I.nw b o q
    · by_cases z : i = j
      · subst z
        rw [hs.same] at q; cases q
        exact ⟨.ref a, f1, .lst upd_same (f4.mono s1)⟩
      · rw [hs.ne z] at q
        have r := I.ent i e q
        cases e with
        | no => trivial
        | im d =>
          obtain ⟨v, r1, r2⟩ := r
          exact ⟨v, r1, Dd.mono s1 d v r2⟩
        | ls w es =>
          obtain ⟨b, ys, r1, r2, r3, r4, r5⟩ := r
          have nb : b ≠ a := fun zz => by
            subst zz
            exact z (I.inj i j w none es ds b q hj r1 f1)
          exact ⟨b, ys, r1, r2, by rw [upd_ne nb]; exact r3, r4.mono s1, r5⟩
        | vl v => exact r
    · have n1 : i ≠ j := fun z => by subst z; rw [hs.same] at q1; cases q1
      have n2 : k ≠ j := fun z => by subst z; rw [hs.same] at q2; cases q2
      rw [hs.ne n1] at q1
      rw [hs.ne n2] at q2
      exact I.inj i k w w' es es' b q1 q2 q3 q4
  refine h σ H _ I1 Q' fun v H2 Z2 x g2 I2 s2 a2 q2 => ?_
  obtain ⟨d, rfl, nd, rfl, q⟩ := q2
  have e2 : Z2 a = some (.lst xs) := s2 a _ upd_same
  have g3 : ∀ b o, (if b = a then none else Z2 b) = some o → b ≠ a ∧ Z2 b = some o := fun b o q => by
    by_cases z : b = a
    · rw [if_pos z] at q; cases q
    · rw [if_neg z] at q; exact ⟨z, q⟩
  have sT : ∀ b ys, SqT K Z2 b ys → SqT K (fun b => if b = a then none else Z2 b) b ys := fun b ys t => by
    rcases t with (t | ⟨o, t⟩) | t
    · refine .inl (.inl ?_)
      show (if b = a then none else Z2 b) = _
      by_cases z : b = a
      · subst z; rw [e2] at t; cases t
      · rw [if_neg z]; exact t
    · refine .inl (.inr ⟨o, ?_⟩)
      show (if b = a then none else Z2 b) = _
      by_cases z : b = a
      · subst z; rw [e2] at t; cases t
      · rw [if_neg z]; exact t
    · exact .inr t
  have s3 : Same Z (fun b => if b = a then none else Z2 b) := fun b o q => by
    have nb : b ≠ a := ne_of_none q f3
    show (if b = a then none else Z2 b) = _
    rw [if_neg nb]
    exact s2 b o (s1 b o q)
  have I3 : Ok K C g σ H2 (fun b => if b = a then none else Z2 b) := by
    refine ⟨I.ln, fun b o q => I2.fz b o (g3 b o q).2, I2.fr, fun b o q => ?_, fun b o q => I2.nw b o (g3 b o q).2, I2.b0, I2.wz, I2.wh, fun i e q => ?_, I.inj⟩
    · have nb : b ≠ a := ne_of_none q hZ0
      show (if b = a then none else Z2 b) = _
      rw [if_neg nb]
      exact I2.z0 b o q
    · by_cases z : i = j
      · subst z
        rw [hj] at q; cases q
        exact ⟨a, xs, f1, I2.fz a _ e2, by simp, f4.mono s3, f5⟩
      · have r := I.ent i e q
        cases e with
        | no => trivial
        | im d =>
          obtain ⟨v, r1, r2⟩ := r
          exact ⟨v, r1, Dd.mono s3 d v r2⟩
        | ls w es =>
          have q' : g2[i]? = some (.ls w es) := by rw [hs.ne z]; exact q
          obtain ⟨b, ys, r1, r2, r3, r4, r5⟩ := I2.ent i _ q'
          refine ⟨b, ys, r1, r2, ?_, DdA.tups sT es ys (hn i w es q z) r4, r5⟩
          show (if b = a then none else Z2 b) = none
          split
          · rfl
          · exact r3
        | vl v => exact r
  exact q' v H2 _ (.d d) g I3 s3 (Dd.tups sT d v nd a2) q
end
def entNol : Ent → Prop
  | .ls _ es => nolA es = true
  | _ => True
def allNol : Gm → Prop
  | [] => True
  | e :: g => entNol e ∧ allNol g
def lsNolR : Nat → Gm → Prop
  | _, [] => True
  | 0, _ :: g => allNol g
  | j + 1, e :: g => entNol e ∧ lsNolR j g
theorem allNol.at_ : ∀ {g : Gm} {i : Nat} {w : Option Nat} {es : List PyData}, allNol g → g[i]? = some (Ent.ls w es) → nolA es = true
  | [], _, _, _, _, h => by simp at h
  | e :: g, 0, _, _, ⟨h1, _⟩, h => by simp at h; subst h; exact h1
  | e :: g, i + 1, _, _, ⟨_, h2⟩, h => allNol.at_ h2 (by simpa using h)
theorem lsNol_of : ∀ {j : Nat} {g : Gm}, lsNolR j g → lsNol j g
  | _, [], _ => fun i w es h _ => by simp at h
  | 0, e :: g, h => fun i w es q n => by
    cases i with
    | zero => exact absurd rfl n
    | succ i => exact allNol.at_ h (by simpa using q)
  | j + 1, e :: g, ⟨h1, h2⟩ => fun i w es q n => by
    cases i with
    | zero => simp at q; subst q; exact h1
    | succ i => exact lsNol_of h2 i w es (by simpa using q) (by omega)
section
variable {X : Cx} {C : Ct} {g g1 : Gm} {Q : Av → Gm → Prop} {e : Expr}
theorem ee_borrow (j : Nat) {ds : List PyData} (hj : g[j]? = some (.ls none ds)) (hs : SetE g j (.im (.list ds)) g1) (hn : lsNolR j g) (h : EE X C e g1 fun x g2 => ∃ d, x = .d d ∧ nol d = true ∧ g2 = g1 ∧ Q (.d d) g) : EE X C e g Q := ae_borrow hj hs (lsNol_of hn) h
end
/-! ### weaker promises -/
theorem spR.imp {K : PySem.W.Frag} {n : Nat} {S S' : Con} (h : ∀ as r, S' as r → S as r) : ∀ vs H Q E, spR K n S' vs H Q E → spR K n S vs H Q E := fun vs H Q E ⟨h1, Z, as, r, h2, h3, h4, h5⟩ => ⟨h1, Z, as, r, h2, h3, h _ _ h4, h5⟩
theorem HeldF.imp {P : Program} {w : World} {K : PySem.W.Frag} {mg : Str → Option Value} {base : Heap} {k n : Nat} {v : V} {S S' : Con} (c : HeldF P w K mg base k v (spR K n S)) (h : ∀ as r, S' as r → S as r) : HeldF P w K mg base k v (spR K n S') := by
  obtain ⟨f, fd, ps, e, F, r⟩ := c.ex
  exact ⟨f, fd, ps, e, F.imp (spR.imp h), r⟩
theorem Callable.imp {P : Program} {w : World} {K : PySem.W.Frag} {mg : Str → Option Value} {base : Heap} {x : Str} {k n : Nat} {S S' : Con} (c : Callable P w K mg base x k (spR K n S)) (h : ∀ as r, S' as r → S as r) : Callable P w K mg base x k (spR K n S') := by
  obtain ⟨f, fd, ps, F, r⟩ := c.ex
  exact ⟨f, fd, ps, F.imp (spR.imp h), r⟩
end AL
namespace AL
open PySem PySem.Spec L2
section
variable {X : Cx} {C : Ct} {g : Gm} {D : Ae} {st : Stmt} {sts : List Stmt}
/-- one statement, then what it leaves -/
theorem ess_cut {R : Gm → Prop} (h : ES X C st g { D with nx := R }) (k : ∀ g', R g' → ESs X C sts g' D) : ESs X C (st :: sts) g D :=
  ess_cons fun σ H Z I D' d => h σ H Z I D' ⟨fun g σ H Z I s q => d.nx g σ H Z I s (k g q), d.rt, d.bk, d.ct, d.rn⟩
theorem es_cut {R : Gm → Prop} (h : ES X C st g { D with nx := R }) (k : ∀ g', R g' → D.nx g') : ES X C st g D :=
  fun σ H Z I D' d => h σ H Z I D' ⟨fun g σ H Z I s q => d.nx g σ H Z I s (k g q), d.rt, d.bk, d.ct, d.rn⟩
end
end AL
/-! Fractions as data; sizes in bits. -/
namespace AL
open PySem PySem.Spec L2

/-- a fraction in lowest terms -/
abbrev fr (q : Rat) : PyData := .tuple [.int q.num, .int q.den]
theorem fr_mk (a b : Int) (h : 0 < b) : (.tuple [.int (a / (Int.gcd a b : Int)), .int (b / (Int.gcd a b : Int))] : PyData) = fr (Rat.divInt a b) := by
  have hs : b.sign = 1 := Int.sign_eq_one_of_pos h
  have e1 : (Rat.divInt a b).num = a / (Int.gcd a b : Int) := by rw [Rat.num_divInt, hs, Int.one_mul, Int.gcd_comm]
  have e2 : ((Rat.divInt a b).den : Int) = b / (Int.gcd a b : Int) := by
    rw [Rat.den_divInt, if_neg (by omega), Int.gcd_comm]
    rw [Int.natCast_ediv]
    congr 1
    omega
  unfold fr
  rw [e1, e2]
theorem fr_eq {p q : Rat} : (p.num = q.num ∧ (p.den : Int) = (q.den : Int)) ↔ p = q := by
  constructor
  · rintro ⟨h1, h2⟩
    exact Rat.ext h1 (by omega)
  · rintro rfl; exact ⟨rfl, rfl⟩
theorem fr_lt {p q : Rat} : p.num * (q.den : Int) < q.num * (p.den : Int) ↔ p < q := (Rat.lt_iff p q).symm
theorem fr_inj {p q : Rat} (h : fr p = fr q) : p = q := by
  unfold fr at h
  simp only [PyData.tuple.injEq, List.cons.injEq, PyData.int.injEq, and_true] at h
  exact fr_eq.mp h
theorem di_self (q : Rat) : Rat.divInt q.num q.den = q := Rat.num_divInt_den q
theorem di_add (p q : Rat) : Rat.divInt (p.num * (q.den : Int) + q.num * (p.den : Int)) ((p.den : Int) * (q.den : Int)) = p + q := by
  have h1 : (p.den : Int) ≠ 0 := by have := p.den_nz; omega
  have h2 : (q.den : Int) ≠ 0 := by have := q.den_nz; omega
  rw [← Rat.divInt_add_divInt _ _ h1 h2, di_self, di_self]
theorem di_mul (p q : Rat) : Rat.divInt (p.num * q.num) ((p.den : Int) * (q.den : Int)) = p * q := by
  rw [← Rat.divInt_mul_divInt, di_self, di_self]
theorem di_one (s : Int) : Rat.divInt s 1 = (s : Rat) := by rw [Rat.divInt_eq_div]; show (s : Rat) / ((1 : Int) : Rat) = s; have : ((1 : Int) : Rat) = 1 := rfl; rw [this]; grind
theorem di_cmul (s : Int) (q : Rat) : Rat.divInt (s * q.num) (1 * (q.den : Int)) = (s : Rat) * q := by
  rw [← Rat.divInt_mul_divInt, di_self, di_one]
theorem di_div (q : Rat) (c : Int) : Rat.divInt q.num ((q.den : Int) * c) = q / (c : Rat) := by
  have e : Rat.divInt 1 c = 1 / (c : Rat) := by rw [Rat.divInt_eq_div]; simp
  have := Rat.divInt_mul_divInt q.num 1 (d₁ := (q.den : Int)) (d₂ := c)
  rw [Int.mul_one, di_self, e] at this
  rw [← this, Rat.div_def, Rat.div_def, Rat.one_mul]
/-- of two blocks that touch -/
def mix (s : Int) (t : Rat) (p : Int) (u : Rat) : Rat := ((s : Rat) * t + (p : Rat) * u) / ((s + p : Int) : Rat)

/-! ### sizes -/
def Bt (n : Nat) (a : Int) : Prop := a.natAbs < 2 ^ n
theorem Bt.mono {n m : Nat} {a : Int} (h : Bt n a) (hm : n ≤ m) : Bt m a := Nat.lt_of_lt_of_le h (Nat.pow_le_pow_right (by decide) hm)
theorem Bt.mul {n m : Nat} {a b : Int} (h : Bt n a) (k : Bt m b) : Bt (n + m) (a * b) := wide_lt h k
theorem Bt.add {n : Nat} {a b : Int} (h : Bt n a) (k : Bt n b) : Bt (n + 1) (a + b) := by
  unfold Bt at *
  have := Int.natAbs_add_le a b
  rw [Nat.pow_succ]; omega
theorem Bt.div {n : Nat} {a b : Int} (h : Bt n a) : Bt n (a / b) := Nat.lt_of_le_of_lt (Int.natAbs_ediv_le_natAbs a b) h
theorem Bt.gcd {n : Nat} {a b : Int} (h : Bt n b) (hb : 0 < b) : Bt n (Int.gcd a b : Int) := by
  unfold Bt at *
  have h1 : Int.gcd a b ≤ b.natAbs := Nat.le_of_dvd (by omega) (Int.gcd_dvd_natAbs_right a b)
  omega
theorem bt_cmul {n m : Nat} {i j : Int} (ha : Bt n i) (hb : Bt m j) (h : n + m ≤ 900000 := by decide) : CMulW i j :=
  wide_mul (a := n + 1) (b := m + 1) (Bt.mono ha (Nat.le_succ _)) (Bt.mono hb (Nat.le_succ _)) (by omega) (by omega) (by omega)
theorem bt_cdiv {n : Nat} {i j : Int} (hj : 0 < j) (hb : Bt n j) (h : n ≤ 8999 := by decide) : CDivW i j :=
  wide_div hj (b := n + 1) (Bt.mono hb (Nat.le_succ _)) (by omega) (by omega)
theorem gcd_pos {a b : Int} (h : 0 < b) : (0 : Int) < (Int.gcd a b : Int) := by
  have := Int.gcd_pos_of_ne_zero_right a (show b ≠ 0 by omega)
  omega
theorem bt_small {a : Int} {n : Nat} (h : a.natAbs < 2 ^ n) : Bt n a := h
def Rb (n : Nat) (q : Rat) : Prop := Bt n q.num ∧ Bt n q.den
theorem den_pos (q : Rat) : (0 : Int) < (q.den : Int) := by have := q.den_nz; omega
theorem Rb.mono {n m : Nat} {q : Rat} (h : Rb n q) (hm : n ≤ m) : Rb m q := ⟨h.1.mono hm, h.2.mono hm⟩
theorem Rb.di {n : Nat} {a b : Int} (ha : Bt n a) (hb : Bt n b) (h : 0 < b) : Rb n (Rat.divInt a b) := by
  constructor
  · rw [Rat.num_divInt, Int.sign_eq_one_of_pos h, Int.one_mul]
    exact ha.div
  · rw [Rat.den_divInt, if_neg (by omega)]
    unfold Bt at *
    exact Nat.lt_of_le_of_lt (Nat.div_le_self _ _) hb
theorem Rb.add {n m : Nat} {p q : Rat} (h : Rb n p) (k : Rb m q) : Rb (n + m + 1) (p + q) := by
  rw [← di_add]
  have a1 := h.1.mul k.2
  have a2 := k.1.mul h.2
  rw [Nat.add_comm m n] at a2
  exact .di (a1.add a2) ((h.2.mul k.2).mono (by omega)) (Int.mul_pos (den_pos p) (den_pos q))
theorem Rb.cmul {n m : Nat} {s : Int} {q : Rat} (h : Bt n s) (k : Rb m q) : Rb (n + m) ((s : Rat) * q) := by
  rw [← di_cmul]
  exact .di (h.mul k.1) (by rw [Int.one_mul]; exact k.2.mono (by omega)) (by rw [Int.one_mul]; exact den_pos q)
theorem Rb.mix {n m : Nat} {s p : Int} {t u : Rat} (ht : Rb n t) (hu : Rb m u) (hs : 0 < s ∧ s < 128) (hp : 0 < p ∧ p < 128) : Rb (n + m + 23) (mix s t p u) := by
  unfold AL.mix
  have bs : Bt 7 s := by unfold Bt; omega
  have bp : Bt 7 p := by unfold Bt; omega
  have bsp : Bt 8 (s + p) := by unfold Bt; omega
  have h1 := (Rb.cmul bs ht).add (Rb.cmul bp hu)
  rw [← di_div]
  exact .di (h1.1.mono (by omega)) ((h1.2.mul bsp).mono (by omega)) (Int.mul_pos (den_pos _) (by omega))
end AL
/-! States, plans: what the defs compute. -/
namespace AL
open PySem PySem.Spec L2

abbrev Bl := Int × Rat
abbrev blk (b : Bl) : PyData := .tuple [.int b.1, fr b.2]
abbrev stD (L : List Bl) : PyData := .tuple (L.map blk)
def Sz (s : Int) : Prop := 1 ≤ s ∧ s ≤ 99
/-- a valid state whose fractions have at most n bits -/
structure OkSt (n : Nat) (L : List Bl) : Prop where
  one : 1 ≤ L.length
  most : L.length ≤ 12
  each : ∀ b ∈ L, Sz b.1 ∧ Rb n b.2
theorem OkSt.mono {n m : Nat} {L : List Bl} (o : OkSt n L) (h : n ≤ m) : OkSt m L := ⟨o.one, o.most, fun b q => ⟨(o.each b q).1, (o.each b q).2.mono h⟩⟩
theorem Sz.i {s : Int} (h : Sz s) : 0 < s ∧ s < 128 := by unfold Sz at h; omega
def siz (L : List Bl) (i : Nat) : Int := (L.getD i (1, 0)).1
def tmp (L : List Bl) (i : Nat) : Rat := (L.getD i (1, 0)).2
theorem getD_eq {L : List Bl} {i : Nat} (h : i < L.length) : L.getD i (1, 0) = L[i] := by simp [h]
theorem at_st {L : List Bl} {i : Nat} (h : i < L.length) : atI (L.map blk) (i : Int) = some (.tuple [.int (siz L i), fr (tmp L i)]) := by
  refine atI_nat ?_
  rw [List.getElem?_map, List.getElem?_eq_getElem h]
  unfold siz tmp
  rw [getD_eq h]; rfl
theorem OkSt.sz {n : Nat} {L : List Bl} (o : OkSt n L) {i : Nat} (h : i < L.length) : Sz (siz L i) := by
  unfold siz; rw [getD_eq h]; exact (o.each _ (List.getElem_mem h)).1
theorem OkSt.rb {n : Nat} {L : List Bl} (o : OkSt n L) {i : Nat} (h : i < L.length) : Rb n (tmp L i) := by
  unfold tmp; rw [getD_eq h]; exact (o.each _ (List.getElem_mem h)).2
/-- which of two temperatures is ahead -/
def ahead (up : Bool) (p q : Rat) : Bool := if up then decide (p < q) else decide (q < p)
/-- a def that tells which of two fractions is ahead -/
def S_ahead (up : Bool) : Con := fun as r => ∃ p q : Rat, as = [.d (fr p), .d (fr q)] ∧ Rb 4000 p ∧ Rb 4000 q ∧ r = .bool (ahead up p q)
def bfr (up : Bool) (L : List Bl) (i j : Nat) : Bool := if tmp L i = tmp L j then decide (i < j) else ahead up (tmp L i) (tmp L j)
def natD (l : List Nat) : List PyData := l.map fun n => .int (n : Nat)
theorem natD_get {l : List Nat} {i : Nat} {d : PyData} (h : (natD l)[i]? = some d) : ∃ n, l[i]? = some n ∧ d = .int (n : Nat) := by
  simp only [natD, List.getElem?_map, Option.map_eq_some_iff] at h
  obtain ⟨n, h1, h2⟩ := h
  exact ⟨n, h1, h2.symm⟩
theorem natD_len (l : List Nat) : (natD l).length = l.length := by simp [natD]
theorem fm_range {α β : Type} : ∀ (l : List α) (f : α → Option β), ((List.range l.length).filterMap fun k => (l[k]?).bind f) = l.filterMap f
  | [], f => by simp
  | a :: l, f => by
    rw [List.length_cons, List.range_succ_eq_map, List.filterMap_cons, List.filterMap_map, List.filterMap_cons]
    have ih := fm_range l f
    have e : ((fun k => ((a :: l)[k]?).bind f) ∘ Nat.succ) = fun k => (l[k]?).bind f := by funext k; simp
    rw [e, ih]
    simp
theorem sel_count (l : List Nat) (p : Nat → Bool) : ((List.range (natD l).length).filterMap fun k => (l[k]?).bind fun o => if p o = true then some (PyData.int (o : Nat)) else none).length = (l.filter p).length := by
  rw [natD_len, fm_range]
  induction l with
  | nil => rfl
  | cons a l ih =>
    rw [List.filterMap_cons, List.filter_cons]
    by_cases h : p a = true
    · rw [if_pos h]; simp [h, ih]
    · rw [if_neg h]; simp [h, ih]
theorem natD_ins (l : List Nat) (c n : Nat) : (natD l).take c ++ PyData.int (n : Nat) :: (natD l).drop c = natD (l.take c ++ n :: l.drop c) := by simp [natD, List.map_take, List.map_drop]
/-- the others in order, the first m blocks looked at -/
def ordStep (up : Bool) (L : List Bl) (b : Nat) (l : List Nat) (n : Nat) : List Nat :=
  if n = b then l else l.take (l.filter fun o => bfr up L o n).length ++ n :: l.drop (l.filter fun o => bfr up L o n).length
def ordTo (up : Bool) (L : List Bl) (b : Nat) (m : Nat) : List Nat := (List.range m).foldl (ordStep up L b) []
theorem ordTo_succ (up : Bool) (L : List Bl) (b m : Nat) : ordTo up L b (m + 1) = ordStep up L b (ordTo up L b m) m := by
  unfold ordTo; rw [List.range_succ, List.foldl_append]; rfl
def ordO (up : Bool) (L : List Bl) (b : Nat) : List Nat := ordTo up L b L.length
theorem ordTo_mem {up : Bool} {L : List Bl} {b : Nat} : ∀ {m n : Nat}, n ∈ ordTo up L b m → n < m ∧ n ≠ b
  | 0, _, h => by simp [ordTo] at h
  | m + 1, n, h => by
    rw [ordTo_succ] at h
    unfold ordStep at h
    split at h
    · have := ordTo_mem h; omega
    · rename_i hm
      rw [List.mem_append, List.mem_cons] at h
      rcases h with h | rfl | h
      · have := ordTo_mem (List.mem_of_mem_take h); omega
      · exact ⟨Nat.lt_succ_self _, hm⟩
      · have := ordTo_mem (List.mem_of_mem_drop h); omega
theorem ordTo_len {up : Bool} {L : List Bl} {b : Nat} : ∀ m : Nat, (ordTo up L b m).length ≤ m
  | 0 => by simp [ordTo]
  | m + 1 => by
    have := ordTo_len (up := up) (L := L) (b := b) m
    rw [ordTo_succ]; unfold ordStep
    split
    · omega
    · rw [List.length_append, List.length_cons, List.length_take, List.length_drop]; omega
/-- the greedy walk over blocks in an order: the temperature, the plan -/
def exStep (up : Bool) (L : List Bl) (b : Nat) (x : Rat × List Nat) (o : Nat) : Rat × List Nat :=
  if ahead up x.1 (tmp L o) then (mix (siz L b) x.1 (siz L o) (tmp L o), x.2 ++ [o]) else x
def exOf (up : Bool) (L : List Bl) (b : Nat) (l : List Nat) : Rat × List Nat := l.foldl (exStep up L b) (tmp L b, [])
def ext (up : Bool) (L : List Bl) (b : Nat) : Rat × List Nat := exOf up L b (ordO up L b)
theorem exOf_snoc (up : Bool) (L : List Bl) (b : Nat) (l : List Nat) (o : Nat) : exOf up L b (l ++ [o]) = exStep up L b (exOf up L b l) o := by
  unfold exOf; rw [List.foldl_append]; rfl
theorem exFold_rb {up : Bool} {L : List Bl} {b n : Nat} (O : OkSt n L) (hb : b < L.length) : ∀ (l : List Nat) (x : Rat × List Nat) (m : Nat), Rb m x.1 → (∀ o ∈ l, o < L.length) → Rb (m + l.length * (n + 23)) (l.foldl (exStep up L b) x).1 ∧ (l.foldl (exStep up L b) x).2.length ≤ x.2.length + l.length
  | [], x, m, h, _ => ⟨by simpa using h, by simp⟩
  | o :: l, x, m, h, hl => by
    have ho : o < L.length := hl o (by simp)
    have hl' : ∀ q ∈ l, q < L.length := fun q h => hl q (by simp [h])
    have k : Rb (m + (n + 23)) (exStep up L b x o).1 ∧ (exStep up L b x o).2.length ≤ x.2.length + 1 := by
      unfold exStep
      split
      · refine ⟨?_, by simp⟩
        have s1 := O.sz hb
        have s2 := O.sz ho
        refine (Rb.mix h (O.rb ho) ?_ ?_).mono ?_
        · have := s1.1; have := s1.2; omega
        · have := s2.1; have := s2.2; omega
        · omega
      · exact ⟨h.mono (by omega), by omega⟩
    obtain ⟨i1, i2⟩ := exFold_rb O hb l (exStep up L b x o) _ k.1 hl'
    rw [List.foldl_cons, List.length_cons]
    refine ⟨i1.mono ?_, by have := k.2; omega⟩
    rw [Nat.add_mul]; omega
theorem exOf_rb {up : Bool} {L : List Bl} {b n : Nat} (O : OkSt n L) (hb : b < L.length) (l : List Nat) (hl : ∀ o ∈ l, o < L.length) : Rb (n + l.length * (n + 23)) (exOf up L b l).1 ∧ (exOf up L b l).2.length ≤ l.length := by
  have := exFold_rb (up := up) O hb l (tmp L b, []) n (O.rb hb) hl
  simpa [exOf] using this
theorem ext_rb {up : Bool} {L : List Bl} {b : Nat} (O : OkSt 100 L) (hb : b < L.length) : Rb 4000 (ext up L b).1 := by
  obtain ⟨r0, r1⟩ := exOf_rb (up := up) O hb (ordO up L b) fun o h => (ordTo_mem h).1
  have hl1 := ordTo_len (up := up) (L := L) (b := b) L.length
  have hm := O.most
  have h : (ordO up L b).length ≤ 12 := Nat.le_trans hl1 hm
  exact r0.mono (by omega)
/-- the state wout the block at r, with the block r in two parts -/
def wout (L : List Bl) (r : Nat) : List Bl := L.take r ++ L.drop (r + 1)
def parted (L : List Bl) (r : Nat) (s : Int) : List Bl := L.take r ++ (s, tmp L r) :: L.drop (r + 1) ++ [(siz L r - s, tmp L r)]
end AL
/-! The laws' own helpers: the pool, what is taken of it. -/
namespace AL
open PySem PySem.Spec L2

/-- the pool: two numbers -/
structure Pl where
  x : Int
  y : Int
structure Pl.Ok (p : Pl) : Prop where
  x0 : 0 ≤ p.x
  y0 : 0 ≤ p.y
  y1 : p.y < 2147483647
abbrev Pl.ds (p : Pl) : List PyData := [.int p.x, .int p.y]
def cellS (ns : List Int) (k : Nat) : Int := if k < ns.length then ((ns.getD k 0).natAbs : Int) else 0
def pool (ns : List Int) (k : Nat) : Pl :=
  let b := (cellS ns k % 2147483629 + 7919 * k * k + 31 * k + 17) * 48271 % 2147483647
  ⟨cellS ns k * (if decide ((10 : Int) ^ 18 ≤ cellS ns k) = true then 1 else 0), b * b % 2147483629⟩
theorem cell_nn (ns : List Int) (k : Nat) : 0 ≤ cellS ns k := by unfold cellS; split <;> omega
theorem pool_ok (ns : List Int) (k : Nat) : (pool ns k).Ok := by
  refine ⟨?_, ?_, ?_⟩
  · refine Int.mul_nonneg (cell_nn ns k) ?_
    split <;> decide
  · exact Int.emod_nonneg _ (by decide)
  · exact Int.lt_trans (Int.emod_lt_of_pos _ (by decide)) (by decide)
/-- take from the pool a number below w -/
def pick (p : Pl) (w : Int) : Int := if 0 < p.x then p.x % w else ((p.y * 48271 + 12345) % 2147483647) * ((p.y * 48271 + 12345) % 2147483647) % 2147483629 / 64 % w
def left (p : Pl) (w : Int) : Pl := if 0 < p.x then ⟨p.x / w, p.y⟩ else ⟨p.x, (p.y * 48271 + 12345) % 2147483647⟩
theorem left_ok {p : Pl} (h : p.Ok) {w : Int} (hw : 0 < w) : (left p w).Ok := by
  unfold left
  split
  · exact ⟨Int.ediv_nonneg h.x0 (by omega), h.y0, h.y1⟩
  · exact ⟨h.x0, Int.emod_nonneg _ (by decide), Int.emod_lt_of_pos _ (by decide)⟩
theorem pick_nn {p : Pl} {w : Int} (hw : 0 < w) : 0 ≤ pick p w := by
  unfold pick; split <;> exact Int.emod_nonneg _ (by omega)
theorem pick_lt {p : Pl} {w : Int} (hw : 0 < w) : pick p w < w := by
  unfold pick; split <;> exact Int.emod_lt_of_pos _ hw
/-- as a number of a place -/
def pickN (p : Pl) (w : Int) : Nat := (pick p w).toNat
theorem pickN_eq {p : Pl} {w : Int} (hw : 0 < w) : (pickN p w : Int) = pick p w := Int.toNat_of_nonneg (pick_nn hw)
end AL
namespace AL
open PySem PySem.Spec L2
def dn7 (w : Int) : Int := if w = 4 then 2 else if w = 5 then 3 else if w = 6 then 5 else 1
theorem at_dn7 {w : Int} (h0 : 0 ≤ w) (h1 : w < 8) (hn : ¬ w = 0) : atI ([.int 1, .int 1, .int 1, .int 2, .int 3, .int 5, .int 1] : List PyData) (w - 1) = some (.int (dn7 w)) := by
  have h : w = 1 ∨ w = 2 ∨ w = 3 ∨ w = 4 ∨ w = 5 ∨ w = 6 ∨ w = 7 := by omega
  rcases h with rfl | rfl | rfl | rfl | rfl | rfl | rfl <;> rfl
theorem dn7_pos (w : Int) : 0 < dn7 w ∧ dn7 w < 8 := by
  unfold dn7
  split
  · decide
  · split
    · decide
    · split <;> decide
/-- a drawn temperature (the laws k08, k72, k73) -/
def shareS (p : Pl) : Rat := if pick p 8 = 0 then Rat.divInt (pick (left p 8) 2000000000 - 1000000000) (1 + pick (left (left p 8) 2000000000) 6) else Rat.divInt (pick (left p 8) 16 - 4) (dn7 (pick p 8))
def shareP (p : Pl) : Pl := if pick p 8 = 0 then left (left (left p 8) 2000000000) 6 else left (left p 8) 16
theorem shareP_ok {p : Pl} (h : p.Ok) : (shareP p).Ok := by
  unfold shareP
  split
  · exact left_ok (left_ok (left_ok h (by decide)) (by decide)) (by decide)
  · exact left_ok (left_ok h (by decide)) (by decide)
theorem shareS_rb {p : Pl} : Rb 40 (shareS p) := by
  unfold shareS
  split
  · have a := pick_nn (p := left p 8) (w := 2000000000) (by decide)
    have b := pick_lt (p := left p 8) (w := 2000000000) (by decide)
    have c := pick_nn (p := left (left p 8) 2000000000) (w := 6) (by decide)
    have d := pick_lt (p := left (left p 8) 2000000000) (w := 6) (by decide)
    exact .di (by unfold Bt; omega) (by unfold Bt; omega) (by omega)
  · have a := pick_nn (p := left p 8) (w := 16) (by decide)
    have b := pick_lt (p := left p 8) (w := 16) (by decide)
    have c := dn7_pos (pick p 8)
    exact .di (by unfold Bt; omega) (by unfold Bt; omega) c.1
/-- a drawn size -/
def size4 (a b c d : Int) : Int := if d = 0 then 1 else if d = 1 then 1 + a else if d = 2 then 1 + b else 1 + c
theorem at_size4 {a b c d : Int} (h0 : 0 ≤ d) (h1 : d < 4) : atI ([.int 1, .int (1 + a), .int (1 + b), .int (1 + c)] : List PyData) d = some (.int (size4 a b c d)) := by
  have h : d = 0 ∨ d = 1 ∨ d = 2 ∨ d = 3 := by omega
  rcases h with rfl | rfl | rfl | rfl <;> rfl
def sizeS (p : Pl) : Int := size4 (pick p 4) (pick (left p 4) 9) (pick (left (left p 4) 9) 99) (pick (left (left (left p 4) 9) 99) 4)
def sizeP (p : Pl) : Pl := left (left (left (left p 4) 9) 99) 4
theorem sizeP_ok {p : Pl} (h : p.Ok) : (sizeP p).Ok := left_ok (left_ok (left_ok (left_ok h (by decide)) (by decide)) (by decide)) (by decide)
theorem sizeS_sz (p : Pl) : Sz (sizeS p) := by
  have a := pick_nn (p := p) (w := 4) (by decide)
  have a' := pick_lt (p := p) (w := 4) (by decide)
  have b := pick_nn (p := left p 4) (w := 9) (by decide)
  have b' := pick_lt (p := left p 4) (w := 9) (by decide)
  have c := pick_nn (p := left (left p 4) 9) (w := 99) (by decide)
  have c' := pick_lt (p := left (left p 4) 9) (w := 99) (by decide)
  unfold sizeS size4 Sz
  split
  · decide
  · split
    · omega
    · split <;> omega
/-- n drawn blocks -/
def lotN : Nat → Pl → List Bl × Pl
  | 0, p => ([], p)
  | n + 1, p => ((lotN n p).1 ++ [(sizeS (lotN n p).2, shareS (sizeP (lotN n p).2))], shareP (sizeP (lotN n p).2))
theorem lotN_ok {p : Pl} (h : p.Ok) : ∀ n : Nat, (lotN n p).2.Ok
  | 0 => h
  | n + 1 => shareP_ok (sizeP_ok (lotN_ok h n))
theorem lotN_len (p : Pl) : ∀ n : Nat, (lotN n p).1.length = n
  | 0 => rfl
  | n + 1 => by
    show ((lotN n p).1 ++ [_]).length = _
    rw [List.length_append, lotN_len p n]; rfl
theorem lotN_each (p : Pl) : ∀ (n : Nat) (b : Bl), b ∈ (lotN n p).1 → Sz b.1 ∧ Rb 40 b.2
  | 0, b, h => by simp [lotN] at h
  | n + 1, b, h => by
    have h' : b ∈ (lotN n p).1 ++ [(sizeS (lotN n p).2, shareS (sizeP (lotN n p).2))] := h
    rw [List.mem_append, List.mem_singleton] at h'
    rcases h' with h' | rfl
    · exact lotN_each p n b h'
    · exact ⟨sizeS_sz _, shareS_rb⟩
def lotS (p : Pl) (m : Int) : List Bl := (lotN (1 + pick p m).toNat (left p m)).1
def lotP (p : Pl) (m : Int) : Pl := (lotN (1 + pick p m).toNat (left p m)).2
end AL
/-! What the laws say of states: wout a block, with a block in two parts. -/
namespace AL
open PySem PySem.Spec L2
def NoneLess (L W : List Bl) (b o : Nat) (u : Rat) : Prop := ¬ (ext true L b).1 < (ext true W o).1 ∧ ¬ (ext false W o).1 < (ext false L b).1 ∧ (¬ tmp L b < u → (ext true L b).1 = (ext true W o).1) ∧ (¬ u < tmp L b → (ext false L b).1 = (ext false W o).1)
theorem wout_len {L : List Bl} {r : Nat} (hr : r < L.length) : (wout L r).length + 1 = L.length := by
  unfold wout; rw [List.length_append, List.length_take, List.length_drop]; omega
theorem wout_ok {n : Nat} {L : List Bl} {r : Nat} (O : OkSt n L) (h2 : 2 ≤ L.length) (hr : r < L.length) : OkSt n (wout L r) := by
  have := wout_len hr
  have := O.most
  refine ⟨by omega, by omega, fun b hb => O.each b ?_⟩
  unfold wout at hb
  rcases List.mem_append.mp hb with h | h
  · exact List.mem_of_mem_take h
  · exact List.mem_of_mem_drop h
theorem parted_len {L : List Bl} {r : Nat} {s : Int} (hr : r < L.length) : (parted L r s).length = L.length + 1 := by
  unfold parted
  rw [List.length_append, List.length_append, List.length_cons, List.length_take, List.length_drop, List.length_singleton]; omega
theorem parted_ok {n : Nat} {L : List Bl} {r : Nat} {s : Int} (O : OkSt n L) (hr : r < L.length) (h12 : L.length < 12) (h0 : 1 ≤ s) (h1 : s < siz L r) : OkSt n (parted L r s) := by
  have := parted_len (s := s) hr
  have hs := O.sz hr
  refine ⟨by omega, by omega, fun b hb => ?_⟩
  unfold parted at hb
  rw [List.mem_append, List.mem_append, List.mem_cons, List.mem_singleton] at hb
  rcases hb with (h | rfl | h) | rfl
  · exact O.each b (List.mem_of_mem_take h)
  · exact ⟨by unfold Sz at *; omega, O.rb hr⟩
  · exact O.each b (List.mem_of_mem_drop h)
  · exact ⟨by unfold Sz at *; show 1 ≤ siz L r - s ∧ siz L r - s ≤ 99; omega, O.rb hr⟩
end AL
/-! One touch as a function of the temperature; the order of the others. -/
namespace AL
open PySem PySem.Spec L2

/-! ### mixing -/
theorem mix_eq {S s : Int} (t T : Rat) (hS : 0 < S) (hs : 0 < s) : mix S t s T * ((S : Rat) + (s : Rat)) = (S : Rat) * t + (s : Rat) * T := by
  have h : (0 : Rat) < ((S + s : Int) : Rat) := Rat.intCast_pos.mpr (by omega)
  unfold mix
  rw [Rat.intCast_add] at h ⊢
  rw [Rat.div_def, Rat.mul_assoc, Rat.inv_mul_cancel _ (by grind), Rat.mul_one]
section
variable {x y S s t u T : Rat}
theorem mx_lt (hS : 0 < S) (hs : 0 < s) (h : x * (S + s) = S * t + s * T) (ht : t < T) : x < T := by
  have h1 : 0 < S * (T - t) := Rat.mul_pos hS (by grind)
  apply Classical.byContradiction
  intro hn
  have h4 : 0 ≤ (x - T) * (S + s) := Rat.mul_nonneg (by grind) (by grind)
  grind
theorem mx_gt (hS : 0 < S) (hs : 0 < s) (h : x * (S + s) = S * t + s * T) (ht : t < T) : t < x := by
  have h1 : 0 < s * (T - t) := Rat.mul_pos hs (by grind)
  apply Classical.byContradiction
  intro hn
  have h4 : 0 ≤ (t - x) * (S + s) := Rat.mul_nonneg (by grind) (by grind)
  grind
theorem mx_lt' (hS : 0 < S) (hs : 0 < s) (h : x * (S + s) = S * t + s * T) (ht : T < t) : T < x := by
  have h1 : 0 < S * (t - T) := Rat.mul_pos hS (by grind)
  apply Classical.byContradiction
  intro hn
  have h4 : 0 ≤ (T - x) * (S + s) := Rat.mul_nonneg (by grind) (by grind)
  grind
theorem mx_gt' (hS : 0 < S) (hs : 0 < s) (h : x * (S + s) = S * t + s * T) (ht : T < t) : x < t := by
  have h1 : 0 < s * (t - T) := Rat.mul_pos hs (by grind)
  apply Classical.byContradiction
  intro hn
  have h4 : 0 ≤ (x - t) * (S + s) := Rat.mul_nonneg (by grind) (by grind)
  grind
theorem mx_mono (hS : 0 < S) (hs : 0 < s) (h : x * (S + s) = S * t + s * T) (k : y * (S + s) = S * u + s * T) (ht : t < u) : x < y := by
  have h1 : 0 < S * (u - t) := Rat.mul_pos hS (by grind)
  apply Classical.byContradiction
  intro hn
  have h4 : 0 ≤ (x - y) * (S + s) := Rat.mul_nonneg (by grind) (by grind)
  grind
end
theorem cast_pos {s : Int} (h : 0 < s) : (0 : Rat) < (s : Rat) := Rat.intCast_pos.mpr h
/-- one touch in the direction -/
def stp (up : Bool) (S : Int) (t : Rat) (s : Int) (T : Rat) : Rat := if ahead up t T then mix S t s T else t
/-- at least as far in the direction -/
def lef (up : Bool) (t u : Rat) : Prop := if up then t ≤ u else u ≤ t
def ltf (up : Bool) (t u : Rat) : Prop := if up then t < u else u < t
theorem lef.refl (up : Bool) (t : Rat) : lef up t t := by unfold lef; split <;> exact Rat.le_refl
theorem lef.trans {up : Bool} {t u v : Rat} (h : lef up t u) (k : lef up u v) : lef up t v := by
  unfold lef at *
  cases up
  · simp at *; exact Rat.le_trans k h
  · simp at *; exact Rat.le_trans h k
theorem lef_of {up : Bool} {t u : Rat} (h : ltf up t u) : lef up t u := by
  unfold ltf lef at *
  cases up <;> simp at * <;> grind
theorem lef_cases {up : Bool} {t u : Rat} (h : lef up t u) : t = u ∨ ltf up t u := by
  unfold ltf lef at *
  cases up <;> simp at * <;> grind
theorem ahead_iff {up : Bool} {t T : Rat} : ahead up t T = true ↔ ltf up t T := by
  unfold ahead ltf
  cases up <;> simp
section
variable {up : Bool} {S s : Int} {t u T : Rat}
theorem stp_yes (h : ltf up t T) : stp up S t s T = mix S t s T := by unfold stp; rw [if_pos (ahead_iff.mpr h)]
theorem stp_no (h : ¬ ltf up t T) : stp up S t s T = t := by unfold stp; rw [if_neg (fun z => h (ahead_iff.mp z))]
theorem mix_between (hS : 0 < S) (hs : 0 < s) (h : ltf up t T) : ltf up t (mix S t s T) ∧ ltf up (mix S t s T) T := by
  have e := mix_eq t T hS hs
  have a := cast_pos hS
  have b := cast_pos hs
  unfold ltf at *
  cases up
  · simp at *; exact ⟨mx_gt' a b e h, mx_lt' a b e h⟩
  · simp at *; exact ⟨mx_gt a b e h, mx_lt a b e h⟩
theorem stp_ge (hS : 0 < S) (hs : 0 < s) : lef up t (stp up S t s T) := by
  by_cases h : ltf up t T
  · rw [stp_yes h]; exact lef_of (mix_between hS hs h).1
  · rw [stp_no h]; exact lef.refl _ _
theorem stp_mono (hS : 0 < S) (hs : 0 < s) (h : ltf up t u) : ltf up (stp up S t s T) (stp up S u s T) := by
  have e1 := mix_eq t T hS hs
  have e2 := mix_eq u T hS hs
  have a := cast_pos hS
  have b := cast_pos hs
  by_cases h1 : ltf up t T
  · rw [stp_yes h1]
    by_cases h2 : ltf up u T
    · rw [stp_yes h2]
      unfold ltf at *
      cases up
      · simp at *; exact mx_mono a b e2 e1 h
      · simp at *; exact mx_mono a b e1 e2 h
    · rw [stp_no h2]
      have := (mix_between hS hs h1).2
      unfold ltf at *
      cases up
      · simp at *; grind
      · simp at *; grind
  · have h2 : ¬ ltf up u T := by
      unfold ltf at *
      cases up
      · simp at *; grind
      · simp at *; grind
    rw [stp_no h1, stp_no h2]; exact h
theorem stp_lt {U : Rat} (hS : 0 < S) (hs : 0 < s) (h : ltf up t U) (k : lef up T U) : ltf up (stp up S t s T) U := by
  by_cases h1 : ltf up t T
  · rw [stp_yes h1]
    have := (mix_between hS hs h1).2
    unfold ltf lef at *
    cases up
    · simp at *; grind
    · simp at *; grind
  · rw [stp_no h1]; exact h
end
/-! ### a row of touches -/
def Gt (up : Bool) (L : List Bl) (S : Int) (l : List Nat) (t : Rat) : Rat := l.foldl (fun t o => stp up S t (siz L o) (tmp L o)) t
theorem ext_Gt (up : Bool) (L : List Bl) (b : Nat) : (ext up L b).1 = Gt up L (siz L b) (ordO up L b) (tmp L b) := by
  unfold ext exOf Gt
  generalize ordO up L b = l
  have : ∀ (l : List Nat) (x : Rat × List Nat), (l.foldl (exStep up L b) x).1 = l.foldl (fun t o => stp up (siz L b) t (siz L o) (tmp L o)) x.1 := by
    intro l
    induction l with
    | nil => intro x; rfl
    | cons o l ih =>
      intro x
      rw [List.foldl_cons, List.foldl_cons, ih]
      congr 1
      unfold exStep stp
      split <;> rfl
  exact this l (tmp L b, [])
section
variable {up : Bool} {L : List Bl} {S : Int} {t u : Rat}
/-- all the blocks of the row have a size -/
def Szs (L : List Bl) (l : List Nat) : Prop := ∀ o ∈ l, 0 < siz L o
theorem Gt_app (l m : List Nat) (t : Rat) : Gt up L S (l ++ m) t = Gt up L S m (Gt up L S l t) := by unfold Gt; rw [List.foldl_append]
theorem Gt_cons (o : Nat) (m : List Nat) (t : Rat) : Gt up L S (o :: m) t = Gt up L S m (stp up S t (siz L o) (tmp L o)) := rfl
theorem Gt_mono (hS : 0 < S) : ∀ {l : List Nat} {t u : Rat}, Szs L l → ltf up t u → ltf up (Gt up L S l t) (Gt up L S l u)
  | [], _, _, _, h => h
  | o :: l, t, u, z, h => Gt_mono (l := l) (t := stp up S t (siz L o) (tmp L o)) (u := stp up S u (siz L o) (tmp L o)) hS (fun q hq => z q (by simp [hq])) (stp_mono hS (z o (by simp)) h)
theorem Gt_monoE (hS : 0 < S) {l : List Nat} {t u : Rat} (z : Szs L l) (h : lef up t u) : lef up (Gt up L S l t) (Gt up L S l u) := by
  rcases lef_cases h with rfl | h
  · exact lef.refl _ _
  · exact lef_of (Gt_mono hS z h)
theorem Gt_ge (hS : 0 < S) : ∀ {l : List Nat} {t : Rat}, Szs L l → lef up t (Gt up L S l t)
  | [], _, _ => lef.refl _ _
  | o :: l, t, z => (stp_ge hS (z o (by simp))).trans (Gt_ge hS (fun q hq => z q (by simp [hq])))
theorem Gt_lt (hS : 0 < S) {U : Rat} : ∀ {l : List Nat} {t : Rat}, Szs L l → (∀ o ∈ l, lef up (tmp L o) U) → ltf up t U → ltf up (Gt up L S l t) U
  | [], _, _, _, h => h
  | o :: l, t, z, k, h => Gt_lt (l := l) (t := stp up S t (siz L o) (tmp L o)) hS (fun q hq => z q (by simp [hq])) (fun q hq => k q (by simp [hq])) (stp_lt hS (z o (by simp)) h (k o (by simp)))
/-- without r -/
theorem Gt_filter (hS : 0 < S) (r : Nat) : ∀ {l : List Nat} {t : Rat}, Szs L l → lef up (Gt up L S (l.filter fun o => decide (o ≠ r)) t) (Gt up L S l t)
  | [], _, _ => lef.refl _ _
  | o :: l, t, z => by
    have z' : Szs L l := fun q hq => z q (by simp [hq])
    by_cases h : o = r
    · rw [List.filter_cons, if_neg (by simp [h])]
      exact (Gt_filter hS r z').trans (Gt_monoE hS z' (stp_ge hS (z o (by simp))))
    · rw [List.filter_cons, if_pos (by simp [h])]
      exact Gt_filter hS r z'
theorem Gt_filter_eq (hS : 0 < S) (r : Nat) : ∀ {l : List Nat} {t : Rat}, Szs L l → lef up (tmp L r) t → Gt up L S (l.filter fun o => decide (o ≠ r)) t = Gt up L S l t
  | [], _, _, _ => rfl
  | o :: l, t, z, k => by
    have z' : Szs L l := fun q hq => z q (by simp [hq])
    by_cases h : o = r
    · rw [List.filter_cons, if_neg (by simp [h]), Gt_cons, stp_no (by
        rw [h]; unfold ltf lef at *; cases up <;> simp at * <;> grind)]
      exact Gt_filter_eq hS r z' k
    · rw [List.filter_cons, if_pos (by simp [h])]
      exact Gt_filter_eq hS r z' (k.trans (stp_ge hS (z o (by simp))))
end

/-! ### the order -/
section
variable {up : Bool} {L : List Bl}
theorem bfr_iff {i j : Nat} : bfr up L i j = true ↔ (tmp L i = tmp L j ∧ i < j) ∨ (tmp L i ≠ tmp L j ∧ ltf up (tmp L i) (tmp L j)) := by
  unfold bfr
  by_cases h : tmp L i = tmp L j
  · rw [if_pos h]; simp [h]
  · rw [if_neg h, ahead_iff]; simp [h]
theorem bfr_trans {i j k : Nat} (h : bfr up L i j = true) (g : bfr up L j k = true) : bfr up L i k = true := by
  rw [bfr_iff] at *
  unfold ltf at *
  cases up <;> simp at * <;> grind
theorem bfr_asym {i j : Nat} (h : bfr up L i j = true) (g : bfr up L j i = true) : False := by
  rw [bfr_iff] at *
  unfold ltf at *
  cases up <;> simp at * <;> grind
theorem bfr_total {i j : Nat} (n : i ≠ j) (h : ¬ bfr up L i j = true) : bfr up L j i = true := by
  rw [bfr_iff] at *
  unfold ltf at *
  cases up <;> simp at * <;> grind
theorem bfr_lef {i j : Nat} (h : bfr up L i j = true) : lef up (tmp L i) (tmp L j) := by
  rw [bfr_iff] at h
  rcases h with ⟨e, _⟩ | ⟨_, h⟩
  · rw [e]; exact lef.refl _ _
  · exact lef_of h
end
/-- of a sorted list, those before a place are a beginning of it -/
theorem filter_take {α : Type} {R : α → α → Prop} {p : α → Bool} (hp : ∀ x y, R x y → p y = true → p x = true) : ∀ {l : List α}, l.Pairwise R → l.take (l.filter p).length = l.filter p ∧ l.drop (l.filter p).length = l.filter (fun x => !p x)
  | [], _ => by simp
  | x :: l, h => by
    rw [List.pairwise_cons] at h
    obtain ⟨h1, h2⟩ := h
    obtain ⟨i1, i2⟩ := filter_take hp h2
    by_cases hx : p x = true
    · rw [List.filter_cons, if_pos hx, List.filter_cons, if_neg (by simp [hx])]
      simp [i1, i2]
    · have e : l.filter p = [] := by
        rw [List.filter_eq_nil_iff]
        intro y hy hpy
        exact hx (hp x y (h1 y hy) hpy)
      have e2 : l.filter (fun x => !p x) = l := by
        rw [List.filter_eq_self]
        intro y hy
        have : ¬ p y = true := fun z => hx (hp x y (h1 y hy) z)
        simp [this]
      rw [List.filter_cons, if_neg hx, e, List.filter_cons, if_pos (by simp [hx]), e2]
      simp
theorem sorted_unique {α : Type} {R : α → α → Prop} (asym : ∀ a b, R a b → R b a → False) : ∀ {l m : List α}, l.Pairwise R → m.Pairwise R → (∀ x, x ∈ l ↔ x ∈ m) → l = m
  | [], [], _, _, _ => rfl
  | [], b :: m, _, _, h => absurd ((h b).mpr (by simp)) (by simp)
  | a :: l, [], _, _, h => absurd ((h a).mp (by simp)) (by simp)
  | a :: l, b :: m, hl, hm, h => by
    rw [List.pairwise_cons] at hl hm
    have e : a = b := by
      rcases List.mem_cons.mp ((h a).mp (by simp)) with e | ha
      · exact e
      · rcases List.mem_cons.mp ((h b).mpr (by simp)) with e | hb
        · exact e.symm
        · exact (asym _ _ (hm.1 a ha) (hl.1 b hb)).elim
    subst e
    rw [sorted_unique asym hl.2 hm.2 fun x => ⟨fun hx => ?_, fun hx => ?_⟩]
    · rcases List.mem_cons.mp ((h x).mp (List.mem_cons_of_mem _ hx)) with e | q
      · subst e; exact (asym _ _ (hl.1 x hx) (hl.1 x hx)).elim
      · exact q
    · rcases List.mem_cons.mp ((h x).mpr (List.mem_cons_of_mem _ hx)) with e | q
      · subst e; exact (asym _ _ (hm.1 x hx) (hm.1 x hx)).elim
      · exact q
section
variable {up : Bool} {L : List Bl} {b : Nat}
theorem ordTo_pw : ∀ m : Nat, (ordTo up L b m).Pairwise fun i j => bfr up L i j = true
  | 0 => by simp [ordTo]
  | m + 1 => by
    have ih := ordTo_pw m
    rw [ordTo_succ]; unfold ordStep
    split
    · exact ih
    · obtain ⟨e1, e2⟩ := filter_take (p := fun o => bfr up L o m) (fun x y h g => bfr_trans h g) ih
      rw [e1, e2, List.pairwise_append, List.pairwise_cons]
      refine ⟨ih.filter _, ⟨fun y hy => ?_, ih.filter _⟩, fun x hx y hy => ?_⟩
      · have h1 := List.mem_filter.mp hy
        have h2 := ordTo_mem h1.1
        exact bfr_total (by omega) (by simpa using h1.2)
      · have h1 := (List.mem_filter.mp hx).2
        rcases List.mem_cons.mp hy with rfl | hy
        · exact h1
        · have h3 := List.mem_filter.mp hy
          have h2 := ordTo_mem h3.1
          exact bfr_trans h1 (bfr_total (by omega) (by simpa using h3.2))
theorem mem_ordTo : ∀ {m n : Nat}, n < m → n ≠ b → n ∈ ordTo up L b m
  | m + 1, n, h, hn => by
    rw [ordTo_succ]; unfold ordStep
    by_cases e : n = m
    · subst e
      rw [if_neg hn]; simp
    · have ih := mem_ordTo (m := m) (n := n) (by omega) hn
      split
      · exact ih
      · rw [List.mem_append, List.mem_cons]
        rw [← List.take_append_drop ((ordTo up L b m).filter fun o => bfr up L o m).length (ordTo up L b m), List.mem_append] at ih
        rcases ih with h | h
        · exact .inl h
        · exact .inr (.inr h)
end
end AL
/-! Without a block; with a block in two parts. -/
namespace AL
open PySem PySem.Spec L2
theorem getD_congr {L M : List Bl} {i j : Nat} (h : L[i]? = M[j]?) : siz L i = siz M j ∧ tmp L i = tmp M j := by
  unfold siz tmp
  rw [List.getD_eq_getElem?_getD, List.getD_eq_getElem?_getD, h]
  exact ⟨rfl, rfl⟩
/-- the place in the whole state -/
def upto (r x : Nat) : Nat := if x < r then x else x + 1
theorem wout_get {L : List Bl} {r x : Nat} (hr : r < L.length) : (wout L r)[x]? = L[upto r x]? := by
  unfold wout upto
  by_cases h : x < r
  · rw [if_pos h, List.getElem?_append_left (by rw [List.length_take]; omega), List.getElem?_take, if_pos h]
  · rw [if_neg h, List.getElem?_append_right (by rw [List.length_take]; omega), List.length_take, List.getElem?_drop]
    congr 1
    omega
section
variable {up : Bool} {L : List Bl} {r b : Nat}
theorem wout_siz (hr : r < L.length) (x : Nat) : siz (wout L r) x = siz L (upto r x) := (getD_congr (wout_get hr)).1
theorem wout_tmp (hr : r < L.length) (x : Nat) : tmp (wout L r) x = tmp L (upto r x) := (getD_congr (wout_get hr)).2
theorem wout_bfr (hr : r < L.length) (i j : Nat) : bfr up (wout L r) i j = bfr up L (upto r i) (upto r j) := by
  unfold bfr
  rw [wout_tmp hr, wout_tmp hr]
  have : decide (i < j) = decide (upto r i < upto r j) := by
    apply decide_eq_decide.mpr
    unfold upto
    split <;> split <;> omega
  rw [this]
theorem wout_ord (hr : r < L.length) (hb : b < L.length) (hne : b ≠ r) : (ordO up (wout L r) (if r < b then b - 1 else b)).map (upto r) = (ordO up L b).filter fun o => decide (o ≠ r) := by
  have hl := wout_len hr
  refine sorted_unique (R := fun i j => bfr up L i j = true) (fun _ _ h g => bfr_asym h g) ?_ ?_ fun x => ?_
  · rw [List.pairwise_map]
    refine (ordTo_pw (up := up) (L := wout L r) (b := if r < b then b - 1 else b) _).imp fun {i j} h => ?_
    rwa [wout_bfr hr] at h
  · exact (ordTo_pw (up := up) (L := L) (b := b) _).filter _
  · rw [List.mem_map, List.mem_filter]
    constructor
    · rintro ⟨i, hi, rfl⟩
      have := ordTo_mem hi
      refine ⟨mem_ordTo ?_ ?_, ?_⟩
      · unfold upto; split <;> omega
      · unfold upto; split <;> split at this <;> omega
      · unfold upto; simp; split <;> omega
    · rintro ⟨hx, hr'⟩
      have hx2 := ordTo_mem hx
      have hr2 : x ≠ r := by simpa using hr'
      refine ⟨if r < x then x - 1 else x, mem_ordTo ?_ ?_, ?_⟩
      · split <;> omega
      · split <;> split <;> omega
      · unfold upto; split <;> split <;> omega
theorem wout_Gt (hr : r < L.length) (S : Int) : ∀ (l : List Nat) (t : Rat), Gt up (wout L r) S l t = Gt up L S (l.map (upto r)) t
  | [], _ => rfl
  | o :: l, t => by
    rw [List.map_cons, Gt_cons, Gt_cons, wout_siz hr, wout_tmp hr]
    exact wout_Gt hr S l _
theorem wout_ext (hr : r < L.length) (hb : b < L.length) (hne : b ≠ r) : (ext up (wout L r) (if r < b then b - 1 else b)).1 = Gt up L (siz L b) ((ordO up L b).filter fun o => decide (o ≠ r)) (tmp L b) := by
  have e : upto r (if r < b then b - 1 else b) = b := by unfold upto; split <;> split <;> omega
  rw [ext_Gt, wout_siz hr, wout_tmp hr, e, wout_Gt hr, wout_ord hr hb hne]
end
theorem szs_ord {up : Bool} {n : Nat} {L : List Bl} {b : Nat} (O : OkSt n L) : Szs L (ordO up L b) := fun o ho => by
  have := O.sz (ordTo_mem ho).1
  unfold Sz at this; omega
theorem none_less_ok {n : Nat} {L : List Bl} {r b : Nat} (O : OkSt n L) (hr : r < L.length) (hb : b < L.length) (hne : b ≠ r) : NoneLess L (wout L r) b (if r < b then b - 1 else b) (tmp L r) := by
  have hS : 0 < siz L b := by have := O.sz hb; unfold Sz at this; omega
  unfold NoneLess
  rw [wout_ext hr hb hne, wout_ext hr hb hne, ext_Gt, ext_Gt]
  refine ⟨?_, ?_, fun h => ?_, fun h => ?_⟩
  · have h := Gt_filter (up := true) (t := tmp L b) hS r (szs_ord (up := true) (b := b) O)
    unfold lef at h; rw [if_pos rfl] at h
    exact Rat.not_lt.mpr h
  · have h := Gt_filter (up := false) (t := tmp L b) hS r (szs_ord (up := false) (b := b) O)
    unfold lef at h; rw [if_neg (by decide)] at h
    exact Rat.not_lt.mpr h
  · exact (Gt_filter_eq (up := true) hS r (szs_ord (up := true) (b := b) O) (by unfold lef; simp; exact Rat.not_lt.mp h)).symm
  · exact (Gt_filter_eq (up := false) hS r (szs_ord (up := false) (b := b) O) (by unfold lef; simp; exact Rat.not_lt.mp h)).symm
/-! ### two parts -/
section
variable {S s s' u T X Y Y' Z : Rat}
theorem mul_cancel_lt {a b K : Rat} (hK : 0 < K) (h : a * K < b * K) : a < b := by
  apply Classical.byContradiction
  intro hn
  have := Rat.mul_nonneg (a := a - b) (b := K) (by grind) (by grind)
  grind
theorem mul_cancel_eq {a b K : Rat} (hK : 0 < K) (h : a * K = b * K) : a = b := by
  apply Classical.byContradiction
  intro hn
  rcases (show a < b ∨ b < a by grind) with h1 | h1
  · have := Rat.mul_pos (a := b - a) (b := K) (by grind) hK
    grind
  · have := Rat.mul_pos (a := a - b) (b := K) (by grind) hK
    grind
theorem mx_comm (hS : 0 < S) (hs : 0 < s) (hs' : 0 < s') (h1 : X * (S + s) = S * u + s * T) (h2 : Y * (S + s') = S * X + s' * T) (k1 : Z * (S + s') = S * u + s' * T) (k2 : Y' * (S + s) = S * Z + s * T) : Y = Y' := by
  have hK : 0 < (S + s) * (S + s') := Rat.mul_pos (by grind) (by grind)
  refine mul_cancel_eq hK ?_
  have a : Y * ((S + s) * (S + s')) = S * (X * (S + s)) + s' * T * (S + s) := by grind
  have b : Y' * ((S + s) * (S + s')) = S * (Z * (S + s')) + s * T * (S + s') := by grind
  rw [a, b, h1, k1]; grind
theorem mx_two (hS : 0 < S) (hs : 0 < s) (hs' : 0 < s') (ht : u < T) (h1 : X * (S + s) = S * u + s * T) (h2 : Y * (S + s') = S * X + s' * T) (k : Z * (S + (s + s')) = S * u + (s + s') * T) : Z < Y := by
  have hX : X < T := mx_lt hS hs h1 ht
  have hY : Y < T := mx_lt hS hs' h2 hX
  have hA : 0 < S * (S + (s + s')) := Rat.mul_pos hS (by grind)
  have e1 : (T - Y) * ((S + s) * (S + s')) = S * (S * (T - u)) := by
    have : (T - Y) * (S + s') = S * (T - X) := by grind
    have : (T - X) * (S + s) = S * (T - u) := by grind
    grind
  have e2 : (T - Z) * (S * (S + (s + s'))) = S * (S * (T - u)) := by
    have : (T - Z) * (S + (s + s')) = S * (T - u) := by grind
    grind
  have e3 : (S + s) * (S + s') = S * (S + (s + s')) + s * s' := by grind
  have e4 : 0 < (T - Y) * (s * s') := Rat.mul_pos (by grind) (Rat.mul_pos hs hs')
  have e5 : (T - Y) * (S * (S + (s + s'))) < (T - Z) * (S * (S + (s + s'))) := by
    rw [e2, ← e1, e3]; grind
  have := mul_cancel_lt hA e5
  grind
end
section
variable {S s s' : Int} {u T : Rat}
theorem ltf_true {t u : Rat} : ltf true t u ↔ t < u := by unfold ltf; simp
theorem stp_comm (hS : 0 < S) (hs : 0 < s) (hs' : 0 < s') : stp true S (stp true S u s T) s' T = stp true S (stp true S u s' T) s T := by
  by_cases h : ltf true u T
  · have a := (mix_between hS hs h).2
    have b := (mix_between hS hs' h).2
    rw [stp_yes h, stp_yes h, stp_yes a, stp_yes b]
    exact mx_comm (cast_pos hS) (cast_pos hs) (cast_pos hs') (mix_eq u T hS hs) (mix_eq _ T hS hs') (mix_eq u T hS hs') (mix_eq _ T hS hs)
  · simp only [stp_no h]
theorem stp_two (hS : 0 < S) (hs : 0 < s) (hs' : 0 < s') (h : u < T) : stp true S u (s + s') T < stp true S (stp true S u s T) s' T := by
  have h' : ltf true u T := ltf_true.mpr h
  have a := (mix_between hS hs h').2
  rw [stp_yes h', stp_yes h', stp_yes a]
  have k := mix_eq u T hS (show 0 < s + s' by omega)
  rw [Rat.intCast_add] at k
  exact mx_two (cast_pos hS) (cast_pos hs) (cast_pos hs') h (mix_eq u T hS hs) (mix_eq _ T hS hs') k
theorem stp_twoE (hS : 0 < S) (hs : 0 < s) (hs' : 0 < s') : lef true (stp true S u (s + s') T) (stp true S (stp true S u s T) s' T) := by
  by_cases h : u < T
  · exact lef_of (ltf_true.mpr (stp_two hS hs hs' h))
  · have h' : ¬ ltf true u T := fun z => h (ltf_true.mp z)
    simp only [stp_no h']; exact lef.refl _ _
theorem Gt_comm {L : List Bl} (hS : 0 < S) (hs : 0 < s) : ∀ {m : List Nat} {u : Rat}, Szs L m → (∀ o ∈ m, tmp L o = T) → stp true S (Gt true L S m u) s T = Gt true L S m (stp true S u s T)
  | [], _, _, _ => rfl
  | o :: m, u, z, h => by
    have ho := h o (by simp)
    rw [Gt_cons, Gt_cons, Gt_comm hS hs (fun q hq => z q (by simp [hq])) (fun q hq => h q (by simp [hq])), ho, stp_comm hS (z o (by simp)) hs]
end
theorem Gt_congr {up : Bool} {P L : List Bl} {S : Int} : ∀ {l : List Nat} {t : Rat}, (∀ o ∈ l, siz P o = siz L o ∧ tmp P o = tmp L o) → Gt up P S l t = Gt up L S l t
  | [], _, _ => rfl
  | o :: l, t, h => by
    rw [Gt_cons, Gt_cons, (h o (by simp)).1, (h o (by simp)).2]
    exact Gt_congr fun q hq => h q (by simp [hq])
section
variable {L : List Bl} {r b : Nat} {s : Int}
theorem parted_get {x : Nat} (hr : r < L.length) (hx : x < L.length) : (parted L r s)[x]? = if x = r then some (s, tmp L r) else L[x]? := by
  unfold parted
  rw [List.getElem?_append_left (by rw [List.length_append, List.length_cons, List.length_take, List.length_drop]; omega)]
  by_cases h : x < r
  · rw [if_neg (by omega), List.getElem?_append_left (by rw [List.length_take]; omega), List.getElem?_take, if_pos h]
  · rw [List.getElem?_append_right (by rw [List.length_take]; omega), List.length_take, Nat.min_eq_left (by omega)]
    by_cases e : x = r
    · subst e; simp
    · rw [if_neg e]
      obtain ⟨k, rfl⟩ : ∃ k, x = r + (k + 1) := ⟨x - r - 1, by omega⟩
      rw [show r + (k + 1) - r = k + 1 by omega, List.getElem?_cons_succ, List.getElem?_drop]
      congr 1; omega
theorem parted_last (hr : r < L.length) : (parted L r s)[L.length]? = some (siz L r - s, tmp L r) := by
  unfold parted
  have e : (List.take r L ++ (s, tmp L r) :: List.drop (r + 1) L).length = L.length := by rw [List.length_append, List.length_cons, List.length_take, List.length_drop]; omega
  rw [List.getElem?_append_right (by omega), e]
  simp
theorem parted_tmp {x : Nat} (hr : r < L.length) (hx : x < L.length) : tmp (parted L r s) x = tmp L x := by
  have h := parted_get (s := s) hr hx
  by_cases e : x = r
  · subst e
    rw [if_pos rfl] at h
    show ((parted L x s).getD x (1, 0)).2 = _
    rw [List.getD_eq_getElem?_getD, h]; rfl
  · rw [if_neg e] at h; exact (getD_congr h).2
theorem parted_siz {x : Nat} (hr : r < L.length) (hx : x < L.length) (e : x ≠ r) : siz (parted L r s) x = siz L x := by
  have h := parted_get (s := s) hr hx
  rw [if_neg e] at h; exact (getD_congr h).1
theorem parted_r (hr : r < L.length) : siz (parted L r s) r = s := by
  have h := parted_get (s := s) hr hr
  rw [if_pos rfl] at h
  unfold siz
  rw [List.getD_eq_getElem?_getD, h]; rfl
theorem parted_end (hr : r < L.length) : siz (parted L r s) L.length = siz L r - s ∧ tmp (parted L r s) L.length = tmp L r := by
  have h := parted_last (s := s) hr
  constructor
  · show ((parted L r s).getD L.length (1, 0)).1 = _
    rw [List.getD_eq_getElem?_getD, h]; rfl
  · show ((parted L r s).getD L.length (1, 0)).2 = _
    rw [List.getD_eq_getElem?_getD, h]; rfl
theorem parted_bfr {up : Bool} {i j : Nat} (hr : r < L.length) (hi : i < L.length) (hj : j < L.length) : bfr up (parted L r s) i j = bfr up L i j := by
  unfold bfr; rw [parted_tmp hr hi, parted_tmp hr hj]
theorem parted_ordTo {up : Bool} (hr : r < L.length) : ∀ m : Nat, m ≤ L.length → ordTo up (parted L r s) b m = ordTo up L b m
  | 0, _ => rfl
  | m + 1, h => by
    rw [ordTo_succ, ordTo_succ, parted_ordTo hr m (by omega)]
    unfold ordStep
    have e : ((ordTo up L b m).filter fun o => bfr up (parted L r s) o m) = (ordTo up L b m).filter fun o => bfr up L o m := by
      refine List.filter_congr fun x hx => ?_
      have := (ordTo_mem hx).1
      exact parted_bfr hr (by omega) (by omega)
    rw [e]
end
theorem split_more {n : Nat} {L : List Bl} {r b : Nat} {s : Int} (O : OkSt n L) (hr : r < L.length) (hb : b < L.length) (hne : b ≠ r) (h0 : 1 ≤ s) (h1 : s < siz L r) : ¬ (ext true (parted L r s) b).1 < (ext true L b).1 ∧ (tmp L b < tmp L r → (ext true (parted L r s) b).1 ≠ (ext true L b).1) := by
  have hS : 0 < siz L b := by have := O.sz hb; unfold Sz at this; omega
  have hz := szs_ord (up := true) (b := b) O
  have hmem : r ∈ ordO true L b := mem_ordTo hr (Ne.symm hne)
  have pw := ordTo_pw (up := true) (L := L) (b := b) L.length
  obtain ⟨l1, l2, hl⟩ := List.append_of_mem hmem
  have hl' : ordTo true L b L.length = l1 ++ r :: l2 := hl
  have hlt : ∀ x ∈ l1 ++ r :: l2, x < L.length := fun x hx => by rw [← hl] at hx; exact (ordTo_mem hx).1
  rw [hl'] at pw
  have pw0 := pw
  rw [List.pairwise_append, List.pairwise_cons] at pw
  obtain ⟨p1, ⟨p2, p3⟩, p4⟩ := pw
  have q1 : ∀ x ∈ l1, bfr true L x r = true := fun x hx => p4 x hx r (by simp)
  have nr1 : ∀ x ∈ l1, x ≠ r := fun x hx e => by subst e; exact bfr_asym (q1 x hx) (q1 x hx)
  have nr2 : ∀ x ∈ l2, x ≠ r := fun x hx e => by subst e; exact bfr_asym (p2 x hx) (p2 x hx)
  -- what stands before the last block of the parted state
  have pe := parted_end (s := s) hr
  have hp : ∀ x, x < L.length → (bfr true (parted L r s) x L.length = true ↔ tmp L x ≤ tmp L r) := fun x hx => by
    rw [bfr_iff, parted_tmp hr hx, pe.2, ltf_true]
    constructor
    · rintro (⟨e, _⟩ | ⟨_, h⟩)
      · rw [e]; exact Rat.le_refl
      · exact Rat.le_of_lt h
    · intro h
      by_cases e : tmp L x = tmp L r
      · exact .inl ⟨e, hx⟩
      · exact .inr ⟨e, by grind⟩
  have le1 : ∀ x ∈ l1, tmp L x ≤ tmp L r := fun x hx => by
    have := bfr_lef (q1 x hx); unfold lef at this; rwa [if_pos rfl] at this
  have ge2 : ∀ x ∈ l2, tmp L r ≤ tmp L x := fun x hx => by
    have := bfr_lef (p2 x hx); unfold lef at this; rwa [if_pos rfl] at this
  have mono : ∀ x y, (bfr true L x y = true ∧ x < L.length ∧ y < L.length) → bfr true (parted L r s) y L.length = true → bfr true (parted L r s) x L.length = true := fun x y h g => by
    have hy : tmp L x ≤ tmp L y := by have := bfr_lef h.1; unfold lef at this; rwa [if_pos rfl] at this
    exact (hp x h.2.1).mpr (Rat.le_trans hy ((hp y h.2.2).mp g))
  have pwX : (l1 ++ r :: l2).Pairwise fun i j => bfr true L i j = true ∧ i < L.length ∧ j < L.length := pw0.imp_of_mem fun {i j} hi hj h => ⟨h, hlt i hi, hlt j hj⟩
  have pw2 : l2.Pairwise fun i j => bfr true L i j = true ∧ i < L.length ∧ j < L.length := p3.imp_of_mem fun {i j} hi hj h => ⟨h, hlt i (by simp [hi]), hlt j (by simp [hj])⟩
  have ft := filter_take mono pwX
  have ft2 := filter_take mono pw2
  have f1 : l1.filter (fun o => bfr true (parted L r s) o L.length) = l1 := List.filter_eq_self.mpr fun x hx => (hp x (hlt x (by simp [hx]))).mpr (le1 x hx)
  have f2 : l1.filter (fun o => !bfr true (parted L r s) o L.length) = [] := List.filter_eq_nil_iff.mpr fun x hx => by
    have : bfr true (parted L r s) x L.length = true := (hp x (hlt x (by simp [hx]))).mpr (le1 x hx)
    simp [this]
  have f3 : bfr true (parted L r s) r L.length = true := (hp r hr).mpr Rat.le_refl
  have e2 : l2 = l2.filter (fun o => bfr true (parted L r s) o L.length) ++ l2.filter (fun o => !bfr true (parted L r s) o L.length) := by
    have h := List.take_append_drop (l2.filter fun o => bfr true (parted L r s) o L.length).length l2
    have h1 := ft2.1
    have h2 := ft2.2
    rw [h1, h2] at h; exact h.symm
  have ord : ordO true (parted L r s) b = (l1 ++ r :: l2.filter fun o => bfr true (parted L r s) o L.length) ++ L.length :: l2.filter fun o => !bfr true (parted L r s) o L.length := by
    unfold ordO
    rw [parted_len hr, ordTo_succ, parted_ordTo hr _ (Nat.le_refl _), hl']
    unfold ordStep
    rw [if_neg (by omega)]
    have h1 := ft.1
    have h2 := ft.2
    rw [h1, h2, List.filter_append, List.filter_append, List.filter_cons, List.filter_cons, f1, f2, if_pos f3, if_neg (by simp [f3])]
    rfl
  generalize hm : l2.filter (fun o => bfr true (parted L r s) o L.length) = m at e2 ord
  generalize hrest : l2.filter (fun o => !bfr true (parted L r s) o L.length) = rest at e2 ord
  have mT : ∀ o ∈ m, tmp L o = tmp L r := fun o ho => by
    rw [← hm] at ho
    have h := List.mem_filter.mp ho
    have := (hp o (hlt o (by simp [h.1]))).mp h.2
    have := ge2 o h.1
    grind
  have m2 : ∀ o ∈ m, o ∈ l2 := fun o ho => by rw [e2]; simp [ho]
  have r2 : ∀ o ∈ rest, o ∈ l2 := fun o ho => by rw [e2]; simp [ho]
  have z1 : Szs L l1 := fun o ho => hz o (by rw [hl]; simp [ho])
  have zm : Szs L m := fun o ho => hz o (by rw [hl]; simp [m2 o ho])
  have zr : Szs L rest := fun o ho => hz o (by rw [hl]; simp [r2 o ho])
  have c1 : ∀ o ∈ l1, siz (parted L r s) o = siz L o ∧ tmp (parted L r s) o = tmp L o := fun o ho => ⟨parted_siz hr (hlt o (by simp [ho])) (nr1 o ho), parted_tmp hr (hlt o (by simp [ho]))⟩
  have cm : ∀ o ∈ m, siz (parted L r s) o = siz L o ∧ tmp (parted L r s) o = tmp L o := fun o ho => ⟨parted_siz hr (hlt o (by simp [m2 o ho])) (nr2 o (m2 o ho)), parted_tmp hr (hlt o (by simp [m2 o ho]))⟩
  have cr : ∀ o ∈ rest, siz (parted L r s) o = siz L o ∧ tmp (parted L r s) o = tmp L o := fun o ho => ⟨parted_siz hr (hlt o (by simp [r2 o ho])) (nr2 o (r2 o ho)), parted_tmp hr (hlt o (by simp [r2 o ho]))⟩
  have hs' : 0 < siz L r - s := by omega
  have hs0 : 0 < s := by omega
  have E1 : (ext true (parted L r s) b).1 = Gt true L (siz L b) rest (Gt true L (siz L b) m (stp true (siz L b) (stp true (siz L b) (Gt true L (siz L b) l1 (tmp L b)) s (tmp L r)) (siz L r - s) (tmp L r))) := by
    rw [ext_Gt, parted_siz hr hb hne, parted_tmp hr hb, ord, Gt_app, Gt_app, Gt_cons, Gt_cons, parted_r hr, parted_tmp hr hr, pe.1, pe.2, Gt_congr c1, Gt_congr cm, Gt_congr cr, Gt_comm hS hs' zm mT]
  have E2 : (ext true L b).1 = Gt true L (siz L b) rest (Gt true L (siz L b) m (stp true (siz L b) (Gt true L (siz L b) l1 (tmp L b)) (s + (siz L r - s)) (tmp L r))) := by
    rw [ext_Gt, hl, Gt_app, Gt_cons, e2, Gt_app, show s + (siz L r - s) = siz L r by omega]
  rw [E1, E2]
  constructor
  · have h := Gt_monoE hS zr (Gt_monoE hS zm (stp_twoE (S := siz L b) (u := Gt true L (siz L b) l1 (tmp L b)) (T := tmp L r) hS hs0 hs'))
    unfold lef at h; rw [if_pos rfl] at h
    exact Rat.not_lt.mpr h
  · intro hlt'
    have h1 : Gt true L (siz L b) l1 (tmp L b) < tmp L r := ltf_true.mp (Gt_lt hS z1 (fun o ho => by unfold lef; rw [if_pos rfl]; exact le1 o ho) (ltf_true.mpr hlt'))
    have h := ltf_true.mp (Gt_mono hS zr (Gt_mono hS zm (ltf_true.mpr (stp_two (S := siz L b) hS hs0 hs' h1))))
    exact Rat.ne_of_gt h
end AL
namespace T73
open PySem PySem.Spec PyProof.Rows L2
/-! ### the text by its places (printed by wip/gen.py) -/
abbrev R : PySem.W.OpenRow := PySem.W.OpenLaw.row PySem.Challenge.rw_warmthbytouch_k73_whole_insertion_and_re
def top (i : Nat) : Stmt := PySem.Challenge.pw_warmthbytouch_k73_whole_insertion_and_re.main.body.getD i (.Pass ⟨0, 0, 0, 0⟩)
abbrev s_is_integer : Stmt := top 7
abbrev s_in_range : Stmt := top 8
abbrev s_gcd : Stmt := top 9
abbrev s_is_fraction : Stmt := top 10
abbrev s_reduced : Stmt := top 11
abbrev s_fraction_sum : Stmt := top 12
abbrev s_fraction_product : Stmt := top 13
abbrev s_is_lower : Stmt := top 14
abbrev s_is_higher : Stmt := top 15
abbrev s_is_valid_size : Stmt := top 19
abbrev s_is_valid_block : Stmt := top 20
abbrev s_check_each : Stmt := top 21
abbrev s_check_state : Stmt := top 22
abbrev s_check_block : Stmt := top 23
abbrev s_mixed_temperature : Stmt := top 24
abbrev s_check_state_and_block : Stmt := top 26
abbrev s_temperature_after : Stmt := top 27
abbrev s_comes_before : Stmt := top 28
abbrev s_ordered_others : Stmt := top 29
abbrev s_extreme : Stmt := top 30
abbrev s_warmest : Stmt := top 31
abbrev s_coldest : Stmt := top 32
abbrev s_check_part : Stmt := top 34
abbrev s_split : Stmt := top 35
abbrev s_w_pool : Stmt := top 37
abbrev s_w_take : Stmt := top 38
abbrev s_w_low : Stmt := top 39
abbrev s_w_less : Stmt := top 40
abbrev s_w_share : Stmt := top 41
abbrev s_w_lot : Stmt := top 42
abbrev s_w_none_less : Stmt := top 43
abbrev s_law : Stmt := top 44
def d_is_integer : He.DefD := ⟨("is_integer", none), "is_integer", "is_integer", defArgs s_is_integer, defBody s_is_integer, defScope s_is_integer, [], []⟩
def d_in_range : He.DefD := ⟨("in_range", none), "in_range", "in_range", defArgs s_in_range, defBody s_in_range, defScope s_in_range, [], []⟩
def d_gcd : He.DefD := ⟨("gcd", none), "gcd", "gcd", defArgs s_gcd, defBody s_gcd, defScope s_gcd, [], []⟩
def d_is_fraction : He.DefD := ⟨("is_fraction", none), "is_fraction", "is_fraction", defArgs s_is_fraction, defBody s_is_fraction, defScope s_is_fraction, [], []⟩
def d_reduced : He.DefD := ⟨("reduced", none), "reduced", "reduced", defArgs s_reduced, defBody s_reduced, defScope s_reduced, [], []⟩
def d_fraction_sum : He.DefD := ⟨("fraction_sum", none), "fraction_sum", "fraction_sum", defArgs s_fraction_sum, defBody s_fraction_sum, defScope s_fraction_sum, [], []⟩
def d_fraction_product : He.DefD := ⟨("fraction_product", none), "fraction_product", "fraction_product", defArgs s_fraction_product, defBody s_fraction_product, defScope s_fraction_product, [], []⟩
def d_is_lower : He.DefD := ⟨("is_lower", none), "is_lower", "is_lower", defArgs s_is_lower, defBody s_is_lower, defScope s_is_lower, [], []⟩
def d_is_higher : He.DefD := ⟨("is_higher", none), "is_higher", "is_higher", defArgs s_is_higher, defBody s_is_higher, defScope s_is_higher, [], []⟩
def d_is_valid_size : He.DefD := ⟨("is_valid_size", none), "is_valid_size", "is_valid_size", defArgs s_is_valid_size, defBody s_is_valid_size, defScope s_is_valid_size, [], []⟩
def d_is_valid_block : He.DefD := ⟨("is_valid_block", none), "is_valid_block", "is_valid_block", defArgs s_is_valid_block, defBody s_is_valid_block, defScope s_is_valid_block, [], []⟩
def d_check_each : He.DefD := ⟨("check_each", none), "check_each", "check_each", defArgs s_check_each, defBody s_check_each, defScope s_check_each, [], []⟩
def d_check_state : He.DefD := ⟨("check_state", none), "check_state", "check_state", defArgs s_check_state, defBody s_check_state, defScope s_check_state, [], []⟩
def d_check_block : He.DefD := ⟨("check_block", none), "check_block", "check_block", defArgs s_check_block, defBody s_check_block, defScope s_check_block, [], []⟩
def d_mixed_temperature : He.DefD := ⟨("mixed_temperature", none), "mixed_temperature", "mixed_temperature", defArgs s_mixed_temperature, defBody s_mixed_temperature, defScope s_mixed_temperature, [], []⟩
def d_check_state_and_block : He.DefD := ⟨("check_state_and_block", none), "check_state_and_block", "check_state_and_block", defArgs s_check_state_and_block, defBody s_check_state_and_block, defScope s_check_state_and_block, [], []⟩
def d_temperature_after : He.DefD := ⟨("temperature_after", none), "temperature_after", "temperature_after", defArgs s_temperature_after, defBody s_temperature_after, defScope s_temperature_after, [], []⟩
def d_comes_before : He.DefD := ⟨("comes_before", none), "comes_before", "comes_before", defArgs s_comes_before, defBody s_comes_before, defScope s_comes_before, [], []⟩
def d_ordered_others : He.DefD := ⟨("ordered_others", none), "ordered_others", "ordered_others", defArgs s_ordered_others, defBody s_ordered_others, defScope s_ordered_others, [], []⟩
def d_extreme : He.DefD := ⟨("extreme", none), "extreme", "extreme", defArgs s_extreme, defBody s_extreme, defScope s_extreme, [], []⟩
def d_warmest : He.DefD := ⟨("warmest", none), "warmest", "warmest", defArgs s_warmest, defBody s_warmest, defScope s_warmest, [], []⟩
def d_coldest : He.DefD := ⟨("coldest", none), "coldest", "coldest", defArgs s_coldest, defBody s_coldest, defScope s_coldest, [], []⟩
def d_check_part : He.DefD := ⟨("check_part", none), "check_part", "check_part", defArgs s_check_part, defBody s_check_part, defScope s_check_part, [], []⟩
def d_split : He.DefD := ⟨("split", none), "split", "split", defArgs s_split, defBody s_split, defScope s_split, [], []⟩
def d_w_pool : He.DefD := ⟨("_law_pool", none), "_law_pool", "_law_pool", defArgs s_w_pool, defBody s_w_pool, defScope s_w_pool, [], []⟩
def d_w_take : He.DefD := ⟨("_law_take", none), "_law_take", "_law_take", defArgs s_w_take, defBody s_w_take, defScope s_w_take, [], []⟩
def d_w_low : He.DefD := ⟨("_law_low", none), "_law_low", "_law_low", defArgs s_w_low, defBody s_w_low, defScope s_w_low, [], []⟩
def d_w_less : He.DefD := ⟨("_law_less", none), "_law_less", "_law_less", defArgs s_w_less, defBody s_w_less, defScope s_w_less, [], []⟩
def d_w_share : He.DefD := ⟨("_law_share", none), "_law_share", "_law_share", defArgs s_w_share, defBody s_w_share, defScope s_w_share, [], []⟩
def d_w_lot : He.DefD := ⟨("_law_lot", none), "_law_lot", "_law_lot", defArgs s_w_lot, defBody s_w_lot, defScope s_w_lot, [], []⟩
def d_w_none_less : He.DefD := ⟨("_law_none_less", none), "_law_none_less", "_law_none_less", defArgs s_w_none_less, defBody s_w_none_less, defScope s_w_none_less, [], []⟩
def d_law : He.DefD := ⟨("law", none), "law", "law", defArgs s_law, defBody s_law, defScope s_law, [], []⟩
def fn : List He.DefD := [d_is_integer, d_in_range, d_gcd, d_is_fraction, d_reduced, d_fraction_sum, d_fraction_product, d_is_lower, d_is_higher, d_is_valid_size, d_is_valid_block, d_check_each, d_check_state, d_check_block, d_mixed_temperature, d_check_state_and_block, d_temperature_after, d_comes_before, d_ordered_others, d_extreme, d_warmest, d_coldest, d_check_part, d_split, d_w_pool, d_w_take, d_w_low, d_w_less, d_w_share, d_w_lot, d_w_none_less, d_law]
def fa : List He.Fa := [.glo "is_integer", .glo "in_range", .glo "gcd", .glo "is_fraction", .glo "reduced", .glo "fraction_sum", .glo "fraction_product", .glo "is_lower", .glo "is_higher", .glo "is_valid_size", .glo "is_valid_block", .glo "check_each", .glo "check_state", .glo "check_block", .glo "mixed_temperature", .glo "check_state_and_block", .glo "temperature_after", .glo "comes_before", .glo "ordered_others", .glo "extreme", .glo "warmest", .glo "coldest", .glo "check_part", .glo "split", .glo "_law_pool", .glo "_law_take", .glo "_law_low", .glo "_law_less", .glo "_law_share", .glo "_law_lot", .glo "_law_none_less", .glo "law", .int "MAX_BLOCKS" 12, .int "MAX_SIZE" 99, .free "abs", .free "bool", .free "enumerate", .free "int", .free "isinstance", .free "len", .free "max", .free "min", .free "range", .free "tuple"]
def loose0 : List Str := ["ContactError", "InvalidState", "InvalidSplit", "InvalidBlock", "LimitExceeded", "is_integer", "in_range", "gcd", "is_fraction", "reduced", "fraction_sum", "fraction_product", "is_lower", "is_higher", "MAX_BLOCKS", "MAX_SIZE", "is_valid_size", "is_valid_block", "check_each", "check_state", "check_block", "mixed_temperature", "check_state_and_block", "temperature_after", "comes_before", "ordered_others", "extreme", "warmest", "coldest", "check_part"]
def loose1 : List Str := ["split", "_law_pool", "_law_take", "_law_low", "_law_less", "_law_share", "_law_lot", "_law_none_less"]
def loose : List Str := loose0 ++ loose1
abbrev hk : PySem.W.Hook := He.hookD 4 fa fn
def ob (s : PySem.W.SharedT) : He.AlD := He.obsDG 4 fa fn (HandSHeadRun.getT s)
theorem ob_eq (s : PySem.W.SharedT) : ob s = hk.obs s.abs := He.obsDG_eq (HandSHeadRun.getT_eq s)
theorem run (w : World) : HandSHeadRun.RunEq R (PySem.W.view R.prog [44]) hk ob 20000 loose w := by
  intro os
  kernel_rfl
end T73
namespace T73
open PySem PySem.Spec L2 AL
local macro_rules | `(tactic| walk_at "se") => `(tactic| (first | exact AL.SetE.z | (apply AL.SetE.s; walk_at "se")))
local macro_rules | `(tactic| walk_at "fz") => `(tactic| (first | exact AL.Frz.nil | (apply AL.Frz.d; walk_at "fz") | exact AL.Frz.o (by rfl) (by walk_at "se") (by walk_at "fz")))
local macro_rules | `(tactic| walk_at "cv") => `(tactic| (first | exact AL.CvA.nil | (apply AL.CvA.d; walk_at "cv") | (apply AL.CvA.v; walk_at "cv")))
local macro_rules | `(tactic| walk_at "wk") => `(tactic| (first | exact AL.WkE.nil | (with_reducible apply AL.WkE.same; walk_at "wk") | (apply AL.WkE.drop; walk_at "wk")))
local macro_rules | `(tactic| walk_at "wipe") => `(tactic| (first | exact AL.WipeE.nil | (apply AL.WipeE.cons; walk_at "wipe"; walk_at "se")))
local macro_rules | `(tactic| walk_at "nm") => `(tactic| (first | with_reducible assumption | exact AL.Nm.blk (by with_reducible assumption) (by decide +kernel) | exact AL.nm_own (by assumption) (by with_reducible assumption) (by decide +kernel)))
local macro_rules | `(tactic| walk_at "lc") => `(tactic| (first | with_reducible assumption | exact AL.lc_own (by assumption) (by with_reducible assumption) (by decide +kernel)))
local macro_rules | `(tactic| walk_at "gn") => `(tactic| (first | with_reducible assumption | (refine AL.gnB ?_; decide +kernel)))
local macro_rules | `(tactic| walk_at "bn") => `(tactic| (first | with_reducible assumption | (refine AL.bnB ?_ ?_; decide +kernel; with_reducible assumption)))
local macro_rules | `(tactic| walk_at "cal") => `(tactic| (first | with_reducible assumption | (refine AL.calB ?_; with_reducible assumption)))
local macro_rules | `(tactic| walk_at "held") => `(tactic| (first | with_reducible assumption | (refine AL.heldB ?_; with_reducible assumption)))
local macro_rules | `(tactic| walk_at "mg") => `(tactic| (first | with_reducible assumption | (refine AL.mgB ?_; with_reducible assumption)))
local macro_rules | `(tactic| walk_at "room") => `(tactic| (first | exact AL.CxF.room (by with_reducible assumption) | exact AL.roomB (AL.CxF.room (by with_reducible assumption))))
local macro_rules | `(tactic| walk_at "calm") => `(tactic| (first | exact AL.CxF.calm (by with_reducible assumption) | exact AL.calmB (AL.CxF.calm (by with_reducible assumption))))
local macro_rules | `(tactic| walk_at "boot") => `(tactic| (decide +kernel))
local macro_rules | `(tactic| walk_at "ix") => `(tactic| (first | rfl | assumption | exact AL.at_st (by first | assumption | omega) | exact AL.at_dn7 (by omega) (by omega) (by assumption) | exact AL.at_size4 (by omega) (by omega)))
local macro_rules | `(tactic| walk_at "len") => `(tactic| (first | (simp only [List.length_cons, List.length_nil, List.length_map]; omega) | omega | (simp; omega)))
local macro_rules | `(tactic| walk_at "look") => `(tactic| (exact AL.CxF.look (by with_reducible assumption) (by decide +kernel)))
local macro_rules | `(tactic| walk_at "swap") => `(tactic| (exact AL.CxF.swapE (by with_reducible assumption) (by kernel_rfl)))
local macro_rules | `(tactic| walk_at "swapw") => `(tactic| (exact AL.CxF.swapW (by with_reducible assumption) (by kernel_rfl)))
local macro_rules | `(tactic| walk_at "pos") => `(tactic| (first | omega | decide))
local macro_rules | `(tactic| walk_at "mul") => `(tactic| (first | assumption | exact AL.bt_cmul (by assumption) (by assumption) | exact AL.small_mul (by omega) | exact AL.small_mulL (by omega) | exact AL.small_mul (by split <;> omega)))
local macro_rules | `(tactic| walk_at "div") => `(tactic| (first | assumption | exact AL.bt_cdiv (by assumption) (by assumption) | exact AL.small_div (by omega)))
local macro_rules | `(tactic| walk_at "nd") => `(tactic| (first | rfl | assumption))
local macro_rules | `(tactic| walk_at "nn") => `(tactic| (first | omega | assumption | decide))
local macro_rules | `(tactic| walk_at "pf") => `(tactic| (first | with_reducible assumption | omega | assumption | decide | (simp only [List.length_map]; omega)))
local macro_rules | `(tactic| walk_at "con") => `(tactic| (assumption))
local macro_rules | `(tactic| walk_at "pok") => `(tactic| (first | assumption | exact AL.left_ok (by walk_at "pok") (by walk_at "pf") | exact AL.shareP_ok (by walk_at "pok") | exact AL.sizeP_ok (by walk_at "pok")))
local macro_rules | `(tactic| walk_at "con") => `(tactic| (((with_reducible show AL.S_ahead _ _ _); unfold AL.S_ahead; exact ⟨_, _, rfl, by walk_at "pf", by walk_at "pf", rfl⟩)))
local macro_rules | `(tactic| walk_at "ln") => `(tactic| (first | trivial | exact ⟨trivial, by walk_at "ln"⟩ | exact ⟨by first | assumption | (simp [AL.entNol, AL.nolA]; done), by walk_at "ln"⟩))
local macro_rules | `(tactic| walk_at "pow") => `(tactic| (first | decide | decide +kernel | assumption | (unfold L2.CPow; decide +kernel)))
local macro_rules | `(tactic| walk_at "shaped") => `(tactic| (first | rfl | assumption))
local macro_rules | `(tactic| walk_at "leaf") => `(tactic| (first | ((with_reducible show ∃ _, _ = _ ∧ _); first | refine ⟨_, rfl, ?_⟩) | ((with_reducible show ∃ _ _, _ = _ ∧ _ = _ ∧ _); first | refine ⟨_, _, rfl, rfl, ?_⟩) | ((with_reducible show 0 ≤ _ ∧ AL.EE _ _ _ _ _); first | refine ⟨by walk_at "nn", ?_⟩) | ((with_reducible show 0 ≤ _ ∧ AL.RA _ _ _ _ _ _ _); first | refine ⟨by walk_at "nn", ?_⟩) | ((with_reducible show 0 ≤ _ ∧ _); first | refine ⟨by walk_at "nn", ?_⟩) | ((with_reducible show _ ≤ _ ∧ _ < _ ∧ _); first | refine ⟨by walk_at "len", by walk_at "len", ?_⟩) | ((with_reducible show (_ ≤ _ ∧ _ < _ ∧ _ ≤ _ ∧ _ < _) ∧ _); first | refine ⟨⟨by walk_at "len", by walk_at "len", by walk_at "len", by walk_at "len"⟩, ?_⟩) | ((with_reducible show ∃ _ _ _ _, _ = _ ∧ AL.SetE _ _ _ _ ∧ _); first | refine AL.lf_par (by walk_at "se") (by walk_at "se") ?_) | ((with_reducible show ∃ _ _, _ = _ ∧ AL.SetE _ _ _ _ ∧ _); first | refine AL.lf_aug (by walk_at "se") ?_) | ((with_reducible show ∃ _ _, AL.Frz _ _ _ _ ∧ _ ≤ _ ∧ _); first | refine AL.lf_frz (by walk_at "fz") (by walk_at "len") ?_) | ((with_reducible show ∃ _, AL.SetE _ _ _ _ ∧ _); first | refine AL.lf_setN (by walk_at "se") ?_ | refine AL.lf_setI (by walk_at "se") ?_) | ((with_reducible show ∃ _ _ _ _ _, AL.Frz _ _ _ _ ∧ _); first | refine AL.lf_append (by walk_at "fz") (by rfl) (by walk_at "len") (by walk_at "se") ?_) | ((with_reducible show ∃ _ _, AL.Frz _ _ [_] _ ∧ _); first | refine AL.lf_turn (by walk_at "fz") ?_ | refine AL.lf_iL (by walk_at "fz") ?_) | ((with_reducible show ∃ _, AL.KT _ _ _ ∧ _); first | refine AL.lf_kt AL.kt_l ?_ | refine AL.lf_kt AL.kt_t ?_ | refine AL.lf_kt (AL.kt_o (by rfl)) ?_) | ((with_reducible show ∃ _, AL.notD _ = true ∧ _); first | refine AL.lf_isi (by walk_at "nd") ?_) | ((with_reducible show ∃ _ _ _, _ = AL.Av.o _ ∧ _); first | refine AL.lf_app0 (by rfl) ?_) | ((with_reducible show ∃ _ _ _ _ _ _, _ = _ ∧ 0 ≤ _ ∧ _ < _ ∧ AL.Frz _ _ _ _ ∧ _); first | refine AL.lf_insert rfl (by walk_at "nn") (by walk_at "len") (by walk_at "fz") (by rfl) (by walk_at "len") (by walk_at "se") ?_) | ((with_reducible show ∃ _ _, _ = _ ∧ _ = _ ∧ 0 ≤ _ ∧ _); first | refine AL.lf_sl rfl rfl (by walk_at "nn") ?_) | ((with_reducible show ∃ _ _ _ _ _ _ _ _, _ = _ ∧ _ = _ ∧ AL.Frz _ _ _ _ ∧ _); first | refine AL.lf_setIx rfl rfl (by walk_at "fz") (by rfl) (by walk_at "ix") (by walk_at "se") ?_) | ((with_reducible show ∃ _ _, (_ ∨ _) ∧ _); first | refine AL.lf_enumT ?_ | refine AL.lf_enumL (by walk_at "fz") ?_) | ((with_reducible show _ ∧ ∃ _ _, AL.CvA _ _ _ ∧ _); first | refine AL.lf_call rfl (by walk_at "cv") (by walk_at "con") ?_ | refine AL.lf_callN rfl (by walk_at "cv") (by walk_at "con") ?_) | ((with_reducible show _ = _ ∧ ∃ _ _ _ _ _ _ _ _, _); first | refine AL.lf_callM rfl (by walk_at "cv") (by rfl) (by walk_at "con") (by walk_at "se") ?_)))
local macro_rules | `(tactic| walk_at "GEE.Constant") => `(tactic| (first | ((with_reducible show AL.EE _ _ (PySem.Expr.Constant (PySem.Const.int _) _ _) _ _); first | refine AL.ee_int ?_) | ((with_reducible show AL.EE _ _ (PySem.Expr.Constant (PySem.Const.bool _) _ _) _ _); first | refine AL.ee_bl ?_) | ((with_reducible show AL.EE _ _ (PySem.Expr.Constant PySem.Const.none _ _) _ _); first | refine AL.ee_non ?_) | ((with_reducible show AL.EE _ _ (PySem.Expr.Constant (PySem.Const.str _) _ _) _ _); first | refine AL.ee_str ?_)))
local macro_rules | `(tactic| walk_at "GEE.Name") => `(tactic| (first | ((with_reducible show AL.EE _ _ (PySem.Expr.Name "bool" _) _ _); first | refine AL.ee_ty (T := "bool") (by walk_at "bn") (by walk_at "boot") ?_) | ((with_reducible show AL.EE _ _ (PySem.Expr.Name "int" _) _ _); first | refine AL.ee_ty (T := "int") (by walk_at "bn") (by walk_at "boot") ?_) | ((with_reducible show AL.EE _ _ (PySem.Expr.Name "str" _) _ _); first | refine AL.ee_ty (T := "str") (by walk_at "bn") (by walk_at "boot") ?_) | ((with_reducible show AL.EE _ _ (PySem.Expr.Name "list" _) _ _); first | refine AL.ee_ty (T := "list") (by walk_at "bn") (by walk_at "boot") ?_) | ((with_reducible show AL.EE _ _ (PySem.Expr.Name "tuple" _) _ _); first | refine AL.ee_ty (T := "tuple") (by walk_at "bn") (by walk_at "boot") ?_) | ((with_reducible show AL.EE _ _ (PySem.Expr.Name "dict" _) _ _); first | refine AL.ee_ty (T := "dict") (by walk_at "bn") (by walk_at "boot") ?_) | ((with_reducible show AL.EE _ _ (PySem.Expr.Name _ _) _ _); first | refine AL.ee_im (by walk_at "nm") (by rfl) ?_ | refine AL.ee_ls (by walk_at "nm") (by rfl) ?_ | refine AL.ee_vl (by walk_at "nm") (by rfl) ?_ | refine AL.ee_gi (by walk_at "gn") (by walk_at "mg") ?_ | refine AL.ee_ty (by walk_at "bn") (by walk_at "boot") ?_ | refine AL.ee_gr (by walk_at "gn") (by walk_at "mg") ?_)))
local macro_rules | `(tactic| walk_at "GEE.BinOp") => `(tactic| (first | ((with_reducible show AL.EE _ _ (PySem.Expr.BinOp _ PySem.Operator.Add _ _) _ _); first | refine AL.ee_add ?_) | ((with_reducible show AL.EE _ _ (PySem.Expr.BinOp _ PySem.Operator.Sub _ _) _ _); first | refine AL.ee_sub ?_) | ((with_reducible show AL.EE _ _ (PySem.Expr.BinOp _ PySem.Operator.Mult _ _) _ _); first | refine AL.ee_mul ?_) | ((with_reducible show AL.EE _ _ (PySem.Expr.BinOp _ PySem.Operator.FloorDiv _ _) _ _); first | refine AL.ee_fdiv ?_) | ((with_reducible show AL.EE _ _ (PySem.Expr.BinOp _ PySem.Operator.Mod _ _) _ _); first | refine AL.ee_mod ?_) | ((with_reducible show AL.EE _ _ (PySem.Expr.BinOp _ PySem.Operator.Pow _ _) _ _); first | refine AL.ee_pow ?_)))
local macro_rules | `(tactic| walk_at "GEE.UnaryOp") => `(tactic| (first | ((with_reducible show AL.EE _ _ (PySem.Expr.UnaryOp PySem.UnaryOp.USub _ _) _ _); first | refine AL.ee_neg ?_) | ((with_reducible show AL.EE _ _ (PySem.Expr.UnaryOp PySem.UnaryOp.Not _ _) _ _); first | refine AL.ee_not ?_)))
local macro_rules | `(tactic| walk_at "GEE.Compare") => `(tactic| (first | ((with_reducible show AL.EE _ _ (PySem.Expr.Compare _ [PySem.CmpOp.Lt] [_] _) _ _); first | refine AL.ee_lt ?_) | ((with_reducible show AL.EE _ _ (PySem.Expr.Compare _ [PySem.CmpOp.LtE] [_] _) _ _); first | refine AL.ee_le ?_) | ((with_reducible show AL.EE _ _ (PySem.Expr.Compare _ [PySem.CmpOp.Gt] [_] _) _ _); first | refine AL.ee_gt ?_) | ((with_reducible show AL.EE _ _ (PySem.Expr.Compare _ [PySem.CmpOp.GtE] [_] _) _ _); first | refine AL.ee_ge ?_) | ((with_reducible show AL.EE _ _ (PySem.Expr.Compare _ [PySem.CmpOp.Eq] [_] _) _ _); first | refine AL.ee_eq (by walk_at "room") ?_) | ((with_reducible show AL.EE _ _ (PySem.Expr.Compare _ [PySem.CmpOp.NotEq] [_] _) _ _); first | refine AL.ee_ne (by walk_at "room") ?_) | ((with_reducible show AL.EE _ _ (PySem.Expr.Compare _ [PySem.CmpOp.Is] [PySem.Expr.Constant PySem.Const.none _ _] _) _ _); first | refine AL.ee_isN ?_) | ((with_reducible show AL.EE _ _ (PySem.Expr.Compare _ [PySem.CmpOp.IsNot] [PySem.Expr.Constant PySem.Const.none _ _] _) _ _); first | refine AL.ee_notN ?_) | ((with_reducible show AL.EE _ _ (PySem.Expr.Compare _ [PySem.CmpOp.LtE, PySem.CmpOp.LtE] [_, _] _) _ _); first | refine AL.ee_chainLL ?_) | ((with_reducible show AL.EE _ _ (PySem.Expr.Compare _ [PySem.CmpOp.LtE, PySem.CmpOp.Lt] [_, _] _) _ _); first | refine AL.ee_chainLt ?_)))
local macro_rules | `(tactic| walk_at "GEE.BoolOp") => `(tactic| (first | ((with_reducible show AL.EE _ _ (PySem.Expr.BoolOp _ [_] _) _ _); first | refine AL.ee_one ?_) | ((with_reducible show AL.EE _ _ (PySem.Expr.BoolOp PySem.BoolOp.And (_ :: _ :: _) _) _ _); first | refine AL.ee_and ?_) | ((with_reducible show AL.EE _ _ (PySem.Expr.BoolOp PySem.BoolOp.Or (_ :: _ :: _) _) _ _); first | refine AL.ee_or ?_)))
local macro_rules | `(tactic| walk_at "GEE.IfExp") => `(tactic| (first | ((with_reducible show AL.EE _ _ (PySem.Expr.IfExp _ _ _ _) _ _); first | refine AL.ee_if ?_)))
local macro_rules | `(tactic| walk_at "GEE.Tuple") => `(tactic| (first | ((with_reducible show AL.EE _ _ (PySem.Expr.Tuple _ _ _) _ _); first | refine AL.ee_tup ?_)))
local macro_rules | `(tactic| walk_at "GEE.List") => `(tactic| (first | ((with_reducible show AL.EE _ _ (PySem.Expr.List _ _) _ _); first | refine AL.ee_lst ?_)))
local macro_rules | `(tactic| walk_at "GEE.Subscript") => `(tactic| (first | ((with_reducible show AL.EE _ _ (PySem.Expr.Subscript _ (PySem.Expr.Slice none (some _) none _) _) _ _); first | refine AL.ee_slHi ?_) | ((with_reducible show AL.EE _ _ (PySem.Expr.Subscript _ (PySem.Expr.Slice (some _) none none _) _) _ _); first | refine AL.ee_slLo ?_) | ((with_reducible show AL.EE _ _ (PySem.Expr.Subscript _ _ _) _ _); first | refine AL.ee_ix (by intro _ _; rfl) ?_)))
local macro_rules | `(tactic| walk_at "GEE.Call") => `(tactic| (first | ((with_reducible show AL.EE _ _ (PySem.Expr.Call (PySem.Expr.Name "len" _) [PySem.Expr.Name _ _] [] _) _ _); first | refine AL.ee_len (by walk_at "bn") ?_) | ((with_reducible show AL.EE _ _ (PySem.Expr.Call (PySem.Expr.Name "len" _) [PySem.Expr.Subscript _ _ _] [] _) _ _); first | refine AL.ee_len (by walk_at "bn") ?_) | ((with_reducible show AL.EE _ _ (PySem.Expr.Call (PySem.Expr.Name "len" _) [PySem.Expr.Call _ _ _ _] [] _) _ _); first | refine AL.ee_len (by walk_at "bn") ?_) | ((with_reducible show AL.EE _ _ (PySem.Expr.Call (PySem.Expr.Name "len" _) [PySem.Expr.BinOp _ _ _ _] [] _) _ _); first | refine AL.ee_len (by walk_at "bn") ?_) | ((with_reducible show AL.EE _ _ (PySem.Expr.Call (PySem.Expr.Name "abs" _) [_] [] _) _ _); first | refine AL.ee_abs (by walk_at "bn") ?_) | ((with_reducible show AL.EE _ _ (PySem.Expr.Call (PySem.Expr.Name "int" _) [_] [] _) _ _); first | refine AL.ee_intB (by walk_at "bn") ?_) | ((with_reducible show AL.EE _ _ (PySem.Expr.Call (PySem.Expr.Name "max" _) [_, _] [] _) _ _); first | refine AL.ee_max2 (by walk_at "bn") (by walk_at "calm") ?_) | ((with_reducible show AL.EE _ _ (PySem.Expr.Call (PySem.Expr.Name "min" _) [_, _] [] _) _ _); first | refine AL.ee_min2 (by walk_at "bn") (by walk_at "calm") ?_) | ((with_reducible show AL.EE _ _ (PySem.Expr.Call (PySem.Expr.Name "tuple" _) [_] [] _) _ _); first | refine AL.ee_tuple (by walk_at "bn") ?_) | ((with_reducible show AL.EE _ _ (PySem.Expr.Call (PySem.Expr.Attribute _ "append" _) [_] [] _) _ _); first | refine AL.ee_append ?_) | ((with_reducible show AL.EE _ _ (PySem.Expr.Call (PySem.Expr.Attribute _ "insert" _) [_, _] [] _) _ _); first | refine AL.ee_insert ?_) | ((with_reducible show AL.EE _ _ (PySem.Expr.Call (PySem.Expr.Name "isinstance" _) [_, PySem.Expr.Name "bool" _] [] _) _ _); refine AL.ee_isi (T := "bool") (by walk_at "bn") (by decide) ?_) | ((with_reducible show AL.EE _ _ (PySem.Expr.Call (PySem.Expr.Name "isinstance" _) [_, PySem.Expr.Name "int" _] [] _) _ _); refine AL.ee_isi (T := "int") (by walk_at "bn") (by decide) ?_) | ((with_reducible show AL.EE _ _ (PySem.Expr.Call (PySem.Expr.Name "isinstance" _) [_, PySem.Expr.Name "str" _] [] _) _ _); refine AL.ee_isi (T := "str") (by walk_at "bn") (by decide) ?_) | ((with_reducible show AL.EE _ _ (PySem.Expr.Call (PySem.Expr.Name "isinstance" _) [_, PySem.Expr.Name "list" _] [] _) _ _); refine AL.ee_isi (T := "list") (by walk_at "bn") (by decide) ?_) | ((with_reducible show AL.EE _ _ (PySem.Expr.Call (PySem.Expr.Name "isinstance" _) [_, PySem.Expr.Name "tuple" _] [] _) _ _); refine AL.ee_isi (T := "tuple") (by walk_at "bn") (by decide) ?_) | ((with_reducible show AL.EE _ _ (PySem.Expr.Call (PySem.Expr.Name "isinstance" _) [_, PySem.Expr.Name "dict" _] [] _) _ _); refine AL.ee_isi (T := "dict") (by walk_at "bn") (by decide) ?_) | ((with_reducible show AL.EE _ _ (PySem.Expr.Call (PySem.Expr.Name _ _) (_ :: _) [] _) _ _); first | refine AL.ee_call (by walk_at "cal") (by walk_at "room") (by walk_at "gn") ?_ | refine AL.ee_callM (by walk_at "cal") (by walk_at "room") (by walk_at "gn") ?_ | refine AL.ee_en (AL.en_call (by walk_at "cal") (by walk_at "room") (by walk_at "gn") ?_) | refine AL.ee_callX (by walk_at "nm") (by rfl) (by walk_at "held") (by walk_at "room") ?_)))
local macro_rules | `(tactic| walk_at "GEE") => `(tactic| (first | ((with_reducible show AL.EE _ _ (PySem.Expr.Constant _ _ _) _ _); walk_at "GEE.Constant") | ((with_reducible show AL.EE _ _ (PySem.Expr.Name _ _) _ _); walk_at "GEE.Name") | ((with_reducible show AL.EE _ _ (PySem.Expr.BinOp _ _ _ _) _ _); walk_at "GEE.BinOp") | ((with_reducible show AL.EE _ _ (PySem.Expr.UnaryOp _ _ _) _ _); walk_at "GEE.UnaryOp") | ((with_reducible show AL.EE _ _ (PySem.Expr.Compare _ _ _ _) _ _); walk_at "GEE.Compare") | ((with_reducible show AL.EE _ _ (PySem.Expr.BoolOp _ _ _) _ _); walk_at "GEE.BoolOp") | ((with_reducible show AL.EE _ _ (PySem.Expr.IfExp _ _ _ _) _ _); walk_at "GEE.IfExp") | ((with_reducible show AL.EE _ _ (PySem.Expr.Tuple _ _ _) _ _); walk_at "GEE.Tuple") | ((with_reducible show AL.EE _ _ (PySem.Expr.List _ _) _ _); walk_at "GEE.List") | ((with_reducible show AL.EE _ _ (PySem.Expr.Subscript _ _ _) _ _); walk_at "GEE.Subscript") | ((with_reducible show AL.EE _ _ (PySem.Expr.Call _ _ _ _) _ _); walk_at "GEE.Call")))
local macro_rules | `(tactic| walk_at "GET.Compare") => `(tactic| (first | ((with_reducible show AL.ET _ _ (PySem.Expr.Compare _ [PySem.CmpOp.Lt] [_] _) _ _); first | refine AL.et_lt ?_) | ((with_reducible show AL.ET _ _ (PySem.Expr.Compare _ [PySem.CmpOp.LtE] [_] _) _ _); first | refine AL.et_le ?_) | ((with_reducible show AL.ET _ _ (PySem.Expr.Compare _ [PySem.CmpOp.Gt] [_] _) _ _); first | refine AL.et_gt ?_) | ((with_reducible show AL.ET _ _ (PySem.Expr.Compare _ [PySem.CmpOp.GtE] [_] _) _ _); first | refine AL.et_ge ?_) | ((with_reducible show AL.ET _ _ (PySem.Expr.Compare _ [PySem.CmpOp.Eq] [_] _) _ _); first | refine AL.et_eq (by walk_at "room") ?_) | ((with_reducible show AL.ET _ _ (PySem.Expr.Compare _ [PySem.CmpOp.NotEq] [_] _) _ _); first | refine AL.et_ne (by walk_at "room") ?_) | ((with_reducible show AL.ET _ _ (PySem.Expr.Compare _ [PySem.CmpOp.Is] [PySem.Expr.Constant PySem.Const.none _ _] _) _ _); first | refine AL.et_isN ?_) | ((with_reducible show AL.ET _ _ (PySem.Expr.Compare _ [PySem.CmpOp.IsNot] [PySem.Expr.Constant PySem.Const.none _ _] _) _ _); first | refine AL.et_notN ?_) | ((with_reducible show AL.ET _ _ (PySem.Expr.Compare _ [PySem.CmpOp.LtE, PySem.CmpOp.LtE] [_, _] _) _ _); first | refine AL.et_chainLL ?_) | ((with_reducible show AL.ET _ _ (PySem.Expr.Compare _ [PySem.CmpOp.LtE, PySem.CmpOp.Lt] [_, _] _) _ _); first | refine AL.et_chainLt ?_)))
local macro_rules | `(tactic| walk_at "GET.UnaryOp") => `(tactic| (first | ((with_reducible show AL.ET _ _ (PySem.Expr.UnaryOp PySem.UnaryOp.Not _ _) _ _); first | refine AL.et_not ?_)))
local macro_rules | `(tactic| walk_at "GET.BoolOp") => `(tactic| (first | ((with_reducible show AL.ET _ _ (PySem.Expr.BoolOp PySem.BoolOp.And _ _) _ _); first | refine AL.et_and ?_) | ((with_reducible show AL.ET _ _ (PySem.Expr.BoolOp PySem.BoolOp.Or _ _) _ _); first | refine AL.et_or ?_)))
local macro_rules | `(tactic| walk_at "GET.Call") => `(tactic| (first | ((with_reducible show AL.ET _ _ (PySem.Expr.Call _ _ _ _) _ _); first | refine AL.et_val ?_)))
local macro_rules | `(tactic| walk_at "GET.Name") => `(tactic| (first | ((with_reducible show AL.ET _ _ (PySem.Expr.Name _ _) _ _); first | refine AL.et_val ?_)))
local macro_rules | `(tactic| walk_at "GET.Subscript") => `(tactic| (first | ((with_reducible show AL.ET _ _ (PySem.Expr.Subscript _ _ _) _ _); first | refine AL.et_val ?_)))
local macro_rules | `(tactic| walk_at "GET.IfExp") => `(tactic| (first | ((with_reducible show AL.ET _ _ (PySem.Expr.IfExp _ _ _ _) _ _); first | refine AL.et_val ?_)))
local macro_rules | `(tactic| walk_at "GET") => `(tactic| (first | ((with_reducible show AL.ET _ _ (PySem.Expr.Compare _ _ _ _) _ _); walk_at "GET.Compare") | ((with_reducible show AL.ET _ _ (PySem.Expr.UnaryOp _ _ _) _ _); walk_at "GET.UnaryOp") | ((with_reducible show AL.ET _ _ (PySem.Expr.BoolOp _ _ _) _ _); walk_at "GET.BoolOp") | ((with_reducible show AL.ET _ _ (PySem.Expr.Call _ _ _ _) _ _); walk_at "GET.Call") | ((with_reducible show AL.ET _ _ (PySem.Expr.Name _ _) _ _); walk_at "GET.Name") | ((with_reducible show AL.ET _ _ (PySem.Expr.Subscript _ _ _) _ _); walk_at "GET.Subscript") | ((with_reducible show AL.ET _ _ (PySem.Expr.IfExp _ _ _ _) _ _); walk_at "GET.IfExp")))
local macro_rules | `(tactic| walk_at "GEW.BoolOp") => `(tactic| (first | ((with_reducible show AL.EW _ _ (PySem.Expr.BoolOp PySem.BoolOp.And [_] _) _ _); first | refine AL.ew_and1 ?_) | ((with_reducible show AL.EW _ _ (PySem.Expr.BoolOp PySem.BoolOp.Or [_] _) _ _); first | refine AL.ew_or1 ?_) | ((with_reducible show AL.EW _ _ (PySem.Expr.BoolOp PySem.BoolOp.And (_ :: _ :: _) _) _ _); first | refine AL.ew_and ?_) | ((with_reducible show AL.EW _ _ (PySem.Expr.BoolOp PySem.BoolOp.Or (_ :: _ :: _) _) _ _); first | refine AL.ew_or ?_)))
local macro_rules | `(tactic| walk_at "GEW") => `(tactic| (first | ((with_reducible show AL.EW _ _ (PySem.Expr.BoolOp _ _ _) _ _); walk_at "GEW.BoolOp")))
local macro_rules | `(tactic| walk_at "GETs") => `(tactic| (first | ((with_reducible show AL.ETs _ _ [] _ _); first | refine AL.ets_nil ?_) | ((with_reducible show AL.ETs _ _ [_] _ _); first | refine AL.ets_one ?_)))
local macro_rules | `(tactic| walk_at "GEA") => `(tactic| (first | ((with_reducible show AL.EA _ _ [] _ _); first | refine AL.ea_nil ?_) | ((with_reducible show AL.EA _ _ (_ :: _) _ _); first | refine AL.ea_cons ?_)))
local macro_rules | `(tactic| walk_at "GEN.List") => `(tactic| (first | ((with_reducible show AL.EN _ _ (PySem.Expr.List _ _) _ _); first | refine AL.en_lst ?_)))
local macro_rules | `(tactic| walk_at "GEN.BinOp") => `(tactic| (first | ((with_reducible show AL.EN _ _ (PySem.Expr.BinOp _ PySem.Operator.Add _ _) _ _); first | refine AL.en_cat ?_)))
local macro_rules | `(tactic| walk_at "GEN.Call") => `(tactic| (first | ((with_reducible show AL.EN _ _ (PySem.Expr.Call (PySem.Expr.Name "list" _) [_] [] _) _ _); first | refine AL.en_list (by walk_at "bn") ?_) | ((with_reducible show AL.EN _ _ (PySem.Expr.Call (PySem.Expr.Name _ _) (_ :: _) [] _) _ _); first | refine AL.en_call (by walk_at "cal") (by walk_at "room") (by walk_at "gn") ?_)))
local macro_rules | `(tactic| walk_at "GEN") => `(tactic| (first | ((with_reducible show AL.EN _ _ (PySem.Expr.List _ _) _ _); walk_at "GEN.List") | ((with_reducible show AL.EN _ _ (PySem.Expr.BinOp _ _ _ _) _ _); walk_at "GEN.BinOp") | ((with_reducible show AL.EN _ _ (PySem.Expr.Call _ _ _ _) _ _); walk_at "GEN.Call")))
local macro_rules | `(tactic| walk_at "GRA") => `(tactic| (first | ((with_reducible show AL.RA _ _ _ (AL.Av.d (PySem.PyData.tuple _)) (AL.Av.d (PySem.PyData.int _)) _ _); first | refine AL.ra_ixT (by walk_at "ix") ?_) | ((with_reducible show AL.RA _ _ _ (AL.Av.d (PySem.PyData.list _)) (AL.Av.d (PySem.PyData.int _)) _ _); first | refine AL.ra_ixL (by walk_at "ix") ?_) | ((with_reducible show AL.RA _ _ _ (AL.Av.o _) (AL.Av.d (PySem.PyData.int _)) _ _); first | refine AL.ra_ixO (by rfl) (by walk_at "ix") ?_) | ((with_reducible show AL.RA _ _ _ (AL.Av.d (AL.scr _)) (AL.Av.d (PySem.PyData.int _)) _ _); first | refine AL.ra_ixX (by walk_at "nn") (by walk_at "ix") ?_) | ((with_reducible show AL.RA _ _ _ (AL.Av.d (PySem.PyData.tuple _)) (AL.Av.d (PySem.PyData.tuple _)) _ _); first | refine AL.ra_catT (by walk_at "len") ?_) | ((with_reducible show AL.RA _ _ (L2.rEqD _) (AL.Av.d (PySem.PyData.int _)) (AL.Av.d (PySem.PyData.int _)) _ _); first | refine AL.ra_eqI ?_) | ((with_reducible show AL.RA _ _ (L2.rEqD _) (AL.Av.d (PySem.PyData.tuple [PySem.PyData.int _, PySem.PyData.int _])) (AL.Av.d (PySem.PyData.tuple [PySem.PyData.int _, PySem.PyData.int _])) _ _); first | refine AL.ra_eqF ?_) | ((with_reducible show AL.RA _ _ (L2.rNeD _) (AL.Av.d (PySem.PyData.int _)) (AL.Av.d (PySem.PyData.int _)) _ _); first | refine AL.ra_neI ?_) | ((with_reducible show AL.RA _ _ (L2.rNeD _) (AL.Av.d (PySem.PyData.tuple [PySem.PyData.int _, PySem.PyData.int _])) (AL.Av.d (PySem.PyData.tuple [PySem.PyData.int _, PySem.PyData.int _])) _ _); first | refine AL.ra_neF ?_) | ((with_reducible show AL.RA _ _ (L2.rEqD _) _ _ _ _); first | refine AL.ra_eq (by rfl) (by rfl) (by walk_at "shaped") (by walk_at "shaped") ?_) | ((with_reducible show AL.RA _ _ (L2.rNeD _) _ _ _ _); first | refine AL.ra_ne (by rfl) (by rfl) (by walk_at "shaped") (by walk_at "shaped") ?_) | ((with_reducible show AL.RA _ _ _ (AL.Av.d (PySem.PyData.int _)) (AL.Av.d (PySem.PyData.int _)) _ _); first | refine AL.ra_add ?_ | refine AL.ra_sub ?_ | refine AL.ra_mul (by walk_at "mul") ?_ | refine AL.ra_mulS (by walk_at "mul") ?_ | refine AL.ra_fdiv (by walk_at "div") ?_ | refine AL.ra_mod (by walk_at "pos") ?_ | refine AL.ra_pow (by walk_at "pow") ?_ | refine AL.ra_B0 ?_)))
local macro_rules | `(tactic| walk_at "GRC") => `(tactic| (first | ((with_reducible show AL.RC _ _ _ [AL.Av.d (PySem.PyData.list _)] _ _); first | refine AL.rc_lenL ?_) | ((with_reducible show AL.RC _ _ _ [AL.Av.d (PySem.PyData.tuple _)] _ _); first | refine AL.rc_lenT ?_) | ((with_reducible show AL.RC _ _ _ [AL.Av.d (PySem.PyData.str _)] _ _); first | refine AL.rc_lenS (by walk_at "len") ?_) | ((with_reducible show AL.RC _ _ _ [AL.Av.d (AL.scr _)] _ _); first | refine AL.rc_lenX ?_) | ((with_reducible show AL.RC _ _ _ [AL.Av.o _] _ _); first | refine AL.rc_lenO (by rfl) ?_)))
local macro_rules | `(tactic| walk_at "GEI") => `(tactic| (first | ((with_reducible show AL.EI _ _ _ (PySem.Expr.Call (PySem.Expr.Name "range" _) [_] [] _) _ _); first | refine AL.ei_range1 (by walk_at "bn") ?_) | ((with_reducible show AL.EI _ _ _ (PySem.Expr.Call (PySem.Expr.Name "range" _) [_, _] [] _) _ _); first | refine AL.ei_range2 (by walk_at "bn") ?_) | ((with_reducible show AL.EI _ _ (PySem.Expr.Tuple _ _ _) (PySem.Expr.Call (PySem.Expr.Name "enumerate" _) [_] [] _) _ _); first | refine AL.ei_enum (by walk_at "bn") ?_)))
local macro_rules | `(tactic| walk_at "GAG") => `(tactic| (first | ((with_reducible show AL.AG _ _ (L2.gName _) (AL.Av.d _) _ _); first | refine AL.ag_d (by walk_at "se") ?_) | ((with_reducible show AL.AG _ _ (L2.gName _) (AL.Av.v _) _ _); first | refine AL.ag_v (by walk_at "se") ?_) | ((with_reducible show AL.AG _ _ (L2.gName _) (AL.Av.o _) _ _); first | refine AL.ag_o (by rfl) (by walk_at "se") (by walk_at "se") ?_)))
local macro_rules | `(tactic| walk_at "GEG") => `(tactic| (first | ((with_reducible show AL.EG _ _ (PySem.Expr.Name _ _) (AL.Av.d _) _ _); first | refine AL.eg_d (by walk_at "lc") (by walk_at "se") ?_) | ((with_reducible show AL.EG _ _ (PySem.Expr.Name _ _) (AL.Av.o _) _ _); first | refine AL.eg_o (by walk_at "lc") (by rfl) (by walk_at "se") (by walk_at "se") ?_) | ((with_reducible show AL.EG _ _ (PySem.Expr.Tuple _ _ _) (AL.Av.d (PySem.PyData.tuple _)) _ _); first | refine AL.eg_tup (by walk_at "calm") (by rfl) ?_)))
local macro_rules | `(tactic| walk_at "GEGs") => `(tactic| (first | ((with_reducible show AL.EGs _ _ [] [] _ _); first | refine AL.egs_nil ?_) | ((with_reducible show AL.EGs _ _ (_ :: _) (_ :: _) _ _); first | refine AL.egs_cons ?_)))
local macro_rules | `(tactic| walk_at "GEGv") => `(tactic| (first | ((with_reducible show AL.EGv _ _ _ (PySem.Expr.Name _ _) (AL.Av.d _) _ _); first | refine AL.egv_d (by walk_at "lc") (by decide) (by walk_at "se") ?_) | ((with_reducible show AL.EGv _ _ _ (PySem.Expr.Tuple _ _ _) (AL.Av.d (PySem.PyData.tuple _)) _ _); first | refine AL.egv_tup (by walk_at "calm") (by rfl) ?_)))
local macro_rules | `(tactic| walk_at "GEGsv") => `(tactic| (first | ((with_reducible show AL.EGsv _ _ _ [] [] _ _); first | refine AL.egsv_nil ?_) | ((with_reducible show AL.EGsv _ _ _ (_ :: _) (_ :: _) _ _); first | refine AL.egsv_cons ?_)))
local macro_rules | `(tactic| walk_at "GESs") => `(tactic| (first | ((with_reducible show AL.ESs _ _ [] _ _); first | refine AL.ess_nil ?_) | ((with_reducible show AL.ESs _ _ [_] _ _); first | refine AL.ess_one ?_) | ((with_reducible show AL.ESs _ _ (_ :: _) _ _); first | refine AL.ess_cons ?_)))
local macro_rules | `(tactic| walk_at "GES.Return") => `(tactic| (first | ((with_reducible show AL.ES _ _ (PySem.Stmt.Return (some (PySem.Expr.Name _ _)) _) _ _); first | refine AL.es_ret ?_) | ((with_reducible show AL.ES _ _ (PySem.Stmt.Return (some (PySem.Expr.Subscript _ _ _)) _) _ _); first | refine AL.es_ret ?_) | ((with_reducible show AL.ES _ _ (PySem.Stmt.Return (some (PySem.Expr.Call _ _ _ _)) _) _ _); first | refine AL.es_ret ?_) | ((with_reducible show AL.ES _ _ (PySem.Stmt.Return (some (PySem.Expr.BinOp _ _ _ _)) _) _ _); first | refine AL.es_ret ?_) | ((with_reducible show AL.ES _ _ (PySem.Stmt.Return (some (PySem.Expr.Tuple _ _ _)) _) _ _); first | refine AL.es_ret ?_) | ((with_reducible show AL.ES _ _ (PySem.Stmt.Return (some (PySem.Expr.Constant _ _ _)) _) _ _); first | refine AL.es_ret ?_) | ((with_reducible show AL.ES _ _ (PySem.Stmt.Return (some (PySem.Expr.Compare _ _ _ _)) _) _ _); first | refine AL.es_ret ?_) | ((with_reducible show AL.ES _ _ (PySem.Stmt.Return (some (PySem.Expr.BoolOp _ _ _)) _) _ _); first | refine AL.es_ret ?_) | ((with_reducible show AL.ES _ _ (PySem.Stmt.Return (some (PySem.Expr.IfExp _ _ _ _)) _) _ _); first | refine AL.es_ret ?_) | ((with_reducible show AL.ES _ _ (PySem.Stmt.Return (some (PySem.Expr.UnaryOp _ _ _)) _) _ _); first | refine AL.es_ret ?_)))
local macro_rules | `(tactic| walk_at "GES.Pass") => `(tactic| (first | ((with_reducible show AL.ES _ _ (PySem.Stmt.Pass _) _ _); first | refine AL.es_pass ?_)))
local macro_rules | `(tactic| walk_at "GES.If") => `(tactic| (first | ((with_reducible show AL.ES _ _ (PySem.Stmt.If _ _ _ _) _ _); first | refine AL.es_if ?_)))
local macro_rules | `(tactic| walk_at "GES.Expr") => `(tactic| (first | ((with_reducible show AL.ES _ _ (PySem.Stmt.Expr _ _) _ _); first | refine AL.es_expr ?_)))
local macro_rules | `(tactic| walk_at "GES.Assign") => `(tactic| (first | ((with_reducible show AL.ES _ _ (PySem.Stmt.Assign [PySem.Expr.Tuple [PySem.Expr.Name _ _, PySem.Expr.Name _ _] _ _] (PySem.Expr.Tuple [_, _] _ _) _) _ _); first | refine AL.es_par (by walk_at "calm") (by walk_at "lc") (by walk_at "lc") (by decide) (by walk_at "look") (by walk_at "look") ?_ (by walk_at "swap")) | ((with_reducible show AL.ES _ _ (PySem.Stmt.Assign [PySem.Expr.Name _ _] (PySem.Expr.List _ _) _) _ _); first | refine AL.es_setN (by walk_at "lc") ?_) | ((with_reducible show AL.ES _ _ (PySem.Stmt.Assign [PySem.Expr.Name _ _] (PySem.Expr.Call (PySem.Expr.Name _ _) (_ :: _) [] _) _) _ _); first | refine AL.es_setN (by walk_at "lc") (AL.en_call (by walk_at "cal") (by walk_at "room") (by walk_at "gn") ?_)) | ((with_reducible show AL.ES _ _ (PySem.Stmt.Assign [PySem.Expr.Name _ _] _ _) _ _); first | refine AL.es_set (by walk_at "lc") ?_) | ((with_reducible show AL.ES _ _ (PySem.Stmt.Assign [PySem.Expr.Tuple _ _ _] _ _) _ _); first | refine AL.es_asg ?_) | ((with_reducible show AL.ES _ _ (PySem.Stmt.Assign [PySem.Expr.Subscript _ _ _] _ _) _ _); first | refine AL.es_setIx ?_)))
local macro_rules | `(tactic| walk_at "GES.AugAssign") => `(tactic| (first | ((with_reducible show AL.ES _ _ (PySem.Stmt.AugAssign (PySem.Expr.Name _ _) PySem.Operator.Add _ _) _ _); first | refine AL.es_augAdd (by walk_at "lc") (by rfl) ?_) | ((with_reducible show AL.ES _ _ (PySem.Stmt.AugAssign (PySem.Expr.Name _ _) PySem.Operator.Sub _ _) _ _); first | refine AL.es_augSub (by walk_at "lc") (by rfl) ?_)))
local macro_rules | `(tactic| walk_at "GES.Break") => `(tactic| (first | ((with_reducible show AL.ES _ _ (PySem.Stmt.Break _) _ _); first | refine AL.es_break ?_)))
local macro_rules | `(tactic| walk_at "GES.Continue") => `(tactic| (first | ((with_reducible show AL.ES _ _ (PySem.Stmt.Continue _) _ _); first | refine AL.es_continue ?_)))
local macro_rules | `(tactic| walk_at "GES") => `(tactic| (first | ((with_reducible show AL.ES _ _ (PySem.Stmt.Return _ _) _ _); walk_at "GES.Return") | ((with_reducible show AL.ES _ _ (PySem.Stmt.Pass _) _ _); walk_at "GES.Pass") | ((with_reducible show AL.ES _ _ (PySem.Stmt.If _ _ _ _) _ _); walk_at "GES.If") | ((with_reducible show AL.ES _ _ (PySem.Stmt.Expr _ _) _ _); walk_at "GES.Expr") | ((with_reducible show AL.ES _ _ (PySem.Stmt.Assign _ _ _) _ _); walk_at "GES.Assign") | ((with_reducible show AL.ES _ _ (PySem.Stmt.AugAssign _ _ _ _) _ _); walk_at "GES.AugAssign") | ((with_reducible show AL.ES _ _ (PySem.Stmt.Break _) _ _); walk_at "GES.Break") | ((with_reducible show AL.ES _ _ (PySem.Stmt.Continue _) _ _); walk_at "GES.Continue")))
local macro_rules | `(tactic| walk_at "GBR") => `(tactic| (first | ((with_reducible show AL.BR true _ _); first | refine AL.br_t ?_) | ((with_reducible show AL.BR false _ _); first | refine AL.br_f ?_) | ((with_reducible show AL.BR (Decidable.decide _) _ _); first | refine AL.br_d (fun _ => ?_) (fun _ => ?_)) | ((with_reducible show AL.BR (!Decidable.decide _) _ _); first | refine AL.br_not (fun _ => ?_) (fun _ => ?_)) | ((with_reducible show AL.BR _ _ _); first | refine AL.BR.byt (by first | assumption | rfl | decide +kernel) ?_ | refine AL.BR.byf (by first | assumption | rfl | decide +kernel) ?_)))
local macro_rules | `(tactic| walk_at "text") => `(tactic| (conv => arg 3; whnf))
local macro_rules | `(tactic| walk_at "env") => `(tactic| (conv => arg 4; simp only [List.map_cons, List.map_nil, AL.entOf, List.cons_append, List.nil_append, List.length_cons, List.length_nil, Nat.reduceAdd, Nat.reduceSub, List.replicate_succ, List.replicate_zero, Nat.zero_add]))
local macro_rules | `(tactic| walk_at "s") => `(tactic| (first | ((with_reducible show AL.EE _ _ _ _ _); walk_at "GEE") | ((with_reducible show AL.ET _ _ _ _ _); walk_at "GET") | ((with_reducible show AL.EW _ _ _ _ _); walk_at "GEW") | ((with_reducible show AL.ETs _ _ _ _ _); walk_at "GETs") | ((with_reducible show AL.EA _ _ _ _ _); walk_at "GEA") | ((with_reducible show AL.EN _ _ _ _ _); walk_at "GEN") | ((with_reducible show AL.RA _ _ _ _ _ _ _); walk_at "GRA") | ((with_reducible show AL.RC _ _ _ _ _ _); walk_at "GRC") | ((with_reducible show AL.EI _ _ _ _ _ _); walk_at "GEI") | ((with_reducible show AL.AG _ _ _ _ _ _); walk_at "GAG") | ((with_reducible show AL.EG _ _ _ _ _ _); walk_at "GEG") | ((with_reducible show AL.EGs _ _ _ _ _ _); walk_at "GEGs") | ((with_reducible show AL.EGv _ _ _ _ _ _ _); walk_at "GEGv") | ((with_reducible show AL.EGsv _ _ _ _ _ _ _); walk_at "GEGsv") | ((with_reducible show AL.ESs _ _ _ _ _); walk_at "GESs") | ((with_reducible show AL.ES _ _ _ _ _); walk_at "GES") | ((with_reducible show AL.BR _ _ _); walk_at "GBR") | ((with_reducible show AL.Bk _ _ _); intro _ _ _ _ _) | ((with_reducible show AL.Turns _ _ _ _ _ _ _ _ _ _ _); unfold AL.Turns) | ((with_reducible show AL.EI _ _ _ (PySem.Expr.Name _ _) _ _); first | (refine AL.ei_list ?_; walk_at "s"; refine AL.lf_iL (by walk_at "fz") ?_) | (refine AL.ei_tup ?_; walk_at "s"; refine ⟨_, rfl, ?_⟩)) | ((with_reducible show AL.EI _ _ _ (PySem.Expr.Call _ _ _ _) _ _); refine AL.ei_list ?_) | ((with_reducible show AL.Ae.nx _ _); refine AL.nx_mk ?_) | ((with_reducible show AL.Ae.rt _ _ _); refine AL.rt_mk ?_) | ((with_reducible show AL.Ae.bk _ _); refine AL.bk_mk ?_) | ((with_reducible show AL.Ae.ct _ _); refine AL.ct_mk ?_) | ((with_reducible show AL.Ae.rn _ _ _); refine AL.rn_mk ?_) | ((with_reducible show AL.Ret _ (AL.Av.d _) _); refine AL.ret_d ?_) | ((with_reducible show Exists _); walk_at "leaf") | ((with_reducible show _ ∧ _); walk_at "leaf")))
local macro_rules | `(tactic| walk_at "go") => `(tactic| (repeat' (walk_at "s")))
/-! ### is_integer -/
def isInt : PyData → Bool
  | .int _ => true
  | _ => false
abbrev N_is_integer : List Str := ["value"]
theorem sc_is_integer : FnScope N_is_integer ["value"] (defScope s_is_integer) := ⟨rfl, rfl, rfl, by decide +kernel, rfl, by decide +kernel, by decide +kernel⟩
def S_is_integer : Con := fun as r => ∃ d, notD d = true ∧ as = [.d d] ∧ r = .bool (isInt d)
theorem ok_is_integer {P : Program} {w : World} {K : PySem.W.Frag} {mg : Str → Option Value} {base : Heap} {f : Addr} {fd : FuncData} (FD : FnP K "is_integer" s_is_integer f fd) (b_isinstance : mg "isinstance" = none) (b_int : mg "int" = none) (b_bool : mg "bool" = none) : FnOk P w K mg base CX0 1 f fd ["value"] (spR K 1 S_is_integer) := by
  refine fn_ok FD sc_is_integer rfl ?_
  intro X e1 e2 e3 e4 e5 hp F C as r hS hl hW
  subst e1 e2 e3 e4 e5
  obtain ⟨d, nd, rfl, rfl⟩ := hS
  have n0 : Nm X 0 "value" := F.nm (by decide +kernel)
  have z_isinstance : Bn X "isinstance" := F.bn (by decide +kernel) b_isinstance
  have z_int : Bn X "int" := F.bn (by decide +kernel) b_int
  have z_bool : Bn X "bool" := F.bn (by decide +kernel) b_bool
  walk_at "text"
  walk_at "env"
  cases d <;> (walk_at "go")
  all_goals first | rfl | (cases nd; done) | skip
local macro_rules | `(tactic| walk_at "con") => `(tactic| ((with_reducible show S_is_integer _ _); unfold S_is_integer; exact ⟨_, by walk_at "nd", rfl, rfl⟩))
/-! ### in_range -/
def inRg : PyData → Int → Int → Bool
  | .int i, lo, hi => decide (lo ≤ i) && decide (i ≤ hi)
  | _, _, _ => false
abbrev N_in_range : List Str := ["value", "least", "most"]
theorem sc_in_range : FnScope N_in_range ["value", "least", "most"] (defScope s_in_range) := ⟨rfl, rfl, rfl, by decide +kernel, rfl, by decide +kernel, by decide +kernel⟩
def S_in_range : Con := fun as r => ∃ d lo hi, notD d = true ∧ as = [.d d, .d (.int lo), .d (.int hi)] ∧ r = .bool (inRg d lo hi)
theorem ok_in_range {P : Program} {w : World} {K : PySem.W.Frag} {mg : Str → Option Value} {base : Heap} {f : Addr} {fd : FuncData} (FD : FnP K "in_range" s_in_range f fd) (c_is_integer : Callable P w K mg base "is_integer" 1 (spR K 1 S_is_integer)) : FnOk P w K mg base CX0 2 f fd ["value", "least", "most"] (spR K 3 S_in_range) := by
  refine fn_ok FD sc_in_range rfl ?_
  intro X e1 e2 e3 e4 e5 hp F C as r hS hl hW
  subst e1 e2 e3 e4 e5
  obtain ⟨d, lo, hi, nd, rfl, rfl⟩ := hS
  have n0 : Nm X 0 "value" := F.nm (by decide +kernel)
  have n1 : Nm X 1 "least" := F.nm (by decide +kernel)
  have n2 : Nm X 2 "most" := F.nm (by decide +kernel)
  have g_is_integer : Gn X "is_integer" := F.gn (by decide +kernel)
  have d_is_integer : Cal X "is_integer" 1 (spR X.K 1 S_is_integer) := c_is_integer.mono (by decide)
  walk_at "text"
  walk_at "env"
  cases d <;> (walk_at "go")
  all_goals first | rfl | (simp [inRg]; omega) | (cases nd; done) | (simp_all [inRg])
local macro_rules | `(tactic| walk_at "con") => `(tactic| ((with_reducible show S_in_range _ _); unfold S_in_range; exact ⟨_, _, _, by walk_at "nd", rfl, rfl⟩))
/-! ### gcd -/
abbrev N_gcd : List Str := ["one", "other"]
theorem sc_gcd : FnScope N_gcd ["one", "other"] (defScope s_gcd) := ⟨rfl, rfl, rfl, by decide +kernel, rfl, by decide +kernel, by decide +kernel⟩
def S_gcd : Con := fun as r => ∃ a b : Int, as = [.d (.int a), .d (.int b)] ∧ r = .int (Int.gcd a b)
theorem ok_gcd {P : Program} {w : World} {K : PySem.W.Frag} {mg : Str → Option Value} {base : Heap} {f : Addr} {fd : FuncData} (FD : FnP K "gcd" s_gcd f fd) (b_abs : mg "abs" = none) : FnOk P w K mg base CX0 1 f fd ["one", "other"] (spR K 2 S_gcd) := by
  refine fn_ok FD sc_gcd rfl ?_
  intro X e1 e2 e3 e4 e5 hp F C as r hS hl hW
  subst e1 e2 e3 e4 e5
  obtain ⟨a, b, rfl, rfl⟩ := hS
  have n0 : Nm X 0 "one" := F.nm (by decide +kernel)
  have l0 : Lc X 0 "one" := F.lc (by decide +kernel)
  have n1 : Nm X 1 "other" := F.nm (by decide +kernel)
  have l1 : Lc X 1 "other" := F.lc (by decide +kernel)
  have z_abs : Bn X "abs" := F.bn (by decide +kernel) b_abs
  walk_at "text"
  walk_at "env"
  walk_at "go"
  refine AL.es_while hp (fun m g => ∃ x y : Nat, g = [.im (.int x), .im (.int y)] ∧ x.gcd y = a.gcd b ∧ m = y) ⟨_, a.natAbs, b.natAbs, by rw [AL.abs_if, AL.abs_if], rfl, rfl⟩ ?_
  rintro m g ⟨x, y, rfl, e, rfl⟩
  walk_at "go"
  · have hm : m = 0 := by omega
    subst hm
    rw [Nat.gcd_zero_right] at e
    rw [e]
  · refine ⟨x % m, Nat.mod_lt _ (by omega), m, x % m, by rw [Int.natCast_emod], ?_, rfl⟩
    rw [Nat.gcd_comm, ← Nat.gcd_rec, Nat.gcd_comm]; exact e
local macro_rules | `(tactic| walk_at "con") => `(tactic| ((with_reducible show S_gcd _ _); unfold S_gcd; exact ⟨_, _, rfl, rfl⟩))
/-! ### is_fraction -/
abbrev N_is_fraction : List Str := ["value"]
theorem sc_is_fraction : FnScope N_is_fraction ["value"] (defScope s_is_fraction) := ⟨rfl, rfl, rfl, by decide +kernel, rfl, by decide +kernel, by decide +kernel⟩
def S_is_fraction : Con := fun as r => ∃ q : Rat, as = [.d (fr q)] ∧ r = .bool true
theorem ok_is_fraction {P : Program} {w : World} {K : PySem.W.Frag} {mg : Str → Option Value} {base : Heap} {f : Addr} {fd : FuncData} (FD : FnP K "is_fraction" s_is_fraction f fd) (c_is_integer : Callable P w K mg base "is_integer" 1 (spR K 1 S_is_integer)) (c_gcd : Callable P w K mg base "gcd" 1 (spR K 2 S_gcd)) (b_isinstance : mg "isinstance" = none) (b_tuple : mg "tuple" = none) (b_len : mg "len" = none) : FnOk P w K mg base CX0 2 f fd ["value"] (spR K 1 S_is_fraction) := by
  refine fn_ok FD sc_is_fraction rfl ?_
  intro X e1 e2 e3 e4 e5 hp F C as r hS hl hW
  subst e1 e2 e3 e4 e5
  obtain ⟨q, rfl, rfl⟩ := hS
  have hd := den_pos q
  have hg : ((Int.gcd q.num q.den : Nat) : Int) = 1 := by have := q.reduced; show ((Nat.gcd q.num.natAbs q.den : Nat) : Int) = 1; rw [this]; rfl
  have n0 : Nm X 0 "value" := F.nm (by decide +kernel)
  have g_is_integer : Gn X "is_integer" := F.gn (by decide +kernel)
  have d_is_integer : Cal X "is_integer" 1 (spR X.K 1 S_is_integer) := c_is_integer.mono (by decide)
  have g_gcd : Gn X "gcd" := F.gn (by decide +kernel)
  have d_gcd : Cal X "gcd" 1 (spR X.K 2 S_gcd) := c_gcd.mono (by decide)
  have z_isinstance : Bn X "isinstance" := F.bn (by decide +kernel) b_isinstance
  have z_tuple : Bn X "tuple" := F.bn (by decide +kernel) b_tuple
  have z_len : Bn X "len" := F.bn (by decide +kernel) b_len
  walk_at "text"
  walk_at "env"
  walk_at "go"
  · rw [decide_eq_true hg]
  · exact absurd hd (by assumption)
  · exact absurd (show (([PyData.none, PyData.none] : List PyData).length : Int) = 2 from rfl) (by assumption)
local macro_rules | `(tactic| walk_at "con") => `(tactic| ((with_reducible show S_is_fraction _ _); unfold S_is_fraction; exact ⟨_, rfl, rfl⟩))
/-! ### reduced -/
abbrev N_reduced : List Str := ["top", "bottom", "both"]
theorem sc_reduced : FnScope N_reduced ["top", "bottom"] (defScope s_reduced) := ⟨rfl, rfl, rfl, by decide +kernel, rfl, by decide +kernel, by decide +kernel⟩
def S_reduced : Con := fun as r => ∃ a b : Int, as = [.d (.int a), .d (.int b)] ∧ 0 < b ∧ Bt 8999 b ∧ r = fr (Rat.divInt a b)
theorem ok_reduced {P : Program} {w : World} {K : PySem.W.Frag} {mg : Str → Option Value} {base : Heap} {f : Addr} {fd : FuncData} (FD : FnP K "reduced" s_reduced f fd) (c_gcd : Callable P w K mg base "gcd" 1 (spR K 2 S_gcd)) : FnOk P w K mg base CX0 2 f fd ["top", "bottom"] (spR K 2 S_reduced) := by
  refine fn_ok FD sc_reduced rfl ?_
  intro X e1 e2 e3 e4 e5 hp F C as r hS hl hW
  subst e1 e2 e3 e4 e5
  obtain ⟨a, b, rfl, hb, hz, rfl⟩ := hS
  have h1 := gcd_pos (a := a) hb
  have h2 := Bt.gcd (a := a) hz hb
  have n0 : Nm X 0 "top" := F.nm (by decide +kernel)
  have n1 : Nm X 1 "bottom" := F.nm (by decide +kernel)
  have n2 : Nm X 2 "both" := F.nm (by decide +kernel)
  have l2 : Lc X 2 "both" := F.lc (by decide +kernel)
  have g_gcd : Gn X "gcd" := F.gn (by decide +kernel)
  have d_gcd : Cal X "gcd" 1 (spR X.K 2 S_gcd) := c_gcd.mono (by decide)
  walk_at "text"
  walk_at "env"
  walk_at "go"
  exact fr_mk a b hb
local macro_rules | `(tactic| walk_at "con") => `(tactic| ((with_reducible show S_reduced _ _); unfold S_reduced; exact ⟨_, _, rfl, by walk_at "pf", by walk_at "pf", rfl⟩))
/-! ### fraction_sum -/
abbrev N_fraction_sum : List Str := ["one", "other"]
theorem sc_fraction_sum : FnScope N_fraction_sum ["one", "other"] (defScope s_fraction_sum) := ⟨rfl, rfl, rfl, by decide +kernel, rfl, by decide +kernel, by decide +kernel⟩
def S_fraction_sum : Con := fun as r => ∃ a b c d : Int, as = [.d (.tuple [.int a, .int b]), .d (.tuple [.int c, .int d])] ∧ (0 < b ∧ 0 < d) ∧ (Bt 4000 a ∧ Bt 4000 b) ∧ (Bt 4000 c ∧ Bt 4000 d) ∧ r = fr (Rat.divInt (a * d + c * b) (b * d))
theorem ok_fraction_sum {P : Program} {w : World} {K : PySem.W.Frag} {mg : Str → Option Value} {base : Heap} {f : Addr} {fd : FuncData} (FD : FnP K "fraction_sum" s_fraction_sum f fd) (c_reduced : Callable P w K mg base "reduced" 2 (spR K 2 S_reduced)) : FnOk P w K mg base CX0 3 f fd ["one", "other"] (spR K 2 S_fraction_sum) := by
  refine fn_ok FD sc_fraction_sum rfl ?_
  intro X e1 e2 e3 e4 e5 hp F C as r hS hl hW
  subst e1 e2 e3 e4 e5
  obtain ⟨a, b, c, d, rfl, ⟨hb, hd⟩, ⟨z1, z2⟩, ⟨z3, z4⟩, rfl⟩ := hS
  have h1 : 0 < b * d := Int.mul_pos hb hd
  have h2 : Bt 8999 (b * d) := (z2.mul z4).mono (by decide)
  have n0 : Nm X 0 "one" := F.nm (by decide +kernel)
  have n1 : Nm X 1 "other" := F.nm (by decide +kernel)
  have g_reduced : Gn X "reduced" := F.gn (by decide +kernel)
  have d_reduced : Cal X "reduced" 2 (spR X.K 2 S_reduced) := c_reduced.mono (by decide)
  walk_at "text"
  walk_at "env"
  walk_at "go"
  rfl
local macro_rules | `(tactic| walk_at "con") => `(tactic| ((with_reducible show S_fraction_sum _ _); unfold S_fraction_sum; exact ⟨_, _, _, _, rfl, ⟨by walk_at "pf", by walk_at "pf"⟩, ⟨by walk_at "pf", by walk_at "pf"⟩, ⟨by walk_at "pf", by walk_at "pf"⟩, rfl⟩))
/-! ### fraction_product -/
abbrev N_fraction_product : List Str := ["one", "other"]
theorem sc_fraction_product : FnScope N_fraction_product ["one", "other"] (defScope s_fraction_product) := ⟨rfl, rfl, rfl, by decide +kernel, rfl, by decide +kernel, by decide +kernel⟩
def S_fraction_product : Con := fun as r => ∃ a b c d : Int, as = [.d (.tuple [.int a, .int b]), .d (.tuple [.int c, .int d])] ∧ (0 < b ∧ 0 < d) ∧ (Bt 4000 a ∧ Bt 4000 b) ∧ (Bt 4000 c ∧ Bt 4000 d) ∧ r = fr (Rat.divInt (a * c) (b * d))
theorem ok_fraction_product {P : Program} {w : World} {K : PySem.W.Frag} {mg : Str → Option Value} {base : Heap} {f : Addr} {fd : FuncData} (FD : FnP K "fraction_product" s_fraction_product f fd) (c_reduced : Callable P w K mg base "reduced" 2 (spR K 2 S_reduced)) : FnOk P w K mg base CX0 3 f fd ["one", "other"] (spR K 2 S_fraction_product) := by
  refine fn_ok FD sc_fraction_product rfl ?_
  intro X e1 e2 e3 e4 e5 hp F C as r hS hl hW
  subst e1 e2 e3 e4 e5
  obtain ⟨a, b, c, d, rfl, ⟨hb, hd⟩, ⟨z1, z2⟩, ⟨z3, z4⟩, rfl⟩ := hS
  have h1 : 0 < b * d := Int.mul_pos hb hd
  have h2 : Bt 8999 (b * d) := (z2.mul z4).mono (by decide)
  have n0 : Nm X 0 "one" := F.nm (by decide +kernel)
  have n1 : Nm X 1 "other" := F.nm (by decide +kernel)
  have g_reduced : Gn X "reduced" := F.gn (by decide +kernel)
  have d_reduced : Cal X "reduced" 2 (spR X.K 2 S_reduced) := c_reduced.mono (by decide)
  walk_at "text"
  walk_at "env"
  walk_at "go"
  rfl
local macro_rules | `(tactic| walk_at "con") => `(tactic| ((with_reducible show S_fraction_product _ _); unfold S_fraction_product; exact ⟨_, _, _, _, rfl, ⟨by walk_at "pf", by walk_at "pf"⟩, ⟨by walk_at "pf", by walk_at "pf"⟩, ⟨by walk_at "pf", by walk_at "pf"⟩, rfl⟩))
/-! ### is_lower -/
abbrev N_is_lower : List Str := ["one", "other"]
theorem sc_is_lower : FnScope N_is_lower ["one", "other"] (defScope s_is_lower) := ⟨rfl, rfl, rfl, by decide +kernel, rfl, by decide +kernel, by decide +kernel⟩
def S_is_lower : Con := fun as r => ∃ a b c d : Int, as = [.d (.tuple [.int a, .int b]), .d (.tuple [.int c, .int d])] ∧ (Bt 4000 a ∧ Bt 4000 b) ∧ (Bt 4000 c ∧ Bt 4000 d) ∧ r = .bool (decide (a * d < c * b))
theorem ok_is_lower {P : Program} {w : World} {K : PySem.W.Frag} {mg : Str → Option Value} {base : Heap} {f : Addr} {fd : FuncData} (FD : FnP K "is_lower" s_is_lower f fd) : FnOk P w K mg base CX0 1 f fd ["one", "other"] (spR K 2 S_is_lower) := by
  refine fn_ok FD sc_is_lower rfl ?_
  intro X e1 e2 e3 e4 e5 hp F C as r hS hl hW
  subst e1 e2 e3 e4 e5
  obtain ⟨a, b, c, d, rfl, ⟨z1, z2⟩, ⟨z3, z4⟩, rfl⟩ := hS
  have n0 : Nm X 0 "one" := F.nm (by decide +kernel)
  have n1 : Nm X 1 "other" := F.nm (by decide +kernel)
  walk_at "text"
  walk_at "env"
  walk_at "go"
  rfl
local macro_rules | `(tactic| walk_at "con") => `(tactic| ((with_reducible show S_is_lower _ _); unfold S_is_lower; exact ⟨_, _, _, _, rfl, ⟨by walk_at "pf", by walk_at "pf"⟩, ⟨by walk_at "pf", by walk_at "pf"⟩, rfl⟩))
/-! ### is_higher -/
abbrev N_is_higher : List Str := ["one", "other"]
theorem sc_is_higher : FnScope N_is_higher ["one", "other"] (defScope s_is_higher) := ⟨rfl, rfl, rfl, by decide +kernel, rfl, by decide +kernel, by decide +kernel⟩
def S_is_higher : Con := fun as r => ∃ a b c d : Int, as = [.d (.tuple [.int a, .int b]), .d (.tuple [.int c, .int d])] ∧ (Bt 4000 a ∧ Bt 4000 b) ∧ (Bt 4000 c ∧ Bt 4000 d) ∧ r = .bool (decide (c * b < a * d))
theorem ok_is_higher {P : Program} {w : World} {K : PySem.W.Frag} {mg : Str → Option Value} {base : Heap} {f : Addr} {fd : FuncData} (FD : FnP K "is_higher" s_is_higher f fd) (c_is_lower : Callable P w K mg base "is_lower" 1 (spR K 2 S_is_lower)) : FnOk P w K mg base CX0 2 f fd ["one", "other"] (spR K 2 S_is_higher) := by
  refine fn_ok FD sc_is_higher rfl ?_
  intro X e1 e2 e3 e4 e5 hp F C as r hS hl hW
  subst e1 e2 e3 e4 e5
  obtain ⟨a, b, c, d, rfl, ⟨z1, z2⟩, ⟨z3, z4⟩, rfl⟩ := hS
  have n0 : Nm X 0 "one" := F.nm (by decide +kernel)
  have n1 : Nm X 1 "other" := F.nm (by decide +kernel)
  have g_is_lower : Gn X "is_lower" := F.gn (by decide +kernel)
  have d_is_lower : Cal X "is_lower" 1 (spR X.K 2 S_is_lower) := c_is_lower.mono (by decide)
  walk_at "text"
  walk_at "env"
  walk_at "go"
  rfl
local macro_rules | `(tactic| walk_at "con") => `(tactic| ((with_reducible show S_is_higher _ _); unfold S_is_higher; exact ⟨_, _, _, _, rfl, ⟨by walk_at "pf", by walk_at "pf"⟩, ⟨by walk_at "pf", by walk_at "pf"⟩, rfl⟩))
/-! ### is_valid_size -/
abbrev N_is_valid_size : List Str := ["value"]
theorem sc_is_valid_size : FnScope N_is_valid_size ["value"] (defScope s_is_valid_size) := ⟨rfl, rfl, rfl, by decide +kernel, rfl, by decide +kernel, by decide +kernel⟩
def S_is_valid_size : Con := fun as r => ∃ d, notD d = true ∧ as = [.d d] ∧ r = .bool (inRg d 1 99)
theorem ok_is_valid_size {P : Program} {w : World} {K : PySem.W.Frag} {mg : Str → Option Value} {base : Heap} {f : Addr} {fd : FuncData} (FD : FnP K "is_valid_size" s_is_valid_size f fd) (c_in_range : Callable P w K mg base "in_range" 2 (spR K 3 S_in_range)) (i_MAX_SIZE : ∃ t, mg "MAX_SIZE" = some (.int 99 t)) : FnOk P w K mg base CX0 3 f fd ["value"] (spR K 1 S_is_valid_size) := by
  refine fn_ok FD sc_is_valid_size rfl ?_
  intro X e1 e2 e3 e4 e5 hp F C as r hS hl hW
  subst e1 e2 e3 e4 e5
  obtain ⟨d, nd, rfl, rfl⟩ := hS
  have n0 : Nm X 0 "value" := F.nm (by decide +kernel)
  have g_in_range : Gn X "in_range" := F.gn (by decide +kernel)
  have d_in_range : Cal X "in_range" 2 (spR X.K 3 S_in_range) := c_in_range.mono (by decide)
  have g_MAX_SIZE : Gn X "MAX_SIZE" := F.gn (by decide +kernel)
  obtain ⟨t_MAX_SIZE, j_MAX_SIZE⟩ := i_MAX_SIZE
  walk_at "text"
  walk_at "env"
  walk_at "go"
  rfl
local macro_rules | `(tactic| walk_at "con") => `(tactic| ((with_reducible show S_is_valid_size _ _); unfold S_is_valid_size; exact ⟨_, by walk_at "nd", rfl, rfl⟩))
/-! ### is_valid_block -/
abbrev N_is_valid_block : List Str := ["value"]
theorem sc_is_valid_block : FnScope N_is_valid_block ["value"] (defScope s_is_valid_block) := ⟨rfl, rfl, rfl, by decide +kernel, rfl, by decide +kernel, by decide +kernel⟩
def S_is_valid_block : Con := fun as r => ∃ b : Bl, Sz b.1 ∧ as = [.d (blk b)] ∧ r = .bool true
theorem ok_is_valid_block {P : Program} {w : World} {K : PySem.W.Frag} {mg : Str → Option Value} {base : Heap} {f : Addr} {fd : FuncData} (FD : FnP K "is_valid_block" s_is_valid_block f fd) (c_is_valid_size : Callable P w K mg base "is_valid_size" 3 (spR K 1 S_is_valid_size)) (c_is_fraction : Callable P w K mg base "is_fraction" 2 (spR K 1 S_is_fraction)) (b_isinstance : mg "isinstance" = none) (b_tuple : mg "tuple" = none) (b_len : mg "len" = none) : FnOk P w K mg base CX0 4 f fd ["value"] (spR K 1 S_is_valid_block) := by
  refine fn_ok FD sc_is_valid_block rfl ?_
  intro X e1 e2 e3 e4 e5 hp F C as r hS hl hW
  subst e1 e2 e3 e4 e5
  obtain ⟨b, hb, rfl, rfl⟩ := hS
  have hs : inRg (.int b.1) 1 99 = true := by unfold Sz at hb; simp [inRg]; omega
  have n0 : Nm X 0 "value" := F.nm (by decide +kernel)
  have g_is_valid_size : Gn X "is_valid_size" := F.gn (by decide +kernel)
  have d_is_valid_size : Cal X "is_valid_size" 3 (spR X.K 1 S_is_valid_size) := c_is_valid_size.mono (by decide)
  have g_is_fraction : Gn X "is_fraction" := F.gn (by decide +kernel)
  have d_is_fraction : Cal X "is_fraction" 3 (spR X.K 1 S_is_fraction) := c_is_fraction.mono (by decide)
  have z_isinstance : Bn X "isinstance" := F.bn (by decide +kernel) b_isinstance
  have z_tuple : Bn X "tuple" := F.bn (by decide +kernel) b_tuple
  have z_len : Bn X "len" := F.bn (by decide +kernel) b_len
  walk_at "text"
  walk_at "env"
  walk_at "go"
  · rfl
  · exact absurd (show (([PyData.none, PyData.none] : List PyData).length : Int) = 2 from rfl) (by assumption)
local macro_rules | `(tactic| walk_at "con") => `(tactic| ((with_reducible show S_is_valid_block _ _); unfold S_is_valid_block; exact ⟨_, by walk_at "pf", rfl, rfl⟩))
/-! ### check_each -/
abbrev N_check_each : List Str := ["value", "is_one", "number", "one"]
theorem sc_check_each : FnScope N_check_each ["value", "is_one"] (defScope s_check_each) := ⟨rfl, rfl, rfl, by decide +kernel, rfl, by decide +kernel, by decide +kernel⟩
def S_check_each (P : Program) (w : World) (K : PySem.W.Frag) (mg : Str → Option Value) (base : Heap) : Con := fun as r => ∃ ds v S, as = [.d (.tuple ds), .v v] ∧ HeldF P w K mg base 4 v (spR K 1 S) ∧ (∀ d ∈ ds, S [.d d] (.bool true)) ∧ 1 ≤ ds.length ∧ ds.length ≤ 12 ∧ r = .none
theorem ok_check_each {P : Program} {w : World} {K : PySem.W.Frag} {mg : Str → Option Value} {base : Heap} {f : Addr} {fd : FuncData} (FD : FnP K "check_each" s_check_each f fd) (i_MAX_BLOCKS : ∃ t, mg "MAX_BLOCKS" = some (.int 12 t)) (b_isinstance : mg "isinstance" = none) (b_tuple : mg "tuple" = none) (b_len : mg "len" = none) (b_enumerate : mg "enumerate" = none) : FnOk P w K mg base CX0 5 f fd ["value", "is_one"] (spR K 2 (S_check_each P w K mg base)) := by
  refine fn_ok FD sc_check_each rfl ?_
  intro X e1 e2 e3 e4 e5 hp F C as r hS hl hW
  subst e1 e2 e3 e4 e5
  obtain ⟨ds, v, S, rfl, hv, hall, h1, h2, rfl⟩ := hS
  have n0 : Nm X 0 "value" := F.nm (by decide +kernel)
  have n1 : Nm X 1 "is_one" := F.nm (by decide +kernel)
  have n2 : Nm X 2 "number" := F.nm (by decide +kernel)
  have l2 : Lc X 2 "number" := F.lc (by decide +kernel)
  have n3 : Nm X 3 "one" := F.nm (by decide +kernel)
  have l3 : Lc X 3 "one" := F.lc (by decide +kernel)
  have g_MAX_BLOCKS : Gn X "MAX_BLOCKS" := F.gn (by decide +kernel)
  obtain ⟨t_MAX_BLOCKS, j_MAX_BLOCKS⟩ := i_MAX_BLOCKS
  have z_isinstance : Bn X "isinstance" := F.bn (by decide +kernel) b_isinstance
  have z_tuple : Bn X "tuple" := F.bn (by decide +kernel) b_tuple
  have z_len : Bn X "len" := F.bn (by decide +kernel) b_len
  have z_enumerate : Bn X "enumerate" := F.bn (by decide +kernel) b_enumerate
  walk_at "text"
  walk_at "env"
  walk_at "go"
  all_goals try (exfalso; omega)
  refine AL.es_for hp (by walk_at "calm") ?_
  walk_at "go"
  refine ⟨fun i g => ∃ e2 e3, g = [.im (.tuple ds), .vl v, e2, e3], ⟨_, _, rfl⟩, ?_, ?_⟩
  · rintro i d g' e ⟨e2, e3, rfl⟩
    obtain ⟨d, e1, rfl⟩ := enumD_get e
    have hd : S [.d d] (.bool true) := hall d (List.mem_of_getElem? e1)
    walk_at "go"
    exact ⟨_, _, rfl⟩
  · rintro g' ⟨e2, e3, rfl⟩
    walk_at "go"
    rfl
local macro_rules | `(tactic| walk_at "con") => `(tactic| ((with_reducible show S_check_each _ _ _ _ _ _ _); unfold S_check_each; exact ⟨_, _, _, rfl, by walk_at "held", by walk_at "pf", by walk_at "pf", by walk_at "pf", rfl⟩))
/-! ### check_state -/
abbrev N_check_state : List Str := ["value"]
theorem sc_check_state : FnScope N_check_state ["value"] (defScope s_check_state) := ⟨rfl, rfl, rfl, by decide +kernel, rfl, by decide +kernel, by decide +kernel⟩
def S_check_state : Con := fun as r => ∃ L n, as = [.d (stD L)] ∧ OkSt n L ∧ r = .none
theorem ok_check_state {P : Program} {w : World} {K : PySem.W.Frag} {mg : Str → Option Value} {base : Heap} {f : Addr} {fd : FuncData} (FD : FnP K "check_state" s_check_state f fd) (c_check_each : Callable P w K mg base "check_each" 5 (spR K 2 (S_check_each P w K mg base))) (c_is_valid_block : Callable P w K mg base "is_valid_block" 4 (spR K 1 S_is_valid_block)) : FnOk P w K mg base CX0 6 f fd ["value"] (spR K 1 S_check_state) := by
  refine fn_ok FD sc_check_state rfl ?_
  intro X e1 e2 e3 e4 e5 hp F C as r hS hl hW
  subst e1 e2 e3 e4 e5
  obtain ⟨L, n, rfl, O, rfl⟩ := hS
  have h1 : 1 ≤ (L.map blk).length := by rw [List.length_map]; exact O.one
  have h2 : (L.map blk).length ≤ 12 := by rw [List.length_map]; exact O.most
  have hall : ∀ d ∈ L.map blk, S_is_valid_block [.d d] (.bool true) := fun d hd => by
    obtain ⟨b, hb, rfl⟩ := List.mem_map.mp hd
    exact ⟨b, (O.each b hb).1, rfl, rfl⟩
  have n0 : Nm X 0 "value" := F.nm (by decide +kernel)
  have g_check_each : Gn X "check_each" := F.gn (by decide +kernel)
  have d_check_each : Cal X "check_each" 5 (spR X.K 2 (S_check_each X.prog X.w X.K X.mg X.base)) := c_check_each.mono (by decide)
  have g_is_valid_block : Gn X "is_valid_block" := F.gn (by decide +kernel)
  have d_is_valid_block : Cal X "is_valid_block" 5 (spR X.K 1 S_is_valid_block) := c_is_valid_block.mono (by decide)
  obtain ⟨a_is_valid_block, m_is_valid_block, h_is_valid_block⟩ := c_is_valid_block.held
  walk_at "text"
  walk_at "env"
  walk_at "go"
  rfl
local macro_rules | `(tactic| walk_at "con") => `(tactic| ((with_reducible show S_check_state _ _); unfold S_check_state; exact ⟨_, _, rfl, by walk_at "pf", rfl⟩))
/-! ### check_block -/
abbrev N_check_block : List Str := ["many", "value"]
theorem sc_check_block : FnScope N_check_block ["many", "value"] (defScope s_check_block) := ⟨rfl, rfl, rfl, by decide +kernel, rfl, by decide +kernel, by decide +kernel⟩
def S_check_block : Con := fun as r => ∃ m i : Int, as = [.d (.int m), .d (.int i)] ∧ 0 ≤ i ∧ i < m ∧ r = .none
theorem ok_check_block {P : Program} {w : World} {K : PySem.W.Frag} {mg : Str → Option Value} {base : Heap} {f : Addr} {fd : FuncData} (FD : FnP K "check_block" s_check_block f fd) (c_in_range : Callable P w K mg base "in_range" 2 (spR K 3 S_in_range)) : FnOk P w K mg base CX0 3 f fd ["many", "value"] (spR K 2 S_check_block) := by
  refine fn_ok FD sc_check_block rfl ?_
  intro X e1 e2 e3 e4 e5 hp F C as r hS hl hW
  subst e1 e2 e3 e4 e5
  obtain ⟨m, i, rfl, h1, h2, rfl⟩ := hS
  have hr : (!inRg (.int i) 0 (m - 1)) = false := by simp [inRg]; omega
  have n0 : Nm X 0 "many" := F.nm (by decide +kernel)
  have n1 : Nm X 1 "value" := F.nm (by decide +kernel)
  have g_in_range : Gn X "in_range" := F.gn (by decide +kernel)
  have d_in_range : Cal X "in_range" 2 (spR X.K 3 S_in_range) := c_in_range.mono (by decide)
  walk_at "text"
  walk_at "env"
  walk_at "go"
  rfl
local macro_rules | `(tactic| walk_at "con") => `(tactic| ((with_reducible show S_check_block _ _); unfold S_check_block; exact ⟨_, _, rfl, by walk_at "pf", by walk_at "pf", rfl⟩))
/-! ### mixed_temperature -/
abbrev N_mixed_temperature : List Str := ["one", "other", "both"]
theorem sc_mixed_temperature : FnScope N_mixed_temperature ["one", "other"] (defScope s_mixed_temperature) := ⟨rfl, rfl, rfl, by decide +kernel, rfl, by decide +kernel, by decide +kernel⟩
def S_mixed_temperature : Con := fun as r => ∃ (s p : Int) (t u : Rat), as = [.d (.tuple [.int s, fr t]), .d (.tuple [.int p, fr u])] ∧ Sz s ∧ Sz p ∧ Rb 1900 t ∧ Rb 1900 u ∧ r = fr (mix s t p u)
theorem ok_mixed_temperature {P : Program} {w : World} {K : PySem.W.Frag} {mg : Str → Option Value} {base : Heap} {f : Addr} {fd : FuncData} (FD : FnP K "mixed_temperature" s_mixed_temperature f fd) (c_fraction_sum : Callable P w K mg base "fraction_sum" 3 (spR K 2 S_fraction_sum)) (c_fraction_product : Callable P w K mg base "fraction_product" 3 (spR K 2 S_fraction_product)) (c_reduced : Callable P w K mg base "reduced" 2 (spR K 2 S_reduced)) : FnOk P w K mg base CX0 4 f fd ["one", "other"] (spR K 2 S_mixed_temperature) := by
  refine fn_ok FD sc_mixed_temperature rfl ?_
  intro X e1 e2 e3 e4 e5 hp F C as r hS hl hW
  subst e1 e2 e3 e4 e5
  obtain ⟨s, p, t, u, rfl, hs, hp', ht, hu, rfl⟩ := hS
  have bs : Bt 4000 s := (show Bt 7 s by unfold Sz at hs; unfold Bt; omega).mono (by decide)
  have bp : Bt 4000 p := (show Bt 7 p by unfold Sz at hp'; unfold Bt; omega).mono (by decide)
  have b1 : Bt 4000 1 := by unfold Bt; exact Nat.one_lt_two_pow (by decide)
  have bsp : Bt 8 (s + p) := by unfold Sz at hs hp'; unfold Bt; omega
  have t1 := ht.1.mono (m := 4000) (by decide)
  have t2 := ht.2.mono (m := 4000) (by decide)
  have u1 := hu.1.mono (m := 4000) (by decide)
  have u2 := hu.2.mono (m := 4000) (by decide)
  have td := den_pos t
  have ud := den_pos u
  have o1 : (0 : Int) < 1 := by decide
  have A : Rb 1907 (Rat.divInt (s * t.num) (1 * (t.den : Int))) := by
    rw [di_cmul]; exact (Rb.cmul (n := 7) (by unfold Sz at hs; unfold Bt; omega) ht).mono (by decide)
  have B : Rb 1907 (Rat.divInt (p * u.num) (1 * (u.den : Int))) := by
    rw [di_cmul]; exact (Rb.cmul (n := 7) (by unfold Sz at hp'; unfold Bt; omega) hu).mono (by decide)
  have a1 := A.1.mono (m := 4000) (by decide)
  have a2 := A.2.mono (m := 4000) (by decide)
  have a3 := den_pos (Rat.divInt (s * t.num) (1 * (t.den : Int)))
  have c1 := B.1.mono (m := 4000) (by decide)
  have c2 := B.2.mono (m := 4000) (by decide)
  have c3 := den_pos (Rat.divInt (p * u.num) (1 * (u.den : Int)))
  have E : Rat.divInt ((Rat.divInt (s * t.num) (1 * (t.den : Int))).num * ((Rat.divInt (p * u.num) (1 * (u.den : Int))).den : Int) + (Rat.divInt (p * u.num) (1 * (u.den : Int))).num * ((Rat.divInt (s * t.num) (1 * (t.den : Int))).den : Int)) (((Rat.divInt (s * t.num) (1 * (t.den : Int))).den : Int) * ((Rat.divInt (p * u.num) (1 * (u.den : Int))).den : Int)) = (s : Rat) * t + (p : Rat) * u := by
    rw [di_add, di_cmul, di_cmul]
  have G : Rb 4000 ((s : Rat) * t + (p : Rat) * u) := by
    rw [← di_cmul, ← di_cmul]; exact (Rb.add A B).mono (by decide)
  rw [← E] at G
  have g1 := G.1
  have g2 := G.2
  have g3 := den_pos (Rat.divInt ((Rat.divInt (s * t.num) (1 * (t.den : Int))).num * ((Rat.divInt (p * u.num) (1 * (u.den : Int))).den : Int) + (Rat.divInt (p * u.num) (1 * (u.den : Int))).num * ((Rat.divInt (s * t.num) (1 * (t.den : Int))).den : Int)) (((Rat.divInt (s * t.num) (1 * (t.den : Int))).den : Int) * ((Rat.divInt (p * u.num) (1 * (u.den : Int))).den : Int)))
  have g4 := Int.mul_pos g3 (show 0 < s + p by unfold Sz at hs hp'; omega)
  have g5 := (g2.mul bsp).mono (m := 8999) (by decide)
  have n0 : Nm X 0 "one" := F.nm (by decide +kernel)
  have n1 : Nm X 1 "other" := F.nm (by decide +kernel)
  have n2 : Nm X 2 "both" := F.nm (by decide +kernel)
  have l2 : Lc X 2 "both" := F.lc (by decide +kernel)
  have g_fraction_sum : Gn X "fraction_sum" := F.gn (by decide +kernel)
  have d_fraction_sum : Cal X "fraction_sum" 3 (spR X.K 2 S_fraction_sum) := c_fraction_sum.mono (by decide)
  have g_fraction_product : Gn X "fraction_product" := F.gn (by decide +kernel)
  have d_fraction_product : Cal X "fraction_product" 3 (spR X.K 2 S_fraction_product) := c_fraction_product.mono (by decide)
  have g_reduced : Gn X "reduced" := F.gn (by decide +kernel)
  have d_reduced : Cal X "reduced" 3 (spR X.K 2 S_reduced) := c_reduced.mono (by decide)
  walk_at "text"
  walk_at "env"
  walk_at "go"
  rw [E, di_div]
  rfl
local macro_rules | `(tactic| walk_at "con") => `(tactic| ((with_reducible show S_mixed_temperature _ _); unfold S_mixed_temperature; exact ⟨_, _, _, _, rfl, by walk_at "pf", by walk_at "pf", by walk_at "pf", by walk_at "pf", rfl⟩))
/-! ### check_state_and_block -/
abbrev N_check_state_and_block : List Str := ["state", "block"]
theorem sc_check_state_and_block : FnScope N_check_state_and_block ["state", "block"] (defScope s_check_state_and_block) := ⟨rfl, rfl, rfl, by decide +kernel, rfl, by decide +kernel, by decide +kernel⟩
def S_check_state_and_block : Con := fun as r => ∃ L n i, as = [.d (stD L), .d (.int i)] ∧ OkSt n L ∧ 0 ≤ i ∧ i < L.length ∧ r = .none
theorem ok_check_state_and_block {P : Program} {w : World} {K : PySem.W.Frag} {mg : Str → Option Value} {base : Heap} {f : Addr} {fd : FuncData} (FD : FnP K "check_state_and_block" s_check_state_and_block f fd) (c_check_state : Callable P w K mg base "check_state" 6 (spR K 1 S_check_state)) (c_check_block : Callable P w K mg base "check_block" 3 (spR K 2 S_check_block)) (b_len : mg "len" = none) : FnOk P w K mg base CX0 7 f fd ["state", "block"] (spR K 2 S_check_state_and_block) := by
  refine fn_ok FD sc_check_state_and_block rfl ?_
  intro X e1 e2 e3 e4 e5 hp F C as r hS hl hW
  subst e1 e2 e3 e4 e5
  obtain ⟨L, n, i, rfl, O, h1, h2, rfl⟩ := hS
  have n0 : Nm X 0 "state" := F.nm (by decide +kernel)
  have n1 : Nm X 1 "block" := F.nm (by decide +kernel)
  have g_check_state : Gn X "check_state" := F.gn (by decide +kernel)
  have d_check_state : Cal X "check_state" 6 (spR X.K 1 S_check_state) := c_check_state.mono (by decide)
  have g_check_block : Gn X "check_block" := F.gn (by decide +kernel)
  have d_check_block : Cal X "check_block" 6 (spR X.K 2 S_check_block) := c_check_block.mono (by decide)
  have z_len : Bn X "len" := F.bn (by decide +kernel) b_len
  walk_at "text"
  walk_at "env"
  walk_at "go"
  rfl
local macro_rules | `(tactic| walk_at "con") => `(tactic| ((with_reducible show S_check_state_and_block _ _); unfold S_check_state_and_block; exact ⟨_, _, _, rfl, by walk_at "pf", by walk_at "pf", by walk_at "pf", rfl⟩))
/-! ### temperature_after -/
abbrev N_temperature_after : List Str := ["state", "block", "temperature", "other"]
theorem sc_temperature_after : FnScope N_temperature_after ["state", "block", "temperature", "other"] (defScope s_temperature_after) := ⟨rfl, rfl, rfl, by decide +kernel, rfl, by decide +kernel, by decide +kernel⟩
def S_temperature_after : Con := fun as r => ∃ L b o t, as = [.d (stD L), .d (.int (b : Nat)), .d (fr t), .d (.int (o : Nat))] ∧ OkSt 1900 L ∧ b < L.length ∧ o < L.length ∧ Rb 1900 t ∧ r = fr (mix (siz L b) t (siz L o) (tmp L o))
theorem ok_temperature_after {P : Program} {w : World} {K : PySem.W.Frag} {mg : Str → Option Value} {base : Heap} {f : Addr} {fd : FuncData} (FD : FnP K "temperature_after" s_temperature_after f fd) (c_mixed_temperature : Callable P w K mg base "mixed_temperature" 4 (spR K 2 S_mixed_temperature)) : FnOk P w K mg base CX0 5 f fd ["state", "block", "temperature", "other"] (spR K 4 S_temperature_after) := by
  refine fn_ok FD sc_temperature_after rfl ?_
  intro X e1 e2 e3 e4 e5 hp F C as r hS hl hW
  subst e1 e2 e3 e4 e5
  obtain ⟨L, b, o, t, rfl, O, hb, ho, ht, rfl⟩ := hS
  have s1 := O.sz hb
  have s2 := O.sz ho
  have r2 := O.rb ho
  have n0 : Nm X 0 "state" := F.nm (by decide +kernel)
  have n1 : Nm X 1 "block" := F.nm (by decide +kernel)
  have n2 : Nm X 2 "temperature" := F.nm (by decide +kernel)
  have n3 : Nm X 3 "other" := F.nm (by decide +kernel)
  have g_mixed_temperature : Gn X "mixed_temperature" := F.gn (by decide +kernel)
  have d_mixed_temperature : Cal X "mixed_temperature" 4 (spR X.K 2 S_mixed_temperature) := c_mixed_temperature.mono (by decide)
  walk_at "text"
  walk_at "env"
  walk_at "go"
  rfl
local macro_rules | `(tactic| walk_at "con") => `(tactic| ((with_reducible show S_temperature_after _ _); unfold S_temperature_after; exact ⟨_, _, _, _, rfl, by walk_at "pf", by walk_at "pf", by walk_at "pf", by walk_at "pf", rfl⟩))
/-! ### comes_before -/
abbrev N_comes_before : List Str := ["state", "one", "other", "is_ahead"]
theorem sc_comes_before : FnScope N_comes_before ["state", "one", "other", "is_ahead"] (defScope s_comes_before) := ⟨rfl, rfl, rfl, by decide +kernel, rfl, by decide +kernel, by decide +kernel⟩
def S_comes_before (P : Program) (w : World) (K : PySem.W.Frag) (mg : Str → Option Value) (base : Heap) : Con := fun as r => ∃ up v L i j, as = [.d (stD L), .d (.int (i : Nat)), .d (.int (j : Nat)), .v v] ∧ HeldF P w K mg base 2 v (spR K 2 (S_ahead up)) ∧ OkSt 1900 L ∧ i < L.length ∧ j < L.length ∧ r = .bool (bfr up L i j)
theorem ok_comes_before {P : Program} {w : World} {K : PySem.W.Frag} {mg : Str → Option Value} {base : Heap} {f : Addr} {fd : FuncData} (FD : FnP K "comes_before" s_comes_before f fd) : FnOk P w K mg base CX0 3 f fd ["state", "one", "other", "is_ahead"] (spR K 4 (S_comes_before P w K mg base)) := by
  refine fn_ok FD sc_comes_before rfl ?_
  intro X e1 e2 e3 e4 e5 hp F C as r hS hl hW
  subst e1 e2 e3 e4 e5
  obtain ⟨up, v, L, i, j, rfl, hv, O, hi, hj, rfl⟩ := hS
  have r1 := (O.rb hi).mono (m := 4000) (by decide)
  have r2 := (O.rb hj).mono (m := 4000) (by decide)
  have n0 : Nm X 0 "state" := F.nm (by decide +kernel)
  have n1 : Nm X 1 "one" := F.nm (by decide +kernel)
  have n2 : Nm X 2 "other" := F.nm (by decide +kernel)
  have n3 : Nm X 3 "is_ahead" := F.nm (by decide +kernel)
  walk_at "text"
  walk_at "env"
  walk_at "go"
  · rename_i h
    unfold bfr
    rw [if_pos (fr_eq.mp h)]
    simp
  · rename_i h
    unfold bfr
    rw [if_neg (fun z => h (fr_eq.mpr z))]
local macro_rules | `(tactic| walk_at "con") => `(tactic| ((with_reducible show S_comes_before _ _ _ _ _ _ _); unfold S_comes_before; exact ⟨_, _, _, _, _, rfl, by walk_at "held", by walk_at "pf", by walk_at "pf", by walk_at "pf", rfl⟩))
/-! ### ordered_others -/
abbrev N_ordered_others : List Str := ["state", "block", "is_ahead", "found", "number", "one"]
theorem sc_ordered_others : FnScope N_ordered_others ["state", "block", "is_ahead"] (defScope s_ordered_others) := ⟨rfl, rfl, rfl, by decide +kernel, rfl, by decide +kernel, by decide +kernel⟩
def S_ordered_others (P : Program) (w : World) (K : PySem.W.Frag) (mg : Str → Option Value) (base : Heap) : List Ar → List PyData → Prop := fun as r => ∃ up v L b, as = [.d (stD L), .d (.int (b : Nat)), .v v] ∧ HeldF P w K mg base 2 v (spR K 2 (S_ahead up)) ∧ OkSt 1900 L ∧ r = natD (ordO up L b)
theorem ok_ordered_others {P : Program} {w : World} {K : PySem.W.Frag} {mg : Str → Option Value} {base : Heap} {f : Addr} {fd : FuncData} (FD : FnP K "ordered_others" s_ordered_others f fd) (c_comes_before : Callable P w K mg base "comes_before" 3 (spR K 4 (S_comes_before P w K mg base))) (b_range : mg "range" = none) (b_len : mg "len" = none) : FnOk P w K mg base CX0 4 f fd ["state", "block", "is_ahead"] (spN K 3 (S_ordered_others P w K mg base)) := by
  refine fn_okN FD sc_ordered_others rfl ?_
  intro X e1 e2 e3 e4 e5 hp F C as r hS hl hW
  subst e1 e2 e3 e4 e5
  obtain ⟨up, v, L, b, rfl, hv, O, rfl⟩ := hS
  have hm := O.most
  have n0 : Nm X 0 "state" := F.nm (by decide +kernel)
  have n1 : Nm X 1 "block" := F.nm (by decide +kernel)
  have n2 : Nm X 2 "is_ahead" := F.nm (by decide +kernel)
  have n3 : Nm X 3 "found" := F.nm (by decide +kernel)
  have l3 : Lc X 3 "found" := F.lc (by decide +kernel)
  have n4 : Nm X 4 "number" := F.nm (by decide +kernel)
  have l4 : Lc X 4 "number" := F.lc (by decide +kernel)
  have o5 : IxN N_ordered_others 5 "one" := rfl
  have d_comes_before : Cal X "comes_before" 3 (spR X.K 4 (S_comes_before X.prog X.w X.K X.mg X.base)) := c_comes_before.mono (by decide)
  have z_range : Bn X "range" := F.bn (by decide +kernel) b_range
  have z_len : Bn X "len" := F.bn (by decide +kernel) b_len
  walk_at "text"
  walk_at "env"
  walk_at "go"
  refine AL.es_for hp (by walk_at "calm") ?_
  walk_at "go"
  refine ⟨fun i g => ∃ e4, g = [.im (stD L), .im (.int b), .vl v, .ls none (natD (ordTo up L b i)), e4, .no], ⟨_, rfl⟩, ?_, ?_⟩
  · rintro i d g' e ⟨e4, rfl⟩
    obtain ⟨hi, rfl⟩ := rangeD_get e
    rw [Int.zero_add]
    have hi' : i < L.length := by simpa using hi
    have hn := ordTo_len (up := up) (L := L) (b := b) i
    walk_at "go"
    · rename_i hne
      refine ⟨.im (.int (i : Nat)), ?_⟩
      rw [ordTo_succ]; unfold ordStep
      rw [if_pos (by omega)]
    · rename_i hne
      refine AL.ee_borrow 3 rfl (by walk_at "se") (by walk_at "ln") ?_
      refine AL.ee_len (by walk_at "bn") ?_
      refine AL.ee_en (AL.en_lc F [("one", 5)] (by decide +kernel) ?_)
      walk_at "go"
      refine AL.lcSel (fun k => ((ordTo up L b i)[k]?).bind fun o => if bfr up L o i then some (.int (o : Nat)) else none) (by walk_at "wipe") (by rw [natD_len]; omega) ?_ ?_
      · intro C' k d e
        obtain ⟨o, e1, rfl⟩ := natD_get e
        have ho : o < L.length := by have := (ordTo_mem (List.mem_of_getElem? e1)).1; omega
        walk_at "go"
        refine AL.br_b (fun h => ?_) (fun h => ?_)
        · walk_at "go"
          exact ⟨by simp [e1, h], by walk_at "wk"⟩
        · exact ⟨by simp [e1, h], by walk_at "wk"⟩
      · walk_at "go"
        refine ⟨rfl, rfl, ?_⟩
        walk_at "go"
        rw [sel_count]
        have hc := List.length_filter_le (fun o => bfr up L o i) (ordTo up L b i)
        refine AL.lf_insert rfl (by omega) (by omega) (by walk_at "fz") (by rfl) (by rw [natD_len]; omega) (by walk_at "se") ?_
        refine ⟨.im (.int (i : Nat)), ?_⟩
        rw [ordTo_succ]; unfold ordStep
        rw [if_neg (by omega), Int.toNat_natCast, natD_ins]
  · rintro g' ⟨e4, rfl⟩
    walk_at "go"
    refine .o rfl ?_
    unfold ordO
    rw [rangeD_len, Int.toNat_natCast, List.length_map]
local macro_rules | `(tactic| walk_at "con") => `(tactic| ((with_reducible show S_ordered_others _ _ _ _ _ _ _); unfold S_ordered_others; exact ⟨_, _, _, _, rfl, by walk_at "held", by walk_at "pf", rfl⟩))
/-! ### extreme -/
abbrev N_extreme : List Str := ["state", "block", "is_ahead", "temperature", "plan", "other"]
theorem sc_extreme : FnScope N_extreme ["state", "block", "is_ahead"] (defScope s_extreme) := ⟨rfl, rfl, rfl, by decide +kernel, rfl, by decide +kernel, by decide +kernel⟩
def S_extreme (P : Program) (w : World) (K : PySem.W.Frag) (mg : Str → Option Value) (base : Heap) : Con := fun as r => ∃ up v L b, as = [.d (stD L), .d (.int (b : Nat)), .v v] ∧ HeldF P w K mg base 2 v (spR K 2 (S_ahead up)) ∧ OkSt 100 L ∧ b < L.length ∧ r = .tuple [fr (ext up L b).1, .list (natD (ext up L b).2)]
theorem ok_extreme {P : Program} {w : World} {K : PySem.W.Frag} {mg : Str → Option Value} {base : Heap} {f : Addr} {fd : FuncData} (FD : FnP K "extreme" s_extreme f fd) (c_ordered_others : Callable P w K mg base "ordered_others" 4 (spN K 3 (S_ordered_others P w K mg base))) (c_temperature_after : Callable P w K mg base "temperature_after" 5 (spR K 4 S_temperature_after)) : FnOk P w K mg base CX0 6 f fd ["state", "block", "is_ahead"] (spR K 3 (S_extreme P w K mg base)) := by
  refine fn_ok FD sc_extreme rfl ?_
  intro X e1 e2 e3 e4 e5 hp F C as r hS hl hW
  subst e1 e2 e3 e4 e5
  obtain ⟨up, v, L, b, rfl, hv, O, hb, rfl⟩ := hS
  have hv2 := hv.mono (k' := 5) (by decide)
  have hm := O.most
  have O2 : OkSt 1900 L := O.mono (by decide)
  have n0 : Nm X 0 "state" := F.nm (by decide +kernel)
  have n1 : Nm X 1 "block" := F.nm (by decide +kernel)
  have n2 : Nm X 2 "is_ahead" := F.nm (by decide +kernel)
  have n3 : Nm X 3 "temperature" := F.nm (by decide +kernel)
  have l3 : Lc X 3 "temperature" := F.lc (by decide +kernel)
  have n4 : Nm X 4 "plan" := F.nm (by decide +kernel)
  have l4 : Lc X 4 "plan" := F.lc (by decide +kernel)
  have n5 : Nm X 5 "other" := F.nm (by decide +kernel)
  have l5 : Lc X 5 "other" := F.lc (by decide +kernel)
  have g_ordered_others : Gn X "ordered_others" := F.gn (by decide +kernel)
  have d_ordered_others : Cal X "ordered_others" 5 (spN X.K 3 (S_ordered_others X.prog X.w X.K X.mg X.base)) := c_ordered_others.mono (by decide)
  have g_temperature_after : Gn X "temperature_after" := F.gn (by decide +kernel)
  have d_temperature_after : Cal X "temperature_after" 5 (spR X.K 4 S_temperature_after) := c_temperature_after.mono (by decide)
  walk_at "text"
  walk_at "env"
  walk_at "go"
  refine AL.es_for hp (by walk_at "calm") ?_
  walk_at "go"
  refine ⟨fun i g => ∃ e5, g = [.im (stD L), .im (.int b), .vl v, .im (fr (exOf up L b ((ordO up L b).take i)).1), .ls none (natD (exOf up L b ((ordO up L b).take i)).2), e5], ⟨_, rfl⟩, ?_, ?_⟩
  · rintro i d g' e ⟨e5, rfl⟩
    obtain ⟨o, e1, rfl⟩ := natD_get e
    have ho : o < L.length := (ordTo_mem (List.mem_of_getElem? e1)).1
    have hl1 := ordTo_len (up := up) (L := L) (b := b) L.length
    have hl2 : ((ordO up L b).take i).length ≤ 12 := by
      have : (ordO up L b).length ≤ 12 := Nat.le_trans hl1 hm
      rw [List.length_take]; omega
    obtain ⟨r0, r1⟩ := exOf_rb (up := up) O hb ((ordO up L b).take i) fun o h => (ordTo_mem (List.mem_of_mem_take h)).1
    have r2 : Rb 1900 (exOf up L b ((ordO up L b).take i)).1 := r0.mono (by omega)
    have r3 := r2.mono (m := 4000) (by decide)
    have r4 := (O2.rb ho).mono (m := 4000) (by decide)
    have r5 : (natD (exOf up L b ((ordO up L b).take i)).2).length < 1000000 := by rw [natD_len]; omega
    have hs : (ordO up L b).take (i + 1) = (ordO up L b).take i ++ [o] := by rw [List.take_add_one, e1]; rfl
    walk_at "go"
    refine AL.br_b (fun h => ?_) (fun h => ?_)
    · walk_at "go"
      refine ⟨.im (.int (o : Nat)), ?_⟩
      rw [hs, exOf_snoc]; unfold exStep
      rw [if_pos h]
      simp [natD]
    · walk_at "go"
      refine ⟨.im (.int (o : Nat)), ?_⟩
      rw [hs, exOf_snoc]; unfold exStep
      rw [if_neg (by rw [h]; decide)]
  · rintro g' ⟨e5, rfl⟩
    walk_at "go"
    rw [natD_len, List.take_length]; rfl
local macro_rules | `(tactic| walk_at "con") => `(tactic| ((with_reducible show S_extreme _ _ _ _ _ _ _); unfold S_extreme; exact ⟨_, _, _, _, rfl, by walk_at "held", by walk_at "pf", by walk_at "pf", rfl⟩))
/-! ### warmest -/
abbrev N_warmest : List Str := ["state", "block"]
theorem sc_warmest : FnScope N_warmest ["state", "block"] (defScope s_warmest) := ⟨rfl, rfl, rfl, by decide +kernel, rfl, by decide +kernel, by decide +kernel⟩
def S_warmest : Con := fun as r => ∃ L b, as = [.d (stD L), .d (.int (b : Nat))] ∧ OkSt 100 L ∧ b < L.length ∧ r = .tuple [fr (ext true L b).1, .list (natD (ext true L b).2)]
theorem ok_warmest {P : Program} {w : World} {K : PySem.W.Frag} {mg : Str → Option Value} {base : Heap} {f : Addr} {fd : FuncData} (FD : FnP K "warmest" s_warmest f fd) (c_check_state_and_block : Callable P w K mg base "check_state_and_block" 7 (spR K 2 S_check_state_and_block)) (c_extreme : Callable P w K mg base "extreme" 6 (spR K 3 (S_extreme P w K mg base))) (c_is_lower : Callable P w K mg base "is_lower" 1 (spR K 2 S_is_lower)) : FnOk P w K mg base CX0 8 f fd ["state", "block"] (spR K 2 S_warmest) := by
  refine fn_ok FD sc_warmest rfl ?_
  intro X e1 e2 e3 e4 e5 hp F C as r hS hl hW
  subst e1 e2 e3 e4 e5
  obtain ⟨L, b, rfl, O, hb, rfl⟩ := hS
  have n0 : Nm X 0 "state" := F.nm (by decide +kernel)
  have n1 : Nm X 1 "block" := F.nm (by decide +kernel)
  have g_check_state_and_block : Gn X "check_state_and_block" := F.gn (by decide +kernel)
  have d_check_state_and_block : Cal X "check_state_and_block" 7 (spR X.K 2 S_check_state_and_block) := c_check_state_and_block.mono (by decide)
  have g_extreme : Gn X "extreme" := F.gn (by decide +kernel)
  have d_extreme : Cal X "extreme" 7 (spR X.K 3 (S_extreme X.prog X.w X.K X.mg X.base)) := c_extreme.mono (by decide)
  have g_is_lower : Gn X "is_lower" := F.gn (by decide +kernel)
  have d_is_lower : Cal X "is_lower" 7 (spR X.K 2 S_is_lower) := c_is_lower.mono (by decide)
  obtain ⟨a_is_lower, m_is_lower, h_is_lower⟩ := c_is_lower.held
  walk_at "text"
  walk_at "env"
  have hq : HeldF X.prog X.w X.K X.mg X.base 2 (.ref a_is_lower) (spR X.K 2 (S_ahead true)) := (h_is_lower.mono (by decide)).imp fun as r h => by
    obtain ⟨p, q, rfl, z1, z2, rfl⟩ := h
    exact ⟨_, _, _, _, rfl, ⟨z1.1, z1.2⟩, ⟨z2.1, z2.2⟩, by simp [ahead, ← fr_lt]⟩
  walk_at "go"
  rfl
local macro_rules | `(tactic| walk_at "con") => `(tactic| ((with_reducible show S_warmest _ _); unfold S_warmest; exact ⟨_, _, rfl, by walk_at "pf", by walk_at "pf", rfl⟩))
/-! ### coldest -/
abbrev N_coldest : List Str := ["state", "block"]
theorem sc_coldest : FnScope N_coldest ["state", "block"] (defScope s_coldest) := ⟨rfl, rfl, rfl, by decide +kernel, rfl, by decide +kernel, by decide +kernel⟩
def S_coldest : Con := fun as r => ∃ L b, as = [.d (stD L), .d (.int (b : Nat))] ∧ OkSt 100 L ∧ b < L.length ∧ r = .tuple [fr (ext false L b).1, .list (natD (ext false L b).2)]
theorem ok_coldest {P : Program} {w : World} {K : PySem.W.Frag} {mg : Str → Option Value} {base : Heap} {f : Addr} {fd : FuncData} (FD : FnP K "coldest" s_coldest f fd) (c_check_state_and_block : Callable P w K mg base "check_state_and_block" 7 (spR K 2 S_check_state_and_block)) (c_extreme : Callable P w K mg base "extreme" 6 (spR K 3 (S_extreme P w K mg base))) (c_is_higher : Callable P w K mg base "is_higher" 2 (spR K 2 S_is_higher)) : FnOk P w K mg base CX0 8 f fd ["state", "block"] (spR K 2 S_coldest) := by
  refine fn_ok FD sc_coldest rfl ?_
  intro X e1 e2 e3 e4 e5 hp F C as r hS hl hW
  subst e1 e2 e3 e4 e5
  obtain ⟨L, b, rfl, O, hb, rfl⟩ := hS
  have n0 : Nm X 0 "state" := F.nm (by decide +kernel)
  have n1 : Nm X 1 "block" := F.nm (by decide +kernel)
  have g_check_state_and_block : Gn X "check_state_and_block" := F.gn (by decide +kernel)
  have d_check_state_and_block : Cal X "check_state_and_block" 7 (spR X.K 2 S_check_state_and_block) := c_check_state_and_block.mono (by decide)
  have g_extreme : Gn X "extreme" := F.gn (by decide +kernel)
  have d_extreme : Cal X "extreme" 7 (spR X.K 3 (S_extreme X.prog X.w X.K X.mg X.base)) := c_extreme.mono (by decide)
  have g_is_higher : Gn X "is_higher" := F.gn (by decide +kernel)
  have d_is_higher : Cal X "is_higher" 7 (spR X.K 2 S_is_higher) := c_is_higher.mono (by decide)
  obtain ⟨a_is_higher, m_is_higher, h_is_higher⟩ := c_is_higher.held
  walk_at "text"
  walk_at "env"
  have hq : HeldF X.prog X.w X.K X.mg X.base 2 (.ref a_is_higher) (spR X.K 2 (S_ahead false)) := (h_is_higher.mono (by decide)).imp fun as r h => by
    obtain ⟨p, q, rfl, z1, z2, rfl⟩ := h
    exact ⟨_, _, _, _, rfl, ⟨z1.1, z1.2⟩, ⟨z2.1, z2.2⟩, by simp [ahead, ← fr_lt]⟩
  walk_at "go"
  rfl
local macro_rules | `(tactic| walk_at "con") => `(tactic| ((with_reducible show S_coldest _ _); unfold S_coldest; exact ⟨_, _, rfl, by walk_at "pf", by walk_at "pf", rfl⟩))
/-! ### check_part -/
abbrev N_check_part : List Str := ["size", "value"]
theorem sc_check_part : FnScope N_check_part ["size", "value"] (defScope s_check_part) := ⟨rfl, rfl, rfl, by decide +kernel, rfl, by decide +kernel, by decide +kernel⟩
def S_check_part : Con := fun as r => ∃ s v : Int, as = [.d (.int s), .d (.int v)] ∧ 1 ≤ v ∧ v < s ∧ r = .none
theorem ok_check_part {P : Program} {w : World} {K : PySem.W.Frag} {mg : Str → Option Value} {base : Heap} {f : Addr} {fd : FuncData} (FD : FnP K "check_part" s_check_part f fd) (c_in_range : Callable P w K mg base "in_range" 2 (spR K 3 S_in_range)) : FnOk P w K mg base CX0 3 f fd ["size", "value"] (spR K 2 S_check_part) := by
  refine fn_ok FD sc_check_part rfl ?_
  intro X e1 e2 e3 e4 e5 hp F C as r hS hl hW
  subst e1 e2 e3 e4 e5
  obtain ⟨m, i, rfl, h1, h2, rfl⟩ := hS
  have hr : (!inRg (.int i) 1 (m - 1)) = false := by simp [inRg]; omega
  have n0 : Nm X 0 "size" := F.nm (by decide +kernel)
  have n1 : Nm X 1 "value" := F.nm (by decide +kernel)
  have g_in_range : Gn X "in_range" := F.gn (by decide +kernel)
  have d_in_range : Cal X "in_range" 2 (spR X.K 3 S_in_range) := c_in_range.mono (by decide)
  walk_at "text"
  walk_at "env"
  walk_at "go"
  rfl
local macro_rules | `(tactic| walk_at "con") => `(tactic| ((with_reducible show S_check_part _ _); unfold S_check_part; exact ⟨_, _, rfl, by walk_at "pf", by walk_at "pf", rfl⟩))
/-! ### split -/
abbrev N_split : List Str := ["state", "block", "size", "whole", "temperature"]
theorem sc_split : FnScope N_split ["state", "block", "size"] (defScope s_split) := ⟨rfl, rfl, rfl, by decide +kernel, rfl, by decide +kernel, by decide +kernel⟩
def S_split : Con := fun as r => ∃ L n b s, as = [.d (stD L), .d (.int (b : Nat)), .d (.int s)] ∧ OkSt n L ∧ b < L.length ∧ L.length < 12 ∧ (1 ≤ s ∧ s < siz L b) ∧ r = stD (parted L b s)
theorem ok_split {P : Program} {w : World} {K : PySem.W.Frag} {mg : Str → Option Value} {base : Heap} {f : Addr} {fd : FuncData} (FD : FnP K "split" s_split f fd) (c_check_state_and_block : Callable P w K mg base "check_state_and_block" 7 (spR K 2 S_check_state_and_block)) (c_check_part : Callable P w K mg base "check_part" 3 (spR K 2 S_check_part)) (i_MAX_BLOCKS : ∃ t, mg "MAX_BLOCKS" = some (.int 12 t)) (b_len : mg "len" = none) : FnOk P w K mg base CX0 8 f fd ["state", "block", "size"] (spR K 3 S_split) := by
  refine fn_ok FD sc_split rfl ?_
  intro X e1 e2 e3 e4 e5 hp F C as r hS hl hW
  subst e1 e2 e3 e4 e5
  obtain ⟨L, n, b, s, rfl, O, hb, hl12, ⟨h1, h2⟩, rfl⟩ := hS
  have hx : ((L.map blk).length : Int) < 12 := by rw [List.length_map]; omega
  have n0 : Nm X 0 "state" := F.nm (by decide +kernel)
  have n1 : Nm X 1 "block" := F.nm (by decide +kernel)
  have n2 : Nm X 2 "size" := F.nm (by decide +kernel)
  have n3 : Nm X 3 "whole" := F.nm (by decide +kernel)
  have l3 : Lc X 3 "whole" := F.lc (by decide +kernel)
  have n4 : Nm X 4 "temperature" := F.nm (by decide +kernel)
  have l4 : Lc X 4 "temperature" := F.lc (by decide +kernel)
  have g_check_state_and_block : Gn X "check_state_and_block" := F.gn (by decide +kernel)
  have d_check_state_and_block : Cal X "check_state_and_block" 7 (spR X.K 2 S_check_state_and_block) := c_check_state_and_block.mono (by decide)
  have g_check_part : Gn X "check_part" := F.gn (by decide +kernel)
  have d_check_part : Cal X "check_part" 7 (spR X.K 2 S_check_part) := c_check_part.mono (by decide)
  have g_MAX_BLOCKS : Gn X "MAX_BLOCKS" := F.gn (by decide +kernel)
  obtain ⟨t_MAX_BLOCKS, j_MAX_BLOCKS⟩ := i_MAX_BLOCKS
  have z_len : Bn X "len" := F.bn (by decide +kernel) b_len
  walk_at "text"
  walk_at "env"
  walk_at "go"
  all_goals try (exfalso; omega)
  rw [show ((b : Nat) : Int) + 1 = ((b + 1 : Nat) : Int) from rfl, Int.toNat_natCast, Int.toNat_natCast]
  show PyData.tuple _ = PyData.tuple _
  congr 1
  simp [parted, List.map_take, List.map_drop]
local macro_rules | `(tactic| walk_at "con") => `(tactic| ((with_reducible show S_split _ _); unfold S_split; exact ⟨_, _, _, _, rfl, by walk_at "pf", by walk_at "pf", by walk_at "pf", by walk_at "pf", rfl⟩))
/-! ### _law_pool -/
abbrev N_w_pool : List Str := ["_law_script", "_law_k", "_law_cell", "_law_blend"]
theorem sc_w_pool : FnScope N_w_pool ["_law_script", "_law_k"] (defScope s_w_pool) := ⟨rfl, rfl, rfl, by decide +kernel, rfl, by decide +kernel, by decide +kernel⟩
def S_w_pool : List Ar → List PyData → Prop := fun as r => ∃ ns k, as = [.d (scr ns), .d (.int (k : Nat))] ∧ k < 64 ∧ r = (pool ns k).ds
theorem ok_w_pool {P : Program} {w : World} {K : PySem.W.Frag} {mg : Str → Option Value} {base : Heap} {f : Addr} {fd : FuncData} (FD : FnP K "_law_pool" s_w_pool f fd) (b_len : mg "len" = none) (b_abs : mg "abs" = none) (b_int : mg "int" = none) : FnOk P w K mg base CX0 1 f fd ["_law_script", "_law_k"] (spN K 2 S_w_pool) := by
  refine fn_okN FD sc_w_pool rfl ?_
  intro X e1 e2 e3 e4 e5 hp F C as r hS hl hW
  subst e1 e2 e3 e4 e5
  obtain ⟨ns, k, rfl, hk, rfl⟩ := hS
  have n0 : Nm X 0 "_law_script" := F.nm (by decide +kernel)
  have n1 : Nm X 1 "_law_k" := F.nm (by decide +kernel)
  have n2 : Nm X 2 "_law_cell" := F.nm (by decide +kernel)
  have l2 : Lc X 2 "_law_cell" := F.lc (by decide +kernel)
  have n3 : Nm X 3 "_law_blend" := F.nm (by decide +kernel)
  have l3 : Lc X 3 "_law_blend" := F.lc (by decide +kernel)
  have z_len : Bn X "len" := F.bn (by decide +kernel) b_len
  have z_abs : Bn X "abs" := F.bn (by decide +kernel) b_abs
  have z_int : Bn X "int" := F.bn (by decide +kernel) b_int
  walk_at "text"
  walk_at "env"
  by_cases hk2 : k < ns.length
  · have hix : ns[((k : Nat) : Int).toNat]? = some (ns.getD k 0) := by rw [Int.toNat_natCast]; simp [hk2]
    have hc : cellS ns k = (if ns.getD k 0 < 0 then -(ns.getD k 0) else ns.getD k 0) := by unfold cellS; rw [if_pos hk2, abs_if]
    walk_at "go"
    all_goals try (exfalso; omega)
    refine AL.es_retL ?_
    walk_at "go"
    unfold pool
    rw [hc]; rfl
  · walk_at "go"
    all_goals try (exfalso; omega)
    refine AL.es_retL ?_
    walk_at "go"
    unfold pool
    rw [show cellS ns k = 0 from if_neg hk2]; rfl
local macro_rules | `(tactic| walk_at "con") => `(tactic| ((with_reducible show S_w_pool _ _); unfold S_w_pool; exact ⟨_, _, rfl, by walk_at "pf", rfl⟩))
/-! ### _law_take -/
abbrev N_w_take : List Str := ["_law_pool_here", "_law_wide", "_law_found"]
theorem sc_w_take : FnScope N_w_take ["_law_pool_here", "_law_wide"] (defScope s_w_take) := ⟨rfl, rfl, rfl, by decide +kernel, rfl, by decide +kernel, by decide +kernel⟩
def S_w_take : ConM := fun ds as r ds' => ∃ (p : Pl) (v : Int), ds = p.ds ∧ as = [.d (.int v)] ∧ p.Ok ∧ 0 < v ∧ v < 2 ^ 40 ∧ r = .int (pick p v) ∧ ds' = (left p v).ds
theorem ok_w_take {P : Program} {w : World} {K : PySem.W.Frag} {mg : Str → Option Value} {base : Heap} {f : Addr} {fd : FuncData} (FD : FnP K "_law_take" s_w_take f fd) : FnOk P w K mg base CX0 1 f fd ["_law_pool_here", "_law_wide"] (spM K 2 S_w_take) := by
  refine fn_okM FD sc_w_take rfl ?_
  intro X e1 e2 e3 e4 e5 hp F C ds as r ds' hS hl
  subst e1 e2 e3 e4 e5
  obtain ⟨p, v, rfl, rfl, O, h0, h1, rfl, rfl⟩ := hS
  have y0 := O.y0
  have y1 := O.y1
  have n0 : Nm X 0 "_law_pool_here" := F.nm (by decide +kernel)
  have n1 : Nm X 1 "_law_wide" := F.nm (by decide +kernel)
  have n2 : Nm X 2 "_law_found" := F.nm (by decide +kernel)
  have l2 : Lc X 2 "_law_found" := F.lc (by decide +kernel)
  walk_at "text"
  walk_at "env"
  walk_at "go"
  · rename_i h
    refine ⟨AL.ret_d ?_, ?_⟩
    · unfold pick; rw [if_pos h]
    · unfold left; rw [if_pos h]; rfl
  · rename_i h
    refine ⟨AL.ret_d ?_, ?_⟩
    · unfold pick; rw [if_neg h]
    · unfold left; rw [if_neg h]; rfl
local macro_rules | `(tactic| walk_at "con") => `(tactic| ((with_reducible show S_w_take _ _ _ _); unfold S_w_take; exact ⟨_, _, rfl, rfl, by walk_at "pok", by walk_at "pf", by walk_at "pf", rfl, rfl⟩))
/-! ### _law_low -/
abbrev N_w_low : List Str := ["_law_top", "_law_bottom", "_law_one", "_law_other"]
theorem sc_w_low : FnScope N_w_low ["_law_top", "_law_bottom"] (defScope s_w_low) := ⟨rfl, rfl, rfl, by decide +kernel, rfl, by decide +kernel, by decide +kernel⟩
def S_w_low : Con := fun as r => ∃ a b : Int, as = [.d (.int a), .d (.int b)] ∧ 0 < b ∧ Bt 8999 b ∧ r = fr (Rat.divInt a b)
theorem ok_w_low {P : Program} {w : World} {K : PySem.W.Frag} {mg : Str → Option Value} {base : Heap} {f : Addr} {fd : FuncData} (FD : FnP K "_law_low" s_w_low f fd) (b_abs : mg "abs" = none) : FnOk P w K mg base CX0 1 f fd ["_law_top", "_law_bottom"] (spR K 2 S_w_low) := by
  refine fn_ok FD sc_w_low rfl ?_
  intro X e1 e2 e3 e4 e5 hp F C as r hS hl hW
  subst e1 e2 e3 e4 e5
  obtain ⟨a, b, rfl, hb, hz, rfl⟩ := hS
  have h1 := gcd_pos (a := a) hb
  have h2 := Bt.gcd (a := a) hz hb
  have n0 : Nm X 0 "_law_top" := F.nm (by decide +kernel)
  have n1 : Nm X 1 "_law_bottom" := F.nm (by decide +kernel)
  have n2 : Nm X 2 "_law_one" := F.nm (by decide +kernel)
  have l2 : Lc X 2 "_law_one" := F.lc (by decide +kernel)
  have n3 : Nm X 3 "_law_other" := F.nm (by decide +kernel)
  have l3 : Lc X 3 "_law_other" := F.lc (by decide +kernel)
  have z_abs : Bn X "abs" := F.bn (by decide +kernel) b_abs
  walk_at "text"
  walk_at "env"
  walk_at "go"
  refine AL.es_while hp (fun m g => ∃ x y : Nat, g = [.im (.int a), .im (.int b), .im (.int x), .im (.int y)] ∧ x.gcd y = a.gcd b ∧ m = y) ⟨_, a.natAbs, b.natAbs, by rw [AL.abs_if, Int.natAbs_of_nonneg (Int.le_of_lt hb)], rfl, rfl⟩ ?_
  rintro m g ⟨x, y, rfl, e, rfl⟩
  walk_at "go"
  · have hm : m = 0 := by omega
    subst hm
    rw [Nat.gcd_zero_right] at e
    subst e
    walk_at "go"
    exact fr_mk a b hb
  · refine ⟨x % m, Nat.mod_lt _ (by omega), m, x % m, by rw [Int.natCast_emod], ?_, rfl⟩
    rw [Nat.gcd_comm, ← Nat.gcd_rec, Nat.gcd_comm]; exact e
local macro_rules | `(tactic| walk_at "con") => `(tactic| ((with_reducible show S_w_low _ _); unfold S_w_low; exact ⟨_, _, rfl, by walk_at "pf", by walk_at "pf", rfl⟩))
/-! ### _law_less -/
abbrev N_w_less : List Str := ["_law_one", "_law_other"]
theorem sc_w_less : FnScope N_w_less ["_law_one", "_law_other"] (defScope s_w_less) := ⟨rfl, rfl, rfl, by decide +kernel, rfl, by decide +kernel, by decide +kernel⟩
def S_w_less : Con := fun as r => ∃ a b c d : Int, as = [.d (.tuple [.int a, .int b]), .d (.tuple [.int c, .int d])] ∧ (Bt 4000 a ∧ Bt 4000 b) ∧ (Bt 4000 c ∧ Bt 4000 d) ∧ r = .bool (decide (a * d < c * b))
theorem ok_w_less {P : Program} {w : World} {K : PySem.W.Frag} {mg : Str → Option Value} {base : Heap} {f : Addr} {fd : FuncData} (FD : FnP K "_law_less" s_w_less f fd) : FnOk P w K mg base CX0 1 f fd ["_law_one", "_law_other"] (spR K 2 S_w_less) := by
  refine fn_ok FD sc_w_less rfl ?_
  intro X e1 e2 e3 e4 e5 hp F C as r hS hl hW
  subst e1 e2 e3 e4 e5
  obtain ⟨a, b, c, d, rfl, ⟨z1, z2⟩, ⟨z3, z4⟩, rfl⟩ := hS
  have n0 : Nm X 0 "_law_one" := F.nm (by decide +kernel)
  have n1 : Nm X 1 "_law_other" := F.nm (by decide +kernel)
  walk_at "text"
  walk_at "env"
  walk_at "go"
  rfl
local macro_rules | `(tactic| walk_at "con") => `(tactic| ((with_reducible show S_w_less _ _); unfold S_w_less; exact ⟨_, _, _, _, rfl, ⟨by walk_at "pf", by walk_at "pf"⟩, ⟨by walk_at "pf", by walk_at "pf"⟩, rfl⟩))
/-! ### _law_share -/
abbrev N_w_share : List Str := ["_law_pool_here", "_law_way"]
theorem sc_w_share : FnScope N_w_share ["_law_pool_here"] (defScope s_w_share) := ⟨rfl, rfl, rfl, by decide +kernel, rfl, by decide +kernel, by decide +kernel⟩
def S_w_share : ConM := fun ds as r ds' => ∃ (p : Pl), ds = p.ds ∧ as = [] ∧ p.Ok ∧ r = fr (shareS p) ∧ ds' = (shareP p).ds
theorem ok_w_share {P : Program} {w : World} {K : PySem.W.Frag} {mg : Str → Option Value} {base : Heap} {f : Addr} {fd : FuncData} (FD : FnP K "_law_share" s_w_share f fd) (c_w_take : Callable P w K mg base "_law_take" 1 (spM K 2 S_w_take)) (c_w_low : Callable P w K mg base "_law_low" 1 (spR K 2 S_w_low)) : FnOk P w K mg base CX0 2 f fd ["_law_pool_here"] (spM K 1 S_w_share) := by
  refine fn_okM FD sc_w_share rfl ?_
  intro X e1 e2 e3 e4 e5 hp F C ds as r ds' hS hl
  subst e1 e2 e3 e4 e5
  obtain ⟨p, rfl, rfl, O, rfl, rfl⟩ := hS
  have w0 := pick_nn (p := p) (w := 8) (by decide)
  have w1 := pick_lt (p := p) (w := 8) (by decide)
  have q0 := pick_nn (p := left (left p 8) 2000000000) (w := 6) (by decide)
  have q1 := pick_lt (p := left (left p 8) 2000000000) (w := 6) (by decide)
  have q2 : Bt 8999 (1 + pick (left (left p 8) 2000000000) 6) := (show Bt 7 _ by unfold Bt; omega).mono (by decide)
  have d0 := dn7_pos (pick p 8)
  have d1 := d0.1
  have d2 : Bt 8999 (dn7 (pick p 8)) := (show Bt 7 _ by unfold Bt; omega).mono (by decide)
  have n0 : Nm X 0 "_law_pool_here" := F.nm (by decide +kernel)
  have n1 : Nm X 1 "_law_way" := F.nm (by decide +kernel)
  have l1 : Lc X 1 "_law_way" := F.lc (by decide +kernel)
  have g_w_take : Gn X "_law_take" := F.gn (by decide +kernel)
  have d_w_take : Cal X "_law_take" 1 (spM X.K 2 S_w_take) := c_w_take.mono (by decide)
  have g_w_low : Gn X "_law_low" := F.gn (by decide +kernel)
  have d_w_low : Cal X "_law_low" 1 (spR X.K 2 S_w_low) := c_w_low.mono (by decide)
  walk_at "text"
  walk_at "env"
  have hT : (2 : Int) * 1000000000 = 2000000000 := by decide
  have hT2 : (10 : Int) ^ Int.toNat 9 = 1000000000 := by decide
  walk_at "go"
  · rename_i h
    simp only [hT, hT2]
    walk_at "go"
    refine ⟨AL.ret_d ?_, ?_⟩
    · unfold shareS; rw [if_pos h]
    · unfold shareP; rw [if_pos h]; rfl
  · rename_i h
    refine ⟨AL.ret_d ?_, ?_⟩
    · unfold shareS; rw [if_neg h]
    · unfold shareP; rw [if_neg h]; rfl
local macro_rules | `(tactic| walk_at "con") => `(tactic| ((with_reducible show S_w_share _ _ _ _); unfold S_w_share; exact ⟨_, rfl, rfl, by walk_at "pok", rfl, rfl⟩))
/-! ### _law_lot -/
abbrev N_w_lot : List Str := ["_law_pool_here", "_law_most", "_law_found", "_law_block", "_law_size"]
theorem sc_w_lot : FnScope N_w_lot ["_law_pool_here", "_law_most"] (defScope s_w_lot) := ⟨rfl, rfl, rfl, by decide +kernel, rfl, by decide +kernel, by decide +kernel⟩
def S_w_lot : ConM := fun ds as r ds' => ∃ (p : Pl) (m : Int), ds = p.ds ∧ as = [.d (.int m)] ∧ p.Ok ∧ 0 < m ∧ m < 100000 ∧ r = stD (lotS p m) ∧ ds' = (lotP p m).ds
theorem ok_w_lot {P : Program} {w : World} {K : PySem.W.Frag} {mg : Str → Option Value} {base : Heap} {f : Addr} {fd : FuncData} (FD : FnP K "_law_lot" s_w_lot f fd) (c_w_take : Callable P w K mg base "_law_take" 1 (spM K 2 S_w_take)) (c_w_share : Callable P w K mg base "_law_share" 2 (spM K 1 S_w_share)) (b_range : mg "range" = none) (b_tuple : mg "tuple" = none) : FnOk P w K mg base CX0 3 f fd ["_law_pool_here", "_law_most"] (spM K 2 S_w_lot) := by
  refine fn_okM FD sc_w_lot rfl ?_
  intro X e1 e2 e3 e4 e5 hp F C ds as r ds' hS hl
  subst e1 e2 e3 e4 e5
  obtain ⟨p, m, rfl, rfl, O, h0, h1, rfl, rfl⟩ := hS
  have w0 := pick_nn (p := p) h0
  have w1 := pick_lt (p := p) h0
  have n0 : Nm X 0 "_law_pool_here" := F.nm (by decide +kernel)
  have n1 : Nm X 1 "_law_most" := F.nm (by decide +kernel)
  have n2 : Nm X 2 "_law_found" := F.nm (by decide +kernel)
  have l2 : Lc X 2 "_law_found" := F.lc (by decide +kernel)
  have n3 : Nm X 3 "_law_block" := F.nm (by decide +kernel)
  have l3 : Lc X 3 "_law_block" := F.lc (by decide +kernel)
  have n4 : Nm X 4 "_law_size" := F.nm (by decide +kernel)
  have l4 : Lc X 4 "_law_size" := F.lc (by decide +kernel)
  have g_w_take : Gn X "_law_take" := F.gn (by decide +kernel)
  have d_w_take : Cal X "_law_take" 2 (spM X.K 2 S_w_take) := c_w_take.mono (by decide)
  have g_w_share : Gn X "_law_share" := F.gn (by decide +kernel)
  have d_w_share : Cal X "_law_share" 2 (spM X.K 1 S_w_share) := c_w_share.mono (by decide)
  have z_range : Bn X "range" := F.bn (by decide +kernel) b_range
  have z_tuple : Bn X "tuple" := F.bn (by decide +kernel) b_tuple
  walk_at "text"
  walk_at "env"
  walk_at "go"
  refine AL.es_for hp (by walk_at "calm") ?_
  walk_at "go"
  refine ⟨fun i g => ∃ e3 e4, g = [.ls (some 0) (lotN i (left p m)).2.ds, .im (.int m), .ls none ((lotN i (left p m)).1.map blk), e3, e4], ⟨_, _, rfl⟩, ?_, ?_⟩
  · rintro i d g' e ⟨e3, e4, rfl⟩
    obtain ⟨hi, rfl⟩ := rangeD_get e
    have O2 := lotN_ok (left_ok O h0) i
    have hl := lotN_len (left p m) i
    have a0 := pick_nn (p := left (left (left (lotN i (left p m)).2 4) 9) 99) (w := 4) (by decide)
    have a1 := pick_lt (p := left (left (left (lotN i (left p m)).2 4) 9) 99) (w := 4) (by decide)
    have hl2 : ((lotN i (left p m)).1.map blk).length < 1000000 := by rw [List.length_map]; omega
    walk_at "go"
    exact ⟨_, _, by rw [show (lotN (i + 1) (left p m)).1 = (lotN i (left p m)).1 ++ [(sizeS (lotN i (left p m)).2, shareS (sizeP (lotN i (left p m)).2))] from rfl, List.map_append]; rfl⟩
  · rintro g' ⟨e3, e4, rfl⟩
    walk_at "go"
    rw [rangeD_len]
    exact ⟨AL.ret_d rfl, rfl⟩
local macro_rules | `(tactic| walk_at "con") => `(tactic| ((with_reducible show S_w_lot _ _ _ _); unfold S_w_lot; exact ⟨_, _, rfl, rfl, by walk_at "pok", by walk_at "pf", by walk_at "pf", rfl, rfl⟩))
/-! ### _law_none_less -/
abbrev N_w_none_less : List Str := ["_law_lot_here", "_law_left", "_law_block", "_law_own", "_law_gone", "_law_high", "_law_less_here", "_law_low_here", "_law_more"]
theorem sc_w_none_less : FnScope N_w_none_less ["_law_lot_here", "_law_left", "_law_block", "_law_own", "_law_gone"] (defScope s_w_none_less) := ⟨rfl, rfl, rfl, by decide +kernel, rfl, by decide +kernel, by decide +kernel⟩
def S_w_none_less : Con := fun as r => ∃ L W b o s u, as = [.d (stD L), .d (stD W), .d (.int (b : Nat)), .d (.int (o : Nat)), .d (.tuple [.int s, fr u])] ∧ OkSt 100 L ∧ OkSt 100 W ∧ b < L.length ∧ o < W.length ∧ Rb 4000 u ∧ NoneLess L W b o u ∧ r = .bool true
theorem ok_w_none_less {P : Program} {w : World} {K : PySem.W.Frag} {mg : Str → Option Value} {base : Heap} {f : Addr} {fd : FuncData} (FD : FnP K "_law_none_less" s_w_none_less f fd) (c_warmest : Callable P w K mg base "warmest" 8 (spR K 2 S_warmest)) (c_coldest : Callable P w K mg base "coldest" 8 (spR K 2 S_coldest)) (c_w_less : Callable P w K mg base "_law_less" 1 (spR K 2 S_w_less)) : FnOk P w K mg base CX0 9 f fd ["_law_lot_here", "_law_left", "_law_block", "_law_own", "_law_gone"] (spR K 5 S_w_none_less) := by
  refine fn_ok FD sc_w_none_less rfl ?_
  intro X e1 e2 e3 e4 e5 hp F C as r hS hl hW
  subst e1 e2 e3 e4 e5
  obtain ⟨L, W, b, o, s, u, rfl, OL, OW, hb, ho, hu, ⟨m1, m2, m3, m4⟩, rfl⟩ := hS
  have z1 := ext_rb (up := true) OL hb
  have z2 := ext_rb (up := true) OW ho
  have z3 := ext_rb (up := false) OL hb
  have z4 := ext_rb (up := false) OW ho
  have y1 := z1.1
  have y2 := z1.2
  have y3 := z2.1
  have y4 := z2.2
  have y5 := z3.1
  have y6 := z3.2
  have y7 := z4.1
  have y8 := z4.2
  have t1 := (OL.rb hb).1.mono (m := 4000) (by decide)
  have t2 := (OL.rb hb).2.mono (m := 4000) (by decide)
  have u1 := hu.1
  have u2 := hu.2
  have n0 : Nm X 0 "_law_lot_here" := F.nm (by decide +kernel)
  have n1 : Nm X 1 "_law_left" := F.nm (by decide +kernel)
  have n2 : Nm X 2 "_law_block" := F.nm (by decide +kernel)
  have n3 : Nm X 3 "_law_own" := F.nm (by decide +kernel)
  have n4 : Nm X 4 "_law_gone" := F.nm (by decide +kernel)
  have n5 : Nm X 5 "_law_high" := F.nm (by decide +kernel)
  have l5 : Lc X 5 "_law_high" := F.lc (by decide +kernel)
  have n6 : Nm X 6 "_law_less_here" := F.nm (by decide +kernel)
  have l6 : Lc X 6 "_law_less_here" := F.lc (by decide +kernel)
  have n7 : Nm X 7 "_law_low_here" := F.nm (by decide +kernel)
  have l7 : Lc X 7 "_law_low_here" := F.lc (by decide +kernel)
  have n8 : Nm X 8 "_law_more" := F.nm (by decide +kernel)
  have l8 : Lc X 8 "_law_more" := F.lc (by decide +kernel)
  have g_warmest : Gn X "warmest" := F.gn (by decide +kernel)
  have d_warmest : Cal X "warmest" 8 (spR X.K 2 S_warmest) := c_warmest.mono (by decide)
  have g_coldest : Gn X "coldest" := F.gn (by decide +kernel)
  have d_coldest : Cal X "coldest" 8 (spR X.K 2 S_coldest) := c_coldest.mono (by decide)
  have g_w_less : Gn X "_law_less" := F.gn (by decide +kernel)
  have d_w_less : Cal X "_law_less" 8 (spR X.K 2 S_w_less) := c_w_less.mono (by decide)
  walk_at "text"
  walk_at "env"
  rw [← fr_lt] at m1 m2
  rw [← fr_lt, ← fr_eq] at m3 m4
  walk_at "go"
  all_goals first | rfl | (exfalso; first | contradiction | exact absurd (m3 (by assumption)) (by assumption) | exact m1 (by assumption) | exact m2 (by assumption)) | (exact congrArg PyData.bool (decide_eq_true (m4 (by assumption)))) | skip

local macro_rules | `(tactic| walk_at "con") => `(tactic| ((with_reducible show S_w_none_less _ _); unfold S_w_none_less; exact ⟨_, _, _, _, _, _, rfl, by walk_at "pf", by walk_at "pf", by walk_at "pf", by walk_at "pf", by walk_at "pf", by walk_at "pf", rfl⟩))
/-! ### law -/
abbrev N_law : List Str := ["_law_script", "_law_k", "_law_pool_here", "_law_lot_here", "_law_at", "_law_left", "_law_block", "_law_own", "_law_parted", "_law_same"]
theorem sc_law : FnScope N_law ["_law_script"] (defScope s_law) := ⟨rfl, rfl, rfl, by decide +kernel, rfl, by decide +kernel, by decide +kernel⟩
def S_law : Con := fun as r => ∃ ns, as = [.d (scr ns)] ∧ ns.length ≤ 63 ∧ r = .bool true
theorem ok_law {P : Program} {w : World} {K : PySem.W.Frag} {mg : Str → Option Value} {base : Heap} {f : Addr} {fd : FuncData} (FD : FnP K "law" s_law f fd) (c_w_pool : Callable P w K mg base "_law_pool" 1 (spN K 2 S_w_pool)) (c_w_take : Callable P w K mg base "_law_take" 1 (spM K 2 S_w_take)) (c_w_lot : Callable P w K mg base "_law_lot" 3 (spM K 2 S_w_lot)) (c_split : Callable P w K mg base "split" 8 (spR K 3 S_split)) (c_w_less : Callable P w K mg base "_law_less" 1 (spR K 2 S_w_less)) (c_w_share : Callable P w K mg base "_law_share" 2 (spM K 1 S_w_share)) (c_w_none_less : Callable P w K mg base "_law_none_less" 9 (spR K 5 S_w_none_less)) (c_warmest : Callable P w K mg base "warmest" 8 (spR K 2 S_warmest)) (b_range : mg "range" = none) (b_max : mg "max" = none) (b_min : mg "min" = none) (b_len : mg "len" = none) (b_int : mg "int" = none) : FnOk P w K mg base CX0 10 f fd ["_law_script"] (spR K 1 S_law) := by
  refine fn_ok FD sc_law rfl ?_
  intro X e1 e2 e3 e4 e5 hp F C as r hS hl hW
  subst e1 e2 e3 e4 e5
  obtain ⟨ns, rfl, hns, rfl⟩ := hS
  have n0 : Nm X 0 "_law_script" := F.nm (by decide +kernel)
  have n1 : Nm X 1 "_law_k" := F.nm (by decide +kernel)
  have l1 : Lc X 1 "_law_k" := F.lc (by decide +kernel)
  have n2 : Nm X 2 "_law_pool_here" := F.nm (by decide +kernel)
  have l2 : Lc X 2 "_law_pool_here" := F.lc (by decide +kernel)
  have n3 : Nm X 3 "_law_lot_here" := F.nm (by decide +kernel)
  have l3 : Lc X 3 "_law_lot_here" := F.lc (by decide +kernel)
  have n4 : Nm X 4 "_law_at" := F.nm (by decide +kernel)
  have l4 : Lc X 4 "_law_at" := F.lc (by decide +kernel)
  have n5 : Nm X 5 "_law_left" := F.nm (by decide +kernel)
  have l5 : Lc X 5 "_law_left" := F.lc (by decide +kernel)
  have n6 : Nm X 6 "_law_block" := F.nm (by decide +kernel)
  have l6 : Lc X 6 "_law_block" := F.lc (by decide +kernel)
  have n7 : Nm X 7 "_law_own" := F.nm (by decide +kernel)
  have l7 : Lc X 7 "_law_own" := F.lc (by decide +kernel)
  have n8 : Nm X 8 "_law_parted" := F.nm (by decide +kernel)
  have l8 : Lc X 8 "_law_parted" := F.lc (by decide +kernel)
  have n9 : Nm X 9 "_law_same" := F.nm (by decide +kernel)
  have l9 : Lc X 9 "_law_same" := F.lc (by decide +kernel)
  have g_w_pool : Gn X "_law_pool" := F.gn (by decide +kernel)
  have d_w_pool : Cal X "_law_pool" 9 (spN X.K 2 S_w_pool) := c_w_pool.mono (by decide)
  have g_w_take : Gn X "_law_take" := F.gn (by decide +kernel)
  have d_w_take : Cal X "_law_take" 9 (spM X.K 2 S_w_take) := c_w_take.mono (by decide)
  have g_w_lot : Gn X "_law_lot" := F.gn (by decide +kernel)
  have d_w_lot : Cal X "_law_lot" 9 (spM X.K 2 S_w_lot) := c_w_lot.mono (by decide)
  have g_split : Gn X "split" := F.gn (by decide +kernel)
  have d_split : Cal X "split" 9 (spR X.K 3 S_split) := c_split.mono (by decide)
  have g_w_less : Gn X "_law_less" := F.gn (by decide +kernel)
  have d_w_less : Cal X "_law_less" 9 (spR X.K 2 S_w_less) := c_w_less.mono (by decide)
  have g_w_share : Gn X "_law_share" := F.gn (by decide +kernel)
  have d_w_share : Cal X "_law_share" 9 (spM X.K 1 S_w_share) := c_w_share.mono (by decide)
  have g_w_none_less : Gn X "_law_none_less" := F.gn (by decide +kernel)
  have d_w_none_less : Cal X "_law_none_less" 9 (spR X.K 5 S_w_none_less) := c_w_none_less.mono (by decide)
  have g_warmest : Gn X "warmest" := F.gn (by decide +kernel)
  have d_warmest : Cal X "warmest" 9 (spR X.K 2 S_warmest) := c_warmest.mono (by decide)
  have z_range : Bn X "range" := F.bn (by decide +kernel) b_range
  have z_max : Bn X "max" := F.bn (by decide +kernel) b_max
  have z_min : Bn X "min" := F.bn (by decide +kernel) b_min
  have z_len : Bn X "len" := F.bn (by decide +kernel) b_len
  have z_int : Bn X "int" := F.bn (by decide +kernel) b_int
  walk_at "text"
  walk_at "env"
  walk_at "go"
  refine AL.es_for hp (by walk_at "calm") ?_
  walk_at "go"
  have hM : (if (if (3 : Int) < (ns.length : Int) then 3 else (ns.length : Int)) > 1 then (if (3 : Int) < (ns.length : Int) then 3 else (ns.length : Int)) else 1) ≤ 3 := by split <;> split <;> omega
  have hM0 : (1 : Int) ≤ (if (if (3 : Int) < (ns.length : Int) then 3 else (ns.length : Int)) > 1 then (if (3 : Int) < (ns.length : Int) then 3 else (ns.length : Int)) else 1) := by split <;> split <;> omega
  try (refine ⟨by omega, by omega, ?_⟩)
  refine ⟨fun i g => ∃ e1 e2 e3 e4 e5 e6 e7 e8 e9, g = [.im (scr ns), e1, e2, e3, e4, e5, e6, e7, e8, e9], ⟨_, _, _, _, _, _, _, _, _, rfl⟩, ?_, ?_⟩
  · rintro i d g' e ⟨e1, e2, e3, e4, e5, e6, e7, e8, e9, rfl⟩
    obtain ⟨hi, rfl⟩ := rangeD_get e
    rw [Int.zero_add]
    have hi3 : i < 64 := by omega
    have PO := pool_ok ns i
    refine AL.eg_d (by walk_at "lc") (by walk_at "se") ?_
    refine AL.ess_cut (R := fun g => g = [.im (scr ns), .im (.int (i : Nat)), .ls none (pool ns i).ds, e3, e4, e5, e6, e7, e8, e9]) (by walk_at "go"; rfl) ?_
    rintro _ rfl
    generalize pool ns i = p1 at PO ⊢
    refine AL.ess_cut (R := fun g => ∃ p L, Pl.Ok p ∧ OkSt 40 L ∧ 2 ≤ L.length ∧ g = [.im (scr ns), .im (.int (i : Nat)), .ls none p.ds, .im (stD L), e4, e5, e6, e7, e8, e9]) ?_ ?_
    · have hl := lotN_len (left p1 11) (1 + pick p1 11).toNat
      have a0 := pick_nn (p := p1) (w := 11) (by decide)
      have a1 := pick_lt (p := p1) (w := 11) (by decide)
      have PO1 : (lotP p1 11).Ok := lotN_ok (left_ok PO (by decide)) _
      have c0 := pick_nn (p := lotP p1 11) (w := 99) (by decide)
      have c1 := pick_lt (p := lotP p1 11) (w := 99) (by decide)
      have hl2 : (List.map blk (lotS p1 11)).length ≤ 100 := by rw [List.length_map]; show (lotN (1 + pick p1 11).toNat (left p1 11)).1.length ≤ 100; omega
      have hl3 : (lotS p1 11).length ≤ 100 := by rw [← List.length_map (f := blk)]; exact hl2
      walk_at "go"
      refine ⟨shareP (left (lotP p1 11) 99), lotS p1 11 ++ [(1 + pick (lotP p1 11) 99, shareS (left (lotP p1 11) 99))], shareP_ok (left_ok PO1 (by decide)), ⟨?_, ?_, ?_⟩, ?_, by simp only [stD, List.map_append]; rfl⟩
      · rw [List.length_append, List.length_singleton]; omega
      · rw [List.length_append, List.length_singleton]; show (lotN (1 + pick p1 11).toNat (left p1 11)).1.length + 1 ≤ 12; omega
      · intro b hb
        rw [List.mem_append, List.mem_singleton] at hb
        rcases hb with hb | rfl
        · exact lotN_each _ _ b hb
        · exact ⟨by unfold Sz; show 1 ≤ 1 + pick (lotP p1 11) 99 ∧ 1 + pick (lotP p1 11) 99 ≤ 99; omega, shareS_rb⟩
      · rw [List.length_append, List.length_singleton]; show 2 ≤ (lotN (1 + pick p1 11).toNat (left p1 11)).1.length + 1; omega
    rintro _ ⟨p2, L, P2, OL, hL, rfl⟩
    have hm := OL.most
    have OL1 : OkSt 100 L := OL.mono (by decide)
    have hlen : (List.map blk L).length = L.length := List.length_map ..
    refine AL.ess_cut (R := fun g => ∃ p r, Pl.Ok p ∧ r < L.length ∧ g = [.im (scr ns), .im (.int (i : Nat)), .ls none p.ds, .im (stD L), .im (.int (r : Nat)), e5, e6, e7, e8, e9]) ?_ ?_
    · have hw : (0 : Int) < ((List.map blk L).length : Int) := by omega
      have a0 := pick_nn (p := p2) hw
      have a1 := pick_lt (p := p2) hw
      have hv : ((List.map blk L).length : Int) < 2 ^ 40 := by omega
      walk_at "go"
      exact ⟨_, pickN p2 ((List.map blk L).length : Int), left_ok P2 hw, by have := pickN_eq (p := p2) hw; omega, by rw [pickN_eq hw]⟩
    rintro _ ⟨p3, r, P3, hr, rfl⟩
    have hWl := wout_len hr
    have OW := wout_ok OL hL hr
    have OW1 : OkSt 100 (wout L r) := OW.mono (by decide)
    refine AL.ess_cut (R := fun g => g = [.im (scr ns), .im (.int (i : Nat)), .ls none p3.ds, .im (stD L), .im (.int (r : Nat)), .im (stD (wout L r)), e6, e7, e8, e9]) ?_ ?_
    · walk_at "go"
      rw [show ((r : Nat) : Int) + 1 = ((r + 1 : Nat) : Int) from rfl, Int.toNat_natCast, Int.toNat_natCast]
      simp [wout, List.map_take, List.map_drop]
    rintro _ rfl
    refine AL.ess_one ?_
    refine AL.es_for hp (by walk_at "calm") ?_
    walk_at "go"
    refine ⟨fun j g => ∃ p e6 e7 e8 e9, Pl.Ok p ∧ g = [.im (scr ns), .im (.int (i : Nat)), .ls none p.ds, .im (stD L), .im (.int (r : Nat)), .im (stD (wout L r)), e6, e7, e8, e9], ⟨_, _, _, _, _, P3, rfl⟩, ?_, ?_⟩
    · rintro j d g' ej ⟨p4, e6, e7, e8, e9, P4, rfl⟩
      obtain ⟨hj, rfl⟩ := rangeD_get ej
      rw [Int.zero_add]
      have hj2 : j < L.length := by omega
      refine AL.eg_d (by walk_at "lc") (by walk_at "se") ?_
      refine AL.ess_cut (R := fun g => g = [.im (scr ns), .im (.int (i : Nat)), .ls none p4.ds, .im (stD L), .im (.int (r : Nat)), .im (stD (wout L r)), .im (.int (j : Nat)), .im (.int ((if r < j then j - 1 else j : Nat) : Int)), e8, e9]) ?_ ?_
      · walk_at "go"
        have hown : ((j : Nat) : Int) - (if decide (((r : Nat) : Int) < ((j : Nat) : Int)) = true then 1 else 0) = ((if r < j then j - 1 else j : Nat) : Int) := by
          by_cases h : r < j
          · rw [if_pos h, if_pos (by simpa using h)]; omega
          · rw [if_neg h, if_neg (by simpa using h)]; omega
        rw [hown]
      rintro _ rfl
      by_cases hjr : j = r
      · walk_at "go"
        all_goals try (exfalso; omega)
        all_goals exact ⟨_, _, _, _, _, P4, rfl⟩
      · have NL := none_less_ok OL hr hj2 hjr
        have hown : (if r < j then j - 1 else j) < (wout L r).length := by split <;> omega
        have rb := (OL1.rb hr).mono (m := 4000) (by decide)
        refine AL.ess_cut (R := fun g => g = [.im (scr ns), .im (.int (i : Nat)), .ls none p4.ds, .im (stD L), .im (.int (r : Nat)), .im (stD (wout L r)), .im (.int (j : Nat)), .im (.int ((if r < j then j - 1 else j : Nat) : Int)), e8, e9]) ?_ ?_
        · walk_at "go"
          all_goals first | rfl | (exfalso; omega)
        rintro _ rfl
        by_cases hs : 1 < siz L r ∧ L.length < 12
        · have hw : 0 < siz L r - 1 := by omega
          have hsz := OL.sz hr
          unfold Sz at hsz
          have hv : siz L r - 1 < 2 ^ 40 := by omega
          have v0 := pick_nn (p := p4) hw
          have v1 := pick_lt (p := p4) hw
          have s0 : 1 ≤ 1 + pick p4 (siz L r - 1) := by omega
          have s1 : 1 + pick p4 (siz L r - 1) < siz L r := by omega
          have hl12 := hs.2
          have OP := parted_ok OL1 hr hl12 s0 s1
          have hPl : j < (parted L r (1 + pick p4 (siz L r - 1))).length := by rw [parted_len hr]; omega
          obtain ⟨M1, M2⟩ := split_more OL hr hj2 hjr s0 s1
          rw [← fr_lt] at M1
          rw [← fr_lt, Ne, ← fr_eq] at M2
          have z1 := ext_rb (up := true) OL1 hj2
          have z2 := ext_rb (up := true) OP hPl
          have y1 := z1.1
          have y2 := z1.2
          have y3 := z2.1
          have y4 := z2.2
          have t1 := (OL1.rb hj2).1.mono (m := 4000) (by decide)
          have t2 := (OL1.rb hj2).2.mono (m := 4000) (by decide)
          have u1 := rb.1
          have u2 := rb.2
          walk_at "go"
          all_goals first | exact ⟨_, _, _, _, _, left_ok P4 hw, rfl⟩ | exact ⟨_, _, _, _, _, P4, rfl⟩ | (exfalso; first | exact M1 (by assumption) | exact absurd (by assumption) (M2 (by assumption)) | omega) | skip
        · walk_at "go"
          all_goals first | exact ⟨_, _, _, _, _, P4, rfl⟩ | (exfalso; omega) | skip
    · rintro g' ⟨p4, e6, e7, e8, e9, P4, rfl⟩
      walk_at "go"
      exact ⟨_, _, _, _, _, _, _, _, _, rfl⟩
  · rintro g' ⟨e1, e2, e3, e4, e5, e6, e7, e8, e9, rfl⟩
    walk_at "go"
    rfl
local macro_rules | `(tactic| walk_at "con") => `(tactic| ((with_reducible show S_law _ _); unfold S_law; exact ⟨_, rfl, rfl⟩))
end T73
namespace T73
open PySem PySem.Spec L2 AL
/-! ### the end -/
theorem sp_law {K : PySem.W.Frag} {H : Hp} {a : Addr} {ns : List Int} (hl : ns.length ≤ 63) (hS : SqL K H a (ns.map V.int)) : spR K 1 S_law [.ref a] H (fun v _ => v = .bl true) (fun _ _ _ => False) := by
  refine ⟨rfl, H, [.d (AL.scr ns)], .bool true, Same.refl _, .cons (Dd.scr hS) .nil, ⟨ns, rfl, hl, rfl⟩, fun v H' Z' _ _ _ _ d => ?_⟩
  cases d; rfl
theorem facts {P : Program} {w : World} {K : PySem.W.Frag} {h : Heap} {mg : Str → Option Value} {f : Addr} (X : K.In h) (G : h.Ns mainGlobals mg) (hfa : mg ("law" : Str) = some (.ref f)) (c : He.SaysD fa fn K) :
    ∃ fd : FuncData, (∀ (s : Shared) (v : Value), BindsTo s fd ⟨[v], []⟩ [("_law_script", v)]) ∧ ∀ base : Heap, K.In base → base.Ns mainGlobals mg → FnOk P w K mg base CX0 10 f fd ["_law_script"] (spR K 1 S_law) := by
  obtain ⟨fd_is_integer, F_is_integer⟩ := c.def_ 0 (d := d_is_integer) rfl
  obtain ⟨fd_in_range, F_in_range⟩ := c.def_ 1 (d := d_in_range) rfl
  obtain ⟨fd_gcd, F_gcd⟩ := c.def_ 2 (d := d_gcd) rfl
  obtain ⟨fd_is_fraction, F_is_fraction⟩ := c.def_ 3 (d := d_is_fraction) rfl
  obtain ⟨fd_reduced, F_reduced⟩ := c.def_ 4 (d := d_reduced) rfl
  obtain ⟨fd_fraction_sum, F_fraction_sum⟩ := c.def_ 5 (d := d_fraction_sum) rfl
  obtain ⟨fd_fraction_product, F_fraction_product⟩ := c.def_ 6 (d := d_fraction_product) rfl
  obtain ⟨fd_is_lower, F_is_lower⟩ := c.def_ 7 (d := d_is_lower) rfl
  obtain ⟨fd_is_higher, F_is_higher⟩ := c.def_ 8 (d := d_is_higher) rfl
  obtain ⟨fd_is_valid_size, F_is_valid_size⟩ := c.def_ 9 (d := d_is_valid_size) rfl
  obtain ⟨fd_is_valid_block, F_is_valid_block⟩ := c.def_ 10 (d := d_is_valid_block) rfl
  obtain ⟨fd_check_each, F_check_each⟩ := c.def_ 11 (d := d_check_each) rfl
  obtain ⟨fd_check_state, F_check_state⟩ := c.def_ 12 (d := d_check_state) rfl
  obtain ⟨fd_check_block, F_check_block⟩ := c.def_ 13 (d := d_check_block) rfl
  obtain ⟨fd_mixed_temperature, F_mixed_temperature⟩ := c.def_ 14 (d := d_mixed_temperature) rfl
  obtain ⟨fd_check_state_and_block, F_check_state_and_block⟩ := c.def_ 15 (d := d_check_state_and_block) rfl
  obtain ⟨fd_temperature_after, F_temperature_after⟩ := c.def_ 16 (d := d_temperature_after) rfl
  obtain ⟨fd_comes_before, F_comes_before⟩ := c.def_ 17 (d := d_comes_before) rfl
  obtain ⟨fd_ordered_others, F_ordered_others⟩ := c.def_ 18 (d := d_ordered_others) rfl
  obtain ⟨fd_extreme, F_extreme⟩ := c.def_ 19 (d := d_extreme) rfl
  obtain ⟨fd_warmest, F_warmest⟩ := c.def_ 20 (d := d_warmest) rfl
  obtain ⟨fd_coldest, F_coldest⟩ := c.def_ 21 (d := d_coldest) rfl
  obtain ⟨fd_check_part, F_check_part⟩ := c.def_ 22 (d := d_check_part) rfl
  obtain ⟨fd_split, F_split⟩ := c.def_ 23 (d := d_split) rfl
  obtain ⟨fd_w_pool, F_w_pool⟩ := c.def_ 24 (d := d_w_pool) rfl
  obtain ⟨fd_w_take, F_w_take⟩ := c.def_ 25 (d := d_w_take) rfl
  obtain ⟨fd_w_low, F_w_low⟩ := c.def_ 26 (d := d_w_low) rfl
  obtain ⟨fd_w_less, F_w_less⟩ := c.def_ 27 (d := d_w_less) rfl
  obtain ⟨fd_w_share, F_w_share⟩ := c.def_ 28 (d := d_w_share) rfl
  obtain ⟨fd_w_lot, F_w_lot⟩ := c.def_ 29 (d := d_w_lot) rfl
  obtain ⟨fd_w_none_less, F_w_none_less⟩ := c.def_ 30 (d := d_w_none_less) rfl
  obtain ⟨fd_law, F_law⟩ := c.def_ 31 (d := d_law) rfl
  have e := hfa.symm.trans (He.glo_ok X G (c.fact 31 (f := .glo "law") rfl))
  cases e
  have b := FunD.bindsA (ps := ["_law_script"]) F_law fun _ _ _ _ _ _ us hl => match us, hl with | [_], _ => rfl
  refine ⟨fd_law, fun s v => b s [v] rfl, fun base _ _ => ?_⟩
  have c_is_integer := Callable.mk (P := P) (w := w) (base := base) (mg := mg) ⟨_, _, _, ok_is_integer F_is_integer (He.free_ok X G (c.fact 38 (f := .free "isinstance") rfl)) (He.free_ok X G (c.fact 37 (f := .free "int") rfl)) (He.free_ok X G (c.fact 35 (f := .free "bool") rfl)), He.glo_ok X G (c.fact 0 (f := .glo "is_integer") rfl), F_is_integer.kp, FunD.bindsN F_is_integer fun _ _ _ _ _ _ us hl => match us, hl with | [_], _ => rfl⟩
  have c_in_range := Callable.mk (P := P) (w := w) (base := base) (mg := mg) ⟨_, _, _, ok_in_range F_in_range c_is_integer, He.glo_ok X G (c.fact 1 (f := .glo "in_range") rfl), F_in_range.kp, FunD.bindsN F_in_range fun _ _ _ _ _ _ us hl => match us, hl with | [_, _, _], _ => rfl⟩
  have c_gcd := Callable.mk (P := P) (w := w) (base := base) (mg := mg) ⟨_, _, _, ok_gcd F_gcd (He.free_ok X G (c.fact 34 (f := .free "abs") rfl)), He.glo_ok X G (c.fact 2 (f := .glo "gcd") rfl), F_gcd.kp, FunD.bindsN F_gcd fun _ _ _ _ _ _ us hl => match us, hl with | [_, _], _ => rfl⟩
  have c_is_fraction := Callable.mk (P := P) (w := w) (base := base) (mg := mg) ⟨_, _, _, ok_is_fraction F_is_fraction c_is_integer c_gcd (He.free_ok X G (c.fact 38 (f := .free "isinstance") rfl)) (He.free_ok X G (c.fact 43 (f := .free "tuple") rfl)) (He.free_ok X G (c.fact 39 (f := .free "len") rfl)), He.glo_ok X G (c.fact 3 (f := .glo "is_fraction") rfl), F_is_fraction.kp, FunD.bindsN F_is_fraction fun _ _ _ _ _ _ us hl => match us, hl with | [_], _ => rfl⟩
  have c_reduced := Callable.mk (P := P) (w := w) (base := base) (mg := mg) ⟨_, _, _, ok_reduced F_reduced c_gcd, He.glo_ok X G (c.fact 4 (f := .glo "reduced") rfl), F_reduced.kp, FunD.bindsN F_reduced fun _ _ _ _ _ _ us hl => match us, hl with | [_, _], _ => rfl⟩
  have c_fraction_sum := Callable.mk (P := P) (w := w) (base := base) (mg := mg) ⟨_, _, _, ok_fraction_sum F_fraction_sum c_reduced, He.glo_ok X G (c.fact 5 (f := .glo "fraction_sum") rfl), F_fraction_sum.kp, FunD.bindsN F_fraction_sum fun _ _ _ _ _ _ us hl => match us, hl with | [_, _], _ => rfl⟩
  have c_fraction_product := Callable.mk (P := P) (w := w) (base := base) (mg := mg) ⟨_, _, _, ok_fraction_product F_fraction_product c_reduced, He.glo_ok X G (c.fact 6 (f := .glo "fraction_product") rfl), F_fraction_product.kp, FunD.bindsN F_fraction_product fun _ _ _ _ _ _ us hl => match us, hl with | [_, _], _ => rfl⟩
  have c_is_lower := Callable.mk (P := P) (w := w) (base := base) (mg := mg) ⟨_, _, _, ok_is_lower F_is_lower, He.glo_ok X G (c.fact 7 (f := .glo "is_lower") rfl), F_is_lower.kp, FunD.bindsN F_is_lower fun _ _ _ _ _ _ us hl => match us, hl with | [_, _], _ => rfl⟩
  have c_is_higher := Callable.mk (P := P) (w := w) (base := base) (mg := mg) ⟨_, _, _, ok_is_higher F_is_higher c_is_lower, He.glo_ok X G (c.fact 8 (f := .glo "is_higher") rfl), F_is_higher.kp, FunD.bindsN F_is_higher fun _ _ _ _ _ _ us hl => match us, hl with | [_, _], _ => rfl⟩
  have c_is_valid_size := Callable.mk (P := P) (w := w) (base := base) (mg := mg) ⟨_, _, _, ok_is_valid_size F_is_valid_size c_in_range (He.int_ok X G (c.fact 33 (f := .int "MAX_SIZE" 99) rfl)), He.glo_ok X G (c.fact 9 (f := .glo "is_valid_size") rfl), F_is_valid_size.kp, FunD.bindsN F_is_valid_size fun _ _ _ _ _ _ us hl => match us, hl with | [_], _ => rfl⟩
  have c_is_valid_block := Callable.mk (P := P) (w := w) (base := base) (mg := mg) ⟨_, _, _, ok_is_valid_block F_is_valid_block c_is_valid_size c_is_fraction (He.free_ok X G (c.fact 38 (f := .free "isinstance") rfl)) (He.free_ok X G (c.fact 43 (f := .free "tuple") rfl)) (He.free_ok X G (c.fact 39 (f := .free "len") rfl)), He.glo_ok X G (c.fact 10 (f := .glo "is_valid_block") rfl), F_is_valid_block.kp, FunD.bindsN F_is_valid_block fun _ _ _ _ _ _ us hl => match us, hl with | [_], _ => rfl⟩
  have c_check_each := Callable.mk (P := P) (w := w) (base := base) (mg := mg) ⟨_, _, _, ok_check_each F_check_each (He.int_ok X G (c.fact 32 (f := .int "MAX_BLOCKS" 12) rfl)) (He.free_ok X G (c.fact 38 (f := .free "isinstance") rfl)) (He.free_ok X G (c.fact 43 (f := .free "tuple") rfl)) (He.free_ok X G (c.fact 39 (f := .free "len") rfl)) (He.free_ok X G (c.fact 36 (f := .free "enumerate") rfl)), He.glo_ok X G (c.fact 11 (f := .glo "check_each") rfl), F_check_each.kp, FunD.bindsN F_check_each fun _ _ _ _ _ _ us hl => match us, hl with | [_, _], _ => rfl⟩
  have c_check_state := Callable.mk (P := P) (w := w) (base := base) (mg := mg) ⟨_, _, _, ok_check_state F_check_state c_check_each c_is_valid_block, He.glo_ok X G (c.fact 12 (f := .glo "check_state") rfl), F_check_state.kp, FunD.bindsN F_check_state fun _ _ _ _ _ _ us hl => match us, hl with | [_], _ => rfl⟩
  have c_check_block := Callable.mk (P := P) (w := w) (base := base) (mg := mg) ⟨_, _, _, ok_check_block F_check_block c_in_range, He.glo_ok X G (c.fact 13 (f := .glo "check_block") rfl), F_check_block.kp, FunD.bindsN F_check_block fun _ _ _ _ _ _ us hl => match us, hl with | [_, _], _ => rfl⟩
  have c_mixed_temperature := Callable.mk (P := P) (w := w) (base := base) (mg := mg) ⟨_, _, _, ok_mixed_temperature F_mixed_temperature c_fraction_sum c_fraction_product c_reduced, He.glo_ok X G (c.fact 14 (f := .glo "mixed_temperature") rfl), F_mixed_temperature.kp, FunD.bindsN F_mixed_temperature fun _ _ _ _ _ _ us hl => match us, hl with | [_, _], _ => rfl⟩
  have c_check_state_and_block := Callable.mk (P := P) (w := w) (base := base) (mg := mg) ⟨_, _, _, ok_check_state_and_block F_check_state_and_block c_check_state c_check_block (He.free_ok X G (c.fact 39 (f := .free "len") rfl)), He.glo_ok X G (c.fact 15 (f := .glo "check_state_and_block") rfl), F_check_state_and_block.kp, FunD.bindsN F_check_state_and_block fun _ _ _ _ _ _ us hl => match us, hl with | [_, _], _ => rfl⟩
  have c_temperature_after := Callable.mk (P := P) (w := w) (base := base) (mg := mg) ⟨_, _, _, ok_temperature_after F_temperature_after c_mixed_temperature, He.glo_ok X G (c.fact 16 (f := .glo "temperature_after") rfl), F_temperature_after.kp, FunD.bindsN F_temperature_after fun _ _ _ _ _ _ us hl => match us, hl with | [_, _, _, _], _ => rfl⟩
  have c_comes_before := Callable.mk (P := P) (w := w) (base := base) (mg := mg) ⟨_, _, _, ok_comes_before F_comes_before, He.glo_ok X G (c.fact 17 (f := .glo "comes_before") rfl), F_comes_before.kp, FunD.bindsN F_comes_before fun _ _ _ _ _ _ us hl => match us, hl with | [_, _, _, _], _ => rfl⟩
  have c_ordered_others := Callable.mk (P := P) (w := w) (base := base) (mg := mg) ⟨_, _, _, ok_ordered_others F_ordered_others c_comes_before (He.free_ok X G (c.fact 42 (f := .free "range") rfl)) (He.free_ok X G (c.fact 39 (f := .free "len") rfl)), He.glo_ok X G (c.fact 18 (f := .glo "ordered_others") rfl), F_ordered_others.kp, FunD.bindsN F_ordered_others fun _ _ _ _ _ _ us hl => match us, hl with | [_, _, _], _ => rfl⟩
  have c_extreme := Callable.mk (P := P) (w := w) (base := base) (mg := mg) ⟨_, _, _, ok_extreme F_extreme c_ordered_others c_temperature_after, He.glo_ok X G (c.fact 19 (f := .glo "extreme") rfl), F_extreme.kp, FunD.bindsN F_extreme fun _ _ _ _ _ _ us hl => match us, hl with | [_, _, _], _ => rfl⟩
  have c_warmest := Callable.mk (P := P) (w := w) (base := base) (mg := mg) ⟨_, _, _, ok_warmest F_warmest c_check_state_and_block c_extreme c_is_lower, He.glo_ok X G (c.fact 20 (f := .glo "warmest") rfl), F_warmest.kp, FunD.bindsN F_warmest fun _ _ _ _ _ _ us hl => match us, hl with | [_, _], _ => rfl⟩
  have c_coldest := Callable.mk (P := P) (w := w) (base := base) (mg := mg) ⟨_, _, _, ok_coldest F_coldest c_check_state_and_block c_extreme c_is_higher, He.glo_ok X G (c.fact 21 (f := .glo "coldest") rfl), F_coldest.kp, FunD.bindsN F_coldest fun _ _ _ _ _ _ us hl => match us, hl with | [_, _], _ => rfl⟩
  have c_check_part := Callable.mk (P := P) (w := w) (base := base) (mg := mg) ⟨_, _, _, ok_check_part F_check_part c_in_range, He.glo_ok X G (c.fact 22 (f := .glo "check_part") rfl), F_check_part.kp, FunD.bindsN F_check_part fun _ _ _ _ _ _ us hl => match us, hl with | [_, _], _ => rfl⟩
  have c_split := Callable.mk (P := P) (w := w) (base := base) (mg := mg) ⟨_, _, _, ok_split F_split c_check_state_and_block c_check_part (He.int_ok X G (c.fact 32 (f := .int "MAX_BLOCKS" 12) rfl)) (He.free_ok X G (c.fact 39 (f := .free "len") rfl)), He.glo_ok X G (c.fact 23 (f := .glo "split") rfl), F_split.kp, FunD.bindsN F_split fun _ _ _ _ _ _ us hl => match us, hl with | [_, _, _], _ => rfl⟩
  have c_w_pool := Callable.mk (P := P) (w := w) (base := base) (mg := mg) ⟨_, _, _, ok_w_pool F_w_pool (He.free_ok X G (c.fact 39 (f := .free "len") rfl)) (He.free_ok X G (c.fact 34 (f := .free "abs") rfl)) (He.free_ok X G (c.fact 37 (f := .free "int") rfl)), He.glo_ok X G (c.fact 24 (f := .glo "_law_pool") rfl), F_w_pool.kp, FunD.bindsN F_w_pool fun _ _ _ _ _ _ us hl => match us, hl with | [_, _], _ => rfl⟩
  have c_w_take := Callable.mk (P := P) (w := w) (base := base) (mg := mg) ⟨_, _, _, ok_w_take F_w_take, He.glo_ok X G (c.fact 25 (f := .glo "_law_take") rfl), F_w_take.kp, FunD.bindsN F_w_take fun _ _ _ _ _ _ us hl => match us, hl with | [_, _], _ => rfl⟩
  have c_w_low := Callable.mk (P := P) (w := w) (base := base) (mg := mg) ⟨_, _, _, ok_w_low F_w_low (He.free_ok X G (c.fact 34 (f := .free "abs") rfl)), He.glo_ok X G (c.fact 26 (f := .glo "_law_low") rfl), F_w_low.kp, FunD.bindsN F_w_low fun _ _ _ _ _ _ us hl => match us, hl with | [_, _], _ => rfl⟩
  have c_w_less := Callable.mk (P := P) (w := w) (base := base) (mg := mg) ⟨_, _, _, ok_w_less F_w_less, He.glo_ok X G (c.fact 27 (f := .glo "_law_less") rfl), F_w_less.kp, FunD.bindsN F_w_less fun _ _ _ _ _ _ us hl => match us, hl with | [_, _], _ => rfl⟩
  have c_w_share := Callable.mk (P := P) (w := w) (base := base) (mg := mg) ⟨_, _, _, ok_w_share F_w_share c_w_take c_w_low, He.glo_ok X G (c.fact 28 (f := .glo "_law_share") rfl), F_w_share.kp, FunD.bindsN F_w_share fun _ _ _ _ _ _ us hl => match us, hl with | [_], _ => rfl⟩
  have c_w_lot := Callable.mk (P := P) (w := w) (base := base) (mg := mg) ⟨_, _, _, ok_w_lot F_w_lot c_w_take c_w_share (He.free_ok X G (c.fact 42 (f := .free "range") rfl)) (He.free_ok X G (c.fact 43 (f := .free "tuple") rfl)), He.glo_ok X G (c.fact 29 (f := .glo "_law_lot") rfl), F_w_lot.kp, FunD.bindsN F_w_lot fun _ _ _ _ _ _ us hl => match us, hl with | [_, _], _ => rfl⟩
  have c_w_none_less := Callable.mk (P := P) (w := w) (base := base) (mg := mg) ⟨_, _, _, ok_w_none_less F_w_none_less c_warmest c_coldest c_w_less, He.glo_ok X G (c.fact 30 (f := .glo "_law_none_less") rfl), F_w_none_less.kp, FunD.bindsN F_w_none_less fun _ _ _ _ _ _ us hl => match us, hl with | [_, _, _, _, _], _ => rfl⟩
  exact ok_law F_law c_w_pool c_w_take c_w_lot c_split c_w_less c_w_share c_w_none_less c_warmest (He.free_ok X G (c.fact 42 (f := .free "range") rfl)) (He.free_ok X G (c.fact 40 (f := .free "max") rfl)) (He.free_ok X G (c.fact 41 (f := .free "min") rfl)) (He.free_ok X G (c.fact 39 (f := .free "len") rfl)) (He.free_ok X G (c.fact 37 (f := .free "int") rfl))
end T73
open PySem PySem.W PySem.Calls PyProof.Rows
theorem PySem.Challenge.cw_warmthbytouch_k73_whole_insertion_and_re_holds : PySem.Challenge.rw_warmthbytouch_k73_whole_insertion_and_re.Holds := by
  w_on; o_law
  refine HandSHeadRun.head_any (r := OpenLaw.row PySem.Challenge.rw_warmthbytouch_k73_whole_insertion_and_re) (q := view (OpenLaw.row PySem.Challenge.rw_warmthbytouch_k73_whole_insertion_and_re).prog [44]) (H := T73.hk) (ob := T73.ob) (M := 20000) (loose := T73.loose) (d := HandSHeadRun.topDef (OpenLaw.row PySem.Challenge.rw_warmthbytouch_k73_whole_insertion_and_re).prog 44) (kwd := []) T73.ob_eq
    (by kernel_rfl) (fun s => by kernel_rfl) T73.run (by kernel_rfl) (by kernel_rfl) (by kernel_rfl) (by rfl) (by first | assumption | decide +kernel) (by decide +kernel) ⟨rfl, rfl, rfl, rfl, rfl, by decide +kernel⟩ ?hw ?hc
  case hw => w_witness2
  case hc =>
    refine L2.walk_ofE (l := PySem.Challenge.rw_warmthbytouch_k73_whole_insertion_and_re) (n := 63) (k := 10) (x := "_law_script") (CX := L2.CX0) rfl (by decide) (by kernel_rfl) ⟨rfl, by decide, by decide⟩ ?F (fun _ _ _ _ z => z)
    intro w mg fa h Y G hmg0
    obtain ⟨K, KX, c⟩ := Y
    have hmg : mg ("law" : PySem.Str) = some (.ref fa) := by
      have e : (HandSHeadRun.topDef (OpenLaw.row PySem.Challenge.rw_warmthbytouch_k73_whole_insertion_and_re).prog 44).name = ("law" : PySem.Str) := by kernel_rfl
      rw [← e]
      exact hmg0
    obtain ⟨fd, hb, hF⟩ := T73.facts (P := (PySem.Challenge.rw_warmthbytouch_k73_whole_insertion_and_re).prog) (w := w) KX G hmg c
    exact ⟨K, fd, _, KX, hb, fun H a ns hl _ hS => T73.sp_law hl hS, hF⟩
