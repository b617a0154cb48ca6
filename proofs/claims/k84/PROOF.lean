import PyProof.Rows.All
import Wide.All
import OpenK.AllK
import Wide.FinOn
import KE.KStateDown
import HandS.Base
import HandS.Call
import HandS.List
import HandS.Comp
import HandS.Ends
import HandS.Iter
import HandS.Walk
import HandS.Conv
import HandS.Wide
import HandS.IsInst
import HandS.CallLocal
import HandS.Words
import HandS.WordsExc
import HandS.Defaults
import HandS.Lambda
import KE.KDictKeyed
import HandS.Dict
import KE.GoesEnum
import HandS.Zip
import HandS.TupAny
import HandS.More
import PyProof.ReprRoads
import HandS.EndTab
import HandS.HeadHook4
import PyProof.P3In
import HandS.Sort
import KE.DataMinMax
import HandS.SetFor
import HandS.TupSets
import HandS.Strs
import HandS.Style
import KE.KDictDisplayH
import HandS.WideMore
import KE.DataFind
import HandS.Text
import KE.KTupSum
import PySem.Challenge.RW_warmthbytouch_k84_whole_game
import HandS.Head0
import HandS.Head1
import HandS.Head2
import HandS.HeadEnd
import HandS.HeadHook1
import HandS.HeadHook2
set_option Elab.async false
set_option linter.all false
set_option maxRecDepth 100000
set_option maxHeartbeats 0
/-! A layer over the hand layer: defs read as functions of plain data. Slots hold data (frozen: never changed again), or a list of the def's own that may change; no addresses are told. -/
namespace AL
open PySem PySem.Spec L2

/-! ### data on the heap -/
mutual
inductive Dd (K : PySem.W.Frag) (Z : Hp) : V → PyData → Prop
  | non : Dd K Z .non .none
  | bl (b : Bool) : Dd K Z (.bl b) (.bool b)
  | int (i : Int) : Dd K Z (.int i) (.int i)
  | str (x : Str) : Dd K Z (.str x) (.str x)
  | lst {a : Addr} {xs : List V} {ds : List PyData} : Z a = some (.lst xs) → DdA K Z xs ds → Dd K Z (.ref a) (.list ds)
  | tup {a : Addr} {xs : List V} {ds : List PyData} : SqT K Z a xs → DdA K Z xs ds → Dd K Z (.ref a) (.tuple ds)
  /-- a list of ints that is only read (the script); told as a dict, which is never data else -/
  | scr {a : Addr} {ns : List Int} : SqL K Z a (ns.map V.int) → Dd K Z (.ref a) (.dict (ns.map fun n => (.int n, .none)))
  /-- the empty dict, only read; told by an entry that no script has -/
  | dct {a : Addr} : Z a = some (.dK []) → Dd K Z (.ref a) (.dict [(.none, .none)])
inductive DdA (K : PySem.W.Frag) (Z : Hp) : List V → List PyData → Prop
  | nil : DdA K Z [] []
  | cons {v : V} {vs : List V} {d : PyData} {ds : List PyData} : Dd K Z v d → DdA K Z vs ds → DdA K Z (v :: vs) (d :: ds)
end
mutual
def nol : PyData → Bool
  | .list _ => false
  | .dict _ => false
  | .tuple ds => nolA ds
  | _ => true
def nolA : List PyData → Bool
  | [] => true
  | d :: ds => nol d && nolA ds
end
def scr (ns : List Int) : PyData := .dict (ns.map fun n => (.int n, .none))
section
variable {K : PySem.W.Frag} {Z Z' H H' : Hp}
theorem Same.seqT {a : Addr} {xs : List V} (e : Same Z Z') (h : SqT K Z a xs) : SqT K Z' a xs := by
  rcases h with (h | ⟨o, h⟩) | h
  · exact .inl (.inl (e _ _ h))
  · exact .inl (.inr ⟨o, e _ _ h⟩)
  · exact .inr h
mutual
theorem Dd.mono (e : Same Z Z') : ∀ (d : PyData) (v : V), Dd K Z v d → Dd K Z' v d
  | .none, _, h => by cases h; exact .non
  | .bool b, _, h => by cases h; exact .bl b
  | .int i, _, h => by cases h; exact .int i
  | .str x, _, h => by cases h; exact .str x
  | .list ds, _, h => by
    cases h with
    | lst h1 h2 => exact .lst (e _ _ h1) (DdA.mono e ds _ h2)
  | .tuple ds, _, h => by
    cases h with
    | tup h1 h2 => exact .tup (Same.seqT e h1) (DdA.mono e ds _ h2)
  | .dict _, _, h => by
    cases h with
    | scr h1 => exact .scr (Same.seq e h1)
    | dct h1 => exact .dct (e _ _ h1)
theorem DdA.mono (e : Same Z Z') : ∀ (ds : List PyData) (vs : List V), DdA K Z vs ds → DdA K Z' vs ds
  | [], _, h => by cases h; exact .nil
  | d :: ds, _, h => by
    cases h with
    | cons h1 h2 => exact .cons (Dd.mono e d _ h1) (DdA.mono e ds _ h2)
end
mutual
theorem Dd.tups (e : ∀ a xs, SqT K Z a xs → SqT K Z' a xs) : ∀ (d : PyData) (v : V), nol d = true → Dd K Z v d → Dd K Z' v d
  | .none, _, _, h => by cases h; exact .non
  | .bool b, _, _, h => by cases h; exact .bl b
  | .int i, _, _, h => by cases h; exact .int i
  | .str x, _, _, h => by cases h; exact .str x
  | .list ds, _, n, h => by simp [nol] at n
  | .tuple ds, _, n, h => by
    cases h with
    | tup h1 h2 => exact .tup (e _ _ h1) (DdA.tups e ds _ (by simpa [nol] using n) h2)
  | .dict _, _, n, h => by simp [nol] at n
theorem DdA.tups (e : ∀ a xs, SqT K Z a xs → SqT K Z' a xs) : ∀ (ds : List PyData) (vs : List V), nolA ds = true → DdA K Z vs ds → DdA K Z' vs ds
  | [], _, _, h => by cases h; exact .nil
  | d :: ds, _, n, h => by
    have n' : nol d = true ∧ nolA ds = true := by simpa [nolA] using n
    cases h with
    | cons h1 h2 => exact .cons (Dd.tups e d _ n'.1 h1) (DdA.tups e ds _ n'.2 h2)
end
mutual
theorem Dd.dp (e : Same Z H) : ∀ (d : PyData) (v : V), d.canLay0 = true → Dd K Z v d → Dp K H v d
  | .none, _, _, h => by cases h; exact .non
  | .bool b, _, _, h => by cases h; exact .bl b
  | .int i, _, _, h => by cases h; exact .int i
  | .str x, _, _, h => by cases h; exact .str x
  | .list ds, _, n, h => by
    cases h with
    | lst h1 h2 => exact .lst (SqL.of (e _ _ h1)) (DdA.dp e ds _ (by simpa [PyData.canLay0] using n) h2)
  | .tuple ds, _, n, h => by
    cases h with
    | tup h1 h2 => exact .tup (Same.seqT e h1) (DdA.dp e ds _ (by simpa [PyData.canLay0] using n) h2)
  | .dict _, _, n, h => by simp [PyData.canLay0] at n
theorem DdA.dp (e : Same Z H) : ∀ (ds : List PyData) (vs : List V), PyData.canLayAll0 ds = true → DdA K Z vs ds → DpAll K H vs ds
  | [], _, _, h => by cases h; exact .nil
  | d :: ds, _, n, h => by
    have n' : d.canLay0 = true ∧ PyData.canLayAll0 ds = true := by simpa [PyData.canLayAll0] using n
    cases h with
    | cons h1 h2 => exact .cons (Dd.dp e d _ n'.1 h1) (DdA.dp e ds _ n'.2 h2)
end
theorem DdA.length : ∀ {ds : List PyData} {vs : List V}, DdA K Z vs ds → vs.length = ds.length
  | [], _, h => by cases h; rfl
  | d :: ds, _, h => by
    cases h with
    | cons h1 h2 => simp [DdA.length h2]
theorem DdA.get : ∀ {ds : List PyData} {vs : List V} {i : Nat} {d : PyData}, DdA K Z vs ds → ds[i]? = some d → ∃ v, vs[i]? = some v ∧ Dd K Z v d
  | [], _, _, _, _, e => by simp at e
  | d :: ds, _, 0, _, h, e => by
    cases h with
    | cons h1 h2 => simp at e; subst e; exact ⟨_, rfl, h1⟩
  | d :: ds, _, i + 1, _, h, e => by
    cases h with
    | cons h1 h2 =>
      obtain ⟨v, e1, e2⟩ := DdA.get h2 (by simpa using e)
      exact ⟨v, by simpa using e1, e2⟩
theorem DdA.getV : ∀ {ds : List PyData} {vs : List V} {i : Nat} {v : V}, DdA K Z vs ds → vs[i]? = some v → ∃ d, ds[i]? = some d ∧ Dd K Z v d
  | [], _, _, _, h, e => by cases h; simp at e
  | d :: ds, _, 0, _, h, e => by
    cases h with
    | cons h1 h2 => simp at e; subst e; exact ⟨_, rfl, h1⟩
  | d :: ds, _, i + 1, _, h, e => by
    cases h with
    | cons h1 h2 =>
      obtain ⟨v, e1, e2⟩ := DdA.getV h2 (by simpa using e)
      exact ⟨v, by simpa using e1, e2⟩
theorem DdA.append : ∀ {ds es : List PyData} {vs ws : List V}, DdA K Z vs ds → DdA K Z ws es → DdA K Z (vs ++ ws) (ds ++ es)
  | [], _, _, _, h, k => by cases h; exact k
  | d :: ds, _, _, _, h, k => by
    cases h with
    | cons h1 h2 => exact .cons h1 (DdA.append h2 k)
theorem DdA.set : ∀ {ds : List PyData} {vs : List V} {v : V} {d : PyData} (i : Nat), DdA K Z vs ds → Dd K Z v d → DdA K Z (vs.set i v) (ds.set i d)
  | [], _, _, _, _, h, _ => by cases h; exact .nil
  | d :: ds, _, _, _, 0, h, k => by
    cases h with
    | cons h1 h2 => exact .cons k h2
  | d :: ds, _, _, _, i + 1, h, k => by
    cases h with
    | cons h1 h2 => exact .cons h1 (DdA.set i h2 k)
theorem DdA.take : ∀ {ds : List PyData} {vs : List V} (i : Nat), DdA K Z vs ds → DdA K Z (vs.take i) (ds.take i)
  | [], _, _, h => by cases h; simpa using DdA.nil
  | d :: ds, _, 0, h => by simpa using DdA.nil
  | d :: ds, _, i + 1, h => by
    cases h with
    | cons h1 h2 => exact .cons h1 (DdA.take i h2)
theorem DdA.drop : ∀ {ds : List PyData} {vs : List V} (i : Nat), DdA K Z vs ds → DdA K Z (vs.drop i) (ds.drop i)
  | [], _, _, h => by cases h; simpa using DdA.nil
  | d :: ds, _, 0, h => by simpa using h
  | d :: ds, _, i + 1, h => by
    cases h with
    | cons h1 h2 => exact DdA.drop i h2
theorem DdA.ints : ∀ {vs : List V} {is : List Int}, DdA K Z vs (is.map PyData.int) → vs = is.map V.int
  | _, [], h => by cases h; rfl
  | _, i :: is, h => by
    cases h with
    | cons h1 h2 => cases h1; rw [DdA.ints h2]; rfl
end

/-! ### dicts of the body's own, whose keys are tuples -/
mutual
def nk : PyData → Option NestedKey
  | .none => some .none
  | .int i => some (.num i)
  | .tuple ds => (nkA ds).map .tup
  | _ => none
def nkA : List PyData → Option (List NestedKey)
  | [] => some []
  | d :: ds => match nk d, nkA ds with
    | some k, some ks => some (k :: ks)
    | _, _ => none
end
/-- the dict's object, as the heap tells it -/
def DicO (a : Addr) (o : Obj) : HO := .ext fun h => h.get? a = some o
abbrev DX := NestedKey × Addr × Value
def DxOk (K : PySem.W.Frag) (Z : Hp) (x : DX) (kv : PyData × PyData) : Prop := nk kv.1 = some x.1 ∧ x.1.depth ≤ 8 ∧ Dd K Z (.ref x.2.1) kv.1 ∧ ∃ v, RelV v x.2.2 ∧ Dd K Z v kv.2
structure DicOk (K : PySem.W.Frag) (Z : Hp) (a : Addr) (o : Obj) (kvs : List (PyData × PyData)) : Prop where
  sm : (a == sysModules) = false
  ed : o.ExactDict
  ex : ∃ (es : Array DictEntry) (ep : Nat) (xs : List DX), o.data = .dict es ep ∧ (∀ w : World, es.toList = xs.map fun x => (⟨x.1.hash w, .ref x.2.1, x.2.2⟩ : DictEntry)) ∧ (xs.map (·.1)).Nodup ∧ Paired (DxOk K Z) xs kvs
theorem DxOk.mono {K : PySem.W.Frag} {Z Z' : Hp} (e : Same Z Z') {x : DX} {kv : PyData × PyData} (h : DxOk K Z x kv) : DxOk K Z' x kv := by
  obtain ⟨h1, h2, h3, v, h4, h5⟩ := h
  exact ⟨h1, h2, Dd.mono e _ _ h3, v, h4, Dd.mono e _ _ h5⟩
theorem DicOk.mono {K : PySem.W.Frag} {Z Z' : Hp} {a : Addr} {o : Obj} {kvs : List (PyData × PyData)} (e : Same Z Z') (h : DicOk K Z a o kvs) : DicOk K Z' a o kvs := by
  obtain ⟨h1, h2, es, ep, xs, h3, h4, h5, h6⟩ := h
  exact ⟨h1, h2, es, ep, xs, h3, h4, h5, Paired.mapP h6 fun _ _ q => q.mono e⟩
theorem dic_ne_lst {a : Addr} {o : Obj} {xs : List V} : DicO a o ≠ .lst xs := fun z => by unfold DicO at z; cases z
theorem dic_ne_tbl {a : Addr} {o : Obj} {ps : Array Value} : DicO a o ≠ .tbl ps := fun z => by unfold DicO at z; cases z
theorem dic_ne {H : Hp} {a b : Addr} {o : Obj} {xs : List V} (h : H b = some (DicO b o)) (k : H a = some (.lst xs)) : b ≠ a := fun z => by
  subst z
  rw [h] at k
  exact dic_ne_lst (Option.some.inj k)

/-! ### the state of a body -/
inductive Ent where
  /-- nothing is told -/
  | no
  /-- frozen data -/
  | im (d : PyData)
  /-- a list of its own (none), or the k-th that was handed in to be changed -/
  | ls (w : Option Nat) (ds : List PyData)
  /-- a value as it is: a def, a class -/
  | vl (v : V)
  /-- a dict of its own (none), or the k-th that was handed in to be changed -/
  | dc (w : Option Nat) (kvs : List (PyData × PyData))
abbrev Gm := List Ent
/-- the entry: the heap, its frozen part, the lists handed in to be changed -/
structure Ct where
  H0 : Hp
  Z0 : Hp
  W : List Addr
  /-- tables of code objects, which a lambda's making may lengthen -/
  T : List (Addr × Str)
def OwnOk (C : Ct) : Option Nat → Addr → Prop
  | none, a => C.H0 a = none
  | some k, a => C.W[k]? = some a
def EntOk (K : PySem.W.Frag) (C : Ct) (H Z : Hp) (sv : Option (Option V)) : Ent → Prop
  | .no => True
  | .im d => ∃ v, sv = some (some v) ∧ Dd K Z v d
  | .ls w ds => ∃ a xs, sv = some (some (V.ref a)) ∧ H a = some (.lst xs) ∧ Z a = none ∧ DdA K Z xs ds ∧ OwnOk C w a
  | .vl v => sv = some (some v)
  | .dc w kvs => ∃ a o, sv = some (some (V.ref a)) ∧ H a = some (DicO a o) ∧ DicOk K Z a o kvs ∧ Z a = none ∧ OwnOk C w a ∧ kvs.length ≤ 1000000
structure Ok (K : PySem.W.Frag) (C : Ct) (g : Gm) (σ : St) (H Z : Hp) : Prop where
  ln : g.length = σ.length
  fz : Same Z H
  fr : ∀ (a : Addr) (o : HO), C.H0 a = some o → a ∉ C.W → a ∉ C.T.map (·.1) → H a = some o
  z0 : Same C.Z0 Z
  nw : ∀ (a : Addr) (o : HO), Z a = some o → C.Z0 a = some o ∨ C.H0 a = none
  b0 : Same C.Z0 C.H0
  wz : ∀ a, a ∈ C.W → (C.H0 a).isSome = true ∧ C.Z0 a = none
  wh : ∀ a, a ∈ C.W → (H a).isSome = true
  ent : ∀ (i : Nat) (e : Ent), g[i]? = some e → EntOk K C H Z σ[i]? e
  inj : ∀ (i j : Nat) (w w' : Option Nat) (ds es : List PyData) (a : Addr), g[i]? = some (Ent.ls w ds) → g[j]? = some (Ent.ls w' es) → σ[i]? = some (some (V.ref a)) → σ[j]? = some (some (V.ref a)) → i = j
  tb : LamX.Tabs C.T H
  tz : ∀ p, p ∈ C.T → (C.H0 p.1).isSome = true ∧ C.Z0 p.1 = none
  injD : ∀ (i j : Nat) (w w' : Option Nat) (ds es : List (PyData × PyData)) (a : Addr), g[i]? = some (Ent.dc w ds) → g[j]? = some (Ent.dc w' es) → σ[i]? = some (some (V.ref a)) → σ[j]? = some (some (V.ref a)) → i = j

/-- a value that an expression gives: data; the list in slot j; a value as it is -/
inductive Av where
  | d (d : PyData)
  | o (j : Nat)
  | v (v : V)
def AvOk (K : PySem.W.Frag) (σ : St) (Z : Hp) : Av → V → Prop
  | .d d, v => Dd K Z v d
  | .o j, v => σ[j]? = some (some v)
  | .v w, v => v = w
inductive AvsOk (K : PySem.W.Frag) (σ : St) (Z : Hp) : List Av → List V → Prop
  | nil : AvsOk K σ Z [] []
  | cons {x : Av} {v : V} {xs : List Av} {vs : List V} : AvOk K σ Z x v → AvsOk K σ Z xs vs → AvsOk K σ Z (x :: xs) (v :: vs)
theorem AvOk.mono {K : PySem.W.Frag} {σ : St} {Z Z' : Hp} (e : Same Z Z') : ∀ {x : Av} {v : V}, AvOk K σ Z x v → AvOk K σ Z' x v
  | .d d, v, h => Dd.mono e d v h
  | .o _, _, h => h
  | .v _, _, h => h
theorem AvsOk.mono {K : PySem.W.Frag} {σ : St} {Z Z' : Hp} (e : Same Z Z') : ∀ {xs : List Av} {vs : List V}, AvsOk K σ Z xs vs → AvsOk K σ Z' xs vs
  | _, _, .nil => .nil
  | _, _, .cons h t => .cons (h.mono e) (t.mono e)

section
variable (K : PySem.W.Frag) (C : Ct)
def AE (te : TE) (g : Gm) (Q : Av → Gm → Prop) : Prop := ∀ σ H Z, Ok K C g σ H Z → ∀ Q' : VK, (∀ v H' Z' x g', Ok K C g' σ H' Z' → Same Z Z' → AvOk K σ Z' x v → Q x g' → Q' v H') → te σ H Q'
def AT (tt : TT) (g : Gm) (Q : Bool → Gm → Prop) : Prop := ∀ σ H Z, Ok K C g σ H Z → ∀ Q' : Bool → Hp → Prop, (∀ b H' Z' g', Ok K C g' σ H' Z' → Same Z Z' → Q b g' → Q' b H') → tt σ H Q'
def AA (ta : TA) (g : Gm) (Q : List Av → Gm → Prop) : Prop := ∀ σ H Z, Ok K C g σ H Z → ∀ Q' : List V → Hp → Prop, (∀ vs H' Z' xs g', Ok K C g' σ H' Z' → Same Z Z' → AvsOk K σ Z' xs vs → Q xs g' → Q' vs H') → ta σ H Q'
/-- the list at p is new: nobody holds it -/
structure New (g : Gm) (σ : St) (H Z : Hp) (p : Addr) (ds : List PyData) : Prop where
  at_ : ∃ xs, H p = some (.lst xs) ∧ DdA K Z xs ds
  nz : Z p = none
  n0 : C.H0 p = none
  no : ∀ (j : Nat) (w : Option Nat) (es : List PyData), g[j]? = some (Ent.ls w es) → σ[j]? ≠ some (some (V.ref p))
/-- an expression whose value is a new list -/
def AN (te : TE) (g : Gm) (Q : List PyData → Gm → Prop) : Prop := ∀ σ H Z, Ok K C g σ H Z → ∀ Q' : VK, (∀ p H' Z' ds g', Ok K C g' σ H' Z' → Same Z Z' → New K C g' σ H' Z' p ds → Q ds g' → Q' (.ref p) H') → te σ H Q'
structure Ae where
  nx : Gm → Prop
  rt : Av → Gm → Prop
  bk : Gm → Prop := fun _ => False
  ct : Gm → Prop := fun _ => False
  /-- a new list is handed back -/
  rn : List PyData → Gm → Prop := fun _ _ => False
/-- the ends D' do what D says, from the frozen part Z on -/
structure Does (Z0 : Hp) (D : Ae) (D' : Ends) : Prop where
  nx : ∀ g σ H Z, Ok K C g σ H Z → Same Z0 Z → D.nx g → D'.nx σ H
  rt : ∀ x v g σ H Z, Ok K C g σ H Z → Same Z0 Z → AvOk K σ Z x v → D.rt x g → D'.rt v H
  bk : ∀ g σ H Z, Ok K C g σ H Z → Same Z0 Z → D.bk g → D'.bk σ H
  ct : ∀ g σ H Z, Ok K C g σ H Z → Same Z0 Z → D.ct g → D'.ct σ H
  rn : ∀ ds p g σ H Z, Ok K C g σ H Z → Same Z0 Z → New K C g σ H Z p ds → D.rn ds g → D'.rt (.ref p) H
def AS (ts : TS) (g : Gm) (D : Ae) : Prop := ∀ σ H Z, Ok K C g σ H Z → ∀ D' : Ends, Does K C Z D D' → ts D' σ H
/-- a target of a store -/
def AG (tg : TG) (x : Av) (g : Gm) (Q : Gm → Prop) : Prop := ∀ σ H Z v, Ok K C g σ H Z → AvOk K σ Z x v → ∀ Q' : St → Hp → Prop, (∀ g' σ' H' Z', Ok K C g' σ' H' Z' → Same Z Z' → Q g' → Q' σ' H') → tg v σ H Q'
end

/-! ### stores of slots, new objects -/
section
variable {K : PySem.W.Frag} {C : Ct} {g : Gm} {σ : St} {H Z : Hp}
theorem Ok.new (I : Ok K C g σ H Z) {a : Addr} (h : H a = none) : Z a = none ∧ C.H0 a = none ∧ ∀ (j : Nat) (w : Option Nat) (es : List PyData), g[j]? = some (Ent.ls w es) → σ[j]? ≠ some (some (V.ref a)) := by
  have hz : Z a = none := I.fz.free h
  refine ⟨hz, ?_, fun j w es e z => ?_⟩
  · cases q : C.H0 a with
    | none => rfl
    | some o =>
      by_cases hw : a ∈ C.W
      · have z := I.wh a hw
        rw [h] at z; cases z
      · by_cases ht : a ∈ C.T.map (·.1)
        · obtain ⟨p, hp, e⟩ := List.mem_map.mp ht
          obtain ⟨ps, z, _⟩ := I.tb p hp
          rw [e, h] at z; cases z
        · rw [I.fr a o q hw ht] at h; cases h
  · obtain ⟨b, xs, e1, e2, _⟩ := I.ent j _ e
    rw [z] at e1
    cases e1
    rw [e2] at h; cases h
end
end AL
/-! The layer's rules over readings. -/
namespace AL
open PySem PySem.Spec L2

/-! ### stores of entries -/
inductive SetE : Gm → Nat → Ent → Gm → Prop
  | z {a e : Ent} {g : Gm} : SetE (a :: g) 0 e (e :: g)
  | s {a e : Ent} {g g' : Gm} {i : Nat} : SetE g i e g' → SetE (a :: g) (i + 1) e (a :: g')
theorem SetE.eq : ∀ {g g' : Gm} {i : Nat} {e : Ent}, SetE g i e g' → g' = g.set i e ∧ i < g.length
  | _, _, _, _, .z => ⟨rfl, by simp⟩
  | _, _, _, _, .s h => by
    obtain ⟨h1, h2⟩ := h.eq
    exact ⟨by rw [h1]; rfl, by simpa using h2⟩
theorem SetE.len {g g' : Gm} {i : Nat} {e : Ent} (h : SetE g i e g') : g'.length = g.length ∧ i < g.length := by
  obtain ⟨h1, h2⟩ := h.eq
  exact ⟨by rw [h1, List.length_set], h2⟩
theorem SetE.same {g g' : Gm} {i : Nat} {e : Ent} (h : SetE g i e g') : g'[i]? = some e := by
  obtain ⟨h1, h2⟩ := h.eq
  rw [h1, List.getElem?_set_self h2]
theorem SetE.ne {g g' : Gm} {i j : Nat} {e : Ent} (h : SetE g i e g') (n : j ≠ i) : g'[j]? = g[j]? := by
  obtain ⟨h1, h2⟩ := h.eq
  rw [h1, List.getElem?_set_ne (Ne.symm n)]
/-- entries forgotten -/
inductive WkE : Gm → Gm → Prop
  | nil : WkE [] []
  | same {e : Ent} {g g' : Gm} : WkE g g' → WkE (e :: g) (e :: g')
  | drop {e : Ent} {g g' : Gm} : WkE g g' → WkE (e :: g) (.no :: g')
theorem WkE.refl : ∀ g : Gm, WkE g g
  | [] => .nil
  | _ :: g => .same (WkE.refl g)
theorem WkE.len : ∀ {g g' : Gm}, WkE g g' → g'.length = g.length
  | _, _, .nil => rfl
  | _, _, .same w => by simp [WkE.len w]
  | _, _, .drop w => by simp [WkE.len w]
theorem WkE.get : ∀ {g g' : Gm} {i : Nat} {e : Ent}, WkE g g' → g'[i]? = some e → e = .no ∨ g[i]? = some e
  | _, _, _, _, .nil, h => by simp at h
  | _, _, 0, _, .same _, h => by simp at h; subst h; exact .inr rfl
  | _, _, 0, _, .drop _, h => by simp at h; exact .inl h.symm
  | _, _, i + 1, _, .same w, h => by simpa using WkE.get (i := i) w (by simpa using h)
  | _, _, i + 1, _, .drop w, h => by simpa using WkE.get (i := i) w (by simpa using h)
inductive WipeE : Gm → List Nat → Gm → Prop
  | nil {g : Gm} : WipeE g [] g
  | cons {g g1 g2 : Gm} {i : Nat} {l : List Nat} : WipeE g l g1 → SetE g1 i .no g2 → WipeE g (i :: l) g2

/-- tables stand where all but lists stands -/
theorem Tabs.keep {T : List (Addr × Str)} {H H' : Hp} (t : LamX.Tabs T H) (e : ∀ b o, H b = some o → (∀ xs, o ≠ .lst xs) → H' b = some o) : LamX.Tabs T H' := fun p hp => by
  obtain ⟨ps, h1, h2, h3⟩ := t p hp
  refine ⟨ps, e _ _ h1 (fun xs z => by cases z), h2, fun pos cv hc => ?_⟩
  obtain ⟨c, e1, e2⟩ := h3 pos cv hc
  exact ⟨c, e1, e _ _ e2 fun xs z => by unfold LamX.CodeO at z; cases z⟩
section
variable {K : PySem.W.Frag} {C : Ct} {g g' : Gm} {σ : St} {H H' Z Z' : Hp}
theorem Ok.weak (I : Ok K C g σ H Z) (w : WkE g g') : Ok K C g' σ H Z := by
  refine ⟨w.len.trans I.ln, I.fz, I.fr, I.z0, I.nw, I.b0, I.wz, I.wh, fun i e h => ?_, fun i j v v' ds es a h1 h2 => ?_, I.tb, I.tz, fun i j v v' ds es a h1 h2 => ?_⟩
  · rcases w.get h with z | z
    · subst z; trivial
    · exact I.ent i e z
  · rcases w.get h1 with z | z
    · cases z
    · rcases w.get h2 with z' | z'
      · cases z'
      · exact I.inj i j v v' ds es a z z'
  · rcases w.get h1 with z | z
    · cases z
    · rcases w.get h2 with z' | z'
      · cases z'
      · exact I.injD i j v v' ds es a z z'
/-- the heap's frozen part grows by new objects, the rest stands -/
theorem Ok.grow (I : Ok K C g σ H Z) (hH : Same H H') (hZ : Same Z Z') (hZH : Same Z' H') (hn : ∀ (a : Addr) (o : HO), Z' a = some o → Z a = some o ∨ H a = none) : Ok K C g σ H' Z' := by
  refine ⟨I.ln, hZH, fun a o h hw ht => hH a o (I.fr a o h hw ht), fun a o h => hZ a o (I.z0 a o h), fun a o h => ?_, I.b0, I.wz, fun a h => ?_, fun i e h => ?_, I.inj, I.tb.ext hH, I.tz, I.injD⟩
  · rcases hn a o h with z | z
    · exact I.nw a o z
    · exact .inr (I.new z).2.1
  · cases q : H a with
    | none => have := I.wh a h; rw [q] at this; cases this
    | some o => rw [hH a o q]; rfl
  · have q := I.ent i e h
    cases e with
    | no => trivial
    | im d => obtain ⟨v, e1, e2⟩ := q; exact ⟨v, e1, e2.mono hZ⟩
    | ls w ds =>
      obtain ⟨a, xs, e1, e2, e3, e4, e5⟩ := q
      refine ⟨a, xs, e1, hH a _ e2, ?_, e4.mono hZ, e5⟩
      cases q : Z' a with
      | none => rfl
      | some o =>
        rcases hn a o q with z | z
        · rw [e3] at z; cases z
        · rw [e2] at z; cases z
    | vl v => exact q
    | dc w ds =>
      obtain ⟨a, o, e1, e2, e3, e4, e5, e6⟩ := q
      refine ⟨a, o, e1, hH a _ e2, e3.mono hZ, ?_, e5, e6⟩
      cases q : Z' a with
      | none => rfl
      | some o =>
        rcases hn a o q with z | z
        · rw [e4] at z; cases z
        · rw [e2] at z; cases z
theorem Ok.zt (I : Ok K C g σ H Z) {p : Addr × Str} (hp : p ∈ C.T) : Z p.1 = none := by
  obtain ⟨h1, h2⟩ := I.tz p hp
  cases q : Z p.1 with
  | none => rfl
  | some o =>
    rcases I.nw _ _ q with z | z
    · rw [h2] at z; cases z
    · rw [z] at h1; cases h1
/-- .. and the tables may be lengthened -/
theorem Ok.growT (I : Ok K C g σ H Z) (hT : LamX.Tabs C.T H') (hH : ∀ (a : Addr) (o : HO), a ∉ C.T.map (·.1) → H a = some o → H' a = some o) (hZ : Same Z Z') (hZH : Same Z' H') (hn : ∀ (a : Addr) (o : HO), Z' a = some o → Z a = some o ∨ H a = none) : Ok K C g σ H' Z' := by
  have nT : ∀ {a xs}, H a = some (.lst xs) → a ∉ C.T.map (·.1) := fun {a xs} e m => by
    obtain ⟨p, hp, e2⟩ := List.mem_map.mp m
    obtain ⟨ps, z, _⟩ := I.tb p hp
    rw [e2, e] at z; cases z
  have nD : ∀ {a o}, H a = some (DicO a o) → a ∉ C.T.map (·.1) := fun {a o} e m => by
    obtain ⟨p, hp, e2⟩ := List.mem_map.mp m
    obtain ⟨ps, z, _⟩ := I.tb p hp
    rw [e2, e] at z
    exact dic_ne_tbl (Option.some.inj z)
  refine ⟨I.ln, hZH, fun a o h hw ht => hH a o ht (I.fr a o h hw ht), fun a o h => hZ a o (I.z0 a o h), fun a o h => ?_, I.b0, I.wz, fun a h => ?_, fun i e h => ?_, I.inj, hT, I.tz, I.injD⟩
  · rcases hn a o h with z | z
    · exact I.nw a o z
    · exact .inr (I.new z).2.1
  · by_cases m : a ∈ C.T.map (·.1)
    · obtain ⟨p, hp, e2⟩ := List.mem_map.mp m
      obtain ⟨ps, z, _⟩ := hT p hp
      rw [← e2, z]; rfl
    · cases q : H a with
      | none => have := I.wh a h; rw [q] at this; cases this
      | some o => rw [hH a o m q]; rfl
  · have q := I.ent i e h
    cases e with
    | no => trivial
    | im d => obtain ⟨v, e1, e2⟩ := q; exact ⟨v, e1, e2.mono hZ⟩
    | ls w ds =>
      obtain ⟨a, xs, e1, e2, e3, e4, e5⟩ := q
      refine ⟨a, xs, e1, hH a _ (nT e2) e2, ?_, e4.mono hZ, e5⟩
      cases q : Z' a with
      | none => rfl
      | some o =>
        rcases hn a o q with z | z
        · rw [e3] at z; cases z
        · rw [e2] at z; cases z
    | vl v => exact q
    | dc w ds =>
      obtain ⟨a, o, e1, e2, e3, e4, e5, e6⟩ := q
      refine ⟨a, o, e1, hH a _ (nD e2) e2, e3.mono hZ, ?_, e5, e6⟩
      cases q : Z' a with
      | none => rfl
      | some o =>
        rcases hn a o q with z | z
        · rw [e4] at z; cases z
        · rw [e2] at z; cases z
/-- a new frozen object -/
theorem Ok.newF (I : Ok K C g σ H Z) {p : Addr} {o : HO} (h : H p = none) : Ok K C g σ (upd H p o) (upd Z p o) ∧ Same Z (upd Z p o) ∧ Same H (upd H p o) := by
  have hz := (I.new h).1
  have s1 : Same Z (upd Z p o) := fun a u q => by rw [upd_ne (ne_of_none q hz)]; exact q
  have s2 : Same H (upd H p o) := fun a u q => by rw [upd_ne (ne_of_none q h)]; exact q
  refine ⟨I.grow s2 s1 (fun a u q => ?_) (fun a u q => ?_), s1, s2⟩
  · by_cases e : a = p
    · subst e; rw [upd_same] at q ⊢; exact q
    · rw [upd_ne e] at q ⊢; exact I.fz a u q
  · by_cases e : a = p
    · subst e; exact .inr h
    · rw [upd_ne e] at q; exact .inl q
/-- a new object that is not frozen -/
theorem Ok.newO (I : Ok K C g σ H Z) {p : Addr} {o : HO} (h : H p = none) : Ok K C g σ (upd H p o) Z :=
  I.grow (fun a u q => by rw [upd_ne (ne_of_none q h)]; exact q) (Same.refl _) (fun a u q => by rw [upd_ne (ne_of_none (I.fz a u q) h)]; exact I.fz a u q) fun _ _ q => .inl q
/-- a slot is stored: data, a value -/
theorem Ok.setD (I : Ok K C g σ H Z) {i : Nat} {v : V} {d : PyData} (hv : Dd K Z v d) (s : SetE g i (.im d) g') : Ok K C g' (σ.set i (some v)) H Z := by
  have hl : i < σ.length := by rw [← I.ln]; exact s.len.2
  refine ⟨by rw [List.length_set, s.len.1, I.ln], I.fz, I.fr, I.z0, I.nw, I.b0, I.wz, I.wh, fun j e h => ?_, fun j k w w' ds es a h1 h2 h3 h4 => ?_, I.tb, I.tz, fun j k w w' ds es a h1 h2 h3 h4 => ?_⟩
  · by_cases q : j = i
    · subst q
      rw [s.same] at h; cases h
      exact ⟨v, List.getElem?_set_self hl, hv⟩
    · rw [s.ne q] at h
      rw [List.getElem?_set_ne (Ne.symm q)]
      exact I.ent j e h
  · have q1 : j ≠ i := fun z => by subst z; rw [s.same] at h1; cases h1
    have q2 : k ≠ i := fun z => by subst z; rw [s.same] at h2; cases h2
    rw [s.ne q1] at h1; rw [s.ne q2] at h2
    rw [List.getElem?_set_ne (Ne.symm q1)] at h3
    rw [List.getElem?_set_ne (Ne.symm q2)] at h4
    exact I.inj j k w w' ds es a h1 h2 h3 h4
  · have q1 : j ≠ i := fun z => by subst z; rw [s.same] at h1; cases h1
    have q2 : k ≠ i := fun z => by subst z; rw [s.same] at h2; cases h2
    rw [s.ne q1] at h1; rw [s.ne q2] at h2
    rw [List.getElem?_set_ne (Ne.symm q1)] at h3
    rw [List.getElem?_set_ne (Ne.symm q2)] at h4
    exact I.injD j k w w' ds es a h1 h2 h3 h4
theorem Ok.setV (I : Ok K C g σ H Z) {i : Nat} {v : V} (s : SetE g i (.vl v) g') : Ok K C g' (σ.set i (some v)) H Z := by
  have hl : i < σ.length := by rw [← I.ln]; exact s.len.2
  refine ⟨by rw [List.length_set, s.len.1, I.ln], I.fz, I.fr, I.z0, I.nw, I.b0, I.wz, I.wh, fun j e h => ?_, fun j k w w' ds es a h1 h2 h3 h4 => ?_, I.tb, I.tz, fun j k w w' ds es a h1 h2 h3 h4 => ?_⟩
  · by_cases q : j = i
    · subst q
      rw [s.same] at h; cases h
      exact List.getElem?_set_self hl
    · rw [s.ne q] at h
      rw [List.getElem?_set_ne (Ne.symm q)]
      exact I.ent j e h
  · have q1 : j ≠ i := fun z => by subst z; rw [s.same] at h1; cases h1
    have q2 : k ≠ i := fun z => by subst z; rw [s.same] at h2; cases h2
    rw [s.ne q1] at h1; rw [s.ne q2] at h2
    rw [List.getElem?_set_ne (Ne.symm q1)] at h3
    rw [List.getElem?_set_ne (Ne.symm q2)] at h4
    exact I.inj j k w w' ds es a h1 h2 h3 h4
  · have q1 : j ≠ i := fun z => by subst z; rw [s.same] at h1; cases h1
    have q2 : k ≠ i := fun z => by subst z; rw [s.same] at h2; cases h2
    rw [s.ne q1] at h1; rw [s.ne q2] at h2
    rw [List.getElem?_set_ne (Ne.symm q1)] at h3
    rw [List.getElem?_set_ne (Ne.symm q2)] at h4
    exact I.injD j k w w' ds es a h1 h2 h3 h4
/-- a slot takes a new list -/
theorem Ok.setL (I : Ok K C g σ H Z) {i : Nat} {p : Addr} {ds : List PyData} (n : New K C g σ H Z p ds) (s : SetE g i (.ls none ds) g') : Ok K C g' (σ.set i (some (.ref p))) H Z := by
  have hl : i < σ.length := by rw [← I.ln]; exact s.len.2
  refine ⟨by rw [List.length_set, s.len.1, I.ln], I.fz, I.fr, I.z0, I.nw, I.b0, I.wz, I.wh, fun j e h => ?_, fun j k w w' ds' es a h1 h2 h3 h4 => ?_, I.tb, I.tz, fun j k w w' ds es a h1 h2 h3 h4 => ?_⟩
  · by_cases q : j = i
    · subst q
      rw [s.same] at h; cases h
      obtain ⟨xs, n1, n2⟩ := n.at_
      exact ⟨p, xs, List.getElem?_set_self hl, n1, n.nz, n2, n.n0⟩
    · rw [s.ne q] at h
      rw [List.getElem?_set_ne (Ne.symm q)]
      exact I.ent j e h
  · by_cases q1 : j = i
    · by_cases q2 : k = i
      · rw [q1, q2]
      · subst q1
        rw [List.getElem?_set_self hl] at h3
        cases h3
        rw [s.ne q2] at h2
        rw [List.getElem?_set_ne (Ne.symm q2)] at h4
        exact absurd h4 (n.no k w' es h2)
    · rw [s.ne q1] at h1
      rw [List.getElem?_set_ne (Ne.symm q1)] at h3
      by_cases q2 : k = i
      · subst q2
        rw [List.getElem?_set_self hl] at h4
        cases h4
        exact absurd h3 (n.no j w ds' h1)
      · rw [s.ne q2] at h2
        rw [List.getElem?_set_ne (Ne.symm q2)] at h4
        exact I.inj j k w w' ds' es a h1 h2 h3 h4
  · have q1 : j ≠ i := fun z => by subst z; rw [s.same] at h1; cases h1
    have q2 : k ≠ i := fun z => by subst z; rw [s.same] at h2; cases h2
    rw [s.ne q1] at h1; rw [s.ne q2] at h2
    rw [List.getElem?_set_ne (Ne.symm q1)] at h3
    rw [List.getElem?_set_ne (Ne.symm q2)] at h4
    exact I.injD j k w w' ds es a h1 h2 h3 h4
theorem Ok.own (I : Ok K C g σ H Z) {j : Nat} {w : Option Nat} {ds : List PyData} {v : V} (h : g[j]? = some (.ls w ds)) (hv : σ[j]? = some (some v)) :
    ∃ a xs, v = .ref a ∧ H a = some (.lst xs) ∧ Z a = none ∧ DdA K Z xs ds ∧ OwnOk C w a := by
  obtain ⟨a, xs, e1, e2, e3, e4, e5⟩ := I.ent j _ h
  rw [hv] at e1; cases e1
  exact ⟨a, xs, rfl, e2, e3, e4, e5⟩
/-- an own list is changed -/
theorem Ok.put (I : Ok K C g σ H Z) {j : Nat} {w : Option Nat} {ds es : List PyData} {a : Addr} {ys : List V} (h : g[j]? = some (.ls w ds)) (hv : σ[j]? = some (some (V.ref a))) (hy : DdA K Z ys es) (s : SetE g j (.ls w es) g') :
    Ok K C g' σ (upd H a (.lst ys)) Z := by
  obtain ⟨b, xs, e0, e2, e3, e4, e5⟩ := I.own h hv
  cases e0
  refine ⟨s.len.1.trans I.ln, fun b o q => ?_, fun b o q hw ht => ?_, I.z0, I.nw, I.b0, I.wz, fun b hb => ?_, fun k e hk => ?_, fun i k v v' ds' es' b h1 h2 h3 h4 => ?_, Tabs.keep I.tb fun b o q n => ?_, I.tz, fun i k v v' ds' es' b h1 h2 h3 h4 => ?_⟩
  · rw [upd_ne (ne_of_none q e3)]; exact I.fz b o q
  · have ne : b ≠ a := fun z => by
      subst z
      cases w with
      | none =>
        have z : C.H0 b = none := e5
        rw [z] at q; cases q
      | some k => exact hw (List.mem_of_getElem? (show C.W[k]? = some b from e5))
    rw [upd_ne ne]; exact I.fr b o q hw ht
  · by_cases z : b = a
    · subst z; rw [upd_same]; rfl
    · rw [upd_ne z]; exact I.wh b hb
  · by_cases q : k = j
    · subst q
      rw [s.same] at hk; cases hk
      exact ⟨a, ys, hv, upd_same, e3, hy, e5⟩
    · rw [s.ne q] at hk
      have r := I.ent k e hk
      cases e with
      | no => trivial
      | im d => exact r
      | ls w2 ds2 =>
        obtain ⟨b, zs, f1, f2, f3, f4, f5⟩ := r
        have ne : b ≠ a := fun z => by subst z; exact q (I.inj k j w2 w ds2 ds _ hk h f1 hv)
        exact ⟨b, zs, f1, by rw [upd_ne ne]; exact f2, f3, f4, f5⟩
      | vl v => exact r
      | dc w2 ds2 =>
        obtain ⟨b, o, f1, f2, f3, f4, f5, f6⟩ := r
        have ne := dic_ne f2 e2
        exact ⟨b, o, f1, by rw [upd_ne ne]; exact f2, f3, f4, f5, f6⟩
  · have l : ∀ {i : Nat} {v : Option Nat} {ds' : List PyData}, g'[i]? = some (.ls v ds') → ∃ v'' ds'', g[i]? = some (Ent.ls v'' ds'') := fun {i v ds'} h1 => by
      by_cases q : i = j
      · subst q; exact ⟨w, ds, h⟩
      · rw [s.ne q] at h1; exact ⟨v, ds', h1⟩
    obtain ⟨v1, d1, k1⟩ := l h1
    obtain ⟨v2, d2, k2⟩ := l h2
    exact I.inj i k v1 v2 d1 d2 b k1 k2 h3 h4
  · have ne : b ≠ a := fun z => by
      subst z
      rw [e2] at q; cases q
      exact n xs rfl
    rw [upd_ne ne]; exact q
  · have q1 : i ≠ j := fun z => by subst z; rw [s.same] at h1; cases h1
    have q2 : k ≠ j := fun z => by subst z; rw [s.same] at h2; cases h2
    rw [s.ne q1] at h1; rw [s.ne q2] at h2
    exact I.injD i k v v' ds' es' b h1 h2 h3 h4
/-- an own list is frozen -/
theorem Ok.frz (I : Ok K C g σ H Z) {j : Nat} {ds : List PyData} {v : V} (h : g[j]? = some (.ls none ds)) (hv : σ[j]? = some (some v)) (s : SetE g j (.im (.list ds)) g') :
    ∃ Z', Ok K C g' σ H Z' ∧ Same Z Z' ∧ Dd K Z' v (.list ds) := by
  obtain ⟨a, xs, e0, e2, e3, e4, e5⟩ := I.own h hv
  subst e0
  have s1 : Same Z (upd Z a (.lst xs)) := fun b u q => by rw [upd_ne (ne_of_none q e3)]; exact q
  have hd : Dd K (upd Z a (.lst xs)) (.ref a) (.list ds) := .lst upd_same (e4.mono s1)
  refine ⟨upd Z a (.lst xs), ⟨s.len.1.trans I.ln, fun b o q => ?_, I.fr, fun b o q => s1 b o (I.z0 b o q), fun b o q => ?_, I.b0, I.wz, I.wh, fun k e hk => ?_, fun i k w w' ds' es' b h1 h2 h3 h4 => ?_, I.tb, I.tz, fun i k w w' ds' es' b h1 h2 h3 h4 => ?_⟩, s1, hd⟩
  · by_cases z : b = a
    · subst z; rw [upd_same] at q; cases q; exact e2
    · rw [upd_ne z] at q; exact I.fz b o q
  · by_cases z : b = a
    · subst z; exact .inr e5
    · rw [upd_ne z] at q; exact I.nw b o q
  · by_cases q : k = j
    · subst q
      rw [s.same] at hk; cases hk
      exact ⟨_, hv, hd⟩
    · rw [s.ne q] at hk
      have r := I.ent k e hk
      cases e with
      | no => trivial
      | im d => obtain ⟨v, r1, r2⟩ := r; exact ⟨v, r1, r2.mono s1⟩
      | ls w2 ds2 =>
        obtain ⟨b, zs, f1, f2, f3, f4, f5⟩ := r
        have ne : b ≠ a := fun z => by subst z; exact q (I.inj k j w2 none ds2 ds _ hk h f1 hv)
        exact ⟨b, zs, f1, f2, by rw [upd_ne ne]; exact f3, f4.mono s1, f5⟩
      | vl v => exact r
      | dc w2 ds2 =>
        obtain ⟨b, o, f1, f2, f3, f4, f5, f6⟩ := r
        have ne := dic_ne f2 e2
        exact ⟨b, o, f1, f2, f3.mono s1, by rw [upd_ne ne]; exact f4, f5, f6⟩
  · have q1 : i ≠ j := fun z => by subst z; rw [s.same] at h1; cases h1
    have q2 : k ≠ j := fun z => by subst z; rw [s.same] at h2; cases h2
    rw [s.ne q1] at h1; rw [s.ne q2] at h2
    exact I.inj i k w w' ds' es' b h1 h2 h3 h4
  · have q1 : i ≠ j := fun z => by subst z; rw [s.same] at h1; cases h1
    have q2 : k ≠ j := fun z => by subst z; rw [s.same] at h2; cases h2
    rw [s.ne q1] at h1; rw [s.ne q2] at h2
    exact I.injD i k w w' ds' es' b h1 h2 h3 h4
/-- a new list is frozen -/
theorem Ok.frzN (I : Ok K C g σ H Z) {p : Addr} {ds : List PyData} (n : New K C g σ H Z p ds) : ∃ Z', Ok K C g σ H Z' ∧ Same Z Z' ∧ Dd K Z' (.ref p) (.list ds) := by
  obtain ⟨xs, n1, n2⟩ := n.at_
  have s1 : Same Z (upd Z p (.lst xs)) := fun b u q => by rw [upd_ne (ne_of_none q n.nz)]; exact q
  refine ⟨upd Z p (.lst xs), ⟨I.ln, fun b o q => ?_, I.fr, fun b o q => s1 b o (I.z0 b o q), fun b o q => ?_, I.b0, I.wz, I.wh, fun k e hk => ?_, I.inj, I.tb, I.tz, I.injD⟩, s1, .lst upd_same (n2.mono s1)⟩
  · by_cases z : b = p
    · subst z; rw [upd_same] at q; cases q; exact n1
    · rw [upd_ne z] at q; exact I.fz b o q
  · by_cases z : b = p
    · subst z; exact .inr n.n0
    · rw [upd_ne z] at q; exact I.nw b o q
  · have r := I.ent k e hk
    cases e with
    | no => trivial
    | im d => obtain ⟨v, r1, r2⟩ := r; exact ⟨v, r1, r2.mono s1⟩
    | ls w2 ds2 =>
      obtain ⟨b, zs, f1, f2, f3, f4, f5⟩ := r
      have ne : b ≠ p := fun z => by subst z; exact n.no k w2 ds2 hk f1
      exact ⟨b, zs, f1, f2, by rw [upd_ne ne]; exact f3, f4.mono s1, f5⟩
    | vl v => exact r
    | dc w2 ds2 =>
      obtain ⟨b, o, f1, f2, f3, f4, f5, f6⟩ := r
      have ne := dic_ne f2 n1
      exact ⟨b, o, f1, f2, f3.mono s1, by rw [upd_ne ne]; exact f4, f5, f6⟩
end
end AL
/-! The layer's rules over readings: expressions, tests, statements. -/
namespace AL
open PySem PySem.Spec L2

def BR (b : Bool) (A B : Prop) : Prop := (b = true → A) ∧ (b = false → B)
theorem br_t {A B : Prop} (h : A) : BR true A B := ⟨fun _ => h, fun z => Bool.noConfusion z⟩
theorem br_f {A B : Prop} (h : B) : BR false A B := ⟨fun z => Bool.noConfusion z, fun _ => h⟩
theorem br_d {p A B : Prop} [Decidable p] (h : p → A) (k : ¬ p → B) : BR (decide p) A B := ⟨fun z => h (of_decide_eq_true z), fun z => k (of_decide_eq_false z)⟩
theorem br_n {b : Bool} {A B : Prop} (h : BR b B A) : BR (!b) A B := by
  cases b with
  | true => exact br_f (h.1 rfl)
  | false => exact br_t (h.2 rfl)
theorem br_b {b : Bool} {A B : Prop} (h : b = true → A) (k : b = false → B) : BR b A B := ⟨h, k⟩
/-- the data of a list of values; owned lists among them are frozen -/
inductive Frz : List Av → Gm → List PyData → Gm → Prop
  | nil {g : Gm} : Frz [] g [] g
  | d {d : PyData} {xs : List Av} {g g' : Gm} {ds : List PyData} : Frz xs g ds g' → Frz (.d d :: xs) g (d :: ds) g'
  | o {j : Nat} {xs : List Av} {g g1 g' : Gm} {es ds : List PyData} : g[j]? = some (.ls none es) → SetE g j (.im (.list es)) g1 → Frz xs g1 ds g' → Frz (.o j :: xs) g (.list es :: ds) g'
section
variable {K : PySem.W.Frag} {C : Ct} {g g' : Gm} {σ : St} {H H' Z Z' : Hp}
theorem Frz.run : ∀ {xs : List Av} {g g' : Gm} {ds : List PyData} {vs : List V} {Z : Hp}, Frz xs g ds g' → Ok K C g σ H Z → AvsOk K σ Z xs vs → ∃ Z', Ok K C g' σ H Z' ∧ Same Z Z' ∧ DdA K Z' vs ds
  | _, _, _, _, _, Z, .nil, I, .nil => ⟨Z, I, Same.refl _, .nil⟩
  | _, _, _, _, _, Z, .d f, I, .cons h t => by
    obtain ⟨Z', I', s, r⟩ := f.run I t
    exact ⟨Z', I', s, .cons (Dd.mono s _ _ h) r⟩
  | _, _, _, _, _, Z, .o h1 h2 f, I, .cons h t => by
    obtain ⟨Z1, I1, s1, r1⟩ := I.frz h1 h h2
    obtain ⟨Z', I', s, r⟩ := f.run I1 (t.mono s1)
    exact ⟨Z', I', s1.trans s, .cons (Dd.mono s _ _ r1) r⟩

/-! ### expressions -/
variable {Q : Av → Gm → Prop} {te ta tb : TE} {tt tu : TT}
theorem AE.mono {Q' : Av → Gm → Prop} (h : AE K C te g Q) (k : ∀ x g', Q x g' → Q' x g') : AE K C te g Q' := fun σ H Z I P p => h σ H Z I P fun v H' Z' x g' I' s a q => p v H' Z' x g' I' s a (k x g' q)
theorem ae_im {i : Nat} {d : PyData} (h : g[i]? = some (.im d)) (q : Q (.d d) g) : AE K C (tVar i) g Q := fun σ H Z I P p => by
  obtain ⟨v, e1, e2⟩ := I.ent i _ h
  exact ⟨v, e1, p v H Z (.d d) g I (Same.refl _) e2 q⟩
theorem ae_ls {i : Nat} {w : Option Nat} {ds : List PyData} (h : g[i]? = some (.ls w ds)) (q : Q (.o i) g) : AE K C (tVar i) g Q := fun σ H Z I P p => by
  obtain ⟨a, xs, e1, _⟩ := I.ent i _ h
  exact ⟨_, e1, p _ H Z (.o i) g I (Same.refl _) e1 q⟩
theorem ae_vl {i : Nat} {v : V} (h : g[i]? = some (.vl v)) (q : Q (.v v) g) : AE K C (tVar i) g Q := fun σ H Z I P p => by
  have e : σ[i]? = some (some v) := I.ent i _ h
  exact ⟨v, e, p v H Z (.v v) g I (Same.refl _) rfl q⟩
theorem ae_cv {v : V} (q : Q (.v v) g) : AE K C (tC v) g Q := fun σ H Z I P p => p v H Z (.v v) g I (Same.refl _) rfl q
theorem ae_cd {v : V} {d : PyData} (hd : ∀ Z, Dd K Z v d) (q : Q (.d d) g) : AE K C (tC v) g Q := fun σ H Z I P p => p v H Z (.d d) g I (Same.refl _) (hd Z) q
/-- what an operation on two values gives -/
def RA (K : PySem.W.Frag) (C : Ct) (r : R2) (x y : Av) (g : Gm) (Q : Av → Gm → Prop) : Prop := ∀ σ H Z v w, Ok K C g σ H Z → AvOk K σ Z x v → AvOk K σ Z y w → ∀ P : VK, (∀ u H' Z' z g', Ok K C g' σ H' Z' → Same Z Z' → AvOk K σ Z' z u → Q z g' → P u H') → r v w H P
theorem ae_op {r : R2} (h : AE K C ta g fun x g1 => AE K C tb g1 fun y g2 => RA K C r x y g2 Q) : AE K C (tOp r ta tb) g Q := fun σ H Z I P p =>
  h σ H Z I _ fun v H1 Z1 x g1 I1 s1 a1 q1 => q1 σ H1 Z1 I1 _ fun w H2 Z2 y g2 I2 s2 a2 q2 => q2 σ H2 Z2 v w I2 (a1.mono s2) a2 P fun u H3 Z3 z g3 I3 s3 a3 q3 => p u H3 Z3 z g3 I3 ((s1.trans s2).trans s3) a3 q3
theorem ra_or1 {r r' : R2} {x y : Av} (h : RA K C r x y g Q) : RA K C (fun v w H P => r v w H P ∨ r' v w H P) x y g Q := fun σ H Z v w I a b P p => .inl (h σ H Z v w I a b P p)
theorem ra_or2 {r r' : R2} {x y : Av} (h : RA K C r' x y g Q) : RA K C (fun v w H P => r v w H P ∨ r' v w H P) x y g Q := fun σ H Z v w I a b P p => .inr (h σ H Z v w I a b P p)
theorem ra_I0 {f : Int → Int → V} {i j : Int} {d : PyData} (hd : ∀ Z, Dd K Z (f i j) d) (q : Q (.d d) g) : RA K C (rI0 f) (.d (.int i)) (.d (.int j)) g Q := fun σ H Z v w I a b P p => by
  cases a; cases b
  exact ⟨i, j, rfl, rfl, p _ H Z (.d d) g I (Same.refl _) (hd Z) q⟩
theorem ra_I {R : Int → Int → Prop} {f : Int → Int → V} {i j : Int} {d : PyData} (hc : R i j) (hd : ∀ Z, Dd K Z (f i j) d) (q : Q (.d d) g) : RA K C (rI R f) (.d (.int i)) (.d (.int j)) g Q := fun σ H Z v w I a b P p => by
  cases a; cases b
  exact ⟨i, j, rfl, rfl, hc, p _ H Z (.d d) g I (Same.refl _) (hd Z) q⟩
/-- an unary operation -/
theorem ae_un {f : Int → V} {d : Int → PyData} (hd : ∀ Z i, Dd K Z (f i) (d i)) (h : AE K C ta g fun x g1 => ∃ i, x = .d (.int i) ∧ Q (.d (d i)) g1) : AE K C (tUn (rU f) ta) g Q := fun σ H Z I P p =>
  h σ H Z I _ fun v H1 Z1 x g1 I1 s1 a1 q1 => by
    obtain ⟨i, rfl, q⟩ := q1
    cases a1
    exact ⟨i, rfl, p _ H1 Z1 (.d (d i)) g1 I1 s1 (hd Z1 i) q⟩
theorem aa_nil {QA : List Av → Gm → Prop} (q : QA [] g) : AA K C tNil g QA := fun σ H Z I P p => p [] H Z [] g I (Same.refl _) .nil q
theorem aa_cons {QA : List Av → Gm → Prop} {tr : TA} (h : AE K C ta g fun x g1 => AA K C tr g1 fun xs g2 => QA (x :: xs) g2) : AA K C (tCons ta tr) g QA := fun σ H Z I P p =>
  h σ H Z I _ fun v H1 Z1 x g1 I1 s1 a1 q1 => q1 σ H1 Z1 I1 _ fun vs H2 Z2 xs g2 I2 s2 a2 q2 => p (v :: vs) H2 Z2 (x :: xs) g2 I2 (s1.trans s2) (.cons (a1.mono s2) a2) q2
theorem ae_tup {tr : TA} (h : AA K C tr g fun xs g1 => ∃ ds g2, Frz xs g1 ds g2 ∧ ds.length ≤ 1000000 ∧ Q (.d (.tuple ds)) g2) : AE K C (tTup tr) g Q := fun σ H Z I P p =>
  h σ H Z I _ fun vs H1 Z1 xs g1 I1 s1 a1 q1 => by
    obtain ⟨ds, g2, f, hl, q⟩ := q1
    obtain ⟨Z2, I2, s2, r2⟩ := f.run I1 a1
    refine ⟨by rw [r2.length]; exact Nat.le_trans hl (by decide), fun t ht => ?_⟩
    obtain ⟨I3, s3, _⟩ := I2.newF (o := .tup vs) ht
    exact p _ _ _ (.d (.tuple ds)) g2 I3 ((s1.trans s2).trans s3) (.tup (SqT.of upd_same) (r2.mono s3)) q
theorem an_lst {QL : List PyData → Gm → Prop} {tr : TA} (h : AA K C tr g fun xs g1 => ∃ ds g2, Frz xs g1 ds g2 ∧ ds.length ≤ 1000000 ∧ QL ds g2) : AN K C (tLst tr) g QL := fun σ H Z I P p =>
  h σ H Z I _ fun vs H1 Z1 xs g1 I1 s1 a1 q1 => by
    obtain ⟨ds, g2, f, hl, q⟩ := q1
    obtain ⟨Z2, I2, s2, r2⟩ := f.run I1 a1
    refine ⟨by rw [r2.length]; exact Nat.le_trans hl (by decide), fun t ht => ?_⟩
    obtain ⟨n1, n2, n3⟩ := I2.new ht
    exact p t _ Z2 ds g2 (I2.newO ht) (s1.trans s2) ⟨⟨vs, upd_same, r2⟩, n1, n2, n3⟩ q
/-- a new list as data -/
theorem ae_an (h : AN K C te g fun ds g1 => Q (.d (.list ds)) g1) : AE K C te g Q := fun σ H Z I P p =>
  h σ H Z I P fun t H1 Z1 ds g1 I1 s1 n q => by
    obtain ⟨Z2, I2, s2, r⟩ := I1.frzN n
    exact p _ H1 Z2 (.d (.list ds)) g1 I2 (s1.trans s2) r q
theorem ae_if (h : AT K C tt g fun b g1 => BR b (AE K C ta g1 Q) (AE K C tb g1 Q)) : AE K C (tIf tt ta tb) g Q := fun σ H Z I P p =>
  h σ H Z I _ fun b H1 Z1 g1 I1 s1 q1 => by
    cases b with
    | true => exact q1.1 rfl σ H1 Z1 I1 P fun v H2 Z2 x g2 I2 s2 => p v H2 Z2 x g2 I2 (s1.trans s2)
    | false => exact q1.2 rfl σ H1 Z1 I1 P fun v H2 Z2 x g2 I2 s2 => p v H2 Z2 x g2 I2 (s1.trans s2)
theorem ae_andV (h : AE K C ta g fun x g1 => ∃ b, x = .d (.bool b) ∧ BR b (AE K C tb g1 Q) (Q (.d (.bool false)) g1)) : AE K C (tAndV ta tb) g Q := fun σ H Z I P p =>
  h σ H Z I _ fun v H1 Z1 x g1 I1 s1 a1 q1 => by
    obtain ⟨b, rfl, q⟩ := q1
    cases a1
    refine ⟨b, rfl, ?_⟩
    cases b with
    | true => exact q.1 rfl σ H1 Z1 I1 P fun v H2 Z2 x g2 I2 s2 => p v H2 Z2 x g2 I2 (s1.trans s2)
    | false => exact p _ H1 Z1 (.d (.bool false)) g1 I1 s1 (Dd.bl false) (q.2 rfl)
theorem ae_orV (h : AE K C ta g fun x g1 => ∃ b, x = .d (.bool b) ∧ BR b (Q (.d (.bool true)) g1) (AE K C tb g1 Q)) : AE K C (tOrV ta tb) g Q := fun σ H Z I P p =>
  h σ H Z I _ fun v H1 Z1 x g1 I1 s1 a1 q1 => by
    obtain ⟨b, rfl, q⟩ := q1
    cases a1
    refine ⟨b, rfl, ?_⟩
    cases b with
    | true => exact p _ H1 Z1 (.d (.bool true)) g1 I1 s1 (Dd.bl true) (q.1 rfl)
    | false => exact q.2 rfl σ H1 Z1 I1 P fun v H2 Z2 x g2 I2 s2 => p v H2 Z2 x g2 I2 (s1.trans s2)
theorem ae_notV (h : AE K C ta g fun x g1 => ∃ b, x = .d (.bool b) ∧ Q (.d (.bool (!b))) g1) : AE K C (tNotV ta) g Q := fun σ H Z I P p =>
  h σ H Z I _ fun v H1 Z1 x g1 I1 s1 a1 q1 => by
    obtain ⟨b, rfl, q⟩ := q1
    cases a1
    exact ⟨b, rfl, p _ H1 Z1 (.d (.bool (!b))) g1 I1 s1 (Dd.bl _) q⟩
theorem ae_isN (h : AE K C ta g fun x g1 => ∃ d, x = .d d ∧ Q (.d (.bool (match d with | .none => true | _ => false))) g1) : AE K C (tIsN ta) g Q := fun σ H Z I P p =>
  h σ H Z I _ fun v H1 Z1 x g1 I1 s1 a1 q1 => by
    obtain ⟨d, rfl, q⟩ := q1
    have a2 : Dd K Z1 v d := a1
    refine p _ H1 Z1 (.d _) g1 I1 s1 ?_ q
    cases a2 <;> exact Dd.bl _
theorem ae_notN (h : AE K C ta g fun x g1 => ∃ d, x = .d d ∧ Q (.d (.bool (match d with | .none => false | _ => true))) g1) : AE K C (tNotN ta) g Q := fun σ H Z I P p =>
  h σ H Z I _ fun v H1 Z1 x g1 I1 s1 a1 q1 => by
    obtain ⟨d, rfl, q⟩ := q1
    have a2 : Dd K Z1 v d := a1
    refine p _ H1 Z1 (.d _) g1 I1 s1 ?_ q
    cases a2 <;> exact Dd.bl _
/-- a < b < c -/
theorem ae_chain {tc : TE} {r r' : R2} (h : AE K C ta g fun x g1 => AE K C tb g1 fun y g2 => RA K C r x y g2 fun z g3 => ∃ b, z = .d (.bool b) ∧ BR b (AE K C tc g3 fun w g4 => RA K C r' y w g4 Q) (Q (.d (.bool false)) g3)) : AE K C (tChain r r' ta tb tc) g Q := fun σ H Z I P p =>
  h σ H Z I _ fun v H1 Z1 x g1 I1 s1 a1 q1 => q1 σ H1 Z1 I1 _ fun w H2 Z2 y g2 I2 s2 a2 q2 => q2 σ H2 Z2 v w I2 (a1.mono s2) a2 _ fun u H3 Z3 z g3 I3 s3 a3 q3 => by
    obtain ⟨b, rfl, q⟩ := q3
    cases a3
    refine ⟨b, rfl, ?_⟩
    cases b with
    | true => exact q.1 rfl σ H3 Z3 I3 _ fun w' H4 Z4 w4 g4 I4 s4 a4 q4 => q4 σ H4 Z4 w w' I4 ((a2.mono s3).mono s4) a4 P fun u H5 Z5 z g5 I5 s5 => p u H5 Z5 z g5 I5 ((((s1.trans s2).trans s3).trans s4).trans s5)
    | false => exact p _ H3 Z3 (.d (.bool false)) g3 I3 ((s1.trans s2).trans s3) (Dd.bl false) (q.2 rfl)

/-! ### tests -/
variable {QT : Bool → Gm → Prop}
theorem at_test (h : AE K C te g fun x g1 => ∃ b, x = .d (.bool b) ∧ QT b g1) : AT K C (tTest te) g QT := fun σ H Z I P p =>
  h σ H Z I _ fun v H1 Z1 x g1 I1 s1 a1 q1 => by
    obtain ⟨b, rfl, q⟩ := q1
    cases a1
    exact ⟨b, rfl, p _ H1 Z1 g1 I1 s1 q⟩
theorem at_B (h : AE K C te g fun x g1 => ∃ b, x = .d (.bool b) ∧ QT b g1) : AT K C (tB te) g QT := fun σ H Z I P p =>
  h σ H Z I _ fun v H1 Z1 x g1 I1 s1 a1 q1 => by
    obtain ⟨b, rfl, q⟩ := q1
    cases a1
    exact ⟨b, rfl, p _ H1 Z1 g1 I1 s1 q⟩
theorem at_not (h : AT K C tt g fun b g1 => QT (!b) g1) : AT K C (tNot tt) g QT := fun σ H Z I P p =>
  h σ H Z I _ fun b H1 Z1 g1 I1 s1 q1 => p _ H1 Z1 g1 I1 s1 q1
theorem at_and (h : AT K C tt g fun b g1 => BR b (AT K C tu g1 QT) (QT false g1)) : AT K C (tAnd tt tu) g QT := fun σ H Z I P p =>
  h σ H Z I _ fun b H1 Z1 g1 I1 s1 q1 => by
    cases b with
    | true => exact q1.1 rfl σ H1 Z1 I1 P fun v H2 Z2 g2 I2 s2 => p v H2 Z2 g2 I2 (s1.trans s2)
    | false => exact p _ H1 Z1 g1 I1 s1 (q1.2 rfl)
theorem at_or (h : AT K C tt g fun b g1 => BR b (QT true g1) (AT K C tu g1 QT)) : AT K C (tOr tt tu) g QT := fun σ H Z I P p =>
  h σ H Z I _ fun b H1 Z1 g1 I1 s1 q1 => by
    cases b with
    | true => exact p _ H1 Z1 g1 I1 s1 (q1.1 rfl)
    | false => exact q1.2 rfl σ H1 Z1 I1 P fun v H2 Z2 g2 I2 s2 => p v H2 Z2 g2 I2 (s1.trans s2)

/-! ### targets -/
variable {QG : Gm → Prop}
theorem ag_d {i : Nat} {d : PyData} (h : SetE g i (.im d) g') (q : QG g') : AG K C (gName i) (.d d) g QG := fun σ H Z v I a P p =>
  p g' _ H Z (I.setD a h) (Same.refl _) q
theorem ag_v {i : Nat} {v : V} (h : SetE g i (.vl v) g') (q : QG g') : AG K C (gName i) (.v v) g QG := fun σ H Z v I a P p => by
  cases a
  exact p g' _ H Z (I.setV h) (Same.refl _) q
/-- several targets, data given -/
def AGs (K : PySem.W.Frag) (C : Ct) (tg : TGs) (ds : List PyData) (g : Gm) (Q : Gm → Prop) : Prop := ∀ σ H Z vs, Ok K C g σ H Z → DdA K Z vs ds → ∀ Q' : St → Hp → Prop, (∀ g' σ' H' Z', Ok K C g' σ' H' Z' → Same Z Z' → Q g' → Q' σ' H') → tg vs σ H Q'
theorem ags_nil (q : QG g) : AGs K C gNil [] g QG := fun σ H Z vs I a P p => by
  cases a
  exact ⟨rfl, p g σ H Z I (Same.refl _) q⟩
theorem ags_cons {t : TG} {u : TGs} {d : PyData} {ds : List PyData} (h : AG K C t (.d d) g fun g1 => AGs K C u ds g1 QG) : AGs K C (gCons t u) (d :: ds) g QG := fun σ H Z vs I a P p => by
  cases a with
  | @cons v vs _ _ a1 a2 =>
    exact ⟨v, vs, rfl, h σ H Z v I a1 _ fun g1 σ1 H1 Z1 I1 s1 q1 => q1 σ1 H1 Z1 vs I1 (a2.mono s1) P fun g2 σ2 H2 Z2 I2 s2 => p g2 σ2 H2 Z2 I2 (s1.trans s2)⟩
theorem ag_tup {n : Nat} {t : TGs} {ds : List PyData} (hl : ds.length = n) (h : AGs K C t ds g QG) : AG K C (gTup K n t) (.d (.tuple ds)) g QG := fun σ H Z v I a P p => by
  have a' : Dd K Z v (.tuple ds) := a
  cases a' with
  | @tup q xs _ a1 a2 =>
    exact ⟨q, xs, rfl, Same.seqT I.fz a1, by rw [a2.length]; exact hl, h σ H Z xs I a2 P p⟩

/-! ### statements -/
variable {D : Ae} {ts tu' : TS} {tg : TG}
theorem Does.mono {Za Zb : Hp} {D' : Ends} (d : Does K C Za D D') (s : Same Za Zb) : Does K C Zb D D' :=
  ⟨fun g σ H Z I q => d.nx g σ H Z I (s.trans q), fun x v g σ H Z I q => d.rt x v g σ H Z I (s.trans q), fun g σ H Z I q => d.bk g σ H Z I (s.trans q), fun g σ H Z I q => d.ct g σ H Z I (s.trans q), fun ds p g σ H Z I q => d.rn ds p g σ H Z I (s.trans q)⟩
theorem Does.seq {Za : Hp} {D' : Ends} (d : Does K C Za D D') : Does K C Za { D with nx := fun g => AS K C tu' g D } { D' with nx := tu' D' } :=
  ⟨fun g σ H Z I s q => q σ H Z I D' (d.mono s), d.rt, d.bk, d.ct, d.rn⟩
theorem as_next (q : D.nx g) : AS K C tNext g D := fun σ H Z I D' d => d.nx g σ H Z I (Same.refl _) q
theorem as_seq (h : AS K C ts g { D with nx := fun g' => AS K C tu' g' D }) : AS K C (tSeq ts tu') g D := fun σ H Z I D' d => h σ H Z I _ d.seq
theorem as_drop (h : AE K C te g fun _ g' => D.nx g') : AS K C (tDrop te) g D := fun σ H Z I D' d => h σ H Z I _ fun v H1 Z1 x g1 I1 s1 a1 q1 => d.nx g1 σ H1 Z1 I1 s1 q1
theorem as_ret (h : AE K C te g D.rt) : AS K C (tRet te) g D := fun σ H Z I D' d => h σ H Z I _ fun v H1 Z1 x g1 I1 s1 a1 q1 => d.rt x v g1 σ H1 Z1 I1 s1 a1 q1
theorem as_retL (h : AN K C te g D.rn) : AS K C (tRet te) g D := fun σ H Z I D' d => h σ H Z I _ fun p H1 Z1 ds g1 I1 s1 n q1 => d.rn ds p g1 σ H1 Z1 I1 s1 n q1
theorem as_if (h : AT K C tt g fun b g1 => BR b (AS K C ts g1 D) (AS K C tu' g1 D)) : AS K C (tIfS tt ts tu') g D := fun σ H Z I D' d =>
  h σ H Z I _ fun b H1 Z1 g1 I1 s1 q1 => by
    cases b with
    | true => exact q1.1 rfl σ H1 Z1 I1 D' (d.mono s1)
    | false => exact q1.2 rfl σ H1 Z1 I1 D' (d.mono s1)
theorem as_brk (q : D.bk g) : AS K C tBreak g D := fun σ H Z I D' d => d.bk g σ H Z I (Same.refl _) q
theorem as_ct (q : D.ct g) : AS K C tCont g D := fun σ H Z I D' d => d.ct g σ H Z I (Same.refl _) q
theorem as_asg (h : AE K C te g fun x g1 => AG K C tg x g1 D.nx) : AS K C (tAsg te tg) g D := fun σ H Z I D' d =>
  h σ H Z I _ fun v H1 Z1 x g1 I1 s1 a1 q1 => q1 σ H1 Z1 v I1 a1 _ fun g2 σ2 H2 Z2 I2 s2 q2 => d.nx g2 σ2 H2 Z2 I2 (s1.trans s2) q2
/-- a slot takes a new list to change -/
theorem as_asgN {i : Nat} (h : AN K C te g fun ds g1 => ∃ g2, SetE g1 i (.ls none ds) g2 ∧ D.nx g2) : AS K C (tAsg te (gName i)) g D := fun σ H Z I D' d =>
  h σ H Z I _ fun p H1 Z1 ds g1 I1 s1 n q1 => by
    obtain ⟨g2, h2, q⟩ := q1
    exact d.nx g2 _ H1 Z1 (I1.setL n h2) s1 q
theorem as_par {i j : Nat} {tr : TA} (h : AA K C tr g fun xs g1 => ∃ d e g2 g3, xs = [.d d, .d e] ∧ SetE g1 i (.im d) g2 ∧ SetE g2 j (.im e) g3 ∧ D.nx g3) : AS K C (tPar i j tr) g D := fun σ H Z I D' d =>
  h σ H Z I _ fun vs H1 Z1 xs g1 I1 s1 a1 q1 => by
    obtain ⟨x, y, g2, g3, rfl, h2, h3, q⟩ := q1
    cases a1 with
    | @cons _ v _ _ a2 a3 =>
      cases a3 with
      | @cons _ w _ _ a4 a5 =>
        cases a5
        exact ⟨v, w, rfl, d.nx g3 _ H1 Z1 ((I1.setD a2 h2).setD a4 h3) s1 q⟩
theorem as_aug {i : Nat} {f : Int → Int → Int} {a : Int} (h0 : g[i]? = some (.im (.int a))) (h : AE K C te g fun x g1 => ∃ b g2, x = .d (.int b) ∧ SetE g1 i (.im (.int (f a b))) g2 ∧ D.nx g2) : AS K C (tAug i te (ipI f)) g D := fun σ H Z I D' d => by
  obtain ⟨v, e1, e2⟩ := I.ent i _ h0
  refine ⟨v, e1, h σ H Z I _ fun w H1 Z1 x g1 I1 s1 a1 q1 => ?_⟩
  obtain ⟨b, g2, rfl, h2, q⟩ := q1
  cases e2; cases a1
  exact ⟨a, b, rfl, rfl, d.nx g2 _ H1 Z1 (I1.setD (Dd.int _) h2) s1 q⟩
/-- while: m falls -/
theorem as_while (J : Nat → Gm → Prop) (h0 : ∃ m, J m g) (h : ∀ m g', J m g' → AT K C tt g' fun b g2 => BR b (AS K C ts g2 { D with nx := fun g3 => ∃ m', m' < m ∧ J m' g3, ct := fun g3 => ∃ m', m' < m ∧ J m' g3, bk := D.nx }) (D.nx g2)) : AS K C (tWhile tt ts) g D := fun σ H Z I D' d => by
  obtain ⟨m0, h0⟩ := h0
  refine ⟨fun m σ H => ∃ g' Z', Ok K C g' σ H Z' ∧ Same Z Z' ∧ J m g', ⟨m0, g, Z, I, Same.refl _, h0⟩, ?_⟩
  rintro m σ1 H1 ⟨g1, Z1, I1, s1, j1⟩
  refine h m g1 j1 σ1 H1 Z1 I1 _ fun b H2 Z2 g2 I2 s2 q2 => ?_
  have s02 := s1.trans s2
  cases b with
  | true =>
    show ∃ N : St → Hp → Prop, _
    refine ⟨fun σ3 H3 => ∃ m', m' < m ∧ ∃ g' Z', Ok K C g' σ3 H3 Z' ∧ Same Z Z' ∧ J m' g', fun _ _ z => z, ?_⟩
    have d2 := d.mono s02
    exact q2.1 rfl σ1 H2 Z2 I2 _ ⟨fun g3 σ3 H3 Z3 I3 s3 ⟨m', l, j⟩ => ⟨m', l, g3, Z3, I3, s02.trans s3, j⟩, d2.rt, d2.nx, fun g3 σ3 H3 Z3 I3 s3 ⟨m', l, j⟩ => ⟨m', l, g3, Z3, I3, s02.trans s3, j⟩, d2.rn⟩
  | false => exact d.nx g2 σ1 H2 Z2 I2 s02 (q2.2 rfl)
/-- what is walked: its items -/
structure Wk (K : PySem.W.Frag) (Z1 : Hp) (J : It) (ds : List PyData) : Prop where
  ex : ∃ (G : Hp → Prop) (Y : Nat → Hp → V → Hp → Prop), Walk J ds.length G Y ∧ (∀ (C : Ct) g σ H Z, Ok K C g σ H Z → Same Z1 Z → G H) ∧
    (∀ (C : Ct) i H x H' g σ Z d, Ok K C g σ H Z → Same Z1 Z → ds[i]? = some d → Y i H x H' → ∃ Z', Ok K C g σ H' Z' ∧ Same Z Z' ∧ Dd K Z' x d)
def AI (K : PySem.W.Frag) (C : Ct) (wi : TI) (g : Gm) (Q : List PyData → Gm → Prop) : Prop := ∀ σ H Z, Ok K C g σ H Z → ∀ R : It → Hp → Prop, (∀ J H' Z' ds g', Ok K C g' σ H' Z' → Same Z Z' → Wk K Z' J ds → Q ds g' → R J H') → wi σ H R
theorem as_for {wi : TI} (h : AI K C wi g fun ds g1 => ∃ J : Nat → Gm → Prop, J 0 g1 ∧ (∀ i d g', ds[i]? = some d → J i g' → AG K C tg (.d d) g' fun g2 => AS K C ts g2 { D with nx := J (i + 1), ct := J (i + 1), bk := D.nx }) ∧ ∀ g', J ds.length g' → D.nx g') : AS K C (tFor wi tg ts) g D := fun σ H Z I D' d =>
  h σ H Z I _ fun J H1 Z1 ds g1 I1 s1 w q => by
    obtain ⟨W, j0, js, jn⟩ := q
    obtain ⟨G, Y, wk, wg, wy⟩ := w.ex
    refine for_it wk (fun i σ H => ∃ g Z, Ok K C g σ H Z ∧ Same Z1 Z ∧ W i g) ⟨g1, Z1, I1, Same.refl _, j0⟩ (fun i σ H _ ⟨g, Z, I, s, _⟩ => wg C g σ H Z I s) ?_ fun σ H ⟨g, Z, I, s, q⟩ => d.nx g σ H Z I (s1.trans s) (jn g q)
    rintro i x σ2 H2 H3 hi ⟨g2, Z2, I2, s2, q2⟩ y
    have e : ds[i]? = some ds[i] := List.getElem?_eq_getElem hi
    obtain ⟨Z3, I3, s3, a3⟩ := wy C i H2 x H3 g2 σ2 Z2 _ I2 s2 e y
    refine js i _ g2 e q2 σ2 H3 Z3 x I3 a3 _ fun g4 σ4 H4 Z4 I4 s4 q4 => ?_
    have s14 : Same Z1 Z4 := (s2.trans s3).trans s4
    have d4 := d.mono (s1.trans s14)
    exact q4 σ4 H4 Z4 I4 _ ⟨fun g5 σ5 H5 Z5 I5 s5 q5 => ⟨g5, Z5, I5, s14.trans s5, q5⟩, d4.rt, d4.nx, fun g5 σ5 H5 Z5 I5 s5 q5 => ⟨g5, Z5, I5, s14.trans s5, q5⟩, d4.rn⟩

/-! ### what is walked -/
theorem ai_list {tl : TE} {QI : List PyData → Gm → Prop} (h : AE K C tl g fun x g1 => ∃ xs g2, Frz [x] g1 [.list xs] g2 ∧ QI xs g2) : AI K C (iList K tl) g QI := fun σ H Z I R p =>
  h σ H Z I _ fun v H1 Z1 x g1 I1 s1 a1 q1 => by
    obtain ⟨ds, g2, f, q⟩ := q1
    obtain ⟨Z2, I2, s2, r2⟩ := f.run I1 (.cons a1 .nil)
    cases r2 with
    | cons r3 _ =>
      cases r3 with
      | @lst a xs _ e1 e2 =>
        refine ⟨a, rfl, ⟨xs, SqL.of (I2.fz _ _ e1)⟩, p _ H1 Z2 ds g2 I2 (s1.trans s2) ⟨fun H => SqL K H a xs, YAt xs, ?_, fun _ g σ H Z I s => SqL.of (I.fz _ _ (s _ _ e1)), fun _ i H x H' g σ Z d I s e y => ?_⟩ q⟩
        · rw [← e2.length]; exact walk_list
        · obtain ⟨rfl, y2⟩ := y
          obtain ⟨d', k1, k2⟩ := (e2.mono s).getV y2
          rw [e] at k1; cases k1
          exact ⟨Z, I, Same.refl _, k2⟩
theorem ai_tup {tl : TE} {QI : List PyData → Gm → Prop} (h : AE K C tl g fun x g1 => ∃ xs, x = .d (.tuple xs) ∧ QI xs g1) : AI K C (iTup K tl) g QI := fun σ H Z I R p =>
  h σ H Z I _ fun v H1 Z1 x g1 I1 s1 a1 q1 => by
    obtain ⟨ds, rfl, q⟩ := q1
    have a2 : Dd K Z1 v (.tuple ds) := a1
    cases a2 with
    | @tup a xs _ e1 e2 =>
      refine ⟨a, rfl, ⟨xs, Same.seqT I1.fz e1⟩, p _ H1 Z1 ds g1 I1 s1 ⟨fun H => SqT K H a xs, YAt xs, ?_, fun _ g σ H Z I s => Same.seqT I.fz (Same.seqT s e1), fun _ i H x H' g σ Z d I s e y => ?_⟩ q⟩
      · rw [← e2.length]; exact walk_tup
      · obtain ⟨rfl, y2⟩ := y
        obtain ⟨d', k1, k2⟩ := (e2.mono s).getV y2
        rw [e] at k1; cases k1
        exact ⟨Z, I, Same.refl _, k2⟩
def rangeD (lo : Int) (n : Nat) : List PyData := (List.range n).map fun i => .int (lo + (i : Nat))
theorem rangeD_len (lo : Int) (n : Nat) : (rangeD lo n).length = n := by simp [rangeD]
theorem rangeD_get {lo : Int} {n i : Nat} {d : PyData} (h : (rangeD lo n)[i]? = some d) : i < n ∧ d = .int (lo + (i : Nat)) := by
  simp only [rangeD, List.getElem?_map, Option.map_eq_some_iff] at h
  obtain ⟨j, h1, h2⟩ := h
  have h3 := List.getElem?_eq_some_iff.mp h1
  obtain ⟨h4, h5⟩ := h3
  simp at h4 h5
  subst h5
  exact ⟨h4, h2.symm⟩
theorem wk_range {Z1 : Hp} {lo : Int} {n : Nat} : Wk K Z1 (Itr lo n) (rangeD lo n) := by
  refine ⟨fun _ => True, YFn fun i => .int (lo + i), ?_, fun _ _ _ _ _ _ _ => trivial, fun _ i H x H' g σ Z d I s e y => ?_⟩
  · rw [rangeD_len]; exact walk_range
  · obtain ⟨rfl, rfl⟩ := y
    obtain ⟨_, rfl⟩ := rangeD_get e
    exact ⟨Z, I, Same.refl _, .int _⟩
theorem ai_range1 {tr : TA} {QI : List PyData → Gm → Prop} (h : AA K C tr g fun xs g1 => ∃ j, xs = [.d (.int j)] ∧ -(2 ^ 62) ≤ j ∧ j < 2 ^ 62 ∧ QI (rangeD 0 j.toNat) g1) : AI K C (iRng1 tr) g QI := fun σ H Z I R p =>
  h σ H Z I _ fun vs H1 Z1 xs g1 I1 s1 a1 q1 => by
    obtain ⟨j, rfl, h1, h2, q⟩ := q1
    cases a1 with
    | cons a2 a3 =>
      cases a3; cases a2
      exact ⟨j, rfl, h1, h2, p _ H1 Z1 _ g1 I1 s1 wk_range q⟩
theorem ai_range2 {tr : TA} {QI : List PyData → Gm → Prop} (h : AA K C tr g fun xs g1 => ∃ i j, xs = [.d (.int i), .d (.int j)] ∧ (-(2 ^ 62) ≤ i ∧ i < 2 ^ 62 ∧ -(2 ^ 62) ≤ j ∧ j < 2 ^ 62) ∧ QI (rangeD i (j - i).toNat) g1) : AI K C (iRng2 tr) g QI := fun σ H Z I R p =>
  h σ H Z I _ fun vs H1 Z1 xs g1 I1 s1 a1 q1 => by
    obtain ⟨i, j, rfl, h1, q⟩ := q1
    cases a1 with
    | cons a2 a3 =>
      cases a3 with
      | cons a4 a5 =>
        cases a5; cases a4; cases a2
        exact ⟨i, j, rfl, h1, p _ H1 Z1 _ g1 I1 s1 wk_range q⟩
/-- pairs of a place and an item -/
def enumD (ds : List PyData) : List PyData := ds.zipIdx.map fun p => .tuple [.int (p.2 : Nat), p.1]
theorem enumD_len (ds : List PyData) : (enumD ds).length = ds.length := by simp [enumD]
theorem enumD_get {ds : List PyData} {i : Nat} {d : PyData} (h : (enumD ds)[i]? = some d) : ∃ e, ds[i]? = some e ∧ d = .tuple [.int (i : Nat), e] := by
  simp only [enumD, List.getElem?_map, Option.map_eq_some_iff, List.getElem?_zipIdx] at h
  obtain ⟨j, ⟨e, h1, h2⟩, h3⟩ := h
  subst h2
  refine ⟨e, h1, ?_⟩
  rw [← h3]; simp
end
end AL
/-! enumerate of a tuple. -/
namespace AL
open PySem PySem.Spec L2
open Sem (wp)
theorem meets_enumerate_new1 {v : Value} {o : Obj} {H : Heap → Prop} (B : Begins v o H) :
    Meets (Builtin.«enumerate.__new__» ⟨[.type "enumerate", v], []⟩) (fun _ R s => H s.heap ∧
      R (.ok (.ret (.ref (s.heap.push o).objs.size))) { s with heap := (s.heap.push o).push { cls := .type "enumerate", data := .fields #[.none, .bool false, .ref s.heap.objs.size, rawInt 0, .none, .none] } }) :=
  .of_wp fun prog w A R s h => by
    obtain ⟨hp, g, d, tk, os⟩ := s; obtain ⟨h1, h⟩ := h
    have hsub := sub_enumerate
    have q1 : ∀ {A' : Around} {E : Value → Shared → Prop} {Q : Value → Shared → Prop}, Q (.ref hp.objs.size) ⟨hp.push o, g, d, tk, os⟩ → wpAny (model prog w) A' (pyIter v) Q E ⟨hp, g, d, tk, os⟩ :=
      fun q => B.iter prog w _ _ ⟨hp, g, d, tk, os⟩ _ h1 q
    wp_walk using q1
    refine wpAny_stack_any fun st => wpAny_pure ?_
    split
    · rename_i c _ _ _ _ _
      cases (c == Value.type "enumerate")
      · wp_walk using q1
        exact ⟨_, rfl, h⟩
      · wp_walk using q1
        exact ⟨_, rfl, h⟩
    · wp_walk using q1
      exact ⟨_, rfl, h⟩
theorem call_enumerate_1 {prog : Program} {w : World} {A : Around} {E : Value → Shared → Prop} {s : Shared} {v : Value} {o : Obj} {H : Heap → Prop} {Q : Value → Shared → Prop} (B : Begins v o H) (h1 : H s.heap)
    (h : ∀ h', IsEnum h' (s.heap.objs.size + 1) s.heap.objs.size 0 .none → h'.get? s.heap.objs.size = some o → h'.objs.size = s.heap.objs.size + 2 →
      (∀ b o, s.heap.get? b = some o → h'.get? b = some o) → Q (.ref (s.heap.objs.size + 1)) { s with heap := h' }) :
    wpAny (model prog w) A (call (.type "enumerate") [v]) Q E s := by
  refine callType_new F.called_enumerate (by decide) (F.typeCall_enumerate_1 _) (F.newCall_enumerate_1 _) (fun obj => F.args_object_init_2 obj _) F.entry_enumerate_new
    (meets_enumerate_new1 B) ⟨h1, ?_⟩
  have hz : (s.heap.push o).objs.size = s.heap.objs.size + 1 := Heap.size_push ..
  show _ ∧ _
  rw [hz]
  have he : IsEnum ((s.heap.push o).push { cls := .type "enumerate", data := .fields #[.none, .bool false, .ref s.heap.objs.size, rawInt 0, .none, .none] }) (s.heap.objs.size + 1) s.heap.objs.size 0 .none := by
    have := Heap.get?_push_size (s.heap.push o) (o := { cls := .type "enumerate", data := .fields #[.none, .bool false, .ref s.heap.objs.size, rawInt 0, .none, .none] }) rfl
    rw [hz] at this; exact this
  refine ⟨⟨_, he, rfl⟩, h _ he (Heap.get?_push_of_some _ (Heap.get?_push_size _ B.free)) (by rw [Heap.size_push, hz]) fun b o x => Heap.get?_push_of_some _ (Heap.get?_push_of_some _ x)⟩

/-- the tuple at a, its items in new pairs with their places -/
def IteT (K : PySem.W.Frag) (a : Addr) : It :=
  ⟨fun i H => ∃ (xs : List V) (x : V), SqT K H a xs ∧ xs[i]? = some x, fun i H v H' => ∃ T x, v = .ref T ∧ H T = none ∧ H' = upd H T (.tup [.int (i : Nat), x]) ∧ ∀ xs, SqT K H a xs → xs[i]? = some x, fun i H => ∃ xs : List V, SqT K H a xs ∧ xs.length ≤ i⟩
theorem turn_enumT {P : Program} {w : World} {K : PySem.W.Frag} {elts : List Expr} {kk : Nat} {tpos : Pos} (a e it : Addr) :
    Turn P w K (.Tuple elts kk tpos) (IteT K a) [e, it] e (fun i h => (∃ old, IsEnum h e it ((i : Nat) : Int) old) ∧ h.IsTupleIter it a i ∧ e ≠ it) where
  mem := by simp
  obj := fun i h st b hb => by
    obtain ⟨⟨old, he⟩, ⟨o, ho, hc, hd⟩, _⟩ := st
    have e' : b = e ∨ b = it := by simpa using hb
    rcases e' with z | z
    · rw [z]; exact ⟨_, he, fun v q => nomatch q⟩
    · rw [z]; exact ⟨o, ho, fun v q => by rw [hd] at q; cases q⟩
  keep := fun i h h' st k => let ⟨⟨old, he⟩, hi, hne⟩ := st; ⟨⟨old, k e (by simp) _ he⟩, hi.at fun o q => k it (by simp) o q, hne⟩
  item := by
    intro X hP hw hK hc i pins s σ H E I hf st hg
    subst hP hw hK
    obtain ⟨⟨old, he⟩, hit, hne⟩ := st
    obtain ⟨xs, x, hq, hx⟩ := hg
    obtain ⟨its, rv, p, hz⟩ := I.tuple hq
    obtain ⟨u, hu, ru⟩ := rv.get hx
    have hel : e < s.heap.objs.size := Heap.lt_size he
    have hil : it < s.heap.objs.size := by obtain ⟨_, q, _⟩ := hit; exact Heap.lt_size q
    have hilt : i < its.toArray.size := by
      have := (List.getElem?_eq_some_iff.mp hu).1
      simpa using this
    have ne1 : a ≠ it := fun z => by
      obtain ⟨o, q1, q2, _⟩ := hit
      obtain ⟨o', q3, q4, _⟩ := (show s.heap.IsTuple a its.toArray from p)
      rw [z, q1] at q3; cases q3; rw [q2] at q4; injection q4 with z2; exact absurd z2 (by decide)
    have ne2 : e ≠ a := fun z => by
      obtain ⟨o', q3, q4, _⟩ := (show s.heap.IsTuple a its.toArray from p)
      have he' : s.heap.get? e = some _ := he
      rw [z, q3] at he'; injection he' with z1; rw [z1] at q4; injection q4 with z2; exact absurd z2 (by decide)
    have D := Draws.tuple (prog := X.prog) (w := X.w) (A := X.A.in1) (I.ok.hd hc) it a ne1 its.toArray
    refine wpAny_pyNext_enum_itemD D he ⟨hit, p⟩ hilt hne (by simp [hne, ne2]) fun y h' tk hy ho st' hT hsz hk => ?_
    have ey : u = y := by
      have h1 : its[i]? = some y := by simpa using hy
      rw [hu] at h1; exact Option.some.inj h1
    subst ey
    refine ⟨_, rfl, wpAny_letOwnedTupleGo_enum (s := { s with heap := h', toks := tk + 1 }) ho fun h'' he' sb => ?_⟩
    have hT2 : h''.get? s.heap.objs.size = some { cls := .type "tuple", data := .seq #[.int i tk, u] } := (sb.2 _ (Nat.ne_of_gt hel)).trans hT
    have new : ObjOk X.prog X.w (upd H s.heap.objs.size (.tup [.int (i : Nat), x])) h'' s.heap.objs.size (.tup [.int (i : Nat), x]) :=
      ⟨by show 2 ≤ sizeLine; decide, [.int i tk, u], .cons ⟨_, rfl⟩ (.cons ru .nil), ⟨_, hT2, rfl, _, rfl⟩⟩
    have I1 : Inv X pins σ (upd H s.heap.objs.size (.tup [.int (i : Nat), x])) { s with heap := h'', toks := tk + 1 } :=
      I.turnedNew (ch := [e, it]) (fun b ob hb q => (sb.2 b (fun z => hb (by simp [z]))).trans (hk b ob (fun z => hb (by simp [z])) (fun z => hb (by simp [z])) q)) hf (Nat.le_refl _) new
    refine ⟨.ref s.heap.objs.size, _, I1, rfl, ⟨_, x, rfl, I.hok.fresh (Nat.le_refl _), rfl, fun ys hy => by rw [I.tuple_inj hy hq]; exact hx⟩, ⟨⟨u, ?_⟩, st'.1.at fun o q => (sb.2 it (Ne.symm hne)).trans q, hne⟩, fun b hb => ?_⟩
    · have e1 : ((i + 1 : Nat) : Int) = (i : Int) + 1 := by omega
      rw [e1]; exact he'
    · have hb' : b < s.heap.objs.size := by
        have e' : b = e ∨ b = it := by simpa using hb
        rcases e' with z | z
        · rw [z]; exact hel
        · rw [z]; exact hil
      rw [upd_ne (Nat.ne_of_lt hb')]
      exact (hf b hb).1
  done := by
    intro X hP hw hK hc i pins s σ H E I hf st hg
    subst hP hw hK
    obtain ⟨⟨old, he⟩, hit, hne⟩ := st
    obtain ⟨xs, hq, hx⟩ := hg
    obtain ⟨its, rv, p, hz⟩ := I.tuple hq
    obtain ⟨f0, f1, f2, f3, f4, f5⟩ := hf it (by simp)
    have hl := rv.length
    have hT : s.TypeIs (.ref e) "enumerate" := ⟨_, he, rfl⟩
    unfold pyNext
    refine wpAny_bind (wpAny_attempt (wpAny_callSpecial?_slot (name := Str.ofString "__next__") hT F.slot_enumerate_next
      (wpAny_call_entry F.slot_enumerate_next hT F.entry_enumerate_next ?_ (F.args_enumerate_next_1 _))))
    show wpAny _ _ (field (.ref e) 2 >>= _) _ _ _
    refine wpAny_bind (wpAny_field he rfl (x := .ref it) rfl ?_)
    refine wpAny_bind (wpAny_nextOf_tuple_end (A := X.A.in1) (I.ok.hd hc) hit p (by simp; omega) fun h' x he' hx' => ?_)
    obtain ⟨o, ho, hc'⟩ := hx'
    refine wpAny_bind (wpAny_isInstance (T := "StopIteration") (b := true) ⟨o, ho, hc'⟩ isSubtype_stop ?_)
    exact wpAny_pure ⟨rfl, I.turned (t' := s.toks) (fun b o hb q => he' b o hb q) f0 f1 f3 f4 f5⟩
  self := fun A i s Q E st h => let ⟨⟨_, he⟩, _⟩ := st; wpAny_pyIter_enum he h
/-- enumerate of a list or of a tuple -/
def iEnumA (K : PySem.W.Frag) (ta : TA) : TI := fun σ H R => ta σ H fun vs H1 => ∃ a xs, vs = [.ref a] ∧ ((SqL K H1 a xs ∧ R (Ite K a) H1) ∨ (SqT K H1 a xs ∧ R (IteT K a) H1))
theorem pi_enumA {X : Cx} {e : Expr} {ta : TA} {p pos tpos : Pos} {elts : List Expr} {kk : Nat} (hg : Gl X "enumerate") (hm : X.mg "enumerate" = none) (ha : PA X [e] ta) (hs : starEach [e] X.env = [(false, eval e X.env)] := by rfl) :
    PI X (.Tuple elts kk tpos) (.Call (.Name "enumerate" p) [e] [] pos) (iEnumA X.K ta) := by
  refine ⟨fun pins s σ H R I h => ?_⟩
  refine PyProof.Rows.Call_ (ld_blt I hg hm PyProof.Rows.boot_enumerate (PyProof.Rows.callWith_type1 (thn (ha.run pos pins s σ H _ I h) fun us s1 ⟨vs, H1, I1, r1, q1⟩ => ?_) hs rfl))
  obtain ⟨a, xs, ex, q⟩ := q1
  subst ex
  cases r1 with
  | cons r rr =>
    cases rr
    cases r
    have fp : ∀ b ∈ [s1.heap.objs.size + 1, s1.heap.objs.size], FpOk X pins H1 b := fun b hb => by
      have e' : b = s1.heap.objs.size + 1 ∨ b = s1.heap.objs.size := by simpa using hb
      have hle : s1.heap.objs.size ≤ b := by
        rcases e' with z | z
        · rw [z]; exact Nat.le_add_right _ _
        · rw [z]; exact Nat.le_refl _
      exact I1.fpOk hle (I1.hok.fresh hle)
    rcases q with ⟨hq, q⟩ | ⟨hq, q⟩
    · obtain ⟨its, rv, p', hz⟩ := I1.list hq
      refine call_enumerate_list p'.isList fun h' he hit hsz hk => wpAny_pyIter_enum he ?_
      have I2 : Inv X pins σ H1 { s1 with heap := h' } := I1.kept (t' := s1.toks) hk
      exact ⟨s1.heap.objs.size + 1, [s1.heap.objs.size + 1, s1.heap.objs.size], _, _, H1, rfl, I2, turn_enum a (s1.heap.objs.size + 1) s1.heap.objs.size, ⟨⟨.none, he⟩, hit, Nat.succ_ne_self _⟩, fp, q⟩
    · obtain ⟨its, rv, p', hz⟩ := I1.tuple hq
      refine call_enumerate_1 (begins_tuple a its.toArray) p' fun h' he hit hsz hk => wpAny_pyIter_enum he ?_
      have I2 : Inv X pins σ H1 { s1 with heap := h' } := I1.kept (t' := s1.toks) hk
      exact ⟨s1.heap.objs.size + 1, [s1.heap.objs.size + 1, s1.heap.objs.size], _, _, H1, rfl, I2, turn_enumT a (s1.heap.objs.size + 1) s1.heap.objs.size, ⟨⟨.none, he⟩, ⟨_, hit, rfl, rfl⟩, Nat.succ_ne_self _⟩, fp, q⟩
end AL
/-! The layer's rules over the text: contexts, names, expressions, calls. -/
namespace AL
open PySem PySem.Spec L2

/-! ### readings of the text itself -/
def tE (X : Cx) (e : Expr) : TE := fun σ H Q => ∀ pins s, Inv X pins σ H s → wpAny (model X.prog X.w) X.A (eval e X.env) (EP X pins σ Q) X.xe s
def tT (X : Cx) (e : Expr) : TT := fun σ H Q => ∀ pins s, Inv X pins σ H s → wpAny (model X.prog X.w) X.A (isTrue e X.env (eval e X.env)) (TP X pins σ Q) X.xe s
def tW (X : Cx) (e : Expr) : TT := fun σ H Q => ∀ wh pins s, Inv X pins σ H s → wpAny (model X.prog X.w) X.A (isTrue e X.env wh) (TP X pins σ Q) X.xe s
def tA (X : Cx) (es : List Expr) : TA := fun σ H Q => ∀ pos pins s, Inv X pins σ H s → wpAny (model X.prog X.w) X.A (spliced (backTo pos (starEach es X.env))) (AP X pins σ Q) X.xe s
def tS (X : Cx) (st : Stmt) : TS := fun D σ H => ∀ pins s, Inv X pins σ H s → wpAny (model X.prog X.w) X.A (exec st X.env) (SP X pins D) X.xe s
def tSs (X : Cx) (sts : List Stmt) : TS := fun D σ H => ∀ pins s, Inv X pins σ H s → wpAny (model X.prog X.w) X.A (execs sts X.env) (SP X pins D) X.xe s
def tG (X : Cx) (tg : Expr) : TG := fun v σ H Q => ∀ pins s u, Inv X pins σ H s → RelV v u → wpAny (model X.prog X.w) X.A (assign tg X.env u) (fun _ s' => ∃ σ' H', Inv X pins σ' H' s' ∧ Q σ' H') X.xe s
def tGs (X : Cx) (tgs : List Expr) : TGs := fun vs σ H Q => ∀ pins s us, Inv X pins σ H s → Vals vs us → wpAny (model X.prog X.w) X.A (assignInOrder ((assignEach tgs X.env).map (·.2)) us) (fun _ s' => ∃ σ' H', Inv X pins σ' H' s' ∧ Q σ' H') X.xe s
def tI (X : Cx) (tg iter : Expr) : TI := fun σ H R => ∀ pins s, Inv X pins σ H s → wpAny (model X.prog X.w) X.A (eval iter X.env) (fun v s1 => wpAny (model X.prog X.w) X.A (pyIter v) (PIE X pins σ tg R) X.xe s1) X.xe s
def tTs (X : Cx) (ifs : List Expr) : TT := fun σ H Q => ∀ pins s, Inv X pins σ H s → wpAny (model X.prog X.w) X.A (forIn ifs true fun c r => if r = true then do let ok ← isTrue c X.env (eval c X.env); pure (ForInStep.yield ok) else pure (ForInStep.yield r)) (TP X pins σ Q) X.xe s
section
variable {X : Cx} {e : Expr} {es : List Expr} {st : Stmt} {sts : List Stmt}
theorem pe_t : PE X e (tE X e) := ⟨fun pins s σ H Q I h => h pins s I⟩
theorem pt_t : PT X e (tT X e) := ⟨fun pins s σ H Q I h => h pins s I⟩
theorem pw_t : PW X e (tW X e) := ⟨fun wh pins s σ H Q I h => h wh pins s I⟩
theorem pa_t : PA X es (tA X es) := ⟨fun pos pins s σ H Q I h => h pos pins s I⟩
theorem ps_t : PS X st (tS X st) := ⟨fun pins s σ H D I h => h pins s I⟩
theorem pss_t : PSs X sts (tSs X sts) := ⟨fun pins s σ H D I h => h pins s I⟩
theorem pg_t {tg : Expr} : PG X tg (tG X tg) := ⟨fun pins s σ H v u Q I r h => h pins s u I r⟩
theorem pgs_t {tgs : List Expr} : PGs X tgs (tGs X tgs) := ⟨fun pins s σ H vs us Q I r h => h pins s us I r⟩
theorem pi_t {tg iter : Expr} : PI X tg iter (tI X tg iter) := ⟨fun pins s σ H R I h => h pins s I⟩
end
def EE (X : Cx) (C : Ct) (e : Expr) (g : Gm) (Q : Av → Gm → Prop) : Prop := AE X.K C (tE X e) g Q
def EN (X : Cx) (C : Ct) (e : Expr) (g : Gm) (Q : List PyData → Gm → Prop) : Prop := AN X.K C (tE X e) g Q
def ET (X : Cx) (C : Ct) (e : Expr) (g : Gm) (Q : Bool → Gm → Prop) : Prop := AT X.K C (tT X e) g Q
def EW (X : Cx) (C : Ct) (e : Expr) (g : Gm) (Q : Bool → Gm → Prop) : Prop := AT X.K C (tW X e) g Q
def ETs (X : Cx) (C : Ct) (es : List Expr) (g : Gm) (Q : Bool → Gm → Prop) : Prop := AT X.K C (tTs X es) g Q
def EA (X : Cx) (C : Ct) (es : List Expr) (g : Gm) (Q : List Av → Gm → Prop) : Prop := AA X.K C (tA X es) g Q
def ES (X : Cx) (C : Ct) (st : Stmt) (g : Gm) (D : Ae) : Prop := AS X.K C (tS X st) g D
def ESs (X : Cx) (C : Ct) (sts : List Stmt) (g : Gm) (D : Ae) : Prop := AS X.K C (tSs X sts) g D
def EG (X : Cx) (C : Ct) (tg : Expr) (x : Av) (g : Gm) (Q : Gm → Prop) : Prop := AG X.K C (tG X tg) x g Q
def EGs (X : Cx) (C : Ct) (tgs : List Expr) (ds : List PyData) (g : Gm) (Q : Gm → Prop) : Prop := AGs X.K C (tGs X tgs) ds g Q
def EI (X : Cx) (C : Ct) (tg iter : Expr) (g : Gm) (Q : List PyData → Gm → Prop) : Prop := AI X.K C (tI X tg iter) g Q
section
variable {X : Cx} {C : Ct} {g : Gm} {e : Expr} {Q : Av → Gm → Prop}
theorem EE.of {t : TE} (h : PE X e t) (a : AE X.K C t g Q) : EE X C e g Q := fun σ H Z I P p pins s J => h.run pins s σ H P J (a σ H Z I P p)
theorem EN.of {t : TE} {QL : List PyData → Gm → Prop} (h : PE X e t) (a : AN X.K C t g QL) : EN X C e g QL := fun σ H Z I P p pins s J => h.run pins s σ H P J (a σ H Z I P p)
theorem ET.of {t : TT} {QT : Bool → Gm → Prop} (h : PT X e t) (a : AT X.K C t g QT) : ET X C e g QT := fun σ H Z I P p pins s J => h.run pins s σ H P J (a σ H Z I P p)
theorem EW.of {t : TT} {QT : Bool → Gm → Prop} (h : PW X e t) (a : AT X.K C t g QT) : EW X C e g QT := fun σ H Z I P p wh pins s J => h.run wh pins s σ H P J (a σ H Z I P p)
theorem ETs.of {es : List Expr} {t : TT} {QT : Bool → Gm → Prop} (h : PTs X es t) (a : AT X.K C t g QT) : ETs X C es g QT := fun σ H Z I P p pins s J => h.run pins s σ H P J (a σ H Z I P p)
theorem EA.of {es : List Expr} {t : TA} {QA : List Av → Gm → Prop} (h : PA X es t) (a : AA X.K C t g QA) : EA X C es g QA := fun σ H Z I P p pos pins s J => h.run pos pins s σ H P J (a σ H Z I P p)
theorem ES.of {st : Stmt} {t : TS} {D : Ae} (h : PS X st t) (a : AS X.K C t g D) : ES X C st g D := fun σ H Z I D' d pins s J => h.run pins s σ H D' J (a σ H Z I D' d)
theorem ESs.of {sts : List Stmt} {t : TS} {D : Ae} (h : PSs X sts t) (a : AS X.K C t g D) : ESs X C sts g D := fun σ H Z I D' d pins s J => h.run pins s σ H D' J (a σ H Z I D' d)
theorem EG.of {tg : Expr} {t : TG} {x : Av} {QG : Gm → Prop} (h : PG X tg t) (a : AG X.K C t x g QG) : EG X C tg x g QG := fun σ H Z v I r P p pins s u J q => h.run pins s σ H v u P J q (a σ H Z v I r P p)
theorem EGs.of {tgs : List Expr} {t : TGs} {ds : List PyData} {QG : Gm → Prop} (h : PGs X tgs t) (a : AGs X.K C t ds g QG) : EGs X C tgs ds g QG := fun σ H Z vs I r P p pins s us J q => h.run pins s σ H vs us P J q (a σ H Z vs I r P p)
theorem EI.of {tg iter : Expr} {t : TI} {QI : List PyData → Gm → Prop} (h : PI X tg iter t) (a : AI X.K C t g QI) : EI X C tg iter g QI := fun σ H Z I R p pins s J => h.run pins s σ H R J (a σ H Z I R p)
end

/-! ### contexts and names -/
structure CxF (X : Cx) (N : List Str) (sc : Scope) (k : Nat) : Prop where
  hN : X.N = N
  hsc : X.env.scope = sc
  calm : X.calm = true
  nd : N.Nodup
  room : Room k X.A
  fn : ∀ x, X.fn x = true
structure Nm (X : Cx) (i : Nat) (x : Str) : Prop where
  hN : X.N[i]? = some x
  vis : Vis X.env.scope x
  d1 : (x == ("__debug__" : Str)) = false
  d2 : (x == ("__classdict__" : Str)) = false
structure Lc (X : Cx) (i : Nat) (x : Str) : Prop where
  hN : X.N[i]? = some x
  nd : X.N.Nodup
  loc : Loc X.env.scope x
  fn : X.fn x = true ∨ X.env.scope.names.lookup x = some .local
structure Gn (X : Cx) (x : Str) : Prop where
  gl : Gl X x
  d1 : (x == ("__debug__" : Str)) = false
/-- a built-in's name -/
structure Bn (X : Cx) (x : Str) : Prop where
  gl : Gl X x
  mg : X.mg x = none
  d1 : (x == ("__debug__" : Str)) = false
  n1 : x ≠ "__name__"
def okName (x : Str) : Bool := !(x == ("__debug__" : Str)) && (!(x == ("__classdict__" : Str)) && !decide (x = "__name__"))
def visB (sc : Scope) (x : Str) : Bool := match sc.names.lookup x with
  | some .local => true
  | some .cell => true
  | some .free => true
  | _ => false
def locB (sc : Scope) (x : Str) : Bool := match sc.names.lookup x with
  | some .local => true
  | _ => false
def locC (sc : Scope) (x : Str) : Bool := match sc.names.lookup x with
  | some .local => true
  | some .cell => true
  | _ => false
def glB (sc : Scope) (x : Str) : Bool := match sc.names.lookup x with
  | some .globalImplicit => true
  | _ => false
theorem visB_ok {sc : Scope} {x : Str} (h : visB sc x = true) : Vis sc x := by
  unfold visB at h
  unfold Vis
  split at h <;> simp_all
theorem locB_ok {sc : Scope} {x : Str} (h : locB sc x = true) : sc.names.lookup x = some .local := by
  unfold locB at h
  split at h <;> simp_all
theorem locC_ok {sc : Scope} {x : Str} (h : locC sc x = true) : L2.Loc sc x := by
  unfold locC at h
  unfold L2.Loc
  split at h <;> simp_all
theorem glB_ok {sc : Scope} {x : Str} (h : glB sc x = true) : sc.names.lookup x = some .globalImplicit := by
  unfold glB at h
  split at h <;> simp_all
theorem okName_ok {x : Str} (h : okName x = true) : (x == ("__debug__" : Str)) = false ∧ (x == ("__classdict__" : Str)) = false ∧ x ≠ "__name__" := by
  unfold okName at h
  simp only [Bool.and_eq_true, Bool.not_eq_true', decide_eq_false_iff_not] at h
  exact h
section
variable {X : Cx} {N : List Str} {sc : Scope} {k i : Nat} {x : Str}
theorem CxF.nm (F : CxF X N sc k) (h : (decide (N[i]? = some x) && (visB sc x && okName x)) = true) : Nm X i x := by
  simp only [Bool.and_eq_true, decide_eq_true_eq] at h
  obtain ⟨h1, h2, h3⟩ := h
  have q := okName_ok h3
  exact ⟨by rw [F.hN]; exact h1, by rw [F.hsc]; exact visB_ok h2, q.1, q.2.1⟩
theorem CxF.lc (F : CxF X N sc k) (h : (decide (N[i]? = some x) && locC sc x) = true) : Lc X i x := by
  simp only [Bool.and_eq_true, decide_eq_true_eq] at h
  exact ⟨by rw [F.hN]; exact h.1, by rw [F.hN]; exact F.nd, by rw [F.hsc]; exact locC_ok h.2, .inl (F.fn x)⟩
theorem CxF.gn (F : CxF X N sc k) (h : (glB sc x && okName x) = true) : Gn X x := by
  simp only [Bool.and_eq_true] at h
  exact ⟨by show X.env.scope.names.lookup x = _; rw [F.hsc]; exact glB_ok h.1, (okName_ok h.2).1⟩
theorem CxF.bn (F : CxF X N sc k) (h : (glB sc x && okName x) = true) (m : X.mg x = none) : Bn X x := by
  simp only [Bool.and_eq_true] at h
  exact ⟨by show X.env.scope.names.lookup x = _; rw [F.hsc]; exact glB_ok h.1, m, (okName_ok h.2).1, (okName_ok h.2).2.2⟩
end

/-! ### blocks of comprehensions -/
theorem relabel_look {env : Env} {x : Str} {kd : NameKind} (hk : kd ≠ .free) : ∀ {names : List (Str × NameKind)}, names.lookup x = some kd →
    (names.map fun (n, k) => if (k == NameKind.free && env.scope.kind == .function && env.kindOf n == some .cell) then (n, NameKind.cell) else (n, k)).lookup x = some kd
  | [], h => by simp at h
  | (n, k) :: r, h => by
    have ih := @relabel_look env x kd hk r
    show List.lookup x ((if (k == NameKind.free && env.scope.kind == .function && env.kindOf n == some .cell) = true then (n, NameKind.cell) else (n, k)) :: _) = _
    cases hx : x == n with
    | true =>
      simp only [List.lookup_cons, hx] at h
      cases h
      have : (kd == NameKind.free) = false := by simpa using hk
      simp [List.lookup_cons, hx, this]
    | false =>
      simp only [List.lookup_cons, hx] at h
      by_cases hc : (k == NameKind.free && env.scope.kind == .function && env.kindOf n == some .cell) = true
      · rw [if_pos hc]; simp only [List.lookup_cons, hx]; exact ih h
      · rw [if_neg hc]; simp only [List.lookup_cons, hx]; exact ih h
theorem relabel_free {env : Env} {x : Str} : ∀ {names : List (Str × NameKind)}, names.lookup x = some .free →
    (names.map fun (n, k) => if (k == NameKind.free && env.scope.kind == .function && env.kindOf n == some .cell) then (n, NameKind.cell) else (n, k)).lookup x = some .free ∨
    (names.map fun (n, k) => if (k == NameKind.free && env.scope.kind == .function && env.kindOf n == some .cell) then (n, NameKind.cell) else (n, k)).lookup x = some .cell
  | [], h => by simp at h
  | (n, k) :: r, h => by
    have ih := @relabel_free env x r
    show List.lookup x ((if (k == NameKind.free && env.scope.kind == .function && env.kindOf n == some .cell) = true then (n, NameKind.cell) else (n, k)) :: _) = _ ∨ List.lookup x ((if (k == NameKind.free && env.scope.kind == .function && env.kindOf n == some .cell) = true then (n, NameKind.cell) else (n, k)) :: _) = _
    cases hx : x == n with
    | true =>
      simp only [List.lookup_cons, hx] at h
      cases h
      by_cases hc : (NameKind.free == NameKind.free && env.scope.kind == .function && env.kindOf n == some .cell) = true
      · rw [if_pos hc]; simp [List.lookup_cons, hx]
      · rw [if_neg hc]; simp [List.lookup_cons, hx]
    | false =>
      simp only [List.lookup_cons, hx] at h
      by_cases hc : (k == NameKind.free && env.scope.kind == .function && env.kindOf n == some .cell) = true
      · rw [if_pos hc]; simp only [List.lookup_cons, hx]; exact ih h
      · rw [if_neg hc]; simp only [List.lookup_cons, hx]; exact ih h
section
variable {X : Cx} {N : List Str} {sc scope : Scope} {k i : Nat} {x : Str} {s : Shared} {H : Hp} {Cm : Addr} {cl : List (Str × Addr)} {fp : List Addr}
abbrev bk (X : Cx) (scope : Scope) (s : Shared) (H : Hp) (Cm : Addr) (cl : List (Str × Addr)) (fp : List Addr) : Cx := X.blk s H scope (compEnvC scope cl Cm X.env) fp
theorem CxF.ok (F : CxF X N sc k) {own : List (Str × Nat)} (h : blkC N sc scope own = true) : BlkOk X.N X.env.scope scope own := by
  rw [F.hN, F.hsc]
  exact blkOk_by h
theorem Nm.blk (n : Nm X i x) (h : visB scope x = true) : Nm (bk X scope s H Cm cl fp) i x := by
  refine ⟨n.hN, ?_, n.d1, n.d2⟩
  show Vis (relabel scope X.env) x
  rcases visB_ok h with h | h | h
  · exact .inl (relabel_look (by decide) h)
  · exact .inr (.inl (relabel_look (by decide) h))
  · rcases relabel_free (env := X.env) h with z | z
    · exact .inr (.inr z)
    · exact .inr (.inl z)
theorem CxF.lcB (F : CxF X N sc k) (h : (decide (N[i]? = some x) && locB scope x) = true) : Lc (bk X scope s H Cm cl fp) i x := by
  simp only [Bool.and_eq_true, decide_eq_true_eq] at h
  have q : (relabel scope X.env).names.lookup x = some .local := relabel_look (by decide) (locB_ok h.2)
  exact ⟨by show X.N[i]? = _; rw [F.hN]; exact h.1, by show X.N.Nodup; rw [F.hN]; exact F.nd, .inl q, .inr q⟩
theorem CxF.nmB (F : CxF X N sc k) (h : (decide (N[i]? = some x) && (locB scope x && okName x)) = true) : Nm (bk X scope s H Cm cl fp) i x := by
  simp only [Bool.and_eq_true, decide_eq_true_eq] at h
  have q : (relabel scope X.env).names.lookup x = some .local := relabel_look (by decide) (locB_ok h.2.1)
  have z := okName_ok h.2.2
  exact ⟨by show X.N[i]? = _; rw [F.hN]; exact h.1, .inl q, z.1, z.2.1⟩
theorem Gn.blk (n : Gn X x) (h : glB scope x = true) : Gn (bk X scope s H Cm cl fp) x :=
  ⟨relabel_look (by decide) (glB_ok h), n.d1⟩
theorem gnB (h : (glB scope x && okName x) = true) : Gn (bk X scope s H Cm cl fp) x := by
  simp only [Bool.and_eq_true] at h
  exact ⟨relabel_look (by decide) (glB_ok h.1), (okName_ok h.2).1⟩
theorem bnB (h : (glB scope x && okName x) = true) (m : X.mg x = none) : Bn (bk X scope s H Cm cl fp) x := by
  simp only [Bool.and_eq_true] at h
  exact ⟨relabel_look (by decide) (glB_ok h.1), m, (okName_ok h.2).1, (okName_ok h.2).2.2⟩
end
end AL
/-! The layer's rules over the text: expressions. -/
namespace AL
open PySem PySem.Spec L2

section
variable {X : Cx} {C : Ct} {g g' : Gm} {e a b c : Expr} {es : List Expr} {pos p : Pos} {Q : Av → Gm → Prop} {QT : Bool → Gm → Prop} {x : Str}
/-! ### names, constants -/
theorem ee_im {i : Nat} {d : PyData} (n : Nm X i x) (h : g[i]? = some (.im d)) (q : Q (.d d) g) : EE X C (.Name x pos) g Q := EE.of (pe_var n.hN n.vis n.d1 n.d2) (ae_im h q)
theorem ee_ls {i : Nat} {w : Option Nat} {ds : List PyData} (n : Nm X i x) (h : g[i]? = some (.ls w ds)) (q : Q (.o i) g) : EE X C (.Name x pos) g Q := EE.of (pe_var n.hN n.vis n.d1 n.d2) (ae_ls h q)
theorem ee_vl {i : Nat} {v : V} (n : Nm X i x) (h : g[i]? = some (.vl v)) (q : Q (.v v) g) : EE X C (.Name x pos) g Q := EE.of (pe_var n.hN n.vis n.d1 n.d2) (ae_vl h q)
/-- a module's whole number -/
theorem ee_gi {i : Int} {t : Tok} (n : Gn X x) (m : X.mg x = some (.int i t)) (q : Q (.d (.int i)) g) : EE X C (.Name x pos) g Q := EE.of (pe_glob (v := .int i) n.gl m ⟨t, rfl⟩ n.d1) (ae_cd (fun _ => .int i) q)
/-- a module's def, class, object -/
theorem ee_gr {f : Addr} (n : Gn X x) (m : X.mg x = some (.ref f)) (q : Q (.v (.ref f)) g) : EE X C (.Name x pos) g Q := EE.of (pe_glob (v := .ref f) n.gl m rfl n.d1) (ae_cv q)
/-- a built-in class -/
theorem ee_ty {T : String} (n : Bn X x) (hv : bootBuiltins x = some (.type T)) (q : Q (.v (.ty T)) g) : EE X C (.Name x pos) g Q := EE.of (pe_bltn (v := .ty T) n.gl n.mg hv rfl n.n1 n.d1) (ae_cv q)
theorem ee_int {i : Int} {j : Nat} (q : Q (.d (.int i)) g) : EE X C (.Constant (.int i) j pos) g Q := EE.of pe_int (ae_cd (fun _ => .int i) q)
theorem ee_bl {i : Bool} {j : Nat} (q : Q (.d (.bool i)) g) : EE X C (.Constant (.bool i) j pos) g Q := EE.of pe_bl (ae_cd (fun _ => .bl i) q)
theorem ee_non {j : Nat} (q : Q (.d .none) g) : EE X C (.Constant .none j pos) g Q := EE.of pe_non (ae_cd (fun _ => .non) q)
theorem ee_str {s : Str} {j : Nat} (q : Q (.d (.str s)) g) : EE X C (.Constant (.str s) j pos) g Q := EE.of pe_str (ae_cd (fun _ => .str s) q)

/-! ### operators -/
abbrev rAddA (K : PySem.W.Frag) : R2 := fun x y H P => (fun x y H P => rI0 (fun i j => .int (i + j)) x y H P ∨ rCatA K x y H P) x y H P ∨ rCat x y H P
theorem op_addA : OpR X (binaryOp .Add) (rAddA X.K) := OpR.or (OpR.or op_add op_catA) op_cat
theorem ee_add (h : EE X C a g fun x g1 => EE X C b g1 fun y g2 => RA X.K C (rAddA X.K) x y g2 Q) : EE X C (.BinOp a .Add b pos) g Q := EE.of (pe_op op_addA pe_t pe_t) (ae_op h)
theorem ee_sub (h : EE X C a g fun x g1 => EE X C b g1 fun y g2 => RA X.K C (rI0 fun i j => .int (i - j)) x y g2 Q) : EE X C (.BinOp a .Sub b pos) g Q := EE.of (pe_op op_sub pe_t pe_t) (ae_op h)
theorem ee_mul (h : EE X C a g fun x g1 => EE X C b g1 fun y g2 => RA X.K C (fun x y H P => rI CMulW (fun i j => .int (i * j)) x y H P ∨ rI CMul (fun i j => .int (i * j)) x y H P) x y g2 Q) : EE X C (.BinOp a .Mult b pos) g Q := EE.of (pe_op (OpR.or op_mulW op_mul) pe_t pe_t) (ae_op h)
theorem ee_fdiv (h : EE X C a g fun x g1 => EE X C b g1 fun y g2 => RA X.K C (rI CDivW fun i j => .int (i / j)) x y g2 Q) : EE X C (.BinOp a .FloorDiv b pos) g Q := EE.of (pe_op op_fdivW pe_t pe_t) (ae_op h)
theorem ee_mod (h : EE X C a g fun x g1 => EE X C b g1 fun y g2 => RA X.K C (rI (fun _ j => 0 < j) fun i j => .int (i % j)) x y g2 Q) : EE X C (.BinOp a .Mod b pos) g Q := EE.of (pe_op op_mod pe_t pe_t) (ae_op h)
theorem ee_pow (h : EE X C a g fun x g1 => EE X C b g1 fun y g2 => RA X.K C (rI CPow fun i j => .int (i ^ j.toNat)) x y g2 Q) : EE X C (.BinOp a .Pow b pos) g Q := EE.of (pe_op op_pow pe_t pe_t) (ae_op h)
theorem ee_neg (h : EE X C a g fun x g1 => ∃ i, x = .d (.int i) ∧ Q (.d (.int (-i))) g1) : EE X C (.UnaryOp .USub a pos) g Q := EE.of (pe_un un_neg pe_t) (ae_un (fun _ i => .int _) h)
theorem ra_add {i j : Int} {K : PySem.W.Frag} (q : Q (.d (.int (i + j))) g) : RA K C (rAddA K) (.d (.int i)) (.d (.int j)) g Q := ra_or1 (ra_or1 (ra_I0 (fun _ => .int _) q))
theorem ra_sub {i j : Int} {K : PySem.W.Frag} (q : Q (.d (.int (i - j))) g) : RA K C (rI0 fun i j => .int (i - j)) (.d (.int i)) (.d (.int j)) g Q := ra_I0 (fun _ => .int _) q
theorem ra_mul {i j : Int} {K : PySem.W.Frag} (hc : CMulW i j) (q : Q (.d (.int (i * j))) g) : RA K C (fun x y H P => rI CMulW (fun i j => .int (i * j)) x y H P ∨ rI CMul (fun i j => .int (i * j)) x y H P) (.d (.int i)) (.d (.int j)) g Q := ra_or1 (ra_I hc (fun _ => .int _) q)
theorem ra_mulS {i j : Int} {K : PySem.W.Frag} (hc : CMul i j) (q : Q (.d (.int (i * j))) g) : RA K C (fun x y H P => rI CMulW (fun i j => .int (i * j)) x y H P ∨ rI CMul (fun i j => .int (i * j)) x y H P) (.d (.int i)) (.d (.int j)) g Q := ra_or2 (ra_I hc (fun _ => .int _) q)
theorem ra_fdiv {i j : Int} {K : PySem.W.Frag} (hc : CDivW i j) (q : Q (.d (.int (i / j))) g) : RA K C (rI CDivW fun i j => .int (i / j)) (.d (.int i)) (.d (.int j)) g Q := ra_I hc (fun _ => .int _) q
theorem ra_mod {i j : Int} {K : PySem.W.Frag} (hc : 0 < j) (q : Q (.d (.int (i % j))) g) : RA K C (rI (fun _ j => 0 < j) fun i j => .int (i % j)) (.d (.int i)) (.d (.int j)) g Q := ra_I hc (fun _ => .int _) q
theorem ra_pow {i j : Int} {K : PySem.W.Frag} (hc : CPow i j) (q : Q (.d (.int (i ^ j.toNat))) g) : RA K C (rI CPow fun i j => .int (i ^ j.toNat)) (.d (.int i)) (.d (.int j)) g Q := ra_I hc (fun _ => .int _) q
/-- t + u, tuples -/
theorem ra_catT {ds es : List PyData} {K : PySem.W.Frag} (h3 : ds.length + es.length ≤ 1000000) (q : Q (.d (.tuple (ds ++ es))) g) : RA K C (rAddA K) (.d (.tuple ds)) (.d (.tuple es)) g Q := ra_or1 (ra_or2 fun σ H Z v w I hx hy P p => by
  have hx' : Dd K Z v (.tuple ds) := hx
  have hy' : Dd K Z w (.tuple es) := hy
  cases hx' with
  | @tup a xs _ a1 a2 =>
    cases hy' with
    | @tup b ys _ b1 b2 =>
      refine ⟨a, b, xs, ys, rfl, rfl, Same.seqT I.fz a1, Same.seqT I.fz b1, ?_, ?_, ?_, ?_⟩
      · rw [a2.length, b2.length]; exact Nat.le_trans h3 (by decide)
      · intro z; subst z; cases a2; exact p _ _ _ (.d (.tuple ([] ++ es))) g I (Same.refl _) (Dd.tup b1 b2) q
      · intro _ z; subst z; cases b2; rw [List.append_nil] at q; exact p _ _ _ (.d (.tuple ds)) g I (Same.refl _) (Dd.tup a1 a2) q
      · intro _ _ p' hp
        obtain ⟨I2, s2, _⟩ := I.newF (o := .tup (xs ++ ys)) hp
        exact p _ _ _ (.d (.tuple (ds ++ es))) g I2 s2 (Dd.tup (SqT.of upd_same) ((a2.append b2).mono s2)) q)

/-! ### comparisons -/
theorem ee_lt (h : EE X C a g fun x g1 => EE X C b g1 fun y g2 => RA X.K C (rI0 fun i j => .bl (decide (i < j))) x y g2 Q) : EE X C (.Compare a [.Lt] [b] pos) g Q := EE.of (pe_cmpR op_lt pe_t pe_t (nobehind _ (by decide) (by decide))) (ae_op h)
theorem ee_le (h : EE X C a g fun x g1 => EE X C b g1 fun y g2 => RA X.K C (rI0 fun i j => .bl (decide (i ≤ j))) x y g2 Q) : EE X C (.Compare a [.LtE] [b] pos) g Q := EE.of (pe_cmpR op_le pe_t pe_t (nobehind _ (by decide) (by decide))) (ae_op h)
theorem ee_gt (h : EE X C a g fun x g1 => EE X C b g1 fun y g2 => RA X.K C (rI0 fun i j => .bl (decide (j < i))) x y g2 Q) : EE X C (.Compare a [.Gt] [b] pos) g Q := EE.of (pe_cmpR op_gt pe_t pe_t (nobehind _ (by decide) (by decide))) (ae_op h)
theorem ee_ge (h : EE X C a g fun x g1 => EE X C b g1 fun y g2 => RA X.K C (rI0 fun i j => .bl (decide (j ≤ i))) x y g2 Q) : EE X C (.Compare a [.GtE] [b] pos) g Q := EE.of (pe_cmpR op_ge pe_t pe_t (nobehind _ (by decide) (by decide))) (ae_op h)
theorem ra_B0 {f : Int → Int → Bool} {i j : Int} {K : PySem.W.Frag} (q : Q (.d (.bool (f i j))) g) : RA K C (rI0 fun i j => .bl (f i j)) (.d (.int i)) (.d (.int j)) g Q := ra_I0 (fun _ => .bl _) q
theorem ee_isN {j : Nat} {p' : Pos} (h : EE X C a g fun x g1 => ∃ d, x = .d d ∧ Q (.d (.bool (match d with | .none => true | _ => false))) g1) : EE X C (.Compare a [.Is] [.Constant .none j p'] pos) g Q := EE.of (pe_cmp (pc_isN pe_t) rfl) (ae_isN h)
theorem ee_notN {j : Nat} {p' : Pos} (h : EE X C a g fun x g1 => ∃ d, x = .d d ∧ Q (.d (.bool (match d with | .none => false | _ => true))) g1) : EE X C (.Compare a [.IsNot] [.Constant .none j p'] pos) g Q := EE.of (pe_cmp (pc_notN pe_t) rfl) (ae_notN h)
/-- data on both sides; an owned list may stand on one -/
def dOf (g : Gm) : Av → PyData
  | .d d => d
  | .o j => match g[j]? with
    | some (.ls _ ds) => .list ds
    | _ => .none
  | .v _ => .none
def isDO (g : Gm) : Av → Bool
  | .d _ => true
  | .o j => match g[j]? with
    | some (.ls _ _) => true
    | _ => false
  | .v _ => false
theorem Ok.dp {K : PySem.W.Frag} {σ : St} {H Z : Hp} (I : Ok K C g σ H Z) : ∀ {x : Av} {v : V}, AvOk K σ Z x v → isDO g x = true → (dOf g x).canLay0 = true → Dp K H v (dOf g x)
  | .d d, v, h, _, n => Dd.dp I.fz d v n h
  | .o j, v, h, k, n => by
    have k' : (match g[j]? with
      | some (.ls _ _) => true
      | _ => false) = true := k
    have e : ∃ w ds, g[j]? = some (.ls w ds) := by
      split at k'
      · rename_i w ds e
        exact ⟨w, ds, e⟩
      · cases k'
    obtain ⟨w, ds, e⟩ := e
    obtain ⟨a, xs, rfl, h2, h3, h4, h5⟩ := I.own e h
    have q : dOf g (.o j) = .list ds := by
      show (match g[j]? with
        | some (.ls _ ds) => PyData.list ds
        | _ => .none) = .list ds
      rw [e]
    rw [q] at n ⊢
    exact .lst (SqL.of h2) (DdA.dp I.fz ds xs (by simpa [PyData.canLay0] using n) h4)
theorem ra_eq {x y : Av} {K : PySem.W.Frag} (h1 : isDO g x = true) (h2 : isDO g y = true) (s1 : SeqAt.shaped (dOf g x) = true) (s2 : SeqAt.shaped (dOf g y) = true) (q : Q (.d (.bool (PyData.eqv (dOf g x) (dOf g y)))) g) : RA K C (rEqD K) x y g Q := fun σ H Z v w I hx hy P p =>
  ⟨_, _, I.dp hx h1 (SeqAt.canLay_of_shaped s1), I.dp hy h2 (SeqAt.canLay_of_shaped s2), s1, s2, p _ H Z (.d (.bool _)) g I (Same.refl _) (Dd.bl _) q⟩
theorem ra_ne {x y : Av} {K : PySem.W.Frag} (h1 : isDO g x = true) (h2 : isDO g y = true) (s1 : SeqAt.shaped (dOf g x) = true) (s2 : SeqAt.shaped (dOf g y) = true) (q : Q (.d (.bool (!PyData.eqv (dOf g x) (dOf g y)))) g) : RA K C (rNeD K) x y g Q := fun σ H Z v w I hx hy P p =>
  ⟨_, _, I.dp hx h1 (SeqAt.canLay_of_shaped s1), I.dp hy h2 (SeqAt.canLay_of_shaped s2), s1, s2, p _ H Z (.d (.bool _)) g I (Same.refl _) (Dd.bl _) q⟩
/-- a <= b <= c, a < b < c .. of whole numbers -/
theorem ee_chainLL (h : EE X C a g fun x g1 => EE X C b g1 fun y g2 => ∃ i j, x = .d (.int i) ∧ y = .d (.int j) ∧ BR (decide (i ≤ j)) (EE X C c g2 fun z g3 => ∃ k, z = .d (.int k) ∧ Q (.d (.bool (decide (j ≤ k)))) g3) (Q (.d (.bool false)) g2)) (hm : lastMarks [.LtE, .LtE] [b, c] = false := by with_unfolding_all rfl) : EE X C (.Compare a [.LtE, .LtE] [b, c] pos) g Q :=
  EE.of (pe_chain op_le op_le pe_t pe_t pe_t hm) (ae_chain (h.mono fun x g1 h1 => AE.mono h1 fun y g2 h2 => by
    obtain ⟨i, j, rfl, rfl, q⟩ := h2
    refine ra_B0 ⟨_, rfl, q.1.comp id |> fun f => ⟨fun z => AE.mono (f z) fun z g3 h3 => ?_, q.2⟩⟩
    obtain ⟨k, rfl, q3⟩ := h3
    exact ra_B0 q3))
theorem ee_chainLt (h : EE X C a g fun x g1 => EE X C b g1 fun y g2 => ∃ i j, x = .d (.int i) ∧ y = .d (.int j) ∧ BR (decide (i ≤ j)) (EE X C c g2 fun z g3 => ∃ k, z = .d (.int k) ∧ Q (.d (.bool (decide (j < k)))) g3) (Q (.d (.bool false)) g2)) (hm : lastMarks [.LtE, .Lt] [b, c] = false := by with_unfolding_all rfl) : EE X C (.Compare a [.LtE, .Lt] [b, c] pos) g Q :=
  EE.of (pe_chain op_le op_lt pe_t pe_t pe_t hm) (ae_chain (h.mono fun x g1 h1 => AE.mono h1 fun y g2 h2 => by
    obtain ⟨i, j, rfl, rfl, q⟩ := h2
    refine ra_B0 ⟨_, rfl, q.1.comp id |> fun f => ⟨fun z => AE.mono (f z) fun z g3 h3 => ?_, q.2⟩⟩
    obtain ⟨k, rfl, q3⟩ := h3
    exact ra_B0 q3))

/-! ### and, or, not, if -/
theorem ee_one {op : BoolOp} (h : EE X C a g Q) : EE X C (.BoolOp op [a] pos) g Q := EE.of (pe_one pe_t) h
theorem ee_and (h : EE X C a g fun x g1 => ∃ i, x = .d (.bool i) ∧ BR i (EE X C (.BoolOp .And (b :: es) pos) g1 Q) (Q (.d (.bool false)) g1)) : EE X C (.BoolOp .And (a :: b :: es) pos) g Q := EE.of (pe_and pe_t pe_t) (ae_andV h)
theorem ee_or (h : EE X C a g fun x g1 => ∃ i, x = .d (.bool i) ∧ BR i (Q (.d (.bool true)) g1) (EE X C (.BoolOp .Or (b :: es) pos) g1 Q)) : EE X C (.BoolOp .Or (a :: b :: es) pos) g Q := EE.of (pe_or pe_t pe_t) (ae_orV h)
theorem ee_not (h : EE X C a g fun x g1 => ∃ i, x = .d (.bool i) ∧ Q (.d (.bool (!i))) g1) : EE X C (.UnaryOp .Not a pos) g Q := EE.of (pe_not pe_t) (ae_notV h)
theorem ee_if (h : ET X C a g fun i g1 => BR i (EE X C b g1 Q) (EE X C c g1 Q)) : EE X C (.IfExp a b c pos) g Q := EE.of (pe_ifExp pt_t pe_t pe_t) (ae_if h)
/-- comparisons as tests -/
theorem et_cmpR {op : CmpOp} {r : R2} (ho : OpR X (compareOp op) r) (hm : behindInMarks op b = false) (h : EE X C a g fun x g1 => EE X C b g1 fun y g2 => RA X.K C r x y g2 fun z g3 => ∃ i, z = .d (.bool i) ∧ QT i g3) : ET X C (.Compare a [op] [b] pos) g QT := ET.of (pt_cmpR ho pe_t pe_t hm) (at_test (ae_op h))
theorem et_lt (h : EE X C a g fun x g1 => EE X C b g1 fun y g2 => RA X.K C (rI0 fun i j => .bl (decide (i < j))) x y g2 fun z g3 => ∃ i, z = .d (.bool i) ∧ QT i g3) : ET X C (.Compare a [.Lt] [b] pos) g QT := et_cmpR op_lt (nobehind _ (by decide) (by decide)) h
theorem et_le (h : EE X C a g fun x g1 => EE X C b g1 fun y g2 => RA X.K C (rI0 fun i j => .bl (decide (i ≤ j))) x y g2 fun z g3 => ∃ i, z = .d (.bool i) ∧ QT i g3) : ET X C (.Compare a [.LtE] [b] pos) g QT := et_cmpR op_le (nobehind _ (by decide) (by decide)) h
theorem et_gt (h : EE X C a g fun x g1 => EE X C b g1 fun y g2 => RA X.K C (rI0 fun i j => .bl (decide (j < i))) x y g2 fun z g3 => ∃ i, z = .d (.bool i) ∧ QT i g3) : ET X C (.Compare a [.Gt] [b] pos) g QT := et_cmpR op_gt (nobehind _ (by decide) (by decide)) h
theorem et_ge (h : EE X C a g fun x g1 => EE X C b g1 fun y g2 => RA X.K C (rI0 fun i j => .bl (decide (j ≤ i))) x y g2 fun z g3 => ∃ i, z = .d (.bool i) ∧ QT i g3) : ET X C (.Compare a [.GtE] [b] pos) g QT := et_cmpR op_ge (nobehind _ (by decide) (by decide)) h
theorem et_isN {j : Nat} {p' : Pos} (h : EE X C a g fun x g1 => ∃ d, x = .d d ∧ QT (match d with | .none => true | _ => false) g1) : ET X C (.Compare a [.Is] [.Constant .none j p'] pos) g QT := ET.of (pt_cmp (pc_isN pe_t) rfl) (at_B (ae_isN (h.mono fun x g1 ⟨d, e, q⟩ => ⟨d, e, _, rfl, q⟩)))
theorem et_notN {j : Nat} {p' : Pos} (h : EE X C a g fun x g1 => ∃ d, x = .d d ∧ QT (match d with | .none => false | _ => true) g1) : ET X C (.Compare a [.IsNot] [.Constant .none j p'] pos) g QT := ET.of (pt_cmp (pc_notN pe_t) rfl) (at_B (ae_notN (h.mono fun x g1 ⟨d, e, q⟩ => ⟨d, e, _, rfl, q⟩)))
theorem et_chainLL (h : EE X C a g fun x g1 => EE X C b g1 fun y g2 => ∃ i j, x = .d (.int i) ∧ y = .d (.int j) ∧ BR (decide (i ≤ j)) (EE X C c g2 fun z g3 => ∃ k, z = .d (.int k) ∧ QT (decide (j ≤ k)) g3) (QT false g2)) (hm : lastMarks [.LtE, .LtE] [b, c] = false := by with_unfolding_all rfl) : ET X C (.Compare a [.LtE, .LtE] [b, c] pos) g QT :=
  ET.of (pt_chain op_le op_le pe_t pe_t pe_t hm) (at_test (ae_chain (h.mono fun x g1 h1 => AE.mono h1 fun y g2 h2 => by
    obtain ⟨i, j, rfl, rfl, q⟩ := h2
    refine ra_B0 ⟨_, rfl, fun z => AE.mono (q.1 z) fun z g3 h3 => ?_, fun z => ⟨_, rfl, q.2 z⟩⟩
    obtain ⟨k, rfl, q3⟩ := h3
    exact ra_B0 ⟨_, rfl, q3⟩)))
theorem et_chainLt (h : EE X C a g fun x g1 => EE X C b g1 fun y g2 => ∃ i j, x = .d (.int i) ∧ y = .d (.int j) ∧ BR (decide (i ≤ j)) (EE X C c g2 fun z g3 => ∃ k, z = .d (.int k) ∧ QT (decide (j < k)) g3) (QT false g2)) (hm : lastMarks [.LtE, .Lt] [b, c] = false := by with_unfolding_all rfl) : ET X C (.Compare a [.LtE, .Lt] [b, c] pos) g QT :=
  ET.of (pt_chain op_le op_lt pe_t pe_t pe_t hm) (at_test (ae_chain (h.mono fun x g1 h1 => AE.mono h1 fun y g2 h2 => by
    obtain ⟨i, j, rfl, rfl, q⟩ := h2
    refine ra_B0 ⟨_, rfl, fun z => AE.mono (q.1 z) fun z g3 h3 => ?_, fun z => ⟨_, rfl, q.2 z⟩⟩
    obtain ⟨k, rfl, q3⟩ := h3
    exact ra_B0 ⟨_, rfl, q3⟩)))
end
end AL
/-! The layer's rules over the text: tests, displays, subscripts, calls. -/
namespace AL
open PySem PySem.Spec L2

section
variable {X : Cx} {C : Ct} {g g' : Gm} {e a b c : Expr} {es : List Expr} {pos p : Pos} {Q : Av → Gm → Prop} {QT : Bool → Gm → Prop} {QL : List PyData → Gm → Prop} {QA : List Av → Gm → Prop} {x : Str}
/-! ### tests -/
theorem et_val (h : EE X C e g fun x g1 => ∃ i, x = .d (.bool i) ∧ QT i g1) (he : ∀ whole, isTrue e X.env whole = (do let v ← whole; standAt e.pos; holding [v] (truthy v)) := by intro _; rfl) : ET X C e g QT := ET.of (pt_val pe_t he) (at_B h)
theorem et_not (h : ET X C a g fun i g1 => QT (!i) g1) : ET X C (.UnaryOp .Not a pos) g QT := ET.of (pt_not pt_t) (at_not h)
theorem et_and (h : EW X C (.BoolOp .And es pos) g QT) : ET X C (.BoolOp .And es pos) g QT := ET.of (PW.pt pw_t) h
theorem et_or (h : EW X C (.BoolOp .Or es pos) g QT) : ET X C (.BoolOp .Or es pos) g QT := ET.of (PW.pt pw_t) h
theorem ew_and (h : ET X C a g fun i g1 => BR i (EW X C (.BoolOp .And (b :: es) pos) g1 QT) (QT false g1)) : EW X C (.BoolOp .And (a :: b :: es) pos) g QT := EW.of (pw_and pt_t pw_t) (at_and h)
theorem ew_or (h : ET X C a g fun i g1 => BR i (QT true g1) (EW X C (.BoolOp .Or (b :: es) pos) g1 QT)) : EW X C (.BoolOp .Or (a :: b :: es) pos) g QT := EW.of (pw_or pt_t pw_t) (at_or h)
theorem ew_and1 (h : ET X C a g QT) : EW X C (.BoolOp .And [a] pos) g QT := EW.of (pw_and1 pt_t) h
theorem ew_or1 (h : ET X C a g QT) : EW X C (.BoolOp .Or [a] pos) g QT := EW.of (pw_or1 pt_t) h
theorem ets_nil (q : QT true g) : ETs X C [] g QT := ETs.of pts_nil (fun σ H Z I P p => p true H Z g I (Same.refl _) q)
theorem ets_one (h : ET X C a g QT) : ETs X C [a] g QT := ETs.of (pts_one pt_t) h

/-! ### displays -/
theorem ea_nil (q : QA [] g) : EA X C [] g QA := EA.of pa_nil (aa_nil q)
theorem ea_cons (h : EE X C e g fun x g1 => EA X C es g1 fun xs g2 => QA (x :: xs) g2) (he : starEach (e :: es) X.env = (false, eval e X.env) :: starEach es X.env := by rfl) : EA X C (e :: es) g QA := EA.of (pa_cons pe_t pa_t he) (aa_cons h)
theorem ee_tup {k : Nat} (h : EA X C es g fun xs g1 => ∃ ds g2, Frz xs g1 ds g2 ∧ ds.length ≤ 1000000 ∧ Q (.d (.tuple ds)) g2) : EE X C (.Tuple es k pos) g Q := EE.of (pe_tup pa_t) (ae_tup h)
theorem en_lst (h : EA X C es g fun xs g1 => ∃ ds g2, Frz xs g1 ds g2 ∧ ds.length ≤ 1000000 ∧ QL ds g2) : EN X C (.List es pos) g QL := EN.of (pe_lst pa_t) (an_lst h)
theorem ee_en (h : EN X C e g fun ds g1 => Q (.d (.list ds)) g1) : EE X C e g Q := ae_an h
theorem ee_lst (h : EA X C es g fun xs g1 => ∃ ds g2, Frz xs g1 ds g2 ∧ ds.length ≤ 1000000 ∧ Q (.d (.list ds)) g2) : EE X C (.List es pos) g Q := ee_en (en_lst h)

/-! ### subscripts -/
theorem ee_ix (hs : PlainIx b) (h : EE X C a g fun x g1 => EE X C b g1 fun y g2 => RA X.K C (fun x y H P => rIxL X.K x y H P ∨ rIxT X.K x y H P) x y g2 Q) : EE X C (.Subscript a b pos) g Q := EE.of (pe_ix (IxR.or ix_list ix_tup) pe_t pe_t hs) (ae_op h)
theorem atI_map {K : PySem.W.Frag} {Z : Hp} {ds : List PyData} {vs : List V} {i : Int} {d : PyData} (h : DdA K Z vs ds) (e : atI ds i = some d) : ∃ v, atI vs i = some v ∧ Dd K Z v d := by
  unfold atI at e ⊢
  rw [h.length]
  cases q : ixN ds.length i with
  | none => rw [q] at e; cases e
  | some j =>
    rw [q] at e
    exact h.get e
theorem ra_ixT {ds : List PyData} {i : Int} {d : PyData} {K : PySem.W.Frag} (hi : atI ds i = some d) (q : Q (.d d) g) : RA K C (fun x y H P => rIxL K x y H P ∨ rIxT K x y H P) (.d (.tuple ds)) (.d (.int i)) g Q := ra_or2 fun σ H Z v w I hx hy P p => by
  have hx' : Dd K Z v (.tuple ds) := hx
  cases hy
  cases hx' with
  | @tup a xs _ a1 a2 =>
    obtain ⟨u, e1, e2⟩ := atI_map a2 hi
    exact ⟨a, xs, i, u, rfl, rfl, Same.seqT I.fz a1, e1, p u H Z (.d d) g I (Same.refl _) e2 q⟩
theorem ra_ixL {ds : List PyData} {i : Int} {d : PyData} {K : PySem.W.Frag} (hi : atI ds i = some d) (q : Q (.d d) g) : RA K C (fun x y H P => rIxL K x y H P ∨ rIxT K x y H P) (.d (.list ds)) (.d (.int i)) g Q := ra_or1 fun σ H Z v w I hx hy P p => by
  have hx' : Dd K Z v (.list ds) := hx
  cases hy
  cases hx' with
  | @lst a xs _ a1 a2 =>
    obtain ⟨u, e1, e2⟩ := atI_map a2 hi
    exact ⟨a, xs, i, u, rfl, rfl, SqL.of (I.fz _ _ a1), e1, p u H Z (.d d) g I (Same.refl _) e2 q⟩
theorem ra_ixO {ds : List PyData} {w : Option Nat} {j : Nat} {i : Int} {d : PyData} {K : PySem.W.Frag} (hj : g[j]? = some (.ls w ds)) (hi : atI ds i = some d) (q : Q (.d d) g) : RA K C (fun x y H P => rIxL K x y H P ∨ rIxT K x y H P) (.o j) (.d (.int i)) g Q := ra_or1 fun σ H Z v w' I hx hy P p => by
  cases hy
  obtain ⟨a, xs, rfl, h2, h3, h4, h5⟩ := I.own hj hx
  obtain ⟨u, e1, e2⟩ := atI_map h4 hi
  exact ⟨a, xs, i, u, rfl, rfl, SqL.of h2, e1, p u H Z (.d d) g I (Same.refl _) e2 q⟩
theorem atI_int {α : Type} {ds : List α} {i : Int} {d : α} (h0 : 0 ≤ i) (h : ds[i.toNat]? = some d) : atI ds i = some d := by
  have := atI_nat (j := i.toNat) h
  rwa [Int.toNat_of_nonneg h0] at this

/-! ### calls -/
inductive Ar where
  | d (d : PyData)
  | v (v : V)
def ArOk (K : PySem.W.Frag) (Z : Hp) : Ar → V → Prop
  | .d d, v => Dd K Z v d
  | .v w, v => v = w
inductive ArsOk (K : PySem.W.Frag) (Z : Hp) : List Ar → List V → Prop
  | nil : ArsOk K Z [] []
  | cons {x : Ar} {v : V} {xs : List Ar} {vs : List V} : ArOk K Z x v → ArsOk K Z xs vs → ArsOk K Z (x :: xs) (v :: vs)
theorem ArsOk.length {K : PySem.W.Frag} {Z : Hp} : ∀ {xs : List Ar} {vs : List V}, ArsOk K Z xs vs → vs.length = xs.length
  | _, _, .nil => rfl
  | _, _, .cons _ t => by simp [t.length]
abbrev Con := List Ar → PyData → Prop
/-- a def read as a function of data: arguments, result; nothing that stood is changed -/
def spR (K : PySem.W.Frag) (n : Nat) (S : Con) : Sp := fun vs H Q _ => vs.length = n ∧ ∃ Z as r, Same Z H ∧ ArsOk K Z as vs ∧ S as r ∧
  ∀ v H' Z', Same H H' → Same Z Z' → Same Z' H' → (∀ (a : Addr) (o : HO), Z' a = some o → Z a = some o ∨ H a = none) → Dd K Z' v r → Q v H'
/-- .. whose result is a new list -/
def spN (K : PySem.W.Frag) (n : Nat) (S : List Ar → List PyData → Prop) : Sp := fun vs H Q _ => vs.length = n ∧ ∃ Z as r, Same Z H ∧ ArsOk K Z as vs ∧ S as r ∧
  ∀ p H' Z' xs, Same H H' → Same Z Z' → Same Z' H' → (∀ (a : Addr) (o : HO), Z' a = some o → Z a = some o ∨ H a = none) → H p = none → H' p = some (.lst xs) → Z' p = none → DdA K Z' xs r → Q (.ref p) H'
/-- .. that changes the list handed in first -/
abbrev ConM := List PyData → List Ar → PyData → List PyData → Prop
def spM (K : PySem.W.Frag) (n : Nat) (S : ConM) : Sp := fun vs H Q _ => vs.length = n ∧ ∃ a vs' Z xs ds as r ds', vs = .ref a :: vs' ∧ H a = some (.lst xs) ∧ Z a = none ∧ Same Z H ∧ DdA K Z xs ds ∧ ArsOk K Z as vs' ∧ S ds as r ds' ∧
  ∀ v H' Z' xs', (∀ (b : Addr) (o : HO), b ≠ a → H b = some o → H' b = some o) → H' a = some (.lst xs') → Same Z Z' → Same Z' H' → Z' a = none → (∀ (b : Addr) (o : HO), Z' b = some o → Z b = some o ∨ H b = none) → DdA K Z' xs' ds' → Dd K Z' v r → Q v H'
structure Callable (P : Program) (w : World) (K : PySem.W.Frag) (mg : Str → Option Value) (base : Heap) (x : Str) (k : Nat) (sp : Sp) : Prop where
  ex : ∃ (f : Addr) (fd : FuncData) (ps : List Str), FnOk P w K mg base CX0 k f fd ps sp ∧ mg x = some (.ref f) ∧ PySem.W.keepIn K (.ref f) = true ∧ Binds K fd ps []
abbrev Cal (X : Cx) (x : Str) (k : Nat) (sp : Sp) : Prop := Callable X.prog X.w X.K X.mg X.base x k sp
theorem Callable.mono {P : Program} {w : World} {K : PySem.W.Frag} {mg : Str → Option Value} {base : Heap} {k k' : Nat} {sp : Sp} (c : Callable P w K mg base x k sp) (h : k ≤ k') : Callable P w K mg base x k' sp := by
  obtain ⟨f, fd, ps, F, r⟩ := c.ex
  exact ⟨f, fd, ps, F.mono h, r⟩
inductive CvA (g : Gm) : List Av → List Ar → Prop
  | nil : CvA g [] []
  | d {d : PyData} {xs : List Av} {as : List Ar} : CvA g xs as → CvA g (.d d :: xs) (.d d :: as)
  | v {v : V} {xs : List Av} {as : List Ar} : CvA g xs as → CvA g (.v v :: xs) (.v v :: as)
theorem CvA.run {K : PySem.W.Frag} {σ : St} {Z : Hp} : ∀ {xs : List Av} {as : List Ar} {vs : List V}, CvA g xs as → AvsOk K σ Z xs vs → ArsOk K Z as vs
  | _, _, _, .nil, .nil => .nil
  | _, _, _, .d h, .cons a t => .cons a (h.run t)
  | _, _, _, .v h, .cons a t => .cons a (h.run t)
theorem AvsOk.length {K : PySem.W.Frag} {σ : St} {Z : Hp} : ∀ {xs : List Av} {vs : List V}, AvsOk K σ Z xs vs → vs.length = xs.length
  | _, _, .nil => rfl
  | _, _, .cons _ t => by simp [t.length]
theorem ee_call {k n : Nat} {S : Con} (c : Cal X x k (spR X.K n S)) (hr : Room k X.A) (n1 : Gn X x) (h : EA X C (e :: es) g fun xs g1 => xs.length = n ∧ ∃ as r, CvA g1 xs as ∧ S as r ∧ Q (.d r) g1)
    (he : starEach (e :: es) X.env = (false, eval e X.env) :: starEach es X.env := by rfl) (hpl : (backTo pos (starEach es X.env)).any (·.1) = false := by rfl) : EE X C (.Call (.Name x p) (e :: es) [] pos) g Q := by
  obtain ⟨f, fd, ps, F, m, kp, B⟩ := c.ex
  refine EE.of (pe_call (dvs := []) (ds := []) (E := E0) F hr n1.gl m kp B .nil pass0 pa_t n1.d1 he hpl) fun σ H Z I P p => ?_
  refine h σ H Z I _ fun vs H1 Z1 xs g1 I1 s1 a1 q1 => ?_
  obtain ⟨hl, as, r, cv, hS, q⟩ := q1
  rw [List.append_nil]
  refine ⟨a1.length.trans hl, Z1, as, r, I1.fz, cv.run a1, hS, fun v H' Z' h1 h2 h3 h4 h5 => ?_⟩
  exact p v H' Z' (.d r) g1 (I1.grow h1 h2 h3 h4) (s1.trans h2) h5 q
theorem en_call {k n : Nat} {S : List Ar → List PyData → Prop} (c : Cal X x k (spN X.K n S)) (hr : Room k X.A) (n1 : Gn X x) (h : EA X C (e :: es) g fun xs g1 => xs.length = n ∧ ∃ as r, CvA g1 xs as ∧ S as r ∧ QL r g1)
    (he : starEach (e :: es) X.env = (false, eval e X.env) :: starEach es X.env := by rfl) (hpl : (backTo pos (starEach es X.env)).any (·.1) = false := by rfl) : EN X C (.Call (.Name x p) (e :: es) [] pos) g QL := by
  obtain ⟨f, fd, ps, F, m, kp, B⟩ := c.ex
  refine EN.of (pe_call (dvs := []) (ds := []) (E := E0) F hr n1.gl m kp B .nil pass0 pa_t n1.d1 he hpl) fun σ H Z I P p => ?_
  refine h σ H Z I _ fun vs H1 Z1 xs g1 I1 s1 a1 q1 => ?_
  obtain ⟨hl, as, r, cv, hS, q⟩ := q1
  rw [List.append_nil]
  refine ⟨a1.length.trans hl, Z1, as, r, I1.fz, cv.run a1, hS, fun t H' Z' xs h1 h2 h3 h4 h5 h6 h7 h8 => ?_⟩
  obtain ⟨m1, m2, m3⟩ := I1.new h5
  exact p t H' Z' r g1 (I1.grow h1 h2 h3 h4) (s1.trans h2) ⟨⟨xs, h6, h8⟩, h7, m2, m3⟩ q
/-- a call that changes the owned list handed in first -/
theorem ee_callM {k n : Nat} {S : ConM} (c : Cal X x k (spM X.K n S)) (hr : Room k X.A) (n1 : Gn X x) (h : EA X C (e :: es) g fun xs g1 => xs.length = n ∧ ∃ j w ds rest as r ds' g2, xs = .o j :: rest ∧ CvA g1 rest as ∧ g1[j]? = some (.ls w ds) ∧ S ds as r ds' ∧ SetE g1 j (.ls w ds') g2 ∧ Q (.d r) g2)
    (he : starEach (e :: es) X.env = (false, eval e X.env) :: starEach es X.env := by rfl) (hpl : (backTo pos (starEach es X.env)).any (·.1) = false := by rfl) : EE X C (.Call (.Name x p) (e :: es) [] pos) g Q := by
  obtain ⟨f, fd, ps, F, m, kp, B⟩ := c.ex
  refine EE.of (pe_call (dvs := []) (ds := []) (E := E0) F hr n1.gl m kp B .nil pass0 pa_t n1.d1 he hpl) fun σ H Z I P p => ?_
  refine h σ H Z I _ fun vs H1 Z1 xs g1 I1 s1 a1 q1 => ?_
  obtain ⟨hl, j, w, ds, rest, as, r, ds', g2, rfl, cv, hj, hS, hs, q⟩ := q1
  rw [List.append_nil]
  have hlen := a1.length.trans hl
  cases a1 with
  | @cons _ v _ vs' b1 b2 =>
    obtain ⟨a, xs, rfl, o2, o3, o4, o5⟩ := I1.own hj b1
    refine ⟨hlen, a, vs', Z1, xs, ds, as, r, ds', rfl, o2, o3, I1.fz, o4, cv.run b2, hS, fun v H' Z' xs' h1 h2 h3 h4 h5 h6 h7 h8 => ?_⟩
    -- first the heap grows but for a, then a is stored
    have e0 : H' = upd (fun b => if b = a then some (.lst xs) else H' b) a (.lst xs') := by
      funext b
      by_cases z : b = a
      · subst z; rw [upd_same]; exact h2
      · rw [upd_ne z]; simp [z]
    have I2 : Ok X.K C g1 σ (fun b => if b = a then some (.lst xs) else H' b) Z' := by
      refine I1.grow (fun b o q => ?_) h3 (fun b o q => ?_) h6
      · by_cases z : b = a
        · subst z; rw [o2] at q; cases q; simp
        · simp only [z, if_false]; exact h1 b o z q
      · by_cases z : b = a
        · subst z; rw [h5] at q; cases q
        · simp only [z, if_false]; exact h4 b o q
    have I3 := I2.put hj b1 h7 hs
    rw [← e0] at I3
    exact p v H' Z' (.d r) g2 I3 (s1.trans h3) h8 q
end

/-! ### a def keeps its promise -/
def entOf : Ar → Ent
  | .d d => .im d
  | .v v => .vl v
/-- what a body hands back -/
inductive Ret (r : PyData) : Av → Gm → Prop
  | d {g : Gm} : Ret r (.d r) g
  | o {j : Nat} {es : List PyData} {g : Gm} : g[j]? = some (.ls none es) → r = .list es → Ret r (.o j) g
theorem ret_d {r d : PyData} {g : Gm} (h : d = r) : Ret r (.d d) g := by subst h; exact .d
inductive RetN (r : List PyData) : Av → Gm → Prop
  | o {j : Nat} {es : List PyData} {g : Gm} : g[j]? = some (.ls none es) → es = r → RetN r (.o j) g
section
variable {K : PySem.W.Frag} {C : Ct} {g : Gm} {σ : St} {H Z : Hp}
theorem SetE.mk' {e : Ent} : ∀ {g : Gm} {j : Nat}, j < g.length → SetE g j e (g.set j e)
  | [], _, h => by simp at h
  | _ :: g, 0, _ => .z
  | _ :: g, j + 1, h => .s (SetE.mk' (by simpa using h))
theorem start_get {as : List Ar} {vs : List V} {n : Nat} (h : ArsOk K Z as vs) (i : Nat) (e : Ent) (q : (as.map entOf ++ List.replicate n Ent.no)[i]? = some e) : EntOk K C H Z (vs.map some ++ List.replicate n none)[i]? e := by
  induction h generalizing i with
  | nil =>
    have q' : (List.replicate n Ent.no)[i]? = some e := by simpa using q
    have z := List.getElem?_eq_some_iff.mp q'
    obtain ⟨z1, z2⟩ := z
    simp at z2
    subst z2
    trivial
  | @cons x v xs vs h1 h2 ih =>
    cases i with
    | zero =>
      have q' : entOf x = e := by simpa using q
      subst q'
      cases x with
      | d d => exact ⟨v, by simp, h1⟩
      | v w =>
        have : v = w := h1
        subst this
        show _ = _
        simp
    | succ i =>
      have := ih i (by simpa using q)
      simpa using this
theorem start_nodc {as : List Ar} {n i : Nat} {w : Option Nat} {ds : List (PyData × PyData)} : (as.map entOf ++ List.replicate n Ent.no)[i]? ≠ some (.dc w ds) := by
  induction as generalizing i with
  | nil =>
    intro q
    have q' : (List.replicate n Ent.no)[i]? = some (.dc w ds) := by simpa using q
    obtain ⟨_, z⟩ := List.getElem?_eq_some_iff.mp q'
    simp at z
  | cons x xs ih =>
    intro q
    cases i with
    | zero => cases x <;> simp [entOf] at q
    | succ i => exact ih (i := i) (by simpa using q)
theorem start_ok {as : List Ar} {vs : List V} {N : List Str} {T : List (Addr × Str)} (h : ArsOk K Z as vs) (hz : Same Z H) (tb : LamX.Tabs T H) (tz : ∀ p ∈ T, Z p.1 = none) : Ok K ⟨H, Z, [], T⟩ (as.map entOf ++ List.replicate (N.length - vs.length) Ent.no) (L2.start N vs) H Z := by
  refine ⟨by simp [L2.start, h.length], hz, fun a o q _ _ => q, Same.refl _, fun a o q => .inl q, hz, fun a q => by simp at q, fun a q => by simp at q, fun i e q => start_get h i e q, fun i j w w' ds es a q1 => ?_, tb, fun p hp => ⟨by obtain ⟨ps, z, _⟩ := tb p hp; show (H p.1).isSome = true; rw [z]; rfl, tz p hp⟩, fun i j w w' ds es a q1 => absurd q1 start_nodc⟩
  exfalso
  have : ∀ (as : List Ar) (n i : Nat), (as.map entOf ++ List.replicate n Ent.no)[i]? ≠ some (.ls w ds) := by
    intro as n
    induction as with
    | nil =>
      intro i q
      have q' : (List.replicate n Ent.no)[i]? = some (.ls w ds) := by simpa using q
      obtain ⟨_, z⟩ := List.getElem?_eq_some_iff.mp q'
      simp at z
    | cons x xs ih =>
      intro i q
      cases i with
      | zero => cases x <;> simp [entOf] at q
      | succ i => exact ih i (by simpa using q)
  exact this _ _ _ q1
end
abbrev FnP (K : PySem.W.Frag) (x : Str) (st : Stmt) (f : Addr) (fd : FuncData) : Prop := FunD K x x (defArgs st) (defBody st) (defScope st) [] [] f fd
theorem fn_ok {P : Program} {w : World} {K : PySem.W.Frag} {mg : Str → Option Value} {base : Heap} {x : Str} {st : Stmt} {f : Addr} {fd : FuncData} {N ps : List Str} {k n : Nat} {S : Con} {kws : List (Str × V)} (F : FunD K x x (defArgs st) (defBody st) (defScope st) [] kws f fd) (Sc : FnScope N ps (defScope st)) (hn : ps.length = n)
    (hbody : ∀ (X : Cx), X.prog = P → X.w = w → X.K = K → X.mg = mg → X.base = base → PassesOwn (model X.prog X.w) X.A X.env X.xe → CxF X N (defScope st) k → ∀ C as r, S as r → as.length = n → C.W = [] →
      ESs X C (defBody st) (as.map entOf ++ List.replicate (N.length - n) Ent.no) { nx := fun _ => r = .none, rt := Ret r }) : FnOk P w K mg base CX0 (k + 1) f fd ps (spR K n S) := by
  refine F.ok Sc (fun vs H Q E h => by rw [h.1, hn]) (fun cdv A outer s H vs Q E hr h => ?_)
  obtain ⟨hl, Z, as, r, hz, ha, hS, q⟩ := h
  refine ⟨_, PSs.nox (pss_t (X := (cxOf CX0 P w K mg base N x (defScope st) f cdv A outer s H E).nox)), ?_⟩
  have al : as.length = n := by rw [← ha.length]; exact hl
  have b := hbody (cxOf CX0 P w K mg base N x (defScope st) f cdv A outer s H E).nox rfl rfl rfl rfl rfl PassesOwn.never ⟨rfl, rfl, rfl, Sc.nd, hr, fun _ => rfl⟩ ⟨H, Z, [], []⟩ as r hS al rfl
  have I := start_ok (N := N) (T := []) ha hz (fun p hp => by cases hp) (fun p hp => by cases hp)
  rw [hl] at I
  have fin : ∀ v σ' H' Z' g', Ok K ⟨H, Z, [], []⟩ g' σ' H' Z' → Dd K Z' v r → Q v H' := fun v σ' H' Z' g' I' hd =>
    q v H' Z' (fun a o e => I'.fr a o e (by simp) (by simp)) I'.z0 I'.fz I'.nw hd
  refine b _ H Z I _ ⟨fun g' σ' H' Z' I' _ e => ?_, fun x v g' σ' H' Z' I' _ a e => ?_, fun _ _ _ _ _ _ z => z.elim, fun _ _ _ _ _ _ z => z.elim, fun _ _ _ _ _ _ _ _ _ z => z.elim⟩
  · exact fin _ σ' H' Z' g' I' (by rw [e]; exact .non)
  · cases e with
    | d => exact fin v σ' H' Z' g' I' a
    | @o j es _ e1 e2 =>
      subst e2
      have hj := (List.getElem?_eq_some_iff.mp e1).1
      obtain ⟨Z2, I2, s2, d2⟩ := I'.frz e1 a (g' := g'.set j (.im (.list es))) (SetE.mk' hj)
      exact fin v σ' H' Z2 _ I2 d2
theorem fn_okN {P : Program} {w : World} {K : PySem.W.Frag} {mg : Str → Option Value} {base : Heap} {x : Str} {st : Stmt} {f : Addr} {fd : FuncData} {N ps : List Str} {k n : Nat} {S : List Ar → List PyData → Prop} {kws : List (Str × V)} (F : FunD K x x (defArgs st) (defBody st) (defScope st) [] kws f fd) (Sc : FnScope N ps (defScope st)) (hn : ps.length = n)
    (hbody : ∀ (X : Cx), X.prog = P → X.w = w → X.K = K → X.mg = mg → X.base = base → PassesOwn (model X.prog X.w) X.A X.env X.xe → CxF X N (defScope st) k → ∀ C as r, S as r → as.length = n → C.W = [] →
      ESs X C (defBody st) (as.map entOf ++ List.replicate (N.length - n) Ent.no) { nx := fun _ => False, rt := RetN r, rn := fun ds _ => ds = r }) : FnOk P w K mg base CX0 (k + 1) f fd ps (spN K n S) := by
  refine F.ok Sc (fun vs H Q E h => by rw [h.1, hn]) (fun cdv A outer s H vs Q E hr h => ?_)
  obtain ⟨hl, Z, as, r, hz, ha, hS, q⟩ := h
  refine ⟨_, PSs.nox (pss_t (X := (cxOf CX0 P w K mg base N x (defScope st) f cdv A outer s H E).nox)), ?_⟩
  have al : as.length = n := by rw [← ha.length]; exact hl
  have b := hbody (cxOf CX0 P w K mg base N x (defScope st) f cdv A outer s H E).nox rfl rfl rfl rfl rfl PassesOwn.never ⟨rfl, rfl, rfl, Sc.nd, hr, fun _ => rfl⟩ ⟨H, Z, [], []⟩ as r hS al rfl
  have I := start_ok (N := N) (T := []) ha hz (fun p hp => by cases hp) (fun p hp => by cases hp)
  rw [hl] at I
  refine b _ H Z I _ ⟨fun g' σ' H' Z' I' _ e => e.elim, fun x v g' σ' H' Z' I' _ a e => ?_, fun _ _ _ _ _ _ z => z.elim, fun _ _ _ _ _ _ z => z.elim, fun ds p g' σ' H' Z' I' _ n e => ?_⟩
  · cases e with
    | o e1 e2 =>
      subst e2
      obtain ⟨p, xs, rfl, o2, o3, o4, o5⟩ := I'.own e1 a
      exact q p H' Z' xs (fun a o e => I'.fr a o e (by simp) (by simp)) I'.z0 I'.fz I'.nw o5 o2 o3 o4
  · obtain ⟨xs, n1, n2⟩ := n.at_
    have e' : ds = r := e
    subst e'
    exact q p H' Z' xs (fun a o e => I'.fr a o e (by simp) (by simp)) I'.z0 I'.fz I'.nw n.n0 n1 n.nz n2
theorem fn_okM {P : Program} {w : World} {K : PySem.W.Frag} {mg : Str → Option Value} {base : Heap} {x : Str} {st : Stmt} {f : Addr} {fd : FuncData} {N ps : List Str} {k n : Nat} {S : ConM} {kws : List (Str × V)} (F : FunD K x x (defArgs st) (defBody st) (defScope st) [] kws f fd) (Sc : FnScope N ps (defScope st)) (hn : ps.length = n)
    (hbody : ∀ (X : Cx), X.prog = P → X.w = w → X.K = K → X.mg = mg → X.base = base → PassesOwn (model X.prog X.w) X.A X.env X.xe → CxF X N (defScope st) k → ∀ C ds as r ds', S ds as r ds' → as.length + 1 = n →
      ESs X C (defBody st) (.ls (some 0) ds :: (as.map entOf ++ List.replicate (N.length - n) Ent.no)) { nx := fun g => r = .none ∧ g[0]? = some (.ls (some 0) ds'), rt := fun x g => Ret r x g ∧ g[0]? = some (.ls (some 0) ds') }) : FnOk P w K mg base CX0 (k + 1) f fd ps (spM K n S) := by
  refine F.ok Sc (fun vs H Q E h => by rw [h.1, hn]) (fun cdv A outer s H vs Q E hr h => ?_)
  obtain ⟨hl, a, vs', Z, xs, ds, as, r, ds', rfl, h1, h2, hz, hd, ha, hS, q⟩ := h
  refine ⟨_, PSs.nox (pss_t (X := (cxOf CX0 P w K mg base N x (defScope st) f cdv A outer s H E).nox)), ?_⟩
  have al : as.length + 1 = n := by rw [← ha.length]; simpa using hl
  have b := hbody (cxOf CX0 P w K mg base N x (defScope st) f cdv A outer s H E).nox rfl rfl rfl rfl rfl PassesOwn.never ⟨rfl, rfl, rfl, Sc.nd, hr, fun _ => rfl⟩ ⟨H, Z, [a], []⟩ ds as r ds' hS al
  have hl' : vs'.length = as.length := ha.length
  have I : Ok K ⟨H, Z, [a], []⟩ (.ls (some 0) ds :: (as.map entOf ++ List.replicate (N.length - n) Ent.no)) (L2.start N (.ref a :: vs')) H Z := by
    refine ⟨by simp [L2.start, hl']; omega, hz, fun b o q _ _ => q, Same.refl _, fun b o q => .inl q, hz, fun b q => ?_, fun b q => ?_, fun i e q => ?_, fun i j w w' ds1 es b q1 q2 => ?_, fun p hp => (by cases hp), fun p hp => (by cases hp), fun i j w w' ds1 es b q1 q2 => ?_⟩
    · have this : b = a := by simpa using q
      rw [this]
      exact ⟨by show (H a).isSome = true; rw [h1]; rfl, h2⟩
    · have this : b = a := by simpa using q
      rw [this, h1]; rfl
    · cases i with
      | zero =>
        have q' : Ent.ls (some 0) ds = e := by simpa using q
        subst q'
        exact ⟨a, xs, by simp [L2.start], h1, h2, hd, rfl⟩
      | succ i =>
        have := start_get (H := H) (C := ⟨H, Z, [a], []⟩) (n := N.length - n) ha i e (by simpa using q)
        have e2 : N.length - (V.ref a :: vs').length = N.length - n := by rw [hl]
        unfold L2.start
        rw [e2]
        simpa using this
    · have aux : ∀ (as : List Ar) (n i : Nat) (w : Option Nat) (ds : List PyData), (as.map entOf ++ List.replicate n Ent.no)[i]? ≠ some (.ls w ds) := by
        intro as n
        induction as with
        | nil =>
          intro i w ds q
          have q' : (List.replicate n Ent.no)[i]? = some (.ls w ds) := by simpa using q
          obtain ⟨_, z⟩ := List.getElem?_eq_some_iff.mp q'
          simp at z
        | cons x xs ih =>
          intro i w ds q
          cases i with
          | zero => cases x <;> simp [entOf] at q
          | succ i => exact ih i w ds (by simpa using q)
      cases i with
      | zero =>
        cases j with
        | zero => intros; rfl
        | succ j => exact absurd (by simpa using q2) (aux as (N.length - n) j w' es)
      | succ i => exact absurd (by simpa using q1) (aux as (N.length - n) i w ds1)
    · cases i with
      | zero => simp at q1
      | succ i => exact absurd (by simpa using q1) (start_nodc (as := as) (n := N.length - n) (i := i) (w := w) (ds := ds1))
  have fin : ∀ v σ' H' Z' g', Ok K ⟨H, Z, [a], []⟩ g' σ' H' Z' → g'[0]? = some (.ls (some 0) ds') → Dd K Z' v r → Q v H' := fun v σ' H' Z' g' I' e hd' => by
    obtain ⟨b, ys, f1, f2, f3, f4, f5⟩ := I'.ent 0 _ e
    have this : b = a := by
      have z : [a][0]? = some b := f5
      simpa using z.symm
    rw [this] at f2 f3
    exact q v H' Z' ys (fun c o hc e => I'.fr c o e (by simpa using hc) (by simp)) f2 I'.z0 I'.fz f3 I'.nw f4 hd'
  refine b _ H Z I _ ⟨fun g' σ' H' Z' I' _ e => ?_, fun x v g' σ' H' Z' I' _ a e => ?_, fun _ _ _ _ _ _ z => z.elim, fun _ _ _ _ _ _ z => z.elim, fun _ _ _ _ _ _ _ _ _ z => z.elim⟩
  · exact fin _ σ' H' Z' g' I' e.2 (by rw [e.1]; exact .non)
  · obtain ⟨e, e0⟩ := e
    cases e with
    | d => exact fin v σ' H' Z' g' I' e0 a
    | @o j es _ e1 e2 =>
      subst e2
      have hj := (List.getElem?_eq_some_iff.mp e1).1
      obtain ⟨Z2, I2, s2, d2⟩ := I'.frz e1 a (SetE.mk' hj)
      have ne : (0 : Nat) ≠ j := fun z => by subst z; rw [e0] at e1; cases e1
      exact fin v σ' H' Z2 _ I2 (by rw [(SetE.mk' hj).ne ne]; exact e0) d2
end AL
/-! The layer's rules over the text: built-ins, methods of lists, comprehensions, statements. -/
namespace AL
open PySem PySem.Spec L2

/-- what a built-in's call gives -/
def RC (K : PySem.W.Frag) (C : Ct) (r : List V → Hp → VK → Prop) (xs : List Av) (g : Gm) (Q : Av → Gm → Prop) : Prop := ∀ σ H Z vs, Ok K C g σ H Z → AvsOk K σ Z xs vs → ∀ P : VK, (∀ u H' Z' z g', Ok K C g' σ H' Z' → Same Z Z' → AvOk K σ Z' z u → Q z g' → P u H') → r vs H P
section
variable {X : Cx} {C : Ct} {g g' : Gm} {e a b c o : Expr} {es : List Expr} {pos p apos : Pos} {Q : Av → Gm → Prop} {QT : Bool → Gm → Prop} {QL : List PyData → Gm → Prop} {QA : List Av → Gm → Prop} {x : Str} {K : PySem.W.Frag}
theorem ae_cb {r : List V → Hp → VK → Prop} {ta : TA} (h : AA K C ta g fun xs g1 => RC K C r xs g1 Q) : AE K C (tCB r ta) g Q := fun σ H Z I P p =>
  h σ H Z I _ fun vs H1 Z1 xs g1 I1 s1 a1 q1 => q1 σ H1 Z1 vs I1 a1 P fun u H2 Z2 z g2 I2 s2 => p u H2 Z2 z g2 I2 (s1.trans s2)
theorem ee_callB {id : String} {r : List V → Hp → VK → Prop} (hc : CallR X (.builtin id) r) (n : Bn X x) (hv : bootBuiltins x = some (.builtin id)) (h : EA X C (e :: es) g fun xs g1 => RC X.K C r xs g1 Q)
    (he : starEach (e :: es) X.env = (false, eval e X.env) :: starEach es X.env) (hpl : (backTo pos (starEach es X.env)).any (·.1) = false) : EE X C (.Call (.Name x p) (e :: es) [] pos) g Q := EE.of (pe_callB hc n.gl n.mg hv pa_t n.n1 n.d1 he hpl) (ae_cb h)
theorem ee_callTy {T : String} {r : List V → Hp → VK → Prop} (hc : CallR X (.type T) r) (n : Bn X x) (hv : bootBuiltins x = some (.type T)) (h : EA X C (e :: es) g fun xs g1 => RC X.K C r xs g1 Q)
    (he : starEach (e :: es) X.env = (false, eval e X.env) :: starEach es X.env) (hpl : (backTo pos (starEach es X.env)).any (·.1) = false) : EE X C (.Call (.Name x p) (e :: es) [] pos) g Q := EE.of (pe_callTy hc n.gl n.mg hv pa_t n.n1 n.d1 he hpl) (ae_cb h)
/-- one argument, two -/
theorem ee_len (n : Bn X "len") (h : EE X C e g fun x g1 => RC X.K C (fun xs H Q => ∃ x n, xs = [x] ∧ LenV X.K x H n ∧ Q (.int n) H) [x] g1 Q) (he : starEach [e] X.env = (false, eval e X.env) :: starEach [] X.env := by rfl) : EE X C (.Call (.Name "len" p) [e] [] pos) g Q :=
  ee_callB call_len n PySem.boot_len (ea_cons (h.mono fun x g1 q => ea_nil q) he) he rfl
theorem rc_lenL {ds : List PyData} (q : Q (.d (.int ds.length)) g) : RC K C (fun xs H Q => ∃ x n, xs = [x] ∧ LenV K x H n ∧ Q (.int n) H) [.d (.list ds)] g Q := fun σ H Z vs I a P p => by
  cases a with
  | @cons _ v _ _ a1 a2 =>
    cases a2
    have a1' : Dd K Z v (.list ds) := a1
    cases a1' with
    | @lst ad xs _ b1 b2 => exact ⟨_, ds.length, rfl, .inl ⟨xs, SqL.of (I.fz _ _ b1), b2.length.symm⟩, p _ H Z (.d (.int _)) g I (Same.refl _) (Dd.int _) q⟩
theorem rc_lenT {ds : List PyData} (q : Q (.d (.int ds.length)) g) : RC K C (fun xs H Q => ∃ x n, xs = [x] ∧ LenV K x H n ∧ Q (.int n) H) [.d (.tuple ds)] g Q := fun σ H Z vs I a P p => by
  cases a with
  | @cons _ v _ _ a1 a2 =>
    cases a2
    have a1' : Dd K Z v (.tuple ds) := a1
    cases a1' with
    | @tup ad xs _ b1 b2 => exact ⟨_, ds.length, rfl, .inr ⟨xs, Same.seqT I.fz b1, b2.length.symm⟩, p _ H Z (.d (.int _)) g I (Same.refl _) (Dd.int _) q⟩
theorem rc_lenS {s : Str} (hs : s.length ≤ sizeLine) (q : Q (.d (.int s.length)) g) : RC K C (fun xs H Q => ∃ x n, xs = [x] ∧ LenV K x H n ∧ Q (.int n) H) [.d (.str s)] g Q := fun σ H Z vs I a P p => by
  cases a with
  | @cons _ v _ _ a1 a2 =>
    cases a2; cases a1
    exact ⟨_, s.length, rfl, ⟨hs, rfl⟩, p _ H Z (.d (.int _)) g I (Same.refl _) (Dd.int _) q⟩
theorem rc_lenO {j : Nat} {w : Option Nat} {ds : List PyData} (hj : g[j]? = some (.ls w ds)) (q : Q (.d (.int ds.length)) g) : RC K C (fun xs H Q => ∃ x n, xs = [x] ∧ LenV K x H n ∧ Q (.int n) H) [.o j] g Q := fun σ H Z vs I a P p => by
  cases a with
  | @cons _ v _ _ a1 a2 =>
    cases a2
    obtain ⟨ad, xs, rfl, o2, o3, o4, o5⟩ := I.own hj a1
    exact ⟨_, ds.length, rfl, .inl ⟨xs, SqL.of o2, o4.length.symm⟩, p _ H Z (.d (.int _)) g I (Same.refl _) (Dd.int _) q⟩
theorem ee_abs (n : Bn X "abs") (h : EE X C e g fun x g1 => ∃ i, x = .d (.int i) ∧ Q (.d (.int (if i < 0 then -i else i))) g1) (he : starEach [e] X.env = (false, eval e X.env) :: starEach [] X.env := by rfl) : EE X C (.Call (.Name "abs" p) [e] [] pos) g Q :=
  ee_callB call_abs n (by decide +kernel) (ea_cons (h.mono fun x g1 q => ea_nil fun σ H Z vs I a P p => by
    obtain ⟨i, rfl, q⟩ := q
    cases a with
    | cons a1 a2 =>
      cases a2; cases a1
      exact ⟨i, rfl, p _ H Z (.d (.int _)) g1 I (Same.refl _) (Dd.int _) q⟩) he) he rfl
theorem ee_max2 (n : Bn X "max") (hc : X.calm = true) (h : EE X C a g fun x g1 => EE X C b g1 fun y g2 => ∃ i j, x = .d (.int i) ∧ y = .d (.int j) ∧ Q (.d (.int (if j > i then j else i))) g2) (he : starEach [a, b] X.env = (false, eval a X.env) :: starEach [b] X.env := by rfl) (he2 : starEach [b] X.env = (false, eval b X.env) :: starEach [] X.env := by rfl) : EE X C (.Call (.Name "max" p) [a, b] [] pos) g Q :=
  ee_callB (call_max2 hc) n (by decide +kernel) (ea_cons (h.mono fun x g1 h1 => ea_cons (h1.mono fun y g2 q => ea_nil fun σ H Z vs I a P p => by
    obtain ⟨i, j, rfl, rfl, q⟩ := q
    cases a with
    | cons a1 a2 =>
      cases a2 with
      | cons a3 a4 =>
        cases a4; cases a3; cases a1
        exact ⟨i, j, rfl, p _ H Z (.d (.int _)) g2 I (Same.refl _) (Dd.int _) q⟩) he2) he) he (by rw [he2]; rfl)
theorem ee_min2 (n : Bn X "min") (hc : X.calm = true) (h : EE X C a g fun x g1 => EE X C b g1 fun y g2 => ∃ i j, x = .d (.int i) ∧ y = .d (.int j) ∧ Q (.d (.int (if j < i then j else i))) g2) (he : starEach [a, b] X.env = (false, eval a X.env) :: starEach [b] X.env := by rfl) (he2 : starEach [b] X.env = (false, eval b X.env) :: starEach [] X.env := by rfl) : EE X C (.Call (.Name "min" p) [a, b] [] pos) g Q :=
  ee_callB (call_min2 hc) n (by decide +kernel) (ea_cons (h.mono fun x g1 h1 => ea_cons (h1.mono fun y g2 q => ea_nil fun σ H Z vs I a P p => by
    obtain ⟨i, j, rfl, rfl, q⟩ := q
    cases a with
    | cons a1 a2 =>
      cases a2 with
      | cons a3 a4 =>
        cases a4; cases a3; cases a1
        exact ⟨i, j, rfl, p _ H Z (.d (.int _)) g2 I (Same.refl _) (Dd.int _) q⟩) he2) he) he (by rw [he2]; rfl)
/-- int(a bool) -/
theorem ee_intB (n : Bn X "int") (h : EE X C e g fun x g1 => ∃ i, x = .d (.bool i) ∧ Q (.d (.int (if i then 1 else 0))) g1) (he : starEach [e] X.env = (false, eval e X.env) :: starEach [] X.env := by rfl) : EE X C (.Call (.Name "int" p) [e] [] pos) g Q :=
  ee_callTy call_int1 n (by decide +kernel) (ea_cons (h.mono fun x g1 q => ea_nil fun σ H Z vs I a P p => by
    obtain ⟨i, rfl, q⟩ := q
    cases a with
    | cons a1 a2 =>
      cases a2; cases a1
      exact .inr ⟨i, rfl, p _ H Z (.d (.int _)) g1 I (Same.refl _) (Dd.int _) q⟩) he) he rfl
/-- tuple(xs) -/
def KT (g : Gm) (x : Av) (ds : List PyData) : Prop := x = .d (.list ds) ∨ x = .d (.tuple ds) ∨ ∃ j w, x = .o j ∧ g[j]? = some (.ls w ds)
theorem ee_tuple (n : Bn X "tuple") (h : EE X C e g fun x g1 => ∃ ds, KT g1 x ds ∧ Q (.d (.tuple ds)) g1) (he : starEach [e] X.env = (false, eval e X.env) :: starEach [] X.env := by rfl) : EE X C (.Call (.Name "tuple" p) [e] [] pos) g Q :=
  EE.of (pe_tupleOf n.gl n.mg pe_t he) fun σ H Z I P p => h σ H Z I _ fun v H1 Z1 x g1 I1 s1 a1 q1 => by
    obtain ⟨ds, kt, q⟩ := q1
    have fin : ∀ ad xs, H1 ad = some (.lst xs) → DdA X.K Z1 xs ds → kTup X.K (.ref ad) H1 P := fun ad xs b1 b2 => by
      refine .inl ⟨ad, xs, rfl, SqL.of b1, fun t ht => ?_⟩
      obtain ⟨I2, s2, _⟩ := I1.newF (o := .tup xs) ht
      exact p _ _ _ (.d (.tuple ds)) g1 I2 (s1.trans s2) (.tup (SqT.of upd_same) (b2.mono s2)) q
    rcases kt with rfl | rfl | ⟨j, w, rfl, hj⟩
    · have a1' : Dd X.K Z1 v (.list ds) := a1
      cases a1' with
      | @lst ad xs _ b1 b2 => exact fin ad xs (I1.fz _ _ b1) b2
    · have a1' : Dd X.K Z1 v (.tuple ds) := a1
      cases a1' with
      | @tup ad xs _ b1 b2 => exact .inr ⟨ad, xs, rfl, Same.seqT I1.fz b1, p _ H1 Z1 (.d (.tuple ds)) g1 I1 s1 (.tup b1 b2) q⟩
    · obtain ⟨ad, xs, rfl, o2, o3, o4, o5⟩ := I1.own hj a1
      exact fin ad xs o2 o4
theorem kt_l {ds : List PyData} : KT g (.d (.list ds)) ds := .inl rfl
theorem kt_t {ds : List PyData} : KT g (.d (.tuple ds)) ds := .inr (.inl rfl)
theorem kt_o {j : Nat} {w : Option Nat} {ds : List PyData} (h : g[j]? = some (.ls w ds)) : KT g (.o j) ds := .inr (.inr ⟨j, w, rfl, h⟩)
/-- list(xs): a new list -/
theorem en_list (n : Bn X "list") (h : EE X C e g fun x g1 => ∃ ds, KT g1 x ds ∧ QL ds g1) (he : starEach [e] X.env = (false, eval e X.env) :: starEach [] X.env := by rfl) : EN X C (.Call (.Name "list" p) [e] [] pos) g QL :=
  EN.of (pe_callTy (T := "list") call_list_of n.gl n.mg (by decide +kernel) pa_t n.n1 n.d1 he rfl) fun σ H Z I P p =>
    (show EA X C [e] g (fun xs g1 => ∃ x ds, xs = [x] ∧ KT g1 x ds ∧ QL ds g1) from ea_cons (h.mono fun x g1 q => by
      obtain ⟨ds, q1, q2⟩ := q
      exact ea_nil ⟨x, ds, rfl, q1, q2⟩) he) σ H Z I _ fun vs H1 Z1 xs g1 I1 s1 a1 q1 => by
    obtain ⟨x, ds, rfl, kt, q⟩ := q1
    cases a1 with
    | @cons _ v _ _ a1 a2 =>
      cases a2
      have fin : ∀ xs l, H1 l = none → DdA X.K Z1 xs ds → P (.ref l) (upd H1 l (.lst xs)) := fun xs l hl b2 => by
        obtain ⟨m1, m2, m3⟩ := I1.new hl
        exact p l _ Z1 ds g1 (I1.newO hl) s1 ⟨⟨xs, upd_same, b2⟩, m1, m2, m3⟩ q
      rcases kt with rfl | rfl | ⟨j, w, rfl, hj⟩
      · have a1' : Dd X.K Z1 v (.list ds) := a1
        cases a1' with
        | @lst ad xs _ b1 b2 => exact ⟨ad, xs, rfl, .inl (SqL.of (I1.fz _ _ b1)), fun l hl => fin xs l hl b2⟩
      · have a1' : Dd X.K Z1 v (.tuple ds) := a1
        cases a1' with
        | @tup ad xs _ b1 b2 => exact ⟨ad, xs, rfl, .inr (Same.seqT I1.fz b1), fun l hl => fin xs l hl b2⟩
      · obtain ⟨ad, xs, rfl, o2, o3, o4, o5⟩ := I1.own hj a1
        exact ⟨ad, xs, rfl, .inl (SqL.of o2), fun l hl => fin xs l hl o4⟩
/-- xs + ys, lists: a new list -/
theorem en_cat (h : EE X C a g fun x g1 => EE X C b g1 fun y g2 => ∃ ds es, (x = .d (.list ds) ∨ ∃ j w, x = .o j ∧ g2[j]? = some (.ls w ds)) ∧ (y = .d (.list es) ∨ ∃ j w, y = .o j ∧ g2[j]? = some (.ls w es)) ∧ ds.length + es.length ≤ 1000000 ∧ QL (ds ++ es) g2) : EN X C (.BinOp a .Add b pos) g QL :=
  EN.of (pe_op op_cat pe_t pe_t) fun σ H Z I P p => h σ H Z I _ fun v H1 Z1 x g1 I1 s1 a1 h1 => h1 σ H1 Z1 I1 _ fun w H2 Z2 y g2 I2 s2 a2 q => by
    obtain ⟨ds, es, hx, hy, hl, q⟩ := q
    have get : ∀ {z : Av} {u : V} {ds : List PyData}, AvOk X.K σ Z2 z u → (z = .d (.list ds) ∨ ∃ j w, z = .o j ∧ g2[j]? = some (.ls w ds)) → ∃ ad xs, u = .ref ad ∧ H2 ad = some (.lst xs) ∧ DdA X.K Z2 xs ds := fun {z u ds} az hz => by
      rcases hz with rfl | ⟨j, w, rfl, hj⟩
      · have a1' : Dd X.K Z2 u (.list ds) := az
        cases a1' with
        | @lst ad xs _ b1 b2 => exact ⟨ad, xs, rfl, I2.fz _ _ b1, b2⟩
      · obtain ⟨ad, xs, rfl, o2, o3, o4, o5⟩ := I2.own hj az
        exact ⟨ad, xs, rfl, o2, o4⟩
    obtain ⟨ad, xs, rfl, b1, b2⟩ := get (a1.mono s2) hx
    obtain ⟨bd, ys, rfl, c1, c2⟩ := get a2 hy
    refine ⟨ad, bd, xs, ys, rfl, rfl, b1, c1, by rw [b2.length, c2.length]; exact Nat.le_trans hl (by decide), fun l hl => ?_⟩
    obtain ⟨m1, m2, m3⟩ := I2.new hl
    exact p l _ Z2 (ds ++ es) g2 (I2.newO hl) (s1.trans s2) ⟨⟨xs ++ ys, upd_same, b2.append c2⟩, m1, m2, m3⟩ q

/-! ### isinstance -/
def tyN : PyData → String
  | .none => "NoneType"
  | .bool _ => "bool"
  | .int _ => "int"
  | .str _ => "str"
  | .list _ => "list"
  | .tuple _ => "tuple"
  | .dict _ => "dict"
def isiT : List String := ["bool", "int", "str", "list", "tuple", "dict"]
def isiB (a b : String) : Bool := a == b || (a == "bool" && b == "int")
theorem isi_all : (["NoneType", "bool", "int", "str", "list", "tuple", "dict"].all fun a => isiT.all fun b => decide (kitB a b = some (isiB a b))) = true := by decide +kernel
theorem isi_ok {a b : String} (ha : a ∈ ["NoneType", "bool", "int", "str", "list", "tuple", "dict"]) (hb : b ∈ isiT) : kitB a b = some (isiB a b) :=
  of_decide_eq_true (List.all_eq_true.mp (List.all_eq_true.mp isi_all a ha) b hb)
def notD : PyData → Bool
  | .dict [(.none, .none)] => true
  | .dict _ => false
  | _ => true
theorem Ok.ty {σ : St} {H Z : Hp} (I : Ok K C g σ H Z) {d : PyData} {v : V} (nd : notD d = true) (h : Dd K Z v d) : TyX K H v (.type (tyN d)) ∧ tyN d ∈ ["NoneType", "bool", "int", "str", "list", "tuple", "dict"] := by
  cases h with
  | non => exact ⟨.base .non, by simp [tyN]⟩
  | bl b => exact ⟨.base (.bl b), by simp [tyN]⟩
  | int i => exact ⟨.base (.int i), by simp [tyN]⟩
  | str s => exact ⟨.base (.str s), by simp [tyN]⟩
  | @scr a ns h1 =>
    exfalso
    match ns, nd with
    | [], nd => cases nd
    | [_], nd => cases nd
    | _ :: _ :: _, nd => cases nd
  | dct h1 => exact ⟨.base (.dK (I.fz _ _ h1)), by simp [tyN]⟩
  | lst h1 h2 => exact ⟨.base (.lst (I.fz _ _ h1)), by simp [tyN]⟩
  | tup h1 h2 =>
    refine ⟨?_, by simp [tyN]⟩
    rcases h1 with (h | ⟨o, h⟩) | ⟨o, its, n, h1, h2, _⟩
    · exact .base (.tup (I.fz _ _ h))
    · exact .fTuple (I.fz _ _ h)
    · exact .kTuple h1 h2
theorem ee_isi {T : String} (n : Bn X "isinstance") (hT : T ∈ isiT) (h : EE X C a g fun x g1 => EE X C b g1 fun y g2 => ∃ d, notD d = true ∧ (x = .d d ∨ ∃ j w ds, x = .o j ∧ g2[j]? = some (.ls w ds) ∧ d = .list ds) ∧ y = .v (.ty T) ∧ Q (.d (.bool (isiB (tyN d) T))) g2) (he : starEach [a, b] X.env = (false, eval a X.env) :: starEach [b] X.env := by rfl) (he2 : starEach [b] X.env = (false, eval b X.env) :: starEach [] X.env := by rfl) : EE X C (.Call (.Name "isinstance" p) [a, b] [] pos) g Q :=
  ee_callB call_isi n (by decide +kernel) (ea_cons (h.mono fun x g1 h1 => ea_cons (h1.mono fun y g2 q => ea_nil fun σ H Z vs I a P p => by
    obtain ⟨d, nd, hx, rfl, q⟩ := q
    cases a with
    | @cons _ v _ _ a1 a2 =>
      cases a2 with
      | cons a3 a4 =>
        cases a4; cases a3
        have ty : TyX X.K H v (.type (tyN d)) ∧ tyN d ∈ ["NoneType", "bool", "int", "str", "list", "tuple", "dict"] := by
          rcases hx with rfl | ⟨j, w, ds, rfl, hj, rfl⟩
          · exact I.ty nd a1
          · obtain ⟨ad, xs, rfl, o2, o3, o4, o5⟩ := I.own hj a1
            exact ⟨.base (.lst o2), by simp [tyN]⟩
        exact ⟨v, .ty T, _, _, _, rfl, .ty T, ty.1, kit_ty (isi_ok ty.2 hT), p _ H Z (.d (.bool _)) g2 I (Same.refl _) (Dd.bl _) q⟩) he2) he) he (by rw [he2]; rfl)

/-! ### methods of an own list -/
theorem ee_append (h : EE X C o g fun x g1 => ∃ j w0 ds0, x = .o j ∧ g1[j]? = some (.ls w0 ds0) ∧ EE X C e g1 fun y g2 => ∃ w ds d g3 g4, Frz [y] g2 [d] g3 ∧ g3[j]? = some (.ls w ds) ∧ ds.length < 1000000 ∧ SetE g3 j (.ls w (ds ++ [d])) g4 ∧ Q (.d .none) g4)
    (hbase : attributeBase o "append" X.env (eval o X.env) = eval o X.env := by rfl) (hline : (apos.endLine == pos.line) = true := by rfl) (hs : starEach [e] X.env = (false, eval e X.env) :: starEach [] X.env := by rfl)
    (hfew : ((backTo pos (starEach [e] X.env)).all (fun x => !x.1) && (backToKw pos (keywordEach [] X.env)).all (fun x => x.1.isSome) && decide ([e].length + ([] : List Keyword).length + (if ([] : List Keyword).isEmpty then 0 else 1) < 30)) = true := by rfl) :
    EE X C (.Call (.Attribute o "append" apos) [e] [] pos) g Q :=
  EE.of (pe_bm PySem.F.plainAttrs_list PySem.F.slot_list_append PySem.F.type_list_append mt_append pe_t pa_t hbase hfew hline hs rfl) fun σ H Z I P p =>
    h σ H Z I _ fun v H1 Z1 x g1 I1 s1 a1 q1 => by
      obtain ⟨j, w0, ds0, rfl, hj0, h2⟩ := q1
      obtain ⟨ad, xs0, rfl, o2, o3, o4, o5⟩ := I1.own hj0 a1
      refine ⟨.inl ⟨rfl, xs0, SqL.of o2⟩, ?_⟩
      refine (show EA X C [e] g1 (fun ys g2 => ∃ y w ds d g3 g4, ys = [y] ∧ Frz [y] g2 [d] g3 ∧ g3[j]? = some (.ls w ds) ∧ ds.length < 1000000 ∧ SetE g3 j (.ls w (ds ++ [d])) g4 ∧ Q (.d .none) g4) from ea_cons (h2.mono fun y g2 q => by
        obtain ⟨w, ds, d, g3, g4, q⟩ := q
        exact ea_nil ⟨y, w, ds, d, g3, g4, rfl, q⟩) hs) σ H1 Z1 I1 _ fun vs H2 Z2 ys g2 I2 s2 a2 q => ?_
      obtain ⟨y, w, ds, d, g3, g4, rfl, f, hj, hl, hs4, q⟩ := q
      obtain ⟨Z3, I3, s3, r3⟩ := f.run I2 a2
      cases r3 with
      | @cons u _ _ _ r4 r5 =>
        cases r5
        obtain ⟨ad', xs, e0, o2', o3', o4', o5'⟩ := I3.own hj a1
        cases e0
        refine ⟨ad, xs, u, rfl, rfl, o2', by rw [o4'.length]; exact Nat.lt_of_lt_of_le hl (by decide), ?_⟩
        exact p .non _ Z3 (.d .none) g4 (I3.put hj a1 (o4'.append (.cons r4 .nil)) hs4) ((s1.trans s2).trans s3) Dd.non q
end
end AL
/-! The layer's rules over the text: what is walked, comprehensions, statements. -/
namespace AL
open PySem PySem.Spec L2

def NoAt (g : Gm) (vs : List Nat) : Prop := ∀ i ∈ vs, g[i]? = some .no
section
variable {K : PySem.W.Frag} {C : Ct} {g g' : Gm} {σ : St} {H H' Z Z' : Hp}
theorem wipe_get {σ : St} {i : Nat} : ∀ {vs : List Nat}, i ∉ vs → (wipe σ vs)[i]? = σ[i]?
  | [], _ => rfl
  | v :: vs, h => by
    unfold wipe
    rw [List.getElem?_set_ne (by simp at h; exact fun z => h.1 z.symm)]
    exact wipe_get (by simp at h; exact h.2)
theorem Ok.wipe (I : Ok K C g σ H Z) {vs : List Nat} (n : NoAt g vs) : Ok K C g (L2.wipe σ vs) H Z := by
  have q : ∀ {i : Nat} {e : Ent}, g[i]? = some e → e ≠ .no → (L2.wipe σ vs)[i]? = σ[i]? := fun {i e} h ne => wipe_get fun hm => by
    rw [n i hm] at h; cases h; exact ne rfl
  refine ⟨I.ln.trans (wipe_length σ vs).symm, I.fz, I.fr, I.z0, I.nw, I.b0, I.wz, I.wh, fun i e h => ?_, fun i j w w' ds es a h1 h2 h3 h4 => ?_, I.tb, I.tz, fun i j w w' ds es a h1 h2 h3 h4 => ?_⟩
  · have r := I.ent i e h
    cases e with
    | no => trivial
    | im d => rw [q h (by simp)]; exact r
    | ls w ds => rw [q h (by simp)]; exact r
    | vl v => rw [q h (by simp)]; exact r
    | dc w ds => rw [q h (by simp)]; exact r
  · rw [q h1 (by simp)] at h3
    rw [q h2 (by simp)] at h4
    exact I.inj i j w w' ds es a h1 h2 h3 h4
  · rw [q h1 (by simp)] at h3
    rw [q h2 (by simp)] at h4
    exact I.injD i j w w' ds es a h1 h2 h3 h4
theorem Ok.unwipe {vs : List Nat} (I : Ok K C g (L2.wipe σ vs) H Z) (n : NoAt g vs) : Ok K C g σ H Z := by
  have q : ∀ {i : Nat} {e : Ent}, g[i]? = some e → e ≠ .no → (L2.wipe σ vs)[i]? = σ[i]? := fun {i e} h ne => wipe_get fun hm => by
    rw [n i hm] at h; cases h; exact ne rfl
  refine ⟨I.ln.trans (wipe_length σ vs), I.fz, I.fr, I.z0, I.nw, I.b0, I.wz, I.wh, fun i e h => ?_, fun i j w w' ds es a h1 h2 h3 h4 => ?_, I.tb, I.tz, fun i j w w' ds es a h1 h2 h3 h4 => ?_⟩
  · have r := I.ent i e h
    cases e with
    | no => trivial
    | im d => rw [q h (by simp)] at r; exact r
    | ls w ds => rw [q h (by simp)] at r; exact r
    | vl v => rw [q h (by simp)] at r; exact r
    | dc w ds => rw [q h (by simp)] at r; exact r
  · rw [← q h1 (by simp)] at h3
    rw [← q h2 (by simp)] at h4
    exact I.inj i j w w' ds es a h1 h2 h3 h4
  · rw [← q h1 (by simp)] at h3
    rw [← q h2 (by simp)] at h4
    exact I.injD i j w w' ds es a h1 h2 h3 h4
theorem WipeE.wk : ∀ {vs : List Nat} {g g' : Gm}, WipeE g vs g' → WkE g g' ∧ NoAt g' vs
  | [], _, _, .nil => ⟨WkE.refl _, fun _ h => by simp at h⟩
  | v :: vs, g, g', .cons h s => by
    obtain ⟨w, n⟩ := h.wk
    have aux : ∀ {g g1 g2 : Gm} {i : Nat}, WkE g g1 → SetE g1 i .no g2 → WkE g g2 := by
      intro g g1 g2 i w s
      induction w generalizing i g2 with
      | nil => cases s
      | same w ih =>
        cases s with
        | z => exact .drop w
        | s s => exact .same (ih s)
      | drop w ih =>
        cases s with
        | z => exact .drop w
        | s s => exact .drop (ih s)
    refine ⟨aux w s, fun i hi => ?_⟩
    by_cases q : i = v
    · subst q; exact s.same
    · rw [s.ne q]; exact n i (by simpa [q] using hi)

/-- a target that stores only at vs -/
def AGv (K : PySem.W.Frag) (C : Ct) (vs : List Nat) (tg : TG) (x : Av) (g : Gm) (Q : Gm → Prop) : Prop := ∀ σ H Z v, Ok K C g σ H Z → AvOk K σ Z x v → ∀ Q' : St → Hp → Prop, (∀ g' σ' H' Z', Ok K C g' σ' H' Z' → Same Z Z' → (∀ i, i ∉ vs → σ'[i]? = σ[i]?) → σ'.length = σ.length → Q g' → Q' σ' H') → tg v σ H Q'
def AGsv (K : PySem.W.Frag) (C : Ct) (vs : List Nat) (tg : TGs) (ds : List PyData) (g : Gm) (Q : Gm → Prop) : Prop := ∀ σ H Z ws, Ok K C g σ H Z → DdA K Z ws ds → ∀ Q' : St → Hp → Prop, (∀ g' σ' H' Z', Ok K C g' σ' H' Z' → Same Z Z' → (∀ i, i ∉ vs → σ'[i]? = σ[i]?) → σ'.length = σ.length → Q g' → Q' σ' H') → tg ws σ H Q'
section
variable {vs : List Nat} {QG : Gm → Prop}
theorem agv_d {i : Nat} {d : PyData} (hi : i ∈ vs) (h : SetE g i (.im d) g') (q : QG g') : AGv K C vs (gName i) (.d d) g QG := fun σ H Z v I a P p =>
  p g' _ H Z (I.setD a h) (Same.refl _) (fun j hj => List.getElem?_set_ne (fun z => hj (by rw [← z]; exact hi))) (by simp) q
theorem agsv_nil (q : QG g) : AGsv K C vs gNil [] g QG := fun σ H Z ws I a P p => by
  cases a
  exact ⟨rfl, p g σ H Z I (Same.refl _) (fun _ _ => rfl) rfl q⟩
theorem agsv_cons {t : TG} {u : TGs} {d : PyData} {ds : List PyData} (h : AGv K C vs t (.d d) g fun g1 => AGsv K C vs u ds g1 QG) : AGsv K C vs (gCons t u) (d :: ds) g QG := fun σ H Z ws I a P p => by
  cases a with
  | @cons v ws _ _ a1 a2 =>
    exact ⟨v, ws, rfl, h σ H Z v I a1 _ fun g1 σ1 H1 Z1 I1 s1 f1 l1 q1 => q1 σ1 H1 Z1 ws I1 (a2.mono s1) P fun g2 σ2 H2 Z2 I2 s2 f2 l2 => p g2 σ2 H2 Z2 I2 (s1.trans s2) (fun i hi => (f2 i hi).trans (f1 i hi)) (l2.trans l1)⟩
theorem agv_tup {n : Nat} {t : TGs} {ds : List PyData} (hl : ds.length = n) (h : AGsv K C vs t ds g QG) : AGv K C vs (gTup K n t) (.d (.tuple ds)) g QG := fun σ H Z v I a P p => by
  have a' : Dd K Z v (.tuple ds) := a
  cases a' with
  | @tup q xs _ a1 a2 =>
    exact ⟨q, xs, rfl, Same.seqT I.fz a1, by rw [a2.length]; exact hl, h σ H Z xs I a2 P p⟩
end
/-- a context with the same tables -/
structure CtT (C : Ct) where
  val : Ct
  hT : val.T = C.T
/-- the list at D kept safe -/
def Ct.with (C : Ct) (D : Addr) (xs : List V) : Ct := ⟨upd C.H0 D (.lst xs), C.Z0, C.W, C.T⟩
theorem Ok.safe (I : Ok K C g σ H Z) {D : Addr} {ds : List PyData} (n : New K C g σ H Z D ds) {xs : List V} (hx : H D = some (.lst xs)) : Ok K (C.with D xs) g σ H Z := by
  have nW : D ∉ C.W := fun z => by
    have := (I.wz D z).1
    rw [n.n0] at this; cases this
  refine ⟨I.ln, I.fz, fun a o h hw ht => ?_, I.z0, fun a o h => ?_, fun a o h => ?_, fun a h => ⟨?_, (I.wz a h).2⟩, I.wh, fun i e h => ?_, I.inj, I.tb, fun p h => ⟨?_, (I.tz p h).2⟩, I.injD⟩
  · by_cases z : a = D
    · subst z
      have h' : upd C.H0 a (.lst xs) a = some o := h
      rw [upd_same] at h'; cases h'; exact hx
    · have h' : upd C.H0 D (.lst xs) a = some o := h
      rw [upd_ne z] at h'; exact I.fr a o h' hw ht
  · have z : a ≠ D := fun z => by subst z; rw [n.nz] at h; cases h
    rcases I.nw a o h with q | q
    · exact .inl q
    · exact .inr (by show upd C.H0 D (.lst xs) a = none; rw [upd_ne z]; exact q)
  · have z : a ≠ D := fun z => by subst z; have := I.z0 a o h; rw [n.nz] at this; cases this
    show upd C.H0 D (.lst xs) a = some o
    rw [upd_ne z]; exact I.b0 a o h
  · have z : a ≠ D := fun z => by subst z; exact nW h
    show (upd C.H0 D (.lst xs) a).isSome = true
    rw [upd_ne z]; exact (I.wz a h).1
  · have r := I.ent i e h
    cases e with
    | no => trivial
    | im d => exact r
    | ls w ds2 =>
      obtain ⟨a, ys, f1, f2, f3, f4, f5⟩ := r
      refine ⟨a, ys, f1, f2, f3, f4, ?_⟩
      cases w with
      | none =>
        have z : a ≠ D := fun z => by subst z; exact n.no i none ds2 h f1
        show upd C.H0 D (.lst xs) a = none
        rw [upd_ne z]; exact f5
      | some k => exact f5
    | vl v => exact r
    | dc w ds2 =>
      obtain ⟨a, o, f1, f2, f3, f4, f5, f6⟩ := r
      refine ⟨a, o, f1, f2, f3, f4, ?_, f6⟩
      cases w with
      | none =>
        have z : a ≠ D := dic_ne f2 hx
        show upd C.H0 D (.lst xs) a = none
        rw [upd_ne z]; exact f5
      | some k => exact f5
  · have z : p.1 ≠ D := fun z => by have := (I.tz p h).1; rw [z, n.n0] at this; cases this
    show (upd C.H0 D (.lst xs) p.1).isSome = true
    rw [upd_ne z]; exact (I.tz p h).1
theorem Ok.nT (I : Ok K C g σ H Z) {D : Addr} (n0 : C.H0 D = none) : D ∉ C.T.map (·.1) := fun m => by
  obtain ⟨p, hp, e⟩ := List.mem_map.mp m
  have := (I.tz p hp).1
  rw [e, n0] at this; cases this
theorem Ok.unsafe (n0 : C.H0 D = none) (nW : D ∉ C.W) (nT : D ∉ C.T.map (·.1)) (nZ : C.Z0 D = none) {xs : List V} (I : Ok K (C.with D xs) g σ H Z) : Ok K C g σ H Z ∧ H D = some (.lst xs) ∧ Z D = none ∧ ∀ (j : Nat) (w : Option Nat) (es : List PyData), g[j]? = some (Ent.ls w es) → σ[j]? ≠ some (some (V.ref D)) := by
  have hD : H D = some (.lst xs) := I.fr D _ upd_same nW nT
  have hZ : Z D = none := by
    cases q : Z D with
    | none => rfl
    | some o =>
      rcases I.nw D o q with z | z
      · have z' : C.Z0 D = some o := z
        rw [nZ] at z'; cases z'
      · have z' : upd C.H0 D (.lst xs) D = none := z
        rw [upd_same] at z'; cases z'
  have ne0 : ∀ {a : Addr}, a ≠ D → (C.with D xs).H0 a = C.H0 a := fun {a} z => upd_ne z
  refine ⟨⟨I.ln, I.fz, fun a o h hw ht => ?_, I.z0, fun a o h => ?_, fun a o h => ?_, fun a h => ⟨?_, (I.wz a h).2⟩, I.wh, fun i e h => ?_, I.inj, I.tb, fun p h => ⟨?_, (I.tz p h).2⟩, I.injD⟩, hD, hZ, fun j w es e z => ?_⟩
  · have z : a ≠ D := fun z => by subst z; rw [n0] at h; cases h
    exact I.fr a o (by rw [ne0 z]; exact h) hw ht
  · rcases I.nw a o h with q | q
    · exact .inl q
    · by_cases z : a = D
      · subst z; rw [hZ] at h; cases h
      · rw [ne0 z] at q; exact .inr q
  · have q := I.b0 a o h
    by_cases z : a = D
    · subst z; rw [nZ] at h; cases h
    · rw [ne0 z] at q; exact q
  · have q := (I.wz a h).1
    by_cases z : a = D
    · subst z; exact absurd h nW
    · rw [ne0 z] at q; exact q
  · have r := I.ent i e h
    cases e with
    | no => trivial
    | im d => exact r
    | ls w ds2 =>
      obtain ⟨a, ys, f1, f2, f3, f4, f5⟩ := r
      refine ⟨a, ys, f1, f2, f3, f4, ?_⟩
      cases w with
      | none =>
        have f5' : (C.with D xs).H0 a = none := f5
        by_cases z : a = D
        · subst z
          have f6 : upd C.H0 a (.lst xs) a = none := f5'
          rw [upd_same] at f6; cases f6
        · rw [ne0 z] at f5'; exact f5'
      | some k => exact f5
    | vl v => exact r
    | dc w ds2 =>
      obtain ⟨a, o, f1, f2, f3, f4, f5, f6⟩ := r
      refine ⟨a, o, f1, f2, f3, f4, ?_, f6⟩
      cases w with
      | none =>
        have f5' : (C.with D xs).H0 a = none := f5
        by_cases z : a = D
        · subst z
          have f7 : upd C.H0 a (.lst xs) a = none := f5'
          rw [upd_same] at f7; cases f7
        · rw [ne0 z] at f5'; exact f5'
      | some k => exact f5
  · have q := (I.tz p h).1
    have z : p.1 ≠ D := fun z => nT (List.mem_map.mpr ⟨p, h, z⟩)
    rw [ne0 z] at q; exact q
  · obtain ⟨a, ys, f1, f2, f3, f4, f5⟩ := I.ent j _ e
    rw [z] at f1; cases f1
    cases w with
    | none =>
      have f6 : upd C.H0 D (.lst xs) D = none := f5
      rw [upd_same] at f6; cases f6
    | some k => exact nW (List.mem_of_getElem? (show C.W[k]? = some D from f5))

/-- a comprehension; J: the turn, what is made so far -/
theorem an_lc {wi : TI} {tg : TG} {tt : TT} {te : TE} {vs : List Nat} {QL : List PyData → Gm → Prop} (h : AI K C wi g fun ds g1 => ∃ g2, WipeE g1 vs g2 ∧ ∃ J : Nat → List PyData → Gm → Prop, J 0 [] g2 ∧ (∀ i acc g', J i acc g' → NoAt g' vs) ∧
      (∀ (C' : CtT C) i d acc g', ds[i]? = some d → J i acc g' → AGv K C'.1 vs tg (.d d) g' fun g3 => AT K C'.1 tt g3 fun b g4 => BR b (AE K C'.1 te g4 fun x g5 => ∃ d' g6 g7, Frz [x] g5 [d'] g6 ∧ acc.length < 1000000 ∧ WkE g6 g7 ∧ J (i + 1) (acc ++ [d']) g7) (∃ g7, WkE g4 g7 ∧ J (i + 1) acc g7)) ∧
      (∀ acc g', J ds.length acc g' → QL acc g')) : AN K C (tLc wi tg tt te vs) g QL := fun σ H Z I P p =>
  h σ H Z I _ fun J H1 Z1 ds g1 I1 s1 w q => by
    obtain ⟨g2, hw, W, j0, jn, js, je⟩ := q
    obtain ⟨G, Y, wk, wg, wy⟩ := w.ex
    obtain ⟨w1, w2⟩ := hw.wk
    have I2 : Ok K C g2 σ H1 Z1 := I1.weak w1
    intro D hD
    obtain ⟨n1, n2, n3⟩ := I2.new hD
    have nW : D ∉ C.W := fun z => by
      have := I2.wh D z
      rw [hD] at this; cases this
    have nZ0 : C.Z0 D = none := by
      cases q : C.Z0 D with
      | none => rfl
      | some o => have := I2.b0 D o q; rw [n2] at this; cases this
    -- the state between the turns
    refine lc_it wk (vs := vs) (σ := σ) (fun i H => ∃ g' Z' acc, Ok K C g' (L2.wipe σ vs) H Z' ∧ Same Z1 Z' ∧ New K C g' (L2.wipe σ vs) H Z' D acc ∧ W i acc g') ?_ (fun i H _ ⟨g', Z', acc, I', s', _⟩ => wg C g' _ H Z' I' s') ?_ ?_
    · have I3 : Ok K C g2 σ (upd H1 D (.lst [])) Z1 := I2.newO hD
      refine ⟨g2, Z1, [], I3.wipe w2, Same.refl _, ⟨⟨[], upd_same, .nil⟩, n1, n2, fun j w es e z => ?_⟩, j0⟩
      have hj : j ∉ vs := fun hm => by rw [w2 j hm] at e; cases e
      rw [wipe_get hj] at z
      exact n3 j w es e z
    · rintro i x H2 H3 hi ⟨g3, Z3, acc, I3, s3, nw, j3⟩ y
      have e : ds[i]? = some ds[i] := List.getElem?_eq_getElem hi
      obtain ⟨xs, x1, x2⟩ := nw.at_
      have Is := I3.safe nw x1
      -- the walk's step keeps the list too
      obtain ⟨Z4, I4, s4, a4⟩ := wy (C.with D xs) i H2 x H3 g3 _ Z3 _ Is s3 e y
      refine js ⟨C.with D xs, rfl⟩ i _ acc g3 e j3 _ H3 Z4 x I4 a4 _ fun g5 σ5 H5 Z5 I5 s5 f5 l5 q5 => ?_
      have hwp : L2.wipe σ5 vs = L2.wipe σ vs := by
        apply List.ext_getElem?
        intro k
        by_cases hk : k ∈ vs
        · have aux : ∀ (τ : St) (l : List Nat), k ∈ l → (L2.wipe τ l)[k]? = (if k < τ.length then some none else none) := by
            intro τ l
            induction l with
            | nil => intro h; simp at h
            | cons a l ih =>
              intro h
              unfold L2.wipe
              by_cases ka : a = k
              · subst ka
                by_cases kl : a < τ.length
                · rw [List.getElem?_set_self (by rw [wipe_length]; exact kl), if_pos kl]
                · rw [if_neg kl, List.getElem?_eq_none (by simp [wipe_length]; omega)]
              · rw [List.getElem?_set_ne ka]
                exact ih (by simpa [Ne.symm ka] using h)
          rw [aux _ _ hk, aux _ _ hk, l5, wipe_length]
        · rw [wipe_get hk, wipe_get hk, f5 k hk, wipe_get hk]
      refine ⟨hwp, q5 σ5 H5 Z5 I5 _ fun b H6 Z6 g6 I6 s6 q6 => ?_⟩
      cases b with
      | true =>
        refine q6.1 rfl σ5 H6 Z6 I6 _ fun v H7 Z7 x7 g7 I7 s7 a7 q7 => ?_
        obtain ⟨d', g8, g9, fz, hl, wk9, j9⟩ := q7
        obtain ⟨Z8, I8, s8, r8⟩ := fz.run I7 (.cons a7 .nil)
        cases r8 with
        | @cons _ _ _ _ r9 r10 =>
          cases r10
          obtain ⟨I9, e1, e2, e3⟩ := I8.unsafe n2 nW (I2.nT n2) nZ0
          have s38 : Same Z3 Z8 := (((s4.trans s5).trans s6).trans s7).trans s8
          have I10 : Ok K C g9 (L2.wipe σ vs) H7 Z8 := by rw [← hwp]; exact (I9.weak wk9).wipe (jn _ _ _ j9)
          refine ⟨xs, e1, by rw [x2.length]; exact Nat.lt_of_lt_of_le hl (by decide), g9, Z8, acc ++ [d'], ?_, s3.trans s38, ⟨⟨xs ++ [v], upd_same, (x2.mono s38).append (.cons r9 .nil)⟩, e2, n2, fun j w es e z => ?_⟩, j9⟩
          · -- the list at D is changed: nobody holds it
            refine ⟨I10.ln, fun a o q => ?_, fun a o q hw ht => ?_, I10.z0, I10.nw, I10.b0, I10.wz, fun a q => ?_, fun k en q => ?_, I10.inj, Tabs.keep I10.tb (fun a o q n => ?_), I10.tz, I10.injD⟩
            · rw [upd_ne (ne_of_none q e2)]; exact I10.fz a o q
            · rw [upd_ne (ne_of_none q n2)]; exact I10.fr a o q hw ht
            · rw [upd_ne (fun z => nW (by rw [← z]; exact q))]; exact I10.wh a q
            · have r := I10.ent k en q
              cases en with
              | no => trivial
              | im d => exact r
              | ls w ds2 =>
                obtain ⟨a, ys, f1, f2, f3, f4, f5'⟩ := r
                have ne : a ≠ D := fun z => by
                  subst z
                  have hk : k ∉ vs := fun hm => by rw [jn _ _ _ j9 k hm] at q; cases q
                  rw [← hwp, wipe_get hk] at f1
                  rcases wk9.get q with zz | zz
                  · cases zz
                  · exact e3 k w ds2 zz f1
                exact ⟨a, ys, f1, by rw [upd_ne ne]; exact f2, f3, f4, f5'⟩
              | vl v => exact r
              | dc w ds2 =>
                obtain ⟨a, o, f1, f2, f3, f4, f5', f6⟩ := r
                have ne : a ≠ D := dic_ne f2 e1
                exact ⟨a, o, f1, by rw [upd_ne ne]; exact f2, f3, f4, f5', f6⟩
            · rw [upd_ne (fun z => by subst z; rw [e1] at q; cases q; exact n _ rfl)]; exact q
          · have hk : j ∉ vs := fun hm => by rw [jn _ _ _ j9 j hm] at e; cases e
            rw [← hwp, wipe_get hk] at z
            rcases wk9.get e with zz | zz
            · cases zz
            · exact e3 j w es zz z
      | false =>
        obtain ⟨g9, wk9, j9⟩ := q6.2 rfl
        obtain ⟨I9, e1, e2, e3⟩ := I6.unsafe n2 nW (I2.nT n2) nZ0
        have s38 : Same Z3 Z6 := (s4.trans s5).trans s6
        have I10 : Ok K C g9 (L2.wipe σ vs) H6 Z6 := by rw [← hwp]; exact (I9.weak wk9).wipe (jn _ _ _ j9)
        refine ⟨g9, Z6, acc, I10, s3.trans s38, ⟨⟨xs, e1, x2.mono s38⟩, e2, n2, fun j w es e z => ?_⟩, j9⟩
        have hk : j ∉ vs := fun hm => by rw [jn _ _ _ j9 j hm] at e; cases e
        rw [← hwp, wipe_get hk] at z
        rcases wk9.get e with zz | zz
        · cases zz
        · exact e3 j w es zz z
    · rintro H2 ⟨g3, Z3, acc, I3, s3, nw, j3⟩
      refine p D H2 Z3 acc g3 (I3.unwipe (jn _ _ _ j3)) (s1.trans s3) ⟨nw.at_, nw.nz, nw.n0, fun j w es e z => ?_⟩ (je acc g3 j3)
      have hj : j ∉ vs := fun hm => by rw [jn _ _ _ j3 j hm] at e; cases e
      exact nw.no j w es e (by rw [wipe_get hj]; exact z)
end
end AL
/-! The layer's rules over the text: what is walked, comprehensions, targets, statements. -/
namespace AL
open PySem PySem.Spec L2

section
variable {X : Cx} {C : Ct} {g g' : Gm} {e a b c o tg iter elt : Expr} {es ifs : List Expr} {pos p apos p' : Pos} {Q : Av → Gm → Prop} {QT : Bool → Gm → Prop} {QL : List PyData → Gm → Prop} {QI : List PyData → Gm → Prop} {QG : Gm → Prop} {x : Str}
/-! ### what is walked -/
theorem ei_list (h : EE X C iter g fun x g1 => ∃ xs g2, Frz [x] g1 [.list xs] g2 ∧ QI xs g2) : EI X C tg iter g QI := EI.of (pi_list pe_t) (ai_list h)
theorem ei_tup (h : EE X C iter g fun x g1 => ∃ xs, x = .d (.tuple xs) ∧ QI xs g1) : EI X C tg iter g QI := EI.of (pi_tup pe_t) (ai_tup h)
theorem ei_range1 (n : Bn X "range") (h : EE X C a g fun x g1 => ∃ j, x = .d (.int j) ∧ -(2 ^ 62) ≤ j ∧ j < 2 ^ 62 ∧ QI (rangeD 0 j.toNat) g1) (he : starEach [a] X.env = (false, eval a X.env) :: starEach [] X.env := by rfl) (hs : starEach [a] X.env = [(false, eval a X.env)] := by rfl) : EI X C tg (.Call (.Name "range" p) [a] [] pos) g QI :=
  EI.of (pi_range1 n.gl n.mg pa_t hs) (ai_range1 (ea_cons (h.mono fun x g1 ⟨j, e1, h1, h2, q⟩ => ea_nil ⟨j, by rw [e1], h1, h2, q⟩) he))
theorem ei_range2 (n : Bn X "range") (h : EE X C a g fun x g1 => EE X C b g1 fun y g2 => ∃ i j, x = .d (.int i) ∧ y = .d (.int j) ∧ (-(2 ^ 62) ≤ i ∧ i < 2 ^ 62 ∧ -(2 ^ 62) ≤ j ∧ j < 2 ^ 62) ∧ QI (rangeD i (j - i).toNat) g2) (he : starEach [a, b] X.env = (false, eval a X.env) :: starEach [b] X.env := by rfl) (he2 : starEach [b] X.env = (false, eval b X.env) :: starEach [] X.env := by rfl)
    (hs : starEach [a, b] X.env = [(false, eval a X.env), (false, eval b X.env)] := by rfl) (hs2 : starEach [b] X.env = [(false, eval b X.env)] := by rfl) : EI X C tg (.Call (.Name "range" p) [a, b] [] pos) g QI :=
  EI.of (pi_range2 n.gl n.mg pa_t hs hs2) (ai_range2 (ea_cons (h.mono fun x g1 h1 => ea_cons (h1.mono fun y g2 ⟨i, j, e1, e2, h3, q⟩ => ea_nil ⟨i, j, by rw [e1, e2], h3, q⟩) he2) he))
theorem wk_enumL {K : PySem.W.Frag} {Z1 : Hp} {ad : Addr} {xs : List V} {ds : List PyData} (e1 : Z1 ad = some (.lst xs)) (e2 : DdA K Z1 xs ds) : Wk K Z1 (Ite K ad) (enumD ds) := by
  refine ⟨fun H => SqL K H ad xs, YPair (fun i => some (.int (i : Nat))) (fun i => xs[i]?), ?_, fun _ g σ H Z I s => SqL.of (I.fz _ _ (s _ _ e1)), fun _ i H x H' g σ Z d I s e y => ?_⟩
  · rw [enumD_len, ← e2.length]; exact walk_enum
  · obtain ⟨T, u, v, rfl, hT, rfl, h1, h2⟩ := y
    cases h1
    obtain ⟨d', k1, k2⟩ := (e2.mono s).getV h2
    obtain ⟨d'', k3, rfl⟩ := enumD_get e
    rw [k1] at k3; cases k3
    obtain ⟨I2, s2, _⟩ := I.newF (o := .tup [.int (i : Nat), v]) hT
    exact ⟨_, I2, s2, .tup (SqT.of upd_same) (.cons (.int _) (.cons (k2.mono s2) .nil))⟩
theorem wk_enumT {K : PySem.W.Frag} {Z1 : Hp} {ad : Addr} {xs : List V} {ds : List PyData} (e1 : SqT K Z1 ad xs) (e2 : DdA K Z1 xs ds) : Wk K Z1 (IteT K ad) (enumD ds) := by
  refine ⟨fun H => SqT K H ad xs, YPair (fun i => some (.int (i : Nat))) (fun i => xs[i]?), ?_, fun _ g σ H Z I s => Same.seqT I.fz (Same.seqT s e1), fun _ i H x H' g σ Z d I s e y => ?_⟩
  · rw [enumD_len, ← e2.length]
    refine ⟨fun i _ hi q => ⟨xs, xs[i], q, by simp [hi]⟩, fun _ q => ⟨xs, q, Nat.le_refl _⟩, fun i H v H' _ q y => ?_⟩
    obtain ⟨T, x, h1, h2, h3, h4⟩ := y
    exact ⟨T, .int (i : Nat), x, h1, h2, h3, rfl, h4 xs q⟩
  · obtain ⟨T, u, v, rfl, hT, rfl, h1, h2⟩ := y
    cases h1
    obtain ⟨d', k1, k2⟩ := (e2.mono s).getV h2
    obtain ⟨d'', k3, rfl⟩ := enumD_get e
    rw [k1] at k3; cases k3
    obtain ⟨I2, s2, _⟩ := I.newF (o := .tup [.int (i : Nat), v]) hT
    exact ⟨_, I2, s2, .tup (SqT.of upd_same) (.cons (.int _) (.cons (k2.mono s2) .nil))⟩
theorem ei_enum {elts : List Expr} {kk : Nat} {tpos : Pos} (n : Bn X "enumerate") (h : EE X C a g fun x g1 => ∃ ds g2, ((∃ es, Frz [x] g1 [.list ds] g2 ∧ es = ds) ∨ (x = .d (.tuple ds) ∧ g2 = g1)) ∧ QI (enumD ds) g2) (he : starEach [a] X.env = (false, eval a X.env) :: starEach [] X.env := by rfl) (hs : starEach [a] X.env = [(false, eval a X.env)] := by rfl) : EI X C (.Tuple elts kk tpos) (.Call (.Name "enumerate" p) [a] [] pos) g QI :=
  EI.of (pi_enumA n.gl n.mg pa_t hs) fun σ H Z I R p =>
    (show EA X C [a] g (fun xs g1 => ∃ x ds g2, xs = [x] ∧ ((∃ es, Frz [x] g1 [.list ds] g2 ∧ es = ds) ∨ (x = .d (.tuple ds) ∧ g2 = g1)) ∧ QI (enumD ds) g2) from ea_cons (h.mono fun x g1 ⟨ds, g2, q⟩ => ea_nil ⟨x, ds, g2, rfl, q⟩) he) σ H Z I _ fun vs H1 Z1 xs g1 I1 s1 a1 q1 => by
      obtain ⟨x, ds, g2, rfl, hx, q⟩ := q1
      cases a1 with
      | @cons _ v _ _ a1 a2 =>
        cases a2
        rcases hx with ⟨_, f, _⟩ | ⟨rfl, rfl⟩
        · obtain ⟨Z2, I2, s2, r2⟩ := f.run I1 (.cons a1 .nil)
          cases r2 with
          | cons r3 _ =>
            cases r3 with
            | @lst ad xs _ e1 e2 => exact ⟨ad, xs, rfl, .inl ⟨SqL.of (I2.fz _ _ e1), p _ H1 Z2 _ g2 I2 (s1.trans s2) (wk_enumL e1 e2) q⟩⟩
        · have a' : Dd X.K Z1 v (.tuple ds) := a1
          cases a' with
          | @tup ad xs _ e1 e2 => exact ⟨ad, xs, rfl, .inr ⟨Same.seqT I1.fz e1, p _ H1 Z1 _ g2 I1 s1 (wk_enumT e1 e2) q⟩⟩

/-! ### targets -/
theorem eg_d {i : Nat} {d : PyData} (l : Lc X i x) (h : SetE g i (.im d) g') (q : QG g') : EG X C (.Name x pos) (.d d) g QG := EG.of (pg_name l.nd l.hN l.loc l.fn) (ag_d h q)
theorem eg_o {i j : Nat} {ds : List PyData} {g1 : Gm} (l : Lc X i x) (hj : g[j]? = some (.ls none ds)) (hf : SetE g j (.im (.list ds)) g1) (h : SetE g1 i (.im (.list ds)) g') (q : QG g') : EG X C (.Name x pos) (.o j) g QG := EG.of (pg_name l.nd l.hN l.loc l.fn) fun σ H Z v I a P p => by
  obtain ⟨Z1, I1, s1, d1⟩ := I.frz hj a hf
  exact p g' _ H Z1 (I1.setD d1 h) s1 q
theorem egs_nil (q : QG g) : EGs X C [] [] g QG := EGs.of pgs_nil (ags_nil q)
theorem egs_cons {d : PyData} {ds : List PyData} (h : EG X C e (.d d) g fun g1 => EGs X C es ds g1 QG) (hs : (assignEach (e :: es) X.env).map (·.2) = assign e X.env :: (assignEach es X.env).map (·.2) := by rfl) : EGs X C (e :: es) (d :: ds) g QG := EGs.of (pgs_cons pg_t pgs_t hs) (ags_cons h)
theorem eg_tup {k n : Nat} {ds : List PyData} (hc : X.calm = true) (hl : ds.length = n) (h : EGs X C es ds g QG) (hn : (assignEach es X.env).length = n := by rfl) (hst : (assignEach es X.env).findIdx? (·.1) = none := by rfl) : EG X C (.Tuple es k pos) (.d (.tuple ds)) g QG := EG.of (pg_tup hc pgs_t hn hst) (ag_tup hl h)
/-- the same in a comprehension -/
def EGv (X : Cx) (C : Ct) (vs : List Nat) (tg : Expr) (x : Av) (g : Gm) (Q : Gm → Prop) : Prop := AGv X.K C vs (tG X tg) x g Q
def EGsv (X : Cx) (C : Ct) (vs : List Nat) (tgs : List Expr) (ds : List PyData) (g : Gm) (Q : Gm → Prop) : Prop := AGsv X.K C vs (tGs X tgs) ds g Q
theorem EGv.of {vs : List Nat} {t : TG} {x : Av} (h : PG X tg t) (a : AGv X.K C vs t x g QG) : EGv X C vs tg x g QG := fun σ H Z v I r P p pins s u J q => h.run pins s σ H v u P J q (a σ H Z v I r P p)
theorem EGsv.of {vs : List Nat} {tgs : List Expr} {t : TGs} {ds : List PyData} (h : PGs X tgs t) (a : AGsv X.K C vs t ds g QG) : EGsv X C vs tgs ds g QG := fun σ H Z ws I r P p pins s us J q => h.run pins s σ H ws us P J q (a σ H Z ws I r P p)
theorem egv_d {vs : List Nat} {i : Nat} {d : PyData} (l : Lc X i x) (hi : i ∈ vs) (h : SetE g i (.im d) g') (q : QG g') : EGv X C vs (.Name x pos) (.d d) g QG := EGv.of (pg_name l.nd l.hN l.loc l.fn) (agv_d hi h q)
theorem egsv_nil {vs : List Nat} (q : QG g) : EGsv X C vs [] [] g QG := EGsv.of pgs_nil (agsv_nil q)
theorem egsv_cons {vs : List Nat} {d : PyData} {ds : List PyData} (h : EGv X C vs e (.d d) g fun g1 => EGsv X C vs es ds g1 QG) (hs : (assignEach (e :: es) X.env).map (·.2) = assign e X.env :: (assignEach es X.env).map (·.2) := by rfl) : EGsv X C vs (e :: es) (d :: ds) g QG := EGsv.of (pgs_cons pg_t pgs_t hs) (agsv_cons h)
theorem egv_tup {vs : List Nat} {k n : Nat} {ds : List PyData} (hc : X.calm = true) (hl : ds.length = n) (h : EGsv X C vs es ds g QG) (hn : (assignEach es X.env).length = n := by rfl) (hst : (assignEach es X.env).findIdx? (·.1) = none := by rfl) : EGv X C vs (.Tuple es k pos) (.d (.tuple ds)) g QG := EGv.of (pg_tup hc pgs_t hn hst) (agv_tup hl h)

/-! ### comprehensions -/
def uE (X : Cx) (sc : Scope) (e : Expr) : TE := fun σ H Q => ∀ s H' Cm cl fp, tE (bk X sc s H' Cm cl fp) e σ H Q
def uT (X : Cx) (sc : Scope) (es : List Expr) : TT := fun σ H Q => ∀ s H' Cm cl fp, tTs (bk X sc s H' Cm cl fp) es σ H Q
def uG (X : Cx) (sc : Scope) (tg : Expr) : TG := fun v σ H Q => ∀ s H' Cm cl fp, tG (bk X sc s H' Cm cl fp) tg v σ H Q
/-- in every block of the comprehension -/
def Bk (X : Cx) (sc : Scope) (φ : Cx → Prop) : Prop := ∀ s H Cm cl fp, φ (bk X sc s H Cm cl fp)
/-- one turn of a comprehension -/
def Turns (X : Cx) (sc : Scope) (C : Ct) (vs : List Nat) (tg : Expr) (ifs : List Expr) (elt : Expr) (d : PyData) (g : Gm) (yes : PyData → Gm → Prop) (no : Gm → Prop) : Prop :=
  Bk X sc fun X1 => EGv X1 C vs tg (.d d) g fun g3 => Bk X sc fun X2 => ETs X2 C ifs g3 fun b g4 => BR b (Bk X sc fun X3 => EE X3 C elt g4 fun x g5 => ∃ d' g6, Frz [x] g5 [d'] g6 ∧ yes d' g6) (no g4)
theorem tl_lc {scope : Scope} {vs : List Nat} (h : EI X C tg iter g fun ds g1 => ∃ g2, WipeE g1 vs g2 ∧ ∃ J : Nat → List PyData → Gm → Prop, J 0 [] g2 ∧ (∀ i acc g', J i acc g' → NoAt g' vs) ∧
      (∀ (C' : CtT C) i d acc g', ds[i]? = some d → J i acc g' → Turns X scope C'.1 vs tg ifs elt d g' (fun d' g6 => ∃ g7, acc.length < 1000000 ∧ WkE g6 g7 ∧ J (i + 1) (acc ++ [d']) g7) (fun g4 => ∃ g7, WkE g4 g7 ∧ J (i + 1) acc g7)) ∧
      (∀ acc g', J ds.length acc g' → QL acc g')) : AN X.K C (tLc (tI X tg iter) (uG X scope tg) (uT X scope ifs) (uE X scope elt) vs) g QL := by
  refine an_lc fun σ H Z I R p => h σ H Z I R fun J H' Z' ds g' I' s' w ⟨g2, h1, J', h2, h3, h4, h5⟩ => p J H' Z' ds g' I' s' w ⟨g2, h1, J', h2, h3, fun C' i d acc g3 e j => ?_, h5⟩
  have t := h4 C' i d acc g3 e j
  intro σ1 H1 Z1 v I1 a1 Q' q' s H2 Cm cl fp
  refine t s H2 Cm cl fp σ1 H1 Z1 v I1 a1 Q' fun g4 σ4 H4 Z4 I4 s4 f4 l4 q4 => q' g4 σ4 H4 Z4 I4 s4 f4 l4 ?_
  intro σ5 H5 Z5 I5 Q5 p5 s H2 Cm cl fp
  refine q4 s H2 Cm cl fp σ5 H5 Z5 I5 Q5 fun b H6 Z6 g6 I6 s6 q6 => p5 b H6 Z6 g6 I6 s6 ⟨fun hb => ?_, fun hb => q6.2 hb⟩
  intro σ7 H7 Z7 I7 Q7 p7 s H2 Cm cl fp
  refine q6.1 hb s H2 Cm cl fp σ7 H7 Z7 I7 Q7 fun v H8 Z8 x g8 I8 s8 a8 q8 => p7 v H8 Z8 x g8 I8 s8 a8 ?_
  obtain ⟨d', g9, f, g10, hl, wk, hj⟩ := q8
  exact ⟨d', g9, g10, f, hl, wk, hj⟩
theorem en_lc {N : List Str} {sc scope : Scope} {k : Nat} (F : CxF X N sc k) (own : List (Str × Nat)) (ok : blkC N sc scope own = true) (h : EI X C tg iter g fun ds g1 => ∃ g2, WipeE g1 (own.map (·.2)) g2 ∧ ∃ J : Nat → List PyData → Gm → Prop, J 0 [] g2 ∧ (∀ i acc g', J i acc g' → NoAt g' (own.map (·.2))) ∧
      (∀ (C' : CtT C) i d acc g', ds[i]? = some d → J i acc g' → Turns X scope C'.1 (own.map (·.2)) tg ifs elt d g' (fun d' g6 => ∃ g7, acc.length < 1000000 ∧ WkE g6 g7 ∧ J (i + 1) (acc ++ [d']) g7) (fun g4 => ∃ g7, WkE g4 g7 ∧ J (i + 1) acc g7)) ∧
      (∀ acc g', J ds.length acc g' → QL acc g')) (hs : ∀ x, foldedSetIterable iter X.env x = pure x := by intro _; rfl) : EN X C (.ListComp elt [⟨tg, iter, ifs, 0⟩] scope pos) g QL :=
  EN.of (pe_lc F.calm (by rw [F.hN]; exact F.nd) pi_t (F.ok ok) (g := uG X scope tg) (tt := uT X scope ifs) (te := uE X scope elt) (fun s H Cm cl fp => ⟨fun pins s1 σ H1 v u Q I r h => h s H Cm cl fp pins s1 u I r⟩) (fun s H Cm cl fp => ⟨fun pins s1 σ H1 Q I h => h s H Cm cl fp pins s1 I⟩) (fun s H Cm cl fp => ⟨fun pins s1 σ H1 Q I h => h s H Cm cl fp pins s1 I⟩) hs) (tl_lc h)
/-- turns that leave the slots as they are: the i-th item gives the i-th of rs -/
theorem lcMap {vs : List Nat} {scope : Scope} {QL : List PyData → Gm → Prop} {ds rs : List PyData} {g1 g2 : Gm} (hw : WipeE g1 vs g2) (hl : rs.length = ds.length) (hz : ds.length ≤ 1000000)
    (h : ∀ (C' : CtT C) (i : Nat) (d : PyData), ds[i]? = some d → Turns X scope C'.1 vs tg ifs elt d g2 (fun d' g6 => rs[i]? = some d' ∧ WkE g6 g2) (fun _ => False)) (q : QL rs g2) :
    ∃ g2, WipeE g1 vs g2 ∧ ∃ J : Nat → List PyData → Gm → Prop, J 0 [] g2 ∧ (∀ i acc g', J i acc g' → NoAt g' vs) ∧
      (∀ (C' : CtT C) i d acc g', ds[i]? = some d → J i acc g' → Turns X scope C'.1 vs tg ifs elt d g' (fun d' g6 => ∃ g7, acc.length < 1000000 ∧ WkE g6 g7 ∧ J (i + 1) (acc ++ [d']) g7) (fun g4 => ∃ g7, WkE g4 g7 ∧ J (i + 1) acc g7)) ∧
      (∀ acc g', J ds.length acc g' → QL acc g') := by
  refine ⟨g2, hw, fun i acc g' => g' = g2 ∧ acc = rs.take i ∧ i ≤ ds.length, ⟨rfl, by simp, Nat.zero_le _⟩, fun i acc g' ⟨e, _⟩ => by rw [e]; exact hw.wk.2, ?_, fun acc g' ⟨e1, e2, _⟩ => by rw [e1, e2, ← hl, List.take_length]; exact q⟩
  rintro C' i d acc g' e ⟨rfl, rfl, hi⟩ s H Cm cl fp σ1 H1 Z1 v I1 a1 Q' q'
  have hi' : i < ds.length := (List.getElem?_eq_some_iff.mp e).1
  refine h C' i d e s H Cm cl fp σ1 H1 Z1 v I1 a1 Q' fun g4 σ4 H4 Z4 I4 s4 f4 l4 q4 => q' g4 σ4 H4 Z4 I4 s4 f4 l4 ?_
  intro s H Cm cl fp σ5 H5 Z5 I5 Q5 p5
  refine q4 s H Cm cl fp σ5 H5 Z5 I5 Q5 fun b H6 Z6 g6 I6 s6 q6 => p5 b H6 Z6 g6 I6 s6 ⟨fun hb => ?_, fun hb => (q6.2 hb).elim⟩
  intro s H Cm cl fp σ7 H7 Z7 I7 Q7 p7
  refine q6.1 hb s H Cm cl fp σ7 H7 Z7 I7 Q7 fun v H8 Z8 x g8 I8 s8 a8 q8 => p7 v H8 Z8 x g8 I8 s8 a8 ?_
  obtain ⟨d', g9, f, er, wk⟩ := q8
  refine ⟨d', g9, f, _, by rw [List.length_take]; omega, wk, rfl, ?_, hi'⟩
  have hr := List.getElem?_eq_some_iff.mp er
  obtain ⟨hr1, hr2⟩ := hr
  rw [← hr2]; exact List.take_append_getElem hr1
/-- .. with a test: sel tells what the i-th item gives -/
theorem lcSel {vs : List Nat} {scope : Scope} {ds : List PyData} {g1 g2 : Gm} (sel : Nat → Option PyData) (hw : WipeE g1 vs g2) (hz : ds.length ≤ 1000000)
    (h : ∀ (C' : CtT C) (i : Nat) (d : PyData), ds[i]? = some d → Turns X scope C'.1 vs tg ifs elt d g2 (fun d' g6 => sel i = some d' ∧ WkE g6 g2) (fun g4 => sel i = none ∧ WkE g4 g2)) (q : QL ((List.range ds.length).filterMap sel) g2) :
    ∃ g2, WipeE g1 vs g2 ∧ ∃ J : Nat → List PyData → Gm → Prop, J 0 [] g2 ∧ (∀ i acc g', J i acc g' → NoAt g' vs) ∧
      (∀ (C' : CtT C) i d acc g', ds[i]? = some d → J i acc g' → Turns X scope C'.1 vs tg ifs elt d g' (fun d' g6 => ∃ g7, acc.length < 1000000 ∧ WkE g6 g7 ∧ J (i + 1) (acc ++ [d']) g7) (fun g4 => ∃ g7, WkE g4 g7 ∧ J (i + 1) acc g7)) ∧
      (∀ acc g', J ds.length acc g' → QL acc g') := by
  refine ⟨g2, hw, fun i acc g' => g' = g2 ∧ acc = (List.range i).filterMap sel ∧ i ≤ ds.length, ⟨rfl, by simp, Nat.zero_le _⟩, fun i acc g' ⟨e, _⟩ => by rw [e]; exact hw.wk.2, ?_, fun acc g' ⟨e1, e2, _⟩ => by rw [e1, e2]; exact q⟩
  rintro C' i d acc g' e ⟨rfl, rfl, hi⟩ s H Cm cl fp σ1 H1 Z1 v I1 a1 Q' q'
  have hi' : i < ds.length := (List.getElem?_eq_some_iff.mp e).1
  refine h C' i d e s H Cm cl fp σ1 H1 Z1 v I1 a1 Q' fun g4 σ4 H4 Z4 I4 s4 f4 l4 q4 => q' g4 σ4 H4 Z4 I4 s4 f4 l4 ?_
  intro s H Cm cl fp σ5 H5 Z5 I5 Q5 p5
  refine q4 s H Cm cl fp σ5 H5 Z5 I5 Q5 fun b H6 Z6 g6 I6 s6 q6 => p5 b H6 Z6 g6 I6 s6 ⟨fun hb => ?_, fun hb => ?_⟩
  · intro s H Cm cl fp σ7 H7 Z7 I7 Q7 p7
    refine q6.1 hb s H Cm cl fp σ7 H7 Z7 I7 Q7 fun v H8 Z8 x g8 I8 s8 a8 q8 => p7 v H8 Z8 x g8 I8 s8 a8 ?_
    obtain ⟨d', g9, f, er, wk⟩ := q8
    refine ⟨d', g9, f, _, ?_, wk, rfl, ?_, hi'⟩
    · have := List.length_filterMap_le sel (List.range i)
      simp at this
      omega
    · rw [List.range_succ, List.filterMap_append]
      simp [er]
  · obtain ⟨er, wk⟩ := q6.2 hb
    refine ⟨_, wk, rfl, ?_, hi'⟩
    rw [List.range_succ, List.filterMap_append]
    simp [er]

/-! ### statements -/
variable {D : Ae} {st : Stmt} {sts body body2 : List Stmt}
theorem ess_nil (q : D.nx g) : ESs X C [] g D := ESs.of pss_nil (as_next q)
theorem ess_cons (h : ES X C st g { D with nx := fun g' => ESs X C sts g' D }) : ESs X C (st :: sts) g D := ESs.of (pss_cons ps_t pss_t) (as_seq h)
theorem ess_one (h : ES X C st g D) : ESs X C [st] g D := ESs.of (pss_one ps_t) h
theorem es_ret (h : EE X C e g D.rt) : ES X C (.Return (some e) pos) g D := ES.of (ps_ret pe_t) (as_ret h)
theorem es_retL (h : EN X C e g D.rn) : ES X C (.Return (some e) pos) g D := ES.of (ps_ret pe_t) (as_retL h)
theorem es_pass (h : D.nx g) : ES X C (.Pass pos) g D := ES.of ps_pass (as_next h)
theorem es_if (h : ET X C c g fun b g1 => BR b (ESs X C body g1 D) (ESs X C body2 g1 D)) : ES X C (.If c body body2 pos) g D := ES.of (ps_if pt_t pss_t pss_t) (as_if h)
theorem es_expr (h : EE X C e g fun _ g' => D.nx g') (hs : swapsWith e none pos.line X.env = pure false := by rfl) : ES X C (.Expr e pos) g D := ES.of (ps_expr pe_t hs) (as_drop h)
theorem es_set {i : Nat} (l : Lc X i x) (h : EE X C e g fun y g1 => AG X.K C (gName i) y g1 D.nx) (hs : swapsWith e (some (.Name x p')) pos.line X.env = pure false := by rfl) : ES X C (.Assign [.Name x p'] e pos) g D := ES.of (ps_set l.nd l.hN l.loc pe_t hs l.fn) (as_asg h)
/-- a slot takes a new list of its own -/
theorem es_setN {i : Nat} (l : Lc X i x) (h : EN X C e g fun ds g1 => ∃ g2, SetE g1 i (.ls none ds) g2 ∧ D.nx g2) (hs : swapsWith e (some (.Name x p')) pos.line X.env = pure false := by rfl) : ES X C (.Assign [.Name x p'] e pos) g D := ES.of (ps_set l.nd l.hN l.loc pe_t hs l.fn) (as_asgN h)
theorem ag_o {i j : Nat} {ds : List PyData} {g1 : Gm} (hj : g[j]? = some (.ls none ds)) (hf : SetE g j (.im (.list ds)) g1) (h : SetE g1 i (.im (.list ds)) g') (q : QG g') : AG X.K C (gName i) (.o j) g QG := fun σ H Z v I a P p => by
  obtain ⟨Z1, I1, s1, d1⟩ := I.frz hj a hf
  exact p g' _ H Z1 (I1.setD d1 h) s1 q
/-- a, b = e1, e2 -/
theorem es_par {i j : Nat} {x y : Str} {px py pt : Pos} {kt k2 : Nat} {pt2 : Pos} (hc : X.calm = true) (l1 : Lc X i x) (l2 : Lc X j y) (hij : i ≠ j) (hx : X.env.scope.names.lookup x = some .local) (hy : X.env.scope.names.lookup y = some .local)
    (h : EA X C [a, b] g fun xs g1 => ∃ d e g2 g3, xs = [.d d, .d e] ∧ SetE g1 i (.im d) g2 ∧ SetE g2 j (.im e) g3 ∧ D.nx g3)
    (hw : swappedStores [.Tuple [.Name x px, .Name y py] kt pt] (.Tuple [a, b] k2 pt2) X.env = pure (some [x, y]))
    (hs : swapsWithSole [.Tuple [.Name x px, .Name y py] kt pt] (.Tuple [a, b] k2 pt2) pos.line X.env = pure false := by rfl) : ES X C (.Assign [.Tuple [.Name x px, .Name y py] kt pt] (.Tuple [a, b] k2 pt2) pos) g D :=
  ES.of (ps_par hc l1.nd l1.hN l2.hN hij hx hy pa_t hw hs) (as_par h)
/-- target = e, of any form -/
theorem es_asg (h : EE X C e g fun y g1 => EG X C tg y g1 D.nx) (hs : swapsWithSole [tg] e pos.line X.env = pure false := by rfl) (hw : swappedStores [tg] e X.env = pure none := by rfl) (h1 : (assignEach [tg] X.env).map (·.2) = [assign tg X.env] := by rfl) : ES X C (.Assign [tg] e pos) g D := ES.of (ps_asg pe_t pg_t hs hw h1) (as_asg h)
theorem es_augAdd {i : Nat} {v : Int} (l : Lc X i x) (h0 : g[i]? = some (.im (.int v))) (h : EE X C e g fun x g1 => ∃ b g2, x = .d (.int b) ∧ SetE g1 i (.im (.int (v + b))) g2 ∧ D.nx g2) : ES X C (.AugAssign (.Name x p') .Add e pos) g D := ES.of (ps_aug l.nd l.hN l.loc pe_t ip_add l.fn) (as_aug h0 h)
theorem es_augSub {i : Nat} {v : Int} (l : Lc X i x) (h0 : g[i]? = some (.im (.int v))) (h : EE X C e g fun x g1 => ∃ b g2, x = .d (.int b) ∧ SetE g1 i (.im (.int (v - b))) g2 ∧ D.nx g2) : ES X C (.AugAssign (.Name x p') .Sub e pos) g D := ES.of (ps_aug l.nd l.hN l.loc pe_t ip_sub l.fn) (as_aug h0 h)
theorem es_while (hp : PassesOwn (model X.prog X.w) X.A X.env X.xe) (J : Nat → Gm → Prop) (h0 : ∃ m, J m g) (h : ∀ m g', J m g' → ET X C c g' fun b g2 => BR b (ESs X C body g2 { D with nx := fun g3 => ∃ m', m' < m ∧ J m' g3, ct := fun g3 => ∃ m', m' < m ∧ J m' g3, bk := D.nx }) (D.nx g2)) : ES X C (.While c body [] pos) g D := ES.of (ps_while hp pt_t pss_t) (as_while J h0 h)
theorem es_for (hp : PassesOwn (model X.prog X.w) X.A X.env X.xe) (hc : X.calm = true) (h : EI X C tg iter g fun ds g1 => ∃ J : Nat → Gm → Prop, J 0 g1 ∧ (∀ i d g', ds[i]? = some d → J i g' → EG X C tg (.d d) g' fun g2 => ESs X C body g2 { D with nx := J (i + 1), ct := J (i + 1), bk := D.nx }) ∧ ∀ g', J ds.length g' → D.nx g') (hs : ∀ x, foldedSetIterable iter X.env x = pure x := by intro _; rfl) : ES X C (.For tg iter body [] pos) g D := ES.of (ps_for hp hc pi_t pg_t pss_t hs) (as_for h)
theorem es_break (h : D.bk g) : ES X C (.Break pos) g D := ES.of ps_break (as_brk h)
theorem es_continue (h : D.ct g) : ES X C (.Continue pos) g D := ES.of ps_continue (as_ct h)
/-- xs[i] = e, xs an own list -/
theorem es_setIx {o ix : Expr} {tp : Pos} (h : EE X C e g fun y g1 => EE X C o g1 fun x g2 => EE X C ix g2 fun z g3 => ∃ j w ds d g4 g5 i k, x = .o j ∧ z = .d (.int i) ∧ Frz [y] g3 [d] g4 ∧ g4[j]? = some (.ls w ds) ∧ ixN ds.length i = some k ∧ SetE g4 j (.ls w (ds.set k d)) g5 ∧ D.nx g5)
    (ha : ∀ v, assign (.Subscript o ix tp) X.env v = (do
      let ov ← holding [v] (eval o X.env)
      let iv ← holding [v, ov] (eval ix X.env)
      standAt tp
      holding [v, ov, iv] (setItem ov iv v)
      release [v, ov, iv] []) := by intro _; rfl)
    (hs : swapsWithSole [.Subscript o ix tp] e pos.line X.env = pure false := by rfl) (hw : swappedStores [.Subscript o ix tp] e X.env = pure none := by rfl) (h1 : (assignEach [.Subscript o ix tp] X.env).map (·.2) = [assign (.Subscript o ix tp) X.env] := by rfl) : ES X C (.Assign [.Subscript o ix tp] e pos) g D :=
  ES.of (ps_asg pe_t (pg_sub pe_t pe_t set_list ha) hs hw h1) fun σ H Z I D' d => h σ H Z I _ fun v H1 Z1 y g1 I1 s1 a1 q1 => by
    refine q1 σ H1 Z1 I1 _ fun u H2 Z2 x g2 I2 s2 a2 q2 => q2 σ H2 Z2 I2 _ fun w' H3 Z3 z g3 I3 s3 a3 q3 => ?_
    obtain ⟨j, w, ds, dd, g4, g5, i, k, rfl, rfl, f, hj, hk, hs5, q⟩ := q3
    obtain ⟨Z4, I4, s4, r4⟩ := f.run I3 (.cons ((a1.mono s2).mono s3) .nil)
    cases r4 with
    | cons r5 r6 =>
      cases r6; cases a3
      obtain ⟨ad, xs, rfl, o2, o3, o4, o5⟩ := I4.own hj a2
      refine ⟨ad, xs, i, k, rfl, rfl, o2, by rw [o4.length]; exact hk, ?_⟩
      exact d.nx g5 _ _ Z4 (I4.put hj a2 (o4.set k r5) hs5) (((s1.trans s2).trans s3).trans s4) q
end
end AL
/-! The layer's leaves and its stepping tactic. -/
namespace AL
open PySem PySem.Spec L2

def IxN (N : List Str) (i : Nat) (x : Str) : Prop := N[i]? = some x
section
variable {X : Cx} {C : Ct} {g g' g2 g3 g4 : Gm} {Q : Av → Gm → Prop} {QG : Gm → Prop} {QL : List PyData → Gm → Prop} {K : PySem.W.Frag}
theorem nm_own {N : List Str} {sc scope : Scope} {k i : Nat} {x : Str} {s : Shared} {H : Hp} {Cm : Addr} {cl : List (Str × Addr)} {fp : List Addr} (F : CxF X N sc k) (h : IxN N i x) (hc : (locB scope x && okName x) = true) : Nm (bk X scope s H Cm cl fp) i x := by
  refine F.nmB ?_
  simp only [Bool.and_eq_true, decide_eq_true_eq]
  simp only [Bool.and_eq_true] at hc
  exact ⟨h, hc⟩
theorem lc_own {N : List Str} {sc scope : Scope} {k i : Nat} {x : Str} {s : Shared} {H : Hp} {Cm : Addr} {cl : List (Str × Addr)} {fp : List Addr} (F : CxF X N sc k) (h : IxN N i x) (hc : locB scope x = true) : Lc (bk X scope s H Cm cl fp) i x := by
  refine F.lcB ?_
  simp only [Bool.and_eq_true, decide_eq_true_eq]
  exact ⟨h, hc⟩
theorem lf_frz {xs : List Av} {ds : List PyData} (f : Frz xs g ds g2) (hl : ds.length ≤ 1000000) (q : QL ds g2) : ∃ ds g2, Frz xs g ds g2 ∧ ds.length ≤ 1000000 ∧ QL ds g2 := ⟨ds, g2, f, hl, q⟩
theorem lf_call {S : Con} {n : Nat} {xs : List Av} {as : List Ar} {r : PyData} {φ : PyData → Prop} (hn : xs.length = n) (cv : CvA g xs as) (con : S as r) (q : φ r) : xs.length = n ∧ ∃ as r, CvA g xs as ∧ S as r ∧ φ r := ⟨hn, as, r, cv, con, q⟩
theorem lf_callN {S : List Ar → List PyData → Prop} {n : Nat} {xs : List Av} {as : List Ar} {r : List PyData} (hn : xs.length = n) (cv : CvA g xs as) {φ : List PyData → Prop} (con : S as r) (q : φ r) : xs.length = n ∧ ∃ as r, CvA g xs as ∧ S as r ∧ φ r := ⟨hn, as, r, cv, con, q⟩
theorem lf_callM {S : ConM} {n j : Nat} {w : Option Nat} {rest : List Av} {as : List Ar} {ds ds' : List PyData} {r : PyData} (hn : (Av.o j :: rest).length = n) (cv : CvA g rest as) (hj : g[j]? = some (.ls w ds)) (con : S ds as r ds') (hs : SetE g j (.ls w ds') g2) {φ : PyData → Gm → Prop} (q : φ r g2) :
    (Av.o j :: rest).length = n ∧ ∃ j' w ds rest' as r ds' g2, (Av.o j :: rest) = .o j' :: rest' ∧ CvA g rest' as ∧ g[j']? = some (.ls w ds) ∧ S ds as r ds' ∧ SetE g j' (.ls w ds') g2 ∧ φ r g2 := ⟨hn, j, w, ds, rest, as, r, ds', g2, rfl, cv, hj, con, hs, q⟩
theorem lf_setN {i : Nat} {ds : List PyData} (hs : SetE g i (.ls none ds) g2) (q : QG g2) : ∃ g2, SetE g i (.ls none ds) g2 ∧ QG g2 := ⟨g2, hs, q⟩
theorem lf_setI {i : Nat} {ds : List PyData} (hs : SetE g i (.im (.list ds)) g2) (q : QG g2) : ∃ g2, SetE g i (.im (.list ds)) g2 ∧ QG g2 := ⟨g2, hs, q⟩
theorem lf_par {i j : Nat} {d e : PyData} (h1 : SetE g i (.im d) g2) (h2 : SetE g2 j (.im e) g3) (q : QG g3) : ∃ d' e' g2 g3, [Av.d d, Av.d e] = [.d d', .d e'] ∧ SetE g i (.im d') g2 ∧ SetE g2 j (.im e') g3 ∧ QG g3 := ⟨d, e, g2, g3, rfl, h1, h2, q⟩
theorem lf_aug {i : Nat} {b : Int} {f : Int → Int} (h1 : SetE g i (.im (.int (f b))) g2) (q : QG g2) : ∃ b' g2, Av.d (.int b) = .d (.int b') ∧ SetE g i (.im (.int (f b'))) g2 ∧ QG g2 := ⟨b, g2, rfl, h1, q⟩
theorem lf_append {j : Nat} {w : Option Nat} {y : Av} {ds : List PyData} {d : PyData} (f : Frz [y] g [d] g3) (hj : g3[j]? = some (.ls w ds)) (hl : ds.length < 1000000) (hs : SetE g3 j (.ls w (ds ++ [d])) g4) (q : QG g4) :
    ∃ w ds d g3 g4, Frz [y] g [d] g3 ∧ g3[j]? = some (.ls w ds) ∧ ds.length < 1000000 ∧ SetE g3 j (.ls w (ds ++ [d])) g4 ∧ QG g4 := ⟨w, ds, d, g3, g4, f, hj, hl, hs, q⟩
theorem lf_app0 {j : Nat} {w0 : Option Nat} {ds0 : List PyData} {A : Nat → Prop} (hj : g[j]? = some (.ls w0 ds0)) (h : A j) : ∃ j' w0 ds0, Av.o j = .o j' ∧ g[j']? = some (.ls w0 ds0) ∧ A j' := ⟨j, w0, ds0, rfl, hj, h⟩
theorem lf_turn {x : Av} {d : PyData} {yes : PyData → Gm → Prop} (f : Frz [x] g [d] g2) (q : yes d g2) : ∃ d' g6, Frz [x] g [d'] g6 ∧ yes d' g6 := ⟨d, g2, f, q⟩
theorem lf_kt {x : Av} {ds : List PyData} {φ : List PyData → Prop} (h : KT g x ds) (q : φ ds) : ∃ ds, KT g x ds ∧ φ ds := ⟨ds, h, q⟩
theorem lf_isi {d : PyData} {y : V} {q : PyData → Prop} (hd : notD d = true) (h : q d) : ∃ d', notD d' = true ∧ (Av.d d = .d d' ∨ ∃ j w ds, Av.d d = .o j ∧ g[j]? = some (.ls w ds) ∧ d' = .list ds) ∧ Av.v y = .v y ∧ q d' := ⟨d, hd, .inl rfl, rfl, h⟩
theorem lf_iL {x : Av} {xs : List PyData} (f : Frz [x] g [.list xs] g2) (q : QL xs g2) : ∃ xs g2, Frz [x] g [.list xs] g2 ∧ QL xs g2 := ⟨xs, g2, f, q⟩
theorem lf_enumT {ds : List PyData} {φ : List PyData → Gm → Prop} (q : φ ds g) : ∃ ds' g2, ((∃ es, Frz [Av.d (.tuple ds)] g [.list ds'] g2 ∧ es = ds') ∨ (Av.d (.tuple ds) = .d (.tuple ds') ∧ g2 = g)) ∧ φ ds' g2 := ⟨ds, g, .inr ⟨rfl, rfl⟩, q⟩
theorem lf_enumL {x : Av} {ds : List PyData} {φ : List PyData → Gm → Prop} (f : Frz [x] g [.list ds] g2) (q : φ ds g2) : ∃ ds' g2, ((∃ es, Frz [x] g [.list ds'] g2 ∧ es = ds') ∨ (x = .d (.tuple ds') ∧ g2 = g)) ∧ φ ds' g2 := ⟨ds, g2, .inl ⟨ds, f, rfl⟩, q⟩
end
theorem small_mul {i j : Int} (h : -(2 ^ 64) < j ∧ j < 2 ^ 64) : CMul i j := .inr h
theorem small_mulL {i j : Int} (h : -(2 ^ 64) < i ∧ i < 2 ^ 64) : CMul i j := .inl h
theorem small_div {i j : Int} (h : 0 < j ∧ j < 2 ^ 64) : CDivW i j := wide_div h.1 (b := 64) (by omega) (by decide) (by decide)
theorem br_not {p : Prop} [Decidable p] {A B : Prop} (h : p → B) (k : ¬ p → A) : BR (!decide p) A B := br_n (br_d h k)
theorem nx_mk {P : Gm → Prop} {rt : Av → Gm → Prop} {bk ct : Gm → Prop} {rn : List PyData → Gm → Prop} {g : Gm} (h : P g) : Ae.nx ⟨P, rt, bk, ct, rn⟩ g := h
theorem rt_mk {P : Gm → Prop} {rt : Av → Gm → Prop} {bk ct : Gm → Prop} {rn : List PyData → Gm → Prop} {x : Av} {g : Gm} (h : rt x g) : Ae.rt ⟨P, rt, bk, ct, rn⟩ x g := h
theorem bk_mk {P : Gm → Prop} {rt : Av → Gm → Prop} {bk ct : Gm → Prop} {rn : List PyData → Gm → Prop} {g : Gm} (h : bk g) : Ae.bk ⟨P, rt, bk, ct, rn⟩ g := h
theorem ct_mk {P : Gm → Prop} {rt : Av → Gm → Prop} {bk ct : Gm → Prop} {rn : List PyData → Gm → Prop} {g : Gm} (h : ct g) : Ae.ct ⟨P, rt, bk, ct, rn⟩ g := h
theorem rn_mk {P : Gm → Prop} {rt : Av → Gm → Prop} {bk ct : Gm → Prop} {rn : List PyData → Gm → Prop} {ds : List PyData} {g : Gm} (h : rn ds g) : Ae.rn ⟨P, rt, bk, ct, rn⟩ ds g := h
theorem CxF.look {X : Cx} {N : List Str} {sc : Scope} {k : Nat} {x : Str} (F : CxF X N sc k) (h : locB sc x = true) : X.env.scope.names.lookup x = some .local := by rw [F.hsc]; exact locB_ok h
end AL
/-! More rules: slices, insert, calls of a def that a slot holds, the script. -/
namespace AL
open PySem PySem.Spec L2

section
variable {X : Cx} {C : Ct} {g g' : Gm} {e a b c o hi lo : Expr} {es : List Expr} {pos p p2 apos : Pos} {Q : Av → Gm → Prop} {QL : List PyData → Gm → Prop} {x : Str}
/-! ### slices -/
def cutD (ds : List PyData) (lo hi : Option Int) : List PyData := (ds.drop (HT.sIx ds.length 0 lo)).take (HT.sIx ds.length ds.length hi - HT.sIx ds.length 0 lo)
theorem cut_hi {ds : List PyData} {k : Int} (h : 0 ≤ k) : cutD ds none (some k) = ds.take k.toNat := by
  unfold cutD
  rw [HT.sIx_none]
  have e : HT.sIx ds.length ds.length (some k) = min k.toNat ds.length := by
    have := HT.sIx_nat ds.length ds.length k.toNat
    rwa [Int.toNat_of_nonneg h] at this
  rw [e, Nat.sub_zero, List.drop_zero, ← List.take_take]
  simp
theorem cut_lo {ds : List PyData} {k : Int} (h : 0 ≤ k) : cutD ds (some k) none = ds.drop k.toNat := by
  unfold cutD
  rw [HT.sIx_none]
  have e : HT.sIx ds.length 0 (some k) = min k.toNat ds.length := by
    have := HT.sIx_nat ds.length 0 k.toNat
    rwa [Int.toNat_of_nonneg h] at this
  rw [e]
  by_cases hk : k.toNat ≤ ds.length
  · rw [Nat.min_eq_left hk, List.take_of_length_le (by simp)]
  · rw [Nat.min_eq_right (by omega)]
    simp
    omega
theorem DdA.cut {K : PySem.W.Frag} {Z : Hp} {ds : List PyData} {xs : List V} (h : DdA K Z xs ds) (lo hi : Option Int) : DdA K Z (cutV xs lo hi) (cutD ds lo hi) := by
  unfold cutV cutD
  rw [h.length]
  exact (h.drop _).take _
theorem ta_sl {K : PySem.W.Frag} {σ : St} {H Z : Hp} {v : V} {ds : List PyData} {l u : Option Int} {P : VK} (I : Ok K C g σ H Z) (h : Dd K Z v (.tuple ds)) (p : ∀ v H' Z', Ok K C g σ H' Z' → Same Z Z' → Dd K Z' v (.tuple (cutD ds l u)) → P v H') : rSlA K v l u H P := by
  cases h with
  | @tup q xs _ a1 a2 =>
    refine ⟨q, xs, rfl, Same.seqT I.fz a1, fun ⟨z1, z2⟩ => ?_, fun _ t ht => ?_⟩
    · refine p _ H Z I (Same.refl _) ?_
      have e : cutD ds l u = ds := by
        unfold cutD
        rw [← a2.length, z1, z2]
        rw [a2.length]; simp
      rw [e]
      exact .tup a1 a2
    · obtain ⟨I2, s2, _⟩ := I.newF (o := .tup (cutV xs l u)) ht
      exact p _ _ _ I2 s2 (.tup (SqT.of upd_same) ((a2.cut l u).mono s2))
/-! ### insert -/
theorem ee_insert (h : EE X C o g fun x g1 => ∃ j w0 ds0, x = .o j ∧ g1[j]? = some (.ls w0 ds0) ∧ EE X C a g1 fun z g2 => EE X C e g2 fun y g3 => ∃ i w ds d g4 g5, z = .d (.int i) ∧ 0 ≤ i ∧ i < 2 ^ 63 ∧ Frz [y] g3 [d] g4 ∧ g4[j]? = some (.ls w ds) ∧ ds.length < 1000000 ∧ SetE g4 j (.ls w (ds.take i.toNat ++ d :: ds.drop i.toNat)) g5 ∧ Q (.d .none) g5)
    (hbase : attributeBase o "insert" X.env (eval o X.env) = eval o X.env := by rfl) (hline : (apos.endLine == pos.line) = true := by rfl) (hs : starEach [a, e] X.env = (false, eval a X.env) :: starEach [e] X.env := by rfl) (hs2 : starEach [e] X.env = (false, eval e X.env) :: starEach [] X.env := by rfl)
    (hfew : ((backTo pos (starEach [a, e] X.env)).all (fun x => !x.1) && (backToKw pos (keywordEach [] X.env)).all (fun x => x.1.isSome) && decide ([a, e].length + ([] : List Keyword).length + (if ([] : List Keyword).isEmpty then 0 else 1) < 30)) = true := by rfl) :
    EE X C (.Call (.Attribute o "insert" apos) [a, e] [] pos) g Q :=
  EE.of (pe_bm PySem.F.plainAttrs_list PySem.F.slot_list_insert PySem.F.type_list_insert mt_insert pe_t pa_t hbase hfew hline hs (by rw [hs2]; rfl)) fun σ H Z I P p =>
    h σ H Z I _ fun v H1 Z1 x g1 I1 s1 a1 q1 => by
      obtain ⟨j, w0, ds0, rfl, hj0, h2⟩ := q1
      obtain ⟨ad, xs0, rfl, o2, o3, o4, o5⟩ := I1.own hj0 a1
      refine ⟨.inl ⟨rfl, xs0, SqL.of o2⟩, ?_⟩
      refine (show EA X C [a, e] g1 (fun ys g3 => ∃ z y i w ds d g4 g5, ys = [z, y] ∧ z = .d (.int i) ∧ 0 ≤ i ∧ i < 2 ^ 63 ∧ Frz [y] g3 [d] g4 ∧ g4[j]? = some (.ls w ds) ∧ ds.length < 1000000 ∧ SetE g4 j (.ls w (ds.take i.toNat ++ d :: ds.drop i.toNat)) g5 ∧ Q (.d .none) g5) from ea_cons (h2.mono fun z g2 h3 => ea_cons (h3.mono fun y g3 q => by
        obtain ⟨i, w, ds, d, g4, g5, q⟩ := q
        exact ea_nil ⟨z, y, i, w, ds, d, g4, g5, rfl, q⟩) hs2) hs) σ H1 Z1 I1 _ fun vs H2 Z2 ys g2 I2 s2 a2 q => ?_
      obtain ⟨z, y, i, w, ds, d, g4, g5, rfl, rfl, i0, i1, f, hj, hl, hs4, q⟩ := q
      cases a2 with
      | @cons _ vz _ _ az a2 =>
        have az' : Dd X.K Z2 vz (.int i) := az
        cases az'
        obtain ⟨Z3, I3, s3, r3⟩ := f.run I2 a2
        cases a2 with
        | @cons _ vy _ _ ay a3 =>
          cases a3
          cases r3 with
          | cons r4 r5 =>
            cases r5
            obtain ⟨ad', xs, e0, o2', o3', o4', o5'⟩ := I3.own hj a1
            cases e0
            refine ⟨ad, xs, i, vy, rfl, rfl, o2', by rw [o4'.length]; exact Nat.lt_of_lt_of_le hl (by decide), i0, i1, ?_⟩
            have r6 : DdA X.K Z3 (xs.take i.toNat ++ [vy] ++ xs.drop i.toNat) (ds.take i.toNat ++ d :: ds.drop i.toNat) := by
              have := ((o4'.take i.toNat).append (.cons r4 .nil)).append (o4'.drop i.toNat)
              simpa using this
            exact p .non _ Z3 (.d .none) g5 (I3.put hj a1 r6 hs4) ((s1.trans s2).trans s3) Dd.non q
end

/-! ### a def that a slot holds -/
structure HeldF (P : Program) (w : World) (K : PySem.W.Frag) (mg : Str → Option Value) (base : Heap) (k : Nat) (v : V) (sp : Sp) : Prop where
  ex : ∃ (f : Addr) (fd : FuncData) (ps : List Str), v = .ref f ∧ FnOk P w K mg base CX0 k f fd ps sp ∧ PySem.W.keepIn K (.ref f) = true ∧ Binds K fd ps []
abbrev HeldX (X : Cx) (k : Nat) (v : V) (sp : Sp) : Prop := HeldF X.prog X.w X.K X.mg X.base k v sp
theorem HeldF.mono {P : Program} {w : World} {K : PySem.W.Frag} {mg : Str → Option Value} {base : Heap} {k k' : Nat} {v : V} {sp : Sp} (c : HeldF P w K mg base k v sp) (h : k ≤ k') : HeldF P w K mg base k' v sp := by
  obtain ⟨f, fd, ps, e, F, r⟩ := c.ex
  exact ⟨f, fd, ps, e, F.mono h, r⟩
theorem Callable.held {P : Program} {w : World} {K : PySem.W.Frag} {mg : Str → Option Value} {base : Heap} {x : Str} {k : Nat} {sp : Sp} (c : Callable P w K mg base x k sp) : ∃ f, mg x = some (.ref f) ∧ HeldF P w K mg base k (.ref f) sp := by
  obtain ⟨f, fd, ps, F, m, kp, B⟩ := c.ex
  exact ⟨f, m, f, fd, ps, rfl, F, kp, B⟩
section
variable {X : Cx} {C : Ct} {g g' : Gm} {e : Expr} {es : List Expr} {pos p : Pos} {Q : Av → Gm → Prop} {x : Str}
theorem ee_callX {i k n : Nat} {S : Con} {v : V} (m : Nm X i x) (h0 : g[i]? = some (.vl v)) (c : HeldX X k v (spR X.K n S)) (hr : Room k X.A) (h : EA X C (e :: es) g fun xs g1 => xs.length = n ∧ ∃ as r, CvA g1 xs as ∧ S as r ∧ Q (.d r) g1)
    (he : starEach (e :: es) X.env = (false, eval e X.env) :: starEach es X.env := by rfl) (hpl : (backTo pos (starEach es X.env)).any (·.1) = false := by rfl) : EE X C (.Call (.Name x p) (e :: es) [] pos) g Q := by
  obtain ⟨f, fd, ps, rfl, F, kp, B⟩ := c.ex
  refine EE.of (pe_callL (i := i) (dvs := []) (ds := []) (E := E0) F hr m.hN m.vis kp B .nil pass0 pa_t m.d1 m.d2 he hpl) fun σ H Z I P p => ⟨I.ent i _ h0, ?_⟩
  refine h σ H Z I _ fun vs H1 Z1 xs g1 I1 s1 a1 q1 => ?_
  obtain ⟨hl, as, r, cv, hS, q⟩ := q1
  rw [List.append_nil]
  refine ⟨a1.length.trans hl, Z1, as, r, I1.fz, cv.run a1, hS, fun v H' Z' h1 h2 h3 h4 h5 => ?_⟩
  exact p v H' Z' (.d r) g1 (I1.grow h1 h2 h3 h4) (s1.trans h2) h5 q
/-! ### the script -/
theorem scr_inj : ∀ {a b : List Int}, a.map (fun n => (PyData.int n, PyData.none)) = b.map (fun n => (PyData.int n, PyData.none)) → a = b
  | [], [], _ => rfl
  | [], _ :: _, h => by simp at h
  | _ :: _, [], h => by simp at h
  | a :: as, b :: bs, h => by
    simp only [List.map_cons, List.cons.injEq, Prod.mk.injEq, PyData.int.injEq, and_true] at h
    rw [h.1, scr_inj h.2]
theorem Dd.scr_inv {K : PySem.W.Frag} {Z : Hp} {v : V} {ns : List Int} (h : Dd K Z v (AL.scr ns)) : ∃ a, v = .ref a ∧ SqL K Z a (ns.map V.int) := by
  unfold AL.scr at h
  generalize e : (ns.map fun n => (PyData.int n, PyData.none)) = l at h
  cases h with
  | @scr a ms h1 =>
    have := scr_inj e
    subst this
    exact ⟨a, rfl, h1⟩
  | dct h1 =>
    exfalso
    match ns, e with
    | [], e => cases e
    | [_], e => simp at e
    | _ :: _ :: _, e => simp at e
theorem rc_lenX {K : PySem.W.Frag} {ns : List Int} (q : Q (.d (.int ns.length)) g) : RC K C (fun xs H Q => ∃ x n, xs = [x] ∧ LenV K x H n ∧ Q (.int n) H) [.d (AL.scr ns)] g Q := fun σ H Z vs I a P p => by
  cases a with
  | @cons _ v _ _ a1 a2 =>
    cases a2
    obtain ⟨a, rfl, h⟩ := Dd.scr_inv a1
    exact ⟨_, ns.length, rfl, .inl ⟨_, Same.seq I.fz h, by simp⟩, p _ H Z (.d (.int _)) g I (Same.refl _) (Dd.int _) q⟩
theorem ra_ixX {K : PySem.W.Frag} {ns : List Int} {i d : Int} (h0 : 0 ≤ i) (hi : ns[i.toNat]? = some d) (q : Q (.d (.int d)) g) : RA K C (fun x y H P => rIxL K x y H P ∨ rIxT K x y H P) (.d (AL.scr ns)) (.d (.int i)) g Q := ra_or1 fun σ H Z v w I hx hy P p => by
  have hy' : Dd K Z w (.int i) := hy
  cases hy'
  obtain ⟨a, rfl, h⟩ := Dd.scr_inv hx
  exact ⟨a, _, i, .int d, rfl, rfl, Same.seq I.fz h, atI_int h0 (by rw [List.getElem?_map, hi]; rfl), p _ H Z (.d (.int d)) g I (Same.refl _) (.int d) q⟩
end
end AL
/-! What holds within the blocks of a comprehension; leaves. -/
namespace AL
open PySem PySem.Spec L2
section
variable {X : Cx} {C : Ct} {g g' g2 g3 g4 g5 : Gm} {Q : Av → Gm → Prop} {QG : Gm → Prop} {QL : List PyData → Gm → Prop} {scope : Scope} {s : Shared} {H : Hp} {Cm : Addr} {cl : List (Str × Addr)} {fp : List Addr} {x : Str} {k : Nat} {sp : Sp}
theorem calB (c : Cal X x k sp) : Cal (bk X scope s H Cm cl fp) x k sp := c
theorem heldB {v : V} (c : HeldX X k v sp) : HeldX (bk X scope s H Cm cl fp) k v sp := c
theorem roomB (c : Room k X.A) : Room k (bk X scope s H Cm cl fp).A := c
theorem calmB (c : X.calm = true) : (bk X scope s H Cm cl fp).calm = true := c
theorem mgB {r : Option Value} (c : X.mg x = r) : (bk X scope s H Cm cl fp).mg x = r := c
theorem lf_insert {j : Nat} {w : Option Nat} {z y : Av} {i : Int} {ds : List PyData} {d : PyData} (hz : z = .d (.int i)) (i0 : 0 ≤ i) (i1 : i < 2 ^ 63) (f : Frz [y] g3 [d] g4) (hj : g4[j]? = some (.ls w ds)) (hl : ds.length < 1000000) (hs : SetE g4 j (.ls w (ds.take i.toNat ++ d :: ds.drop i.toNat)) g5) (q : QG g5) :
    ∃ i w ds d g4 g5, z = .d (.int i) ∧ 0 ≤ i ∧ i < 2 ^ 63 ∧ Frz [y] g3 [d] g4 ∧ g4[j]? = some (.ls w ds) ∧ ds.length < 1000000 ∧ SetE g4 j (.ls w (ds.take i.toNat ++ d :: ds.drop i.toNat)) g5 ∧ QG g5 := ⟨i, w, ds, d, g4, g5, hz, i0, i1, f, hj, hl, hs, q⟩
/-- xs[i] = e -/
theorem lf_setIx {x y z : Av} {j k : Nat} {w : Option Nat} {ds : List PyData} {d : PyData} {i : Int} (hx : x = .o j) (hz : z = .d (.int i)) (f : Frz [y] g3 [d] g4) (hj : g4[j]? = some (.ls w ds)) (hi : ixN ds.length i = some k) (hs : SetE g4 j (.ls w (ds.set k d)) g5) (q : QG g5) :
    ∃ j w ds d g4 g5 i k, x = .o j ∧ z = .d (.int i) ∧ Frz [y] g3 [d] g4 ∧ g4[j]? = some (.ls w ds) ∧ ixN ds.length i = some k ∧ SetE g4 j (.ls w (ds.set k d)) g5 ∧ QG g5 := ⟨j, w, ds, d, g4, g5, i, k, hx, hz, f, hj, hi, hs, q⟩
theorem ra_eqI {i j : Int} {K : PySem.W.Frag} (q : Q (.d (.bool (decide (i = j)))) g) : RA K C (rEqD K) (.d (.int i)) (.d (.int j)) g Q := ra_eq rfl rfl rfl rfl (by
  have e : PyData.eqv (dOf g (.d (.int i))) (dOf g (.d (.int j))) = decide (i = j) := by
    show PyData.eqv (.int i) (.int j) = _
    simp only [PyData.eqv]; rfl
  rw [e]; exact q)
theorem ra_neI {i j : Int} {K : PySem.W.Frag} (q : Q (.d (.bool (!decide (i = j)))) g) : RA K C (rNeD K) (.d (.int i)) (.d (.int j)) g Q := ra_ne rfl rfl rfl rfl (by
  have e : PyData.eqv (dOf g (.d (.int i))) (dOf g (.d (.int j))) = decide (i = j) := by
    show PyData.eqv (.int i) (.int j) = _
    simp only [PyData.eqv]; rfl
  rw [e]; exact q)
theorem eqv_two (a b c d : Int) : PyData.eqv (.tuple [.int a, .int b]) (.tuple [.int c, .int d]) = decide (a = c ∧ b = d) := by
  simp only [PyData.eqv, PyData.eqvAll, Bool.and_true]
  by_cases h1 : a = c <;> by_cases h2 : b = d <;> simp [h1, h2]
theorem ra_eqF {a b c d : Int} {K : PySem.W.Frag} (q : Q (.d (.bool (decide (a = c ∧ b = d)))) g) : RA K C (rEqD K) (.d (.tuple [.int a, .int b])) (.d (.tuple [.int c, .int d])) g Q := ra_eq rfl rfl rfl rfl (by
  have e : PyData.eqv (dOf g (.d (.tuple [.int a, .int b]))) (dOf g (.d (.tuple [.int c, .int d]))) = decide (a = c ∧ b = d) := eqv_two a b c d
  rw [e]; exact q)
theorem ra_neF {a b c d : Int} {K : PySem.W.Frag} (q : Q (.d (.bool (!decide (a = c ∧ b = d)))) g) : RA K C (rNeD K) (.d (.tuple [.int a, .int b])) (.d (.tuple [.int c, .int d])) g Q := ra_ne rfl rfl rfl rfl (by
  have e : PyData.eqv (dOf g (.d (.tuple [.int a, .int b]))) (dOf g (.d (.tuple [.int c, .int d]))) = decide (a = c ∧ b = d) := eqv_two a b c d
  rw [e]; exact q)
theorem abs_if (a : Int) : (if a < 0 then -a else a) = (a.natAbs : Int) := by split <;> omega
theorem CxF.swapE {X : Cx} {N : List Str} {sc : Scope} {k : Nat} (F : CxF X N sc k) {ts : List Expr} {v : Expr} {r : Sem (Option (List Str))} (h : swappedStores ts v { X.env with scope := sc } = r) : swappedStores ts v X.env = r := by
  have e : X.env = { X.env with scope := sc } := by rw [← F.hsc]
  rw [e]; exact h
theorem CxF.swapW {X : Cx} {N : List Str} {sc : Scope} {k : Nat} (F : CxF X N sc k) {v : Expr} {t : Option Expr} {l : Nat} {r : Sem Bool} (h : swapsWith v t l { X.env with scope := sc } = r) : swapsWith v t l X.env = r := by
  have e : X.env = { X.env with scope := sc } := by rw [← F.hsc]
  rw [e]; exact h
theorem BR.of_eq {b c : Bool} {A B : Prop} (e : b = c) (h : BR c A B) : BR b A B := by rw [e]; exact h
theorem BR.byt {b : Bool} {A B : Prop} (e : b = true) (h : A) : BR b A B := by rw [e]; exact br_t h
theorem BR.byf {b : Bool} {A B : Prop} (e : b = false) (h : B) : BR b A B := by rw [e]; exact br_f h
end
end AL
/-! A list of the def's own is only read while an expression is evaluated; weaker promises. -/
namespace AL
open PySem PySem.Spec L2
section
variable {K : PySem.W.Frag} {C : Ct} {g g1 : Gm} {Q : Av → Gm → Prop} {te : TE}
def dcNol (kvs : List (PyData × PyData)) : Prop := ∀ p ∈ kvs, nol p.1 = true ∧ nol p.2 = true
end
def entNol : Ent → Prop
  | .ls _ es => nolA es = true
  | .dc _ kvs => dcNol kvs
  | _ => True
def allNol : Gm → Prop
  | [] => True
  | e :: g => entNol e ∧ allNol g
theorem allNol.at_ : ∀ {g : Gm} {i : Nat} {w : Option Nat} {es : List PyData}, allNol g → g[i]? = some (Ent.ls w es) → nolA es = true
  | [], _, _, _, _, h => by simp at h
  | e :: g, 0, _, _, ⟨h1, _⟩, h => by simp at h; subst h; exact h1
  | e :: g, i + 1, _, _, ⟨_, h2⟩, h => allNol.at_ h2 (by simpa using h)
section
variable {X : Cx} {C : Ct} {g g1 : Gm} {Q : Av → Gm → Prop} {e : Expr}
end
/-! ### weaker promises -/
theorem spR.imp {K : PySem.W.Frag} {n : Nat} {S S' : Con} (h : ∀ as r, S' as r → S as r) : ∀ vs H Q E, spR K n S' vs H Q E → spR K n S vs H Q E := fun vs H Q E ⟨h1, Z, as, r, h2, h3, h4, h5⟩ => ⟨h1, Z, as, r, h2, h3, h _ _ h4, h5⟩
theorem HeldF.imp {P : Program} {w : World} {K : PySem.W.Frag} {mg : Str → Option Value} {base : Heap} {k n : Nat} {v : V} {S S' : Con} (c : HeldF P w K mg base k v (spR K n S)) (h : ∀ as r, S' as r → S as r) : HeldF P w K mg base k v (spR K n S') := by
  obtain ⟨f, fd, ps, e, F, r⟩ := c.ex
  exact ⟨f, fd, ps, e, F.imp (spR.imp h), r⟩
theorem Callable.imp {P : Program} {w : World} {K : PySem.W.Frag} {mg : Str → Option Value} {base : Heap} {x : Str} {k n : Nat} {S S' : Con} (c : Callable P w K mg base x k (spR K n S)) (h : ∀ as r, S' as r → S as r) : Callable P w K mg base x k (spR K n S') := by
  obtain ⟨f, fd, ps, F, r⟩ := c.ex
  exact ⟨f, fd, ps, F.imp (spR.imp h), r⟩
end AL
namespace AL
open PySem PySem.Spec L2
section
variable {X : Cx} {C : Ct} {g : Gm} {D : Ae} {st : Stmt} {sts : List Stmt}
/-- one statement, then what it leaves -/
theorem ess_cut {R : Gm → Prop} (h : ES X C st g { D with nx := R }) (k : ∀ g', R g' → ESs X C sts g' D) : ESs X C (st :: sts) g D :=
  ess_cons fun σ H Z I D' d => h σ H Z I D' ⟨fun g σ H Z I s q => d.nx g σ H Z I s (k g q), d.rt, d.bk, d.ct, d.rn⟩
end
end AL
/-! x in xs, of whole numbers. -/
namespace AL
open PySem PySem.Spec L2
theorem inV_ints (i : Int) : ∀ (is : List Int), inV (.int i) (is.map V.int) = decide (i ∈ is)
  | [] => by simp [inV]
  | j :: is => by
    have ih := inV_ints i is
    unfold inV at ih ⊢
    rw [List.map_cons, List.any_cons, ih]
    have e : eqV (.int j) (.int i) = decide (i = j) := by
      show decide _ = decide _
      apply decide_eq_decide.mpr
      constructor <;> intro h <;> exact h.symm
    rw [e]
    by_cases h : i = j <;> simp [h]
theorem flat_ints (is : List Int) : (is.map V.int).all flatV = true := by
  rw [List.all_eq_true]
  intro x hx
  obtain ⟨j, _, rfl⟩ := List.mem_map.mp hx
  rfl
section
variable {X : Cx} {C : Ct} {g : Gm} {a b : Expr} {pos : Pos} {Q : Av → Gm → Prop} {QT : Bool → Gm → Prop}
theorem ra_inG {neg : Bool} {i : Int} {is : List Int} {y : Av} {K : PySem.W.Frag} (hy : y = .d (.tuple (is.map PyData.int)) ∨ y = .d (.list (is.map PyData.int)) ∨ ∃ j w, y = .o j ∧ g[j]? = some (.ls w (is.map PyData.int))) (q : Q (.d (.bool (if neg then !decide (i ∈ is) else decide (i ∈ is)))) g) : RA K C (rIn K neg) (.d (.int i)) y g Q := fun σ H Z v w I hx hw P p => by
  have hx' : Dd K Z v (.int i) := hx
  cases hx'
  have fin : ∀ ad xs, w = .ref ad → (SqL K H ad xs ∨ SqT K H ad xs) → DdA K Z xs (is.map PyData.int) → rIn K neg (.int i) w H P := fun ad xs e h1 h2 => by
    have e2 := h2.ints
    subst e2
    refine ⟨ad, _, e, h1, rfl, flat_ints is, ?_⟩
    rw [inV_ints]
    exact p _ H Z (.d (.bool _)) g I (Same.refl _) (Dd.bl _) q
  rcases hy with rfl | rfl | ⟨j, w', rfl, hj⟩
  · have hw' : Dd K Z w (.tuple (is.map PyData.int)) := hw
    cases hw' with
    | @tup ad xs _ a1 a2 => exact fin ad xs rfl (.inr (Same.seqT I.fz a1)) a2
  · have hw' : Dd K Z w (.list (is.map PyData.int)) := hw
    cases hw' with
    | @lst ad xs _ a1 a2 => exact fin ad xs rfl (.inl (SqL.of (I.fz _ _ a1))) a2
  · obtain ⟨ad, xs, e, o2, o3, o4, o5⟩ := I.own hj hw
    exact fin ad xs e (.inl (SqL.of o2)) o4
theorem ra_in2 {i j k : Int} {K : PySem.W.Frag} (q : Q (.d (.bool (decide (i = j ∨ i = k)))) g) : RA K C (rIn K false) (.d (.int i)) (.d (.tuple [.int j, .int k])) g Q := ra_inG (neg := false) (is := [j, k]) (.inl rfl) (by
  have e : (if false = true then !decide (i ∈ [j, k]) else decide (i ∈ [j, k])) = decide (i = j ∨ i = k) := by simp
  rw [e]; exact q)
theorem ra_nin2 {i j k : Int} {K : PySem.W.Frag} (q : Q (.d (.bool (!decide (i = j ∨ i = k)))) g) : RA K C (rIn K true) (.d (.int i)) (.d (.tuple [.int j, .int k])) g Q := ra_inG (neg := true) (is := [j, k]) (.inl rfl) (by
  have e : (if true = true then !decide (i ∈ [j, k]) else decide (i ∈ [j, k])) = !decide (i = j ∨ i = k) := by simp
  rw [e]; exact q)
end
end AL
/-! Calls with keywords; keyword-only parameters with defaults. -/
namespace AL
open PySem PySem.Spec L2
def tKw (X : Cx) (kws : List Keyword) : TA := fun σ H Q => ∀ pos pins s, Inv X pins σ H s → wpAny (model X.prog X.w) X.A (evalAll ((backToKw pos (keywordEach kws X.env)).map (·.2))) (AP X pins σ Q) X.xe s
theorem pk_t {X : Cx} {kws : List Keyword} : PK X kws (tKw X kws) := ⟨fun pos pins s σ H Q I h => h pos pins s I⟩
def EK (X : Cx) (C : Ct) (kws : List Keyword) (g : Gm) (Q : List Av → Gm → Prop) : Prop := AA X.K C (tKw X kws) g Q
section
variable {X : Cx} {C : Ct} {g g' : Gm} {e : Expr} {es : List Expr} {kws : List Keyword} {pos p kpos : Pos} {Q : Av → Gm → Prop} {QA : List Av → Gm → Prop} {x : Str} {nm : Option Str}
theorem EK.of {t : TA} (h : PK X kws t) (a : AA X.K C t g QA) : EK X C kws g QA := fun σ H Z I P p pos pins s J => h.run pos pins s σ H P J (a σ H Z I P p)
theorem ek_nil (q : QA [] g) : EK X C [] g QA := EK.of pk_nil (aa_nil q)
theorem ek_cons (h : EE X C e g fun x g1 => EK X C kws g1 fun xs g2 => QA (x :: xs) g2) : EK X C (⟨nm, e, kpos⟩ :: kws) g QA := EK.of (pk_cons pe_t pk_t) (aa_cons h)
theorem ArsOk.append {K : PySem.W.Frag} {Z : Hp} : ∀ {xs ys : List Ar} {vs ws : List V}, ArsOk K Z xs vs → ArsOk K Z ys ws → ArsOk K Z (xs ++ ys) (vs ++ ws)
  | _, _, _, _, .nil, k => k
  | _, _, _, _, .cons a t, k => .cons a (t.append k)
theorem ArOk.mono {K : PySem.W.Frag} {Z Z' : Hp} (e : Same Z Z') : ∀ {x : Ar} {v : V}, ArOk K Z x v → ArOk K Z' x v
  | .d d, v, h => Dd.mono e d v h
  | .v _, _, h => h
theorem ArsOk.mono {K : PySem.W.Frag} {Z Z' : Hp} (e : Same Z Z') : ∀ {xs : List Ar} {vs : List V}, ArsOk K Z xs vs → ArsOk K Z' xs vs
  | _, _, .nil => .nil
  | _, _, .cons a t => .cons (a.mono e) (t.mono e)
end
/-- values in the def's order -/
def pk {α : Type} (pm : List Nat) (l : List α) : List α := pm.filterMap fun i => l[i]?
theorem pk_vals {vs : List V} {us : List Value} (r : Vals vs us) : ∀ pm : List Nat, Vals (pk pm vs) (pk pm us)
  | [] => .nil
  | i :: pm => by
    have ih := pk_vals r pm
    unfold pk at ih ⊢
    rw [List.filterMap_cons, List.filterMap_cons]
    cases e : vs[i]? with
    | none =>
      have : us[i]? = none := by
        have h := List.getElem?_eq_none_iff.mp e
        exact List.getElem?_eq_none (by rw [← r.length]; exact h)
      rw [this]; exact ih
    | some v =>
      obtain ⟨u, h1, h2⟩ := r.get e
      rw [h1]; exact .cons h2 ih
theorem pk_ars {K : PySem.W.Frag} {Z : Hp} {as : List Ar} {vs : List V} (r : ArsOk K Z as vs) : ∀ pm : List Nat, ArsOk K Z (pk pm as) (pk pm vs)
  | [] => .nil
  | i :: pm => by
    have ih := pk_ars r pm
    unfold pk at ih ⊢
    rw [List.filterMap_cons, List.filterMap_cons]
    have key : ∀ {as : List Ar} {vs : List V} (i : Nat), ArsOk K Z as vs → (as[i]? = none ∧ vs[i]? = none) ∨ ∃ a v, as[i]? = some a ∧ vs[i]? = some v ∧ ArOk K Z a v := by
      intro as vs i h
      induction h generalizing i with
      | nil => exact .inl ⟨by simp, by simp⟩
      | @cons a v _ _ h1 _ ih =>
        cases i with
        | zero => exact .inr ⟨a, v, by simp, by simp, h1⟩
        | succ i => simpa using ih i
    rcases key i r with ⟨e1, e2⟩ | ⟨a, v, e1, e2, h⟩
    · rw [e1, e2]; exact ih
    · rw [e1, e2]; exact .cons h ih
/-- a def whose last parameters are keyword-only, with the defaults dd -/
structure CallableD (P : Program) (w : World) (K : PySem.W.Frag) (mg : Str → Option Value) (base : Heap) (x : Str) (k : Nat) (sp : Sp) (dd : List Ar) : Prop where
  ex : ∃ (f : Addr) (fd : FuncData) (ps : List Str) (ds : List Value) (dvs : List V), FnOk P w K mg base CX0 k f fd ps sp ∧ mg x = some (.ref f) ∧ PySem.W.keepIn K (.ref f) = true ∧ Binds K fd ps ds ∧ Vals dvs ds ∧ ∀ Z : Hp, ArsOk K Z dd dvs
/-- .. called with n values and the keywords ks, in the def's order -/
structure CallableK (P : Program) (w : World) (K : PySem.W.Frag) (mg : Str → Option Value) (base : Heap) (x : Str) (k : Nat) (sp : Sp) (n : Nat) (ks : List Str) (pm : List Nat) : Prop where
  ex : ∃ (f : Addr) (fd : FuncData) (ps : List Str), FnOk P w K mg base CX0 k f fd ps sp ∧ mg x = some (.ref f) ∧ PySem.W.keepIn K (.ref f) = true ∧ KBn K fd ps n ks (fun us ws => pk pm (us ++ ws)) (fun vs zs => pk pm (vs ++ zs))
theorem CallableD.mono {P : Program} {w : World} {K : PySem.W.Frag} {mg : Str → Option Value} {base : Heap} {x : Str} {k k' : Nat} {sp : Sp} {dd : List Ar} (c : CallableD P w K mg base x k sp dd) (h : k ≤ k') : CallableD P w K mg base x k' sp dd := by
  obtain ⟨f, fd, ps, ds, dvs, F, r⟩ := c.ex
  exact ⟨f, fd, ps, ds, dvs, F.mono h, r⟩
theorem CallableK.mono {P : Program} {w : World} {K : PySem.W.Frag} {mg : Str → Option Value} {base : Heap} {x : Str} {k k' : Nat} {sp : Sp} {n : Nat} {ks : List Str} {pm : List Nat} (c : CallableK P w K mg base x k sp n ks pm) (h : k ≤ k') : CallableK P w K mg base x k' sp n ks pm := by
  obtain ⟨f, fd, ps, F, r⟩ := c.ex
  exact ⟨f, fd, ps, F.mono h, r⟩
abbrev CalD (X : Cx) (x : Str) (k : Nat) (sp : Sp) (dd : List Ar) : Prop := CallableD X.prog X.w X.K X.mg X.base x k sp dd
abbrev CalK (X : Cx) (x : Str) (k : Nat) (sp : Sp) (n : Nat) (ks : List Str) (pm : List Nat) : Prop := CallableK X.prog X.w X.K X.mg X.base x k sp n ks pm
section
variable {X : Cx} {C : Ct} {g g' : Gm} {e : Expr} {es : List Expr} {kws : List Keyword} {pos p kpos : Pos} {Q : Av → Gm → Prop} {QL : List PyData → Gm → Prop} {x : Str}
/-- f(a, b): the keyword-only ones by default -/
theorem ee_callD {k n : Nat} {S : Con} {dd : List Ar} (c : CalD X x k (spR X.K n S) dd) (hr : Room k X.A) (n1 : Gn X x) (h : EA X C (e :: es) g fun xs g1 => xs.length + dd.length = n ∧ ∃ as r, CvA g1 xs as ∧ S (as ++ dd) r ∧ Q (.d r) g1)
    (he : starEach (e :: es) X.env = (false, eval e X.env) :: starEach es X.env := by rfl) (hpl : (backTo pos (starEach es X.env)).any (·.1) = false := by rfl) : EE X C (.Call (.Name x p) (e :: es) [] pos) g Q := by
  obtain ⟨f, fd, ps, ds, dvs, F, m, kp, B, V0, D0⟩ := c.ex
  refine EE.of (pe_call (dvs := dvs) (ds := ds) (E := E0) F hr n1.gl m kp B V0 pass0 pa_t n1.d1 he hpl) fun σ H Z I P p => ?_
  refine h σ H Z I _ fun vs H1 Z1 xs g1 I1 s1 a1 q1 => ?_
  obtain ⟨hl, as, r, cv, hS, q⟩ := q1
  have hd := (D0 Z1).length
  refine ⟨by rw [List.length_append, a1.length, hd]; exact hl, Z1, as ++ dd, r, I1.fz, (cv.run a1).append (D0 Z1), hS, fun v H' Z' h1 h2 h3 h4 h5 => ?_⟩
  exact p v H' Z' (.d r) g1 (I1.grow h1 h2 h3 h4) (s1.trans h2) h5 q
theorem en_callD {k n : Nat} {S : List Ar → List PyData → Prop} {dd : List Ar} (c : CalD X x k (spN X.K n S) dd) (hr : Room k X.A) (n1 : Gn X x) (h : EA X C (e :: es) g fun xs g1 => xs.length + dd.length = n ∧ ∃ as r, CvA g1 xs as ∧ S (as ++ dd) r ∧ QL r g1)
    (he : starEach (e :: es) X.env = (false, eval e X.env) :: starEach es X.env := by rfl) (hpl : (backTo pos (starEach es X.env)).any (·.1) = false := by rfl) : EN X C (.Call (.Name x p) (e :: es) [] pos) g QL := by
  obtain ⟨f, fd, ps, ds, dvs, F, m, kp, B, V0, D0⟩ := c.ex
  refine EN.of (pe_call (dvs := dvs) (ds := ds) (E := E0) F hr n1.gl m kp B V0 pass0 pa_t n1.d1 he hpl) fun σ H Z I P p => ?_
  refine h σ H Z I _ fun vs H1 Z1 xs g1 I1 s1 a1 q1 => ?_
  obtain ⟨hl, as, r, cv, hS, q⟩ := q1
  have hd := (D0 Z1).length
  refine ⟨by rw [List.length_append, a1.length, hd]; exact hl, Z1, as ++ dd, r, I1.fz, (cv.run a1).append (D0 Z1), hS, fun t H' Z' xs h1 h2 h3 h4 h5 h6 h7 h8 => ?_⟩
  obtain ⟨m1, m2, m3⟩ := I1.new h5
  exact p t H' Z' r g1 (I1.grow h1 h2 h3 h4) (s1.trans h2) ⟨⟨xs, h6, h8⟩, h7, m2, m3⟩ q
theorem AvsOk.append {K : PySem.W.Frag} {σ : St} {Z : Hp} : ∀ {xs ys : List Av} {vs zs : List V}, AvsOk K σ Z xs vs → AvsOk K σ Z ys zs → AvsOk K σ Z (xs ++ ys) (vs ++ zs)
  | _, _, _, _, .nil, k => k
  | _, _, _, _, .cons a t, k => .cons a (t.append k)
/-- f(a, b, k = v) -/
theorem ee_callK {k n m : Nat} {ks : List Str} {pm : List Nat} {S : Con} (c : CalK X x k (spR X.K n S) m ks pm) (hr : Room k X.A) (n1 : Gn X x) (h : EA X C (e :: es) g fun xs g1 => EK X C kws g1 fun ys g2 => xs.length = m ∧ ys.length = ks.length ∧ ∃ as r, CvA g2 (xs ++ ys) as ∧ (pk pm as).length = n ∧ S (pk pm as) r ∧ Q (.d r) g2)
    (hall : (backToKw pos (keywordEach kws X.env)).all (·.1.isSome) = true := by rfl) (hks : (backToKw pos (keywordEach kws X.env)).filterMap (·.1) = ks := by rfl)
    (he : starEach (e :: es) X.env = (false, eval e X.env) :: starEach es X.env := by rfl)
    (hpl : ((backTo pos (starEach (e :: es) X.env)).any (·.1) || (backToKw pos (keywordEach kws X.env)).any (·.1.isNone)) = false := by rfl) : EE X C (.Call (.Name x p) (e :: es) kws pos) g Q := by
  obtain ⟨f, fd, ps, F, mm, kp, B⟩ := c.ex
  refine EE.of (pe_callN (E := E0) F hr n1.gl mm kp B pass0 pa_t pk_t hall hks n1.d1 he hpl) fun σ H Z I P p => ?_
  refine h σ H Z I _ fun vs H1 Z1 xs g1 I1 s1 a1 q1 => q1 σ H1 Z1 I1 _ fun zs H2 Z2 ys g2 I2 s2 a2 q2 => ?_
  obtain ⟨l1, l2, as, r, cv, l3, hS, q⟩ := q2
  have ar := pk_ars (cv.run ((a1.mono s2).append a2)) pm
  refine ⟨a1.length.trans l1, a2.length.trans l2, ar.length.trans l3, Z2, pk pm as, r, I2.fz, ar, hS, fun v H' Z' h1 h2 h3 h4 h5 => ?_⟩
  exact p v H' Z' (.d r) g2 (I2.grow h1 h2 h3 h4) ((s1.trans s2).trans h2) h5 q
theorem en_callK {k n m : Nat} {ks : List Str} {pm : List Nat} {S : List Ar → List PyData → Prop} (c : CalK X x k (spN X.K n S) m ks pm) (hr : Room k X.A) (n1 : Gn X x) (h : EA X C (e :: es) g fun xs g1 => EK X C kws g1 fun ys g2 => xs.length = m ∧ ys.length = ks.length ∧ ∃ as r, CvA g2 (xs ++ ys) as ∧ (pk pm as).length = n ∧ S (pk pm as) r ∧ QL r g2)
    (hall : (backToKw pos (keywordEach kws X.env)).all (·.1.isSome) = true := by rfl) (hks : (backToKw pos (keywordEach kws X.env)).filterMap (·.1) = ks := by rfl)
    (he : starEach (e :: es) X.env = (false, eval e X.env) :: starEach es X.env := by rfl)
    (hpl : ((backTo pos (starEach (e :: es) X.env)).any (·.1) || (backToKw pos (keywordEach kws X.env)).any (·.1.isNone)) = false := by rfl) : EN X C (.Call (.Name x p) (e :: es) kws pos) g QL := by
  obtain ⟨f, fd, ps, F, mm, kp, B⟩ := c.ex
  refine EN.of (pe_callN (E := E0) F hr n1.gl mm kp B pass0 pa_t pk_t hall hks n1.d1 he hpl) fun σ H Z I P p => ?_
  refine h σ H Z I _ fun vs H1 Z1 xs g1 I1 s1 a1 q1 => q1 σ H1 Z1 I1 _ fun zs H2 Z2 ys g2 I2 s2 a2 q2 => ?_
  obtain ⟨l1, l2, as, r, cv, l3, hS, q⟩ := q2
  have ar := pk_ars (cv.run ((a1.mono s2).append a2)) pm
  refine ⟨a1.length.trans l1, a2.length.trans l2, ar.length.trans l3, Z2, pk pm as, r, I2.fz, ar, hS, fun t H' Z' xs h1 h2 h3 h4 h5 h6 h7 h8 => ?_⟩
  obtain ⟨m1, m2, m3⟩ := I2.new h5
  exact p t H' Z' r g2 (I2.grow h1 h2 h3 h4) ((s1.trans s2).trans h2) ⟨⟨xs, h6, h8⟩, h7, m2, m3⟩ q
/-- f(k = v, ..) -/
theorem pe_callN0 {CX : CXT} {k : Nat} {f : Addr} {fd : FuncData} {ps ks : List Str} {sp : Sp} {E : XK} {tk : TA} {g : List Value → List Value → List Value} {gV : List V → List V → List V} (F : FnOk X.prog X.w X.K X.mg X.base CX k f fd ps sp) (hr : Room k X.A) (hg : Gl X x) (hm : X.mg x = some (.ref f)) (hk : PySem.W.keepIn X.K (.ref f) = true) (hb : KBn X.K fd ps 0 ks g gV) (hx : Passes CX X E)
    (hkw : PK X kws tk) (hall : (backToKw pos (keywordEach kws X.env)).all (·.1.isSome) = true) (hks : (backToKw pos (keywordEach kws X.env)).filterMap (·.1) = ks) (hdb : (x == ("__debug__" : Str)) = false)
    (hpl : ((backTo pos (starEach [] X.env)).any (·.1) || (backToKw pos (keywordEach kws X.env)).any (·.1.isNone)) = false) : PE X (.Call (.Name x p) [] kws pos) (tCallN 0 ks.length sp gV E tNil tk) :=
  ⟨fun pins s σ H Q I h => wpAny_Call_Name_kw (ld_glob I hg hm (PySem.W.callWith_KW0 (h₀ := X.base) I.ok.mod.kin hk hall (thn (hkw.run pos pins s σ H _ I h) fun ws s2 q => by
    obtain ⟨zs, H2, I2, rz, l1, l2, q2⟩ := q
    refine ⟨I2.kIn, ?_⟩
    rw [hks]
    exact run_fnN (us := []) (vs := []) F hr hb hx I2 .nil rz l1 l2 q2) hpl) hdb)⟩
theorem ee_callK0 {k n : Nat} {ks : List Str} {pm : List Nat} {S : Con} (c : CalK X x k (spR X.K n S) 0 ks pm) (hr : Room k X.A) (n1 : Gn X x) (h : EK X C kws g fun ys g2 => ys.length = ks.length ∧ ∃ as r, CvA g2 ys as ∧ (pk pm as).length = n ∧ S (pk pm as) r ∧ Q (.d r) g2)
    (hall : (backToKw pos (keywordEach kws X.env)).all (·.1.isSome) = true := by rfl) (hks : (backToKw pos (keywordEach kws X.env)).filterMap (·.1) = ks := by rfl)
    (hpl : ((backTo pos (starEach [] X.env)).any (·.1) || (backToKw pos (keywordEach kws X.env)).any (·.1.isNone)) = false := by rfl) : EE X C (.Call (.Name x p) [] kws pos) g Q := by
  obtain ⟨f, fd, ps, F, mm, kp, B⟩ := c.ex
  refine EE.of (pe_callN0 (E := E0) F hr n1.gl mm kp B pass0 pk_t hall hks n1.d1 hpl) fun σ H Z I P p => ?_
  refine h σ H Z I _ fun zs H2 Z2 ys g2 I2 s2 a2 q2 => ?_
  obtain ⟨l2, as, r, cv, l3, hS, q⟩ := q2
  have ar := pk_ars (cv.run a2) pm
  refine ⟨rfl, a2.length.trans l2, ar.length.trans l3, Z2, pk pm as, r, I2.fz, ar, hS, fun v H' Z' h1 h2 h3 h4 h5 => ?_⟩
  exact p v H' Z' (.d r) g2 (I2.grow h1 h2 h3 h4) (s2.trans h2) h5 q
theorem en_callK0 {k n : Nat} {ks : List Str} {pm : List Nat} {S : List Ar → List PyData → Prop} (c : CalK X x k (spN X.K n S) 0 ks pm) (hr : Room k X.A) (n1 : Gn X x) (h : EK X C kws g fun ys g2 => ys.length = ks.length ∧ ∃ as r, CvA g2 ys as ∧ (pk pm as).length = n ∧ S (pk pm as) r ∧ QL r g2)
    (hall : (backToKw pos (keywordEach kws X.env)).all (·.1.isSome) = true := by rfl) (hks : (backToKw pos (keywordEach kws X.env)).filterMap (·.1) = ks := by rfl)
    (hpl : ((backTo pos (starEach [] X.env)).any (·.1) || (backToKw pos (keywordEach kws X.env)).any (·.1.isNone)) = false := by rfl) : EN X C (.Call (.Name x p) [] kws pos) g QL := by
  obtain ⟨f, fd, ps, F, mm, kp, B⟩ := c.ex
  refine EN.of (pe_callN0 (E := E0) F hr n1.gl mm kp B pass0 pk_t hall hks n1.d1 hpl) fun σ H Z I P p => ?_
  refine h σ H Z I _ fun zs H2 Z2 ys g2 I2 s2 a2 q2 => ?_
  obtain ⟨l2, as, r, cv, l3, hS, q⟩ := q2
  have ar := pk_ars (cv.run a2) pm
  refine ⟨rfl, a2.length.trans l2, ar.length.trans l3, Z2, pk pm as, r, I2.fz, ar, hS, fun t H' Z' xs h1 h2 h3 h4 h5 h6 h7 h8 => ?_⟩
  obtain ⟨m1, m2, m3⟩ := I2.new h5
  exact p t H' Z' r g2 (I2.grow h1 h2 h3 h4) (s2.trans h2) ⟨⟨xs, h6, h8⟩, h7, m2, m3⟩ q
end
section
variable {X : Cx} {g : Gm} {scope : Scope} {s : Shared} {H : Hp} {Cm : Addr} {cl : List (Str × Addr)} {fp : List Addr} {x : Str} {k n : Nat} {sp : Sp} {dd : List Ar} {ks : List Str} {pm : List Nat}
theorem calDB (c : CalD X x k sp dd) : CalD (bk X scope s H Cm cl fp) x k sp dd := c
theorem calKB (c : CalK X x k sp n ks pm) : CalK (bk X scope s H Cm cl fp) x k sp n ks pm := c
theorem lf_callD {α : Type} {S : List Ar → α → Prop} {xs : List Av} {as : List Ar} {r : α} {φ : α → Prop} (hn : xs.length + dd.length = n) (cv : CvA g xs as) (con : S (as ++ dd) r) (q : φ r) : xs.length + dd.length = n ∧ ∃ as r, CvA g xs as ∧ S (as ++ dd) r ∧ φ r := ⟨hn, as, r, cv, con, q⟩
theorem lf_callK {α : Type} {S : List Ar → α → Prop} {m : Nat} {xs ys : List Av} {as : List Ar} {r : α} {φ : α → Prop} (h1 : xs.length = m) (h2 : ys.length = ks.length) (cv : CvA g (xs ++ ys) as) (h3 : (pk pm as).length = n) (con : S (pk pm as) r) (q : φ r) : xs.length = m ∧ ys.length = ks.length ∧ ∃ as r, CvA g (xs ++ ys) as ∧ (pk pm as).length = n ∧ S (pk pm as) r ∧ φ r := ⟨h1, h2, as, r, cv, h3, con, q⟩
theorem lf_callK0 {α : Type} {S : List Ar → α → Prop} {ys : List Av} {as : List Ar} {r : α} {φ : α → Prop} (h2 : ys.length = ks.length) (cv : CvA g ys as) (h3 : (pk pm as).length = n) (con : S (pk pm as) r) (q : φ r) : ys.length = ks.length ∧ ∃ as r, CvA g ys as ∧ (pk pm as).length = n ∧ S (pk pm as) r ∧ φ r := ⟨h2, as, r, cv, h3, con, q⟩
end
/-- every parameter is given -/
theorem kb_all {K : PySem.W.Frag} {x qual : Str} {params : Arguments} {body : List Stmt} {scope : Scope} {kws : List (Str × V)} {f : Addr} {fd : FuncData} {ps : List Str} (F : FunD K x qual params body scope [] kws f fd) (n : Nat) (ks : List Str) (pm : List Nat)
    (h : ∀ (kV doc pm' : Value) (an : Option Addr) (cdv ct : Value) (us ws : List Value), us.length = n → ws.length = ks.length → bindArgs (PySem.W.fnOf x qual params body scope .none kV doc pm' an cdv ct) ⟨us, ks.zip ws⟩ = pure (ps.zip (pk pm (us ++ ws)))) : KBn K fd ps n ks (fun us ws => pk pm (us ++ ws)) (fun vs zs => pk pm (vs ++ zs)) := by
  obtain ⟨oc, od, dV, kV, doc, pm', an, cdv, ct, osl, rfl, lk, hcd, hD, hK⟩ := F.ex
  rcases hD with ⟨_, rfl⟩ | ⟨e, _⟩
  · exact ⟨fun s us ws _ l1 l2 => .of_eq (h kV doc pm' an cdv ct us ws l1 l2), fun r1 r2 => pk_vals (r1.append r2) pm⟩
  · exact absurd rfl e
end AL
/-! zip of two lists; slices of lists. -/
namespace AL
open PySem PySem.Spec L2
def zipD (ds es : List PyData) : List PyData := (ds.zip es).map fun p => .tuple [p.1, p.2]
theorem zipD_len (ds es : List PyData) : (zipD ds es).length = min ds.length es.length := by simp [zipD]
theorem zipD_get {ds es : List PyData} {i : Nat} {d : PyData} (h : (zipD ds es)[i]? = some d) : ∃ x y, ds[i]? = some x ∧ es[i]? = some y ∧ d = .tuple [x, y] := by
  simp only [zipD, List.getElem?_map, Option.map_eq_some_iff] at h
  obtain ⟨⟨x, y⟩, h1, h2⟩ := h
  obtain ⟨h3, h4⟩ := List.getElem?_zip_eq_some.mp h1
  exact ⟨x, y, h3, h4, h2.symm⟩
theorem wk_zipL {K : PySem.W.Frag} {Z1 : Hp} {a b : Addr} {xs ys : List V} {ds es : List PyData} (e1 : Z1 a = some (.lst xs)) (d1 : DdA K Z1 xs ds) (e2 : Z1 b = some (.lst ys)) (d2 : DdA K Z1 ys es) : Wk K Z1 (Itz K a b) (zipD ds es) := by
  refine ⟨fun H => SqL K H a xs ∧ SqL K H b ys, YPair (fun i => xs[i]?) (fun i => ys[i]?), ?_, fun _ g σ H Z I s => ⟨SqL.of (I.fz _ _ (s _ _ e1)), SqL.of (I.fz _ _ (s _ _ e2))⟩, fun _ i H x H' g σ Z d I s e y => ?_⟩
  · exact walk_zip (by rw [zipD_len, d1.length, d2.length])
  · obtain ⟨T, u, v, rfl, hT, rfl, h1, h2⟩ := y
    obtain ⟨p, k1, k2⟩ := (d1.mono s).getV h1
    obtain ⟨q, k3, k4⟩ := (d2.mono s).getV h2
    obtain ⟨p', q', k5, k6, rfl⟩ := zipD_get e
    rw [k1] at k5; cases k5
    rw [k3] at k6; cases k6
    obtain ⟨I2, s2, _⟩ := I.newF (o := .tup [u, v]) hT
    exact ⟨_, I2, s2, .tup (SqT.of upd_same) (.cons (k2.mono s2) (.cons (k4.mono s2) .nil))⟩
section
variable {X : Cx} {C : Ct} {g g' : Gm} {e a b o hi lo : Expr} {pos p p2 tpos : Pos} {Q : Av → Gm → Prop} {QI : List PyData → Gm → Prop} {elts : List Expr} {kk : Nat}
theorem ei_zip (n : Bn X "zip") (h : EE X C a g fun x g1 => EE X C b g1 fun y g2 => ∃ ds es g3, Frz [x, y] g2 [.list ds, .list es] g3 ∧ QI (zipD ds es) g3) (he : starEach [a, b] X.env = (false, eval a X.env) :: starEach [b] X.env := by rfl) (he2 : starEach [b] X.env = (false, eval b X.env) :: starEach [] X.env := by rfl) : EI X C (.Tuple elts kk tpos) (.Call (.Name "zip" p) [a, b] [] pos) g QI :=
  EI.of (pi_zip n.gl n.mg pa_t he (by rw [he2]; rfl)) fun σ H Z I R p =>
    (show EA X C [a, b] g (fun xs g2 => ∃ x y ds es g3, xs = [x, y] ∧ Frz [x, y] g2 [.list ds, .list es] g3 ∧ QI (zipD ds es) g3) from ea_cons (h.mono fun x g1 h1 => ea_cons (h1.mono fun y g2 ⟨ds, es, g3, q⟩ => ea_nil ⟨x, y, ds, es, g3, rfl, q⟩) he2) he) σ H Z I _ fun vs H1 Z1 xs g1 I1 s1 a1 q1 => by
      obtain ⟨x, y, ds, es, g3, rfl, f, q⟩ := q1
      obtain ⟨Z2, I2, s2, r2⟩ := f.run I1 a1
      cases r2 with
      | cons r3 r4 =>
        cases r4 with
        | cons r5 r6 =>
          cases r6
          cases r3 with
          | @lst ad xs _ e1 d1 =>
            cases r5 with
            | @lst bd ys _ e2 d2 =>
              exact ⟨ad, bd, xs, ys, rfl, SqL.of (I2.fz _ _ e1), SqL.of (I2.fz _ _ e2), p _ H1 Z2 _ g3 I2 (s1.trans s2) (wk_zipL e1 d1 e2 d2) q⟩
theorem lf_zip {x y : Av} {ds es : List PyData} {g2 g3 : Gm} {φ : List PyData → List PyData → Gm → Prop} (f : Frz [x, y] g2 [.list ds, .list es] g3) (q : φ ds es g3) : ∃ ds es g3, Frz [x, y] g2 [.list ds, .list es] g3 ∧ φ ds es g3 := ⟨ds, es, g3, f, q⟩
/-! ### slices of tuples and lists -/
def KL (g : Gm) (x : Av) (ds : List PyData) : Prop := x = .d (.list ds) ∨ ∃ j w, x = .o j ∧ g[j]? = some (.ls w ds)
theorem ta_slL {K : PySem.W.Frag} {σ : St} {H Z : Hp} {x : Av} {v : V} {ds : List PyData} {l u : Option Int} {P : VK} (I : Ok K C g σ H Z) (hx : KL g x ds) (h : AvOk K σ Z x v) (p : ∀ v H' Z', Ok K C g σ H' Z' → Same Z Z' → Dd K Z' v (.list (cutD ds l u)) → P v H') : rSlL K v l u H P := by
  have fin : ∀ ad xs, v = .ref ad → SqL K H ad xs → DdA K Z xs ds → rSlL K v l u H P := fun ad xs e h1 h2 => by
    refine ⟨ad, xs, e, h1, fun t ht => ?_⟩
    obtain ⟨m1, m2, m3⟩ := I.new ht
    have I2 : Ok K C g σ (upd H t (.lst (cutV xs l u))) Z := I.newO ht
    obtain ⟨Z', I3, s3, d3⟩ := I2.frzN (p := t) (ds := cutD ds l u) ⟨⟨_, upd_same, h2.cut l u⟩, m1, m2, m3⟩
    exact p _ _ Z' I3 s3 d3
  rcases hx with rfl | ⟨j, w, rfl, hj⟩
  · have h' : Dd K Z v (.list ds) := h
    cases h' with
    | @lst ad xs _ a1 a2 => exact fin ad xs rfl (SqL.of (I.fz _ _ a1)) a2
  · obtain ⟨ad, xs, e, o2, o3, o4, o5⟩ := I.own hj h
    exact fin ad xs e (SqL.of o2) o4
/-- x[k:] -/
theorem ee_sl2Lo (h : EE X C e g fun x g1 => EE X C lo g1 fun y g2 => ∃ k ds, y = .d (.int k) ∧ 0 ≤ k ∧ ((x = .d (.tuple ds) ∧ Q (.d (.tuple (ds.drop k.toNat))) g2) ∨ (KL g2 x ds ∧ Q (.d (.list (ds.drop k.toNat))) g2))) : EE X C (.Subscript e (.Slice (some lo) none none p2) pos) g Q :=
  EE.of (pe_slice (SlR.or sl_tupA sl_list) pe_t (po_some pe_t) po_none) fun σ H Z I P p => h σ H Z I _ fun v H1 Z1 x g1 I1 s1 a1 h1 => h1 σ H1 Z1 I1 _ fun w H2 Z2 y g2 I2 s2 a2 q => by
    obtain ⟨k, ds, rfl, hk, q⟩ := q
    have a2' : Dd X.K Z2 w (.int k) := a2
    cases a2'
    rcases q with ⟨rfl, q⟩ | ⟨kl, q⟩
    · refine ⟨k, rfl, .inl (ta_sl I2 (Dd.mono s2 _ _ a1) fun v H3 Z3 I3 s3 d3 => ?_)⟩
      rw [cut_lo hk] at d3
      exact p v H3 Z3 (.d (.tuple (ds.drop k.toNat))) g2 I3 ((s1.trans s2).trans s3) d3 q
    · refine ⟨k, rfl, .inr (ta_slL I2 kl (a1.mono s2) fun v H3 Z3 I3 s3 d3 => ?_)⟩
      rw [cut_lo hk] at d3
      exact p v H3 Z3 (.d (.list (ds.drop k.toNat))) g2 I3 ((s1.trans s2).trans s3) d3 q
/-- x[:k] -/
theorem ee_sl2Hi (h : EE X C e g fun x g1 => EE X C hi g1 fun y g2 => ∃ k ds, y = .d (.int k) ∧ 0 ≤ k ∧ ((x = .d (.tuple ds) ∧ Q (.d (.tuple (ds.take k.toNat))) g2) ∨ (KL g2 x ds ∧ Q (.d (.list (ds.take k.toNat))) g2))) : EE X C (.Subscript e (.Slice none (some hi) none p2) pos) g Q :=
  EE.of (pe_slice (SlR.or sl_tupA sl_list) pe_t po_none (po_some pe_t)) fun σ H Z I P p => h σ H Z I _ fun v H1 Z1 x g1 I1 s1 a1 h1 => h1 σ H1 Z1 I1 _ fun w H2 Z2 y g2 I2 s2 a2 q => by
    obtain ⟨k, ds, rfl, hk, q⟩ := q
    have a2' : Dd X.K Z2 w (.int k) := a2
    cases a2'
    rcases q with ⟨rfl, q⟩ | ⟨kl, q⟩
    · refine ⟨k, rfl, .inl (ta_sl I2 (Dd.mono s2 _ _ a1) fun v H3 Z3 I3 s3 d3 => ?_)⟩
      rw [cut_hi hk] at d3
      exact p v H3 Z3 (.d (.tuple (ds.take k.toNat))) g2 I3 ((s1.trans s2).trans s3) d3 q
    · refine ⟨k, rfl, .inr (ta_slL I2 kl (a1.mono s2) fun v H3 Z3 I3 s3 d3 => ?_)⟩
      rw [cut_hi hk] at d3
      exact p v H3 Z3 (.d (.list (ds.take k.toNat))) g2 I3 ((s1.trans s2).trans s3) d3 q
theorem lf_slT {y : Av} {k : Int} {ds : List PyData} {φ : Int → List PyData → Prop} {A : Int → List PyData → Prop} {B : Int → List PyData → Prop} (hy : y = .d (.int k)) (hk : 0 ≤ k) (hx : φ k ds) (q : A k ds) : ∃ k ds, y = .d (.int k) ∧ 0 ≤ k ∧ ((φ k ds ∧ A k ds) ∨ B k ds) := ⟨k, ds, hy, hk, .inl ⟨hx, q⟩⟩
theorem lf_slL {y x : Av} {k : Int} {ds : List PyData} {B : Int → List PyData → Prop} {A : Int → List PyData → Prop} (hy : y = .d (.int k)) (hk : 0 ≤ k) (hx : KL g x ds) (q : A k ds) : ∃ k ds, y = .d (.int k) ∧ 0 ≤ k ∧ (B k ds ∨ (KL g x ds ∧ A k ds)) := ⟨k, ds, hy, hk, .inr ⟨hx, q⟩⟩
theorem kl_l {ds : List PyData} : KL g (.d (.list ds)) ds := .inl rfl
theorem kl_o {j : Nat} {w : Option Nat} {ds : List PyData} (h : g[j]? = some (.ls w ds)) : KL g (.o j) ds := .inr ⟨j, w, rfl, h⟩
end
end AL
/-! Defs in which repr is asked or lambdas are made: promises that know the guards and the tables. -/
namespace AL
open PySem PySem.Spec PyProof.Rows L2
/-! ### what repr writes -/
structure Shb (n k : Nat) (d : PyData) : Prop where
  lay : d.canLay0 = true
  shw : d.showable = true
  len : d.shown.length ≤ n
  dep : d.depth ≤ k
theorem Shb.mono {n n' k k' : Nat} {d : PyData} (h : Shb n k d) (a : n ≤ n') (b : k ≤ k') : Shb n' k' d := ⟨h.lay, h.shw, Nat.le_trans h.len a, Nat.le_trans h.dep b⟩
structure ShbA (n k : Nat) (ds : List PyData) : Prop where
  lay : PyData.canLayAll0 ds = true
  shw : PyData.showableAll ds = true
  len : ∀ t ∈ PyData.shownAll ds, t.length ≤ n
  cnt : (PyData.shownAll ds).length = ds.length
  dep : PyData.depthAll ds ≤ k
/-- what may be shown whole -/
def Shw (d : PyData) : Prop := Shb 16000000 60 d
/-- repr(e) -/
def rRep (K : PySem.W.Frag) : List V → Hp → VK → Prop := fun xs H Q => ∃ x d, xs = [x] ∧ Dp K H x d ∧ Shw d ∧ Q (.str d.shown) H
theorem call_rep {X : Cx} {k : Nat} (hr : Room k X.A) (hg : X.A.guards = some []) : CallR X (.builtin "repr") (rRep X.K) := by
  intro pins s σ H xs us Q I r h
  obtain ⟨x, d, rfl, hd, sh, q⟩ := h
  obtain ⟨u, rfl, t⟩ := vals1 r
  have fin : ∀ h' w tk, (∀ b o, s.heap.get? b = some o → h'.get? b = some o) → EP X pins σ Q (.str d.shown w) { s with heap := h', toks := tk } := fun h' w tk hk =>
    ⟨.str d.shown, H, I.kept hk, ⟨w, rfl⟩, q⟩
  have fin0 : ∀ w tk, EP X pins σ Q (.str d.shown w) { s with toks := tk } := fun w tk => ⟨.str d.shown, H, I.tok _, ⟨w, rfl⟩, q⟩
  have hsz : d.shown.length ≤ sizeLine := Nat.le_trans sh.len (by decide)
  have un := hr.un
  cases d with
  | none => cases hd; cases t; exact PySem.P.repr_of_none (fin0 _ _)
  | bool b => cases hd; cases t; exact PySem.P.repr_of_bool (fin0 _ _)
  | int i =>
    cases hd
    obtain ⟨t, rfl⟩ := t
    have z : i.natAbs.log2 < 1920 := by have := sh.shw; simpa [PyData.showable] using this
    exact PySem.P.repr_of_int z (fin0 _ _)
  | str y =>
    cases hd
    obtain ⟨t, rfl⟩ := t
    exact PySem.P.repr_of_str (fin0 _ _) hsz
  | list ds =>
    obtain ⟨as, rd⟩ := Dp.reads I _ _ _ hd t
    cases hd
    cases t
    exact PySem.repr_of_reads' rd sh.shw (PyData.noDict_hsm (PyData.hasDict_of_canLay _ sh.lay)) hg (by have := sh.dep; omega) (fun _ _ e => e) fin hsz
  | tuple ds =>
    obtain ⟨as, rd⟩ := Dp.reads I _ _ _ hd t
    cases hd
    cases t
    exact PySem.repr_of_reads' rd sh.shw (PyData.noDict_hsm (PyData.hasDict_of_canLay _ sh.lay)) hg (by have := sh.dep; omega) (fun _ _ e => e) fin hsz
  | dict l => cases hd
end AL
/-! Promises that know the guards and the tables; their calls. -/
namespace AL
open PySem PySem.Spec L2
open PyProof.Rows hiding St
structure FnG (P : Program) (w : World) (K : PySem.W.Frag) (mg : Str → Option Value) (base : Heap) (k : Nat) (f : Addr) (fd : FuncData) (ps : List Str) (sp : Sp) : Prop where
  len : ∀ vs H Q E, sp vs H Q E → vs.length = ps.length
  run : ∀ (A : Around) (outer : List Env) (s : Shared) (H : Hp) (args : Args) (us : List Value) (vs : List V) (Q : VK), Room k A → A.guards = some [] → Env0 P w K mg base A outer s H → BindsTo s fd args (ps.zip us) → Vals vs us →
    sp vs H Q L2.E0 → codeAny (model P w) A (.call (.ref f) args) (CR L2.CX0 outer P w H s Q L2.E0) s
theorem FnG.mono {P : Program} {w : World} {K : PySem.W.Frag} {mg : Str → Option Value} {base : Heap} {j k : Nat} {f : Addr} {fd : FuncData} {ps : List Str} {sp : Sp} (F : FnG P w K mg base j f fd ps sp) (h : j ≤ k) : FnG P w K mg base k f fd ps sp :=
  ⟨F.len, fun A outer s H args us vs Q hr => F.run A outer s H args us vs Q (hr.mono h)⟩
theorem FnG.imp {P : Program} {w : World} {K : PySem.W.Frag} {mg : Str → Option Value} {base : Heap} {k : Nat} {f : Addr} {fd : FuncData} {ps : List Str} {sp sp' : Sp} (F : FnG P w K mg base k f fd ps sp) (h : ∀ vs H Q E, sp' vs H Q E → sp vs H Q E) : FnG P w K mg base k f fd ps sp' :=
  ⟨fun vs H Q E q => F.len vs H Q E (h _ _ _ _ q), fun A outer s H args us vs Q hr hg he hb hv hs => F.run A outer s H args us vs Q hr hg he hb hv (h _ _ _ _ hs)⟩
abbrev Tb := List (Addr × Str)
/-- all that stood stands, but for the tables -/
def SameT (T : Tb) (H H' : Hp) : Prop := ∀ (a : Addr) (o : HO), a ∉ T.map (·.1) → H a = some o → H' a = some o
def spG (K : PySem.W.Frag) (T : Tb) (n : Nat) (S : Con) : Sp := fun vs H Q _ => vs.length = n ∧ LamX.Tabs T H ∧ ∃ Z as r, Same Z H ∧ (∀ p ∈ T, Z p.1 = none) ∧ ArsOk K Z as vs ∧ S as r ∧
  ∀ v H' Z', LamX.Tabs T H' → SameT T H H' → Same Z Z' → Same Z' H' → (∀ (a : Addr) (o : HO), Z' a = some o → Z a = some o ∨ H a = none) → Dd K Z' v r → Q v H'
def spGN (K : PySem.W.Frag) (T : Tb) (n : Nat) (S : List Ar → List PyData → Prop) : Sp := fun vs H Q _ => vs.length = n ∧ LamX.Tabs T H ∧ ∃ Z as r, Same Z H ∧ (∀ p ∈ T, Z p.1 = none) ∧ ArsOk K Z as vs ∧ S as r ∧
  ∀ p H' Z' xs, LamX.Tabs T H' → SameT T H H' → Same Z Z' → Same Z' H' → (∀ (a : Addr) (o : HO), Z' a = some o → Z a = some o ∨ H a = none) → H p = none → H' p = some (.lst xs) → Z' p = none → DdA K Z' xs r → Q (.ref p) H'
def spGM (K : PySem.W.Frag) (T : Tb) (n : Nat) (S : ConM) : Sp := fun vs H Q _ => vs.length = n ∧ LamX.Tabs T H ∧ ∃ a vs' Z xs ds as r ds', vs = .ref a :: vs' ∧ H a = some (.lst xs) ∧ Z a = none ∧ Same Z H ∧ (∀ p ∈ T, Z p.1 = none) ∧ DdA K Z xs ds ∧ ArsOk K Z as vs' ∧ S ds as r ds' ∧
  ∀ v H' Z' xs', LamX.Tabs T H' → (∀ (b : Addr) (o : HO), b ≠ a → b ∉ T.map (·.1) → H b = some o → H' b = some o) → H' a = some (.lst xs') → Same Z Z' → Same Z' H' → Z' a = none → (∀ (b : Addr) (o : HO), Z' b = some o → Z b = some o ∨ H b = none) → DdA K Z' xs' ds' → Dd K Z' v r → Q v H'
structure CallableG (P : Program) (w : World) (K : PySem.W.Frag) (mg : Str → Option Value) (base : Heap) (x : Str) (k : Nat) (sp : Sp) : Prop where
  ex : ∃ (f : Addr) (fd : FuncData) (ps : List Str), FnG P w K mg base k f fd ps sp ∧ mg x = some (.ref f) ∧ PySem.W.keepIn K (.ref f) = true ∧ Binds K fd ps []
abbrev CalG (X : Cx) (x : Str) (k : Nat) (sp : Sp) : Prop := CallableG X.prog X.w X.K X.mg X.base x k sp
theorem CallableG.mono {P : Program} {w : World} {K : PySem.W.Frag} {mg : Str → Option Value} {base : Heap} {x : Str} {k k' : Nat} {sp : Sp} (c : CallableG P w K mg base x k sp) (h : k ≤ k') : CallableG P w K mg base x k' sp := by
  obtain ⟨f, fd, ps, F, r⟩ := c.ex
  exact ⟨f, fd, ps, F.mono h, r⟩
section
variable {X : Cx} {k : Nat} {f : Addr} {fd : FuncData} {ps : List Str} {sp : Sp} {x : Str} {p pos : Pos} {e : Expr} {es : List Expr} {t : TA}
theorem run_g {pins : List (Addr × Obj)} {σ : St} {H : Hp} {s : Shared} {Q : VK} {us : List Value} {vs : List V} (F : FnG X.prog X.w X.K X.mg X.base k f fd ps sp) (hr : Room k X.A) (hg : X.A.guards = some []) (hb : Binds X.K fd ps [])
    (I : Inv X pins σ H s) (r : Vals vs us) (h : sp vs H Q L2.E0) : wpAny (model X.prog X.w) X.A (call (.ref f) us) (EP X pins σ Q) X.xe s := by
  have hl : (us ++ []).length = ps.length := by rw [List.append_nil, ← r.length]; exact F.len _ _ _ _ h
  have b := hb s us I.kIn hl
  rw [List.append_nil] at b
  have c := F.run X.A X.stack s H ⟨us, []⟩ us vs Q hr hg I.env0 b r h
  refine wpAny_call (codeAny_mono c fun z s' hq => ?_)
  match z, hq with
  | .ok (.ret u), hq => exact I.after hq
  | .ok .next, hq => exact hq.elim
  | .ok .brk, hq => exact hq.elim
  | .ok .cont, hq => exact hq.elim
  | .error _, hq => exact (show False from hq).elim
def tCallG (sp : Sp) (t : TA) : TE := fun σ H Q => t σ H fun vs H1 => sp vs H1 Q L2.E0
theorem pe_callG (F : FnG X.prog X.w X.K X.mg X.base k f fd ps sp) (hr : Room k X.A) (hgd : X.A.guards = some []) (hg : Gl X x) (hm : X.mg x = some (.ref f)) (hk : PySem.W.keepIn X.K (.ref f) = true) (hb : Binds X.K fd ps []) (ha : PA X (e :: es) t)
    (hdb : (x == ("__debug__" : Str)) = false) (he : starEach (e :: es) X.env = (false, eval e X.env) :: starEach es X.env) (hpl : (backTo pos (starEach es X.env)).any (·.1) = false) : PE X (.Call (.Name x p) (e :: es) [] pos) (tCallG sp t) :=
  ⟨fun pins s σ H Q I h => wpAny_Call_Name_kw (ld_glob I hg hm (PySem.W.callWith_K (h₀ := X.base) I.ok.mod.kin hk (thn (ha.run pos pins s σ H _ I h) fun us s1 q => by
    obtain ⟨vs, H1, I1, r, q⟩ := q
    exact ⟨I1.kIn, run_g F hr hgd hb I1 r q⟩) he hpl) hdb)⟩
end
section
variable {X : Cx} {C : Ct} {g g' : Gm} {e : Expr} {es : List Expr} {pos p : Pos} {Q : Av → Gm → Prop} {QL : List PyData → Gm → Prop} {x : Str}
theorem ee_callG {k n : Nat} {T : Tb} {S : Con} (c : CalG X x k (spG X.K T n S)) (hT : C.T = T) (hr : Room k X.A) (hgd : X.A.guards = some []) (n1 : Gn X x) (h : EA X C (e :: es) g fun xs g1 => xs.length = n ∧ ∃ as r, CvA g1 xs as ∧ S as r ∧ Q (.d r) g1)
    (he : starEach (e :: es) X.env = (false, eval e X.env) :: starEach es X.env := by rfl) (hpl : (backTo pos (starEach es X.env)).any (·.1) = false := by rfl) : EE X C (.Call (.Name x p) (e :: es) [] pos) g Q := by
  subst hT
  obtain ⟨f, fd, ps, F, m, kp, B⟩ := c.ex
  refine EE.of (pe_callG F hr hgd n1.gl m kp B pa_t n1.d1 he hpl) fun σ H Z I P p => ?_
  refine h σ H Z I _ fun vs H1 Z1 xs g1 I1 s1 a1 q1 => ?_
  obtain ⟨hl, as, r, cv, hS, q⟩ := q1
  refine ⟨a1.length.trans hl, I1.tb, Z1, as, r, I1.fz, fun p hp => I1.zt hp, cv.run a1, hS, fun v H' Z' h0 h1 h2 h3 h4 h5 => ?_⟩
  exact p v H' Z' (.d r) g1 (I1.growT h0 h1 h2 h3 h4) (s1.trans h2) h5 q
theorem en_callG {k n : Nat} {T : Tb} {S : List Ar → List PyData → Prop} (c : CalG X x k (spGN X.K T n S)) (hT : C.T = T) (hr : Room k X.A) (hgd : X.A.guards = some []) (n1 : Gn X x) (h : EA X C (e :: es) g fun xs g1 => xs.length = n ∧ ∃ as r, CvA g1 xs as ∧ S as r ∧ QL r g1)
    (he : starEach (e :: es) X.env = (false, eval e X.env) :: starEach es X.env := by rfl) (hpl : (backTo pos (starEach es X.env)).any (·.1) = false := by rfl) : EN X C (.Call (.Name x p) (e :: es) [] pos) g QL := by
  subst hT
  obtain ⟨f, fd, ps, F, m, kp, B⟩ := c.ex
  refine EN.of (pe_callG F hr hgd n1.gl m kp B pa_t n1.d1 he hpl) fun σ H Z I P p => ?_
  refine h σ H Z I _ fun vs H1 Z1 xs g1 I1 s1 a1 q1 => ?_
  obtain ⟨hl, as, r, cv, hS, q⟩ := q1
  refine ⟨a1.length.trans hl, I1.tb, Z1, as, r, I1.fz, fun p hp => I1.zt hp, cv.run a1, hS, fun t H' Z' xs h0 h1 h2 h3 h4 h5 h6 h7 h8 => ?_⟩
  obtain ⟨m1, m2, m3⟩ := I1.new h5
  exact p t H' Z' r g1 (I1.growT h0 h1 h2 h3 h4) (s1.trans h2) ⟨⟨xs, h6, h8⟩, h7, m2, m3⟩ q
theorem ee_callGM {k n : Nat} {T : Tb} {S : ConM} (c : CalG X x k (spGM X.K T n S)) (hT : C.T = T) (hr : Room k X.A) (hgd : X.A.guards = some []) (n1 : Gn X x) (h : EA X C (e :: es) g fun xs g1 => xs.length = n ∧ ∃ j w ds rest as r ds' g2, xs = .o j :: rest ∧ CvA g1 rest as ∧ g1[j]? = some (.ls w ds) ∧ S ds as r ds' ∧ SetE g1 j (.ls w ds') g2 ∧ Q (.d r) g2)
    (he : starEach (e :: es) X.env = (false, eval e X.env) :: starEach es X.env := by rfl) (hpl : (backTo pos (starEach es X.env)).any (·.1) = false := by rfl) : EE X C (.Call (.Name x p) (e :: es) [] pos) g Q := by
  subst hT
  obtain ⟨f, fd, ps, F, m, kp, B⟩ := c.ex
  refine EE.of (pe_callG F hr hgd n1.gl m kp B pa_t n1.d1 he hpl) fun σ H Z I P p => ?_
  refine h σ H Z I _ fun vs H1 Z1 xs g1 I1 s1 a1 q1 => ?_
  obtain ⟨hl, j, w, ds, rest, as, r, ds', g2, rfl, cv, hj, hS, hs, q⟩ := q1
  have hlen := a1.length.trans hl
  cases a1 with
  | @cons _ v _ vs' b1 b2 =>
    obtain ⟨a, xs, rfl, o2, o3, o4, o5⟩ := I1.own hj b1
    have aT : a ∉ C.T.map (·.1) := fun m => by
      obtain ⟨p, hp, e2⟩ := List.mem_map.mp m
      obtain ⟨qs, z, _⟩ := I1.tb p hp
      rw [e2, o2] at z; cases z
    refine ⟨hlen, I1.tb, a, vs', Z1, xs, ds, as, r, ds', rfl, o2, o3, I1.fz, fun p hp => I1.zt hp, o4, cv.run b2, hS, fun v H' Z' xs' h0 h1 h2 h3 h4 h5 h6 h7 h8 => ?_⟩
    -- first the heap grows but for a, then a is stored
    have e0 : H' = upd (fun b => if b = a then some (.lst xs) else H' b) a (.lst xs') := by
      funext b
      by_cases z : b = a
      · subst z; rw [upd_same]; exact h2
      · rw [upd_ne z]; simp [z]
    have I2 : Ok X.K C g1 σ (fun b => if b = a then some (.lst xs) else H' b) Z' := by
      refine I1.growT (Tabs.keep h0 fun b o q n => ?_) (fun b o nt q => ?_) h3 (fun b o q => ?_) h6
      · by_cases z : b = a
        · subst z; rw [h2] at q; cases q; exact absurd rfl (n xs')
        · simp only [z, if_false]; exact q
      · by_cases z : b = a
        · subst z; rw [o2] at q; cases q; simp
        · simp only [z, if_false]; exact h1 b o z nt q
      · by_cases z : b = a
        · subst z; rw [h5] at q; cases q
        · simp only [z, if_false]; exact h4 b o q
    have I3 := I2.put hj b1 h7 hs
    rw [← e0] at I3
    exact p v H' Z' (.d r) g2 I3 (s1.trans h3) h8 q
/-- repr(e) -/
theorem ee_repr {k : Nat} (hr : Room k X.A) (hgd : X.A.guards = some []) (n : Bn X "repr") (h : EE X C e g fun x g1 => isDO g1 x = true ∧ Shw (dOf g1 x) ∧ Q (.d (.str (dOf g1 x).shown)) g1) (he : starEach [e] X.env = (false, eval e X.env) :: starEach [] X.env := by rfl) : EE X C (.Call (.Name "repr" p) [e] [] pos) g Q :=
  ee_callB (call_rep hr hgd) n (by decide +kernel) (ea_cons (h.mono fun x g1 q => ea_nil fun σ H Z vs I a P p => by
    obtain ⟨q1, q2, q3⟩ := q
    cases a with
    | cons a1 a2 =>
      cases a2
      exact ⟨_, _, rfl, I.dp a1 q1 q2.lay, q2, p _ H Z (.d (.str _)) g1 I (Same.refl _) (Dd.str _) q3⟩) he) he (by rfl)
end
/-! ### a def of this kind, by its body -/
section
variable {P : Program} {w : World} {K : PySem.W.Frag} {mg : Str → Option Value} {base : Heap} {x : Str} {st : Stmt} {f : Addr} {fd : FuncData} {N ps : List Str} {k n : Nat} {kws : List (Str × V)} {T : Tb}
theorem FnG.of {sp : Sp} (F : FunD K x x (defArgs st) (defBody st) (defScope st) [] kws f fd) (Sc : FnScope N ps (defScope st)) (len : ∀ vs H Q E, sp vs H Q E → vs.length = ps.length)
    (hb : ∀ (X : Cx) (vs : List V) (H : Hp) (Q : VK), X.prog = P → X.w = w → X.K = K → X.mg = mg → X.base = base → PassesOwn (model X.prog X.w) X.A X.env X.xe → CxF X N (defScope st) k → X.A.guards = some [] → sp vs H Q L2.E0 → tSs X (defBody st) { nx := fun _ H' => Q .non H', rt := Q } (L2.start N vs) H) : FnG P w K mg base (k + 1) f fd ps sp := by
  obtain ⟨oc, od, dV, kV, doc, pm, an, cdv, ct, osl, rfl, lk, hcd, hD, hK⟩ := F.ex
  refine ⟨len, fun A outer s H args us vs Q hr hg e0 hbd r hs => ?_⟩
  refine LamX.run_ofS lk hcd Sc hr e0 hbd r (len _ _ _ _ hs) fun hr2 => ⟨_, PSs.nox (pss_t (X := (cxOf L2.CX0 P w K mg base N x (defScope st) f cdv A outer s H L2.E0).nox)), ?_⟩
  exact hb (cxOf L2.CX0 P w K mg base N x (defScope st) f cdv A outer s H L2.E0).nox vs H Q rfl rfl rfl rfl rfl PassesOwn.never ⟨rfl, rfl, rfl, Sc.nd, hr2, fun _ => rfl⟩ hg hs
theorem fn_okG {S : Con} (F : FunD K x x (defArgs st) (defBody st) (defScope st) [] kws f fd) (Sc : FnScope N ps (defScope st)) (hn : ps.length = n)
    (hbody : ∀ (X : Cx), X.prog = P → X.w = w → X.K = K → X.mg = mg → X.base = base → PassesOwn (model X.prog X.w) X.A X.env X.xe → CxF X N (defScope st) k → X.A.guards = some [] → ∀ C as r, S as r → as.length = n → C.W = [] → C.T = T →
      ESs X C (defBody st) (as.map entOf ++ List.replicate (N.length - n) Ent.no) { nx := fun _ => r = .none, rt := Ret r }) : FnG P w K mg base (k + 1) f fd ps (spG K T n S) := by
  refine FnG.of F Sc (fun vs H Q E h => by rw [h.1, hn]) fun X vs H Q e1 e2 e3 e4 e5 hp hF hg h => ?_
  obtain ⟨hl, tb, Z, as, r, hz, zt, ha, hS, q⟩ := h
  subst e3
  have b := hbody X e1 e2 rfl e4 e5 hp hF hg ⟨H, Z, [], T⟩ as r hS (by rw [← ha.length]; exact hl) rfl rfl
  have I := start_ok (N := N) (T := T) ha hz tb zt
  rw [hl] at I
  have fin : ∀ v σ' H' Z' g', Ok X.K ⟨H, Z, [], T⟩ g' σ' H' Z' → Dd X.K Z' v r → Q v H' := fun v σ' H' Z' g' I' hd =>
    q v H' Z' I'.tb (fun a o nt e => I'.fr a o e (by simp) nt) I'.z0 I'.fz I'.nw hd
  refine b _ H Z I _ ⟨fun g' σ' H' Z' I' _ e => ?_, fun y v g' σ' H' Z' I' _ a e => ?_, fun _ _ _ _ _ _ z => z.elim, fun _ _ _ _ _ _ z => z.elim, fun _ _ _ _ _ _ _ _ _ z => z.elim⟩
  · exact fin _ σ' H' Z' g' I' (by rw [e]; exact .non)
  · cases e with
    | d => exact fin v σ' H' Z' g' I' a
    | @o j es _ e1 e2 =>
      subst e2
      have hj := (List.getElem?_eq_some_iff.mp e1).1
      obtain ⟨Z2, I2, s2, d2⟩ := I'.frz e1 a (g' := g'.set j (.im (.list es))) (SetE.mk' hj)
      exact fin v σ' H' Z2 _ I2 d2
end
end AL
/-! The end of a law whose defs know guards and tables. -/
namespace AL
open PySem PySem.Spec L2
open PyProof.Rows hiding St
section
variable {P : Program} {w : World} {K : PySem.W.Frag} {mg mb : Str → Option Value} {a : Addr} {ts : List Addr} {h : Heap} {vs : List Value} {ns : List Int}
abbrev tab0 : Obj := { cls := .none, data := .fields #[] }
abbrev scrO (vs : List Value) : Obj := { cls := .type "list", data := .seq vs.toArray }
/-- what is tracked when the law begins: the empty tables; the script, if it isn't the written part's -/
def hp0 (K : PySem.W.Frag) (ts : List Addr) (a : Addr) (vs : List Value) (ns : List Int) : Hp := fun b =>
  if b ∈ ts then some (.tbl #[]) else if b = a ∧ K.lookup a = none then some (.frz (scrO vs) (.lst (ns.map V.int))) else none
theorem hp0_tab {b : Addr} (hb : b ∈ ts) : hp0 K ts a vs ns b = some (.tbl #[]) := by unfold hp0; rw [if_pos hb]
theorem hp0_cases {b : Addr} : (b ∈ ts ∧ hp0 K ts a vs ns b = some (.tbl #[])) ∨ (b ∉ ts ∧ b = a ∧ K.lookup a = none ∧ hp0 K ts a vs ns b = some (.frz (scrO vs) (.lst (ns.map V.int)))) ∨ (b ∉ ts ∧ (b = a → K.lookup a ≠ none) ∧ hp0 K ts a vs ns b = none) := by
  by_cases h1 : b ∈ ts
  · exact .inl ⟨h1, hp0_tab h1⟩
  · by_cases h2 : b = a ∧ K.lookup a = none
    · exact .inr (.inl ⟨h1, h2.1, h2.2, by unfold hp0; rw [if_neg h1, if_pos h2]⟩)
    · exact .inr (.inr ⟨h1, fun e z => h2 ⟨e, z⟩, by unfold hp0; rw [if_neg h1, if_neg h2]⟩)
variable (hT : ∀ b ∈ ts, h.get? b = some tab0) (ha : h.get? a = some (scrO vs))
include hT ha
theorem scr_free : a ∉ ts := fun m => by
  have e := (hT a m).symm.trans ha
  cases e
theorem hp0_ok (rv : Vals (ns.map V.int) vs) (hl : ns.length ≤ sizeLine) : HOk P w (hp0 K ts a vs ns) h := fun b u e => by
  rcases hp0_cases (K := K) (ts := ts) (a := a) (vs := vs) (ns := ns) (b := b) with ⟨m, z⟩ | ⟨m, z1, z2, z⟩ | ⟨m, _, z⟩ <;> rw [z] at e <;> cases e
  · exact hT b m
  · subst z1
    exact ⟨ha, by rw [List.length_map]; exact hl, vs, _, rv, ha⟩
theorem hp0_scr (KX : K.In h) (rv : Vals (ns.map V.int) vs) (hl : vs.length ≤ sizeLine) : SqL K (hp0 K ts a vs ns) a (ns.map V.int) := by
  have nt := scr_free hT ha
  cases q : K.lookup a with
  | none => exact .inl (.inr ⟨scrO vs, by unfold hp0; rw [if_neg nt, if_pos ⟨rfl, q⟩]⟩)
  | some o =>
    have e := (KX a o q).symm.trans ha
    cases e
    exact .inr ⟨_, vs.toArray, _, q, rfl, rfl, rfl, by rw [List.size_toArray]; exact hl, by simpa using rv⟩
/-- what isn't tracked is in the ground -/
theorem hp0_see {b : Addr} {o : Obj} (e : h.get? b = some o) (n1 : o ≠ tab0) (n2 : o ≠ scrO vs ∨ K.lookup b ≠ none) : (hidT h (hp0 K ts a vs ns)).get? b = some o := by
  refine hidT_get e ?_
  rcases hp0_cases (K := K) (ts := ts) (a := a) (vs := vs) (ns := ns) (b := b) with ⟨m, z⟩ | ⟨m, z1, z2, z⟩ | ⟨m, _, z⟩
  · exact absurd (Option.some.inj ((hT b m).symm.trans e)).symm n1
  · subst z1
    rcases n2 with n2 | n2
    · exact absurd (Option.some.inj (ha.symm.trans e)).symm n2
    · exact absurd z2 n2
  · exact z
theorem hp0_ns {b : Addr} {m : Str → Option Value} (n : h.Ns b m) : (hidT h (hp0 K ts a vs ns)).Ns b m := by
  obtain ⟨o, es, ep, e, d, r⟩ := n
  refine ⟨o, es, ep, hp0_see hT ha e (fun z => ?_) (.inl fun z => ?_), d, r⟩ <;> (rw [z] at d; cases d)
theorem hp0_in (KX : K.In h) (nT : ∀ b ∈ ts, K.lookup b = none) : K.In (hidT h (hp0 K ts a vs ns)) := fun b o e => by
  refine hidT_get (KX b o e) ?_
  rcases hp0_cases (K := K) (ts := ts) (a := a) (vs := vs) (ns := ns) (b := b) with ⟨m, _⟩ | ⟨_, z1, z2, _⟩ | ⟨_, _, z⟩
  · rw [nT b m] at e; cases e
  · rw [z1, z2] at e; cases e
  · exact z
end
/-- the law's call -/
theorem law_callG {P : Program} {w : World} {K : PySem.W.Frag} {mg mb : Str → Option Value} {k : Nat} {fa a : Addr} {cs : List (Addr × Addr)} {fd : FuncData} {x : Str} {sp : Sp} {s : Shared} {vs : List Value} {ns : List Int}
    (KX : K.In s.heap) (gN : s.heap.Ns mainGlobals mg) (bN : s.heap.Ns builtinsNs mb) (bB : ∀ x : Str, x ≠ "__name__" → mb x = bootBuiltins x) (nL : s.heap.NoLimit) (nG : s.gens = #[])
    (hT : ∀ p ∈ cs, s.heap.get? p.2 = some tab0) (nT : ∀ p ∈ cs, K.lookup p.2 = none) (hC : ∀ p ∈ cs, PySem.W.codeHdIn K p.1 p.2 = true)
    (bM : ∃ (bm : Addr) (ob : Obj), mg "__builtins__" = some (.ref bm) ∧ bm ≠ builtinsNs ∧ s.heap.get? bm = some ob ∧ ob.cls = .type "module" ∧ ob.dict = some builtinsNs ∧ ob.data = .plain)
    (ha : s.heap.get? a = some (scrO vs)) (hi : IntsAre vs ns) (hl : ns.length ≤ sizeLine) (hr : Room k callerA)
    (F : ∀ base : Heap, K.In base → base.Ns mainGlobals mg → (∀ p ∈ cs, LamX.TabB base mg p.1 p.2) → FnG P w K mg base k fa fd [x] sp) (hb : ∀ (s : Shared) (u : Value), BindsTo s fd ⟨[u], []⟩ [(x, u)])
    (hs : ∀ H : Hp, (∀ p ∈ cs, H p.2 = some (.tbl #[])) → SqL K H a (ns.map V.int) → sp [.ref a] H (fun v _ => v = .bl true) L2.E0) :
    codeAny (model P w) callerA (.call (.ref fa) ⟨[.ref a], []⟩) (fun r s' => r = .ok (.ret (.bool true)) ∧ OldK s.heap s'.heap ∧ s'.os = s.os ∧ AllBare s'.gens) s := by
  obtain ⟨ts, ets⟩ : ∃ ts : List Addr, ts = cs.map (·.2) := ⟨_, rfl⟩
  have mem : ∀ p ∈ cs, p.2 ∈ ts := fun p hp => by rw [ets]; exact List.mem_map.mpr ⟨p, hp, rfl⟩
  have hT' : ∀ b ∈ ts, s.heap.get? b = some tab0 := fun b m => by
    rw [ets] at m
    obtain ⟨p, hp, e⟩ := List.mem_map.mp m
    rw [← e]; exact hT p hp
  have nT' : ∀ b ∈ ts, K.lookup b = none := fun b m => by
    rw [ets] at m
    obtain ⟨p, hp, e⟩ := List.mem_map.mp m
    rw [← e]; exact nT p hp
  have rv : Vals (ns.map V.int) vs := vals_ints hi
  have lv : vs.length ≤ sizeLine := by rw [hi.length]; exact hl
  obtain ⟨H, eH⟩ : ∃ H : Hp, H = hp0 K ts a vs ns := ⟨_, rfl⟩
  have hok : HOk P w H s.heap := by rw [eH]; exact hp0_ok hT' ha rv hl
  have hsq : SqL K H a (ns.map V.int) := by rw [eH]; exact hp0_scr hT' ha KX rv lv
  have bK : K.In (hidT s.heap H) := by rw [eH]; exact hp0_in hT' ha KX nT'
  have bG : (hidT s.heap H).Ns mainGlobals mg := by rw [eH]; exact hp0_ns hT' ha gN
  have bn : (hidT s.heap H).Ns builtinsNs mb := by rw [eH]; exact hp0_ns hT' ha bN
  have hM : L2.Mod K mg (hidT s.heap H) := ⟨bK, bG, ⟨mb, bn, bB⟩, by
    obtain ⟨m, l1, l2⟩ := nL
    exact ⟨m, by rw [eH]; exact hp0_ns hT' ha l1, l2⟩⟩
  have TB : ∀ p ∈ cs, LamX.TabB (hidT s.heap H) mg p.1 p.2 := fun p hp => by
    have e0 := hT p hp
    obtain ⟨bm, ob, m1, m2, m3, m4, m5, m6⟩ := bM
    have nP : bm ≠ p.2 := fun z => by
      rw [z, e0] at m3; cases m3; cases m6
    have nGl : bm ≠ mainGlobals := fun z => by
      obtain ⟨o, es, ep, e, d, _⟩ := gN
      rw [← z, m3] at e; cases e
      rw [m6] at d; cases d
    refine ⟨PySem.W.codeHd_of_K bK (hC p hp), ⟨bm, ob, m1, m2, nGl, nP, ?_, m4, m5, m6⟩, fun z => ?_⟩
    · rw [eH]
      refine hp0_see hT' ha m3 (fun z => ?_) (.inl fun z => ?_) <;> (rw [z] at m6; cases m6)
    · obtain ⟨o, es, ep, e, d, _⟩ := gN
      rw [z, e0] at e; cases e; cases d
  have E : Env0 P w K mg (hidT s.heap H) callerA [] s H := ⟨rfl, hM, fun b o e => of_hidT e, Nat.le_of_eq (hidT_size _ _), trivial, fun b m => absurd (show b ∈ ([] : List Addr) from m) (by simp), hok, .of_eq nG⟩
  have hH : ∀ p ∈ cs, H p.2 = some (.tbl #[]) := fun p hp => by rw [eH]; exact hp0_tab (mem p hp)
  refine codeAny_mono ((F _ bK bG TB).run callerA [] s H ⟨[.ref a], []⟩ [.ref a] [.ref a] _ hr rfl E (hb s (.ref a)) (.cons rfl .nil) (hs H hH hsq)) fun r s' q => ?_
  match r, q with
  | .error _, q => exact (show False from q).elim
  | .ok .next, q => exact q.elim
  | .ok .brk, q => exact q.elim
  | .ok .cont, q => exact q.elim
  | .ok (.ret u), q =>
    obtain ⟨v, H', os, bare, un, hok', rv', qv⟩ := q
    have qv' : v = .bl true := qv
    subst qv'
    obtain rfl : u = Value.bool true := rv'
    have tabs : ∀ b ∈ ts, ∃ more : Array Value, s'.heap.get? b = some { cls := .none, data := .fields more } := fun b m => by
      obtain ⟨more, z⟩ := un.tbls b #[] (by rw [eH]; exact hp0_tab m)
      exact ⟨_, hok' b _ z⟩
    have rest : ∀ b o, b ∉ ts → s.heap.get? b = some o → s'.heap.get? b = some o := fun b o nb e => by
      rcases hp0_cases (K := K) (ts := ts) (a := a) (vs := vs) (ns := ns) (b := b) with ⟨m, _⟩ | ⟨_, _, _, z⟩ | ⟨_, _, z⟩
      · exact absurd m nb
      · rw [← eH] at z
        have z2 := un.frzs b _ _ z
        have e1 := (hok b _ z).1
        rw [e] at e1; cases e1
        exact (hok' b _ z2).1
      · rw [← eH] at z
        exact un.keep b o e z (by intro m; exact absurd (show b ∈ ([] : List Addr) from m) (by simp)) (by simp)
    refine ⟨rfl, ⟨fun b o e => ?_, fun b o e => ?_⟩, os, bare⟩
    · by_cases m : b ∈ ts
      · have m' := m
        rw [ets] at m'
        obtain ⟨p, hp, ep⟩ := List.mem_map.mp m'
        obtain ⟨more, hm⟩ := tabs b m
        have e0 := hT' b m
        rw [e] at e0; cases e0
        refine .inr (.inl ⟨?_, rfl, #[], more, rfl, by rw [Array.empty_append]; exact hm⟩)
        rw [← ep]
        exact ((PySem.W.codeHd_of_K KX (hC p hp)).tab (hT p hp)).isCodeTable
      · exact .inl (rest b o m e)
    · by_cases m : b ∈ ts
      · obtain ⟨more, hm⟩ := tabs b m
        exact ⟨_, hm⟩
      · exact ⟨o, rest b o m e⟩
/-- the end by the head's facts -/
theorem walk_ofG {l : PySem.W.OpenLaw} {n k : Nat} {q : Program} {loose : List Str} {XP : (Str → Option Value) → Heap → Prop} {YP : World → Heap → Prop} {d : DefRec} {x : Str} (hn : l.most = some n) (hn2 : n ≤ sizeLine) (hdf : d.params.defaults = []) (hr : Room k callerA)
    (F : ∀ (w : World) (mg : Str → Option Value) (fa : Addr) (h : Heap), YP w h → h.Ns mainGlobals mg → mg d.name = some (.ref fa) → ∃ (K : PySem.W.Frag) (fd : FuncData) (cs : List (Addr × Addr)) (sp : Sp), K.In h ∧ (∀ p ∈ cs, h.get? p.2 = some tab0) ∧ (∀ p ∈ cs, K.lookup p.2 = none) ∧ (∀ p ∈ cs, PySem.W.codeHdIn K p.1 p.2 = true) ∧
      (∀ (s : Shared) (u : Value), BindsTo s fd ⟨[u], []⟩ [(x, u)]) ∧ (∀ (H : Hp) (a : Addr) (ns : List Int), ns.length ≤ n → (∀ p ∈ cs, H p.2 = some (.tbl #[])) → SqL K H a (ns.map V.int) → sp [.ref a] H (fun v _ => v = .bl true) L2.E0) ∧
      ∀ base : Heap, K.In base → base.Ns mainGlobals mg → (∀ p ∈ cs, LamX.TabB base mg p.1 p.2) → FnG l.prog w K mg base k fa fd [x] sp) :
    PySem.W.WalkO q loose XP YP l.row.toRowW d [] (fun f vs => PySem.call f vs) := by
  refine Att.attach_callB hn hdf fun w s₀ s₁ mg mb fa o pm cd doc a vs ns G Y ho hd hcd hmg hobj hints hlen hbits hg => ?_
  obtain ⟨K, fd, cs, sp, KX, h1, h2, h3, h4, h5, h6⟩ := F w mg fa _ Y G.T.g hmg
  exact law_callG KX G.T.g G.T.b G.T.builtins G.T.nolimit hg h1 h2 h3 G.T.bmain hobj hints (Nat.le_trans hlen hn2) hr h6 h4 fun H e1 e2 => h5 H a ns hlen e1 e2
/-- the promise of the law's def at its beginning -/
theorem spG_law {K : PySem.W.Frag} {T : Tb} {S : Con} {H : Hp} {a : Addr} {ns : List Int} (hT : ∀ p ∈ T, H p.1 = some (.tbl #[])) (hS : SqL K H a (ns.map V.int)) (hs : S [.d (scr ns)] (.bool true)) : spG K T 1 S [.ref a] H (fun v _ => v = .bl true) L2.E0 := by
  have key : SqL K (fun b => if b ∈ T.map (·.1) then none else H b) a (ns.map V.int) := by
    have nt : ∀ {u}, H a = some u → (∀ ps, u ≠ .tbl ps) → (if a ∈ T.map (·.1) then none else H a) = some u := fun {u} e n => by
      by_cases m : a ∈ T.map (·.1)
      · obtain ⟨p, hp, e2⟩ := List.mem_map.mp m
        have := hT p hp
        rw [e2, e] at this
        exact absurd (Option.some.inj this) (n _)
      · rw [if_neg m]; exact e
    rcases hS with (z | ⟨o, z⟩) | z
    · exact .inl (.inl (nt z fun ps q => by cases q))
    · exact .inl (.inr ⟨o, nt z fun ps q => by cases q⟩)
    · exact .inr z
  refine ⟨rfl, fun p hp => LamX.TabS.nil (hT p hp), _, [.d (scr ns)], .bool true, fun b o e => ?_, fun p hp => ?_, .cons (Dd.scr key) .nil, hs, fun v H' Z' _ _ _ _ _ d => ?_⟩
  · have e' : (if b ∈ T.map (·.1) then none else H b) = some o := e
    split at e'
    · cases e'
    · exact e'
  · show (if p.1 ∈ T.map (·.1) then none else H p.1) = none
    rw [if_pos (List.mem_map.mpr ⟨p, hp, rfl⟩)]
  · cases d; rfl
end AL
/-! A comprehension of two clauses; ranges downward. -/
namespace AL
open PySem PySem.Spec L2
theorem wipe_at {τ : St} {k : Nat} : ∀ {l : List Nat}, k ∈ l → (L2.wipe τ l)[k]? = (if k < τ.length then some none else none)
  | [], h => by simp at h
  | a :: l, h => by
    unfold L2.wipe
    by_cases ka : a = k
    · subst ka
      by_cases kl : a < τ.length
      · rw [List.getElem?_set_self (by rw [wipe_length]; exact kl), if_pos kl]
      · rw [if_neg kl, List.getElem?_eq_none (by simp [wipe_length]; omega)]
    · rw [List.getElem?_set_ne ka]
      exact wipe_at (by simpa [Ne.symm ka] using h)
theorem wipe_same {σ τ : St} {vs : List Nat} (f : ∀ i, i ∉ vs → τ[i]? = (L2.wipe σ vs)[i]?) (l : τ.length = (L2.wipe σ vs).length) : L2.wipe τ vs = L2.wipe σ vs := by
  apply List.ext_getElem?
  intro k
  by_cases hk : k ∈ vs
  · rw [wipe_at hk, wipe_at hk, l, wipe_length]
  · rw [wipe_get hk, wipe_get hk, f k hk, wipe_get hk]
theorem wipe_in {σ : St} {vs vs1 : List Nat} (h : ∀ i ∈ vs1, i ∈ vs) : L2.wipe (L2.wipe σ vs1) vs = L2.wipe σ vs := by
  apply List.ext_getElem?
  intro k
  by_cases hk : k ∈ vs
  · rw [wipe_at hk, wipe_at hk, wipe_length]
  · rw [wipe_get hk, wipe_get hk, wipe_get fun m => hk (h k m)]
def flatR (rs : Nat → List PyData) (i : Nat) : List PyData := (List.range i).flatMap rs
theorem flatR_succ (rs : Nat → List PyData) (i : Nat) : flatR rs (i + 1) = flatR rs i ++ rs i := by unfold flatR; rw [List.range_succ, List.flatMap_append]; simp
theorem flatR_le (rs : Nat → List PyData) {i n : Nat} (h : i ≤ n) : (flatR rs i).length ≤ (flatR rs n).length := by
  induction n with
  | zero => have : i = 0 := by omega
            subst this; exact Nat.le_refl _
  | succ n ih =>
    by_cases e : i = n + 1
    · subst e; exact Nat.le_refl _
    · have := ih (by omega)
      rw [flatR_succ, List.length_append]; omega
section
variable {K : PySem.W.Frag} {C : Ct} {g g' : Gm} {σ : St} {H H' Z Z' : Hp}
/-- the list at D takes one more -/
theorem New.push (I : Ok K C g σ H Z) {D : Addr} {acc : List PyData} (n : New K C g σ H Z D acc) {xs : List V} (hx : H D = some (.lst xs)) (hd : DdA K Z xs acc) {v : V} {d : PyData} (hv : Dd K Z v d) (nW : D ∉ C.W) :
    Ok K C g σ (upd H D (.lst (xs ++ [v]))) Z ∧ New K C g σ (upd H D (.lst (xs ++ [v]))) Z D (acc ++ [d]) := by
  refine ⟨⟨I.ln, fun a o q => ?_, fun a o q hw ht => ?_, I.z0, I.nw, I.b0, I.wz, fun a q => ?_, fun k en q => ?_, I.inj, Tabs.keep I.tb (fun a o q nn => ?_), I.tz, I.injD⟩, ⟨xs ++ [v], upd_same, hd.append (.cons hv .nil)⟩, n.nz, n.n0, n.no⟩
  · rw [upd_ne (ne_of_none q n.nz)]; exact I.fz a o q
  · rw [upd_ne (ne_of_none q n.n0)]; exact I.fr a o q hw ht
  · rw [upd_ne (fun z => nW (by rw [← z]; exact q))]; exact I.wh a q
  · have r := I.ent k en q
    cases en with
    | no => trivial
    | im d => exact r
    | ls w ds2 =>
      obtain ⟨a, ys, f1, f2, f3, f4, f5⟩ := r
      have ne : a ≠ D := fun z => by subst z; exact n.no k w ds2 q f1
      exact ⟨a, ys, f1, by rw [upd_ne ne]; exact f2, f3, f4, f5⟩
    | vl v => exact r
    | dc w ds2 =>
      obtain ⟨a, o, f1, f2, f3, f4, f5, f6⟩ := r
      have ne : a ≠ D := dic_ne f2 hx
      exact ⟨a, o, f1, by rw [upd_ne ne]; exact f2, f3, f4, f5, f6⟩
  · rw [upd_ne (fun z => by subst z; rw [hx] at q; cases q; exact nn _ rfl)]; exact q
/-- a comprehension of two clauses without tests; rs: what each turn of the first gives -/
theorem an_lc2 {wi wi1 : TI} {tg tg1 : TG} {te : TE} {vs vs1 : List Nat} {QL : List PyData → Gm → Prop} (hv : ∀ i ∈ vs1, i ∈ vs) (h : AI K C wi g fun ds g1 => ∃ g2, WipeE g1 vs g2 ∧ ∃ rs : Nat → List PyData, (flatR rs ds.length).length ≤ 1000000 ∧
      (∀ (C' : CtT C) i d, ds[i]? = some d → AGv K C'.1 vs tg (.d d) g2 fun g3 => AI K C'.1 wi1 g3 fun es g4 => ∃ g5, WipeE g4 vs1 g5 ∧ WkE g5 g2 ∧ es.length = (rs i).length ∧
        ∀ (C'' : CtT C) (j : Nat) (e : PyData), es[j]? = some e → AGv K C''.1 vs1 tg1 (.d e) g5 fun g6 => AE K C''.1 te g6 fun x g7 => ∃ d' g8, Frz [x] g7 [d'] g8 ∧ (rs i)[j]? = some d' ∧ WkE g8 g5) ∧
      QL (flatR rs ds.length) g2) : AN K C (tLc2 wi tg tYes wi1 tg1 tYes te vs vs1) g QL := fun σ H Z I P p =>
  h σ H Z I _ fun J H1 Z1 ds g1 I1 s1 w q => by
    obtain ⟨g2, hw, rs, hz, js, je⟩ := q
    obtain ⟨G, Y, wk, wg, wy⟩ := w.ex
    obtain ⟨w1, w2⟩ := hw.wk
    have I2 : Ok K C g2 σ H1 Z1 := I1.weak w1
    intro D hD
    obtain ⟨n1, n2, n3⟩ := I2.new hD
    have nW : D ∉ C.W := fun z => by
      have := I2.wh D z
      rw [hD] at this; cases this
    have nZ0 : C.Z0 D = none := by
      cases q : C.Z0 D with
      | none => rfl
      | some o => have := I2.b0 D o q; rw [n2] at this; cases this
    have nT := I2.nT n2
    -- between the turns of the first clause
    refine ⟨fun i m H => m = ds.length - i ∧ i ≤ ds.length ∧ ∃ Z', Ok K C g2 (L2.wipe σ vs) H Z' ∧ Same Z1 Z' ∧ New K C g2 (L2.wipe σ vs) H Z' D (flatR rs i), ⟨ds.length, by simp, Nat.zero_le _, Z1, (I2.newO hD).wipe w2, Same.refl _, ⟨⟨[], upd_same, .nil⟩, n1, n2, fun j w es e z => ?_⟩⟩, ?_⟩
    · have hj : j ∉ vs := fun hm => by rw [w2 j hm] at e; cases e
      rw [wipe_get hj] at z
      exact n3 j w es e z
    rintro i m H2 ⟨rfl, hi, Z3, I3, s3, nw⟩
    have hG := wg C g2 _ H2 Z3 I3 s3
    by_cases hlt : i < ds.length
    · refine .inr ⟨wk.goes i H2 hlt hG, fun H => i + 1 ≤ ds.length ∧ ∃ Z', Ok K C g2 (L2.wipe σ vs) H Z' ∧ Same Z1 Z' ∧ New K C g2 (L2.wipe σ vs) H Z' D (flatR rs (i + 1)), fun H' p' => ⟨ds.length - (i + 1), by omega, rfl, p'.1, p'.2⟩, fun x H3 y => ?_⟩
      have y := wk.yields i H2 x H3 hlt hG y
      have e : ds[i]? = some ds[i] := List.getElem?_eq_getElem hlt
      obtain ⟨xs, x1, x2⟩ := nw.at_
      have Is := I3.safe nw x1
      obtain ⟨Z4, I4, s4, a4⟩ := wy (C.with D xs) i H2 x H3 g2 _ Z3 _ Is s3 e y
      refine js ⟨C.with D xs, rfl⟩ i _ e _ H3 Z4 x I4 a4 _ fun g5 σ5 H5 Z5 I5 s5 f5 l5 q5 => ?_
      refine ⟨wipe_same f5 l5, ?_⟩
      show wi1 σ5 H5 _
      refine q5 σ5 H5 Z5 I5 _ fun J1 H6 Z6 es g6 I6 s6 v6 q6 => ?_
      obtain ⟨g7, hw7, wk7, hel, js7⟩ := q6
      obtain ⟨G1, Y1, wk1, wg1, wy1⟩ := v6.ex
      obtain ⟨u1, u2⟩ := hw7.wk
      obtain ⟨I7, e1, e2, e3⟩ := I6.unsafe n2 nW nT nZ0
      have I8 : Ok K C g7 σ5 H6 Z6 := I7.weak u1
      have s36 : Same Z3 Z6 := (s4.trans s5).trans s6
      -- between the turns of the second clause
      refine ⟨fun j m H => m = es.length - j ∧ j ≤ es.length ∧ ∃ Z', Ok K C g7 (L2.wipe σ5 vs1) H Z' ∧ Same Z6 Z' ∧ New K C g7 (L2.wipe σ5 vs1) H Z' D (flatR rs i ++ (rs i).take j), ⟨es.length, by simp, Nat.zero_le _, Z6, I8.wipe u2, Same.refl _, ⟨⟨xs, e1, by simpa using x2.mono s36⟩, e2, n2, fun j w es2 ee z => ?_⟩⟩, ?_⟩
      · have hj : j ∉ vs1 := fun hm => by rw [u2 j hm] at ee; cases ee
        rw [wipe_get hj] at z
        rcases u1.get ee with zz | zz
        · cases zz
        · exact e3 j w es2 zz z
      rintro j k H7 ⟨rfl, hj, Z7, J7, s7, nw7⟩
      have hG1 := wg1 C g7 _ H7 Z7 J7 s7
      by_cases hlt1 : j < es.length
      · refine .inr ⟨wk1.goes j H7 hlt1 hG1, fun H => j + 1 ≤ es.length ∧ ∃ Z', Ok K C g7 (L2.wipe σ5 vs1) H Z' ∧ Same Z6 Z' ∧ New K C g7 (L2.wipe σ5 vs1) H Z' D (flatR rs i ++ (rs i).take (j + 1)), fun H' p' => ⟨es.length - (j + 1), by omega, rfl, p'.1, p'.2⟩, fun x1' H8 y1 => ?_⟩
        have y1 := wk1.yields j H7 x1' H8 hlt1 hG1 y1
        have ee : es[j]? = some es[j] := List.getElem?_eq_getElem hlt1
        obtain ⟨zs, z1, z2⟩ := nw7.at_
        have Js := J7.safe nw7 z1
        obtain ⟨Z8, J8, t8, a8⟩ := wy1 (C.with D zs) j H7 x1' H8 g7 _ Z7 _ Js s7 ee y1
        refine js7 ⟨C.with D zs, rfl⟩ j _ ee _ H8 Z8 x1' J8 a8 _ fun g9 σ9 H9 Z9 J9 t9 f9 l9 q9 => ?_
        refine ⟨wipe_same f9 l9, ?_⟩
        show te σ9 H9 _
        refine q9 σ9 H9 Z9 J9 _ fun v Ha Za xa ga Ja ta aa qa => ?_
        obtain ⟨d', gb, fz, hd', wkb⟩ := qa
        obtain ⟨Zb, Jb, tb, rb⟩ := fz.run Ja (.cons aa .nil)
        cases rb with
        | @cons _ _ _ _ rb1 rb2 =>
          cases rb2
          obtain ⟨Jc, c1, c2, c3⟩ := Jb.unsafe n2 nW nT nZ0
          have Jd : Ok K C g7 σ9 Ha Zb := Jc.weak wkb
          have tt : Same Z7 Zb := ((t8.trans t9).trans ta).trans tb
          have Je : Ok K C g7 (L2.wipe σ5 vs1) Ha Zb := by
            have := Jd.wipe u2
            rwa [wipe_same f9 l9] at this
          have nwe : New K C g7 (L2.wipe σ5 vs1) Ha Zb D (flatR rs i ++ (rs i).take j) := ⟨⟨zs, c1, z2.mono tt⟩, c2, n2, fun j2 w2' es2 e2' zz => by
            have hj2 : j2 ∉ vs1 := fun hm => by rw [u2 j2 hm] at e2'; cases e2'
            rw [← wipe_same f9 l9, wipe_get hj2] at zz
            rcases wkb.get e2' with q | q
            · cases q
            · exact c3 j2 w2' es2 q zz⟩
          have pu := nwe.push Je c1 (z2.mono tt) rb1 nW
          have hlen : zs.length < sizeLine := by
            have h1 := z2.length
            have h2 : (flatR rs i ++ (rs i).take j).length < (flatR rs (i + 1)).length := by
              rw [flatR_succ, List.length_append, List.length_append, List.length_take]; omega
            have h3 := flatR_le rs (show i + 1 ≤ ds.length by omega)
            have h4 : (1000000 : Nat) ≤ sizeLine := by decide
            rw [h1]; omega
          refine ⟨zs, c1, hlen, by omega, Zb, pu.1, s7.trans tt, ?_⟩
          have et : (rs i).take (j + 1) = (rs i).take j ++ [d'] := by rw [List.take_add_one, hd']; rfl
          rw [et, ← List.append_assoc]
          exact pu.2
      · have ej : j = es.length := by omega
        subst ej
        refine .inl ⟨wk1.stops H7 hG1, by omega, Z7, ?_, (s3.trans s36).trans s7, ?_⟩
        · have q1 := (J7.weak wk7).wipe w2
          rwa [wipe_in hv, wipe_same f5 l5] at q1
        · obtain ⟨zs, z1, z2⟩ := nw7.at_
          rw [hel, List.take_length, ← flatR_succ] at z2
          refine ⟨⟨zs, z1, z2⟩, nw7.nz, n2, fun j2 w2' es2 e2' zz => ?_⟩
          have hj2 : j2 ∉ vs := fun hm => by rw [w2 j2 hm] at e2'; cases e2'
          rw [wipe_get hj2] at zz
          have hb : (L2.wipe σ5 vs1)[j2]? = some (some (V.ref D)) := by
            rw [wipe_get fun m => hj2 (hv j2 m), f5 j2 hj2, wipe_get hj2]; exact zz
          rcases wk7.get e2' with q | q
          · cases q
          · exact nw7.no j2 w2' es2 q hb
    · have ei : i = ds.length := by omega
      subst ei
      refine .inl ⟨wk.stops H2 hG, ?_⟩
      have I9 := I3.unwipe w2
      refine p D H2 Z3 _ g2 I9 (s1.trans s3) ⟨nw.at_, nw.nz, n2, fun j2 w2' es2 e2' zz => ?_⟩ je
      have hj2 : j2 ∉ vs := fun hm => by rw [w2 j2 hm] at e2'; cases e2'
      exact nw.no j2 w2' es2 e2' (by rw [wipe_get hj2]; exact zz)
end
end AL
namespace AL
open PySem PySem.Spec L2
def uI (X : Cx) (sc : Scope) (tg iter : Expr) : TI := fun σ H R => ∀ s H' Cm cl fp, tI (bk X sc s H' Cm cl fp) tg iter σ H R
section
variable {X : Cx} {C : Ct} {g g' : Gm} {a b c tg iter tg1 iter1 elt : Expr} {pos p p' : Pos} {x : Str} {D : Ae} {QI : List PyData → Gm → Prop}
/-- name = [elt for .. for ..] on one line -/
theorem es_lc2 {N : List Str} {sc scope : Scope} {k i : Nat} (F : CxF X N sc k) (own : List (Str × Nat)) (vs1 : List Nat) (hv : ∀ i ∈ vs1, i ∈ own.map (·.2)) (ok : blkC N sc scope own = true) (hy : (decide (N[i]? = some x) && locB sc x) = true)
    (h : EI X C tg iter g fun ds g1 => ∃ g2, WipeE g1 (own.map (·.2)) g2 ∧ ∃ rs : Nat → List PyData, (flatR rs ds.length).length ≤ 1000000 ∧
      (∀ (C' : CtT C) (i : Nat) (d : PyData), ds[i]? = some d → Bk X scope fun X1 => EGv X1 C'.1 (own.map (·.2)) tg (.d d) g2 fun g3 => Bk X scope fun X2 => EI X2 C'.1 tg1 iter1 g3 fun es g4 => ∃ g5, WipeE g4 vs1 g5 ∧ WkE g5 g2 ∧ es.length = (rs i).length ∧
        ∀ (C'' : CtT C) (j : Nat) (e : PyData), es[j]? = some e → Bk X scope fun X3 => EGv X3 C''.1 vs1 tg1 (.d e) g5 fun g6 => Bk X scope fun X4 => EE X4 C''.1 elt g6 fun x g7 => ∃ d' g8, Frz [x] g7 [d'] g8 ∧ (rs i)[j]? = some d' ∧ WkE g8 g5) ∧
      ∃ g3, SetE g2 i (.im (.list (flatR rs ds.length))) g3 ∧ D.nx g3)
    (hsw : swapsWith (.ListComp elt [⟨tg, iter, [], 0⟩, ⟨tg1, iter1, [], 0⟩] scope pos) (some (.Name x p')) p.line X.env = pure true) (hs : ∀ x, foldedSetIterable iter X.env x = pure x := by intro _; rfl) (hs1 : ∀ env x, foldedSetIterable iter1 env x = pure x := by intro _ _; rfl) :
    ES X C (.Assign [.Name x p'] (.ListComp elt [⟨tg, iter, [], 0⟩, ⟨tg1, iter1, [], 0⟩] scope pos) p) g D := by
  simp only [Bool.and_eq_true, decide_eq_true_eq] at hy
  refine ES.of (ps_setLc2 F.calm (by rw [F.hN]; exact F.nd) (by rw [F.hN]; exact hy.1) (by rw [F.hsc]; exact locB_ok hy.2) hsw pi_t (F.ok ok) hv (g := uG X scope tg) (tt := tYes) (te := uE X scope elt) (wi1 := uI X scope tg1 iter1) (g1 := uG X scope tg1) (tt1 := tYes)
    (fun s H Cm cl fp => ⟨fun pins s1 σ H1 v u Q I r h => h s H Cm cl fp pins s1 u I r⟩) (fun s H Cm cl fp => pts_nil) (fun s H Cm cl fp => ⟨fun pins s1 σ H1 R I h => h s H Cm cl fp pins s1 I⟩) (fun s H Cm cl fp => ⟨fun pins s1 σ H1 v u Q I r h => h s H Cm cl fp pins s1 u I r⟩) (fun s H Cm cl fp => pts_nil) (fun s H Cm cl fp => ⟨fun pins s1 σ H1 Q I h => h s H Cm cl fp pins s1 I⟩) hs hs1) (as_asg (ae_an ?_))
  refine an_lc2 hv fun σ H Z I R pp => h σ H Z I R fun J H' Z' ds g' I' s' w ⟨g2, h1, rs, h2, h3, g3, h4, h5⟩ => pp J H' Z' ds g' I' s' w ⟨g2, h1, rs, h2, fun C' i d e => ?_, ag_d h4 h5⟩
  have t := h3 C' i d e
  intro σ1 H1 Z1 v I1 a1 Q' q' s H2 Cm cl fp
  refine t s H2 Cm cl fp σ1 H1 Z1 v I1 a1 Q' fun g4 σ4 H4 Z4 I4 s4 f4 l4 q4 => q' g4 σ4 H4 Z4 I4 s4 f4 l4 ?_
  intro σ5 H5 Z5 I5 Q5 p5 s H2 Cm cl fp
  refine q4 s H2 Cm cl fp σ5 H5 Z5 I5 Q5 fun J1 H6 Z6 es g6 I6 s6 w6 q6 => p5 J1 H6 Z6 es g6 I6 s6 w6 ?_
  obtain ⟨g7, k1, k2, k3, k4⟩ := q6
  refine ⟨g7, k1, k2, k3, fun C'' j e he => ?_⟩
  have t := k4 C'' j e he
  intro σ1 H1 Z1 v I1 a1 Q' q' s H2 Cm cl fp
  refine t s H2 Cm cl fp σ1 H1 Z1 v I1 a1 Q' fun g4 σ4 H4 Z4 I4 s4 f4 l4 q4 => q' g4 σ4 H4 Z4 I4 s4 f4 l4 ?_
  intro σ7 H7 Z7 I7 Q7 p7 s H2 Cm cl fp
  refine q4 s H2 Cm cl fp σ7 H7 Z7 I7 Q7 fun v H8 Z8 x g8 I8 s8 a8 q8 => p7 v H8 Z8 x g8 I8 s8 a8 ?_
  exact q8
/-- range(a, b, -1) -/
def downD (hi : Int) (n : Nat) : List PyData := (List.range n).map fun (i : Nat) => .int (hi - (i : Nat))
theorem downD_len (hi : Int) (n : Nat) : (downD hi n).length = n := by simp [downD]
theorem downD_get {hi : Int} {n i : Nat} {d : PyData} (h : (downD hi n)[i]? = some d) : i < n ∧ d = .int (hi - (i : Nat)) := by
  simp only [downD, List.getElem?_map, Option.map_eq_some_iff] at h
  obtain ⟨j, h1, h2⟩ := h
  obtain ⟨h4, h5⟩ := List.getElem?_eq_some_iff.mp h1
  simp at h4 h5
  subst h5
  exact ⟨h4, h2.symm⟩
theorem wk_down {K : PySem.W.Frag} {Z1 : Hp} {hi : Int} {n : Nat} : Wk K Z1 (Itc hi (-1) n) (downD hi n) := by
  refine ⟨fun _ => True, YFn fun i => .int (hi + (i : Nat) * (-1)), ?_, fun _ _ _ _ _ _ _ => trivial, fun _ i H x H' g σ Z d I s e y => ?_⟩
  · rw [downD_len]; exact walk_rangeC
  · obtain ⟨rfl, rfl⟩ := y
    obtain ⟨_, rfl⟩ := downD_get e
    have z : hi + (i : Nat) * (-1 : Int) = hi - (i : Nat) := by omega
    exact ⟨Z, I, Same.refl _, by show Dd K Z (.int (hi + (i : Nat) * (-1 : Int))) _; rw [z]; exact .int _⟩
theorem ei_down (n : Bn X "range") (h : EE X C a g fun x g1 => EE X C b g1 fun y g2 => EE X C c g2 fun z g3 => ∃ i j, x = .d (.int i) ∧ y = .d (.int j) ∧ z = .d (.int (-1)) ∧ (-(2 ^ 62) ≤ i ∧ i < 2 ^ 62 ∧ -(2 ^ 62) ≤ j ∧ j < 2 ^ 62) ∧ QI (downD i (i - j).toNat) g3)
    (he : starEach [a, b, c] X.env = (false, eval a X.env) :: starEach [b, c] X.env := by rfl) (he2 : starEach [b, c] X.env = (false, eval b X.env) :: starEach [c] X.env := by rfl) (he3 : starEach [c] X.env = (false, eval c X.env) :: starEach [] X.env := by rfl) (hpl : (backTo pos (starEach [b, c] X.env)).any (·.1) = false := by rfl) : EI X C tg (.Call (.Name "range" p) [a, b, c] [] pos) g QI :=
  EI.of (pi_range3 n.gl n.mg pa_t he hpl) fun σ H Z I R p =>
    (show EA X C [a, b, c] g (fun xs g3 => ∃ i j, xs = [.d (.int i), .d (.int j), .d (.int (-1))] ∧ (-(2 ^ 62) ≤ i ∧ i < 2 ^ 62 ∧ -(2 ^ 62) ≤ j ∧ j < 2 ^ 62) ∧ QI (downD i (i - j).toNat) g3) from
      ea_cons (h.mono fun x g1 h1 => ea_cons (h1.mono fun y g2 h2 => ea_cons (h2.mono fun z g3 ⟨i, j, e1, e2, e3, h3, q⟩ => ea_nil ⟨i, j, by rw [e1, e2, e3], h3, q⟩) he3) he2) he) σ H Z I _ fun vs H1 Z1 xs g1 I1 s1 a1 q1 => by
      obtain ⟨i, j, rfl, ⟨b1, b2, b3, b4⟩, q⟩ := q1
      cases a1 with
      | cons a2 a3 =>
        cases a3 with
        | cons a4 a5 =>
          cases a5 with
          | cons a6 a7 =>
            cases a7; cases a6; cases a4; cases a2
            exact ⟨i, j, -1, _, rfl, RgC.neg b1 b2 b3 b4, p _ H1 Z1 _ g1 I1 s1 wk_down q⟩
theorem lf_down {x y z : Av} {i j : Int} {φ : Int → Int → Prop} (hx : x = .d (.int i)) (hy : y = .d (.int j)) (hz : z = .d (.int (-1))) (b : -(2 ^ 62) ≤ i ∧ i < 2 ^ 62 ∧ -(2 ^ 62) ≤ j ∧ j < 2 ^ 62) (q : φ i j) : ∃ i j, x = .d (.int i) ∧ y = .d (.int j) ∧ z = .d (.int (-1)) ∧ (-(2 ^ 62) ≤ i ∧ i < 2 ^ 62 ∧ -(2 ^ 62) ≤ j ∧ j < 2 ^ 62) ∧ φ i j := ⟨i, j, hx, hy, hz, b, q⟩
end
section
variable {X : Cx} {scope : Scope} {s : Shared} {H : Hp} {Cm : Addr} {cl : List (Str × Addr)} {fp : List Addr} {x : Str} {k : Nat} {sp : Sp}
theorem calGB (c : CalG X x k sp) : CalG (bk X scope s H Cm cl fp) x k sp := c
theorem guardB (c : X.A.guards = some []) : (bk X scope s H Cm cl fp).A.guards = some [] := c
end
end AL
/-! x in xs, x not in xs, data of any depth. -/
namespace AL
open PySem PySem.Spec L2
def rInD (K : PySem.W.Frag) (neg : Bool) : R2 := fun x y H Q => ∃ d ds, Dp K H x d ∧ (Dp K H y (.list ds) ∨ Dp K H y (.tuple ds)) ∧ SeqAt.shaped d = true ∧ PyData.canLayAll0 ds = true ∧ Q (.bl (if neg then !(ds.any fun z => PyData.eqv z d) else ds.any fun z => PyData.eqv z d)) H
abbrev rInA (K : PySem.W.Frag) (neg : Bool) : R2 := fun x y H Q => rIn K neg x y H Q ∨ rInD K neg x y H Q
theorem op_inDT {X : Cx} (hu : X.A.units + 66 < cLine) : OpR X (compareOp .In) (rInD X.K false) := by
  intro pins s σ H x y v u Q I rx ry h
  obtain ⟨d, ds, hd, he, sd, se, q⟩ := h
  obtain ⟨as, r1⟩ := Dp.reads I d x v hd rx
  have room : X.A.units + 1 + min (PyData.depthAll ds) d.depth < cLine := by have := SeqAt.depth_of_shaped sd; omega
  rcases he with he | he
  · obtain ⟨bs, r2⟩ := Dp.reads I (.list ds) y u he ry
    exact SeqAt.in_list_reads r2 r1 se (SeqAt.canLay_of_shaped sd) room ⟨.bl _, H, I, rfl, q⟩
  · obtain ⟨bs, r2⟩ := Dp.reads I (.tuple ds) y u he ry
    exact SeqAt.in_tuple_reads r2 r1 se (SeqAt.canLay_of_shaped sd) room ⟨.bl _, H, I, rfl, q⟩
theorem op_notInDT {X : Cx} (hu : X.A.units + 66 < cLine) : OpR X (compareOp .NotIn) (rInD X.K true) := by
  intro pins s σ H x y v u Q I rx ry h
  obtain ⟨d, ds, hd, he, sd, se, q⟩ := h
  obtain ⟨as, r1⟩ := Dp.reads I d x v hd rx
  have room : X.A.units + 1 + min (PyData.depthAll ds) d.depth < cLine := by have := SeqAt.depth_of_shaped sd; omega
  rcases he with he | he
  · obtain ⟨bs, r2⟩ := Dp.reads I (.list ds) y u he ry
    exact SeqAt.notIn_list_reads r2 r1 se (SeqAt.canLay_of_shaped sd) room ⟨.bl _, H, I, rfl, q⟩
  · obtain ⟨bs, r2⟩ := Dp.reads I (.tuple ds) y u he ry
    exact SeqAt.notIn_tuple_reads r2 r1 se (SeqAt.canLay_of_shaped sd) room ⟨.bl _, H, I, rfl, q⟩
theorem op_inA {X : Cx} (hu : X.A.units + 66 < cLine) : OpR X (compareOp .In) (rInA X.K false) := by
  intro pins s σ H x y v u Q I rx ry h
  rcases h with h | h
  · exact op_in_seq pins s σ H x y v u Q I rx ry h
  · exact op_inDT hu pins s σ H x y v u Q I rx ry h
theorem op_notInA {X : Cx} (hu : X.A.units + 66 < cLine) : OpR X (compareOp .NotIn) (rInA X.K true) := by
  intro pins s σ H x y v u Q I rx ry h
  rcases h with h | h
  · exact op_notIn_seq pins s σ H x y v u Q I rx ry h
  · exact op_notInDT hu pins s σ H x y v u Q I rx ry h
section
variable {X : Cx} {C : Ct} {g : Gm} {a b : Expr} {pos : Pos} {k : Nat} {Q : Av → Gm → Prop} {QT : Bool → Gm → Prop} {K : PySem.W.Frag}
theorem ee_inA (hr : Room k X.A) (hm : behindInMarks .In b = false) (h : EE X C a g fun x g1 => EE X C b g1 fun y g2 => RA X.K C (rInA X.K false) x y g2 Q) : EE X C (.Compare a [.In] [b] pos) g Q := EE.of (pe_cmpR (op_inA (by have := hr.un; omega)) pe_t pe_t hm) (ae_op h)
theorem ee_notInA (hr : Room k X.A) (hm : behindInMarks .NotIn b = false) (h : EE X C a g fun x g1 => EE X C b g1 fun y g2 => RA X.K C (rInA X.K true) x y g2 Q) : EE X C (.Compare a [.NotIn] [b] pos) g Q := EE.of (pe_cmpR (op_notInA (by have := hr.un; omega)) pe_t pe_t hm) (ae_op h)
theorem et_inA (hr : Room k X.A) (hm : behindInMarks .In b = false) (h : EE X C a g fun x g1 => EE X C b g1 fun y g2 => RA X.K C (rInA X.K false) x y g2 fun z g3 => ∃ i, z = .d (.bool i) ∧ QT i g3) : ET X C (.Compare a [.In] [b] pos) g QT := et_cmpR (op_inA (by have := hr.un; omega)) hm h
theorem et_notInA (hr : Room k X.A) (hm : behindInMarks .NotIn b = false) (h : EE X C a g fun x g1 => EE X C b g1 fun y g2 => RA X.K C (rInA X.K true) x y g2 fun z g3 => ∃ i, z = .d (.bool i) ∧ QT i g3) : ET X C (.Compare a [.NotIn] [b] pos) g QT := et_cmpR (op_notInA (by have := hr.un; omega)) hm h
theorem ra_inA2 {i j k : Int} (q : Q (.d (.bool (decide (i = j ∨ i = k)))) g) : RA K C (rInA K false) (.d (.int i)) (.d (.tuple [.int j, .int k])) g Q := ra_or1 (ra_in2 q)
theorem ra_ninA2 {i j k : Int} (q : Q (.d (.bool (!decide (i = j ∨ i = k)))) g) : RA K C (rInA K true) (.d (.int i)) (.d (.tuple [.int j, .int k])) g Q := ra_or1 (ra_nin2 q)
/-- the container: a list, a tuple, an own list -/
theorem ra_inD {neg : Bool} {x y : Av} {ds : List PyData} (h1 : isDO g x = true) (h2 : KT g y ds) (s1 : SeqAt.shaped (dOf g x) = true) (s2 : PyData.canLayAll0 ds = true) (q : Q (.d (.bool (if neg then !(ds.any fun z => PyData.eqv z (dOf g x)) else ds.any fun z => PyData.eqv z (dOf g x)))) g) : RA K C (rInA K neg) x y g Q :=
  ra_or2 fun σ H Z v w I hx hw P p => by
    have dx := I.dp hx h1 (SeqAt.canLay_of_shaped s1)
    refine ⟨dOf g x, ds, dx, ?_, s1, s2, p _ H Z (.d (.bool _)) g I (Same.refl _) (Dd.bl _) q⟩
    rcases h2 with rfl | rfl | ⟨j, w', rfl, hj⟩
    · exact .inl (Dd.dp I.fz (.list ds) w (by simp [PyData.canLay0, s2]) hw)
    · exact .inr (Dd.dp I.fz (.tuple ds) w (by simp [PyData.canLay0, s2]) hw)
    · obtain ⟨ad, xs, e, o2, o3, o4, o5⟩ := I.own hj hw
      subst e
      exact .inl (.lst (SqL.of o2) (DdA.dp I.fz ds xs s2 o4))
end
/-! ### what may be compared -/
end AL
/-! Equality of data without truth values; what may be compared. -/
namespace AL
open PySem PySem.Spec L2
mutual
/-- no truth value, no dict within -/
def nb : PyData → Bool
  | .bool _ => false
  | .dict _ => false
  | .list ds => nbA ds
  | .tuple ds => nbA ds
  | _ => true
def nbA : List PyData → Bool
  | [] => true
  | d :: ds => nb d && nbA ds
end
mutual
theorem eqv_iff : ∀ (d e : PyData), nb d = true → nb e = true → (PyData.eqv d e = true ↔ d = e)
  | .none, e, _, h => by cases e <;> simp_all [PyData.eqv, nb]
  | .bool b, _, h, _ => by simp [nb] at h
  | .int i, e, _, h => by cases e <;> simp_all [PyData.eqv, nb]
  | .str x, e, _, h => by cases e <;> simp_all [PyData.eqv, nb]
  | .list ds, e, h1, h2 => by
    cases e with
    | list es =>
      have := eqvAll_iff ds es (by simpa [nb] using h1) (by simpa [nb] using h2)
      simp only [PyData.eqv, this, PyData.list.injEq]
    | _ => simp_all [PyData.eqv, nb]
  | .tuple ds, e, h1, h2 => by
    cases e with
    | tuple es =>
      have := eqvAll_iff ds es (by simpa [nb] using h1) (by simpa [nb] using h2)
      simp only [PyData.eqv, this, PyData.tuple.injEq]
    | _ => simp_all [PyData.eqv, nb]
  | .dict _, _, h, _ => by simp [nb] at h
theorem eqvAll_iff : ∀ (ds es : List PyData), nbA ds = true → nbA es = true → (PyData.eqvAll ds es = true ↔ ds = es)
  | [], [], _, _ => by simp [PyData.eqvAll]
  | [], e :: es, _, _ => by simp [PyData.eqvAll]
  | d :: ds, [], _, _ => by simp [PyData.eqvAll]
  | d :: ds, e :: es, h1, h2 => by
    have a : nb d = true ∧ nbA ds = true := by simpa [nbA] using h1
    have b : nb e = true ∧ nbA es = true := by simpa [nbA] using h2
    have i1 := eqv_iff d e a.1 b.1
    have i2 := eqvAll_iff ds es a.2 b.2
    simp only [PyData.eqvAll, Bool.and_eq_true, i1, i2, List.cons.injEq]
end
/-- plain data: it may be compared -/
structure Plain (k : Nat) (d : PyData) : Prop where
  nb : AL.nb d = true
  lay : d.canLay0 = true
  dep : d.depth ≤ k
theorem Plain.shaped {k : Nat} {d : PyData} (h : Plain k d) (hk : k ≤ 64 := by decide) : SeqAt.shaped d = true := by
  unfold SeqAt.shaped
  rw [h.lay, decide_eq_true (Nat.le_trans h.dep hk)]; rfl
theorem Plain.mono {k k' : Nat} {d : PyData} (h : Plain k d) (hk : k ≤ k') : Plain k' d := ⟨h.nb, h.lay, Nat.le_trans h.dep hk⟩
theorem plain_int (i : Int) : Plain 0 (.int i) := ⟨rfl, rfl, Nat.le_refl _⟩
theorem plainA {k : Nat} : ∀ {ds : List PyData}, (∀ d ∈ ds, Plain k d) → nbA ds = true ∧ PyData.canLayAll0 ds = true ∧ PyData.depthAll ds ≤ k
  | [], _ => ⟨rfl, rfl, Nat.zero_le _⟩
  | d :: ds, h => by
    have a := h d (by simp)
    obtain ⟨b1, b2, b3⟩ := plainA (ds := ds) fun e he => h e (by simp [he])
    exact ⟨by simp [nbA, a.nb, b1], by simp [PyData.canLayAll0, a.lay, b2], by simp only [PyData.depthAll]; exact Nat.max_le.mpr ⟨a.dep, b3⟩⟩
theorem plain_list {k : Nat} {ds : List PyData} (h : ∀ d ∈ ds, Plain k d) : Plain (k + 1) (.list ds) := by
  obtain ⟨b1, b2, b3⟩ := plainA h
  exact ⟨by simp [nb, b1], by simp [PyData.canLay0, b2], by simp only [PyData.depth]; omega⟩
theorem plain_tup {k : Nat} {ds : List PyData} (h : ∀ d ∈ ds, Plain k d) : Plain (k + 1) (.tuple ds) := by
  obtain ⟨b1, b2, b3⟩ := plainA h
  exact ⟨by simp [nb, b1], by simp [PyData.canLay0, b2], by simp only [PyData.depth]; omega⟩
theorem plain_two {k : Nat} {d e : PyData} (h : Plain k d) (h2 : Plain k e) : Plain (k + 1) (.tuple [d, e]) := plain_tup fun x hx => by
  simp at hx
  rcases hx with rfl | rfl
  · exact h
  · exact h2
section
variable {C : Ct} {g : Gm} {Q : Av → Gm → Prop} {K : PySem.W.Frag}
theorem ra_eqP {x y : Av} {k : Nat} (h1 : isDO g x = true) (h2 : isDO g y = true) (s1 : Plain k (dOf g x)) (s2 : Plain k (dOf g y)) (hk : k ≤ 64) (q : ∀ b, (b = true ↔ dOf g x = dOf g y) → Q (.d (.bool b)) g) : RA K C (rEqD K) x y g Q :=
  ra_eq h1 h2 (s1.shaped hk) (s2.shaped hk) (q _ (eqv_iff (dOf g x) (dOf g y) s1.nb s2.nb))
/-- x not in (), x in () -/
theorem ra_ninNil {d : PyData} (s1 : SeqAt.shaped d = true) (q : Q (.d (.bool true)) g) : RA K C (rInA K true) (.d d) (.d (.tuple [])) g Q := ra_inD rfl kt_t s1 rfl (by simpa using q)
theorem any_eqv {k : Nat} {ds : List PyData} {d : PyData} (h : ∀ e ∈ ds, Plain k e) (hd : Plain k d) : ((ds.any fun z => PyData.eqv z d) = true) ↔ d ∈ ds := by
  rw [List.any_eq_true]
  constructor
  · rintro ⟨x, h1, h2⟩
    rw [← (eqv_iff x d (h x h1).nb hd.nb).mp h2]; exact h1
  · intro m; exact ⟨d, m, (eqv_iff d d hd.nb hd.nb).mpr rfl⟩
/-- membership of plain data -/
theorem ra_inP {neg : Bool} {k : Nat} {x y : Av} {ds : List PyData} (h1 : isDO g x = true) (h2 : KT g y ds) (s1 : Plain k (dOf g x)) (s2 : ∀ e ∈ ds, Plain k e) (hk : k ≤ 64) (q : ∀ b, (b = true ↔ dOf g x ∈ ds) → Q (.d (.bool (if neg then !b else b))) g) : RA K C (rInA K neg) x y g Q :=
  ra_inD h1 h2 (s1.shaped hk) (plainA s2).2.1 (q _ (any_eqv s2 s1))
end
/-! ### == and != of data or of flat things (texts) -/
abbrev rEqA (K : PySem.W.Frag) : R2 := fun x y H Q => rEqD K x y H Q ∨ rEq x y H Q
abbrev rNeA (K : PySem.W.Frag) : R2 := fun x y H Q => rNeD K x y H Q ∨ rNe x y H Q
theorem op_eqA {X : Cx} {k : Nat} (hr : Room k X.A) : OpR X (compareOp .Eq) (rEqA X.K) := by
  intro pins s σ H x y v u Q I rx ry h
  rcases h with h | h
  · exact op_eqD hr.units pins s σ H x y v u Q I rx ry h
  · exact op_eq pins s σ H x y v u Q I rx ry h
theorem op_neA {X : Cx} {k : Nat} (hr : Room k X.A) : OpR X (compareOp .NotEq) (rNeA X.K) := by
  intro pins s σ H x y v u Q I rx ry h
  rcases h with h | h
  · exact op_neD hr.units pins s σ H x y v u Q I rx ry h
  · exact op_ne pins s σ H x y v u Q I rx ry h
section
variable {X : Cx} {C : Ct} {g : Gm} {a b : Expr} {pos : Pos} {k : Nat} {Q : Av → Gm → Prop} {QT : Bool → Gm → Prop} {K : PySem.W.Frag}
theorem ee_eqA (hr : Room k X.A) (h : EE X C a g fun x g1 => EE X C b g1 fun y g2 => RA X.K C (rEqA X.K) x y g2 Q) : EE X C (.Compare a [.Eq] [b] pos) g Q := EE.of (pe_cmpR (op_eqA hr) pe_t pe_t (nomark _)) (ae_op h)
theorem ee_neA (hr : Room k X.A) (h : EE X C a g fun x g1 => EE X C b g1 fun y g2 => RA X.K C (rNeA X.K) x y g2 Q) : EE X C (.Compare a [.NotEq] [b] pos) g Q := EE.of (pe_cmpR (op_neA hr) pe_t pe_t (nomark _)) (ae_op h)
theorem et_eqA (hr : Room k X.A) (h : EE X C a g fun x g1 => EE X C b g1 fun y g2 => RA X.K C (rEqA X.K) x y g2 fun z g3 => ∃ i, z = .d (.bool i) ∧ QT i g3) : ET X C (.Compare a [.Eq] [b] pos) g QT := et_cmpR (op_eqA hr) (nomark _) h
theorem et_neA (hr : Room k X.A) (h : EE X C a g fun x g1 => EE X C b g1 fun y g2 => RA X.K C (rNeA X.K) x y g2 fun z g3 => ∃ i, z = .d (.bool i) ∧ QT i g3) : ET X C (.Compare a [.NotEq] [b] pos) g QT := et_cmpR (op_neA hr) (nomark _) h
theorem ra_eqS {x y : Str} (q : Q (.d (.bool (decide (x = y)))) g) : RA K C (rEqA K) (.d (.str x)) (.d (.str y)) g Q := ra_or2 fun σ H Z v w I hx hw P p => by
  have a1 : Dd K Z v (.str x) := hx
  have a2 : Dd K Z w (.str y) := hw
  cases a1; cases a2
  refine ⟨rfl, ?_⟩
  have e : decide (V.str x = V.str y) = decide (x = y) := decide_eq_decide.mpr ⟨fun z => by cases z; rfl, fun z => by rw [z]⟩
  rw [e]
  exact p _ H Z (.d (.bool _)) g I (Same.refl _) (Dd.bl _) q
theorem ra_neS {x y : Str} (q : Q (.d (.bool (!decide (x = y)))) g) : RA K C (rNeA K) (.d (.str x)) (.d (.str y)) g Q := ra_or2 fun σ H Z v w I hx hw P p => by
  have a1 : Dd K Z v (.str x) := hx
  have a2 : Dd K Z w (.str y) := hw
  cases a1; cases a2
  refine ⟨rfl, ?_⟩
  have e : decide (V.str x = V.str y) = decide (x = y) := decide_eq_decide.mpr ⟨fun z => by cases z; rfl, fun z => by rw [z]⟩
  rw [e]
  exact p _ H Z (.d (.bool _)) g I (Same.refl _) (Dd.bl _) q
theorem ra_eqStr {x y : Str} (h : x = y) (q : Q (.d (.bool true)) g) : RA K C (rEqA K) (.d (.str x)) (.d (.str y)) g Q := ra_eqS (by rw [decide_eq_true h]; exact q)
theorem ra_neStr {x y : Str} (h : x = y) (q : Q (.d (.bool false)) g) : RA K C (rNeA K) (.d (.str x)) (.d (.str y)) g Q := ra_neS (by rw [decide_eq_true h]; exact q)
end
end AL
/-! Fractions as data; sizes in bits. -/
namespace AL
open PySem PySem.Spec L2

/-- a fraction in lowest terms -/
abbrev fr (q : Rat) : PyData := .tuple [.int q.num, .int q.den]
theorem fr_mk (a b : Int) (h : 0 < b) : (.tuple [.int (a / (Int.gcd a b : Int)), .int (b / (Int.gcd a b : Int))] : PyData) = fr (Rat.divInt a b) := by
  have hs : b.sign = 1 := Int.sign_eq_one_of_pos h
  have e1 : (Rat.divInt a b).num = a / (Int.gcd a b : Int) := by rw [Rat.num_divInt, hs, Int.one_mul, Int.gcd_comm]
  have e2 : ((Rat.divInt a b).den : Int) = b / (Int.gcd a b : Int) := by
    rw [Rat.den_divInt, if_neg (by omega), Int.gcd_comm]
    rw [Int.natCast_ediv]
    congr 1
    omega
  unfold fr
  rw [e1, e2]
theorem fr_lt {p q : Rat} : p.num * (q.den : Int) < q.num * (p.den : Int) ↔ p < q := (Rat.lt_iff p q).symm
theorem di_self (q : Rat) : Rat.divInt q.num q.den = q := Rat.num_divInt_den q
theorem di_add (p q : Rat) : Rat.divInt (p.num * (q.den : Int) + q.num * (p.den : Int)) ((p.den : Int) * (q.den : Int)) = p + q := by
  have h1 : (p.den : Int) ≠ 0 := by have := p.den_nz; omega
  have h2 : (q.den : Int) ≠ 0 := by have := q.den_nz; omega
  rw [← Rat.divInt_add_divInt _ _ h1 h2, di_self, di_self]
theorem di_mul (p q : Rat) : Rat.divInt (p.num * q.num) ((p.den : Int) * (q.den : Int)) = p * q := by
  rw [← Rat.divInt_mul_divInt, di_self, di_self]
theorem di_one (s : Int) : Rat.divInt s 1 = (s : Rat) := by rw [Rat.divInt_eq_div]; show (s : Rat) / ((1 : Int) : Rat) = s; have : ((1 : Int) : Rat) = 1 := rfl; rw [this]; grind
theorem di_cmul (s : Int) (q : Rat) : Rat.divInt (s * q.num) (1 * (q.den : Int)) = (s : Rat) * q := by
  rw [← Rat.divInt_mul_divInt, di_self, di_one]
theorem di_div (q : Rat) (c : Int) : Rat.divInt q.num ((q.den : Int) * c) = q / (c : Rat) := by
  have e : Rat.divInt 1 c = 1 / (c : Rat) := by rw [Rat.divInt_eq_div]; simp
  have := Rat.divInt_mul_divInt q.num 1 (d₁ := (q.den : Int)) (d₂ := c)
  rw [Int.mul_one, di_self, e] at this
  rw [← this, Rat.div_def, Rat.div_def, Rat.one_mul]
/-- of two blocks that touch -/
def mix (s : Int) (t : Rat) (p : Int) (u : Rat) : Rat := ((s : Rat) * t + (p : Rat) * u) / ((s + p : Int) : Rat)

/-! ### sizes -/
def Bt (n : Nat) (a : Int) : Prop := a.natAbs < 2 ^ n
theorem Bt.mono {n m : Nat} {a : Int} (h : Bt n a) (hm : n ≤ m) : Bt m a := Nat.lt_of_lt_of_le h (Nat.pow_le_pow_right (by decide) hm)
theorem Bt.mul {n m : Nat} {a b : Int} (h : Bt n a) (k : Bt m b) : Bt (n + m) (a * b) := wide_lt h k
theorem Bt.add {n : Nat} {a b : Int} (h : Bt n a) (k : Bt n b) : Bt (n + 1) (a + b) := by
  unfold Bt at *
  have := Int.natAbs_add_le a b
  rw [Nat.pow_succ]; omega
theorem Bt.div {n : Nat} {a b : Int} (h : Bt n a) : Bt n (a / b) := Nat.lt_of_le_of_lt (Int.natAbs_ediv_le_natAbs a b) h
theorem Bt.gcd {n : Nat} {a b : Int} (h : Bt n b) (hb : 0 < b) : Bt n (Int.gcd a b : Int) := by
  unfold Bt at *
  have h1 : Int.gcd a b ≤ b.natAbs := Nat.le_of_dvd (by omega) (Int.gcd_dvd_natAbs_right a b)
  omega
theorem bt_cmul {n m : Nat} {i j : Int} (ha : Bt n i) (hb : Bt m j) (h : n + m ≤ 900000 := by decide) : CMulW i j :=
  wide_mul (a := n + 1) (b := m + 1) (Bt.mono ha (Nat.le_succ _)) (Bt.mono hb (Nat.le_succ _)) (by omega) (by omega) (by omega)
theorem bt_cdiv {n : Nat} {i j : Int} (hj : 0 < j) (hb : Bt n j) (h : n ≤ 8999 := by decide) : CDivW i j :=
  wide_div hj (b := n + 1) (Bt.mono hb (Nat.le_succ _)) (by omega) (by omega)
theorem gcd_pos {a b : Int} (h : 0 < b) : (0 : Int) < (Int.gcd a b : Int) := by
  have := Int.gcd_pos_of_ne_zero_right a (show b ≠ 0 by omega)
  omega
def Rb (n : Nat) (q : Rat) : Prop := Bt n q.num ∧ Bt n q.den
theorem Rb.n {n : Nat} {q : Rat} (h : Rb n q) : Bt n q.num := h.1
theorem Rb.d {n : Nat} {q : Rat} (h : Rb n q) : Bt n q.den := h.2
theorem den_pos (q : Rat) : (0 : Int) < (q.den : Int) := by have := q.den_nz; omega
theorem Rb.mono {n m : Nat} {q : Rat} (h : Rb n q) (hm : n ≤ m) : Rb m q := ⟨h.1.mono hm, h.2.mono hm⟩
theorem Rb.di {n : Nat} {a b : Int} (ha : Bt n a) (hb : Bt n b) (h : 0 < b) : Rb n (Rat.divInt a b) := by
  constructor
  · rw [Rat.num_divInt, Int.sign_eq_one_of_pos h, Int.one_mul]
    exact ha.div
  · rw [Rat.den_divInt, if_neg (by omega)]
    unfold Bt at *
    exact Nat.lt_of_le_of_lt (Nat.div_le_self _ _) hb
theorem Rb.add {n m : Nat} {p q : Rat} (h : Rb n p) (k : Rb m q) : Rb (n + m + 1) (p + q) := by
  rw [← di_add]
  have a1 := h.1.mul k.2
  have a2 := k.1.mul h.2
  rw [Nat.add_comm m n] at a2
  exact .di (a1.add a2) ((h.2.mul k.2).mono (by omega)) (Int.mul_pos (den_pos p) (den_pos q))
theorem Rb.cmul {n m : Nat} {s : Int} {q : Rat} (h : Bt n s) (k : Rb m q) : Rb (n + m) ((s : Rat) * q) := by
  rw [← di_cmul]
  exact .di (h.mul k.1) (by rw [Int.one_mul]; exact k.2.mono (by omega)) (by rw [Int.one_mul]; exact den_pos q)
theorem Rb.mix {n m : Nat} {s p : Int} {t u : Rat} (ht : Rb n t) (hu : Rb m u) (hs : 0 < s ∧ s < 128) (hp : 0 < p ∧ p < 128) : Rb (n + m + 23) (mix s t p u) := by
  unfold AL.mix
  have bs : Bt 7 s := by unfold Bt; omega
  have bp : Bt 7 p := by unfold Bt; omega
  have bsp : Bt 8 (s + p) := by unfold Bt; omega
  have h1 := (Rb.cmul bs ht).add (Rb.cmul bp hu)
  rw [← di_div]
  exact .di (h1.1.mono (by omega)) ((h1.2.mul bsp).mono (by omega)) (Int.mul_pos (den_pos _) (by omega))
end AL
/-! States, plans: what the defs compute. -/
namespace AL
open PySem PySem.Spec L2

abbrev Bl := Int × Rat
abbrev blk (b : Bl) : PyData := .tuple [.int b.1, fr b.2]
abbrev stD (L : List Bl) : PyData := .tuple (L.map blk)
def Sz (s : Int) : Prop := 1 ≤ s ∧ s ≤ 99
/-- between -2^n and 2^n -/
def Bd (n : Nat) (q : Rat) : Prop := -((2 ^ n : Int) : Rat) ≤ q ∧ q ≤ ((2 ^ n : Int) : Rat)
theorem two_le {n m : Nat} (h : n ≤ m) : ((2 ^ n : Int) : Rat) ≤ ((2 ^ m : Int) : Rat) := by
  rw [Rat.intCast_le_intCast]
  have : 2 ^ n ≤ 2 ^ m := Nat.pow_le_pow_right (by decide) h
  exact_mod_cast this
theorem Bd.mono {n m : Nat} {q : Rat} (h : Bd n q) (k : n ≤ m) : Bd m q := by
  have := two_le k
  exact ⟨by have := h.1; grind, by have := h.2; grind⟩
theorem Bd.num {n : Nat} {q : Rat} (h : Bd n q) : q.num.natAbs ≤ 2 ^ n * q.den := by
  obtain ⟨h1, h2⟩ := h
  rw [Rat.le_iff] at h1 h2
  have e : ((2 ^ n : Int) : Rat).num = 2 ^ n := rfl
  have e2 : ((2 ^ n : Int) : Rat).den = 1 := rfl
  have e3 : (-((2 ^ n : Int) : Rat)).num = -(2 ^ n) := rfl
  have e4 : (-((2 ^ n : Int) : Rat)).den = 1 := rfl
  rw [e3, e4] at h1
  rw [e, e2] at h2
  have c : ((2 ^ n * q.den : Nat) : Int) = (2 : Int) ^ n * (q.den : Int) := by simp
  have a1 : -(((2 ^ n * q.den : Nat) : Int)) ≤ q.num := by rw [c]; rw [Int.neg_mul] at h1; simpa using h1
  have a2 : q.num ≤ ((2 ^ n * q.den : Nat) : Int) := by rw [c]; simpa using h2
  omega
/-- the denominator divides E, the size is at most 2^n -/
structure Gr (E n : Nat) (q : Rat) : Prop where
  dv : q.den ∣ E
  bd : Bd n q
theorem Gr.rb {E n m : Nat} {q : Rat} (h : Gr E n q) (h0 : 0 < E) (h1 : E < 2 ^ m) : Rb (n + m) q := by
  have hd : q.den ≤ E := Nat.le_of_dvd h0 h.dv
  have hn := h.bd.num
  constructor
  · unfold Bt
    rw [Nat.pow_add]
    exact Nat.lt_of_le_of_lt hn (Nat.mul_lt_mul_of_pos_left (by omega) (Nat.two_pow_pos n))
  · unfold Bt
    rw [Nat.pow_add]
    have h2 := Nat.two_pow_pos n
    have : 2 ^ m ≤ 2 ^ n * 2 ^ m := Nat.le_mul_of_pos_left _ h2
    omega
theorem eq_div_of {x N K : Rat} (hK : K ≠ 0) (h : x * K = N) : x = N / K := by
  rw [Rat.div_def, ← h, Rat.mul_assoc, Rat.mul_inv_cancel _ hK, Rat.mul_one]
theorem mul_den (t : Rat) : t * ((t.den : Int) : Rat) = (t.num : Rat) := by
  have h := Rat.num_divInt_den t
  rw [Rat.divInt_eq_div] at h
  have hd : (((t.den : Int)) : Rat) ≠ 0 := by
    intro z
    have := t.den_nz
    have h2 : ((t.den : Int) : Rat) = ((0 : Int) : Rat) := z
    rw [Rat.intCast_inj] at h2
    omega
  have := Rat.div_mul_cancel (a := (t.num : Rat)) hd
  rw [h] at this; exact this
theorem mul_dvd {t : Rat} {E : Nat} {k : Nat} (h : E = t.den * k) : t * ((E : Int) : Rat) = ((t.num * k : Int) : Rat) := by
  rw [h, Int.natCast_mul, Rat.intCast_mul, ← Rat.mul_assoc, mul_den, Rat.intCast_mul]
theorem mix_gr {E n : Nat} {S s : Int} {t T : Rat} (hS : 0 < S) (hs : 0 < s) (ht : Gr E n t) (hT : Gr E n T) (hE : 0 < E) : Gr (E * (S + s).toNat) n (mix S t s T) := by
  have hc : (0 : Rat) < ((S + s : Int) : Rat) := Rat.intCast_pos.mpr (by omega)
  have hS' : (0 : Rat) < (S : Rat) := Rat.intCast_pos.mpr hS
  have hs' : (0 : Rat) < (s : Rat) := Rat.intCast_pos.mpr hs
  have e : mix S t s T * ((S : Rat) + (s : Rat)) = (S : Rat) * t + (s : Rat) * T := by
    unfold mix
    rw [Rat.intCast_add] at hc ⊢
    rw [Rat.div_def, Rat.mul_assoc, Rat.inv_mul_cancel _ (by grind), Rat.mul_one]
  constructor
  · obtain ⟨k, hk⟩ := ht.dv
    obtain ⟨l, hl⟩ := hT.dv
    have et := mul_dvd hk
    have eT := mul_dvd hl
    have key : mix S t s T = Rat.divInt (S * (t.num * k) + s * (T.num * l)) ((E : Int) * (S + s)) := by
      have hd : (0 : Rat) < (((E : Int) * (S + s) : Int) : Rat) := Rat.intCast_pos.mpr (Int.mul_pos (by omega) (by omega))
      rw [Rat.divInt_eq_div]
      refine eq_div_of (by grind) ?_
      simp only [Rat.intCast_mul, Rat.intCast_add] at et eT ⊢
      rw [← et, ← eT]
      grind
    rw [key, Rat.den_divInt, if_neg (by have := Int.mul_pos (show (0 : Int) < (E : Int) by omega) (show 0 < S + s by omega); omega)]
    have : ((E : Int) * (S + s)).natAbs = E * (S + s).toNat := by rw [Int.natAbs_mul]; congr 1; omega
    rw [this]
    refine Nat.div_dvd_of_dvd ?_
    rw [← this]
    exact Int.gcd_dvd_natAbs_left _ _
  · obtain ⟨a1, a2⟩ := ht.bd
    obtain ⟨b1, b2⟩ := hT.bd
    constructor
    · apply Classical.byContradiction
      intro hn
      have h1 := Rat.mul_pos (a := -((2 ^ n : Int) : Rat) - mix S t s T) (b := (S : Rat) + (s : Rat)) (by grind) (by grind)
      have h2 := Rat.mul_nonneg (a := (S : Rat)) (b := t + ((2 ^ n : Int) : Rat)) (by grind) (by grind)
      have h3 := Rat.mul_nonneg (a := (s : Rat)) (b := T + ((2 ^ n : Int) : Rat)) (by grind) (by grind)
      grind
    · apply Classical.byContradiction
      intro hn
      have h1 := Rat.mul_pos (a := mix S t s T - ((2 ^ n : Int) : Rat)) (b := (S : Rat) + (s : Rat)) (by grind) (by grind)
      have h2 := Rat.mul_nonneg (a := (S : Rat)) (b := ((2 ^ n : Int) : Rat) - t) (by grind) (by grind)
      have h3 := Rat.mul_nonneg (a := (s : Rat)) (b := ((2 ^ n : Int) : Rat) - T) (by grind) (by grind)
      grind
/-- a valid state: a common denominator below 2^n, no temperature beyond 2^n -/
structure OkSt (n : Nat) (L : List Bl) : Prop where
  one : 1 ≤ L.length
  most : L.length ≤ 12
  szs : ∀ b ∈ L, Sz b.1
  cd : ∃ D : Nat, 0 < D ∧ D < 2 ^ n ∧ ∀ b ∈ L, Gr D n b.2
theorem OkSt.mono {n m : Nat} {L : List Bl} (o : OkSt n L) (h : n ≤ m) : OkSt m L := by
  obtain ⟨D, d0, d1, d2⟩ := o.cd
  exact ⟨o.one, o.most, o.szs, D, d0, Nat.lt_of_lt_of_le d1 (Nat.pow_le_pow_right (by decide) h), fun b hb => ⟨(d2 b hb).dv, (d2 b hb).bd.mono h⟩⟩
theorem Sz.i {s : Int} (h : Sz s) : 0 < s ∧ s < 128 := by unfold Sz at h; omega
def siz (L : List Bl) (i : Nat) : Int := (L.getD i (1, 0)).1
def tmp (L : List Bl) (i : Nat) : Rat := (L.getD i (1, 0)).2
theorem getD_eq {L : List Bl} {i : Nat} (h : i < L.length) : L.getD i (1, 0) = L[i] := by simp [h]
theorem at_st {L : List Bl} {i : Nat} (h : i < L.length) : atI (L.map blk) (i : Int) = some (.tuple [.int (siz L i), fr (tmp L i)]) := by
  refine atI_nat ?_
  rw [List.getElem?_map, List.getElem?_eq_getElem h]
  unfold siz tmp
  rw [getD_eq h]; rfl
theorem OkSt.sz {n : Nat} {L : List Bl} (o : OkSt n L) {i : Nat} (h : i < L.length) : Sz (siz L i) := by
  unfold siz; rw [getD_eq h]; exact o.szs _ (List.getElem_mem h)
theorem OkSt.each {n : Nat} {L : List Bl} (o : OkSt n L) : ∀ b ∈ L, Sz b.1 ∧ Rb (2 * n) b.2 := fun b hb => by
  obtain ⟨D, d0, d1, d2⟩ := o.cd
  exact ⟨o.szs b hb, by have := (d2 b hb).rb d0 d1; rwa [← Nat.two_mul] at this⟩
theorem OkSt.rb {n : Nat} {L : List Bl} (o : OkSt n L) {i : Nat} (h : i < L.length) : Rb (2 * n) (tmp L i) := by
  unfold tmp; rw [getD_eq h]; exact (o.each _ (List.getElem_mem h)).2
/-- of blocks with their own bounds -/
theorem OkSt.of_rb {m : Nat} : ∀ {L : List Bl}, 1 ≤ L.length → L.length ≤ 12 → (∀ b ∈ L, Sz b.1 ∧ Rb m b.2) → OkSt (12 * m + 1) L := by
  intro L h1 h12 h
  have key : ∀ M : List Bl, (∀ b ∈ M, Rb m b.2) → ∃ D : Nat, 0 < D ∧ D ≤ 2 ^ (m * M.length) ∧ ∀ b ∈ M, b.2.den ∣ D := by
    intro M
    induction M with
    | nil => intro _; exact ⟨1, by decide, by simp, by simp⟩
    | cons b M ih =>
      intro hM
      obtain ⟨D, d0, d1, d2⟩ := ih fun c hc => hM c (by simp [hc])
      have hb := (hM b (by simp)).2
      unfold Bt at hb
      have hb' : b.2.den < 2 ^ m := by simpa using hb
      refine ⟨b.2.den * D, Nat.mul_pos b.2.den_pos d0, ?_, fun c hc => ?_⟩
      · rw [List.length_cons, Nat.mul_succ, Nat.add_comm, Nat.pow_add]
        exact Nat.mul_le_mul (Nat.le_of_lt hb') d1
      · rcases List.mem_cons.mp hc with rfl | hc
        · exact Nat.dvd_mul_right _ _
        · exact Nat.dvd_trans (d2 c hc) (Nat.dvd_mul_left _ _)
  obtain ⟨D, d0, d1, d2⟩ := key L fun b hb => (h b hb).2
  have hp : 2 ^ (m * L.length) < 2 ^ (12 * m + 1) := Nat.pow_lt_pow_right (by decide) (by
    have : m * L.length ≤ m * 12 := Nat.mul_le_mul_left _ h12
    omega)
  refine ⟨h1, h12, fun b hb => (h b hb).1, D, d0, by omega, fun b hb => ⟨d2 b hb, ?_⟩⟩
  have hn := (h b hb).2.1
  unfold Bt at hn
  have hd := b.2.den_pos
  have hm : (2 : Nat) ^ m ≤ 2 ^ (12 * m + 1) := Nat.pow_le_pow_right (by decide) (by omega)
  have hk : b.2.num.natAbs ≤ 2 ^ (12 * m + 1) * b.2.den := Nat.le_trans (Nat.le_of_lt (Nat.lt_of_lt_of_le hn hm)) (Nat.le_mul_of_pos_right _ hd)
  have c : ((2 ^ (12 * m + 1) * b.2.den : Nat) : Int) = (2 : Int) ^ (12 * m + 1) * (b.2.den : Int) := by simp
  constructor
  · rw [Rat.le_iff]
    show -(2 : Int) ^ (12 * m + 1) * (b.2.den : Int) ≤ b.2.num * ((1 : Nat) : Int)
    rw [Int.neg_mul, ← c]; omega
  · rw [Rat.le_iff]
    show b.2.num * ((1 : Nat) : Int) ≤ (2 : Int) ^ (12 * m + 1) * (b.2.den : Int)
    rw [← c]; omega
/-- which of two temperatures is ahead -/
def ahead (up : Bool) (p q : Rat) : Bool := if up then decide (p < q) else decide (q < p)
/-- a def that tells which of two fractions is ahead -/
def S_ahead (up : Bool) : Con := fun as r => ∃ p q : Rat, as = [.d (fr p), .d (fr q)] ∧ Rb 4400 p ∧ Rb 4400 q ∧ r = .bool (ahead up p q)
def bfr (up : Bool) (L : List Bl) (i j : Nat) : Bool := if tmp L i = tmp L j then decide (i < j) else ahead up (tmp L i) (tmp L j)
def natD (l : List Nat) : List PyData := l.map fun n => .int (n : Nat)
theorem natD_len (l : List Nat) : (natD l).length = l.length := by simp [natD]
/-- the others in order, the first m blocks looked at -/
def ordStep (up : Bool) (L : List Bl) (b : Nat) (l : List Nat) (n : Nat) : List Nat :=
  if n = b then l else l.take (l.filter fun o => bfr up L o n).length ++ n :: l.drop (l.filter fun o => bfr up L o n).length
def ordTo (up : Bool) (L : List Bl) (b : Nat) (m : Nat) : List Nat := (List.range m).foldl (ordStep up L b) []
def ordO (up : Bool) (L : List Bl) (b : Nat) : List Nat := ordTo up L b L.length
/-- the greedy walk over blocks in an order: the temperature, the plan -/
def exStep (up : Bool) (L : List Bl) (b : Nat) (x : Rat × List Nat) (o : Nat) : Rat × List Nat :=
  if ahead up x.1 (tmp L o) then (mix (siz L b) x.1 (siz L o) (tmp L o), x.2 ++ [o]) else x
def exOf (up : Bool) (L : List Bl) (b : Nat) (l : List Nat) : Rat × List Nat := l.foldl (exStep up L b) (tmp L b, [])
def ext (up : Bool) (L : List Bl) (b : Nat) : Rat × List Nat := exOf up L b (ordO up L b)
/-- the state wout the block at r, with the block r in two parts -/
def wout (L : List Bl) (r : Nat) : List Bl := L.take r ++ L.drop (r + 1)
end AL
/-! The laws' own helpers: the pool, what is taken of it. -/
namespace AL
open PySem PySem.Spec L2

/-- the pool: two numbers -/
structure Pl where
  x : Int
  y : Int
structure Pl.Ok (p : Pl) : Prop where
  x0 : 0 ≤ p.x
  y0 : 0 ≤ p.y
  y1 : p.y < 2147483647
abbrev Pl.ds (p : Pl) : List PyData := [.int p.x, .int p.y]
def cellS (ns : List Int) (k : Nat) : Int := if k < ns.length then ((ns.getD k 0).natAbs : Int) else 0
def pool (ns : List Int) (k : Nat) : Pl :=
  let b := (cellS ns k % 2147483629 + 7919 * k * k + 31 * k + 17) * 48271 % 2147483647
  ⟨cellS ns k * (if decide ((10 : Int) ^ 18 ≤ cellS ns k) = true then 1 else 0), b * b % 2147483629⟩
theorem cell_nn (ns : List Int) (k : Nat) : 0 ≤ cellS ns k := by unfold cellS; split <;> omega
theorem pool_ok (ns : List Int) (k : Nat) : (pool ns k).Ok := by
  refine ⟨?_, ?_, ?_⟩
  · refine Int.mul_nonneg (cell_nn ns k) ?_
    split <;> decide
  · exact Int.emod_nonneg _ (by decide)
  · exact Int.lt_trans (Int.emod_lt_of_pos _ (by decide)) (by decide)
/-- take from the pool a number below w -/
def pick (p : Pl) (w : Int) : Int := if 0 < p.x then p.x % w else ((p.y * 48271 + 12345) % 2147483647) * ((p.y * 48271 + 12345) % 2147483647) % 2147483629 / 64 % w
def left (p : Pl) (w : Int) : Pl := if 0 < p.x then ⟨p.x / w, p.y⟩ else ⟨p.x, (p.y * 48271 + 12345) % 2147483647⟩
theorem left_ok {p : Pl} (h : p.Ok) {w : Int} (hw : 0 < w) : (left p w).Ok := by
  unfold left
  split
  · exact ⟨Int.ediv_nonneg h.x0 (by omega), h.y0, h.y1⟩
  · exact ⟨h.x0, Int.emod_nonneg _ (by decide), Int.emod_lt_of_pos _ (by decide)⟩
theorem pick_nn {p : Pl} {w : Int} (hw : 0 < w) : 0 ≤ pick p w := by
  unfold pick; split <;> exact Int.emod_nonneg _ (by omega)
theorem pick_lt {p : Pl} {w : Int} (hw : 0 < w) : pick p w < w := by
  unfold pick; split <;> exact Int.emod_lt_of_pos _ hw
end AL
namespace AL
open PySem PySem.Spec L2
def dn7 (w : Int) : Int := if w = 4 then 2 else if w = 5 then 3 else if w = 6 then 5 else 1
theorem at_dn7 {w : Int} (h0 : 0 ≤ w) (h1 : w < 8) (hn : ¬ w = 0) : atI ([.int 1, .int 1, .int 1, .int 2, .int 3, .int 5, .int 1] : List PyData) (w - 1) = some (.int (dn7 w)) := by
  have h : w = 1 ∨ w = 2 ∨ w = 3 ∨ w = 4 ∨ w = 5 ∨ w = 6 ∨ w = 7 := by omega
  rcases h with rfl | rfl | rfl | rfl | rfl | rfl | rfl <;> rfl
def shareP (p : Pl) : Pl := if pick p 8 = 0 then left (left (left p 8) 2000000000) 6 else left (left p 8) 16
theorem shareP_ok {p : Pl} (h : p.Ok) : (shareP p).Ok := by
  unfold shareP
  split
  · exact left_ok (left_ok (left_ok h (by decide)) (by decide)) (by decide)
  · exact left_ok (left_ok h (by decide)) (by decide)
/-- a drawn size -/
def size4 (a b c d : Int) : Int := if d = 0 then 1 else if d = 1 then 1 + a else if d = 2 then 1 + b else 1 + c
theorem at_size4 {a b c d : Int} (h0 : 0 ≤ d) (h1 : d < 4) : atI ([.int 1, .int (1 + a), .int (1 + b), .int (1 + c)] : List PyData) d = some (.int (size4 a b c d)) := by
  have h : d = 0 ∨ d = 1 ∨ d = 2 ∨ d = 3 := by omega
  rcases h with rfl | rfl | rfl | rfl <;> rfl
def sizeP (p : Pl) : Pl := left (left (left (left p 4) 9) 99) 4
theorem sizeP_ok {p : Pl} (h : p.Ok) : (sizeP p).Ok := left_ok (left_ok (left_ok (left_ok h (by decide)) (by decide)) (by decide)) (by decide)
end AL
/-! What the laws say of states: wout a block, with a block in two parts. -/
namespace AL
open PySem PySem.Spec L2
end AL
/-! One touch as a function of the temperature; the order of the others. -/
namespace AL
open PySem PySem.Spec L2

/-! ### mixing -/
theorem mix_eq {S s : Int} (t T : Rat) (hS : 0 < S) (hs : 0 < s) : mix S t s T * ((S : Rat) + (s : Rat)) = (S : Rat) * t + (s : Rat) * T := by
  have h : (0 : Rat) < ((S + s : Int) : Rat) := Rat.intCast_pos.mpr (by omega)
  unfold mix
  rw [Rat.intCast_add] at h ⊢
  rw [Rat.div_def, Rat.mul_assoc, Rat.inv_mul_cancel _ (by grind), Rat.mul_one]
section
variable {x y S s t u T : Rat}
theorem mx_lt (hS : 0 < S) (hs : 0 < s) (h : x * (S + s) = S * t + s * T) (ht : t < T) : x < T := by
  have h1 : 0 < S * (T - t) := Rat.mul_pos hS (by grind)
  apply Classical.byContradiction
  intro hn
  have h4 : 0 ≤ (x - T) * (S + s) := Rat.mul_nonneg (by grind) (by grind)
  grind
theorem mx_gt (hS : 0 < S) (hs : 0 < s) (h : x * (S + s) = S * t + s * T) (ht : t < T) : t < x := by
  have h1 : 0 < s * (T - t) := Rat.mul_pos hs (by grind)
  apply Classical.byContradiction
  intro hn
  have h4 : 0 ≤ (t - x) * (S + s) := Rat.mul_nonneg (by grind) (by grind)
  grind
theorem mx_lt' (hS : 0 < S) (hs : 0 < s) (h : x * (S + s) = S * t + s * T) (ht : T < t) : T < x := by
  have h1 : 0 < S * (t - T) := Rat.mul_pos hS (by grind)
  apply Classical.byContradiction
  intro hn
  have h4 : 0 ≤ (T - x) * (S + s) := Rat.mul_nonneg (by grind) (by grind)
  grind
theorem mx_gt' (hS : 0 < S) (hs : 0 < s) (h : x * (S + s) = S * t + s * T) (ht : T < t) : x < t := by
  have h1 : 0 < s * (t - T) := Rat.mul_pos hs (by grind)
  apply Classical.byContradiction
  intro hn
  have h4 : 0 ≤ (x - t) * (S + s) := Rat.mul_nonneg (by grind) (by grind)
  grind
theorem mx_mono (hS : 0 < S) (hs : 0 < s) (h : x * (S + s) = S * t + s * T) (k : y * (S + s) = S * u + s * T) (ht : t < u) : x < y := by
  have h1 : 0 < S * (u - t) := Rat.mul_pos hS (by grind)
  apply Classical.byContradiction
  intro hn
  have h4 : 0 ≤ (x - y) * (S + s) := Rat.mul_nonneg (by grind) (by grind)
  grind
end
theorem cast_pos {s : Int} (h : 0 < s) : (0 : Rat) < (s : Rat) := Rat.intCast_pos.mpr h
/-- one touch in the direction -/
def stp (up : Bool) (S : Int) (t : Rat) (s : Int) (T : Rat) : Rat := if ahead up t T then mix S t s T else t
/-- at least as far in the direction -/
def lef (up : Bool) (t u : Rat) : Prop := if up then t ≤ u else u ≤ t
def ltf (up : Bool) (t u : Rat) : Prop := if up then t < u else u < t
theorem lef.refl (up : Bool) (t : Rat) : lef up t t := by unfold lef; split <;> exact Rat.le_refl
theorem lef.trans {up : Bool} {t u v : Rat} (h : lef up t u) (k : lef up u v) : lef up t v := by
  unfold lef at *
  cases up
  · simp at *; exact Rat.le_trans k h
  · simp at *; exact Rat.le_trans h k
theorem lef_of {up : Bool} {t u : Rat} (h : ltf up t u) : lef up t u := by
  unfold ltf lef at *
  cases up <;> simp at * <;> grind
theorem lef_cases {up : Bool} {t u : Rat} (h : lef up t u) : t = u ∨ ltf up t u := by
  unfold ltf lef at *
  cases up <;> simp at * <;> grind
theorem ahead_iff {up : Bool} {t T : Rat} : ahead up t T = true ↔ ltf up t T := by
  unfold ahead ltf
  cases up <;> simp
section
variable {up : Bool} {S s : Int} {t u T : Rat}
theorem stp_yes (h : ltf up t T) : stp up S t s T = mix S t s T := by unfold stp; rw [if_pos (ahead_iff.mpr h)]
theorem stp_no (h : ¬ ltf up t T) : stp up S t s T = t := by unfold stp; rw [if_neg (fun z => h (ahead_iff.mp z))]
theorem mix_between (hS : 0 < S) (hs : 0 < s) (h : ltf up t T) : ltf up t (mix S t s T) ∧ ltf up (mix S t s T) T := by
  have e := mix_eq t T hS hs
  have a := cast_pos hS
  have b := cast_pos hs
  unfold ltf at *
  cases up
  · simp at *; exact ⟨mx_gt' a b e h, mx_lt' a b e h⟩
  · simp at *; exact ⟨mx_gt a b e h, mx_lt a b e h⟩
theorem stp_mono (hS : 0 < S) (hs : 0 < s) (h : ltf up t u) : ltf up (stp up S t s T) (stp up S u s T) := by
  have e1 := mix_eq t T hS hs
  have e2 := mix_eq u T hS hs
  have a := cast_pos hS
  have b := cast_pos hs
  by_cases h1 : ltf up t T
  · rw [stp_yes h1]
    by_cases h2 : ltf up u T
    · rw [stp_yes h2]
      unfold ltf at *
      cases up
      · simp at *; exact mx_mono a b e2 e1 h
      · simp at *; exact mx_mono a b e1 e2 h
    · rw [stp_no h2]
      have := (mix_between hS hs h1).2
      unfold ltf at *
      cases up
      · simp at *; grind
      · simp at *; grind
  · have h2 : ¬ ltf up u T := by
      unfold ltf at *
      cases up
      · simp at *; grind
      · simp at *; grind
    rw [stp_no h1, stp_no h2]; exact h
end
/-! ### a row of touches -/
def Gt (up : Bool) (L : List Bl) (S : Int) (l : List Nat) (t : Rat) : Rat := l.foldl (fun t o => stp up S t (siz L o) (tmp L o)) t
section
variable {up : Bool} {L : List Bl} {S : Int} {t u : Rat}
end

/-! ### the order -/
section
variable {up : Bool} {L : List Bl}
end
/-- of a sorted list, those before a place are a beginning of it -/
theorem filter_take {α : Type} {R : α → α → Prop} {p : α → Bool} (hp : ∀ x y, R x y → p y = true → p x = true) : ∀ {l : List α}, l.Pairwise R → l.take (l.filter p).length = l.filter p ∧ l.drop (l.filter p).length = l.filter (fun x => !p x)
  | [], _ => by simp
  | x :: l, h => by
    rw [List.pairwise_cons] at h
    obtain ⟨h1, h2⟩ := h
    obtain ⟨i1, i2⟩ := filter_take hp h2
    by_cases hx : p x = true
    · rw [List.filter_cons, if_pos hx, List.filter_cons, if_neg (by simp [hx])]
      simp [i1, i2]
    · have e : l.filter p = [] := by
        rw [List.filter_eq_nil_iff]
        intro y hy hpy
        exact hx (hp x y (h1 y hy) hpy)
      have e2 : l.filter (fun x => !p x) = l := by
        rw [List.filter_eq_self]
        intro y hy
        have : ¬ p y = true := fun z => hx (hp x y (h1 y hy) z)
        simp [this]
      rw [List.filter_cons, if_neg hx, e, List.filter_cons, if_pos (by simp [hx]), e2]
      simp
section
variable {up : Bool} {L : List Bl} {b : Nat}
end
end AL
/-! Without a block; with a block in two parts. -/
namespace AL
open PySem PySem.Spec L2
section
variable {up : Bool} {L : List Bl} {r b : Nat}
end
/-! ### two parts -/
section
variable {S s s' u T X Y Y' Z : Rat}
theorem mul_cancel_eq {a b K : Rat} (hK : 0 < K) (h : a * K = b * K) : a = b := by
  apply Classical.byContradiction
  intro hn
  rcases (show a < b ∨ b < a by grind) with h1 | h1
  · have := Rat.mul_pos (a := b - a) (b := K) (by grind) hK
    grind
  · have := Rat.mul_pos (a := a - b) (b := K) (by grind) hK
    grind
end
section
variable {S s s' : Int} {u T : Rat}
theorem ltf_true {t u : Rat} : ltf true t u ↔ t < u := by unfold ltf; simp
end
section
variable {L : List Bl} {r b : Nat} {s : Int}
end
end AL
/-! The order of touches; touches never raise the warmest value; warm and cold exchanged. -/
namespace AL
open PySem PySem.Spec L2

/-! ### rows of pairs -/
def Fp (up : Bool) (S : Int) (ps : List Bl) (t : Rat) : Rat := ps.foldl (fun t p => stp up S t p.1 p.2) t
theorem Fp_app (up : Bool) (S : Int) (p q : List Bl) (t : Rat) : Fp up S (p ++ q) t = Fp up S q (Fp up S p t) := by unfold Fp; rw [List.foldl_append]
def prs (L : List Bl) (l : List Nat) : List Bl := l.map fun o => (siz L o, tmp L o)
def Pos (ps : List Bl) : Prop := ∀ p ∈ ps, 0 < p.1
theorem Fp_mono {up : Bool} {S : Int} (hS : 0 < S) : ∀ {l : List Bl} {t u : Rat}, Pos l → ltf up t u → ltf up (Fp up S l t) (Fp up S l u)
  | [], _, _, _, h => h
  | o :: l, t, u, z, h => Fp_mono (l := l) (t := stp up S t o.1 o.2) (u := stp up S u o.1 o.2) hS (fun q hq => z q (by simp [hq])) (stp_mono hS (z o (by simp)) h)
theorem Fp_monoE {up : Bool} {S : Int} (hS : 0 < S) {l : List Bl} {t u : Rat} (z : Pos l) (h : lef up t u) : lef up (Fp up S l t) (Fp up S l u) := by
  rcases lef_cases h with rfl | h
  · exact lef.refl _ _
  · exact lef_of (Fp_mono hS z h)
/-! ### warm and cold exchanged -/
def ngL (L : List Bl) : List Bl := L.map fun p => (p.1, -p.2)
theorem mix_neg (S : Int) (t : Rat) (s : Int) (T : Rat) : mix S (-t) s (-T) = - mix S t s T := by
  unfold mix
  rw [Rat.div_def, Rat.div_def, ← Rat.neg_mul]
  congr 1
  grind
theorem ngL_get (L : List Bl) (i : Nat) (h : i < L.length) : siz (ngL L) i = siz L i ∧ tmp (ngL L) i = - tmp L i := by
  have h' : i < (ngL L).length := by unfold ngL; rw [List.length_map]; exact h
  unfold siz tmp
  rw [getD_eq h, getD_eq h']
  simp [ngL]
/-! ### the best order is the ascending one -/
section
variable {S a c t A C x y z : Rat}
end
theorem lef_true {t u : Rat} : lef true t u ↔ t ≤ u := by unfold lef; simp
/-! ### a touch of two others -/
section
variable {S a c t A C m x y z w : Rat}
end
theorem mix_le_stp {S s : Int} {t T : Rat} (hS : 0 < S) (hs : 0 < s) : mix S t s T ≤ stp true S t s T := by
  by_cases h : t < T
  · rw [stp_yes (ltf_true.mpr h)]; exact Rat.le_refl
  · rw [stp_no (fun q => h (ltf_true.mp q))]
    rcases (show T < t ∨ T = t by grind) with h1 | h1
    · exact Rat.le_of_lt (mx_gt' (cast_pos hS) (cast_pos hs) (mix_eq t T hS hs) h1)
    · have e := mix_eq t T hS hs
      rw [h1] at e
      have hK : (0 : Rat) < (S : Rat) + (s : Rat) := by have := cast_pos hS; have := cast_pos hs; grind
      have : mix S t s t = t := mul_cancel_eq hK (by rw [e]; grind)
      rw [h1, this]; exact Rat.le_refl
theorem mix_mono {S s : Int} {t u T : Rat} (hS : 0 < S) (hs : 0 < s) (h : t ≤ u) : mix S t s T ≤ mix S u s T := by
  rcases (show t < u ∨ t = u by grind) with h1 | h1
  · exact Rat.le_of_lt (mx_mono (cast_pos hS) (cast_pos hs) (mix_eq t T hS hs) (mix_eq u T hS hs) h1)
  · rw [h1]; exact Rat.le_refl
end AL
/-! A touch never raises the warmest value, never lowers the coldest. -/
namespace AL
open PySem PySem.Spec L2
theorem siz_pos {n : Nat} {L : List Bl} (O : OkSt n L) {b : Nat} (hb : b < L.length) : 0 < siz L b := by have := O.sz hb; unfold Sz at this; omega
/-- the others of b but i, j -/
def rest2 (l : List Nat) (i j : Nat) : List Nat := l.filter fun o => decide (o ≠ i ∧ o ≠ j)
/-- M is L after i and j touched: both have the temperature m -/
structure Tch (L M : List Bl) (i j : Nat) (m : Rat) : Prop where
  len : M.length = L.length
  sz : ∀ x, x < L.length → siz M x = siz L x
  ti : tmp M i = m
  tj : tmp M j = m
  tx : ∀ x, x < L.length → x ≠ i → x ≠ j → tmp M x = tmp L x
theorem Tch.symm {L M : List Bl} {i j : Nat} {m : Rat} (h : Tch L M i j m) : Tch L M j i m := ⟨h.len, h.sz, h.tj, h.ti, fun x a b c => h.tx x a c b⟩
end AL
/-! Touches and sequences of them. -/
namespace AL
open PySem PySem.Spec L2
abbrev tcD (t : Nat × Nat) : PyData := .tuple [.int t.1, .int t.2]
/-- the state after i and j touch -/
def tchS (L : List Bl) (i j : Nat) : List Bl := (List.range L.length).map fun k => (siz L k, if k = i ∨ k = j then mix (siz L i) (tmp L i) (siz L j) (tmp L j) else tmp L k)
theorem tchS_len (L : List Bl) (i j : Nat) : (tchS L i j).length = L.length := by simp [tchS]
theorem tchS_get {L : List Bl} {i j k : Nat} (h : k < L.length) : siz (tchS L i j) k = siz L k ∧ tmp (tchS L i j) k = if k = i ∨ k = j then mix (siz L i) (tmp L i) (siz L j) (tmp L j) else tmp L k := by
  have h' : k < (tchS L i j).length := by rw [tchS_len]; exact h
  have e : (tchS L i j).getD k (1, 0) = (siz L k, if k = i ∨ k = j then mix (siz L i) (tmp L i) (siz L j) (tmp L j) else tmp L k) := by
    rw [getD_eq h']; simp [tchS]
  constructor
  · show ((tchS L i j).getD k (1, 0)).1 = _; rw [e]
  · show ((tchS L i j).getD k (1, 0)).2 = _; rw [e]
theorem tchS_at {L : List Bl} {i j k : Nat} (h : k < L.length) : ((tchS L i j).map blk)[k]? = some (.tuple [.int (siz L k), fr (if k = i ∨ k = j then mix (siz L i) (tmp L i) (siz L j) (tmp L j) else tmp L k)]) := by
  rw [List.getElem?_map]
  unfold tchS
  rw [List.getElem?_map, List.getElem?_range h]
  rfl
theorem blk_at {L : List Bl} {k : Nat} {p : Bl} (h : L[k]? = some p) : k < L.length ∧ p.1 = siz L k ∧ p.2 = tmp L k := by
  obtain ⟨h1, h2⟩ := List.getElem?_eq_some_iff.mp h
  refine ⟨h1, ?_, ?_⟩
  · unfold siz; rw [getD_eq h1, h2]
  · unfold tmp; rw [getD_eq h1, h2]
theorem tchS_ok {n : Nat} {L : List Bl} {i j : Nat} (O : OkSt n L) (hi : i < L.length) (hj : j < L.length) : OkSt (n + 8) (tchS L i j) := by
  obtain ⟨D, d0, d1, d2⟩ := O.cd
  have s1 := O.sz hi
  have s2 := O.sz hj
  unfold Sz at s1 s2
  have gi : Gr D n (tmp L i) := by unfold tmp; rw [getD_eq hi]; exact d2 _ (List.getElem_mem hi)
  have gj : Gr D n (tmp L j) := by unfold tmp; rw [getD_eq hj]; exact d2 _ (List.getElem_mem hj)
  have hc1 : (siz L i + siz L j).toNat < 2 ^ 8 := by
    have : (siz L i + siz L j).toNat ≤ 198 := by omega
    exact Nat.lt_of_le_of_lt this (by decide)
  refine ⟨by rw [tchS_len]; exact O.one, by rw [tchS_len]; exact O.most, fun b hb => ?_, D * (siz L i + siz L j).toNat, Nat.mul_pos d0 (by omega), by rw [Nat.pow_add]; exact Nat.mul_lt_mul'' d1 hc1, fun b hb => ?_⟩
  · obtain ⟨k, hk, rfl⟩ := List.mem_map.mp hb
    exact O.sz (by simpa using hk)
  · obtain ⟨k, hk, rfl⟩ := List.mem_map.mp hb
    have hk' : k < L.length := by simpa using hk
    have gk : Gr D n (tmp L k) := by unfold tmp; rw [getD_eq hk']; exact d2 _ (List.getElem_mem hk')
    have g : Gr (D * (siz L i + siz L j).toNat) n (if k = i ∨ k = j then mix (siz L i) (tmp L i) (siz L j) (tmp L j) else tmp L k) := by
      split
      · exact mix_gr (by omega) (by omega) gi gj d0
      · exact ⟨Nat.dvd_trans gk.dv (Nat.dvd_mul_right _ _), gk.bd⟩
    exact ⟨g.dv, g.bd.mono (by omega)⟩
end AL
namespace AL
open PySem PySem.Spec L2
end AL
namespace AL
open PySem PySem.Spec L2
end AL
/-! Plans; the extreme within a limit. -/
namespace AL
open PySem PySem.Spec L2
/-- induction at the list's end -/
theorem snoc_ind {α : Type} {P : List α → Prop} (h0 : P []) (h1 : ∀ l a, P l → P (l ++ [a])) (l : List α) : P l := by
  have key : ∀ m : List α, P m.reverse := by
    intro m
    induction m with
    | nil => exact h0
    | cons a m ih => rw [List.reverse_cons]; exact h1 _ _ ih
  have := key l.reverse
  rwa [List.reverse_reverse] at this
theorem nodup_len {l : List Nat} {n : Nat} (h : l.Nodup) (k : ∀ x ∈ l, x < n) : l.length ≤ n := by
  have e : l.Perm ((List.range n).filter fun x => decide (x ∈ l)) := (List.perm_ext_iff_of_nodup h (List.nodup_range.filter _)).mpr fun x => by
    rw [List.mem_filter, List.mem_range]
    constructor
    · intro z; exact ⟨k x z, by simpa using z⟩
    · intro z; simpa using z.2
  have h2 := List.length_filter_le (fun x => decide (x ∈ l)) (List.range n)
  rw [← e.length_eq, List.length_range] at h2
  exact h2
/-- the temperature of b after a plan -/
def Pv (L : List Bl) (b : Nat) (p : List Nat) : Rat := p.foldl (fun t o => mix (siz L b) t (siz L o) (tmp L o)) (tmp L b)
theorem Pv_snoc (L : List Bl) (b : Nat) (p : List Nat) (o : Nat) : Pv L b (p ++ [o]) = mix (siz L b) (Pv L b p) (siz L o) (tmp L o) := by unfold Pv; rw [List.foldl_append]; rfl
structure IsPlan (L : List Bl) (b : Nat) (p : List Nat) : Prop where
  nd : p.Nodup
  mem : ∀ o ∈ p, o < L.length ∧ o ≠ b
theorem IsPlan.nil {L : List Bl} {b : Nat} : IsPlan L b [] := ⟨List.nodup_nil, by simp⟩
theorem IsPlan.sub {L : List Bl} {b : Nat} {p q : List Nat} (h : IsPlan L b q) (s : p.Sublist q) : IsPlan L b p := ⟨h.nd.sublist s, fun o ho => h.mem o (s.subset ho)⟩
theorem IsPlan.len {L : List Bl} {b : Nat} {p : List Nat} (h : IsPlan L b p) (hb : b < L.length) : p.length + 1 ≤ L.length := by
  have h2 : (b :: p).Nodup := List.nodup_cons.mpr ⟨fun m => (h.mem b m).2 rfl, h.nd⟩
  have h3 := nodup_len (n := L.length) h2 fun x hx => by
    rcases List.mem_cons.mp hx with rfl | hx
    · exact hb
    · exact (h.mem x hx).1
  simpa using h3
section
variable {L : List Bl} {b n : Nat}
theorem pos_prs (O : OkSt n L) {l : List Nat} (h : ∀ o ∈ l, o < L.length) : Pos (prs L l) := fun p hp => by
  obtain ⟨o, ho, rfl⟩ := List.mem_map.mp hp
  exact siz_pos O (h o ho)
theorem prs_app (l m : List Nat) : prs L (l ++ m) = prs L l ++ prs L m := by simp [prs]
/-- touching always does no better than touching where it is of use -/
theorem Pv_le (O : OkSt n L) (hb : b < L.length) {p : List Nat} (h : ∀ o ∈ p, o < L.length) : Pv L b p ≤ Fp true (siz L b) (prs L p) (tmp L b) := by
  have hS := siz_pos O hb
  induction p using snoc_ind with
  | h0 => exact Rat.le_refl
  | h1 p o ih =>
    have ho := siz_pos O (h o (by simp))
    have ih' := ih fun q hq => h q (by simp [hq])
    rw [Pv_snoc, prs_app, Fp_app]
    show _ ≤ stp true (siz L b) _ (siz L o) (tmp L o)
    exact Rat.le_trans (mix_mono hS ho ih') (mix_le_stp hS ho)
/-! ### the greedy plan -/
end
/-! ### warm and cold -/
theorem ngL_len (L : List Bl) : (ngL L).length = L.length := by simp [ngL]
theorem IsPlan.neg {L : List Bl} {b : Nat} {p : List Nat} : IsPlan (ngL L) b p ↔ IsPlan L b p := by
  constructor <;> intro h <;> refine ⟨h.nd, fun o ho => ?_⟩ <;> have := h.mem o ho <;> rw [ngL_len] at * <;> exact this
end AL
/-! The extreme within a limit: what the def computes is the best of all plans within the limit. -/
namespace AL
open PySem PySem.Spec L2
abbrev Bp := Rat × List Nat
def bAt (bs : List Bp) (j : Nat) : Bp := bs.getD j (0, [])
def ewTry (up : Bool) (L : List Bl) (b : Nat) (a c : Bp) (o : Nat) : Bp :=
  if ahead up a.1 (tmp L o) then (if ahead up c.1 (mix (siz L b) a.1 (siz L o) (tmp L o)) then (mix (siz L b) a.1 (siz L o) (tmp L o), a.2 ++ [o]) else c) else c
def ewNew (up : Bool) (L : List Bl) (b : Nat) (bs : List Bp) (o j : Nat) : Bp := if j = 0 then bAt bs 0 else ewTry up L b (bAt bs (j - 1)) (bAt bs j) o
def ewRow (up : Bool) (L : List Bl) (b : Nat) (bs : List Bp) (o : Nat) : List Bp := (List.range bs.length).map (ewNew up L b bs o)
def ewGrow (many : Int) (bs : List Bp) : List Bp := if (bs.length : Int) ≤ many then bs ++ [bAt bs (bs.length - 1)] else bs
def ewStep (up : Bool) (L : List Bl) (b : Nat) (many : Int) (bs : List Bp) (o : Nat) : List Bp := ewRow up L b (ewGrow many bs) o
def ewOf (up : Bool) (L : List Bl) (b : Nat) (many : Int) (l : List Nat) : List Bp := l.foldl (ewStep up L b many) [(tmp L b, [])]
theorem ewOf_snoc (up : Bool) (L : List Bl) (b : Nat) (many : Int) (l : List Nat) (o : Nat) : ewOf up L b many (l ++ [o]) = ewStep up L b many (ewOf up L b many l) o := by unfold ewOf; rw [List.foldl_append]; rfl
theorem bAt_map {n j : Nat} {f : Nat → Bp} (h : j < n) : bAt ((List.range n).map f) j = f j := by simp [bAt, h]
theorem bAt_app {bs : List Bp} {x : Bp} {j : Nat} : bAt (bs ++ [x]) j = if j < bs.length then bAt bs j else if j = bs.length then x else (0, []) := by
  unfold bAt
  rw [List.getD_eq_getElem?_getD, List.getD_eq_getElem?_getD, List.getElem?_append]
  split
  · rfl
  · split
    · rename_i h h2; rw [h2]; simp
    · rename_i h h2
      rw [List.getElem?_eq_none (by simp; omega)]; rfl
theorem ewGrow_len (many : Int) (bs : List Bp) : (ewGrow many bs).length = if (bs.length : Int) ≤ many then bs.length + 1 else bs.length := by
  unfold ewGrow; split <;> simp
theorem ewStep_len (up : Bool) (L : List Bl) (b : Nat) (many : Int) (bs : List Bp) (o : Nat) : (ewStep up L b many bs o).length = if (bs.length : Int) ≤ many then bs.length + 1 else bs.length := by
  unfold ewStep ewRow; rw [List.length_map, List.length_range, ewGrow_len]
theorem ewOf_len (up : Bool) (L : List Bl) (b : Nat) {many : Int} (hm : 0 ≤ many) (l : List Nat) : (ewOf up L b many l).length = min l.length many.toNat + 1 := by
  induction l using snoc_ind with
  | h0 => simp [ewOf]
  | h1 l o ih =>
    rw [ewOf_snoc, ewStep_len, ih, List.length_append]
    simp only [List.length_cons, List.length_nil]
    split <;> omega
theorem ewTry_ge {up : Bool} {L : List Bl} {b : Nat} {a c : Bp} {o : Nat} : lef up c.1 (ewTry up L b a c o).1 := by
  unfold ewTry
  split
  · split
    · rename_i h; exact lef_of (ahead_iff.mp h)
    · exact lef.refl _ _
  · exact lef.refl _ _
section
variable {L : List Bl} {b n : Nat}
/-- what holds of the best ones, the blocks of l looked at -/
structure EwI (L : List Bl) (b : Nat) (l : List Nat) (bs : List Bp) : Prop where
  at_ : ∀ j, j < bs.length → (bAt bs j).1 = Pv L b (bAt bs j).2 ∧ (bAt bs j).2.Sublist l ∧ (bAt bs j).2.length ≤ j
  top : ∀ j, j < bs.length → ∀ q : List Nat, q.Sublist l → q.length ≤ j → Fp true (siz L b) (prs L q) (tmp L b) ≤ (bAt bs j).1
theorem EwI.mono (O : OkSt n L) (hb : b < L.length) {l : List Nat} (hl : ∀ o ∈ l, o < L.length) {bs : List Bp} (I : EwI L b l bs) {i j : Nat} (hij : i ≤ j) (hj : j < bs.length) : (bAt bs i).1 ≤ (bAt bs j).1 := by
  obtain ⟨h1, h2, h3⟩ := I.at_ i (by omega)
  rw [h1]
  exact Rat.le_trans (Pv_le O hb fun o ho => hl o (h2.subset ho)) (I.top j hj _ h2 (by omega))
theorem sub_snoc {l q : List Nat} {o : Nat} (h : q.Sublist (l ++ [o])) : q.Sublist l ∨ ∃ q', q = q' ++ [o] ∧ q'.Sublist l := by
  obtain ⟨q1, q2, rfl, h1, h2⟩ := List.sublist_append_iff.mp h
  cases h2 with
  | cons _ h2 => cases h2; left; simpa using h1
  | cons_cons _ h2 => cases h2; exact .inr ⟨q1, rfl, h1⟩
theorem EwI.step (O : OkSt n L) (hb : b < L.length) {many : Int} (hm : 0 ≤ many) {l : List Nat} {o : Nat} (hl : ∀ q ∈ l, q < L.length) (ho : o < L.length) (I : EwI L b l (ewOf true L b many l)) : EwI L b (l ++ [o]) (ewOf true L b many (l ++ [o])) := by
  have hS := siz_pos O hb
  have hs := siz_pos O ho
  have hlen := ewOf_len true L b hm l
  rw [ewOf_snoc]
  obtain ⟨bs, ebs⟩ : ∃ bs, bs = ewOf true L b many l := ⟨_, rfl⟩
  rw [← ebs] at I hlen ⊢
  -- the list made longer
  have G : EwI L b l (ewGrow many bs) ∧ (ewGrow many bs).length ≤ l.length + 2 := by
    unfold ewGrow
    split
    · rename_i hg
      have hl0 : bs.length = l.length + 1 := by omega
      refine ⟨⟨fun j hj => ?_, fun j hj q hq hqj => ?_⟩, by simp; omega⟩
      · rw [bAt_app]
        have hj' : j < bs.length + 1 := by simpa using hj
        split
        · exact I.at_ j (by assumption)
        · rw [if_pos (by omega)]
          obtain ⟨a1, a2, a3⟩ := I.at_ (bs.length - 1) (by omega)
          exact ⟨a1, a2, by omega⟩
      · rw [bAt_app]
        have hj' : j < bs.length + 1 := by simpa using hj
        split
        · exact I.top j (by assumption) q hq hqj
        · rw [if_pos (by omega)]
          exact I.top (bs.length - 1) (by omega) q hq (by have := hq.length_le; omega)
    · exact ⟨I, by omega⟩
  obtain ⟨cs, ecs⟩ : ∃ cs, cs = ewGrow many bs := ⟨_, rfl⟩
  unfold ewStep ewRow
  rw [← ecs] at G ⊢
  obtain ⟨G, hcl⟩ := G
  have len : ((List.range cs.length).map (ewNew true L b cs o)).length = cs.length := by simp
  refine ⟨fun j hj => ?_, fun j hj q hq hqj => ?_⟩
  · rw [len] at hj
    rw [bAt_map hj]
    unfold ewNew
    split
    · obtain ⟨a1, a2, a3⟩ := G.at_ 0 (by omega)
      exact ⟨a1, a2.trans (List.sublist_append_left _ _), by omega⟩
    · obtain ⟨a1, a2, a3⟩ := G.at_ j hj
      obtain ⟨c1, c2, c3⟩ := G.at_ (j - 1) (by omega)
      unfold ewTry
      split
      · split
        · exact ⟨by show _ = Pv L b (_ ++ [o]); rw [Pv_snoc, ← c1], c2.append (List.Sublist.refl _), by simp; omega⟩
        · exact ⟨a1, a2.trans (List.sublist_append_left _ _), a3⟩
      · exact ⟨a1, a2.trans (List.sublist_append_left _ _), a3⟩
  · rw [len] at hj
    rw [bAt_map hj]
    have old : (bAt cs j).1 ≤ (ewNew true L b cs o j).1 := by
      unfold ewNew
      split
      · rename_i z; rw [z]; exact Rat.le_refl
      · exact ewTry_ge (up := true)
    rcases sub_snoc hq with hq | ⟨q', rfl, hq2⟩
    · exact Rat.le_trans (G.top j hj q hq hqj) old
    · have hj0 : j ≠ 0 := fun z => by rw [z] at hqj; simp at hqj
      have hq' : q'.length ≤ j - 1 := by have : q'.length + 1 ≤ j := by simpa using hqj
                                         omega
      rw [prs_app, Fp_app]
      show stp true (siz L b) _ (siz L o) (tmp L o) ≤ _
      have t1 := G.top (j - 1) (by omega) q' hq2 hq'
      have pz : Pos (prs L [o]) := pos_prs O (by simpa using ho)
      have t2 : stp true (siz L b) (Fp true (siz L b) (prs L q') (tmp L b)) (siz L o) (tmp L o) ≤ stp true (siz L b) (bAt cs (j - 1)).1 (siz L o) (tmp L o) :=
        lef_true.mp (Fp_monoE (l := prs L [o]) hS pz (lef_true.mpr t1))
      refine Rat.le_trans t2 ?_
      by_cases ha : ltf true (bAt cs (j - 1)).1 (tmp L o)
      · rw [stp_yes ha]
        unfold ewNew
        rw [if_neg hj0]
        unfold ewTry
        rw [if_pos (ahead_iff.mpr ha)]
        split
        · exact Rat.le_refl
        · rename_i hn
          have hn' : ¬ ltf true (bAt cs j).1 (mix (siz L b) (bAt cs (j - 1)).1 (siz L o) (tmp L o)) := fun z => hn (ahead_iff.mpr z)
          have : ¬ (bAt cs j).1 < mix (siz L b) (bAt cs (j - 1)).1 (siz L o) (tmp L o) := hn'
          exact Rat.not_lt.mp this
      · rw [stp_no ha]
        exact Rat.le_trans (G.mono O hb hl (by omega) hj) old
end
/-! ### warm and cold exchanged -/
end AL
/-! Helpers of the laws 31 to 52: drawn heaps, touches, heat moved. -/
namespace AL
open PySem PySem.Spec L2
/-- d is the fraction q -/
def IsFr (d : PyData) (q : Rat) : Prop := d = fr q
theorem isfr_rfl {q : Rat} : IsFr (fr q) q := rfl
theorem isfr_neg {q : Rat} : IsFr (.tuple [.int (0 - q.num), .int (q.den : Int)]) (-q) := by
  show (_ : PyData) = .tuple [.int (-q).num, .int ((-q).den : Int)]
  rw [Rat.neg_num, Rat.neg_den, Int.zero_sub]
/-! ### bounds -/
theorem Rb.neg {n : Nat} {q : Rat} (h : Rb n q) : Rb n (-q) := by
  obtain ⟨h1, h2⟩ := h
  constructor
  · rw [Rat.neg_num]; unfold Bt at *; rwa [Int.natAbs_neg]
  · rw [Rat.neg_den]; exact h2
theorem Rb.mul {n m : Nat} {p q : Rat} (h : Rb n p) (k : Rb m q) : Rb (n + m) (p * q) := by
  rw [← di_mul]
  exact Rb.di (h.1.mul k.1) (h.2.mul k.2) (Int.mul_pos (den_pos p) (den_pos q))
theorem Gr.mono {E F n m : Nat} {q : Rat} (h : Gr E n q) (hE : E ∣ F) (hn : n ≤ m) : Gr F m q := ⟨Nat.dvd_trans h.dv hE, h.bd.mono hn⟩
theorem Gr.neg {E n : Nat} {q : Rat} (h : Gr E n q) : Gr E n (-q) := by
  refine ⟨by rw [Rat.neg_den]; exact h.dv, ?_⟩
  obtain ⟨h1, h2⟩ := h.bd
  constructor <;> grind
theorem den_dvd_of {q : Rat} {E : Nat} {z : Int} (hE : 0 < E) (h : q * ((E : Int) : Rat) = (z : Rat)) : q.den ∣ E := by
  have hE' : (0 : Rat) < ((E : Int) : Rat) := Rat.intCast_pos.mpr (by omega)
  have e : q = Rat.divInt z E := by
    rw [Rat.divInt_eq_div]
    exact eq_div_of (by grind) h
  rw [e, Rat.den_divInt, if_neg (by omega)]
  have : ((E : Int)).natAbs = E := by omega
  rw [this]
  refine Nat.div_dvd_of_dvd ?_
  conv => rhs; rw [← this]
  exact Int.gcd_dvd_natAbs_left _ _
theorem two_add (n : Nat) : ((2 ^ (n + 1) : Int) : Rat) = ((2 ^ n : Int) : Rat) + ((2 ^ n : Int) : Rat) := by
  rw [← Rat.intCast_add]; congr 1
  rw [Int.pow_succ]; omega
theorem Gr.add {E n : Nat} {p q : Rat} (hE : 0 < E) (h : Gr E n p) (k : Gr E n q) : Gr E (n + 1) (p + q) := by
  refine ⟨?_, ?_⟩
  · obtain ⟨a, ha⟩ := h.dv
    obtain ⟨b, hb⟩ := k.dv
    have e1 := mul_dvd ha
    have e2 := mul_dvd hb
    refine den_dvd_of (z := p.num * a + q.num * b) hE ?_
    rw [Rat.intCast_add, ← e1, ← e2]; grind
  · obtain ⟨a1, a2⟩ := h.bd
    obtain ⟨b1, b2⟩ := k.bd
    unfold Bd
    rw [two_add]
    constructor <;> grind
theorem Gr.mul {E F n m : Nat} {p q : Rat} (hE : 0 < E) (hF : 0 < F) (h : Gr E n p) (k : Gr F m q) : Gr (E * F) (n + m) (p * q) := by
  refine ⟨?_, ?_⟩
  · obtain ⟨a, ha⟩ := h.dv
    obtain ⟨b, hb⟩ := k.dv
    have e1 := mul_dvd ha
    have e2 := mul_dvd hb
    refine den_dvd_of (z := (p.num * a) * (q.num * b)) (Nat.mul_pos hE hF) ?_
    rw [Rat.intCast_mul, ← e1, ← e2, Int.natCast_mul, Rat.intCast_mul]; grind
  · obtain ⟨a1, a2⟩ := h.bd
    obtain ⟨b1, b2⟩ := k.bd
    have e : ((2 ^ (n + m) : Int) : Rat) = ((2 ^ n : Int) : Rat) * ((2 ^ m : Int) : Rat) := by
      rw [← Rat.intCast_mul]; congr 1; rw [Int.pow_add]
    unfold Bd
    rw [e]
    generalize ((2 ^ n : Int) : Rat) = A at *
    generalize ((2 ^ m : Int) : Rat) = B at *
    constructor
    · have h1 := Rat.mul_nonneg (a := A - p) (b := B + q) (by grind) (by grind)
      have h2 := Rat.mul_nonneg (a := A + p) (b := B - q) (by grind) (by grind)
      have h3 := Rat.mul_nonneg (a := A + p) (b := B + q) (by grind) (by grind)
      have h4 := Rat.mul_nonneg (a := A - p) (b := B - q) (by grind) (by grind)
      grind
    · have h1 := Rat.mul_nonneg (a := A - p) (b := B + q) (by grind) (by grind)
      have h2 := Rat.mul_nonneg (a := A + p) (b := B - q) (by grind) (by grind)
      grind
theorem Gr.of_rb {m : Nat} {q : Rat} (h : Rb m q) : Gr q.den m q := by
  refine ⟨Nat.dvd_refl _, ?_⟩
  have h1 : q.num.natAbs < 2 ^ m := h.1
  have hd := q.den_pos
  have c : ((2 ^ m * q.den : Nat) : Int) = (2 : Int) ^ m * (q.den : Int) := by simp
  have hk : q.num.natAbs ≤ 2 ^ m * q.den := Nat.le_trans (Nat.le_of_lt h1) (Nat.le_mul_of_pos_right _ hd)
  constructor
  · rw [Rat.le_iff]
    show -(2 : Int) ^ m * (q.den : Int) ≤ q.num * ((1 : Nat) : Int)
    rw [Int.neg_mul, ← c]; omega
  · rw [Rat.le_iff]
    show q.num * ((1 : Nat) : Int) ≤ (2 : Int) ^ m * (q.den : Int)
    rw [← c]; omega
theorem Gr.divi {E n : Nat} {q : Rat} {s : Int} (hE : 0 < E) (hs : 0 < s) (h : Gr E n q) : Gr (E * s.toNat) n (q / (s : Rat)) := by
  have hs' : (0 : Rat) < (s : Rat) := Rat.intCast_pos.mpr hs
  have hs1 : (1 : Rat) ≤ (s : Rat) := by
    have : ((1 : Int) : Rat) ≤ (s : Rat) := Rat.intCast_le_intCast.mpr (by omega)
    simpa using this
  have e : q / (s : Rat) * (s : Rat) = q := Rat.div_mul_cancel (by grind)
  refine ⟨?_, ?_⟩
  · obtain ⟨a, ha⟩ := h.dv
    have e1 := mul_dvd ha
    refine den_dvd_of (z := q.num * a) (Nat.mul_pos hE (by omega)) ?_
    rw [Int.natCast_mul, show ((s.toNat : Nat) : Int) = s by omega, Rat.intCast_mul, ← e1]
    have : q / (s : Rat) * (((E : Int) : Rat) * (s : Rat)) = (q / (s : Rat) * (s : Rat)) * ((E : Int) : Rat) := by grind
    rw [this, e]
  · obtain ⟨a1, a2⟩ := h.bd
    unfold Bd
    generalize q / (s : Rat) = x at *
    generalize ((2 ^ n : Int) : Rat) = A at *
    have hA : 0 ≤ A := by grind
    constructor
    · apply Classical.byContradiction
      intro hn
      have h1 := Rat.mul_pos (a := -A - x) (b := (s : Rat)) (by grind) hs'
      have h2 := Rat.mul_nonneg (a := A) (b := (s : Rat) - 1) hA (by grind)
      grind
    · apply Classical.byContradiction
      intro hn
      have h1 := Rat.mul_pos (a := x - A) (b := (s : Rat)) (by grind) hs'
      have h2 := Rat.mul_nonneg (a := A) (b := (s : Rat) - 1) hA (by grind)
      grind
theorem Gr.di {a b : Int} {n : Nat} (hb : 0 < b) (ha : a.natAbs < 2 ^ n) : Gr b.toNat n (Rat.divInt a b) := by
  have e : Rat.divInt a b = (a : Rat) / (b : Rat) := Rat.divInt_eq_div a b
  have h1 : Gr 1 n (a : Rat) := by
    refine ⟨by rw [Rat.den_intCast]; exact Nat.dvd_refl _, ?_⟩
    have h2 : -((2 : Int) ^ n) ≤ a ∧ a ≤ 2 ^ n := by
      have : ((2 ^ n : Nat) : Int) = 2 ^ n := by simp
      omega
    constructor
    · have := Rat.intCast_le_intCast.mpr h2.1
      rw [Rat.intCast_neg] at this; exact this
    · exact Rat.intCast_le_intCast.mpr h2.2
  have := h1.divi (by decide) hb
  rw [Nat.one_mul] at this
  rw [e]; exact this
/-! ### two places changed -/
theorem getD_set {L : List Bl} {i k : Nat} {x : Bl} (hi : i < L.length) : (L.set i x).getD k (1, 0) = if k = i then x else L.getD k (1, 0) := by
  rw [List.getD_eq_getElem?_getD, List.getD_eq_getElem?_getD]
  by_cases h : k = i
  · subst h; rw [if_pos rfl, List.getElem?_set_self hi]; rfl
  · rw [if_neg h, List.getElem?_set_ne (Ne.symm h)]
/-- new temperatures at i and j -/
def putT (L : List Bl) (i : Nat) (t : Rat) : List Bl := L.set i (siz L i, t)
theorem putT_len (L : List Bl) (i : Nat) (t : Rat) : (putT L i t).length = L.length := by simp [putT]
theorem putT_siz {L : List Bl} {i : Nat} {t : Rat} (hi : i < L.length) (k : Nat) : siz (putT L i t) k = siz L k := by
  unfold siz putT; rw [getD_set hi]; split
  · rename_i h; rw [h]; rfl
  · rfl
theorem putT_tmp {L : List Bl} {i : Nat} {t : Rat} (hi : i < L.length) (k : Nat) : tmp (putT L i t) k = if k = i then t else tmp L k := by
  unfold tmp putT; rw [getD_set hi]; split <;> rfl
theorem bl_ext {L M : List Bl} (hl : L.length = M.length) (h : ∀ k, k < L.length → siz L k = siz M k ∧ tmp L k = tmp M k) : L = M := by
  apply List.ext_getElem hl
  intro k h1 h2
  obtain ⟨e1, e2⟩ := h k h1
  unfold siz at e1; unfold tmp at e2
  rw [getD_eq h1, getD_eq h2] at e1 e2
  exact Prod.ext e1 e2
theorem putT_two {L : List Bl} {i j : Nat} (hi : i < L.length) (hj : j < L.length) : putT (putT L i (mix (siz L i) (tmp L i) (siz L j) (tmp L j))) j (mix (siz L i) (tmp L i) (siz L j) (tmp L j)) = tchS L i j := by
  refine bl_ext (by rw [putT_len, putT_len, tchS_len]) fun k hk => ?_
  have hj' : j < (putT L i (mix (siz L i) (tmp L i) (siz L j) (tmp L j))).length := by rw [putT_len]; exact hj
  rw [putT_len, putT_len] at hk
  obtain ⟨e1, e2⟩ := tchS_get (L := L) (i := i) (j := j) hk
  rw [putT_siz hj', putT_siz hi, putT_tmp hj', putT_tmp hi, e1, e2]
  refine ⟨rfl, ?_⟩
  by_cases h1 : k = j <;> by_cases h2 : k = i <;> simp [h1, h2]
theorem putT_data (L : List Bl) (i : Nat) (t : Rat) : (L.map blk).set i (.tuple [.int (siz L i), fr t]) = (putT L i t).map blk := by
  unfold putT; rw [List.map_set]
end AL
/-! Helpers of the laws 31 to 52: what they compute. -/
namespace AL
open PySem PySem.Spec L2
/-! ### drawn heaps -/
def sizeB (p : Pl) : Int := size4 (pick p 3) (pick (left p 3) 6) (pick (left (left p 3) 6) 99) (pick (left (left (left p 3) 6) 99) 4)
def sizePB (p : Pl) : Pl := left (left (left (left p 3) 6) 99) 4
theorem sizePB_ok {p : Pl} (h : p.Ok) : (sizePB p).Ok := left_ok (left_ok (left_ok (left_ok h (by decide)) (by decide)) (by decide)) (by decide)
theorem sizeB_sz (p : Pl) : Sz (sizeB p) := by
  have a0 := pick_nn (p := p) (w := 3) (by decide)
  have a1 := pick_lt (p := p) (w := 3) (by decide)
  have b0 := pick_nn (p := left p 3) (w := 6) (by decide)
  have b1 := pick_lt (p := left p 3) (w := 6) (by decide)
  have c0 := pick_nn (p := left (left p 3) 6) (w := 99) (by decide)
  have c1 := pick_lt (p := left (left p 3) 6) (w := 99) (by decide)
  unfold sizeB size4 Sz
  split
  · omega
  · split
    · omega
    · split <;> omega
def dn4 (w : Int) : Int := if w = 2 then 2 else if w = 3 then 3 else 1
theorem at_dn4 {w : Int} (h0 : 0 ≤ w) (h1 : w < 4) : atI ([.int 1, .int 1, .int 2, .int 3] : List PyData) w = some (.int (dn4 w)) := by
  have : w = 0 ∨ w = 1 ∨ w = 2 ∨ w = 3 := by omega
  rcases this with rfl | rfl | rfl | rfl <;> rfl
theorem dn4_pos (w : Int) : 0 < dn4 w ∧ dn4 w < 4 := by unfold dn4; split <;> (try split) <;> omega
def warmB (p : Pl) : Rat := Rat.divInt (pick p 12 - 3) (dn4 (pick (left p 12) 4))
def warmPB (p : Pl) : Pl := left (left p 12) 4
theorem warmPB_ok {p : Pl} (h : p.Ok) : (warmPB p).Ok := left_ok (left_ok h (by decide)) (by decide)
theorem warmB_rb (p : Pl) : Rb 5 (warmB p) := by
  have a0 := pick_nn (p := p) (w := 12) (by decide)
  have a1 := pick_lt (p := p) (w := 12) (by decide)
  have d := dn4_pos (pick (left p 12) 4)
  refine Rb.di ?_ ?_ d.1 <;> (unfold Bt; omega)
/-! ### heat moved -/
theorem siz_lt {n : Nat} {L : List Bl} (O : OkSt n L) {i : Nat} (hi : i < L.length) : 0 < siz L i ∧ siz L i < 2 ^ 7 := by
  have := O.sz hi; unfold Sz at this; omega
/-! ### the second state -/
end AL
/-! All plans by their lengths; the best of them. -/
namespace AL
open PySem PySem.Spec L2
theorem Pv_gr {n : Nat} {L : List Bl} {b D : Nat} (O : OkSt n L) (hD : ∀ c ∈ L, Gr D n c.2) (d0 : 0 < D) (hb : b < L.length) {p : List Nat} (h : ∀ o ∈ p, o < L.length) {m : Nat} (d1 : D < 2 ^ m) : ∃ E, 0 < E ∧ E < 2 ^ (m + 8 * p.length) ∧ D ∣ E ∧ Gr E n (Pv L b p) := by
  induction p using snoc_ind with
  | h0 => exact ⟨D, d0, by simpa using d1, Nat.dvd_refl _, by show Gr D n (tmp L b); unfold tmp; rw [getD_eq hb]; exact hD _ (List.getElem_mem hb)⟩
  | h1 p o ih =>
    obtain ⟨E, e0, e1, e2, e3⟩ := ih fun q hq => h q (by simp [hq])
    have ho : o < L.length := h o (by simp)
    obtain ⟨s0, s1⟩ := siz_lt O hb
    obtain ⟨p0, p1⟩ := siz_lt O ho
    have ht : Gr D n (tmp L o) := by unfold tmp; rw [getD_eq ho]; exact hD _ (List.getElem_mem ho)
    refine ⟨E * (siz L b + siz L o).toNat, Nat.mul_pos e0 (by omega), ?_, Nat.dvd_trans e2 (Nat.dvd_mul_right _ _), by rw [Pv_snoc]; exact mix_gr s0 p0 e3 (ht.mono e2 (Nat.le_refl _)) e0⟩
    rw [List.length_append, show m + 8 * (p.length + [o].length) = m + 8 * p.length + 8 by simp; omega, Nat.pow_add]
    exact Nat.mul_lt_mul'' e1 (by omega)
theorem Pv_rb {n : Nat} {L : List Bl} {b : Nat} (O : OkSt n L) (hb : b < L.length) {p : List Nat} (h : ∀ o ∈ p, o < L.length) : Rb (n + (n + 8 * p.length)) (Pv L b p) := by
  obtain ⟨D, d0, d1, d2⟩ := O.cd
  obtain ⟨E, e0, e1, _, e3⟩ := Pv_gr O d2 d0 hb h d1
  exact e3.rb e0 e1
theorem flat_len {α β : Type} {m : Nat} (f : α → List β) : ∀ (l : List α), (∀ a ∈ l, (f a).length ≤ m) → (l.flatMap f).length ≤ l.length * m
  | [], _ => by simp
  | a :: l, h => by
    rw [List.flatMap_cons, List.length_append, List.length_cons, Nat.succ_mul]
    have := flat_len f l fun x hx => h x (by simp [hx])
    have := h a (by simp)
    omega
/-! ### data -/
/-- pairs, smaller number first -/
def prsAt (m i : Nat) : List (Nat × Nat) := (List.range (m - (i + 1))).map fun k => (i, i + 1 + k)
def prsTo (m k : Nat) : List (Nat × Nat) := (List.range k).flatMap (prsAt m)
def prsL (m : Nat) : List (Nat × Nat) := prsTo m m
theorem prsTo_succ (m k : Nat) : prsTo m (k + 1) = prsTo m k ++ prsAt m k := by unfold prsTo; rw [List.range_succ, List.flatMap_append]; simp
theorem mem_prsL {m : Nat} {t : Nat × Nat} : t ∈ prsL m ↔ t.1 < t.2 ∧ t.2 < m := by
  unfold prsL prsTo
  rw [List.mem_flatMap]
  constructor
  · rintro ⟨i, hi, h⟩
    unfold prsAt at h
    obtain ⟨k, hk, rfl⟩ := List.mem_map.mp h
    rw [List.mem_range] at hi hk
    show i < i + 1 + k ∧ i + 1 + k < m
    omega
  · rintro ⟨h1, h2⟩
    refine ⟨t.1, List.mem_range.mpr (by omega), List.mem_map.mpr ⟨t.2 - t.1 - 1, List.mem_range.mpr (by omega), ?_⟩⟩
    obtain ⟨a, b⟩ := t
    show (a, a + 1 + (b - a - 1)) = (a, b)
    have : a < b := h1
    congr 1; omega
theorem prsL_len (m : Nat) : (prsL m).length ≤ m * m := by
  have h := flat_len (m := m) (prsAt m) (List.range m) fun i _ => by unfold prsAt; rw [List.length_map, List.length_range]; omega
  rwa [List.length_range] at h
end AL
/-! What the defs of unreachable.py compute. -/
namespace AL
open PySem PySem.Spec L2
end AL
/-! Leaves for the helpers of the laws 31 to 52. -/
namespace AL
open PySem PySem.Spec L2
theorem ixN_int {n : Nat} {i : Int} (h0 : 0 ≤ i) (h1 : i < n) : ixN n i = some i.toNat := by
  unfold ixN
  rw [if_pos h0, if_pos h1]
theorem di_mix (s p : Int) (t u : Rat) : Rat.divInt (s * t.num * (u.den : Int) + p * u.num * (t.den : Int)) ((t.den : Int) * (u.den : Int) * (s + p)) = mix s t p u := by
  have e : (s : Rat) * t + (p : Rat) * u = Rat.divInt (s * t.num * (u.den : Int) + p * u.num * (t.den : Int)) ((t.den : Int) * (u.den : Int)) := by
    have h1 := mul_den t
    have h2 := mul_den u
    have ht : ((t.den : Int) : Rat) ≠ 0 := by have := Rat.intCast_pos.mpr (den_pos t); grind
    have hu : ((u.den : Int) : Rat) ≠ 0 := by have := Rat.intCast_pos.mpr (den_pos u); grind
    rw [Rat.divInt_eq_div]
    refine eq_div_of (by rw [Rat.intCast_mul]; grind) ?_
    simp only [Rat.intCast_mul, Rat.intCast_add]
    rw [← h1, ← h2]; grind
  unfold mix
  rw [e]
  rw [Rat.divInt_eq_div, Rat.divInt_eq_div, Rat.intCast_mul _ (s + p), Rat.div_def, Rat.div_def, Rat.div_def, Rat.inv_mul_rev, Rat.mul_assoc]
  congr 1
  exact Rat.mul_comm _ _
theorem blk_set (L : List Bl) (i : Nat) (s : Int) (t : Rat) (h : s = siz L i) : (L.map blk).set i (.tuple [.int s, fr t]) = (putT L i t).map blk := by rw [h]; exact putT_data L i t
end AL
namespace AL
open PySem PySem.Spec L2
theorem at_stI {L : List Bl} {i : Int} (h0 : 0 ≤ i) (h : i < L.length) : atI (L.map blk) i = some (.tuple [.int (siz L i.toNat), fr (tmp L i.toNat)]) := by
  obtain ⟨k, rfl⟩ := Int.eq_ofNat_of_zero_le h0
  exact at_st (by omega)
theorem lf_rep2 {g : Gm} {x : Av} {φ : Prop} (h1 : isDO g x = true) (h2 : Shw (dOf g x)) (q : φ) : isDO g x = true ∧ Shw (dOf g x) ∧ φ := ⟨h1, h2, q⟩
end AL
/-! The extreme within a limit, as the def makes it; the least amount within which all lies. -/
namespace AL
open PySem PySem.Spec L2
def EwA (L : List Bl) (b : Nat) (l : List Nat) (k : Nat) (bs : List Bp) : Prop := ∀ j, j < bs.length → (bAt bs j).1 = Pv L b (bAt bs j).2 ∧ (∀ o ∈ (bAt bs j).2, o ∈ l) ∧ (bAt bs j).2.length ≤ k
section
variable {up : Bool} {L : List Bl} {b k o : Nat} {l : List Nat} {bs : List Bp} {many : Int}
theorem EwA.grow (h : EwA L b l k bs) (h1 : 1 ≤ bs.length) : EwA L b l k (ewGrow many bs) := by
  unfold ewGrow
  split
  · intro j hj
    rw [List.length_append, List.length_singleton] at hj
    rw [bAt_app]
    split
    · exact h j (by assumption)
    · rw [if_pos (by omega)]
      exact h _ (by omega)
  · exact h
theorem EwA.new (h : EwA L b l k bs) {j : Nat} (hj : j < bs.length) : (ewNew up L b bs o j).1 = Pv L b (ewNew up L b bs o j).2 ∧ (∀ q ∈ (ewNew up L b bs o j).2, q ∈ l ++ [o]) ∧ (ewNew up L b bs o j).2.length ≤ k + 1 := by
  unfold ewNew
  split
  · obtain ⟨h1, h2, h3⟩ := h 0 (by omega)
    exact ⟨h1, fun q hq => by simp [h2 q hq], by omega⟩
  · obtain ⟨h1, h2, h3⟩ := h j hj
    obtain ⟨c1, c2, c3⟩ := h (j - 1) (by omega)
    unfold ewTry
    split
    · split
      · refine ⟨by show _ = Pv L b (_ ++ [o]); rw [Pv_snoc, ← c1], fun q hq => ?_, by simp; omega⟩
        have hq' : q ∈ (bAt bs (j - 1)).2 ++ [o] := hq
        rw [List.mem_append] at hq' ⊢
        exact hq'.imp (c2 q) id
      · exact ⟨h1, fun q hq => by simp [h2 q hq], by omega⟩
    · exact ⟨h1, fun q hq => by simp [h2 q hq], by omega⟩
theorem EwA.mono {k' : Nat} (h : EwA L b l k bs) (hk : k ≤ k') : EwA L b l k' bs := fun j hj => ⟨(h j hj).1, (h j hj).2.1, Nat.le_trans (h j hj).2.2 hk⟩
theorem EwA.rb {n : Nat} (h : EwA L b l k bs) (O : OkSt n L) (hb : b < L.length) (hl : ∀ q ∈ l, q < L.length) {j : Nat} (hj : j < bs.length) : Rb (n + (n + 8 * k)) (bAt bs j).1 := by
  obtain ⟨h1, h2, h3⟩ := h j hj
  rw [h1]
  exact (Pv_rb O hb fun o ho => hl o (h2 o ho)).mono (by omega)
end
section
variable {L : List Bl} {b n : Nat}
end
end AL
/-! The limits of so many touches, along a sequence of touches. -/
namespace AL
open PySem PySem.Spec L2
section
variable {n n' : Nat} {L M : List Bl} {b i j : Nat} {k : Int}
theorem Tch.neg (hi : i < L.length) (hj : j < L.length) (T : Tch L M i j (mix (siz L i) (tmp L i) (siz L j) (tmp L j))) : Tch (ngL L) (ngL M) i j (mix (siz (ngL L) i) (tmp (ngL L) i) (siz (ngL L) j) (tmp (ngL L) j)) := by
  have hiM : i < M.length := by rw [T.len]; exact hi
  have hjM : j < M.length := by rw [T.len]; exact hj
  rw [(ngL_get L i hi).1, (ngL_get L i hi).2, (ngL_get L j hj).1, (ngL_get L j hj).2, mix_neg]
  refine ⟨by rw [ngL_len, ngL_len, T.len], fun x hx => ?_, by rw [(ngL_get M i hiM).2, T.ti], by rw [(ngL_get M j hjM).2, T.tj], fun x hx a c => ?_⟩
  · rw [ngL_len] at hx
    rw [(ngL_get M x (by rw [T.len]; exact hx)).1, (ngL_get L x hx).1, T.sz x hx]
  · rw [ngL_len] at hx
    rw [(ngL_get M x (by rw [T.len]; exact hx)).2, (ngL_get L x hx).2, T.tx x hx a c]
end
end AL
/-! Slices from the end; a number in a range; the least and the greatest of a row of numbers. -/
namespace AL
open PySem PySem.Spec L2 PySem.W
theorem cut_hiN {ds : List PyData} {k : Nat} (h : 0 < k) : cutD ds none (some (-(k : Int))) = ds.take (ds.length - k) := by
  unfold cutD
  rw [HT.sIx_none]
  have e : HT.sIx ds.length ds.length (some (-(k : Int))) = ds.length - k := by
    have := HT.clip_eq (-(k : Int)) ds.length ds.length
    rw [if_pos (by omega)] at this
    omega
  rw [e, Nat.sub_zero, List.drop_zero]
section
variable {X : Cx} {C : Ct} {g : Gm} {e a hi : Expr} {pos p p2 p3 : PySem.Pos} {Q : Av → Gm → Prop} {QT : Bool → Gm → Prop}
/-- x[:-1] -/
theorem ee_slHiN (h : EE X C e g fun x g1 => EE X C hi g1 fun y g2 => ∃ (k : Nat) (ds : List PyData), y = .d (.int (-(k : Int))) ∧ 0 < k ∧ ((x = .d (.tuple ds) ∧ Q (.d (.tuple (ds.take (ds.length - k)))) g2) ∨ (KL g2 x ds ∧ Q (.d (.list (ds.take (ds.length - k)))) g2))) : EE X C (.Subscript e (.Slice none (some hi) none p2) pos) g Q :=
  EE.of (pe_slice (SlR.or sl_tupA sl_list) pe_t po_none (po_some pe_t)) fun σ H Z I P p => h σ H Z I _ fun v H1 Z1 x g1 I1 s1 a1 h1 => h1 σ H1 Z1 I1 _ fun w H2 Z2 y g2 I2 s2 a2 q => by
    obtain ⟨k, ds, rfl, hk, q⟩ := q
    have a2' : Dd X.K Z2 w (.int (-(k : Int))) := a2
    cases a2'
    rcases q with ⟨rfl, q⟩ | ⟨kl, q⟩
    · refine ⟨-(k : Int), rfl, .inl (ta_sl I2 (Dd.mono s2 _ _ a1) fun v H3 Z3 I3 s3 d3 => ?_)⟩
      rw [cut_hiN hk] at d3
      exact p v H3 Z3 (.d (.tuple (ds.take (ds.length - k)))) g2 I3 ((s1.trans s2).trans s3) d3 q
    · refine ⟨-(k : Int), rfl, .inr (ta_slL I2 kl (a1.mono s2) fun v H3 Z3 I3 s3 d3 => ?_)⟩
      rw [cut_hiN hk] at d3
      exact p v H3 Z3 (.d (.list (ds.take (ds.length - k)))) g2 I3 ((s1.trans s2).trans s3) d3 q
end
/-! ### a number in a range -/
section
variable {X : Cx}
theorem op_notIn_rng : OpR X (compareOp .NotIn) (fun x y H Q => ∃ i a lo hi, x = V.int i ∧ y = V.ref a ∧ H a = some (.rng lo hi) ∧ Q (.bl (!decide (lo ≤ i ∧ i < hi))) H) := by
  intro pins s σ H x y v u Q I rx ry h
  obtain ⟨i, a, lo, hi, rfl, rfl, ha, q⟩ := h
  obtain ⟨k, rfl⟩ := rx
  obtain rfl : u = Value.ref a := ry
  obtain ⟨t1, t2, t3, ho⟩ := I.hok a _ ha
  show wpAny _ _ (do return Value.bool (!(← contains (Value.ref a) (Value.int i k)))) _ _ s
  refine wpAny_bind (wpAny_contains_slot (T := "range") ⟨_, ho, rfl⟩ F.slot_range_contains (call_meets F.slot_range_contains ⟨_, ho, rfl⟩ F.entry_range_contains (F.args_range_contains_2 _ _) (q_contains a lo hi i t1 t2 t3 k)
    ⟨ho, wpAny_truthy_bool (wpAny_pure ⟨.bl _, H, I, rfl, ?_⟩)⟩))
  rw [place1]
  exact q
theorem cr_range1 : CallR X (.type "range") (fun vs H Q => ∃ j, vs = [V.int j] ∧ ∀ p, H p = none → Q (.ref p) (upd H p (.rng 0 j))) := by
  intro pins s σ H vs us Q I r h
  obtain ⟨j, rfl, q⟩ := h
  obtain ⟨u1, rfl, ri⟩ := vals1 r
  obtain ⟨t, rfl⟩ := ri
  refine call_range_1 ⟨.ref s.heap.objs.size, upd H s.heap.objs.size (.rng 0 j), I.laid (t' := s.toks + 1 + 1) (fun b o e => Heap.get?_push_of_some _ e) (Nat.le_refl _) ?_, rfl, q _ (I.hok.fresh (Nat.le_refl _))⟩
  exact ⟨s.toks, t, s.toks + 1, Heap.get?_push_size _ rfl⟩
end
section
variable {X : Cx} {C : Ct} {g : Gm} {a b e : Expr} {pos p p2 : PySem.Pos} {Q : Av → Gm → Prop} {QT : Bool → Gm → Prop}
abbrev rRng1 : R2 := fun x y H Q => ∃ i a lo hi, x = V.int i ∧ y = V.ref a ∧ H a = some (.rng lo hi) ∧ Q (.bl (!decide (lo ≤ i ∧ i < hi))) H
/-- a not in range(b) -/
theorem ae_notInRng {ta tb : TE} (h : AE X.K C ta g fun x g1 => AE X.K C tb g1 fun y g2 => ∃ i j, x = .d (.int i) ∧ y = .d (.int j) ∧ Q (.d (.bool (!decide (0 ≤ i ∧ i < j)))) g2) : AE X.K C (tOp rRng1 ta (tCB (fun vs H Q => ∃ j, vs = [V.int j] ∧ ∀ p, H p = none → Q (.ref p) (upd H p (.rng 0 j))) (tCons tb tNil))) g Q :=
  fun σ H Z I P p => h σ H Z I _ fun v H1 Z1 x g1 I1 s1 a1 q1 => q1 σ H1 Z1 I1 _ fun w H2 Z2 y g2 I2 s2 a2 q2 => by
    obtain ⟨i, j, rfl, rfl, q⟩ := q2
    have a1' : Dd X.K Z1 v (.int i) := a1
    have a2' : Dd X.K Z2 w (.int j) := a2
    cases a1'; cases a2'
    refine ⟨j, rfl, fun pp hp => ⟨i, pp, 0, j, rfl, rfl, upd_same, ?_⟩⟩
    exact p _ _ Z2 (.d (.bool _)) g2 (I2.newO hp) (s1.trans s2) (Dd.bl _) q
theorem pe_notInRng {ta tb : TE} (n : Bn X "range") (ha : PE X a ta) (hb : PE X b tb) (hm : behindInMarks .NotIn (.Call (.Name "range" p) [b] [] p2) = false) (he : starEach [b] X.env = (false, eval b X.env) :: starEach [] X.env := by rfl) : PE X (.Compare a [.NotIn] [.Call (.Name "range" p) [b] [] p2] pos) (tOp rRng1 ta (tCB (fun vs H Q => ∃ j, vs = [V.int j] ∧ ∀ p, H p = none → Q (.ref p) (upd H p (.rng 0 j))) (tCons tb tNil))) :=
  pe_cmpR op_notIn_rng ha (pe_callTy (T := "range") cr_range1 n.gl n.mg (by decide +kernel) (pa_cons hb pa_nil he) n.n1 n.d1 he rfl) hm
theorem ee_notInRng (n : Bn X "range") (h : EE X C a g fun x g1 => EE X C b g1 fun y g2 => ∃ i j, x = .d (.int i) ∧ y = .d (.int j) ∧ Q (.d (.bool (!decide (0 ≤ i ∧ i < j)))) g2) (hm : behindInMarks .NotIn (.Call (.Name "range" p) [b] [] p2) = false := by rfl) (he : starEach [b] X.env = (false, eval b X.env) :: starEach [] X.env := by rfl) : EE X C (.Compare a [.NotIn] [.Call (.Name "range" p) [b] [] p2] pos) g Q :=
  EE.of (pe_notInRng n pe_t pe_t hm he) (ae_notInRng h)
end
section
variable {X : Cx} {C : Ct} {g : Gm} {a b e : Expr} {pos p p2 : PySem.Pos} {QT : Bool → Gm → Prop}
theorem et_notInRng (n : Bn X "range") (h : EE X C a g fun x g1 => EE X C b g1 fun y g2 => ∃ i j, x = .d (.int i) ∧ y = .d (.int j) ∧ QT (!decide (0 ≤ i ∧ i < j)) g2) (hm : behindInMarks .NotIn (.Call (.Name "range" p) [b] [] p2) = false := by rfl) (he : starEach [b] X.env = (false, eval b X.env) :: starEach [] X.env := by rfl) : ET X C (.Compare a [.NotIn] [.Call (.Name "range" p) [b] [] p2] pos) g QT :=
  ET.of (pt_cmpR op_notIn_rng pe_t (pe_callTy (T := "range") cr_range1 n.gl n.mg (by decide +kernel) (pa_cons pe_t pa_nil he) n.n1 n.d1 he rfl) hm) (at_test (ae_notInRng (h.mono fun x g1 h1 => h1.mono fun y g2 ⟨i, j, e1, e2, q⟩ => ⟨i, j, e1, e2, _, rfl, q⟩)))
end
/-! ### the least and the greatest of a row of numbers -/
theorem vals_reads {h : Heap} : ∀ {ns : List Int} {us : List Value}, Vals (ns.map V.int) us → ReadsAll h us (ns.map PyData.int) []
  | [], _, r => by cases r; exact .nil
  | n :: ns, _, r => by
    cases r with
    | cons r1 r2 =>
      obtain ⟨t, rfl⟩ := r1
      exact .cons (as := []) (.int n t) (vals_reads r2)
theorem ints_alike (ns : List Int) : AlikeAll (ns.map PyData.int) := ⟨fun x hx y hy => by
    obtain ⟨i, _, rfl⟩ := List.mem_map.mp hx
    obtain ⟨j, _, rfl⟩ := List.mem_map.mp hy
    rfl, fun x hx => by
    obtain ⟨i, _, rfl⟩ := List.mem_map.mp hx
    exact fun z => by cases z⟩
theorem ints_depth : ∀ ns : List Int, PyData.depthAll (ns.map PyData.int) = 0
  | [] => rfl
  | n :: ns => by
    show max (PyData.depth (.int n)) (PyData.depthAll (ns.map PyData.int)) = 0
    rw [ints_depth ns]; rfl
section
variable {X : Cx} {k : Nat}
theorem cr_minI (hc : X.calm = true) (hr : Room k X.A) : CallR X (.builtin "min") (fun vs H Q => ∃ a n ns, vs = [V.ref a] ∧ (SqT X.K H a ((n :: ns).map V.int) ∨ SqL X.K H a ((n :: ns).map V.int)) ∧ Q (.int (ns.foldl min n)) H) := by
  intro pins s σ H vs us Q I r h
  obtain ⟨a, n, ns, rfl, hs, q⟩ := h
  have hu := hr.units
  rcases hs with hs | hs
  · obtain ⟨its, rv, ht, hz⟩ := I.tuple hs
    rw [Vals.ref1 r]
    refine min_tuple_data (x := .int n) (xs := ns.map .int) (as := []) (I.ok.hd hc) ht (by rw [List.toList_toArray]; exact vals_reads (ns := n :: ns) rv) (ints_alike (n :: ns)) (by rw [show PyData.int n :: ns.map PyData.int = (n :: ns).map PyData.int from rfl, ints_depth]; omega) fun i v h' tk bs hv hrd hk => ?_
    rw [minD_ints] at hrd
    cases hrd
    exact ⟨.int _, H, I.kept hk, ⟨_, rfl⟩, q⟩
  · obtain ⟨its, rv, ht, hz⟩ := I.list hs
    rw [Vals.ref1 r]
    refine min_list_data (x := .int n) (xs := ns.map .int) (as := []) (I.ok.hd hc) ht.isList (by rw [List.toList_toArray]; exact vals_reads (ns := n :: ns) rv) (ints_alike (n :: ns)) (by rw [show PyData.int n :: ns.map PyData.int = (n :: ns).map PyData.int from rfl, ints_depth]; omega) fun i v h' tk bs hv hrd hk => ?_
    rw [minD_ints] at hrd
    cases hrd
    exact ⟨.int _, H, I.kept hk, ⟨_, rfl⟩, q⟩
theorem cr_maxI (hc : X.calm = true) (hr : Room k X.A) : CallR X (.builtin "max") (fun vs H Q => ∃ a n ns, vs = [V.ref a] ∧ (SqT X.K H a ((n :: ns).map V.int) ∨ SqL X.K H a ((n :: ns).map V.int)) ∧ Q (.int (ns.foldl max n)) H) := by
  intro pins s σ H vs us Q I r h
  obtain ⟨a, n, ns, rfl, hs, q⟩ := h
  have hu := hr.units
  rcases hs with hs | hs
  · obtain ⟨its, rv, ht, hz⟩ := I.tuple hs
    rw [Vals.ref1 r]
    refine max_tuple_data (x := .int n) (xs := ns.map .int) (as := []) (I.ok.hd hc) ht (by rw [List.toList_toArray]; exact vals_reads (ns := n :: ns) rv) (ints_alike (n :: ns)) (by rw [show PyData.int n :: ns.map PyData.int = (n :: ns).map PyData.int from rfl, ints_depth]; omega) fun i v h' tk bs hv hrd hk => ?_
    rw [maxD_ints] at hrd
    cases hrd
    exact ⟨.int _, H, I.kept hk, ⟨_, rfl⟩, q⟩
  · obtain ⟨its, rv, ht, hz⟩ := I.list hs
    rw [Vals.ref1 r]
    refine max_list_data (x := .int n) (xs := ns.map .int) (as := []) (I.ok.hd hc) ht.isList (by rw [List.toList_toArray]; exact vals_reads (ns := n :: ns) rv) (ints_alike (n :: ns)) (by rw [show PyData.int n :: ns.map PyData.int = (n :: ns).map PyData.int from rfl, ints_depth]; omega) fun i v h' tk bs hv hrd hk => ?_
    rw [maxD_ints] at hrd
    cases hrd
    exact ⟨.int _, H, I.kept hk, ⟨_, rfl⟩, q⟩
end
section
variable {X : Cx} {C : Ct} {g : Gm} {e : Expr} {pos p : PySem.Pos} {Q : Av → Gm → Prop} {k : Nat}
theorem rc_row {K : PySem.W.Frag} {f : Int → List Int → Int} {x : Av} {n : Int} {ns : List Int} (hx : x = .d (.tuple ((n :: ns).map PyData.int)) ∨ KL g x ((n :: ns).map PyData.int)) (q : Q (.d (.int (f n ns))) g) : RC K C (fun vs H Q => ∃ a n ns, vs = [V.ref a] ∧ (SqT K H a ((n :: ns).map V.int) ∨ SqL K H a ((n :: ns).map V.int)) ∧ Q (.int (f n ns)) H) [x] g Q := fun σ H Z vs I a P p => by
  cases a with
  | @cons _ v _ _ a1 a2 =>
    cases a2
    have fin : ∀ ad xs, v = .ref ad → (SqT K H ad xs ∨ SqL K H ad xs) → DdA K Z xs ((n :: ns).map PyData.int) → ∃ a n ns, [v] = [V.ref a] ∧ (SqT K H a ((n :: ns).map V.int) ∨ SqL K H a ((n :: ns).map V.int)) ∧ P (.int (f n ns)) H := fun ad xs e h1 h2 => by
      have e2 := h2.ints
      subst e2 e
      exact ⟨ad, n, ns, rfl, h1, p _ H Z (.d (.int _)) g I (Same.refl _) (Dd.int _) q⟩
    rcases hx with rfl | rfl | ⟨j, w, rfl, hj⟩
    · have h' : Dd K Z v (.tuple ((n :: ns).map PyData.int)) := a1
      cases h' with
      | @tup ad xs _ b1 b2 => exact fin ad xs rfl (.inl (Same.seqT I.fz b1)) b2
    · have h' : Dd K Z v (.list ((n :: ns).map PyData.int)) := a1
      cases h' with
      | @lst ad xs _ b1 b2 => exact fin ad xs rfl (.inr (SqL.of (I.fz _ _ b1))) b2
    · obtain ⟨ad, xs, e, o2, o3, o4, o5⟩ := I.own hj a1
      exact fin ad xs e (.inr (SqL.of o2)) o4
theorem ee_minI (n1 : Bn X "min") (hc : X.calm = true) (hr : Room k X.A) (h : EE X C e g fun x g1 => ∃ n ns, (x = .d (.tuple ((n :: ns).map PyData.int)) ∨ KL g1 x ((n :: ns).map PyData.int)) ∧ Q (.d (.int (ns.foldl min n))) g1) (he : starEach [e] X.env = (false, eval e X.env) :: starEach [] X.env := by rfl) : EE X C (.Call (.Name "min" p) [e] [] pos) g Q :=
  ee_callB (cr_minI hc hr) n1 (by decide +kernel) (ea_cons (h.mono fun x g1 q => ea_nil (by
    obtain ⟨n, ns, hx, q⟩ := q
    exact rc_row (f := fun n ns => ns.foldl min n) hx q)) he) he (by rfl)
theorem ee_maxI (n1 : Bn X "max") (hc : X.calm = true) (hr : Room k X.A) (h : EE X C e g fun x g1 => ∃ n ns, (x = .d (.tuple ((n :: ns).map PyData.int)) ∨ KL g1 x ((n :: ns).map PyData.int)) ∧ Q (.d (.int (ns.foldl max n))) g1) (he : starEach [e] X.env = (false, eval e X.env) :: starEach [] X.env := by rfl) : EE X C (.Call (.Name "max" p) [e] [] pos) g Q :=
  ee_callB (cr_maxI hc hr) n1 (by decide +kernel) (ea_cons (h.mono fun x g1 q => ea_nil (by
    obtain ⟨n, ns, hx, q⟩ := q
    exact rc_row (f := fun n ns => ns.foldl max n) hx q)) he) he (by rfl)
theorem lf_row2 {x : Av} {i j : Int} {φ : Int → List Int → Prop} (hx : x = .d (.tuple [.int i, .int j])) (q : φ i [j]) : ∃ n ns, (x = .d (.tuple ((n :: ns).map PyData.int)) ∨ KL g x ((n :: ns).map PyData.int)) ∧ φ n ns := ⟨i, [j], .inl hx, q⟩
end
end AL
/-! The least amount, the impossible pairs: after touches; a touch of a cell. -/
namespace AL
open PySem PySem.Spec L2
section
variable {n : Nat} {L M : List Bl} {b i j : Nat} {k : Int}
end
theorem lf_sl1U {g : Gm} {y x : Av} {ds : List PyData} {φ ψ : Nat → List PyData → Prop} (hy : y = .d (.int (-1))) (hx : x = .d (.tuple ds)) (q : φ 1 ds) : ∃ (k : Nat) (ds : List PyData), y = .d (.int (-(k : Int))) ∧ 0 < k ∧ ((x = .d (.tuple ds) ∧ φ k ds) ∨ (KL g x ds ∧ ψ k ds)) := ⟨1, ds, by rw [hy]; rfl, by decide, .inl ⟨hx, q⟩⟩
end AL
/-! Rows of touches: the warmer others in ascending order, drawn ones. -/
namespace AL
open PySem PySem.Spec L2
/-! ### the warmer others, in ascending order -/
section
variable {K : PySem.W.Frag} {C : Ct} {g : Gm} {Q : Av → Gm → Prop}
end
end AL
/-! Blocks of one size: the best of so many touches takes the warmest ones, in ascending order. -/
namespace AL
open PySem PySem.Spec L2
section
variable {S : Int}
end
section
variable {n : Nat} {L : List Bl} {b : Nat} {S : Int}
end
end AL
/-! Blocks of one size: the law's own way to the best (k72). -/
namespace AL
open PySem PySem.Spec L2
section
variable {n : Nat} {L : List Bl} {b : Nat} {S : Int}
/-! ### the law's own way -/
end
end AL
/-! sorted(set(xs)) of a list of numbers; a list backward. -/
namespace AL
open PySem PySem.Spec PyProof.Rows L2
section
variable {P : Program} {w : World} {A : Around} {E : Value → Shared → Prop} {s : Shared}
abbrev set0 (w : World) : Obj := { cls := .type "set", dict := none, data := .set #[] 0 (.fresh 0 0 (!w.params.followText "set-order")) }
/-- the new set's filling from a list of numbers -/
theorem fill_list {l : Addr} {items : Array Value} {ns : List Int} (hh : A.handled = none) (hl : s.heap.IsList l items) (hit : IntsAre items.toList ns) (hb : ns.length + 1 < scanBound) {R : Result → Shared → Prop}
    (h : ∀ (h' : Heap) (tk c : Nat), SetR w h' s.heap.objs.size (fun j => decide (j ∈ ns)) c → c ≤ ns.length → (∀ b o, s.heap.get? b = some o → h'.get? b = some o) → R (.ok (.ret .none)) { s with heap := h', toks := tk }) :
    ∀ (B : Around), B.handled = none → codeAny (model P w) B (.builtin "set.update.loop" ⟨[.ref s.heap.objs.size, .ref (s.heap.push (set0 w)).objs.size], []⟩) R
      { s with heap := (s.heap.push (set0 w)).push { cls := .type "list_iterator", data := .fields #[.ref l, .int 0 0] } } := by
  intro B hB
  have hn : items.size = ns.length := by
    have q := IntsAre.length hit
    rwa [Array.length_toList] at q
  have hl1 : (s.heap.push (set0 w)).IsList l items := hl.push _
  obtain ⟨ol, hol, _⟩ := hl
  have hlS := Heap.lt_size hol
  have hz : (s.heap.push (set0 w)).objs.size = s.heap.objs.size + 1 := Heap.size_push ..
  have hS0 : (s.heap.push (set0 w)).get? s.heap.objs.size = some (set0 w) := Heap.get?_push_size _ rfl
  have hval : ∀ (i : Nat) (v : Value), items[i]? = some v → ∃ k t, ns[i]? = some k ∧ v = .int k t := fun i v hv => by
    obtain ⟨t, e⟩ := PyProof.Rows.IntsAre.int_at hit i v (by rw [Array.getElem?_toList]; exact hv)
    have hi : i < ns.length := by rw [← hn]; exact (Array.getElem?_eq_some_iff.mp hv).1
    exact ⟨_, t, List.getElem?_eq_getElem hi, by rw [e, List.getD_eq_getElem?_getD, List.getElem?_eq_getElem hi]; rfl⟩
  refine set_update_ints ((Walks.list (A := B.in1) (by simp [hB]) _ l (by rw [hz]; exact Nat.ne_of_lt (Nat.lt_succ_of_lt hlS)) items).toS) s.heap.objs.size (by
    rw [hz]; simp only [List.mem_cons, List.mem_singleton, List.not_mem_nil, or_false, not_or]; exact ⟨Nat.ne_of_lt (Nat.lt_succ_self _), Nat.ne_of_gt hlS⟩) ns hn hb hval (items.size - 0) 0 _ (by omega) (Nat.zero_le _)
    ⟨⟨_, Heap.get?_push_size _ rfl, rfl, rfl⟩, hl1.push _⟩ ⟨0, Nat.le_refl 0, setR_new_at (Heap.get?_push_of_some _ hS0)⟩ fun s' c hm hc hS => ?_
  obtain ⟨h', g2, d', tk', os'⟩ := s'
  have eg : g2 = s.gens := hm.gens
  have ed : d' = s.drawn := hm.drawn
  have eo : os' = s.os := hm.os
  subst eg; subst ed; subst eo
  refine h h' tk' c hS (by omega) fun b o e => ?_
  have hb0 := Heap.lt_size e
  exact hm.heap b o (by rw [hz]; simp only [List.mem_cons, List.mem_singleton, List.not_mem_nil, or_false, not_or]; exact ⟨Nat.ne_of_lt hb0, Nat.ne_of_lt (Nat.lt_succ_of_lt hb0)⟩) (Heap.get?_push_of_some _ (Heap.get?_push_of_some _ e))
/-- set(xs), xs a list of numbers: what set(t) of a tuple of numbers is (HandS.SetFor), for a list -/
theorem call_set_ls {l : Addr} {items : Array Value} {ns : List Int} {Q : Value → Shared → Prop} (hh : A.handled = none) (hl : s.heap.IsList l items) (hit : IntsAre items.toList ns) (hb : ns.length + 1 < scanBound)
    (h : ∀ (h' : Heap) (tk c : Nat), SetR w h' s.heap.objs.size (fun j => decide (j ∈ ns)) c → c ≤ ns.length → (∀ b o, s.heap.get? b = some o → h'.get? b = some o) → Q (.ref s.heap.objs.size) { s with heap := h', toks := tk }) :
    wpAny (model P w) A (call (.type "set") [.ref l]) Q E s := by
  obtain ⟨c, tl, hmro⟩ := F.called_set.mro
  have hmade := F.called_set.made
  have hsub := F.called_set.sub
  refine wpAny_call (codeAny_of_tree ?_)
  show wpAny _ _ (callAny (.type "set") _) _ _ _
  refine wpAny_pure ⟨Code.quiet_builtin _ (by decide +kernel), codeAny_builtin F.entry_type_call ?_⟩
  rw [Around.under_plain (weight_type_call_type "set" [.ref l] []) rfl]
  have h1 := F.called_set.notType
  have h2 := F.called_set.canCreate
  have hct := F.typeCall_set_1 (.ref l)
  repeat (any_goals (first | assumption | wp_step))
  refine codeAny_mono (code_set_led1 (.ref l) (E := E) (Q₁ := fun obj s₁ => obj = .ref s.heap.objs.size ∧ s₁ = { s with heap := s.heap.push (set0 w) }) ⟨rfl, rfl⟩) fun r s₁ hr => ?_
  match r, hr with
  | .error e, hr => exact hr
  | .ok .next, hr => exact hr.elim
  | .ok .brk, hr => exact hr.elim
  | .ok .cont, hr => exact hr.elim
  | .ok (.ret obj), hr =>
    obtain ⟨rfl, rfl⟩ := hr
    have hS : (s.heap.push (set0 w)).get? s.heap.objs.size = some (set0 w) := Heap.get?_push_size _ rfl
    have hT : Shared.TypeIs { s with heap := s.heap.push (set0 w) } (.ref s.heap.objs.size) "set" := ⟨_, hS, rfl⟩
    have hli := F.called_set.init.lookup
    have hbi := F.called_set.init.bind (.ref s.heap.objs.size)
    repeat (any_goals (first | assumption | wp_step))
    refine codeAny_mono (codeAny_call_builtin (R := wants (fun r s₂ => r = .none ∧ ∃ h' tk c, s₂ = { s with heap := h', toks := tk } ∧ SetR w h' s.heap.objs.size (fun j => decide (j ∈ ns)) c ∧ c ≤ ns.length ∧
        (∀ b o, s.heap.get? b = some o → h'.get? b = some o)) E) F.called_set.init.plain F.entry_set_init (check_set_init_1 hT ?_)) fun r₂ s₂ hr₂ => ?_
    · have hl0 := hl
      obtain ⟨⟨ocls, odict, odata, oslots⟩, hol, hcl, nl, hdl⟩ := hl
      simp only at hcl hdl
      subst hcl; subst hdl
      have hol' : (s.heap.push (set0 w)).get? l = some { cls := .type "list", dict := odict, data := .seq items nl, slots := oslots } := Heap.get?_push_of_some _ hol
      have hsls := F.sub_list_set
      have hslf := F.sub_list_frozenset
      have hne : (Value.type "list" == Value.type "dict") = false := by decide
      have hl1 : (s.heap.push (set0 w)).IsList l items := ⟨_, hol', rfl, nl, rfl⟩
      unfold Builtin.«set.__init__» noKeywords Builtin.Frozenset.updateFrom
      generalize hPI : pyIter = PI
      wp_walk
      subst hPI
      refine wpAny_pyIter_list hl1 ?_
      refine wpAny_bind (wpAny_runValue ?_)
      refine codeAny_mono (fill_list (P := P) (w := w) (R := fun r s' => r = .ok (.ret .none) ∧ ∃ h' tk c, s' = { s with heap := h', toks := tk } ∧ SetR w h' s.heap.objs.size (fun j => decide (j ∈ ns)) c ∧ c ≤ ns.length ∧ (∀ b o, s.heap.get? b = some o → h'.get? b = some o)) hh hl0 hit hb (fun h' tk c a b k => ⟨rfl, h', tk, c, rfl, a, b, k⟩) _ (by simp [hh])) fun r s' q => ?_
      obtain ⟨rfl, h', tk, c, rfl, a, b, k⟩ := q
      show wpAny _ _ _ _ _ _
      refine wpAny_pure ?_
      show wpAny _ _ (ret Value.none) _ _ _
      exact wpAny_pure ⟨rfl, h', tk, c, rfl, a, b, k⟩
    · match r₂, hr₂ with
      | .error e, hr₂ => exact hr₂
      | .ok .next, hr₂ => exact hr₂.elim
      | .ok .brk, hr₂ => exact hr₂.elim
      | .ok .cont, hr₂ => exact hr₂.elim
      | .ok (.ret r), hr₂ =>
        obtain ⟨rfl, h', tk, c, rfl, hS', g', hk'⟩ := hr₂
        repeat (any_goals (first | assumption | wp_step))
        exact h _ _ _ hS' g' hk'
end
end AL
/-! sorted(set(xs)), xs[::-1]: read on data. -/
namespace AL
open PySem PySem.Spec L2
open PyProof.Rows hiding St
def rSetL (K : PySem.W.Frag) (w : World) : List V → Hp → VK → Prop := fun vs H Q => ∃ (a : Addr) (ns : List Int), vs = [V.ref a] ∧ SqL K H a (ns.map V.int) ∧ ns.length < 60 ∧
  ∀ (p : Addr) (c : Nat), c ≤ ns.length → H p = none → Q (.ref p) (upd H p (SetO w p (fun j => decide (j ∈ ns)) c))
theorem cr_setL {X : Cx} (hc : X.calm = true) : CallR X (.type "set") (rSetL X.K X.w) := by
  intro pins s σ H vs us Q I r h
  obtain ⟨a, ns, rfl, hs, hl, q⟩ := h
  obtain ⟨its, rv, pl, hz⟩ := I.list hs
  rw [Vals.ref1 r]
  refine call_set_ls (I.ok.hd hc) pl.isList (ns := ns) (by simpa using rv.ints) (by unfold scanBound; omega) fun h' tk c R hc' hk => ?_
  exact ⟨.ref s.heap.objs.size, upd H s.heap.objs.size (SetO X.w s.heap.objs.size (fun j => decide (j ∈ ns)) c), I.laid (t' := tk) hk (Nat.le_refl _) (setO_new R), rfl, q _ c hc' (I.hok.fresh (Nat.le_refl _))⟩
theorem dda_ints {K : PySem.W.Frag} {Z : Hp} : ∀ ns : List Int, DdA K Z (ns.map V.int) (ns.map PyData.int)
  | [] => .nil
  | n :: ns => .cons (Dd.int n) (dda_ints ns)
theorem DdA.reverse {K : PySem.W.Frag} {Z : Hp} : ∀ {ds : List PyData} {vs : List V}, DdA K Z vs ds → DdA K Z vs.reverse ds.reverse
  | [], _, h => by cases h; exact .nil
  | d :: ds, _, h => by
    cases h with
    | cons h1 h2 =>
      rw [List.reverse_cons, List.reverse_cons]
      exact (DdA.reverse h2).append (.cons h1 .nil)
section
variable {X : Cx} {C : Ct} {g : Gm} {e : Expr} {pos p p2 p3 : PySem.Pos} {Q : Av → Gm → Prop} {QL : List PyData → Gm → Prop}
theorem en_sortSet (n1 : Bn X "sorted") (n2 : Bn X "set") (hc : X.calm = true) (h : EE X C e g fun x g1 => ∃ ns : List Int, KL g1 x (ns.map PyData.int) ∧ ns.length < 60 ∧ ∀ r : List Int, r.Pairwise (· < ·) → (∀ k, k ∈ r ↔ k ∈ ns) → QL (r.map PyData.int) g1)
    (he : starEach [e] X.env = (false, eval e X.env) :: starEach [] X.env := by rfl) (he2 : starEach [Expr.Call (.Name "set" p2) [e] [] p3] X.env = (false, eval (Expr.Call (.Name "set" p2) [e] [] p3) X.env) :: starEach [] X.env := by rfl) : EN X C (.Call (.Name "sorted" p) [.Call (.Name "set" p2) [e] [] p3] [] pos) g QL :=
  EN.of (pe_callB (cr_sortedSet hc) n1.gl n1.mg (by decide +kernel) (pa_cons (pe_callTy (T := "set") (cr_setL hc) n2.gl n2.mg (by decide +kernel) (pa_cons pe_t pa_nil he) n2.n1 n2.d1 he rfl) pa_nil he2) n1.n1 n1.d1 he2 rfl) fun σ H Z I P pp => h σ H Z I _ fun v H1 Z1 x g1 I1 s1 a1 q1 => by
    obtain ⟨ns, kl, hl, q⟩ := q1
    have fin : ∀ ad xs, v = .ref ad → SqL X.K H1 ad xs → DdA X.K Z1 xs (ns.map PyData.int) → rSetL X.K X.w [v] H1 fun y H2 => rSortedSet X.w [y] H2 P := fun ad xs e1 h1 h2 => by
      have e2 := h2.ints
      subst e2 e1
      refine ⟨ad, ns, rfl, h1, hl, fun p1 c hc1 hp1 => ⟨p1, _, c, rfl, upd_same, by omega, fun r q2 r1 r2 r3 r4 => ?_⟩⟩
      have I2 : Ok X.K C g1 σ (upd H1 p1 (SetO X.w p1 (fun j => decide (j ∈ ns)) c)) Z1 := I1.newO hp1
      obtain ⟨m1, m2, m3⟩ := I2.new r4
      exact pp q2 _ Z1 (r.map PyData.int) g1 (I2.newO r4) s1 ⟨⟨_, upd_same, dda_ints r⟩, m1, m2, m3⟩ (q r r1 fun k => by rw [r2 k]; simp)
    rcases kl with rfl | ⟨j, w', rfl, hj⟩
    · have h' : Dd X.K Z1 v (.list (ns.map PyData.int)) := a1
      cases h' with
      | @lst ad xs _ b1 b2 => exact fin ad xs rfl (SqL.of (I1.fz _ _ b1)) b2
    · obtain ⟨ad, xs, e1, o2, o3, o4, o5⟩ := I1.own hj a1
      exact fin ad xs e1 (SqL.of o2) o4
/-- xs[::-1] of a list -/
theorem ee_revL {kk : Nat} {p1 : PySem.Pos} (h : EE X C e g fun x g1 => ∃ ds, KL g1 x ds ∧ Q (.d (.list ds.reverse)) g1) : EE X C (.Subscript e (.Slice none none (some (.UnaryOp .USub (.Constant (.int 1) kk p1) p2)) p3) pos) g Q :=
  EE.of (pe_revL pe_t) fun σ H Z I P pp => h σ H Z I _ fun v H1 Z1 x g1 I1 s1 a1 q1 => by
    obtain ⟨ds, kl, q⟩ := q1
    have fin : ∀ ad xs, v = .ref ad → SqL X.K H1 ad xs → DdA X.K Z1 xs ds → ∃ a xs, v = .ref a ∧ SqL X.K H1 a xs ∧ ∀ p, H1 p = none → P (.ref p) (upd H1 p (.lst xs.reverse)) := fun ad xs e1 h1 h2 => by
      refine ⟨ad, xs, e1, h1, fun t ht => ?_⟩
      obtain ⟨m1, m2, m3⟩ := I1.new ht
      have I2 : Ok X.K C g1 σ (upd H1 t (.lst xs.reverse)) Z1 := I1.newO ht
      obtain ⟨Z', I3, s3, d3⟩ := I2.frzN (p := t) (ds := ds.reverse) ⟨⟨_, upd_same, h2.reverse⟩, m1, m2, m3⟩
      exact pp _ _ Z' (.d (.list ds.reverse)) g1 I3 (s1.trans s3) d3 q
    rcases kl with rfl | ⟨j, w', rfl, hj⟩
    · have h' : Dd X.K Z1 v (.list ds) := a1
      cases h' with
      | @lst ad xs _ b1 b2 => exact fin ad xs rfl (SqL.of (I1.fz _ _ b1)) b2
    · obtain ⟨ad, xs, e1, o2, o3, o4, o5⟩ := I1.own hj a1
      exact fin ad xs e1 (SqL.of o2) o4
end
end AL
/-! k72: for the walk. -/
namespace AL
open PySem PySem.Spec L2
section
variable {L : List Bl} {b : Nat} {S : Int}
end
end AL
/-! k72: the drawn state. -/
namespace AL
open PySem PySem.Spec L2
end AL
/-! The heat that an amount of size can hold: how it is computed, and that averaging never raises it. -/
namespace AL
open PySem PySem.Spec L2
/-! ### blocks in descending order -/
def dscC (l : List Bl) (b : Bl) : Nat := (l.filter fun a => decide (b.2 < a.2)).length
def dscIns (l : List Bl) (b : Bl) : List Bl := l.take (dscC l b) ++ b :: l.drop (dscC l b)
def dscL (L : List Bl) : List Bl := L.foldl dscIns []
def Des (l : List Bl) : Prop := l.Pairwise fun a b => b.2 ≤ a.2
theorem dscIns_perm (l : List Bl) (b : Bl) : (dscIns l b).Perm (b :: l) := by
  unfold dscIns
  exact List.perm_middle.trans ((List.Perm.of_eq (List.take_append_drop _ _)).cons b)
/-- in a descending row the warmer ones stand first -/
theorem des_split {l : List Bl} {b : Bl} (h : Des l) : l.take (dscC l b) = l.filter (fun a => decide (b.2 < a.2)) ∧ l.drop (dscC l b) = l.filter (fun a => !decide (b.2 < a.2)) := by
  unfold dscC
  refine filter_take (α := Bl) (R := fun (a c : Bl) => c.2 ≤ a.2) (p := fun (a : Bl) => decide (b.2 < a.2)) (fun x y hxy hy => ?_) h
  simp only [decide_eq_true_eq] at hy ⊢
  grind
theorem dscIns_des {l : List Bl} {b : Bl} (h : Des l) : Des (dscIns l b) := by
  unfold dscIns Des
  obtain ⟨e1, e2⟩ := des_split (b := b) h
  rw [e1, e2, List.pairwise_append, List.pairwise_cons]
  refine ⟨h.filter _, ⟨fun c hc => ?_, h.filter _⟩, fun a ha c hc => ?_⟩
  · have := (List.mem_filter.mp hc).2
    simp at this
    grind
  · have h1 := (List.mem_filter.mp ha).2
    simp only [decide_eq_true_eq] at h1
    rcases List.mem_cons.mp hc with rfl | hc
    · grind
    · have h2 := (List.mem_filter.mp hc).2
      simp at h2
      grind
theorem dscF {L : List Bl} : ∀ {acc : List Bl}, Des acc → Des (L.foldl dscIns acc) ∧ (L.foldl dscIns acc).Perm (L ++ acc) := by
  induction L with
  | nil => intro acc h; exact ⟨h, List.Perm.refl _⟩
  | cons b L ih =>
    intro acc h
    obtain ⟨h1, h2⟩ := ih (dscIns_des (b := b) h)
    refine ⟨h1, h2.trans ?_⟩
    exact (List.Perm.append_left L (dscIns_perm acc b)).trans List.perm_middle
theorem dscL_des (L : List Bl) : Des (dscL L) := (dscF (acc := []) List.Pairwise.nil).1
theorem dscL_perm (L : List Bl) : (dscL L).Perm L := by
  have h := (dscF (L := L) (acc := []) List.Pairwise.nil).2
  rw [List.append_nil] at h
  exact h
theorem dscL_len (L : List Bl) : (dscL L).length = L.length := (dscL_perm L).length_eq
/-! ### the heat of an amount -/
abbrev prt (s x : Int) : Int := if x < s then x else s
def hstep (a : Rat × Int) (b : Bl) : Rat × Int := (a.1 + ((prt b.1 a.2 : Int) : Rat) * b.2, a.2 - prt b.1 a.2)
def hoa (l : List Bl) (x : Int) : Rat := (l.foldl hstep (0, x)).1
def hr : List Bl → Int → Rat
  | [], _ => 0
  | b :: l, x => ((prt b.1 x : Int) : Rat) * b.2 + hr l (x - prt b.1 x)
theorem hfold : ∀ (l : List Bl) (a : Rat) (x : Int), (l.foldl hstep (a, x)).1 = a + hr l x
  | [], a, x => by show a = a + 0; grind
  | b :: l, a, x => by
    show (l.foldl hstep (a + ((prt b.1 x : Int) : Rat) * b.2, x - prt b.1 x)).1 = a + (((prt b.1 x : Int) : Rat) * b.2 + hr l (x - prt b.1 x))
    rw [hfold l]; grind
theorem hoa_hr (l : List Bl) (x : Int) : hoa l x = hr l x := by unfold hoa; rw [hfold]; grind
def tot (l : List Bl) : Int := l.foldr (fun b a => b.1 + a) 0
theorem tot_cons (b : Bl) (l : List Bl) : tot (b :: l) = b.1 + tot l := rfl
theorem tot_perm {l m : List Bl} (h : l.Perm m) : tot l = tot m := by
  induction h with
  | nil => rfl
  | cons x _ ih => rw [tot_cons, tot_cons, ih]
  | swap x y l => rw [tot_cons, tot_cons, tot_cons, tot_cons]; omega
  | trans _ _ ih1 ih2 => exact ih1.trans ih2
theorem tot_nn {l : List Bl} (h : Pos l) : 0 ≤ tot l := by
  induction l with
  | nil => exact Int.le_refl 0
  | cons b l ih =>
    have := h b (by simp)
    have := ih fun p hp => h p (by simp [hp])
    rw [tot_cons]; omega
/-- the part above t -/
def pst (x : Rat) : Rat := if 0 < x then x else 0
theorem pst_nn (x : Rat) : 0 ≤ pst x := by unfold pst; split <;> grind
theorem pst_ge (x : Rat) : x ≤ pst x := by unfold pst; split <;> grind
def phi (t : Rat) (l : List Bl) : Rat := l.foldr (fun b a => (b.1 : Rat) * pst (b.2 - t) + a) 0
theorem phi_cons (t : Rat) (b : Bl) (l : List Bl) : phi t (b :: l) = (b.1 : Rat) * pst (b.2 - t) + phi t l := rfl
theorem phi_perm {t : Rat} {l m : List Bl} (h : l.Perm m) : phi t l = phi t m := by
  induction h with
  | nil => rfl
  | cons x _ ih => rw [phi_cons, phi_cons, ih]
  | swap x y l => rw [phi_cons, phi_cons, phi_cons, phi_cons]; grind
  | trans _ _ ih1 ih2 => exact ih1.trans ih2
/-! ### two blocks brought together -/
theorem pst_cvx {p q u t : Rat} (h1 : p ≤ u) (h2 : u ≤ q) : pst (u - t) * (q - p) ≤ (u - p) * pst (q - t) + (q - u) * pst (p - t) := by
  have a1 := Rat.mul_nonneg (show 0 ≤ u - p by grind) (show 0 ≤ pst (q - t) from pst_nn _)
  have a2 := Rat.mul_nonneg (show 0 ≤ q - u by grind) (show 0 ≤ pst (p - t) from pst_nn _)
  by_cases hu : 0 < u - t
  · have e : pst (u - t) = u - t := by unfold pst; rw [if_pos hu]
    have b1 := Rat.mul_le_mul_of_nonneg_left (pst_ge (q - t)) (show 0 ≤ u - p by grind)
    have b2 := Rat.mul_le_mul_of_nonneg_left (pst_ge (p - t)) (show 0 ≤ q - u by grind)
    rw [e]; grind
  · have e : pst (u - t) = 0 := by unfold pst; rw [if_neg hu]
    rw [e]; grind
theorem pst_two {S s p q u v t : Rat} (hS : 0 < S) (hs : 0 < s) (he : S * u + s * v = S * p + s * q) (h1 : p ≤ u) (h2 : u ≤ q) (h3 : p ≤ v) (h4 : v ≤ q) : S * pst (u - t) + s * pst (v - t) ≤ S * pst (p - t) + s * pst (q - t) := by
  by_cases hpq : p = q
  · have e1 : u = p := by grind
    have e2 : v = p := by grind
    subst hpq; subst e1; subst e2
    exact Rat.le_refl
  · have hlt : 0 < q - p := by grind
    have c1 := Rat.mul_le_mul_of_nonneg_left (pst_cvx (t := t) h1 h2) (Rat.le_of_lt hS)
    have c2 := Rat.mul_le_mul_of_nonneg_left (pst_cvx (t := t) h3 h4) (Rat.le_of_lt hs)
    have k1 : (S * u + s * v) * pst (q - t) = (S * p + s * q) * pst (q - t) := by rw [he]
    have k2 : (S * u + s * v) * pst (p - t) = (S * p + s * q) * pst (p - t) := by rw [he]
    have key : (S * pst (u - t) + s * pst (v - t)) * (q - p) ≤ (S * pst (p - t) + s * pst (q - t)) * (q - p) := by grind
    exact Rat.le_of_mul_le_mul_right key hlt
end AL
/-! unreachable_reason: what its parts compute. -/
namespace AL
open PySem PySem.Spec L2
/-! ### sums of fractions with a common denominator -/
theorem den_of {q : Rat} {E : Nat} {k : Int} (hE : 0 < E) (h : q * ((E : Int) : Rat) = (k : Rat)) : q.den ∣ E := by
  have hd : (0 : Rat) < ((E : Int) : Rat) := Rat.intCast_pos.mpr (by omega)
  have key : q = Rat.divInt k (E : Int) := by rw [Rat.divInt_eq_div]; exact eq_div_of (by grind) h
  rw [key, Rat.den_divInt, if_neg (by omega)]
  have : ((E : Int)).natAbs = E := by omega
  rw [this]
  refine Nat.div_dvd_of_dvd ?_
  rw [← this]
  exact Int.gcd_dvd_natAbs_left _ _
section
variable {E F n m : Nat} {p q : Rat}
theorem Gr.up (h : Gr E n p) (hE : E ∣ F) (hn : n ≤ m) : Gr F m p := ⟨Nat.dvd_trans h.dv hE, h.bd.mono hn⟩
theorem Gr.zero : Gr E n 0 := ⟨by show 1 ∣ E; exact Nat.one_dvd _, by
  have h : (0 : Rat) ≤ ((2 ^ n : Int) : Rat) := Rat.intCast_nonneg.mpr (Int.pow_nonneg (by decide))
  exact ⟨by grind, h⟩⟩
theorem Gr.sub (hE : 0 < E) (h : Gr E n p) (k : Gr E n q) : Gr E (n + 1) (p - q) := by
  have := h.add hE k.neg
  rwa [← Rat.sub_eq_add_neg] at this
/-- s times, s below 128 -/
theorem Gr.smul {s : Int} (hE : 0 < E) (hs : 0 ≤ s ∧ s < 128) (h : Gr E n p) : Gr E (n + 7) ((s : Rat) * p) := by
  obtain ⟨a, ha⟩ := h.dv
  refine ⟨den_of hE (k := s * (p.num * a)) ?_, ?_⟩
  · rw [Rat.intCast_mul, ← mul_dvd ha]; grind
  · have e : ((2 ^ (n + 7) : Int) : Rat) = (128 : Rat) * ((2 ^ n : Int) : Rat) := by
      rw [show (128 : Rat) = ((128 : Int) : Rat) from rfl, ← Rat.intCast_mul]; congr 1; rw [Int.pow_add]; omega
    have s0 : (0 : Rat) ≤ (s : Rat) := Rat.intCast_nonneg.mpr hs.1
    have s1 : (s : Rat) ≤ (128 : Rat) := Rat.intCast_le_intCast.mpr (show s ≤ (128 : Int) by omega)
    obtain ⟨h1, h2⟩ := h.bd
    have t0 : (0 : Rat) ≤ ((2 ^ n : Int) : Rat) := by grind
    rw [show Bd (n + 7) ((s : Rat) * p) ↔ _ from Iff.rfl]
    unfold Bd
    rw [e]
    have a1 := Rat.mul_le_mul_of_nonneg_left h2 s0
    have a2 := Rat.mul_le_mul_of_nonneg_left h1 s0
    have a3 := Rat.mul_le_mul_of_nonneg_right s1 t0
    exact ⟨by grind, by grind⟩
end
/-! ### the heat -/
def heatF (l : List Bl) : Rat := l.foldl (fun a b => a + (b.1 : Rat) * b.2) 0
def heatS (l : List Bl) : Rat := l.foldr (fun b a => (b.1 : Rat) * b.2 + a) 0
theorem heatF_eq (l : List Bl) : heatF l = heatS l := by
  have key : ∀ (l : List Bl) (a : Rat), l.foldl (fun a b => a + (b.1 : Rat) * b.2) a = a + heatS l := by
    intro l
    induction l with
    | nil => intro a; show a = a + 0; grind
    | cons b l ih => intro a; rw [List.foldl_cons, ih]; show _ = a + ((b.1 : Rat) * b.2 + heatS l); grind
  unfold heatF
  rw [key]; grind
theorem fold_gr {E n : Nat} (hE : 0 < E) : ∀ (l : List Rat) (k : Nat) (a : Rat), Gr E (n + k) a → (∀ q ∈ l, Gr E n q) → Gr E (n + k + l.length) (l.foldl (· + ·) a)
  | [], k, a, h, _ => h
  | q :: l, k, a, h, hl => by
    have := fold_gr hE l (k + 1) (a + q) ((h.add hE ((hl q (by simp)).up (Nat.dvd_refl _) (by omega))).up (Nat.dvd_refl _) (by omega)) fun r hr => hl r (by simp [hr])
    exact this.up (Nat.dvd_refl _) (by rw [List.length_cons]; omega)
/-- sums of so many parts -/
theorem sum_gr {E n : Nat} (hE : 0 < E) {l : List Rat} (h : ∀ q ∈ l, Gr E n q) : Gr E (n + l.length) (l.foldl (· + ·) 0) := by
  have := fold_gr (n := n) hE l 0 0 Gr.zero h
  exact this.up (Nat.dvd_refl _) (by omega)
/-- the shares of the heat -/
def heatL (L : List Bl) : List Rat := L.map fun b => (b.1 : Rat) * b.2
theorem heatL_gr {n E : Nat} {L : List Bl} (hE : 0 < E) (hs : ∀ b ∈ L, Sz b.1) (h : ∀ b ∈ L, Gr E n b.2) : ∀ q ∈ heatL L, Gr E (n + 7) q := fun q hq => by
  obtain ⟨b, hb, rfl⟩ := List.mem_map.mp hq
  have := hs b hb
  unfold Sz at this
  exact (h b hb).smul hE (by omega)
/-- partial sums of fractions -/
def sumTo (l : List Rat) (i : Nat) : Rat := (l.take i).foldl (· + ·) 0
/-! ### heat of an amount -/
theorem prt_nn {s x : Int} (hs : 0 < s) (hx : 0 ≤ x) : 0 ≤ prt s x ∧ prt s x ≤ s ∧ prt s x ≤ x := by unfold prt; split <;> omega
def hto (l : List Bl) (x : Int) (i : Nat) : Rat × Int := (l.take i).foldl hstep (0, x)
theorem hto_succ {l : List Bl} {x : Int} {i : Nat} {b : Bl} (h : l[i]? = some b) : hto l x (i + 1) = hstep (hto l x i) b := by
  unfold hto
  rw [List.take_add_one, h]
  simp [List.foldl_append]
theorem hto_all (l : List Bl) (x : Int) : (hto l x l.length).1 = hoa l x := by unfold hto hoa; rw [List.take_length]
theorem hto_nn {l : List Bl} {x : Int} (z : Pos l) (hx : 0 ≤ x) : ∀ i, 0 ≤ (hto l x i).2 ∧ (hto l x i).2 ≤ x
  | 0 => ⟨hx, Int.le_refl _⟩
  | i + 1 => by
    obtain ⟨h1, h2⟩ := hto_nn z hx i
    cases q : l[i]? with
    | none =>
      have : l.take (i + 1) = l.take i := by
        have := List.getElem?_eq_none_iff.mp q
        rw [List.take_of_length_le (by omega), List.take_of_length_le this]
      unfold hto at h1 h2 ⊢
      rw [this]; exact ⟨h1, h2⟩
    | some b =>
      rw [hto_succ q]
      have := prt_nn (z b (List.mem_of_getElem? q)) h1
      show 0 ≤ (hto l x i).2 - prt b.1 (hto l x i).2 ∧ _ ≤ x
      exact ⟨by omega, by show (hto l x i).2 - prt b.1 (hto l x i).2 ≤ x; omega⟩
theorem hto_gr {E n : Nat} {l : List Bl} {x : Int} (hE : 0 < E) (hs : ∀ b ∈ l, Sz b.1) (h : ∀ b ∈ l, Gr E n b.2) (hx : 0 ≤ x) : ∀ i, Gr E (n + 7 + i) (hto l x i).1
  | 0 => Gr.zero
  | i + 1 => by
    have ih := hto_gr hE hs h hx i
    have z : Pos l := fun b hb => by have := hs b hb; unfold Sz at this; omega
    cases q : l[i]? with
    | none =>
      have : l.take (i + 1) = l.take i := by
        have := List.getElem?_eq_none_iff.mp q
        rw [List.take_of_length_le (by omega), List.take_of_length_le this]
      unfold hto at ih ⊢
      rw [this]; exact ih.up (Nat.dvd_refl _) (by omega)
    | some b =>
      rw [hto_succ q]
      have hb := List.mem_of_getElem? q
      have h1 := hs b hb
      unfold Sz at h1
      have h2 := prt_nn (z b hb) (hto_nn z hx i).1
      show Gr E (n + 7 + (i + 1)) ((hto l x i).1 + ((prt b.1 (hto l x i).2 : Int) : Rat) * b.2)
      exact (ih.add hE (((h b hb).smul hE (s := prt b.1 (hto l x i).2) (by omega)).up (Nat.dvd_refl _) (by omega))).up (Nat.dvd_refl _) (by omega)
/-! ### the points where the slope changes -/
theorem tot_le {L : List Bl} (hl : L.length ≤ 12) (h : ∀ b ∈ L, Sz b.1) : tot L ≤ 1200 := by
  have key : ∀ l : List Bl, (∀ b ∈ l, Sz b.1) → tot l ≤ 99 * l.length := by
    intro l
    induction l with
    | nil => intro _; exact Int.le_refl 0
    | cons b l ih =>
      intro h
      have h1 := h b (by simp)
      unfold Sz at h1
      have := ih fun c hc => h c (by simp [hc])
      rw [tot_cons, List.length_cons]; omega
  have := key L h
  omega
/-! ### the greatest step -/
/-! ### what is left of a number -/
def dvs (L : List Bl) : List Nat := (prsL L.length).map fun t => ((siz L t.1 + siz L t.2) / (Int.gcd (siz L t.1) (siz L t.2) : Int)).toNat
/-! ### the reason -/
end AL
/-! len(set(xs)): xs a list of numbers, a list of tuples of numbers. -/
namespace AL
open PySem PySem.Spec PyProof.Rows L2
/-! ### tuples of numbers -/
def rLenT (K : PySem.W.Frag) (P : Program) (w : World) : List V → Hp → VK → Prop := fun vs G R => ∃ (p : Addr) (L : List (Addr × List Int)), vs = [V.ref p] ∧ G p = some (SetTO P w p L) ∧ (∀ t ∈ L, SqT K G t.1 (t.2.map V.int)) ∧ ((L.map (·.2)).Nodup → R (.int L.length) G)
theorem cr_lenT {Y : Cx} : CallR Y (.builtin "len") (rLenT Y.K Y.prog Y.w) := by
  intro ps0 s0 τ G vs us R J rv hyp
  obtain ⟨p, L, rfl, at1, tup, fin⟩ := hyp
  rw [Vals.ref1 rv]
  have ok1 : ObjOk Y.prog Y.w G s0.heap p (.ext fun h => SetT0 Y.prog Y.w h p L) := J.hok p _ at1
  obtain ⟨en, ep, tb, full⟩ := ok1.1.full fun t ht => J.isT (tup t ht)
  obtain ⟨ob, at2, ex2, dt2⟩ := full.ob
  have few := full.few
  have sz := full.size
  exact call_len_set at2 ex2 dt2 full.fits (by rw [sz]; omega) ⟨.int L.length, G, J.tok _, ⟨_, by rw [sz]⟩, fin full.nd⟩
abbrev tupD (k : List Int) : PyData := .tuple (k.map PyData.int)
theorem dda_tups {K : PySem.W.Frag} {Z : Hp} : ∀ {ks : List (List Int)} {xs : List V}, DdA K Z xs (ks.map tupD) → ∃ L : List (Addr × List Int), xs = L.map (fun t => V.ref t.1) ∧ L.map (·.2) = ks ∧ ∀ t ∈ L, SqT K Z t.1 (t.2.map V.int)
  | [], _, h => by cases h; exact ⟨[], rfl, rfl, by simp⟩
  | k :: ks, _, h => by
    cases h with
    | cons h1 h2 =>
      obtain ⟨L, e1, e2, e3⟩ := dda_tups h2
      cases h1 with
      | @tup a ys _ t1 t2 =>
        have := t2.ints
        subst this
        refine ⟨(a, k) :: L, by rw [e1]; rfl, by rw [← e2]; rfl, fun t ht => ?_⟩
        rcases List.mem_cons.mp ht with rfl | ht
        · exact t1
        · exact e3 t ht
section
variable {X : Cx} {C : Ct} {g : Gm} {e : Expr} {pos p p2 p3 : PySem.Pos} {Q : Av → Gm → Prop}
theorem ee_lenSetT {k : Nat} (n1 : Bn X "len") (n2 : Bn X "set") (hc : X.calm = true) (hr : Room k X.A) (h : EE X C e g fun x g1 => ∃ ks : List (List Int), KL g1 x (ks.map tupD) ∧ ks.length < 60 ∧ ∀ D : List (List Int), D.Nodup → (∀ t, t ∈ D ↔ t ∈ ks) → Q (.d (.int D.length)) g1)
    (he : starEach [e] X.env = (false, eval e X.env) :: starEach [] X.env := by rfl) (he2 : starEach [Expr.Call (.Name "set" p2) [e] [] p3] X.env = (false, eval (Expr.Call (.Name "set" p2) [e] [] p3) X.env) :: starEach [] X.env := by rfl) : EE X C (.Call (.Name "len" p) [.Call (.Name "set" p2) [e] [] p3] [] pos) g Q :=
  EE.of (pe_callB cr_lenT n1.gl n1.mg PySem.boot_len (pa_cons (pe_callTy (T := "set") (cr_setOfT hc hr.units) n2.gl n2.mg (by decide +kernel) (pa_cons pe_t pa_nil he) n2.n1 n2.d1 he rfl) pa_nil he2) n1.n1 n1.d1 he2 rfl) fun σ H Z I P pp => h σ H Z I _ fun v H1 Z1 x g1 I1 s1 a1 q1 => by
    obtain ⟨ks, kl, few, q⟩ := q1
    have fin : ∀ ad xs, v = .ref ad → SqL X.K H1 ad xs → DdA X.K Z1 xs (ks.map tupD) → rSetOfT X.K X.prog X.w [v] H1 fun y H2 => rLenT X.K X.prog X.w [y] H2 P := fun ad xs e1 h1 h2 => by
      obtain ⟨L, e2, e3, e4⟩ := dda_tups h2
      subst e2 e1
      have lL : L.length < 64 := by rw [← List.length_map (f := fun t : Addr × List Int => t.2), e3]; omega
      refine ⟨ad, L, rfl, h1, fun t ht => Same.seqT I1.fz (e4 t ht), lL, fun a D hn d1 d2 => ?_⟩
      have I2 : Ok X.K C g1 σ (upd H1 a (SetTO X.prog X.w a D)) Z1 := I1.newO hn
      refine ⟨a, D, rfl, upd_same, fun t ht => Same.seqT I2.fz (e4 t (d1 t ht)), fun nd => ?_⟩
      refine pp _ _ Z1 (.d (.int (D.length : Nat))) g1 I2 s1 (Dd.int _) ?_
      have := q (D.map (·.2)) nd fun t => by
        rw [← e3]
        constructor
        · intro ht
          obtain ⟨y, hy, rfl⟩ := List.mem_map.mp ht
          exact List.mem_map.mpr ⟨y, d1 y hy, rfl⟩
        · intro ht
          obtain ⟨y, hy, rfl⟩ := List.mem_map.mp ht
          exact d2 y hy
      rwa [List.length_map] at this
    rcases kl with rfl | ⟨j, w', rfl, hj⟩
    · have h' : Dd X.K Z1 v (.list (ks.map tupD)) := a1
      cases h' with
      | @lst ad xs _ b1 b2 => exact fin ad xs rfl (SqL.of (I1.fz _ _ b1)) b2
    · obtain ⟨ad, xs, e1, o2, o3, o4, o5⟩ := I1.own hj a1
      exact fin ad xs e1 (SqL.of o2) o4
end
end AL
/-! A module's constants that are tuples of numbers. -/
namespace AL
open PySem PySem.Spec L2
structure TupC (K : PySem.W.Frag) (mg : Str → Option Value) (x : Str) (ns : List Int) : Prop where
  ex : ∃ a, mg x = some (.ref a) ∧ ∀ H : Hp, SqT K H a (ns.map V.int)
section
variable {X : Cx} {C : Ct} {g : Gm} {pos : PySem.Pos} {Q : Av → Gm → Prop} {x : Str}
theorem ee_glT {ns : List Int} (n : Gn X x) (t : TupC X.K X.mg x ns) (q : Q (.d (tupD ns)) g) : EE X C (.Name x pos) g Q := by
  obtain ⟨a, m, s⟩ := t.ex
  exact EE.of (pe_glob (v := .ref a) n.gl m rfl n.d1) (ae_cd (fun Z => .tup (s Z) (dda_ints ns)) q)
theorem tcB {scope : Scope} {s : Shared} {H : Hp} {Cm : Addr} {cl : List (Str × Addr)} {fp : List Addr} {ns : List Int} (t : TupC X.K X.mg x ns) : TupC (bk X scope s H Cm cl fp).K (bk X scope s H Cm cl fp).mg x ns := t
end
end AL
/-! Dicts of the body's own whose keys are nested tuples of ints. -/
namespace AL
open PySem PySem.Spec L2
mutual
theorem nk_hash (w w' : World) : ∀ (d : PyData) (k : NestedKey), nk d = some k → k.hash w = k.hash w'
  | .none, k, h => by simp only [nk, Option.some.injEq] at h; subst h; rfl
  | .int i, k, h => by simp only [nk, Option.some.injEq] at h; subst h; rfl
  | .tuple ds, k, h => by
    simp only [nk, Option.map_eq_some_iff] at h
    obtain ⟨ks, h1, rfl⟩ := h
    simp only [NestedKey.hash, nkA_hash w w' ds ks h1]
  | .bool _, _, h => by simp [nk] at h
  | .str _, _, h => by simp [nk] at h
  | .list _, _, h => by simp [nk] at h
  | .dict _, _, h => by simp [nk] at h
theorem nkA_hash (w w' : World) : ∀ (ds : List PyData) (ks : List NestedKey), nkA ds = some ks → NestedKey.hashes w ks = NestedKey.hashes w' ks
  | [], ks, h => by simp only [nkA, Option.some.injEq] at h; subst h; rfl
  | d :: ds, ks, h => by
    simp only [nkA] at h
    cases h1 : nk d with
    | none => rw [h1] at h; simp at h
    | some k =>
      cases h2 : nkA ds with
      | none => rw [h1, h2] at h; simp at h
      | some ks' =>
        rw [h1, h2] at h
        simp only [Option.some.injEq] at h
        subst h
        simp only [NestedKey.hashes, nk_hash w w' d k h1, nkA_hash w w' ds ks' h2]
end
section
variable {X : Cx} {pins : List (Addr × Obj)} {σ : L2.St} {H Z : Hp} {s : Shared}
mutual
theorem dd_nested (I : Inv X pins σ H s) (hz : Same Z H) : ∀ (d : PyData) (v : V) (u : Value) (k : NestedKey), Dd X.K Z v d → RelV v u → nk d = some k → NestedIs s.heap k u
  | .none, _, _, k, h, r, e => by
    simp only [nk, Option.some.injEq] at e; subst e
    cases h; cases r; exact .none
  | .int i, _, _, k, h, r, e => by
    simp only [nk, Option.some.injEq] at e; subst e
    cases h
    obtain ⟨t, rfl⟩ := r
    exact .int i t
  | .tuple ds, _, _, k, h, r, e => by
    simp only [nk, Option.map_eq_some_iff] at e
    obtain ⟨ks, h1, rfl⟩ := e
    cases h with
    | tup hs ha =>
      cases r
      obtain ⟨its, rv, ⟨o, ho, hc, n, hd⟩, _⟩ := I.tuple (Same.seqT hz hs)
      exact .tup ho hc hd (by
        have := dd_nestedA I hz ds _ its ks ha rv h1
        simpa using this)
  | .bool _, _, _, _, _, _, e => by simp [nk] at e
  | .str _, _, _, _, _, _, e => by simp [nk] at e
  | .list _, _, _, _, _, _, e => by simp [nk] at e
  | .dict _, _, _, _, _, _, e => by simp [nk] at e
theorem dd_nestedA (I : Inv X pins σ H s) (hz : Same Z H) : ∀ (ds : List PyData) (vs : List V) (us : List Value) (ks : List NestedKey), DdA X.K Z vs ds → Vals vs us → nkA ds = some ks → NestedAll s.heap ks us
  | [], _, _, ks, h, r, e => by
    simp only [nkA, Option.some.injEq] at e; subst e
    cases h; cases r; exact .nil
  | d :: ds, _, _, ks, h, r, e => by
    simp only [nkA] at e
    cases h1 : nk d with
    | none => rw [h1] at e; simp at e
    | some k =>
      cases h2 : nkA ds with
      | none => rw [h1, h2] at e; simp at e
      | some ks' =>
        rw [h1, h2] at e
        simp only [Option.some.injEq] at e
        subst e
        cases h with
        | cons a1 a2 =>
          cases r with
          | cons r1 r2 => exact .cons (dd_nested I hz d _ _ k a1 r1 h1) (dd_nestedA I hz ds _ _ ks' a2 r2 h2)
end
end
/-! ### what a dict holds -/
def getK (kvs : List (PyData × PyData)) (d : PyData) : Option PyData := (kvs.find? fun p => decide (nk p.1 = nk d)).map (·.2)
def putD (kvs : List (PyData × PyData)) (d v : PyData) : List (PyData × PyData) := if (getK kvs d).isSome then kvs.map fun p => if nk p.1 = nk d then (p.1, v) else p else kvs ++ [(d, v)]
theorem putD_len (kvs : List (PyData × PyData)) (d v : PyData) : (putD kvs d v).length ≤ kvs.length + 1 := by
  unfold putD
  split <;> simp
section
variable {K : PySem.W.Frag} {Z : Hp}
theorem pair_get {xs : List DX} {kvs : List (PyData × PyData)} (h : Paired (DxOk K Z) xs kvs) {d : PyData} {k : NestedKey} (e : nk d = some k) :
    (atKey xs k = none ∧ getK kvs d = none) ∨ ∃ a u v w, atKey xs k = some (a, u) ∧ getK kvs d = some v ∧ RelV w u ∧ Dd K Z w v := by
  induction h with
  | nil => exact .inl ⟨rfl, rfl⟩
  | @cons x kv xs kvs r t ih =>
    obtain ⟨r1, r2, r3, w, r4, r5⟩ := r
    by_cases hx : x.1 = k
    · refine .inr ⟨x.2.1, x.2.2, kv.2, w, ?_, ?_, r4, r5⟩
      · simp [atKey, hx]
      · simp [getK, r1, e, hx]
    · have h1 : atKey (x :: xs) k = atKey xs k := by simp [atKey, hx]
      have h2 : getK (kv :: kvs) d = getK kvs d := by simp [getK, r1, e, hx]
      rw [h1, h2]; exact ih
theorem pair_put {xs : List DX} {kvs : List (PyData × PyData)} (h : Paired (DxOk K Z) xs kvs) {d v : PyData} {k : NestedKey} (e : nk d = some k) (hd : k.depth ≤ 8) {b : Addr} (hb : Dd K Z (.ref b) d) {w : V} {u : Value} (r : RelV w u) (hv : Dd K Z w v) :
    Paired (DxOk K Z) (storedH xs k b u) (putD kvs d v) := by
  have hn : DxOk K Z (k, b, u) (d, v) := ⟨e, hd, hb, w, r, hv⟩
  have key := pair_get h e
  unfold storedH putD
  rcases key with ⟨h1, h2⟩ | ⟨a, u', v', w', h1, h2, _, _⟩
  · rw [h1, h2]
    simp only [Option.isSome_none, Bool.false_eq_true, if_false]
    clear h1 h2
    induction h with
    | nil => exact .cons hn .nil
    | cons r t ih => exact .cons r ih
  · rw [h1, h2]
    simp only [Option.isSome_some, if_true]
    clear h1 h2
    induction h with
    | nil => exact .nil
    | @cons x kv xs kvs r0 t ih =>
      refine .cons ?_ ih
      obtain ⟨r1, r2, r3, w2, r4, r5⟩ := r0
      by_cases hx : x.1 = k
      · have q : nk kv.1 = nk d := by rw [r1, e, hx]
        simp only [putAt, hx, if_true, q]
        exact ⟨by rw [r1, hx], hd, r3, w, r, hv⟩
      · have q : ¬ nk kv.1 = nk d := by rw [r1, e]; simpa using hx
        simp only [putAt, hx, if_false, q]
        exact ⟨r1, r2, r3, w2, r4, r5⟩
end
section
variable {X : Cx} {pins : List (Addr × Obj)} {σ : L2.St} {H Z : Hp} {s : Shared} {a b : Addr} {o : Obj} {kvs : List (PyData × PyData)}
theorem dic_at (I : Inv X pins σ H s) (h : H a = some (DicO a o)) : s.heap.get? a = some o := (I.hok a _ h).1
/-- the library's word for it -/
theorem dic_of (I : Inv X pins σ H s) (hz : Same Z H) (h : H a = some (DicO a o)) (ok : DicOk X.K Z a o kvs) :
    ∃ xs, s.heap.DictOfH (nestedKind X.prog X.w) a xs ∧ Paired (DxOk X.K Z) xs kvs := by
  obtain ⟨h1, h2, es, ep, xs, h3, h4, h5, h6⟩ := ok
  refine ⟨xs, ⟨o, es, ep, dic_at I h, h2, h3, h4 X.w, fun x hx => ?_, h5⟩, h6⟩
  clear h3 h4 h5
  induction h6 with
  | nil => cases hx
  | @cons y kv ys kvs r t ih =>
    rcases List.mem_cons.mp hx with z | z
    · subst z
      obtain ⟨r1, r2, r3, _⟩ := r
      exact ⟨dd_nested I hz _ _ _ _ r3 rfl r1, r2⟩
    · exact ih z
/-- a key: a tuple of tuples and ints -/
def KeyD (d : PyData) : Prop := ∃ ds k, d = .tuple ds ∧ nk d = some k ∧ k.depth ≤ 8
/-- what is asked of the dict at a at the key d -/
def DicR (K : PySem.W.Frag) (H : Hp) (x y : V) (d : PyData) (kvs : List (PyData × PyData)) : Prop := ∃ a b o Z, x = .ref a ∧ y = .ref b ∧ H a = some (DicO a o) ∧ Same Z H ∧ DicOk K Z a o kvs ∧ Dd K Z (.ref b) d ∧ KeyD d
def tDicIn (K : PySem.W.Frag) (neg : Bool) (ty td : TE) : TE := fun σ H Q => ty σ H fun y H1 => td σ H1 fun x H2 => ∃ d kvs, DicR K H2 x y d kvs ∧ Q (.bl (if neg then !(getK kvs d).isSome else (getK kvs d).isSome)) H2
theorem dicR_at (I : Inv X pins σ H s) {x y : V} {u r : Value} (rx : RelV x u) (ry : RelV y r) {d : PyData} (h : DicR X.K H x y d kvs) :
    ∃ a b k o Z xs, u = .ref a ∧ r = .ref b ∧ (nestedKind X.prog X.w).is s.heap k b ∧ (a == sysModules) = false ∧ s.heap.DictOfH (nestedKind X.prog X.w) a xs ∧ Paired (DxOk X.K Z) xs kvs ∧ nk d = some k ∧ k.depth ≤ 8 ∧ H a = some (DicO a o) ∧ Same Z H ∧ Dd X.K Z (.ref b) d := by
  obtain ⟨a, b, o, Z, rfl, rfl, h1, h2, h3, h4, ds, k, rfl, h5, h6⟩ := h
  obtain ⟨xs, q1, q2⟩ := dic_of I h2 h1 h3
  exact ⟨a, b, k, o, Z, xs, rx, ry, ⟨dd_nested I h2 _ _ _ _ h4 rfl h5, h6⟩, h3.sm, q1, q2, h5, h6, h1, h2, h4⟩
end
section
variable {X : Cx} {o i e value : Expr} {pos pos' tpos : PySem.Pos} {td ty tv : TE}
theorem pc_dicnotin (hu : X.A.units + 64 < cLine) (hi : PE X i ty) (ho : PE X o td) : PC X .NotIn i o (tDicIn X.K true ty td) := by
  refine ⟨fun pins s σ H Q I h => ?_⟩
  refine thn (hi.run pins s σ H _ I h) fun iv s1 ⟨y, H1, I1, ry, q1⟩ => thn (ho.run pins s1 σ H1 _ I1 q1) fun u s2 ⟨x, H2, I2, rx, d, kvs, g, q2⟩ => ?_
  obtain ⟨a, b, k, o, Z, xs, rfl, rfl, h1, h2, h3, h4, h5, h6, h7, h8, h9⟩ := dicR_at I2 rx ry g
  refine PyProof.Rows.wpAny_notIn_heap (show X.A.in1.units + 8 < cLine by show X.A.units + 1 + 8 < cLine; omega) h1 h2 h3 ?_
  have e : (atKey xs k).isSome = (getK kvs d).isSome := by
    rcases pair_get h4 h5 with ⟨z1, z2⟩ | ⟨_, _, _, _, z1, z2, _, _⟩ <;> rw [z1, z2] <;> rfl
  rw [e]
  exact ⟨.bl _, H2, I2.tok _, rfl, q2⟩
end
end AL
/-! Dicts of the body's own: made, stored into, read. -/
namespace AL
open PySem PySem.Spec L2
section
variable {X : Cx} {pins : List (Addr × Obj)} {σ : L2.St} {H Z : Hp} {s : Shared} {a b : Addr} {o : Obj} {kvs : List (PyData × PyData)}
theorem paired_nk {K : PySem.W.Frag} {xs : List DX} (h : Paired (DxOk K Z) xs kvs) : ∀ x ∈ xs, ∃ d, nk d = some x.1 := by
  induction h with
  | nil => intro x hx; cases hx
  | @cons y kv ys kvs r t ih =>
    intro x hx
    rcases List.mem_cons.mp hx with z | z
    · subst z; exact ⟨kv.1, r.1⟩
    · exact ih x z
/-- from the library's word -/
theorem dic_to {h' : Heap} {xs : List DX} (sm : (a == sysModules) = false) (hm : h'.DictOfH (nestedKind X.prog X.w) a xs) (hp : Paired (DxOk X.K Z) xs kvs) : ∃ o', h'.get? a = some o' ∧ DicOk X.K Z a o' kvs := by
  obtain ⟨o', es, ep, h1, h2, h3, h4, h5, h6⟩ := hm
  refine ⟨o', h1, sm, h2, es, ep, xs, h3, fun w => ?_, h6, hp⟩
  rw [h4]
  refine List.map_congr_left fun x hx => ?_
  obtain ⟨d, hd⟩ := paired_nk hp x hx
  show (⟨x.1.hash X.w, _, _⟩ : DictEntry) = _
  rw [nk_hash X.w w d x.1 hd]
theorem dic_obj {h' : Heap} {o' : Obj} {P : Program} {w : World} {H' : Hp} (e : h'.get? a = some o') : ObjOk P w H' h' a (DicO a o') := ⟨e, ⟨o', e⟩, fun _ _ p st => st _ p⟩
end
/-- d[k] = v -/
def sDicPut (K : PySem.W.Frag) (td ty tv : TE) : TS := fun D σ H => tv σ H fun v H1 => td σ H1 fun x H2 => ty σ H2 fun y H3 => ∃ a b o Z d vd kvs, x = .ref a ∧ y = .ref b ∧ H3 a = some (DicO a o) ∧ Same Z H3 ∧ DicOk K Z a o kvs ∧ Dd K Z (.ref b) d ∧ KeyD d ∧ Dd K Z v vd ∧ kvs.length ≤ 1000000 ∧ ∀ o', DicOk K Z a o' (putD kvs d vd) → D.nx σ (upd H3 a (DicO a o'))
/-- d[k] -/
def tDicAt (K : PySem.W.Frag) (td ty : TE) : TE := fun σ H Q => td σ H fun x H1 => ty σ H1 fun y H2 => ∃ a b o Z d v kvs, x = .ref a ∧ y = .ref b ∧ H2 a = some (DicO a o) ∧ Same Z H2 ∧ DicOk K Z a o kvs ∧ Dd K Z (.ref b) d ∧ KeyD d ∧ getK kvs d = some v ∧ ∀ z, Dd K Z z v → Q z H2
/-- {} -/
def tDicNew (K : PySem.W.Frag) : TE := fun σ H Q => ∀ p o, H p = none → (∀ Z, DicOk K Z p o []) → Q (.ref p) (upd H p (DicO p o))
section
variable {X : Cx} {o i e value : Expr} {pos pos' tpos : PySem.Pos} {td ty tv tk : TE}
theorem paired_len {α β : Type} {F : α → β → Prop} {l : List α} {m : List β} (h : Paired F l m) : l.length = m.length := by
  induction h with
  | nil => rfl
  | cons _ _ ih => simp [ih]
theorem ps_dicput (hu : X.A.units + 64 < cLine) (ho : PE X o td) (hi : PE X i ty) (hv : PE X value tv) (hs : swapsWith value (some (.Subscript o i pos')) pos.line X.env = pure false) :
    PS X (.Assign [.Subscript o i pos'] value pos) (sDicPut X.K td ty tv) := by
  refine ⟨fun pins s σ H D I h => ?_⟩
  refine wpAny_Assign_Subscript (thn (hv.run pins s σ H _ I h) fun r s1 ⟨v, H1, I1, rv, q1⟩ => thn (ho.run pins s1 σ H1 _ I1 q1) fun u s2 ⟨x, H2, I2, rx, q2⟩ => thn (hi.run pins s2 σ H2 _ I2 q2) fun iv s3 ⟨y, H3, I3, ry, a, b, ob, Z, d, vd, kvs, ex, ey, ha, hz, ok, hb, hk, hvd, hl, q3⟩ => ?_) hs
  subst ex ey
  obtain rfl : u = Value.ref a := rx
  obtain rfl : iv = Value.ref b := ry
  obtain ⟨ds, k, rfl, hk1, hk2⟩ := hk
  obtain ⟨xs, hm, hp⟩ := dic_of I3 hz ha ok
  have hxl := paired_len hp
  refine wpAny_setItem_heap (knd := nestedKind X.prog X.w) (hsz := by rw [sizeLine_eq, hxl]; omega) (show X.A.in1.units + 8 < cLine by show X.A.units + 1 + 8 < cLine; omega) (⟨dd_nested I3 hz _ _ _ _ hb rfl hk1, hk2⟩) hm fun h' hm' hsb => ?_
  obtain ⟨o', e', ok'⟩ := dic_to ok.sm hm' (pair_put hp hk1 hk2 hb rv hvd)
  exact ⟨σ, _, d_write I3 (by rw [ha]; exact True.intro) hsb ⟨o', e'⟩ (dic_obj e'), q3 o' ok'⟩
theorem pe_dicat (hu : X.A.units + 64 < cLine) (ho : PE X o td) (hi : PE X i ty) (hs : NoSl i) : PE X (.Subscript o i pos) (tDicAt X.K td ty) := by
  refine ⟨fun pins s σ H Q I h => ?_⟩
  refine subD_of PySem.F.slot_dict_getitem.lookup hs (thn (ho.run pins s σ H _ I h) fun u s1 ⟨x, H1, I1, rx, q1⟩ => thn (hi.run pins s1 σ H1 _ I1 q1) fun iv s2 ⟨y, H2, I2, ry, a, b, ob, Z, d, v, kvs, ex, ey, ha, hz, ok, hb, hk, hg, q2⟩ => ?_)
  subst ex ey
  obtain rfl : u = Value.ref a := rx
  obtain rfl : iv = Value.ref b := ry
  obtain ⟨ds, k, rfl, hk1, hk2⟩ := hk
  obtain ⟨xs, hm, hp⟩ := dic_of I2 hz ha ok
  refine ⟨hm.typeIs, ?_⟩
  rcases pair_get hp hk1 with ⟨_, z2⟩ | ⟨a1, u1, v1, w1, z1, z2, r1, d1⟩
  · rw [z2] at hg; cases hg
  · rw [z2] at hg; cases hg
    exact wpAny_getItem_heap (knd := nestedKind X.prog X.w) (show X.A.in1.units + 8 < cLine by show X.A.units + 1 + 8 < cLine; omega) (⟨dd_nested I2 hz _ _ _ _ hb rfl hk1, hk2⟩) hm z1 ⟨w1, H2, I2.tok _, r1, q2 w1 d1⟩
theorem dic_empty {K : PySem.W.Frag} {p : Addr} (hb : (p == sysModules) = false) (Z : Hp) : DicOk K Z p { cls := .type "dict", data := .dict #[] } [] :=
  ⟨hb, ⟨rfl, rfl, rfl⟩, #[], 0, [], rfl, fun _ => rfl, List.nodup_nil, .nil⟩
theorem pe_dicnew : PE X (.Dict [] [] pos) (tDicNew X.K) := ⟨fun pins s σ H Q I h => by
  have hb := beq_eq_false_iff_ne.mpr (Ne.symm (Nat.ne_of_lt (I.big)))
  exact wpAny_Dict_empty ⟨.ref s.heap.objs.size, _, I.laid (a := s.heap.objs.size) (o := DicO _ { cls := .type "dict", data := .dict #[] }) (t' := s.toks) (fun _ _ q => Heap.get?_push_of_some _ q) (Nat.le_refl _) (dic_obj (Heap.get?_push_size _ rfl)), rfl, h _ _ (I.hok.fresh (Nat.le_refl _)) fun Z => dic_empty hb Z⟩⟩
end
/-! ### the state of a body -/
section
variable {K : PySem.W.Frag} {C : Ct} {g g' : Gm} {σ : St} {H Z : Hp}
/-- where no code record can stand -/
theorem heap_with {o : Obj} (ho : o.isFreed = false) : ∀ a : Addr, ∃ h : Heap, h.get? a = some o ∧ h.objs.size = a + 1 := by
  intro a
  induction a with
  | zero =>
    refine ⟨({} : Heap).push o, ?_, rfl⟩
    exact Heap.get?_push_size {} ho
  | succ a ih =>
    obtain ⟨h, _, e⟩ := ih
    refine ⟨h.push o, ?_, ?_⟩
    · have := Heap.get?_push_size h ho
      rw [e] at this
      exact this
    · show (h.objs.push _).size = _
      simp [e]
theorem dic_ne_code {a : Addr} {o : Obj} {q : Str} {es : Array DictEntry} {ep : Nat} (hd : o.data = .dict es ep) : DicO a o ≠ LamX.CodeO a q := fun z => by
  unfold DicO LamX.CodeO at z
  injection z with z
  have ho : o.isFreed = false := by
    obtain ⟨c1, d1, dt, sl⟩ := o
    cases (show dt = _ from hd)
    rfl
  obtain ⟨h, e, _⟩ := heap_with ho a
  have e1 := congrFun z h
  obtain ⟨oc, vs, t, h1, h2, _⟩ := e1.mp e
  rw [e] at h1
  cases h1
  rw [hd] at h2
  cases h2
/-- a slot takes a new dict -/
theorem Ok.setDc (I : Ok K C g σ H Z) {i : Nat} {p : Addr} {o : Obj} {kvs : List (PyData × PyData)} (e : H p = some (DicO p o)) (ok : DicOk K Z p o kvs) (hz : Z p = none) (h0 : C.H0 p = none) (hl2 : kvs.length ≤ 1000000) (hno : ∀ (j : Nat) (w : Option Nat) (es : List (PyData × PyData)), g[j]? = some (Ent.dc w es) → σ[j]? ≠ some (some (V.ref p))) (s : SetE g i (.dc none kvs) g') : Ok K C g' (σ.set i (some (.ref p))) H Z := by
  have hl : i < σ.length := by rw [← I.ln]; exact s.len.2
  refine ⟨by rw [List.length_set, s.len.1, I.ln], I.fz, I.fr, I.z0, I.nw, I.b0, I.wz, I.wh, fun j e' h => ?_, fun j k w w' ds es a h1 h2 h3 h4 => ?_, I.tb, I.tz, fun j k w w' ds' es a h1 h2 h3 h4 => ?_⟩
  · by_cases q : j = i
    · subst q
      rw [s.same] at h; cases h
      exact ⟨p, o, List.getElem?_set_self hl, e, ok, hz, h0, hl2⟩
    · rw [s.ne q] at h
      rw [List.getElem?_set_ne (Ne.symm q)]
      exact I.ent j e' h
  · have q1 : j ≠ i := fun z => by subst z; rw [s.same] at h1; cases h1
    have q2 : k ≠ i := fun z => by subst z; rw [s.same] at h2; cases h2
    rw [s.ne q1] at h1; rw [s.ne q2] at h2
    rw [List.getElem?_set_ne (Ne.symm q1)] at h3
    rw [List.getElem?_set_ne (Ne.symm q2)] at h4
    exact I.inj j k w w' ds es a h1 h2 h3 h4
  · by_cases q1 : j = i
    · by_cases q2 : k = i
      · rw [q1, q2]
      · subst q1
        rw [List.getElem?_set_self hl] at h3
        cases h3
        rw [s.ne q2] at h2
        rw [List.getElem?_set_ne (Ne.symm q2)] at h4
        exact absurd h4 (hno k w' es h2)
    · rw [s.ne q1] at h1
      rw [List.getElem?_set_ne (Ne.symm q1)] at h3
      by_cases q2 : k = i
      · subst q2
        rw [List.getElem?_set_self hl] at h4
        cases h4
        exact absurd h3 (hno j w ds' h1)
      · rw [s.ne q2] at h2
        rw [List.getElem?_set_ne (Ne.symm q2)] at h4
        exact I.injD j k w w' ds' es a h1 h2 h3 h4
/-- a dict of its own in a slot -/
theorem Ok.ownD (I : Ok K C g σ H Z) {j : Nat} {w : Option Nat} {kvs : List (PyData × PyData)} {v : V} (h : g[j]? = some (.dc w kvs)) (hv : σ[j]? = some (some v)) :
    ∃ a o, v = .ref a ∧ H a = some (DicO a o) ∧ DicOk K Z a o kvs ∧ Z a = none ∧ OwnOk C w a ∧ kvs.length ≤ 1000000 := by
  obtain ⟨a, o, e1, e2, e3, e4, e5, e6⟩ := I.ent j _ h
  rw [hv] at e1; cases e1
  exact ⟨a, o, rfl, e2, e3, e4, e5, e6⟩
/-- .. is changed -/
theorem Ok.putDc (I : Ok K C g σ H Z) {j : Nat} {w : Option Nat} {ds es : List (PyData × PyData)} {a : Addr} {o' : Obj} (h : g[j]? = some (.dc w ds)) (hv : σ[j]? = some (some (V.ref a))) (hy : DicOk K Z a o' es) (hl : es.length ≤ 1000000) (s : SetE g j (.dc w es) g') :
    Ok K C g' σ (upd H a (DicO a o')) Z := by
  obtain ⟨b, o, e0, e2, e3, e4, e5, e6⟩ := I.ownD h hv
  cases e0
  obtain ⟨esA, epA, xsA, hdat, _⟩ := e3.ex
  have nT : ∀ p ∈ C.T, p.1 ≠ a := fun p hp z => by
    obtain ⟨ps, q, _⟩ := I.tb p hp
    rw [z, e2] at q
    exact dic_ne_tbl (Option.some.inj q)
  refine ⟨s.len.1.trans I.ln, fun b o q => ?_, fun b o q hw ht => ?_, I.z0, I.nw, I.b0, I.wz, fun b hb => ?_, fun k e hk => ?_, fun i k v v' ds' es' b h1 h2 h3 h4 => ?_, fun p hp => ?_, I.tz, fun i k v v' ds' es' b h1 h2 h3 h4 => ?_⟩
  · rw [upd_ne (ne_of_none q e4)]; exact I.fz b o q
  · have ne : b ≠ a := fun z => by
      subst z
      cases w with
      | none =>
        have z : C.H0 b = none := e5
        rw [z] at q; cases q
      | some k => exact hw (List.mem_of_getElem? (show C.W[k]? = some b from e5))
    rw [upd_ne ne]; exact I.fr b o q hw ht
  · by_cases z : b = a
    · subst z; rw [upd_same]; rfl
    · rw [upd_ne z]; exact I.wh b hb
  · by_cases q : k = j
    · subst q
      rw [s.same] at hk; cases hk
      exact ⟨a, o', hv, upd_same, hy, e4, e5, hl⟩
    · rw [s.ne q] at hk
      have r := I.ent k e hk
      cases e with
      | no => trivial
      | im d => exact r
      | ls w2 ds2 =>
        obtain ⟨b, zs, f1, f2, f3, f4, f5⟩ := r
        have ne : b ≠ a := fun z => (dic_ne e2 f2) z.symm
        exact ⟨b, zs, f1, by rw [upd_ne ne]; exact f2, f3, f4, f5⟩
      | vl v => exact r
      | dc w2 ds2 =>
        obtain ⟨b, ob, f1, f2, f3, f4, f5, f6⟩ := r
        have ne : b ≠ a := fun z => by subst z; exact q (I.injD k j w2 w ds2 ds _ hk h f1 hv)
        exact ⟨b, ob, f1, by rw [upd_ne ne]; exact f2, f3, f4, f5, f6⟩
  · have q1 : i ≠ j := fun z => by subst z; rw [s.same] at h1; cases h1
    have q2 : k ≠ j := fun z => by subst z; rw [s.same] at h2; cases h2
    rw [s.ne q1] at h1; rw [s.ne q2] at h2
    exact I.inj i k v v' ds' es' b h1 h2 h3 h4
  · obtain ⟨ps, q1, q2, q3⟩ := I.tb p hp
    refine ⟨ps, by rw [upd_ne (nT p hp)]; exact q1, q2, fun pos cv hc => ?_⟩
    obtain ⟨c, c1, c2⟩ := q3 pos cv hc
    have ne : c ≠ a := fun z => by
      subst z
      rw [e2] at c2
      exact dic_ne_code hdat (Option.some.inj c2)
    exact ⟨c, c1, by rw [upd_ne ne]; exact c2⟩
  · have l : ∀ {i : Nat} {v : Option Nat} {ds' : List (PyData × PyData)}, g'[i]? = some (.dc v ds') → ∃ v'' ds'', g[i]? = some (Ent.dc v'' ds'') := fun {i v ds'} h1 => by
      by_cases q : i = j
      · subst q; exact ⟨w, ds, h⟩
      · rw [s.ne q] at h1; exact ⟨v, ds', h1⟩
    obtain ⟨v1, d1, k1⟩ := l h1
    obtain ⟨v2, d2, k2⟩ := l h2
    exact I.injD i k v1 v2 d1 d2 b k1 k2 h3 h4
end
end AL
/-! unreachable_reason: for the walk. -/
namespace AL
open PySem PySem.Spec L2
theorem OkSt.heat {n : Nat} {L : List Bl} (O : OkSt n L) (hn : n ≤ 1900) : (∀ i, Rb 4390 (sumTo (heatL L) i)) ∧ ∀ q ∈ heatL L, Rb 4390 q := by
  obtain ⟨D, d0, d1, d2⟩ := O.cd
  have g := heatL_gr d0 O.szs d2
  have hl : (heatL L).length ≤ 12 := by unfold heatL; rw [List.length_map]; exact O.most
  refine ⟨fun i => ?_, fun q hq => ((g q hq).rb d0 d1).mono (by omega)⟩
  have := sum_gr (n := n + 7) d0 (l := (heatL L).take i) fun q hq => g q (List.mem_of_mem_take hq)
  have h2 : ((heatL L).take i).length ≤ 12 := by rw [List.length_take]; omega
  exact (this.rb d0 d1).mono (by omega)
theorem OkSt.pos {n : Nat} {L : List Bl} (O : OkSt n L) : Pos L := fun b hb => by have := O.szs b hb; unfold Sz at this; omega
theorem OkSt.posD {n : Nat} {L : List Bl} (O : OkSt n L) : Pos (dscL L) := fun b hb => O.pos b ((dscL_perm L).subset hb)
theorem OkSt.hto {n : Nat} {L : List Bl} {x : Int} (O : OkSt n L) (hn : n ≤ 1900) (hx : 0 ≤ x) (i : Nat) (hi : i ≤ 12) : Rb 4390 (hto (dscL L) x i).1 ∧ 0 ≤ (hto (dscL L) x i).2 ∧ (hto (dscL L) x i).2 ≤ x := by
  obtain ⟨D, d0, d1, d2⟩ := O.cd
  have hp := dscL_perm L
  exact ⟨((hto_gr d0 (fun b hb => O.szs b (hp.subset hb)) (fun b hb => d2 b (hp.subset hb)) hx i).rb d0 d1).mono (by omega), hto_nn O.posD hx i⟩
theorem OkSt.tot {n : Nat} {L : List Bl} (O : OkSt n L) : tot L ≤ 1200 := tot_le O.most O.szs
end AL
/-! x //= e, x *= e. -/
namespace AL
open PySem PySem.Spec L2
theorem as_augR {K : PySem.W.Frag} {C : Ct} {te : TE} {g : Gm} {D : Ae} {i : Nat} {R : Int → Int → Prop} {f : Int → Int → Int} {a : Int} (h0 : g[i]? = some (.im (.int a))) (h : AE K C te g fun x g1 => ∃ b g2, x = .d (.int b) ∧ R a b ∧ SetE g1 i (.im (.int (f a b))) g2 ∧ D.nx g2) : AS K C (tAug i te (rI R fun i j => .int (f i j))) g D := fun σ H Z I D' d => by
  obtain ⟨v, e1, e2⟩ := I.ent i _ h0
  refine ⟨v, e1, h σ H Z I _ fun w H1 Z1 x g1 I1 s1 a1 q1 => ?_⟩
  obtain ⟨b, g2, rfl, hR, h2, q⟩ := q1
  cases e2; cases a1
  exact ⟨a, b, rfl, rfl, hR, d.nx g2 _ H1 Z1 (I1.setD (Dd.int _) h2) s1 q⟩
section
variable {X : Cx} {C : Ct} {g : Gm} {D : Ae} {e : Expr} {x : Str} {pos p' : PySem.Pos}
theorem es_augDiv {i : Nat} {v : Int} (l : Lc X i x) (h0 : g[i]? = some (.im (.int v))) (h : EE X C e g fun x g1 => ∃ b g2, x = .d (.int b) ∧ CDivW v b ∧ SetE g1 i (.im (.int (v / b))) g2 ∧ D.nx g2) : ES X C (.AugAssign (.Name x p') .FloorDiv e pos) g D := ES.of (ps_aug l.nd l.hN l.loc pe_t iop_fdivW l.fn) (as_augR h0 h)
theorem iop_mulN : OpR X (inplaceOp .Mult) (rI CMulW fun i j => .int (i * j)) := opI fun _ _ _ _ _ _ _ hc q => PySem.P.imul_int q hc.ok
theorem es_augMul {i : Nat} {v : Int} (l : Lc X i x) (h0 : g[i]? = some (.im (.int v))) (h : EE X C e g fun x g1 => ∃ b g2, x = .d (.int b) ∧ CMulW v b ∧ SetE g1 i (.im (.int (v * b))) g2 ∧ D.nx g2) : ES X C (.AugAssign (.Name x p') .Mult e pos) g D := ES.of (ps_aug l.nd l.hN l.loc pe_t iop_mulN l.fn) (as_augR h0 h)
end
theorem lf_augDiv {g : Gm} {y : Av} {i : Nat} {v b : Int} {g2 : Gm} {φ : Gm → Prop} (hy : y = .d (.int b)) (hR : CDivW v b) (s : SetE g i (.im (.int (v / b))) g2) (q : φ g2) : ∃ b g2, y = .d (.int b) ∧ CDivW v b ∧ SetE g i (.im (.int (v / b))) g2 ∧ φ g2 := ⟨b, g2, hy, hR, s, q⟩
theorem lf_augMul {g : Gm} {y : Av} {i : Nat} {v b : Int} {g2 : Gm} {φ : Gm → Prop} (hy : y = .d (.int b)) (hR : CMulW v b) (s : SetE g i (.im (.int (v * b))) g2) (q : φ g2) : ∃ b g2, y = .d (.int b) ∧ CMulW v b ∧ SetE g i (.im (.int (v * b))) g2 ∧ φ g2 := ⟨b, g2, hy, hR, s, q⟩
end AL
/-! unreachable_reason: for the walk, further. -/
namespace AL
open PySem PySem.Spec L2
section
variable {X : Cx} {C : Ct} {g : Gm} {pos : PySem.Pos} {Q : Av → Gm → Prop} {x : Str}
theorem ee_glT2 {a b : Int} (n : Gn X x) (t : TupC X.K X.mg x [a, b]) (q : Q (.d (.tuple [.int a, .int b])) g) : EE X C (.Name x pos) g Q := ee_glT n t q
end
end AL
/-! A state that touches reach has no reason against it. -/
namespace AL
open PySem PySem.Spec L2
/-! ### the blocks two by two -/
theorem list_prs (L : List Bl) : prs L (List.range L.length) = L := by
  unfold prs
  refine List.ext_getElem (by simp) fun k h1 h2 => ?_
  simp only [List.getElem_map, List.getElem_range]
  unfold siz tmp
  rw [getD_eq h2]
theorem range_split {n i j : Nat} (hi : i < n) (hj : j < n) (hij : i ≠ j) : (List.range n).Perm (i :: j :: rest2 (List.range n) i j) := by
  rw [List.perm_ext_iff_of_nodup List.nodup_range]
  · intro x
    simp only [List.mem_cons, rest2, List.mem_filter, List.mem_range, decide_eq_true_eq]
    constructor
    · intro h1
      by_cases a : x = i
      · exact .inl a
      · by_cases c : x = j
        · exact .inr (.inl c)
        · exact .inr (.inr ⟨h1, a, c⟩)
    · rintro (rfl | rfl | ⟨h, _⟩)
      · exact hi
      · exact hj
      · exact h
  · rw [List.nodup_cons, List.nodup_cons]
    exact ⟨by simp [rest2, hij], by simp [rest2], List.nodup_range.filter _⟩
/-- M is L but for i and j, whose heat together is the same -/
structure Mov (L M : List Bl) (i j : Nat) : Prop where
  len : M.length = L.length
  sz : ∀ x, x < L.length → siz M x = siz L x
  tx : ∀ x, x < L.length → x ≠ i → x ≠ j → tmp M x = tmp L x
  heat : (siz L i : Rat) * tmp M i + (siz L j : Rat) * tmp M j = (siz L i : Rat) * tmp L i + (siz L j : Rat) * tmp L j
theorem Mov.rest {L M : List Bl} {i j : Nat} (h : Mov L M i j) : prs M (rest2 (List.range L.length) i j) = prs L (rest2 (List.range L.length) i j) := by
  unfold prs
  refine List.map_congr_left fun x hx => ?_
  have h1 := List.mem_filter.mp hx
  have h2 := List.mem_range.mp h1.1
  have h3 : x ≠ i ∧ x ≠ j := by simpa using h1.2
  rw [h.sz x h2, h.tx x h2 h3.1 h3.2]
theorem perm_two {L : List Bl} {i j : Nat} (hi : i < L.length) (hj : j < L.length) (hij : i ≠ j) : L.Perm ((siz L i, tmp L i) :: (siz L j, tmp L j) :: prs L (rest2 (List.range L.length) i j)) := by
  have := (range_split hi hj hij).map fun o => (siz L o, tmp L o)
  have e : (List.range L.length).map (fun o => (siz L o, tmp L o)) = L := list_prs L
  rw [e] at this
  exact this
theorem Mov.perm {L M : List Bl} {i j : Nat} (h : Mov L M i j) (hi : i < L.length) (hj : j < L.length) (hij : i ≠ j) : M.Perm ((siz L i, tmp M i) :: (siz L j, tmp M j) :: prs L (rest2 (List.range L.length) i j)) := by
  have := perm_two (L := M) (i := i) (j := j) (by rw [h.len]; exact hi) (by rw [h.len]; exact hj) hij
  rw [h.sz i hi, h.sz j hj, h.len, h.rest] at this
  exact this
theorem heatS_cons (b : Bl) (l : List Bl) : heatS (b :: l) = (b.1 : Rat) * b.2 + heatS l := rfl
theorem heatS_perm {l m : List Bl} (h : l.Perm m) : heatS l = heatS m := by
  induction h with
  | nil => rfl
  | cons x _ ih => rw [heatS_cons, heatS_cons, ih]
  | swap x y l => rw [heatS_cons, heatS_cons, heatS_cons, heatS_cons]; grind
  | trans _ _ ih1 ih2 => exact ih1.trans ih2
theorem Mov.heatF {L M : List Bl} {i j : Nat} (h : Mov L M i j) (hi : i < L.length) (hj : j < L.length) (hij : i ≠ j) : heatF M = heatF L := by
  rw [heatF_eq, heatF_eq, heatS_perm (h.perm hi hj hij), heatS_perm (perm_two hi hj hij), heatS_cons, heatS_cons, heatS_cons, heatS_cons]
  have := h.heat
  grind
theorem Mov.tot {L M : List Bl} {i j : Nat} (h : Mov L M i j) (hi : i < L.length) (hj : j < L.length) (hij : i ≠ j) : tot M = tot L := by
  rw [tot_perm (h.perm hi hj hij), tot_perm (perm_two hi hj hij)]
  rw [tot_cons, tot_cons, tot_cons, tot_cons]
/-- both end between where they were: nothing above any temperature is won -/
theorem Mov.phi {n : Nat} {L M : List Bl} {i j : Nat} (O : OkSt n L) (h : Mov L M i j) (hi : i < L.length) (hj : j < L.length) (hij : i ≠ j) (hle : tmp L i ≤ tmp L j) (h1 : tmp L i ≤ tmp M i ∧ tmp M i ≤ tmp L j) (h2 : tmp L i ≤ tmp M j ∧ tmp M j ≤ tmp L j) (t : Rat) : phi t M ≤ phi t L := by
  rw [phi_perm (h.perm hi hj hij), phi_perm (perm_two hi hj hij), phi_cons, phi_cons, phi_cons, phi_cons]
  have := pst_two (t := t) (cast_pos (siz_pos O hi)) (cast_pos (siz_pos O hj)) h.heat h1.1 h1.2 h2.1 h2.2
  grind
theorem Mov.symm {L M : List Bl} {i j : Nat} (h : Mov L M i j) : Mov L M j i := ⟨h.len, h.sz, fun x a b c => h.tx x a c b, by have := h.heat; grind⟩
/-- what holds no more above any temperature -/
def Les (L M : List Bl) : Prop := tot M = tot L ∧ heatF M = heatF L ∧ ∀ t, phi t M ≤ phi t L
theorem Les.refl (L : List Bl) : Les L L := ⟨rfl, rfl, fun _ => Rat.le_refl⟩
theorem Les.trans {L M N : List Bl} (h : Les L M) (k : Les M N) : Les L N := ⟨k.1.trans h.1, k.2.1.trans h.2.1, fun t => Rat.le_trans (k.2.2 t) (h.2.2 t)⟩
/-! ### touches -/
/-! ### what is left of a smooth number -/
/-! ### the lattice -/
/-- q is a whole number of steps, over a power of P -/
def Sm (P : Nat) (st q : Rat) : Prop := ∃ (m : Nat) (z : Int), q * (((P ^ m : Nat) : Int) : Rat) = (z : Rat) * st
theorem Sm.add {P : Nat} {st p q : Rat} (h : Sm P st p) (k : Sm P st q) : Sm P st (p + q) := by
  obtain ⟨m, z, e⟩ := h
  obtain ⟨n, y, f⟩ := k
  refine ⟨m + n, z * ((P ^ n : Nat) : Int) + y * ((P ^ m : Nat) : Int), ?_⟩
  rw [Nat.pow_add, Int.natCast_mul, Rat.intCast_mul, Rat.intCast_add, Rat.intCast_mul, Rat.intCast_mul]
  have e1 : p * ((((P ^ m : Nat) : Int) : Rat) * (((P ^ n : Nat) : Int) : Rat)) = (z : Rat) * st * (((P ^ n : Nat) : Int) : Rat) := by rw [← e]; grind
  have e2 : q * ((((P ^ m : Nat) : Int) : Rat) * (((P ^ n : Nat) : Int) : Rat)) = (y : Rat) * st * (((P ^ m : Nat) : Int) : Rat) := by rw [← f]; grind
  grind
theorem Sm.mul {P : Nat} {st q : Rat} (c : Int) (h : Sm P st q) : Sm P st ((c : Rat) * q) := by
  obtain ⟨m, z, e⟩ := h
  refine ⟨m, c * z, ?_⟩
  rw [Rat.intCast_mul]
  have : (c : Rat) * q * (((P ^ m : Nat) : Int) : Rat) = (c : Rat) * ((z : Rat) * st) := by rw [← e]; grind
  rw [this]; grind
theorem Sm.one {P : Nat} {st q : Rat} {z : Int} (h : q = (z : Rat) * st) : Sm P st q := ⟨0, z, by
  rw [Nat.pow_zero, h]
  have : (((1 : Nat) : Int) : Rat) = 1 := rfl
  rw [this]; grind⟩
/-- .. its denominator in steps divides a power of P -/
theorem Sm.den {P : Nat} {st q : Rat} (hP : 0 < P) (hs : ¬ st = 0) (h : Sm P st q) : ∃ m, (q / st).den ∣ P ^ m := by
  obtain ⟨m, z, e⟩ := h
  refine ⟨m, den_of (Nat.pow_pos hP) (k := z) ?_⟩
  rw [Rat.div_def]
  have : q * st⁻¹ * (((P ^ m : Nat) : Int) : Rat) = q * (((P ^ m : Nat) : Int) : Rat) * st⁻¹ := by grind
  rw [this, e, Rat.mul_assoc, Rat.mul_inv_cancel _ hs, Rat.mul_one]
end AL
/-! The drawn states of the laws on reasons; sequences cut in two. -/
namespace AL
open PySem PySem.Spec L2
/-- fit blocks -/
def Eac (L : List Bl) : Prop := ∀ b ∈ L, Sz b.1 ∧ Rb 40 b.2
theorem Eac.at {L : List Bl} (h : Eac L) {i : Nat} (hi : i < L.length) : Sz (siz L i) ∧ Rb 40 (tmp L i) := by
  unfold siz tmp
  rw [getD_eq hi]
  exact h _ (List.getElem_mem hi)
theorem Eac.put {L : List Bl} (h : Eac L) {i : Nat} {t : Rat} (hi : i < L.length) (ht : Rb 40 t) : Eac (putT L i t) := fun b hb => by
  unfold putT at hb
  rcases List.mem_or_eq_of_mem_set hb with q | q
  · exact h b q
  · subst q
    exact ⟨(h.at hi).1, ht⟩
theorem Eac.st {L : List Bl} (h : Eac L) (h1 : 1 ≤ L.length) (h2 : L.length ≤ 12) : OkSt 481 L := OkSt.of_rb (m := 40) h1 h2 h
/-! ### no touches: only the state itself -/
/-! ### sequences cut in two -/
end AL
/-! xs.count(x), data of any depth. -/
namespace AL
open PySem PySem.Spec L2
def rCntD (K : PySem.W.Frag) : V → List V → Hp → VK → Prop := fun x xs H Q => ∃ y d ds, xs = [y] ∧ Dp K H x (.list ds) ∧ Dp K H y d ∧ SeqAt.shaped d = true ∧ PyData.canLayAll0 ds = true ∧ Q (.int ((ds.countP fun z => PyData.eqv z d : Nat) : Int)) H
theorem mt_countD {X : Cx} (hu : X.A.units + 66 < cLine) : MtR X "list.count" (rCntD X.K) := by
  intro pins s σ H x xs v us Q I rx rxs h
  obtain ⟨y, d, ds, rfl, hx, hy, sd, se, q⟩ := h
  obtain ⟨u, rfl, ru⟩ := rxs.one
  obtain ⟨as, r1⟩ := Dp.reads I (.list ds) x v hx rx
  obtain ⟨bs, r2⟩ := Dp.reads I d y u hy ru
  have room : X.A.units + 1 + min (PyData.depthAll ds) d.depth < cLine := by have := SeqAt.depth_of_shaped sd; omega
  cases r1 with
  | list h1 h2 h3 h4 => exact SeqAt.count_list_data ⟨_, h1, h2, _, h3⟩ h4 r2 (PyData.plainAll_of_canLay0 _ se) (PyData.plain_of_canLay0 _ (SeqAt.canLay_of_shaped sd)) room ⟨.int _, H, I.tok _, ⟨_, rfl⟩, q⟩
section
variable {X : Cx} {C : Ct} {g : Gm} {o e : Expr} {pos apos : PySem.Pos} {k : Nat} {Q : Av → Gm → Prop}
/-- of a list that is data -/
theorem ee_count (hr : Room k X.A) (h : EE X C o g fun x g1 => ∃ ds, x = .d (.list ds) ∧ EE X C e g1 fun y g2 => ∃ d, y = .d d ∧ SeqAt.shaped d = true ∧ PyData.canLayAll0 ds = true ∧ Q (.d (.int ((ds.countP fun z => PyData.eqv z d : Nat) : Int))) g2)
    (hbase : attributeBase o "count" X.env (eval o X.env) = eval o X.env := by rfl) (hline : (apos.endLine == pos.line) = true := by rfl) (hs : starEach [e] X.env = (false, eval e X.env) :: starEach [] X.env := by rfl)
    (hfew : ((backTo pos (starEach [e] X.env)).all (fun x => !x.1) && (backToKw pos (keywordEach [] X.env)).all (fun x => x.1.isSome) && decide ([e].length + ([] : List Keyword).length + (if ([] : List Keyword).isEmpty then 0 else 1) < 30)) = true := by rfl) :
    EE X C (.Call (.Attribute o "count" apos) [e] [] pos) g Q :=
  EE.of (pe_bm PySem.F.plainAttrs_list PySem.F.slot_list_count PySem.F.type_list_count (mt_countD (by have := hr.un; omega)) pe_t pa_t hbase hfew hline hs rfl) fun σ H Z I P p =>
    h σ H Z I _ fun v H1 Z1 x g1 I1 s1 a1 q1 => by
      obtain ⟨ds, rfl, h2⟩ := q1
      have a1' : Dd X.K Z1 v (.list ds) := a1
      have a1k := a1'
      cases a1' with
      | @lst ad xs _ z1 z2 =>
        refine ⟨.inl ⟨rfl, xs, SqL.of (I1.fz _ _ z1)⟩, ?_⟩
        refine (show EA X C [e] g1 (fun ys g2 => ∃ y d, ys = [y] ∧ y = .d d ∧ SeqAt.shaped d = true ∧ PyData.canLayAll0 ds = true ∧ Q (.d (.int ((ds.countP fun z => PyData.eqv z d : Nat) : Int))) g2) from ea_cons (h2.mono fun y g2 q => by
          obtain ⟨d, q⟩ := q
          exact ea_nil ⟨y, d, rfl, q⟩) hs) σ H1 Z1 I1 _ fun vs H2 Z2 ys g2 I2 s2 a2 q => ?_
        obtain ⟨y, d, rfl, rfl, sd, se, q⟩ := q
        cases a2 with
        | @cons _ vy _ _ ay a3 =>
          cases a3
          have ay' : Dd X.K Z2 vy d := ay
          exact ⟨vy, d, ds, rfl, Dd.dp I2.fz (.list ds) _ (by simp [PyData.canLay0, se]) (Dd.mono s2 _ _ a1k), Dd.dp I2.fz d vy (SeqAt.canLay_of_shaped sd) ay', sd, se, p _ H2 Z2 (.d (.int _)) g2 I2 (s1.trans s2) (Dd.int _) q⟩
end
end AL
/-! Heat moved: two blocks brought together by a part. -/
namespace AL
open PySem PySem.Spec L2
/-! ### who is how warm then -/
end AL
/-! k34: states made by bringing pairs together. -/
namespace AL
open PySem PySem.Spec L2
/-! ### the reason then -/
end AL
/-! The heat of an amount, unit by unit; the first excess is the least amount with more heat. -/
namespace AL
open PySem PySem.Spec L2
/-! ### units of temperature, warmest first -/
def expd (l : List Bl) : List Rat := l.flatMap fun b => List.replicate b.1.toNat b.2
theorem expd_cons (b : Bl) (l : List Bl) : expd (b :: l) = List.replicate b.1.toNat b.2 ++ expd l := rfl
def unsC (u : List Rat) (b : Bl) : Nat := (u.filter fun x => !decide (x < b.2)).length
def unsIns (u : List Rat) (b : Bl) : List Rat := u.take (unsC u b) ++ List.replicate b.1.toNat b.2 ++ u.drop (unsC u b)
def unsL (L : List Bl) : List Rat := L.foldl unsIns []
def DesR (u : List Rat) : Prop := u.Pairwise fun a b => b ≤ a
theorem uns_split {u : List Rat} {b : Bl} (h : DesR u) : u.take (unsC u b) = u.filter (fun x => !decide (x < b.2)) ∧ u.drop (unsC u b) = u.filter (fun x => !(!decide (x < b.2))) := by
  unfold unsC
  refine filter_take (α := Rat) (R := fun a c => c ≤ a) (p := fun x => !decide (x < b.2)) (fun x y hxy hy => ?_) h
  simp only [Bool.not_eq_true', decide_eq_false_iff_not] at hy ⊢
  grind
theorem unsIns_perm (u : List Rat) (b : Bl) : (unsIns u b).Perm (List.replicate b.1.toNat b.2 ++ u) := by
  unfold unsIns
  refine (List.Perm.append_right _ List.perm_append_comm).trans ?_
  rw [List.append_assoc, List.take_append_drop]
theorem unsIns_des {u : List Rat} {b : Bl} (h : DesR u) : DesR (unsIns u b) := by
  unfold unsIns DesR
  obtain ⟨e1, e2⟩ := uns_split (b := b) h
  rw [e1, e2, List.append_assoc, List.pairwise_append, List.pairwise_append]
  refine ⟨h.filter _, ⟨?_, h.filter _, fun x hx c hc => ?_⟩, fun x hx c hc => ?_⟩
  · rw [List.pairwise_replicate]; exact .inr Rat.le_refl
  · have := List.eq_of_mem_replicate hx
    subst this
    have := (List.mem_filter.mp hc).2
    simp at this
    grind
  · have h1 := (List.mem_filter.mp hx).2
    simp at h1
    rcases List.mem_append.mp hc with hc | hc
    · have := List.eq_of_mem_replicate hc
      subst this
      grind
    · have h2 := (List.mem_filter.mp hc).2
      simp at h2
      grind
theorem unsF {L : List Bl} : ∀ {acc : List Rat}, DesR acc → DesR (L.foldl unsIns acc) ∧ (L.foldl unsIns acc).Perm (expd L ++ acc) := by
  induction L with
  | nil => intro acc h; exact ⟨h, List.Perm.refl _⟩
  | cons b L ih =>
    intro acc h
    obtain ⟨h1, h2⟩ := ih (unsIns_des (b := b) h)
    refine ⟨h1, h2.trans ?_⟩
    rw [expd_cons]
    refine (List.Perm.append_left (expd L) (unsIns_perm acc b)).trans ?_
    rw [← List.append_assoc]
    exact List.Perm.append_right _ List.perm_append_comm
theorem expd_des {l : List Bl} (h : Des l) : DesR (expd l) := by
  induction l with
  | nil => exact List.Pairwise.nil
  | cons b l ih =>
    obtain ⟨h1, h2⟩ := List.pairwise_cons.mp h
    rw [expd_cons]
    unfold DesR
    rw [List.pairwise_append]
    refine ⟨List.pairwise_replicate.mpr (.inr Rat.le_refl), ih h2, fun x hx c hc => ?_⟩
    have := List.eq_of_mem_replicate hx
    subst this
    obtain ⟨d, hd, hc⟩ := List.mem_flatMap.mp hc
    have := List.eq_of_mem_replicate hc
    subst this
    exact h1 d hd
theorem unsL_eq (L : List Bl) : unsL L = expd (dscL L) := by
  obtain ⟨h1, h2⟩ := unsF (L := L) (acc := []) List.Pairwise.nil
  rw [List.append_nil] at h2
  refine List.Perm.eq_of_pairwise (le := fun a b : Rat => b ≤ a) (fun a b _ _ p q => Rat.le_antisymm q p) h1 (expd_des (dscL_des L)) (h2.trans ?_)
  exact (List.Perm.flatMap_right _ (dscL_perm L)).symm
theorem expd_len {l : List Bl} (z : Pos l) : ((expd l).length : Int) = tot l := by
  induction l with
  | nil => rfl
  | cons b l ih =>
    have zb := z b (by simp)
    have := ih fun p hp => z p (by simp [hp])
    rw [expd_cons, List.length_append, List.length_replicate, tot_cons]; omega
theorem unsL_len {L : List Bl} (z : Pos L) : ((unsL L).length : Int) = tot L := by
  rw [unsL_eq, expd_len fun p hp => z p ((dscL_perm L).subset hp), tot_perm (dscL_perm L)]
/-! ### their sums -/
theorem fold_add (l : List Rat) (a : Rat) : l.foldl (· + ·) a = a + l.foldl (· + ·) 0 := by
  induction l generalizing a with
  | nil => show a = a + 0; grind
  | cons b l ih =>
    show l.foldl (· + ·) (a + b) = a + l.foldl (· + ·) (0 + b)
    rw [ih (a + b), ih (0 + b)]; grind
theorem sum_rep (n : Nat) (q : Rat) : (List.replicate n q).foldl (· + ·) 0 = ((n : Int) : Rat) * q := by
  induction n with
  | zero => show (0 : Rat) = ((0 : Int) : Rat) * q; have : ((0 : Int) : Rat) = 0 := rfl; grind
  | succ n ih =>
    rw [List.replicate_succ]
    show (List.replicate n q).foldl (· + ·) (0 + q) = _
    rw [fold_add, ih]
    have : (((n + 1 : Nat) : Int) : Rat) = ((n : Int) : Rat) + 1 := by
      rw [show ((n + 1 : Nat) : Int) = (n : Int) + 1 by omega, Rat.intCast_add]; rfl
    rw [this]; grind
theorem hr_sum : ∀ {l : List Bl} {x : Int}, Pos l → 0 ≤ x → x ≤ tot l → hr l x = sumTo (expd l) x.toNat
  | [], x, _, h0, h1 => by
    have h2 : x ≤ 0 := h1
    have : x = 0 := by omega
    subst this; rfl
  | b :: l, x, z, h0, h1 => by
    have zb := z b (by simp)
    have zl : Pos l := fun p hp => z p (by simp [hp])
    rw [tot_cons] at h1
    have tl := tot_nn zl
    show ((prt b.1 x : Int) : Rat) * b.2 + hr l (x - prt b.1 x) = _
    rw [expd_cons]
    unfold sumTo
    rw [List.take_append, List.foldl_append, fold_add, List.length_replicate, List.take_replicate]
    have e1 : prt b.1 x = ((min x.toNat b.1.toNat : Nat) : Int) := by unfold prt; split <;> omega
    rw [sum_rep, ← e1]
    have ih := hr_sum (l := l) (x := x - prt b.1 x) zl (by unfold prt; split <;> omega) (by unfold prt; split <;> omega)
    rw [ih]
    have e2 : (x - prt b.1 x).toNat = x.toNat - b.1.toNat := by unfold prt; split <;> omega
    unfold sumTo
    rw [e2]
theorem hoa_sum {L : List Bl} {k : Nat} (z : Pos L) (h : (k : Int) ≤ tot L) : hoa (dscL L) (k : Int) = sumTo (unsL L) k := by
  rw [hoa_hr, unsL_eq, hr_sum (fun p hp => z p ((dscL_perm L).subset hp)) (by omega) (by rw [tot_perm (dscL_perm L)]; exact h), Int.toNat_natCast]
/-! ### constant between the points where the slope changes -/
section
variable {L M : List Bl}
end
end AL
/-! xs * n, lists; len(str(n)). -/
namespace AL
open PySem PySem.Spec L2
theorem DdA.rep {K : PySem.W.Frag} {Z : Hp} {xs : List V} {ds : List PyData} (h : DdA K Z xs ds) : ∀ k : Nat, DdA K Z (List.replicate k xs).flatten (List.replicate k ds).flatten
  | 0 => DdA.nil
  | k + 1 => by
    rw [List.replicate_succ, List.replicate_succ, List.flatten_cons, List.flatten_cons]
    exact h.append (DdA.rep h k)
section
variable {X : Cx} {C : Ct} {g : Gm} {a b : Expr} {pos : PySem.Pos} {QL : List PyData → Gm → Prop}
/-- a new list -/
theorem en_rep (h : EE X C a g fun x g1 => EE X C b g1 fun y g2 => ∃ ds k, KL g2 x ds ∧ y = .d (.int k) ∧ 0 ≤ k ∧ k ≤ 1000000 ∧ ds.length * k.toNat ≤ 1000000 ∧ QL (List.replicate k.toNat ds).flatten g2) : EN X C (.BinOp a .Mult b pos) g QL :=
  EN.of (pe_op op_rep pe_t pe_t) fun σ H Z I P p => h σ H Z I _ fun v H1 Z1 x g1 I1 s1 a1 h1 => h1 σ H1 Z1 I1 _ fun w H2 Z2 y g2 I2 s2 a2 q => by
    obtain ⟨ds, k, hx, rfl, k0, k1, hl, q⟩ := q
    have a2' : Dd X.K Z2 w (.int k) := a2
    cases a2'
    have get : ∃ ad xs, v = .ref ad ∧ H2 ad = some (.lst xs) ∧ DdA X.K Z2 xs ds := by
      have az := a1.mono s2
      rcases hx with rfl | ⟨j, w, rfl, hj⟩
      · have az' : Dd X.K Z2 v (.list ds) := az
        cases az' with
        | @lst ad xs _ b1 b2 => exact ⟨ad, xs, rfl, I2.fz _ _ b1, b2⟩
      · obtain ⟨ad, xs, e, o2, o3, o4, o5⟩ := I2.own hj az
        exact ⟨ad, xs, e, o2, o4⟩
    obtain ⟨ad, xs, rfl, b1, b2⟩ := get
    refine ⟨ad, k, xs, rfl, rfl, b1, by omega, by omega, by rw [b2.length]; exact Nat.le_trans hl (by decide), fun l hl => ?_⟩
    obtain ⟨m1, m2, m3⟩ := I2.new hl
    exact p l _ Z2 _ g2 (I2.newO hl) (s1.trans s2) ⟨⟨_, upd_same, b2.rep k.toNat⟩, m1, m2, m3⟩ q
end
/-- what a target leaves -/
theorem eg_cut {X : Cx} {C : Ct} {tg : Expr} {x : Av} {g : Gm} {Q R : Gm → Prop} (h : EG X C tg x g R) (k : ∀ g', R g' → Q g') : EG X C tg x g Q :=
  fun σ H Z v I a P p => h σ H Z v I a P fun g' σ' H' Z' I' s q => p g' σ' H' Z' I' s (k g' q)
end AL
/-! The reason, by sums of units; k33: heat moved. -/
namespace AL
open PySem PySem.Spec L2
section
variable {n m : Nat} {L M : List Bl}
end
/-! ### what the law lists -/
theorem OkSt.sums {n : Nat} {L : List Bl} (O : OkSt n L) (hn : n ≤ 1900) {k : Nat} (hk : k ≤ (unsL L).length) : Rb 4390 (sumTo (unsL L) k) := by
  have hl := unsL_len O.pos
  rw [← hoa_sum O.pos (by omega), ← hto_all]
  exact (O.hto hn (by omega) _ (by rw [dscL_len]; exact O.most)).1
/-! ### k33: the second state -/
end AL
/-! k81 and its like: small states, touches behind them, all short sequences. -/
namespace AL
open PySem PySem.Spec L2
/-! ### small states -/
/-! ### touches behind -/
/-! ### k81: the second state -/
/-! ### all sequences -/
end AL
/-! f(g(..), ..): f changes a list that nobody else holds. -/
namespace AL
open PySem PySem.Spec L2
section
variable {K : PySem.W.Frag} {C : Ct} {g : Gm} {σ : St} {H Z : Hp}
theorem New.set (I : Ok K C g σ H Z) {D : Addr} {acc acc' : List PyData} (n : New K C g σ H Z D acc) {xs ys : List V} (hx : H D = some (.lst xs)) (hd : DdA K Z ys acc') (nW : D ∉ C.W) :
    Ok K C g σ (upd H D (.lst ys)) Z := by
  refine ⟨I.ln, fun a o q => ?_, fun a o q hw ht => ?_, I.z0, I.nw, I.b0, I.wz, fun a q => ?_, fun k en q => ?_, I.inj, Tabs.keep I.tb (fun a o q nn => ?_), I.tz, I.injD⟩
  · rw [upd_ne (ne_of_none q n.nz)]; exact I.fz a o q
  · rw [upd_ne (ne_of_none q n.n0)]; exact I.fr a o q hw ht
  · rw [upd_ne (fun z => nW (by rw [← z]; exact q))]; exact I.wh a q
  · have r := I.ent k en q
    cases en with
    | no => trivial
    | im d => exact r
    | ls w ds2 =>
      obtain ⟨a, zs, f1, f2, f3, f4, f5⟩ := r
      have ne : a ≠ D := fun z => by subst z; exact n.no k w ds2 q f1
      exact ⟨a, zs, f1, by rw [upd_ne ne]; exact f2, f3, f4, f5⟩
    | vl v => exact r
    | dc w ds2 =>
      obtain ⟨a, o, f1, f2, f3, f4, f5, f6⟩ := r
      have ne : a ≠ D := dic_ne f2 hx
      exact ⟨a, o, f1, by rw [upd_ne ne]; exact f2, f3, f4, f5, f6⟩
  · rw [upd_ne (fun z => by subst z; rw [hx] at q; cases q; exact nn _ rfl)]; exact q
end
def AllC (C : Ct) (P : Ct → Prop) : Prop := ∀ C' : CtT C, P C'.1
theorem allC_of {C : Ct} {P : Ct → Prop} (h : ∀ C' : CtT C, P C'.1) : AllC C P := h
section
variable {X : Cx} {C : Ct} {g : Gm} {e : Expr} {es : List Expr} {x : Str} {p pos : PySem.Pos} {Q : Av → Gm → Prop}
theorem ee_callMF {k n : Nat} {S : ConM} (c : Cal X x k (spM X.K n S)) (hr : Room k X.A) (n1 : Gn X x)
    (h : EN X C e g fun ds g1 => AllC C fun C' => EA X C' es g1 fun rest g2 => rest.length + 1 = n ∧ ∃ as r ds', CvA g2 rest as ∧ S ds as r ds' ∧ Q (.d r) g2)
    (he : starEach (e :: es) X.env = (false, eval e X.env) :: starEach es X.env := by rfl) (hpl : (backTo pos (starEach es X.env)).any (·.1) = false := by rfl) : EE X C (.Call (.Name x p) (e :: es) [] pos) g Q := by
  obtain ⟨f, fd, ps, F, m, kp, B⟩ := c.ex
  refine EE.of (pe_call (dvs := []) (ds := []) (E := E0) F hr n1.gl m kp B .nil pass0 (pa_cons pe_t pa_t he) n1.d1 he hpl) fun σ H Z I P pp => ?_
  refine h σ H Z I _ fun D H1 Z1 ds g1 I1 s1 nw q1 => ?_
  obtain ⟨xs, hx, hd⟩ := nw.at_
  have nW : D ∉ C.W := fun z => by
    have := (I1.wz D z).1
    rw [nw.n0] at this; cases this
  have nT := I1.nT nw.n0
  have nZ : C.Z0 D = none := by
    cases q : C.Z0 D with
    | none => rfl
    | some o => have := I1.z0 D o q; rw [nw.nz] at this; cases this
  refine q1 ⟨C.with D xs, rfl⟩ σ H1 Z1 (I1.safe nw hx) _ fun vs H2 Z2 rest g2 I2 s2 a2 q2 => ?_
  obtain ⟨hl, as, r, ds', cv, hS, q⟩ := q2
  obtain ⟨I3, d1, d2, d3⟩ := Ok.unsafe nw.n0 nW nT nZ I2
  rw [List.append_nil]
  refine ⟨by rw [List.length_cons, a2.length, hl], D, vs, Z2, xs, ds, as, r, ds', rfl, d1, d2, I3.fz, hd.mono s2, cv.run a2, hS, fun v H' Z' ys h1 h2 h3 h4 h5 h6 h7 h8 => ?_⟩
  have e0 : H' = upd (fun b => if b = D then some (.lst xs) else H' b) D (.lst ys) := by
    funext b
    by_cases z : b = D
    · subst z; rw [upd_same]; exact h2
    · rw [upd_ne z]; simp [z]
  have I4 : Ok X.K (C.with D xs) g2 σ (fun b => if b = D then some (.lst xs) else H' b) Z' := by
    refine I2.grow (fun b o q => ?_) h3 (fun b o q => ?_) h6
    · by_cases z : b = D
      · subst z; rw [d1] at q; cases q; simp
      · simp only [z, if_false]; exact h1 b o z q
    · by_cases z : b = D
      · subst z; rw [h5] at q; cases q
      · simp only [z, if_false]; exact h4 b o q
  obtain ⟨I5, f1, f2, f3⟩ := Ok.unsafe nw.n0 nW nT nZ I4
  have n5 : New X.K C g2 σ (fun b => if b = D then some (.lst xs) else H' b) Z' D ds := ⟨⟨xs, f1, (hd.mono s2).mono h3⟩, f2, nw.n0, f3⟩
  have I6 := New.set I5 n5 f1 h7 nW
  rw [← e0] at I6
  exact pp v H' Z' (.d r) g2 I6 ((s1.trans s2).trans h3) h8 q
theorem lf_callMF {S : ConM} {n : Nat} {rest : List Av} {as : List Ar} {g2 : Gm} {ds ds' : List PyData} {r : PyData} (hn : rest.length + 1 = n) (cv : CvA g2 rest as) (con : S ds as r ds') {φ : PyData → Prop} (q : φ r) : rest.length + 1 = n ∧ ∃ as r ds', CvA g2 rest as ∧ S ds as r ds' ∧ φ r := ⟨hn, as, r, ds', cv, con, q⟩
end
end AL
/-! The foreign part of a number, by powers; the greatest step over one denominator. -/
namespace AL
open PySem PySem.Spec L2
/-! ### what is taken out divides a power -/
/-! ### the number of digits -/
/-! ### one denominator for all -/
/-! ### the product of the sums -/
/-! ### str(n), len of a text -/
section
variable {X : Cx} {C : Ct} {g : Gm} {K : PySem.W.Frag} {e : Expr} {pos p : PySem.Pos} {Q : Av → Gm → Prop}
theorem ee_strI (n : Bn X "str") (h : EE X C e g fun x g1 => ∃ i : Int, x = .d (.int i) ∧ i.natAbs.log2 < 1920 ∧ Q (.d (.str (Str.ofString (toString i)))) g1) (he : starEach [e] X.env = (false, eval e X.env) :: starEach [] X.env := by rfl) : EE X C (.Call (.Name "str" p) [e] [] pos) g Q :=
  ee_callTy call_str_int n (by decide +kernel) (ea_cons (h.mono fun x g1 q => ea_nil fun σ H Z vs I a P pp => by
    obtain ⟨i, rfl, hz, q⟩ := q
    cases a with
    | cons a1 a2 =>
      cases a2; cases a1
      exact ⟨i, rfl, hz, pp _ H Z (.d (.str _)) g1 I (Same.refl _) (Dd.str _) q⟩) he) he rfl
end
/-! ### bounds of the foreign part -/
end AL
/-! k35: the reason as the law computes it; its states. -/
namespace AL
open PySem PySem.Spec L2
/-! ### what is shown -/
/-! ### the law's states -/
end AL
/-! sum(xs) of numbers; k35: the second state. -/
namespace AL
open PySem PySem.Spec L2
section
variable {X : Cx} {C : Ct} {g : Gm} {e : Expr} {pos p : PySem.Pos} {Q : Av → Gm → Prop}
theorem rc_sum {K : PySem.W.Frag} {x : Av} {ns : List Int} (hx : KL g x (ns.map PyData.int)) (q : Q (.d (.int ns.sum)) g) : RC K C (rSum K) [x] g Q := fun σ H Z vs I a P p => by
  cases a with
  | @cons _ v _ _ a1 a2 =>
    cases a2
    have fin : ∀ ad xs, v = .ref ad → SqL K H ad xs → DdA K Z xs (ns.map PyData.int) → rSum K [v] H P := fun ad xs e h1 h2 => by
      have e2 := h2.ints
      subst e2 e
      exact ⟨ad, ns, rfl, h1, p _ H Z (.d (.int _)) g I (Same.refl _) (Dd.int _) q⟩
    rcases hx with rfl | ⟨j, w, rfl, hj⟩
    · have h' : Dd K Z v (.list (ns.map PyData.int)) := a1
      cases h' with
      | @lst ad xs _ b1 b2 => exact fin ad xs rfl (SqL.of (I.fz _ _ b1)) b2
    · obtain ⟨ad, xs, e, o2, o3, o4, o5⟩ := I.own hj a1
      exact fin ad xs e (SqL.of o2) o4
theorem ee_sumI (n1 : Bn X "sum") (hc : X.calm = true) (h : EE X C e g fun x g1 => ∃ ns : List Int, KL g1 x (ns.map PyData.int) ∧ Q (.d (.int ns.sum)) g1) (he : starEach [e] X.env = (false, eval e X.env) :: starEach [] X.env := by rfl) : EE X C (.Call (.Name "sum" p) [e] [] pos) g Q :=
  ee_callB (cr_sum hc) n1 (by decide +kernel) (ea_cons (h.mono fun x g1 q => ea_nil (by
    obtain ⟨ns, hx, q⟩ := q
    exact rc_sum hx q)) he) he (by rfl)
end
end AL
/-! all(xs), xs.extend(ys), sum(t). -/
namespace AL
open PySem PySem.Spec L2 PyProof.Rows
def rSumA (K : PySem.W.Frag) : List V → Hp → VK → Prop := fun vs H Q => ∃ (a : Addr) (ns : List Int), vs = [V.ref a] ∧ (SqT K H a (ns.map V.int) ∨ SqL K H a (ns.map V.int)) ∧ Q (.int ns.sum) H
theorem cr_sumA {X : Cx} (hc : X.calm = true) : CallR X (.builtin "sum") (rSumA X.K) := by
  intro pins s σ H vs us Q I r h
  obtain ⟨a, ns, rfl, hs | hs, q⟩ := h
  · obtain ⟨its, rv, ht, hz⟩ := I.tuple hs
    rw [Vals.ref1 r]
    have hi := rv.ints
    obtain ⟨xs, hx⟩ := hi.allInts.items
    have hn : numsOf its.toArray.toList = ns := by rw [show its.toArray.toList = its from rfl, hi.numsOf]
    rw [hx] at ht hn
    rw [nums_intItems] at hn
    refine PySem.W.ktm_sumG (I.ok.hd hc) ht fun h' tk t' hk => ?_
    rw [preSum_eq, List.take_of_length_le (by simp), hn]
    exact ⟨.int _, H, I.kept hk, ⟨_, rfl⟩, q⟩
  · exact cr_sum hc pins s σ H [V.ref a] us Q I r ⟨a, ns, rfl, hs, q⟩
section
variable {X : Cx} {C : Ct} {g : Gm} {o e : Expr} {pos apos p : PySem.Pos} {Q : Av → Gm → Prop}
theorem rc_sumA {K : PySem.W.Frag} {x : Av} {ns : List Int} (hx : x = .d (.tuple (ns.map PyData.int)) ∨ KL g x (ns.map PyData.int)) (q : Q (.d (.int ns.sum)) g) : RC K C (rSumA K) [x] g Q := fun σ H Z vs I a P p => by
  cases a with
  | @cons _ v _ _ a1 a2 =>
    cases a2
    have fin : ∀ ad xs, v = .ref ad → (SqT K H ad xs ∨ SqL K H ad xs) → DdA K Z xs (ns.map PyData.int) → rSumA K [v] H P := fun ad xs e h1 h2 => by
      have e2 := h2.ints
      subst e2 e
      exact ⟨ad, ns, rfl, h1, p _ H Z (.d (.int _)) g I (Same.refl _) (Dd.int _) q⟩
    rcases hx with rfl | rfl | ⟨j, w, rfl, hj⟩
    · have h' : Dd K Z v (.tuple (ns.map PyData.int)) := a1
      cases h' with
      | @tup ad xs _ b1 b2 => exact fin ad xs rfl (.inl (Same.seqT I.fz b1)) b2
    · have h' : Dd K Z v (.list (ns.map PyData.int)) := a1
      cases h' with
      | @lst ad xs _ b1 b2 => exact fin ad xs rfl (.inr (SqL.of (I.fz _ _ b1))) b2
    · obtain ⟨ad, xs, e, o2, o3, o4, o5⟩ := I.own hj a1
      exact fin ad xs e (.inr (SqL.of o2)) o4
theorem ee_sumA (n1 : Bn X "sum") (hc : X.calm = true) (h : EE X C e g fun x g1 => ∃ ns : List Int, (x = .d (.tuple (ns.map PyData.int)) ∨ KL g1 x (ns.map PyData.int)) ∧ Q (.d (.int ns.sum)) g1) (he : starEach [e] X.env = (false, eval e X.env) :: starEach [] X.env := by rfl) : EE X C (.Call (.Name "sum" p) [e] [] pos) g Q :=
  ee_callB (cr_sumA hc) n1 (by decide +kernel) (ea_cons (h.mono fun x g1 q => ea_nil (by
    obtain ⟨ns, hx, q⟩ := q
    exact rc_sumA hx q)) he) he (by rfl)
/-! ### all -/
theorem DdA.bls {K : PySem.W.Frag} {Z : Hp} : ∀ {bs : List Bool} {xs : List V}, DdA K Z xs (bs.map PyData.bool) → xs = bs.map V.bl
  | [], _, h => by cases h; rfl
  | b :: bs, _, h => by
    cases h with
    | cons h1 h2 =>
      cases h1
      rw [DdA.bls h2]; rfl
theorem ee_allB (n1 : Bn X "all") (hc : X.calm = true) (h : EE X C e g fun x g1 => ∃ bs : List Bool, KL g1 x (bs.map PyData.bool) ∧ Q (.d (.bool (bs.all id))) g1) (he : starEach [e] X.env = (false, eval e X.env) :: starEach [] X.env := by rfl) : EE X C (.Call (.Name "all" p) [e] [] pos) g Q :=
  ee_callB (cr_all hc) n1 (by decide +kernel) (ea_cons (h.mono fun x g1 q => ea_nil (by
    obtain ⟨bs, hx, q⟩ := q
    intro σ H Z vs I a P pp
    cases a with
    | @cons _ v _ _ a1 a2 =>
      cases a2
      have fin : ∀ ad xs, v = .ref ad → SqL X.K H ad xs → DdA X.K Z xs (bs.map PyData.bool) → rAll X.K [v] H P := fun ad xs e h1 h2 => by
        have e2 := DdA.bls h2
        subst e2 e
        exact ⟨ad, bs, rfl, h1, pp _ H Z (.d (.bool _)) g1 I (Same.refl _) (Dd.bl _) q⟩
      rcases hx with rfl | ⟨j, w, rfl, hj⟩
      · have h' : Dd X.K Z v (.list (bs.map PyData.bool)) := a1
        cases h' with
        | @lst ad xs _ b1 b2 => exact fin ad xs rfl (SqL.of (I.fz _ _ b1)) b2
      · obtain ⟨ad, xs, e, o2, o3, o4, o5⟩ := I.own hj a1
        exact fin ad xs e (SqL.of o2) o4)) he) he (by rfl)
/-! ### extend -/
theorem ee_extend (h : EE X C o g fun x g1 => ∃ j w0 ds0, x = .o j ∧ g1[j]? = some (.ls w0 ds0) ∧ EE X C e g1 fun y g2 => ∃ w ds es g3, KL g2 y es ∧ g2[j]? = some (.ls w ds) ∧ ds.length + es.length ≤ 1000000 ∧ SetE g2 j (.ls w (ds ++ es)) g3 ∧ Q (.d .none) g3)
    (hbase : attributeBase o "extend" X.env (eval o X.env) = eval o X.env := by rfl) (hline : (apos.endLine == pos.line) = true := by rfl) (hs : starEach [e] X.env = (false, eval e X.env) :: starEach [] X.env := by rfl)
    (hfew : ((backTo pos (starEach [e] X.env)).all (fun x => !x.1) && (backToKw pos (keywordEach [] X.env)).all (fun x => x.1.isSome) && decide ([e].length + ([] : List Keyword).length + (if ([] : List Keyword).isEmpty then 0 else 1) < 30)) = true := by rfl) :
    EE X C (.Call (.Attribute o "extend" apos) [e] [] pos) g Q :=
  EE.of (pe_bm PySem.F.plainAttrs_list PySem.F.slot_list_extend PySem.F.type_list_extend mt_extend pe_t pa_t hbase hfew hline hs rfl) fun σ H Z I P p =>
    h σ H Z I _ fun v H1 Z1 x g1 I1 s1 a1 q1 => by
      obtain ⟨j, w0, ds0, rfl, hj0, h2⟩ := q1
      obtain ⟨ad, xs0, rfl, o2, o3, o4, o5⟩ := I1.own hj0 a1
      refine ⟨.inl ⟨rfl, xs0, SqL.of o2⟩, ?_⟩
      refine (show EA X C [e] g1 (fun ys g2 => ∃ y w ds es g3, ys = [y] ∧ KL g2 y es ∧ g2[j]? = some (.ls w ds) ∧ ds.length + es.length ≤ 1000000 ∧ SetE g2 j (.ls w (ds ++ es)) g3 ∧ Q (.d .none) g3) from ea_cons (h2.mono fun y g2 q => by
        obtain ⟨w, ds, es, g3, q⟩ := q
        exact ea_nil ⟨y, w, ds, es, g3, rfl, q⟩) hs) σ H1 Z1 I1 _ fun vs H2 Z2 ys g2 I2 s2 a2 q => ?_
      obtain ⟨y, w, ds, es, g3, rfl, kl, hj, hl, hs4, q⟩ := q
      cases a2 with
      | @cons _ vy _ _ ay a3 =>
        cases a3
        have get : ∃ bd ys, vy = .ref bd ∧ H2 bd = some (.lst ys) ∧ DdA X.K Z2 ys es := by
          rcases kl with rfl | ⟨k, w', rfl, hk⟩
          · have az' : Dd X.K Z2 vy (.list es) := ay
            cases az' with
            | @lst bd ys _ b1 b2 => exact ⟨bd, ys, rfl, I2.fz _ _ b1, b2⟩
          · obtain ⟨bd, ys, e0, r2, r3, r4, r5⟩ := I2.own hk ay
            exact ⟨bd, ys, e0, r2, r4⟩
        obtain ⟨bd, ys, rfl, b1, b2⟩ := get
        obtain ⟨ad', xs, e0, o2', o3', o4', o5'⟩ := I2.own hj a1
        cases e0
        refine ⟨ad, bd, xs, ys, rfl, rfl, o2', b1, by rw [o4'.length, b2.length]; exact Nat.le_trans hl (by decide), ?_⟩
        exact p .non _ Z2 (.d .none) g3 (I2.put hj a1 (o4'.append b2) hs4) (s1.trans s2) Dd.non q
theorem lf_extend {g g3 : Gm} {y : Av} {j : Nat} {w : Option Nat} {ds es : List PyData} {φ : Gm → Prop} (kl : KL g y es) (hj : g[j]? = some (.ls w ds)) (hl : ds.length + es.length ≤ 1000000) (hs : SetE g j (.ls w (ds ++ es)) g3) (q : φ g3) :
    ∃ w ds es g3, KL g y es ∧ g[j]? = some (.ls w ds) ∧ ds.length + es.length ≤ 1000000 ∧ SetE g j (.ls w (ds ++ es)) g3 ∧ φ g3 := ⟨w, ds, es, g3, kl, hj, hl, hs, q⟩
end
end AL
/-! equalize, for more than four blocks. -/
namespace AL
open PySem PySem.Spec L2
def dbl8 : List (Nat × Nat) := [(0, 1), (2, 3), (4, 5), (6, 7), (0, 2), (1, 3), (4, 6), (5, 7), (0, 4), (1, 5), (2, 6), (3, 7)]
/-- rows of the doubling touches -/
def dblR (d : Nat) : List (Nat × Nat) := ((List.range 8).filter fun one => decide (one / d % 2 = 0)).map fun one => (one, one + d)
theorem dbl8_eq : dblR 1 ++ dblR 2 ++ dblR 4 = dbl8 := by decide
end AL
/-! Doubling touches bring eight equal blocks together. -/
namespace AL
open PySem PySem.Spec L2
/-- where the doubling stands -/
def DblAt (m d : Nat) (ds : List (Nat × Nat)) : Prop := (m = 3 ∧ d = 1 ∧ ds = []) ∨ (m = 2 ∧ d = 2 ∧ ds = dblR 1) ∨ (m = 1 ∧ d = 4 ∧ ds = dblR 1 ++ dblR 2) ∨ (m = 0 ∧ d = 8 ∧ ds = dbl8)
theorem DblAt.d {m d : Nat} {ds : List (Nat × Nat)} (h : DblAt m d ds) : 1 ≤ d ∧ d ≤ 8 ∧ ds.length ≤ 24 := by
  rcases h with ⟨_, rfl, rfl⟩ | ⟨_, rfl, rfl⟩ | ⟨_, rfl, rfl⟩ | ⟨_, rfl, rfl⟩ <;> decide
theorem DblAt.go {m d : Nat} {ds : List (Nat × Nat)} (h : DblAt m d ds) (hd : d < 8) : ∃ m', m' < m ∧ DblAt m' (d * 2) (ds ++ dblR d) := by
  rcases h with ⟨rfl, rfl, rfl⟩ | ⟨rfl, rfl, rfl⟩ | ⟨rfl, rfl, rfl⟩ | ⟨rfl, rfl, rfl⟩
  · exact ⟨2, by decide, .inr (.inl ⟨rfl, rfl, rfl⟩)⟩
  · exact ⟨1, by decide, .inr (.inr (.inl ⟨rfl, rfl, rfl⟩))⟩
  · exact ⟨0, by decide, .inr (.inr (.inr ⟨rfl, rfl, dbl8_eq⟩))⟩
  · omega
theorem DblAt.fin {m d : Nat} {ds : List (Nat × Nat)} (h : DblAt m d ds) (hd : ¬ d < 8) : ds = dbl8 := by
  rcases h with ⟨_, rfl, _⟩ | ⟨_, rfl, _⟩ | ⟨_, rfl, _⟩ | ⟨_, _, rfl⟩
  · omega
  · omega
  · omega
  · rfl
end AL
/-! len(set(t)), t a tuple of numbers. -/
namespace AL
open PySem PySem.Spec PyProof.Rows L2
def tLenSetT (K : PySem.W.Frag) (te : TE) : TE := fun τ G R => te τ G fun x G1 => ∃ (p : Addr) (ns : List Int), x = V.ref p ∧ SqT K G1 p (ns.map V.int) ∧ ns.length < 1000 ∧ ∀ D : List Int, D.Nodup → (∀ k, k ∈ D ↔ k ∈ ns) → R (.int D.length) G1
theorem pe_lenSetT {Y : Cx} {b : Expr} {tb : TE} {q1 q2 q3 q4 : PySem.Pos} (calm : Y.calm = true) (gl : Gl Y "len") (ml : Y.mg "len" = none) (gs : Gl Y "set") (ms : Y.mg "set" = none) (hb : PE Y b tb)
    (hs : starEach [b] Y.env = (false, eval b Y.env) :: starEach [] Y.env) : PE Y (.Call (.Name "len" q1) [.Call (.Name "set" q2) [b] [] q3] [] q4) (tLenSetT Y.K tb) := by
  refine ⟨fun ps0 s0 τ G R J hyp => ?_⟩
  refine Call_ (ld_blt J gl ml boot_len (callWith_builtin1 (args_cons ?_ rfl) rfl rfl))
  refine Call_ (ld_blt J gs ms boot_set (callWith_type1 (args_cons (thn (hb.run ps0 s0 τ G _ J hyp) fun v s1 ans => args_nil ?_) hs) hs rfl))
  obtain ⟨x, G1, J1, rx, p, ns, rfl, sq, few, fin⟩ := ans
  cases rx
  obtain ⟨items, vv, pl, sz⟩ := J1.tuple sq
  refine call_set_tupI (items := items.toArray) ns (J1.ok.hd calm) pl (by simpa using vv.ints) (by unfold scanBound; omega) fun h2 tk2 c made hc stays => args_nil ?_
  obtain ⟨ob, es, ep, tb2, at2, ex2, dt2, _, nd, mem, lim, fit2, cnt, _⟩ := made
  have J2 : Inv Y ps0 τ G1 { s1 with heap := h2, toks := tk2 } := J1.kept stays
  have hl : (es.toList.map keyOf).length = es.size := by rw [List.length_map, Array.length_toList]
  exact call_len_set at2 ex2 dt2 fit2 (by rw [cnt]; omega) ⟨.int (es.toList.map keyOf).length, G1, J2.tok _, ⟨_, by rw [hl]⟩, fin _ nd fun k => by rw [← mem k, decide_eq_true_eq]⟩
section
variable {X : Cx} {C : Ct} {g : Gm} {e : Expr} {pos p p2 p3 : PySem.Pos} {Q : Av → Gm → Prop}
theorem ee_lenSetU (n1 : Bn X "len") (n2 : Bn X "set") (hc : X.calm = true) (h : EE X C e g fun x g1 => ∃ ns : List Int, x = .d (.tuple (ns.map PyData.int)) ∧ ns.length < 1000 ∧ ∀ D : List Int, D.Nodup → (∀ k, k ∈ D ↔ k ∈ ns) → Q (.d (.int D.length)) g1)
    (he : starEach [e] X.env = (false, eval e X.env) :: starEach [] X.env := by rfl) : EE X C (.Call (.Name "len" p) [.Call (.Name "set" p2) [e] [] p3] [] pos) g Q :=
  EE.of (pe_lenSetT hc n1.gl n1.mg n2.gl n2.mg pe_t he) fun σ H Z I P pp => h σ H Z I _ fun v H1 Z1 x g1 I1 s1 a1 q1 => by
    obtain ⟨ns, rfl, few, q⟩ := q1
    have h' : Dd X.K Z1 v (.tuple (ns.map PyData.int)) := a1
    cases h' with
    | @tup ad xs _ b1 b2 =>
      have := b2.ints
      subst this
      exact ⟨ad, ns, rfl, Same.seqT I1.fz b1, few, fun D nd mem => pp _ _ Z1 (.d (.int (D.length : Nat))) g1 I1 s1 (Dd.int _) (q D nd mem)⟩
end
end AL
/-! list(range(n)). -/
namespace AL
open PySem PySem.Spec L2
theorem dda_rgI {K : PySem.W.Frag} {Z : Hp} : ∀ {is : List Int}, DdA K Z (is.map V.int) (is.map PyData.int)
  | [] => .nil
  | i :: is => .cons (.int i) dda_rgI
theorem rgV_ints (k : Int) : rgV 0 k = ((List.range k.toNat).map fun i => (0 : Int) + (i : Nat)).map V.int := by
  unfold rgV
  rw [List.map_map, Int.sub_zero]; rfl
theorem rangeD_ints (n : Nat) : rangeD 0 n = ((List.range n).map fun i => (0 : Int) + (i : Nat)).map PyData.int := by
  unfold rangeD
  rw [List.map_map]; rfl
section
variable {X : Cx} {C : Ct} {g : Gm} {e : Expr} {pos p p2 pos2 : PySem.Pos} {QL : List PyData → Gm → Prop}
theorem en_listRng (n1 : Bn X "list") (n2 : Bn X "range") (hc : X.calm = true) (h : EE X C e g fun x g1 => ∃ k : Int, x = .d (.int k) ∧ 0 ≤ k ∧ k ≤ 1000000 ∧ QL (rangeD 0 k.toNat) g1)
    (he : starEach [e] X.env = (false, eval e X.env) :: starEach [] X.env := by rfl) (he2 : starEach [.Call (.Name "range" p2) [e] [] pos2] X.env = (false, eval (.Call (.Name "range" p2) [e] [] pos2) X.env) :: starEach [] X.env := by rfl) : EN X C (.Call (.Name "list" p) [.Call (.Name "range" p2) [e] [] pos2] [] pos) g QL :=
  EN.of (pe_listRg hc n1.gl n1.mg (prg_1 n2.gl n2.mg pe_t he) he2) fun σ H Z I P pp => h σ H Z I _ fun v H1 Z1 x g1 I1 s1 a1 q1 => by
    obtain ⟨k, rfl, k0, k1, q⟩ := q1
    have a1' : Dd X.K Z1 v (.int k) := a1
    cases a1'
    refine ⟨k, rfl, RgOk.of_le (by decide) (by omega) (by decide) k0, fun l hl => ?_⟩
    obtain ⟨m1, m2, m3⟩ := I1.new hl
    refine pp l _ Z1 (rangeD 0 k.toNat) g1 (I1.newO hl) s1 ⟨⟨rgV 0 k, upd_same, ?_⟩, m1, m2, m3⟩ q
    rw [rgV_ints, rangeD_ints]
    exact dda_rgI
variable {x : Str} {i j1 j2 : Nat} {great : Bool} {Q : Av → Gm → Prop}
end
end AL
/-! Rows of touches from a pool. -/
namespace AL
open PySem PySem.Spec L2
end AL
/-! Limits never widen; a plan carried out touch by touch. -/
namespace AL
open PySem PySem.Spec L2
variable {n : Nat} {L : List Bl} {b : Nat} {up : Bool} {ts : List (Nat × Nat)}
theorem Rb.sub {n m : Nat} {p q : Rat} (h : Rb n p) (k : Rb m q) : Rb (n + m + 1) (p - q) := by
  rw [Rat.sub_eq_add_neg]
  refine h.add ⟨?_, ?_⟩
  · rw [Rat.neg_num]; show (-q.num).natAbs < _; rw [Int.natAbs_neg]; exact k.1
  · rw [Rat.neg_den]; exact k.2
end AL
/-! xs.pop(i) of an own list. -/
namespace AL
open PySem PySem.Spec L2
theorem DdA.eraseIdx {K : PySem.W.Frag} {Z : Hp} : ∀ {ds : List PyData} {vs : List V} (i : Nat), DdA K Z vs ds → DdA K Z (vs.eraseIdx i) (ds.eraseIdx i)
  | [], _, i, h => by cases h; exact .nil
  | d :: ds, _, 0, h => by cases h with | cons a b => exact b
  | d :: ds, _, i + 1, h => by cases h with | cons a b => exact .cons a (DdA.eraseIdx i b)
section
variable {X : Cx} {C : Ct} {g : Gm} {o e : Expr} {pos apos : PySem.Pos} {Q : Av → Gm → Prop}
theorem ee_popAt (h : EE X C o g fun x g1 => ∃ j w0 ds0, x = .o j ∧ g1[j]? = some (.ls w0 ds0) ∧ EE X C e g1 fun y g2 => ∃ (k : Nat) (w : Option Nat) (ds : List PyData) (d : PyData) (g4 : Gm), y = .d (.int (k : Nat)) ∧ g2[j]? = some (.ls w ds) ∧ ds.length < 1000000 ∧ ds[k]? = some d ∧ SetE g2 j (.ls w (ds.eraseIdx k)) g4 ∧ Q (.d d) g4)
    (hbase : attributeBase o "pop" X.env (eval o X.env) = eval o X.env := by rfl) (hline : (apos.endLine == pos.line) = true := by rfl) (hs : starEach [e] X.env = (false, eval e X.env) :: starEach [] X.env := by rfl)
    (hfew : ((backTo pos (starEach [e] X.env)).all (fun x => !x.1) && (backToKw pos (keywordEach [] X.env)).all (fun x => x.1.isSome) && decide ([e].length + ([] : List Keyword).length + (if ([] : List Keyword).isEmpty then 0 else 1) < 30)) = true := by rfl) :
    EE X C (.Call (.Attribute o "pop" apos) [e] [] pos) g Q :=
  EE.of (pe_bm PySem.F.plainAttrs_list PySem.F.slot_list_pop PySem.F.type_list_pop mt_popAt pe_t pa_t hbase hfew hline hs rfl) fun σ H Z I P p =>
    h σ H Z I _ fun v H1 Z1 x g1 I1 s1 a1 q1 => by
      obtain ⟨j, w0, ds0, rfl, hj0, h2⟩ := q1
      obtain ⟨ad, xs0, rfl, o2, o3, o4, o5⟩ := I1.own hj0 a1
      refine ⟨.inl ⟨rfl, xs0, SqL.of o2⟩, ?_⟩
      refine (show EA X C [e] g1 (fun ys g2 => ∃ y k w ds d g4, ys = [y] ∧ y = .d (.int (k : Nat)) ∧ g2[j]? = some (.ls w ds) ∧ ds.length < 1000000 ∧ ds[k]? = some d ∧ SetE g2 j (.ls w (ds.eraseIdx k)) g4 ∧ Q (.d d) g4) from ea_cons (h2.mono fun y g2 q => by
        obtain ⟨k, w, ds, d, g4, q⟩ := q
        exact ea_nil ⟨y, k, w, ds, d, g4, rfl, q⟩) hs) σ H1 Z1 I1 _ fun vs H2 Z2 ys g2 I2 s2 a2 q => ?_
      obtain ⟨y, k, w, ds, d, g4, rfl, rfl, hj, hl, hk, hs4, q⟩ := q
      cases a2 with
      | @cons _ vz _ _ az a2 =>
        cases a2
        have az' : Dd X.K Z2 vz (.int (k : Nat)) := az
        cases az'
        obtain ⟨ad', xs, e0, o2', o3', o4', o5'⟩ := I2.own hj a1
        cases e0
        obtain ⟨u, hu, du⟩ := o4'.get hk
        have hkl : k < xs.length := (List.getElem?_eq_some_iff.mp hu).1
        have hlx : xs.length < 1000000 := by rw [o4'.length]; exact hl
        refine ⟨ad, xs, (k : Nat), k, u, rfl, rfl, o2', by omega, by omega, ?_, hu, ?_⟩
        · unfold seqIndex?
          simp
          omega
        · exact p u _ Z2 (.d d) g4 (I2.put hj a1 (o4'.eraseIdx k) hs4) (s1.trans s2) du q
end
end AL
/-! All subsets of the other blocks, in the best order; drawn plans. -/
namespace AL
open PySem PySem.Spec L2
variable {n : Nat} {L : List Bl} {b : Nat} {up : Bool}
/-! ### drawn plans -/
/-! ### the lot of law 19 -/
end AL
/-! Dicts of the body's own: the rules over the text. -/
namespace AL
open PySem PySem.Spec L2
section
variable {K : PySem.W.Frag} {C : Ct} {g : Gm} {Q : Av → Gm → Prop} {ty td tv : TE}
theorem ae_dc {i : Nat} {w : Option Nat} {kvs : List (PyData × PyData)} (h : g[i]? = some (.dc w kvs)) (q : Q (.o i) g) : AE K C (tVar i) g Q := fun σ H Z I P p => by
  obtain ⟨a, o, e1, _⟩ := I.ent i _ h
  exact ⟨_, e1, p _ H Z (.o i) g I (Same.refl _) e1 q⟩
theorem keyD_ref {Z : Hp} {d : PyData} {v : V} (hk : KeyD d) (h : Dd K Z v d) : ∃ b, v = .ref b := by
  obtain ⟨ds, k, rfl, _⟩ := hk
  cases h with
  | tup h1 h2 => exact ⟨_, rfl⟩
theorem ae_dicIn {neg : Bool} (h : AE K C ty g fun y g1 => AE K C td g1 fun x g2 => ∃ d j w kvs, y = .d d ∧ KeyD d ∧ x = .o j ∧ g2[j]? = some (.dc w kvs) ∧ Q (.d (.bool (if neg then !(getK kvs d).isSome else (getK kvs d).isSome))) g2) : AE K C (tDicIn K neg ty td) g Q := fun σ H Z I P p =>
  h σ H Z I _ fun v H1 Z1 y g1 I1 s1 a1 q1 => q1 σ H1 Z1 I1 _ fun u H2 Z2 x g2 I2 s2 a2 q2 => by
    obtain ⟨d, j, w, kvs, rfl, hk, rfl, hj, q⟩ := q2
    have a1' : Dd K Z2 v d := Dd.mono s2 _ _ a1
    obtain ⟨b, rfl⟩ := keyD_ref hk a1'
    obtain ⟨a, o, rfl, e2, e3, e4, e5, e6⟩ := I2.ownD hj a2
    exact ⟨d, kvs, ⟨a, b, o, Z2, rfl, rfl, e2, I2.fz, e3, a1', hk⟩, p _ H2 Z2 (.d (.bool _)) g2 I2 (s1.trans s2) (Dd.bl _) q⟩
theorem ae_dicAt (h : AE K C td g fun x g1 => AE K C ty g1 fun y g2 => ∃ d j w kvs v, y = .d d ∧ KeyD d ∧ x = .o j ∧ g2[j]? = some (.dc w kvs) ∧ getK kvs d = some v ∧ Q (.d v) g2) : AE K C (tDicAt K td ty) g Q := fun σ H Z I P p =>
  h σ H Z I _ fun u H1 Z1 x g1 I1 s1 a1 q1 => q1 σ H1 Z1 I1 _ fun w0 H2 Z2 y g2 I2 s2 a2 q2 => by
    obtain ⟨d, j, w, kvs, v, rfl, hk, rfl, hj, hg, q⟩ := q2
    obtain ⟨b, rfl⟩ := keyD_ref hk a2
    obtain ⟨a, o, rfl, e2, e3, e4, e5, e6⟩ := I2.ownD hj a1
    exact ⟨a, b, o, Z2, d, v, kvs, rfl, rfl, e2, I2.fz, e3, a2, hk, hg, fun z hz => p z H2 Z2 (.d v) g2 I2 (s1.trans s2) hz q⟩
theorem as_dicPut {D : Ae} (h : AE K C tv g fun z g1 => AE K C td g1 fun x g2 => AE K C ty g2 fun y g3 => ∃ d j w kvs vd g4 g5, x = .o j ∧ y = .d d ∧ KeyD d ∧ Frz [z] g3 [vd] g4 ∧ g4[j]? = some (.dc w kvs) ∧ kvs.length < 1000000 ∧ SetE g4 j (.dc w (putD kvs d vd)) g5 ∧ D.nx g5) : AS K C (sDicPut K td ty tv) g D := fun σ H Z I D' dd =>
  h σ H Z I _ fun v H1 Z1 z g1 I1 s1 a1 q1 => q1 σ H1 Z1 I1 _ fun u H2 Z2 x g2 I2 s2 a2 q2 => q2 σ H2 Z2 I2 _ fun w0 H3 Z3 y g3 I3 s3 a3 q3 => by
    obtain ⟨d, j, w, kvs, vd, g4, g5, rfl, rfl, hk, fz, hj, hl, hs, q⟩ := q3
    have az : AvsOk K σ Z3 [z] [v] := .cons ((a1.mono s2).mono s3) .nil
    obtain ⟨Z4, I4, s4, r4⟩ := fz.run I3 az
    cases r4 with
    | @cons _ _ _ _ r5 _ =>
      have a3' : Dd K Z4 w0 d := Dd.mono s4 _ _ a3
      obtain ⟨b, rfl⟩ := keyD_ref hk a3'
      obtain ⟨a, o, rfl, e2, e3, e4, e5, e6⟩ := I4.ownD hj a2
      refine ⟨a, b, o, Z4, d, vd, kvs, rfl, rfl, e2, I4.fz, e3, a3', hk, r5, e6, fun o' ok' => ?_⟩
      have hl2 : (putD kvs d vd).length ≤ 1000000 := Nat.le_trans (putD_len kvs d vd) (by omega)
      exact dd.nx g5 _ _ Z4 (I4.putDc hj a2 ok' hl2 hs) (((s1.trans s2).trans s3).trans s4) q
theorem fresh_dc {σ : St} {H Z : Hp} (I : Ok K C g σ H Z) {p : Addr} (h : H p = none) : ∀ (j : Nat) (w : Option Nat) (es : List (PyData × PyData)), g[j]? = some (Ent.dc w es) → σ[j]? ≠ some (some (V.ref p)) := fun j w es e z => by
  obtain ⟨a, o, e1, e2, _⟩ := I.ent j _ e
  rw [z] at e1; cases e1
  rw [e2] at h; cases h
theorem as_dicNew {i : Nat} {D : Ae} {g' : Gm} (s : SetE g i (.dc none []) g') (q : D.nx g') : AS K C (tAsg (tDicNew K) (gName i)) g D := fun σ H Z I D' d p o hp ok => by
  obtain ⟨n1, n2, _⟩ := I.new hp
  exact d.nx g' _ _ Z ((I.newO (o := DicO p o) hp).setDc upd_same (ok Z) n1 n2 (Nat.zero_le _) (fresh_dc I hp) s) (Same.refl _) q
end
section
variable {X : Cx} {C : Ct} {g g' : Gm} {e a b i value : Expr} {pos pos' p p' : PySem.Pos} {Q : Av → Gm → Prop} {QT : Bool → Gm → Prop} {x y : Str} {D : Ae} {k : Nat}
theorem un64 (r : Room k X.A) : X.A.units + 64 < cLine := by have := r.un; omega
theorem ee_dc {i : Nat} {w : Option Nat} {kvs : List (PyData × PyData)} (n : Nm X i x) (h : g[i]? = some (.dc w kvs)) (q : Q (.o i) g) : EE X C (.Name x pos) g Q := EE.of (pe_var n.hN n.vis n.d1 n.d2) (ae_dc h q)
theorem et_notInDc {j : Nat} (hr : Room k X.A) (n : Nm X j x) (h : EE X C a g fun y g1 => ∃ d w kvs, y = .d d ∧ KeyD d ∧ g1[j]? = some (.dc w kvs) ∧ QT (!(getK kvs d).isSome) g1) : ET X C (.Compare a [.NotIn] [.Name x p] pos) g QT :=
  ET.of (pt_cmp (pc_dicnotin (un64 hr) pe_t pe_t) rfl) (at_B (ae_dicIn (neg := true) (h.mono fun y g1 ⟨d, w, kvs, e1, hk, hj, q⟩ => ee_dc n hj ⟨d, j, w, kvs, e1, hk, rfl, hj, _, rfl, q⟩)))
theorem ee_dcAt {j : Nat} {w : Option Nat} {kvs : List (PyData × PyData)} (hr : Room k X.A) (n : Nm X j x) (h0 : g[j]? = some (.dc w kvs)) (h : EE X C i g fun y g1 => ∃ d w kvs v, y = .d d ∧ KeyD d ∧ g1[j]? = some (.dc w kvs) ∧ getK kvs d = some v ∧ Q (.d v) g1) (hs : NoSl i := by intro _ _; rfl) : EE X C (.Subscript (.Name x p) i pos) g Q :=
  EE.of (pe_dicat (un64 hr) pe_t pe_t hs) (ae_dicAt (ee_dc n h0 (h.mono fun y g1 ⟨d, w, kvs, v, e1, hk, hj, hg, q⟩ => ⟨d, j, w, kvs, v, e1, hk, rfl, hj, hg, q⟩)))
/-- d[k] = v -/
theorem es_putDc {j : Nat} (hr : Room k X.A) (n : Nm X j x) (h : EE X C value g fun z g1 => ∃ w0 kvs0, g1[j]? = some (.dc w0 kvs0) ∧ EE X C i g1 fun y g3 => ∃ d w kvs vd g4 g5, y = .d d ∧ KeyD d ∧ Frz [z] g3 [vd] g4 ∧ g4[j]? = some (.dc w kvs) ∧ kvs.length < 1000000 ∧ SetE g4 j (.dc w (putD kvs d vd)) g5 ∧ D.nx g5)
    (hs : swapsWith value (some (.Subscript (.Name x p) i pos')) pos.line X.env = pure false := by rfl) : ES X C (.Assign [.Subscript (.Name x p) i pos'] value pos) g D :=
  ES.of (ps_dicput (un64 hr) pe_t pe_t pe_t hs) (as_dicPut (h.mono fun z g1 ⟨w0, kvs0, h0, q⟩ => ee_dc n h0 (q.mono fun y g3 ⟨d, w, kvs, vd, g4, g5, e1, hk, f, hj, hl, hs, q⟩ => ⟨d, j, w, kvs, vd, g4, g5, rfl, e1, hk, f, hj, hl, hs, q⟩)))
/-- name = {} -/
theorem es_newDc {i : Nat} (l : Lc X i x) (s : SetE g i (.dc none []) g') (q : D.nx g') (hs : swapsWith (.Dict [] [] p) (some (.Name x p')) pos.line X.env = pure false := by rfl) : ES X C (.Assign [.Name x p'] (.Dict [] [] p) pos) g D :=
  ES.of (ps_set l.nd l.hN l.loc pe_dicnew hs l.fn) (as_dicNew s q)
/-! ### states as keys -/
theorem nkA_map {α : Type} (f : α → PyData) (q : α → NestedKey) (h : ∀ a, nk (f a) = some (q a)) : ∀ L : List α, nkA (L.map f) = some (L.map q)
  | [] => rfl
  | a :: L => by simp only [List.map_cons, nkA, h a, nkA_map f q h L]
def bkK (b : Bl) : NestedKey := .tup [.num b.1, .tup [.num b.2.num, .num (b.2.den : Int)]]
theorem nk_blk (b : Bl) : nk (blk b) = some (bkK b) := rfl
theorem nk_stD (L : List Bl) : nk (stD L) = some (.tup (L.map bkK)) := by
  show (nkA (L.map blk)).map NestedKey.tup = _
  rw [nkA_map blk bkK nk_blk L]; rfl
theorem dep_bk : ∀ L : List Bl, NestedKey.depthAll (L.map bkK) ≤ 2
  | [] => by simp [NestedKey.depthAll]
  | b :: L => by
    have := dep_bk L
    simp only [List.map_cons, NestedKey.depthAll, bkK, NestedKey.depth]
    omega
theorem bkK_inj {a b : Bl} (h : bkK a = bkK b) : a = b := by
  unfold bkK at h
  injection h with h
  injection h with h1 h2
  injection h1 with h1
  injection h2 with h2 _
  injection h2 with h2
  injection h2 with h3 h4
  injection h3 with h3
  injection h4 with h4 _
  injection h4 with h4
  exact Prod.ext h1 (Rat.ext h3 (by omega))
theorem nk_st_inj {L M : List Bl} (h : nk (stD L) = nk (stD M)) : L = M := by
  rw [nk_stD, nk_stD] at h
  injection h with h
  injection h with h
  exact (List.map_inj_right (f := bkK) (fun a b => bkK_inj)).mp h
end
end AL
/-! A dict handed to a def, last, to be changed; texts as a module's constants. -/
namespace AL
open PySem PySem.Spec L2
/-- before: the dict; arguments; result; what holds of the dict behind -/
abbrev ConD := List (PyData × PyData) → List Ar → PyData → (List (PyData × PyData) → Prop) → Prop
def spD (K : PySem.W.Frag) (n : Nat) (S : ConD) : Sp := fun vs H Q _ => vs.length = n ∧ ∃ a vs' Z o kvs as r R, vs = vs' ++ [.ref a] ∧ H a = some (DicO a o) ∧ DicOk K Z a o kvs ∧ kvs.length ≤ 1000000 ∧ Z a = none ∧ Same Z H ∧ ArsOk K Z as vs' ∧ S kvs as r R ∧
  ∀ v H' Z' o' kvs', (∀ (b : Addr) (u : HO), b ≠ a → H b = some u → H' b = some u) → H' a = some (DicO a o') → DicOk K Z' a o' kvs' → kvs'.length ≤ 1000000 → R kvs' → Same Z Z' → Same Z' H' → Z' a = none → (∀ (b : Addr) (u : HO), Z' b = some u → Z b = some u ∨ H b = none) → Dd K Z' v r → Q v H'
section
variable {X : Cx} {C : Ct} {g g' : Gm} {e a b c : Expr} {es : List Expr} {pos p : PySem.Pos} {Q : Av → Gm → Prop} {x : Str}
theorem ee_gs {s : Str} {t : Tok} (n : Gn X x) (m : X.mg x = some (.str s t)) (q : Q (.d (.str s)) g) : EE X C (.Name x pos) g Q := EE.of (pe_glob (v := .str s) n.gl m ⟨t, rfl⟩ n.d1) (ae_cd (fun _ => .str s) q)
theorem avs_snoc {K : PySem.W.Frag} {σ : L2.St} {Z : Hp} : ∀ {xs : List Av} {y : Av} {vs : List V}, AvsOk K σ Z (xs ++ [y]) vs → ∃ ws v, vs = ws ++ [v] ∧ AvsOk K σ Z xs ws ∧ AvOk K σ Z y v
  | [], y, vs, h => by
    cases h with
    | cons a t => cases t; exact ⟨[], _, rfl, .nil, a⟩
  | x :: xs, y, vs, h => by
    cases h with
    | cons a t =>
      obtain ⟨ws, v, rfl, k1, k2⟩ := avs_snoc t
      exact ⟨_ :: ws, v, rfl, .cons a k1, k2⟩
/-- a call that is handed the dict in slot j, last -/
theorem ee_callD2 {k n : Nat} {S : ConD} (c : Cal X x k (spD X.K n S)) (hr : Room k X.A) (n1 : Gn X x) (h : EA X C (e :: es) g fun xs g1 => xs.length = n ∧ ∃ j w kvs rest as r R, xs = rest ++ [.o j] ∧ CvA g1 rest as ∧ g1[j]? = some (.dc w kvs) ∧ S kvs as r R ∧ ∀ kvs', R kvs' → kvs'.length ≤ 1000000 → ∃ g2, SetE g1 j (.dc w kvs') g2 ∧ Q (.d r) g2)
    (he : starEach (e :: es) X.env = (false, eval e X.env) :: starEach es X.env := by rfl) (hpl : (backTo pos (starEach es X.env)).any (·.1) = false := by rfl) : EE X C (.Call (.Name x p) (e :: es) [] pos) g Q := by
  obtain ⟨f, fd, ps, F, m, kp, B⟩ := c.ex
  refine EE.of (pe_call (dvs := []) (ds := []) (E := E0) F hr n1.gl m kp B .nil pass0 pa_t n1.d1 he hpl) fun σ H Z I P p => ?_
  refine h σ H Z I _ fun vs H1 Z1 xs g1 I1 s1 a1 q1 => ?_
  obtain ⟨hl, j, w, kvs, rest, as, r, R, rfl, cv, hj, hS, q⟩ := q1
  rw [List.append_nil]
  have hlen := a1.length.trans hl
  obtain ⟨ws, v, rfl, b2, b1⟩ := avs_snoc a1
  obtain ⟨ad, o, rfl, o2, o3, o4, o5, o6⟩ := I1.ownD hj b1
  refine ⟨hlen, ad, ws, Z1, o, kvs, as, r, R, rfl, o2, o3, o6, o4, I1.fz, cv.run b2, hS, fun v H' Z' o' kvs' h1 h2 h3 h4 h5 h6 h7 h8 h9 h10 => ?_⟩
  obtain ⟨g2, hs, q⟩ := q kvs' h5 h4
  have e0 : H' = upd (fun b => if b = ad then some (DicO ad o) else H' b) ad (DicO ad o') := by
    funext b
    by_cases z : b = ad
    · subst z; rw [upd_same]; exact h2
    · rw [upd_ne z]; simp [z]
  have I2 : Ok X.K C g1 σ (fun b => if b = ad then some (DicO ad o) else H' b) Z' := by
    refine I1.grow (fun b u q => ?_) h6 (fun b u q => ?_) h9
    · by_cases z : b = ad
      · subst z; rw [o2] at q; cases q; simp
      · simp only [z, if_false]; exact h1 b u z q
    · by_cases z : b = ad
      · subst z; rw [h8] at q; cases q
      · simp only [z, if_false]; exact h7 b u q
  have I3 := I2.putDc hj b1 h3 h4 hs
  rw [← e0] at I3
  exact p v H' Z' (.d r) g2 I3 (s1.trans h6) h10 q
/-- .. a new empty one -/
theorem ee_callD0 {e1 e2 e3 e4 : Expr} {pd : PySem.Pos} {k : Nat} {S : ConD} (c : Cal X x k (spD X.K 5 S)) (hr : Room k X.A) (n1 : Gn X x)
    (h : EE X C e1 g fun x1 g1 => EE X C e2 g1 fun x2 g2 => EE X C e3 g2 fun x3 g3 => EE X C e4 g3 fun x4 g4 => ∃ as r R, CvA g4 [x1, x2, x3, x4] as ∧ S [] as r R ∧ Q (.d r) g4)
    (he1 : starEach [e1, e2, e3, e4, .Dict [] [] pd] X.env = (false, eval e1 X.env) :: starEach [e2, e3, e4, .Dict [] [] pd] X.env := by rfl)
    (he2 : starEach [e2, e3, e4, .Dict [] [] pd] X.env = (false, eval e2 X.env) :: starEach [e3, e4, .Dict [] [] pd] X.env := by rfl)
    (he3 : starEach [e3, e4, .Dict [] [] pd] X.env = (false, eval e3 X.env) :: starEach [e4, .Dict [] [] pd] X.env := by rfl)
    (he4 : starEach [e4, .Dict [] [] pd] X.env = (false, eval e4 X.env) :: starEach [.Dict [] [] pd] X.env := by rfl)
    (he5 : starEach [.Dict [] [] pd] X.env = (false, eval (.Dict [] [] pd) X.env) :: starEach [] X.env := by rfl)
    (hpl : (backTo pos (starEach [e2, e3, e4, .Dict [] [] pd] X.env)).any (·.1) = false := by rfl) : EE X C (.Call (.Name x p) [e1, e2, e3, e4, .Dict [] [] pd] [] pos) g Q := by
  obtain ⟨f, fd, ps, F, m, kp, B⟩ := c.ex
  refine EE.of (pe_call (dvs := []) (ds := []) (E := E0) F hr n1.gl m kp B .nil pass0 (pa_cons pe_t (pa_cons pe_t (pa_cons pe_t (pa_cons pe_t (pa_cons pe_dicnew pa_nil he5) he4) he3) he2) he1) n1.d1 he1 hpl) fun σ H Z I P p => ?_
  refine h σ H Z I _ fun v1 H1 Z1 x1 g1 I1 s1 a1 h2 => ?_
  refine h2 σ H1 Z1 I1 _ fun v2 H2 Z2 x2 g2 I2 s2 a2 h3 => ?_
  refine h3 σ H2 Z2 I2 _ fun v3 H3 Z3 x3 g3 I3 s3 a3 h4 => ?_
  refine h4 σ H3 Z3 I3 _ fun v4 H4 Z4 x4 g4 I4 s4 a4 q => ?_
  intro t o ht ok
  obtain ⟨as, r, R, cv, hS, q⟩ := q
  have av : AvsOk X.K σ Z4 [x1, x2, x3, x4] [v1, v2, v3, v4] := .cons (((a1.mono s2).mono s3).mono s4) (.cons ((a2.mono s3).mono s4) (.cons (a3.mono s4) (.cons a4 .nil)))
  have zt : Z4 t = none := I4.fz.free ht
  refine ⟨rfl, t, [v1, v2, v3, v4], Z4, o, [], as, r, R, rfl, upd_same, ok Z4, Nat.zero_le _, zt, fun b u hb => ?_, cv.run av, hS, fun v H' Z' o' kvs' h1 h2 h3 h4 h5 h6 h7 h8 h9 h10 => ?_⟩
  · rw [upd_ne (ne_of_none (I4.fz b u hb) ht)]; exact I4.fz b u hb
  have sH : Same H4 H' := fun b u hb => h1 b u (ne_of_none hb ht) (by rw [upd_ne (ne_of_none hb ht)]; exact hb)
  refine p v H' Z' (.d r) g4 (I4.grow sH h6 h7 fun b u hb => ?_) ((((s1.trans s2).trans s3).trans s4).trans h6) h10 q
  rcases h9 b u hb with z | z
  · exact .inl z
  · by_cases e : b = t
    · subst e; exact .inr ht
    · rw [upd_ne e] at z; exact .inr z
end
/-! ### the def -/
theorem start_dc {K : PySem.W.Frag} {Z H : Hp} {as : List Ar} {vs : List V} {a : Addr} {o : Obj} {kvs : List (PyData × PyData)} {N : List Str} (ha : ArsOk K Z as vs) (h1 : H a = some (DicO a o)) (h2 : Z a = none) (hz : Same Z H) (hd : DicOk K Z a o kvs) (hk : kvs.length ≤ 1000000) :
    Ok K ⟨H, Z, [a], []⟩ (as.map entOf ++ .dc (some 0) kvs :: List.replicate (N.length - (as.length + 1)) Ent.no) (L2.start N (vs ++ [.ref a])) H Z := by
  have hl : vs.length = as.length := ha.length
  have hst : L2.start N (vs ++ [.ref a]) = vs.map some ++ some (V.ref a) :: List.replicate (N.length - (as.length + 1)) none := by
    simp [L2.start, hl]
  have lo : ∀ {i : Nat} {e : Ent}, (as.map entOf ++ .dc (some 0) kvs :: List.replicate (N.length - (as.length + 1)) Ent.no)[i]? = some e → (i < as.length ∧ (as.map entOf)[i]? = some e) ∨ (i = as.length ∧ e = .dc (some 0) kvs) ∨ e = .no := fun {i e} q => by
    by_cases z : i < as.length
    · rw [List.getElem?_append_left (by simpa using z)] at q
      exact .inl ⟨z, q⟩
    · rw [List.getElem?_append_right (by simpa using z)] at q
      rw [List.length_map] at q
      obtain ⟨j, hj⟩ : ∃ j, j = i - as.length := ⟨_, rfl⟩
      rw [← hj] at q
      cases j with
      | zero => exact .inr (.inl ⟨by omega, by simpa using q.symm⟩)
      | succ j =>
        have q' : (List.replicate (N.length - (as.length + 1)) Ent.no)[j]? = some e := by simpa using q
        obtain ⟨_, z⟩ := List.getElem?_eq_some_iff.mp q'
        exact .inr (.inr (by simpa using z.symm))
  have noe : ∀ {i : Nat} {e : Ent}, (as.map entOf)[i]? = some e → (∀ w ds, e ≠ .ls w ds) ∧ ∀ w ds, e ≠ .dc w ds := fun {i e} q => by
    rw [List.getElem?_map, Option.map_eq_some_iff] at q
    obtain ⟨x, _, rfl⟩ := q
    cases x <;> exact ⟨fun _ _ z => (by cases z), fun _ _ z => (by cases z)⟩
  refine ⟨by rw [hst]; simp [hl], hz, fun b u q _ _ => q, Same.refl _, fun b u q => .inl q, hz, fun b q => ?_, fun b q => ?_, fun i e q => ?_, fun i j w w' ds es b q1 q2 => ?_, fun p hp => (by cases hp), fun p hp => (by cases hp), fun i j w w' ds es b q1 q2 => ?_⟩
  · have this : b = a := by simpa using q
    rw [this]
    exact ⟨by show (H a).isSome = true; rw [h1]; rfl, h2⟩
  · have this : b = a := by simpa using q
    rw [this, h1]; rfl
  · rw [hst]
    rcases lo q with ⟨z, q⟩ | ⟨z, rfl⟩ | rfl
    · have := start_get (H := H) (C := ⟨H, Z, [a], []⟩) (n := 0) ha i e (by simpa using q)
      rw [List.getElem?_append_left (by simpa [hl] using z)]
      simpa using this
    · subst z
      refine ⟨a, o, ?_, h1, hd, h2, rfl, hk⟩
      rw [List.getElem?_append_right (by simp [hl])]
      simp [hl]
    · trivial
  · rcases lo q1 with ⟨_, z⟩ | ⟨_, z⟩ | z
    · exact absurd rfl ((noe z).1 _ _)
    · cases z
    · cases z
  · intro _ _
    rcases lo q1 with ⟨_, z⟩ | ⟨z1, _⟩ | z
    · exact absurd rfl ((noe z).2 _ _)
    · rcases lo q2 with ⟨_, z⟩ | ⟨z2, _⟩ | z
      · exact absurd rfl ((noe z).2 _ _)
      · rw [z1, z2]
      · cases z
    · cases z
theorem fn_okD {P : Program} {w : World} {K : PySem.W.Frag} {mg : Str → Option Value} {base : Heap} {x : Str} {st : Stmt} {f : Addr} {fd : FuncData} {N ps : List Str} {k n : Nat} {S : ConD} {kws : List (Str × V)} (F : FunD K x x (defArgs st) (defBody st) (defScope st) [] kws f fd) (Sc : FnScope N ps (defScope st)) (hn : ps.length = n)
    (hbody : ∀ (X : Cx), X.prog = P → X.w = w → X.K = K → X.mg = mg → X.base = base → PassesOwn (model X.prog X.w) X.A X.env X.xe → CxF X N (defScope st) k → ∀ C kvs as r R, S kvs as r R → as.length + 1 = n →
      ESs X C (defBody st) (as.map entOf ++ .dc (some 0) kvs :: List.replicate (N.length - n) Ent.no) { nx := fun _ => False, rt := fun x g => x = .d r ∧ ∃ kvs', g[n - 1]? = some (.dc (some 0) kvs') ∧ R kvs' }) : FnOk P w K mg base CX0 (k + 1) f fd ps (spD K n S) := by
  refine F.ok Sc (fun vs H Q E h => by rw [h.1, hn]) (fun cdv A outer s H vs Q E hr h => ?_)
  obtain ⟨hl, a, vs', Z, o, kvs, as, r, R, rfl, h1, hd, hk, h2, hz, ha, hS, q⟩ := h
  refine ⟨_, PSs.nox (pss_t (X := (cxOf CX0 P w K mg base N x (defScope st) f cdv A outer s H E).nox)), ?_⟩
  have al : as.length + 1 = n := by rw [← ha.length]; simpa using hl
  have b := hbody (cxOf CX0 P w K mg base N x (defScope st) f cdv A outer s H E).nox rfl rfl rfl rfl rfl PassesOwn.never ⟨rfl, rfl, rfl, Sc.nd, hr, fun _ => rfl⟩ ⟨H, Z, [a], []⟩ kvs as r R hS al
  have I := start_dc (N := N) ha h1 h2 hz hd hk
  rw [al] at I
  refine b _ H Z I _ ⟨fun g' σ' H' Z' I' _ e => e.elim, fun x v g' σ' H' Z' I' _ a' e => ?_, fun _ _ _ _ _ _ z => z.elim, fun _ _ _ _ _ _ z => z.elim, fun _ _ _ _ _ _ _ _ _ z => z.elim⟩
  obtain ⟨rfl, kvs', e0, hR⟩ := e
  obtain ⟨b, o', f1, f2, f3, f4, f5, f6⟩ := I'.ent _ _ e0
  have this : b = a := by
    have z : [a][0]? = some b := f5
    simpa using z.symm
  rw [this] at f2 f3 f4
  exact q v H' Z' o' kvs' (fun c u hc e => I'.fr c u e (by simpa using hc) (by simp)) f2 f3 f6 hR I'.z0 I'.fz f4 I'.nw a'

/-! ### keywords, the keyword-only parameters that are not named by default -/
structure CallableKD (P : Program) (w : World) (K : PySem.W.Frag) (mg : Str → Option Value) (base : Heap) (x : Str) (k : Nat) (sp : Sp) (n : Nat) (ks : List Str) (pm : List Nat) (dd : List Ar) : Prop where
  ex : ∃ (f : Addr) (fd : FuncData) (ps : List Str) (ds : List Value) (dvs : List V), FnOk P w K mg base CX0 k f fd ps sp ∧ mg x = some (.ref f) ∧ PySem.W.keepIn K (.ref f) = true ∧ KBn K fd ps n ks (fun us ws => pk pm (us ++ ws ++ ds)) (fun vs zs => pk pm (vs ++ zs ++ dvs)) ∧ ∀ Z : Hp, ArsOk K Z dd dvs
theorem CallableKD.mono {P : Program} {w : World} {K : PySem.W.Frag} {mg : Str → Option Value} {base : Heap} {x : Str} {k k' : Nat} {sp : Sp} {n : Nat} {ks : List Str} {pm : List Nat} {dd : List Ar} (c : CallableKD P w K mg base x k sp n ks pm dd) (h : k ≤ k') : CallableKD P w K mg base x k' sp n ks pm dd := by
  obtain ⟨f, fd, ps, ds, dvs, F, r⟩ := c.ex
  exact ⟨f, fd, ps, ds, dvs, F.mono h, r⟩
section
variable {X : Cx} {C : Ct} {g g' : Gm} {e : Expr} {es : List Expr} {kws : List Keyword} {pos p kpos : PySem.Pos} {Q : Av → Gm → Prop} {QL : List PyData → Gm → Prop} {x : Str}
end
end AL
/-! The game: its value, what is known of it. -/
namespace AL
open PySem PySem.Spec L2
/-- warm or cold prefers e to x -/
def btr (w : Bool) (e x : Rat) : Bool := if w then decide (x < e) else decide (e < x)
def bst (w : Bool) : Option Rat → Rat → Option Rat
  | none, e => some e
  | some x, e => if btr w e x then some e else some x
def sucS (L : List Bl) : List (List Bl) := L :: (prsL L.length).map fun p => tchS L p.1 p.2
/-- the value of the game with t turns left, w to move -/
def gv (b : Nat) : Nat → List Bl → Bool → Rat
  | 0, L, _ => tmp L b
  | t + 1, L, w => (((sucS L).map fun M => gv b t M (!w)).foldl (bst w) none).getD 0
def gvTo (b : Nat) (t : Nat) (L : List Bl) (w : Bool) (i : Nat) : Option Rat := ((((sucS L).take i).map fun M => gv b t M (!w))).foldl (bst w) none
theorem gvTo_snoc {b t : Nat} {L M : List Bl} {w : Bool} {i : Nat} (h : (sucS L)[i]? = some M) : gvTo b t L w (i + 1) = bst w (gvTo b t L w i) (gv b t M (!w)) := by
  unfold gvTo
  rw [List.take_add_one, h, List.map_append, List.foldl_append]; rfl
theorem bst_some (w : Bool) (o : Option Rat) (e : Rat) : ∃ x, bst w o e = some x ∧ (x = e ∨ o = some x) := by
  cases o with
  | none => exact ⟨e, rfl, .inl rfl⟩
  | some x =>
    by_cases h : btr w e x = true
    · exact ⟨e, by show (if btr w e x then some e else some x) = _; rw [if_pos h], .inl rfl⟩
    · exact ⟨x, by show (if btr w e x then some e else some x) = _; rw [if_neg h], .inr rfl⟩
theorem gvTo_some {b t : Nat} {L : List Bl} {w : Bool} : ∀ {i : Nat}, 0 < i → i ≤ (sucS L).length → ∃ x, gvTo b t L w i = some x ∧ ∃ M ∈ sucS L, x = gv b t M (!w)
  | 0, h, _ => by omega
  | i + 1, _, h => by
    obtain ⟨M, hM⟩ : ∃ M, (sucS L)[i]? = some M := ⟨_, List.getElem?_eq_getElem (by omega)⟩
    rw [gvTo_snoc hM]
    obtain ⟨x, e1, e2⟩ := bst_some w (gvTo b t L w i) (gv b t M (!w))
    refine ⟨x, e1, ?_⟩
    rcases e2 with e2 | e2
    · exact ⟨M, List.mem_of_getElem? hM, e2⟩
    · cases i with
      | zero => cases e2
      | succ i =>
        obtain ⟨y, f1, f2⟩ := gvTo_some (b := b) (t := t) (L := L) (w := w) (i := i + 1) (by omega) (by omega)
        rw [f1] at e2; cases e2
        exact f2
theorem sucS_len (L : List Bl) : (sucS L).length = (prsL L.length).length + 1 := by simp [sucS]
theorem gv_succ {b t : Nat} {L : List Bl} {w : Bool} : gvTo b t L w (sucS L).length = some (gv b (t + 1) L w) := by
  obtain ⟨x, h1, _⟩ := gvTo_some (b := b) (t := t) (L := L) (w := w) (i := (sucS L).length) (by rw [sucS_len]; omega) (Nat.le_refl _)
  have h2 : gv b (t + 1) L w = (gvTo b t L w (sucS L).length).getD 0 := by
    unfold gvTo
    rw [List.take_length]; rfl
  rw [h2, h1]; rfl
theorem sucS_ok {n : Nat} {L M : List Bl} (O : OkSt n L) (h : M ∈ sucS L) : OkSt (n + 8) M ∧ M.length = L.length := by
  unfold sucS at h
  rcases List.mem_cons.mp h with h | h
  · subst h; exact ⟨O.mono (by omega), rfl⟩
  · obtain ⟨p, hp, rfl⟩ := List.mem_map.mp h
    have hq := mem_prsL.mp hp
    have h1 : p.1 < L.length := by omega
    have h2 : p.2 < L.length := hq.2
    exact ⟨tchS_ok O h1 h2, tchS_len ..⟩
theorem gv_rb {b : Nat} : ∀ {t n : Nat} {L : List Bl} {w : Bool}, OkSt n L → b < L.length → Rb (2 * (n + 8 * t)) (gv b t L w)
  | 0, n, L, w, O, hb => by
    show Rb _ (tmp L b)
    exact (O.rb hb).mono (by omega)
  | t + 1, n, L, w, O, hb => by
    obtain ⟨x, h1, M, hM, rfl⟩ := gvTo_some (b := b) (t := t) (L := L) (w := w) (i := (sucS L).length) (by rw [sucS_len]; omega) (Nat.le_refl _)
    rw [gv_succ] at h1
    have e := Option.some.inj h1
    rw [e]
    obtain ⟨OM, hl⟩ := sucS_ok O hM
    exact (gv_rb OM (by omega)).mono (by omega)
/-! ### what is known -/
def keyG (L : List Bl) (t : Nat) : PyData := .tuple [stD L, .int (t : Nat)]
def par (c : Bool) (t : Nat) : Bool := if t % 2 = 0 then c else !c
theorem par_succ (c : Bool) (t : Nat) : par c t = !(par c (t + 1)) := by
  unfold par
  by_cases h : t % 2 = 0
  · rw [if_pos h, if_neg (by omega)]; simp
  · rw [if_neg h, if_pos (by omega)]
theorem par_par (w : Bool) (t : Nat) : par (par w t) t = w := by
  unfold par
  split <;> simp
def Kn (b : Nat) (c : Bool) (kvs : List (PyData × PyData)) : Prop := ∀ kv ∈ kvs, ∃ M t, kv = (keyG M t, fr (gv b t M (par c t)))
theorem keyD_g (L : List Bl) (t : Nat) : KeyD (keyG L t) := ⟨_, .tup [.tup (L.map bkK), .num (t : Nat)], rfl, by
  show (nkA [stD L, .int (t : Nat)]).map NestedKey.tup = _
  simp only [nkA, nk_stD]; rfl, by
  have := dep_bk L
  simp only [NestedKey.depth, NestedKey.depthAll]; omega⟩
theorem keyG_inj {L M : List Bl} {s t : Nat} (h : nk (keyG L s) = nk (keyG M t)) : L = M ∧ s = t := by
  have e : ∀ (L : List Bl) (t : Nat), nk (keyG L t) = some (.tup [.tup (L.map bkK), .num (t : Nat)]) := fun L t => by
    show (nkA [stD L, .int (t : Nat)]).map NestedKey.tup = _
    simp only [nkA, nk_stD]; rfl
  rw [e, e] at h
  injection h with h
  injection h with h
  injection h with h1 h2
  injection h2 with h2 _
  injection h2 with h2
  exact ⟨nk_st_inj (by rw [nk_stD, nk_stD, h1]), by omega⟩
theorem Kn.get {b : Nat} {c : Bool} {kvs : List (PyData × PyData)} (h : Kn b c kvs) {L : List Bl} {t : Nat} {v : PyData} (e : getK kvs (keyG L t) = some v) : v = fr (gv b t L (par c t)) := by
  unfold getK at e
  rw [Option.map_eq_some_iff] at e
  obtain ⟨kv, e1, rfl⟩ := e
  have h2 : nk kv.1 = nk (keyG L t) := by simpa using List.find?_some e1
  obtain ⟨M, s, rfl⟩ := h kv (List.mem_of_find?_eq_some e1)
  obtain ⟨rfl, rfl⟩ := keyG_inj h2
  rfl
theorem Kn.put {b : Nat} {c : Bool} {kvs : List (PyData × PyData)} (h : Kn b c kvs) (L : List Bl) (t : Nat) : Kn b c (putD kvs (keyG L t) (fr (gv b t L (par c t)))) := by
  unfold putD
  split
  · intro kv hkv
    obtain ⟨p, hp, rfl⟩ := List.mem_map.mp hkv
    obtain ⟨M, s, rfl⟩ := h p hp
    by_cases e : nk (keyG M s) = nk (keyG L t)
    · obtain ⟨rfl, rfl⟩ := keyG_inj e
      exact ⟨M, s, by rw [if_pos e]⟩
    · exact ⟨M, s, by rw [if_neg e]⟩
  · intro kv hkv
    rcases List.mem_append.mp hkv with hkv | hkv
    · exact h kv hkv
    · exact ⟨L, t, List.mem_singleton.mp hkv⟩
theorem put_get {kvs : List (PyData × PyData)} (L : List Bl) (t : Nat) (v : PyData) : ∃ u, getK (putD kvs (keyG L t) v) (keyG L t) = some u := by
  unfold putD
  split
  · rename_i h
    unfold getK at h ⊢
    rw [Option.isSome_map, List.find?_isSome] at h
    obtain ⟨p, hp, e⟩ := h
    have : ((kvs.map fun p => if nk p.1 = nk (keyG L t) then (p.1, v) else p).find? fun p => decide (nk p.1 = nk (keyG L t))).isSome = true := by
      rw [List.find?_isSome]
      refine ⟨_, List.mem_map.mpr ⟨p, hp, rfl⟩, ?_⟩
      split <;> exact e
    obtain ⟨q, hq⟩ := Option.isSome_iff_exists.mp this
    exact ⟨q.2, by rw [hq]; rfl⟩
  · rename_i h
    unfold getK at h ⊢
    have h' : (kvs.find? fun p => decide (nk p.1 = nk (keyG L t))) = none := by
      cases e : kvs.find? fun p => decide (nk p.1 = nk (keyG L t)) with
      | none => rfl
      | some p => rw [e] at h; exact absurd rfl h
    refine ⟨v, ?_⟩
    rw [List.find?_append, h']
    simp
/-- how many entries a call may add -/
def cntG : Nat → Nat
  | 0 => 0
  | t + 1 => 1 + 7 * cntG t
def bestD : Option Rat → PyData
  | none => .none
  | some x => fr x
def handD (w : Bool) : PyData := .str (if w then "warm" else "cold")
end AL
/-! The lots of the game's laws: few blocks, temperatures of up to forty digits. -/
namespace AL
open PySem PySem.Spec L2
theorem OkSt.of_rbK {m K : Nat} (hK : 1 ≤ K) (hK2 : K ≤ 12) : ∀ {L : List Bl}, 1 ≤ L.length → L.length ≤ K → (∀ b ∈ L, Sz b.1 ∧ Rb m b.2) → OkSt (K * m + 1) L := by
  intro L h1 h12 h
  have key : ∀ M : List Bl, (∀ b ∈ M, Rb m b.2) → ∃ D : Nat, 0 < D ∧ D ≤ 2 ^ (m * M.length) ∧ ∀ b ∈ M, b.2.den ∣ D := by
    intro M
    induction M with
    | nil => intro _; exact ⟨1, by decide, by simp, by simp⟩
    | cons b M ih =>
      intro hM
      obtain ⟨D, d0, d1, d2⟩ := ih fun c hc => hM c (by simp [hc])
      have hb := (hM b (by simp)).2
      unfold Bt at hb
      have hb' : b.2.den < 2 ^ m := by simpa using hb
      refine ⟨b.2.den * D, Nat.mul_pos b.2.den_pos d0, ?_, fun c hc => ?_⟩
      · rw [List.length_cons, Nat.mul_succ, Nat.add_comm, Nat.pow_add]
        exact Nat.mul_le_mul (Nat.le_of_lt hb') d1
      · rcases List.mem_cons.mp hc with rfl | hc
        · exact Nat.dvd_mul_right _ _
        · exact Nat.dvd_trans (d2 c hc) (Nat.dvd_mul_left _ _)
  obtain ⟨D, d0, d1, d2⟩ := key L fun b hb => (h b hb).2
  have hp : 2 ^ (m * L.length) < 2 ^ (K * m + 1) := Nat.pow_lt_pow_right (by decide) (by
    have : m * L.length ≤ m * K := Nat.mul_le_mul_left _ h12
    rw [Nat.mul_comm K m]; omega)
  have hmK : m ≤ K * m := by
    have := Nat.mul_le_mul_right m hK
    omega
  refine ⟨h1, by omega, fun b hb => (h b hb).1, D, d0, by omega, fun b hb => ⟨d2 b hb, ?_⟩⟩
  have hn := (h b hb).2.1
  unfold Bt at hn
  have hd := b.2.den_pos
  have hm : (2 : Nat) ^ m ≤ 2 ^ (K * m + 1) := Nat.pow_le_pow_right (by decide) (by omega)
  have hk : b.2.num.natAbs ≤ 2 ^ (K * m + 1) * b.2.den := Nat.le_trans (Nat.le_of_lt (Nat.lt_of_lt_of_le hn hm)) (Nat.le_mul_of_pos_right _ hd)
  have c : ((2 ^ (K * m + 1) * b.2.den : Nat) : Int) = (2 : Int) ^ (K * m + 1) * (b.2.den : Int) := by simp
  constructor
  · rw [Rat.le_iff]
    show -(2 : Int) ^ (K * m + 1) * (b.2.den : Int) ≤ b.2.num * ((1 : Nat) : Int)
    rw [Int.neg_mul, ← c]; omega
  · rw [Rat.le_iff]
    show b.2.num * ((1 : Nat) : Int) ≤ (2 : Int) ^ (K * m + 1) * (b.2.den : Int)
    rw [← c]; omega
def ten39 : Int := 1000000000000000000000000000000000000000
def warmG (wy : Int) (p : Pl) : Rat := if wy = 0 then Rat.divInt (pick (warmPB p) (2 * ten39) - ten39) (1 + pick (left (warmPB p) (2 * ten39)) 1000000) else warmB p
def warmPG (wy : Int) (p : Pl) : Pl := if wy = 0 then left (left (warmPB p) (2 * ten39)) 1000000 else warmPB p
theorem warmPG_ok {wy : Int} {p : Pl} (h : p.Ok) : (warmPG wy p).Ok := by
  unfold warmPG
  split
  · exact left_ok (left_ok (warmPB_ok h) (by decide)) (by decide)
  · exact warmPB_ok h
theorem warmG_rb (wy : Int) (p : Pl) : Rb 131 (warmG wy p) := by
  unfold warmG
  split
  · have a0 := pick_nn (p := warmPB p) (w := 2 * ten39) (by decide)
    have a1 := pick_lt (p := warmPB p) (w := 2 * ten39) (by decide)
    have b0 := pick_nn (p := left (warmPB p) (2 * ten39)) (w := 1000000) (by decide)
    have b1 := pick_lt (p := left (warmPB p) (2 * ten39)) (w := 1000000) (by decide)
    unfold ten39 at a0 a1 b0 b1 ⊢
    refine Rb.di ?_ ?_ (by omega) <;> (unfold Bt; omega)
  · exact (warmB_rb p).mono (by decide)
def lotNG (wy : Int) : Nat → Pl → List Bl × Pl
  | 0, p => ([], p)
  | n + 1, p => ((lotNG wy n p).1 ++ [(sizeB (lotNG wy n p).2, warmG wy (sizePB (lotNG wy n p).2))], warmPG wy (sizePB (lotNG wy n p).2))
theorem lotNG_ok {wy : Int} {p : Pl} (h : p.Ok) : ∀ n : Nat, (lotNG wy n p).2.Ok
  | 0 => h
  | n + 1 => warmPG_ok (sizePB_ok (lotNG_ok h n))
theorem lotNG_len (wy : Int) (p : Pl) : ∀ n : Nat, (lotNG wy n p).1.length = n
  | 0 => rfl
  | n + 1 => by
    show ((lotNG wy n p).1 ++ [_]).length = _
    rw [List.length_append, lotNG_len wy p n]; rfl
theorem lotNG_each (wy : Int) (p : Pl) : ∀ (n : Nat) (b : Bl), b ∈ (lotNG wy n p).1 → Sz b.1 ∧ Rb 131 b.2
  | 0, b, h => by simp [lotNG] at h
  | n + 1, b, h => by
    have h' : b ∈ (lotNG wy n p).1 ++ [(sizeB (lotNG wy n p).2, warmG wy (sizePB (lotNG wy n p).2))] := h
    rcases List.mem_append.mp h' with h | h
    · exact lotNG_each wy p n b h
    · rw [List.mem_singleton.mp h]
      exact ⟨sizeB_sz _, warmG_rb _ _⟩
def lotG (few more : Int) (p : Pl) : List Bl := (lotNG (pick p 4) (few + pick (left p 4) (more - few + 1)).toNat (left (left p 4) (more - few + 1))).1
def lotPG (few more : Int) (p : Pl) : Pl := (lotNG (pick p 4) (few + pick (left p 4) (more - few + 1)).toNat (left (left p 4) (more - few + 1))).2
theorem lotPG_ok {few more : Int} {p : Pl} (h : few ≤ more) (O : p.Ok) : (lotPG few more p).Ok := lotNG_ok (left_ok (left_ok O (by decide)) (by omega)) _
theorem lotG_len {few more : Int} {p : Pl} (h0 : 0 ≤ few) (h : few ≤ more) : few ≤ (lotG few more p).length ∧ ((lotG few more p).length : Int) ≤ more := by
  unfold lotG
  rw [lotNG_len]
  have a := pick_nn (p := left p 4) (w := more - few + 1) (by omega)
  have b := pick_lt (p := left p 4) (w := more - few + 1) (by omega)
  omega
theorem lotG_ok {few more : Int} {p : Pl} (h0 : 1 ≤ few) (h : few ≤ more) (h4 : more ≤ 4) : OkSt 525 (lotG few more p) := by
  obtain ⟨a, b⟩ := lotG_len (p := p) (show 0 ≤ few by omega) h
  exact OkSt.of_rbK (m := 131) (K := 4) (by decide) (by decide) (by omega) (by omega) (lotNG_each _ _ _)
end AL
/-! zip(.., strict=True), at the library's level: the call. -/
namespace SZ
open PySem RZ
open PySem.Sem (wp)
section
variable {prog : Program} {w : World} {A : Around} {E : Value → Shared → Prop} {s : Shared}
theorem callTypeKw_meets {T newId initId : String} {Bn Bi : Builtin} {args : List Value} {kw : List (Str × Value)} {S : Spec} {Q Q₁ : Value → Shared → Prop} (ft : TypeCalled T newId initId)
    (hct : checkTypeCall T ⟨args, kw⟩ = pure ()) (hcn : checkBuiltinCall newId ⟨.type T :: args, kw⟩ = pure ())
    (entryN : entryFor table newId = some Bn) (entryI : entryFor table initId = some Bi) (g : Meets (Bn ⟨.type T :: args, kw⟩) S)
    (h : S A.in1 (wants Q₁ E) s)
    (hnext : ∀ obj s₁, Q₁ obj s₁ → s₁.TypeIs obj T ∧ argsOk initId ⟨obj :: args, kw⟩ ∧ ∃ Si, Meets (Bi ⟨obj :: args, kw⟩) Si ∧ Si A.in1 (wants (fun r s₂ => r = .none ∧ Q obj s₂) E) s₁) :
    wpAny (model prog w) A (call (.type T) args kw) Q E s := by
  obtain ⟨c, tl, hmro⟩ := ft.mro
  have hmade := ft.made
  have hsub := ft.sub
  refine wpAny_call (codeAny_of_tree ?_)
  show wpAny _ _ (callAny (.type T) _) _ _ _
  refine wpAny_pure ⟨Code.quiet_builtin _ (by decide +kernel), codeAny_builtin F.entry_type_call ?_⟩
  rw [Around.under_plain (weight_type_call_type T args kw) (units_type_call_type T args kw)]
  have h1 := ft.notType
  have h2 := ft.canCreate
  repeat (any_goals (first | assumption | wp_step))
  refine codeAny_mono (codeAny_call_builtin ft.plain entryN (wpAny_of_eq hcn (g prog w A.in1 _ s h))) fun r s₁ hr => ?_
  cases r with
  | error e => exact hr
  | ok fl =>
    cases fl with
    | ret obj =>
      obtain ⟨hT, hok, Si, gi, hsi⟩ := hnext _ _ hr
      have hli := ft.init.lookup
      have hbi := ft.init.bind obj
      repeat (any_goals (first | assumption | wp_step))
      refine codeAny_mono (codeAny_call_builtin ft.init.plain entryI (ft.init.check _ _ _ _ _ _ _ _ hT hok (gi prog w A.in1 _ s₁ hsi))) fun r₂ s₂ hr₂ => ?_
      cases r₂ with
      | error e => exact hr₂
      | ok fl₂ =>
        cases fl₂ with
        | ret r =>
          obtain ⟨rfl, hq⟩ := hr₂
          repeat (any_goals (first | assumption | wp_step))
        | _ => exact hr₂.elim
    | _ => exact hr.elim
abbrev kwS : List (Str × Value) := [(Str.ofString "strict", .bool true)]
theorem typeCall_zipS (a b : Value) : checkTypeCall "zip" ⟨[a, b], kwS⟩ = pure () := by kernel_rfl
theorem newCall_zipS (a b : Value) : checkBuiltinCall "zip.__new__" ⟨[.type "zip", a, b], kwS⟩ = pure () := by kernel_rfl
theorem args_object_init_S (a b c : Value) : argsOk "object.__init__" ⟨[a, b, c], kwS⟩ := by
  unfold argsOk; rw [signature?_of (id := "object.__init__") (n := ['_', '_', 't', 'i', 'n', 'i', '_', '_']) (o := ['t', 'c', 'e', 'j', 'b', 'o']) (by kernel_rfl) F.owner_object]; kernel_rfl
theorem object_init_S {self a : Value} {rest : List Value} (hl : typeLookup (.type "zip") "__init__" = pure (some (.builtin "object.__init__")))
    (hm : Bind.madeBy (.type "zip") = pure (some "zip.__new__")) :
    Meets (Builtin.«object.__init__» ⟨self :: a :: rest, kwS⟩) (fun _ R s => s.TypeIs self "zip" ∧ R (.ok (.ret .none)) s) := by
  refine Meets.of_wp fun prog w A R s hs => ?_
  obtain ⟨hT, hq⟩ := hs
  repeat (any_goals (first | assumption | wp_step))
  exact ⟨_, rfl, hq⟩
abbrev zipSH5 (h : Heap) (l1 l2 : Addr) : Heap := (zipTH4 h l1 l2).push { cls := .type "zip", data := .fields #[.none, .bool false, .bool true, .ref (zipTH2 h l1 l2).objs.size, .ref (zipTH3 h l1 l2).objs.size] }
theorem meets_zipS_new (l1 l2 : Addr) (xs ys : Array Value) :
    Meets (Builtin.«zip.__new__» ⟨[.type "zip", .ref l1, .ref l2], kwS⟩) (fun _ R s => s.heap.IsTuple l1 xs ∧ s.heap.IsTuple l2 ys ∧
      R (.ok (.ret (.ref (zipTH4 s.heap l1 l2).objs.size))) { s with heap := zipSH5 s.heap l1 l2 }) :=
  .of_wp fun prog w A R s h => by
    obtain ⟨hp, g, d, tk, os⟩ := s; obtain ⟨hl1, hl2, h⟩ := h
    have hsub := sub_zip
    have hL1 : Heap.IsTuple (Shared.heap ⟨hp, g, d, tk, os⟩) l1 xs := hl1
    have hL2 : Heap.IsTuple (Shared.heap ⟨hp.push { cls := .type "tuple_iterator", data := .fields #[.ref l1, .int 0 0] }, g, d, tk, os⟩) l2 ys := Heap.IsTuple.push hl2 _
    wp_walk using wpAny_pyIter_tuple hL1, wpAny_pyIter_tuple hL2
    exact ⟨_, rfl, h⟩
end
end SZ
/-! zip(.., strict=True), at the library's level: the turns. -/
namespace SZ
open PySem RZ
open PySem.Sem (wp)
abbrev IsZipS (h : Heap) (z TI TO : Addr) (f0 : Value) : Prop :=
  h.get? z = some { cls := .type "zip", dict := none, data := .fields #[f0, .bool false, .bool true, .ref TI, .ref TO], slots := #[] }
section
variable {prog : Program} {w : World} {A : Around} {E : Value → Shared → Prop} {s : Shared}
theorem orEnd_item {it : Addr} {Q : Option Value → Shared → Prop} (h : wpAny (model prog w) A (Builtin.SmallTypes.nextOf (.ref it)) (fun x s' => Q (some x) s') (fun _ _ => False) s) : wpAny (model prog w) A (Builtin.SmallTypes.nextOrEnd (.ref it)) Q E s := by
  unfold Builtin.SmallTypes.nextOrEnd
  exact wpAny_bind (wpAny_attempt (wpAny_mono h (fun x s' q => wpAny_pure q) fun _ _ f => f.elim))
theorem orEnd_end {it : Addr} {Q : Option Value → Shared → Prop} (h : wpAny (model prog w) A (Builtin.SmallTypes.nextOf (.ref it)) (fun _ _ => False) (fun e s' => ∃ a, e = .ref a ∧ (∃ o, s'.heap.get? a = some o ∧ o.cls = .type "StopIteration") ∧ Q none s') s) : wpAny (model prog w) A (Builtin.SmallTypes.nextOrEnd (.ref it)) Q E s := by
  unfold Builtin.SmallTypes.nextOrEnd
  refine wpAny_bind (wpAny_attempt (wpAny_mono h (fun _ _ f => f.elim) fun e s' q => ?_))
  obtain ⟨a, rfl, ⟨o, ho, hc⟩, q⟩ := q
  exact wpAny_bind (wpAny_isInstance (T := "StopIteration") (b := true) ⟨o, ho, hc⟩ isSubtype_stop (wpAny_pure q))
theorem zipS_next_item {z TI TO i1 i2 l1 l2 : Addr} {k1 k2 : Nat} {xs ys : Array Value} {x y a b : Value} {Q : Value → Shared → Prop} (D : ZipApart z TI TO i1 i2 l1 l2)
    (hz : IsZipS s.heap z TI TO .none) (hTI : IsPair s.heap TI (.ref i1) (.ref i2)) (hTO : IsPair s.heap TO a b)
    (h1 : s.heap.IsTupleIter i1 l1 k1) (h2 : s.heap.IsTupleIter i2 l2 k2) (hl1 : s.heap.IsTuple l1 xs) (hl2 : s.heap.IsTuple l2 ys) (hx : xs[k1]? = some x) (hy : ys[k2]? = some y)
    (hQ : ∀ h', IsZipS h' z TI TO (rawInt s.heap.objs.size) → IsPair h' TO x y → h'.IsTupleIter i1 l1 (k1 + 1) → h'.IsTupleIter i2 l2 (k2 + 1) → IsPair h' s.heap.objs.size x y → h'.objs.size = s.heap.objs.size + 1 →
      (∀ c o, c ≠ z → c ≠ TO → c ≠ i1 → c ≠ i2 → s.heap.get? c = some o → h'.get? c = some o) → Q (.ref s.heap.objs.size) { s with heap := h' }) :
    wpAny (model prog w) A (Builtin.«zip.__next__» ⟨[.ref z], []⟩) (fun fin s' => ∃ v, fin = .done (.ret v) ∧ Q v s') E s := by
  show wpAny _ _ (field (.ref z) 2 >>= _) _ _ _
  refine wpAny_bind (wpAny_field hz rfl (x := .bool true) rfl ?_)
  show wpAny _ _ (field (.ref z) 3 >>= _) _ _ _
  refine wpAny_bind (wpAny_field hz rfl (x := .ref TI) rfl ?_)
  refine wpAny_bind (wpAny_seqItems hTI rfl ?_)
  show wpAny _ _ (Builtin.SmallTypes.ownedTupleIsFree (.ref z) >>= _) _ _ _
  refine wpAny_bind ?_
  unfold Builtin.SmallTypes.ownedTupleIsFree
  refine wpAny_bind (wpAny_field hz rfl (x := .none) rfl (wpAny_pure ?_))
  simp only [if_true]
  refine wpAny_bind (wpAny_rule ?_)
  refine wpAny_bind (wpAny_field hz rfl (x := .ref TO) rfl ?_)
  refine wpAny_bind (wpAny_setField_rec hz (by simp) fun h₁ hz₁ hs₁ => ?_)
  replace hz₁ : IsZipS h₁ z TI TO .ellipsis := hz₁
  refine wpAny_bind ?_
  simp only [List.zipIdx_cons, List.zipIdx_nil, List.forIn_cons, List.forIn_nil]

  refine wpAny_bind (wpAny_bind (wpAny_onRaise ?_))
  show wpAny _ _ (Builtin.SmallTypes.nextOrEnd (.ref i1)) _ _ _
  refine orEnd_item (nextOf_tuple_item (h1.extBut hs₁.extBut D.i1z) (hl1.extBut hs₁.extBut D.l1z) hx fun h₂ h1₂ hs₂ => ?_)
  have hTO₂ : IsPair h₂ TO a b := hs₂.extBut _ _ D.TOi1 (hs₁.extBut _ _ D.TOz hTO)
  refine wpAny_bind (wpAny_seqItems hTO₂ rfl ?_)
  refine wpAny_bind (wpAny_updateSeq_pair hTO₂ fun h₃ hTO₃ hs₃ => ?_)
  replace hTO₃ : IsPair h₃ TO x b := hTO₃
  refine wpAny_bind (wpAny_letGo (wpAny_pure ?_))

  refine wpAny_bind (wpAny_bind (wpAny_onRaise ?_))
  show wpAny _ _ (Builtin.SmallTypes.nextOrEnd (.ref i2)) _ _ _
  refine orEnd_item (nextOf_tuple_item (((h2.extBut hs₁.extBut D.i2z).extBut hs₂.extBut D.i12.symm).extBut hs₃.extBut D.TOi2.symm)
    (((hl2.extBut hs₁.extBut D.l2z).extBut hs₂.extBut D.l2i1).extBut hs₃.extBut D.l2TO) hy fun h₄ h2₄ hs₄ => ?_)
  have hTO₄ : IsPair h₄ TO x b := hs₄.extBut _ _ D.TOi2 hTO₃
  refine wpAny_bind (wpAny_seqItems hTO₄ rfl ?_)
  refine wpAny_bind (wpAny_updateSeq_pair hTO₄ fun h₅ hTO₅ hs₅ => ?_)
  replace hTO₅ : IsPair h₅ TO x y := hTO₅
  refine wpAny_bind (wpAny_letGo (wpAny_pure (wpAny_pure ?_)))

  refine wpAny_bind (wpAny_seqItems hTO₅ rfl ?_)
  refine wpAny_bind (wpAny_newTuple ?_)
  have hsz : h₅.objs.size = s.heap.objs.size := by rw [hs₅.1, hs₄.1, hs₃.1, hs₂.1, hs₁.1]
  have hz₅ : IsZipS h₅ z TI TO .ellipsis := hs₅.extBut _ _ D.TOz.symm (hs₄.extBut _ _ D.i2z.symm (hs₃.extBut _ _ D.TOz.symm (hs₂.extBut _ _ D.i1z.symm hz₁)))
  have hk₅ : ∀ c o, c ≠ z → c ≠ TO → c ≠ i1 → c ≠ i2 → s.heap.get? c = some o → h₅.get? c = some o := fun c o c1 c2 c3 c4 e =>
    hs₅.extBut _ _ c2 (hs₄.extBut _ _ c4 (hs₃.extBut _ _ c2 (hs₂.extBut _ _ c3 (hs₁.extBut _ _ c1 e))))
  have h1₅ : h₅.IsTupleIter i1 l1 (k1 + 1) := ((h1₂.extBut hs₃.extBut D.TOi1.symm).extBut hs₄.extBut D.i12).extBut hs₅.extBut D.TOi1.symm
  have h2₅ : h₅.IsTupleIter i2 l2 (k2 + 1) := h2₄.extBut hs₅.extBut D.TOi2.symm
  have hzlt : z < h₅.objs.size := Heap.lt_size hz₅
  have hTOlt : TO < h₅.objs.size := Heap.lt_size hTO₅
  have hi1lt : i1 < h₅.objs.size := by obtain ⟨_, e, _⟩ := h1₅; exact Heap.lt_size e
  have hi2lt : i2 < h₅.objs.size := by obtain ⟨_, e, _⟩ := h2₅; exact Heap.lt_size e
  show wpAny _ _ (Builtin.SmallTypes.ownedTupleHandOut (.ref z) (.ref h₅.objs.size) >>= _) _ _ _
  refine wpAny_bind ?_
  unfold Builtin.SmallTypes.ownedTupleHandOut
  have hz₆ : IsZipS (h₅.push { cls := .type "tuple", data := .seq #[x, y] }) z TI TO .ellipsis := Heap.get?_push_of_some _ hz₅
  refine wpAny_bind (wpAny_setField_rec hz₆ (by simp) fun h₇ hz₇ hs₇ => ?_)
  replace hz₇ : IsZipS h₇ z TI TO (rawInt h₅.objs.size) := hz₇
  refine wpAny_setField_rec hz₇ (by simp) fun h₈ hz₈ hs₈ => ?_
  replace hz₈ : IsZipS h₈ z TI TO (rawInt h₅.objs.size) := hz₈
  have up : ∀ c o, c ≠ z → h₅.get? c = some o → h₈.get? c = some o := fun c o c1 e => hs₈.extBut _ _ c1 (hs₇.extBut _ _ c1 (Heap.get?_push_of_some _ e))
  have hT₈ : IsPair h₈ h₅.objs.size x y := hs₈.extBut _ _ (Nat.ne_of_gt hzlt) (hs₇.extBut _ _ (Nat.ne_of_gt hzlt) (Heap.get?_push_size _ rfl))
  have hz8 : h₈.objs.size = h₅.objs.size + 1 := by rw [hs₈.1, hs₇.1, Heap.size_push]
  rw [hsz] at hz₈ hT₈ hz8
  refine wpAny_pure ⟨_, rfl, ?_⟩
  show Q (.ref h₅.objs.size) _
  rw [hsz]
  exact hQ h₈ hz₈ (up _ _ D.TOz hTO₅) (h1₅.at fun o e => up _ o D.i1z e) (h2₅.at fun o e => up _ o D.i2z e) hT₈ hz8 fun c o c1 c2 c3 c4 e => up c o c1 (hk₅ c o c1 c2 c3 c4 e)
theorem zipS_next_end {z TI TO i1 i2 l1 l2 : Addr} {k1 k2 : Nat} {xs ys : Array Value} {a b : Value} {Q : Fin → Shared → Prop} (hh : A.handled = none) (D : ZipApart z TI TO i1 i2 l1 l2)
    (hz : IsZipS s.heap z TI TO .none) (hTI : IsPair s.heap TI (.ref i1) (.ref i2)) (hTO : IsPair s.heap TO a b)
    (h1 : s.heap.IsTupleIter i1 l1 k1) (h2 : s.heap.IsTupleIter i2 l2 k2) (hl1 : s.heap.IsTuple l1 xs) (hl2 : s.heap.IsTuple l2 ys) (hx : xs[k1]? = none) (hy : ys[k2]? = none)
    (hE : ∀ h' e, (∀ c o, c ≠ z → c ≠ TO → c ≠ i1 → c ≠ i2 → s.heap.get? c = some o → h'.get? c = some o) → (∃ o, h'.get? e = some o ∧ o.cls = .type "StopIteration") → E (.ref e) { s with heap := h' }) :
    wpAny (model prog w) A (Builtin.«zip.__next__» ⟨[.ref z], []⟩) Q E s := by
  show wpAny _ _ (field (.ref z) 2 >>= _) _ _ _
  refine wpAny_bind (wpAny_field hz rfl (x := .bool true) rfl ?_)
  show wpAny _ _ (field (.ref z) 3 >>= _) _ _ _
  refine wpAny_bind (wpAny_field hz rfl (x := .ref TI) rfl ?_)
  refine wpAny_bind (wpAny_seqItems hTI rfl ?_)
  show wpAny _ _ (Builtin.SmallTypes.ownedTupleIsFree (.ref z) >>= _) _ _ _
  refine wpAny_bind ?_
  unfold Builtin.SmallTypes.ownedTupleIsFree
  refine wpAny_bind (wpAny_field hz rfl (x := .none) rfl (wpAny_pure ?_))
  simp only [if_true]
  refine wpAny_bind (wpAny_rule ?_)
  refine wpAny_bind (wpAny_field hz rfl (x := .ref TO) rfl ?_)
  refine wpAny_bind (wpAny_setField_rec hz (by simp) fun h₁ hz₁ hs₁ => ?_)
  replace hz₁ : IsZipS h₁ z TI TO .ellipsis := hz₁
  refine wpAny_bind ?_
  simp only [List.zipIdx_cons, List.zipIdx_nil, List.forIn_cons, List.forIn_nil]
  refine wpAny_bind (wpAny_bind (wpAny_onRaise ?_))
  show wpAny _ _ (Builtin.SmallTypes.nextOrEnd (.ref i1)) _ _ _
  refine orEnd_end (nextOf_tuple_end hh (h1.extBut hs₁.extBut D.i1z) (hl1.extBut hs₁.extBut D.l1z) hx fun h₂ e hs₂ he => ⟨e, rfl, he, ?_⟩)
  have hz₂ : IsZipS h₂ z TI TO .ellipsis := hs₂ _ _ D.i1z.symm hz₁
  refine wpAny_bind (wpAny_setField_rec hz₂ (by simp) fun h₃ hz₃ hs₃ => ?_)
  refine wpAny_bind ?_
  show wpAny _ _ (forIn (([Value.ref i1, Value.ref i2].drop 1).zipIdx 1) _ _ >>= _) _ _ _
  refine wpAny_bind ?_
  simp only [List.drop_succ_cons, List.drop_zero, List.zipIdx_cons, List.zipIdx_nil, List.forIn_cons, List.forIn_nil]
  have h2₃ := ((h2.extBut hs₁.extBut D.i2z).extBut hs₂ D.i12.symm).extBut hs₃.extBut D.i2z
  have hl2₃ := ((hl2.extBut hs₁.extBut D.l2z).extBut hs₂ D.l2i1).extBut hs₃.extBut D.l2z
  refine wpAny_bind (wpAny_bind (orEnd_end (nextOf_tuple_end hh h2₃ hl2₃ hy fun h₄ e2 hs₄ he2 => ⟨e2, rfl, he2, ?_⟩)))
  refine wpAny_pure (wpAny_pure ?_)
  refine wpAny_bind (wpAny_rule ?_)
  show wpAny _ _ (newExc (.type "StopIteration") [] >>= _) _ _ _
  refine wpAny_bind ?_
  simp only [newExc, newTuple]
  refine wpAny_bind (wpAny_newObj_type ?_ (by size_fits))
  refine wpAny_bind (m := firstArgMember _ _) (wpAny_of_eq (a := Value.none) (by first | rfl | (simp only [firstArgMember]; rfl)) ?_)
  refine wpAny_newObj_type ?_ (by size_fits)
  simp only [raiseNew]
  refine wpAny_bind (wpAny_handled ?_)
  first | rw [show A.in1.handled = none from hh] | rw [hh]
  refine wpAny_bind (wpAny_pure (wpAny_throw ?_))
  exact hE _ _ (fun c o c1 c2 c3 c4 x => Heap.get?_push_of_some _ (Heap.get?_push_of_some _ (hs₄ _ _ c4 (hs₃.extBut _ _ c1 (hs₂ _ _ c3 (hs₁.extBut _ _ c1 x)))))) ⟨_, Heap.get?_push_size _ rfl, rfl⟩
theorem pyNext_zipS_item {z TI TO i1 i2 l1 l2 : Addr} {k1 k2 : Nat} {xs ys : Array Value} {x y a b : Value} {Q : Option Value → Shared → Prop} (D : ZipApart z TI TO i1 i2 l1 l2)
    (hz : IsZipS s.heap z TI TO .none) (hTI : IsPair s.heap TI (.ref i1) (.ref i2)) (hTO : IsPair s.heap TO a b)
    (h1 : s.heap.IsTupleIter i1 l1 k1) (h2 : s.heap.IsTupleIter i2 l2 k2) (hl1 : s.heap.IsTuple l1 xs) (hl2 : s.heap.IsTuple l2 ys) (hx : xs[k1]? = some x) (hy : ys[k2]? = some y)
    (hQ : ∀ h', IsZipS h' z TI TO (rawInt s.heap.objs.size) → IsPair h' TO x y → h'.IsTupleIter i1 l1 (k1 + 1) → h'.IsTupleIter i2 l2 (k2 + 1) → IsPair h' s.heap.objs.size x y → h'.objs.size = s.heap.objs.size + 1 →
      (∀ c o, c ≠ z → c ≠ TO → c ≠ i1 → c ≠ i2 → s.heap.get? c = some o → h'.get? c = some o) → Q (some (.ref s.heap.objs.size)) { s with heap := h' }) :
    wpAny (model prog w) A (pyNext (.ref z)) Q E s := by
  have hT : s.TypeIs (.ref z) "zip" := ⟨_, hz, rfl⟩
  unfold pyNext
  exact wpAny_bind (wpAny_attempt (wpAny_callSpecial?_slot (name := Str.ofString "__next__") hT F.slot_zip_next
    (wpAny_call_entry F.slot_zip_next hT F.entry_zip_next
      (zipS_next_item D hz hTI hTO h1 h2 hl1 hl2 hx hy fun h' a1 a2 a3 a4 a5 a6 a7 => wpAny_pure (hQ h' a1 a2 a3 a4 a5 a6 a7)) (F.args_zip_next_1 _))))
theorem pyNext_zipS_end {z TI TO i1 i2 l1 l2 : Addr} {k1 k2 : Nat} {xs ys : Array Value} {a b : Value} {Q : Option Value → Shared → Prop} (hh : A.handled = none) (D : ZipApart z TI TO i1 i2 l1 l2)
    (hz : IsZipS s.heap z TI TO .none) (hTI : IsPair s.heap TI (.ref i1) (.ref i2)) (hTO : IsPair s.heap TO a b)
    (h1 : s.heap.IsTupleIter i1 l1 k1) (h2 : s.heap.IsTupleIter i2 l2 k2) (hl1 : s.heap.IsTuple l1 xs) (hl2 : s.heap.IsTuple l2 ys) (hx : xs[k1]? = none) (hy : ys[k2]? = none)
    (hQ : ∀ h', (∀ c o, c ≠ z → c ≠ TO → c ≠ i1 → c ≠ i2 → s.heap.get? c = some o → h'.get? c = some o) → Q none { s with heap := h' }) : wpAny (model prog w) A (pyNext (.ref z)) Q E s := by
  have hT : s.TypeIs (.ref z) "zip" := ⟨_, hz, rfl⟩
  unfold pyNext
  refine wpAny_bind (wpAny_attempt (wpAny_callSpecial?_slot (name := Str.ofString "__next__") hT F.slot_zip_next
    (wpAny_call_entry F.slot_zip_next hT F.entry_zip_next (zipS_next_end hh D hz hTI hTO h1 h2 hl1 hl2 hx hy fun h' e hk he => ?_) (F.args_zip_next_1 _))))
  obtain ⟨o, ho, hc⟩ := he
  refine wpAny_bind (wpAny_isInstance (T := "StopIteration") (b := true) ⟨o, ho, hc⟩ isSubtype_stop ?_)
  exact wpAny_pure (hQ _ hk)
theorem wpAny_letGo_zipS {z TI TO T : Addr} {elts : List Expr} {x1 : Nat} {pos : Pos} {Q : Unit → Shared → Prop} (hz : IsZipS s.heap z TI TO (rawInt T))
    (hQ : ∀ h', IsZipS h' z TI TO .none → Heap.SameBut z s.heap h' → Q () { s with heap := h' }) :
    wpAny (model prog w) A (letOwnedTupleGo (.Tuple elts x1 pos) (.ref z) (.ref T)) Q E s := by
  unfold letOwnedTupleGo
  refine wpAny_bind (wpAny_load hz ?_)
  show wpAny _ _ (if (["enumerate", "zip", "dict_itemiterator", "dict_reverseitemiterator", "odict_iterator", "itertools.zip_longest", "itertools.pairwise"].contains "zip" &&
      (#[rawInt T, .bool false, .bool true, .ref TI, .ref TO] : Array Value)[0]? == some (rawInt T)) = true then _ else _) Q E s
  rw [if_pos (by simp)]
  refine wpAny_bind (wpAny_rule ?_)
  show wpAny _ _ (setField (.ref z) 0 .none) Q E s
  exact wpAny_setField_rec hz (by simp) fun h' hz' hs' => hQ h' hz' hs'
theorem wpAny_pyIter_zipS {z TI TO : Addr} {f0 : Value} {Q : Value → Shared → Prop} (hz : IsZipS s.heap z TI TO f0) (h : Q (.ref z) s) : wpAny (model prog w) A (pyIter (.ref z)) Q E s := by
  have hT : s.TypeIs (.ref z) "zip" := ⟨_, hz, rfl⟩
  refine wpAny_pyIter_slot hT F.slot_zip_iter (wpAny_call_entry F.slot_zip_iter hT F.entry_zip_iter ?_ (F.args_zip_iter_1 _))
  show wpAny _ _ (ret (.ref z)) _ _ s
  exact wpAny_pure ⟨_, rfl, "zip", _, hT, F.slot_zip_next.lookup, h⟩
theorem call_zipS {l1 l2 : Addr} {xs ys : Array Value} {Q : Value → Shared → Prop} (hl1 : s.heap.IsTuple l1 xs) (hl2 : s.heap.IsTuple l2 ys)
    (h : ∀ h', IsZipS h' (s.heap.objs.size + 4) (s.heap.objs.size + 2) (s.heap.objs.size + 3) .none → IsPair h' (s.heap.objs.size + 2) (.ref s.heap.objs.size) (.ref (s.heap.objs.size + 1)) →
      IsPair h' (s.heap.objs.size + 3) .none .none → h'.IsTupleIter s.heap.objs.size l1 0 → h'.IsTupleIter (s.heap.objs.size + 1) l2 0 → h'.objs.size = s.heap.objs.size + 5 →
      (∀ c o, s.heap.get? c = some o → h'.get? c = some o) → Q (.ref (s.heap.objs.size + 4)) { s with heap := h' }) :
    wpAny (model prog w) A (call (.type "zip") [.ref l1, .ref l2] kwS) Q E s := by
  refine callTypeKw_meets F.called_zip (typeCall_zipS _ _) (newCall_zipS _ _) F.entry_zip_new F.entry_object_init
    (meets_zipS_new l1 l2 xs ys) (Q₁ := fun obj s₁ => s₁.TypeIs obj "zip" ∧ Q obj s₁) ⟨hl1, hl2, ?_⟩ fun obj s₁ hq =>
    ⟨hq.1, args_object_init_S _ _ _, _, object_init_S F.called_zip.init.lookup F.called_zip.made, hq.1, rfl, hq.2⟩
  have z1 : (zipTH1 s.heap l1).objs.size = s.heap.objs.size + 1 := Heap.size_push ..
  have z2 : (zipTH2 s.heap l1 l2).objs.size = s.heap.objs.size + 2 := by rw [Heap.size_push, z1]
  have z3 : (zipTH3 s.heap l1 l2).objs.size = s.heap.objs.size + 3 := by rw [Heap.size_push, z2]
  have z4 : (zipTH4 s.heap l1 l2).objs.size = s.heap.objs.size + 4 := by rw [Heap.size_push, z3]
  have z5 : (zipSH5 s.heap l1 l2).objs.size = s.heap.objs.size + 5 := by rw [Heap.size_push, z4]
  have g5 : (zipSH5 s.heap l1 l2).get? (zipTH4 s.heap l1 l2).objs.size = some _ := Heap.get?_push_size _ rfl
  have g4 : (zipSH5 s.heap l1 l2).get? (zipTH3 s.heap l1 l2).objs.size = some _ := Heap.get?_push_of_some _ (Heap.get?_push_size _ rfl)
  have g3 : (zipSH5 s.heap l1 l2).get? (zipTH2 s.heap l1 l2).objs.size = some _ := Heap.get?_push_of_some _ (Heap.get?_push_of_some _ (Heap.get?_push_size _ rfl))
  have g2 : (zipSH5 s.heap l1 l2).get? (zipTH1 s.heap l1).objs.size = some _ := Heap.get?_push_of_some _ (Heap.get?_push_of_some _ (Heap.get?_push_of_some _ (Heap.get?_push_size _ rfl)))
  have g1 : (zipSH5 s.heap l1 l2).get? s.heap.objs.size = some _ := Heap.get?_push_of_some _ (Heap.get?_push_of_some _ (Heap.get?_push_of_some _ (Heap.get?_push_of_some _ (Heap.get?_push_size _ rfl))))
  show _ ∧ _
  rw [z2, z3, z4] at g5
  rw [z1, z2] at g3
  rw [z3] at g4
  rw [z1] at g2
  rw [z4]
  exact ⟨⟨_, g5, rfl⟩, h _ g5 g3 g4 ⟨_, g1, rfl, rfl⟩ ⟨_, g2, rfl, rfl⟩ z5 fun c o x =>
    Heap.get?_push_of_some _ (Heap.get?_push_of_some _ (Heap.get?_push_of_some _ (Heap.get?_push_of_some _ (Heap.get?_push_of_some _ x))))⟩
end
end SZ
/-! zip(.., strict=True) of lists. -/
namespace SZ
open PySem RZ
open PySem.Sem (wp)
section
variable {prog : Program} {w : World} {A : Around} {E : Value → Shared → Prop} {s : Shared}
abbrev zipLH5 (h : Heap) (l1 l2 : Addr) : Heap := (zipH4 h l1 l2).push { cls := .type "zip", data := .fields #[.none, .bool false, .bool true, .ref (zipH2 h l1 l2).objs.size, .ref (zipH3 h l1 l2).objs.size] }
theorem meets_zipL_new (l1 l2 : Addr) (xs ys : Array Value) :
    Meets (Builtin.«zip.__new__» ⟨[.type "zip", .ref l1, .ref l2], kwS⟩) (fun _ R s => s.heap.IsList l1 xs ∧ s.heap.IsList l2 ys ∧
      R (.ok (.ret (.ref (zipH4 s.heap l1 l2).objs.size))) { s with heap := zipLH5 s.heap l1 l2 }) :=
  .of_wp fun prog w A R s h => by
    obtain ⟨hp, g, d, tk, os⟩ := s; obtain ⟨hl1, hl2, h⟩ := h
    have hsub := sub_zip
    have hL1 : Heap.IsList (Shared.heap ⟨hp, g, d, tk, os⟩) l1 xs := hl1
    have hL2 : Heap.IsList (Shared.heap ⟨hp.push { cls := .type "list_iterator", data := .fields #[.ref l1, .int 0 0] }, g, d, tk, os⟩) l2 ys := Heap.IsList.push hl2 _
    wp_walk using wpAny_pyIter_list hL1, wpAny_pyIter_list hL2
    exact ⟨_, rfl, h⟩
theorem zipL_next_item {z TI TO i1 i2 l1 l2 : Addr} {k1 k2 : Nat} {xs ys : Array Value} {x y a b : Value} {Q : Value → Shared → Prop} (D : ZipApart z TI TO i1 i2 l1 l2)
    (hz : IsZipS s.heap z TI TO .none) (hTI : IsPair s.heap TI (.ref i1) (.ref i2)) (hTO : IsPair s.heap TO a b)
    (h1 : s.heap.IsListIter i1 l1 k1) (h2 : s.heap.IsListIter i2 l2 k2) (hl1 : s.heap.IsList l1 xs) (hl2 : s.heap.IsList l2 ys) (hx : xs[k1]? = some x) (hy : ys[k2]? = some y)
    (hQ : ∀ h', IsZipS h' z TI TO (rawInt s.heap.objs.size) → IsPair h' TO x y → h'.IsListIter i1 l1 (k1 + 1) → h'.IsListIter i2 l2 (k2 + 1) → IsPair h' s.heap.objs.size x y → h'.objs.size = s.heap.objs.size + 1 →
      (∀ c o, c ≠ z → c ≠ TO → c ≠ i1 → c ≠ i2 → s.heap.get? c = some o → h'.get? c = some o) → Q (.ref s.heap.objs.size) { s with heap := h' }) :
    wpAny (model prog w) A (Builtin.«zip.__next__» ⟨[.ref z], []⟩) (fun fin s' => ∃ v, fin = .done (.ret v) ∧ Q v s') E s := by
  show wpAny _ _ (field (.ref z) 2 >>= _) _ _ _
  refine wpAny_bind (wpAny_field hz rfl (x := .bool true) rfl ?_)
  show wpAny _ _ (field (.ref z) 3 >>= _) _ _ _
  refine wpAny_bind (wpAny_field hz rfl (x := .ref TI) rfl ?_)
  refine wpAny_bind (wpAny_seqItems hTI rfl ?_)
  show wpAny _ _ (Builtin.SmallTypes.ownedTupleIsFree (.ref z) >>= _) _ _ _
  refine wpAny_bind ?_
  unfold Builtin.SmallTypes.ownedTupleIsFree
  refine wpAny_bind (wpAny_field hz rfl (x := .none) rfl (wpAny_pure ?_))
  simp only [if_true]
  refine wpAny_bind (wpAny_rule ?_)
  refine wpAny_bind (wpAny_field hz rfl (x := .ref TO) rfl ?_)
  refine wpAny_bind (wpAny_setField_rec hz (by simp) fun h₁ hz₁ hs₁ => ?_)
  replace hz₁ : IsZipS h₁ z TI TO .ellipsis := hz₁
  refine wpAny_bind ?_
  simp only [List.zipIdx_cons, List.zipIdx_nil, List.forIn_cons, List.forIn_nil]

  refine wpAny_bind (wpAny_bind (wpAny_onRaise ?_))
  show wpAny _ _ (Builtin.SmallTypes.nextOrEnd (.ref i1)) _ _ _
  refine orEnd_item (wpAny_nextOf_list_item (h1.extBut hs₁.extBut D.i1z) (hl1.extBut hs₁.extBut D.l1z) hx fun h₂ h1₂ hs₂ => ?_)
  have hTO₂ : IsPair h₂ TO a b := hs₂.extBut _ _ D.TOi1 (hs₁.extBut _ _ D.TOz hTO)
  refine wpAny_bind (wpAny_seqItems hTO₂ rfl ?_)
  refine wpAny_bind (wpAny_updateSeq_pair hTO₂ fun h₃ hTO₃ hs₃ => ?_)
  replace hTO₃ : IsPair h₃ TO x b := hTO₃
  refine wpAny_bind (wpAny_letGo (wpAny_pure ?_))

  refine wpAny_bind (wpAny_bind (wpAny_onRaise ?_))
  show wpAny _ _ (Builtin.SmallTypes.nextOrEnd (.ref i2)) _ _ _
  refine orEnd_item (wpAny_nextOf_list_item (((h2.extBut hs₁.extBut D.i2z).extBut hs₂.extBut D.i12.symm).extBut hs₃.extBut D.TOi2.symm)
    (((hl2.extBut hs₁.extBut D.l2z).extBut hs₂.extBut D.l2i1).extBut hs₃.extBut D.l2TO) hy fun h₄ h2₄ hs₄ => ?_)
  have hTO₄ : IsPair h₄ TO x b := hs₄.extBut _ _ D.TOi2 hTO₃
  refine wpAny_bind (wpAny_seqItems hTO₄ rfl ?_)
  refine wpAny_bind (wpAny_updateSeq_pair hTO₄ fun h₅ hTO₅ hs₅ => ?_)
  replace hTO₅ : IsPair h₅ TO x y := hTO₅
  refine wpAny_bind (wpAny_letGo (wpAny_pure (wpAny_pure ?_)))

  refine wpAny_bind (wpAny_seqItems hTO₅ rfl ?_)
  refine wpAny_bind (wpAny_newTuple ?_)
  have hsz : h₅.objs.size = s.heap.objs.size := by rw [hs₅.1, hs₄.1, hs₃.1, hs₂.1, hs₁.1]
  have hz₅ : IsZipS h₅ z TI TO .ellipsis := hs₅.extBut _ _ D.TOz.symm (hs₄.extBut _ _ D.i2z.symm (hs₃.extBut _ _ D.TOz.symm (hs₂.extBut _ _ D.i1z.symm hz₁)))
  have hk₅ : ∀ c o, c ≠ z → c ≠ TO → c ≠ i1 → c ≠ i2 → s.heap.get? c = some o → h₅.get? c = some o := fun c o c1 c2 c3 c4 e =>
    hs₅.extBut _ _ c2 (hs₄.extBut _ _ c4 (hs₃.extBut _ _ c2 (hs₂.extBut _ _ c3 (hs₁.extBut _ _ c1 e))))
  have h1₅ : h₅.IsListIter i1 l1 (k1 + 1) := ((h1₂.extBut hs₃.extBut D.TOi1.symm).extBut hs₄.extBut D.i12).extBut hs₅.extBut D.TOi1.symm
  have h2₅ : h₅.IsListIter i2 l2 (k2 + 1) := h2₄.extBut hs₅.extBut D.TOi2.symm
  have hzlt : z < h₅.objs.size := Heap.lt_size hz₅
  have hTOlt : TO < h₅.objs.size := Heap.lt_size hTO₅
  have hi1lt : i1 < h₅.objs.size := by obtain ⟨_, e, _⟩ := h1₅; exact Heap.lt_size e
  have hi2lt : i2 < h₅.objs.size := by obtain ⟨_, e, _⟩ := h2₅; exact Heap.lt_size e
  show wpAny _ _ (Builtin.SmallTypes.ownedTupleHandOut (.ref z) (.ref h₅.objs.size) >>= _) _ _ _
  refine wpAny_bind ?_
  unfold Builtin.SmallTypes.ownedTupleHandOut
  have hz₆ : IsZipS (h₅.push { cls := .type "tuple", data := .seq #[x, y] }) z TI TO .ellipsis := Heap.get?_push_of_some _ hz₅
  refine wpAny_bind (wpAny_setField_rec hz₆ (by simp) fun h₇ hz₇ hs₇ => ?_)
  replace hz₇ : IsZipS h₇ z TI TO (rawInt h₅.objs.size) := hz₇
  refine wpAny_setField_rec hz₇ (by simp) fun h₈ hz₈ hs₈ => ?_
  replace hz₈ : IsZipS h₈ z TI TO (rawInt h₅.objs.size) := hz₈
  have up : ∀ c o, c ≠ z → h₅.get? c = some o → h₈.get? c = some o := fun c o c1 e => hs₈.extBut _ _ c1 (hs₇.extBut _ _ c1 (Heap.get?_push_of_some _ e))
  have hT₈ : IsPair h₈ h₅.objs.size x y := hs₈.extBut _ _ (Nat.ne_of_gt hzlt) (hs₇.extBut _ _ (Nat.ne_of_gt hzlt) (Heap.get?_push_size _ rfl))
  have hz8 : h₈.objs.size = h₅.objs.size + 1 := by rw [hs₈.1, hs₇.1, Heap.size_push]
  rw [hsz] at hz₈ hT₈ hz8
  refine wpAny_pure ⟨_, rfl, ?_⟩
  show Q (.ref h₅.objs.size) _
  rw [hsz]
  exact hQ h₈ hz₈ (up _ _ D.TOz hTO₅) (h1₅.at fun o e => up _ o D.i1z e) (h2₅.at fun o e => up _ o D.i2z e) hT₈ hz8 fun c o c1 c2 c3 c4 e => up c o c1 (hk₅ c o c1 c2 c3 c4 e)
theorem zipL_next_end {z TI TO i1 i2 l1 l2 : Addr} {k1 k2 : Nat} {xs ys : Array Value} {a b : Value} {Q : Fin → Shared → Prop} (hh : A.handled = none) (D : ZipApart z TI TO i1 i2 l1 l2)
    (hz : IsZipS s.heap z TI TO .none) (hTI : IsPair s.heap TI (.ref i1) (.ref i2)) (hTO : IsPair s.heap TO a b)
    (h1 : s.heap.IsListIter i1 l1 k1) (h2 : s.heap.IsListIter i2 l2 k2) (hl1 : s.heap.IsList l1 xs) (hl2 : s.heap.IsList l2 ys) (hx : xs[k1]? = none) (hy : ys[k2]? = none)
    (hE : ∀ h' e, (∀ c o, c ≠ z → c ≠ TO → c ≠ i1 → c ≠ i2 → s.heap.get? c = some o → h'.get? c = some o) → (∃ o, h'.get? e = some o ∧ o.cls = .type "StopIteration") → E (.ref e) { s with heap := h' }) :
    wpAny (model prog w) A (Builtin.«zip.__next__» ⟨[.ref z], []⟩) Q E s := by
  show wpAny _ _ (field (.ref z) 2 >>= _) _ _ _
  refine wpAny_bind (wpAny_field hz rfl (x := .bool true) rfl ?_)
  show wpAny _ _ (field (.ref z) 3 >>= _) _ _ _
  refine wpAny_bind (wpAny_field hz rfl (x := .ref TI) rfl ?_)
  refine wpAny_bind (wpAny_seqItems hTI rfl ?_)
  show wpAny _ _ (Builtin.SmallTypes.ownedTupleIsFree (.ref z) >>= _) _ _ _
  refine wpAny_bind ?_
  unfold Builtin.SmallTypes.ownedTupleIsFree
  refine wpAny_bind (wpAny_field hz rfl (x := .none) rfl (wpAny_pure ?_))
  simp only [if_true]
  refine wpAny_bind (wpAny_rule ?_)
  refine wpAny_bind (wpAny_field hz rfl (x := .ref TO) rfl ?_)
  refine wpAny_bind (wpAny_setField_rec hz (by simp) fun h₁ hz₁ hs₁ => ?_)
  replace hz₁ : IsZipS h₁ z TI TO .ellipsis := hz₁
  refine wpAny_bind ?_
  simp only [List.zipIdx_cons, List.zipIdx_nil, List.forIn_cons, List.forIn_nil]
  refine wpAny_bind (wpAny_bind (wpAny_onRaise ?_))
  show wpAny _ _ (Builtin.SmallTypes.nextOrEnd (.ref i1)) _ _ _
  refine orEnd_end (wpAny_nextOf_list_end hh (h1.extBut hs₁.extBut D.i1z) (hl1.extBut hs₁.extBut D.l1z) hx fun h₂ e hs₂ he => ⟨e, rfl, he, ?_⟩)
  have hz₂ : IsZipS h₂ z TI TO .ellipsis := hs₂ _ _ D.i1z.symm hz₁
  refine wpAny_bind (wpAny_setField_rec hz₂ (by simp) fun h₃ hz₃ hs₃ => ?_)
  refine wpAny_bind ?_
  show wpAny _ _ (forIn (([Value.ref i1, Value.ref i2].drop 1).zipIdx 1) _ _ >>= _) _ _ _
  refine wpAny_bind ?_
  simp only [List.drop_succ_cons, List.drop_zero, List.zipIdx_cons, List.zipIdx_nil, List.forIn_cons, List.forIn_nil]
  have h2₃ := ((h2.extBut hs₁.extBut D.i2z).extBut hs₂ D.i12.symm).extBut hs₃.extBut D.i2z
  have hl2₃ := ((hl2.extBut hs₁.extBut D.l2z).extBut hs₂ D.l2i1).extBut hs₃.extBut D.l2z
  refine wpAny_bind (wpAny_bind (orEnd_end (wpAny_nextOf_list_end hh h2₃ hl2₃ hy fun h₄ e2 hs₄ he2 => ⟨e2, rfl, he2, ?_⟩)))
  refine wpAny_pure (wpAny_pure ?_)
  refine wpAny_bind (wpAny_rule ?_)
  show wpAny _ _ (newExc (.type "StopIteration") [] >>= _) _ _ _
  refine wpAny_bind ?_
  simp only [newExc, newTuple]
  refine wpAny_bind (wpAny_newObj_type ?_ (by size_fits))
  refine wpAny_bind (m := firstArgMember _ _) (wpAny_of_eq (a := Value.none) (by first | rfl | (simp only [firstArgMember]; rfl)) ?_)
  refine wpAny_newObj_type ?_ (by size_fits)
  simp only [raiseNew]
  refine wpAny_bind (wpAny_handled ?_)
  first | rw [show A.in1.handled = none from hh] | rw [hh]
  refine wpAny_bind (wpAny_pure (wpAny_throw ?_))
  exact hE _ _ (fun c o c1 c2 c3 c4 x => Heap.get?_push_of_some _ (Heap.get?_push_of_some _ (hs₄ _ _ c4 (hs₃.extBut _ _ c1 (hs₂ _ _ c3 (hs₁.extBut _ _ c1 x)))))) ⟨_, Heap.get?_push_size _ rfl, rfl⟩
theorem pyNext_zipL_item {z TI TO i1 i2 l1 l2 : Addr} {k1 k2 : Nat} {xs ys : Array Value} {x y a b : Value} {Q : Option Value → Shared → Prop} (D : ZipApart z TI TO i1 i2 l1 l2)
    (hz : IsZipS s.heap z TI TO .none) (hTI : IsPair s.heap TI (.ref i1) (.ref i2)) (hTO : IsPair s.heap TO a b)
    (h1 : s.heap.IsListIter i1 l1 k1) (h2 : s.heap.IsListIter i2 l2 k2) (hl1 : s.heap.IsList l1 xs) (hl2 : s.heap.IsList l2 ys) (hx : xs[k1]? = some x) (hy : ys[k2]? = some y)
    (hQ : ∀ h', IsZipS h' z TI TO (rawInt s.heap.objs.size) → IsPair h' TO x y → h'.IsListIter i1 l1 (k1 + 1) → h'.IsListIter i2 l2 (k2 + 1) → IsPair h' s.heap.objs.size x y → h'.objs.size = s.heap.objs.size + 1 →
      (∀ c o, c ≠ z → c ≠ TO → c ≠ i1 → c ≠ i2 → s.heap.get? c = some o → h'.get? c = some o) → Q (some (.ref s.heap.objs.size)) { s with heap := h' }) :
    wpAny (model prog w) A (pyNext (.ref z)) Q E s := by
  have hT : s.TypeIs (.ref z) "zip" := ⟨_, hz, rfl⟩
  unfold pyNext
  exact wpAny_bind (wpAny_attempt (wpAny_callSpecial?_slot (name := Str.ofString "__next__") hT F.slot_zip_next
    (wpAny_call_entry F.slot_zip_next hT F.entry_zip_next
      (zipL_next_item D hz hTI hTO h1 h2 hl1 hl2 hx hy fun h' a1 a2 a3 a4 a5 a6 a7 => wpAny_pure (hQ h' a1 a2 a3 a4 a5 a6 a7)) (F.args_zip_next_1 _))))
theorem pyNext_zipL_end {z TI TO i1 i2 l1 l2 : Addr} {k1 k2 : Nat} {xs ys : Array Value} {a b : Value} {Q : Option Value → Shared → Prop} (hh : A.handled = none) (D : ZipApart z TI TO i1 i2 l1 l2)
    (hz : IsZipS s.heap z TI TO .none) (hTI : IsPair s.heap TI (.ref i1) (.ref i2)) (hTO : IsPair s.heap TO a b)
    (h1 : s.heap.IsListIter i1 l1 k1) (h2 : s.heap.IsListIter i2 l2 k2) (hl1 : s.heap.IsList l1 xs) (hl2 : s.heap.IsList l2 ys) (hx : xs[k1]? = none) (hy : ys[k2]? = none)
    (hQ : ∀ h', (∀ c o, c ≠ z → c ≠ TO → c ≠ i1 → c ≠ i2 → s.heap.get? c = some o → h'.get? c = some o) → Q none { s with heap := h' }) : wpAny (model prog w) A (pyNext (.ref z)) Q E s := by
  have hT : s.TypeIs (.ref z) "zip" := ⟨_, hz, rfl⟩
  unfold pyNext
  refine wpAny_bind (wpAny_attempt (wpAny_callSpecial?_slot (name := Str.ofString "__next__") hT F.slot_zip_next
    (wpAny_call_entry F.slot_zip_next hT F.entry_zip_next (zipL_next_end hh D hz hTI hTO h1 h2 hl1 hl2 hx hy fun h' e hk he => ?_) (F.args_zip_next_1 _))))
  obtain ⟨o, ho, hc⟩ := he
  refine wpAny_bind (wpAny_isInstance (T := "StopIteration") (b := true) ⟨o, ho, hc⟩ isSubtype_stop ?_)
  exact wpAny_pure (hQ _ hk)
theorem call_zipL {l1 l2 : Addr} {xs ys : Array Value} {Q : Value → Shared → Prop} (hl1 : s.heap.IsList l1 xs) (hl2 : s.heap.IsList l2 ys)
    (h : ∀ h', IsZipS h' (s.heap.objs.size + 4) (s.heap.objs.size + 2) (s.heap.objs.size + 3) .none → IsPair h' (s.heap.objs.size + 2) (.ref s.heap.objs.size) (.ref (s.heap.objs.size + 1)) →
      IsPair h' (s.heap.objs.size + 3) .none .none → h'.IsListIter s.heap.objs.size l1 0 → h'.IsListIter (s.heap.objs.size + 1) l2 0 → h'.objs.size = s.heap.objs.size + 5 →
      (∀ c o, s.heap.get? c = some o → h'.get? c = some o) → Q (.ref (s.heap.objs.size + 4)) { s with heap := h' }) :
    wpAny (model prog w) A (call (.type "zip") [.ref l1, .ref l2] kwS) Q E s := by
  refine callTypeKw_meets F.called_zip (typeCall_zipS _ _) (newCall_zipS _ _) F.entry_zip_new F.entry_object_init
    (meets_zipL_new l1 l2 xs ys) (Q₁ := fun obj s₁ => s₁.TypeIs obj "zip" ∧ Q obj s₁) ⟨hl1, hl2, ?_⟩ fun obj s₁ hq =>
    ⟨hq.1, args_object_init_S _ _ _, _, object_init_S F.called_zip.init.lookup F.called_zip.made, hq.1, rfl, hq.2⟩
  have z1 : (zipH1 s.heap l1).objs.size = s.heap.objs.size + 1 := Heap.size_push ..
  have z2 : (zipH2 s.heap l1 l2).objs.size = s.heap.objs.size + 2 := by rw [Heap.size_push, z1]
  have z3 : (zipH3 s.heap l1 l2).objs.size = s.heap.objs.size + 3 := by rw [Heap.size_push, z2]
  have z4 : (zipH4 s.heap l1 l2).objs.size = s.heap.objs.size + 4 := by rw [Heap.size_push, z3]
  have z5 : (zipLH5 s.heap l1 l2).objs.size = s.heap.objs.size + 5 := by rw [Heap.size_push, z4]
  have g5 : (zipLH5 s.heap l1 l2).get? (zipH4 s.heap l1 l2).objs.size = some _ := Heap.get?_push_size _ rfl
  have g4 : (zipLH5 s.heap l1 l2).get? (zipH3 s.heap l1 l2).objs.size = some _ := Heap.get?_push_of_some _ (Heap.get?_push_size _ rfl)
  have g3 : (zipLH5 s.heap l1 l2).get? (zipH2 s.heap l1 l2).objs.size = some _ := Heap.get?_push_of_some _ (Heap.get?_push_of_some _ (Heap.get?_push_size _ rfl))
  have g2 : (zipLH5 s.heap l1 l2).get? (zipH1 s.heap l1).objs.size = some _ := Heap.get?_push_of_some _ (Heap.get?_push_of_some _ (Heap.get?_push_of_some _ (Heap.get?_push_size _ rfl)))
  have g1 : (zipLH5 s.heap l1 l2).get? s.heap.objs.size = some _ := Heap.get?_push_of_some _ (Heap.get?_push_of_some _ (Heap.get?_push_of_some _ (Heap.get?_push_of_some _ (Heap.get?_push_size _ rfl))))
  show _ ∧ _
  rw [z2, z3, z4] at g5
  rw [z1, z2] at g3
  rw [z3] at g4
  rw [z1] at g2
  rw [z4]
  exact ⟨⟨_, g5, rfl⟩, h _ g5 g3 g4 ⟨_, g1, rfl, rfl⟩ ⟨_, g2, rfl, rfl⟩ z5 fun c o x =>
    Heap.get?_push_of_some _ (Heap.get?_push_of_some _ (Heap.get?_push_of_some _ (Heap.get?_push_of_some _ (Heap.get?_push_of_some _ x))))⟩
end
end SZ
/-! zip(.., strict=True): loops over it, the layer's rule. -/
namespace SZ
open PySem PySem.Spec PyProof.Rows L2 RZ AL

def ItzL (K : PySem.W.Frag) (a b : Addr) : It :=
  ⟨fun i H => ∃ (xs ys : List V) (x y : V), SqL K H a xs ∧ SqL K H b ys ∧ xs[i]? = some x ∧ ys[i]? = some y,
    fun i H v H' => ∃ T x y, v = .ref T ∧ H T = none ∧ H' = upd H T (.tup [x, y]) ∧ (∀ xs, SqL K H a xs → xs[i]? = some x) ∧ ∀ ys, SqL K H b ys → ys[i]? = some y,
    fun i H => ∃ xs ys : List V, SqL K H a xs ∧ SqL K H b ys ∧ xs.length ≤ i ∧ ys.length ≤ i⟩
theorem turn_zipL {P : Program} {w : World} {K : PySem.W.Frag} {elts : List Expr} {kk : Nat} {tpos : Pos} {a b z TI TO i1 i2 : Addr} (D : ZipApart z TI TO i1 i2 a b) :
    Turn P w K (.Tuple elts kk tpos) (ItzL K a b) [z, TI, TO, i1, i2] z (fun i h => IsZipS h z TI TO .none ∧ IsPair h TI (.ref i1) (.ref i2) ∧ (∃ x y, IsPair h TO x y) ∧ h.IsListIter i1 a i ∧ h.IsListIter i2 b i) where
  mem := by simp
  obj := fun i h st c hc => by
    obtain ⟨hz, hTI, ⟨x, y, hTO⟩, ⟨o1, e1, _, d1⟩, ⟨o2, e2, _, d2⟩⟩ := st
    have e' : c = z ∨ c = TI ∨ c = TO ∨ c = i1 ∨ c = i2 := by simpa using hc
    rcases e' with q | q | q | q | q
    · rw [q]; exact ⟨_, hz, fun v q => nomatch q⟩
    · rw [q]; exact ⟨_, hTI, fun v q => nomatch q⟩
    · rw [q]; exact ⟨_, hTO, fun v q => nomatch q⟩
    · rw [q]; exact ⟨o1, e1, fun v q => by rw [d1] at q; cases q⟩
    · rw [q]; exact ⟨o2, e2, fun v q => by rw [d2] at q; cases q⟩
  keep := fun i h h' st k => by
    obtain ⟨hz, hTI, ⟨x, y, hTO⟩, h1, h2⟩ := st
    exact ⟨k z (by simp) _ hz, k TI (by simp) _ hTI, ⟨x, y, k TO (by simp) _ hTO⟩, h1.at fun o q => k i1 (by simp) o q, h2.at fun o q => k i2 (by simp) o q⟩
  item := by
    intro X hP hw hK hc i pins s σ H E I hf st hg
    subst hP hw hK
    obtain ⟨hz, hTI, ⟨x0, y0, hTO⟩, h1, h2⟩ := st
    obtain ⟨xs, ys, x, y, hqx, hqy, hx, hy⟩ := hg
    obtain ⟨its, rv, p, _⟩ := I.list hqx
    obtain ⟨its2, rv2, p2, _⟩ := I.list hqy
    obtain ⟨u, hu, ru⟩ := rv.get hx
    obtain ⟨u2, hu2, ru2⟩ := rv2.get hy
    have hzl : z < s.heap.objs.size := Heap.lt_size hz
    refine pyNext_zipL_item D hz hTI hTO h1 h2 p.isList p2.isList (x := u) (y := u2) (by simpa using hu) (by simpa using hu2) fun h' z' TO' h1' h2' hT hsz hk => ?_
    refine ⟨_, rfl, wpAny_letGo_zipS (s := { s with heap := h' }) z' fun h'' z'' sb => ?_⟩
    have hT2 : h''.get? s.heap.objs.size = some { cls := .type "tuple", data := .seq #[u, u2] } := (sb.2 _ (Nat.ne_of_gt hzl)).trans hT
    have new : ObjOk X.prog X.w (upd H s.heap.objs.size (.tup [x, y])) h'' s.heap.objs.size (.tup [x, y]) :=
      ⟨by show 2 ≤ sizeLine; decide, [u, u2], .cons ru (.cons ru2 .nil), ⟨_, hT2, rfl, _, rfl⟩⟩
    have I1 : Inv X pins σ (upd H s.heap.objs.size (.tup [x, y])) { s with heap := h'' } :=
      I.turnedNew (t' := s.toks) (ch := [z, TI, TO, i1, i2]) (fun c o hb q => (sb.2 c (fun q' => hb (by simp [q']))).trans (hk c o (fun q' => hb (by simp [q'])) (fun q' => hb (by simp [q'])) (fun q' => hb (by simp [q'])) (fun q' => hb (by simp [q'])) q)) hf (Nat.le_refl _) new
    refine ⟨.ref s.heap.objs.size, _, I1, rfl, ⟨_, x, y, rfl, I.hok.fresh (Nat.le_refl _), rfl, fun l hl => by rw [I.list_inj hl hqx]; exact hx, fun l hl => by rw [I.list_inj hl hqy]; exact hy⟩, ⟨z'', ?_, ⟨u, u2, ?_⟩, ?_, ?_⟩, fun c hcm => ?_⟩
    · exact (sb.2 _ D.TIz).trans (hk _ _ D.TIz D.TITO D.TIi1 D.TIi2 hTI)
    · exact (sb.2 _ D.TOz).trans TO'
    · exact h1'.at fun o q => (sb.2 _ D.i1z).trans q
    · exact h2'.at fun o q => (sb.2 _ D.i2z).trans q
    · have hlt : c < s.heap.objs.size := by
        have e' : c = z ∨ c = TI ∨ c = TO ∨ c = i1 ∨ c = i2 := by simpa using hcm
        rcases e' with q | q | q | q | q
        · rw [q]; exact hzl
        · rw [q]; exact Heap.lt_size hTI
        · rw [q]; exact Heap.lt_size hTO
        · rw [q]; obtain ⟨_, e1, _⟩ := h1; exact Heap.lt_size e1
        · rw [q]; obtain ⟨_, e2, _⟩ := h2; exact Heap.lt_size e2
      rw [upd_ne (Nat.ne_of_lt hlt)]
      exact (hf c hcm).1
  done := by
    intro X hP hw hK hc i pins s σ H E I hf st hg
    subst hP hw hK
    obtain ⟨hz, hTI, ⟨x0, y0, hTO⟩, h1, h2⟩ := st
    obtain ⟨xs, ys, hqx, hqy, q1, q2⟩ := hg
    obtain ⟨its, rv, p, _⟩ := I.list hqx
    obtain ⟨its2, rv2, p2, _⟩ := I.list hqy
    have l1 := rv.length
    have l2 := rv2.length
    exact pyNext_zipL_end (I.ok.hd hc) D hz hTI hTO h1 h2 p.isList p2.isList (by simp; omega) (by simp; omega) fun h' hk => ⟨rfl, I.turnedL (t' := s.toks) (ch := [z, TI, TO, i1, i2]) (fun c o hb q =>
      hk c o (fun q' => hb (by simp [q'])) (fun q' => hb (by simp [q'])) (fun q' => hb (by simp [q'])) (fun q' => hb (by simp [q'])) q) hf⟩
  self := fun A i s Q E st h => wpAny_pyIter_zipS st.1 h
theorem walk_ItzL {K : PySem.W.Frag} {a b : Addr} {xs ys : List V} {n : Nat} (h1 : xs.length = n) (h2 : ys.length = n) : Walk (ItzL K a b) n (fun H => SqL K H a xs ∧ SqL K H b ys) (YPair (fun i => xs[i]?) (fun i => ys[i]?)) := by
  refine ⟨fun i _ hi q => ?_, fun _ q => ⟨xs, ys, q.1, q.2, by omega, by omega⟩, fun i H v H' _ q y => ?_⟩
  · have h1 : i < xs.length := by omega
    have h2 : i < ys.length := by omega
    exact ⟨xs, ys, xs[i], ys[i], q.1, q.2, by simp [h1], by simp [h2]⟩
  · obtain ⟨T, x, z, h1, h2, h3, h4, h5⟩ := y
    exact ⟨T, x, z, h1, h2, h3, h4 xs q.1, h5 ys q.2⟩

def ItzT (K : PySem.W.Frag) (a b : Addr) : It :=
  ⟨fun i H => ∃ (xs ys : List V) (x y : V), SqT K H a xs ∧ SqT K H b ys ∧ xs[i]? = some x ∧ ys[i]? = some y,
    fun i H v H' => ∃ T x y, v = .ref T ∧ H T = none ∧ H' = upd H T (.tup [x, y]) ∧ (∀ xs, SqT K H a xs → xs[i]? = some x) ∧ ∀ ys, SqT K H b ys → ys[i]? = some y,
    fun i H => ∃ xs ys : List V, SqT K H a xs ∧ SqT K H b ys ∧ xs.length ≤ i ∧ ys.length ≤ i⟩
theorem turn_zipT {P : Program} {w : World} {K : PySem.W.Frag} {elts : List Expr} {kk : Nat} {tpos : Pos} {a b z TI TO i1 i2 : Addr} (D : ZipApart z TI TO i1 i2 a b) :
    Turn P w K (.Tuple elts kk tpos) (ItzT K a b) [z, TI, TO, i1, i2] z (fun i h => IsZipS h z TI TO .none ∧ IsPair h TI (.ref i1) (.ref i2) ∧ (∃ x y, IsPair h TO x y) ∧ h.IsTupleIter i1 a i ∧ h.IsTupleIter i2 b i) where
  mem := by simp
  obj := fun i h st c hc => by
    obtain ⟨hz, hTI, ⟨x, y, hTO⟩, ⟨o1, e1, _, d1⟩, ⟨o2, e2, _, d2⟩⟩ := st
    have e' : c = z ∨ c = TI ∨ c = TO ∨ c = i1 ∨ c = i2 := by simpa using hc
    rcases e' with q | q | q | q | q
    · rw [q]; exact ⟨_, hz, fun v q => nomatch q⟩
    · rw [q]; exact ⟨_, hTI, fun v q => nomatch q⟩
    · rw [q]; exact ⟨_, hTO, fun v q => nomatch q⟩
    · rw [q]; exact ⟨o1, e1, fun v q => by rw [d1] at q; cases q⟩
    · rw [q]; exact ⟨o2, e2, fun v q => by rw [d2] at q; cases q⟩
  keep := fun i h h' st k => by
    obtain ⟨hz, hTI, ⟨x, y, hTO⟩, h1, h2⟩ := st
    exact ⟨k z (by simp) _ hz, k TI (by simp) _ hTI, ⟨x, y, k TO (by simp) _ hTO⟩, h1.at fun o q => k i1 (by simp) o q, h2.at fun o q => k i2 (by simp) o q⟩
  item := by
    intro X hP hw hK hc i pins s σ H E I hf st hg
    subst hP hw hK
    obtain ⟨hz, hTI, ⟨x0, y0, hTO⟩, h1, h2⟩ := st
    obtain ⟨xs, ys, x, y, hqx, hqy, hx, hy⟩ := hg
    obtain ⟨its, rv, p, _⟩ := I.tuple hqx
    obtain ⟨its2, rv2, p2, _⟩ := I.tuple hqy
    obtain ⟨u, hu, ru⟩ := rv.get hx
    obtain ⟨u2, hu2, ru2⟩ := rv2.get hy
    have hzl : z < s.heap.objs.size := Heap.lt_size hz
    refine pyNext_zipS_item D hz hTI hTO h1 h2 p p2 (x := u) (y := u2) (by simpa using hu) (by simpa using hu2) fun h' z' TO' h1' h2' hT hsz hk => ?_
    refine ⟨_, rfl, wpAny_letGo_zipS (s := { s with heap := h' }) z' fun h'' z'' sb => ?_⟩
    have hT2 : h''.get? s.heap.objs.size = some { cls := .type "tuple", data := .seq #[u, u2] } := (sb.2 _ (Nat.ne_of_gt hzl)).trans hT
    have new : ObjOk X.prog X.w (upd H s.heap.objs.size (.tup [x, y])) h'' s.heap.objs.size (.tup [x, y]) :=
      ⟨by show 2 ≤ sizeLine; decide, [u, u2], .cons ru (.cons ru2 .nil), ⟨_, hT2, rfl, _, rfl⟩⟩
    have I1 : Inv X pins σ (upd H s.heap.objs.size (.tup [x, y])) { s with heap := h'' } :=
      I.turnedNew (t' := s.toks) (ch := [z, TI, TO, i1, i2]) (fun c o hb q => (sb.2 c (fun q' => hb (by simp [q']))).trans (hk c o (fun q' => hb (by simp [q'])) (fun q' => hb (by simp [q'])) (fun q' => hb (by simp [q'])) (fun q' => hb (by simp [q'])) q)) hf (Nat.le_refl _) new
    refine ⟨.ref s.heap.objs.size, _, I1, rfl, ⟨_, x, y, rfl, I.hok.fresh (Nat.le_refl _), rfl, fun l hl => by rw [I.tuple_inj hl hqx]; exact hx, fun l hl => by rw [I.tuple_inj hl hqy]; exact hy⟩, ⟨z'', ?_, ⟨u, u2, ?_⟩, ?_, ?_⟩, fun c hcm => ?_⟩
    · exact (sb.2 _ D.TIz).trans (hk _ _ D.TIz D.TITO D.TIi1 D.TIi2 hTI)
    · exact (sb.2 _ D.TOz).trans TO'
    · exact h1'.at fun o q => (sb.2 _ D.i1z).trans q
    · exact h2'.at fun o q => (sb.2 _ D.i2z).trans q
    · have hlt : c < s.heap.objs.size := by
        have e' : c = z ∨ c = TI ∨ c = TO ∨ c = i1 ∨ c = i2 := by simpa using hcm
        rcases e' with q | q | q | q | q
        · rw [q]; exact hzl
        · rw [q]; exact Heap.lt_size hTI
        · rw [q]; exact Heap.lt_size hTO
        · rw [q]; obtain ⟨_, e1, _⟩ := h1; exact Heap.lt_size e1
        · rw [q]; obtain ⟨_, e2, _⟩ := h2; exact Heap.lt_size e2
      rw [upd_ne (Nat.ne_of_lt hlt)]
      exact (hf c hcm).1
  done := by
    intro X hP hw hK hc i pins s σ H E I hf st hg
    subst hP hw hK
    obtain ⟨hz, hTI, ⟨x0, y0, hTO⟩, h1, h2⟩ := st
    obtain ⟨xs, ys, hqx, hqy, q1, q2⟩ := hg
    obtain ⟨its, rv, p, _⟩ := I.tuple hqx
    obtain ⟨its2, rv2, p2, _⟩ := I.tuple hqy
    have l1 := rv.length
    have l2 := rv2.length
    exact pyNext_zipS_end (I.ok.hd hc) D hz hTI hTO h1 h2 p p2 (by simp; omega) (by simp; omega) fun h' hk => ⟨rfl, I.turnedL (t' := s.toks) (ch := [z, TI, TO, i1, i2]) (fun c o hb q =>
      hk c o (fun q' => hb (by simp [q'])) (fun q' => hb (by simp [q'])) (fun q' => hb (by simp [q'])) (fun q' => hb (by simp [q'])) q) hf⟩
  self := fun A i s Q E st h => wpAny_pyIter_zipS st.1 h
section
variable {M : Model} {A : Around} {E : Value → Shared → Prop} {s : Shared}
open PySem.Calls in
theorem callWith_type_kw {pos : PySem.Pos} {T : String} {first : List Value} {args : List (Bool × Sem Value)} {keywords : List (Option Str × Sem Value)} {Q : Value → Shared → Prop}
    (hplain : args.any (·.1) = false) (hkw : keywords.any (·.1.isNone) = false)
    (h : wpAny M A (evalArgs (.type T) true args keywords) (fun a s₁ => wpAny M A (call (.type T) (first ++ a.pos) a.kw) Q E s₁) E s) :
    wpAny M A (callWith pos (.type T) first args keywords) Q E s := by
  unfold callWith
  refine wpAny_bind (wpAny_holding (wpAny_mono h (fun a s₁ h₁ => wpAny_bind (wpAny_standAt ?_)) fun _ _ x => x))
  simp only [hplain, hkw, Bool.or_false]
  refine wpAny_bind (wpAny_pure ?_)
  exact wpAny_bind (wpAny_mono h₁ (fun r s₂ hr => wpAny_bind (wpAny_holding (wpAny_point (wpAny_pure hr)))) fun _ _ x => x)
end
def iZipS (K : PySem.W.Frag) (ta : TA) : TI := fun σ H R => ta σ H fun vs H1 => ∃ a b xs ys, vs = [.ref a, .ref b] ∧ ((SqL K H1 a xs ∧ SqL K H1 b ys ∧ R (ItzL K a b) H1) ∨ (SqT K H1 a xs ∧ SqT K H1 b ys ∧ R (ItzT K a b) H1))
theorem pi_zipS {X : Cx} {e e2 : Expr} {ta : TA} {p pos tpos kpos cp : PySem.Pos} {jj : Nat} {elts : List Expr} {kk : Nat} (hg : Gl X "zip") (hm : X.mg "zip" = none) (ha : PA X [e, e2] ta)
    (hs : starEach [e, e2] X.env = (false, eval e X.env) :: starEach [e2] X.env := by rfl) (hpl : (backTo pos (starEach [e, e2] X.env)).any (·.1) = false := by rfl) :
    PI X (.Tuple elts kk tpos) (.Call (.Name "zip" p) [e, e2] [⟨some "strict", .Constant (.bool true) jj cp, kpos⟩] pos) (iZipS X.K ta) := by
  refine ⟨fun pins s σ H R I h => ?_⟩
  have pk : PK X [⟨some "strict", .Constant (.bool true) jj cp, kpos⟩] (tCons (tC (.bl true)) tNil) := pk_cons pe_bl pk_nil
  refine wpAny_Call_Name_kw (ld_blt I hg hm PyProof.Rows.boot_zip (callWith_type_kw hpl (by rfl) (PyProof.Rows.evalArgs_kw2 (by rfl) (thn (ha.run pos pins s σ H _ I h) fun us s1 ⟨vs, H1, I1, r1, q1⟩ => thn (pk.run pos pins s1 σ H1 (fun ws H2 => ws = [.bl true] ∧ H2 = H1) I1 ⟨rfl, rfl⟩) fun ks s2 q2 => ?_) hs)))
  obtain ⟨ws, H2, I2', rw2, rfl, rfl⟩ := q2
  cases rw2 with
  | cons rb rn =>
  cases rn
  cases rb
  obtain ⟨a, b, xs, ys, ex, q1⟩ := q1
  subst ex
  cases r1 with
  | cons r rr =>
    cases rr with
    | cons r' rr =>
      cases rr
      cases r
      cases r'
      have fresh5 : ∀ c, c ∈ [s2.heap.objs.size + 4, s2.heap.objs.size + 2, s2.heap.objs.size + 3, s2.heap.objs.size, s2.heap.objs.size + 1] → FpOk X pins H2 c := fun c hcm => by
        have e' : c = s2.heap.objs.size + 4 ∨ c = s2.heap.objs.size + 2 ∨ c = s2.heap.objs.size + 3 ∨ c = s2.heap.objs.size ∨ c = s2.heap.objs.size + 1 := by simpa using hcm
        have hle : s2.heap.objs.size ≤ c := by
          rcases e' with z | z | z | z | z
          · rw [z]; exact Nat.le_add_right _ _
          · rw [z]; exact Nat.le_add_right _ _
          · rw [z]; exact Nat.le_add_right _ _
          · rw [z]; exact Nat.le_refl _
          · rw [z]; exact Nat.le_add_right _ _
        exact I2'.fpOk hle (I2'.hok.fresh hle)
      rcases q1 with ⟨hqx, hqy, q⟩ | ⟨hqx, hqy, q⟩
      · obtain ⟨its, rv, p1, _⟩ := I2'.list hqx
        obtain ⟨its2, rv2, p2, _⟩ := I2'.list hqy
        refine call_zipL p1.isList p2.isList fun h' hz hTI hTO h1 h2 hsz hk => wpAny_pyIter_zipS hz ?_
        have I2 : Inv X pins σ H2 { s2 with heap := h' } := I2'.kept (t' := s2.toks) hk
        exact ⟨s2.heap.objs.size + 4, [s2.heap.objs.size + 4, s2.heap.objs.size + 2, s2.heap.objs.size + 3, s2.heap.objs.size, s2.heap.objs.size + 1], _, _, H2, rfl, I2, turn_zipL (PySem.W.ktu_apart s2.heap.objs.size a b p1.lt p2.lt), ⟨hz, hTI, ⟨_, _, hTO⟩, h1, h2⟩, fresh5, q⟩
      · obtain ⟨its, rv, p1, _⟩ := I2'.tuple hqx
        obtain ⟨its2, rv2, p2, _⟩ := I2'.tuple hqy
        obtain ⟨o1, ho1, _⟩ := id p1
        obtain ⟨o2, ho2, _⟩ := id p2
        refine call_zipS (show s2.heap.IsTuple a its.toArray from p1) (show s2.heap.IsTuple b its2.toArray from p2) fun h' hz hTI hTO h1 h2 hsz hk => wpAny_pyIter_zipS hz ?_
        have I2 : Inv X pins σ H2 { s2 with heap := h' } := I2'.kept (t' := s2.toks) hk
        exact ⟨s2.heap.objs.size + 4, [s2.heap.objs.size + 4, s2.heap.objs.size + 2, s2.heap.objs.size + 3, s2.heap.objs.size, s2.heap.objs.size + 1], _, _, H2, rfl, I2, turn_zipT (PySem.W.ktu_apart s2.heap.objs.size a b (Heap.lt_size ho1) (Heap.lt_size ho2)), ⟨hz, hTI, ⟨_, _, hTO⟩, h1, h2⟩, fresh5, q⟩
theorem wk_zipSL {K : PySem.W.Frag} {Z1 : Hp} {a b : Addr} {xs ys : List V} {ds es : List PyData} (hl : ds.length = es.length) (e1 : Z1 a = some (.lst xs)) (d1 : DdA K Z1 xs ds) (e2 : Z1 b = some (.lst ys)) (d2 : DdA K Z1 ys es) : Wk K Z1 (ItzL K a b) (zipD ds es) := by
  refine ⟨fun H => SqL K H a xs ∧ SqL K H b ys, YPair (fun i => xs[i]?) (fun i => ys[i]?), ?_, fun _ g σ H Z I s => ⟨SqL.of (I.fz _ _ (s _ _ e1)), SqL.of (I.fz _ _ (s _ _ e2))⟩, fun _ i H x H' g σ Z d I s e y => ?_⟩
  · exact walk_ItzL (by rw [zipD_len, d1.length]; omega) (by rw [zipD_len, d2.length]; omega)
  · obtain ⟨T, u, v, rfl, hT, rfl, h1, h2⟩ := y
    obtain ⟨p, k1, k2⟩ := (d1.mono s).getV h1
    obtain ⟨q, k3, k4⟩ := (d2.mono s).getV h2
    obtain ⟨p', q', k5, k6, rfl⟩ := zipD_get e
    rw [k1] at k5; cases k5
    rw [k3] at k6; cases k6
    obtain ⟨I2, s2, _⟩ := I.newF (o := .tup [u, v]) hT
    exact ⟨_, I2, s2, .tup (SqT.of upd_same) (.cons (k2.mono s2) (.cons (k4.mono s2) .nil))⟩
section
variable {X : Cx} {C : Ct} {g : Gm} {a b : Expr} {pos p tpos kpos cp : PySem.Pos} {jj : Nat} {QI : List PyData → Gm → Prop} {elts : List Expr} {kk : Nat}
/-- zip(xs, ys, strict=True), two lists -/
theorem ei_zipSL (n : Bn X "zip") (h : EE X C a g fun x g1 => EE X C b g1 fun y g2 => ∃ ds es g3, Frz [x, y] g2 [.list ds, .list es] g3 ∧ ds.length = es.length ∧ QI (zipD ds es) g3) (he : starEach [a, b] X.env = (false, eval a X.env) :: starEach [b] X.env := by rfl) (he2 : starEach [b] X.env = (false, eval b X.env) :: starEach [] X.env := by rfl) (hpl : (backTo pos (starEach [a, b] X.env)).any (·.1) = false := by rfl) : EI X C (.Tuple elts kk tpos) (.Call (.Name "zip" p) [a, b] [⟨some "strict", .Constant (.bool true) jj cp, kpos⟩] pos) g QI :=
  EI.of (pi_zipS n.gl n.mg pa_t he hpl) fun σ H Z I R p =>
    (show EA X C [a, b] g (fun xs g2 => ∃ x y ds es g3, xs = [x, y] ∧ Frz [x, y] g2 [.list ds, .list es] g3 ∧ ds.length = es.length ∧ QI (zipD ds es) g3) from ea_cons (h.mono fun x g1 h1 => ea_cons (h1.mono fun y g2 ⟨ds, es, g3, q⟩ => ea_nil ⟨x, y, ds, es, g3, rfl, q⟩) he2) he) σ H Z I _ fun vs H1 Z1 xs g1 I1 s1 a1 q1 => by
      obtain ⟨x, y, ds, es, g3, rfl, f, hl, q⟩ := q1
      obtain ⟨Z2, I2, s2, r2⟩ := f.run I1 a1
      cases r2 with
      | cons r3 r4 =>
        cases r4 with
        | cons r5 r6 =>
          cases r6
          cases r3 with
          | @lst ad xs _ e1 d1 =>
            cases r5 with
            | @lst bd ys _ e2 d2 =>
              exact ⟨ad, bd, xs, ys, rfl, .inl ⟨SqL.of (I2.fz _ _ e1), SqL.of (I2.fz _ _ e2), p _ H1 Z2 _ g3 I2 (s1.trans s2) (wk_zipSL hl e1 d1 e2 d2) q⟩⟩
end
end SZ
/-! The best first turns. -/
namespace AL
open PySem PySem.Spec L2
def turnsL (L : List Bl) : List PyData := .none :: (prsL L.length).map tcD
theorem turnsL_len (L : List Bl) : (turnsL L).length = (sucS L).length := by simp [turnsL, sucS]
def otTo (b t : Nat) (L : List Bl) (w : Bool) : Nat → List PyData
  | 0 => []
  | i + 1 => otTo b t L w i ++ (match (turnsL L)[i]?, (sucS L)[i]? with
    | some d, some M => if gv b t M (!w) = gv b (t + 1) L w then [d] else []
    | _, _ => [])
theorem otTo_snoc {b t i : Nat} {L M : List Bl} {w : Bool} {d : PyData} (h1 : (turnsL L)[i]? = some d) (h2 : (sucS L)[i]? = some M) : otTo b t L w (i + 1) = otTo b t L w i ++ (if gv b t M (!w) = gv b (t + 1) L w then [d] else []) := by
  show _ ++ (match (turnsL L)[i]?, (sucS L)[i]? with
    | some d, some M => if gv b t M (!w) = gv b (t + 1) L w then [d] else []
    | _, _ => []) = _
  rw [h1, h2]
theorem otTo_len (b t : Nat) (L : List Bl) (w : Bool) : ∀ i, (otTo b t L w i).length ≤ i
  | 0 => Nat.le_refl _
  | i + 1 => by
    have ih := otTo_len b t L w i
    show (otTo b t L w i ++ _).length ≤ _
    rw [List.length_append]
    split
    · split <;> simp <;> omega
    · simp; omega
theorem otTo_mem {b t : Nat} {L : List Bl} {w : Bool} {d : PyData} : ∀ {i : Nat}, d ∈ otTo b t L w i → d ∈ turnsL L
  | i + 1, h => by
    have h' : d ∈ otTo b t L w i ++ (match (turnsL L)[i]?, (sucS L)[i]? with
      | some d, some M => if gv b t M (!w) = gv b (t + 1) L w then [d] else []
      | _, _ => []) := h
    rcases List.mem_append.mp h' with h | h
    · exact otTo_mem h
    · split at h
      · rename_i d' M e1 e2
        split at h
        · rw [List.mem_singleton.mp h]; exact List.mem_of_getElem? e1
        · cases h
      · cases h
def otD (b : Nat) : Nat → List Bl → Bool → List PyData
  | 0, _, _ => []
  | t + 1, L, w => otTo b t L w (sucS L).length
theorem sucS_le {L : List Bl} (h : L.length ≤ 4) : (sucS L).length ≤ 7 := by
  rw [sucS_len]
  have : ∀ m, m ≤ 4 → (prsL m).length ≤ 6 := by decide
  have := this _ h
  omega
theorem otD_len {b t : Nat} {L : List Bl} {w : Bool} (h : L.length ≤ 4) : (otD b t L w).length ≤ 7 := by
  cases t with
  | zero => exact Nat.zero_le _
  | succ t => exact Nat.le_trans (otTo_len ..) (sucS_le h)
theorem otD_mem {b t : Nat} {L : List Bl} {w : Bool} {d : PyData} (h : d ∈ otD b t L w) : d ∈ turnsL L := by
  cases t with
  | zero => cases h
  | succ t => exact otTo_mem h
section
variable {X : Cx} {C : Ct} {g : Gm} {c : Expr} {pos : PySem.Pos} {QL : List PyData → Gm → Prop}
end
end AL
/-! The game played: nothing beats its value. -/
namespace AL
open PySem PySem.Spec L2
theorem btr_irr (w : Bool) (x : Rat) : btr w x x = false := by
  unfold btr
  cases w <;> simp [Rat.lt_irrefl]
theorem btr_keep {w : Bool} {v e x : Rat} (h1 : btr w v x = false) (h2 : btr w e x = true) : btr w v e = false := by
  unfold btr at *
  cases w
  · have a : ¬ v < x := by simpa using h1
    have b : e < x := by simpa using h2
    have : ¬ v < e := fun z => a (by grind)
    simpa using this
  · have a : ¬ x < v := by simpa using h1
    have b : x < e := by simpa using h2
    have : ¬ e < v := fun z => a (by grind)
    simpa using this
theorem gvTo_best {b t : Nat} {L : List Bl} {w : Bool} : ∀ {i : Nat} {x : Rat}, i ≤ (sucS L).length → gvTo b t L w i = some x → ∀ j M, j < i → (sucS L)[j]? = some M → btr w (gv b t M (!w)) x = false
  | 0, x, _, h, j, M, hj, _ => by omega
  | i + 1, x, hi, h, j, M, hj, hM => by
    obtain ⟨N, hN⟩ : ∃ N, (sucS L)[i]? = some N := ⟨_, List.getElem?_eq_getElem (by omega)⟩
    rw [gvTo_snoc hN] at h
    cases e : gvTo b t L w i with
    | none =>
      rw [e] at h
      have hx : gv b t N (!w) = x := Option.some.inj h
      have hi0 : i = 0 := by
        cases i with
        | zero => rfl
        | succ i =>
          obtain ⟨y, f1, _⟩ := gvTo_some (b := b) (t := t) (L := L) (w := w) (i := i + 1) (by omega) (by omega)
          rw [f1] at e; cases e
      have : j = i := by omega
      subst this
      rw [hN] at hM; cases hM
      rw [hx]; exact btr_irr w x
    | some y =>
      rw [e] at h
      have h' : (if btr w (gv b t N (!w)) y then some (gv b t N (!w)) else some y) = some x := h
      by_cases q : btr w (gv b t N (!w)) y = true
      · rw [if_pos q] at h'
        have hx := Option.some.inj h'
        by_cases hji : j = i
        · subst hji
          rw [hN] at hM; cases hM
          rw [hx]; exact btr_irr w x
        · rw [← hx]
          exact btr_keep (gvTo_best (by omega) e j M (by omega) hM) q
      · rw [if_neg q] at h'
        have hx := Option.some.inj h'
        subst hx
        by_cases hji : j = i
        · subst hji
          rw [hN] at hM; cases hM
          simpa using q
        · exact gvTo_best (by omega) e j M (by omega) hM
theorem gv_best {b t : Nat} {L M : List Bl} {w : Bool} (h : M ∈ sucS L) : btr w (gv b t M (!w)) (gv b (t + 1) L w) = false := by
  obtain ⟨j, hj, hM⟩ := List.mem_iff_getElem.mp h
  exact gvTo_best (Nat.le_refl _) gv_succ j M hj (by rw [List.getElem?_eq_getElem hj, hM])
theorem otTo_has {b t : Nat} {L M : List Bl} {w : Bool} {d : PyData} : ∀ {i j : Nat}, j < i → (turnsL L)[j]? = some d → (sucS L)[j]? = some M → gv b t M (!w) = gv b (t + 1) L w → d ∈ otTo b t L w i
  | 0, j, h, _, _, _ => by omega
  | i + 1, j, h, h1, h2, h3 => by
    show d ∈ otTo b t L w i ++ (match (turnsL L)[i]?, (sucS L)[i]? with
      | some d, some M => if gv b t M (!w) = gv b (t + 1) L w then [d] else []
      | _, _ => [])
    rw [List.mem_append]
    by_cases e : j = i
    · subst e
      rw [h1, h2]
      right
      show d ∈ (if _ then [d] else [])
      rw [if_pos h3]; simp
    · exact .inl (otTo_has (by omega) h1 h2 h3)
theorem otTo_why {b t : Nat} {L : List Bl} {w : Bool} {d : PyData} : ∀ {i : Nat}, d ∈ otTo b t L w i → ∃ (j : Nat) (M : List Bl), (turnsL L)[j]? = some d ∧ (sucS L)[j]? = some M ∧ gv b t M (!w) = gv b (t + 1) L w
  | 0, h => by cases h
  | i + 1, h => by
    have h' : d ∈ otTo b t L w i ++ (match (turnsL L)[i]?, (sucS L)[i]? with
      | some d, some M => if gv b t M (!w) = gv b (t + 1) L w then [d] else []
      | _, _ => []) := h
    rcases List.mem_append.mp h' with h | h
    · exact otTo_why h
    · split at h
      · rename_i d' M e1 e2
        split at h
        · rename_i q
          rw [List.mem_singleton.mp h]
          exact ⟨i, M, e1, e2, q⟩
        · cases h
      · cases h
theorem otD_ne {b t : Nat} {L : List Bl} {w : Bool} : otD b (t + 1) L w ≠ [] := by
  obtain ⟨x, h1, M, hM, hx⟩ := gvTo_some (b := b) (t := t) (L := L) (w := w) (i := (sucS L).length) (by rw [sucS_len]; omega) (Nat.le_refl _)
  rw [gv_succ] at h1
  have e := Option.some.inj h1
  obtain ⟨j, hj, hM⟩ := List.mem_iff_getElem.mp hM
  have hj2 : j < (turnsL L).length := by rw [turnsL_len]; exact hj
  have := otTo_has (b := b) (t := t) (L := L) (w := w) (i := (sucS L).length) hj (List.getElem?_eq_getElem hj2) (show (sucS L)[j]? = some M by rw [List.getElem?_eq_getElem hj, hM]) (by rw [e, hx])
  intro z
  have z' : otTo b t L w (sucS L).length = [] := z
  rw [z'] at this; cases this
/-- the list a move is drawn from -/
def mvL (kp : Bool) (b t : Nat) (L : List Bl) (w : Bool) : List PyData := if kp then otD b (t + 1) L w else turnsL L
theorem mvL_len {kp : Bool} {b t : Nat} {L : List Bl} {w : Bool} (h : L.length ≤ 4) : 1 ≤ (mvL kp b t L w).length ∧ (mvL kp b t L w).length ≤ 7 := by
  unfold mvL
  cases kp
  · have := sucS_le h
    have e := turnsL_len L
    have l := sucS_len L
    simp only [Bool.false_eq_true, if_false]
    omega
  · simp only [if_true]
    exact ⟨List.length_pos_iff.mpr otD_ne, otD_len h⟩
def mvD (kp : Bool) (p : Pl) (b t : Nat) (L : List Bl) (w : Bool) : PyData := (mvL kp b t L w).getD (pick p (mvL kp b t L w).length).toNat .none
theorem mvD_at {kp : Bool} {p : Pl} {b t : Nat} {L : List Bl} {w : Bool} (h : L.length ≤ 4) : atI (mvL kp b t L w) (pick p (mvL kp b t L w).length) = some (mvD kp p b t L w) := by
  obtain ⟨h1, h7⟩ := mvL_len (kp := kp) (b := b) (t := t) (w := w) h
  have a0 := pick_nn (p := p) (w := (mvL kp b t L w).length) (by omega)
  have a1 := pick_lt (p := p) (w := (mvL kp b t L w).length) (by omega)
  refine atI_int a0 ?_
  have hl : (pick p (mvL kp b t L w).length).toNat < (mvL kp b t L w).length := by omega
  unfold mvD
  rw [List.getD_eq_getElem?_getD, List.getElem?_eq_getElem hl]; rfl
theorem mvD_why {kp : Bool} {p : Pl} {b t : Nat} {L : List Bl} {w : Bool} (h : L.length ≤ 4) : ∃ (j : Nat) (M : List Bl), (turnsL L)[j]? = some (mvD kp p b t L w) ∧ (sucS L)[j]? = some M ∧ (kp = true → gv b t M (!w) = gv b (t + 1) L w) := by
  have hm : mvD kp p b t L w ∈ mvL kp b t L w := by
    have := mvD_at (kp := kp) (p := p) (b := b) (t := t) (w := w) h
    unfold atI at this
    rw [Option.bind_eq_some_iff] at this
    obtain ⟨j, _, e⟩ := this
    exact List.mem_of_getElem? e
  cases kp
  · have hm' : mvD false p b t L w ∈ turnsL L := hm
    obtain ⟨j, hj, e⟩ := List.mem_iff_getElem.mp hm'
    have hj2 : j < (sucS L).length := by rw [← turnsL_len]; exact hj
    exact ⟨j, _, by rw [List.getElem?_eq_getElem hj, e], List.getElem?_eq_getElem hj2, fun z => by cases z⟩
  · have hm' : mvD true p b t L w ∈ otTo b t L w (sucS L).length := hm
    obtain ⟨j, M, e1, e2, e3⟩ := otTo_why hm'
    exact ⟨j, M, e1, e2, fun _ => e3⟩
/-- nobody who keeps to the best turns loses -/
theorem not_worse {b t : Nat} {L M : List Bl} {w : Bool} {ks : List Bool} (hM : M ∈ sucS L) (hk : w ∈ ks → gv b t M (!w) = gv b (t + 1) L w) : ∀ k ∈ ks, btr (!k) (gv b t M (!w)) (gv b (t + 1) L w) = false := fun k hkk => by
  by_cases e : k = w
  · subst e
    rw [hk hkk]; exact btr_irr _ _
  · have : (!k) = w := by cases k <;> cases w <;> simp_all
    rw [this]
    exact gv_best hM
theorem turn_plain {L : List Bl} {d : PyData} (hd : d ∈ turnsL L) : Plain 1 d := by
  unfold turnsL at hd
  rcases List.mem_cons.mp hd with rfl | hd
  · exact ⟨rfl, rfl, by decide⟩
  · obtain ⟨p, hp, rfl⟩ := List.mem_map.mp hd
    exact plain_two (plain_int _) (plain_int _)
theorem hand_plain (w : Bool) : Plain 0 (handD w) := by cases w <;> exact ⟨by decide +kernel, by decide +kernel, by decide⟩
theorem handD_inj {a b : Bool} (h : handD a = handD b) : a = b := by
  cases a <;> cases b <;> first | rfl | (exact absurd (PyData.str.inj h) (by decide +kernel))
end AL
namespace T84
open PySem PySem.Spec PyProof.Rows L2
/-! ### the text by its places (printed by wip/gen.py) -/
abbrev R : PySem.W.OpenRow := PySem.W.OpenLaw.row PySem.Challenge.rw_warmthbytouch_k84_whole_game
def top (i : Nat) : Stmt := PySem.Challenge.pw_warmthbytouch_k84_whole_game.main.body.getD i (.Pass ⟨0, 0, 0, 0⟩)
abbrev s_is_integer : Stmt := top 8
abbrev s_in_range : Stmt := top 9
abbrev s_gcd : Stmt := top 10
abbrev s_is_fraction : Stmt := top 11
abbrev s_reduced : Stmt := top 12
abbrev s_fraction_sum : Stmt := top 13
abbrev s_fraction_product : Stmt := top 14
abbrev s_is_lower : Stmt := top 15
abbrev s_is_valid_size : Stmt := top 19
abbrev s_is_valid_block : Stmt := top 20
abbrev s_check_each : Stmt := top 21
abbrev s_check_state : Stmt := top 22
abbrev s_check_block : Stmt := top 23
abbrev s_mixed_temperature : Stmt := top 24
abbrev s_state_after : Stmt := top 25
abbrev s_allowed_pairs : Stmt := top 27
abbrev s_check_max_touches : Stmt := top 31
abbrev s_check_small : Stmt := top 32
abbrev s_check_game : Stmt := top 36
abbrev s_opponent : Stmt := top 37
abbrev s_is_better : Stmt := top 38
abbrev s_successors : Stmt := top 39
abbrev s_minimax : Stmt := top 40
abbrev s_game_value : Stmt := top 41
abbrev s_optimal_first_turns : Stmt := top 42
abbrev s_w_pool : Stmt := top 44
abbrev s_w_take : Stmt := top 45
abbrev s_w_low : Stmt := top 46
abbrev s_w_less : Stmt := top 47
abbrev s_w_lot : Stmt := top 48
abbrev s_w_touch : Stmt := top 49
abbrev s_w_pairs : Stmt := top 50
abbrev s_w_turned : Stmt := top 51
abbrev s_w_turn : Stmt := top 52
abbrev s_w_is_worse : Stmt := top 53
abbrev s_w_played : Stmt := top 54
abbrev s_law : Stmt := top 55
def d_is_integer : He.DefD := ⟨("is_integer", none), "is_integer", "is_integer", defArgs s_is_integer, defBody s_is_integer, defScope s_is_integer, [], []⟩
def d_in_range : He.DefD := ⟨("in_range", none), "in_range", "in_range", defArgs s_in_range, defBody s_in_range, defScope s_in_range, [], []⟩
def d_gcd : He.DefD := ⟨("gcd", none), "gcd", "gcd", defArgs s_gcd, defBody s_gcd, defScope s_gcd, [], []⟩
def d_is_fraction : He.DefD := ⟨("is_fraction", none), "is_fraction", "is_fraction", defArgs s_is_fraction, defBody s_is_fraction, defScope s_is_fraction, [], []⟩
def d_reduced : He.DefD := ⟨("reduced", none), "reduced", "reduced", defArgs s_reduced, defBody s_reduced, defScope s_reduced, [], []⟩
def d_fraction_sum : He.DefD := ⟨("fraction_sum", none), "fraction_sum", "fraction_sum", defArgs s_fraction_sum, defBody s_fraction_sum, defScope s_fraction_sum, [], []⟩
def d_fraction_product : He.DefD := ⟨("fraction_product", none), "fraction_product", "fraction_product", defArgs s_fraction_product, defBody s_fraction_product, defScope s_fraction_product, [], []⟩
def d_is_lower : He.DefD := ⟨("is_lower", none), "is_lower", "is_lower", defArgs s_is_lower, defBody s_is_lower, defScope s_is_lower, [], []⟩
def d_is_valid_size : He.DefD := ⟨("is_valid_size", none), "is_valid_size", "is_valid_size", defArgs s_is_valid_size, defBody s_is_valid_size, defScope s_is_valid_size, [], []⟩
def d_is_valid_block : He.DefD := ⟨("is_valid_block", none), "is_valid_block", "is_valid_block", defArgs s_is_valid_block, defBody s_is_valid_block, defScope s_is_valid_block, [], []⟩
def d_check_each : He.DefD := ⟨("check_each", none), "check_each", "check_each", defArgs s_check_each, defBody s_check_each, defScope s_check_each, [], []⟩
def d_check_state : He.DefD := ⟨("check_state", none), "check_state", "check_state", defArgs s_check_state, defBody s_check_state, defScope s_check_state, [], []⟩
def d_check_block : He.DefD := ⟨("check_block", none), "check_block", "check_block", defArgs s_check_block, defBody s_check_block, defScope s_check_block, [], []⟩
def d_mixed_temperature : He.DefD := ⟨("mixed_temperature", none), "mixed_temperature", "mixed_temperature", defArgs s_mixed_temperature, defBody s_mixed_temperature, defScope s_mixed_temperature, [], []⟩
def d_state_after : He.DefD := ⟨("state_after", none), "state_after", "state_after", defArgs s_state_after, defBody s_state_after, defScope s_state_after, [], []⟩
def d_allowed_pairs : He.DefD := ⟨("allowed_pairs", none), "allowed_pairs", "allowed_pairs", defArgs s_allowed_pairs, defBody s_allowed_pairs, defScope s_allowed_pairs, [], []⟩
def d_check_max_touches : He.DefD := ⟨("check_max_touches", none), "check_max_touches", "check_max_touches", defArgs s_check_max_touches, defBody s_check_max_touches, defScope s_check_max_touches, [], []⟩
def d_check_small : He.DefD := ⟨("check_small", none), "check_small", "check_small", defArgs s_check_small, defBody s_check_small, defScope s_check_small, [], []⟩
def d_check_game : He.DefD := ⟨("check_game", none), "check_game", "check_game", defArgs s_check_game, defBody s_check_game, defScope s_check_game, [], []⟩
def d_opponent : He.DefD := ⟨("opponent", none), "opponent", "opponent", defArgs s_opponent, defBody s_opponent, defScope s_opponent, [], []⟩
def d_is_better : He.DefD := ⟨("is_better", none), "is_better", "is_better", defArgs s_is_better, defBody s_is_better, defScope s_is_better, [], []⟩
def d_successors : He.DefD := ⟨("successors", none), "successors", "successors", defArgs s_successors, defBody s_successors, defScope s_successors, [], []⟩
def d_minimax : He.DefD := ⟨("minimax", none), "minimax", "minimax", defArgs s_minimax, defBody s_minimax, defScope s_minimax, [], []⟩
def d_game_value : He.DefD := ⟨("game_value", none), "game_value", "game_value", defArgs s_game_value, defBody s_game_value, defScope s_game_value, [], [("first", .str "warm")]⟩
def d_optimal_first_turns : He.DefD := ⟨("optimal_first_turns", none), "optimal_first_turns", "optimal_first_turns", defArgs s_optimal_first_turns, defBody s_optimal_first_turns, defScope s_optimal_first_turns, [], [("first", .str "warm")]⟩
def d_w_pool : He.DefD := ⟨("_law_pool", none), "_law_pool", "_law_pool", defArgs s_w_pool, defBody s_w_pool, defScope s_w_pool, [], []⟩
def d_w_take : He.DefD := ⟨("_law_take", none), "_law_take", "_law_take", defArgs s_w_take, defBody s_w_take, defScope s_w_take, [], []⟩
def d_w_low : He.DefD := ⟨("_law_low", none), "_law_low", "_law_low", defArgs s_w_low, defBody s_w_low, defScope s_w_low, [], []⟩
def d_w_less : He.DefD := ⟨("_law_less", none), "_law_less", "_law_less", defArgs s_w_less, defBody s_w_less, defScope s_w_less, [], []⟩
def d_w_lot : He.DefD := ⟨("_law_lot", none), "_law_lot", "_law_lot", defArgs s_w_lot, defBody s_w_lot, defScope s_w_lot, [], []⟩
def d_w_touch : He.DefD := ⟨("_law_touch", none), "_law_touch", "_law_touch", defArgs s_w_touch, defBody s_w_touch, defScope s_w_touch, [], []⟩
def d_w_pairs : He.DefD := ⟨("_law_pairs", none), "_law_pairs", "_law_pairs", defArgs s_w_pairs, defBody s_w_pairs, defScope s_w_pairs, [], []⟩
def d_w_turned : He.DefD := ⟨("_law_turned", none), "_law_turned", "_law_turned", defArgs s_w_turned, defBody s_w_turned, defScope s_w_turned, [], []⟩
def d_w_turn : He.DefD := ⟨("_law_turn", none), "_law_turn", "_law_turn", defArgs s_w_turn, defBody s_w_turn, defScope s_w_turn, [], []⟩
def d_w_is_worse : He.DefD := ⟨("_law_is_worse", none), "_law_is_worse", "_law_is_worse", defArgs s_w_is_worse, defBody s_w_is_worse, defScope s_w_is_worse, [], []⟩
def d_w_played : He.DefD := ⟨("_law_played", none), "_law_played", "_law_played", defArgs s_w_played, defBody s_w_played, defScope s_w_played, [], []⟩
def d_law : He.DefD := ⟨("law", none), "law", "law", defArgs s_law, defBody s_law, defScope s_law, [], []⟩
def fn : List He.DefD := [d_is_integer, d_in_range, d_gcd, d_is_fraction, d_reduced, d_fraction_sum, d_fraction_product, d_is_lower, d_is_valid_size, d_is_valid_block, d_check_each, d_check_state, d_check_block, d_mixed_temperature, d_state_after, d_allowed_pairs, d_check_max_touches, d_check_small, d_check_game, d_opponent, d_is_better, d_successors, d_minimax, d_game_value, d_optimal_first_turns, d_w_pool, d_w_take, d_w_low, d_w_less, d_w_lot, d_w_touch, d_w_pairs, d_w_turned, d_w_turn, d_w_is_worse, d_w_played, d_law]
def fa : List He.Fa := [.glo "is_integer", .glo "in_range", .glo "gcd", .glo "is_fraction", .glo "reduced", .glo "fraction_sum", .glo "fraction_product", .glo "is_lower", .glo "is_valid_size", .glo "is_valid_block", .glo "check_each", .glo "check_state", .glo "check_block", .glo "mixed_temperature", .glo "state_after", .glo "allowed_pairs", .glo "check_max_touches", .glo "check_small", .glo "check_game", .glo "opponent", .glo "is_better", .glo "successors", .glo "minimax", .glo "game_value", .glo "optimal_first_turns", .glo "_law_pool", .glo "_law_take", .glo "_law_low", .glo "_law_less", .glo "_law_lot", .glo "_law_touch", .glo "_law_pairs", .glo "_law_turned", .glo "_law_turn", .glo "_law_is_worse", .glo "_law_played", .glo "law", .int "MAX_BLOCKS" 12, .int "MAX_SIZE" 99, .int "MAX_SEARCH" 4, .int "MAX_SMALL" 4, .str "WARM" "warm", .str "COLD" "cold", .free "abs", .free "bool", .free "enumerate", .free "int", .free "isinstance", .free "len", .free "list", .free "min", .free "range", .free "str", .free "tuple", .free "zip"]
def loose0 : List Str := ["ContactError", "InvalidState", "InvalidCount", "InvalidOption", "InvalidBlock", "LimitExceeded", "is_integer", "in_range", "gcd", "is_fraction", "reduced", "fraction_sum", "fraction_product", "is_lower", "MAX_BLOCKS", "MAX_SIZE", "is_valid_size", "is_valid_block", "check_each", "check_state", "check_block", "mixed_temperature", "state_after", "allowed_pairs", "MAX_SEARCH", "MAX_SMALL", "check_max_touches", "check_small", "WARM", "COLD"]
def loose1 : List Str := ["check_game", "opponent", "is_better", "successors", "minimax", "game_value", "optimal_first_turns", "_law_pool", "_law_take", "_law_low", "_law_less", "_law_lot", "_law_touch", "_law_pairs", "_law_turned", "_law_turn", "_law_is_worse", "_law_played"]
def loose : List Str := loose0 ++ loose1
def tf : List He.Defn := []
def ex : PySem.W.Frag → Bool := fun _ => true
abbrev hk : PySem.W.Hook := He.hookX 4 fa fn [] tf ex
def ob (s : PySem.W.SharedT) : He.AlX := He.obsX 4 fa fn [] tf ex (HandSHeadRun.getT s)
theorem ob_eq (s : PySem.W.SharedT) : ob s = hk.obs s.abs := He.obsX_eq (HandSHeadRun.getT_eq s)
theorem run (w : World) : HandSHeadRun.RunEq R (PySem.W.view R.prog [55]) hk ob 20000 loose w := by
  intro os
  kernel_rfl
end T84
set_option pp.maxSteps 3500
namespace T84
open PySem PySem.Spec L2 AL
def SL : Con := fun as r => ∃ ns, as = [.d (scr ns)] ∧ ns.length ≤ 63 ∧ r = .bool true
def FactsP : Prop := ∀ (P : Program) (w : World) (K : PySem.W.Frag) (h : Heap) (mg : Str → Option Value) (f : Addr) (X : K.In h) (G : h.Ns mainGlobals mg) (hfa : mg ("law" : Str) = some (.ref f)) (c : He.SaysD fa fn K) (cx : ex K = true),
    ∃ fd : FuncData, (∀ (s : Shared) (v : Value), BindsTo s fd ⟨[v], []⟩ [("_law_script", v)]) ∧ ∀ base : Heap, K.In base → base.Ns mainGlobals mg → FnG P w K mg base 14 f fd ["_law_script"] (spG K [] 1 SL)
end T84
section
open PySem PySem.W PySem.Calls PyProof.Rows
theorem T84.holds_of (facts : T84.FactsP) : PySem.Challenge.rw_warmthbytouch_k84_whole_game.Holds := by
  w_on; o_law
  refine HandSHeadRun.head_any (r := OpenLaw.row PySem.Challenge.rw_warmthbytouch_k84_whole_game) (q := view (OpenLaw.row PySem.Challenge.rw_warmthbytouch_k84_whole_game).prog [55]) (H := T84.hk) (ob := T84.ob) (M := 20000) (loose := T84.loose) (d := HandSHeadRun.topDef (OpenLaw.row PySem.Challenge.rw_warmthbytouch_k84_whole_game).prog 55) (kwd := []) T84.ob_eq
    (by kernel_rfl) (fun s => by kernel_rfl) T84.run (by kernel_rfl) (by kernel_rfl) (by kernel_rfl) (by rfl) (by first | assumption | decide +kernel) (by decide +kernel) ⟨rfl, rfl, rfl, rfl, rfl, by decide +kernel⟩ ?hw ?hc
  case hw => w_witness2
  case hc =>
    refine AL.walk_ofG (l := PySem.Challenge.rw_warmthbytouch_k84_whole_game) (n := 63) (k := 14) (x := "_law_script") rfl (by decide) (by kernel_rfl) ⟨rfl, by decide, by decide⟩ ?F
    intro w mg fa h Y G hmg0
    obtain ⟨K, KX, c⟩ := Y
    have hmg : mg ("law" : PySem.Str) = some (.ref fa) := by
      have e : (HandSHeadRun.topDef (OpenLaw.row PySem.Challenge.rw_warmthbytouch_k84_whole_game).prog 55).name = ("law" : PySem.Str) := by kernel_rfl
      rw [← e]
      exact hmg0
    obtain ⟨fd, hb, hF⟩ := facts (PySem.Challenge.rw_warmthbytouch_k84_whole_game).prog w K _ mg fa KX G hmg c.t.d c.more
    refine ⟨K, fd, [], _, KX, fun p hp => absurd hp (by simp), fun p hp => absurd hp (by simp), fun p hp => absurd hp (by simp), hb, fun H a ns hl _ hS => ?_, fun base e1 e2 _ => hF base e1 e2⟩
    exact AL.spG_law (fun p hp => absurd hp (by simp)) hS ⟨ns, rfl, hl, rfl⟩
end
namespace T84
open PySem PySem.Spec L2 AL
local macro_rules | `(tactic| walk_at "se") => `(tactic| (first | exact AL.SetE.z | (apply AL.SetE.s; walk_at "se")))
local macro_rules | `(tactic| walk_at "fz") => `(tactic| (first | exact AL.Frz.nil | (apply AL.Frz.d; walk_at "fz") | exact AL.Frz.o (by rfl) (by walk_at "se") (by walk_at "fz")))
local macro_rules | `(tactic| walk_at "cv") => `(tactic| (first | exact AL.CvA.nil | (apply AL.CvA.d; walk_at "cv") | (apply AL.CvA.v; walk_at "cv")))
local macro_rules | `(tactic| walk_at "wk") => `(tactic| (first | exact AL.WkE.nil | (with_reducible apply AL.WkE.same; walk_at "wk") | (apply AL.WkE.drop; walk_at "wk")))
local macro_rules | `(tactic| walk_at "wipe") => `(tactic| (first | exact AL.WipeE.nil | (apply AL.WipeE.cons; walk_at "wipe"; walk_at "se")))
local macro_rules | `(tactic| walk_at "nm") => `(tactic| (first | with_reducible assumption | exact AL.Nm.blk (by with_reducible assumption) (by decide +kernel) | exact AL.nm_own (by assumption) (by with_reducible assumption) (by decide +kernel)))
local macro_rules | `(tactic| walk_at "lc") => `(tactic| (first | with_reducible assumption | exact AL.lc_own (by assumption) (by with_reducible assumption) (by decide +kernel)))
local macro_rules | `(tactic| walk_at "gn") => `(tactic| (first | with_reducible assumption | (refine AL.gnB ?_; decide +kernel)))
local macro_rules | `(tactic| walk_at "bn") => `(tactic| (first | with_reducible assumption | (refine AL.bnB ?_ ?_; decide +kernel; with_reducible assumption)))
local macro_rules | `(tactic| walk_at "cal") => `(tactic| (first | with_reducible assumption | (refine AL.calB ?_; with_reducible assumption)))
local macro_rules | `(tactic| walk_at "calD") => `(tactic| (first | with_reducible assumption | (refine AL.calDB ?_; with_reducible assumption)))
local macro_rules | `(tactic| walk_at "calK") => `(tactic| (first | with_reducible assumption | (refine AL.calKB ?_; with_reducible assumption)))
local macro_rules | `(tactic| walk_at "calG") => `(tactic| (first | with_reducible assumption | (refine AL.calGB ?_; with_reducible assumption)))
local macro_rules | `(tactic| walk_at "hgd") => `(tactic| (first | with_reducible assumption | (refine AL.guardB ?_; with_reducible assumption)))
local macro_rules | `(tactic| walk_at "hT") => `(tactic| (first | with_reducible assumption | exact (AL.CtT.hT _).trans (by with_reducible assumption)))
local macro_rules | `(tactic| walk_at "shw") => `(tactic| (first | assumption | (simp only [AL.dOf]; assumption)))
local macro_rules | `(tactic| walk_at "held") => `(tactic| (first | with_reducible assumption | (refine AL.heldB ?_; with_reducible assumption)))
local macro_rules | `(tactic| walk_at "mg") => `(tactic| (first | with_reducible assumption | (refine AL.mgB ?_; with_reducible assumption)))
local macro_rules | `(tactic| walk_at "tc") => `(tactic| (first | with_reducible assumption | (refine AL.tcB ?_; with_reducible assumption)))
local macro_rules | `(tactic| walk_at "room") => `(tactic| (first | exact AL.CxF.room (by with_reducible assumption) | exact AL.roomB (AL.CxF.room (by with_reducible assumption))))
local macro_rules | `(tactic| walk_at "calm") => `(tactic| (first | exact AL.CxF.calm (by with_reducible assumption) | exact AL.calmB (AL.CxF.calm (by with_reducible assumption))))
local macro_rules | `(tactic| walk_at "boot") => `(tactic| (decide +kernel))
local macro_rules | `(tactic| walk_at "ix") => `(tactic| (first | rfl | assumption | exact AL.at_st (by first | assumption | omega) | exact AL.at_stI (by omega) (by omega) | exact AL.at_dn7 (by omega) (by omega) (by assumption) | exact AL.at_size4 (by omega) (by omega) | exact AL.at_dn4 (by omega) (by omega) | exact AL.ixN_int (by omega) (by first | omega | (simp only [List.length_set, List.length_map]; omega))))
local macro_rules | `(tactic| walk_at "isfr") => `(tactic| (first | exact AL.isfr_rfl | exact AL.isfr_neg))
local macro_rules | `(tactic| walk_at "len") => `(tactic| (first | (simp only [List.length_cons, List.length_nil, List.length_map]; omega) | omega | (simp; omega)))
local macro_rules | `(tactic| walk_at "look") => `(tactic| (exact AL.CxF.look (by with_reducible assumption) (by decide +kernel)))
local macro_rules | `(tactic| walk_at "len2") => `(tactic| (first | (simp only [List.length_append, List.length_cons, List.length_nil, List.length_map, AL.natD_len, List.length_take, List.length_drop]; omega) | omega | (simp; omega)))
local macro_rules | `(tactic| walk_at "swap") => `(tactic| (exact AL.CxF.swapE (by with_reducible assumption) (by kernel_rfl)))
local macro_rules | `(tactic| walk_at "swapw") => `(tactic| (exact AL.CxF.swapW (by with_reducible assumption) (by kernel_rfl)))
local macro_rules | `(tactic| walk_at "pos") => `(tactic| (first | omega | decide))
local macro_rules | `(tactic| walk_at "mul") => `(tactic| (first | assumption | exact AL.bt_cmul (by assumption) (by assumption) | exact AL.small_mul (by omega) | exact AL.small_mulL (by omega) | exact AL.small_mul (by split <;> omega)))
local macro_rules | `(tactic| walk_at "div") => `(tactic| (first | assumption | exact AL.bt_cdiv (by assumption) (by assumption) | exact AL.small_div (by omega)))
local macro_rules | `(tactic| walk_at "nd") => `(tactic| (first | rfl | assumption))
local macro_rules | `(tactic| walk_at "nn") => `(tactic| (first | omega | assumption | decide))
local macro_rules | `(tactic| walk_at "pf") => `(tactic| (first | with_reducible assumption | exact AL.Rb.n (by with_reducible assumption) | exact AL.Rb.d (by with_reducible assumption) | omega | assumption | decide | (simp only [List.length_map]; omega)))
local macro_rules | `(tactic| walk_at "con") => `(tactic| (assumption))
local macro_rules | `(tactic| walk_at "pok") => `(tactic| (first | assumption | exact AL.left_ok (by walk_at "pok") (by walk_at "pf") | exact AL.shareP_ok (by walk_at "pok") | exact AL.sizeP_ok (by walk_at "pok")))
local macro_rules | `(tactic| walk_at "con") => `(tactic| (((with_reducible show AL.S_ahead _ _ _); unfold AL.S_ahead; exact ⟨_, _, rfl, by walk_at "pf", by walk_at "pf", rfl⟩)))
local macro_rules | `(tactic| walk_at "ln") => `(tactic| (first | trivial | exact ⟨trivial, by walk_at "ln"⟩ | exact ⟨by first | assumption | (simp [AL.entNol, AL.nolA]; done), by walk_at "ln"⟩))
local macro_rules | `(tactic| walk_at "pow") => `(tactic| (first | decide | decide +kernel | assumption | (unfold L2.CPow; decide +kernel)))
local macro_rules | `(tactic| walk_at "shaped") => `(tactic| (first | rfl | assumption))
local macro_rules | `(tactic| walk_at "leaf") => `(tactic| (first | ((with_reducible show _ + 1 = _ ∧ ∃ _ _ _, AL.CvA _ _ _ ∧ _); first | refine AL.lf_callMF rfl (by walk_at "cv") (by walk_at "con") ?_) | ((with_reducible show ∃ _ _, _ = _ ∧ _ = _ ∧ _ = AL.Av.d (PySem.PyData.int (-1)) ∧ _); first | refine AL.lf_down rfl rfl rfl ⟨by walk_at "len", by walk_at "len", by walk_at "len", by walk_at "len"⟩ ?_) | ((with_reducible show ∃ _, AL.KL _ _ _ ∧ AL.EE _ _ _ _ _); first | refine ⟨_, .inl rfl, ?_⟩ | refine ⟨_, AL.kl_o (by rfl), ?_⟩) | ((with_reducible show ∃ _ _, (_ = AL.Av.d (PySem.PyData.tuple _) ∨ AL.KL _ _ _) ∧ _); first | refine AL.lf_row2 rfl ?_) | ((with_reducible show ∃ _, AL.KL _ _ _ ∧ _); first | refine ⟨_, .inl rfl, ?_⟩ | refine ⟨_, AL.kl_o (by rfl), ?_⟩) | ((with_reducible show ∃ _ _, _ = _ ∧ (0 : Nat) < _ ∧ (_ ∨ _)); first | refine AL.lf_sl1U rfl rfl ?_) | ((with_reducible show ∃ _, _ = _ ∧ _); first | refine ⟨_, rfl, ?_⟩) | ((with_reducible show ∃ _ _, _ = _ ∧ _ = _ ∧ _); first | refine ⟨_, _, rfl, rfl, ?_⟩) | ((with_reducible show 0 ≤ _ ∧ AL.EE _ _ _ _ _); first | refine ⟨by walk_at "nn", ?_⟩) | ((with_reducible show 0 ≤ _ ∧ AL.RA _ _ _ _ _ _ _); first | refine ⟨by walk_at "nn", ?_⟩) | ((with_reducible show 0 ≤ _ ∧ _); first | refine ⟨by walk_at "nn", ?_⟩) | ((with_reducible show _ ≤ _ ∧ _ < _ ∧ _); first | refine ⟨by walk_at "len", by walk_at "len", ?_⟩) | ((with_reducible show (_ ≤ _ ∧ _ < _ ∧ _ ≤ _ ∧ _ < _) ∧ _); first | refine ⟨⟨by walk_at "len", by walk_at "len", by walk_at "len", by walk_at "len"⟩, ?_⟩) | ((with_reducible show ∃ _ _ _ _, _ = _ ∧ AL.SetE _ _ _ _ ∧ _); first | refine AL.lf_par (by walk_at "se") (by walk_at "se") ?_) | ((with_reducible show ∃ _ _, _ = _ ∧ L2.CDivW _ _ ∧ AL.SetE _ _ _ _ ∧ _); first | refine AL.lf_augDiv rfl (by walk_at "div") (by walk_at "se") ?_) | ((with_reducible show ∃ _ _, _ = _ ∧ L2.CMulW _ _ ∧ AL.SetE _ _ _ _ ∧ _); first | refine AL.lf_augMul rfl (by walk_at "mul") (by walk_at "se") ?_) | ((with_reducible show ∃ _ _, _ = _ ∧ AL.SetE _ _ _ _ ∧ _); first | refine AL.lf_aug (by walk_at "se") ?_) | ((with_reducible show ∃ _ _, AL.Frz _ _ _ _ ∧ _ ≤ _ ∧ _); first | refine AL.lf_frz (by walk_at "fz") (by walk_at "len") ?_) | ((with_reducible show ∃ _ _ _ _, AL.KL _ _ _ ∧ _); first | refine AL.lf_extend AL.kl_l (by rfl) (by walk_at "len") (by walk_at "se") ?_ | refine AL.lf_extend (AL.kl_o (by rfl)) (by rfl) (by walk_at "len") (by walk_at "se") ?_) | ((with_reducible show ∃ _, AL.SetE _ _ _ _ ∧ _); first | refine AL.lf_setN (by walk_at "se") ?_ | refine AL.lf_setI (by walk_at "se") ?_) | ((with_reducible show ∃ _ _ _ _ _, AL.Frz _ _ _ _ ∧ _); first | refine AL.lf_append (by walk_at "fz") (by rfl) (by walk_at "len") (by walk_at "se") ?_) | ((with_reducible show ∃ _ _, AL.Frz _ _ [_] _ ∧ _); first | refine AL.lf_turn (by walk_at "fz") ?_ | refine AL.lf_iL (by walk_at "fz") ?_) | ((with_reducible show ∃ _, AL.KT _ _ _ ∧ _); first | refine AL.lf_kt AL.kt_l ?_ | refine AL.lf_kt AL.kt_t ?_ | refine AL.lf_kt (AL.kt_o (by rfl)) ?_) | ((with_reducible show ∃ _, AL.notD _ = true ∧ _); first | refine AL.lf_isi (by walk_at "nd") ?_) | ((with_reducible show ∃ _ _ _, _ = AL.Av.o _ ∧ _); first | refine AL.lf_app0 (by rfl) ?_) | ((with_reducible show ∃ _ _ _ _ _ _, _ = _ ∧ 0 ≤ _ ∧ _ < _ ∧ AL.Frz _ _ _ _ ∧ _); first | refine AL.lf_insert rfl (by walk_at "nn") (by walk_at "len") (by walk_at "fz") (by rfl) (by walk_at "len") (by walk_at "se") ?_) | ((with_reducible show ∃ _ _, _ = _ ∧ 0 ≤ _ ∧ (_ ∨ _)); first | refine AL.lf_slT rfl (by walk_at "nn") rfl ?_ | refine AL.lf_slL rfl (by walk_at "nn") AL.kl_l ?_ | refine AL.lf_slL rfl (by walk_at "nn") (AL.kl_o (by rfl)) ?_) | ((with_reducible show ∃ _ _ _, AL.Frz [_, _] _ _ _ ∧ _); first | refine AL.lf_zip (by walk_at "fz") ?_) | ((with_reducible show ∃ _ _ _ _ _ _ _ _, _ = _ ∧ _ = _ ∧ AL.Frz _ _ _ _ ∧ _); first | refine AL.lf_setIx rfl rfl (by walk_at "fz") (by rfl) (by walk_at "ix") (by walk_at "se") ?_) | ((with_reducible show ∃ _ _, (_ ∨ _) ∧ _); first | refine AL.lf_enumT ?_ | refine AL.lf_enumL (by walk_at "fz") ?_) | ((with_reducible show _ ∧ ∃ _ _, AL.CvA _ _ _ ∧ _); first | refine AL.lf_call rfl (by walk_at "cv") (by walk_at "con") ?_ | refine AL.lf_callN rfl (by walk_at "cv") (by walk_at "con") ?_ | refine AL.lf_callD rfl (by walk_at "cv") (by walk_at "con") ?_ | refine AL.lf_callK0 rfl (by walk_at "cv") (by rfl) (by walk_at "con") ?_) | ((with_reducible show _ ∧ _ ∧ ∃ _ _, AL.CvA _ _ _ ∧ _); first | refine AL.lf_callK rfl rfl (by walk_at "cv") (by rfl) (by walk_at "con") ?_) | ((with_reducible show _ ∧ AL.Shw _ ∧ _); first | refine AL.lf_rep2 (by rfl) (by walk_at "shw") ?_) | ((with_reducible show _ = _ ∧ ∃ _ _ _ _ _ _ _ _, _); first | refine AL.lf_callM rfl (by walk_at "cv") (by rfl) (by walk_at "con") (by walk_at "se") ?_)))
local macro_rules | `(tactic| walk_at "GEE.Constant") => `(tactic| (first | ((with_reducible show AL.EE _ _ (PySem.Expr.Constant (PySem.Const.int _) _ _) _ _); first | refine AL.ee_int ?_) | ((with_reducible show AL.EE _ _ (PySem.Expr.Constant (PySem.Const.bool _) _ _) _ _); first | refine AL.ee_bl ?_) | ((with_reducible show AL.EE _ _ (PySem.Expr.Constant PySem.Const.none _ _) _ _); first | refine AL.ee_non ?_) | ((with_reducible show AL.EE _ _ (PySem.Expr.Constant (PySem.Const.str _) _ _) _ _); first | refine AL.ee_str ?_)))
local macro_rules | `(tactic| walk_at "GEE.Name") => `(tactic| (first | ((with_reducible show AL.EE _ _ (PySem.Expr.Name "bool" _) _ _); first | refine AL.ee_ty (T := "bool") (by walk_at "bn") (by walk_at "boot") ?_) | ((with_reducible show AL.EE _ _ (PySem.Expr.Name "int" _) _ _); first | refine AL.ee_ty (T := "int") (by walk_at "bn") (by walk_at "boot") ?_) | ((with_reducible show AL.EE _ _ (PySem.Expr.Name "str" _) _ _); first | refine AL.ee_ty (T := "str") (by walk_at "bn") (by walk_at "boot") ?_) | ((with_reducible show AL.EE _ _ (PySem.Expr.Name "list" _) _ _); first | refine AL.ee_ty (T := "list") (by walk_at "bn") (by walk_at "boot") ?_) | ((with_reducible show AL.EE _ _ (PySem.Expr.Name "tuple" _) _ _); first | refine AL.ee_ty (T := "tuple") (by walk_at "bn") (by walk_at "boot") ?_) | ((with_reducible show AL.EE _ _ (PySem.Expr.Name "dict" _) _ _); first | refine AL.ee_ty (T := "dict") (by walk_at "bn") (by walk_at "boot") ?_) | ((with_reducible show AL.EE _ _ (PySem.Expr.Name _ _) _ _); first | refine AL.ee_im (by walk_at "nm") (by rfl) ?_ | refine AL.ee_ls (by walk_at "nm") (by rfl) ?_ | refine AL.ee_vl (by walk_at "nm") (by rfl) ?_ | refine AL.ee_gi (by walk_at "gn") (by walk_at "mg") ?_ | refine AL.ee_gs (by walk_at "gn") (by walk_at "mg") ?_ | refine AL.ee_dc (by walk_at "nm") (by rfl) ?_ | refine AL.ee_ty (by walk_at "bn") (by walk_at "boot") ?_ | refine AL.ee_glT2 (by walk_at "gn") (by walk_at "tc") ?_ | refine AL.ee_glT (by walk_at "gn") (by walk_at "tc") ?_ | refine AL.ee_gr (by walk_at "gn") (by walk_at "mg") ?_)))
local macro_rules | `(tactic| walk_at "GEE.BinOp") => `(tactic| (first | ((with_reducible show AL.EE _ _ (PySem.Expr.BinOp _ PySem.Operator.Add (PySem.Expr.List _ _) _) _ _); first | refine AL.ee_en (AL.en_cat ?_)) | ((with_reducible show AL.EE _ _ (PySem.Expr.BinOp _ PySem.Operator.Add _ _) _ _); first | refine AL.ee_add ?_) | ((with_reducible show AL.EE _ _ (PySem.Expr.BinOp _ PySem.Operator.Sub _ _) _ _); first | refine AL.ee_sub ?_) | ((with_reducible show AL.EE _ _ (PySem.Expr.BinOp (PySem.Expr.List _ _) PySem.Operator.Mult _ _) _ _); first | refine AL.ee_en (AL.en_rep ?_)) | ((with_reducible show AL.EE _ _ (PySem.Expr.BinOp _ PySem.Operator.Mult _ _) _ _); first | refine AL.ee_mul ?_) | ((with_reducible show AL.EE _ _ (PySem.Expr.BinOp _ PySem.Operator.FloorDiv _ _) _ _); first | refine AL.ee_fdiv ?_) | ((with_reducible show AL.EE _ _ (PySem.Expr.BinOp _ PySem.Operator.Mod _ _) _ _); first | refine AL.ee_mod ?_) | ((with_reducible show AL.EE _ _ (PySem.Expr.BinOp _ PySem.Operator.Pow _ _) _ _); first | refine AL.ee_pow ?_)))
local macro_rules | `(tactic| walk_at "GEE.UnaryOp") => `(tactic| (first | ((with_reducible show AL.EE _ _ (PySem.Expr.UnaryOp PySem.UnaryOp.USub _ _) _ _); first | refine AL.ee_neg ?_) | ((with_reducible show AL.EE _ _ (PySem.Expr.UnaryOp PySem.UnaryOp.Not _ _) _ _); first | refine AL.ee_not ?_)))
local macro_rules | `(tactic| walk_at "GEE.Compare") => `(tactic| (first | ((with_reducible show AL.EE _ _ (PySem.Expr.Compare _ [PySem.CmpOp.Lt] [_] _) _ _); first | refine AL.ee_lt ?_) | ((with_reducible show AL.EE _ _ (PySem.Expr.Compare _ [PySem.CmpOp.LtE] [_] _) _ _); first | refine AL.ee_le ?_) | ((with_reducible show AL.EE _ _ (PySem.Expr.Compare _ [PySem.CmpOp.Gt] [_] _) _ _); first | refine AL.ee_gt ?_) | ((with_reducible show AL.EE _ _ (PySem.Expr.Compare _ [PySem.CmpOp.GtE] [_] _) _ _); first | refine AL.ee_ge ?_) | ((with_reducible show AL.EE _ _ (PySem.Expr.Compare _ [PySem.CmpOp.Eq] [_] _) _ _); first | refine AL.ee_eqA (by walk_at "room") ?_) | ((with_reducible show AL.EE _ _ (PySem.Expr.Compare _ [PySem.CmpOp.NotEq] [_] _) _ _); first | refine AL.ee_neA (by walk_at "room") ?_) | ((with_reducible show AL.EE _ _ (PySem.Expr.Compare _ [PySem.CmpOp.Is] [PySem.Expr.Constant PySem.Const.none _ _] _) _ _); first | refine AL.ee_isN ?_) | ((with_reducible show AL.EE _ _ (PySem.Expr.Compare _ [PySem.CmpOp.IsNot] [PySem.Expr.Constant PySem.Const.none _ _] _) _ _); first | refine AL.ee_notN ?_) | ((with_reducible show AL.EE _ _ (PySem.Expr.Compare _ [PySem.CmpOp.LtE, PySem.CmpOp.LtE] [_, _] _) _ _); first | refine AL.ee_chainLL ?_) | ((with_reducible show AL.EE _ _ (PySem.Expr.Compare _ [PySem.CmpOp.LtE, PySem.CmpOp.Lt] [_, _] _) _ _); first | refine AL.ee_chainLt ?_) | ((with_reducible show AL.EE _ _ (PySem.Expr.Compare _ [PySem.CmpOp.In] [_] _) _ _); first | refine AL.ee_inA (by walk_at "room") (by rfl) ?_) | ((with_reducible show AL.EE _ _ (PySem.Expr.Compare _ [PySem.CmpOp.NotIn] [PySem.Expr.Call (PySem.Expr.Name "range" _) [_] [] _] _) _ _); first | refine AL.ee_notInRng (by walk_at "bn") ?_) | ((with_reducible show AL.EE _ _ (PySem.Expr.Compare _ [PySem.CmpOp.NotIn] [_] _) _ _); first | refine AL.ee_notInA (by walk_at "room") (by rfl) ?_)))
local macro_rules | `(tactic| walk_at "GEE.BoolOp") => `(tactic| (first | ((with_reducible show AL.EE _ _ (PySem.Expr.BoolOp _ [_] _) _ _); first | refine AL.ee_one ?_) | ((with_reducible show AL.EE _ _ (PySem.Expr.BoolOp PySem.BoolOp.And (_ :: _ :: _) _) _ _); first | refine AL.ee_and ?_) | ((with_reducible show AL.EE _ _ (PySem.Expr.BoolOp PySem.BoolOp.Or (_ :: _ :: _) _) _ _); first | refine AL.ee_or ?_)))
local macro_rules | `(tactic| walk_at "GEE.IfExp") => `(tactic| (first | ((with_reducible show AL.EE _ _ (PySem.Expr.IfExp _ _ _ _) _ _); first | refine AL.ee_if ?_)))
local macro_rules | `(tactic| walk_at "GEE.Tuple") => `(tactic| (first | ((with_reducible show AL.EE _ _ (PySem.Expr.Tuple _ _ _) _ _); first | refine AL.ee_tup ?_)))
local macro_rules | `(tactic| walk_at "GEE.List") => `(tactic| (first | ((with_reducible show AL.EE _ _ (PySem.Expr.List _ _) _ _); first | refine AL.ee_lst ?_)))
local macro_rules | `(tactic| walk_at "GEE.Subscript") => `(tactic| (first | ((with_reducible show AL.EE _ _ (PySem.Expr.Subscript _ (PySem.Expr.Slice none none (some _) _) _) _ _); first | refine AL.ee_revL ?_) | ((with_reducible show AL.EE _ _ (PySem.Expr.Subscript _ (PySem.Expr.Slice none (some (PySem.Expr.UnaryOp PySem.UnaryOp.USub _ _)) none _) _) _ _); first | refine AL.ee_slHiN ?_) | ((with_reducible show AL.EE _ _ (PySem.Expr.Subscript _ (PySem.Expr.Slice none (some _) none _) _) _ _); first | refine AL.ee_sl2Hi ?_) | ((with_reducible show AL.EE _ _ (PySem.Expr.Subscript _ (PySem.Expr.Slice (some _) none none _) _) _ _); first | refine AL.ee_sl2Lo ?_) | ((with_reducible show AL.EE _ _ (PySem.Expr.Subscript _ _ _) _ _); first | refine AL.ee_ix (by intro _ _; rfl) ?_)))
local macro_rules | `(tactic| walk_at "GEE.Call") => `(tactic| (first | ((with_reducible show AL.EE _ _ (PySem.Expr.Call (PySem.Expr.Name "len" _) [PySem.Expr.Call (PySem.Expr.Name "set" _) [PySem.Expr.Name _ _] [] _] [] _) _ _); first | refine AL.ee_lenSetU (by walk_at "bn") (by walk_at "bn") (by walk_at "calm") ?_) | ((with_reducible show AL.EE _ _ (PySem.Expr.Call (PySem.Expr.Name "len" _) [PySem.Expr.Call (PySem.Expr.Name "set" _) [_] [] _] [] _) _ _); first | refine AL.ee_lenSetT (by walk_at "bn") (by walk_at "bn") (by walk_at "calm") (by walk_at "room") ?_) | ((with_reducible show AL.EE _ _ (PySem.Expr.Call (PySem.Expr.Name "list" _) [PySem.Expr.Call (PySem.Expr.Name "range" _) [_] [] _] [] _) _ _); first | refine AL.ee_en (AL.en_listRng (by walk_at "bn") (by walk_at "bn") (by walk_at "calm") ?_)) | ((with_reducible show AL.EE _ _ (PySem.Expr.Call (PySem.Expr.Attribute (PySem.Expr.Name _ _) "pop" _) [_] [] _) _ _); first | refine AL.ee_popAt ?_) | ((with_reducible show AL.EE _ _ (PySem.Expr.Call (PySem.Expr.Name "len" _) [PySem.Expr.Name _ _] [] _) _ _); first | refine AL.ee_len (by walk_at "bn") ?_) | ((with_reducible show AL.EE _ _ (PySem.Expr.Call (PySem.Expr.Name "len" _) [PySem.Expr.Subscript _ _ _] [] _) _ _); first | refine AL.ee_len (by walk_at "bn") ?_) | ((with_reducible show AL.EE _ _ (PySem.Expr.Call (PySem.Expr.Name "len" _) [PySem.Expr.Call _ _ _ _] [] _) _ _); first | refine AL.ee_len (by walk_at "bn") ?_) | ((with_reducible show AL.EE _ _ (PySem.Expr.Call (PySem.Expr.Name "len" _) [PySem.Expr.BinOp _ _ _ _] [] _) _ _); first | refine AL.ee_len (by walk_at "bn") ?_) | ((with_reducible show AL.EE _ _ (PySem.Expr.Call (PySem.Expr.Name "abs" _) [_] [] _) _ _); first | refine AL.ee_abs (by walk_at "bn") ?_) | ((with_reducible show AL.EE _ _ (PySem.Expr.Call (PySem.Expr.Name "int" _) [_] [] _) _ _); first | refine AL.ee_intB (by walk_at "bn") ?_) | ((with_reducible show AL.EE _ _ (PySem.Expr.Call (PySem.Expr.Name "max" _) [_, _] [] _) _ _); first | refine AL.ee_max2 (by walk_at "bn") (by walk_at "calm") ?_) | ((with_reducible show AL.EE _ _ (PySem.Expr.Call (PySem.Expr.Name "min" _) [_, _] [] _) _ _); first | refine AL.ee_min2 (by walk_at "bn") (by walk_at "calm") ?_) | ((with_reducible show AL.EE _ _ (PySem.Expr.Call (PySem.Expr.Name "sorted" _) [PySem.Expr.Call (PySem.Expr.Name "set" _) [_] [] _] [] _) _ _); first | refine AL.ee_en (AL.en_sortSet (by walk_at "bn") (by walk_at "bn") (by walk_at "calm") ?_)) | ((with_reducible show AL.EE _ _ (PySem.Expr.Call (PySem.Expr.Name "min" _) [_] [] _) _ _); first | refine AL.ee_minI (by walk_at "bn") (by walk_at "calm") (by walk_at "room") ?_) | ((with_reducible show AL.EE _ _ (PySem.Expr.Call (PySem.Expr.Name "sum" _) [_] [] _) _ _); first | refine AL.ee_sumA (by walk_at "bn") (by walk_at "calm") ?_ | refine AL.ee_sumI (by walk_at "bn") (by walk_at "calm") ?_) | ((with_reducible show AL.EE _ _ (PySem.Expr.Call (PySem.Expr.Name "all" _) [_] [] _) _ _); first | refine AL.ee_allB (by walk_at "bn") (by walk_at "calm") ?_) | ((with_reducible show AL.EE _ _ (PySem.Expr.Call (PySem.Expr.Attribute _ "extend" _) [_] [] _) _ _); first | refine AL.ee_extend ?_) | ((with_reducible show AL.EE _ _ (PySem.Expr.Call (PySem.Expr.Name "max" _) [_] [] _) _ _); first | refine AL.ee_maxI (by walk_at "bn") (by walk_at "calm") (by walk_at "room") ?_) | ((with_reducible show AL.EE _ _ (PySem.Expr.Call (PySem.Expr.Name "list" _) [_] [] _) _ _); first | refine AL.ee_en (AL.en_list (by walk_at "bn") ?_)) | ((with_reducible show AL.EE _ _ (PySem.Expr.Call (PySem.Expr.Name "tuple" _) [_] [] _) _ _); first | refine AL.ee_tuple (by walk_at "bn") ?_) | ((with_reducible show AL.EE _ _ (PySem.Expr.Call (PySem.Expr.Attribute _ "append" _) [_] [] _) _ _); first | refine AL.ee_append ?_) | ((with_reducible show AL.EE _ _ (PySem.Expr.Call (PySem.Expr.Attribute _ "insert" _) [_, _] [] _) _ _); first | refine AL.ee_insert ?_) | ((with_reducible show AL.EE _ _ (PySem.Expr.Call (PySem.Expr.Attribute _ "count" _) [_] [] _) _ _); first | refine AL.ee_count (by walk_at "room") ?_) | ((with_reducible show AL.EE _ _ (PySem.Expr.Call (PySem.Expr.Name "str" _) [_] [] _) _ _); first | refine AL.ee_strI (by walk_at "bn") ?_) | ((with_reducible show AL.EE _ _ (PySem.Expr.Call (PySem.Expr.Name "repr" _) [_] [] _) _ _); first | refine AL.ee_repr (by walk_at "room") (by walk_at "hgd") (by walk_at "bn") ?_) | ((with_reducible show AL.EE _ _ (PySem.Expr.Call (PySem.Expr.Name _ _) (_ :: _) (_ :: _) _) _ _); first | refine AL.ee_callK (by walk_at "calK") (by walk_at "room") (by walk_at "gn") ?_ | refine AL.ee_en (AL.en_callK (by walk_at "calK") (by walk_at "room") (by walk_at "gn") ?_)) | ((with_reducible show AL.EE _ _ (PySem.Expr.Call (PySem.Expr.Name _ _) [] (_ :: _) _) _ _); first | refine AL.ee_callK0 (by walk_at "calK") (by walk_at "room") (by walk_at "gn") ?_ | refine AL.ee_en (AL.en_callK0 (by walk_at "calK") (by walk_at "room") (by walk_at "gn") ?_)) | ((with_reducible show AL.EE _ _ (PySem.Expr.Call (PySem.Expr.Name "isinstance" _) [_, PySem.Expr.Name "bool" _] [] _) _ _); refine AL.ee_isi (T := "bool") (by walk_at "bn") (by decide) ?_) | ((with_reducible show AL.EE _ _ (PySem.Expr.Call (PySem.Expr.Name "isinstance" _) [_, PySem.Expr.Name "int" _] [] _) _ _); refine AL.ee_isi (T := "int") (by walk_at "bn") (by decide) ?_) | ((with_reducible show AL.EE _ _ (PySem.Expr.Call (PySem.Expr.Name "isinstance" _) [_, PySem.Expr.Name "str" _] [] _) _ _); refine AL.ee_isi (T := "str") (by walk_at "bn") (by decide) ?_) | ((with_reducible show AL.EE _ _ (PySem.Expr.Call (PySem.Expr.Name "isinstance" _) [_, PySem.Expr.Name "list" _] [] _) _ _); refine AL.ee_isi (T := "list") (by walk_at "bn") (by decide) ?_) | ((with_reducible show AL.EE _ _ (PySem.Expr.Call (PySem.Expr.Name "isinstance" _) [_, PySem.Expr.Name "tuple" _] [] _) _ _); refine AL.ee_isi (T := "tuple") (by walk_at "bn") (by decide) ?_) | ((with_reducible show AL.EE _ _ (PySem.Expr.Call (PySem.Expr.Name "isinstance" _) [_, PySem.Expr.Name "dict" _] [] _) _ _); refine AL.ee_isi (T := "dict") (by walk_at "bn") (by decide) ?_) | ((with_reducible show AL.EE _ _ (PySem.Expr.Call (PySem.Expr.Name _ _) (PySem.Expr.Call (PySem.Expr.Name _ _) (_ :: _) [] _ :: _) [] _) _ _); first | refine AL.ee_call (by walk_at "cal") (by walk_at "room") (by walk_at "gn") ?_ | refine AL.ee_callMF (by walk_at "cal") (by walk_at "room") (by walk_at "gn") ?_ | refine AL.ee_callM (by walk_at "cal") (by walk_at "room") (by walk_at "gn") ?_ | refine AL.ee_en (AL.en_call (by walk_at "cal") (by walk_at "room") (by walk_at "gn") ?_) | refine AL.ee_callD (by walk_at "calD") (by walk_at "room") (by walk_at "gn") ?_ | refine AL.ee_en (AL.en_callD (by walk_at "calD") (by walk_at "room") (by walk_at "gn") ?_) | refine AL.ee_callX (by walk_at "nm") (by rfl) (by walk_at "held") (by walk_at "room") ?_ | refine AL.ee_callG (by walk_at "calG") (by walk_at "hT") (by walk_at "room") (by walk_at "hgd") (by walk_at "gn") ?_ | refine AL.ee_callGM (by walk_at "calG") (by walk_at "hT") (by walk_at "room") (by walk_at "hgd") (by walk_at "gn") ?_ | refine AL.ee_en (AL.en_callG (by walk_at "calG") (by walk_at "hT") (by walk_at "room") (by walk_at "hgd") (by walk_at "gn") ?_)) | ((with_reducible show AL.EE _ _ (PySem.Expr.Call (PySem.Expr.Name _ _) (_ :: _) [] _) _ _); first | refine AL.ee_call (by walk_at "cal") (by walk_at "room") (by walk_at "gn") ?_ | refine AL.ee_callM (by walk_at "cal") (by walk_at "room") (by walk_at "gn") ?_ | refine AL.ee_en (AL.en_call (by walk_at "cal") (by walk_at "room") (by walk_at "gn") ?_) | refine AL.ee_callD (by walk_at "calD") (by walk_at "room") (by walk_at "gn") ?_ | refine AL.ee_en (AL.en_callD (by walk_at "calD") (by walk_at "room") (by walk_at "gn") ?_) | refine AL.ee_callX (by walk_at "nm") (by rfl) (by walk_at "held") (by walk_at "room") ?_ | refine AL.ee_callG (by walk_at "calG") (by walk_at "hT") (by walk_at "room") (by walk_at "hgd") (by walk_at "gn") ?_ | refine AL.ee_callGM (by walk_at "calG") (by walk_at "hT") (by walk_at "room") (by walk_at "hgd") (by walk_at "gn") ?_ | refine AL.ee_en (AL.en_callG (by walk_at "calG") (by walk_at "hT") (by walk_at "room") (by walk_at "hgd") (by walk_at "gn") ?_))))
local macro_rules | `(tactic| walk_at "GEE") => `(tactic| (first | ((with_reducible show AL.EE _ _ (PySem.Expr.Constant _ _ _) _ _); walk_at "GEE.Constant") | ((with_reducible show AL.EE _ _ (PySem.Expr.Name _ _) _ _); walk_at "GEE.Name") | ((with_reducible show AL.EE _ _ (PySem.Expr.BinOp _ _ _ _) _ _); walk_at "GEE.BinOp") | ((with_reducible show AL.EE _ _ (PySem.Expr.UnaryOp _ _ _) _ _); walk_at "GEE.UnaryOp") | ((with_reducible show AL.EE _ _ (PySem.Expr.Compare _ _ _ _) _ _); walk_at "GEE.Compare") | ((with_reducible show AL.EE _ _ (PySem.Expr.BoolOp _ _ _) _ _); walk_at "GEE.BoolOp") | ((with_reducible show AL.EE _ _ (PySem.Expr.IfExp _ _ _ _) _ _); walk_at "GEE.IfExp") | ((with_reducible show AL.EE _ _ (PySem.Expr.Tuple _ _ _) _ _); walk_at "GEE.Tuple") | ((with_reducible show AL.EE _ _ (PySem.Expr.List _ _) _ _); walk_at "GEE.List") | ((with_reducible show AL.EE _ _ (PySem.Expr.Subscript _ _ _) _ _); walk_at "GEE.Subscript") | ((with_reducible show AL.EE _ _ (PySem.Expr.Call _ _ _ _) _ _); walk_at "GEE.Call")))
local macro_rules | `(tactic| walk_at "GET.Compare") => `(tactic| (first | ((with_reducible show AL.ET _ _ (PySem.Expr.Compare _ [PySem.CmpOp.Lt] [_] _) _ _); first | refine AL.et_lt ?_) | ((with_reducible show AL.ET _ _ (PySem.Expr.Compare _ [PySem.CmpOp.LtE] [_] _) _ _); first | refine AL.et_le ?_) | ((with_reducible show AL.ET _ _ (PySem.Expr.Compare _ [PySem.CmpOp.Gt] [_] _) _ _); first | refine AL.et_gt ?_) | ((with_reducible show AL.ET _ _ (PySem.Expr.Compare _ [PySem.CmpOp.GtE] [_] _) _ _); first | refine AL.et_ge ?_) | ((with_reducible show AL.ET _ _ (PySem.Expr.Compare _ [PySem.CmpOp.Eq] [_] _) _ _); first | refine AL.et_eqA (by walk_at "room") ?_) | ((with_reducible show AL.ET _ _ (PySem.Expr.Compare _ [PySem.CmpOp.NotEq] [_] _) _ _); first | refine AL.et_neA (by walk_at "room") ?_) | ((with_reducible show AL.ET _ _ (PySem.Expr.Compare _ [PySem.CmpOp.In] [_] _) _ _); first | refine AL.et_inA (by walk_at "room") (by rfl) ?_) | ((with_reducible show AL.ET _ _ (PySem.Expr.Compare _ [PySem.CmpOp.NotIn] [PySem.Expr.Call (PySem.Expr.Name "range" _) [_] [] _] _) _ _); first | refine AL.et_notInRng (by walk_at "bn") ?_) | ((with_reducible show AL.ET _ _ (PySem.Expr.Compare _ [PySem.CmpOp.NotIn] [_] _) _ _); first | refine AL.et_notInA (by walk_at "room") (by rfl) ?_) | ((with_reducible show AL.ET _ _ (PySem.Expr.Compare _ [PySem.CmpOp.Is] [PySem.Expr.Constant PySem.Const.none _ _] _) _ _); first | refine AL.et_isN ?_) | ((with_reducible show AL.ET _ _ (PySem.Expr.Compare _ [PySem.CmpOp.IsNot] [PySem.Expr.Constant PySem.Const.none _ _] _) _ _); first | refine AL.et_notN ?_) | ((with_reducible show AL.ET _ _ (PySem.Expr.Compare _ [PySem.CmpOp.LtE, PySem.CmpOp.LtE] [_, _] _) _ _); first | refine AL.et_chainLL ?_) | ((with_reducible show AL.ET _ _ (PySem.Expr.Compare _ [PySem.CmpOp.LtE, PySem.CmpOp.Lt] [_, _] _) _ _); first | refine AL.et_chainLt ?_)))
local macro_rules | `(tactic| walk_at "GET.UnaryOp") => `(tactic| (first | ((with_reducible show AL.ET _ _ (PySem.Expr.UnaryOp PySem.UnaryOp.Not _ _) _ _); first | refine AL.et_not ?_)))
local macro_rules | `(tactic| walk_at "GET.BoolOp") => `(tactic| (first | ((with_reducible show AL.ET _ _ (PySem.Expr.BoolOp PySem.BoolOp.And _ _) _ _); first | refine AL.et_and ?_) | ((with_reducible show AL.ET _ _ (PySem.Expr.BoolOp PySem.BoolOp.Or _ _) _ _); first | refine AL.et_or ?_)))
local macro_rules | `(tactic| walk_at "GET.Call") => `(tactic| (first | ((with_reducible show AL.ET _ _ (PySem.Expr.Call _ _ _ _) _ _); first | refine AL.et_val ?_)))
local macro_rules | `(tactic| walk_at "GET.Name") => `(tactic| (first | ((with_reducible show AL.ET _ _ (PySem.Expr.Name _ _) _ _); first | refine AL.et_val ?_)))
local macro_rules | `(tactic| walk_at "GET.Subscript") => `(tactic| (first | ((with_reducible show AL.ET _ _ (PySem.Expr.Subscript _ _ _) _ _); first | refine AL.et_val ?_)))
local macro_rules | `(tactic| walk_at "GET.IfExp") => `(tactic| (first | ((with_reducible show AL.ET _ _ (PySem.Expr.IfExp _ _ _ _) _ _); first | refine AL.et_val ?_)))
local macro_rules | `(tactic| walk_at "GET") => `(tactic| (first | ((with_reducible show AL.ET _ _ (PySem.Expr.Compare _ _ _ _) _ _); walk_at "GET.Compare") | ((with_reducible show AL.ET _ _ (PySem.Expr.UnaryOp _ _ _) _ _); walk_at "GET.UnaryOp") | ((with_reducible show AL.ET _ _ (PySem.Expr.BoolOp _ _ _) _ _); walk_at "GET.BoolOp") | ((with_reducible show AL.ET _ _ (PySem.Expr.Call _ _ _ _) _ _); walk_at "GET.Call") | ((with_reducible show AL.ET _ _ (PySem.Expr.Name _ _) _ _); walk_at "GET.Name") | ((with_reducible show AL.ET _ _ (PySem.Expr.Subscript _ _ _) _ _); walk_at "GET.Subscript") | ((with_reducible show AL.ET _ _ (PySem.Expr.IfExp _ _ _ _) _ _); walk_at "GET.IfExp")))
local macro_rules | `(tactic| walk_at "GEW.BoolOp") => `(tactic| (first | ((with_reducible show AL.EW _ _ (PySem.Expr.BoolOp PySem.BoolOp.And [_] _) _ _); first | refine AL.ew_and1 ?_) | ((with_reducible show AL.EW _ _ (PySem.Expr.BoolOp PySem.BoolOp.Or [_] _) _ _); first | refine AL.ew_or1 ?_) | ((with_reducible show AL.EW _ _ (PySem.Expr.BoolOp PySem.BoolOp.And (_ :: _ :: _) _) _ _); first | refine AL.ew_and ?_) | ((with_reducible show AL.EW _ _ (PySem.Expr.BoolOp PySem.BoolOp.Or (_ :: _ :: _) _) _ _); first | refine AL.ew_or ?_)))
local macro_rules | `(tactic| walk_at "GEW") => `(tactic| (first | ((with_reducible show AL.EW _ _ (PySem.Expr.BoolOp _ _ _) _ _); walk_at "GEW.BoolOp")))
local macro_rules | `(tactic| walk_at "GETs") => `(tactic| (first | ((with_reducible show AL.ETs _ _ [] _ _); first | refine AL.ets_nil ?_) | ((with_reducible show AL.ETs _ _ [_] _ _); first | refine AL.ets_one ?_)))
local macro_rules | `(tactic| walk_at "GEA") => `(tactic| (first | ((with_reducible show AL.EA _ _ [] _ _); first | refine AL.ea_nil ?_) | ((with_reducible show AL.EA _ _ (_ :: _) _ _); first | refine AL.ea_cons ?_)))
local macro_rules | `(tactic| walk_at "GEK") => `(tactic| (first | ((with_reducible show AL.EK _ _ [] _ _); first | refine AL.ek_nil ?_) | ((with_reducible show AL.EK _ _ (_ :: _) _ _); first | refine AL.ek_cons ?_)))
local macro_rules | `(tactic| walk_at "GEN.List") => `(tactic| (first | ((with_reducible show AL.EN _ _ (PySem.Expr.List _ _) _ _); first | refine AL.en_lst ?_)))
local macro_rules | `(tactic| walk_at "GEN.BinOp") => `(tactic| (first | ((with_reducible show AL.EN _ _ (PySem.Expr.BinOp _ PySem.Operator.Add _ _) _ _); first | refine AL.en_cat ?_)))
local macro_rules | `(tactic| walk_at "GEN.Call") => `(tactic| (first | ((with_reducible show AL.EN _ _ (PySem.Expr.Call (PySem.Expr.Name "list" _) [PySem.Expr.Call (PySem.Expr.Name "range" _) [_] [] _] [] _) _ _); first | refine AL.en_listRng (by walk_at "bn") (by walk_at "bn") (by walk_at "calm") ?_) | ((with_reducible show AL.EN _ _ (PySem.Expr.Call (PySem.Expr.Name "list" _) [_] [] _) _ _); first | refine AL.en_list (by walk_at "bn") ?_) | ((with_reducible show AL.EN _ _ (PySem.Expr.Call (PySem.Expr.Name _ _) (_ :: _) [] _) _ _); first | refine AL.en_call (by walk_at "cal") (by walk_at "room") (by walk_at "gn") ?_)))
local macro_rules | `(tactic| walk_at "GEN") => `(tactic| (first | ((with_reducible show AL.EN _ _ (PySem.Expr.List _ _) _ _); walk_at "GEN.List") | ((with_reducible show AL.EN _ _ (PySem.Expr.BinOp _ _ _ _) _ _); walk_at "GEN.BinOp") | ((with_reducible show AL.EN _ _ (PySem.Expr.Call _ _ _ _) _ _); walk_at "GEN.Call")))
local macro_rules | `(tactic| walk_at "GRA") => `(tactic| (first | ((with_reducible show AL.RA _ _ _ (AL.Av.d (PySem.PyData.tuple _)) (AL.Av.d (PySem.PyData.int _)) _ _); first | refine AL.ra_ixT (by walk_at "ix") ?_) | ((with_reducible show AL.RA _ _ _ (AL.Av.d (PySem.PyData.list _)) (AL.Av.d (PySem.PyData.int _)) _ _); first | refine AL.ra_ixL (by walk_at "ix") ?_) | ((with_reducible show AL.RA _ _ _ (AL.Av.o _) (AL.Av.d (PySem.PyData.int _)) _ _); first | refine AL.ra_ixO (by rfl) (by walk_at "ix") ?_) | ((with_reducible show AL.RA _ _ _ (AL.Av.d (AL.scr _)) (AL.Av.d (PySem.PyData.int _)) _ _); first | refine AL.ra_ixX (by walk_at "nn") (by walk_at "ix") ?_) | ((with_reducible show AL.RA _ _ _ (AL.Av.d (PySem.PyData.tuple _)) (AL.Av.d (PySem.PyData.tuple _)) _ _); first | refine AL.ra_catT (by walk_at "len") ?_) | ((with_reducible show AL.RA _ _ (AL.rEqA _) (AL.Av.d (PySem.PyData.int _)) (AL.Av.d (PySem.PyData.int _)) _ _); first | refine AL.ra_or1 (AL.ra_eqI ?_)) | ((with_reducible show AL.RA _ _ (AL.rEqA _) (AL.Av.d (PySem.PyData.str _)) (AL.Av.d (PySem.PyData.str _)) _ _); first | refine AL.ra_eqStr (by with_reducible rfl) ?_ | refine AL.ra_eqS ?_) | ((with_reducible show AL.RA _ _ (AL.rEqA _) (AL.Av.d (PySem.PyData.tuple [PySem.PyData.int _, PySem.PyData.int _])) (AL.Av.d (PySem.PyData.tuple [PySem.PyData.int _, PySem.PyData.int _])) _ _); first | refine AL.ra_or1 (AL.ra_eqF ?_)) | ((with_reducible show AL.RA _ _ (AL.rNeA _) (AL.Av.d (PySem.PyData.int _)) (AL.Av.d (PySem.PyData.int _)) _ _); first | refine AL.ra_or1 (AL.ra_neI ?_)) | ((with_reducible show AL.RA _ _ (AL.rNeA _) (AL.Av.d (PySem.PyData.str _)) (AL.Av.d (PySem.PyData.str _)) _ _); first | refine AL.ra_neStr (by with_reducible rfl) ?_ | refine AL.ra_neS ?_) | ((with_reducible show AL.RA _ _ (AL.rNeA _) (AL.Av.d (PySem.PyData.tuple [PySem.PyData.int _, PySem.PyData.int _])) (AL.Av.d (PySem.PyData.tuple [PySem.PyData.int _, PySem.PyData.int _])) _ _); first | refine AL.ra_or1 (AL.ra_neF ?_)) | ((with_reducible show AL.RA _ _ (AL.rInA _ true) (AL.Av.d _) (AL.Av.d (PySem.PyData.tuple [])) _ _); first | refine AL.ra_ninNil (by walk_at "shaped") ?_) | ((with_reducible show AL.RA _ _ (AL.rEqA _) _ _ _ _); first | refine AL.ra_or1 (AL.ra_eq (by rfl) (by rfl) (by walk_at "shaped") (by walk_at "shaped") ?_)) | ((with_reducible show AL.RA _ _ (AL.rNeA _) _ _ _ _); first | refine AL.ra_or1 (AL.ra_ne (by rfl) (by rfl) (by walk_at "shaped") (by walk_at "shaped") ?_)) | ((with_reducible show AL.RA _ _ _ (AL.Av.d (PySem.PyData.int _)) (AL.Av.d (PySem.PyData.int _)) _ _); first | refine AL.ra_add ?_ | refine AL.ra_sub ?_ | refine AL.ra_mul (by walk_at "mul") ?_ | refine AL.ra_mulS (by walk_at "mul") ?_ | refine AL.ra_fdiv (by walk_at "div") ?_ | refine AL.ra_mod (by walk_at "pos") ?_ | refine AL.ra_pow (by walk_at "pow") ?_ | refine AL.ra_B0 ?_) | ((with_reducible show AL.RA _ _ (AL.rInA _ false) (AL.Av.d (PySem.PyData.int _)) (AL.Av.d (PySem.PyData.tuple [PySem.PyData.int _, PySem.PyData.int _])) _ _); first | refine AL.ra_inA2 ?_) | ((with_reducible show AL.RA _ _ (AL.rInA _ true) (AL.Av.d (PySem.PyData.int _)) (AL.Av.d (PySem.PyData.tuple [PySem.PyData.int _, PySem.PyData.int _])) _ _); first | refine AL.ra_ninA2 ?_)))
local macro_rules | `(tactic| walk_at "GRC") => `(tactic| (first | ((with_reducible show AL.RC _ _ _ [AL.Av.d (PySem.PyData.list _)] _ _); first | refine AL.rc_lenL ?_) | ((with_reducible show AL.RC _ _ _ [AL.Av.d (PySem.PyData.tuple _)] _ _); first | refine AL.rc_lenT ?_) | ((with_reducible show AL.RC _ _ _ [AL.Av.d (PySem.PyData.str _)] _ _); first | refine AL.rc_lenS (by walk_at "len") ?_) | ((with_reducible show AL.RC _ _ _ [AL.Av.d (AL.scr _)] _ _); first | refine AL.rc_lenX ?_) | ((with_reducible show AL.RC _ _ _ [AL.Av.o _] _ _); first | refine AL.rc_lenO (by rfl) ?_)))
local macro_rules | `(tactic| walk_at "GEI") => `(tactic| (first | ((with_reducible show AL.EI _ _ _ (PySem.Expr.Call (PySem.Expr.Name "range" _) [_] [] _) _ _); first | refine AL.ei_range1 (by walk_at "bn") ?_) | ((with_reducible show AL.EI _ _ _ (PySem.Expr.Call (PySem.Expr.Name "range" _) [_, _] [] _) _ _); first | refine AL.ei_range2 (by walk_at "bn") ?_) | ((with_reducible show AL.EI _ _ _ (PySem.Expr.Call (PySem.Expr.Name "range" _) [_, _, _] [] _) _ _); first | refine AL.ei_down (by walk_at "bn") ?_) | ((with_reducible show AL.EI _ _ (PySem.Expr.Tuple _ _ _) (PySem.Expr.Call (PySem.Expr.Name "zip" _) [_, _] [] _) _ _); first | refine AL.ei_zip (by walk_at "bn") ?_) | ((with_reducible show AL.EI _ _ (PySem.Expr.Tuple _ _ _) (PySem.Expr.Call (PySem.Expr.Name "enumerate" _) [_] [] _) _ _); first | refine AL.ei_enum (by walk_at "bn") ?_)))
local macro_rules | `(tactic| walk_at "GAG") => `(tactic| (first | ((with_reducible show AL.AG _ _ (L2.gName _) (AL.Av.d _) _ _); first | refine AL.ag_d (by walk_at "se") ?_) | ((with_reducible show AL.AG _ _ (L2.gName _) (AL.Av.v _) _ _); first | refine AL.ag_v (by walk_at "se") ?_) | ((with_reducible show AL.AG _ _ (L2.gName _) (AL.Av.o _) _ _); first | refine AL.ag_o (by rfl) (by walk_at "se") (by walk_at "se") ?_)))
local macro_rules | `(tactic| walk_at "GEG") => `(tactic| (first | ((with_reducible show AL.EG _ _ (PySem.Expr.Name _ _) (AL.Av.d _) _ _); first | refine AL.eg_d (by walk_at "lc") (by walk_at "se") ?_) | ((with_reducible show AL.EG _ _ (PySem.Expr.Name _ _) (AL.Av.o _) _ _); first | refine AL.eg_o (by walk_at "lc") (by rfl) (by walk_at "se") (by walk_at "se") ?_) | ((with_reducible show AL.EG _ _ (PySem.Expr.Tuple _ _ _) (AL.Av.d (PySem.PyData.tuple _)) _ _); first | refine AL.eg_tup (by walk_at "calm") (by rfl) ?_)))
local macro_rules | `(tactic| walk_at "GEGs") => `(tactic| (first | ((with_reducible show AL.EGs _ _ [] [] _ _); first | refine AL.egs_nil ?_) | ((with_reducible show AL.EGs _ _ (_ :: _) (_ :: _) _ _); first | refine AL.egs_cons ?_)))
local macro_rules | `(tactic| walk_at "GEGv") => `(tactic| (first | ((with_reducible show AL.EGv _ _ _ (PySem.Expr.Name _ _) (AL.Av.d _) _ _); first | refine AL.egv_d (by walk_at "lc") (by decide) (by walk_at "se") ?_) | ((with_reducible show AL.EGv _ _ _ (PySem.Expr.Tuple _ _ _) (AL.Av.d (PySem.PyData.tuple _)) _ _); first | refine AL.egv_tup (by walk_at "calm") (by rfl) ?_)))
local macro_rules | `(tactic| walk_at "GEGsv") => `(tactic| (first | ((with_reducible show AL.EGsv _ _ _ [] [] _ _); first | refine AL.egsv_nil ?_) | ((with_reducible show AL.EGsv _ _ _ (_ :: _) (_ :: _) _ _); first | refine AL.egsv_cons ?_)))
local macro_rules | `(tactic| walk_at "GESs") => `(tactic| (first | ((with_reducible show AL.ESs _ _ [] _ _); first | refine AL.ess_nil ?_) | ((with_reducible show AL.ESs _ _ [_] _ _); first | refine AL.ess_one ?_) | ((with_reducible show AL.ESs _ _ (_ :: _) _ _); first | refine AL.ess_cons ?_)))
local macro_rules | `(tactic| walk_at "GES.Return") => `(tactic| (first | ((with_reducible show AL.ES _ _ (PySem.Stmt.Return (some (PySem.Expr.Name _ _)) _) _ _); first | refine AL.es_ret ?_) | ((with_reducible show AL.ES _ _ (PySem.Stmt.Return (some (PySem.Expr.Subscript _ _ _)) _) _ _); first | refine AL.es_ret ?_) | ((with_reducible show AL.ES _ _ (PySem.Stmt.Return (some (PySem.Expr.Call _ _ _ _)) _) _ _); first | refine AL.es_ret ?_) | ((with_reducible show AL.ES _ _ (PySem.Stmt.Return (some (PySem.Expr.BinOp _ _ _ _)) _) _ _); first | refine AL.es_ret ?_) | ((with_reducible show AL.ES _ _ (PySem.Stmt.Return (some (PySem.Expr.Tuple _ _ _)) _) _ _); first | refine AL.es_ret ?_) | ((with_reducible show AL.ES _ _ (PySem.Stmt.Return (some (PySem.Expr.Constant _ _ _)) _) _ _); first | refine AL.es_ret ?_) | ((with_reducible show AL.ES _ _ (PySem.Stmt.Return (some (PySem.Expr.Compare _ _ _ _)) _) _ _); first | refine AL.es_ret ?_) | ((with_reducible show AL.ES _ _ (PySem.Stmt.Return (some (PySem.Expr.BoolOp _ _ _)) _) _ _); first | refine AL.es_ret ?_) | ((with_reducible show AL.ES _ _ (PySem.Stmt.Return (some (PySem.Expr.IfExp _ _ _ _)) _) _ _); first | refine AL.es_ret ?_) | ((with_reducible show AL.ES _ _ (PySem.Stmt.Return (some (PySem.Expr.UnaryOp _ _ _)) _) _ _); first | refine AL.es_ret ?_)))
local macro_rules | `(tactic| walk_at "GES.Pass") => `(tactic| (first | ((with_reducible show AL.ES _ _ (PySem.Stmt.Pass _) _ _); first | refine AL.es_pass ?_)))
local macro_rules | `(tactic| walk_at "GES.If") => `(tactic| (first | ((with_reducible show AL.ES _ _ (PySem.Stmt.If _ _ _ _) _ _); first | refine AL.es_if ?_)))
local macro_rules | `(tactic| walk_at "GES.Expr") => `(tactic| (first | ((with_reducible show AL.ES _ _ (PySem.Stmt.Expr _ _) _ _); first | refine AL.es_expr ?_)))
local macro_rules | `(tactic| walk_at "GES.Assign") => `(tactic| (first | ((with_reducible show AL.ES _ _ (PySem.Stmt.Assign [PySem.Expr.Tuple [PySem.Expr.Name _ _, PySem.Expr.Name _ _] _ _] (PySem.Expr.Tuple [_, _] _ _) _) _ _); first | refine AL.es_par (by walk_at "calm") (by walk_at "lc") (by walk_at "lc") (by decide) (by walk_at "look") (by walk_at "look") ?_ (by walk_at "swap") | refine AL.es_asgC (by walk_at "swap") ?_) | ((with_reducible show AL.ES _ _ (PySem.Stmt.Assign [PySem.Expr.Name _ _] (PySem.Expr.Call (PySem.Expr.Name "list" _) [_] [] _) _) _ _); first | refine AL.es_setN (by walk_at "lc") (AL.en_list (by walk_at "bn") ?_)) | ((with_reducible show AL.ES _ _ (PySem.Stmt.Assign [PySem.Expr.Name _ _] (PySem.Expr.List _ _) _) _ _); first | refine AL.es_setN (by walk_at "lc") ?_) | ((with_reducible show AL.ES _ _ (PySem.Stmt.Assign [PySem.Expr.Name _ _] (PySem.Expr.Call (PySem.Expr.Name _ _) (_ :: _) [] _) _) _ _); first | refine AL.es_setN (by walk_at "lc") (AL.en_call (by walk_at "cal") (by walk_at "room") (by walk_at "gn") ?_) | refine AL.es_setN (by walk_at "lc") (AL.en_callG (by walk_at "calG") (by walk_at "hT") (by walk_at "room") (by walk_at "hgd") (by walk_at "gn") ?_)) | ((with_reducible show AL.ES _ _ (PySem.Stmt.Assign [PySem.Expr.Name _ _] (PySem.Expr.Call (PySem.Expr.Name _ _) (_ :: _) (_ :: _) _) _) _ _); first | refine AL.es_setN (by walk_at "lc") (AL.en_callK (by walk_at "calK") (by walk_at "room") (by walk_at "gn") ?_)) | ((with_reducible show AL.ES _ _ (PySem.Stmt.Assign [PySem.Expr.Name _ _] (PySem.Expr.Call (PySem.Expr.Name _ _) [] (_ :: _) _) _) _ _); first | refine AL.es_setN (by walk_at "lc") (AL.en_callK0 (by walk_at "calK") (by walk_at "room") (by walk_at "gn") ?_)) | ((with_reducible show AL.ES _ _ (PySem.Stmt.Assign [PySem.Expr.Name _ _] (PySem.Expr.Name _ _) _) _ _); first | refine AL.es_set (by walk_at "lc") ?_) | ((with_reducible show AL.ES _ _ (PySem.Stmt.Assign [PySem.Expr.Name _ _] (PySem.Expr.Subscript _ _ _) _) _ _); first | refine AL.es_set (by walk_at "lc") ?_) | ((with_reducible show AL.ES _ _ (PySem.Stmt.Assign [PySem.Expr.Name _ _] (PySem.Expr.Call _ _ _ _) _) _ _); first | refine AL.es_set (by walk_at "lc") ?_) | ((with_reducible show AL.ES _ _ (PySem.Stmt.Assign [PySem.Expr.Name _ _] (PySem.Expr.BinOp _ _ _ _) _) _ _); first | refine AL.es_set (by walk_at "lc") ?_) | ((with_reducible show AL.ES _ _ (PySem.Stmt.Assign [PySem.Expr.Name _ _] (PySem.Expr.Tuple _ _ _) _) _ _); first | refine AL.es_set (by walk_at "lc") ?_) | ((with_reducible show AL.ES _ _ (PySem.Stmt.Assign [PySem.Expr.Name _ _] (PySem.Expr.Constant _ _ _) _) _ _); first | refine AL.es_set (by walk_at "lc") ?_) | ((with_reducible show AL.ES _ _ (PySem.Stmt.Assign [PySem.Expr.Name _ _] (PySem.Expr.Compare _ _ _ _) _) _ _); first | refine AL.es_set (by walk_at "lc") ?_) | ((with_reducible show AL.ES _ _ (PySem.Stmt.Assign [PySem.Expr.Name _ _] (PySem.Expr.BoolOp _ _ _) _) _ _); first | refine AL.es_set (by walk_at "lc") ?_) | ((with_reducible show AL.ES _ _ (PySem.Stmt.Assign [PySem.Expr.Name _ _] (PySem.Expr.IfExp _ _ _ _) _) _ _); first | refine AL.es_set (by walk_at "lc") ?_) | ((with_reducible show AL.ES _ _ (PySem.Stmt.Assign [PySem.Expr.Name _ _] (PySem.Expr.UnaryOp _ _ _) _) _ _); first | refine AL.es_set (by walk_at "lc") ?_) | ((with_reducible show AL.ES _ _ (PySem.Stmt.Assign [PySem.Expr.Tuple _ _ _] _ _) _ _); first | refine AL.es_asg ?_) | ((with_reducible show AL.ES _ _ (PySem.Stmt.Assign [PySem.Expr.Subscript _ _ _] _ _) _ _); first | refine AL.es_setIx ?_)))
local macro_rules | `(tactic| walk_at "GES.AugAssign") => `(tactic| (first | ((with_reducible show AL.ES _ _ (PySem.Stmt.AugAssign (PySem.Expr.Name _ _) PySem.Operator.Add _ _) _ _); first | refine AL.es_augAdd (by walk_at "lc") (by rfl) ?_) | ((with_reducible show AL.ES _ _ (PySem.Stmt.AugAssign (PySem.Expr.Name _ _) PySem.Operator.Sub _ _) _ _); first | refine AL.es_augSub (by walk_at "lc") (by rfl) ?_) | ((with_reducible show AL.ES _ _ (PySem.Stmt.AugAssign (PySem.Expr.Name _ _) PySem.Operator.FloorDiv _ _) _ _); first | refine AL.es_augDiv (by walk_at "lc") (by rfl) ?_) | ((with_reducible show AL.ES _ _ (PySem.Stmt.AugAssign (PySem.Expr.Name _ _) PySem.Operator.Mult _ _) _ _); first | refine AL.es_augMul (by walk_at "lc") (by rfl) ?_)))
local macro_rules | `(tactic| walk_at "GES.Break") => `(tactic| (first | ((with_reducible show AL.ES _ _ (PySem.Stmt.Break _) _ _); first | refine AL.es_break ?_)))
local macro_rules | `(tactic| walk_at "GES.Continue") => `(tactic| (first | ((with_reducible show AL.ES _ _ (PySem.Stmt.Continue _) _ _); first | refine AL.es_continue ?_)))
local macro_rules | `(tactic| walk_at "GES") => `(tactic| (first | ((with_reducible show AL.ES _ _ (PySem.Stmt.Return _ _) _ _); walk_at "GES.Return") | ((with_reducible show AL.ES _ _ (PySem.Stmt.Pass _) _ _); walk_at "GES.Pass") | ((with_reducible show AL.ES _ _ (PySem.Stmt.If _ _ _ _) _ _); walk_at "GES.If") | ((with_reducible show AL.ES _ _ (PySem.Stmt.Expr _ _) _ _); walk_at "GES.Expr") | ((with_reducible show AL.ES _ _ (PySem.Stmt.Assign _ _ _) _ _); walk_at "GES.Assign") | ((with_reducible show AL.ES _ _ (PySem.Stmt.AugAssign _ _ _ _) _ _); walk_at "GES.AugAssign") | ((with_reducible show AL.ES _ _ (PySem.Stmt.Break _) _ _); walk_at "GES.Break") | ((with_reducible show AL.ES _ _ (PySem.Stmt.Continue _) _ _); walk_at "GES.Continue")))
local macro_rules | `(tactic| walk_at "GBR") => `(tactic| (first | ((with_reducible show AL.BR true _ _); first | refine AL.br_t ?_) | ((with_reducible show AL.BR false _ _); first | refine AL.br_f ?_) | ((with_reducible show AL.BR (Decidable.decide _) _ _); first | refine AL.br_d (fun _ => ?_) (fun _ => ?_)) | ((with_reducible show AL.BR (!Decidable.decide _) _ _); first | refine AL.br_not (fun _ => ?_) (fun _ => ?_)) | ((with_reducible show AL.BR _ _ _); first | refine AL.BR.byt (by first | assumption | rfl | decide +kernel) ?_ | refine AL.BR.byf (by first | assumption | rfl | decide +kernel) ?_)))
local macro_rules | `(tactic| walk_at "text") => `(tactic| (conv => arg 3; whnf))
local macro_rules | `(tactic| walk_at "env") => `(tactic| (conv => arg 4; simp only [List.map_cons, List.map_nil, AL.entOf, List.cons_append, List.nil_append, List.length_cons, List.length_nil, Nat.reduceAdd, Nat.reduceSub, List.replicate_succ, List.replicate_zero, Nat.zero_add]))
local macro_rules | `(tactic| walk_at "s") => `(tactic| (first | ((with_reducible show AL.EE _ _ _ _ _); walk_at "GEE") | ((with_reducible show AL.ET _ _ _ _ _); walk_at "GET") | ((with_reducible show AL.EW _ _ _ _ _); walk_at "GEW") | ((with_reducible show AL.ETs _ _ _ _ _); walk_at "GETs") | ((with_reducible show AL.EA _ _ _ _ _); walk_at "GEA") | ((with_reducible show AL.EK _ _ _ _ _); walk_at "GEK") | ((with_reducible show AL.EN _ _ _ _ _); walk_at "GEN") | ((with_reducible show AL.RA _ _ _ _ _ _ _); walk_at "GRA") | ((with_reducible show AL.RC _ _ _ _ _ _); walk_at "GRC") | ((with_reducible show AL.EI _ _ _ _ _ _); walk_at "GEI") | ((with_reducible show AL.AG _ _ _ _ _ _); walk_at "GAG") | ((with_reducible show AL.EG _ _ _ _ _ _); walk_at "GEG") | ((with_reducible show AL.EGs _ _ _ _ _ _); walk_at "GEGs") | ((with_reducible show AL.EGv _ _ _ _ _ _ _); walk_at "GEGv") | ((with_reducible show AL.EGsv _ _ _ _ _ _ _); walk_at "GEGsv") | ((with_reducible show AL.ESs _ _ _ _ _); walk_at "GESs") | ((with_reducible show AL.ES _ _ _ _ _); walk_at "GES") | ((with_reducible show AL.BR _ _ _); walk_at "GBR") | ((with_reducible show AL.AllC _ _); refine AL.allC_of fun _ => ?_) | ((with_reducible show AL.Bk _ _ _); intro _ _ _ _ _) | ((with_reducible show AL.Turns _ _ _ _ _ _ _ _ _ _ _); unfold AL.Turns) | ((with_reducible show AL.EI _ _ _ (PySem.Expr.Name _ _) _ _); first | (refine AL.ei_list ?_; walk_at "s"; refine AL.lf_iL (by walk_at "fz") ?_) | (refine AL.ei_tup ?_; walk_at "s"; refine ⟨_, rfl, ?_⟩)) | ((with_reducible show AL.EI _ _ _ (PySem.Expr.Call _ _ _ _) _ _); refine AL.ei_list ?_) | ((with_reducible show AL.Ae.nx _ _); refine AL.nx_mk ?_) | ((with_reducible show AL.Ae.rt _ _ _); refine AL.rt_mk ?_) | ((with_reducible show AL.Ae.bk _ _); refine AL.bk_mk ?_) | ((with_reducible show AL.Ae.ct _ _); refine AL.ct_mk ?_) | ((with_reducible show AL.Ae.rn _ _ _); refine AL.rn_mk ?_) | ((with_reducible show AL.Ret _ (AL.Av.d _) _); refine AL.ret_d ?_) | ((with_reducible show Exists _); walk_at "leaf") | ((with_reducible show _ ∧ _); walk_at "leaf")))
local macro_rules | `(tactic| walk_at "go") => `(tactic| (repeat' (walk_at "s")))
/-! ### is_integer -/
def isInt : PyData → Bool
  | .int _ => true
  | _ => false
abbrev N_is_integer : List Str := ["value"]
theorem sc_is_integer : FnScope N_is_integer ["value"] (defScope s_is_integer) := ⟨rfl, rfl, rfl, by decide +kernel, rfl, by decide +kernel, by decide +kernel⟩
def S_is_integer : Con := fun as r => ∃ d, notD d = true ∧ as = [.d d] ∧ r = .bool (isInt d)
theorem ok_is_integer {P : Program} {w : World} {K : PySem.W.Frag} {mg : Str → Option Value} {base : Heap} {f : Addr} {fd : FuncData} (FD : FnP K "is_integer" s_is_integer f fd) (b_isinstance : mg "isinstance" = none) (b_int : mg "int" = none) (b_bool : mg "bool" = none) : FnOk P w K mg base CX0 1 f fd ["value"] (spR K 1 S_is_integer) := by
  refine fn_ok FD sc_is_integer rfl ?_
  intro X e1 e2 e3 e4 e5 hp F C as r hS hl hW
  subst e1 e2 e3 e4 e5
  obtain ⟨d, nd, rfl, rfl⟩ := hS
  have n0 : Nm X 0 "value" := F.nm (by decide +kernel)
  have z_isinstance : Bn X "isinstance" := F.bn (by decide +kernel) b_isinstance
  have z_int : Bn X "int" := F.bn (by decide +kernel) b_int
  have z_bool : Bn X "bool" := F.bn (by decide +kernel) b_bool
  walk_at "text"
  walk_at "env"
  cases d <;> (walk_at "go")
  all_goals first | rfl | (cases nd; done) | skip
local macro_rules | `(tactic| walk_at "con") => `(tactic| ((with_reducible show S_is_integer _ _); unfold S_is_integer; exact ⟨_, by walk_at "nd", rfl, rfl⟩))
/-! ### in_range -/
def inRg : PyData → Int → Int → Bool
  | .int i, lo, hi => decide (lo ≤ i) && decide (i ≤ hi)
  | _, _, _ => false
abbrev N_in_range : List Str := ["value", "least", "most"]
theorem sc_in_range : FnScope N_in_range ["value", "least", "most"] (defScope s_in_range) := ⟨rfl, rfl, rfl, by decide +kernel, rfl, by decide +kernel, by decide +kernel⟩
def S_in_range : Con := fun as r => ∃ d lo hi, notD d = true ∧ as = [.d d, .d (.int lo), .d (.int hi)] ∧ r = .bool (inRg d lo hi)
theorem ok_in_range {P : Program} {w : World} {K : PySem.W.Frag} {mg : Str → Option Value} {base : Heap} {f : Addr} {fd : FuncData} (FD : FnP K "in_range" s_in_range f fd) (c_is_integer : Callable P w K mg base "is_integer" 1 (spR K 1 S_is_integer)) : FnOk P w K mg base CX0 2 f fd ["value", "least", "most"] (spR K 3 S_in_range) := by
  refine fn_ok FD sc_in_range rfl ?_
  intro X e1 e2 e3 e4 e5 hp F C as r hS hl hW
  subst e1 e2 e3 e4 e5
  obtain ⟨d, lo, hi, nd, rfl, rfl⟩ := hS
  have n0 : Nm X 0 "value" := F.nm (by decide +kernel)
  have n1 : Nm X 1 "least" := F.nm (by decide +kernel)
  have n2 : Nm X 2 "most" := F.nm (by decide +kernel)
  have g_is_integer : Gn X "is_integer" := F.gn (by decide +kernel)
  have d_is_integer : Cal X "is_integer" 1 (spR X.K 1 S_is_integer) := c_is_integer.mono (by decide)
  walk_at "text"
  walk_at "env"
  cases d <;> (walk_at "go")
  all_goals first | rfl | (simp [inRg]; omega) | (cases nd; done) | (simp_all [inRg])
local macro_rules | `(tactic| walk_at "con") => `(tactic| ((with_reducible show S_in_range _ _); unfold S_in_range; exact ⟨_, _, _, by walk_at "nd", rfl, rfl⟩))
/-! ### gcd -/
abbrev N_gcd : List Str := ["one", "other"]
theorem sc_gcd : FnScope N_gcd ["one", "other"] (defScope s_gcd) := ⟨rfl, rfl, rfl, by decide +kernel, rfl, by decide +kernel, by decide +kernel⟩
def S_gcd : Con := fun as r => ∃ a b : Int, as = [.d (.int a), .d (.int b)] ∧ r = .int (Int.gcd a b)
theorem ok_gcd {P : Program} {w : World} {K : PySem.W.Frag} {mg : Str → Option Value} {base : Heap} {f : Addr} {fd : FuncData} (FD : FnP K "gcd" s_gcd f fd) (b_abs : mg "abs" = none) : FnOk P w K mg base CX0 1 f fd ["one", "other"] (spR K 2 S_gcd) := by
  refine fn_ok FD sc_gcd rfl ?_
  intro X e1 e2 e3 e4 e5 hp F C as r hS hl hW
  subst e1 e2 e3 e4 e5
  obtain ⟨a, b, rfl, rfl⟩ := hS
  have n0 : Nm X 0 "one" := F.nm (by decide +kernel)
  have l0 : Lc X 0 "one" := F.lc (by decide +kernel)
  have n1 : Nm X 1 "other" := F.nm (by decide +kernel)
  have l1 : Lc X 1 "other" := F.lc (by decide +kernel)
  have z_abs : Bn X "abs" := F.bn (by decide +kernel) b_abs
  walk_at "text"
  walk_at "env"
  walk_at "go"
  refine AL.es_while hp (fun m g => ∃ x y : Nat, g = [.im (.int x), .im (.int y)] ∧ x.gcd y = a.gcd b ∧ m = y) ⟨_, a.natAbs, b.natAbs, by rw [AL.abs_if, AL.abs_if], rfl, rfl⟩ ?_
  rintro m g ⟨x, y, rfl, e, rfl⟩
  walk_at "go"
  · have hm : m = 0 := by omega
    subst hm
    rw [Nat.gcd_zero_right] at e
    rw [e]
  · refine ⟨x % m, Nat.mod_lt _ (by omega), m, x % m, by rw [Int.natCast_emod], ?_, rfl⟩
    rw [Nat.gcd_comm, ← Nat.gcd_rec, Nat.gcd_comm]; exact e
local macro_rules | `(tactic| walk_at "con") => `(tactic| ((with_reducible show S_gcd _ _); unfold S_gcd; exact ⟨_, _, rfl, rfl⟩))
/-! ### is_fraction -/
abbrev N_is_fraction : List Str := ["value"]
theorem sc_is_fraction : FnScope N_is_fraction ["value"] (defScope s_is_fraction) := ⟨rfl, rfl, rfl, by decide +kernel, rfl, by decide +kernel, by decide +kernel⟩
def S_is_fraction : Con := fun as r => ∃ q : Rat, as = [.d (fr q)] ∧ r = .bool true
theorem ok_is_fraction {P : Program} {w : World} {K : PySem.W.Frag} {mg : Str → Option Value} {base : Heap} {f : Addr} {fd : FuncData} (FD : FnP K "is_fraction" s_is_fraction f fd) (c_is_integer : Callable P w K mg base "is_integer" 1 (spR K 1 S_is_integer)) (c_gcd : Callable P w K mg base "gcd" 1 (spR K 2 S_gcd)) (b_isinstance : mg "isinstance" = none) (b_tuple : mg "tuple" = none) (b_len : mg "len" = none) : FnOk P w K mg base CX0 2 f fd ["value"] (spR K 1 S_is_fraction) := by
  refine fn_ok FD sc_is_fraction rfl ?_
  intro X e1 e2 e3 e4 e5 hp F C as r hS hl hW
  subst e1 e2 e3 e4 e5
  obtain ⟨q, rfl, rfl⟩ := hS
  have hd := den_pos q
  have hg : ((Int.gcd q.num q.den : Nat) : Int) = 1 := by have := q.reduced; show ((Nat.gcd q.num.natAbs q.den : Nat) : Int) = 1; rw [this]; rfl
  have n0 : Nm X 0 "value" := F.nm (by decide +kernel)
  have g_is_integer : Gn X "is_integer" := F.gn (by decide +kernel)
  have g_gcd : Gn X "gcd" := F.gn (by decide +kernel)
  have d_is_integer : Cal X "is_integer" 1 (spR X.K 1 S_is_integer) := c_is_integer.mono (by decide)
  have d_gcd : Cal X "gcd" 1 (spR X.K 2 S_gcd) := c_gcd.mono (by decide)
  have z_isinstance : Bn X "isinstance" := F.bn (by decide +kernel) b_isinstance
  have z_tuple : Bn X "tuple" := F.bn (by decide +kernel) b_tuple
  have z_len : Bn X "len" := F.bn (by decide +kernel) b_len
  walk_at "text"
  walk_at "env"
  walk_at "go"
  · rw [decide_eq_true hg]
  · exact absurd hd (by assumption)
  · exact absurd (show (([PyData.none, PyData.none] : List PyData).length : Int) = 2 from rfl) (by assumption)
local macro_rules | `(tactic| walk_at "con") => `(tactic| ((with_reducible show S_is_fraction _ _); unfold S_is_fraction; exact ⟨_, rfl, rfl⟩))
/-! ### reduced -/
abbrev N_reduced : List Str := ["top", "bottom", "both"]
theorem sc_reduced : FnScope N_reduced ["top", "bottom"] (defScope s_reduced) := ⟨rfl, rfl, rfl, by decide +kernel, rfl, by decide +kernel, by decide +kernel⟩
def S_reduced : Con := fun as r => ∃ a b : Int, as = [.d (.int a), .d (.int b)] ∧ 0 < b ∧ Bt 8999 b ∧ r = fr (Rat.divInt a b)
theorem ok_reduced {P : Program} {w : World} {K : PySem.W.Frag} {mg : Str → Option Value} {base : Heap} {f : Addr} {fd : FuncData} (FD : FnP K "reduced" s_reduced f fd) (c_gcd : Callable P w K mg base "gcd" 1 (spR K 2 S_gcd)) : FnOk P w K mg base CX0 2 f fd ["top", "bottom"] (spR K 2 S_reduced) := by
  refine fn_ok FD sc_reduced rfl ?_
  intro X e1 e2 e3 e4 e5 hp F C as r hS hl hW
  subst e1 e2 e3 e4 e5
  obtain ⟨a, b, rfl, hb, hz, rfl⟩ := hS
  have h1 := gcd_pos (a := a) hb
  have h2 := Bt.gcd (a := a) hz hb
  have n0 : Nm X 0 "top" := F.nm (by decide +kernel)
  have n1 : Nm X 1 "bottom" := F.nm (by decide +kernel)
  have n2 : Nm X 2 "both" := F.nm (by decide +kernel)
  have l2 : Lc X 2 "both" := F.lc (by decide +kernel)
  have g_gcd : Gn X "gcd" := F.gn (by decide +kernel)
  have d_gcd : Cal X "gcd" 1 (spR X.K 2 S_gcd) := c_gcd.mono (by decide)
  walk_at "text"
  walk_at "env"
  walk_at "go"
  exact fr_mk a b hb
local macro_rules | `(tactic| walk_at "con") => `(tactic| ((with_reducible show S_reduced _ _); unfold S_reduced; exact ⟨_, _, rfl, by walk_at "pf", by walk_at "pf", rfl⟩))
/-! ### fraction_sum -/
abbrev N_fraction_sum : List Str := ["one", "other"]
theorem sc_fraction_sum : FnScope N_fraction_sum ["one", "other"] (defScope s_fraction_sum) := ⟨rfl, rfl, rfl, by decide +kernel, rfl, by decide +kernel, by decide +kernel⟩
def S_fraction_sum : Con := fun as r => ∃ a b c d : Int, as = [.d (.tuple [.int a, .int b]), .d (.tuple [.int c, .int d])] ∧ (0 < b ∧ 0 < d) ∧ (Bt 4400 a ∧ Bt 4400 b) ∧ (Bt 4400 c ∧ Bt 4400 d) ∧ r = fr (Rat.divInt (a * d + c * b) (b * d))
theorem ok_fraction_sum {P : Program} {w : World} {K : PySem.W.Frag} {mg : Str → Option Value} {base : Heap} {f : Addr} {fd : FuncData} (FD : FnP K "fraction_sum" s_fraction_sum f fd) (c_reduced : Callable P w K mg base "reduced" 2 (spR K 2 S_reduced)) : FnOk P w K mg base CX0 3 f fd ["one", "other"] (spR K 2 S_fraction_sum) := by
  refine fn_ok FD sc_fraction_sum rfl ?_
  intro X e1 e2 e3 e4 e5 hp F C as r hS hl hW
  subst e1 e2 e3 e4 e5
  obtain ⟨a, b, c, d, rfl, ⟨hb, hd⟩, ⟨z1, z2⟩, ⟨z3, z4⟩, rfl⟩ := hS
  have h1 : 0 < b * d := Int.mul_pos hb hd
  have h2 : Bt 8999 (b * d) := (z2.mul z4).mono (by decide)
  have n0 : Nm X 0 "one" := F.nm (by decide +kernel)
  have n1 : Nm X 1 "other" := F.nm (by decide +kernel)
  have g_reduced : Gn X "reduced" := F.gn (by decide +kernel)
  have d_reduced : Cal X "reduced" 2 (spR X.K 2 S_reduced) := c_reduced.mono (by decide)
  walk_at "text"
  walk_at "env"
  walk_at "go"
  rfl
local macro_rules | `(tactic| walk_at "con") => `(tactic| ((with_reducible show S_fraction_sum _ _); unfold S_fraction_sum; exact ⟨_, _, _, _, rfl, ⟨by walk_at "pf", by walk_at "pf"⟩, ⟨by walk_at "pf", by walk_at "pf"⟩, ⟨by walk_at "pf", by walk_at "pf"⟩, rfl⟩))
/-! ### fraction_product -/
abbrev N_fraction_product : List Str := ["one", "other"]
theorem sc_fraction_product : FnScope N_fraction_product ["one", "other"] (defScope s_fraction_product) := ⟨rfl, rfl, rfl, by decide +kernel, rfl, by decide +kernel, by decide +kernel⟩
def S_fraction_product : Con := fun as r => ∃ a b c d : Int, as = [.d (.tuple [.int a, .int b]), .d (.tuple [.int c, .int d])] ∧ (0 < b ∧ 0 < d) ∧ (Bt 4400 a ∧ Bt 4400 b) ∧ (Bt 4400 c ∧ Bt 4400 d) ∧ r = fr (Rat.divInt (a * c) (b * d))
theorem ok_fraction_product {P : Program} {w : World} {K : PySem.W.Frag} {mg : Str → Option Value} {base : Heap} {f : Addr} {fd : FuncData} (FD : FnP K "fraction_product" s_fraction_product f fd) (c_reduced : Callable P w K mg base "reduced" 2 (spR K 2 S_reduced)) : FnOk P w K mg base CX0 3 f fd ["one", "other"] (spR K 2 S_fraction_product) := by
  refine fn_ok FD sc_fraction_product rfl ?_
  intro X e1 e2 e3 e4 e5 hp F C as r hS hl hW
  subst e1 e2 e3 e4 e5
  obtain ⟨a, b, c, d, rfl, ⟨hb, hd⟩, ⟨z1, z2⟩, ⟨z3, z4⟩, rfl⟩ := hS
  have h1 : 0 < b * d := Int.mul_pos hb hd
  have h2 : Bt 8999 (b * d) := (z2.mul z4).mono (by decide)
  have n0 : Nm X 0 "one" := F.nm (by decide +kernel)
  have n1 : Nm X 1 "other" := F.nm (by decide +kernel)
  have g_reduced : Gn X "reduced" := F.gn (by decide +kernel)
  have d_reduced : Cal X "reduced" 2 (spR X.K 2 S_reduced) := c_reduced.mono (by decide)
  walk_at "text"
  walk_at "env"
  walk_at "go"
  rfl
local macro_rules | `(tactic| walk_at "con") => `(tactic| ((with_reducible show S_fraction_product _ _); unfold S_fraction_product; exact ⟨_, _, _, _, rfl, ⟨by walk_at "pf", by walk_at "pf"⟩, ⟨by walk_at "pf", by walk_at "pf"⟩, ⟨by walk_at "pf", by walk_at "pf"⟩, rfl⟩))
/-! ### is_lower -/
abbrev N_is_lower : List Str := ["one", "other"]
theorem sc_is_lower : FnScope N_is_lower ["one", "other"] (defScope s_is_lower) := ⟨rfl, rfl, rfl, by decide +kernel, rfl, by decide +kernel, by decide +kernel⟩
def S_is_lower : Con := fun as r => ∃ a b c d : Int, as = [.d (.tuple [.int a, .int b]), .d (.tuple [.int c, .int d])] ∧ (Bt 4400 a ∧ Bt 4400 b) ∧ (Bt 4400 c ∧ Bt 4400 d) ∧ r = .bool (decide (a * d < c * b))
theorem ok_is_lower {P : Program} {w : World} {K : PySem.W.Frag} {mg : Str → Option Value} {base : Heap} {f : Addr} {fd : FuncData} (FD : FnP K "is_lower" s_is_lower f fd) : FnOk P w K mg base CX0 1 f fd ["one", "other"] (spR K 2 S_is_lower) := by
  refine fn_ok FD sc_is_lower rfl ?_
  intro X e1 e2 e3 e4 e5 hp F C as r hS hl hW
  subst e1 e2 e3 e4 e5
  obtain ⟨a, b, c, d, rfl, ⟨z1, z2⟩, ⟨z3, z4⟩, rfl⟩ := hS
  have n0 : Nm X 0 "one" := F.nm (by decide +kernel)
  have n1 : Nm X 1 "other" := F.nm (by decide +kernel)
  walk_at "text"
  walk_at "env"
  walk_at "go"
  rfl
local macro_rules | `(tactic| walk_at "con") => `(tactic| ((with_reducible show S_is_lower _ _); unfold S_is_lower; exact ⟨_, _, _, _, rfl, ⟨by walk_at "pf", by walk_at "pf"⟩, ⟨by walk_at "pf", by walk_at "pf"⟩, rfl⟩))
/-! ### is_valid_size -/
abbrev N_is_valid_size : List Str := ["value"]
theorem sc_is_valid_size : FnScope N_is_valid_size ["value"] (defScope s_is_valid_size) := ⟨rfl, rfl, rfl, by decide +kernel, rfl, by decide +kernel, by decide +kernel⟩
def S_is_valid_size : Con := fun as r => ∃ d, notD d = true ∧ as = [.d d] ∧ r = .bool (inRg d 1 99)
theorem ok_is_valid_size {P : Program} {w : World} {K : PySem.W.Frag} {mg : Str → Option Value} {base : Heap} {f : Addr} {fd : FuncData} (FD : FnP K "is_valid_size" s_is_valid_size f fd) (c_in_range : Callable P w K mg base "in_range" 2 (spR K 3 S_in_range)) (i_MAX_SIZE : ∃ t, mg "MAX_SIZE" = some (.int 99 t)) : FnOk P w K mg base CX0 3 f fd ["value"] (spR K 1 S_is_valid_size) := by
  refine fn_ok FD sc_is_valid_size rfl ?_
  intro X e1 e2 e3 e4 e5 hp F C as r hS hl hW
  subst e1 e2 e3 e4 e5
  obtain ⟨d, nd, rfl, rfl⟩ := hS
  have n0 : Nm X 0 "value" := F.nm (by decide +kernel)
  have g_in_range : Gn X "in_range" := F.gn (by decide +kernel)
  have d_in_range : Cal X "in_range" 2 (spR X.K 3 S_in_range) := c_in_range.mono (by decide)
  have g_MAX_SIZE : Gn X "MAX_SIZE" := F.gn (by decide +kernel)
  obtain ⟨t_MAX_SIZE, j_MAX_SIZE⟩ := i_MAX_SIZE
  walk_at "text"
  walk_at "env"
  walk_at "go"
  rfl
local macro_rules | `(tactic| walk_at "con") => `(tactic| ((with_reducible show S_is_valid_size _ _); unfold S_is_valid_size; exact ⟨_, by walk_at "nd", rfl, rfl⟩))
/-! ### is_valid_block -/
abbrev N_is_valid_block : List Str := ["value"]
theorem sc_is_valid_block : FnScope N_is_valid_block ["value"] (defScope s_is_valid_block) := ⟨rfl, rfl, rfl, by decide +kernel, rfl, by decide +kernel, by decide +kernel⟩
def S_is_valid_block : Con := fun as r => ∃ b : Bl, Sz b.1 ∧ as = [.d (blk b)] ∧ r = .bool true
theorem ok_is_valid_block {P : Program} {w : World} {K : PySem.W.Frag} {mg : Str → Option Value} {base : Heap} {f : Addr} {fd : FuncData} (FD : FnP K "is_valid_block" s_is_valid_block f fd) (c_is_valid_size : Callable P w K mg base "is_valid_size" 3 (spR K 1 S_is_valid_size)) (c_is_fraction : Callable P w K mg base "is_fraction" 2 (spR K 1 S_is_fraction)) (b_isinstance : mg "isinstance" = none) (b_tuple : mg "tuple" = none) (b_len : mg "len" = none) : FnOk P w K mg base CX0 4 f fd ["value"] (spR K 1 S_is_valid_block) := by
  refine fn_ok FD sc_is_valid_block rfl ?_
  intro X e1 e2 e3 e4 e5 hp F C as r hS hl hW
  subst e1 e2 e3 e4 e5
  obtain ⟨b, hb, rfl, rfl⟩ := hS
  have hs : inRg (.int b.1) 1 99 = true := by unfold Sz at hb; simp [inRg]; omega
  have n0 : Nm X 0 "value" := F.nm (by decide +kernel)
  have g_is_valid_size : Gn X "is_valid_size" := F.gn (by decide +kernel)
  have g_is_fraction : Gn X "is_fraction" := F.gn (by decide +kernel)
  have d_is_valid_size : Cal X "is_valid_size" 3 (spR X.K 1 S_is_valid_size) := c_is_valid_size.mono (by decide)
  have d_is_fraction : Cal X "is_fraction" 3 (spR X.K 1 S_is_fraction) := c_is_fraction.mono (by decide)
  have z_isinstance : Bn X "isinstance" := F.bn (by decide +kernel) b_isinstance
  have z_tuple : Bn X "tuple" := F.bn (by decide +kernel) b_tuple
  have z_len : Bn X "len" := F.bn (by decide +kernel) b_len
  walk_at "text"
  walk_at "env"
  walk_at "go"
  · rfl
  · exact absurd (show (([PyData.none, PyData.none] : List PyData).length : Int) = 2 from rfl) (by assumption)
local macro_rules | `(tactic| walk_at "con") => `(tactic| ((with_reducible show S_is_valid_block _ _); unfold S_is_valid_block; exact ⟨_, by walk_at "pf", rfl, rfl⟩))
/-! ### check_each -/
abbrev N_check_each : List Str := ["value", "is_one", "number", "one"]
theorem sc_check_each : FnScope N_check_each ["value", "is_one"] (defScope s_check_each) := ⟨rfl, rfl, rfl, by decide +kernel, rfl, by decide +kernel, by decide +kernel⟩
def S_check_each (P : Program) (w : World) (K : PySem.W.Frag) (mg : Str → Option Value) (base : Heap) : Con := fun as r => ∃ ds v S, as = [.d (.tuple ds), .v v] ∧ HeldF P w K mg base 4 v (spR K 1 S) ∧ (∀ d ∈ ds, S [.d d] (.bool true)) ∧ 1 ≤ ds.length ∧ ds.length ≤ 12 ∧ r = .none
theorem ok_check_each {P : Program} {w : World} {K : PySem.W.Frag} {mg : Str → Option Value} {base : Heap} {f : Addr} {fd : FuncData} (FD : FnP K "check_each" s_check_each f fd) (i_MAX_BLOCKS : ∃ t, mg "MAX_BLOCKS" = some (.int 12 t)) (b_isinstance : mg "isinstance" = none) (b_tuple : mg "tuple" = none) (b_len : mg "len" = none) (b_enumerate : mg "enumerate" = none) : FnOk P w K mg base CX0 5 f fd ["value", "is_one"] (spR K 2 (S_check_each P w K mg base)) := by
  refine fn_ok FD sc_check_each rfl ?_
  intro X e1 e2 e3 e4 e5 hp F C as r hS hl hW
  subst e1 e2 e3 e4 e5
  obtain ⟨ds, v, S, rfl, hv, hall, h1, h2, rfl⟩ := hS
  have n0 : Nm X 0 "value" := F.nm (by decide +kernel)
  have n1 : Nm X 1 "is_one" := F.nm (by decide +kernel)
  have n2 : Nm X 2 "number" := F.nm (by decide +kernel)
  have l2 : Lc X 2 "number" := F.lc (by decide +kernel)
  have n3 : Nm X 3 "one" := F.nm (by decide +kernel)
  have l3 : Lc X 3 "one" := F.lc (by decide +kernel)
  have g_MAX_BLOCKS : Gn X "MAX_BLOCKS" := F.gn (by decide +kernel)
  obtain ⟨t_MAX_BLOCKS, j_MAX_BLOCKS⟩ := i_MAX_BLOCKS
  have z_isinstance : Bn X "isinstance" := F.bn (by decide +kernel) b_isinstance
  have z_tuple : Bn X "tuple" := F.bn (by decide +kernel) b_tuple
  have z_len : Bn X "len" := F.bn (by decide +kernel) b_len
  have z_enumerate : Bn X "enumerate" := F.bn (by decide +kernel) b_enumerate
  walk_at "text"
  walk_at "env"
  walk_at "go"
  all_goals try (exfalso; omega)
  refine AL.es_for hp (by walk_at "calm") ?_
  walk_at "go"
  refine ⟨fun i g => ∃ e2 e3, g = [.im (.tuple ds), .vl v, e2, e3], ⟨_, _, rfl⟩, ?_, ?_⟩
  · rintro i d g' e ⟨e2, e3, rfl⟩
    obtain ⟨d, e1, rfl⟩ := enumD_get e
    have hd : S [.d d] (.bool true) := hall d (List.mem_of_getElem? e1)
    walk_at "go"
    exact ⟨_, _, rfl⟩
  · rintro g' ⟨e2, e3, rfl⟩
    walk_at "go"
    rfl
local macro_rules | `(tactic| walk_at "con") => `(tactic| ((with_reducible show S_check_each _ _ _ _ _ _ _); unfold S_check_each; exact ⟨_, _, _, rfl, by walk_at "held", by walk_at "pf", by walk_at "pf", by walk_at "pf", rfl⟩))
/-! ### check_state -/
abbrev N_check_state : List Str := ["value"]
theorem sc_check_state : FnScope N_check_state ["value"] (defScope s_check_state) := ⟨rfl, rfl, rfl, by decide +kernel, rfl, by decide +kernel, by decide +kernel⟩
def S_check_state : Con := fun as r => ∃ L n, as = [.d (stD L)] ∧ OkSt n L ∧ r = .none
theorem ok_check_state {P : Program} {w : World} {K : PySem.W.Frag} {mg : Str → Option Value} {base : Heap} {f : Addr} {fd : FuncData} (FD : FnP K "check_state" s_check_state f fd) (c_check_each : Callable P w K mg base "check_each" 5 (spR K 2 (S_check_each P w K mg base))) (c_is_valid_block : Callable P w K mg base "is_valid_block" 4 (spR K 1 S_is_valid_block)) : FnOk P w K mg base CX0 6 f fd ["value"] (spR K 1 S_check_state) := by
  refine fn_ok FD sc_check_state rfl ?_
  intro X e1 e2 e3 e4 e5 hp F C as r hS hl hW
  subst e1 e2 e3 e4 e5
  obtain ⟨L, n, rfl, O, rfl⟩ := hS
  have h1 : 1 ≤ (L.map blk).length := by rw [List.length_map]; exact O.one
  have h2 : (L.map blk).length ≤ 12 := by rw [List.length_map]; exact O.most
  have hall : ∀ d ∈ L.map blk, S_is_valid_block [.d d] (.bool true) := fun d hd => by
    obtain ⟨b, hb, rfl⟩ := List.mem_map.mp hd
    exact ⟨b, (O.each b hb).1, rfl, rfl⟩
  have n0 : Nm X 0 "value" := F.nm (by decide +kernel)
  have g_check_each : Gn X "check_each" := F.gn (by decide +kernel)
  have g_is_valid_block : Gn X "is_valid_block" := F.gn (by decide +kernel)
  have d_check_each : Cal X "check_each" 5 (spR X.K 2 (S_check_each X.prog X.w X.K X.mg X.base)) := c_check_each.mono (by decide)
  have d_is_valid_block : Cal X "is_valid_block" 5 (spR X.K 1 S_is_valid_block) := c_is_valid_block.mono (by decide)
  obtain ⟨a_is_valid_block, m_is_valid_block, h_is_valid_block⟩ := c_is_valid_block.held
  walk_at "text"
  walk_at "env"
  walk_at "go"
  rfl
local macro_rules | `(tactic| walk_at "con") => `(tactic| ((with_reducible show S_check_state _ _); unfold S_check_state; exact ⟨_, _, rfl, by walk_at "pf", rfl⟩))
/-! ### check_block -/
abbrev N_check_block : List Str := ["many", "value"]
theorem sc_check_block : FnScope N_check_block ["many", "value"] (defScope s_check_block) := ⟨rfl, rfl, rfl, by decide +kernel, rfl, by decide +kernel, by decide +kernel⟩
def S_check_block : Con := fun as r => ∃ m i : Int, as = [.d (.int m), .d (.int i)] ∧ 0 ≤ i ∧ i < m ∧ r = .none
theorem ok_check_block {P : Program} {w : World} {K : PySem.W.Frag} {mg : Str → Option Value} {base : Heap} {f : Addr} {fd : FuncData} (FD : FnP K "check_block" s_check_block f fd) (c_in_range : Callable P w K mg base "in_range" 2 (spR K 3 S_in_range)) : FnOk P w K mg base CX0 3 f fd ["many", "value"] (spR K 2 S_check_block) := by
  refine fn_ok FD sc_check_block rfl ?_
  intro X e1 e2 e3 e4 e5 hp F C as r hS hl hW
  subst e1 e2 e3 e4 e5
  obtain ⟨m, i, rfl, h1, h2, rfl⟩ := hS
  have hr : (!inRg (.int i) 0 (m - 1)) = false := by simp [inRg]; omega
  have n0 : Nm X 0 "many" := F.nm (by decide +kernel)
  have n1 : Nm X 1 "value" := F.nm (by decide +kernel)
  have g_in_range : Gn X "in_range" := F.gn (by decide +kernel)
  have d_in_range : Cal X "in_range" 2 (spR X.K 3 S_in_range) := c_in_range.mono (by decide)
  walk_at "text"
  walk_at "env"
  walk_at "go"
  rfl
local macro_rules | `(tactic| walk_at "con") => `(tactic| ((with_reducible show S_check_block _ _); unfold S_check_block; exact ⟨_, _, rfl, by walk_at "pf", by walk_at "pf", rfl⟩))
/-! ### mixed_temperature -/
abbrev N_mixed_temperature : List Str := ["one", "other", "both"]
theorem sc_mixed_temperature : FnScope N_mixed_temperature ["one", "other"] (defScope s_mixed_temperature) := ⟨rfl, rfl, rfl, by decide +kernel, rfl, by decide +kernel, by decide +kernel⟩
def S_mixed_temperature : Con := fun as r => ∃ (s p : Int) (t u : Rat), as = [.d (.tuple [.int s, fr t]), .d (.tuple [.int p, fr u])] ∧ Sz s ∧ Sz p ∧ Rb 4000 t ∧ Rb 4000 u ∧ r = fr (mix s t p u)
theorem ok_mixed_temperature {P : Program} {w : World} {K : PySem.W.Frag} {mg : Str → Option Value} {base : Heap} {f : Addr} {fd : FuncData} (FD : FnP K "mixed_temperature" s_mixed_temperature f fd) (c_fraction_sum : Callable P w K mg base "fraction_sum" 3 (spR K 2 S_fraction_sum)) (c_fraction_product : Callable P w K mg base "fraction_product" 3 (spR K 2 S_fraction_product)) (c_reduced : Callable P w K mg base "reduced" 2 (spR K 2 S_reduced)) : FnOk P w K mg base CX0 4 f fd ["one", "other"] (spR K 2 S_mixed_temperature) := by
  refine fn_ok FD sc_mixed_temperature rfl ?_
  intro X e1 e2 e3 e4 e5 hp F C as r hS hl hW
  subst e1 e2 e3 e4 e5
  obtain ⟨s, p, t, u, rfl, hs, hp', ht, hu, rfl⟩ := hS
  have bs : Bt 4400 s := (show Bt 7 s by unfold Sz at hs; unfold Bt; omega).mono (by decide)
  have bp : Bt 4400 p := (show Bt 7 p by unfold Sz at hp'; unfold Bt; omega).mono (by decide)
  have b1 : Bt 4400 1 := by unfold Bt; exact Nat.one_lt_two_pow (by decide)
  have bsp : Bt 8 (s + p) := by unfold Sz at hs hp'; unfold Bt; omega
  have t1 := ht.1.mono (m := 4400) (by decide)
  have t2 := ht.2.mono (m := 4400) (by decide)
  have u1 := hu.1.mono (m := 4400) (by decide)
  have u2 := hu.2.mono (m := 4400) (by decide)
  have td := den_pos t
  have ud := den_pos u
  have o1 : (0 : Int) < 1 := by decide
  have A : Rb 4007 (Rat.divInt (s * t.num) (1 * (t.den : Int))) := by
    rw [di_cmul]; exact (Rb.cmul (n := 7) (by unfold Sz at hs; unfold Bt; omega) ht).mono (by decide)
  have B : Rb 4007 (Rat.divInt (p * u.num) (1 * (u.den : Int))) := by
    rw [di_cmul]; exact (Rb.cmul (n := 7) (by unfold Sz at hp'; unfold Bt; omega) hu).mono (by decide)
  have a1 := A.1.mono (m := 4400) (by decide)
  have a2 := A.2.mono (m := 4400) (by decide)
  have a3 := den_pos (Rat.divInt (s * t.num) (1 * (t.den : Int)))
  have c1 := B.1.mono (m := 4400) (by decide)
  have c2 := B.2.mono (m := 4400) (by decide)
  have c3 := den_pos (Rat.divInt (p * u.num) (1 * (u.den : Int)))
  have E : Rat.divInt ((Rat.divInt (s * t.num) (1 * (t.den : Int))).num * ((Rat.divInt (p * u.num) (1 * (u.den : Int))).den : Int) + (Rat.divInt (p * u.num) (1 * (u.den : Int))).num * ((Rat.divInt (s * t.num) (1 * (t.den : Int))).den : Int)) (((Rat.divInt (s * t.num) (1 * (t.den : Int))).den : Int) * ((Rat.divInt (p * u.num) (1 * (u.den : Int))).den : Int)) = (s : Rat) * t + (p : Rat) * u := by
    rw [di_add, di_cmul, di_cmul]
  have G : Rb 8100 ((s : Rat) * t + (p : Rat) * u) := by
    rw [← di_cmul, ← di_cmul]; exact (Rb.add A B).mono (by decide)
  rw [← E] at G
  have g1 := G.1
  have g2 := G.2
  have g3 := den_pos (Rat.divInt ((Rat.divInt (s * t.num) (1 * (t.den : Int))).num * ((Rat.divInt (p * u.num) (1 * (u.den : Int))).den : Int) + (Rat.divInt (p * u.num) (1 * (u.den : Int))).num * ((Rat.divInt (s * t.num) (1 * (t.den : Int))).den : Int)) (((Rat.divInt (s * t.num) (1 * (t.den : Int))).den : Int) * ((Rat.divInt (p * u.num) (1 * (u.den : Int))).den : Int)))
  have g4 := Int.mul_pos g3 (show 0 < s + p by unfold Sz at hs hp'; omega)
  have g5 := (g2.mul bsp).mono (m := 8999) (by decide)
  have n0 : Nm X 0 "one" := F.nm (by decide +kernel)
  have n1 : Nm X 1 "other" := F.nm (by decide +kernel)
  have n2 : Nm X 2 "both" := F.nm (by decide +kernel)
  have l2 : Lc X 2 "both" := F.lc (by decide +kernel)
  have g_fraction_sum : Gn X "fraction_sum" := F.gn (by decide +kernel)
  have g_fraction_product : Gn X "fraction_product" := F.gn (by decide +kernel)
  have g_reduced : Gn X "reduced" := F.gn (by decide +kernel)
  have d_fraction_sum : Cal X "fraction_sum" 3 (spR X.K 2 S_fraction_sum) := c_fraction_sum.mono (by decide)
  have d_fraction_product : Cal X "fraction_product" 3 (spR X.K 2 S_fraction_product) := c_fraction_product.mono (by decide)
  have d_reduced : Cal X "reduced" 3 (spR X.K 2 S_reduced) := c_reduced.mono (by decide)
  walk_at "text"
  walk_at "env"
  walk_at "go"
  rw [E, di_div]
  rfl
local macro_rules | `(tactic| walk_at "con") => `(tactic| ((with_reducible show S_mixed_temperature _ _); unfold S_mixed_temperature; exact ⟨_, _, _, _, rfl, by walk_at "pf", by walk_at "pf", by walk_at "pf", by walk_at "pf", rfl⟩))
/-! ### state_after -/
abbrev N_state_after : List Str := ["state", "one", "other", "temperature", "number", "size", "own"]
theorem sc_state_after : FnScope N_state_after ["state", "one", "other"] (defScope s_state_after) := ⟨rfl, rfl, rfl, by decide +kernel, rfl, by decide +kernel, by decide +kernel⟩
def S_state_after : Con := fun as r => ∃ L i j, as = [.d (stD L), .d (.int (i : Nat)), .d (.int (j : Nat))] ∧ OkSt 1900 L ∧ i < L.length ∧ j < L.length ∧ i ≠ j ∧ r = stD (tchS L i j)
theorem ok_state_after {P : Program} {w : World} {K : PySem.W.Frag} {mg : Str → Option Value} {base : Heap} {f : Addr} {fd : FuncData} (FD : FnP K "state_after" s_state_after f fd) (c_mixed_temperature : Callable P w K mg base "mixed_temperature" 4 (spR K 2 S_mixed_temperature)) (b_tuple : mg "tuple" = none) (b_enumerate : mg "enumerate" = none) : FnOk P w K mg base CX0 5 f fd ["state", "one", "other"] (spR K 3 S_state_after) := by
  refine fn_ok FD sc_state_after rfl ?_
  intro X e1 e2 e3 e4 e5 hp F C as r hS hl hW
  subst e1 e2 e3 e4 e5
  obtain ⟨L, i, j, rfl, O, hi, hj, hij, rfl⟩ := hS
  have s1 := O.sz hi
  have s2 := O.sz hj
  have t1 := (O.rb hi).mono (m := 4000) (by decide)
  have t2 := (O.rb hj).mono (m := 4000) (by decide)
  have n0 : Nm X 0 "state" := F.nm (by decide +kernel)
  have n1 : Nm X 1 "one" := F.nm (by decide +kernel)
  have n2 : Nm X 2 "other" := F.nm (by decide +kernel)
  have n3 : Nm X 3 "temperature" := F.nm (by decide +kernel)
  have l3 : Lc X 3 "temperature" := F.lc (by decide +kernel)
  have o4 : IxN N_state_after 4 "number" := rfl
  have o5 : IxN N_state_after 5 "size" := rfl
  have o6 : IxN N_state_after 6 "own" := rfl
  have g_mixed_temperature : Gn X "mixed_temperature" := F.gn (by decide +kernel)
  have d_mixed_temperature : Cal X "mixed_temperature" 4 (spR X.K 2 S_mixed_temperature) := c_mixed_temperature.mono (by decide)
  have z_tuple : Bn X "tuple" := F.bn (by decide +kernel) b_tuple
  have z_enumerate : Bn X "enumerate" := F.bn (by decide +kernel) b_enumerate
  walk_at "text"
  walk_at "env"
  walk_at "go"
  refine AL.ee_en (AL.en_lc F [("number", 4), ("size", 5), ("own", 6)] (by decide +kernel) ?_)
  walk_at "go"
  refine AL.lcMap (rs := (tchS L i j).map blk) (by walk_at "wipe") (by rw [enumD_len, List.length_map, List.length_map, tchS_len]) (by rw [enumD_len, List.length_map]; have := O.most; omega) ?_ ?_
  · intro C' k d e
    obtain ⟨d0, e1, rfl⟩ := enumD_get e
    rw [List.getElem?_map, Option.map_eq_some_iff] at e1
    obtain ⟨p, e1, rfl⟩ := e1
    obtain ⟨hk, hp1, hp2⟩ := blk_at e1
    walk_at "go"
    · rename_i h
      exact ⟨by rw [tchS_at hk, if_pos (by omega), hp1], by walk_at "wk"⟩
    · rename_i h
      exact ⟨by rw [tchS_at hk, if_neg (by omega), hp1, hp2], by walk_at "wk"⟩
  · walk_at "go"
    rfl
local macro_rules | `(tactic| walk_at "con") => `(tactic| ((with_reducible show S_state_after _ _); unfold S_state_after; exact ⟨_, _, _, rfl, by walk_at "pf", by walk_at "pf", by walk_at "pf", by walk_at "pf", rfl⟩))
/-! ### allowed_pairs -/
abbrev N_allowed_pairs : List Str := ["many", "forbidden", "found", "one", "other", "pair"]
theorem sc_allowed_pairs : FnScope N_allowed_pairs ["many", "forbidden"] (defScope s_allowed_pairs) := ⟨rfl, rfl, rfl, by decide +kernel, rfl, by decide +kernel, by decide +kernel⟩
def S_allowed_pairs : List Ar → List PyData → Prop := fun as r => ∃ m : Nat, as = [.d (.int m), .d (.tuple [])] ∧ m ≤ 12 ∧ r = (prsL m).map tcD
theorem ok_allowed_pairs {P : Program} {w : World} {K : PySem.W.Frag} {mg : Str → Option Value} {base : Heap} {f : Addr} {fd : FuncData} (FD : FnP K "allowed_pairs" s_allowed_pairs f fd) (b_range : mg "range" = none) : FnOk P w K mg base CX0 1 f fd ["many", "forbidden"] (spN K 2 S_allowed_pairs) := by
  refine fn_okN FD sc_allowed_pairs rfl ?_
  intro X e1 e2 e3 e4 e5 hp F C as r hS hl hW
  subst e1 e2 e3 e4 e5
  obtain ⟨m, rfl, hm, rfl⟩ := hS
  have hl := prsL_len m
  have hl2 : m * m ≤ 144 := Nat.mul_le_mul hm hm
  have n0 : Nm X 0 "many" := F.nm (by decide +kernel)
  have n1 : Nm X 1 "forbidden" := F.nm (by decide +kernel)
  have n2 : Nm X 2 "found" := F.nm (by decide +kernel)
  have l2 : Lc X 2 "found" := F.lc (by decide +kernel)
  have o3 : IxN N_allowed_pairs 3 "one" := rfl
  have o4 : IxN N_allowed_pairs 4 "other" := rfl
  have o5 : IxN N_allowed_pairs 5 "pair" := rfl
  have z_range : Bn X "range" := F.bn (by decide +kernel) b_range
  walk_at "text"
  walk_at "env"
  refine AL.ess_cons ?_
  refine AL.es_lc2 (i := 2) F [("one", 3), ("other", 4)] [4] (by decide) (by decide +kernel) (by decide +kernel) ?_ (by walk_at "swapw")
  walk_at "go"
  have hfl : ∀ k, flatR (fun i => (prsAt m i).map tcD) k = (prsTo m k).map tcD := fun k => by
    unfold flatR prsTo
    rw [List.map_flatMap]
  refine ⟨_, by walk_at "wipe", fun i => (prsAt m i).map tcD, ?_, ?_, ?_⟩
  · rw [hfl, rangeD_len, List.length_map, Int.toNat_natCast]; exact Nat.le_trans hl (by omega)
  · intro C' i d e
    obtain ⟨hi, rfl⟩ := rangeD_get e
    walk_at "go"
    refine ⟨_, by walk_at "wipe", by walk_at "wk", ?_, ?_⟩
    · rw [rangeD_len, List.length_map]; unfold prsAt; rw [List.length_map, List.length_range]; omega
    · intro C'' j d e2
      obtain ⟨hj, rfl⟩ := rangeD_get e2
      walk_at "go"
      refine ⟨?_, by walk_at "wk"⟩
      have hj2 : j < m - (i + 1) := by omega
      rw [List.getElem?_map]; unfold prsAt
      rw [List.getElem?_map, List.getElem?_range hj2]
      show some (PyData.tuple [.int ((i : Nat) : Int), .int ((i + 1 + j : Nat) : Int)]) = _
      simp
  · refine ⟨_, by walk_at "se", ?_⟩
    rw [hfl, rangeD_len, Int.toNat_natCast]
    walk_at "go"
    refine AL.es_retL ?_
    refine AL.en_lc F [("pair", 5)] (by decide +kernel) ?_
    walk_at "go"
    refine AL.lcMap (rs := (prsL m).map tcD) (by walk_at "wipe") (by rfl) (by rw [List.length_map]; show (prsL m).length ≤ _; omega) ?_ ?_
    · intro C' k d e
      have e' := e
      rw [List.getElem?_map, Option.map_eq_some_iff] at e'
      obtain ⟨t, e1, rfl⟩ := e'
      walk_at "go"
      exact ⟨e, by walk_at "wk"⟩
    · walk_at "go"
      rfl
local macro_rules | `(tactic| walk_at "con") => `(tactic| ((with_reducible show S_allowed_pairs _ _); unfold S_allowed_pairs; exact ⟨_, rfl, by walk_at "pf", rfl⟩))
/-! ### check_max_touches -/
abbrev N_check_max_touches : List Str := ["value"]
theorem sc_check_max_touches : FnScope N_check_max_touches ["value"] (defScope s_check_max_touches) := ⟨rfl, rfl, rfl, by decide +kernel, rfl, by decide +kernel, by decide +kernel⟩
def S_check_max_touches : Con := fun as r => ∃ i : Int, as = [.d (.int i)] ∧ 0 ≤ i ∧ i ≤ 4 ∧ r = .none
theorem ok_check_max_touches {P : Program} {w : World} {K : PySem.W.Frag} {mg : Str → Option Value} {base : Heap} {f : Addr} {fd : FuncData} (FD : FnP K "check_max_touches" s_check_max_touches f fd) (c_in_range : Callable P w K mg base "in_range" 2 (spR K 3 S_in_range)) (i_MAX_SEARCH : ∃ t, mg "MAX_SEARCH" = some (.int 4 t)) : FnOk P w K mg base CX0 3 f fd ["value"] (spR K 1 S_check_max_touches) := by
  refine fn_ok FD sc_check_max_touches rfl ?_
  intro X e1 e2 e3 e4 e5 hp F C as r hS hl hW
  subst e1 e2 e3 e4 e5
  obtain ⟨i, rfl, h0, h4, rfl⟩ := hS
  have hin : inRg (.int i) 0 4 = true := by simp [inRg]; omega
  have n0 : Nm X 0 "value" := F.nm (by decide +kernel)
  have g_in_range : Gn X "in_range" := F.gn (by decide +kernel)
  have d_in_range : Cal X "in_range" 2 (spR X.K 3 S_in_range) := c_in_range.mono (by decide)
  have g_MAX_SEARCH : Gn X "MAX_SEARCH" := F.gn (by decide +kernel)
  obtain ⟨t_MAX_SEARCH, j_MAX_SEARCH⟩ := i_MAX_SEARCH
  walk_at "text"
  walk_at "env"
  walk_at "go"
  rw [hin]
  walk_at "go"
  all_goals first | rfl | trivial
local macro_rules | `(tactic| walk_at "con") => `(tactic| ((with_reducible show S_check_max_touches _ _); unfold S_check_max_touches; exact ⟨_, rfl, by walk_at "pf", by walk_at "pf", rfl⟩))
/-! ### check_small -/
abbrev N_check_small : List Str := ["many"]
theorem sc_check_small : FnScope N_check_small ["many"] (defScope s_check_small) := ⟨rfl, rfl, rfl, by decide +kernel, rfl, by decide +kernel, by decide +kernel⟩
def S_check_small : Con := fun as r => ∃ n : Nat, as = [.d (.int (n : Nat))] ∧ n ≤ 4 ∧ r = .none
theorem ok_check_small {P : Program} {w : World} {K : PySem.W.Frag} {mg : Str → Option Value} {base : Heap} {f : Addr} {fd : FuncData} (FD : FnP K "check_small" s_check_small f fd) (i_MAX_SMALL : ∃ t, mg "MAX_SMALL" = some (.int 4 t)) : FnOk P w K mg base CX0 1 f fd ["many"] (spR K 1 S_check_small) := by
  refine fn_ok FD sc_check_small rfl ?_
  intro X e1 e2 e3 e4 e5 hp F C as r hS hl hW
  subst e1 e2 e3 e4 e5
  obtain ⟨n, rfl, hn, rfl⟩ := hS
  have n0 : Nm X 0 "many" := F.nm (by decide +kernel)
  have g_MAX_SMALL : Gn X "MAX_SMALL" := F.gn (by decide +kernel)
  obtain ⟨t_MAX_SMALL, j_MAX_SMALL⟩ := i_MAX_SMALL
  walk_at "text"
  walk_at "env"
  walk_at "go"
  all_goals first | rfl | trivial | (exfalso; omega)
local macro_rules | `(tactic| walk_at "con") => `(tactic| ((with_reducible show S_check_small _ _); unfold S_check_small; exact ⟨_, rfl, by walk_at "pf", rfl⟩))
/-! ### check_game -/
abbrev N_check_game : List Str := ["state", "block", "turns", "first"]
theorem sc_check_game : FnScope N_check_game ["state", "block", "turns", "first"] (defScope s_check_game) := ⟨rfl, rfl, rfl, by decide +kernel, rfl, by decide +kernel, by decide +kernel⟩
def S_check_game : Con := fun as r => ∃ (L : List Bl) (b t : Nat) (w : Bool), as = [.d (stD L), .d (.int (b : Nat)), .d (.int (t : Nat)), .d (handD w)] ∧ OkSt 1640 L ∧ L.length ≤ 4 ∧ b < L.length ∧ t ≤ 4 ∧ r = .none
theorem ok_check_game {P : Program} {w : World} {K : PySem.W.Frag} {mg : Str → Option Value} {base : Heap} {f : Addr} {fd : FuncData} (FD : FnP K "check_game" s_check_game f fd) (c_check_state : Callable P w K mg base "check_state" 6 (spR K 1 S_check_state)) (c_check_block : Callable P w K mg base "check_block" 3 (spR K 2 S_check_block)) (c_check_max_touches : Callable P w K mg base "check_max_touches" 3 (spR K 1 S_check_max_touches)) (c_check_small : Callable P w K mg base "check_small" 1 (spR K 1 S_check_small)) (i_WARM : ∃ t, mg "WARM" = some (.str "warm" t)) (i_COLD : ∃ t, mg "COLD" = some (.str "cold" t)) (b_len : mg "len" = none) (b_isinstance : mg "isinstance" = none) (b_str : mg "str" = none) : FnOk P w K mg base CX0 7 f fd ["state", "block", "turns", "first"] (spR K 4 S_check_game) := by
  refine fn_ok FD sc_check_game rfl ?_
  intro X e1 e2 e3 e4 e5 hp F C as r hS hl hW
  subst e1 e2 e3 e4 e5
  obtain ⟨L, b, t, w, rfl, O, h4, hb, ht, rfl⟩ := hS
  have hl0 : (List.map blk L).length = L.length := List.length_map ..
  have hbi : ((b : Nat) : Int) < L.length := by omega
  have n0 : Nm X 0 "state" := F.nm (by decide +kernel)
  have n1 : Nm X 1 "block" := F.nm (by decide +kernel)
  have n2 : Nm X 2 "turns" := F.nm (by decide +kernel)
  have n3 : Nm X 3 "first" := F.nm (by decide +kernel)
  have g_check_state : Gn X "check_state" := F.gn (by decide +kernel)
  have g_check_block : Gn X "check_block" := F.gn (by decide +kernel)
  have g_check_max_touches : Gn X "check_max_touches" := F.gn (by decide +kernel)
  have g_check_small : Gn X "check_small" := F.gn (by decide +kernel)
  have d_check_state : Cal X "check_state" 6 (spR X.K 1 S_check_state) := c_check_state.mono (by decide)
  have d_check_block : Cal X "check_block" 6 (spR X.K 2 S_check_block) := c_check_block.mono (by decide)
  have d_check_max_touches : Cal X "check_max_touches" 6 (spR X.K 1 S_check_max_touches) := c_check_max_touches.mono (by decide)
  have d_check_small : Cal X "check_small" 6 (spR X.K 1 S_check_small) := c_check_small.mono (by decide)
  have g_WARM : Gn X "WARM" := F.gn (by decide +kernel)
  obtain ⟨t_WARM, j_WARM⟩ := i_WARM
  have g_COLD : Gn X "COLD" := F.gn (by decide +kernel)
  obtain ⟨t_COLD, j_COLD⟩ := i_COLD
  have z_len : Bn X "len" := F.bn (by decide +kernel) b_len
  have z_isinstance : Bn X "isinstance" := F.bn (by decide +kernel) b_isinstance
  have z_str : Bn X "str" := F.bn (by decide +kernel) b_str
  walk_at "text"
  walk_at "env"
  cases w
  · show AL.ESs _ _ _ [.im (stD L), .im (.int (b : Nat)), .im (.int (t : Nat)), .im (.str "cold")] _
    walk_at "go"
    refine AL.ra_inD rfl kt_t (by show SeqAt.shaped (.str "cold") = true; decide +kernel) (by decide +kernel) ?_
    refine ⟨false, congrArg (fun b => Av.d (.bool b)) (by show (!(([.str "warm", .str "cold"] : List PyData).any fun z => PyData.eqv z (.str "cold"))) = false; decide +kernel), AL.br_f ?_⟩
    walk_at "go"
    all_goals first | rfl | trace_state
  · show AL.ESs _ _ _ [.im (stD L), .im (.int (b : Nat)), .im (.int (t : Nat)), .im (.str "warm")] _
    walk_at "go"
    refine AL.ra_inD rfl kt_t (by show SeqAt.shaped (.str "warm") = true; decide +kernel) (by decide +kernel) ?_
    refine ⟨false, congrArg (fun b => Av.d (.bool b)) (by show (!(([.str "warm", .str "cold"] : List PyData).any fun z => PyData.eqv z (.str "warm"))) = false; decide +kernel), AL.br_f ?_⟩
    walk_at "go"
    all_goals first | rfl | trace_state
local macro_rules | `(tactic| walk_at "con") => `(tactic| ((with_reducible show S_check_game _ _); unfold S_check_game; exact ⟨_, _, _, _, rfl, by walk_at "pf", by walk_at "pf", by walk_at "pf", by walk_at "pf", rfl⟩))
/-! ### opponent -/
abbrev N_opponent : List Str := ["player"]
theorem sc_opponent : FnScope N_opponent ["player"] (defScope s_opponent) := ⟨rfl, rfl, rfl, by decide +kernel, rfl, by decide +kernel, by decide +kernel⟩
def S_opponent : Con := fun as r => ∃ w : Bool, as = [.d (handD w)] ∧ r = handD (!w)
theorem ok_opponent {P : Program} {w : World} {K : PySem.W.Frag} {mg : Str → Option Value} {base : Heap} {f : Addr} {fd : FuncData} (FD : FnP K "opponent" s_opponent f fd) (i_COLD : ∃ t, mg "COLD" = some (.str "cold" t)) (i_WARM : ∃ t, mg "WARM" = some (.str "warm" t)) : FnOk P w K mg base CX0 1 f fd ["player"] (spR K 1 S_opponent) := by
  refine fn_ok FD sc_opponent rfl ?_
  intro X e1 e2 e3 e4 e5 hp F C as r hS hl hW
  subst e1 e2 e3 e4 e5
  obtain ⟨w, rfl, rfl⟩ := hS
  have n0 : Nm X 0 "player" := F.nm (by decide +kernel)
  have g_COLD : Gn X "COLD" := F.gn (by decide +kernel)
  obtain ⟨t_COLD, j_COLD⟩ := i_COLD
  have g_WARM : Gn X "WARM" := F.gn (by decide +kernel)
  obtain ⟨t_WARM, j_WARM⟩ := i_WARM
  walk_at "text"
  walk_at "env"
  cases w
  · show AL.ESs _ _ _ [.im (.str "cold")] _
    walk_at "go"
    all_goals first | rfl | (rename_i h; exact absurd h (by decide)) | trace_state
  · show AL.ESs _ _ _ [.im (.str "warm")] _
    walk_at "go"
    all_goals first | rfl | (rename_i h; exact absurd rfl h) | trace_state
local macro_rules | `(tactic| walk_at "con") => `(tactic| ((with_reducible show S_opponent _ _); unfold S_opponent; exact by first | exact ⟨_, rfl, rfl⟩ | exact ⟨true, rfl, rfl⟩ | exact ⟨false, rfl, rfl⟩))
/-! ### is_better -/
abbrev N_is_better : List Str := ["player", "one", "other"]
theorem sc_is_better : FnScope N_is_better ["player", "one", "other"] (defScope s_is_better) := ⟨rfl, rfl, rfl, by decide +kernel, rfl, by decide +kernel, by decide +kernel⟩
def S_is_better : Con := fun as r => ∃ (w : Bool) (p q : Rat), as = [.d (handD w), .d (fr p), .d (fr q)] ∧ Rb 4400 p ∧ Rb 4400 q ∧ r = .bool (btr w p q)
theorem ok_is_better {P : Program} {w : World} {K : PySem.W.Frag} {mg : Str → Option Value} {base : Heap} {f : Addr} {fd : FuncData} (FD : FnP K "is_better" s_is_better f fd) (c_is_lower : Callable P w K mg base "is_lower" 1 (spR K 2 S_is_lower)) (i_WARM : ∃ t, mg "WARM" = some (.str "warm" t)) : FnOk P w K mg base CX0 2 f fd ["player", "one", "other"] (spR K 3 S_is_better) := by
  refine fn_ok FD sc_is_better rfl ?_
  intro X e1 e2 e3 e4 e5 hp F C as r hS hl hW
  subst e1 e2 e3 e4 e5
  obtain ⟨w, p, q, rfl, z1, z2, rfl⟩ := hS
  have n0 : Nm X 0 "player" := F.nm (by decide +kernel)
  have n1 : Nm X 1 "one" := F.nm (by decide +kernel)
  have n2 : Nm X 2 "other" := F.nm (by decide +kernel)
  have g_is_lower : Gn X "is_lower" := F.gn (by decide +kernel)
  have d_is_lower : Cal X "is_lower" 1 (spR X.K 2 S_is_lower) := c_is_lower.mono (by decide)
  have g_WARM : Gn X "WARM" := F.gn (by decide +kernel)
  obtain ⟨t_WARM, j_WARM⟩ := i_WARM
  walk_at "text"
  walk_at "env"
  cases w
  · show AL.ESs _ _ _ [.im (.str "cold"), .im (fr p), .im (fr q)] _
    walk_at "go"
    all_goals first | (rename_i h; exact absurd h (by decide)) | exact congrArg PyData.bool (decide_eq_decide.mpr fr_lt) | trace_state
  · show AL.ESs _ _ _ [.im (.str "warm"), .im (fr p), .im (fr q)] _
    walk_at "go"
    all_goals first | exact congrArg PyData.bool (decide_eq_decide.mpr fr_lt) | (rename_i h; exact absurd rfl h) | trace_state
local macro_rules | `(tactic| walk_at "con") => `(tactic| ((with_reducible show S_is_better _ _); unfold S_is_better; exact ⟨_, _, _, rfl, by walk_at "pf", by walk_at "pf", rfl⟩))
/-! ### successors -/
abbrev N_successors : List Str := ["state", "one", "other"]
theorem sc_successors : FnScope N_successors ["state"] (defScope s_successors) := ⟨rfl, rfl, rfl, by decide +kernel, rfl, by decide +kernel, by decide +kernel⟩
def S_successors : List Ar → List PyData → Prop := fun as r => ∃ L, as = [.d (stD L)] ∧ OkSt 1900 L ∧ L.length ≤ 4 ∧ r = (sucS L).map stD
theorem ok_successors {P : Program} {w : World} {K : PySem.W.Frag} {mg : Str → Option Value} {base : Heap} {f : Addr} {fd : FuncData} (FD : FnP K "successors" s_successors f fd) (c_state_after : Callable P w K mg base "state_after" 5 (spR K 3 S_state_after)) (c_allowed_pairs : Callable P w K mg base "allowed_pairs" 1 (spN K 2 S_allowed_pairs)) (b_len : mg "len" = none) : FnOk P w K mg base CX0 6 f fd ["state"] (spN K 1 S_successors) := by
  refine fn_okN FD sc_successors rfl ?_
  intro X e1 e2 e3 e4 e5 hp F C as r hS hl hW
  subst e1 e2 e3 e4 e5
  obtain ⟨L, rfl, O, h4, rfl⟩ := hS
  have hl0 : (List.map blk L).length = L.length := List.length_map ..
  have hpl := prsL_len L.length
  have hpl2 : L.length * L.length ≤ 16 := Nat.mul_le_mul h4 h4
  have n0 : Nm X 0 "state" := F.nm (by decide +kernel)
  have o1 : IxN N_successors 1 "one" := rfl
  have o2 : IxN N_successors 2 "other" := rfl
  have g_allowed_pairs : Gn X "allowed_pairs" := F.gn (by decide +kernel)
  have d_state_after : Cal X "state_after" 5 (spR X.K 3 S_state_after) := c_state_after.mono (by decide)
  have d_allowed_pairs : Cal X "allowed_pairs" 5 (spN X.K 2 S_allowed_pairs) := c_allowed_pairs.mono (by decide)
  have z_len : Bn X "len" := F.bn (by decide +kernel) b_len
  walk_at "text"
  walk_at "env"
  refine AL.ess_one (AL.es_retL (AL.en_cat ?_))
  walk_at "go"
  refine AL.ee_en (AL.en_lc F [("one", 1), ("other", 2)] (by decide +kernel) ?_)
  walk_at "go"
  refine AL.lcMap (rs := ((prsL L.length).map fun p => tchS L p.1 p.2).map stD) (by walk_at "wipe") (by simp) (by rw [List.length_map, hl0]; omega) ?_ ?_
  · intro C' k d e
    rw [List.getElem?_map, hl0, Option.map_eq_some_iff] at e
    obtain ⟨t, e1, rfl⟩ := e
    have ht := mem_prsL.mp (List.mem_of_getElem? e1)
    have h1 : t.1 < L.length := by omega
    have h2 : t.1 ≠ t.2 := by omega
    walk_at "go"
    refine ⟨?_, by walk_at "wk"⟩
    rw [List.getElem?_map, List.getElem?_map, e1]; rfl
  · walk_at "go"
    refine ⟨_, _, .inl rfl, .inl rfl, by simp; omega, ?_⟩
    rfl
local macro_rules | `(tactic| walk_at "con") => `(tactic| ((with_reducible show S_successors _ _); unfold S_successors; exact ⟨_, rfl, by walk_at "pf", by walk_at "pf", rfl⟩))
/-! ### minimax~~~~ -/
abbrev N_minimax_v_v_v_v : List Str := ["state", "block", "turns", "player", "known", "best", "later", "end"]
theorem sc_minimax_v_v_v_v : FnScope N_minimax_v_v_v_v ["state", "block", "turns", "player", "known"] (defScope s_minimax) := ⟨rfl, rfl, rfl, by decide +kernel, rfl, by decide +kernel, by decide +kernel⟩
def S_minimax_v_v_v_v : ConD := fun kvs as r R => ∃ (L : List Bl) (b t n : Nat) (w c : Bool), as = [.d (stD L), .d (.int (b : Nat)), .d (.int (t : Nat)), .d (handD w)] ∧ OkSt n L ∧ n + 8 * t ≤ 1700 ∧ L.length ≤ 4 ∧ b < L.length ∧ t ≤ 0 ∧ w = par c t ∧ Kn b c kvs ∧ kvs.length + cntG t ≤ 1000 ∧ r = fr (gv b t L w) ∧ R = fun kvs' => Kn b c kvs' ∧ kvs'.length ≤ kvs.length + cntG t
theorem ok_minimax_v_v_v_v {P : Program} {w : World} {K : PySem.W.Frag} {mg : Str → Option Value} {base : Heap} {f : Addr} {fd : FuncData} (FD : FnP K "minimax" s_minimax f fd) (c_successors : Callable P w K mg base "successors" 6 (spN K 1 S_successors)) (c_opponent : Callable P w K mg base "opponent" 1 (spR K 1 S_opponent)) (c_is_better : Callable P w K mg base "is_better" 2 (spR K 3 S_is_better)) : FnOk P w K mg base CX0 7 f fd ["state", "block", "turns", "player", "known"] (spD K 5 S_minimax_v_v_v_v) := by
  refine fn_okD FD sc_minimax_v_v_v_v rfl ?_
  intro X e1 e2 e3 e4 e5 hp F C kvs as r R hS hl
  subst e1 e2 e3 e4 e5
  obtain ⟨L, b, t, n, w, c, rfl, O, hn, h4, hb, hT, hw, hk, hl2, rfl, rfl⟩ := hS
  have hl0 : (List.map blk L).length = L.length := List.length_map ..
  have O19 : OkSt 1900 L := O.mono (by omega)
  have n0 : Nm X 0 "state" := F.nm (by decide +kernel)
  have n1 : Nm X 1 "block" := F.nm (by decide +kernel)
  have n2 : Nm X 2 "turns" := F.nm (by decide +kernel)
  have n3 : Nm X 3 "player" := F.nm (by decide +kernel)
  have n4 : Nm X 4 "known" := F.nm (by decide +kernel)
  have n5 : Nm X 5 "best" := F.nm (by decide +kernel)
  have l5 : Lc X 5 "best" := F.lc (by decide +kernel)
  have n6 : Nm X 6 "later" := F.nm (by decide +kernel)
  have l6 : Lc X 6 "later" := F.lc (by decide +kernel)
  have n7 : Nm X 7 "end" := F.nm (by decide +kernel)
  have l7 : Lc X 7 "end" := F.lc (by decide +kernel)
  have g_successors : Gn X "successors" := F.gn (by decide +kernel)
  have g_opponent : Gn X "opponent" := F.gn (by decide +kernel)
  have g_is_better : Gn X "is_better" := F.gn (by decide +kernel)
  have d_successors : Cal X "successors" 6 (spN X.K 1 S_successors) := c_successors.mono (by decide)
  have d_opponent : Cal X "opponent" 6 (spR X.K 1 S_opponent) := c_opponent.mono (by decide)
  have d_is_better : Cal X "is_better" 6 (spR X.K 3 S_is_better) := c_is_better.mono (by decide)
  walk_at "text"
  walk_at "env"
  refine AL.ess_cut (R := fun g => 0 < t ∧ g = [.im (stD L), .im (.int (b : Nat)), .im (.int (t : Nat)), .im (handD w), .dc (some 0) kvs, .no, .no, .no]) ?_ ?_
  · walk_at "go"
    · refine ⟨by rename_i h; rw [show t = 0 by omega]; rfl, _, rfl, hk, by omega⟩
    · exact ⟨by omega, rfl⟩
  rintro _ ⟨ht, rfl⟩
  omega
/-! ### minimax~~~ -/
abbrev N_minimax_v_v_v : List Str := ["state", "block", "turns", "player", "known", "best", "later", "end"]
theorem sc_minimax_v_v_v : FnScope N_minimax_v_v_v ["state", "block", "turns", "player", "known"] (defScope s_minimax) := ⟨rfl, rfl, rfl, by decide +kernel, rfl, by decide +kernel, by decide +kernel⟩
def S_minimax_v_v_v : ConD := fun kvs as r R => ∃ (L : List Bl) (b t n : Nat) (w c : Bool), as = [.d (stD L), .d (.int (b : Nat)), .d (.int (t : Nat)), .d (handD w)] ∧ OkSt n L ∧ n + 8 * t ≤ 1700 ∧ L.length ≤ 4 ∧ b < L.length ∧ t ≤ 1 ∧ w = par c t ∧ Kn b c kvs ∧ kvs.length + cntG t ≤ 1000 ∧ r = fr (gv b t L w) ∧ R = fun kvs' => Kn b c kvs' ∧ kvs'.length ≤ kvs.length + cntG t
theorem ok_minimax_v_v_v {P : Program} {w : World} {K : PySem.W.Frag} {mg : Str → Option Value} {base : Heap} {f : Addr} {fd : FuncData} (FD : FnP K "minimax" s_minimax f fd) (c_successors : Callable P w K mg base "successors" 6 (spN K 1 S_successors)) (c_minimax : Callable P w K mg base "minimax" 7 (spD K 5 S_minimax_v_v_v_v)) (c_opponent : Callable P w K mg base "opponent" 1 (spR K 1 S_opponent)) (c_is_better : Callable P w K mg base "is_better" 2 (spR K 3 S_is_better)) : FnOk P w K mg base CX0 8 f fd ["state", "block", "turns", "player", "known"] (spD K 5 S_minimax_v_v_v) := by
  refine fn_okD FD sc_minimax_v_v_v rfl ?_
  intro X e1 e2 e3 e4 e5 hp F C kvs as r R hS hl
  subst e1 e2 e3 e4 e5
  obtain ⟨L, b, t, n, w, c, rfl, O, hn, h4, hb, hT, hw, hk, hl2, rfl, rfl⟩ := hS
  have hl0 : (List.map blk L).length = L.length := List.length_map ..
  have O19 : OkSt 1900 L := O.mono (by omega)
  have n0 : Nm X 0 "state" := F.nm (by decide +kernel)
  have n1 : Nm X 1 "block" := F.nm (by decide +kernel)
  have n2 : Nm X 2 "turns" := F.nm (by decide +kernel)
  have n3 : Nm X 3 "player" := F.nm (by decide +kernel)
  have n4 : Nm X 4 "known" := F.nm (by decide +kernel)
  have n5 : Nm X 5 "best" := F.nm (by decide +kernel)
  have l5 : Lc X 5 "best" := F.lc (by decide +kernel)
  have n6 : Nm X 6 "later" := F.nm (by decide +kernel)
  have l6 : Lc X 6 "later" := F.lc (by decide +kernel)
  have n7 : Nm X 7 "end" := F.nm (by decide +kernel)
  have l7 : Lc X 7 "end" := F.lc (by decide +kernel)
  have g_successors : Gn X "successors" := F.gn (by decide +kernel)
  have g_minimax : Gn X "minimax" := F.gn (by decide +kernel)
  have g_opponent : Gn X "opponent" := F.gn (by decide +kernel)
  have g_is_better : Gn X "is_better" := F.gn (by decide +kernel)
  have d_successors : Cal X "successors" 7 (spN X.K 1 S_successors) := c_successors.mono (by decide)
  have d_minimax : Cal X "minimax" 7 (spD X.K 5 S_minimax_v_v_v_v) := c_minimax.mono (by decide)
  have d_opponent : Cal X "opponent" 7 (spR X.K 1 S_opponent) := c_opponent.mono (by decide)
  have d_is_better : Cal X "is_better" 7 (spR X.K 3 S_is_better) := c_is_better.mono (by decide)
  walk_at "text"
  walk_at "env"
  refine AL.ess_cut (R := fun g => 0 < t ∧ g = [.im (stD L), .im (.int (b : Nat)), .im (.int (t : Nat)), .im (handD w), .dc (some 0) kvs, .no, .no, .no]) ?_ ?_
  · walk_at "go"
    · refine ⟨by rename_i h; rw [show t = 0 by omega]; rfl, _, rfl, hk, by omega⟩
    · exact ⟨by omega, rfl⟩
  rintro _ ⟨ht, rfl⟩
  obtain ⟨t, rfl⟩ : ∃ t', t = t' + 1 := ⟨t - 1, by omega⟩
  have hc : cntG (t + 1) = 1 + 7 * cntG t := rfl
  have hw2 : (!w) = par c t := by rw [hw]; exact (par_succ c t).symm
  refine AL.ess_cut (R := fun g => ∃ kv2 e5 e6 e7, Kn b c kv2 ∧ kv2.length ≤ kvs.length + cntG (t + 1) ∧ (∃ v, getK kv2 (keyG L (t + 1)) = some v) ∧ g = [.im (stD L), .im (.int (b : Nat)), .im (.int (t + 1 : Nat)), .im (handD w), .dc (some 0) kv2, e5, e6, e7]) ?_ ?_
  · refine AL.es_if (AL.et_notInDc F.room n4 ?_)
    walk_at "go"
    refine ⟨keyG L (t + 1), _, _, rfl, keyD_g L (t + 1), rfl, ?_⟩
    refine AL.br_b (fun h => ?_) (fun h => ?_)
    · refine AL.ess_cut (R := fun g => g = [.im (stD L), .im (.int (b : Nat)), .im (.int (t + 1 : Nat)), .im (handD w), .dc (some 0) kvs, .im .none, .no, .no]) (by walk_at "go"; rfl) ?_
      rintro _ rfl
      have hsl := sucS_len L
      have hpl := prsL_len L.length
      have hs7 : (sucS L).length ≤ 7 := by
        rw [hsl]
        have : ∀ m, m ≤ 4 → (prsL m).length ≤ 6 := by decide
        have := this _ h4
        omega
      refine AL.ess_cut (R := fun g => ∃ kv2 e6 e7, Kn b c kv2 ∧ kv2.length ≤ kvs.length + 7 * cntG t ∧ g = [.im (stD L), .im (.int (b : Nat)), .im (.int (t + 1 : Nat)), .im (handD w), .dc (some 0) kv2, .im (fr (gv b (t + 1) L w)), e6, e7]) ?_ ?_
      · refine AL.es_for hp (by walk_at "calm") ?_
        refine AL.ei_list ?_
        walk_at "go"
        refine ⟨fun i g => ∃ kv2 e6 e7, Kn b c kv2 ∧ kv2.length ≤ kvs.length + i * cntG t ∧ g = [.im (stD L), .im (.int (b : Nat)), .im (.int (t + 1 : Nat)), .im (handD w), .dc (some 0) kv2, .im (bestD (gvTo b t L w i)), e6, e7], ⟨_, _, _, hk, by omega, rfl⟩, ?_, ?_⟩
        · rintro i d g' e ⟨kv2, e6, e7, hk2, hl3, rfl⟩
          rw [List.getElem?_map, Option.map_eq_some_iff] at e
          obtain ⟨M, e1, rfl⟩ := e
          have hi : i < (sucS L).length := (List.getElem?_eq_some_iff.mp e1).1
          have hi7 : i * cntG t ≤ 6 * cntG t := Nat.mul_le_mul_right _ (by omega)
          obtain ⟨OM, hML⟩ := sucS_ok O (List.mem_of_getElem? e1)
          have hMb : b < M.length := by omega
          have rg : Rb 4400 (gv b t M (!w)) := (gv_rb OM hMb).mono (by omega)
          have hsn := gvTo_snoc (b := b) (t := t) (w := w) e1
          have hmul : (i + 1) * cntG t = i * cntG t + cntG t := by rw [Nat.add_mul, Nat.one_mul]
          refine AL.eg_d (by walk_at "lc") (by walk_at "se") ?_
          refine AL.ess_cut (R := fun g => ∃ kv3, Kn b c kv3 ∧ kv3.length ≤ kv2.length + cntG t ∧ g = [.im (stD L), .im (.int (b : Nat)), .im (.int (t + 1 : Nat)), .im (handD w), .dc (some 0) kv3, .im (bestD (gvTo b t L w i)), .im (stD M), .im (fr (gv b t M (!w)))]) ?_ ?_
          · refine AL.es_set l7 (AL.ee_callD2 d_minimax (by walk_at "room") (by walk_at "gn") ?_)
            walk_at "go"
            have e9 : ((t + 1 : Nat) : Int) - 1 = (t : Nat) := by omega
            rw [e9]
            refine ⟨rfl, 4, some 0, kv2, [.d (stD M), .d (.int (b : Nat)), .d (.int (t : Nat)), .d (handD (!w))], _, _, _, rfl, by walk_at "cv", rfl, ⟨M, b, t, n + 8, !w, c, rfl, OM, by omega, by omega, hMb, by omega, hw2, hk2, by omega, rfl, rfl⟩, fun kv3 hR hl9 => ⟨_, by walk_at "se", ?_⟩⟩
            walk_at "go"
            exact ⟨kv3, hR.1, hR.2, rfl⟩
          rintro _ ⟨kv3, hk3, hl4, rfl⟩
          by_cases h0 : i = 0
          · subst h0
            have hb0 : bestD (gvTo b t L w 0) = PyData.none := rfl
            have hb1 : gvTo b t L w (0 + 1) = some (gv b t M (!w)) := hsn
            rw [hb0]
            walk_at "go"
            exact ⟨kv3, .im (stD M), .im (fr (gv b t M (!w))), hk3, by omega, by rw [hb1]; rfl⟩
          · obtain ⟨x, hx, N, hN, hxN⟩ := gvTo_some (b := b) (t := t) (L := L) (w := w) (i := i) (by omega) (by omega)
            obtain ⟨ON, hNL⟩ := sucS_ok O hN
            have rx : Rb 4400 x := by rw [hxN]; exact (gv_rb ON (by omega)).mono (by omega)
            have hb0 : bestD (gvTo b t L w i) = fr x := by rw [hx]; rfl
            rw [hx] at hsn
            rw [hb0]
            walk_at "go"
            refine AL.br_b (fun hh => ?_) (fun hh => ?_)
            · walk_at "go"
              refine ⟨kv3, .im (stD M), .im (fr (gv b t M (!w))), hk3, by omega, ?_⟩
              have : gvTo b t L w (i + 1) = some (gv b t M (!w)) := by rw [hsn]; show (if btr w _ _ then _ else _) = _; rw [if_pos hh]
              rw [this]; rfl
            · walk_at "go"
              refine ⟨kv3, .im (stD M), .im (fr (gv b t M (!w))), hk3, by omega, ?_⟩
              have : gvTo b t L w (i + 1) = some x := by rw [hsn]; show (if btr w _ _ then _ else _) = _; rw [hh]; rfl
              rw [this]; rfl
        · rintro g' ⟨kv2, e6, e7, hk2, hl3, rfl⟩
          rw [List.length_map] at hl3 ⊢
          have : (sucS L).length * cntG t ≤ 7 * cntG t := Nat.mul_le_mul_right _ hs7
          rw [gv_succ]
          exact ⟨kv2, _, _, hk2, by omega, rfl⟩
      rintro _ ⟨kv2, e6, e7, hk2, hl3, rfl⟩
      refine AL.ess_one (AL.es_putDc F.room n4 ?_)
      walk_at "go"
      refine ⟨_, _, rfl, ?_⟩
      walk_at "go"
      refine ⟨keyG L (t + 1), some 0, kv2, _, _, _, rfl, keyD_g L (t + 1), by walk_at "fz", rfl, by omega, by walk_at "se", ?_⟩
      have hp1 := putD_len kv2 (keyG L (t + 1)) (fr (gv b (t + 1) L w))
      refine ⟨_, _, _, _, ?_, by omega, put_get L (t + 1) _, rfl⟩
      rw [hw]
      exact hk2.put L (t + 1)
    · refine AL.ess_nil ?_
      have hs : (getK kvs (keyG L (t + 1))).isSome = true := by simpa using h
      exact ⟨kvs, _, _, _, hk, by omega, Option.isSome_iff_exists.mp hs, rfl⟩
  rintro _ ⟨kv2, e5, e6, e7, hk2, hl3, ⟨v, hv⟩, rfl⟩
  refine AL.ess_one (AL.es_ret (AL.ee_dcAt F.room n4 rfl ?_))
  walk_at "go"
  refine ⟨keyG L (t + 1), _, _, v, rfl, keyD_g L (t + 1), rfl, hv, ?_⟩
  rw [hk2.get hv, ← hw]
  exact ⟨rfl, _, rfl, hk2, hl3⟩
/-! ### minimax~~ -/
abbrev N_minimax_v_v : List Str := ["state", "block", "turns", "player", "known", "best", "later", "end"]
theorem sc_minimax_v_v : FnScope N_minimax_v_v ["state", "block", "turns", "player", "known"] (defScope s_minimax) := ⟨rfl, rfl, rfl, by decide +kernel, rfl, by decide +kernel, by decide +kernel⟩
def S_minimax_v_v : ConD := fun kvs as r R => ∃ (L : List Bl) (b t n : Nat) (w c : Bool), as = [.d (stD L), .d (.int (b : Nat)), .d (.int (t : Nat)), .d (handD w)] ∧ OkSt n L ∧ n + 8 * t ≤ 1700 ∧ L.length ≤ 4 ∧ b < L.length ∧ t ≤ 2 ∧ w = par c t ∧ Kn b c kvs ∧ kvs.length + cntG t ≤ 1000 ∧ r = fr (gv b t L w) ∧ R = fun kvs' => Kn b c kvs' ∧ kvs'.length ≤ kvs.length + cntG t
theorem ok_minimax_v_v {P : Program} {w : World} {K : PySem.W.Frag} {mg : Str → Option Value} {base : Heap} {f : Addr} {fd : FuncData} (FD : FnP K "minimax" s_minimax f fd) (c_successors : Callable P w K mg base "successors" 6 (spN K 1 S_successors)) (c_minimax : Callable P w K mg base "minimax" 8 (spD K 5 S_minimax_v_v_v)) (c_opponent : Callable P w K mg base "opponent" 1 (spR K 1 S_opponent)) (c_is_better : Callable P w K mg base "is_better" 2 (spR K 3 S_is_better)) : FnOk P w K mg base CX0 9 f fd ["state", "block", "turns", "player", "known"] (spD K 5 S_minimax_v_v) := by
  refine fn_okD FD sc_minimax_v_v rfl ?_
  intro X e1 e2 e3 e4 e5 hp F C kvs as r R hS hl
  subst e1 e2 e3 e4 e5
  obtain ⟨L, b, t, n, w, c, rfl, O, hn, h4, hb, hT, hw, hk, hl2, rfl, rfl⟩ := hS
  have hl0 : (List.map blk L).length = L.length := List.length_map ..
  have O19 : OkSt 1900 L := O.mono (by omega)
  have n0 : Nm X 0 "state" := F.nm (by decide +kernel)
  have n1 : Nm X 1 "block" := F.nm (by decide +kernel)
  have n2 : Nm X 2 "turns" := F.nm (by decide +kernel)
  have n3 : Nm X 3 "player" := F.nm (by decide +kernel)
  have n4 : Nm X 4 "known" := F.nm (by decide +kernel)
  have n5 : Nm X 5 "best" := F.nm (by decide +kernel)
  have l5 : Lc X 5 "best" := F.lc (by decide +kernel)
  have n6 : Nm X 6 "later" := F.nm (by decide +kernel)
  have l6 : Lc X 6 "later" := F.lc (by decide +kernel)
  have n7 : Nm X 7 "end" := F.nm (by decide +kernel)
  have l7 : Lc X 7 "end" := F.lc (by decide +kernel)
  have g_successors : Gn X "successors" := F.gn (by decide +kernel)
  have g_minimax : Gn X "minimax" := F.gn (by decide +kernel)
  have g_opponent : Gn X "opponent" := F.gn (by decide +kernel)
  have g_is_better : Gn X "is_better" := F.gn (by decide +kernel)
  have d_successors : Cal X "successors" 8 (spN X.K 1 S_successors) := c_successors.mono (by decide)
  have d_minimax : Cal X "minimax" 8 (spD X.K 5 S_minimax_v_v_v) := c_minimax.mono (by decide)
  have d_opponent : Cal X "opponent" 8 (spR X.K 1 S_opponent) := c_opponent.mono (by decide)
  have d_is_better : Cal X "is_better" 8 (spR X.K 3 S_is_better) := c_is_better.mono (by decide)
  walk_at "text"
  walk_at "env"
  refine AL.ess_cut (R := fun g => 0 < t ∧ g = [.im (stD L), .im (.int (b : Nat)), .im (.int (t : Nat)), .im (handD w), .dc (some 0) kvs, .no, .no, .no]) ?_ ?_
  · walk_at "go"
    · refine ⟨by rename_i h; rw [show t = 0 by omega]; rfl, _, rfl, hk, by omega⟩
    · exact ⟨by omega, rfl⟩
  rintro _ ⟨ht, rfl⟩
  obtain ⟨t, rfl⟩ : ∃ t', t = t' + 1 := ⟨t - 1, by omega⟩
  have hc : cntG (t + 1) = 1 + 7 * cntG t := rfl
  have hw2 : (!w) = par c t := by rw [hw]; exact (par_succ c t).symm
  refine AL.ess_cut (R := fun g => ∃ kv2 e5 e6 e7, Kn b c kv2 ∧ kv2.length ≤ kvs.length + cntG (t + 1) ∧ (∃ v, getK kv2 (keyG L (t + 1)) = some v) ∧ g = [.im (stD L), .im (.int (b : Nat)), .im (.int (t + 1 : Nat)), .im (handD w), .dc (some 0) kv2, e5, e6, e7]) ?_ ?_
  · refine AL.es_if (AL.et_notInDc F.room n4 ?_)
    walk_at "go"
    refine ⟨keyG L (t + 1), _, _, rfl, keyD_g L (t + 1), rfl, ?_⟩
    refine AL.br_b (fun h => ?_) (fun h => ?_)
    · refine AL.ess_cut (R := fun g => g = [.im (stD L), .im (.int (b : Nat)), .im (.int (t + 1 : Nat)), .im (handD w), .dc (some 0) kvs, .im .none, .no, .no]) (by walk_at "go"; rfl) ?_
      rintro _ rfl
      have hsl := sucS_len L
      have hpl := prsL_len L.length
      have hs7 : (sucS L).length ≤ 7 := by
        rw [hsl]
        have : ∀ m, m ≤ 4 → (prsL m).length ≤ 6 := by decide
        have := this _ h4
        omega
      refine AL.ess_cut (R := fun g => ∃ kv2 e6 e7, Kn b c kv2 ∧ kv2.length ≤ kvs.length + 7 * cntG t ∧ g = [.im (stD L), .im (.int (b : Nat)), .im (.int (t + 1 : Nat)), .im (handD w), .dc (some 0) kv2, .im (fr (gv b (t + 1) L w)), e6, e7]) ?_ ?_
      · refine AL.es_for hp (by walk_at "calm") ?_
        refine AL.ei_list ?_
        walk_at "go"
        refine ⟨fun i g => ∃ kv2 e6 e7, Kn b c kv2 ∧ kv2.length ≤ kvs.length + i * cntG t ∧ g = [.im (stD L), .im (.int (b : Nat)), .im (.int (t + 1 : Nat)), .im (handD w), .dc (some 0) kv2, .im (bestD (gvTo b t L w i)), e6, e7], ⟨_, _, _, hk, by omega, rfl⟩, ?_, ?_⟩
        · rintro i d g' e ⟨kv2, e6, e7, hk2, hl3, rfl⟩
          rw [List.getElem?_map, Option.map_eq_some_iff] at e
          obtain ⟨M, e1, rfl⟩ := e
          have hi : i < (sucS L).length := (List.getElem?_eq_some_iff.mp e1).1
          have hi7 : i * cntG t ≤ 6 * cntG t := Nat.mul_le_mul_right _ (by omega)
          obtain ⟨OM, hML⟩ := sucS_ok O (List.mem_of_getElem? e1)
          have hMb : b < M.length := by omega
          have rg : Rb 4400 (gv b t M (!w)) := (gv_rb OM hMb).mono (by omega)
          have hsn := gvTo_snoc (b := b) (t := t) (w := w) e1
          have hmul : (i + 1) * cntG t = i * cntG t + cntG t := by rw [Nat.add_mul, Nat.one_mul]
          refine AL.eg_d (by walk_at "lc") (by walk_at "se") ?_
          refine AL.ess_cut (R := fun g => ∃ kv3, Kn b c kv3 ∧ kv3.length ≤ kv2.length + cntG t ∧ g = [.im (stD L), .im (.int (b : Nat)), .im (.int (t + 1 : Nat)), .im (handD w), .dc (some 0) kv3, .im (bestD (gvTo b t L w i)), .im (stD M), .im (fr (gv b t M (!w)))]) ?_ ?_
          · refine AL.es_set l7 (AL.ee_callD2 d_minimax (by walk_at "room") (by walk_at "gn") ?_)
            walk_at "go"
            have e9 : ((t + 1 : Nat) : Int) - 1 = (t : Nat) := by omega
            rw [e9]
            refine ⟨rfl, 4, some 0, kv2, [.d (stD M), .d (.int (b : Nat)), .d (.int (t : Nat)), .d (handD (!w))], _, _, _, rfl, by walk_at "cv", rfl, ⟨M, b, t, n + 8, !w, c, rfl, OM, by omega, by omega, hMb, by omega, hw2, hk2, by omega, rfl, rfl⟩, fun kv3 hR hl9 => ⟨_, by walk_at "se", ?_⟩⟩
            walk_at "go"
            exact ⟨kv3, hR.1, hR.2, rfl⟩
          rintro _ ⟨kv3, hk3, hl4, rfl⟩
          by_cases h0 : i = 0
          · subst h0
            have hb0 : bestD (gvTo b t L w 0) = PyData.none := rfl
            have hb1 : gvTo b t L w (0 + 1) = some (gv b t M (!w)) := hsn
            rw [hb0]
            walk_at "go"
            exact ⟨kv3, .im (stD M), .im (fr (gv b t M (!w))), hk3, by omega, by rw [hb1]; rfl⟩
          · obtain ⟨x, hx, N, hN, hxN⟩ := gvTo_some (b := b) (t := t) (L := L) (w := w) (i := i) (by omega) (by omega)
            obtain ⟨ON, hNL⟩ := sucS_ok O hN
            have rx : Rb 4400 x := by rw [hxN]; exact (gv_rb ON (by omega)).mono (by omega)
            have hb0 : bestD (gvTo b t L w i) = fr x := by rw [hx]; rfl
            rw [hx] at hsn
            rw [hb0]
            walk_at "go"
            refine AL.br_b (fun hh => ?_) (fun hh => ?_)
            · walk_at "go"
              refine ⟨kv3, .im (stD M), .im (fr (gv b t M (!w))), hk3, by omega, ?_⟩
              have : gvTo b t L w (i + 1) = some (gv b t M (!w)) := by rw [hsn]; show (if btr w _ _ then _ else _) = _; rw [if_pos hh]
              rw [this]; rfl
            · walk_at "go"
              refine ⟨kv3, .im (stD M), .im (fr (gv b t M (!w))), hk3, by omega, ?_⟩
              have : gvTo b t L w (i + 1) = some x := by rw [hsn]; show (if btr w _ _ then _ else _) = _; rw [hh]; rfl
              rw [this]; rfl
        · rintro g' ⟨kv2, e6, e7, hk2, hl3, rfl⟩
          rw [List.length_map] at hl3 ⊢
          have : (sucS L).length * cntG t ≤ 7 * cntG t := Nat.mul_le_mul_right _ hs7
          rw [gv_succ]
          exact ⟨kv2, _, _, hk2, by omega, rfl⟩
      rintro _ ⟨kv2, e6, e7, hk2, hl3, rfl⟩
      refine AL.ess_one (AL.es_putDc F.room n4 ?_)
      walk_at "go"
      refine ⟨_, _, rfl, ?_⟩
      walk_at "go"
      refine ⟨keyG L (t + 1), some 0, kv2, _, _, _, rfl, keyD_g L (t + 1), by walk_at "fz", rfl, by omega, by walk_at "se", ?_⟩
      have hp1 := putD_len kv2 (keyG L (t + 1)) (fr (gv b (t + 1) L w))
      refine ⟨_, _, _, _, ?_, by omega, put_get L (t + 1) _, rfl⟩
      rw [hw]
      exact hk2.put L (t + 1)
    · refine AL.ess_nil ?_
      have hs : (getK kvs (keyG L (t + 1))).isSome = true := by simpa using h
      exact ⟨kvs, _, _, _, hk, by omega, Option.isSome_iff_exists.mp hs, rfl⟩
  rintro _ ⟨kv2, e5, e6, e7, hk2, hl3, ⟨v, hv⟩, rfl⟩
  refine AL.ess_one (AL.es_ret (AL.ee_dcAt F.room n4 rfl ?_))
  walk_at "go"
  refine ⟨keyG L (t + 1), _, _, v, rfl, keyD_g L (t + 1), rfl, hv, ?_⟩
  rw [hk2.get hv, ← hw]
  exact ⟨rfl, _, rfl, hk2, hl3⟩
/-! ### minimax~ -/
abbrev N_minimax_v : List Str := ["state", "block", "turns", "player", "known", "best", "later", "end"]
theorem sc_minimax_v : FnScope N_minimax_v ["state", "block", "turns", "player", "known"] (defScope s_minimax) := ⟨rfl, rfl, rfl, by decide +kernel, rfl, by decide +kernel, by decide +kernel⟩
def S_minimax_v : ConD := fun kvs as r R => ∃ (L : List Bl) (b t n : Nat) (w c : Bool), as = [.d (stD L), .d (.int (b : Nat)), .d (.int (t : Nat)), .d (handD w)] ∧ OkSt n L ∧ n + 8 * t ≤ 1700 ∧ L.length ≤ 4 ∧ b < L.length ∧ t ≤ 3 ∧ w = par c t ∧ Kn b c kvs ∧ kvs.length + cntG t ≤ 1000 ∧ r = fr (gv b t L w) ∧ R = fun kvs' => Kn b c kvs' ∧ kvs'.length ≤ kvs.length + cntG t
theorem ok_minimax_v {P : Program} {w : World} {K : PySem.W.Frag} {mg : Str → Option Value} {base : Heap} {f : Addr} {fd : FuncData} (FD : FnP K "minimax" s_minimax f fd) (c_successors : Callable P w K mg base "successors" 6 (spN K 1 S_successors)) (c_minimax : Callable P w K mg base "minimax" 9 (spD K 5 S_minimax_v_v)) (c_opponent : Callable P w K mg base "opponent" 1 (spR K 1 S_opponent)) (c_is_better : Callable P w K mg base "is_better" 2 (spR K 3 S_is_better)) : FnOk P w K mg base CX0 10 f fd ["state", "block", "turns", "player", "known"] (spD K 5 S_minimax_v) := by
  refine fn_okD FD sc_minimax_v rfl ?_
  intro X e1 e2 e3 e4 e5 hp F C kvs as r R hS hl
  subst e1 e2 e3 e4 e5
  obtain ⟨L, b, t, n, w, c, rfl, O, hn, h4, hb, hT, hw, hk, hl2, rfl, rfl⟩ := hS
  have hl0 : (List.map blk L).length = L.length := List.length_map ..
  have O19 : OkSt 1900 L := O.mono (by omega)
  have n0 : Nm X 0 "state" := F.nm (by decide +kernel)
  have n1 : Nm X 1 "block" := F.nm (by decide +kernel)
  have n2 : Nm X 2 "turns" := F.nm (by decide +kernel)
  have n3 : Nm X 3 "player" := F.nm (by decide +kernel)
  have n4 : Nm X 4 "known" := F.nm (by decide +kernel)
  have n5 : Nm X 5 "best" := F.nm (by decide +kernel)
  have l5 : Lc X 5 "best" := F.lc (by decide +kernel)
  have n6 : Nm X 6 "later" := F.nm (by decide +kernel)
  have l6 : Lc X 6 "later" := F.lc (by decide +kernel)
  have n7 : Nm X 7 "end" := F.nm (by decide +kernel)
  have l7 : Lc X 7 "end" := F.lc (by decide +kernel)
  have g_successors : Gn X "successors" := F.gn (by decide +kernel)
  have g_minimax : Gn X "minimax" := F.gn (by decide +kernel)
  have g_opponent : Gn X "opponent" := F.gn (by decide +kernel)
  have g_is_better : Gn X "is_better" := F.gn (by decide +kernel)
  have d_successors : Cal X "successors" 9 (spN X.K 1 S_successors) := c_successors.mono (by decide)
  have d_minimax : Cal X "minimax" 9 (spD X.K 5 S_minimax_v_v) := c_minimax.mono (by decide)
  have d_opponent : Cal X "opponent" 9 (spR X.K 1 S_opponent) := c_opponent.mono (by decide)
  have d_is_better : Cal X "is_better" 9 (spR X.K 3 S_is_better) := c_is_better.mono (by decide)
  walk_at "text"
  walk_at "env"
  refine AL.ess_cut (R := fun g => 0 < t ∧ g = [.im (stD L), .im (.int (b : Nat)), .im (.int (t : Nat)), .im (handD w), .dc (some 0) kvs, .no, .no, .no]) ?_ ?_
  · walk_at "go"
    · refine ⟨by rename_i h; rw [show t = 0 by omega]; rfl, _, rfl, hk, by omega⟩
    · exact ⟨by omega, rfl⟩
  rintro _ ⟨ht, rfl⟩
  obtain ⟨t, rfl⟩ : ∃ t', t = t' + 1 := ⟨t - 1, by omega⟩
  have hc : cntG (t + 1) = 1 + 7 * cntG t := rfl
  have hw2 : (!w) = par c t := by rw [hw]; exact (par_succ c t).symm
  refine AL.ess_cut (R := fun g => ∃ kv2 e5 e6 e7, Kn b c kv2 ∧ kv2.length ≤ kvs.length + cntG (t + 1) ∧ (∃ v, getK kv2 (keyG L (t + 1)) = some v) ∧ g = [.im (stD L), .im (.int (b : Nat)), .im (.int (t + 1 : Nat)), .im (handD w), .dc (some 0) kv2, e5, e6, e7]) ?_ ?_
  · refine AL.es_if (AL.et_notInDc F.room n4 ?_)
    walk_at "go"
    refine ⟨keyG L (t + 1), _, _, rfl, keyD_g L (t + 1), rfl, ?_⟩
    refine AL.br_b (fun h => ?_) (fun h => ?_)
    · refine AL.ess_cut (R := fun g => g = [.im (stD L), .im (.int (b : Nat)), .im (.int (t + 1 : Nat)), .im (handD w), .dc (some 0) kvs, .im .none, .no, .no]) (by walk_at "go"; rfl) ?_
      rintro _ rfl
      have hsl := sucS_len L
      have hpl := prsL_len L.length
      have hs7 : (sucS L).length ≤ 7 := by
        rw [hsl]
        have : ∀ m, m ≤ 4 → (prsL m).length ≤ 6 := by decide
        have := this _ h4
        omega
      refine AL.ess_cut (R := fun g => ∃ kv2 e6 e7, Kn b c kv2 ∧ kv2.length ≤ kvs.length + 7 * cntG t ∧ g = [.im (stD L), .im (.int (b : Nat)), .im (.int (t + 1 : Nat)), .im (handD w), .dc (some 0) kv2, .im (fr (gv b (t + 1) L w)), e6, e7]) ?_ ?_
      · refine AL.es_for hp (by walk_at "calm") ?_
        refine AL.ei_list ?_
        walk_at "go"
        refine ⟨fun i g => ∃ kv2 e6 e7, Kn b c kv2 ∧ kv2.length ≤ kvs.length + i * cntG t ∧ g = [.im (stD L), .im (.int (b : Nat)), .im (.int (t + 1 : Nat)), .im (handD w), .dc (some 0) kv2, .im (bestD (gvTo b t L w i)), e6, e7], ⟨_, _, _, hk, by omega, rfl⟩, ?_, ?_⟩
        · rintro i d g' e ⟨kv2, e6, e7, hk2, hl3, rfl⟩
          rw [List.getElem?_map, Option.map_eq_some_iff] at e
          obtain ⟨M, e1, rfl⟩ := e
          have hi : i < (sucS L).length := (List.getElem?_eq_some_iff.mp e1).1
          have hi7 : i * cntG t ≤ 6 * cntG t := Nat.mul_le_mul_right _ (by omega)
          obtain ⟨OM, hML⟩ := sucS_ok O (List.mem_of_getElem? e1)
          have hMb : b < M.length := by omega
          have rg : Rb 4400 (gv b t M (!w)) := (gv_rb OM hMb).mono (by omega)
          have hsn := gvTo_snoc (b := b) (t := t) (w := w) e1
          have hmul : (i + 1) * cntG t = i * cntG t + cntG t := by rw [Nat.add_mul, Nat.one_mul]
          refine AL.eg_d (by walk_at "lc") (by walk_at "se") ?_
          refine AL.ess_cut (R := fun g => ∃ kv3, Kn b c kv3 ∧ kv3.length ≤ kv2.length + cntG t ∧ g = [.im (stD L), .im (.int (b : Nat)), .im (.int (t + 1 : Nat)), .im (handD w), .dc (some 0) kv3, .im (bestD (gvTo b t L w i)), .im (stD M), .im (fr (gv b t M (!w)))]) ?_ ?_
          · refine AL.es_set l7 (AL.ee_callD2 d_minimax (by walk_at "room") (by walk_at "gn") ?_)
            walk_at "go"
            have e9 : ((t + 1 : Nat) : Int) - 1 = (t : Nat) := by omega
            rw [e9]
            refine ⟨rfl, 4, some 0, kv2, [.d (stD M), .d (.int (b : Nat)), .d (.int (t : Nat)), .d (handD (!w))], _, _, _, rfl, by walk_at "cv", rfl, ⟨M, b, t, n + 8, !w, c, rfl, OM, by omega, by omega, hMb, by omega, hw2, hk2, by omega, rfl, rfl⟩, fun kv3 hR hl9 => ⟨_, by walk_at "se", ?_⟩⟩
            walk_at "go"
            exact ⟨kv3, hR.1, hR.2, rfl⟩
          rintro _ ⟨kv3, hk3, hl4, rfl⟩
          by_cases h0 : i = 0
          · subst h0
            have hb0 : bestD (gvTo b t L w 0) = PyData.none := rfl
            have hb1 : gvTo b t L w (0 + 1) = some (gv b t M (!w)) := hsn
            rw [hb0]
            walk_at "go"
            exact ⟨kv3, .im (stD M), .im (fr (gv b t M (!w))), hk3, by omega, by rw [hb1]; rfl⟩
          · obtain ⟨x, hx, N, hN, hxN⟩ := gvTo_some (b := b) (t := t) (L := L) (w := w) (i := i) (by omega) (by omega)
            obtain ⟨ON, hNL⟩ := sucS_ok O hN
            have rx : Rb 4400 x := by rw [hxN]; exact (gv_rb ON (by omega)).mono (by omega)
            have hb0 : bestD (gvTo b t L w i) = fr x := by rw [hx]; rfl
            rw [hx] at hsn
            rw [hb0]
            walk_at "go"
            refine AL.br_b (fun hh => ?_) (fun hh => ?_)
            · walk_at "go"
              refine ⟨kv3, .im (stD M), .im (fr (gv b t M (!w))), hk3, by omega, ?_⟩
              have : gvTo b t L w (i + 1) = some (gv b t M (!w)) := by rw [hsn]; show (if btr w _ _ then _ else _) = _; rw [if_pos hh]
              rw [this]; rfl
            · walk_at "go"
              refine ⟨kv3, .im (stD M), .im (fr (gv b t M (!w))), hk3, by omega, ?_⟩
              have : gvTo b t L w (i + 1) = some x := by rw [hsn]; show (if btr w _ _ then _ else _) = _; rw [hh]; rfl
              rw [this]; rfl
        · rintro g' ⟨kv2, e6, e7, hk2, hl3, rfl⟩
          rw [List.length_map] at hl3 ⊢
          have : (sucS L).length * cntG t ≤ 7 * cntG t := Nat.mul_le_mul_right _ hs7
          rw [gv_succ]
          exact ⟨kv2, _, _, hk2, by omega, rfl⟩
      rintro _ ⟨kv2, e6, e7, hk2, hl3, rfl⟩
      refine AL.ess_one (AL.es_putDc F.room n4 ?_)
      walk_at "go"
      refine ⟨_, _, rfl, ?_⟩
      walk_at "go"
      refine ⟨keyG L (t + 1), some 0, kv2, _, _, _, rfl, keyD_g L (t + 1), by walk_at "fz", rfl, by omega, by walk_at "se", ?_⟩
      have hp1 := putD_len kv2 (keyG L (t + 1)) (fr (gv b (t + 1) L w))
      refine ⟨_, _, _, _, ?_, by omega, put_get L (t + 1) _, rfl⟩
      rw [hw]
      exact hk2.put L (t + 1)
    · refine AL.ess_nil ?_
      have hs : (getK kvs (keyG L (t + 1))).isSome = true := by simpa using h
      exact ⟨kvs, _, _, _, hk, by omega, Option.isSome_iff_exists.mp hs, rfl⟩
  rintro _ ⟨kv2, e5, e6, e7, hk2, hl3, ⟨v, hv⟩, rfl⟩
  refine AL.ess_one (AL.es_ret (AL.ee_dcAt F.room n4 rfl ?_))
  walk_at "go"
  refine ⟨keyG L (t + 1), _, _, v, rfl, keyD_g L (t + 1), rfl, hv, ?_⟩
  rw [hk2.get hv, ← hw]
  exact ⟨rfl, _, rfl, hk2, hl3⟩
/-! ### minimax -/
abbrev N_minimax : List Str := ["state", "block", "turns", "player", "known", "best", "later", "end"]
theorem sc_minimax : FnScope N_minimax ["state", "block", "turns", "player", "known"] (defScope s_minimax) := ⟨rfl, rfl, rfl, by decide +kernel, rfl, by decide +kernel, by decide +kernel⟩
def S_minimax : ConD := fun kvs as r R => ∃ (L : List Bl) (b t n : Nat) (w c : Bool), as = [.d (stD L), .d (.int (b : Nat)), .d (.int (t : Nat)), .d (handD w)] ∧ OkSt n L ∧ n + 8 * t ≤ 1700 ∧ L.length ≤ 4 ∧ b < L.length ∧ t ≤ 4 ∧ w = par c t ∧ Kn b c kvs ∧ kvs.length + cntG t ≤ 1000 ∧ r = fr (gv b t L w) ∧ R = fun kvs' => Kn b c kvs' ∧ kvs'.length ≤ kvs.length + cntG t
theorem ok_minimax {P : Program} {w : World} {K : PySem.W.Frag} {mg : Str → Option Value} {base : Heap} {f : Addr} {fd : FuncData} (FD : FnP K "minimax" s_minimax f fd) (c_successors : Callable P w K mg base "successors" 6 (spN K 1 S_successors)) (c_minimax : Callable P w K mg base "minimax" 10 (spD K 5 S_minimax_v)) (c_opponent : Callable P w K mg base "opponent" 1 (spR K 1 S_opponent)) (c_is_better : Callable P w K mg base "is_better" 2 (spR K 3 S_is_better)) : FnOk P w K mg base CX0 11 f fd ["state", "block", "turns", "player", "known"] (spD K 5 S_minimax) := by
  refine fn_okD FD sc_minimax rfl ?_
  intro X e1 e2 e3 e4 e5 hp F C kvs as r R hS hl
  subst e1 e2 e3 e4 e5
  obtain ⟨L, b, t, n, w, c, rfl, O, hn, h4, hb, hT, hw, hk, hl2, rfl, rfl⟩ := hS
  have hl0 : (List.map blk L).length = L.length := List.length_map ..
  have O19 : OkSt 1900 L := O.mono (by omega)
  have n0 : Nm X 0 "state" := F.nm (by decide +kernel)
  have n1 : Nm X 1 "block" := F.nm (by decide +kernel)
  have n2 : Nm X 2 "turns" := F.nm (by decide +kernel)
  have n3 : Nm X 3 "player" := F.nm (by decide +kernel)
  have n4 : Nm X 4 "known" := F.nm (by decide +kernel)
  have n5 : Nm X 5 "best" := F.nm (by decide +kernel)
  have l5 : Lc X 5 "best" := F.lc (by decide +kernel)
  have n6 : Nm X 6 "later" := F.nm (by decide +kernel)
  have l6 : Lc X 6 "later" := F.lc (by decide +kernel)
  have n7 : Nm X 7 "end" := F.nm (by decide +kernel)
  have l7 : Lc X 7 "end" := F.lc (by decide +kernel)
  have g_successors : Gn X "successors" := F.gn (by decide +kernel)
  have g_minimax : Gn X "minimax" := F.gn (by decide +kernel)
  have g_opponent : Gn X "opponent" := F.gn (by decide +kernel)
  have g_is_better : Gn X "is_better" := F.gn (by decide +kernel)
  have d_successors : Cal X "successors" 10 (spN X.K 1 S_successors) := c_successors.mono (by decide)
  have d_minimax : Cal X "minimax" 10 (spD X.K 5 S_minimax_v) := c_minimax.mono (by decide)
  have d_opponent : Cal X "opponent" 10 (spR X.K 1 S_opponent) := c_opponent.mono (by decide)
  have d_is_better : Cal X "is_better" 10 (spR X.K 3 S_is_better) := c_is_better.mono (by decide)
  walk_at "text"
  walk_at "env"
  refine AL.ess_cut (R := fun g => 0 < t ∧ g = [.im (stD L), .im (.int (b : Nat)), .im (.int (t : Nat)), .im (handD w), .dc (some 0) kvs, .no, .no, .no]) ?_ ?_
  · walk_at "go"
    · refine ⟨by rename_i h; rw [show t = 0 by omega]; rfl, _, rfl, hk, by omega⟩
    · exact ⟨by omega, rfl⟩
  rintro _ ⟨ht, rfl⟩
  obtain ⟨t, rfl⟩ : ∃ t', t = t' + 1 := ⟨t - 1, by omega⟩
  have hc : cntG (t + 1) = 1 + 7 * cntG t := rfl
  have hw2 : (!w) = par c t := by rw [hw]; exact (par_succ c t).symm
  refine AL.ess_cut (R := fun g => ∃ kv2 e5 e6 e7, Kn b c kv2 ∧ kv2.length ≤ kvs.length + cntG (t + 1) ∧ (∃ v, getK kv2 (keyG L (t + 1)) = some v) ∧ g = [.im (stD L), .im (.int (b : Nat)), .im (.int (t + 1 : Nat)), .im (handD w), .dc (some 0) kv2, e5, e6, e7]) ?_ ?_
  · refine AL.es_if (AL.et_notInDc F.room n4 ?_)
    walk_at "go"
    refine ⟨keyG L (t + 1), _, _, rfl, keyD_g L (t + 1), rfl, ?_⟩
    refine AL.br_b (fun h => ?_) (fun h => ?_)
    · refine AL.ess_cut (R := fun g => g = [.im (stD L), .im (.int (b : Nat)), .im (.int (t + 1 : Nat)), .im (handD w), .dc (some 0) kvs, .im .none, .no, .no]) (by walk_at "go"; rfl) ?_
      rintro _ rfl
      have hsl := sucS_len L
      have hpl := prsL_len L.length
      have hs7 : (sucS L).length ≤ 7 := by
        rw [hsl]
        have : ∀ m, m ≤ 4 → (prsL m).length ≤ 6 := by decide
        have := this _ h4
        omega
      refine AL.ess_cut (R := fun g => ∃ kv2 e6 e7, Kn b c kv2 ∧ kv2.length ≤ kvs.length + 7 * cntG t ∧ g = [.im (stD L), .im (.int (b : Nat)), .im (.int (t + 1 : Nat)), .im (handD w), .dc (some 0) kv2, .im (fr (gv b (t + 1) L w)), e6, e7]) ?_ ?_
      · refine AL.es_for hp (by walk_at "calm") ?_
        refine AL.ei_list ?_
        walk_at "go"
        refine ⟨fun i g => ∃ kv2 e6 e7, Kn b c kv2 ∧ kv2.length ≤ kvs.length + i * cntG t ∧ g = [.im (stD L), .im (.int (b : Nat)), .im (.int (t + 1 : Nat)), .im (handD w), .dc (some 0) kv2, .im (bestD (gvTo b t L w i)), e6, e7], ⟨_, _, _, hk, by omega, rfl⟩, ?_, ?_⟩
        · rintro i d g' e ⟨kv2, e6, e7, hk2, hl3, rfl⟩
          rw [List.getElem?_map, Option.map_eq_some_iff] at e
          obtain ⟨M, e1, rfl⟩ := e
          have hi : i < (sucS L).length := (List.getElem?_eq_some_iff.mp e1).1
          have hi7 : i * cntG t ≤ 6 * cntG t := Nat.mul_le_mul_right _ (by omega)
          obtain ⟨OM, hML⟩ := sucS_ok O (List.mem_of_getElem? e1)
          have hMb : b < M.length := by omega
          have rg : Rb 4400 (gv b t M (!w)) := (gv_rb OM hMb).mono (by omega)
          have hsn := gvTo_snoc (b := b) (t := t) (w := w) e1
          have hmul : (i + 1) * cntG t = i * cntG t + cntG t := by rw [Nat.add_mul, Nat.one_mul]
          refine AL.eg_d (by walk_at "lc") (by walk_at "se") ?_
          refine AL.ess_cut (R := fun g => ∃ kv3, Kn b c kv3 ∧ kv3.length ≤ kv2.length + cntG t ∧ g = [.im (stD L), .im (.int (b : Nat)), .im (.int (t + 1 : Nat)), .im (handD w), .dc (some 0) kv3, .im (bestD (gvTo b t L w i)), .im (stD M), .im (fr (gv b t M (!w)))]) ?_ ?_
          · refine AL.es_set l7 (AL.ee_callD2 d_minimax (by walk_at "room") (by walk_at "gn") ?_)
            walk_at "go"
            have e9 : ((t + 1 : Nat) : Int) - 1 = (t : Nat) := by omega
            rw [e9]
            refine ⟨rfl, 4, some 0, kv2, [.d (stD M), .d (.int (b : Nat)), .d (.int (t : Nat)), .d (handD (!w))], _, _, _, rfl, by walk_at "cv", rfl, ⟨M, b, t, n + 8, !w, c, rfl, OM, by omega, by omega, hMb, by omega, hw2, hk2, by omega, rfl, rfl⟩, fun kv3 hR hl9 => ⟨_, by walk_at "se", ?_⟩⟩
            walk_at "go"
            exact ⟨kv3, hR.1, hR.2, rfl⟩
          rintro _ ⟨kv3, hk3, hl4, rfl⟩
          by_cases h0 : i = 0
          · subst h0
            have hb0 : bestD (gvTo b t L w 0) = PyData.none := rfl
            have hb1 : gvTo b t L w (0 + 1) = some (gv b t M (!w)) := hsn
            rw [hb0]
            walk_at "go"
            exact ⟨kv3, .im (stD M), .im (fr (gv b t M (!w))), hk3, by omega, by rw [hb1]; rfl⟩
          · obtain ⟨x, hx, N, hN, hxN⟩ := gvTo_some (b := b) (t := t) (L := L) (w := w) (i := i) (by omega) (by omega)
            obtain ⟨ON, hNL⟩ := sucS_ok O hN
            have rx : Rb 4400 x := by rw [hxN]; exact (gv_rb ON (by omega)).mono (by omega)
            have hb0 : bestD (gvTo b t L w i) = fr x := by rw [hx]; rfl
            rw [hx] at hsn
            rw [hb0]
            walk_at "go"
            refine AL.br_b (fun hh => ?_) (fun hh => ?_)
            · walk_at "go"
              refine ⟨kv3, .im (stD M), .im (fr (gv b t M (!w))), hk3, by omega, ?_⟩
              have : gvTo b t L w (i + 1) = some (gv b t M (!w)) := by rw [hsn]; show (if btr w _ _ then _ else _) = _; rw [if_pos hh]
              rw [this]; rfl
            · walk_at "go"
              refine ⟨kv3, .im (stD M), .im (fr (gv b t M (!w))), hk3, by omega, ?_⟩
              have : gvTo b t L w (i + 1) = some x := by rw [hsn]; show (if btr w _ _ then _ else _) = _; rw [hh]; rfl
              rw [this]; rfl
        · rintro g' ⟨kv2, e6, e7, hk2, hl3, rfl⟩
          rw [List.length_map] at hl3 ⊢
          have : (sucS L).length * cntG t ≤ 7 * cntG t := Nat.mul_le_mul_right _ hs7
          rw [gv_succ]
          exact ⟨kv2, _, _, hk2, by omega, rfl⟩
      rintro _ ⟨kv2, e6, e7, hk2, hl3, rfl⟩
      refine AL.ess_one (AL.es_putDc F.room n4 ?_)
      walk_at "go"
      refine ⟨_, _, rfl, ?_⟩
      walk_at "go"
      refine ⟨keyG L (t + 1), some 0, kv2, _, _, _, rfl, keyD_g L (t + 1), by walk_at "fz", rfl, by omega, by walk_at "se", ?_⟩
      have hp1 := putD_len kv2 (keyG L (t + 1)) (fr (gv b (t + 1) L w))
      refine ⟨_, _, _, _, ?_, by omega, put_get L (t + 1) _, rfl⟩
      rw [hw]
      exact hk2.put L (t + 1)
    · refine AL.ess_nil ?_
      have hs : (getK kvs (keyG L (t + 1))).isSome = true := by simpa using h
      exact ⟨kvs, _, _, _, hk, by omega, Option.isSome_iff_exists.mp hs, rfl⟩
  rintro _ ⟨kv2, e5, e6, e7, hk2, hl3, ⟨v, hv⟩, rfl⟩
  refine AL.ess_one (AL.es_ret (AL.ee_dcAt F.room n4 rfl ?_))
  walk_at "go"
  refine ⟨keyG L (t + 1), _, _, v, rfl, keyD_g L (t + 1), rfl, hv, ?_⟩
  rw [hk2.get hv, ← hw]
  exact ⟨rfl, _, rfl, hk2, hl3⟩
/-! ### game_value -/
abbrev N_game_value : List Str := ["state", "block", "turns", "first"]
theorem sc_game_value : FnScope N_game_value ["state", "block", "turns", "first"] (defScope s_game_value) := ⟨rfl, rfl, rfl, by decide +kernel, rfl, by decide +kernel, by decide +kernel⟩
def S_game_value : Con := fun as r => ∃ (L : List Bl) (b t : Nat) (w : Bool), as = [.d (stD L), .d (.int (b : Nat)), .d (.int (t : Nat)), .d (handD w)] ∧ OkSt 1640 L ∧ L.length ≤ 4 ∧ b < L.length ∧ t ≤ 4 ∧ r = fr (gv b t L w)
theorem ok_game_value {P : Program} {w : World} {K : PySem.W.Frag} {mg : Str → Option Value} {base : Heap} {f : Addr} {fd : FuncData} (FD : FunD K "game_value" "game_value" (defArgs s_game_value) (defBody s_game_value) (defScope s_game_value) [] [("first", .str "warm")] f fd) (c_check_game : Callable P w K mg base "check_game" 7 (spR K 4 S_check_game)) (c_minimax : Callable P w K mg base "minimax" 11 (spD K 5 S_minimax)) : FnOk P w K mg base CX0 12 f fd ["state", "block", "turns", "first"] (spR K 4 S_game_value) := by
  refine fn_ok FD sc_game_value rfl ?_
  intro X e1 e2 e3 e4 e5 hp F C as r hS hl hW
  subst e1 e2 e3 e4 e5
  obtain ⟨L, b, t, w, rfl, O, h4, hb, ht, rfl⟩ := hS
  have n0 : Nm X 0 "state" := F.nm (by decide +kernel)
  have n1 : Nm X 1 "block" := F.nm (by decide +kernel)
  have n2 : Nm X 2 "turns" := F.nm (by decide +kernel)
  have n3 : Nm X 3 "first" := F.nm (by decide +kernel)
  have g_check_game : Gn X "check_game" := F.gn (by decide +kernel)
  have g_minimax : Gn X "minimax" := F.gn (by decide +kernel)
  have d_check_game : Cal X "check_game" 11 (spR X.K 4 S_check_game) := c_check_game.mono (by decide)
  have d_minimax : Cal X "minimax" 11 (spD X.K 5 S_minimax) := c_minimax.mono (by decide)
  walk_at "text"
  walk_at "env"
  refine AL.ess_cut (R := fun g => g = [.im (stD L), .im (.int (b : Nat)), .im (.int (t : Nat)), .im (handD w)]) (by walk_at "go"; rfl) ?_
  rintro _ rfl
  refine AL.ess_one (AL.es_ret (AL.ee_callD0 d_minimax (by walk_at "room") (by walk_at "gn") ?_))
  walk_at "go"
  have hcn : cntG t ≤ 400 := by
    have : ∀ t, t ≤ 4 → cntG t ≤ 400 := by decide
    exact this t ht
  refine ⟨[.d (stD L), .d (.int (b : Nat)), .d (.int (t : Nat)), .d (handD w)], _, _, by walk_at "cv", ⟨L, b, t, 1640, w, par w t, rfl, O, by omega, h4, hb, ht, (par_par w t).symm, (fun kv hkv => by cases hkv), by simp; omega, rfl, rfl⟩, ?_⟩
  exact AL.ret_d rfl
local macro_rules | `(tactic| walk_at "con") => `(tactic| ((with_reducible show S_game_value _ _); unfold S_game_value; exact by first | exact ⟨_, _, _, _, rfl, by walk_at "pf", by walk_at "pf", by walk_at "pf", by walk_at "pf", rfl⟩ | exact ⟨_, _, _, true, rfl, by walk_at "pf", by walk_at "pf", by walk_at "pf", by walk_at "pf", rfl⟩ | exact ⟨_, _, _, false, rfl, by walk_at "pf", by walk_at "pf", by walk_at "pf", by walk_at "pf", rfl⟩))
/-! ### optimal_first_turns -/
abbrev N_optimal_first_turns : List Str := ["state", "block", "turns", "first", "known", "best", "found", "turn", "later"]
theorem sc_optimal_first_turns : FnScope N_optimal_first_turns ["state", "block", "turns", "first"] (defScope s_optimal_first_turns) := ⟨rfl, rfl, rfl, by decide +kernel, rfl, by decide +kernel, by decide +kernel⟩
def S_optimal_first_turns : List Ar → List PyData → Prop := fun as r => ∃ (L : List Bl) (b t : Nat) (w : Bool), as = [.d (stD L), .d (.int (b : Nat)), .d (.int (t : Nat)), .d (handD w)] ∧ OkSt 1640 L ∧ L.length ≤ 4 ∧ b < L.length ∧ t ≤ 4 ∧ r = otD b t L w
theorem ok_optimal_first_turns {P : Program} {w : World} {K : PySem.W.Frag} {mg : Str → Option Value} {base : Heap} {f : Addr} {fd : FuncData} (FD : FunD K "optimal_first_turns" "optimal_first_turns" (defArgs s_optimal_first_turns) (defBody s_optimal_first_turns) (defScope s_optimal_first_turns) [] [("first", .str "warm")] f fd) (c_check_game : Callable P w K mg base "check_game" 7 (spR K 4 S_check_game)) (c_minimax : Callable P w K mg base "minimax" 11 (spD K 5 S_minimax)) (c_successors : Callable P w K mg base "successors" 6 (spN K 1 S_successors)) (c_allowed_pairs : Callable P w K mg base "allowed_pairs" 1 (spN K 2 S_allowed_pairs)) (c_opponent : Callable P w K mg base "opponent" 1 (spR K 1 S_opponent)) (b_zip : mg "zip" = none) (b_len : mg "len" = none) : FnOk P w K mg base CX0 12 f fd ["state", "block", "turns", "first"] (spN K 4 S_optimal_first_turns) := by
  refine fn_okN FD sc_optimal_first_turns rfl ?_
  intro X e1 e2 e3 e4 e5 hp F C as r hS hl hW
  subst e1 e2 e3 e4 e5
  obtain ⟨L, b, t, w, rfl, O, h4, hb, ht, rfl⟩ := hS
  have O19 : OkSt 1900 L := O.mono (by decide)
  have hl0 : (List.map blk L).length = L.length := List.length_map ..
  have n0 : Nm X 0 "state" := F.nm (by decide +kernel)
  have n1 : Nm X 1 "block" := F.nm (by decide +kernel)
  have n2 : Nm X 2 "turns" := F.nm (by decide +kernel)
  have n3 : Nm X 3 "first" := F.nm (by decide +kernel)
  have n4 : Nm X 4 "known" := F.nm (by decide +kernel)
  have l4 : Lc X 4 "known" := F.lc (by decide +kernel)
  have n5 : Nm X 5 "best" := F.nm (by decide +kernel)
  have l5 : Lc X 5 "best" := F.lc (by decide +kernel)
  have n6 : Nm X 6 "found" := F.nm (by decide +kernel)
  have l6 : Lc X 6 "found" := F.lc (by decide +kernel)
  have n7 : Nm X 7 "turn" := F.nm (by decide +kernel)
  have l7 : Lc X 7 "turn" := F.lc (by decide +kernel)
  have n8 : Nm X 8 "later" := F.nm (by decide +kernel)
  have l8 : Lc X 8 "later" := F.lc (by decide +kernel)
  have g_check_game : Gn X "check_game" := F.gn (by decide +kernel)
  have g_minimax : Gn X "minimax" := F.gn (by decide +kernel)
  have g_successors : Gn X "successors" := F.gn (by decide +kernel)
  have g_allowed_pairs : Gn X "allowed_pairs" := F.gn (by decide +kernel)
  have g_opponent : Gn X "opponent" := F.gn (by decide +kernel)
  have d_check_game : Cal X "check_game" 11 (spR X.K 4 S_check_game) := c_check_game.mono (by decide)
  have d_minimax : Cal X "minimax" 11 (spD X.K 5 S_minimax) := c_minimax.mono (by decide)
  have d_successors : Cal X "successors" 11 (spN X.K 1 S_successors) := c_successors.mono (by decide)
  have d_allowed_pairs : Cal X "allowed_pairs" 11 (spN X.K 2 S_allowed_pairs) := c_allowed_pairs.mono (by decide)
  have d_opponent : Cal X "opponent" 11 (spR X.K 1 S_opponent) := c_opponent.mono (by decide)
  have z_zip : Bn X "zip" := F.bn (by decide +kernel) b_zip
  have z_len : Bn X "len" := F.bn (by decide +kernel) b_len
  walk_at "text"
  walk_at "env"
  refine AL.ess_cut (R := fun g => g = [.im (stD L), .im (.int (b : Nat)), .im (.int (t : Nat)), .im (handD w), .no, .no, .no, .no, .no]) (by walk_at "go"; rfl) ?_
  rintro _ rfl
  refine AL.ess_cut (R := fun g => 0 < t ∧ g = [.im (stD L), .im (.int (b : Nat)), .im (.int (t : Nat)), .im (handD w), .no, .no, .no, .no, .no]) ?_ ?_
  · walk_at "go"
    · rename_i h
      rw [show t = 0 by omega]
      refine AL.es_retL ?_
      walk_at "go"
      rfl
    · exact ⟨by omega, rfl⟩
  rintro _ ⟨h0, rfl⟩
  obtain ⟨t, rfl⟩ : ∃ t', t = t' + 1 := ⟨t - 1, by omega⟩
  have hc : cntG (t + 1) = 1 + 7 * cntG t := rfl
  have hcn : cntG (t + 1) ≤ 400 := by
    have : ∀ t, t ≤ 4 → cntG t ≤ 400 := by decide
    exact this _ ht
  have hcm : cntG t ≤ 57 := by omega
  have e9 : ((t + 1 : Nat) : Int) - 1 = (t : Nat) := by omega
  obtain ⟨c, hw⟩ : ∃ c, w = par c (t + 1) := ⟨par w (t + 1), (par_par w (t + 1)).symm⟩
  have hw2 : (!w) = par c t := by rw [hw]; exact (par_succ c t).symm
  refine AL.ess_cut (R := fun g => g = [.im (stD L), .im (.int (b : Nat)), .im (.int (t + 1 : Nat)), .im (handD w), .dc none [], .no, .no, .no, .no]) (AL.es_newDc l4 (by walk_at "se") rfl) ?_
  rintro _ rfl
  refine AL.ess_cut (R := fun g => ∃ kv, Kn b c kv ∧ kv.length ≤ 400 ∧ g = [.im (stD L), .im (.int (b : Nat)), .im (.int (t + 1 : Nat)), .im (handD w), .dc none kv, .im (fr (gv b (t + 1) L w)), .no, .no, .no]) ?_ ?_
  · refine AL.es_set l5 (AL.ee_callD2 d_minimax (by walk_at "room") (by walk_at "gn") ?_)
    walk_at "go"
    refine ⟨rfl, 4, none, [], [.d (stD L), .d (.int (b : Nat)), .d (.int (t + 1 : Nat)), .d (handD w)], _, _, _, rfl, by walk_at "cv", rfl, ⟨L, b, t + 1, 1640, w, c, rfl, O, by omega, h4, hb, ht, hw, (fun kv hkv => by cases hkv), by simp; omega, rfl, rfl⟩, fun kv hR hl9 => ⟨_, by walk_at "se", ?_⟩⟩
    walk_at "go"
    exact ⟨kv, hR.1, by have := hR.2; simp at this; omega, rfl⟩
  rintro _ ⟨kv, hk, hkl, rfl⟩
  refine AL.ess_cut (R := fun g => g = [.im (stD L), .im (.int (b : Nat)), .im (.int (t + 1 : Nat)), .im (handD w), .dc none kv, .im (fr (gv b (t + 1) L w)), .ls none (otTo b t L w 0), .no, .no]) (by walk_at "go"; rfl) ?_
  rintro _ rfl
  have hs7 := sucS_le h4
  have rgB : Rb 4400 (gv b (t + 1) L w) := (gv_rb O hb).mono (by omega)
  refine AL.ess_cut (R := fun g => ∃ kv e7 e8, g = [.im (stD L), .im (.int (b : Nat)), .im (.int (t + 1 : Nat)), .im (handD w), .dc none kv, .im (fr (gv b (t + 1) L w)), .ls none (otD b (t + 1) L w), e7, e8]) ?_ ?_
  · refine AL.es_for hp (by walk_at "calm") ?_
    refine SZ.ei_zipSL (by walk_at "bn") (AL.ee_en (AL.en_cat ?_))
    walk_at "go"
    refine ⟨[.none], (prsL L.length).map tcD, .inl rfl, .inl (by rw [hl0]), by have := prsL_len L.length; have := Nat.mul_le_mul h4 h4; rw [List.length_map]; show 1 + _ ≤ _; omega, ?_⟩
    walk_at "go"
    have hTL : [PyData.none] ++ (prsL L.length).map tcD = turnsL L := rfl
    rw [hTL]
    have hzl : (turnsL L).length = ((sucS L).map stD).length := by rw [turnsL_len, List.length_map]
    walk_at "go"
    refine ⟨hzl, ?_⟩
    refine ⟨fun i g => ∃ kv e7 e8, Kn b c kv ∧ kv.length ≤ 400 + i * cntG t ∧ g = [.im (stD L), .im (.int (b : Nat)), .im (.int (t + 1 : Nat)), .im (handD w), .dc none kv, .im (fr (gv b (t + 1) L w)), .ls none (otTo b t L w i), e7, e8], ⟨_, _, _, hk, by omega, rfl⟩, ?_, ?_⟩
    · rintro i d g' e ⟨kv2, e7, e8, hk2, hl2, rfl⟩
      obtain ⟨x, y, ex, ey, rfl⟩ := zipD_get e
      rw [List.getElem?_map, Option.map_eq_some_iff] at ey
      obtain ⟨M, eM, rfl⟩ := ey
      have hi : i < (sucS L).length := (List.getElem?_eq_some_iff.mp eM).1
      have hi7 : i * cntG t ≤ 6 * cntG t := Nat.mul_le_mul_right _ (by omega)
      obtain ⟨OM, hML⟩ := sucS_ok O (List.mem_of_getElem? eM)
      have hMb : b < M.length := by omega
      have rg : Rb 4400 (gv b t M (!w)) := (gv_rb OM hMb).mono (by omega)
      have hsn := otTo_snoc (b := b) (t := t) (w := w) ex eM
      have hol := otTo_len b t L w i
      have hmul : (i + 1) * cntG t = i * cntG t + cntG t := by rw [Nat.add_mul, Nat.one_mul]
      refine AL.eg_cut (R := fun g => g = [.im (stD L), .im (.int (b : Nat)), .im (.int (t + 1 : Nat)), .im (handD w), .dc none kv2, .im (fr (gv b (t + 1) L w)), .ls none (otTo b t L w i), .im x, .im (stD M)]) (by walk_at "go"; rfl) ?_
      rintro _ rfl
      walk_at "go"
      refine AL.ee_callD2 d_minimax (by walk_at "room") (by walk_at "gn") ?_
      walk_at "go"
      rw [e9]
      refine ⟨rfl, 4, none, kv2, [.d (stD M), .d (.int (b : Nat)), .d (.int (t : Nat)), .d (handD (!w))], _, _, _, rfl, by walk_at "cv", rfl, ⟨M, b, t, 1648, !w, c, rfl, OM, by omega, by omega, hMb, by omega, hw2, hk2, by omega, rfl, rfl⟩, fun kv3 hR hl9 => ⟨_, by walk_at "se", ?_⟩⟩
      have hR1 := hR.1
      have hR2 := hR.2
      walk_at "go"
      · rename_i h
        refine ⟨kv3, .im x, .im (stD M), hR1, by omega, ?_⟩
        rw [hsn, if_pos (Rat.ext h.1 (by have := h.2; omega))]
      · rename_i h
        refine ⟨kv3, .im x, .im (stD M), hR1, by omega, ?_⟩
        rw [hsn, if_neg (fun z => h ⟨by rw [z], by rw [z]⟩), List.append_nil]
    · rintro g' ⟨kv2, e7, e8, hk2, hl2, rfl⟩
      rw [zipD_len, turnsL_len, List.length_map, Nat.min_self]
      have e : otTo b t L w (sucS L).length = otD b (t + 1) L w := rfl
      rw [e]
      exact ⟨kv2, _, _, rfl⟩
  rintro _ ⟨kv2, e7, e8, rfl⟩
  walk_at "go"
  exact .o rfl rfl
local macro_rules | `(tactic| walk_at "con") => `(tactic| ((with_reducible show S_optimal_first_turns _ _); unfold S_optimal_first_turns; exact by first | exact ⟨_, _, _, _, rfl, by walk_at "pf", by walk_at "pf", by walk_at "pf", by walk_at "pf", rfl⟩ | exact ⟨_, _, _, true, rfl, by walk_at "pf", by walk_at "pf", by walk_at "pf", by walk_at "pf", rfl⟩ | exact ⟨_, _, _, false, rfl, by walk_at "pf", by walk_at "pf", by walk_at "pf", by walk_at "pf", rfl⟩))
/-! ### _law_pool -/
abbrev N_w_pool : List Str := ["_law_script", "_law_k", "_law_cell", "_law_blend"]
theorem sc_w_pool : FnScope N_w_pool ["_law_script", "_law_k"] (defScope s_w_pool) := ⟨rfl, rfl, rfl, by decide +kernel, rfl, by decide +kernel, by decide +kernel⟩
def S_w_pool : List Ar → List PyData → Prop := fun as r => ∃ ns k, as = [.d (scr ns), .d (.int (k : Nat))] ∧ k < 64 ∧ r = (pool ns k).ds
theorem ok_w_pool {P : Program} {w : World} {K : PySem.W.Frag} {mg : Str → Option Value} {base : Heap} {f : Addr} {fd : FuncData} (FD : FnP K "_law_pool" s_w_pool f fd) (b_len : mg "len" = none) (b_abs : mg "abs" = none) (b_int : mg "int" = none) : FnOk P w K mg base CX0 1 f fd ["_law_script", "_law_k"] (spN K 2 S_w_pool) := by
  refine fn_okN FD sc_w_pool rfl ?_
  intro X e1 e2 e3 e4 e5 hp F C as r hS hl hW
  subst e1 e2 e3 e4 e5
  obtain ⟨ns, k, rfl, hk, rfl⟩ := hS
  have n0 : Nm X 0 "_law_script" := F.nm (by decide +kernel)
  have n1 : Nm X 1 "_law_k" := F.nm (by decide +kernel)
  have n2 : Nm X 2 "_law_cell" := F.nm (by decide +kernel)
  have l2 : Lc X 2 "_law_cell" := F.lc (by decide +kernel)
  have n3 : Nm X 3 "_law_blend" := F.nm (by decide +kernel)
  have l3 : Lc X 3 "_law_blend" := F.lc (by decide +kernel)
  have z_len : Bn X "len" := F.bn (by decide +kernel) b_len
  have z_abs : Bn X "abs" := F.bn (by decide +kernel) b_abs
  have z_int : Bn X "int" := F.bn (by decide +kernel) b_int
  walk_at "text"
  walk_at "env"
  by_cases hk2 : k < ns.length
  · have hix : ns[((k : Nat) : Int).toNat]? = some (ns.getD k 0) := by rw [Int.toNat_natCast]; simp [hk2]
    have hc : cellS ns k = (if ns.getD k 0 < 0 then -(ns.getD k 0) else ns.getD k 0) := by unfold cellS; rw [if_pos hk2, abs_if]
    walk_at "go"
    all_goals try (exfalso; omega)
    refine AL.es_retL ?_
    walk_at "go"
    unfold pool
    rw [hc]; rfl
  · walk_at "go"
    all_goals try (exfalso; omega)
    refine AL.es_retL ?_
    walk_at "go"
    unfold pool
    rw [show cellS ns k = 0 from if_neg hk2]; rfl
local macro_rules | `(tactic| walk_at "con") => `(tactic| ((with_reducible show S_w_pool _ _); unfold S_w_pool; exact ⟨_, _, rfl, by walk_at "pf", rfl⟩))
/-! ### _law_take -/
abbrev N_w_take : List Str := ["_law_pool_here", "_law_sides", "_law_found"]
theorem sc_w_take : FnScope N_w_take ["_law_pool_here", "_law_sides"] (defScope s_w_take) := ⟨rfl, rfl, rfl, by decide +kernel, rfl, by decide +kernel, by decide +kernel⟩
def S_w_take : ConM := fun ds as r ds' => ∃ (p : Pl) (v : Int), ds = p.ds ∧ as = [.d (.int v)] ∧ p.Ok ∧ 0 < v ∧ v < 2 ^ 140 ∧ r = .int (pick p v) ∧ ds' = (left p v).ds
theorem ok_w_take {P : Program} {w : World} {K : PySem.W.Frag} {mg : Str → Option Value} {base : Heap} {f : Addr} {fd : FuncData} (FD : FnP K "_law_take" s_w_take f fd) : FnOk P w K mg base CX0 1 f fd ["_law_pool_here", "_law_sides"] (spM K 2 S_w_take) := by
  refine fn_okM FD sc_w_take rfl ?_
  intro X e1 e2 e3 e4 e5 hp F C ds as r ds' hS hl
  subst e1 e2 e3 e4 e5
  obtain ⟨p, v, rfl, rfl, O, h0, h1, rfl, rfl⟩ := hS
  have y0 := O.y0
  have y1 := O.y1
  have q1 : CDivW p.x v := bt_cdiv h0 (show Bt 140 v by unfold Bt; omega)
  have n0 : Nm X 0 "_law_pool_here" := F.nm (by decide +kernel)
  have n1 : Nm X 1 "_law_sides" := F.nm (by decide +kernel)
  have n2 : Nm X 2 "_law_found" := F.nm (by decide +kernel)
  have l2 : Lc X 2 "_law_found" := F.lc (by decide +kernel)
  walk_at "text"
  walk_at "env"
  walk_at "go"
  · rename_i h
    refine ⟨AL.ret_d ?_, ?_⟩
    · unfold pick; rw [if_pos h]
    · unfold left; rw [if_pos h]; rfl
  · rename_i h
    refine ⟨AL.ret_d ?_, ?_⟩
    · unfold pick; rw [if_neg h]
    · unfold left; rw [if_neg h]; rfl
local macro_rules | `(tactic| walk_at "con") => `(tactic| ((with_reducible show S_w_take _ _ _ _); unfold S_w_take; exact ⟨_, _, rfl, rfl, by walk_at "pok", by walk_at "pf", by walk_at "pf", rfl, rfl⟩))
/-! ### _law_low -/
abbrev N_w_low : List Str := ["_law_top", "_law_bottom", "_law_one", "_law_two"]
theorem sc_w_low : FnScope N_w_low ["_law_top", "_law_bottom"] (defScope s_w_low) := ⟨rfl, rfl, rfl, by decide +kernel, rfl, by decide +kernel, by decide +kernel⟩
def S_w_low : Con := fun as r => ∃ a b : Int, as = [.d (.int a), .d (.int b)] ∧ 0 < b ∧ Bt 8999 b ∧ r = fr (Rat.divInt a b)
theorem ok_w_low {P : Program} {w : World} {K : PySem.W.Frag} {mg : Str → Option Value} {base : Heap} {f : Addr} {fd : FuncData} (FD : FnP K "_law_low" s_w_low f fd) (b_abs : mg "abs" = none) : FnOk P w K mg base CX0 1 f fd ["_law_top", "_law_bottom"] (spR K 2 S_w_low) := by
  refine fn_ok FD sc_w_low rfl ?_
  intro X e1 e2 e3 e4 e5 hp F C as r hS hl hW
  subst e1 e2 e3 e4 e5
  obtain ⟨a, b, rfl, hb, hz, rfl⟩ := hS
  have h1 := gcd_pos (a := a) hb
  have h2 := Bt.gcd (a := a) hz hb
  have n0 : Nm X 0 "_law_top" := F.nm (by decide +kernel)
  have n1 : Nm X 1 "_law_bottom" := F.nm (by decide +kernel)
  have n2 : Nm X 2 "_law_one" := F.nm (by decide +kernel)
  have l2 : Lc X 2 "_law_one" := F.lc (by decide +kernel)
  have n3 : Nm X 3 "_law_two" := F.nm (by decide +kernel)
  have l3 : Lc X 3 "_law_two" := F.lc (by decide +kernel)
  have z_abs : Bn X "abs" := F.bn (by decide +kernel) b_abs
  walk_at "text"
  walk_at "env"
  walk_at "go"
  refine AL.es_while hp (fun m g => ∃ x y : Nat, g = [.im (.int a), .im (.int b), .im (.int x), .im (.int y)] ∧ x.gcd y = a.gcd b ∧ m = y) ⟨_, a.natAbs, b.natAbs, by rw [AL.abs_if, Int.natAbs_of_nonneg (Int.le_of_lt hb)], rfl, rfl⟩ ?_
  rintro m g ⟨x, y, rfl, e, rfl⟩
  walk_at "go"
  · have hm : m = 0 := by omega
    subst hm
    rw [Nat.gcd_zero_right] at e
    subst e
    walk_at "go"
    exact fr_mk a b hb
  · refine ⟨x % m, Nat.mod_lt _ (by omega), m, x % m, by rw [Int.natCast_emod], ?_, rfl⟩
    rw [Nat.gcd_comm, ← Nat.gcd_rec, Nat.gcd_comm]; exact e
local macro_rules | `(tactic| walk_at "con") => `(tactic| ((with_reducible show S_w_low _ _); unfold S_w_low; exact ⟨_, _, rfl, by walk_at "pf", by walk_at "pf", rfl⟩))
/-! ### _law_less -/
abbrev N_w_less : List Str := ["_law_one", "_law_two"]
theorem sc_w_less : FnScope N_w_less ["_law_one", "_law_two"] (defScope s_w_less) := ⟨rfl, rfl, rfl, by decide +kernel, rfl, by decide +kernel, by decide +kernel⟩
def S_w_less : Con := fun as r => ∃ p q : Rat, as = [.d (fr p), .d (fr q)] ∧ Rb 4400 p ∧ Rb 4400 q ∧ r = .bool (decide (p < q))
theorem ok_w_less {P : Program} {w : World} {K : PySem.W.Frag} {mg : Str → Option Value} {base : Heap} {f : Addr} {fd : FuncData} (FD : FnP K "_law_less" s_w_less f fd) : FnOk P w K mg base CX0 1 f fd ["_law_one", "_law_two"] (spR K 2 S_w_less) := by
  refine fn_ok FD sc_w_less rfl ?_
  intro X e1 e2 e3 e4 e5 hp F C as r hS hl hW
  subst e1 e2 e3 e4 e5
  obtain ⟨p, q, rfl, z1, z2, rfl⟩ := hS
  have y1 := z1.1
  have y2 := z1.2
  have y3 := z2.1
  have y4 := z2.2
  have n0 : Nm X 0 "_law_one" := F.nm (by decide +kernel)
  have n1 : Nm X 1 "_law_two" := F.nm (by decide +kernel)
  walk_at "text"
  walk_at "env"
  walk_at "go"
  exact congrArg PyData.bool (decide_eq_decide.mpr fr_lt)
local macro_rules | `(tactic| walk_at "con") => `(tactic| ((with_reducible show S_w_less _ _); unfold S_w_less; exact ⟨_, _, rfl, by walk_at "pf", by walk_at "pf", rfl⟩))
/-! ### _law_lot -/
abbrev N_w_lot : List Str := ["_law_pool_here", "_law_few", "_law_more", "_law_found", "_law_way", "_law_who", "_law_grams", "_law_warm"]
theorem sc_w_lot : FnScope N_w_lot ["_law_pool_here", "_law_few", "_law_more"] (defScope s_w_lot) := ⟨rfl, rfl, rfl, by decide +kernel, rfl, by decide +kernel, by decide +kernel⟩
def S_w_lot : ConM := fun ds as r ds' => ∃ (p : Pl) (few more : Int), ds = p.ds ∧ as = [.d (.int few), .d (.int more)] ∧ p.Ok ∧ 1 ≤ few ∧ few ≤ more ∧ more ≤ 4 ∧ r = stD (lotG few more p) ∧ ds' = (lotPG few more p).ds
theorem ok_w_lot {P : Program} {w : World} {K : PySem.W.Frag} {mg : Str → Option Value} {base : Heap} {f : Addr} {fd : FuncData} (FD : FnP K "_law_lot" s_w_lot f fd) (c_w_take : Callable P w K mg base "_law_take" 1 (spM K 2 S_w_take)) (c_w_low : Callable P w K mg base "_law_low" 1 (spR K 2 S_w_low)) (b_range : mg "range" = none) (b_tuple : mg "tuple" = none) : FnOk P w K mg base CX0 2 f fd ["_law_pool_here", "_law_few", "_law_more"] (spM K 3 S_w_lot) := by
  refine fn_okM FD sc_w_lot rfl ?_
  intro X e1 e2 e3 e4 e5 hp F C ds as r ds' hS hl
  subst e1 e2 e3 e4 e5
  obtain ⟨p, few, more, rfl, rfl, O, h1, h2, h4, rfl, rfl⟩ := hS
  have O1 : (left p 4).Ok := left_ok O (by decide)
  have w0 := pick_nn (p := left p 4) (w := more - few + 1) (by omega)
  have w1 := pick_lt (p := left p 4) (w := more - few + 1) (by omega)
  unfold lotG lotPG
  have n0 : Nm X 0 "_law_pool_here" := F.nm (by decide +kernel)
  have n1 : Nm X 1 "_law_few" := F.nm (by decide +kernel)
  have n2 : Nm X 2 "_law_more" := F.nm (by decide +kernel)
  have n3 : Nm X 3 "_law_found" := F.nm (by decide +kernel)
  have l3 : Lc X 3 "_law_found" := F.lc (by decide +kernel)
  have n4 : Nm X 4 "_law_way" := F.nm (by decide +kernel)
  have l4 : Lc X 4 "_law_way" := F.lc (by decide +kernel)
  have n5 : Nm X 5 "_law_who" := F.nm (by decide +kernel)
  have l5 : Lc X 5 "_law_who" := F.lc (by decide +kernel)
  have n6 : Nm X 6 "_law_grams" := F.nm (by decide +kernel)
  have l6 : Lc X 6 "_law_grams" := F.lc (by decide +kernel)
  have n7 : Nm X 7 "_law_warm" := F.nm (by decide +kernel)
  have l7 : Lc X 7 "_law_warm" := F.lc (by decide +kernel)
  have g_w_take : Gn X "_law_take" := F.gn (by decide +kernel)
  have g_w_low : Gn X "_law_low" := F.gn (by decide +kernel)
  have d_w_take : Cal X "_law_take" 1 (spM X.K 2 S_w_take) := c_w_take.mono (by decide)
  have d_w_low : Cal X "_law_low" 1 (spR X.K 2 S_w_low) := c_w_low.mono (by decide)
  have z_range : Bn X "range" := F.bn (by decide +kernel) b_range
  have z_tuple : Bn X "tuple" := F.bn (by decide +kernel) b_tuple
  walk_at "text"
  walk_at "env"
  refine AL.ess_cut (R := fun g => g = [.ls (some 0) p.ds, .im (.int few), .im (.int more), .ls none [], .no, .no, .no, .no]) (by walk_at "go"; rfl) ?_
  rintro _ rfl
  obtain ⟨wy, hwy⟩ : ∃ wy, wy = pick p 4 := ⟨_, rfl⟩
  refine AL.ess_cut (R := fun g => g = [.ls (some 0) (left p 4).ds, .im (.int few), .im (.int more), .ls none [], .im (.int wy), .no, .no, .no]) (by walk_at "go"; rw [hwy]) ?_
  rintro _ rfl
  rw [← hwy]
  refine AL.ess_cut (R := fun g => ∃ e5 e6 e7, g = [.ls (some 0) (lotNG wy (few + pick (left p 4) (more - few + 1)).toNat (left (left p 4) (more - few + 1))).2.ds, .im (.int few), .im (.int more), .ls none ((lotNG wy (few + pick (left p 4) (more - few + 1)).toNat (left (left p 4) (more - few + 1))).1.map blk), .im (.int wy), e5, e6, e7]) ?_ ?_
  · refine AL.es_for hp (by walk_at "calm") ?_
    walk_at "go"
    refine ⟨fun i g => ∃ e5 e6 e7, g = [.ls (some 0) (lotNG wy i (left (left p 4) (more - few + 1))).2.ds, .im (.int few), .im (.int more), .ls none ((lotNG wy i (left (left p 4) (more - few + 1))).1.map blk), .im (.int wy), e5, e6, e7], ⟨_, _, _, rfl⟩, ?_, ?_⟩
    · rintro i d g' e ⟨e5, e6, e7, rfl⟩
      obtain ⟨hi, rfl⟩ := rangeD_get e
      obtain ⟨x, ex⟩ : ∃ x, x = lotNG wy i (left (left p 4) (more - few + 1)) := ⟨_, rfl⟩
      have ex2 : lotNG wy (i + 1) (left (left p 4) (more - few + 1)) = (x.1 ++ [(sizeB x.2, warmG wy (sizePB x.2))], warmPG wy (sizePB x.2)) := by rw [ex]; rfl
      have O2 : x.2.Ok := by rw [ex]; exact lotNG_ok (left_ok O1 (show 0 < more - few + 1 by omega)) i
      have hl2 : (x.1.map blk).length < 1000000 := by rw [List.length_map, ex, lotNG_len]; omega
      rw [← ex]
      have a0 := pick_nn (p := left (left (left x.2 3) 6) 99) (w := 4) (by decide)
      have a1 := pick_lt (p := left (left (left x.2 3) 6) 99) (w := 4) (by decide)
      have O3 := sizePB_ok O2
      have b0 := pick_nn (p := left (sizePB x.2) 12) (w := 4) (by decide)
      have b1 := pick_lt (p := left (sizePB x.2) 12) (w := 4) (by decide)
      have d0 := dn4_pos (pick (left (sizePB x.2) 12) 4)
      have d1 := d0.1
      have d2 : Bt 8999 (dn4 (pick (left (sizePB x.2) 12) 4)) := (show Bt 7 _ by unfold Bt; omega).mono (by decide)
      refine AL.eg_d (by walk_at "lc") (by walk_at "se") ?_
      refine AL.ess_cut (R := fun g => g = [.ls (some 0) (sizePB x.2).ds, .im (.int few), .im (.int more), .ls none (x.1.map blk), .im (.int wy), .im (.int (0 + (i : Nat))), .im (.int (sizeB x.2)), e7]) (by walk_at "go"; rfl) ?_
      rintro _ rfl
      refine AL.ess_cut (R := fun g => g = [.ls (some 0) (warmPB (sizePB x.2)).ds, .im (.int few), .im (.int more), .ls none (x.1.map blk), .im (.int wy), .im (.int (0 + (i : Nat))), .im (.int (sizeB x.2)), .im (fr (warmB (sizePB x.2)))]) (by walk_at "go"; rfl) ?_
      rintro _ rfl
      have O4 := warmPB_ok O3
      refine AL.ess_cut (R := fun g => g = [.ls (some 0) (warmPG wy (sizePB x.2)).ds, .im (.int few), .im (.int more), .ls none (x.1.map blk), .im (.int wy), .im (.int (0 + (i : Nat))), .im (.int (sizeB x.2)), .im (fr (warmG wy (sizePB x.2)))]) ?_ ?_
      · unfold warmG warmPG
        by_cases hz : wy = 0
        · rw [if_pos hz, if_pos hz]
          have hT : (2 : Int) * (10 : Int) ^ Int.toNat 39 = 2 * ten39 := by decide
          have hT2 : (10 : Int) ^ Int.toNat 39 = ten39 := by decide
          have hT3 : (10 : Int) ^ Int.toNat 6 = 1000000 := by decide
          have c0 := pick_nn (p := left (warmPB (sizePB x.2)) (2 * ten39)) (w := 1000000) (by decide)
          have c1 := pick_lt (p := left (warmPB (sizePB x.2)) (2 * ten39)) (w := 1000000) (by decide)
          have c2 : Bt 8999 (1 + pick (left (warmPB (sizePB x.2)) (2 * ten39)) 1000000) := (show Bt 21 _ by unfold Bt; omega).mono (by decide)
          walk_at "go"
          · simp only [hT2, hT3]
            refine AL.lf_call rfl (by walk_at "cv") (show S_w_low _ _ from ⟨_, _, rfl, by omega, c2, rfl⟩) ?_
            walk_at "go"
            rfl
          · rename_i hne
            exact absurd hz hne
        · rw [if_neg hz, if_neg hz]
          walk_at "go"
          all_goals first | rfl | (exfalso; omega) | trace_state
      rintro _ rfl
      walk_at "go"
      dsimp only
      rw [ex2]
      exact ⟨_, _, _, by rw [List.map_append]; rfl⟩
    · rintro g' ⟨e5, e6, e7, rfl⟩
      rw [rangeD_len]
      exact ⟨_, _, _, rfl⟩
  rintro _ ⟨e5, e6, e7, rfl⟩
  walk_at "go"
  exact ⟨AL.ret_d rfl, rfl⟩
local macro_rules | `(tactic| walk_at "con") => `(tactic| ((with_reducible show S_w_lot _ _ _ _); unfold S_w_lot; exact ⟨_, _, _, rfl, rfl, by walk_at "pok", by walk_at "pf", by walk_at "pf", by walk_at "pf", rfl, rfl⟩))
/-! ### _law_touch -/
abbrev N_w_touch : List Str := ["_law_heap", "_law_one", "_law_two", "_law_mine", "_law_theirs", "_law_top", "_law_warmth", "_law_found"]
theorem sc_w_touch : FnScope N_w_touch ["_law_heap", "_law_one", "_law_two"] (defScope s_w_touch) := ⟨rfl, rfl, rfl, by decide +kernel, rfl, by decide +kernel, by decide +kernel⟩
def S_w_touch : Con := fun as r => ∃ (L : List Bl) (i j : Int), as = [.d (stD L), .d (.int i), .d (.int j)] ∧ (0 ≤ i ∧ i < L.length) ∧ (0 ≤ j ∧ j < L.length) ∧ i ≠ j ∧ L.length ≤ 12 ∧ (Sz (siz L i.toNat) ∧ Sz (siz L j.toNat)) ∧ (Rb 4000 (tmp L i.toNat) ∧ Rb 4000 (tmp L j.toNat)) ∧ r = stD (tchS L i.toNat j.toNat)
theorem ok_w_touch {P : Program} {w : World} {K : PySem.W.Frag} {mg : Str → Option Value} {base : Heap} {f : Addr} {fd : FuncData} (FD : FnP K "_law_touch" s_w_touch f fd) (c_w_low : Callable P w K mg base "_law_low" 1 (spR K 2 S_w_low)) (b_list : mg "list" = none) (b_tuple : mg "tuple" = none) : FnOk P w K mg base CX0 2 f fd ["_law_heap", "_law_one", "_law_two"] (spR K 3 S_w_touch) := by
  refine fn_ok FD sc_w_touch rfl ?_
  intro X e1 e2 e3 e4 e5 hp F C as r hS hl hW
  subst e1 e2 e3 e4 e5
  obtain ⟨L, i, j, rfl, ⟨i0, i1⟩, ⟨j0, j1⟩, hij, hm, ⟨s1, s2⟩, ⟨r1, r2⟩, rfl⟩ := hS
  obtain ⟨i, rfl⟩ := Int.eq_ofNat_of_zero_le i0
  obtain ⟨j, rfl⟩ := Int.eq_ofNat_of_zero_le j0
  simp only [Int.toNat_natCast] at s1 s2 r1 r2 ⊢
  have i1 : i < L.length := by omega
  have j1 : j < L.length := by omega
  unfold Sz at s1 s2
  have bs : Bt 7 (siz L i) := by unfold Bt; omega
  have bp : Bt 7 (siz L j) := by unfold Bt; omega
  have b1 := bs.mul r1.1
  have b2 := bp.mul r2.1
  have b3 := r2.2
  have b4 := r1.2
  have b5 := r1.2.mul r2.2
  have bsp : Bt 8 (siz L i + siz L j) := by unfold Bt; omega
  have b6 := (b5.mul bsp).mono (m := 8999) (by decide)
  have b7 := Int.mul_pos (Int.mul_pos (den_pos (tmp L i)) (den_pos (tmp L j))) (show 0 < siz L i + siz L j by omega)
  have hl0 : (List.map blk L).length = L.length := List.length_map ..
  have n0 : Nm X 0 "_law_heap" := F.nm (by decide +kernel)
  have n1 : Nm X 1 "_law_one" := F.nm (by decide +kernel)
  have n2 : Nm X 2 "_law_two" := F.nm (by decide +kernel)
  have n3 : Nm X 3 "_law_mine" := F.nm (by decide +kernel)
  have l3 : Lc X 3 "_law_mine" := F.lc (by decide +kernel)
  have n4 : Nm X 4 "_law_theirs" := F.nm (by decide +kernel)
  have l4 : Lc X 4 "_law_theirs" := F.lc (by decide +kernel)
  have n5 : Nm X 5 "_law_top" := F.nm (by decide +kernel)
  have l5 : Lc X 5 "_law_top" := F.lc (by decide +kernel)
  have n6 : Nm X 6 "_law_warmth" := F.nm (by decide +kernel)
  have l6 : Lc X 6 "_law_warmth" := F.lc (by decide +kernel)
  have n7 : Nm X 7 "_law_found" := F.nm (by decide +kernel)
  have l7 : Lc X 7 "_law_found" := F.lc (by decide +kernel)
  have g_w_low : Gn X "_law_low" := F.gn (by decide +kernel)
  have d_w_low : Cal X "_law_low" 1 (spR X.K 2 S_w_low) := c_w_low.mono (by decide)
  have z_list : Bn X "list" := F.bn (by decide +kernel) b_list
  have z_tuple : Bn X "tuple" := F.bn (by decide +kernel) b_tuple
  walk_at "text"
  walk_at "env"
  walk_at "go"
  rw [di_mix, Int.toNat_natCast, Int.toNat_natCast, blk_set L i _ _ rfl, blk_set _ j _ _ (putT_siz i1 j).symm, putT_two i1 j1]
local macro_rules | `(tactic| walk_at "con") => `(tactic| ((with_reducible show S_w_touch _ _); unfold S_w_touch; exact ⟨_, _, _, rfl, ⟨by walk_at "pf", by walk_at "pf"⟩, ⟨by walk_at "pf", by walk_at "pf"⟩, by walk_at "pf", by walk_at "pf", ⟨by walk_at "pf", by walk_at "pf"⟩, ⟨by walk_at "pf", by walk_at "pf"⟩, rfl⟩))
/-! ### _law_pairs -/
abbrev N_w_pairs : List Str := ["_law_amount", "_law_found", "_law_one", "_law_two"]
theorem sc_w_pairs : FnScope N_w_pairs ["_law_amount"] (defScope s_w_pairs) := ⟨rfl, rfl, rfl, by decide +kernel, rfl, by decide +kernel, by decide +kernel⟩
def S_w_pairs : List Ar → List PyData → Prop := fun as r => ∃ m : Nat, as = [.d (.int m)] ∧ m ≤ 12 ∧ r = (prsL m).map tcD
theorem ok_w_pairs {P : Program} {w : World} {K : PySem.W.Frag} {mg : Str → Option Value} {base : Heap} {f : Addr} {fd : FuncData} (FD : FnP K "_law_pairs" s_w_pairs f fd) (b_range : mg "range" = none) : FnOk P w K mg base CX0 1 f fd ["_law_amount"] (spN K 1 S_w_pairs) := by
  refine fn_okN FD sc_w_pairs rfl ?_
  intro X e1 e2 e3 e4 e5 hp F C as r hS hl hW
  subst e1 e2 e3 e4 e5
  obtain ⟨m, rfl, hm, rfl⟩ := hS
  have hl := prsL_len m
  have hl2 : m * m ≤ 144 := Nat.mul_le_mul hm hm
  have n0 : Nm X 0 "_law_amount" := F.nm (by decide +kernel)
  have n1 : Nm X 1 "_law_found" := F.nm (by decide +kernel)
  have l1 : Lc X 1 "_law_found" := F.lc (by decide +kernel)
  have n2 : Nm X 2 "_law_one" := F.nm (by decide +kernel)
  have l2 : Lc X 2 "_law_one" := F.lc (by decide +kernel)
  have o3 : IxN N_w_pairs 3 "_law_two" := rfl
  have z_range : Bn X "range" := F.bn (by decide +kernel) b_range
  walk_at "text"
  walk_at "env"
  walk_at "go"
  refine AL.es_for hp (by walk_at "calm") ?_
  walk_at "go"
  refine ⟨fun i g => ∃ e2 e3, g = [.im (.int m), .ls none ((prsTo m i).map tcD), e2, e3], ⟨_, _, rfl⟩, ?_, ?_⟩
  · rintro i d g' e ⟨e2, e3, rfl⟩
    obtain ⟨hi, rfl⟩ := rangeD_get e
    have hi2 : i < m := by omega
    have hk : ((prsTo m i).map tcD).length ≤ 500000 := by
      rw [List.length_map]
      have h := flat_len (m := m) (prsAt m) (List.range i) fun k _ => by unfold prsAt; rw [List.length_map, List.length_range]; omega
      rw [List.length_range] at h
      have : i * m ≤ 12 * 12 := Nat.mul_le_mul (by omega) hm
      unfold prsTo; omega
    have hk2 : ((prsAt m i).map tcD).length ≤ 12 := by rw [List.length_map]; unfold prsAt; rw [List.length_map, List.length_range]; omega
    refine AL.eg_d (by walk_at "lc") (by walk_at "se") ?_
    refine AL.ess_one ?_
    refine AL.es_setN (by walk_at "lc") (AL.en_cat ?_)
    walk_at "go"
    refine AL.ee_en (AL.en_lc F [("_law_two", 3)] (by decide +kernel) ?_)
    walk_at "go"
    refine AL.lcMap (rs := (prsAt m i).map tcD) (by walk_at "wipe") (by rw [rangeD_len, List.length_map]; unfold prsAt; rw [List.length_map, List.length_range]; omega) (by rw [rangeD_len]; omega) ?_ ?_
    · intro C' k d e
      obtain ⟨hj, rfl⟩ := rangeD_get e
      have hj2 : k < m - (i + 1) := by omega
      walk_at "go"
      refine ⟨?_, by walk_at "wk"⟩
      rw [List.getElem?_map]; unfold prsAt
      rw [List.getElem?_map, List.getElem?_range hj2]
      show some (PyData.tuple [.int ((i : Nat) : Int), .int ((i + 1 + k : Nat) : Int)]) = _
      simp
    · refine ⟨_, _, .inr ⟨1, none, rfl, rfl⟩, .inl rfl, by omega, ?_⟩
      refine ⟨_, by walk_at "se", ?_⟩
      exact ⟨_, _, by rw [prsTo_succ, List.map_append]⟩
  · rintro g' ⟨e2, e3, rfl⟩
    walk_at "go"
    refine .o rfl ?_
    rw [rangeD_len, Int.toNat_natCast]; rfl
local macro_rules | `(tactic| walk_at "con") => `(tactic| ((with_reducible show S_w_pairs _ _); unfold S_w_pairs; exact ⟨_, rfl, by walk_at "pf", rfl⟩))
/-! ### _law_turned -/
abbrev N_w_turned : List Str := ["_law_heap", "_law_turn_here"]
theorem sc_w_turned : FnScope N_w_turned ["_law_heap", "_law_turn_here"] (defScope s_w_turned) := ⟨rfl, rfl, rfl, by decide +kernel, rfl, by decide +kernel, by decide +kernel⟩
def S_w_turned : Con := fun as r => ∃ (L M : List Bl) (d : PyData) (j : Nat), as = [.d (stD L), .d d] ∧ OkSt 1600 L ∧ L.length ≤ 4 ∧ (turnsL L)[j]? = some d ∧ (sucS L)[j]? = some M ∧ r = stD M
theorem ok_w_turned {P : Program} {w : World} {K : PySem.W.Frag} {mg : Str → Option Value} {base : Heap} {f : Addr} {fd : FuncData} (FD : FnP K "_law_turned" s_w_turned f fd) (c_w_touch : Callable P w K mg base "_law_touch" 2 (spR K 3 S_w_touch)) : FnOk P w K mg base CX0 3 f fd ["_law_heap", "_law_turn_here"] (spR K 2 S_w_turned) := by
  refine fn_ok FD sc_w_turned rfl ?_
  intro X e1 e2 e3 e4 e5 hp F C as r hS hl hW
  subst e1 e2 e3 e4 e5
  obtain ⟨L, M, d, j, rfl, O, h4, hd, hM, rfl⟩ := hS
  have hl0 : (List.map blk L).length = L.length := List.length_map ..
  have n0 : Nm X 0 "_law_heap" := F.nm (by decide +kernel)
  have n1 : Nm X 1 "_law_turn_here" := F.nm (by decide +kernel)
  have g_w_touch : Gn X "_law_touch" := F.gn (by decide +kernel)
  have d_w_touch : Cal X "_law_touch" 2 (spR X.K 3 S_w_touch) := c_w_touch.mono (by decide)
  walk_at "text"
  walk_at "env"
  cases j with
  | zero =>
    have e1 : PyData.none = d := Option.some.inj hd
    have e2 : L = M := Option.some.inj hM
    subst e1 e2
    walk_at "go"
    all_goals first | rfl | trace_state
  | succ j =>
    have hd' : ((prsL L.length).map tcD)[j]? = some d := hd
    have hM' : ((prsL L.length).map fun p => tchS L p.1 p.2)[j]? = some M := hM
    rw [List.getElem?_map, Option.map_eq_some_iff] at hd' hM'
    obtain ⟨p, e1, rfl⟩ := hd'
    obtain ⟨q, e2, rfl⟩ := hM'
    rw [e1] at e2
    cases e2
    have hpm := mem_prsL.mp (List.mem_of_getElem? e1)
    have hp1 : p.1 < L.length := by omega
    have hp2 : p.1 ≠ p.2 := by omega
    have s1 := O.sz (i := p.1) (by omega)
    have s2 := O.sz (i := p.2) (by omega)
    have r1 := (O.rb (i := p.1) (by omega)).mono (m := 4000) (by omega)
    have r2 := (O.rb (i := p.2) (by omega)).mono (m := 4000) (by omega)
    show AL.ESs _ _ _ [.im (stD L), .im (.tuple [.int (p.1 : Nat), .int (p.2 : Nat)])] _
    walk_at "go"
    all_goals first | rfl | trace_state
/-! ### _law_turn -/
abbrev N_w_turn : List Str := ["_law_pool_here", "_law_heap", "_law_told", "_law_keeps", "_law_every", "_law_turn_here"]
theorem sc_w_turn : FnScope N_w_turn ["_law_pool_here", "_law_heap", "_law_told", "_law_keeps"] (defScope s_w_turn) := ⟨rfl, rfl, rfl, by decide +kernel, rfl, by decide +kernel, by decide +kernel⟩
def S_w_turn : ConM := fun ds as r ds' => ∃ (p : Pl) (L : List Bl) (b t : Nat) (w kp : Bool), ds = p.ds ∧ as = [.d (stD L), .d (.list (otD b (t + 1) L w)), .d (.bool kp)] ∧ p.Ok ∧ L.length ≤ 4 ∧ r = mvD kp p b t L w ∧ ds' = (left p (mvL kp b t L w).length).ds
theorem ok_w_turn {P : Program} {w : World} {K : PySem.W.Frag} {mg : Str → Option Value} {base : Heap} {f : Addr} {fd : FuncData} (FD : FnP K "_law_turn" s_w_turn f fd) (c_w_pairs : Callable P w K mg base "_law_pairs" 1 (spN K 1 S_w_pairs)) (c_w_take : Callable P w K mg base "_law_take" 1 (spM K 2 S_w_take)) (b_len : mg "len" = none) : FnOk P w K mg base CX0 2 f fd ["_law_pool_here", "_law_heap", "_law_told", "_law_keeps"] (spM K 4 S_w_turn) := by
  refine fn_okM FD sc_w_turn rfl ?_
  intro X e1 e2 e3 e4 e5 hp F C ds as r ds' hS hl
  subst e1 e2 e3 e4 e5
  obtain ⟨p, L, b, t, w, kp, rfl, rfl, O, h4, rfl, rfl⟩ := hS
  have hl0 : (List.map blk L).length = L.length := List.length_map ..
  have hol : (otD b (t + 1) L w).length ≤ 7 := otD_len h4
  have htl : (turnsL L).length ≤ 7 := by rw [turnsL_len]; exact sucS_le h4
  have hpl := prsL_len L.length
  have hp16 := Nat.mul_le_mul h4 h4
  have hml := mvL_len (kp := kp) (b := b) (t := t) (w := w) h4
  have hat := mvD_at (kp := kp) (p := p) (b := b) (t := t) (w := w) h4
  have n0 : Nm X 0 "_law_pool_here" := F.nm (by decide +kernel)
  have n1 : Nm X 1 "_law_heap" := F.nm (by decide +kernel)
  have n2 : Nm X 2 "_law_told" := F.nm (by decide +kernel)
  have n3 : Nm X 3 "_law_keeps" := F.nm (by decide +kernel)
  have n4 : Nm X 4 "_law_every" := F.nm (by decide +kernel)
  have l4 : Lc X 4 "_law_every" := F.lc (by decide +kernel)
  have o5 : IxN N_w_turn 5 "_law_turn_here" := rfl
  have g_w_pairs : Gn X "_law_pairs" := F.gn (by decide +kernel)
  have g_w_take : Gn X "_law_take" := F.gn (by decide +kernel)
  have d_w_pairs : Cal X "_law_pairs" 1 (spN X.K 1 S_w_pairs) := c_w_pairs.mono (by decide)
  have d_w_take : Cal X "_law_take" 1 (spM X.K 2 S_w_take) := c_w_take.mono (by decide)
  have z_len : Bn X "len" := F.bn (by decide +kernel) b_len
  walk_at "text"
  walk_at "env"
  refine AL.ess_cut (R := fun g => g = [.ls (some 0) p.ds, .im (stD L), .im (.list (otD b (t + 1) L w)), .im (.bool kp), .im (.list (turnsL L)), .no]) ?_ ?_
  · refine AL.es_set l4 (AL.ee_en (AL.en_cat ?_))
    walk_at "go"
    refine ⟨[.none], (prsL L.length).map tcD, .inl rfl, .inl (by rw [hl0]), by rw [List.length_map]; show 1 + _ ≤ _; omega, ?_⟩
    walk_at "go"
    rfl
  rintro _ rfl
  refine AL.ess_cut (R := fun g => g = [.ls (some 0) p.ds, .im (stD L), .im (.list (otD b (t + 1) L w)), .im (.bool kp), .im (.list (turnsL L)), .no]) ?_ ?_
  · walk_at "go"
    refine AL.ee_en (AL.en_lc F [("_law_turn_here", 5)] (by decide +kernel) ?_)
    walk_at "go"
    refine AL.lcSel (fun k => none) (by walk_at "wipe") (by omega) ?_ ?_
    · intro C' k d e
      have hd := otD_mem (List.mem_of_getElem? e)
      walk_at "go"
      refine AL.ra_inP (k := 1) rfl kt_l (turn_plain hd) (fun e he => turn_plain he) (by decide) fun b1 hb1 => ?_
      have hb2 : b1 = true := hb1.mpr hd
      subst hb2
      refine ⟨false, rfl, AL.br_f ?_⟩
      walk_at "go"
      exact ⟨rfl, by walk_at "wk"⟩
    · walk_at "go"
      have hfm : ∀ n : Nat, (List.range n).filterMap (fun _ => (none : Option PyData)) = [] := fun n => by simp
      rw [hfm]
      walk_at "go"
      refine AL.ra_or1 (AL.ra_eqP (k := 2) rfl rfl (plain_list (k := 1) fun d hd => turn_plain (otD_mem hd)) (plain_list (k := 1) fun d hd => by cases hd) (by decide) fun b1 hb1 => ?_)
      have hb2 : b1 = false := by
        cases b1 with
        | false => rfl
        | true => exact absurd (PyData.list.inj (hb1.mp rfl)) otD_ne
      subst hb2
      walk_at "go"
      rfl
  rintro _ rfl
  refine AL.ess_one (AL.es_ret (AL.ee_if ?_))
  cases kp
  · have hat' : atI (turnsL L) (pick p (turnsL L).length) = some (mvD false p b t L w) := hat
    have h1l : 1 ≤ (turnsL L).length := hml.1
    refine AL.et_val (AL.ee_im n3 rfl ⟨false, rfl, AL.br_f ?_⟩)
    walk_at "go"
    all_goals first | exact ⟨AL.ret_d rfl, rfl⟩ | trace_state
  · have hat' : atI (otD b (t + 1) L w) (pick p (otD b (t + 1) L w).length) = some (mvD true p b t L w) := hat
    have hne : 1 ≤ (otD b (t + 1) L w).length := hml.1
    refine AL.et_val (AL.ee_im n3 rfl ⟨true, rfl, AL.br_t ?_⟩)
    walk_at "go"
    all_goals first | exact ⟨AL.ret_d rfl, rfl⟩ | trace_state
/-! ### _law_is_worse -/
abbrev N_w_is_worse : List Str := ["_law_hand", "_law_later", "_law_ahead"]
theorem sc_w_is_worse : FnScope N_w_is_worse ["_law_hand", "_law_later", "_law_ahead"] (defScope s_w_is_worse) := ⟨rfl, rfl, rfl, by decide +kernel, rfl, by decide +kernel, by decide +kernel⟩
def S_w_is_worse : Con := fun as r => ∃ (k : Bool) (p q : Rat), as = [.d (handD k), .d (fr p), .d (fr q)] ∧ Rb 4400 p ∧ Rb 4400 q ∧ r = .bool (btr (!k) p q)
theorem ok_w_is_worse {P : Program} {w : World} {K : PySem.W.Frag} {mg : Str → Option Value} {base : Heap} {f : Addr} {fd : FuncData} (FD : FnP K "_law_is_worse" s_w_is_worse f fd) (c_w_less : Callable P w K mg base "_law_less" 1 (spR K 2 S_w_less)) : FnOk P w K mg base CX0 2 f fd ["_law_hand", "_law_later", "_law_ahead"] (spR K 3 S_w_is_worse) := by
  refine fn_ok FD sc_w_is_worse rfl ?_
  intro X e1 e2 e3 e4 e5 hp F C as r hS hl hW
  subst e1 e2 e3 e4 e5
  obtain ⟨k, p, q, rfl, z1, z2, rfl⟩ := hS
  have n0 : Nm X 0 "_law_hand" := F.nm (by decide +kernel)
  have n1 : Nm X 1 "_law_later" := F.nm (by decide +kernel)
  have n2 : Nm X 2 "_law_ahead" := F.nm (by decide +kernel)
  have g_w_less : Gn X "_law_less" := F.gn (by decide +kernel)
  have d_w_less : Cal X "_law_less" 1 (spR X.K 2 S_w_less) := c_w_less.mono (by decide)
  walk_at "text"
  walk_at "env"
  cases k
  · show AL.ESs _ _ _ [.im (.str "cold"), .im (fr p), .im (fr q)] _
    walk_at "go"
    all_goals first | (rename_i h; exact absurd h (by decide)) | rfl | trace_state
  · show AL.ESs _ _ _ [.im (.str "warm"), .im (fr p), .im (fr q)] _
    walk_at "go"
    all_goals first | rfl | (rename_i h; exact absurd rfl h) | trace_state
local macro_rules | `(tactic| walk_at "con") => `(tactic| ((with_reducible show S_w_is_worse _ _); unfold S_w_is_worse; exact ⟨_, _, _, rfl, by walk_at "pf", by walk_at "pf", rfl⟩))
/-! ### _law_played -/
abbrev N_w_played : List Str := ["_law_script", "_law_heap", "_law_who", "_law_left", "_law_hand", "_law_keepers", "_law_ahead", "_law_turn_here", "_law_pool_here", "_law_move", "_law_later", "_law_one"]
theorem sc_w_played : FnScope N_w_played ["_law_script", "_law_heap", "_law_who", "_law_left", "_law_hand", "_law_keepers"] (defScope s_w_played) := ⟨rfl, rfl, rfl, by decide +kernel, rfl, by decide +kernel, by decide +kernel⟩
def S_w_played : Con := fun as r => ∃ (ns : List Int) (L : List Bl) (b t : Nat) (w : Bool) (ks : List Bool), as = [.d (scr ns), .d (stD L), .d (.int (b : Nat)), .d (.int (t : Nat)), .d (handD w), .d (.list (ks.map handD))] ∧ ns.length ≤ 63 ∧ OkSt 525 L ∧ L.length ≤ 4 ∧ b < L.length ∧ t ≤ 4 ∧ ks.length ≤ 2 ∧ r = .bool true
theorem ok_w_played {P : Program} {w : World} {K : PySem.W.Frag} {mg : Str → Option Value} {base : Heap} {f : Addr} {fd : FuncData} (FD : FnP K "_law_played" s_w_played f fd) (k0_game_value : CallableK P w K mg base "game_value" 12 (spR K 4 S_game_value) 3 ["first"] [0, 1, 2, 3]) (c_w_pool : Callable P w K mg base "_law_pool" 1 (spN K 2 S_w_pool)) (c_w_turn : Callable P w K mg base "_law_turn" 2 (spM K 4 S_w_turn)) (c_w_turned : Callable P w K mg base "_law_turned" 3 (spR K 2 S_w_turned)) (k0_optimal_first_turns : CallableK P w K mg base "optimal_first_turns" 12 (spN K 4 S_optimal_first_turns) 3 ["first"] [0, 1, 2, 3]) (c_w_is_worse : Callable P w K mg base "_law_is_worse" 2 (spR K 3 S_w_is_worse)) (b_range : mg "range" = none) : FnOk P w K mg base CX0 13 f fd ["_law_script", "_law_heap", "_law_who", "_law_left", "_law_hand", "_law_keepers"] (spR K 6 S_w_played) := by
  refine fn_ok FD sc_w_played rfl ?_
  intro X e1 e2 e3 e4 e5 hp F C as r hS hl hW
  subst e1 e2 e3 e4 e5
  obtain ⟨ns, L0, b, t, w0, ks, rfl, hns, O0, h4, hb0, ht, hks, rfl⟩ := hS
  have O16 : OkSt 1640 L0 := O0.mono (by decide)
  have n0 : Nm X 0 "_law_script" := F.nm (by decide +kernel)
  have n1 : Nm X 1 "_law_heap" := F.nm (by decide +kernel)
  have l1 : Lc X 1 "_law_heap" := F.lc (by decide +kernel)
  have n2 : Nm X 2 "_law_who" := F.nm (by decide +kernel)
  have n3 : Nm X 3 "_law_left" := F.nm (by decide +kernel)
  have n4 : Nm X 4 "_law_hand" := F.nm (by decide +kernel)
  have l4 : Lc X 4 "_law_hand" := F.lc (by decide +kernel)
  have n5 : Nm X 5 "_law_keepers" := F.nm (by decide +kernel)
  have n6 : Nm X 6 "_law_ahead" := F.nm (by decide +kernel)
  have l6 : Lc X 6 "_law_ahead" := F.lc (by decide +kernel)
  have n7 : Nm X 7 "_law_turn_here" := F.nm (by decide +kernel)
  have l7 : Lc X 7 "_law_turn_here" := F.lc (by decide +kernel)
  have n8 : Nm X 8 "_law_pool_here" := F.nm (by decide +kernel)
  have l8 : Lc X 8 "_law_pool_here" := F.lc (by decide +kernel)
  have n9 : Nm X 9 "_law_move" := F.nm (by decide +kernel)
  have l9 : Lc X 9 "_law_move" := F.lc (by decide +kernel)
  have n10 : Nm X 10 "_law_later" := F.nm (by decide +kernel)
  have l10 : Lc X 10 "_law_later" := F.lc (by decide +kernel)
  have o11 : IxN N_w_played 11 "_law_one" := rfl
  have g_game_value : Gn X "game_value" := F.gn (by decide +kernel)
  have g_w_pool : Gn X "_law_pool" := F.gn (by decide +kernel)
  have g_w_turn : Gn X "_law_turn" := F.gn (by decide +kernel)
  have g_w_turned : Gn X "_law_turned" := F.gn (by decide +kernel)
  have g_optimal_first_turns : Gn X "optimal_first_turns" := F.gn (by decide +kernel)
  have dk0_game_value : CalK X "game_value" 12 (spR X.K 4 S_game_value) 3 ["first"] [0, 1, 2, 3] := k0_game_value.mono (by decide)
  have d_w_pool : Cal X "_law_pool" 12 (spN X.K 2 S_w_pool) := c_w_pool.mono (by decide)
  have d_w_turn : Cal X "_law_turn" 12 (spM X.K 4 S_w_turn) := c_w_turn.mono (by decide)
  have d_w_turned : Cal X "_law_turned" 12 (spR X.K 2 S_w_turned) := c_w_turned.mono (by decide)
  have dk0_optimal_first_turns : CalK X "optimal_first_turns" 12 (spN X.K 4 S_optimal_first_turns) 3 ["first"] [0, 1, 2, 3] := k0_optimal_first_turns.mono (by decide)
  have d_w_is_worse : Cal X "_law_is_worse" 12 (spR X.K 3 S_w_is_worse) := c_w_is_worse.mono (by decide)
  have z_range : Bn X "range" := F.bn (by decide +kernel) b_range
  walk_at "text"
  walk_at "env"
  refine AL.ess_cut (R := fun g => g = [.im (scr ns), .im (stD L0), .im (.int (b : Nat)), .im (.int (t : Nat)), .im (handD w0), .im (.list (ks.map handD)), .im (fr (gv b t L0 w0)), .no, .no, .no, .no, .no]) (by walk_at "go"; rfl) ?_
  rintro _ rfl
  refine AL.ess_cut (R := fun g => ∃ M w e7 e8 e9 e10, OkSt 557 M ∧ M.length = L0.length ∧ g = [.im (scr ns), .im (stD M), .im (.int (b : Nat)), .im (.int (t : Nat)), .im (handD w), .im (.list (ks.map handD)), .im (fr (tmp M b)), e7, e8, e9, e10, .no]) ?_ ?_
  · refine AL.es_for hp (by walk_at "calm") ?_
    walk_at "go"
    refine ⟨fun i g => ∃ M w e7 e8 e9 e10, OkSt (525 + 8 * i) M ∧ M.length = L0.length ∧ g = [.im (scr ns), .im (stD M), .im (.int (b : Nat)), .im (.int (t : Nat)), .im (handD w), .im (.list (ks.map handD)), .im (fr (gv b (t - i) M w)), e7, e8, e9, e10, .no], ⟨L0, w0, _, _, _, _, O0, rfl, rfl⟩, ?_, ?_⟩
    · rintro i d g' e ⟨M, w, e7, e8, e9, e10, OM, hM, rfl⟩
      obtain ⟨hi, rfl⟩ := rangeD_get e
      have hit : i < t := by omega
      rw [Int.zero_add]
      obtain ⟨s, hs⟩ : ∃ s, t - i = s + 1 := ⟨t - i - 1, by omega⟩
      have es : ((t : Nat) : Int) - ((i : Nat) : Int) = ((s + 1 : Nat) : Int) := by omega
      have es2 : ((s + 1 : Nat) : Int) - 1 = (s : Nat) := by omega
      have es3 : t - (i + 1) = s := by omega
      have ei : (1 : Int) + ((i : Nat) : Int) = ((1 + i : Nat) : Int) := by omega
      rw [hs]
      have OM6 : OkSt 1640 M := OM.mono (by omega)
      have OM5 : OkSt 1600 M := OM.mono (by omega)
      have hM4 : M.length ≤ 4 := by omega
      have hMb : b < M.length := by omega
      have PO := pool_ok ns (1 + i)
      have rgA : Rb 4400 (gv b (s + 1) M w) := (gv_rb OM hMb).mono (by omega)
      refine AL.eg_d (by walk_at "lc") (by walk_at "se") ?_
      refine AL.ess_cut (R := fun g => g = [.im (scr ns), .im (stD M), .im (.int (b : Nat)), .im (.int (t : Nat)), .im (handD w), .im (.list (ks.map handD)), .im (fr (gv b (s + 1) M w)), .im (.int (i : Nat)), .ls none (pool ns (1 + i)).ds, e9, e10, .no]) ?_ ?_
      · walk_at "go"
        rfl
      rintro _ rfl
      generalize pool ns (1 + i) = p0 at PO ⊢
      obtain ⟨kp, hkp⟩ : ∃ kp, kp = decide (w ∈ ks) := ⟨_, rfl⟩
      obtain ⟨j, N, hj1, hj2, hj3⟩ := mvD_why (kp := kp) (p := p0) (b := b) (t := s) (w := w) hM4
      have hNs := List.mem_of_getElem? hj2
      obtain ⟨ON, hNl⟩ := sucS_ok OM hNs
      have ON6 : OkSt 1640 N := ON.mono (by omega)
      have hN4 : N.length ≤ 4 := by omega
      have hNb : b < N.length := by omega
      have rgN : Rb 4400 (gv b s N (!w)) := (gv_rb ON hNb).mono (by omega)
      have nw := not_worse (ks := ks) hNs (fun hm => hj3 (by rw [hkp]; exact decide_eq_true hm))
      have hmv : mvD kp p0 b s M w ∈ turnsL M := List.mem_of_getElem? hj1
      refine AL.ess_cut (R := fun g => ∃ e8, g = [.im (scr ns), .im (stD M), .im (.int (b : Nat)), .im (.int (t : Nat)), .im (handD w), .im (.list (ks.map handD)), .im (fr (gv b (s + 1) M w)), .im (.int (i : Nat)), e8, .im (mvD kp p0 b s M w), e10, .no]) ?_ ?_
      · walk_at "go"
        rw [es]
        refine AL.lf_callK (as := [.d (stD M), .d (.int (b : Nat)), .d (.int (s + 1 : Nat)), .d (handD w)]) rfl rfl (by walk_at "cv") rfl (show S_optimal_first_turns _ _ from ⟨M, b, s + 1, w, rfl, OM6, hM4, hMb, by omega, rfl⟩) ?_
        walk_at "go"
        refine AL.ra_inP (k := 0) rfl kt_l (hand_plain w) (fun d hd => by
          obtain ⟨k, _, rfl⟩ := List.mem_map.mp hd
          exact hand_plain k) (by decide) fun b1 hb1 => ?_
        have hb2 : b1 = kp := by
          rw [hkp, Bool.eq_iff_iff, hb1, decide_eq_true_iff]
          show handD w ∈ ks.map handD ↔ _
          rw [List.mem_map]
          exact ⟨fun ⟨k, h1, h2⟩ => by rw [← handD_inj h2]; exact h1, fun h => ⟨w, h, rfl⟩⟩
        subst hb2
        walk_at "go"
        refine AL.lf_callM (as := [.d (stD M), .d (.list (otD b (s + 1) M w)), .d (.bool b1)]) rfl (by walk_at "cv") rfl (show S_w_turn _ _ _ _ from ⟨p0, M, b, s, w, b1, rfl, rfl, PO, hM4, rfl, rfl⟩) (by walk_at "se") ?_
        walk_at "go"
        exact ⟨_, rfl⟩
      rintro _ ⟨e8', rfl⟩
      generalize mvD kp p0 b s M w = mv at hj1 hmv ⊢
      have hmn : mv ≠ .str "none" := fun z => by
        rw [z] at hmv
        unfold turnsL at hmv
        rcases List.mem_cons.mp hmv with h | h
        · cases h
        · obtain ⟨q, _, h⟩ := List.mem_map.mp h
          cases h
      refine AL.ess_cut (R := fun g => g = [.im (scr ns), .im (stD M), .im (.int (b : Nat)), .im (.int (t : Nat)), .im (handD w), .im (.list (ks.map handD)), .im (fr (gv b (s + 1) M w)), .im (.int (i : Nat)), e8', .im mv, e10, .no]) ?_ ?_
      · walk_at "go"
        refine AL.ra_or1 (AL.ra_eqP (k := 1) rfl rfl (turn_plain hmv) (show AL.Plain 1 (.str "none") from ⟨by decide +kernel, by decide +kernel, by decide⟩) (by decide) fun b1 hb1 => ?_)
        have hb2 : b1 = false := by
          cases b1 with
          | false => rfl
          | true => exact absurd (hb1.mp rfl) hmn
        subst hb2
        walk_at "go"
        rfl
      rintro _ rfl
      refine AL.ess_cut (R := fun g => g = [.im (scr ns), .im (stD N), .im (.int (b : Nat)), .im (.int (t : Nat)), .im (handD w), .im (.list (ks.map handD)), .im (fr (gv b (s + 1) M w)), .im (.int (i : Nat)), e8', .im mv, e10, .no]) ?_ ?_
      · walk_at "go"
        refine AL.lf_call rfl (by walk_at "cv") (show S_w_turned _ _ from ⟨M, N, mv, j, rfl, OM5, hM4, hj1, hj2, rfl⟩) ?_
        walk_at "go"
        rfl
      rintro _ rfl
      refine AL.ess_cut (R := fun g => g = [.im (scr ns), .im (stD N), .im (.int (b : Nat)), .im (.int (t : Nat)), .im (handD (!w)), .im (.list (ks.map handD)), .im (fr (gv b (s + 1) M w)), .im (.int (i : Nat)), e8', .im mv, e10, .no]) ?_ ?_
      · cases w
        · show AL.ES _ _ _ [.im (scr ns), .im (stD N), .im (.int (b : Nat)), .im (.int (t : Nat)), .im (.str "cold"), .im (.list (ks.map handD)), .im (fr (gv b (s + 1) M false)), .im (.int (i : Nat)), e8', .im mv, e10, .no] _
          walk_at "go"
          all_goals first | rfl | (rename_i h; exact absurd h (by decide)) | trace_state
        · show AL.ES _ _ _ [.im (scr ns), .im (stD N), .im (.int (b : Nat)), .im (.int (t : Nat)), .im (.str "warm"), .im (.list (ks.map handD)), .im (fr (gv b (s + 1) M true)), .im (.int (i : Nat)), e8', .im mv, e10, .no] _
          walk_at "go"
          all_goals first | rfl | (rename_i h; exact absurd rfl h) | trace_state
      rintro _ rfl
      refine AL.ess_cut (R := fun g => g = [.im (scr ns), .im (stD N), .im (.int (b : Nat)), .im (.int (t : Nat)), .im (handD (!w)), .im (.list (ks.map handD)), .im (fr (gv b (s + 1) M w)), .im (.int (i : Nat)), e8', .im mv, .im (fr (gv b s N (!w))), .no]) ?_ ?_
      · walk_at "go"
        rw [es, es2]
        refine AL.lf_callK (as := [.d (stD N), .d (.int (b : Nat)), .d (.int (s : Nat)), .d (handD (!w))]) rfl rfl (by walk_at "cv") rfl (show S_game_value _ _ from ⟨N, b, s, !w, rfl, ON6, hN4, hNb, by omega, rfl⟩) ?_
        walk_at "go"
        rfl
      rintro _ rfl
      refine AL.ess_cut (R := fun g => g = [.im (scr ns), .im (stD N), .im (.int (b : Nat)), .im (.int (t : Nat)), .im (handD (!w)), .im (.list (ks.map handD)), .im (fr (gv b (s + 1) M w)), .im (.int (i : Nat)), e8', .im mv, .im (fr (gv b s N (!w))), .no]) ?_ ?_
      · walk_at "go"
        refine AL.ee_en (AL.en_lc F [("_law_one", 11)] (by decide +kernel) ?_)
        walk_at "go"
        refine AL.lcSel (fun k => none) (by walk_at "wipe") (by rw [List.length_map]; omega) ?_ ?_
        · intro C' k d e
          rw [List.getElem?_map, Option.map_eq_some_iff] at e
          obtain ⟨k', e1, rfl⟩ := e
          have nwk := nw k' (List.mem_of_getElem? e1)
          walk_at "go"
          all_goals first | exact ⟨rfl, by walk_at "wk"⟩ | trace_state
        · walk_at "go"
          have hfm : ∀ n : Nat, (List.range n).filterMap (fun _ => (none : Option PyData)) = [] := fun n => by simp
          rw [hfm]
          walk_at "go"
          all_goals first | rfl | trace_state
      rintro _ rfl
      walk_at "go"
      refine ⟨N, !w, .im (.int (i : Nat)), e8', .im mv, .im (fr (gv b s N (!w))), ON.mono (by omega), by omega, ?_⟩
      rw [es3]
    · rintro g' ⟨M, w, e7, e8, e9, e10, OM, hM, rfl⟩
      rw [rangeD_len, Int.toNat_natCast] at OM ⊢
      refine ⟨M, w, e7, e8, e9, e10, OM.mono (by omega), hM, ?_⟩
      rw [Nat.sub_self]; rfl
  rintro _ ⟨M, w, e7, e8, e9, e10, OM, hM, rfl⟩
  have hMb : b < M.length := by omega
  walk_at "go"
  exact congrArg PyData.bool (decide_eq_true ⟨rfl, rfl⟩)
/-! ### law -/
abbrev N_law : List Str := ["_law_script", "_law_pool_here", "_law_left", "_law_hand", "_law_heap", "_law_who", "_law_keepers"]
theorem sc_law : FnScope N_law ["_law_script"] (defScope s_law) := ⟨rfl, rfl, rfl, by decide +kernel, rfl, by decide +kernel, by decide +kernel⟩
def S_law : Con := fun as r => ∃ ns, as = [.d (scr ns)] ∧ ns.length ≤ 63 ∧ r = .bool true
theorem ok_law {P : Program} {w : World} {K : PySem.W.Frag} {mg : Str → Option Value} {base : Heap} {f : Addr} {fd : FuncData} {T : Tb} (FD : FnP K "law" s_law f fd) (c_w_pool : Callable P w K mg base "_law_pool" 1 (spN K 2 S_w_pool)) (c_w_take : Callable P w K mg base "_law_take" 1 (spM K 2 S_w_take)) (c_w_lot : Callable P w K mg base "_law_lot" 2 (spM K 3 S_w_lot)) (c_w_played : Callable P w K mg base "_law_played" 13 (spR K 6 S_w_played)) (c_optimal_first_turns : CallableD P w K mg base "optimal_first_turns" 12 (spN K 4 S_optimal_first_turns) [.d (.str "warm")]) (c_game_value : CallableD P w K mg base "game_value" 12 (spR K 4 S_game_value) [.d (.str "warm")]) (b_len : mg "len" = none) (b_min : mg "min" = none) : FnG P w K mg base 14 f fd ["_law_script"] (spG K T 1 S_law) := by
  refine fn_okG FD sc_law rfl ?_
  intro X e1 e2 e3 e4 e5 hp F hgd C as r hS hl hW hT
  subst e1 e2 e3 e4 e5
  obtain ⟨ns, rfl, hns, rfl⟩ := hS
  have n0 : Nm X 0 "_law_script" := F.nm (by decide +kernel)
  have n1 : Nm X 1 "_law_pool_here" := F.nm (by decide +kernel)
  have l1 : Lc X 1 "_law_pool_here" := F.lc (by decide +kernel)
  have n2 : Nm X 2 "_law_left" := F.nm (by decide +kernel)
  have l2 : Lc X 2 "_law_left" := F.lc (by decide +kernel)
  have n3 : Nm X 3 "_law_hand" := F.nm (by decide +kernel)
  have l3 : Lc X 3 "_law_hand" := F.lc (by decide +kernel)
  have n4 : Nm X 4 "_law_heap" := F.nm (by decide +kernel)
  have l4 : Lc X 4 "_law_heap" := F.lc (by decide +kernel)
  have n5 : Nm X 5 "_law_who" := F.nm (by decide +kernel)
  have l5 : Lc X 5 "_law_who" := F.lc (by decide +kernel)
  have n6 : Nm X 6 "_law_keepers" := F.nm (by decide +kernel)
  have l6 : Lc X 6 "_law_keepers" := F.lc (by decide +kernel)
  have g_w_pool : Gn X "_law_pool" := F.gn (by decide +kernel)
  have g_w_take : Gn X "_law_take" := F.gn (by decide +kernel)
  have g_w_lot : Gn X "_law_lot" := F.gn (by decide +kernel)
  have g_w_played : Gn X "_law_played" := F.gn (by decide +kernel)
  have g_optimal_first_turns : Gn X "optimal_first_turns" := F.gn (by decide +kernel)
  have g_game_value : Gn X "game_value" := F.gn (by decide +kernel)
  have d_w_pool : Cal X "_law_pool" 13 (spN X.K 2 S_w_pool) := c_w_pool.mono (by decide)
  have d_w_take : Cal X "_law_take" 13 (spM X.K 2 S_w_take) := c_w_take.mono (by decide)
  have d_w_lot : Cal X "_law_lot" 13 (spM X.K 3 S_w_lot) := c_w_lot.mono (by decide)
  have d_w_played : Cal X "_law_played" 13 (spR X.K 6 S_w_played) := c_w_played.mono (by decide)
  have d_optimal_first_turns : CalD X "optimal_first_turns" 13 (spN X.K 4 S_optimal_first_turns) [.d (.str "warm")] := c_optimal_first_turns.mono (by decide)
  have d_game_value : CalD X "game_value" 13 (spR X.K 4 S_game_value) [.d (.str "warm")] := c_game_value.mono (by decide)
  have z_len : Bn X "len" := F.bn (by decide +kernel) b_len
  have z_min : Bn X "min" := F.bn (by decide +kernel) b_min
  walk_at "text"
  walk_at "env"
  have PO := pool_ok ns 0
  refine AL.ess_cut (R := fun g => g = [.im (scr ns), .ls none (pool ns 0).ds, .no, .no, .no, .no, .no]) (by walk_at "go"; rfl) ?_
  rintro _ rfl
  generalize pool ns 0 = p0 at PO ⊢
  have a0 := pick_nn (p := p0) (w := 4) (by decide)
  have a1 := pick_lt (p := p0) (w := 4) (by decide)
  have P1 := left_ok PO (show (0 : Int) < 4 by decide)
  obtain ⟨t, ht⟩ : ∃ t : Nat, 1 + pick p0 4 = (t : Nat) := ⟨(1 + pick p0 4).toNat, by omega⟩
  refine AL.ess_cut (R := fun g => g = [.im (scr ns), .ls none (left p0 4).ds, .im (.int (t : Nat)), .no, .no, .no, .no]) (by walk_at "go"; rw [ht]) ?_
  rintro _ rfl
  generalize left p0 4 = p1 at P1 ⊢
  have t4 : t ≤ 4 := by omega
  clear a0 a1 ht PO
  have c0 := pick_nn (p := p1) (w := 2) (by decide)
  have c1 := pick_lt (p := p1) (w := 2) (by decide)
  have P2 := left_ok P1 (show (0 : Int) < 2 by decide)
  obtain ⟨w, hat⟩ : ∃ w, atI [PyData.str "warm", PyData.str "cold"] (pick p1 2) = some (handD w) := by
    have : pick p1 2 = 0 ∨ pick p1 2 = 1 := by omega
    rcases this with z | z <;> rw [z]
    · exact ⟨true, rfl⟩
    · exact ⟨false, rfl⟩
  refine AL.ess_cut (R := fun g => g = [.im (scr ns), .ls none (left p1 2).ds, .im (.int (t : Nat)), .im (handD w), .no, .no, .no]) (by walk_at "go"; rfl) ?_
  rintro _ rfl
  generalize left p1 2 = p2 at P2 ⊢
  clear hat c0 c1 P1
  obtain ⟨y1, y4⟩ := lotG_len (few := 1) (more := 4) (p := p2) (by decide) (by decide)
  have OL : OkSt 525 (lotG 1 4 p2) := lotG_ok (by decide) (by decide) (by decide)
  have P3 : (lotPG 1 4 p2).Ok := lotPG_ok (by decide) P2
  refine AL.ess_cut (R := fun g => g = [.im (scr ns), .ls none (lotPG 1 4 p2).ds, .im (.int (t : Nat)), .im (handD w), .im (stD (lotG 1 4 p2)), .no, .no]) (by walk_at "go"; rfl) ?_
  rintro _ rfl
  generalize lotG 1 4 p2 = L at OL y1 y4 ⊢
  generalize lotPG 1 4 p2 = p3 at P3 ⊢
  have hL4 : L.length ≤ 4 := by omega
  have hL1 : 1 ≤ L.length := by omega
  have hl0 : (List.map blk L).length = L.length := List.length_map ..
  have b0 := pick_nn (p := p3) (w := L.length) (by omega)
  have b1 := pick_lt (p := p3) (w := L.length) (by omega)
  obtain ⟨b, hb⟩ := Int.eq_ofNat_of_zero_le b0
  refine AL.ess_cut (R := fun g => ∃ e1, g = [.im (scr ns), e1, .im (.int (t : Nat)), .im (handD w), .im (stD L), .im (.int (b : Nat)), .no]) (by walk_at "go"; rw [hl0, hb]; exact ⟨_, rfl⟩) ?_
  rintro _ ⟨e1, rfl⟩
  have hbL : b < L.length := by omega
  clear b0 b1 hb P3
  have e6 : Ent := .no
  refine AL.ess_cut (R := fun g => ∃ t : Nat, t ≤ 4 ∧ g = [.im (scr ns), e1, .im (.int (t : Nat)), .im (handD w), .im (stD L), .im (.int (b : Nat)), .no]) ?_ ?_
  · walk_at "go"
    · by_cases hlt : 2 < t
      · rw [if_pos (show (2 : Int) < t by omega)]
        exact ⟨2, by omega, rfl⟩
      · rw [if_neg (show ¬ (2 : Int) < t by omega)]
        exact ⟨t, t4, rfl⟩
    · exact ⟨t, t4, rfl⟩
  rintro _ ⟨t, ht4, rfl⟩
  have O16 : OkSt 1640 L := OL.mono (by decide)
  refine AL.ess_cut (R := fun g => ∃ e6, g = [.im (scr ns), e1, .im (.int (t : Nat)), .im (handD w), .im (stD L), .im (.int (b : Nat)), e6]) ?_ ?_
  · refine AL.es_for hp (by walk_at "calm") ?_
    refine AL.ei_list ?_
    walk_at "go"
    refine ⟨fun j g => ∃ e6, g = [.im (scr ns), e1, .im (.int (t : Nat)), .im (handD w), .im (stD L), .im (.int (b : Nat)), e6], ⟨_, rfl⟩, ?_, ?_⟩
    · rintro j d g' e ⟨e6, rfl⟩
      obtain ⟨ks, rfl, hks⟩ : ∃ ks : List Bool, d = .list (ks.map handD) ∧ ks.length ≤ 2 := by
        have hd := List.mem_of_getElem? e
        simp only [List.mem_cons, List.not_mem_nil, or_false] at hd
        rcases hd with rfl | rfl | rfl
        · exact ⟨[true], rfl, by decide⟩
        · exact ⟨[false], rfl, by decide⟩
        · exact ⟨[true, false], rfl, by decide⟩
      clear e
      refine AL.eg_d (by walk_at "lc") (by walk_at "se") ?_
      walk_at "go"
      refine AL.lf_call rfl (by walk_at "cv") (show S_w_played _ _ from ⟨ns, L, b, t, w, ks, rfl, hns, OL, hL4, hbL, ht4, hks, rfl⟩) ?_
      walk_at "go"
      all_goals first | exact ⟨_, rfl⟩ | trace_state
    · rintro g' ⟨e6, rfl⟩
      exact ⟨_, rfl⟩
  rintro _ ⟨e6', rfl⟩
  walk_at "go"
  exact congrArg PyData.bool (decide_eq_true ⟨rfl, rfl⟩)
local macro_rules | `(tactic| walk_at "con") => `(tactic| ((with_reducible show S_law _ _); unfold S_law; exact ⟨_, rfl, rfl⟩))
/-! ### the end -/
theorem facts {P : Program} {w : World} {K : PySem.W.Frag} {h : Heap} {mg : Str → Option Value} {f : Addr} (X : K.In h) (G : h.Ns mainGlobals mg) (hfa : mg ("law" : Str) = some (.ref f)) (c : He.SaysD fa fn K) (cx : ex K = true) :
    ∃ fd : FuncData, (∀ (s : Shared) (v : Value), BindsTo s fd ⟨[v], []⟩ [("_law_script", v)]) ∧ ∀ base : Heap, K.In base → base.Ns mainGlobals mg → FnG P w K mg base 14 f fd ["_law_script"] (spG K [] 1 S_law) := by
  obtain ⟨fd_is_integer, F_is_integer⟩ := c.def_ 0 (d := d_is_integer) rfl
  obtain ⟨fd_in_range, F_in_range⟩ := c.def_ 1 (d := d_in_range) rfl
  obtain ⟨fd_gcd, F_gcd⟩ := c.def_ 2 (d := d_gcd) rfl
  obtain ⟨fd_is_fraction, F_is_fraction⟩ := c.def_ 3 (d := d_is_fraction) rfl
  obtain ⟨fd_reduced, F_reduced⟩ := c.def_ 4 (d := d_reduced) rfl
  obtain ⟨fd_fraction_sum, F_fraction_sum⟩ := c.def_ 5 (d := d_fraction_sum) rfl
  obtain ⟨fd_fraction_product, F_fraction_product⟩ := c.def_ 6 (d := d_fraction_product) rfl
  obtain ⟨fd_is_lower, F_is_lower⟩ := c.def_ 7 (d := d_is_lower) rfl
  obtain ⟨fd_is_valid_size, F_is_valid_size⟩ := c.def_ 8 (d := d_is_valid_size) rfl
  obtain ⟨fd_is_valid_block, F_is_valid_block⟩ := c.def_ 9 (d := d_is_valid_block) rfl
  obtain ⟨fd_check_each, F_check_each⟩ := c.def_ 10 (d := d_check_each) rfl
  obtain ⟨fd_check_state, F_check_state⟩ := c.def_ 11 (d := d_check_state) rfl
  obtain ⟨fd_check_block, F_check_block⟩ := c.def_ 12 (d := d_check_block) rfl
  obtain ⟨fd_mixed_temperature, F_mixed_temperature⟩ := c.def_ 13 (d := d_mixed_temperature) rfl
  obtain ⟨fd_state_after, F_state_after⟩ := c.def_ 14 (d := d_state_after) rfl
  obtain ⟨fd_allowed_pairs, F_allowed_pairs⟩ := c.def_ 15 (d := d_allowed_pairs) rfl
  obtain ⟨fd_check_max_touches, F_check_max_touches⟩ := c.def_ 16 (d := d_check_max_touches) rfl
  obtain ⟨fd_check_small, F_check_small⟩ := c.def_ 17 (d := d_check_small) rfl
  obtain ⟨fd_check_game, F_check_game⟩ := c.def_ 18 (d := d_check_game) rfl
  obtain ⟨fd_opponent, F_opponent⟩ := c.def_ 19 (d := d_opponent) rfl
  obtain ⟨fd_is_better, F_is_better⟩ := c.def_ 20 (d := d_is_better) rfl
  obtain ⟨fd_successors, F_successors⟩ := c.def_ 21 (d := d_successors) rfl
  obtain ⟨fd_minimax, F_minimax⟩ := c.def_ 22 (d := d_minimax) rfl
  obtain ⟨fd_game_value, F_game_value⟩ := c.def_ 23 (d := d_game_value) rfl
  obtain ⟨fd_optimal_first_turns, F_optimal_first_turns⟩ := c.def_ 24 (d := d_optimal_first_turns) rfl
  obtain ⟨fd_w_pool, F_w_pool⟩ := c.def_ 25 (d := d_w_pool) rfl
  obtain ⟨fd_w_take, F_w_take⟩ := c.def_ 26 (d := d_w_take) rfl
  obtain ⟨fd_w_low, F_w_low⟩ := c.def_ 27 (d := d_w_low) rfl
  obtain ⟨fd_w_less, F_w_less⟩ := c.def_ 28 (d := d_w_less) rfl
  obtain ⟨fd_w_lot, F_w_lot⟩ := c.def_ 29 (d := d_w_lot) rfl
  obtain ⟨fd_w_touch, F_w_touch⟩ := c.def_ 30 (d := d_w_touch) rfl
  obtain ⟨fd_w_pairs, F_w_pairs⟩ := c.def_ 31 (d := d_w_pairs) rfl
  obtain ⟨fd_w_turned, F_w_turned⟩ := c.def_ 32 (d := d_w_turned) rfl
  obtain ⟨fd_w_turn, F_w_turn⟩ := c.def_ 33 (d := d_w_turn) rfl
  obtain ⟨fd_w_is_worse, F_w_is_worse⟩ := c.def_ 34 (d := d_w_is_worse) rfl
  obtain ⟨fd_w_played, F_w_played⟩ := c.def_ 35 (d := d_w_played) rfl
  obtain ⟨fd_law, F_law⟩ := c.def_ 36 (d := d_law) rfl
  obtain ⟨fd_is_integer, F_is_integer⟩ := c.def_ 0 (d := d_is_integer) rfl
  obtain ⟨fd_in_range, F_in_range⟩ := c.def_ 1 (d := d_in_range) rfl
  obtain ⟨fd_is_fraction, F_is_fraction⟩ := c.def_ 3 (d := d_is_fraction) rfl
  obtain ⟨fd_is_lower, F_is_lower⟩ := c.def_ 7 (d := d_is_lower) rfl
  obtain ⟨fd_is_valid_size, F_is_valid_size⟩ := c.def_ 8 (d := d_is_valid_size) rfl
  obtain ⟨fd_is_valid_block, F_is_valid_block⟩ := c.def_ 9 (d := d_is_valid_block) rfl
  obtain ⟨fd_is_better, F_is_better⟩ := c.def_ 20 (d := d_is_better) rfl
  have e := hfa.symm.trans (He.glo_ok X G (c.fact 36 (f := .glo "law") rfl))
  cases e
  have b := FunD.bindsA (ps := ["_law_script"]) F_law fun _ _ _ _ _ _ us hl => match us, hl with | [_], _ => rfl
  refine ⟨fd_law, fun s v => b s [v] rfl, fun base _ _  => ?_⟩
  have q_is_integer := ok_is_integer (P := P) (w := w) (base := base) (mg := mg) F_is_integer (He.free_ok X G (c.fact 47 (f := .free "isinstance") rfl)) (He.free_ok X G (c.fact 46 (f := .free "int") rfl)) (He.free_ok X G (c.fact 44 (f := .free "bool") rfl))
  have c_is_integer := Callable.mk (P := P) (w := w) (base := base) (mg := mg) ⟨_, _, _, q_is_integer, (He.glo_ok X G (c.fact 0 (f := .glo "is_integer") rfl)), F_is_integer.kp, FunD.bindsN F_is_integer fun _ _ _ _ _ _ us hl => match us, hl with | [_], _ => rfl⟩
  have q_in_range := ok_in_range (P := P) (w := w) (base := base) (mg := mg) F_in_range c_is_integer
  have c_in_range := Callable.mk (P := P) (w := w) (base := base) (mg := mg) ⟨_, _, _, q_in_range, (He.glo_ok X G (c.fact 1 (f := .glo "in_range") rfl)), F_in_range.kp, FunD.bindsN F_in_range fun _ _ _ _ _ _ us hl => match us, hl with | [_, _, _], _ => rfl⟩
  have q_gcd := ok_gcd (P := P) (w := w) (base := base) (mg := mg) F_gcd (He.free_ok X G (c.fact 43 (f := .free "abs") rfl))
  have c_gcd := Callable.mk (P := P) (w := w) (base := base) (mg := mg) ⟨_, _, _, q_gcd, (He.glo_ok X G (c.fact 2 (f := .glo "gcd") rfl)), F_gcd.kp, FunD.bindsN F_gcd fun _ _ _ _ _ _ us hl => match us, hl with | [_, _], _ => rfl⟩
  have q_is_fraction := ok_is_fraction (P := P) (w := w) (base := base) (mg := mg) F_is_fraction c_is_integer c_gcd (He.free_ok X G (c.fact 47 (f := .free "isinstance") rfl)) (He.free_ok X G (c.fact 53 (f := .free "tuple") rfl)) (He.free_ok X G (c.fact 48 (f := .free "len") rfl))
  have c_is_fraction := Callable.mk (P := P) (w := w) (base := base) (mg := mg) ⟨_, _, _, q_is_fraction, (He.glo_ok X G (c.fact 3 (f := .glo "is_fraction") rfl)), F_is_fraction.kp, FunD.bindsN F_is_fraction fun _ _ _ _ _ _ us hl => match us, hl with | [_], _ => rfl⟩
  have q_reduced := ok_reduced (P := P) (w := w) (base := base) (mg := mg) F_reduced c_gcd
  have c_reduced := Callable.mk (P := P) (w := w) (base := base) (mg := mg) ⟨_, _, _, q_reduced, (He.glo_ok X G (c.fact 4 (f := .glo "reduced") rfl)), F_reduced.kp, FunD.bindsN F_reduced fun _ _ _ _ _ _ us hl => match us, hl with | [_, _], _ => rfl⟩
  have q_fraction_sum := ok_fraction_sum (P := P) (w := w) (base := base) (mg := mg) F_fraction_sum c_reduced
  have c_fraction_sum := Callable.mk (P := P) (w := w) (base := base) (mg := mg) ⟨_, _, _, q_fraction_sum, (He.glo_ok X G (c.fact 5 (f := .glo "fraction_sum") rfl)), F_fraction_sum.kp, FunD.bindsN F_fraction_sum fun _ _ _ _ _ _ us hl => match us, hl with | [_, _], _ => rfl⟩
  have q_fraction_product := ok_fraction_product (P := P) (w := w) (base := base) (mg := mg) F_fraction_product c_reduced
  have c_fraction_product := Callable.mk (P := P) (w := w) (base := base) (mg := mg) ⟨_, _, _, q_fraction_product, (He.glo_ok X G (c.fact 6 (f := .glo "fraction_product") rfl)), F_fraction_product.kp, FunD.bindsN F_fraction_product fun _ _ _ _ _ _ us hl => match us, hl with | [_, _], _ => rfl⟩
  have q_is_lower := ok_is_lower (P := P) (w := w) (base := base) (mg := mg) F_is_lower
  have c_is_lower := Callable.mk (P := P) (w := w) (base := base) (mg := mg) ⟨_, _, _, q_is_lower, (He.glo_ok X G (c.fact 7 (f := .glo "is_lower") rfl)), F_is_lower.kp, FunD.bindsN F_is_lower fun _ _ _ _ _ _ us hl => match us, hl with | [_, _], _ => rfl⟩
  have q_is_valid_size := ok_is_valid_size (P := P) (w := w) (base := base) (mg := mg) F_is_valid_size c_in_range (He.int_ok X G (c.fact 38 (f := .int "MAX_SIZE" 99) rfl))
  have c_is_valid_size := Callable.mk (P := P) (w := w) (base := base) (mg := mg) ⟨_, _, _, q_is_valid_size, (He.glo_ok X G (c.fact 8 (f := .glo "is_valid_size") rfl)), F_is_valid_size.kp, FunD.bindsN F_is_valid_size fun _ _ _ _ _ _ us hl => match us, hl with | [_], _ => rfl⟩
  have q_is_valid_block := ok_is_valid_block (P := P) (w := w) (base := base) (mg := mg) F_is_valid_block c_is_valid_size c_is_fraction (He.free_ok X G (c.fact 47 (f := .free "isinstance") rfl)) (He.free_ok X G (c.fact 53 (f := .free "tuple") rfl)) (He.free_ok X G (c.fact 48 (f := .free "len") rfl))
  have c_is_valid_block := Callable.mk (P := P) (w := w) (base := base) (mg := mg) ⟨_, _, _, q_is_valid_block, (He.glo_ok X G (c.fact 9 (f := .glo "is_valid_block") rfl)), F_is_valid_block.kp, FunD.bindsN F_is_valid_block fun _ _ _ _ _ _ us hl => match us, hl with | [_], _ => rfl⟩
  have q_check_each := ok_check_each (P := P) (w := w) (base := base) (mg := mg) F_check_each (He.int_ok X G (c.fact 37 (f := .int "MAX_BLOCKS" 12) rfl)) (He.free_ok X G (c.fact 47 (f := .free "isinstance") rfl)) (He.free_ok X G (c.fact 53 (f := .free "tuple") rfl)) (He.free_ok X G (c.fact 48 (f := .free "len") rfl)) (He.free_ok X G (c.fact 45 (f := .free "enumerate") rfl))
  have c_check_each := Callable.mk (P := P) (w := w) (base := base) (mg := mg) ⟨_, _, _, q_check_each, (He.glo_ok X G (c.fact 10 (f := .glo "check_each") rfl)), F_check_each.kp, FunD.bindsN F_check_each fun _ _ _ _ _ _ us hl => match us, hl with | [_, _], _ => rfl⟩
  have q_check_state := ok_check_state (P := P) (w := w) (base := base) (mg := mg) F_check_state c_check_each c_is_valid_block
  have c_check_state := Callable.mk (P := P) (w := w) (base := base) (mg := mg) ⟨_, _, _, q_check_state, (He.glo_ok X G (c.fact 11 (f := .glo "check_state") rfl)), F_check_state.kp, FunD.bindsN F_check_state fun _ _ _ _ _ _ us hl => match us, hl with | [_], _ => rfl⟩
  have q_check_block := ok_check_block (P := P) (w := w) (base := base) (mg := mg) F_check_block c_in_range
  have c_check_block := Callable.mk (P := P) (w := w) (base := base) (mg := mg) ⟨_, _, _, q_check_block, (He.glo_ok X G (c.fact 12 (f := .glo "check_block") rfl)), F_check_block.kp, FunD.bindsN F_check_block fun _ _ _ _ _ _ us hl => match us, hl with | [_, _], _ => rfl⟩
  have q_mixed_temperature := ok_mixed_temperature (P := P) (w := w) (base := base) (mg := mg) F_mixed_temperature c_fraction_sum c_fraction_product c_reduced
  have c_mixed_temperature := Callable.mk (P := P) (w := w) (base := base) (mg := mg) ⟨_, _, _, q_mixed_temperature, (He.glo_ok X G (c.fact 13 (f := .glo "mixed_temperature") rfl)), F_mixed_temperature.kp, FunD.bindsN F_mixed_temperature fun _ _ _ _ _ _ us hl => match us, hl with | [_, _], _ => rfl⟩
  have q_state_after := ok_state_after (P := P) (w := w) (base := base) (mg := mg) F_state_after c_mixed_temperature (He.free_ok X G (c.fact 53 (f := .free "tuple") rfl)) (He.free_ok X G (c.fact 45 (f := .free "enumerate") rfl))
  have c_state_after := Callable.mk (P := P) (w := w) (base := base) (mg := mg) ⟨_, _, _, q_state_after, (He.glo_ok X G (c.fact 14 (f := .glo "state_after") rfl)), F_state_after.kp, FunD.bindsN F_state_after fun _ _ _ _ _ _ us hl => match us, hl with | [_, _, _], _ => rfl⟩
  have q_allowed_pairs := ok_allowed_pairs (P := P) (w := w) (base := base) (mg := mg) F_allowed_pairs (He.free_ok X G (c.fact 51 (f := .free "range") rfl))
  have c_allowed_pairs := Callable.mk (P := P) (w := w) (base := base) (mg := mg) ⟨_, _, _, q_allowed_pairs, (He.glo_ok X G (c.fact 15 (f := .glo "allowed_pairs") rfl)), F_allowed_pairs.kp, FunD.bindsN F_allowed_pairs fun _ _ _ _ _ _ us hl => match us, hl with | [_, _], _ => rfl⟩
  have q_check_max_touches := ok_check_max_touches (P := P) (w := w) (base := base) (mg := mg) F_check_max_touches c_in_range (He.int_ok X G (c.fact 39 (f := .int "MAX_SEARCH" 4) rfl))
  have c_check_max_touches := Callable.mk (P := P) (w := w) (base := base) (mg := mg) ⟨_, _, _, q_check_max_touches, (He.glo_ok X G (c.fact 16 (f := .glo "check_max_touches") rfl)), F_check_max_touches.kp, FunD.bindsN F_check_max_touches fun _ _ _ _ _ _ us hl => match us, hl with | [_], _ => rfl⟩
  have q_check_small := ok_check_small (P := P) (w := w) (base := base) (mg := mg) F_check_small (He.int_ok X G (c.fact 40 (f := .int "MAX_SMALL" 4) rfl))
  have c_check_small := Callable.mk (P := P) (w := w) (base := base) (mg := mg) ⟨_, _, _, q_check_small, (He.glo_ok X G (c.fact 17 (f := .glo "check_small") rfl)), F_check_small.kp, FunD.bindsN F_check_small fun _ _ _ _ _ _ us hl => match us, hl with | [_], _ => rfl⟩
  have q_check_game := ok_check_game (P := P) (w := w) (base := base) (mg := mg) F_check_game c_check_state c_check_block c_check_max_touches c_check_small (He.str_ok X G (c.fact 41 (f := .str "WARM" "warm") rfl)) (He.str_ok X G (c.fact 42 (f := .str "COLD" "cold") rfl)) (He.free_ok X G (c.fact 48 (f := .free "len") rfl)) (He.free_ok X G (c.fact 47 (f := .free "isinstance") rfl)) (He.free_ok X G (c.fact 52 (f := .free "str") rfl))
  have c_check_game := Callable.mk (P := P) (w := w) (base := base) (mg := mg) ⟨_, _, _, q_check_game, (He.glo_ok X G (c.fact 18 (f := .glo "check_game") rfl)), F_check_game.kp, FunD.bindsN F_check_game fun _ _ _ _ _ _ us hl => match us, hl with | [_, _, _, _], _ => rfl⟩
  have q_opponent := ok_opponent (P := P) (w := w) (base := base) (mg := mg) F_opponent (He.str_ok X G (c.fact 42 (f := .str "COLD" "cold") rfl)) (He.str_ok X G (c.fact 41 (f := .str "WARM" "warm") rfl))
  have c_opponent := Callable.mk (P := P) (w := w) (base := base) (mg := mg) ⟨_, _, _, q_opponent, (He.glo_ok X G (c.fact 19 (f := .glo "opponent") rfl)), F_opponent.kp, FunD.bindsN F_opponent fun _ _ _ _ _ _ us hl => match us, hl with | [_], _ => rfl⟩
  have q_is_better := ok_is_better (P := P) (w := w) (base := base) (mg := mg) F_is_better c_is_lower (He.str_ok X G (c.fact 41 (f := .str "WARM" "warm") rfl))
  have c_is_better := Callable.mk (P := P) (w := w) (base := base) (mg := mg) ⟨_, _, _, q_is_better, (He.glo_ok X G (c.fact 20 (f := .glo "is_better") rfl)), F_is_better.kp, FunD.bindsN F_is_better fun _ _ _ _ _ _ us hl => match us, hl with | [_, _, _], _ => rfl⟩
  have q_successors := ok_successors (P := P) (w := w) (base := base) (mg := mg) F_successors c_state_after c_allowed_pairs (He.free_ok X G (c.fact 48 (f := .free "len") rfl))
  have c_successors := Callable.mk (P := P) (w := w) (base := base) (mg := mg) ⟨_, _, _, q_successors, (He.glo_ok X G (c.fact 21 (f := .glo "successors") rfl)), F_successors.kp, FunD.bindsN F_successors fun _ _ _ _ _ _ us hl => match us, hl with | [_], _ => rfl⟩
  have q_minimax_v_v_v_v := ok_minimax_v_v_v_v (P := P) (w := w) (base := base) (mg := mg) F_minimax c_successors c_opponent c_is_better
  have c_minimax_v_v_v_v := Callable.mk (P := P) (w := w) (base := base) (mg := mg) ⟨_, _, _, q_minimax_v_v_v_v, (He.glo_ok X G (c.fact 22 (f := .glo "minimax") rfl)), F_minimax.kp, FunD.bindsN F_minimax fun _ _ _ _ _ _ us hl => match us, hl with | [_, _, _, _, _], _ => rfl⟩
  have q_minimax_v_v_v := ok_minimax_v_v_v (P := P) (w := w) (base := base) (mg := mg) F_minimax c_successors c_minimax_v_v_v_v c_opponent c_is_better
  have c_minimax_v_v_v := Callable.mk (P := P) (w := w) (base := base) (mg := mg) ⟨_, _, _, q_minimax_v_v_v, (He.glo_ok X G (c.fact 22 (f := .glo "minimax") rfl)), F_minimax.kp, FunD.bindsN F_minimax fun _ _ _ _ _ _ us hl => match us, hl with | [_, _, _, _, _], _ => rfl⟩
  have q_minimax_v_v := ok_minimax_v_v (P := P) (w := w) (base := base) (mg := mg) F_minimax c_successors c_minimax_v_v_v c_opponent c_is_better
  have c_minimax_v_v := Callable.mk (P := P) (w := w) (base := base) (mg := mg) ⟨_, _, _, q_minimax_v_v, (He.glo_ok X G (c.fact 22 (f := .glo "minimax") rfl)), F_minimax.kp, FunD.bindsN F_minimax fun _ _ _ _ _ _ us hl => match us, hl with | [_, _, _, _, _], _ => rfl⟩
  have q_minimax_v := ok_minimax_v (P := P) (w := w) (base := base) (mg := mg) F_minimax c_successors c_minimax_v_v c_opponent c_is_better
  have c_minimax_v := Callable.mk (P := P) (w := w) (base := base) (mg := mg) ⟨_, _, _, q_minimax_v, (He.glo_ok X G (c.fact 22 (f := .glo "minimax") rfl)), F_minimax.kp, FunD.bindsN F_minimax fun _ _ _ _ _ _ us hl => match us, hl with | [_, _, _, _, _], _ => rfl⟩
  have q_minimax := ok_minimax (P := P) (w := w) (base := base) (mg := mg) F_minimax c_successors c_minimax_v c_opponent c_is_better
  have c_minimax := Callable.mk (P := P) (w := w) (base := base) (mg := mg) ⟨_, _, _, q_minimax, (He.glo_ok X G (c.fact 22 (f := .glo "minimax") rfl)), F_minimax.kp, FunD.bindsN F_minimax fun _ _ _ _ _ _ us hl => match us, hl with | [_, _, _, _, _], _ => rfl⟩
  have q_game_value := ok_game_value (P := P) (w := w) (base := base) (mg := mg) F_game_value c_check_game c_minimax
  obtain ⟨bs_game_value, bv_game_value, bb_game_value⟩ := FunD.binds0 (ps := ["state", "block", "turns", "first"]) F_game_value 3 (fun z => absurd (show 1 = 0 from congrArg List.length z) (by decide)) rfl fun D doc pm an cdv ct us ks h1 h2 => match us, ks, h1, h2 with | [_, _, _], [_], _, _ => ⟨_, _, _, _, _, _, rfl, rfl, rfl⟩
  have c_game_value := CallableD.mk (P := P) (w := w) (base := base) (mg := mg) (dd := [.d (.str "warm")]) ⟨_, _, _, _, _, q_game_value, (He.glo_ok X G (c.fact 23 (f := .glo "game_value") rfl)), F_game_value.kp, bb_game_value, bv_game_value, fun Z => .cons (Dd.str _) .nil⟩
  have k0_game_value := CallableK.mk (P := P) (w := w) (base := base) (mg := mg) ⟨_, _, _, q_game_value, (He.glo_ok X G (c.fact 23 (f := .glo "game_value") rfl)), F_game_value.kp, kb_all F_game_value 3 ["first"] [0, 1, 2, 3] fun _ _ _ _ _ _ us ws h1 h2 => match us, ws, h1, h2 with | [_, _, _], [_], _, _ => rfl⟩
  have q_optimal_first_turns := ok_optimal_first_turns (P := P) (w := w) (base := base) (mg := mg) F_optimal_first_turns c_check_game c_minimax c_successors c_allowed_pairs c_opponent (He.free_ok X G (c.fact 54 (f := .free "zip") rfl)) (He.free_ok X G (c.fact 48 (f := .free "len") rfl))
  obtain ⟨bs_optimal_first_turns, bv_optimal_first_turns, bb_optimal_first_turns⟩ := FunD.binds0 (ps := ["state", "block", "turns", "first"]) F_optimal_first_turns 3 (fun z => absurd (show 1 = 0 from congrArg List.length z) (by decide)) rfl fun D doc pm an cdv ct us ks h1 h2 => match us, ks, h1, h2 with | [_, _, _], [_], _, _ => ⟨_, _, _, _, _, _, rfl, rfl, rfl⟩
  have c_optimal_first_turns := CallableD.mk (P := P) (w := w) (base := base) (mg := mg) (dd := [.d (.str "warm")]) ⟨_, _, _, _, _, q_optimal_first_turns, (He.glo_ok X G (c.fact 24 (f := .glo "optimal_first_turns") rfl)), F_optimal_first_turns.kp, bb_optimal_first_turns, bv_optimal_first_turns, fun Z => .cons (Dd.str _) .nil⟩
  have k0_optimal_first_turns := CallableK.mk (P := P) (w := w) (base := base) (mg := mg) ⟨_, _, _, q_optimal_first_turns, (He.glo_ok X G (c.fact 24 (f := .glo "optimal_first_turns") rfl)), F_optimal_first_turns.kp, kb_all F_optimal_first_turns 3 ["first"] [0, 1, 2, 3] fun _ _ _ _ _ _ us ws h1 h2 => match us, ws, h1, h2 with | [_, _, _], [_], _, _ => rfl⟩
  have q_w_pool := ok_w_pool (P := P) (w := w) (base := base) (mg := mg) F_w_pool (He.free_ok X G (c.fact 48 (f := .free "len") rfl)) (He.free_ok X G (c.fact 43 (f := .free "abs") rfl)) (He.free_ok X G (c.fact 46 (f := .free "int") rfl))
  have c_w_pool := Callable.mk (P := P) (w := w) (base := base) (mg := mg) ⟨_, _, _, q_w_pool, (He.glo_ok X G (c.fact 25 (f := .glo "_law_pool") rfl)), F_w_pool.kp, FunD.bindsN F_w_pool fun _ _ _ _ _ _ us hl => match us, hl with | [_, _], _ => rfl⟩
  have q_w_take := ok_w_take (P := P) (w := w) (base := base) (mg := mg) F_w_take
  have c_w_take := Callable.mk (P := P) (w := w) (base := base) (mg := mg) ⟨_, _, _, q_w_take, (He.glo_ok X G (c.fact 26 (f := .glo "_law_take") rfl)), F_w_take.kp, FunD.bindsN F_w_take fun _ _ _ _ _ _ us hl => match us, hl with | [_, _], _ => rfl⟩
  have q_w_low := ok_w_low (P := P) (w := w) (base := base) (mg := mg) F_w_low (He.free_ok X G (c.fact 43 (f := .free "abs") rfl))
  have c_w_low := Callable.mk (P := P) (w := w) (base := base) (mg := mg) ⟨_, _, _, q_w_low, (He.glo_ok X G (c.fact 27 (f := .glo "_law_low") rfl)), F_w_low.kp, FunD.bindsN F_w_low fun _ _ _ _ _ _ us hl => match us, hl with | [_, _], _ => rfl⟩
  have q_w_less := ok_w_less (P := P) (w := w) (base := base) (mg := mg) F_w_less
  have c_w_less := Callable.mk (P := P) (w := w) (base := base) (mg := mg) ⟨_, _, _, q_w_less, (He.glo_ok X G (c.fact 28 (f := .glo "_law_less") rfl)), F_w_less.kp, FunD.bindsN F_w_less fun _ _ _ _ _ _ us hl => match us, hl with | [_, _], _ => rfl⟩
  have q_w_lot := ok_w_lot (P := P) (w := w) (base := base) (mg := mg) F_w_lot c_w_take c_w_low (He.free_ok X G (c.fact 51 (f := .free "range") rfl)) (He.free_ok X G (c.fact 53 (f := .free "tuple") rfl))
  have c_w_lot := Callable.mk (P := P) (w := w) (base := base) (mg := mg) ⟨_, _, _, q_w_lot, (He.glo_ok X G (c.fact 29 (f := .glo "_law_lot") rfl)), F_w_lot.kp, FunD.bindsN F_w_lot fun _ _ _ _ _ _ us hl => match us, hl with | [_, _, _], _ => rfl⟩
  have q_w_touch := ok_w_touch (P := P) (w := w) (base := base) (mg := mg) F_w_touch c_w_low (He.free_ok X G (c.fact 49 (f := .free "list") rfl)) (He.free_ok X G (c.fact 53 (f := .free "tuple") rfl))
  have c_w_touch := Callable.mk (P := P) (w := w) (base := base) (mg := mg) ⟨_, _, _, q_w_touch, (He.glo_ok X G (c.fact 30 (f := .glo "_law_touch") rfl)), F_w_touch.kp, FunD.bindsN F_w_touch fun _ _ _ _ _ _ us hl => match us, hl with | [_, _, _], _ => rfl⟩
  have q_w_pairs := ok_w_pairs (P := P) (w := w) (base := base) (mg := mg) F_w_pairs (He.free_ok X G (c.fact 51 (f := .free "range") rfl))
  have c_w_pairs := Callable.mk (P := P) (w := w) (base := base) (mg := mg) ⟨_, _, _, q_w_pairs, (He.glo_ok X G (c.fact 31 (f := .glo "_law_pairs") rfl)), F_w_pairs.kp, FunD.bindsN F_w_pairs fun _ _ _ _ _ _ us hl => match us, hl with | [_], _ => rfl⟩
  have q_w_turned := ok_w_turned (P := P) (w := w) (base := base) (mg := mg) F_w_turned c_w_touch
  have c_w_turned := Callable.mk (P := P) (w := w) (base := base) (mg := mg) ⟨_, _, _, q_w_turned, (He.glo_ok X G (c.fact 32 (f := .glo "_law_turned") rfl)), F_w_turned.kp, FunD.bindsN F_w_turned fun _ _ _ _ _ _ us hl => match us, hl with | [_, _], _ => rfl⟩
  have q_w_turn := ok_w_turn (P := P) (w := w) (base := base) (mg := mg) F_w_turn c_w_pairs c_w_take (He.free_ok X G (c.fact 48 (f := .free "len") rfl))
  have c_w_turn := Callable.mk (P := P) (w := w) (base := base) (mg := mg) ⟨_, _, _, q_w_turn, (He.glo_ok X G (c.fact 33 (f := .glo "_law_turn") rfl)), F_w_turn.kp, FunD.bindsN F_w_turn fun _ _ _ _ _ _ us hl => match us, hl with | [_, _, _, _], _ => rfl⟩
  have q_w_is_worse := ok_w_is_worse (P := P) (w := w) (base := base) (mg := mg) F_w_is_worse c_w_less
  have c_w_is_worse := Callable.mk (P := P) (w := w) (base := base) (mg := mg) ⟨_, _, _, q_w_is_worse, (He.glo_ok X G (c.fact 34 (f := .glo "_law_is_worse") rfl)), F_w_is_worse.kp, FunD.bindsN F_w_is_worse fun _ _ _ _ _ _ us hl => match us, hl with | [_, _, _], _ => rfl⟩
  have q_w_played := ok_w_played (P := P) (w := w) (base := base) (mg := mg) F_w_played k0_game_value c_w_pool c_w_turn c_w_turned k0_optimal_first_turns c_w_is_worse (He.free_ok X G (c.fact 51 (f := .free "range") rfl))
  have c_w_played := Callable.mk (P := P) (w := w) (base := base) (mg := mg) ⟨_, _, _, q_w_played, (He.glo_ok X G (c.fact 35 (f := .glo "_law_played") rfl)), F_w_played.kp, FunD.bindsN F_w_played fun _ _ _ _ _ _ us hl => match us, hl with | [_, _, _, _, _, _], _ => rfl⟩
  have q_law := ok_law (P := P) (w := w) (base := base) (mg := mg) (T := []) F_law c_w_pool c_w_take c_w_lot c_w_played c_optimal_first_turns c_game_value (He.free_ok X G (c.fact 48 (f := .free "len") rfl)) (He.free_ok X G (c.fact 50 (f := .free "min") rfl))
  exact q_law
end T84
open PySem PySem.W PySem.Calls PyProof.Rows
theorem PySem.Challenge.cw_warmthbytouch_k84_whole_game_holds : PySem.Challenge.rw_warmthbytouch_k84_whole_game.Holds := by
  exact T84.holds_of fun P w K h mg f X G hfa c cx => T84.facts X G hfa c cx
