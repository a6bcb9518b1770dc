import PyProof.Rows.All
import Wide.All
import OpenK.AllK
import Wide.FinOn
import HandS.ForMost
import HandS.ForExc
import HandS.Wide
import HandS.WideBits
import HandS.Flow
import HandS.Style
import HandS.IsInst
import HandS.Deep
import HandS.TupAny
import HandS.TupMul
import HandS.Conv
import HandS.CallSlots
import HandS.CallLocal
import HandS.SortInts
import HandS.Zip
import KE.DataCmp
import KE.DataMinMax
import KE.SortData
import HandS.Dict
import HandS.Iter
import HandS.TupLen
import HandS.WordsDict
import HandS.Codes
import HandS.RaiseMore
import KE.KRevSl
import PyProof.SumWalkG
import PyProof.WalksMore
import KE.GoesEnum
import KE.GoesZip
import KE.GoesMore
import HandS.DictComp
import HandS.More
import HandS.SetFor
import HandS.TupSets
import HandS.ExcOwn
import HandS.SetKeys
import PyProof.DictMoreH
import KE.KDictDisplayH
import KE.KDictCopyH
import PyProof.DictUpdate
import HandS.ExcCtx
import KE.KExcLine
import KE.KExcSuper
import HandS.HeadWalk
import KE.KExcIs
import KE.DataFind
import HandS.HotCalls
import HandS.ExcField
import HandS.TryOnly
import HandS.Ends
import PySem.Challenge.RW_darkways_k37_arguments_of_keyrings
set_option Elab.async false
set_option linter.all false
set_option maxRecDepth 100000
set_option maxHeartbeats 1000000
/-! M: a small language with values as trees, read over the hand layer. Part 1: values, stores, worlds. -/
namespace Mp
open PySem PySem.Spec PyProof.Rows L2

/-- kinds of own errors -/
inductive EC where
  | cave | text | map | arg | paper | many | cmd
  deriving DecidableEq, Repr

/-- a value as a tree; ref: an object of the store; fn: a def by its number -/
inductive D where
  | non | bl (b : Bool) | int (i : Int) | str (x : Str) | tup (xs : List D) | lst (xs : List D) | ref (n : Nat) | fn (f : Nat) | scr (ns : List Int)

/-- what stands in the store -/
inductive SO where
  | lst (xs : List D)
  /-- t: its keys are tuples; z: how it lies while it is walked; keys by their parts -/
  | dct (t : Bool) (z : Option L2.HO) (kvs : List (List L2.Key × D))

abbrev Store := List SO
abbrev DEnv := List (Option D)
structure Exc where
  cls : EC
  arg : D

/-! ### data -/
mutual
def D.toP : D → PyData
  | .non => .none
  | .bl b => .bool b
  | .int i => .int i
  | .str x => .str x
  | .tup xs => .tuple (toPs xs)
  | .lst xs => .list (toPs xs)
  | .ref _ => .none
  | .fn _ => .none
  | .scr _ => .none
def toPs : List D → List PyData
  | [] => []
  | x :: xs => x.toP :: toPs xs
end
theorem toPs_map : ∀ xs : List D, toPs xs = xs.map D.toP
  | [] => rfl
  | x :: xs => by rw [toPs, toPs_map xs]; rfl
theorem toP_tup (xs : List D) : (D.tup xs).toP = .tuple (xs.map D.toP) := by rw [D.toP, toPs_map]
theorem toP_lst (xs : List D) : (D.lst xs).toP = .list (xs.map D.toP) := by rw [D.toP, toPs_map]
mutual
/-- no object of the store, no def in it -/
def D.pur : D → Bool
  | .non | .bl _ | .int _ | .str _ => true
  | .tup xs => purs xs
  | .lst xs => purs xs
  | .ref _ => false
  | .fn _ => false
  | .scr _ => false
def purs : List D → Bool
  | [] => true
  | x :: xs => x.pur && purs xs
end
theorem purs_all : ∀ xs : List D, purs xs = xs.all D.pur
  | [] => rfl
  | x :: xs => by rw [purs, purs_all xs]; rfl
mutual
def D.dep : D → Nat
  | .tup xs => deps xs + 1
  | .lst xs => deps xs + 1
  | _ => 0
def deps : List D → Nat
  | [] => 0
  | x :: xs => max x.dep (deps xs)
end
/-- Python's == of data -/
def D.eqv (x y : D) : Bool := PyData.eqv x.toP y.toP

/-! ### worlds: F what is frozen (trees), L what is locked (callers' objects), μ the store's addresses -/
/-- the text's defs by number -/
abbrev FA := Nat → Option Addr
mutual
inductive RD (K : PySem.W.Frag) (fa : FA) (F : Hp) (μ : List Addr) : D → V → Prop
  | non : RD K fa F μ .non .non
  | bl (b : Bool) : RD K fa F μ (.bl b) (.bl b)
  | int (i : Int) : RD K fa F μ (.int i) (.int i)
  | str {x : Str} (h : x.length ≤ sizeLine ∧ PyData.strOk x = true) : RD K fa F μ (.str x) (.str x)
  | tup {a : Addr} {vs : List V} {ds : List D} (h : F a = some (.tup vs)) (hs : RDs K fa F μ ds vs) : RD K fa F μ (.tup ds) (.ref a)
  | lst {a : Addr} {vs : List V} {ds : List D} (h : F a = some (.lst vs)) (hs : RDs K fa F μ ds vs) : RD K fa F μ (.lst ds) (.ref a)
  | ref {n : Nat} {a : Addr} (h : μ[n]? = some a) : RD K fa F μ (.ref n) (.ref a)
  | fn {f : Nat} {a : Addr} (h : fa f = some a) : RD K fa F μ (.fn f) (.ref a)
  | scr {a : Addr} {ns : List Int} (h : SqL K F a (ns.map V.int)) : RD K fa F μ (.scr ns) (.ref a)
inductive RDs (K : PySem.W.Frag) (fa : FA) (F : Hp) (μ : List Addr) : List D → List V → Prop
  | nil : RDs K fa F μ [] []
  | cons {d : D} {v : V} {ds : List D} {vs : List V} (h : RD K fa F μ d v) (hs : RDs K fa F μ ds vs) : RDs K fa F μ (d :: ds) (v :: vs)
end

/-- F stays, μ grows at its end -/
structure Ext (F : Hp) (μ : List Addr) (F' : Hp) (μ' : List Addr) : Prop where
  fz : ∀ a o, F a = some o → F' a = some o
  mu : ∃ r, μ' = μ ++ r
theorem Ext.refl {F : Hp} {μ : List Addr} : Ext F μ F μ := ⟨fun _ _ h => h, [], (List.append_nil _).symm⟩
theorem Ext.trans {F F' F'' : Hp} {μ μ' μ'' : List Addr} (a : Ext F μ F' μ') (b : Ext F' μ' F'' μ'') : Ext F μ F'' μ'' := by
  obtain ⟨r, rfl⟩ := a.mu
  obtain ⟨q, rfl⟩ := b.mu
  exact ⟨fun x o h => b.fz x o (a.fz x o h), r ++ q, List.append_assoc ..⟩
theorem Ext.get {F F' : Hp} {μ μ' : List Addr} (e : Ext F μ F' μ') {n : Nat} {a : Addr} (h : μ[n]? = some a) : μ'[n]? = some a := by
  obtain ⟨r, rfl⟩ := e.mu
  rw [List.getElem?_append_left (List.getElem?_eq_some_iff.mp h).1]; exact h
theorem SqT.ext {K : PySem.W.Frag} {F F' : Hp} {a : Addr} {vs : List V} (e : ∀ a o, F a = some o → F' a = some o) (h : SqT K F a vs) : SqT K F' a vs := by
  rcases h with (h | ⟨o, h⟩) | h
  · exact .inl (.inl (e _ _ h))
  · exact .inl (.inr ⟨o, e _ _ h⟩)
  · exact .inr h
theorem SqL.ext {K : PySem.W.Frag} {F F' : Hp} {a : Addr} {vs : List V} (e : ∀ a o, F a = some o → F' a = some o) (h : SqL K F a vs) : SqL K F' a vs := by
  rcases h with (h | ⟨o, h⟩) | h
  · exact .inl (.inl (e _ _ h))
  · exact .inl (.inr ⟨o, e _ _ h⟩)
  · exact .inr h
section
variable {K : PySem.W.Frag} {fa : FA} {F F' : Hp} {μ μ' : List Addr}
mutual
theorem RD.ext (e : Ext F μ F' μ') : ∀ {d : D} {v : V}, RD K fa F μ d v → RD K fa F' μ' d v
  | _, _, .non => .non
  | _, _, .bl b => .bl b
  | _, _, .int i => .int i
  | _, _, .str h => .str h
  | _, _, .tup h hs => .tup (e.fz _ _ h) (RDs.ext e hs)
  | _, _, .lst h hs => .lst (e.fz _ _ h) (RDs.ext e hs)
  | _, _, .scr h => .scr (SqL.ext e.fz h)
  | _, _, .ref h => .ref (e.get h)
  | _, _, .fn h => .fn h
theorem RDs.ext (e : Ext F μ F' μ') : ∀ {ds : List D} {vs : List V}, RDs K fa F μ ds vs → RDs K fa F' μ' ds vs
  | _, _, .nil => .nil
  | _, _, .cons h hs => .cons (RD.ext e h) (RDs.ext e hs)
end
theorem RDs.length : ∀ {ds : List D} {vs : List V}, RDs K fa F μ ds vs → ds.length = vs.length
  | _, _, .nil => rfl
  | _, _, .cons _ hs => by rw [List.length_cons, List.length_cons, hs.length]
theorem RDs.get : ∀ {ds : List D} {vs : List V} {i : Nat} {d : D}, RDs K fa F μ ds vs → ds[i]? = some d → ∃ v, vs[i]? = some v ∧ RD K fa F μ d v
  | _, _, _, _, .nil, e => by simp at e
  | _, _, 0, _, .cons h _, e => by simp at e; subst e; exact ⟨_, rfl, h⟩
  | _, _, i + 1, _, .cons _ hs, e => by
    obtain ⟨v, h1, h2⟩ := hs.get (i := i) (by simpa using e)
    exact ⟨v, by simpa using h1, h2⟩
theorem RDs.getV : ∀ {ds : List D} {vs : List V} {i : Nat} {v : V}, RDs K fa F μ ds vs → vs[i]? = some v → ∃ d, ds[i]? = some d ∧ RD K fa F μ d v
  | _, _, _, _, .nil, e => by simp at e
  | _, _, 0, _, .cons h _, e => by simp at e; subst e; exact ⟨_, rfl, h⟩
  | _, _, i + 1, _, .cons _ hs, e => by
    obtain ⟨v, h1, h2⟩ := hs.getV (i := i) (by simpa using e)
    exact ⟨v, by simpa using h1, h2⟩
theorem RDs.append : ∀ {ds es : List D} {vs ws : List V}, RDs K fa F μ ds vs → RDs K fa F μ es ws → RDs K fa F μ (ds ++ es) (vs ++ ws)
  | _, _, _, _, .nil, s => s
  | _, _, _, _, .cons h hs, s => .cons h (hs.append s)
theorem RDs.take : ∀ {ds : List D} {vs : List V} (n : Nat), RDs K fa F μ ds vs → RDs K fa F μ (ds.take n) (vs.take n)
  | _, _, 0, _ => .nil
  | _, _, _ + 1, .nil => .nil
  | _, _, n + 1, .cons h hs => .cons h (hs.take n)
theorem RDs.drop : ∀ {ds : List D} {vs : List V} (n : Nat), RDs K fa F μ ds vs → RDs K fa F μ (ds.drop n) (vs.drop n)
  | _, _, 0, r => r
  | _, _, _ + 1, .nil => .nil
  | _, _, n + 1, .cons _ hs => hs.drop n
theorem RDs.set {d : D} {v : V} (r : RD K fa F μ d v) : ∀ {ds : List D} {vs : List V} (i : Nat), RDs K fa F μ ds vs → RDs K fa F μ (ds.set i d) (vs.set i v)
  | _, _, _, .nil => .nil
  | _, _, 0, .cons _ hs => .cons r hs
  | _, _, i + 1, .cons h hs => .cons h (RDs.set r i hs)
theorem RDs.reverse : ∀ {ds : List D} {vs : List V}, RDs K fa F μ ds vs → RDs K fa F μ ds.reverse vs.reverse
  | _, _, .nil => .nil
  | _, _, .cons h hs => by rw [List.reverse_cons, List.reverse_cons]; exact hs.reverse.append (.cons h .nil)
theorem RDs.eraseIdx : ∀ {ds : List D} {vs : List V} (i : Nat), RDs K fa F μ ds vs → RDs K fa F μ (ds.eraseIdx i) (vs.eraseIdx i)
  | _, _, _, .nil => .nil
  | _, _, 0, .cons _ hs => hs
  | _, _, i + 1, .cons h hs => .cons h (RDs.eraseIdx i hs)
theorem RDs.ints : ∀ {ns : List Int} {vs : List V}, RDs K fa F μ (ns.map D.int) vs → vs = ns.map V.int
  | [], _, .nil => rfl
  | n :: ns, _, .cons h hs => by cases h; rw [List.map_cons, hs.ints]
theorem RDs.of_ints : ∀ (ns : List Int), RDs K fa F μ (ns.map D.int) (ns.map V.int)
  | [] => .nil
  | n :: ns => .cons (.int n) (RDs.of_ints ns)

/-! pure trees are data of the hand layer -/
mutual
theorem RD.dp {H : Hp} (hF : ∀ a o, F a = some o → H a = some o) : ∀ {d : D} {v : V}, RD K fa F μ d v → d.pur = true → Dp K H v d.toP
  | _, _, .non, _ => .non
  | _, _, .bl b, _ => .bl b
  | _, _, .int i, _ => .int i
  | _, _, .str h, _ => .str _
  | _, _, .tup h hs, p => by rw [D.toP]; exact .tup (SqT.of (hF _ _ h)) (RDs.dp hF hs (by rw [D.pur] at p; exact p))
  | _, _, .lst h hs, p => by rw [D.toP]; exact .lst (SqL.of (hF _ _ h)) (RDs.dp hF hs (by rw [D.pur] at p; exact p))
  | _, _, .scr h, p => by simp [D.pur] at p
  | _, _, .ref h, p => by simp [D.pur] at p
  | _, _, .fn h, p => by simp [D.pur] at p
theorem RDs.dp {H : Hp} (hF : ∀ a o, F a = some o → H a = some o) : ∀ {ds : List D} {vs : List V}, RDs K fa F μ ds vs → purs ds = true → DpAll K H vs (toPs ds)
  | _, _, .nil, _ => by rw [toPs]; exact .nil
  | _, _, .cons h hs, p => by
    rw [purs, Bool.and_eq_true] at p
    rw [toPs]
    exact .cons (RD.dp hF h p.1) (RDs.dp hF hs p.2)
end
mutual
theorem RD.lay : ∀ {d : D} {v : V}, RD K fa F μ d v → d.toP.canLay0 = true
  | _, _, .non => by simp [D.toP, PyData.canLay0]
  | _, _, .bl b => by simp [D.toP, PyData.canLay0]
  | _, _, .int i => by simp [D.toP, PyData.canLay0]
  | .str x, _, .str h => by rw [D.toP, PyData.canLay0]; exact h.2
  | _, _, .tup h hs => by rw [D.toP, PyData.canLay0]; exact RDs.lay hs
  | _, _, .lst h hs => by rw [D.toP, PyData.canLay0]; exact RDs.lay hs
  | _, _, .ref h => by simp [D.toP, PyData.canLay0]
  | _, _, .fn h => by simp [D.toP, PyData.canLay0]
  | _, _, .scr h => by simp [D.toP, PyData.canLay0]
theorem RDs.lay : ∀ {ds : List D} {vs : List V}, RDs K fa F μ ds vs → PyData.canLayAll0 (toPs ds) = true
  | _, _, .nil => by simp [toPs, PyData.canLayAll0]
  | _, _, .cons h hs => by rw [toPs, PyData.canLayAll0, RD.lay h, RDs.lay hs]; rfl
end
end
end Mp

set_option Elab.async false
set_option linter.all false
set_option maxRecDepth 100000
set_option maxHeartbeats 1000000
/-! M, part 2: worlds in a state, the judgement of an expression, operators by values. -/
namespace Mp
open PySem PySem.Spec PyProof.Rows L2

/-- a key's part can be laid -/
def okKey : L2.Key → Prop
  | .inl _ => True
  | .inr x => x.length ≤ sizeLine ∧ PyData.strOk x = true
def kRelT (K : PySem.W.Frag) (fa : FA) (F : Hp) (μ : List Addr) (p : List L2.Key × D) (q : List L2.Key × V) : Prop := p.1 = q.1 ∧ RD K fa F μ p.2 q.2
def kRelK (K : PySem.W.Frag) (fa : FA) (F : Hp) (μ : List Addr) (p : List L2.Key × D) (q : L2.Key × V) : Prop := p.1 = [q.1] ∧ RD K fa F μ p.2 q.2
/-- a dict as it lies -/
def dVal (K : PySem.W.Frag) (fa : FA) (F : Hp) (μ : List Addr) : Bool → List (List L2.Key × D) → HO → Prop
  | true, kvs, u => ∃ vs : List (List L2.Key × V), u = .dT vs ∧ Paired (kRelT K fa F μ) kvs vs
  | false, kvs, u => ∃ vs : List (L2.Key × V), u = .dK vs ∧ Paired (kRelK K fa F μ) kvs vs
theorem dVal.ext {K : PySem.W.Frag} {fa : FA} {F F' : Hp} {μ μ' : List Addr} (e : Ext F μ F' μ') : ∀ {t : Bool} {kvs : List (List L2.Key × D)} {u : HO}, dVal K fa F μ t kvs u → dVal K fa F' μ' t kvs u
  | true, _, _, ⟨vs, h, p⟩ => ⟨vs, h, L2.Paired.mapP p fun _ _ q => ⟨q.1, q.2.ext e⟩⟩
  | false, _, _, ⟨vs, h, p⟩ => ⟨vs, h, L2.Paired.mapP p fun _ _ q => ⟨q.1, q.2.ext e⟩⟩
theorem dVal.ntup {K : PySem.W.Frag} {fa : FA} {F : Hp} {μ : List Addr} : ∀ {t : Bool} {kvs : List (List L2.Key × D)} {u : HO}, dVal K fa F μ t kvs u → ∀ xs, u ≠ .tup xs
  | true, _, _, ⟨vs, h, p⟩, xs, z => by rw [h] at z; cases z
  | false, _, _, ⟨vs, h, p⟩, xs, z => by rw [h] at z; cases z
def RO (K : PySem.W.Frag) (fa : FA) (F : Hp) (μ : List Addr) : SO → HO → Prop
  | .lst ds, u => ∃ vs, u = .lst vs ∧ RDs K fa F μ ds vs
  | .dct t z kvs, u => (∀ p ∈ kvs, ∀ k ∈ p.1, okKey k) ∧ ∃ u0, dVal K fa F μ t kvs u0 ∧ ((z = none ∧ u = u0) ∨ ∃ od, z = some u ∧ u = .frz od u0)
theorem RO.ext {K : PySem.W.Frag} {fa : FA} {F F' : Hp} {μ μ' : List Addr} (e : Ext F μ F' μ') : ∀ {o : SO} {u : HO}, RO K fa F μ o u → RO K fa F' μ' o u
  | .lst ds, u, ⟨vs, h, hs⟩ => ⟨vs, h, hs.ext e⟩
  | .dct t z kvs, u, ⟨ok, u0, h, r⟩ => ⟨ok, u0, h.ext e, r⟩
theorem RO.ntup {K : PySem.W.Frag} {fa : FA} {F : Hp} {μ : List Addr} : ∀ {o : SO} {u : HO}, RO K fa F μ o u → ∀ xs, u ≠ .tup xs
  | .lst ds, u, ⟨vs, h, hs⟩, xs, z => by rw [h] at z; cases z
  | .dct t z kvs, u, ⟨ok, u0, h, r⟩, xs, q => by
    rcases r with ⟨_, e⟩ | ⟨od, _, e⟩
    · exact h.ntup xs (e ▸ q)
    · rw [e] at q; cases q

structure WI (K : PySem.W.Frag) (fa : FA) (F L : Hp) (μ : List Addr) (S : Store) (H : Hp) : Prop where
  fz : ∀ a o, F a = some o → H a = some o
  lk : ∀ a o, L a = some o → H a = some o
  ap : ∀ a ∈ μ, F a = none ∧ L a = none
  dj : ∀ a o, L a = some o → F a = none
  nt : ∀ a xs, L a ≠ some (.tup xs)
  nd : μ.Nodup
  len : S.length = μ.length
  st : ∀ (i : Nat) o a, S[i]? = some o → μ[i]? = some a → ∃ u, H a = some u ∧ RO K fa F μ o u

section
variable {K : PySem.W.Frag} {fa : FA} {F L H : Hp} {μ : List Addr} {S : Store} {p : Addr} {u : HO}
theorem WI.notF (w : WI K fa F L μ S H) (h : H p = none) : F p = none := by
  cases e : F p with
  | none => rfl
  | some o => rw [w.fz p o e] at h; cases h
theorem WI.notL (w : WI K fa F L μ S H) (h : H p = none) : L p = none := by
  cases e : L p with
  | none => rfl
  | some o => rw [w.lk p o e] at h; cases h
theorem WI.at (w : WI K fa F L μ S H) {i : Nat} {a : Addr} (e : μ[i]? = some a) : ∃ o, S[i]? = some o := by
  have h := (List.getElem?_eq_some_iff.mp e).1
  rw [← w.len] at h
  exact ⟨S[i], List.getElem?_eq_getElem h⟩
theorem WI.notM (w : WI K fa F L μ S H) (h : H p = none) : p ∉ μ := fun hm => by
  obtain ⟨i, e⟩ := List.getElem?_of_mem hm
  obtain ⟨o, e2⟩ := w.at e
  obtain ⟨u, e3, _⟩ := w.st i o p e2 e
  rw [e3] at h; cases h
/-- a new frozen object -/
theorem WI.newF (w : WI K fa F L μ S H) (h : H p = none) : WI K fa (upd F p u) L μ S (upd H p u) ∧ Ext F μ (upd F p u) μ := by
  have hf := w.notF h
  have hl := w.notL h
  have hm := w.notM h
  have e : Ext F μ (upd F p u) μ := ⟨fun a o q => by rw [upd_ne (ne_of_none q hf)]; exact q, [], (List.append_nil _).symm⟩
  refine ⟨⟨fun a o q => ?_, fun a o q => ?_, fun a ha => ?_, fun a o q => by rw [upd_ne (ne_of_none q hl)]; exact w.dj a o q, w.nt, w.nd, w.len, fun i o a h1 h2 => ?_⟩, e⟩
  · by_cases z : a = p
    · subst z; rw [upd_same] at q ⊢; exact q
    · rw [upd_ne z] at q ⊢; exact w.fz a o q
  · have z : a ≠ p := ne_of_none q hl
    rw [upd_ne z]; exact w.lk a o q
  · have z : a ≠ p := fun z => hm (z ▸ ha)
    rw [upd_ne z]; exact w.ap a ha
  · obtain ⟨v, q, r⟩ := w.st i o a h1 h2
    have z : a ≠ p := ne_of_none q h
    exact ⟨v, by rw [upd_ne z]; exact q, r.ext e⟩
/-- a new object is locked -/
theorem WI.lock (w : WI K fa F L μ S H) (h : H p = none) (hu : ∀ xs, u ≠ .tup xs := by intro _ z; cases z) : WI K fa F (upd L p u) μ S (upd H p u) := by
  have hf := w.notF h
  have hl := w.notL h
  have hm := w.notM h
  refine ⟨fun a o q => ?_, fun a o q => ?_, fun a ha => ?_, fun a o q => ?_, fun a xs q => ?_, w.nd, w.len, fun i o a h1 h2 => ?_⟩
  · rw [upd_ne (ne_of_none q hf)]; exact w.fz a o q
  · by_cases z : a = p
    · subst z; rw [upd_same] at q ⊢; exact q
    · rw [upd_ne z] at q ⊢; exact w.lk a o q
  · have z : a ≠ p := fun z => hm (z ▸ ha)
    rw [upd_ne z]; exact w.ap a ha
  · by_cases z : a = p
    · subst z; exact hf
    · rw [upd_ne z] at q; exact w.dj a o q
  · by_cases z : a = p
    · subst z; rw [upd_same] at q; exact hu xs (Option.some.inj q)
    · rw [upd_ne z] at q; exact w.nt a xs q
  · obtain ⟨v, q, r⟩ := w.st i o a h1 h2
    exact ⟨v, by rw [upd_ne (ne_of_none q h)]; exact q, r⟩
/-- a locked object is let go: the heap without it -/
def without (H : Hp) (p : Addr) : Hp := fun a => if a = p then none else H a
theorem without_same {H : Hp} {p : Addr} : without H p p = none := if_pos rfl
theorem without_ne {H : Hp} {p a : Addr} (h : a ≠ p) : without H p a = H a := if_neg h
theorem upd_without {H : Hp} {p : Addr} (h : H p = some u) : upd (without H p) p u = H := by
  funext a
  by_cases z : a = p
  · subst z; rw [upd_same, h]
  · rw [upd_ne z, without_ne z]
theorem WI.unlock (w : WI K fa F (upd L p u) μ S H) (hl : L p = none) : H p = some u ∧ WI K fa F L μ S (without H p) := by
  have e : (upd L p u) p = some u := upd_same
  have hf := w.dj p u e
  have hH := w.lk p u e
  have hm : p ∉ μ := fun z => by have := (w.ap p z).2; rw [e] at this; cases this
  refine ⟨hH, fun a o q => ?_, fun a o q => ?_, fun a ha => ?_, fun a o q => ?_, fun a xs q => w.nt a xs (by rw [upd_ne (ne_of_none q hl)]; exact q), w.nd, w.len, fun i o a h1 h2 => ?_⟩
  · rw [without_ne (ne_of_none q hf)]; exact w.fz a o q
  · have z : a ≠ p := ne_of_none q hl
    rw [without_ne z]; exact w.lk a o (by rw [upd_ne z]; exact q)
  · have z : a ≠ p := fun z => hm (z ▸ ha)
    have := w.ap a ha
    rw [upd_ne z] at this; exact this
  · have z : a ≠ p := ne_of_none q hl
    exact w.dj a o (by rw [upd_ne z]; exact q)
  · obtain ⟨v, q, r⟩ := w.st i o a h1 h2
    have z : a ≠ p := fun z => hm (z ▸ List.mem_of_getElem? h2)
    exact ⟨v, by rw [without_ne z]; exact q, r⟩
/-- a new object of the store -/
theorem WI.newM (w : WI K fa F L μ S H) (h : H p = none) {o : SO} (r : RO K fa F (μ ++ [p]) o u) : WI K fa F L (μ ++ [p]) (S ++ [o]) (upd H p u) ∧ Ext F μ F (μ ++ [p]) := by
  have hf := w.notF h
  have hl := w.notL h
  have hm := w.notM h
  have e : Ext F μ F (μ ++ [p]) := ⟨fun a o q => q, [p], rfl⟩
  refine ⟨⟨fun a o q => ?_, fun a o q => ?_, fun a ha => ?_, w.dj, w.nt, ?_, ?_, fun i o' a h1 h2 => ?_⟩, e⟩
  · rw [upd_ne (ne_of_none q hf)]; exact w.fz a o q
  · rw [upd_ne (ne_of_none q hl)]; exact w.lk a o q
  · rcases List.mem_append.mp ha with z | z
    · exact w.ap a z
    · have : a = p := by simpa using z
      subst this; exact ⟨hf, hl⟩
  · refine List.nodup_append.mpr ⟨w.nd, by simp, fun a ha b hb => ?_⟩
    have : b = p := by simpa using hb
    subst this
    exact fun z => hm (z ▸ ha)
  · rw [List.length_append, List.length_append, w.len]; rfl
  · by_cases hi : i < S.length
    · rw [List.getElem?_append_left hi] at h1
      rw [List.getElem?_append_left (by rw [← w.len]; exact hi)] at h2
      obtain ⟨v, q, r'⟩ := w.st i o' a h1 h2
      exact ⟨v, by rw [upd_ne (ne_of_none q h)]; exact q, r'.ext e⟩
    · have hi' : i = S.length := by
        have h3 := (List.getElem?_eq_some_iff.mp h1).1
        rw [List.length_append, List.length_singleton] at h3
        omega
      subst hi'
      have e1 : some o = some o' := by rw [← h1]; simp
      have e2 : some p = some a := by rw [← h2, w.len]; simp
      cases e1; cases e2
      exact ⟨u, upd_same, r⟩
/-- an object of the store is changed -/
theorem WI.set (w : WI K fa F L μ S H) {i : Nat} {a : Addr} {o : SO} (e : μ[i]? = some a) (r : RO K fa F μ o u) : WI K fa F L μ (S.set i o) (upd H a u) := by
  have hm : a ∈ μ := List.mem_of_getElem? e
  obtain ⟨hf, hl⟩ := w.ap a hm
  refine ⟨fun b q h => ?_, fun b q h => ?_, w.ap, w.dj, w.nt, w.nd, by rw [List.length_set]; exact w.len, fun j o' b h1 h2 => ?_⟩
  · rw [upd_ne (ne_of_none h hf)]; exact w.fz b q h
  · rw [upd_ne (ne_of_none h hl)]; exact w.lk b q h
  · by_cases hj : j = i
    · subst hj
      rw [e] at h2; cases h2
      obtain ⟨o0, h0⟩ := w.at e
      rw [List.getElem?_set_self (List.getElem?_eq_some_iff.mp h0).1] at h1
      cases h1
      exact ⟨u, upd_same, r⟩
    · rw [List.getElem?_set_ne (Ne.symm hj)] at h1
      obtain ⟨v, q, r'⟩ := w.st j o' b h1 h2
      have z : b ≠ a := fun z => by
        subst z
        obtain ⟨l1, e1⟩ := List.getElem?_eq_some_iff.mp h2
        obtain ⟨l2, e2⟩ := List.getElem?_eq_some_iff.mp e
        exact hj ((List.getElem_inj w.nd).mp (e1.trans e2.symm))
      exact ⟨v, by rw [upd_ne z]; exact q, r'⟩
end

section
variable {K : PySem.W.Frag} {fa : FA} {F L H : Hp} {μ : List Addr} {S : Store}
/-- a tuple that stands already is taken in -/
theorem WI.adopt (w : WI K fa F L μ S H) {p : Addr} {xs : List V} (h : H p = some (.tup xs)) : ∃ F', WI K fa F' L μ S H ∧ Ext F μ F' μ ∧ F' p = some (.tup xs) := by
  cases hf : F p with
  | some o =>
    have := w.fz p o hf
    rw [h] at this; cases this
    exact ⟨F, w, .refl, hf⟩
  | none =>
    have hl : L p = none := by
      cases hl : L p with
      | none => rfl
      | some o =>
        have := w.lk p o hl
        rw [h] at this; cases this
        exact absurd hl (w.nt p xs)
    have hm : p ∉ μ := fun hm => by
      obtain ⟨i, e⟩ := List.getElem?_of_mem hm
      obtain ⟨o, e2⟩ := w.at e
      obtain ⟨u, e3, r⟩ := w.st i o p e2 e
      rw [h] at e3; cases e3
      exact r.ntup xs rfl
    have e : Ext F μ (upd F p (.tup xs)) μ := ⟨fun a o q => by rw [upd_ne (ne_of_none q hf)]; exact q, [], (List.append_nil _).symm⟩
    refine ⟨upd F p (.tup xs), ⟨fun a o q => ?_, w.lk, fun a ha => ?_, fun a o q => ?_, w.nt, w.nd, w.len, fun i o a h1 h2 => ?_⟩, e, upd_same⟩
    · by_cases z : a = p
      · subst z; rw [upd_same] at q; cases q; exact h
      · rw [upd_ne z] at q; exact w.fz a o q
    · have z : a ≠ p := fun z => hm (z ▸ ha)
      rw [upd_ne z]; exact w.ap a ha
    · have z : a ≠ p := ne_of_none q hl
      rw [upd_ne z]; exact w.dj a o q
    · obtain ⟨v, q, r⟩ := w.st i o a h1 h2
      exact ⟨v, q, r.ext e⟩
end
/-! ### the env -/
def RelE (K : PySem.W.Frag) (fa : FA) (F : Hp) (μ : List Addr) (env : DEnv) (σ : L2.St) : Prop :=
  env.length = σ.length ∧ ∀ (i : Nat) d, env[i]? = some (some d) → ∃ v, σ[i]? = some (some v) ∧ RD K fa F μ d v
theorem RelE.ext {K : PySem.W.Frag} {fa : FA} {F F' : Hp} {μ μ' : List Addr} {env : DEnv} {σ : L2.St} (e : Ext F μ F' μ') (h : RelE K fa F μ env σ) : RelE K fa F' μ' env σ :=
  ⟨h.1, fun i d q => let ⟨v, a, b⟩ := h.2 i d q; ⟨v, a, b.ext e⟩⟩
theorem RelE.set {K : PySem.W.Frag} {fa : FA} {F : Hp} {μ : List Addr} {env : DEnv} {σ : L2.St} (h : RelE K fa F μ env σ) (i : Nat) {d : D} {v : V} (r : RD K fa F μ d v) : RelE K fa F μ (env.set i (some d)) (σ.set i (some v)) := by
  refine ⟨by rw [List.length_set, List.length_set]; exact h.1, fun j e q => ?_⟩
  by_cases z : j = i
  · subst z
    have hl : j < env.length := by
      have := (List.getElem?_eq_some_iff.mp q).1
      rwa [List.length_set] at this
    rw [List.getElem?_set_self hl] at q
    cases q
    exact ⟨v, by rw [List.getElem?_set_self (by rw [← h.1]; exact hl)], r⟩
  · rw [List.getElem?_set_ne (Ne.symm z)] at q
    rw [List.getElem?_set_ne (Ne.symm z)]
    exact h.2 j e q

/-- what stays through a body -/
structure MB where
  fa : FA
  L : Hp
  F0 : Hp
  μ0 : List Addr
structure At (K : PySem.W.Frag) (b : MB) (F : Hp) (μ : List Addr) (S : Store) (H : Hp) (env : DEnv) (σ : L2.St) : Prop where
  wi : WI K b.fa F b.L μ S H
  re : RelE K b.fa F μ env σ
  ex : Ext b.F0 b.μ0 F μ
theorem At.step {K : PySem.W.Frag} {b : MB} {F F' : Hp} {μ μ' : List Addr} {S S' : Store} {H H' : Hp} {env : DEnv} {σ : L2.St} (a : At K b F μ S H env σ) (e : Ext F μ F' μ') (w : WI K b.fa F' b.L μ' S' H') : At K b F' μ' S' H' env σ :=
  ⟨w, a.re.ext e, a.ex.trans e⟩

abbrev MK := D → Store → Prop
/-- behind an expression -/
def Post (X : Cx) (b : MB) (pins : List (Addr × Obj)) (σ : L2.St) (F : Hp) (μ : List Addr) (Q : MK) : Value → Shared → Prop := fun u s' =>
  ∃ v H' F' μ' d S', Inv X pins σ H' s' ∧ RelV v u ∧ Ext F μ F' μ' ∧ WI X.K b.fa F' b.L μ' S' H' ∧ RD X.K b.fa F' μ' d v ∧ Q d S'
/-- the same by the abstract heap alone -/
def PostH (K : PySem.W.Frag) (b : MB) (F : Hp) (μ : List Addr) (Q : MK) : V → Hp → Prop := fun v H' =>
  ∃ F' μ' d S', Ext F μ F' μ' ∧ WI K b.fa F' b.L μ' S' H' ∧ RD K b.fa F' μ' d v ∧ Q d S'
theorem post_of {X : Cx} {b : MB} {pins : List (Addr × Obj)} {σ : L2.St} {F : Hp} {μ : List Addr} {Q : MK} {u : Value} {s : Shared} (h : EP X pins σ (PostH X.K b F μ Q) u s) : Post X b pins σ F μ Q u s := by
  obtain ⟨v, H', I, r, F', μ', d, S', e, w, rd, q⟩ := h
  exact ⟨v, H', F', μ', d, S', I, r, e, w, rd, q⟩
abbrev ME1 := DEnv → Store → MK → Prop
structure QE (X : Cx) (b : MB) (e : Expr) (w : ME1) : Prop where
  run : ∀ (pins : List (Addr × Obj)) (s : Shared) (σ : L2.St) (H F : Hp) (μ : List Addr) (env : DEnv) (S : Store) (Q : MK), Inv X pins σ H s → At X.K b F μ S H env σ → w env S Q →
    wpAny (model X.prog X.w) X.A (eval e X.env) (Post X b pins σ F μ Q) X.xe s
/-- as a reading of the hand layer -/
def lift (K : PySem.W.Frag) (b : MB) (w : ME1) : TE := fun σ H Q => ∃ F μ env S Q', At K b F μ S H env σ ∧ w env S Q' ∧ ∀ v H', PostH K b F μ Q' v H' → Q v H'
theorem QE.pe {X : Cx} {b : MB} {e : Expr} {w : ME1} (h : QE X b e w) : PE X e (lift X.K b w) := by
  refine ⟨fun pins s σ H Q I hw => ?_⟩
  obtain ⟨F, μ, env, S, Q', a, hq, k⟩ := hw
  exact thn (h.run pins s σ H F μ env S Q' I a hq) fun u s' ⟨v, H', F', μ', d, S', I', r, e', w', rd, q⟩ => ⟨v, H', I', r, k v H' ⟨F', μ', d, S', e', w', rd, q⟩⟩
theorem QE.of_pe {X : Cx} {b : MB} {e : Expr} {w : ME1} (h : PE X e (lift X.K b w)) : QE X b e w :=
  ⟨fun pins s σ H F μ env S Q I a hq => thn (h.run pins s σ H (PostH X.K b F μ Q) I ⟨F, μ, env, S, Q, a, hq, fun _ _ z => z⟩) fun _ _ z => post_of z⟩
/-- from any reading that the tree's reading gives -/
theorem QE.of {X : Cx} {b : MB} {e : Expr} {w : ME1} {t : TE} (h : PE X e t) (k : ∀ F μ env S Q σ H, At X.K b F μ S H env σ → w env S Q → t σ H (PostH X.K b F μ Q)) : QE X b e w :=
  ⟨fun pins s σ H F μ env S Q I a hq => thn (h.run pins s σ H (PostH X.K b F μ Q) I (k F μ env S Q σ H a hq)) fun _ _ z => post_of z⟩

/-! ### operators by values -/
abbrev MR2 := D → D → Store → MK → Prop
def QOp (X : Cx) (b : MB) (f : Value → Value → Sem Value) (r : MR2) : Prop :=
  ∀ (pins : List (Addr × Obj)) (s : Shared) (σ : L2.St) (H F : Hp) (μ : List Addr) (S : Store) (x y : V) (v u : Value) (dx dy : D) (Q : MK), Inv X pins σ H s → WI X.K b.fa F b.L μ S H → RelV x v → RelV y u →
    RD X.K b.fa F μ dx x → RD X.K b.fa F μ dy y → r dx dy S Q → wpAny (model X.prog X.w) X.A (f v u) (Post X b pins σ F μ Q) X.xe s
theorem QOp.of {X : Cx} {b : MB} {f : Value → Value → Sem Value} {r : MR2} {rV : R2} (h : OpR X f rV)
    (k : ∀ H F μ S x y dx dy Q, WI X.K b.fa F b.L μ S H → RD X.K b.fa F μ dx x → RD X.K b.fa F μ dy y → r dx dy S Q → rV x y H (PostH X.K b F μ Q)) : QOp X b f r :=
  fun pins s σ H F μ S x y v u dx dy Q I w rx ry dxr dyr hq => thn (h pins s σ H x y v u _ I rx ry (k H F μ S x y dx dy Q w dxr dyr hq)) fun _ _ z => post_of z
theorem QOp.cases {X : Cx} {b : MB} {f : Value → Value → Sem Value} {r : MR2} {ra rb : MR2} (ha : QOp X b f ra) (hb : QOp X b f rb)
    (k : ∀ x y S Q, r x y S Q → ra x y S Q ∨ rb x y S Q) : QOp X b f r :=
  fun pins s σ H F μ S x y v u dx dy Q I w rx ry dxr dyr hq => by
    rcases k dx dy S Q hq with z | z
    · exact ha pins s σ H F μ S x y v u dx dy Q I w rx ry dxr dyr z
    · exact hb pins s σ H F μ S x y v u dx dy Q I w rx ry dxr dyr z
section
variable {K : PySem.W.Frag} {b : MB} {F H : Hp} {μ : List Addr} {S : Store} {Q : MK}
/-- a scalar is handed back, nothing has changed -/
theorem postD (w : WI K b.fa F b.L μ S H) {d : D} {v : V} (r : RD K b.fa F μ d v) (q : Q d S) : PostH K b F μ Q v H := ⟨F, μ, d, S, .refl, w, r, q⟩
/-- a new tuple -/
theorem postTup (w : WI K b.fa F b.L μ S H) {ds : List D} {vs : List V} (r : RDs K b.fa F μ ds vs) (q : Q (.tup ds) S) {p : Addr} (hp : H p = none) : PostH K b F μ Q (.ref p) (upd H p (.tup vs)) := by
  obtain ⟨w', e⟩ := w.newF (u := .tup vs) hp
  exact ⟨_, μ, .tup ds, S, e, w', .tup upd_same (r.ext e), q⟩
/-- a new list, frozen or in the store -/
def mkL (m : Bool) (xs : List D) (S : Store) (Q : MK) : Prop := if m = true then Q (.ref S.length) (S ++ [.lst xs]) else Q (.lst xs) S
theorem postLst (w : WI K b.fa F b.L μ S H) {ds : List D} {vs : List V} (r : RDs K b.fa F μ ds vs) {m : Bool} (q : mkL m ds S Q) {p : Addr} (hp : H p = none) : PostH K b F μ Q (.ref p) (upd H p (.lst vs)) := by
  cases m with
  | false =>
    obtain ⟨w', e⟩ := w.newF (u := .lst vs) hp
    exact ⟨_, μ, .lst ds, S, e, w', .lst upd_same (r.ext e), q⟩
  | true =>
    have q' : Q (.ref S.length) (S ++ [.lst ds]) := q
    have e0 : Ext F μ F (μ ++ [p]) := ⟨fun _ _ z => z, [p], rfl⟩
    obtain ⟨w', e⟩ := w.newM (u := .lst vs) (o := .lst ds) hp ⟨vs, rfl, r.ext e0⟩
    refine ⟨F, μ ++ [p], .ref S.length, S ++ [.lst ds], e, w', .ref ?_, q'⟩
    rw [w.len]; simp
end
end Mp

set_option Elab.async false
set_option linter.all false
set_option maxRecDepth 100000
set_option maxHeartbeats 1000000
/-! M, part 3: what operators do to trees, and their rules. -/
namespace Mp
open PySem PySem.Spec PyProof.Rows L2

/-- the items of a list, in the tree or in the store -/
def seqL (S : Store) : D → Option (List D)
  | .lst xs => some xs
  | .ref n => match S[n]? with
    | some (.lst xs) => some xs
    | _ => none
  | _ => none
/-- an object of the store as a tree -/
def res (S : Store) (d : D) : D := match d with
  | .ref n => (match S[n]? with
    | some (.lst xs) => .lst xs
    | _ => .ref n)
  | _ => d

def bAdd (m : Bool) (x y : D) (S : Store) (Q : MK) : Prop := match x, y with
  | .int i, .int j => Q (.int (i + j)) S
  | .str a, .str c => a.length + c.length ≤ sizeLine ∧ Q (.str (a ++ c)) S
  | .tup xs, .tup ys => xs.length + ys.length ≤ sizeLine ∧ Q (.tup (xs ++ ys)) S
  | x, y => ∃ xs ys, seqL S x = some xs ∧ seqL S y = some ys ∧ xs.length + ys.length ≤ sizeLine ∧ mkL m (xs ++ ys) S Q
def bSub (x y : D) (S : Store) (Q : MK) : Prop := match x, y with
  | .int i, .int j => Q (.int (i - j)) S
  | _, _ => False
/-- int * int: one below 2 ^ 64, or both not too long together -/
def MulOk (i j : Int) : Prop := CMul i j ∨ CMulW i j
def bMul (m : Bool) (x y : D) (S : Store) (Q : MK) : Prop := match x, y with
  | .int i, .int j => MulOk i j ∧ Q (.int (i * j)) S
  | .tup xs, .int k => (-(2 ^ 63) ≤ k ∧ k < 2 ^ 63 ∧ xs.length * k.toNat ≤ 1000000) ∧ Q (.tup (List.replicate k.toNat xs).flatten) S
  | x, .int k => ∃ xs, seqL S x = some xs ∧ -(2 ^ 63) ≤ k ∧ k < 2 ^ 63 ∧ xs.length * k.toNat ≤ sizeLine ∧ mkL m (List.replicate k.toNat xs).flatten S Q
  | _, _ => False
def bDiv (x y : D) (S : Store) (Q : MK) : Prop := match x, y with
  | .int i, .int j => CDivW i j ∧ Q (.int (i / j)) S
  | _, _ => False
def bMod (x y : D) (S : Store) (Q : MK) : Prop := match x, y with
  | .int i, .int j => 0 < j ∧ Q (.int (i % j)) S
  | _, _ => False
def bPow (x y : D) (S : Store) (Q : MK) : Prop := match x, y with
  | .int i, .int j => CPow i j ∧ Q (.int (i ^ j.toNat)) S
  | _, _ => False
def bShl (x y : D) (S : Store) (Q : MK) : Prop := match x, y with
  | .int i, .int j => CPow i j ∧ Q (.int (i * 2 ^ j.toNat)) S
  | _, _ => False
def bShr (x y : D) (S : Store) (Q : MK) : Prop := match x, y with
  | .int i, .int j => 0 ≤ j ∧ Q (.int (i / 2 ^ j.toNat)) S
  | _, _ => False
def bAnd (x y : D) (S : Store) (Q : MK) : Prop := match x, y with
  | .int i, .int j => Q (.int (Builtin.bitAnd i j)) S
  | _, _ => False
def bOr (x y : D) (S : Store) (Q : MK) : Prop := match x, y with
  | .int i, .int j => Q (.int (Builtin.bitOr i j)) S
  | _, _ => False
def bXor (x y : D) (S : Store) (Q : MK) : Prop := match x, y with
  | .int i, .int j => Q (.int (Builtin.bitXor i j)) S
  | _, _ => False
def bop (op : Operator) (m : Bool) : MR2 := match op with
  | .Add => bAdd m
  | .Sub => bSub
  | .Mult => bMul m
  | .FloorDiv => bDiv
  | .Mod => bMod
  | .Pow => bPow
  | .LShift => bShl
  | .RShift => bShr
  | .BitAnd => bAnd
  | .BitOr => bOr
  | .BitXor => bXor
  | _ => fun _ _ _ _ => False

/-! ### comparisons -/
def okD (d : D) : Prop := d.pur = true ∧ d.toP.depth ≤ 64
def cEq (x y : D) (S : Store) (Q : MK) : Prop := okD (res S x) ∧ okD (res S y) ∧ Q (.bl (D.eqv (res S x) (res S y))) S
def cNe (x y : D) (S : Store) (Q : MK) : Prop := okD (res S x) ∧ okD (res S y) ∧ Q (.bl (!D.eqv (res S x) (res S y))) S
/-- x < y where both can be compared place by place -/
def D.lt (x y : D) : Bool := PySem.W.dataLt x.toP y.toP
def okO (x y : D) : Prop := okD x ∧ okD y ∧ PySem.W.alike x.toP y.toP = true ∧ x.toP ≠ .none
def cLt (x y : D) (S : Store) (Q : MK) : Prop := match x, y with
  | .int i, .int j => Q (.bl (decide (i < j))) S
  | x, y => okO (res S x) (res S y) ∧ Q (.bl (D.lt (res S x) (res S y))) S
def cGt (x y : D) (S : Store) (Q : MK) : Prop := match x, y with
  | .int i, .int j => Q (.bl (decide (j < i))) S
  | x, y => okO (res S x) (res S y) ∧ Q (.bl (D.lt (res S y) (res S x))) S
def cLe (x y : D) (S : Store) (Q : MK) : Prop := match x, y with
  | .int i, .int j => Q (.bl (decide (i ≤ j))) S
  | x, y => okO (res S x) (res S y) ∧ Q (.bl (!D.lt (res S y) (res S x))) S
def cGe (x y : D) (S : Store) (Q : MK) : Prop := match x, y with
  | .int i, .int j => Q (.bl (decide (j ≤ i))) S
  | x, y => okO (res S x) (res S y) ∧ Q (.bl (!D.lt (res S x) (res S y))) S
def cIn (neg : Bool) (x y : D) (S : Store) (Q : MK) : Prop := match y with
  | .tup ys => okD x ∧ okD (.tup ys) ∧ Q (.bl (if neg = true then !ys.any (fun z => D.eqv z x) else ys.any (fun z => D.eqv z x))) S
  | .str a => ∃ c, x = .str c ∧ Q (.bl (if neg = true then !(!(Builtin.Str.occurrences a c 0 a.length 1).isEmpty) else !(Builtin.Str.occurrences a c 0 a.length 1).isEmpty)) S
  | y => ∃ ys, seqL S y = some ys ∧ okD (res S x) ∧ okD (.lst ys) ∧ Q (.bl (if neg = true then !ys.any (fun z => D.eqv z (res S x)) else ys.any (fun z => D.eqv z (res S x)))) S
def cop (op : CmpOp) : MR2 := match op with
  | .Eq => cEq
  | .NotEq => cNe
  | .Lt => cLt
  | .Gt => cGt
  | .LtE => cLe
  | .GtE => cGe
  | .In => cIn false
  | .NotIn => cIn true
  | _ => fun _ _ _ _ => False

/-! ### the rules -/
section
variable {X : Cx} {b : MB}
variable {K : PySem.W.Frag} {fa : FA} {F H L : Hp} {μ : List Addr} {S : Store}
theorem seqL_at (w : WI K fa F L μ S H) {d : D} {x : V} (r : RD K fa F μ d x) {xs : List D} (e : seqL S d = some xs) : ∃ a vs, x = .ref a ∧ H a = some (.lst vs) ∧ RDs K fa F μ xs vs := by
  cases r with
  | lst h hs => cases e; exact ⟨_, _, rfl, w.fz _ _ h, hs⟩
  | @ref n a h =>
    obtain ⟨o, ho⟩ := w.at h
    cases o with
    | lst ys =>
      simp only [seqL, ho] at e
      cases e
      obtain ⟨u, hu, vs, rfl, hs⟩ := w.st n _ a ho h
      exact ⟨a, vs, rfl, hu, hs⟩
    | dct t z kvs => simp [seqL, ho] at e
  | _ => cases e
/-- as data, objects of the store too -/
theorem res_dp (w : WI K fa F L μ S H) {d : D} {x : V} (r : RD K fa F μ d x) (p : (res S d).pur = true) : Dp K H x (res S d).toP := by
  cases r with
  | @ref n a h =>
    obtain ⟨o, ho⟩ := w.at h
    cases o with
    | lst ys =>
      simp only [res, ho] at p ⊢
      obtain ⟨u, hu, vs, rfl, hs⟩ := w.st n _ a ho h
      rw [D.toP]
      exact .lst (SqL.of hu) (RDs.dp w.fz hs (by rw [D.pur] at p; exact p))
    | dct t z kvs => simp [res, ho, D.pur] at p
  | non => exact RD.dp (fa := fa) (μ := μ) w.fz .non p
  | bl _ => exact RD.dp (fa := fa) (μ := μ) w.fz (.bl _) p
  | int _ => exact RD.dp (fa := fa) (μ := μ) w.fz (.int _) p
  | str h => exact RD.dp (fa := fa) (μ := μ) w.fz (.str h) p
  | tup h hs => exact RD.dp w.fz (.tup h hs) p
  | lst h hs => exact RD.dp w.fz (.lst h hs) p
  | fn h => exact absurd p (by simp [res, D.pur])
  | scr h => exact absurd p (by simp [res, D.pur])
theorem res_lay (w : WI K fa F L μ S H) {d : D} {x : V} (r : RD K fa F μ d x) : (res S d).toP.canLay0 = true := by
  cases r with
  | @ref n a h =>
    obtain ⟨o, ho⟩ := w.at h
    cases o with
    | lst ys =>
      simp only [res, ho]
      obtain ⟨u, hu, vs, rfl, hs⟩ := w.st n _ a ho h
      rw [D.toP, PyData.canLay0]
      exact RDs.lay hs
    | dct t z kvs => simp [res, ho, D.toP, PyData.canLay0]
  | non => exact RD.lay (K := K) (fa := fa) (F := F) (μ := μ) .non
  | bl _ => exact RD.lay (K := K) (fa := fa) (F := F) (μ := μ) (.bl _)
  | int _ => exact RD.lay (K := K) (fa := fa) (F := F) (μ := μ) (.int _)
  | str h => exact RD.lay (K := K) (fa := fa) (F := F) (μ := μ) (.str h)
  | tup h hs => exact RD.lay (.tup h hs)
  | lst h hs => exact RD.lay (.lst h hs)
  | fn h => exact RD.lay (K := K) (fa := fa) (F := F) (μ := μ) (.fn h)
  | scr h => exact RD.lay (K := K) (fa := fa) (F := F) (μ := μ) (.scr h)
theorem shaped_of (w : WI K fa F L μ S H) {d : D} {x : V} (r : RD K fa F μ d x) (o : okD (res S d)) : SeqAt.shaped (res S d).toP = true := by
  unfold SeqAt.shaped
  rw [res_lay w r, Bool.true_and]
  exact decide_eq_true o.2

theorem strOk_app {a c : Str} (ha : PyData.strOk a = true) (hc : PyData.strOk c = true) : PyData.strOk (a ++ c) = true := by
  unfold PyData.strOk at *
  have e : (a ++ c).cps = a.cps ++ c.cps := rfl
  rw [e, Array.all_append, ha, hc]; rfl
theorem len_app (a c : Str) : (a ++ c).length = a.length + c.length := by
  show (a.cps ++ c.cps).size = _
  rw [Array.size_append]; rfl


theorem q_int {f : Value → Value → Sem Value} {C : Int → Int → Prop} {g : Int → Int → Int} {r : MR2} (h : OpR X f (rI C fun i j => .int (g i j)))
    (k : ∀ x y S Q, r x y S Q → ∃ i j, x = .int i ∧ y = .int j ∧ C i j ∧ Q (.int (g i j)) S) : QOp X b f r :=
  QOp.of h fun H F μ S x y dx dy Q w rx ry q => by
    obtain ⟨i, j, rfl, rfl, c, q'⟩ := k dx dy S Q q
    cases rx; cases ry
    exact ⟨i, j, rfl, rfl, c, postD w (.int _) q'⟩
theorem q_int0 {f : Value → Value → Sem Value} {g : Int → Int → Int} {r : MR2} (h : OpR X f (rI0 fun i j => .int (g i j)))
    (k : ∀ x y S Q, r x y S Q → ∃ i j, x = .int i ∧ y = .int j ∧ Q (.int (g i j)) S) : QOp X b f r :=
  QOp.of h fun H F μ S x y dx dy Q w rx ry q => by
    obtain ⟨i, j, rfl, rfl, q'⟩ := k dx dy S Q q
    cases rx; cases ry
    exact ⟨i, j, rfl, rfl, postD w (.int _) q'⟩

theorem q_add (m : Bool) : QOp X b (binaryOp .Add) (bAdd m) := by
  refine QOp.of (op_add.or (op_add_str.or (op_catA.or op_cat))) fun H F μ S x y dx dy Q w rx ry q => ?_
  unfold bAdd at q
  split at q
  · cases rx; cases ry; exact .inl ⟨_, _, rfl, rfl, postD w (.int _) q⟩
  · cases rx with | str h => cases ry with | str h' => exact .inr (.inl ⟨_, _, rfl, rfl, q.1, postD w (.str ⟨by rw [len_app]; exact q.1, strOk_app h.2 h'.2⟩) q.2⟩)
  · cases rx with
    | tup h hs =>
      cases ry with
      | tup h' hs' =>
        obtain ⟨hz, q⟩ := q
        refine .inr (.inr (.inl ⟨_, _, _, _, rfl, rfl, SqT.of (w.fz _ _ h), SqT.of (w.fz _ _ h'), by rw [← hs.length, ← hs'.length]; exact hz, fun e => ?_, fun _ e => ?_, fun _ _ p hp => ?_⟩))
        · subst e; cases hs; exact postD w (.tup h' hs') q
        · subst e; cases hs'; rw [List.append_nil] at q; exact postD w (.tup h hs) q
        · exact postTup w (hs.append hs') q hp
  · obtain ⟨xs, ys, e1, e2, hz, q⟩ := q
    obtain ⟨a, vs, rfl, h1, r1⟩ := seqL_at w rx e1
    obtain ⟨c, ws, rfl, h2, r2⟩ := seqL_at w ry e2
    exact .inr (.inr (.inr ⟨a, c, vs, ws, rfl, rfl, h1, h2, by rw [← r1.length, ← r2.length]; exact hz, fun p hp => postLst w (r1.append r2) q hp⟩))
theorem q_sub : QOp X b (binaryOp .Sub) bSub := q_int0 op_sub fun x y S Q q => by
  unfold bSub at q; split at q
  · exact ⟨_, _, rfl, rfl, q⟩
  · exact q.elim
theorem q_div : QOp X b (binaryOp .FloorDiv) bDiv := q_int op_fdivW fun x y S Q q => by
  unfold bDiv at q; split at q
  · exact ⟨_, _, rfl, rfl, q⟩
  · exact q.elim
theorem q_mod : QOp X b (binaryOp .Mod) bMod := q_int op_mod fun x y S Q q => by
  unfold bMod at q; split at q
  · exact ⟨_, _, rfl, rfl, q⟩
  · exact q.elim
theorem q_pow : QOp X b (binaryOp .Pow) bPow := q_int op_pow fun x y S Q q => by
  unfold bPow at q; split at q
  · exact ⟨_, _, rfl, rfl, q⟩
  · exact q.elim
theorem q_shl : QOp X b (binaryOp .LShift) bShl := q_int op_shl fun x y S Q q => by
  unfold bShl at q; split at q
  · exact ⟨_, _, rfl, rfl, q⟩
  · exact q.elim
theorem q_shr : QOp X b (binaryOp .RShift) bShr := q_int op_shr fun x y S Q q => by
  unfold bShr at q; split at q
  · exact ⟨_, _, rfl, rfl, q⟩
  · exact q.elim
theorem q_and : QOp X b (binaryOp .BitAnd) bAnd := q_int0 op_and fun x y S Q q => by
  unfold bAnd at q; split at q
  · exact ⟨_, _, rfl, rfl, q⟩
  · exact q.elim
theorem q_or : QOp X b (binaryOp .BitOr) bOr := q_int0 op_or fun x y S Q q => by
  unfold bOr at q; split at q
  · exact ⟨_, _, rfl, rfl, q⟩
  · exact q.elim
theorem q_xor : QOp X b (binaryOp .BitXor) bXor := q_int0 op_xor fun x y S Q q => by
  unfold bXor at q; split at q
  · exact ⟨_, _, rfl, rfl, q⟩
  · exact q.elim

/-! tuple * int, also by 1 and by 0 -/
theorem tup_mul_self (l : Addr) (items : Array Value) (n : Nat) (dd : Option Addr) (sl : Array (Option Value)) (k : Int) (u : Tok) (h0 : (decide (k < -(2 ^ 63)) || decide (k ≥ 2 ^ 63)) = false) (h1 : (items.isEmpty || k == 1) = true) :
    Meets (Builtin.«tuple.__mul__» ⟨[.ref l, .int k u], []⟩) (fun _ R s => s.heap.get? l = some { cls := .type "tuple", dict := dd, data := .seq items n, slots := sl } ∧ R (.ok (.ret (.ref l))) s) :=
  .of_wp fun prog w A R s hh => by
    obtain ⟨hp, g, d, tk, os⟩ := s
    obtain ⟨hl, hh⟩ := hh
    have idx := AutoSeq1.idx_int
    wp_walk using wpAny_loadPart' hl
    repeat (first
      | (refine wpAny_ite_false (decide_eq_false (by rw [h0]; exact Bool.false_ne_true)) ?_; wp_walk using wpAny_loadPart' hl)
      | (refine wpAny_ite_true (decide_eq_true h1) ?_; wp_walk using wpAny_loadPart' hl))
    all_goals first
      | exact ⟨_, rfl, hh⟩
      | skip
theorem tup_mul_nil (l : Addr) (items : Array Value) (n : Nat) (dd : Option Addr) (sl : Array (Option Value)) (k : Int) (u : Tok) (h0 : (decide (k < -(2 ^ 63)) || decide (k ≥ 2 ^ 63)) = false) (h1 : (items.isEmpty || k == 1) = false) (h2 : (decide (k ≤ 0) || items.isEmpty) = true) :
    Meets (Builtin.«tuple.__mul__» ⟨[.ref l, .int k u], []⟩) (fun _ R s => s.heap.get? l = some { cls := .type "tuple", dict := dd, data := .seq items n, slots := sl } ∧
      R (.ok (.ret (.ref s.heap.objs.size))) { s with heap := s.heap.push { cls := .type "tuple", data := .seq #[] } }) :=
  .of_wp fun prog w A R s hh => by
    obtain ⟨hp, g, d, tk, os⟩ := s
    obtain ⟨hl, hh⟩ := hh
    have idx := AutoSeq1.idx_int
    wp_walk using wpAny_loadPart' hl
    repeat (first
      | (refine wpAny_ite_false (decide_eq_false (by rw [h0]; exact Bool.false_ne_true)) ?_; wp_walk using wpAny_loadPart' hl)
      | (refine wpAny_ite_false (decide_eq_false (by rw [h1]; exact Bool.false_ne_true)) ?_; wp_walk using wpAny_loadPart' hl)
      | (refine wpAny_ite_true (decide_eq_true h2) ?_; wp_walk using wpAny_loadPart' hl))
    all_goals first
      | exact ⟨_, rfl, hh⟩
      | skip
def rRepA (K : PySem.W.Frag) : R2 := fun x y H Q => ∃ l k xs, x = .ref l ∧ y = .int k ∧ SqT K H l xs ∧ -(2 ^ 63) ≤ k ∧ k < 2 ^ 63 ∧ xs.length * k.toNat ≤ 1000000 ∧
  (xs = [] ∨ k = 1 → Q (.ref l) H) ∧ (¬ (xs = [] ∨ k = 1) → ∀ p, H p = none → Q (.ref p) (upd H p (.tup (List.replicate k.toNat xs).flatten)))
theorem op_repA : OpR X (binaryOp .Mult) (rRepA X.K) := by
  intro pins s σ H x y v u Q I rx ry h
  obtain ⟨l, k, xs, rfl, rfl, hT, k1, k2, hz, q1, q2⟩ := h
  cases rx
  obtain ⟨t, rfl⟩ := ry
  obtain ⟨its, r, ⟨⟨cls, dd, data, sl⟩, ho, hc, n, hd⟩, hs⟩ := I.tuple hT
  simp only at hc hd
  subst hc hd
  have hle : its.length = xs.length := r.length.symm
  have hemp : its.toArray.isEmpty = xs.isEmpty := by
    cases its with
    | nil => cases xs with
      | nil => rfl
      | cons a b => simp at hle
    | cons a b => cases xs with
      | nil => simp at hle
      | cons a' b' => rfl
  have h0 : (decide (k < -(2 ^ 63)) || decide (k ≥ 2 ^ 63)) = false := by
    rw [decide_eq_false (by omega), decide_eq_false (by omega)] <;> rfl
  refine wpAny_binaryOp_repeat_ref (T := "tuple") (U := "int") (by decide) ⟨_, ho, rfl⟩ (fun s' => typeIs_int s' k t) noFill_tuple_mul F.fills_int_mul F.slot_int_rmul repeat_tuple F.slot_int_index.lookup
    (call_meets F.slot_int_rmul (typeIs_int s k t) F.entry_int_rmul (F.args_int_rmul_2 _ _) (int_rmul_tuple k t l its.toArray n dd sl) ⟨ho, rfl, ⟨_, ho, rfl⟩, ?_⟩)
  by_cases c : xs = [] ∨ k = 1
  · have h1 : (its.toArray.isEmpty || k == 1) = true := by
      rw [hemp]
      rcases c with c | c
      · rw [c]; rfl
      · rw [c]; simp
    exact call_meets F.slot_tuple_mul ⟨_, ho, rfl⟩ F.entry_tuple_mul (F.args_tuple_mul_2 _ _) (tup_mul_self l its.toArray n dd sl k t h0 h1) ⟨ho, ⟨.ref l, H, I, rfl, q1 c⟩⟩
  · have hx : xs ≠ [] := fun e => c (.inl e)
    have hk : k ≠ 1 := fun e => c (.inr e)
    have he : xs.isEmpty = false := by cases xs with
      | nil => exact absurd rfl hx
      | cons a b => rfl
    have h1 : (its.toArray.isEmpty || k == 1) = false := by
      rw [hemp, he, Bool.false_or]; exact beq_eq_false_iff_ne.mpr hk
    by_cases hk0 : k ≤ 0
    · have h2 : (decide (k ≤ 0) || its.toArray.isEmpty) = true := by rw [decide_eq_true hk0]; rfl
      refine call_meets F.slot_tuple_mul ⟨_, ho, rfl⟩ F.entry_tuple_mul (F.args_tuple_mul_2 _ _) (tup_mul_nil l its.toArray n dd sl k t h0 h1 h2) ⟨ho, ?_⟩
      have q3 := q2 c s.heap.objs.size (I.hok.fresh (Nat.le_refl _))
      have e0 : k.toNat = 0 := by omega
      rw [e0] at q3
      refine ⟨.ref s.heap.objs.size, _, I.laid (t' := s.toks) (o := .tup (List.replicate 0 xs).flatten) (fun b ob q => Heap.get?_push_of_some _ q) (Nat.le_refl _) ?_, rfl, q3⟩
      exact ⟨Nat.zero_le _, [], .nil, IsTup.new _ _⟩
    · have h2 : (decide (k ≤ 0) || its.toArray.isEmpty) = false := by rw [decide_eq_false hk0, hemp, he]; rfl
      have hsz0 : its.toArray.size = xs.length := by rw [List.size_toArray, hle]
      have hm : ((its.toArray.size : Nat) : Int) * k ≤ 1000000 := by
        rw [hsz0]
        have z : ((xs.length * k.toNat : Nat) : Int) ≤ ((1000000 : Nat) : Int) := Int.ofNat_le.mpr hz
        have z2 : ((k.toNat : Nat) : Int) = k := by omega
        rw [Int.natCast_mul, z2] at z
        exact z
      have flen : (List.replicate k.toNat its).flatten.length ≤ sizeLine := by
        rw [PyProof.Rows.lm_len_rep_flat, hle, sizeLine_eq, Nat.mul_comm]
        omega
      have c4 : Builtin.Tuple.tupleTooMany (((its.toArray.size : Nat) : Int) * k) = false := by
        unfold Builtin.Tuple.tupleTooMany
        rw [sizeLine_eq]
        exact decide_eq_false (by omega)
      refine call_meets F.slot_tuple_mul ⟨_, ho, rfl⟩ F.entry_tuple_mul (F.args_tuple_mul_2 _ _) (tuple_mulW l its.toArray n dd sl k t h0 h1 h2 (by omega) c4 (by rw [size_rep, List.size_toArray]; exact flen)) ⟨ho, ?_⟩
      rw [size_rep]
      refine ⟨.ref s.heap.objs.size, _, I.laid (t' := s.toks) (o := .tup (List.replicate k.toNat xs).flatten) (fun b ob q => Heap.get?_push_of_some _ q) (Nat.le_refl _) ?_, rfl, q2 c _ (I.hok.fresh (Nat.le_refl _))⟩
      exact ⟨by rw [PyProof.Rows.lm_len_rep_flat, sizeLine_eq, Nat.mul_comm]; omega, _, r.rep k.toNat, IsTup.new _ _⟩
theorem RDs.rep {ds : List D} {vs : List V} (h : RDs K fa F μ ds vs) : ∀ k : Nat, RDs K fa F μ (List.replicate k ds).flatten (List.replicate k vs).flatten
  | 0 => .nil
  | k + 1 => by rw [List.replicate_succ, List.replicate_succ, List.flatten_cons, List.flatten_cons]; exact h.append (h.rep k)
theorem q_mul (m : Bool) : QOp X b (binaryOp .Mult) (bMul m) := by
  refine QOp.of (op_mul.or (op_mulW.or (op_repA.or op_rep))) fun H F μ S x y dx dy Q w rx ry q => ?_
  unfold bMul at q
  split at q
  · cases rx; cases ry
    rcases q.1 with c | c
    · exact .inl ⟨_, _, rfl, rfl, c, postD w (.int _) q.2⟩
    · exact .inr (.inl ⟨_, _, rfl, rfl, c, postD w (.int _) q.2⟩)
  · cases ry
    rename_i k
    cases rx with
    | tup h hs =>
      obtain ⟨⟨k1, k2, hz⟩, q⟩ := q
      refine .inr (.inr (.inl ⟨_, k, _, rfl, rfl, SqT.of (w.fz _ _ h), k1, k2, by rw [← hs.length]; exact hz, fun c => ?_, fun _ p hp => postTup w (hs.rep _) q hp⟩))
      rcases c with c | c
      · subst c
        cases hs
        have e : (List.replicate k.toNat ([] : List D)).flatten = [] := by simp
        rw [e] at q
        exact postD w (.tup h .nil) q
      · subst c
        have e : ∀ xs : List D, (List.replicate (1 : Int).toNat xs).flatten = xs := fun xs => by
          show (List.replicate 1 xs).flatten = xs
          rw [List.replicate_succ, List.replicate_zero, List.flatten_cons, List.flatten_nil, List.append_nil]
        rw [e] at q
        exact postD w (.tup h hs) q
  · cases ry
    obtain ⟨xs, e1, k1, k2, hz, q⟩ := q
    obtain ⟨a, vs, rfl, h1, r1⟩ := seqL_at w rx e1
    exact .inr (.inr (.inr ⟨a, _, vs, rfl, rfl, h1, k1, k2, by rw [← r1.length]; exact hz, fun p hp => postLst w (r1.rep _) q hp⟩))
  · exact q.elim
theorem q_bop (op : Operator) (m : Bool) : QOp X b (binaryOp op) (bop op m) := by
  cases op
  case Add => exact q_add m
  case Sub => exact q_sub
  case Mult => exact q_mul m
  case FloorDiv => exact q_div
  case Mod => exact q_mod
  case Pow => exact q_pow
  case LShift => exact q_shl
  case RShift => exact q_shr
  case BitAnd => exact q_and
  case BitOr => exact q_or
  case BitXor => exact q_xor
  all_goals exact fun _ _ _ _ _ _ _ _ _ _ _ _ _ _ _ _ _ _ _ _ q => (show False from q).elim

/-! ### comparisons -/
theorem q_eq (hu : X.A.units + 64 < cLine) : QOp X b (compareOp .Eq) cEq := QOp.of (op_eqD hu) fun H F μ S x y dx dy Q w rx ry q => by
  obtain ⟨o1, o2, q⟩ := q
  exact ⟨_, _, res_dp w rx o1.1, res_dp w ry o2.1, shaped_of w rx o1, shaped_of w ry o2, postD w (.bl _) q⟩
theorem q_ne (hu : X.A.units + 64 < cLine) : QOp X b (compareOp .NotEq) cNe := QOp.of (op_neD hu) fun H F μ S x y dx dy Q w rx ry q => by
  obtain ⟨o1, o2, q⟩ := q
  exact ⟨_, _, res_dp w rx o1.1, res_dp w ry o2.1, shaped_of w rx o1, shaped_of w ry o2, postD w (.bl _) q⟩
theorem room_min {u a c : Nat} (h : u + 64 < cLine) (ha : a ≤ 64) : u + min a c < cLine := by omega
def rOrd (K : PySem.W.Frag) (f : PyData → PyData → Bool) : R2 := fun x y H Q => ∃ d e, Dp K H x d ∧ Dp K H y e ∧ PySem.W.alike d e = true ∧ d ≠ .none ∧ d.depth ≤ 64 ∧ Q (.bl (f d e)) H
theorem op_ltD (hu : X.A.units + 64 < cLine) : OpR X (compareOp .Lt) (rOrd X.K PySem.W.dataLt) := by
  intro pins s σ H x y v u Q I rx ry h
  obtain ⟨d, e, hd, he, al, nn, dp, q⟩ := h
  obtain ⟨as, r1⟩ := Dp.reads I d x v hd rx
  obtain ⟨bs, r2⟩ := Dp.reads I e y u he ry
  exact PySem.W.lt_data r1 r2 al nn (room_min hu dp) ⟨.bl _, H, I, rfl, q⟩
theorem op_gtD (hu : X.A.units + 64 < cLine) : OpR X (compareOp .Gt) (rOrd X.K fun d e => PySem.W.dataLt e d) := by
  intro pins s σ H x y v u Q I rx ry h
  obtain ⟨d, e, hd, he, al, nn, dp, q⟩ := h
  obtain ⟨as, r1⟩ := Dp.reads I d x v hd rx
  obtain ⟨bs, r2⟩ := Dp.reads I e y u he ry
  exact PySem.W.gt_data r1 r2 al nn (room_min hu dp) ⟨.bl _, H, I, rfl, q⟩
theorem op_leD (hu : X.A.units + 64 < cLine) : OpR X (compareOp .LtE) (rOrd X.K fun d e => !PySem.W.dataLt e d) := by
  intro pins s σ H x y v u Q I rx ry h
  obtain ⟨d, e, hd, he, al, nn, dp, q⟩ := h
  obtain ⟨as, r1⟩ := Dp.reads I d x v hd rx
  obtain ⟨bs, r2⟩ := Dp.reads I e y u he ry
  exact PySem.W.le_data r1 r2 al nn (room_min hu dp) ⟨.bl _, H, I, rfl, q⟩
theorem op_geD (hu : X.A.units + 64 < cLine) : OpR X (compareOp .GtE) (rOrd X.K fun d e => !PySem.W.dataLt d e) := by
  intro pins s σ H x y v u Q I rx ry h
  obtain ⟨d, e, hd, he, al, nn, dp, q⟩ := h
  obtain ⟨as, r1⟩ := Dp.reads I d x v hd rx
  obtain ⟨bs, r2⟩ := Dp.reads I e y u he ry
  exact PySem.W.ge_data r1 r2 al nn (room_min hu dp) ⟨.bl _, H, I, rfl, q⟩
theorem q_lt (hu : X.A.units + 64 < cLine) : QOp X b (compareOp .Lt) cLt := QOp.of (op_lt.or (op_ltD hu)) fun H F μ S x y dx dy Q w rx ry q => by
  unfold cLt at q
  split at q
  · cases rx; cases ry; exact .inl ⟨_, _, rfl, rfl, postD w (.bl _) q⟩
  · obtain ⟨⟨o1, o2, al, nn⟩, q⟩ := q
    exact .inr ⟨_, _, res_dp w rx o1.1, res_dp w ry o2.1, al, nn, o1.2, postD w (.bl _) q⟩
theorem q_gt (hu : X.A.units + 64 < cLine) : QOp X b (compareOp .Gt) cGt := QOp.of (op_gt.or (op_gtD hu)) fun H F μ S x y dx dy Q w rx ry q => by
  unfold cGt at q
  split at q
  · cases rx; cases ry; exact .inl ⟨_, _, rfl, rfl, postD w (.bl _) q⟩
  · obtain ⟨⟨o1, o2, al, nn⟩, q⟩ := q
    exact .inr ⟨_, _, res_dp w rx o1.1, res_dp w ry o2.1, al, nn, o1.2, postD w (.bl _) q⟩
theorem q_le (hu : X.A.units + 64 < cLine) : QOp X b (compareOp .LtE) cLe := QOp.of (op_le.or (op_leD hu)) fun H F μ S x y dx dy Q w rx ry q => by
  unfold cLe at q
  split at q
  · cases rx; cases ry; exact .inl ⟨_, _, rfl, rfl, postD w (.bl _) q⟩
  · obtain ⟨⟨o1, o2, al, nn⟩, q⟩ := q
    exact .inr ⟨_, _, res_dp w rx o1.1, res_dp w ry o2.1, al, nn, o1.2, postD w (.bl _) q⟩
theorem q_ge (hu : X.A.units + 64 < cLine) : QOp X b (compareOp .GtE) cGe := QOp.of (op_ge.or (op_geD hu)) fun H F μ S x y dx dy Q w rx ry q => by
  unfold cGe at q
  split at q
  · cases rx; cases ry; exact .inl ⟨_, _, rfl, rfl, postD w (.bl _) q⟩
  · obtain ⟨⟨o1, o2, al, nn⟩, q⟩ := q
    exact .inr ⟨_, _, res_dp w rx o1.1, res_dp w ry o2.1, al, nn, o1.2, postD w (.bl _) q⟩

/-! in, not in -/
theorem op_inDT (hu : X.A.units + 65 < cLine) : OpR X (compareOp .In) (fun x y H Q => ∃ d ds, Dp X.K H x d ∧ Dp X.K H y (.tuple ds) ∧ SeqAt.shaped d = true ∧ SeqAt.shaped (.tuple ds) = true ∧ Q (.bl (ds.any fun z => PyData.eqv z d)) H) := by
  intro pins s σ H x y v u Q I rx ry h
  obtain ⟨d, ds, hd, he, sd, se, q⟩ := h
  obtain ⟨as, r1⟩ := Dp.reads I d x v hd rx
  obtain ⟨bs, r2⟩ := Dp.reads I (.tuple ds) y u he ry
  exact SeqAt.in_tuple_reads r2 r1 (SeqAt.canLay_of_shaped se) (SeqAt.canLay_of_shaped sd) (room_in_shaped sd hu) ⟨.bl _, H, I, rfl, q⟩
theorem op_notInDT (hu : X.A.units + 65 < cLine) : OpR X (compareOp .NotIn) (fun x y H Q => ∃ d ds, Dp X.K H x d ∧ Dp X.K H y (.tuple ds) ∧ SeqAt.shaped d = true ∧ SeqAt.shaped (.tuple ds) = true ∧ Q (.bl (!ds.any fun z => PyData.eqv z d)) H) := by
  intro pins s σ H x y v u Q I rx ry h
  obtain ⟨d, ds, hd, he, sd, se, q⟩ := h
  obtain ⟨as, r1⟩ := Dp.reads I d x v hd rx
  obtain ⟨bs, r2⟩ := Dp.reads I (.tuple ds) y u he ry
  exact SeqAt.notIn_tuple_reads r2 r1 (SeqAt.canLay_of_shaped se) (SeqAt.canLay_of_shaped sd) (room_in_shaped sd hu) ⟨.bl _, H, I, rfl, q⟩
theorem any_toP (x : PyData) (ys : List D) : (ys.map D.toP).any (fun z => PyData.eqv z x) = ys.any fun z => PyData.eqv z.toP x := by rw [List.any_map]; rfl
theorem okD_res {d : D} (o : okD d) : res S d = d := by
  cases d with
  | ref n => exact absurd o.1 (by simp [D.pur])
  | _ => rfl
theorem q_in (hu : X.A.units + 65 < cLine) : QOp X b (compareOp .In) (cIn false) := QOp.of ((op_inDT hu).or (op_in_str.or (op_inD hu))) fun H F μ S x y dx dy Q w rx ry q => by
  unfold cIn at q
  split at q
  · obtain ⟨o1, o2, q⟩ := q
    have e1 := okD_res (S := S) o1
    have e2 := okD_res (S := S) o2
    have d2 := res_dp w ry (by rw [e2]; exact o2.1)
    have s2 := shaped_of w ry (by rw [e2]; exact o2)
    rw [e2, toP_tup] at d2 s2
    refine .inl ⟨_, _, res_dp w rx (by rw [e1]; exact o1.1), d2, shaped_of w rx (by rw [e1]; exact o1), s2, ?_⟩
    rw [any_toP, e1]
    exact postD w (.bl _) q
  · obtain ⟨c, rfl, q⟩ := q
    cases rx; cases ry
    exact .inr (.inl ⟨_, _, rfl, rfl, postD w (.bl _) q⟩)
  · obtain ⟨ys, e, o1, o2, q⟩ := q
    obtain ⟨a, vs, rfl, h1, r1⟩ := seqL_at w ry e
    have d2 : Dp X.K H (.ref a) (D.lst ys).toP := by rw [D.toP]; exact .lst (SqL.of h1) (RDs.dp w.fz r1 (by have := o2.1; rw [D.pur] at this; exact this))
    have s2 : SeqAt.shaped (D.lst ys).toP = true := by
      unfold SeqAt.shaped
      rw [D.toP, PyData.canLay0, RDs.lay r1, Bool.true_and]
      have := o2.2
      rw [D.toP] at this
      exact decide_eq_true this
    rw [toP_lst] at d2 s2
    refine .inr (.inr ⟨_, _, res_dp w rx o1.1, d2, shaped_of w rx o1, s2, ?_⟩)
    rw [any_toP]
    exact postD w (.bl _) q
theorem q_notIn (hu : X.A.units + 65 < cLine) : QOp X b (compareOp .NotIn) (cIn true) := QOp.of ((op_notInDT hu).or (op_notin_str.or (op_notInD hu))) fun H F μ S x y dx dy Q w rx ry q => by
  unfold cIn at q
  split at q
  · obtain ⟨o1, o2, q⟩ := q
    have e1 := okD_res (S := S) o1
    have e2 := okD_res (S := S) o2
    have d2 := res_dp w ry (by rw [e2]; exact o2.1)
    have s2 := shaped_of w ry (by rw [e2]; exact o2)
    rw [e2, toP_tup] at d2 s2
    refine .inl ⟨_, _, res_dp w rx (by rw [e1]; exact o1.1), d2, shaped_of w rx (by rw [e1]; exact o1), s2, ?_⟩
    rw [any_toP, e1]
    exact postD w (.bl _) q
  · obtain ⟨c, rfl, q⟩ := q
    cases rx; cases ry
    exact .inr (.inl ⟨_, _, rfl, rfl, postD w (.bl _) q⟩)
  · obtain ⟨ys, e, o1, o2, q⟩ := q
    obtain ⟨a, vs, rfl, h1, r1⟩ := seqL_at w ry e
    have d2 : Dp X.K H (.ref a) (D.lst ys).toP := by rw [D.toP]; exact .lst (SqL.of h1) (RDs.dp w.fz r1 (by have := o2.1; rw [D.pur] at this; exact this))
    have s2 : SeqAt.shaped (D.lst ys).toP = true := by
      unfold SeqAt.shaped
      rw [D.toP, PyData.canLay0, RDs.lay r1, Bool.true_and]
      have := o2.2
      rw [D.toP] at this
      exact decide_eq_true this
    rw [toP_lst] at d2 s2
    refine .inr (.inr ⟨_, _, res_dp w rx o1.1, d2, shaped_of w rx o1, s2, ?_⟩)
    rw [any_toP]
    exact postD w (.bl _) q
theorem q_cop (hu : X.A.units + 65 < cLine) (op : CmpOp) : QOp X b (compareOp op) (cop op) := by
  have h64 : X.A.units + 64 < cLine := by omega
  cases op
  case Eq => exact q_eq h64
  case NotEq => exact q_ne h64
  case Lt => exact q_lt h64
  case LtE => exact q_le h64
  case Gt => exact q_gt h64
  case GtE => exact q_ge h64
  case In => exact q_in hu
  case NotIn => exact q_notIn hu
  all_goals exact fun _ _ _ _ _ _ _ _ _ _ _ _ _ _ _ _ _ _ _ _ q => (show False from q).elim
end
end Mp

set_option Elab.async false
set_option linter.all false
set_option maxRecDepth 100000
set_option maxHeartbeats 1000000
/-! M, part 4: the language: its text and what it does. -/
namespace Mp
open PySem PySem.Spec PyProof.Rows L2

inductive Blt where
  | len | abs | max2 | min2 | max1 | min1 | sum | all | any | int | str | list | tuple | sorted | sortedR | sortK
  deriving DecidableEq, Repr
inductive TN where
  | int | bool | tuple | str | list
  deriving DecidableEq, Repr
def isT : TN → D → Option Bool
  | _, .fn _ => none
  | _, .ref _ => none
  | .int, .int _ => some true
  | .int, .bl _ => some true
  | .bool, .bl _ => some true
  | .tuple, .tup _ => some true
  | .str, .str _ => some true
  | .list, .lst _ => some true
  | .list, .scr _ => some true
  | _, _ => some false
inductive Mth where
  | append | extend | pop0 | pop1 | index | count | bitlen
  deriving DecidableEq, Repr
/-- where a value goes -/
inductive MT where
  | nm (i : Nat) | nil | cons (a r : MT) | tp (ts : MT)
inductive ME where
  | var (i : Nat) | con (d : D) | nil | cons (a r : ME)
  | bin (op : Operator) (m : Bool) (a c : ME) | neg (a : ME) | not (a : ME)
  | cmp (op : CmpOp) (a c : ME) | ch2 (op1 op2 : CmpOp) (a c e : ME) | ch3 (op1 op2 op3 : CmpOp) (a c e g : ME) | isn (ng : Bool) (a : ME)
  | and (a c : ME) | or (a c : ME) | ite (c a e : ME)
  | tup (es : ME) | lst (m : Bool) (es : ME)
  | call (f : Nat) (dv : List D) (es : ME) | callv (i : Nat) (es : ME)
  | blt (f : Blt) (m : Bool) (es : ME) | isi (t : TN) (e : ME) | lrng (m : Bool) (a c : ME)
  | mth (f : Mth) (o es : ME)
  | idx (a i : ME) | slc (m : Bool) (a lo hi : ME) | abs | rev (m : Bool) (a : ME)
  | lc (m : Bool) (own : List Nat) (t : MT) (it c r : ME) | sset (m : Bool) (own : List Nat) (t : MT) (it c r : ME) | no | dnew (t : Bool) | ddis (t : Bool) (k e : ME) | dsub (o k : ME) | dget (o k e : ME) | din (ng : Bool) (k o : ME) | dsetd (o k e : ME) | dupd (o e : ME) | lckE (i : Nat) (e : ME) | keys (e : ME) | enl (e : ME) | lset (own : List Nat) (t : MT) (it c r : ME) | nset (e : ME) | gfor (t : MT) (own : List Nat) (it c r : ME) | gend (e : ME) | yes
  | isE (kd : EC) (a : ME) | fldE (f : Str) (a : ME)
  | itr (e : ME) | rng (a c : ME) | rngD (a c : ME) | enm (e : ME) | zip2 (a c : ME)
inductive MS where
  | nil | cons (s r : MS) | exp (e : ME) | set (t : MT) (e : ME) | aug (i : Nat) (op : Operator) (e : ME)
  | sset (o i e : ME) | augs (o i : ME) (op : Operator) (e : ME) | no | dput (o k e : ME) | daug (o k : ME) (op : Operator) (e : ME) | lckS (i : Nat) (s : MS) | ite (c : ME) (a e : MS) | for (t : MT) (it : ME) (b : MS) | whl (c : ME) (b : MS)
  | ret (e : ME) | retN | rse (c : EC) (e : ME) | brk | cnt | pss | tryw (b : MS)

/-! ### built-ins by trees -/
/-- what stands in a row: a tuple's, a list's -/
def items (S : Store) : D → Option (List D)
  | .tup xs => some xs
  | d => seqL S d
def tru (S : Store) : D → Option Bool
  | .non => some false
  | .bl b => some b
  | .int i => some (i != 0)
  | .str x => some ((x.length : Int) != 0)
  | .tup xs => some (!xs.isEmpty)
  | .fn _ => none
  | .scr ns => some (!ns.isEmpty)
  | d => (seqL S d).map fun xs => !xs.isEmpty
def isN (ng : Bool) : D → Bool
  | .non => !ng
  | _ => ng
def tst (S : Store) (d : D) (P : Bool → Prop) : Prop := ∃ b, tru S d = some b ∧ P b
def lenD (S : Store) : D → Option Nat
  | .str x => some x.length
  | .scr ns => some ns.length
  | .ref n => match S[n]? with
    | some (.lst xs) => some xs.length
    | some (.dct _ _ kvs) => some kvs.length
    | _ => none
  | d => (items S d).map List.length
def okA (xs : List D) : Prop := (∀ x ∈ xs, okD x ∧ x.toP ≠ .none) ∧ ∀ x ∈ xs, ∀ y ∈ xs, PySem.W.alike x.toP y.toP = true
def maxD (x : D) (xs : List D) : D := xs.foldl (fun a y => if D.lt a y = true then y else a) x
def minD (x : D) (xs : List D) : D := xs.foldl (fun a y => if D.lt y a = true then y else a) x
def okSort (xs : List D) : Prop := (∀ x ∈ xs, okD x) ∧ (∀ x ∈ xs, ∀ y ∈ xs, PySem.W.alike x.toP y.toP = true) ∧
  ((∀ x ∈ xs, ∃ y r, x = .tup (y :: r)) ∨ ∀ x ∈ xs, x.toP ≠ .none ∧ ∀ ys, x ≠ .tup ys)
def sortD (rv : Bool) (xs : List D) : List D := xs.mergeSort fun x y => PySem.W.dataLe rv D.toP x y
def fLen (as : List D) (S : Store) (Q : MK) : Prop := match as with
  | [x] => ∃ n, lenD S x = some n ∧ Q (.int n) S
  | _ => False
def fAbs (as : List D) (S : Store) (Q : MK) : Prop := match as with
  | [.int i] => Q (.int (if i < 0 then -i else i)) S
  | _ => False
def fMax2 (as : List D) (S : Store) (Q : MK) : Prop := match as with
  | [.int i, .int j] => Q (.int (max i j)) S
  | _ => False
def fMin2 (as : List D) (S : Store) (Q : MK) : Prop := match as with
  | [.int i, .int j] => Q (.int (min i j)) S
  | [.tup xs, .tup ys] => okA [.tup xs, .tup ys] ∧ Q (.tup xs) S ∧ Q (.tup ys) S
  | _ => False
def fMax1 (as : List D) (S : Store) (Q : MK) : Prop := match as with
  | [x] => ∃ y ys, items S x = some (y :: ys) ∧ okA (y :: ys) ∧ Q (maxD y ys) S
  | _ => False
def fMin1 (as : List D) (S : Store) (Q : MK) : Prop := match as with
  | [x] => ∃ y ys, items S x = some (y :: ys) ∧ okA (y :: ys) ∧ Q (minD y ys) S
  | _ => False
def fSum (as : List D) (S : Store) (Q : MK) : Prop := match as with
  | [x] => ∃ ns : List Int, items S x = some (ns.map .int) ∧ Q (.int ns.sum) S
  | _ => False
def fAll (as : List D) (S : Store) (Q : MK) : Prop := match as with
  | [x] => ∃ bs : List Bool, seqL S x = some (bs.map .bl) ∧ Q (.bl (bs.all id)) S
  | _ => False
def fAny (as : List D) (S : Store) (Q : MK) : Prop := match as with
  | [x] => ∃ bs : List Bool, seqL S x = some (bs.map .bl) ∧ Q (.bl (bs.any id)) S
  | _ => False
def fInt (as : List D) (S : Store) (Q : MK) : Prop := match as with
  | [.int i] => Q (.int i) S
  | [.bl b] => Q (.int (if b = true then 1 else 0)) S
  | _ => False
def fStr (as : List D) (S : Store) (Q : MK) : Prop := match as with
  | [.str x] => Q (.str x) S
  | [.int i] => i.natAbs.log2 < 1920 ∧ Q (.str (toString i)) S
  | _ => False
def fList (m : Bool) (as : List D) (S : Store) (Q : MK) : Prop := match as with
  | [.scr ns] => mkL m (ns.map .int) S Q
  | [x] => ∃ xs, items S x = some xs ∧ mkL m xs S Q
  | _ => False
def fTuple (as : List D) (S : Store) (Q : MK) : Prop := match as with
  | [.tup xs] => Q (.tup xs) S
  | [x] => ∃ xs, seqL S x = some xs ∧ Q (.tup xs) S
  | _ => False
def fSorted (m : Bool) (as : List D) (S : Store) (Q : MK) : Prop := match as with
  | [.tup xs] => okSort xs ∧ mkL m (sortD false xs) S Q
  | [x] => ∃ xs, seqL S x = some xs ∧ (xs.length ≤ 1 ∨ okSort xs) ∧ mkL m (sortD false xs) S Q
  | _ => False
def fSortedR (m : Bool) (as : List D) (S : Store) (Q : MK) : Prop := match as with
  | [x] => ∃ xs, seqL S x = some xs ∧ okSort xs ∧ mkL m (sortD true xs) S Q
  | _ => False
/-- sorted of a dict, its keys whole numbers -/
def fSortK (m : Bool) (as : List D) (S : Store) (Q : MK) : Prop := match as with
  | [x] => ∃ n z kvs, ∃ ks : List Int, x = .ref n ∧ S[n]? = some (.dct false z kvs) ∧ kvs.map (·.1) = ks.map (fun i => [Sum.inl i]) ∧ ks.length < 64 ∧ ∀ ys : List Int, ys.Perm ks → ys.Pairwise (· ≤ ·) → mkL m (ys.map .int) S Q
  | _ => False
def blt (f : Blt) (m : Bool) : List D → Store → MK → Prop := match f with
  | .len => fLen
  | .abs => fAbs
  | .max2 => fMax2
  | .min2 => fMin2
  | .max1 => fMax1
  | .min1 => fMin1
  | .sum => fSum
  | .all => fAll
  | .any => fAny
  | .int => fInt
  | .str => fStr
  | .list => fList m
  | .tuple => fTuple
  | .sorted => fSorted m
  | .sortedR => fSortedR m
  | .sortK => fSortK m
def rngL (a c : Int) : List D := (List.range (c - a).toNat).map fun i => D.int (a + (i : Nat))
def atD (S : Store) (x : D) (i : Int) : Option D := match x with
  | .tup xs => atI xs i
  | .str z => (atI z.cps.toList i).map fun c => .str ⟨#[c]⟩
  | .scr ns => (atI ns i).map .int
  | x => (seqL S x).bind fun xs => atI xs i
def cutL {α : Type} (xs : List α) (lo hi : Option Int) : List α := (xs.drop (HT.sIx xs.length 0 lo)).take (HT.sIx xs.length xs.length hi - HT.sIx xs.length 0 lo)
def slD (m : Bool) (x : D) (l h : Option Int) (S : Store) (Q : MK) : Prop := match x with
  | .tup xs => Q (.tup (cutL xs l h)) S
  | .str z => Q (.str (cutS z l h)) S
  | x => ∃ xs, seqL S x = some xs ∧ mkL m (cutL xs l h) S Q
def revD (m : Bool) (x : D) (S : Store) (Q : MK) : Prop := match x with
  | .tup xs => Q (.tup xs.reverse) S
  | x => ∃ xs, seqL S x = some xs ∧ mkL m xs.reverse S Q
def mAppend (o : D) (as : List D) (S : Store) (Q : MK) : Prop := match o, as with
  | .ref n, [x] => ∃ xs, S[n]? = some (.lst xs) ∧ xs.length < sizeLine ∧ Q .non (S.set n (.lst (xs ++ [x])))
  | _, _ => False
def mExtend (o : D) (as : List D) (S : Store) (Q : MK) : Prop := match o, as with
  | .ref n, [y] => ∃ xs ys, S[n]? = some (.lst xs) ∧ seqL S y = some ys ∧ xs.length + ys.length ≤ sizeLine ∧ Q .non (S.set n (.lst (xs ++ ys)))
  | _, _ => False
def mPop0 (o : D) (as : List D) (S : Store) (Q : MK) : Prop := match o, as with
  | .ref n, [] => ∃ xs x, S[n]? = some (.lst xs) ∧ xs[xs.length - 1]? = some x ∧ Q x (S.set n (.lst xs.dropLast))
  | _, _ => False
def mPop1 (o : D) (as : List D) (S : Store) (Q : MK) : Prop := match o, as with
  | .ref n, [.int i] => ∃ xs k x, S[n]? = some (.lst xs) ∧ xs.length < 2 ^ 62 ∧ ixN xs.length i = some k ∧ xs[k]? = some x ∧ Q x (S.set n (.lst (xs.eraseIdx k)))
  | _, _ => False
def mIndex (o : D) (as : List D) (S : Store) (Q : MK) : Prop := match as with
  | [y] => ∃ ys j z, seqL S o = some ys ∧ okD (.lst ys) ∧ okD y ∧ ys[j]? = some z ∧ D.eqv z y = true ∧ (∀ (k : Nat) z', k < j → ys[k]? = some z' → D.eqv z' y = false) ∧ Q (.int (j : Nat)) S
  | _ => False
def mCount (o : D) (as : List D) (S : Store) (Q : MK) : Prop := match as with
  | [y] => ∃ ys, seqL S o = some ys ∧ okD (.lst ys) ∧ okD y ∧ Q (.int ((ys.filter fun z => D.eqv z y).length : Nat)) S
  | _ => False
def mBitlen (o : D) (as : List D) (S : Store) (Q : MK) : Prop := match o, as with
  | .int i, [] => Q (.int (Builtin.Int.intBits i : Nat)) S
  | _, _ => False
def mth (f : Mth) : D → List D → Store → MK → Prop := match f with
  | .append => mAppend
  | .extend => mExtend
  | .pop0 => mPop0
  | .pop1 => mPop1
  | .index => mIndex
  | .count => mCount
  | .bitlen => mBitlen

def mTy (S : Store) : Mth → D → Bool
  | .bitlen, .int _ => true
  | .bitlen, _ => false
  | .index, .lst _ => true
  | .count, .lst _ => true
  | _, .ref n => (match S[n]? with
    | some (.lst _) => true
    | _ => false)
  | _, _ => false

/-! ### dicts -/
def keyD1 : L2.Key → D
  | .inl i => .int i
  | .inr x => .str x
def keyD (t : Bool) (ks : List L2.Key) : D := if t = true then .tup (ks.map keyD1) else match ks with
  | [k] => keyD1 k
  | _ => .non
def key1 : D → Option L2.Key
  | .int i => some (.inl i)
  | .str x => some (.inr x)
  | _ => none
def keys1 : List D → Option (List L2.Key)
  | [] => some []
  | d :: ds => (key1 d).bind fun k => (keys1 ds).map (k :: ·)
def dkey (t : Bool) (d : D) : Option (List L2.Key) := match t, d with
  | true, .tup xs => keys1 xs
  | true, _ => none
  | false, d => (key1 d).map fun k => [k]
abbrev KVs := List (List L2.Key × D)
def valD (kvs : KVs) (k : List L2.Key) : Option D := (kvs.find? fun p => decide (p.1 = k)).map (·.2)
def putD (kvs : KVs) (k : List L2.Key) (d : D) : KVs :=
  if (kvs.any fun p => decide (p.1 = k)) = true then kvs.map (fun p => if p.1 = k then (p.1, d) else p) else kvs ++ [(k, d)]
/-- all of one dict put into another -/
def mergeD (kvs more : KVs) : KVs := more.foldl (fun acc p => putD acc p.1 p.2) kvs
/-! ### what is walked -/
inductive Src where
  | fix (xs : List D) | live (n : Nat) | keys (n : Nat) (u : L2.HO) | enl (n : Nat)
def pairs (n : Nat) : List D → List D
  | [] => []
  | x :: xs => .tup [.int n, x] :: pairs (n + 1) xs
/-- all that is walked, where nothing changes it -/
noncomputable def srcL (S : Store) : Src → Option (List D)
  | .fix xs => some xs
  | .live n => seqL S (.ref n)
  | .enl n => (seqL S (.ref n)).map (pairs 0)
  | .keys n u => match S[n]? with
    | some (.dct t (some u') kvs) => open Classical in if u' = u then some (kvs.map fun p => keyD t p.1) else none
    | _ => none
def srcOf (S : Store) : D → Option Src
  | .tup xs => some (.fix xs)
  | .lst xs => some (.fix xs)
  | .ref n => (match S[n]? with
    | some (.lst _) => some (.live n)
    | _ => none)
  | .scr ns => some (.fix (ns.map .int))
  | .str z => some (.fix (z.cps.toList.map fun c => .str ⟨#[c]⟩))
  | _ => none
def rOk (a : Int) : Prop := -(2 ^ 62) ≤ a ∧ a < 2 ^ 62
def zipD (xs ys : List D) : List D := (xs.zip ys).map fun p => .tup [p.1, p.2]

/-! ### what the text does -/
/-- the number of the error at hand -/
def xno : Nat := 999
def EC.fld : EC → Str
  | .text => "at"
  | .cmd => "line"
  | _ => "reason"
structure C where
  call : Nat → List D → Store → MK → (Exc → Store → Prop) → Prop
  hot : Option Exc := none
abbrev EK := Exc → DEnv → Store → Prop
def wipeD (env : DEnv) : List Nat → DEnv
  | [] => env
  | v :: vs => (wipeD env vs).set v none
def isI (k : Int) : D → Bool
  | .int j => decide (j = k)
  | _ => false
def addI (ks : List Int) (k : Int) : List Int := if ks.any (fun j => decide (j = k)) = true then ks else ks ++ [k]
/-- how many unlike ones -/
def nUn (ns : List Int) : Nat := (ns.foldl addI []).length
/-- a row of unlike numbers, with one more -/
def addD (acc : List D) (k : Int) : List D := if acc.any (isI k) = true then acc else acc ++ [.int k]
mutual
def tgt : MT → D → DEnv → Store → (DEnv → Prop) → Prop
  | .nm i, d, env, _, P => P (env.set i (some d))
  | .tp ts, d, env, S, P => ∃ xs, d = .tup xs ∧ tgts ts xs env S P
  | _, _, _, _, _ => False
def tgts : MT → List D → DEnv → Store → (DEnv → Prop) → Prop
  | .nil, xs, env, _, P => xs = [] ∧ P env
  | .cons a r, xs, env, S, P => ∃ x ys, xs = x :: ys ∧ tgt a x env S fun env1 => tgts r ys env1 S P
  | _, _, _, _, _ => False
end
def genL (f : D → Store → List D → (List D → Store → Prop) → Prop) : List D → Store → List D → (List D → Store → Prop) → Prop
  | [], S, acc, Q => Q acc S
  | x :: xs, S, acc, Q => f x S acc fun acc1 S1 => genL f xs S1 acc1 Q
mutual
def ev (c : C) (E : EK) : ME → DEnv → Store → MK → Prop
  | .var i, env, S, Q => ∃ d, env[i]? = some (some d) ∧ Q d S
  | .con d, _, S, Q => Q d S
  | .bin op m a e, env, S, Q => ev c E a env S fun x S1 => ev c E e env S1 fun y S2 => bop op m x y S2 Q
  | .neg a, env, S, Q => ev c E a env S fun x S1 => ∃ i, x = .int i ∧ Q (.int (-i)) S1
  | .not a, env, S, Q => ev c E a env S fun x S1 => tst S1 x fun k => Q (.bl (!k)) S1
  | .cmp op a e, env, S, Q => ev c E a env S fun x S1 => ev c E e env S1 fun y S2 => cop op x y S2 Q
  | .ch2 o1 o2 a e g, env, S, Q => ev c E a env S fun x S1 => ev c E e env S1 fun y S2 => cop o1 x y S2 fun r S3 => ∃ k, r = .bl k ∧ if k = true then ev c E g env S3 fun z S4 => cop o2 y z S4 Q else Q (.bl false) S3
  | .ch3 o1 o2 o3 a e g l, env, S, Q => ev c E a env S fun x S1 => ev c E e env S1 fun y S2 => cop o1 x y S2 fun r S3 => ∃ k, r = .bl k ∧ if k = true then (ev c E g env S3 fun z S4 => cop o2 y z S4 fun r2 S5 => ∃ k2, r2 = .bl k2 ∧ if k2 = true then ev c E l env S5 fun u S6 => cop o3 z u S6 Q else Q (.bl false) S5) else Q (.bl false) S3
  | .isn ng a, env, S, Q => ev c E a env S fun x S1 => Q (.bl (isN ng x)) S1
  | .and a e, env, S, Q => ev c E a env S fun x S1 => tst S1 x fun k => if k = true then ev c E e env S1 Q else Q x S1
  | .or a e, env, S, Q => ev c E a env S fun x S1 => tst S1 x fun k => if k = true then Q x S1 else ev c E e env S1 Q
  | .ite t a e, env, S, Q => ev c E t env S fun x S1 => tst S1 x fun k => if k = true then ev c E a env S1 Q else ev c E e env S1 Q
  | .tup es, env, S, Q => evL c E es env S fun xs S1 => xs.length ≤ sizeLine ∧ Q (.tup xs) S1
  | .lst m es, env, S, Q => evL c E es env S fun xs S1 => xs.length ≤ sizeLine ∧ mkL m xs S1 Q
  | .call f dv es, env, S, Q => evL c E es env S fun xs S1 => c.call f (xs ++ dv) S1 Q fun e S2 => E e env S2
  | .callv i es, env, S, Q => ∃ f, env[i]? = some (some (.fn f)) ∧ evL c E es env S fun xs S1 => c.call f xs S1 Q fun e S2 => E e env S2
  | .blt f m es, env, S, Q => evL c E es env S fun xs S1 => blt f m xs S1 Q
  | .isi t e, env, S, Q => ev c E e env S fun d S1 => ∃ k, isT t d = some k ∧ Q (.bl k) S1
  | .lrng m a e, env, S, Q => ev c E a env S fun x S1 => ev c E e env S1 fun y S2 => ∃ i j, x = .int i ∧ y = .int j ∧ RgOk i j ∧ mkL m (rngL i j) S2 Q
  | .mth f o es, env, S, Q => ev c E o env S fun x S1 => mTy S1 f x = true ∧ evL c E es env S1 fun xs S2 => mth f x xs S2 Q
  | .idx a i, env, S, Q => ev c E a env S fun x S1 => ev c E i env S1 fun y S2 => ∃ k d, y = .int k ∧ atD S2 x k = some d ∧ Q d S2
  | .slc m a lo hi, env, S, Q => ev c E a env S fun x S1 => evO c E lo env S1 fun l S2 => evO c E hi env S2 fun h S3 => slD m x l h S3 Q
  | .rev m a, env, S, Q => ev c E a env S fun x S1 => revD m x S1 Q
  | .lc m own t it k r, env, S, Q => evI c E it env S fun s S1 => ∃ xs, srcL S1 s = some xs ∧
    genL (fun x S2 acc2 Q2 => tgt t x (wipeD env own) S2 fun env2 => ev c (fun _ _ _ => False) k env2 S2 fun y S3 => tst S3 y fun p =>
      if p = true then evG c r env2 S3 acc2 fun acc3 S4 => srcL S4 s = some xs ∧ Q2 acc3 S4 else srcL S3 s = some xs ∧ Q2 acc2 S3) xs S1 [] fun zs S9 => mkL m zs S9 Q
  | .sset m own t it k r, env, S, Q => evI c E it env S fun s S1 => ∃ xs, srcL S1 s = some xs ∧
    genL (fun x S2 acc2 Q2 => tgt t x (wipeD env own) S2 fun env2 => ev c (fun _ _ _ => False) k env2 S2 fun y S3 => tst S3 y fun p =>
      if p = true then ev c (fun _ _ _ => False) r env2 S3 fun d S4 => ∃ i, d = .int i ∧ acc2.length < sizeLine ∧ srcL S4 s = some xs ∧ Q2 (addD acc2 i) S4 else srcL S3 s = some xs ∧ Q2 acc2 S3) xs S1 [] fun zs S9 =>
        zs.length < 64 ∧ ∀ ys : List Int, (ys.map D.int).Perm zs → ys.Pairwise (· ≤ ·) → mkL m (ys.map .int) S9 Q
  | .lset own t it k r, env, S, Q => evI c E it env S fun s S1 => ∃ xs, srcL S1 s = some xs ∧
    genL (fun x S2 acc2 Q2 => tgt t x (wipeD env own) S2 fun env2 => ev c (fun _ _ _ => False) k env2 S2 fun y S3 => tst S3 y fun p =>
      if p = true then ev c (fun _ _ _ => False) r env2 S3 fun d S4 => ∃ i, d = .int i ∧ acc2.length < sizeLine ∧ srcL S4 s = some xs ∧ Q2 (addD acc2 i) S4 else srcL S3 s = some xs ∧ Q2 acc2 S3) xs S1 [] fun zs S9 => Q (.int (zs.length : Nat)) S9
  | .nset e, env, S, Q => ev c E e env S fun x S1 => ∃ ns : List Int, (x = .tup (ns.map .int) ∨ x = .lst (ns.map .int)) ∧ ns.length < 4000 ∧ Q (.int (nUn ns : Nat)) S1
  | .no, _, _, _ => False
  | .dnew t, env, S, Q => Q (.ref S.length) (S ++ [.dct t none []])
  | .ddis t k e, env, S, Q => ev c (fun _ _ _ => False) k env S fun x S1 => ev c (fun _ _ _ => False) e env S1 fun y S2 => ∃ ks, dkey t x = some ks ∧ Q (.ref S2.length) (S2 ++ [.dct t none [(ks, y)]])
  | .dsub o k, env, S, Q => ev c E o env S fun x S1 => ev c E k env S1 fun y S2 => ∃ n t z kvs ks d, x = .ref n ∧ S2[n]? = some (.dct t z kvs) ∧ dkey t y = some ks ∧ valD kvs ks = some d ∧ Q d S2
  | .dget o k e, env, S, Q => ev c E o env S fun x S1 => ∃ n t z kvs, x = .ref n ∧ S1[n]? = some (.dct t z kvs) ∧ ev c E k env S1 fun y S2 => ev c E e env S2 fun w S3 =>
      ∃ t z kvs ks, S3[n]? = some (.dct t z kvs) ∧ dkey t y = some ks ∧ Q ((valD kvs ks).getD w) S3
  | .din ng k o, env, S, Q => ev c E k env S fun y S1 => ev c E o env S1 fun x S2 => ∃ n t z kvs ks, x = .ref n ∧ S2[n]? = some (.dct t z kvs) ∧ dkey t y = some ks ∧ Q (.bl (if ng = true then !(valD kvs ks).isSome else (valD kvs ks).isSome)) S2
  | .dsetd o k e, env, S, Q => ev c E o env S fun x S1 => ∃ n t z kvs, x = .ref n ∧ S1[n]? = some (.dct t z kvs) ∧ ev c E k env S1 fun y S2 => ev c E e env S2 fun w S3 =>
      ∃ t kvs ks, S3[n]? = some (.dct t none kvs) ∧ dkey t y = some ks ∧ kvs.length < sizeLine ∧ (∀ d, valD kvs ks = some d → Q d S3) ∧ (valD kvs ks = none → Q w (S3.set n (.dct t none (putD kvs ks w))))
  | .dupd o e, env, S, Q => ev c E o env S fun x S1 => ∃ n t z kvs, x = .ref n ∧ S1[n]? = some (.dct t z kvs) ∧ ev c E e env S1 fun y S2 =>
      ∃ n2 t kvs z2 more, y = .ref n2 ∧ n ≠ n2 ∧ S2[n]? = some (.dct t none kvs) ∧ S2[n2]? = some (.dct t z2 more) ∧ kvs.length + more.length ≤ sizeLine ∧ (kvs ≠ [] ∨ more.length ≤ 1) ∧ Q .non (S2.set n (.dct t none (mergeD kvs more)))
  | .lckE i e, env, S, Q => ∃ n t kvs, env[i]? = some (some (.ref n)) ∧ S[n]? = some (.dct t none kvs) ∧ ∀ u, ev c E e env (S.set n (.dct t (some u) kvs)) fun d S1 => S1[n]? = some (.dct t (some u) kvs) ∧ Q d (S1.set n (.dct t none kvs))
  | .isE kd a, env, S, Q => ev c E a env S fun x S1 => x = .fn xno ∧ ∃ e0, c.hot = some e0 ∧ Q (.bl (decide (kd = .cave) || decide (e0.cls = kd))) S1
  | .fldE f a, env, S, Q => ev c E a env S fun x S1 => x = .fn xno ∧ ∃ e0, c.hot = some e0 ∧ f = e0.cls.fld ∧ Q e0.arg S1
  | .yes, _, S, Q => Q (.bl true) S
  | _, _, _, _ => False
def evL (c : C) (E : EK) : ME → DEnv → Store → (List D → Store → Prop) → Prop
  | .nil, _, S, Q => Q [] S
  | .cons a r, env, S, Q => ev c E a env S fun x S1 => evL c E r env S1 fun xs S2 => Q (x :: xs) S2
  | _, _, _, _ => False
def evO (c : C) (E : EK) : ME → DEnv → Store → (Option Int → Store → Prop) → Prop
  | .abs, _, S, Q => Q none S
  | .cons a .nil, env, S, Q => ev c E a env S fun x S1 => ∃ i, x = .int i ∧ Q (some i) S1
  | _, _, _, _ => False
def evI (c : C) (E : EK) : ME → DEnv → Store → (Src → Store → Prop) → Prop
  | .itr e, env, S, Q => ev c E e env S fun x S1 => ∃ s, srcOf S1 x = some s ∧ Q s S1
  | .rng a e, env, S, Q => ev c E a env S fun x S1 => ev c E e env S1 fun y S2 => ∃ i j, x = .int i ∧ y = .int j ∧ rOk i ∧ rOk j ∧ Q (.fix (rngL i j)) S2
  | .rngD a e, env, S, Q => ev c E a env S fun x S1 => ev c E e env S1 fun y S2 => ∃ i j, x = .int i ∧ y = .int j ∧ rOk i ∧ rOk j ∧ Q (.fix ((List.range (i - j).toNat).map fun k => D.int (i - (k : Nat)))) S2
  | .keys e, env, S, Q => ev c E e env S fun x S1 => ∃ n t u kvs, x = .ref n ∧ S1[n]? = some (.dct t (some u) kvs) ∧ Q (.keys n u) S1
  | .enl e, env, S, Q => ev c E e env S fun x S1 => ∃ n xs, x = .ref n ∧ S1[n]? = some (.lst xs) ∧ Q (.enl n) S1
  | .enm e, env, S, Q => ev c E e env S fun x S1 => ∃ xs, (x = .tup xs ∨ x = .lst xs) ∧ Q (.fix (pairs 0 xs)) S1
  | .zip2 a e, env, S, Q => ev c E a env S fun x S1 => ev c E e env S1 fun y S2 => ∃ xs ys, (x = .tup xs ∨ x = .lst xs) ∧ (y = .tup ys ∨ y = .lst ys) ∧ Q (.fix (zipD xs ys)) S2
  | _, _, _, _ => False
def evG (c : C) : ME → DEnv → Store → List D → (List D → Store → Prop) → Prop
  | .gend e, env, S, acc, Q => ev c (fun _ _ _ => False) e env S fun d S1 => acc.length < sizeLine ∧ Q (acc ++ [d]) S1
  | .gfor t own it k r, env, S, acc, Q => evI c (fun _ _ _ => False) it env S fun s S1 => ∃ xs, srcL S1 s = some xs ∧
    genL (fun x S2 acc2 Q2 => tgt t x (wipeD env own) S2 fun env2 => ev c (fun _ _ _ => False) k env2 S2 fun y S3 => tst S3 y fun p =>
      if p = true then evG c r env2 S3 acc2 fun acc3 S4 => srcL S4 s = some xs ∧ Q2 acc3 S4 else srcL S3 s = some xs ∧ Q2 acc2 S3) xs S1 acc Q
  | _, _, _, _, _ => False
end
structure MKs where
  nx : DEnv → Store → Prop
  rt : MK
  bk : DEnv → Store → Prop
  ct : DEnv → Store → Prop
def forL (f : D → DEnv → Store → (DEnv → Store → Prop) → Prop) (nx : DEnv → Store → Prop) : List D → DEnv → Store → Prop
  | [], env, S => nx env S
  | x :: xs, env, S => f x env S fun env1 S1 => forL f nx xs env1 S1
/-- a list of the store as it stands at each turn -/
def forR (f : D → DEnv → Store → (DEnv → Store → Prop) → Prop) (nx : DEnv → Store → Prop) (n : Nat) : Nat → Nat → DEnv → Store → Prop
  | 0, _, _, _ => False
  | k + 1, i, env, S => ∃ xs, S[n]? = some (.lst xs) ∧ match xs[i]? with
    | none => nx env S
    | some x => f x env S fun env1 S1 => forR f nx n k (i + 1) env1 S1
def whlN (t : DEnv → Store → MK → Prop) (f : DEnv → Store → (DEnv → Store → Prop) → Prop) (nx : DEnv → Store → Prop) : Nat → DEnv → Store → Prop
  | 0, _, _ => False
  | k + 1, env, S => t env S fun x S1 => tst S1 x fun p => if p = true then f env S1 fun env1 S2 => whlN t f nx k env1 S2 else nx env S1
/-- the word of an error, as the laws tell it -/
def EC.head : EC → Str
  | .text => "text "
  | .map => "map "
  | .arg => "argument "
  | .paper => "paper "
  | .many => "many "
  | _ => "other"
def wordOf (e : Exc) : Option Str := match e.cls, e.arg with
  | .text, .int i => if i.natAbs.log2 < 1920 then some (("text " : Str) ++ (toString i : Str)) else none
  | .map, .str x => if x.length ≤ 1000 then some (("map " : Str) ++ x) else none
  | .arg, .str x => if x.length ≤ 1000 then some (("argument " : Str) ++ x) else none
  | .paper, .str x => if x.length ≤ 1000 then some (("paper " : Str) ++ x) else none
  | .many, .str x => if x.length ≤ 1000 then some (("many " : Str) ++ x) else none
  | _, _ => none
/-- name op= e, ints -/
def augI (op : Operator) (i j : Int) : Option Int := match op with
  | .Add => some (i + j)
  | .Sub => some (i - j)
  | .BitOr => some (Builtin.bitOr i j)
  | .BitXor => some (Builtin.bitXor i j)
  | _ => none
def ex (c : C) : EK → MS → DEnv → Store → MKs → Prop
  | _, .nil, env, S, K => K.nx env S
  | E, .cons s r, env, S, K => ex c E s env S { K with nx := fun env1 S1 => ex c E r env1 S1 K }
  | E, .exp e, env, S, K => ev c E e env S fun _ S1 => K.nx env S1
  | E, .set t e, env, S, K => ev c E e env S fun d S1 => tgt t d env S1 fun env1 => K.nx env1 S1
  | E, .aug i op e, env, S, K => ∃ x, env[i]? = some (some x) ∧ ev c E e env S fun y S1 => ∃ a d k, x = .int a ∧ y = .int d ∧ augI op a d = some k ∧ K.nx (env.set i (some (.int k))) S1
  | E, .sset o i e, env, S, K => ev c E e env S fun d S1 => ev c E o env S1 fun x S2 => ev c E i env S2 fun y S3 =>
      ∃ n xs k j, x = .ref n ∧ S3[n]? = some (.lst xs) ∧ y = .int k ∧ ixN xs.length k = some j ∧ K.nx env (S3.set n (.lst (xs.set j d)))
  | E, .augs o i op e, env, S, K => ev c E o env S fun x S1 => ev c E i env S1 fun y S2 => ∃ n xs k j a, x = .ref n ∧ y = .int k ∧ S2[n]? = some (.lst xs) ∧ ixN xs.length k = some j ∧ xs[j]? = some (.int a) ∧
      ev c E e env S2 fun z S3 => ∃ d r ys l, z = .int d ∧ augI op a d = some r ∧ S3[n]? = some (.lst ys) ∧ ixN ys.length k = some l ∧ K.nx env (S3.set n (.lst (ys.set l (.int r))))
  | E, .dput o k e, env, S, K => ev c E e env S fun d S1 => ev c E o env S1 fun x S2 => ev c E k env S2 fun y S3 =>
      ∃ n t kvs ks, x = .ref n ∧ S3[n]? = some (.dct t none kvs) ∧ dkey t y = some ks ∧ kvs.length < sizeLine ∧ K.nx env (S3.set n (.dct t none (putD kvs ks d)))
  | E, .daug o k op e, env, S, K => ev c E o env S fun x S1 => ev c E k env S1 fun y S2 => ∃ n t z kvs ks a, x = .ref n ∧ S2[n]? = some (.dct t z kvs) ∧ dkey t y = some ks ∧ valD kvs ks = some (.int a) ∧
      ev c E e env S2 fun w S3 => ∃ d r ys, w = .int d ∧ augI op a d = some r ∧ S3[n]? = some (.dct t none ys) ∧ ys.length < sizeLine ∧ K.nx env (S3.set n (.dct t none (putD ys ks (.int r))))
  | E, .lckS i s, env, S, K => ∃ n t kvs, env[i]? = some (some (.ref n)) ∧ S[n]? = some (.dct t none kvs) ∧ ∀ u, ex c E s env (S.set n (.dct t (some u) kvs))
      { nx := fun env1 S1 => S1[n]? = some (.dct t (some u) kvs) ∧ K.nx env1 (S1.set n (.dct t none kvs)), rt := fun d S1 => S1[n]? = some (.dct t (some u) kvs) ∧ K.rt d (S1.set n (.dct t none kvs)),
        bk := fun env1 S1 => S1[n]? = some (.dct t (some u) kvs) ∧ K.bk env1 (S1.set n (.dct t none kvs)), ct := fun env1 S1 => S1[n]? = some (.dct t (some u) kvs) ∧ K.ct env1 (S1.set n (.dct t none kvs)) }
  | E, .ite t a e, env, S, K => ev c E t env S fun x S1 => tst S1 x fun p => if p = true then ex c E a env S1 K else ex c E e env S1 K
  | E, .for t it b, env, S, K => evI c E it env S fun s S1 => match s with
    | .fix xs => forL (fun x env1 S2 P => tgt t x env1 S2 fun env2 => ex c E b env2 S2 { nx := P, rt := K.rt, bk := K.nx, ct := P }) K.nx xs env S1
    | .live n => ∃ k, forR (fun x env1 S2 P => tgt t x env1 S2 fun env2 => ex c E b env2 S2 { nx := P, rt := K.rt, bk := K.nx, ct := P }) K.nx n k 0 env S1
    | .keys n u => ∃ xs, srcL S1 (.keys n u) = some xs ∧ forL (fun x env1 S2 P => tgt t x env1 S2 fun env2 => ex c E b env2 S2 { nx := fun env3 S3 => srcL S3 (.keys n u) = some xs ∧ P env3 S3, rt := K.rt, bk := K.nx, ct := fun env3 S3 => srcL S3 (.keys n u) = some xs ∧ P env3 S3 }) K.nx xs env S1
    | .enl n => ∃ xs, srcL S1 (.enl n) = some xs ∧ forL (fun x env1 S2 P => tgt t x env1 S2 fun env2 => ex c E b env2 S2 { nx := fun env3 S3 => srcL S3 (.enl n) = some xs ∧ P env3 S3, rt := K.rt, bk := K.nx, ct := fun env3 S3 => srcL S3 (.enl n) = some xs ∧ P env3 S3 }) K.nx xs env S1
  | E, .whl t b, env, S, K => ∃ k, whlN (fun env1 S1 Q => ev c E t env1 S1 Q) (fun env1 S1 P => ex c E b env1 S1 { nx := P, rt := K.rt, bk := K.nx, ct := P }) K.nx k env S
  | E, .ret e, env, S, K => ev c E e env S K.rt
  | _, .retN, _, S, K => K.rt .non S
  | E, .rse k e, env, S, K => ev c E e env S fun d S1 => E ⟨k, d⟩ env S1
  | _, .brk, env, S, K => K.bk env S
  | _, .cnt, env, S, K => K.ct env S
  | _, .pss, env, S, K => K.nx env S
  | _, .no, _, _, _ => False
  | _, .tryw b, env, S, K => ex c (fun e _ S1 => ∃ z, wordOf e = some z ∧ K.rt (.str z) S1) b env S K
/-- a def -/
structure MFn where
  np : Nat
  nl : Nat
  body : MS
def start (nl : Nat) (ds : List D) : DEnv := ds.map some ++ List.replicate (nl - ds.length) none
def run (T : Nat → Option MFn) : Nat → Nat → List D → Store → MK → (Exc → Store → Prop) → Prop
  | 0, _, _, _, _, _ => False
  | n + 1, f, ds, S, Q, E => ∃ fn, T f = some fn ∧ ds.length = fn.np ∧
    ex ⟨run T n, none⟩ (fun e _ S1 => E e S1) fn.body (start fn.nl ds) S { nx := fun _ S1 => Q .non S1, rt := Q, bk := fun _ _ => False, ct := fun _ _ => False }
end Mp

set_option Elab.async false
set_option linter.all false
set_option maxRecDepth 100000
set_option maxHeartbeats 1000000
/-! M, part 5: the rules of expressions. -/
namespace Mp
open PySem PySem.Spec PyProof.Rows L2

structure XC (X : Cx) (k : Nat) : Prop where
  calm : X.calm = true
  nd : X.N.Nodup
  room : Room k X.A
theorem XC.u64 {X : Cx} {k : Nat} (x : XC X k) : X.A.units + 64 < cLine := x.room.units
theorem XC.u65 {X : Cx} {k : Nat} (x : XC X k) : X.A.units + 65 < cLine := by have := x.room.un; omega

theorem postH_mono {K : PySem.W.Frag} {b : MB} {F F' : Hp} {μ μ' : List Addr} {Q : MK} {v : V} {H : Hp} (e : Ext F μ F' μ') (h : PostH K b F' μ' Q v H) : PostH K b F μ Q v H := by
  obtain ⟨F2, μ2, d, S, e2, w, r, q⟩ := h
  exact ⟨F2, μ2, d, S, e.trans e2, w, r, q⟩
theorem post_mono {X : Cx} {b : MB} {pins : List (Addr × Obj)} {σ : L2.St} {F F' : Hp} {μ μ' : List Addr} {Q : MK} {u : Value} {s : Shared} (e : Ext F μ F' μ') (h : Post X b pins σ F' μ' Q u s) : Post X b pins σ F μ Q u s := by
  obtain ⟨v, H, F2, μ2, d, S, I, rv, e2, w, r, q⟩ := h
  exact ⟨v, H, F2, μ2, d, S, I, rv, e.trans e2, w, r, q⟩

/-! ### arguments -/
abbrev MA := DEnv → Store → (List D → Store → Prop) → Prop
def PostAH (K : PySem.W.Frag) (b : MB) (F : Hp) (μ : List Addr) (Q : List D → Store → Prop) : List V → Hp → Prop := fun vs H' =>
  ∃ F' μ' ds S', Ext F μ F' μ' ∧ WI K b.fa F' b.L μ' S' H' ∧ RDs K b.fa F' μ' ds vs ∧ Q ds S'
def liftA (K : PySem.W.Frag) (b : MB) (w : MA) : TA := fun σ H Q => ∃ F μ env S Q', At K b F μ S H env σ ∧ w env S Q' ∧ ∀ vs H', PostAH K b F μ Q' vs H' → Q vs H'
structure QA (X : Cx) (b : MB) (es : List Expr) (w : MA) : Prop where
  pa : PA X es (liftA X.K b w)
theorem qa_nil {X : Cx} {b : MB} : QA X b [] (fun _ S Q => Q [] S) := by
  refine ⟨⟨fun pos pins s σ H Q I h => ?_⟩⟩
  obtain ⟨F, μ, env, S, Q', a, q, k⟩ := h
  exact Calls.spliced_nil ⟨[], H, I, .nil, k [] H ⟨F, μ, [], S, .refl, a.wi, .nil, q⟩⟩
def NoStar : Expr → Prop
  | .Starred _ _ => False
  | _ => True
theorem star_cons {e : Expr} (h : NoStar e) (es : List Expr) (env : Env) : starEach (e :: es) env = (false, eval e env) :: starEach es env := by
  cases e <;> first | rfl | exact h.elim
theorem qa_cons {X : Cx} {b : MB} {e : Expr} {es : List Expr} {w : ME1} {wr : MA} (h : QE X b e w) (hr : QA X b es wr) (hs : NoStar e) :
    QA X b (e :: es) (fun env S Q => w env S fun x S1 => wr env S1 fun xs S2 => Q (x :: xs) S2) := by
  refine ⟨⟨fun pos pins s σ H Q I hw => ?_⟩⟩
  obtain ⟨F, μ, env, S, Q', a, q, k⟩ := hw
  refine (pa_cons (X := X) (e := e) (es := es) h.pe hr.pa (star_cons hs es X.env)).run pos pins s σ H Q I ?_
  refine ⟨F, μ, env, S, _, a, q, fun v H1 hp => ?_⟩
  obtain ⟨F1, μ1, d, S1, e1, w1, r1, q1⟩ := hp
  refine ⟨F1, μ1, env, S1, _, a.step e1 w1, q1, fun vs H2 hp2 => ?_⟩
  obtain ⟨F2, μ2, ds, S2, e2, w2, r2, q2⟩ := hp2
  exact k (v :: vs) H2 ⟨F2, μ2, d :: ds, S2, e1.trans e2, w2, .cons (r1.ext e2) r2, q2⟩

/-! ### names, constants -/
section
variable {X : Cx} {b : MB} {pos : Pos}
theorem qe_var {i : Nat} {x : Str} (hN : X.N[i]? = some x) (hv : Vis X.env.scope x) (hd : (x == ("__debug__" : Str)) = false) (hcd : (x == ("__classdict__" : Str)) = false) :
    QE X b (.Name x pos) (fun env S Q => ∃ d, env[i]? = some (some d) ∧ Q d S) :=
  QE.of (pe_var hN hv hd hcd) fun F μ env S Q σ H a h => by
    obtain ⟨d, e, q⟩ := h
    obtain ⟨v, e2, r⟩ := a.re.2 i d e
    exact ⟨v, e2, F, μ, d, S, .refl, a.wi, r, q⟩
theorem qe_con {e : Expr} {d : D} {v : V} (h : PE X e (tC v)) (r : ∀ F μ, RD X.K b.fa F μ d v) : QE X b e (fun _ S Q => Q d S) :=
  QE.of h fun F μ env S Q σ H a q => ⟨F, μ, d, S, .refl, a.wi, r F μ, q⟩

/-! ### operators -/
theorem qe_bin {op : Operator} {a c : Expr} {wa wc : ME1} {r : MR2} (ho : QOp X b (binaryOp op) r) (ha : QE X b a wa) (hc : QE X b c wc) :
    QE X b (.BinOp a op c pos) (fun env S Q => wa env S fun x S1 => wc env S1 fun y S2 => r x y S2 Q) := by
  refine ⟨fun pins s σ H F μ env S Q I at0 h => ?_⟩
  refine wpAny_BinOp (thn (ha.run pins s σ H F μ env S _ I at0 h) fun v s1 ⟨x, H1, F1, μ1, d1, S1, I1, rv1, e1, w1, r1, q1⟩ => ?_)
  refine thn (hc.run pins s1 σ H1 F1 μ1 env S1 _ I1 (at0.step e1 w1) q1) fun u s2 ⟨y, H2, F2, μ2, d2, S2, I2, rv2, e2, w2, r2, q2⟩ => ?_
  exact thn (ho pins s2 σ H2 F2 μ2 S2 x y v u d1 d2 Q I2 w2 rv1 rv2 (r1.ext e2) r2 q2) fun _ _ z => post_mono (e1.trans e2) z
theorem qe_cmp {op : CmpOp} {a c : Expr} {wa wc : ME1} {r : MR2} (ho : QOp X b (compareOp op) r) (ha : QE X b a wa) (hc : QE X b c wc) (hm : behindInMarks op c = false) :
    QE X b (.Compare a [op] [c] pos) (fun env S Q => wa env S fun x S1 => wc env S1 fun y S2 => r x y S2 Q) := by
  refine ⟨fun pins s σ H F μ env S Q I at0 h => ?_⟩
  refine wpAny_Compare1 (thn (ha.run pins s σ H F μ env S _ I at0 h) fun v s1 ⟨x, H1, F1, μ1, d1, S1, I1, rv1, e1, w1, r1, q1⟩ => ?_) hm
  refine thn (hc.run pins s1 σ H1 F1 μ1 env S1 _ I1 (at0.step e1 w1) q1) fun u s2 ⟨y, H2, F2, μ2, d2, S2, I2, rv2, e2, w2, r2, q2⟩ => ?_
  exact thn (ho pins s2 σ H2 F2 μ2 S2 x y v u d1 d2 Q I2 w2 rv1 rv2 (r1.ext e2) r2 q2) fun _ _ z => post_mono (e1.trans e2) z
theorem qe_neg {a : Expr} {wa : ME1} (ha : QE X b a wa) : QE X b (.UnaryOp .USub a pos) (fun env S Q => wa env S fun x S1 => ∃ i, x = .int i ∧ Q (.int (-i)) S1) := by
  refine ⟨fun pins s σ H F μ env S Q I at0 h => ?_⟩
  refine UnaryOp_ (thn (ha.run pins s σ H F μ env S _ I at0 h) fun v s1 ⟨x, H1, F1, μ1, d1, S1, I1, rv1, e1, w1, r1, i, ei, q1⟩ => ?_)
  subst ei
  cases r1
  exact thn (un_neg (X := X) pins s1 σ H1 _ v (PostH X.K b F1 μ1 Q) I1 rv1 ⟨i, rfl, postD w1 (.int _) q1⟩) fun _ _ z => post_mono e1 (post_of z)

/-! ### truth -/
theorem tru_V {K : PySem.W.Frag} {fa : FA} {F L H : Hp} {μ : List Addr} {S : Store} (w : WI K fa F L μ S H) {d : D} {x : V} (r : RD K fa F μ d x) {k : Bool} (e : tru S d = some k) : TruV K x H k := by
  cases r with
  | non => cases e; rfl
  | bl c => cases e; rfl
  | int i => cases e; rfl
  | str h => cases e; exact ⟨h.1, rfl⟩
  | tup h hs =>
    cases e
    refine .inr (.inl ⟨_, SqT.of (w.fz _ _ h), ?_⟩)
    cases hs <;> rfl
  | lst h hs =>
    cases e
    refine .inl ⟨_, SqL.of (w.fz _ _ h), ?_⟩
    cases hs <;> rfl
  | @ref n a h =>
    obtain ⟨o, ho⟩ := w.at h
    cases o with
    | lst ys =>
      simp only [tru, seqL, ho, Option.map_some, Option.some.injEq] at e
      obtain ⟨u, hu, vs, rfl, hs⟩ := w.st n _ a ho h
      refine .inl ⟨vs, SqL.of hu, ?_⟩
      rw [← e]
      cases hs <;> rfl
    | dct t z kvs => simp [tru, seqL, ho] at e
  | fn h => cases e
  | @scr a ns h =>
    cases e
    refine .inl ⟨_, SqL.ext w.fz h, ?_⟩
    cases ns <;> rfl
/-- the truth of a value: nothing changes -/
theorem truthy_D {pins : List (Addr × Obj)} {s : Shared} {σ : L2.St} {H F : Hp} {μ : List Addr} {S : Store} {x : V} {v : Value} {d : D} {k : Bool} (I : Inv X pins σ H s) (w : WI X.K b.fa F b.L μ S H) (rv : RelV x v) (r : RD X.K b.fa F μ d x) (e : tru S d = some k) :
    wpAny (model X.prog X.w) X.A (truthy v) (fun c s' => c = k ∧ Inv X pins σ H s') X.xe s :=
  thn (tru_ok (X := X) pins s σ H x v (fun c H2 => c = k ∧ H2 = H) I rv ⟨k, tru_V w r e, rfl, rfl⟩) fun c s2 ⟨H2, I2, e1, e2⟩ => by subst e2; exact ⟨e1, I2⟩
def PostT (X : Cx) (b : MB) (pins : List (Addr × Obj)) (σ : L2.St) (F : Hp) (μ : List Addr) (Q : MK) : Bool → Shared → Prop := fun c s' =>
  ∃ H' F' μ' d S', Inv X pins σ H' s' ∧ Ext F μ F' μ' ∧ WI X.K b.fa F' b.L μ' S' H' ∧ tru S' d = some c ∧ Q d S'
/-- an expression as a test -/
structure QT (X : Cx) (b : MB) (e : Expr) (w : ME1) : Prop where
  run : ∀ (pins : List (Addr × Obj)) (s : Shared) (σ : L2.St) (H F : Hp) (μ : List Addr) (env : DEnv) (S : Store) (Q : MK), Inv X pins σ H s → At X.K b F μ S H env σ → w env S Q → (∀ d S', Q d S' → ∃ k, tru S' d = some k) →
    wpAny (model X.prog X.w) X.A (isTrue e X.env (eval e X.env)) (PostT X b pins σ F μ Q) X.xe s
theorem postT_mono {pins : List (Addr × Obj)} {σ : L2.St} {F F' : Hp} {μ μ' : List Addr} {Q : MK} {c : Bool} {s : Shared} (e : Ext F μ F' μ') (h : PostT X b pins σ F' μ' Q c s) : PostT X b pins σ F μ Q c s := by
  obtain ⟨H, F2, μ2, d, S, I, e2, w, r, q⟩ := h
  exact ⟨H, F2, μ2, d, S, I, e.trans e2, w, r, q⟩
theorem qt_plain {e : Expr} {w : ME1} (h : QE X b e w) (he : isTrue e X.env (eval e X.env) = (do let v ← eval e X.env; standAt e.pos; holding [v] (truthy v))) : QT X b e w := by
  refine ⟨fun pins s σ H F μ env S Q I at0 hw hQ => ?_⟩
  refine isTrue_plain (thn (h.run pins s σ H F μ env S Q I at0 hw) fun v s1 ⟨x, H1, F1, μ1, d1, S1, I1, rv1, e1, w1, r1, q1⟩ => ?_) he
  obtain ⟨k, ek⟩ := hQ d1 S1 q1
  exact thn (truthy_D I1 w1 rv1 r1 ek) fun c s2 ⟨ec, I2⟩ => ⟨H1, F1, μ1, d1, S1, I2, e1, w1, by rw [ec]; exact ek, q1⟩
theorem tst_tru {S : Store} {d : D} {P : Bool → Prop} (h : tst S d P) : ∃ k, tru S d = some k := ⟨h.choose, h.choose_spec.1⟩
theorem tst_at {S : Store} {d : D} {P : Bool → Prop} (h : tst S d P) {k : Bool} (e : tru S d = some k) : P k := by
  obtain ⟨k', e', p⟩ := h
  rw [e] at e'; cases e'; exact p
/-- not -/
theorem qt_not {a : Expr} {wa : ME1} (ha : QT X b a wa) : QT X b (.UnaryOp .Not a pos) (fun env S Q => wa env S fun x S1 => tst S1 x fun k => Q (.bl (!k)) S1) := by
  refine ⟨fun pins s σ H F μ env S Q I at0 hw hQ => ?_⟩
  refine isTrue_not (thn (ha.run pins s σ H F μ env S _ I at0 hw fun d S' h => tst_tru h) fun c s1 ⟨H1, F1, μ1, d1, S1, I1, e1, w1, t1, q1⟩ => ?_)
  exact ⟨H1, F1, μ1, .bl (!c), S1, I1, e1, w1, rfl, tst_at q1 t1⟩
theorem qe_not {a : Expr} {wa : ME1} (ha : QE X b a wa) : QE X b (.UnaryOp .Not a pos) (fun env S Q => wa env S fun x S1 => tst S1 x fun k => Q (.bl (!k)) S1) := by
  refine ⟨fun pins s σ H F μ env S Q I at0 h => ?_⟩
  refine UnaryOp_ (thn (ha.run pins s σ H F μ env S _ I at0 h) fun v s1 ⟨x, H1, F1, μ1, d1, S1, I1, rv1, e1, w1, r1, q1⟩ => ?_)
  obtain ⟨k, ek⟩ := tst_tru q1
  exact not_of (thn (truthy_D I1 w1 rv1 r1 ek) fun c s2 ⟨ec, I2⟩ => ⟨.bl (!c), H1, F1, μ1, .bl (!c), S1, I2, rfl, e1, w1, .bl _, by rw [ec]; exact tst_at q1 ek⟩)
/-- and, or -/
theorem qe_one {op : BoolOp} {a : Expr} {w : ME1} (h : QE X b a w) : QE X b (.BoolOp op [a] pos) w := ⟨fun pins s σ H F μ env S Q I at0 hw => BoolOp_one (h.run pins s σ H F μ env S Q I at0 hw)⟩
theorem qe_and {a c : Expr} {rest : List Expr} {wa wc : ME1} (ha : QE X b a wa) (hc : QE X b (.BoolOp .And (c :: rest) pos) wc) :
    QE X b (.BoolOp .And (a :: c :: rest) pos) (fun env S Q => wa env S fun x S1 => tst S1 x fun k => if k = true then wc env S1 Q else Q x S1) := by
  refine ⟨fun pins s σ H F μ env S Q I at0 h => ?_⟩
  refine BoolOp_and (thn (ha.run pins s σ H F μ env S _ I at0 h) fun v s1 ⟨x, H1, F1, μ1, d1, S1, I1, rv1, e1, w1, r1, q1⟩ => ?_)
  obtain ⟨k, ek⟩ := tst_tru q1
  refine thn (truthy_D I1 w1 rv1 r1 ek) fun c s2 ⟨ec, I2⟩ => ?_
  have q2 := tst_at q1 ek
  subst ec
  cases c with
  | true => exact thn (hc.run pins s2 σ H1 F1 μ1 env S1 Q I2 (at0.step e1 w1) (by simpa using q2)) fun _ _ z => post_mono e1 z
  | false => exact ⟨x, H1, F1, μ1, d1, S1, I2, rv1, e1, w1, r1, by simpa using q2⟩
theorem qe_or {a c : Expr} {rest : List Expr} {wa wc : ME1} (ha : QE X b a wa) (hc : QE X b (.BoolOp .Or (c :: rest) pos) wc) :
    QE X b (.BoolOp .Or (a :: c :: rest) pos) (fun env S Q => wa env S fun x S1 => tst S1 x fun k => if k = true then Q x S1 else wc env S1 Q) := by
  refine ⟨fun pins s σ H F μ env S Q I at0 h => ?_⟩
  refine BoolOp_or (thn (ha.run pins s σ H F μ env S _ I at0 h) fun v s1 ⟨x, H1, F1, μ1, d1, S1, I1, rv1, e1, w1, r1, q1⟩ => ?_)
  obtain ⟨k, ek⟩ := tst_tru q1
  refine thn (truthy_D I1 w1 rv1 r1 ek) fun c s2 ⟨ec, I2⟩ => ?_
  have q2 := tst_at q1 ek
  subst ec
  cases c with
  | false => exact thn (hc.run pins s2 σ H1 F1 μ1 env S1 Q I2 (at0.step e1 w1) (by simpa using q2)) fun _ _ z => post_mono e1 z
  | true => exact ⟨x, H1, F1, μ1, d1, S1, I2, rv1, e1, w1, r1, by simpa using q2⟩
/-- .. in a test, whatever its 'whole' is -/
structure QW (X : Cx) (b : MB) (e : Expr) (w : ME1) : Prop where
  run : ∀ (whole : Sem Value) (pins : List (Addr × Obj)) (s : Shared) (σ : L2.St) (H F : Hp) (μ : List Addr) (env : DEnv) (S : Store) (Q : MK), Inv X pins σ H s → At X.K b F μ S H env σ → w env S Q → (∀ d S', Q d S' → ∃ k, tru S' d = some k) →
    wpAny (model X.prog X.w) X.A (isTrue e X.env whole) (PostT X b pins σ F μ Q) X.xe s
theorem QW.qt {e : Expr} {w : ME1} (h : QW X b e w) : QT X b e w := ⟨h.run _⟩
theorem qw_and1 {a : Expr} {w : ME1} (h : QT X b a w) : QW X b (.BoolOp .And [a] pos) w := by
  refine ⟨fun wh pins s σ H F μ env S Q I at0 hw hQ => ?_⟩
  refine isTrue_and (thn (h.run pins s σ H F μ env S Q I at0 hw hQ) fun c s1 e => ?_)
  cases c with
  | true => exact isTrue_and_nil e
  | false => exact e
theorem qw_or1 {a : Expr} {w : ME1} (h : QT X b a w) : QW X b (.BoolOp .Or [a] pos) w := by
  refine ⟨fun wh pins s σ H F μ env S Q I at0 hw hQ => ?_⟩
  refine isTrue_or (thn (h.run pins s σ H F μ env S Q I at0 hw hQ) fun c s1 e => ?_)
  cases c with
  | false => exact isTrue_or_nil e
  | true => exact e
theorem qw_and {a c : Expr} {rest : List Expr} {wa wc : ME1} (ha : QT X b a wa) (hc : QW X b (.BoolOp .And (c :: rest) pos) wc) :
    QW X b (.BoolOp .And (a :: c :: rest) pos) (fun env S Q => wa env S fun x S1 => tst S1 x fun k => if k = true then wc env S1 Q else Q x S1) := by
  refine ⟨fun wh pins s σ H F μ env S Q I at0 h hQ => ?_⟩
  refine isTrue_and (thn (ha.run pins s σ H F μ env S _ I at0 h fun d S' h => tst_tru h) fun c s1 ⟨H1, F1, μ1, d1, S1, I1, e1, w1, t1, q1⟩ => ?_)
  have q2 := tst_at q1 t1
  cases c with
  | true => exact thn (hc.run wh pins s1 σ H1 F1 μ1 env S1 Q I1 (at0.step e1 w1) (by simpa using q2) hQ) fun _ _ z => postT_mono e1 z
  | false => exact ⟨H1, F1, μ1, d1, S1, I1, e1, w1, t1, by simpa using q2⟩
theorem qw_or {a c : Expr} {rest : List Expr} {wa wc : ME1} (ha : QT X b a wa) (hc : QW X b (.BoolOp .Or (c :: rest) pos) wc) :
    QW X b (.BoolOp .Or (a :: c :: rest) pos) (fun env S Q => wa env S fun x S1 => tst S1 x fun k => if k = true then Q x S1 else wc env S1 Q) := by
  refine ⟨fun wh pins s σ H F μ env S Q I at0 h hQ => ?_⟩
  refine isTrue_or (thn (ha.run pins s σ H F μ env S _ I at0 h fun d S' h => tst_tru h) fun c s1 ⟨H1, F1, μ1, d1, S1, I1, e1, w1, t1, q1⟩ => ?_)
  have q2 := tst_at q1 t1
  cases c with
  | false => exact thn (hc.run wh pins s1 σ H1 F1 μ1 env S1 Q I1 (at0.step e1 w1) (by simpa using q2) hQ) fun _ _ z => postT_mono e1 z
  | true => exact ⟨H1, F1, μ1, d1, S1, I1, e1, w1, t1, by simpa using q2⟩
theorem qt_cmp {op : CmpOp} {a c : Expr} {wa wc : ME1} {r : MR2} (ho : QOp X b (compareOp op) r) (ha : QE X b a wa) (hc : QE X b c wc) (hm : behindInMarks op c = false) :
    QT X b (.Compare a [op] [c] pos) (fun env S Q => wa env S fun x S1 => wc env S1 fun y S2 => r x y S2 Q) := by
  refine ⟨fun pins s σ H F μ env S Q I at0 h hQ => ?_⟩
  refine wpAny_isTrue_Compare1 (thn (ha.run pins s σ H F μ env S _ I at0 h) fun v s1 ⟨x, H1, F1, μ1, d1, S1, I1, rv1, e1, w1, r1, q1⟩ => ?_) hm
  refine thn (hc.run pins s1 σ H1 F1 μ1 env S1 _ I1 (at0.step e1 w1) q1) fun u s2 ⟨y, H2, F2, μ2, d2, S2, I2, rv2, e2, w2, r2, q2⟩ => ?_
  refine thn (ho pins s2 σ H2 F2 μ2 S2 x y v u d1 d2 Q I2 w2 rv1 rv2 (r1.ext e2) r2 q2) fun z s3 ⟨zv, H3, F3, μ3, d3, S3, I3, rv3, e3, w3, r3, q3⟩ => ?_
  obtain ⟨k, ek⟩ := hQ d3 S3 q3
  exact thn (truthy_D I3 w3 rv3 r3 ek) fun c s4 ⟨ec, I4⟩ => ⟨H3, F3, μ3, d3, S3, I4, (e1.trans e2).trans e3, w3, by rw [ec]; exact ek, q3⟩
theorem qe_ch2 {o1 o2 : CmpOp} {a c g : Expr} {wa wc wg : ME1} {r1 r2 : MR2} (ho1 : QOp X b (compareOp o1) r1) (ho2 : QOp X b (compareOp o2) r2) (ha : QE X b a wa) (hc : QE X b c wc) (hg : QE X b g wg) (hm : lastMarks [o1, o2] [c, g] = false) :
    QE X b (.Compare a [o1, o2] [c, g] pos) (fun env S Q => wa env S fun x S1 => wc env S1 fun y S2 => r1 x y S2 fun z S3 => ∃ k, z = .bl k ∧ if k = true then wg env S3 fun u S4 => r2 y u S4 Q else Q (.bl false) S3) := by
  refine ⟨fun pins s σ H F μ env S Q I at0 h => ?_⟩
  refine Compare_chain (thn (ha.run pins s σ H F μ env S _ I at0 h) fun v s1 ⟨x, H1, F1, μ1, d1, S1, I1, rv1, e1, w1, rr1, q1⟩ => chain_link (thn (hc.run pins s1 σ H1 F1 μ1 env S1 _ I1 (at0.step e1 w1) q1) fun u s2 ⟨y, H2, F2, μ2, d2, S2, I2, rv2, e2, w2, rr2, q2⟩ =>
    thn (ho1 pins s2 σ H2 F2 μ2 S2 x y v u d1 d2 _ I2 w2 rv1 rv2 (rr1.ext e2) rr2 q2) fun d s3 ⟨z, H3, F3, μ3, d3, S3, I3, rv3, e3, w3, rr3, k, ek, q3⟩ => ?_)) hm
  subst ek
  cases rr3
  cases rv3
  have e123 := (e1.trans e2).trans e3
  refine wpAny_truthy_bool ?_
  cases k with
  | false => exact ite_ff ⟨.bl false, H3, F3, μ3, .bl false, S3, I3, rfl, e123, w3, .bl _, by simpa using q3⟩
  | true =>
    have q3' : wg env S3 (fun u S4 => r2 d2 u S4 Q) := by simpa using q3
    refine ite_tt (chain_last (thn (hg.run pins s3 σ H3 F3 μ3 env S3 _ I3 (at0.step e123 w3) q3') fun w' s4 ⟨z', H4, F4, μ4, d4, S4, I4, rv4, e4, w4, rr4, q4⟩ => ?_))
    exact thn (ho2 pins s4 σ H4 F4 μ4 S4 y z' u w' d2 d4 Q I4 w4 rv2 rv4 ((rr2.ext e3).ext e4) rr4 q4) fun _ _ z => post_mono (e123.trans e4) z
theorem qt_ch2 {o1 o2 : CmpOp} {a c g : Expr} {wa wc wg : ME1} {r1 r2 : MR2} (ho1 : QOp X b (compareOp o1) r1) (ho2 : QOp X b (compareOp o2) r2) (ha : QE X b a wa) (hc : QE X b c wc) (hg : QE X b g wg) (hm : lastMarks [o1, o2] [c, g] = false) :
    QT X b (.Compare a [o1, o2] [c, g] pos) (fun env S Q => wa env S fun x S1 => wc env S1 fun y S2 => r1 x y S2 fun z S3 => ∃ k, z = .bl k ∧ if k = true then wg env S3 fun u S4 => r2 y u S4 Q else Q (.bl false) S3) := by
  refine ⟨fun pins s σ H F μ env S Q I at0 h hQ => ?_⟩
  refine isTrue_chain (thn (ha.run pins s σ H F μ env S _ I at0 h) fun v s1 ⟨x, H1, F1, μ1, d1, S1, I1, rv1, e1, w1, rr1, q1⟩ => test_link (thn (hc.run pins s1 σ H1 F1 μ1 env S1 _ I1 (at0.step e1 w1) q1) fun u s2 ⟨y, H2, F2, μ2, d2, S2, I2, rv2, e2, w2, rr2, q2⟩ =>
    thn (ho1 pins s2 σ H2 F2 μ2 S2 x y v u d1 d2 _ I2 w2 rv1 rv2 (rr1.ext e2) rr2 q2) fun d s3 ⟨z, H3, F3, μ3, d3, S3, I3, rv3, e3, w3, rr3, k, ek, q3⟩ => ?_)) hm
  subst ek
  cases rr3
  cases rv3
  have e123 := (e1.trans e2).trans e3
  refine wpAny_truthy_bool ?_
  cases k with
  | false => exact ite_ff ⟨H3, F3, μ3, .bl false, S3, I3, e123, w3, rfl, by simpa using q3⟩
  | true =>
    have q3' : wg env S3 (fun u S4 => r2 d2 u S4 Q) := by simpa using q3
    refine ite_tt (test_last (thn (hg.run pins s3 σ H3 F3 μ3 env S3 _ I3 (at0.step e123 w3) q3') fun w' s4 ⟨z', H4, F4, μ4, d4, S4, I4, rv4, e4, w4, rr4, q4⟩ => ?_))
    refine thn (ho2 pins s4 σ H4 F4 μ4 S4 y z' u w' d2 d4 Q I4 w4 rv2 rv4 ((rr2.ext e3).ext e4) rr4 q4) fun c5 s5 ⟨z5, H5, F5, μ5, d5, S5, I5, rv5, e5, w5, rr5, q5⟩ => ?_
    obtain ⟨k5, ek5⟩ := hQ d5 S5 q5
    exact thn (truthy_D I5 w5 rv5 rr5 ek5) fun c6 s6 ⟨ec, I6⟩ => ⟨H5, F5, μ5, d5, S5, I6, (e123.trans e4).trans e5, w5, by rw [ec]; exact ek5, q5⟩
theorem qe_ch3 {o1 o2 o3 : CmpOp} {a c g l : Expr} {wa wc wg wl : ME1} {r1 r2 r3 : MR2} (ho1 : QOp X b (compareOp o1) r1) (ho2 : QOp X b (compareOp o2) r2) (ho3 : QOp X b (compareOp o3) r3) (ha : QE X b a wa) (hc : QE X b c wc) (hg : QE X b g wg) (hl : QE X b l wl) (hm : lastMarks [o1, o2, o3] [c, g, l] = false) :
    QE X b (.Compare a [o1, o2, o3] [c, g, l] pos) (fun env S Q => wa env S fun x S1 => wc env S1 fun y S2 => r1 x y S2 fun z S3 => ∃ k, z = .bl k ∧ if k = true then (wg env S3 fun u S4 => r2 y u S4 fun z2 S5 => ∃ k2, z2 = .bl k2 ∧ if k2 = true then wl env S5 fun v S6 => r3 u v S6 Q else Q (.bl false) S5) else Q (.bl false) S3) := by
  refine ⟨fun pins s σ H F μ env S Q I at0 h => ?_⟩
  refine Compare_chain (thn (ha.run pins s σ H F μ env S _ I at0 h) fun v s1 ⟨x, H1, F1, μ1, d1, S1, I1, rv1, e1, w1, rr1, q1⟩ => chain_link (thn (hc.run pins s1 σ H1 F1 μ1 env S1 _ I1 (at0.step e1 w1) q1) fun u s2 ⟨y, H2, F2, μ2, d2, S2, I2, rv2, e2, w2, rr2, q2⟩ =>
    thn (ho1 pins s2 σ H2 F2 μ2 S2 x y v u d1 d2 _ I2 w2 rv1 rv2 (rr1.ext e2) rr2 q2) fun d s3 ⟨z, H3, F3, μ3, d3, S3, I3, rv3, e3, w3, rr3, k, ek, q3⟩ => ?_)) hm
  subst ek
  cases rr3
  cases rv3
  have e123 := (e1.trans e2).trans e3
  refine wpAny_truthy_bool ?_
  cases k with
  | false => exact ite_ff ⟨.bl false, H3, F3, μ3, .bl false, S3, I3, rfl, e123, w3, .bl _, by simpa using q3⟩
  | true =>
    have q3' := (if_pos (rfl : true = true)).mp q3
    refine ite_tt (chain_link (thn (hg.run pins s3 σ H3 F3 μ3 env S3 _ I3 (at0.step e123 w3) q3') fun w' s4 ⟨z', H4, F4, μ4, d4, S4, I4, rv4, e4, w4, rr4, q4⟩ =>
      thn (ho2 pins s4 σ H4 F4 μ4 S4 y z' u w' d2 d4 _ I4 w4 rv2 rv4 ((rr2.ext e3).ext e4) rr4 q4) fun dd s5 ⟨z5, H5, F5, μ5, d5, S5, I5, rv5, e5, w5, rr5, k5, ek5, q5⟩ => ?_))
    subst ek5
    cases rr5
    cases rv5
    have e5' := (e123.trans e4).trans e5
    refine wpAny_truthy_bool ?_
    cases k5 with
    | false => exact ite_ff ⟨.bl false, H5, F5, μ5, .bl false, S5, I5, rfl, e5', w5, .bl _, by simpa using q5⟩
    | true =>
      have q5' := (if_pos (rfl : true = true)).mp q5
      refine ite_tt (chain_last (thn (hl.run pins s5 σ H5 F5 μ5 env S5 _ I5 (at0.step e5' w5) q5') fun vv6 s6 ⟨z6, H6, F6, μ6, d6, S6, I6, rv6, e6, w6, rr6, q6⟩ => ?_))
      exact thn (ho3 pins s6 σ H6 F6 μ6 S6 z' z6 w' vv6 d4 d6 Q I6 w6 rv4 rv6 ((rr4.ext e5).ext e6) rr6 q6) fun _ _ z => post_mono (e5'.trans e6) z
theorem qt_ch3 {o1 o2 o3 : CmpOp} {a c g l : Expr} {wa wc wg wl : ME1} {r1 r2 r3 : MR2} (ho1 : QOp X b (compareOp o1) r1) (ho2 : QOp X b (compareOp o2) r2) (ho3 : QOp X b (compareOp o3) r3) (ha : QE X b a wa) (hc : QE X b c wc) (hg : QE X b g wg) (hl : QE X b l wl) (hm : lastMarks [o1, o2, o3] [c, g, l] = false) :
    QT X b (.Compare a [o1, o2, o3] [c, g, l] pos) (fun env S Q => wa env S fun x S1 => wc env S1 fun y S2 => r1 x y S2 fun z S3 => ∃ k, z = .bl k ∧ if k = true then (wg env S3 fun u S4 => r2 y u S4 fun z2 S5 => ∃ k2, z2 = .bl k2 ∧ if k2 = true then wl env S5 fun v S6 => r3 u v S6 Q else Q (.bl false) S5) else Q (.bl false) S3) := by
  refine ⟨fun pins s σ H F μ env S Q I at0 h hQ => ?_⟩
  refine isTrue_chain (thn (ha.run pins s σ H F μ env S _ I at0 h) fun v s1 ⟨x, H1, F1, μ1, d1, S1, I1, rv1, e1, w1, rr1, q1⟩ => test_link (thn (hc.run pins s1 σ H1 F1 μ1 env S1 _ I1 (at0.step e1 w1) q1) fun u s2 ⟨y, H2, F2, μ2, d2, S2, I2, rv2, e2, w2, rr2, q2⟩ =>
    thn (ho1 pins s2 σ H2 F2 μ2 S2 x y v u d1 d2 _ I2 w2 rv1 rv2 (rr1.ext e2) rr2 q2) fun d s3 ⟨z, H3, F3, μ3, d3, S3, I3, rv3, e3, w3, rr3, k, ek, q3⟩ => ?_)) hm
  subst ek
  cases rr3
  cases rv3
  have e123 := (e1.trans e2).trans e3
  refine wpAny_truthy_bool ?_
  cases k with
  | false => exact ite_ff ⟨H3, F3, μ3, .bl false, S3, I3, e123, w3, rfl, by simpa using q3⟩
  | true =>
    have q3' := (if_pos (rfl : true = true)).mp q3
    refine ite_tt (test_link (thn (hg.run pins s3 σ H3 F3 μ3 env S3 _ I3 (at0.step e123 w3) q3') fun w' s4 ⟨z', H4, F4, μ4, d4, S4, I4, rv4, e4, w4, rr4, q4⟩ =>
      thn (ho2 pins s4 σ H4 F4 μ4 S4 y z' u w' d2 d4 _ I4 w4 rv2 rv4 ((rr2.ext e3).ext e4) rr4 q4) fun dd s5 ⟨z5, H5, F5, μ5, d5, S5, I5, rv5, e5, w5, rr5, k5, ek5, q5⟩ => ?_))
    subst ek5
    cases rr5
    cases rv5
    have e5' := (e123.trans e4).trans e5
    refine wpAny_truthy_bool ?_
    cases k5 with
    | false => exact ite_ff ⟨H5, F5, μ5, .bl false, S5, I5, e5', w5, rfl, by simpa using q5⟩
    | true =>
      have q5' := (if_pos (rfl : true = true)).mp q5
      refine ite_tt (test_last (thn (hl.run pins s5 σ H5 F5 μ5 env S5 _ I5 (at0.step e5' w5) q5') fun vv6 s6 ⟨z6, H6, F6, μ6, d6, S6, I6, rv6, e6, w6, rr6, q6⟩ => ?_))
      refine thn (ho3 pins s6 σ H6 F6 μ6 S6 z' z6 w' vv6 d4 d6 Q I6 w6 rv4 rv6 ((rr4.ext e5).ext e6) rr6 q6) fun c7 s7 ⟨z7, H7, F7, μ7, d7, S7, I7, rv7, e7, w7, rr7, q7⟩ => ?_
      obtain ⟨k7, ek7⟩ := hQ d7 S7 q7
      exact thn (truthy_D I7 w7 rv7 rr7 ek7) fun c8 s8 ⟨ec, I8⟩ => ⟨H7, F7, μ7, d7, S7, I8, (e5'.trans e6).trans e7, w7, by rw [ec]; exact ek7, q7⟩
/-- is None, is not None -/
theorem isN_V {K : PySem.W.Frag} {fa : FA} {F : Hp} {μ : List Addr} {d : D} {x : V} (r : RD K fa F μ d x) (ng : Bool) : isN ng d = (if ng = true then !decide (x = .non) else decide (x = .non)) := by
  cases r <;> cases ng <;> simp [isN]
theorem qe_isnY {a : Expr} {wa : ME1} {j : Nat} {p' : Pos} (ha : QE X b a wa) : QE X b (.Compare a [.Is] [.Constant .none j p'] pos) (fun env S Q => wa env S fun x S1 => Q (.bl (isN false x)) S1) := by
  refine ⟨fun pins s σ H F μ env S Q I at0 h => ?_⟩
  refine wpAny_Compare1 (thn (ha.run pins s σ H F μ env S _ I at0 h) fun v s1 ⟨x, H1, F1, μ1, d1, S1, I1, rv1, e1, w1, r1, q1⟩ => ?_) (nomark _)
  have q1 : Q (.bl (isN false d1)) S1 := q1
  rw [isN_V r1 false] at q1
  exact Constant_none (thn (op_isN (X := X) pins s1 σ H1 x .non v _ (PostH X.K b F1 μ1 Q) I1 rv1 rfl ⟨rfl, postD w1 (.bl _) q1⟩) fun _ _ z => post_mono e1 (post_of z))
theorem qe_isnN {a : Expr} {wa : ME1} {j : Nat} {p' : Pos} (ha : QE X b a wa) : QE X b (.Compare a [.IsNot] [.Constant .none j p'] pos) (fun env S Q => wa env S fun x S1 => Q (.bl (isN true x)) S1) := by
  refine ⟨fun pins s σ H F μ env S Q I at0 h => ?_⟩
  refine wpAny_Compare1 (thn (ha.run pins s σ H F μ env S _ I at0 h) fun v s1 ⟨x, H1, F1, μ1, d1, S1, I1, rv1, e1, w1, r1, q1⟩ => ?_) (nomark _)
  have q1 : Q (.bl (isN true d1)) S1 := q1
  rw [isN_V r1 true] at q1
  exact Constant_none (thn (op_notN (X := X) pins s1 σ H1 x .non v _ (PostH X.K b F1 μ1 Q) I1 rv1 rfl ⟨rfl, postD w1 (.bl _) q1⟩) fun _ _ z => post_mono e1 (post_of z))
theorem qt_isnY {a : Expr} {wa : ME1} {j : Nat} {p' : Pos} (ha : QE X b a wa) : QT X b (.Compare a [.Is] [.Constant .none j p'] pos) (fun env S Q => wa env S fun x S1 => Q (.bl (isN false x)) S1) := by
  refine ⟨fun pins s σ H F μ env S Q I at0 h hQ => ?_⟩
  refine wpAny_isTrue_Compare1 (thn (ha.run pins s σ H F μ env S _ I at0 h) fun v s1 ⟨x, H1, F1, μ1, d1, S1, I1, rv1, e1, w1, r1, q1⟩ => ?_) (nomark _)
  have q1 : Q (.bl (isN false d1)) S1 := q1
  rw [isN_V r1 false] at q1
  refine Constant_none (thn (op_isN (X := X) pins s1 σ H1 x .non v _ (fun z H' => z = .bl (decide (x = .non)) ∧ H' = H1) I1 rv1 rfl ⟨rfl, rfl, rfl⟩) fun c s2 ⟨z, H2, I2, rz, ez, eH⟩ => ?_)
  subst ez eH
  cases rz
  exact wpAny_truthy_bool ⟨H2, F1, μ1, .bl (decide (x = .non)), S1, I2, e1, w1, rfl, q1⟩
theorem qt_isnN {a : Expr} {wa : ME1} {j : Nat} {p' : Pos} (ha : QE X b a wa) : QT X b (.Compare a [.IsNot] [.Constant .none j p'] pos) (fun env S Q => wa env S fun x S1 => Q (.bl (isN true x)) S1) := by
  refine ⟨fun pins s σ H F μ env S Q I at0 h hQ => ?_⟩
  refine wpAny_isTrue_Compare1 (thn (ha.run pins s σ H F μ env S _ I at0 h) fun v s1 ⟨x, H1, F1, μ1, d1, S1, I1, rv1, e1, w1, r1, q1⟩ => ?_) (nomark _)
  have q1 : Q (.bl (isN true d1)) S1 := q1
  rw [isN_V r1 true] at q1
  refine Constant_none (thn (op_notN (X := X) pins s1 σ H1 x .non v _ (fun z H' => z = .bl (!decide (x = .non)) ∧ H' = H1) I1 rv1 rfl ⟨rfl, rfl, rfl⟩) fun c s2 ⟨z, H2, I2, rz, ez, eH⟩ => ?_)
  subst ez eH
  cases rz
  exact wpAny_truthy_bool ⟨H2, F1, μ1, .bl (!decide (x = .non)), S1, I2, e1, w1, rfl, q1⟩
/-- a if t else c -/
theorem qe_ite {t a c : Expr} {wt wa wc : ME1} (ht : QT X b t wt) (ha : QE X b a wa) (hc : QE X b c wc) :
    QE X b (.IfExp t a c pos) (fun env S Q => wt env S fun x S1 => tst S1 x fun k => if k = true then wa env S1 Q else wc env S1 Q) := by
  refine ⟨fun pins s σ H F μ env S Q I at0 h => ?_⟩
  refine wpAny_IfExp (thn (ht.run pins s σ H F μ env S _ I at0 h fun d S' h => tst_tru h) fun c s1 ⟨H1, F1, μ1, d1, S1, I1, e1, w1, t1, q1⟩ => ?_)
  have q2 := tst_at q1 t1
  cases c with
  | true => exact thn (ha.run pins s1 σ H1 F1 μ1 env S1 Q I1 (at0.step e1 w1) (by simpa using q2)) fun _ _ z => post_mono e1 z
  | false => exact thn (hc.run pins s1 σ H1 F1 μ1 env S1 Q I1 (at0.step e1 w1) (by simpa using q2)) fun _ _ z => post_mono e1 z
theorem isTrue_ite {t a c : Expr} {env : Env} {whole : Sem Value} : PySem.isTrue (.IfExp t a c pos) env whole = (do if ← PySem.isTrue t env (eval t env) then PySem.isTrue a env (eval a env) else PySem.isTrue c env (eval c env)) := by
  rw [PySem.isTrue]
theorem qt_ite {t a c : Expr} {wt wa wc : ME1} (ht : QT X b t wt) (ha : QT X b a wa) (hc : QT X b c wc) :
    QT X b (.IfExp t a c pos) (fun env S Q => wt env S fun x S1 => tst S1 x fun k => if k = true then wa env S1 Q else wc env S1 Q) := by
  refine ⟨fun pins s σ H F μ env S Q I at0 h hQ => ?_⟩
  rw [isTrue_ite]
  refine wpAny_bind (thn (ht.run pins s σ H F μ env S _ I at0 h fun d S' h => tst_tru h) fun c s1 ⟨H1, F1, μ1, d1, S1, I1, e1, w1, t1, q1⟩ => ?_)
  have q2 := tst_at q1 t1
  cases c with
  | true => exact thn (ha.run pins s1 σ H1 F1 μ1 env S1 Q I1 (at0.step e1 w1) (by simpa using q2) hQ) fun _ _ z => postT_mono e1 z
  | false => exact thn (hc.run pins s1 σ H1 F1 μ1 env S1 Q I1 (at0.step e1 w1) (by simpa using q2) hQ) fun _ _ z => postT_mono e1 z
end
end Mp

set_option Elab.async false
set_option linter.all false
set_option maxRecDepth 100000
set_option maxHeartbeats 1000000
/-! M, part 6: displays, built-ins, subscripts, slices. -/
namespace Mp
open PySem PySem.Spec PyProof.Rows L2

mutual
theorem toP_inj : ∀ (d e : D), d.pur = true → e.pur = true → d.toP = e.toP → d = e
  | .non, e, _, p, h => by cases e <;> simp [D.toP, D.pur] at h p ⊢
  | .bl c, e, _, p, h => by cases e <;> simp [D.toP, D.pur] at h p ⊢; exact h
  | .int i, e, _, p, h => by cases e <;> simp [D.toP, D.pur] at h p ⊢; exact h
  | .str x, e, _, p, h => by cases e <;> simp [D.toP, D.pur] at h p ⊢; exact h
  | .tup xs, e, p1, p, h => by
    cases e with
    | tup ys =>
      rw [D.toP, D.toP] at h
      rw [D.pur] at p1 p
      rw [toPs_inj xs ys p1 p (PyData.tuple.inj h)]
    | _ => simp [D.toP, D.pur] at h p
  | .lst xs, e, p1, p, h => by
    cases e with
    | lst ys =>
      rw [D.toP, D.toP] at h
      rw [D.pur] at p1 p
      rw [toPs_inj xs ys p1 p (PyData.list.inj h)]
    | _ => simp [D.toP, D.pur] at h p
  | .ref n, e, p, _, _ => by simp [D.pur] at p
  | .fn n, e, p, _, _ => by simp [D.pur] at p
  | .scr n, e, p, _, _ => by simp [D.pur] at p
theorem toPs_inj : ∀ (ds es : List D), purs ds = true → purs es = true → toPs ds = toPs es → ds = es
  | [], [], _, _, _ => rfl
  | [], _ :: _, _, _, h => by simp [toPs] at h
  | _ :: _, [], _, _, h => by simp [toPs] at h
  | d :: ds, e :: es, p, q, h => by
    rw [toPs, toPs] at h
    rw [purs, Bool.and_eq_true] at p q
    have h1 := (List.cons.inj h).1
    have h2 := (List.cons.inj h).2
    rw [toP_inj d e p.1 q.1 h1, toPs_inj ds es p.2 q.2 h2]
end

section
variable {X : Cx} {b : MB} {pos : Pos}
/-! ### displays -/
theorem qe_tup {es : List Expr} {w : MA} {k : Nat} (h : QA X b es w) : QE X b (.Tuple es k pos) (fun env S Q => w env S fun xs S1 => xs.length ≤ sizeLine ∧ Q (.tup xs) S1) :=
  QE.of (pe_tup h.pa) fun F μ env S Q σ H a hw => ⟨F, μ, env, S, _, a, hw, fun vs H' ⟨F1, μ1, ds, S1, e1, w1, r1, hz, q1⟩ => ⟨by rw [← r1.length]; exact hz, fun p hp => postH_mono e1 (postTup w1 r1 q1 hp)⟩⟩
theorem qe_lst {es : List Expr} {w : MA} (m : Bool) (h : QA X b es w) : QE X b (.List es pos) (fun env S Q => w env S fun xs S1 => xs.length ≤ sizeLine ∧ mkL m xs S1 Q) :=
  QE.of (pe_lst h.pa) fun F μ env S Q σ H a hw => ⟨F, μ, env, S, _, a, hw, fun vs H' ⟨F1, μ1, ds, S1, e1, w1, r1, hz, q1⟩ => ⟨by rw [← r1.length]; exact hz, fun p hp => postH_mono e1 (postLst w1 r1 q1 hp)⟩⟩

/-! ### built-ins -/
/-- a call by values: what is asked of the trees -/
def QC (X : Cx) (b : MB) (f : Value) (r : List D → Store → MK → Prop) : Prop :=
  ∀ (pins : List (Addr × Obj)) (s : Shared) (σ : L2.St) (H F : Hp) (μ : List Addr) (S : Store) (vs : List V) (us : List Value) (ds : List D) (Q : MK), Inv X pins σ H s → WI X.K b.fa F b.L μ S H → Vals vs us →
    RDs X.K b.fa F μ ds vs → r ds S Q → wpAny (model X.prog X.w) X.A (call f us) (Post X b pins σ F μ Q) X.xe s
theorem QC.of {f : Value} {r : List D → Store → MK → Prop} {rV : List V → Hp → VK → Prop} (h : CallR X f rV)
    (k : ∀ H F μ S vs ds Q, WI X.K b.fa F b.L μ S H → RDs X.K b.fa F μ ds vs → r ds S Q → rV vs H (PostH X.K b F μ Q)) : QC X b f r :=
  fun pins s σ H F μ S vs us ds Q I w rv rd q => thn (h pins s σ H vs us _ I rv (k H F μ S vs ds Q w rd q)) fun _ _ z => post_of z
theorem star_all {es : List Expr} (h : ∀ e ∈ es, NoStar e) (p : Pos) (env : Env) : (backTo p (starEach es env)).any (·.1) = false := by
  induction es with
  | nil => rfl
  | cons e es ih =>
    rw [star_cons (h e List.mem_cons_self)]
    show (false || (backTo p (starEach es env)).any (·.1)) = false
    rw [ih fun x hx => h x (List.mem_cons_of_mem _ hx)]; rfl
theorem qe_callB {x : Str} {id : String} {p : Pos} {e : Expr} {es : List Expr} {w : MA} {r : List D → Store → MK → Prop} (hc : QC X b (.builtin id) r) (hg : Gl X x) (hm : X.mg x = none) (hv : bootBuiltins x = some (.builtin id)) (ha : QA X b (e :: es) w) (hn : x ≠ "__name__") (hdb : (x == ("__debug__" : Str)) = false)
    (hs : ∀ y ∈ e :: es, NoStar y) : QE X b (.Call (.Name x p) (e :: es) [] pos) (fun env S Q => w env S fun xs S1 => r xs S1 Q) := by
  refine ⟨fun pins s σ H F μ env S Q I a hw => ?_⟩
  refine wpAny_Call_Name_kw (ld_blt I hg hm hv ?_ hn hdb)
  refine PyProof.Rows.callWith_builtin1 (thn (ha.pa.run pos pins s σ H (PostAH X.K b F μ _) I ⟨F, μ, env, S, _, a, hw, fun _ _ z => z⟩) fun us s1 ⟨vs, H1, I1, r1, F1, μ1, ds, S1, e1, w1, rd1, q1⟩ => ?_) (star_cons (hs e List.mem_cons_self) es X.env) (star_all (fun y hy => hs y (List.mem_cons_of_mem _ hy)) _ _)
  exact thn (hc pins s1 σ H1 F1 μ1 S1 vs us ds Q I1 w1 r1 rd1 q1) fun _ _ z => post_mono e1 z
theorem qe_callT {x : Str} {T : String} {p : Pos} {e : Expr} {es : List Expr} {w : MA} {r : List D → Store → MK → Prop} (hc : QC X b (.type T) r) (hg : Gl X x) (hm : X.mg x = none) (hv : bootBuiltins x = some (.type T)) (ha : QA X b (e :: es) w) (hn : x ≠ "__name__") (hdb : (x == ("__debug__" : Str)) = false)
    (hs : ∀ y ∈ e :: es, NoStar y) : QE X b (.Call (.Name x p) (e :: es) [] pos) (fun env S Q => w env S fun xs S1 => r xs S1 Q) := by
  refine ⟨fun pins s σ H F μ env S Q I a hw => ?_⟩
  refine wpAny_Call_Name_kw (ld_blt I hg hm hv ?_ hn hdb)
  refine PyProof.Rows.callWith_type1 (thn (ha.pa.run pos pins s σ H (PostAH X.K b F μ _) I ⟨F, μ, env, S, _, a, hw, fun _ _ z => z⟩) fun us s1 ⟨vs, H1, I1, r1, F1, μ1, ds, S1, e1, w1, rd1, q1⟩ => ?_) (star_cons (hs e List.mem_cons_self) es X.env) (star_all (fun y hy => hs y (List.mem_cons_of_mem _ hy)) _ _)
  exact thn (hc pins s1 σ H1 F1 μ1 S1 vs us ds Q I1 w1 r1 rd1 q1) fun _ _ z => post_mono e1 z

theorem items_at {K : PySem.W.Frag} {fa : FA} {F L H : Hp} {μ : List Addr} {S : Store} (w : WI K fa F L μ S H) {d : D} {x : V} (r : RD K fa F μ d x) {xs : List D} (e : items S d = some xs) :
    ∃ a vs, x = .ref a ∧ (SqL K H a vs ∨ SqT K H a vs) ∧ RDs K fa F μ xs vs := by
  cases r with
  | tup h hs => cases e; exact ⟨_, _, rfl, .inr (SqT.of (w.fz _ _ h)), hs⟩
  | lst h hs => obtain ⟨a, vs, e1, e2, e3⟩ := seqL_at w (.lst h hs) e; exact ⟨a, vs, e1, .inl (SqL.of e2), e3⟩
  | ref h => obtain ⟨a, vs, e1, e2, e3⟩ := seqL_at w (.ref h) e; exact ⟨a, vs, e1, .inl (SqL.of e2), e3⟩
  | _ => cases e
theorem one_of {ds : List D} {vs : List V} {K : PySem.W.Frag} {fa : FA} {F : Hp} {μ : List Addr} {d : D} (h : RDs K fa F μ [d] vs) : ∃ v, vs = [v] ∧ RD K fa F μ d v := by
  cases h with
  | cons h hs => cases hs; exact ⟨_, rfl, h⟩
theorem two_of {vs : List V} {K : PySem.W.Frag} {fa : FA} {F : Hp} {μ : List Addr} {d e : D} (h : RDs K fa F μ [d, e] vs) : ∃ v u, vs = [v, u] ∧ RD K fa F μ d v ∧ RD K fa F μ e u := by
  cases h with
  | cons h hs => cases hs with
    | cons h' hs' => cases hs'; exact ⟨_, _, rfl, h, h'⟩
theorem callr_or {f : Value} {r r' : List V → Hp → VK → Prop} (h : CallR X f r) (h' : CallR X f r') : CallR X f fun xs H Q => r xs H Q ∨ r' xs H Q :=
  fun pins s σ H xs us Q I rx q => by
    rcases q with q | q
    · exact h pins s σ H xs us Q I rx q
    · exact h' pins s σ H xs us Q I rx q
/-- len of a dict, walked or not -/
theorem call_lenK : CallR X (.builtin "len") (fun xs H Q => ∃ a kvs, xs = [V.ref a] ∧ Rd H a (.dK kvs) ∧ Q (.int kvs.length) H) := by
  intro pins s σ H xs us Q I r h
  obtain ⟨a, kvs, rfl, ha, q⟩ := h
  obtain ⟨u, rfl, ru⟩ := vals1 r
  cases ru
  exact d_len I ha fun t s' I' => ⟨.int kvs.length, H, I', ⟨t, rfl⟩, q⟩
theorem call_lenT : CallR X (.builtin "len") (fun xs H Q => ∃ a kvs, xs = [V.ref a] ∧ Rd H a (.dT kvs) ∧ Q (.int kvs.length) H) := by
  intro pins s σ H xs us Q I r h
  obtain ⟨p, kvs, rfl, hp, q⟩ := h
  obtain ⟨u, rfl, rx⟩ := vals1 r
  obtain rfl : u = .ref p := rx
  obtain ⟨z, hd, ys, rel, dd⟩ := dt_rd I.hok hp
  have hl : kvs.length = ys.length := Paired.length rel
  refine call_len_dictH hd dd (by rw [← hl]; rw [sizeLine_eq] at z; omega) ?_
  rw [← hl]
  exact ⟨.int ((kvs.length : Nat) : Int), H, I.tok _, ⟨_, rfl⟩, q⟩
theorem paired_len {α β : Type} {R : α → β → Prop} : ∀ {xs : List α} {ys : List β}, Paired R xs ys → xs.length = ys.length
  | _, _, .nil => rfl
  | _, _, .cons _ h => by rw [List.length_cons, List.length_cons, paired_len h]
/-- a dict of the store -/
theorem dct_at {K : PySem.W.Frag} {fa : FA} {F L H : Hp} {μ : List Addr} {S : Store} (w : WI K fa F L μ S H) {n : Nat} {a : Addr} (h : μ[n]? = some a) {t : Bool} {z : Option HO} {kvs : List (List L2.Key × D)} (ho : S[n]? = some (.dct t z kvs)) :
    (∀ p ∈ kvs, ∀ k ∈ p.1, okKey k) ∧ ∃ u0, dVal K fa F μ t kvs u0 ∧ Rd H a u0 ∧ (z = none → H a = some u0) ∧ ∀ u, z = some u → H a = some u ∧ ∃ od, u = .frz od u0 := by
  obtain ⟨u, hu, ok, u0, dv, r⟩ := w.st n _ a ho h
  refine ⟨ok, u0, dv, ?_, ?_, ?_⟩
  · rcases r with ⟨_, rfl⟩ | ⟨od, _, rfl⟩
    · exact .inl hu
    · exact .inr ⟨od, hu⟩
  · intro e
    rcases r with ⟨_, rfl⟩ | ⟨od, e2, rfl⟩
    · exact hu
    · rw [e] at e2; cases e2
  · intro v e
    rcases r with ⟨e2, rfl⟩ | ⟨od, e2, rfl⟩
    · rw [e] at e2; cases e2
    · rw [e] at e2; cases e2; exact ⟨hu, od, rfl⟩
theorem qc_len : QC X b (.builtin "len") fLen := QC.of (callr_or call_len (callr_or call_lenK call_lenT)) fun H F μ S vs ds Q w rd q => by
  unfold fLen at q
  split at q
  · rename_i x
    obtain ⟨n, e, q⟩ := q
    obtain ⟨v, rfl, r⟩ := one_of (ds := []) rd
    cases r with
    | str h => cases e; exact .inl ⟨_, _, rfl, ⟨h.1, rfl⟩, postD w (.int _) q⟩
    | scr h => cases e; exact .inl ⟨_, _, rfl, .inl ⟨_, SqL.ext w.fz h, by rw [List.length_map]⟩, postD w (.int _) q⟩
    | tup h hs => cases e; exact .inl ⟨_, _, rfl, .inr ⟨_, SqT.of (w.fz _ _ h), hs.length⟩, postD w (.int _) q⟩
    | lst h hs => cases e; exact .inl ⟨_, _, rfl, .inl ⟨_, SqL.of (w.fz _ _ h), hs.length⟩, postD w (.int _) q⟩
    | @ref n a h =>
      obtain ⟨o, ho⟩ := w.at h
      cases o with
      | lst ys =>
        simp only [lenD, ho, Option.some.injEq] at e
        obtain ⟨u, hu, vs, rfl, hs⟩ := w.st n _ a ho h
        exact .inl ⟨_, _, rfl, .inl ⟨_, SqL.of hu, by rw [← e, hs.length]⟩, postD w (.int _) q⟩
      | dct t z kvs =>
        simp only [lenD, ho, Option.some.injEq] at e
        subst e
        obtain ⟨_, u0, dv, hr, _⟩ := dct_at w h ho
        cases t with
        | true =>
          obtain ⟨vs, rfl, pr⟩ := dv
          exact .inr (.inr ⟨a, vs, rfl, hr, by rw [← paired_len pr]; exact postD w (.int _) q⟩)
        | false =>
          obtain ⟨vs, rfl, pr⟩ := dv
          exact .inr (.inl ⟨a, vs, rfl, hr, by rw [← paired_len pr]; exact postD w (.int _) q⟩)
    | _ => cases e
  · exact q.elim
theorem qc_abs : QC X b (.builtin "abs") fAbs := QC.of call_abs fun H F μ S vs ds Q w rd q => by
  unfold fAbs at q
  split at q
  · obtain ⟨v, rfl, r⟩ := one_of (ds := []) rd
    cases r
    exact ⟨_, rfl, postD w (.int _) q⟩
  · exact q.elim
theorem qc_max2 (hc : X.calm = true) : QC X b (.builtin "max") fMax2 := QC.of (call_max2 hc) fun H F μ S vs ds Q w rd q => by
  unfold fMax2 at q
  split at q
  · rename_i i j
    obtain ⟨v, u, rfl, r1, r2⟩ := two_of rd
    cases r1; cases r2
    refine ⟨i, j, rfl, ?_⟩
    have e : max i j = if j > i then j else i := by split <;> omega
    rw [e] at q
    exact postD w (.int _) q
  · exact q.elim
def fMin2I (as : List D) (S : Store) (Q : MK) : Prop := match as with
  | [.int i, .int j] => Q (.int (min i j)) S
  | _ => False
theorem qc_min2I (hc : X.calm = true) : QC X b (.builtin "min") fMin2I := QC.of (call_min2 hc) fun H F μ S vs ds Q w rd q => by
  unfold fMin2I at q
  split at q
  · rename_i i j
    obtain ⟨v, u, rfl, r1, r2⟩ := two_of rd
    cases r1; cases r2
    refine ⟨i, j, rfl, ?_⟩
    have e : min i j = if j < i then j else i := by split <;> omega
    rw [e] at q
    exact postD w (.int _) q
  · exact q.elim
/-! max, min of a row -/
theorem foldMax : ∀ (xs : List D) (x : D), (xs.map D.toP).foldl (fun a y => if PySem.W.dataLt a y = true then y else a) x.toP = (maxD x xs).toP
  | [], x => rfl
  | y :: ys, x => by
    show (ys.map D.toP).foldl _ (if PySem.W.dataLt x.toP y.toP = true then y.toP else x.toP) = (ys.foldl _ (if D.lt x y = true then y else x)).toP
    have e : (if PySem.W.dataLt x.toP y.toP = true then y.toP else x.toP) = (if D.lt x y = true then y else x).toP := by
      show _ = (if PySem.W.dataLt x.toP y.toP = true then y else x).toP
      split <;> rfl
    rw [e]
    exact foldMax ys _
theorem foldMin : ∀ (xs : List D) (x : D), (xs.map D.toP).foldl (fun a y => if PySem.W.dataLt y a = true then y else a) x.toP = (minD x xs).toP
  | [], x => rfl
  | y :: ys, x => by
    show (ys.map D.toP).foldl _ (if PySem.W.dataLt y.toP x.toP = true then y.toP else x.toP) = (ys.foldl _ (if D.lt y x = true then y else x)).toP
    have e : (if PySem.W.dataLt y.toP x.toP = true then y.toP else x.toP) = (if D.lt y x = true then y else x).toP := by
      show _ = (if PySem.W.dataLt y.toP x.toP = true then y else x).toP
      split <;> rfl
    rw [e]
    exact foldMin ys _
theorem maxD_mem : ∀ (xs : List D) (x : D), maxD x xs ∈ x :: xs
  | [], x => List.mem_cons_self
  | y :: ys, x => by
    show (ys.foldl _ (if D.lt x y = true then y else x)) ∈ _
    have h := maxD_mem ys (if D.lt x y = true then y else x)
    have h' : (ys.foldl (fun a y => if D.lt a y = true then y else a) (if D.lt x y = true then y else x)) ∈ (if D.lt x y = true then y else x) :: ys := h
    rcases List.mem_cons.mp h' with z | z
    · rw [z]; split
      · exact List.mem_cons_of_mem _ List.mem_cons_self
      · exact List.mem_cons_self
    · exact List.mem_cons_of_mem _ (List.mem_cons_of_mem _ z)
theorem minD_mem : ∀ (xs : List D) (x : D), minD x xs ∈ x :: xs
  | [], x => List.mem_cons_self
  | y :: ys, x => by
    show (ys.foldl _ (if D.lt y x = true then y else x)) ∈ _
    have h := minD_mem ys (if D.lt y x = true then y else x)
    have h' : (ys.foldl (fun a y => if D.lt y a = true then y else a) (if D.lt y x = true then y else x)) ∈ (if D.lt y x = true then y else x) :: ys := h
    rcases List.mem_cons.mp h' with z | z
    · rw [z]; split
      · exact List.mem_cons_of_mem _ List.mem_cons_self
      · exact List.mem_cons_self
    · exact List.mem_cons_of_mem _ (List.mem_cons_of_mem _ z)
theorem depthAll_le : ∀ {xs : List PyData} {n : Nat}, (∀ x ∈ xs, x.depth ≤ n) → PyData.depthAll xs ≤ n
  | [], n, _ => Nat.zero_le _
  | x :: xs, n, h => Nat.max_le.mpr ⟨h x List.mem_cons_self, depthAll_le fun y hy => h y (List.mem_cons_of_mem _ hy)⟩
theorem alikeAll_of {xs : List D} (o : okA xs) : PySem.W.AlikeAll (xs.map D.toP) := by
  refine ⟨fun x hx y hy => ?_, fun x hx => ?_⟩
  · obtain ⟨d, hd, rfl⟩ := List.mem_map.mp hx
    obtain ⟨e, he, rfl⟩ := List.mem_map.mp hy
    exact o.2 d hd e he
  · obtain ⟨d, hd, rfl⟩ := List.mem_map.mp hx
    exact (o.1 d hd).2
theorem purs_of {xs : List D} (o : okA xs) : purs xs = true := by rw [purs_all]; exact List.all_eq_true.mpr fun x hx => (o.1 x hx).1.1
/-- the item found is the very tree -/
theorem found_D {K : PySem.W.Frag} {fa : FA} {F H L : Hp} {μ : List Addr} {S : Store} {X : Cx} {pins : List (Addr × Obj)} {σ : L2.St} {s : Shared} (hK : X.K = K) (I : Inv X pins σ H s) (w : WI K fa F L μ S H) {xs : List D} {vs : List V} {its : List Value} (r : RDs K fa F μ xs vs) (rv : Vals vs its) (o : okA xs) {i : Nat} {v : Value}
    (hi : its[i]? = some v) {z : D} (hz : z ∈ xs) {h' : Heap} {bs : List Addr} (hr : Reads h' v z.toP bs) (hk : ∀ b o, s.heap.get? b = some o → h'.get? b = some o) : ∃ x, vs[i]? = some x ∧ RelV x v ∧ RD K fa F μ z x := by
  subst hK
  have hl : i < vs.length := by rw [rv.length]; exact (List.getElem?_eq_some_iff.mp hi).1
  have hx : vs[i]? = some vs[i] := List.getElem?_eq_getElem hl
  obtain ⟨u, hu, ru⟩ := rv.get hx
  rw [hi] at hu; cases hu
  obtain ⟨d, hd, rd⟩ := r.getV hx
  have hdm : d ∈ xs := List.mem_of_getElem? hd
  obtain ⟨as, r1⟩ := Dp.reads I d.toP vs[i] v (RD.dp w.fz rd (o.1 d hdm).1.1) ru
  have e := PySem.W.alike_unique d.toP z.toP v as bs (o.2 d hdm z hz) (PySem.W.reads_keeps hk r1) hr
  have e2 := toP_inj d z (o.1 d hdm).1.1 (o.1 z hz).1.1 e
  subst e2
  exact ⟨vs[i], hx, ru, rd⟩
theorem room_all' {u n : Nat} (h : u + 65 < cLine) (hn : n ≤ 64) : u + 1 + n < cLine := by omega
theorem qc_max1 (hc : X.calm = true) (hu : X.A.units + 65 < cLine) : QC X b (.builtin "max") fMax1 := by
  intro pins s σ H F μ S vs us ds Q I w rv rd q
  unfold fMax1 at q
  split at q
  · rename_i x
    obtain ⟨y, ys, e, o, q⟩ := q
    obtain ⟨v, rfl, r⟩ := one_of (ds := []) rd
    obtain ⟨a, ws, rfl, hs, hr⟩ := items_at w r e
    obtain ⟨u, rfl, ru⟩ := vals1 rv
    cases ru
    have hd : PyData.depthAll ((y :: ys).map D.toP) ≤ 64 := depthAll_le fun z hz => by
      obtain ⟨d, hd, rfl⟩ := List.mem_map.mp hz
      exact (o.1 d hd).1.2
    have fin : ∀ (its : List Value), Vals ws its → ∀ (i : Nat) v h' tk bs, its.toArray[i]? = some v → Reads h' v (PySem.W.maxD y.toP (ys.map D.toP)) bs → (∀ b o, s.heap.get? b = some o → h'.get? b = some o) → Post X b pins σ F μ Q v { s with heap := h', toks := tk } := by
      intro its rv2 i v h' tk bs hi hrd hk
      have e1 : PySem.W.maxD y.toP (ys.map D.toP) = (maxD y ys).toP := foldMax ys y
      rw [e1] at hrd
      obtain ⟨x2, hx2, rx2, rdx⟩ := found_D rfl I w hr rv2 o (by simpa using hi) (maxD_mem ys y) hrd hk
      exact ⟨x2, H, F, μ, maxD y ys, S, I.kept hk, rx2, .refl, w, rdx, q⟩
    have hda := RDs.dp w.fz hr (purs_of o)
    rw [toPs_map] at hda
    have al := alikeAll_of o
    rcases hs with hs | hs
    · obtain ⟨its, rv2, pl, _⟩ := I.list hs
      obtain ⟨as, hra⟩ := Dp.readsAll I _ ws its hda rv2
      exact PySem.W.max_list_data (I.ok.hd hc) pl.isList (by simpa using hra) al (room_all' hu hd) (fin its rv2)
    · obtain ⟨its, rv2, pl, _⟩ := I.tuple hs
      obtain ⟨as, hra⟩ := Dp.readsAll I _ ws its hda rv2
      exact PySem.W.max_tuple_data (I.ok.hd hc) (show s.heap.IsTuple a its.toArray from pl) (by simpa using hra) al (room_all' hu hd) (fin its rv2)
  · exact q.elim
theorem qc_min1 (hc : X.calm = true) (hu : X.A.units + 65 < cLine) : QC X b (.builtin "min") fMin1 := by
  intro pins s σ H F μ S vs us ds Q I w rv rd q
  unfold fMin1 at q
  split at q
  · rename_i x
    obtain ⟨y, ys, e, o, q⟩ := q
    obtain ⟨v, rfl, r⟩ := one_of (ds := []) rd
    obtain ⟨a, ws, rfl, hs, hr⟩ := items_at w r e
    obtain ⟨u, rfl, ru⟩ := vals1 rv
    cases ru
    have hd : PyData.depthAll ((y :: ys).map D.toP) ≤ 64 := depthAll_le fun z hz => by
      obtain ⟨d, hd, rfl⟩ := List.mem_map.mp hz
      exact (o.1 d hd).1.2
    have fin : ∀ (its : List Value), Vals ws its → ∀ (i : Nat) v h' tk bs, its.toArray[i]? = some v → Reads h' v (PySem.W.minD y.toP (ys.map D.toP)) bs → (∀ b o, s.heap.get? b = some o → h'.get? b = some o) → Post X b pins σ F μ Q v { s with heap := h', toks := tk } := by
      intro its rv2 i v h' tk bs hi hrd hk
      have e1 : PySem.W.minD y.toP (ys.map D.toP) = (minD y ys).toP := foldMin ys y
      rw [e1] at hrd
      obtain ⟨x2, hx2, rx2, rdx⟩ := found_D rfl I w hr rv2 o (by simpa using hi) (minD_mem ys y) hrd hk
      exact ⟨x2, H, F, μ, minD y ys, S, I.kept hk, rx2, .refl, w, rdx, q⟩
    have hda := RDs.dp w.fz hr (purs_of o)
    rw [toPs_map] at hda
    have al := alikeAll_of o
    rcases hs with hs | hs
    · obtain ⟨its, rv2, pl, _⟩ := I.list hs
      obtain ⟨as, hra⟩ := Dp.readsAll I _ ws its hda rv2
      exact PySem.W.min_list_data (I.ok.hd hc) pl.isList (by simpa using hra) al (room_all' hu hd) (fin its rv2)
    · obtain ⟨its, rv2, pl, _⟩ := I.tuple hs
      obtain ⟨as, hra⟩ := Dp.readsAll I _ ws its hda rv2
      exact PySem.W.min_tuple_data (I.ok.hd hc) (show s.heap.IsTuple a its.toArray from pl) (by simpa using hra) al (room_all' hu hd) (fin its rv2)
  · exact q.elim
end
end Mp

set_option Elab.async false
set_option linter.all false
set_option maxRecDepth 100000
set_option maxHeartbeats 2000000
/-! M, part 6b: min of two data. -/
namespace Mp
open PySem PySem.Spec PyProof.Rows L2
section
variable {prog : Program} {w : World} {A : Around} {E : Value → Shared → Prop} {s : Shared}
theorem min_two_data {a c : Value} {x y : PyData} {as : List Addr} {Q : Value → Shared → Prop} (hh : A.handled = none) (hr : ReadsAll s.heap [a, c] [x, y] as) (ha : PySem.W.AlikeAll [x, y]) (hu : A.units + 1 + PyData.depthAll [x, y] < cLine)
    (h : ∀ v h' tk, v = a ∨ v = c → (∀ b o, s.heap.get? b = some o → h'.get? b = some o) → Q v { s with heap := h', toks := tk }) :
    wpAny (model prog w) A (call (.builtin "min") [a, c]) Q E s := by
  have hname : (toString "min" ++ toString ".loop" : String) = "min.loop" := by decide
  refine call_function_tree F.kind_min F.plain_min F.entry_min (F.args_min2 _ _) ?_
  show wpAny _ A.in1 (Builtin.Builtins.bindParams "min" ["key", "default"] 0 ⟨[], []⟩ >>= _) _ _ s
  refine wpAny_bind (wpAny_of_eq (show Builtin.Builtins.bindParams "min" ["key", "default"] 0 ⟨[], []⟩ = pure [none, none] from rfl) ?_)
  show wpAny _ A.in1 (newTuple [a, c] >>= _) _ _ s
  refine wpAny_bind (wpAny_newObj_type ?_)
  have hT : (s.heap.push { cls := .type "tuple", data := .seq #[a, c] }).IsTuple s.heap.objs.size #[a, c] := ⟨_, Heap.get?_push_size _ rfl, rfl, 0, rfl⟩
  have hr1 : ReadsAll (s.heap.push { cls := .type "tuple", data := .seq #[a, c] }) (#[a, c] : Array Value).toList [x, y] as := ReadsAll.keeps (fun b o e => Heap.get?_push_of_some _ e) hr
  refine wpAny_bind (PySem.W.iter_tupleW (A := A.in1) hh hT fun s₂ e W st hfp hw hk => ?_)
  refine wpAny_bind (wpAny_newObj_type ?_)
  have hSf := fun hm => Nat.lt_irrefl _ (hfp s₂.heap.objs.size hm)
  have hcmp := PySem.W.cmpIn_lt (prog := prog) (w := w) (A := A.in1) (s := { s with heap := s.heap.push { cls := .type "tuple", data := .seq #[a, c] } }) hr1 ha (by show A.units + 1 + _ < _; exact hu)
  rw [hname]
  refine wpAny_pure ⟨plainId_quiet F.plain_min_loop _, codeAny_min_loop_firstH W _ hw _ hcmp s₂.heap.objs.size hSf (fresh_in hk) _ (by show 0 < 2; decide) (fun b o e => Heap.get?_push_of_some _ (hk b o e)) (W.frame 0 s₂ _ s₂.toks st (Nat.le_refl _) fun b _ o e => Heap.get?_push_of_some _ e) (Heap.get?_push_size _ rfl) fun v s' hP hm => ?_⟩
  have hm := Moved.drop_new (tk := s₂.toks) hm (Nat.le_refl _)
  obtain ⟨h', tk, rfl, hk'⟩ := PySem.W.moved_old (s := { s with heap := s.heap.push { cls := .type "tuple", data := .seq #[a, c] } }) e rfl hm
  refine h v h' tk ?_ fun b o e => hk' b o (Heap.get?_push_of_some _ e)
  have hP : (#[a, c] : Array Value)[_]? = some v := hP
  have := Array.mem_of_getElem? hP
  simpa using this
end
section
variable {X : Cx} {b : MB}
theorem qc_min2 (hc : X.calm = true) (hu : X.A.units + 65 < cLine) : QC X b (.builtin "min") fMin2 := by
  intro pins s σ H F μ S vs us ds Q I w rv rd q
  unfold fMin2 at q
  split at q
  · exact qc_min2I hc pins s σ H F μ S vs us _ Q I w rv rd q
  · rename_i xs ys
    obtain ⟨o, q1, q2⟩ := q
    obtain ⟨v, u, rfl, r1, r2⟩ := two_of rd
    obtain ⟨v', u', rfl, rv1, rv2⟩ := vals2 rv
    have hd : PyData.depthAll ([D.tup xs, D.tup ys].map D.toP) ≤ 64 := depthAll_le fun z hz => by
      obtain ⟨d, hd, rfl⟩ := List.mem_map.mp hz
      exact (o.1 d hd).1.2
    have hda := RDs.dp w.fz rd (purs_of o)
    rw [toPs_map] at hda
    obtain ⟨as, hra⟩ := Dp.readsAll I _ [v, u] [v', u'] hda (.cons rv1 (.cons rv2 .nil))
    refine min_two_data (I.ok.hd hc) hra (alikeAll_of o) (room_all' hu hd) fun z h' tk hz hk => ?_
    rcases hz with rfl | rfl
    · exact ⟨v, H, F, μ, _, S, I.kept hk, rv1, .refl, w, r1, q1⟩
    · exact ⟨u, H, F, μ, _, S, I.kept hk, rv2, .refl, w, r2, q2⟩
  · exact q.elim
end
end Mp

set_option Elab.async false
set_option linter.all false
set_option maxRecDepth 100000
set_option maxHeartbeats 1000000
/-! M, part 7: more built-ins, subscripts, slices, methods. -/
namespace Mp
open PySem PySem.Spec PyProof.Rows L2
section
variable {X : Cx} {b : MB} {pos : Pos}
/-! ### sum, all, any -/
theorem sum_tupR {l : Addr} {its : List Value} {ns : List Int} {s : Shared} {Q : Value → Shared → Prop} {prog : Program} {w : World} {A : Around} {E : Value → Shared → Prop} (hh : A.handled = none) (hl : s.heap.IsTuple l its.toArray) (hi : IntsAre its ns)
    (h : ∀ h' tk t', (∀ b o, s.heap.get? b = some o → h'.get? b = some o) → Q (.int ns.sum t') { s with heap := h', toks := tk }) : wpAny (model prog w) A (call (.builtin "sum") [.ref l]) Q E s := by
  obtain ⟨xs, e⟩ := hi.allInts.items
  have hn : numsOf (intItems xs).toList = ns := by rw [← e]; exact hi.numsOf
  rw [nums_intItems] at hn
  rw [e] at hl
  have hlt : l < s.heap.objs.size := by obtain ⟨_, e, _⟩ := hl; exact Heap.lt_size e
  have hne : l ≠ s.heap.objs.size := Nat.ne_of_lt hlt
  refine call_sum_walkG (wpAny_pyIter_tuple hl ?_)
  refine ⟨_, _, _, _, _, _, numAt xs, rfl, Walks.tuple (A := A.in1) hh _ l hne (intItems xs), ⟨⟨_, Heap.get?_push_size _ rfl, rfl, rfl⟩, hl.push _⟩, fun b hb => ?_, (fun _ _ => intItems_at), fun h' tk t' hk => ?_⟩
  · show b < (s.heap.push _).objs.size
    rw [Heap.size_push]
    rcases List.mem_cons.mp hb with rfl | hb
    · exact Nat.lt_succ_self _
    · rcases List.mem_cons.mp hb with rfl | hb
      · exact Nat.lt_succ_of_lt hlt
      · cases hb
  · have q := h h' tk t' fun b o eb => hk b o (fun hb => absurd (Heap.lt_size eb) ((List.mem_singleton.mp hb) ▸ Nat.lt_irrefl _)) (Heap.get?_push_of_some _ eb)
    have e2 : preSum (numAt xs) (intItems xs).size = ns.sum := by
      rw [preSum_eq, ← hn]
      rw [List.take_of_length_le (by simp [intItems])]
    rw [e2]
    exact q
theorem qc_sum (hc : X.calm = true) : QC X b (.builtin "sum") fSum := by
  intro pins s σ H F μ S vs us ds Q I w rv rd q
  unfold fSum at q
  split at q
  · obtain ⟨ns, e, q⟩ := q
    obtain ⟨v, rfl, r⟩ := one_of (ds := []) rd
    obtain ⟨a, ws, rfl, hs, hr⟩ := items_at w r e
    obtain ⟨u, rfl, ru⟩ := vals1 rv
    cases ru
    have hw := hr.ints
    subst hw
    rcases hs with hs | hs
    · exact thn (cr_sum hc pins s σ H [V.ref a] [Value.ref a] (PostH X.K b F μ Q) I (.cons rfl .nil) ⟨a, ns, rfl, hs, postD w (.int _) q⟩) fun _ _ z => post_of z
    · obtain ⟨its, rv2, pl, _⟩ := I.tuple hs
      exact sum_tupR (I.ok.hd hc) (show s.heap.IsTuple a its.toArray from pl) rv2.ints fun h' tk t' hk => ⟨.int _, H, F, μ, .int _, S, I.kept hk, ⟨_, rfl⟩, .refl, w, .int _, q⟩
  · exact q.elim
theorem RDs.bls : ∀ {bs : List Bool} {vs : List V} {K : PySem.W.Frag} {fa : FA} {F : Hp} {μ : List Addr}, RDs K fa F μ (bs.map D.bl) vs → vs = bs.map V.bl
  | [], _, _, _, _, _, .nil => rfl
  | n :: ns, _, _, _, _, _, .cons h hs => by cases h; rw [List.map_cons, RDs.bls hs]
theorem qc_all (hc : X.calm = true) : QC X b (.builtin "all") fAll := QC.of (cr_all hc) fun H F μ S vs ds Q w rd q => by
  unfold fAll at q
  split at q
  · obtain ⟨bs, e, q⟩ := q
    obtain ⟨v, rfl, r⟩ := one_of (ds := []) rd
    obtain ⟨a, ws, rfl, hs, hr⟩ := seqL_at w r e
    have hw := hr.bls
    subst hw
    exact ⟨a, bs, rfl, SqL.of hs, postD w (.bl _) q⟩
  · exact q.elim
theorem qc_any (hc : X.calm = true) : QC X b (.builtin "any") fAny := QC.of (cr_any hc) fun H F μ S vs ds Q w rd q => by
  unfold fAny at q
  split at q
  · obtain ⟨bs, e, q⟩ := q
    obtain ⟨v, rfl, r⟩ := one_of (ds := []) rd
    obtain ⟨a, ws, rfl, hs, hr⟩ := seqL_at w r e
    have hw := hr.bls
    subst hw
    exact ⟨a, bs, rfl, SqL.of hs, postD w (.bl _) q⟩
  · exact q.elim

/-! ### int, str, list, tuple -/
theorem qc_int : QC X b (.type "int") fInt := QC.of call_int1 fun H F μ S vs ds Q w rd q => by
  unfold fInt at q
  split at q
  · obtain ⟨v, rfl, r⟩ := one_of (ds := []) rd
    cases r
    exact .inl ⟨_, rfl, postD w (.int _) q⟩
  · obtain ⟨v, rfl, r⟩ := one_of (ds := []) rd
    cases r
    exact .inr ⟨_, rfl, postD w (.int _) q⟩
  · exact q.elim
theorem toStr_ok (i : Int) (h : i.natAbs.log2 < 1920) : ((toString i : String) : Str).length ≤ sizeLine ∧ PyData.strOk ((toString i : String) : Str) = true := by
  refine ⟨?_, ?_⟩
  · have h1 := PyProof.Rows.int_text_len_1921 h
    have h2 : (Str.ofString (toString i)).length ≤ 1921 := h1
    rw [sizeLine_eq]
    exact Nat.le_trans h2 (by decide)
  · unfold PyData.strOk
    rw [Array.all_eq_true']
    intro x hx
    have hx' : x ∈ (Str.ofString (toString i)).cps.toList := by simpa using hx
    refine decide_eq_true ?_
    by_cases hk : x < 58
    · omega
    · exact absurd hx' (int_text_free' x ⟨by omega, .inr (by omega)⟩ i)
theorem qc_str : QC X b (.type "str") fStr := QC.of (SkE.call_str_str.or call_str_int) fun H F μ S vs ds Q w rd q => by
  unfold fStr at q
  split at q
  · obtain ⟨v, rfl, r⟩ := one_of (ds := []) rd
    cases r with
    | str h => exact .inl ⟨_, rfl, postD w (.str h) q⟩
  · obtain ⟨v, rfl, r⟩ := one_of (ds := []) rd
    cases r
    exact .inr ⟨_, rfl, q.1, postD w (.str (toStr_ok _ q.1)) q.2⟩
  · exact q.elim
theorem qc_list (m : Bool) : QC X b (.type "list") (fList m) := QC.of call_list_of fun H F μ S vs ds Q w rd q => by
  unfold fList at q
  split at q
  · obtain ⟨v, rfl, r⟩ := one_of (ds := []) rd
    cases r with
    | scr h => exact ⟨_, _, rfl, .inl (SqL.ext w.fz h), fun l hl => postLst w (RDs.of_ints _) q hl⟩
  · obtain ⟨xs, e, q⟩ := q
    obtain ⟨v, rfl, r⟩ := one_of (ds := []) rd
    obtain ⟨a, ws, rfl, hs, hr⟩ := items_at w r e
    exact ⟨a, ws, rfl, hs, fun l hl => postLst w hr q hl⟩
  · exact q.elim
theorem qc_tuple : QC X b (.type "tuple") fTuple := QC.of call_tuple_of fun H F μ S vs ds Q w rd q => by
  unfold fTuple at q
  split at q
  · obtain ⟨v, rfl, r⟩ := one_of (ds := []) rd
    cases r with
    | tup h hs => exact ⟨_, _, rfl, .inr ⟨SqT.of (w.fz _ _ h), postD w (.tup h hs) q⟩⟩
  · obtain ⟨xs, e, q⟩ := q
    obtain ⟨v, rfl, r⟩ := one_of (ds := []) rd
    obtain ⟨a, ws, rfl, hs, hr⟩ := seqL_at w r e
    exact ⟨a, ws, rfl, .inl ⟨SqL.of hs, fun l hl => postTup w hr q hl⟩⟩
  · exact q.elim

/-! ### isinstance -/
/-- the type of a tree, by its name -/
def tyD : D → Option String
  | .non => some "NoneType"
  | .bl _ => some "bool"
  | .int _ => some "int"
  | .str _ => some "str"
  | .tup _ => some "tuple"
  | .lst _ => some "list"
  | .scr _ => some "list"
  | .ref _ => none
  | .fn _ => none
theorem ty_SqL {K : PySem.W.Frag} {H : Hp} {a : Addr} {vs : List V} (h : SqL K H a vs) : TyX K H (.ref a) (.type "list") := by
  rcases h with (h | ⟨o, h⟩) | ⟨o, its, n, h, c, _⟩
  · exact .base (.lst h)
  · exact .base (.frz h)
  · exact .kList h c
theorem ty_SqT {K : PySem.W.Frag} {H : Hp} {a : Addr} {vs : List V} (h : SqT K H a vs) : TyX K H (.ref a) (.type "tuple") := by
  rcases h with (h | ⟨o, h⟩) | ⟨o, its, n, h, c, _⟩
  · exact .base (.tup h)
  · exact .fTuple h
  · exact .kTuple h c
theorem ty_D {K : PySem.W.Frag} {fa : FA} {F L H : Hp} {μ : List Addr} {S : Store} (w : WI K fa F L μ S H) {d : D} {x : V} (r : RD K fa F μ d x) {T : String} (e : tyD d = some T) : TyX K H x (.type T) := by
  cases r with
  | non => cases e; exact .base .non
  | bl c => cases e; exact .base (.bl c)
  | int i => cases e; exact .base (.int i)
  | str h => cases e; exact .base (.str _)
  | tup h hs => cases e; exact ty_SqT (SqT.of (w.fz _ _ h))
  | lst h hs => cases e; exact ty_SqL (SqL.of (w.fz _ _ h))
  | @ref n a h =>
    cases e
  | fn h => cases e
  | scr h => cases e; exact ty_SqL (SqL.ext w.fz h)
/-- isinstance(e, T) -/
theorem qe_isi {T : String} {xT : Str} {e : Expr} {w : ME1} {p q pos : Pos} (ha : QE X b e w) (hs : NoStar e) (hg : Gl X "isinstance") (hm : X.mg "isinstance" = none) (hgT : Gl X xT) (hmT : X.mg xT = none) (hvT : bootBuiltins xT = some (.type T)) (hnT : xT ≠ "__name__") (hdT : (xT == ("__debug__" : Str)) = false)
    {r : D → Option Bool} (k : ∀ d c, r d = some c → ∃ U, tyD d = some U ∧ kitB U T = some c) :
    QE X b (.Call (.Name "isinstance" p) [e, .Name xT q] [] pos) (fun env S Q => w env S fun d S1 => ∃ c, r d = some c ∧ Q (.bl c) S1) := by
  have hT : PE X (.Name xT q) (tC (.ty T)) := pe_bltn hgT hmT hvT rfl hnT hdT
  have hbi : bootBuiltins "isinstance" = some (.builtin "isinstance") := by decide +kernel
  have hP : PE X (.Call (.Name "isinstance" p) [e, .Name xT q] [] pos) (tCB (rIsi X.K) (tCons (lift X.K b w) (tCons (tC (.ty T)) tNil))) :=
    pe_callB call_isi hg hm hbi (pa_cons ha.pe (pa_cons hT pa_nil rfl) (star_cons hs _ _)) (by decide) (by decide) (star_cons hs _ _) rfl
  exact QE.of hP fun F μ env S Q σ H a hw => ⟨F, μ, env, S, _, a, hw, fun v H1 ⟨F1, μ1, d, S1, e1, w1, r1, c, ec, q1⟩ => by
    obtain ⟨U, eU, ek⟩ := k d c ec
    exact ⟨v, .ty T, .type U, .type T, c, rfl, .ty T, ty_D w1 r1 eU, kit_ty ek, postH_mono e1 (postD w1 (.bl _) q1)⟩⟩
def TN.nm : TN → String
  | .int => "int"
  | .bool => "bool"
  | .tuple => "tuple"
  | .str => "str"
  | .list => "list"
theorem isT_kit (t : TN) (d : D) (c : Bool) (e : isT t d = some c) : ∃ U, tyD d = some U ∧ kitB U t.nm = some c := by
  have k1 : ∀ U ∈ ["NoneType", "bool", "int", "str", "tuple", "list"], kitB U "int" = some (decide (U = "bool" ∨ U = "int")) := by decide +kernel
  have k2 : ∀ U ∈ ["NoneType", "bool", "int", "str", "tuple", "list"], kitB U "bool" = some (decide (U = "bool")) := by decide +kernel
  have k3 : ∀ U ∈ ["NoneType", "bool", "int", "str", "tuple", "list"], kitB U "tuple" = some (decide (U = "tuple")) := by decide +kernel
  have k4 : ∀ U ∈ ["NoneType", "bool", "int", "str", "tuple", "list"], kitB U "str" = some (decide (U = "str")) := by decide +kernel
  have k5 : ∀ U ∈ ["NoneType", "bool", "int", "str", "tuple", "list"], kitB U "list" = some (decide (U = "list")) := by decide +kernel
  cases d <;> first
    | (simp [isT] at e; done)
    | (refine ⟨_, rfl, ?_⟩
       cases t <;> simp [isT] at e <;> subst e <;> first
         | exact k1 _ (by simp)
         | exact k2 _ (by simp)
         | exact k3 _ (by simp)
         | exact k4 _ (by simp)
         | exact k5 _ (by simp))

/-! ### subscripts -/
def NoSlice : Expr → Prop
  | .Slice _ _ _ _ => False
  | _ => True
theorem plainIx_of {c : Expr} (h : NoSlice c) : PlainIx c := by
  intro o i
  cases c <;> first | rfl | exact h.elim
theorem atI_of {α : Type} {xs : List α} {i : Int} {d : α} (h : atI xs i = some d) : ∃ j, ixN xs.length i = some j ∧ xs[j]? = some d := by
  unfold atI at h
  cases e : ixN xs.length i with
  | none => rw [e] at h; cases h
  | some j => rw [e] at h; exact ⟨j, rfl, h⟩
theorem atI_get' {K : PySem.W.Frag} {fa : FA} {F : Hp} {μ : List Addr} {xs : List D} {vs : List V} (r : RDs K fa F μ xs vs) {i : Int} {d : D} (h : atI xs i = some d) : ∃ v, atI vs i = some v ∧ RD K fa F μ d v := by
  obtain ⟨j, h1, h2⟩ := atI_of h
  obtain ⟨v, h3, h4⟩ := r.get h2
  refine ⟨v, ?_, h4⟩
  unfold atI
  rw [← r.length, h1]
  exact h3
theorem sign_ok {z : Str} (hz : PyData.strOk z = true) {c : Nat} (h : c ∈ z.cps.toList) : PyData.strOk ⟨#[c]⟩ = true := by
  unfold PyData.strOk at *
  rw [Array.all_eq_true'] at *
  intro x hx
  have e : x = c := by simpa using hx
  subst e
  exact hz x (by simpa using h)
theorem qe_idx {a c : Expr} {wa wc : ME1} (ha : QE X b a wa) (hc : QE X b c wc) (hn : NoSlice c) :
    QE X b (.Subscript a c pos) (fun env S Q => wa env S fun x S1 => wc env S1 fun y S2 => ∃ k d, y = .int k ∧ atD S2 x k = some d ∧ Q d S2) := by
  refine ⟨fun pins s σ H F μ env S Q I at0 h => ?_⟩
  refine Subscript_ (thn (ha.run pins s σ H F μ env S _ I at0 h) fun v s1 ⟨x, H1, F1, μ1, d1, S1, I1, rv1, e1, w1, r1, q1⟩ => ?_)
  refine thn (hc.run pins s1 σ H1 F1 μ1 env S1 _ I1 (at0.step e1 w1) q1) fun u s2 ⟨y, H2, F2, μ2, d2, S2, I2, rv2, e2, w2, r2, k, d, ek, ed, q2⟩ => ?_
  subst ek
  cases r2
  have r1' := r1.ext e2
  refine thn (ix_seq (X := X) a c pins s2 σ H2 x _ v u (PostH X.K b F2 μ2 Q) I2 rv1 rv2 ?_ (plainIx_of hn _ _)) fun _ _ z => post_mono (e1.trans e2) (post_of z)
  cases r1' with
  | tup h hs =>
    obtain ⟨z, hz, rz⟩ := atI_get' hs ed
    exact .inr (.inl ⟨_, _, k, z, rfl, rfl, SqT.of (w2.fz _ _ h), hz, postD w2 rz q2⟩)
  | lst h hs =>
    obtain ⟨z, hz, rz⟩ := atI_get' hs (show atI _ k = some d from ed)
    exact .inl ⟨_, _, k, z, rfl, rfl, SqL.of (w2.fz _ _ h), hz, postD w2 rz q2⟩
  | @ref n a h =>
    obtain ⟨o, ho⟩ := w2.at h
    cases o with
    | lst ys =>
      obtain ⟨u, hu, vs, rfl, hs⟩ := w2.st n _ a ho h
      have ed' : atI ys k = some d := by simpa [atD, seqL, ho] using ed
      obtain ⟨z, hz, rz⟩ := atI_get' hs ed'
      exact .inl ⟨_, _, k, z, rfl, rfl, SqL.of hu, hz, postD w2 rz q2⟩
    | dct t z kvs => simp [atD, seqL, ho] at ed
  | @scr a ns h =>
    have ed' : (atI ns k).map D.int = some d := ed
    obtain ⟨m, hm, rfl⟩ := Option.map_eq_some_iff.mp ed'
    obtain ⟨j, h1, h2⟩ := atI_of hm
    refine .inl ⟨_, _, k, .int m, rfl, rfl, SqL.ext w2.fz h, ?_, postD w2 (.int _) q2⟩
    unfold atI
    rw [List.length_map, h1]
    show (ns.map V.int)[j]? = _
    rw [List.getElem?_map, h2]; rfl
  | @str z h =>
    have ed' : (atI z.cps.toList k).map (fun c => D.str ⟨#[c]⟩) = some d := ed
    obtain ⟨m, hm, rfl⟩ := Option.map_eq_some_iff.mp ed'
    obtain ⟨j, h1, h2⟩ := atI_of hm
    refine .inr (.inr ⟨z, k, m, rfl, rfl, h.1, hm, postD w2 (.str ⟨by rw [sizeLine_eq]; show 1 ≤ _; decide, sign_ok h.2 (List.mem_of_getElem? h2)⟩) q2⟩)
  | _ => simp [atD, seqL] at ed

/-! ### slices -/
theorem RDs.cut {K : PySem.W.Frag} {fa : FA} {F : Hp} {μ : List Addr} {xs : List D} {vs : List V} (r : RDs K fa F μ xs vs) (lo hi : Option Int) : RDs K fa F μ (cutL xs lo hi) (cutV vs lo hi) := by
  unfold cutL cutV
  rw [r.length]
  exact (r.drop _).take _
theorem cutL_whole {α : Type} {xs : List α} {lo hi : Option Int} (h : HT.sIx xs.length 0 lo = 0 ∧ HT.sIx xs.length xs.length hi = xs.length) : cutL xs lo hi = xs := by
  unfold cutL
  rw [h.1, h.2, List.drop_zero, Nat.sub_zero, List.take_length]
/-- a slice's part -/
structure QO (X : Cx) (b : MB) (e : Option Expr) (w : DEnv → Store → (Option Int → Store → Prop) → Prop) : Prop where
  run : ∀ (pins : List (Addr × Obj)) (s : Shared) (σ : L2.St) (H F : Hp) (μ : List Addr) (env : DEnv) (S : Store) (Q : Option Int → Store → Prop), Inv X pins σ H s → At X.K b F μ S H env σ → w env S Q →
    wpAny (model X.prog X.w) X.A (evalPart e X.env) (fun u s' => ∃ o H' F' μ' S', Inv X pins σ H' s' ∧ IsPart u o ∧ Ext F μ F' μ' ∧ WI X.K b.fa F' b.L μ' S' H' ∧ Q o S') X.xe s
theorem qo_none : QO X b none (fun _ S Q => Q none S) := by
  refine ⟨fun pins s σ H F μ env S Q I a h => ?_⟩
  rw [evalPart_none]
  exact wpAny_pure ⟨none, H, F, μ, S, I, .none, .refl, a.wi, h⟩
theorem qo_some {e : Expr} {w : ME1} (h : QE X b e w) : QO X b (some e) (fun env S Q => w env S fun x S1 => ∃ i, x = .int i ∧ Q (some i) S1) := by
  refine ⟨fun pins s σ H F μ env S Q I a hw => ?_⟩
  rw [evalPart_some]
  refine thn (h.run pins s σ H F μ env S _ I a hw) fun u s1 ⟨x, H1, F1, μ1, d1, S1, I1, rv1, e1, w1, r1, i, ei, q1⟩ => ?_
  subst ei
  cases r1
  obtain ⟨t, rfl⟩ := rv1
  exact ⟨some i, H1, F1, μ1, S1, I1, .int i t, e1, w1, q1⟩
theorem cutS_ok {z : Str} (h : PyData.strOk z = true) (lo hi : Option Int) : PyData.strOk (cutS z lo hi) = true := by
  unfold PyData.strOk at *
  rw [Array.all_eq_true'] at *
  intro x hx
  refine h x ?_
  have h1 : x ∈ ((z.cps.toList.drop (HT.sIx z.length 0 lo)).take (HT.sIx z.length z.length hi - HT.sIx z.length 0 lo)) := by simpa [cutS] using hx
  simpa using List.mem_of_mem_drop (List.mem_of_mem_take h1)
theorem qe_slc {e : Expr} {lo hi : Option Expr} {w : ME1} {wl wh : DEnv → Store → (Option Int → Store → Prop) → Prop} {p2 : Pos} (m : Bool) (he : QE X b e w) (hl : QO X b lo wl) (hh : QO X b hi wh) :
    QE X b (.Subscript e (.Slice lo hi none p2) pos) (fun env S Q => w env S fun x S1 => wl env S1 fun l S2 => wh env S2 fun h S3 => slD m x l h S3 Q) := by
  refine ⟨fun pins s σ H F μ env S Q I at0 hw => ?_⟩
  refine Subscript_ (thn (he.run pins s σ H F μ env S _ I at0 hw) fun v s1 ⟨x, H1, F1, μ1, d1, S1, I1, rv1, e1, w1, r1, q1⟩ => ?_)
  refine wpAny_Slice (thn (hl.run pins s1 σ H1 F1 μ1 env S1 _ I1 (at0.step e1 w1) q1) fun vl s2 ⟨l, H2, F2, μ2, S2, I2, pl, e2, w2, q2⟩ =>
    thn (hh.run pins s2 σ H2 F2 μ2 env S2 _ I2 (at0.step (e1.trans e2) w2) q2) fun vu s3 ⟨u, H3, F3, μ3, S3, I3, pu, e3, w3, q3⟩ => ?_)
  rw [evalPart_none]
  refine wpAny_pure ?_
  have e123 := (e1.trans e2).trans e3
  have r3 := (r1.ext e2).ext e3
  have I4 : Inv X pins σ H3 { s3 with heap := s3.heap.push { cls := .type "slice", data := .fields #[vl, vu, .none] } } := I3.kept (t' := s3.toks) fun b ob q => Heap.get?_push_of_some _ q
  have hr : (rSlA X.K x l u H3 (PostH X.K b F3 μ3 Q) ∨ rSlL X.K x l u H3 (PostH X.K b F3 μ3 Q)) ∨ rSlS x l u H3 (PostH X.K b F3 μ3 Q) := by
    unfold slD at q3
    split at q3
    · cases r3 with
      | tup h hs =>
        refine .inl (.inl ⟨_, _, rfl, SqT.of (w3.fz _ _ h), fun c => ?_, fun _ p hp => postTup w3 (hs.cut l u) q3 hp⟩)
        rw [← hs.length] at c
        rw [cutL_whole c] at q3
        exact postD w3 (.tup h hs) q3
    · cases r3 with
      | str h => exact .inr ⟨_, rfl, h.1, postD w3 (.str ⟨Nat.le_trans (cutS_length _ _ _) h.1, cutS_ok h.2 _ _⟩) q3⟩
    · obtain ⟨xs, ex, q3⟩ := q3
      obtain ⟨a, ws, rfl, h1, hs⟩ := seqL_at w3 r3 ex
      exact .inl (.inr ⟨a, ws, rfl, SqL.of h1, fun p hp => postLst w3 (hs.cut l u) q3 hp⟩)
  obtain ⟨T, id, hT, ht, hg⟩ := ((sl_tupA (X := X)).or sl_list).or sl_str pins { s3 with heap := s3.heap.push { cls := .type "slice", data := .fields #[vl, vu, .none] } } σ H3 x v vl vu l u s3.heap.objs.size (PostH X.K b F3 μ3 Q) I4 rv1 (Heap.IsSliceOf.new ..) pl pu hr
  show wpAny (model X.prog X.w) X.A (subscriptTail e (.Slice lo hi none p2) v (.ref s3.heap.objs.size)) _ X.xe { s3 with heap := s3.heap.push { cls := .type "slice", data := .fields #[vl, vu, .none] } }
  exact tail_any (ops := [.ref s3.heap.objs.size, v]) ht hT (thn hg fun _ _ z => post_mono e123 (post_of z)) (by with_unfolding_all rfl)

/-! ### x[::-1] -/
theorem places_back (n : Nat) : Builtin.Slice.slicePlaces ((n : Int) - 1) (-1) (-1) = n := by
  unfold Builtin.Slice.slicePlaces
  rw [if_neg (by decide)]
  split
  · have e : ((n : Int) - 1 - -1 - 1) / (- -1) + 1 = n := by
      rw [show (- -1 : Int) = 1 by decide, Int.ediv_one]; omega
    rw [e]; exact Int.toNat_natCast n
  · omega
theorem sliceApplied_back {prog : Program} {w : World} {A : Around} {E : Value → Shared → Prop} {s : Shared} {sl : Addr} {vl vu vk : Value} {n : Nat} {Q : Int × Int × Nat → Shared → Prop} (hs : s.heap.IsSliceOf sl vl vu vk) (pl : IsPart vl none) (pu : IsPart vu none) (pk : IsPart vk (some (-1)))
    (h : Q ((n : Int) - 1, -1, n) s) : wpAny (model prog w) A (Builtin.Slice.sliceApplied (.ref sl) (pure (n : Int))) Q E s := by
  obtain ⟨os, hos, hcs, hds⟩ := id hs
  unfold Builtin.Slice.sliceApplied Builtin.Slice.sliceFields
  refine wpAny_bind (wpAny_bind (wpAny_field hos hds (x := vl) rfl (wpAny_bind (wpAny_field hos hds (x := vu) rfl (wpAny_bind (wpAny_field hos hds (x := vk) rfl (wpAny_pure ?_)))))))
  refine wpAny_bind (HT.slicePart_ pk ?_)
  show wpAny _ _ (if ((-1 : Int) == 0) = true then _ else _) _ _ s
  rw [if_neg (by decide)]
  refine wpAny_bind (HT.slicePart_ pl (wpAny_bind (HT.slicePart_ pu (wpAny_bind (wpAny_pure ?_)))))
  have e : Builtin.Slice.sliceAdjust none none (-1) (n : Int) = ((n : Int) - 1, -1) := by rfl
  show wpAny _ _ (match Builtin.Slice.sliceAdjust none none (-1) (n : Int) with | (lo, hi) => pure (lo, (-1 : Int), Builtin.Slice.slicePlaces lo hi (-1))) _ _ s
  rw [e]
  show wpAny _ _ (pure ((n : Int) - 1, (-1 : Int), Builtin.Slice.slicePlaces ((n : Int) - 1) (-1) (-1))) _ _ s
  rw [places_back]
  exact wpAny_pure h
theorem filterMap_same {α β : Type} {f g : α → Option β} : ∀ {l : List α}, (∀ x ∈ l, f x = g x) → l.filterMap f = l.filterMap g
  | [], _ => rfl
  | x :: l, h => by rw [List.filterMap_cons, List.filterMap_cons, h x List.mem_cons_self, filterMap_same fun y hy => h y (List.mem_cons_of_mem _ hy)]
theorem pick_back (xs : Array Value) : ((List.range xs.size).filterMap fun (m : Nat) => xs[(((xs.size : Nat) : Int) - 1 + (m : Int) * (-1)).toNat]?).toArray = xs.toList.reverse.toArray := by
  have e : (List.range xs.size).filterMap (fun (m : Nat) => xs[(((xs.size : Nat) : Int) - 1 + (m : Int) * (-1)).toNat]?) = ((List.range xs.size).map fun k => xs.size - 1 - k).filterMap (xs[·]?) := by
    rw [List.filterMap_map]
    refine filterMap_same fun m hm => ?_
    have h := List.mem_range.mp hm
    have e2 : (((xs.size : Nat) : Int) - 1 + (m : Int) * (-1)).toNat = xs.size - 1 - m := by omega
    show xs[_]? = xs[_]?
    rw [e2]
  rw [e, PySem.W.krv_range, List.filterMap_reverse, PySem.W.krv_all]
theorem getItem_tuple_back {prog : Program} {w : World} {A : Around} {E : Value → Shared → Prop} {s : Shared} {t sl : Addr} {xs : Array Value} {vl vu vk : Value} {Q : Value → Shared → Prop} (ht : IsTup s.heap t xs) (hs : s.heap.IsSliceOf sl vl vu vk) (pl : IsPart vl none) (pu : IsPart vu none) (pk : IsPart vk (some (-1)))
    (h : Q (.ref s.heap.objs.size) { s with heap := s.heap.push { cls := .type "tuple", data := .seq xs.toList.reverse.toArray } }) (hsz : xs.size ≤ sizeLine) : wpAny (model prog w) A (getItem (.ref t) (.ref sl)) Q E s := by
  have htake : sizeOk (.seq xs.toList.reverse.toArray) := by
    show xs.toList.reverse.toArray.size ≤ sizeLine
    rw [List.size_toArray, List.length_reverse, Array.length_toList]; exact hsz
  obtain ⟨os, hos, hcs, hds⟩ := id hs
  have hTs : s.TypeIs (.ref sl) "slice" := ⟨os, hos, hcs⟩
  unfold getItem
  try with_reducible refine wpAny_holding ?_
  first | refine wpAny_bind (wpAny_pure ?_) | skip
  refine wpAny_bind (wpAny_sequenceKey ht.typeIs (by decide) ?_)
  refine wpAny_bind (wpAny_callSpecial?_slot (name := Str.ofString "__getitem__") ht.typeIs PyProof.Rows.slot_tuple_getitem
    (wpAny_call_entry PyProof.Rows.slot_tuple_getitem ht.typeIs entry_tuple_getitem ?_ (args_tuple_getitem _ _)))
  show wpAny _ _ (Builtin.Tuple.tupleItemsOf (.ref t) >>= _) _ _ s
  refine wpAny_bind (tupleItemsOf_ ht ?_)
  refine wpAny_bind (wpAny_typeOf hTs ?_)
  rw [if_pos (by decide)]
  refine wpAny_bind (sliceApplied_back hs pl pu pk ?_)
  have hno : ¬ ((((xs.size : Nat) : Int) - 1 == 0 && (-1 : Int) == 1 && xs.size == xs.size) = true) := by
    intro q
    rw [Bool.and_eq_true, Bool.and_eq_true] at q
    exact absurd q.1.2 (by decide)
  show wpAny _ _ (if (((xs.size : Nat) : Int) - 1 == 0 && (-1 : Int) == 1 && xs.size == xs.size) = true then _ else _) _ _ s
  rw [if_neg hno, pick_back]
  first
    | exact wpAny_bind (m := Builtin.Tuple.tupleExact _) (wpAny_newObj_type (wpAny_pure ⟨_, rfl, wpAny_pure h⟩) htake)
    | exact wpAny_bind (m := Builtin.Tuple.tupleExact _) (wpAny_newObj_type (wpAny_bind (wpAny_pure (wpAny_pure ⟨_, rfl, wpAny_pure h⟩))) htake)
    | exact wpAny_bind (wpAny_bind (m := Builtin.Tuple.tupleExact _) (wpAny_newObj_type (wpAny_pure (wpAny_pure ⟨_, rfl, wpAny_pure h⟩)) htake))
    | exact wpAny_bind (wpAny_bind (m := Builtin.Tuple.tupleExact _) (wpAny_newObj_type (wpAny_pure ⟨_, rfl, wpAny_pure h⟩) htake))
theorem qe_rev {e : Expr} {w : ME1} {k : Nat} {p1 p2 p3 : Pos} (m : Bool) (he : QE X b e w) :
    QE X b (.Subscript e (.Slice none none (some (.UnaryOp .USub (.Constant (.int 1) k p1) p2)) p3) pos) (fun env S Q => w env S fun x S1 => revD m x S1 Q) := by
  refine ⟨fun pins s σ H F μ env S Q I at0 hw => ?_⟩
  refine Subscript_ (thn (he.run pins s σ H F μ env S _ I at0 hw) fun v s1 ⟨x, H1, F1, μ1, d1, S1, I1, rv1, e1, w1, r1, q1⟩ => ?_)
  have hst : PO X (some (.UnaryOp .USub (.Constant (.int 1) k p1) p2)) (tPart (tUn (rU fun i => .int (-i)) (tC (.int 1)))) := po_some (pe_un un_neg pe_int)
  refine wpAny_Slice (thn (po_none.run pins s1 σ H1 (fun o H2 => o = none ∧ H2 = H1) I1 ⟨rfl, rfl⟩) fun vl s2 ⟨l, H2, I2, pl, el, e2⟩ => ?_)
  subst el e2
  refine thn (po_none.run pins s2 σ H2 (fun o H3 => o = none ∧ H3 = H2) I2 ⟨rfl, rfl⟩) fun vu s3 ⟨u, H3, I3, pu, eu, e3⟩ => ?_
  subst eu e3
  refine thn (hst.run pins s3 σ H3 (fun o H4 => o = some (-1) ∧ H4 = H3) I3 ⟨1, rfl, -1, rfl, rfl, rfl⟩) fun vs s4 ⟨o, H4, I4, ps, eo, e4⟩ => ?_
  subst eo e4
  have I5 : Inv X pins σ H4 { s4 with heap := s4.heap.push { cls := .type "slice", data := .fields #[vl, vu, vs] } } := I4.kept (t' := s4.toks) fun b ob q => Heap.get?_push_of_some _ q
  show wpAny (model X.prog X.w) X.A (subscriptTail e (.Slice none none (some (.UnaryOp .USub (.Constant (.int 1) k p1) p2)) p3) v (.ref s4.heap.objs.size)) _ X.xe { s4 with heap := s4.heap.push { cls := .type "slice", data := .fields #[vl, vu, vs] } }
  have q1 : revD m d1 S1 Q := q1
  unfold revD at q1
  split at q1
  · cases r1 with
    | @tup a ws _ h hs =>
      cases rv1
      obtain ⟨its, r, ht, hz⟩ := I5.tuple (SqT.of (w1.fz _ _ h))
      have hlen := r.length
      refine tail_any (ops := [.ref a, .ref s4.heap.objs.size]) ht.typeIs PyProof.Rows.slot_tuple_getitem.lookup ?_ (by with_unfolding_all rfl)
      refine getItem_tuple_back ht (Heap.IsSliceOf.new _ vl vu vs) pl pu ps ?_ (by rw [List.size_toArray]; omega)
      have I6 := I5.laid (t' := s4.toks) (o := .tup ws.reverse) (fun b ob q => Heap.get?_push_of_some _ q) (Nat.le_refl _) (h' := (s4.heap.push { cls := .type "slice", data := .fields #[vl, vu, vs] }).push { cls := .type "tuple", data := .seq its.reverse.toArray }) ⟨by rw [List.length_reverse]; exact hz, its.reverse, r.reverse, IsTup.new _ _⟩
      obtain ⟨F2, μ2, d2, S2, e2, w2, rd2, q2⟩ := postTup w1 hs.reverse q1 (I5.hok.fresh (Nat.le_refl _))
      exact ⟨V.ref _, _, F2, μ2, d2, S2, I6, rfl, e1.trans e2, w2, rd2, q2⟩
  · obtain ⟨xs, ex, q1⟩ := q1
    obtain ⟨a, ws, rfl, h1, hs⟩ := seqL_at w1 r1 ex
    cases rv1
    obtain ⟨its, r, ht, hz⟩ := I5.list (SqL.of h1)
    have hlen := r.length
    refine tail_any (ops := [.ref a, .ref s4.heap.objs.size]) ht.isList.typeIs (PySem.slot_list_getitem.lookup) ?_ (by with_unfolding_all rfl)
    refine wpAny_getItem_list_slice ht.isList (Heap.IsSliceOf.new _ vl vu vs) pl pu ps (by decide) ?_ (by rw [List.size_toArray]; omega)
    rw [PySem.W.krv_pick]
    have I6 := I5.laid (t' := s4.toks) (o := .lst ws.reverse) (fun b ob q => Heap.get?_push_of_some _ q) (Nat.le_refl _) (h' := (s4.heap.push { cls := .type "slice", data := .fields #[vl, vu, vs] }).push { cls := .type "list", data := .seq its.reverse.toArray }) ⟨by rw [List.length_reverse]; exact hz, its.reverse, 0, r.reverse, Heap.get?_push_size _ rfl⟩
    obtain ⟨F2, μ2, d2, S2, e2, w2, rd2, q2⟩ := postLst w1 hs.reverse q1 (I5.hok.fresh (Nat.le_refl _))
    exact ⟨V.ref _, _, F2, μ2, d2, S2, I6, rfl, e1.trans e2, w2, rd2, q2⟩
end
end Mp

set_option Elab.async false
set_option linter.all false
set_option maxRecDepth 100000
set_option maxHeartbeats 1000000
/-! M, part 8: methods of lists, list(range(..)), sorted. -/
namespace Mp
open PySem PySem.Spec PyProof.Rows L2
section
variable {X : Cx} {b : MB} {pos : Pos}
/-- a method by values -/
def QM (X : Cx) (b : MB) (id : String) (r : D → List D → Store → MK → Prop) : Prop :=
  ∀ (pins : List (Addr × Obj)) (s : Shared) (σ : L2.St) (H F : Hp) (μ : List Addr) (S : Store) (x : V) (v : Value) (dx : D) (vs : List V) (us : List Value) (ds : List D) (Q : MK), Inv X pins σ H s → WI X.K b.fa F b.L μ S H → RelV x v → RD X.K b.fa F μ dx x →
    Vals vs us → RDs X.K b.fa F μ ds vs → r dx ds S Q → wpAny (model X.prog X.w) X.A (call (.builtin id) (v :: us)) (Post X b pins σ F μ Q) X.xe s
theorem QM.of {id : String} {r : D → List D → Store → MK → Prop} {rV : V → List V → Hp → VK → Prop} (h : MtM X id rV)
    (k : ∀ H F μ S x dx vs ds Q, WI X.K b.fa F b.L μ S H → RD X.K b.fa F μ dx x → RDs X.K b.fa F μ ds vs → r dx ds S Q → rV x vs H (PostH X.K b F μ Q)) : QM X b id r :=
  fun pins s σ H F μ S x v dx vs us ds Q I w rx rd rv rds q => thn (h pins s σ H x vs v us _ I rx rv (k H F μ S x dx vs ds Q w rd rds q)) fun _ _ z => post_of z
/-- the attribute's base is the expression itself -/
theorem base_ok {o : Expr} {name : Str} {env : Env} {whole : Sem Value} (h : ∀ i p a, o ≠ .Call (.Name i p) [] [] a) : attributeBase o name env whole = whole := by
  unfold attributeBase
  cases o with
  | Call f args kws p =>
    cases f with
    | Name i q =>
      cases args with
      | nil =>
        cases kws with
        | nil => exact absurd rfl (h i q p)
        | cons a r => rfl
      | cons a r => cases kws <;> rfl
    | _ => rfl
  | _ => rfl
theorem few_ok {es : List Expr} (h : ∀ e ∈ es, NoStar e) (hl : es.length < 30) (p : Pos) (env : Env) : ((backTo p (starEach es env)).all (fun x => !x.1) && (backToKw p (keywordEach [] env)).all (fun x => x.1.isSome)
      && decide (es.length + ([] : List Keyword).length + (if ([] : List Keyword).isEmpty then 0 else 1) < 30)) = true := by
  have h1 : (backTo p (starEach es env)).all (fun x => !x.1) = true := by
    have h2 := star_all h p env
    rw [List.all_eq_true]
    intro x hx
    cases hv : x.1 with
    | false => rfl
    | true => exact absurd (List.any_eq_true.mpr ⟨x, hx, hv⟩) (by rw [h2]; exact Bool.false_ne_true)
  rw [h1]
  show (true && true && decide (es.length + 0 + 0 < 30)) = true
  rw [decide_eq_true (by omega : es.length + 0 + 0 < 30)] <;> rfl
theorem qe_mth {id T : String} {name : Str} {o e : Expr} {es : List Expr} {wo : ME1} {wa : MA} {apos : Pos} {r : D → List D → Store → MK → Prop} {ty : Store → D → Bool} (pa : PlainAttrs T) (slot : Slot T name id) (hty : typeOf (.builtin id) = pure (.type "method_descriptor")) (hm : QM X b id r)
    (ht : ∀ H F μ S x dx, WI X.K b.fa F b.L μ S H → RD X.K b.fa F μ dx x → ty S dx = true → tyV X.K T x H) (ho : QE X b o wo) (ha : QA X b (e :: es) wa) (hb : ∀ i p a, o ≠ .Call (.Name i p) [] [] a) (hs : ∀ y ∈ e :: es, NoStar y) (hl : (e :: es).length < 30) (hline : (apos.endLine == pos.line) = true) :
    QE X b (.Call (.Attribute o name apos) (e :: es) [] pos) (fun env S Q => wo env S fun x S1 => ty S1 x = true ∧ wa env S1 fun xs S2 => r x xs S2 Q) := by
  refine ⟨fun pins s σ H F μ env S Q I at0 h => ?_⟩
  refine wpAny_Call_method_late (base_ok hb) (few_ok hs hl pos X.env) hline rfl (thn (ho.run pins s σ H F μ env S _ I at0 h) fun v s1 ⟨x, H1, F1, μ1, d1, S1, I1, rv1, e1, w1, r1, t1, q1⟩ => ?_)
  obtain ⟨h1, h2⟩ := tyV_is I1 rv1 (ht H1 F1 μ1 S1 x d1 w1 r1 t1)
  refine ⟨T, id, pa, slot, hty, h1, h2, ?_⟩
  have hA := ha.pa.run pos pins s1 σ H1 (PostAH X.K b F1 μ1 _) I1 ⟨F1, μ1, env, S1, _, at0.step e1 w1, q1, fun _ _ z => z⟩
  have h3 := star_cons (hs e List.mem_cons_self) es X.env
  rw [h3] at hA ⊢
  refine Calls.callWith_builtin (by show (false || (backTo pos (starEach es X.env)).any (·.1)) = false; rw [star_all (fun y hy => hs y (List.mem_cons_of_mem _ hy))] <;> rfl) (Calls.evalArgs_plain ?_)
  refine thn hA fun us s2 ⟨vs, H2, I2, rv2, F2, μ2, ds, S2, e2, w2, rd2, q2⟩ => ?_
  exact thn (hm pins s2 σ H2 F2 μ2 S2 x v d1 vs us ds Q I2 w2 rv1 (r1.ext e2) rv2 rd2 q2) fun _ _ z => post_mono (e1.trans e2) z
theorem qe_mth0 {id T : String} {name : Str} {o : Expr} {wo : ME1} {apos : Pos} {r : D → List D → Store → MK → Prop} {ty : Store → D → Bool} (pa : PlainAttrs T) (slot : Slot T name id) (hty : typeOf (.builtin id) = pure (.type "method_descriptor")) (hm : QM X b id r)
    (ht : ∀ H F μ S x dx, WI X.K b.fa F b.L μ S H → RD X.K b.fa F μ dx x → ty S dx = true → tyV X.K T x H) (ho : QE X b o wo) (hb : ∀ i p a, o ≠ .Call (.Name i p) [] [] a) (hline : (apos.endLine == pos.line) = true) :
    QE X b (.Call (.Attribute o name apos) [] [] pos) (fun env S Q => wo env S fun x S1 => ty S1 x = true ∧ r x [] S1 Q) := by
  refine ⟨fun pins s σ H F μ env S Q I at0 h => ?_⟩
  refine wpAny_Call_method0_late (base_ok hb) hline (thn (ho.run pins s σ H F μ env S _ I at0 h) fun v s1 ⟨x, H1, F1, μ1, d1, S1, I1, rv1, e1, w1, r1, t1, q1⟩ => ?_)
  obtain ⟨h1, h2⟩ := tyV_is I1 rv1 (ht H1 F1 μ1 S1 x d1 w1 r1 t1)
  refine ⟨T, id, pa, slot, hty, h1, h2, Calls.callWith_builtin rfl (PySem.evalArgs_none ?_)⟩
  exact thn (hm pins s1 σ H1 F1 μ1 S1 x v d1 [] [] [] Q I1 w1 rv1 r1 .nil .nil q1) fun _ _ z => post_mono e1 z
theorem tyV_seq {K : PySem.W.Frag} {fa : FA} {F L H : Hp} {μ : List Addr} {S : Store} (w : WI K fa F L μ S H) {d : D} {x : V} (r : RD K fa F μ d x) {f : Mth} (hf : f ≠ .bitlen) (t : mTy S f d = true) : tyV K "list" x H := by
  cases r with
  | lst h hs => exact .inl ⟨rfl, _, SqL.of (w.fz _ _ h)⟩
  | @ref n a h =>
    obtain ⟨o, ho⟩ := w.at h
    cases o with
    | lst ys =>
      obtain ⟨u, hu, vs, rfl, hs⟩ := w.st n _ a ho h
      exact .inl ⟨rfl, _, SqL.of hu⟩
    | dct t z kvs => cases f <;> simp [mTy, ho] at t hf
  | _ => cases f <;> simp [mTy] at t hf
/-- a list of the store -/
theorem ref_at {K : PySem.W.Frag} {fa : FA} {F L H : Hp} {μ : List Addr} {S : Store} (w : WI K fa F L μ S H) {n : Nat} {x : V} (r : RD K fa F μ (.ref n) x) {xs : List D} (e : S[n]? = some (.lst xs)) :
    ∃ a vs, x = .ref a ∧ μ[n]? = some a ∧ H a = some (.lst vs) ∧ RDs K fa F μ xs vs := by
  cases r with
  | ref h =>
    obtain ⟨u, hu, vs, rfl, hs⟩ := w.st n _ _ e h
    exact ⟨_, vs, rfl, h, hu, hs⟩
theorem postSet {K : PySem.W.Frag} {F H : Hp} {μ : List Addr} {S : Store} {Q : MK} (w : WI K b.fa F b.L μ S H) {n : Nat} {a : Addr} (h : μ[n]? = some a) {ds : List D} {vs : List V} (r : RDs K b.fa F μ ds vs) {d : D} {v : V} (rv : RD K b.fa F μ d v) (q : Q d (S.set n (.lst ds))) : PostH K b F μ Q v (upd H a (.lst vs)) :=
  ⟨F, μ, d, S.set n (.lst ds), .refl, w.set h ⟨vs, rfl, r⟩, rv, q⟩
theorem qm_append : QM X b "list.append" mAppend := QM.of mt_append fun H F μ S x dx vs ds Q w rd rds q => by
  unfold mAppend at q
  split at q
  · obtain ⟨xs, e, hz, q⟩ := q
    obtain ⟨a, ws, rfl, ha, hH, hr⟩ := ref_at w rd e
    obtain ⟨y, rfl, ry⟩ := one_of (ds := []) rds
    exact ⟨a, ws, y, rfl, rfl, hH, by rw [← hr.length]; exact hz, postSet w ha (hr.append (.cons ry .nil)) .non q⟩
  · exact q.elim
theorem qm_extend : QM X b "list.extend" mExtend := QM.of mt_extend fun H F μ S x dx vs ds Q w rd rds q => by
  unfold mExtend at q
  split at q
  · obtain ⟨xs, ys, e, e2, hz, q⟩ := q
    obtain ⟨a, ws, rfl, ha, hH, hr⟩ := ref_at w rd e
    obtain ⟨y, rfl, ry⟩ := one_of (ds := []) rds
    obtain ⟨c, us, rfl, hc, hr2⟩ := seqL_at w ry e2
    exact ⟨a, c, ws, us, rfl, rfl, hH, hc, by rw [← hr.length, ← hr2.length]; exact hz, postSet w ha (hr.append hr2) .non q⟩
  · exact q.elim
theorem RDs.dropLast {K : PySem.W.Frag} {fa : FA} {F : Hp} {μ : List Addr} {ds : List D} {vs : List V} (h : RDs K fa F μ ds vs) : RDs K fa F μ ds.dropLast vs.dropLast := by
  rw [List.dropLast_eq_take, List.dropLast_eq_take, h.length]
  exact h.take _
theorem qm_pop0 : QM X b "list.pop" mPop0 := QM.of mt_pop fun H F μ S x dx vs ds Q w rd rds q => by
  unfold mPop0 at q
  split at q
  · obtain ⟨xs, y, e, e2, q⟩ := q
    obtain ⟨a, ws, rfl, ha, hH, hr⟩ := ref_at w rd e
    cases rds
    obtain ⟨v, hv, rv⟩ := hr.get e2
    exact ⟨a, ws, v, rfl, rfl, hH, by rw [← hr.length]; exact hv, postSet w ha hr.dropLast rv q⟩
  · exact q.elim
theorem qm_pop1 : QM X b "list.pop" mPop1 := QM.of mt_popAt fun H F μ S x dx vs ds Q w rd rds q => by
  unfold mPop1 at q
  split at q
  · obtain ⟨xs, k, y, e, hz, e2, e3, q⟩ := q
    obtain ⟨a, ws, rfl, ha, hH, hr⟩ := ref_at w rd e
    obtain ⟨z, rfl, rz⟩ := one_of (ds := []) rds
    cases rz
    obtain ⟨v, hv, rv⟩ := hr.get e3
    obtain ⟨k1, k2, k3, k4⟩ := ixN_seq e2
    exact ⟨a, ws, _, k, v, rfl, rfl, hH, by omega, by omega, by rw [← hr.length]; exact k1, hv, postSet w ha (hr.eraseIdx k) rv q⟩
  · exact q.elim
/-- n.bit_length() -/
theorem qe_bits {o : Expr} {wo : ME1} {apos : Pos} (ho : QE X b o wo) (hb : ∀ i p a, o ≠ .Call (.Name i p) [] [] a) (hline : (apos.endLine == pos.line) = true) :
    QE X b (.Call (.Attribute o "bit_length" apos) [] [] pos) (fun env S Q => wo env S fun x S1 => mTy S1 .bitlen x = true ∧ mBitlen x [] S1 Q) :=
  QE.of (pe_bits ho.pe (base_ok hb) hline) fun F μ env S Q σ H a hw => ⟨F, μ, env, S, _, a, hw, fun v H1 ⟨F1, μ1, d, S1, e1, w1, r1, t1, q1⟩ => by
    cases r1 with
    | int i => exact ⟨i, rfl, postH_mono e1 (postD w1 (.int _) q1)⟩
    | _ => simp [mTy] at t1⟩
/-! ### list(range(a, c)) -/
theorem rgV_D {K : PySem.W.Frag} {fa : FA} {F : Hp} {μ : List Addr} (i j : Int) : RDs K fa F μ (rngL i j) (rgV i j) := by
  unfold rngL rgV
  generalize List.range (j - i).toNat = l
  induction l with
  | nil => exact .nil
  | cons n l ih => exact .cons (.int _) ih
theorem qe_lrng1 {a : Expr} {wa : ME1} {p p2 p3 : Pos} (m : Bool) (hc : X.calm = true) (hg : Gl X "list") (hm : X.mg "list" = none) (hg2 : Gl X "range") (hm2 : X.mg "range" = none) (ha : QE X b a wa) (hs : NoStar a) :
    QE X b (.Call (.Name "list" p) [.Call (.Name "range" p2) [a] [] p3] [] pos) (fun env S Q => wa env S fun y S2 => ∃ i j, D.int 0 = .int i ∧ y = .int j ∧ RgOk i j ∧ mkL m (rngL i j) S2 Q) :=
  QE.of (pe_listRg hc hg hm (prg_1 hg2 hm2 ha.pe (star_cons hs _ _)) rfl) fun F μ env S Q σ H at0 hw => ⟨F, μ, env, S, _, at0, hw, fun v H1 ⟨F1, μ1, d, S1, e1, w1, r1, i, j, ei, ej, ok, q1⟩ => by
    subst ej; cases ei; cases r1
    exact ⟨j, rfl, ok, fun q hq => postH_mono e1 (postLst w1 (rgV_D 0 j) q1 hq)⟩⟩
theorem qe_lrng2 {a c : Expr} {wa wc : ME1} {p p2 p3 : Pos} (m : Bool) (hc : X.calm = true) (hg : Gl X "list") (hm : X.mg "list" = none) (hg2 : Gl X "range") (hm2 : X.mg "range" = none) (ha : QE X b a wa) (hcc : QE X b c wc) (hs : NoStar a) (hs2 : NoStar c) :
    QE X b (.Call (.Name "list" p) [.Call (.Name "range" p2) [a, c] [] p3] [] pos) (fun env S Q => wa env S fun x S1 => wc env S1 fun y S2 => ∃ i j, x = .int i ∧ y = .int j ∧ RgOk i j ∧ mkL m (rngL i j) S2 Q) :=
  QE.of (pe_listRg hc hg hm (prg_2 hg2 hm2 ha.pe hcc.pe (star_cons hs _ _) (star_cons hs2 _ _) (star_all (es := [c]) (fun e he => by rw [List.mem_singleton.mp he]; exact hs2) _ _)) rfl) fun F μ env S Q σ H at0 hw => ⟨F, μ, env, S, _, at0, hw, fun v H1 ⟨F1, μ1, d, S1, e1, w1, r1, q1⟩ => ⟨F1, μ1, env, S1, _, at0.step e1 w1, q1, fun v2 H2 ⟨F2, μ2, d2, S2, e2, w2, r2, i, j, ei, ej, ok, q2⟩ => by
    subst ei ej; cases r1; cases r2
    exact ⟨i, j, rfl, rfl, ok, fun q hq => postH_mono (e1.trans e2) (postLst w2 (rgV_D i j) q2 hq)⟩⟩⟩
/-! ### sorted -/
theorem each_D {K : PySem.W.Frag} {fa : FA} {F : Hp} {μ : List Addr} : ∀ {xs : List D} {ws : List V} {its : List Value}, RDs K fa F μ xs ws → Vals ws its → PySem.W.EachIs (fun v d => ∃ x, RelV x v ∧ RD K fa F μ d x) its xs
  | _, _, _, .nil, .nil => .nil
  | _, _, _, .cons h hs, .cons r t => .cons ⟨_, r, h⟩ (each_D hs t)
theorem each_back {K : PySem.W.Frag} {fa : FA} {F : Hp} {μ : List Addr} : ∀ {its : List Value} {xs : List D}, PySem.W.EachIs (fun v d => ∃ x, RelV x v ∧ RD K fa F μ d x) its xs → ∃ ws, RDs K fa F μ xs ws ∧ Vals ws its
  | _, _, .nil => ⟨[], .nil, .nil⟩
  | _, _, .cons ⟨x, r, h⟩ t => by
    obtain ⟨ws, a, c⟩ := each_back t
    exact ⟨x :: ws, .cons h a, .cons r c⟩
theorem each_reads {X : Cx} {pins : List (Addr × Obj)} {σ : L2.St} {H F : Hp} {μ : List Addr} {s : Shared} {fa : FA} (I : Inv X pins σ H s) (hF : ∀ a o, F a = some o → H a = some o) : ∀ {xs : List D} {ws : List V} {its : List Value}, RDs X.K fa F μ xs ws → Vals ws its → (∀ x ∈ xs, x.pur = true) →
    PySem.W.EachIs (fun v d => ∃ as, Reads s.heap v d.toP as) its xs
  | _, _, _, .nil, .nil, _ => .nil
  | _, _, _, .cons h hs, .cons r t, p => .cons (Dp.reads I _ _ _ (RD.dp hF h (p _ List.mem_cons_self)) r) (each_reads I hF hs t fun x hx => p x (List.mem_cons_of_mem _ hx))
theorem sortable_D {xs : List D} (o : okSort xs) : PySem.W.AllAlike (xs.map D.toP) ∧ PySem.W.Sortable (xs.map D.toP) := by
  refine ⟨fun d hd e he => ?_, ?_⟩
  · obtain ⟨x, hx, rfl⟩ := List.mem_map.mp hd
    obtain ⟨y, hy, rfl⟩ := List.mem_map.mp he
    exact o.2.1 x hx y hy
  · rcases o.2.2 with h | h
    · refine .inl fun d hd => ?_
      obtain ⟨x, hx, rfl⟩ := List.mem_map.mp hd
      obtain ⟨y, r, rfl⟩ := h x hx
      exact ⟨y.toP, r.map D.toP, by rw [toP_tup]; rfl⟩
    · refine .inr fun d hd => ?_
      obtain ⟨x, hx, rfl⟩ := List.mem_map.mp hd
      refine ⟨(h x hx).1, fun ys e => ?_⟩
      cases x with
      | tup zs => exact (h _ hx).2 zs rfl
      | _ => simp [D.toP] at e
theorem depth_room {u n : Nat} (h2 : u + 66 < cLine) (hd : n ≤ 64) : u + 2 + n < cLine := by omega
def fSortedL (m : Bool) (as : List D) (S : Store) (Q : MK) : Prop := match as with
  | [x] => ∃ xs, seqL S x = some xs ∧ (xs.length ≤ 1 ∨ okSort xs) ∧ mkL m (sortD false xs) S Q
  | _ => False
theorem sortD_short {rv : Bool} : ∀ {xs : List D}, xs.length ≤ 1 → sortD rv xs = xs
  | [], _ => by unfold sortD; simp
  | [x], _ => by unfold sortD; simp
  | x :: y :: xs, h => by simp at h
theorem perm_short {α : Type} : ∀ {xs ys : List α}, xs.length ≤ 1 → ys.Perm xs → ys = xs
  | [], ys, _, h => List.Perm.eq_nil h
  | [x], ys, _, h => List.perm_singleton.mp h
  | x :: y :: xs, _, h, _ => by simp at h
theorem qc_sortedL (hu : X.A.units + 66 < cLine) (m : Bool) : QC X b (.builtin "sorted") (fSortedL m) := by
  intro pins s σ H F μ S vs us ds Q I w rv rd q
  unfold fSortedL at q
  split at q
  · obtain ⟨xs, e, o, q⟩ := q
    obtain ⟨v, rfl, r⟩ := one_of (ds := []) rd
    obtain ⟨a, ws, rfl, hs, hr⟩ := seqL_at w r e
    obtain ⟨u, rfl, ru⟩ := vals1 rv
    cases ru
    obtain ⟨its, rv2, pl, hz⟩ := I.list (SqL.of hs)
    rcases o with o | o
    · have hlen1 : its.length ≤ 1 := by rw [← rv2.length, ← hr.length]; exact o
      rw [sortD_short o] at q
      refine Srt.sorted_any pl.isList (by rw [← rv2.length]; exact hz) (fun h2 => by omega) fun out hp => ?_
      obtain rfl := perm_short hlen1 hp
      obtain ⟨ep, he'⟩ := PyProof.Rows.sortedAll_at s.heap out out.toArray
      have I2 := I.laid (t' := s.toks) (o := .lst ws) (fun _ _ => PyProof.Rows.sortedAll_old) (Nat.le_succ _) (h' := sortedAll s.heap out out.toArray) ⟨hz, out, ep, rv2, he'⟩
      obtain ⟨F2, μ2, d2, S2, e2, w2, rd2, q2⟩ := postLst w hr q (I.hok.fresh (Nat.le_succ _))
      exact ⟨V.ref _, _, F2, μ2, d2, S2, I2, rfl, e2, w2, rd2, q2⟩
    obtain ⟨h1, h2⟩ := sortable_D o
    refine PySem.W.sorted_data (enc := D.toP) pl.isList (each_D hr rv2) (each_reads I w.fz hr rv2 fun x hx => (o.1 x hx).1) h1 h2 (by rw [hr.length]; exact hz) (fun x hx => depth_room hu (o.1 x hx).2) fun out hl ho => ?_
    obtain ⟨us, r1, r2⟩ := each_back ho
    obtain ⟨ep, he'⟩ := PyProof.Rows.sortedAll_at s.heap its out.toArray
    have hlen : us.length ≤ sizeLine := by rw [r2.length, hl, hr.length]; exact hz
    have I2 := I.laid (t' := s.toks) (o := .lst us) (fun _ _ => PyProof.Rows.sortedAll_old) (Nat.le_succ _) (h' := sortedAll s.heap its out.toArray) ⟨hlen, out, ep, r2, he'⟩
    obtain ⟨F2, μ2, d2, S2, e2, w2, rd2, q2⟩ := postLst w r1 q (I.hok.fresh (Nat.le_succ _))
    exact ⟨V.ref _, _, F2, μ2, d2, S2, I2, rfl, e2, w2, rd2, q2⟩
  · exact q.elim
end
end Mp

set_option Elab.async false
set_option linter.all false
set_option maxRecDepth 100000
set_option maxHeartbeats 2000000
/-! M, part 8b: sorted of a tuple. -/
namespace PySem.W
open PySem PySem.Calls PyProof.Rows
namespace SoT
variable {pr : Program} {wl : World} {Ar : Around} {Er : Value → Shared → Prop} {sh : Shared}
/-- the items of a tuple, in a new list -/
theorem colT {t : Addr} {us : List Value} {Q : List Value → Shared → Prop} (ht : sh.heap.IsTuple t us.toArray) (hu : us.length ≤ sizeLine)
    (q : Q us { sh with heap := (sh.heap.push (seqObj "list" #[] 0)).update sh.heap.objs.size (Obj.mapSeq (· ++ us.toArray)) }) : wpAny (model pr wl) Ar (collect (.ref t)) Q Er sh := by
  obtain ⟨ob, hob, hcl, n, hda⟩ := id ht
  unfold collect
  refine wpAny_bind ?_
  refine wpAny_runValue ?_
  refine codeAny_builtin entry_proto_collect' ?_
  show wpAny _ _ (do again (.builtin "list.__iadd__" ⟨[← newList [], .ref t], []⟩)) _ _ sh
  refine wpAny_bind (wpAny_newList (wpAny_pure ⟨Code.quiet_builtin _ (by decide +kernel), codeAny_builtin entry_list_iadd' (?_ : wpAny _ _ _ _ _ _)⟩))
  show wpAny _ _ (Builtin.List.listExtendWith (.ref sh.heap.objs.size) (.ref t) (.ref sh.heap.objs.size)) _ _ { sh with heap := sh.heap.push (seqObj "list" #[] 0) }
  unfold Builtin.List.listExtendWith
  have hob2 : (sh.heap.push (seqObj "list" #[] 0)).get? t = some ob := Heap.get?_push_of_some _ hob
  refine wpAny_bind (wpAny_typeOf (T := "tuple") ⟨ob, hob2, hcl⟩ ?_)
  have e : (Value.type "tuple" == Value.type "tuple") = true := by rfl
  rw [if_pos (by rw [e]; simp)]
  refine wpAny_bind (listItems_at hob2 hda ?_)
  refine wpAny_bind (listItems_at (n := 0) (xs := #[]) (Heap.get?_push_size _ rfl) rfl ?_)
  rw [if_neg (by simp)]
  refine wpAny_bind (listUpdate_at (n := 0) (xs := #[]) (Heap.get?_push_size _ rfl) rfl ?_ (Nat.zero_le _) (by show (#[] ++ us.toArray).size ≤ sizeLine + 1; simp; omega))
  refine wpAny_pure ?_
  show wpAny (model pr wl) Ar (do
      let o ← load sh.heap.objs.size
      match o.data with
      | .seq xs _ => pure xs.toList
      | _ => unsupported "internal:collect") Q Er { sh with heap := (sh.heap.push (seqObj "list" #[] 0)).update sh.heap.objs.size (Obj.mapSeq (· ++ us.toArray)) }
  refine wpAny_bind (wpAny_load (get?_update_seq (Heap.get?_push_size _ rfl) _) ?_)
  show wpAny _ _ (pure ((#[] : Array Value) ++ us.toArray).toList) Q Er _
  rw [show ((#[] : Array Value) ++ us.toArray).toList = us by simp]
  exact wpAny_pure q
theorem ofSort {t : Addr} {us : List Value} {Q : Value → Shared → Prop} (ht : sh.heap.IsTuple t us.toArray) (hu : us.length ≤ sizeLine)
    (bd : ∀ E2 : Value → Shared → Prop, wpAny (model pr wl) Ar.in1.in1 (Builtin.«list.sort» ⟨[.ref (sh.heap.objs.size + 1)], []⟩) (fun f s2 => f = .done (.ret .none) ∧ Q (.ref (sh.heap.objs.size + 1)) s2) E2 { sh with heap := copyHeap sh.heap us }) :
    wpAny (model pr wl) Ar (call (.builtin "sorted") [.ref t]) Q Er sh := by
  refine call_function_entry_kw kind_sorted plain_sorted entry_sorted (args_sorted1 _) ?_
  unfold Builtin.«sorted»
  refine wpAny_bind (m := checkCount "sorted" 1 1 _) (wpAny_pure (?_ : wpAny _ _ _ _ _ _))
  refine wpAny_bind (colT ht hu ?_)
  refine wpAny_bind (wpAny_newList (?_ : wpAny _ _ _ _ _ _) hu)
  have sz : ((sh.heap.push (seqObj "list" #[] 0)).update sh.heap.objs.size (Obj.mapSeq (· ++ us.toArray))).objs.size = sh.heap.objs.size + 1 := by rw [Heap.size_update, size_push']
  show wpAny _ _ _ _ _ { sh with heap := copyHeap sh.heap us }
  rw [sz]
  refine wpAny_bind (wpAny_holding (wpAny_call_entry_kw slot_list_sort ⟨_, copyHeap_at sh.heap us, rfl⟩ entry_list_sort ?bdy (args_list_sort _)))
  case bdy =>
    show wpAny (model pr wl) Ar.in1.in1 (Builtin.«list.sort» ⟨[.ref (sh.heap.objs.size + 1)], []⟩) _ _ _
    refine wpAny_mono (bd _) (fun f s2 hf => ?_) fun _ _ z => z
    obtain ⟨rfl, hq⟩ := hf
    exact ⟨_, rfl, wpAny_pure ⟨_, rfl, hq⟩⟩
theorem data {t : Addr} {us : List Value} {β : Type} {bs : List β} {enc : β → PyData} {Rl : Value → β → Prop} {Q : Value → Shared → Prop} (ht : sh.heap.IsTuple t us.toArray) (e : EachIs Rl us bs)
    (er : EachIs (fun v b => ∃ as, Reads sh.heap v (enc b) as) us bs) (hal : AllAlike (bs.map enc)) (hk : Sortable (bs.map enc)) (hL : bs.length ≤ sizeLine) (hu : ∀ b, b ∈ bs → Ar.units + 2 + (enc b).depth < cLine)
    (q : ∀ out, out.length = bs.length → EachIs Rl out (bs.mergeSort (dataLe false enc)) → Q (.ref (sh.heap.objs.size + 1)) { sh with heap := sortedAll sh.heap us (List.toArray out) }) : wpAny (model pr wl) Ar (call (.builtin "sorted") [.ref t]) Q Er sh := by
  let h2 := sortingHeap (copyHeap sh.heap us) (sh.heap.objs.size + 1) us
  have er2 : EachIs (fun v b => ∃ as, Reads h2 v (enc b) as) us bs := er.mono fun _ _ ⟨as, r⟩ => ⟨as, PyProof.Rows.Reads.keeps (fun _ _ => sorting_copy_old) r⟩
  have hl : us.length ≤ sizeLine := by rw [e.length]; exact hL
  refine ofSort ht hl fun E2 => ?_
  refine list_sort_vals (s := { sh with heap := copyHeap sh.heap us }) (copyHeap_at sh.heap us) (SortsAt.data (s := { sh with heap := h2 }) (each_map (R := fun v d => ∃ as, Reads h2 v d as) enc er2) hal hk (bound_map hu)) hl ⟨rfl, ?_⟩
  exact q _ (by rw [sortVals_length false rfl]; exact e.length) (sortVals_data false e er2 hal)
end SoT
end PySem.W
namespace Mp
open PySem PySem.Spec PyProof.Rows L2
variable {X : Cx} {b : MB}
theorem qc_sorted (hu : X.A.units + 66 < cLine) (m : Bool) : QC X b (.builtin "sorted") (fSorted m) := by
  intro pins s σ H F μ S vs us ds Q I w rv rd q
  unfold fSorted at q
  split at q
  · rename_i xs
    obtain ⟨o, q⟩ := q
    obtain ⟨v, rfl, r⟩ := one_of (ds := []) rd
    cases r with
    | @tup a ws _ h hr =>
      obtain ⟨u, rfl, ru⟩ := vals1 rv
      cases ru
      obtain ⟨its, rv2, pl, hz⟩ := I.tuple (SqT.of (w.fz _ _ h))
      have pl2 : s.heap.IsTuple a its.toArray := pl
      obtain ⟨h1, h2⟩ := sortable_D o
      refine PySem.W.SoT.data (enc := D.toP) pl2 (each_D hr rv2) (each_reads I w.fz hr rv2 fun x hx => (o.1 x hx).1) h1 h2 (by rw [hr.length]; exact hz) (fun x hx => depth_room hu (o.1 x hx).2) fun out hl ho => ?_
      obtain ⟨us, r1, r2⟩ := each_back ho
      obtain ⟨ep, he'⟩ := PyProof.Rows.sortedAll_at s.heap its out.toArray
      have hlen : us.length ≤ sizeLine := by rw [r2.length, hl, hr.length]; exact hz
      have I2 := I.laid (t' := s.toks) (o := .lst us) (fun _ _ => PyProof.Rows.sortedAll_old) (Nat.le_succ _) (h' := sortedAll s.heap its out.toArray) ⟨hlen, out, ep, r2, he'⟩
      obtain ⟨F2, μ2, d2, S2, e2, w2, rd2, q2⟩ := postLst w r1 q (I.hok.fresh (Nat.le_succ _))
      exact ⟨V.ref _, _, F2, μ2, d2, S2, I2, rfl, e2, w2, rd2, q2⟩
  · refine qc_sortedL hu m pins s σ H F μ S vs us _ Q I w rv rd ?_
    exact q
  · exact q.elim
end Mp

set_option Elab.async false
set_option linter.all false
set_option maxRecDepth 100000
set_option maxHeartbeats 1000000
/-! M, part 9: targets, what is walked, comprehensions. -/
namespace Mp
open PySem PySem.Spec PyProof.Rows L2

/-! ### targets -/
mutual
def gT (K : PySem.W.Frag) : MT → TG
  | .nm i => gName i
  | .tp ts => fun v σ H Q => ∃ a xs, v = .ref a ∧ SqT K H a xs ∧ gTs K ts xs σ H Q
  | _ => fun _ _ _ _ => False
def gTs (K : PySem.W.Frag) : MT → TGs
  | .nil => gNil
  | .cons a r => gCons (gT K a) (gTs K r)
  | _ => fun _ _ _ _ => False
end
mutual
def slots : MT → List Nat
  | .nm i => [i]
  | .tp ts => slotsL ts
  | _ => []
def slotsL : MT → List Nat
  | .cons a r => slots a ++ slotsL r
  | _ => []
end
theorem wipe_set {σ : L2.St} {i : Nat} {x : Option V} : ∀ {vs : List Nat}, i ∈ vs → L2.wipe (σ.set i x) vs = L2.wipe σ vs
  | v :: vs, h => by
    unfold L2.wipe
    by_cases e : i ∈ vs
    · rw [wipe_set e]
    · have : i = v := by
        rcases List.mem_cons.mp h with z | z
        · exact z
        · exact absurd z e
      subst this
      have go : ∀ (ws : List Nat) (τ : L2.St), i ∉ ws → L2.wipe (τ.set i x) ws = (L2.wipe τ ws).set i x := by
        intro ws
        induction ws with
        | nil => intro τ _; rfl
        | cons u us ih =>
          intro τ hn
          have h1 : i ≠ u := fun z => hn (z ▸ List.mem_cons_self)
          have h2 : i ∉ us := fun z => hn (List.mem_cons_of_mem _ z)
          unfold L2.wipe
          rw [ih τ h2, List.set_comm _ _ h1]
      rw [go vs σ e, List.set_set]
section
variable {K : PySem.W.Frag} {fa : FA} {F L H : Hp} {μ : List Addr} {S : Store}
mutual
theorem gT_mono {P P' : L2.St → Hp → Prop} (k : ∀ σ H, P σ H → P' σ H) : ∀ {t : MT} {v : V} {σ : L2.St} {H : Hp}, gT K t v σ H P → gT K t v σ H P'
  | .nm i, v, σ, H, h => k _ _ h
  | .tp ts, v, σ, H, h => by
    rw [gT] at h ⊢
    obtain ⟨a, xs, e, q, h⟩ := h
    exact ⟨a, xs, e, q, gTs_mono k h⟩
  | .nil, v, σ, H, h => by simp [gT] at h
  | .cons a r', v, σ, H, h => by simp [gT] at h
theorem gTs_mono {P P' : L2.St → Hp → Prop} (k : ∀ σ H, P σ H → P' σ H) : ∀ {t : MT} {vs : List V} {σ : L2.St} {H : Hp}, gTs K t vs σ H P → gTs K t vs σ H P'
  | .nil, vs, σ, H, h => by rw [gTs] at h ⊢; exact ⟨h.1, k _ _ h.2⟩
  | .cons a r, vs, σ, H, h => by
    rw [gTs] at h ⊢
    obtain ⟨v, ws, e, h⟩ := h
    exact ⟨v, ws, e, gT_mono (fun σ1 H1 h1 => gTs_mono k h1) h⟩
  | .nm i, vs, σ, H, h => by simp [gTs] at h
  | .tp ts, vs, σ, H, h => by simp [gTs] at h
end
mutual
theorem tgt_ok (w : WI K fa F L μ S H) : ∀ (t : MT) {d : D} {v : V} {env : DEnv} {σ : L2.St} {P : DEnv → Prop}, RD K fa F μ d v → RelE K fa F μ env σ → tgt t d env S P →
    gT K t v σ H (fun σ' H' => H' = H ∧ ∃ env', RelE K fa F μ env' σ' ∧ P env' ∧ ∀ vs, (∀ i ∈ slots t, i ∈ vs) → L2.wipe σ' vs = L2.wipe σ vs)
  | .nm i, d, v, env, σ, P, r, re, h => ⟨rfl, _, re.set i r, by rw [tgt] at h; exact h, fun vs hv => wipe_set (hv i (by rw [slots]; exact List.mem_cons_self))⟩
  | .tp ts, d, v, env, σ, P, r, re, h => by
    rw [tgt] at h
    obtain ⟨xs, rfl, h⟩ := h
    cases r with
    | tup hT hs =>
      rw [gT]
      refine ⟨_, _, rfl, SqT.of (w.fz _ _ hT), ?_⟩
      rw [slots]
      exact tgts_ok w ts hs re h
  | .nil, d, v, env, σ, P, r, re, h => by simp [tgt] at h
  | .cons a r', d, v, env, σ, P, r, re, h => by simp [tgt] at h
theorem tgts_ok (w : WI K fa F L μ S H) : ∀ (t : MT) {ds : List D} {vs : List V} {env : DEnv} {σ : L2.St} {P : DEnv → Prop}, RDs K fa F μ ds vs → RelE K fa F μ env σ → tgts t ds env S P →
    gTs K t vs σ H (fun σ' H' => H' = H ∧ ∃ env', RelE K fa F μ env' σ' ∧ P env' ∧ ∀ ws, (∀ i ∈ slotsL t, i ∈ ws) → L2.wipe σ' ws = L2.wipe σ ws)
  | .nil, ds, vs, env, σ, P, r, re, h => by
    rw [tgts] at h
    obtain ⟨rfl, h⟩ := h
    cases r
    rw [gTs]
    exact ⟨rfl, rfl, env, re, h, fun _ _ => rfl⟩
  | .cons a t, ds, vs, env, σ, P, r, re, h => by
    rw [tgts] at h
    obtain ⟨x, ys, rfl, h⟩ := h
    cases r with
    | cons r rs =>
      rw [gTs]
      refine ⟨_, _, rfl, gT_mono ?_ (tgt_ok w a r re h)⟩
      rintro σ' H' ⟨eH, env', re', h', hw⟩
      rw [eH]
      refine gTs_mono ?_ (tgts_ok w t rs re' h')
      rintro σ2 H2 ⟨eH2, env2, re2, h2, hw2⟩
      refine ⟨eH2, env2, re2, h2, fun ws hs => ?_⟩
      rw [slotsL] at hs
      rw [hw2 ws fun i hi => hs i (List.mem_append_right _ hi), hw ws fun i hi => hs i (List.mem_append_left _ hi)]
  | .nm i, ds, vs, env, σ, P, r, re, h => by simp [tgts] at h
  | .tp ts, ds, vs, env, σ, P, r, re, h => by simp [tgts] at h
end
end
section
variable {X : Cx} {pos : Pos}
theorem pg_tp {es : List Expr} {k : Nat} {t : MT} (hc : X.calm = true) (h : PGs X es (gTs X.K t)) (hn : ∀ vs σ H P, gTs X.K t vs σ H P → vs.length = (assignEach es X.env).length) (hst : (assignEach es X.env).findIdx? (·.1) = none) : PG X (.Tuple es k pos) (gT X.K (.tp t)) := by
  refine ⟨fun pins s σ H v u Q I r hw => ?_⟩
  rw [gT] at hw
  obtain ⟨a, xs, e, q, hw⟩ := hw
  refine (pg_tup (n := (assignEach es X.env).length) hc h rfl hst).run pins s σ H v u Q I r ⟨a, xs, e, q, hn _ _ _ _ hw, hw⟩
end
end Mp

set_option Elab.async false
set_option linter.all false
set_option maxRecDepth 100000
set_option maxHeartbeats 1000000
/-! M, part 10: what is walked. -/
namespace Mp
open PySem PySem.Spec PyProof.Rows L2

/-- the iterator J walks the source s, from the world F, μ on -/
def Rep (K : PySem.W.Frag) (fa : FA) (J : It) (F : Hp) (μ : List Addr) (s : Src) : Prop :=
  ∀ L F1 μ1 S1 H1 xs i, Ext F μ F1 μ1 → WI K fa F1 L μ1 S1 H1 → srcL S1 s = some xs →
    (xs[i]? = none → J.stop i H1) ∧ ∀ d, xs[i]? = some d → J.go i H1 ∧ ∀ x H2, J.yld i H1 x H2 → ∃ F2 μ2, Ext F1 μ1 F2 μ2 ∧ WI K fa F2 L μ2 S1 H2 ∧ RD K fa F2 μ2 d x
abbrev MI := DEnv → Store → (Src → Store → Prop) → Prop
def liftI (K : PySem.W.Frag) (b : MB) (w : MI) : TI := fun σ H R => ∃ F μ env S Q', At K b F μ S H env σ ∧ w env S Q' ∧
  ∀ J H' F' μ' s S', Ext F μ F' μ' → WI K b.fa F' b.L μ' S' H' → Rep K b.fa J F' μ' s → Q' s S' → R J H'
structure QI (X : Cx) (b : MB) (tg e : Expr) (w : MI) : Prop where
  pi : PI X tg e (liftI X.K b w)
theorem none_len {α : Type} {xs : List α} {i : Nat} (h : xs[i]? = none) : xs.length ≤ i := List.getElem?_eq_none_iff.mp h
section
variable {X : Cx} {b : MB} {pos : Pos} {tg : Expr}
variable {K : PySem.W.Frag} {fa : FA} {F L H : Hp} {μ : List Addr} {S : Store}
/-- a frozen list or tuple -/
theorem rep_tup {a : Addr} {xs : List D} {vs : List V} (h : SqT K F a vs) (hs : RDs K fa F μ xs vs) : Rep K fa (Itt K a) F μ (.fix xs) := by
  intro L F1 μ1 S1 H1 ys i e w q
  cases q
  have h1 := SqT.ext w.fz (SqT.ext e.fz h)
  refine ⟨fun z => ⟨vs, h1, by rw [← hs.length]; exact none_len z⟩, fun d hd => ?_⟩
  obtain ⟨v, hv, r⟩ := hs.get hd
  refine ⟨⟨vs, v, h1, hv⟩, fun x H2 y => ?_⟩
  obtain ⟨rfl, y⟩ := y
  have := y vs h1
  rw [hv] at this; cases this
  exact ⟨F1, μ1, .refl, w, r.ext e⟩
theorem rep_sql {a : Addr} {xs : List D} {vs : List V} (h : SqL K F a vs) (hs : RDs K fa F μ xs vs) : Rep K fa (Itl K a) F μ (.fix xs) := by
  intro L F1 μ1 S1 H1 ys i e w q
  cases q
  have h1 := SqL.ext w.fz (SqL.ext e.fz h)
  refine ⟨fun z => ⟨vs, h1, by rw [← hs.length]; exact none_len z⟩, fun d hd => ?_⟩
  obtain ⟨v, hv, r⟩ := hs.get hd
  refine ⟨⟨vs, v, h1, hv⟩, fun x H2 y => ?_⟩
  obtain ⟨rfl, y⟩ := y
  have := y vs h1
  rw [hv] at this; cases this
  exact ⟨F1, μ1, .refl, w, r.ext e⟩
/-- a list of the store, as it stands -/
theorem rep_live {a : Addr} {n : Nat} (h : μ[n]? = some a) : Rep K fa (Itl K a) F μ (.live n) := by
  intro L F1 μ1 S1 H1 ys i e w q
  have h1 := e.get h
  obtain ⟨o, ho⟩ := w.at h1
  cases o with
  | lst zs =>
    have q' : some zs = some ys := by simpa [srcL, seqL, ho] using q
    cases q'
    obtain ⟨u, hu, vs, rfl, hs⟩ := w.st n _ a ho h1
    refine ⟨fun z => ⟨vs, SqL.of hu, by rw [← hs.length]; exact none_len z⟩, fun d hd => ?_⟩
    obtain ⟨v, hv, r⟩ := hs.get hd
    refine ⟨⟨vs, v, SqL.of hu, hv⟩, fun x H2 y => ?_⟩
    obtain ⟨rfl, y⟩ := y
    have := y vs (SqL.of hu)
    rw [hv] at this; cases this
    exact ⟨F1, μ1, .refl, w, r⟩
  | dct t z kvs => simp [srcL, seqL, ho] at q
theorem rep_str {z : Str} (hz : PyData.strOk z = true) : Rep K fa (Its z) F μ (.fix (z.cps.toList.map fun c => .str ⟨#[c]⟩)) := by
  intro L F1 μ1 S1 H1 ys i e w q
  cases q
  refine ⟨fun z' => ?_, fun d hd => ?_⟩
  · have := none_len z'
    rw [List.length_map, Array.length_toList] at this
    exact this
  · rw [List.getElem?_map] at hd
    obtain ⟨c, hc, rfl⟩ := Option.map_eq_some_iff.mp hd
    rw [Array.getElem?_toList] at hc
    refine ⟨(Array.getElem?_eq_some_iff.mp hc).1, fun x H2 y => ?_⟩
    obtain ⟨rfl, c', hc', rfl⟩ := y
    rw [hc] at hc'; cases hc'
    exact ⟨F1, μ1, .refl, w, .str ⟨by rw [sizeLine_eq]; show 1 ≤ _; decide, sign_ok hz (by rw [Array.mem_toList_iff]; exact Array.mem_of_getElem? hc)⟩⟩
/-- iter(v) of a tree -/
theorem iter_D {pins : List (Addr × Obj)} {s : Shared} {σ : L2.St} {d : D} {x : V} {v : Value} {sr : Src} {R : It → Hp → Prop} (hcalm : X.calm = true) (I : Inv X pins σ H s) (w : WI X.K b.fa F b.L μ S H) (rv : RelV x v) (r : RD X.K b.fa F μ d x) (e : srcOf S d = some sr)
    (q : ∀ J, Rep X.K b.fa J F μ sr → R J H) : wpAny (model X.prog X.w) X.A (pyIter v) (PIE X pins σ tg R) X.xe s := by
  have lst : ∀ {a : Addr} {ws : List V}, SqL X.K H a ws → R (Itl X.K a) H → wpAny (model X.prog X.w) X.A (pyIter (.ref a)) (PIE X pins σ tg R) X.xe s := by
    intro a ws h1 q1
    obtain ⟨its, rv2, p, _⟩ := I.list h1
    refine wpAny_pyIter_list p.isList ⟨s.heap.objs.size, [s.heap.objs.size], _, _, H, rfl, I.kept (t' := s.toks) fun b o e => Heap.get?_push_of_some _ e, turn_list a _, ⟨_, Heap.get?_push_size _ rfl, rfl, rfl⟩, fun c hc => ?_, q1⟩
    rw [List.mem_singleton.mp hc]
    exact I.fpOk (Nat.le_refl _) (I.hok.fresh (Nat.le_refl _))
  cases r with
  | @tup a ws xs h hs =>
    cases e
    cases rv
    have h1 := SqT.of (K := X.K) (w.fz _ _ h)
    obtain ⟨its, rv2, p, _⟩ := I.tuple h1
    refine wpAny_pyIter_tuple (show s.heap.IsTuple a its.toArray from p) ⟨s.heap.objs.size, [s.heap.objs.size], _, _, H, rfl, I.kept (t' := s.toks) fun b o e => Heap.get?_push_of_some _ e, turn_tuple a _, ⟨_, Heap.get?_push_size _ rfl, rfl, rfl⟩, fun c hc => ?_, q _ (rep_tup (SqT.of h) hs)⟩
    rw [List.mem_singleton.mp hc]
    exact I.fpOk (Nat.le_refl _) (I.hok.fresh (Nat.le_refl _))
  | lst h hs =>
    cases e
    cases rv
    exact lst (SqL.of (w.fz _ _ h)) (q _ (rep_sql (SqL.of h) hs))
  | @ref n a h =>
    cases rv
    obtain ⟨o, ho⟩ := w.at h
    cases o with
    | lst ys =>
      have e : Src.live n = sr := by simpa [srcOf, ho] using e
      subst e
      obtain ⟨u, hu, vs, rfl, hs⟩ := w.st n _ a ho h
      exact lst (SqL.of hu) (q _ (rep_live h))
    | dct t z kvs => simp [srcOf, ho] at e
  | scr h =>
    cases e
    cases rv
    exact lst (SqL.ext w.fz h) (q _ (rep_sql h (RDs.of_ints _)))
  | @str z h =>
    cases e
    obtain ⟨t, rfl⟩ := rv
    cases ha : z.cps.all (· < 128)
    · exact wpAny_pyIter_wide ha (pi_one (tk := s.toks) I _ (turn_str _ z t "str_iterator" (.inr rfl)) ⟨_, Heap.get?_push_size _ rfl, rfl, rfl⟩ (q _ (rep_str h.2)))
    · exact wpAny_pyIter_ascii ha (pi_one (tk := s.toks) I _ (turn_str _ z t "str_ascii_iterator" (.inl rfl)) ⟨_, Heap.get?_push_size _ rfl, rfl, rfl⟩ (q _ (rep_str h.2)))
  | _ => cases e
theorem qi_itr {e : Expr} {w : ME1} (hcalm : X.calm = true) (h : QE X b e w) : QI X b tg e (fun env S Q => w env S fun x S1 => ∃ s, srcOf S1 x = some s ∧ Q s S1) := by
  refine ⟨⟨fun pins s σ H R I hw => ?_⟩⟩
  obtain ⟨F, μ, env, S, Q', a, q, k⟩ := hw
  refine thn (h.run pins s σ H F μ env S _ I a q) fun v s1 ⟨x, H1, F1, μ1, d1, S1, I1, rv1, e1, w1, r1, sr, es, q1⟩ => ?_
  exact iter_D hcalm I1 w1 rv1 r1 es fun J hJ => k J H1 F1 μ1 sr S1 e1 w1 hJ q1
/-! ranges -/
theorem rep_rng {lo : Int} {n : Nat} : Rep K fa (Itr lo n) F μ (.fix ((List.range n).map fun i => D.int (lo + (i : Nat)))) := by
  intro L F1 μ1 S1 H1 ys i e w q
  cases q
  refine ⟨fun z => ?_, fun d hd => ?_⟩
  · have := none_len z
    rw [List.length_map, List.length_range] at this
    exact this
  · rw [List.getElem?_map] at hd
    obtain ⟨c, hc, rfl⟩ := Option.map_eq_some_iff.mp hd
    obtain ⟨hi, hc'⟩ := List.getElem?_eq_some_iff.mp hc
    rw [List.length_range] at hi
    rw [List.getElem_range] at hc'
    subst hc'
    exact ⟨hi, fun x H2 y => by obtain ⟨rfl, rfl⟩ := y; exact ⟨F1, μ1, .refl, w, .int _⟩⟩
theorem rep_rngC {lo : Int} {n : Nat} : Rep K fa (Itc lo (-1) n) F μ (.fix ((List.range n).map fun i => D.int (lo - (i : Nat)))) := by
  intro L F1 μ1 S1 H1 ys i e w q
  cases q
  refine ⟨fun z => ?_, fun d hd => ?_⟩
  · have := none_len z
    rw [List.length_map, List.length_range] at this
    exact this
  · rw [List.getElem?_map] at hd
    obtain ⟨c, hc, rfl⟩ := Option.map_eq_some_iff.mp hd
    obtain ⟨hi, hc'⟩ := List.getElem?_eq_some_iff.mp hc
    rw [List.length_range] at hi
    rw [List.getElem_range] at hc'
    subst hc'
    refine ⟨hi, fun x H2 y => ?_⟩
    obtain ⟨rfl, rfl⟩ := y
    have e2 : lo + (i : Nat) * (-1) = lo - (i : Nat) := by omega
    rw [e2]
    exact ⟨F1, μ1, .refl, w, .int _⟩
theorem qi_rng1 {a : Expr} {wa : ME1} {p : Pos} (hg : Gl X "range") (hm : X.mg "range" = none) (ha : QE X b a wa) (hs : NoStar a) :
    QI X b tg (.Call (.Name "range" p) [a] [] pos) (fun env S Q => wa env S fun y S2 => ∃ i j, D.int 0 = .int i ∧ y = .int j ∧ rOk i ∧ rOk j ∧ Q (.fix (rngL i j)) S2) := by
  have h0 := pi_range1 (tg := tg) (p := p) (pos := pos) hg hm (pa_cons ha.pe pa_nil (star_cons hs _ _)) (star_cons hs _ _)
  refine ⟨⟨fun pins s σ H R I hw => h0.run pins s σ H R I ?_⟩⟩
  obtain ⟨F, μ, env, S, Q', at0, q, k⟩ := hw
  refine ⟨F, μ, env, S, _, at0, q, fun v H1 ⟨F1, μ1, d, S1, e1, w1, r1, i, j, ei, ej, o1, o2, q1⟩ => ?_⟩
  subst ej; cases ei; cases r1
  refine ⟨j, rfl, o2.1, o2.2, k _ H1 F1 μ1 _ S1 e1 w1 ?_ q1⟩
  have := rep_rng (K := X.K) (fa := b.fa) (F := F1) (μ := μ1) (lo := 0) (n := j.toNat)
  have e2 : rngL 0 j = (List.range j.toNat).map fun i => D.int (0 + (i : Nat)) := by unfold rngL; rw [Int.sub_zero]
  rw [e2]; exact this
theorem qi_rng2 {a c : Expr} {wa wc : ME1} {p : Pos} (hg : Gl X "range") (hm : X.mg "range" = none) (ha : QE X b a wa) (hc : QE X b c wc) (hs : NoStar a) (hs2 : NoStar c) :
    QI X b tg (.Call (.Name "range" p) [a, c] [] pos) (fun env S Q => wa env S fun x S1 => wc env S1 fun y S2 => ∃ i j, x = .int i ∧ y = .int j ∧ rOk i ∧ rOk j ∧ Q (.fix (rngL i j)) S2) := by
  have h0 := pi_range2 (tg := tg) (p := p) (pos := pos) hg hm (pa_cons ha.pe (pa_cons hc.pe pa_nil (star_cons hs2 _ _)) (star_cons hs _ _)) (by rw [star_cons hs, star_cons hs2]; rfl) (by rw [star_cons hs2]; rfl)
  refine ⟨⟨fun pins s σ H R I hw => h0.run pins s σ H R I ?_⟩⟩
  obtain ⟨F, μ, env, S, Q', at0, q, k⟩ := hw
  refine ⟨F, μ, env, S, _, at0, q, fun v H1 ⟨F1, μ1, d, S1, e1, w1, r1, q1⟩ => ⟨F1, μ1, env, S1, _, at0.step e1 w1, q1, fun v2 H2 ⟨F2, μ2, d2, S2, e2, w2, r2, i, j, ei, ej, o1, o2, q2⟩ => ?_⟩⟩
  subst ei ej; cases r1; cases r2
  exact ⟨i, j, rfl, ⟨o1.1, o1.2, o2.1, o2.2⟩, k _ H2 F2 μ2 _ S2 (e1.trans e2) w2 rep_rng q2⟩
theorem qi_rngD {a c : Expr} {wa wc : ME1} {p p1 p2 : Pos} {kk : Nat} (hg : Gl X "range") (hm : X.mg "range" = none) (ha : QE X b a wa) (hc : QE X b c wc) (hs : NoStar a) (hs2 : NoStar c) :
    QI X b tg (.Call (.Name "range" p) [a, c, .UnaryOp .USub (.Constant (.int 1) kk p1) p2] [] pos) (fun env S Q => wa env S fun x S1 => wc env S1 fun y S2 => ∃ i j, x = .int i ∧ y = .int j ∧ rOk i ∧ rOk j ∧ Q (.fix ((List.range (i - j).toNat).map fun k => D.int (i - (k : Nat)))) S2) := by
  have hm1 : PE X (.UnaryOp .USub (.Constant (.int 1) kk p1) p2) (tUn (rU fun i => .int (-i)) (tC (.int 1))) := pe_un un_neg pe_int
  have h0 := pi_range3 (tg := tg) (p := p) (pos := pos) hg hm (pa_cons ha.pe (pa_cons hc.pe (pa_cons hm1 pa_nil rfl) (star_cons hs2 _ _)) (star_cons hs _ _)) (star_cons hs _ _) (by rw [star_cons hs2]; rfl)
  refine ⟨⟨fun pins s σ H R I hw => h0.run pins s σ H R I ?_⟩⟩
  obtain ⟨F, μ, env, S, Q', at0, q, k⟩ := hw
  refine ⟨F, μ, env, S, _, at0, q, fun v H1 ⟨F1, μ1, d, S1, e1, w1, r1, q1⟩ => ⟨F1, μ1, env, S1, _, at0.step e1 w1, q1, fun v2 H2 ⟨F2, μ2, d2, S2, e2, w2, r2, i, j, ei, ej, o1, o2, q2⟩ => ?_⟩⟩
  subst ei ej; cases r1; cases r2
  exact ⟨1, rfl, i, j, -1, _, rfl, RgC.neg o1.1 o1.2 o2.1 o2.2, k _ H2 F2 μ2 _ S2 (e1.trans e2) w2 rep_rngC q2⟩
/-! zip -/
theorem zip_get {xs ys : List D} {i : Nat} {d : D} (h : (zipD xs ys)[i]? = some d) : ∃ x y, d = .tup [x, y] ∧ xs[i]? = some x ∧ ys[i]? = some y := by
  unfold zipD at h
  rw [List.getElem?_map] at h
  obtain ⟨p, hp, rfl⟩ := Option.map_eq_some_iff.mp h
  rw [List.getElem?_zip_eq_some] at hp
  exact ⟨p.1, p.2, rfl, hp.1, hp.2⟩
theorem zip_none {xs ys : List D} {i : Nat} (h : (zipD xs ys)[i]? = none) : xs.length ≤ i ∨ ys.length ≤ i := by
  have := none_len h
  unfold zipD at this
  rw [List.length_map, List.length_zip] at this
  omega
theorem pair_new (w : WI K fa F L μ S H) {x y : D} {vx vy : V} (rx : RD K fa F μ x vx) (ry : RD K fa F μ y vy) {T : Addr} (hT : H T = none) : ∃ F2 μ2, Ext F μ F2 μ2 ∧ WI K fa F2 L μ2 S (upd H T (.tup [vx, vy])) ∧ RD K fa F2 μ2 (.tup [x, y]) (.ref T) := by
  obtain ⟨w2, e2⟩ := w.newF (u := .tup [vx, vy]) hT
  exact ⟨_, μ, e2, w2, .tup upd_same (.cons (rx.ext e2) (.cons (ry.ext e2) .nil))⟩
theorem rep_zipT {a c : Addr} {xs ys : List D} {vs ws : List V} (h : SqT K F a vs) (hs : RDs K fa F μ xs vs) (h' : SqT K F c ws) (hs' : RDs K fa F μ ys ws) : Rep K fa (RZ.ItzT K a c) F μ (.fix (zipD xs ys)) := by
  intro L F1 μ1 S1 H1 zs i e w q
  cases q
  have h1 := SqT.ext w.fz (SqT.ext e.fz h)
  have h2 := SqT.ext w.fz (SqT.ext e.fz h')
  refine ⟨fun z => ⟨vs, ws, h1, h2, by rw [← hs.length, ← hs'.length]; exact zip_none z⟩, fun d hd => ?_⟩
  obtain ⟨x, y, rfl, hx, hy⟩ := zip_get hd
  obtain ⟨vx, hvx, rx⟩ := hs.get hx
  obtain ⟨vy, hvy, ry⟩ := hs'.get hy
  refine ⟨⟨vs, ws, vx, vy, h1, h2, hvx, hvy⟩, fun u H2 yl => ?_⟩
  obtain ⟨T, x', y', rfl, hT, rfl, g1, g2⟩ := yl
  have e1 := g1 vs h1
  have e2 := g2 ws h2
  rw [hvx] at e1; rw [hvy] at e2
  cases e1; cases e2
  exact pair_new w (rx.ext e) (ry.ext e) hT
/-- two rows, as they stand: lists -/
theorem rep_zipL {a c : Addr} {xs ys : List D} {vs ws : List V} (h : F a = some (.lst vs)) (hs : RDs K fa F μ xs vs) (h' : F c = some (.lst ws)) (hs' : RDs K fa F μ ys ws) : Rep K fa (Itz K a c) F μ (.fix (zipD xs ys)) := by
  intro L F1 μ1 S1 H1 zs i e w q
  cases q
  have h1 : SqL K H1 a vs := SqL.of (w.fz _ _ (e.fz _ _ h))
  have h2 : SqL K H1 c ws := SqL.of (w.fz _ _ (e.fz _ _ h'))
  refine ⟨fun z => ⟨vs, ws, h1, h2, by rw [← hs.length, ← hs'.length]; exact zip_none z⟩, fun d hd => ?_⟩
  obtain ⟨x, y, rfl, hx, hy⟩ := zip_get hd
  obtain ⟨vx, hvx, rx⟩ := hs.get hx
  obtain ⟨vy, hvy, ry⟩ := hs'.get hy
  refine ⟨⟨vs, ws, vx, vy, h1, h2, hvx, hvy⟩, fun u H2 yl => ?_⟩
  obtain ⟨T, x', y', rfl, hT, rfl, g1, g2⟩ := yl
  have e1 := g1 vs h1
  have e2 := g2 ws h2
  rw [hvx] at e1; rw [hvy] at e2
  cases e1; cases e2
  exact pair_new w (rx.ext e) (ry.ext e) hT
theorem qi_zip2 {a c : Expr} {wa wc : ME1} {p tpos : Pos} {elts : List Expr} {kk : Nat} (hg : Gl X "zip") (hm : X.mg "zip" = none) (ha : QE X b a wa) (hc : QE X b c wc) (hs : NoStar a) (hs2 : NoStar c) :
    QI X b (.Tuple elts kk tpos) (.Call (.Name "zip" p) [a, c] [] pos) (fun env S Q => wa env S fun x S1 => wc env S1 fun y S2 => ∃ xs ys, ((x = .tup xs ∧ y = .tup ys) ∨ (x = .lst xs ∧ y = .lst ys)) ∧ Q (.fix (zipD xs ys)) S2) := by
  have h0 := RZ.pi_zipA (X := X) (p := p) (pos := pos) (tpos := tpos) (elts := elts) (kk := kk) hg hm (pa_cons ha.pe (pa_cons hc.pe pa_nil (star_cons hs2 _ _)) (star_cons hs _ _)) (star_cons hs _ _) (by rw [star_cons hs2]; rfl)
  refine ⟨⟨fun pins s σ H R I hw => h0.run pins s σ H R I ?_⟩⟩
  obtain ⟨F, μ, env, S, Q', at0, q, k⟩ := hw
  refine ⟨F, μ, env, S, _, at0, q, fun v H1 ⟨F1, μ1, d, S1, e1, w1, r1, q1⟩ => ⟨F1, μ1, env, S1, _, at0.step e1 w1, q1, fun v2 H2 ⟨F2, μ2, d2, S2, e2, w2, r2, xs, ys, ec, q2⟩ => ?_⟩⟩
  have r1' := r1.ext e2
  rcases ec with ⟨rfl, rfl⟩ | ⟨rfl, rfl⟩
  · cases r1' with
    | tup h hs => cases r2 with
      | tup h' hs' => exact ⟨_, _, _, _, rfl, .inr ⟨SqT.of (w2.fz _ _ h), SqT.of (w2.fz _ _ h'), k _ H2 F2 μ2 _ S2 (e1.trans e2) w2 (rep_zipT (SqT.of h) hs (SqT.of h') hs') q2⟩⟩
  · cases r1' with
    | lst h hs => cases r2 with
      | lst h' hs' => exact ⟨_, _, _, _, rfl, .inl ⟨SqL.of (w2.fz _ _ h), SqL.of (w2.fz _ _ h'), k _ H2 F2 μ2 _ S2 (e1.trans e2) w2 (rep_zipL h hs h' hs') q2⟩⟩
end
end Mp

set_option Elab.async false
set_option linter.all false
set_option maxRecDepth 100000
set_option maxHeartbeats 2000000
/-! M, part 10b: enumerate. -/
namespace PySem
open Sem (wp)
namespace EnuM
variable {pr : Program} {wl : World} {Ar : Around} {Er : Value → Shared → Prop} {sh : Shared}
/-- the cell of a new enumerate over the iterator at i -/
def cell (i : Addr) : Obj := { cls := .type "enumerate", data := .fields #[.none, .bool false, .ref i, rawInt 0, .none, .none] }
theorem new1 {u : Value} {ob : Obj} {G : Heap → Prop} (B : Begins u ob G) :
    Meets (Builtin.«enumerate.__new__» ⟨[.type "enumerate", u], []⟩) (fun _ R s => G s.heap ∧ R (.ok (.ret (.ref (s.heap.push ob).objs.size))) { s with heap := (s.heap.push ob).push (cell s.heap.objs.size) }) := .of_wp fun pr wl Ar R s hh => by
  obtain ⟨hp, g, d, tk, os⟩ := s
  obtain ⟨hg, hr⟩ := hh
  have sb := sub_enumerate
  have it : ∀ {A2 : Around} {E2 : Value → Shared → Prop} {Q2 : Value → Shared → Prop}, Q2 (.ref hp.objs.size) ⟨hp.push ob, g, d, tk, os⟩ → wpAny (model pr wl) A2 (pyIter u) Q2 E2 ⟨hp, g, d, tk, os⟩ := fun q => B.iter pr wl _ _ ⟨hp, g, d, tk, os⟩ _ hg q
  wp_walk using it
  refine wpAny_stack_any fun _ => wpAny_pure ?_
  split
  · rename_i cl _ _ _ _ _
    cases (cl == Value.type "enumerate")
    all_goals
      wp_walk using it
      exact ⟨_, rfl, hr⟩
  · wp_walk using it
    exact ⟨_, rfl, hr⟩
theorem made1 {u : Value} {ob : Obj} {G : Heap → Prop} {Q : Value → Shared → Prop} (B : Begins u ob G) (hg : G sh.heap)
    (q : ∀ h2, IsEnum h2 (sh.heap.objs.size + 1) sh.heap.objs.size 0 .none → h2.get? sh.heap.objs.size = some ob → h2.objs.size = sh.heap.objs.size + 2 → (∀ c x, sh.heap.get? c = some x → h2.get? c = some x) → Q (.ref (sh.heap.objs.size + 1)) { sh with heap := h2 }) :
    wpAny (model pr wl) Ar (call (.type "enumerate") [u]) Q Er sh := by
  refine callType_new F.called_enumerate (by decide) (F.typeCall_enumerate_1 _) (F.newCall_enumerate_1 _) (fun z => F.args_object_init_2 z _) F.entry_enumerate_new (new1 B) ⟨hg, ?_⟩
  have sz : (sh.heap.push ob).objs.size = sh.heap.objs.size + 1 := Heap.size_push ..
  show _ ∧ _
  rw [sz]
  have en : IsEnum ((sh.heap.push ob).push (cell sh.heap.objs.size)) (sh.heap.objs.size + 1) sh.heap.objs.size 0 .none := by
    have k := Heap.get?_push_size (sh.heap.push ob) (o := cell sh.heap.objs.size) rfl
    rw [sz] at k; exact k
  exact ⟨⟨_, en, rfl⟩, q _ en (Heap.get?_push_of_some _ (Heap.get?_push_size _ B.free)) (by rw [Heap.size_push, sz]) fun c x z => Heap.get?_push_of_some _ (Heap.get?_push_of_some _ z)⟩
end EnuM
end PySem
namespace Mp
open PySem PySem.Spec PyProof.Rows L2
/-- the tuple at a as it stands at each turn, each item in a new pair -/
def IteT (K : PySem.W.Frag) (a : Addr) : It :=
  ⟨fun i H => ∃ (xs : List V) (x : V), SqT K H a xs ∧ xs[i]? = some x, fun i H v H2 => ∃ T x, v = .ref T ∧ H T = none ∧ H2 = upd H T (.tup [.int (i : Nat), x]) ∧ ∀ xs, SqT K H a xs → xs[i]? = some x, fun i H => ∃ xs : List V, SqT K H a xs ∧ xs.length ≤ i⟩
theorem turn_enuT {P : Program} {w : World} {K : PySem.W.Frag} {ts : List Expr} {kk : Nat} {tp : Pos} (a en it : Addr) (hai : a ≠ it) (hae : a ≠ en) :
    Turn P w K (.Tuple ts kk tp) (IteT K a) [en, it] en (fun i h => (∃ old, IsEnum h en it ((i : Nat) : Int) old) ∧ h.IsTupleIter it a i ∧ en ≠ it) where
  mem := by simp
  obj := fun i h st b hb => by
    obtain ⟨⟨old, he⟩, ⟨o, ho, hc, hd⟩, _⟩ := st
    rcases (show b = en ∨ b = it by simpa using hb) with rfl | rfl
    · exact ⟨_, he, fun v q => nomatch q⟩
    · exact ⟨o, ho, fun v q => by rw [hd] at q; cases q⟩
  keep := fun i h h' st k => let ⟨⟨old, he⟩, hi, hne⟩ := st; ⟨⟨old, k en (by simp) _ he⟩, hi.at fun o q => k it (by simp) o q, hne⟩
  item := by
    intro X hP hw hK hc i pins s σ H E I hf st hg
    subst hP hw hK
    obtain ⟨⟨old, he⟩, hit, hne⟩ := st
    obtain ⟨xs, x, hq, hx⟩ := hg
    obtain ⟨its, rv, p, _⟩ := I.tuple hq
    obtain ⟨u, hu, ru⟩ := rv.get hx
    have p' : s.heap.IsTuple a its.toArray := p
    have hel : en < s.heap.objs.size := Heap.lt_size he
    have hil : it < s.heap.objs.size := by obtain ⟨_, q, _⟩ := hit; exact Heap.lt_size q
    have hlt : i < its.toArray.size := by
      have := (List.getElem?_eq_some_iff.mp hu).1
      simpa using this
    refine wpAny_pyNext_enum_itemC (Draws.tuple (A := X.A.in1) (show X.A.in1.handled = none from I.ok.hd hc) it a hai its.toArray) he ⟨hit, p'⟩ hlt hne (by simp [hne, Ne.symm hae]) fun x' h' tk hx' ho st' hT hsz hk => ?_
    have exu : x' = u := by
      have : its[i]? = some x' := by simpa using hx'
      rw [hu] at this; exact (Option.some.inj this).symm
    subst exu
    refine ⟨_, rfl, wpAny_letOwnedTupleGo_enum (s := { s with heap := h', toks := tk + 1 }) ho fun h2 he2 sb => ?_⟩
    have hT2 : h2.get? s.heap.objs.size = some { cls := .type "tuple", data := .seq #[.int i tk, x'] } := (sb.2 _ (Nat.ne_of_gt hel)).trans hT
    have new : ObjOk X.prog X.w (upd H s.heap.objs.size (.tup [.int (i : Nat), x])) h2 s.heap.objs.size (.tup [.int (i : Nat), x]) := ⟨by show 2 ≤ sizeLine; rw [sizeLine_eq]; decide, [.int i tk, x'], .cons ⟨_, rfl⟩ (.cons ru .nil), ⟨_, hT2, rfl, _, rfl⟩⟩
    have I1 := I.turnedNew (t' := tk + 1) (ch := [en, it]) (fun b ob hb q => (sb.2 b (fun z => hb (by simp [z]))).trans (hk b ob (fun z => hb (by simp [z])) (fun z => hb (by simp [z])) q)) hf (Nat.le_refl _) new
    refine ⟨.ref s.heap.objs.size, _, I1, rfl, ⟨_, x, rfl, I.hok.fresh (Nat.le_refl _), rfl, fun ys hy => by rw [I.tuple_inj hy hq]; exact hx⟩, ⟨⟨x', ?_⟩, st'.1.at fun o q => (sb.2 it (Ne.symm hne)).trans q, hne⟩, fun b hb => ?_⟩
    · rw [show ((i + 1 : Nat) : Int) = (i : Int) + 1 by omega]
      exact he2
    · have hb' : b < s.heap.objs.size := by
        rcases (show b = en ∨ b = it by simpa using hb) with rfl | rfl
        · exact hel
        · exact hil
      rw [upd_ne (Nat.ne_of_lt hb')]
      exact (hf b hb).1
  done := by
    intro X hP hw hK hc i pins s σ H E I hf st hg
    subst hP hw hK
    obtain ⟨⟨old, he⟩, hit, hne⟩ := st
    obtain ⟨xs, hq, hx⟩ := hg
    obtain ⟨its, rv, p, _⟩ := I.tuple hq
    have p' : s.heap.IsTuple a its.toArray := p
    obtain ⟨f0, f1, f2, f3, f4, f5⟩ := hf it (by simp)
    have hl := rv.length
    have hnone : its.toArray[i]? = none := by simp; omega
    have DD : Draws X.prog X.w X.A.in1 it [it, a] i (fun _ _ => True) (fun j h => j = i ∧ h.IsTupleIter it a i ∧ h.IsTuple a its.toArray) :=
      { live := fun _ _ st => let ⟨o, ho, _⟩ := st.2.1; ⟨o, ho⟩
        frame := fun _ _ _ st hk => ⟨st.1, st.2.1.at fun o e => hk it (by simp) o e, st.2.2.at fun o e => hk a (by simp) o e⟩
        item := fun j s Q E hj st _ => absurd st.1 (by omega)
        done := fun s Q E st hE => wpAny_nextOf_tuple_end (show X.A.in1.handled = none from I.ok.hd hc) st.2.1 st.2.2 hnone hE }
    exact wpAny_pyNext_enum_endD DD he ⟨rfl, hit, p'⟩ fun h' eb => ⟨rfl, I.turned (t' := s.toks) (fun b o hb q => eb b o hb q) f0 f1 f3 f4 f5⟩
  self := fun A i s Q E st h => let ⟨⟨_, he⟩, _⟩ := st; wpAny_pyIter_enum he h
def iEnuA (K : PySem.W.Frag) (ta : TA) : TI := fun σ H R => ta σ H fun vs H1 => ∃ a xs, vs = [.ref a] ∧ ((SqL K H1 a xs ∧ R (Ite K a) H1) ∨ (SqT K H1 a xs ∧ R (IteT K a) H1))
theorem pi_enuA {X : Cx} {e : Expr} {ta : TA} {p pos tpos : Pos} {ts : List Expr} {kk : Nat} (hg : Gl X "enumerate") (hm : X.mg "enumerate" = none) (ha : PA X [e] ta) (hs : starEach [e] X.env = [(false, eval e X.env)]) :
    PI X (.Tuple ts kk tpos) (.Call (.Name "enumerate" p) [e] [] pos) (iEnuA X.K ta) := by
  refine ⟨fun pins s σ H R I h => ?_⟩
  refine Call_ (ld_blt I hg hm boot_enumerate (PyProof.Rows.callWith_type1 (thn (ha.run pos pins s σ H _ I h) fun us s1 ⟨vs, H1, I1, r1, a, xs, ex, q⟩ => ?_) hs rfl))
  subst ex
  cases r1 with
  | cons r rr =>
    cases rr
    cases r
    have fp : ∀ b, b ∈ [s1.heap.objs.size + 1, s1.heap.objs.size] → FpOk X pins H1 b := fun b hb => by
      have hle : s1.heap.objs.size ≤ b := by
        rcases (show b = s1.heap.objs.size + 1 ∨ b = s1.heap.objs.size by simpa using hb) with z | z <;> omega
      exact I1.fpOk hle (I1.hok.fresh hle)
    rcases q with ⟨hq, q⟩ | ⟨hq, q⟩
    · obtain ⟨its, rv, p', hz⟩ := I1.list hq
      refine call_enumerate_list p'.isList fun h' he hit hsz hk => wpAny_pyIter_enum he ?_
      have I2 : Inv X pins σ H1 { s1 with heap := h' } := I1.kept (t' := s1.toks) hk
      exact ⟨s1.heap.objs.size + 1, [s1.heap.objs.size + 1, s1.heap.objs.size], _, _, H1, rfl, I2, turn_enum a (s1.heap.objs.size + 1) s1.heap.objs.size, ⟨⟨.none, he⟩, hit, Nat.succ_ne_self _⟩, fp, q⟩
    · obtain ⟨its, rv, p', hz⟩ := I1.tuple hq
      have p2 : s1.heap.IsTuple a its.toArray := p'
      have hal : a < s1.heap.objs.size := by obtain ⟨o, ho, _⟩ := id p2; exact Heap.lt_size ho
      refine EnuM.made1 (begins_tuple a its.toArray) p2 fun h' he hob hsz hk => wpAny_pyIter_enum he ?_
      have I2 : Inv X pins σ H1 { s1 with heap := h' } := I1.kept (t' := s1.toks) hk
      exact ⟨s1.heap.objs.size + 1, [s1.heap.objs.size + 1, s1.heap.objs.size], _, _, H1, rfl, I2, turn_enuT a (s1.heap.objs.size + 1) s1.heap.objs.size (Nat.ne_of_lt hal) (Nat.ne_of_lt (Nat.lt_succ_of_lt hal)), ⟨⟨.none, he⟩, ⟨_, hob, rfl, rfl⟩, Nat.succ_ne_self _⟩, fp, q⟩
section
variable {X : Cx} {b : MB} {pos : Pos} {tg : Expr}
variable {K : PySem.W.Frag} {fa : FA} {F L H : Hp} {μ : List Addr} {S : Store}
theorem pairs_get : ∀ {xs : List D} {n i : Nat}, (pairs n xs)[i]? = (xs[i]?).map fun x => .tup [.int ((n + i : Nat) : Int), x] := by
  intro xs
  induction xs with
  | nil => intro n i; simp [pairs]
  | cons x r ih =>
    intro n i
    cases i with
    | zero => simp [pairs]
    | succ i => simp only [pairs, List.getElem?_cons_succ, ih]; rw [show n + 1 + i = n + (i + 1) by omega]
theorem pairs_len : ∀ {xs : List D} {n : Nat}, (pairs n xs).length = xs.length := by
  intro xs
  induction xs with
  | nil => intro n; rfl
  | cons x r ih => intro n; simp [pairs, ih]
theorem rep_enuL {a : Addr} {xs : List D} {vs : List V} (h : F a = some (.lst vs)) (hs : RDs K fa F μ xs vs) : Rep K fa (Ite K a) F μ (.fix (pairs 0 xs)) := by
  intro L F1 μ1 S1 H1 zs i e w q
  cases q
  have h1 : SqL K H1 a vs := SqL.of (w.fz _ _ (e.fz _ _ h))
  refine ⟨fun z => ⟨vs, h1, by have := none_len z; rw [pairs_len] at this; rw [← hs.length]; exact this⟩, fun d hd => ?_⟩
  rw [pairs_get] at hd
  obtain ⟨x, hx, rfl⟩ := Option.map_eq_some_iff.mp hd
  obtain ⟨v, hv, r⟩ := hs.get hx
  refine ⟨⟨vs, v, h1, hv⟩, fun u H2 y => ?_⟩
  obtain ⟨T, x', rfl, hT, rfl, g⟩ := y
  have e1 := g vs h1
  rw [hv] at e1; cases e1
  rw [Nat.zero_add]
  exact pair_new w (.int _) (r.ext e) hT
theorem rep_enuT {a : Addr} {xs : List D} {vs : List V} (h : SqT K F a vs) (hs : RDs K fa F μ xs vs) : Rep K fa (IteT K a) F μ (.fix (pairs 0 xs)) := by
  intro L F1 μ1 S1 H1 zs i e w q
  cases q
  have h1 := SqT.ext w.fz (SqT.ext e.fz h)
  refine ⟨fun z => ⟨vs, h1, by have := none_len z; rw [pairs_len] at this; rw [← hs.length]; exact this⟩, fun d hd => ?_⟩
  rw [pairs_get] at hd
  obtain ⟨x, hx, rfl⟩ := Option.map_eq_some_iff.mp hd
  obtain ⟨v, hv, r⟩ := hs.get hx
  refine ⟨⟨vs, v, h1, hv⟩, fun u H2 y => ?_⟩
  obtain ⟨T, x', rfl, hT, rfl, g⟩ := y
  have e1 := g vs h1
  rw [hv] at e1; cases e1
  rw [Nat.zero_add]
  exact pair_new w (.int _) (r.ext e) hT
theorem rep_enuM {a : Addr} {n : Nat} (h : μ[n]? = some a) : Rep K fa (Ite K a) F μ (.enl n) := by
  intro L F1 μ1 S1 H1 zs i e w q
  have h0 := e.get h
  obtain ⟨o, ho⟩ := w.at h0
  cases o with
  | dct t z kvs => simp [srcL, seqL, ho] at q
  | lst xs =>
    have q' : some (pairs 0 xs) = some zs := by simpa [srcL, seqL, ho] using q
    cases q'
    obtain ⟨u, hu, vs, rfl, hs⟩ := w.st n _ a ho h0
    have h1 : SqL K H1 a vs := SqL.of hu
    refine ⟨fun z => ⟨vs, h1, by have := none_len z; rw [pairs_len] at this; rw [← hs.length]; exact this⟩, fun d hd => ?_⟩
    rw [pairs_get] at hd
    obtain ⟨x, hx, rfl⟩ := Option.map_eq_some_iff.mp hd
    obtain ⟨v, hv, r⟩ := hs.get hx
    refine ⟨⟨vs, v, h1, hv⟩, fun u H2 y => ?_⟩
    obtain ⟨T, x', rfl, hT, rfl, g⟩ := y
    have e1 := g vs h1
    rw [hv] at e1; cases e1
    rw [Nat.zero_add]
    exact pair_new w (.int _) r hT
theorem qi_enl {a : Expr} {wa : ME1} {p tpos : Pos} {ts : List Expr} {kk : Nat} (hg : Gl X "enumerate") (hm : X.mg "enumerate" = none) (ha : QE X b a wa) (hs : NoStar a) :
    QI X b (.Tuple ts kk tpos) (.Call (.Name "enumerate" p) [a] [] pos) (fun env S Q => wa env S fun x S1 => ∃ n xs, x = .ref n ∧ S1[n]? = some (.lst xs) ∧ Q (.enl n) S1) := by
  have h0 := pi_enuA (X := X) (p := p) (pos := pos) (tpos := tpos) (ts := ts) (kk := kk) hg hm (pa_cons ha.pe pa_nil (star_cons hs _ _)) (star_cons hs _ _)
  refine ⟨⟨fun pins s σ H R I hw => h0.run pins s σ H R I ?_⟩⟩
  obtain ⟨F, μ, env, S, Q', at0, q, k⟩ := hw
  refine ⟨F, μ, env, S, _, at0, q, fun v H1 ⟨F1, μ1, d, S1, e1, w1, r1, n, xs, ed, hS, q1⟩ => ?_⟩
  subst ed
  cases r1 with
  | @ref n a h =>
    obtain ⟨u, hu, vs, rfl, hs2⟩ := w1.st n _ a hS h
    exact ⟨_, vs, rfl, .inl ⟨SqL.of hu, k _ H1 F1 μ1 _ S1 e1 w1 (rep_enuM h) q1⟩⟩
theorem qi_enm {a : Expr} {wa : ME1} {p tpos : Pos} {ts : List Expr} {kk : Nat} (hg : Gl X "enumerate") (hm : X.mg "enumerate" = none) (ha : QE X b a wa) (hs : NoStar a) :
    QI X b (.Tuple ts kk tpos) (.Call (.Name "enumerate" p) [a] [] pos) (fun env S Q => wa env S fun x S1 => ∃ xs, (x = .tup xs ∨ x = .lst xs) ∧ Q (.fix (pairs 0 xs)) S1) := by
  have h0 := pi_enuA (X := X) (p := p) (pos := pos) (tpos := tpos) (ts := ts) (kk := kk) hg hm (pa_cons ha.pe pa_nil (star_cons hs _ _)) (star_cons hs _ _)
  refine ⟨⟨fun pins s σ H R I hw => h0.run pins s σ H R I ?_⟩⟩
  obtain ⟨F, μ, env, S, Q', at0, q, k⟩ := hw
  refine ⟨F, μ, env, S, _, at0, q, fun v H1 ⟨F1, μ1, d, S1, e1, w1, r1, xs, ec, q1⟩ => ?_⟩
  rcases ec with rfl | rfl
  · cases r1 with
    | tup h hs => exact ⟨_, _, rfl, .inr ⟨SqT.of (w1.fz _ _ h), k _ H1 F1 μ1 _ S1 e1 w1 (rep_enuT (SqT.of h) hs) q1⟩⟩
  · cases r1 with
    | lst h hs => exact ⟨_, _, rfl, .inl ⟨SqL.of (w1.fz _ _ h), k _ H1 F1 μ1 _ S1 e1 w1 (rep_enuL h hs) q1⟩⟩
end
end Mp

set_option Elab.async false
set_option linter.all false
set_option maxRecDepth 100000
set_option maxHeartbeats 2000000
/-! M, part 10c: zip of two rows, each a tuple or a list. -/
namespace Mp
open PySem PySem.Spec PyProof.Rows L2
def RowS (K : PySem.W.Frag) (H : Hp) : Bool → Addr → List V → Prop
  | true, a, xs => SqT K H a xs
  | false, a, xs => SqL K H a xs
def IterS (h : Heap) : Bool → Addr → Addr → Nat → Prop
  | true, it, a, i => h.IsTupleIter it a i
  | false, it, a, i => h.IsListIter it a i
def ObjS (h : Heap) : Bool → Addr → Array Value → Prop
  | true, a, xs => h.IsTuple a xs
  | false, a, xs => h.IsList a xs
def cellS : Bool → Addr → Obj
  | true, a => { cls := .type "tuple_iterator", data := .fields #[.ref a, .int 0 0] }
  | false, a => { cls := .type "list_iterator", data := .fields #[.ref a, .int 0 0] }
theorem drawS {prog : Program} {w : World} {A : Around} (hh : A.handled = none) : ∀ (k : Bool) (it a : Addr) (hne : a ≠ it) (its : Array Value), Draws prog w A it [it, a] its.size (fun i v => its[i]? = some v) (fun i h => IterS h k it a i ∧ ObjS h k a its)
  | true, it, a, hne, its => Draws.tuple hh it a hne its
  | false, it, a, hne, its => Draws.list hh it a hne its
theorem beginS : ∀ (k : Bool) (a : Addr) (its : Array Value), Begins (.ref a) (cellS k a) fun h => ObjS h k a its
  | true, a, its => begins_tuple a its
  | false, a, its => begins_list a its
theorem iterS_new : ∀ {k : Bool} {h : Heap} {it a : Addr}, h.get? it = some (cellS k a) → IterS h k it a 0
  | true, h, it, a, e => ⟨_, e, rfl, rfl⟩
  | false, h, it, a, e => ⟨_, e, rfl, rfl⟩
theorem iterS_at : ∀ {k : Bool} {h h' : Heap} {it a : Addr} {i : Nat}, IterS h k it a i → (∀ o, h.get? it = some o → h'.get? it = some o) → IterS h' k it a i
  | true, h, h', it, a, i, e, k => e.at k
  | false, h, h', it, a, i, e, k => e.at k
theorem iterS_obj : ∀ {k : Bool} {h : Heap} {it a : Addr} {i : Nat}, IterS h k it a i → ∃ o, h.get? it = some o ∧ ∀ v, o.data ≠ .cell v
  | true, h, it, a, i, ⟨o, ho, _, hd⟩ => ⟨o, ho, fun v q => by rw [hd] at q; cases q⟩
  | false, h, it, a, i, ⟨o, ho, _, hd⟩ => ⟨o, ho, fun v q => by rw [hd] at q; cases q⟩
theorem objS_lt : ∀ {k : Bool} {h : Heap} {a : Addr} {its : Array Value}, ObjS h k a its → a < h.objs.size
  | true, h, a, its, e => by obtain ⟨o, ho, _⟩ := e; exact Heap.lt_size ho
  | false, h, a, its, e => by obtain ⟨o, ho, _⟩ := e; exact Heap.lt_size ho
theorem drawEnd {prog : Program} {w : World} {A : Around} (hh : A.handled = none) : ∀ (k : Bool) (it a : Addr) (its : Array Value) (i : Nat), its.size ≤ i → Draws prog w A it [it, a] i (fun _ _ => True) (fun j h => j = i ∧ IterS h k it a i ∧ ObjS h k a its)
  | true, it, a, its, i, hi =>
    { live := fun _ _ st => let ⟨o, ho, _⟩ := st.2.1; ⟨o, ho⟩
      frame := fun _ _ _ st hk => ⟨st.1, Heap.IsTupleIter.at st.2.1 fun o e => hk it (by simp) o e, Heap.IsTuple.at st.2.2 fun o e => hk a (by simp) o e⟩
      item := fun j s Q E hj st _ => absurd st.1 (by omega)
      done := fun s Q E st hE => wpAny_nextOf_tuple_end hh st.2.1 st.2.2 (by simp; omega) hE }
  | false, it, a, its, i, hi =>
    { live := fun _ _ st => let ⟨o, ho, _⟩ := st.2.1; ⟨o, ho⟩
      frame := fun _ _ _ st hk => ⟨st.1, Heap.IsListIter.at st.2.1 fun o e => hk it (by simp) o e, Heap.IsList.at st.2.2 fun o e => hk a (by simp) o e⟩
      item := fun j s Q E hj st _ => absurd st.1 (by omega)
      done := fun s Q E st hE => wpAny_nextOf_list_end hh st.2.1 st.2.2 (by simp; omega) hE }
theorem drawAny {prog : Program} {w : World} {A : Around} (hh : A.handled = none) {k : Bool} {it a : Addr} {its : Array Value} {i : Nat} {h : Heap} (hne : a ≠ it) (e : IterS h k it a i) (p : ObjS h k a its) :
    ∃ n P St, Draws prog w A it [it, a] n P St ∧ St i h ∧ i ≤ n ∧ (its.size ≤ i → i = n) := by
  by_cases hi : its.size ≤ i
  · exact ⟨i, _, _, drawEnd hh k it a its i hi, ⟨rfl, e, p⟩, Nat.le_refl _, fun _ => rfl⟩
  · exact ⟨its.size, _, _, drawS hh k it a hne its, ⟨e, p⟩, by omega, fun h => absurd h hi⟩
theorem rowS_at {X : Cx} {pins : List (Addr × Obj)} {σ : L2.St} {H : Hp} {s : Shared} (I : Inv X pins σ H s) : ∀ {k : Bool} {a : Addr} {xs : List V}, RowS X.K H k a xs → ∃ its, Vals xs its ∧ ObjS s.heap k a its.toArray
  | true, a, xs, q => by obtain ⟨its, rv, p, _⟩ := I.tuple q; exact ⟨its, rv, p⟩
  | false, a, xs, q => by obtain ⟨its, rv, p, _⟩ := I.list q; exact ⟨its, rv, p.isList⟩
theorem rowS_inj {X : Cx} {pins : List (Addr × Obj)} {σ : L2.St} {H : Hp} {s : Shared} (I : Inv X pins σ H s) : ∀ {k : Bool} {a : Addr} {xs ys : List V}, RowS X.K H k a xs → RowS X.K H k a ys → xs = ys
  | true, a, xs, ys, h, h' => I.tuple_inj h h'
  | false, a, xs, ys, h, h' => I.list_inj h h'
/-- the rows at a and b as they stand at each turn, the items in new pairs -/
def ItzS (K : PySem.W.Frag) (k1 k2 : Bool) (a b : Addr) : It :=
  ⟨fun i H => ∃ (xs ys : List V) (x y : V), RowS K H k1 a xs ∧ RowS K H k2 b ys ∧ xs[i]? = some x ∧ ys[i]? = some y,
    fun i H v H2 => ∃ T x y, v = .ref T ∧ H T = none ∧ H2 = upd H T (.tup [x, y]) ∧ (∀ xs, RowS K H k1 a xs → xs[i]? = some x) ∧ ∀ ys, RowS K H k2 b ys → ys[i]? = some y,
    fun i H => ∃ xs ys : List V, RowS K H k1 a xs ∧ RowS K H k2 b ys ∧ (xs.length ≤ i ∨ ys.length ≤ i)⟩
theorem turn_zipS {P : Program} {w : World} {K : PySem.W.Frag} {ts : List Expr} {kk : Nat} {tp : Pos} {k1 k2 : Bool} {a b z TI TO i1 i2 : Addr} (D : ZipSep2 z TI TO i1 i2 [i1, a] [i2, b]) (h1 : a ≠ i1) (h2 : b ≠ i2) :
    Turn P w K (.Tuple ts kk tp) (ItzS K k1 k2 a b) [z, TI, TO, i1, i2] z (fun i h => IsZip h z TI TO .none ∧ IsTupOf2 h TI (.ref i1) (.ref i2) ∧ (∃ x y, IsTupOf2 h TO x y) ∧ IterS h k1 i1 a i ∧ IterS h k2 i2 b i) where
  mem := by simp
  obj := fun i h st c hc => by
    obtain ⟨hz, hTI, ⟨x, y, hTO⟩, e1, e2⟩ := st
    rcases (show c = z ∨ c = TI ∨ c = TO ∨ c = i1 ∨ c = i2 by simpa using hc) with q | q | q | q | q
    · rw [q]; exact ⟨_, hz, fun v q => nomatch q⟩
    · rw [q]; exact ⟨_, hTI, fun v q => nomatch q⟩
    · rw [q]; exact ⟨_, hTO, fun v q => nomatch q⟩
    · rw [q]; exact iterS_obj e1
    · rw [q]; exact iterS_obj e2
  keep := fun i h h' st k => by
    obtain ⟨hz, hTI, ⟨x, y, hTO⟩, e1, e2⟩ := st
    exact ⟨k z (by simp) _ hz, k TI (by simp) _ hTI, ⟨x, y, k TO (by simp) _ hTO⟩, iterS_at e1 fun o q => k i1 (by simp) o q, iterS_at e2 fun o q => k i2 (by simp) o q⟩
  item := by
    intro X hP hw hK hc i pins s σ H E I hf st hg
    subst hP hw hK
    obtain ⟨hz, hTI, ⟨x0, y0, hTO⟩, e1, e2⟩ := st
    obtain ⟨xs, ys, x, y, hqx, hqy, hx, hy⟩ := hg
    obtain ⟨its, rv, p⟩ := rowS_at I hqx
    obtain ⟨its2, rv2, p2⟩ := rowS_at I hqy
    obtain ⟨u, hu, ru⟩ := rv.get hx
    obtain ⟨u2, hu2, ru2⟩ := rv2.get hy
    have hzl : z < s.heap.objs.size := Heap.lt_size hz
    have lt1 : i < its.toArray.size := by have := (List.getElem?_eq_some_iff.mp hu).1; simpa using this
    have lt2 : i < its2.toArray.size := by have := (List.getElem?_eq_some_iff.mp hu2).1; simpa using this
    refine wpAny_pyNext_zipD2_item D (drawS (A := X.A.in1) (show X.A.in1.handled = none from I.ok.hd hc) k1 i1 a h1 its.toArray) (drawS (A := X.A.in1) (show X.A.in1.handled = none from I.ok.hd hc) k2 i2 b h2 its2.toArray) hz hTI hTO ⟨e1, p⟩ ⟨e2, p2⟩ lt1 lt2 fun v1 v2 h' tk q1 q2 z' TO' s1 s2 hT hsz hk => ?_
    have ev1 : v1 = u := by
      have : its[i]? = some v1 := by simpa using q1
      rw [hu] at this; exact (Option.some.inj this).symm
    have ev2 : v2 = u2 := by
      have : its2[i]? = some v2 := by simpa using q2
      rw [hu2] at this; exact (Option.some.inj this).symm
    subst ev1 ev2
    refine ⟨_, rfl, wpAny_letOwnedTupleGo_zip (s := { s with heap := h', toks := tk }) z' fun h3 z3 sb => ?_⟩
    have hT2 : h3.get? s.heap.objs.size = some { cls := .type "tuple", data := .seq #[v1, v2] } := (sb.2 _ (Nat.ne_of_gt hzl)).trans hT
    have new : ObjOk X.prog X.w (upd H s.heap.objs.size (.tup [x, y])) h3 s.heap.objs.size (.tup [x, y]) := ⟨by show 2 ≤ sizeLine; rw [sizeLine_eq]; decide, [v1, v2], .cons ru (.cons ru2 .nil), ⟨_, hT2, rfl, _, rfl⟩⟩
    have I1 := I.turnedNew (t' := tk) (ch := [z, TI, TO, i1, i2]) (fun c o hb q => (sb.2 c (fun q' => hb (by simp [q']))).trans (hk c o (fun q' => hb (by simp [q'])) (fun q' => hb (by simp [q'])) (fun q' => hb (by simp [q'])) (fun q' => hb (by simp [q'])) q)) hf (Nat.le_refl _) new
    refine ⟨.ref s.heap.objs.size, _, I1, rfl, ⟨_, x, y, rfl, I.hok.fresh (Nat.le_refl _), rfl, fun l hl => by rw [rowS_inj I hl hqx]; exact hx, fun l hl => by rw [rowS_inj I hl hqy]; exact hy⟩, ⟨z3, ?_, ⟨v1, v2, ?_⟩, ?_, ?_⟩, fun c hcm => ?_⟩
    · exact (sb.2 _ D.TIz).trans (hk _ _ D.TIz D.TITO D.TIi1 D.TIi2 hTI)
    · exact (sb.2 _ D.TOz).trans TO'
    · exact iterS_at s1.1 fun o q => (sb.2 _ (Ne.symm D.zi1)).trans q
    · exact iterS_at s2.1 fun o q => (sb.2 _ (Ne.symm D.zi2)).trans q
    · have hlt : c < s.heap.objs.size := by
        rcases (show c = z ∨ c = TI ∨ c = TO ∨ c = i1 ∨ c = i2 by simpa using hcm) with q | q | q | q | q
        · rw [q]; exact hzl
        · rw [q]; exact Heap.lt_size hTI
        · rw [q]; exact Heap.lt_size hTO
        · rw [q]; obtain ⟨_, e, _⟩ := iterS_obj e1; exact Heap.lt_size e
        · rw [q]; obtain ⟨_, e, _⟩ := iterS_obj e2; exact Heap.lt_size e
      rw [upd_ne (Nat.ne_of_lt hlt)]
      exact (hf c hcm).1
  done := by
    intro X hP hw hK hc i pins s σ H E I hf st hg
    subst hP hw hK
    obtain ⟨hz, hTI, ⟨x0, y0, hTO⟩, e1, e2⟩ := st
    obtain ⟨xs, ys, hqx, hqy, hend⟩ := hg
    obtain ⟨its, rv, p⟩ := rowS_at I hqx
    obtain ⟨its2, rv2, p2⟩ := rowS_at I hqy
    have r1 := rv.length
    have r2 := rv2.length
    have hd : X.A.in1.handled = none := I.ok.hd hc
    obtain ⟨n1, P1, St1, D1, s1, m1, z1⟩ := drawAny (prog := X.prog) (w := X.w) (A := X.A.in1) hd h1 e1 p
    obtain ⟨n2, P2, St2, D2, s2, m2, z2⟩ := drawAny (prog := X.prog) (w := X.w) (A := X.A.in1) hd h2 e2 p2
    simp only [List.size_toArray] at z1 z2
    exact wpAny_pyNext_zipD2_end D D1 D2 hz hTI hTO s1 s2 m1 m2 (by rcases hend with q | q; exact .inl (z1 (by omega)); exact .inr (z2 (by omega)))
      fun h' tk hk => ⟨rfl, I.turnedL (t' := tk) (ch := [z, TI, TO, i1, i2]) (fun c o hb q => hk c o (fun q' => hb (by simp [q'])) (fun q' => hb (by simp [q'])) (fun q' => hb (by simp [q'])) (fun q' => hb (by simp [q'])) q) hf⟩
  self := fun A i s Q E st h => wpAny_pyIter_zip st.1 h
def iZipS (K : PySem.W.Frag) (ta : TA) : TI := fun σ H R => ta σ H fun vs H1 => ∃ k1 k2 a b xs ys, vs = [.ref a, .ref b] ∧ RowS K H1 k1 a xs ∧ RowS K H1 k2 b ys ∧ R (ItzS K k1 k2 a b) H1
theorem pi_zipS {X : Cx} {e e2 : Expr} {ta : TA} {p pos tpos : Pos} {ts : List Expr} {kk : Nat} (hg : Gl X "zip") (hm : X.mg "zip" = none) (ha : PA X [e, e2] ta)
    (hs : starEach [e, e2] X.env = (false, eval e X.env) :: starEach [e2] X.env) (hpl : (backTo pos (starEach [e2] X.env)).any (·.1) = false) : PI X (.Tuple ts kk tpos) (.Call (.Name "zip" p) [e, e2] [] pos) (iZipS X.K ta) := by
  refine ⟨fun pins s σ H R I h => ?_⟩
  refine Call_ (ld_blt I hg hm PyProof.Rows.boot_zip (PyProof.Rows.callWith_type1 (thn (ha.run pos pins s σ H _ I h) fun us s1 ⟨vs, H1, I1, r1, k1, k2, a, b, xs, ys, ex, hqx, hqy, q⟩ => ?_) hs hpl))
  subst ex
  cases r1 with
  | cons r rr =>
    cases rr with
    | cons r' rr =>
      cases rr
      cases r
      cases r'
      obtain ⟨its, rv, p1⟩ := rowS_at I1 hqx
      obtain ⟨its2, rv2, p2⟩ := rowS_at I1 hqy
      have la := objS_lt p1
      have lb := objS_lt p2
      have fp : ∀ c, c ∈ [s1.heap.objs.size + 4, s1.heap.objs.size + 2, s1.heap.objs.size + 3, s1.heap.objs.size, s1.heap.objs.size + 1] → FpOk X pins H1 c := fun c hcm => by
        have hle : s1.heap.objs.size ≤ c := by
          rcases (show c = s1.heap.objs.size + 4 ∨ c = s1.heap.objs.size + 2 ∨ c = s1.heap.objs.size + 3 ∨ c = s1.heap.objs.size ∨ c = s1.heap.objs.size + 1 by simpa using hcm) with z | z | z | z | z <;> rw [z] <;> first | exact Nat.le_refl _ | exact Nat.le_add_right _ _
        exact I1.fpOk hle (I1.hok.fresh hle)
      refine zip_begins2 (beginS k1 a its.toArray) (beginS k2 b its2.toArray) p1 p2 fun h' hz hTI hTO c1 c2 hsz hk => wpAny_pyIter_zip hz ?_
      have I2 : Inv X pins σ H1 { s1 with heap := h' } := I1.kept (t' := s1.toks) hk
      exact ⟨s1.heap.objs.size + 4, [s1.heap.objs.size + 4, s1.heap.objs.size + 2, s1.heap.objs.size + 3, s1.heap.objs.size, s1.heap.objs.size + 1], _, _, H1, rfl, I2,
        turn_zipS (zip_sep2 (fp1 := [a]) (fp2 := [b]) (fun c hc => by rw [List.mem_singleton.mp hc]; exact la) (fun c hc => by rw [List.mem_singleton.mp hc]; exact lb)) (Nat.ne_of_lt la) (Nat.ne_of_lt (Nat.lt_succ_of_lt lb)),
        ⟨hz, hTI, ⟨_, _, hTO⟩, iterS_new c1, iterS_new c2⟩, fp, q⟩
section
variable {X : Cx} {b : MB} {pos : Pos} {tg : Expr}
variable {K : PySem.W.Frag} {fa : FA} {F L H : Hp} {μ : List Addr} {S : Store}
/-- a frozen row -/
def isRow (x : D) (xs : List D) : Prop := x = .tup xs ∨ x = .lst xs
theorem rowS_of {x : D} {xs : List D} {v : V} (h : isRow x xs) (r : RD K fa F μ x v) : ∃ k a vs, v = .ref a ∧ RDs K fa F μ xs vs ∧ ∀ (F' H' : Hp), (∀ c o, F c = some o → F' c = some o) → (∀ c o, F' c = some o → H' c = some o) → RowS K H' k a vs := by
  rcases h with rfl | rfl
  · cases r with
    | tup h hs => exact ⟨true, _, _, rfl, hs, fun F' H' e e' => SqT.ext e' (SqT.ext e (SqT.of h))⟩
  · cases r with
    | lst h hs => exact ⟨false, _, _, rfl, hs, fun F' H' e e' => SqL.of (e' _ _ (e _ _ h))⟩
theorem rep_zipS {k1 k2 : Bool} {a c : Addr} {xs ys : List D} {vs ws : List V} (h : ∀ (F' H' : Hp), (∀ c o, F c = some o → F' c = some o) → (∀ c o, F' c = some o → H' c = some o) → RowS K H' k1 a vs) (hs : RDs K fa F μ xs vs)
    (h' : ∀ (F' H' : Hp), (∀ c o, F c = some o → F' c = some o) → (∀ c o, F' c = some o → H' c = some o) → RowS K H' k2 c ws) (hs' : RDs K fa F μ ys ws) : Rep K fa (ItzS K k1 k2 a c) F μ (.fix (zipD xs ys)) := by
  intro L F1 μ1 S1 H1 zs i e w q
  cases q
  have h1 := h F1 H1 e.fz w.fz
  have h2 := h' F1 H1 e.fz w.fz
  refine ⟨fun z => ⟨vs, ws, h1, h2, by rw [← hs.length, ← hs'.length]; exact zip_none z⟩, fun d hd => ?_⟩
  obtain ⟨x, y, rfl, hx, hy⟩ := zip_get hd
  obtain ⟨vx, hvx, rx⟩ := hs.get hx
  obtain ⟨vy, hvy, ry⟩ := hs'.get hy
  refine ⟨⟨vs, ws, vx, vy, h1, h2, hvx, hvy⟩, fun u H2 yl => ?_⟩
  obtain ⟨T, x', y', rfl, hT, rfl, g1, g2⟩ := yl
  have e1 := g1 vs h1
  have e2 := g2 ws h2
  rw [hvx] at e1; rw [hvy] at e2
  cases e1; cases e2
  exact pair_new w (rx.ext e) (ry.ext e) hT
theorem qi_zipS {a c : Expr} {wa wc : ME1} {p tpos : Pos} {ts : List Expr} {kk : Nat} (hg : Gl X "zip") (hm : X.mg "zip" = none) (ha : QE X b a wa) (hc : QE X b c wc) (hs : NoStar a) (hs2 : NoStar c) :
    QI X b (.Tuple ts kk tpos) (.Call (.Name "zip" p) [a, c] [] pos) (fun env S Q => wa env S fun x S1 => wc env S1 fun y S2 => ∃ xs ys, (x = .tup xs ∨ x = .lst xs) ∧ (y = .tup ys ∨ y = .lst ys) ∧ Q (.fix (zipD xs ys)) S2) := by
  have h0 := pi_zipS (X := X) (p := p) (pos := pos) (tpos := tpos) (ts := ts) (kk := kk) hg hm (pa_cons ha.pe (pa_cons hc.pe pa_nil (star_cons hs2 _ _)) (star_cons hs _ _)) (star_cons hs _ _) (by rw [star_cons hs2]; rfl)
  refine ⟨⟨fun pins s σ H R I hw => h0.run pins s σ H R I ?_⟩⟩
  obtain ⟨F, μ, env, S, Q', at0, q, k⟩ := hw
  refine ⟨F, μ, env, S, _, at0, q, fun v H1 ⟨F1, μ1, d, S1, e1, w1, r1, q1⟩ => ⟨F1, μ1, env, S1, _, at0.step e1 w1, q1, fun v2 H2 ⟨F2, μ2, d2, S2, e2, w2, r2, xs, ys, hx, hy, q2⟩ => ?_⟩⟩
  obtain ⟨k1, a1, vs, rfl, hs1, g1⟩ := rowS_of hx (r1.ext e2)
  obtain ⟨k2, a2, ws, rfl, hs2', g2⟩ := rowS_of hy r2
  exact ⟨k1, k2, a1, a2, vs, ws, rfl, g1 F2 H2 (fun _ _ z => z) w2.fz, g2 F2 H2 (fun _ _ z => z) w2.fz, k _ H2 F2 μ2 _ S2 (e1.trans e2) w2 (rep_zipS g1 hs1 g2 hs2') q2⟩
end
end Mp

set_option Elab.async false
set_option linter.all false
set_option maxRecDepth 100000
set_option maxHeartbeats 1000000
/-! M, part 11: list comprehensions. -/
namespace Mp
open PySem PySem.Spec PyProof.Rows L2

/-! ### readings for every world's lot -/
def liftX (K : PySem.W.Frag) (fa : FA) (w : ME1) : TE := fun σ H Q => ∃ b : MB, b.fa = fa ∧ lift K b w σ H Q
def PostTH (K : PySem.W.Frag) (b : MB) (F : Hp) (μ : List Addr) (Q : MK) : Bool → Hp → Prop := fun k H' =>
  ∃ F' μ' d S', Ext F μ F' μ' ∧ WI K b.fa F' b.L μ' S' H' ∧ tru S' d = some k ∧ Q d S'
def liftT (K : PySem.W.Frag) (b : MB) (w : ME1) : TT := fun σ H Q => ∃ F μ env S Q', At K b F μ S H env σ ∧ w env S Q' ∧ (∀ d S', Q' d S' → ∃ k, tru S' d = some k) ∧ ∀ k H', PostTH K b F μ Q' k H' → Q k H'
def liftTX (K : PySem.W.Frag) (fa : FA) (w : ME1) : TT := fun σ H Q => ∃ b : MB, b.fa = fa ∧ liftT K b w σ H Q
def liftIX (K : PySem.W.Frag) (fa : FA) (w : MI) : TI := fun σ H R => ∃ b : MB, b.fa = fa ∧ liftI K b w σ H R
theorem peX {X : Cx} {fa : FA} {e : Expr} {w : ME1} (h : ∀ b : MB, b.fa = fa → QE X b e w) : PE X e (liftX X.K fa w) :=
  ⟨fun pins s σ H Q I ⟨b, hb, hw⟩ => (h b hb).pe.run pins s σ H Q I hw⟩
theorem QT.pt {X : Cx} {b : MB} {e : Expr} {w : ME1} (h : QT X b e w) : PT X e (liftT X.K b w) := by
  refine ⟨fun pins s σ H Q I hw => ?_⟩
  obtain ⟨F, μ, env, S, Q', a, q, ht, k⟩ := hw
  exact thn (h.run pins s σ H F μ env S Q' I a q ht) fun c s1 ⟨H1, F1, μ1, d, S1, I1, e1, w1, t1, q1⟩ => ⟨H1, I1, k c H1 ⟨F1, μ1, d, S1, e1, w1, t1, q1⟩⟩
theorem ptX {X : Cx} {fa : FA} {e : Expr} {w : ME1} (h : ∀ b : MB, b.fa = fa → QT X b e w) : PT X e (liftTX X.K fa w) :=
  ⟨fun pins s σ H Q I ⟨b, hb, hw⟩ => (h b hb).pt.run pins s σ H Q I hw⟩
theorem piX {X : Cx} {fa : FA} {tg e : Expr} {w : MI} (h : ∀ b : MB, b.fa = fa → QI X b tg e w) : PI X tg e (liftIX X.K fa w) :=
  ⟨fun pins s σ H R I ⟨b, hb, hw⟩ => (h b hb).pi.run pins s σ H R I hw⟩

section
variable {K : PySem.W.Frag} {fa : FA} {F L H : Hp} {μ : List Addr} {S : Store}
theorem RelE.wipe {env : DEnv} {σ : L2.St} (h : RelE K fa F μ env σ) : ∀ vs : List Nat, RelE K fa F μ (wipeD env vs) (L2.wipe σ vs)
  | [] => h
  | v :: vs => by
    have ih := RelE.wipe h vs
    refine ⟨?_, fun j e q => ?_⟩
    · rw [wipeD, L2.wipe, List.length_set, List.length_set]; exact ih.1
    · rw [wipeD] at q
      rw [L2.wipe]
      by_cases z : j = v
      · subst z
        have hl : j < (wipeD env vs).length := by
          have := (List.getElem?_eq_some_iff.mp q).1
          rwa [List.length_set] at this
        rw [List.getElem?_set_self hl] at q
        cases q
      · rw [List.getElem?_set_ne (Ne.symm z)] at q
        rw [List.getElem?_set_ne (Ne.symm z)]
        exact ih.2 j e q
/-- the measure of a walk over a source that stays as it is, while the list at D grows -/
theorem gen_W {J : It} {sr : Src} {xs : List D} {f : D → Store → List D → (List D → Store → Prop) → Prop} {Q : List D → Store → Prop} {Da : Addr} (B : V → Hp → (Hp → Prop) → Prop) (fin : Hp → Prop)
    (hJ : Rep K fa J F μ sr)
    (hB : ∀ F1 μ1 S1 H1 acc accV d x (P : List D → Store → Prop) (Nx : Hp → Prop), Ext F μ F1 μ1 → WI K fa F1 (upd L Da (.lst accV)) μ1 S1 H1 → RDs K fa F1 μ1 acc accV → RD K fa F1 μ1 d x → f d S1 acc P →
      (∀ F2 μ2 S2 H2 acc2 accV2, Ext F1 μ1 F2 μ2 → WI K fa F2 (upd L Da (.lst accV2)) μ2 S2 H2 → RDs K fa F2 μ2 acc2 accV2 → srcL S2 sr = some xs → P acc2 S2 → Nx H2) → B x H1 Nx)
    (hfin : ∀ F1 μ1 S1 H1 acc accV, Ext F μ F1 μ1 → WI K fa F1 (upd L Da (.lst accV)) μ1 S1 H1 → RDs K fa F1 μ1 acc accV → Q acc S1 → fin H1)
    {acc0 : List D} {accV0 : List V} (w0 : WI K fa F (upd L Da (.lst accV0)) μ S H) (r0 : RDs K fa F μ acc0 accV0) (s0 : srcL S sr = some xs) (g0 : genL f xs S acc0 Q) :
    ∃ W : Nat → Nat → Hp → Prop, (∃ m, W 0 m H) ∧ ∀ i m H, W i m H → (J.stop i H ∧ fin H) ∨ (J.go i H ∧ ∃ Nx : Hp → Prop, (∀ H', Nx H' → ∃ m', m' < m ∧ W (i + 1) m' H') ∧ ∀ x H', J.yld i H x H' → B x H' Nx) := by
  refine ⟨fun i m H1 => m = xs.length - i ∧ ∃ F1 μ1 S1 acc accV, Ext F μ F1 μ1 ∧ WI K fa F1 (upd L Da (.lst accV)) μ1 S1 H1 ∧ RDs K fa F1 μ1 acc accV ∧ srcL S1 sr = some xs ∧ genL f (xs.drop i) S1 acc Q,
    ⟨xs.length, rfl, F, μ, S, acc0, accV0, .refl, w0, r0, s0, g0⟩, fun i m H1 hW => ?_⟩
  obtain ⟨rfl, F1, μ1, S1, acc, accV, e1, w1, r1, s1, g1⟩ := hW
  have hr := hJ _ F1 μ1 S1 H1 xs i e1 w1 s1
  cases hx : xs[i]? with
  | none =>
    refine .inl ⟨hr.1 hx, ?_⟩
    rw [List.drop_eq_nil_of_le (none_len hx)] at g1
    exact hfin F1 μ1 S1 H1 acc accV e1 w1 r1 g1
  | some d =>
    obtain ⟨hi, hd⟩ := List.getElem?_eq_some_iff.mp hx
    obtain ⟨go, yl⟩ := hr.2 d hx
    refine .inr ⟨go, fun H' => ∃ F2 μ2 S2 acc2 accV2, Ext F μ F2 μ2 ∧ WI K fa F2 (upd L Da (.lst accV2)) μ2 S2 H' ∧ RDs K fa F2 μ2 acc2 accV2 ∧ srcL S2 sr = some xs ∧ genL f (xs.drop (i + 1)) S2 acc2 Q,
      fun H' ⟨F2, μ2, S2, acc2, accV2, e2, w2, r2, s2, g2⟩ => ⟨xs.length - (i + 1), by omega, rfl, F2, μ2, S2, acc2, accV2, e2, w2, r2, s2, g2⟩, fun x H2 y => ?_⟩
    obtain ⟨F2, μ2, e2, w2, rx⟩ := yl x H2 y
    rw [List.drop_eq_getElem_cons hi, hd, genL] at g1
    refine hB F2 μ2 S1 H2 acc accV d x _ _ (e1.trans e2) w2 (r1.ext e2) rx g1 ?_
    intro F3 μ3 S3 H3 acc3 accV3 e3 w3 r3 s3 q3
    exact ⟨F3, μ3, S3, acc3, accV3, (e1.trans e2).trans e3, w3, r3, s3, q3⟩
end

theorem wipe_sub {τ : L2.St} {own : List Nat} : ∀ {vs : List Nat}, (∀ v ∈ vs, v ∈ own) → L2.wipe (L2.wipe τ vs) own = L2.wipe τ own
  | [], _ => rfl
  | v :: vs, h => by
    rw [show L2.wipe τ (v :: vs) = (L2.wipe τ vs).set v none from rfl, wipe_set (h v List.mem_cons_self)]
    exact wipe_sub fun u hu => h u (List.mem_cons_of_mem _ hu)
/-- one clause's turn -/
abbrev turn1 (own : List Nat) (t : MT) (env : DEnv) (wk : ME1) (wg : DEnv → Store → List D → (List D → Store → Prop) → Prop) (s : Src) (xs : List D) : D → Store → List D → (List D → Store → Prop) → Prop :=
  fun x S2 acc2 Q2 => tgt t x (wipeD env own) S2 fun env2 => wk env2 S2 fun y S3 => tst S3 y fun p =>
      if p = true then wg env2 S3 acc2 fun acc3 S4 => srcL S4 s = some xs ∧ Q2 acc3 S4 else srcL S3 s = some xs ∧ Q2 acc2 S3
abbrev wGend (we : ME1) : DEnv → Store → List D → (List D → Store → Prop) → Prop := fun env S acc Q => we env S fun d S1 => acc.length < sizeLine ∧ Q (acc ++ [d]) S1
section
variable {K : PySem.W.Frag} {fa : FA} {F L H : Hp} {μ : List Addr} {S : Store}
/-- the innermost turn: the list at D gets one more, or not -/
theorem turn_in {own : List Nat} {t : MT} {env : DEnv} {wk we : ME1} {sr : Src} {xs : List D} {σ : L2.St} {Da : Addr} {accV : List V} {acc : List D} {d : D} {x : V} {P : List D → Store → Prop} {Nx : Hp → Prop} (hL : L Da = none)
    (hs : ∀ i ∈ slots t, i ∈ own) (re : RelE K fa F μ env σ) (w : WI K fa F (upd L Da (.lst accV)) μ S H) (r : RDs K fa F μ acc accV) (rx : RD K fa F μ d x) (hf : turn1 own t env wk (wGend we) sr xs d S acc P)
    (k : ∀ F2 μ2 S2 H2 acc2 accV2, Ext F μ F2 μ2 → WI K fa F2 (upd L Da (.lst accV2)) μ2 S2 H2 → RDs K fa F2 μ2 acc2 accV2 → srcL S2 sr = some xs → P acc2 S2 → Nx H2) :
    gT K t x (L2.wipe σ own) H fun σ2 H2 => L2.wipe σ2 own = L2.wipe σ own ∧ liftTX K fa wk σ2 H2 fun b H3 =>
      if b = true then liftX K fa we σ2 H3 fun y H4 => ∃ acc, H4 Da = some (.lst acc) ∧ acc.length < sizeLine ∧ Nx (upd H4 Da (.lst (acc ++ [y]))) else Nx H3 := by
  refine gT_mono ?_ (tgt_ok w t rx (re.wipe own) hf)
  rintro σ2 H2 ⟨eH, env2, re2, q2, hw2⟩
  subst eH
  have ww : ∀ τ : L2.St, L2.wipe (L2.wipe τ own) own = L2.wipe τ own := fun τ => wipe_sub fun _ z => z
  refine ⟨by rw [hw2 own hs, ww], ⟨fa, upd L Da (.lst accV), F, μ⟩, rfl, F, μ, env2, S, _, ⟨w, re2, .refl⟩, q2, fun d1 S1 h1 => tst_tru h1, ?_⟩
  rintro kk H3 ⟨F3, μ3, d3, S3, e3, w3, t3, q3⟩
  have q3 := tst_at q3 t3
  cases kk with
  | false =>
    simp only [Bool.false_eq_true, if_false] at q3 ⊢
    exact k F3 μ3 S3 H3 acc accV e3 w3 (r.ext e3) q3.1 q3.2
  | true =>
    simp only [if_true] at q3 ⊢
    refine ⟨⟨fa, upd L Da (.lst accV), F3, μ3⟩, rfl, F3, μ3, env2, S3, _, ⟨w3, re2.ext e3, .refl⟩, q3, ?_⟩
    rintro y H4 ⟨F4, μ4, d4, S4, e4, w4, r4, z4, s4, p4⟩
    have w4 : WI K fa F4 (upd L Da (.lst accV)) μ4 S4 H4 := w4
    obtain ⟨hD, wu⟩ := w4.unlock hL
    have r' := (r.ext e3).ext e4
    refine ⟨accV, hD, by rw [← r'.length]; exact z4, ?_⟩
    have wn := wu.lock (u := .lst (accV ++ [y])) without_same
    have eu : upd (without H4 Da) Da (.lst (accV ++ [y])) = upd H4 Da (.lst (accV ++ [y])) := by
      funext c
      by_cases z : c = Da
      · subst z; rw [upd_same, upd_same]
      · rw [upd_ne z, upd_ne z, without_ne z]
    rw [eu] at wn
    exact k F4 μ4 S4 _ (acc ++ [d4]) (accV ++ [y]) (e3.trans e4) wn (r'.append (.cons r4 .nil)) s4 p4
/-- the whole, one clause -/
theorem lc_ok {X : Cx} {b : MB} {elt tg iter : Expr} {ifs : List Expr} {scope : Scope} {own : List (Str × Nat)} {pos : Pos} {t : MT} {wi : MI} {wk we : ME1} {m : Bool} (hc : X.calm = true) (hN : X.N.Nodup) (hi : QI X b tg iter wi) (ok : BlkOk X.N X.env.scope scope own) (hsl : ∀ i ∈ slots t, i ∈ own.map (·.2))
    (hg : ∀ (s : Shared) (H : Hp) (C : Addr) (cl : List (Str × Addr)) (fp : List Addr), PG (X.blk s H scope (compEnvC scope cl C X.env) fp) tg (gT X.K t))
    (ht : ∀ (s : Shared) (H : Hp) (C : Addr) (cl : List (Str × Addr)) (fp : List Addr), PTs (X.blk s H scope (compEnvC scope cl C X.env) fp) ifs (liftTX X.K b.fa wk))
    (he : ∀ (s : Shared) (H : Hp) (C : Addr) (cl : List (Str × Addr)) (fp : List Addr), PE (X.blk s H scope (compEnvC scope cl C X.env) fp) elt (liftX X.K b.fa we)) (hs : ∀ x, foldedSetIterable iter X.env x = pure x := by intro _; rfl) :
    (PE X (.ListComp elt [⟨tg, iter, ifs, 0⟩] scope pos) (tLc (liftI X.K b wi) (gT X.K t) (liftTX X.K b.fa wk) (liftX X.K b.fa we) (own.map (·.2)))) ∧
    ∀ F μ env S Q σ H, At X.K b F μ S H env σ → wi env S (fun s S1 => ∃ xs, srcL S1 s = some xs ∧ genL (turn1 (own.map (·.2)) t env wk (wGend we) s xs) xs S1 [] fun zs S9 => mkL m zs S9 Q) →
      tLc (liftI X.K b wi) (gT X.K t) (liftTX X.K b.fa wk) (liftX X.K b.fa we) (own.map (·.2)) σ H (PostH X.K b F μ Q) := by
  refine ⟨pe_lc hc hN hi.pi ok hg ht he hs, fun F μ env S Q σ H a hw => ?_⟩
  refine ⟨F, μ, env, S, _, a, hw, fun J H1 F1 μ1 sr S1 e1 w1 rep q => ?_⟩
  obtain ⟨xs, s1, g1⟩ := q
  intro Da hD
  have hL := w1.notL hD
  refine gen_W (L := b.L) (Da := Da) (fun x H2 Nx => gT X.K t x (L2.wipe σ (own.map (·.2))) H2 fun σ2 H2 => L2.wipe σ2 (own.map (·.2)) = L2.wipe σ (own.map (·.2)) ∧ liftTX X.K b.fa wk σ2 H2 fun b1 H3 =>
      if b1 = true then liftX X.K b.fa we σ2 H3 fun y H4 => ∃ acc, H4 Da = some (.lst acc) ∧ acc.length < sizeLine ∧ Nx (upd H4 Da (.lst (acc ++ [y]))) else Nx H3) _ rep ?_ ?_ (w1.lock (u := .lst []) hD) .nil s1 g1
  · intro F2 μ2 S2 H2 acc accV d x P Nx e2 w2 r2 rx hf hk
    exact turn_in hL hsl ((a.re.ext e1).ext e2) w2 r2 rx hf hk
  · intro F2 μ2 S2 H2 acc accV e2 w2 r2 q2
    obtain ⟨hH, wu⟩ := w2.unlock hL
    have := postLst (b := b) wu r2 q2 without_same
    rw [upd_without hH] at this
    exact postH_mono (e1.trans e2) this
end
end Mp

set_option Elab.async false
set_option linter.all false
set_option maxRecDepth 100000
set_option maxHeartbeats 1000000
/-! M, part 11b: list comprehensions of two clauses. -/
namespace Mp
open PySem PySem.Spec PyProof.Rows L2
abbrev wGfor (own : List Nat) (t : MT) (wi : MI) (wk : ME1) (wg : DEnv → Store → List D → (List D → Store → Prop) → Prop) : DEnv → Store → List D → (List D → Store → Prop) → Prop :=
  fun env S acc Q => wi env S fun s S1 => ∃ xs, srcL S1 s = some xs ∧ genL (turn1 own t env wk wg s xs) xs S1 acc Q
section
variable {K : PySem.W.Frag} {fa : FA} {F L H : Hp} {μ : List Addr} {S : Store}
theorem lc2_ok {X : Cx} {b : MB} {elt tg iter tg1 iter1 : Expr} {ifs ifs1 : List Expr} {scope : Scope} {own : List (Str × Nat)} {vs1 : List Nat} {pos : Pos} {t t1 : MT} {wi wi1 : MI} {wk wk1 we : ME1} {m : Bool} (hc : X.calm = true) (hN : X.N.Nodup) (hi : QI X b tg iter wi) (ok : BlkOk X.N X.env.scope scope own) (hsl : ∀ i ∈ slots t, i ∈ own.map (·.2))
    (hv : ∀ i ∈ vs1, i ∈ own.map (·.2)) (hsl1 : ∀ i ∈ slots t1, i ∈ vs1)
    (hg : ∀ (s : Shared) (H : Hp) (C : Addr) (cl : List (Str × Addr)) (fp : List Addr), PG (X.blk s H scope (compEnvC scope cl C X.env) fp) tg (gT X.K t))
    (ht : ∀ (s : Shared) (H : Hp) (C : Addr) (cl : List (Str × Addr)) (fp : List Addr), PTs (X.blk s H scope (compEnvC scope cl C X.env) fp) ifs (liftTX X.K b.fa wk))
    (hi1 : ∀ (s : Shared) (H : Hp) (C : Addr) (cl : List (Str × Addr)) (fp : List Addr), PI (X.blk s H scope (compEnvC scope cl C X.env) fp) tg1 iter1 (liftIX X.K b.fa wi1))
    (hg1 : ∀ (s : Shared) (H : Hp) (C : Addr) (cl : List (Str × Addr)) (fp : List Addr), PG (X.blk s H scope (compEnvC scope cl C X.env) fp) tg1 (gT X.K t1))
    (ht1 : ∀ (s : Shared) (H : Hp) (C : Addr) (cl : List (Str × Addr)) (fp : List Addr), PTs (X.blk s H scope (compEnvC scope cl C X.env) fp) ifs1 (liftTX X.K b.fa wk1))
    (he : ∀ (s : Shared) (H : Hp) (C : Addr) (cl : List (Str × Addr)) (fp : List Addr), PE (X.blk s H scope (compEnvC scope cl C X.env) fp) elt (liftX X.K b.fa we)) (hs : ∀ x, foldedSetIterable iter X.env x = pure x := by intro _; rfl) (hs1 : ∀ env x, foldedSetIterable iter1 env x = pure x := by intro _ _; rfl) :
    (PE X (.ListComp elt [⟨tg, iter, ifs, 0⟩, ⟨tg1, iter1, ifs1, 0⟩] scope pos) (tLc2 (liftI X.K b wi) (gT X.K t) (liftTX X.K b.fa wk) (liftIX X.K b.fa wi1) (gT X.K t1) (liftTX X.K b.fa wk1) (liftX X.K b.fa we) (own.map (·.2)) vs1)) ∧
    ∀ F μ env S Q σ H, At X.K b F μ S H env σ → wi env S (fun s S1 => ∃ xs, srcL S1 s = some xs ∧ genL (turn1 (own.map (·.2)) t env wk (wGfor vs1 t1 wi1 wk1 (wGend we)) s xs) xs S1 [] fun zs S9 => mkL m zs S9 Q) →
      tLc2 (liftI X.K b wi) (gT X.K t) (liftTX X.K b.fa wk) (liftIX X.K b.fa wi1) (gT X.K t1) (liftTX X.K b.fa wk1) (liftX X.K b.fa we) (own.map (·.2)) vs1 σ H (PostH X.K b F μ Q) := by
  refine ⟨pe_lc2 hc hN hi.pi ok hv hg ht hi1 hg1 ht1 he hs hs1, fun F μ env S Q σ H a hw => ?_⟩
  refine ⟨F, μ, env, S, _, a, hw, fun J H1 F1 μ1 sr S1 e1 w1 rep q => ?_⟩
  obtain ⟨xs, s1, g1⟩ := q
  intro Da hD
  have hL := w1.notL hD
  refine gen_W (L := b.L) (Da := Da) (fun x H2 Nx => gT X.K t x (L2.wipe σ (own.map (·.2))) H2 fun σ2 H2 => L2.wipe σ2 (own.map (·.2)) = L2.wipe σ (own.map (·.2)) ∧ liftTX X.K b.fa wk σ2 H2 fun b1 H3 =>
      if b1 = true then liftIX X.K b.fa wi1 σ2 H3 fun J1 H4 => ∃ W1 : Nat → Nat → Hp → Prop, (∃ m, W1 0 m H4) ∧ ∀ j k H, W1 j k H →
        (J1.stop j H ∧ Nx H) ∨ (J1.go j H ∧ ∃ Nx1 : Hp → Prop, (∀ H', Nx1 H' → ∃ k', k' < k ∧ W1 (j + 1) k' H') ∧ ∀ x H', J1.yld j H x H' → gT X.K t1 x (L2.wipe σ2 vs1) H' fun σ3 H5 => L2.wipe σ3 vs1 = L2.wipe σ2 vs1 ∧ liftTX X.K b.fa wk1 σ3 H5 fun b2 H6 =>
          if b2 = true then liftX X.K b.fa we σ3 H6 fun y H7 => ∃ acc, H7 Da = some (.lst acc) ∧ acc.length < sizeLine ∧ Nx1 (upd H7 Da (.lst (acc ++ [y]))) else Nx1 H6)
      else Nx H3) _ rep ?_ ?_ (w1.lock (u := .lst []) hD) .nil s1 g1
  · intro F2 μ2 S2 H2 acc accV d x P Nx e2 w2 r2 rx hf hk
    refine gT_mono ?_ (tgt_ok w2 t rx (((a.re.ext e1).ext e2).wipe _) hf)
    rintro σ2 H2' ⟨eH, env2, re2, q2, hw2⟩
    subst eH
    refine ⟨by rw [hw2 _ hsl, wipe_sub fun _ z => z], ⟨b.fa, upd b.L Da (.lst accV), F2, μ2⟩, rfl, F2, μ2, env2, S2, _, ⟨w2, re2, .refl⟩, q2, fun d1 S1 h1 => tst_tru h1, ?_⟩
    rintro kk H3 ⟨F3, μ3, d3, S3, e3, w3, t3, q3⟩
    have q3 := tst_at q3 t3
    cases kk with
    | false =>
      simp only [Bool.false_eq_true, if_false] at q3 ⊢
      exact hk F3 μ3 S3 H3 acc accV e3 w3 (r2.ext e3) q3.1 q3.2
    | true =>
      simp only [if_true] at q3 ⊢
      refine ⟨⟨b.fa, upd b.L Da (.lst accV), F3, μ3⟩, rfl, F3, μ3, env2, S3, _, ⟨w3, re2.ext e3, .refl⟩, q3, ?_⟩
      rintro J1 H4 F4 μ4 sr1 S4 e4 w4 rep1 ⟨ys, s4, g4⟩
      refine gen_W (L := b.L) (Da := Da) _ _ rep1 ?_ ?_ w4 ((r2.ext e3).ext e4) s4 g4
      · intro F5 μ5 S5 H5 acc5 accV5 d5 x5 P5 Nx5 e5 w5 r5 rx5 hf5 hk5
        exact turn_in hL hsl1 (((re2.ext e3).ext e4).ext e5) w5 r5 rx5 hf5 hk5
      · intro F5 μ5 S5 H5 acc5 accV5 e5 w5 r5 q5
        exact hk F5 μ5 S5 H5 acc5 accV5 ((e3.trans e4).trans e5) w5 r5 q5.1 q5.2
  · intro F2 μ2 S2 H2 acc accV e2 w2 r2 q2
    obtain ⟨hH, wu⟩ := w2.unlock hL
    have := postLst (b := b) wu r2 q2 without_same
    rw [upd_without hH] at this
    exact postH_mono (e1.trans e2) this
end
end Mp

set_option Elab.async false
set_option linter.all false
set_option maxRecDepth 100000
set_option maxHeartbeats 1000000
/-! M, part 11c: sorted({k: True for ..}), whole numbers. -/
namespace Mp
open PySem PySem.Spec PyProof.Rows L2
theorem addD_is {ks : List Int} {k : Int} : addD (ks.map .int) k = (addI ks k).map .int := by
  unfold addD addI
  have e : (ks.map D.int).any (isI k) = ks.any fun j => decide (j = k) := by rw [List.any_map]; rfl
  rw [e]
  by_cases h : (ks.any fun j => decide (j = k)) = true
  · rw [if_pos h, if_pos h]
  · rw [if_neg h, if_neg h]; simp
def kvT (k : Int) : L2.Key × V := (Sum.inl k, V.bl true)
theorem put_is {ks : List Int} {k : Int} : putK (ks.map kvT) (Sum.inl k : L2.Key) (V.bl true) = (addI ks k).map kvT := by
  unfold putK addI
  have e : ((ks.map kvT).any fun kv => decide (kv.1 = (Sum.inl k : L2.Key))) = ks.any fun j => decide (j = k) := by
    rw [List.any_map]
    congr 1
    funext j
    simp [kvT]
  rw [e]
  by_cases h : (ks.any fun j => decide (j = k)) = true
  · rw [if_pos h, if_pos h, List.map_map]
    congr 1
    funext j
    by_cases hj : j = k
    · subst hj; simp [kvT]
    · simp [kvT, hj]
  · rw [if_neg h, if_neg h, List.map_append]; rfl
def dkO (ks : List Int) : HO := .dK (ks.map kvT)
section
variable {K : PySem.W.Frag} {fa : FA} {F L H : Hp} {μ : List Addr} {S : Store}
theorem WI.forget {p : Addr} {u : HO} (w : WI K fa F (upd L p u) μ S H) (hl : L p = none) : WI K fa F L μ S H := by
  have hm : p ∉ μ := fun z => by have := (w.ap p z).2; rw [upd_same] at this; cases this
  refine ⟨w.fz, fun a o q => w.lk a o (by rw [upd_ne (ne_of_none q hl)]; exact q), fun a ha => ?_, fun a o q => w.dj a o (by rw [upd_ne (ne_of_none q hl)]; exact q), fun a xs q => w.nt a xs (by rw [upd_ne (ne_of_none q hl)]; exact q), w.nd, w.len, w.st⟩
  have z : a ≠ p := fun z => hm (z ▸ ha)
  have := w.ap a ha
  rw [upd_ne z] at this; exact this
/-- the measure of a walk over a source that stays as it is, while the dict at D grows -/
theorem dic_W {J : It} {sr : Src} {xs : List D} {f : D → Store → List D → (List D → Store → Prop) → Prop} {Q : List D → Store → Prop} {Da : Addr} (B : V → Hp → (Hp → Prop) → Prop) (fin : Hp → Prop)
    (hJ : Rep K fa J F μ sr)
    (hB : ∀ F1 μ1 S1 H1 ks d x (P : List D → Store → Prop) (Nx : Hp → Prop), Ext F μ F1 μ1 → WI K fa F1 (upd L Da (dkO ks)) μ1 S1 H1 → RD K fa F1 μ1 d x → f d S1 (ks.map .int) P →
      (∀ F2 μ2 S2 H2 ks2, Ext F1 μ1 F2 μ2 → WI K fa F2 (upd L Da (dkO ks2)) μ2 S2 H2 → srcL S2 sr = some xs → P (ks2.map .int) S2 → Nx H2) → B x H1 Nx)
    (hfin : ∀ F1 μ1 S1 H1 ks, Ext F μ F1 μ1 → WI K fa F1 (upd L Da (dkO ks)) μ1 S1 H1 → Q (ks.map .int) S1 → fin H1)
    {ks0 : List Int} (w0 : WI K fa F (upd L Da (dkO ks0)) μ S H) (s0 : srcL S sr = some xs) (g0 : genL f xs S (ks0.map .int) Q) :
    ∃ W : Nat → Nat → Hp → Prop, (∃ m, W 0 m H) ∧ ∀ i m H, W i m H → (J.stop i H ∧ fin H) ∨ (J.go i H ∧ ∃ Nx : Hp → Prop, (∀ H', Nx H' → ∃ m', m' < m ∧ W (i + 1) m' H') ∧ ∀ x H', J.yld i H x H' → B x H' Nx) := by
  refine ⟨fun i m H1 => m = xs.length - i ∧ ∃ F1 μ1 S1 ks, Ext F μ F1 μ1 ∧ WI K fa F1 (upd L Da (dkO ks)) μ1 S1 H1 ∧ srcL S1 sr = some xs ∧ genL f (xs.drop i) S1 (ks.map .int) Q,
    ⟨xs.length, rfl, F, μ, S, ks0, .refl, w0, s0, g0⟩, fun i m H1 hW => ?_⟩
  obtain ⟨rfl, F1, μ1, S1, ks, e1, w1, s1, g1⟩ := hW
  have hr := hJ _ F1 μ1 S1 H1 xs i e1 w1 s1
  cases hx : xs[i]? with
  | none =>
    refine .inl ⟨hr.1 hx, ?_⟩
    rw [List.drop_eq_nil_of_le (none_len hx)] at g1
    exact hfin F1 μ1 S1 H1 ks e1 w1 g1
  | some d =>
    obtain ⟨hi, hd⟩ := List.getElem?_eq_some_iff.mp hx
    obtain ⟨go, yl⟩ := hr.2 d hx
    refine .inr ⟨go, fun H' => ∃ F2 μ2 S2 ks2, Ext F μ F2 μ2 ∧ WI K fa F2 (upd L Da (dkO ks2)) μ2 S2 H' ∧ srcL S2 sr = some xs ∧ genL f (xs.drop (i + 1)) S2 (ks2.map .int) Q,
      fun H' ⟨F2, μ2, S2, ks2, e2, w2, s2, g2⟩ => ⟨xs.length - (i + 1), by omega, rfl, F2, μ2, S2, ks2, e2, w2, s2, g2⟩, fun x H2 y => ?_⟩
    obtain ⟨F2, μ2, e2, w2, rx⟩ := yl x H2 y
    rw [List.drop_eq_getElem_cons hi, hd, genL] at g1
    refine hB F2 μ2 S1 H2 ks d x _ _ (e1.trans e2) w2 rx g1 ?_
    intro F3 μ3 S3 H3 ks3 e3 w3 s3 q3
    exact ⟨F3, μ3, S3, ks3, (e1.trans e2).trans e3, w3, s3, q3⟩
/-- one turn -/
abbrev turnD (own : List Nat) (t : MT) (env : DEnv) (wk we : ME1) (s : Src) (xs : List D) : D → Store → List D → (List D → Store → Prop) → Prop :=
  fun x S2 acc2 Q2 => tgt t x (wipeD env own) S2 fun env2 => wk env2 S2 fun y S3 => tst S3 y fun p =>
      if p = true then we env2 S3 fun d S4 => ∃ i, d = .int i ∧ acc2.length < sizeLine ∧ srcL S4 s = some xs ∧ Q2 (addD acc2 i) S4 else srcL S3 s = some xs ∧ Q2 acc2 S3
theorem turn_dic {own : List Nat} {t : MT} {env : DEnv} {wk we : ME1} {sr : Src} {xs : List D} {σ : L2.St} {Da : Addr} {ks : List Int} {d : D} {x : V} {P : List D → Store → Prop} {Nx : Hp → Prop} (hL : L Da = none)
    (hs : ∀ i ∈ slots t, i ∈ own) (re : RelE K fa F μ env σ) (w : WI K fa F (upd L Da (dkO ks)) μ S H) (rx : RD K fa F μ d x) (hf : turnD own t env wk we sr xs d S (ks.map .int) P)
    (k : ∀ F2 μ2 S2 H2 ks2, Ext F μ F2 μ2 → WI K fa F2 (upd L Da (dkO ks2)) μ2 S2 H2 → srcL S2 sr = some xs → P (ks2.map .int) S2 → Nx H2) :
    gT K t x (L2.wipe σ own) H fun σ2 H2 => L2.wipe σ2 own = L2.wipe σ own ∧ liftTX K fa wk σ2 H2 fun b H3 =>
      if b = true then liftX K fa we σ2 H3 fun y H4 => tC (.bl true) σ2 H4 fun z H5 => ∃ kvs k, y = kV k ∧ H5 Da = some (.dK kvs) ∧ kvs.length < sizeLine ∧ Nx (upd H5 Da (.dK (putK kvs k z))) else Nx H3 := by
  refine gT_mono ?_ (tgt_ok w t rx (re.wipe own) hf)
  rintro σ2 H2 ⟨eH, env2, re2, q2, hw2⟩
  subst eH
  have ww : ∀ τ : L2.St, L2.wipe (L2.wipe τ own) own = L2.wipe τ own := fun τ => wipe_sub fun _ z => z
  refine ⟨by rw [hw2 own hs, ww], ⟨fa, upd L Da (dkO ks), F, μ⟩, rfl, F, μ, env2, S, _, ⟨w, re2, .refl⟩, q2, fun d1 S1 h1 => tst_tru h1, ?_⟩
  rintro kk H3 ⟨F3, μ3, d3, S3, e3, w3, t3, q3⟩
  have q3 := tst_at q3 t3
  cases kk with
  | false =>
    simp only [Bool.false_eq_true, if_false] at q3 ⊢
    exact k F3 μ3 S3 H3 ks e3 w3 q3.1 q3.2
  | true =>
    simp only [if_true] at q3 ⊢
    refine ⟨⟨fa, upd L Da (dkO ks), F3, μ3⟩, rfl, F3, μ3, env2, S3, _, ⟨w3, re2.ext e3, .refl⟩, q3, ?_⟩
    rintro y H4 ⟨F4, μ4, d4, S4, e4, w4, r4, i, ed, z4, s4, p4⟩
    subst ed
    cases r4
    have w4 : WI K fa F4 (upd L Da (dkO ks)) μ4 S4 H4 := w4
    obtain ⟨hD, wu⟩ := w4.unlock hL
    refine ⟨ks.map kvT, Sum.inl i, rfl, hD, by rw [List.length_map] at z4 ⊢; exact z4, ?_⟩
    rw [put_is]
    have wn := wu.lock (u := dkO (addI ks i)) without_same
    have eu : upd (without H4 Da) Da (dkO (addI ks i)) = upd H4 Da (dkO (addI ks i)) := by
      funext c
      by_cases z : c = Da
      · subst z; rw [upd_same, upd_same]
      · rw [upd_ne z, upd_ne z, without_ne z]
    rw [eu] at wn
    exact k F4 μ4 S4 _ (addI ks i) (e3.trans e4) wn s4 (by rw [← addD_is]; exact p4)
/-- sorted of it -/
theorem sset_ok {X : Cx} {b : MB} {kx tg iter : Expr} {ifs : List Expr} {scope : Scope} {own : List (Str × Nat)} {p pos cpos vpos : Pos} {vk : Nat} {t : MT} {wi : MI} {wk we : ME1} {m : Bool} (hgs : Gl X "sorted") (hms : X.mg "sorted" = none) (hc : X.calm = true) (hN : X.N.Nodup) (hi : QI X b tg iter wi) (ok : BlkOk X.N X.env.scope scope own) (hsl : ∀ i ∈ slots t, i ∈ own.map (·.2))
    (hg : ∀ (s : Shared) (H : Hp) (C : Addr) (cl : List (Str × Addr)) (fp : List Addr), PG (X.blk s H scope (compEnvC scope cl C X.env) fp) tg (gT X.K t))
    (ht : ∀ (s : Shared) (H : Hp) (C : Addr) (cl : List (Str × Addr)) (fp : List Addr), PTs (X.blk s H scope (compEnvC scope cl C X.env) fp) ifs (liftTX X.K b.fa wk))
    (he : ∀ (s : Shared) (H : Hp) (C : Addr) (cl : List (Str × Addr)) (fp : List Addr), PE (X.blk s H scope (compEnvC scope cl C X.env) fp) kx (liftX X.K b.fa we)) (hs : ∀ x, foldedSetIterable iter X.env x = pure x) :
    QE X b (.Call (.Name "sorted" p) [.DictComp kx (.Constant (.bool true) vk vpos) [⟨tg, iter, ifs, 0⟩] scope pos] [] cpos) fun env S Q => wi env S fun s S1 => ∃ xs, srcL S1 s = some xs ∧
      genL (turnD (own.map (·.2)) t env wk we s xs) xs S1 [] fun zs S9 => zs.length < 64 ∧ ∀ ys : List Int, (ys.map D.int).Perm zs → ys.Pairwise (· ≤ ·) → mkL m (ys.map .int) S9 Q := by
  have h0 := pe_callB (X := X) (x := "sorted") (p := p) (pos := cpos) (call_sortedDI hc) hgs hms rfl (pa_cons (pe_dc (pos := pos) hc hN hi.pi ok hg ht he (fun _ _ _ _ _ => pe_bl (b := true) (j := vk) (pos := vpos)) hs) pa_nil)
  refine QE.of h0 fun F μ env S Q σ H a hw => ?_
  refine ⟨F, μ, env, S, _, a, hw, fun J H1 F1 μ1 sr S1 e1 w1 rep q => ?_⟩
  obtain ⟨xs, s1, g1⟩ := q
  intro Da hD
  have hL := w1.notL hD
  refine dic_W (L := b.L) (Da := Da) (ks0 := []) (fun x H2 Nx => gT X.K t x (L2.wipe σ (own.map (·.2))) H2 fun σ2 H2 => L2.wipe σ2 (own.map (·.2)) = L2.wipe σ (own.map (·.2)) ∧ liftTX X.K b.fa wk σ2 H2 fun b1 H3 =>
      if b1 = true then liftX X.K b.fa we σ2 H3 fun y H4 => tC (.bl true) σ2 H4 fun z H5 => ∃ kvs k, y = kV k ∧ H5 Da = some (.dK kvs) ∧ kvs.length < sizeLine ∧ Nx (upd H5 Da (.dK (putK kvs k z))) else Nx H3) _ rep ?_ ?_ (w1.lock (u := dkO []) hD) s1 g1
  · intro F2 μ2 S2 H2 ks d x P Nx e2 w2 rx hf hk
    exact turn_dic hL hsl ((a.re.ext e1).ext e2) w2 rx hf hk
  · intro F2 μ2 S2 H2 ks e2 w2 q2
    obtain ⟨h64, q2⟩ := q2
    have hH := w2.lk Da _ upd_same
    refine ⟨Da, ks.map kvT, ks, rfl, .inl hH, by rw [List.map_map]; rfl, by rw [List.length_map] at h64; exact h64, fun ys p hp ha hn => ?_⟩
    have := postLst (b := b) (w2.forget hL) (RDs.of_ints ys) (q2 ys (hp.map _) ha) hn
    exact postH_mono (e1.trans e2) this
/-- len of it -/
theorem lset_ok {X : Cx} {b : MB} {kx tg iter : Expr} {ifs : List Expr} {scope : Scope} {own : List (Str × Nat)} {p pos cpos vpos : Pos} {vk : Nat} {t : MT} {wi : MI} {wk we : ME1} (hgs : Gl X "len") (hms : X.mg "len" = none) (hc : X.calm = true) (hN : X.N.Nodup) (hi : QI X b tg iter wi) (ok : BlkOk X.N X.env.scope scope own) (hsl : ∀ i ∈ slots t, i ∈ own.map (·.2))
    (hg : ∀ (s : Shared) (H : Hp) (C : Addr) (cl : List (Str × Addr)) (fp : List Addr), PG (X.blk s H scope (compEnvC scope cl C X.env) fp) tg (gT X.K t))
    (ht : ∀ (s : Shared) (H : Hp) (C : Addr) (cl : List (Str × Addr)) (fp : List Addr), PTs (X.blk s H scope (compEnvC scope cl C X.env) fp) ifs (liftTX X.K b.fa wk))
    (he : ∀ (s : Shared) (H : Hp) (C : Addr) (cl : List (Str × Addr)) (fp : List Addr), PE (X.blk s H scope (compEnvC scope cl C X.env) fp) kx (liftX X.K b.fa we)) (hs : ∀ x, foldedSetIterable iter X.env x = pure x) :
    QE X b (.Call (.Name "len" p) [.DictComp kx (.Constant (.bool true) vk vpos) [⟨tg, iter, ifs, 0⟩] scope pos] [] cpos) fun env S Q => wi env S fun s S1 => ∃ xs, srcL S1 s = some xs ∧
      genL (turnD (own.map (·.2)) t env wk we s xs) xs S1 [] fun zs S9 => Q (.int (zs.length : Nat)) S9 := by
  have h0 := pe_callB (X := X) (x := "len") (p := p) (pos := cpos) call_lenD hgs hms rfl (pa_cons (pe_dc (pos := pos) hc hN hi.pi ok hg ht he (fun _ _ _ _ _ => pe_bl (b := true) (j := vk) (pos := vpos)) hs) pa_nil)
  refine QE.of h0 fun F μ env S Q σ H a hw => ?_
  refine ⟨F, μ, env, S, _, a, hw, fun J H1 F1 μ1 sr S1 e1 w1 rep q => ?_⟩
  obtain ⟨xs, s1, g1⟩ := q
  intro Da hD
  have hL := w1.notL hD
  refine dic_W (L := b.L) (Da := Da) (ks0 := []) (fun x H2 Nx => gT X.K t x (L2.wipe σ (own.map (·.2))) H2 fun σ2 H2 => L2.wipe σ2 (own.map (·.2)) = L2.wipe σ (own.map (·.2)) ∧ liftTX X.K b.fa wk σ2 H2 fun b1 H3 =>
      if b1 = true then liftX X.K b.fa we σ2 H3 fun y H4 => tC (.bl true) σ2 H4 fun z H5 => ∃ kvs k, y = kV k ∧ H5 Da = some (.dK kvs) ∧ kvs.length < sizeLine ∧ Nx (upd H5 Da (.dK (putK kvs k z))) else Nx H3) _ rep ?_ ?_ (w1.lock (u := dkO []) hD) s1 g1
  · intro F2 μ2 S2 H2 ks d x P Nx e2 w2 rx hf hk
    exact turn_dic hL hsl ((a.re.ext e1).ext e2) w2 rx hf hk
  · intro F2 μ2 S2 H2 ks e2 w2 q2
    have hH := w2.lk Da _ upd_same
    refine ⟨Da, ks.map kvT, rfl, hH, ?_⟩
    rw [List.length_map] at q2 ⊢
    exact postH_mono (e1.trans e2) (postD (b := b) (w2.forget hL) (.int _) q2)
end
/-! ### len(set(xs)), whole numbers -/
theorem firstMet_is (ns : List Int) : ∀ i, i ≤ ns.length → PyProof.Rows.firstMet (fun i => ns.getD i 0) i = (ns.take i).foldl addI []
  | 0, _ => rfl
  | i + 1, hi => by
    have hlt : i < ns.length := hi
    have e : ns.getD i 0 = ns[i] := by rw [List.getD_eq_getElem?_getD, List.getElem?_eq_getElem hlt] <;> rfl
    rw [PyProof.Rows.firstMet_succ, firstMet_is ns i (Nat.le_of_lt hlt), List.take_succ, List.getElem?_eq_getElem hlt, List.foldl_append, e]
    show PyProof.Rows.step_dedup _ ns[i] = addI _ ns[i]
    unfold PyProof.Rows.step_dedup addI
    have e2 : ∀ l : List Int, (l.any fun x => x == ns[i]) = l.any fun j => decide (j = ns[i]) := fun l => rfl
    rw [e2]
theorem addI_mem {ks : List Int} {k x : Int} : x ∈ addI ks k ↔ x ∈ ks ∨ x = k := by
  unfold addI
  split
  · rename_i h
    obtain ⟨j, hj, e⟩ := List.any_eq_true.mp h
    have e := of_decide_eq_true e
    subst e
    constructor
    · exact .inl
    · rintro (h | rfl)
      · exact h
      · exact hj
  · rw [List.mem_append, List.mem_singleton]
theorem addI_nodup {ks : List Int} {k : Int} (h : ks.Nodup) : (addI ks k).Nodup := by
  unfold addI
  split
  · exact h
  · rename_i hn
    refine List.nodup_append.mpr ⟨h, by simp, fun a ha c hc => ?_⟩
    rw [List.mem_singleton] at hc
    subst hc
    rintro rfl
    exact hn (List.any_eq_true.mpr ⟨a, ha, decide_eq_true rfl⟩)
theorem foldI_mem {x : Int} : ∀ {ns ks : List Int}, x ∈ ns.foldl addI ks ↔ x ∈ ks ∨ x ∈ ns
  | [], ks => by simp
  | n :: ns, ks => by rw [List.foldl_cons, foldI_mem, addI_mem, List.mem_cons, or_assoc]
theorem foldI_nodup : ∀ {ns ks : List Int}, ks.Nodup → (ns.foldl addI ks).Nodup
  | [], _, h => h
  | n :: ns, ks, h => by rw [List.foldl_cons]; exact foldI_nodup (ns := ns) (addI_nodup (k := n) h)
end Mp

set_option Elab.async false
set_option linter.all false
set_option maxRecDepth 100000
set_option maxHeartbeats 2000000
/-! M, part 11d: len(set(xs)) of whole numbers; o[i] op= e on a list. -/
namespace Mp
open PySem PySem.Spec PyProof.Rows L2
theorem nUn_of {ns ks : List Int} (hn : ks.Nodup) (hm : ∀ k, k ∈ ks ↔ k ∈ ns) : ks.length = nUn ns := by
  unfold nUn
  refine List.Perm.length_eq ((List.perm_ext_iff_of_nodup hn (foldI_nodup List.nodup_nil)).mpr fun k => ?_)
  rw [hm, foldI_mem]
  simp
theorem nUn_le (ns : List Int) : nUn ns ≤ ns.length := by
  have : ∀ (ns ks : List Int), (ns.foldl addI ks).length ≤ ks.length + ns.length := by
    intro ns
    induction ns with
    | nil => intro ks; simp
    | cons n ns ih =>
      intro ks
      rw [List.foldl_cons]
      have h1 := ih (addI ks n)
      have h2 : (addI ks n).length ≤ ks.length + 1 := by unfold addI; split <;> simp
      rw [List.length_cons]
      omega
  have := this ns []
  simpa [nUn] using this
theorem intsV {ns : List Int} {us : List Value} : Vals (ns.map V.int) us → PyProof.Rows.IntsAre us ns := fun r => by simpa using r.ints
section
variable {X : Cx} {b : MB}
def tNset (K : PySem.W.Frag) (ta : TE) : TE := fun σ H Q => ta σ H fun x H1 => ∃ (l : Addr) (ns : List Int), x = V.ref l ∧ (SqL K H1 l (ns.map V.int) ∨ SqT K H1 l (ns.map V.int)) ∧ ns.length < 4000 ∧ Q (.int (nUn ns : Nat)) H1
theorem pe_nset {a : Expr} {ta : TE} {p p2 q pos : Pos} (hc : X.calm = true) (hg : Gl X "len") (hm : X.mg "len" = none) (hg2 : Gl X "set") (hm2 : X.mg "set" = none) (ha : PE X a ta) (hst : NoStar a) :
    PE X (.Call (.Name "len" p) [.Call (.Name "set" p2) [a] [] q] [] pos) (tNset X.K ta) := by
  have na : starEach [a] X.env = (false, eval a X.env) :: starEach [] X.env := star_cons hst [] X.env
  refine ⟨fun pins s σ H Q I h => ?_⟩
  refine Call_ (ld_blt I hg hm PySem.boot_len ?_)
  refine PyProof.Rows.callWith_builtin1 (PyProof.Rows.args_cons ?_ rfl) rfl rfl
  refine Call_ (ld_blt I hg2 hm2 PyProof.Rows.boot_set ?_)
  refine PyProof.Rows.callWith_type1 (PyProof.Rows.args_cons (thn (ha.run pins s σ H _ I h) fun v s1 ⟨x, H1, I1, r1, q1⟩ => PyProof.Rows.args_nil ?_) na) na rfl
  obtain ⟨l, ns, rfl, hq, hl, q1⟩ := q1
  cases r1
  have hle := nUn_le ns
  rcases hq with hq | hq
  · obtain ⟨its, r, pl, hz⟩ := I1.list hq
    have hlen : its.toArray.size = ns.length := by rw [List.size_toArray, ← r.length, List.length_map]
    refine call_set_list (I1.ok.hd hc) pl.isList (ns := ns) (by simpa using r.ints) (by unfold scanBound; omega) fun h' tk hS hk => ?_
    rw [hlen, firstMet_is ns ns.length (Nat.le_refl _), List.take_length] at hS
    refine PyProof.Rows.args_nil ?_
    obtain ⟨o, es, ep, t, ho, hex, hd, _, _, _, hf, hn⟩ := hS
    have I2 : Inv X pins σ H1 { s1 with heap := h', toks := tk } := I1.kept fun b o e => hk b o (Heap.lt_size e) e
    have hn : es.size = nUn ns := hn
    exact call_len_set ho hex hd hf (by rw [hn] <;> omega) ⟨.int (nUn ns : Nat), H1, I2.tok _, ⟨_, by rw [hn]⟩, q1⟩
  · obtain ⟨its, r, pl, hz⟩ := I1.tuple hq
    refine call_set_tupI (P := X.prog) (w := X.w) ns (I1.ok.hd hc) (show s1.heap.IsTuple l its.toArray from pl) (by simpa using r.ints) (by unfold scanBound; omega) fun h' tk c hS hcl hk => ?_
    refine PyProof.Rows.args_nil ?_
    obtain ⟨o, es, ep, t, ho, hex, hd, _, hnd, hmem, _, hf, hn, _⟩ := hS
    have I2 : Inv X pins σ H1 { s1 with heap := h', toks := tk } := I1.kept fun b o e => hk b o e
    have hn : es.size = nUn ns := by
      rw [← nUn_of hnd (fun k => by rw [← hmem k, decide_eq_true_eq])]
      rw [List.length_map, Array.length_toList]
    exact call_len_set ho hex hd hf (by rw [hn] <;> omega) ⟨.int (nUn ns : Nat), H1, I2.tok _, ⟨_, by rw [hn]⟩, q1⟩
theorem RDs.ints_of {K : PySem.W.Frag} {fa : FA} {F : Hp} {μ : List Addr} : ∀ {ns : List Int} {vs : List V}, RDs K fa F μ (ns.map D.int) vs → vs = ns.map V.int
  | [], _, h => by cases h; rfl
  | n :: ns, _, h => by
    cases h with
    | cons h hs =>
      cases h
      rw [RDs.ints_of hs]; rfl
theorem qe_nset {a : Expr} {wa : ME1} {p p2 q pos : Pos} (hc : X.calm = true) (hg : Gl X "len") (hm : X.mg "len" = none) (hg2 : Gl X "set") (hm2 : X.mg "set" = none) (ha : QE X b a wa) (hst : NoStar a) :
    QE X b (.Call (.Name "len" p) [.Call (.Name "set" p2) [a] [] q] [] pos) (fun env S Q => wa env S fun x S1 => ∃ ns : List Int, (x = .tup (ns.map .int) ∨ x = .lst (ns.map .int)) ∧ ns.length < 4000 ∧ Q (.int (nUn ns : Nat)) S1) :=
  QE.of (pe_nset hc hg hm hg2 hm2 ha.pe hst) fun F μ env S Q σ H a0 hw => ⟨F, μ, env, S, _, a0, hw, fun v H1 ⟨F1, μ1, d, S1, e1, w1, r1, ns, ed, hl, q1⟩ => by
    rcases ed with rfl | rfl
    · cases r1 with
      | tup h hs =>
        rw [hs.ints_of] at h
        exact ⟨_, ns, rfl, .inr (SqT.of (w1.fz _ _ h)), hl, postH_mono e1 (postD w1 (.int _) q1)⟩
    · cases r1 with
      | lst h hs =>
        rw [hs.ints_of] at h
        exact ⟨_, ns, rfl, .inl (SqL.of (w1.fz _ _ h)), hl, postH_mono e1 (postD w1 (.int _) q1)⟩⟩
/-! ### o[i] op= e -/
def rGetL : V → V → Hp → VK → Prop := fun o i H Q => ∃ p xs k j v, o = V.ref p ∧ i = .int k ∧ H p = some (.lst xs) ∧ ixN xs.length k = some j ∧ xs[j]? = some v ∧ Q v H
theorem get_list : PGet X rGetL := by
  intro pins s σ H o i ov iv Q I ro ri h
  obtain ⟨p, xs, k, j, v, rfl, rfl, hp, hj, hv, q⟩ := h
  cases ro
  obtain ⟨t, rfl⟩ := ri
  obtain ⟨its, r, pl, hz⟩ := I.list (SqL.of hp)
  have hl := r.length
  have hn := line63
  obtain ⟨h2, h1, h3, h4⟩ := ixN_seq hj
  obtain ⟨w, ew, rw'⟩ := r.get hv
  have fin : EP X pins σ Q w s := ⟨v, H, I, rw', q⟩
  by_cases h0 : 0 ≤ k
  · have hj : k.toNat = j := by
      rw [seqIndex_of h0 h4] at h2
      exact Option.some.inj h2
    exact wpAny_getItem_list pl.isList h0 (by omega) (by rw [hj]; simpa using ew) fin
  · have hj : (k + (its.toArray.size : Int)).toNat = j := by
      rw [seqIndex_neg (by omega) h3] at h2
      rw [List.size_toArray, ← hl]
      exact Option.some.inj h2
    exact wpAny_getItem_list_neg pl.isList (by omega) (by rw [List.size_toArray] <;> omega) (by omega) (by rw [hj]; simpa using ew) fin
end
end Mp

set_option Elab.async false
set_option linter.all false
set_option maxRecDepth 100000
set_option maxHeartbeats 1000000
/-! M, part 12: statements. -/
namespace Mp
open PySem PySem.Spec PyProof.Rows L2

def PostS (K : PySem.W.Frag) (b : MB) (F : Hp) (μ : List Addr) (P : DEnv → Store → Prop) : L2.St → Hp → Prop := fun σ' H' =>
  ∃ F' μ' env' S', Ext F μ F' μ' ∧ At K b F' μ' S' H' env' σ' ∧ P env' S'
structure EndsOk (K : PySem.W.Frag) (b : MB) (F : Hp) (μ : List Addr) (M : MKs) (D : Ends) : Prop where
  nx : ∀ σ' H', PostS K b F μ M.nx σ' H' → D.nx σ' H'
  rt : ∀ v H', PostH K b F μ M.rt v H' → D.rt v H'
  bk : ∀ σ' H', PostS K b F μ M.bk σ' H' → D.bk σ' H'
  ct : ∀ σ' H', PostS K b F μ M.ct σ' H' → D.ct σ' H'
theorem postS_mono {K : PySem.W.Frag} {b : MB} {F F' : Hp} {μ μ' : List Addr} {P : DEnv → Store → Prop} {σ : L2.St} {H : Hp} (e : Ext F μ F' μ') (h : PostS K b F' μ' P σ H) : PostS K b F μ P σ H := by
  obtain ⟨F2, μ2, env, S, e2, a, q⟩ := h
  exact ⟨F2, μ2, env, S, e.trans e2, a, q⟩
theorem EndsOk.ext {K : PySem.W.Frag} {b : MB} {F F' : Hp} {μ μ' : List Addr} {M : MKs} {D : Ends} (h : EndsOk K b F μ M D) (e : Ext F μ F' μ') : EndsOk K b F' μ' M D :=
  ⟨fun _ _ z => h.nx _ _ (postS_mono e z), fun _ _ z => h.rt _ _ (postH_mono e z), fun _ _ z => h.bk _ _ (postS_mono e z), fun _ _ z => h.ct _ _ (postS_mono e z)⟩
abbrev MS1 := DEnv → Store → MKs → Prop
def liftS (K : PySem.W.Frag) (b : MB) (w : MS1) : TS := fun D σ H => ∃ F μ env S M, At K b F μ S H env σ ∧ w env S M ∧ EndsOk K b F μ M D
abbrev QS (X : Cx) (b : MB) (st : Stmt) (w : MS1) : Prop := PS X st (liftS X.K b w)
abbrev QSs (X : Cx) (b : MB) (sts : List Stmt) (w : MS1) : Prop := PSs X sts (liftS X.K b w)
theorem ps_imp {X : Cx} {st : Stmt} {t t' : TS} (h : PS X st t) (k : ∀ D σ H, t' D σ H → t D σ H) : PS X st t' := ⟨fun pins s σ H D I q => h.run pins s σ H D I (k D σ H q)⟩
theorem pss_imp {X : Cx} {st : List Stmt} {t t' : TS} (h : PSs X st t) (k : ∀ D σ H, t' D σ H → t D σ H) : PSs X st t' := ⟨fun pins s σ H D I q => h.run pins s σ H D I (k D σ H q)⟩

section
variable {X : Cx} {b : MB} {pos : Pos}
theorem qss_nil : QSs X b [] (fun env S K => K.nx env S) :=
  pss_imp pss_nil fun D σ H ⟨F, μ, env, S, M, a, w, k⟩ => k.nx _ _ ⟨F, μ, env, S, .refl, a, w⟩
theorem qss_cons {st : Stmt} {rest : List Stmt} {w wr : MS1} (h : QS X b st w) (hr : QSs X b rest wr) : QSs X b (st :: rest) (fun env S K => w env S { K with nx := fun env1 S1 => wr env1 S1 K }) :=
  pss_imp (pss_cons h hr) fun D σ H ⟨F, μ, env, S, M, a, q, k⟩ => ⟨F, μ, env, S, _, a, q, fun σ1 H1 ⟨F1, μ1, env1, S1, e1, a1, q1⟩ => ⟨F1, μ1, env1, S1, M, a1, q1, k.ext e1⟩, k.rt, k.bk, k.ct⟩
theorem qs_exp {e : Expr} {w : ME1} (h : QE X b e w) (hs : swapsWith e none pos.line X.env = pure false) : QS X b (.Expr e pos) (fun env S K => w env S fun _ S1 => K.nx env S1) :=
  ps_imp (ps_expr h.pe hs) fun D σ H ⟨F, μ, env, S, M, a, q, k⟩ => ⟨F, μ, env, S, _, a, q, fun v H1 ⟨F1, μ1, d, S1, e1, w1, r1, q1⟩ => k.nx _ _ ⟨F1, μ1, env, S1, e1, a.step e1 w1, q1⟩⟩
theorem qs_doc {x : Str} {j : Nat} {p : Pos} : QS X b (.Expr (.Constant (.str x) j p) pos) (fun env S K => K.nx env S) :=
  ps_imp ps_doc fun D σ H ⟨F, μ, env, S, M, a, w, k⟩ => k.nx _ _ ⟨F, μ, env, S, .refl, a, w⟩
/-- the end of an assignment: the value goes to the target -/
theorem tgt_end {t : MT} {F : Hp} {μ : List Addr} {S : Store} {H : Hp} {env : DEnv} {σ : L2.St} {d : D} {v : V} {M : MKs} {D : Ends} (a : At X.K b F μ S H env σ) (r : RD X.K b.fa F μ d v) (h : tgt t d env S fun env1 => M.nx env1 S) (k : EndsOk X.K b F μ M D) :
    gT X.K t v σ H D.nx :=
  gT_mono (fun σ1 H1 ⟨eH, env1, re1, q1, _⟩ => by subst eH; exact k.nx _ _ ⟨F, μ, env1, S, .refl, ⟨a.wi, re1, a.ex⟩, q1⟩) (tgt_ok a.wi t r a.re h)
theorem qs_asg {tg e : Expr} {w : ME1} {t : MT} {te : TE} (he : PE X e te) (hw : ∀ F μ env S Q σ H, At X.K b F μ S H env σ → w env S Q → te σ H (PostH X.K b F μ Q)) (mono : True) (hP : PS X (.Assign [tg] e pos) (tAsg te (gT X.K t)))
    (tmono : ∀ σ H (Q Q' : VK), (∀ v H, Q v H → Q' v H) → te σ H Q → te σ H Q') :
    QS X b (.Assign [tg] e pos) (fun env S K => w env S fun d S1 => tgt t d env S1 fun env1 => K.nx env1 S1) :=
  ps_imp hP fun D σ H ⟨F, μ, env, S, M, a, q, k⟩ => tmono _ _ _ _ (fun v H1 ⟨F1, μ1, d, S1, e1, w1, r1, q1⟩ => tgt_end (a.step e1 w1) r1 q1 (k.ext e1)) (hw F μ env S _ σ H a q)
theorem qs_set {tg e : Expr} {w : ME1} {t : MT} (he : QE X b e w) (hg : PG X tg (gT X.K t)) (hs : swapsWithSole [tg] e pos.line X.env = pure false) (hw : swappedStores [tg] e X.env = pure none)
    (h1 : (assignEach [tg] X.env).map (·.2) = [assign tg X.env]) : QS X b (.Assign [tg] e pos) (fun env S K => w env S fun d S1 => tgt t d env S1 fun env1 => K.nx env1 S1) :=
  ps_imp (ps_asg he.pe hg hs hw h1) fun D σ H ⟨F, μ, env, S, M, a, q, k⟩ => ⟨F, μ, env, S, _, a, q, fun v H1 ⟨F1, μ1, d, S1, e1, w1, r1, q1⟩ => tgt_end (a.step e1 w1) r1 q1 (k.ext e1)⟩
theorem qs_set1 {i : Nat} {x : Str} {e : Expr} {w : ME1} {pos' : Pos} (he : QE X b e w) (hN : X.N.Nodup) (hi : X.N[i]? = some x) (hx : Loc X.env.scope x) (hf : X.fn x = true ∨ X.env.scope.names.lookup x = some .local) (hs : swapsWith e (some (.Name x pos')) pos.line X.env = pure false) :
    QS X b (.Assign [.Name x pos'] e pos) (fun env S K => w env S fun d S1 => tgt (.nm i) d env S1 fun env1 => K.nx env1 S1) :=
  ps_imp (ps_set hN hi hx he.pe hs hf) fun D σ H ⟨F, μ, env, S, M, a, q, k⟩ => ⟨F, μ, env, S, _, a, q, fun v H1 ⟨F1, μ1, d, S1, e1, w1, r1, q1⟩ => tgt_end (t := .nm i) (a.step e1 w1) r1 q1 (k.ext e1)⟩
/-- name = [..] -/
theorem lc_mono {wi : TI} {g : TG} {tt : TT} {te : TE} {vs : List Nat} {σ : L2.St} {H : Hp} {Q Q' : VK} (k : ∀ v H, Q v H → Q' v H) (wim : ∀ σ H (R R' : It → Hp → Prop), (∀ J H, R J H → R' J H) → wi σ H R → wi σ H R') (h : tLc wi g tt te vs σ H Q) : tLc wi g tt te vs σ H Q' := by
  refine wim _ _ _ _ (fun J H1 h1 D hD => ?_) h
  obtain ⟨W, w0, hW⟩ := h1 D hD
  refine ⟨W, w0, fun i m H hw => ?_⟩
  rcases hW i m H hw with ⟨s, q⟩ | z
  · exact .inl ⟨s, k _ _ q⟩
  · exact .inr z
theorem lc2_mono {wi wi1 : TI} {g g1 : TG} {tt tt1 : TT} {te : TE} {vs vs1 : List Nat} {σ : L2.St} {H : Hp} {Q Q' : VK} (k : ∀ v H, Q v H → Q' v H) (wim : ∀ σ H (R R' : It → Hp → Prop), (∀ J H, R J H → R' J H) → wi σ H R → wi σ H R') (h : tLc2 wi g tt wi1 g1 tt1 te vs vs1 σ H Q) : tLc2 wi g tt wi1 g1 tt1 te vs vs1 σ H Q' := by
  refine wim _ _ _ _ (fun J H1 h1 D hD => ?_) h
  obtain ⟨W, w0, hW⟩ := h1 D hD
  refine ⟨W, w0, fun i m H hw => ?_⟩
  rcases hW i m H hw with ⟨s, q⟩ | z
  · exact .inl ⟨s, k _ _ q⟩
  · exact .inr z
theorem liftI_mono {K : PySem.W.Frag} {w : MI} : ∀ σ H (R R' : It → Hp → Prop), (∀ J H, R J H → R' J H) → liftI K b w σ H R → liftI K b w σ H R' :=
  fun σ H R R' k ⟨F, μ, env, S, Q', a, q, h⟩ => ⟨F, μ, env, S, Q', a, q, fun J H' F' μ' s S' e w r q => k _ _ (h J H' F' μ' s S' e w r q)⟩
theorem qs_of {i : Nat} {st : Stmt} {w : ME1} {te : TE} (hP : PS X st (tAsg te (gName i))) (hw : ∀ F μ env S Q σ H, At X.K b F μ S H env σ → w env S Q → te σ H (PostH X.K b F μ Q))
    (tmono : ∀ σ H (Q Q' : VK), (∀ v H, Q v H → Q' v H) → te σ H Q → te σ H Q') :
    QS X b st (fun env S K => w env S fun d S1 => tgt (.nm i) d env S1 fun env1 => K.nx env1 S1) :=
  ps_imp hP fun D σ H ⟨F, μ, env, S, M, a, q, k⟩ => tmono _ _ _ _ (fun v H1 ⟨F1, μ1, d, S1, e1, w1, r1, q1⟩ => tgt_end (t := .nm i) (a.step e1 w1) r1 q1 (k.ext e1)) (hw F μ env S _ σ H a q)
/-- a, b = x, y by plain local names -/
theorem qs_par {i j : Nat} {x y : Str} {e1 e2 : Expr} {wa : MA} {px py pt : Pos} {kt k2 : Nat} {pt2 : Pos} (hc : X.calm = true) (hN : X.N.Nodup) (hi : X.N[i]? = some x) (hj : X.N[j]? = some y) (hij : i ≠ j)
    (hx : X.env.scope.names.lookup x = some .local) (hy : X.env.scope.names.lookup y = some .local) (ha : QA X b [e1, e2] wa)
    (hw : swappedStores [.Tuple [.Name x px, .Name y py] kt pt] (.Tuple [e1, e2] k2 pt2) X.env = pure (some [x, y]))
    (hs : swapsWithSole [.Tuple [.Name x px, .Name y py] kt pt] (.Tuple [e1, e2] k2 pt2) pos.line X.env = pure false) :
    QS X b (.Assign [.Tuple [.Name x px, .Name y py] kt pt] (.Tuple [e1, e2] k2 pt2) pos) (fun env S K => (wa env S fun xs S1 => xs.length ≤ sizeLine ∧ tgt (.tp (.cons (.nm i) (.cons (.nm j) .nil))) (.tup xs) env S1 fun env1 => K.nx env1 S1)) := by
  refine ps_imp (ps_par hc hN hi hj hij hx hy ha.pa hw hs) fun D σ H ⟨F, μ, env, S, M, a, q, k⟩ => ⟨F, μ, env, S, _, a, q, fun vs H1 ⟨F1, μ1, ds, S1, ee, w1, r1, _, q1⟩ => ?_⟩
  simp only [tgt, tgts] at q1
  obtain ⟨xs, ex, d1, ys, rfl, d2, zs, rfl, rfl, q2⟩ := q1
  cases ex
  cases r1 with
  | cons r r1 => cases r1 with
    | cons r' r1 =>
      cases r1
      exact ⟨_, _, rfl, k.nx _ _ ⟨F1, μ1, _, S1, ee, ⟨w1, ((a.re.ext ee).set i r).set j r', a.ex.trans ee⟩, q2⟩⟩
theorem qs_par3 {i j l : Nat} {x y z : Str} {e1 e2 e3 : Expr} {wa : MA} {px py pz pt : Pos} {kt k2 : Nat} {pt2 : Pos} (hc : X.calm = true) (hN : X.N.Nodup) (hi : X.N[i]? = some x) (hj : X.N[j]? = some y) (hl : X.N[l]? = some z) (hij : i ≠ j) (hil : i ≠ l) (hjl : j ≠ l)
    (hx : X.env.scope.names.lookup x = some .local) (hy : X.env.scope.names.lookup y = some .local) (hz : X.env.scope.names.lookup z = some .local) (ha : QA X b [e1, e2, e3] wa)
    (hw : swappedStores [.Tuple [.Name x px, .Name y py, .Name z pz] kt pt] (.Tuple [e1, e2, e3] k2 pt2) X.env = pure (some [x, y, z]))
    (hs : swapsWithSole [.Tuple [.Name x px, .Name y py, .Name z pz] kt pt] (.Tuple [e1, e2, e3] k2 pt2) pos.line X.env = pure false) :
    QS X b (.Assign [.Tuple [.Name x px, .Name y py, .Name z pz] kt pt] (.Tuple [e1, e2, e3] k2 pt2) pos) (fun env S K => (wa env S fun xs S1 => xs.length ≤ sizeLine ∧ tgt (.tp (.cons (.nm i) (.cons (.nm j) (.cons (.nm l) .nil)))) (.tup xs) env S1 fun env1 => K.nx env1 S1)) := by
  refine ps_imp (ps_par3 hc hN hi hj hl hij hil hjl hx hy hz ha.pa hw hs) fun D σ H ⟨F, μ, env, S, M, a, q, k⟩ => ⟨F, μ, env, S, _, a, q, fun vs H1 ⟨F1, μ1, ds, S1, ee, w1, r1, _, q1⟩ => ?_⟩
  simp only [tgt, tgts] at q1
  obtain ⟨xs, ex, d1, ys, rfl, d2, zs, rfl, d3, us, rfl, rfl, q2⟩ := q1
  cases ex
  cases r1 with
  | cons r r1 => cases r1 with
    | cons r' r1 => cases r1 with
      | cons r'' r1 =>
        cases r1
        exact ⟨_, _, _, rfl, k.nx _ _ ⟨F1, μ1, _, S1, ee, ⟨w1, (((a.re.ext ee).set i r).set j r').set l r'', a.ex.trans ee⟩, q2⟩⟩
/-- name op= e, ints -/
theorem pip_ok {op : Operator} : PIp X op fun x y H Q => ∃ i j k, x = .int i ∧ y = .int j ∧ augI op i j = some k ∧ Q (.int k) H := by
  intro pins s σ H x y v u Q I r1 r2 h
  obtain ⟨i, j, k, rfl, rfl, ek, q⟩ := h
  cases op <;> simp only [augI, Option.some.injEq, reduceCtorEq] at ek <;> subst ek
  · exact ip_add pins s σ H _ _ v u Q I r1 r2 ⟨i, j, rfl, rfl, q⟩
  · exact ip_sub pins s σ H _ _ v u Q I r1 r2 ⟨i, j, rfl, rfl, q⟩
  · exact iop_or pins s σ H _ _ v u Q I r1 r2 ⟨i, j, rfl, rfl, q⟩
  · exact iop_xor pins s σ H _ _ v u Q I r1 r2 ⟨i, j, rfl, rfl, q⟩
theorem qs_aug {i : Nat} {x : Str} {e : Expr} {op : Operator} {w : ME1} {pos' : Pos} (hN : X.N.Nodup) (hi : X.N[i]? = some x) (hx : Loc X.env.scope x) (he : QE X b e w) (hf : X.fn x = true ∨ X.env.scope.names.lookup x = some .local) :
    QS X b (.AugAssign (.Name x pos') op e pos) (fun env S K => ∃ x, env[i]? = some (some x) ∧ w env S fun y S1 => ∃ a d k, x = .int a ∧ y = .int d ∧ augI op a d = some k ∧ K.nx (env.set i (some (.int k))) S1) := by
  refine ps_imp (ps_aug hN hi hx he.pe pip_ok hf) fun D σ H ⟨F, μ, env, S, M, a, ⟨d0, e0, q⟩, k⟩ => ?_
  obtain ⟨v0, hv0, r0⟩ := a.re.2 i d0 e0
  refine ⟨v0, hv0, F, μ, env, S, _, a, q, fun v H1 ⟨F1, μ1, d1, S1, e1, w1, r1, n1, n2, n3, en1, en2, en3, q1⟩ => ?_⟩
  subst en1 en2
  cases r0; cases r1
  exact ⟨n1, n2, n3, rfl, rfl, en3, k.nx _ _ ⟨F1, μ1, _, S1, e1, ⟨w1, (a.re.ext e1).set i (.int _), a.ex.trans e1⟩, q1⟩⟩
/-- xs[i] = e -/
theorem qs_sset {o i e : Expr} {wo wi we : ME1} {spos : Pos} (ho : QE X b o wo) (hi : QE X b i wi) (he : QE X b e we) (hs : swapsWithSole [.Subscript o i spos] e pos.line X.env = pure false) (hw : swappedStores [.Subscript o i spos] e X.env = pure none)
    (h1 : (assignEach [.Subscript o i spos] X.env).map (·.2) = [assign (.Subscript o i spos) X.env])
    (ha : ∀ v, assign (.Subscript o i spos) X.env v = (do
      let ov ← holding [v] (eval o X.env)
      let iv ← holding [v, ov] (eval i X.env)
      standAt spos
      holding [v, ov, iv] (setItem ov iv v)
      release [v, ov, iv] [])) :
    QS X b (.Assign [.Subscript o i spos] e pos) (fun env S K => we env S fun d S1 => wo env S1 fun x S2 => wi env S2 fun y S3 =>
      ∃ n xs k j, x = .ref n ∧ S3[n]? = some (.lst xs) ∧ y = .int k ∧ ixN xs.length k = some j ∧ K.nx env (S3.set n (.lst (xs.set j d)))) := by
  refine ps_imp (ps_asg he.pe (pg_sub ho.pe hi.pe set_list ha) hs hw h1) fun D σ H ⟨F, μ, env, S, M, a, q, k⟩ => ?_
  refine ⟨F, μ, env, S, _, a, q, fun v H1 ⟨F1, μ1, d, S1, e1, w1, r1, q1⟩ => ?_⟩
  refine ⟨F1, μ1, env, S1, _, a.step e1 w1, q1, fun x H2 ⟨F2, μ2, d2, S2, e2, w2, r2, q2⟩ => ?_⟩
  refine ⟨F2, μ2, env, S2, _, (a.step e1 w1).step e2 w2, q2, fun y H3 ⟨F3, μ3, d3, S3, e3, w3, r3, n, xs, kk, j, ed2, hS, ed3, hj, q3⟩ => ?_⟩
  subst ed2 ed3
  cases r3
  have r2' := r2.ext e3
  cases r2' with
  | @ref n p hp =>
    obtain ⟨u, hu, vs, rfl, hs2⟩ := w3.st n _ p hS hp
    have rv := (r1.ext e2).ext e3
    refine ⟨p, vs, kk, j, rfl, rfl, hu, by rw [← hs2.length]; exact hj, ?_⟩
    have w4 := w3.set (u := .lst (vs.set j v)) (o := .lst (xs.set j d)) hp ⟨_, rfl, RDs.set rv j hs2⟩
    exact k.nx _ _ ⟨F3, μ3, env, _, (e1.trans e2).trans e3, ⟨w4, ((a.re.ext e1).ext e2).ext e3, ((a.ex.trans e1).trans e2).trans e3⟩, q3⟩
/-- xs[i] op= e -/
theorem qs_augs {o i e : Expr} {wo wi we : ME1} {op : Operator} {tpos : Pos} (ho : QE X b o wo) (hi : QE X b i wi) (he : QE X b e we)
    (ha : ∀ ov iv new, augStore i ov iv new = (do holding [new, ov, iv] (setItem ov iv new); release [new, ov, iv] []; pure .next)) :
    QS X b (.AugAssign (.Subscript o i tpos) op e pos) (fun env S K => wo env S fun x S1 => wi env S1 fun y S2 => ∃ n xs k j a, x = .ref n ∧ y = .int k ∧ S2[n]? = some (.lst xs) ∧ ixN xs.length k = some j ∧ xs[j]? = some (.int a) ∧
      we env S2 fun z S3 => ∃ d r ys l, z = .int d ∧ augI op a d = some r ∧ S3[n]? = some (.lst ys) ∧ ixN ys.length k = some l ∧ K.nx env (S3.set n (.lst (ys.set l (.int r))))) := by
  refine ps_imp (ps_augS ho.pe hi.pe get_list he.pe pip_ok set_list ha) fun D σ H ⟨F, μ, env, S, M, a, q, k⟩ => ?_
  refine ⟨F, μ, env, S, _, a, q, fun x H1 ⟨F1, μ1, d1, S1, e1, w1, r1, q1⟩ => ?_⟩
  refine ⟨F1, μ1, env, S1, _, a.step e1 w1, q1, fun y H2 ⟨F2, μ2, d2, S2, e2, w2, r2, n, xs, kk, j, c, ed1, ed2, hS, hj, hx, q2⟩ => ?_⟩
  subst ed1 ed2
  cases r2
  have r1' := r1.ext e2
  cases r1' with
  | @ref n p hp =>
    obtain ⟨u, hu, vs, rfl, hs2⟩ := w2.st n _ p hS hp
    obtain ⟨v, hv, rv⟩ := hs2.get hx
    cases rv
    refine ⟨p, vs, kk, j, .int c, rfl, rfl, hu, by rw [← hs2.length]; exact hj, hv, ?_⟩
    refine ⟨F2, μ2, env, S2, _, (a.step e1 w1).step e2 w2, q2, fun z H3 ⟨F3, μ3, d3, S3, e3, w3, r3, dd, r, ys, l, ed3, er, hS3, hl, q3⟩ => ?_⟩
    subst ed3
    cases r3
    have hp3 : μ3[n]? = some p := e3.get hp
    obtain ⟨u3, hu3, vs3, rfl, hs3⟩ := w3.st n _ p hS3 hp3
    refine ⟨c, dd, r, rfl, rfl, er, p, vs3, kk, l, rfl, rfl, hu3, by rw [← hs3.length]; exact hl, ?_⟩
    have w4 := w3.set (u := .lst (vs3.set l (.int r))) (o := .lst (ys.set l (.int r))) hp3 ⟨_, rfl, RDs.set (.int r) l hs3⟩
    exact k.nx _ _ ⟨F3, μ3, env, _, (e1.trans e2).trans e3, ⟨w4, ((a.re.ext e1).ext e2).ext e3, ((a.ex.trans e1).trans e2).trans e3⟩, q3⟩
theorem qs_ite {c : Expr} {xs ys : List Stmt} {w : ME1} {wa wb : MS1} (hc : QT X b c w) (ha : QSs X b xs wa) (hb : QSs X b ys wb) :
    QS X b (.If c xs ys pos) (fun env S K => w env S fun x S1 => tst S1 x fun p => if p = true then wa env S1 K else wb env S1 K) := by
  refine ps_imp (ps_if hc.pt ha hb) fun D σ H ⟨F, μ, env, S, M, a, q, k⟩ => ⟨F, μ, env, S, _, a, q, fun d S1 h => tst_tru h, fun p H1 ⟨F1, μ1, d, S1, e1, w1, t1, q1⟩ => ?_⟩
  have q1 := tst_at q1 t1
  cases p with
  | true => exact ⟨F1, μ1, env, S1, M, a.step e1 w1, q1, k.ext e1⟩
  | false => exact ⟨F1, μ1, env, S1, M, a.step e1 w1, q1, k.ext e1⟩
theorem qs_ret {e : Expr} {w : ME1} (h : QE X b e w) : QS X b (.Return (some e) pos) (fun env S K => w env S K.rt) :=
  ps_imp (ps_ret h.pe) fun D σ H ⟨F, μ, env, S, M, a, q, k⟩ => ⟨F, μ, env, S, _, a, q, fun v H1 z => k.rt _ _ z⟩
theorem qs_retN : QS X b (.Return none pos) (fun env S K => K.rt .non S) :=
  ps_imp ps_retN fun D σ H ⟨F, μ, env, S, M, a, q, k⟩ => k.rt _ _ ⟨F, μ, .non, S, .refl, a.wi, .non, q⟩
theorem qs_brk : QS X b (.Break pos) (fun env S K => K.bk env S) := ps_imp ps_break fun D σ H ⟨F, μ, env, S, M, a, q, k⟩ => k.bk _ _ ⟨F, μ, env, S, .refl, a, q⟩
theorem qs_cnt : QS X b (.Continue pos) (fun env S K => K.ct env S) := ps_imp ps_continue fun D σ H ⟨F, μ, env, S, M, a, q, k⟩ => k.ct _ _ ⟨F, μ, env, S, .refl, a, q⟩
theorem qs_pss : QS X b (.Pass pos) (fun env S K => K.nx env S) := ps_imp ps_pass fun D σ H ⟨F, μ, env, S, M, a, q, k⟩ => k.nx _ _ ⟨F, μ, env, S, .refl, a, q⟩
/-- while -/
theorem qs_whl {c : Expr} {body : List Stmt} {wt : ME1} {wb : MS1} (hp : PassesOwn (model X.prog X.w) X.A X.env X.xe) (hc : QT X b c wt) (hb : QSs X b body wb) :
    QS X b (.While c body [] pos) (fun env S K => ∃ n, whlN wt (fun env1 S1 P => wb env1 S1 { nx := P, rt := K.rt, bk := K.nx, ct := P }) K.nx n env S) := by
  refine ps_imp (ps_while hp hc.pt hb) fun D σ H ⟨F, μ, env, S, M, a, ⟨n, q⟩, k⟩ => ?_
  refine ⟨fun m σ1 H1 => ∃ F1 μ1 env1 S1, Ext F μ F1 μ1 ∧ At X.K b F1 μ1 S1 H1 env1 σ1 ∧ whlN wt (fun env1 S1 P => wb env1 S1 { nx := P, rt := M.rt, bk := M.nx, ct := P }) M.nx m env1 S1, ⟨n, F, μ, env, S, .refl, a, q⟩, ?_⟩
  rintro m σ1 H1 ⟨F1, μ1, env1, S1, e1, a1, q1⟩
  cases m with
  | zero => exact q1.elim
  | succ m =>
    refine ⟨F1, μ1, env1, S1, _, a1, q1, fun d S1 h => tst_tru h, fun p H2 ⟨F2, μ2, d, S2, e2, w2, t2, q2⟩ => ?_⟩
    have q2 := tst_at q2 t2
    cases p with
    | false => exact k.nx _ _ ⟨F2, μ2, env1, S2, e1.trans e2, a1.step e2 w2, q2⟩
    | true =>
      simp only [if_true] at q2 ⊢
      refine ⟨_, fun σ' H' h => ⟨m, Nat.lt_succ_self m, h⟩, ?_⟩
      refine ⟨F2, μ2, env1, S2, _, a1.step e2 w2, q2, ?_, ?_, ?_, ?_⟩
      · rintro σ3 H3 ⟨F3, μ3, env3, S3, e3, a3, q3⟩
        exact ⟨F3, μ3, env3, S3, (e1.trans e2).trans e3, a3, q3⟩
      · exact fun v H3 z => k.rt _ _ (postH_mono (e1.trans e2) z)
      · exact fun σ3 H3 z => k.nx _ _ (postS_mono (e1.trans e2) z)
      · rintro σ3 H3 ⟨F3, μ3, env3, S3, e3, a3, q3⟩
        exact ⟨F3, μ3, env3, S3, (e1.trans e2).trans e3, a3, q3⟩
/-- for -/
theorem qs_for {tg iter : Expr} {body : List Stmt} {t : MT} {wi : MI} {wb : MS1} (hp : PassesOwn (model X.prog X.w) X.A X.env X.xe) (hc : X.calm = true) (hi : QI X b tg iter wi) (hg : PG X tg (gT X.K t)) (hb : QSs X b body wb) (hs : ∀ x, foldedSetIterable iter X.env x = pure x) :
    QS X b (.For tg iter body [] pos) (fun env S K => wi env S fun s S1 => match s with
      | .fix xs => forL (fun x env1 S2 P => tgt t x env1 S2 fun env2 => wb env2 S2 { nx := P, rt := K.rt, bk := K.nx, ct := P }) K.nx xs env S1
      | .live n => ∃ k, forR (fun x env1 S2 P => tgt t x env1 S2 fun env2 => wb env2 S2 { nx := P, rt := K.rt, bk := K.nx, ct := P }) K.nx n k 0 env S1
      | .keys n u => ∃ xs, srcL S1 (.keys n u) = some xs ∧ forL (fun x env1 S2 P => tgt t x env1 S2 fun env2 => wb env2 S2 { nx := fun env3 S3 => srcL S3 (.keys n u) = some xs ∧ P env3 S3, rt := K.rt, bk := K.nx, ct := fun env3 S3 => srcL S3 (.keys n u) = some xs ∧ P env3 S3 }) K.nx xs env S1
      | .enl n => ∃ xs, srcL S1 (.enl n) = some xs ∧ forL (fun x env1 S2 P => tgt t x env1 S2 fun env2 => wb env2 S2 { nx := fun env3 S3 => srcL S3 (.enl n) = some xs ∧ P env3 S3, rt := K.rt, bk := K.nx, ct := fun env3 S3 => srcL S3 (.enl n) = some xs ∧ P env3 S3 }) K.nx xs env S1) := by
  refine ps_imp (ps_for hp hc hi.pi hg hb hs) fun De σ H ⟨F, μ, env, S, M, a, q, k⟩ => ?_
  refine ⟨F, μ, env, S, _, a, q, fun J H1 F1 μ1 sr S1 e1 w1 rep q1 => ?_⟩
  have a1 := a.step e1 w1
  have k1 := k.ext e1
  have go : ∀ {F2 : Hp} {μ2 : List Addr} {S2 : Store} {H2 : Hp} {env2 : DEnv} {σ2 : L2.St} {d : D} {x : V} {P : DEnv → Store → Prop} {Nx : L2.St → Hp → Prop}, Ext F1 μ1 F2 μ2 → At X.K b F2 μ2 S2 H2 env2 σ2 → RD X.K b.fa F2 μ2 d x →
      (tgt t d env2 S2 fun env3 => wb env3 S2 { nx := P, rt := M.rt, bk := M.nx, ct := P }) → (∀ F3 μ3 S3 H3 env3 σ3, Ext F1 μ1 F3 μ3 → At X.K b F3 μ3 S3 H3 env3 σ3 → P env3 S3 → Nx σ3 H3) →
      gT X.K t x σ2 H2 fun σ3 H3 => liftS X.K b wb { De with nx := Nx, ct := Nx, bk := De.nx } σ3 H3 := by
    intro F2 μ2 S2 H2 env2 σ2 d x P Nx e2 a2 rx h2 hk
    refine gT_mono ?_ (tgt_ok a2.wi t rx a2.re h2)
    rintro σ3 H3 ⟨eH, env3, re3, q3, _⟩
    subst eH
    refine ⟨F2, μ2, env3, S2, _, ⟨a2.wi, re3, a2.ex⟩, q3, ?_, fun v H4 z => k1.rt _ _ (postH_mono e2 z), fun σ4 H4 z => k1.nx _ _ (postS_mono e2 z), ?_⟩
    all_goals
      rintro σ4 H4 ⟨F4, μ4, env4, S4, e4, a4, q4⟩
      exact hk F4 μ4 S4 H4 env4 σ4 (e2.trans e4) a4 q4
  cases sr with
  | fix xs =>
    refine ⟨fun i m σ2 H2 => m = xs.length - i ∧ ∃ F2 μ2 env2 S2, Ext F1 μ1 F2 μ2 ∧ At X.K b F2 μ2 S2 H2 env2 σ2 ∧
      forL (fun x env1 S2 P => tgt t x env1 S2 fun env2 => wb env2 S2 { nx := P, rt := M.rt, bk := M.nx, ct := P }) M.nx (xs.drop i) env2 S2, ⟨xs.length, rfl, F1, μ1, env, S1, .refl, a1, q1⟩, ?_⟩
    rintro i m σ2 H2 ⟨rfl, F2, μ2, env2, S2, e2, a2, q2⟩
    have hr := rep _ F2 μ2 S2 H2 xs i e2 a2.wi rfl
    cases hx : xs[i]? with
    | none =>
      refine .inl ⟨hr.1 hx, ?_⟩
      rw [List.drop_eq_nil_of_le (none_len hx)] at q2
      exact k1.nx _ _ ⟨F2, μ2, env2, S2, e2, a2, q2⟩
    | some d =>
      obtain ⟨hi, hd⟩ := List.getElem?_eq_some_iff.mp hx
      obtain ⟨g1, yl⟩ := hr.2 d hx
      refine .inr ⟨g1, _, fun σ' H' (h : ∃ F2 μ2 env2 S2, Ext F1 μ1 F2 μ2 ∧ At X.K b F2 μ2 S2 H' env2 σ' ∧ forL (fun x env1 S2 P => tgt t x env1 S2 fun env2 => wb env2 S2 { nx := P, rt := M.rt, bk := M.nx, ct := P }) M.nx (xs.drop (i + 1)) env2 S2) => ⟨xs.length - (i + 1), by omega, rfl, h⟩, fun x H3 y => ?_⟩
      obtain ⟨F3, μ3, e3, w3, rx⟩ := yl x H3 y
      rw [List.drop_eq_getElem_cons hi, hd, forL] at q2
      refine go (e2.trans e3) (a2.step e3 w3) rx q2 ?_
      intro F4 μ4 S4 H4 env4 σ4 e4 a4 q4
      exact ⟨F4, μ4, env4, S4, e4, a4, q4⟩
  | live n =>
    obtain ⟨kk, q1⟩ := q1
    refine ⟨fun i m σ2 H2 => ∃ F2 μ2 env2 S2, Ext F1 μ1 F2 μ2 ∧ At X.K b F2 μ2 S2 H2 env2 σ2 ∧
      forR (fun x env1 S2 P => tgt t x env1 S2 fun env2 => wb env2 S2 { nx := P, rt := M.rt, bk := M.nx, ct := P }) M.nx n m i env2 S2, ⟨kk, F1, μ1, env, S1, .refl, a1, q1⟩, ?_⟩
    rintro i m σ2 H2 ⟨F2, μ2, env2, S2, e2, a2, q2⟩
    cases m with
    | zero => exact q2.elim
    | succ m =>
      obtain ⟨xs, hS, q2⟩ := q2
      have hsrc : srcL S2 (.live n) = some xs := by simp [srcL, seqL, hS]
      have hr := rep _ F2 μ2 S2 H2 xs i e2 a2.wi hsrc
      cases hx : xs[i]? with
      | none =>
        rw [hx] at q2
        exact .inl ⟨hr.1 hx, k1.nx _ _ ⟨F2, μ2, env2, S2, e2, a2, q2⟩⟩
      | some d =>
        rw [hx] at q2
        obtain ⟨g1, yl⟩ := hr.2 d hx
        refine .inr ⟨g1, _, fun σ' H' (h : ∃ F2 μ2 env2 S2, Ext F1 μ1 F2 μ2 ∧ At X.K b F2 μ2 S2 H' env2 σ' ∧ forR (fun x env1 S2 P => tgt t x env1 S2 fun env2 => wb env2 S2 { nx := P, rt := M.rt, bk := M.nx, ct := P }) M.nx n m (i + 1) env2 S2) => ⟨m, Nat.lt_succ_self m, h⟩, fun x H3 y => ?_⟩
        obtain ⟨F3, μ3, e3, w3, rx⟩ := yl x H3 y
        refine go (e2.trans e3) (a2.step e3 w3) rx q2 ?_
        intro F4 μ4 S4 H4 env4 σ4 e4 a4 q4
        exact ⟨F4, μ4, env4, S4, e4, a4, q4⟩
  | keys n u =>
    obtain ⟨xs, s1, q1⟩ := q1
    refine ⟨fun i m σ2 H2 => m = xs.length - i ∧ ∃ F2 μ2 env2 S2, Ext F1 μ1 F2 μ2 ∧ At X.K b F2 μ2 S2 H2 env2 σ2 ∧ srcL S2 (.keys n u) = some xs ∧
      forL (fun x env1 S2 P => tgt t x env1 S2 fun env2 => wb env2 S2 { nx := fun env3 S3 => srcL S3 (.keys n u) = some xs ∧ P env3 S3, rt := M.rt, bk := M.nx, ct := fun env3 S3 => srcL S3 (.keys n u) = some xs ∧ P env3 S3 }) M.nx (xs.drop i) env2 S2, ⟨xs.length, rfl, F1, μ1, env, S1, .refl, a1, s1, q1⟩, ?_⟩
    rintro i m σ2 H2 ⟨rfl, F2, μ2, env2, S2, e2, a2, s2, q2⟩
    have hr := rep _ F2 μ2 S2 H2 xs i e2 a2.wi s2
    cases hx : xs[i]? with
    | none =>
      refine .inl ⟨hr.1 hx, ?_⟩
      rw [List.drop_eq_nil_of_le (none_len hx)] at q2
      exact k1.nx _ _ ⟨F2, μ2, env2, S2, e2, a2, q2⟩
    | some d =>
      obtain ⟨hi, hd⟩ := List.getElem?_eq_some_iff.mp hx
      obtain ⟨g1, yl⟩ := hr.2 d hx
      refine .inr ⟨g1, _, fun σ' H' (h : ∃ F2 μ2 env2 S2, Ext F1 μ1 F2 μ2 ∧ At X.K b F2 μ2 S2 H' env2 σ' ∧ srcL S2 (.keys n u) = some xs ∧ forL (fun x env1 S2 P => tgt t x env1 S2 fun env2 => wb env2 S2 { nx := fun env3 S3 => srcL S3 (.keys n u) = some xs ∧ P env3 S3, rt := M.rt, bk := M.nx, ct := fun env3 S3 => srcL S3 (.keys n u) = some xs ∧ P env3 S3 }) M.nx (xs.drop (i + 1)) env2 S2) => ⟨xs.length - (i + 1), by omega, rfl, h⟩, fun x H3 y => ?_⟩
      obtain ⟨F3, μ3, e3, w3, rx⟩ := yl x H3 y
      rw [List.drop_eq_getElem_cons hi, hd, forL] at q2
      refine go (e2.trans e3) (a2.step e3 w3) rx q2 ?_
      intro F4 μ4 S4 H4 env4 σ4 e4 a4 q4
      exact ⟨F4, μ4, env4, S4, e4, a4, q4⟩
  | enl n =>
    obtain ⟨xs, s1, q1⟩ := q1
    refine ⟨fun i m σ2 H2 => m = xs.length - i ∧ ∃ F2 μ2 env2 S2, Ext F1 μ1 F2 μ2 ∧ At X.K b F2 μ2 S2 H2 env2 σ2 ∧ srcL S2 (.enl n) = some xs ∧
      forL (fun x env1 S2 P => tgt t x env1 S2 fun env2 => wb env2 S2 { nx := fun env3 S3 => srcL S3 (.enl n) = some xs ∧ P env3 S3, rt := M.rt, bk := M.nx, ct := fun env3 S3 => srcL S3 (.enl n) = some xs ∧ P env3 S3 }) M.nx (xs.drop i) env2 S2, ⟨xs.length, rfl, F1, μ1, env, S1, .refl, a1, s1, q1⟩, ?_⟩
    rintro i m σ2 H2 ⟨rfl, F2, μ2, env2, S2, e2, a2, s2, q2⟩
    have hr := rep _ F2 μ2 S2 H2 xs i e2 a2.wi s2
    cases hx : xs[i]? with
    | none =>
      refine .inl ⟨hr.1 hx, ?_⟩
      rw [List.drop_eq_nil_of_le (none_len hx)] at q2
      exact k1.nx _ _ ⟨F2, μ2, env2, S2, e2, a2, q2⟩
    | some d =>
      obtain ⟨hi, hd⟩ := List.getElem?_eq_some_iff.mp hx
      obtain ⟨g1, yl⟩ := hr.2 d hx
      refine .inr ⟨g1, _, fun σ' H' (h : ∃ F2 μ2 env2 S2, Ext F1 μ1 F2 μ2 ∧ At X.K b F2 μ2 S2 H' env2 σ' ∧ srcL S2 (.enl n) = some xs ∧ forL (fun x env1 S2 P => tgt t x env1 S2 fun env2 => wb env2 S2 { nx := fun env3 S3 => srcL S3 (.enl n) = some xs ∧ P env3 S3, rt := M.rt, bk := M.nx, ct := fun env3 S3 => srcL S3 (.enl n) = some xs ∧ P env3 S3 }) M.nx (xs.drop (i + 1)) env2 S2) => ⟨xs.length - (i + 1), by omega, rfl, h⟩, fun x H3 y => ?_⟩
      obtain ⟨F3, μ3, e3, w3, rx⟩ := yl x H3 y
      rw [List.drop_eq_getElem_cons hi, hd, forL] at q2
      refine go (e2.trans e3) (a2.step e3 w3) rx q2 ?_
      intro F4 μ4 S4 H4 env4 σ4 e4 a4 q4
      exact ⟨F4, μ4, env4, S4, e4, a4, q4⟩
end
end Mp

set_option Elab.async false
set_option linter.all false
set_option maxRecDepth 100000
set_option maxHeartbeats 2000000
/-! M, part 12b: dicts: rules. -/
namespace Mp
open PySem PySem.Spec PyProof.Rows L2
section
variable {K : PySem.W.Frag} {fa : FA} {F L H : Hp} {μ : List Addr} {S : Store}
/-! ### keys -/
theorem rd_key1 {k : L2.Key} (h : okKey k) : RD K fa F μ (keyD1 k) (kV k) := by
  cases k with
  | inl i => exact .int i
  | inr x => exact .str h
theorem rds_keys : ∀ {ks : List L2.Key}, (∀ k ∈ ks, okKey k) → RDs K fa F μ (ks.map keyD1) (ks.map kV)
  | [], _ => .nil
  | k :: ks, h => .cons (rd_key1 (h k List.mem_cons_self)) (rds_keys fun k' hk => h k' (List.mem_cons_of_mem _ hk))
theorem key1_rd {d : D} {v : V} {k : L2.Key} (r : RD K fa F μ d v) (e : key1 d = some k) : v = kV k ∧ okKey k := by
  cases r with
  | int i => cases e; exact ⟨rfl, trivial⟩
  | str h => cases e; exact ⟨rfl, h⟩
  | _ => cases e
theorem keys1_rd : ∀ {ds : List D} {vs : List V} {ks : List L2.Key}, RDs K fa F μ ds vs → keys1 ds = some ks → vs = ks.map kV ∧ ∀ k ∈ ks, okKey k
  | [], _, ks, .nil, e => by cases e; exact ⟨rfl, fun _ h => nomatch h⟩
  | d :: ds, _, ks, .cons h hs, e => by
    rw [keys1] at e
    cases h1 : key1 d with
    | none => rw [h1] at e; cases e
    | some k =>
      cases h2 : keys1 ds with
      | none => rw [h1, h2] at e; cases e
      | some l =>
        rw [h1, h2] at e
        cases e
        obtain ⟨rfl, o1⟩ := key1_rd h h1
        obtain ⟨rfl, o2⟩ := keys1_rd hs h2
        refine ⟨rfl, fun k' hk => ?_⟩
        rcases List.mem_cons.mp hk with rfl | hk
        · exact o1
        · exact o2 _ hk
theorem dkey_K {d : D} {v : V} {ks : List L2.Key} (r : RD K fa F μ d v) (e : dkey false d = some ks) : ∃ k, ks = [k] ∧ v = kV k ∧ okKey k := by
  have e : (key1 d).map (fun k => [k]) = some ks := by cases d <;> exact e
  obtain ⟨k, h1, rfl⟩ := Option.map_eq_some_iff.mp e
  obtain ⟨rfl, o⟩ := key1_rd r h1
  exact ⟨k, rfl, rfl, o⟩
theorem dkey_T {d : D} {v : V} {ks : List L2.Key} (r : RD K fa F μ d v) (e : dkey true d = some ks) : (∃ b, v = .ref b ∧ F b = some (.tup (ks.map kV))) ∧ ∀ k ∈ ks, okKey k := by
  cases r with
  | tup h hs =>
    obtain ⟨rfl, o⟩ := keys1_rd hs e
    exact ⟨⟨_, rfl, h⟩, o⟩
  | _ => cases e
theorem dkey_ok {t : Bool} {d : D} {v : V} {ks : List L2.Key} (r : RD K fa F μ d v) (e : dkey t d = some ks) : ∀ k ∈ ks, okKey k := by
  cases t with
  | true => exact (dkey_T r e).2
  | false =>
    obtain ⟨k, rfl, _, o⟩ := dkey_K r e
    intro k' hk
    rw [List.mem_singleton.mp hk]; exact o
/-! ### look-up, store -/
theorem val_T {ks : List L2.Key} : ∀ {kvs : List (List L2.Key × D)} {vs : List (List L2.Key × V)}, Paired (kRelT K fa F μ) kvs vs → (∀ d, valD kvs ks = some d → ∃ v, valV vs ks = some v ∧ RD K fa F μ d v) ∧ (valD kvs ks = none → valV vs ks = none)
  | _, _, .nil => ⟨fun _ h => (nomatch h), fun _ => rfl⟩
  | p :: kvs, q :: vs, .cons h hs => by
    obtain ⟨i1, i2⟩ := val_T (ks := ks) hs
    by_cases e : p.1 = ks
    · have e1 : valD (p :: kvs) ks = some p.2 := by simp [valD, List.find?_cons, e]
      rw [e1, valV_pos (h.1.symm.trans e)]
      refine ⟨fun d z => ?_, fun z => ?_⟩
      · cases z; exact ⟨_, rfl, h.2⟩
      · cases z
    · have e1 : valD (p :: kvs) ks = valD kvs ks := by simp [valD, List.find?_cons, e]
      rw [e1, valV_neg (fun z => e (h.1.trans z))]
      exact ⟨i1, i2⟩
theorem val_K {k : L2.Key} : ∀ {kvs : List (List L2.Key × D)} {vs : List (L2.Key × V)}, Paired (kRelK K fa F μ) kvs vs → (∀ d, valD kvs [k] = some d → ∃ v, valV vs k = some v ∧ RD K fa F μ d v) ∧ (valD kvs [k] = none → valV vs k = none)
  | _, _, .nil => ⟨fun _ h => (nomatch h), fun _ => rfl⟩
  | p :: kvs, q :: vs, .cons h hs => by
    obtain ⟨i1, i2⟩ := val_K (k := k) hs
    by_cases e : q.1 = k
    · have e0 : p.1 = [k] := by rw [h.1, e]
      have e1 : valD (p :: kvs) [k] = some p.2 := by simp [valD, List.find?_cons, e0]
      rw [e1, valV_pos e]
      refine ⟨fun d z => ?_, fun z => ?_⟩
      · cases z; exact ⟨_, rfl, h.2⟩
      · cases z
    · have e0 : ¬ p.1 = [k] := fun z => e (by rw [h.1] at z; cases z; rfl)
      have e1 : valD (p :: kvs) [k] = valD kvs [k] := by simp [valD, List.find?_cons, e0]
      rw [e1, valV_neg e]
      exact ⟨i1, i2⟩
theorem any_T {ks : List L2.Key} : ∀ {kvs : List (List L2.Key × D)} {vs : List (List L2.Key × V)}, Paired (kRelT K fa F μ) kvs vs → (kvs.any fun p => decide (p.1 = ks)) = vs.any fun p => decide (p.1 = ks)
  | _, _, .nil => rfl
  | p :: kvs, q :: vs, .cons h hs => by rw [List.any_cons, List.any_cons, any_T hs, h.1]
theorem any_K {k : L2.Key} : ∀ {kvs : List (List L2.Key × D)} {vs : List (L2.Key × V)}, Paired (kRelK K fa F μ) kvs vs → (kvs.any fun p => decide (p.1 = [k])) = vs.any fun p => decide (p.1 = k)
  | _, _, .nil => rfl
  | p :: kvs, q :: vs, .cons h hs => by
    rw [List.any_cons, List.any_cons, any_K hs, h.1]
    congr 1
    simp
theorem map_T {ks : List L2.Key} {d : D} {v : V} (r : RD K fa F μ d v) : ∀ {kvs : List (List L2.Key × D)} {vs : List (List L2.Key × V)}, Paired (kRelT K fa F μ) kvs vs →
    Paired (kRelT K fa F μ) (kvs.map fun p => if p.1 = ks then (p.1, d) else p) (vs.map fun p => if p.1 = ks then (p.1, v) else p)
  | _, _, .nil => .nil
  | p :: kvs, q :: vs, .cons h hs => by
    rw [List.map_cons, List.map_cons]
    refine .cons ?_ (map_T r hs)
    by_cases e : q.1 = ks
    · rw [if_pos e, if_pos (h.1.trans e)]; exact ⟨h.1, r⟩
    · rw [if_neg e, if_neg (fun z => e (h.1.symm.trans z))]; exact h
theorem map_K {k : L2.Key} {d : D} {v : V} (r : RD K fa F μ d v) : ∀ {kvs : List (List L2.Key × D)} {vs : List (L2.Key × V)}, Paired (kRelK K fa F μ) kvs vs →
    Paired (kRelK K fa F μ) (kvs.map fun p => if p.1 = [k] then (p.1, d) else p) (vs.map fun p => if p.1 = k then (p.1, v) else p)
  | _, _, .nil => .nil
  | p :: kvs, q :: vs, .cons h hs => by
    rw [List.map_cons, List.map_cons]
    refine .cons ?_ (map_K r hs)
    by_cases e : q.1 = k
    · rw [if_pos e, if_pos (by rw [h.1, e])]; exact ⟨h.1, r⟩
    · rw [if_neg e, if_neg (fun z => e (by rw [h.1] at z; cases z; rfl))]; exact h
theorem paired_snoc {α β : Type} {R : α → β → Prop} {a : α} {c : β} : ∀ {xs : List α} {ys : List β}, Paired R xs ys → R a c → Paired R (xs ++ [a]) (ys ++ [c])
  | _, _, .nil, h => .cons h .nil
  | _, _, .cons h hs, h2 => .cons h (paired_snoc hs h2)
theorem put_T {ks : List L2.Key} {d : D} {v : V} {kvs : List (List L2.Key × D)} {vs : List (List L2.Key × V)} (h : Paired (kRelT K fa F μ) kvs vs) (r : RD K fa F μ d v) : Paired (kRelT K fa F μ) (putD kvs ks d) (putK vs ks v) := by
  unfold putD putK
  rw [any_T h]
  split
  · exact map_T r h
  · exact paired_snoc h ⟨rfl, r⟩
theorem put_K {k : L2.Key} {d : D} {v : V} {kvs : List (List L2.Key × D)} {vs : List (L2.Key × V)} (h : Paired (kRelK K fa F μ) kvs vs) (r : RD K fa F μ d v) : Paired (kRelK K fa F μ) (putD kvs [k] d) (putK vs k v) := by
  unfold putD putK
  rw [any_K h]
  split
  · exact map_K r h
  · exact paired_snoc h ⟨rfl, r⟩
theorem okKeys_put {kvs : KVs} {ks : List L2.Key} {d : D} (h : ∀ p ∈ kvs, ∀ k ∈ p.1, okKey k) (h2 : ∀ k ∈ ks, okKey k) : ∀ p ∈ putD kvs ks d, ∀ k ∈ p.1, okKey k := by
  intro p hp
  unfold putD at hp
  split at hp
  · obtain ⟨q, hq, rfl⟩ := List.mem_map.mp hp
    split
    · exact h q hq
    · exact h q hq
  · rcases List.mem_append.mp hp with hp | hp
    · exact h p hp
    · rw [List.mem_singleton.mp hp]; exact h2
/-- a look-up -/
theorem dget_of (w : WI K fa F L μ S H) {n : Nat} {a : Addr} (hn : μ[n]? = some a) {t : Bool} {z : Option HO} {kvs : KVs} (ho : S[n]? = some (.dct t z kvs)) {dy : D} {y : V} (ry : RD K fa F μ dy y) {ks : List L2.Key} (ek : dkey t dy = some ks) :
    ∃ o, DGet H a y o ∧ (∀ d, valD kvs ks = some d → ∃ v, o = some v ∧ RD K fa F μ d v) ∧ (valD kvs ks = none → o = none) := by
  obtain ⟨_, u0, dv, hr, _⟩ := dct_at w hn ho
  cases t with
  | true =>
    obtain ⟨vs, rfl, pr⟩ := dv
    obtain ⟨⟨b, rfl, hb⟩, _⟩ := dkey_T ry ek
    obtain ⟨h1, h2⟩ := val_T (ks := ks) pr
    exact ⟨valV vs ks, .inr ⟨vs, ks, b, hr, rfl, w.fz _ _ hb, rfl⟩, fun d e => h1 d e, h2⟩
  | false =>
    obtain ⟨vs, rfl, pr⟩ := dv
    obtain ⟨k, rfl, rfl, _⟩ := dkey_K ry ek
    obtain ⟨h1, h2⟩ := val_K (k := k) pr
    exact ⟨valV vs k, .inl ⟨vs, k, hr, rfl, rfl⟩, fun d e => h1 d e, h2⟩
/-- a store -/
theorem dput_of (w : WI K fa F L μ S H) {n : Nat} {a : Addr} (hn : μ[n]? = some a) {t : Bool} {kvs : KVs} (ho : S[n]? = some (.dct t none kvs)) {dy dd : D} {y v : V} (ry : RD K fa F μ dy y) (rv : RD K fa F μ dd v) {ks : List L2.Key} (ek : dkey t dy = some ks) (hl : kvs.length < sizeLine) :
    ∃ H', DPut H a y v H' ∧ WI K fa F L μ (S.set n (.dct t none (putD kvs ks dd))) H' := by
  obtain ⟨ok, u0, dv, _, hz, _⟩ := dct_at w hn ho
  have ha := hz rfl
  have ok2 := okKeys_put (d := dd) ok (dkey_ok ry ek)
  cases t with
  | true =>
    obtain ⟨vs, rfl, pr⟩ := dv
    obtain ⟨⟨b, rfl, hb⟩, _⟩ := dkey_T ry ek
    have hl2 : vs.length < sizeLine := by rw [← paired_len pr]; exact hl
    exact ⟨_, .inr ⟨vs, ks, b, ha, rfl, w.fz _ _ hb, hl2, rfl⟩, w.set hn ⟨ok2, _, ⟨_, rfl, put_T pr rv⟩, .inl ⟨rfl, rfl⟩⟩⟩
  | false =>
    obtain ⟨vs, rfl, pr⟩ := dv
    obtain ⟨k, rfl, rfl, _⟩ := dkey_K ry ek
    have hl2 : vs.length < sizeLine := by rw [← paired_len pr]; exact hl
    exact ⟨_, .inl ⟨vs, k, ha, rfl, hl2, rfl⟩, w.set hn ⟨ok2, _, ⟨_, rfl, put_K pr rv⟩, .inl ⟨rfl, rfl⟩⟩⟩
theorem isD_of (w : WI K fa F L μ S H) {n : Nat} {a : Addr} (hn : μ[n]? = some a) {t : Bool} {z : Option HO} {kvs : KVs} (ho : S[n]? = some (.dct t z kvs)) : IsD H a := by
  obtain ⟨_, u0, dv, hr, _⟩ := dct_at w hn ho
  cases t with
  | true => obtain ⟨vs, rfl, pr⟩ := dv; exact .inr ⟨vs, hr⟩
  | false => obtain ⟨vs, rfl, pr⟩ := dv; exact .inl ⟨vs, hr⟩
end
section
variable {X : Cx} {b : MB} {pos : Pos}
theorem qe_no {e : Expr} : QE X b e (fun _ _ _ => False) := ⟨fun _ _ _ _ _ _ _ _ _ _ _ h => h.elim⟩
theorem qt_no {e : Expr} : QT X b e (fun _ _ _ => False) := ⟨fun _ _ _ _ _ _ _ _ _ _ _ h => h.elim⟩
theorem qs_no {st : Stmt} : QS X b st (fun _ _ _ => False) := ⟨fun pins s σ H D I ⟨F, μ, env, S, M, a, q, k⟩ => q.elim⟩
theorem qe_dnew (t : Bool) : QE X b (.Dict [] [] pos) (fun env S Q => Q (.ref S.length) (S ++ [.dct t none []])) := by
  have fin : ∀ {F : Hp} {μ : List Addr} {env : DEnv} {S : Store} {Q : MK} {σ : L2.St} {H : Hp} {u : HO}, At X.K b F μ S H env σ → Q (.ref S.length) (S ++ [.dct t none []]) → (∀ μ', dVal X.K b.fa F μ' t [] u) → ∀ p, H p = none → PostH X.K b F μ Q (.ref p) (upd H p u) := by
    intro F μ env S Q σ H u a q hv p hp
    obtain ⟨w', e⟩ := a.wi.newM (u := u) (o := .dct t none []) hp ⟨fun _ h => (nomatch h), u, hv _, .inl ⟨rfl, rfl⟩⟩
    refine ⟨F, μ ++ [p], .ref S.length, S ++ [.dct t none []], e, w', .ref ?_, q⟩
    rw [a.wi.len]; simp
  cases t with
  | true => exact QE.of pe_dnewT fun F μ env S Q σ H a q p hp => fin a q (fun μ' => ⟨[], rfl, .nil⟩) p hp
  | false => exact QE.of pe_dnewK fun F μ env S Q σ H a q p hp => fin a q (fun μ' => ⟨[], rfl, .nil⟩) p hp
theorem ref_rd {K : PySem.W.Frag} {fa : FA} {F : Hp} {μ : List Addr} {n : Nat} {x : V} (r : RD K fa F μ (.ref n) x) : ∃ a, x = .ref a ∧ μ[n]? = some a := by
  cases r with
  | ref h => exact ⟨_, rfl, h⟩
/-- d[k] -/
theorem qe_dsub {o k : Expr} {wo wk : ME1} (hu : X.A.units + 1 < cLine) (ho : QE X b o wo) (hk : QE X b k wk) (hs : NoSl k) :
    QE X b (.Subscript o k pos) (fun env S Q => wo env S fun x S1 => wk env S1 fun y S2 => ∃ n t z kvs ks d, x = .ref n ∧ S2[n]? = some (.dct t z kvs) ∧ dkey t y = some ks ∧ valD kvs ks = some d ∧ Q d S2) :=
  QE.of (pe_dget hu ho.pe hk.pe hs) fun F μ env S Q σ H a h => ⟨F, μ, env, S, _, a, h, fun x H1 ⟨F1, μ1, d1, S1, e1, w1, r1, q1⟩ => ⟨F1, μ1, env, S1, _, a.step e1 w1, q1, fun y H2 ⟨F2, μ2, d2, S2, e2, w2, r2, n, t, z, kvs, ks, d, ed, hS, ek, ev, q2⟩ => by
    subst ed
    obtain ⟨p, rfl, hp⟩ := ref_rd (r1.ext e2)
    obtain ⟨o, g, h1, _⟩ := dget_of w2 hp hS r2 ek
    obtain ⟨v, rfl, rv⟩ := h1 d ev
    exact ⟨p, v, rfl, g, postH_mono (e1.trans e2) (postD w2 rv q2)⟩⟩⟩
/-- k in d, by values -/
def dinR (ng : Bool) : MR2 := fun y x S Q => ∃ n t z kvs ks, x = .ref n ∧ S[n]? = some (.dct t z kvs) ∧ dkey t y = some ks ∧ Q (.bl (if ng = true then !(valD kvs ks).isSome else (valD kvs ks).isSome)) S
theorem q_din (hu : X.A.units + 1 < cLine) (ng : Bool) : QOp X b (compareOp (if ng = true then .NotIn else .In)) (dinR ng) := by
  intro pins s σ H F μ S x y v u dx dy Q I w rx ry dxr dyr hq
  obtain ⟨n, t, z, kvs, ks, rfl, hS, ek, q⟩ := hq
  obtain ⟨p, rfl, hp⟩ := ref_rd dyr
  obtain ⟨o, g, h1, h2⟩ := dget_of w hp hS dxr ek
  have e : o.isSome = (valD kvs ks).isSome := by
    cases hv : valD kvs ks with
    | none => rw [h2 hv]; rfl
    | some d => obtain ⟨v, rfl, _⟩ := h1 d hv; rfl
  obtain rfl : u = Value.ref p := ry
  cases ng with
  | true => exact d_notIn hu I g rx fun s' I' => ⟨.bl (!o.isSome), H, F, μ, _, S, I', rfl, .refl, w, .bl _, by rw [e]; exact q⟩
  | false => exact d_in hu I g rx fun s' I' => ⟨.bl o.isSome, H, F, μ, _, S, I', rfl, .refl, w, .bl _, by rw [e]; exact q⟩
/-- d.get(k, e) -/
theorem qe_dget {o k e : Expr} {wo wk we : ME1} {apos : Pos} (hu : X.A.units + 1 < cLine) (ho : QE X b o wo) (hk : QE X b k wk) (he : QE X b e we) (m : M2 X o "get" apos k e pos) :
    QE X b (.Call (.Attribute o "get" apos) [k, e] [] pos) (fun env S Q => wo env S fun x S1 => ∃ n t z kvs, x = .ref n ∧ S1[n]? = some (.dct t z kvs) ∧ wk env S1 fun y S2 => we env S2 fun w S3 =>
      ∃ t z kvs ks, S3[n]? = some (.dct t z kvs) ∧ dkey t y = some ks ∧ Q ((valD kvs ks).getD w) S3) :=
  QE.of (pe_dget2 hu ho.pe hk.pe he.pe m) fun F μ env S Q σ H a h => ⟨F, μ, env, S, _, a, h, fun x H1 ⟨F1, μ1, d1, S1, e1, w1, r1, n, t, z, kvs, ed, hS, q1⟩ => by
    subst ed
    obtain ⟨p, rfl, hp⟩ := ref_rd r1
    exact ⟨p, rfl, isD_of w1 hp hS, F1, μ1, env, S1, _, a.step e1 w1, q1, fun y H2 ⟨F2, μ2, d2, S2, e2, w2, r2, q2⟩ => ⟨F2, μ2, env, S2, _, (a.step e1 w1).step e2 w2, q2, fun v H3 ⟨F3, μ3, d3, S3, e3, w3, r3, t3, z3, kvs3, ks, hS3, ek, q3⟩ => by
      obtain ⟨o, g, h1, h2⟩ := dget_of w3 ((e2.trans e3).get hp) hS3 (r2.ext e3) ek
      refine ⟨o, g, postH_mono ((e1.trans e2).trans e3) ?_⟩
      cases hv : valD kvs3 ks with
      | none =>
        rw [hv] at q3
        rw [h2 hv]
        exact postD w3 r3 q3
      | some d =>
        rw [hv] at q3
        obtain ⟨v2, rfl, rv⟩ := h1 d hv
        exact postD w3 rv q3⟩⟩⟩
/-- d[k] = e -/
theorem qs_dput {o k e : Expr} {wo wk we : ME1} {pos' : Pos} (hu : X.A.units + 1 < cLine) (ho : QE X b o wo) (hk : QE X b k wk) (he : QE X b e we) (hs : swapsWith e (some (.Subscript o k pos')) pos.line X.env = pure false) :
    QS X b (.Assign [.Subscript o k pos'] e pos) (fun env S K => we env S fun d S1 => wo env S1 fun x S2 => wk env S2 fun y S3 =>
      ∃ n t kvs ks, x = .ref n ∧ S3[n]? = some (.dct t none kvs) ∧ dkey t y = some ks ∧ kvs.length < sizeLine ∧ K.nx env (S3.set n (.dct t none (putD kvs ks d)))) := by
  refine ps_imp (ps_dput hu ho.pe hk.pe he.pe hs) fun D σ H ⟨F, μ, env, S, M, a, q, kk⟩ => ?_
  refine ⟨F, μ, env, S, _, a, q, fun v H1 ⟨F1, μ1, d, S1, e1, w1, r1, q1⟩ => ?_⟩
  refine ⟨F1, μ1, env, S1, _, a.step e1 w1, q1, fun x H2 ⟨F2, μ2, d2, S2, e2, w2, r2, q2⟩ => ?_⟩
  refine ⟨F2, μ2, env, S2, _, (a.step e1 w1).step e2 w2, q2, fun y H3 ⟨F3, μ3, d3, S3, e3, w3, r3, n, t, kvs, ks, ed2, hS, ek, hl, q3⟩ => ?_⟩
  subst ed2
  obtain ⟨p, rfl, hp⟩ := ref_rd (r2.ext e3)
  obtain ⟨H4, g, w4⟩ := dput_of w3 hp hS r3 ((r1.ext e2).ext e3) ek hl
  exact ⟨p, H4, rfl, g, kk.nx _ _ ⟨F3, μ3, env, _, (e1.trans e2).trans e3, ⟨w4, ((a.re.ext e1).ext e2).ext e3, ((a.ex.trans e1).trans e2).trans e3⟩, q3⟩⟩
end
end Mp

set_option Elab.async false
set_option linter.all false
set_option maxRecDepth 100000
set_option maxHeartbeats 2000000
/-! M, part 12c: dicts: setdefault, d[k] op= e, walks. -/
namespace Mp
open PySem PySem.Spec PyProof.Rows L2
section
variable {X : Cx} {b : MB} {pos : Pos}
theorem d_setT {pins : List (Addr × Obj)} {σ : L2.St} {H : Hp} {s : Shared} {a q : Addr} {r : Value} {d : V} {k : List L2.Key} {A : Around} {E : Value → Shared → Prop} {kvs : List (List L2.Key × V)} {Q : Value → Shared → Prop} (hu : A.units + 1 < cLine) (I : Inv X pins σ H s) (e : H a = some (.dT kvs))
    (eb : H q = some (.tup (k.map kV))) (rd : RelV d r) (hl : kvs.length < sizeLine)
    (h1 : ∀ v, valV kvs k = some v → ∀ (w' : Value) (s' : Shared), Inv X pins σ H s' → RelV v w' → Q w' s') (h2 : valV kvs k = none → ∀ (w' : Value) (s' : Shared), Inv X pins σ (upd H a (.dT (putK kvs k d))) s' → RelV d w' → Q w' s') :
    wpAny (model X.prog X.w) A (call (.builtin "dict.setdefault") [.ref a, .ref q, r]) Q E s := by
  obtain ⟨z, hd, xs, rel, dd⟩ := dt_of I.hok e
  have hz : xs.length ≤ sizeLine := by rw [← Paired.length rel]; exact z
  have hl2 : (putK kvs k d).length ≤ sizeLine := by have := length_putK kvs k d; omega
  have rv := rel.val k
  refine call_setdefault_heap (hsz := hz) (tupleKind_room_in1 hu) (key_of I.hok eb) hd dd (fun p hp => ?_) fun hn h' dd' hs => ?_
  · rw [hp] at rv
    cases hv : valV kvs k with
    | none => rw [hv] at rv; exact (show False from rv).elim
    | some v => rw [hv] at rv; exact h1 v hv _ _ (I.tok _) rv
  · rw [hn] at rv
    cases hv : valV kvs k with
    | some v => rw [hv] at rv; exact (show False from rv).elim
    | none =>
      refine h2 hv _ _ ?_ rd
      obtain ⟨ob, es, ep, hq, g2, g3, g4, _, g5⟩ := dd'
      refine d_write I (by rw [e]; exact True.intro) hs ⟨ob, hq⟩ ⟨hl2, hd, _, (rel.put k eb rd).keeps fun c ys ec => ?_, ob, es, ep, hq, g2, g3, g4, g5⟩
      rw [upd_ne (ne_of ec e (fun z => nomatch z))]
      exact ec
def tDSet2 (td ty tx : TE) : TE := fun σ H Q => td σ H fun x H1 => ∃ a, x = .ref a ∧ IsD H1 a ∧ ty σ H1 fun y H2 => tx σ H2 fun z H3 => ∃ o H4, DGet H3 a y o ∧ DPut H3 a y z H4 ∧ (∀ v, o = some v → Q v H3) ∧ (o = none → Q z H4)
theorem pe_dset2 {o e f : Expr} {td ty tx : TE} {apos cpos : Pos} (hu : X.A.units + 1 < cLine) (ho : PE X o td) (he : PE X e ty) (hf : PE X f tx) (m : M2 X o "setdefault" apos e f cpos) : PE X (.Call (.Attribute o "setdefault" apos) [e, f] [] cpos) (tDSet2 td ty tx) := by
  refine ⟨fun pins s σ H Q I h => ?_⟩
  refine wpAny_Call_method m.base m.few m.line PySem.F.plainAttrs_dict PySem.F.slot_dict_setdefault PySem.F.type_dict_setdefault (thn (ho.run pins s σ H _ I h) fun u s1 ⟨x, H1, I1, rx, a, ex, d, q1⟩ => ?_)
  subst ex
  obtain rfl : u = Value.ref a := rx
  obtain ⟨t1, t2, _⟩ := isD_at I1 d
  refine ⟨t1, t2, ?_⟩
  rw [m.trees]
  refine Calls.callWith_builtin rfl (Calls.evalArgs_plain (Calls.spliced_cons (thn (he.run pins s1 σ H1 _ I1 q1) fun iv s2 ⟨y, H2, I2, ry, q2⟩ =>
    Calls.spliced_cons (thn (hf.run pins s2 σ H2 _ I2 q2) fun fv s3 ⟨z, H3, I3, rz, ov, H4, g, p, q3, q4⟩ => Calls.spliced_nil ?_))))
  rcases p with ⟨kvs, k, ea, rfl, hl, rfl⟩ | ⟨kvs, k, c, ea, rfl, eb, hl, rfl⟩
  · have hv : ov = valV kvs k := by
      rcases g with ⟨kvs', k', e', ey, l⟩ | ⟨kvs', k', b', e', ey, eb', l⟩
      · rcases e' with e' | ⟨_, e'⟩ <;> rw [ea] at e' <;> cases e'
        have : k = k' := by cases k <;> cases k' <;> simp [kV] at ey <;> rw [ey]
        subst this; exact l
      · rcases e' with e' | ⟨_, e'⟩ <;> rw [ea] at e' <;> cases e'
    exact d_setd I3 ea ry rz hl (fun v hv' w' s4 I4 rw' => ⟨v, _, I4, rw', q3 v (hv.trans hv')⟩) fun hn w' s4 I4 rw' => ⟨z, _, I4, rw', q4 (hv.trans hn)⟩
  · have hv : ov = valV kvs k := by
      rcases g with ⟨kvs', k', e', ey, l⟩ | ⟨kvs', k', b', e', ey, eb', l⟩
      · rcases e' with e' | ⟨_, e'⟩ <;> rw [ea] at e' <;> cases e'
      · rcases e' with e' | ⟨_, e'⟩ <;> rw [ea] at e' <;> cases e'
        cases ey
        rw [eb] at eb'
        have e2 : k.map kV = k'.map kV := by
          have z := Option.some.inj eb'
          injection z
        have inj : ∀ {x y : L2.Key}, kV x = kV y → x = y := fun {x y} h => by cases x <;> cases y <;> simp [kV] at h <;> rw [h]
        have : k = k' := List.map_inj_right (fun x y h => inj h) |>.mp e2
        subst this; exact l
    obtain rfl : iv = Value.ref c := ry
    exact d_setT hu I3 ea eb rz hl (fun v hv' w' s4 I4 rw' => ⟨v, _, I4, rw', q3 v (hv.trans hv')⟩) fun hn w' s4 I4 rw' => ⟨z, _, I4, rw', q4 (hv.trans hn)⟩
/-- d.setdefault(k, e) -/
theorem qe_dsetd {o k e : Expr} {wo wk we : ME1} {apos : Pos} (hu : X.A.units + 1 < cLine) (ho : QE X b o wo) (hk : QE X b k wk) (he : QE X b e we) (m : M2 X o "setdefault" apos k e pos) :
    QE X b (.Call (.Attribute o "setdefault" apos) [k, e] [] pos) (fun env S Q => wo env S fun x S1 => ∃ n t z kvs, x = .ref n ∧ S1[n]? = some (.dct t z kvs) ∧ wk env S1 fun y S2 => we env S2 fun w S3 =>
      ∃ t kvs ks, S3[n]? = some (.dct t none kvs) ∧ dkey t y = some ks ∧ kvs.length < sizeLine ∧ (∀ d, valD kvs ks = some d → Q d S3) ∧ (valD kvs ks = none → Q w (S3.set n (.dct t none (putD kvs ks w))))) :=
  QE.of (pe_dset2 hu ho.pe hk.pe he.pe m) fun F μ env S Q σ H a h => ⟨F, μ, env, S, _, a, h, fun x H1 ⟨F1, μ1, d1, S1, e1, w1, r1, n, t, z, kvs, ed, hS, q1⟩ => by
    subst ed
    obtain ⟨p, rfl, hp⟩ := ref_rd r1
    exact ⟨p, rfl, isD_of w1 hp hS, F1, μ1, env, S1, _, a.step e1 w1, q1, fun y H2 ⟨F2, μ2, d2, S2, e2, w2, r2, q2⟩ => ⟨F2, μ2, env, S2, _, (a.step e1 w1).step e2 w2, q2, fun v H3 ⟨F3, μ3, d3, S3, e3, w3, r3, t3, kvs3, ks, hS3, ek, hl, q3, q4⟩ => by
      have hp3 := (e2.trans e3).get hp
      obtain ⟨o, g, h1, h2⟩ := dget_of w3 hp3 hS3 (r2.ext e3) ek
      obtain ⟨H4, g2, w4⟩ := dput_of w3 hp3 hS3 (r2.ext e3) r3 ek hl
      refine ⟨o, H4, g, g2, fun v2 ev => ?_, fun en => ?_⟩
      · cases hv : valD kvs3 ks with
        | none => rw [h2 hv] at ev; cases ev
        | some d =>
          obtain ⟨v3, e4, rv⟩ := h1 d hv
          rw [e4] at ev; cases ev
          exact postH_mono ((e1.trans e2).trans e3) (postD w3 rv (q3 d hv))
      · cases hv : valD kvs3 ks with
        | some d =>
          obtain ⟨v3, e4, rv⟩ := h1 d hv
          rw [e4] at en; cases en
        | none => exact ⟨F3, μ3, d3, _, (e1.trans e2).trans e3, w4, r3, q4 hv⟩⟩⟩⟩
/-- d[k] op= e -/
theorem qs_daug {o k e : Expr} {wo wk we : ME1} {op : Operator} {tpos : Pos} (hu : X.A.units + 1 < cLine) (ho : QE X b o wo) (hk : QE X b k wk) (he : QE X b e we)
    (ha : ∀ ov iv new, augStore k ov iv new = (do holding [new, ov, iv] (setItem ov iv new); release [new, ov, iv] []; pure .next)) :
    QS X b (.AugAssign (.Subscript o k tpos) op e pos) (fun env S K => wo env S fun x S1 => wk env S1 fun y S2 => ∃ n t z kvs ks a, x = .ref n ∧ S2[n]? = some (.dct t z kvs) ∧ dkey t y = some ks ∧ valD kvs ks = some (.int a) ∧
      we env S2 fun w S3 => ∃ d r ys, w = .int d ∧ augI op a d = some r ∧ S3[n]? = some (.dct t none ys) ∧ ys.length < sizeLine ∧ K.nx env (S3.set n (.dct t none (putD ys ks (.int r))))) := by
  refine ps_imp (ps_daug hu ho.pe hk.pe he.pe (fun pins s σ H x y u v Q I r1 r2 h => pip_ok pins s σ H x y u v Q I r1 r2 h) ha) fun D σ H ⟨F, μ, env, S, M, a, q, kk⟩ => ?_
  refine ⟨F, μ, env, S, _, a, q, fun x H1 ⟨F1, μ1, d1, S1, e1, w1, r1, q1⟩ => ?_⟩
  refine ⟨F1, μ1, env, S1, _, a.step e1 w1, q1, fun y H2 ⟨F2, μ2, d2, S2, e2, w2, r2, n, t, z, kvs, ks, c, ed, hS, ek, ev, q2⟩ => ?_⟩
  subst ed
  obtain ⟨p, rfl, hp⟩ := ref_rd (r1.ext e2)
  obtain ⟨ov, g, h1, _⟩ := dget_of w2 hp hS r2 ek
  obtain ⟨v, rfl, rv⟩ := h1 _ ev
  cases rv
  refine ⟨p, .int c, rfl, g, F2, μ2, env, S2, _, (a.step e1 w1).step e2 w2, q2, fun v3 H3 ⟨F3, μ3, d3, S3, e3, w3, r3, dd, r, ys, ed3, er, hS3, hl, q3⟩ => ?_⟩
  subst ed3
  cases r3
  obtain ⟨H4, g4, w4⟩ := dput_of w3 (e3.get hp) hS3 (r2.ext e3) (.int r) ek hl
  exact ⟨c, dd, r, rfl, rfl, er, H4, g4, kk.nx _ _ ⟨F3, μ3, env, _, (e1.trans e2).trans e3, ⟨w4, ((a.re.ext e1).ext e2).ext e3, ((a.ex.trans e1).trans e2).trans e3⟩, q3⟩⟩
/-! ### walks -/
noncomputable def keysIf (u u' : HO) (xs : List D) : Option (List D) := open Classical in if u' = u then some xs else none
theorem srcL_dct {S : Store} {n : Nat} {u u' : HO} {t : Bool} {kvs : KVs} (h : S[n]? = some (.dct t (some u') kvs)) : srcL S (.keys n u) = keysIf u u' (kvs.map fun p => keyD t p.1) := by
  simp only [srcL, h, keysIf]
theorem src_keys {S : Store} {n : Nat} {u : HO} {xs : List D} (h : srcL S (.keys n u) = some xs) : ∃ t kvs, S[n]? = some (.dct t (some u) kvs) ∧ xs = kvs.map fun p => keyD t p.1 := by
  cases e : S[n]? with
  | none => simp [srcL, e] at h
  | some so =>
    cases so with
    | lst ys => simp [srcL, e] at h
    | dct t z kvs =>
      cases z with
      | none => simp [srcL, e] at h
      | some u' =>
        rw [srcL_dct e] at h
        unfold keysIf at h
        by_cases z : u' = u
        · rw [if_pos z] at h
          cases h
          subst z
          exact ⟨t, kvs, rfl, rfl⟩
        · rw [if_neg z] at h
          cases h
theorem src_keys_of {S : Store} {n : Nat} {u : HO} {t : Bool} {kvs : KVs} (h : S[n]? = some (.dct t (some u) kvs)) : srcL S (.keys n u) = some (kvs.map fun p => keyD t p.1) := by
  rw [srcL_dct h]
  exact if_pos rfl
theorem paired_at {α β : Type} {R : α → β → Prop} : ∀ {xs : List α} {ys : List β} {i : Nat} {x : α} {y : β}, Paired R xs ys → xs[i]? = some x → ys[i]? = some y → R x y
  | _, _, 0, _, _, .cons h _, e1, e2 => by cases e1; cases e2; exact h
  | _, _, i + 1, _, _, .cons _ h, e1, e2 => paired_at (i := i) h e1 e2
theorem rep_keys {K : PySem.W.Frag} {fa : FA} {F : Hp} {μ : List Addr} {n : Nat} {a : Addr} {od : Obj} (hn : μ[n]? = some a) :
    (∀ vs, Rep K fa (Itk a od vs) F μ (.keys n (.frz od (.dK vs)))) ∧ ∀ vs, Rep K fa (Itkt a od vs) F μ (.keys n (.frz od (.dT vs))) := by
  constructor
  · intro vs L F1 μ1 S1 H1 xs i e w q
    obtain ⟨t, kvs, hS, rfl⟩ := src_keys q
    obtain ⟨ok, u0, dv, _, _, hz⟩ := dct_at w (e.get hn) hS
    obtain ⟨hH, od2, e2⟩ := hz _ rfl
    cases e2
    cases t with
    | true => obtain ⟨ws, z, _⟩ := dv; cases z
    | false =>
      obtain ⟨ws, z, pr⟩ := dv
      cases z
      have hl := paired_len pr
      refine ⟨fun z => ⟨hH, by have := none_len z; rw [List.length_map] at this; omega⟩, fun d hd => ?_⟩
      rw [List.getElem?_map] at hd
      obtain ⟨p, hp, rfl⟩ := Option.map_eq_some_iff.mp hd
      have hi : i < vs.length := by rw [← hl]; exact (List.getElem?_eq_some_iff.mp hp).1
      refine ⟨⟨hH, hi⟩, fun x H2 y => ?_⟩
      obtain ⟨rfl, k, v, hv, rfl⟩ := y
      have pk := (paired_at pr hp hv).1
      refine ⟨F1, μ1, .refl, w, ?_⟩
      rw [pk]
      exact rd_key1 (ok p (List.mem_of_getElem? hp) k (by rw [pk]; exact List.mem_cons_self))
  · intro vs L F1 μ1 S1 H1 xs i e w q
    obtain ⟨t, kvs, hS, rfl⟩ := src_keys q
    obtain ⟨ok, u0, dv, _, _, hz⟩ := dct_at w (e.get hn) hS
    obtain ⟨hH, od2, e2⟩ := hz _ rfl
    cases e2
    cases t with
    | false => obtain ⟨ws, z, _⟩ := dv; cases z
    | true =>
      obtain ⟨ws, z, pr⟩ := dv
      cases z
      have hl := paired_len pr
      refine ⟨fun z => ⟨hH, by have := none_len z; rw [List.length_map] at this; omega⟩, fun d hd => ?_⟩
      rw [List.getElem?_map] at hd
      obtain ⟨p, hp, rfl⟩ := Option.map_eq_some_iff.mp hd
      have hi : i < vs.length := by rw [← hl]; exact (List.getElem?_eq_some_iff.mp hp).1
      refine ⟨⟨hH, hi⟩, fun x H2 y => ?_⟩
      obtain ⟨rfl, k, v, c, hv, rfl, hc⟩ := y
      have pk : p.1 = k := (paired_at pr hp hv).1
      obtain ⟨F2, w2, e2, hF⟩ := w.adopt hc
      refine ⟨F2, μ1, e2, w2, ?_⟩
      have r : RD K fa F2 μ1 (.tup (k.map keyD1)) (.ref c) := .tup hF (rds_keys (fun k' hk => ok p (List.mem_of_getElem? hp) k' (by rw [pk]; exact hk)))
      rw [pk]
      exact r
theorem qi_keys {tg e : Expr} {w : ME1} (h : QE X b e w) : QI X b tg e (fun env S Q => w env S fun x S1 => ∃ n t u kvs, x = .ref n ∧ S1[n]? = some (.dct t (some u) kvs) ∧ Q (.keys n u) S1) := by
  refine ⟨⟨fun pins s σ H R I hw => ?_⟩⟩
  obtain ⟨F, μ, env, S, Q', a, hq, kk⟩ := hw
  refine (pi_keys (tg := tg) h.pe).run pins s σ H R I ⟨F, μ, env, S, _, a, hq, fun v H1 ⟨F1, μ1, d1, S1, e1, w1, r1, n, t, u, kvs, ed, hS, q1⟩ => ?_⟩
  subst ed
  obtain ⟨p, rfl, hp⟩ := ref_rd r1
  obtain ⟨ok, u0, dv, _, _, hz⟩ := dct_at w1 hp hS
  obtain ⟨hH, od, rfl⟩ := hz _ rfl
  refine ⟨p, od, rfl, ?_⟩
  cases t with
  | false =>
    obtain ⟨vs, rfl, pr⟩ := dv
    exact .inl ⟨vs, hH, kk _ H1 F1 μ1 _ S1 e1 w1 ((rep_keys hp).1 vs) q1⟩
  | true =>
    obtain ⟨vs, rfl, pr⟩ := dv
    exact .inr ⟨vs, hH, kk _ H1 F1 μ1 _ S1 e1 w1 ((rep_keys hp).2 vs) q1⟩
/-- what stands is locked, and let go -/
theorem lock_in {K : PySem.W.Frag} {fa : FA} {F L H : Hp} {μ : List Addr} {S : Store} (w : WI K fa F L μ S H) {n : Nat} {a : Addr} (hn : μ[n]? = some a) {t : Bool} {kvs : KVs} (ho : S[n]? = some (.dct t none kvs)) :
    ∃ u0, H a = some u0 ∧ Mut (some u0) ∧ (∀ od, WI K fa F L μ (S.set n (.dct t (some (.frz od u0)) kvs)) (upd H a (.frz od u0))) ∧
      ∀ {od F' μ' S' H'}, Ext F μ F' μ' → WI K fa F' L μ' S' H' → S'[n]? = some (.dct t (some (.frz od u0)) kvs) → H' a = some (.frz od u0) ∧ WI K fa F' L μ' (S'.set n (.dct t none kvs)) (upd H' a u0) := by
  obtain ⟨ok, u0, dv, _, hz, _⟩ := dct_at w hn ho
  have ha := hz rfl
  refine ⟨u0, ha, ?_, fun od => w.set hn ⟨ok, u0, dv, .inr ⟨od, rfl, rfl⟩⟩, fun {od F' μ' S' H'} e w' hS' => ?_⟩
  · cases t with
    | true => obtain ⟨vs, rfl, _⟩ := dv; exact True.intro
    | false => obtain ⟨vs, rfl, _⟩ := dv; exact True.intro
  · obtain ⟨ok', u1, dv', _, _, hz'⟩ := dct_at w' (e.get hn) hS'
    obtain ⟨hH, od2, e2⟩ := hz' _ rfl
    cases e2
    exact ⟨hH, w'.set (e.get hn) ⟨ok', u0, dv', .inl ⟨rfl, rfl⟩⟩⟩
theorem qe_lock {e : Expr} {w : ME1} {i : Nat} (h : QE X b e w) : QE X b e (fun env S Q => ∃ n t kvs, env[i]? = some (some (.ref n)) ∧ S[n]? = some (.dct t none kvs) ∧ ∀ u, w env (S.set n (.dct t (some u) kvs)) fun d S1 => S1[n]? = some (.dct t (some u) kvs) ∧ Q d (S1.set n (.dct t none kvs))) :=
  QE.of (pe_lock h.pe) fun F μ env S Q σ H a ⟨n, t, kvs, ei, hS, q⟩ => by
    obtain ⟨v, hv, r⟩ := a.re.2 i _ ei
    obtain ⟨p, rfl, hp⟩ := ref_rd r
    obtain ⟨u0, ha, mu, l1, l2⟩ := lock_in a.wi hp hS
    refine ⟨p, u0, ha, mu, fun od => ⟨F, μ, env, _, _, ⟨l1 od, a.re, a.ex⟩, q _, fun v2 H2 ⟨F2, μ2, d2, S2, e2, w2, r2, hS2, q2⟩ => ?_⟩⟩
    obtain ⟨hH, w3⟩ := l2 e2 w2 hS2
    exact ⟨hH, F2, μ2, d2, _, e2, w3, r2, q2⟩
theorem qs_lock {st : Stmt} {w : MS1} {i : Nat} (h : QS X b st w) : QS X b st (fun env S K => ∃ n t kvs, env[i]? = some (some (.ref n)) ∧ S[n]? = some (.dct t none kvs) ∧ ∀ u, w env (S.set n (.dct t (some u) kvs))
      { nx := fun env1 S1 => S1[n]? = some (.dct t (some u) kvs) ∧ K.nx env1 (S1.set n (.dct t none kvs)), rt := fun d S1 => S1[n]? = some (.dct t (some u) kvs) ∧ K.rt d (S1.set n (.dct t none kvs)),
        bk := fun env1 S1 => S1[n]? = some (.dct t (some u) kvs) ∧ K.bk env1 (S1.set n (.dct t none kvs)), ct := fun env1 S1 => S1[n]? = some (.dct t (some u) kvs) ∧ K.ct env1 (S1.set n (.dct t none kvs)) }) := by
  refine ps_imp (ps_lock h) fun D σ H ⟨F, μ, env, S, M, a, ⟨n, t, kvs, ei, hS, q⟩, kk⟩ => ?_
  obtain ⟨v, hv, r⟩ := a.re.2 i _ ei
  obtain ⟨p, rfl, hp⟩ := ref_rd r
  obtain ⟨u0, ha, mu, l1, l2⟩ := lock_in a.wi hp hS
  refine ⟨p, u0, ha, mu, fun od => ⟨F, μ, env, _, _, ⟨l1 od, a.re, a.ex⟩, q _, ?_, ?_, ?_, ?_⟩⟩
  · rintro σ2 H2 ⟨F2, μ2, env2, S2, e2, a2, hS2, q2⟩
    obtain ⟨hH, w3⟩ := l2 e2 a2.wi hS2
    exact ⟨hH, kk.nx _ _ ⟨F2, μ2, env2, _, e2, ⟨w3, a2.re, a2.ex⟩, q2⟩⟩
  · rintro v2 H2 ⟨F2, μ2, d2, S2, e2, w2, r2, hS2, q2⟩
    obtain ⟨hH, w3⟩ := l2 e2 w2 hS2
    exact ⟨hH, kk.rt _ _ ⟨F2, μ2, d2, _, e2, w3, r2, q2⟩⟩
  · rintro σ2 H2 ⟨F2, μ2, env2, S2, e2, a2, hS2, q2⟩
    obtain ⟨hH, w3⟩ := l2 e2 a2.wi hS2
    exact ⟨hH, kk.bk _ _ ⟨F2, μ2, env2, _, e2, ⟨w3, a2.re, a2.ex⟩, q2⟩⟩
  · rintro σ2 H2 ⟨F2, μ2, env2, S2, e2, a2, hS2, q2⟩
    obtain ⟨hH, w3⟩ := l2 e2 a2.wi hS2
    exact ⟨hH, kk.ct _ _ ⟨F2, μ2, env2, _, e2, ⟨w3, a2.re, a2.ex⟩, q2⟩⟩
end
end Mp

set_option Elab.async false
set_option linter.all false
set_option maxRecDepth 100000
set_option maxHeartbeats 2000000
/-! M, part 12d: a dict's display, one entry. -/
namespace Mp
open PySem PySem.Spec PyProof.Rows L2
section
variable {X : Cx} {b : MB} {pos : Pos}
theorem vv1 {x y : V} {vs : List (Value × Value)} (h : VV [(x, y)] vs) : ∃ c d, vs = [(c, d)] ∧ RelV x c ∧ RelV y d := by
  cases h with
  | cons h t =>
    cases t
    exact ⟨_, _, rfl, h.1, h.2⟩
theorem kt0 {H : Hp} {xs : List (List L2.Key × Addr × Value)} (h : KT H [] xs) : xs = [] := by cases h; rfl
theorem kt1 {H : Hp} {ks : List L2.Key} {c : Addr} {y : V} {d : Value} (h : H c = some (.tup (ks.map kV))) (r : RelV y d) : KT H [(ks, y)] [(ks, c, d)] := .cons ⟨rfl, h, r⟩ .nil
def tDisT (tk tv : TE) : TE := fun σ H Q => ∀ p, H p = none → tPairs [(tk, tv)] σ (upd H p (.dT [])) fun ps H2 => H2 p = some (.dT []) ∧ ∃ (ks : List L2.Key) (c : Addr) (y : V), ps = [(.ref c, y)] ∧ H2 c = some (.tup (ks.map kV)) ∧ Q (.ref p) (upd H2 p (.dT [(ks, y)]))
theorem pe_disT {k v : Expr} {tk tv : TE} (hu : X.A.units < cLine) (hk : PE X k tk) (hv : PE X v tv) : PE X (.Dict [some k] [v] pos) (tDisT tk tv) := by
  refine ⟨fun pins s σ H Q I q => ?_⟩
  have hn := I.hok.fresh (Nat.le_refl s.heap.objs.size)
  have I1 := I.laid (a := s.heap.objs.size) (o := .dT []) (h' := s.heap.push { cls := .type "dict", data := .dict #[] }) (t' := s.toks) (fun _ _ q => Heap.get?_push_of_some _ q) (Nat.le_refl _) (dt_empty s.heap I.big)
  have run := (pps_cons (pos := pos) hk hv pps_nil).run pins _ σ _ _ I1 (q _ hn)
  have hpl : (pairTrees [some k] [v] X.env pos).length = 1 := pairTrees_length [some k] [v] X.env pos rfl rfl
  rw [arm_eval_Dict, zip_pairTrees [some k] [v] X.env pos rfl rfl, dictDisplay_pairs (pairTrees [some k] [v] X.env pos) (fun z => by rw [z] at hpl; cases hpl) (by rw [hpl]; decide)]
  refine wpAny_bind (wpAny_standAt (wpAny_bind (wpAny_subDictH (knd := tupleKind (mixKind X.prog X.w)) (Q := fun d s' => wpAny (model X.prog X.w) X.A (pure (Value.ref d)) (EP X pins σ Q) X.xe s') hu (by rw [hpl]; decide) ?_)))
  refine thn run fun vs s2 ⟨ps, H2, I2, rel, e, ks, c, y, ep, hc, q2⟩ => ?_
  subst ep
  obtain ⟨b1, b2, rfl, r1, r2⟩ := vv1 rel
  obtain rfl : b1 = Value.ref c := r1
  obtain ⟨z, hd, xs, rk, dd⟩ := dt_of I2.hok e
  obtain rfl := kt0 rk
  have hc2 : (upd H2 s.heap.objs.size (.dT [(ks, y)])) c = some (.tup (ks.map kV)) := by
    rw [upd_ne (ne_of hc e (fun z => nomatch z))]
    exact hc
  have hk := key_of I2.hok hc
  have h1 : [(ks, y)].length ≤ sizeLine := by rw [sizeLine_eq]; show 1 ≤ 16777216; omega
  have fin : ∀ h' tk, h'.DictOfH (tupleKind (mixKind X.prog X.w)) s.heap.objs.size [(ks, c, b2)] → Heap.SameBut s.heap.objs.size s2.heap h' → EP X pins σ Q (.ref s.heap.objs.size) { s2 with heap := h', toks := tk } := by
    intro h' tk a sb
    obtain ⟨ob, es, ep, hq, g2, g3, g4, _, g5⟩ := a
    have ho : ObjOk X.prog X.w (upd H2 s.heap.objs.size (.dT [(ks, y)])) h' s.heap.objs.size (.dT [(ks, y)]) := ⟨h1, hd, [(ks, c, b2)], kt1 hc2 r2, ob, es, ep, hq, g2, g3, g4, g5⟩
    exact ⟨.ref s.heap.objs.size, _, d_write (t' := tk) I2 (by rw [e]; exact True.intro) sb ⟨ob, hq⟩ ho, rfl, q2⟩
  exact ⟨[(ks, c, b2)], ⟨rfl, rfl, hk, trivial⟩, dd, fun h' tk a sb => wpAny_pure (fin h' tk a sb)⟩
/-- {k: e} -/
theorem qe_ddis {k v : Expr} {wk wv : ME1} (t : Bool) (hu : X.A.units + 1 < cLine) (hk : PE X k (liftX X.K b.fa wk)) (hv : PE X v (liftX X.K b.fa wv)) :
    QE X b (.Dict [some k] [v] pos) (fun env S Q => wk env S fun x S1 => wv env S1 fun y S2 => ∃ ks, dkey t x = some ks ∧ Q (.ref S2.length) (S2 ++ [.dct t none [(ks, y)]])) := by
  have fin : ∀ {F : Hp} {μ : List Addr} {env : DEnv} {S : Store} {Q : MK} {σ : L2.St} {H : Hp} {p : Addr} {u : HO} {R : VK}, (∀ xs, u ≠ .tup xs) → At X.K b F μ S H env σ → H p = none →
      (wk env S fun x S1 => wv env S1 fun y S2 => ∃ ks, dkey t x = some ks ∧ Q (.ref S2.length) (S2 ++ [.dct t none [(ks, y)]])) →
      (∀ {F2 μ2 S2 H2 x y dx dy}, Ext F μ F2 μ2 → WI X.K b.fa F2 (upd b.L p u) μ2 S2 H2 → RD X.K b.fa F2 μ2 dx x → RD X.K b.fa F2 μ2 dy y → (∃ ks, dkey t dx = some ks ∧ Q (.ref S2.length) (S2 ++ [.dct t none [(ks, dy)]])) → R x H2 → True) → True := fun _ _ _ _ _ => trivial
  have main : ∀ (u : HO), (∀ xs, u ≠ .tup xs) → ∀ {F : Hp} {μ : List Addr} {env : DEnv} {S : Store} {Q : MK} {σ : L2.St} {H : Hp} {p : Addr} {R : List (V × V) → Hp → Prop}, At X.K b F μ S H env σ → H p = none →
      (wk env S fun x S1 => wv env S1 fun y S2 => ∃ ks, dkey t x = some ks ∧ Q (.ref S2.length) (S2 ++ [.dct t none [(ks, y)]])) →
      (∀ F2 μ2 S2 H2 x y dx dy ks, Ext F μ F2 μ2 → H2 p = some u → WI X.K b.fa F2 b.L μ2 S2 (without H2 p) → RD X.K b.fa F2 μ2 dx x → RD X.K b.fa F2 μ2 dy y → dkey t dx = some ks → Q (.ref S2.length) (S2 ++ [.dct t none [(ks, dy)]]) → R [(x, y)] H2) →
      tPairs [(liftX X.K b.fa wk, liftX X.K b.fa wv)] σ (upd H p u) R := by
    intro u hu' F μ env S Q σ H p R a hp hw k
    have hL := a.wi.notL hp
    have w0 := a.wi.lock (u := u) hp hu'
    refine ⟨⟨b.fa, upd b.L p u, F, μ⟩, rfl, F, μ, env, S, _, ⟨w0, a.re, .refl⟩, hw, ?_⟩
    rintro x H1 ⟨F1, μ1, dx, S1, e1, w1, r1, q1⟩
    have w1 : WI X.K b.fa F1 (upd b.L p u) μ1 S1 H1 := w1
    refine ⟨⟨b.fa, upd b.L p u, F1, μ1⟩, rfl, F1, μ1, env, S1, _, ⟨w1, a.re.ext e1, .refl⟩, q1, ?_⟩
    rintro y H2 ⟨F2, μ2, dy, S2, e2, w2, r2, ks, ek, q2⟩
    have w2 : WI X.K b.fa F2 (upd b.L p u) μ2 S2 H2 := w2
    obtain ⟨hD, wu⟩ := w2.unlock hL
    exact k F2 μ2 S2 H2 x y dx dy ks (e1.trans e2) hD wu (r1.ext e2) r2 ek q2
  have put : ∀ {F μ F2 : Hp} {μ0 μ2 : List Addr} {S2 : Store} {H2 : Hp} {p : Addr} {u' : HO} {Q : MK} {ks : List L2.Key} {dy : D} {F0 : Hp}, Ext F0 μ0 F2 μ2 → WI X.K b.fa F2 b.L μ2 S2 (without H2 p) → (∀ k ∈ ks, okKey k) → dVal X.K b.fa F2 μ2 t [(ks, dy)] u' → Q (.ref S2.length) (S2 ++ [.dct t none [(ks, dy)]]) →
      PostH X.K b F0 μ0 Q (.ref p) (upd H2 p u') := by
    intro F μ F2 μ0 μ2 S2 H2 p u' Q ks dy F0 e w ok dv q
    have e0 : Ext F2 μ2 F2 (μ2 ++ [p]) := ⟨fun _ _ z => z, [p], rfl⟩
    obtain ⟨w', e'⟩ := w.newM (u := u') (o := .dct t none [(ks, dy)]) without_same ⟨fun q hq => by rw [List.mem_singleton.mp hq]; exact ok, u', dv.ext e0, .inl ⟨rfl, rfl⟩⟩
    have eu : upd (without H2 p) p u' = upd H2 p u' := by
      funext c
      by_cases z : c = p
      · subst z; rw [upd_same, upd_same]
      · rw [upd_ne z, upd_ne z, without_ne z]
    rw [eu] at w'
    refine ⟨F2, μ2 ++ [p], .ref S2.length, _, e.trans e', w', .ref ?_, q⟩
    rw [w.len]; simp
  cases t with
  | true =>
    refine QE.of (pe_disT (by omega) hk hv) fun F μ env S Q σ H a hw p hp => ?_
    refine main (.dT []) (fun _ z => nomatch z) a hp hw fun F2 μ2 S2 H2 x y dx dy ks e hD wu r1 r2 ek q => ?_
    obtain ⟨⟨c, rfl, hc⟩, ok⟩ := dkey_T r1 ek
    have hcp : c ≠ p := by
      have := wu.fz _ _ hc
      intro z
      subst z
      rw [without_same] at this; cases this
    have hH : H2 c = some (.tup (ks.map kV)) := by
      have := wu.fz _ _ hc
      rwa [without_ne hcp] at this
    exact ⟨hD, ks, c, y, rfl, hH, put (F := F) (μ := F) e wu ok ⟨[(ks, y)], rfl, .cons ⟨rfl, r2⟩ .nil⟩ q⟩
  | false =>
    refine QE.of (pe_disp (pps_cons (pos := pos) hk hv pps_nil) rfl rfl (by simp) (by show 1 ≤ 15; decide)) fun F μ env S Q σ H a hw p hp => ?_
    refine main (.dK []) (fun _ z => nomatch z) a hp hw fun F2 μ2 S2 H2 x y dx dy ks e hD wu r1 r2 ek q => ?_
    obtain ⟨k1, rfl, rfl, ok⟩ := dkey_K r1 ek
    refine ⟨hD, [(k1, y)], rfl, by show 1 ≤ 15; decide, ?_⟩
    exact put (F := F) (μ := F) e wu (fun k hk => by rw [List.mem_singleton.mp hk]; exact ok) ⟨[(k1, y)], rfl, .cons ⟨rfl, r2⟩ .nil⟩ q
end
end Mp

set_option Elab.async false
set_option linter.all false
set_option maxRecDepth 100000
set_option maxHeartbeats 2000000
/-! M, part 12e: one dict put into another; sorted of a dict's keys. -/
namespace Mp
open PySem PySem.Spec PyProof.Rows L2
def mergeV {κ : Type} [DecidableEq κ] (kvs more : List (κ × V)) : List (κ × V) := more.foldl (fun acc p => putK acc p.1 p.2) kvs
theorem mergeV_len {κ : Type} [DecidableEq κ] : ∀ (more kvs : List (κ × V)), (mergeV kvs more).length ≤ kvs.length + more.length
  | [], kvs => Nat.le_refl _
  | p :: more, kvs => by
    have h1 := mergeV_len more (putK kvs p.1 p.2)
    have h2 := length_putK kvs p.1 p.2
    show (mergeV (putK kvs p.1 p.2) more).length ≤ _
    rw [List.length_cons]
    omega
theorem kv_merge : ∀ {more : List (L2.Key × V)} {ms : List (L2.Key × Value)} {kvs : List (L2.Key × V)} {vs : List (L2.Key × Value)}, KV kvs vs → KV more ms → KV (mergeV kvs more) (merged vs ms)
  | [], _, _, _, h, .nil => h
  | p :: more, q :: ms, kvs, vs, h, .cons r t => by
    show KV (mergeV (putK kvs p.1 p.2) more) (merged (stored vs q.1 q.2) ms)
    rw [← r.1]
    exact kv_merge (h.put p.1 r.2) t
theorem kt_merge {H : Hp} : ∀ {more : List (List L2.Key × V)} {ms : List (List L2.Key × Addr × Value)} {kvs : List (List L2.Key × V)} {vs : List (List L2.Key × Addr × Value)}, KT H kvs vs → KT H more ms → KT H (mergeV kvs more) (storedAllH vs ms)
  | [], _, _, _, h, .nil => h
  | p :: more, q :: ms, kvs, vs, h, .cons r t => by
    show KT H (mergeV (putK kvs p.1 p.2) more) (storedAllH (storedH vs q.1 q.2.1 q.2.2) ms)
    rw [← r.1]
    exact kt_merge (h.put p.1 r.2.1 r.2.2) t
section
variable {X : Cx} {pins : List (Addr × Obj)} {σ : L2.St} {H : Hp} {s : Shared} {a o : Addr} {A : Around} {E : Value → Shared → Prop}
theorem d_updK {kvs more : List (L2.Key × V)} {Q : Value → Shared → Prop} (I : Inv X pins σ H s) (e : H a = some (.dK kvs)) (e2 : Rd H o (.dK more)) (hao : a ≠ o) (hl : kvs.length + more.length ≤ sizeLine)
    (h : ∀ s', Inv X pins σ (upd H a (.dK (mergeV kvs more))) s' → Q .none s') : wpAny (model X.prog X.w) A (call (.builtin "dict.update") [.ref a, .ref o]) Q E s := by
  obtain ⟨z, hd, vs, rel, dd⟩ := dk_of I.hok e
  obtain ⟨z2, hd2, ms, rel2, dd2⟩ := dk_rd I.hok e2
  refine call_meetsIn PySem.F.slot_dict_update dd.typeIs PySem.F.entry_dict_update (PySem.F.args_dict_update_2 _ _) (meets_dict_update (mixKind X.prog X.w) a o hao hd2) ⟨vs, ms, dd, dd2, by rw [← rel.length, ← rel2.length]; exact hl, fun h' dd' _ hs => ?_⟩
  have hl2 := mergeV_len more kvs
  have he : ∃ q, h'.get? a = some q := let ⟨q, _, _, hq, _⟩ := dd'; ⟨q, hq⟩
  exact h _ (d_write (t' := s.toks) I (by rw [e]; exact True.intro) hs he (dk_new (by omega) hd (kv_merge rel rel2) dd'))
theorem d_updT {kvs more : List (List L2.Key × V)} {Q : Value → Shared → Prop} (hu : A.units + 1 < cLine) (I : Inv X pins σ H s) (e : H a = some (.dT kvs)) (e2 : Rd H o (.dT more)) (hao : a ≠ o) (hl : kvs.length + more.length ≤ sizeLine) (hs1 : kvs ≠ [] ∨ more.length ≤ 1)
    (h : ∀ s', Inv X pins σ (upd H a (.dT (mergeV kvs more))) s' → Q .none s') : wpAny (model X.prog X.w) A (call (.builtin "dict.update") [.ref a, .ref o]) Q E s := by
  obtain ⟨z, hd, vs, rel, dd⟩ := dt_of I.hok e
  obtain ⟨z2, hd2, ms, rel2, dd2⟩ := dt_rd I.hok e2
  have l1 := Paired.length rel
  have l2 := Paired.length rel2
  refine call_update_dictH (tupleKind_room_in1 hu) hao hd2 dd dd2 ?_ (by rw [← l1, ← l2]; exact hl) fun h' dd' _ hs => ?_
  · rcases hs1 with hs1 | hs1
    · exact .inl fun z => by subst z; exact hs1 (List.length_eq_zero_iff.mp l1)
    · refine .inr ⟨fun x hx => ?_, ?_⟩
      · have : ∀ {l : List (List L2.Key × V)} {m : List (List L2.Key × Addr × Value)}, KT H l m → ∀ x ∈ m, s.TypeIs (.ref x.2.1) "tuple" := by
          intro l m q
          induction q with
          | nil => intro x hx; exact nomatch hx
          | @cons p q ps qs hq t ih =>
            intro x hx
            rcases List.mem_cons.mp hx with e | hx
            · subst e
              obtain ⟨_, its, r, o, h1, h2, n, h3⟩ := (show ObjOk X.prog X.w H s.heap _ (.tup (p.1.map kV)) from I.hok _ _ hq.2.1)
              exact Heap.IsTuple.typeIs ⟨o, h1, h2, n, h3⟩
            · exact ih x hx
        exact this rel2 x hx
      · cases ms with
        | nil => exact List.nodup_nil
        | cons m ms => cases ms with
          | nil => simp
          | cons m2 ms => rw [l2] at hs1; simp at hs1
  · have hl2 := mergeV_len more kvs
    obtain ⟨ob, es, ep, hq, g2, g3, g4, _, g5⟩ := dd'
    refine h _ (d_write (t' := s.toks) I (by rw [e]; exact True.intro) hs ⟨ob, hq⟩ ⟨by omega, hd, _, (kt_merge rel rel2).keeps fun c ys ec => ?_, ob, es, ep, hq, g2, g3, g4, g5⟩)
    rw [upd_ne (ne_of ec e (fun z => nomatch z))]
    exact ec
/-- the heap behind a.update(o) -/
def DUpd (H : Hp) (a o : Addr) (H' : Hp) : Prop :=
  (∃ kvs more, H a = some (.dK kvs) ∧ Rd H o (.dK more) ∧ a ≠ o ∧ kvs.length + more.length ≤ sizeLine ∧ H' = upd H a (.dK (mergeV kvs more))) ∨
  ∃ kvs more, H a = some (.dT kvs) ∧ Rd H o (.dT more) ∧ a ≠ o ∧ kvs.length + more.length ≤ sizeLine ∧ (kvs ≠ [] ∨ more.length ≤ 1) ∧ H' = upd H a (.dT (mergeV kvs more))
end
def tDUpd (td ty : TE) : TE := fun σ H Q => td σ H fun x H1 => ∃ a, x = .ref a ∧ IsD H1 a ∧ ty σ H1 fun y H2 => ∃ o H3, y = .ref o ∧ DUpd H2 a o H3 ∧ Q .non H3
theorem pe_dupd {X : Cx} {o e : Expr} {td ty : TE} {apos cpos : Pos} (hu : X.A.units + 1 < cLine) (ho : PE X o td) (he : PE X e ty) (m : M1 X o "update" apos e cpos) : PE X (.Call (.Attribute o "update" apos) [e] [] cpos) (tDUpd td ty) := by
  refine ⟨fun pins s σ H Q I h => ?_⟩
  refine wpAny_Call_method m.base m.few m.line PySem.F.plainAttrs_dict PySem.F.slot_dict_update PySem.F.type_dict_update (thn (ho.run pins s σ H _ I h) fun u s1 ⟨x, H1, I1, rx, a, ex, d, q1⟩ => ?_)
  subst ex
  obtain rfl : u = Value.ref a := rx
  obtain ⟨t1, t2, _⟩ := isD_at I1 d
  refine ⟨t1, t2, ?_⟩
  rw [m.trees]
  refine Calls.callWith_builtin rfl (Calls.evalArgs_plain (Calls.spliced_cons (thn (he.run pins s1 σ H1 _ I1 q1) fun iv s2 ⟨y, H2, I2, ry, c, H3, ey, g, q2⟩ => Calls.spliced_nil ?_)))
  subst ey
  obtain rfl : iv = Value.ref c := ry
  rcases g with ⟨kvs, more, g1, g2, g3, g4, rfl⟩ | ⟨kvs, more, g1, g2, g3, g4, g5, rfl⟩
  · exact d_updK I2 g1 g2 g3 g4 fun s3 I3 => ⟨.non, _, I3, rfl, q2⟩
  · exact d_updT hu I2 g1 g2 g3 g4 g5 fun s3 I3 => ⟨.non, _, I3, rfl, q2⟩
section
variable {X : Cx} {b : MB} {pos : Pos}
section
variable {K : PySem.W.Frag} {fa : FA} {F : Hp} {μ : List Addr}
theorem merge_K : ∀ {more : KVs} {ms : List (L2.Key × V)} {kvs : KVs} {vs : List (L2.Key × V)}, Paired (kRelK K fa F μ) kvs vs → Paired (kRelK K fa F μ) more ms → Paired (kRelK K fa F μ) (mergeD kvs more) (mergeV vs ms)
  | [], _, _, _, h, .nil => h
  | p :: more, q :: ms, kvs, vs, h, .cons r t => by
    show Paired (kRelK K fa F μ) (mergeD (putD kvs p.1 p.2) more) (mergeV (putK vs q.1 q.2) ms)
    rw [r.1]
    exact merge_K (put_K h r.2) t
theorem merge_T : ∀ {more : KVs} {ms : List (List L2.Key × V)} {kvs : KVs} {vs : List (List L2.Key × V)}, Paired (kRelT K fa F μ) kvs vs → Paired (kRelT K fa F μ) more ms → Paired (kRelT K fa F μ) (mergeD kvs more) (mergeV vs ms)
  | [], _, _, _, h, .nil => h
  | p :: more, q :: ms, kvs, vs, h, .cons r t => by
    show Paired (kRelT K fa F μ) (mergeD (putD kvs p.1 p.2) more) (mergeV (putK vs q.1 q.2) ms)
    rw [r.1]
    exact merge_T (put_T h r.2) t
theorem merge_ok : ∀ {more kvs : KVs}, (∀ p ∈ kvs, ∀ k ∈ p.1, okKey k) → (∀ p ∈ more, ∀ k ∈ p.1, okKey k) → ∀ p ∈ mergeD kvs more, ∀ k ∈ p.1, okKey k
  | [], kvs, h, _ => h
  | q :: more, kvs, h, h2 => merge_ok (more := more) (kvs := putD kvs q.1 q.2) (okKeys_put h (h2 q List.mem_cons_self)) fun p hp => h2 p (List.mem_cons_of_mem _ hp)
theorem dupd_of {L H : Hp} {S : Store} (w : WI K fa F L μ S H) {n n2 : Nat} {a o : Addr} (hn : μ[n]? = some a) (hn2 : μ[n2]? = some o) (hne : n ≠ n2) {t : Bool} {kvs more : KVs} {z2 : Option HO} (h1 : S[n]? = some (.dct t none kvs)) (h2 : S[n2]? = some (.dct t z2 more))
    (hl : kvs.length + more.length ≤ sizeLine) (hs : kvs ≠ [] ∨ more.length ≤ 1) : ∃ H', DUpd H a o H' ∧ WI K fa F L μ (S.set n (.dct t none (mergeD kvs more))) H' := by
  obtain ⟨ok, u0, dv, _, hz, _⟩ := dct_at w hn h1
  obtain ⟨ok2, u2, dv2, hr2, _⟩ := dct_at w hn2 h2
  have ha := hz rfl
  have hao : a ≠ o := fun z => by
    subst z
    obtain ⟨l1, e1⟩ := List.getElem?_eq_some_iff.mp hn
    obtain ⟨l2, e2⟩ := List.getElem?_eq_some_iff.mp hn2
    exact hne ((List.getElem_inj w.nd).mp (e1.trans e2.symm))
  have ok3 := merge_ok ok ok2
  cases t with
  | true =>
    obtain ⟨vs, rfl, pr⟩ := dv
    obtain ⟨ms, rfl, pr2⟩ := dv2
    have l1 := paired_len pr
    have l2 := paired_len pr2
    refine ⟨_, .inr ⟨vs, ms, ha, hr2, hao, by rw [← l1, ← l2]; exact hl, ?_, rfl⟩, w.set hn ⟨ok3, _, ⟨_, rfl, merge_T pr pr2⟩, .inl ⟨rfl, rfl⟩⟩⟩
    rcases hs with hs | hs
    · exact .inl fun z => by subst z; exact hs (List.length_eq_zero_iff.mp l1)
    · exact .inr (by rw [← l2]; exact hs)
  | false =>
    obtain ⟨vs, rfl, pr⟩ := dv
    obtain ⟨ms, rfl, pr2⟩ := dv2
    have l1 := paired_len pr
    have l2 := paired_len pr2
    exact ⟨_, .inl ⟨vs, ms, ha, hr2, hao, by rw [← l1, ← l2]; exact hl, rfl⟩, w.set hn ⟨ok3, _, ⟨_, rfl, merge_K pr pr2⟩, .inl ⟨rfl, rfl⟩⟩⟩
end
/-- d.update(e) -/
theorem qe_dupd {o e : Expr} {wo we : ME1} {apos : Pos} (hu : X.A.units + 1 < cLine) (ho : QE X b o wo) (he : QE X b e we) (m : M1 X o "update" apos e pos) :
    QE X b (.Call (.Attribute o "update" apos) [e] [] pos) (fun env S Q => wo env S fun x S1 => ∃ n t z kvs, x = .ref n ∧ S1[n]? = some (.dct t z kvs) ∧ we env S1 fun y S2 =>
      ∃ n2 t kvs z2 more, y = .ref n2 ∧ n ≠ n2 ∧ S2[n]? = some (.dct t none kvs) ∧ S2[n2]? = some (.dct t z2 more) ∧ kvs.length + more.length ≤ sizeLine ∧ (kvs ≠ [] ∨ more.length ≤ 1) ∧ Q .non (S2.set n (.dct t none (mergeD kvs more)))) :=
  QE.of (pe_dupd hu ho.pe he.pe m) fun F μ env S Q σ H a h => ⟨F, μ, env, S, _, a, h, fun x H1 ⟨F1, μ1, d1, S1, e1, w1, r1, n, t, z, kvs, ed, hS, q1⟩ => by
    subst ed
    obtain ⟨p, rfl, hp⟩ := ref_rd r1
    exact ⟨p, rfl, isD_of w1 hp hS, F1, μ1, env, S1, _, a.step e1 w1, q1, fun y H2 ⟨F2, μ2, d2, S2, e2, w2, r2, n2, t2, kvs2, z2, more, ey, hne, h1, h2, hl, hs, q2⟩ => by
      subst ey
      obtain ⟨p2, rfl, hp2⟩ := ref_rd r2
      obtain ⟨H3, g, w3⟩ := dupd_of w2 (e2.get hp) hp2 hne h1 h2 hl hs
      exact ⟨p2, H3, rfl, g, F2, μ2, .non, _, e1.trans e2, w3, .non, q2⟩⟩⟩
/-- sorted(d) -/
theorem qc_sortK (hc : X.calm = true) (m : Bool) : QC X b (.builtin "sorted") (fSortK m) := QC.of (call_sortedDI hc) fun H F μ S vs ds Q w rd q => by
  unfold fSortK at q
  split at q
  · obtain ⟨n, z, kvs, ks, rfl, hS, hk, h64, q⟩ := q
    obtain ⟨v, rfl, r⟩ := one_of (ds := []) rd
    obtain ⟨p, rfl, hp⟩ := ref_rd r
    obtain ⟨_, u0, dv, hr, _⟩ := dct_at w hp hS
    obtain ⟨ws, rfl, pr⟩ := dv
    refine ⟨p, ws, ks, rfl, hr, ?_, h64, fun ys c hy hs hcn => postLst w (RDs.of_ints ys) (q ys hy hs) hcn⟩
    have key : ∀ {kvs : KVs} {ws : List (L2.Key × V)} {ks : List Int}, Paired (kRelK X.K b.fa F μ) kvs ws → kvs.map (·.1) = ks.map (fun i => [Sum.inl i]) → ws.map (·.1) = ks.map Sum.inl := by
      intro kvs ws ks pr
      induction pr generalizing ks with
      | nil => intro h; cases ks with
        | nil => rfl
        | cons _ _ => simp at h
      | @cons x y xs ys hxy t ih =>
        intro h
        cases ks with
        | nil => simp at h
        | cons k ks =>
          rw [List.map_cons, List.map_cons] at h
          injection h with h1 h2
          rw [List.map_cons, List.map_cons, ih h2]
          have := hxy.1
          rw [h1] at this
          injection this with this
          rw [← this]
    exact key pr hk
  · exact q.elim
end
end Mp

set_option Elab.async false
set_option linter.all false
set_option maxRecDepth 100000
set_option maxHeartbeats 1000000
/-! M, part 13: what leaves a def, calls. -/
namespace Mp
open PySem PySem.Spec PyProof.Rows L2

/-- an own error as it lies: its class, its dict -/
def RX (K : PySem.W.Frag) (fa : FA) (ca : EC → Addr) (F : Hp) (μ : List Addr) (e : Exc) (cls : Value) (d : Option Addr) : Prop :=
  cls = .ref (ca e.cls) ∧ ∃ dd v, d = some dd ∧ F dd = some (.xd [(e.cls.fld, v)]) ∧ RD K fa F μ e.arg v
theorem RX.ext {K : PySem.W.Frag} {fa : FA} {ca : EC → Addr} {F F' : Hp} {μ μ' : List Addr} {e : Exc} {cls : Value} {d : Option Addr} (x : Ext F μ F' μ') (h : RX K fa ca F μ e cls d) : RX K fa ca F' μ' e cls d := by
  obtain ⟨h1, dd, v, h2, h3, h4⟩ := h
  exact ⟨h1, dd, v, h2, x.fz _ _ h3, h4.ext x⟩
def WXof (K : PySem.W.Frag) (b : MB) (ca : EC → Addr) (E : EK) : WX := fun cls d σ H => ∃ F μ env S e, At K b F μ S H env σ ∧ RX K b.fa ca F μ e cls d ∧ E e env S
def PostXH (K : PySem.W.Frag) (b : MB) (ca : EC → Addr) (F : Hp) (μ : List Addr) (E : Exc → Store → Prop) : Value → Option Addr → Hp → Prop := fun cls d H' =>
  ∃ F' μ' S' e, Ext F μ F' μ' ∧ WI K b.fa F' b.L μ' S' H' ∧ RX K b.fa ca F' μ' e cls d ∧ E e S'
abbrev CL := List D → Store → MK → (Exc → Store → Prop) → Prop
/-- what a def promises -/
def spM (K : PySem.W.Frag) (fa : FA) (ca : EC → Addr) (c : CL) : Sp := fun vs H Q E => ∃ F L μ S ds Q' E', WI K fa F L μ S H ∧ RDs K fa F μ ds vs ∧ c ds S Q' E' ∧
  (∀ v H', PostH K ⟨fa, L, F, μ⟩ F μ Q' v H' → Q v H') ∧ ∀ cls d H', PostXH K ⟨fa, L, F, μ⟩ ca F μ E' cls d H' → E cls d H'
abbrev FnM (P : Program) (w : World) (K : PySem.W.Frag) (mg : Str → Option Value) (base : Heap) (fa : FA) (ca : EC → Addr) (k : Nat) (a : Addr) (fd : FuncData) (ps : List Str) (c : CL) : Prop :=
  FnOk P w K mg base (L2N.CX P w) k a fd ps (spM K fa ca c)
section
variable {X : Cx} {b : MB} {ca : EC → Addr} {E : EK} {k : Nat} {a : Addr} {fd : FuncData} {ps : List Str} {c : CL} {pos p : Pos} {e : Expr} {es : List Expr} {dv : List D} {dvs : List V} {ds : List Value} {x : Str} {w : MA}
/-- the promise, from the reading of the call -/
theorem spM_of {F : Hp} {μ : List Addr} {S : Store} {H : Hp} {env : DEnv} {σ : L2.St} {vs : List V} {xs : List D} {Q : MK} (h : At X.K b F μ S H env σ) (r : RDs X.K b.fa F μ xs vs) (q : c xs S Q fun e S2 => E e env S2) :
    spM X.K b.fa ca c vs H (PostH X.K b F μ Q) (L2.WE (WXof X.K b ca E) σ) := by
  refine ⟨F, b.L, μ, S, xs, Q, _, h.wi, r, q, fun v H' ⟨F1, μ1, d, S1, e1, w1, r1, q1⟩ => ⟨F1, μ1, d, S1, e1, w1, r1, q1⟩, fun cls d H' ⟨F1, μ1, S1, ex, e1, w1, r1, q1⟩ => ?_⟩
  exact ⟨F1, μ1, env, S1, ex, h.step e1 w1, r1, q1⟩
theorem qe_call (tk : L2N.Takes X (WXof X.K b ca E)) (Fn : FnM X.prog X.w X.K X.mg X.base b.fa ca k a fd ps c) (hr : Room k X.A) (hg : Gl X x) (hm : X.mg x = some (.ref a)) (hk : PySem.W.keepIn X.K (.ref a) = true) (hb : Binds X.K fd ps ds) (hd : Vals dvs ds)
    (hdv : ∀ F μ, RDs X.K b.fa F μ dv dvs) (ha : QA X b (e :: es) w) (hdb : (x == ("__debug__" : Str)) = false) (he : NoStar e) (hpl : (backTo pos (starEach es X.env)).any (·.1) = false) :
    QE X b (.Call (.Name x p) (e :: es) [] pos) (fun env S Q => w env S fun xs S1 => c (xs ++ dv) S1 Q fun e S2 => E e env S2) := by
  refine QE.of (pe_callSD (E := L2.WE (WXof X.K b ca E)) Fn hr hg hm hk hb hd (fun σ => L2N.passAt tk σ) ha.pa hdb (star_cons he es X.env) hpl) fun F μ env S Q σ H a0 h => ?_
  refine ⟨F, μ, env, S, _, a0, h, fun vs H1 ⟨F1, μ1, xs, S1, e1, w1, r1, q1⟩ => ?_⟩
  have sp := spM_of (ca := ca) (E := E) (a0.step e1 w1) (r1.append (hdv F1 μ1)) q1
  obtain ⟨F2, L2, μ2, S2, ds2, Q2, E2, z1, z2, z3, z4, z5⟩ := sp
  exact ⟨F2, L2, μ2, S2, ds2, Q2, E2, z1, z2, z3, fun v H' h => postH_mono e1 (z4 v H' h), z5⟩
/-- a call of a name that holds a def -/
theorem qe_callv {i : Nat} {fn : Nat → CL} (tk : L2N.Takes X (WXof X.K b ca E)) (T : ∀ f a, b.fa f = some a → ∃ fd ps, FnM X.prog X.w X.K X.mg X.base b.fa ca k a fd ps (fn f) ∧ PySem.W.keepIn X.K (.ref a) = true ∧ Binds X.K fd ps [])
    (hr : Room k X.A) (hN : X.N[i]? = some x) (hv : Vis X.env.scope x) (ha : QA X b (e :: es) w) (hdb : (x == ("__debug__" : Str)) = false) (hcd : (x == ("__classdict__" : Str)) = false) (he : NoStar e) (hpl : (backTo pos (starEach es X.env)).any (·.1) = false) :
    QE X b (.Call (.Name x p) (e :: es) [] pos) (fun env S Q => ∃ f, env[i]? = some (some (.fn f)) ∧ w env S fun xs S1 => fn f xs S1 Q fun e S2 => E e env S2) := by
  refine ⟨fun pins s σ H F μ env S Q I a0 h => ?_⟩
  obtain ⟨f, ef, h⟩ := h
  obtain ⟨v, ev, rv⟩ := a0.re.2 i _ ef
  cases rv with
  | @fn f a hf =>
    obtain ⟨fd, ps, Fn, hk, hb⟩ := T f a hf
    refine wpAny_Call_Name_kw (thn ((pe_var (pos := p) hN hv hdb hcd).run pins s σ H (fun v H1 => v = .ref a ∧ H1 = H) I ⟨.ref a, ev, rfl, rfl⟩) fun u s1 ⟨v, H1, I1, r1, q1⟩ => ?_)
    obtain ⟨rfl, rfl⟩ := q1
    cases r1
    refine PySem.W.callWith_K (h₀ := X.base) I.ok.mod.kin hk (thn (ha.pa.run pos pins s1 σ _ _ I1 ⟨F, μ, env, S, _, a0, h, fun vs H2 z => z⟩) fun us s2 ⟨vs, H2, I2, r, F1, μ1, xs, S1, e1, w1, r1, q⟩ => ⟨I2.kIn, ?_⟩) (star_cons he es X.env) hpl
    have sp := spM_of (ca := ca) (E := E) (a0.step e1 w1) r1 q
    have := run_fnSD (dvs := []) (ds := []) (E := L2.WE (WXof X.K b ca E)) Fn hr hb .nil (L2N.passAt tk σ) I2 r (Q := PostH X.K b F1 μ1 Q) (by rw [List.append_nil]; exact sp)
    exact thn this fun _ _ z => post_mono e1 (post_of z)
end
end Mp

set_option Elab.async false
set_option linter.all false
set_option maxRecDepth 100000
set_option maxHeartbeats 2000000
/-! M, part 14: own errors are made, raised. -/
namespace PySem
namespace ErrX
open PySem.W PySem.Calls PyProof.Rows PySem.HandSPX
/-! ### the text of such an __init__ -/
def iA (par : Str) (p1 p2 : Pos) : Arguments := { posonlyargs := [], args := [{ arg := "self", annotation := none, pos := p1 }, { arg := par, annotation := none, pos := p2 }], vararg := none, kwonlyargs := [], kw_defaults := [], kwarg := none, defaults := [] }
def iB (par msg : Str) (k : Nat) (q0 q1 q2 q3 q4 q5 r1 r2 r3 r4 : Pos) : List Stmt :=
  [.Expr (.Call (.Attribute (.Call (.Name "super" q0) [] [] q1) "__init__" q2) [.Constant (.str msg) k q3] [] q4) q5,
   .Assign [.Attribute (.Name "self" r1) par r2] (.Name par r3) r4]
def iS (par : Str) : Scope := { kind := .function, names := [(PySem.Str.ofString "self", .local), (par, .local), (PySem.Str.ofString "__class__", .free), (PySem.Str.ofString "super", .globalImplicit)], isGenerator := false, isCoroutine := false, more := [] }
abbrev veB : List Value := [.type "ValueError", .type "Exception", .type "BaseException", .type "object"]
/-- what the written part says of an error's class, at C, and of its __init__, at fI -/
structure ErrTxt (prog : Program) (K : Frag) (mg : Str → Option Value) (C fI : Addr) (fld : Str) : Prop where
  cls : ∃ nm q N bs bm sn sub ab col dd k0 k1 k2 k3 k5, K.lookup C = some (excClassObj nm q C N bs bm true sn sub ab col dd k0 k1 k2 k3 k5 "ValueError.__new__") ∧ refsVE bm = true
  sa : findIn K (.ref C) "__setattr__" = some (some (.builtin "object.__setattr__"))
  ga : findIn K (.ref C) "__getattribute__" = some (some (.builtin "BaseException.__getattribute__"))
  gg : findIn K (.ref C) "__getattr__" = some none
  noN : findIn K (.ref C) fld = some none
  iC : findIn K (.ref C) "__init__" = some (some (.ref fI))
  tC : typeIn K (.ref fI) = some (.type "function")
  kC : keepIn K (.ref C) = true
  exC : subIn K (.ref C) (.type "BaseException") = some true
  veC : subIn K (.ref C) (.type "ValueError") = some true
  tyC : typeIn K (.ref C) = some (.type "type")
  hdC : hasDictIn K C = true
  sup : ks_superIn K C C "__init__" = some (some (.builtin "ValueError.__init__"))
  eii : excInitIn K C veB "ValueError.__new__" = true
  slf : mroIn K C (.ref C) = some true
  opq : nsIn K cStatics "thirdparty.any" = some none
  mgs : mg "super" = none
  top : (prog.main.scope.names.lookup ("super" : Str)).isSome = false
  fn : ∃ (oc : Value) (od : Option Addr) (qual : Str) (doc pm : Value) (an : Option Addr) (ct : Value) (osl : Array (Option Value)) (cc cda : Addr) (msg : Str) (k : Nat) (p1 p2 q0 q1 q2 q3 q4 q5 r1 r2 r3 r4 : Pos),
    K.lookup fI = some ⟨oc, od, .func (ksFn "__init__" qual (iA fld p1 p2) (iB fld msg k q0 q1 q2 q3 q4 q5 r1 r2 r3 r4) (iS fld) .none .none doc pm an (.ref cda) ct cc), osl⟩ ∧ codeIn K (.ref cda) qual = true ∧ (q2.endLine == q4.line) = true ∧
    (∃ cl cld csl, K.lookup cc = some ⟨cl, cld, .cell (some (.ref C)), csl⟩) ∧
    ∃ ccl cdd vs ccs file tf, K.lookup cda = some ⟨ccl, cdd, .fields vs, ccs⟩ ∧ vs[2]? = some (.str file tf) ∧ ((prog.main.file : Str) == file) = true

section
variable {prog : Program} {w : World} {A : Around} {E : Value → Shared → Prop} {R : Result → Shared → Prop} {s : Shared} {h0 : Heap} {K : Frag} {mg : Str → Option Value} {C fI : Addr} {fld : Str}
def BindOk (fld : Str) : Prop := ∀ (qual : Str) (body : List Stmt) (cc : Addr) (doc pm : Value) (an : Option Addr) (cdv ct : Value) (p1 p2 : Pos) (a b : Value), bindArgs (ksFn "__init__" qual (iA fld p1 p2) body (iS fld) .none .none doc pm an cdv ct cc) ⟨[a, b], []⟩ = pure [(("self" : Str), a), (fld, b)]
theorem bind_reason : BindOk "reason" := by
  intro qual body cc doc pm an cdv ct p1 p2 a b
  with_unfolding_all rfl
theorem bind_at : BindOk "at" := by
  intro qual body cc doc pm an cdv ct p1 p2 a b
  with_unfolding_all rfl
theorem he_line {env : Env} {q0 q1 q2 q3 q4 : Pos} {msg : Str} {k : Nat} (hl : (q2.endLine == q4.line) = true) :
    eval (.Call (.Attribute (.Call (.Name "super" q0) [] [] q1) "__init__" q2) [.Constant (.str msg) k q3] [] q4) env = (do
      let ov ← attributeBase (.Call (.Name "super" q0) [] [] q1) "__init__" env (eval (.Call (.Name "super" q0) [] [] q1) env)
      standAt q2.atName
      let (f, first) ← holding [ov] (getMethod ov "__init__" (L2.plainOf (.Call (.Name "super" q0) [] [] q1) env))
      callWith q4 f first (backTo q4 (starEach [.Constant (.str msg) k q3] env)) []) := by
  have e : ∀ ov, methodCall (.Call (.Name "super" q0) [] [] q1) "__init__" q2 q4 env ov 1 (backTo q4 (starEach [.Constant (.str msg) k q3] env)) (backToKw q4 (keywordEach [] env)) = (do
      let (f, first) ← holding [ov] (getMethod ov "__init__" (L2.plainOf (.Call (.Name "super" q0) [] [] q1) env))
      callWith q4 f first (backTo q4 (starEach [.Constant (.str msg) k q3] env)) []) := fun ov => L2.mcall_line (by rfl) hl
  show (do
      let ov ← attributeBase (.Call (.Name "super" q0) [] [] q1) "__init__" env (eval (.Call (.Name "super" q0) [] [] q1) env)
      standAt q2.atName
      methodCall (.Call (.Name "super" q0) [] [] q1) "__init__" q2 q4 env ov 1 (backTo q4 (starEach [.Constant (.str msg) k q3] env)) (backToKw q4 (keywordEach [] env))) = _
  simp only [e]
theorem err_init (T : ErrTxt prog K mg C fI fld) (hbd : BindOk fld) (hks : (iS fld).names.lookup ("super" : Str) = some .globalImplicit) (hkc : (iS fld).names.lookup ("__class__" : Str) = some .free) (hkself : (iS fld).names.lookup ("self" : Str) = some .local) (hkf : (iS fld).names.lookup fld = some .local) (hfs : (fld == ("self" : Str)) = false) (hfi : (fld == ("__debug__" : Str)) = false) {x t0 : Addr} {v : Value} (X0 : K.In h0) (k0 : ∀ b o, h0.get? b = some o → s.heap.get? b = some o) (hsize : h0.objs.size ≤ s.heap.objs.size) (G : h0.Ns mainGlobals mg) (Bl : ∃ mb, h0.Ns builtinsNs mb ∧ ∀ x : Str, x ≠ "__name__" → mb x = bootBuiltins x)
    (hlim : s.heap.NoLimit) (hx : s.heap.get? x = some (excO C t0)) (hx0 : h0.get? x = none) (hroom : A.depth < recursionLimit)
    (hq : ∀ h' tk dx t1, (∀ b o, h0.get? b = some o → h'.get? b = some o) → h'.get? x = some { cls := .ref C, dict := some dx, data := .fields #[.ref t1, .none, .none, .none, .bool false, .none] } → h0.objs.size ≤ dx → dx ≠ x →
      h'.Ns1 dx (fun y => if y = fld then some v else none) → R (.ok (.ret .none)) { s with heap := h', toks := tk }) :
    codeAny (model prog w) A (.call (.ref fI) ⟨[.ref x, v], []⟩) R s := by
  obtain ⟨oc, od, qual, doc, pm, an, ct, osl, cc, cda, msg, k, p1, p2, q0, q1, q2, q3, q4, q5, r1, r2, r3, r4, ho, hcd, hline, ⟨ocl, ocd, ocs, hcell⟩, ccl, cdd, vs, ccs, file, tf, hcode, hvs, hfile⟩ := T.fn
  obtain ⟨nm, q, N, bs, bm, sn, sub, ab, col, dd, k0', k1, k2, k3, k5, hC, hbm⟩ := T.cls
  have hcl : clsIn K C = some { name := nm, bases := bs, mro := .ref C :: bm, ns := N, qualname := q, hasDict := true, slotNames := sn, subclasses := sub, abstract := ab, collection := col, hasDel := false } := by unfold clsIn; rw [hC] <;> rfl
  have X : K.In s.heap := X0.keeps k0
  refine ks_codeAny_call_defAt (body := iB fld msg k q0 q1 q2 q3 q4 q5 r1 r2 r3 r4) (binds := [(("self" : Str), .ref x), (fld, v)]) hroom (X _ _ ho) rfl hlim (codeRec_of X hcd) rfl (BindsTo.of_eq (hbd _ _ _ _ _ _ _ _ _ _ _ _)) (fun y hy => ?_) (fun y hy => ?_) (fun h₁ hns hkp => ?_) rfl rfl rfl
  · have hy' : y ∈ (iS fld).names := hy
    simp [iS] at hy'
    rcases hy' with rfl | rfl | rfl | rfl <;> exact fun z => by cases z
  · rcases List.mem_cons.mp hy with rfl | hy
    · exact hkself
    · rcases List.mem_cons.mp hy with rfl | hy
      · exact hkf
      · cases hy
  have F1 : Fr h0 s.heap.objs.size h₁ (fun y => [(fld, v), (("self" : Str), Value.ref x)].lookup y) := ⟨hns, fun b o e => hkp b o (k0 b o e), hsize⟩
  have hxL : x ≠ s.heap.objs.size := Nat.ne_of_lt (Heap.lt_size hx)
  have N1 : News h0 s.heap.objs.size h₁ [(x, excO C t0)] := fun p hp => by
    have e : p = (x, excO C t0) := by simpa using hp
    subst e
    exact ⟨hkp _ _ hx, hxL, hx0⟩
  have I1 : InstAt h₁ x (excO C t0) C none := ⟨hkp _ _ hx, rfl, rfl, trivial⟩
  have mself : (fun y => [(fld, v), (("self" : Str), Value.ref x)].lookup y) ("self" : Str) = some (.ref x) := by
    have e : (("self" : Str) == fld) = false := by
      cases z : (("self" : Str) == fld) with
      | false => rfl
      | true => rw [← beq_iff_eq.mp z] at hfs; exact absurd hfs (by decide)
    simp [List.lookup, e]
  have mfld : (fun y => [(fld, v), (("self" : Str), Value.ref x)].lookup y) fld = some v := by simp [List.lookup]
  show PySem.wpAt _ _ _ (execs _ (ksEnv qual (iS fld) s.heap.objs.size fI (.ref cda) cc)) _ _ _
  refine ks_wpAt_execs_cons (ks_wpAt_Expr_any (ks_wpAt_MethodCall (pl := L2.plainOf (.Call (.Name "super" q0) [] [] q1) _) ?_ (he_line hline)))
  -- super()
  have X1 : K.In h₁ := X0.keeps F1.keep
  have gC : ∃ oD, h₁.get? C = some oD ∧ ∃ cd, oD.data = .cls cd := ⟨_, X1 _ _ hC, _, rfl⟩
  obtain ⟨oD, hD1, cdD, hD2⟩ := gC
  obtain ⟨mb, hmb, hmb2⟩ := Bl
  refine ks_wpAt_super_base (ar := { arg := "self", annotation := none, pos := p1 }) hks hkc (by decide) rfl (X1 _ _ ho) rfl rfl rfl (X1 _ _ hcode) rfl hvs hfile T.top ?_
  refine ks_loadName_global rfl hks (loadGlobal_builtin (env := ksEnv qual (iS fld) s.heap.objs.size fI (.ref cda) cc) (G.keeps F1.keep) T.mgs (hmb.keeps F1.keep) ((hmb2 _ (by decide +kernel)).trans (by first | boot_by_name | rfl | kernel_rfl)) ⟨rfl, ?_⟩)
  refine wpAny_loadName_free rfl hkc rfl ⟨_, X1 _ _ hcell, rfl⟩ ?_
  refine wpAny_loadName_local rfl hkself F1.ns mself ?_
  refine ks_wpAny_isType_cls hD1 hD2 ⟨rfl, ?_⟩
  refine ks_wpAny_call_super hD1 hD2 I1.at_ I1.cls (fun c e => ?_) (looks_mroIn X1 T.slf) (fun h₂ e2 k2' => ?_)
  · have := I1.no
    unfold notCls at this
    rw [e] at this
    exact Bool.noConfusion this
  obtain ⟨F2, N2, l2⟩ := ks_newsPush (s := { s with heap := h₁, toks := s.toks + 2 }) F1 N1 rfl e2 k2'
  have I2 : InstAt h₂ x (excO C t0) C none := ⟨(N2 (x, excO C t0) (by simp)).1, rfl, rfl, trivial⟩
  refine kxs_method kxs_ValueError (news := _) F2 X0 N2 (List.mem_cons_self) I2 T.opq T.sup T.veC (by decide) (fun u h₃ F3 N3 l3 => ?_)
  refine kxs_callWith1 (i := "ValueError.__init__") (x := x) (u := u) N3 List.mem_cons_self ?_ (by rfl) (by rfl)
  refine spliced_cons (Calls.Constant_str (pos := q3) (k := k) (spliced_nil ⟨?_, ?_⟩))
  · exact (N3 (u, kxs_mw "ValueError.__init__" x) List.mem_cons_self).1
  have hux : u ≠ x := fun z => by
    have := l3 (x, excO C t0) (List.mem_cons_of_mem _ (List.mem_cons_self))
    rw [z] at this
    exact absurd this (Nat.lt_irrefl _)
  have hsx : h₁.objs.size ≠ x := fun z => by
    have := l2 (x, excO C t0) List.mem_cons_self
    rw [z] at this
    exact absurd this (Nat.lt_irrefl _)
  refine kxs_call (t := t0) (dv := none) (c2 := .none) F3 X0 N3 PySem.F.excBase_ValueError T.eii List.mem_cons_self (.tail hux (.tail hsx (.head fun p hp => by cases hp))) (by show 1 ≤ sizeLine; rw [sizeLine_eq]; decide) (fun t1 h₄ F4 N4 l4 => ?_)
  -- self.fld = ..
  have hx4 : h₄.get? x = some (excObj C t1 none .none) := (N4 (x, excObj C t1 none .none) (by simp)).1
  show PySem.wpAt _ _ _ (execs _ (ksEnv qual (iS fld) s.heap.objs.size fI (.ref cda) cc)) _ _ _
  refine wpAt_of_wpAny (wpAny_execs_cons (plainObj_wpAny_Assign_Attribute ?_))
  refine wpAny_Name (wpAny_loadName_local rfl hkf F4.ns mfld ?_) hfi
  refine wpAny_Name (wpAny_loadName_local rfl hkself F4.ns mself ?_) (by decide)
  have X4 : K.In h₄ := X0.keeps F4.keep
  refine set_plain X4 (ox := excObj C t1 none .none) (od := none) ⟨hx4, rfl, rfl, trivial⟩ T.sa ?_
  refine exc_osa X4 hx4 hcl (show refsVE (.ref C :: bm) = true from hbm) rfl T.noN (fun h₅ tk₅ dx k₅ dn dne hx₅ hn₅ => ?_)
  refine wpAny_execs_nil (hq h₅ tk₅ dx t1 (fun b o e => k₅ b o (fun z => by rw [z, hx0] at e; cases e) (F4.keep b o e)) hx₅ ?_ dne hn₅)
  exact Nat.le_trans (Nat.le_trans F4.above (Nat.le_of_lt F4.ns.lt)) dn

theorem err_made (T : ErrTxt prog K mg C fI fld) (hbd : BindOk fld) (hks : (iS fld).names.lookup ("super" : Str) = some .globalImplicit) (hkc : (iS fld).names.lookup ("__class__" : Str) = some .free) (hkself : (iS fld).names.lookup ("self" : Str) = some .local) (hkf : (iS fld).names.lookup fld = some .local) (hfs : (fld == ("self" : Str)) = false) (hfi : (fld == ("__debug__" : Str)) = false)
    {v : Value} (X : K.In s.heap) (G : s.heap.Ns mainGlobals mg) (Bl : ∃ mb, s.heap.Ns builtinsNs mb ∧ ∀ x : Str, x ≠ "__name__" → mb x = bootBuiltins x) (hlim : s.heap.NoLimit) (hroom : A.depth + 1 < recursionLimit)
    (hq : ∀ h' tk e d t1, (∀ b o, s.heap.get? b = some o → h'.get? b = some o) → s.heap.objs.size ≤ e → h'.get? e = some { cls := .ref C, dict := some d, data := .fields #[.ref t1, .none, .none, .none, .bool false, .none] } → s.heap.objs.size ≤ d → d ≠ e →
      h'.Ns1 d (fun y => if y = fld then some v else none) → R (.ok (.ret (.ref e))) { s with heap := h', toks := tk }) :
    codeAny (model prog w) A (.call (.ref C) ⟨[v], []⟩) R s := by
  obtain ⟨nm, q, N, bs, bm, sn, sub, ab, col, dd, k0, k1, k2, k3, k5, hC, hbm⟩ := T.cls
  obtain ⟨hp, g, dr, tk, os⟩ := s
  have kk : ∀ b o, hp.get? b = some o → ((hp.push (kdv_tup [v])).push (excO C hp.objs.size)).get? b = some o := fun b o e => Heap.get?_push_of_some _ (Heap.get?_push_of_some _ e)
  have ge : ((hp.push (kdv_tup [v])).push (excO C hp.objs.size)).get? (hp.objs.size + 1) = some (excO C hp.objs.size) := by heap_get
  have gn : hp.get? (hp.objs.size + 1) = none := by
    cases e : hp.get? (hp.objs.size + 1) with
    | none => rfl
    | some o => exact absurd (Nat.lt_of_succ_lt (Heap.lt_size e)) (Nat.lt_irrefl _)
  refine call_own PySem.F.excBase_ValueError (fun X => refsVE_contains X bm hbm) (X _ _ hC) (looks_findIn X T.iC) (fun self => bind_fn X self T.tC) (by show 1 ≤ sizeLine; rw [sizeLine_eq]; decide) ?_
  refine err_init (h0 := hp) (s := ⟨(hp.push (kdv_tup [v])).push (excO C hp.objs.size), g, dr, tk, os⟩) T hbd hks hkc hkself hkf hfs hfi X kk ?_ G Bl (hlim.keeps kk) ge gn ?_ fun h' tk' dx t1 k' hx dn dne hns => ⟨rfl, hq h' tk' (hp.objs.size + 1) dx t1 k' (Nat.le_succ _) hx dn dne hns⟩
  · show hp.objs.size ≤ ((hp.push _).push _).objs.size
    rw [Heap.size_push, Heap.size_push]
    exact Nat.le_succ_of_le (Nat.le_succ _)
  · show A.depth + 1 < recursionLimit
    exact hroom
end
end ErrX
end PySem
namespace Mp
open PySem PySem.Spec PyProof.Rows L2
theorem relO_one {v : V} {v' : Value} (r : RelV v v') (fld f : Str) : RelO (List.lookup f [(fld, v)]) (if f = fld then some v' else none) := by
  by_cases z : f = fld
  · subst z
    simp only [List.lookup, beq_self_eq_true, if_true]
    exact r
  · rw [if_neg z]
    have e : (f == fld) = false := by simpa using z
    simp only [List.lookup, e]
    trivial
/-- what is known of a field's name -/
structure FldOk (fld : Str) : Prop where
  hbd : PySem.ErrX.BindOk fld
  hks : (PySem.ErrX.iS fld).names.lookup ("super" : Str) = some .globalImplicit
  hkc : (PySem.ErrX.iS fld).names.lookup ("__class__" : Str) = some .free
  hkself : (PySem.ErrX.iS fld).names.lookup ("self" : Str) = some .local
  hkf : (PySem.ErrX.iS fld).names.lookup fld = some .local
  hfs : (fld == ("self" : Str)) = false
  hfi : (fld == ("__debug__" : Str)) = false
theorem fld_reason : FldOk "reason" := ⟨PySem.ErrX.bind_reason, by rfl, by rfl, by rfl, by rfl, by decide, by decide⟩
theorem fld_at : FldOk "at" := ⟨PySem.ErrX.bind_at, by rfl, by rfl, by rfl, by rfl, by decide, by decide⟩
theorem fld_ok {k : EC} (h : k ≠ .cmd) : FldOk k.fld := by
  cases k <;> first | exact fld_reason | exact fld_at | exact absurd rfl h
/-- an error is made -/
def tMkE (C : Addr) (fld : Str) (ta : TA) : L2.St → Hp → XK → Prop := fun σ H Q => ta σ H fun vs H1 => ∃ v, vs = [v] ∧ ∀ d, H1 d = none → Q (.ref C) (some d) (upd H1 d (.xd [(fld, v)]))
theorem pmk_err {X : Cx} {C fI : Addr} {fld x : Str} {e : Expr} {ta : TA} {p pos : Pos} {k : Nat} (T : PySem.ErrX.ErrTxt X.prog X.K X.mg C fI fld) (ok : FldOk fld) (hr : Room k X.A) (ha : PA X [e] ta) (hg : Gl X x) (hm : X.mg x = some (.ref C)) (hdb : (x == ("__debug__" : Str)) = false) (hs : NoStar e) :
    L2N.PMk X (.Call (.Name x p) [e] [] pos) (tMkE C fld ta) := by
  intro pins s σ H Q I h
  refine wpAny_Call_Name_kw (ld_glob I hg hm ?_ hdb)
  refine PySem.W.callWith_K (h₀ := X.base) I.ok.mod.kin T.kC (thn (ha.run pos pins s σ H _ I h) fun us s1 hh => ?_) (star_cons hs _ _) rfl
  obtain ⟨vs, H1, I1, r1, v, ev, q1⟩ := hh
  subst ev
  refine ⟨I1.kIn, ?_⟩
  cases r1 with
  | cons rv rn =>
    rename_i v' us'
    cases rn
    show wpAny _ _ (call (.ref C) [v']) _ _ _
    have hlim := I1.nolimit
    obtain ⟨mb, b1, b2⟩ := I1.mod.blt
    obtain ⟨hp, g, dr, tk, os⟩ := s1
    refine wpAny_call (PySem.ErrX.err_made T ok.hbd ok.hks ok.hkc ok.hkself ok.hkf ok.hfs ok.hfi I1.kIn (I1.mod.glob.keeps I1.bk) ⟨mb, b1.keeps I1.bk, b2⟩ hlim (by have := hr.dp; omega) fun h' tk' e d t1 mk new hoe dbig dne hns => ?_)
    show L2N.MkP X pins σ Q (.ref e) ⟨h', g, dr, tk', os⟩
    obtain ⟨G', g1, g2⟩ := restrict h' fun b => decide (b ≠ e)
    have gk : ∀ b, b ≠ e → G'.get? b = h'.get? b := fun b hb => g1 b (decide_eq_true hb)
    have ge : G'.get? e = none := g2 e (by simp)
    have old : ∀ b o, hp.get? b = some o → G'.get? b = some o := fun b o q => (gk b (Nat.ne_of_lt (Nat.lt_of_lt_of_le (Heap.lt_size q) new))).trans (mk b o q)
    have ob : ObjOk X.prog X.w (upd H1 d (.xd [(fld, v)])) G' d (.xd [(fld, v)]) :=
      ⟨_, hns.at (fun o q => (gk d dne).trans q), fun f => relO_one rv fld f⟩
    have J : Inv X pins σ (upd H1 d (.xd [(fld, v)])) ⟨G', g, dr, tk', os⟩ := I1.laid (t' := tk') old dbig ob
    refine ⟨e, _, _, ⟨G', g, dr, tk', os⟩, _, .ref C, some d, rfl, J, fun b o q => ?_, ge, hoe, ⟨rfl, rfl, fun vs z => by cases z; rfl⟩, rfl, rfl, ?_, rfl, I1.bare, raises_own T.exC T.tyC, q1 d (I1.hok.fresh dbig)⟩
    · by_cases hb : b = e
      · have q' : G'.get? b = some o := q
        rw [hb, ge] at q'; cases q'
      · exact (gk b hb).symm.trans q
    · rw [upd_ne (Ne.symm dne)]
      exact I1.hok.fresh new
section
variable {X : Cx} {b : MB} {ca : EC → Addr} {E : EK} {pos : Pos}
/-- raise X(e) -/
theorem qs_rse {kd : EC} {fI : Addr} {x : Str} {e : Expr} {w : ME1} {p pos2 : Pos} {k : Nat} (hc : X.calm = true) (T : PySem.ErrX.ErrTxt X.prog X.K X.mg (ca kd) fI kd.fld) (hkd : kd ≠ .cmd) (hr : Room k X.A) (tk : L2N.Takes X (WXof X.K b ca E)) (he : QE X b e w) (hg : Gl X x) (hm : X.mg x = some (.ref (ca kd)))
    (hdb : (x == ("__debug__" : Str)) = false) (hs : NoStar e) : QS X b (.Raise (some (.Call (.Name x p) [e] [] pos)) none pos2) (fun env S K => w env S fun d S1 => E ⟨kd, d⟩ env S1) := by
  have h1 := pmk_err (p := p) (pos := pos) T (fld_ok hkd) hr (pa_cons he.pe pa_nil (star_cons hs _ _)) hg hm hdb hs
  refine ps_imp (L2N.ps_raise (pos := pos2) hc tk h1) fun D σ H ⟨F, μ, env, S, M, a, q, k⟩ => ?_
  refine ⟨F, μ, env, S, _, a, q, fun v H1 ⟨F1, μ1, d, S1, e1, w1, r1, q1⟩ => ⟨v, rfl, fun da hd => ?_⟩⟩
  obtain ⟨w2, e2⟩ := w1.newF (u := .xd [(kd.fld, v)]) hd
  exact ⟨_, μ1, env, S1, ⟨kd, d⟩, (a.step e1 w1).step e2 w2, ⟨rfl, da, v, rfl, upd_same, r1.ext e2⟩, q1⟩
end
end Mp

set_option Elab.async false
set_option linter.all false
set_option maxRecDepth 100000
set_option maxHeartbeats 2000000
/-! M, part 15: a def called in an except suite, with the error as a value. -/
namespace Mp
open PySem PySem.Spec PyProof.Rows L2
/-- the context of the body of a def that is called while p is handled -/
abbrev hotX (X : Cx) (s : Shared) (H : Hp) (N : List Str) (qual : Str) (scope : Scope) (f : Addr) (cd : Value) (p : Addr × Obj) : Cx :=
  L2H.cxH (fun _ _ _ _ _ _ => False) X.prog X.w X.K X.mg X.base N qual scope f cd X.A X.stack s H (fun _ _ _ => False) p
theorem call_hot {X : Cx} {pins : List (Addr × Obj)} {σ : L2.St} {H : Hp} {s : Shared} {p : Addr × Obj} {Q : VK} {f : Addr} {name qual : Str} {params : Arguments} {body : List Stmt} {scope : Scope} {dV kV doc pm cdv ct oc : Value} {an od : Option Addr} {osl : Array (Option Value)}
    {N ps : List Str} {us : List Value} {vs : List V} {t : TS} (I : Inv X pins σ H s) (hp : p ∈ X.pn) (lk : X.K.lookup f = some ⟨oc, od, .func (PySem.W.fnOf name qual params body scope dV kV doc pm an cdv ct), osl⟩) (hcd : PySem.W.codeIn X.K cdv qual = true) (S : FnScope N ps scope)
    (hb : BindsTo s (PySem.W.fnOf name qual params body scope dV kV doc pm an cdv ct) ⟨us, []⟩ (ps.zip us)) (r : Vals vs us) (hl : vs.length = ps.length) (hdep : X.A.depth < recursionLimit)
    (hbody : PSs (hotX X s H N qual scope f cdv p) body t) (hq : t { nx := fun _ H' => Q .non H', rt := Q } (L2.start N vs) H) :
    wpAny (model X.prog X.w) X.A (call (.ref f) us) (EP X pins σ Q) X.xe s := by
  have e0 := I.env0
  have P1 := I.pin p (List.mem_append_left _ hp)
  have hpin : L2H.PinOk X.stack H s p := ⟨P1.1, P1.2.1, fun hm => by
    rcases List.mem_cons.mp (I.stkSub p.1 hm) with z | z
    · exact P1.2.2.1 z
    · exact P1.2.2.2.1 z, P1.2.2.2.2⟩
  have hkind : ((ps.zip us).all fun y => scope.names.lookup y.1 == some .local || scope.names.lookup y.1 == some .cell) = true := by
    rw [List.all_eq_true]
    rintro ⟨n, v⟩ hy
    rcases S.par n (List.of_mem_zip hy).1 with q | q
    · simp [q]
    · simp [q]
  refine wpAny_call (Att.call_fn I.kIn I.nolimit lk hcd hdep hb hkind (fun s₁ x => ?_) S.co S.gen S.kind)
  have J : Inv (hotX X s H N qual scope f cdv p) [] (L2.start N vs) H s₁ := L2H.inv_startH S hpin e0 hl r x
  refine wpAny_mono (hbody.run [] s₁ _ H _ J hq) (fun fl s' h => ?_) fun e s' h => wpAny_mono h (fun _ _ z => z.elim) fun _ _ z => z.elim
  have fin : ∀ {σ' : L2.St} {H' : Hp} {v : V} {u : Value}, Inv (hotX X s H N qual scope f cdv p) [] σ' H' s' → RelV v u → Q v H' → EP X pins σ Q u s' :=
    fun {σ' H' v u} J' rv q => I.after ⟨v, H', J'.os, J'.bare, J'.base, J'.hok, rv, q⟩
  cases fl with
  | ret u => obtain ⟨v, σ', H', J', rv, q⟩ := h; exact fin J' rv q
  | next => obtain ⟨σ', H', J', q⟩ := h; exact fin (v := V.non) (u := Value.none) J' rfl q
  | brk => obtain ⟨_, _, _, q⟩ := h; exact q.elim
  | cont => obtain ⟨_, _, _, q⟩ := h; exact q.elim
end Mp

set_option Elab.async false
set_option linter.all false
set_option maxRecDepth 100000
set_option maxHeartbeats 2000000
/-! M, part 15b: index, count. -/
namespace Mp
open PySem PySem.Spec PyProof.Rows L2
section
variable {X : Cx} {b : MB}
/-- list.count of what is equal, by values -/
def rCountD (K : PySem.W.Frag) : V → List V → Hp → VK → Prop := fun x xs H Q => ∃ (a : Addr) (y : V) (d : PyData) (ds : List PyData), x = V.ref a ∧ xs = [y] ∧ Dp K H (V.ref a) (.list ds) ∧ Dp K H y d ∧
  SeqAt.shaped (.list ds) = true ∧ SeqAt.shaped d = true ∧ Q (.int ((ds.countP fun z => PyData.eqv z d : Nat) : Int)) H
theorem mt_countD (hu : X.A.units + 65 < cLine) : MtR X "list.count" (rCountD X.K) := by
  intro pins s σ H x xs v us Q I rx rxs h
  obtain ⟨a, y, d, ds, rfl, rfl, hl, hy, sl, sd, q⟩ := h
  cases rx
  obtain ⟨uy, rfl, ry⟩ := rxs.one
  obtain ⟨bs, rd⟩ := Dp.reads I d y uy hy ry
  have hplain : PyData.canLayAll0 ds = true := SeqAt.canLay_of_shaped sl
  cases hl with
  | lst hs ha =>
    obtain ⟨its, rv, ⟨⟨c0, d0, data0, sl0⟩, n, ho, hc, hdn, hdt⟩, hlen⟩ := I.list hs
    simp only at hc hdt
    subst hc hdt
    obtain ⟨as, hr⟩ := Dp.readsAll I ds _ its ha rv
    have hmap : its.map (SeqAt.readOf s.heap) = ds := SeqAt.readsAll_map ds its as hplain hr
    have hcnt : its.toArray.toList.countP (fun u => PyData.eqv (SeqAt.readOf s.heap u) d) = ds.countP fun z => PyData.eqv z d := by
      rw [← hmap, List.countP_map]; rfl
    refine call_meets PySem.F.slot_list_count ⟨_, ho, rfl⟩ PySem.F.entry_list_count (PySem.F.args_list_count_2 _ _)
      (SeqAt.list_countAt a its.toArray n d0 sl0 uy (fun u => PyData.eqv (SeqAt.readOf s.heap u) d)) ⟨ho, SeqAt.items_eqAt (vs := its.toArray) (show ReadsAll s.heap its.toArray.toList ds as from hr) rd hplain (SeqAt.canLay_of_shaped sd) (room_in_shaped sd hu), ?_⟩
    rw [hcnt]
    exact ⟨.int _, H, I.tok _, ⟨s.toks, rfl⟩, q⟩
theorem seqL_res {S : Store} {o : D} {ys : List D} (e : seqL S o = some ys) : res S o = .lst ys := by
  cases o with
  | lst xs => cases e; rfl
  | ref n =>
    cases h : S[n]? with
    | none => simp [seqL, h] at e
    | some so =>
      cases so with
      | lst zs =>
        simp [seqL, h] at e
        subst e
        simp [res, h]
      | dct t z kvs => simp [seqL, h] at e
  | _ => cases e
theorem toPs_get {ys : List D} {j : Nat} {z : D} (h : ys[j]? = some z) : (toPs ys)[j]? = some z.toP := by rw [toPs_map, List.getElem?_map, h]; rfl
theorem ref_of_seq {K : PySem.W.Frag} {fa : FA} {F : Hp} {μ : List Addr} {S : Store} {o : D} {x : V} {ys : List D} (r : RD K fa F μ o x) (e : seqL S o = some ys) : ∃ a, x = .ref a := by
  cases r with
  | lst h hs => exact ⟨_, rfl⟩
  | ref h => exact ⟨_, rfl⟩
  | _ => cases e
theorem qm_index (hu : X.A.units + 65 < cLine) : QM X b "list.index" mIndex := QM.of (mt_indexD hu) fun H F μ S x dx vs ds Q w rd rds q => by
  unfold mIndex at q
  split at q
  · obtain ⟨v, rfl, rv⟩ := one_of (ds := []) rds
    obtain ⟨ys, j, z, e, o1, o2, hj, hz, hno, q⟩ := q
    obtain ⟨a, rfl⟩ := ref_of_seq rd e
    have hr := seqL_res e
    have d1 := res_dp w rd (by rw [hr]; exact o1.1)
    rw [hr, D.toP] at d1
    have s1 := shaped_of w rd (by rw [hr]; exact o1)
    rw [hr, D.toP] at s1
    have e2 := okD_res (S := S) o2
    have d2 := res_dp w rv (by rw [e2]; exact o2.1)
    have s2 := shaped_of w rv (by rw [e2]; exact o2)
    rw [e2] at d2 s2
    refine ⟨a, v, _, _, j, z.toP, rfl, rfl, d1, d2, s1, s2, toPs_get hj, hz, fun m z' hm hz' => ?_, postD w (.int _) q⟩
    rw [toPs_map, List.getElem?_map] at hz'
    obtain ⟨z2, h2, rfl⟩ := Option.map_eq_some_iff.mp hz'
    exact hno m z2 hm h2
  · exact q.elim
theorem qm_count (hu : X.A.units + 65 < cLine) : QM X b "list.count" mCount := QM.of (mt_countD hu) fun H F μ S x dx vs ds Q w rd rds q => by
  unfold mCount at q
  split at q
  · obtain ⟨v, rfl, rv⟩ := one_of (ds := []) rds
    obtain ⟨ys, e, o1, o2, q⟩ := q
    obtain ⟨a, rfl⟩ := ref_of_seq rd e
    have hr := seqL_res e
    have d1 := res_dp w rd (by rw [hr]; exact o1.1)
    rw [hr, D.toP] at d1
    have s1 := shaped_of w rd (by rw [hr]; exact o1)
    rw [hr, D.toP] at s1
    have e2 := okD_res (S := S) o2
    have d2 := res_dp w rv (by rw [e2]; exact o2.1)
    have s2 := shaped_of w rv (by rw [e2]; exact o2)
    rw [e2] at d2 s2
    refine ⟨a, v, _, _, rfl, rfl, d1, d2, s1, s2, postD w (.int _) ?_⟩
    rw [toPs_map, List.countP_map, List.countP_eq_length_filter]
    exact q
  · exact q.elim
end
end Mp

set_option Elab.async false
set_option linter.all false
set_option maxRecDepth 100000
set_option maxHeartbeats 2000000
/-! M, part 15c: the error as a value; isinstance, its field. -/
namespace Mp
open PySem PySem.Spec PyProof.Rows L2
def withX (fa : FA) (a : Addr) : FA := fun n => if n = xno then some a else fa n
section
variable {K : PySem.W.Frag} {fa : FA} {F L H : Hp} {μ : List Addr} {S : Store} {a : Addr}
mutual
theorem RD.withX (h0 : fa xno = none) : ∀ {d : D} {v : V}, RD K fa F μ d v → RD K (withX fa a) F μ d v
  | _, _, .non => .non
  | _, _, .bl b => .bl b
  | _, _, .int i => .int i
  | _, _, .str h => .str h
  | _, _, .tup h hs => .tup h (RDs.withX h0 hs)
  | _, _, .lst h hs => .lst h (RDs.withX h0 hs)
  | _, _, .ref h => .ref h
  | _, _, .fn (f := f) h => .fn (by
      unfold Mp.withX
      rw [if_neg (fun z => by rw [z, h0] at h; cases h)]
      exact h)
  | _, _, .scr h => .scr h
theorem RDs.withX (h0 : fa xno = none) : ∀ {ds : List D} {vs : List V}, RDs K fa F μ ds vs → RDs K (withX fa a) F μ ds vs
  | _, _, .nil => .nil
  | _, _, .cons h hs => .cons (RD.withX h0 h) (RDs.withX h0 hs)
end
/-- only what is frozen goes in; all else is locked -/
def lockAll (L : Hp) (μ : List Addr) (H : Hp) : Hp := fun a => if a ∈ μ then H a else L a
theorem WI.hot (w : WI K fa F L μ S H) (fa' : FA) : WI K fa' F (lockAll L μ H) [] [] H := by
  refine ⟨w.fz, fun b o q => ?_, fun b hb => (by cases hb), fun b o q => ?_, fun b xs q => ?_, List.nodup_nil, rfl, fun i o b h1 h2 => by cases h2⟩
  · unfold lockAll at q
    split at q
    · exact q
    · exact w.lk b o q
  · unfold lockAll at q
    split at q
    · rename_i hm; exact (w.ap b hm).1
    · exact w.dj b o q
  · unfold lockAll at q
    split at q
    · rename_i hm
      obtain ⟨i, e⟩ := List.getElem?_of_mem hm
      obtain ⟨o, e2⟩ := w.at e
      obtain ⟨u, e3, r⟩ := w.st i o b e2 e
      rw [q] at e3; cases e3
      exact r.ntup xs rfl
    · exact w.nt b xs q
theorem WI.cool {fa' : FA} {F' : Hp} {μ' : List Addr} {S' : Store} {H' : Hp} (w : WI K fa F L μ S H) (w' : WI K fa' F' (lockAll L μ H) μ' S' H') (e : ∀ a o, F a = some o → F' a = some o) : WI K fa F L μ S H' := by
  refine ⟨fun b o q => w'.fz b o (e b o q), fun b o q => w'.lk b o ?_, w.ap, w.dj, w.nt, w.nd, w.len, fun i o b h1 h2 => ?_⟩
  · unfold lockAll
    rw [if_neg (fun hm => by have := (w.ap b hm).2; rw [q] at this; cases this)]
    exact q
  · obtain ⟨u, h3, r⟩ := w.st i o b h1 h2
    refine ⟨u, w'.lk b u ?_, r⟩
    unfold lockAll
    rw [if_pos (List.mem_of_getElem? h2)]
    exact h3
end
/-- what isinstance asks of an error's class -/
structure IsTxt (K : PySem.W.Frag) (C : Addr) : Prop where
  cl : (PySem.W.clsIn K C).isSome = true
  ga : PySem.W.findIn K (.ref C) "__getattribute__" = some (some (.builtin "BaseException.__getattribute__"))
  gg : PySem.W.findIn K (.ref C) "__getattr__" = some none
  sb : PySem.W.subIn K (.ref C) (.type "BaseException") = some true
  ca : PySem.W.findIn K (.ref C) "__class__" = some (some (.builtin "object.__class__"))
  sp : PySem.W.specialIn K (.builtin "object.__class__") "__get__" = some (some (.builtin "getset_descriptor.__get__"))
  tk : PySem.W.takesIn K (.builtin "object.__class__") = some true
  mo : PySem.W.mroIn K C (.type "object") = some true
/-- the error at hand: pinned, its dict told -/
structure HotE (X : Cx) (b : MB) (p : Addr × Obj) (C dd : Addr) (fld : Str) (d : D) : Prop where
  pn : p ∈ X.pn
  fa : b.fa xno = some p.1
  zc : Zc (.ref C) (some dd) p.2
  fv : ∃ vs, p.2.data = .fields vs
  vl : ∃ v, b.F0 dd = some (.xd [(fld, v)]) ∧ RD X.K b.fa b.F0 b.μ0 d v
section
variable {X : Cx} {b : MB} {pos : Pos} {p : Addr × Obj} {C dd : Addr} {fld : Str} {d : D}
theorem HotE.inst (h : HotE X b p C dd fld d) {pins : List (Addr × Obj)} {σ : L2.St} {H : Hp} {s : Shared} (I : Inv X pins σ H s) {v : V} (hd : H dd = some (.xd [(fld, v)])) :
    ∃ od u, PySem.W.InstAt s.heap p.1 p.2 C (some od) ∧ RelV v u ∧ PySem.W.lookIn fld od = some (some u) := by
  obtain ⟨mA, hns, hr⟩ := (I.hok dd _ hd : ObjOk X.prog X.w H s.heap dd (.xd [(fld, v)]))
  obtain ⟨od, ho, hl⟩ := lookIn_ns hns
  have l : List.lookup fld [(fld, v)] = some v := by simp [List.lookup]
  obtain ⟨u, hu, ru⟩ := RelO.some_of (v := v) (o := mA fld) (by rw [← l]; exact hr fld)
  obtain ⟨hget, _⟩ := I.pin p (List.mem_append_left _ h.pn)
  obtain ⟨vs, hv⟩ := h.fv
  exact ⟨od, u, ⟨hget, h.zc.1, by unfold PySem.W.notCls; rw [hv] <;> rfl, by rw [h.zc.2]; exact ho⟩, ru, by rw [hl, hu]⟩
/-- isinstance(error, a class of the module) -/
theorem qe_isE {C' : Addr} {bv : Bool} {e : Expr} {w : ME1} {x : Str} {q r : Pos} (h : HotE X b p C dd fld d) (T : IsTxt X.K C) (he : QE X b e w) (hs : NoStar e) (hg : Gl X "isinstance") (hm : X.mg "isinstance" = none) (hx : Gl X x) (hxm : X.mg x = some (.ref C')) (hdb : (x == ("__debug__" : Str)) = false)
    (hk : PySem.W.kitOne X.K (.ref C) (.ref C') = some bv) : QE X b (.Call (.Name "isinstance" q) [e, .Name x r] [] pos) (fun env S Q => w env S fun y S1 => y = .fn xno ∧ Q (.bl bv) S1) := by
  have hc : CallR X (.builtin "isinstance") (fun xs H Q => xs = [.ref p.1, .ref C'] ∧ (∃ v, H dd = some (.xd [(fld, v)])) ∧ Q (.bl bv) H) := by
    intro pins s σ H xs us Q I rr hh
    obtain ⟨rfl, ⟨v, hd⟩, hq⟩ := hh
    obtain ⟨od, u, J, _, _⟩ := h.inst I hd
    cases rr with
    | cons ra rr => cases rr with
      | cons rb rr =>
        cases rr; cases ra; cases rb
        exact PySem.W.kia_one (PySem.W.kitx_exc T.cl T.ga T.gg T.sb T.ca T.sp T.tk T.mo) I.kIn J hk (fun z => nomatch z) fun tk => ⟨.bl bv, H, I.kept (t' := tk) fun _ _ z => z, rfl, hq⟩
  have h2 : PE X (.Name x r) (tC (.ref C')) := pe_glob hx hxm rfl hdb
  refine QE.of (pe_callB hc hg hm (by boot_by_name) (pa_cons he.pe (pa_cons h2 pa_nil rfl) (star_cons hs _ _)) (by decide) (by decide) (star_cons hs _ _) rfl) fun F μ env S Q σ H a hw => ?_
  refine ⟨F, μ, env, S, _, a, hw, fun v H1 ⟨F1, μ1, y, S1, e1, w1, r1, ey, q1⟩ => ?_⟩
  subst ey
  cases r1 with
  | fn hf =>
    rw [h.fa] at hf; cases hf
    obtain ⟨v, hv, _⟩ := h.vl
    exact ⟨rfl, ⟨v, w1.fz _ _ (e1.fz _ _ (a.ex.fz _ _ hv))⟩, F1, μ1, _, S1, e1, w1, .bl bv, q1⟩
/-- error.fld -/
theorem qe_fldE {e : Expr} {w : ME1} (h : HotE X b p C dd fld d) (T : XfC X.K C) (hno : PySem.W.findIn X.K (.ref C) fld = some none) (he : QE X b e w) (hb : attributeBase e fld X.env (eval e X.env) = eval e X.env) :
    QE X b (.Attribute e fld pos) (fun env S Q => w env S fun y S1 => y = .fn xno ∧ Q d S1) := by
  refine ⟨fun pins s σ H F μ env S Q I a hw => ?_⟩
  refine attr_of hb (thn (he.run pins s σ H F μ env S _ I a hw) fun u s1 ⟨y, H1, F1, μ1, dy, S1, I1, rv, e1, w1, r1, ey, q1⟩ => ?_)
  subst ey
  cases r1 with
  | fn hf =>
    rw [h.fa] at hf; cases hf
    obtain rfl : u = Value.ref p.1 := rv
    obtain ⟨v, hv, rd⟩ := h.vl
    obtain ⟨od, u, J, ru, hl⟩ := h.inst I1 (w1.fz _ _ (e1.fz _ _ (a.ex.fz _ _ hv)))
    exact HandSPX.exc_get I1.kIn J T.ga T.gg T.exC (PySem.W.findObj_own T.hdC hno rfl hl) (handed_of ru) ⟨v, H1, F1, μ1, d, S1, I1.tok _, ru, e1, w1, (rd.ext a.ex).ext e1, q1⟩
end
end Mp

set_option Elab.async false
set_option linter.all false
set_option maxRecDepth 100000
set_option maxHeartbeats 1000000
/-! M, part 16: does this text of M tell what that text of the program does? A check by computing. -/
namespace Mp
open PySem PySem.Spec PyProof.Rows L2
mutual
def D.same : D → D → Bool
  | .non, .non => true
  | .bl a, .bl c => a == c
  | .int i, .int j => decide (i = j)
  | .str x, .str y => decide (x = y)
  | .tup xs, .tup ys => sames xs ys
  | .fn f, .fn g => decide (f = g)
  | _, _ => false
def sames : List D → List D → Bool
  | [], [] => true
  | x :: xs, y :: ys => D.same x y && sames xs ys
  | _, _ => false
end
mutual
theorem D.same_eq : ∀ {x y : D}, D.same x y = true → x = y
  | .non, y, h => by cases y <;> simp [D.same] at h ⊢
  | .bl a, y, h => by cases y <;> simp [D.same] at h ⊢; exact h
  | .int i, y, h => by cases y <;> simp [D.same] at h ⊢; exact h
  | .str x, y, h => by cases y <;> simp [D.same] at h ⊢; exact h
  | .tup xs, y, h => by
    cases y <;> simp [D.same] at h ⊢
    exact sames_eq h
  | .lst xs, y, h => by cases y <;> simp [D.same] at h
  | .ref n, y, h => by cases y <;> simp [D.same] at h
  | .fn f, y, h => by cases y <;> simp [D.same] at h ⊢; exact h
  | .scr n, y, h => by cases y <;> simp [D.same] at h
theorem sames_eq : ∀ {xs ys : List D}, sames xs ys = true → xs = ys
  | [], ys, h => by cases ys <;> simp [sames] at h ⊢
  | x :: xs, ys, h => by
    cases ys with
    | nil => simp [sames] at h
    | cons y ys =>
      rw [sames, Bool.and_eq_true] at h
      rw [D.same_eq h.1, sames_eq h.2]
end
/-- where a text stands: its slots, its names, the module's defs and constants -/
structure Gm where
  N : List Str
  sc : Scope
  own : Str → Bool
  fns : List ((Str × Nat) × (Nat × List D))
  cns : List (Str × D)
  ers : List (Str × EC)
  hot : Bool := false
def Gm.fn? (Γ : Gm) (x : Str) (n : Nat) : Option (Nat × List D) := (Γ.fns.find? fun p => p.1.1 == x && p.1.2 == n).map (·.2)
def Gm.kind (Γ : Gm) (x : Str) : Option NameKind := Γ.sc.names.lookup x
def Gm.gl (Γ : Gm) (x : Str) : Bool := match Γ.kind x with | some .globalImplicit => true | _ => false
def Gm.vis (Γ : Gm) (x : Str) : Bool := match Γ.kind x with | some .local => true | some .cell => true | some .free => true | _ => false
def Gm.loc (Γ : Gm) (x : Str) : Bool := match Γ.kind x with
  | some .local => true
  | some .cell => Γ.own x
  | _ => false
def Gm.lcl (Γ : Gm) (x : Str) : Bool := match Γ.kind x with | some .local => true | _ => false
def Gm.at (Γ : Gm) (i : Nat) (x : Str) : Bool := decide (Γ.N[i]? = some x) && !(x == ("__debug__" : Str)) && !(x == ("__classdict__" : Str))
def Gm.blk (Γ : Gm) (scope : Scope) : Gm := { Γ with sc := L2.relS scope Γ.sc, own := fun x => scope.names.lookup x == some .cell }
def noStar : Expr → Bool
  | .Starred _ _ => false
  | _ => true
theorem noStar_of {e : Expr} (h : noStar e = true) : NoStar e := by cases e <;> first | exact trivial | (simp [noStar] at h)
theorem noStars_of {es : List Expr} (h : es.all noStar = true) : ∀ e ∈ es, NoStar e := fun e he => noStar_of (List.all_eq_true.mp h e he)
def noSlice : Expr → Bool
  | .Slice _ _ _ _ => false
  | _ => true
theorem noSlice_of {e : Expr} (h : noSlice e = true) : NoSlice e := by cases e <;> first | exact trivial | (simp [noSlice] at h)
def noCallee : Expr → Bool
  | .Call (.Name _ _) [] [] _ => false
  | _ => true
theorem noCallee_of {e : Expr} (h : noCallee e = true) : ∀ i p a, e ≠ .Call (.Name i p) [] [] a := fun i p a z => by subst z; simp [noCallee] at h
def Blt.nm : Blt → String
  | .len => "len" | .abs => "abs" | .max2 => "max" | .min2 => "min" | .max1 => "max" | .min1 => "min" | .sum => "sum" | .all => "all" | .any => "any"
  | .int => "int" | .str => "str" | .list => "list" | .tuple => "tuple" | .sorted => "sorted" | .sortedR => "sorted" | .sortK => "sorted"
def Blt.ar : Blt → Nat
  | .max2 => 2 | .min2 => 2 | _ => 1
def Mth.nm : Mth → String
  | .append => "append" | .extend => "extend" | .pop0 => "pop" | .pop1 => "pop" | .index => "index" | .count => "count" | .bitlen => "bit_length"
def Mth.ar : Mth → Nat
  | .pop0 => 0 | .bitlen => 0 | _ => 1
mutual
def okT (Γ : Gm) : MT → Expr → Bool
  | .nm i, e => (match e with | .Name x _ => decide (Γ.N[i]? = some x) && Γ.loc x | _ => false)
  | .tp ts, e => (match e with | .Tuple es _ _ => !Γ.hot && okTs Γ ts es | _ => false)
  | _, _ => false
def okTs (Γ : Gm) : MT → List Expr → Bool
  | .nil, es => (match es with | [] => true | _ => false)
  | .cons a r, es => (match es with | x :: xs => okT Γ a x && okTs Γ r xs | _ => false)
  | _, _ => false
end
/-- the checks one level down -/
structure Ok where
  e : Gm → ME → Expr → Bool
  l : Gm → ME → List Expr → Bool
  ba : Gm → ME → List Expr → Bool
  bo : Gm → ME → List Expr → Bool
  i : Gm → ME → Expr → Expr → Bool
def okCon (Γ : Gm) (d : D) : Expr → Bool
  | .Constant (.int i) _ _ => D.same d (.int i)
  | .Constant (.str x) _ _ => D.same d (.str x) && decide (x.length ≤ 1000) && PyData.strOk x
  | .Constant (.bool b) _ _ => D.same d (.bl b)
  | .Constant .none _ _ => D.same d .non
  | .Name x _ => (match Γ.cns.lookup x with | some d' => D.same d d' && Γ.gl x && !(x == ("__debug__" : Str)) | none => false)
  | _ => false
def okPart (o : Ok) (Γ : Gm) (m : ME) (e : Option Expr) : Bool := match m, e with
  | .abs, none => true
  | .cons a .nil, some x => o.e Γ a x
  | _, _ => false
def okSrc (e : Expr) : Bool := match e with | .Set _ _ _ => false | _ => true
def okTests (o : Ok) (Γ : Gm) (k : ME) (ifs : List Expr) : Bool := match ifs with
  | [] => (match k with | .yes => true | _ => false)
  | [x] => o.e Γ k x
  | _ => false
def ownOk (Γ : Gm) (own : List Nat) (names : List Str) : Bool := true
def okLc (o : Ok) (Γ : Gm) (own : List Nat) (t : MT) (it k r : ME) (e : Expr) : Bool := !Γ.hot && match e with
  | .ListComp elt [⟨tg, iter, ifs, 0⟩] scope _ =>
    let Δ := Γ.blk scope
    let ns := own.map fun i => (Γ.N.getD i "", i)
    o.i Γ it tg iter && okSrc iter && L2.blkC Γ.N Γ.sc scope ns && (slots t).all (fun i => own.contains i) && okT Δ t tg && okTests o Δ k ifs && (match r with | .gend m => o.e Δ m elt | _ => false)
  | .ListComp elt [⟨tg, iter, ifs, 0⟩, ⟨tg1, iter1, ifs1, 0⟩] scope _ =>
    let Δ := Γ.blk scope
    let ns := own.map fun i => (Γ.N.getD i "", i)
    o.i Γ it tg iter && okSrc iter && L2.blkC Γ.N Γ.sc scope ns && (slots t).all (fun i => own.contains i) && okT Δ t tg && okTests o Δ k ifs && (match r with
      | .gfor t1 own1 it1 k1 r1 => o.i Δ it1 tg1 iter1 && okSrc iter1 && own1.all (fun i => own.contains i) && (slots t1).all (fun i => own1.contains i) && okT Δ t1 tg1 && okTests o Δ k1 ifs1 && (match r1 with | .gend m => o.e Δ m elt | _ => false)
      | _ => false)
  | _ => false
def okSs (o : Ok) (Γ : Gm) (own : List Nat) (t : MT) (it k r : ME) (e : Expr) : Bool := !Γ.hot && match e with
  | .Call (.Name z _) [.DictComp kx (.Constant (.bool true) _ _) [⟨tg, iter, ifs, 0⟩] scope _] [] _ =>
    let Δ := Γ.blk scope
    let ns := own.map fun i => (Γ.N.getD i "", i)
    decide (z = "sorted") && Γ.gl "sorted" && (o.i Γ it tg iter && okSrc iter && L2.blkC Γ.N Γ.sc scope ns && (slots t).all (fun i => own.contains i) && okT Δ t tg && okTests o Δ k ifs && o.e Δ r kx)
  | _ => false
def okLs (o : Ok) (Γ : Gm) (own : List Nat) (t : MT) (it k r : ME) (e : Expr) : Bool := !Γ.hot && match e with
  | .Call (.Name z _) [.DictComp kx (.Constant (.bool true) _ _) [⟨tg, iter, ifs, 0⟩] scope _] [] _ =>
    let Δ := Γ.blk scope
    let ns := own.map fun i => (Γ.N.getD i "", i)
    decide (z = "len") && Γ.gl "len" && (o.i Γ it tg iter && okSrc iter && L2.blkC Γ.N Γ.sc scope ns && (slots t).all (fun i => own.contains i) && okT Δ t tg && okTests o Δ k ifs && o.e Δ r kx)
  | _ => false
def okNs (o : Ok) (Γ : Gm) (a : ME) (e : Expr) : Bool := !Γ.hot && match e with
  | .Call (.Name z _) [.Call (.Name z2 _) [x] [] _] [] _ => decide (z = "len") && decide (z2 = "set") && Γ.gl "len" && Γ.gl "set" && noStar x && o.e Γ a x
  | _ => false
/-- d.update(e) -/
def okDu (o : Ok) (Γ : Gm) (a k : ME) (e : Expr) : Bool := match e with
  | .Call (.Attribute y x ap) [z] [] pos => decide (x = "update") && noCallee y && noStar z && (ap.endLine == pos.line) && o.e Γ a y && o.e Γ k z
  | _ => false
/-- d.get(k, e), d.setdefault(k, e) -/
def okDm (o : Ok) (Γ : Gm) (nm : Str) (a k c : ME) (e : Expr) : Bool := match e with
  | .Call (.Attribute y x ap) [z, u] [] pos => decide (x = nm) && noCallee y && noStar z && noStar u && (ap.endLine == pos.line) && o.e Γ a y && o.e Γ k z && o.e Γ c u
  | _ => false
def okCall (o : Ok) (Γ : Gm) (f : Nat) (dv : List D) (es : ME) (e : Expr) : Bool := !Γ.hot && match e with
  | .Call (.Name x _) (y :: ys) [] _ => (match Γ.fn? x (y :: ys).length with
    | some (g, dw) => decide (f = g) && sames dv dw && Γ.gl x && !(x == ("__debug__" : Str)) && (y :: ys).all noStar && o.l Γ es (y :: ys)
    | none => false)
  | _ => false
def okCallv (o : Ok) (Γ : Gm) (i : Nat) (es : ME) (e : Expr) : Bool := !Γ.hot && match e with
  | .Call (.Name x _) (y :: ys) [] _ => Γ.at i x && Γ.vis x && (y :: ys).all noStar && o.l Γ es (y :: ys)
  | _ => false
def okBlt (o : Ok) (Γ : Gm) (f : Blt) (es : ME) (e : Expr) : Bool := (decide (f = .str) || !Γ.hot) && match e with
  | .Call (.Name x _) (y :: ys) [] _ => decide (x = (f.nm : Str)) && decide ((y :: ys).length = f.ar) && (match f with | .sortedR => false | _ => true) && Γ.gl x && (y :: ys).all noStar && o.l Γ es (y :: ys)
  | _ => false
def okIsi (o : Ok) (Γ : Gm) (t : TN) (a : ME) (e : Expr) : Bool := match e with
  | .Call (.Name x _) [y, .Name z _] [] _ => decide (x = "isinstance") && decide (z = (t.nm : Str)) && Γ.gl "isinstance" && Γ.gl (t.nm : Str) && noStar y && o.e Γ a y
  | _ => false
def okLrng (o : Ok) (Γ : Gm) (a c : ME) (e : Expr) : Bool := !Γ.hot && match e with
  | .Call (.Name x _) [.Call (.Name z _) [y] [] _] [] _ => decide (x = "list") && decide (z = "range") && Γ.gl "list" && Γ.gl "range" && noStar y && (match a with | .con (.int 0) => true | _ => false) && o.e Γ c y
  | .Call (.Name x _) [.Call (.Name z _) [y, y2] [] _] [] _ => decide (x = "list") && decide (z = "range") && Γ.gl "list" && Γ.gl "range" && noStar y && noStar y2 && o.e Γ a y && o.e Γ c y2
  | _ => false
def okMth (o : Ok) (Γ : Gm) (f : Mth) (a es : ME) (e : Expr) : Bool := match e with
  | .Call (.Attribute y x ap) ys [] pos => decide (x = (f.nm : Str)) && decide (ys.length = f.ar) && noCallee y && ys.all noStar && (ap.endLine == pos.line) && o.e Γ a y && o.l Γ es ys && (match ys with | [] => (match es with | .nil => true | _ => false) | _ => true)
  | _ => false
/-- one expression, the parts by o -/
def okE (o : Ok) (Γ : Gm) (m : ME) (e : Expr) : Bool := match m with
  | .var i => (match e with | .Name x _ => Γ.at i x && Γ.vis x | _ => false)
  | .con d => okCon Γ d e
  | .bin op _ a c => (match e with | .BinOp x op' y _ => decide (op' = op) && o.e Γ a x && o.e Γ c y | _ => false)
  | .neg a => (match e with | .UnaryOp .USub x _ => o.e Γ a x | _ => false)
  | .not a => (match e with | .UnaryOp .Not x _ => o.e Γ a x | _ => false)
  | .cmp op a c => (match e with | .Compare x [op'] [y] _ => decide (op' = op) && o.e Γ a x && o.e Γ c y && !behindInMarks op y | _ => false)
  | .ch2 o1 o2 a c g => (match e with | .Compare x [p1, p2] [y, z] _ => decide (p1 = o1) && decide (p2 = o2) && o.e Γ a x && o.e Γ c y && o.e Γ g z && !lastMarks [o1, o2] [y, z] | _ => false)
  | .ch3 o1 o2 o3 a c g l => (match e with | .Compare x [p1, p2, p3] [y, z, u] _ => decide (p1 = o1) && decide (p2 = o2) && decide (p3 = o3) && o.e Γ a x && o.e Γ c y && o.e Γ g z && o.e Γ l u && !lastMarks [o1, o2, o3] [y, z, u] | _ => false)
  | .isn ng a => (match e with
    | .Compare x [.Is] [.Constant .none _ _] _ => !ng && o.e Γ a x
    | .Compare x [.IsNot] [.Constant .none _ _] _ => ng && o.e Γ a x
    | _ => false)
  | .and a r => (match e with | .BoolOp .And (x :: y :: ys) _ => o.e Γ a x && o.ba Γ r (y :: ys) | _ => false)
  | .or a r => (match e with | .BoolOp .Or (x :: y :: ys) _ => o.e Γ a x && o.bo Γ r (y :: ys) | _ => false)
  | .ite t a c => (match e with | .IfExp x y z _ => o.e Γ t x && o.e Γ a y && o.e Γ c z | _ => false)
  | .tup es => (match e with | .Tuple xs _ _ => xs.all noStar && o.l Γ es xs | _ => false)
  | .lst _ es => (match e with | .List xs _ => xs.all noStar && o.l Γ es xs | _ => false)
  | .call f dv es => okCall o Γ f dv es e
  | .callv i es => okCallv o Γ i es e
  | .blt f _ es => okBlt o Γ f es e
  | .isi t a => okIsi o Γ t a e
  | .lrng _ a c => okLrng o Γ a c e
  | .mth f a es => okMth o Γ f a es e
  | .idx a i => (match e with | .Subscript x y _ => noSlice y && o.e Γ a x && o.e Γ i y | _ => false)
  | .slc _ a lo hi => (match e with | .Subscript x (.Slice l h none _) _ => o.e Γ a x && okPart o Γ lo l && okPart o Γ hi h | _ => false)
  | .rev _ a => (match e with | .Subscript x (.Slice none none (some (.UnaryOp .USub (.Constant (.int 1) _ _) _)) _) _ => o.e Γ a x | _ => false)
  | .lc _ own t it k r => okLc o Γ own t it k r e
  | .sset _ own t it k r => okSs o Γ own t it k r e
  | .lset own t it k r => okLs o Γ own t it k r e
  | .nset a => okNs o Γ a e
  | .no => true
  | .dnew _ => (match e with | .Dict [] [] _ => true | _ => false)
  | .ddis _ k a => (match e with | .Dict [some x] [y] _ => !Γ.hot && o.e Γ k x && o.e Γ a y | _ => false)
  | .dsub a k => (match e with | .Subscript x y _ => noSlice y && o.e Γ a x && o.e Γ k y | _ => false)
  | .dget a k c => okDm o Γ "get" a k c e
  | .dsetd a k c => okDm o Γ "setdefault" a k c e
  | .dupd a k => okDu o Γ a k e
  | .din ng k a => (match e with | .Compare x [op] [y] _ => decide (op = if ng = true then .NotIn else .In) && o.e Γ k x && o.e Γ a y && !behindInMarks op y | _ => false)
  | .isE kd a => (match e with
    | .Call (.Name x _) [y, .Name z _] [] _ => Γ.hot && decide (x = "isinstance") && Γ.gl "isinstance" && Γ.gl z && decide (kd ≠ .cmd) && (decide (Γ.ers.lookup z = some kd) || (decide (z = "CaveError") && decide (kd = .cave))) && !(z == ("__debug__" : Str)) && noStar y && o.e Γ a y
    | _ => false)
  | .fldE f a => (match e with | .Attribute y g _ => Γ.hot && decide (g = f) && noCallee y && o.e Γ a y | _ => false)
  | _ => false
def okL (o : Ok) (Γ : Gm) (m : ME) (es : List Expr) : Bool := match m, es with
  | .nil, [] => true
  | .cons a r, x :: xs => o.e Γ a x && noStar x && o.l Γ r xs
  | _, _ => false
def okBA (o : Ok) (Γ : Gm) (m : ME) (es : List Expr) : Bool := match es with
  | [x] => o.e Γ m x
  | x :: y :: ys => (match m with | .and a r => o.e Γ a x && o.ba Γ r (y :: ys) | _ => false)
  | _ => false
def okBO (o : Ok) (Γ : Gm) (m : ME) (es : List Expr) : Bool := match es with
  | [x] => o.e Γ m x
  | x :: y :: ys => (match m with | .or a r => o.e Γ a x && o.bo Γ r (y :: ys) | _ => false)
  | _ => false
def okI0 (o : Ok) (Γ : Gm) (m : ME) (tg e : Expr) : Bool := match m with
  | .itr a => o.e Γ a e
  | .keys a => o.e Γ a e
  | .rng a c => (match e with
    | .Call (.Name z _) [y] [] _ => decide (z = "range") && Γ.gl "range" && noStar y && (match a with | .con (.int 0) => true | _ => false) && o.e Γ c y
    | .Call (.Name z _) [y, y2] [] _ => decide (z = "range") && Γ.gl "range" && noStar y && noStar y2 && o.e Γ a y && o.e Γ c y2
    | _ => false)
  | .rngD a c => (match e with
    | .Call (.Name z _) [y, y2, .UnaryOp .USub (.Constant (.int 1) _ _) _] [] _ => decide (z = "range") && Γ.gl "range" && noStar y && noStar y2 && o.e Γ a y && o.e Γ c y2
    | _ => false)
  | .zip2 a c => (match tg with
    | .Tuple _ _ _ => (match e with
      | .Call (.Name z _) [y, y2] [] _ => decide (z = "zip") && Γ.gl "zip" && noStar y && noStar y2 && o.e Γ a y && o.e Γ c y2
      | _ => false)
    | _ => false)
  | .enm a => (match tg with
    | .Tuple _ _ _ => (match e with
      | .Call (.Name z _) [y] [] _ => decide (z = "enumerate") && Γ.gl "enumerate" && noStar y && o.e Γ a y
      | _ => false)
    | _ => false)
  | .enl a => (match tg with
    | .Tuple _ _ _ => (match e with
      | .Call (.Name z _) [y] [] _ => decide (z = "enumerate") && Γ.gl "enumerate" && noStar y && o.e Γ a y
      | _ => false)
    | _ => false)
  | _ => false
def okI (o : Ok) (Γ : Gm) (m : ME) (tg e : Expr) : Bool := !Γ.hot && okI0 o Γ m tg e
def Ok.no : Ok := ⟨fun _ _ _ => false, fun _ _ _ => false, fun _ _ _ => false, fun _ _ _ => false, fun _ _ _ _ => false⟩
def Ok.up (o : Ok) : Ok := ⟨okE o, okL o, okBA o, okBO o, okI o⟩
def Ok.at : Nat → Ok
  | 0 => .no
  | n + 1 => (Ok.at n).up
end Mp

set_option Elab.async false
set_option linter.all false
set_option maxRecDepth 100000
set_option maxHeartbeats 2000000
/-! M, part 16b: the check is sound: expressions. -/
namespace Mp
open PySem PySem.Spec PyProof.Rows L2
theorem bt_len : bootBuiltins "len" = some (.builtin "len") := by boot_by_name
theorem bt_abs : bootBuiltins "abs" = some (.builtin "abs") := by boot_by_name
theorem bt_max : bootBuiltins "max" = some (.builtin "max") := by boot_by_name
theorem bt_min : bootBuiltins "min" = some (.builtin "min") := by boot_by_name
theorem bt_sum : bootBuiltins "sum" = some (.builtin "sum") := by boot_by_name
theorem bt_all : bootBuiltins "all" = some (.builtin "all") := by boot_by_name
theorem bt_any : bootBuiltins "any" = some (.builtin "any") := by boot_by_name
theorem bt_sorted : bootBuiltins "sorted" = some (.builtin "sorted") := by boot_by_name
theorem bt_int : bootBuiltins "int" = some (.type "int") := by boot_by_name
theorem bt_str : bootBuiltins "str" = some (.type "str") := by boot_by_name
theorem bt_list : bootBuiltins "list" = some (.type "list") := by boot_by_name
theorem bt_tuple : bootBuiltins "tuple" = some (.type "tuple") := by boot_by_name
theorem bt_bool : bootBuiltins "bool" = some (.type "bool") := by boot_by_name
def bltNames : List String := ["len", "abs", "max", "min", "sum", "all", "any", "sorted", "int", "str", "list", "tuple", "bool", "isinstance", "range", "zip", "enumerate", "dict", "set", "repr"]
/-- the text's surroundings are as Γ tells -/
structure Sat (Γ : Gm) (X : Cx) (fa : FA) (ca : EC → Addr) (c : C) (k : Nat) : Prop where
  calm : Γ.hot = false → X.calm = true
  nd : X.N.Nodup
  room : Γ.hot = false → Room k X.A
  un : X.A.units + 200 < cLine
  N : X.N = Γ.N
  sc : X.env.scope = Γ.sc
  own : ∀ x, Γ.own x = true → X.fn x = true
  fns : ∀ p ∈ Γ.fns, ∃ a fd ps ds dvs, X.mg p.1.1 = some (.ref a) ∧ FnM X.prog X.w X.K X.mg X.base fa ca k a fd ps (c.call p.2.1) ∧ PySem.W.keepIn X.K (.ref a) = true ∧ Binds X.K fd ps ds ∧ Vals dvs ds ∧ ∀ F μ, RDs X.K fa F μ p.2.2 dvs
  fnv : Γ.hot = false → ∀ f a, fa f = some a → ∃ fd ps, FnM X.prog X.w X.K X.mg X.base fa ca k a fd ps (c.call f) ∧ PySem.W.keepIn X.K (.ref a) = true ∧ Binds X.K fd ps []
  cns : ∀ x d, Γ.cns.lookup x = some d → ∃ u v, X.mg x = some u ∧ RelV v u ∧ ∀ F μ, RD X.K fa F μ d v
  blt : ∀ x ∈ bltNames, X.mg (x : Str) = none
section
variable {Γ : Gm} {X : Cx} {fa : FA} {ca : EC → Addr} {c : C} {k : Nat}
theorem Sat.gl (s : Sat Γ X fa ca c k) {x : Str} (h : Γ.gl x = true) : Gl X x := by
  unfold Gl Env.kindOf
  rw [s.sc]
  unfold Gm.gl Gm.kind at h
  split at h
  · assumption
  · cases h
theorem Sat.vis (s : Sat Γ X fa ca c k) {x : Str} (h : Γ.vis x = true) : Vis X.env.scope x := by
  rw [s.sc]
  unfold Gm.vis Gm.kind at h
  unfold Vis
  split at h
  · exact .inl (by assumption)
  · exact .inr (.inl (by assumption))
  · exact .inr (.inr (by assumption))
  · cases h
theorem Sat.loc (s : Sat Γ X fa ca c k) {x : Str} (h : Γ.loc x = true) : L2.Loc X.env.scope x ∧ (X.fn x = true ∨ X.env.scope.names.lookup x = some .local) := by
  rw [s.sc]
  unfold Gm.loc Gm.kind at h
  unfold L2.Loc
  split at h
  · rename_i e; exact ⟨.inl e, .inr e⟩
  · rename_i e; exact ⟨.inr e, .inl (s.own x h)⟩
  · cases h
theorem Sat.lcl (s : Sat Γ X fa ca c k) {x : Str} (h : Γ.lcl x = true) : X.env.scope.names.lookup x = some .local := by
  rw [s.sc]
  unfold Gm.lcl Gm.kind at h
  split at h
  · assumption
  · cases h
theorem at_of {i : Nat} {x : Str} (h : Γ.at i x = true) : Γ.N[i]? = some x ∧ (x == ("__debug__" : Str)) = false ∧ (x == ("__classdict__" : Str)) = false := by
  unfold Gm.at at h
  simp only [Bool.and_eq_true, decide_eq_true_eq, Bool.not_eq_true'] at h
  exact ⟨h.1.1, h.1.2, h.2⟩
theorem fn_some {x : Str} {n : Nat} {g : Nat} {dw : List D} (h : Γ.fn? x n = some (g, dw)) : ∃ p ∈ Γ.fns, p.1.1 = x ∧ p.2 = (g, dw) := by
  unfold Gm.fn? at h
  obtain ⟨p, hp, e⟩ := Option.map_eq_some_iff.mp h
  have h1 := List.mem_of_find?_eq_some hp
  have h2 := List.find?_some hp
  simp only [Bool.and_eq_true, beq_iff_eq] at h2
  exact ⟨p, h1, h2.1, e⟩
/-- the block of a comprehension -/
theorem Sat.blk (s : Sat Γ X fa ca c k) (scope : Scope) (s0 : Shared) (H : Hp) (C : Addr) (cl : List (Str × Addr)) (fp : List Addr) : Sat (Γ.blk scope) (X.blk s0 H scope (compEnvC scope cl C X.env) fp) fa ca c k where
  calm := s.calm
  nd := s.nd
  room := s.room
  un := s.un
  N := s.N
  sc := by
    show (compEnvC scope cl C X.env).scope = L2.relS scope Γ.sc
    rw [← s.sc]; rfl
  own := fun x h => h
  fns := s.fns
  fnv := s.fnv
  cns := s.cns
  blt := s.blt

theorem Sat.u65 (s : Sat Γ X fa ca c k) : X.A.units + 65 < cLine := by have := s.un; omega
/-- the error at hand in a def that is called while it is handled -/
def HB (Γ : Gm) (X : Cx) (b : MB) (ca : EC → Addr) (c : C) : Prop := Γ.hot = true → (∀ z kd, Γ.ers.lookup z = some kd → X.mg z = some (.ref (ca kd))) ∧ X.mg "CaveError" = some (.ref (ca .cave)) ∧ ∃ e0, c.hot = some e0 ∧ ∃ p dd, HotE X b p (ca e0.cls) dd e0.cls.fld e0.arg ∧ IsTxt X.K (ca e0.cls) ∧ XfC X.K (ca e0.cls) ∧
  PySem.W.findIn X.K (.ref (ca e0.cls)) e0.cls.fld = some none ∧ ∀ kd, kd ≠ .cmd → PySem.W.kitOne X.K (.ref (ca e0.cls)) (.ref (ca kd)) = some (decide (kd = .cave) || decide (e0.cls = kd))
structure TK (Γ : Gm) (X : Cx) (b : MB) (ca : EC → Addr) (c : C) (E : EK) : Prop where
  tk : L2N.Takes X (WXof X.K b ca E)
  hb : HB Γ X b ca c
theorem HB.cold {Γ : Gm} {X : Cx} {b : MB} {ca : EC → Addr} {c : C} (h : Γ.hot = false) : HB Γ X b ca c := fun z => by rw [h] at z; cases z
/-- what one level's check gives -/
structure Snd (o : Ok) : Prop where
  e : ∀ {Γ : Gm} {X : Cx} {b : MB} {ca : EC → Addr} {c : C} {k : Nat} {E : EK} {m : ME} {ex : Expr}, Sat Γ X b.fa ca c k → TK Γ X b ca c E → o.e Γ m ex = true → QE X b ex (ev c E m) ∧ QT X b ex (ev c E m)
  l : ∀ {Γ : Gm} {X : Cx} {b : MB} {ca : EC → Addr} {c : C} {k : Nat} {E : EK} {m : ME} {es : List Expr}, Sat Γ X b.fa ca c k → TK Γ X b ca c E → o.l Γ m es = true → QA X b es (evL c E m)
  ba : ∀ {Γ : Gm} {X : Cx} {b : MB} {ca : EC → Addr} {c : C} {k : Nat} {E : EK} {m : ME} {es : List Expr} {pos : Pos}, Sat Γ X b.fa ca c k → TK Γ X b ca c E → o.ba Γ m es = true → QE X b (.BoolOp .And es pos) (ev c E m) ∧ QW X b (.BoolOp .And es pos) (ev c E m)
  bo : ∀ {Γ : Gm} {X : Cx} {b : MB} {ca : EC → Addr} {c : C} {k : Nat} {E : EK} {m : ME} {es : List Expr} {pos : Pos}, Sat Γ X b.fa ca c k → TK Γ X b ca c E → o.bo Γ m es = true → QE X b (.BoolOp .Or es pos) (ev c E m) ∧ QW X b (.BoolOp .Or es pos) (ev c E m)
  i : ∀ {Γ : Gm} {X : Cx} {b : MB} {ca : EC → Addr} {c : C} {k : Nat} {E : EK} {m : ME} {tg ex : Expr}, Sat Γ X b.fa ca c k → TK Γ X b ca c E → o.i Γ m tg ex = true → QI X b tg ex (evI c E m)
theorem snd_no : Snd Ok.no where
  e := fun _ _ h => Bool.noConfusion h
  l := fun _ _ h => Bool.noConfusion h
  ba := fun _ _ h => Bool.noConfusion h
  bo := fun _ _ h => Bool.noConfusion h
  i := fun _ _ h => Bool.noConfusion h
section
variable {o : Ok} {Γ : Gm} {X : Cx} {b : MB} {ca : EC → Addr} {c : C} {k : Nat} {E : EK} {fa : FA}
theorem each_one {Γ : Gm} {t : MT} {e : Expr} (h : okT Γ t e = true) (es : List Expr) (env : Env) : assignEach (e :: es) env = (false, assign e env) :: assignEach es env := by
  cases e with
  | Starred v p => cases t <;> simp [okT] at h
  | _ => rfl
mutual
theorem gT_some {K : PySem.W.Frag} : ∀ {t : MT} {v : V} {σ : L2.St} {H : Hp} {P : L2.St → Hp → Prop}, gT K t v σ H P → ∃ σ' H', P σ' H'
  | .nm i, v, σ, H, P, h => ⟨_, _, h⟩
  | .tp ts, v, σ, H, P, h => by
    rw [gT] at h
    obtain ⟨a, xs, _, _, h⟩ := h
    exact gTs_some h
  | .nil, v, σ, H, P, h => by simp [gT] at h
  | .cons a r, v, σ, H, P, h => by simp [gT] at h
theorem gTs_some {K : PySem.W.Frag} : ∀ {t : MT} {vs : List V} {σ : L2.St} {H : Hp} {P : L2.St → Hp → Prop}, gTs K t vs σ H P → ∃ σ' H', P σ' H'
  | .nil, vs, σ, H, P, h => by rw [gTs] at h; exact ⟨_, _, h.2⟩
  | .cons a r, vs, σ, H, P, h => by
    rw [gTs] at h
    obtain ⟨v, w, _, h⟩ := h
    obtain ⟨_, _, h⟩ := gT_some h
    exact gTs_some h
  | .nm i, vs, σ, H, P, h => by simp [gTs] at h
  | .tp ts, vs, σ, H, P, h => by simp [gTs] at h
end
theorem each_len {Γ : Gm} : ∀ {t : MT} {es : List Expr}, okTs Γ t es = true → ∀ (env : Env), (assignEach es env).findIdx? (·.1) = none ∧ ∀ (K : PySem.W.Frag) vs σ H P, gTs K t vs σ H P → vs.length = (assignEach es env).length
  | .nil, es, h, env => by
    cases es with
    | nil => exact ⟨rfl, fun K vs σ H P q => by rw [gTs] at q; rw [q.1]; rfl⟩
    | cons x xs => simp [okTs] at h
  | .cons a r, es, h, env => by
    cases es with
    | nil => simp [okTs] at h
    | cons x xs =>
      rw [okTs, Bool.and_eq_true] at h
      obtain ⟨i1, i2⟩ := each_len h.2 env
      rw [each_one h.1]
      refine ⟨?_, fun K vs σ H P q => ?_⟩
      · rw [List.findIdx?_cons, i1]; rfl
      · rw [gTs] at q
        obtain ⟨v, w, rfl, q⟩ := q
        obtain ⟨_, _, q⟩ := gT_some q
        rw [List.length_cons, List.length_cons, i2 K _ _ _ _ q]
  | .nm i, es, h, env => by simp [okTs] at h
  | .tp ts, es, h, env => by simp [okTs] at h

mutual
theorem pg_ok (s : Sat Γ X fa ca c k) : ∀ {t : MT} {e : Expr}, okT Γ t e = true → PG X e (gT X.K t)
  | .nm i, e, h => by
    cases e with
    | Name x p =>
      simp only [okT, Bool.and_eq_true, decide_eq_true_eq] at h
      have := s.loc h.2
      rw [gT]
      exact pg_name s.nd (by rw [s.N]; exact h.1) this.1 this.2
    | _ => simp [okT] at h
  | .tp ts, e, h => by
    cases e with
    | Tuple es kk p =>
      simp only [okT, Bool.and_eq_true, Bool.not_eq_true'] at h
      obtain ⟨h0, h⟩ := h
      obtain ⟨h1, h2⟩ := each_len h X.env
      exact pg_tp (s.calm h0) (pgs_ok s h) (h2 X.K) h1
    | _ => simp [okT] at h
  | .nil, e, h => by simp [okT] at h
  | .cons a r, e, h => by simp [okT] at h
theorem pgs_ok (s : Sat Γ X fa ca c k) : ∀ {t : MT} {es : List Expr}, okTs Γ t es = true → PGs X es (gTs X.K t)
  | .nil, es, h => by
    cases es with
    | nil => rw [gTs]; exact pgs_nil
    | cons x xs => simp [okTs] at h
  | .cons a r, es, h => by
    cases es with
    | nil => simp [okTs] at h
    | cons x xs =>
      rw [okTs, Bool.and_eq_true] at h
      rw [gTs]
      exact pgs_cons (pg_ok s h.1) (pgs_ok s h.2) (by rw [each_one h.1]; rfl)
  | .nm i, es, h => by simp [okTs] at h
  | .tp ts, es, h => by simp [okTs] at h
end
theorem both {ex : Expr} {w : ME1} (h : QE X b ex w) (he : isTrue ex X.env (eval ex X.env) = (do let v ← eval ex X.env; standAt ex.pos; holding [v] (truthy v))) : QE X b ex w ∧ QT X b ex w := ⟨h, qt_plain h he⟩
theorem con_ok (s : Sat Γ X b.fa ca c k) {d : D} {ex : Expr} (h : okCon Γ d ex = true) : QE X b ex (ev c E (.con d)) ∧ QT X b ex (ev c E (.con d)) := by
  have e : ev c E (.con d) = fun _ S Q => Q d S := by funext env S Q; rw [ev]
  rw [e]
  cases ex with
  | Constant cv j p =>
    cases cv with
    | int i =>
      have := D.same_eq h; subst this
      exact both (qe_con pe_int fun F μ => .int i) rfl
    | str x =>
      simp only [okCon, Bool.and_eq_true, decide_eq_true_eq] at h
      have := D.same_eq h.1.1; subst this
      exact both (qe_con pe_str fun F μ => .str ⟨by have := h.1.2; rw [sizeLine_eq]; omega, h.2⟩) rfl
    | bool q =>
      have := D.same_eq h; subst this
      exact both (qe_con pe_bl fun F μ => .bl q) rfl
    | none =>
      have := D.same_eq h; subst this
      exact both (qe_con pe_non fun F μ => .non) rfl
    | _ => cases h
  | Name x p =>
    simp only [okCon] at h
    split at h
    · rename_i d' hd
      simp only [Bool.and_eq_true, Bool.not_eq_true'] at h
      have := D.same_eq h.1.1; subst this
      obtain ⟨u, v, hm, rv, rd⟩ := s.cns x d hd
      exact both (qe_con (pe_glob (s.gl h.1.2) hm rv h.2) rd) rfl
    · cases h
  | _ => cases h
end
end
end Mp

set_option Elab.async false
set_option linter.all false
set_option maxRecDepth 100000
set_option maxHeartbeats 2000000
/-! M, part 16c: the check is sound: calls, comprehensions. -/
namespace Mp
open PySem PySem.Spec PyProof.Rows L2
section
variable {o : Ok} {Γ : Gm} {X : Cx} {b : MB} {ca : EC → Addr} {c : C} {k : Nat} {E : EK} {fa : FA}
theorem call_ok (O : Snd o) (s : Sat Γ X b.fa ca c k) (tk : TK Γ X b ca c E) {f : Nat} {dv : List D} {es : ME} {ex : Expr} (h : okCall o Γ f dv es ex = true) : QE X b ex (ev c E (.call f dv es)) ∧ QT X b ex (ev c E (.call f dv es)) := by
  have e : ev c E (.call f dv es) = fun env S Q => evL c E es env S fun xs S1 => c.call f (xs ++ dv) S1 Q fun e S2 => E e env S2 := by funext env S Q; rw [ev]
  rw [e]
  unfold okCall at h
  rw [Bool.and_eq_true, Bool.not_eq_true'] at h
  obtain ⟨h0, h⟩ := h
  split at h
  · rename_i x p y ys p2
    split at h
    · rename_i g dw hf
      simp only [Bool.and_eq_true, decide_eq_true_eq, Bool.not_eq_true'] at h
      obtain ⟨⟨⟨⟨⟨h1, h2⟩, h3⟩, h4⟩, h5⟩, h6⟩ := h
      have := sames_eq h2
      subst h1 this
      obtain ⟨q, hq, rfl, e2⟩ := fn_some hf
      obtain ⟨a, fd, ps, ds, dvs, hm, Fn, hk, hb, hd, hdv⟩ := s.fns q hq
      rw [e2] at Fn hdv
      have hs := noStars_of h5
      exact both (qe_call tk.tk Fn (s.room h0) (s.gl h3) hm hk hb hd hdv (O.l s tk h6) h4 (hs y List.mem_cons_self) (star_all (fun z hz => hs z (List.mem_cons_of_mem _ hz)) _ _)) rfl
    · cases h
  · cases h
theorem callv_ok (O : Snd o) (s : Sat Γ X b.fa ca c k) (tk : TK Γ X b ca c E) {i : Nat} {es : ME} {ex : Expr} (h : okCallv o Γ i es ex = true) : QE X b ex (ev c E (.callv i es)) ∧ QT X b ex (ev c E (.callv i es)) := by
  have e : ev c E (.callv i es) = fun env S Q => ∃ f, env[i]? = some (some (.fn f)) ∧ evL c E es env S fun xs S1 => c.call f xs S1 Q fun e S2 => E e env S2 := by funext env S Q; rw [ev]
  rw [e]
  unfold okCallv at h
  rw [Bool.and_eq_true, Bool.not_eq_true'] at h
  obtain ⟨h0, h⟩ := h
  split at h
  · rename_i x p y ys p2
    simp only [Bool.and_eq_true] at h
    obtain ⟨⟨⟨h1, h2⟩, h3⟩, h4⟩ := h
    obtain ⟨a1, a2, a3⟩ := at_of h1
    have hs := noStars_of h3
    exact both (qe_callv (fn := c.call) tk.tk (s.fnv h0) (s.room h0) (by rw [s.N]; exact a1) (s.vis h2) (O.l s tk h4) a2 a3 (hs y List.mem_cons_self) (star_all (fun z hz => hs z (List.mem_cons_of_mem _ hz)) _ _)) rfl
  · cases h
theorem blt_ok (O : Snd o) (s : Sat Γ X b.fa ca c k) (tk : TK Γ X b ca c E) {f : Blt} {m : Bool} {es : ME} {ex : Expr} (h : okBlt o Γ f es ex = true) : QE X b ex (ev c E (.blt f m es)) ∧ QT X b ex (ev c E (.blt f m es)) := by
  have e : ev c E (.blt f m es) = fun env S Q => evL c E es env S fun xs S1 => blt f m xs S1 Q := by funext env S Q; rw [ev]
  rw [e]
  unfold okBlt at h
  rw [Bool.and_eq_true] at h
  obtain ⟨h0, h⟩ := h
  split at h
  · rename_i x p y ys p2
    simp only [Bool.and_eq_true, decide_eq_true_eq] at h
    obtain ⟨⟨⟨⟨⟨rfl, h2⟩, h3⟩, h4⟩, h5⟩, h6⟩ := h
    have hs := noStars_of h5
    have ha := O.l s tk h6
    have hg := s.gl h4
    have hu := s.u65
    by_cases hstr : f = .str
    · subst hstr
      exact both (qe_callT qc_str hg (s.blt "str" (by decide)) bt_str ha (by decide) (by decide) hs) rfl
    have hc := s.calm (by simpa [hstr] using h0)
    cases f
    case len => exact both (qe_callB qc_len hg (s.blt "len" (by decide)) bt_len ha (by decide) (by decide) hs) rfl
    case abs => exact both (qe_callB qc_abs hg (s.blt "abs" (by decide)) bt_abs ha (by decide) (by decide) hs) rfl
    case max2 => exact both (qe_callB (qc_max2 hc) hg (s.blt "max" (by decide)) bt_max ha (by decide) (by decide) hs) rfl
    case min2 => exact both (qe_callB (qc_min2 hc hu) hg (s.blt "min" (by decide)) bt_min ha (by decide) (by decide) hs) rfl
    case max1 => exact both (qe_callB (qc_max1 hc hu) hg (s.blt "max" (by decide)) bt_max ha (by decide) (by decide) hs) rfl
    case min1 => exact both (qe_callB (qc_min1 hc hu) hg (s.blt "min" (by decide)) bt_min ha (by decide) (by decide) hs) rfl
    case sum => exact both (qe_callB (qc_sum hc) hg (s.blt "sum" (by decide)) bt_sum ha (by decide) (by decide) hs) rfl
    case all => exact both (qe_callB (qc_all hc) hg (s.blt "all" (by decide)) bt_all ha (by decide) (by decide) hs) rfl
    case any => exact both (qe_callB (qc_any hc) hg (s.blt "any" (by decide)) bt_any ha (by decide) (by decide) hs) rfl
    case int => exact both (qe_callT qc_int hg (s.blt "int" (by decide)) bt_int ha (by decide) (by decide) hs) rfl
    case str => exact both (qe_callT qc_str hg (s.blt "str" (by decide)) bt_str ha (by decide) (by decide) hs) rfl
    case list => exact both (qe_callT (qc_list m) hg (s.blt "list" (by decide)) bt_list ha (by decide) (by decide) hs) rfl
    case tuple => exact both (qe_callT qc_tuple hg (s.blt "tuple" (by decide)) bt_tuple ha (by decide) (by decide) hs) rfl
    case sorted => exact both (qe_callB (qc_sorted (by have := s.un; omega) m) hg (s.blt "sorted" (by decide)) bt_sorted ha (by decide) (by decide) hs) rfl
    case sortedR => cases h3
    case sortK => exact both (qe_callB (qc_sortK hc m) hg (s.blt "sorted" (by decide)) bt_sorted ha (by decide) (by decide) hs) rfl
  · cases h
theorem isi_ok (O : Snd o) (s : Sat Γ X b.fa ca c k) (tk : TK Γ X b ca c E) {t : TN} {a : ME} {ex : Expr} (h : okIsi o Γ t a ex = true) : QE X b ex (ev c E (.isi t a)) ∧ QT X b ex (ev c E (.isi t a)) := by
  have e : ev c E (.isi t a) = fun env S Q => ev c E a env S fun d S1 => ∃ k, isT t d = some k ∧ Q (.bl k) S1 := by funext env S Q; rw [ev]
  rw [e]
  unfold okIsi at h
  split at h
  · rename_i x p y z p2 p3
    simp only [Bool.and_eq_true, decide_eq_true_eq] at h
    obtain ⟨⟨⟨⟨⟨rfl, rfl⟩, h3⟩, h4⟩, h5⟩, h6⟩ := h
    have ha := (O.e s tk h6).1
    have hb : ∀ T : TN, X.mg (T.nm : Str) = none ∧ bootBuiltins (T.nm : Str) = some (.type T.nm) ∧ (T.nm : Str) ≠ "__name__" ∧ ((T.nm : Str) == ("__debug__" : Str)) = false := fun T => by
      cases T
      · exact ⟨s.blt "int" (by decide), bt_int, by decide, by decide⟩
      · exact ⟨s.blt "bool" (by decide), bt_bool, by decide, by decide⟩
      · exact ⟨s.blt "tuple" (by decide), bt_tuple, by decide, by decide⟩
      · exact ⟨s.blt "str" (by decide), bt_str, by decide, by decide⟩
      · exact ⟨s.blt "list" (by decide), bt_list, by decide, by decide⟩
    obtain ⟨b1, b2, b3, b4⟩ := hb t
    exact both (qe_isi ha (noStar_of h5) (s.gl h3) (s.blt "isinstance" (by decide)) (s.gl h4) b1 b2 b3 b4 (isT_kit t)) rfl
  · cases h
theorem con0_is {a : ME} (h : (match a with | .con (.int 0) => true | _ => false) = true) : a = .con (.int 0) := by
  split at h
  · rfl
  · cases h
theorem lrng_ok (O : Snd o) (s : Sat Γ X b.fa ca c k) (tk : TK Γ X b ca c E) {m : Bool} {a cc : ME} {ex : Expr} (h : okLrng o Γ a cc ex = true) : QE X b ex (ev c E (.lrng m a cc)) ∧ QT X b ex (ev c E (.lrng m a cc)) := by
  have e : ev c E (.lrng m a cc) = fun env S Q => ev c E a env S fun x S1 => ev c E cc env S1 fun y S2 => ∃ i j, x = .int i ∧ y = .int j ∧ RgOk i j ∧ mkL m (rngL i j) S2 Q := by funext env S Q; rw [ev]
  rw [e]
  unfold okLrng at h
  rw [Bool.and_eq_true, Bool.not_eq_true'] at h
  obtain ⟨h0, h⟩ := h
  split at h
  · simp only [Bool.and_eq_true, decide_eq_true_eq] at h
    obtain ⟨⟨⟨⟨⟨⟨rfl, rfl⟩, h3⟩, h4⟩, h5⟩, h6⟩, h7⟩ := h
    have := con0_is h6; subst this
    have e2 : ∀ Q : D → Store → Prop, ∀ env S, ev c E (.con (.int 0)) env S Q = Q (.int 0) S := fun Q env S => by rw [ev]
    simp only [e2]
    exact both (qe_lrng1 m (s.calm h0) (s.gl h3) (s.blt "list" (by decide)) (s.gl h4) (s.blt "range" (by decide)) (O.e s tk h7).1 (noStar_of h5)) rfl
  · simp only [Bool.and_eq_true, decide_eq_true_eq] at h
    obtain ⟨⟨⟨⟨⟨⟨⟨rfl, rfl⟩, h3⟩, h4⟩, h5⟩, h6⟩, h7⟩, h8⟩ := h
    exact both (qe_lrng2 m (s.calm h0) (s.gl h3) (s.blt "list" (by decide)) (s.gl h4) (s.blt "range" (by decide)) (O.e s tk h7).1 (O.e s tk h8).1 (noStar_of h5) (noStar_of h6)) rfl
  · cases h
theorem mth_ok (O : Snd o) (s : Sat Γ X b.fa ca c k) (tk : TK Γ X b ca c E) {f : Mth} {a es : ME} {ex : Expr} (h : okMth o Γ f a es ex = true) : QE X b ex (ev c E (.mth f a es)) ∧ QT X b ex (ev c E (.mth f a es)) := by
  have e : ev c E (.mth f a es) = fun env S Q => ev c E a env S fun x S1 => mTy S1 f x = true ∧ evL c E es env S1 fun xs S2 => mth f x xs S2 Q := by funext env S Q; rw [ev]
  rw [e]
  unfold okMth at h
  split at h
  · rename_i y x ap ys pos
    simp only [Bool.and_eq_true, decide_eq_true_eq] at h
    obtain ⟨⟨⟨⟨⟨⟨⟨rfl, h2⟩, h3⟩, h4⟩, h5⟩, h6⟩, h7⟩, h8⟩ := h
    have ho := (O.e s tk h6).1
    have ha := O.l s tk h7
    have hs := noStars_of h4
    have hn := noCallee_of h3
    have hu := s.u65
    have nil : ys = [] → ∀ S Q env, evL c E es env S Q = Q [] S := fun z S Q env => by
      subst z
      cases es <;> first | rfl | cases h8
    cases ys with
    | nil =>
      have e3 : ∀ S (Q : List D → Store → Prop) env, evL c E es env S Q = Q [] S := fun S Q env => nil rfl S Q env
      cases f <;> first | (exact absurd h2 (by decide)) | skip
      · simp only [e3]
        exact both (qe_mth0 PySem.F.plainAttrs_list PySem.F.slot_list_pop PySem.F.type_list_pop qm_pop0 (fun H F μ S x dx w r t => tyV_seq w r (f := .pop0) (by decide) t) ho hn h5) rfl
      · simp only [e3]
        exact both (qe_bits ho hn h5) rfl
    | cons z zs =>
      have hz : (z :: zs).length < 30 := by rw [h2]; cases f <;> decide
      cases f <;> first | (exact absurd h2 (Nat.succ_ne_zero _)) | skip
      · exact both (qe_mth PySem.F.plainAttrs_list PySem.F.slot_list_append PySem.F.type_list_append qm_append (fun H F μ S x dx w r t => tyV_seq w r (f := .append) (by decide) t) ho ha hn hs hz h5) rfl
      · exact both (qe_mth PySem.F.plainAttrs_list PySem.F.slot_list_extend PySem.F.type_list_extend qm_extend (fun H F μ S x dx w r t => tyV_seq w r (f := .extend) (by decide) t) ho ha hn hs hz h5) rfl
      · exact both (qe_mth PySem.F.plainAttrs_list PySem.F.slot_list_pop PySem.F.type_list_pop qm_pop1 (fun H F μ S x dx w r t => tyV_seq w r (f := .pop1) (by decide) t) ho ha hn hs hz h5) rfl
      · exact both (qe_mth PySem.F.plainAttrs_list PySem.F.slot_list_index PySem.F.type_list_index (qm_index hu) (fun H F μ S x dx w r t => tyV_seq w r (f := .index) (by decide) t) ho ha hn hs hz h5) rfl
      · exact both (qe_mth PySem.F.plainAttrs_list PySem.F.slot_list_count PySem.F.type_list_count (qm_count hu) (fun H F μ S x dx w r t => tyV_seq w r (f := .count) (by decide) t) ho ha hn hs hz h5) rfl
  · cases h

/-! ### comprehensions -/
theorem takes_never {X : Cx} {b : MB} : L2N.Takes X (WXof X.K b ca fun _ _ _ => False) := fun u s' ⟨a, B, sI, pins, σ, H, cls, d, _, _, _, _, _, _, _, _, w⟩ => by
  obtain ⟨F, μ, env, S, e, _, _, h⟩ := w
  exact h.elim
theorem src_ok {e : Expr} (h : okSrc e = true) (env : Env) (x : Value) : foldedSetIterable e env x = pure x := by
  cases e <;> first | rfl | cases h
theorem tests_ok (O : Snd o) {Δ : Gm} {X : Cx} (s : Sat Δ X fa ca c k) (h0 : Δ.hot = false) {m : ME} {ifs : List Expr} (h : okTests o Δ m ifs = true) : PTs X ifs (liftTX X.K fa (ev c (fun _ _ _ => False) m)) := by
  unfold okTests at h
  split at h
  · have : m = .yes := by cases m <;> first | rfl | cases h
    subst this
    refine ⟨fun pins s σ H Q I hw => ?_⟩
    obtain ⟨b, hb, F, μ, env, S, Q', a, q, _, kk⟩ := hw
    rw [ev] at q
    exact (pts_nil (X := X)).run pins s σ H Q I (kk true H ⟨F, μ, .bl true, S, .refl, a.wi, rfl, q⟩)
  · refine pts_one (ptX fun b' hb' => ?_)
    subst hb'
    exact (O.e s ⟨takes_never, .cold h0⟩ h).2
  · cases h
theorem elt_ok (O : Snd o) {Δ : Gm} {X : Cx} (s : Sat Δ X fa ca c k) (h0 : Δ.hot = false) {m : ME} {e : Expr} (h : o.e Δ m e = true) : PE X e (liftX X.K fa (ev c (fun _ _ _ => False) m)) := by
  refine peX fun b' hb' => ?_
  subst hb'
  exact (O.e s ⟨takes_never, .cold h0⟩ h).1
theorem own_is (own : List Nat) (N : List Str) : (own.map fun i => (N.getD i "", i)).map (·.2) = own := by
  rw [List.map_map]
  exact List.map_id own
/-- a comprehension by its reading: as a value, and stored at once -/
theorem lc_parts (O : Snd o) (s : Sat Γ X b.fa ca c k) (tk : TK Γ X b ca c E) {m : Bool} {own : List Nat} {t : MT} {it kk r : ME} {ex : Expr} (h : okLc o Γ own t it kk r ex = true) :
    ∃ te, PE X ex te ∧ (∀ σ H (Q Q' : VK), (∀ v H, Q v H → Q' v H) → te σ H Q → te σ H Q') ∧
      (∀ {i : Nat} {y : Str} {py spos : Pos}, X.N[i]? = some y → X.env.scope.names.lookup y = some .local → swapsWith ex (some (.Name y py)) spos.line X.env = pure true → PS X (.Assign [.Name y py] ex spos) (tAsg te (gName i))) ∧
      ∀ F μ env S Q σ H, At X.K b F μ S H env σ → ev c E (.lc m own t it kk r) env S Q → te σ H (PostH X.K b F μ Q) := by
  have e : ev c E (.lc m own t it kk r) = fun env S Q => evI c E it env S fun s S1 => ∃ xs, srcL S1 s = some xs ∧
    genL (turn1 own t env (ev c (fun _ _ _ => False) kk) (evG c r) s xs) xs S1 [] fun zs S9 => mkL m zs S9 Q := by funext env S Q; rw [ev]
  have eg : ∀ m', evG c (.gend m') = wGend (ev c (fun _ _ _ => False) m') := fun m' => by funext env S acc Q; rw [evG]
  have ef : ∀ t1 own1 it1 k1 r1, evG c (.gfor t1 own1 it1 k1 r1) = wGfor own1 t1 (evI c (fun _ _ _ => False) it1) (ev c (fun _ _ _ => False) k1) (evG c r1) := fun t1 own1 it1 k1 r1 => by funext env S acc Q; rw [evG]
  rw [e]
  unfold okLc at h
  rw [Bool.and_eq_true, Bool.not_eq_true'] at h
  obtain ⟨h0, h⟩ := h
  split at h
  · rename_i elt tg iter ifs scope pos
    simp only [Bool.and_eq_true, List.all_eq_true, List.contains_iff_mem] at h
    obtain ⟨⟨⟨⟨⟨⟨h1, h2⟩, h3⟩, h4⟩, h5⟩, h6⟩, h7⟩ := h
    have hr : ∃ m', r = .gend m' ∧ o.e (Γ.blk scope) m' elt = true := by cases r <;> first | exact ⟨_, rfl, h7⟩ | cases h7
    obtain ⟨m', rfl, h7⟩ := hr
    have hb := blkOk_by (own := own.map fun i => (Γ.N.getD i "", i)) h3
    rw [← s.N, ← s.sc] at hb
    have hi := O.i s tk h1
    have hsl : ∀ i ∈ slots t, i ∈ (own.map fun i => (X.N.getD i "", i)).map (·.2) := fun i hi => by rw [own_is]; exact h4 i hi
    have hg : (∀ (s0 : Shared) (H : Hp) (C : Addr) (cl : List (Str × Addr)) (fp : List Addr), PG (X.blk s0 H scope (compEnvC scope cl C X.env) fp) tg (gT X.K t)) := fun s0 H C cl fp => pg_ok (s.blk scope s0 H C cl fp) h5
    have ht : (∀ (s0 : Shared) (H : Hp) (C : Addr) (cl : List (Str × Addr)) (fp : List Addr), PTs (X.blk s0 H scope (compEnvC scope cl C X.env) fp) ifs (liftTX X.K b.fa (ev c (fun _ _ _ => False) kk))) := fun s0 H C cl fp => tests_ok O (s.blk scope s0 H C cl fp) h0 h6
    have he : (∀ (s0 : Shared) (H : Hp) (C : Addr) (cl : List (Str × Addr)) (fp : List Addr), PE (X.blk s0 H scope (compEnvC scope cl C X.env) fp) elt (liftX X.K b.fa (ev c (fun _ _ _ => False) m'))) := fun s0 H C cl fp => elt_ok O (s.blk scope s0 H C cl fp) h0 h7
    have L := lc_ok (m := m) (pos := pos) (s.calm h0) s.nd hi hb hsl hg ht he (fun x => src_ok h2 _ x)
    rw [own_is] at L
    refine ⟨_, L.1, fun σ H Q Q' kq hq => lc_mono kq liftI_mono hq, fun {i y py spos} h8 h9 h10 => ?_, fun F μ env S Q σ H a hw => L.2 F μ env S Q σ H a (by rw [eg] at hw; exact hw)⟩
    have := ps_setLc (i := i) (y := y) (py := py) (spos := spos) (pos := pos) (s.calm h0) s.nd h8 h9 h10 hi.pi hb hg ht he (fun x => src_ok h2 _ x)
    rw [own_is] at this
    exact this
  · rename_i elt tg iter ifs tg1 iter1 ifs1 scope pos
    simp only [Bool.and_eq_true, List.all_eq_true, List.contains_iff_mem] at h
    obtain ⟨⟨⟨⟨⟨⟨h1, h2⟩, h3⟩, h4⟩, h5⟩, h6⟩, h7⟩ := h
    have hr : ∃ t1 own1 it1 k1 r1, r = .gfor t1 own1 it1 k1 r1 := by cases r <;> first | exact ⟨_, _, _, _, _, rfl⟩ | cases h7
    obtain ⟨t1, own1, it1, k1, r1, rfl⟩ := hr
    simp only [Bool.and_eq_true, List.all_eq_true, List.contains_iff_mem] at h7
    obtain ⟨⟨⟨⟨⟨⟨g1, g2⟩, g3⟩, g4⟩, g5⟩, g6⟩, g7⟩ := h7
    have hr : ∃ m', r1 = .gend m' ∧ o.e (Γ.blk scope) m' elt = true := by cases r1 <;> first | exact ⟨_, rfl, g7⟩ | cases g7
    obtain ⟨m', rfl, g7⟩ := hr
    have hb := blkOk_by (own := own.map fun i => (Γ.N.getD i "", i)) h3
    rw [← s.N, ← s.sc] at hb
    have hi := O.i s tk h1
    have hsl : ∀ i ∈ slots t, i ∈ (own.map fun i => (X.N.getD i "", i)).map (·.2) := fun i hi => by rw [own_is]; exact h4 i hi
    have hv : ∀ i ∈ own1, i ∈ (own.map fun i => (X.N.getD i "", i)).map (·.2) := fun i hi => by rw [own_is]; exact g3 i hi
    have hg : (∀ (s0 : Shared) (H : Hp) (C : Addr) (cl : List (Str × Addr)) (fp : List Addr), PG (X.blk s0 H scope (compEnvC scope cl C X.env) fp) tg (gT X.K t)) := fun s0 H C cl fp => pg_ok (s.blk scope s0 H C cl fp) h5
    have ht : (∀ (s0 : Shared) (H : Hp) (C : Addr) (cl : List (Str × Addr)) (fp : List Addr), PTs (X.blk s0 H scope (compEnvC scope cl C X.env) fp) ifs (liftTX X.K b.fa (ev c (fun _ _ _ => False) kk))) := fun s0 H C cl fp => tests_ok O (s.blk scope s0 H C cl fp) h0 h6
    have hg1 : (∀ (s0 : Shared) (H : Hp) (C : Addr) (cl : List (Str × Addr)) (fp : List Addr), PG (X.blk s0 H scope (compEnvC scope cl C X.env) fp) tg1 (gT X.K t1)) := fun s0 H C cl fp => pg_ok (s.blk scope s0 H C cl fp) g5
    have ht1 : (∀ (s0 : Shared) (H : Hp) (C : Addr) (cl : List (Str × Addr)) (fp : List Addr), PTs (X.blk s0 H scope (compEnvC scope cl C X.env) fp) ifs1 (liftTX X.K b.fa (ev c (fun _ _ _ => False) k1))) := fun s0 H C cl fp => tests_ok O (s.blk scope s0 H C cl fp) h0 g6
    have hi1 : ∀ (s0 : Shared) (H : Hp) (C : Addr) (cl : List (Str × Addr)) (fp : List Addr), PI (X.blk s0 H scope (compEnvC scope cl C X.env) fp) tg1 iter1 (liftIX X.K b.fa (evI c (fun _ _ _ => False) it1)) := fun s0 H C cl fp =>
      piX fun b' hb' => by
        have s2 := s.blk scope s0 H C cl fp
        rw [← hb'] at s2
        exact O.i s2 ⟨takes_never, .cold h0⟩ g1
    have he : (∀ (s0 : Shared) (H : Hp) (C : Addr) (cl : List (Str × Addr)) (fp : List Addr), PE (X.blk s0 H scope (compEnvC scope cl C X.env) fp) elt (liftX X.K b.fa (ev c (fun _ _ _ => False) m'))) := fun s0 H C cl fp => elt_ok O (s.blk scope s0 H C cl fp) h0 g7
    have L := lc2_ok (m := m) (pos := pos) (s.calm h0) s.nd hi hb hsl hv (fun i hi => g4 i hi) hg ht hi1 hg1 ht1 he (fun x => src_ok h2 _ x) (fun env x => src_ok g2 env x)
    rw [own_is] at L
    refine ⟨_, L.1, fun σ H Q Q' kq hq => lc2_mono kq liftI_mono hq, fun {i y py spos} h8 h9 h10 => ?_, fun F μ env S Q σ H a hw => L.2 F μ env S Q σ H a (by rw [ef, eg] at hw; exact hw)⟩
    have := ps_setLc2 (i := i) (y := y) (py := py) (spos := spos) (pos := pos) (s.calm h0) s.nd h8 h9 h10 hi.pi hb hv hg ht hi1 hg1 ht1 he (fun x => src_ok h2 _ x) (fun env x => src_ok g2 env x)
    rw [own_is] at this
    exact this
  · cases h
end
end Mp

set_option Elab.async false
set_option linter.all false
set_option maxRecDepth 100000
set_option maxHeartbeats 2000000
/-! M, part 16d: the check is sound: one level up. -/
namespace Mp
open PySem PySem.Spec PyProof.Rows L2
section
variable {o : Ok} {Γ : Gm} {X : Cx} {b : MB} {ca : EC → Addr} {c : C} {k : Nat} {E : EK} {fa : FA}
theorem part_ok (O : Snd o) (s : Sat Γ X b.fa ca c k) (tk : TK Γ X b ca c E) {m : ME} {ex : Option Expr} (h : okPart o Γ m ex = true) : QO X b ex (evO c E m) := by
  unfold okPart at h
  split at h
  · exact qo_none
  · rename_i a x
    have e : evO c E (.cons a .nil) = fun env S Q => ev c E a env S fun x S1 => ∃ i, x = .int i ∧ Q (some i) S1 := by funext env S Q; rw [evO]
    rw [e]
    exact qo_some (O.e s tk h).1
  · cases h
theorem lc_ok' (O : Snd o) (s : Sat Γ X b.fa ca c k) (tk : TK Γ X b ca c E) {m : Bool} {own : List Nat} {t : MT} {it kk r : ME} {ex : Expr} (h : okLc o Γ own t it kk r ex = true) : QE X b ex (ev c E (.lc m own t it kk r)) ∧ QT X b ex (ev c E (.lc m own t it kk r)) := by
  obtain ⟨te, h1, _, _, h4⟩ := lc_parts (m := m) O s tk h
  refine both (QE.of h1 h4) ?_
  unfold okLc at h
  rw [Bool.and_eq_true] at h
  obtain ⟨_, h⟩ := h
  split at h <;> first | rfl | cases h
theorem ss_ok' (O : Snd o) (s : Sat Γ X b.fa ca c k) (tk : TK Γ X b ca c E) {m : Bool} {own : List Nat} {t : MT} {it kk r : ME} {ex : Expr} (h : okSs o Γ own t it kk r ex = true) : QE X b ex (ev c E (.sset m own t it kk r)) ∧ QT X b ex (ev c E (.sset m own t it kk r)) := by
  have e : ev c E (.sset m own t it kk r) = fun env S Q => evI c E it env S fun s S1 => ∃ xs, srcL S1 s = some xs ∧
    genL (turnD own t env (ev c (fun _ _ _ => False) kk) (ev c (fun _ _ _ => False) r) s xs) xs S1 [] fun zs S9 => zs.length < 64 ∧ ∀ ys : List Int, (ys.map D.int).Perm zs → ys.Pairwise (· ≤ ·) → mkL m (ys.map .int) S9 Q := by funext env S Q; rw [ev]
  rw [e]
  unfold okSs at h
  rw [Bool.and_eq_true, Bool.not_eq_true'] at h
  obtain ⟨h0, h⟩ := h
  split at h
  · rename_i z zp kx vk vp tg iter ifs scope dp pos
    simp only [Bool.and_eq_true, List.all_eq_true, List.contains_iff_mem, decide_eq_true_eq] at h
    obtain ⟨⟨rfl, hgl⟩, ⟨⟨⟨⟨⟨h1, h2⟩, h3⟩, h4⟩, h5⟩, h6⟩, h7⟩ := h
    have hb := blkOk_by (own := own.map fun i => (Γ.N.getD i "", i)) h3
    rw [← s.N, ← s.sc] at hb
    have hi := O.i s tk h1
    have hsl : ∀ i ∈ slots t, i ∈ (own.map fun i => (X.N.getD i "", i)).map (·.2) := fun i hi => by rw [own_is]; exact h4 i hi
    have hg : (∀ (s0 : Shared) (H : Hp) (C : Addr) (cl : List (Str × Addr)) (fp : List Addr), PG (X.blk s0 H scope (compEnvC scope cl C X.env) fp) tg (gT X.K t)) := fun s0 H C cl fp => pg_ok (s.blk scope s0 H C cl fp) h5
    have ht : (∀ (s0 : Shared) (H : Hp) (C : Addr) (cl : List (Str × Addr)) (fp : List Addr), PTs (X.blk s0 H scope (compEnvC scope cl C X.env) fp) ifs (liftTX X.K b.fa (ev c (fun _ _ _ => False) kk))) := fun s0 H C cl fp => tests_ok O (s.blk scope s0 H C cl fp) h0 h6
    have he : (∀ (s0 : Shared) (H : Hp) (C : Addr) (cl : List (Str × Addr)) (fp : List Addr), PE (X.blk s0 H scope (compEnvC scope cl C X.env) fp) kx (liftX X.K b.fa (ev c (fun _ _ _ => False) r))) := fun s0 H C cl fp => elt_ok O (s.blk scope s0 H C cl fp) h0 h7
    have L := sset_ok (m := m) (p := zp) (pos := dp) (cpos := pos) (vpos := vp) (vk := vk) (s.gl hgl) (s.blt "sorted" (by decide)) (s.calm h0) s.nd hi hb hsl hg ht he (fun x => src_ok h2 _ x)
    rw [own_is] at L
    exact both L rfl
  · cases h
theorem ls_ok (O : Snd o) (s : Sat Γ X b.fa ca c k) (tk : TK Γ X b ca c E) {own : List Nat} {t : MT} {it kk r : ME} {ex : Expr} (h : okLs o Γ own t it kk r ex = true) : QE X b ex (ev c E (.lset own t it kk r)) ∧ QT X b ex (ev c E (.lset own t it kk r)) := by
  have e : ev c E (.lset own t it kk r) = fun env S Q => evI c E it env S fun s S1 => ∃ xs, srcL S1 s = some xs ∧
    genL (turnD own t env (ev c (fun _ _ _ => False) kk) (ev c (fun _ _ _ => False) r) s xs) xs S1 [] fun zs S9 => Q (.int (zs.length : Nat)) S9 := by funext env S Q; rw [ev]
  rw [e]
  unfold okLs at h
  rw [Bool.and_eq_true, Bool.not_eq_true'] at h
  obtain ⟨h0, h⟩ := h
  split at h
  · rename_i z zp kx vk vp tg iter ifs scope dp pos
    simp only [Bool.and_eq_true, List.all_eq_true, List.contains_iff_mem, decide_eq_true_eq] at h
    obtain ⟨⟨rfl, hgl⟩, ⟨⟨⟨⟨⟨h1, h2⟩, h3⟩, h4⟩, h5⟩, h6⟩, h7⟩ := h
    have hb := blkOk_by (own := own.map fun i => (Γ.N.getD i "", i)) h3
    rw [← s.N, ← s.sc] at hb
    have hi := O.i s tk h1
    have hsl : ∀ i ∈ slots t, i ∈ (own.map fun i => (X.N.getD i "", i)).map (·.2) := fun i hi => by rw [own_is]; exact h4 i hi
    have hg : (∀ (s0 : Shared) (H : Hp) (C : Addr) (cl : List (Str × Addr)) (fp : List Addr), PG (X.blk s0 H scope (compEnvC scope cl C X.env) fp) tg (gT X.K t)) := fun s0 H C cl fp => pg_ok (s.blk scope s0 H C cl fp) h5
    have ht : (∀ (s0 : Shared) (H : Hp) (C : Addr) (cl : List (Str × Addr)) (fp : List Addr), PTs (X.blk s0 H scope (compEnvC scope cl C X.env) fp) ifs (liftTX X.K b.fa (ev c (fun _ _ _ => False) kk))) := fun s0 H C cl fp => tests_ok O (s.blk scope s0 H C cl fp) h0 h6
    have he : (∀ (s0 : Shared) (H : Hp) (C : Addr) (cl : List (Str × Addr)) (fp : List Addr), PE (X.blk s0 H scope (compEnvC scope cl C X.env) fp) kx (liftX X.K b.fa (ev c (fun _ _ _ => False) r))) := fun s0 H C cl fp => elt_ok O (s.blk scope s0 H C cl fp) h0 h7
    have L := lset_ok (p := zp) (pos := dp) (cpos := pos) (vpos := vp) (vk := vk) (s.gl hgl) (s.blt "len" (by decide)) (s.calm h0) s.nd hi hb hsl hg ht he (fun x => src_ok h2 _ x)
    rw [own_is] at L
    exact both L rfl
  · cases h
theorem ns_ok (O : Snd o) (s : Sat Γ X b.fa ca c k) (tk : TK Γ X b ca c E) {a : ME} {ex : Expr} (h : okNs o Γ a ex = true) : QE X b ex (ev c E (.nset a)) ∧ QT X b ex (ev c E (.nset a)) := by
  rw [show ev c E (.nset a) = fun env S Q => ev c E a env S fun x S1 => ∃ ns : List Int, (x = .tup (ns.map .int) ∨ x = .lst (ns.map .int)) ∧ ns.length < 4000 ∧ Q (.int (nUn ns : Nat)) S1 from by funext env S Q; rw [ev]]
  unfold okNs at h
  rw [Bool.and_eq_true, Bool.not_eq_true'] at h
  obtain ⟨h0, h⟩ := h
  split at h
  · simp only [Bool.and_eq_true, decide_eq_true_eq] at h
    obtain ⟨⟨⟨⟨⟨rfl, rfl⟩, h1⟩, h2⟩, h3⟩, h4⟩ := h
    exact both (qe_nset (s.calm h0) (s.gl h1) (s.blt "len" (by decide)) (s.gl h2) (s.blt "set" (by decide)) (O.e s tk h4).1 (noStar_of h3)) rfl
  · cases h
theorem m1_of {X : Cx} {y z : Expr} {x : Str} {ap pos : Pos} (h1 : noCallee y = true) (h2 : noStar z = true) (h4 : (ap.endLine == pos.line) = true) : M1 X y x ap z pos := by
  have hs : ∀ e ∈ [z], NoStar e := by
    intro e he
    rw [List.mem_singleton.mp he]; exact noStar_of h2
  refine ⟨base_ok (noCallee_of h1), few_ok hs (by show 1 < 30; decide) pos X.env, h4, ?_⟩
  rw [star_cons (noStar_of h2)]
  rfl
theorem m2_of {X : Cx} {y z u : Expr} {x : Str} {ap pos : Pos} (h1 : noCallee y = true) (h2 : noStar z = true) (h3 : noStar u = true) (h4 : (ap.endLine == pos.line) = true) : M2 X y x ap z u pos := by
  have hs : ∀ e ∈ [z, u], NoStar e := by
    intro e he
    rcases List.mem_cons.mp he with rfl | he
    · exact noStar_of h2
    · rw [List.mem_singleton.mp he]; exact noStar_of h3
  refine ⟨base_ok (noCallee_of h1), few_ok hs (by show 2 < 30; decide) pos X.env, h4, ?_⟩
  rw [star_cons (noStar_of h2), star_cons (noStar_of h3)]
  rfl
theorem noSl_of {i : Expr} (h : noSlice i = true) : NoSl i := by cases i <;> first | (intro ov iv; rfl) | cases h
theorem e_ok (O : Snd o) (s : Sat Γ X b.fa ca c k) (tk : TK Γ X b ca c E) {m : ME} {ex : Expr} (h : okE o Γ m ex = true) : QE X b ex (ev c E m) ∧ QT X b ex (ev c E m) := by
  have hu := s.u65
  cases m with
  | var i =>
    cases ex <;> simp only [okE, Bool.and_eq_true] at h <;> first | (exact absurd h Bool.false_ne_true) | skip
    obtain ⟨a1, a2, a3⟩ := at_of h.1
    have e : ev c E (.var i) = fun env S Q => ∃ d, env[i]? = some (some d) ∧ Q d S := by funext env S Q; rw [ev]
    rw [e]
    exact both (qe_var (by rw [s.N]; exact a1) (s.vis h.2) a2 a3) rfl
  | con d => exact con_ok s h
  | bin op m a d =>
    cases ex <;> simp only [okE, Bool.and_eq_true, decide_eq_true_eq] at h <;> first | (exact absurd h Bool.false_ne_true) | skip
    obtain ⟨⟨rfl, h1⟩, h2⟩ := h
    rw [show ev c E (.bin _ m a d) = fun env S Q => ev c E a env S fun x S1 => ev c E d env S1 fun y S2 => bop _ m x y S2 Q from by funext env S Q; rw [ev]]
    exact both (qe_bin (q_bop _ m) (O.e s tk h1).1 (O.e s tk h2).1) rfl
  | neg a =>
    have : ∃ x p, ex = .UnaryOp .USub x p ∧ o.e Γ a x = true := by
      simp only [okE] at h
      split at h
      · exact ⟨_, _, rfl, h⟩
      · cases h
    obtain ⟨x, p, rfl, h⟩ := this
    rw [show ev c E (.neg a) = fun env S Q => ev c E a env S fun x S1 => ∃ i, x = .int i ∧ Q (.int (-i)) S1 from by funext env S Q; rw [ev]]
    exact both (qe_neg (O.e s tk h).1) rfl
  | not a =>
    have : ∃ x p, ex = .UnaryOp .Not x p ∧ o.e Γ a x = true := by
      simp only [okE] at h
      split at h
      · exact ⟨_, _, rfl, h⟩
      · cases h
    obtain ⟨x, p, rfl, h⟩ := this
    rw [show ev c E (.not a) = fun env S Q => ev c E a env S fun x S1 => tst S1 x fun k => Q (.bl (!k)) S1 from by funext env S Q; rw [ev]]
    exact ⟨qe_not (O.e s tk h).1, qt_not (O.e s tk h).2⟩
  | cmp op a d =>
    have : ∃ x y p, ex = .Compare x [op] [y] p ∧ o.e Γ a x = true ∧ o.e Γ d y = true ∧ behindInMarks op y = false := by
      simp only [okE] at h
      split at h
      · simp only [Bool.and_eq_true, decide_eq_true_eq, Bool.not_eq_true'] at h
        obtain ⟨⟨⟨rfl, h1⟩, h2⟩, h3⟩ := h
        exact ⟨_, _, _, rfl, h1, h2, h3⟩
      · cases h
    obtain ⟨x, y, p, rfl, h1, h2, h3⟩ := this
    rw [show ev c E (.cmp op a d) = fun env S Q => ev c E a env S fun x S1 => ev c E d env S1 fun y S2 => cop op x y S2 Q from by funext env S Q; rw [ev]]
    exact ⟨qe_cmp (q_cop hu op) (O.e s tk h1).1 (O.e s tk h2).1 h3, qt_cmp (q_cop hu op) (O.e s tk h1).1 (O.e s tk h2).1 h3⟩
  | ch2 o1 o2 a d g =>
    have : ∃ x y z p, ex = .Compare x [o1, o2] [y, z] p ∧ o.e Γ a x = true ∧ o.e Γ d y = true ∧ o.e Γ g z = true ∧ lastMarks [o1, o2] [y, z] = false := by
      simp only [okE] at h
      split at h
      · simp only [Bool.and_eq_true, decide_eq_true_eq, Bool.not_eq_true'] at h
        obtain ⟨⟨⟨⟨⟨rfl, rfl⟩, h1⟩, h2⟩, h3⟩, h4⟩ := h
        exact ⟨_, _, _, _, rfl, h1, h2, h3, h4⟩
      · cases h
    obtain ⟨x, y, z, p, rfl, h1, h2, h3, h4⟩ := this
    rw [show ev c E (.ch2 o1 o2 a d g) = fun env S Q => ev c E a env S fun x S1 => ev c E d env S1 fun y S2 => cop o1 x y S2 fun r S3 => ∃ k, r = .bl k ∧ if k = true then ev c E g env S3 fun z S4 => cop o2 y z S4 Q else Q (.bl false) S3 from by funext env S Q; rw [ev]]
    exact ⟨qe_ch2 (q_cop hu o1) (q_cop hu o2) (O.e s tk h1).1 (O.e s tk h2).1 (O.e s tk h3).1 h4, qt_ch2 (q_cop hu o1) (q_cop hu o2) (O.e s tk h1).1 (O.e s tk h2).1 (O.e s tk h3).1 h4⟩
  | ch3 o1 o2 o3 a d g l =>
    have : ∃ x y z u p, ex = .Compare x [o1, o2, o3] [y, z, u] p ∧ o.e Γ a x = true ∧ o.e Γ d y = true ∧ o.e Γ g z = true ∧ o.e Γ l u = true ∧ lastMarks [o1, o2, o3] [y, z, u] = false := by
      simp only [okE] at h
      split at h
      · simp only [Bool.and_eq_true, decide_eq_true_eq, Bool.not_eq_true'] at h
        obtain ⟨⟨⟨⟨⟨⟨⟨rfl, rfl⟩, rfl⟩, h1⟩, h2⟩, h3⟩, h4⟩, h5⟩ := h
        exact ⟨_, _, _, _, _, rfl, h1, h2, h3, h4, h5⟩
      · cases h
    obtain ⟨x, y, z, u, p, rfl, h1, h2, h3, h4, h5⟩ := this
    rw [show ev c E (.ch3 o1 o2 o3 a d g l) = fun env S Q => ev c E a env S fun x S1 => ev c E d env S1 fun y S2 => cop o1 x y S2 fun r S3 => ∃ k, r = .bl k ∧ if k = true then (ev c E g env S3 fun z S4 => cop o2 y z S4 fun r2 S5 => ∃ k2, r2 = .bl k2 ∧ if k2 = true then ev c E l env S5 fun u S6 => cop o3 z u S6 Q else Q (.bl false) S5) else Q (.bl false) S3 from by funext env S Q; rw [ev]]
    exact ⟨qe_ch3 (q_cop hu o1) (q_cop hu o2) (q_cop hu o3) (O.e s tk h1).1 (O.e s tk h2).1 (O.e s tk h3).1 (O.e s tk h4).1 h5, qt_ch3 (q_cop hu o1) (q_cop hu o2) (q_cop hu o3) (O.e s tk h1).1 (O.e s tk h2).1 (O.e s tk h3).1 (O.e s tk h4).1 h5⟩
  | isn ng a =>
    rw [show ev c E (.isn ng a) = fun env S Q => ev c E a env S fun x S1 => Q (.bl (isN ng x)) S1 from by funext env S Q; rw [ev]]
    simp only [okE] at h
    split at h
    · simp only [Bool.and_eq_true, Bool.not_eq_true'] at h
      obtain ⟨rfl, h⟩ := h
      exact ⟨qe_isnY (O.e s tk h).1, qt_isnY (O.e s tk h).1⟩
    · simp only [Bool.and_eq_true] at h
      obtain ⟨rfl, h⟩ := h
      exact ⟨qe_isnN (O.e s tk h).1, qt_isnN (O.e s tk h).1⟩
    · cases h
  | and a r =>
    rw [show ev c E (.and a r) = fun env S Q => ev c E a env S fun x S1 => tst S1 x fun k => if k = true then ev c E r env S1 Q else Q x S1 from by funext env S Q; rw [ev]]
    simp only [okE] at h
    split at h
    · simp only [Bool.and_eq_true] at h
      exact ⟨qe_and (O.e s tk h.1).1 (O.ba s tk h.2).1, (qw_and (O.e s tk h.1).2 (O.ba s tk h.2).2).qt⟩
    · cases h
  | or a r =>
    rw [show ev c E (.or a r) = fun env S Q => ev c E a env S fun x S1 => tst S1 x fun k => if k = true then Q x S1 else ev c E r env S1 Q from by funext env S Q; rw [ev]]
    simp only [okE] at h
    split at h
    · simp only [Bool.and_eq_true] at h
      exact ⟨qe_or (O.e s tk h.1).1 (O.bo s tk h.2).1, (qw_or (O.e s tk h.1).2 (O.bo s tk h.2).2).qt⟩
    · cases h
  | ite t a d =>
    rw [show ev c E (.ite t a d) = fun env S Q => ev c E t env S fun x S1 => tst S1 x fun k => if k = true then ev c E a env S1 Q else ev c E d env S1 Q from by funext env S Q; rw [ev]]
    simp only [okE] at h
    split at h
    · simp only [Bool.and_eq_true] at h
      exact ⟨qe_ite (O.e s tk h.1.1).2 (O.e s tk h.1.2).1 (O.e s tk h.2).1, qt_ite (O.e s tk h.1.1).2 (O.e s tk h.1.2).2 (O.e s tk h.2).2⟩
    · cases h
  | tup es =>
    rw [show ev c E (.tup es) = fun env S Q => evL c E es env S fun xs S1 => xs.length ≤ sizeLine ∧ Q (.tup xs) S1 from by funext env S Q; rw [ev]]
    simp only [okE] at h
    split at h
    · simp only [Bool.and_eq_true] at h
      exact both (qe_tup (O.l s tk h.2)) rfl
    · cases h
  | lst m es =>
    rw [show ev c E (.lst m es) = fun env S Q => evL c E es env S fun xs S1 => xs.length ≤ sizeLine ∧ mkL m xs S1 Q from by funext env S Q; rw [ev]]
    simp only [okE] at h
    split at h
    · simp only [Bool.and_eq_true] at h
      exact both (qe_lst m (O.l s tk h.2)) rfl
    · cases h
  | call f dv es => exact call_ok O s tk h
  | callv i es => exact callv_ok O s tk h
  | blt f m es => exact blt_ok O s tk h
  | isi t a => exact isi_ok O s tk h
  | lrng m a d => exact lrng_ok O s tk h
  | mth f a es => exact mth_ok O s tk h
  | idx a i =>
    rw [show ev c E (.idx a i) = fun env S Q => ev c E a env S fun x S1 => ev c E i env S1 fun y S2 => ∃ k d, y = .int k ∧ atD S2 x k = some d ∧ Q d S2 from by funext env S Q; rw [ev]]
    simp only [okE] at h
    split at h
    · simp only [Bool.and_eq_true] at h
      exact both (qe_idx (O.e s tk h.1.2).1 (O.e s tk h.2).1 (noSlice_of h.1.1)) rfl
    · cases h
  | slc m a lo hi =>
    rw [show ev c E (.slc m a lo hi) = fun env S Q => ev c E a env S fun x S1 => evO c E lo env S1 fun l S2 => evO c E hi env S2 fun h S3 => slD m x l h S3 Q from by funext env S Q; rw [ev]]
    simp only [okE] at h
    split at h
    · simp only [Bool.and_eq_true] at h
      exact both (qe_slc m (O.e s tk h.1.1).1 (part_ok O s tk h.1.2) (part_ok O s tk h.2)) rfl
    · cases h
  | rev m a =>
    rw [show ev c E (.rev m a) = fun env S Q => ev c E a env S fun x S1 => revD m x S1 Q from by funext env S Q; rw [ev]]
    simp only [okE] at h
    split at h
    · exact both (qe_rev m (O.e s tk h).1) rfl
    · cases h
  | lc m own t it kk r => exact lc_ok' O s tk h
  | sset m own t it kk r => exact ss_ok' O s tk h
  | lset own t it kk r => exact ls_ok O s tk h
  | nset a => exact ns_ok O s tk h
  | no =>
    rw [show ev c E .no = fun env S Q => False from by funext env S Q; rw [ev]]
    exact ⟨qe_no, qt_no⟩
  | dnew t =>
    rw [show ev c E (.dnew t) = fun env S Q => Q (.ref S.length) (S ++ [.dct t none []]) from by funext env S Q; rw [ev]]
    simp only [okE] at h
    split at h
    · exact both (qe_dnew t) rfl
    · cases h
  | ddis t k a =>
    rw [show ev c E (.ddis t k a) = fun env S Q => ev c (fun _ _ _ => False) k env S fun x S1 => ev c (fun _ _ _ => False) a env S1 fun y S2 => ∃ ks, dkey t x = some ks ∧ Q (.ref S2.length) (S2 ++ [.dct t none [(ks, y)]]) from by funext env S Q; rw [ev]]
    simp only [okE] at h
    split at h
    · simp only [Bool.and_eq_true, Bool.not_eq_true'] at h
      exact both (qe_ddis t (by omega) (elt_ok O s h.1.1 h.1.2) (elt_ok O s h.1.1 h.2)) rfl
    · cases h
  | dsub a k =>
    rw [show ev c E (.dsub a k) = fun env S Q => ev c E a env S fun x S1 => ev c E k env S1 fun y S2 => ∃ n t z kvs ks d, x = .ref n ∧ S2[n]? = some (.dct t z kvs) ∧ dkey t y = some ks ∧ valD kvs ks = some d ∧ Q d S2 from by funext env S Q; rw [ev]]
    simp only [okE] at h
    split at h
    · simp only [Bool.and_eq_true] at h
      exact both (qe_dsub (by omega) (O.e s tk h.1.2).1 (O.e s tk h.2).1 (noSl_of h.1.1)) rfl
    · cases h
  | dget a k d =>
    rw [show ev c E (.dget a k d) = fun env S Q => ev c E a env S fun x S1 => ∃ n t z kvs, x = .ref n ∧ S1[n]? = some (.dct t z kvs) ∧ ev c E k env S1 fun y S2 => ev c E d env S2 fun w S3 =>
      ∃ t z kvs ks, S3[n]? = some (.dct t z kvs) ∧ dkey t y = some ks ∧ Q ((valD kvs ks).getD w) S3 from by funext env S Q; rw [ev]]
    simp only [okE, okDm] at h
    split at h
    · simp only [Bool.and_eq_true, decide_eq_true_eq] at h
      obtain ⟨⟨⟨⟨⟨⟨⟨rfl, h1⟩, h2⟩, h3⟩, h4⟩, h5⟩, h6⟩, h7⟩ := h
      exact both (qe_dget (by omega) (O.e s tk h5).1 (O.e s tk h6).1 (O.e s tk h7).1 (m2_of h1 h2 h3 h4)) rfl
    · cases h
  | dsetd a k d =>
    rw [show ev c E (.dsetd a k d) = fun env S Q => ev c E a env S fun x S1 => ∃ n t z kvs, x = .ref n ∧ S1[n]? = some (.dct t z kvs) ∧ ev c E k env S1 fun y S2 => ev c E d env S2 fun w S3 =>
      ∃ t kvs ks, S3[n]? = some (.dct t none kvs) ∧ dkey t y = some ks ∧ kvs.length < sizeLine ∧ (∀ d, valD kvs ks = some d → Q d S3) ∧ (valD kvs ks = none → Q w (S3.set n (.dct t none (putD kvs ks w)))) from by funext env S Q; rw [ev]]
    simp only [okE, okDm] at h
    split at h
    · simp only [Bool.and_eq_true, decide_eq_true_eq] at h
      obtain ⟨⟨⟨⟨⟨⟨⟨rfl, h1⟩, h2⟩, h3⟩, h4⟩, h5⟩, h6⟩, h7⟩ := h
      exact both (qe_dsetd (by omega) (O.e s tk h5).1 (O.e s tk h6).1 (O.e s tk h7).1 (m2_of h1 h2 h3 h4)) rfl
    · cases h
  | dupd a k =>
    rw [show ev c E (.dupd a k) = fun env S Q => ev c E a env S fun x S1 => ∃ n t z kvs, x = .ref n ∧ S1[n]? = some (.dct t z kvs) ∧ ev c E k env S1 fun y S2 =>
      ∃ n2 t kvs z2 more, y = .ref n2 ∧ n ≠ n2 ∧ S2[n]? = some (.dct t none kvs) ∧ S2[n2]? = some (.dct t z2 more) ∧ kvs.length + more.length ≤ sizeLine ∧ (kvs ≠ [] ∨ more.length ≤ 1) ∧ Q .non (S2.set n (.dct t none (mergeD kvs more))) from by funext env S Q; rw [ev]]
    simp only [okE, okDu] at h
    split at h
    · simp only [Bool.and_eq_true, decide_eq_true_eq] at h
      obtain ⟨⟨⟨⟨⟨rfl, h1⟩, h2⟩, h3⟩, h5⟩, h6⟩ := h
      exact both (qe_dupd (by omega) (O.e s tk h5).1 (O.e s tk h6).1 (m1_of h1 h2 h3)) rfl
    · cases h
  | din ng k a =>
    rw [show ev c E (.din ng k a) = fun env S Q => ev c E k env S fun y S1 => ev c E a env S1 fun x S2 => dinR ng y x S2 Q from by funext env S Q; rw [ev]; rfl]
    simp only [okE] at h
    split at h
    · simp only [Bool.and_eq_true, decide_eq_true_eq, Bool.not_eq_true'] at h
      obtain ⟨⟨⟨rfl, h1⟩, h2⟩, h3⟩ := h
      exact ⟨qe_cmp (q_din (by omega) ng) (O.e s tk h1).1 (O.e s tk h2).1 h3, qt_cmp (q_din (by omega) ng) (O.e s tk h1).1 (O.e s tk h2).1 h3⟩
    · cases h
  | isE kd a =>
    rw [show ev c E (.isE kd a) = fun env S Q => ev c E a env S fun x S1 => x = .fn xno ∧ ∃ e0, c.hot = some e0 ∧ Q (.bl (decide (kd = .cave) || decide (e0.cls = kd))) S1 from by funext env S Q; rw [ev]]
    simp only [okE] at h
    split at h
    · rename_i x p y z p2 p3
      simp only [Bool.and_eq_true, decide_eq_true_eq, Bool.not_eq_true', Bool.or_eq_true] at h
      obtain ⟨⟨⟨⟨⟨⟨⟨⟨h0, rfl⟩, h2⟩, h3⟩, hcm⟩, h4⟩, h5⟩, h6⟩, h7⟩ := h
      obtain ⟨hb1, hb2, e0, hc, p, dd, hE, hT, hX, hno, hk⟩ := tk.hb h0
      have hz : X.mg z = some (.ref (ca kd)) := by
        rcases h4 with h4 | ⟨rfl, rfl⟩
        · exact hb1 _ _ h4
        · exact hb2
      have e1 : (fun env S (Q : MK) => ev c E a env S fun x S1 => x = .fn xno ∧ ∃ e0, c.hot = some e0 ∧ Q (.bl (decide (kd = .cave) || decide (e0.cls = kd))) S1) = fun env S Q => ev c E a env S fun x S1 => x = .fn xno ∧ Q (.bl (decide (kd = .cave) || decide (e0.cls = kd))) S1 := by
        funext env S Q
        congr 1
        funext x S1
        rw [hc]
        simp
      rw [e1]
      exact both (qe_isE (C' := ca kd) hE hT (O.e s tk h7).1 (noStar_of h6) (s.gl h2) (s.blt "isinstance" (by decide)) (s.gl h3) hz h5 (hk kd hcm)) rfl
    · cases h
  | fldE f a =>
    rw [show ev c E (.fldE f a) = fun env S Q => ev c E a env S fun x S1 => x = .fn xno ∧ ∃ e0, c.hot = some e0 ∧ f = e0.cls.fld ∧ Q e0.arg S1 from by funext env S Q; rw [ev]]
    simp only [okE] at h
    split at h
    · rename_i y g p0
      simp only [Bool.and_eq_true, decide_eq_true_eq] at h
      obtain ⟨⟨⟨h0, rfl⟩, h2⟩, h3⟩ := h
      obtain ⟨hb1, hb2, e0, hc, p, dd, hE, hT, hX, hno, hk⟩ := tk.hb h0
      by_cases hf : g = e0.cls.fld
      · subst hf
        have e1 : (fun env S (Q : MK) => ev c E a env S fun x S1 => x = .fn xno ∧ ∃ e1, c.hot = some e1 ∧ e0.cls.fld = e1.cls.fld ∧ Q e1.arg S1) = fun env S Q => ev c E a env S fun x S1 => x = .fn xno ∧ Q e0.arg S1 := by
          funext env S Q
          congr 1
          funext x S1
          rw [hc]
          simp
        rw [e1]
        exact both (qe_fldE hE hX hno (O.e s tk h3).1 (base_ok (noCallee_of h2))) rfl
      · have hB : attributeBase y g X.env (eval y X.env) = eval y X.env := base_ok (noCallee_of h2)
        refine both ⟨fun pins s1 σ H F μ env S Q I a0 hw => ?_⟩ rfl
        refine attr_of hB (thn ((O.e s tk h3).1.run pins s1 σ H F μ env S _ I a0 hw) fun u s2 ⟨y2, H1, F1, μ1, dy, S1, I1, rv, e1, w1, r1, ey, e2, he2, hf2, _⟩ => ?_)
        rw [hc] at he2
        cases he2
        exact absurd hf2 hf
    · cases h
  | _ => cases h
theorem l_ok (O : Snd o) (s : Sat Γ X b.fa ca c k) (tk : TK Γ X b ca c E) {m : ME} {es : List Expr} (h : okL o Γ m es = true) : QA X b es (evL c E m) := by
  unfold okL at h
  split at h
  · rw [show evL c E .nil = fun _ S Q => Q [] S from by funext env S Q; rw [evL]]
    exact qa_nil
  · rename_i a r x xs
    simp only [Bool.and_eq_true] at h
    rw [show evL c E (.cons a r) = fun env S Q => ev c E a env S fun x S1 => evL c E r env S1 fun xs S2 => Q (x :: xs) S2 from by funext env S Q; rw [evL]]
    exact qa_cons (O.e s tk h.1.1).1 (O.l s tk h.2) (noStar_of h.1.2)
  · cases h
theorem ba_ok (O : Snd o) (s : Sat Γ X b.fa ca c k) (tk : TK Γ X b ca c E) {m : ME} {es : List Expr} {pos : Pos} (h : okBA o Γ m es = true) : QE X b (.BoolOp .And es pos) (ev c E m) ∧ QW X b (.BoolOp .And es pos) (ev c E m) := by
  unfold okBA at h
  split at h
  · exact ⟨qe_one (O.e s tk h).1, qw_and1 (O.e s tk h).2⟩
  · split at h
    · rename_i a r
      simp only [Bool.and_eq_true] at h
      rw [show ev c E (.and a r) = fun env S Q => ev c E a env S fun x S1 => tst S1 x fun k => if k = true then ev c E r env S1 Q else Q x S1 from by funext env S Q; rw [ev]]
      exact ⟨qe_and (O.e s tk h.1).1 (O.ba s tk h.2).1, qw_and (O.e s tk h.1).2 (O.ba s tk h.2).2⟩
    · cases h
  · cases h
theorem bo_ok (O : Snd o) (s : Sat Γ X b.fa ca c k) (tk : TK Γ X b ca c E) {m : ME} {es : List Expr} {pos : Pos} (h : okBO o Γ m es = true) : QE X b (.BoolOp .Or es pos) (ev c E m) ∧ QW X b (.BoolOp .Or es pos) (ev c E m) := by
  unfold okBO at h
  split at h
  · exact ⟨qe_one (O.e s tk h).1, qw_or1 (O.e s tk h).2⟩
  · split at h
    · rename_i a r
      simp only [Bool.and_eq_true] at h
      rw [show ev c E (.or a r) = fun env S Q => ev c E a env S fun x S1 => tst S1 x fun k => if k = true then Q x S1 else ev c E r env S1 Q from by funext env S Q; rw [ev]]
      exact ⟨qe_or (O.e s tk h.1).1 (O.bo s tk h.2).1, qw_or (O.e s tk h.1).2 (O.bo s tk h.2).2⟩
    · cases h
  · cases h
theorem i_ok (O : Snd o) (s : Sat Γ X b.fa ca c k) (tk : TK Γ X b ca c E) {m : ME} {tg ex : Expr} (h : okI o Γ m tg ex = true) : QI X b tg ex (evI c E m) := by
  unfold okI at h
  rw [Bool.and_eq_true, Bool.not_eq_true'] at h
  obtain ⟨h0, h⟩ := h
  have e0 : ∀ Q : D → Store → Prop, ∀ env S, ev c E (.con (.int 0)) env S Q = Q (.int 0) S := fun Q env S => by rw [ev]
  cases m with
  | itr a =>
    rw [show evI c E (.itr a) = fun env S Q => ev c E a env S fun x S1 => ∃ s, srcOf S1 x = some s ∧ Q s S1 from by funext env S Q; rw [evI]]
    exact qi_itr (s.calm h0) (O.e s tk h).1
  | keys a =>
    rw [show evI c E (.keys a) = fun env S Q => ev c E a env S fun x S1 => ∃ n t u kvs, x = .ref n ∧ S1[n]? = some (.dct t (some u) kvs) ∧ Q (.keys n u) S1 from by funext env S Q; rw [evI]]
    exact qi_keys (O.e s tk h).1
  | rng a d =>
    rw [show evI c E (.rng a d) = fun env S Q => ev c E a env S fun x S1 => ev c E d env S1 fun y S2 => ∃ i j, x = .int i ∧ y = .int j ∧ rOk i ∧ rOk j ∧ Q (.fix (rngL i j)) S2 from by funext env S Q; rw [evI]]
    simp only [okI0] at h
    split at h
    · simp only [Bool.and_eq_true, decide_eq_true_eq] at h
      obtain ⟨⟨⟨⟨rfl, h4⟩, h5⟩, h6⟩, h7⟩ := h
      have := con0_is h6; subst this
      simp only [e0]
      exact qi_rng1 (s.gl h4) (s.blt "range" (by decide)) (O.e s tk h7).1 (noStar_of h5)
    · simp only [Bool.and_eq_true, decide_eq_true_eq] at h
      obtain ⟨⟨⟨⟨⟨rfl, h4⟩, h5⟩, h6⟩, h7⟩, h8⟩ := h
      exact qi_rng2 (s.gl h4) (s.blt "range" (by decide)) (O.e s tk h7).1 (O.e s tk h8).1 (noStar_of h5) (noStar_of h6)
    · cases h
  | rngD a d =>
    rw [show evI c E (.rngD a d) = fun env S Q => ev c E a env S fun x S1 => ev c E d env S1 fun y S2 => ∃ i j, x = .int i ∧ y = .int j ∧ rOk i ∧ rOk j ∧ Q (.fix ((List.range (i - j).toNat).map fun k => D.int (i - (k : Nat)))) S2 from by funext env S Q; rw [evI]]
    simp only [okI0] at h
    split at h
    · simp only [Bool.and_eq_true, decide_eq_true_eq] at h
      obtain ⟨⟨⟨⟨⟨rfl, h4⟩, h5⟩, h6⟩, h7⟩, h8⟩ := h
      exact qi_rngD (s.gl h4) (s.blt "range" (by decide)) (O.e s tk h7).1 (O.e s tk h8).1 (noStar_of h5) (noStar_of h6)
    · cases h
  | zip2 a d =>
    rw [show evI c E (.zip2 a d) = fun env S Q => ev c E a env S fun x S1 => ev c E d env S1 fun y S2 => ∃ xs ys, (x = .tup xs ∨ x = .lst xs) ∧ (y = .tup ys ∨ y = .lst ys) ∧ Q (.fix (zipD xs ys)) S2 from by funext env S Q; rw [evI]]
    simp only [okI0] at h
    split at h
    · split at h
      · simp only [Bool.and_eq_true, decide_eq_true_eq] at h
        obtain ⟨⟨⟨⟨⟨rfl, h4⟩, h5⟩, h6⟩, h7⟩, h8⟩ := h
        exact qi_zipS (s.gl h4) (s.blt "zip" (by decide)) (O.e s tk h7).1 (O.e s tk h8).1 (noStar_of h5) (noStar_of h6)
      · cases h
    · cases h
  | enm a =>
    rw [show evI c E (.enm a) = fun env S Q => ev c E a env S fun x S1 => ∃ xs, (x = .tup xs ∨ x = .lst xs) ∧ Q (.fix (pairs 0 xs)) S1 from by funext env S Q; rw [evI]]
    simp only [okI0] at h
    split at h
    · split at h
      · simp only [Bool.and_eq_true, decide_eq_true_eq] at h
        obtain ⟨⟨⟨rfl, h4⟩, h5⟩, h7⟩ := h
        exact qi_enm (s.gl h4) (s.blt "enumerate" (by decide)) (O.e s tk h7).1 (noStar_of h5)
      · cases h
    · cases h
  | enl a =>
    rw [show evI c E (.enl a) = fun env S Q => ev c E a env S fun x S1 => ∃ n xs, x = .ref n ∧ S1[n]? = some (.lst xs) ∧ Q (.enl n) S1 from by funext env S Q; rw [evI]]
    simp only [okI0] at h
    split at h
    · split at h
      · simp only [Bool.and_eq_true, decide_eq_true_eq] at h
        obtain ⟨⟨⟨rfl, h4⟩, h5⟩, h7⟩ := h
        exact qi_enl (s.gl h4) (s.blt "enumerate" (by decide)) (O.e s tk h7).1 (noStar_of h5)
      · cases h
    · cases h
  | _ => cases h
theorem Snd.up (O : Snd o) : Snd o.up := ⟨fun s tk h => e_ok O s tk h, fun s tk h => l_ok O s tk h, fun s tk h => ba_ok O s tk h, fun s tk h => bo_ok O s tk h, fun s tk h => i_ok O s tk h⟩
theorem snd_at : ∀ n, Snd (Ok.at n)
  | 0 => snd_no
  | n + 1 => (snd_at n).up
end
end Mp

set_option Elab.async false
set_option linter.all false
set_option maxRecDepth 100000
set_option maxHeartbeats 2000000
/-! M, part 17: statements: the check, its soundness. -/
namespace Mp
open PySem PySem.Spec PyProof.Rows L2
def isComp : Expr → Bool
  | .ListComp _ _ _ _ => true
  | .SetComp _ _ _ _ => true
  | .DictComp _ _ _ _ _ => true
  | _ => false
theorem sw_no {e : Expr} (h : isComp e = false) (t : Option Expr) (l : Nat) (env : Env) : swapsWith e t l env = pure false := by
  cases e <;> first | rfl | cases h
/-- a comprehension that is stored at once -/
def swNow (Γ : Gm) (y : Str) (py : Pos) : Expr → Bool
  | .ListComp _ _ scope pos => Γ.lcl y && (py.line == pos.line) && !(scope.names.any fun p => p.1 == y && (p.2 == .local || p.2 == .cell))
  | _ => false
/-- which names a tuple's stores are swapped for -/
def swp (kind : Str → Option NameKind) (ts vs : List Expr) : Option (Option (List Str)) :=
  if (!(ts.length == 2 || ts.length == 3) || vs.length != ts.length) = true then some none
  else if (vs.any fun | .Starred .. => true | _ => false) = true then some none
  else
    let line := (ts.head?.map (·.pos.line)).getD 0
    let names := ts.filterMap fun
      | .Name id pos => if kind id == some .local && pos.line == line then some id else none
      | _ => none
    if (names.length != ts.length || names.eraseDups.length != names.length) = true then some none
    else if vs.all (foldedForSure 8) = true then some none
    else if vs.all (constantsAlone 8) = true then none
    else some (some names)
theorem swp_ok {env : Env} {ts vs : List Expr} {k k2 : Nat} {p p2 : Pos} (hk : env.scope.kind = .function) {r : Option (List Str)} (h : swp env.kindOf ts vs = some r) : swappedStores [.Tuple ts k p] (.Tuple vs k2 p2) env = pure r := by
  have hb : (env.blockKind != .function) = false := by
    have : env.blockKind = .function := by unfold Env.blockKind; rw [hk]; rfl
    rw [this]; rfl
  unfold swp at h
  unfold swappedStores
  simp only [hb, Bool.or_false] at h ⊢
  split at h
  · rename_i h1
    cases h
    simp only [h1, if_true]
  · rename_i h1
    simp only [h1, if_false]
    refine (if_neg Bool.false_ne_true).trans ?_
    split at h
    · rename_i h2
      cases h
      exact if_pos h2
    · rename_i h2
      refine (if_neg h2).trans ?_
      split at h
      · rename_i h3
        cases h
        exact if_pos h3
      · rename_i h3
        refine (if_neg h3).trans ?_
        split at h
        · rename_i h4
          cases h
          exact if_pos h4
        · rename_i h4
          refine (if_neg h4).trans ?_
          split at h
          · cases h
          · rename_i h5
            cases h
            exact if_neg h5
end Mp

set_option Elab.async false
set_option linter.all false
set_option maxRecDepth 100000
set_option maxHeartbeats 2000000
/-! M, part 17b: the check of statements. -/
namespace Mp
open PySem PySem.Spec PyProof.Rows L2
structure OkS where
  s : Gm → MS → Stmt → Bool
  b : Gm → MS → List Stmt → Bool
/-- t = e where the value may be a comprehension, a tuple of swapped stores, or anything else -/
def okSet (o : Ok) (Γ : Gm) (t : MT) (e : ME) (tg x : Expr) : Bool := match tg with
  | .Name y py => (match t with
    | .nm i => decide (Γ.N[i]? = some y) && (match isComp x with
      | false => Γ.loc y && o.e Γ e x
      | true => swNow Γ y py x && (match e with | .lc _ own t1 it k r => okLc o Γ own t1 it k r x | _ => false))
    | _ => false)
  | .Tuple ts _ _ => (match x with
    | .Tuple vs _ _ => (match swp Γ.kind ts vs with
      | some none => okT Γ t tg && o.e Γ e x
      | some (some _) => (match ts, vs, t, e with
        | [.Name y1 _, .Name y2 _], [v1, v2], .tp (.cons (.nm i) (.cons (.nm j) .nil)), .tup es => decide (Γ.N[i]? = some y1) && decide (Γ.N[j]? = some y2) && decide (i ≠ j) && Γ.lcl y1 && Γ.lcl y2 && !Γ.hot && decide (swp Γ.kind ts vs = some (some [y1, y2])) && o.l Γ es [v1, v2]
        | [.Name y1 _, .Name y2 _, .Name y3 _], [v1, v2, v3], .tp (.cons (.nm i) (.cons (.nm j) (.cons (.nm l) .nil))), .tup es => decide (Γ.N[i]? = some y1) && decide (Γ.N[j]? = some y2) && decide (Γ.N[l]? = some y3) && decide (i ≠ j) && decide (i ≠ l) && decide (j ≠ l) && Γ.lcl y1 && Γ.lcl y2 && Γ.lcl y3 && !Γ.hot && decide (swp Γ.kind ts vs = some (some [y1, y2, y3])) && o.l Γ es [v1, v2, v3]
        | _, _, _, _ => false)
      | none => false)
    | _ => !isComp x && okT Γ t tg && o.e Γ e x)
  | _ => false
def okTry (q : OkS) (Γ : Gm) (b : MS) (st : Stmt) : Bool := match st with
  | .Try body [.ExceptHandler (some (.Name x _)) (some n) [.Return (some (.Call (.Name f _) [.Name n' _] [] _)) _] _] [] [] _ =>
    !Γ.hot && decide (x = "CaveError") && decide (f = "_law_word") && decide (n' = n) && !(n == ("__debug__" : Str)) && !(n == ("__classdict__" : Str)) && Γ.lcl n && Γ.N.contains n && Γ.gl "CaveError" && Γ.gl "_law_word" && q.b Γ b body
  | _ => false
def okSt (o : Ok) (q : OkS) (Γ : Gm) (m : MS) (st : Stmt) : Bool := match m with
  | .exp e => (match st with | .Expr x _ => !isComp x && o.e Γ e x | _ => false)
  | .set t e => (match st with | .Assign [tg] x _ => okSet o Γ t e tg x | _ => false)
  | .aug i op e => (match st with | .AugAssign (.Name y _) op' x _ => decide (op' = op) && decide (Γ.N[i]? = some y) && Γ.loc y && o.e Γ e x | _ => false)
  | .sset a i e => (match st with | .Assign [.Subscript x y _] z _ => noSlice y && o.e Γ a x && o.e Γ i y && o.e Γ e z | _ => false)
  | .augs a i op e => (match st with | .AugAssign (.Subscript x y _) op' z _ => decide (op' = op) && noSlice y && o.e Γ a x && o.e Γ i y && o.e Γ e z | _ => false)
  | .no => true
  | .dput a i e => (match st with | .Assign [.Subscript x y _] z _ => !isComp z && noSlice y && o.e Γ a x && o.e Γ i y && o.e Γ e z | _ => false)
  | .daug a i op e => (match st with | .AugAssign (.Subscript x y _) op' z _ => decide (op' = op) && noSlice y && o.e Γ a x && o.e Γ i y && o.e Γ e z | _ => false)
  | .lckS _ s => q.s Γ s st
  | .ite c a b => (match st with | .If x xs ys _ => o.e Γ c x && q.b Γ a xs && q.b Γ b ys | _ => false)
  | .for t it b => (match st with | .For tg x xs [] _ => !Γ.hot && okT Γ t tg && o.i Γ it tg x && okSrc x && q.b Γ b xs | _ => false)
  | .whl c b => (match st with | .While x xs [] _ => o.e Γ c x && q.b Γ b xs | _ => false)
  | .ret e => (match st with | .Return (some x) _ => o.e Γ e x | _ => false)
  | .retN => (match st with | .Return none _ => true | _ => false)
  | .rse kd e => (match st with | .Raise (some (.Call (.Name x _) [y] [] _)) none _ => !Γ.hot && decide (Γ.ers.lookup x = some kd) && Γ.gl x && !(x == ("__debug__" : Str)) && noStar y && o.e Γ e y | _ => false)
  | .brk => (match st with | .Break _ => true | _ => false)
  | .cnt => (match st with | .Continue _ => true | _ => false)
  | .pss => (match st with | .Pass _ => true | .Expr (.Constant (.str _) _ _) _ => true | _ => false)
  | .tryw b => okTry q Γ b st
  | _ => false
def okSts (q : OkS) (Γ : Gm) (m : MS) (sts : List Stmt) : Bool := match m, sts with
  | .nil, [] => true
  | .cons s r, st :: rest => q.s Γ s st && q.b Γ r rest
  | _, _ => false
def OkS.no : OkS := ⟨fun _ _ _ => false, fun _ _ _ => false⟩
def OkS.up (o : Ok) (q : OkS) : OkS := ⟨okSt o q, okSts q⟩
def OkS.at (o : Ok) : Nat → OkS
  | 0 => .no
  | n + 1 => (OkS.at o n).up o

/-! ### the surroundings of statements -/
/-- the suite of the law's own except clause, read -/
def tsW (K : PySem.W.Frag) (b : MB) (ca : EC → Addr) (i : Nat) (a : Addr) (cls : Value) (d : Option Addr) : TS := fun De σ H => (∃ σ0 : L2.St, σ = σ0.set i (some (.ref a))) ∧
  ∃ F μ S e z, WI K b.fa F b.L μ S H ∧ RX K b.fa ca F μ e cls d ∧ wordOf e = some z ∧ ∀ H', WI K b.fa F b.L μ S H' → z.length ≤ sizeLine ∧ PyData.strOk z = true → De.rt (.str z) H'
def HotW (X : Cx) (b : MB) (ca : EC → Addr) : Prop := ∀ (i : Nat) (n : Str) (p p2 p3 q : Pos) (a : Addr) (oe : Obj) (cls : Value) (d : Option Addr) (pn : List (Addr × Obj)), X.N[i]? = some n → X.env.scope.names.lookup n = some .local → (n == ("__debug__" : Str)) = false → (n == ("__classdict__" : Str)) = false → Gl X "_law_word" → L2N.Zn cls d oe → (∃ vs, oe.data = .fields vs) →
  PSs (X.suite a ((a, oe) :: pn)) [.Return (some (.Call (.Name "_law_word" p) [.Name n q] [] p2)) p3] (tsW X.K b ca i a cls d)
structure SatS (Γ : Gm) (X : Cx) (b : MB) (ca : EC → Addr) (c : C) (k : Nat) : Prop extends Sat Γ X b.fa ca c k where
  pas : PassesOwn (model X.prog X.w) X.A X.env X.xe
  stk : X.stack = X.env :: X.outer
  frm : X.env.frame = some X.env.locals
  knd : Γ.sc.kind = .function
  ers : ∀ x kd, Γ.hot = false → Γ.ers.lookup x = some kd → ∃ fI, PySem.ErrX.ErrTxt X.prog X.K X.mg (ca kd) fI kd.fld ∧ X.mg x = some (.ref (ca kd)) ∧ kd ≠ .cmd
  cav : Γ.hot = false → Γ.gl "CaveError" = true → X.mg "CaveError" = some (.ref (ca .cave)) ∧ ∀ kd, kd ≠ .cmd → PySem.W.exmOne X.K (.ref (ca kd)) (.ref (ca .cave)) = some true
  hot : Γ.hot = false → Γ.gl "_law_word" = true → ∀ b' : MB, b'.fa = b.fa → HotW X b' ca
structure SndS (q : OkS) : Prop where
  s : ∀ {Γ : Gm} {X : Cx} {b : MB} {ca : EC → Addr} {c : C} {k : Nat} {E : EK} {m : MS} {st : Stmt}, SatS Γ X b ca c k → TK Γ X b ca c E → q.s Γ m st = true → QS X b st (ex c E m)
  b : ∀ {Γ : Gm} {X : Cx} {b : MB} {ca : EC → Addr} {c : C} {k : Nat} {E : EK} {m : MS} {sts : List Stmt}, SatS Γ X b ca c k → TK Γ X b ca c E → q.b Γ m sts = true → QSs X b sts (ex c E m)
theorem sndS_no : SndS OkS.no := ⟨fun _ _ h => Bool.noConfusion h, fun _ _ h => Bool.noConfusion h⟩
section
variable {o : Ok} {q : OkS} {Γ : Gm} {X : Cx} {b : MB} {ca : EC → Addr} {c : C} {k : Nat} {E : EK}
theorem sts_ok (Q : SndS q) (s : SatS Γ X b ca c k) (tk : TK Γ X b ca c E) {m : MS} {sts : List Stmt} (h : okSts q Γ m sts = true) : QSs X b sts (ex c E m) := by
  unfold okSts at h
  split at h
  · rw [show ex c E .nil = fun env S K => K.nx env S from by funext env S K; rw [ex]]
    exact qss_nil
  · rename_i m1 r st rest
    simp only [Bool.and_eq_true] at h
    rw [show ex c E (.cons m1 r) = fun env S K => ex c E m1 env S { K with nx := fun env1 S1 => ex c E r env1 S1 K } from by funext env S K; rw [ex]]
    exact qss_cons (Q.s s tk h.1) (Q.b s tk h.2)
  · cases h
theorem set_ok (O : Snd o) (s : SatS Γ X b ca c k) (tk : TK Γ X b ca c E) {t : MT} {e : ME} {tg x : Expr} {pos : Pos} (h : okSet o Γ t e tg x = true) :
    QS X b (.Assign [tg] x pos) (fun env S K => ev c E e env S fun d S1 => tgt t d env S1 fun env1 => K.nx env1 S1) := by
  have s' := s.toSat
  unfold okSet at h
  split at h
  · rename_i y py
    split at h
    · rename_i i
      simp only [Bool.and_eq_true, decide_eq_true_eq] at h
      obtain ⟨h1, h2⟩ := h
      have hi : X.N[i]? = some y := by rw [s.N]; exact h1
      split at h2
      · rename_i hc
        simp only [Bool.and_eq_true] at h2
        obtain ⟨l1, l2⟩ := s'.loc h2.1
        exact qs_set1 (O.e s' tk h2.2).1 s.nd hi l1 l2 (sw_no hc _ _ _)
      · rename_i hc
        simp only [Bool.and_eq_true] at h2
        obtain ⟨h2, h3⟩ := h2
        split at h3
        · rename_i m own t1 it kk r
          obtain ⟨te, _, h5, h6, h7⟩ := lc_parts (m := m) O s' tk h3
          have hsw : Γ.lcl y = true ∧ swapsWith x (some (.Name y py)) pos.line X.env = pure true := by
            cases x with
            | ListComp elt gs scope cp =>
              simp only [swNow, Bool.and_eq_true, Bool.not_eq_true'] at h2
              exact ⟨h2.1.1, sw_true (by rw [s.sc]; exact s.knd) (s'.lcl h2.1.1) h2.1.2 h2.2⟩
            | _ => cases h2
          exact qs_of (h6 hi (s'.lcl hsw.1) hsw.2) h7 h5
        · cases h3
    · cases h
  · rename_i ts k1 p1
    have hkind : X.env.kindOf = Γ.kind := by funext z; unfold Env.kindOf Gm.kind; rw [s.sc]
    have hfun : X.env.scope.kind = .function := by rw [s.sc]; exact s.knd
    have gen : ∀ (hk : isComp x = false) (hn : swappedStores [.Tuple ts k1 p1] x X.env = pure none), okT Γ t (.Tuple ts k1 p1) = true → o.e Γ e x = true → QS X b (.Assign [.Tuple ts k1 p1] x pos) (fun env S K => ev c E e env S fun d S1 => tgt t d env S1 fun env1 => K.nx env1 S1) := fun hk hn h1 h2 =>
      qs_set (O.e s' tk h2).1 (pg_ok s' h1) (sw_no hk (some (.Tuple ts k1 p1)) pos.line X.env) hn rfl
    split at h
    · rename_i vs k2 p2
      split at h
      · rename_i hs
        simp only [Bool.and_eq_true] at h
        exact gen rfl (swp_ok hfun (by rw [hkind]; exact hs)) h.1 h.2
      · split at h
        · rename_i y1 q1 y2 q2 v1 v2 i j es hsw
          simp only [Bool.and_eq_true, decide_eq_true_eq] at h
          obtain ⟨⟨⟨⟨⟨⟨⟨h1, h2⟩, h3⟩, h4⟩, h5⟩, h0⟩, h6⟩, h7⟩ := h
          have h0 : Γ.hot = false := by simpa using h0
          rw [show ev c E (.tup es) = fun env S Q => evL c E es env S fun xs S1 => xs.length ≤ sizeLine ∧ Q (.tup xs) S1 from by funext env S Q; rw [ev]]
          exact qs_par (s.calm h0) s.nd (by rw [s.N]; exact h1) (by rw [s.N]; exact h2) h3 (s'.lcl h4) (s'.lcl h5) (O.l s' tk h7) (swp_ok hfun (by rw [hkind]; exact h6)) rfl
        · rename_i y1 q1 y2 q2 y3 q3 v1 v2 v3 i j l es hsw
          simp only [Bool.and_eq_true, decide_eq_true_eq] at h
          obtain ⟨⟨⟨⟨⟨⟨⟨⟨⟨⟨⟨h1, h2⟩, h3⟩, h4⟩, h5⟩, h6⟩, h7⟩, h8⟩, h9⟩, h0⟩, h10⟩, h11⟩ := h
          have h0 : Γ.hot = false := by simpa using h0
          rw [show ev c E (.tup es) = fun env S Q => evL c E es env S fun xs S1 => xs.length ≤ sizeLine ∧ Q (.tup xs) S1 from by funext env S Q; rw [ev]]
          exact qs_par3 (s.calm h0) s.nd (by rw [s.N]; exact h1) (by rw [s.N]; exact h2) (by rw [s.N]; exact h3) h4 h5 h6 (s'.lcl h7) (s'.lcl h8) (s'.lcl h9) (O.l s' tk h11) (swp_ok hfun (by rw [hkind]; exact h10)) rfl
        · cases h
      · cases h
    · rename_i hnt
      simp only [Bool.and_eq_true, Bool.not_eq_true'] at h
      refine gen h.1.1 ?_ h.1.2 h.2
      cases x <;> first | rfl | exact absurd rfl (hnt _ _ _)
  · cases h

theorem try_ok (Q : SndS q) (s : SatS Γ X b ca c k) (tk : TK Γ X b ca c E) {m : MS} {st : Stmt} (h : okTry q Γ m st = true) : QS X b st (ex c E (.tryw m)) := by
  have e : ex c E (.tryw m) = fun env S K => ex c (fun e _ S1 => ∃ z, wordOf e = some z ∧ K.rt (.str z) S1) m env S K := by funext env S K; rw [ex]
  rw [e]
  unfold okTry at h
  split at h
  · rename_i body x np n f p n' q' p2 p3 pos' pos
    simp only [Bool.and_eq_true, decide_eq_true_eq] at h
    obtain ⟨⟨⟨⟨⟨⟨⟨⟨⟨⟨h0, rfl⟩, rfl⟩, rfl⟩, hd1⟩, hd2⟩, h4⟩, h5⟩, h6⟩, h7⟩, h8⟩ := h
    have hd1 : (n' == ("__debug__" : Str)) = false := by simpa using hd1
    have hd2 : (n' == ("__classdict__" : Str)) = false := by simpa using hd2
    have h0 : Γ.hot = false := by simpa using h0
    have s' := s.toSat
    obtain ⟨i, hi⟩ := List.getElem?_of_mem (List.contains_iff_mem.mp h5)
    have hN : X.N[i]? = some n' := by rw [s.N]; exact hi
    obtain ⟨cm, cx⟩ := s.cav h0 h6
    refine ps_imp (L2N.ps_try_as (i := i) (ts := fun a cls d De σ H => ∃ b' : MB, b'.fa = b.fa ∧ tsW X.K b' ca i a cls d De σ H)
      (tb := fun W => fun D σ H => ∃ (b' : MB) (E' : EK), b'.fa = b.fa ∧ (∀ cls d σ H, WXof X.K b' ca E' cls d σ H → W cls d σ H) ∧ liftS X.K b' (ex c E' m) D σ H) s.stk s.frm s.nd hN (s'.lcl h4) ⟨s'.gl h6, by decide, .inl cm⟩ tk.tk
      (fun W pn xe tkW hpas => ⟨fun pins s1 σ H D I ⟨b', E', hb, hE, hl⟩ => ?_⟩) (fun a oe cls d pn hz hf => ⟨fun pins s1 σ H D I ⟨b', hb, hl⟩ => (s.hot h0 h7 b' hb i n' p p2 p3 q' a oe cls d pn hN (s'.lcl h4) hd1 hd2 (s'.gl h7) hz hf).run pins s1 σ H D I hl⟩)) ?_
    · have sZ : Sat Γ X b'.fa ca c k := by rw [hb]; exact s'
      have sY : SatS Γ (X.tr pn xe) b' ca c k := ⟨⟨s.calm, s.nd, s.room, s.un, s.N, s.sc, s.own, sZ.fns, sZ.fnv, sZ.cns, s.blt⟩, hpas, s.stk, s.frm, s.knd, s.ers, s.cav, fun hh hg b2 hb2 => s.hot hh hg b2 (hb2.trans hb)⟩
      exact (Q.b (E := E') sY ⟨tkW.imp hE, .cold h0⟩ h8).run pins s1 σ H D I hl
    · rintro De σ H ⟨F, μ, env, S, M, a, hq, kk⟩
      have back : ∀ {P : DEnv → Store → Prop} {σ' H'}, PostS X.K ⟨b.fa, b.L, F, μ⟩ F μ P σ' H' → PostS X.K b F μ P σ' H' := fun ⟨F', μ', env', S', e', a', q'⟩ => ⟨F', μ', env', S', e', ⟨a'.wi, a'.re, a.ex.trans a'.ex⟩, q'⟩
      refine ⟨⟨b.fa, b.L, F, μ⟩, fun e _ S1 => ∃ z, wordOf e = some z ∧ M.rt (.str z) S1, rfl, fun cls d σ1 H1 hw => ?_, F, μ, env, S, M, ⟨a.wi, a.re, .refl⟩, hq, ⟨fun _ _ z => kk.nx _ _ (back z), fun _ _ z => kk.rt _ _ z, fun _ _ z => kk.bk _ _ (back z), fun _ _ z => kk.ct _ _ (back z)⟩⟩
      obtain ⟨F1, μ1, env1, S1, e1, a1, rx, z, hz, hr⟩ := hw
      have hcm : e1.cls ≠ .cmd := fun zz => by unfold wordOf at hz; rw [zz] at hz; cases hz
      refine ⟨true, by rw [rx.1]; exact cx _ hcm, fun _ a0 na => ?_, fun zz => by cases zz⟩
      exact ⟨⟨b.fa, b.L, F, μ⟩, rfl, ⟨σ1, rfl⟩, F1, μ1, S1, e1, z, a1.wi, rx, hz, fun H' w' hzz => kk.rt _ _ ⟨F1, μ1, .str z, S1, a1.ex, w', .str hzz, hr⟩⟩
  · cases h
end
end Mp

set_option Elab.async false
set_option linter.all false
set_option maxRecDepth 100000
set_option maxHeartbeats 2000000
/-! M, part 17c: the check of statements is sound. -/
namespace Mp
open PySem PySem.Spec PyProof.Rows L2
section
variable {o : Ok} {q : OkS} {Γ : Gm} {X : Cx} {b : MB} {ca : EC → Addr} {c : C} {k : Nat} {E : EK}
theorem st_ok (O : Snd o) (Q : SndS q) (s : SatS Γ X b ca c k) (tk : TK Γ X b ca c E) {m : MS} {st : Stmt} (h : okSt o q Γ m st = true) : QS X b st (ex c E m) := by
  have s' := s.toSat
  cases m with
  | exp e =>
    rw [show ex c E (.exp e) = fun env S K => ev c E e env S fun _ S1 => K.nx env S1 from by funext env S K; rw [ex]]
    simp only [okSt] at h
    split at h
    · simp only [Bool.and_eq_true, Bool.not_eq_true'] at h
      exact qs_exp (O.e s' tk h.2).1 (sw_no h.1 _ _ _)
    · cases h
  | set t e =>
    rw [show ex c E (.set t e) = fun env S K => ev c E e env S fun d S1 => tgt t d env S1 fun env1 => K.nx env1 S1 from by funext env S K; rw [ex]]
    simp only [okSt] at h
    split at h
    · exact set_ok O s tk h
    · cases h
  | aug i op e =>
    rw [show ex c E (.aug i op e) = fun env S K => ∃ x, env[i]? = some (some x) ∧ ev c E e env S fun y S1 => ∃ a d k, x = .int a ∧ y = .int d ∧ augI op a d = some k ∧ K.nx (env.set i (some (.int k))) S1 from by funext env S K; rw [ex]]
    simp only [okSt] at h
    split at h
    · simp only [Bool.and_eq_true, decide_eq_true_eq] at h
      obtain ⟨⟨⟨rfl, h2⟩, h3⟩, h4⟩ := h
      obtain ⟨l1, l2⟩ := s'.loc h3
      exact qs_aug s.nd (by rw [s.N]; exact h2) l1 (O.e s' tk h4).1 l2
    · cases h
  | sset a i e =>
    rw [show ex c E (.sset a i e) = fun env S K => ev c E e env S fun d S1 => ev c E a env S1 fun x S2 => ev c E i env S2 fun y S3 =>
      ∃ n xs k j, x = .ref n ∧ S3[n]? = some (.lst xs) ∧ y = .int k ∧ ixN xs.length k = some j ∧ K.nx env (S3.set n (.lst (xs.set j d))) from by funext env S K; rw [ex]]
    simp only [okSt] at h
    split at h
    · rename_i x y sp z pos
      simp only [Bool.and_eq_true] at h
      have hsw : swapsWithSole [.Subscript x y sp] z pos.line X.env = pure false := by
        show swapsWith z (some (.Subscript x y sp)) pos.line X.env = pure false
        cases z <;> rfl
      have hns := h.1.1.1
      exact qs_sset (O.e s' tk h.1.1.2).1 (O.e s' tk h.1.2).1 (O.e s' tk h.2).1 hsw rfl rfl (fun v => by cases y <;> first | rfl | cases hns)
    · cases h
  | augs a i op e =>
    rw [show ex c E (.augs a i op e) = fun env S K => ev c E a env S fun x S1 => ev c E i env S1 fun y S2 => ∃ n xs k j a, x = .ref n ∧ y = .int k ∧ S2[n]? = some (.lst xs) ∧ ixN xs.length k = some j ∧ xs[j]? = some (.int a) ∧
      ev c E e env S2 fun z S3 => ∃ d r ys l, z = .int d ∧ augI op a d = some r ∧ S3[n]? = some (.lst ys) ∧ ixN ys.length k = some l ∧ K.nx env (S3.set n (.lst (ys.set l (.int r)))) from by funext env S K; first | (rw [ex]; done) | (rw [ex]; rfl)]
    simp only [okSt] at h
    split at h
    · rename_i x y sp op' z pos
      simp only [Bool.and_eq_true, decide_eq_true_eq] at h
      obtain ⟨⟨⟨⟨rfl, hns⟩, h1⟩, h2⟩, h3⟩ := h
      exact qs_augs (O.e s' tk h1).1 (O.e s' tk h2).1 (O.e s' tk h3).1 (fun ov iv new => by cases y <;> first | rfl | cases hns)
    · cases h
  | no =>
    rw [show ex c E .no = fun env S K => False from by funext env S K; first | (rw [ex]; done) | (rw [ex]; rfl)]
    exact qs_no
  | dput a i e =>
    rw [show ex c E (.dput a i e) = fun env S K => ev c E e env S fun d S1 => ev c E a env S1 fun x S2 => ev c E i env S2 fun y S3 =>
      ∃ n t kvs ks, x = .ref n ∧ S3[n]? = some (.dct t none kvs) ∧ dkey t y = some ks ∧ kvs.length < sizeLine ∧ K.nx env (S3.set n (.dct t none (putD kvs ks d))) from by funext env S K; first | (rw [ex]; done) | (rw [ex]; rfl)]
    simp only [okSt] at h
    split at h
    · simp only [Bool.and_eq_true, Bool.not_eq_true'] at h
      exact qs_dput (by have := s'.u65; omega) (O.e s' tk h.1.1.2).1 (O.e s' tk h.1.2).1 (O.e s' tk h.2).1 (sw_no h.1.1.1.1 _ _ _)
    · cases h
  | daug a i op e =>
    rw [show ex c E (.daug a i op e) = fun env S K => ev c E a env S fun x S1 => ev c E i env S1 fun y S2 => ∃ n t z kvs ks a, x = .ref n ∧ S2[n]? = some (.dct t z kvs) ∧ dkey t y = some ks ∧ valD kvs ks = some (.int a) ∧
      ev c E e env S2 fun w S3 => ∃ d r ys, w = .int d ∧ augI op a d = some r ∧ S3[n]? = some (.dct t none ys) ∧ ys.length < sizeLine ∧ K.nx env (S3.set n (.dct t none (putD ys ks (.int r)))) from by funext env S K; first | (rw [ex]; done) | (rw [ex]; rfl)]
    simp only [okSt] at h
    split at h
    · rename_i x y sp op' z pos
      simp only [Bool.and_eq_true, decide_eq_true_eq] at h
      obtain ⟨⟨⟨⟨rfl, hns⟩, h1⟩, h2⟩, h3⟩ := h
      exact qs_daug (by have := s'.u65; omega) (O.e s' tk h1).1 (O.e s' tk h2).1 (O.e s' tk h3).1 (fun ov iv new => by cases y <;> first | rfl | cases hns)
    · cases h
  | lckS i d =>
    rw [show ex c E (.lckS i d) = fun env S K => ∃ n t kvs, env[i]? = some (some (.ref n)) ∧ S[n]? = some (.dct t none kvs) ∧ ∀ u, ex c E d env (S.set n (.dct t (some u) kvs))
      { nx := fun env1 S1 => S1[n]? = some (.dct t (some u) kvs) ∧ K.nx env1 (S1.set n (.dct t none kvs)), rt := fun d S1 => S1[n]? = some (.dct t (some u) kvs) ∧ K.rt d (S1.set n (.dct t none kvs)),
        bk := fun env1 S1 => S1[n]? = some (.dct t (some u) kvs) ∧ K.bk env1 (S1.set n (.dct t none kvs)), ct := fun env1 S1 => S1[n]? = some (.dct t (some u) kvs) ∧ K.ct env1 (S1.set n (.dct t none kvs)) } from by funext env S K; first | (rw [ex]; done) | (rw [ex]; rfl)]
    simp only [okSt] at h
    exact qs_lock (Q.s s tk h)
  | ite t a d =>
    rw [show ex c E (.ite t a d) = fun env S K => ev c E t env S fun x S1 => tst S1 x fun p => if p = true then ex c E a env S1 K else ex c E d env S1 K from by funext env S K; rw [ex]]
    simp only [okSt] at h
    split at h
    · simp only [Bool.and_eq_true] at h
      exact qs_ite (O.e s' tk h.1.1).2 (Q.b s tk h.1.2) (Q.b s tk h.2)
    · cases h
  | «for» t it d =>
    rw [show ex c E (.for t it d) = fun env S K => evI c E it env S fun s S1 => match s with
      | .fix xs => forL (fun x env1 S2 P => tgt t x env1 S2 fun env2 => ex c E d env2 S2 { nx := P, rt := K.rt, bk := K.nx, ct := P }) K.nx xs env S1
      | .live n => ∃ k, forR (fun x env1 S2 P => tgt t x env1 S2 fun env2 => ex c E d env2 S2 { nx := P, rt := K.rt, bk := K.nx, ct := P }) K.nx n k 0 env S1
      | .keys n u => ∃ xs, srcL S1 (.keys n u) = some xs ∧ forL (fun x env1 S2 P => tgt t x env1 S2 fun env2 => ex c E d env2 S2 { nx := fun env3 S3 => srcL S3 (.keys n u) = some xs ∧ P env3 S3, rt := K.rt, bk := K.nx, ct := fun env3 S3 => srcL S3 (.keys n u) = some xs ∧ P env3 S3 }) K.nx xs env S1
      | .enl n => ∃ xs, srcL S1 (.enl n) = some xs ∧ forL (fun x env1 S2 P => tgt t x env1 S2 fun env2 => ex c E d env2 S2 { nx := fun env3 S3 => srcL S3 (.enl n) = some xs ∧ P env3 S3, rt := K.rt, bk := K.nx, ct := fun env3 S3 => srcL S3 (.enl n) = some xs ∧ P env3 S3 }) K.nx xs env S1 from by funext env S K; first | (rw [ex]; done) | (rw [ex]; rfl)]
    simp only [okSt] at h
    split at h
    · simp only [Bool.and_eq_true] at h
      have h0 : Γ.hot = false := by simpa using h.1.1.1.1
      exact qs_for s.pas (s.calm h0) (O.i s' tk h.1.1.2) (pg_ok s' h.1.1.1.2) (Q.b s tk h.2) (fun x => src_ok h.1.2 _ x)
    · cases h
  | whl t d =>
    rw [show ex c E (.whl t d) = fun env S K => ∃ k, whlN (ev c E t) (fun env1 S1 P => ex c E d env1 S1 { nx := P, rt := K.rt, bk := K.nx, ct := P }) K.nx k env S from by funext env S K; rw [ex]]
    simp only [okSt] at h
    split at h
    · simp only [Bool.and_eq_true] at h
      exact qs_whl s.pas (O.e s' tk h.1).2 (Q.b s tk h.2)
    · cases h
  | ret e =>
    rw [show ex c E (.ret e) = fun env S K => ev c E e env S K.rt from by funext env S K; rw [ex]]
    simp only [okSt] at h
    split at h
    · exact qs_ret (O.e s' tk h).1
    · cases h
  | retN =>
    rw [show ex c E .retN = fun env S K => K.rt .non S from by funext env S K; rw [ex]]
    simp only [okSt] at h
    split at h
    · exact qs_retN
    · cases h
  | rse kd e =>
    rw [show ex c E (.rse kd e) = fun env S K => ev c E e env S fun d S1 => E ⟨kd, d⟩ env S1 from by funext env S K; rw [ex]]
    simp only [okSt] at h
    split at h
    · simp only [Bool.and_eq_true, decide_eq_true_eq, Bool.not_eq_true'] at h
      obtain ⟨⟨⟨⟨⟨h0, h1⟩, h2⟩, h3⟩, h4⟩, h5⟩ := h
      obtain ⟨fI, T, hm, hne⟩ := s.ers _ _ h0 h1
      exact qs_rse (s.calm h0) T hne (s.room h0) tk.tk (O.e s' tk h5).1 (s'.gl h2) hm h3 (noStar_of h4)
    · cases h
  | brk =>
    rw [show ex c E .brk = fun env S K => K.bk env S from by funext env S K; rw [ex]]
    simp only [okSt] at h
    split at h
    · exact qs_brk
    · cases h
  | cnt =>
    rw [show ex c E .cnt = fun env S K => K.ct env S from by funext env S K; rw [ex]]
    simp only [okSt] at h
    split at h
    · exact qs_cnt
    · cases h
  | pss =>
    rw [show ex c E .pss = fun env S K => K.nx env S from by funext env S K; rw [ex]]
    simp only [okSt] at h
    split at h
    · exact qs_pss
    · exact qs_doc
    · cases h
  | tryw d => exact try_ok Q s tk h
  | _ => cases h
theorem SndS.up (O : Snd o) (Q : SndS q) : SndS (q.up o) := ⟨fun s tk h => st_ok O Q s tk h, fun s tk h => sts_ok Q s tk h⟩
theorem sndS_at (O : Snd o) : ∀ n, SndS (OkS.at o n)
  | 0 => sndS_no
  | n + 1 => (sndS_at O n).up O
end
end Mp

set_option Elab.async false
set_option linter.all false
set_option maxRecDepth 100000
set_option maxHeartbeats 2000000
/-! M, part 18: defs of the text keep what M says of them. -/
namespace Mp
open PySem PySem.Spec PyProof.Rows L2
theorem zip_look : ∀ {ps : List Str} {us : List Value}, us.length = ps.length → ∀ x ∈ ps, (ps.zip us).lookup x ≠ none
  | [], us, hl, x, hx => by cases hx
  | p :: ps, us, hl, x, hx => by
    cases us with
    | nil => cases hl
    | cons u us =>
      rw [List.zip_cons_cons, List.lookup_cons]
      split
      · exact fun z => by cases z
      · rename_i hne
        rcases List.mem_cons.mp hx with z | z
        · rw [z] at hne; simp at hne
        · exact zip_look (by simpa using hl) x z
theorem zip_map : ∀ {ps : List Str} {us : List Value}, ps.Nodup → us.length = ps.length → ps.filterMap (fun n => ((ps.zip us).lookup n).map fun v => (n, v)) = ps.zip us
  | [], us, _, hl => by simp
  | p :: ps, us, nd, hl => by
    cases us with
    | nil => cases hl
    | cons u us =>
      rw [List.nodup_cons] at nd
      have ih := zip_map nd.2 (show us.length = ps.length by simpa using hl)
      have h1 : ((p :: ps).zip (u :: us)).lookup p = some u := by simp [List.lookup]
      rw [List.filterMap_cons, h1]
      show (p, u) :: _ = _
      rw [List.zip_cons_cons]
      congr 1
      rw [← ih]
      refine filterMap_same fun n hn => ?_
      have : (n == p) = false := by
        cases z : (n == p) with
        | false => rfl
        | true => exact absurd (beq_iff_eq.mp z ▸ hn) nd.1
      rw [List.lookup_cons, this, ih]
theorem fill_same {st : List (Str × Value)} : ∀ (l : List (Str × Value)), (∀ x ∈ l, st.lookup x.1 ≠ none) → (forIn l st fun x s => if (List.lookup x.1 s).isNone = true then (pure (ForInStep.yield (s ++ [(x.1, x.2)])) : Sem _) else pure (ForInStep.yield s)) = pure st
  | [], _ => by rw [List.forIn_nil]
  | x :: l, h => by
    rw [List.forIn_cons]
    have : (List.lookup x.1 st).isNone = false := by
      cases e : List.lookup x.1 st with
      | none => exact absurd e (h x List.mem_cons_self)
      | some v => rfl
    simp only [this, Bool.false_eq_true, if_false, pure_bind]
    exact fill_same l fun y hy => h y (List.mem_cons_of_mem _ hy)
theorem bind_all {M : Model} {A : Around} {E : Value → Shared → Prop} {Q : List (Str × Value) → Shared → Prop} {s : Shared} {fd : FuncData} {as : List Arg} {dfs : List Expr} {us : List Value} (hp : fd.params = { posonlyargs := [], args := as, vararg := none, kwonlyargs := [], kw_defaults := [], kwarg := none, defaults := dfs })
    (nd : (as.map (·.arg)).Nodup) (hl : us.length = as.length) (hd : ∀ {Q' : Option (Array Value) → Shared → Prop}, (∀ r, Q' r s) → wpAny M A (seqItems? fd.defaults) Q' E s) (h : Q ((as.map (·.arg)).zip us) s) :
    wpAny M A (bindArgs fd ⟨us, []⟩) Q E s := by
  unfold bindArgs
  rw [hp]
  have hl' : us.length = (as.map (·.arg)).length := by rw [List.length_map]; exact hl
  have look := zip_look hl'
  have zm := zip_map nd hl'
  simp only [List.map_nil, List.nil_append, List.append_nil, List.forIn_nil, pure_bind, Option.isNone_none, Option.isSome_none]
  generalize hps : as.map (·.arg) = ps at *
  simp only [hl']
  refine wpAny_bind (hd fun r => ?_)
  have e1 : (decide (ps.length > ps.length) && true) = false := by simp
  have e2 : ∀ n, (List.filter (fun n => (List.lookup n (ps.zip us)).isNone) (List.take n ps)) = [] := fun n => by
    rw [List.filter_eq_nil_iff]
    intro x hx
    cases e : List.lookup x (ps.zip us) with
    | none => exact absurd e (look x (List.mem_of_mem_take hx))
    | some v => simp
  simp only [e1, e2, Bool.false_eq_true, if_false, List.isEmpty_nil, Bool.not_true]
  refine wpAny_bind ?_
  rw [fill_same _ fun x hx => look x.1 (List.mem_of_mem_drop (List.of_mem_zip hx).1)]
  exact wpAny_pure (wpAny_pure (by rw [zm]; exact h))

/-! ### the defs of the written part -/
def defIn (K : PySem.W.Frag) (a : Addr) : Option FuncData := match K.lookup a with
  | some ⟨_, _, .func fd, _⟩ => some fd
  | _ => none
def bodyOf (fd : FuncData) : List Stmt := match fd.body with
  | .stmts b => b
  | _ => []
def psOf (fd : FuncData) : List Str := fd.params.args.map (·.arg)
def dfOk (K : PySem.W.Frag) : Value → Bool
  | .none => true
  | .ref T => (K.lookup T).isSome
  | _ => false
def fdOk (K : PySem.W.Frag) (fd : FuncData) (N : List Str) (np : Nat) : Bool :=
  decide (fd.globals = mainGlobals) && decide (fd.builtins = builtinsNs) && fd.closure.isEmpty && (match fd.body with | .stmts _ => true | _ => false) && PySem.W.codeIn K fd.code fd.qualname &&
  (match fd.scope.kind with | .function => true | _ => false) && !fd.scope.isCoroutine && !fd.scope.isGenerator && decide (N.Nodup) && decide (N.take (psOf fd).length = psOf fd) &&
  ((psOf fd).all fun x => fd.scope.names.lookup x == some .local || fd.scope.names.lookup x == some .cell) && (fd.scope.names.all fun y => !(y.2 == .free)) &&
  fd.params.posonlyargs.isEmpty && fd.params.vararg.isNone && fd.params.kwonlyargs.isEmpty && fd.params.kw_defaults.isEmpty && fd.params.kwarg.isNone && decide ((psOf fd).length = np) && dfOk K fd.defaults
structure FdOk (K : PySem.W.Frag) (fd : FuncData) (N : List Str) (np : Nat) : Prop where
  form : ∃ body, fd = PySem.W.fnOf fd.name fd.qualname fd.params body fd.scope fd.defaults fd.kwdefaults fd.doc fd.pyModule fd.annotations fd.code fd.closureTuple ∧ bodyOf fd = body
  cd : PySem.W.codeIn K fd.code fd.qualname = true
  sc : FnScope N (psOf fd) fd.scope
  bn : L2.Binds K fd (psOf fd) []
  np : (psOf fd).length = np
  par : fd.params = { posonlyargs := [], args := fd.params.args, vararg := none, kwonlyargs := [], kw_defaults := [], kwarg := none, defaults := fd.params.defaults }
  nd : (psOf fd).Nodup
theorem fdOk_of {K : PySem.W.Frag} {fd : FuncData} {N : List Str} {np : Nat} (h : fdOk K fd N np = true) : FdOk K fd N np := by
  unfold fdOk at h
  simp only [Bool.and_eq_true, decide_eq_true_eq, Bool.not_eq_true', List.isEmpty_iff, List.all_eq_true, Option.isNone_iff_eq_none, Bool.or_eq_true, beq_iff_eq] at h
  obtain ⟨⟨⟨⟨⟨⟨⟨⟨⟨⟨⟨⟨⟨⟨⟨⟨⟨⟨h1, h2⟩, h3⟩, h4⟩, h5⟩, h6⟩, h7⟩, h8⟩, h9⟩, h10⟩, h11⟩, h12⟩, h13⟩, h14⟩, h15⟩, h16⟩, h17⟩, h18⟩, h19⟩ := h
  have hk : fd.scope.kind = .function := by
    split at h6
    · assumption
    · cases h6
  have hb : ∃ body, fd.body = .stmts body := by
    split at h4
    · exact ⟨_, by assumption⟩
    · cases h4
  have hpar : fd.params = { posonlyargs := [], args := fd.params.args, vararg := none, kwonlyargs := [], kw_defaults := [], kwarg := none, defaults := fd.params.defaults } := by
    obtain ⟨nm, ql, pr, bd, sc, gl, cl, df, kd, dc, pm, an, cd, ct, bt⟩ := fd
    obtain ⟨a1, a2, a3, a4, a5, a6, a7⟩ := pr
    simp only at h13 h14 h15 h16 h17
    subst h13 h14 h15 h16 h17
    rfl
  have nd : (fd.params.args.map (·.arg)).Nodup := by
    have : (psOf fd).Nodup := by rw [← h10]; exact h9.sublist (List.take_sublist _ _)
    exact this
  refine ⟨?_, h5, ⟨hk, h7, h8, h9, h10, fun x hx => h11 x hx, fun y hy z => ?_⟩, fun s us KI hl => ?_, h18, hpar, nd⟩
  · obtain ⟨body, hb⟩ := hb
    refine ⟨body, ?_, by unfold bodyOf; rw [hb]⟩
    obtain ⟨nm, ql, pr, bd, sc, gl, cl, df, kd, dc, pm, an, cd, ct, bt⟩ := fd
    simp only at h1 h2 h3 hb
    subst h1 h2 h3 hb
    rfl
  · have := h12 y hy
    rw [z] at this
    cases this
  · rw [List.append_nil] at hl ⊢
    intro M A E Q hq
    refine bind_all hpar nd (by rw [hl]; simp [psOf]) (fun {Q'} hq' => ?_) hq
    cases hdf : fd.defaults with
    | none => exact wpAny_pure (hq' _)
    | ref T =>
      rw [hdf] at h19
      obtain ⟨o, ho⟩ := Option.isSome_iff_exists.mp h19
      unfold seqItems?
      refine wpAny_bind (wpAny_load (KI _ _ ho) ?_)
      split
      · exact wpAny_pure (hq' _)
      · exact wpAny_pure (hq' _)
    | _ => rw [hdf] at h19; cases h19
end Mp

set_option Elab.async false
set_option linter.all false
set_option maxRecDepth 100000
set_option maxHeartbeats 2000000
/-! M, part 18b: all defs of the text, by their depth. -/
namespace Mp
open PySem PySem.Spec PyProof.Rows L2
theorem start_rel {K : PySem.W.Frag} {fa : FA} {F : Hp} {μ : List Addr} {ds : List D} {vs : List V} {n : Nat} {N : List Str} (r : RDs K fa F μ ds vs) (hn : n = N.length) : RelE K fa F μ (start n ds) (L2.start N vs) := by
  have hl := r.length
  refine ⟨by unfold start L2.start; simp [hl, hn], fun i d q => ?_⟩
  unfold start at q
  unfold L2.start
  by_cases hi : i < ds.length
  · rw [List.getElem?_append_left (by simpa using hi), List.getElem?_map] at q
    obtain ⟨d', hd, e⟩ := Option.map_eq_some_iff.mp q
    cases e
    obtain ⟨v, hv, rv⟩ := r.get hd
    exact ⟨v, by rw [List.getElem?_append_left (by rw [List.length_map]; exact (List.getElem?_eq_some_iff.mp hv).1), List.getElem?_map, hv]; rfl, rv⟩
  · rw [List.getElem?_append_right (by simpa using hi), List.getElem?_replicate] at q
    split at q <;> cases q
/-- what is told of the module, at no def in particular -/
structure ModF (P : Program) (w : World) (K : PySem.W.Frag) (mg : Str → Option Value) (base : Heap) (fa : FA) (ca : EC → Addr) (G : Gm) : Prop where
  cns : ∀ x d, G.cns.lookup x = some d → ∃ u v, mg x = some u ∧ RelV v u ∧ ∀ F μ, RD K fa F μ d v
  blt : ∀ x ∈ bltNames, mg (x : Str) = none
  ers : ∀ x kd, G.ers.lookup x = some kd → ∃ fI, PySem.ErrX.ErrTxt P K mg (ca kd) fI kd.fld ∧ mg x = some (.ref (ca kd)) ∧ kd ≠ .cmd
  cav : mg "CaveError" = some (.ref (ca .cave)) ∧ ∀ kd, kd ≠ .cmd → PySem.W.exmOne K (.ref (ca kd)) (.ref (ca .cave)) = some true
  fns : ∀ p ∈ G.fns, ∃ a, mg p.1.1 = some (.ref a) ∧ fa p.2.1 = some a ∧ ∃ ds dvs, (∀ fd, defIn K a = some fd → L2.Binds K fd (psOf fd) ds) ∧ Vals dvs ds ∧ ∀ F μ, RDs K fa F μ p.2.2 dvs
  hot : ∀ (X : Cx) (b : MB), X.prog = P → X.w = w → X.K = K → X.mg = mg → X.base = base → (∃ k, Room (k + 2) X.A) → X.N.Nodup → b.fa = fa → HotW X b ca
/-- the text of a def is as the table tells -/
def Told (K : PySem.W.Frag) (T : Nat → Option MFn) (G : Gm) (n1 n2 : Nat) (f : Nat) (a : Addr) : Prop :=
  ∃ fd N fn, defIn K a = some fd ∧ fdOk K fd N fn.np = true ∧ T f = some fn ∧ fn.nl = N.length ∧ (OkS.at (Ok.at n1) n2).b { G with N := N, sc := fd.scope, own := fun _ => true, hot := false } fn.body (bodyOf fd) = true
section
variable {P : Program} {w : World} {K : PySem.W.Frag} {mg : Str → Option Value} {base : Heap} {fa : FA} {ca : EC → Addr} {G : Gm} {T : Nat → Option MFn} {n1 n2 : Nat}
theorem fn_step (M : ModF P w K mg base fa ca G) {n k : Nat} (IH : ∀ f a, fa f = some a → ∃ fd, defIn K a = some fd ∧ FnM P w K mg base fa ca (k + 2) a fd (psOf fd) (run T n f) ∧ L2.Binds K fd (psOf fd) [])
    {f : Nat} {a : Addr} (h : Told K T G n1 n2 f a) : ∃ fd, defIn K a = some fd ∧ FnM P w K mg base fa ca (k + 2 + 1) a fd (psOf fd) (run T (n + 1) f) ∧ L2.Binds K fd (psOf fd) [] := by
  obtain ⟨fd, N, fn, hd, hok, hT, hnl, hchk⟩ := h
  obtain ⟨⟨body, hform, hbody⟩, hcd, S, hb, hnp⟩ := fdOk_of hok
  rw [hbody] at hchk
  refine ⟨fd, hd, ?_, hb⟩
  have keep : ∀ a fd, defIn K a = some fd → PySem.W.keepIn K (.ref a) = true := fun a fd e => by
    unfold defIn at e
    unfold PySem.W.keepIn
    split at e
    · rename_i h1; dsimp only; rw [h1]
    · cases e
  have hlk : ∃ oc od osl, K.lookup a = some ⟨oc, od, .func fd, osl⟩ := by
    unfold defIn at hd
    split at hd
    · cases hd; exact ⟨_, _, _, by assumption⟩
    · cases hd
  obtain ⟨oc, od, osl, lk⟩ := hlk
  generalize hps : psOf fd = ps at *
  generalize fd.scope = scope at *
  generalize hq : fd.qualname = qual at *
  generalize fd.code = cdv at *
  generalize fd.name = nm at *
  generalize fd.params = params at *
  generalize fd.defaults = dV at *
  generalize fd.kwdefaults = kV at *
  generalize fd.doc = doc at *
  generalize fd.pyModule = pm at *
  generalize fd.annotations = an at *
  generalize fd.closureTuple = ct at *
  subst hform
  refine fn_of (N := N) lk hcd S (fun vs H Q E h => ?_) (fun A outer s H vs Q E hr h => ?_)
  · obtain ⟨F, L, μ, S1, ds, Q', E', wi, rd, hrun, _⟩ := h
    obtain ⟨fn', hT', hl, _⟩ := hrun
    rw [hT] at hT'; cases hT'
    rw [← rd.length, hl, hnp]
  · obtain ⟨F, L, μ, S1, ds, Q', E', wi, rd, ⟨fn', hT', hl, hrun⟩, hQ, hE⟩ := h
    rw [hT] at hT'; cases hT'
    refine ⟨liftS K ⟨fa, L, F, μ⟩ (ex ⟨run T n, none⟩ (fun e _ S1 => E' e S1) fn.body), ?_, ?_⟩
    · have tk0 : L2N.Takes (cxOf (L2N.CX P w) P w K mg base N qual scope a cdv A outer s H E) (fun cls d _ H => E cls d H) := L2N.takes_of rfl rfl rfl rfl
      have tk : L2N.Takes (cxOf (L2N.CX P w) P w K mg base N qual scope a cdv A outer s H E) (WXof K ⟨fa, L, F, μ⟩ ca (fun e _ S1 => E' e S1)) := tk0.imp fun cls d σ H1 ⟨F1, μ1, env1, S2, e1, a1, rx, he⟩ => hE cls d H1 ⟨F1, μ1, S2, e1, a1.ex, a1.wi, rx, he⟩
      have sat : SatS { G with N := N, sc := scope, own := fun _ => true, hot := false } (cxOf (L2N.CX P w) P w K mg base N qual scope a cdv A outer s H E) ⟨fa, L, F, μ⟩ ca ⟨run T n, none⟩ (k + 2) := by
        refine ⟨⟨fun _ => rfl, S.nd, fun _ => hr, by have := hr.un; show (A.deeper (envOfC qual scope s.heap.objs.size a cdv)).units + 200 < cLine; omega, rfl, rfl, fun _ _ => rfl, fun p hp => ?_, fun _ f1 a1 h1 => ?_, M.cns, M.blt⟩, passes_of rfl, rfl, rfl, S.kind, fun x kd _ h => M.ers x kd h, fun _ _ => M.cav, fun _ _ b' hb' => M.hot _ b' rfl rfl rfl rfl rfl ⟨k, hr⟩ S.nd hb'⟩
        · obtain ⟨a1, hm, hfa, ds1, dvs, hbd, hv, hrd⟩ := M.fns p hp
          obtain ⟨fd1, hd1, hF, _⟩ := IH _ _ hfa
          exact ⟨a1, fd1, psOf fd1, ds1, dvs, hm, hF, keep _ _ hd1, hbd _ hd1, hv, hrd⟩
        · obtain ⟨fd1, hd1, hF, hb1⟩ := IH _ _ h1
          exact ⟨fd1, psOf fd1, hF, keep _ _ hd1, hb1⟩
      exact (sndS_at (snd_at n1) n2).b sat ⟨tk, .cold rfl⟩ hchk
    · refine ⟨F, μ, start fn.nl ds, S1, _, ⟨wi, start_rel rd hnl, .refl⟩, hrun, ?_, fun v H1 z => hQ v H1 z, fun σ' H1 ⟨_, _, _, _, _, _, z⟩ => z, fun σ' H1 ⟨_, _, _, _, _, _, z⟩ => z⟩
      rintro σ' H1 ⟨F1, μ1, env1, S2, e1, a1, q1⟩
      exact hQ .non H1 ⟨F1, μ1, .non, S2, e1, a1.wi, .non, q1⟩
theorem all_defs (M : ModF P w K mg base fa ca G) (tab : ∀ f a, fa f = some a → Told K T G n1 n2 f a) : ∀ (n : Nat) f a, fa f = some a → ∃ fd, defIn K a = some fd ∧ FnM P w K mg base fa ca (n + 2) a fd (psOf fd) (run T n f) ∧ L2.Binds K fd (psOf fd) []
  | 0, f, a, h => by
    obtain ⟨fd, N, fn, hd, hok, hT, hnl, hchk⟩ := tab f a h
    have F := fdOk_of hok
    exact ⟨fd, hd, ⟨fun vs H Q E ⟨_, _, _, _, _, _, _, _, _, z, _⟩ => z.elim, fun _ _ _ _ _ _ _ _ _ _ _ _ _ ⟨_, _, _, _, _, _, _, _, _, z, _⟩ => z.elim⟩, F.bn⟩
  | n + 1, f, a, h => by
    have := fn_step (n := n) (k := n) M (all_defs M tab n) (tab f a h)
    rw [show n + 1 + 2 = n + 2 + 1 by omega]
    exact this
end
end Mp

set_option Elab.async false
set_option linter.all false
set_option maxRecDepth 100000
set_option maxHeartbeats 2000000
/-! M, part 19: the word of an error, asked while it is handled. -/
namespace Mp
open PySem PySem.Spec PyProof.Rows L2
/-- what is told of the law's own word function, at a -/
structure WordF (P : Program) (w : World) (K : PySem.W.Frag) (mg : Str → Option Value) (ca : EC → Addr) (G : Gm) (a : Addr) (N : List Str) (body : MS) (n1 n2 : Nat) : Prop where
  mgw : mg "_law_word" = some (.ref a)
  fd : ∃ fd, defIn K a = some fd ∧ fdOk K fd N 1 = true ∧ (OkS.at (Ok.at n1) n2).b { G with N := N, sc := fd.scope, own := fun _ => true, hot := true } body (bodyOf fd) = true
  blt : ∀ x ∈ bltNames, mg (x : Str) = none
  ers : ∀ z kd, G.ers.lookup z = some kd → mg z = some (.ref (ca kd))
  cav : mg "CaveError" = some (.ref (ca .cave))
  txt : ∀ kd, kd ≠ .cmd → kd ≠ .cave → IsTxt K (ca kd) ∧ XfC K (ca kd) ∧ PySem.W.findIn K (.ref (ca kd)) kd.fld = some none ∧ ∀ kd', kd' ≠ .cmd → PySem.W.kitOne K (.ref (ca kd)) (.ref (ca kd')) = some (decide (kd' = .cave) || decide (kd = kd'))
  fns : G.fns = []
  cns : G.cns = []
  run : ∀ e z, wordOf e = some z → (ex ⟨fun _ _ _ _ _ => False, some e⟩ (fun _ _ _ => False) body (start N.length [.fn xno]) []) { nx := fun _ _ => False, rt := fun d _ => d = .str z, bk := fun _ _ => False, ct := fun _ _ => False }
theorem wordOf_cls {e : Exc} {z : Str} (h : wordOf e = some z) : e.cls ≠ .cmd ∧ e.cls ≠ .cave := by
  unfold wordOf at h
  constructor <;> intro hc <;> rw [hc] at h <;> cases h
theorem wordOf_arg {e : Exc} {z : Str} (h : wordOf e = some z) {K : PySem.W.Frag} {fa fa' : FA} {F : Hp} {μ μ' : List Addr} {v : V} (r : RD K fa F μ e.arg v) : RD K fa' F μ' e.arg v := by
  unfold wordOf at h
  split at h
  case h_6 => cases h
  all_goals
    rename_i ha
    rw [ha] at r ⊢
    cases r
    first
      | exact .int _
      | (rename_i hx; exact .str hx)
theorem hot_of {P : Program} {w : World} {K : PySem.W.Frag} {mg : Str → Option Value} {ca : EC → Addr} {G : Gm} {a0 : Addr} {N : List Str} {body : MS} {n1 n2 : Nat} (W : WordF P w K mg ca G a0 N body n1 n2) (X : Cx) (b : MB) (hP : X.prog = P) (hw : X.w = w) (hK : X.K = K) (hmg : X.mg = mg)
    (hr : ∃ k, Room (k + 2) X.A) : HotW X b ca := by
  subst hP hw hK hmg
  obtain ⟨k, hr⟩ := hr
  intro i n p p2 p3 q a oe cls d pn hN hl hd1 hd2 hg hz hf
  have hpe : PE (X.suite a ((a, oe) :: pn)) (.Call (.Name "_law_word" p) [.Name n q] [] p2) (fun σ H Q => (∃ σ0 : L2.St, σ = σ0.set i (some (.ref a))) ∧
      ∃ F μ S e z, WI X.K b.fa F b.L μ S H ∧ RX X.K b.fa ca F μ e cls d ∧ wordOf e = some z ∧ ∀ H', WI X.K b.fa F b.L μ S H' → z.length ≤ sizeLine ∧ PyData.strOk z = true → Q (.str z) H') := by
    refine ⟨fun pins s σ H Q I hh => ?_⟩
    obtain ⟨⟨σ0, rfl⟩, F, μ, S, e, z, wi, rx, hz2, hQ⟩ := hh
    obtain ⟨fd, hd, hok, hchk⟩ := W.fd
    obtain ⟨⟨bd, hform, hbody⟩, hcd, Sc, hb, hnp⟩ := fdOk_of hok
    rw [hbody] at hchk
    have hlk : ∃ oc od osl, X.K.lookup a0 = some ⟨oc, od, .func fd, osl⟩ := by
      unfold defIn at hd
      split at hd
      · cases hd; exact ⟨_, _, _, by assumption⟩
      · cases hd
    obtain ⟨oc, od, osl, lk⟩ := hlk
    have hkeep : PySem.W.keepIn X.K (.ref a0) = true := by unfold PySem.W.keepIn; dsimp only; rw [lk]
    have hi : i < σ0.length := by
      have h1 := I.len
      rw [List.length_set] at h1
      have h2 := (List.getElem?_eq_some_iff.mp hN).1
      rw [h1]; exact h2
    refine wpAny_Call_Name_kw (ld_glob I hg W.mgw ?_ (by decide))
    have hv : PE (X.suite a ((a, oe) :: pn)) (.Name n q) (tVar i) := pe_var hN (.inl hl) hd1 hd2
    refine PySem.W.callWith_K (h₀ := X.base) I.ok.mod.kin hkeep (thn ((pa_cons hv pa_nil rfl).run p2 pins s _ H (fun vs H1 => vs = [.ref a] ∧ H1 = H) I ⟨.ref a, by rw [List.getElem?_set_self hi], rfl, rfl⟩) fun us s1 ⟨vs, H1, I1, r1, ev, eH⟩ => ⟨I1.kIn, ?_⟩) rfl rfl
    subst ev eH
    generalize hps : psOf fd = ps at *
    generalize fd.scope = scope at *
    generalize hq : fd.qualname = qual at *
    generalize fd.code = cdv at *
    generalize fd.name = nm at *
    generalize fd.params = params at *
    generalize fd.defaults = dV at *
    generalize fd.kwdefaults = kV at *
    generalize fd.doc = doc at *
    generalize fd.pyModule = pm at *
    generalize fd.annotations = an at *
    generalize fd.closureTuple = ct at *
    subst hform
    obtain ⟨hcls, dd, v, rfl, hFd, hrd⟩ := rx
    obtain ⟨hc1, hc2⟩ := wordOf_cls hz2
    obtain ⟨t1, t2, t3, t4⟩ := W.txt e.cls hc1 hc2
    obtain ⟨us1, hus, hra⟩ : ∃ u1, us = [u1] ∧ RelV (.ref a) u1 := by
      cases r1 with
      | cons ra rr => cases rr; exact ⟨_, rfl, ra⟩
    have hbt := hb s1 us I1.kIn (by rw [List.append_nil, hnp, hus]; rfl)
    rw [List.append_nil] at hbt
    have hdep : (X.suite a ((a, oe) :: pn)).A.depth < recursionLimit := by
      have := hr.dp
      show X.A.depth < recursionLimit
      omega
    have sat : SatS { G with N := N, sc := scope, own := fun _ => true, hot := true } (hotX (X.suite a ((a, oe) :: pn)) s1 H1 N qual scope a0 cdv (a, oe)) ⟨withX b.fa a, lockAll b.L μ H1, F, []⟩ ca ⟨fun _ _ _ _ _ => False, some e⟩ 0 := by
      refine ⟨⟨fun z => Bool.noConfusion (show true = false from z), Sc.nd, fun z => Bool.noConfusion (show true = false from z), ?_, rfl, rfl, fun _ _ => rfl, fun p hp => ?_, fun z => Bool.noConfusion (show true = false from z), fun x d z => ?_, W.blt⟩, passes_of rfl, rfl, rfl, Sc.kind, fun _ _ z => Bool.noConfusion (show true = false from z), fun z => Bool.noConfusion (show true = false from z), fun z => Bool.noConfusion (show true = false from z)⟩
      · have := hr.un
        show X.A.units + 3 + 200 < cLine
        omega
      · have hp' : p ∈ G.fns := hp
        rw [W.fns] at hp'; cases hp'
      · have z' : G.cns.lookup x = some d := z
        rw [W.cns] at z'; cases z'
    have hhb : HB { G with N := N, sc := scope, own := fun _ => true, hot := true } (hotX (X.suite a ((a, oe) :: pn)) s1 H1 N qual scope a0 cdv (a, oe)) ⟨withX b.fa a, lockAll b.L μ H1, F, []⟩ ca ⟨fun _ _ _ _ _ => False, some e⟩ := fun _ =>
      ⟨W.ers, W.cav, e, rfl, (a, oe), dd, ⟨List.mem_cons_self, by show (if xno = xno then some a else b.fa xno) = some a; exact if_pos rfl, by rw [← hcls]; exact hz.zc, hf, v, hFd, wordOf_arg hz2 hrd⟩, t1, t2, t3, t4⟩
    refine call_hot (X := X.suite a ((a, oe) :: pn)) (p := (a, oe)) I1 List.mem_cons_self lk hcd Sc hbt r1 (by rw [hnp]; rfl) hdep ((sndS_at (snd_at n1) n2).b sat ⟨takes_never, hhb⟩ hchk) ?_
    refine ⟨F, [], start N.length [.fn xno], [], _, ⟨wi.hot _, start_rel (.cons (.fn (by show (if xno = xno then some a else b.fa xno) = some a; exact if_pos rfl)) .nil) rfl, .refl⟩, W.run e z hz2, ⟨fun σ' H' ⟨_, _, _, _, _, _, zz⟩ => zz.elim, fun v' H' hp => ?_, fun σ' H' ⟨_, _, _, _, _, _, zz⟩ => zz.elim, fun σ' H' ⟨_, _, _, _, _, _, zz⟩ => zz.elim⟩⟩
    obtain ⟨F', μ', d', S', e', w', r', rfl⟩ := hp
    cases r' with
    | str hzz => exact hQ H' (wi.cool w' e'.fz) hzz
  refine pss_imp (pss_one (ps_ret hpe)) fun De σ H h => h
end Mp

set_option Elab.async false
set_option linter.all false
set_option maxRecDepth 100000
set_option maxHeartbeats 2000000
/-! M, part 20: a last parameter that is not given. -/
namespace Mp
open PySem PySem.Spec PyProof.Rows L2
theorem zip_cut {qs : List Str} {x : Str} : ∀ {us : List Value}, us.length = qs.length → (qs ++ [x]).zip us = qs.zip us := by
  induction qs with
  | nil => intro us h; cases us with
    | nil => rfl
    | cons u us => cases h
  | cons q qs ih => intro us h; cases us with
    | nil => cases h
    | cons u us => rw [List.cons_append, List.zip_cons_cons, List.zip_cons_cons, ih (by simpa using h)]
theorem zip_more {qs : List Str} {x : Str} {v : Value} : ∀ {us : List Value}, us.length = qs.length → (qs ++ [x]).zip (us ++ [v]) = qs.zip us ++ [(x, v)] := by
  induction qs with
  | nil => intro us h; cases us with
    | nil => rfl
    | cons u us => cases h
  | cons q qs ih => intro us h; cases us with
    | nil => cases h
    | cons u us => rw [List.cons_append, List.cons_append, List.zip_cons_cons, List.zip_cons_cons, ih (by simpa using h), List.cons_append]
theorem zip_not : ∀ {qs : List Str} {us : List Value} {x : Str}, x ∉ qs → (qs.zip us).lookup x = none
  | [], us, x, h => by simp
  | q :: qs, [], x, h => by simp
  | q :: qs, u :: us, x, h => by
    have h1 : (x == q) = false := by
      cases z : (x == q) with
      | false => rfl
      | true => exact absurd (beq_iff_eq.mp z ▸ List.mem_cons_self) h
    rw [List.zip_cons_cons, List.lookup_cons, h1]
    exact zip_not fun z => h (List.mem_cons_of_mem _ z)
theorem bind_dfl {M : Model} {A : Around} {E : Value → Shared → Prop} {Q : List (Str × Value) → Shared → Prop} {s : Shared} {fd : FuncData} {as : List Arg} {dfs : List Expr} {us : List Value} {v : Value} {qs : List Str} {x : Str} (hp : fd.params = { posonlyargs := [], args := as, vararg := none, kwonlyargs := [], kw_defaults := [], kwarg := none, defaults := dfs })
    (hq : as.map (·.arg) = qs ++ [x]) (nd : (as.map (·.arg)).Nodup) (hl : us.length = qs.length) (hd : ∀ {Q' : Option (Array Value) → Shared → Prop}, Q' (some #[v]) s → wpAny M A (seqItems? fd.defaults) Q' E s) (h : Q ((qs ++ [x]).zip (us ++ [v])) s) :
    wpAny M A (bindArgs fd ⟨us, []⟩) Q E s := by
  unfold bindArgs
  rw [hp]
  simp only [List.map_nil, List.nil_append, List.append_nil, List.forIn_nil, pure_bind, Option.isNone_none, Option.isSome_none]
  rw [hq] at nd ⊢
  have hx : x ∉ qs := by
    rw [List.nodup_append] at nd
    exact fun z => nd.2.2 x z x (by simp) rfl
  have zm := zip_map nd (us := us ++ [v]) (by simp [hl])
  have hlen : (qs ++ [x]).length = us.length + 1 := by simp [hl]
  simp only [hlen]
  refine wpAny_bind (hd ?_)
  have e1 : (decide (us.length > us.length + 1) && true) = false := by simp
  have e0 : ((some #[v] : Option (Array Value)).getD #[]).toList = [v] := rfl
  have e3 : [v].length - (us.length + 1) = 0 := by simp
  have e4 : us.length + 1 - [v].length = qs.length := by simp [hl]
  have e5 : (qs ++ [x]).take qs.length = qs := by simp
  have e6 : (qs ++ [x]).drop qs.length = [x] := by simp
  have e2 : (List.filter (fun n => (List.lookup n (qs.zip us)).isNone) qs) = [] := by
    rw [List.filter_eq_nil_iff]
    intro y hy
    cases e : List.lookup y (qs.zip us) with
    | none => exact absurd e (zip_look hl y hy)
    | some v => simp
  simp only [e0, e1, e3, e4, e5, e6, List.drop_zero, zip_cut hl, e2, Bool.false_eq_true, if_false, List.isEmpty_nil, Bool.not_true]
  refine wpAny_bind ?_
  have e7 : (forIn ([x].zip [v]) (qs.zip us) fun y s => if (List.lookup y.1 s).isNone = true then (pure (ForInStep.yield (s ++ [(y.1, y.2)])) : Sem _) else pure (ForInStep.yield s)) = pure (qs.zip us ++ [(x, v)]) := by
    rw [List.zip_cons_cons, List.forIn_cons]
    simp only [zip_not hx, Option.isNone_none, if_true, pure_bind]
    simp
  rw [e7, ← zip_more hl]
  exact wpAny_pure (wpAny_pure (by rw [zm]; exact h))
end Mp

set_option Elab.async false
set_option linter.all false
set_option maxRecDepth 100000
set_option maxHeartbeats 2000000
/-! M, part 21: all that a law's text must show, as one check. -/
namespace Mp
open PySem PySem.Spec PyProof.Rows L2
open PySem.W (Frag nsIn findIn typeIn keepIn subIn mroIn hasDictIn clsIn codeIn specialIn takesIn kitOne exmOne)
def adr (K : Frag) (x : Str) : Option Addr := match nsIn K mainGlobals x with
  | some (some (.ref a)) => some a
  | _ => none
theorem adr_mg {K : Frag} {h : Heap} {mg : Str → Option Value} (X : K.In h) (G : h.Ns mainGlobals mg) {x : Str} {a : Addr} (e : adr K x = some a) : mg x = some (.ref a) := by
  unfold adr at e
  split at e
  · cases e; exact PySem.W.mg_of X G (by assumption)
  · cases e
def EC.cnm : EC → Str
  | .cave => "CaveError" | .text => "TextError" | .map => "MapError" | .arg => "ArgumentError" | .paper => "PaperError" | .many => "TooMany" | .cmd => "CommandError"
structure LawD where
  defs : List (Str × List Str × MFn)
  fns : List ((Str × Nat) × (Nat × List D))
  cns : List (Str × D)
  ers : List (Str × EC)
  wN : List Str
  wB : MS
  n1 : Nat
  n2 : Nat
def LawD.G (W : LawD) : Gm := ⟨[], { kind := .function, names := [], isGenerator := false, isCoroutine := false, more := [] }, fun _ => true, W.fns, W.cns, W.ers, false⟩
def LawD.wG (W : LawD) : Gm := ⟨[], { kind := .function, names := [], isGenerator := false, isCoroutine := false, more := [] }, fun _ => true, [], [], W.ers, false⟩
def LawD.T (W : LawD) (f : Nat) : Option MFn := (W.defs[f]?).map (·.2.2)
def LawD.fa (W : LawD) (K : Frag) (f : Nat) : Option Addr := (W.defs[f]?).bind fun d => adr K d.1
def caOf (K : Frag) (k : EC) : Addr := (adr K k.cnm).getD 0
/-! ### the parts -/
def valIs (fa : FA) : D → Value → Bool
  | .int i, .int j _ => decide (i = j)
  | .bl a, .bool c => a == c
  | .str x, .str y _ => decide (x = y) && decide (x.length ≤ 1000) && PyData.strOk x
  | .non, .none => true
  | .fn f, .ref a => decide (fa f = some a)
  | _, _ => false
theorem valIs_ok {K : Frag} {fa : FA} {d : D} {u : Value} (h : valIs fa d u = true) : ∃ v, RelV v u ∧ ∀ F μ, RD K fa F μ d v := by
  unfold valIs at h
  split at h
  · cases of_decide_eq_true h; exact ⟨.int _, ⟨_, rfl⟩, fun _ _ => .int _⟩
  · have := beq_iff_eq.mp h; subst this; exact ⟨.bl _, rfl, fun _ _ => .bl _⟩
  · simp only [Bool.and_eq_true, decide_eq_true_eq] at h
    obtain ⟨⟨rfl, h1⟩, h2⟩ := h
    exact ⟨.str _, ⟨_, rfl⟩, fun _ _ => .str ⟨by rw [sizeLine_eq]; omega, h2⟩⟩
  · exact ⟨.non, rfl, fun _ _ => .non⟩
  · exact ⟨.ref _, rfl, fun _ _ => .fn (of_decide_eq_true h)⟩
  · cases h
def defChk (K : Frag) (W : LawD) (d : Str × List Str × MFn) : Bool := match adr K d.1 with
  | some a => (match defIn K a with
    | some fd => fdOk K fd d.2.1 d.2.2.np && decide (d.2.2.nl = d.2.1.length) && (OkS.at (Ok.at W.n1) W.n2).b { W.G with N := d.2.1, sc := fd.scope, own := fun _ => true, hot := false } d.2.2.body (bodyOf fd)
    | none => false)
  | none => false
def dflChk (K : Frag) (fa : FA) (fd : FuncData) : List D → Bool
  | [] => true
  | [v] => !(psOf fd).isEmpty && (match fd.defaults with
    | .ref T => (match K.lookup T with
      | some o => (match o.data with | .seq items _ => (match items.toList with | [u] => valIs fa v u | _ => false) | _ => false)
      | none => false)
    | _ => false)
  | _ => false
def fnChk (K : Frag) (W : LawD) (p : (Str × Nat) × (Nat × List D)) : Bool := match W.defs[p.2.1]? with
  | some d => decide (d.1 = p.1.1) && (match adr K d.1 with
    | some a => (match defIn K a with | some fd => dflChk K (W.fa K) fd p.2.2 | none => false)
    | none => false)
  | none => false
def cnChk (K : Frag) (W : LawD) (p : Str × D) : Bool := match nsIn K mainGlobals p.1 with
  | some (some u) => valIs (W.fa K) p.2 u
  | _ => false
/-- the six kinds of names that an error's class is asked for -/
def clsChk (K : Frag) (C : Addr) : Bool := match K.lookup C with
  | some ⟨.type "type", _, .cls cd, sl⟩ => (match cd.mro, sl.toList with
    | .ref C' :: bm, [_, _, _, _, some (.builtin n), _] => C' == C && n == "ValueError.__new__" && !cd.hasDel && cd.hasDict && PySem.HandSPX.refsVE bm
    | _, _ => false)
  | _ => false
theorem clsChk_ok {K : Frag} {C : Addr} (h : clsChk K C = true) : ∃ nm q N bs bm sn sub ab col dd k0 k1 k2 k3 k5, K.lookup C = some (excClassObj nm q C N bs bm true sn sub ab col dd k0 k1 k2 k3 k5 "ValueError.__new__") ∧ PySem.HandSPX.refsVE bm = true := by
  unfold clsChk at h
  split at h
  · rename_i dd cd sl ho
    split at h
    · rename_i C' bm k0 k1 k2 k3 n k5 hm hs
      simp only [Bool.and_eq_true, beq_iff_eq, Bool.not_eq_true'] at h
      obtain ⟨⟨⟨⟨rfl, rfl⟩, hdel⟩, hdct⟩, hbm⟩ := h
      obtain ⟨nm, bs, mro, ns, qn, hd, sn, sub, ab, col, del⟩ := cd
      dsimp only at hm hdel hdct
      subst hm hdel hdct
      have hsl : sl = #[k0, k1, k2, k3, some (.builtin "ValueError.__new__"), k5] := by
        obtain ⟨l⟩ := sl
        simp only at hs
        rw [hs]
      subst hsl
      exact ⟨nm, qn, ns, bs, bm, sn, sub, ab, col, dd, k0, k1, k2, k3, k5, ho, hbm⟩
    · cases h
  · cases h
def fileIs (P : Program) : Option Value → Bool
  | some (.str file _) => ((P.main.file : Str) == file)
  | _ => false
def iniChk (P : Program) (K : Frag) (C fI : Addr) (fld : Str) : Bool := match K.lookup fI with
  | some ⟨_, _, .func fd, _⟩ => (match fd.closure, fd.code, fd.params, fd.body, fd.defaults, fd.kwdefaults with
    | [(cn, cc)], .ref cda, ⟨[], [⟨a1, none, _⟩, ⟨a2, none, _⟩], none, [], [], none, []⟩, .stmts [.Expr (.Call (.Attribute (.Call (.Name s0 _) [] [] _) s1 q2) [.Constant (.str _) _ _] [] q4) _, .Assign [.Attribute (.Name s2 _) s3 _] (.Name s4 _) _], .none, .none =>
      decide (cn = "__class__") && decide (a1 = "self") && decide (a2 = fld) && decide (s0 = "super") && decide (s1 = "__init__") && decide (s2 = "self") && decide (s3 = fld) && decide (s4 = fld) && decide (fd.name = "__init__") &&
      decide (fd.globals = mainGlobals) && decide (fd.builtins = builtinsNs) && codeIn K (.ref cda) fd.qualname && (q2.endLine == q4.line) &&
      decide (fd.scope = PySem.ErrX.iS fld) &&
      (match K.lookup cc with | some ⟨_, _, .cell (some (.ref C')), _⟩ => C' == C | _ => false) &&
      (match K.lookup cda with | some ⟨_, _, .fields vs, _⟩ => fileIs P (vs[2]?) | _ => false)
    | _, _, _, _, _, _ => false)
  | _ => false
theorem iniChk_ok {P : Program} {K : Frag} {C fI : Addr} {fld : Str} (h : iniChk P K C fI fld = true) : ∃ (oc : Value) (od : Option Addr) (qual : Str) (doc pm : Value) (an : Option Addr) (ct : Value) (osl : Array (Option Value)) (cc cda : Addr) (msg : Str) (k : Nat) (p1 p2 q0 q1 q2 q3 q4 q5 r1 r2 r3 r4 : Pos),
    K.lookup fI = some ⟨oc, od, .func (PySem.W.ksFn "__init__" qual (PySem.ErrX.iA fld p1 p2) (PySem.ErrX.iB fld msg k q0 q1 q2 q3 q4 q5 r1 r2 r3 r4) (PySem.ErrX.iS fld) .none .none doc pm an (.ref cda) ct cc), osl⟩ ∧ codeIn K (.ref cda) qual = true ∧ (q2.endLine == q4.line) = true ∧
    (∃ cl cld csl, K.lookup cc = some ⟨cl, cld, .cell (some (.ref C)), csl⟩) ∧
    ∃ ccl cdd vs ccs file tf, K.lookup cda = some ⟨ccl, cdd, .fields vs, ccs⟩ ∧ vs[2]? = some (.str file tf) ∧ ((P.main.file : Str) == file) = true := by
  unfold iniChk at h
  split at h
  · rename_i oc od fd osl hlk
    split at h
    · rename_i x1 x2 x3 x4 x5 x6 cn cc cda a1 p1 a2 p2 s0 q0 q1 s1 q2 msg k q3 q4 q5 s2 r1 s3 r2 s4 r3 r4 h1 h2 h3 h4 h5 h6
      simp only [Bool.and_eq_true, decide_eq_true_eq] at h
      obtain ⟨⟨⟨⟨⟨⟨⟨⟨⟨⟨⟨⟨⟨⟨⟨rfl, rfl⟩, rfl⟩, rfl⟩, rfl⟩, rfl⟩, e6⟩, e7⟩, e8⟩, e9⟩, e10⟩, e11⟩, e12⟩, e13⟩, e14⟩, e15⟩ := h
      subst e6 e7
      obtain ⟨nm, ql, pr, bd, sc, gl, cl, df, kd, dc, pm, an, cd, ct, bt⟩ := fd
      dsimp only at h1 h2 h3 h4 h5 h6 e8 e9 e10 e11 e13
      subst h1 h2 h3 h4 h5 h6 e8 e9 e10 e13
      have hcell : ∃ cl cld csl, K.lookup cc = some ⟨cl, cld, .cell (some (.ref C)), csl⟩ := by
        split at e14
        · have := beq_iff_eq.mp e14; subst this; exact ⟨_, _, _, by assumption⟩
        · cases e14
      have hcode : ∃ ccl cdd vs ccs file tf, K.lookup cda = some ⟨ccl, cdd, .fields vs, ccs⟩ ∧ vs[2]? = some (.str file tf) ∧ ((P.main.file : Str) == file) = true := by
        split at e15
        · rename_i vs _ hl
          cases hv : vs[2]? with
          | none => rw [hv] at e15; cases e15
          | some x =>
            rw [hv] at e15
            cases x with
            | str file tf => exact ⟨_, _, _, _, _, _, hl, hv, e15⟩
            | _ => cases e15
        · cases e15
      exact ⟨oc, od, ql, dc, pm, an, ct, osl, cc, cda, msg, k, p1, p2, q0, q1, q2, q3, q4, q5, r1, r2, r3, r4, hlk, e11, e12, hcell, hcode⟩
    · cases h
  · cases h
end Mp

set_option Elab.async false
set_option linter.all false
set_option maxRecDepth 100000
set_option maxHeartbeats 2000000
/-! M, part 21b: the one check, and what it gives. -/
namespace Mp
open PySem PySem.Spec PyProof.Rows L2
open PySem.W (Frag nsIn findIn typeIn keepIn subIn mroIn hasDictIn clsIn codeIn specialIn takesIn kitOne exmOne)
def errChk (P : Program) (K : Frag) (C : Addr) (fld : Str) : Bool := match findIn K (.ref C) "__init__" with
  | some (some (.ref fI)) =>
    clsChk K C && decide (findIn K (.ref C) "__setattr__" = some (some (.builtin "object.__setattr__"))) && decide (findIn K (.ref C) "__getattribute__" = some (some (.builtin "BaseException.__getattribute__"))) &&
    decide (findIn K (.ref C) "__getattr__" = some none) && decide (findIn K (.ref C) fld = some none) && decide (typeIn K (.ref fI) = some (.type "function")) && keepIn K (.ref C) && decide (subIn K (.ref C) (.type "BaseException") = some true) &&
    decide (subIn K (.ref C) (.type "ValueError") = some true) && decide (typeIn K (.ref C) = some (.type "type")) && hasDictIn K C && decide (PySem.W.ks_superIn K C C "__init__" = some (some (.builtin "ValueError.__init__"))) &&
    PySem.W.excInitIn K C PySem.ErrX.veB "ValueError.__new__" && decide (mroIn K C (.ref C) = some true) && decide (nsIn K cStatics "thirdparty.any" = some none) && decide (nsIn K mainGlobals "super" = some none) &&
    !(P.main.scope.names.lookup ("super" : Str)).isSome && iniChk P K C fI fld
  | _ => false
theorem errChk_ok {P : Program} {K : Frag} {mg : Str → Option Value} {h : Heap} (X : K.In h) (G : h.Ns mainGlobals mg) {C : Addr} {fld : Str} (e : errChk P K C fld = true) : ∃ fI, PySem.ErrX.ErrTxt P K mg C fI fld := by
  unfold errChk at e
  split at e
  · rename_i fI hI
    simp only [Bool.and_eq_true, decide_eq_true_eq, Bool.not_eq_true'] at e
    obtain ⟨⟨⟨⟨⟨⟨⟨⟨⟨⟨⟨⟨⟨⟨⟨⟨⟨e1, e2⟩, e3⟩, e4⟩, e5⟩, e6⟩, e7⟩, e8⟩, e9⟩, e10⟩, e11⟩, e12⟩, e13⟩, e14⟩, e15⟩, e16⟩, e17⟩, e18⟩ := e
    exact ⟨fI, ⟨clsChk_ok e1, e2, e3, e4, e5, hI, e6, e7, e8, e9, e10, e11, e12, e13, e14, e15, PySem.W.mg_none_of X G e16, e17, iniChk_ok e18⟩⟩
  · cases e
def kinds : List EC := [.cave, .text, .map, .arg, .paper, .many]
def kinds5 : List EC := [.text, .map, .arg, .paper, .many]
theorem kinds_all {k : EC} (h : k ≠ .cmd) : k ∈ kinds := by cases k <;> first | decide | exact absurd rfl h
theorem kinds5_all {k : EC} (h : k ≠ .cmd) (h2 : k ≠ .cave) : k ∈ kinds5 := by cases k <;> first | decide | exact absurd rfl h | exact absurd rfl h2
def isChk (K : Frag) (kd : EC) : Bool :=
  let C := caOf K kd
  (clsIn K C).isSome && decide (findIn K (.ref C) "__getattribute__" = some (some (.builtin "BaseException.__getattribute__"))) && decide (findIn K (.ref C) "__getattr__" = some none) && decide (subIn K (.ref C) (.type "BaseException") = some true) &&
  decide (findIn K (.ref C) "__class__" = some (some (.builtin "object.__class__"))) && decide (specialIn K (.builtin "object.__class__") "__get__" = some (some (.builtin "getset_descriptor.__get__"))) && decide (takesIn K (.builtin "object.__class__") = some true) &&
  decide (mroIn K C (.type "object") = some true) && L2.xfB K C && decide (findIn K (.ref C) kd.fld = some none) && kinds.all fun kd' => decide (kitOne K (.ref C) (.ref (caOf K kd')) = some (decide (kd' = .cave) || decide (kd = kd')))
theorem isChk_ok {K : Frag} {kd : EC} (h : isChk K kd = true) : IsTxt K (caOf K kd) ∧ XfC K (caOf K kd) ∧ findIn K (.ref (caOf K kd)) kd.fld = some none ∧ ∀ kd', kd' ≠ .cmd → kitOne K (.ref (caOf K kd)) (.ref (caOf K kd')) = some (decide (kd' = .cave) || decide (kd = kd')) := by
  unfold isChk at h
  simp only [Bool.and_eq_true, decide_eq_true_eq, List.all_eq_true] at h
  obtain ⟨⟨⟨⟨⟨⟨⟨⟨⟨⟨h1, h2⟩, h3⟩, h4⟩, h5⟩, h6⟩, h7⟩, h8⟩, h9⟩, h10⟩, h11⟩ := h
  exact ⟨⟨h1, h2, h3, h4, h5, h6, h7, h8⟩, L2.xfB_ok h9, h10, fun kd' hk => h11 kd' (kinds_all hk)⟩
def wordChk (K : Frag) (W : LawD) : Bool := match adr K "_law_word" with
  | some a => (match defIn K a with
    | some fd => fdOk K fd W.wN 1 && (OkS.at (Ok.at W.n1) W.n2).b { W.wG with N := W.wN, sc := fd.scope, own := fun _ => true, hot := true } W.wB (bodyOf fd)
    | none => false)
  | none => false
/-- the whole check, without the word -/
def chk (P : Program) (K : Frag) (W : LawD) : Bool :=
  W.defs.all (defChk K W) && W.fns.all (fnChk K W) && W.cns.all (cnChk K W) && (W.ers.all fun p => decide (p.1 = p.2.cnm) && decide (p.2 ≠ .cmd) && (adr K p.1).isSome && errChk P K (caOf K p.2) p.2.fld) &&
  (adr K "CaveError").isSome && (kinds.all fun kd => decide (exmOne K (.ref (caOf K kd)) (.ref (caOf K .cave)) = some true)) && (bltNames.all fun x => decide (nsIn K mainGlobals (x : Str) = some none)) &&
  wordChk K W && kinds5.all (isChk K)
/-- what the word says of each error, by M -/
def WordRun (N : List Str) (body : MS) : Prop := ∀ e z, wordOf e = some z → (ex ⟨fun _ _ _ _ _ => False, some e⟩ (fun _ _ _ => False) body (start N.length [.fn xno]) []) { nx := fun _ _ => False, rt := fun d _ => d = .str z, bk := fun _ _ => False, ct := fun _ _ => False }
theorem lookup_mem {α : Type} {l : List (Str × α)} {x : Str} {d : α} (h : l.lookup x = some d) : (x, d) ∈ l := PySem.mem_of_lookup h
theorem caOf_mg {K : Frag} {h : Heap} {mg : Str → Option Value} (X : K.In h) (G : h.Ns mainGlobals mg) {kd : EC} (e : (adr K kd.cnm).isSome = true) : mg kd.cnm = some (.ref (caOf K kd)) := by
  obtain ⟨a, ha⟩ := Option.isSome_iff_exists.mp e
  rw [adr_mg X G ha]
  unfold caOf
  rw [ha]; rfl
theorem chk_ok {P : Program} {w : World} {K : Frag} {mg : Str → Option Value} {base : Heap} {h : Heap} {W : LawD} (X : K.In h) (G : h.Ns mainGlobals mg) (c : chk P K W = true) (wr : WordRun W.wN W.wB) :
    ModF P w K mg base (W.fa K) (caOf K) W.G ∧ ∀ f a, W.fa K f = some a → Told K W.T W.G W.n1 W.n2 f a := by
  unfold chk at c
  simp only [Bool.and_eq_true, List.all_eq_true, decide_eq_true_eq] at c
  obtain ⟨⟨⟨⟨⟨⟨⟨⟨c1, c2⟩, c3⟩, c4⟩, c5⟩, c6⟩, c7⟩, c8⟩, c9⟩ := c
  have hblt : ∀ x ∈ bltNames, mg (x : Str) = none := fun x hx => PySem.W.mg_none_of X G (c7 x hx)
  have hers : ∀ x kd, W.ers.lookup x = some kd → x = kd.cnm ∧ kd ≠ .cmd ∧ mg x = some (.ref (caOf K kd)) ∧ ∃ fI, PySem.ErrX.ErrTxt P K mg (caOf K kd) fI kd.fld := fun x kd hl => by
    obtain ⟨⟨⟨h1, h2⟩, h3⟩, h4⟩ := c4 _ (lookup_mem hl)
    have h1 : x = kd.cnm := h1
    have h3 : (adr K x).isSome = true := h3
    refine ⟨h1, h2, ?_, errChk_ok X G h4⟩
    rw [h1] at h3 ⊢
    exact caOf_mg X G h3
  have hcav : mg "CaveError" = some (.ref (caOf K .cave)) := caOf_mg X G (kd := .cave) c5
  have hfn : ∀ f d, W.defs[f]? = some d → ∀ a, adr K d.1 = some a → W.fa K f = some a := fun f d hd a ha => by unfold LawD.fa; rw [hd]; exact ha
  have told : ∀ f a, W.fa K f = some a → Told K W.T W.G W.n1 W.n2 f a := fun f a hf => by
    unfold LawD.fa at hf
    cases hd : W.defs[f]? with
    | none => rw [hd] at hf; cases hf
    | some d =>
      rw [hd] at hf
      have hf : adr K d.1 = some a := hf
      have hc := c1 d (List.mem_of_getElem? hd)
      unfold defChk at hc
      rw [hf] at hc
      simp only at hc
      split at hc
      · rename_i fd hfd
        simp only [Bool.and_eq_true, decide_eq_true_eq] at hc
        exact ⟨fd, d.2.1, d.2.2, hfd, hc.1.1, by unfold LawD.T; rw [hd]; rfl, hc.1.2, hc.2⟩
      · cases hc
  refine ⟨⟨fun x d hl => ?_, hblt, fun x kd hl => ?_, ⟨hcav, fun kd hk => c6 kd (kinds_all hk)⟩, fun p hp => ?_, fun Y b h1 h2 h3 h4 h5 h6 h7 h8 => ?_⟩, told⟩
  · have hc := c3 _ (lookup_mem hl)
    unfold cnChk at hc
    split at hc
    · rename_i u hu
      obtain ⟨v, rv, rd⟩ := valIs_ok hc
      exact ⟨u, v, PySem.W.mg_of X G hu, rv, rd⟩
    · cases hc
  · obtain ⟨_, h2, h3, fI, h4⟩ := hers x kd hl
    exact ⟨fI, h4, h3, h2⟩
  · have hc := c2 p hp
    unfold fnChk at hc
    split at hc
    · rename_i d hd
      simp only [Bool.and_eq_true, decide_eq_true_eq] at hc
      obtain ⟨hn, hc⟩ := hc
      split at hc
      · rename_i a ha
        split at hc
        · rename_i fd hfd
          have hfa := hfn _ _ hd a ha
          refine ⟨a, by rw [← hn]; exact adr_mg X G ha, hfa, ?_⟩
          obtain ⟨fd2, N, fn, hd2, hok, hT, hnl, hchk⟩ := told _ _ hfa
          rw [hfd] at hd2; cases hd2
          have F := fdOk_of hok
          have same : ∀ fd', defIn K a = some fd' → fd' = fd := fun fd' e => by rw [hfd] at e; cases e; rfl
          cases hdv : p.2.2 with
          | nil => exact ⟨[], [], fun fd' e => by rw [same fd' e]; exact F.bn, .nil, fun _ _ => .nil⟩
          | cons v r =>
            rw [hdv] at hc
            cases r with
            | cons v2 r2 => cases hc
            | nil =>
              simp only [dflChk, Bool.and_eq_true, Bool.not_eq_true'] at hc
              obtain ⟨hne, hc⟩ := hc
              cases hdf : fd.defaults with
              | ref Td =>
                rw [hdf] at hc
                simp only at hc
                split at hc
                · rename_i ob hob
                  split at hc
                  · rename_i items nn hdat
                    split at hc
                    · rename_i u hit
                      obtain ⟨v', rv, rd⟩ := valIs_ok hc
                      refine ⟨[u], [v'], fun fd' e => ?_, .cons rv .nil, fun F1 μ => .cons (rd F1 μ) .nil⟩
                      rw [same fd' e]
                      intro s us KI hl M A E Q hq
                      have hps : psOf fd ≠ [] := fun z => by rw [z] at hne; cases hne
                      have hcat := List.dropLast_concat_getLast hps
                      have hitems : items = #[u] := by
                        obtain ⟨l⟩ := items
                        simp only at hit
                        rw [hit]
                      refine bind_dfl (qs := (psOf fd).dropLast) (x := (psOf fd).getLast hps) (v := u) F.par hcat.symm F.nd ?_ (fun {Q'} hq' => ?_) (by rw [hcat]; exact hq)
                      · rw [List.length_append, List.length_singleton] at hl
                        rw [List.length_dropLast]; omega
                      · rw [hdf]
                        unfold seqItems?
                        refine wpAny_bind (wpAny_load (KI _ _ hob) ?_)
                        rw [hdat, hitems]
                        exact wpAny_pure hq'
                    · cases hc
                  · cases hc
                · cases hc
              | _ => rw [hdf] at hc; cases hc
        · cases hc
      · cases hc
    · cases hc
  · unfold wordChk at c8
    split at c8
    · rename_i a ha
      split at c8
      · rename_i fd hfd
        simp only [Bool.and_eq_true] at c8
        have Wf : WordF P w K mg (caOf K) W.wG a W.wN W.wB W.n1 W.n2 := ⟨adr_mg X G ha, ⟨fd, hfd, c8.1, c8.2⟩, hblt, fun z kd hl => (hers z kd hl).2.2.1, hcav, fun kd hk1 hk2 => isChk_ok (c9 kd (kinds5_all hk1 hk2)), rfl, rfl, wr⟩
        exact hot_of Wf Y b h1 h2 h3 h4 h6
      · cases c8
    · cases c8
end Mp

set_option Elab.async false
set_option linter.all false
set_option maxRecDepth 100000
set_option maxHeartbeats 2000000
/-! M, part 22: the law's end. -/
namespace Mp
open PySem PySem.Spec PyProof.Rows L2
open PySem.W (Frag)
def lawChk (K : Frag) (W : LawD) (li : Nat) (nm : Str) : Bool := match W.defs[li]? with
  | some d => decide (d.1 = nm) && (match adr K d.1 with
    | some a => (match defIn K a with
      | some fd => decide (psOf fd = [("script" : Str)]) && (match fd.defaults with | .none => true | _ => false)
      | none => false)
    | none => false)
  | none => false
theorem binds_one {K : Frag} {fd : FuncData} {N : List Str} {np : Nat} (F : FdOk K fd N np) (hp : psOf fd = [("script" : Str)]) (hd : fd.defaults = .none) (s : Shared) (u : Value) : BindsTo s fd ⟨[u], []⟩ [("script", u)] := by
  intro M A E Q hq
  refine bind_all F.par F.nd ?_ (fun {Q'} hq' => by rw [hd]; exact wpAny_pure (hq' _)) ?_
  · have := congrArg List.length hp
    unfold psOf at this
    rw [List.length_map] at this
    rw [this]; rfl
  · have hp' : fd.params.args.map (·.arg) = [("script" : Str)] := hp
    rw [hp']; exact hq
theorem walkM {l : PySem.W.OpenLaw} {q : Program} {loose : List Str} {XP : (Str → Option Value) → Heap → Prop} {YP : World → Heap → Prop} {d : DefRec} {K : Params → Frag} {W : LawD} {li : Nat} (hn : l.most = some 63) (hdf : d.params.defaults = [])
    (hY : ∀ (w : World) (h : Heap), YP w h → (K w.params).In h) (hc : ∀ w : World, chk l.prog (K w.params) W = true ∧ lawChk (K w.params) W li d.name = true) (wr : WordRun W.wN W.wB)
    (hrun : ∀ ns : List Int, ns.length ≤ 63 → run W.T 60 li [.scr ns] [] (fun d _ => d = .bl true) (fun _ _ => False)) :
    PySem.W.WalkO q loose XP YP l.row.toRowW d [] (fun f vs => PySem.call f vs) := by
  refine L2.walk_of (n := 63) (k := 62) (x := "script") (K := K) (CX := fun w => L2N.CX l.prog w) (sp := fun w => spM (K w.params) (W.fa (K w.params)) (caOf (K w.params)) (run W.T 60 li)) hn (by decide) hdf ⟨rfl, by decide, by decide⟩ hY
    (fun w mg fa h KX G hmg => ?_) (fun w H a ns hl hO hS => ?_) fun w H s e s' ⟨_, _, _, _, _, _, _, _, _, _, _, _, z⟩ => z
  · obtain ⟨c1, c2⟩ := hc w
    unfold lawChk at c2
    split at c2
    · rename_i dd hdd
      simp only [Bool.and_eq_true, decide_eq_true_eq] at c2
      obtain ⟨hnm, c2⟩ := c2
      split at c2
      · rename_i a ha
        have hmg2 := adr_mg KX G ha
        rw [hnm, hmg] at hmg2
        cases hmg2
        have hfa : W.fa (K w.params) li = some fa := by unfold LawD.fa; rw [hdd]; exact ha
        split at c2
        · rename_i fd hfd
          simp only [Bool.and_eq_true, decide_eq_true_eq] at c2
          obtain ⟨hps, hdn⟩ := c2
          have hdn : fd.defaults = .none := by
            split at hdn
            · assumption
            · cases hdn
          obtain ⟨_, told0⟩ := chk_ok (w := w) (base := h) KX G c1 wr
          obtain ⟨fd2, N, fn, hd2, hok, _⟩ := told0 _ _ hfa
          rw [hfd] at hd2; cases hd2
          refine ⟨fd, fun s u => binds_one (fdOk_of hok) hps hdn s u, fun base hB hG => ?_⟩
          obtain ⟨M, told⟩ := chk_ok (w := w) (base := base) KX G c1 wr
          obtain ⟨fd3, hd3, hF, _⟩ := all_defs M told 60 li fa hfa
          rw [hfd] at hd3; cases hd3
          rw [hps] at hF
          exact hF
        · cases c2
      · cases c2
    · cases c2
  · have wi : WI (K w.params) (W.fa (K w.params)) H (fun _ => none) [] [] H := by
      refine ⟨fun _ _ z => z, fun _ _ z => ?_, fun _ z => ?_, fun _ _ z => ?_, fun _ _ z => ?_, List.nodup_nil, rfl, fun _ _ _ z => ?_⟩ <;> cases z
    refine ⟨H, fun _ => none, [], [], [.scr ns], _, _, wi, .cons (.scr hS) .nil, hrun ns hl, fun v H' ⟨F', μ', d', S', e', w', r', hd⟩ => ?_, fun cls d' H' ⟨_, _, _, _, _, _, _, z⟩ => z⟩
    subst hd
    cases r'
    rfl
end Mp

set_option Elab.async false
set_option linter.all false
set_option maxRecDepth 100000
set_option maxHeartbeats 2000000
/-! M, part 23: the word, by M. -/
namespace Mp
open PySem PySem.Spec PyProof.Rows L2
def word1 : MS := (.cons (.set (.nm 1) (.lst false (.cons (.con (.str "map ")) (.cons (.con (.str "argument ")) (.cons (.con (.str "paper ")) (.cons (.con (.str "many ")) .nil))))))
  (.cons (.set (.nm 2) (.lst false (.cons (.isE .map (.var 0)) (.cons (.isE .arg (.var 0)) (.cons (.isE .paper (.var 0)) (.cons (.isE .many (.var 0)) (.cons (.isE .text (.var 0)) .nil)))))))
  (.cons (.ite (.or (.not (.isE .cave (.var 0))) (.cmp .NotEq (.mth .count (.var 2) (.cons (.con (.bl true)) .nil)) (.con (.int 1)))) (.cons (.ret (.con (.str "other")))
  .nil) .nil)
  (.cons (.ret (.ite (.idx (.var 2) (.con (.int 4))) (.bin .Add false (.con (.str "text ")) (.blt .str false (.cons (.fldE "at" (.var 0)) .nil))) (.bin .Add false (.idx (.var 1) (.mth .index (.var 2) (.cons (.con (.bl true)) .nil))) (.blt .str false (.cons (.fldE "reason" (.var 0)) .nil)))))
  .nil))))
theorem okD_int (i : Int) : okD (.int i) := ⟨rfl, Nat.zero_le _⟩
theorem okD_bl (b : Bool) : okD (.bl b) := ⟨rfl, Nat.zero_le _⟩
theorem okD_str (x : Str) : okD (.str x) := ⟨rfl, Nat.zero_le _⟩
theorem okD_non : okD .non := ⟨rfl, Nat.zero_le _⟩
theorem eqv_int (i j : Int) : D.eqv (.int i) (.int j) = decide (i = j) := by
  show (i == j) = decide (i = j)
  by_cases h : i = j <;> simp [h]
theorem eqv_bl (i j : Bool) : D.eqv (.bl i) (.bl j) = (i == j) := rfl
theorem eqv_str (i j : Str) : D.eqv (.str i) (.str j) = (i == j) := rfl
theorem size_ge {n : Nat} (h : n ≤ 1000) : n ≤ sizeLine := by rw [sizeLine_eq]; omega
theorem size_ge' {m n : Nat} (h0 : m ≤ 20) (h : n ≤ 1000) : m + n ≤ sizeLine := by rw [sizeLine_eq]; omega
theorem word1_run (N : List Str) (hN : N.length = 3) : WordRun N word1 := by
  intro e z hz
  obtain ⟨k, a⟩ := e
  rw [hN]
  unfold wordOf at hz
  split at hz
  all_goals (try (split at hz))
  all_goals (try (cases hz; done))
  all_goals
    rename_i h1 h2 h3
    simp only at h1 h2
    subst h1 h2
    cases hz
    simp [word1, ex, ev, evL, start, tgt, mkL, tst, tru, size_ge, mTy, mth, mCount, mIndex, cop, cNe, res, okD_int, okD_bl, seqL, eqv_int, eqv_bl, blt, fStr, EC.fld, atD, atI, ixN, bop, bAdd, h3]
  · rename_i i
    have h9 : (Str.ofString (i.repr)).length ≤ 1921 := PyProof.Rows.int_text_len_1921 h3
    exact ⟨⟨rfl, by decide⟩, by
      have h8 : (Str.ofString "text ").length ≤ 20 := by decide
      rw [sizeLine_eq]; omega⟩
  · exact ⟨⟨rfl, by decide⟩, 0, .bl true, rfl, rfl, fun k z' hk => absurd hk (Nat.not_lt_zero k), .str "map ", rfl, size_ge' (by decide) h3, rfl⟩
  · exact ⟨⟨rfl, by decide⟩, 1, .bl true, rfl, rfl, fun k z' hk hz => by
      have : k = 0 := by omega
      subst this; cases hz; rfl, .str "argument ", rfl, size_ge' (by decide) h3, rfl⟩
  · exact ⟨⟨rfl, by decide⟩, 2, .bl true, rfl, rfl, fun k z' hk hz => by
      have : k = 0 ∨ k = 1 := by omega
      rcases this with rfl | rfl <;> cases hz <;> rfl, .str "paper ", rfl, size_ge' (by decide) h3, rfl⟩
  · exact ⟨⟨rfl, by decide⟩, 3, .bl true, rfl, rfl, fun k z' hk hz => by
      have : k = 0 ∨ k = 1 ∨ k = 2 := by omega
      rcases this with rfl | rfl | rfl <;> cases hz <;> rfl, .str "many ", rfl, size_ge' (by decide) h3, rfl⟩
end Mp

set_option Elab.async false
set_option linter.all false
set_option maxRecDepth 100000
set_option maxHeartbeats 2000000
/-! M, part 24: working by M. -/
namespace Mp
open PySem PySem.Spec PyProof.Rows L2
@[simp] theorem isT_int (t : TN) (i : Int) : isT t (.int i) = some (decide (t = .int)) := by cases t <;> rfl
@[simp] theorem isT_bl (t : TN) (i : Bool) : isT t (.bl i) = some (decide (t = .int) || decide (t = .bool)) := by cases t <;> rfl
@[simp] theorem isT_str (t : TN) (i : Str) : isT t (.str i) = some (decide (t = .str)) := by cases t <;> rfl
@[simp] theorem isT_tup (t : TN) (i : List D) : isT t (.tup i) = some (decide (t = .tuple)) := by cases t <;> rfl
@[simp] theorem isT_lst (t : TN) (i : List D) : isT t (.lst i) = some (decide (t = .list)) := by cases t <;> rfl
@[simp] theorem isT_non (t : TN) : isT t .non = some false := by cases t <;> rfl
@[simp] theorem tst_bl {S : Store} {b : Bool} {P : Bool → Prop} : tst S (.bl b) P = P b := by simp [tst, tru]
@[simp] theorem tst_int {S : Store} {i : Int} {P : Bool → Prop} : tst S (.int i) P = P (i != 0) := by simp [tst, tru]
@[simp] theorem tst_non {S : Store} {P : Bool → Prop} : tst S .non P = P false := by simp [tst, tru]
@[simp] theorem tst_str {S : Store} {i : Str} {P : Bool → Prop} : tst S (.str i) P = P ((i.length : Int) != 0) := by simp [tst, tru]
@[simp] theorem tst_tup {S : Store} {i : List D} {P : Bool → Prop} : tst S (.tup i) P = P (!i.isEmpty) := by cases i <;> simp [tst, tru]
@[simp] theorem tst_lst {S : Store} {i : List D} {P : Bool → Prop} : tst S (.lst i) P = P (!i.isEmpty) := by cases i <;> simp [tst, tru, seqL]
@[simp] theorem cLt_int {i j : Int} {S : Store} {Q : MK} : cop .Lt (.int i) (.int j) S Q = Q (.bl (decide (i < j))) S := rfl
@[simp] theorem cGt_int {i j : Int} {S : Store} {Q : MK} : cop .Gt (.int i) (.int j) S Q = Q (.bl (decide (j < i))) S := rfl
@[simp] theorem cLe_int {i j : Int} {S : Store} {Q : MK} : cop .LtE (.int i) (.int j) S Q = Q (.bl (decide (i ≤ j))) S := rfl
@[simp] theorem cGe_int {i j : Int} {S : Store} {Q : MK} : cop .GtE (.int i) (.int j) S Q = Q (.bl (decide (j ≤ i))) S := rfl
@[simp] theorem cEq_int {i j : Int} {S : Store} {Q : MK} : cop .Eq (.int i) (.int j) S Q = Q (.bl (decide (i = j))) S := by simp [cop, cEq, res, okD_int, eqv_int]
@[simp] theorem cNe_int {i j : Int} {S : Store} {Q : MK} : cop .NotEq (.int i) (.int j) S Q = Q (.bl (!decide (i = j))) S := by simp [cop, cNe, res, okD_int, eqv_int]
@[simp] theorem cEq_str {i j : Str} {S : Store} {Q : MK} : cop .Eq (.str i) (.str j) S Q = Q (.bl (i == j)) S := by simp [cop, cEq, res, okD_str, eqv_str]
@[simp] theorem cNe_str {i j : Str} {S : Store} {Q : MK} : cop .NotEq (.str i) (.str j) S Q = Q (.bl (!(i == j))) S := by simp [cop, cNe, res, okD_str, eqv_str]
@[simp] theorem bSub_int {m : Bool} {i j : Int} {S : Store} {Q : MK} : bop .Sub m (.int i) (.int j) S Q = Q (.int (i - j)) S := rfl
@[simp] theorem bAdd_int {m : Bool} {i j : Int} {S : Store} {Q : MK} : bop .Add m (.int i) (.int j) S Q = Q (.int (i + j)) S := rfl
@[simp] theorem bMul_int {m : Bool} {i j : Int} {S : Store} {Q : MK} : bop .Mult m (.int i) (.int j) S Q = (MulOk i j ∧ Q (.int (i * j)) S) := rfl
@[simp] theorem bDiv_int {m : Bool} {i j : Int} {S : Store} {Q : MK} : bop .FloorDiv m (.int i) (.int j) S Q = (CDivW i j ∧ Q (.int (i / j)) S) := rfl
@[simp] theorem bMod_int {m : Bool} {i j : Int} {S : Store} {Q : MK} : bop .Mod m (.int i) (.int j) S Q = (0 < j ∧ Q (.int (i % j)) S) := rfl
@[simp] theorem bAdd_tup {m : Bool} {i j : List D} {S : Store} {Q : MK} : bop .Add m (.tup i) (.tup j) S Q = (i.length + j.length ≤ sizeLine ∧ Q (.tup (i ++ j)) S) := rfl
@[simp] theorem fLen_tup {m : Bool} {i : List D} {S : Store} {Q : MK} : blt .len m [.tup i] S Q = Q (.int i.length) S := by simp [blt, fLen, lenD, items]
@[simp] theorem fLen_lst {m : Bool} {i : List D} {S : Store} {Q : MK} : blt .len m [.lst i] S Q = Q (.int i.length) S := by simp [blt, fLen, lenD, items, seqL]
@[simp] theorem fLen_str {m : Bool} {i : Str} {S : Store} {Q : MK} : blt .len m [.str i] S Q = Q (.int i.length) S := by simp [blt, fLen, lenD]
theorem fLen_ref {m : Bool} {n : Nat} {i : List D} {S : Store} {Q : MK} (h : S[n]? = some (.lst i)) : blt .len m [.ref n] S Q = Q (.int i.length) S := by simp [blt, fLen, lenD, items, seqL, h]
@[simp] theorem fInt_int {m : Bool} {i : Int} {S : Store} {Q : MK} : blt .int m [.int i] S Q = Q (.int i) S := rfl
@[simp] theorem fAbs_int {m : Bool} {i : Int} {S : Store} {Q : MK} : blt .abs m [.int i] S Q = Q (.int (if i < 0 then -i else i)) S := rfl
@[simp] theorem atD_tup {S : Store} {xs : List D} {i : Int} : atD S (.tup xs) i = atI xs i := rfl
@[simp] theorem atD_lst {S : Store} {xs : List D} {i : Int} : atD S (.lst xs) i = atI xs i := by simp [atD, seqL]
theorem atD_ref {S : Store} {n : Nat} {xs : List D} {i : Int} (h : S[n]? = some (.lst xs)) : atD S (.ref n) i = atI xs i := by simp [atD, seqL, h]
theorem atI_nat {α : Type} {xs : List α} {k : Nat} (h : k < xs.length) : atI xs (k : Int) = xs[k]? := by
  unfold atI
  have : ixN xs.length (k : Int) = some k := by
    unfold ixN
    simp [h]
  rw [this]; rfl
@[simp] theorem s_ev_1 {c : C} {E : EK} {i} {env : DEnv} {S : Store} {Q : MK} : ev c E (.var i) env S Q = (∃ d, env[i]? = some (some d) ∧ Q d S) := by rw [ev]
@[simp] theorem s_ev_2 {c : C} {E : EK} {d} {env : DEnv} {S : Store} {Q : MK} : ev c E (.con d) env S Q = (Q d S) := by rw [ev]
@[simp] theorem s_ev_3 {c : C} {E : EK} {op m a e} {env : DEnv} {S : Store} {Q : MK} : ev c E (.bin op m a e) env S Q = (ev c E a env S fun x S1 => ev c E e env S1 fun y S2 => bop op m x y S2 Q) := by rw [ev]
@[simp] theorem s_ev_4 {c : C} {E : EK} {a} {env : DEnv} {S : Store} {Q : MK} : ev c E (.neg a) env S Q = (ev c E a env S fun x S1 => ∃ i, x = .int i ∧ Q (.int (-i)) S1) := by rw [ev]
@[simp] theorem s_ev_5 {c : C} {E : EK} {a} {env : DEnv} {S : Store} {Q : MK} : ev c E (.not a) env S Q = (ev c E a env S fun x S1 => tst S1 x fun k => Q (.bl (!k)) S1) := by rw [ev]
@[simp] theorem s_ev_6 {c : C} {E : EK} {op a e} {env : DEnv} {S : Store} {Q : MK} : ev c E (.cmp op a e) env S Q = (ev c E a env S fun x S1 => ev c E e env S1 fun y S2 => cop op x y S2 Q) := by rw [ev]
@[simp] theorem s_ev_7 {c : C} {E : EK} {o1 o2 a e g} {env : DEnv} {S : Store} {Q : MK} : ev c E (.ch2 o1 o2 a e g) env S Q = (ev c E a env S fun x S1 => ev c E e env S1 fun y S2 => cop o1 x y S2 fun r S3 => ∃ k, r = .bl k ∧ if k = true then ev c E g env S3 fun z S4 => cop o2 y z S4 Q else Q (.bl false) S3) := by rw [ev]
@[simp] theorem s_ev_8 {c : C} {E : EK} {ng a} {env : DEnv} {S : Store} {Q : MK} : ev c E (.isn ng a) env S Q = (ev c E a env S fun x S1 => Q (.bl (isN ng x)) S1) := by rw [ev]
@[simp] theorem s_ev_9 {c : C} {E : EK} {a e} {env : DEnv} {S : Store} {Q : MK} : ev c E (.and a e) env S Q = (ev c E a env S fun x S1 => tst S1 x fun k => if k = true then ev c E e env S1 Q else Q x S1) := by rw [ev]
@[simp] theorem s_ev_10 {c : C} {E : EK} {a e} {env : DEnv} {S : Store} {Q : MK} : ev c E (.or a e) env S Q = (ev c E a env S fun x S1 => tst S1 x fun k => if k = true then Q x S1 else ev c E e env S1 Q) := by rw [ev]
@[simp] theorem s_ev_11 {c : C} {E : EK} {t a e} {env : DEnv} {S : Store} {Q : MK} : ev c E (.ite t a e) env S Q = (ev c E t env S fun x S1 => tst S1 x fun k => if k = true then ev c E a env S1 Q else ev c E e env S1 Q) := by rw [ev]
@[simp] theorem s_ev_12 {c : C} {E : EK} {es} {env : DEnv} {S : Store} {Q : MK} : ev c E (.tup es) env S Q = (evL c E es env S fun xs S1 => xs.length ≤ sizeLine ∧ Q (.tup xs) S1) := by rw [ev]
@[simp] theorem s_ev_13 {c : C} {E : EK} {m es} {env : DEnv} {S : Store} {Q : MK} : ev c E (.lst m es) env S Q = (evL c E es env S fun xs S1 => xs.length ≤ sizeLine ∧ mkL m xs S1 Q) := by rw [ev]
@[simp] theorem s_ev_14 {c : C} {E : EK} {f dv es} {env : DEnv} {S : Store} {Q : MK} : ev c E (.call f dv es) env S Q = (evL c E es env S fun xs S1 => c.call f (xs ++ dv) S1 Q fun e S2 => E e env S2) := by rw [ev]
@[simp] theorem s_ev_15 {c : C} {E : EK} {i es} {env : DEnv} {S : Store} {Q : MK} : ev c E (.callv i es) env S Q = (∃ f, env[i]? = some (some (.fn f)) ∧ evL c E es env S fun xs S1 => c.call f xs S1 Q fun e S2 => E e env S2) := by rw [ev]
@[simp] theorem s_ev_16 {c : C} {E : EK} {f m es} {env : DEnv} {S : Store} {Q : MK} : ev c E (.blt f m es) env S Q = (evL c E es env S fun xs S1 => blt f m xs S1 Q) := by rw [ev]
@[simp] theorem s_ev_17 {c : C} {E : EK} {t e} {env : DEnv} {S : Store} {Q : MK} : ev c E (.isi t e) env S Q = (ev c E e env S fun d S1 => ∃ k, isT t d = some k ∧ Q (.bl k) S1) := by rw [ev]
@[simp] theorem s_ev_18 {c : C} {E : EK} {m a e} {env : DEnv} {S : Store} {Q : MK} : ev c E (.lrng m a e) env S Q = (ev c E a env S fun x S1 => ev c E e env S1 fun y S2 => ∃ i j, x = .int i ∧ y = .int j ∧ RgOk i j ∧ mkL m (rngL i j) S2 Q) := by rw [ev]
@[simp] theorem s_ev_19 {c : C} {E : EK} {f o es} {env : DEnv} {S : Store} {Q : MK} : ev c E (.mth f o es) env S Q = (ev c E o env S fun x S1 => mTy S1 f x = true ∧ evL c E es env S1 fun xs S2 => mth f x xs S2 Q) := by rw [ev]
@[simp] theorem s_ev_20 {c : C} {E : EK} {a i} {env : DEnv} {S : Store} {Q : MK} : ev c E (.idx a i) env S Q = (ev c E a env S fun x S1 => ev c E i env S1 fun y S2 => ∃ k d, y = .int k ∧ atD S2 x k = some d ∧ Q d S2) := by rw [ev]
@[simp] theorem s_ev_21 {c : C} {E : EK} {m a lo hi} {env : DEnv} {S : Store} {Q : MK} : ev c E (.slc m a lo hi) env S Q = (ev c E a env S fun x S1 => evO c E lo env S1 fun l S2 => evO c E hi env S2 fun h S3 => slD m x l h S3 Q) := by rw [ev]
@[simp] theorem s_ev_22 {c : C} {E : EK} {m a} {env : DEnv} {S : Store} {Q : MK} : ev c E (.rev m a) env S Q = (ev c E a env S fun x S1 => revD m x S1 Q) := by rw [ev]
@[simp] theorem s_ev_23 {c : C} {E : EK} {m own t it k r} {env : DEnv} {S : Store} {Q : MK} : ev c E (.lc m own t it k r) env S Q = (evI c E it env S fun s S1 => ∃ xs, srcL S1 s = some xs ∧
    genL (fun x S2 acc2 Q2 => tgt t x (wipeD env own) S2 fun env2 => ev c (fun _ _ _ => False) k env2 S2 fun y S3 => tst S3 y fun p =>
      if p = true then evG c r env2 S3 acc2 fun acc3 S4 => srcL S4 s = some xs ∧ Q2 acc3 S4 else srcL S3 s = some xs ∧ Q2 acc2 S3) xs S1 [] fun zs S9 => mkL m zs S9 Q) := by rw [ev]
@[simp] theorem s_ev_24 {c : C} {E : EK} {kd a} {env : DEnv} {S : Store} {Q : MK} : ev c E (.isE kd a) env S Q = (ev c E a env S fun x S1 => x = .fn xno ∧ ∃ e0, c.hot = some e0 ∧ Q (.bl (decide (kd = .cave) || decide (e0.cls = kd))) S1) := by rw [ev]
@[simp] theorem s_ev_25 {c : C} {E : EK} {f a} {env : DEnv} {S : Store} {Q : MK} : ev c E (.fldE f a) env S Q = (ev c E a env S fun x S1 => x = .fn xno ∧ ∃ e0, c.hot = some e0 ∧ f = e0.cls.fld ∧ Q e0.arg S1) := by rw [ev]
@[simp] theorem s_ev_26 {c : C} {E : EK} {env : DEnv} {S : Store} {Q : MK} : ev c E (.yes) env S Q = (Q (.bl true) S) := by rw [ev]
@[simp] theorem s_evL_27 {c : C} {E : EK} {env : DEnv} {S : Store} {Q : List D → Store → Prop} : evL c E (.nil) env S Q = (Q [] S) := by rw [evL]
@[simp] theorem s_evL_28 {c : C} {E : EK} {a r} {env : DEnv} {S : Store} {Q : List D → Store → Prop} : evL c E (.cons a r) env S Q = (ev c E a env S fun x S1 => evL c E r env S1 fun xs S2 => Q (x :: xs) S2) := by rw [evL]
@[simp] theorem s_evO_29 {c : C} {E : EK} {env : DEnv} {S : Store} {Q : Option Int → Store → Prop} : evO c E (.abs) env S Q = (Q none S) := by rw [evO]
@[simp] theorem s_evO_30 {c : C} {E : EK} {a} {env : DEnv} {S : Store} {Q : Option Int → Store → Prop} : evO c E (.cons a .nil) env S Q = (ev c E a env S fun x S1 => ∃ i, x = .int i ∧ Q (some i) S1) := by rw [evO]
@[simp] theorem s_evI_31 {c : C} {E : EK} {e} {env : DEnv} {S : Store} {Q : Src → Store → Prop} : evI c E (.itr e) env S Q = (ev c E e env S fun x S1 => ∃ s, srcOf S1 x = some s ∧ Q s S1) := by rw [evI]
@[simp] theorem s_evI_32 {c : C} {E : EK} {a e} {env : DEnv} {S : Store} {Q : Src → Store → Prop} : evI c E (.rng a e) env S Q = (ev c E a env S fun x S1 => ev c E e env S1 fun y S2 => ∃ i j, x = .int i ∧ y = .int j ∧ rOk i ∧ rOk j ∧ Q (.fix (rngL i j)) S2) := by rw [evI]
@[simp] theorem s_evI_33 {c : C} {E : EK} {a e} {env : DEnv} {S : Store} {Q : Src → Store → Prop} : evI c E (.rngD a e) env S Q = (ev c E a env S fun x S1 => ev c E e env S1 fun y S2 => ∃ i j, x = .int i ∧ y = .int j ∧ rOk i ∧ rOk j ∧ Q (.fix ((List.range (i - j).toNat).map fun k => D.int (i - (k : Nat)))) S2) := by rw [evI]
@[simp] theorem s_evI_34 {c : C} {E : EK} {e} {env : DEnv} {S : Store} {Q : Src → Store → Prop} : evI c E (.enm e) env S Q = (ev c E e env S fun x S1 => ∃ xs, (x = .tup xs ∨ x = .lst xs) ∧ Q (.fix (pairs 0 xs)) S1) := by rw [evI]
@[simp] theorem s_evI_35 {c : C} {E : EK} {a e} {env : DEnv} {S : Store} {Q : Src → Store → Prop} : evI c E (.zip2 a e) env S Q = (ev c E a env S fun x S1 => ev c E e env S1 fun y S2 => ∃ xs ys, (x = .tup xs ∨ x = .lst xs) ∧ (y = .tup ys ∨ y = .lst ys) ∧ Q (.fix (zipD xs ys)) S2) := by rw [evI]
@[simp] theorem s_evG_36 {c : C} {e} {env : DEnv} {S : Store} {acc : List D} {Q : List D → Store → Prop} : evG c (.gend e) env S acc Q = (ev c (fun _ _ _ => False) e env S fun d S1 => acc.length < sizeLine ∧ Q (acc ++ [d]) S1) := by rw [evG]
@[simp] theorem s_evG_37 {c : C} {t own it k r} {env : DEnv} {S : Store} {acc : List D} {Q : List D → Store → Prop} : evG c (.gfor t own it k r) env S acc Q = (evI c (fun _ _ _ => False) it env S fun s S1 => ∃ xs, srcL S1 s = some xs ∧
    genL (fun x S2 acc2 Q2 => tgt t x (wipeD env own) S2 fun env2 => ev c (fun _ _ _ => False) k env2 S2 fun y S3 => tst S3 y fun p =>
      if p = true then evG c r env2 S3 acc2 fun acc3 S4 => srcL S4 s = some xs ∧ Q2 acc3 S4 else srcL S3 s = some xs ∧ Q2 acc2 S3) xs S1 acc Q) := by rw [evG]
@[simp] theorem s_ex_38 {c : C} {E : EK} {env : DEnv} {S : Store} {K : MKs} : ex c E (.nil) env S K = (K.nx env S) := by first | (rw [ex]; done) | (rw [ex]; rfl)
@[simp] theorem s_ex_39 {c : C} {E : EK} {s r} {env : DEnv} {S : Store} {K : MKs} : ex c E (.cons s r) env S K = (ex c E s env S { K with nx := fun env1 S1 => ex c E r env1 S1 K }) := by first | (rw [ex]; done) | (rw [ex]; rfl)
@[simp] theorem s_ex_40 {c : C} {E : EK} {e} {env : DEnv} {S : Store} {K : MKs} : ex c E (.exp e) env S K = (ev c E e env S fun _ S1 => K.nx env S1) := by first | (rw [ex]; done) | (rw [ex]; rfl)
@[simp] theorem s_ex_41 {c : C} {E : EK} {t e} {env : DEnv} {S : Store} {K : MKs} : ex c E (.set t e) env S K = (ev c E e env S fun d S1 => tgt t d env S1 fun env1 => K.nx env1 S1) := by first | (rw [ex]; done) | (rw [ex]; rfl)
@[simp] theorem s_ex_42 {c : C} {E : EK} {i op e} {env : DEnv} {S : Store} {K : MKs} : ex c E (.aug i op e) env S K = (∃ x, env[i]? = some (some x) ∧ ev c E e env S fun y S1 => ∃ a d k, x = .int a ∧ y = .int d ∧ augI op a d = some k ∧ K.nx (env.set i (some (.int k))) S1) := by first | (rw [ex]; done) | (rw [ex]; rfl)
@[simp] theorem s_ex_43 {c : C} {E : EK} {o i e} {env : DEnv} {S : Store} {K : MKs} : ex c E (.sset o i e) env S K = (ev c E e env S fun d S1 => ev c E o env S1 fun x S2 => ev c E i env S2 fun y S3 =>
      ∃ n xs k j, x = .ref n ∧ S3[n]? = some (.lst xs) ∧ y = .int k ∧ ixN xs.length k = some j ∧ K.nx env (S3.set n (.lst (xs.set j d)))) := by first | (rw [ex]; done) | (rw [ex]; rfl)
@[simp] theorem s_ex_44 {c : C} {E : EK} {t a e} {env : DEnv} {S : Store} {K : MKs} : ex c E (.ite t a e) env S K = (ev c E t env S fun x S1 => tst S1 x fun p => if p = true then ex c E a env S1 K else ex c E e env S1 K) := by first | (rw [ex]; done) | (rw [ex]; rfl)
@[simp] theorem s_ex_45 {c : C} {E : EK} {t it b} {env : DEnv} {S : Store} {K : MKs} : ex c E (.«for» t it b) env S K = (evI c E it env S fun s S1 => match s with
    | .fix xs => forL (fun x env1 S2 P => tgt t x env1 S2 fun env2 => ex c E b env2 S2 { nx := P, rt := K.rt, bk := K.nx, ct := P }) K.nx xs env S1
    | .live n => ∃ k, forR (fun x env1 S2 P => tgt t x env1 S2 fun env2 => ex c E b env2 S2 { nx := P, rt := K.rt, bk := K.nx, ct := P }) K.nx n k 0 env S1
    | .keys n u => ∃ xs, srcL S1 (.keys n u) = some xs ∧ forL (fun x env1 S2 P => tgt t x env1 S2 fun env2 => ex c E b env2 S2 { nx := fun env3 S3 => srcL S3 (.keys n u) = some xs ∧ P env3 S3, rt := K.rt, bk := K.nx, ct := fun env3 S3 => srcL S3 (.keys n u) = some xs ∧ P env3 S3 }) K.nx xs env S1
    | .enl n => ∃ xs, srcL S1 (.enl n) = some xs ∧ forL (fun x env1 S2 P => tgt t x env1 S2 fun env2 => ex c E b env2 S2 { nx := fun env3 S3 => srcL S3 (.enl n) = some xs ∧ P env3 S3, rt := K.rt, bk := K.nx, ct := fun env3 S3 => srcL S3 (.enl n) = some xs ∧ P env3 S3 }) K.nx xs env S1) := by first | (rw [ex]; done) | (rw [ex]; rfl)
@[simp] theorem s_ex_46 {c : C} {E : EK} {t b} {env : DEnv} {S : Store} {K : MKs} : ex c E (.whl t b) env S K = (∃ k, whlN (fun env1 S1 Q => ev c E t env1 S1 Q) (fun env1 S1 P => ex c E b env1 S1 { nx := P, rt := K.rt, bk := K.nx, ct := P }) K.nx k env S) := by first | (rw [ex]; done) | (rw [ex]; rfl)
@[simp] theorem s_ex_47 {c : C} {E : EK} {e} {env : DEnv} {S : Store} {K : MKs} : ex c E (.ret e) env S K = (ev c E e env S K.rt) := by first | (rw [ex]; done) | (rw [ex]; rfl)
@[simp] theorem s_ex_48 {c : C} {E : EK} {env : DEnv} {S : Store} {K : MKs} : ex c E (.retN) env S K = (K.rt .non S) := by first | (rw [ex]; done) | (rw [ex]; rfl)
@[simp] theorem s_ex_49 {c : C} {E : EK} {k e} {env : DEnv} {S : Store} {K : MKs} : ex c E (.rse k e) env S K = (ev c E e env S fun d S1 => E ⟨k, d⟩ env S1) := by first | (rw [ex]; done) | (rw [ex]; rfl)
@[simp] theorem s_ex_50 {c : C} {E : EK} {env : DEnv} {S : Store} {K : MKs} : ex c E (.brk) env S K = (K.bk env S) := by first | (rw [ex]; done) | (rw [ex]; rfl)
@[simp] theorem s_ex_51 {c : C} {E : EK} {env : DEnv} {S : Store} {K : MKs} : ex c E (.cnt) env S K = (K.ct env S) := by first | (rw [ex]; done) | (rw [ex]; rfl)
@[simp] theorem s_ex_52 {c : C} {E : EK} {env : DEnv} {S : Store} {K : MKs} : ex c E (.pss) env S K = (K.nx env S) := by first | (rw [ex]; done) | (rw [ex]; rfl)
@[simp] theorem s_ex_53 {c : C} {E : EK} {b} {env : DEnv} {S : Store} {K : MKs} : ex c E (.tryw b) env S K = (ex c (fun e _ S1 => ∃ z, wordOf e = some z ∧ K.rt (.str z) S1) b env S K) := by first | (rw [ex]; done) | (rw [ex]; rfl)

@[simp] theorem s_tgt_nm {i : Nat} {d : D} {env : DEnv} {S : Store} {P : DEnv → Prop} : tgt (.nm i) d env S P = P (env.set i (some d)) := by rw [tgt]
@[simp] theorem s_tgt_tp {ts : MT} {d : D} {env : DEnv} {S : Store} {P : DEnv → Prop} : tgt (.tp ts) d env S P = (∃ xs, d = .tup xs ∧ tgts ts xs env S P) := by rw [tgt]
@[simp] theorem s_tgts_nil {xs : List D} {env : DEnv} {S : Store} {P : DEnv → Prop} : tgts .nil xs env S P = (xs = [] ∧ P env) := by rw [tgts]
@[simp] theorem s_tgts_cons {a r : MT} {xs : List D} {env : DEnv} {S : Store} {P : DEnv → Prop} : tgts (.cons a r) xs env S P = (∃ x ys, xs = x :: ys ∧ tgt a x env S fun env1 => tgts r ys env1 S P) := by rw [tgts]
@[simp] theorem s_start {n : Nat} {ds : List D} : Mp.start n ds = ds.map some ++ List.replicate (n - ds.length) none := rfl
@[simp] theorem s_isN_non {ng : Bool} : isN ng .non = !ng := rfl
@[simp] theorem s_isN_bl {ng b : Bool} : isN ng (.bl b) = ng := rfl
@[simp] theorem s_isN_int {ng : Bool} {i : Int} : isN ng (.int i) = ng := rfl
@[simp] theorem s_isN_str {ng : Bool} {i : Str} : isN ng (.str i) = ng := rfl
@[simp] theorem s_isN_tup {ng : Bool} {i : List D} : isN ng (.tup i) = ng := rfl
@[simp] theorem s_src_tup {S : Store} {xs : List D} : srcOf S (.tup xs) = some (.fix xs) := rfl
@[simp] theorem s_src_lst {S : Store} {xs : List D} : srcOf S (.lst xs) = some (.fix xs) := rfl
theorem s_src_ref {S : Store} {n : Nat} {xs : List D} (h : S[n]? = some (.lst xs)) : srcOf S (.ref n) = some (.live n) := by simp [srcOf, h]
@[simp] theorem s_src_scr {S : Store} {ns : List Int} : srcOf S (.scr ns) = some (.fix (ns.map .int)) := rfl
@[simp] theorem s_srcL_fix {S : Store} {xs : List D} : srcL S (.fix xs) = some xs := rfl
@[simp] theorem s_mkL_f {xs : List D} {S : Store} {Q : MK} : mkL false xs S Q = Q (.lst xs) S := rfl
@[simp] theorem s_mkL_t {xs : List D} {S : Store} {Q : MK} : mkL true xs S Q = Q (.ref S.length) (S ++ [.lst xs]) := rfl
end Mp

set_option Elab.async false
set_option linter.all false
set_option maxRecDepth 100000
set_option maxHeartbeats 2000000
/-! M, part 25: steps, from the outside in. -/
namespace Mp
open PySem PySem.Spec PyProof.Rows L2
def forS (F : D → DEnv → Store → (DEnv → Store → Prop) → Prop) (nx : DEnv → Store → Prop) (env : DEnv) (S : Store) : Src → Prop
  | .fix xs => forL F nx xs env S
  | .live n => ∃ k, forR F nx n k 0 env S
  | .keys n u => ∃ xs, srcL S (.keys n u) = some xs ∧ forL (fun x env S P => F x env S fun e s => srcL s (.keys n u) = some xs ∧ P e s) nx xs env S
  | .enl n => ∃ xs, srcL S (.enl n) = some xs ∧ forL (fun x env S P => F x env S fun e s => srcL s (.enl n) = some xs ∧ P e s) nx xs env S
section
variable {c : C} {E : EK} {env : DEnv} {S : Store} {Q : MK} {nx bk ct : DEnv → Store → Prop} {rt : MK}
theorem e_var {i : Nat} {d : D} (h : env[i]? = some (some d)) (q : Q d S) : ev c E (.var i) env S Q := by rw [ev]; exact ⟨d, h, q⟩
theorem e_con {d : D} (q : Q d S) : ev c E (.con d) env S Q := by rw [ev]; exact q
theorem e_bin {op : Operator} {m : Bool} {a e : ME} (q : ev c E a env S fun x S1 => ev c E e env S1 fun y S2 => bop op m x y S2 Q) : ev c E (.bin op m a e) env S Q := by rw [ev]; exact q
theorem e_neg {a : ME} (q : ev c E a env S fun x S1 => ∃ i, x = .int i ∧ Q (.int (-i)) S1) : ev c E (.neg a) env S Q := by rw [ev]; exact q
theorem e_not {a : ME} (q : ev c E a env S fun x S1 => tst S1 x fun k => Q (.bl (!k)) S1) : ev c E (.not a) env S Q := by rw [ev]; exact q
theorem e_cmp {op : CmpOp} {a e : ME} (q : ev c E a env S fun x S1 => ev c E e env S1 fun y S2 => cop op x y S2 Q) : ev c E (.cmp op a e) env S Q := by rw [ev]; exact q
theorem e_ch2 {o1 o2 : CmpOp} {a e g : ME} (q : ev c E a env S fun x S1 => ev c E e env S1 fun y S2 => cop o1 x y S2 fun r S3 => ∃ k, r = .bl k ∧ if k = true then ev c E g env S3 fun z S4 => cop o2 y z S4 Q else Q (.bl false) S3) : ev c E (.ch2 o1 o2 a e g) env S Q := by rw [ev]; exact q
theorem e_ch3 {o1 o2 o3 : CmpOp} {a e g l : ME} (q : ev c E a env S fun x S1 => ev c E e env S1 fun y S2 => cop o1 x y S2 fun r S3 => ∃ k, r = .bl k ∧ if k = true then (ev c E g env S3 fun z S4 => cop o2 y z S4 fun r2 S5 => ∃ k2, r2 = .bl k2 ∧ if k2 = true then ev c E l env S5 fun u S6 => cop o3 z u S6 Q else Q (.bl false) S5) else Q (.bl false) S3) : ev c E (.ch3 o1 o2 o3 a e g l) env S Q := by rw [ev]; exact q
theorem e_isn {ng : Bool} {a : ME} (q : ev c E a env S fun x S1 => Q (.bl (isN ng x)) S1) : ev c E (.isn ng a) env S Q := by rw [ev]; exact q
theorem e_and {a e : ME} (q : ev c E a env S fun x S1 => tst S1 x fun k => if k = true then ev c E e env S1 Q else Q x S1) : ev c E (.and a e) env S Q := by rw [ev]; exact q
theorem e_or {a e : ME} (q : ev c E a env S fun x S1 => tst S1 x fun k => if k = true then Q x S1 else ev c E e env S1 Q) : ev c E (.or a e) env S Q := by rw [ev]; exact q
theorem e_ite {t a e : ME} (q : ev c E t env S fun x S1 => tst S1 x fun k => if k = true then ev c E a env S1 Q else ev c E e env S1 Q) : ev c E (.ite t a e) env S Q := by rw [ev]; exact q
theorem e_tup {es : ME} (q : evL c E es env S fun xs S1 => xs.length ≤ sizeLine ∧ Q (.tup xs) S1) : ev c E (.tup es) env S Q := by rw [ev]; exact q
theorem e_lst {m : Bool} {es : ME} (q : evL c E es env S fun xs S1 => xs.length ≤ sizeLine ∧ mkL m xs S1 Q) : ev c E (.lst m es) env S Q := by rw [ev]; exact q
theorem e_call {f : Nat} {dv : List D} {es : ME} (q : evL c E es env S fun xs S1 => c.call f (xs ++ dv) S1 Q fun e S2 => E e env S2) : ev c E (.call f dv es) env S Q := by rw [ev]; exact q
theorem e_call0 {call : Nat → List D → Store → MK → (Exc → Store → Prop) → Prop} {hot : Option Exc} {f : Nat} {es : ME} (q : evL ⟨call, hot⟩ E es env S fun xs S1 => call f xs S1 Q fun e S2 => E e env S2) : ev ⟨call, hot⟩ E (.call f [] es) env S Q := by rw [ev]; simp only [List.append_nil]; exact q
theorem e_call1 {call : Nat → List D → Store → MK → (Exc → Store → Prop) → Prop} {hot : Option Exc} {f : Nat} {dv : List D} {es : ME} (q : evL ⟨call, hot⟩ E es env S fun xs S1 => call f (xs ++ dv) S1 Q fun e S2 => E e env S2) : ev ⟨call, hot⟩ E (.call f dv es) env S Q := by rw [ev]; exact q
theorem e_callv1 {call : Nat → List D → Store → MK → (Exc → Store → Prop) → Prop} {hot : Option Exc} {i f : Nat} {es : ME} (h : env[i]? = some (some (.fn f))) (q : evL ⟨call, hot⟩ E es env S fun xs S1 => call f xs S1 Q fun e S2 => E e env S2) : ev ⟨call, hot⟩ E (.callv i es) env S Q := by rw [ev]; exact ⟨f, h, q⟩
theorem e_callv {i f : Nat} {es : ME} (h : env[i]? = some (some (.fn f))) (q : evL c E es env S fun xs S1 => c.call f xs S1 Q fun e S2 => E e env S2) : ev c E (.callv i es) env S Q := by rw [ev]; exact ⟨f, h, q⟩
theorem e_blt {f : Blt} {m : Bool} {es : ME} (q : evL c E es env S fun xs S1 => blt f m xs S1 Q) : ev c E (.blt f m es) env S Q := by rw [ev]; exact q
theorem e_isi {t : TN} {a : ME} (q : ev c E a env S fun d S1 => ∃ k, isT t d = some k ∧ Q (.bl k) S1) : ev c E (.isi t a) env S Q := by rw [ev]; exact q
theorem e_lrng {m : Bool} {a e : ME} (q : ev c E a env S fun x S1 => ev c E e env S1 fun y S2 => ∃ i j, x = .int i ∧ y = .int j ∧ RgOk i j ∧ mkL m (rngL i j) S2 Q) : ev c E (.lrng m a e) env S Q := by rw [ev]; exact q
theorem e_mth {f : Mth} {o es : ME} (q : ev c E o env S fun x S1 => mTy S1 f x = true ∧ evL c E es env S1 fun xs S2 => mth f x xs S2 Q) : ev c E (.mth f o es) env S Q := by rw [ev]; exact q
theorem e_idx {a i : ME} (q : ev c E a env S fun x S1 => ev c E i env S1 fun y S2 => ∃ k d, y = .int k ∧ atD S2 x k = some d ∧ Q d S2) : ev c E (.idx a i) env S Q := by rw [ev]; exact q
theorem e_slc {m : Bool} {a lo hi : ME} (q : ev c E a env S fun x S1 => evO c E lo env S1 fun l S2 => evO c E hi env S2 fun h S3 => slD m x l h S3 Q) : ev c E (.slc m a lo hi) env S Q := by rw [ev]; exact q
theorem e_rev {m : Bool} {a : ME} (q : ev c E a env S fun x S1 => revD m x S1 Q) : ev c E (.rev m a) env S Q := by rw [ev]; exact q
theorem e_yes (q : Q (.bl true) S) : ev c E .yes env S Q := by rw [ev]; exact q
theorem l_nil {Q : List D → Store → Prop} (q : Q [] S) : evL c E .nil env S Q := by rw [evL]; exact q
theorem l_cons {Q : List D → Store → Prop} {a r : ME} (q : ev c E a env S fun x S1 => evL c E r env S1 fun xs S2 => Q (x :: xs) S2) : evL c E (.cons a r) env S Q := by rw [evL]; exact q
theorem o_abs {Q : Option Int → Store → Prop} (q : Q none S) : evO c E .abs env S Q := by rw [evO]; exact q
theorem o_some {Q : Option Int → Store → Prop} {a : ME} (q : ev c E a env S fun x S1 => ∃ i, x = .int i ∧ Q (some i) S1) : evO c E (.cons a .nil) env S Q := by rw [evO]; exact q
theorem x_nil (q : nx env S) : ex c E .nil env S ⟨nx, rt, bk, ct⟩ := by rw [ex]; exact q
theorem x_cons {s r : MS} (q : ex c E s env S ⟨fun env1 S1 => ex c E r env1 S1 ⟨nx, rt, bk, ct⟩, rt, bk, ct⟩) : ex c E (.cons s r) env S ⟨nx, rt, bk, ct⟩ := by rw [ex]; exact q
theorem x_exp {e : ME} (q : ev c E e env S fun _ S1 => nx env S1) : ex c E (.exp e) env S ⟨nx, rt, bk, ct⟩ := by rw [ex]; exact q
theorem x_set {t : MT} {e : ME} (q : ev c E e env S fun d S1 => tgt t d env S1 fun env1 => nx env1 S1) : ex c E (.set t e) env S ⟨nx, rt, bk, ct⟩ := by rw [ex]; exact q
theorem x_ite {t : ME} {a e : MS} (q : ev c E t env S fun x S1 => tst S1 x fun p => if p = true then ex c E a env S1 ⟨nx, rt, bk, ct⟩ else ex c E e env S1 ⟨nx, rt, bk, ct⟩) : ex c E (.ite t a e) env S ⟨nx, rt, bk, ct⟩ := by rw [ex]; exact q
theorem x_ret {e : ME} (q : ev c E e env S rt) : ex c E (.ret e) env S ⟨nx, rt, bk, ct⟩ := by rw [ex]; exact q
theorem x_rse {k : EC} {e : ME} (q : ev c E e env S fun d S1 => E ⟨k, d⟩ env S1) : ex c E (.rse k e) env S ⟨nx, rt, bk, ct⟩ := by rw [ex]; exact q
theorem x_pss (q : nx env S) : ex c E .pss env S ⟨nx, rt, bk, ct⟩ := by rw [ex]; exact q
theorem x_brk (q : bk env S) : ex c E .brk env S ⟨nx, rt, bk, ct⟩ := by rw [ex]; exact q
theorem x_cnt (q : ct env S) : ex c E .cnt env S ⟨nx, rt, bk, ct⟩ := by rw [ex]; exact q
theorem x_retN (q : rt .non S) : ex c E .retN env S ⟨nx, rt, bk, ct⟩ := by rw [ex]; exact q
theorem x_sset {o i e : ME} (q : ev c E e env S fun d S1 => ev c E o env S1 fun x S2 => ev c E i env S2 fun y S3 => ∃ n xs k j, x = .ref n ∧ S3[n]? = some (.lst xs) ∧ y = .int k ∧ ixN xs.length k = some j ∧ nx env (S3.set n (.lst (xs.set j d)))) : ex c E (.sset o i e) env S ⟨nx, rt, bk, ct⟩ := by rw [ex]; exact q
theorem x_augs {o i e : ME} {op : Operator} (q : ev c E o env S fun x S1 => ev c E i env S1 fun y S2 => ∃ n xs k j a, x = .ref n ∧ y = .int k ∧ S2[n]? = some (.lst xs) ∧ ixN xs.length k = some j ∧ xs[j]? = some (.int a) ∧
      ev c E e env S2 fun z S3 => ∃ d r ys l, z = .int d ∧ augI op a d = some r ∧ S3[n]? = some (.lst ys) ∧ ixN ys.length k = some l ∧ nx env (S3.set n (.lst (ys.set l (.int r))))) : ex c E (.augs o i op e) env S ⟨nx, rt, bk, ct⟩ := by rw [ex]; exact q
theorem x_dput {o k e : ME} (q : ev c E e env S fun d S1 => ev c E o env S1 fun x S2 => ev c E k env S2 fun y S3 => ∃ n t kvs ks, x = .ref n ∧ S3[n]? = some (.dct t none kvs) ∧ dkey t y = some ks ∧ kvs.length < sizeLine ∧ nx env (S3.set n (.dct t none (putD kvs ks d)))) :
    ex c E (.dput o k e) env S ⟨nx, rt, bk, ct⟩ := by rw [ex]; exact q
theorem x_daug {o k e : ME} {op : Operator} (q : ev c E o env S fun x S1 => ev c E k env S1 fun y S2 => ∃ n t z kvs ks a, x = .ref n ∧ S2[n]? = some (.dct t z kvs) ∧ dkey t y = some ks ∧ valD kvs ks = some (.int a) ∧
      ev c E e env S2 fun w S3 => ∃ d r ys, w = .int d ∧ augI op a d = some r ∧ S3[n]? = some (.dct t none ys) ∧ ys.length < sizeLine ∧ nx env (S3.set n (.dct t none (putD ys ks (.int r))))) : ex c E (.daug o k op e) env S ⟨nx, rt, bk, ct⟩ := by rw [ex]; exact q
theorem x_lckS {i n : Nat} {t : Bool} {kvs : KVs} {s : MS} (h : env[i]? = some (some (.ref n))) (h2 : S[n]? = some (.dct t none kvs)) (q : ∀ u, ex c E s env (S.set n (.dct t (some u) kvs))
      ⟨fun env1 S1 => S1[n]? = some (.dct t (some u) kvs) ∧ nx env1 (S1.set n (.dct t none kvs)), fun d S1 => S1[n]? = some (.dct t (some u) kvs) ∧ rt d (S1.set n (.dct t none kvs)),
        fun env1 S1 => S1[n]? = some (.dct t (some u) kvs) ∧ bk env1 (S1.set n (.dct t none kvs)), fun env1 S1 => S1[n]? = some (.dct t (some u) kvs) ∧ ct env1 (S1.set n (.dct t none kvs))⟩) : ex c E (.lckS i s) env S ⟨nx, rt, bk, ct⟩ := by
  rw [ex]; exact ⟨n, t, kvs, h, h2, q⟩
theorem e_dnew {t : Bool} (q : Q (.ref S.length) (S ++ [.dct t none []])) : ev c E (.dnew t) env S Q := by rw [ev]; exact q
theorem e_ddis {t : Bool} {k e : ME} (q : ev c (fun _ _ _ => False) k env S fun x S1 => ev c (fun _ _ _ => False) e env S1 fun y S2 => ∃ ks, dkey t x = some ks ∧ Q (.ref S2.length) (S2 ++ [.dct t none [(ks, y)]])) : ev c E (.ddis t k e) env S Q := by rw [ev]; exact q
theorem e_dsub {o k : ME} (q : ev c E o env S fun x S1 => ev c E k env S1 fun y S2 => ∃ n t z kvs ks d, x = .ref n ∧ S2[n]? = some (.dct t z kvs) ∧ dkey t y = some ks ∧ valD kvs ks = some d ∧ Q d S2) : ev c E (.dsub o k) env S Q := by rw [ev]; exact q
theorem e_dget {o k e : ME} (q : ev c E o env S fun x S1 => ∃ n t z kvs, x = .ref n ∧ S1[n]? = some (.dct t z kvs) ∧ ev c E k env S1 fun y S2 => ev c E e env S2 fun w S3 =>
      ∃ t z kvs ks, S3[n]? = some (.dct t z kvs) ∧ dkey t y = some ks ∧ Q ((valD kvs ks).getD w) S3) : ev c E (.dget o k e) env S Q := by rw [ev]; exact q
theorem e_dupd {o e : ME} (q : ev c E o env S fun x S1 => ∃ n t z kvs, x = .ref n ∧ S1[n]? = some (.dct t z kvs) ∧ ev c E e env S1 fun y S2 =>
      ∃ n2 t kvs z2 more, y = .ref n2 ∧ n ≠ n2 ∧ S2[n]? = some (.dct t none kvs) ∧ S2[n2]? = some (.dct t z2 more) ∧ kvs.length + more.length ≤ sizeLine ∧ (kvs ≠ [] ∨ more.length ≤ 1) ∧ Q .non (S2.set n (.dct t none (mergeD kvs more)))) : ev c E (.dupd o e) env S Q := by rw [ev]; exact q
theorem e_dsetd {o k e : ME} (q : ev c E o env S fun x S1 => ∃ n t z kvs, x = .ref n ∧ S1[n]? = some (.dct t z kvs) ∧ ev c E k env S1 fun y S2 => ev c E e env S2 fun w S3 =>
      ∃ t kvs ks, S3[n]? = some (.dct t none kvs) ∧ dkey t y = some ks ∧ kvs.length < sizeLine ∧ (∀ d, valD kvs ks = some d → Q d S3) ∧ (valD kvs ks = none → Q w (S3.set n (.dct t none (putD kvs ks w))))) : ev c E (.dsetd o k e) env S Q := by rw [ev]; exact q
theorem e_din {ng : Bool} {o k : ME} (q : ev c E k env S fun y S1 => ev c E o env S1 fun x S2 => ∃ n t z kvs ks, x = .ref n ∧ S2[n]? = some (.dct t z kvs) ∧ dkey t y = some ks ∧ Q (.bl (if ng = true then !(valD kvs ks).isSome else (valD kvs ks).isSome)) S2) : ev c E (.din ng k o) env S Q := by rw [ev]; exact q
theorem e_lset {own : List Nat} {t : MT} {it k r : ME} (q : evI c E it env S fun s S1 => ∃ xs, srcL S1 s = some xs ∧
    genL (fun x S2 acc2 Q2 => tgt t x (wipeD env own) S2 fun env2 => ev c (fun _ _ _ => False) k env2 S2 fun y S3 => tst S3 y fun p =>
      if p = true then ev c (fun _ _ _ => False) r env2 S3 fun d S4 => ∃ i, d = .int i ∧ acc2.length < sizeLine ∧ srcL S4 s = some xs ∧ Q2 (addD acc2 i) S4 else srcL S3 s = some xs ∧ Q2 acc2 S3) xs S1 [] fun zs S9 => Q (.int (zs.length : Nat)) S9) : ev c E (.lset own t it k r) env S Q := by rw [ev]; exact q
theorem e_nset {e : ME} (q : ev c E e env S fun x S1 => ∃ ns : List Int, (x = .tup (ns.map .int) ∨ x = .lst (ns.map .int)) ∧ ns.length < 4000 ∧ Q (.int (nUn ns : Nat)) S1) : ev c E (.nset e) env S Q := by rw [ev]; exact q
theorem v_keys {e : ME} {Q : Src → Store → Prop} (q : ev c E e env S fun x S1 => ∃ n t u kvs, x = .ref n ∧ S1[n]? = some (.dct t (some u) kvs) ∧ Q (.keys n u) S1) : evI c E (.keys e) env S Q := by rw [evI]; exact q
/-- the source's keys -/
theorem k_ref {n : Nat} {t : Bool} {u : L2.HO} {kvs : KVs} {P : Src → Prop} (h : S[n]? = some (.dct t (some u) kvs)) (q : P (.keys n u)) : ∃ n' t' u' kvs', D.ref n = .ref n' ∧ S[n']? = some (.dct t' (some u') kvs') ∧ P (.keys n' u') := ⟨n, t, u, kvs, rfl, h, q⟩
theorem f_keys {F : D → DEnv → Store → (DEnv → Store → Prop) → Prop} {n : Nat} {t : Bool} {u : L2.HO} {kvs : KVs} (h : S[n]? = some (.dct t (some u) kvs)) (q : forL (fun x env S P => F x env S fun e s => s[n]? = some (.dct t (some u) kvs) ∧ P e s) nx (kvs.map fun p => keyD t p.1) env S)
    (mono : ∀ x env S (P P' : DEnv → Store → Prop), (∀ e s, P e s → P' e s) → F x env S P → F x env S P') : forS F nx env S (.keys n u) := by
  refine ⟨_, src_keys_of h, ?_⟩
  have go : ∀ (xs : List D) env S, forL (fun x env S P => F x env S fun e s => s[n]? = some (.dct t (some u) kvs) ∧ P e s) nx xs env S → forL (fun x env S P => F x env S fun e s => srcL s (.keys n u) = some (kvs.map fun p => keyD t p.1) ∧ P e s) nx xs env S := by
    intro xs
    induction xs with
    | nil => intro env S h; exact h
    | cons x r ih =>
      intro env S h
      refine mono x env S _ _ (fun e s ⟨h1, h2⟩ => ⟨src_keys_of h1, ih e s h2⟩) h
  exact go _ _ _ q
theorem x_tryw {b : MS} (q : ex c (fun e _ S1 => ∃ z, wordOf e = some z ∧ rt (.str z) S1) b env S ⟨nx, rt, bk, ct⟩) : ex c E (.tryw b) env S ⟨nx, rt, bk, ct⟩ := by rw [ex]; exact q
theorem x_for {t : MT} {it : ME} {b : MS} (q : evI c E it env S fun s S1 => forS (fun x env1 S2 P => tgt t x env1 S2 fun env2 => ex c E b env2 S2 ⟨P, rt, nx, P⟩) nx env S1 s) : ex c E (.for t it b) env S ⟨nx, rt, bk, ct⟩ := by
  rw [ex]; exact q
theorem x_whl {t : ME} {b : MS} (q : ∃ k, whlN (fun env1 S1 Q => ev c E t env1 S1 Q) (fun env1 S1 P => ex c E b env1 S1 ⟨P, rt, nx, P⟩) nx k env S) : ex c E (.whl t b) env S ⟨nx, rt, bk, ct⟩ := by rw [ex]; exact q
theorem v_itr {e : ME} {Q : Src → Store → Prop} (q : ev c E e env S fun x S1 => ∃ s, srcOf S1 x = some s ∧ Q s S1) : evI c E (.itr e) env S Q := by rw [evI]; exact q
theorem v_rng {a e : ME} {Q : Src → Store → Prop} (q : ev c E a env S fun x S1 => ev c E e env S1 fun y S2 => ∃ i j, x = .int i ∧ y = .int j ∧ rOk i ∧ rOk j ∧ Q (.fix (rngL i j)) S2) : evI c E (.rng a e) env S Q := by rw [evI]; exact q
theorem v_enm {e : ME} {Q : Src → Store → Prop} (q : ev c E e env S fun x S1 => ∃ xs, (x = .tup xs ∨ x = .lst xs) ∧ Q (.fix (pairs 0 xs)) S1) : evI c E (.enm e) env S Q := by rw [evI]; exact q
theorem v_enl {e : ME} {Q : Src → Store → Prop} (q : ev c E e env S fun x S1 => ∃ n xs, x = .ref n ∧ S1[n]? = some (.lst xs) ∧ Q (.enl n) S1) : evI c E (.enl e) env S Q := by rw [evI]; exact q
theorem src_enl {n : Nat} {xs : List D} (h : S[n]? = some (.lst xs)) : srcL S (.enl n) = some (pairs 0 xs) := by simp [srcL, seqL, h]
theorem n_tup {xs : List D} {P : List D → Prop} (q : P xs) : ∃ ys, (D.tup xs = .tup ys ∨ D.tup xs = .lst ys) ∧ P ys := ⟨xs, .inl rfl, q⟩
theorem n_lst {xs : List D} {P : List D → Prop} (q : P xs) : ∃ ys, (D.lst xs = .tup ys ∨ D.lst xs = .lst ys) ∧ P ys := ⟨xs, .inr rfl, q⟩
theorem v_zip {a e : ME} {Q : Src → Store → Prop} (q : ev c E a env S fun x S1 => ev c E e env S1 fun y S2 => ∃ xs ys, (x = .tup xs ∨ x = .lst xs) ∧ (y = .tup ys ∨ y = .lst ys) ∧ Q (.fix (zipD xs ys)) S2) : evI c E (.zip2 a e) env S Q := by rw [evI]; exact q
theorem r_two {i j : Int} {P : Int → Int → Prop} (h1 : rOk i) (h2 : rOk j) (q : P i j) : ∃ i' j', D.int i = .int i' ∧ D.int j = .int j' ∧ rOk i' ∧ rOk j' ∧ P i' j' := ⟨i, j, rfl, rfl, h1, h2, q⟩
theorem z_tup {xs ys : List D} {P : List D → List D → Prop} (q : P xs ys) : ∃ xs' ys', (D.tup xs = .tup xs' ∨ D.tup xs = .lst xs') ∧ (D.tup ys = .tup ys' ∨ D.tup ys = .lst ys') ∧ P xs' ys' := ⟨xs, ys, .inl rfl, .inl rfl, q⟩
theorem z_tl {xs ys : List D} {P : List D → List D → Prop} (q : P xs ys) : ∃ xs' ys', (D.tup xs = .tup xs' ∨ D.tup xs = .lst xs') ∧ (D.lst ys = .tup ys' ∨ D.lst ys = .lst ys') ∧ P xs' ys' := ⟨xs, ys, .inl rfl, .inr rfl, q⟩
theorem z_lt {xs ys : List D} {P : List D → List D → Prop} (q : P xs ys) : ∃ xs' ys', (D.lst xs = .tup xs' ∨ D.lst xs = .lst xs') ∧ (D.tup ys = .tup ys' ∨ D.tup ys = .lst ys') ∧ P xs' ys' := ⟨xs, ys, .inr rfl, .inl rfl, q⟩
theorem z_ll {xs ys : List D} {P : List D → List D → Prop} (q : P xs ys) : ∃ xs' ys', (D.lst xs = .tup xs' ∨ D.lst xs = .lst xs') ∧ (D.lst ys = .tup ys' ∨ D.lst ys = .lst ys') ∧ P xs' ys' := ⟨xs, ys, .inr rfl, .inr rfl, q⟩
theorem e_lc {m : Bool} {own : List Nat} {t : MT} {it k r : ME} (q : evI c E it env S fun s S1 => ∃ xs, srcL S1 s = some xs ∧
    genL (fun x S2 acc2 Q2 => tgt t x (wipeD env own) S2 fun env2 => ev c (fun _ _ _ => False) k env2 S2 fun y S3 => tst S3 y fun p =>
      if p = true then evG c r env2 S3 acc2 fun acc3 S4 => srcL S4 s = some xs ∧ Q2 acc3 S4 else srcL S3 s = some xs ∧ Q2 acc2 S3) xs S1 [] fun zs S9 => mkL m zs S9 Q) : ev c E (.lc m own t it k r) env S Q := by rw [ev]; exact q
theorem e_sset {m : Bool} {own : List Nat} {t : MT} {it k r : ME} (q : evI c E it env S fun s S1 => ∃ xs, srcL S1 s = some xs ∧
    genL (fun x S2 acc2 Q2 => tgt t x (wipeD env own) S2 fun env2 => ev c (fun _ _ _ => False) k env2 S2 fun y S3 => tst S3 y fun p =>
      if p = true then ev c (fun _ _ _ => False) r env2 S3 fun d S4 => ∃ i, d = .int i ∧ acc2.length < sizeLine ∧ srcL S4 s = some xs ∧ Q2 (addD acc2 i) S4 else srcL S3 s = some xs ∧ Q2 acc2 S3) xs S1 [] fun zs S9 =>
        zs.length < 64 ∧ ∀ ys : List Int, (ys.map D.int).Perm zs → ys.Pairwise (· ≤ ·) → mkL m (ys.map .int) S9 Q) : ev c E (.sset m own t it k r) env S Q := by rw [ev]; exact q
theorem g_end {e : ME} {acc : List D} {Q : List D → Store → Prop} (q : ev c (fun _ _ _ => False) e env S fun d S1 => acc.length < sizeLine ∧ Q (acc ++ [d]) S1) : evG c (.gend e) env S acc Q := by rw [evG]; exact q
theorem sc_ref {n : Nat} {xs : List D} {P : Src → Prop} (h : S[n]? = some (.lst xs)) (q : P (.live n)) : ∃ s, srcOf S (.ref n) = some s ∧ P s := ⟨_, by simp [srcOf, h], q⟩
theorem f_fix {F : D → DEnv → Store → (DEnv → Store → Prop) → Prop} {xs : List D} (q : forL F nx xs env S) : forS F nx env S (.fix xs) := q
theorem for_ok {F : D → DEnv → Store → (DEnv → Store → Prop) → Prop} (I : List D → DEnv → Store → Prop) (H : ∀ x r env S P, I (x :: r) env S → (∀ e s, I r e s → P e s) → F x env S P) (H0 : ∀ env S, I [] env S → nx env S) :
    ∀ (xs : List D) (env : DEnv) (S : Store), I xs env S → forL F nx xs env S := by
  intro xs
  induction xs with
  | nil => intro env S h; exact H0 _ _ h
  | cons x r ih => intro env S h; exact H x r env S _ h fun e s h1 => ih e s h1
theorem fl_cons {F : D → DEnv → Store → (DEnv → Store → Prop) → Prop} {x : D} {xs : List D} (q : F x env S fun e s => forL F nx xs e s) : forL F nx (x :: xs) env S := q
theorem fl_nil {F : D → DEnv → Store → (DEnv → Store → Prop) → Prop} (q : nx env S) : forL F nx [] env S := q
theorem t_nm {i : Nat} {d : D} {P : DEnv → Prop} (q : P (env.set i (some d))) : tgt (.nm i) d env S P := by rw [tgt]; exact q
theorem t_tp {ts : MT} {xs : List D} {P : DEnv → Prop} (q : tgts ts xs env S P) : tgt (.tp ts) (.tup xs) env S P := by rw [tgt]; exact ⟨xs, rfl, q⟩
theorem t_nil {P : DEnv → Prop} (q : P env) : tgts .nil [] env S P := by rw [tgts]; exact ⟨rfl, q⟩
theorem t_cons {a r : MT} {x : D} {xs : List D} {P : DEnv → Prop} (q : tgt a x env S fun env1 => tgts r xs env1 S P) : tgts (.cons a r) (x :: xs) env S P := by rw [tgts]; exact ⟨x, xs, rfl, q⟩
theorem u_bl {b : Bool} {P : Bool → Prop} (q : P b) : tst S (.bl b) P := ⟨b, rfl, q⟩
theorem u_int {i : Int} {P : Bool → Prop} (q : P (i != 0)) : tst S (.int i) P := ⟨_, rfl, q⟩
theorem u_non {P : Bool → Prop} (q : P false) : tst S .non P := ⟨_, rfl, q⟩
theorem u_tupN {P : Bool → Prop} (q : P false) : tst S (.tup []) P := ⟨_, rfl, q⟩
theorem u_tupC {x : D} {xs : List D} {P : Bool → Prop} (q : P true) : tst S (.tup (x :: xs)) P := ⟨_, rfl, q⟩
theorem u_lstN {P : Bool → Prop} (q : P false) : tst S (.lst []) P := ⟨_, rfl, q⟩
theorem u_lstC {x : D} {xs : List D} {P : Bool → Prop} (q : P true) : tst S (.lst (x :: xs)) P := ⟨_, rfl, q⟩
theorem u_tup {xs : List D} {P : Bool → Prop} (q : P (!xs.isEmpty)) : tst S (.tup xs) P := ⟨_, rfl, q⟩
theorem u_lst {xs : List D} {P : Bool → Prop} (q : P (!xs.isEmpty)) : tst S (.lst xs) P := ⟨_, rfl, q⟩
theorem if_dec {p : Prop} [Decidable p] {A B : Prop} (h1 : p → A) (h2 : ¬ p → B) : if decide p = true then A else B := by
  by_cases h : p
  · simp [h]; exact h1 h
  · simp [h]; exact h2 h
theorem if_ndec {p : Prop} [Decidable p] {A B : Prop} (h1 : ¬ p → A) (h2 : p → B) : if (!decide p) = true then A else B := by
  by_cases h : p
  · simp [h]; exact h2 h
  · simp [h]; exact h1 h
theorem if_ne0 {i : Int} {A B : Prop} (h1 : i ≠ 0 → A) (h2 : i = 0 → B) : if (i != 0) = true then A else B := by
  by_cases h : i = 0
  · simp [h]; exact h2 h
  · simp [h]; exact h1 h
theorem if_tt {A B : Prop} (h : A) : if true = true then A else B := by simp; exact h
theorem if_ff {A B : Prop} (h : B) : if false = true then A else B := by simp; exact h
theorem if_nf {A B : Prop} (h : A) : if (!false) = true then A else B := by simp; exact h
theorem if_nt {A B : Prop} (h : B) : if (!true) = true then A else B := by simp; exact h
theorem if_b {b : Bool} {A B : Prop} (h1 : b = true → A) (h2 : b = false → B) : if b = true then A else B := by
  cases b
  · simp; exact h2 rfl
  · simp; exact h1 rfl
theorem if_nb {b : Bool} {A B : Prop} (h1 : b = false → A) (h2 : b = true → B) : if (!b) = true then A else B := by
  cases b
  · simp; exact h1 rfl
  · simp; exact h2 rfl
theorem sz_ok {xs : List D} {P : Prop} (h : Nat.ble xs.length 1000 = true) (q : P) : xs.length ≤ sizeLine ∧ P := ⟨Nat.le_trans (Nat.le_of_ble_eq_true h) (by rw [sizeLine_eq]; decide), q⟩
theorem b_pow {m : Bool} {i j : Int} (h : CPow i j) (q : Q (.int (i ^ j.toNat)) S) : bop .Pow m (.int i) (.int j) S Q := ⟨h, q⟩
theorem c_lt {i j : Int} (q : Q (.bl (decide (i < j))) S) : cop .Lt (.int i) (.int j) S Q := q
theorem c_gt {i j : Int} (q : Q (.bl (decide (j < i))) S) : cop .Gt (.int i) (.int j) S Q := q
theorem c_le {i j : Int} (q : Q (.bl (decide (i ≤ j))) S) : cop .LtE (.int i) (.int j) S Q := q
theorem c_ge {i j : Int} (q : Q (.bl (decide (j ≤ i))) S) : cop .GtE (.int i) (.int j) S Q := q
theorem c_eq {i j : Int} (q : Q (.bl (decide (i = j))) S) : cop .Eq (.int i) (.int j) S Q := by rw [cEq_int]; exact q
theorem c_ne {i j : Int} (q : Q (.bl (!decide (i = j))) S) : cop .NotEq (.int i) (.int j) S Q := by rw [cNe_int]; exact q
theorem b_add {m : Bool} {i j : Int} (q : Q (.int (i + j)) S) : bop .Add m (.int i) (.int j) S Q := q
theorem b_sub {m : Bool} {i j : Int} (q : Q (.int (i - j)) S) : bop .Sub m (.int i) (.int j) S Q := q
theorem b_addT {m : Bool} {xs ys : List D} (h : xs.length + ys.length ≤ sizeLine) (q : Q (.tup (xs ++ ys)) S) : bop .Add m (.tup xs) (.tup ys) S Q := ⟨h, q⟩
theorem d_tup {m : Bool} {xs : List D} {l h : Option Int} (q : Q (.tup (cutL xs l h)) S) : slD m (.tup xs) l h S Q := q
theorem d_rev {m : Bool} {xs : List D} (q : Q (.tup xs.reverse) S) : revD m (.tup xs) S Q := q
theorem m_f {xs : List D} (q : Q (.lst xs) S) : mkL false xs S Q := q
theorem m_t {xs : List D} (q : Q (.ref S.length) (S ++ [.lst xs])) : mkL true xs S Q := q
theorem b_mul {m : Bool} {i j : Int} (h : MulOk i j) (q : Q (.int (i * j)) S) : bop .Mult m (.int i) (.int j) S Q := ⟨h, q⟩
theorem b_div {m : Bool} {i j : Int} (h : CDivW i j) (q : Q (.int (i / j)) S) : bop .FloorDiv m (.int i) (.int j) S Q := ⟨h, q⟩
theorem b_mod {m : Bool} {i j : Int} (h : 0 < j) (q : Q (.int (i % j)) S) : bop .Mod m (.int i) (.int j) S Q := ⟨h, q⟩
theorem f_lenT {m : Bool} {xs : List D} (q : Q (.int xs.length) S) : blt .len m [.tup xs] S Q := ⟨xs.length, rfl, q⟩
theorem f_lc1 {m : Bool} {a0 : D} (q : Q (.int 1) S) : blt .len m [.lst [a0]] S Q := ⟨1, rfl, q⟩
theorem f_lc2 {m : Bool} {a0 a1 : D} (q : Q (.int 2) S) : blt .len m [.lst [a0, a1]] S Q := ⟨2, rfl, q⟩
theorem f_lc3 {m : Bool} {a0 a1 a2 : D} (q : Q (.int 3) S) : blt .len m [.lst [a0, a1, a2]] S Q := ⟨3, rfl, q⟩
theorem f_lc4 {m : Bool} {a0 a1 a2 a3 : D} (q : Q (.int 4) S) : blt .len m [.lst [a0, a1, a2, a3]] S Q := ⟨4, rfl, q⟩
theorem f_lc5 {m : Bool} {a0 a1 a2 a3 a4 : D} (q : Q (.int 5) S) : blt .len m [.lst [a0, a1, a2, a3, a4]] S Q := ⟨5, rfl, q⟩
theorem f_lc6 {m : Bool} {a0 a1 a2 a3 a4 a5 : D} (q : Q (.int 6) S) : blt .len m [.lst [a0, a1, a2, a3, a4, a5]] S Q := ⟨6, rfl, q⟩
theorem f_lenL {m : Bool} {xs : List D} (q : Q (.int xs.length) S) : blt .len m [.lst xs] S Q := ⟨xs.length, rfl, q⟩
theorem f_int {m : Bool} {i : Int} (q : Q (.int i) S) : blt .int m [.int i] S Q := q
theorem f_abs {m : Bool} {i : Int} (q : Q (.int (if i < 0 then -i else i)) S) : blt .abs m [.int i] S Q := q
theorem i_at {x d : D} {k : Int} {P : D → Prop} (h : atD S x k = some d) (q : P d) : ∃ k' d', D.int k = .int k' ∧ atD S x k' = some d' ∧ P d' := ⟨k, d, rfl, h, q⟩
end
end Mp

set_option Elab.async false
set_option linter.all false
set_option maxRecDepth 100000
set_option maxHeartbeats 2000000
/-! M, part 26: whole numbers; loops that end. -/
namespace Mp
/-- what both divide by, of a least common multiple -/
theorem gcd_lcm_dvd (u s t : Nat) : Nat.gcd (Nat.lcm u s) t ∣ Nat.lcm (Nat.gcd u t) (Nat.gcd s t) := by
  generalize hd : Nat.gcd (Nat.lcm u s) t = d
  have d1 : d ∣ Nat.lcm u s := hd ▸ Nat.gcd_dvd_left _ _
  have d2 : d ∣ t := hd ▸ Nat.gcd_dvd_right _ _
  clear hd
  have key : d ∣ Nat.lcm (Nat.gcd u d) (Nat.gcd s d) := by
    rcases Nat.eq_zero_or_pos (Nat.gcd (Nat.gcd u d) (Nat.gcd s d)) with h0 | h0
    · have : d = 0 := by
        have := Nat.eq_zero_of_gcd_eq_zero_left h0
        exact Nat.eq_zero_of_gcd_eq_zero_right this
      subst this
      simp at d1 ⊢
      exact d1
    · refine Nat.dvd_of_mul_dvd_mul_left h0 ?_
      rw [Nat.gcd_mul_lcm]
      generalize hG : Nat.gcd (Nat.gcd u d) (Nat.gcd s d) = G at h0 ⊢
      have g1 : G ∣ u := hG ▸ Nat.dvd_trans (Nat.gcd_dvd_left _ _) (Nat.gcd_dvd_left _ _)
      have g2 : G ∣ d := hG ▸ Nat.dvd_trans (Nat.gcd_dvd_left _ _) (Nat.gcd_dvd_right _ _)
      have g3 : G ∣ s := hG ▸ Nat.dvd_trans (Nat.gcd_dvd_right _ _) (Nat.gcd_dvd_left _ _)
      rw [← Nat.gcd_mul_right, ← Nat.gcd_mul_left, ← Nat.gcd_mul_left]
      refine Nat.dvd_gcd (Nat.dvd_gcd ?_ ?_) (Nat.dvd_gcd ?_ ?_)
      · have : G * d ∣ Nat.gcd u s * Nat.lcm u s := Nat.mul_dvd_mul (Nat.dvd_gcd g1 g3) d1
        rwa [Nat.gcd_mul_lcm] at this
      · exact Nat.mul_dvd_mul g1 (Nat.dvd_refl d)
      · rw [Nat.mul_comm d s]; exact Nat.mul_dvd_mul g3 (Nat.dvd_refl d)
      · exact Nat.mul_dvd_mul g2 (Nat.dvd_refl d)
  refine Nat.dvd_trans key (Nat.lcm_dvd ?_ ?_)
  · exact Nat.dvd_trans (Nat.dvd_gcd (Nat.gcd_dvd_left _ _) (Nat.dvd_trans (Nat.gcd_dvd_right _ _) d2)) (Nat.dvd_lcm_left _ _)
  · exact Nat.dvd_trans (Nat.dvd_gcd (Nat.gcd_dvd_left _ _) (Nat.dvd_trans (Nat.gcd_dvd_right _ _) d2)) (Nat.dvd_lcm_right _ _)
theorem lcm_dvd_int {m n : Nat} {z : Int} (h1 : (m : Int) ∣ z) (h2 : (n : Int) ∣ z) : ((Nat.lcm m n : Nat) : Int) ∣ z := by
  exact Int.ofNat_dvd_left.mpr (Nat.lcm_dvd (Int.ofNat_dvd_left.mp h1) (Int.ofNat_dvd_left.mp h2))
theorem dvd_of_nat {m n : Nat} {z : Int} (h : m ∣ n) (h2 : (n : Int) ∣ z) : (m : Int) ∣ z := Int.dvd_trans (Int.natCast_dvd_natCast.mpr h) h2
/-- one more: what fits all, fits the joined one -/
theorem fit_join {c c' a b : Int} {u s t : Nat} (h1 : (u : Int) ∣ c' - c) (h2 : (s : Int) ∣ c' - a) (k1 : ((Nat.gcd u t : Nat) : Int) ∣ c - b) (k2 : ((Nat.gcd s t : Nat) : Int) ∣ a - b) :
    ((Nat.gcd (Nat.lcm u s) t : Nat) : Int) ∣ c' - b := by
  refine dvd_of_nat (gcd_lcm_dvd u s t) (lcm_dvd_int ?_ ?_)
  · have := Int.dvd_add (dvd_of_nat (Nat.gcd_dvd_left u t) h1) k1
    rwa [show c' - c + (c - b) = c' - b by omega] at this
  · have := Int.dvd_add (dvd_of_nat (Nat.gcd_dvd_left s t) h2) k2
    rwa [show c' - a + (a - b) = c' - b by omega] at this
theorem lcm_div {s t : Nat} : s / Nat.gcd s t * t = Nat.lcm s t := by
  rw [Nat.lcm, Nat.div_mul_right_comm (Nat.gcd_dvd_left s t)]
/-- the time that both tell -/
theorem join_math {a b : Int} {s t : Nat} {v : Int} (hs : 0 < s) (ht : 0 < t) (h : (a - b) % (Nat.gcd s t : Nat) = 0) (hv : ((t / Nat.gcd s t : Nat) : Int) ∣ ((s / Nat.gcd s t : Nat) : Int) * v - 1) (l : Int) :
    let time := a + (b - a) / (Nat.gcd s t : Nat) * v % ((t / Nat.gcd s t : Nat) : Int) * (s : Int)
    let c := l + (time - l) % ((s / Nat.gcd s t * t : Nat) : Int)
    (s : Int) ∣ c - a ∧ (t : Int) ∣ c - b := by
  have hg : 0 < Nat.gcd s t := Nat.gcd_pos_of_pos_left _ hs
  generalize hG : Nat.gcd s t = g at *
  obtain ⟨s', hs'⟩ : g ∣ s := hG ▸ Nat.gcd_dvd_left s t
  obtain ⟨t', ht'⟩ : g ∣ t := hG ▸ Nat.gcd_dvd_right s t
  have e1 : s / g = s' := by rw [hs']; exact Nat.mul_div_cancel_left _ hg
  have e2 : t / g = t' := by rw [ht']; exact Nat.mul_div_cancel_left _ hg
  rw [e1, e2] at hv
  rw [e1, e2]
  obtain ⟨q, hq⟩ : (g : Int) ∣ b - a := by
    have := Int.dvd_of_emod_eq_zero h
    have := Int.dvd_neg.mpr this
    rwa [show -(a - b) = b - a by omega] at this
  have hq2 : (b - a) / (g : Int) = q := by rw [hq]; exact Int.mul_ediv_cancel_left _ (by omega)
  rw [hq2]
  intro time c
  have t1 : (s : Int) ∣ time - a := by
    show (s : Int) ∣ a + q * v % (t' : Int) * (s : Int) - a
    rw [show a + q * v % (t' : Int) * (s : Int) - a = (s : Int) * (q * v % (t' : Int)) by rw [Int.mul_comm (s : Int)]; omega]
    exact Int.dvd_mul_right _ _
  have t2 : (t : Int) ∣ time - b := by
    show (t : Int) ∣ a + q * v % (t' : Int) * (s : Int) - b
    obtain ⟨w, hw⟩ := hv
    have hx : q * v % (t' : Int) = q * v - t' * (q * v / t') := by have := Int.mul_ediv_add_emod (q * v) t'; omega
    generalize q * v / (t' : Int) = y at hx
    have : a + q * v % (t' : Int) * (s : Int) - b = (t : Int) * (q * w - s' * y) := by
      rw [hx]
      have hsI : (s : Int) = g * s' := by rw [hs']; simp
      have htI : (t : Int) = g * t' := by rw [ht']; simp
      rw [hsI, htI]
      have hv2 : (s' : Int) * v = 1 + t' * w := by omega
      have : (q * v - t' * y) * (g * s') = g * q * (s' * v) - g * t' * (s' * y) := by
        grind
      rw [this, hv2]
      have : g * q * (1 + t' * w) = g * q + g * t' * (q * w) := by
        simp only [Int.mul_add, Int.mul_one, Int.mul_assoc, Int.mul_comm, Int.mul_left_comm]
      rw [this, Int.mul_sub]
      omega
    rw [this]
    exact Int.dvd_mul_right _ _
  have hc : c = time - ((s' * t : Nat) : Int) * ((time - l) / ((s' * t : Nat) : Int)) := by
    show l + (time - l) % ((s' * t : Nat) : Int) = _
    have := Int.mul_ediv_add_emod (time - l) ((s' * t : Nat) : Int)
    omega
  generalize (time - l) / ((s' * t : Nat) : Int) = z at hc
  have hst : ((s' * t : Nat) : Int) = (s : Int) * t' := by rw [hs', ht']; simp [Int.mul_assoc, Int.mul_comm, Int.mul_left_comm]
  constructor
  · rw [hc, hst]
    have := Int.dvd_sub t1 (Int.dvd_mul_right (s : Int) (t' * z))
    rw [show time - (s : Int) * t' * z - a = time - a - s * (t' * z) by rw [Int.mul_assoc]; omega]
    exact this
  · rw [hc]
    have := Int.dvd_sub t2 (Int.dvd_mul_right (t : Int) (s' * z))
    rw [show time - ((s' * t : Nat) : Int) * z - b = time - b - t * (s' * z) by simp [Int.mul_assoc, Int.mul_comm, Int.mul_left_comm]; omega]
    exact this
/-- one turn of the table of rests -/
theorem inv_turn {own m x0 x1 : Int} {r0 r1 : Nat} (h0 : m ∣ x0 * own - r0) (h1 : m ∣ x1 * own - r1) (k : Int) (r2 : Nat) (hr : (r2 : Int) = r0 - k * r1) : m ∣ (x0 - k * x1) * own - r2 := by
  have := Int.dvd_sub h0 (Int.dvd_mul_of_dvd_right (b := k) h1)
  rw [show (x0 - k * x1) * own - r2 = x0 * own - r0 - k * (x1 * own - r1) by rw [hr]; simp only [Int.sub_mul, Int.mul_sub, Int.mul_assoc]; omega]
  exact this

open PySem PySem.Spec PyProof.Rows L2
theorem whl_ok {t : DEnv → Store → MK → Prop} {f : DEnv → Store → (DEnv → Store → Prop) → Prop} {nx : DEnv → Store → Prop} (I : Nat → DEnv → Store → Prop)
    (H : ∀ k env S (P : DEnv → Store → Prop), I k env S → (∀ j e s, j < k → I j e s → P e s) → t env S fun x S1 => tst S1 x fun p => if p = true then f env S1 P else nx env S1) :
    ∀ (k : Nat) (env : DEnv) (S : Store), (∃ j, j ≤ k ∧ I j env S) → whlN t f nx (k + 1) env S := by
  intro k
  induction k with
  | zero =>
    rintro env S ⟨j, hj, h⟩
    exact H j env S _ h fun i e s hi => absurd hi (by omega)
  | succ k ih =>
    rintro env S ⟨j, hj, h⟩
    exact H j env S _ h fun i e s hi h1 => ih e s ⟨i, by omega, h1⟩
theorem whl_ex {t : DEnv → Store → MK → Prop} {f : DEnv → Store → (DEnv → Store → Prop) → Prop} {nx : DEnv → Store → Prop} (I : Nat → DEnv → Store → Prop) (k : Nat) {env : DEnv} {S : Store} (h : I k env S)
    (H : ∀ k env S (P : DEnv → Store → Prop), I k env S → (∀ j e s, j < k → I j e s → P e s) → t env S fun x S1 => tst S1 x fun p => if p = true then f env S1 P else nx env S1) : ∃ k, whlN t f nx k env S :=
  ⟨_, whl_ok I H k env S ⟨k, Nat.le_refl _, h⟩⟩
section
variable {S : Store} {Q : MK}
theorem f_max2 {m : Bool} {i j : Int} (q : Q (.int (max i j)) S) : blt .max2 m [.int i, .int j] S Q := q
theorem f_min2 {m : Bool} {i j : Int} (q : Q (.int (min i j)) S) : blt .min2 m [.int i, .int j] S Q := q
theorem b_addL {m : Bool} {xs ys : List D} (h : xs.length + ys.length ≤ sizeLine) (q : mkL m (xs ++ ys) S Q) : bop .Add m (.lst xs) (.lst ys) S Q := ⟨xs, ys, rfl, rfl, h, q⟩
theorem mul_right {i j : Int} (h0 : 0 ≤ j) (h1 : j < 2 ^ 62) : MulOk i j := .inl (by unfold CMul; omega)
theorem mul_left {i j : Int} (h0 : 0 ≤ i) (h1 : i < 2 ^ 62) : MulOk i j := .inl (by unfold CMul; omega)
theorem at_tup {xs : List D} {k : Nat} {d : D} (hk : k < xs.length) (h : xs[k] = d) : atD S (.tup xs) (k : Int) = some d := by
  rw [atD_tup, Mp.atI_nat hk, List.getElem?_eq_getElem hk, h]
theorem at_lst {xs : List D} {k : Nat} {d : D} (hk : k < xs.length) (h : xs[k] = d) : atD S (.lst xs) (k : Int) = some d := by
  rw [atD_lst, Mp.atI_nat hk, List.getElem?_eq_getElem hk, h]
end
/-- a loop, by the number of its turns -/
theorem for_ix {F : D → DEnv → Store → (DEnv → Store → Prop) → Prop} {nx : DEnv → Store → Prop} (I : Nat → DEnv → Store → Prop) {xs : List D} {env : DEnv} {S : Store} (h0 : I 0 env S)
    (H : ∀ k (hk : k < xs.length) env S P, I k env S → (∀ e s, I (k + 1) e s → P e s) → F xs[k] env S P) (H0 : ∀ env S, I xs.length env S → nx env S) : forL F nx xs env S := by
  have : ∀ (r : List D) (k : Nat), r = xs.drop k → k ≤ xs.length → ∀ env S, I k env S → forL F nx r env S := by
    intro r
    induction r with
    | nil =>
      intro k hr hk env S h
      have := congrArg List.length hr
      simp at this
      have : k = xs.length := by omega
      subst this
      exact H0 _ _ h
    | cons x r ih =>
      intro k hr hk env S h
      have hl := congrArg List.length hr
      simp at hl
      have hk' : k < xs.length := by omega
      rw [List.drop_eq_getElem_cons hk'] at hr
      obtain ⟨hx, hr2⟩ := List.cons.inj hr
      subst hx
      exact H k hk' env S _ h fun e s h1 => ih (k + 1) hr2 (by omega) e s h1
  exact this xs 0 rfl (Nat.zero_le _) env S h0
/-- a loop over whole numbers -/
theorem for_rg {F : D → DEnv → Store → (DEnv → Store → Prop) → Prop} {nx : DEnv → Store → Prop} (I : Nat → DEnv → Store → Prop) {a c : Int} (m : Nat) (hm : m = (c - a).toNat) {env : DEnv} {S : Store} (h0 : I 0 env S)
    (H : ∀ k, k < m → ∀ env S P, I k env S → (∀ e s, I (k + 1) e s → P e s) → F (.int (a + (k : Nat))) env S P) (H0 : ∀ env S, I m env S → nx env S) : forL F nx (rngL a c) env S := by
  have hl : (rngL a c).length = m := by simp [rngL, hm]
  refine for_ix I h0 (fun k hk env S P hI hP => ?_) (by rw [hl]; exact H0)
  have : (rngL a c)[k] = .int (a + (k : Nat)) := by simp [rngL]
  rw [this]
  exact H k (by omega) env S P hI hP
/-- a loop over the first whole numbers -/
theorem for_r0 {F : D → DEnv → Store → (DEnv → Store → Prop) → Prop} {nx : DEnv → Store → Prop} (I : Nat → DEnv → Store → Prop) {c : Int} (m : Nat) (hm : m = c.toNat) {env : DEnv} {S : Store} (h0 : I 0 env S)
    (H : ∀ k : Nat, k < m → ∀ env S P, I k env S → (∀ e s, I (k + 1) e s → P e s) → F (.int k) env S P) (H0 : ∀ env S, I m env S → nx env S) : forL F nx (rngL 0 c) env S :=
  for_rg I m (by omega) h0 (fun k hk env S P hI hP => by rw [Int.zero_add]; exact H k hk env S P hI hP) H0
theorem at_map {α : Type} {ps : List α} {g : α → D} {S : Store} {k : Nat} (hk : k < ps.length) : atD S (.tup (ps.map g)) (k : Int) = some (g ps[k]) := at_tup (by simpa using hk) (by simp)
theorem at_mapL {α : Type} {ps : List α} {g : α → D} {S : Store} {k : Nat} (hk : k < ps.length) : atD S (.lst (ps.map g)) (k : Int) = some (g ps[k]) := at_lst (by simpa using hk) (by simp)
theorem cut_from1 {xs : List D} : cutL xs (some 1) none = xs.drop 1 := by
  cases xs with
  | nil => rfl
  | cons x r => simp [cutL, HT.sIx]
section
variable {S : Store} {Q : MK}
theorem w_and {S : Store} {n : Nat} {xs : List D} {P : Prop} (h : S[n]? = some (.lst xs)) (q : P) : mTy S .append (.ref n) = true ∧ P := ⟨by simp [mTy, h], q⟩
theorem app_end {xs : List D} {x : D} (h : xs.length < sizeLine) (q : Q .non (S ++ [.lst (xs ++ [x])])) : mth .append (.ref S.length) [x] (S ++ [.lst xs]) Q :=
  ⟨xs, by rw [List.getElem?_append_right (Nat.le_refl _)]; simp, h, by
    rw [List.set_append_right _ _ (Nat.le_refl _)]
    simpa using q⟩
theorem b_addE {m : Bool} {xs ys : List D} (h : xs.length + ys.length ≤ sizeLine) (q : mkL m (xs ++ ys) (S ++ [.lst ys]) Q) : bop .Add m (.lst xs) (.ref S.length) (S ++ [.lst ys]) Q :=
  ⟨xs, ys, rfl, by simp [seqL], h, q⟩
end
section
variable {S : Store} {Q : MK}
theorem lt_int {i j : Int} : D.lt (.int i) (.int j) = decide (i < j) := PySem.W.dataLt_int i j
theorem max_ints : ∀ (is : List Int) (i : Int), ∃ b, maxD (.int i) (is.map .int) = .int b ∧ b ∈ i :: is ∧ ∀ x ∈ i :: is, x ≤ b := by
  intro is
  induction is with
  | nil => intro i; exact ⟨i, rfl, by simp, by simp⟩
  | cons j r ih =>
    intro i
    have e : maxD (.int i) ((j :: r).map .int) = maxD (.int (if i < j then j else i)) (r.map .int) := by
      simp only [maxD, List.map_cons, List.foldl_cons, lt_int]
      by_cases h : i < j <;> simp [h]
    obtain ⟨b, h1, h2, h3⟩ := ih (if i < j then j else i)
    refine ⟨b, e.trans h1, ?_, fun x hx => ?_⟩
    · rcases List.mem_cons.mp h2 with h | h
      · rw [h]; split <;> simp
      · simp [h]
    · have := h3 _ (List.mem_cons_self ..)
      rcases List.mem_cons.mp hx with h | h
      · subst h; split at this <;> omega
      · rcases List.mem_cons.mp h with h | h
        · subst h; split at this <;> omega
        · exact h3 x (by simp [h])
theorem min_ints : ∀ (is : List Int) (i : Int), ∃ b, minD (.int i) (is.map .int) = .int b ∧ b ∈ i :: is ∧ ∀ x ∈ i :: is, b ≤ x := by
  intro is
  induction is with
  | nil => intro i; exact ⟨i, rfl, by simp, by simp⟩
  | cons j r ih =>
    intro i
    have e : minD (.int i) ((j :: r).map .int) = minD (.int (if j < i then j else i)) (r.map .int) := by
      simp only [minD, List.map_cons, List.foldl_cons, lt_int]
      by_cases h : j < i <;> simp [h]
    obtain ⟨b, h1, h2, h3⟩ := ih (if j < i then j else i)
    refine ⟨b, e.trans h1, ?_, fun x hx => ?_⟩
    · rcases List.mem_cons.mp h2 with h | h
      · rw [h]; split <;> simp
      · simp [h]
    · have := h3 _ (List.mem_cons_self ..)
      rcases List.mem_cons.mp hx with h | h
      · subst h; split at this <;> omega
      · rcases List.mem_cons.mp h with h | h
        · subst h; split at this <;> omega
        · exact h3 x (by simp [h])
theorem okA_ints {is : List Int} : okA (is.map .int) := by
  refine ⟨fun x hx => ?_, fun x hx y hy => ?_⟩
  · obtain ⟨i, _, rfl⟩ := List.mem_map.mp hx
    exact ⟨⟨rfl, by show (0 : Nat) ≤ 64 <;> decide⟩, by simp [D.toP]⟩
  · obtain ⟨i, _, rfl⟩ := List.mem_map.mp hx
    obtain ⟨j, _, rfl⟩ := List.mem_map.mp hy
    rfl
theorem f_maxA {is : List Int} {m : Bool} (h : is ≠ []) (q : ∀ b, b ∈ is → (∀ x ∈ is, x ≤ b) → Q (.int b) S) : blt .max1 m [.lst (is.map .int)] S Q := by
  cases is with
  | nil => exact absurd rfl h
  | cons i r =>
    obtain ⟨b, h1, h2, h3⟩ := max_ints r i
    exact ⟨.int i, r.map .int, rfl, okA_ints (is := i :: r), by rw [h1]; exact q b h2 h3⟩
theorem f_minA {is : List Int} {m : Bool} (h : is ≠ []) (q : ∀ b, b ∈ is → (∀ x ∈ is, b ≤ x) → Q (.int b) S) : blt .min1 m [.lst (is.map .int)] S Q := by
  cases is with
  | nil => exact absurd rfl h
  | cons i r =>
    obtain ⟨b, h1, h2, h3⟩ := min_ints r i
    exact ⟨.int i, r.map .int, rfl, okA_ints (is := i :: r), by rw [h1]; exact q b h2 h3⟩
theorem zip_mem {xs ys : List D} {x : D} (h : x ∈ zipD xs ys) : ∃ a c, a ∈ xs ∧ c ∈ ys ∧ x = .tup [a, c] := by
  obtain ⟨⟨a, c⟩, hp, rfl⟩ := List.mem_map.mp h
  exact ⟨a, c, (List.of_mem_zip hp).1, (List.of_mem_zip hp).2, rfl⟩
/-- a list that is not empty has a first one -/
theorem at_zero {xs : List D} (h : xs ≠ []) : ∃ d, atD S (.lst xs) 0 = some d ∧ d ∈ xs := by
  cases xs with
  | nil => exact absurd rfl h
  | cons x r => exact ⟨x, at_lst (k := 0) (by simp) rfl, by simp⟩
end
section
variable {S : Store} {Q : MK} {c : C} {E : EK} {env : DEnv}
theorem c_eqS {i j : Str} (q : Q (.bl (i == j)) S) : cop .Eq (.str i) (.str j) S Q := by rw [cEq_str]; exact q
theorem c_neS {i j : Str} (q : Q (.bl (!(i == j))) S) : cop .NotEq (.str i) (.str j) S Q := by rw [cNe_str]; exact q
theorem c_self {xs : List D} (h1 : okD (.lst xs)) (h2 : (D.lst xs).toP.plain = true) (q : Q (.bl true) S) : cop .Eq (.lst xs) (.lst xs) S Q := ⟨h1, h1, by
  have : D.eqv (.lst xs) (.lst xs) = true := PySem.SeqAt.eqv_refl_plain _ h2
  show Q (.bl (D.eqv (.lst xs) (.lst xs))) S
  rw [this]; exact q⟩
theorem c_selfN {xs : List D} (h1 : okD (.lst xs)) (h2 : (D.lst xs).toP.plain = true) (q : Q (.bl false) S) : cop .NotEq (.lst xs) (.lst xs) S Q := ⟨h1, h1, by
  have : D.eqv (.lst xs) (.lst xs) = true := PySem.SeqAt.eqv_refl_plain _ h2
  show Q (.bl (!D.eqv (.lst xs) (.lst xs))) S
  rw [this]; exact q⟩
theorem c_eq1 {a : Str} (q : Q (.bl true) S) : cop .Eq (.lst [.str a]) (.lst [.str a]) S Q := c_self ⟨rfl, Nat.le_of_ble_eq_true rfl⟩ rfl q
theorem c_ne1 {a : Str} (q : Q (.bl false) S) : cop .NotEq (.lst [.str a]) (.lst [.str a]) S Q := c_selfN ⟨rfl, Nat.le_of_ble_eq_true rfl⟩ rfl q
theorem c_eq2 {a b : Str} (q : Q (.bl true) S) : cop .Eq (.lst [.str a, .str b]) (.lst [.str a, .str b]) S Q := c_self ⟨rfl, Nat.le_of_ble_eq_true rfl⟩ rfl q
theorem c_ne2 {a b : Str} (q : Q (.bl false) S) : cop .NotEq (.lst [.str a, .str b]) (.lst [.str a, .str b]) S Q := c_selfN ⟨rfl, Nat.le_of_ble_eq_true rfl⟩ rfl q
theorem c_eq3 {a b d : Str} (q : Q (.bl true) S) : cop .Eq (.lst [.str a, .str b, .str d]) (.lst [.str a, .str b, .str d]) S Q := c_self ⟨rfl, Nat.le_of_ble_eq_true rfl⟩ rfl q
theorem c_ne3 {a b d : Str} (q : Q (.bl false) S) : cop .NotEq (.lst [.str a, .str b, .str d]) (.lst [.str a, .str b, .str d]) S Q := c_selfN ⟨rfl, Nat.le_of_ble_eq_true rfl⟩ rfl q
theorem c_eq4 {a b d e : Str} (q : Q (.bl true) S) : cop .Eq (.lst [.str a, .str b, .str d, .str e]) (.lst [.str a, .str b, .str d, .str e]) S Q := c_self ⟨rfl, Nat.le_of_ble_eq_true rfl⟩ rfl q
theorem c_ne4 {a b d e : Str} (q : Q (.bl false) S) : cop .NotEq (.lst [.str a, .str b, .str d, .str e]) (.lst [.str a, .str b, .str d, .str e]) S Q := c_selfN ⟨rfl, Nat.le_of_ble_eq_true rfl⟩ rfl q
theorem b_mulT {m : Bool} {xs : List D} {k : Int} (h0 : -(2 ^ 63) ≤ k) (h1 : k < 2 ^ 63) (h : xs.length * k.toNat ≤ 1000000) (q : Q (.tup (List.replicate k.toNat xs).flatten) S) : bop .Mult m (.tup xs) (.int k) S Q := ⟨⟨h0, h1, h⟩, q⟩
theorem b_mulL {m : Bool} {xs : List D} {k : Int} (h0 : -(2 ^ 63) ≤ k) (h1 : k < 2 ^ 63) (h : xs.length * k.toNat ≤ sizeLine) (q : mkL m (List.replicate k.toNat xs).flatten S Q) : bop .Mult m (.lst xs) (.int k) S Q := ⟨xs, rfl, h0, h1, h, q⟩
theorem r_lr {i j : Int} {P : Int → Int → Prop} (h : RgOk i j) (q : P i j) : ∃ i' j', D.int i = .int i' ∧ D.int j = .int j' ∧ RgOk i' j' ∧ P i' j' := ⟨i, j, rfl, rfl, h, q⟩
theorem f_tupL {m : Bool} {xs : List D} (q : Q (.tup xs) S) : blt .tuple m [.lst xs] S Q := ⟨xs, rfl, q⟩
theorem f_lstL {xs : List D} {m : Bool} (q : mkL m xs S Q) : blt .list m [.lst xs] S Q := ⟨xs, rfl, q⟩
theorem if_con {b : Bool} {x y : D} (q : Q (if b = true then x else y) S) : if b = true then ev c E (.con x) env S Q else ev c E (.con y) env S Q := by
  cases b
  · simp at q ⊢; exact q
  · simp at q ⊢; exact q
/-- two ways that meet again -/
theorem if_join {b : Bool} {A B G : Prop} (h1 : b = true → G → A) (h2 : b = false → G → B) (g : G) : if b = true then A else B := by
  cases b
  · simp; exact h2 rfl g
  · simp; exact h1 rfl g
theorem if_njoin {b : Bool} {A B G : Prop} (h1 : b = false → G → A) (h2 : b = true → G → B) (g : G) : if (!b) = true then A else B := by
  cases b
  · simp; exact h1 rfl g
  · simp; exact h2 rfl g

end
section
variable {S : Store} {Q : MK} {c : C} {E : EK} {env : DEnv}
theorem e_same {a : ME} (d : D) (h : ∀ Q' : MK, Q' d S → ev c E a env S Q') (q : Q d S) : ev c E a env S Q := h Q q
theorem if_val {b : Bool} {x y : ME} (d : D) (h1 : b = true → ∀ Q' : MK, Q' d S → ev c E x env S Q') (h2 : b = false → ∀ Q' : MK, Q' d S → ev c E y env S Q') (q : Q d S) : if b = true then ev c E x env S Q else ev c E y env S Q := by
  cases b
  · simp; exact h2 rfl _ q
  · simp; exact h1 rfl _ q
theorem if_nval {b : Bool} {x y : ME} (d : D) (h1 : b = false → ∀ Q' : MK, Q' d S → ev c E x env S Q') (h2 : b = true → ∀ Q' : MK, Q' d S → ev c E y env S Q') (q : Q d S) : if (!b) = true then ev c E x env S Q else ev c E y env S Q := by
  cases b
  · simp; exact h1 rfl _ q
  · simp; exact h2 rfl _ q
theorem var_is {i : Nat} {x y : Str} (h : env[i]? = some (some (.str x))) (e : x = y) (Q' : MK) (q : Q' (.str y) S) : ev c E (.var i) env S Q' := e_var h (e ▸ q)
theorem con_is {x y : Str} (e : x = y) (Q' : MK) (q : Q' (.str y) S) : ev c E (.con (.str x)) env S Q' := e_con (e ▸ q)
end
end Mp

set_option Elab.async false
set_option linter.all false
set_option maxRecDepth 100000
set_option maxHeartbeats 2000000
/-! M, part 27: a text's rest. -/
namespace Mp
open PySem PySem.Spec PyProof.Rows L2
/-- what is left of a text behind so many statements -/
def MS.rest : Nat → MS → MS
  | 0, s => s
  | k + 1, .cons _ r => MS.rest k r
  | _, s => s
end Mp

set_option Elab.async false
set_option linter.all false
set_option maxRecDepth 100000
set_option maxHeartbeats 2000000
/-! M, part 28: what all such laws use. -/
namespace Mp
open PySem PySem.Spec PyProof.Rows L2
def isInt : D → Bool
  | .int _ => true
  | _ => false
def St (ns : List Int) (a k s : Int) : SO := .lst [.lst (ns.map .int), .int a, .int k, .int s]
structure Good (ns : List Int) (a k s : Int) : Prop where
  a0 : 0 ≤ a
  k0 : 0 ≤ k
  s0 : 0 ≤ s
  s1 : s < 2 ^ 32
theorem s_atD_ref {S : Store} {n : Nat} {i : Int} : atD S (.ref n) i = (S[n]?).bind fun o => match o with
    | .lst xs => atI xs i
    | _ => none := by
  unfold atD
  cases h : S[n]? with
  | none => simp [seqL, h]
  | some o => cases o <;> simp [seqL, h]
theorem mul_ok {s c : Int} (h0 : 0 ≤ s) (h1 : s < 2 ^ 32) : MulOk s c := .inl (by unfold CMul; omega)
theorem div_ok {i j : Int} (h0 : 0 < j) (h1 : j < 2 ^ 62) : L2.CDivW i j := ⟨h0, by
  have : j.natAbs < 2 ^ 62 := by omega
  have := (Nat.log2_lt (by omega)).mpr this
  omega⟩
theorem i_ref {S : Store} {n : Nat} {xs : List D} {d : D} {k : Int} {P : D → Prop} (hS : S[n]? = some (.lst xs)) (h : atI xs k = some d) (q : P d) : ∃ k' d', D.int k = .int k' ∧ atD S (.ref n) k' = some d' ∧ P d' := ⟨k, d, rfl, by rw [atD_ref hS]; exact h, q⟩
theorem i_lst {S : Store} {xs : List D} {d : D} {k : Int} {P : D → Prop} (h : atI xs k = some d) (q : P d) : ∃ k' d', D.int k = .int k' ∧ atD S (.lst xs) k' = some d' ∧ P d' := ⟨k, d, rfl, by rw [atD_lst]; exact h, q⟩
theorem s_ref {S : Store} {n : Nat} {xs : List D} {d : D} {k : Int} {j : Nat} {P : Store → Prop} (hS : S[n]? = some (.lst xs)) (h : ixN xs.length k = some j) (q : P (S.set n (.lst (xs.set j d)))) :
    ∃ n' xs' k' j', D.ref n = .ref n' ∧ S[n']? = some (.lst xs') ∧ D.int k = .int k' ∧ ixN xs'.length k' = some j' ∧ P (S.set n' (.lst (xs'.set j' d))) := ⟨n, xs, k, j, rfl, hS, rfl, h, q⟩
theorem i_ref' {S : Store} {n : Nat} {xs : List D} {d : D} {k : Int} {P : D → Prop} (hi : n < S.length) (h : atI xs k = some d) (q : P d) : ∃ k' d', D.int k = .int k' ∧ atD (S.set n (.lst xs)) (.ref n) k' = some d' ∧ P d' := i_ref (List.getElem?_set_self hi) h q
theorem s_rf {S : Store} {n : Nat} {xs : List D} {k : Int} {j : Nat} {P : Nat → List D → Nat → Prop} (hS : S[n]? = some (.lst xs)) (h : ixN xs.length k = some j) (q : P n xs j) :
    ∃ n' xs' k' j', D.ref n = .ref n' ∧ S[n']? = some (.lst xs') ∧ D.int k = .int k' ∧ ixN xs'.length k' = some j' ∧ P n' xs' j' := ⟨n, xs, k, j, rfl, hS, rfl, h, q⟩
theorem nth_int {ns : List Int} {k : Int} (h0 : 0 ≤ k) (h : ¬ ((ns.map D.int).length : Int) ≤ k) : ∃ j, atI (ns.map D.int) k = some (.int j) := by
  obtain ⟨m, rfl⟩ := Int.eq_ofNat_of_zero_le h0
  have hm : m < ns.length := by simp at h; omega
  refine ⟨ns[m], ?_⟩
  rw [atI_nat (by simpa using hm)]
  simp [hm]
theorem nth_some {α : Type} {xs : List α} {r : Int} (h0 : 0 ≤ r) (h1 : r < xs.length) : ∃ d, atI xs r = some d ∧ d ∈ xs := by
  obtain ⟨m, rfl⟩ := Int.eq_ofNat_of_zero_le h0
  have hm : m < xs.length := by omega
  exact ⟨xs[m], by rw [atI_nat hm]; simp [hm], List.getElem_mem hm⟩
/-- the state's object, whatever its numbers -/
structure Stt (S : Store) (i : Nat) : Prop where
  ex : ∃ ns a k s, S[i]? = some (St ns a k s) ∧ Good ns a k s
/-- plain values of bounded rows, by depth -/
def vb (B : Nat) : Nat → D → Bool
  | _, .non => true
  | _, .bl _ => true
  | _, .int _ => true
  | _, .str x => x.length ≤ B && PyData.strOk x
  | k + 1, .tup xs => xs.length ≤ B && xs.all (vb B k)
  | _, _ => false
/-- a plain value -/
inductive Vl (B : Nat) : D → Prop where
  | non : Vl B .non
  | bl (b : Bool) : Vl B (.bl b)
  | int (i : Int) : Vl B (.int i)
  | str (x : Str) (h : x.length ≤ B) (h2 : PyData.strOk x = true) : Vl B (.str x)
  | tup (xs : List D) (hl : xs.length ≤ B) (h : ∀ x ∈ xs, Vl B x) : Vl B (.tup xs)
theorem Vl.of {B : Nat} : ∀ {k : Nat} {d : D}, vb B k d = true → Vl B d := by
  intro k
  induction k with
  | zero =>
    intro d h
    cases d with
    | str x => simp [vb] at h; exact Vl.str _ h.1 h.2
    | non => exact .non
    | bl b => exact .bl b
    | int i => exact .int i
    | _ => simp [vb] at h
  | succ k ih =>
    intro d h
    cases d with
    | str x => simp [vb] at h; exact Vl.str _ h.1 h.2
    | non => exact .non
    | bl b => exact .bl b
    | int i => exact .int i
    | tup xs => simp [vb] at h; exact .tup _ h.1 fun x hx => ih (h.2 x hx)
    | _ => simp [vb] at h
theorem Vl.mono {B C : Nat} (hB : B ≤ C) {d : D} (h : Vl B d) : Vl C d := by
  induction h with
  | non => exact .non
  | bl b => exact .bl b
  | int i => exact .int i
  | str x h h2 => exact .str x (by omega) h2
  | tup xs hl h ih => exact .tup xs (by omega) ih
theorem cutL_mem {xs : List D} {l h : Option Int} {x : D} (hx : x ∈ cutL xs l h) : x ∈ xs := List.mem_of_mem_drop (List.mem_of_mem_take hx)
theorem cutL_len {xs : List D} {l h : Option Int} : (cutL xs l h).length ≤ xs.length := by simp [cutL]; omega
def odds : List D := [.non, .bl true, .bl false, .int (-1), .int 0, .int 1, .str "0", .str "a", .tup [], .tup [.int 0], .tup [.tup []], .int (10 ^ 30)]
theorem odds_vl {B : Nat} (h : 1 ≤ B) : ∀ d ∈ odds, Vl B d := fun d hd => Vl.mono h (Vl.of (k := 2) (by
  have : odds.all (vb 1 2) = true := by decide +kernel
  exact List.all_eq_true.mp this d hd))
theorem app_len {xs ys : List D} {a c : Nat} (h1 : xs.length ≤ a) (h2 : ys.length ≤ c) : (xs ++ ys).length ≤ a + c := by simp; omega
theorem add_ok {xs ys : List D} {a c : Nat} {m : Bool} {S : Store} {Q : MK} (h1 : xs.length ≤ a) (h2 : ys.length ≤ c) (h : a + c ≤ 100000) (q : Q (.tup (xs ++ ys)) S) : bop .Add m (.tup xs) (.tup ys) S Q :=
  b_addT (by rw [sizeLine_eq]; have : (100000 : Nat) ≤ 2 ^ 24 := by decide
             omega) q
theorem vl_cat {C : Nat} {xs ys : List D} (hl : (xs ++ ys).length ≤ C) (h1 : ∀ y ∈ xs, Vl C y) (h2 : ∀ y ∈ ys, Vl C y) : Vl C (.tup (xs ++ ys)) := .tup _ hl fun y hy => (List.mem_append.mp hy).elim (h1 y) (h2 y)
theorem Stt.app {S : Store} {i : Nat} (h : Stt S i) (ex : Store) : Stt (S ++ ex) i := by
  obtain ⟨ns, a, k, s, h, g⟩ := h.ex
  have : i < S.length := (List.getElem?_eq_some_iff.mp h).1
  exact ⟨⟨ns, a, k, s, by rw [List.getElem?_append_left this]; exact h, g⟩⟩
/-- a whole number between -/
def whole (lo hi : Int) : D → Bool
  | .int i => decide (lo ≤ i) && decide (i ≤ hi)
  | _ => false
theorem gen_pure {f : D → Store → List D → (List D → Store → Prop) → Prop} {S : Store} {Q : List D → Store → Prop} (g : D → List D) (N : Nat) : ∀ (xs acc : List D),
    (∀ x ∈ xs, ∀ acc Q2, acc.length < N → Q2 (acc ++ g x) S → f x S acc Q2) → (∀ x ∈ xs, (g x).length ≤ 1) → acc.length + xs.length ≤ N → Q (acc ++ xs.flatMap g) S → genL f xs S acc Q := by
  intro xs
  induction xs with
  | nil => intro acc _ _ _ q; simpa [genL] using q
  | cons x xs ih =>
    intro acc H h1 hN q
    have := h1 x (by simp)
    simp only [List.length_cons] at hN
    refine H x (by simp) acc _ (by omega) ?_
    refine ih _ (fun y hy => H y (by simp [hy])) (fun y hy => h1 y (by simp [hy])) (by simp; omega) ?_
    simpa [List.flatMap_cons, List.append_assoc] using q
theorem gen_map {f : D → Store → List D → (List D → Store → Prop) → Prop} {S : Store} {Q : List D → Store → Prop} (g : D → D) {xs : List D} (hN : xs.length ≤ sizeLine)
    (H : ∀ x ∈ xs, ∀ acc Q2, acc.length < sizeLine → Q2 (acc ++ [g x]) S → f x S acc Q2) (q : Q (xs.map g) S) : genL f xs S [] Q :=
  gen_pure (fun x => [g x]) sizeLine xs [] H (fun _ _ => by simp) (by simpa using hN) (by simpa [List.flatMap_singleton', List.map_eq_flatMap] using q)
theorem isInt_ex {d : D} (h : isInt d = true) : ∃ i, d = .int i := by
  cases d with
  | int i => exact ⟨i, rfl⟩
  | _ => simp [isInt] at h
theorem f_allL {g : D → Bool} {xs : List D} {m : Bool} {S : Store} {Q : MK} (q : Q (.bl (xs.all g)) S) : blt .all m [.lst (xs.map fun z => .bl (g z))] S Q := by
  refine ⟨xs.map g, by simp [seqL, List.map_map], ?_⟩
  simpa [List.all_map] using q
theorem whole_not {lo hi : Int} {d : D} (h : isInt d = false) : whole lo hi d = false := by
  cases d <;> first | rfl | (simp [isInt] at h)
/-- a comprehension with a condition over frozen rows -/
theorem gen_if {f : D → Store → List D → (List D → Store → Prop) → Prop} {S : Store} {Q : List D → Store → Prop} (p : D → Bool) (h : D → D) {xs : List D} (hN : xs.length ≤ sizeLine)
    (H : ∀ x ∈ xs, ∀ acc Q2, acc.length < sizeLine → (p x = true → Q2 (acc ++ [h x]) S) → (p x = false → Q2 acc S) → f x S acc Q2) (q : Q ((xs.filter p).map h) S) : genL f xs S [] Q := by
  refine gen_pure (fun x => if p x = true then [h x] else []) sizeLine xs [] (fun x hx acc Q2 ha h2 => H x hx acc Q2 ha (fun hp => ?_) fun hp => ?_) (fun x _ => ?_) (by simpa using hN) ?_
  · simpa [hp] using h2
  · simpa [hp] using h2
  · split <;> simp
  · have : xs.flatMap (fun x => if p x = true then [h x] else []) = (xs.filter p).map h := by
      clear hN H q
      induction xs with
      | nil => rfl
      | cons x r ih =>
        rw [List.flatMap_cons, ih, List.filter_cons]
        cases p x <;> simp
    simpa [this] using q
theorem emp_filter {xs : List D} {p : D → Bool} {h : D → D} : ((xs.filter p).map h).isEmpty = !xs.any p := by
  rw [Bool.eq_iff_iff]
  simp only [List.isEmpty_iff, List.map_eq_nil_iff, List.filter_eq_nil_iff, Bool.not_eq_true', List.any_eq_false]
def fallAt (xs : List D) (k : Nat) : Bool := match xs[k]?, xs[k + 1]? with
  | some (.int i), some (.int j) => decide (j ≤ i)
  | _, _ => false
theorem whole_ex {lo hi : Int} {d : D} (h : whole lo hi d = true) : ∃ i, d = .int i ∧ lo ≤ i ∧ i ≤ hi := by
  cases d with
  | int i => simp [whole] at h; exact ⟨i, rfl, h⟩
  | _ => simp [whole] at h
theorem any_rng {m : Nat} {o : Int} {p : D → Bool} : ((List.range m).map fun i => D.int (o + (i : Nat))).any p = (List.range m).any fun i => p (.int (o + (i : Nat))) := by
  simp [List.any_map, Function.comp_def]
theorem list_ex {f : D → Bool} {α : Type} {g : α → D} {P : α → Prop} (H : ∀ d, f d = true → ∃ p, d = g p ∧ P p) : ∀ {xs : List D}, xs.all f = true → ∃ ps : List α, xs = ps.map g ∧ ∀ p ∈ ps, P p := by
  intro xs
  induction xs with
  | nil => intro _; exact ⟨[], rfl, by simp⟩
  | cons x r ih =>
    intro h
    simp only [List.all_cons, Bool.and_eq_true] at h
    obtain ⟨p, rfl, hp⟩ := H x h.1
    obtain ⟨ps, rfl, hs⟩ := ih h.2
    exact ⟨p :: ps, rfl, fun q hq => (List.mem_cons.mp hq).elim (fun e => e ▸ hp) (hs q)⟩
theorem no_word {z : Str} {E : Exc → Store → Prop} {S : Store} {e : Exc} (hE : ∀ e ex, wordOf e = some z → E e (S ++ ex)) (h : wordOf e = some z) : E e S := by simpa using hE e [] h
theorem ok_val {z : Str} {Q : MK} {S : Store} {d : D} (h0 : z = "" → ∀ d ex, Q d (S ++ ex)) (h : z = "") : Q d S := by simpa using h0 h d []
theorem ok_ref {z : Str} {Q : MK} {S ex : Store} {d : D} (h0 : z = "" → ∀ d ex, Q d (S ++ ex)) (h : z = "") : Q d (S ++ ex) := h0 h d ex

theorem cdivW {u k : Nat} (hu : 0 < u) (h : u ≤ 100000 ^ k) (hk : k ≤ 12) : CDivW (0 : Int) (u : Int) := ⟨by omega, by
  have h1 : u < 2 ^ 200 := Nat.lt_of_le_of_lt (Nat.le_trans h (Nat.pow_le_pow_right (by decide) hk)) (by decide)
  have := (Nat.log2_lt (by omega : u ≠ 0)).mpr h1
  simp only [Int.natAbs_natCast]
  omega⟩
theorem f_sumL {α : Type} {g : α → Int} {xs : List α} {m : Bool} {S : Store} {Q : MK} (q : ∀ r, Q (.int r) S) : blt .sum m [.lst (xs.map fun z => .int (g z))] S Q := by
  refine ⟨xs.map g, by simp [items, seqL, List.map_map], ?_⟩
  exact q _
/-- a comprehension that asks for something of each -/
theorem gen_any {f : D → Store → List D → (List D → Store → Prop) → Prop} {S : Store} {Q : List D → Store → Prop} {P : D → Prop} : ∀ {xs : List D} (acc : List D) (_ : acc.length + xs.length ≤ sizeLine) (_ : ∀ y ∈ acc, P y)
    (_ : ∀ x ∈ xs, ∀ acc Q2, acc.length < sizeLine → (∀ y, P y → Q2 (acc ++ [y]) S) → Q2 acc S → f x S acc Q2) (_ : ∀ zs, zs.length ≤ acc.length + xs.length → (∀ y ∈ zs, P y) → Q zs S), genL f xs S acc Q := by
  intro xs
  induction xs with
  | nil => intro acc _ ha _ q; exact q acc (by simp) ha
  | cons x r ih =>
    intro acc hN ha H q
    simp only [List.length_cons] at hN
    refine H x (by simp) acc _ (by omega) (fun y hy => ?_) ?_
    · refine ih (acc ++ [y]) (by simp; omega) (fun z hz => ?_) (fun z hz => H z (by simp [hz])) fun zs hl hz => q zs (by simp at hl ⊢; omega) hz
      rcases List.mem_append.mp hz with h | h
      · exact ha z h
      · rw [List.mem_singleton.mp h]; exact hy
    · exact ih acc (by omega) ha (fun z hz => H z (by simp [hz])) fun zs hl hz => q zs (by simp; omega) hz
theorem ints_of {zs : List D} (h : ∀ y ∈ zs, ∃ i, y = .int i) : ∃ is : List Int, zs = is.map .int := by
  induction zs with
  | nil => exact ⟨[], rfl⟩
  | cons z r ih =>
    obtain ⟨i, rfl⟩ := h z (by simp)
    obtain ⟨is, rfl⟩ := ih fun y hy => h y (by simp [hy])
    exact ⟨i :: is, rfl⟩
theorem f_sumA {zs : List D} {m : Bool} {S : Store} {Q : MK} (h : ∀ y ∈ zs, ∃ i, y = .int i) (q : ∀ r, Q (.int r) S) : blt .sum m [.lst zs] S Q := by
  obtain ⟨is, rfl⟩ := ints_of h
  exact ⟨is, rfl, q _⟩
theorem sz4096 {k : Nat} (h : k ≤ 2 ^ 12) : k < sizeLine := by rw [sizeLine_eq]; omega
theorem add_len {rows fs : List D} {k : Nat} (h1 : rows.length ≤ 2 ^ k) (h2 : fs.length ≤ rows.length) (hk : k + 1 ≤ 12) : rows.length + fs.length ≤ sizeLine := by
  have : 2 ^ (k + 1) ≤ 2 ^ 12 := Nat.pow_le_pow_right (by decide) hk
  rw [Nat.pow_succ] at this
  rw [sizeLine_eq]
  omega
def natD (h : Nat) : D := .int (h : Nat)
def neS : D → Bool
  | .str x => !(x == ("" : Str))
  | _ => true
/-- the first word that is due -/
def firstW (ws : List Str) : Str := ((ws.filter fun x => !(x == ("" : Str))).head?).getD ""
theorem vbs {B k : Nat} {xs : List D} (h : xs.all (vb B k) = true) {d : D} (hd : d ∈ xs) : vb B k d = true := List.all_eq_true.mp h d hd
theorem f_lstS {ns : List Int} {m : Bool} {S : Store} {Q : MK} (q : mkL m (ns.map .int) S Q) : blt .list m [.scr ns] S Q := q
end Mp

set_option Elab.async false
set_option linter.all false
set_option maxRecDepth 100000
set_option maxHeartbeats 2000000
/-! M, part 29: flat rows, compared. -/
namespace Mp
open PySem PySem.Spec PyProof.Rows L2
/-- rows of rows of scalars, so deep -/
def flat : Nat → D → Bool
  | _, .non => true
  | _, .bl _ => true
  | _, .int _ => true
  | _, .str _ => true
  | k + 1, .tup xs => xs.all (flat k)
  | k + 1, .lst xs => xs.all (flat k)
  | _, _ => false
theorem depAll_le {k : Nat} : ∀ {xs : List D}, (∀ x ∈ xs, x.toP.depth ≤ k) → PyData.depthAll (xs.map D.toP) ≤ k := by
  intro xs
  induction xs with
  | nil => intro _; simp [PyData.depthAll]
  | cons x r ih =>
    intro h
    rw [List.map_cons, PyData.depthAll]
    have h1 := h x (by simp)
    have h2 := ih fun y hy => h y (by simp [hy])
    omega
theorem flat_ok : ∀ {k : Nat} {d : D}, flat k d = true → d.pur = true ∧ d.toP.depth ≤ k := by
  intro k
  induction k with
  | zero =>
    intro d h
    cases d <;> first | exact ⟨rfl, Nat.le_refl _⟩ | (simp [flat] at h)
  | succ k ih =>
    intro d h
    cases d with
    | tup xs =>
      simp only [flat, List.all_eq_true] at h
      refine ⟨by rw [D.pur, purs_all, List.all_eq_true]; exact fun x hx => (ih (h x hx)).1, ?_⟩
      rw [toP_tup, PyData.depth]
      have := depAll_le fun x hx => (ih (h x hx)).2
      omega
    | lst xs =>
      simp only [flat, List.all_eq_true] at h
      refine ⟨by rw [D.pur, purs_all, List.all_eq_true]; exact fun x hx => (ih (h x hx)).1, ?_⟩
      rw [toP_lst, PyData.depth]
      have := depAll_le fun x hx => (ih (h x hx)).2
      omega
    | _ => first | exact ⟨rfl, Nat.zero_le _⟩ | (simp [flat] at h)
theorem flat_okD {k : Nat} {d : D} (hk : k ≤ 64) (h : flat k d = true) : okD d := ⟨(flat_ok h).1, Nat.le_trans (flat_ok h).2 hk⟩
theorem flat_res {k : Nat} {d : D} {S : Store} (h : flat k d = true) : res S d = d := by
  cases d <;> first | rfl | (cases k <;> simp [flat] at h)
section
variable {S : Store} {Q : MK}
/-- == of flat values: some truth value -/
theorem c_eqF {x y : D} {k : Nat} (hk : k ≤ 64) (h1 : flat k x = true) (h2 : flat k y = true) (q : ∀ b, b = D.eqv x y → Q (.bl b) S) : cop .Eq x y S Q := by
  show cEq x y S Q
  unfold cEq
  rw [flat_res h1, flat_res h2]
  exact ⟨flat_okD hk h1, flat_okD hk h2, q _ rfl⟩
theorem c_neF {x y : D} {k : Nat} (hk : k ≤ 64) (h1 : flat k x = true) (h2 : flat k y = true) (q : ∀ b, b = (!D.eqv x y) → Q (.bl b) S) : cop .NotEq x y S Q := by
  show cNe x y S Q
  unfold cNe
  rw [flat_res h1, flat_res h2]
  exact ⟨flat_okD hk h1, flat_okD hk h2, q _ rfl⟩
theorem eqv_nil {xs : List D} : D.eqv (.lst xs) (.lst []) = xs.isEmpty := by
  unfold D.eqv
  rw [toP_lst, toP_lst]
  cases xs <;> simp [PyData.eqv, PyData.eqvAll]
/-- [..] == [] -/
theorem c_isnil {xs : List D} (h : xs.all (flat 2) = true) (q : Q (.bl xs.isEmpty) S) : cop .Eq (.lst xs) (.lst []) S Q :=
  c_eqF (k := 3) (by decide) h rfl fun b hb => by rw [hb, eqv_nil]; exact q
end
end Mp

set_option Elab.async false
set_option linter.all false
set_option maxRecDepth 100000
set_option maxHeartbeats 2000000
/-! M, part 30: sorted, min of rows. -/
namespace Mp
open PySem PySem.Spec PyProof.Rows L2
/-- two whole numbers -/
def pairD (z : D) : Prop := ∃ i j : Int, z = .tup [.int i, .int j]
theorem pairD.okD {z : D} (h : pairD z) : okD z := by obtain ⟨i, j, rfl⟩ := h; exact flat_okD (k := 1) (by decide) rfl
theorem pairD.al {x y : D} (h : pairD x) (h2 : pairD y) : PySem.W.alike x.toP y.toP = true := by
  obtain ⟨i, j, rfl⟩ := h
  obtain ⟨k, l, rfl⟩ := h2
  rfl
theorem sortD_mem {rv : Bool} {xs : List D} {z : D} (h : z ∈ sortD rv xs) : z ∈ xs := by unfold sortD at h; exact List.mem_mergeSort.mp h
theorem sortD_len {rv : Bool} {xs : List D} : (sortD rv xs).length = xs.length := by unfold sortD; exact List.length_mergeSort ..
section
variable {S : Store} {Q : MK}
theorem f_sortP {m : Bool} {xs : List D} (h : ∀ z ∈ xs, pairD z) (q : ∀ zs, (∀ z ∈ zs, z ∈ xs) → zs.length = xs.length → mkL m zs S Q) : blt .sorted m [.lst xs] S Q := by
  refine ⟨xs, rfl, .inr ⟨fun x hx => (h x hx).okD, fun x hx y hy => (h x hx).al (h y hy), .inl fun x hx => ?_⟩, q _ (fun z hz => sortD_mem hz) sortD_len⟩
  obtain ⟨i, j, rfl⟩ := h x hx
  exact ⟨_, _, rfl⟩
theorem f_sortI {m : Bool} {x : D} {xs : List D} (hx : seqL S x = some xs) (h : ∀ z ∈ xs, ∃ i, z = .int i) (q : ∀ zs, (∀ z ∈ zs, z ∈ xs) → zs.length = xs.length → mkL m zs S Q) : blt .sorted m [x] S Q := by
  have ok : okSort xs := by
    refine ⟨fun x hx => ?_, fun x hx y hy => ?_, .inr fun x hx => ?_⟩
    · obtain ⟨i, rfl⟩ := h x hx
      exact flat_okD (k := 0) (by decide) rfl
    · obtain ⟨i, rfl⟩ := h x hx
      obtain ⟨j, rfl⟩ := h y hy
      rfl
    · obtain ⟨i, rfl⟩ := h x hx
      exact ⟨by simp [D.toP], fun ys => by simp⟩
  have q2 := q (sortD false xs) (fun z hz => sortD_mem hz) sortD_len
  cases x with
  | tup zs => simp [seqL] at hx
  | _ => exact ⟨xs, hx, .inr ok, q2⟩
/-- sorted of a tuple of whole numbers -/
theorem f_sortT {m : Bool} {xs : List D} (h : ∀ z ∈ xs, ∃ i, z = .int i) (q : mkL m (sortD false xs) S Q) : blt .sorted m [.tup xs] S Q := by
  refine ⟨⟨fun x hx => ?_, fun x hx y hy => ?_, .inr fun x hx => ?_⟩, q⟩
  · obtain ⟨i, rfl⟩ := h x hx
    exact flat_okD (k := 0) (by decide) rfl
  · obtain ⟨i, rfl⟩ := h x hx
    obtain ⟨j, rfl⟩ := h y hy
    rfl
  · obtain ⟨i, rfl⟩ := h x hx
    exact ⟨by simp [D.toP], fun ys => by simp⟩
theorem minD_in : ∀ (xs : List D) (x : D), minD x xs ∈ x :: xs := by
  intro xs
  induction xs with
  | nil => intro x; simp [minD]
  | cons y r ih =>
    intro x
    have e : minD x (y :: r) = minD (if D.lt y x = true then y else x) r := rfl
    rw [e]
    have := ih (if D.lt y x = true then y else x)
    rcases List.mem_cons.mp this with h | h
    · rw [h]; split <;> simp
    · simp [h]
/-- min of pairs: one of them -/
theorem f_minP {m : Bool} {xs : List D} (hne : xs ≠ []) (h : ∀ z ∈ xs, pairD z) (q : ∀ z ∈ xs, z = minD (xs.headD .non) xs.tail → Q z S) : blt .min1 m [.lst xs] S Q := by
  cases xs with
  | nil => exact absurd rfl hne
  | cons x r =>
    refine ⟨x, r, rfl, ⟨fun y hy => ⟨(h y hy).okD, ?_⟩, fun y hy w hw => (h y hy).al (h w hw)⟩, q _ (minD_in r x) rfl⟩
    obtain ⟨i, j, rfl⟩ := h y hy
    simp [D.toP]
theorem f_tupR {m : Bool} {xs : List D} {n : Nat} (h : S[n]? = some (.lst xs)) (q : Q (.tup xs) S) : blt .tuple m [.ref n] S Q := ⟨xs, by simp [seqL, h], q⟩
theorem f_tupE {m : Bool} {xs : List D} (q : Q (.tup xs) (S ++ [.lst xs])) : blt .tuple m [.ref S.length] (S ++ [.lst xs]) Q := f_tupR (by simp) q
theorem getE {xs : List D} : (S ++ [SO.lst xs])[S.length]? = some (.lst xs) := by simp
/-- a list of the store that is not the last -/
theorem app_ref {n : Nat} {xs : List D} {x : D} (hS : S[n]? = some (.lst xs)) (h : xs.length < sizeLine) (q : Q .non (S.set n (.lst (xs ++ [x])))) : mth .append (.ref n) [x] S Q := ⟨xs, hS, h, q⟩
theorem all_pairD {xs : List D} (h : ∀ z ∈ xs, pairD z) : xs.all (flat 1) = true := List.all_eq_true.mpr fun z hz => by obtain ⟨i, j, rfl⟩ := h z hz; rfl
end
theorem pairs_mem : ∀ {xs : List D} {n : Nat} {z : D}, z ∈ pairs n xs → ∃ k x, xs[k]? = some x ∧ z = .tup [.int ((n + k : Nat) : Int), x] := by
  intro xs n z hz
  obtain ⟨k, hk, rfl⟩ := List.getElem_of_mem hz
  have h2 := pairs_get (xs := xs) (n := n) (i := k)
  rw [List.getElem?_eq_getElem hk] at h2
  obtain ⟨x, hx, he⟩ := Option.map_eq_some_iff.mp h2.symm
  exact ⟨k, x, hx, he.symm⟩
theorem pairs_at {xs : List D} {k : Nat} (hk : k < (pairs 0 xs).length) : (pairs 0 xs)[k] = .tup [.int (k : Nat), xs[k]'(by rw [pairs_len] at hk; exact hk)] := by
  have hk2 : k < xs.length := by rw [pairs_len] at hk; exact hk
  have h2 := pairs_get (xs := xs) (n := 0) (i := k)
  rw [List.getElem?_eq_getElem hk, List.getElem?_eq_getElem hk2] at h2
  simpa using h2
end Mp

set_option Elab.async false
set_option linter.all false
set_option maxRecDepth 100000
set_option maxHeartbeats 2000000
/-! M, part 31: words. -/
namespace Mp
open PySem PySem.Spec PyProof.Rows L2
theorem word_ne {e : Exc} : wordOf e ≠ some "" := by
  intro h
  have key : ∀ (a x : Str), 1 ≤ a.length → a ++ x ≠ "" := fun a x ha hx => by
    have := congrArg Str.length hx
    rw [PySem.Str.length_append] at this
    have e0 : (("" : Str)).length = 0 := rfl
    omega
  unfold wordOf at h
  split at h
  all_goals (try (split at h))
  all_goals first
    | exact key _ _ (by decide) (Option.some.inj h)
    | (cases h; done)
/-- what a call of a check leaves: nothing, or its word -/
theorem no_ne {z : Str} {E : Exc → Store → Prop} {S : Store} (hz : z = "") (e : Exc) (h : wordOf e = some z) : E e S := absurd (hz ▸ h) word_ne
section
variable {A B : Prop}
theorem isn_1 (h : A) : if isN false .non = true then A else B := by simp [isN]; exact h
theorem isn_2 (h : B) : if isN true .non = true then A else B := by simp [isN]; exact h
theorem isn_3 {i : Int} (h : B) : if isN false (.int i) = true then A else B := by simp [isN]; exact h
theorem isn_4 {i : Int} (h : A) : if isN true (.int i) = true then A else B := by simp [isN]; exact h
theorem isn_5 {i : List D} (h : B) : if isN false (.tup i) = true then A else B := by simp [isN]; exact h
theorem isn_6 {i : List D} (h : A) : if isN true (.tup i) = true then A else B := by simp [isN]; exact h
theorem isn_7 {i : Str} (h : B) : if isN false (.str i) = true then A else B := by simp [isN]; exact h
theorem isn_8 {i : Str} (h : A) : if isN true (.str i) = true then A else B := by simp [isN]; exact h
theorem isn_9 {i : List D} (h : B) : if isN false (.lst i) = true then A else B := by simp [isN]; exact h
theorem isn_10 {i : List D} (h : A) : if isN true (.lst i) = true then A else B := by simp [isN]; exact h
end
section
variable {S R : Store} {Q : MK}
theorem mid_get {xs : List D} : (S ++ [SO.lst xs] ++ R)[S.length]? = some (.lst xs) := by simp
theorem mid_set {xs ys : List D} : (S ++ [SO.lst xs] ++ R).set S.length (.lst ys) = S ++ [.lst ys] ++ R := by
  rw [List.append_assoc, List.set_append_right _ _ (Nat.le_refl _)]
  simp
theorem app_mid {xs : List D} {x : D} (h : xs.length < sizeLine) (q : Q .non (S ++ [.lst (xs ++ [x])] ++ R)) : mth .append (.ref S.length) [x] (S ++ [.lst xs] ++ R) Q :=
  ⟨xs, mid_get, h, by rw [mid_set]; exact q⟩
theorem f_tupM {m : Bool} {xs : List D} (q : Q (.tup xs) (S ++ [.lst xs] ++ R)) : blt .tuple m [.ref S.length] (S ++ [.lst xs] ++ R) Q := f_tupR mid_get q
/-- the second of two rows at the end -/
theorem two_get {a xs : List D} : (S ++ [SO.lst a] ++ [SO.lst xs])[S.length + 1]? = some (.lst xs) := by
  rw [List.append_assoc, List.getElem?_append_right (by omega)]
  simp
theorem app_two {a xs : List D} {x : D} (h : xs.length < sizeLine) (q : Q .non (S ++ [.lst a] ++ [.lst (xs ++ [x])])) : mth .append (.ref (S.length + 1)) [x] (S ++ [.lst a] ++ [.lst xs]) Q :=
  ⟨xs, two_get, h, by
    rw [List.append_assoc, List.set_append_right _ _ (by omega)]
    simpa using q⟩
theorem f_tup2 {m : Bool} {a xs : List D} (q : Q (.tup xs) (S ++ [.lst a] ++ [.lst xs])) : blt .tuple m [.ref (S.length + 1)] (S ++ [.lst a] ++ [.lst xs]) Q := f_tupR two_get q
theorem seq_ref {n : Nat} {xs : List D} (h : S[n]? = some (.lst xs)) : seqL S (.ref n) = some xs := by simp [seqL, h]
end
end Mp

set_option Elab.async false
set_option linter.all false
set_option maxRecDepth 100000
set_option maxHeartbeats 2000000
/-! M, part 32: more steps. -/
namespace Mp
open PySem PySem.Spec PyProof.Rows L2
section
variable {c : C} {E : EK} {env : DEnv} {S R : Store} {Q : MK}
theorem v_rngD {a e : ME} {Q : Src → Store → Prop} (q : ev c E a env S fun x S1 => ev c E e env S1 fun y S2 => ∃ i j, x = .int i ∧ y = .int j ∧ rOk i ∧ rOk j ∧ Q (.fix ((List.range (i - j).toNat).map fun k => D.int (i - (k : Nat)))) S2) : evI c E (.rngD a e) env S Q := by rw [evI]; exact q
theorem u_ref {n : Nat} {xs : List D} {P : Bool → Prop} (h : S[n]? = some (.lst xs)) (q : P (!xs.isEmpty)) : tst S (.ref n) P := ⟨_, by simp [tru, seqL, h], q⟩
theorem f_minR {is : List Int} {m : Bool} {n : Nat} (hS : S[n]? = some (.lst (is.map .int))) (h : is ≠ []) (q : ∀ b, b ∈ is → (∀ x ∈ is, b ≤ x) → Q (.int b) S) : blt .min1 m [.ref n] S Q := by
  cases is with
  | nil => exact absurd rfl h
  | cons i r =>
    obtain ⟨b, h1, h2, h3⟩ := min_ints r i
    exact ⟨.int i, r.map .int, by simp [items, seqL, hS], okA_ints (is := i :: r), by rw [h1]; exact q b h2 h3⟩
theorem f_lenR {m : Bool} {n : Nat} {xs : List D} (hS : S[n]? = some (.lst xs)) (q : Q (.int xs.length) S) : blt .len m [.ref n] S Q := by rw [fLen_ref hS]; exact q
theorem atI_last {xs : List D} {d : D} {k : Nat} (hl : xs.length = k + 1) (h : xs[k]? = some d) : atI xs (-1) = some d := by
  unfold atI ixN
  simp [hl]
  rw [if_pos (by omega)]
  simp
  rw [show (-1 + ((k : Int) + 1)).toNat = k by omega]
  exact h
theorem c_inR {n : Nat} {xs : List D} (hS : S[n]? = some (.lst xs)) (h : xs.all (flat 1) = true) (q : Q (.bl (xs.any fun z => D.eqv z .non)) S) : cop .In .non (.ref n) S Q := by
  show cIn false .non (.ref n) S Q
  exact ⟨xs, by simp [seqL, hS], flat_okD (k := 0) (by decide) rfl, flat_okD (k := 2) (by decide) h, by simpa [res] using q⟩
end
end Mp

set_option Elab.async false
set_option linter.all false
set_option maxRecDepth 100000
set_option maxHeartbeats 2000000
/-! M, part 33: what is heard, in a list of the store. -/
namespace Mp
open PySem PySem.Spec PyProof.Rows L2
theorem plain_ok : ∀ {k : Nat} {d : D}, flat k d = true → d.toP.plain = true := by
  have all : ∀ {xs : List D}, (∀ x ∈ xs, x.toP.plain = true) → PyData.plainAll (xs.map D.toP) = true := by
    intro xs
    induction xs with
    | nil => intro _; rfl
    | cons x r ih =>
      intro h
      rw [List.map_cons, PyData.plainAll, Bool.and_eq_true]
      exact ⟨h x (by simp), ih fun y hy => h y (by simp [hy])⟩
  intro k
  induction k with
  | zero => intro d h; cases d <;> first | rfl | (simp [flat] at h)
  | succ k ih =>
    intro d h
    cases d with
    | tup xs =>
      simp only [flat, List.all_eq_true] at h
      rw [toP_tup, PyData.plain]
      exact all fun x hx => ih (h x hx)
    | lst xs =>
      simp only [flat, List.all_eq_true] at h
      rw [toP_lst, PyData.plain]
      exact all fun x hx => ih (h x hx)
    | _ => first | rfl | (simp [flat] at h)
/-- the drawn state at i, what is heard at j -/
structure HH (S : Store) (i j : Nat) (hs : List D) : Prop where
  st : Stt S i
  get : S[j]? = some (.lst hs)
  ne : i ≠ j
theorem Stt.lt {S : Store} {i : Nat} (h : Stt S i) : i < S.length := by
  obtain ⟨ns, a, k, s, h, _⟩ := h.ex
  exact (List.getElem?_eq_some_iff.mp h).1
theorem HH.app {S : Store} {i j : Nat} {hs : List D} (h : HH S i j hs) (ex : Store) : HH (S ++ ex) i j hs :=
  ⟨h.st.app ex, by rw [List.getElem?_append_left (List.getElem?_eq_some_iff.mp h.get).1]; exact h.get, h.ne⟩
theorem HH.new {S : Store} {i : Nat} (h : Stt S i) (hs : List D) : HH (S ++ [.lst hs]) i S.length hs := ⟨h.app _, by simp, Nat.ne_of_lt h.lt⟩
theorem HH.set {S : Store} {i j : Nat} {hs : List D} (h : HH S i j hs) (gs : List D) : HH (S.set j (.lst gs)) i j gs := by
  obtain ⟨⟨ns, a, k, s, h1, g⟩, h2, h3⟩ := h
  have hj := (List.getElem?_eq_some_iff.mp h2).1
  exact ⟨⟨ns, a, k, s, by rw [List.getElem?_set_ne (Ne.symm h3)]; exact h1, g⟩, List.getElem?_set_self hj, h3⟩
section
variable {S : Store} {Q : MK}
theorem b_addRT {j : Nat} {xs ys : List D} (hS : S[j]? = some (.lst xs)) (h : xs.length + ys.length ≤ sizeLine) (q : Q (.ref S.length) (S ++ [.lst (xs ++ ys)])) : bop .Add true (.ref j) (.lst ys) S Q :=
  ⟨xs, ys, by simp [seqL, hS], rfl, h, q⟩
theorem c_eqR {n k : Nat} {xs : List D} (hS : S[n]? = some (.lst xs)) (hk : k ≤ 60) (h : xs.all (flat k) = true) (q : Q (.bl true) S) : cop .Eq (.ref n) (.lst xs) S Q := by
  show cEq (.ref n) (.lst xs) S Q
  have hf : flat (k + 1) (.lst xs) = true := h
  have ho := flat_okD (k := k + 1) (by omega) hf
  have hp : D.eqv (.lst xs) (.lst xs) = true := PySem.SeqAt.eqv_refl_plain _ (plain_ok hf)
  unfold cEq
  rw [show res S (.ref n) = .lst xs by simp [res, hS], show res S (.lst xs) = .lst xs from rfl, hp]
  exact ⟨ho, ho, q⟩
theorem gl_cons {f : D → Store → List D → (List D → Store → Prop) → Prop} {x : D} {xs acc : List D} {Q : List D → Store → Prop} (q : f x S acc fun acc1 S1 => genL f xs S1 acc1 Q) : genL f (x :: xs) S acc Q := q
theorem gl_nil {f : D → Store → List D → (List D → Store → Prop) → Prop} {acc : List D} {Q : List D → Store → Prop} (q : Q acc S) : genL f [] S acc Q := q
end
/-- a loop, by the number of its turns, each item one of the row -/
theorem for_im {F : D → DEnv → Store → (DEnv → Store → Prop) → Prop} {nx : DEnv → Store → Prop} (I : Nat → DEnv → Store → Prop) {xs : List D} {env : DEnv} {S : Store} (h0 : I 0 env S)
    (H : ∀ k x, k < xs.length → x ∈ xs → ∀ env S P, I k env S → (∀ e s, I (k + 1) e s → P e s) → F x env S P) (H0 : ∀ env S, I xs.length env S → nx env S) : forL F nx xs env S :=
  for_ix I h0 (fun k hk env S P => H k _ hk (List.getElem_mem hk) env S P) H0
end Mp

set_option Elab.async false
set_option linter.all false
set_option maxRecDepth 100000
set_option maxHeartbeats 2000000
/-! M, part 34: plain values whose numbers are bounded. -/
namespace Mp
open PySem PySem.Spec PyProof.Rows L2
def vz (B N : Nat) : Nat → D → Bool
  | _, .non => true
  | _, .bl _ => true
  | _, .int i => decide (i.natAbs ≤ N)
  | _, .str x => x.length ≤ B && PyData.strOk x
  | k + 1, .tup xs => xs.length ≤ B && xs.all (vz B N k)
  | _, _ => false
inductive Vz (B N : Nat) : Nat → D → Prop where
  | non {k : Nat} : Vz B N k .non
  | bl {k : Nat} (b : Bool) : Vz B N k (.bl b)
  | int {k : Nat} (i : Int) (h : i.natAbs ≤ N) : Vz B N k (.int i)
  | str {k : Nat} (x : Str) (h : x.length ≤ B) (h2 : PyData.strOk x = true) : Vz B N k (.str x)
  | tup {k : Nat} (xs : List D) (hl : xs.length ≤ B) (h : ∀ x ∈ xs, Vz B N k x) : Vz B N (k + 1) (.tup xs)
theorem Vz.of {B N : Nat} : ∀ {k : Nat} {d : D}, vz B N k d = true → Vz B N k d := by
  intro k
  induction k with
  | zero =>
    intro d h
    cases d with
    | str x => simp [vz] at h; exact .str _ h.1 h.2
    | non => exact .non
    | bl b => exact .bl b
    | int i => simp [vz] at h; exact .int i h
    | _ => simp [vz] at h
  | succ k ih =>
    intro d h
    cases d with
    | str x => simp [vz] at h; exact .str _ h.1 h.2
    | non => exact .non
    | bl b => exact .bl b
    | int i => simp [vz] at h; exact .int i h
    | tup xs => simp [vz] at h; exact .tup _ h.1 fun x hx => ih (h.2 x hx)
    | _ => simp [vz] at h
theorem Vz.mono {B C N M : Nat} (hB : B ≤ C) (hN : N ≤ M) {k l : Nat} (hk : k ≤ l) {d : D} (h : Vz B N k d) : Vz C M l d := by
  induction h generalizing l with
  | non => exact .non
  | bl b => exact .bl b
  | int i h => exact .int i (by omega)
  | str x h h2 => exact .str x (by omega) h2
  | tup xs hl h ih =>
    cases l with
    | zero => omega
    | succ l => exact .tup xs (by omega) fun x hx => ih x hx (by omega)
theorem Vz.vl {B N k : Nat} {d : D} (h : Vz B N k d) : Vl B d := by
  induction h with
  | non => exact .non
  | bl b => exact .bl b
  | int i h => exact .int i
  | str x h h2 => exact .str x h h2
  | tup xs hl h ih => exact .tup xs hl ih
theorem Vz.flat {B N k : Nat} {d : D} (h : Vz B N k d) : flat k d = true := by
  induction h with
  | @non k => cases k <;> rfl
  | @bl k b => cases k <;> rfl
  | @int k i h => cases k <;> rfl
  | @str k x h h2 => cases k <;> rfl
  | tup xs hl h ih => exact List.all_eq_true.mpr ih
theorem odds_vz {B N : Nat} (h : 1 ≤ B) (hN : 10 ^ 30 ≤ N) : ∀ d ∈ odds, Vz B N 2 d := fun d hd => Vz.mono h hN (Nat.le_refl _) (Vz.of (k := 2) (by
  have : odds.all (vz 1 (10 ^ 30) 2) = true := by decide +kernel
  exact List.all_eq_true.mp this d hd))
theorem vz_cat {C N k : Nat} {xs ys : List D} (hl : (xs ++ ys).length ≤ C) (h1 : ∀ y ∈ xs, Vz C N k y) (h2 : ∀ y ∈ ys, Vz C N k y) : Vz C N (k + 1) (.tup (xs ++ ys)) := .tup _ hl fun y hy => (List.mem_append.mp hy).elim (h1 y) (h2 y)
theorem vzs {B N k : Nat} {xs : List D} (h : xs.all (vz B N k) = true) {d : D} (hd : d ∈ xs) : vz B N k d = true := List.all_eq_true.mp h d hd
end Mp

set_option Elab.async false
set_option linter.all false
set_option maxRecDepth 100000
set_option maxHeartbeats 2000000
/-! M, part 35: bits. -/
namespace Mp
open PySem PySem.Spec PyProof.Rows L2
theorem whole_int {lo hi i : Int} : whole lo hi (.int i) = (decide (lo ≤ i) && decide (i ≤ hi)) := rfl
theorem bAnd_nat (x y : Nat) : Builtin.bitAnd (x : Int) (y : Int) = ((x &&& y : Nat) : Int) := by
  unfold Builtin.bitAnd
  simp
theorem bNot_neg (x : Nat) : Builtin.bitNot (x : Int) = -(x : Int) - 1 := rfl
theorem bOr_nat (x y : Nat) : Builtin.bitOr (x : Int) (y : Int) = ((x ||| y : Nat) : Int) := by
  have n : ∀ z : Int, Builtin.bitNot z = -z - 1 := fun _ => rfl
  unfold Builtin.bitOr Builtin.bitAnd
  simp only [n]
  have h1 : decide (0 ≤ -(x : Int) - 1) = false := decide_eq_false (by omega)
  have h2 : decide (0 ≤ -(y : Int) - 1) = false := decide_eq_false (by omega)
  rw [h1, h2]
  simp only
  rw [show (-(-(x : Int) - 1) - 1).toNat = x by omega, show (-(-(y : Int) - 1) - 1).toNat = y by omega]
  omega
theorem bXor_nat (x y : Nat) : Builtin.bitXor (x : Int) (y : Int) = ((x ||| y : Nat) : Int) - ((x &&& y : Nat) : Int) := by
  unfold Builtin.bitXor
  rw [bOr_nat, bAnd_nat]
theorem bits_le {x m : Nat} (h : x < 2 ^ m) : Builtin.Int.intBits (x : Int) ≤ m := by
  unfold Builtin.Int.intBits
  by_cases h0 : x = 0
  · subst h0; exact Nat.zero_le _
  · rw [if_neg (by simp [h0])]
    have := (Nat.log2_lt h0).mpr h
    simp
    omega
theorem bits_pow {m : Nat} : Builtin.Int.intBits ((2 ^ m : Nat) : Int) = m + 1 := by
  unfold Builtin.Int.intBits
  have : 0 < 2 ^ m := Nat.pow_pos (by decide)
  rw [if_neg (by rw [beq_iff_eq]; omega)]
  simp [Nat.log2_two_pow]
theorem or_lt {x k m : Nat} (h : x < 2 ^ m) (hk : k < m) : x ||| 2 ^ k < 2 ^ m := Nat.or_lt_two_pow h (Nat.pow_lt_pow_right (by decide) hk)
theorem or_sub {x y : Nat} (h : x &&& y = y) : x ||| y = x := by
  apply Nat.eq_of_testBit_eq
  intro i
  have := congrArg (Nat.testBit · i) h
  simp only [Nat.testBit_and] at this
  rw [Nat.testBit_or]
  cases hx : x.testBit i <;> cases hy : y.testBit i <;> simp_all
/-- own ^ part, the part within own -/
theorem xor_sub {x y : Nat} (h : x &&& y = y) : Builtin.bitXor (x : Int) (y : Int) = ((x - y : Nat) : Int) := by
  have hle : y ≤ x := h ▸ Nat.and_le_left
  rw [bXor_nat, or_sub h, h]
  omega
section
variable {S : Store} {Q : MK}
theorem b_shl {m : Bool} {i : Int} {j : Nat} (hi : i.natAbs < 2 ^ 64) (hj : j ≤ 1000000) (q : Q (.int (i * 2 ^ j)) S) : bop .LShift m (.int i) (.int (j : Int)) S Q :=
  ⟨⟨by omega, by omega, hi⟩, by simpa using q⟩
theorem b_one {m : Bool} {j : Nat} (hj : j ≤ 1000000) (q : Q (.int ((2 ^ j : Nat) : Int)) S) : bop .LShift m (.int 1) (.int (j : Int)) S Q :=
  b_shl (by decide) hj (by rw [Int.one_mul]; simpa using q)
theorem b_shr {m : Bool} {i j : Int} (hj : 0 ≤ j) (q : Q (.int (i / 2 ^ j.toNat)) S) : bop .RShift m (.int i) (.int j) S Q := ⟨hj, q⟩
theorem b_and {m : Bool} {i j : Int} (q : Q (.int (Builtin.bitAnd i j)) S) : bop .BitAnd m (.int i) (.int j) S Q := q
theorem b_or {m : Bool} {i j : Int} (q : Q (.int (Builtin.bitOr i j)) S) : bop .BitOr m (.int i) (.int j) S Q := q
theorem b_xor {m : Bool} {i j : Int} (q : Q (.int (Builtin.bitXor i j)) S) : bop .BitXor m (.int i) (.int j) S Q := q
theorem w_bits {S : Store} {i : Int} {P : Prop} (q : P) : mTy S .bitlen (.int i) = true ∧ P := ⟨rfl, q⟩
theorem m_bits {i : Int} (q : Q (.int (Builtin.Int.intBits i : Nat)) S) : mth .bitlen (.int i) [] S Q := q
theorem x_aug {c : C} {E : EK} {env : DEnv} {nx bk ct : DEnv → Store → Prop} {rt : MK} {i : Nat} {op : Operator} {e : ME} {x : D} (h : env[i]? = some (some x))
    (q : ev c E e env S fun y S1 => ∃ a d k, x = .int a ∧ y = .int d ∧ augI op a d = some k ∧ nx (env.set i (some (.int k))) S1) : ex c E (.aug i op e) env S ⟨nx, rt, bk, ct⟩ := by
  rw [ex]
  exact ⟨x, h, q⟩
theorem g_add {a d : Int} {P : Int → Prop} (q : P (a + d)) : ∃ a' d' k, D.int a = .int a' ∧ D.int d = .int d' ∧ augI .Add a' d' = some k ∧ P k := ⟨a, d, _, rfl, rfl, rfl, q⟩
theorem g_or {a d : Int} {P : Int → Prop} (q : P (Builtin.bitOr a d)) : ∃ a' d' k, D.int a = .int a' ∧ D.int d = .int d' ∧ augI .BitOr a' d' = some k ∧ P k := ⟨a, d, _, rfl, rfl, rfl, q⟩
theorem g_xor {a d : Int} {P : Int → Prop} (q : P (Builtin.bitXor a d)) : ∃ a' d' k, D.int a = .int a' ∧ D.int d = .int d' ∧ augI .BitXor a' d' = some k ∧ P k := ⟨a, d, _, rfl, rfl, rfl, q⟩
/-- a comprehension whose rows are kept unlike -/
theorem gen_anyD {f : D → Store → List D → (List D → Store → Prop) → Prop} {Q : List D → Store → Prop} {P : D → Prop} : ∀ {xs : List D} (acc : List D) (_ : acc.length + xs.length ≤ sizeLine) (_ : ∀ y ∈ acc, P y)
    (_ : ∀ x ∈ xs, ∀ acc Q2, acc.length < sizeLine → (∀ i, P (.int i) → Q2 (addD acc i) S) → f x S acc Q2) (_ : ∀ zs, zs.length ≤ acc.length + xs.length → (∀ y ∈ zs, P y) → Q zs S), genL f xs S acc Q := by
  intro xs
  induction xs with
  | nil => intro acc _ ha _ q; exact q acc (by simp) ha
  | cons x r ih =>
    intro acc hN ha H q
    simp only [List.length_cons] at hN
    have hl : ∀ i, (addD acc i).length ≤ acc.length + 1 := fun i => by unfold addD; split <;> simp
    refine H x (by simp) acc _ (by omega) (fun i hi => ?_)
    refine ih (addD acc i) (by have := hl i; omega) (fun z hz => ?_) (fun z hz => H z (by simp [hz])) fun zs hzl hz => q zs (by have := hl i; simp; omega) hz
    unfold addD at hz
    split at hz
    · exact ha z hz
    · rcases List.mem_append.mp hz with h | h
      · exact ha z h
      · rw [List.mem_singleton.mp h]; exact hi
end
end Mp

set_option Elab.async false
set_option linter.all false
set_option maxRecDepth 100000
set_option maxHeartbeats 2000000
/-! M, part 36: more steps. -/
namespace Mp
open PySem PySem.Spec PyProof.Rows L2
theorem if_nne0 {i : Int} {A B : Prop} (h1 : i = 0 → A) (h2 : i ≠ 0 → B) : if (!(i != 0)) = true then A else B := by
  by_cases h : i = 0
  · simp [h]; exact h1 h
  · simp [h]; exact h2 h
end Mp

set_option Elab.async false
set_option linter.all false
set_option maxRecDepth 100000
set_option maxHeartbeats 2000000
/-! M, part 37: loops over a list of the store; dicts by M. -/
namespace Mp
open PySem PySem.Spec PyProof.Rows L2
theorem fr_ok {F : D → DEnv → Store → (DEnv → Store → Prop) → Prop} {nx : DEnv → Store → Prop} {n : Nat} (I : Nat → DEnv → Store → Prop) {xs : List D} {env : DEnv} {S : Store} (h0 : I 0 env S) (hS : ∀ k env S, I k env S → S[n]? = some (.lst xs))
    (H : ∀ k x, k < xs.length → x ∈ xs → ∀ env S P, I k env S → (∀ e s, I (k + 1) e s → P e s) → F x env S P) (H0 : ∀ env S, I xs.length env S → nx env S) : ∃ k, forR F nx n k 0 env S := by
  have go : ∀ m i env S, xs.length = i + m → I i env S → forR F nx n (m + 1) i env S := by
    intro m
    induction m with
    | zero =>
      intro i env S hl hI
      refine ⟨xs, hS i env S hI, ?_⟩
      rw [List.getElem?_eq_none (by omega)]
      exact H0 env S (by rw [hl]; exact hI)
    | succ m ih =>
      intro i env S hl hI
      refine ⟨xs, hS i env S hI, ?_⟩
      have hi : i < xs.length := by omega
      rw [List.getElem?_eq_getElem hi]
      exact H i _ hi (List.getElem_mem hi) env S _ hI fun e s h => ih (i + 1) e s (by omega) h
  exact ⟨xs.length + 1, go xs.length 0 env S (by omega) h0⟩
/-- an expression's value, shown once for any rest -/
theorem ev_pure {c : C} {e : ME} {E : EK} {env : DEnv} {S : Store} {Q : MK} (d : D) (h : ∀ Q' : MK, Q' d S → ev c E e env S Q') (q : Q d S) : ev c E e env S Q := h Q q
/-- each item makes one -/
theorem gen_each {f : D → Store → List D → (List D → Store → Prop) → Prop} {S : Store} {Q : List D → Store → Prop} {P : D → Prop} {xs : List D} (hN : xs.length ≤ sizeLine)
    (H : ∀ x ∈ xs, ∀ acc Q2, acc.length < sizeLine → (∀ y, P y → Q2 (acc ++ [y]) S) → f x S acc Q2) (q : ∀ zs, zs.length = xs.length → (∀ y ∈ zs, P y) → Q zs S) : genL f xs S [] Q := by
  have go : ∀ (xs acc : List D), acc.length + xs.length ≤ sizeLine → (∀ y ∈ acc, P y) → (∀ x ∈ xs, ∀ acc Q2, acc.length < sizeLine → (∀ y, P y → Q2 (acc ++ [y]) S) → f x S acc Q2) →
      (∀ zs, zs.length = acc.length + xs.length → (∀ y ∈ zs, P y) → Q zs S) → genL f xs S acc Q := by
    intro xs
    induction xs with
    | nil => intro acc _ ha _ q; exact q acc (by simp) ha
    | cons x r ih =>
      intro acc hN ha H q
      simp only [List.length_cons] at hN
      refine H x (by simp) acc _ (by omega) (fun y hy => ?_)
      refine ih (acc ++ [y]) (by simp; omega) (fun z hz => ?_) (fun z hz => H z (by simp [hz])) fun zs hl hz => q zs (by simp at hl ⊢; omega) hz
      rcases List.mem_append.mp hz with h | h
      · exact ha z h
      · rw [List.mem_singleton.mp h]; exact hy
  exact go xs [] (by simpa using hN) (by simp) H fun zs hl hz => q zs (by simpa using hl) hz
theorem alike_ints : ∀ (xs ys : List Nat), PySem.W.alikeAll (toPs (xs.map fun k => D.int (k : Nat))) (toPs (ys.map fun k => D.int (k : Nat))) = true
  | [], ys => by rw [List.map_nil, toPs]; unfold PySem.W.alikeAll; rfl
  | x :: xs, [] => by rw [List.map_nil, List.map_cons, toPs, toPs]; unfold PySem.W.alikeAll; rfl
  | x :: xs, y :: ys => by
    rw [List.map_cons, List.map_cons, toPs, toPs]
    unfold PySem.W.alikeAll
    rw [alike_ints xs ys]
    rfl
theorem flat_nats {k : Nat} (xs : List Nat) : flat (k + 1) (.tup (xs.map fun k => D.int (k : Nat))) = true := by
  unfold flat
  rw [List.all_map]
  exact List.all_eq_true.mpr fun x _ => by cases k <;> rfl
/-- a length ahead of its row -/
def lenD2 (z : D) : Prop := ∃ (i : Int) (ks : List Nat), z = .tup [.int i, .tup (ks.map fun k => .int (k : Nat))]
theorem lenD2.okD {z : D} (h : lenD2 z) : okD z := by
  obtain ⟨i, ks, rfl⟩ := h
  refine flat_okD (k := 2) (by decide) ?_
  have := flat_nats (k := 0) ks
  show ([D.int i, D.tup (ks.map fun k => D.int (k : Nat))].all (flat 1)) = true
  simp only [List.all_cons, List.all_nil, this]
  rfl
theorem lenD2.al {x y : D} (h : lenD2 x) (h2 : lenD2 y) : PySem.W.alike x.toP y.toP = true := by
  obtain ⟨i, ks, rfl⟩ := h
  obtain ⟨j, ls, rfl⟩ := h2
  simp only [D.toP, toPs]
  unfold PySem.W.alike PySem.W.alikeAll
  have := alike_ints ks ls
  simp only [PySem.W.alike, PySem.W.alikeAll, this]
  rfl
theorem f_minL {m : Bool} {xs : List D} {S : Store} {Q : MK} (hne : xs ≠ []) (h : ∀ z ∈ xs, lenD2 z) (q : ∀ z ∈ xs, Q z S) : blt .min1 m [.lst xs] S Q := by
  cases xs with
  | nil => exact absurd rfl hne
  | cons x r =>
    refine ⟨x, r, rfl, ⟨fun y hy => ⟨(h y hy).okD, ?_⟩, fun y hy w hw => (h y hy).al (h w hw)⟩, q _ (minD_in r x)⟩
    obtain ⟨i, ks, rfl⟩ := h y hy
    simp [D.toP]
theorem c_inT {x : D} {ys : List D} {S : Store} {Q : MK} (hx : flat 60 x = true) (hy : flat 60 (.tup ys) = true) (q : ∀ b, Q (.bl b) S) : cop .In x (.tup ys) S Q := ⟨flat_okD (by decide) hx, flat_okD (by decide) hy, q _⟩
theorem alike_intsZ : ∀ (xs ys : List Int), PySem.W.alikeAll (toPs (xs.map D.int)) (toPs (ys.map D.int)) = true
  | [], ys => by rw [List.map_nil, toPs]; unfold PySem.W.alikeAll; rfl
  | x :: xs, [] => by rw [List.map_nil, List.map_cons, toPs, toPs]; unfold PySem.W.alikeAll; rfl
  | x :: xs, y :: ys => by
    rw [List.map_cons, List.map_cons, toPs, toPs]
    unfold PySem.W.alikeAll
    rw [alike_intsZ xs ys]
    rfl
theorem flat_intsZ {k : Nat} (xs : List Int) : flat (k + 1) (.tup (xs.map D.int)) = true := by
  unfold flat
  rw [List.all_map]
  exact List.all_eq_true.mpr fun x _ => by cases k <;> rfl
theorem f_sortRows {m : Bool} {xs : List D} {S : Store} {Q : MK} (h : ∀ z ∈ xs, ∃ (i : Int) (is : List Int), z = .tup ((i :: is).map .int)) (q : ∀ zs, mkL m zs S Q) : blt .sorted m [.lst xs] S Q := by
  refine ⟨xs, rfl, .inr ⟨fun x hx => ?_, fun x hx y hy => ?_, .inl fun x hx => ?_⟩, q _⟩
  · obtain ⟨i, is, rfl⟩ := h x hx
    exact flat_okD (k := 1) (by decide) (flat_intsZ (i :: is))
  · obtain ⟨i, is, rfl⟩ := h x hx
    obtain ⟨j, js, rfl⟩ := h y hy
    rw [D.toP, D.toP]
    unfold PySem.W.alike
    exact alike_intsZ (i :: is) (j :: js)
  · obtain ⟨i, is, rfl⟩ := h x hx
    exact ⟨_, _, rfl⟩
theorem f_sortOne {m : Bool} {x : D} {S : Store} {Q : MK} (q : mkL m [x] S Q) : blt .sorted m [.lst [x]] S Q := ⟨[x], rfl, .inl (Nat.le_refl 1), by rw [sortD_short (xs := [x]) (Nat.le_refl 1)]; exact q⟩
theorem f_sortNil {m : Bool} {S : Store} {Q : MK} (q : mkL m [] S Q) : blt .sorted m [.lst []] S Q := ⟨[], rfl, .inl (Nat.zero_le 1), by rw [sortD_short (xs := []) (Nat.zero_le 1)]; exact q⟩
/-- min of two rows of whole numbers -/
theorem f_min2T {m : Bool} {is js : List Int} {S : Store} {Q : MK} (q : ∀ d, d = .tup (is.map .int) ∨ d = .tup (js.map .int) → Q d S) : blt .min2 m [.tup (is.map .int), .tup (js.map .int)] S Q := by
  refine ⟨⟨fun x hx => ?_, fun x hx y hy => ?_⟩, q _ (.inl rfl), q _ (.inr rfl)⟩
  · have : ∃ ks : List Int, x = .tup (ks.map .int) := by
      rcases List.mem_cons.mp hx with rfl | hx
      · exact ⟨_, rfl⟩
      · rw [List.mem_singleton.mp hx]; exact ⟨_, rfl⟩
    obtain ⟨ks, rfl⟩ := this
    exact ⟨flat_okD (k := 1) (by decide) (flat_intsZ ks), by simp [D.toP]⟩
  · have e : ∀ z ∈ [D.tup (is.map .int), .tup (js.map .int)], ∃ ks : List Int, z = .tup (ks.map .int) := by
      intro z hz
      rcases List.mem_cons.mp hz with rfl | hz
      · exact ⟨_, rfl⟩
      · rw [List.mem_singleton.mp hz]; exact ⟨_, rfl⟩
    obtain ⟨ks, rfl⟩ := e x hx
    obtain ⟨ls, rfl⟩ := e y hy
    rw [D.toP, D.toP]
    unfold PySem.W.alike
    exact alike_intsZ ks ls
/-- a comprehension, by the number of its turns -/
theorem gen_ix {f : D → Store → List D → (List D → Store → Prop) → Prop} {S : Store} {Q : List D → Store → Prop} (I : Nat → List D → Prop) {xs : List D} (h0 : I 0 [])
    (H : ∀ k (hk : k < xs.length) acc Q2, I k acc → (∀ acc', I (k + 1) acc' → Q2 acc' S) → f xs[k] S acc Q2) (H0 : ∀ acc, I xs.length acc → Q acc S) : genL f xs S [] Q := by
  have go : ∀ (m i : Nat) (acc : List D), xs.length = i + m → I i acc → genL f (xs.drop i) S acc Q := by
    intro m
    induction m with
    | zero =>
      intro i acc hl hI
      rw [List.drop_eq_nil_of_le (by omega)]
      exact H0 acc (by rw [hl]; exact hI)
    | succ m ih =>
      intro i acc hl hI
      have hi : i < xs.length := by omega
      rw [List.drop_eq_getElem_cons hi]
      exact H i hi acc _ hI fun acc' h => ih (i + 1) acc' (by omega) h
  have := go xs.length 0 [] (by omega) h0
  simpa using this
theorem c_neB {a c : Bool} {S : Store} {Q : MK} (q : Q (.bl (a != c)) S) : cop .NotEq (.bl a) (.bl c) S Q := by
  refine ⟨flat_okD (k := 0) (by decide) rfl, flat_okD (k := 0) (by decide) rfl, ?_⟩
  have e : D.eqv (res S (.bl a)) (res S (.bl c)) = (a == c) := eqv_bl a c
  rw [e]
  exact q
theorem c_in2 {a c i : Int} {S : Store} {Q : MK} (q : Q (.bl (decide (a = i) || decide (c = i))) S) : cop .In (.int i) (.tup [.int a, .int c]) S Q := by
  refine ⟨flat_okD (k := 0) (by decide) rfl, flat_okD (k := 1) (by decide) rfl, ?_⟩
  have e : ([D.int a, D.int c].any fun z => D.eqv z (.int i)) = (decide (a = i) || decide (c = i)) := by simp [eqv_int]
  rw [e]
  exact q
/-! ### dicts -/
theorem putD_has {kvs : KVs} {ks : List L2.Key} {d : D} : ∃ p ∈ putD kvs ks d, p.1 = ks := by
  unfold putD
  split
  · rename_i h
    obtain ⟨p, hp, e⟩ := List.any_eq_true.mp h
    have e := of_decide_eq_true e
    exact ⟨(p.1, d), List.mem_map.mpr ⟨p, hp, by rw [if_pos e]⟩, e⟩
  · exact ⟨(ks, d), by simp, rfl⟩
theorem putD_keep {kvs : KVs} {ks : List L2.Key} {d : D} {p : List L2.Key × D} (h : p ∈ kvs) : ∃ q ∈ putD kvs ks d, q.1 = p.1 := by
  unfold putD
  split
  · refine ⟨if p.1 = ks then (p.1, d) else p, List.mem_map.mpr ⟨p, h, rfl⟩, ?_⟩
    split <;> rfl
  · exact ⟨p, by simp [h], rfl⟩
theorem putD_keys {kvs : KVs} {ks : List L2.Key} {d : D} : (putD kvs ks d).map (·.1) = if (kvs.any fun p => decide (p.1 = ks)) = true then kvs.map (·.1) else kvs.map (·.1) ++ [ks] := by
  unfold putD
  split
  · rw [List.map_map]
    refine List.map_congr_left fun p _ => ?_
    show (if p.1 = ks then (p.1, d) else p).1 = p.1
    split <;> rfl
  · rw [List.map_append]; rfl
theorem putD_nodup {kvs : KVs} {ks : List L2.Key} {d : D} (h : (kvs.map (·.1)).Nodup) : ((putD kvs ks d).map (·.1)).Nodup := by
  rw [putD_keys]
  split
  · exact h
  · rename_i hn
    refine List.nodup_append.mpr ⟨h, by simp, fun a ha c hc => ?_⟩
    rw [List.mem_singleton] at hc
    subst hc
    rintro rfl
    obtain ⟨p, hp, e⟩ := List.mem_map.mp ha
    exact hn (List.any_eq_true.mpr ⟨p, hp, decide_eq_true e⟩)
/-- how many pairs of small numbers there are -/
theorem pair_few {N M : Nat} {kvs : KVs} (h : (kvs.map (·.1)).Nodup) (hk : ∀ p ∈ kvs, ∃ x v : Nat, p.1 = [.inl (x : Nat), .inl (v : Nat)] ∧ x < N ∧ v < M) : kvs.length ≤ N * M := by
  let code : List L2.Key → Nat := fun k => match k with
    | [.inl x, .inl v] => x.toNat * M + v.toNat
    | _ => 0
  have h1 : ((kvs.map (·.1)).map code).Nodup := by
    rw [List.nodup_iff_pairwise_ne, List.pairwise_map, List.pairwise_map]
    rw [List.nodup_iff_pairwise_ne, List.pairwise_map] at h
    refine List.Pairwise.imp_of_mem ?_ h
    intro a c ha hc hne e
    obtain ⟨x, v, h1, hx, hv⟩ := hk a ha
    obtain ⟨y, w, h2, hy, hw⟩ := hk c hc
    rw [h1, h2] at e hne
    have e : x * M + v = y * M + w := by simpa [code] using e
    have hM : 0 < M := by omega
    have e1 : x = y := by
      have h3 : (x * M + v) / M = x := by rw [Nat.mul_comm, Nat.mul_add_div hM, Nat.div_eq_of_lt hv, Nat.add_zero]
      have h4 : (y * M + w) / M = y := by rw [Nat.mul_comm, Nat.mul_add_div hM, Nat.div_eq_of_lt hw, Nat.add_zero]
      rw [← h3, ← h4, e]
    subst e1
    have : v = w := by omega
    subst this
    exact hne rfl
  have h2 : ∀ z ∈ (kvs.map (·.1)).map code, z ∈ List.range (N * M) := by
    intro z hz
    obtain ⟨k, hk1, rfl⟩ := List.mem_map.mp hz
    obtain ⟨p, hp, rfl⟩ := List.mem_map.mp hk1
    obtain ⟨x, v, h1, hx, hv⟩ := hk p hp
    rw [h1, List.mem_range]
    show (x : Int).toNat * M + (v : Int).toNat < N * M
    simp only [Int.toNat_natCast]
    have : (x + 1) * M ≤ N * M := Nat.mul_le_mul_right _ hx
    rw [Nat.succ_mul] at this
    omega
  have := L2.nat_nodup_len _ _ h1 h2
  simpa using this

theorem valD_mem {kvs : KVs} {ks : List L2.Key} {d : D} (h : valD kvs ks = some d) : (ks, d) ∈ kvs := by
  unfold valD at h
  obtain ⟨p, hp, rfl⟩ := Option.map_eq_some_iff.mp h
  have h1 := List.find?_some hp
  have h2 := List.mem_of_find?_eq_some hp
  have e := of_decide_eq_true h1
  rw [← e]
  exact h2
theorem valD_some {kvs : KVs} {p : List L2.Key × D} (h : p ∈ kvs) : ∃ d, valD kvs p.1 = some d := by
  unfold valD
  cases hf : kvs.find? fun q => decide (q.1 = p.1) with
  | some q => exact ⟨q.2, rfl⟩
  | none =>
    have := List.find?_eq_none.mp hf p h
    simp at this
theorem putD_mem {kvs : KVs} {ks : List L2.Key} {d : D} {p : List L2.Key × D} (h : p ∈ putD kvs ks d) : p ∈ kvs ∨ p = (ks, d) := by
  unfold putD at h
  split at h
  · obtain ⟨q, hq, rfl⟩ := List.mem_map.mp h
    split
    · rename_i e
      exact .inr (by rw [e])
    · exact .inl hq
  · rcases List.mem_append.mp h with h | h
    · exact .inl h
    · exact .inr (List.mem_singleton.mp h)
theorem putD_len {kvs : KVs} {ks : List L2.Key} {d : D} : (putD kvs ks d).length ≤ kvs.length + 1 := by
  unfold putD
  split <;> simp
/-- what setdefault leads to -/
def dsetR (Q : MK) (S : Store) (n : Nat) (t : Bool) (kvs : KVs) (ks : List L2.Key) (w : D) : Prop := (∀ d, valD kvs ks = some d → Q d S) ∧ (valD kvs ks = none → Q w (S.set n (.dct t none (putD kvs ks w))))
theorem e_dset2 {c : C} {E : EK} {env : DEnv} {S : Store} {Q : MK} {o k e : ME} (q : ev c E o env S fun x S1 => ∃ n t z kvs, x = .ref n ∧ S1[n]? = some (.dct t z kvs) ∧ ev c E k env S1 fun y S2 => ev c E e env S2 fun w S3 =>
      ∃ t kvs ks, S3[n]? = some (.dct t none kvs) ∧ dkey t y = some ks ∧ kvs.length < sizeLine ∧ dsetR Q S3 n t kvs ks w) : ev c E (.dsetd o k e) env S Q := by rw [ev]; exact q
/-- keys of whole numbers -/
def iK (is : List Int) : List L2.Key := is.map .inl
theorem keys1_int : ∀ (is : List Int), keys1 (is.map .int) = some (iK is)
  | [] => rfl
  | i :: is => by rw [List.map_cons, keys1, keys1_int is]; rfl
theorem dkey_int (is : List Int) : dkey true (.tup (is.map .int)) = some (iK is) := keys1_int is
theorem keyD_int (is : List Int) : keyD true (iK is) = .tup (is.map .int) := by
  unfold keyD iK
  rw [if_pos rfl, List.map_map]
  rfl
end Mp

set_option Elab.async false
set_option linter.all false
set_option maxRecDepth 100000
set_option maxHeartbeats 0
namespace Lw37
open PySem Mp
def n_is_integer : List Str := [("value" : Str)]
def b_is_integer : MS := (.cons (.ret (.and (.isi .int (.var 0)) (.not (.isi .bool (.var 0)))))
  .nil)
def f_is_integer : MFn := ⟨1, 1, b_is_integer⟩
def n_check_doors : List Str := [("chambers" : Str), ("doors" : Str), ("keys" : Str), ("door" : Str), ("own" : Str)]
def b_check_doors : MS := (.cons (.ite (.or (.not (.call 0 [] (.cons (.var 0) .nil))) (.not (.ch2 .LtE .LtE (.con (.int 1)) (.var 0) (.con (.int 12))))) (.cons (.rse .map (.con (.str "chambers")))
  .nil) .nil)
  (.cons (.ite (.or (.not (.isi .tuple (.var 2))) (.cmp .Gt (.blt .len false (.cons (.var 2) .nil)) (.con (.int 8)))) (.cons (.rse .map (.con (.str "keys")))
  .nil) .nil)
  (.cons (.ite (.not (.blt .all false (.cons (.lc false [4] (.nm 4) (.itr (.var 2)) .yes (.gend (.and (.call 0 [] (.cons (.var 4) .nil)) (.ch2 .LtE .Lt (.con (.int 0)) (.var 4) (.var 0))))) .nil))) (.cons (.rse .map (.con (.str "keys")))
  .nil) .nil)
  (.cons (.ite (.or (.not (.isi .tuple (.var 1))) (.cmp .Gt (.blt .len false (.cons (.var 1) .nil)) (.con (.int 60)))) (.cons (.rse .map (.con (.str "doors")))
  .nil) .nil)
  (.cons (.for (.nm 3) (.itr (.var 1)) (.cons (.ite (.or (.not (.isi .tuple (.var 3))) (.or (.cmp .NotEq (.blt .len false (.cons (.var 3) .nil)) (.con (.int 3))) (.not (.blt .all false (.cons (.lc false [4] (.nm 4) (.itr (.slc false (.var 3) .abs (.cons (.con (.int 2)) .nil))) .yes (.gend (.call 0 [] (.cons (.var 4) .nil)))) .nil))))) (.cons (.rse .map (.con (.str "doors")))
  .nil) .nil)
  (.cons (.ite (.or (.not (.blt .all false (.cons (.lc false [4] (.nm 4) (.itr (.slc false (.var 3) .abs (.cons (.con (.int 2)) .nil))) .yes (.gend (.ch2 .LtE .Lt (.con (.int 0)) (.var 4) (.var 0)))) .nil))) (.cmp .Eq (.idx (.var 3) (.con (.int 0))) (.idx (.var 3) (.con (.int 1))))) (.cons (.rse .map (.con (.str "doors")))
  .nil) .nil)
  (.cons (.ite (.and (.isn true (.idx (.var 3) (.con (.int 2)))) (.or (.not (.call 0 [] (.cons (.idx (.var 3) (.con (.int 2))) .nil))) (.not (.ch2 .LtE .Lt (.con (.int 0)) (.idx (.var 3) (.con (.int 2))) (.blt .len false (.cons (.var 2) .nil)))))) (.cons (.rse .map (.con (.str "doors")))
  .nil) .nil)
  .nil))))
  .nil)))))
def f_check_doors : MFn := ⟨3, 5, b_check_doors⟩
def n_check_chamber : List Str := [("chambers" : Str), ("value" : Str), ("reason" : Str)]
def b_check_chamber : MS := (.cons (.ite (.or (.not (.call 0 [] (.cons (.var 1) .nil))) (.not (.ch2 .LtE .Lt (.con (.int 0)) (.var 1) (.var 0)))) (.cons (.rse .arg (.var 2))
  .nil) .nil)
  .nil)
def f_check_chamber : MFn := ⟨3, 3, b_check_chamber⟩
def n_beside : List Str := [("doors" : Str), ("chamber" : Str), ("held" : Str), ("found" : Str), ("one" : Str), ("other" : Str), ("key" : Str)]
def b_beside : MS := (.cons (.set (.nm 3) (.dnew false))
  (.cons (.for (.tp (.cons (.nm 4) (.cons (.nm 5) (.cons (.nm 6) .nil)))) (.itr (.var 0)) (.cons (.ite (.and (.cmp .In (.var 1) (.tup (.cons (.var 4) (.cons (.var 5) .nil)))) (.or (.isn false (.var 6)) (.bin .BitAnd false (.bin .RShift false (.var 2) (.var 6)) (.con (.int 1))))) (.cons (.dput (.var 3) (.ite (.cmp .Eq (.var 1) (.var 4)) (.var 5) (.var 4)) (.con (.bl true)))
  .nil) .nil)
  .nil))
  (.cons (.ret (.blt .sortK false (.cons (.var 3) .nil)))
  .nil)))
def f_beside : MFn := ⟨3, 7, b_beside⟩
def n_keys_at : List Str := [("keys" : Str), ("chamber" : Str), ("key" : Str), ("place" : Str)]
def b_keys_at : MS := (.cons (.ret (.blt .sum false (.cons (.lc false [2, 3] (.tp (.cons (.nm 2) (.cons (.nm 3) .nil))) (.enm (.var 0)) (.cmp .Eq (.var 3) (.var 1)) (.gend (.bin .LShift false (.con (.int 1)) (.var 2)))) .nil)))
  .nil)
def f_keys_at : MFn := ⟨2, 4, b_keys_at⟩
def n_spread : List Str := [("doors" : Str), ("keys" : Str), ("start" : Str), ("order" : Str), ("held" : Str), ("grown" : Str), ("near" : Str), ("here" : Str), ("own" : Str)]
def b_spread : MS := (.cons (.set (.tp (.cons (.nm 3) (.cons (.nm 4) .nil))) (.tup (.cons (.lst true (.cons (.var 2) .nil)) (.cons (.call 4 [] (.cons (.var 1) (.cons (.var 2) .nil))) .nil))))
  (.cons (.set (.nm 5) (.con (.bl true)))
  (.cons (.whl (.var 5) (.cons (.set (.nm 6) (.lc false [7, 8] (.nm 7) (.itr (.var 3)) .yes (.gfor (.nm 8) [8] (.itr (.call 3 [] (.cons (.var 0) (.cons (.var 7) (.cons (.var 4) .nil))))) (.cmp .NotIn (.var 8) (.var 3)) (.gend (.var 8)))))
  (.cons (.set (.nm 5) (.cmp .NotEq (.var 6) (.lst false .nil)))
  (.cons (.ite (.var 5) (.cons (.exp (.mth .append (.var 3) (.cons (.blt .min1 false (.cons (.var 6) .nil)) .nil)))
  (.cons (.aug 4 .BitOr (.call 4 [] (.cons (.var 1) (.cons (.blt .min1 false (.cons (.var 6) .nil)) .nil))))
  .nil)) .nil)
  .nil))))
  (.cons (.ret (.tup (.cons (.var 3) (.cons (.var 4) .nil))))
  .nil))))
def f_spread : MFn := ⟨3, 9, b_spread⟩
def n_reached_chambers : List Str := [("chambers" : Str), ("doors" : Str), ("keys" : Str), ("start" : Str)]
def b_reached_chambers : MS := (.cons (.exp (.call 1 [] (.cons (.var 0) (.cons (.var 1) (.cons (.var 2) .nil)))))
  (.cons (.exp (.call 2 [] (.cons (.var 0) (.cons (.var 3) (.cons (.con (.str "start")) .nil)))))
  (.cons (.ret (.blt .tuple false (.cons (.idx (.call 5 [] (.cons (.var 1) (.cons (.var 2) (.cons (.var 3) .nil)))) (.con (.int 0))) .nil)))
  .nil)))
def f_reached_chambers : MFn := ⟨4, 4, b_reached_chambers⟩
def n_keys_had : List Str := [("chambers" : Str), ("doors" : Str), ("keys" : Str), ("start" : Str), ("held" : Str), ("key" : Str)]
def b_keys_had : MS := (.cons (.exp (.call 1 [] (.cons (.var 0) (.cons (.var 1) (.cons (.var 2) .nil)))))
  (.cons (.exp (.call 2 [] (.cons (.var 0) (.cons (.var 3) (.cons (.con (.str "start")) .nil)))))
  (.cons (.set (.nm 4) (.idx (.call 5 [] (.cons (.var 1) (.cons (.var 2) (.cons (.var 3) .nil)))) (.con (.int 1))))
  (.cons (.ret (.blt .tuple false (.cons (.lc false [5] (.nm 5) (.rng (.con (.int 0)) (.blt .len false (.cons (.var 2) .nil))) (.bin .BitAnd false (.bin .RShift false (.var 4) (.var 5)) (.con (.int 1))) (.gend (.var 5))) .nil)))
  .nil))))
def f_keys_had : MFn := ⟨4, 6, b_keys_had⟩
def n_shut_doors : List Str := [("chambers" : Str), ("doors" : Str), ("keys" : Str), ("start" : Str), ("order" : Str), ("held" : Str), ("found" : Str), ("at" : Str), ("one" : Str), ("other" : Str), ("key" : Str)]
def b_shut_doors : MS := (.cons (.exp (.call 1 [] (.cons (.var 0) (.cons (.var 1) (.cons (.var 2) .nil)))))
  (.cons (.exp (.call 2 [] (.cons (.var 0) (.cons (.var 3) (.cons (.con (.str "start")) .nil)))))
  (.cons (.set (.tp (.cons (.nm 4) (.cons (.nm 5) .nil))) (.call 5 [] (.cons (.var 1) (.cons (.var 2) (.cons (.var 3) .nil)))))
  (.cons (.set (.nm 6) (.lst true .nil))
  (.cons (.for (.tp (.cons (.nm 7) (.cons (.tp (.cons (.nm 8) (.cons (.nm 9) (.cons (.nm 10) .nil)))) .nil))) (.enm (.var 1)) (.cons (.ite (.or (.cmp .NotIn (.var 8) (.var 4)) (.or (.cmp .NotIn (.var 9) (.var 4)) (.and (.isn true (.var 10)) (.not (.bin .BitAnd false (.bin .RShift false (.var 5) (.var 10)) (.con (.int 1))))))) (.cons (.exp (.mth .append (.var 6) (.cons (.var 7) .nil)))
  .nil) .nil)
  .nil))
  (.cons (.ret (.blt .tuple false (.cons (.var 6) .nil)))
  .nil))))))
def f_shut_doors : MFn := ⟨4, 11, b_shut_doors⟩
def n_walks_from : List Str := [("doors" : Str), ("keys" : Str), ("start" : Str), ("first" : Str), ("found" : Str), ("queue" : Str), ("further" : Str), ("here" : Str), ("held" : Str), ("own" : Str), ("made" : Str)]
def b_walks_from : MS := (.cons (.set (.nm 3) (.tup (.cons (.var 2) (.cons (.call 4 [] (.cons (.var 1) (.cons (.var 2) .nil))) .nil))))
  (.cons (.set (.tp (.cons (.nm 4) (.cons (.nm 5) .nil))) (.tup (.cons (.ddis true (.var 3) (.con (.int 0))) (.cons (.lst false (.cons (.var 3) .nil)) .nil))))
  (.cons (.whl (.var 5) (.cons (.set (.nm 6) (.lst true .nil))
  (.cons (.for (.tp (.cons (.nm 7) (.cons (.nm 8) .nil))) (.itr (.var 5)) (.cons (.for (.nm 9) (.itr (.call 3 [] (.cons (.var 0) (.cons (.var 7) (.cons (.var 8) .nil))))) (.cons (.set (.nm 10) (.tup (.cons (.var 9) (.cons (.bin .BitOr false (.var 8) (.call 4 [] (.cons (.var 1) (.cons (.var 9) .nil)))) .nil))))
  (.cons (.ite (.din true (.var 10) (.var 4)) (.cons (.dput (.var 4) (.var 10) (.bin .Add false (.dsub (.var 4) (.tup (.cons (.var 7) (.cons (.var 8) .nil)))) (.con (.int 1))))
  (.cons (.exp (.mth .append (.var 6) (.cons (.var 10) .nil)))
  .nil)) .nil)
  .nil)))
  .nil))
  (.cons (.set (.nm 5) (.var 6))
  .nil))))
  (.cons (.ret (.var 4))
  .nil))))
def f_walks_from : MFn := ⟨3, 11, b_walks_from⟩
def n_judge_goal : List Str := [("chambers" : Str), ("doors" : Str), ("keys" : Str), ("start" : Str), ("goal" : Str), ("order" : Str), ("held" : Str), ("rows" : Str), ("known" : Str), ("good" : Str), ("further" : Str), ("here" : Str), ("own" : Str), ("to" : Str), ("made" : Str), ("walk" : Str), ("key" : Str)]
def b_judge_goal : MS := (.cons (.exp (.call 1 [] (.cons (.var 0) (.cons (.var 1) (.cons (.var 2) .nil)))))
  (.cons (.exp (.call 2 [] (.cons (.var 0) (.cons (.var 3) (.cons (.con (.str "start")) .nil)))))
  (.cons (.exp (.call 2 [] (.cons (.var 0) (.cons (.var 4) (.cons (.con (.str "goal")) .nil)))))
  (.cons (.set (.tp (.cons (.nm 5) (.cons (.nm 6) .nil))) (.call 5 [] (.cons (.var 1) (.cons (.var 2) (.cons (.var 3) .nil)))))
  (.cons (.ite (.cmp .NotIn (.var 4) (.var 5)) (.cons (.ret (.tup (.cons (.con (.str "never")) (.cons (.blt .tuple false (.cons (.blt .sorted false (.cons (.var 5) .nil)) .nil)) (.cons (.blt .tuple false (.cons (.lc false [16] (.nm 16) (.rng (.con (.int 0)) (.blt .len false (.cons (.var 2) .nil))) (.bin .BitAnd false (.bin .RShift false (.var 6) (.var 16)) (.con (.int 1))) (.gend (.var 16))) .nil)) .nil)))))
  .nil) .nil)
  (.cons (.set (.nm 7) (.ddis true (.tup (.cons (.var 3) (.cons (.call 4 [] (.cons (.var 2) (.cons (.var 3) .nil))) .nil))) (.tup (.cons (.var 3) .nil))))
  (.cons (.set (.nm 8) (.dnew true))
  (.cons (.whl (.con (.bl true)) (.cons (.lckS 7 (.set (.nm 9) (.blt .sorted false (.cons (.lc false [12] (.nm 12) (.keys (.var 7)) (.cmp .Eq (.idx (.var 12) (.con (.int 0))) (.var 4)) (.gend (.dsub (.var 7) (.var 12)))) .nil))))
  (.cons (.ite (.var 9) (.cons (.ret (.tup (.cons (.con (.str "walk")) (.cons (.idx (.var 9) (.con (.int 0))) .nil))))
  .nil) .nil)
  (.cons (.exp (.dupd (.var 8) (.var 7)))
  (.cons (.set (.nm 10) (.dnew true))
  (.cons (.lckS 7 (.for (.tp (.cons (.nm 11) (.cons (.nm 12) .nil))) (.keys (.var 7)) (.cons (.for (.nm 13) (.itr (.call 3 [] (.cons (.var 1) (.cons (.var 11) (.cons (.var 12) .nil))))) (.cons (.set (.nm 14) (.tup (.cons (.var 13) (.cons (.bin .BitOr false (.var 12) (.call 4 [] (.cons (.var 2) (.cons (.var 13) .nil)))) .nil))))
  (.cons (.set (.nm 15) (.bin .Add false (.dsub (.var 7) (.tup (.cons (.var 11) (.cons (.var 12) .nil)))) (.tup (.cons (.var 13) .nil))))
  (.cons (.ite (.din true (.var 14) (.var 8)) (.cons (.dput (.var 10) (.var 14) (.blt .min2 false (.cons (.var 15) (.cons (.dget (.var 10) (.var 14) (.var 15)) .nil))))
  .nil) .nil)
  .nil))))
  .nil)))
  (.cons (.set (.nm 7) (.var 10))
  .nil)))))))
  .nil))))))))
def f_judge_goal : MFn := ⟨5, 17, b_judge_goal⟩
def n_accept_walk : List Str := [("chambers" : Str), ("doors" : Str), ("keys" : Str), ("start" : Str), ("goal" : Str), ("walk" : Str), ("many" : Str), ("held" : Str), ("here" : Str), ("to" : Str), ("own" : Str)]
def b_accept_walk : MS := (.cons (.exp (.call 1 [] (.cons (.var 0) (.cons (.var 1) (.cons (.var 2) .nil)))))
  (.cons (.exp (.call 2 [] (.cons (.var 0) (.cons (.var 3) (.cons (.con (.str "start")) .nil)))))
  (.cons (.exp (.call 2 [] (.cons (.var 0) (.cons (.var 4) (.cons (.con (.str "goal")) .nil)))))
  (.cons (.ite (.or (.not (.isi .tuple (.var 5))) (.or (.not (.var 5)) (.not (.call 0 [] (.cons (.var 6) .nil))))) (.cons (.rse .paper (.con (.str "form")))
  .nil) .nil)
  (.cons (.ite (.not (.blt .all false (.cons (.lc false [10] (.nm 10) (.itr (.var 5)) .yes (.gend (.and (.call 0 [] (.cons (.var 10) .nil)) (.ch2 .LtE .Lt (.con (.int 0)) (.var 10) (.var 0))))) .nil))) (.cons (.rse .paper (.con (.str "form")))
  .nil) .nil)
  (.cons (.ite (.or (.cmp .NotEq (.idx (.var 5) (.con (.int 0))) (.var 3)) (.cmp .NotEq (.idx (.var 5) (.neg (.con (.int 1)))) (.var 4))) (.cons (.rse .paper (.con (.str "ends")))
  .nil) .nil)
  (.cons (.set (.nm 7) (.call 4 [] (.cons (.var 2) (.cons (.var 3) .nil))))
  (.cons (.for (.tp (.cons (.nm 8) (.cons (.nm 9) .nil))) (.zip2 (.var 5) (.slc false (.var 5) (.cons (.con (.int 1)) .nil) .abs)) (.cons (.ite (.cmp .NotIn (.var 9) (.call 3 [] (.cons (.var 1) (.cons (.var 8) (.cons (.var 7) .nil))))) (.cons (.rse .paper (.con (.str "door")))
  .nil) .nil)
  (.cons (.aug 7 .BitOr (.call 4 [] (.cons (.var 2) (.cons (.var 9) .nil))))
  .nil)))
  (.cons (.ite (.cmp .Gt (.bin .Sub false (.blt .len false (.cons (.var 5) .nil)) (.con (.int 1))) (.var 6)) (.cons (.rse .paper (.con (.str "many")))
  .nil) .nil)
  .nil)))))))))
def f_accept_walk : MFn := ⟨7, 11, b_accept_walk⟩
def n_accept_closed : List Str := [("chambers" : Str), ("doors" : Str), ("keys" : Str), ("start" : Str), ("goal" : Str), ("reached" : Str), ("one" : Str), ("other" : Str), ("key" : Str), ("own" : Str), ("at" : Str)]
def b_accept_closed : MS := (.cons (.exp (.call 1 [] (.cons (.var 0) (.cons (.var 1) (.cons (.var 2) .nil)))))
  (.cons (.exp (.call 2 [] (.cons (.var 0) (.cons (.var 3) (.cons (.con (.str "start")) .nil)))))
  (.cons (.exp (.call 2 [] (.cons (.var 0) (.cons (.var 4) (.cons (.con (.str "goal")) .nil)))))
  (.cons (.ite (.or (.not (.isi .tuple (.var 5))) (.not (.blt .all false (.cons (.lc false [9] (.nm 9) (.itr (.var 5)) .yes (.gend (.and (.call 0 [] (.cons (.var 9) .nil)) (.ch2 .LtE .Lt (.con (.int 0)) (.var 9) (.var 0))))) .nil)))) (.cons (.rse .paper (.con (.str "form")))
  .nil) .nil)
  (.cons (.ite (.lc false [10] (.nm 10) (.rng (.con (.int 0)) (.bin .Sub false (.blt .len false (.cons (.var 5) .nil)) (.con (.int 1)))) (.cmp .GtE (.idx (.var 5) (.var 10)) (.idx (.var 5) (.bin .Add false (.var 10) (.con (.int 1))))) (.gend (.con (.int 1)))) (.cons (.rse .paper (.con (.str "form")))
  .nil) .nil)
  (.cons (.ite (.cmp .NotIn (.var 3) (.var 5)) (.cons (.rse .paper (.con (.str "start")))
  .nil) .nil)
  (.cons (.for (.tp (.cons (.nm 6) (.cons (.nm 7) (.cons (.nm 8) .nil)))) (.itr (.var 1)) (.cons (.ite (.and (.cmp .NotEq (.cmp .In (.var 6) (.var 5)) (.cmp .In (.var 7) (.var 5))) (.or (.isn false (.var 8)) (.cmp .In (.idx (.var 2) (.var 8)) (.var 5)))) (.cons (.rse .paper (.con (.str "door")))
  .nil) .nil)
  .nil))
  (.cons (.ite (.cmp .In (.var 4) (.var 5)) (.cons (.rse .paper (.con (.str "goal")))
  .nil) .nil)
  .nil))))))))
def f_accept_closed : MFn := ⟨6, 11, b_accept_closed⟩
def n_accept_steps : List Str := [("chambers" : Str), ("doors" : Str), ("keys" : Str), ("start" : Str), ("goal" : Str), ("steps" : Str), ("many" : Str), ("row" : Str), ("known" : Str), ("here" : Str), ("held" : Str), ("to" : Str), ("number" : Str), ("at" : Str), ("key" : Str)]
def b_accept_steps : MS := (.cons (.exp (.call 1 [] (.cons (.var 0) (.cons (.var 1) (.cons (.var 2) .nil)))))
  (.cons (.exp (.call 2 [] (.cons (.var 0) (.cons (.var 3) (.cons (.con (.str "start")) .nil)))))
  (.cons (.exp (.call 2 [] (.cons (.var 0) (.cons (.var 4) (.cons (.con (.str "goal")) .nil)))))
  (.cons (.ite (.or (.not (.isi .tuple (.var 5))) (.not (.call 0 [] (.cons (.var 6) .nil)))) (.cons (.rse .paper (.con (.str "form")))
  .nil) .nil)
  (.cons (.for (.nm 7) (.itr (.var 5)) (.cons (.ite (.or (.not (.isi .tuple (.var 7))) (.or (.cmp .NotEq (.blt .len false (.cons (.var 7) .nil)) (.con (.int 3))) (.not (.call 0 [] (.cons (.idx (.var 7) (.con (.int 2))) .nil))))) (.cons (.rse .paper (.con (.str "form")))
  .nil) .nil)
  (.cons (.ite (.not (.call 14 [] (.cons (.var 0) (.cons (.var 2) (.cons (.slc false (.var 7) .abs (.cons (.con (.int 2)) .nil)) .nil))))) (.cons (.rse .paper (.con (.str "form")))
  .nil) .nil)
  .nil)))
  (.cons (.ite (.lc false [13] (.nm 13) (.rng (.con (.int 0)) (.bin .Sub false (.blt .len false (.cons (.var 5) .nil)) (.con (.int 1)))) (.cmp .GtE (.slc false (.idx (.var 5) (.var 13)) .abs (.cons (.con (.int 2)) .nil)) (.slc false (.idx (.var 5) (.bin .Add false (.var 13) (.con (.int 1)))) .abs (.cons (.con (.int 2)) .nil))) (.gend (.con (.int 1)))) (.cons (.rse .paper (.con (.str "form")))
  .nil) .nil)
  (.cons .no
  (.cons .no
  (.cons (.for (.tp (.cons (.nm 9) (.cons (.nm 10) .nil))) (.itr (.var 8)) (.cons (.for (.nm 11) (.itr (.call 3 [] (.cons (.var 1) (.cons (.var 9) (.cons (.var 10) .nil))))) (.cons (.set (.nm 12) (.bin .Add false (.idx (.var 8) (.tup (.cons (.var 9) (.cons (.var 10) .nil)))) (.con (.int 1))))
  (.cons .no
  .nil)))
  .nil))
  (.cons (.ite (.lc false [9, 10] (.tp (.cons (.nm 9) (.cons (.nm 10) .nil))) (.itr (.var 8)) (.and (.cmp .Eq (.var 9) (.var 4)) (.cmp .Lt (.idx (.var 8) (.tup (.cons (.var 9) (.cons (.var 10) .nil)))) (.var 6))) (.gend (.con (.int 1)))) (.cons (.rse .paper (.con (.str "many")))
  .nil) .nil)
  .nil))))))))))
def f_accept_steps : MFn := ⟨7, 15, b_accept_steps⟩
def n_is_standing : List Str := [("chambers" : Str), ("keys" : Str), ("value" : Str), ("own" : Str), ("at" : Str)]
def b_is_standing : MS := (.cons (.ite (.or (.not (.isi .tuple (.var 2))) (.or (.cmp .NotEq (.blt .len false (.cons (.var 2) .nil)) (.con (.int 2))) (.or (.not (.call 0 [] (.cons (.idx (.var 2) (.con (.int 0))) .nil))) (.not (.isi .tuple (.idx (.var 2) (.con (.int 1)))))))) (.cons (.ret (.con (.bl false)))
  .nil) .nil)
  (.cons (.ite (.or (.not (.ch2 .LtE .Lt (.con (.int 0)) (.idx (.var 2) (.con (.int 0))) (.var 0))) (.not (.blt .all false (.cons (.lc false [3] (.nm 3) (.itr (.idx (.var 2) (.con (.int 1)))) .yes (.gend (.and (.call 0 [] (.cons (.var 3) .nil)) (.ch2 .LtE .Lt (.con (.int 0)) (.var 3) (.blt .len false (.cons (.var 1) .nil)))))) .nil)))) (.cons (.ret (.con (.bl false)))
  .nil) .nil)
  (.cons (.ret (.not (.lc false [4] (.nm 4) (.rng (.con (.int 0)) (.bin .Sub false (.blt .len false (.cons (.idx (.var 2) (.con (.int 1))) .nil)) (.con (.int 1)))) (.cmp .GtE (.idx (.idx (.var 2) (.con (.int 1))) (.var 4)) (.idx (.idx (.var 2) (.con (.int 1))) (.bin .Add false (.var 4) (.con (.int 1))))) (.gend (.con (.int 1))))))
  .nil)))
def f_is_standing : MFn := ⟨3, 5, b_is_standing⟩
def n_steps_table : List Str := [("chambers" : Str), ("doors" : Str), ("keys" : Str), ("start" : Str), ("rows" : Str), ("found" : Str), ("here" : Str), ("held" : Str), ("key" : Str)]
def b_steps_table : MS := (.cons (.exp (.call 1 [] (.cons (.var 0) (.cons (.var 1) (.cons (.var 2) .nil)))))
  (.cons (.exp (.call 2 [] (.cons (.var 0) (.cons (.var 3) (.cons (.con (.str "start")) .nil)))))
  (.cons (.set (.nm 4) (.call 9 [] (.cons (.var 1) (.cons (.var 2) (.cons (.var 3) .nil)))))
  (.cons (.set (.nm 5) (.lst true .nil))
  (.cons (.lckS 4 (.for (.tp (.cons (.nm 6) (.cons (.nm 7) .nil))) (.keys (.var 4)) (.cons (.exp (.mth .append (.var 5) (.cons (.tup (.cons (.var 6) (.cons (.blt .tuple false (.cons (.lc false [8] (.nm 8) (.rng (.con (.int 0)) (.blt .len false (.cons (.var 2) .nil))) (.bin .BitAnd false (.bin .RShift false (.var 7) (.var 8)) (.con (.int 1))) (.gend (.var 8))) .nil)) (.cons (.dsub (.var 4) (.tup (.cons (.var 6) (.cons (.var 7) .nil)))) .nil)))) .nil)))
  .nil)))
  (.cons (.ret (.blt .tuple false (.cons (.blt .sorted false (.cons (.var 5) .nil)) .nil)))
  .nil))))))
def f_steps_table : MFn := ⟨4, 9, b_steps_table⟩
def n_law_start : List Str := [("script" : Str), ("seed" : Str), ("cell" : Str)]
def b_law_start : MS := (.cons (.set (.nm 1) (.con (.int 7)))
  (.cons (.for (.nm 2) (.itr (.var 0)) (.cons (.set (.nm 1) (.bin .Add false (.bin .Mod false (.blt .int false (.cons (.bin .Add false (.bin .Mult false (.var 1) (.con (.int 48271))) (.var 2)) .nil)) (.con (.int 2147483629))) (.con (.int 1))))
  .nil))
  (.cons (.ret (.lst true (.cons (.blt .list false (.cons (.var 0) .nil)) (.cons (.con (.int 0)) (.cons (.con (.int 0)) (.cons (.var 1) .nil))))))
  .nil)))
def f_law_start : MFn := ⟨1, 3, b_law_start⟩
def n_law_draw : List Str := [("state" : Str), ("many" : Str), ("taken" : Str)]
def b_law_draw : MS := (.cons (.ite (.and (.cmp .Eq (.idx (.var 0) (.con (.int 1))) (.con (.int 0))) (.cmp .GtE (.idx (.var 0) (.con (.int 2))) (.blt .len false (.cons (.idx (.var 0) (.con (.int 0))) .nil)))) (.cons (.sset (.var 0) (.con (.int 3)) (.bin .Mod false (.blt .int false (.cons (.bin .Add false (.bin .Mult false (.idx (.var 0) (.con (.int 3))) (.con (.int 48271))) (.con (.int 69621))) .nil)) (.con (.int 2147483629))))
  (.cons (.ret (.bin .Mod false (.blt .int false (.cons (.bin .FloorDiv false (.idx (.var 0) (.con (.int 3))) (.con (.int 13))) .nil)) (.var 1)))
  .nil)) .nil)
  (.cons (.ite (.cmp .Eq (.idx (.var 0) (.con (.int 1))) (.con (.int 0))) (.cons (.sset (.var 0) (.con (.int 1)) (.blt .abs false (.cons (.idx (.idx (.var 0) (.con (.int 0))) (.idx (.var 0) (.con (.int 2)))) .nil)))
  (.cons (.sset (.var 0) (.con (.int 2)) (.bin .Add false (.idx (.var 0) (.con (.int 2))) (.con (.int 1))))
  .nil)) .nil)
  (.cons (.set (.nm 2) (.bin .Mod false (.blt .int false (.cons (.idx (.var 0) (.con (.int 1))) .nil)) (.var 1)))
  (.cons (.sset (.var 0) (.con (.int 1)) (.bin .FloorDiv false (.idx (.var 0) (.con (.int 1))) (.var 1)))
  (.cons (.ret (.var 2))
  .nil)))))
def f_law_draw : MFn := ⟨2, 3, b_law_draw⟩
def n_law_pick : List Str := [("state" : Str), ("some" : Str)]
def b_law_pick : MS := (.cons (.ret (.idx (.var 1) (.call 17 [] (.cons (.var 0) (.cons (.blt .len false (.cons (.var 1) .nil)) .nil)))))
  .nil)
def f_law_pick : MFn := ⟨2, 2, b_law_pick⟩
def n_law_asked : List Str := [("way" : Str), ("some" : Str), ("error" : Str)]
def b_law_asked : MS := (.cons (.tryw (.cons (.ite (.cmp .Lt (.blt .len false (.cons (.var 1) .nil)) (.con (.int 3))) (.cons (.ret (.ite (.cmp .Eq (.blt .len false (.cons (.var 1) .nil)) (.con (.int 1))) (.lst false (.cons (.callv 0 (.cons (.idx (.var 1) (.con (.int 0))) .nil)) .nil)) (.lst false (.cons (.callv 0 (.cons (.idx (.var 1) (.con (.int 0))) (.cons (.idx (.var 1) (.con (.int 1))) .nil))) .nil))))
  .nil) .nil)
  (.cons (.ite (.cmp .Lt (.blt .len false (.cons (.var 1) .nil)) (.con (.int 5))) (.cons (.ret (.ite (.cmp .Eq (.blt .len false (.cons (.var 1) .nil)) (.con (.int 3))) (.lst false (.cons (.callv 0 (.cons (.idx (.var 1) (.con (.int 0))) (.cons (.idx (.var 1) (.con (.int 1))) (.cons (.idx (.var 1) (.con (.int 2))) .nil)))) .nil)) (.lst false (.cons (.callv 0 (.cons (.idx (.var 1) (.con (.int 0))) (.cons (.idx (.var 1) (.con (.int 1))) (.cons (.idx (.var 1) (.con (.int 2))) (.cons (.idx (.var 1) (.con (.int 3))) .nil))))) .nil))))
  .nil) .nil)
  (.cons (.ite (.cmp .Lt (.blt .len false (.cons (.var 1) .nil)) (.con (.int 7))) (.cons (.ret (.ite (.cmp .Eq (.blt .len false (.cons (.var 1) .nil)) (.con (.int 5))) (.lst false (.cons (.callv 0 (.cons (.idx (.var 1) (.con (.int 0))) (.cons (.idx (.var 1) (.con (.int 1))) (.cons (.idx (.var 1) (.con (.int 2))) (.cons (.idx (.var 1) (.con (.int 3))) (.cons (.idx (.var 1) (.con (.int 4))) .nil)))))) .nil)) (.lst false (.cons (.callv 0 (.cons (.idx (.var 1) (.con (.int 0))) (.cons (.idx (.var 1) (.con (.int 1))) (.cons (.idx (.var 1) (.con (.int 2))) (.cons (.idx (.var 1) (.con (.int 3))) (.cons (.idx (.var 1) (.con (.int 4))) (.cons (.idx (.var 1) (.con (.int 5))) .nil))))))) .nil))))
  .nil) .nil)
  (.cons (.ret (.lst false (.cons (.callv 0 (.cons (.idx (.var 1) (.con (.int 0))) (.cons (.idx (.var 1) (.con (.int 1))) (.cons (.idx (.var 1) (.con (.int 2))) (.cons (.idx (.var 1) (.con (.int 3))) (.cons (.idx (.var 1) (.con (.int 4))) (.cons (.idx (.var 1) (.con (.int 5))) (.cons (.idx (.var 1) (.con (.int 6))) .nil)))))))) .nil)))
  .nil)))))
  .nil)
def f_law_asked : MFn := ⟨2, 3, b_law_asked⟩
def n_law_whole : List Str := [("content" : Str), ("low" : Str), ("high" : Str)]
def b_law_whole : MS := (.cons (.ret (.and (.isi .int (.var 0)) (.and (.not (.isi .bool (.var 0))) (.ch2 .LtE .LtE (.var 1) (.var 0) (.var 2)))))
  .nil)
def f_law_whole : MFn := ⟨3, 3, b_law_whole⟩
def n_law_bent : List Str := [("state" : Str), ("content" : Str), ("at" : Str), ("way" : Str)]
def b_law_bent : MS := (.cons (.ite (.or (.not (.isi .tuple (.var 1))) (.not (.var 1))) (.cons (.ite (.and (.isi .int (.var 1)) (.and (.not (.isi .bool (.var 1))) (.cmp .Gt (.call 17 [] (.cons (.var 0) (.cons (.con (.int 3)) .nil))) (.con (.int 0))))) (.cons (.ret (.bin .Add false (.var 1) (.call 18 [] (.cons (.var 0) (.cons (.lst false (.cons (.con (.int 1)) (.cons (.neg (.con (.int 1))) (.cons (.con (.int 2)) (.cons (.bin .Pow false (.con (.int 10)) (.con (.int 13))) .nil))))) .nil)))))
  .nil) .nil)
  (.cons (.ret (.call 18 [] (.cons (.var 0) (.cons (.lst false (.cons (.con .non) (.cons (.con (.bl true)) (.cons (.con (.bl false)) (.cons (.neg (.con (.int 1))) (.cons (.con (.int 0)) (.cons (.con (.int 1)) (.cons (.con (.str "0")) (.cons (.con (.str "a")) (.cons (.tup .nil) (.cons (.tup (.cons (.con (.int 0)) .nil)) (.cons (.tup (.cons (.tup .nil) .nil)) (.cons (.bin .Pow false (.con (.int 10)) (.con (.int 30))) .nil))))))))))))) .nil))))
  .nil)) .nil)
  (.cons (.set (.tp (.cons (.nm 2) (.cons (.nm 3) .nil))) (.tup (.cons (.call 17 [] (.cons (.var 0) (.cons (.blt .len false (.cons (.var 1) .nil)) .nil))) (.cons (.call 17 [] (.cons (.var 0) (.cons (.con (.int 9)) .nil))) .nil))))
  (.cons (.set (.nm 2) (.ite (.cmp .Eq (.call 17 [] (.cons (.var 0) (.cons (.con (.int 3)) .nil))) (.con (.int 0))) (.bin .Sub false (.blt .len false (.cons (.var 1) .nil)) (.con (.int 1))) (.var 2)))
  (.cons (.ite (.cmp .Lt (.var 3) (.con (.int 5))) (.cons (.ret (.bin .Add false (.bin .Add false (.slc false (.var 1) .abs (.cons (.var 2) .nil)) (.tup (.cons (.call 21 [] (.cons (.var 0) (.cons (.idx (.var 1) (.var 2)) .nil))) .nil))) (.slc false (.var 1) (.cons (.bin .Add false (.var 2) (.con (.int 1))) .nil) .abs)))
  .nil) .nil)
  (.cons (.ret (.idx (.lst false (.cons (.bin .Add false (.slc false (.var 1) .abs (.cons (.var 2) .nil)) (.slc false (.var 1) (.cons (.bin .Add false (.var 2) (.con (.int 1))) .nil) .abs)) (.cons (.bin .Add false (.bin .Add false (.slc false (.var 1) .abs (.cons (.var 2) .nil)) (.slc false (.var 1) (.cons (.var 2) .nil) (.cons (.bin .Add false (.var 2) (.con (.int 1))) .nil))) (.slc false (.var 1) (.cons (.var 2) .nil) .abs)) (.cons (.rev false (.var 1)) (.cons (.bin .Add false (.var 1) (.tup (.cons (.con (.int 0)) .nil))) .nil))))) (.bin .Sub false (.var 3) (.con (.int 5)))))
  .nil)))))
def f_law_bent : MFn := ⟨2, 4, b_law_bent⟩
def n_law_told : List Str := [("way" : Str), ("some" : Str), ("told" : Str)]
def b_law_told : MS := (.cons (.set (.nm 2) (.call 19 [] (.cons (.var 0) (.cons (.var 1) .nil))))
  (.cons (.ret (.ite (.isi .str (.var 2)) (.var 2) (.con (.str ""))))
  .nil))
def f_law_told : MFn := ⟨2, 3, b_law_told⟩
def n_law_first : List Str := [("words" : Str), ("found" : Str), ("word" : Str)]
def b_law_first : MS := (.cons (.set (.nm 1) (.lc false [2] (.nm 2) (.itr (.var 0)) (.cmp .NotEq (.var 2) (.con (.str ""))) (.gend (.var 2))))
  (.cons (.ret (.ite (.var 1) (.idx (.var 1) (.con (.int 0))) (.con (.str ""))))
  .nil))
def f_law_first : MFn := ⟨1, 3, b_law_first⟩
def n_law_is_door : List Str := [("door" : Str), ("chambers" : Str), ("keys" : Str)]
def b_law_is_door : MS := (.cons (.ite (.or (.not (.isi .tuple (.var 0))) (.or (.cmp .NotEq (.blt .len false (.cons (.var 0) .nil)) (.con (.int 3))) (.or (.not (.call 20 [] (.cons (.idx (.var 0) (.con (.int 0))) (.cons (.con (.int 0)) (.cons (.bin .Sub false (.var 1) (.con (.int 1))) .nil))))) (.not (.call 20 [] (.cons (.idx (.var 0) (.con (.int 1))) (.cons (.con (.int 0)) (.cons (.bin .Sub false (.var 1) (.con (.int 1))) .nil)))))))) (.cons (.ret (.con (.bl false)))
  .nil) .nil)
  (.cons (.ret (.and (.cmp .NotEq (.idx (.var 0) (.con (.int 0))) (.idx (.var 0) (.con (.int 1)))) (.or (.isn false (.idx (.var 0) (.con (.int 2)))) (.call 20 [] (.cons (.idx (.var 0) (.con (.int 2))) (.cons (.con (.int 0)) (.cons (.bin .Sub false (.blt .len false (.cons (.var 2) .nil)) (.con (.int 1))) .nil)))))))
  .nil))
def f_law_is_door : MFn := ⟨3, 3, b_law_is_door⟩
def n_law_cave_due : List Str := [("chambers" : Str), ("doors" : Str), ("keys" : Str), ("own" : Str)]
def b_law_cave_due : MS := (.cons (.ite (.not (.call 20 [] (.cons (.var 0) (.cons (.con (.int 1)) (.cons (.con (.int 12)) .nil))))) (.cons (.ret (.con (.str "map chambers")))
  .nil) .nil)
  (.cons (.ite (.or (.not (.isi .tuple (.var 2))) (.or (.cmp .Gt (.blt .len false (.cons (.var 2) .nil)) (.con (.int 8))) (.lc false [3] (.nm 3) (.itr (.var 2)) (.not (.call 20 [] (.cons (.var 3) (.cons (.con (.int 0)) (.cons (.bin .Sub false (.var 0) (.con (.int 1))) .nil))))) (.gend (.var 3))))) (.cons (.ret (.con (.str "map keys")))
  .nil) .nil)
  (.cons (.ite (.or (.not (.isi .tuple (.var 1))) (.or (.cmp .Gt (.blt .len false (.cons (.var 1) .nil)) (.con (.int 60))) (.lc false [3] (.nm 3) (.itr (.var 1)) (.not (.call 24 [] (.cons (.var 3) (.cons (.var 0) (.cons (.var 2) .nil))))) (.gend (.var 3))))) (.cons (.ret (.con (.str "map doors")))
  .nil) .nil)
  (.cons (.ret (.con (.str "")))
  .nil))))
def f_law_cave_due : MFn := ⟨3, 4, b_law_cave_due⟩
def n_law_keyrings_hold : List Str := [("state" : Str), ("chambers" : Str), ("fine" : Str), ("good" : Str), ("odd" : Str), ("keys" : Str), ("many" : Str), ("right" : Str), ("doors" : Str), ("due" : Str), ("start" : Str), ("goal" : Str), ("word" : Str), ("heard" : Str), ("paper" : Str), ("papers" : Str), ("way" : Str)]
def b_law_keyrings_hold : MS := (.cons (.set (.nm 1) (.call 18 [] (.cons (.var 0) (.cons (.lst false (.cons (.con (.int 4)) (.cons (.con (.int 4)) (.cons (.con (.int 4)) (.cons (.con (.int 4)) (.cons (.con (.int 12)) (.cons (.con (.int 0)) (.cons (.con (.int 13)) (.cons (.neg (.con (.int 1))) (.cons (.con (.bl true)) (.cons (.con .non) (.cons (.con (.str "4")) .nil)))))))))))) .nil))))
  (.cons (.set (.nm 2) (.ite (.call 20 [] (.cons (.var 1) (.cons (.con (.int 1)) (.cons (.con (.int 12)) .nil)))) (.var 1) (.con (.int 4))))
  (.cons (.set (.nm 3) (.call 18 [] (.cons (.var 0) (.cons (.lst false (.cons (.tup (.cons (.con (.int 1)) (.cons (.con (.int 2)) (.cons (.con (.int 3)) .nil)))) (.cons (.bin .Mult false (.tup (.cons (.bin .Sub false (.var 2) (.con (.int 1))) .nil)) (.con (.int 8))) (.cons (.tup (.cons (.con (.int 0)) .nil)) .nil)))) .nil))))
  (.cons (.set (.nm 4) (.lst false (.cons (.bin .Mult false (.tup (.cons (.con (.int 0)) .nil)) (.con (.int 9))) (.cons (.tup (.cons (.var 2) .nil)) (.cons (.tup (.cons (.neg (.con (.int 1))) .nil)) (.cons (.tup (.cons (.con (.bl true)) .nil)) (.cons (.bin .Add false (.bin .Mult false (.tup (.cons (.con (.int 0)) .nil)) (.con (.int 7))) (.tup (.cons (.con .non) .nil))) (.cons (.con .non) (.cons (.con (.int 1)) (.cons (.con (.str "12")) .nil))))))))))
  (.cons (.set (.nm 5) (.call 18 [] (.cons (.var 0) (.cons (.lst false (.cons (.var 3) (.cons (.var 3) (.cons (.var 3) (.cons (.call 21 [] (.cons (.var 0) (.cons (.var 3) .nil))) (.cons (.call 18 [] (.cons (.var 0) (.cons (.var 4) .nil))) .nil)))))) .nil))))
  (.cons (.set (.nm 6) (.ite (.isi .tuple (.var 5)) (.blt .len false (.cons (.var 5) .nil)) (.con (.int 3))))
  (.cons (.set (.nm 7) (.tup (.cons (.tup (.cons (.con (.int 0)) (.cons (.con (.int 1)) (.cons (.con .non) .nil)))) (.cons (.tup (.cons (.con (.int 1)) (.cons (.con (.int 2)) (.cons (.con (.int 0)) .nil)))) (.cons (.tup (.cons (.con (.int 2)) (.cons (.con (.int 3)) (.cons (.con .non) .nil)))) .nil)))))
  (.cons (.set (.nm 4) (.lst false (.cons (.bin .Mult false (.tup (.cons (.tup (.cons (.con (.int 0)) (.cons (.con (.int 1)) (.cons (.con .non) .nil)))) .nil)) (.con (.int 61))) (.cons (.tup (.cons (.tup (.cons (.con (.int 0)) (.cons (.con (.int 0)) (.cons (.con .non) .nil)))) .nil)) (.cons (.tup (.cons (.tup (.cons (.con (.int 0)) (.cons (.var 2) (.cons (.con .non) .nil)))) .nil)) (.cons (.tup (.cons (.tup (.cons (.neg (.con (.int 1))) (.cons (.con (.int 0)) (.cons (.con .non) .nil)))) .nil)) (.cons (.tup (.cons (.tup (.cons (.con (.int 0)) (.cons (.con (.bl true)) (.cons (.con .non) .nil)))) .nil)) (.cons (.tup (.cons (.tup (.cons (.con (.int 0)) (.cons (.con (.int 1)) (.cons (.var 6) .nil)))) .nil)) (.cons (.tup (.cons (.tup (.cons (.con (.int 0)) (.cons (.con (.int 1)) (.cons (.neg (.con (.int 1))) .nil)))) .nil)) (.cons (.tup (.cons (.tup (.cons (.con (.int 0)) (.cons (.con (.int 1)) (.cons (.con (.bl false)) .nil)))) .nil)) (.cons (.tup (.cons (.tup (.cons (.con (.int 0)) (.cons (.con (.int 1)) .nil))) .nil)) (.cons (.tup (.cons (.tup (.cons (.con (.int 0)) (.cons (.con (.int 1)) (.cons (.con .non) (.cons (.con (.int 0)) .nil))))) .nil)) .nil))))))))))))
  (.cons (.set (.nm 4) (.bin .Add false (.var 4) (.lst false (.cons (.tup (.cons (.con .non) .nil)) (.cons (.con .non) (.cons (.con (.int 1)) .nil))))))
  (.cons (.set (.nm 4) (.bin .Add false (.var 4) (.lst false (.cons (.bin .Mult false (.tup (.cons (.tup (.cons (.con (.int 0)) (.cons (.con (.int 1)) (.cons (.con .non) .nil)))) .nil)) (.con (.int 60))) (.cons (.bin .Add false (.bin .Mult false (.tup (.cons (.tup (.cons (.con (.int 0)) (.cons (.con (.int 1)) (.cons (.con .non) .nil)))) .nil)) (.con (.int 59))) (.tup (.cons (.tup (.cons (.con (.int 1)) (.cons (.con (.int 1)) (.cons (.con .non) .nil)))) .nil))) (.cons (.bin .Add false (.bin .Mult false (.tup (.cons (.tup (.cons (.con (.int 0)) (.cons (.con (.int 1)) (.cons (.con .non) .nil)))) .nil)) (.con (.int 59))) (.tup (.cons (.con .non) .nil))) (.cons (.tup .nil) .nil)))))))
  (.cons (.set (.nm 8) (.call 18 [] (.cons (.var 0) (.cons (.lst false (.cons (.var 7) (.cons (.var 7) (.cons (.var 7) (.cons (.call 21 [] (.cons (.var 0) (.cons (.var 7) .nil))) (.cons (.call 18 [] (.cons (.var 0) (.cons (.var 4) .nil))) .nil)))))) .nil))))
  (.cons (.set (.nm 9) (.call 25 [] (.cons (.var 1) (.cons (.var 8) (.cons (.var 5) .nil)))))
  (.cons (.set (.tp (.cons (.nm 10) (.cons (.nm 11) .nil))) (.tup (.cons (.call 18 [] (.cons (.var 0) (.cons (.lst false (.cons (.con (.int 0)) (.cons (.bin .Sub false (.var 2) (.con (.int 1))) (.cons (.con (.int 1)) (.cons (.var 2) (.cons (.neg (.con (.int 1))) (.cons (.con (.bl true)) (.cons (.con .non) (.cons (.con (.str "0")) .nil))))))))) .nil))) (.cons (.call 18 [] (.cons (.var 0) (.cons (.lst false (.cons (.con (.int 0)) (.cons (.bin .Sub false (.var 2) (.con (.int 1))) (.cons (.con (.int 1)) (.cons (.var 2) (.cons (.neg (.con (.int 1))) (.cons (.con (.bl false)) (.cons (.con .non) (.cons (.tup (.cons (.con (.int 0)) .nil)) .nil))))))))) .nil))) .nil))))
  (.cons (.set (.nm 12) (.call 23 [] (.cons (.lst false (.cons (.var 9) (.cons (.ite (.call 20 [] (.cons (.var 10) (.cons (.con (.int 0)) (.cons (.bin .Sub false (.var 2) (.con (.int 1))) .nil)))) (.con (.str "")) (.con (.str "argument start"))) .nil))) .nil)))
  (.cons (.set (.nm 13) (.lc true [16] (.nm 16) (.itr (.lst false (.cons (.con (.fn 6)) (.cons (.con (.fn 7)) (.cons (.con (.fn 8)) (.cons (.con (.fn 15)) .nil)))))) .yes (.gend (.call 22 [] (.cons (.var 16) (.cons (.lst false (.cons (.var 1) (.cons (.var 8) (.cons (.var 5) (.cons (.var 10) .nil))))) .nil))))))
  (.cons (.ite (.cmp .NotEq (.var 13) (.bin .Mult false (.lst false (.cons (.var 12) .nil)) (.con (.int 4)))) (.cons (.ret (.con (.bl false)))
  .nil) .nil)
  (.cons (.set (.nm 12) (.call 23 [] (.cons (.lst false (.cons (.var 12) (.cons (.ite (.call 20 [] (.cons (.var 11) (.cons (.con (.int 0)) (.cons (.bin .Sub false (.var 2) (.con (.int 1))) .nil)))) (.con (.str "")) (.con (.str "argument goal"))) .nil))) .nil)))
  (.cons (.ite (.cmp .NotEq (.call 22 [] (.cons (.con (.fn 10)) (.cons (.lst false (.cons (.var 1) (.cons (.var 8) (.cons (.var 5) (.cons (.var 10) (.cons (.var 11) .nil)))))) .nil))) (.var 12)) (.cons (.ret (.con (.bl false)))
  .nil) .nil)
  (.cons (.set (.nm 13) (.lst true .nil))
  (.cons (.for (.nm 14) (.itr (.lst false (.cons (.con .non) (.cons (.tup .nil) (.cons (.tup (.cons (.var 2) .nil)) (.cons (.tup (.cons (.con (.int 0)) (.cons (.con (.bl true)) .nil))) (.cons (.tup (.cons (.con .non) .nil)) (.cons (.con (.str "0")) .nil)))))))) (.cons (.exp (.mth .append (.var 13) (.cons (.call 22 [] (.cons (.con (.fn 11)) (.cons (.lst false (.cons (.var 1) (.cons (.var 8) (.cons (.var 5) (.cons (.var 10) (.cons (.var 11) (.cons (.var 14) (.cons (.con (.int 5)) .nil)))))))) .nil))) .nil)))
  .nil))
  (.cons (.for (.nm 14) (.itr (.lst false (.cons (.con .non) (.cons (.tup (.cons (.var 2) .nil)) (.cons (.tup (.cons (.con (.int 0)) (.cons (.con (.int 0)) .nil))) (.cons (.tup (.cons (.con (.bl false)) .nil)) (.cons (.tup (.cons (.neg (.con (.int 1))) .nil)) (.cons (.con (.int 5)) .nil)))))))) (.cons (.exp (.mth .append (.var 13) (.cons (.call 22 [] (.cons (.con (.fn 12)) (.cons (.lst false (.cons (.var 1) (.cons (.var 8) (.cons (.var 5) (.cons (.var 10) (.cons (.var 11) (.cons (.var 14) .nil))))))) .nil))) .nil)))
  .nil))
  (.cons (.set (.nm 15) (.lst false (.cons (.con .non) (.cons (.tup (.cons (.con .non) .nil)) (.cons (.tup (.cons (.tup (.cons (.con (.int 0)) (.cons (.tup .nil) .nil))) .nil)) (.cons (.tup (.cons (.tup (.cons (.con (.int 0)) (.cons (.tup .nil) (.cons (.con .non) .nil)))) .nil)) (.cons (.tup (.cons (.tup (.cons (.con (.int 0)) (.cons (.tup .nil) (.cons (.con (.bl true)) .nil)))) .nil)) (.cons (.tup (.cons (.tup (.cons (.var 2) (.cons (.tup .nil) (.cons (.con (.int 0)) .nil)))) .nil)) (.cons (.tup (.cons (.tup (.cons (.con (.int 0)) (.cons (.tup (.cons (.con (.int 9)) .nil)) (.cons (.con (.int 0)) .nil)))) .nil)) (.cons (.tup (.cons (.tup (.cons (.con (.int 0)) (.cons (.tup (.cons (.con (.int 0)) (.cons (.con (.int 0)) .nil))) (.cons (.con (.int 0)) .nil)))) .nil)) .nil))))))))))
  (.cons (.for (.nm 14) (.itr (.bin .Add false (.var 15) (.lst false (.cons (.tup (.cons (.tup (.cons (.con (.int 0)) (.cons (.tup .nil) (.cons (.con (.int 0)) .nil)))) (.cons (.tup (.cons (.con (.int 0)) (.cons (.tup .nil) (.cons (.con (.int 1)) .nil)))) .nil))) (.cons (.tup (.cons (.tup (.cons (.con (.bl true)) (.cons (.tup .nil) (.cons (.con (.int 0)) .nil)))) .nil)) (.cons (.tup (.cons (.tup (.cons (.con (.int 0)) (.cons (.con .non) (.cons (.con (.int 0)) .nil)))) .nil)) (.cons (.tup (.cons (.tup (.cons (.con (.int 0)) (.cons (.tup (.cons (.con (.bl false)) .nil)) (.cons (.con (.int 0)) .nil)))) .nil)) .nil))))))) (.cons (.exp (.mth .append (.var 13) (.cons (.call 22 [] (.cons (.con (.fn 13)) (.cons (.lst false (.cons (.var 1) (.cons (.var 8) (.cons (.var 5) (.cons (.var 10) (.cons (.var 11) (.cons (.var 14) (.cons (.con (.int 0)) .nil)))))))) .nil))) .nil)))
  .nil))
  (.cons (.set (.nm 13) (.bin .Add true (.var 13) (.lst false (.cons (.call 22 [] (.cons (.con (.fn 11)) (.cons (.lst false (.cons (.var 1) (.cons (.var 8) (.cons (.var 5) (.cons (.var 10) (.cons (.var 11) (.cons (.tup (.cons (.con (.int 0)) .nil)) (.cons (.con .non) .nil)))))))) .nil))) (.cons (.call 22 [] (.cons (.con (.fn 13)) (.cons (.lst false (.cons (.var 1) (.cons (.var 8) (.cons (.var 5) (.cons (.var 10) (.cons (.var 11) (.cons (.tup .nil) (.cons (.con (.bl true)) .nil)))))))) .nil))) .nil)))))
  (.cons (.ret (.cmp .Eq (.var 13) (.bin .Mult false (.lst false (.cons (.ite (.cmp .NotEq (.var 12) (.con (.str ""))) (.var 12) (.con (.str "paper form"))) .nil)) (.con (.int 26)))))
  .nil)))))))))))))))))))))))))
def f_law_keyrings_hold : MFn := ⟨1, 17, b_law_keyrings_hold⟩
def n_law : List Str := [("script" : Str), ("state" : Str), ("turn" : Str)]
def b_law : MS := (.cons (.set (.nm 1) (.call 16 [] (.cons (.var 0) .nil)))
  (.cons (.for (.nm 2) (.rng (.con (.int 0)) (.con (.int 7))) (.cons (.ite (.not (.call 26 [] (.cons (.var 1) .nil))) (.cons (.ret (.con (.bl false)))
  .nil) .nil)
  .nil))
  (.cons (.ret (.con (.bl true)))
  .nil)))
def f_law : MFn := ⟨1, 3, b_law⟩
def n_law_word : List Str := [("error" : Str), ("heads" : Str), ("kinds" : Str)]
def b_law_word : MS := (.cons (.set (.nm 1) (.lst false (.cons (.con (.str "map ")) (.cons (.con (.str "argument ")) (.cons (.con (.str "paper ")) (.cons (.con (.str "many ")) .nil))))))
  (.cons (.set (.nm 2) (.lst false (.cons (.isE .map (.var 0)) (.cons (.isE .arg (.var 0)) (.cons (.isE .paper (.var 0)) (.cons (.isE .many (.var 0)) (.cons (.isE .text (.var 0)) .nil)))))))
  (.cons (.ite (.or (.not (.isE .cave (.var 0))) (.cmp .NotEq (.mth .count (.var 2) (.cons (.con (.bl true)) .nil)) (.con (.int 1)))) (.cons (.ret (.con (.str "other")))
  .nil) .nil)
  (.cons (.ret (.ite (.idx (.var 2) (.con (.int 4))) (.bin .Add false (.con (.str "text ")) (.blt .str false (.cons (.fldE "at" (.var 0)) .nil))) (.bin .Add false (.idx (.var 1) (.mth .index (.var 2) (.cons (.con (.bl true)) .nil))) (.blt .str false (.cons (.fldE "reason" (.var 0)) .nil)))))
  .nil))))
def W : LawD where
  defs := [(("is_integer" : Str), n_is_integer, f_is_integer), (("check_doors" : Str), n_check_doors, f_check_doors), (("check_chamber" : Str), n_check_chamber, f_check_chamber), (("beside" : Str), n_beside, f_beside), (("keys_at" : Str), n_keys_at, f_keys_at), (("spread" : Str), n_spread, f_spread), (("reached_chambers" : Str), n_reached_chambers, f_reached_chambers), (("keys_had" : Str), n_keys_had, f_keys_had), (("shut_doors" : Str), n_shut_doors, f_shut_doors), (("walks_from" : Str), n_walks_from, f_walks_from), (("judge_goal" : Str), n_judge_goal, f_judge_goal), (("accept_walk" : Str), n_accept_walk, f_accept_walk), (("accept_closed" : Str), n_accept_closed, f_accept_closed), (("accept_steps" : Str), n_accept_steps, f_accept_steps), (("is_standing" : Str), n_is_standing, f_is_standing), (("steps_table" : Str), n_steps_table, f_steps_table), (("_law_start" : Str), n_law_start, f_law_start), (("_law_draw" : Str), n_law_draw, f_law_draw), (("_law_pick" : Str), n_law_pick, f_law_pick), (("_law_asked" : Str), n_law_asked, f_law_asked), (("_law_whole" : Str), n_law_whole, f_law_whole), (("_law_bent" : Str), n_law_bent, f_law_bent), (("_law_told" : Str), n_law_told, f_law_told), (("_law_first" : Str), n_law_first, f_law_first), (("_law_is_door" : Str), n_law_is_door, f_law_is_door), (("_law_cave_due" : Str), n_law_cave_due, f_law_cave_due), (("_law_keyrings_hold" : Str), n_law_keyrings_hold, f_law_keyrings_hold), (("law" : Str), n_law, f_law)]
  fns := [((("_law_asked" : Str), 2), (19, [])), ((("_law_bent" : Str), 2), (21, [])), ((("_law_cave_due" : Str), 3), (25, [])), ((("_law_draw" : Str), 2), (17, [])), ((("_law_first" : Str), 1), (23, [])), ((("_law_is_door" : Str), 3), (24, [])), ((("_law_keyrings_hold" : Str), 1), (26, [])), ((("_law_pick" : Str), 2), (18, [])), ((("_law_start" : Str), 1), (16, [])), ((("_law_told" : Str), 2), (22, [])), ((("_law_whole" : Str), 3), (20, [])), ((("beside" : Str), 3), (3, [])), ((("check_chamber" : Str), 3), (2, [])), ((("check_doors" : Str), 3), (1, [])), ((("is_integer" : Str), 1), (0, [])), ((("is_standing" : Str), 3), (14, [])), ((("keys_at" : Str), 2), (4, [])), ((("spread" : Str), 3), (5, [])), ((("walks_from" : Str), 3), (9, []))]
  cns := [(("MAX_CHAMBERS" : Str), (.int 12)), (("MAX_KEYS" : Str), (.int 8)), (("MAX_ROWS" : Str), (.int 60)), (("accept_closed" : Str), (.fn 12)), (("accept_steps" : Str), (.fn 13)), (("accept_walk" : Str), (.fn 11)), (("judge_goal" : Str), (.fn 10)), (("keys_had" : Str), (.fn 7)), (("reached_chambers" : Str), (.fn 6)), (("shut_doors" : Str), (.fn 8)), (("steps_table" : Str), (.fn 15))]
  ers := [(("ArgumentError" : Str), (.arg : EC)), (("MapError" : Str), (.map : EC)), (("PaperError" : Str), (.paper : EC)), (("TextError" : Str), (.text : EC)), (("TooMany" : Str), (.many : EC))]
  wN := n_law_word
  wB := b_law_word
  n1 := 40
  n2 := 40
end Lw37

set_option maxHeartbeats 2000000
namespace Lw37
open PySem PySem.Spec Mp L2
local macro_rules | `(tactic| walk_at "m1") => `(tactic| first
  | with_reducible refine e_var rfl ?_ | with_reducible refine e_con ?_ | with_reducible refine e_bin ?_ | with_reducible refine e_neg ?_ | with_reducible refine e_not ?_ | with_reducible refine e_cmp ?_ | with_reducible refine e_ch2 ?_ | with_reducible refine e_ch3 ?_ | with_reducible refine e_isn ?_ | with_reducible refine e_and ?_ | with_reducible refine e_or ?_ | with_reducible refine e_ite ?_
  | with_reducible refine e_tup ?_ | with_reducible refine e_lst ?_ | with_reducible refine e_callv1 rfl ?_ | with_reducible refine e_call0 ?_ | with_reducible refine e_call1 ?_ | with_reducible refine e_blt ?_ | with_reducible refine e_isi ?_ | with_reducible refine e_lrng ?_ | with_reducible refine e_mth ?_ | with_reducible refine e_idx ?_ | with_reducible refine e_slc ?_ | with_reducible refine e_rev ?_ | with_reducible refine e_yes ?_
  | with_reducible refine l_nil ?_ | with_reducible refine l_cons ?_ | with_reducible refine o_abs ?_ | with_reducible refine o_some ?_
  | with_reducible refine x_nil ?_ | with_reducible refine x_cons ?_ | with_reducible refine x_exp ?_ | with_reducible refine x_set ?_ | with_reducible refine x_ite ?_ | with_reducible refine x_ret ?_ | with_reducible refine x_rse ?_ | with_reducible refine x_pss ?_ | with_reducible refine x_brk ?_ | with_reducible refine x_cnt ?_ | with_reducible refine x_retN ?_ | with_reducible refine x_sset ?_ | with_reducible refine x_tryw ?_
  | with_reducible refine x_for ?_ | with_reducible refine x_whl ?_ | with_reducible refine v_itr ?_ | with_reducible refine v_rng ?_ | with_reducible refine v_zip ?_ | with_reducible refine v_rngD ?_ | with_reducible refine v_enm ?_ | with_reducible refine n_tup ?_ | with_reducible refine n_lst ?_ | with_reducible refine z_tup ?_ | with_reducible refine z_tl ?_ | with_reducible refine z_lt ?_ | with_reducible refine z_ll ?_ | with_reducible refine e_lc ?_ | with_reducible refine e_sset ?_ | with_reducible refine g_end ?_ | with_reducible refine f_fix ?_ | with_reducible refine fl_cons ?_ | with_reducible refine fl_nil ?_
  | with_reducible refine t_nm ?_ | with_reducible refine t_tp ?_ | with_reducible refine t_nil ?_ | with_reducible refine t_cons ?_
  | with_reducible refine u_bl ?_ | with_reducible refine u_int ?_ | with_reducible refine u_non ?_ | with_reducible refine u_tupN ?_ | with_reducible refine u_tupC ?_ | with_reducible refine u_lstN ?_ | with_reducible refine u_lstC ?_ | with_reducible refine u_tup ?_ | with_reducible refine u_lst ?_
  | with_reducible refine if_tt ?_ | with_reducible refine if_ff ?_ | with_reducible refine if_nf ?_ | with_reducible refine if_nt ?_ | ((((((((((((((((((with_reducible refine if_dec (fun _ => ?_) (fun _ => ?_)) <;> try (exfalso; omega))) <;> try (exfalso; omega))) <;> try (exfalso; omega))) <;> try (exfalso; omega))) <;> try (exfalso; omega))) <;> try (exfalso; omega))) <;> try (exfalso; omega))) <;> try (exfalso; omega))) <;> try (exfalso; omega)) | ((((((((((((((((((with_reducible refine if_ndec (fun _ => ?_) (fun _ => ?_)) <;> try (exfalso; omega))) <;> try (exfalso; omega))) <;> try (exfalso; omega))) <;> try (exfalso; omega))) <;> try (exfalso; omega))) <;> try (exfalso; omega))) <;> try (exfalso; omega))) <;> try (exfalso; omega))) <;> try (exfalso; omega)) | ((((((((((((((((((with_reducible refine if_ne0 (fun _ => ?_) (fun _ => ?_)) <;> try (exfalso; omega))) <;> try (exfalso; omega))) <;> try (exfalso; omega))) <;> try (exfalso; omega))) <;> try (exfalso; omega))) <;> try (exfalso; omega))) <;> try (exfalso; omega))) <;> try (exfalso; omega))) <;> try (exfalso; omega))
  | with_reducible refine c_lt ?_ | with_reducible refine c_gt ?_ | with_reducible refine c_le ?_ | with_reducible refine c_ge ?_ | with_reducible refine c_eq ?_ | with_reducible refine c_ne ?_
  | with_reducible refine b_add ?_ | with_reducible refine b_sub ?_ | with_reducible refine f_lc1 ?_ | with_reducible refine f_lc2 ?_ | with_reducible refine f_lc3 ?_ | with_reducible refine f_lc4 ?_ | with_reducible refine f_lc5 ?_ | with_reducible refine f_lc6 ?_ | with_reducible refine f_lenT ?_ | with_reducible refine f_lenL ?_ | with_reducible refine f_int ?_ | with_reducible refine f_abs ?_
  | refine sz_ok rfl ?_ | ((with_reducible refine b_pow ?_ ?_); focus (exact ⟨by decide, by decide, by decide⟩)) | with_reducible refine d_tup ?_ | with_reducible refine d_rev ?_ | with_reducible refine m_f ?_ | with_reducible refine m_t ?_ | with_reducible refine ⟨_, rfl, ?_⟩)
local macro_rules | `(tactic| walk_at "m2") => `(tactic| first
  | walk_at "m1" | ((with_reducible refine if_nne0 (fun _ => ?_) (fun _ => ?_)) <;> try (exfalso; omega)) | with_reducible refine b_and ?_ | with_reducible refine b_or ?_ | with_reducible refine b_xor ?_ | with_reducible refine w_bits ?_ | with_reducible refine m_bits ?_ | with_reducible refine x_aug rfl ?_ | with_reducible refine g_add ?_ | with_reducible refine g_or ?_ | with_reducible refine g_xor ?_ | with_reducible refine isn_1 ?_ | with_reducible refine isn_2 ?_ | with_reducible refine isn_3 ?_ | with_reducible refine isn_4 ?_ | with_reducible refine isn_5 ?_ | with_reducible refine isn_6 ?_ | with_reducible refine isn_7 ?_ | with_reducible refine isn_8 ?_ | with_reducible refine isn_9 ?_ | with_reducible refine isn_10 ?_ | with_reducible refine c_eqS ?_ | with_reducible refine c_neS ?_ | with_reducible refine f_tupL ?_ | with_reducible refine w_and getE ?_ | with_reducible refine w_and mid_get ?_ | with_reducible refine w_and (by assumption) ?_ | with_reducible refine f_max2 ?_ | with_reducible refine f_min2 ?_ | with_reducible refine i_ref (by assumption) rfl ?_ | refine i_lst rfl ?_ | refine i_at rfl ?_ | with_reducible refine i_ref' (by assumption) rfl ?_ | ((refine s_rf (by first | assumption | exact List.getElem?_set_self (by assumption)) rfl ?_); try simp only [List.set_cons_succ, List.set_cons_zero, List.set_set])
  | ((with_reducible refine b_mul ?_ ?_); focus (exact mul_ok (by omega) (by omega))) | ((with_reducible refine b_div ?_ ?_); focus (exact div_ok (by omega) (by omega))) | ((with_reducible refine b_mod ?_ ?_); focus omega))

abbrev R := run W.T
/-- a def's run, one level down -/
theorem run_of {n f : Nat} {ds : List D} {S : Store} {Q : MK} {E : Exc → Store → Prop} (fn : MFn) (hT : W.T f = some fn) (hl : ds.length = fn.np)
    (h : ex ⟨R n, none⟩ (fun e _ S1 => E e S1) fn.body (Mp.start fn.nl ds) S { nx := fun _ S1 => Q .non S1, rt := Q, bk := fun _ _ => False, ct := fun _ _ => False }) : R (n + 1) f ds S Q E := ⟨fn, hT, hl, h⟩
theorem draw_ok {n i : Nat} {ns : List Int} {a k s many : Int} {S : Store} {Q : MK} {E : Exc → Store → Prop} (hS : S[i]? = some (Mp.St ns a k s)) (g : Good ns a k s) (h0 : 0 < many) (h1 : many < 2 ^ 62)
    (q : ∀ r a' k' s', 0 ≤ r → r < many → Good ns a' k' s' → Q (.int r) (S.set i (Mp.St ns a' k' s'))) : R (n + 1) 17 [.ref i, .int many] S Q E := by
  refine run_of f_law_draw rfl rfl ?_
  obtain ⟨ga, gk, gs0, gs1⟩ := g
  have hi : i < S.length := (List.getElem?_eq_some_iff.mp hS).1
  unfold Mp.St at hS q
  unfold f_law_draw b_law_draw
  dsimp only
  repeat' walk_at "m2"
  case refine_1.refine_2.refine_1 =>
    obtain ⟨j, hj⟩ := nth_int gk (by assumption)
    refine i_lst hj ?_
    repeat' walk_at "m2"
    refine q _ _ _ _ (Int.emod_nonneg _ (by omega)) (Int.emod_lt_of_pos _ h0) ⟨?_, ?_, ?_, ?_⟩ <;> first | omega | (apply Int.ediv_nonneg <;> (try split) <;> omega)
  all_goals refine q _ _ _ _ (Int.emod_nonneg _ (by omega)) (Int.emod_lt_of_pos _ h0) ⟨?_, ?_, ?_, ?_⟩ <;> first | omega | (apply Int.ediv_nonneg <;> (try split) <;> omega)
theorem sttDraw {n i : Nat} {many : Int} {S : Store} {Q : MK} {E : Exc → Store → Prop} (hS : Stt S i) (h0 : 0 < many) (h1 : many < 2 ^ 62)
    (q : ∀ r X, 0 ≤ r → r < many → Stt (S.set i X) i → Q (.int r) (S.set i X)) : R (n + 1) 17 [.ref i, .int many] S Q E := by
  obtain ⟨ns, a, k, s, h, g⟩ := hS.ex
  refine draw_ok h g h0 h1 fun r a' k' s' q0 q1 g' => q r _ q0 q1 ⟨⟨ns, a', k', s', ?_, g'⟩⟩
  exact List.getElem?_set_self (List.getElem?_eq_some_iff.mp h).1
theorem pick_ok {n i : Nat} {xs : List D} {S : Store} {Q : MK} {E : Exc → Store → Prop} (hS : Stt S i) (h0 : 0 < xs.length) (h1 : xs.length < 2 ^ 60)
    (q : ∀ d X, d ∈ xs → Stt (S.set i X) i → Q d (S.set i X)) : R (n + 2) 18 [.ref i, .lst xs] S Q E := by
  refine run_of f_law_pick rfl rfl ?_
  unfold f_law_pick b_law_pick
  dsimp only
  repeat' walk_at "m2"

  refine sttDraw hS (by omega) (by omega) fun r X r0 r1 hX => ?_
  obtain ⟨d, hd, hm⟩ := nth_some r0 r1
  refine i_lst hd (q _ _ hm hX)
theorem sttDraw2 {n i : Nat} {many : Int} {S : Store} {Y : SO} {Q : MK} {E : Exc → Store → Prop} (hS : Stt (S.set i Y) i) (h0 : 0 < many) (h1 : many < 2 ^ 62)
    (q : ∀ r X, 0 ≤ r → r < many → Stt (S.set i X) i → Q (.int r) (S.set i X)) : R (n + 1) 17 [.ref i, .int many] (S.set i Y) Q E :=
  sttDraw hS h0 h1 fun r X a b c => by rw [List.set_set] at c ⊢; exact q r X a b c
theorem pick2_ok {n i : Nat} {xs : List D} {S : Store} {Y : SO} {Q : MK} {E : Exc → Store → Prop} (hS : Stt (S.set i Y) i) (h0 : 0 < xs.length) (h1 : xs.length < 2 ^ 60)
    (q : ∀ d X, d ∈ xs → Stt (S.set i X) i → Q d (S.set i X)) : R (n + 2) 18 [.ref i, .lst xs] (S.set i Y) Q E :=
  pick_ok hS h0 h1 fun d X a c => by rw [List.set_set] at c ⊢; exact q d X a c
theorem bent_leaf {n i B : Nat} {d : D} {S : Store} {Q : MK} {E : Exc → Store → Prop} (hd : match d with | .non | .bl _ | .int _ | .str _ | .tup [] => True | _ => False) (hS : Stt S i)
    (q : ∀ d' X, Vl (3 * B + 4) d' → Stt (S.set i X) i → Q d' (S.set i X)) : R (n + 4) 21 [.ref i, d] S Q E := by
  refine run_of f_law_bent rfl rfl ?_
  unfold f_law_bent b_law_bent
  dsimp only
  have P : ∀ {S1 : Store} {Q : MK} {E : Exc → Store → Prop}, Stt S1 i → (∀ d' X, Vl (3 * B + 4) d' → Stt (S1.set i X) i → Q d' (S1.set i X)) → R (n + 3) 18 [.ref i, .lst odds] S1 Q E :=
    fun h q1 => pick_ok h (by decide) (by decide) fun d X hd hX => q1 d X (odds_vl (by omega) d hd) hX
  have QQ : ∀ {X Y : SO} {d' : D}, Vl (3 * B + 4) d' → Stt ((S.set i X).set i Y) i → Q d' ((S.set i X).set i Y) := by
    intro X Y d' h1 h2
    rw [List.set_set] at h2 ⊢
    exact q _ _ h1 h2
  cases d with
  | non => repeat' walk_at "m2"
           exact P hS q
  | bl b => repeat' walk_at "m2"
            exact P hS q
  | str b => repeat' walk_at "m2"
             exact P hS q
  | int z =>
    repeat' walk_at "m2"
    refine sttDraw hS (by decide) (by decide) fun r X r0 r1 hX => ?_
    repeat' walk_at "m2"
    · refine pick_ok hX (by decide) (by decide) fun d Y hd hY => ?_
      simp only [List.mem_cons, List.not_mem_nil, or_false] at hd
      rcases hd with rfl | rfl | rfl | rfl
      all_goals
        repeat' walk_at "m2"
        exact QQ (.int _) hY
    · exact P hX fun d' Y h1 h2 => QQ h1 h2
  | tup xs =>
    cases xs with
    | nil =>
      repeat' walk_at "m2"
      exact P hS q
    | cons _ _ => exact absurd hd (by simp)
  | _ => exact absurd hd (by simp)
theorem bent_ok {n i B : Nat} (hB : B < 1000) : ∀ {k : Nat} {d : D} {S : Store} {Q : MK} {E : Exc → Store → Prop}, vb B k d = true → Stt S i →
    (∀ d' X, Vl (3 * B + 4) d' → Stt (S.set i X) i → Q d' (S.set i X)) → R (n + k + 4) 21 [.ref i, d] S Q E := by
  intro k
  induction k with
  | zero =>
    intro d S Q E hv hS q
    exact bent_leaf (by cases d <;> first | trivial | (simp [vb] at hv)) hS q
  | succ k ih =>
    intro d S Q E hv hS q
    cases d with
    | tup xs =>
      cases xs with
      | nil => exact bent_leaf (n := n + (k + 1)) trivial hS q
      | cons x r =>
        refine run_of f_law_bent rfl rfl ?_
        unfold f_law_bent b_law_bent
        dsimp only
        simp only [vb, Bool.and_eq_true, decide_eq_true_eq, List.all_eq_true] at hv
        obtain ⟨hl, hx⟩ := hv
        have hV : ∀ y ∈ x :: r, Vl B y := fun y hy => Vl.of (hx y hy)
        have hl' : (x :: r).length < 1000 := by omega
        have hp : 0 < (x :: r).length := by simp
        repeat' walk_at "m2"
        refine sttDraw hS (by omega) (by omega) fun a X1 a0 a1 hS => ?_
        repeat' walk_at "m2"
        refine sttDraw2 hS (by omega) (by omega) fun w X2 w0 w1 hS => ?_
        repeat' walk_at "m2"
        refine sttDraw2 hS (by omega) (by omega) fun c X3 c0 c1 hS => ?_
        repeat' walk_at "m2"
        case refine_1.refine_1 =>
          obtain ⟨y, hy, hym⟩ := nth_some (xs := x :: r) (r := ((x :: r).length : Int) - 1) (by omega) (by omega)
          refine i_at (d := y) (by rw [atD_tup]; exact hy) ?_
          repeat' walk_at "m2"
          refine ih (hx y hym) hS fun d' Y hd' hY => ?_
          rw [List.set_set] at hY ⊢
          repeat' walk_at "m2"
          refine add_ok cutL_len (Nat.le_refl 1) (by omega) ?_
          repeat' walk_at "m2"
          refine add_ok (app_len cutL_len (Nat.le_refl 1)) cutL_len (by omega) ?_
          refine q _ _ (vl_cat ?_ (fun z hz => ?_) (fun z hz => ?_)) hY
          · exact Nat.le_trans (app_len (app_len cutL_len (Nat.le_refl 1)) cutL_len) (by omega)
          · rcases List.mem_append.mp hz with hz | hz
            · exact (hV z (cutL_mem hz)).mono (by omega)
            · rw [List.mem_singleton.mp hz]; exact hd'
          · exact (hV z (cutL_mem hz)).mono (by omega)
        case refine_2.refine_1 =>
          obtain ⟨y, hy, hym⟩ := nth_some (xs := x :: r) (r := a) (by omega) (by omega)
          refine i_at (d := y) (by rw [atD_tup]; exact hy) ?_
          repeat' walk_at "m2"
          refine ih (hx y hym) hS fun d' Y hd' hY => ?_
          rw [List.set_set] at hY ⊢
          repeat' walk_at "m2"
          refine add_ok cutL_len (Nat.le_refl 1) (by omega) ?_
          repeat' walk_at "m2"
          refine add_ok (app_len cutL_len (Nat.le_refl 1)) cutL_len (by omega) ?_
          refine q _ _ (vl_cat ?_ (fun z hz => ?_) (fun z hz => ?_)) hY
          · exact Nat.le_trans (app_len (app_len cutL_len (Nat.le_refl 1)) cutL_len) (by omega)
          · rcases List.mem_append.mp hz with hz | hz
            · exact (hV z (cutL_mem hz)).mono (by omega)
            · rw [List.mem_singleton.mp hz]; exact hd'
          · exact (hV z (cutL_mem hz)).mono (by omega)
        case refine_1.refine_2 =>
          refine add_ok cutL_len cutL_len (by omega) ?_
          repeat' walk_at "m2"
          refine add_ok cutL_len cutL_len (by omega) ?_
          repeat' walk_at "m2"
          refine add_ok (app_len cutL_len cutL_len) cutL_len (by omega) ?_
          repeat' walk_at "m2"
          refine add_ok (Nat.le_refl _) (Nat.le_refl 1) (by omega) ?_
          repeat' walk_at "m2"
          obtain ⟨y, hy, hym⟩ := nth_some (xs := _) (r := w - 5) (by omega) (show w - 5 < ((([_, _, _, _] : List D)).length : Int) by show w - 5 < 4; omega)
          refine i_lst hy (q _ _ ?_ hS)
          simp only [List.mem_cons, List.not_mem_nil, or_false] at hym
          have W : ∀ z ∈ x :: r, Vl (3 * B + 4) z := fun z hz => (hV z hz).mono (by omega)
          rcases hym with rfl | rfl | rfl | rfl
          · exact vl_cat (Nat.le_trans (app_len cutL_len cutL_len) (by omega)) (fun z hz => W z (cutL_mem hz)) (fun z hz => W z (cutL_mem hz))
          · exact vl_cat (Nat.le_trans (app_len (app_len cutL_len cutL_len) cutL_len) (by omega)) (fun z hz => (List.mem_append.mp hz).elim (fun hz => W z (cutL_mem hz)) (fun hz => W z (cutL_mem hz))) (fun z hz => W z (cutL_mem hz))
          · exact .tup _ (by rw [List.length_reverse]; omega) fun z hz => W z (List.mem_reverse.mp hz)
          · exact vl_cat (Nat.le_trans (app_len (Nat.le_refl _) (Nat.le_refl 1)) (by omega)) W (fun z hz => by rw [List.mem_singleton.mp hz]; exact .int 0)
        case refine_2.refine_2 =>
          refine add_ok cutL_len cutL_len (by omega) ?_
          repeat' walk_at "m2"
          refine add_ok cutL_len cutL_len (by omega) ?_
          repeat' walk_at "m2"
          refine add_ok (app_len cutL_len cutL_len) cutL_len (by omega) ?_
          repeat' walk_at "m2"
          refine add_ok (Nat.le_refl _) (Nat.le_refl 1) (by omega) ?_
          repeat' walk_at "m2"
          obtain ⟨y, hy, hym⟩ := nth_some (xs := _) (r := w - 5) (by omega) (show w - 5 < ((([_, _, _, _] : List D)).length : Int) by show w - 5 < 4; omega)
          refine i_lst hy (q _ _ ?_ hS)
          simp only [List.mem_cons, List.not_mem_nil, or_false] at hym
          have W : ∀ z ∈ x :: r, Vl (3 * B + 4) z := fun z hz => (hV z hz).mono (by omega)
          rcases hym with rfl | rfl | rfl | rfl
          · exact vl_cat (Nat.le_trans (app_len cutL_len cutL_len) (by omega)) (fun z hz => W z (cutL_mem hz)) (fun z hz => W z (cutL_mem hz))
          · exact vl_cat (Nat.le_trans (app_len (app_len cutL_len cutL_len) cutL_len) (by omega)) (fun z hz => (List.mem_append.mp hz).elim (fun hz => W z (cutL_mem hz)) (fun hz => W z (cutL_mem hz))) (fun z hz => W z (cutL_mem hz))
          · exact .tup _ (by rw [List.length_reverse]; omega) fun z hz => W z (List.mem_reverse.mp hz)
          · exact vl_cat (Nat.le_trans (app_len (Nat.le_refl _) (Nat.le_refl 1)) (by omega)) W (fun z hz => by rw [List.mem_singleton.mp hz]; exact .int 0)
    | non => exact bent_leaf (n := n + (k + 1)) trivial hS q
    | bl b => exact bent_leaf (n := n + (k + 1)) trivial hS q
    | int z => exact bent_leaf (n := n + (k + 1)) trivial hS q
    | str z => exact bent_leaf (n := n + (k + 1)) trivial hS q
    | _ => simp [vb] at hv

/-- a call that returns (z = '') or raises with the word z, and leaves the store as it was but for new rows -/
def Says (n f : Nat) (as : List D) (z : Str) : Prop := ∀ (S : Store) (Q : MK) (E : Exc → Store → Prop),
  (z = "" → ∀ d ex, Q d (S ++ ex)) → (∀ e ex, wordOf e = some z → E e (S ++ ex)) → R n f as S Q E
theorem told_ok {n f : Nat} {as : List D} {z : Str} {S : Store} {Q : MK} {E : Exc → Store → Prop} (h0 : 0 < as.length) (h6 : as.length ≤ 6)
    (h : Says n f as z) (q : ∀ ex, Q (.str z) (S ++ ex)) : R (n + 2) 22 [.fn f, .lst as] S Q E := by
  refine run_of f_law_told rfl rfl ?_
  unfold f_law_told b_law_told
  dsimp only
  repeat' walk_at "m2"
  refine run_of f_law_asked rfl rfl ?_
  unfold f_law_asked b_law_asked
  dsimp only
  match as, h0, h6 with
  | [a], _, _ =>
    repeat' walk_at "m2"
    refine h _ _ _ (fun hz d ex => ?_) fun e ex hw => ⟨z, hw, ?_⟩
    all_goals repeat' walk_at "m2"
    · rw [← hz]; exact q ex
    · exact q ex
  | [a, b], _, _ =>
    repeat' walk_at "m2"
    refine h _ _ _ (fun hz d ex => ?_) fun e ex hw => ⟨z, hw, ?_⟩
    all_goals repeat' walk_at "m2"
    · rw [← hz]; exact q ex
    · exact q ex
  | [a, b, c], _, _ =>
    repeat' walk_at "m2"
    refine h _ _ _ (fun hz d ex => ?_) fun e ex hw => ⟨z, hw, ?_⟩
    all_goals repeat' walk_at "m2"
    · rw [← hz]; exact q ex
    · exact q ex
  | [a, b, c, d], _, _ =>
    repeat' walk_at "m2"
    refine h _ _ _ (fun hz d ex => ?_) fun e ex hw => ⟨z, hw, ?_⟩
    all_goals repeat' walk_at "m2"
    · rw [← hz]; exact q ex
    · exact q ex
  | [a, b, c, d, e], _, _ =>
    repeat' walk_at "m2"
    refine h _ _ _ (fun hz d ex => ?_) fun e ex hw => ⟨z, hw, ?_⟩
    all_goals repeat' walk_at "m2"
    · rw [← hz]; exact q ex
    · exact q ex
  | [a, b, c, d, e, g], _, _ =>
    repeat' walk_at "m2"
    refine h _ _ _ (fun hz d ex => ?_) fun e ex hw => ⟨z, hw, ?_⟩
    all_goals repeat' walk_at "m2"
    · rw [← hz]; exact q ex
    · exact q ex
theorem pickS {n i : Nat} {xs : List D} {S : Store} {Q : MK} {E : Exc → Store → Prop} (hS : Stt S i) (h0 : 0 < xs.length) (h1 : xs.length < 2 ^ 60)
    (q : ∀ d S1, d ∈ xs → Stt S1 i → Q d S1) : R (n + 2) 18 [.ref i, .lst xs] S Q E := pick_ok hS h0 h1 fun d X hd h => q d _ hd h
theorem bentS {n i B k : Nat} {d : D} {S : Store} {Q : MK} {E : Exc → Store → Prop} (hB : B < 1000) (hv : vb B k d = true) (hS : Stt S i)
    (q : ∀ d' S1, Vl (3 * B + 4) d' → Stt S1 i → Q d' S1) : R (n + k + 4) 21 [.ref i, d] S Q E := bent_ok hB hv hS fun d X hd h => q d _ hd h
theorem whole_ok {n B : Nat} {d : D} {lo hi : Int} {S : Store} {Q : MK} {E : Exc → Store → Prop} (v : Vl B d) (q : Q (.bl (whole lo hi d)) S) : R (n + 1) 20 [d, .int lo, .int hi] S Q E := by
  refine run_of f_law_whole rfl rfl ?_
  cases v with
  | int i =>
    unfold f_law_whole b_law_whole
    dsimp only
    repeat' walk_at "m2"
    · rename_i h
      simpa [whole, h] using q
    · rename_i h
      simpa [whole, h] using q
  | _ => simpa [f_law_whole, b_law_whole, whole] using q

theorem is_integer_ok' {n B : Nat} {d : D} {S : Store} {Q : MK} {E : Exc → Store → Prop} (v : Vl B d) (q : Q (.bl (isInt d)) S) : R (n + 1) 0 [d] S Q E := by
  refine run_of f_is_integer rfl rfl ?_
  cases v <;> simpa [f_is_integer, b_is_integer, isInt] using q
theorem law_first_ok {n : Nat} {ws : List Str} {S : Store} {Q : MK} {E : Exc → Store → Prop} (hl : ws.length ≤ 1000) (q : Q (.str (firstW ws)) S) : R (n + 1) 23 [.lst (ws.map .str)] S Q E := by
  refine run_of f_law_first rfl rfl ?_
  unfold f_law_first b_law_first
  dsimp only
  repeat' walk_at "m2"
  refine gen_if neS (fun x => x) (Nat.le_of_lt (sz4096 (by rw [List.length_map]; omega))) (fun x hx acc Q2 ha q1 q2 => ?_) ?_
  · obtain ⟨w, _, rfl⟩ := List.mem_map.mp hx
    repeat' walk_at "m2"
    refine if_nb (fun h => ?_) (fun h => ?_)
    · repeat' walk_at "m2"
      exact ⟨ha, rfl, q1 (by simp only [neS, h]; rfl)⟩
    · exact ⟨rfl, q2 (by simp only [neS, h]; rfl)⟩
  · have he : ((ws.map D.str).filter neS).map (fun x => x) = (ws.filter fun x => !(x == ("" : Str))).map .str := by
      rw [List.map_id', List.filter_map]; rfl
    rw [he]
    unfold firstW at q
    cases hf : ws.filter fun x => !(x == ("" : Str)) with
    | nil =>
      rw [hf] at q
      repeat' walk_at "m2"
      exact q
    | cons a r =>
      rw [hf] at q
      rw [List.map_cons]
      repeat' walk_at "m2"
      refine i_at (k := ((0 : Nat) : Int)) (at_lst (by simp) rfl) ?_
      exact q
theorem start_ok {n : Nat} {ns : List Int} {Q : MK} {E : Exc → Store → Prop} (q : ∀ S1, Stt S1 0 → Q (.ref 0) S1) : R (n + 1) 16 [.scr ns] [] Q E := by
  refine run_of f_law_start rfl rfl ?_
  unfold f_law_start b_law_start
  dsimp only
  repeat' walk_at "m2"
  refine for_ix (fun k env S1 => S1 = [] ∧ ∃ (s : Int) (e : Option D), env = [some (.scr ns), some (.int s), e] ∧ 0 ≤ s ∧ s < 2 ^ 32) ⟨rfl, 7, none, rfl, by decide, by decide⟩ (fun k hk env S1 P hI hP => ?_) (fun env S1 hI => ?_)
  · obtain ⟨rfl, s, e, rfl, h0, h1⟩ := hI
    rw [List.getElem_map]
    repeat' walk_at "m2"
    exact hP _ _ ⟨rfl, _, _, rfl, by omega, by omega⟩
  · obtain ⟨rfl, s, e, rfl, h0, h1⟩ := hI
    repeat' walk_at "m2"
    refine f_lstS ?_
    repeat' walk_at "m2"
    exact q _ ⟨⟨ns, 0, 0, s, rfl, ⟨by decide, by decide, h0, h1⟩⟩⟩
theorem toldS {n f i : Nat} {as : List D} {z : Str} {S : Store} {Q : MK} {E : Exc → Store → Prop} (h0 : 0 < as.length) (h6 : as.length ≤ 6) (hS : Stt S i)
    (h : Says n f as z) (q : ∀ S1, Stt S1 i → Q (.str z) S1) : R (n + 2) 22 [.fn f, .lst as] S Q E := told_ok h0 h6 h fun ex => q _ (hS.app ex)

/-! ### caves with doors and keys -/
theorem whole_int {lo hi i : Int} : whole lo hi (.int i) = (decide (lo ≤ i) && decide (i ≤ hi)) := rfl
def inC (m : Int) : D → Bool
  | .int i => decide (0 ≤ i) && decide (i < m)
  | _ => false
def okK (k : Nat) : D → Bool
  | .non => true
  | .int x => decide (0 ≤ x) && decide (x < (k : Int))
  | _ => false
def okD3 (m : Int) (k : Nat) (a c e : D) : Bool := match a, c with
  | .int i, .int j => decide (0 ≤ i) && decide (i < m) && decide (0 ≤ j) && decide (j < m) && decide (i ≠ j) && okK k e
  | _, _ => false
def okDr (m : Int) (k : Nat) : D → Bool
  | .tup [a, c, e] => okD3 m k a c e
  | _ => false
def okDrs (m : Int) (k : Nat) : D → Bool
  | .tup xs => decide ((xs.length : Int) ≤ 60) && xs.all (okDr m k)
  | _ => false
def okKs (m : Int) : D → Bool
  | .tup ks => decide ((ks.length : Int) ≤ 8) && ks.all (inC m)
  | _ => false
def kl : D → Nat
  | .tup ks => ks.length
  | _ => 0
def dueK (a c e : D) : Str := match a with
  | .int m => if 1 ≤ m ∧ m ≤ 12 then (if okKs m e = true then (if okDrs m (kl e) c = true then "" else "map doors") else "map keys") else "map chambers"
  | _ => "map chambers"
theorem dueK_not {a c e : D} (h : isInt a = false) : dueK a c e = "map chambers" := by
  cases a <;> first | rfl | (simp [isInt] at h)
theorem okDr_len {m : Int} {k : Nat} {ys : List D} (h : ys.length ≠ 3) : okDr m k (.tup ys) = false := by
  match ys, h with
  | [], _ => rfl
  | [_], _ => rfl
  | [_, _], _ => rfl
  | [_, _, _], h => exact absurd rfl h
  | _ :: _ :: _ :: _ :: _, _ => rfl
theorem three_of {ys : List D} (h : ys.length = 3) : ∃ a c e, ys = [a, c, e] := by
  match ys, h with
  | [a, c, e], _ => exact ⟨a, c, e, rfl⟩
theorem okDr_int {m : Int} {k : Nat} {a c e : D} (h : (isInt a && isInt c) = false) : okDr m k (.tup [a, c, e]) = false := by
  cases a <;> cases c <;> first | rfl | (simp [isInt] at h)
theorem okDr_is {m i j : Int} {k : Nat} {e : D} : okDr m k (.tup [.int i, .int j, e]) = ((inC m (.int i) && inC m (.int j)) && !decide (i = j) && okK k e) := by
  simp only [okDr, okD3, inC, ne_eq, decide_not, Bool.and_assoc]
theorem cut2 {a c e : D} : cutL [a, c, e] none (some 2) = [a, c] := rfl
theorem inC_of {m x : Int} : inC m (.int x) = (decide (0 ≤ x) && decide (x < m)) := rfl
theorem if_f0 {c : Bool} {A B : Prop} (h : c = false) (q : B) : if c = true then A else B := by rw [h]; simpa using q
theorem if_t0 {c : Bool} {A B : Prop} (h : c = true) (q : A) : if c = true then A else B := by rw [h]; simpa using q
theorem if_n0 {c : Bool} {A B : Prop} (h : c = false) (q : A) : if (!c) = true then A else B := by rw [h]; simpa using q
theorem if_n1 {c : Bool} {A B : Prop} (h : c = true) (q : B) : if (!c) = true then A else B := by rw [h]; simpa using q
/-- one turn of a comprehension that asks for a chamber -/
theorem in_turn {n : Nat} {c : C} (hc : c.call = R (n + 1)) {E : EK} {env : DEnv} {i : Nat} {B : Nat} {z : D} {m : Int} {hi : ME} {S : Store} {Q : MK} (v : Vl B z) (h : env[i]? = some (some z)) (hm : ∀ Q' : MK, Q' (.int m) S → ev c E hi env S Q') (q : Q (.bl (inC m z)) S) :
    ev c E (.and (.call 0 [] (.cons (.var i) .nil)) (.ch2 .LtE .Lt (.con (.int 0)) (.var i) hi)) env S Q := by
  refine e_and ?_
  refine e_call1 ?_
  refine e_var h ?_
  refine l_nil ?_
  show c.call 0 _ _ _ _
  rw [hc]
  refine is_integer_ok' v ?_
  cases ha : isInt z with
  | false =>
    repeat' walk_at "m2"
    have : inC m z = false := by cases z <;> first | rfl | (simp [isInt] at ha)
    rw [this] at q
    exact q
  | true =>
    obtain ⟨x, rfl⟩ := isInt_ex ha
    refine u_bl ?_
    refine if_tt ?_
    refine e_ch2 ?_
    refine e_con ?_
    refine e_var h ?_
    refine c_le ?_
    refine ⟨_, rfl, ?_⟩
    rw [inC_of] at q
    refine if_dec (fun h1 => ?_) (fun h1 => ?_)
    · refine hm _ ?_
      refine c_lt ?_
      rw [decide_eq_true h1, Bool.true_and] at q
      exact q
    · rw [decide_eq_false h1, Bool.false_and] at q
      exact q
theorem check_doors_ok {n B : Nat} {a c e : D} {S : Store} {Q : MK} {E : Exc → Store → Prop} (hB : B ≤ 1000) (va : Vl B a) (vc : Vl B c) (ve : Vl B e) (q1 : dueK a c e = "" → Q .non S) (q2 : ∀ x, wordOf x = some (dueK a c e) → E x S) :
    R (n + 2) 1 [a, c, e] S Q E := by
  refine run_of f_check_doors rfl rfl ?_
  unfold f_check_doors b_check_doors
  dsimp only
  repeat' walk_at "m2"
  refine is_integer_ok' va ?_
  cases ha : isInt a with
  | false =>
    repeat' walk_at "m2"
    exact q2 _ (by rw [dueK_not ha]; rfl)
  | true =>
    obtain ⟨m, rfl⟩ := isInt_ex ha
    have bad : ¬ (1 ≤ m ∧ m ≤ 12) → E ⟨.map, .str "chambers"⟩ S := fun h => q2 _ (by simp only [dueK, if_neg h]; rfl)
    repeat' walk_at "m2"
    · exact bad (by omega)
    · have hm : 1 ≤ m ∧ m ≤ 12 := by omega
      have l0 : okKs m e = false → E ⟨.map, .str "keys"⟩ S := fun h => q2 _ (by simp only [dueK, if_pos hm, h]; rfl)
      have l1 : okKs m e = true → okDrs m (kl e) c = true → Q .non S := fun h h2 => q1 (by simp [dueK, hm, h, h2])
      have l2 : okKs m e = true → okDrs m (kl e) c = false → E ⟨.map, .str "doors"⟩ S := fun h h2 => q2 _ (by simp only [dueK, if_pos hm, h, h2]; rfl)
      clear q1 q2 bad
      cases ve with
      | tup ks kl' hk =>
        repeat' walk_at "m2"
        · exact l0 (by simp [okKs]; omega)
        · refine gen_map (fun z => .bl (inC m z)) (Nat.le_of_lt (sz4096 (by omega))) (fun z hz acc Q2 hacc h => ?_) ?_
          · repeat' (first | (refine in_turn rfl (hk z hz) rfl (fun Q' h => e_var rfl h) ?_) | walk_at "m2")
            exact ⟨hacc, rfl, h⟩
          · repeat' walk_at "m2"
            refine f_allL ?_
            repeat' walk_at "m2"
            refine if_nb (fun hi => ?_) (fun hi => ?_)
            · repeat' walk_at "m2"
              exact l0 (by simp only [okKs, hi, Bool.and_false])
            · have l1 := l1 (by simp [okKs, hi]; omega)
              have l2 := l2 (by simp [okKs, hi]; omega)
              clear l0
              have ek : kl (.tup ks) = ks.length := rfl
              rw [ek] at l1 l2
              cases vc with
              | tup xs hl hx =>
                repeat' walk_at "m2"
                · exact l2 (by simp [okDrs]; omega)
                · refine for_ok (fun r env S' => S' = S ∧ (∃ e3, env = [some (.int m), some (.tup xs), some (.tup ks), e3, none]) ∧ (∀ x ∈ r, Vl B x) ∧ xs.all (okDr m ks.length) = r.all (okDr m ks.length)) (fun x r env S' P hI hP => ?_) (fun env S' hI => ?_) xs _ S ⟨rfl, ⟨none, rfl⟩, hx, rfl⟩
                  · obtain ⟨rfl, ⟨e3, rfl⟩, hv, hall⟩ := hI
                    have hvx := hv x (by simp)
                    have bad : okDr m ks.length x = false → okDrs m ks.length (.tup xs) = false := fun h => by simp [okDrs, hall, h]
                    cases hvx with
                    | tup ys hyl hy =>
                      repeat' walk_at "m2"
                      · exact l2 (bad (okDr_len (by omega)))
                      · obtain ⟨a, c, e, rfl⟩ := three_of (show ys.length = 3 by omega)
                        repeat' walk_at "m2"
                        rw [cut2]
                        refine gen_map (fun z => .bl (isInt z)) (by rw [sizeLine_eq]; show 2 ≤ _; decide) (fun z hz acc Q2 hacc h => ?_) ?_
                        · repeat' walk_at "m2"
                          refine is_integer_ok' (hy z (by rcases List.mem_cons.mp hz with rfl | hz <;> simp_all)) ?_
                          repeat' walk_at "m2"
                          exact ⟨hacc, rfl, h⟩
                        · repeat' walk_at "m2"
                          refine f_allL ?_
                          repeat' walk_at "m2"
                          refine if_nb (fun hi => ?_) (fun hi => ?_)
                          · repeat' walk_at "m2"
                            exact l2 (bad (okDr_int (by simpa [Bool.and_assoc] using hi)))
                          · have hi1 : isInt a = true ∧ isInt c = true := by simpa using hi
                            obtain ⟨i, rfl⟩ := isInt_ex hi1.1
                            obtain ⟨j, rfl⟩ := isInt_ex hi1.2
                            have hok := okDr_is (m := m) (i := i) (j := j) (k := ks.length) (e := e)
                            repeat' walk_at "m2"
                            rw [cut2]
                            refine gen_map (fun z => .bl (inC m z)) (by rw [sizeLine_eq]; show 2 ≤ _; decide) (fun z hz acc Q2 hacc h => ?_) ?_
                            · have : ∃ x : Int, z = .int x := by
                                rcases List.mem_cons.mp hz with rfl | hz
                                · exact ⟨_, rfl⟩
                                · rw [List.mem_singleton.mp hz]; exact ⟨_, rfl⟩
                              obtain ⟨x, rfl⟩ := this
                              repeat' walk_at "m2"
                              · refine ⟨hacc, rfl, ?_⟩
                                have e : inC m (.int x) = decide (x < m) := by rw [inC_of, decide_eq_true (by omega), Bool.true_and]
                                rw [e] at h
                                exact h
                              · refine ⟨hacc, rfl, ?_⟩
                                have e : inC m (.int x) = false := by rw [inC_of, decide_eq_false (by omega), Bool.false_and]
                                rw [e] at h
                                exact h
                            · repeat' walk_at "m2"
                              refine f_allL ?_
                              have e2 : [D.int i, D.int j].all (inC m) = (inC m (.int i) && inC m (.int j)) := by simp
                              rw [e2]
                              cases hin : (inC m (.int i) && inC m (.int j)) with
                              | false =>
                                repeat' walk_at "m2"
                                exact l2 (bad (by rw [hok, hin, Bool.false_and, Bool.false_and]))
                              | true =>
                                rw [hin, Bool.true_and] at hok
                                have done : ¬ i = j → okK ks.length e = true → P [some (.int m), some (.tup xs), some (.tup ks), some (.tup [.int i, .int j, e]), none] S' := fun h1 h2 => by
                                  refine hP _ _ ⟨rfl, ⟨_, rfl⟩, fun z hz => hv z (by simp [hz]), ?_⟩
                                  rw [hall, List.all_cons, hok, h2, decide_eq_false h1]
                                  rfl
                                have fail : okK ks.length e = false → E ⟨.map, .str "doors"⟩ S' := fun h => l2 (bad (by rw [hok, h, Bool.and_false]))
                                have hve := hy e (by simp)
                                repeat' walk_at "m2"
                                · exact l2 (bad (by rw [hok, decide_eq_true (by assumption)]; rfl))
                                · have hij : ¬ i = j := by assumption
                                  have done := done hij
                                  cases e with
                                  | non =>
                                    repeat' walk_at "m2"
                                    exact done rfl
                                  | int x =>
                                    repeat' walk_at "m2"
                                    refine is_integer_ok' hve ?_
                                    repeat' walk_at "m2"
                                    refine if_n1 rfl ?_
                                    repeat' walk_at "m2"
                                    all_goals first
                                      | exact done (by simp [okK]; omega)
                                      | exact fail (by simp [okK]; omega)
                                  | _ =>
                                    repeat' walk_at "m2"
                                    try simp only [isN, if_true]
                                    repeat' walk_at "m2"
                                    refine is_integer_ok' hve ?_
                                    repeat' walk_at "m2"
                                    refine if_n0 rfl ?_
                                    repeat' walk_at "m2"
                                    exact fail rfl
                    | _ =>
                      repeat' walk_at "m2"
                      exact l2 (bad rfl)
                  · obtain ⟨rfl, ⟨e3, rfl⟩, hv, hall⟩ := hI
                    repeat' walk_at "m2"
                    exact l1 (by simp [okDrs] at hall ⊢; exact ⟨by omega, hall⟩)
              | _ =>
                repeat' walk_at "m2"
                exact l2 rfl
      | _ =>
        repeat' walk_at "m2"
        exact l0 rfl
    · exact bad (by omega)
theorem check_chamber_ok {n B : Nat} {d : D} {m : Int} {w : Str} {S : Store} {Q : MK} {E : Exc → Store → Prop} (v : Vl B d) (q1 : whole 0 (m - 1) d = true → Q .non S) (q2 : whole 0 (m - 1) d = false → E ⟨.arg, .str w⟩ S) :
    R (n + 2) 2 [.int m, d, .str w] S Q E := by
  refine run_of f_check_chamber rfl rfl ?_
  unfold f_check_chamber b_check_chamber
  dsimp only
  repeat' walk_at "m2"
  refine is_integer_ok' v ?_
  cases ha : isInt d with
  | false =>
    repeat' walk_at "m2"
    exact q2 (whole_not ha)
  | true =>
    obtain ⟨i, rfl⟩ := isInt_ex ha
    rw [whole_int] at q1 q2
    repeat' walk_at "m2"
    · exact q2 (by simp; omega)
    · exact q1 (by simp; omega)
    · exact q2 (by simp; omega)

theorem okDr_short {m : Int} {k : Nat} {a c e : D} (h : whole 0 (m - 1) a = false) : okDr m k (.tup [a, c, e]) = false := by
  cases a with
  | int i =>
    rw [whole_int] at h
    cases c with
    | int j =>
      rw [okDr_is, inC_of]
      have : (decide (0 ≤ i) && decide (i < m)) = false := by
        simp only [Bool.and_eq_false_iff, decide_eq_false_iff_not] at h ⊢
        omega
      rw [this]; rfl
    | _ => rfl
  | _ => rfl
theorem okDr_short2 {m i : Int} {k : Nat} {c e : D} (h : whole 0 (m - 1) c = false) : okDr m k (.tup [.int i, c, e]) = false := by
  cases c with
  | int j =>
    rw [whole_int] at h
    rw [okDr_is, inC_of, inC_of]
    have : (decide (0 ≤ j) && decide (j < m)) = false := by
      simp only [Bool.and_eq_false_iff, decide_eq_false_iff_not] at h ⊢
      omega
    rw [this, Bool.and_false]; rfl
  | _ => rfl
theorem law_is_door_ok {n B : Nat} {x : D} {m : Int} {ks : List D} {S : Store} {Q : MK} {E : Exc → Store → Prop} (v : Vl B x) (q : Q (.bl (okDr m ks.length x)) S) : R (n + 2) 24 [x, .int m, .tup ks] S Q E := by
  refine run_of f_law_is_door rfl rfl ?_
  unfold f_law_is_door b_law_is_door
  dsimp only
  cases v with
  | tup ys hyl hy =>
    repeat' walk_at "m2"
    · rename_i h1
      rw [okDr_len (by omega)] at q
      exact q
    · obtain ⟨a, c, e, rfl⟩ := three_of (show ys.length = 3 by omega)
      repeat' walk_at "m2"
      refine whole_ok (hy a (by simp)) ?_
      repeat' walk_at "m2"
      refine if_nb (fun h1 => ?_) (fun h1 => ?_)
      · rw [h1]
        repeat' walk_at "m2"
        rw [okDr_short h1] at q
        exact q
      · obtain ⟨i, rfl, i0, i1⟩ := whole_ex h1
        repeat' walk_at "m2"
        refine whole_ok (hy c (by simp)) ?_
        repeat' walk_at "m2"
        refine if_nb (fun h2 => ?_) (fun h2 => ?_)
        · try rw [h2]
          repeat' walk_at "m2"
          rw [okDr_short2 h2] at q
          exact q
        · obtain ⟨j, rfl, j0, j1⟩ := whole_ex h2
          have hin : okDr m ks.length (.tup [.int i, .int j, e]) = (!decide (i = j) && okK ks.length e) := by
            rw [okDr_is, inC_of, inC_of, decide_eq_true i0, decide_eq_true j0, decide_eq_true (show i < m by omega), decide_eq_true (show j < m by omega)]
            rfl
          rw [hin] at q
          have hve := hy e (by simp)
          repeat' walk_at "m2"
          · have hij : ¬ i = j := by assumption
            rw [decide_eq_false hij] at q
            have q : Q (.bl (okK ks.length e)) S := q
            cases e with
            | non =>
              repeat' walk_at "m2"
              exact q
            | int x =>
              repeat' walk_at "m2"
              refine whole_ok hve ?_
              have : whole 0 ((ks.length : Int) - 1) (.int x) = okK ks.length (.int x) := by
                rw [whole_int]
                simp only [okK]
                congr 1
                exact decide_eq_decide.mpr (by omega)
              rw [this]
              exact q
            | _ =>
              repeat' walk_at "m2"
              try refine if_f0 rfl ?_
              repeat' walk_at "m2"
              refine whole_ok hve ?_
              exact q
          · rename_i h
            have h : i = j := by first | exact h | omega
            subst h
            simpa using q
  | _ =>
    repeat' walk_at "m2"
    exact q
theorem inC_whole {m : Int} {z : D} : whole 0 (m - 1) z = inC m z := by
  cases z with
  | int x =>
    rw [whole_int, inC_of]
    congr 1
    exact decide_eq_decide.mpr (by omega)
  | _ => rfl
theorem cave_due_ok {n B : Nat} {a c e : D} {S : Store} {Q : MK} {E : Exc → Store → Prop} (hB : B ≤ 1000) (va : Vl B a) (vc : Vl B c) (ve : Vl B e) (q : Q (.str (dueK a c e)) S) : R (n + 3) 25 [a, c, e] S Q E := by
  refine run_of f_law_cave_due rfl rfl ?_
  unfold f_law_cave_due b_law_cave_due
  dsimp only
  repeat' walk_at "m2"
  refine whole_ok va ?_
  repeat' walk_at "m2"
  refine if_nb (fun hi => ?_) (fun hi => ?_)
  · have : dueK a c e = "map chambers" := by
      cases a with
      | int m => rw [whole_int] at hi; simp only [Bool.and_eq_false_iff, decide_eq_false_iff_not] at hi; simp only [dueK]; rw [if_neg (by omega)]
      | _ => rfl
    rw [this] at q
    repeat' walk_at "m2"
    exact q
  · obtain ⟨m, rfl, m1, m2⟩ := whole_ex hi
    have hm : 1 ≤ m ∧ m ≤ 12 := ⟨m1, m2⟩
    have l0 : okKs m e = false → Q (.str "map keys") S := fun h => by simpa [dueK, hm, h] using q
    have l1 : okKs m e = true → okDrs m (kl e) c = true → Q (.str "") S := fun h h2 => by simpa [dueK, hm, h, h2] using q
    have l2 : okKs m e = true → okDrs m (kl e) c = false → Q (.str "map doors") S := fun h h2 => by simpa [dueK, hm, h, h2] using q
    clear q hi
    cases ve with
    | tup ks hkl hk =>
      have hsz : ks.length ≤ sizeLine := Nat.le_of_lt (sz4096 (by omega))
      repeat' walk_at "m2"
      · exact l0 (by simp [okKs]; omega)
      · refine gen_if (fun z => !inC m z) (fun z => z) hsz (fun z hz acc Q2 hacc h1 h2 => ?_) ?_
        · repeat' walk_at "m2"
          refine whole_ok (hk z hz) ?_
          rw [inC_whole]
          repeat' walk_at "m2"
          refine if_nb (fun h => ?_) (fun h => ?_)
          · repeat' walk_at "m2"
            exact ⟨hacc, rfl, h1 (by simp [h])⟩
          · exact ⟨rfl, h2 (by simp [h])⟩
        · repeat' walk_at "m2"
          rw [emp_filter, Bool.not_not]
          refine if_b (fun hb => ?_) (fun hb => ?_)
          · repeat' walk_at "m2"
            refine l0 ?_
            have : ks.all (inC m) = false := by rw [List.all_eq_not_any_not, hb]; rfl
            simp only [okKs, this, Bool.and_false]
          · have hks : ks.all (inC m) = true := by rw [List.all_eq_not_any_not, hb]; rfl
            have l1 := l1 (by simp [okKs, hks]; omega)
            have l2 := l2 (by simp [okKs, hks]; omega)
            have ek : kl (.tup ks) = ks.length := rfl
            rw [ek] at l1 l2
            clear l0 hb
            cases vc with
            | tup xs hl hx =>
              have hsz2 : xs.length ≤ sizeLine := Nat.le_of_lt (sz4096 (by omega))
              repeat' walk_at "m2"
              · exact l2 (by simp [okDrs]; omega)
              · refine gen_if (fun z => !okDr m ks.length z) (fun z => z) hsz2 (fun z hz acc Q2 hacc h1 h2 => ?_) ?_
                · repeat' walk_at "m2"
                  refine law_is_door_ok (hx z hz) ?_
                  repeat' walk_at "m2"
                  refine if_nb (fun h => ?_) (fun h => ?_)
                  · repeat' walk_at "m2"
                    exact ⟨hacc, rfl, h1 (by simp [h])⟩
                  · exact ⟨rfl, h2 (by simp [h])⟩
                · repeat' walk_at "m2"
                  rw [emp_filter, Bool.not_not]
                  refine if_b (fun hb => ?_) (fun hb => ?_)
                  · repeat' walk_at "m2"
                    refine l2 ?_
                    have : xs.all (okDr m ks.length) = false := by rw [List.all_eq_not_any_not, hb]; rfl
                    simp only [okDrs, this, Bool.and_false]
                  · repeat' walk_at "m2"
                    refine l1 ?_
                    have : xs.all (okDr m ks.length) = true := by rw [List.all_eq_not_any_not, hb]; rfl
                    simp only [okDrs, this, Bool.and_true]
                    exact decide_eq_true (by omega)
            | _ =>
              repeat' walk_at "m2"
              exact l2 rfl
    | _ =>
      repeat' walk_at "m2"
      exact l0 rfl

/-! ### what lies beside, the keys of a chamber -/
abbrev Dr := Nat × Nat × Option Nat
def kD : Option Nat → D
  | none => .non
  | some v => .int (v : Nat)
def drD (p : Dr) : D := .tup [.int (p.1 : Nat), .int (p.2.1 : Nat), kD p.2.2]
def GoodDr (m k : Nat) (p : Dr) : Prop := p.1 < m ∧ p.2.1 < m ∧ p.1 ≠ p.2.1 ∧ ∀ x, p.2.2 = some x → x < k
theorem okDr_ex {m : Nat} {k : Nat} {d : D} (h : okDr (m : Nat) k d = true) : ∃ p : Dr, d = drD p ∧ GoodDr m k p := by
  cases d with
  | tup xs =>
    by_cases hl : xs.length = 3
    · obtain ⟨a, c, e, rfl⟩ := three_of hl
      have : (isInt a && isInt c) = true := by
        cases h2 : (isInt a && isInt c) with
        | true => rfl
        | false => rw [okDr_int h2] at h; cases h
      rw [Bool.and_eq_true] at this
      obtain ⟨i, rfl⟩ := isInt_ex this.1
      obtain ⟨j, rfl⟩ := isInt_ex this.2
      rw [okDr_is, inC_of, inC_of] at h
      simp only [Bool.and_eq_true, decide_eq_true_eq, Bool.not_eq_true', decide_eq_false_iff_not] at h
      obtain ⟨⟨⟨⟨h1, h2⟩, h3, h4⟩, h5⟩, h6⟩ := h
      obtain ⟨i, rfl⟩ := Int.eq_ofNat_of_zero_le h1
      obtain ⟨j, rfl⟩ := Int.eq_ofNat_of_zero_le h3
      cases e with
      | non => exact ⟨(i, j, none), rfl, by show i < m; omega, by show j < m; omega, by show i ≠ j; omega, fun x hx => by cases hx⟩
      | int z =>
        simp only [okK, Bool.and_eq_true, decide_eq_true_eq] at h6
        obtain ⟨z, rfl⟩ := Int.eq_ofNat_of_zero_le h6.1
        exact ⟨(i, j, some z), rfl, by show i < m; omega, by show j < m; omega, by show i ≠ j; omega, fun x hx => by cases hx; omega⟩
      | _ => cases h6
    · rw [okDr_len hl] at h
      cases h
  | _ => cases h
theorem inC_ex {m : Nat} {d : D} (h : inC (m : Nat) d = true) : ∃ i : Nat, d = .int (i : Nat) ∧ i < m := by
  cases d with
  | int i =>
    simp only [inC, Bool.and_eq_true, decide_eq_true_eq] at h
    obtain ⟨i, rfl⟩ := Int.eq_ofNat_of_zero_le h.1
    exact ⟨i, rfl, by omega⟩
  | _ => cases h
theorem due_exK {a c e : D} (h : dueK a c e = "") : ∃ (m : Nat) (ds : List Dr) (ks : List Nat), a = .int (m : Nat) ∧ c = .tup (ds.map drD) ∧ e = .tup (ks.map fun k => .int (k : Nat)) ∧ 1 ≤ m ∧ m ≤ 12 ∧ ds.length ≤ 60 ∧ (∀ p ∈ ds, GoodDr m ks.length p) ∧ ks.length ≤ 8 ∧ ∀ k ∈ ks, k < m := by
  cases a with
  | int i =>
    by_cases hm : 1 ≤ i ∧ i ≤ 12
    · by_cases h2 : okKs i e = true
      · by_cases h3 : okDrs i (kl e) c = true
        · obtain ⟨m, rfl⟩ := Int.eq_ofNat_of_zero_le (show 0 ≤ i by omega)
          cases e with
          | tup es =>
            simp only [okKs, Bool.and_eq_true, decide_eq_true_eq] at h2
            obtain ⟨ks, rfl, hk⟩ := list_ex (f := inC (m : Nat)) (g := fun k : Nat => D.int (k : Nat)) (P := fun k => k < m) (fun d hd => inC_ex hd) h2.2
            cases c with
            | tup xs =>
              simp only [okDrs, kl, Bool.and_eq_true, decide_eq_true_eq, List.length_map] at h3
              obtain ⟨ds, rfl, hd⟩ := list_ex (f := okDr (m : Nat) ks.length) (g := drD) (P := GoodDr m ks.length) (fun d hd => okDr_ex hd) h3.2
              rw [List.length_map] at h2 h3
              exact ⟨m, ds, ks, rfl, rfl, rfl, by omega, by omega, by omega, hd, by omega, hk⟩
            | _ => cases h3
          | _ => cases h2
        · have e : dueK (.int i) c e = "map doors" := by simp [dueK, hm, h2, h3]
          rw [e] at h
          exact absurd h (by decide +kernel)
      · have e : dueK (.int i) c e = "map keys" := by simp [dueK, hm, h2]
        rw [e] at h
        exact absurd h (by decide +kernel)
    · simp only [dueK, if_neg hm] at h
      exact absurd h (by decide +kernel)
  | _ => exact absurd (show ("map chambers" : Str) = "" from h) (by decide +kernel)
/-! ### keys -/
def kaF (c : Nat) : Nat → List Nat → Nat
  | _, [] => 0
  | i, k :: ks => (if k = c then 2 ^ i else 0) + kaF c (i + 1) ks
def ka (ks : List Nat) (c : Nat) : Nat := kaF c 0 ks
theorem kaF_lt {c : Nat} : ∀ (ks : List Nat) (i : Nat), 2 ^ i + kaF c i ks ≤ 2 ^ (i + ks.length)
  | [], i => Nat.le_refl _
  | k :: ks, i => by
    have h := kaF_lt (c := c) ks (i + 1)
    have e : 2 ^ (i + 1) = 2 ^ i + 2 ^ i := by rw [Nat.pow_succ]; omega
    rw [List.length_cons, show i + (ks.length + 1) = i + 1 + ks.length by omega]
    unfold kaF
    have hp : 0 < 2 ^ i := Nat.pow_pos (by decide)
    split <;> omega
theorem ka_lt {ks : List Nat} {c : Nat} (h : ks.length ≤ 8) : ka ks c < 256 := by
  have h1 := kaF_lt (c := c) ks 0
  have h2 : 2 ^ (0 + ks.length) ≤ 2 ^ 8 := Nat.pow_le_pow_right (by decide) (by omega)
  unfold ka
  simp only [Nat.pow_zero] at h1
  omega
def isAt (c : Nat) : D → Bool
  | .tup [_, .int k] => decide (k = (c : Nat))
  | _ => false
def pw : D → Int
  | .tup [.int i, _] => ((2 ^ i.toNat : Nat) : Int)
  | _ => 0
theorem sum_ka {c : Nat} : ∀ (ks : List Nat) (i : Nat), ((((pairs i (ks.map fun k => D.int (k : Nat))).filter (isAt c)).map pw).sum : Int) = ((kaF c i ks : Nat) : Int)
  | [], _ => rfl
  | k :: ks, i => by
    have ih := sum_ka (c := c) ks (i + 1)
    show ((((D.tup [.int (i : Nat), .int (k : Nat)] :: pairs (i + 1) (ks.map fun k => D.int (k : Nat))).filter (isAt c)).map pw).sum : Int) = _
    unfold kaF
    by_cases h : k = c
    · rw [List.filter_cons_of_pos (by simp [isAt, h]), List.map_cons, List.sum_cons, ih, if_pos h]
      simp [pw]
    · rw [List.filter_cons_of_neg (by simp [isAt]; omega), ih, if_neg h]
      simp
theorem keys_at_ok {n c : Nat} {ks : List Nat} {S : Store} {Q : MK} {E : Exc → Store → Prop} (hk : ks.length ≤ 8) (q : Q (.int (ka ks c : Nat)) S) : R (n + 1) 4 [.tup (ks.map fun k => .int (k : Nat)), .int (c : Nat)] S Q E := by
  refine run_of f_keys_at rfl rfl ?_
  unfold f_keys_at b_keys_at
  dsimp only
  repeat' walk_at "m2"
  refine gen_if (isAt c) (fun z => .int (pw z)) (by rw [pairs_len, List.length_map, sizeLine_eq]; omega) (fun z hz acc Q2 hacc h1 h2 => ?_) ?_
  · obtain ⟨i, x, hx, rfl⟩ := pairs_mem hz
    have hi : i < ks.length := by
      have := (List.getElem?_eq_some_iff.mp hx).1
      rwa [List.length_map] at this
    obtain ⟨k, _, rfl⟩ := List.mem_map.mp (List.mem_of_getElem? hx)
    rw [Nat.zero_add] at h1 h2 ⊢
    repeat' walk_at "m2"
    · refine b_one (by omega) ?_
      have hh := h1 (by simp [isAt]; omega)
      simp only [pw, Int.toNat_natCast] at hh
      exact ⟨hacc, rfl, hh⟩
    · exact ⟨rfl, h2 (by simp [isAt]; omega)⟩
  · repeat' walk_at "m2"
    have e : ((pairs 0 (ks.map fun k => D.int (k : Nat))).filter (isAt c)).map (fun z => D.int (pw z)) = (((pairs 0 (ks.map fun k => D.int (k : Nat))).filter (isAt c)).map pw).map D.int := by
      rw [List.map_map]; rfl
    rw [e]
    refine ⟨_, rfl, ?_⟩
    rw [sum_ka]
    exact q
/-! ### beside -/
def opn (h : Nat) : Option Nat → Bool
  | none => true
  | some k => h.testBit k
def adj (ds : List Dr) (h a b : Nat) : Prop := ∃ p ∈ ds, opn h p.2.2 = true ∧ ((a = p.1 ∧ b = p.2.1) ∨ (a = p.2.1 ∧ b = p.1))
theorem adj.sym {ds : List Dr} {h a b : Nat} (j : adj ds h a b) : adj ds h b a := by
  obtain ⟨p, hp, ho, h1 | h1⟩ := j
  · exact ⟨p, hp, ho, .inr ⟨h1.2, h1.1⟩⟩
  · exact ⟨p, hp, ho, .inl ⟨h1.2, h1.1⟩⟩
def sub (h g : Nat) : Prop := ∀ k, h.testBit k = true → g.testBit k = true
theorem opn_sub {h g : Nat} (s : sub h g) : ∀ {o : Option Nat}, opn h o = true → opn g o = true
  | none, _ => rfl
  | some k, e => s k e
theorem adj.mono {ds : List Dr} {h g a b : Nat} (s : sub h g) (j : adj ds h a b) : adj ds g a b := by
  obtain ⟨p, hp, ho, h1⟩ := j
  exact ⟨p, hp, opn_sub s ho, h1⟩
theorem sub.or {h g x : Nat} (s : sub h g) : sub (h ||| x) (g ||| x) := fun k e => by
  rw [Nat.testBit_or] at e ⊢
  rcases Bool.or_eq_true _ _ ▸ e with e | e
  · rw [s k e]; rfl
  · rw [e, Bool.or_true]
theorem sub.left {h x : Nat} : sub h (h ||| x) := fun k e => by rw [Nat.testBit_or, e]; rfl
theorem adj.lt {ds : List Dr} {m k h a b : Nat} (hg : ∀ p ∈ ds, GoodDr m k p) (j : adj ds h a b) : a < m ∧ b < m := by
  obtain ⟨p, hp, _, h1⟩ := j
  obtain ⟨g1, g2, _⟩ := hg p hp
  omega
theorem bit_is {h k : Nat} : Builtin.bitAnd ((h : Nat) / 2 ^ ((k : Nat) : Int).toNat) 1 = if h.testBit k = true then 1 else 0 := by
  have e1 : (((h : Nat) : Int) / 2 ^ ((k : Nat) : Int).toNat) = ((h / 2 ^ k : Nat) : Int) := by simp
  have e2 : (1 : Int) = ((1 : Nat) : Int) := rfl
  rw [e1, e2, bAnd_nat, Nat.and_one_is_mod, Nat.testBit_eq_decide_div_mod_eq]
  rcases Nat.mod_two_eq_zero_or_one (h / 2 ^ k) with e | e
  · rw [e]; rfl
  · rw [e]; rfl
structure Bs (ds : List Dr) (h c : Nat) (kvs : KVs) : Prop where
  inn : ∀ p ∈ kvs, ∃ b : Nat, p.1 = [.inl (b : Nat)] ∧ adj ds h c b
  has : ∀ b, adj ds h c b → ∃ p ∈ kvs, p.1 = [.inl (b : Nat)]
theorem adj_app {ds : List Dr} {p : Dr} {h a b : Nat} : adj (ds ++ [p]) h a b ↔ adj ds h a b ∨ (opn h p.2.2 = true ∧ ((a = p.1 ∧ b = p.2.1) ∨ (a = p.2.1 ∧ b = p.1))) := by
  constructor
  · rintro ⟨q, hq, r⟩
    rcases List.mem_append.mp hq with hq | hq
    · exact .inl ⟨q, hq, r⟩
    · rw [List.mem_singleton.mp hq] at r; exact .inr r
  · rintro (⟨q, hq, r⟩ | r)
    · exact ⟨q, List.mem_append_left _ hq, r⟩
    · exact ⟨p, by simp, r⟩
theorem Bs.no {ds : List Dr} {p : Dr} {h c : Nat} {kvs : KVs} (b : Bs ds h c kvs) (hn : ¬ (opn h p.2.2 = true ∧ (c = p.1 ∨ c = p.2.1))) : Bs (ds ++ [p]) h c kvs :=
  ⟨fun q hq => let ⟨x, e, j⟩ := b.inn q hq; ⟨x, e, adj_app.mpr (.inl j)⟩, fun x j => b.has x ((adj_app.mp j).resolve_right fun r => hn ⟨r.1, r.2.imp And.left And.left⟩)⟩
theorem Bs.yes {ds : List Dr} {p : Dr} {h c : Nat} {kvs : KVs} {d : D} (b : Bs ds h c kvs) (ho : opn h p.2.2 = true) (hc : c = p.1 ∨ c = p.2.1) (hne : p.1 ≠ p.2.1) : Bs (ds ++ [p]) h c (putD kvs [.inl ((if c = p.1 then p.2.1 else p.1 : Nat) : Nat)] d) := by
  have key : ∀ x, ((c = p.1 ∧ x = p.2.1) ∨ (c = p.2.1 ∧ x = p.1)) ↔ x = (if c = p.1 then p.2.1 else p.1) := by
    intro x
    by_cases e : c = p.1
    · rw [if_pos e]
      constructor
      · rintro (h | h)
        · exact h.2
        · exact absurd (e.symm.trans h.1) hne
      · exact fun h => .inl ⟨e, h⟩
    · rw [if_neg e]
      constructor
      · rintro (h | h)
        · exact absurd h.1 e
        · exact h.2
      · exact fun h => .inr ⟨hc.resolve_left e, h⟩
  refine ⟨fun q hq => ?_, fun x j => ?_⟩
  · rcases putD_mem hq with hq | rfl
    · obtain ⟨x, e, j⟩ := b.inn q hq
      exact ⟨x, e, adj_app.mpr (.inl j)⟩
    · exact ⟨_, rfl, adj_app.mpr (.inr ⟨ho, (key _).mpr rfl⟩)⟩
  · rcases adj_app.mp j with j | ⟨_, j⟩
    · obtain ⟨q, hq, e⟩ := b.has x j
      obtain ⟨q2, hq2, e2⟩ := putD_keep (ks := [.inl ((if c = p.1 then p.2.1 else p.1 : Nat) : Nat)]) (d := d) hq
      exact ⟨q2, hq2, e2.trans e⟩
    · rw [(key x).mp j]
      exact putD_has
theorem beside_ok {n m k h c : Nat} {ds : List Dr} {S : Store} {Q : MK} {E : Exc → Store → Prop} (hl : ds.length ≤ 60) (hg : ∀ p ∈ ds, GoodDr m k p)
    (q : ∀ (ys : List Nat) (ex : Store), (∀ b, b ∈ ys ↔ adj ds h c b) → ys.length ≤ 60 → Q (.lst (ys.map fun y => .int (y : Nat))) (S ++ ex)) : R (n + 1) 3 [.tup (ds.map drD), .int (c : Nat), .int (h : Nat)] S Q E := by
  refine run_of f_beside rfl rfl ?_
  unfold f_beside b_beside
  dsimp only
  repeat' walk_at "m2"
  refine e_dnew ?_
  repeat' walk_at "m2"
  refine for_ix (fun i env S' => ∃ (kvs : KVs) (e4 e5 e6 : Option D), S' = S ++ [.dct false none kvs] ∧ kvs.length ≤ i ∧ Bs (ds.take i) h c kvs ∧ env = [some (.tup (ds.map drD)), some (.int (c : Nat)), some (.int (h : Nat)), some (.ref S.length), e4, e5, e6])
    ⟨[], none, none, none, rfl, Nat.le_refl _, ⟨fun p hp => absurd hp (by simp), fun b ⟨p, hp, _⟩ => absurd hp (by simp)⟩, rfl⟩ (fun i hi env S' P hI hP => ?_) (fun env S' hI => ?_)
  · obtain ⟨kvs, e4, e5, e6, rfl, hlen, hB, rfl⟩ := hI
    have hi' : i < ds.length := by rw [List.length_map] at hi; exact hi
    rw [List.getElem_map]
    have hS : (S ++ [SO.dct false none kvs])[S.length]? = some (.dct false none kvs) := by simp
    obtain ⟨g1, g2, g3, g4⟩ := hg _ (List.getElem_mem hi')
    have et : ds.take (i + 1) = ds.take i ++ [ds[i]] := by rw [List.take_succ, List.getElem?_eq_getElem hi']; rfl
    have no : ¬ (opn h ds[i].2.2 = true ∧ (c = ds[i].1 ∨ c = ds[i].2.1)) → ∀ e4 e5 e6, P [some (.tup (ds.map drD)), some (.int (c : Nat)), some (.int (h : Nat)), some (.ref S.length), e4, e5, e6] (S ++ [.dct false none kvs]) :=
      fun hn e4 e5 e6 => hP _ _ ⟨kvs, e4, e5, e6, rfl, by omega, by rw [et]; exact hB.no hn, rfl⟩
    have yes : opn h ds[i].2.2 = true → (c = ds[i].1 ∨ c = ds[i].2.1) → ∀ d e4 e5 e6, P [some (.tup (ds.map drD)), some (.int (c : Nat)), some (.int (h : Nat)), some (.ref S.length), e4, e5, e6] ((S ++ [SO.dct false none kvs]).set S.length (SO.dct false none (putD kvs [.inl ((if c = ds[i].1 then ds[i].2.1 else ds[i].1 : Nat) : Nat)] d))) :=
      fun ho hc d e4 e5 e6 => hP _ _ ⟨putD kvs [.inl ((if c = ds[i].1 then ds[i].2.1 else ds[i].1 : Nat) : Nat)] d, e4, e5, e6, by simp, Nat.le_trans putD_len (by omega), by rw [et]; exact hB.yes ho hc g3, rfl⟩
    clear hP hB et
    generalize ds[i] = p at g1 g2 g3 g4 no yes
    obtain ⟨p1, p2, o⟩ := p
    dsimp only at g1 g2 g3 g4 no yes
    unfold drD
    dsimp only
    repeat' walk_at "m2"
    refine c_in2 ?_
    refine u_bl ?_
    refine if_b (fun hb => ?_) (fun hb => ?_)
    · have hb : c = p1 ∨ c = p2 := by
        rw [Bool.or_eq_true, decide_eq_true_eq, decide_eq_true_eq] at hb
        omega
      have put : opn h o = true → ∀ (bk ct : DEnv → Store → Prop) (rt : MK) (c0 : C) (E0 : EK), ex c0 E0 (.cons (.dput (.var 3) (.ite (.cmp .Eq (.var 1) (.var 4)) (.var 5) (.var 4)) (.con (.bl true))) .nil)
          [some (.tup (ds.map drD)), some (.int (c : Nat)), some (.int (h : Nat)), some (.ref S.length), some (.int (p1 : Nat)), some (.int (p2 : Nat)), some (kD o)] (S ++ [.dct false none kvs]) ⟨P, rt, bk, ct⟩ := by
        intro ho bk ct rt c0 E0
        repeat' walk_at "m2"
        refine x_dput ?_
        refine e_con ?_
        refine e_var rfl ?_
        refine ev_pure (.int ((if c = p1 then p2 else p1 : Nat) : Nat)) (fun Q' q' => ?_) ?_
        · repeat' walk_at "m2"
          · rw [if_pos (by omega)] at q'
            exact q'
          · rw [if_neg (by omega)] at q'
            exact q'
        · refine ⟨S.length, false, kvs, _, rfl, hS, rfl, by rw [sizeLine_eq]; omega, ?_⟩
          repeat' walk_at "m2"
          exact yes ho hb _ _ _ _
      cases o with
      | none =>
        show ev _ _ (.or (.isn false (.var 6)) _) [_, _, _, _, _, _, some .non] _ _
        refine e_or ?_
        refine e_isn ?_
        refine e_var rfl ?_
        refine u_bl ?_
        refine if_t0 rfl ?_
        refine u_bl ?_
        refine if_tt ?_
        exact put rfl _ _ _ _ _
      | some z =>
        show ev _ _ (.or (.isn false (.var 6)) _) [_, _, _, _, _, _, some (.int (z : Nat))] _ _
        refine e_or ?_
        refine e_isn ?_
        refine e_var rfl ?_
        refine u_bl ?_
        refine if_f0 rfl ?_
        refine e_bin ?_
        refine e_bin ?_
        refine e_var rfl ?_
        refine e_var rfl ?_
        refine b_shr (by omega) ?_
        refine e_con ?_
        refine b_and ?_
        rw [bit_is]
        cases hz : h.testBit z with
        | true =>
          refine u_int ?_
          refine if_t0 rfl ?_
          exact put hz _ _ _ _ _
        | false =>
          refine u_int ?_
          refine if_f0 rfl ?_
          refine x_nil ?_
          refine x_nil ?_
          exact no (fun h => by rw [show opn _ (some z) = _ from hz] at h; exact absurd h.1 (by simp)) _ _ _
    · rw [hb]
      have hb : ¬ (c = p1 ∨ c = p2) := by
        rw [Bool.or_eq_false_iff, decide_eq_false_iff_not, decide_eq_false_iff_not] at hb
        omega
      repeat' walk_at "m2"
      exact no (fun h => hb h.2) _ _ _
  · obtain ⟨kvs, e4, e5, e6, rfl, hlen, hB, rfl⟩ := hI
    rw [List.length_map] at hlen hB
    rw [List.take_of_length_le (Nat.le_refl _)] at hB
    obtain ⟨ps, hps, hpl⟩ : ∃ ps : List Nat, kvs.map (·.1) = ps.map (fun b => [.inl ((b : Nat) : Int)]) ∧ ∀ b ∈ ps, adj ds h c b := by
      have inn := hB.inn
      clear hB hlen q
      induction kvs with
      | nil => exact ⟨[], rfl, fun b hb => absurd hb (by simp)⟩
      | cons p r ih =>
        obtain ⟨ps, e, hp⟩ := ih fun q hq => inn q (by simp [hq])
        obtain ⟨b, e2, hb⟩ := inn p (by simp)
        refine ⟨b :: ps, by rw [List.map_cons, List.map_cons, e, e2], fun x hx => ?_⟩
        rcases List.mem_cons.mp hx with rfl | hx
        · exact hb
        · exact hp x hx
    have hpl2 : ps.length = kvs.length := by have := congrArg List.length hps; simpa using this.symm
    repeat' walk_at "m2"
    refine ⟨S.length, none, kvs, ps.map fun b => ((b : Nat) : Int), rfl, by simp, by rw [hps, List.map_map]; rfl, by rw [List.length_map]; omega, fun ys hy hpw => ?_⟩
    obtain ⟨zs, rfl⟩ : ∃ zs : List Nat, ys = zs.map fun b => ((b : Nat) : Int) := by
      have : ∀ y ∈ ys, ∃ b : Nat, y = (b : Nat) := fun y hy' => by
        obtain ⟨b, _, rfl⟩ := List.mem_map.mp (hy.mem_iff.mp hy')
        exact ⟨b, rfl⟩
      clear hy hpw
      induction ys with
      | nil => exact ⟨[], rfl⟩
      | cons y r ih =>
        obtain ⟨zs, rfl⟩ := ih fun z hz => this z (by simp [hz])
        obtain ⟨b, rfl⟩ := this y (by simp)
        exact ⟨b :: zs, rfl⟩
    have hmem : ∀ b, b ∈ zs ↔ adj ds h c b := fun b => by
      have h1 : ((b : Nat) : Int) ∈ zs.map (fun b => ((b : Nat) : Int)) ↔ b ∈ zs := by
        rw [List.mem_map]
        exact ⟨fun ⟨x, hx, e⟩ => by obtain rfl : x = b := by omega
                                    exact hx, fun hb => ⟨b, hb, rfl⟩⟩
      have h2 : ((b : Nat) : Int) ∈ ps.map (fun b => ((b : Nat) : Int)) ↔ b ∈ ps := by
        rw [List.mem_map]
        exact ⟨fun ⟨x, hx, e⟩ => by obtain rfl : x = b := by omega
                                    exact hx, fun hb => ⟨b, hb, rfl⟩⟩
      rw [← h1, hy.mem_iff, h2]
      refine ⟨hpl b, fun j => ?_⟩
      obtain ⟨p, hp, e⟩ := hB.has b j
      have : p.1 ∈ kvs.map (·.1) := List.mem_map.mpr ⟨p, hp, rfl⟩
      rw [hps, e] at this
      obtain ⟨x, hx, e2⟩ := List.mem_map.mp this
      injection e2 with e2
      injection e2 with e2
      obtain rfl : x = b := by omega
      exact hx
    have hzl : zs.length ≤ 60 := by have := hy.length_eq; simp at this; omega
    rw [List.map_map]
    exact q zs _ hmem hzl

/-! ### spread -/
def Ext (S S1 : Store) : Prop := ∃ ex, S1 = S ++ ex
theorem Ext.rfl' {S : Store} : Ext S S := ⟨[], S.append_nil.symm⟩
theorem Ext.app {S S1 : Store} (h : Ext S S1) (ex : Store) : Ext S (S1 ++ ex) := by
  obtain ⟨e, rfl⟩ := h
  exact ⟨e ++ ex, List.append_assoc _ _ _⟩
theorem Ext.set {S S1 : Store} (h : Ext S S1) {n : Nat} (hn : S.length ≤ n) (o : SO) : Ext S (S1.set n o) := by
  obtain ⟨e, rfl⟩ := h
  exact ⟨e.set (n - S.length) o, List.set_append_right _ _ hn⟩
theorem app_get {S : Store} {i : Nat} {o : SO} (h : S[i]? = some o) (ex : Store) : (S ++ ex)[i]? = some o := by
  have : i < S.length := (List.getElem?_eq_some_iff.mp h).1
  rw [List.getElem?_append_left this]; exact h
def nI (xs : List Nat) : List D := xs.map fun y => .int (y : Nat)
theorem nI_is {xs : List Nat} : nI xs = (xs.map fun y => ((y : Nat) : Int)).map D.int := by unfold nI; rw [List.map_map]; rfl
theorem nI_len {xs : List Nat} : (nI xs).length = xs.length := by simp [nI]
theorem nI_flat {xs : List Nat} {k : Nat} : (nI xs).all (flat k) = true := List.all_eq_true.mpr fun z hz => by
  obtain ⟨j, _, rfl⟩ := List.mem_map.mp hz
  cases k <;> rfl
theorem any_nI {xs : List Nat} {i : Nat} : (nI xs).any (fun z => D.eqv z (.int (i : Nat))) = decide (i ∈ xs) := by
  rw [Bool.eq_iff_iff, List.any_eq_true, decide_eq_true_eq]
  constructor
  · rintro ⟨z, hz, e⟩
    obtain ⟨j, hj, rfl⟩ := List.mem_map.mp hz
    rw [eqv_int, decide_eq_true_eq] at e
    obtain rfl : j = i := by omega
    exact hj
  · intro h
    exact ⟨_, List.mem_map.mpr ⟨i, h, rfl⟩, by rw [eqv_int]; exact decide_eq_true rfl⟩
theorem c_ninN {n : Nat} {xs : List Nat} {i : Nat} {S : Store} {Q : MK} (hS : S[n]? = some (.lst (nI xs))) (q : Q (.bl (!decide (i ∈ xs))) S) : cop .NotIn (.int (i : Nat)) (.ref n) S Q := by
  show cIn true (.int (i : Nat)) (.ref n) S Q
  refine ⟨nI xs, seq_ref hS, flat_okD (k := 0) (by decide) rfl, flat_okD (k := 1) (by decide) nI_flat, ?_⟩
  simp only [res, if_true]
  rw [any_nI]; exact q
theorem c_inN {n : Nat} {xs : List Nat} {i : Nat} {S : Store} {Q : MK} (hS : S[n]? = some (.lst (nI xs))) (q : Q (.bl (decide (i ∈ xs))) S) : cop .In (.int (i : Nat)) (.ref n) S Q := by
  show cIn false (.int (i : Nat)) (.ref n) S Q
  refine ⟨nI xs, seq_ref hS, flat_okD (k := 0) (by decide) rfl, flat_okD (k := 1) (by decide) nI_flat, ?_⟩
  simp only [res, Bool.false_eq_true, if_false]
  rw [any_nI]; exact q
theorem c_ne0 {xs : List Nat} {S : Store} {Q : MK} (q : Q (.bl (!xs.isEmpty)) S) : cop .NotEq (.lst (nI xs)) (.lst []) S Q := by
  refine c_neF (k := 1) (by decide) nI_flat rfl fun b hb => ?_
  subst hb
  rw [eqv_nil]
  cases xs <;> exact q
theorem f_minN {m : Bool} {xs : List Nat} {S : Store} {Q : MK} (h : xs ≠ []) (q : ∀ b ∈ xs, (∀ b2 ∈ xs, b ≤ b2) → Q (.int (b : Nat)) S) : blt .min1 m [.lst (nI xs)] S Q := by
  rw [nI_is]
  refine f_minA (by simpa using h) fun b hb hle => ?_
  obtain ⟨c, hc, rfl⟩ := List.mem_map.mp hb
  exact q c hc fun d hd => by have := hle _ (List.mem_map.mpr ⟨d, hd, rfl⟩); omega
/-- a comprehension within one -/
theorem g_for {c : C} {env : DEnv} {S : Store} {t : MT} {own : List Nat} {it k r : ME} {acc : List D} {Q : List D → Store → Prop} (q : evI c (fun _ _ _ => False) it env S fun s S1 => ∃ xs, srcL S1 s = some xs ∧
    genL (fun x S2 acc2 Q2 => tgt t x (wipeD env own) S2 fun env2 => ev c (fun _ _ _ => False) k env2 S2 fun y S3 => tst S3 y fun p =>
      if p = true then evG c r env2 S3 acc2 fun acc3 S4 => srcL S4 s = some xs ∧ Q2 acc3 S4 else srcL S3 s = some xs ∧ Q2 acc2 S3) xs S1 acc Q) : evG c (.gfor t own it k r) env S acc Q := by rw [evG]; exact q
/-- a comprehension, item by item, what stands already too -/
theorem gen_acc {f : D → Store → List D → (List D → Store → Prop) → Prop} {S : Store} {Q : List D → Store → Prop} {acc0 : List D} (J : Nat → List D → Store → Prop) {xs : List D} (h0 : J 0 acc0 S)
    (H : ∀ k (hk : k < xs.length) acc S1 Q2, J k acc S1 → (∀ acc' S2, J (k + 1) acc' S2 → Q2 acc' S2) → f xs[k] S1 acc Q2) (H0 : ∀ acc S1, J xs.length acc S1 → Q acc S1) : genL f xs S acc0 Q := by
  have go : ∀ (m i : Nat) (acc : List D) (S1 : Store), xs.length = i + m → J i acc S1 → genL f (xs.drop i) S1 acc Q := by
    intro m
    induction m with
    | zero =>
      intro i acc S1 hl hI
      rw [List.drop_eq_nil_of_le (by omega)]
      exact H0 acc S1 (by rw [hl]; exact hI)
    | succ m ih =>
      intro i acc S1 hl hI
      have hi : i < xs.length := by omega
      rw [List.drop_eq_getElem_cons hi]
      exact H i hi acc S1 _ hI fun acc' S2 h => ih (i + 1) acc' S2 (by omega) h
  have := go xs.length 0 acc0 S (by omega) h0
  simpa using this
def Clo (ds : List Dr) (ks : List Nat) (st : Nat) (C : Nat → Nat → Prop) : Prop := C st (ka ks st) ∧ ∀ a h b, C a h → adj ds h a b → C b (h ||| ka ks b)
structure Sp (ds : List Dr) (ks : List Nat) (st m : Nat) (order : List Nat) (held : Nat) : Prop where
  lt : ∀ c ∈ order, c < m
  nod : order.Nodup
  hl : held < 256
  J : ∀ P : Nat → Prop, (∀ a b, P a → adj ds held a b → P b) → ∀ c1 ∈ order, ∀ c2 ∈ order, P c1 → P c2
  G : ∀ C, Clo ds ks st C → ∀ c ∈ order, ∃ h, sub held h ∧ C c h
theorem Sp.start {ds : List Dr} {ks : List Nat} {st m : Nat} (hs : st < m) (hk : ks.length ≤ 8) : Sp ds ks st m [st] (ka ks st) := by
  refine ⟨fun c hc => by rw [List.mem_singleton.mp hc]; exact hs, by simp, ka_lt hk, fun P _ c1 h1 c2 h2 p => ?_, fun C hC c hc => ?_⟩
  · rw [List.mem_singleton.mp h1] at p
    rw [List.mem_singleton.mp h2]; exact p
  · rw [List.mem_singleton.mp hc]
    exact ⟨_, fun _ e => e, hC.1⟩
theorem Sp.step {ds : List Dr} {ks : List Nat} {st m x here : Nat} {order : List Nat} {held : Nat} (s : Sp ds ks st m order held) (hk : ks.length ≤ 8) (hx : x ∉ order) (hxm : x < m) (hh : here ∈ order) (ha : adj ds held here x) : Sp ds ks st m (order ++ [x]) (held ||| ka ks x) := by
  have hJ : ∀ P : Nat → Prop, (∀ a b, P a → adj ds (held ||| ka ks x) a b → P b) → ∀ c1 ∈ order ++ [x], ∀ c2 ∈ order ++ [x], P c1 → P c2 := by
    intro P hP c1 h1 c2 h2 p
    have hP1 : ∀ a b, P a → adj ds held a b → P b := fun a b pa j => hP a b pa (j.mono sub.left)
    have ph : P here := by
      rcases List.mem_append.mp h1 with h1 | h1
      · exact s.J P hP1 c1 h1 here hh p
      · rw [List.mem_singleton.mp h1] at p
        exact hP1 _ _ p ha.sym
    rcases List.mem_append.mp h2 with h2 | h2
    · exact s.J P hP1 here hh c2 h2 ph
    · rw [List.mem_singleton.mp h2]
      exact hP1 _ _ ph ha
  refine ⟨fun c hc => ?_, ?_, ?_, hJ, fun C hC => ?_⟩
  · rcases List.mem_append.mp hc with hc | hc
    · exact s.lt c hc
    · rw [List.mem_singleton.mp hc]; exact hxm
  · refine List.nodup_append.mpr ⟨s.nod, by simp, fun a h1 b h2 e => ?_⟩
    rw [List.mem_singleton.mp h2] at e
    exact hx (e ▸ h1)
  · exact Nat.or_lt_two_pow (n := 8) s.hl (ka_lt hk)
  · have hP : ∀ a b, (∃ h, sub (held ||| ka ks x) h ∧ C a h) → adj ds (held ||| ka ks x) a b → ∃ h, sub (held ||| ka ks x) h ∧ C b h := by
      rintro a b ⟨h, h1, h2⟩ j
      exact ⟨_, fun k e => sub.left k (h1 k e), hC.2 a h b h2 (j.mono h1)⟩
    obtain ⟨h, h1, h2⟩ := s.G C hC here hh
    have px : ∃ h, sub (held ||| ka ks x) h ∧ C x h := ⟨_, h1.or, hC.2 _ _ _ h2 (ha.mono h1)⟩
    intro c hc
    exact hJ _ hP x (by simp) c hc px
theorem nodup_len {xs : List Nat} {m : Nat} (h : xs.Nodup) (hl : ∀ x ∈ xs, x < m) : xs.length ≤ m := by
  have := L2.nat_nodup_len xs (List.range m) h fun z hz => List.mem_range.mpr (hl z hz)
  simpa using this
theorem spread_ok {n m st : Nat} {ds : List Dr} {ks : List Nat} {S : Store} {Q : MK} {E : Exc → Store → Prop} (hm : m ≤ 12) (hl : ds.length ≤ 60) (hg : ∀ p ∈ ds, GoodDr m ks.length p) (hk : ks.length ≤ 8) (hs : st < m)
    (q : ∀ (order : List Nat) (held i : Nat) (S1 : Store), Ext S S1 → S.length ≤ i → S1[i]? = some (.lst (nI order)) → Sp ds ks st m order held → Q (.tup [.ref i, .int (held : Nat)]) S1) :
    R (n + 2) 5 [.tup (ds.map drD), .tup (nI ks), .int (st : Nat)] S Q E := by
  refine run_of f_spread rfl rfl ?_
  unfold f_spread b_spread
  dsimp only
  repeat' walk_at "m2"
  refine keys_at_ok hk ?_
  repeat' walk_at "m2"
  refine whl_ex (fun j env S' => ∃ (order : List Nat) (held : Nat) (g : Bool) (e6 : Option D), Ext S S' ∧ S'[S.length]? = some (.lst (nI order)) ∧ Sp ds ks st m order held ∧ (g = true → m < order.length + j) ∧
    env = [some (.tup (ds.map drD)), some (.tup (nI ks)), some (.int (st : Nat)), some (.ref S.length), some (.int (held : Nat)), some (.bl g), e6, none, none])
    m ⟨[st], ka ks st, true, none, Ext.rfl'.app _, by simp [nI], Sp.start hs hk, fun _ => by simp, rfl⟩ (fun j env S' P hI hP => ?_)
  obtain ⟨order, held, g, e6, hE, hS, hSp, hj, rfl⟩ := hI
  repeat' walk_at "m2"
  have hol := nodup_len hSp.nod hSp.lt
  refine if_b (fun hgt => ?_) (fun hgt => ?_)
  · subst hgt
    have hj := hj rfl
    repeat' walk_at "m2"
    refine ⟨.live S.length, by simp [srcOf, hS], _, seq_ref hS, ?_⟩
    refine gen_acc (fun i acc S1 => ∃ as : List Nat, acc = nI as ∧ as.length ≤ i * 60 ∧ Ext S S1 ∧ S1[S.length]? = some (.lst (nI order)) ∧ ∀ a ∈ as, a ∉ order ∧ ∃ here ∈ order, adj ds held here a)
      ⟨[], rfl, by simp, hE, hS, fun a ha => absurd ha (by simp)⟩ (fun i hi acc S1 Q2 hJ h => ?_) (fun acc S1 hJ => ?_)
    · obtain ⟨as, rfl, hal, hE1, hS1, has⟩ := hJ
      have hi' : i < order.length := by rw [nI_len] at hi; exact hi
      have ei : (nI order)[i] = .int ((order[i] : Nat) : Int) := by simp [nI]
      rw [ei]
      have hmem := List.getElem_mem hi'
      generalize order[i] = here at hmem
      repeat' walk_at "m2"
      refine g_for ?_
      repeat' walk_at "m2"
      refine beside_ok hl hg fun ys ex hys hyl => ?_
      repeat' walk_at "m2"
      have hE2 := hE1.app ex
      have hS2 := app_get hS1 ex
      generalize S1 ++ ex = S2 at hE2 hS2
      refine gen_acc (fun l acc S1 => ∃ as : List Nat, acc = nI as ∧ as.length ≤ i * 60 + l ∧ S1 = S2 ∧ ∀ a ∈ as, a ∉ order ∧ ∃ here ∈ order, adj ds held here a)
        ⟨as, rfl, by omega, rfl, has⟩ (fun l hl2 acc S1 Q3 hJ h2 => ?_) (fun acc S1 hJ => ?_)
      · obtain ⟨as, rfl, hal, rfl, has⟩ := hJ
        have hl3 : l < ys.length := by rw [List.length_map] at hl2; exact hl2
        rw [List.getElem_map]
        have hadj := (hys _).mp (List.getElem_mem hl3)
        generalize ys[l] = y at hadj
        repeat' walk_at "m2"
        refine c_ninN hS2 ?_
        refine u_bl ?_
        refine if_nb (fun hin => ?_) (fun hin => ?_)
        · have hin := of_decide_eq_false hin
          repeat' walk_at "m2"
          refine ⟨by rw [nI_len, sizeLine_eq]; omega, rfl, h2 _ _ ⟨as ++ [y], by simp [nI], by rw [List.length_append]; simp; omega, rfl, fun a ha => ?_⟩⟩
          rcases List.mem_append.mp ha with ha | ha
          · exact has a ha
          · rw [List.mem_singleton.mp ha]
            exact ⟨hin, here, hmem, hadj⟩
        · exact ⟨rfl, h2 _ _ ⟨as, rfl, by omega, rfl, has⟩⟩
      · obtain ⟨as, rfl, hal, rfl, has⟩ := hJ
        rw [List.length_map] at hal
        exact ⟨seq_ref hS2, h _ _ ⟨as, rfl, by omega, hE2, hS2, has⟩⟩
    · obtain ⟨as, rfl, hal, hE1, hS1, has⟩ := hJ
      repeat' walk_at "m2"
      refine c_ne0 ?_
      repeat' walk_at "m2"
      cases as with
      | nil =>
        refine if_f0 rfl ?_
        repeat' walk_at "m2"
        exact hP (j - 1) _ _ (by omega) ⟨order, held, false, _, hE1, hS1, hSp, fun h => absurd h (by simp), rfl⟩
      | cons a0 as =>
        have hne : a0 :: as ≠ [] := by simp
        generalize a0 :: as = as at has hal hne
        have : as.isEmpty = false := by cases as <;> first | rfl | exact absurd rfl hne
        rw [this]
        refine if_t0 rfl ?_
        have hlen : (nI order).length < sizeLine := by rw [nI_len, sizeLine_eq]; omega
        repeat' walk_at "m2"
        refine f_minN hne fun b hb hbl => ?_
        repeat' walk_at "m2"
        refine app_ref hS1 hlen ?_
        have eo : nI order ++ [D.int ((b : Nat) : Int)] = nI (order ++ [b]) := by simp [nI]
        rw [eo]
        have hS2 : (S1.set S.length (.lst (nI (order ++ [b]))))[S.length]? = some (.lst (nI (order ++ [b]))) := List.getElem?_set_self (List.getElem?_eq_some_iff.mp hS1).1
        have hE2 := hE1.set (Nat.le_refl _) (.lst (nI (order ++ [b])))
        generalize S1.set S.length (.lst (nI (order ++ [b]))) = S2 at hS2 hE2
        repeat' walk_at "m2"
        refine f_minN hne fun b2 hb2 hbl2 => ?_
        obtain rfl : b2 = b := Nat.le_antisymm (hbl2 b hb) (hbl b2 hb2)
        repeat' walk_at "m2"
        refine keys_at_ok hk ?_
        repeat' walk_at "m2"
        obtain ⟨h1, here, h2, h3⟩ := has b2 hb
        refine hP (j - 1) _ _ (by omega) ⟨order ++ [b2], held ||| ka ks b2, true, _, hE2, hS2, hSp.step hk h1 (h3.lt hg).2 h2 h3, fun _ => by rw [List.length_append]; simp; omega, by rw [bOr_nat]; rfl⟩
  · subst hgt
    repeat' walk_at "m2"
    exact q order held S.length _ hE (Nat.le_refl _) hS hSp

/-! ### what the searches tell -/
theorem fw_ne {g : Str} {ws : List Str} (h : g ≠ "") : firstW (g :: ws) = g := by
  unfold firstW
  have : (g == ("" : Str)) = false := by
    cases hb : g == ("" : Str) with
    | false => rfl
    | true => exact absurd (eq_of_beq hb) h
  rw [List.filter_cons_of_pos (by simp [this])]
  rfl
theorem fw_0 {ws : List Str} : firstW (("" : Str) :: ws) = firstW ws := by
  unfold firstW
  rw [List.filter_cons_of_neg (by simp)]
theorem step_w {g : Str} {e : Exc} (he : wordOf e = some g) : g ≠ "" := fun h => word_ne (h ▸ he)
def aW (c : Bool) (w : Str) : Str := if c = true then "" else ("argument " : Str) ++ w
theorem aW_t {c : Bool} {w : Str} (h : c = true) : aW c w = "" := if_pos h
theorem aW_f {c : Bool} {w : Str} (h : c = false) : aW c w = ("argument " : Str) ++ w := if_neg (by simp [h])
def wS (fi : Nat) (a c e s : D) : Str := firstW [dueK a c e, aW (whole 0 (fi - 1) s) "start"]
def wG (fi : Nat) (a c e s g : D) : Str := firstW [wS fi a c e s, aW (whole 0 (fi - 1) g) "goal"]
structure Cv (m : Nat) (ds : List Dr) (ks : List Nat) : Prop where
  m1 : 1 ≤ m
  m2 : m ≤ 12
  hl : ds.length ≤ 60
  hg : ∀ p ∈ ds, GoodDr m ks.length p
  hk : ks.length ≤ 8
  hkm : ∀ k ∈ ks, k < m
theorem two_ok {n B fi : Nat} {a c e s : D} {env : DEnv} {S : Store} {E : EK} {K : MKs} {rest : MS} (hB : B ≤ 1000) (va : Vl B a) (vc : Vl B c) (ve : Vl B e) (vs : Vl B s) (hf : dueK a c e = "" → a = .int (fi : Nat))
    (h0 : env[0]? = some (some a)) (h1 : env[1]? = some (some c)) (h2 : env[2]? = some (some e)) (h3 : env[3]? = some (some s))
    (hE : ∀ x, wordOf x = some (wS fi a c e s) → E x env S)
    (q : ∀ (ds : List Dr) (ks : List Nat) (st : Nat), a = .int (fi : Nat) → c = .tup (ds.map drD) → e = .tup (nI ks) → s = .int (st : Nat) → Cv fi ds ks → st < fi → wS fi a c e s = "" → ex ⟨R (n + 2), none⟩ E rest env S K) :
    ex ⟨R (n + 2), none⟩ E (.cons (.exp (.call 1 [] (.cons (.var 0) (.cons (.var 1) (.cons (.var 2) .nil))))) (.cons (.exp (.call 2 [] (.cons (.var 0) (.cons (.var 3) (.cons (.con (.str "start")) .nil))))) rest)) env S K := by
  obtain ⟨nx, rt, bk, ct⟩ := K
  refine x_cons ?_
  refine x_exp ?_
  refine e_call0 ?_
  refine l_cons ?_
  refine e_var h0 ?_
  refine l_cons ?_
  refine e_var h1 ?_
  refine l_cons ?_
  refine e_var h2 ?_
  refine l_nil ?_
  refine check_doors_ok hB va vc ve (fun hz => ?_) (fun x he => hE x (by unfold wS; rw [fw_ne (step_w he)]; exact he))
  obtain ⟨m, ds, ks, rfl, rfl, rfl, m1, m2, hl, hg, hk, hkm⟩ := due_exK hz
  obtain rfl : m = fi := by have := hf hz; injection this; omega
  refine x_cons ?_
  refine x_exp ?_
  refine e_call0 ?_
  refine l_cons ?_
  refine e_var h0 ?_
  refine l_cons ?_
  refine e_var h3 ?_
  refine l_cons ?_
  refine e_con ?_
  refine l_nil ?_
  refine check_chamber_ok vs (fun h1 => ?_) (fun h1 => hE _ (by unfold wS; rw [hz, fw_0, aW_f h1, fw_ne (by decide +kernel)]; rfl))
  obtain ⟨b, rfl, b0, b1⟩ := whole_ex h1
  obtain ⟨b, rfl⟩ := Int.eq_ofNat_of_zero_le b0
  exact q ds ks b rfl rfl rfl rfl ⟨m1, m2, hl, hg, hk, hkm⟩ (by omega) (by unfold wS; rw [hz, fw_0, aW_t h1, fw_0]; rfl)
theorem three_ok {n B fi : Nat} {a c e s g : D} {env : DEnv} {S : Store} {E : EK} {K : MKs} {rest : MS} (hB : B ≤ 1000) (va : Vl B a) (vc : Vl B c) (ve : Vl B e) (vs : Vl B s) (vg : Vl B g) (hf : dueK a c e = "" → a = .int (fi : Nat))
    (h0 : env[0]? = some (some a)) (h1 : env[1]? = some (some c)) (h2 : env[2]? = some (some e)) (h3 : env[3]? = some (some s)) (h4 : env[4]? = some (some g))
    (hE : ∀ z x, wG fi a c e s g = z → z ≠ "" → wordOf x = some z → E x env S)
    (q : ∀ (ds : List Dr) (ks : List Nat) (st gl : Nat), a = .int (fi : Nat) → c = .tup (ds.map drD) → e = .tup (nI ks) → s = .int (st : Nat) → g = .int (gl : Nat) → Cv fi ds ks → st < fi → gl < fi → wG fi a c e s g = "" → ex ⟨R (n + 2), none⟩ E rest env S K) :
    ex ⟨R (n + 2), none⟩ E (.cons (.exp (.call 1 [] (.cons (.var 0) (.cons (.var 1) (.cons (.var 2) .nil))))) (.cons (.exp (.call 2 [] (.cons (.var 0) (.cons (.var 3) (.cons (.con (.str "start")) .nil))))) (.cons (.exp (.call 2 [] (.cons (.var 0) (.cons (.var 4) (.cons (.con (.str "goal")) .nil))))) rest))) env S K := by
  refine two_ok (fi := fi) hB va vc ve vs hf h0 h1 h2 h3 (fun x he => hE _ x rfl (by unfold wG; rw [fw_ne (step_w he)]; exact step_w he) (by unfold wG; rw [fw_ne (step_w he)]; exact he)) fun ds ks st ea ec ee es hc hst hw => ?_
  subst ea
  obtain ⟨nx, rt, bk, ct⟩ := K
  refine x_cons ?_
  refine x_exp ?_
  refine e_call0 ?_
  refine l_cons ?_
  refine e_var h0 ?_
  refine l_cons ?_
  refine e_var h4 ?_
  refine l_cons ?_
  refine e_con ?_
  refine l_nil ?_
  refine check_chamber_ok vg (fun h1 => ?_) (fun h1 => hE _ _ rfl (by unfold wG; rw [hw, fw_0, aW_f h1, fw_ne (by decide +kernel)]; decide +kernel) (by unfold wG; rw [hw, fw_0, aW_f h1, fw_ne (by decide +kernel)]; rfl))
  obtain ⟨b, rfl, b0, b1⟩ := whole_ex h1
  obtain ⟨b, rfl⟩ := Int.eq_ofNat_of_zero_le b0
  exact q ds ks st b rfl ec ee es rfl hc hst (by omega) (by unfold wG; rw [hw, fw_0, aW_t h1, fw_0]; rfl)
theorem reached_says {n B fi : Nat} {a c e s : D} (hB : B ≤ 1000) (va : Vl B a) (vc : Vl B c) (ve : Vl B e) (vs : Vl B s) (hf : dueK a c e = "" → a = .int (fi : Nat)) : Says (n + 6) 6 [a, c, e, s] (wS fi a c e s) := by
  intro S Q E h0 hE
  refine run_of f_reached_chambers rfl rfl ?_
  unfold f_reached_chambers b_reached_chambers
  dsimp only
  refine two_ok (fi := fi) hB va vc ve vs hf rfl rfl rfl rfl (fun x hx => no_word hE hx) fun ds ks st ea ec ee es hc hst hw => ?_
  subst ea ec ee es
  have hq := h0 hw
  repeat' walk_at "m2"
  refine spread_ok hc.m2 hc.hl hc.hg hc.hk hst fun order held i S1 ⟨ex, hE1⟩ _ hS1 _ => ?_
  repeat' walk_at "m2"
  refine f_tupR hS1 ?_
  subst hE1
  exact hq _ _
/-- the keys held, told -/
theorem had_ok {c : C} {E : EK} {i : Nat} {h k : Nat} {env : DEnv} {S : Store} {Q : MK} {bound : ME} (hk : k ≤ 8) (hb : ∀ Q' : MK, Q' (.int (k : Nat)) S → ev c E bound env S Q') (v : Nat) (hv : v < env.length) (hv2 : v ≠ i)
    (hi : env[i]? = some (some (.int (h : Nat)))) (q : ∀ zs : List Nat, Q (.tup (nI zs)) S) :
    ev c E (.blt .tuple false (.cons (.lc false [v] (.nm v) (.rng (.con (.int 0)) bound) (.bin .BitAnd false (.bin .RShift false (.var i) (.var v)) (.con (.int 1))) (.gend (.var v))) .nil)) env S Q := by
  refine e_blt ?_
  refine l_cons ?_
  refine e_lc ?_
  refine v_rng ?_
  refine e_con ?_
  refine hb _ ?_
  refine ⟨0, k, rfl, rfl, by unfold rOk; omega, by unfold rOk; omega, _, rfl, ?_⟩
  have hv1 : v < (env.set v none).length := by rw [List.length_set]; exact hv
  refine gen_acc (fun l acc S1 => S1 = S ∧ ∃ zs : List Nat, acc = nI zs ∧ zs.length ≤ l) ⟨rfl, [], rfl, Nat.le_refl _⟩ (fun l hl acc S1 Q2 hJ h2 => ?_) (fun acc S1 hJ => ?_)
  · obtain ⟨rfl, zs, rfl, hzl⟩ := hJ
    have hlen : (rngL 0 ((k : Nat) : Int)).length = k := by simp [rngL]
    have el : (rngL 0 ((k : Nat) : Int))[l] = .int (l : Nat) := by simp [rngL]
    rw [hlen] at hl
    rw [el]
    show tgt (.nm v) _ (env.set v none) _ _
    refine t_nm ?_
    have hvv : ((env.set v none).set v (some (D.int (l : Nat))))[v]? = some (some (.int (l : Nat))) := List.getElem?_set_self hv1
    refine e_bin ?_
    refine e_bin ?_
    refine e_var (by rw [List.getElem?_set_ne hv2, List.getElem?_set_ne hv2]; exact hi) ?_
    refine e_var hvv ?_
    refine b_shr (by omega) ?_
    refine e_con ?_
    refine b_and ?_
    rw [bit_is]
    cases hz : h.testBit l with
    | true =>
      refine u_int ?_
      refine if_t0 rfl ?_
      refine g_end ?_
      refine e_var hvv ?_
      exact ⟨by rw [nI_len, sizeLine_eq]; omega, rfl, h2 _ _ ⟨rfl, zs ++ [l], by simp [nI], by rw [List.length_append]; simp; omega⟩⟩
    | false =>
      refine u_int ?_
      refine if_f0 rfl ?_
      exact ⟨rfl, h2 _ _ ⟨rfl, zs, rfl, by omega⟩⟩
  · obtain ⟨rfl, zs, rfl, hzl⟩ := hJ
    repeat' walk_at "m2"
    exact q zs
theorem keys_had_says {n B fi : Nat} {a c e s : D} (hB : B ≤ 1000) (va : Vl B a) (vc : Vl B c) (ve : Vl B e) (vs : Vl B s) (hf : dueK a c e = "" → a = .int (fi : Nat)) : Says (n + 6) 7 [a, c, e, s] (wS fi a c e s) := by
  intro S Q E h0 hE
  refine run_of f_keys_had rfl rfl ?_
  unfold f_keys_had b_keys_had
  dsimp only
  refine two_ok (fi := fi) hB va vc ve vs hf rfl rfl rfl rfl (fun x hx => no_word hE hx) fun ds ks st ea ec ee es hc hst hw => ?_
  subst ea ec ee es
  have hq := h0 hw
  repeat' walk_at "m2"
  refine spread_ok hc.m2 hc.hl hc.hg hc.hk hst fun order held i S1 ⟨ex, hE1⟩ _ hS1 _ => ?_
  have hlk : ∀ Q' : MK, Q' (.int (ks.length : Nat)) S1 → ev ⟨R (n + 5), none⟩ (fun e _ S1 => E e S1) (.blt .len false (.cons (.var 2) .nil)) [some (.int (fi : Nat)), some (.tup (ds.map drD)), some (.tup (nI ks)), some (.int (st : Nat)), some (.int (held : Nat)), none] S1 Q' := fun Q' q' => by
    repeat' walk_at "m2"
    rw [nI_len]; exact q'
  refine e_con ?_
  refine i_at rfl ?_
  refine t_nm ?_
  refine x_cons ?_
  refine x_ret ?_
  refine had_ok hc.hk hlk 5 (Nat.le_of_ble_eq_true rfl) (by decide) rfl fun zs => ?_
  subst hE1
  exact hq _ _
theorem shut_says {n B fi : Nat} {a c e s : D} (hB : B ≤ 1000) (va : Vl B a) (vc : Vl B c) (ve : Vl B e) (vs : Vl B s) (hf : dueK a c e = "" → a = .int (fi : Nat)) : Says (n + 6) 8 [a, c, e, s] (wS fi a c e s) := by
  intro S Q E h0 hE
  refine run_of f_shut_doors rfl rfl ?_
  unfold f_shut_doors b_shut_doors
  dsimp only
  refine two_ok (fi := fi) hB va vc ve vs hf rfl rfl rfl rfl (fun x hx => no_word hE hx) fun ds ks st ea ec ee es hc hst hw => ?_
  subst ea ec ee es
  have hq := h0 hw
  repeat' walk_at "m2"
  refine spread_ok hc.m2 hc.hl hc.hg hc.hk hst fun order held i S1 hE1 hi hS1 _ => ?_
  repeat' walk_at "m2"
  have hS2 := app_get hS1 [SO.lst []]
  have hE2 := hE1.app [SO.lst []]
  have hlen : S.length ≤ S1.length := by obtain ⟨ex, rfl⟩ := hE1; simp
  have hi1 : i ≠ S1.length := Nat.ne_of_lt (List.getElem?_eq_some_iff.mp hS1).1
  have hj : (S1 ++ [SO.lst []])[S1.length]? = some (.lst (nI [])) := by simp [nI]
  generalize S1 ++ [SO.lst []] = S2 at hS2 hE2 hj
  generalize S1.length = j at hi1 hj hlen
  refine for_ix (fun k env S' => ∃ (zs : List Nat) (e7 e8 e9 e10 : Option D), Ext S S' ∧ S'[i]? = some (.lst (nI order)) ∧ S'[j]? = some (.lst (nI zs)) ∧ zs.length ≤ k ∧
    env = [some (.int (fi : Nat)), some (.tup (ds.map drD)), some (.tup (nI ks)), some (.int (st : Nat)), some (.ref i), some (.int (held : Nat)), some (.ref j), e7, e8, e9, e10])
    ⟨[], none, none, none, none, hE2, hS2, hj, Nat.le_refl _, rfl⟩ (fun k hk env S' P hI hP => ?_) (fun env S' hI => ?_)
  · obtain ⟨zs, e7, e8, e9, e10, hE3, hS3, hj3, hzl, rfl⟩ := hI
    have hk' : k < ds.length := by rw [pairs_len, List.length_map] at hk; exact hk
    have ep : (pairs 0 (ds.map drD))[k] = .tup [.int (k : Nat), drD ds[k]] := by rw [pairs_at, List.getElem_map]
    rw [ep]
    obtain ⟨g1, g2, g3, g4⟩ := hc.hg _ (List.getElem_mem hk')
    have hdl := hc.hl
    have go : ∀ e7 e8 e9 e10, P [some (.int (fi : Nat)), some (.tup (ds.map drD)), some (.tup (nI ks)), some (.int (st : Nat)), some (.ref i), some (.int (held : Nat)), some (.ref j), e7, e8, e9, e10] S' :=
      fun e7 e8 e9 e10 => hP _ _ ⟨zs, e7, e8, e9, e10, hE3, hS3, hj3, by omega, rfl⟩
    have put : ∀ e8 e9 e10, ∀ (bk ct : DEnv → Store → Prop) (rt : MK) (c0 : C) (E0 : EK), ex c0 E0 (.cons (.exp (.mth .append (.var 6) (.cons (.var 7) .nil))) .nil)
        [some (.int (fi : Nat)), some (.tup (ds.map drD)), some (.tup (nI ks)), some (.int (st : Nat)), some (.ref i), some (.int (held : Nat)), some (.ref j), some (.int (k : Nat)), e8, e9, e10] S' ⟨P, rt, bk, ct⟩ := by
      intro e8 e9 e10 bk ct rt c0 E0
      have hsz : (nI zs).length < sizeLine := by rw [nI_len, sizeLine_eq]; omega
      have hjl : j < S'.length := (List.getElem?_eq_some_iff.mp hj3).1
      repeat' walk_at "m2"
      refine app_ref hj3 hsz ?_
      repeat' walk_at "m2"
      exact hP _ _ ⟨zs ++ [k], _, _, _, _, hE3.set hlen _, by rw [List.getElem?_set_ne (Ne.symm hi1)]; exact hS3, by rw [List.getElem?_set_self hjl]; simp [nI], by rw [List.length_append]; simp; omega, rfl⟩
    clear hP
    generalize ds[k] = p at g1 g2 g3 g4
    obtain ⟨p1, p2, o⟩ := p
    unfold drD
    dsimp only
    repeat' walk_at "m2"
    refine c_ninN hS3 ?_
    refine u_bl ?_
    refine if_nb (fun h1 => ?_) (fun h1 => ?_)
    · rw [h1]
      refine u_bl ?_
      refine if_tt ?_
      exact put _ _ _ _ _ _ _ _
    · repeat' walk_at "m2"
      refine c_ninN hS3 ?_
      refine u_bl ?_
      refine if_nb (fun h2 => ?_) (fun h2 => ?_)
      · rw [h2]
        refine u_bl ?_
        refine if_tt ?_
        exact put _ _ _ _ _ _ _ _
      · cases o with
        | none =>
          show ev _ _ (.and (.isn true (.var 10)) _) [_, _, _, _, _, _, _, _, _, _, some .non] _ _
          refine e_and ?_
          refine e_isn ?_
          refine e_var rfl ?_
          refine u_bl ?_
          refine if_f0 rfl ?_
          refine u_bl ?_
          refine if_f0 rfl ?_
          refine x_nil ?_
          refine x_nil ?_
          exact go _ _ _ _
        | some z =>
          show ev _ _ (.and (.isn true (.var 10)) _) [_, _, _, _, _, _, _, _, _, _, some (.int (z : Nat))] _ _
          refine e_and ?_
          refine e_isn ?_
          refine e_var rfl ?_
          refine u_bl ?_
          refine if_t0 rfl ?_
          refine e_not ?_
          refine e_bin ?_
          refine e_bin ?_
          refine e_var rfl ?_
          refine e_var rfl ?_
          refine b_shr (by omega) ?_
          refine e_con ?_
          refine b_and ?_
          rw [bit_is]
          cases hz : held.testBit z with
          | true =>
            refine u_int ?_
            refine u_bl ?_
            refine if_f0 rfl ?_
            refine x_nil ?_
            refine x_nil ?_
            exact go _ _ _ _
          | false =>
            refine u_int ?_
            refine u_bl ?_
            refine if_t0 rfl ?_
            exact put _ _ _ _ _ _ _ _
  · obtain ⟨zs, e7, e8, e9, e10, ⟨ex, rfl⟩, hS3, hj3, hzl, rfl⟩ := hI
    repeat' walk_at "m2"
    refine f_tupR hj3 ?_
    exact hq _ _

end Lw37

set_option maxHeartbeats 2000000
namespace Lw37
open PySem PySem.Spec Mp L2
local macro_rules | `(tactic| walk_at "m1") => `(tactic| first
  | with_reducible refine e_var rfl ?_ | with_reducible refine e_con ?_ | with_reducible refine e_bin ?_ | with_reducible refine e_neg ?_ | with_reducible refine e_not ?_ | with_reducible refine e_cmp ?_ | with_reducible refine e_ch2 ?_ | with_reducible refine e_ch3 ?_ | with_reducible refine e_isn ?_ | with_reducible refine e_and ?_ | with_reducible refine e_or ?_ | with_reducible refine e_ite ?_
  | with_reducible refine e_tup ?_ | with_reducible refine e_lst ?_ | with_reducible refine e_callv1 rfl ?_ | with_reducible refine e_call0 ?_ | with_reducible refine e_call1 ?_ | with_reducible refine e_blt ?_ | with_reducible refine e_isi ?_ | with_reducible refine e_lrng ?_ | with_reducible refine e_mth ?_ | with_reducible refine e_idx ?_ | with_reducible refine e_slc ?_ | with_reducible refine e_rev ?_ | with_reducible refine e_yes ?_
  | with_reducible refine l_nil ?_ | with_reducible refine l_cons ?_ | with_reducible refine o_abs ?_ | with_reducible refine o_some ?_
  | with_reducible refine x_nil ?_ | with_reducible refine x_cons ?_ | with_reducible refine x_exp ?_ | with_reducible refine x_set ?_ | with_reducible refine x_ite ?_ | with_reducible refine x_ret ?_ | with_reducible refine x_rse ?_ | with_reducible refine x_pss ?_ | with_reducible refine x_brk ?_ | with_reducible refine x_cnt ?_ | with_reducible refine x_retN ?_ | with_reducible refine x_sset ?_ | with_reducible refine x_tryw ?_
  | with_reducible refine x_for ?_ | with_reducible refine x_whl ?_ | with_reducible refine v_itr ?_ | with_reducible refine v_rng ?_ | with_reducible refine v_zip ?_ | with_reducible refine v_rngD ?_ | with_reducible refine v_enm ?_ | with_reducible refine n_tup ?_ | with_reducible refine n_lst ?_ | with_reducible refine z_tup ?_ | with_reducible refine z_tl ?_ | with_reducible refine z_lt ?_ | with_reducible refine z_ll ?_ | with_reducible refine e_lc ?_ | with_reducible refine e_sset ?_ | with_reducible refine g_end ?_ | with_reducible refine f_fix ?_
  | with_reducible refine t_nm ?_ | with_reducible refine t_tp ?_ | with_reducible refine t_nil ?_ | with_reducible refine t_cons ?_
  | with_reducible refine u_bl ?_ | with_reducible refine u_int ?_ | with_reducible refine u_non ?_ | with_reducible refine u_tupN ?_ | with_reducible refine u_tupC ?_ | with_reducible refine u_lstN ?_ | with_reducible refine u_lstC ?_ | with_reducible refine u_tup ?_ | with_reducible refine u_lst ?_
  | with_reducible refine if_tt ?_ | with_reducible refine if_ff ?_ | with_reducible refine if_nf ?_ | with_reducible refine if_nt ?_ | ((((((((((((((((((with_reducible refine if_dec (fun _ => ?_) (fun _ => ?_)) <;> try (exfalso; omega))) <;> try (exfalso; omega))) <;> try (exfalso; omega))) <;> try (exfalso; omega))) <;> try (exfalso; omega))) <;> try (exfalso; omega))) <;> try (exfalso; omega))) <;> try (exfalso; omega))) <;> try (exfalso; omega)) | ((((((((((((((((((with_reducible refine if_ndec (fun _ => ?_) (fun _ => ?_)) <;> try (exfalso; omega))) <;> try (exfalso; omega))) <;> try (exfalso; omega))) <;> try (exfalso; omega))) <;> try (exfalso; omega))) <;> try (exfalso; omega))) <;> try (exfalso; omega))) <;> try (exfalso; omega))) <;> try (exfalso; omega)) | ((((((((((((((((((with_reducible refine if_ne0 (fun _ => ?_) (fun _ => ?_)) <;> try (exfalso; omega))) <;> try (exfalso; omega))) <;> try (exfalso; omega))) <;> try (exfalso; omega))) <;> try (exfalso; omega))) <;> try (exfalso; omega))) <;> try (exfalso; omega))) <;> try (exfalso; omega))) <;> try (exfalso; omega))
  | with_reducible refine c_lt ?_ | with_reducible refine c_gt ?_ | with_reducible refine c_le ?_ | with_reducible refine c_ge ?_ | with_reducible refine c_eq ?_ | with_reducible refine c_ne ?_
  | with_reducible refine b_add ?_ | with_reducible refine b_sub ?_ | with_reducible refine f_lc1 ?_ | with_reducible refine f_lc2 ?_ | with_reducible refine f_lc3 ?_ | with_reducible refine f_lc4 ?_ | with_reducible refine f_lc5 ?_ | with_reducible refine f_lc6 ?_ | with_reducible refine f_lenT ?_ | with_reducible refine f_lenL ?_ | with_reducible refine f_int ?_ | with_reducible refine f_abs ?_
  | refine sz_ok rfl ?_ | ((with_reducible refine b_pow ?_ ?_); focus (exact ⟨by decide, by decide, by decide⟩)) | with_reducible refine d_tup ?_ | with_reducible refine d_rev ?_ | with_reducible refine m_f ?_ | with_reducible refine m_t ?_ | with_reducible refine ⟨_, rfl, ?_⟩)
local macro_rules | `(tactic| walk_at "m2") => `(tactic| first
  | walk_at "m1" | ((with_reducible refine if_nne0 (fun _ => ?_) (fun _ => ?_)) <;> try (exfalso; omega)) | with_reducible refine b_and ?_ | with_reducible refine b_or ?_ | with_reducible refine b_xor ?_ | with_reducible refine w_bits ?_ | with_reducible refine m_bits ?_ | with_reducible refine x_aug rfl ?_ | with_reducible refine g_add ?_ | with_reducible refine g_or ?_ | with_reducible refine g_xor ?_ | with_reducible refine isn_1 ?_ | with_reducible refine isn_2 ?_ | with_reducible refine isn_3 ?_ | with_reducible refine isn_4 ?_ | with_reducible refine isn_5 ?_ | with_reducible refine isn_6 ?_ | with_reducible refine isn_7 ?_ | with_reducible refine isn_8 ?_ | with_reducible refine isn_9 ?_ | with_reducible refine isn_10 ?_ | with_reducible refine c_eqS ?_ | with_reducible refine c_neS ?_ | with_reducible refine f_tupL ?_ | with_reducible refine w_and getE ?_ | with_reducible refine w_and mid_get ?_ | with_reducible refine w_and (by assumption) ?_ | with_reducible refine f_max2 ?_ | with_reducible refine f_min2 ?_ | with_reducible refine i_ref (by assumption) rfl ?_ | refine i_lst rfl ?_ | refine i_at rfl ?_ | with_reducible refine i_ref' (by assumption) rfl ?_ | ((refine s_rf (by first | assumption | exact List.getElem?_set_self (by assumption)) rfl ?_); try simp only [List.set_cons_succ, List.set_cons_zero, List.set_set])
  | ((with_reducible refine b_mul ?_ ?_); focus (exact mul_ok (by omega) (by omega))) | ((with_reducible refine b_div ?_ ?_); focus (exact div_ok (by omega) (by omega))) | ((with_reducible refine b_mod ?_ ?_); focus omega))

/-! ### walks from a chamber -/
theorem for_any {F : D → DEnv → Store → (DEnv → Store → Prop) → Prop} {nx : DEnv → Store → Prop} (I : Nat → DEnv → Store → Prop) {xs : List D} {env : DEnv} {S : Store} {s : Src} (hs : s = .fix xs ∨ ∃ n, s = .live n ∧ ∀ k env S, I k env S → S[n]? = some (.lst xs)) (h0 : I 0 env S)
    (H : ∀ k x, k < xs.length → x ∈ xs → ∀ env S P, I k env S → (∀ e s, I (k + 1) e s → P e s) → F x env S P) (H0 : ∀ env S, I xs.length env S → nx env S) : forS F nx env S s := by
  rcases hs with rfl | ⟨n, rfl, hn⟩
  · exact for_ix I h0 (fun k hk env S P hI hP => H k _ hk (List.getElem_mem hk) env S P hI hP) H0
  · exact fr_ok I h0 hn H H0
def k2 (x h : Nat) : List L2.Key := [.inl (x : Nat), .inl (h : Nat)]
theorem key2 {x v : Nat} : keyD true (k2 x v) = .tup [.int (x : Nat), .int (v : Nat)] := rfl
theorem dkey2 {x v : Nat} : dkey true (.tup [.int (x : Nat), .int (v : Nat)]) = some (k2 x v) := rfl
structure Wf (m : Nat) (kvs : KVs) : Prop where
  nod : (kvs.map (·.1)).Nodup
  pr : ∀ p ∈ kvs, ∃ (x h : Nat) (l : Int), p = (k2 x h, .int l) ∧ x < m ∧ h < 256
theorem Wf.few {m : Nat} {kvs : KVs} (w : Wf m kvs) (hm : m ≤ 12) : kvs.length ≤ 12 * 256 := by
  refine pair_few w.nod fun p hp => ?_
  obtain ⟨x, v, is, rfl, hx, hv⟩ := w.pr p hp
  exact ⟨x, v, rfl, by omega, by omega⟩
theorem Wf.val {m : Nat} {kvs : KVs} (h : Wf m kvs) {k : List L2.Key} {d : D} (hd : valD kvs k = some d) : ∃ l : Int, d = .int l := by
  obtain ⟨x, v, l, e, _, _⟩ := h.pr _ (valD_mem hd)
  injection e with _ e
  exact ⟨l, e⟩
theorem Wf.put {m : Nat} {kvs : KVs} (h : Wf m kvs) {x v : Nat} {l : Int} (hx : x < m) (hv : v < 256) : Wf m (putD kvs (k2 x v) (.int l)) := by
  refine ⟨putD_nodup h.nod, fun p hp => ?_⟩
  rcases putD_mem hp with hp | rfl
  · exact h.pr p hp
  · exact ⟨x, v, l, rfl, hx, hv⟩
def Has (kvs : KVs) (q : Nat × Nat) : Prop := ∃ p ∈ kvs, p.1 = k2 q.1 q.2
theorem Has.put {kvs : KVs} {q : Nat × Nat} (h : Has kvs q) {k : List L2.Key} {d : D} : Has (putD kvs k d) q := by
  obtain ⟨p, hp, e⟩ := h
  obtain ⟨p2, hp2, e2⟩ := putD_keep (ks := k) (d := d) hp
  exact ⟨p2, hp2, e2.trans e⟩
theorem Has.val {m : Nat} {kvs : KVs} {x v : Nat} (h : Has kvs (x, v)) (w : Wf m kvs) : x < m ∧ v < 256 ∧ ∃ l : Int, valD kvs (k2 x v) = some (.int l) := by
  obtain ⟨p, hp, e⟩ := h
  obtain ⟨d, hd⟩ := valD_some hp
  rw [e] at hd
  obtain ⟨l, rfl⟩ := w.val hd
  obtain ⟨y, z, l2, rfl, hy, hz⟩ := w.pr p hp
  unfold k2 at e
  injection e with e1 e2
  injection e1 with e1
  injection e2 with e2
  injection e2 with e2
  have h1 : y = x := by omega
  have h2 : z = v := by omega
  subst h1 h2
  exact ⟨hy, hz, l, hd⟩
theorem put_new {kvs : KVs} {k : List L2.Key} {d : D} (h : valD kvs k = none) : (putD kvs k d).length = kvs.length + 1 := by
  have : (kvs.any fun p => decide (p.1 = k)) = false := by
    rw [List.any_eq_false]
    intro p hp e
    have e := of_decide_eq_true e
    subst e
    obtain ⟨d, hd⟩ := valD_some hp
    rw [h] at hd; cases hd
  unfold putD
  rw [if_neg (by rw [this]; simp)]
  simp
def nQ (qs : List (Nat × Nat)) : List D := qs.map fun p => .tup [.int (p.1 : Nat), .int (p.2 : Nat)]
theorem nQ_len {qs : List (Nat × Nat)} : (nQ qs).length = qs.length := by simp [nQ]
theorem nQ_app {qs : List (Nat × Nat)} {x v : Nat} : nQ qs ++ [.tup [.int (x : Nat), .int (v : Nat)]] = nQ (qs ++ [(x, v)]) := by simp [nQ]
def B9 : MS := (.cons (.for (.nm 9) (.itr (.call 3 [] (.cons (.var 0) (.cons (.var 7) (.cons (.var 8) .nil))))) (.cons (.set (.nm 10) (.tup (.cons (.var 9) (.cons (.bin .BitOr false (.var 8) (.call 4 [] (.cons (.var 1) (.cons (.var 9) .nil)))) .nil))))
  (.cons (.ite (.din true (.var 10) (.var 4)) (.cons (.dput (.var 4) (.var 10) (.bin .Add false (.dsub (.var 4) (.tup (.cons (.var 7) (.cons (.var 8) .nil)))) (.con (.int 1))))
  (.cons (.exp (.mth .append (.var 6) (.cons (.var 10) .nil)))
  .nil)) .nil)
  .nil))) .nil)
/-- what stands while the walks are made: the dict, the row of what was found last -/
structure Wst (m nd nj b : Nat) (qs : List (Nat × Nat)) (S0 S : Store) (kvs : KVs) (zs : List (Nat × Nat)) : Prop where
  ext : Ext S0 S
  hd : S[nd]? = some (.dct true none kvs)
  hj : S[nj]? = some (.lst (nQ zs))
  wf : Wf m kvs
  has : ∀ q ∈ qs, Has kvs q
  hz : ∀ q ∈ zs, Has kvs q
  cnt : kvs.length = b + zs.length
theorem row_ok {n m nd nj b x h : Nat} {ds : List Dr} {ks : List Nat} {S0 S : Store} {kvs : KVs} {qs zs : List (Nat × Nat)} {E : EK} {nx bk ct : DEnv → Store → Prop} {rt : MK} {e2 e3 e5 e9 e10 : Option D} (hm : m ≤ 12) (hl : ds.length ≤ 60) (hg : ∀ p ∈ ds, GoodDr m ks.length p) (hk : ks.length ≤ 8)
    (hdj : nd ≠ nj) (h0d : S0.length ≤ nd) (h0j : S0.length ≤ nj) (hq : (x, h) ∈ qs) (w : Wst m nd nj b qs S0 S kvs zs) (K : Store → Prop) (hK : K S) (hK2 : ∀ S o, K S → K (S.set nd o)) (hK3 : ∀ S o, K S → K (S.set nj o)) (hK4 : ∀ S ex, K S → K (S ++ ex))
    (q : ∀ kvs zs S1 e9 e10, Wst m nd nj b qs S0 S1 kvs zs → K S1 → nx [some (.tup (ds.map drD)), some (.tup (nI ks)), e2, e3, some (.ref nd), e5, some (.ref nj), some (.int (x : Nat)), some (.int (h : Nat)), e9, e10] S1) :
    ex ⟨R (n + 1), none⟩ E B9 [some (.tup (ds.map drD)), some (.tup (nI ks)), e2, e3, some (.ref nd), e5, some (.ref nj), some (.int (x : Nat)), some (.int (h : Nat)), e9, e10] S ⟨nx, rt, bk, ct⟩ := by
  unfold B9
  repeat' walk_at "m2"
  refine beside_ok hl hg fun ys ex hys hyl => ?_
  repeat' walk_at "m2"
  have w1 : Wst m nd nj b qs S0 (S ++ ex) kvs zs := ⟨w.ext.app ex, app_get w.hd ex, app_get w.hj ex, w.wf, w.has, w.hz, w.cnt⟩
  have hK1 := hK4 S ex hK
  clear hK w
  generalize S ++ ex = S at w1 hK1
  refine for_ix (fun l env S' => ∃ (kvs : KVs) (zs : List (Nat × Nat)) (e9 e10 : Option D), Wst m nd nj b qs S0 S' kvs zs ∧ K S' ∧ env = [some (.tup (ds.map drD)), some (.tup (nI ks)), e2, e3, some (.ref nd), e5, some (.ref nj), some (.int (x : Nat)), some (.int (h : Nat)), e9, e10])
    ⟨kvs, zs, e9, e10, w1, hK1, rfl⟩ (fun l hl2 env S' P hI hP => ?_) (fun env S' hI => ?_)
  · obtain ⟨kvs, zs, e9, e10, w, hK, rfl⟩ := hI
    have hl3 : l < ys.length := by rw [List.length_map] at hl2; exact hl2
    rw [List.getElem_map]
    have hadj := (hys _).mp (List.getElem_mem hl3)
    generalize ys[l] = y at hadj
    obtain ⟨hxm, hh, l1, hv1⟩ := (w.has _ hq).val w.wf
    have hym := (hadj.lt hg).2
    have hor : h ||| ka ks y < 256 := Nat.or_lt_two_pow (n := 8) hh (ka_lt hk)
    repeat' walk_at "m2"
    refine keys_at_ok hk ?_
    repeat' walk_at "m2"
    rw [bOr_nat]
    generalize h ||| ka ks y = v at hor
    repeat' walk_at "m2"
    refine e_din ?_
    repeat' walk_at "m2"
    refine ⟨nd, true, none, kvs, _, rfl, w.hd, dkey2, ?_⟩
    refine u_bl ?_
    refine if_b (fun hb => ?_) (fun hb => ?_)
    · have hnone : valD kvs (k2 y v) = none := by
        cases hv : valD kvs (k2 y v) with
        | none => rfl
        | some d => rw [hv] at hb; simp at hb
      have hwf2 := w.wf.put (l := l1 + 1) hym hor
      have hfew := hwf2.few hm
      rw [put_new hnone] at hfew
      have hdl : nd < S'.length := (List.getElem?_eq_some_iff.mp w.hd).1
      repeat' walk_at "m2"
      refine x_dput ?_
      repeat' walk_at "m2"
      refine e_dsub ?_
      repeat' walk_at "m2"
      refine ⟨nd, true, none, kvs, _, _, rfl, w.hd, dkey2, hv1, ?_⟩
      repeat' walk_at "m2"
      refine ⟨nd, true, kvs, _, rfl, w.hd, dkey2, by rw [sizeLine_eq]; omega, ?_⟩
      have hj2 : (S'.set nd (.dct true none (putD kvs (k2 y v) (.int (l1 + 1)))))[nj]? = some (.lst (nQ zs)) := by rw [List.getElem?_set_ne hdj]; exact w.hj
      have hsz : (nQ zs).length < sizeLine := by rw [nQ_len, sizeLine_eq]; have := w.cnt; omega
      repeat' walk_at "m2"
      refine app_ref hj2 hsz ?_
      repeat' walk_at "m2"
      have hjl : nj < (S'.set nd (.dct true none (putD kvs (k2 y v) (.int (l1 + 1))))).length := (List.getElem?_eq_some_iff.mp hj2).1
      refine hP _ _ ⟨_, zs ++ [(y, v)], _, _, ⟨(w.ext.set h0d _).set h0j _, ?_, ?_, hwf2, fun q hq => (w.has q hq).put, fun q hq => ?_, ?_⟩, hK3 _ _ (hK2 _ _ hK), rfl⟩
      · rw [List.getElem?_set_ne (Ne.symm hdj), List.getElem?_set_self hdl]
      · rw [List.getElem?_set_self hjl, nQ_app]
      · rcases List.mem_append.mp hq with hq | hq
        · exact (w.hz q hq).put
        · rw [List.mem_singleton.mp hq]
          exact putD_has
      · rw [put_new hnone, w.cnt, List.length_append]; rfl
    · repeat' walk_at "m2"
      exact hP _ _ ⟨kvs, zs, _, _, w, hK, rfl⟩
  · obtain ⟨kvs, zs, e9, e10, w, hK, rfl⟩ := hI
    repeat' walk_at "m2"
    exact q kvs zs _ _ _ w hK

end Lw37

set_option maxHeartbeats 2000000
namespace Lw37
open PySem PySem.Spec Mp L2
local macro_rules | `(tactic| walk_at "m1") => `(tactic| first
  | with_reducible refine e_var rfl ?_ | with_reducible refine e_con ?_ | with_reducible refine e_bin ?_ | with_reducible refine e_neg ?_ | with_reducible refine e_not ?_ | with_reducible refine e_cmp ?_ | with_reducible refine e_ch2 ?_ | with_reducible refine e_ch3 ?_ | with_reducible refine e_isn ?_ | with_reducible refine e_and ?_ | with_reducible refine e_or ?_ | with_reducible refine e_ite ?_
  | with_reducible refine e_tup ?_ | with_reducible refine e_lst ?_ | with_reducible refine e_callv1 rfl ?_ | with_reducible refine e_call0 ?_ | with_reducible refine e_call1 ?_ | with_reducible refine e_blt ?_ | with_reducible refine e_isi ?_ | with_reducible refine e_lrng ?_ | with_reducible refine e_mth ?_ | with_reducible refine e_idx ?_ | with_reducible refine e_slc ?_ | with_reducible refine e_rev ?_ | with_reducible refine e_yes ?_
  | with_reducible refine l_nil ?_ | with_reducible refine l_cons ?_ | with_reducible refine o_abs ?_ | with_reducible refine o_some ?_
  | with_reducible refine x_nil ?_ | with_reducible refine x_cons ?_ | with_reducible refine x_exp ?_ | with_reducible refine x_set ?_ | with_reducible refine x_ite ?_ | with_reducible refine x_ret ?_ | with_reducible refine x_rse ?_ | with_reducible refine x_pss ?_ | with_reducible refine x_brk ?_ | with_reducible refine x_cnt ?_ | with_reducible refine x_retN ?_ | with_reducible refine x_sset ?_ | with_reducible refine x_tryw ?_
  | with_reducible refine x_for ?_ | with_reducible refine x_whl ?_ | with_reducible refine v_itr ?_ | with_reducible refine v_rng ?_ | with_reducible refine v_zip ?_ | with_reducible refine v_rngD ?_ | with_reducible refine v_enm ?_ | with_reducible refine n_tup ?_ | with_reducible refine n_lst ?_ | with_reducible refine z_tup ?_ | with_reducible refine z_tl ?_ | with_reducible refine z_lt ?_ | with_reducible refine z_ll ?_ | with_reducible refine e_lc ?_ | with_reducible refine e_sset ?_ | with_reducible refine g_end ?_ | with_reducible refine f_fix ?_
  | with_reducible refine t_nm ?_ | with_reducible refine t_tp ?_ | with_reducible refine t_nil ?_ | with_reducible refine t_cons ?_
  | with_reducible refine u_bl ?_ | with_reducible refine u_int ?_ | with_reducible refine u_non ?_ | with_reducible refine u_tupN ?_ | with_reducible refine u_tupC ?_ | with_reducible refine u_lstN ?_ | with_reducible refine u_lstC ?_ | with_reducible refine u_tup ?_ | with_reducible refine u_lst ?_
  | with_reducible refine if_tt ?_ | with_reducible refine if_ff ?_ | with_reducible refine if_nf ?_ | with_reducible refine if_nt ?_ | ((((((((((((((((((with_reducible refine if_dec (fun _ => ?_) (fun _ => ?_)) <;> try (exfalso; omega))) <;> try (exfalso; omega))) <;> try (exfalso; omega))) <;> try (exfalso; omega))) <;> try (exfalso; omega))) <;> try (exfalso; omega))) <;> try (exfalso; omega))) <;> try (exfalso; omega))) <;> try (exfalso; omega)) | ((((((((((((((((((with_reducible refine if_ndec (fun _ => ?_) (fun _ => ?_)) <;> try (exfalso; omega))) <;> try (exfalso; omega))) <;> try (exfalso; omega))) <;> try (exfalso; omega))) <;> try (exfalso; omega))) <;> try (exfalso; omega))) <;> try (exfalso; omega))) <;> try (exfalso; omega))) <;> try (exfalso; omega)) | ((((((((((((((((((with_reducible refine if_ne0 (fun _ => ?_) (fun _ => ?_)) <;> try (exfalso; omega))) <;> try (exfalso; omega))) <;> try (exfalso; omega))) <;> try (exfalso; omega))) <;> try (exfalso; omega))) <;> try (exfalso; omega))) <;> try (exfalso; omega))) <;> try (exfalso; omega))) <;> try (exfalso; omega))
  | with_reducible refine c_lt ?_ | with_reducible refine c_gt ?_ | with_reducible refine c_le ?_ | with_reducible refine c_ge ?_ | with_reducible refine c_eq ?_ | with_reducible refine c_ne ?_
  | with_reducible refine b_add ?_ | with_reducible refine b_sub ?_ | with_reducible refine f_lc1 ?_ | with_reducible refine f_lc2 ?_ | with_reducible refine f_lc3 ?_ | with_reducible refine f_lc4 ?_ | with_reducible refine f_lc5 ?_ | with_reducible refine f_lc6 ?_ | with_reducible refine f_lenT ?_ | with_reducible refine f_lenL ?_ | with_reducible refine f_int ?_ | with_reducible refine f_abs ?_
  | refine sz_ok rfl ?_ | ((with_reducible refine b_pow ?_ ?_); focus (exact ⟨by decide, by decide, by decide⟩)) | with_reducible refine d_tup ?_ | with_reducible refine d_rev ?_ | with_reducible refine m_f ?_ | with_reducible refine m_t ?_ | with_reducible refine ⟨_, rfl, ?_⟩)
local macro_rules | `(tactic| walk_at "m2") => `(tactic| first
  | walk_at "m1" | ((with_reducible refine if_nne0 (fun _ => ?_) (fun _ => ?_)) <;> try (exfalso; omega)) | with_reducible refine b_and ?_ | with_reducible refine b_or ?_ | with_reducible refine b_xor ?_ | with_reducible refine w_bits ?_ | with_reducible refine m_bits ?_ | with_reducible refine x_aug rfl ?_ | with_reducible refine g_add ?_ | with_reducible refine g_or ?_ | with_reducible refine g_xor ?_ | with_reducible refine isn_1 ?_ | with_reducible refine isn_2 ?_ | with_reducible refine isn_3 ?_ | with_reducible refine isn_4 ?_ | with_reducible refine isn_5 ?_ | with_reducible refine isn_6 ?_ | with_reducible refine isn_7 ?_ | with_reducible refine isn_8 ?_ | with_reducible refine isn_9 ?_ | with_reducible refine isn_10 ?_ | with_reducible refine c_eqS ?_ | with_reducible refine c_neS ?_ | with_reducible refine f_tupL ?_ | with_reducible refine w_and getE ?_ | with_reducible refine w_and mid_get ?_ | with_reducible refine w_and (by assumption) ?_ | with_reducible refine f_max2 ?_ | with_reducible refine f_min2 ?_ | with_reducible refine i_ref (by assumption) rfl ?_ | refine i_lst rfl ?_ | refine i_at rfl ?_ | with_reducible refine i_ref' (by assumption) rfl ?_ | ((refine s_rf (by first | assumption | exact List.getElem?_set_self (by assumption)) rfl ?_); try simp only [List.set_cons_succ, List.set_cons_zero, List.set_set])
  | ((with_reducible refine b_mul ?_ ?_); focus (exact mul_ok (by omega) (by omega))) | ((with_reducible refine b_div ?_ ?_); focus (exact div_ok (by omega) (by omega))) | ((with_reducible refine b_mod ?_ ?_); focus omega))

theorem walks_ok {n m st : Nat} {ds : List Dr} {ks : List Nat} {S : Store} {Q : MK} {E : Exc → Store → Prop} (hm : m ≤ 12) (hl : ds.length ≤ 60) (hg : ∀ p ∈ ds, GoodDr m ks.length p) (hk : ks.length ≤ 8) (hs : st < m)
    (q : ∀ (kvs : KVs) (i : Nat) (S1 : Store), Ext S S1 → S.length ≤ i → S1[i]? = some (.dct true none kvs) → Wf m kvs → Q (.ref i) S1) :
    R (n + 2) 9 [.tup (ds.map drD), .tup (nI ks), .int (st : Nat)] S Q E := by
  refine run_of f_walks_from rfl rfl ?_
  unfold f_walks_from b_walks_from
  dsimp only
  repeat' walk_at "m2"
  refine keys_at_ok hk ?_
  repeat' walk_at "m2"
  refine e_ddis ?_
  repeat' walk_at "m2"
  refine whl_ex (fun j env S' => ∃ (kvs : KVs) (qs : List (Nat × Nat)) (qd : D) (e6 e7 e8 e9 e10 : Option D), Ext S S' ∧ S'[S.length]? = some (.dct true none kvs) ∧ Wf m kvs ∧ (∀ q ∈ qs, Has kvs q) ∧ (qs ≠ [] → 12 * 256 < kvs.length + j) ∧
    (qd = .lst (nQ qs) ∨ ∃ i, qd = .ref i ∧ S'[i]? = some (.lst (nQ qs)) ∧ i ≠ S.length) ∧
    env = [some (.tup (ds.map drD)), some (.tup (nI ks)), some (.int (st : Nat)), some (.tup [.int (st : Nat), .int (ka ks st : Nat)]), some (.ref S.length), some qd, e6, e7, e8, e9, e10])
    (12 * 256) ⟨[(k2 st (ka ks st), .int 0)], [(st, ka ks st)], _, none, none, none, none, none, Ext.rfl'.app _, by simp [k2], ⟨by simp, fun p hp => by rw [List.mem_singleton.mp hp]; exact ⟨st, ka ks st, 0, rfl, hs, ka_lt hk⟩⟩,
      fun q hq => by rw [List.mem_singleton.mp hq]; exact ⟨_, List.mem_singleton.mpr rfl, rfl⟩, fun _ => by simp, .inl rfl, rfl⟩ (fun j env S' P hI hP => ?_)
  obtain ⟨kvs, qs, qd, e6, e7, e8, e9, e10, hE, hd, hw, hqs, hj, hqd, rfl⟩ := hI
  repeat' walk_at "m2"
  have hdl : S.length < S'.length := (List.getElem?_eq_some_iff.mp hd).1
  cases qs with
  | nil =>
    have ht : ∀ P : Bool → Prop, P false → tst S' qd P := fun P p => by
      rcases hqd with rfl | ⟨i, rfl, hi, _⟩
      · exact ⟨false, rfl, p⟩
      · exact u_ref hi p
    refine ht _ ?_
    refine if_f0 rfl ?_
    repeat' walk_at "m2"
    exact q kvs _ _ hE (Nat.le_refl _) hd hw
  | cons q0 qs =>
    have hj := hj (by simp)
    have hne : q0 :: qs ≠ [] := by simp
    have ht : ∀ P : Bool → Prop, P true → tst S' qd P := fun P p => by
      rcases hqd with rfl | ⟨i, rfl, hi, _⟩
      · exact ⟨true, rfl, p⟩
      · exact u_ref hi p
    refine ht _ ?_
    clear ht
    generalize q0 :: qs = qs at hqs hne hqd
    refine if_t0 rfl ?_
    have hfew := hw.few hm
    refine x_cons ?_
    refine x_set ?_
    refine e_lst ?_
    refine l_nil ?_
    refine ⟨by rw [sizeLine_eq]; simp, ?_⟩
    show tgt _ (.ref S'.length) _ (S' ++ [SO.lst []]) _
    refine t_nm ?_
    have hj6 : (S' ++ [SO.lst []])[S'.length]? = some (.lst (nQ [])) := by simp [nQ]
    have hd := app_get hd [SO.lst []]
    have hE := hE.app [SO.lst []]
    have hqd : qd = .lst (nQ qs) ∨ ∃ i, qd = .ref i ∧ (S' ++ [SO.lst []])[i]? = some (.lst (nQ qs)) ∧ i ≠ S.length ∧ i ≠ S'.length := by
      rcases hqd with rfl | ⟨i, rfl, hi, hne⟩
      · exact .inl rfl
      · exact .inr ⟨i, rfl, app_get hi _, hne, Nat.ne_of_lt (List.getElem?_eq_some_iff.mp hi).1⟩
    have h6 : S.length ≠ S'.length := Nat.ne_of_lt hdl
    have h6l : S.length ≤ S'.length := Nat.le_of_lt hdl
    generalize S' ++ [SO.lst []] = S1 at hj6 hd hE hqd
    generalize S'.length = j6 at hj6 h6 h6l hqd
    refine x_cons ?_
    refine x_for ?_
    refine v_itr ?_
    refine e_var rfl ?_
    obtain ⟨s, hs1, hs2⟩ : ∃ s, srcOf S1 qd = some s ∧ (s = .fix (nQ qs) ∨ ∃ n, s = .live n ∧ S1[n]? = some (.lst (nQ qs)) ∧ n ≠ S.length ∧ n ≠ j6) := by
      rcases hqd with rfl | ⟨i, rfl, hi, h1, h2⟩
      · exact ⟨_, rfl, .inl rfl⟩
      · exact ⟨.live i, by simp [srcOf, hi], .inr ⟨i, rfl, hi, h1, h2⟩⟩
    refine ⟨s, hs1, ?_⟩
    clear hs1 hqd
    obtain ⟨K, hK, hK2, hK3, hK4, hsrc⟩ : ∃ K : Store → Prop, K S1 ∧ (∀ S2 o, K S2 → K (S2.set S.length o)) ∧ (∀ S2 o, K S2 → K (S2.set j6 o)) ∧ (∀ S2 ex, K S2 → K (S2 ++ ex)) ∧ (s = .fix (nQ qs) ∨ ∃ n, s = .live n ∧ ∀ S2, K S2 → S2[n]? = some (.lst (nQ qs))) := by
      rcases hs2 with rfl | ⟨n, rfl, h1, h2, h3⟩
      · exact ⟨fun _ => True, trivial, fun _ _ _ => trivial, fun _ _ _ => trivial, fun _ _ _ => trivial, .inl rfl⟩
      · exact ⟨fun S2 => S2[n]? = some (.lst (nQ qs)), h1, fun S2 o h => (List.getElem?_set_ne (Ne.symm h2)).trans h, fun S2 o h => (List.getElem?_set_ne (Ne.symm h3)).trans h, fun S2 ex h => app_get h ex, .inr ⟨n, rfl, fun _ h => h⟩⟩
    refine for_any (fun l env S2 => ∃ (kv2 : KVs) (zs : List (Nat × Nat)) (e7 e8 e9 e10 : Option D), Wst m S.length j6 kvs.length qs S S2 kv2 zs ∧ K S2 ∧
      env = [some (.tup (ds.map drD)), some (.tup (nI ks)), some (.int (st : Nat)), some (.tup [.int (st : Nat), .int (ka ks st : Nat)]), some (.ref S.length), some qd, some (.ref j6), e7, e8, e9, e10])
      (hsrc.imp id fun ⟨n, e, h⟩ => ⟨n, e, fun k env S2 hI => by obtain ⟨_, _, _, _, _, _, _, hK, _⟩ := hI; exact h _ hK⟩)
      ⟨kvs, [], e7, e8, e9, e10, ⟨hE, hd, hj6, hw, hqs, fun q hq => absurd hq (by simp), by simp⟩, hK, rfl⟩ (fun l x hl2 hx env S2 P2 hI hP2 => ?_) (fun env S2 hI => ?_)
    · obtain ⟨kv2, zs, e7, e8, e9, e10, w, hK, rfl⟩ := hI
      obtain ⟨⟨x, h⟩, hq, rfl⟩ := List.mem_map.mp hx
      refine t_tp ?_
      refine t_cons ?_
      refine t_nm ?_
      refine t_cons ?_
      refine t_nm ?_
      refine t_nil ?_
      refine row_ok hm hl hg hk h6 (Nat.le_refl _) h6l hq w K hK hK2 hK3 hK4 fun kv3 zs2 S3 e9 e10 w2 hK5 => hP2 _ _ ⟨kv3, zs2, _, _, e9, e10, w2, hK5, rfl⟩
    · obtain ⟨kv2, zs, e7, e8, e9, e10, w, hK, rfl⟩ := hI
      repeat' walk_at "m2"
      refine hP (j - 1) _ _ (by omega) ⟨kv2, zs, _, _, e7, e8, e9, e10, w.ext, w.hd, w.wf, w.hz, fun hne => ?_, .inr ⟨j6, rfl, w.hj, Ne.symm h6⟩, rfl⟩
      have := w.cnt
      have : 0 < zs.length := List.length_pos_iff.mpr hne
      omega

end Lw37

set_option maxHeartbeats 2000000
namespace Lw37
open PySem PySem.Spec Mp L2
local macro_rules | `(tactic| walk_at "m1") => `(tactic| first
  | with_reducible refine e_var rfl ?_ | with_reducible refine e_con ?_ | with_reducible refine e_bin ?_ | with_reducible refine e_neg ?_ | with_reducible refine e_not ?_ | with_reducible refine e_cmp ?_ | with_reducible refine e_ch2 ?_ | with_reducible refine e_ch3 ?_ | with_reducible refine e_isn ?_ | with_reducible refine e_and ?_ | with_reducible refine e_or ?_ | with_reducible refine e_ite ?_
  | with_reducible refine e_tup ?_ | with_reducible refine e_lst ?_ | with_reducible refine e_callv1 rfl ?_ | with_reducible refine e_call0 ?_ | with_reducible refine e_call1 ?_ | with_reducible refine e_blt ?_ | with_reducible refine e_isi ?_ | with_reducible refine e_lrng ?_ | with_reducible refine e_mth ?_ | with_reducible refine e_idx ?_ | with_reducible refine e_slc ?_ | with_reducible refine e_rev ?_ | with_reducible refine e_yes ?_
  | with_reducible refine l_nil ?_ | with_reducible refine l_cons ?_ | with_reducible refine o_abs ?_ | with_reducible refine o_some ?_
  | with_reducible refine x_nil ?_ | with_reducible refine x_cons ?_ | with_reducible refine x_exp ?_ | with_reducible refine x_set ?_ | with_reducible refine x_ite ?_ | with_reducible refine x_ret ?_ | with_reducible refine x_rse ?_ | with_reducible refine x_pss ?_ | with_reducible refine x_brk ?_ | with_reducible refine x_cnt ?_ | with_reducible refine x_retN ?_ | with_reducible refine x_sset ?_ | with_reducible refine x_tryw ?_
  | with_reducible refine x_for ?_ | with_reducible refine x_whl ?_ | with_reducible refine v_itr ?_ | with_reducible refine v_rng ?_ | with_reducible refine v_zip ?_ | with_reducible refine v_rngD ?_ | with_reducible refine v_enm ?_ | with_reducible refine n_tup ?_ | with_reducible refine n_lst ?_ | with_reducible refine z_tup ?_ | with_reducible refine z_tl ?_ | with_reducible refine z_lt ?_ | with_reducible refine z_ll ?_ | with_reducible refine e_lc ?_ | with_reducible refine e_sset ?_ | with_reducible refine g_end ?_ | with_reducible refine f_fix ?_
  | with_reducible refine t_nm ?_ | with_reducible refine t_tp ?_ | with_reducible refine t_nil ?_ | with_reducible refine t_cons ?_
  | with_reducible refine u_bl ?_ | with_reducible refine u_int ?_ | with_reducible refine u_non ?_ | with_reducible refine u_tupN ?_ | with_reducible refine u_tupC ?_ | with_reducible refine u_lstN ?_ | with_reducible refine u_lstC ?_ | with_reducible refine u_tup ?_ | with_reducible refine u_lst ?_
  | with_reducible refine if_tt ?_ | with_reducible refine if_ff ?_ | with_reducible refine if_nf ?_ | with_reducible refine if_nt ?_ | ((((((((((((((((((with_reducible refine if_dec (fun _ => ?_) (fun _ => ?_)) <;> try (exfalso; omega))) <;> try (exfalso; omega))) <;> try (exfalso; omega))) <;> try (exfalso; omega))) <;> try (exfalso; omega))) <;> try (exfalso; omega))) <;> try (exfalso; omega))) <;> try (exfalso; omega))) <;> try (exfalso; omega)) | ((((((((((((((((((with_reducible refine if_ndec (fun _ => ?_) (fun _ => ?_)) <;> try (exfalso; omega))) <;> try (exfalso; omega))) <;> try (exfalso; omega))) <;> try (exfalso; omega))) <;> try (exfalso; omega))) <;> try (exfalso; omega))) <;> try (exfalso; omega))) <;> try (exfalso; omega))) <;> try (exfalso; omega)) | ((((((((((((((((((with_reducible refine if_ne0 (fun _ => ?_) (fun _ => ?_)) <;> try (exfalso; omega))) <;> try (exfalso; omega))) <;> try (exfalso; omega))) <;> try (exfalso; omega))) <;> try (exfalso; omega))) <;> try (exfalso; omega))) <;> try (exfalso; omega))) <;> try (exfalso; omega))) <;> try (exfalso; omega))
  | with_reducible refine c_lt ?_ | with_reducible refine c_gt ?_ | with_reducible refine c_le ?_ | with_reducible refine c_ge ?_ | with_reducible refine c_eq ?_ | with_reducible refine c_ne ?_
  | with_reducible refine b_add ?_ | with_reducible refine b_sub ?_ | with_reducible refine f_lc1 ?_ | with_reducible refine f_lc2 ?_ | with_reducible refine f_lc3 ?_ | with_reducible refine f_lc4 ?_ | with_reducible refine f_lc5 ?_ | with_reducible refine f_lc6 ?_ | with_reducible refine f_lenT ?_ | with_reducible refine f_lenL ?_ | with_reducible refine f_int ?_ | with_reducible refine f_abs ?_
  | refine sz_ok rfl ?_ | ((with_reducible refine b_pow ?_ ?_); focus (exact ⟨by decide, by decide, by decide⟩)) | with_reducible refine d_tup ?_ | with_reducible refine d_rev ?_ | with_reducible refine m_f ?_ | with_reducible refine m_t ?_ | with_reducible refine ⟨_, rfl, ?_⟩)
local macro_rules | `(tactic| walk_at "m2") => `(tactic| first
  | walk_at "m1" | ((with_reducible refine if_nne0 (fun _ => ?_) (fun _ => ?_)) <;> try (exfalso; omega)) | with_reducible refine b_and ?_ | with_reducible refine b_or ?_ | with_reducible refine b_xor ?_ | with_reducible refine w_bits ?_ | with_reducible refine m_bits ?_ | with_reducible refine x_aug rfl ?_ | with_reducible refine g_add ?_ | with_reducible refine g_or ?_ | with_reducible refine g_xor ?_ | with_reducible refine isn_1 ?_ | with_reducible refine isn_2 ?_ | with_reducible refine isn_3 ?_ | with_reducible refine isn_4 ?_ | with_reducible refine isn_5 ?_ | with_reducible refine isn_6 ?_ | with_reducible refine isn_7 ?_ | with_reducible refine isn_8 ?_ | with_reducible refine isn_9 ?_ | with_reducible refine isn_10 ?_ | with_reducible refine c_eqS ?_ | with_reducible refine c_neS ?_ | with_reducible refine f_tupL ?_ | with_reducible refine w_and getE ?_ | with_reducible refine w_and mid_get ?_ | with_reducible refine w_and (by assumption) ?_ | with_reducible refine f_max2 ?_ | with_reducible refine f_min2 ?_ | with_reducible refine i_ref (by assumption) rfl ?_ | refine i_lst rfl ?_ | refine i_at rfl ?_ | with_reducible refine i_ref' (by assumption) rfl ?_ | ((refine s_rf (by first | assumption | exact List.getElem?_set_self (by assumption)) rfl ?_); try simp only [List.set_cons_succ, List.set_cons_zero, List.set_set])
  | ((with_reducible refine b_mul ?_ ?_); focus (exact mul_ok (by omega) (by omega))) | ((with_reducible refine b_div ?_ ?_); focus (exact div_ok (by omega) (by omega))) | ((with_reducible refine b_mod ?_ ?_); focus omega))

def trip (z : D) : Prop := ∃ (i l : Int) (ks : List Nat), z = .tup [.int i, .tup (ks.map fun k => .int (k : Nat)), .int l]
theorem trip.okD {z : D} (h : trip z) : Mp.okD z := by
  obtain ⟨i, l, ks, rfl⟩ := h
  refine flat_okD (k := 2) (by decide) ?_
  have := flat_nats (k := 0) ks
  show ([D.int i, D.tup (ks.map fun k => D.int (k : Nat)), D.int l].all (flat 1)) = true
  simp only [List.all_cons, List.all_nil, this]
  rfl
theorem trip.al {x y : D} (h : trip x) (h2 : trip y) : PySem.W.alike x.toP y.toP = true := by
  obtain ⟨i, l, ks, rfl⟩ := h
  obtain ⟨j, l2, ls, rfl⟩ := h2
  simp only [D.toP, toPs]
  unfold PySem.W.alike PySem.W.alikeAll
  have := alike_ints ks ls
  simp only [PySem.W.alike, PySem.W.alikeAll, this]
  rfl
theorem f_sort3 {m : Bool} {n : Nat} {xs : List D} {S : Store} {Q : MK} (hS : S[n]? = some (.lst xs)) (h : ∀ z ∈ xs, trip z) (q : ∀ zs, mkL m zs S Q) : blt .sorted m [.ref n] S Q := by
  refine ⟨xs, seq_ref hS, .inr ⟨fun x hx => (h x hx).okD, fun x hx y hy => (h x hx).al (h y hy), .inl fun x hx => ?_⟩, q _⟩
  obtain ⟨i, l, ks, rfl⟩ := h x hx
  exact ⟨_, _, rfl⟩
theorem steps_table_says {n B fi : Nat} {a c e s : D} (hB : B ≤ 1000) (va : Vl B a) (vc : Vl B c) (ve : Vl B e) (vs : Vl B s) (hf : dueK a c e = "" → a = .int (fi : Nat)) : Says (n + 6) 15 [a, c, e, s] (wS fi a c e s) := by
  intro S Q E h0 hE
  refine run_of f_steps_table rfl rfl ?_
  unfold f_steps_table b_steps_table
  dsimp only
  refine two_ok (fi := fi) hB va vc ve vs hf rfl rfl rfl rfl (fun x hx => no_word hE hx) fun ds ks st ea ec ee es hc hst hw => ?_
  subst ea ec ee es
  have hq := h0 hw
  repeat' walk_at "m2"
  refine walks_ok hc.m2 hc.hl hc.hg hc.hk hst fun kvs d S1 hE1 hdl hd hWf => ?_
  have hfew := hWf.few hc.m2
  refine t_nm ?_
  refine x_cons ?_
  refine x_set ?_
  refine e_lst ?_
  refine l_nil ?_
  refine ⟨by rw [sizeLine_eq]; simp, ?_⟩
  show tgt _ (.ref S1.length) _ (S1 ++ [SO.lst []]) _
  refine t_nm ?_
  have hj : (S1 ++ [SO.lst []])[S1.length]? = some (.lst []) := by simp
  have hd1 := app_get hd [SO.lst []]
  have hE2 := hE1.app [SO.lst []]
  have hlen : S.length ≤ S1.length := by obtain ⟨ex, rfl⟩ := hE1; simp
  have hdj : d ≠ S1.length := Nat.ne_of_lt (List.getElem?_eq_some_iff.mp hd).1
  generalize S1 ++ [SO.lst []] = S2 at hj hd1 hE2
  generalize S1.length = j at hj hdj hlen
  clear hd hE1
  refine x_cons ?_
  refine x_lckS rfl hd1 fun u => ?_
  have hi : d < S2.length := (List.getElem?_eq_some_iff.mp hd1).1
  have hSl : (S2.set d (.dct true (some u) kvs))[d]? = some (.dct true (some u) kvs) := List.getElem?_set_self hi
  have hSj : (S2.set d (.dct true (some u) kvs))[j]? = some (.lst []) := by rw [List.getElem?_set_ne hdj]; exact hj
  have hE3 := hE2.set hdl (.dct true (some u) kvs)
  generalize S2.set d (.dct true (some u) kvs) = S3 at hSl hSj hE3
  clear hd1 hj hE2 hi
  refine x_for ?_
  refine v_keys ?_
  refine e_var rfl ?_
  refine ⟨d, true, u, kvs, rfl, hSl, _, src_keys_of hSl, ?_⟩
  refine for_ix (fun k env S' => ∃ (zs : List D) (e6 e7 e8 : Option D), Ext S S' ∧ S'[d]? = some (.dct true (some u) kvs) ∧ S'[j]? = some (.lst zs) ∧ zs.length ≤ k ∧ (∀ z ∈ zs, trip z) ∧
    env = [some (.int (fi : Nat)), some (.tup (ds.map drD)), some (.tup (nI ks)), some (.int (st : Nat)), some (.ref d), some (.ref j), e6, e7, e8])
    ⟨[], none, none, none, hE3, hSl, hSj, Nat.le_refl _, fun z hz => absurd hz (by simp), rfl⟩ (fun k hk env S' P hI hP => ?_) (fun env S' hI => ?_)
  · obtain ⟨zs, e6, e7, e8, hE4, hSl, hSj, hzl, hz, rfl⟩ := hI
    have hk : k < kvs.length := by rw [List.length_map] at hk; exact hk
    obtain ⟨x, v, l, ek, hx, hv⟩ := hWf.pr kvs[k] (List.getElem_mem hk)
    obtain ⟨dd, hdd⟩ := valD_some (List.getElem_mem hk)
    obtain ⟨l2, rfl⟩ := hWf.val hdd
    have ek1 : kvs[k].1 = k2 x v := by rw [ek]
    rw [ek1] at hdd
    rw [List.getElem_map, ek1, key2]
    have hsz : zs.length < sizeLine := by rw [sizeLine_eq]; omega
    have hjl : j < S'.length := (List.getElem?_eq_some_iff.mp hSj).1
    refine t_tp ?_
    refine t_cons ?_
    refine t_nm ?_
    refine t_cons ?_
    refine t_nm ?_
    refine t_nil ?_
    refine x_cons ?_
    refine x_exp ?_
    refine e_mth ?_
    refine e_var rfl ?_
    refine w_and hSj ?_
    refine l_cons ?_
    refine e_tup ?_
    refine l_cons ?_
    refine e_var rfl ?_
    refine l_cons ?_
    have hlk : ∀ Q' : MK, Q' (.int (ks.length : Nat)) S' → ev ⟨R (n + 5), none⟩ (fun e _ S1 => E e S1) (.blt .len false (.cons (.var 2) .nil)) [some (.int (fi : Nat)), some (.tup (ds.map drD)), some (.tup (nI ks)), some (.int (st : Nat)), some (.ref d), some (.ref j), some (.int (x : Nat)), some (.int (v : Nat)), e8] S' Q' := fun Q' q' => by
      repeat' walk_at "m2"
      rw [nI_len]; exact q'
    refine had_ok hc.hk hlk 8 (Nat.le_of_ble_eq_true rfl) (by decide) rfl fun hs => ?_
    refine l_cons ?_
    refine e_dsub ?_
    repeat' walk_at "m2"
    refine ⟨d, true, some u, kvs, _, _, rfl, hSl, dkey2, hdd, ?_⟩
    repeat' walk_at "m2"
    refine app_ref hSj hsz ?_
    repeat' walk_at "m2"
    have hSl2 : (S'.set j (.lst (zs ++ [.tup [.int (x : Nat), .tup (nI hs), .int l2]])))[d]? = some (.dct true (some u) kvs) := by rw [List.getElem?_set_ne (Ne.symm hdj)]; exact hSl
    refine ⟨src_keys_of hSl2, hP _ _ ⟨_, _, _, _, hE4.set hlen _, hSl2, List.getElem?_set_self hjl, by rw [List.length_append]; simp; omega, fun z hz2 => ?_, rfl⟩⟩
    rcases List.mem_append.mp hz2 with hz2 | hz2
    · exact hz z hz2
    · rw [List.mem_singleton.mp hz2]
      exact ⟨x, l2, hs, rfl⟩
  · obtain ⟨zs, e6, e7, e8, hE4, hSl, hSj, hzl, hz, rfl⟩ := hI
    refine ⟨hSl, ?_⟩
    have hSj2 : (S'.set d (.dct true none kvs))[j]? = some (.lst zs) := by rw [List.getElem?_set_ne hdj]; exact hSj
    obtain ⟨ex, hE5⟩ := hE4.set hdl (.dct true none kvs)
    generalize S'.set d (.dct true none kvs) = S5 at hSj2 hE5
    repeat' walk_at "m2"
    refine f_sort3 hSj2 hz fun zs => ?_
    repeat' walk_at "m2"
    subst hE5
    exact hq _ _

end Lw37

set_option maxHeartbeats 2000000
namespace Lw37
open PySem PySem.Spec Mp L2
local macro_rules | `(tactic| walk_at "m1") => `(tactic| first
  | with_reducible refine e_var rfl ?_ | with_reducible refine e_con ?_ | with_reducible refine e_bin ?_ | with_reducible refine e_neg ?_ | with_reducible refine e_not ?_ | with_reducible refine e_cmp ?_ | with_reducible refine e_ch2 ?_ | with_reducible refine e_ch3 ?_ | with_reducible refine e_isn ?_ | with_reducible refine e_and ?_ | with_reducible refine e_or ?_ | with_reducible refine e_ite ?_
  | with_reducible refine e_tup ?_ | with_reducible refine e_lst ?_ | with_reducible refine e_callv1 rfl ?_ | with_reducible refine e_call0 ?_ | with_reducible refine e_call1 ?_ | with_reducible refine e_blt ?_ | with_reducible refine e_isi ?_ | with_reducible refine e_lrng ?_ | with_reducible refine e_mth ?_ | with_reducible refine e_idx ?_ | with_reducible refine e_slc ?_ | with_reducible refine e_rev ?_ | with_reducible refine e_yes ?_
  | with_reducible refine l_nil ?_ | with_reducible refine l_cons ?_ | with_reducible refine o_abs ?_ | with_reducible refine o_some ?_
  | with_reducible refine x_nil ?_ | with_reducible refine x_cons ?_ | with_reducible refine x_exp ?_ | with_reducible refine x_set ?_ | with_reducible refine x_ite ?_ | with_reducible refine x_ret ?_ | with_reducible refine x_rse ?_ | with_reducible refine x_pss ?_ | with_reducible refine x_brk ?_ | with_reducible refine x_cnt ?_ | with_reducible refine x_retN ?_ | with_reducible refine x_sset ?_ | with_reducible refine x_tryw ?_
  | with_reducible refine x_for ?_ | with_reducible refine x_whl ?_ | with_reducible refine v_itr ?_ | with_reducible refine v_rng ?_ | with_reducible refine v_zip ?_ | with_reducible refine v_rngD ?_ | with_reducible refine v_enm ?_ | with_reducible refine n_tup ?_ | with_reducible refine n_lst ?_ | with_reducible refine z_tup ?_ | with_reducible refine z_tl ?_ | with_reducible refine z_lt ?_ | with_reducible refine z_ll ?_ | with_reducible refine e_lc ?_ | with_reducible refine e_sset ?_ | with_reducible refine g_end ?_ | with_reducible refine f_fix ?_
  | with_reducible refine t_nm ?_ | with_reducible refine t_tp ?_ | with_reducible refine t_nil ?_ | with_reducible refine t_cons ?_
  | with_reducible refine u_bl ?_ | with_reducible refine u_int ?_ | with_reducible refine u_non ?_ | with_reducible refine u_tupN ?_ | with_reducible refine u_tupC ?_ | with_reducible refine u_lstN ?_ | with_reducible refine u_lstC ?_ | with_reducible refine u_tup ?_ | with_reducible refine u_lst ?_
  | with_reducible refine if_tt ?_ | with_reducible refine if_ff ?_ | with_reducible refine if_nf ?_ | with_reducible refine if_nt ?_ | ((((((((((((((((((with_reducible refine if_dec (fun _ => ?_) (fun _ => ?_)) <;> try (exfalso; omega))) <;> try (exfalso; omega))) <;> try (exfalso; omega))) <;> try (exfalso; omega))) <;> try (exfalso; omega))) <;> try (exfalso; omega))) <;> try (exfalso; omega))) <;> try (exfalso; omega))) <;> try (exfalso; omega)) | ((((((((((((((((((with_reducible refine if_ndec (fun _ => ?_) (fun _ => ?_)) <;> try (exfalso; omega))) <;> try (exfalso; omega))) <;> try (exfalso; omega))) <;> try (exfalso; omega))) <;> try (exfalso; omega))) <;> try (exfalso; omega))) <;> try (exfalso; omega))) <;> try (exfalso; omega))) <;> try (exfalso; omega)) | ((((((((((((((((((with_reducible refine if_ne0 (fun _ => ?_) (fun _ => ?_)) <;> try (exfalso; omega))) <;> try (exfalso; omega))) <;> try (exfalso; omega))) <;> try (exfalso; omega))) <;> try (exfalso; omega))) <;> try (exfalso; omega))) <;> try (exfalso; omega))) <;> try (exfalso; omega))) <;> try (exfalso; omega))
  | with_reducible refine c_lt ?_ | with_reducible refine c_gt ?_ | with_reducible refine c_le ?_ | with_reducible refine c_ge ?_ | with_reducible refine c_eq ?_ | with_reducible refine c_ne ?_
  | with_reducible refine b_add ?_ | with_reducible refine b_sub ?_ | with_reducible refine f_lc1 ?_ | with_reducible refine f_lc2 ?_ | with_reducible refine f_lc3 ?_ | with_reducible refine f_lc4 ?_ | with_reducible refine f_lc5 ?_ | with_reducible refine f_lc6 ?_ | with_reducible refine f_lenT ?_ | with_reducible refine f_lenL ?_ | with_reducible refine f_int ?_ | with_reducible refine f_abs ?_
  | refine sz_ok rfl ?_ | ((with_reducible refine b_pow ?_ ?_); focus (exact ⟨by decide, by decide, by decide⟩)) | with_reducible refine d_tup ?_ | with_reducible refine d_rev ?_ | with_reducible refine m_f ?_ | with_reducible refine m_t ?_ | with_reducible refine ⟨_, rfl, ?_⟩)
local macro_rules | `(tactic| walk_at "m2") => `(tactic| first
  | walk_at "m1" | ((with_reducible refine if_nne0 (fun _ => ?_) (fun _ => ?_)) <;> try (exfalso; omega)) | with_reducible refine b_and ?_ | with_reducible refine b_or ?_ | with_reducible refine b_xor ?_ | with_reducible refine w_bits ?_ | with_reducible refine m_bits ?_ | with_reducible refine x_aug rfl ?_ | with_reducible refine g_add ?_ | with_reducible refine g_or ?_ | with_reducible refine g_xor ?_ | with_reducible refine isn_1 ?_ | with_reducible refine isn_2 ?_ | with_reducible refine isn_3 ?_ | with_reducible refine isn_4 ?_ | with_reducible refine isn_5 ?_ | with_reducible refine isn_6 ?_ | with_reducible refine isn_7 ?_ | with_reducible refine isn_8 ?_ | with_reducible refine isn_9 ?_ | with_reducible refine isn_10 ?_ | with_reducible refine c_eqS ?_ | with_reducible refine c_neS ?_ | with_reducible refine f_tupL ?_ | with_reducible refine w_and getE ?_ | with_reducible refine w_and mid_get ?_ | with_reducible refine w_and (by assumption) ?_ | with_reducible refine f_max2 ?_ | with_reducible refine f_min2 ?_ | with_reducible refine i_ref (by assumption) rfl ?_ | refine i_lst rfl ?_ | refine i_at rfl ?_ | with_reducible refine i_ref' (by assumption) rfl ?_ | ((refine s_rf (by first | assumption | exact List.getElem?_set_self (by assumption)) rfl ?_); try simp only [List.set_cons_succ, List.set_cons_zero, List.set_set])
  | ((with_reducible refine b_mul ?_ ?_); focus (exact mul_ok (by omega) (by omega))) | ((with_reducible refine b_div ?_ ?_); focus (exact div_ok (by omega) (by omega))) | ((with_reducible refine b_mod ?_ ?_); focus omega))

/-! ### judging a goal: the rounds -/
theorem k2_inj {x v y w : Nat} (h : k2 x v = k2 y w) : x = y ∧ v = w := by
  unfold k2 at h
  injection h with e1 e2
  injection e1 with e1
  injection e2 with e2
  injection e2 with e2
  omega
/-- a dict whose keys are standings -/
structure Kw (m : Nat) (kvs : KVs) : Prop where
  nod : (kvs.map (·.1)).Nodup
  pr : ∀ p ∈ kvs, ∃ x h : Nat, p.1 = k2 x h ∧ x < m ∧ h < 256
theorem Kw.few {m : Nat} {kvs : KVs} (w : Kw m kvs) (hm : m ≤ 12) : kvs.length ≤ 12 * 256 := by
  refine pair_few w.nod fun p hp => ?_
  obtain ⟨x, v, e, hx, hv⟩ := w.pr p hp
  exact ⟨x, v, e, by omega, by omega⟩
theorem Kw.put {m : Nat} {kvs : KVs} (h : Kw m kvs) {x v : Nat} {d : D} (hx : x < m) (hv : v < 256) : Kw m (putD kvs (k2 x v) d) := by
  refine ⟨putD_nodup h.nod, fun p hp => ?_⟩
  rcases putD_mem hp with hp | rfl
  · exact h.pr p hp
  · exact ⟨x, v, rfl, hx, hv⟩
structure Ww (m r : Nat) (kvs : KVs) : Prop extends Kw m kvs where
  vl : ∀ p ∈ kvs, ∃ is : List Int, p.2 = .tup (is.map .int) ∧ is.length = r
theorem Ww.val {m r : Nat} {kvs : KVs} (h : Ww m r kvs) {k : List L2.Key} {d : D} (hd : valD kvs k = some d) : ∃ is : List Int, d = .tup (is.map .int) ∧ is.length = r := h.vl _ (valD_mem hd)
theorem Ww.nil {m r : Nat} : Ww m r [] := ⟨⟨by simp, fun p hp => absurd hp (by simp)⟩, fun p hp => absurd hp (by simp)⟩
theorem Ww.put {m r : Nat} {kvs : KVs} (h : Ww m r kvs) {x v : Nat} {is : List Int} (hx : x < m) (hv : v < 256) (hl : is.length = r) : Ww m r (putD kvs (k2 x v) (.tup (is.map .int))) := by
  refine ⟨h.toKw.put hx hv, fun p hp => ?_⟩
  rcases putD_mem hp with hp | rfl
  · exact h.vl p hp
  · exact ⟨is, rfl, hl⟩
theorem has_val {kvs : KVs} {x v : Nat} : Has kvs (x, v) ↔ (valD kvs (k2 x v)).isSome = true := by
  constructor
  · rintro ⟨p, hp, e⟩
    obtain ⟨d, hd⟩ := valD_some hp
    rw [e] at hd
    rw [hd]; rfl
  · intro h
    obtain ⟨d, hd⟩ := Option.isSome_iff_exists.mp h
    exact ⟨_, valD_mem hd, rfl⟩
theorem merge_has {x v : Nat} : ∀ {more kvs : KVs}, Has (mergeD kvs more) (x, v) ↔ Has kvs (x, v) ∨ Has more (x, v)
  | [], kvs => by
    show Has kvs (x, v) ↔ _
    exact ⟨.inl, fun h => h.elim id fun ⟨p, hp, _⟩ => absurd hp (by simp)⟩
  | p :: more, kvs => by
    show Has (mergeD (putD kvs p.1 p.2) more) (x, v) ↔ _
    rw [merge_has]
    constructor
    · rintro (⟨q, hq, e⟩ | ⟨q, hq, e⟩)
      · rcases putD_mem hq with hq | rfl
        · exact .inl ⟨q, hq, e⟩
        · exact .inr ⟨p, by simp, e⟩
      · exact .inr ⟨q, by simp [hq], e⟩
    · rintro (h | ⟨q, hq, e⟩)
      · exact .inl h.put
      · rcases List.mem_cons.mp hq with rfl | hq
        · obtain ⟨q2, h2, e2⟩ := putD_has (kvs := kvs) (ks := q.1) (d := q.2)
          exact .inl ⟨q2, h2, e2.trans e⟩
        · exact .inr ⟨q, hq, e⟩
theorem merge_kw {m : Nat} : ∀ {more kvs : KVs}, Kw m kvs → (∀ p ∈ more, ∃ x h : Nat, p.1 = k2 x h ∧ x < m ∧ h < 256) → Kw m (mergeD kvs more)
  | [], kvs, h, _ => h
  | p :: more, kvs, h, h2 => by
    obtain ⟨x, v, e, hx, hv⟩ := h2 p (by simp)
    show Kw m (mergeD (putD kvs p.1 p.2) more)
    rw [e]
    exact merge_kw (h.put hx hv) fun q hq => h2 q (by simp [hq])
theorem put_ge {kvs : KVs} {k : List L2.Key} {d : D} : kvs.length ≤ (putD kvs k d).length := by
  unfold putD
  split <;> simp
theorem merge_ge : ∀ {more kvs : KVs}, kvs.length ≤ (mergeD kvs more).length
  | [], kvs => Nat.le_refl _
  | p :: more, kvs => Nat.le_trans put_ge (merge_ge (more := more) (kvs := putD kvs p.1 p.2))
theorem merge_gt {more kvs : KVs} (hne : more ≠ []) (h : ∀ p ∈ more, valD kvs p.1 = none) : kvs.length + 1 ≤ (mergeD kvs more).length := by
  cases more with
  | nil => exact absurd rfl hne
  | cons p more =>
    have h1 := put_new (d := p.2) (h p (by simp))
    have h2 := merge_ge (more := more) (kvs := putD kvs p.1 p.2)
    show kvs.length + 1 ≤ (mergeD (putD kvs p.1 p.2) more).length
    omega
/-- what stands at a round's start -/
structure Rd (ds : List Dr) (ks : List Nat) (st gl m r : Nat) (kvs kn : KVs) : Prop where
  w : Ww m r kvs
  k : Kw m kn
  dis : ∀ p ∈ kvs, valD kn p.1 = none
  s0 : Has kn (st, ka ks st) ∨ Has kvs (st, ka ks st)
  clo : ∀ a h b, Has kn (a, h) → adj ds h a b → Has kn (b, h ||| ka ks b) ∨ Has kvs (b, h ||| ka ks b)
  ng : ∀ h, ¬ Has kn (gl, h)
  one : kn ≠ [] ∨ kvs.length ≤ 1
theorem Rd.start {ds : List Dr} {ks : List Nat} {st gl m : Nat} (hs : st < m) (hk : ks.length ≤ 8) : Rd ds ks st gl m 1 [(k2 st (ka ks st), .tup [.int (st : Nat)])] [] := by
  refine ⟨⟨⟨by simp, fun p hp => ?_⟩, fun p hp => ?_⟩, ⟨by simp, fun p hp => absurd hp (by simp)⟩, fun p hp => rfl, .inr ⟨_, List.mem_singleton.mpr rfl, rfl⟩, fun a h b ⟨p, hp, _⟩ => absurd hp (by simp), fun h ⟨p, hp, _⟩ => absurd hp (by simp), .inr (Nat.le_refl _)⟩
  · rw [List.mem_singleton.mp hp]
    exact ⟨st, _, rfl, hs, ka_lt hk⟩
  · rw [List.mem_singleton.mp hp]
    exact ⟨[(st : Nat)], rfl, rfl⟩
theorem Rd.some {ds : List Dr} {ks : List Nat} {st gl m r held : Nat} {order : List Nat} {kvs kn : KVs} (h : Rd ds ks st gl m r kvs kn) (s : Sp ds ks st m order held) (hg : gl ∈ order) : kvs ≠ [] := by
  rintro rfl
  have no : ∀ q, ¬ Has [] q := fun q ⟨p, hp, _⟩ => absurd hp (by simp)
  obtain ⟨x, _, hx⟩ := s.G (fun a h => Has kn (a, h)) ⟨h.s0.resolve_right (no _), fun a g b h1 h2 => (h.clo a g b h1 h2).resolve_right (no _)⟩ gl hg
  exact h.ng x hx
theorem Rd.next {ds : List Dr} {ks : List Nat} {st gl m r : Nat} {kvs kn kv2 : KVs} (h : Rd ds ks st gl m r kvs kn) (hne : kvs ≠ []) (hg : ∀ g, ¬ Has kvs (gl, g)) (h2 : Ww m (r + 1) kv2) (hdis : ∀ p ∈ kv2, valD (mergeD kn kvs) p.1 = none)
    (hd : ∀ a g b, Has kvs (a, g) → adj ds g a b → Has (mergeD kn kvs) (b, g ||| ka ks b) ∨ Has kv2 (b, g ||| ka ks b)) : Rd ds ks st gl m (r + 1) kv2 (mergeD kn kvs) := by
  refine ⟨h2, merge_kw h.k h.w.pr, hdis, .inl (merge_has.mpr h.s0), fun a g b h1 j => ?_, fun g hh => ?_, .inl fun e => ?_⟩
  · rcases merge_has.mp h1 with h1 | h1
    · exact .inl (merge_has.mpr (h.clo a g b h1 j))
    · exact hd a g b h1 j
  · rcases merge_has.mp hh with hh | hh
    · exact h.ng g hh
    · exact hg g hh
  · have := merge_gt hne h.dis
    rw [e] at this
    simp at this
theorem f_sortR3 {m : Bool} {xs : List D} {r : Nat} {S : Store} {Q : MK} (hr : 0 < r) (h : ∀ z ∈ xs, ∃ is : List Int, z = .tup (is.map .int) ∧ is.length = r) (q : ∀ zs, zs.length = xs.length → mkL m zs S Q) : blt .sorted m [.lst xs] S Q := by
  have h : ∀ z ∈ xs, ∃ (i : Int) (is : List Int), z = .tup ((i :: is).map .int) := fun z hz => by
    obtain ⟨is, rfl, hl⟩ := h z hz
    cases is with
    | nil => simp at hl; omega
    | cons i is => exact ⟨i, is, rfl⟩
  refine ⟨xs, rfl, .inr ⟨fun x hx => ?_, fun x hx y hy => ?_, .inl fun x hx => ?_⟩, q _ sortD_len⟩
  · obtain ⟨i, is, rfl⟩ := h x hx
    exact flat_okD (k := 1) (by decide) (flat_intsZ (i :: is))
  · obtain ⟨i, is, rfl⟩ := h x hx
    obtain ⟨j, js, rfl⟩ := h y hy
    rw [D.toP, D.toP]
    unfold PySem.W.alike
    exact alike_intsZ (i :: is) (j :: js)
  · obtain ⟨i, is, rfl⟩ := h x hx
    exact ⟨_, _, rfl⟩
theorem set_same {α : Type} : ∀ {l : List α} {j : Nat} {a : α}, l[j]? = some a → l.set j a = l
  | [], _, _, h => by simp at h
  | x :: l, 0, a, h => by
    have : x = a := by simpa using h
    rw [this]; rfl
  | x :: l, j + 1, a, h => by
    rw [List.set_cons_succ, set_same (by simpa using h)]
/-- one way out of a row of the dict at hand -/
theorem way_ok {c : C} {E : EK} {nx bk ct : DEnv → Store → Prop} {rt : MK} {r i7 i8 i10 x v z w : Nat} {u : L2.HO} {kvs kn kv2 : KVs} {is : List Int} {S : Store} {e0 e1 e2 e3 e4 e5 e6 e9 e15 e16 : Option D}
    (h7 : S[i7]? = some (.dct true (some u) kvs)) (h8 : S[i8]? = some (.dct true none kn)) (h10 : S[i10]? = some (.dct true none kv2)) (hv : valD kvs (k2 x v) = some (.tup (is.map .int))) (hr : is.length = r) (hr2 : r + 1 ≤ 10000)
    (h2 : ∀ d, valD kv2 (k2 z w) = some d → ∃ js : List Int, d = .tup (js.map .int) ∧ js.length = r + 1) (hl : kv2.length < sizeLine)
    (q1 : Has kn (z, w) → ∀ e15, nx [e0, e1, e2, e3, e4, e5, e6, some (.ref i7), some (.ref i8), e9, some (.ref i10), some (.int (x : Nat)), some (.int (v : Nat)), some (.int (z : Nat)), some (.tup [.int (z : Nat), .int (w : Nat)]), e15, e16] S)
    (q2 : ¬ Has kn (z, w) → ∀ (js : List Int) (e15 : Option D), js.length = r + 1 → nx [e0, e1, e2, e3, e4, e5, e6, some (.ref i7), some (.ref i8), e9, some (.ref i10), some (.int (x : Nat)), some (.int (v : Nat)), some (.int (z : Nat)), some (.tup [.int (z : Nat), .int (w : Nat)]), e15, e16]
      (S.set i10 (.dct true none (putD kv2 (k2 z w) (.tup (js.map .int)))))) :
    ex c E (.cons (.set (.nm 15) (.bin .Add false (.dsub (.var 7) (.tup (.cons (.var 11) (.cons (.var 12) .nil)))) (.tup (.cons (.var 13) .nil))))
      (.cons (.ite (.din true (.var 14) (.var 8)) (.cons (.dput (.var 10) (.var 14) (.blt .min2 false (.cons (.var 15) (.cons (.dget (.var 10) (.var 14) (.var 15)) .nil)))) .nil) .nil) .nil))
      [e0, e1, e2, e3, e4, e5, e6, some (.ref i7), some (.ref i8), e9, some (.ref i10), some (.int (x : Nat)), some (.int (v : Nat)), some (.int (z : Nat)), some (.tup [.int (z : Nat), .int (w : Nat)]), e15, e16] S ⟨nx, rt, bk, ct⟩ := by
  have ei : D.tup (is.map .int ++ [.int (z : Nat)]) = .tup ((is ++ [(z : Int)]).map .int) := by rw [List.map_append]; rfl
  have hi : (is ++ [(z : Int)]).length = r + 1 := by simp [hr]
  repeat' walk_at "m2"
  refine e_dsub ?_
  repeat' walk_at "m2"
  refine ⟨i7, true, some u, kvs, _, _, rfl, h7, dkey2, hv, ?_⟩
  repeat' walk_at "m2"
  refine b_addT (by rw [List.length_map, sizeLine_eq]; show _ + 1 ≤ _; omega) ?_
  rw [ei]
  generalize is ++ [(z : Int)] = is at hi
  repeat' walk_at "m2"
  refine e_din ?_
  repeat' walk_at "m2"
  refine ⟨i8, true, none, kn, _, rfl, h8, dkey2, ?_⟩
  refine u_bl ?_
  refine if_b (fun hb => ?_) (fun hb => ?_)
  · have hno : ¬ Has kn (z, w) := fun h => by
      rw [has_val.mp h] at hb
      simp at hb
    repeat' walk_at "m2"
    refine x_dput ?_
    repeat' walk_at "m2"
    refine e_dget ?_
    repeat' walk_at "m2"
    refine ⟨i10, true, none, kv2, rfl, h10, ?_⟩
    repeat' walk_at "m2"
    refine ⟨true, none, kv2, _, h10, dkey2, ?_⟩
    obtain ⟨js, hj, hjl⟩ : ∃ js : List Int, (valD kv2 (k2 z w)).getD (.tup (is.map .int)) = .tup (js.map .int) ∧ js.length = r + 1 := by
      cases hd : valD kv2 (k2 z w) with
      | none => exact ⟨is, rfl, hi⟩
      | some d => obtain ⟨js, rfl, h⟩ := h2 d hd; exact ⟨js, rfl, h⟩
    rw [hj]
    repeat' walk_at "m2"
    refine f_min2T fun d hd => ?_
    obtain ⟨gs, rfl, hgl⟩ : ∃ gs : List Int, d = .tup (gs.map .int) ∧ gs.length = r + 1 := by
      rcases hd with rfl | rfl
      · exact ⟨_, rfl, hi⟩
      · exact ⟨_, rfl, hjl⟩
    repeat' walk_at "m2"
    refine ⟨i10, true, kv2, _, rfl, h10, dkey2, hl, ?_⟩
    repeat' walk_at "m2"
    exact q2 hno gs _ hgl
  · have hyes : Has kn (z, w) := has_val.mpr (by
      cases hv2 : valD kn (k2 z w) with
      | none => rw [hv2] at hb; simp at hb
      | some d => rfl)
    repeat' walk_at "m2"
    exact q1 hyes _

end Lw37

set_option maxHeartbeats 2000000
namespace Lw37
open PySem PySem.Spec Mp L2
local macro_rules | `(tactic| walk_at "m1") => `(tactic| first
  | with_reducible refine e_var rfl ?_ | with_reducible refine e_con ?_ | with_reducible refine e_bin ?_ | with_reducible refine e_neg ?_ | with_reducible refine e_not ?_ | with_reducible refine e_cmp ?_ | with_reducible refine e_ch2 ?_ | with_reducible refine e_ch3 ?_ | with_reducible refine e_isn ?_ | with_reducible refine e_and ?_ | with_reducible refine e_or ?_ | with_reducible refine e_ite ?_
  | with_reducible refine e_tup ?_ | with_reducible refine e_lst ?_ | with_reducible refine e_callv1 rfl ?_ | with_reducible refine e_call0 ?_ | with_reducible refine e_call1 ?_ | with_reducible refine e_blt ?_ | with_reducible refine e_isi ?_ | with_reducible refine e_lrng ?_ | with_reducible refine e_mth ?_ | with_reducible refine e_idx ?_ | with_reducible refine e_slc ?_ | with_reducible refine e_rev ?_ | with_reducible refine e_yes ?_
  | with_reducible refine l_nil ?_ | with_reducible refine l_cons ?_ | with_reducible refine o_abs ?_ | with_reducible refine o_some ?_
  | with_reducible refine x_nil ?_ | with_reducible refine x_cons ?_ | with_reducible refine x_exp ?_ | with_reducible refine x_set ?_ | with_reducible refine x_ite ?_ | with_reducible refine x_ret ?_ | with_reducible refine x_rse ?_ | with_reducible refine x_pss ?_ | with_reducible refine x_brk ?_ | with_reducible refine x_cnt ?_ | with_reducible refine x_retN ?_ | with_reducible refine x_sset ?_ | with_reducible refine x_tryw ?_
  | with_reducible refine x_for ?_ | with_reducible refine x_whl ?_ | with_reducible refine v_itr ?_ | with_reducible refine v_rng ?_ | with_reducible refine v_zip ?_ | with_reducible refine v_rngD ?_ | with_reducible refine v_enm ?_ | with_reducible refine n_tup ?_ | with_reducible refine n_lst ?_ | with_reducible refine z_tup ?_ | with_reducible refine z_tl ?_ | with_reducible refine z_lt ?_ | with_reducible refine z_ll ?_ | with_reducible refine e_lc ?_ | with_reducible refine e_sset ?_ | with_reducible refine g_end ?_ | with_reducible refine f_fix ?_
  | with_reducible refine t_nm ?_ | with_reducible refine t_tp ?_ | with_reducible refine t_nil ?_ | with_reducible refine t_cons ?_
  | with_reducible refine u_bl ?_ | with_reducible refine u_int ?_ | with_reducible refine u_non ?_ | with_reducible refine u_tupN ?_ | with_reducible refine u_tupC ?_ | with_reducible refine u_lstN ?_ | with_reducible refine u_lstC ?_ | with_reducible refine u_tup ?_ | with_reducible refine u_lst ?_
  | with_reducible refine if_tt ?_ | with_reducible refine if_ff ?_ | with_reducible refine if_nf ?_ | with_reducible refine if_nt ?_ | ((((((((((((((((((with_reducible refine if_dec (fun _ => ?_) (fun _ => ?_)) <;> try (exfalso; omega))) <;> try (exfalso; omega))) <;> try (exfalso; omega))) <;> try (exfalso; omega))) <;> try (exfalso; omega))) <;> try (exfalso; omega))) <;> try (exfalso; omega))) <;> try (exfalso; omega))) <;> try (exfalso; omega)) | ((((((((((((((((((with_reducible refine if_ndec (fun _ => ?_) (fun _ => ?_)) <;> try (exfalso; omega))) <;> try (exfalso; omega))) <;> try (exfalso; omega))) <;> try (exfalso; omega))) <;> try (exfalso; omega))) <;> try (exfalso; omega))) <;> try (exfalso; omega))) <;> try (exfalso; omega))) <;> try (exfalso; omega)) | ((((((((((((((((((with_reducible refine if_ne0 (fun _ => ?_) (fun _ => ?_)) <;> try (exfalso; omega))) <;> try (exfalso; omega))) <;> try (exfalso; omega))) <;> try (exfalso; omega))) <;> try (exfalso; omega))) <;> try (exfalso; omega))) <;> try (exfalso; omega))) <;> try (exfalso; omega))) <;> try (exfalso; omega))
  | with_reducible refine c_lt ?_ | with_reducible refine c_gt ?_ | with_reducible refine c_le ?_ | with_reducible refine c_ge ?_ | with_reducible refine c_eq ?_ | with_reducible refine c_ne ?_
  | with_reducible refine b_add ?_ | with_reducible refine b_sub ?_ | with_reducible refine f_lc1 ?_ | with_reducible refine f_lc2 ?_ | with_reducible refine f_lc3 ?_ | with_reducible refine f_lc4 ?_ | with_reducible refine f_lc5 ?_ | with_reducible refine f_lc6 ?_ | with_reducible refine f_lenT ?_ | with_reducible refine f_lenL ?_ | with_reducible refine f_int ?_ | with_reducible refine f_abs ?_
  | refine sz_ok rfl ?_ | ((with_reducible refine b_pow ?_ ?_); focus (exact ⟨by decide, by decide, by decide⟩)) | with_reducible refine d_tup ?_ | with_reducible refine d_rev ?_ | with_reducible refine m_f ?_ | with_reducible refine m_t ?_ | with_reducible refine ⟨_, rfl, ?_⟩)
local macro_rules | `(tactic| walk_at "m2") => `(tactic| first
  | walk_at "m1" | ((with_reducible refine if_nne0 (fun _ => ?_) (fun _ => ?_)) <;> try (exfalso; omega)) | with_reducible refine b_and ?_ | with_reducible refine b_or ?_ | with_reducible refine b_xor ?_ | with_reducible refine w_bits ?_ | with_reducible refine m_bits ?_ | with_reducible refine x_aug rfl ?_ | with_reducible refine g_add ?_ | with_reducible refine g_or ?_ | with_reducible refine g_xor ?_ | with_reducible refine isn_1 ?_ | with_reducible refine isn_2 ?_ | with_reducible refine isn_3 ?_ | with_reducible refine isn_4 ?_ | with_reducible refine isn_5 ?_ | with_reducible refine isn_6 ?_ | with_reducible refine isn_7 ?_ | with_reducible refine isn_8 ?_ | with_reducible refine isn_9 ?_ | with_reducible refine isn_10 ?_ | with_reducible refine c_eqS ?_ | with_reducible refine c_neS ?_ | with_reducible refine f_tupL ?_ | with_reducible refine w_and getE ?_ | with_reducible refine w_and mid_get ?_ | with_reducible refine w_and (by assumption) ?_ | with_reducible refine f_max2 ?_ | with_reducible refine f_min2 ?_ | with_reducible refine i_ref (by assumption) rfl ?_ | refine i_lst rfl ?_ | refine i_at rfl ?_ | with_reducible refine i_ref' (by assumption) rfl ?_ | ((refine s_rf (by first | assumption | exact List.getElem?_set_self (by assumption)) rfl ?_); try simp only [List.set_cons_succ, List.set_cons_zero, List.set_set])
  | ((with_reducible refine b_mul ?_ ?_); focus (exact mul_ok (by omega) (by omega))) | ((with_reducible refine b_div ?_ ?_); focus (exact div_ok (by omega) (by omega))) | ((with_reducible refine b_mod ?_ ?_); focus omega))

theorem goal_loop {n m st gl i7 i8 held : Nat} {order : List Nat} {ds : List Dr} {ks : List Nat} {S0 S : Store} {rt : MK} {E : Exc → Store → Prop} {nx bk ct : DEnv → Store → Prop} {e5 e6 e9 e10 e11 e12 e13 e14 e15 e16 : Option D}
    (hc : Cv m ds ks) (hs : st < m) (hSp : Sp ds ks st m order held) (hgo : gl ∈ order)
    (hE : Ext S0 S) (h7 : S0.length ≤ i7) (h8 : S0.length ≤ i8) (h78 : i7 ≠ i8) (hS7 : S[i7]? = some (.dct true none [(k2 st (ka ks st), .tup [.int (st : Nat)])])) (hS8 : S[i8]? = some (.dct true none [])) (q : ∀ d S1, Ext S0 S1 → rt d S1) :
    ex ⟨R (n + 1), none⟩ (fun e _ S1 => E e S1) (MS.rest 7 b_judge_goal) [some (.int (m : Nat)), some (.tup (ds.map drD)), some (.tup (nI ks)), some (.int (st : Nat)), some (.int (gl : Nat)), e5, e6, some (.ref i7), some (.ref i8), e9, e10, e11, e12, e13, e14, e15, e16] S ⟨nx, rt, bk, ct⟩ := by
  unfold b_judge_goal
  dsimp only [MS.rest]
  repeat' walk_at "m2"
  refine whl_ex (fun j env S' => ∃ (r i7 : Nat) (kvs kn : KVs) (e9 e10 e11 e12 e13 e14 e15 e16 : Option D), Ext S0 S' ∧ S0.length ≤ i7 ∧ i7 ≠ i8 ∧ S'[i7]? = some (.dct true none kvs) ∧ S'[i8]? = some (.dct true none kn) ∧ Rd ds ks st gl m r kvs kn ∧ r + j = 12 * 256 + 2 ∧ 0 < r ∧ 12 * 256 < kn.length + j ∧
    env = [some (.int (m : Nat)), some (.tup (ds.map drD)), some (.tup (nI ks)), some (.int (st : Nat)), some (.int (gl : Nat)), e5, e6, some (.ref i7), some (.ref i8), e9, e10, e11, e12, e13, e14, e15, e16])
    (12 * 256 + 1) ⟨1, i7, _, _, e9, e10, e11, e12, e13, e14, e15, e16, hE, h7, h78, hS7, hS8, Rd.start hs hc.hk, by omega, by omega, by simp, rfl⟩ (fun j env S P hI hP => ?_)
  clear hS7 hS8 h7 hE h78
  obtain ⟨r, i7, kvs, kn, e9, e10, e11, e12, e13, e14, e15, e16, hE, h7, h78, hS7, hS8, hR, hr, hr0, hj, rfl⟩ := hI
  have hi7 : i7 < S.length := (List.getElem?_eq_some_iff.mp hS7).1
  have hi8 : i8 < S.length := (List.getElem?_eq_some_iff.mp hS8).1
  have hfew := hR.w.toKw.few hc.m2
  have hfew2 := hR.k.few hc.m2
  have hne := hR.some hSp hgo
  repeat' walk_at "m2"
  refine x_lckS rfl hS7 fun u => ?_
  have hSl : (S.set i7 (.dct true (some u) kvs))[i7]? = some (.dct true (some u) kvs) := List.getElem?_set_self hi7
  repeat' walk_at "m2"
  refine v_keys ?_
  repeat' walk_at "m2"
  refine ⟨i7, true, u, kvs, rfl, hSl, _, src_keys_of hSl, ?_⟩
  refine gen_acc (fun k acc S1 => S1 = S.set i7 (.dct true (some u) kvs) ∧ acc.length ≤ k ∧ (∀ z ∈ acc, ∃ is : List Int, z = .tup (is.map .int) ∧ is.length = r) ∧ (∀ (i : Nat) (h : i < kvs.length) (v : Nat), i < k → kvs[i].1 = k2 gl v → acc ≠ []))
    ⟨rfl, Nat.le_refl _, fun z hz => absurd hz (by simp), fun i _ _ h => absurd h (by omega)⟩ (fun k hk acc S1 Q2 hJ h => ?_) (fun acc S1 hJ => ?_)
  · obtain ⟨rfl, hal, hacc, hne⟩ := hJ
    have hk : k < kvs.length := by rw [List.length_map] at hk; exact hk
    have hsz : acc.length < sizeLine := by rw [sizeLine_eq]; omega
    obtain ⟨x, v', ek, hx, hv'⟩ := hR.w.pr kvs[k] (List.getElem_mem hk)
    obtain ⟨d, hd⟩ := valD_some (List.getElem_mem hk)
    rw [ek] at hd
    rw [List.getElem_map, ek, key2]
    repeat' walk_at "m2"
    · refine e_dsub ?_
      repeat' walk_at "m2"
      refine ⟨i7, true, some u, kvs, _, d, rfl, hSl, dkey2, hd, ?_⟩
      refine ⟨hsz, src_keys_of hSl, h _ _ ⟨rfl, by rw [List.length_append]; simp; omega, fun z hz => ?_, fun _ _ _ _ _ => by simp⟩⟩
      rcases List.mem_append.mp hz with hz | hz
      · exact hacc z hz
      · rw [List.mem_singleton.mp hz]
        exact hR.w.val hd
    · rename_i hxe
      refine ⟨src_keys_of hSl, h _ _ ⟨rfl, by omega, hacc, fun i hi v hik e => ?_⟩⟩
      rcases Nat.lt_or_ge i k with h1 | h1
      · exact hne i hi v h1 e
      · obtain rfl : i = k := by omega
        rw [ek] at e
        have := (k2_inj e).1
        exact absurd (by rw [this]) hxe
  · obtain ⟨rfl, hal, hacc, hnr⟩ := hJ
    rw [List.length_map] at hal hnr
    repeat' walk_at "m2"
    refine f_sortR3 hr0 hacc fun zs hz => ?_
    repeat' walk_at "m2"
    refine ⟨hSl, ?_⟩
    rw [List.set_set, set_same hS7]
    clear hSl
    cases zs with
    | cons z zs =>
      repeat' walk_at "m2"
      refine i_at (k := ((0 : Nat) : Int)) (at_lst (by simp) rfl) ?_
      repeat' walk_at "m2"
      exact q _ _ hE
    | nil =>
      have ha : acc = [] := List.eq_nil_of_length_eq_zero hz.symm
      have hg : ∀ g, ¬ Has kvs (gl, g) := fun g ⟨p, hp, e⟩ => by
        obtain ⟨i, hi, rfl⟩ := List.getElem_of_mem hp
        exact hnr i hi g hi e ha
      clear hacc hnr hz ha hal
      have hgt := merge_gt hne hR.dis
      repeat' walk_at "m2"
      refine e_dupd ?_
      repeat' walk_at "m2"
      refine ⟨i8, true, none, kn, rfl, hS8, ?_⟩
      repeat' walk_at "m2"
      refine ⟨i7, true, kn, none, kvs, rfl, Ne.symm h78, hS8, hS7, by rw [sizeLine_eq]; omega, hR.one, ?_⟩
      have hS7 : (S.set i8 (.dct true none (mergeD kn kvs)))[i7]? = some (.dct true none kvs) := by rw [List.getElem?_set_ne (Ne.symm h78)]; exact hS7
      have hS8 : (S.set i8 (.dct true none (mergeD kn kvs)))[i8]? = some (.dct true none (mergeD kn kvs)) := List.getElem?_set_self hi8
      have hE := hE.set h8 (.dct true none (mergeD kn kvs))
      have hlen : (S.set i8 (.dct true none (mergeD kn kvs))).length = S.length := List.length_set
      generalize S.set i8 (.dct true none (mergeD kn kvs)) = S at hS7 hS8 hE hlen
      rw [← hlen] at hi7 hi8
      clear hlen
      repeat' walk_at "m2"
      refine e_dnew ?_
      have h10 : (S ++ [SO.dct true none []])[S.length]? = some (.dct true none []) := by simp
      have hS7 := app_get hS7 [SO.dct true none []]
      have hS8 := app_get hS8 [SO.dct true none []]
      have hE := hE.app [SO.dct true none []]
      have h710 : i7 ≠ S.length := Nat.ne_of_lt hi7
      have h810 : i8 ≠ S.length := Nat.ne_of_lt hi8
      have h10' : S0.length ≤ S.length := by omega
      have hiS : i7 < (S ++ [SO.dct true none []]).length := by rw [List.length_append]; omega
      generalize S.length = i10 at h10 h710 h810 h10'
      generalize S ++ [SO.dct true none []] = S at hS7 hS8 hE h10 hiS
      repeat' walk_at "m2"
      refine x_lckS rfl hS7 fun u => ?_
      have hSl : (S.set i7 (.dct true (some u) kvs))[i7]? = some (.dct true (some u) kvs) := List.getElem?_set_self hiS
      have hS10 : (S.set i7 (.dct true (some u) kvs))[i10]? = some (.dct true none []) := by rw [List.getElem?_set_ne h710]; exact h10
      have hS8 : (S.set i7 (.dct true (some u) kvs))[i8]? = some (.dct true none (mergeD kn kvs)) := by rw [List.getElem?_set_ne h78]; exact hS8
      have hE := hE.set h7 (.dct true (some u) kvs)
      generalize S.set i7 (.dct true (some u) kvs) = S at hSl hS10 hS8 hE
      repeat' walk_at "m2"
      refine v_keys ?_
      repeat' walk_at "m2"
      refine ⟨i7, true, u, kvs, rfl, hSl, _, src_keys_of hSl, ?_⟩
      have hle : ∀ kv2, Ww m (r + 1) kv2 → kv2.length < sizeLine := fun kv2 h => by
        have := h.toKw.few hc.m2
        rw [sizeLine_eq]; omega
      refine for_ix (fun k env S' => ∃ (kv2 : KVs) (e11 e12 e13 e14 e15 e16 : Option D), Ext S0 S' ∧ S'[i7]? = some (.dct true (some u) kvs) ∧ S'[i8]? = some (.dct true none (mergeD kn kvs)) ∧ S'[i10]? = some (.dct true none kv2) ∧ Ww m (r + 1) kv2 ∧ (∀ p ∈ kv2, valD (mergeD kn kvs) p.1 = none) ∧
        (∀ i (h : i < kvs.length), i < k → ∀ a g b : Nat, kvs[i].1 = k2 a g → adj ds g a b → Has (mergeD kn kvs) (b, g ||| ka ks b) ∨ Has kv2 (b, g ||| ka ks b)) ∧
        env = [some (.int (m : Nat)), some (.tup (ds.map drD)), some (.tup (nI ks)), some (.int (st : Nat)), some (.int (gl : Nat)), e5, e6, some (.ref i7), some (.ref i8), some (.lst []), some (.ref i10), e11, e12, e13, e14, e15, e16])
        ⟨[], e11, e12, e13, e14, e15, e16, hE, hSl, hS8, hS10, Ww.nil, fun p hp => absurd hp (by simp), fun i _ h => absurd h (by omega), rfl⟩ (fun k hk env S' P2 hI hP2 => ?_) (fun env S' hI => ?_)
      · clear hS10 hS8 hSl hE hS7
        obtain ⟨kv2, e11, e12, e13, e14, e15, e16, hE, hSl, hS8, hS10, hW2, hdis, hdone, rfl⟩ := hI
        have hk : k < kvs.length := by rw [List.length_map] at hk; exact hk
        obtain ⟨x, v', ek, hx, hv'⟩ := hR.w.pr kvs[k] (List.getElem_mem hk)
        obtain ⟨d, hd⟩ := valD_some (List.getElem_mem hk)
        obtain ⟨is, rfl, hil⟩ := hR.w.val hd
        rw [ek] at hd
        rw [List.getElem_map, ek, key2]
        repeat' walk_at "m2"
        refine beside_ok hc.hl hc.hg fun ys exs hys hyl => ?_
        have hE := hE.app exs
        have hSl := app_get hSl exs
        have hS8 := app_get hS8 exs
        have hS10 := app_get hS10 exs
        generalize S' ++ exs = S' at hE hSl hS8 hS10
        repeat' walk_at "m2"
        refine for_ix (fun i env S' => ∃ (kv2 : KVs) (e13 e14 e15 e16 : Option D), Ext S0 S' ∧ S'[i7]? = some (.dct true (some u) kvs) ∧ S'[i8]? = some (.dct true none (mergeD kn kvs)) ∧ S'[i10]? = some (.dct true none kv2) ∧ Ww m (r + 1) kv2 ∧ (∀ p ∈ kv2, valD (mergeD kn kvs) p.1 = none) ∧
          (∀ i (h : i < kvs.length), i < k → ∀ a g b : Nat, kvs[i].1 = k2 a g → adj ds g a b → Has (mergeD kn kvs) (b, g ||| ka ks b) ∨ Has kv2 (b, g ||| ka ks b)) ∧
          (∀ l (h : l < ys.length), l < i → Has (mergeD kn kvs) (ys[l], v' ||| ka ks ys[l]) ∨ Has kv2 (ys[l], v' ||| ka ks ys[l])) ∧
          env = [some (.int (m : Nat)), some (.tup (ds.map drD)), some (.tup (nI ks)), some (.int (st : Nat)), some (.int (gl : Nat)), e5, e6, some (.ref i7), some (.ref i8), some (.lst []), some (.ref i10), some (.int (x : Nat)), some (.int (v' : Nat)), e13, e14, e15, e16])
          ⟨kv2, e13, e14, e15, e16, hE, hSl, hS8, hS10, hW2, hdis, hdone, fun l _ h => absurd h (by omega), rfl⟩ (fun i hi env S' P3 hI hP3 => ?_) (fun env S' hI => ?_)
        · clear hS10 hS8 hSl hE hW2 hdis hdone
          obtain ⟨kv2, e13, e14, e15, e16, hE, hSl, hS8, hS10, hW2, hdis, hdone, hdone2, rfl⟩ := hI
          have hi' : i < ys.length := by rw [List.length_map] at hi; exact hi
          rw [List.getElem_map]
          have h10l : i10 < S'.length := (List.getElem?_eq_some_iff.mp hS10).1
          have hadj := (hys _).mp (List.getElem_mem hi')
          have hym := (hadj.lt hc.hg).2
          have hor : v' ||| ka ks ys[i] < 256 := Nat.or_lt_two_pow (n := 8) hv' (ka_lt hc.hk)
          have fin : ∀ (kv3 : KVs) (S3 : Store) (e13 e14 e15 e16 : Option D), Ext S0 S3 → S3[i7]? = some (.dct true (some u) kvs) → S3[i8]? = some (.dct true none (mergeD kn kvs)) → S3[i10]? = some (.dct true none kv3) → Ww m (r + 1) kv3 → (∀ p ∈ kv3, valD (mergeD kn kvs) p.1 = none) →
              (∀ q, Has kv2 q → Has kv3 q) → (Has (mergeD kn kvs) (ys[i], v' ||| ka ks ys[i]) ∨ Has kv3 (ys[i], v' ||| ka ks ys[i])) →
              P3 [some (.int (m : Nat)), some (.tup (ds.map drD)), some (.tup (nI ks)), some (.int (st : Nat)), some (.int (gl : Nat)), e5, e6, some (.ref i7), some (.ref i8), some (.lst []), some (.ref i10), some (.int (x : Nat)), some (.int (v' : Nat)), e13, e14, e15, e16] S3 := by
            intro kv3 S3 e13 e14 e15 e16 a1 a2 a3 a4 a5 a6 a7 a8
            refine hP3 _ _ ⟨kv3, e13, e14, e15, e16, a1, a2, a3, a4, a5, a6, fun i hi hik a g b e j => (hdone i hi hik a g b e j).imp id (a7 _), fun l hl hli => ?_, rfl⟩
            rcases Nat.lt_or_ge l i with h1 | h1
            · exact (hdone2 l hl h1).imp id (a7 _)
            · obtain rfl : l = i := by omega
              exact a8
          clear hP3 hP2 hP hdone hdone2
          generalize ys[i] = y at hadj hym hor fin
          repeat' walk_at "m2"
          refine keys_at_ok hc.hk ?_
          repeat' walk_at "m2"
          rw [bOr_nat]
          refine way_ok hSl hS8 hS10 hd hil (by omega) (fun d hd => hW2.val hd) (hle _ hW2) (fun hh e15 => ?_) (fun hh js e15 hjs => ?_)
          · exact fin kv2 _ _ _ _ _ hE hSl hS8 hS10 hW2 hdis (fun _ h => h) (.inl hh)
          · refine fin _ _ _ _ _ _ (hE.set h10' _) (by rw [List.getElem?_set_ne (Ne.symm h710)]; exact hSl) (by rw [List.getElem?_set_ne (Ne.symm h810)]; exact hS8) (List.getElem?_set_self h10l) (hW2.put hym hor hjs) (fun p hp => ?_) (fun _ h => h.put) (.inr putD_has)
            rcases putD_mem hp with hp | rfl
            · exact hdis p hp
            · cases hv : valD (mergeD kn kvs) (k2 y (v' ||| ka ks y)) with
              | none => rfl
              | some d => exact absurd (has_val.mpr (by rw [hv]; rfl)) hh
        · clear hS10 hS8 hSl hE hW2 hdis hdone
          obtain ⟨kv2, e13, e14, e15, e16, hE, hSl, hS8, hS10, hW2, hdis, hdone, hdone2, rfl⟩ := hI
          rw [List.length_map] at hdone2
          refine ⟨src_keys_of hSl, hP2 _ _ ⟨kv2, _, _, e13, e14, e15, e16, hE, hSl, hS8, hS10, hW2, hdis, fun i hi hik a g b e j => ?_, rfl⟩⟩
          rcases Nat.lt_or_ge i k with h1 | h1
          · exact hdone i hi h1 a g b e j
          · obtain rfl : i = k := by omega
            rw [ek] at e
            obtain ⟨rfl, rfl⟩ := k2_inj e
            obtain ⟨l, hl, rfl⟩ := List.getElem_of_mem ((hys b).mpr j)
            exact hdone2 l hl hl
      · clear hS10 hS8 hSl hE hS7
        obtain ⟨kv2, e11, e12, e13, e14, e15, e16, hE, hSl, hS8, hS10, hW2, hdis, hdone, rfl⟩ := hI
        rw [List.length_map] at hdone
        refine ⟨hSl, ?_⟩
        repeat' walk_at "m2"
        refine hP (j - 1) _ _ (by omega) ⟨r + 1, i10, kv2, mergeD kn kvs, _, _, e11, e12, e13, e14, e15, e16, hE.set h7 _, h10', Ne.symm h810, by rw [List.getElem?_set_ne h710]; exact hS10, by rw [List.getElem?_set_ne h78]; exact hS8, hR.next hne hg hW2 hdis fun a g b ⟨p, hp, e⟩ j => ?_, by omega, by omega, by omega, rfl⟩
        obtain ⟨i, hi, rfl⟩ := List.getElem_of_mem hp
        exact hdone i hi hi a g b e j

end Lw37

set_option maxHeartbeats 2000000
namespace Lw37
open PySem PySem.Spec Mp L2
local macro_rules | `(tactic| walk_at "m1") => `(tactic| first
  | with_reducible refine e_var rfl ?_ | with_reducible refine e_con ?_ | with_reducible refine e_bin ?_ | with_reducible refine e_neg ?_ | with_reducible refine e_not ?_ | with_reducible refine e_cmp ?_ | with_reducible refine e_ch2 ?_ | with_reducible refine e_ch3 ?_ | with_reducible refine e_isn ?_ | with_reducible refine e_and ?_ | with_reducible refine e_or ?_ | with_reducible refine e_ite ?_
  | with_reducible refine e_tup ?_ | with_reducible refine e_lst ?_ | with_reducible refine e_callv1 rfl ?_ | with_reducible refine e_call0 ?_ | with_reducible refine e_call1 ?_ | with_reducible refine e_blt ?_ | with_reducible refine e_isi ?_ | with_reducible refine e_lrng ?_ | with_reducible refine e_mth ?_ | with_reducible refine e_idx ?_ | with_reducible refine e_slc ?_ | with_reducible refine e_rev ?_ | with_reducible refine e_yes ?_
  | with_reducible refine l_nil ?_ | with_reducible refine l_cons ?_ | with_reducible refine o_abs ?_ | with_reducible refine o_some ?_
  | with_reducible refine x_nil ?_ | with_reducible refine x_cons ?_ | with_reducible refine x_exp ?_ | with_reducible refine x_set ?_ | with_reducible refine x_ite ?_ | with_reducible refine x_ret ?_ | with_reducible refine x_rse ?_ | with_reducible refine x_pss ?_ | with_reducible refine x_brk ?_ | with_reducible refine x_cnt ?_ | with_reducible refine x_retN ?_ | with_reducible refine x_sset ?_ | with_reducible refine x_tryw ?_
  | with_reducible refine x_for ?_ | with_reducible refine x_whl ?_ | with_reducible refine v_itr ?_ | with_reducible refine v_rng ?_ | with_reducible refine v_zip ?_ | with_reducible refine v_rngD ?_ | with_reducible refine v_enm ?_ | with_reducible refine n_tup ?_ | with_reducible refine n_lst ?_ | with_reducible refine z_tup ?_ | with_reducible refine z_tl ?_ | with_reducible refine z_lt ?_ | with_reducible refine z_ll ?_ | with_reducible refine e_lc ?_ | with_reducible refine e_sset ?_ | with_reducible refine g_end ?_ | with_reducible refine f_fix ?_
  | with_reducible refine t_nm ?_ | with_reducible refine t_tp ?_ | with_reducible refine t_nil ?_ | with_reducible refine t_cons ?_
  | with_reducible refine u_bl ?_ | with_reducible refine u_int ?_ | with_reducible refine u_non ?_ | with_reducible refine u_tupN ?_ | with_reducible refine u_tupC ?_ | with_reducible refine u_lstN ?_ | with_reducible refine u_lstC ?_ | with_reducible refine u_tup ?_ | with_reducible refine u_lst ?_
  | with_reducible refine if_tt ?_ | with_reducible refine if_ff ?_ | with_reducible refine if_nf ?_ | with_reducible refine if_nt ?_ | ((((((((((((((((((with_reducible refine if_dec (fun _ => ?_) (fun _ => ?_)) <;> try (exfalso; omega))) <;> try (exfalso; omega))) <;> try (exfalso; omega))) <;> try (exfalso; omega))) <;> try (exfalso; omega))) <;> try (exfalso; omega))) <;> try (exfalso; omega))) <;> try (exfalso; omega))) <;> try (exfalso; omega)) | ((((((((((((((((((with_reducible refine if_ndec (fun _ => ?_) (fun _ => ?_)) <;> try (exfalso; omega))) <;> try (exfalso; omega))) <;> try (exfalso; omega))) <;> try (exfalso; omega))) <;> try (exfalso; omega))) <;> try (exfalso; omega))) <;> try (exfalso; omega))) <;> try (exfalso; omega))) <;> try (exfalso; omega)) | ((((((((((((((((((with_reducible refine if_ne0 (fun _ => ?_) (fun _ => ?_)) <;> try (exfalso; omega))) <;> try (exfalso; omega))) <;> try (exfalso; omega))) <;> try (exfalso; omega))) <;> try (exfalso; omega))) <;> try (exfalso; omega))) <;> try (exfalso; omega))) <;> try (exfalso; omega))) <;> try (exfalso; omega))
  | with_reducible refine c_lt ?_ | with_reducible refine c_gt ?_ | with_reducible refine c_le ?_ | with_reducible refine c_ge ?_ | with_reducible refine c_eq ?_ | with_reducible refine c_ne ?_
  | with_reducible refine b_add ?_ | with_reducible refine b_sub ?_ | with_reducible refine f_lc1 ?_ | with_reducible refine f_lc2 ?_ | with_reducible refine f_lc3 ?_ | with_reducible refine f_lc4 ?_ | with_reducible refine f_lc5 ?_ | with_reducible refine f_lc6 ?_ | with_reducible refine f_lenT ?_ | with_reducible refine f_lenL ?_ | with_reducible refine f_int ?_ | with_reducible refine f_abs ?_
  | refine sz_ok rfl ?_ | ((with_reducible refine b_pow ?_ ?_); focus (exact ⟨by decide, by decide, by decide⟩)) | with_reducible refine d_tup ?_ | with_reducible refine d_rev ?_ | with_reducible refine m_f ?_ | with_reducible refine m_t ?_ | with_reducible refine ⟨_, rfl, ?_⟩)
local macro_rules | `(tactic| walk_at "m2") => `(tactic| first
  | walk_at "m1" | ((with_reducible refine if_nne0 (fun _ => ?_) (fun _ => ?_)) <;> try (exfalso; omega)) | with_reducible refine b_and ?_ | with_reducible refine b_or ?_ | with_reducible refine b_xor ?_ | with_reducible refine w_bits ?_ | with_reducible refine m_bits ?_ | with_reducible refine x_aug rfl ?_ | with_reducible refine g_add ?_ | with_reducible refine g_or ?_ | with_reducible refine g_xor ?_ | with_reducible refine isn_1 ?_ | with_reducible refine isn_2 ?_ | with_reducible refine isn_3 ?_ | with_reducible refine isn_4 ?_ | with_reducible refine isn_5 ?_ | with_reducible refine isn_6 ?_ | with_reducible refine isn_7 ?_ | with_reducible refine isn_8 ?_ | with_reducible refine isn_9 ?_ | with_reducible refine isn_10 ?_ | with_reducible refine c_eqS ?_ | with_reducible refine c_neS ?_ | with_reducible refine f_tupL ?_ | with_reducible refine w_and getE ?_ | with_reducible refine w_and mid_get ?_ | with_reducible refine w_and (by assumption) ?_ | with_reducible refine f_max2 ?_ | with_reducible refine f_min2 ?_ | with_reducible refine i_ref (by assumption) rfl ?_ | refine i_lst rfl ?_ | refine i_at rfl ?_ | with_reducible refine i_ref' (by assumption) rfl ?_ | ((refine s_rf (by first | assumption | exact List.getElem?_set_self (by assumption)) rfl ?_); try simp only [List.set_cons_succ, List.set_cons_zero, List.set_set])
  | ((with_reducible refine b_mul ?_ ?_); focus (exact mul_ok (by omega) (by omega))) | ((with_reducible refine b_div ?_ ?_); focus (exact div_ok (by omega) (by omega))) | ((with_reducible refine b_mod ?_ ?_); focus omega))

theorem f_sortN {m : Bool} {n : Nat} {xs : List Nat} {S : Store} {Q : MK} (hS : S[n]? = some (.lst (nI xs))) (q : ∀ zs, mkL m zs S Q) : blt .sorted m [.ref n] S Q := by
  refine f_sortI (xs := nI xs) (seq_ref hS) (fun z hz => ?_) fun zs _ _ => q zs
  obtain ⟨j, _, rfl⟩ := List.mem_map.mp hz
  exact ⟨j, rfl⟩
theorem judge_goal_says {n B fi : Nat} {a c e s g : D} (hB : B ≤ 1000) (va : Vl B a) (vc : Vl B c) (ve : Vl B e) (vs : Vl B s) (vg : Vl B g) (hf : dueK a c e = "" → a = .int (fi : Nat)) : Says (n + 6) 10 [a, c, e, s, g] (wG fi a c e s g) := by
  intro S Q E h0 hE
  refine run_of f_judge_goal rfl rfl ?_
  show ex _ _ b_judge_goal _ _ _
  have eb : b_judge_goal = .cons (.exp (.call 1 [] (.cons (.var 0) (.cons (.var 1) (.cons (.var 2) .nil))))) (.cons (.exp (.call 2 [] (.cons (.var 0) (.cons (.var 3) (.cons (.con (.str "start")) .nil))))) (.cons (.exp (.call 2 [] (.cons (.var 0) (.cons (.var 4) (.cons (.con (.str "goal")) .nil))))) (MS.rest 3 b_judge_goal))) := rfl
  rw [eb]
  refine three_ok (fi := fi) hB va vc ve vs vg hf rfl rfl rfl rfl rfl (fun z x h1 h2 h3 => no_word hE (by rw [h1]; exact h3)) fun ds ks st gl ea ec ee es eg hc hst hgl hw => ?_
  subst ea ec ee es eg
  have hq := h0 hw
  have e3 : MS.rest 3 b_judge_goal = .cons (.set (.tp (.cons (.nm 5) (.cons (.nm 6) .nil))) (.call 5 [] (.cons (.var 1) (.cons (.var 2) (.cons (.var 3) .nil))))) (MS.rest 4 b_judge_goal) := rfl
  rw [e3]
  repeat' walk_at "m2"
  refine spread_ok hc.m2 hc.hl hc.hg hc.hk hst fun order held i S1 hE1 hi hS1 hSp => ?_
  refine t_tp ?_
  refine t_cons ?_
  refine t_nm ?_
  refine t_cons ?_
  refine t_nm ?_
  refine t_nil ?_
  have e4 : MS.rest 4 b_judge_goal = .cons (.ite (.cmp .NotIn (.var 4) (.var 5)) (.cons (.ret (.tup (.cons (.con (.str "never")) (.cons (.blt .tuple false (.cons (.blt .sorted false (.cons (.var 5) .nil)) .nil)) (.cons (.blt .tuple false (.cons (.lc false [16] (.nm 16) (.rng (.con (.int 0)) (.blt .len false (.cons (.var 2) .nil))) (.bin .BitAnd false (.bin .RShift false (.var 6) (.var 16)) (.con (.int 1))) (.gend (.var 16))) .nil)) .nil)))))
  .nil) .nil) (.cons (.set (.nm 7) (.ddis true (.tup (.cons (.var 3) (.cons (.call 4 [] (.cons (.var 2) (.cons (.var 3) .nil))) .nil))) (.tup (.cons (.var 3) .nil)))) (.cons (.set (.nm 8) (.dnew true)) (MS.rest 7 b_judge_goal))) := rfl
  rw [e4]
  refine x_cons ?_
  refine x_ite ?_
  refine e_cmp ?_
  refine e_var rfl ?_
  refine e_var rfl ?_
  refine c_ninN hS1 ?_
  refine u_bl ?_
  refine if_nb (fun hin => ?_) (fun hin => ?_)
  · refine x_cons ?_
    refine x_ret ?_
    refine e_tup ?_
    refine l_cons ?_
    refine e_con ?_
    refine l_cons ?_
    refine e_blt ?_
    refine l_cons ?_
    refine e_blt ?_
    refine l_cons ?_
    refine e_var rfl ?_
    refine l_nil ?_
    refine f_sortN hS1 fun zs => ?_
    unfold mkL
    refine if_f0 rfl ?_
    refine l_nil ?_
    refine f_tupL ?_
    refine l_cons ?_
    have hlk : ∀ Q' : MK, Q' (.int (ks.length : Nat)) S1 → ev ⟨R (n + 5), none⟩ (fun e _ S1 => E e S1) (.blt .len false (.cons (.var 2) .nil)) [some (.int (fi : Nat)), some (.tup (ds.map drD)), some (.tup (nI ks)), some (.int (st : Nat)), some (.int (gl : Nat)), some (.ref i), some (.int (held : Nat)), none, none, none, none, none, none, none, none, none, none] S1 Q' := fun Q' q' => by
      repeat' walk_at "m2"
      rw [nI_len]; exact q'
    refine had_ok hc.hk hlk 16 (Nat.le_of_ble_eq_true rfl) (by decide) rfl fun hs => ?_
    obtain ⟨ex, rfl⟩ := hE1
    repeat' walk_at "m2"
    exact hq _ _
  · have hin := of_decide_eq_true hin
    refine x_nil ?_
    refine x_cons ?_
    refine x_set ?_
    refine e_ddis ?_
    refine e_tup ?_
    refine l_cons ?_
    refine e_var rfl ?_
    refine l_cons ?_
    refine e_call0 ?_
    refine l_cons ?_
    refine e_var rfl ?_
    refine l_cons ?_
    refine e_var rfl ?_
    refine l_nil ?_
    refine keys_at_ok hc.hk ?_
    refine l_nil ?_
    refine ⟨by rw [sizeLine_eq]; simp, ?_⟩
    refine e_tup ?_
    refine l_cons ?_
    refine e_var rfl ?_
    refine l_nil ?_
    refine ⟨by rw [sizeLine_eq]; simp, ?_⟩
    refine ⟨_, dkey2, ?_⟩
    refine t_nm ?_
    refine x_cons ?_
    refine x_set ?_
    refine e_dnew ?_
    refine t_nm ?_
    refine goal_loop (i7 := S1.length) (i8 := (S1 ++ [SO.dct true none [(k2 st (ka ks st), .tup [.int (st : Nat)])]]).length) hc hst hSp hin ((hE1.app _).app _) ?_ ?_ ?_ ?_ ?_ fun d S2 hE2 => ?_
    · obtain ⟨ex, rfl⟩ := hE1; simp
    · obtain ⟨ex, rfl⟩ := hE1; simp
    · simp
    · exact app_get (by simp) _
    · simp
    · obtain ⟨ex, rfl⟩ := hE2
      exact hq _ _

end Lw37

set_option maxHeartbeats 2000000
namespace Lw37
open PySem PySem.Spec Mp L2
local macro_rules | `(tactic| walk_at "m1") => `(tactic| first
  | with_reducible refine e_var rfl ?_ | with_reducible refine e_con ?_ | with_reducible refine e_bin ?_ | with_reducible refine e_neg ?_ | with_reducible refine e_not ?_ | with_reducible refine e_cmp ?_ | with_reducible refine e_ch2 ?_ | with_reducible refine e_ch3 ?_ | with_reducible refine e_isn ?_ | with_reducible refine e_and ?_ | with_reducible refine e_or ?_ | with_reducible refine e_ite ?_
  | with_reducible refine e_tup ?_ | with_reducible refine e_lst ?_ | with_reducible refine e_callv1 rfl ?_ | with_reducible refine e_call0 ?_ | with_reducible refine e_call1 ?_ | with_reducible refine e_blt ?_ | with_reducible refine e_isi ?_ | with_reducible refine e_lrng ?_ | with_reducible refine e_mth ?_ | with_reducible refine e_idx ?_ | with_reducible refine e_slc ?_ | with_reducible refine e_rev ?_ | with_reducible refine e_yes ?_
  | with_reducible refine l_nil ?_ | with_reducible refine l_cons ?_ | with_reducible refine o_abs ?_ | with_reducible refine o_some ?_
  | with_reducible refine x_nil ?_ | with_reducible refine x_cons ?_ | with_reducible refine x_exp ?_ | with_reducible refine x_set ?_ | with_reducible refine x_ite ?_ | with_reducible refine x_ret ?_ | with_reducible refine x_rse ?_ | with_reducible refine x_pss ?_ | with_reducible refine x_brk ?_ | with_reducible refine x_cnt ?_ | with_reducible refine x_retN ?_ | with_reducible refine x_sset ?_ | with_reducible refine x_tryw ?_
  | with_reducible refine x_for ?_ | with_reducible refine x_whl ?_ | with_reducible refine v_itr ?_ | with_reducible refine v_rng ?_ | with_reducible refine v_zip ?_ | with_reducible refine v_rngD ?_ | with_reducible refine v_enm ?_ | with_reducible refine n_tup ?_ | with_reducible refine n_lst ?_ | with_reducible refine z_tup ?_ | with_reducible refine z_tl ?_ | with_reducible refine z_lt ?_ | with_reducible refine z_ll ?_ | with_reducible refine e_lc ?_ | with_reducible refine e_sset ?_ | with_reducible refine g_end ?_ | with_reducible refine f_fix ?_
  | with_reducible refine t_nm ?_ | with_reducible refine t_tp ?_ | with_reducible refine t_nil ?_ | with_reducible refine t_cons ?_
  | with_reducible refine u_bl ?_ | with_reducible refine u_int ?_ | with_reducible refine u_non ?_ | with_reducible refine u_tupN ?_ | with_reducible refine u_tupC ?_ | with_reducible refine u_lstN ?_ | with_reducible refine u_lstC ?_ | with_reducible refine u_tup ?_ | with_reducible refine u_lst ?_
  | with_reducible refine if_tt ?_ | with_reducible refine if_ff ?_ | with_reducible refine if_nf ?_ | with_reducible refine if_nt ?_ | ((((((((((((((((((with_reducible refine if_dec (fun _ => ?_) (fun _ => ?_)) <;> try (exfalso; omega))) <;> try (exfalso; omega))) <;> try (exfalso; omega))) <;> try (exfalso; omega))) <;> try (exfalso; omega))) <;> try (exfalso; omega))) <;> try (exfalso; omega))) <;> try (exfalso; omega))) <;> try (exfalso; omega)) | ((((((((((((((((((with_reducible refine if_ndec (fun _ => ?_) (fun _ => ?_)) <;> try (exfalso; omega))) <;> try (exfalso; omega))) <;> try (exfalso; omega))) <;> try (exfalso; omega))) <;> try (exfalso; omega))) <;> try (exfalso; omega))) <;> try (exfalso; omega))) <;> try (exfalso; omega))) <;> try (exfalso; omega)) | ((((((((((((((((((with_reducible refine if_ne0 (fun _ => ?_) (fun _ => ?_)) <;> try (exfalso; omega))) <;> try (exfalso; omega))) <;> try (exfalso; omega))) <;> try (exfalso; omega))) <;> try (exfalso; omega))) <;> try (exfalso; omega))) <;> try (exfalso; omega))) <;> try (exfalso; omega))) <;> try (exfalso; omega))
  | with_reducible refine c_lt ?_ | with_reducible refine c_gt ?_ | with_reducible refine c_le ?_ | with_reducible refine c_ge ?_ | with_reducible refine c_eq ?_ | with_reducible refine c_ne ?_
  | with_reducible refine b_add ?_ | with_reducible refine b_sub ?_ | with_reducible refine f_lc1 ?_ | with_reducible refine f_lc2 ?_ | with_reducible refine f_lc3 ?_ | with_reducible refine f_lc4 ?_ | with_reducible refine f_lc5 ?_ | with_reducible refine f_lc6 ?_ | with_reducible refine f_lenT ?_ | with_reducible refine f_lenL ?_ | with_reducible refine f_int ?_ | with_reducible refine f_abs ?_
  | refine sz_ok rfl ?_ | ((with_reducible refine b_pow ?_ ?_); focus (exact ⟨by decide, by decide, by decide⟩)) | with_reducible refine d_tup ?_ | with_reducible refine d_rev ?_ | with_reducible refine m_f ?_ | with_reducible refine m_t ?_ | with_reducible refine ⟨_, rfl, ?_⟩)
local macro_rules | `(tactic| walk_at "m2") => `(tactic| first
  | walk_at "m1" | ((with_reducible refine if_nne0 (fun _ => ?_) (fun _ => ?_)) <;> try (exfalso; omega)) | with_reducible refine b_and ?_ | with_reducible refine b_or ?_ | with_reducible refine b_xor ?_ | with_reducible refine w_bits ?_ | with_reducible refine m_bits ?_ | with_reducible refine x_aug rfl ?_ | with_reducible refine g_add ?_ | with_reducible refine g_or ?_ | with_reducible refine g_xor ?_ | with_reducible refine isn_1 ?_ | with_reducible refine isn_2 ?_ | with_reducible refine isn_3 ?_ | with_reducible refine isn_4 ?_ | with_reducible refine isn_5 ?_ | with_reducible refine isn_6 ?_ | with_reducible refine isn_7 ?_ | with_reducible refine isn_8 ?_ | with_reducible refine isn_9 ?_ | with_reducible refine isn_10 ?_ | with_reducible refine c_eqS ?_ | with_reducible refine c_neS ?_ | with_reducible refine f_tupL ?_ | with_reducible refine w_and getE ?_ | with_reducible refine w_and mid_get ?_ | with_reducible refine w_and (by assumption) ?_ | with_reducible refine f_max2 ?_ | with_reducible refine f_min2 ?_ | with_reducible refine i_ref (by assumption) rfl ?_ | refine i_lst rfl ?_ | refine i_at rfl ?_ | with_reducible refine i_ref' (by assumption) rfl ?_ | ((refine s_rf (by first | assumption | exact List.getElem?_set_self (by assumption)) rfl ?_); try simp only [List.set_cons_succ, List.set_cons_zero, List.set_set])
  | ((with_reducible refine b_mul ?_ ?_); focus (exact mul_ok (by omega) (by omega))) | ((with_reducible refine b_div ?_ ?_); focus (exact div_ok (by omega) (by omega))) | ((with_reducible refine b_mod ?_ ?_); focus omega))

/-! ### papers -/
def wP (fi : Nat) (a c e s g : D) : Str := if wG fi a c e s g = "" then "paper form" else wG fi a c e s g
theorem wP_ne {fi : Nat} {a c e s g : D} {z : Str} (h : wG fi a c e s g = z) (hg : z ≠ "") : wP fi a c e s g = z := by unfold wP; rw [h, if_neg hg]
theorem wP_0 {fi : Nat} {a c e s g : D} (h : wG fi a c e s g = "") : wP fi a c e s g = "paper form" := by unfold wP; rw [if_pos h]
def isTup : D → Bool
  | .tup _ => true
  | _ => false
def okW (m : Int) : D → Bool
  | .tup xs => !xs.isEmpty && xs.all (inC m)
  | _ => false
def okR (m : Int) : D → Bool
  | .tup xs => xs.all (inC m) && !(List.range (xs.length - 1)).any (fallAt xs)
  | _ => false
def okSt (m : Int) (k : Nat) (a b : D) : Bool := inC m a && okR k b
def okStep (m : Int) (k : Nat) : D → Bool
  | .tup [a, b, c] => isInt c && okSt m k a b
  | _ => false
theorem rng_falls {xs : List D} : rngL 0 ((xs.length : Int) - 1) = (List.range (xs.length - 1)).map fun i => D.int (0 + (i : Nat)) := by
  unfold rngL; congr 1; congr 1; omega
def falls0 (xs : List D) : D → Bool
  | .int k => fallAt xs k.toNat
  | _ => false
theorem any0 {xs : List D} : ((List.range (xs.length - 1)).map fun i => D.int (0 + (i : Nat))).any (falls0 xs) = (List.range (xs.length - 1)).any (fallAt xs) := by
  rw [any_rng]
  congr 1
  funext i
  show fallAt xs (0 + (i : Int)).toNat = _
  rw [show (0 + (i : Int)).toNat = i by omega]
theorem ints_at {xs : List D} {m : Int} (h : xs.all (inC m) = true) (k : Nat) (hk : k < xs.length) : ∃ i, xs[k] = .int i := by
  have := List.all_eq_true.mp h _ (List.getElem_mem hk)
  cases hx : xs[k] with
  | int i => exact ⟨i, rfl⟩
  | _ => rw [hx] at this; cases this
theorem fall_is {xs : List D} {k : Nat} {i j : Int} (h : k + 1 < xs.length) (h1 : xs[k] = .int i) (h2 : xs[k + 1] = .int j) : fallAt xs k = decide (j ≤ i) := by
  unfold fallAt
  rw [List.getElem?_eq_getElem (by omega), List.getElem?_eq_getElem (by omega), h1, h2]
theorem accept_walk_says {n B fi : Nat} {a c e s g x y : D} (hB : B ≤ 1000) (va : Vl B a) (vc : Vl B c) (ve : Vl B e) (vs : Vl B s) (vg : Vl B g) (vx : Vl B x) (vy : Vl B y) (hf : dueK a c e = "" → a = .int (fi : Nat))
    (hx : dueK a c e = "" → okW fi x = false ∨ isInt y = false) : Says (n + 6) 11 [a, c, e, s, g, x, y] (wP fi a c e s g) := by
  intro S Q E h0 hE
  refine run_of f_accept_walk rfl rfl ?_
  unfold f_accept_walk b_accept_walk
  dsimp only
  have hx : ∀ z, dueK a c e = z → z = "" → okW fi x = false ∨ isInt y = false := fun z h1 h2 => hx (h1.trans h2)
  have hd : wG fi a c e s g = "" → dueK a c e = "" := fun h => by
    cases hz : decide (dueK a c e = "") with
    | true => exact of_decide_eq_true hz
    | false =>
      have hz := of_decide_eq_false hz
      have e1 : wS fi a c e s = dueK a c e := by unfold wS; rw [fw_ne hz]
      unfold wG at h
      rw [e1, fw_ne hz] at h
      exact absurd h hz
  refine three_ok (fi := fi) hB va vc ve vs vg hf rfl rfl rfl rfl rfl (fun z x h1 h2 h3 => no_word hE (by rw [wP_ne h1 h2]; exact h3)) fun ds ks st gl ea ec ee es eg hc hst hgl hw => ?_
  have hx2 := hx _ rfl (hd hw)
  clear hx
  subst ea ec ee es eg
  have hx := hx2
  clear hx2
  have bad : E ⟨.paper, .str "form"⟩ S := no_word hE (by rw [wP_0 hw]; rfl)
  clear h0 hE hd
  cases vx with
  | tup xs hl2 hxs =>
    cases xs with
    | nil =>
      repeat' walk_at "m2"
      exact bad
    | cons z zs =>
      have hsz : (z :: zs).length ≤ sizeLine := Nat.le_of_lt (sz4096 (by omega))
      have hok : okW fi (.tup (z :: zs)) = (z :: zs).all (inC fi) := by simp [okW]
      rw [hok] at hx
      repeat' walk_at "m2"
      refine is_integer_ok' vy ?_
      cases hy : isInt y with
      | false =>
        repeat' walk_at "m2"
        exact bad
      | true =>
        have hx := hx.resolve_right (by rw [hy]; simp)
        generalize z :: zs = xs at hx hxs hsz
        repeat' walk_at "m2"
        refine gen_map (fun z => .bl (inC fi z)) hsz (fun z hz acc Q2 hacc h => ?_) ?_
        · repeat' (first | (refine in_turn rfl (hxs z hz) rfl (fun Q' h => e_var rfl h) ?_) | walk_at "m2")
          exact ⟨hacc, rfl, h⟩
        · repeat' walk_at "m2"
          refine f_allL ?_
          rw [hx]
          repeat' walk_at "m2"
          exact bad
  | _ =>
    repeat' walk_at "m2"
    exact bad
theorem due_of {fi : Nat} {a c e s g : D} (h : wG fi a c e s g = "") : dueK a c e = "" := by
  cases hz : decide (dueK a c e = "") with
  | true => exact of_decide_eq_true hz
  | false =>
    have hz := of_decide_eq_false hz
    have e1 : wS fi a c e s = dueK a c e := by unfold wS; rw [fw_ne hz]
    unfold wG at h
    rw [e1, fw_ne hz] at h
    exact absurd h hz
theorem accept_closed_says {n B fi : Nat} {a c e s g x : D} (hB : B ≤ 1000) (va : Vl B a) (vc : Vl B c) (ve : Vl B e) (vs : Vl B s) (vg : Vl B g) (vx : Vl B x) (hf : dueK a c e = "" → a = .int (fi : Nat))
    (hx : dueK a c e = "" → okR fi x = false) : Says (n + 6) 12 [a, c, e, s, g, x] (wP fi a c e s g) := by
  intro S Q E h0 hE
  refine run_of f_accept_closed rfl rfl ?_
  unfold f_accept_closed b_accept_closed
  dsimp only
  refine three_ok (fi := fi) hB va vc ve vs vg hf rfl rfl rfl rfl rfl (fun z x h1 h2 h3 => no_word hE (by rw [wP_ne h1 h2]; exact h3)) fun ds ks st gl ea ec ee es eg hc hst hgl hw => ?_
  have hx2 := hx (due_of hw)
  clear hx
  subst ea ec ee es eg
  have hx := hx2
  clear hx2
  have bad : E ⟨.paper, .str "form"⟩ S := no_word hE (by rw [wP_0 hw]; rfl)
  clear h0 hE
  cases vx with
  | tup xs hl2 hxs =>
    have hsz : xs.length ≤ sizeLine := Nat.le_of_lt (sz4096 (by omega))
    repeat' walk_at "m2"
    refine gen_map (fun z => .bl (inC fi z)) hsz (fun z hz acc Q2 hacc h => ?_) ?_
    · repeat' (first | (refine in_turn rfl (hxs z hz) rfl (fun Q' h => e_var rfl h) ?_) | walk_at "m2")
      exact ⟨hacc, rfl, h⟩
    · repeat' walk_at "m2"
      refine f_allL ?_
      repeat' walk_at "m2"
      refine if_nb (fun hi => ?_) (fun hi => ?_)
      · repeat' walk_at "m2"
        exact bad
      · have hfa : (List.range (xs.length - 1)).any (fallAt xs) = true := by simpa [okR, hi] using hx
        repeat' walk_at "m2"
        refine r_two ⟨by decide, by decide⟩ ⟨by omega, by omega⟩ ?_
        repeat' walk_at "m2"
        rw [rng_falls]
        refine gen_if (falls0 xs) (fun _ => .int 1) ?_ (fun z hz acc Q2 hacc h1 h2 => ?_) ?_
        · rw [List.length_map, List.length_range]
          omega
        · obtain ⟨k, hk, rfl⟩ := List.mem_map.mp hz
          rw [List.mem_range] at hk
          rw [Int.zero_add] at h1 h2 ⊢
          obtain ⟨i, hi1⟩ := ints_at hi k (by omega)
          obtain ⟨j, hj1⟩ := ints_at hi (k + 1) (by omega)
          have hF := fall_is (by omega) hi1 hj1
          repeat' walk_at "m2"
          refine i_at (at_tup (by omega) hi1) ?_
          repeat' walk_at "m2"
          refine i_at (by rw [show (k : Int) + 1 = ((k + 1 : Nat) : Int) by omega]; exact at_tup (by omega) hj1) ?_
          repeat' walk_at "m2"
          · rename_i h
            exact ⟨hacc, rfl, h1 (hF.trans (decide_eq_true h))⟩
          · rename_i h
            exact ⟨rfl, h2 (hF.trans (decide_eq_false h))⟩
        · repeat' walk_at "m2"
          rw [emp_filter, any0, hfa, Bool.not_true]
          refine if_t0 rfl ?_
          repeat' walk_at "m2"
          exact bad
  | _ =>
    repeat' walk_at "m2"
    exact bad
theorem is_standing_ok {n B k : Nat} {m : Int} {es : List D} {a b : D} {S : Store} {Q : MK} {E : Exc → Store → Prop} (hB : B ≤ 1000) (hk : es.length = k) (va : Vl B a) (vb : Vl B b) (q : Q (.bl (okSt m k a b)) S) : R (n + 2) 14 [.int m, .tup es, .tup [a, b]] S Q E := by
  refine run_of f_is_standing rfl rfl ?_
  unfold f_is_standing b_is_standing
  dsimp only
  repeat' walk_at "m2"
  · rename_i h
    exact absurd rfl h
  refine is_integer_ok' va ?_
  cases ha : isInt a with
  | false =>
    have e : okSt m k a b = false := by
      have : inC m a = false := by cases a <;> first | rfl | (simp [isInt] at ha)
      simp [okSt, this]
    rw [e] at q
    repeat' walk_at "m2"
    exact q
  | true =>
    obtain ⟨i, rfl⟩ := isInt_ex ha
    cases vb with
    | tup xs hl hx =>
      have hsz : xs.length ≤ sizeLine := Nat.le_of_lt (sz4096 (by omega))
      have fall : inC m (.int i) = false → Q (.bl false) S := fun h => by simpa [okSt, h] using q
      have go : inC m (.int i) = true → Q (.bl (okR k (.tup xs))) S := fun h => by simpa [okSt, h] using q
      clear q
      repeat' walk_at "m2"
      · exact fall (by rw [inC_of]; simp; omega)
      · have go := go (by rw [inC_of]; simp; omega)
        refine gen_map (fun z => .bl (inC k z)) hsz (fun z hz acc Q2 hacc h => ?_) ?_
        · repeat' (first | (refine in_turn (m := ((k : Nat) : Int)) rfl (hx z hz) rfl (fun Q' h => by (repeat' walk_at "m2"); rw [hk]; exact h) ?_) | walk_at "m2")
          exact ⟨hacc, rfl, h⟩
        · repeat' walk_at "m2"
          refine f_allL ?_
          repeat' walk_at "m2"
          refine if_nb (fun hi => ?_) (fun hi => ?_)
          · repeat' walk_at "m2"
            simpa only [okR, hi, Bool.false_and] using go
          · repeat' walk_at "m2"
            refine r_two ⟨by decide, by decide⟩ ⟨by omega, by omega⟩ ?_
            repeat' walk_at "m2"
            rw [rng_falls]
            refine gen_if (falls0 xs) (fun _ => .int 1) ?_ (fun z hz acc Q2 hacc h1 h2 => ?_) ?_
            · rw [List.length_map, List.length_range]
              omega
            · obtain ⟨k, hk, rfl⟩ := List.mem_map.mp hz
              rw [List.mem_range] at hk
              rw [Int.zero_add] at h1 h2 ⊢
              obtain ⟨i, hi1⟩ := ints_at hi k (by omega)
              obtain ⟨j, hj1⟩ := ints_at hi (k + 1) (by omega)
              have hF := fall_is (by omega) hi1 hj1
              repeat' walk_at "m2"
              refine i_at (at_tup (by omega) hi1) ?_
              repeat' walk_at "m2"
              refine i_at (by rw [show (k : Int) + 1 = ((k + 1 : Nat) : Int) by omega]; exact at_tup (by omega) hj1) ?_
              repeat' walk_at "m2"
              · rename_i h
                exact ⟨hacc, rfl, h1 (hF.trans (decide_eq_true h))⟩
              · rename_i h
                exact ⟨rfl, h2 (hF.trans (decide_eq_false h))⟩
            · repeat' walk_at "m2"
              rw [emp_filter, any0, Bool.not_not]
              simpa only [okR, hi, Bool.true_and] using go
      · exact fall (by rw [inC_of]; simp; omega)
    | _ =>
      have e : ∀ b : D, isTup b = false → okSt m k (.int i) b = false := fun b h => by
        cases b <;> first | (simp [isTup] at h; done) | simp [okSt, okR]
      rw [e _ rfl] at q
      repeat' walk_at "m2"
      exact q

end Lw37

set_option maxHeartbeats 2000000
namespace Lw37
open PySem PySem.Spec Mp L2
local macro_rules | `(tactic| walk_at "m1") => `(tactic| first
  | with_reducible refine e_var rfl ?_ | with_reducible refine e_con ?_ | with_reducible refine e_bin ?_ | with_reducible refine e_neg ?_ | with_reducible refine e_not ?_ | with_reducible refine e_cmp ?_ | with_reducible refine e_ch2 ?_ | with_reducible refine e_ch3 ?_ | with_reducible refine e_isn ?_ | with_reducible refine e_and ?_ | with_reducible refine e_or ?_ | with_reducible refine e_ite ?_
  | with_reducible refine e_tup ?_ | with_reducible refine e_lst ?_ | with_reducible refine e_callv1 rfl ?_ | with_reducible refine e_call0 ?_ | with_reducible refine e_call1 ?_ | with_reducible refine e_blt ?_ | with_reducible refine e_isi ?_ | with_reducible refine e_lrng ?_ | with_reducible refine e_mth ?_ | with_reducible refine e_idx ?_ | with_reducible refine e_slc ?_ | with_reducible refine e_rev ?_ | with_reducible refine e_yes ?_
  | with_reducible refine l_nil ?_ | with_reducible refine l_cons ?_ | with_reducible refine o_abs ?_ | with_reducible refine o_some ?_
  | with_reducible refine x_nil ?_ | with_reducible refine x_cons ?_ | with_reducible refine x_exp ?_ | with_reducible refine x_set ?_ | with_reducible refine x_ite ?_ | with_reducible refine x_ret ?_ | with_reducible refine x_rse ?_ | with_reducible refine x_pss ?_ | with_reducible refine x_brk ?_ | with_reducible refine x_cnt ?_ | with_reducible refine x_retN ?_ | with_reducible refine x_sset ?_ | with_reducible refine x_tryw ?_
  | with_reducible refine x_for ?_ | with_reducible refine x_whl ?_ | with_reducible refine v_itr ?_ | with_reducible refine v_rng ?_ | with_reducible refine v_zip ?_ | with_reducible refine v_rngD ?_ | with_reducible refine v_enm ?_ | with_reducible refine n_tup ?_ | with_reducible refine n_lst ?_ | with_reducible refine z_tup ?_ | with_reducible refine z_tl ?_ | with_reducible refine z_lt ?_ | with_reducible refine z_ll ?_ | with_reducible refine e_lc ?_ | with_reducible refine e_sset ?_ | with_reducible refine g_end ?_ | with_reducible refine f_fix ?_
  | with_reducible refine t_nm ?_ | with_reducible refine t_tp ?_ | with_reducible refine t_nil ?_ | with_reducible refine t_cons ?_
  | with_reducible refine u_bl ?_ | with_reducible refine u_int ?_ | with_reducible refine u_non ?_ | with_reducible refine u_tupN ?_ | with_reducible refine u_tupC ?_ | with_reducible refine u_lstN ?_ | with_reducible refine u_lstC ?_ | with_reducible refine u_tup ?_ | with_reducible refine u_lst ?_
  | with_reducible refine if_tt ?_ | with_reducible refine if_ff ?_ | with_reducible refine if_nf ?_ | with_reducible refine if_nt ?_ | ((((((((((((((((((with_reducible refine if_dec (fun _ => ?_) (fun _ => ?_)) <;> try (exfalso; omega))) <;> try (exfalso; omega))) <;> try (exfalso; omega))) <;> try (exfalso; omega))) <;> try (exfalso; omega))) <;> try (exfalso; omega))) <;> try (exfalso; omega))) <;> try (exfalso; omega))) <;> try (exfalso; omega)) | ((((((((((((((((((with_reducible refine if_ndec (fun _ => ?_) (fun _ => ?_)) <;> try (exfalso; omega))) <;> try (exfalso; omega))) <;> try (exfalso; omega))) <;> try (exfalso; omega))) <;> try (exfalso; omega))) <;> try (exfalso; omega))) <;> try (exfalso; omega))) <;> try (exfalso; omega))) <;> try (exfalso; omega)) | ((((((((((((((((((with_reducible refine if_ne0 (fun _ => ?_) (fun _ => ?_)) <;> try (exfalso; omega))) <;> try (exfalso; omega))) <;> try (exfalso; omega))) <;> try (exfalso; omega))) <;> try (exfalso; omega))) <;> try (exfalso; omega))) <;> try (exfalso; omega))) <;> try (exfalso; omega))) <;> try (exfalso; omega))
  | with_reducible refine c_lt ?_ | with_reducible refine c_gt ?_ | with_reducible refine c_le ?_ | with_reducible refine c_ge ?_ | with_reducible refine c_eq ?_ | with_reducible refine c_ne ?_
  | with_reducible refine b_add ?_ | with_reducible refine b_sub ?_ | with_reducible refine f_lc1 ?_ | with_reducible refine f_lc2 ?_ | with_reducible refine f_lc3 ?_ | with_reducible refine f_lc4 ?_ | with_reducible refine f_lc5 ?_ | with_reducible refine f_lc6 ?_ | with_reducible refine f_lenT ?_ | with_reducible refine f_lenL ?_ | with_reducible refine f_int ?_ | with_reducible refine f_abs ?_
  | refine sz_ok rfl ?_ | ((with_reducible refine b_pow ?_ ?_); focus (exact ⟨by decide, by decide, by decide⟩)) | with_reducible refine d_tup ?_ | with_reducible refine d_rev ?_ | with_reducible refine m_f ?_ | with_reducible refine m_t ?_ | with_reducible refine ⟨_, rfl, ?_⟩)
local macro_rules | `(tactic| walk_at "m2") => `(tactic| first
  | walk_at "m1" | ((with_reducible refine if_nne0 (fun _ => ?_) (fun _ => ?_)) <;> try (exfalso; omega)) | with_reducible refine b_and ?_ | with_reducible refine b_or ?_ | with_reducible refine b_xor ?_ | with_reducible refine w_bits ?_ | with_reducible refine m_bits ?_ | with_reducible refine x_aug rfl ?_ | with_reducible refine g_add ?_ | with_reducible refine g_or ?_ | with_reducible refine g_xor ?_ | with_reducible refine isn_1 ?_ | with_reducible refine isn_2 ?_ | with_reducible refine isn_3 ?_ | with_reducible refine isn_4 ?_ | with_reducible refine isn_5 ?_ | with_reducible refine isn_6 ?_ | with_reducible refine isn_7 ?_ | with_reducible refine isn_8 ?_ | with_reducible refine isn_9 ?_ | with_reducible refine isn_10 ?_ | with_reducible refine c_eqS ?_ | with_reducible refine c_neS ?_ | with_reducible refine f_tupL ?_ | with_reducible refine w_and getE ?_ | with_reducible refine w_and mid_get ?_ | with_reducible refine w_and (by assumption) ?_ | with_reducible refine f_max2 ?_ | with_reducible refine f_min2 ?_ | with_reducible refine i_ref (by assumption) rfl ?_ | refine i_lst rfl ?_ | refine i_at rfl ?_ | with_reducible refine i_ref' (by assumption) rfl ?_ | ((refine s_rf (by first | assumption | exact List.getElem?_set_self (by assumption)) rfl ?_); try simp only [List.set_cons_succ, List.set_cons_zero, List.set_set])
  | ((with_reducible refine b_mul ?_ ?_); focus (exact mul_ok (by omega) (by omega))) | ((with_reducible refine b_div ?_ ?_); focus (exact div_ok (by omega) (by omega))) | ((with_reducible refine b_mod ?_ ?_); focus omega))

theorem okStep_len {m : Int} {k : Nat} {ys : List D} (h : ys.length ≠ 3) : okStep m k (.tup ys) = false := by
  match ys, h with
  | [], _ => rfl
  | [_], _ => rfl
  | [_, _], _ => rfl
  | [_, _, _], h => exact absurd rfl h
  | _ :: _ :: _ :: _ :: _, _ => rfl
def dbl : List D := [.tup [.int 0, .tup [], .int 0], .tup [.int 0, .tup [], .int 1]]
/-- one row of a paper of steps -/
theorem step_ok {n B : Nat} {m : Int} {env : DEnv} {ks : List D} {z : D} {S : Store} {E : Exc → Store → Prop} {nx bk ct : DEnv → Store → Prop} {rt : MK} (hB : B ≤ 1000) (v : Vl B z) (h0 : env[0]? = some (some (.int m))) (h2 : env[2]? = some (some (.tup ks))) (h7 : env[7]? = some (some z))
    (bad : okStep m ks.length z = false → E ⟨.paper, .str "form"⟩ S) (q : okStep m ks.length z = true → nx env S) :
    ex ⟨R (n + 3), none⟩ (fun e _ S1 => E e S1) (.cons (.ite (.or (.not (.isi .tuple (.var 7))) (.or (.cmp .NotEq (.blt .len false (.cons (.var 7) .nil)) (.con (.int 3))) (.not (.call 0 [] (.cons (.idx (.var 7) (.con (.int 2))) .nil))))) (.cons (.rse .paper (.con (.str "form")))
  .nil) .nil)
  (.cons (.ite (.not (.call 14 [] (.cons (.var 0) (.cons (.var 2) (.cons (.slc false (.var 7) .abs (.cons (.con (.int 2)) .nil)) .nil))))) (.cons (.rse .paper (.con (.str "form")))
  .nil) .nil)
  .nil)) env S ⟨nx, rt, bk, ct⟩ := by
  refine x_cons ?_
  refine x_ite ?_
  refine e_or ?_
  refine e_not ?_
  refine e_isi ?_
  refine e_var h7 ?_
  cases v with
  | tup ys hyl hy =>
    have e7 : ∀ {c : C} {E' : EK} {Q : MK}, Q (.tup ys) S → ev c E' (.var 7) env S Q := fun q => e_var h7 q
    by_cases hl : ys.length = 3
    · obtain ⟨a, b, e, rfl⟩ := three_of hl
      have es : okStep m ks.length (.tup [a, b, e]) = (isInt e && okSt m ks.length a b) := rfl
      rw [es] at bad q
      refine ⟨true, rfl, ?_⟩
      refine u_bl ?_
      refine u_bl ?_
      refine if_f0 rfl ?_
      refine e_or ?_
      refine e_cmp ?_
      refine e_blt ?_
      refine l_cons ?_
      refine e7 ?_
      refine l_nil ?_
      refine f_lenT ?_
      refine e_con ?_
      refine c_ne ?_
      refine u_bl ?_
      refine if_f0 rfl ?_
      refine e_not ?_
      refine e_call0 ?_
      refine l_cons ?_
      refine e_idx ?_
      refine e7 ?_
      refine e_con ?_
      refine i_at rfl ?_
      refine l_nil ?_
      refine is_integer_ok' (hy e (by simp)) ?_
      refine u_bl ?_
      refine u_bl ?_
      refine if_nb (fun he => ?_) (fun he => ?_)
      · refine x_cons ?_
        refine x_rse ?_
        refine e_con ?_
        exact bad (by rw [he]; rfl)
      · rw [he, Bool.true_and] at bad q
        refine x_nil ?_
        refine x_cons ?_
        refine x_ite ?_
        refine e_not ?_
        refine e_call0 ?_
        refine l_cons ?_
        refine e_var h0 ?_
        refine l_cons ?_
        refine e_var h2 ?_
        refine l_cons ?_
        refine e_slc ?_
        refine e7 ?_
        refine o_abs ?_
        refine o_some ?_
        refine e_con ?_
        refine ⟨_, rfl, ?_⟩
        refine d_tup ?_
        refine l_nil ?_
        rw [cut2]
        refine is_standing_ok hB rfl (hy a (by simp)) (hy b (by simp)) ?_
        refine u_bl ?_
        refine u_bl ?_
        refine if_nb (fun hs => ?_) (fun hs => ?_)
        · refine x_cons ?_
          refine x_rse ?_
          refine e_con ?_
          exact bad hs
        · refine x_nil ?_
          refine x_nil ?_
          exact q hs
    · refine ⟨true, rfl, ?_⟩
      refine u_bl ?_
      refine u_bl ?_
      refine if_f0 rfl ?_
      refine e_or ?_
      refine e_cmp ?_
      refine e_blt ?_
      refine l_cons ?_
      refine e7 ?_
      refine l_nil ?_
      refine f_lenT ?_
      refine e_con ?_
      refine c_ne ?_
      have : decide ((ys.length : Int) = 3) = false := decide_eq_false (by omega)
      rw [this]
      refine u_bl ?_
      refine if_t0 rfl ?_
      refine u_bl ?_
      refine if_t0 rfl ?_
      refine x_cons ?_
      refine x_rse ?_
      refine e_con ?_
      exact bad (okStep_len hl)
  | _ =>
    refine ⟨false, rfl, ?_⟩
    refine u_bl ?_
    refine u_bl ?_
    refine if_t0 rfl ?_
    refine u_bl ?_
    refine if_t0 rfl ?_
    refine x_cons ?_
    refine x_rse ?_
    refine e_con ?_
    exact bad rfl
theorem c_geD {S : Store} {Q : MK} (q : Q (.bl true) S) : cop .GtE (.tup [.int 0, .tup []]) (.tup [.int 0, .tup []]) S Q :=
  ⟨⟨flat_okD (k := 2) (by decide) rfl, flat_okD (k := 2) (by decide) rfl, rfl, by simp [D.toP, res]⟩, q⟩
theorem accept_steps_says {n B fi : Nat} {a c e s g x y : D} (hB : B ≤ 1000) (va : Vl B a) (vc : Vl B c) (ve : Vl B e) (vs : Vl B s) (vg : Vl B g) (vx : Vl B x) (vy : Vl B y) (hf : dueK a c e = "" → a = .int (fi : Nat))
    (hx : dueK a c e = "" → isTup x = false ∨ isInt y = false ∨ (∃ z, x = .tup [z] ∧ okStep fi (kl e) z = false) ∨ x = .tup dbl) : Says (n + 6) 13 [a, c, e, s, g, x, y] (wP fi a c e s g) := by
  intro S Q E h0 hE
  refine run_of f_accept_steps rfl rfl ?_
  unfold f_accept_steps b_accept_steps
  dsimp only
  refine three_ok (fi := fi) hB va vc ve vs vg hf rfl rfl rfl rfl rfl (fun z x h1 h2 h3 => no_word hE (by rw [wP_ne h1 h2]; exact h3)) fun ds ks st gl ea ec ee es eg hc hst hgl hw => ?_
  have hx2 := hx (due_of hw)
  clear hx
  subst ea ec ee es eg
  have hx := hx2
  clear hx2
  have bad : E ⟨.paper, .str "form"⟩ S := no_word hE (by rw [wP_0 hw]; rfl)
  have ek : kl (.tup (nI ks)) = ks.length := nI_len
  rw [ek] at hx
  have hks : (nI ks).length = ks.length := nI_len
  clear h0 hE
  cases vx with
  | tup xs hl2 hxs =>
    repeat' walk_at "m2"
    refine is_integer_ok' vy ?_
    cases hy : isInt y with
    | false =>
      repeat' walk_at "m2"
      exact bad
    | true =>
      have hx := (hx.resolve_left (by simp [isTup])).resolve_left (by rw [hy]; simp)
      repeat' walk_at "m2"
      rcases hx with ⟨z, ez, hz⟩ | ez
      · injection ez with ez
        subst ez
        refine fl_cons ?_
        refine t_nm ?_
        exact step_ok hB (hxs z (by simp)) rfl rfl rfl (fun _ => bad) fun h => by rw [hks, hz] at h; cases h
      · injection ez with ez
        subst ez
        refine fl_cons ?_
        refine t_nm ?_
        refine step_ok hB (hxs _ (by simp [dbl])) rfl rfl rfl (fun _ => bad) fun _ => ?_
        refine fl_cons ?_
        refine t_nm ?_
        refine step_ok hB (hxs _ (by simp [dbl])) rfl rfl rfl (fun _ => bad) fun _ => ?_
        refine fl_nil ?_
        clear hxs
        repeat' walk_at "m2"
        refine r_two ⟨by decide, by decide⟩ ⟨by decide, by decide⟩ ?_
        refine ⟨_, rfl, ?_⟩
        have er : rngL 0 (((dbl.length : Nat) : Int) - 1) = [.int 0] := rfl
        rw [er]
        refine gl_cons ?_
        refine t_nm ?_
        repeat' walk_at "m2"
        refine c_geD ?_
        refine u_bl ?_
        refine if_t0 rfl ?_
        refine g_end ?_
        refine e_con ?_
        refine ⟨by rw [sizeLine_eq]; simp, rfl, ?_⟩
        refine gl_nil ?_
        repeat' walk_at "m2"
        exact bad
  | _ =>
    repeat' walk_at "m2"
    exact bad

end Lw37

set_option maxHeartbeats 2000000
namespace Lw37
open PySem PySem.Spec Mp L2
local macro_rules | `(tactic| walk_at "m1") => `(tactic| first
  | with_reducible refine e_var rfl ?_ | with_reducible refine e_con ?_ | with_reducible refine e_bin ?_ | with_reducible refine e_neg ?_ | with_reducible refine e_not ?_ | with_reducible refine e_cmp ?_ | with_reducible refine e_ch2 ?_ | with_reducible refine e_ch3 ?_ | with_reducible refine e_isn ?_ | with_reducible refine e_and ?_ | with_reducible refine e_or ?_ | with_reducible refine e_ite ?_
  | with_reducible refine e_tup ?_ | with_reducible refine e_lst ?_ | with_reducible refine e_callv1 rfl ?_ | with_reducible refine e_call0 ?_ | with_reducible refine e_call1 ?_ | with_reducible refine e_blt ?_ | with_reducible refine e_isi ?_ | with_reducible refine e_lrng ?_ | with_reducible refine e_mth ?_ | with_reducible refine e_idx ?_ | with_reducible refine e_slc ?_ | with_reducible refine e_rev ?_ | with_reducible refine e_yes ?_
  | with_reducible refine l_nil ?_ | with_reducible refine l_cons ?_ | with_reducible refine o_abs ?_ | with_reducible refine o_some ?_
  | with_reducible refine x_nil ?_ | with_reducible refine x_cons ?_ | with_reducible refine x_exp ?_ | with_reducible refine x_set ?_ | with_reducible refine x_ite ?_ | with_reducible refine x_ret ?_ | with_reducible refine x_rse ?_ | with_reducible refine x_pss ?_ | with_reducible refine x_brk ?_ | with_reducible refine x_cnt ?_ | with_reducible refine x_retN ?_ | with_reducible refine x_sset ?_ | with_reducible refine x_tryw ?_
  | with_reducible refine x_for ?_ | with_reducible refine x_whl ?_ | with_reducible refine v_itr ?_ | with_reducible refine v_rng ?_ | with_reducible refine v_zip ?_ | with_reducible refine v_rngD ?_ | with_reducible refine v_enm ?_ | with_reducible refine n_tup ?_ | with_reducible refine n_lst ?_ | with_reducible refine z_tup ?_ | with_reducible refine z_tl ?_ | with_reducible refine z_lt ?_ | with_reducible refine z_ll ?_ | with_reducible refine e_lc ?_ | with_reducible refine e_sset ?_ | with_reducible refine g_end ?_ | with_reducible refine f_fix ?_
  | with_reducible refine t_nm ?_ | with_reducible refine t_tp ?_ | with_reducible refine t_nil ?_ | with_reducible refine t_cons ?_
  | with_reducible refine u_bl ?_ | with_reducible refine u_int ?_ | with_reducible refine u_non ?_ | with_reducible refine u_tupN ?_ | with_reducible refine u_tupC ?_ | with_reducible refine u_lstN ?_ | with_reducible refine u_lstC ?_ | with_reducible refine u_tup ?_ | with_reducible refine u_lst ?_
  | with_reducible refine if_tt ?_ | with_reducible refine if_ff ?_ | with_reducible refine if_nf ?_ | with_reducible refine if_nt ?_ | ((((((((((((((((((with_reducible refine if_dec (fun _ => ?_) (fun _ => ?_)) <;> try (exfalso; omega))) <;> try (exfalso; omega))) <;> try (exfalso; omega))) <;> try (exfalso; omega))) <;> try (exfalso; omega))) <;> try (exfalso; omega))) <;> try (exfalso; omega))) <;> try (exfalso; omega))) <;> try (exfalso; omega)) | ((((((((((((((((((with_reducible refine if_ndec (fun _ => ?_) (fun _ => ?_)) <;> try (exfalso; omega))) <;> try (exfalso; omega))) <;> try (exfalso; omega))) <;> try (exfalso; omega))) <;> try (exfalso; omega))) <;> try (exfalso; omega))) <;> try (exfalso; omega))) <;> try (exfalso; omega))) <;> try (exfalso; omega)) | ((((((((((((((((((with_reducible refine if_ne0 (fun _ => ?_) (fun _ => ?_)) <;> try (exfalso; omega))) <;> try (exfalso; omega))) <;> try (exfalso; omega))) <;> try (exfalso; omega))) <;> try (exfalso; omega))) <;> try (exfalso; omega))) <;> try (exfalso; omega))) <;> try (exfalso; omega))) <;> try (exfalso; omega))
  | with_reducible refine c_lt ?_ | with_reducible refine c_gt ?_ | with_reducible refine c_le ?_ | with_reducible refine c_ge ?_ | with_reducible refine c_eq ?_ | with_reducible refine c_ne ?_
  | with_reducible refine b_add ?_ | with_reducible refine b_sub ?_ | with_reducible refine f_lc1 ?_ | with_reducible refine f_lc2 ?_ | with_reducible refine f_lc3 ?_ | with_reducible refine f_lc4 ?_ | with_reducible refine f_lc5 ?_ | with_reducible refine f_lc6 ?_ | with_reducible refine f_lenT ?_ | with_reducible refine f_lenL ?_ | with_reducible refine f_int ?_ | with_reducible refine f_abs ?_
  | refine sz_ok rfl ?_ | ((with_reducible refine b_pow ?_ ?_); focus (exact ⟨by decide, by decide, by decide⟩)) | with_reducible refine d_tup ?_ | with_reducible refine d_rev ?_ | with_reducible refine m_f ?_ | with_reducible refine m_t ?_ | with_reducible refine ⟨_, rfl, ?_⟩)
local macro_rules | `(tactic| walk_at "m2") => `(tactic| first
  | walk_at "m1" | ((with_reducible refine if_nne0 (fun _ => ?_) (fun _ => ?_)) <;> try (exfalso; omega)) | with_reducible refine b_and ?_ | with_reducible refine b_or ?_ | with_reducible refine b_xor ?_ | with_reducible refine w_bits ?_ | with_reducible refine m_bits ?_ | with_reducible refine x_aug rfl ?_ | with_reducible refine g_add ?_ | with_reducible refine g_or ?_ | with_reducible refine g_xor ?_ | with_reducible refine isn_1 ?_ | with_reducible refine isn_2 ?_ | with_reducible refine isn_3 ?_ | with_reducible refine isn_4 ?_ | with_reducible refine isn_5 ?_ | with_reducible refine isn_6 ?_ | with_reducible refine isn_7 ?_ | with_reducible refine isn_8 ?_ | with_reducible refine isn_9 ?_ | with_reducible refine isn_10 ?_ | with_reducible refine c_eqS ?_ | with_reducible refine c_neS ?_ | with_reducible refine f_tupL ?_ | with_reducible refine w_and getE ?_ | with_reducible refine w_and mid_get ?_ | with_reducible refine w_and (by assumption) ?_ | with_reducible refine f_max2 ?_ | with_reducible refine f_min2 ?_ | with_reducible refine i_ref (by assumption) rfl ?_ | refine i_lst rfl ?_ | refine i_at rfl ?_ | with_reducible refine i_ref' (by assumption) rfl ?_ | ((refine s_rf (by first | assumption | exact List.getElem?_set_self (by assumption)) rfl ?_); try simp only [List.set_cons_succ, List.set_cons_zero, List.set_set])
  | ((with_reducible refine b_mul ?_ ?_); focus (exact mul_ok (by omega) (by omega))) | ((with_reducible refine b_div ?_ ?_); focus (exact div_ok (by omega) (by omega))) | ((with_reducible refine b_mod ?_ ?_); focus omega))

/-! ### keyrings hold -/
theorem f_lc7 {S : Store} {Q : MK} {m : Bool} {a0 a1 a2 a3 a4 a5 a6 : D} (q : Q (.int 7) S) : blt .len m [.lst [a0, a1, a2, a3, a4, a5, a6]] S Q := ⟨7, rfl, q⟩
local macro_rules | `(tactic| walk_at "m3") => `(tactic| first | with_reducible refine f_lc7 ?_ | walk_at "m2")
theorem told7 {n f i j : Nat} {a b c d e g k : D} {hs : List D} {z : Str} {S : Store} {Q : MK} {E : Exc → Store → Prop} (hS : HH S i j hs) (h : Says n f [a, b, c, d, e, g, k] z) (q : ∀ S1, HH S1 i j hs → Q (.str z) S1) : R (n + 2) 22 [.fn f, .lst [a, b, c, d, e, g, k]] S Q E := by
  refine run_of f_law_told rfl rfl ?_
  unfold f_law_told b_law_told
  dsimp only
  repeat' walk_at "m2"
  refine run_of f_law_asked rfl rfl ?_
  unfold f_law_asked b_law_asked
  dsimp only
  repeat' walk_at "m3"
  refine h _ _ _ (fun hz d ex => ?_) fun e ex hw => ⟨z, hw, ?_⟩
  all_goals repeat' walk_at "m2"
  · rw [← hz]; exact q _ (hS.app ex)
  · exact q _ (hS.app ex)
theorem toldH {n f i j : Nat} {as hs : List D} {z : Str} {S : Store} {Q : MK} {E : Exc → Store → Prop} (h0 : 0 < as.length) (h6 : as.length ≤ 6) (hS : HH S i j hs)
    (h : Says n f as z) (q : ∀ S1, HH S1 i j hs → Q (.str z) S1) : R (n + 2) 22 [.fn f, .lst as] S Q E := told_ok h0 h6 h fun ex => q _ (hS.app ex)
def reps (k : Nat) (z : Str) : List D := List.replicate k (.str z)
theorem reps_add {k l : Nat} {z : Str} : reps k z ++ reps l z = reps (k + l) z := by unfold reps; rw [List.replicate_append_replicate]
theorem reps1 {k : Nat} {z : Str} : reps k z ++ [.str z] = reps (k + 1) z := by rw [← reps_add (k := k) (l := 1)]; rfl
theorem reps_len {k : Nat} {z : Str} : (reps k z).length = k := by unfold reps; simp
theorem reps_flat {k : Nat} {z : Str} : (reps k z).all (flat 0) = true := by
  refine List.all_eq_true.mpr fun x hx => ?_
  rw [(List.mem_replicate.mp hx).2]
  rfl
theorem c_neR {S : Store} {Q : MK} {n k : Nat} {xs : List D} (hS : S[n]? = some (.lst xs)) (hk : k ≤ 60) (h : xs.all (flat k) = true) (q : Q (.bl false) S) : cop .NotEq (.ref n) (.lst xs) S Q := by
  have h1 := c_eqR (Q := fun d _ => d = .bl true) hS hk h rfl
  obtain ⟨o1, o2, e⟩ := h1
  refine ⟨o1, o2, ?_⟩
  have e2 : D.eqv (res S (.ref n)) (res S (.lst xs)) = true := by injection e
  rw [e2]
  exact q
def papW (f : Nat) : List D := [.non, .tup [], .tup [.int (f : Nat)], .tup [.int 0, .bl true], .tup [.non], .str "0"]
theorem bad_walk {f : Nat} {x : D} (h : x ∈ papW f) : okW (f : Nat) x = false ∧ Vl 1000 x := by
  simp only [papW, List.mem_cons, List.not_mem_nil, or_false] at h
  rcases h with rfl | rfl | rfl | rfl | rfl | rfl
  · exact ⟨rfl, .non⟩
  · exact ⟨rfl, Vl.of (k := 2) rfl⟩
  · exact ⟨by simp [okW, inC], Vl.of (k := 2) rfl⟩
  · exact ⟨by simp [okW, inC], Vl.of (k := 2) rfl⟩
  · exact ⟨by simp [okW, inC], Vl.of (k := 2) rfl⟩
  · exact ⟨rfl, .str _ (by decide) (by decide +kernel)⟩
def papC (f : Nat) : List D := [.non, .tup [.int (f : Nat)], .tup [.int 0, .int 0], .tup [.bl false], .tup [.int (-1)], .int 5]
theorem fall00 : (List.range ([D.int 0, D.int 0].length - 1)).any (fallAt [D.int 0, D.int 0]) = true := rfl
theorem okR00 {k : Int} : okR k (.tup [.int 0, .int 0]) = false := by
  show ([D.int 0, D.int 0].all (inC k) && !(List.range ([D.int 0, D.int 0].length - 1)).any (fallAt [D.int 0, D.int 0])) = false
  rw [fall00, Bool.not_true, Bool.and_false]
theorem bad_closed {f : Nat} {x : D} (h : x ∈ papC f) : okR (f : Nat) x = false ∧ Vl 1000 x := by
  simp only [papC, List.mem_cons, List.not_mem_nil, or_false] at h
  rcases h with rfl | rfl | rfl | rfl | rfl | rfl
  · exact ⟨rfl, .non⟩
  · exact ⟨by simp [okR, inC], Vl.of (k := 2) rfl⟩
  · exact ⟨okR00, Vl.of (k := 2) rfl⟩
  · exact ⟨by simp [okR, inC], Vl.of (k := 2) rfl⟩
  · exact ⟨by simp [okR, inC], Vl.of (k := 2) rfl⟩
  · exact ⟨rfl, .int _⟩
def papS1 (f : Nat) : List D := [.non, .tup [.non], .tup [.tup [.int 0, .tup []]], .tup [.tup [.int 0, .tup [], .non]], .tup [.tup [.int 0, .tup [], .bl true]], .tup [.tup [.int (f : Nat), .tup [], .int 0]], .tup [.tup [.int 0, .tup [.int 9], .int 0]], .tup [.tup [.int 0, .tup [.int 0, .int 0], .int 0]]]
def papS2 : List D := [.tup [.tup [.int 0, .tup [], .int 0], .tup [.int 0, .tup [], .int 1]], .tup [.tup [.bl true, .tup [], .int 0]], .tup [.tup [.int 0, .non, .int 0]], .tup [.tup [.int 0, .tup [.bl false], .int 0]]]
def badS (f : Nat) (x : D) : Prop := isTup x = false ∨ (∃ z, x = .tup [z] ∧ ∀ k, k ≤ 8 → okStep (f : Nat) k z = false) ∨ x = .tup dbl
theorem bad_steps {f : Nat} {x : D} (h : x ∈ papS1 f ++ papS2) : badS f x ∧ Vl 1000 x := by
  simp only [papS1, papS2, List.cons_append, List.nil_append, List.mem_cons, List.not_mem_nil, or_false] at h
  rcases h with rfl | rfl | rfl | rfl | rfl | rfl | rfl | rfl | rfl | rfl | rfl | rfl
  · exact ⟨.inl rfl, .non⟩
  · exact ⟨.inr (.inl ⟨_, rfl, fun k hk => rfl⟩), Vl.of (k := 4) rfl⟩
  · exact ⟨.inr (.inl ⟨_, rfl, fun k hk => rfl⟩), Vl.of (k := 4) rfl⟩
  · exact ⟨.inr (.inl ⟨_, rfl, fun k hk => rfl⟩), Vl.of (k := 4) rfl⟩
  · exact ⟨.inr (.inl ⟨_, rfl, fun k hk => rfl⟩), Vl.of (k := 4) rfl⟩
  · exact ⟨.inr (.inl ⟨_, rfl, fun k hk => by simp [okStep, okSt, inC]⟩), Vl.of (k := 4) rfl⟩
  · exact ⟨.inr (.inl ⟨_, rfl, fun k hk => by simp [okStep, okSt, okR, inC]; omega⟩), Vl.of (k := 4) rfl⟩
  · exact ⟨.inr (.inl ⟨_, rfl, fun k hk => by
      show (isInt (.int 0) && (inC (f : Nat) (.int 0) && okR (k : Nat) (.tup [.int 0, .int 0]))) = false
      rw [okR00, Bool.and_false, Bool.and_false]⟩), Vl.of (k := 4) rfl⟩
  · exact ⟨.inr (.inr rfl), Vl.of (k := 4) rfl⟩
  · exact ⟨.inr (.inl ⟨_, rfl, fun k hk => rfl⟩), Vl.of (k := 4) rfl⟩
  · exact ⟨.inr (.inl ⟨_, rfl, fun k hk => by simp [okStep, okSt, okR]⟩), Vl.of (k := 4) rfl⟩
  · exact ⟨.inr (.inl ⟨_, rfl, fun k hk => by simp [okStep, okSt, okR, inC]⟩), Vl.of (k := 4) rfl⟩
theorem kl_due {a c e : D} (h : dueK a c e = "") : kl e ≤ 8 := by
  obtain ⟨m, ds, ks, _, _, rfl, _, _, _, _, h8, _⟩ := due_exK h
  show (ks.map _).length ≤ 8
  rw [List.length_map]; exact h8
theorem if_conS {c : C} {E : EK} {env : DEnv} {S : Store} {Q : MK} {b : Bool} {x y : Str} (q : Q (.str (if b = true then x else y)) S) : if b = true then ev c E (.con (.str x)) env S Q else ev c E (.con (.str y)) env S Q := by
  cases b
  · simp at q ⊢; exact q
  · simp at q ⊢; exact q
theorem aW_start {b : Bool} : (if b = true then ("" : Str) else "argument start") = aW b "start" := by cases b <;> rfl
theorem aW_goal {b : Bool} : (if b = true then ("" : Str) else "argument goal") = aW b "goal" := by cases b <;> rfl
set_option maxHeartbeats 4000000 in
theorem hold3_ok {n i j fi : Nat} {S : Store} {rt : MK} {E : Exc → Store → Prop} {nx bk ct : DEnv → Store → Prop} {a c e s g : D} {e3 e4 e6 e7 e9 e14 e15 e16 : Option D} (va : Vl 184 a) (vc : Vl 184 c) (ve : Vl 184 e) (vs : Vl 184 s) (vg : Vl 184 g)
    (hf : dueK a c e = "" → a = .int (fi : Nat)) (hS : HH S i j []) (q : ∀ S1, Stt S1 i → rt (.bl true) S1) :
    ex ⟨R (n + 19), none⟩ (fun e _ S1 => E e S1) (MS.rest 19 b_law_keyrings_hold) [some (.ref i), some a, some (.int (fi : Nat)), e3, e4, some e, e6, e7, some c, e9, some s, some g, some (.str (wG fi a c e s g)), some (.ref j), e14, e15, e16] S ⟨nx, rt, bk, ct⟩ := by
  have wa : Vl 1000 a := va.mono (by decide)
  have wc : Vl 1000 c := vc.mono (by decide)
  have we : Vl 1000 e := ve.mono (by decide)
  have ws : Vl 1000 s := vs.mono (by decide)
  have wg : Vl 1000 g := vg.mono (by decide)
  have v5 : ∀ k : Int, Vl 1000 (.int k) := fun k => .int k
  unfold b_law_keyrings_hold
  dsimp only [MS.rest]
  repeat' walk_at "m2"
  refine for_im (fun k env S1 => ∃ e14, HH S1 i j (reps k (wP fi a c e s g)) ∧ env = [some (.ref i), some a, some (.int (fi : Nat)), e3, e4, some e, e6, e7, some c, e9, some s, some g, some (.str (wG fi a c e s g)), some (.ref j), e14, e15, e16])
    ⟨_, hS, rfl⟩ (fun k x hk hx env S1 P hI hP => ?_) (fun env S1 hI => ?_)
  · obtain ⟨e14, hH, rfl⟩ := hI
    obtain ⟨hb, vx⟩ := bad_walk (f := fi) hx
    replace hk : k < 6 := hk
    repeat' walk_at "m2"
    refine w_and hH.get ?_
    repeat' walk_at "m2"
    refine told7 hH (accept_walk_says (by decide) wa wc we ws wg vx (v5 5) hf fun _ => .inl hb) fun S2 hH => ?_
    repeat' walk_at "m2"
    refine app_ref hH.get (sz4096 (by rw [reps_len]; omega)) ?_
    rw [reps1]
    repeat' walk_at "m2"
    exact hP _ _ ⟨_, hH.set _, rfl⟩
  · obtain ⟨e14, hH, rfl⟩ := hI
    replace hH : HH S1 i j (reps 6 (wP fi a c e s g)) := hH
    repeat' walk_at "m2"
    refine for_im (fun k env S1 => ∃ e14, HH S1 i j (reps (6 + k) (wP fi a c e s g)) ∧ env = [some (.ref i), some a, some (.int (fi : Nat)), e3, e4, some e, e6, e7, some c, e9, some s, some g, some (.str (wG fi a c e s g)), some (.ref j), e14, e15, e16])
      ⟨_, hH, rfl⟩ (fun k x hk hx env S1 P hI hP => ?_) (fun env S1 hI => ?_)
    · obtain ⟨e14, hH, rfl⟩ := hI
      obtain ⟨hb, vx⟩ := bad_closed (f := fi) hx
      replace hk : k < 6 := hk
      repeat' walk_at "m2"
      refine w_and hH.get ?_
      repeat' walk_at "m2"
      refine toldH (Nat.succ_pos _) (Nat.le_of_ble_eq_true rfl) hH (accept_closed_says (by decide) wa wc we ws wg vx hf fun _ => hb) fun S2 hH => ?_
      repeat' walk_at "m2"
      refine app_ref hH.get (sz4096 (by rw [reps_len]; omega)) ?_
      rw [reps1]
      repeat' walk_at "m2"
      exact hP _ _ ⟨_, hH.set _, rfl⟩
    · obtain ⟨e14, hH, rfl⟩ := hI
      replace hH : HH S1 i j (reps 12 (wP fi a c e s g)) := hH
      repeat' walk_at "m2"
      refine b_addL (by rw [sizeLine_eq]; show 8 + 4 ≤ _; omega) ?_
      repeat' walk_at "m2"
      generalize he15 : some (D.lst (papS1 fi)) = e15
      refine for_im (fun k env S1 => ∃ e14 e15, HH S1 i j (reps (12 + k) (wP fi a c e s g)) ∧ env = [some (.ref i), some a, some (.int (fi : Nat)), e3, e4, some e, e6, e7, some c, e9, some s, some g, some (.str (wG fi a c e s g)), some (.ref j), e14, e15, e16])
        ⟨_, _, hH, rfl⟩ (fun k x hk hx env S1 P hI hP => ?_) (fun env S1 hI => ?_)
      · obtain ⟨e14, e15, hH, rfl⟩ := hI
        obtain ⟨hb, vx⟩ := bad_steps (f := fi) hx
        replace hk : k < 12 := hk
        repeat' walk_at "m2"
        refine w_and hH.get ?_
        repeat' walk_at "m2"
        refine told7 hH (accept_steps_says (by decide) wa wc we ws wg vx (v5 0) hf fun hz => hb.imp id fun hb => .inr (hb.imp (fun ⟨z, h1, h2⟩ => ⟨z, h1, h2 _ (kl_due hz)⟩) id)) fun S2 hH => ?_
        repeat' walk_at "m2"
        refine app_ref hH.get (sz4096 (by rw [reps_len]; omega)) ?_
        rw [reps1]
        repeat' walk_at "m2"
        exact hP _ _ ⟨_, _, hH.set _, rfl⟩
      · obtain ⟨e14, e15, hH, rfl⟩ := hI
        replace hH : HH S1 i j (reps 24 (wP fi a c e s g)) := hH
        repeat' walk_at "m2"
        refine told7 hH (accept_walk_says (by decide) wa wc we ws wg (x := .tup [.int 0]) (Vl.of (k := 2) rfl) .non hf fun _ => .inr rfl) fun S2 hH => ?_
        repeat' walk_at "m2"
        refine told7 hH (accept_steps_says (by decide) wa wc we ws wg (x := .tup []) (Vl.of (k := 2) rfl) (.bl true) hf fun _ => .inr (.inl rfl)) fun S3 hH => ?_
        repeat' walk_at "m2"
        refine b_addRT hH.get (by rw [reps_len, sizeLine_eq]; show 24 + 2 ≤ _; omega) ?_
        have hH2 := HH.new hH.st (reps 24 (wP fi a c e s g) ++ [.str (wP fi a c e s g), .str (wP fi a c e s g)])
        have er : reps 24 (wP fi a c e s g) ++ [.str (wP fi a c e s g), .str (wP fi a c e s g)] = reps 26 (wP fi a c e s g) := reps_add (k := 24) (l := 2)
        rw [er] at hH2 ⊢
        repeat' walk_at "m2"
        refine if_nval (.str (wP fi a c e s g)) (fun hb => var_is rfl ?_) (fun hb => con_is ?_) ?_
        · unfold wP
          rw [if_neg (fun h => by rw [h] at hb; exact absurd hb (by decide))]
        · unfold wP
          rw [if_pos (eq_of_beq hb)]
        repeat' walk_at "m2"
        refine b_mulL (by decide) (by decide) (by rw [sizeLine_eq]; show 26 ≤ 2 ^ 24; decide) ?_
        repeat' walk_at "m2"
        rw [show (List.replicate (Int.toNat 26) [D.str (wP fi a c e s g)]).flatten = reps 26 (wP fi a c e s g) from rfl]
        refine c_eqR hH2.get (k := 0) (by decide) reps_flat ?_
        exact q _ hH2.st

end Lw37

set_option maxHeartbeats 2000000
namespace Lw37
open PySem PySem.Spec Mp L2
local macro_rules | `(tactic| walk_at "m1") => `(tactic| first
  | with_reducible refine e_var rfl ?_ | with_reducible refine e_con ?_ | with_reducible refine e_bin ?_ | with_reducible refine e_neg ?_ | with_reducible refine e_not ?_ | with_reducible refine e_cmp ?_ | with_reducible refine e_ch2 ?_ | with_reducible refine e_ch3 ?_ | with_reducible refine e_isn ?_ | with_reducible refine e_and ?_ | with_reducible refine e_or ?_ | with_reducible refine e_ite ?_
  | with_reducible refine e_tup ?_ | with_reducible refine e_lst ?_ | with_reducible refine e_callv1 rfl ?_ | with_reducible refine e_call0 ?_ | with_reducible refine e_call1 ?_ | with_reducible refine e_blt ?_ | with_reducible refine e_isi ?_ | with_reducible refine e_lrng ?_ | with_reducible refine e_mth ?_ | with_reducible refine e_idx ?_ | with_reducible refine e_slc ?_ | with_reducible refine e_rev ?_ | with_reducible refine e_yes ?_
  | with_reducible refine l_nil ?_ | with_reducible refine l_cons ?_ | with_reducible refine o_abs ?_ | with_reducible refine o_some ?_
  | with_reducible refine x_nil ?_ | with_reducible refine x_cons ?_ | with_reducible refine x_exp ?_ | with_reducible refine x_set ?_ | with_reducible refine x_ite ?_ | with_reducible refine x_ret ?_ | with_reducible refine x_rse ?_ | with_reducible refine x_pss ?_ | with_reducible refine x_brk ?_ | with_reducible refine x_cnt ?_ | with_reducible refine x_retN ?_ | with_reducible refine x_sset ?_ | with_reducible refine x_tryw ?_
  | with_reducible refine x_for ?_ | with_reducible refine x_whl ?_ | with_reducible refine v_itr ?_ | with_reducible refine v_rng ?_ | with_reducible refine v_zip ?_ | with_reducible refine v_rngD ?_ | with_reducible refine v_enm ?_ | with_reducible refine n_tup ?_ | with_reducible refine n_lst ?_ | with_reducible refine z_tup ?_ | with_reducible refine z_tl ?_ | with_reducible refine z_lt ?_ | with_reducible refine z_ll ?_ | with_reducible refine e_lc ?_ | with_reducible refine e_sset ?_ | with_reducible refine g_end ?_ | with_reducible refine f_fix ?_
  | with_reducible refine t_nm ?_ | with_reducible refine t_tp ?_ | with_reducible refine t_nil ?_ | with_reducible refine t_cons ?_
  | with_reducible refine u_bl ?_ | with_reducible refine u_int ?_ | with_reducible refine u_non ?_ | with_reducible refine u_tupN ?_ | with_reducible refine u_tupC ?_ | with_reducible refine u_lstN ?_ | with_reducible refine u_lstC ?_ | with_reducible refine u_tup ?_ | with_reducible refine u_lst ?_
  | with_reducible refine if_tt ?_ | with_reducible refine if_ff ?_ | with_reducible refine if_nf ?_ | with_reducible refine if_nt ?_ | ((((((((((((((((((with_reducible refine if_dec (fun _ => ?_) (fun _ => ?_)) <;> try (exfalso; omega))) <;> try (exfalso; omega))) <;> try (exfalso; omega))) <;> try (exfalso; omega))) <;> try (exfalso; omega))) <;> try (exfalso; omega))) <;> try (exfalso; omega))) <;> try (exfalso; omega))) <;> try (exfalso; omega)) | ((((((((((((((((((with_reducible refine if_ndec (fun _ => ?_) (fun _ => ?_)) <;> try (exfalso; omega))) <;> try (exfalso; omega))) <;> try (exfalso; omega))) <;> try (exfalso; omega))) <;> try (exfalso; omega))) <;> try (exfalso; omega))) <;> try (exfalso; omega))) <;> try (exfalso; omega))) <;> try (exfalso; omega)) | ((((((((((((((((((with_reducible refine if_ne0 (fun _ => ?_) (fun _ => ?_)) <;> try (exfalso; omega))) <;> try (exfalso; omega))) <;> try (exfalso; omega))) <;> try (exfalso; omega))) <;> try (exfalso; omega))) <;> try (exfalso; omega))) <;> try (exfalso; omega))) <;> try (exfalso; omega))) <;> try (exfalso; omega))
  | with_reducible refine c_lt ?_ | with_reducible refine c_gt ?_ | with_reducible refine c_le ?_ | with_reducible refine c_ge ?_ | with_reducible refine c_eq ?_ | with_reducible refine c_ne ?_
  | with_reducible refine b_add ?_ | with_reducible refine b_sub ?_ | with_reducible refine f_lc1 ?_ | with_reducible refine f_lc2 ?_ | with_reducible refine f_lc3 ?_ | with_reducible refine f_lc4 ?_ | with_reducible refine f_lc5 ?_ | with_reducible refine f_lc6 ?_ | with_reducible refine f_lenT ?_ | with_reducible refine f_lenL ?_ | with_reducible refine f_int ?_ | with_reducible refine f_abs ?_
  | refine sz_ok rfl ?_ | ((with_reducible refine b_pow ?_ ?_); focus (exact ⟨by decide, by decide, by decide⟩)) | with_reducible refine d_tup ?_ | with_reducible refine d_rev ?_ | with_reducible refine m_f ?_ | with_reducible refine m_t ?_ | with_reducible refine ⟨_, rfl, ?_⟩)
local macro_rules | `(tactic| walk_at "m2") => `(tactic| first
  | walk_at "m1" | ((with_reducible refine if_nne0 (fun _ => ?_) (fun _ => ?_)) <;> try (exfalso; omega)) | with_reducible refine b_and ?_ | with_reducible refine b_or ?_ | with_reducible refine b_xor ?_ | with_reducible refine w_bits ?_ | with_reducible refine m_bits ?_ | with_reducible refine x_aug rfl ?_ | with_reducible refine g_add ?_ | with_reducible refine g_or ?_ | with_reducible refine g_xor ?_ | with_reducible refine isn_1 ?_ | with_reducible refine isn_2 ?_ | with_reducible refine isn_3 ?_ | with_reducible refine isn_4 ?_ | with_reducible refine isn_5 ?_ | with_reducible refine isn_6 ?_ | with_reducible refine isn_7 ?_ | with_reducible refine isn_8 ?_ | with_reducible refine isn_9 ?_ | with_reducible refine isn_10 ?_ | with_reducible refine c_eqS ?_ | with_reducible refine c_neS ?_ | with_reducible refine f_tupL ?_ | with_reducible refine w_and getE ?_ | with_reducible refine w_and mid_get ?_ | with_reducible refine w_and (by assumption) ?_ | with_reducible refine f_max2 ?_ | with_reducible refine f_min2 ?_ | with_reducible refine i_ref (by assumption) rfl ?_ | refine i_lst rfl ?_ | refine i_at rfl ?_ | with_reducible refine i_ref' (by assumption) rfl ?_ | ((refine s_rf (by first | assumption | exact List.getElem?_set_self (by assumption)) rfl ?_); try simp only [List.set_cons_succ, List.set_cons_zero, List.set_set])
  | ((with_reducible refine b_mul ?_ ?_); focus (exact mul_ok (by omega) (by omega))) | ((with_reducible refine b_div ?_ ?_); focus (exact div_ok (by omega) (by omega))) | ((with_reducible refine b_mod ?_ ?_); focus omega))

def stl (f : Nat) : List D := [.int 0, .int ((f : Nat) - 1), .int 1, .int (f : Nat), .int (-1), .bl true, .non, .str "0"]
def gll (f : Nat) : List D := [.int 0, .int ((f : Nat) - 1), .int 1, .int (f : Nat), .int (-1), .bl false, .non, .tup [.int 0]]
theorem stl_vb : ∀ f, f < 13 → (stl f).all (vb 60 3) = true := by decide +kernel
theorem gll_vb : ∀ f, f < 13 → (gll f).all (vb 60 3) = true := by decide +kernel
set_option maxHeartbeats 4000000 in
theorem hold2_ok {n i fi : Nat} {S : Store} {rt : MK} {E : Exc → Store → Prop} {nx bk ct : DEnv → Store → Prop} {a c e : D} {e3 e4 e6 e7 e10 e11 e12 e13 e14 e15 e16 : Option D} (va : Vl 184 a) (vc : Vl 184 c) (ve : Vl 184 e)
    (f2 : fi ≤ 12) (hf : dueK a c e = "" → a = .int (fi : Nat)) (hS : Stt S i) (q : ∀ S1, Stt S1 i → rt (.bl true) S1) :
    ex ⟨R (n + 19), none⟩ (fun e _ S1 => E e S1) (MS.rest 12 b_law_keyrings_hold) [some (.ref i), some a, some (.int (fi : Nat)), e3, e4, some e, e6, e7, some c, some (.str (dueK a c e)), e10, e11, e12, e13, e14, e15, e16] S ⟨nx, rt, bk, ct⟩ := by
  have wa : Vl 1000 a := va.mono (by decide)
  have wc : Vl 1000 c := vc.mono (by decide)
  have we : Vl 1000 e := ve.mono (by decide)
  unfold b_law_keyrings_hold
  dsimp only [MS.rest]
  repeat' walk_at "m2"
  refine pickS hS (Nat.succ_pos _) (Nat.lt_of_le_of_lt (Nat.le_of_ble_eq_true (m := 8) rfl) (by decide)) fun s S hs hS => ?_
  have vs : Vl 184 s := (Vl.of (vbs (stl_vb fi (by omega)) hs)).mono (by decide)
  clear hs
  repeat' walk_at "m2"
  refine pickS hS (Nat.succ_pos _) (Nat.lt_of_le_of_lt (Nat.le_of_ble_eq_true (m := 8) rfl) (by decide)) fun g S hg hS => ?_
  have vg : Vl 184 g := (Vl.of (vbs (gll_vb fi (by omega)) hg)).mono (by decide)
  clear hg
  have ws : Vl 1000 s := vs.mono (by decide)
  have wg : Vl 1000 g := vg.mono (by decide)
  repeat' walk_at "m2"
  refine whole_ok vs ?_
  repeat' walk_at "m2"
  refine if_conS ?_
  rw [aW_start]
  repeat' walk_at "m2"
  refine law_first_ok (ws := [_, _]) (Nat.le_of_ble_eq_true rfl) ?_
  have ew : firstW [dueK a c e, aW (whole 0 ((fi : Nat) - 1) s) "start"] = wS fi a c e s := rfl
  rw [ew]
  repeat' walk_at "m2"
  refine gl_cons ?_
  repeat' walk_at "m2"
  refine toldS (Nat.succ_pos _) (Nat.le_of_ble_eq_true rfl) hS (reached_says (by decide) wa wc we ws hf) fun S hS => ?_
  repeat' walk_at "m2"
  refine ⟨by rw [sizeLine_eq]; simp, rfl, ?_⟩
  refine gl_cons ?_
  repeat' walk_at "m2"
  refine toldS (Nat.succ_pos _) (Nat.le_of_ble_eq_true rfl) hS (keys_had_says (by decide) wa wc we ws hf) fun S hS => ?_
  repeat' walk_at "m2"
  refine ⟨by rw [sizeLine_eq]; simp, rfl, ?_⟩
  refine gl_cons ?_
  repeat' walk_at "m2"
  refine toldS (Nat.succ_pos _) (Nat.le_of_ble_eq_true rfl) hS (shut_says (by decide) wa wc we ws hf) fun S hS => ?_
  repeat' walk_at "m2"
  refine ⟨by rw [sizeLine_eq]; simp, rfl, ?_⟩
  refine gl_cons ?_
  repeat' walk_at "m2"
  refine toldS (Nat.succ_pos _) (Nat.le_of_ble_eq_true rfl) hS (steps_table_says (by decide) wa wc we ws hf) fun S hS => ?_
  repeat' walk_at "m2"
  refine ⟨by rw [sizeLine_eq]; simp, rfl, ?_⟩
  refine gl_nil ?_
  repeat' walk_at "m2"
  refine b_mulL (by decide) (by decide) (by rw [sizeLine_eq]; show 4 ≤ 2 ^ 24; decide) ?_
  repeat' walk_at "m2"
  refine c_neR (k := 0) (xs := [.str (wS fi a c e s), .str (wS fi a c e s), .str (wS fi a c e s), .str (wS fi a c e s)]) getE (by decide) rfl ?_
  have hS := hS.app [.lst [.str (wS fi a c e s), .str (wS fi a c e s), .str (wS fi a c e s), .str (wS fi a c e s)]]
  repeat' walk_at "m2"
  refine whole_ok vg ?_
  repeat' walk_at "m2"
  refine if_conS ?_
  rw [aW_goal]
  repeat' walk_at "m2"
  refine law_first_ok (ws := [_, _]) (Nat.le_of_ble_eq_true rfl) ?_
  have ew2 : firstW [wS fi a c e s, aW (whole 0 ((fi : Nat) - 1) g) "goal"] = wG fi a c e s g := rfl
  rw [ew2]
  repeat' walk_at "m2"
  refine toldS (Nat.succ_pos _) (Nat.le_of_ble_eq_true rfl) hS (judge_goal_says (by decide) wa wc we ws wg hf) fun S hS => ?_
  repeat' walk_at "m2"
  have eb : (!(wG fi a c e s g == wG fi a c e s g)) = false := by simp
  rw [eb]
  refine if_f0 rfl ?_
  refine x_nil ?_
  refine x_cons ?_
  refine x_set ?_
  refine e_lst ?_
  refine l_nil ?_
  refine ⟨by rw [sizeLine_eq]; simp, ?_⟩
  unfold mkL
  refine if_t0 rfl ?_
  refine t_nm ?_
  exact hold3_ok va vc ve vs vg hf (HH.new hS []) q

end Lw37

set_option maxHeartbeats 2000000
namespace Lw37
open PySem PySem.Spec Mp L2
local macro_rules | `(tactic| walk_at "m1") => `(tactic| first
  | with_reducible refine e_var rfl ?_ | with_reducible refine e_con ?_ | with_reducible refine e_bin ?_ | with_reducible refine e_neg ?_ | with_reducible refine e_not ?_ | with_reducible refine e_cmp ?_ | with_reducible refine e_ch2 ?_ | with_reducible refine e_ch3 ?_ | with_reducible refine e_isn ?_ | with_reducible refine e_and ?_ | with_reducible refine e_or ?_ | with_reducible refine e_ite ?_
  | with_reducible refine e_tup ?_ | with_reducible refine e_lst ?_ | with_reducible refine e_callv1 rfl ?_ | with_reducible refine e_call0 ?_ | with_reducible refine e_call1 ?_ | with_reducible refine e_blt ?_ | with_reducible refine e_isi ?_ | with_reducible refine e_lrng ?_ | with_reducible refine e_mth ?_ | with_reducible refine e_idx ?_ | with_reducible refine e_slc ?_ | with_reducible refine e_rev ?_ | with_reducible refine e_yes ?_
  | with_reducible refine l_nil ?_ | with_reducible refine l_cons ?_ | with_reducible refine o_abs ?_ | with_reducible refine o_some ?_
  | with_reducible refine x_nil ?_ | with_reducible refine x_cons ?_ | with_reducible refine x_exp ?_ | with_reducible refine x_set ?_ | with_reducible refine x_ite ?_ | with_reducible refine x_ret ?_ | with_reducible refine x_rse ?_ | with_reducible refine x_pss ?_ | with_reducible refine x_brk ?_ | with_reducible refine x_cnt ?_ | with_reducible refine x_retN ?_ | with_reducible refine x_sset ?_ | with_reducible refine x_tryw ?_
  | with_reducible refine x_for ?_ | with_reducible refine x_whl ?_ | with_reducible refine v_itr ?_ | with_reducible refine v_rng ?_ | with_reducible refine v_zip ?_ | with_reducible refine v_rngD ?_ | with_reducible refine v_enm ?_ | with_reducible refine n_tup ?_ | with_reducible refine n_lst ?_ | with_reducible refine z_tup ?_ | with_reducible refine z_tl ?_ | with_reducible refine z_lt ?_ | with_reducible refine z_ll ?_ | with_reducible refine e_lc ?_ | with_reducible refine e_sset ?_ | with_reducible refine g_end ?_ | with_reducible refine f_fix ?_
  | with_reducible refine t_nm ?_ | with_reducible refine t_tp ?_ | with_reducible refine t_nil ?_ | with_reducible refine t_cons ?_
  | with_reducible refine u_bl ?_ | with_reducible refine u_int ?_ | with_reducible refine u_non ?_ | with_reducible refine u_tupN ?_ | with_reducible refine u_tupC ?_ | with_reducible refine u_lstN ?_ | with_reducible refine u_lstC ?_ | with_reducible refine u_tup ?_ | with_reducible refine u_lst ?_
  | with_reducible refine if_tt ?_ | with_reducible refine if_ff ?_ | with_reducible refine if_nf ?_ | with_reducible refine if_nt ?_ | ((((((((((((((((((with_reducible refine if_dec (fun _ => ?_) (fun _ => ?_)) <;> try (exfalso; omega))) <;> try (exfalso; omega))) <;> try (exfalso; omega))) <;> try (exfalso; omega))) <;> try (exfalso; omega))) <;> try (exfalso; omega))) <;> try (exfalso; omega))) <;> try (exfalso; omega))) <;> try (exfalso; omega)) | ((((((((((((((((((with_reducible refine if_ndec (fun _ => ?_) (fun _ => ?_)) <;> try (exfalso; omega))) <;> try (exfalso; omega))) <;> try (exfalso; omega))) <;> try (exfalso; omega))) <;> try (exfalso; omega))) <;> try (exfalso; omega))) <;> try (exfalso; omega))) <;> try (exfalso; omega))) <;> try (exfalso; omega)) | ((((((((((((((((((with_reducible refine if_ne0 (fun _ => ?_) (fun _ => ?_)) <;> try (exfalso; omega))) <;> try (exfalso; omega))) <;> try (exfalso; omega))) <;> try (exfalso; omega))) <;> try (exfalso; omega))) <;> try (exfalso; omega))) <;> try (exfalso; omega))) <;> try (exfalso; omega))) <;> try (exfalso; omega))
  | with_reducible refine c_lt ?_ | with_reducible refine c_gt ?_ | with_reducible refine c_le ?_ | with_reducible refine c_ge ?_ | with_reducible refine c_eq ?_ | with_reducible refine c_ne ?_
  | with_reducible refine b_add ?_ | with_reducible refine b_sub ?_ | with_reducible refine f_lc1 ?_ | with_reducible refine f_lc2 ?_ | with_reducible refine f_lc3 ?_ | with_reducible refine f_lc4 ?_ | with_reducible refine f_lc5 ?_ | with_reducible refine f_lc6 ?_ | with_reducible refine f_lenT ?_ | with_reducible refine f_lenL ?_ | with_reducible refine f_int ?_ | with_reducible refine f_abs ?_
  | refine sz_ok rfl ?_ | ((with_reducible refine b_pow ?_ ?_); focus (exact ⟨by decide, by decide, by decide⟩)) | with_reducible refine d_tup ?_ | with_reducible refine d_rev ?_ | with_reducible refine m_f ?_ | with_reducible refine m_t ?_ | with_reducible refine ⟨_, rfl, ?_⟩)
local macro_rules | `(tactic| walk_at "m2") => `(tactic| first
  | walk_at "m1" | ((with_reducible refine if_nne0 (fun _ => ?_) (fun _ => ?_)) <;> try (exfalso; omega)) | with_reducible refine b_and ?_ | with_reducible refine b_or ?_ | with_reducible refine b_xor ?_ | with_reducible refine w_bits ?_ | with_reducible refine m_bits ?_ | with_reducible refine x_aug rfl ?_ | with_reducible refine g_add ?_ | with_reducible refine g_or ?_ | with_reducible refine g_xor ?_ | with_reducible refine isn_1 ?_ | with_reducible refine isn_2 ?_ | with_reducible refine isn_3 ?_ | with_reducible refine isn_4 ?_ | with_reducible refine isn_5 ?_ | with_reducible refine isn_6 ?_ | with_reducible refine isn_7 ?_ | with_reducible refine isn_8 ?_ | with_reducible refine isn_9 ?_ | with_reducible refine isn_10 ?_ | with_reducible refine c_eqS ?_ | with_reducible refine c_neS ?_ | with_reducible refine f_tupL ?_ | with_reducible refine w_and getE ?_ | with_reducible refine w_and mid_get ?_ | with_reducible refine w_and (by assumption) ?_ | with_reducible refine f_max2 ?_ | with_reducible refine f_min2 ?_ | with_reducible refine i_ref (by assumption) rfl ?_ | refine i_lst rfl ?_ | refine i_at rfl ?_ | with_reducible refine i_ref' (by assumption) rfl ?_ | ((refine s_rf (by first | assumption | exact List.getElem?_set_self (by assumption)) rfl ?_); try simp only [List.set_cons_succ, List.set_cons_zero, List.set_set])
  | ((with_reducible refine b_mul ?_ ?_); focus (exact mul_ok (by omega) (by omega))) | ((with_reducible refine b_div ?_ ?_); focus (exact div_ok (by omega) (by omega))) | ((with_reducible refine b_mod ?_ ?_); focus omega))

theorem rep0 {k : Nat} {d : D} : (List.replicate k [d]).flatten = List.replicate k d := by
  induction k with
  | zero => rfl
  | succ k ih => rw [List.replicate_succ, List.flatten_cons, ih, List.replicate_succ]; rfl
theorem flat_len1 {k : Nat} {d : D} : ((List.replicate k [d]).flatten).length = k := by rw [rep0, List.length_replicate]
def goodk (f : Nat) : List D := [.tup [.int 1, .int 2, .int 3], .tup (List.replicate (Int.toNat 8) [D.int ((f : Nat) - 1)]).flatten, .tup [.int 0]]
theorem goodk_vb : ∀ f, f < 13 → (goodk f).all (vb 60 3) = true := by decide +kernel
def oddk (f : Nat) : List D := [.tup (List.replicate (Int.toNat 9) [D.int 0]).flatten, .tup [.int (f : Nat)], .tup [.int (-1)], .tup [.bl true], .tup ((List.replicate (Int.toNat 7) [D.int 0]).flatten ++ [.non]), .non, .int 1, .str "12"]
theorem oddk_vb : ∀ f, f < 13 → (oddk f).all (vb 60 3) = true := by decide +kernel
def rght : D := .tup [.tup [.int 0, .int 1, .non], .tup [.int 1, .int 2, .int 0], .tup [.int 2, .int 3, .non]]
theorem rght_vb : vb 60 3 rght = true := by decide +kernel
def oddd1 (f : Nat) (mn : Int) : List D := [.tup (List.replicate (Int.toNat 61) [D.tup [.int 0, .int 1, .non]]).flatten, .tup [.tup [.int 0, .int 0, .non]], .tup [.tup [.int 0, .int (f : Nat), .non]], .tup [.tup [.int (-1), .int 0, .non]], .tup [.tup [.int 0, .bl true, .non]], .tup [.tup [.int 0, .int 1, .int mn]],
  .tup [.tup [.int 0, .int 1, .int (-1)]], .tup [.tup [.int 0, .int 1, .bl false]], .tup [.tup [.int 0, .int 1]], .tup [.tup [.int 0, .int 1, .non, .int 0]]]
def oddd2 : List D := [.tup [.non], .non, .int 1]
def oddd3 : List D := [.tup (List.replicate (Int.toNat 60) [D.tup [.int 0, .int 1, .non]]).flatten, .tup ((List.replicate (Int.toNat 59) [D.tup [.int 0, .int 1, .non]]).flatten ++ [.tup [.int 1, .int 1, .non]]), .tup ((List.replicate (Int.toNat 59) [D.tup [.int 0, .int 1, .non]]).flatten ++ [.non]), .tup []]
theorem oddd_vl {f : Nat} {mn : Int} {d : D} (h : d ∈ oddd1 f mn ++ oddd2 ++ oddd3) : Vl 184 d := by
  simp only [oddd1, oddd2, oddd3, List.cons_append, List.nil_append, List.mem_cons, List.not_mem_nil, or_false] at h
  rcases h with h | h | h | h | h | h | h | h | h | h | h | h | h | h | h | h | h
  all_goals
    rw [h]
    first
      | exact (Vl.of (B := 61) (k := 3) rfl).mono (by decide)
      | exact (Vl.of (B := 61) (k := 3) (by decide +kernel)).mono (by decide)
set_option maxHeartbeats 4000000 in
theorem hold_ok {n i : Nat} {S : Store} {Q : MK} {E : Exc → Store → Prop} (hS : Stt S i) (q : ∀ S1, Stt S1 i → Q (.bl true) S1) : R (n + 20) 26 [.ref i] S Q E := by
  refine run_of f_law_keyrings_hold rfl rfl ?_
  unfold f_law_keyrings_hold b_law_keyrings_hold
  dsimp only
  repeat' walk_at "m2"
  refine pickS hS (by decide) (by decide) fun a S ha hS => ?_
  have va : Vl 184 a := (Vl.of (vbs (B := 60) (k := 3) (by decide +kernel) ha)).mono (by decide)
  clear ha
  obtain ⟨fi, f1, f2, hw1, hw2⟩ : ∃ fi : Nat, 1 ≤ fi ∧ fi ≤ 12 ∧ (whole 1 12 a = true → a = .int fi) ∧ (whole 1 12 a = false → fi = 4) := by
    cases h : whole 1 12 a with
    | true =>
      obtain ⟨m, rfl, m0, m1⟩ := whole_ex h
      obtain ⟨m, rfl⟩ := Int.eq_ofNat_of_zero_le (show 0 ≤ m by omega)
      exact ⟨m, by omega, by omega, fun _ => rfl, fun h => Bool.noConfusion h⟩
    | false => exact ⟨4, by decide, by decide, fun h => Bool.noConfusion h, fun _ => rfl⟩
  have hf : ∀ c e, dueK a c e = "" → a = .int fi := fun c e h => by
    obtain ⟨m, ds, ks, rfl, _, _, m1, m2, _⟩ := due_exK h
    exact hw1 (by rw [whole_int]; simp; omega)
  repeat' walk_at "m2"
  refine whole_ok va ?_
  repeat' walk_at "m2"
  refine if_val (.int fi) (fun hb Q' q' => ?_) (fun hb Q' q' => ?_) ?_
  · rw [← hw1 hb] at q'
    repeat' walk_at "m2"
    exact q'
  · rw [hw2 hb] at q'
    repeat' walk_at "m2"
    exact q'
  repeat' walk_at "m2"
  refine b_mulT (by decide) (by decide) (Nat.le_of_ble_eq_true rfl) ?_
  repeat' walk_at "m2"
  refine pickS hS (Nat.succ_pos _) (Nat.lt_of_le_of_lt (Nat.le_of_ble_eq_true (m := 5) rfl) (by decide)) fun good S hgood hS => ?_
  have vg : vb 60 3 good = true := vbs (goodk_vb fi (by omega)) hgood
  clear hgood
  repeat' walk_at "m2"
  refine b_mulT (by decide) (by decide) (Nat.le_of_ble_eq_true rfl) ?_
  repeat' walk_at "m2"
  refine b_mulT (by decide) (by decide) (Nat.le_of_ble_eq_true rfl) ?_
  repeat' walk_at "m2"
  refine b_addT (by rw [flat_len1, sizeLine_eq]; show 7 + 1 ≤ _; omega) ?_
  repeat' walk_at "m2"
  refine bentS (k := 3) (by decide) vg hS fun d2 S v2 hS => ?_
  repeat' walk_at "m2"
  refine pickS hS (Nat.succ_pos _) (Nat.lt_of_le_of_lt (Nat.le_of_ble_eq_true (m := 100) rfl) (by decide)) fun d3 S h3 hS => ?_
  have v3 : Vl 184 d3 := (Vl.of (vbs (oddk_vb fi (by omega)) h3)).mono (by decide)
  clear h3
  repeat' walk_at "m2"
  refine pickS hS (Nat.succ_pos _) (Nat.lt_of_le_of_lt (Nat.le_of_ble_eq_true (m := 5) rfl) (by decide)) fun e S hd hS => ?_
  have ve : Vl 184 e := by
    simp only [List.mem_cons, List.not_mem_nil, or_false] at hd
    rcases hd with rfl | rfl | rfl | rfl | rfl
    · exact (Vl.of vg).mono (by decide)
    · exact (Vl.of vg).mono (by decide)
    · exact (Vl.of vg).mono (by decide)
    · exact v2
    · exact v3
  clear hd v2 v3
  repeat' walk_at "m2"
  obtain ⟨mn, hmn⟩ : ∃ mn : Int, ∃ b, isT .tuple e = some b ∧ ∀ (c : C) (E' : EK) (env : DEnv) (Q' : MK), env[5]? = some (some e) → Q' (.int mn) S → (if b = true then ev c E' (.blt .len false (.cons (.var 5) .nil)) env S Q' else ev c E' (.con (.int 3)) env S Q') := by
    cases ve with
    | tup xs hl hx => exact ⟨xs.length, true, rfl, fun c E' env Q' h q' => if_t0 rfl (e_blt (l_cons (e_var h (l_nil (f_lenT q')))))⟩
    | _ => exact ⟨3, false, rfl, fun c E' env Q' h q' => if_f0 rfl (e_con q')⟩
  obtain ⟨b, hb, hmn⟩ := hmn
  refine ⟨b, hb, ?_⟩
  refine u_bl ?_
  refine hmn _ _ _ _ rfl ?_
  clear hmn hb
  repeat' walk_at "m2"
  refine b_mulT (by decide) (by decide) (Nat.le_of_ble_eq_true rfl) ?_
  repeat' walk_at "m2"
  refine b_addL (by rw [sizeLine_eq]; show 10 + 3 ≤ _; omega) ?_
  repeat' walk_at "m2"
  refine b_mulT (by decide) (by decide) (Nat.le_of_ble_eq_true rfl) ?_
  repeat' walk_at "m2"
  refine b_mulT (by decide) (by decide) (Nat.le_of_ble_eq_true rfl) ?_
  repeat' walk_at "m2"
  refine b_addT (by rw [flat_len1, sizeLine_eq]; show 59 + 1 ≤ _; omega) ?_
  repeat' walk_at "m2"
  refine b_mulT (by decide) (by decide) (Nat.le_of_ble_eq_true rfl) ?_
  repeat' walk_at "m2"
  refine b_addT (by rw [flat_len1, sizeLine_eq]; show 59 + 1 ≤ _; omega) ?_
  repeat' walk_at "m2"
  refine b_addL (by rw [sizeLine_eq]; show 13 + 4 ≤ _; omega) ?_
  repeat' walk_at "m2"
  refine bentS (k := 3) (by decide) rght_vb hS fun d2 S v2 hS => ?_
  repeat' walk_at "m2"
  refine pickS hS (Nat.succ_pos _) (Nat.lt_of_le_of_lt (Nat.le_of_ble_eq_true (m := 100) rfl) (by decide)) fun d3 S h3 hS => ?_
  have v3 : Vl 184 d3 := oddd_vl (f := fi) (mn := mn) h3
  clear h3
  repeat' walk_at "m2"
  refine pickS hS (Nat.succ_pos _) (Nat.lt_of_le_of_lt (Nat.le_of_ble_eq_true (m := 5) rfl) (by decide)) fun c S hd hS => ?_
  have vc : Vl 184 c := by
    simp only [List.mem_cons, List.not_mem_nil, or_false] at hd
    rcases hd with rfl | rfl | rfl | rfl | rfl
    · exact (Vl.of rght_vb).mono (by decide)
    · exact (Vl.of rght_vb).mono (by decide)
    · exact (Vl.of rght_vb).mono (by decide)
    · exact v2
    · exact v3
  clear hd v2 v3
  repeat' walk_at "m2"
  refine cave_due_ok (by decide) va vc ve ?_
  refine t_nm ?_
  exact hold2_ok va vc ve f2 (hf c e) hS q

end Lw37

set_option maxHeartbeats 2000000
namespace Lw37
open PySem PySem.Spec Mp L2
local macro_rules | `(tactic| walk_at "m1") => `(tactic| first
  | with_reducible refine e_var rfl ?_ | with_reducible refine e_con ?_ | with_reducible refine e_bin ?_ | with_reducible refine e_neg ?_ | with_reducible refine e_not ?_ | with_reducible refine e_cmp ?_ | with_reducible refine e_ch2 ?_ | with_reducible refine e_ch3 ?_ | with_reducible refine e_isn ?_ | with_reducible refine e_and ?_ | with_reducible refine e_or ?_ | with_reducible refine e_ite ?_
  | with_reducible refine e_tup ?_ | with_reducible refine e_lst ?_ | with_reducible refine e_callv1 rfl ?_ | with_reducible refine e_call0 ?_ | with_reducible refine e_call1 ?_ | with_reducible refine e_blt ?_ | with_reducible refine e_isi ?_ | with_reducible refine e_lrng ?_ | with_reducible refine e_mth ?_ | with_reducible refine e_idx ?_ | with_reducible refine e_slc ?_ | with_reducible refine e_rev ?_ | with_reducible refine e_yes ?_
  | with_reducible refine l_nil ?_ | with_reducible refine l_cons ?_ | with_reducible refine o_abs ?_ | with_reducible refine o_some ?_
  | with_reducible refine x_nil ?_ | with_reducible refine x_cons ?_ | with_reducible refine x_exp ?_ | with_reducible refine x_set ?_ | with_reducible refine x_ite ?_ | with_reducible refine x_ret ?_ | with_reducible refine x_rse ?_ | with_reducible refine x_pss ?_ | with_reducible refine x_brk ?_ | with_reducible refine x_cnt ?_ | with_reducible refine x_retN ?_ | with_reducible refine x_sset ?_ | with_reducible refine x_tryw ?_
  | with_reducible refine x_for ?_ | with_reducible refine x_whl ?_ | with_reducible refine v_itr ?_ | with_reducible refine v_rng ?_ | with_reducible refine v_zip ?_ | with_reducible refine v_rngD ?_ | with_reducible refine v_enm ?_ | with_reducible refine n_tup ?_ | with_reducible refine n_lst ?_ | with_reducible refine z_tup ?_ | with_reducible refine z_tl ?_ | with_reducible refine z_lt ?_ | with_reducible refine z_ll ?_ | with_reducible refine e_lc ?_ | with_reducible refine e_sset ?_ | with_reducible refine g_end ?_ | with_reducible refine f_fix ?_ | with_reducible refine fl_cons ?_ | with_reducible refine fl_nil ?_
  | with_reducible refine t_nm ?_ | with_reducible refine t_tp ?_ | with_reducible refine t_nil ?_ | with_reducible refine t_cons ?_
  | with_reducible refine u_bl ?_ | with_reducible refine u_int ?_ | with_reducible refine u_non ?_ | with_reducible refine u_tupN ?_ | with_reducible refine u_tupC ?_ | with_reducible refine u_lstN ?_ | with_reducible refine u_lstC ?_ | with_reducible refine u_tup ?_ | with_reducible refine u_lst ?_
  | with_reducible refine if_tt ?_ | with_reducible refine if_ff ?_ | with_reducible refine if_nf ?_ | with_reducible refine if_nt ?_ | ((((((((((((((((((with_reducible refine if_dec (fun _ => ?_) (fun _ => ?_)) <;> try (exfalso; omega))) <;> try (exfalso; omega))) <;> try (exfalso; omega))) <;> try (exfalso; omega))) <;> try (exfalso; omega))) <;> try (exfalso; omega))) <;> try (exfalso; omega))) <;> try (exfalso; omega))) <;> try (exfalso; omega)) | ((((((((((((((((((with_reducible refine if_ndec (fun _ => ?_) (fun _ => ?_)) <;> try (exfalso; omega))) <;> try (exfalso; omega))) <;> try (exfalso; omega))) <;> try (exfalso; omega))) <;> try (exfalso; omega))) <;> try (exfalso; omega))) <;> try (exfalso; omega))) <;> try (exfalso; omega))) <;> try (exfalso; omega)) | ((((((((((((((((((with_reducible refine if_ne0 (fun _ => ?_) (fun _ => ?_)) <;> try (exfalso; omega))) <;> try (exfalso; omega))) <;> try (exfalso; omega))) <;> try (exfalso; omega))) <;> try (exfalso; omega))) <;> try (exfalso; omega))) <;> try (exfalso; omega))) <;> try (exfalso; omega))) <;> try (exfalso; omega))
  | with_reducible refine c_lt ?_ | with_reducible refine c_gt ?_ | with_reducible refine c_le ?_ | with_reducible refine c_ge ?_ | with_reducible refine c_eq ?_ | with_reducible refine c_ne ?_
  | with_reducible refine b_add ?_ | with_reducible refine b_sub ?_ | with_reducible refine f_lc1 ?_ | with_reducible refine f_lc2 ?_ | with_reducible refine f_lc3 ?_ | with_reducible refine f_lc4 ?_ | with_reducible refine f_lc5 ?_ | with_reducible refine f_lc6 ?_ | with_reducible refine f_lenT ?_ | with_reducible refine f_lenL ?_ | with_reducible refine f_int ?_ | with_reducible refine f_abs ?_
  | refine sz_ok rfl ?_ | ((with_reducible refine b_pow ?_ ?_); focus (exact ⟨by decide, by decide, by decide⟩)) | with_reducible refine d_tup ?_ | with_reducible refine d_rev ?_ | with_reducible refine m_f ?_ | with_reducible refine m_t ?_ | with_reducible refine ⟨_, rfl, ?_⟩)
local macro_rules | `(tactic| walk_at "m2") => `(tactic| first
  | walk_at "m1" | ((with_reducible refine if_nne0 (fun _ => ?_) (fun _ => ?_)) <;> try (exfalso; omega)) | with_reducible refine b_and ?_ | with_reducible refine b_or ?_ | with_reducible refine b_xor ?_ | with_reducible refine w_bits ?_ | with_reducible refine m_bits ?_ | with_reducible refine x_aug rfl ?_ | with_reducible refine g_add ?_ | with_reducible refine g_or ?_ | with_reducible refine g_xor ?_ | with_reducible refine isn_1 ?_ | with_reducible refine isn_2 ?_ | with_reducible refine isn_3 ?_ | with_reducible refine isn_4 ?_ | with_reducible refine isn_5 ?_ | with_reducible refine isn_6 ?_ | with_reducible refine isn_7 ?_ | with_reducible refine isn_8 ?_ | with_reducible refine isn_9 ?_ | with_reducible refine isn_10 ?_ | with_reducible refine c_eqS ?_ | with_reducible refine c_neS ?_ | with_reducible refine f_tupL ?_ | with_reducible refine w_and getE ?_ | with_reducible refine w_and mid_get ?_ | with_reducible refine w_and (by assumption) ?_ | with_reducible refine f_max2 ?_ | with_reducible refine f_min2 ?_ | with_reducible refine i_ref (by assumption) rfl ?_ | refine i_lst rfl ?_ | refine i_at rfl ?_ | with_reducible refine i_ref' (by assumption) rfl ?_ | ((refine s_rf (by first | assumption | exact List.getElem?_set_self (by assumption)) rfl ?_); try simp only [List.set_cons_succ, List.set_cons_zero, List.set_set])
  | ((with_reducible refine b_mul ?_ ?_); focus (exact mul_ok (by omega) (by omega))) | ((with_reducible refine b_div ?_ ?_); focus (exact div_ok (by omega) (by omega))) | ((with_reducible refine b_mod ?_ ?_); focus omega))

theorem hrun : ∀ ns : List Int, ns.length ≤ 63 → Mp.run W.T 60 27 [.scr ns] [] (fun d _ => d = .bl true) (fun _ _ => False) := by
  intro ns _
  show R (59 + 1) 27 [.scr ns] [] (fun d _ => d = .bl true) (fun _ _ => False)
  refine run_of f_law rfl rfl ?_
  unfold f_law b_law
  dsimp only
  repeat' walk_at "m2"
  refine start_ok fun S1 hS => ?_
  repeat' walk_at "m2"
  refine r_two ⟨by decide, by decide⟩ ⟨by decide, by decide⟩ ?_
  repeat' walk_at "m2"
  refine for_r0 (fun k env S1 => Stt S1 0 ∧ ∃ (e : Option D), env = [some (.scr ns), some (.ref 0), e]) 7 rfl ⟨hS, none, rfl⟩ (fun k hk env S1 P hI hP => ?_) (fun env S1 hI => ?_)
  · obtain ⟨hS, e, rfl⟩ := hI
    repeat' walk_at "m2"
    refine hold_ok hS fun S2 hS2 => ?_
    repeat' walk_at "m2"
    exact hP _ _ ⟨hS2, _, rfl⟩
  · obtain ⟨hS, e, rfl⟩ := hI
    repeat' walk_at "m2"
    rfl

end Lw37

set_option maxRecDepth 100000
set_option maxHeartbeats 0
open PySem PySem.W PyProof.Rows
theorem PySem.Challenge.cw_darkways_k37_arguments_of_keyrings_holds : PySem.Challenge.rw_darkways_k37_arguments_of_keyrings.Holds := by
  w_on; o_law; k_head; (case hw => w_witness2); k_fill
  refine Mp.walkM (l := PySem.Challenge.rw_darkways_k37_arguments_of_keyrings) (W := Lw37.W) (li := 27) rfl rfl (fun w h Y => PySem.W.kIn_of Y) ?hchk (Mp.word1_run _ rfl) Lw37.hrun
  case hchk =>
    intro w
    refine ⟨?_, ?_⟩
    · unfold Mp.chk
      simp only [Bool.and_eq_true]
      refine ⟨⟨⟨⟨⟨⟨⟨⟨?_, ?_⟩, ?_⟩, ?_⟩, ?_⟩, ?_⟩, ?_⟩, ?_⟩, ?_⟩
      all_goals kernel_rfl
    · kernel_rfl
