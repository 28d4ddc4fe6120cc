import PyProof.Rows.All
import Wide.All
import OpenK.AllK
import Wide.FinOn
import HandS.ForMost
import HandS.ForExc
import HandS.CallSlots
import HandS.IsInst
import HandS.DictComp
import HandS.More
import HandS.Deep
import HandS.SetKeys
import HandS.Strs
import HandS.Conv
import HandS.Codes
import HandS.Flow
import HandS.Style
import HandS.Wide
import HandS.DeepEq
import HandS.Lambda
import HandS.ExcValue
import KE.KDictDisplayH
import KE.KeyNested
import HandS.TupAny
import HandS.TupLe
import PyProof.StrBlock2
import PyProof.NeKinds
import HandS.DictEq
import HandS.WordsDict
import HandS.Walk
import KE.KDictPairs
import HandS.SetFor
import PyProof.Rows.SortShellAny
import HandS.Defaults
import HandS.Ends
import PyProof.ReprRoads
import PyProof.CallFns
import HandS.WideBits
import HandS.Zip
import HandS.Text
import KE.KTupSum
import KE.GoesEnum
import KE.GoesMore
import HandS.Iter
import HandS.ExcInit
import HandS.ExcField
import PyProof.Rows.RegReprOcc
import PyProof.ReprReads
import HandS.MakeKwOnly
import HandS.TupSets
import PyProof.SeqIndex
import PyProof.SetRoads
import HandS.ListItems
import KE.KDictList
import HandS.EndTab
import HandS.Replace
import HandS.Finally
import HandS.SortInts
import KE.KSortTupAny
import KE.KExcIs
import HandS.ExcOwn
import KE.KDictZip
import PyProof.TupleOfSeq
import PyProof.TupleOfGen
import KE.DataCmp
import KE.SortData
import PyProof.SeqRoads2
import KE.KIndexOf
import KE.KRevSl
import KE.KIntText
import HandS.TryOnly
import HandS.MakeKw
import HandS.Exc
import PySem.Challenge.RW_blindpour_k01_names_and_exceptions
set_option Elab.async false
set_option linter.all false
set_option maxRecDepth 100000
set_option maxHeartbeats 4000000
/-! DL0: data D, the store of things that change, how both lie in the abstract heap; what a piece of code computes (Out), the readings TD (expressions), TSD (statements). -/
namespace DL
open PySem PySem.Spec PyProof.Rows L2

/-- a value with all that it holds; ref n: the n-th thing of the store -/
inductive D where
  | non | bl (b : Bool) | int (i : Int) | str (x : Str) | tup (xs : List D) | lst (xs : List D) | dic (ks : List Key) (xs : List D) | ref (n : Nat) | scr (ns : List Int)
/-- a thing that may change -/
inductive MO where
  | lst (xs : List D) | dic (ks : List Key) (xs : List D) | ldic (ks : List Key) (xs : List D) | ins (c : Str) (fs : List (Str × D)) | exc (c : Str) (fs : List (Str × D)) | kd (ks xs : List D)
abbrev Store := List MO
/-- where the store's things lie; what stands for ever -/
structure Wd where
  ρ : List Addr
  F : Hp

section
variable (K : PySem.W.Frag) (w : Wd)
mutual
def Rep : D → V → Prop
  | .non, v => v = .non
  | .bl b, v => v = .bl b
  | .int i, v => v = .int i
  | .str x, v => v = .str x
  | .tup xs, v => ∃ a vs, v = .ref a ∧ SqT K w.F a vs ∧ RepL xs vs
  | .lst xs, v => ∃ a vs, v = .ref a ∧ w.F a = some (.lst vs) ∧ RepL xs vs
  | .dic ks xs, v => ∃ a vs, v = .ref a ∧ (∃ o, w.F a = some (.frz o (.dK (ks.zip vs)))) ∧ ks.length = xs.length ∧ RepL xs vs
  | .ref n, v => ∃ a, v = .ref a ∧ w.ρ[n]? = some a
  | .scr ns, v => ∃ a, v = .ref a ∧ ((∃ o, w.F a = some (.frz o (.lst (ns.map V.int)))) ∨ SqL K (fun _ => none) a (ns.map V.int))
def RepL : List D → List V → Prop
  | [], vs => vs = []
  | x :: xs, vs => ∃ v r, vs = v :: r ∧ Rep x v ∧ RepL xs r
end
end

/-- the classes' places; the tables of code objects -/
structure CT where
  c : Str → Addr
  t : List (Addr × Str)
  pw : Option (Program × World) := none
instance : CoeFun CT fun _ => Str → Addr := ⟨CT.c⟩
/-- the dict at a with these entries: keys of any depth, where their tuples stand, the values -/
def KdP (P : Program) (W : World) (a : Addr) (es : List (NestedKey × Addr × V)) (h : Heap) : Prop :=
  ∃ ys : List (NestedKey × Addr × Value), Paired (fun p q => p.1 = q.1 ∧ p.2.1 = q.2.1 ∧ RelV p.2.2 q.2.2) es ys ∧ es.length ≤ sizeLine ∧ (a == sysModules) = false ∧
    ∃ o ar ep, h.get? a = some o ∧ o.ExactDict ∧ o.data = .dict ar ep ∧ ar.toList = ys.map (entryOfKey (nestedKind P W)) ∧ (ys.map (·.1)).Nodup
mutual
/-- a key as data -/
def nkD : D → Option NestedKey
  | .non => some .none
  | .bl b => some (.num (if b then 1 else 0))
  | .int i => some (.num i)
  | .str x => some (.text x)
  | .tup xs => (nkL xs).map .tup
  | _ => none
def nkL : List D → Option (List NestedKey)
  | [] => some []
  | x :: xs => (nkD x).bind fun k => (nkL xs).map fun l => k :: l
end
/-- a key of a dict: a tuple, not too deep -/
def keyT : D → Option NestedKey
  | .tup xs => (nkL xs).bind fun l => if (NestedKey.tup l).depth ≤ 8 then some (.tup l) else none
  | _ => none
def keysT : List D → Option (List NestedKey)
  | [] => some []
  | x :: xs => (keyT x).bind fun k => (keysT xs).map fun l => k :: l
/-- the fields of an exception: its dict stands for ever -/
def ExF (K : PySem.W.Frag) (w : Wd) (fs : List (Str × D)) (dx : Option Addr) : Prop :=
  (fs = [] ∧ dx = none) ∨ ∃ (d : Addr) (vs : List V), dx = some d ∧ w.F d = some (.xd ((fs.map (·.1)).zip vs)) ∧ RepL K w (fs.map (·.2)) vs
def RepO (K : PySem.W.Frag) (ct : CT) (w : Wd) : MO → HO → Prop
  | .lst xs, h => ∃ vs, h = .lst vs ∧ RepL K w xs vs
  | .dic ks xs, h => ∃ vs, h = .dK (ks.zip vs) ∧ ks.length = xs.length ∧ RepL K w xs vs
  | .ldic ks xs, h => ∃ ob vs, h = .frz ob (.dK (ks.zip vs)) ∧ ks.length = xs.length ∧ RepL K w xs vs
  | .ins c fs, h => ∃ dx vs, h = .ins (ct c) dx ((fs.map (·.1)).zip vs) ∧ RepL K w (fs.map (·.2)) vs
  | .exc c fs, h => ∃ (oe : Obj) (dx : Option Addr), h = .frz oe (.own 0) ∧ Zc (.ref (ct c)) dx oe ∧ (∃ ws, oe.data = .fields ws) ∧ ExF K w fs dx
  | .kd ks xs, h => ∃ (P : Program) (W : World) (a : Addr) (es : List (NestedKey × Addr × V)), ct.pw = some (P, W) ∧ h = .ext (KdP P W a es) ∧ keysT ks = some (es.map (·.1)) ∧ RepL K w ks (es.map fun e => V.ref e.2.1) ∧ RepL K w xs (es.map (·.2.2))

/-- from one state to a later one: what is neither frozen nor in the store is as it was -/
structure Step (w : Wd) (H : Hp) (w' : Wd) (H' : Hp) : Prop where
  ρ : w.ρ <+: w'.ρ
  F : Same w.F w'.F
  fr : ∀ a o, H a = some o → (∀ ps, o ≠ .tbl ps) → w.F a = none → a ∉ w.ρ → H' a = some o ∧ w'.F a = none ∧ a ∉ w'.ρ

/-- what stands for ever stands (a dict may be locked) -/
def Sub (F H : Hp) : Prop := ∀ b o, F b = some o → H b = some o ∨ ((∃ kvs, o = HO.dK kvs) ∧ ∃ ob, H b = some (.frz ob o))
theorem Sub.free {F H : Hp} (s : Sub F H) {b : Addr} (h : H b = none) : F b = none := by
  cases q : F b with
  | none => rfl
  | some o =>
    rcases s b o q with z | ⟨_, ob, z⟩
    · rw [h] at z; cases z
    · rw [h] at z; cases z
theorem Sub.ne {F H : Hp} (s : Sub F H) {b p : Addr} {o : HO} (h : F b = some o) (hp : H p = none) : b ≠ p := fun z => by
  rw [z, s.free hp] at h
  cases h
/-- a tuple that stands for ever has no dict of its own -/
def NiceH : HO → Prop
  | .tup _ => False
  | .tbl _ => False
  | .ext φ => ∃ P W a es, φ = KdP P W a es
  | .frz o (.tup _) => o.dict = none
  | _ => True
theorem NiceH.ntbl {o : HO} (h : NiceH o) : ∀ ps, o ≠ .tbl ps := fun ps e => by
  rw [e] at h
  exact h
theorem RepO.niceH {K : PySem.W.Frag} {ct : CT} {w : Wd} {o : MO} {ho : HO} (h : RepO K ct w o ho) : NiceH ho := by
  cases o with
  | lst xs => obtain ⟨vs, rfl, _⟩ := h; trivial
  | dic ks xs => obtain ⟨vs, rfl, _⟩ := h; trivial
  | ldic ks xs => obtain ⟨ob, vs, rfl, _⟩ := h; trivial
  | ins c fs => obtain ⟨dx, vs, rfl, _⟩ := h; trivial
  | exc c fs => obtain ⟨oe, dx, rfl, _⟩ := h; trivial
  | kd ks xs => obtain ⟨P, W, a, es, _, rfl, _⟩ := h; exact ⟨P, W, a, es, rfl⟩
/-- a heap with one object -/
def solo (a : Addr) (o : Obj) : Heap := ⟨(Array.replicate (a + 1) { cls := .none, data := .freed : Obj }).set! a o, {}⟩
theorem solo_at {a : Addr} {o : Obj} (h : o.data ≠ .freed) : (solo a o).get? a = some o := by
  have e : (solo a o).objs[a]? = some o := by
    unfold solo
    simp
  unfold Heap.get?
  rw [e]
  split
  · rename_i q
    cases q
    exact absurd rfl h
  · rfl
theorem solo_ne {a b : Addr} {o : Obj} (h : b ≠ a) : (solo a o).get? b = none := by
  have e : (solo a o).objs[b]? = none ∨ (solo a o).objs[b]? = some { cls := .none, data := .freed : Obj } := by
    unfold solo
    simp only [Array.set!_eq_setIfInBounds, Array.getElem?_setIfInBounds]
    rw [if_neg (fun z => h z.symm)]
    by_cases l : b < a + 1
    · right
      simp [l]
    · left
      simp [l]
  unfold Heap.get?
  rcases e with e | e <;> rw [e]
/-- a code object is no such dict -/
theorem code_nice {c : Addr} {q : Str} : ¬ NiceH (LamX.CodeO c q) := by
  rintro ⟨P, W, a, es, e⟩
  have p : (fun h : Heap => ∃ (oc : Obj) (vs : Array Value) (t : Tok), h.get? c = some oc ∧ oc.data = .fields vs ∧ vs[1]? = some (.str q t)) (solo c { cls := .none, data := .fields #[.none, .str q 0] }) := ⟨_, _, 0, solo_at (by simp), rfl, by simp⟩
  rw [e] at p
  obtain ⟨ys, _, _, _, o, ar, ep, g, _, d, _⟩ := p
  by_cases z : a = c
  · subst z
    rw [solo_at (by simp)] at g
    cases g
    cases d
  · rw [solo_ne z] at g
    cases g
/-- the tables stand while nice things change -/
theorem tabs_at {T : List (Addr × Str)} {H H' : Hp} {p : Addr} (t : LamX.Tabs T H) (h : ∀ o, H p = some o → NiceH o) (e : ∀ b, b ≠ p → H' b = H b) : LamX.Tabs T H' := fun q hq => by
  obtain ⟨ps, h1, h2, h3⟩ := t q hq
  have np : q.1 ≠ p := fun z => by
    have : NiceH (.tbl ps) := h _ (by rw [← z]; exact h1)
    exact this
  refine ⟨ps, by rw [e _ np]; exact h1, h2, fun pos cv hc => ?_⟩
  obtain ⟨c, e1, e2⟩ := h3 pos cv hc
  have nc : c ≠ p := fun z => by
    exact code_nice (h _ (by rw [← z]; exact e2))
  exact ⟨c, e1, by rw [e _ nc]; exact e2⟩
theorem tabs_upd {T : List (Addr × Str)} {H : Hp} {p : Addr} {u : HO} (t : LamX.Tabs T H) (h : ∀ o, H p = some o → NiceH o) : LamX.Tabs T (upd H p u) := tabs_at t h fun b hb => upd_ne hb
theorem tabs_new {T : List (Addr × Str)} {H : Hp} {p : Addr} {u : HO} (t : LamX.Tabs T H) (h : H p = none) : LamX.Tabs T (upd H p u) := tabs_upd t fun o e => by rw [h] at e; cases e
structure Rl (K : PySem.W.Frag) (ct : CT) (w : Wd) (M : Store) (H : Hp) : Prop where
  sub : Sub w.F H
  len : M.length = w.ρ.length
  nd : w.ρ.Nodup
  mo : ∀ (n : Nat) (o : MO), M[n]? = some o → ∃ a ho, w.ρ[n]? = some a ∧ w.F a = none ∧ H a = some ho ∧ RepO K ct w o ho
  nice : ∀ a o, w.F a = some o → NiceH o
  tabs : LamX.Tabs ct.t H

inductive Slot where
  | val (d : D) | own (o : MO)
abbrev En := List (Option Slot)
structure Base where
  w : Wd
  H : Hp
structure Sl (K : PySem.W.Frag) (ct : CT) (b : Base) (w : Wd) (en : En) (σ : L2.St) (H : Hp) : Prop where
  len : en.length = σ.length
  val : ∀ (i : Nat) (d : D), en[i]? = some (some (.val d)) → ∃ v, σ[i]? = some (some v) ∧ Rep K w d v
  own : ∀ (i : Nat) (o : MO), en[i]? = some (some (.own o)) → ∃ a ho, σ[i]? = some (some (.ref a)) ∧ Fr0 b.H a ∧ w.F a = none ∧ a ∉ w.ρ ∧ H a = some ho ∧ RepO K ct w o ho
  sep : ∀ (i j : Nat) (o o' : MO), i ≠ j → en[i]? = some (some (.own o)) → en[j]? = some (some (.own o')) → σ[i]? ≠ σ[j]?

theorem Same.rd {H H' : Hp} (e : Same H H') {a : Addr} {u : HO} (r : Rd H a u) : Rd H' a u := by
  rcases r with r | ⟨o, r⟩
  · exact .inl (e _ _ r)
  · exact .inr ⟨o, e _ _ r⟩
theorem Same.sqt {K : PySem.W.Frag} {H H' : Hp} {a : Addr} {xs : List V} (e : Same H H') (h : SqT K H a xs) : SqT K H' a xs := by
  rcases h with h | h
  · exact .inl (Same.rd e h)
  · exact .inr h

section
variable {K : PySem.W.Frag} {ct : CT} {w w' w2 : Wd} {H H' H2 : Hp}
theorem prefix_get {α : Type} {l l' : List α} (h : l <+: l') {n : Nat} {a : α} (e : l[n]? = some a) : l'[n]? = some a := by
  obtain ⟨r, rfl⟩ := h
  obtain ⟨h1, h2⟩ := List.getElem?_eq_some_iff.mp e
  rw [List.getElem?_append_left h1]
  exact e
mutual
theorem Rep.mono (hρ : w.ρ <+: w'.ρ) (hF : Same w.F w'.F) : ∀ (d : D) (v : V), Rep K w d v → Rep K w' d v
  | .non, v, h => by simpa only [Rep] using h
  | .bl b, v, h => by simpa only [Rep] using h
  | .int i, v, h => by simpa only [Rep] using h
  | .str x, v, h => by simpa only [Rep] using h
  | .tup xs, v, h => by
    simp only [Rep] at h ⊢
    obtain ⟨a, vs, rfl, h1, h2⟩ := h
    exact ⟨a, vs, rfl, Same.sqt hF h1, RepL.mono hρ hF xs vs h2⟩
  | .lst xs, v, h => by
    simp only [Rep] at h ⊢
    obtain ⟨a, vs, rfl, h1, h2⟩ := h
    exact ⟨a, vs, rfl, hF _ _ h1, RepL.mono hρ hF xs vs h2⟩
  | .scr ns, v, h => by
    simp only [Rep] at h ⊢
    obtain ⟨a, rfl, h1⟩ := h
    exact ⟨a, rfl, h1.imp (fun ⟨o, e⟩ => ⟨o, hF _ _ e⟩) id⟩
  | .dic ks xs, v, h => by
    simp only [Rep] at h ⊢
    obtain ⟨a, vs, rfl, ⟨o, h1⟩, h2, h3⟩ := h
    exact ⟨a, vs, rfl, ⟨o, hF _ _ h1⟩, h2, RepL.mono hρ hF xs vs h3⟩
  | .ref n, v, h => by
    simp only [Rep] at h ⊢
    obtain ⟨a, rfl, h1⟩ := h
    exact ⟨a, rfl, prefix_get hρ h1⟩
theorem RepL.mono (hρ : w.ρ <+: w'.ρ) (hF : Same w.F w'.F) : ∀ (d : List D) (v : List V), RepL K w d v → RepL K w' d v
  | [], v, h => by simpa only [RepL] using h
  | x :: xs, v, h => by
    simp only [RepL] at h ⊢
    obtain ⟨y, r, rfl, h1, h2⟩ := h
    exact ⟨y, r, rfl, Rep.mono hρ hF x y h1, RepL.mono hρ hF xs r h2⟩
end
theorem ExF.mono (hρ : w.ρ <+: w'.ρ) (hF : Same w.F w'.F) {fs : List (Str × D)} {dx : Option Addr} (h : ExF K w fs dx) : ExF K w' fs dx := by
  rcases h with h | ⟨d, vs, e, h, r⟩
  · exact .inl h
  · exact .inr ⟨d, vs, e, hF _ _ h, RepL.mono hρ hF _ _ r⟩
theorem RepO.mono (hρ : w.ρ <+: w'.ρ) (hF : Same w.F w'.F) {o : MO} {ho : HO} (h : RepO K ct w o ho) : RepO K ct w' o ho := by
  cases o with
  | lst xs => obtain ⟨vs, e, r⟩ := h; exact ⟨vs, e, RepL.mono hρ hF _ _ r⟩
  | dic ks xs => obtain ⟨vs, e, l, r⟩ := h; exact ⟨vs, e, l, RepL.mono hρ hF _ _ r⟩
  | ldic ks xs => obtain ⟨ob, vs, e, l, r⟩ := h; exact ⟨ob, vs, e, l, RepL.mono hρ hF _ _ r⟩
  | ins c fs => obtain ⟨dx, vs, e, r⟩ := h; exact ⟨dx, vs, e, RepL.mono hρ hF _ _ r⟩
  | exc c fs => obtain ⟨oe, dx, e, z, d, r⟩ := h; exact ⟨oe, dx, e, z, d, ExF.mono hρ hF r⟩
  | kd ks xs => obtain ⟨P, W, a, es, e1, e2, e3, r1, r2⟩ := h; exact ⟨P, W, a, es, e1, e2, e3, RepL.mono hρ hF _ _ r1, RepL.mono hρ hF _ _ r2⟩
theorem Step.rep (s : Step w H w' H') {d : D} {v : V} (h : Rep K w d v) : Rep K w' d v := Rep.mono s.ρ s.F _ _ h
theorem Step.repL (s : Step w H w' H') {d : List D} {v : List V} (h : RepL K w d v) : RepL K w' d v := RepL.mono s.ρ s.F _ _ h
theorem Step.repO (s : Step w H w' H') {o : MO} {h : HO} (x : RepO K ct w o h) : RepO K ct w' o h := RepO.mono s.ρ s.F x
theorem Step.refl (w : Wd) (H : Hp) : Step w H w H := ⟨List.prefix_refl _, Same.refl _, fun _ _ h1 _ h2 h3 => ⟨h1, h2, h3⟩⟩
theorem Step.trans (a : Step w H w' H') (b : Step w' H' w2 H2) : Step w H w2 H2 :=
  ⟨a.ρ.trans b.ρ, a.F.trans b.F, fun c o h1 ht h2 h3 => let ⟨q1, q2, q3⟩ := a.fr c o h1 ht h2 h3; b.fr c o q1 ht q2 q3⟩
theorem Sl.step {b : Base} {en : En} {σ : L2.St} (x : Sl K ct b w en σ H) (s : Step w H w' H') : Sl K ct b w' en σ H' := by
  refine ⟨x.len, fun i d e => ?_, fun i o e => ?_, x.sep⟩
  · obtain ⟨v, h1, h2⟩ := x.val i d e
    exact ⟨v, h1, s.rep h2⟩
  · obtain ⟨a, ho, h1, h2, h3, h4, h5, h6⟩ := x.own i o e
    obtain ⟨q1, q2, q3⟩ := s.fr a ho h5 h6.niceH.ntbl h3 h4
    exact ⟨a, ho, h1, h2, q2, q3, q1, s.repO h6⟩

theorem RepL.length : ∀ {ds : List D} {vs : List V}, RepL K w ds vs → ds.length = vs.length
  | [], vs, h => by
    simp only [RepL] at h
    rw [h]
    rfl
  | x :: xs, vs, h => by
    simp only [RepL] at h
    obtain ⟨v, r, rfl, _, h2⟩ := h
    simp only [List.length_cons, RepL.length h2]
theorem RepL.get : ∀ {ds : List D} {vs : List V} {i : Nat} {d : D}, RepL K w ds vs → ds[i]? = some d → ∃ v, vs[i]? = some v ∧ Rep K w d v
  | [], vs, i, d, h, e => by simp at e
  | x :: xs, vs, 0, d, h, e => by
    simp only [RepL] at h
    obtain ⟨v, r, rfl, h1, h2⟩ := h
    simp only [List.getElem?_cons_zero, Option.some.injEq] at e
    subst e
    exact ⟨v, rfl, h1⟩
  | x :: xs, vs, i + 1, d, h, e => by
    simp only [RepL] at h
    obtain ⟨v, r, rfl, h1, h2⟩ := h
    simp only [List.getElem?_cons_succ] at e ⊢
    exact RepL.get h2 e
theorem RepL.get' : ∀ {ds : List D} {vs : List V} {i : Nat} {v : V}, RepL K w ds vs → vs[i]? = some v → ∃ d, ds[i]? = some d ∧ Rep K w d v
  | [], vs, i, v, h, e => by
    simp only [RepL] at h
    rw [h] at e
    simp at e
  | x :: xs, vs, 0, d, h, e => by
    simp only [RepL] at h
    obtain ⟨v, r, rfl, h1, h2⟩ := h
    simp only [List.getElem?_cons_zero, Option.some.injEq] at e
    subst e
    exact ⟨x, rfl, h1⟩
  | x :: xs, vs, i + 1, d, h, e => by
    simp only [RepL] at h
    obtain ⟨v, r, rfl, h1, h2⟩ := h
    simp only [List.getElem?_cons_succ] at e ⊢
    exact RepL.get' h2 e
theorem RepL.append : ∀ {ds es : List D} {vs us : List V}, RepL K w ds vs → RepL K w es us → RepL K w (ds ++ es) (vs ++ us)
  | [], es, vs, us, h, h' => by
    simp only [RepL] at h
    rw [h]
    exact h'
  | x :: xs, es, vs, us, h, h' => by
    simp only [RepL] at h
    obtain ⟨v, r, rfl, h1, h2⟩ := h
    simp only [List.cons_append, RepL]
    exact ⟨v, r ++ us, rfl, h1, RepL.append h2 h'⟩
theorem RepL.nil : RepL K w [] [] := by simp only [RepL]
theorem RepL.cons {d : D} {ds : List D} {v : V} {vs : List V} (h : Rep K w d v) (hs : RepL K w ds vs) : RepL K w (d :: ds) (v :: vs) := by
  simp only [RepL]
  exact ⟨v, vs, rfl, h, hs⟩
theorem RepL.one {d : D} {v : V} (h : Rep K w d v) : RepL K w [d] [v] := .cons h .nil
theorem RepL.cons_iff {d : D} {ds : List D} {vs : List V} : RepL K w (d :: ds) vs ↔ ∃ v r, vs = v :: r ∧ Rep K w d v ∧ RepL K w ds r := by simp only [RepL]
theorem RepL.nil_iff {vs : List V} : RepL K w [] vs ↔ vs = [] := by simp only [RepL]
theorem RepL.take : ∀ {ds : List D} {vs : List V} (n : Nat), RepL K w ds vs → RepL K w (ds.take n) (vs.take n)
  | ds, vs, 0, _ => by
    rw [List.take_zero, List.take_zero]
    exact .nil
  | [], vs, n + 1, h => by
    rw [RepL.nil_iff] at h
    rw [h]
    exact .nil
  | x :: xs, vs, n + 1, h => by
    rw [RepL.cons_iff] at h
    obtain ⟨v, r, rfl, h1, h2⟩ := h
    exact .cons h1 (RepL.take n h2)
theorem RepL.drop : ∀ {ds : List D} {vs : List V} (n : Nat), RepL K w ds vs → RepL K w (ds.drop n) (vs.drop n)
  | ds, vs, 0, h => h
  | [], vs, n + 1, h => by
    rw [RepL.nil_iff] at h
    rw [h]
    exact .nil
  | x :: xs, vs, n + 1, h => by
    rw [RepL.cons_iff] at h
    obtain ⟨v, r, rfl, h1, h2⟩ := h
    exact RepL.drop n h2
theorem RepL.set {d : D} {v : V} (hv : Rep K w d v) : ∀ {ds : List D} {vs : List V} (n : Nat), RepL K w ds vs → RepL K w (ds.set n d) (vs.set n v)
  | [], vs, n, h => by
    rw [RepL.nil_iff] at h
    rw [h]
    exact .nil
  | x :: xs, vs, 0, h => by
    rw [RepL.cons_iff] at h
    obtain ⟨u, r, rfl, h1, h2⟩ := h
    exact .cons hv h2
  | x :: xs, vs, n + 1, h => by
    rw [RepL.cons_iff] at h
    obtain ⟨u, r, rfl, h1, h2⟩ := h
    exact .cons h1 (RepL.set hv n h2)
theorem RepL.reverse : ∀ {ds : List D} {vs : List V}, RepL K w ds vs → RepL K w ds.reverse vs.reverse
  | [], vs, h => by
    rw [RepL.nil_iff] at h
    rw [h]
    exact .nil
  | x :: xs, vs, h => by
    rw [RepL.cons_iff] at h
    obtain ⟨u, r, rfl, h1, h2⟩ := h
    rw [List.reverse_cons, List.reverse_cons]
    exact (RepL.reverse h2).append (.one h1)

/-- a new frozen thing -/
theorem Rl.frozen {M : Store} (r : Rl K ct w M H) {p : Addr} {o : HO} (hp : H p = none) (hn : NiceH o) : Step w H ⟨w.ρ, upd w.F p o⟩ (upd H p o) ∧ Rl K ct ⟨w.ρ, upd w.F p o⟩ M (upd H p o) := by
  have fp : w.F p = none := r.sub.free hp
  have sF : Same w.F (upd w.F p o) := fun b u e => by
    rw [upd_ne (ne_of_none e fp)]
    exact e
  have st : Step w H ⟨w.ρ, upd w.F p o⟩ (upd H p o) := ⟨List.prefix_refl _, sF, fun a u h1 _ h2 h3 => by
    have ne := ne_of_none h1 hp
    refine ⟨by rw [upd_ne ne]; exact h1, ?_, h3⟩
    show upd w.F p o a = none
    rw [upd_ne ne]
    exact h2⟩
  refine ⟨st, fun b u e => ?_, r.len, r.nd, fun n u e => ?_, fun b u e => ?_, tabs_new r.tabs hp⟩
  · by_cases hb : b = p
    · subst hb
      have e' : upd w.F b o b = some u := e
      rw [upd_same] at e'
      rw [upd_same]
      exact .inl e'
    · have e' : upd w.F p o b = some u := e
      rw [upd_ne hb] at e'
      rw [upd_ne hb]
      exact r.sub _ _ e'
  · obtain ⟨a, ho, h1, h2, h3, h4⟩ := r.mo n u e
    have ne := ne_of_none h3 hp
    refine ⟨a, ho, h1, ?_, by rw [upd_ne ne]; exact h3, st.repO h4⟩
    show upd w.F p o a = none
    rw [upd_ne ne]
    exact h2
  · by_cases hb : b = p
    · subst hb
      have e' : upd w.F b o b = some u := e
      rw [upd_same] at e'
      cases e'
      exact hn
    · have e' : upd w.F p o b = some u := e
      rw [upd_ne hb] at e'
      exact r.nice _ _ e'
/-- a new thing that nobody knows of yet -/
theorem Rl.aside {M : Store} (r : Rl K ct w M H) {p : Addr} {o : HO} (hp : H p = none) : Step w H w (upd H p o) ∧ Rl K ct w M (upd H p o) := by
  refine ⟨⟨List.prefix_refl _, Same.refl _, fun a u h1 _ h2 h3 => ⟨by rw [upd_ne (ne_of_none h1 hp)]; exact h1, h2, h3⟩⟩, fun b u e => ?_, r.len, r.nd, fun n u e => ?_, r.nice, tabs_new r.tabs hp⟩
  · rw [upd_ne (r.sub.ne e hp)]
    exact r.sub b u e
  · obtain ⟨a, ho, h1, h2, h3, h4⟩ := r.mo n u e
    exact ⟨a, ho, h1, h2, by rw [upd_ne (ne_of_none h3 hp)]; exact h3, h4⟩
theorem Rl.notin {M : Store} (r : Rl K ct w M H) {p : Addr} (hp : H p = none) : p ∉ w.ρ := fun hm => by
  obtain ⟨n, hn, e⟩ := List.getElem_of_mem hm
  have hM : n < M.length := by rw [r.len]; exact hn
  obtain ⟨a, ho, h1, h2, h3, h4⟩ := r.mo n M[n] (List.getElem?_eq_getElem hM)
  rw [List.getElem?_eq_getElem hn, e] at h1
  cases h1
  rw [hp] at h3
  cases h3
/-- a new thing of the store -/
theorem Rl.alloc {M : Store} (r : Rl K ct w M H) {p : Addr} {ho : HO} {o : MO} (hp : H p = none) (ro : RepO K ct w o ho) : Step w H ⟨w.ρ ++ [p], w.F⟩ (upd H p ho) ∧ Rl K ct ⟨w.ρ ++ [p], w.F⟩ (M ++ [o]) (upd H p ho) := by
  have pp : w.ρ <+: w.ρ ++ [p] := List.prefix_append _ _
  have fp : w.F p = none := r.sub.free hp
  have st : Step w H ⟨w.ρ ++ [p], w.F⟩ (upd H p ho) := ⟨pp, Same.refl _, fun a u h1 _ h2 h3 => by
    have ne := ne_of_none h1 hp
    refine ⟨by rw [upd_ne ne]; exact h1, h2, ?_⟩
    show a ∉ w.ρ ++ [p]
    simp only [List.mem_append, List.mem_singleton, not_or]
    exact ⟨h3, ne⟩⟩
  refine ⟨st, fun b u e => ?_, ?_, ?_, fun n u e => ?_, r.nice, tabs_new r.tabs hp⟩
  · rw [upd_ne (r.sub.ne e hp)]
    exact r.sub b u e
  · show (M ++ [o]).length = (w.ρ ++ [p]).length
    simp [r.len]
  · show (w.ρ ++ [p]).Nodup
    rw [List.nodup_append]
    refine ⟨r.nd, by simp, fun a ha b hb => ?_⟩
    have : b = p := by simpa using hb
    subst this
    exact fun z => r.notin hp (z ▸ ha)
  · by_cases hn : n < M.length
    · rw [List.getElem?_append_left hn] at e
      obtain ⟨a, hu, h1, h2, h3, h4⟩ := r.mo n u e
      exact ⟨a, hu, prefix_get pp h1, h2, by rw [upd_ne (ne_of_none h3 hp)]; exact h3, st.repO h4⟩
    · rw [List.getElem?_append_right (by omega)] at e
      have hz : n - M.length = 0 := by
        cases q : n - M.length with
        | zero => rfl
        | succ k => rw [q] at e; simp at e
      rw [hz] at e
      simp only [List.getElem?_cons_zero, Option.some.injEq] at e
      subst e
      have hn' : n = w.ρ.length := by rw [← r.len]; omega
      refine ⟨p, ho, ?_, fp, upd_same, st.repO ro⟩
      show (w.ρ ++ [p])[n]? = some p
      rw [hn', List.getElem?_append_right (Nat.le_refl _)]
      simp
/-- a thing of the store is changed -/
theorem Rl.write {M : Store} (r : Rl K ct w M H) {n : Nat} {a : Addr} {ho : HO} {o : MO} (ha : w.ρ[n]? = some a) (ro : RepO K ct w o ho) : Step w H w (upd H a ho) ∧ Rl K ct w (M.set n o) (upd H a ho) := by
  have hm : a ∈ w.ρ := List.mem_of_getElem? ha
  have hn : n < w.ρ.length := (List.getElem?_eq_some_iff.mp ha).1
  have hM : n < M.length := by rw [r.len]; exact hn
  obtain ⟨a', h0, g1, g2, g3, g4⟩ := r.mo n M[n] (List.getElem?_eq_getElem hM)
  rw [ha] at g1
  cases g1
  refine ⟨⟨List.prefix_refl _, Same.refl _, fun b u h1 _ h2 h3 => ⟨by rw [upd_ne (fun z => h3 (by rw [z]; exact hm))]; exact h1, h2, h3⟩⟩, fun b u e => ?_, ?_, r.nd, fun m u e => ?_, r.nice, tabs_upd r.tabs fun o e => by rw [g3] at e; cases e; exact g4.niceH⟩
  · have ne : b ≠ a := fun z => by rw [z, g2] at e; cases e
    rw [upd_ne ne]
    exact r.sub b u e
  · rw [List.length_set]
    exact r.len
  · by_cases hmn : m = n
    · subst hmn
      rw [List.getElem?_set_self hM] at e
      cases e
      exact ⟨a, ho, ha, g2, upd_same, ro⟩
    · rw [List.getElem?_set_ne (Ne.symm hmn)] at e
      obtain ⟨b, hb, h1, h2, h3, h4⟩ := r.mo m u e
      refine ⟨b, hb, h1, h2, ?_, h4⟩
      have ne : b ≠ a := fun z => by
        subst z
        obtain ⟨k1, e1⟩ := List.getElem?_eq_some_iff.mp h1
        obtain ⟨k2, e2⟩ := List.getElem?_eq_some_iff.mp ha
        exact hmn ((List.getElem_inj r.nd).mp (e1.trans e2.symm))
      rw [upd_ne ne]
      exact h3
theorem Rl.at {M : Store} (r : Rl K ct w M H) {n : Nat} {a : Addr} {o : MO} (ha : w.ρ[n]? = some a) (e : M[n]? = some o) : ∃ ho, w.F a = none ∧ H a = some ho ∧ RepO K ct w o ho := by
  obtain ⟨a', ho, h1, h2, h3, h4⟩ := r.mo n o e
  rw [ha] at h1
  cases h1
  exact ⟨ho, h2, h3, h4⟩
end

/-! ### what code computes -/
inductive Out (α : Type) where
  | ok (a : α) (M : Store) | exc (c : Str) (fs : List (Str × D)) (M : Store) | err
def Out.bind {α β : Type} (x : Out α) (f : α → Store → Out β) : Out β := match x with
  | .ok a M => f a M
  | .exc c fs M => .exc c fs M
  | .err => .err
@[simp] theorem Out.bind_ok {α β : Type} (a : α) (M : Store) (f : α → Store → Out β) : (Out.ok a M).bind f = f a M := rfl
@[simp] theorem Out.bind_exc {α β : Type} (c : Str) (fs : List (Str × D)) (M : Store) (f : α → Store → Out β) : (Out.exc c fs M).bind f = .exc c fs M := rfl
@[simp] theorem Out.bind_err {α β : Type} (f : α → Store → Out β) : (Out.err).bind f = .err := rfl
def Post {α : Type} (x : Out α) (Q : α → Store → Prop) (E : Str → List (Str × D) → Store → Prop) : Prop := match x with
  | .ok a M => Q a M
  | .exc c fs M => E c fs M
  | .err => False
theorem Post.bind {α β : Type} {x : Out α} {f : α → Store → Out β} {Q : β → Store → Prop} {E : Str → List (Str × D) → Store → Prop} (h : Post (x.bind f) Q E) : Post x (fun a M => Post (f a M) Q E) E := by
  cases x with
  | ok a M => exact h
  | exc c fs M => exact h
  | err => exact h
theorem Post.imp {α : Type} {x : Out α} {Q Q' : α → Store → Prop} {E E' : Str → List (Str × D) → Store → Prop} (h : Post x Q E) (hq : ∀ a M, Q a M → Q' a M) (he : ∀ c fs M, E c fs M → E' c fs M) : Post x Q' E' := by
  cases x with
  | ok a M => exact hq _ _ h
  | exc c fs M => exact he _ _ _ h
  | err => exact h

abbrev CE := En → Store → Out D
/-- an exception's value: its class, its field -/
def ExV (K : PySem.W.Frag) (ct : CT) (w : Wd) (c : Str) (fs : List (Str × D)) (cls : Value) (dx : Option Addr) (H : Hp) : Prop :=
  cls = .ref (ct c) ∧ ExF K w fs dx

section
variable (X : Cx) (ct : CT) (b : Base) (W : WX)
def TD (f : CE) : TE := fun σ H Q => ∃ w en M, Sl X.K ct b w en σ H ∧ Rl X.K ct w M H ∧ Post (f en M)
  (fun d M' => ∀ w' v H', Step w H w' H' → Rl X.K ct w' M' H' → Rep X.K w' d v → Q v H')
  (fun c fs M' => ∀ w' cls dx H', Step w H w' H' → Sl X.K ct b w' en σ H' → Rl X.K ct w' M' H' → ExV X.K ct w' c fs cls dx H' → W cls dx σ H')
/-- a test -/
def TTD (f : En → Store → Out Bool) : TT := fun σ H Q => ∃ w en M, Sl X.K ct b w en σ H ∧ Rl X.K ct w M H ∧ Post (f en M)
  (fun d M' => ∀ w' H', Step w H w' H' → Rl X.K ct w' M' H' → Q d H')
  (fun c fs M' => ∀ w' cls dx H', Step w H w' H' → Sl X.K ct b w' en σ H' → Rl X.K ct w' M' H' → ExV X.K ct w' c fs cls dx H' → W cls dx σ H')
/-- arguments -/
def TAD (f : En → Store → Out (List D)) : TA := fun σ H Q => ∃ w en M, Sl X.K ct b w en σ H ∧ Rl X.K ct w M H ∧ Post (f en M)
  (fun d M' => ∀ w' v H', Step w H w' H' → Rl X.K ct w' M' H' → RepL X.K w' d v → Q v H')
  (fun c fs M' => ∀ w' cls dx H', Step w H w' H' → Sl X.K ct b w' en σ H' → Rl X.K ct w' M' H' → ExV X.K ct w' c fs cls dx H' → W cls dx σ H')
/-- an expression that makes a new list, dict: what it holds, ahead of the making -/
def TND (f : En → Store → Out MO) : TE := fun σ H Q => ∃ w en M, Sl X.K ct b w en σ H ∧ Rl X.K ct w M H ∧ Post (f en M)
  (fun o M' => ∀ w' p ho H', Step w H w' H' → Rl X.K ct w' M' H' → H' p = none → RepO X.K ct w' o ho → Q (.ref p) (upd H' p ho))
  (fun c fs M' => ∀ w' cls dx H', Step w H w' H' → Sl X.K ct b w' en σ H' → Rl X.K ct w' M' H' → ExV X.K ct w' c fs cls dx H' → W cls dx σ H')
abbrev PD (f : CE) (e : Expr) : Prop := PE X e (TD X ct b W f)
abbrev PTD (f : En → Store → Out Bool) (e : Expr) : Prop := PT X e (TTD X ct b W f)
abbrev PAD (f : En → Store → Out (List D)) (es : List Expr) : Prop := PA X es (TAD X ct b W f)
abbrev PND (f : En → Store → Out MO) (e : Expr) : Prop := PE X e (TND X ct b W f)
end

/-! ### weakening -/
theorem PE.wk {X : Cx} {e : Expr} {t t' : TE} (h : PE X e t) (m : ∀ σ H Q, t' σ H Q → t σ H Q) : PE X e t' := ⟨fun pins s σ H Q I q => h.run pins s σ H Q I (m σ H Q q)⟩
theorem PT.wk {X : Cx} {e : Expr} {t t' : TT} (h : PT X e t) (m : ∀ σ H Q, t' σ H Q → t σ H Q) : PT X e t' := ⟨fun pins s σ H Q I q => h.run pins s σ H Q I (m σ H Q q)⟩
theorem PA.wk {X : Cx} {e : List Expr} {t t' : TA} (h : PA X e t) (m : ∀ σ H Q, t' σ H Q → t σ H Q) : PA X e t' := ⟨fun pos pins s σ H Q I q => h.run pos pins s σ H Q I (m σ H Q q)⟩
theorem PS.wk {X : Cx} {e : Stmt} {t t' : L2.TS} (h : L2.PS X e t) (m : ∀ D σ H, t' D σ H → t D σ H) : L2.PS X e t' := L2.PS.mk fun pins s σ H D I q => h.run pins s σ H D I (m D σ H q)
theorem PSs.wk {X : Cx} {e : List Stmt} {t t' : L2.TS} (h : L2.PSs X e t) (m : ∀ D σ H, t' D σ H → t D σ H) : L2.PSs X e t' := L2.PSs.mk fun pins s σ H D I q => h.run pins s σ H D I (m D σ H q)

section
variable {X : Cx} {ct : CT} {b : Base} {W : WX}
/-- one expression, then the rest: how a reading of a part is opened -/
theorem TD.go {f : CE} {σ : L2.St} {H : Hp} {R : VK} {w : Wd} {en : En} {M : Store} (S : Sl X.K ct b w en σ H) (r : Rl X.K ct w M H)
    {Q : D → Store → Prop} {E : Str → List (Str × D) → Store → Prop} (p : Post (f en M) Q E)
    (hk : ∀ d M', Q d M' → ∀ w' v H', Step w H w' H' → Rl X.K ct w' M' H' → Sl X.K ct b w' en σ H' → Rep X.K w' d v → R v H')
    (he : ∀ c fs M', E c fs M' → ∀ w' cls dx H', Step w H w' H' → Sl X.K ct b w' en σ H' → Rl X.K ct w' M' H' → ExV X.K ct w' c fs cls dx H' → W cls dx σ H') : TD X ct b W f σ H R :=
  ⟨w, en, M, S, r, p.imp (fun d M' q w' v H' s r' x => hk d M' q w' v H' s r' (S.step s) x) he⟩
end
end DL

/-! DL1: expressions over data: names, constants, operators by views, tests, displays. -/
namespace DL
open PySem PySem.Spec PyProof.Rows L2

/-- what an expression hands to an operation: data, or the frame's own thing in a slot -/
inductive Hd where
  | d (x : D) | own (i : Nat)
/-- one level of what changes is looked into -/
def vwO : MO → Option D
  | .lst xs => some (.lst xs)
  | .dic ks xs => some (.dic ks xs)
  | .ldic ks xs => some (.dic ks xs)
  | .ins _ _ => none
  | .exc _ _ => none
  | .kd _ _ => none
def vwD (M : Store) : D → Option D
  | .ref n => match M[n]? with
    | some o => match vwO o with
      | some d => some d
      | none => some (.ref n)
    | none => none
  | d => some d
def vw (en : En) (M : Store) : Hd → Option D
  | .d x => vwD M x
  | .own i => match en[i]? with
    | some (some (.own o)) => vwO o
    | _ => none
def RepH (K : PySem.W.Frag) (w : Wd) (σ : L2.St) : Hd → V → Prop
  | .d x, v => Rep K w x v
  | .own i, v => σ[i]? = some (some v)
/-- what a view is in the heap -/
def Vw (K : PySem.W.Frag) (w : Wd) (H : Hp) : D → V → Prop
  | .lst xs, v => ∃ a vs, v = .ref a ∧ H a = some (.lst vs) ∧ RepL K w xs vs
  | .dic ks xs, v => ∃ a vs, v = .ref a ∧ Rd H a (.dK (ks.zip vs)) ∧ ks.length = xs.length ∧ RepL K w xs vs
  | .non, v => v = .non
  | .bl b, v => v = .bl b
  | .int i, v => v = .int i
  | .str x, v => v = .str x
  | .tup xs, v => Rep K w (.tup xs) v ∧ ∃ a vs, v = .ref a ∧ SqT K H a vs ∧ RepL K w xs vs
  | .ref n, v => ∃ a, v = .ref a ∧ w.ρ[n]? = some a
  | .scr ns, v => Rep K w (.scr ns) v ∧ ∃ a, v = .ref a ∧ SqL K H a (ns.map V.int)
theorem Sub.lst {F H : Hp} (s : Sub F H) {a : Addr} {vs : List V} (h : F a = some (.lst vs)) : H a = some (.lst vs) := by
  rcases s _ _ h with z | ⟨⟨kvs, e⟩, _⟩
  · exact z
  · cases e
theorem Sub.tup {F H : Hp} (s : Sub F H) {a : Addr} {vs : List V} (h : F a = some (.tup vs)) : H a = some (.tup vs) := by
  rcases s _ _ h with z | ⟨⟨kvs, e⟩, _⟩
  · exact z
  · cases e
theorem Sub.frz {F H : Hp} (s : Sub F H) {a : Addr} {o : Obj} {u : HO} (h : F a = some (.frz o u)) : H a = some (.frz o u) := by
  rcases s _ _ h with z | ⟨⟨kvs, e⟩, _⟩
  · exact z
  · cases e
theorem Sub.dK {F H : Hp} (s : Sub F H) {a : Addr} {kvs : List (Key × V)} (h : F a = some (.dK kvs)) : Rd H a (.dK kvs) := by
  rcases s _ _ h with z | ⟨_, ob, z⟩
  · exact .inl z
  · exact .inr ⟨ob, z⟩
theorem Sub.sqt {K : PySem.W.Frag} {F H : Hp} (s : Sub F H) {a : Addr} {vs : List V} (h : SqT K F a vs) : SqT K H a vs := by
  rcases h with (h | ⟨o, h⟩) | h
  · exact .inl (.inl (s.tup h))
  · exact .inl (.inr ⟨o, s.frz h⟩)
  · exact .inr h
theorem Vw.of {K : PySem.W.Frag} {w : Wd} {H : Hp} (s : Sub w.F H) : ∀ {d : D} {v : V}, Rep K w d v → Vw K w H d v
  | .non, v, h => by
    simp only [Rep] at h
    exact h
  | .bl _, v, h => by
    simp only [Rep] at h
    exact h
  | .int _, v, h => by
    simp only [Rep] at h
    exact h
  | .str _, v, h => by
    simp only [Rep] at h
    exact h
  | .tup xs, v, h => by
    have h0 := h
    simp only [Rep] at h
    obtain ⟨a, vs, rfl, h1, h2⟩ := h
    exact ⟨h0, a, vs, rfl, s.sqt h1, h2⟩
  | .lst xs, v, h => by
    simp only [Rep] at h
    obtain ⟨a, vs, rfl, h1, h2⟩ := h
    exact ⟨a, vs, rfl, s.lst h1, h2⟩
  | .dic ks xs, v, h => by
    simp only [Rep] at h
    obtain ⟨a, vs, rfl, ⟨o, h1⟩, h2, h3⟩ := h
    exact ⟨a, vs, rfl, .inr ⟨o, s.frz h1⟩, h2, h3⟩
  | .ref n, v, h => by
    simp only [Rep] at h
    exact h
  | .scr ns, v, h => by
    have h0 := h
    simp only [Rep] at h
    obtain ⟨a, rfl, h1⟩ := h
    refine ⟨h0, a, rfl, ?_⟩
    rcases h1 with ⟨o, e⟩ | h1
    · exact .inl (.inr ⟨o, s.frz e⟩)
    · rcases h1 with (h1 | ⟨o, h1⟩) | h1
      · cases h1
      · cases h1
      · exact .inr h1
theorem Vw.ofO {K : PySem.W.Frag} {ct : CT} {w : Wd} {H : Hp} {o : MO} {ho : HO} {a : Addr} {d : D} (ha : H a = some ho) (r : RepO K ct w o ho) (e : vwO o = some d) : Vw K w H d (.ref a) := by
  cases o with
  | lst xs =>
    cases e
    obtain ⟨vs, rfl, r⟩ := r
    exact ⟨a, vs, rfl, ha, r⟩
  | dic ks xs =>
    cases e
    obtain ⟨vs, rfl, l, r⟩ := r
    exact ⟨a, vs, rfl, .inl ha, l, r⟩
  | ldic ks xs =>
    cases e
    obtain ⟨ob, vs, rfl, l, r⟩ := r
    exact ⟨a, vs, rfl, .inr ⟨ob, ha⟩, l, r⟩
  | ins c fs => cases e
  | exc c fs => cases e
  | kd ks xs => cases e
theorem vwD_ok {K : PySem.W.Frag} {ct : CT} {w : Wd} {M : Store} {H : Hp} {x d : D} {v : V} (r : Rl K ct w M H) (h : Rep K w x v) (e : vwD M x = some d) : Vw K w H d v := by
  cases x with
  | ref n =>
    simp only [Rep] at h
    obtain ⟨a, rfl, ha⟩ := h
    unfold vwD at e
    dsimp only at e
    cases q : M[n]? with
    | none => rw [q] at e; cases e
    | some o =>
      rw [q] at e
      dsimp only at e
      obtain ⟨ho, h2, h3, h4⟩ := r.at ha q
      cases z : vwO o with
      | none =>
        rw [z] at e
        cases e
        exact ⟨a, rfl, ha⟩
      | some d' =>
        rw [z] at e
        cases e
        exact Vw.ofO h3 h4 z
  | _ =>
    cases e
    exact Vw.of r.sub h
theorem vw_ok {K : PySem.W.Frag} {ct : CT} {b : Base} {w : Wd} {en : En} {σ : L2.St} {M : Store} {H : Hp} {x : Hd} {d : D} {v : V} (S : Sl K ct b w en σ H) (r : Rl K ct w M H) (h : RepH K w σ x v) (e : vw en M x = some d) : Vw K w H d v := by
  cases x with
  | d x => exact vwD_ok r h e
  | own i =>
    unfold vw at e
    dsimp only at e
    have h : σ[i]? = some (some v) := h
    cases q : en[i]? with
    | none => rw [q] at e; cases e
    | some o' =>
      rw [q] at e
      cases o' with
      | none => cases e
      | some sl =>
        cases sl with
        | val d => cases e
        | own o =>
          dsimp only at e
          obtain ⟨a, ho, h1, _, _, _, h5, h6⟩ := S.own i o q
          rw [h] at h1
          cases h1
          exact Vw.ofO h5 h6 e
theorem Step.repH {K : PySem.W.Frag} {w w' : Wd} {H H' : Hp} {σ : L2.St} (s : Step w H w' H') {x : Hd} {v : V} (h : RepH K w σ x v) : RepH K w' σ x v := by
  cases x with
  | d x => exact s.rep (show Rep K w x v from h)
  | own i => exact h

abbrev CH := En → Store → Out Hd
abbrev CB := En → Store → Out Bool
abbrev CA := En → Store → Out (List D)
abbrev CN := En → Store → Out MO
section
variable (X : Cx) (ct : CT) (b : Base) (W : WX)
/-- an expression that an operation asks -/
def THD (f : CH) : TE := fun σ H Q => ∃ w en M, Sl X.K ct b w en σ H ∧ Rl X.K ct w M H ∧ Post (f en M)
  (fun d M' => ∀ w' v H', Step w H w' H' → Rl X.K ct w' M' H' → RepH X.K w' σ d v → Q v H')
  (fun c fs M' => ∀ w' cls dx H', Step w H w' H' → Sl X.K ct b w' en σ H' → Rl X.K ct w' M' H' → ExV X.K ct w' c fs cls dx H' → W cls dx σ H')
abbrev PHD (f : CH) (e : Expr) : Prop := PE X e (THD X ct b W f)
end

def hd (f : CE) : CH := fun en M => (f en M).bind fun d M => .ok (.d d) M
def hOwn (i : Nat) : CH := fun en M => match en[i]? with
  | some (some (.own _)) => .ok (.own i) M
  | some (some (.val d)) => .ok (.d d) M
  | _ => .err
def eVar (i : Nat) : CE := fun en M => match en[i]? with
  | some (some (.val d)) => .ok d M
  | _ => .err
def eC (d : D) : CE := fun _ M => .ok d M
def ofO {α : Type} (o : Option α) (M : Store) : Out α := match o with
  | some a => .ok a M
  | none => .err
@[simp] theorem ofO_some {α : Type} (a : α) (M : Store) : ofO (some a) M = .ok a M := rfl
@[simp] theorem ofO_none {α : Type} (M : Store) : ofO (none : Option α) M = .err := rfl
/-- two views, then the operation -/
def eOp (g : D → D → Option D) (h1 h2 : CH) : CE := fun en M => (h1 en M).bind fun a M1 => (h2 en M1).bind fun c M2 => ofO ((vw en M2 a).bind fun x => (vw en M2 c).bind fun y => g x y) M2
def eUn (g : D → Option D) (h : CH) : CE := fun en M => (h en M).bind fun a M1 => ofO ((vw en M1 a).bind g) M1

section
variable {X : Cx} {ct : CT} {b : Base} {W : WX} {e e1 e2 e3 : Expr} {pos : Pos} {es : List Expr}

theorem TD.th {f : CE} {σ : L2.St} {H : Hp} {Q : VK} (h : THD X ct b W (hd f) σ H Q) : TD X ct b W f σ H Q := by
  obtain ⟨w, en, M, S, r, p⟩ := h
  refine ⟨w, en, M, S, r, (Post.bind p).imp (fun d M' q w' v H' s r' x => q w' v H' s r' x) fun _ _ _ q => q⟩
theorem phd {f : CE} (h : PD X ct b W f e) : PHD X ct b W (hd f) e := PE.wk h fun _ _ _ => TD.th
theorem pd_var {i : Nat} {x : Str} {pos : Pos} (hN : X.N[i]? = some x := by rfl) (hv : Vis X.env.scope x := by first | exact Or.inl rfl | exact Or.inr (Or.inl rfl) | exact Or.inr (Or.inr rfl)) (hd : (x == ("__debug__" : Str)) = false := by decide)
    (hcd : (x == ("__classdict__" : Str)) = false := by decide) : PD X ct b W (eVar i) (.Name x pos) := PE.wk (pe_var hN hv hd hcd) fun σ H Q h => by
  obtain ⟨w, en, M, S, r, p⟩ := h
  unfold eVar at p
  split at p
  · rename_i d q
    obtain ⟨v, h1, h2⟩ := S.val i d q
    exact ⟨v, h1, p w _ H (Step.refl _ _) r h2⟩
  · exact p.elim
theorem TD.const {d : D} {v : V} (hv : ∀ w, Rep X.K w d v) {σ : L2.St} {H : Hp} {Q : VK} (h : TD X ct b W (eC d) σ H Q) : Q v H := by
  obtain ⟨w, en, M, S, r, p⟩ := h
  exact p w v H (Step.refl _ _) r (hv w)
theorem pd_int {i : Int} {j pos} : PD X ct b W (eC (.int i)) (.Constant (.int i) j pos) := PE.wk pe_int fun _ _ _ h => TD.const (fun _ => by simp only [Rep]) h
theorem pd_str {i : Str} {j pos} : PD X ct b W (eC (.str i)) (.Constant (.str i) j pos) := PE.wk pe_str fun _ _ _ h => TD.const (fun _ => by simp only [Rep]) h
theorem pd_bl {i : Bool} {j pos} : PD X ct b W (eC (.bl i)) (.Constant (.bool i) j pos) := PE.wk pe_bl fun _ _ _ h => TD.const (fun _ => by simp only [Rep]) h
theorem pd_non {j pos} : PD X ct b W (eC .non) (.Constant .none j pos) := PE.wk pe_non fun _ _ _ h => TD.const (fun _ => by simp only [Rep]) h
/-- a module's constant -/
structure Glb (K : PySem.W.Frag) (mg : Str → Option Value) (x : Str) (d : D) : Prop where
  ex : ∃ u v, mg x = some u ∧ RelV v u ∧ ∀ w, Rep K w d v
theorem pd_glob {x : Str} {d : D} {pos : Pos} (g : Glb X.K X.mg x d) (hg : Gl X x := by rfl) (hd : (x == ("__debug__" : Str)) = false := by decide) : PD X ct b W (eC d) (.Name x pos) := by
  obtain ⟨u, v, h1, h2, h3⟩ := g.ex
  exact PE.wk (pe_glob hg h1 h2 hd) fun _ _ _ h => TD.const h3 h

/-! ### operations by views -/
def Ok1 (K : PySem.W.Frag) (ct : CT) (w : Wd) (M : Store) (H : Hp) (d : D) (Q : VK) : Prop := ∀ w' v H', Step w H w' H' → Rl K ct w' M H' → Rep K w' d v → Q v H'
def OpV (X : Cx) (ct : CT) (fn : Value → Value → Sem Value) (g : D → D → Option D) : Prop := ∃ r, OpR X fn r ∧ ∀ w M H x y v1 v2 d Q, Rl X.K ct w M H → Vw X.K w H x v1 → Vw X.K w H y v2 → g x y = some d → Ok1 X.K ct w M H d Q → r v1 v2 H Q
def UnV (X : Cx) (ct : CT) (fn : Value → Sem Value) (g : D → Option D) : Prop := ∃ r, UnR X fn r ∧ ∀ w M H x v1 d Q, Rl X.K ct w M H → Vw X.K w H x v1 → g x = some d → Ok1 X.K ct w M H d Q → r v1 H Q
theorem ofO_post {α : Type} {o : Option α} {M : Store} {Q : α → Store → Prop} {E : Str → List (Str × D) → Store → Prop} (h : Post (ofO o M) Q E) : ∃ a, o = some a ∧ Q a M := by
  cases o with
  | none => exact h.elim
  | some a => exact ⟨a, rfl, h⟩
theorem op_go {fn : Value → Value → Sem Value} {g : D → D → Option D} {h1 h2 : CH} {r : R2}
    (hr : ∀ w M H x y v1 v2 d Q, Rl X.K ct w M H → Vw X.K w H x v1 → Vw X.K w H y v2 → g x y = some d → Ok1 X.K ct w M H d Q → r v1 v2 H Q) {σ : L2.St} {H : Hp} {Q : VK} (h : TD X ct b W (eOp g h1 h2) σ H Q) :
    tOp r (THD X ct b W h1) (THD X ct b W h2) σ H Q := by
  obtain ⟨w, en, M, S, rl, p⟩ := h
  refine ⟨w, en, M, S, rl, (Post.bind p).imp (fun a M1 q w1 v1 H1 s1 r1 x1 => ?_) fun _ _ _ q => q⟩
  refine ⟨w1, en, M1, S.step s1, r1, (Post.bind q).imp (fun c M2 q w2 v2 H2 s2 r2 x2 => ?_) fun _ _ _ q w' cls dx H' s => q w' cls dx H' (s1.trans s)⟩
  obtain ⟨d, e, q⟩ := ofO_post q
  obtain ⟨x, ex, e⟩ := Option.bind_eq_some_iff.mp e
  obtain ⟨y, ey, e⟩ := Option.bind_eq_some_iff.mp e
  exact hr w2 M2 H2 x y v1 v2 d Q r2 (vw_ok (S.step (s1.trans s2)) r2 (s2.repH x1) ex) (vw_ok (S.step (s1.trans s2)) r2 x2 ey) e fun w' v H' s r' rp => q w' v H' ((s1.trans s2).trans s) r' rp
theorem pd_op {op : Operator} {g : D → D → Option D} {h1 h2 : CH} (ho : OpV X ct (binaryOp op) g) (ha : PHD X ct b W h1 e1) (hb : PHD X ct b W h2 e2) : PD X ct b W (eOp g h1 h2) (.BinOp e1 op e2 pos) := by
  obtain ⟨r, o, hr⟩ := ho
  exact PE.wk (pe_op o ha hb) fun _ _ _ h => op_go (fn := binaryOp op) hr h
theorem pd_cmp {op : CmpOp} {g : D → D → Option D} {h1 h2 : CH} (ho : OpV X ct (compareOp op) g) (ha : PHD X ct b W h1 e1) (hb : PHD X ct b W h2 e2) (hm : behindInMarks op e2 = false := by first | rfl | exact nomark _) :
    PD X ct b W (eOp g h1 h2) (.Compare e1 [op] [e2] pos) := by
  obtain ⟨r, o, hr⟩ := ho
  exact PE.wk (pe_cmpR o ha hb hm) fun _ _ _ h => op_go (fn := compareOp op) hr h
theorem pd_un {op : UnaryOp} {g : D → Option D} {h1 : CH} (ho : UnV X ct (unaryOp op) g) (ha : PHD X ct b W h1 e1) : PD X ct b W (eUn g h1) (.UnaryOp op e1 pos) := by
  obtain ⟨r, o, hr⟩ := ho
  refine PE.wk (pe_un o ha) fun σ H Q h => ?_
  obtain ⟨w, en, M, S, rl, p⟩ := h
  refine ⟨w, en, M, S, rl, (Post.bind p).imp (fun a M1 q w1 v1 H1 s1 r1 x1 => ?_) fun _ _ _ q => q⟩
  obtain ⟨d, e, q⟩ := ofO_post q
  obtain ⟨x, ex, e⟩ := Option.bind_eq_some_iff.mp e
  exact hr w1 M1 H1 x v1 d Q r1 (vw_ok (S.step s1) r1 x1 ex) e fun w' v H' s r' rp => q w' v H' (s1.trans s) r' rp
/-- an item, a dict's entry -/
def IxV (X : Cx) (ct : CT) (g : D → D → Option D) : Prop := ∃ r, IxR X r ∧ ∀ w M H x y v1 v2 d Q, Rl X.K ct w M H → Vw X.K w H x v1 → Vw X.K w H y v2 → g x y = some d → Ok1 X.K ct w M H d Q → r v1 v2 H Q
theorem pd_ix {g : D → D → Option D} {h1 h2 : CH} (ho : IxV X ct g) (ha : PHD X ct b W h1 e1) (hb : PHD X ct b W h2 e2) (hs : PlainIx e2 := by exact fun _ _ => rfl) : PD X ct b W (eOp g h1 h2) (.Subscript e1 e2 pos) := by
  obtain ⟨r, o, hr⟩ := ho
  exact PE.wk (pe_ix o ha hb hs) fun _ _ _ h => op_go (fn := getItem) hr h

/-! ### tests -/
def bT (g : D → D → Option D) (h1 h2 : CH) : CB := fun en M => (eOp g h1 h2 en M).bind fun d M => match d with
  | .bl k => .ok k M
  | _ => .err
def TruD : D → Option Bool
  | .non => some false
  | .bl k => some k
  | .int i => some (i != 0)
  | .str x => if x.length ≤ sizeLine then some ((x.length : Int) != 0) else none
  | .tup xs => some (!xs.isEmpty)
  | .lst xs => some (!xs.isEmpty)
  | _ => none
/-- any expression's truth -/
def bTru (h : CH) : CB := fun en M => (h en M).bind fun a M1 => ofO ((vw en M1 a).bind TruD) M1
def bAnd (f g : CB) : CB := fun en M => (f en M).bind fun k M1 => if k = true then g en M1 else .ok false M1
def bOr (f g : CB) : CB := fun en M => (f en M).bind fun k M1 => if k = true then .ok true M1 else g en M1
def bNot (f : CB) : CB := fun en M => (f en M).bind fun k M1 => .ok (!k) M1
def eIf (c : CB) (f g : CE) : CE := fun en M => (c en M).bind fun k M1 => if k = true then f en M1 else g en M1
def eB (c : CB) : CE := fun en M => (c en M).bind fun k M1 => .ok (.bl k) M1
abbrev PWD (X : Cx) (ct : CT) (b : Base) (W : WX) (f : CB) (e : Expr) : Prop := PW X e (TTD X ct b W f)
theorem pt_cmpV {op : CmpOp} {g : D → D → Option D} {h1 h2 : CH} (ho : OpV X ct (compareOp op) g) (ha : PHD X ct b W h1 e1) (hb : PHD X ct b W h2 e2) (hm : behindInMarks op e2 = false := by first | rfl | exact nomark _) :
    PTD X ct b W (bT g h1 h2) (.Compare e1 [op] [e2] pos) := by
  obtain ⟨r, o, hr⟩ := ho
  refine PT.wk (pt_cmpR o ha hb hm) fun σ H Q h => ?_
  refine op_go (fn := compareOp op) hr ?_
  obtain ⟨w, en, M, S, rl, p⟩ := h
  refine ⟨w, en, M, S, rl, (Post.bind p).imp (fun d M1 q w1 v1 H1 s1 r1 x1 => ?_) fun _ _ _ q => q⟩
  cases d with
  | bl k =>
    simp only [Rep] at x1
    exact ⟨k, x1, q w1 H1 s1 r1⟩
  | _ => exact q.elim
theorem TruD.ok {K : PySem.W.Frag} {w : Wd} {H : Hp} {d : D} {v : V} {k : Bool} (h : Vw K w H d v) (e : TruD d = some k) : TruV K v H k := by
  cases d with
  | non => cases e; cases h; rfl
  | bl k => cases e; cases h; rfl
  | int i => cases e; cases h; rfl
  | str x =>
    unfold TruD at e
    dsimp only at e
    cases h
    by_cases q : x.length ≤ sizeLine
    · rw [if_pos q] at e
      cases e
      exact ⟨q, rfl⟩
    · rw [if_neg q] at e
      cases e
  | tup xs =>
    cases e
    obtain ⟨_, a, vs, rfl, h1, h2⟩ := h
    refine .inr (.inl ⟨vs, h1, ?_⟩)
    have := h2.length
    cases xs <;> cases vs <;> simp_all
  | lst xs =>
    cases e
    obtain ⟨a, vs, rfl, h1, h2⟩ := h
    refine .inl ⟨vs, SqL.of h1, ?_⟩
    have := h2.length
    cases xs <;> cases vs <;> simp_all
  | dic ks xs => cases e
  | ref n => cases e
  | scr ns => cases e
theorem pt_tru {h1 : CH} (ha : PHD X ct b W h1 e) (he : ∀ whole, isTrue e X.env whole = (do let v ← whole; standAt e.pos; holding [v] (truthy v)) := by intro _; rfl) : PTD X ct b W (bTru h1) e := by
  refine PT.wk (pt_truth ha he) fun σ H Q h => ?_
  obtain ⟨w, en, M, S, rl, p⟩ := h
  refine ⟨w, en, M, S, rl, (Post.bind p).imp (fun a M1 q w1 v1 H1 s1 r1 x1 => ?_) fun _ _ _ q => q⟩
  obtain ⟨k, e, q⟩ := ofO_post q
  obtain ⟨x, ex, e⟩ := Option.bind_eq_some_iff.mp e
  exact ⟨k, TruD.ok (vw_ok (S.step s1) r1 x1 ex) e, q w1 H1 s1 r1⟩
theorem bAnd_go {f g : CB} {σ : L2.St} {H : Hp} {Q : Bool → Hp → Prop} (h : TTD X ct b W (bAnd f g) σ H Q) : tAnd (TTD X ct b W f) (TTD X ct b W g) σ H Q := by
  obtain ⟨w, en, M, S, rl, p⟩ := h
  refine ⟨w, en, M, S, rl, (Post.bind p).imp (fun k M1 q w1 H1 s1 r1 => ?_) fun _ _ _ q => q⟩
  cases k with
  | true =>
    rw [if_pos rfl] at q ⊢
    exact ⟨w1, en, M1, S.step s1, r1, q.imp (fun k M2 q w2 H2 s2 r2 => q w2 H2 (s1.trans s2) r2) fun _ _ _ q w' cls dx H' s => q w' cls dx H' (s1.trans s)⟩
  | false =>
    rw [if_neg Bool.false_ne_true] at q ⊢
    exact q w1 H1 s1 r1
theorem bOr_go {f g : CB} {σ : L2.St} {H : Hp} {Q : Bool → Hp → Prop} (h : TTD X ct b W (bOr f g) σ H Q) : tOr (TTD X ct b W f) (TTD X ct b W g) σ H Q := by
  obtain ⟨w, en, M, S, rl, p⟩ := h
  refine ⟨w, en, M, S, rl, (Post.bind p).imp (fun k M1 q w1 H1 s1 r1 => ?_) fun _ _ _ q => q⟩
  cases k with
  | false =>
    rw [if_neg Bool.false_ne_true] at q ⊢
    exact ⟨w1, en, M1, S.step s1, r1, q.imp (fun k M2 q w2 H2 s2 r2 => q w2 H2 (s1.trans s2) r2) fun _ _ _ q w' cls dx H' s => q w' cls dx H' (s1.trans s)⟩
  | true =>
    rw [if_pos rfl] at q ⊢
    exact q w1 H1 s1 r1
theorem pwd_and1 {f : CB} (h : PTD X ct b W f e) : PWD X ct b W f (.BoolOp .And [e] pos) := pw_and1 h
theorem pwd_or1 {f : CB} (h : PTD X ct b W f e) : PWD X ct b W f (.BoolOp .Or [e] pos) := pw_or1 h
theorem PW.wk {X : Cx} {e : Expr} {t t' : TT} (h : PW X e t) (m : ∀ σ H Q, t' σ H Q → t σ H Q) : PW X e t' := ⟨fun wh pins s σ H Q I q => h.run wh pins s σ H Q I (m σ H Q q)⟩
theorem pwd_and {f g : CB} (h : PTD X ct b W f e1) (h2 : PWD X ct b W g (.BoolOp .And (e2 :: es) pos)) : PWD X ct b W (bAnd f g) (.BoolOp .And (e1 :: e2 :: es) pos) := PW.wk (pw_and h h2) fun _ _ _ => bAnd_go
theorem pwd_or {f g : CB} (h : PTD X ct b W f e1) (h2 : PWD X ct b W g (.BoolOp .Or (e2 :: es) pos)) : PWD X ct b W (bOr f g) (.BoolOp .Or (e1 :: e2 :: es) pos) := PW.wk (pw_or h h2) fun _ _ _ => bOr_go
theorem ptd_w {f : CB} (h : PWD X ct b W f e) : PTD X ct b W f e := h.pt
theorem ptd_not {f : CB} (h : PTD X ct b W f e) : PTD X ct b W (bNot f) (.UnaryOp .Not e pos) := PT.wk (pt_not h) fun σ H Q h => by
  obtain ⟨w, en, M, S, rl, p⟩ := h
  exact ⟨w, en, M, S, rl, (Post.bind p).imp (fun k M1 q w1 H1 s1 r1 => q w1 H1 s1 r1) fun _ _ _ q => q⟩
/-- a < b < c -/
def bChain (g g' : D → D → Option D) (h1 h2 h3 : CH) : CB := fun en M => (h1 en M).bind fun a M1 => (h2 en M1).bind fun c M2 => match (vw en M2 a).bind fun x => (vw en M2 c).bind fun y => g x y with
  | some (.bl true) => (h3 en M2).bind fun d M3 => match (vw en M3 c).bind fun y => (vw en M3 d).bind fun z => g' y z with
    | some (.bl k) => .ok k M3
    | _ => .err
  | some (.bl false) => .ok false M2
  | _ => .err
theorem chain_go {op op' : CmpOp} {g g' : D → D → Option D} {h1 h2 h3 : CH} {r r' : R2}
    (hr : ∀ w M H x y v1 v2 d Q, Rl X.K ct w M H → Vw X.K w H x v1 → Vw X.K w H y v2 → g x y = some d → Ok1 X.K ct w M H d Q → r v1 v2 H Q)
    (hr' : ∀ w M H x y v1 v2 d Q, Rl X.K ct w M H → Vw X.K w H x v1 → Vw X.K w H y v2 → g' x y = some d → Ok1 X.K ct w M H d Q → r' v1 v2 H Q)
    {σ : L2.St} {H : Hp} {Q : VK} (h : TTD X ct b W (bChain g g' h1 h2 h3) σ H (fun k H' => Q (.bl k) H')) : tChain r r' (THD X ct b W h1) (THD X ct b W h2) (THD X ct b W h3) σ H Q := by
  obtain ⟨w, en, M, S, rl, p⟩ := h
  refine ⟨w, en, M, S, rl, (Post.bind p).imp (fun a M1 q w1 v1 H1 s1 r1 x1 => ?_) fun _ _ _ q => q⟩
  refine ⟨w1, en, M1, S.step s1, r1, (Post.bind q).imp (fun c M2 q w2 v2 H2 s2 r2 x2 => ?_) fun _ _ _ q w' cls dx H' s => q w' cls dx H' (s1.trans s)⟩
  have S2 := S.step (s1.trans s2)
  split at q
  · rename_i e
    obtain ⟨x, ex, e⟩ := Option.bind_eq_some_iff.mp e
    obtain ⟨y, ey, e⟩ := Option.bind_eq_some_iff.mp e
    refine hr w2 M2 H2 x y v1 v2 _ _ r2 (vw_ok S2 r2 (s2.repH x1) ex) (vw_ok S2 r2 x2 ey) e fun w3 v3 H3 s3 r3 x3 => ?_
    simp only [Rep] at x3
    refine ⟨true, x3, ?_⟩
    rw [if_pos rfl]
    refine ⟨w3, en, M2, S2.step s3, r3, (Post.bind q).imp (fun d M3 q w4 v4 H4 s4 r4 x4 => ?_) fun _ _ _ q w' cls dx H' s => q w' cls dx H' (((s1.trans s2).trans s3).trans s)⟩
    have S4 := S2.step (s3.trans s4)
    split at q
    · rename_i k e'
      obtain ⟨y', ey', e'⟩ := Option.bind_eq_some_iff.mp e'
      obtain ⟨z, ez, e'⟩ := Option.bind_eq_some_iff.mp e'
      refine hr' w4 M3 H4 y' z v2 v4 _ _ r4 (vw_ok S4 r4 ((s3.trans s4).repH x2) ey') (vw_ok S4 r4 x4 ez) e' fun w5 v5 H5 s5 r5 x5 => ?_
      simp only [Rep] at x5
      rw [x5]
      exact q w5 H5 ((((s1.trans s2).trans s3).trans s4).trans s5) r5
    · exact q.elim
  · rename_i e
    obtain ⟨x, ex, e⟩ := Option.bind_eq_some_iff.mp e
    obtain ⟨y, ey, e⟩ := Option.bind_eq_some_iff.mp e
    refine hr w2 M2 H2 x y v1 v2 _ _ r2 (vw_ok S2 r2 (s2.repH x1) ex) (vw_ok S2 r2 x2 ey) e fun w3 v3 H3 s3 r3 x3 => ?_
    simp only [Rep] at x3
    refine ⟨false, x3, ?_⟩
    rw [if_neg Bool.false_ne_true]
    exact q w3 H3 ((s1.trans s2).trans s3) r3
  · exact q.elim
theorem ptd_chain {op op' : CmpOp} {g g' : D → D → Option D} {h1 h2 h3 : CH} (ho : OpV X ct (compareOp op) g) (ho' : OpV X ct (compareOp op') g') (ha : PHD X ct b W h1 e1) (hb : PHD X ct b W h2 e2) (hc : PHD X ct b W h3 e3)
    (hm : lastMarks [op, op'] [e2, e3] = false := by with_unfolding_all rfl) : PTD X ct b W (bChain g g' h1 h2 h3) (.Compare e1 [op, op'] [e2, e3] pos) := by
  obtain ⟨r, o, hr⟩ := ho
  obtain ⟨r', o', hr'⟩ := ho'
  refine PT.wk (pt_chain o o' ha hb hc hm) fun σ H Q h => chain_go (op := op) (op' := op') hr hr' ?_
  obtain ⟨w, en, M, S, rl, p⟩ := h
  exact ⟨w, en, M, S, rl, p.imp (fun k M1 q w1 H1 s1 r1 => ⟨k, rfl, q w1 H1 s1 r1⟩) fun _ _ _ q => q⟩
end
end DL

/-! DL2: the operations on data. -/
namespace DL
open PySem PySem.Spec PyProof.Rows L2

/-! ### equality -/
def eqL (f : D → D → Option Bool) : List D → List D → Option Bool
  | [], [] => some true
  | x :: xs, y :: ys => (f x y).bind fun a => (eqL f xs ys).bind fun c => some (a && c)
  | [], _ :: _ => some false
  | _ :: _, [] => some false
def kOk : D → Bool
  | .dic _ _ => false
  | .ref _ => false
  | .scr _ => false
  | _ => true
def eqD : Nat → D → D → Option Bool
  | 0, _, _ => none
  | n + 1, x, y => match x, y with
    | .bl a, .bl b => some (a == b)
    | .bl a, .int j => some ((if a then 1 else 0) == j)
    | .int i, .bl b => some (i == (if b then 1 else 0))
    | .int i, .int j => some (i == j)
    | .str x, .str y => some (x == y)
    | .non, .non => some true
    | .lst xs, .lst ys => eqL (eqD n) xs ys
    | .tup xs, .tup ys => eqL (eqD n) xs ys
    | .ref m, .ref k => if m = k then some true else none
    | x, y => cond (kOk x && kOk y) (some false) none
theorem eqL_len {f : D → D → Option Bool} : ∀ {xs ys : List D} {k : Bool}, eqL f xs ys = some k → xs.length ≠ ys.length → k = false
  | [], [], _, _, h => absurd rfl h
  | [], _ :: _, k, e, _ => by cases e; rfl
  | _ :: _, [], k, e, _ => by cases e; rfl
  | x :: xs, y :: ys, k, e, h => by
    unfold eqL at e
    obtain ⟨a, ea, e⟩ := Option.bind_eq_some_iff.mp e
    obtain ⟨c, ec, e⟩ := Option.bind_eq_some_iff.mp e
    have := eqL_len ec (by simpa using h)
    subst this
    cases e
    simp
theorem eqL_all {f : D → D → Option Bool} : ∀ {xs ys : List D} {k : Bool}, eqL f xs ys = some k →
    ((List.range (min xs.length ys.length)).all (fun j => (xs[j]?.bind fun x => ys[j]?.bind fun y => f x y) == some true) && xs.length == ys.length) = k ∧ ∀ (j : Nat) (x y : D), xs[j]? = some x → ys[j]? = some y → ∃ a, f x y = some a
  | [], [], _, e => by cases e; simp
  | [], _ :: _, k, e => by cases e; simp
  | _ :: _, [], k, e => by cases e; simp
  | x :: xs, y :: ys, k, e => by
    unfold eqL at e
    obtain ⟨a, ea, e⟩ := Option.bind_eq_some_iff.mp e
    obtain ⟨c, ec, e⟩ := Option.bind_eq_some_iff.mp e
    obtain ⟨h1, h2⟩ := eqL_all ec
    cases e
    refine ⟨?_, fun j x' y' e1 e2 => ?_⟩
    · have hm : min (x :: xs).length (y :: ys).length = min xs.length ys.length + 1 := by
        simp only [List.length_cons]
        omega
      rw [hm, List.range_succ_eq_map, List.all_cons, List.all_map]
      have hl : ((x :: xs).length == (y :: ys).length) = (xs.length == ys.length) := by simp
      rw [hl, Bool.and_assoc, ← h1]
      congr 1
      simp [ea]
    · cases j with
      | zero =>
        simp at e1 e2
        subst e1 e2
        exact ⟨a, ea⟩
      | succ j => exact h2 j x' y' (by simpa using e1) (by simpa using e2)
section
variable {X : Cx} {ct : CT} {w : Wd} {M : Store} {H : Hp} {pins : List (Addr × Obj)} {σ : L2.St} {s : Shared}
/-- what a view's value is -/
theorem Vw.list (I : Inv X pins σ H s) {xs : List D} {v : V} {u : Value} (h : Vw X.K w H (.lst xs) v) (r : RelV v u) :
    ∃ (a : Addr) (vs : List V) (its : List Value), v = .ref a ∧ u = .ref a ∧ H a = some (.lst vs) ∧ RepL X.K w xs vs ∧ Vals vs its ∧ s.heap.IsList a its.toArray := by
  obtain ⟨a, vs, rfl, h1, h2⟩ := h
  cases r
  obtain ⟨its, r, p, _⟩ := I.list (SqL.of h1)
  exact ⟨a, vs, its, rfl, rfl, h1, h2, r, p.isList⟩
theorem Vw.tuple (I : Inv X pins σ H s) {xs : List D} {v : V} {u : Value} (h : Vw X.K w H (.tup xs) v) (r : RelV v u) :
    ∃ (a : Addr) (vs : List V) (its : List Value), v = .ref a ∧ u = .ref a ∧ SqT X.K H a vs ∧ RepL X.K w xs vs ∧ Vals vs its ∧ s.heap.IsTuple a its.toArray := by
  obtain ⟨_, a, vs, rfl, h1, h2⟩ := h
  cases r
  obtain ⟨its, r, p, _⟩ := I.tuple h1
  exact ⟨a, vs, its, rfl, rfl, h1, h2, r, p⟩
theorem lt_excl {h : Heap} {a : Addr} {xs ys : Array Value} (h1 : h.IsList a xs) (h2 : h.IsTuple a ys) : False := by
  obtain ⟨o, e, c, _⟩ := h1
  obtain ⟨o', e', c', _⟩ := h2
  rw [e] at e'
  cases e'
  rw [c] at c'
  exact absurd c' (by decide)
/-- what lies in the module's own part is not tracked -/
theorem K_untr (I : Inv X pins σ H s) {a : Addr} {o : Obj} (h : X.K.lookup a = some o) : H a = none := (I.bs a o (I.mod.kin a o h)).2
theorem sqt_F (I : Inv X pins σ H s) (rl : Rl X.K ct w M H) {a : Addr} {vs : List V} (h : SqT X.K w.F a vs) {u : HO} (e : w.F a = some u) : u = .tup vs ∨ ∃ o, u = .frz o (.tup vs) := by
  rcases h with (h | ⟨o, h⟩) | ⟨o, its, n, h, _⟩
  · rw [e] at h; cases h; exact .inl rfl
  · rw [e] at h; cases h; exact .inr ⟨o, rfl⟩
  · exfalso
    have z := K_untr I h
    rw [rl.sub.free z] at e
    cases e
theorem map_int_inj : ∀ {a c : List Int}, a.map V.int = c.map V.int → a = c
  | [], [], _ => rfl
  | [], _ :: _, h => by cases h
  | _ :: _, [], h => by cases h
  | x :: xs, y :: ys, h => by
    simp only [List.map_cons, List.cons.injEq] at h
    obtain ⟨h1, h2⟩ := h
    cases h1
    rw [map_int_inj h2]
theorem scr_sql {K : PySem.W.Frag} {ns : List Int} {a : Addr} (rl : Rl K ct w M H) (h : (∃ o, w.F a = some (.frz o (.lst (ns.map V.int)))) ∨ SqL K (fun _ => none) a (ns.map V.int)) : SqL K H a (ns.map V.int) := by
  rcases h with ⟨o, e⟩ | h1
  · exact .inl (.inr ⟨o, rl.sub.frz e⟩)
  · rcases h1 with (h1 | ⟨o, h1⟩) | h1
    · cases h1
    · cases h1
    · exact .inr h1
theorem scr_F (I : Inv X pins σ H s) (rl : Rl X.K ct w M H) {ns : List Int} {a : Addr} (h : (∃ o, w.F a = some (.frz o (.lst (ns.map V.int)))) ∨ SqL X.K (fun _ => none) a (ns.map V.int)) {u : HO} (e : w.F a = some u) : ∃ o, u = .frz o (.lst (ns.map V.int)) := by
  rcases h with ⟨o, h⟩ | h
  · rw [e] at h; cases h; exact ⟨o, rfl⟩
  · rcases h with (h | ⟨o, h⟩) | ⟨o, its, n, h, _⟩
    · cases h
    · cases h
    · exfalso
      have z := K_untr I h
      rw [rl.sub.free z] at e
      cases e
/-- what a frozen address holds -/
inductive At : D → Nat → Prop
  | tup {xs} : At (.tup xs) 0
  | lst {xs} : At (.lst xs) 1
  | dic {ks xs} : At (.dic ks xs) 2
  | ref {n} : At (.ref n) 3
  | scr {ns} : At (.scr ns) 4
theorem zip_inj {α β : Type} : ∀ {ks ks' : List α} {vs vs' : List β}, ks.length = vs.length → ks'.length = vs'.length → ks.zip vs = ks'.zip vs' → ks = ks' ∧ vs = vs'
  | [], [], [], [], _, _, _ => ⟨rfl, rfl⟩
  | [], [], _ :: _, _, h, _, _ => by cases h
  | [], [], _, _ :: _, _, h, _ => by cases h
  | [], _ :: _, _, [], _, h, _ => by cases h
  | _ :: _, [], [], _, h, _, _ => by cases h
  | [], _ :: _, _ :: _, _, h, _, _ => by cases h
  | _ :: _, [], _, _ :: _, _, h, _ => by cases h
  | [], _ :: _, [], _ :: _, _, _, e => by cases e
  | _ :: _, [], _ :: _, [], _, _, e => by cases e
  | _ :: _, _ :: _, [], _, h, _, _ => by cases h
  | _ :: _, _ :: _, _, [], _, h, _ => by cases h
  | a :: ks, a' :: ks', v :: vs, v' :: vs', h, h', e => by
    simp only [List.zip_cons_cons, List.cons.injEq, Prod.mk.injEq] at e
    obtain ⟨⟨rfl, rfl⟩, e⟩ := e
    obtain ⟨rfl, rfl⟩ := zip_inj (by simpa using h) (by simpa using h') e
    exact ⟨rfl, rfl⟩
mutual
theorem Rep.inj (I : Inv X pins σ H s) (rl : Rl X.K ct w M H) : ∀ (x y : D) (v : V), Rep X.K w x v → Rep X.K w y v → x = y
  | .non, y, v, hx, hy => by
    simp only [Rep] at hx
    subst hx
    cases y <;> simp only [Rep] at hy <;> first | rfl | (cases hy; done) | (obtain ⟨_, _, e, _⟩ := hy; cases e; done) | (obtain ⟨_, e, _⟩ := hy; cases e; done)
  | .bl b, y, v, hx, hy => by
    simp only [Rep] at hx
    subst hx
    cases y <;> simp only [Rep] at hy <;> first | (cases hy; rfl) | (cases hy; done) | (obtain ⟨_, _, e, _⟩ := hy; cases e; done) | (obtain ⟨_, e, _⟩ := hy; cases e; done)
  | .int b, y, v, hx, hy => by
    simp only [Rep] at hx
    subst hx
    cases y <;> simp only [Rep] at hy <;> first | (cases hy; rfl) | (cases hy; done) | (obtain ⟨_, _, e, _⟩ := hy; cases e; done) | (obtain ⟨_, e, _⟩ := hy; cases e; done)
  | .str b, y, v, hx, hy => by
    simp only [Rep] at hx
    subst hx
    cases y <;> simp only [Rep] at hy <;> first | (cases hy; rfl) | (cases hy; done) | (obtain ⟨_, _, e, _⟩ := hy; cases e; done) | (obtain ⟨_, e, _⟩ := hy; cases e; done)
  | .tup xs, y, v, hx, hy => by
    simp only [Rep] at hx
    obtain ⟨a, vs, rfl, h1, h2⟩ := hx
    cases y <;> simp only [Rep] at hy <;> try (cases hy; done)
    case tup ys =>
      obtain ⟨a', vs', e, h1', h2'⟩ := hy
      cases e
      have := I.tuple_inj (rl.sub.sqt h1) (rl.sub.sqt h1')
      subst this
      rw [RepL.inj I rl xs ys vs h2 h2']
    case lst ys =>
      obtain ⟨a', vs', e, h1', h2'⟩ := hy
      cases e
      rcases sqt_F I rl h1 h1' with z | ⟨_, z⟩ <;> cases z
    case dic ks ys =>
      obtain ⟨a', vs', e, ⟨o1, h1'⟩, h2'⟩ := hy
      cases e
      rcases sqt_F I rl h1 h1' with z | ⟨_, z⟩ <;> cases z
    case ref n =>
      obtain ⟨a', e, h1'⟩ := hy
      cases e
      exfalso
      obtain ⟨o, ho⟩ : ∃ o, M[n]? = some o := ⟨_, List.getElem?_eq_getElem (by rw [rl.len]; exact (List.getElem?_eq_some_iff.mp h1').1)⟩
      obtain ⟨u, g1, g2, _⟩ := rl.at h1' ho
      rcases h1 with (h1 | ⟨o, h1⟩) | ⟨o, its, n, h1, _⟩
      · rw [g1] at h1; cases h1
      · rw [g1] at h1; cases h1
      · rw [K_untr I h1] at g2; cases g2
    case scr ns =>
      obtain ⟨a', e, h1'⟩ := hy
      cases e
      exfalso
      obtain ⟨_, _, p, _⟩ := I.list (scr_sql rl h1')
      obtain ⟨_, _, q, _⟩ := I.tuple (rl.sub.sqt h1)
      exact lt_excl p.isList q
  | .lst xs, y, v, hx, hy => by
    simp only [Rep] at hx
    obtain ⟨a, vs, rfl, h1, h2⟩ := hx
    cases y <;> simp only [Rep] at hy <;> try (cases hy; done)
    case tup ys =>
      obtain ⟨a', vs', e, h1', h2'⟩ := hy
      cases e
      rcases sqt_F I rl h1' h1 with z | ⟨_, z⟩ <;> cases z
    case lst ys =>
      obtain ⟨a', vs', e, h1', h2'⟩ := hy
      cases e
      rw [h1] at h1'
      cases h1'
      rw [RepL.inj I rl xs ys vs h2 h2']
    case dic ks ys =>
      obtain ⟨a', vs', e, ⟨o1, h1'⟩, h2'⟩ := hy
      cases e
      rw [h1] at h1'
      cases h1'
    case ref n =>
      obtain ⟨a', e, h1'⟩ := hy
      cases e
      exfalso
      obtain ⟨o, ho⟩ : ∃ o, M[n]? = some o := ⟨_, List.getElem?_eq_getElem (by rw [rl.len]; exact (List.getElem?_eq_some_iff.mp h1').1)⟩
      obtain ⟨u, g1, g2, _⟩ := rl.at h1' ho
      rw [h1] at g1
      cases g1
    case scr ns =>
      obtain ⟨a', e, h1'⟩ := hy
      cases e
      obtain ⟨_, z⟩ := scr_F I rl h1' h1
      cases z
  | .dic ks xs, y, v, hx, hy => by
    simp only [Rep] at hx
    obtain ⟨a, vs, rfl, ⟨o0, h1⟩, h2, h3⟩ := hx
    cases y <;> simp only [Rep] at hy <;> try (cases hy; done)
    case tup ys =>
      obtain ⟨a', vs', e, h1', h2'⟩ := hy
      cases e
      rcases sqt_F I rl h1' h1 with z | ⟨_, z⟩ <;> cases z
    case lst ys =>
      obtain ⟨a', vs', e, h1', h2'⟩ := hy
      cases e
      rw [h1] at h1'
      cases h1'
    case dic ks' ys =>
      obtain ⟨a', vs', e, ⟨o1, h1'⟩, h2', h3'⟩ := hy
      cases e
      rw [h1] at h1'
      have q := Option.some.inj h1'
      injection q with q0 q
      injection q with q
      obtain ⟨rfl, rfl⟩ := zip_inj (by rw [h2, h3.length]) (by rw [h2', h3'.length]) q
      rw [RepL.inj I rl xs ys vs h3 h3']
    case ref n =>
      obtain ⟨a', e, h1'⟩ := hy
      cases e
      exfalso
      obtain ⟨o, ho⟩ : ∃ o, M[n]? = some o := ⟨_, List.getElem?_eq_getElem (by rw [rl.len]; exact (List.getElem?_eq_some_iff.mp h1').1)⟩
      obtain ⟨u, g1, g2, _⟩ := rl.at h1' ho
      rw [h1] at g1
      cases g1
    case scr ns =>
      obtain ⟨a', e, h1'⟩ := hy
      cases e
      obtain ⟨_, z⟩ := scr_F I rl h1' h1
      cases z
  | .ref n, y, v, hx, hy => by
    simp only [Rep] at hx
    obtain ⟨a, rfl, h1⟩ := hx
    obtain ⟨o, ho⟩ : ∃ o, M[n]? = some o := ⟨_, List.getElem?_eq_getElem (by rw [rl.len]; exact (List.getElem?_eq_some_iff.mp h1).1)⟩
    obtain ⟨u, g1, g2, _⟩ := rl.at h1 ho
    cases y <;> simp only [Rep] at hy <;> try (cases hy; done)
    case tup ys =>
      obtain ⟨a', vs', e, h1', h2'⟩ := hy
      cases e
      exfalso
      rcases h1' with (h1 | ⟨o, h1⟩) | ⟨o, its, n, h1, _⟩
      · rw [g1] at h1; cases h1
      · rw [g1] at h1; cases h1
      · rw [K_untr I h1] at g2; cases g2
    case lst ys =>
      obtain ⟨a', vs', e, h1', h2'⟩ := hy
      cases e
      rw [g1] at h1'
      cases h1'
    case dic ks' ys =>
      obtain ⟨a', vs', e, ⟨o1, h1'⟩, h2', h3'⟩ := hy
      cases e
      rw [g1] at h1'
      cases h1'
    case ref n' =>
      obtain ⟨a', e, h1'⟩ := hy
      cases e
      obtain ⟨k1, e1⟩ := List.getElem?_eq_some_iff.mp h1
      obtain ⟨k2, e2⟩ := List.getElem?_eq_some_iff.mp h1'
      rw [(List.getElem_inj rl.nd).mp (e1.trans e2.symm)]
    case scr ns =>
      obtain ⟨a', e, h1'⟩ := hy
      cases e
      exfalso
      rcases h1' with ⟨o, h⟩ | h
      · rw [g1] at h; cases h
      · rcases h with (h | ⟨o, h⟩) | ⟨o, its, n, h, _⟩
        · cases h
        · cases h
        · rw [K_untr I h] at g2; cases g2
  | .scr ns, y, v, hx, hy => by
    simp only [Rep] at hx
    obtain ⟨a, rfl, h1⟩ := hx
    cases y <;> simp only [Rep] at hy <;> try (cases hy; done)
    case tup ys =>
      obtain ⟨a', vs', e, h1', h2'⟩ := hy
      cases e
      exfalso
      obtain ⟨_, _, p, _⟩ := I.list (scr_sql rl h1)
      obtain ⟨_, _, q, _⟩ := I.tuple (rl.sub.sqt h1')
      exact lt_excl p.isList q
    case lst ys =>
      obtain ⟨a', vs', e, h1', h2'⟩ := hy
      cases e
      obtain ⟨_, z⟩ := scr_F I rl h1 h1'
      cases z
    case dic ks' ys =>
      obtain ⟨a', vs', e, ⟨o1, h1'⟩, h2', h3'⟩ := hy
      cases e
      obtain ⟨_, z⟩ := scr_F I rl h1 h1'
      cases z
    case ref n' =>
      obtain ⟨a', e, h1'⟩ := hy
      cases e
      exfalso
      obtain ⟨o, ho⟩ : ∃ o, M[n']? = some o := ⟨_, List.getElem?_eq_getElem (by rw [rl.len]; exact (List.getElem?_eq_some_iff.mp h1').1)⟩
      obtain ⟨u, g1, g2, _⟩ := rl.at h1' ho
      rcases h1 with ⟨o, h⟩ | h
      · rw [g1] at h; cases h
      · rcases h with (h | ⟨o, h⟩) | ⟨o, its, n, h, _⟩
        · cases h
        · cases h
        · rw [K_untr I h] at g2; cases g2
    case scr ns' =>
      obtain ⟨a', e, h1'⟩ := hy
      cases e
      have := I.list_inj (scr_sql rl h1) (scr_sql rl h1')
      rw [map_int_inj this]
theorem RepL.inj (I : Inv X pins σ H s) (rl : Rl X.K ct w M H) : ∀ (xs ys : List D) (vs : List V), RepL X.K w xs vs → RepL X.K w ys vs → xs = ys
  | [], [], _, _, _ => rfl
  | [], y :: ys, vs, h1, h2 => by
    rw [RepL.nil_iff] at h1
    subst h1
    rw [RepL.cons_iff] at h2
    obtain ⟨_, _, e, _⟩ := h2
    cases e
  | x :: xs, [], vs, h1, h2 => by
    rw [RepL.nil_iff] at h2
    subst h2
    rw [RepL.cons_iff] at h1
    obtain ⟨_, _, e, _⟩ := h1
    cases e
  | x :: xs, y :: ys, vs, h1, h2 => by
    rw [RepL.cons_iff] at h1 h2
    obtain ⟨v, r, rfl, h1, h1'⟩ := h1
    obtain ⟨v', r', e', h2, h2'⟩ := h2
    cases e'
    rw [Rep.inj I rl x y v h1 h2, RepL.inj I rl xs ys r h1' h2']
end
theorem eqL_same {f : D → D → Option Bool} {vs : List V} : ∀ {xs ys : List D} {k : Bool}, (∀ x y v k, Rep X.K w x v → Rep X.K w y v → f x y = some k → k = true) → ∀ vs, RepL X.K w xs vs → RepL X.K w ys vs → eqL f xs ys = some k → k = true
  | [], [], _, _, _, _, _, e => by cases e; rfl
  | [], y :: ys, k, _, vs, h1, h2, e => by
    rw [RepL.nil_iff] at h1
    subst h1
    rw [RepL.cons_iff] at h2
    obtain ⟨_, _, e, _⟩ := h2
    cases e
  | x :: xs, [], k, _, vs, h1, h2, e => by
    rw [RepL.nil_iff] at h2
    subst h2
    rw [RepL.cons_iff] at h1
    obtain ⟨_, _, e, _⟩ := h1
    cases e
  | x :: xs, y :: ys, k, ih, vs, h1, h2, e => by
    rw [RepL.cons_iff] at h1 h2
    obtain ⟨v, r, rfl, h1, h1'⟩ := h1
    obtain ⟨v', r', e', h2, h2'⟩ := h2
    cases e'
    unfold eqL at e
    obtain ⟨a, ea, e⟩ := Option.bind_eq_some_iff.mp e
    obtain ⟨c, ec, e⟩ := Option.bind_eq_some_iff.mp e
    have e1 := ih x y v a h1 h2 ea
    have e2 := eqL_same (vs := r) ih r h1' h2' ec
    subst e1 e2
    cases e
    rfl
theorem eqD_same (I : Inv X pins σ H s) (rl : Rl X.K ct w M H) : ∀ (n : Nat) (x y : D) (v : V) (k : Bool), Vw X.K w H x v → Vw X.K w H y v → eqD n x y = some k → k = true
  | 0, _, _, _, _, _, _, e => by cases e
  | n + 1, x, y, v, k, hx, hy, e => by
    have ih : ∀ x y v k, Rep X.K w x v → Rep X.K w y v → eqD n x y = some k → k = true := fun x y v k h1 h2 => eqD_same I rl n x y v k (Vw.of rl.sub h1) (Vw.of rl.sub h2)
    cases x <;> cases y <;> (try (unfold eqD at e; dsimp only [kOk, Bool.and_true, Bool.and_false, Bool.true_and, Bool.false_and, cond_true, cond_false] at e))
    all_goals try (cases e; done)
    case non.non => cases e; rfl
    case bl.bl a b =>
      cases hx
      cases hy
      cases e
      simp
    case int.int a b =>
      cases hx
      cases hy
      cases e
      simp
    case str.str a b =>
      cases hx
      cases hy
      cases e
      simp
    case lst.lst xs ys =>
      obtain ⟨a, vs, rfl, h1, h2⟩ := hx
      obtain ⟨a', vs', e', h1', h2'⟩ := hy
      cases e'
      rw [h1] at h1'
      cases h1'
      exact eqL_same (vs := vs) ih vs h2 h2' e
    case tup.tup xs ys =>
      obtain ⟨_, a, vs, rfl, h1, h2⟩ := hx
      obtain ⟨_, a', vs', e', h1', h2'⟩ := hy
      cases e'
      have := I.tuple_inj h1 h1'
      subst this
      exact eqL_same (vs := vs) ih vs h2 h2' e
    case ref.ref m m' =>
      split at e
      · cases e; rfl
      · cases e
    case lst.tup xs ys =>
      exfalso
      obtain ⟨a, vs, its, rfl, _, _, _, _, p⟩ := Vw.list I hx (u := _) (show RelV _ (V.casesOn (motive := fun _ => Value) v .none (fun b => .bool b) (fun i => .int i 0) (fun x => .str x 0) (fun b => .bytes b 0) (fun b => .float b 0) (fun a => .ref a) (fun n => .type n)) from by obtain ⟨a, vs, rfl, _⟩ := hx; rfl)
      obtain ⟨a', vs', its', e', _, _, _, _, p'⟩ := Vw.tuple I hy (u := .ref a) rfl
      cases e'
      exact lt_excl p p'
    case tup.lst xs ys =>
      exfalso
      obtain ⟨_, a, vs, rfl, _⟩ := id hx
      obtain ⟨a', vs', its, e1, _, _, _, _, p⟩ := Vw.tuple I hx (u := .ref a) rfl
      cases e1
      obtain ⟨a', vs', its', e', _, _, _, _, p'⟩ := Vw.list I hy (u := .ref a) rfl
      cases e'
      exact lt_excl p' p
    all_goals
      exfalso
      first
        | (cases hx; cases hy; done)
        | (obtain ⟨a, vs, rfl, _⟩ := hx; cases hy; done)
        | (obtain ⟨a, vs, rfl, _⟩ := hy; cases hx; done)
        | (obtain ⟨_, a, vs, rfl, _⟩ := hx; cases hy; done)
        | (obtain ⟨_, a, vs, rfl, _⟩ := hy; cases hx; done)
        | (cases hx; obtain ⟨_, _, e', _⟩ := hy; cases e'; done)

theorem items_at {xs : List D} {vs : List V} {its : List Value} (h : RepL X.K w xs vs) (r : Vals vs its) {j : Nat} (hj : j < its.toArray.size) : ∃ x v, xs[j]? = some x ∧ Rep X.K w x v ∧ RelV v its.toArray[j] := by
  have hj' : j < its.length := by simpa using hj
  have e : vs.length = its.length := r.length
  have e2 := h.length
  have hv : vs[j]? = some vs[j] := List.getElem?_eq_getElem (by omega)
  obtain ⟨u, h1, h2⟩ := r.get hv
  obtain ⟨d, h3, h4⟩ := h.get' hv
  refine ⟨d, _, h3, h4, ?_⟩
  have : its.toArray[j] = u := by
    rw [List.getElem?_eq_getElem hj'] at h1
    simpa using Option.some.inj h1
  rw [this]
  exact h2
theorem in1_lt {A : Around} {n : Nat} (h : A.units + (n + 1) < cLine) : A.in1.units + n < cLine := by
  show A.units + 1 + n < cLine
  omega
theorem eqAt_of_ne {A : Around} {u1 u2 : Value} {k : Bool} (hne : u1 ≠ u2) (hf : ∀ b t, u1 ≠ .float b t) (h : SeqAt.RcAt A s u1 u2 k) : SeqAt.EqAt A s u1 u2 k := fun prog w E Q hq => by
  unfold eqBool
  refine wpAny_holding ?_
  refine wpAny_ite_split (fun hab => absurd (eq_of_beq hab) hne) (fun _ => ?_)
  cases u1 with
  | float b t => exact absurd rfl (hf b t)
  | _ => exact wpAny_bind (h prog w E _ (wpAny_truthy_bool hq))
/-- the kind of a view's value -/
def Shp (s : Shared) : D → Value → Prop
  | .non, u => u = .none
  | .bl b, u => u = .bool b
  | .int i, u => ∃ t, u = .int i t
  | .str x, u => ∃ t, u = .str x t
  | .lst _, u => ∃ a its, u = .ref a ∧ s.heap.IsList a its
  | .tup _, u => ∃ a its, u = .ref a ∧ s.heap.IsTuple a its
  | _, _ => True
theorem Vw.shape (I : Inv X pins σ H s) {x : D} {v : V} {u : Value} (h : Vw X.K w H x v) (r : RelV v u) : Shp s x u := by
  cases x with
  | non => cases h; exact r
  | bl b => cases h; exact r
  | int i => cases h; exact r
  | str x => cases h; exact r
  | lst xs =>
    obtain ⟨a, vs, its, _, h1, _, _, _, h2⟩ := Vw.list I h r
    exact ⟨a, _, h1, h2⟩
  | tup xs =>
    obtain ⟨a, vs, its, _, h1, _, _, _, h2⟩ := Vw.tuple I h r
    exact ⟨a, _, h1, h2⟩
  | _ => trivial
theorem Shp.noflt {x : D} {u : Value} (h : Shp s x u) (hk : kOk x = true) : ∀ b t, u ≠ .float b t := fun b t e => by
  subst e
  cases x with
  | non => cases h
  | bl b => cases h
  | int i => obtain ⟨_, h⟩ := h; cases h
  | str x => obtain ⟨_, h⟩ := h; cases h
  | lst xs => obtain ⟨_, _, h, _⟩ := h; cases h
  | tup xs => obtain ⟨_, _, h, _⟩ := h; cases h
  | _ => cases hk
theorem eqD_kind {n : Nat} {x y : D} {k : Bool} (e : eqD (n + 1) x y = some k) : (kOk x = true ∧ kOk y = true) ∨ ∃ m, x = .ref m ∧ y = .ref m ∧ k = true := by
  cases x <;> cases y <;> (unfold eqD at e; dsimp only [kOk, Bool.and_true, Bool.and_false, Bool.true_and, Bool.false_and, cond_true, cond_false] at e)
  case ref.ref m m' =>
    split at e
    · rename_i h
      subst h
      cases e
      exact .inr ⟨_, rfl, rfl, rfl⟩
    · cases e
  all_goals first
    | exact .inl ⟨rfl, rfl⟩
    | cases e
theorem rc_step (I : Inv X pins σ H s) (rl : Rl X.K ct w M H) {n : Nat} (ih : ∀ (x y : D) (v1 v2 : V) (u1 u2 : Value) (k : Bool) (A : Around), A.units + n < cLine → Vw X.K w H x v1 → RelV v1 u1 → Vw X.K w H y v2 → RelV v2 u2 → eqD n x y = some k → SeqAt.EqAt A s u1 u2 k)
    {x y : D} {v1 v2 : V} {u1 u2 : Value} {k : Bool} {A : Around} (hu : A.units + (n + 1) < cLine) (hx : Vw X.K w H x v1) (r1 : RelV v1 u1) (hy : Vw X.K w H y v2) (r2 : RelV v2 u2) (hk : kOk x = true ∧ kOk y = true) (e : eqD (n + 1) x y = some k) : SeqAt.RcAt A s u1 u2 k := by
  have hu0 : A.units < cLine := by omega
  have sx := Vw.shape I hx r1
  have sy := Vw.shape I hy r2
  have items : ∀ {xs ys : List D} {vs vs' : List V} {its its' : List Value}, RepL X.K w xs vs → Vals vs its → RepL X.K w ys vs' → Vals vs' its' → (∀ (j : Nat) (x y : D), xs[j]? = some x → ys[j]? = some y → ∃ a, eqD n x y = some a) →
      ∀ j (h1 : j < its.toArray.size) (h2 : j < its'.toArray.size), SeqAt.EqAt A.in1 s its.toArray[j] its'.toArray[j] ((xs[j]?.bind fun x => ys[j]?.bind fun y => eqD n x y) == some true) := fun {xs ys vs vs' its its'} a b c d hq j h1 h2 => by
    obtain ⟨x, v, e1, p1, q1⟩ := items_at a b h1
    obtain ⟨y, v', e2, p2, q2⟩ := items_at c d h2
    obtain ⟨k', e3⟩ := hq j x y e1 e2
    rw [e1, e2]
    have z := ih x y v v' _ _ k' A.in1 (in1_lt hu) (Vw.of rl.sub p1) q1 (Vw.of rl.sub p2) q2 e3
    simp only [Option.bind_some, e3]
    cases k' <;> exact z
  cases x <;> cases y <;> (try (cases hk.1; done)) <;> (try (cases hk.2; done)) <;> (unfold eqD at e; dsimp only [kOk, Bool.and_true, Bool.and_false, Bool.true_and, Bool.false_and, cond_true, cond_false] at e)
  case lst.lst xs ys =>
    obtain ⟨a, vs, its, rfl, rfl, _, h2, h3, h4⟩ := Vw.list I hx r1
    obtain ⟨a', vs', its', rfl, rfl, _, h2', h3', h4'⟩ := Vw.list I hy r2
    obtain ⟨q1, q2⟩ := eqL_all e
    have l1 : its.toArray.size = xs.length := by rw [List.size_toArray, ← h3.length, h2.length]
    have l2 : its'.toArray.size = ys.length := by rw [List.size_toArray, ← h3'.length, h2'.length]
    by_cases hl : xs.length = ys.length
    · have := SeqAt.RcAt.lists h4 h4' (by omega) hu0 (items h2 h3 h2' h3' q2)
      rw [l1] at this
      rw [← hl, Nat.min_self] at q1
      simp only [beq_self_eq_true, Bool.and_true] at q1
      rw [← q1]
      exact this
    · have hk := eqL_len e hl
      subst hk
      exact SeqAt.RcAt.lists_lengths h4 h4' (by simp only [bne_iff_ne, ne_eq]; omega) hu0
  case tup.tup xs ys =>
    obtain ⟨a, vs, its, rfl, rfl, _, h2, h3, h4⟩ := Vw.tuple I hx r1
    obtain ⟨a', vs', its', rfl, rfl, _, h2', h3', h4'⟩ := Vw.tuple I hy r2
    obtain ⟨q1, q2⟩ := eqL_all e
    have l1 : its.toArray.size = xs.length := by rw [List.size_toArray, ← h3.length, h2.length]
    have l2 : its'.toArray.size = ys.length := by rw [List.size_toArray, ← h3'.length, h2'.length]
    have := SeqAt.RcAt.tuples h4 h4' hu0 (items h2 h3 h2' h3' q2)
    rw [l1, l2] at this
    rw [← q1]
    exact this
  case non.non =>
    cases e
    cases sx
    cases sy
    exact SeqAt.RcAt.none_none 
  case non.bl =>
    cases e
    cases sx
    cases sy
    exact SeqAt.RcAt.none_bool _
  case non.int =>
    cases e
    cases sx
    obtain ⟨ty, rfl⟩ := sy
    exact SeqAt.RcAt.none_int _ _
  case non.str =>
    cases e
    cases sx
    obtain ⟨ty, rfl⟩ := sy
    exact SeqAt.RcAt.none_str _ _
  case non.lst =>
    cases e
    cases sx
    obtain ⟨ay, iy, rfl, py⟩ := sy
    exact SeqAt.RcAt.none_list py hu0
  case non.tup =>
    cases e
    cases sx
    obtain ⟨ay, iy, rfl, py⟩ := sy
    exact SeqAt.RcAt.none_tuple py hu0
  case bl.non =>
    cases e
    cases sx
    cases sy
    exact SeqAt.RcAt.bool_none _
  case bl.bl =>
    cases e
    cases sx
    cases sy
    exact SeqAt.RcAt.bool_bool _ _
  case bl.int =>
    cases e
    cases sx
    obtain ⟨ty, rfl⟩ := sy
    exact SeqAt.RcAt.bool_int _ _ _
  case bl.str =>
    cases e
    cases sx
    obtain ⟨ty, rfl⟩ := sy
    exact SeqAt.RcAt.bool_str _ _ _
  case bl.lst =>
    cases e
    cases sx
    obtain ⟨ay, iy, rfl, py⟩ := sy
    exact SeqAt.RcAt.bool_list _ py hu0
  case bl.tup =>
    cases e
    cases sx
    obtain ⟨ay, iy, rfl, py⟩ := sy
    exact SeqAt.RcAt.bool_tuple _ py hu0
  case int.non =>
    cases e
    obtain ⟨tx, rfl⟩ := sx
    cases sy
    exact SeqAt.RcAt.int_none _ _
  case int.bl =>
    cases e
    obtain ⟨tx, rfl⟩ := sx
    cases sy
    exact SeqAt.RcAt.int_bool _ _ _
  case int.int =>
    cases e
    obtain ⟨tx, rfl⟩ := sx
    obtain ⟨ty, rfl⟩ := sy
    exact SeqAt.RcAt.int_int _ _ _ _
  case int.str =>
    cases e
    obtain ⟨tx, rfl⟩ := sx
    obtain ⟨ty, rfl⟩ := sy
    exact SeqAt.RcAt.int_str _ _ _ _
  case int.lst =>
    cases e
    obtain ⟨tx, rfl⟩ := sx
    obtain ⟨ay, iy, rfl, py⟩ := sy
    exact SeqAt.RcAt.int_list _ _ py hu0
  case int.tup =>
    cases e
    obtain ⟨tx, rfl⟩ := sx
    obtain ⟨ay, iy, rfl, py⟩ := sy
    exact SeqAt.RcAt.int_tuple _ _ py hu0
  case str.non =>
    cases e
    obtain ⟨tx, rfl⟩ := sx
    cases sy
    exact SeqAt.RcAt.str_none _ _
  case str.bl =>
    cases e
    obtain ⟨tx, rfl⟩ := sx
    cases sy
    exact SeqAt.RcAt.str_bool _ _ _
  case str.int =>
    cases e
    obtain ⟨tx, rfl⟩ := sx
    obtain ⟨ty, rfl⟩ := sy
    exact SeqAt.RcAt.str_int _ _ _ _
  case str.str =>
    cases e
    obtain ⟨tx, rfl⟩ := sx
    obtain ⟨ty, rfl⟩ := sy
    exact SeqAt.RcAt.str_str _ _ _ _
  case str.lst =>
    cases e
    obtain ⟨tx, rfl⟩ := sx
    obtain ⟨ay, iy, rfl, py⟩ := sy
    exact SeqAt.RcAt.str_list _ _ py hu0
  case str.tup =>
    cases e
    obtain ⟨tx, rfl⟩ := sx
    obtain ⟨ay, iy, rfl, py⟩ := sy
    exact SeqAt.RcAt.str_tuple _ _ py hu0
  case lst.non =>
    cases e
    obtain ⟨ax, ix, rfl, px⟩ := sx
    cases sy
    exact SeqAt.RcAt.list_none px hu0
  case lst.bl =>
    cases e
    obtain ⟨ax, ix, rfl, px⟩ := sx
    cases sy
    exact SeqAt.RcAt.list_bool _ px hu0
  case lst.int =>
    cases e
    obtain ⟨ax, ix, rfl, px⟩ := sx
    obtain ⟨ty, rfl⟩ := sy
    exact SeqAt.RcAt.list_int _ _ px hu0
  case lst.str =>
    cases e
    obtain ⟨ax, ix, rfl, px⟩ := sx
    obtain ⟨ty, rfl⟩ := sy
    exact SeqAt.RcAt.list_str _ _ px hu0
  case lst.tup =>
    cases e
    obtain ⟨ax, ix, rfl, px⟩ := sx
    obtain ⟨ay, iy, rfl, py⟩ := sy
    exact SeqAt.RcAt.list_tuple px py hu0
  case tup.non =>
    cases e
    obtain ⟨ax, ix, rfl, px⟩ := sx
    cases sy
    exact SeqAt.RcAt.tuple_none px hu0
  case tup.bl =>
    cases e
    obtain ⟨ax, ix, rfl, px⟩ := sx
    cases sy
    exact SeqAt.RcAt.tuple_bool _ px hu0
  case tup.int =>
    cases e
    obtain ⟨ax, ix, rfl, px⟩ := sx
    obtain ⟨ty, rfl⟩ := sy
    exact SeqAt.RcAt.tuple_int _ _ px hu0
  case tup.str =>
    cases e
    obtain ⟨ax, ix, rfl, px⟩ := sx
    obtain ⟨ty, rfl⟩ := sy
    exact SeqAt.RcAt.tuple_str _ _ px hu0
  case tup.lst =>
    cases e
    obtain ⟨ax, ix, rfl, px⟩ := sx
    obtain ⟨ay, iy, rfl, py⟩ := sy
    exact SeqAt.RcAt.tuple_list px py hu0
theorem eqD_at (I : Inv X pins σ H s) (rl : Rl X.K ct w M H) : ∀ (n : Nat) (x y : D) (v1 v2 : V) (u1 u2 : Value) (k : Bool) (A : Around), A.units + n < cLine → Vw X.K w H x v1 → RelV v1 u1 → Vw X.K w H y v2 → RelV v2 u2 → eqD n x y = some k → SeqAt.EqAt A s u1 u2 k
  | 0, _, _, _, _, _, _, _, _, _, _, _, _, _, e => by cases e
  | n + 1, x, y, v1, v2, u1, u2, k, A, hu, hx, r1, hy, r2, e => by
    rcases eqD_kind e with hk | ⟨m, rfl, rfl, rfl⟩
    · by_cases hv : u1 = u2
      · have hv' : v1 = v2 := by
          subst hv
          exact r1.inj r2
        subst hv hv'
        have := eqD_same I rl (n + 1) x y v1 k hx hy e
        subst this
        exact SeqAt.EqAt.same _
      · exact eqAt_of_ne hv ((Vw.shape I hx r1).noflt hk.1) (rc_step I rl (eqD_at I rl n) hu hx r1 hy r2 hk e)
    · obtain ⟨a, rfl, h1⟩ := hx
      obtain ⟨a', rfl, h2⟩ := hy
      rw [h1] at h2
      cases h2
      cases r1
      cases r2
      exact SeqAt.EqAt.same _
end
end DL

/-! DLQ: == and != of tuples, lists, dicts within one model (items may be dicts). -/
namespace PySem.SeqAt
open AutoSeq1 (wpAny_loadPart')
open MeetsSeq MeetsSeq2 MeetsSeq3 SeqRoads2
section
variable {pr : Program} {wo : World}
abbrev lsO (dq : Option Addr) (xs : Array Value) (m : Nat) (so : Array (Option Value)) : Obj := { cls := .type "list", dict := dq, data := .seq xs m, slots := so }
abbrev tpO (dq : Option Addr) (xs : Array Value) (m : Nat) (so : Array (Option Value)) : Obj := { cls := .type "tuple", dict := dq, data := .seq xs m, slots := so }
abbrev ItemsP (pr : Program) (wo : World) (A : Around) (s : Shared) (xs ys : Array Value) (g : Nat → Bool) : Prop := ∀ j (h1 : j < xs.size) (h2 : j < ys.size), EqP pr wo A.in1 s xs[j] ys[j] (g j)
theorem ls_ne_loop (p q : Addr) (xs ys : Array Value) (m m2 : Nat) (dq dq2 : Option Addr) (so so2 : Array (Option Value)) (hs : xs.size = ys.size) (g : Nat → Bool) (r : Nat) :
    ∀ i : Nat, xs.size - i = r → MeetsIn pr wo (Builtin.«list.__eq__.loop» ⟨[.ref p, .ref q, rawInt i, rawInt 3], []⟩)
      (fun A R s => s.heap.get? p = some (lsO dq xs m so) ∧ s.heap.get? q = some (lsO dq2 ys m2 so2) ∧ ItemsP pr wo A s xs ys g ∧ R (.ok (.ret (.bool (!((List.range xs.size).drop i).all g)))) s) := by
  induction r with
  | zero =>
    intro i hr A R s hh
    obtain ⟨hp, gn, dd, tt, os⟩ := s
    obtain ⟨hl, hb, he, hR⟩ := hh
    wp_walk using wpAny_loadPart' hl, wpAny_loadPart' hb
    have n1 : xs[((i : Nat) : Int).toNat]? = none := by simp; omega
    have n2 : ys[((i : Nat) : Int).toNat]? = none := by simp; omega
    have n3 : (List.range xs.size).drop i = [] := by simp; omega
    rw [n3] at hR
    rw [n1, n2]
    wp_walk using wpAny_loadPart' hl, wpAny_loadPart' hb
    show R (.ok (.ret (.bool (xs.size != ys.size)))) _
    rw [hs]
    simpa using hR
  | succ r ih =>
    intro i hr A R s hh
    obtain ⟨hp, gn, dd, tt, os⟩ := s
    obtain ⟨hl, hb, he, hR⟩ := hh
    wp_walk using wpAny_loadPart' hl, wpAny_loadPart' hb
    have g1 : i < xs.size := by omega
    have g2 : i < ys.size := by omega
    have n1 : xs[((i : Nat) : Int).toNat]? = some xs[i] := by simp [g1]
    have n2 : ys[((i : Nat) : Int).toNat]? = some ys[i] := by simp [g2]
    have n3 : (List.range xs.size).drop i = i :: (List.range xs.size).drop (i + 1) := by simp [List.drop_eq_getElem_cons, g1]
    have n4 : ((i : Int) + 1) = ((i + 1 : Nat) : Int) := by push_cast; rfl
    rw [n3, List.all_cons] at hR
    rw [n1, n2]
    refine wpAny_bind (he i g1 g2 _ _ ?_)
    cases hg : g i with
    | true =>
      rw [hg] at hR
      wp_walk
      rw [n4]
      refine ⟨plainId_quiet plain_eq_loop _, codeAny_builtin entry_eq_loop ?_⟩
      rw [Around.under_plainId plain_eq_loop _]
      exact ih (i + 1) (by omega) A R _ ⟨hl, hb, he, by simpa using hR⟩
    | false =>
      rw [hg] at hR
      wp_walk using wpAny_loadPart' hl, wpAny_loadPart' hb
      rw [n1, n2]
      wp_walk
      simpa using hR
theorem ls_ne (p q : Addr) (xs ys : Array Value) (m m2 : Nat) (dq dq2 : Option Addr) (so so2 : Array (Option Value)) (hs : xs.size = ys.size) (g : Nat → Bool) :
    MeetsIn pr wo (Builtin.«list.__ne__» ⟨[.ref p, .ref q], []⟩)
      (fun A R s => s.heap.get? p = some (lsO dq xs m so) ∧ s.heap.get? q = some (lsO dq2 ys m2 so2) ∧ ItemsP pr wo A s xs ys g ∧ R (.ok (.ret (.bool (!(List.range xs.size).all g)))) s) := by
  intro A R s hh
  obtain ⟨hp, gn, dd, tt, os⟩ := s
  obtain ⟨hl, hb, he, hR⟩ := hh
  have sb := AutoSeq1.sub_list_list
  have nn : ¬ (xs.size != ys.size) = true := by simp [hs]
  wp_walk using wpAny_loadPart' hl, wpAny_loadPart' hb
  refine ⟨plainId_quiet plain_eq_loop _, codeAny_builtin entry_eq_loop ?_⟩
  rw [Around.under_plainId plain_eq_loop _]
  exact ls_ne_loop p q xs ys m m2 dq dq2 so so2 hs g _ 0 rfl A R _ ⟨hl, hb, he, by simpa using hR⟩
theorem tp_eq (p q : Addr) (xs ys : Array Value) (m m2 : Nat) (dq dq2 : Option Addr) (so so2 : Array (Option Value)) (g : Nat → Bool) :
    MeetsIn pr wo (Builtin.«tuple.__eq__» ⟨[.ref p, .ref q], []⟩)
      (fun A R s => s.heap.get? p = some (tpO dq xs m so) ∧ s.heap.get? q = some (tpO dq2 ys m2 so2) ∧ ItemsP pr wo A s xs ys g ∧ R (.ok (.ret (.bool ((List.range (min xs.size ys.size)).all g && xs.size == ys.size)))) s) := by
  intro A R s hh
  obtain ⟨hp, gn, dd, tt, os⟩ := s
  obtain ⟨hl, hb, he, hR⟩ := hh
  have sb := AutoSeq1.sub_tuple_tuple
  have zl : (xs.toList.zip ys.toList).length = min xs.size ys.size := by simp
  wp_walk using wpAny_loadPart' hl, wpAny_loadPart' hb, wpAny_forIn_list _ (fun rest b s' => b.1 = none ∧ s' = ⟨hp, gn, dd, tt, os⟩ ∧ ∃ i, rest = (xs.toList.zip ys.toList).drop i ∧
    R (.ok (.ret (.bool (((List.range (min xs.size ys.size)).drop i).all g && xs.size == ys.size)))) ⟨hp, gn, dd, tt, os⟩) _
  case turn =>
    rintro ⟨y, x⟩ rest b s' ⟨hb', rfl, i, hz, hR⟩
    have hlt : i < (xs.toList.zip ys.toList).length := by
      refine Nat.lt_of_not_le fun z => ?_
      rw [List.drop_of_length_le z] at hz
      cases hz
    have hm : i < min xs.size ys.size := zl ▸ hlt
    have g1 : i < xs.size := Nat.lt_of_lt_of_le hm (Nat.min_le_left _ _)
    have g2 : i < ys.size := Nat.lt_of_lt_of_le hm (Nat.min_le_right _ _)
    rw [List.drop_eq_getElem_cons hlt] at hz
    injection hz with z1 z2
    have e1 : y = xs[i] := by have := congrArg Prod.fst z1; simpa using this
    have e2 : x = ys[i] := by have := congrArg Prod.snd z1; simpa using this
    subst e1 e2
    have n3 : (List.range (min xs.size ys.size)).drop i = i :: (List.range (min xs.size ys.size)).drop (i + 1) := by simp [List.drop_eq_getElem_cons, hm]
    rw [n3, List.all_cons] at hR
    refine wpAny_bind (he i g1 g2 _ _ ?_)
    cases hg : g i with
    | true =>
      rw [hg] at hR
      wp_walk
      exact ⟨rfl, rfl, i + 1, z2, by simpa using hR⟩
    | false =>
      rw [hg] at hR
      wp_walk
      simpa using hR
  case fin =>
    rintro ⟨b1, b2⟩ s' ⟨hb', rfl, i, hz, hR⟩
    simp only at hb'
    subst hb'
    have hge : min xs.size ys.size ≤ i := by
      refine Nat.le_of_not_lt fun z => ?_
      have z' : i < (xs.toList.zip ys.toList).length := by rw [zl]; exact z
      rw [List.drop_eq_getElem_cons z'] at hz
      cases hz
    rw [List.drop_of_length_le (by simpa using hge)] at hR
    wp_walk
    simpa [Builtin.Tuple.tupleCompareSizes] using hR
  case h => exact ⟨rfl, rfl, 0, rfl, by simpa using hR⟩
theorem tp_ne (p q : Addr) (xs ys : Array Value) (m m2 : Nat) (dq dq2 : Option Addr) (so so2 : Array (Option Value)) (g : Nat → Bool) :
    MeetsIn pr wo (Builtin.«tuple.__ne__» ⟨[.ref p, .ref q], []⟩)
      (fun A R s => s.heap.get? p = some (tpO dq xs m so) ∧ s.heap.get? q = some (tpO dq2 ys m2 so2) ∧ ItemsP pr wo A s xs ys g ∧ R (.ok (.ret (.bool (!((List.range (min xs.size ys.size)).all g && xs.size == ys.size))))) s) := by
  intro A R s hh
  obtain ⟨hp, gn, dd, tt, os⟩ := s
  obtain ⟨hl, hb, he, hR⟩ := hh
  have sb := AutoSeq1.sub_tuple_tuple
  have zl : (xs.toList.zip ys.toList).length = min xs.size ys.size := by simp
  wp_walk using wpAny_loadPart' hl, wpAny_loadPart' hb, wpAny_forIn_list _ (fun rest b s' => b.1 = none ∧ s' = ⟨hp, gn, dd, tt, os⟩ ∧ ∃ i, rest = (xs.toList.zip ys.toList).drop i ∧
    R (.ok (.ret (.bool (!(((List.range (min xs.size ys.size)).drop i).all g && xs.size == ys.size))))) ⟨hp, gn, dd, tt, os⟩) _
  case turn =>
    rintro ⟨y, x⟩ rest b s' ⟨hb', rfl, i, hz, hR⟩
    have hlt : i < (xs.toList.zip ys.toList).length := by
      refine Nat.lt_of_not_le fun z => ?_
      rw [List.drop_of_length_le z] at hz
      cases hz
    have hm : i < min xs.size ys.size := zl ▸ hlt
    have g1 : i < xs.size := Nat.lt_of_lt_of_le hm (Nat.min_le_left _ _)
    have g2 : i < ys.size := Nat.lt_of_lt_of_le hm (Nat.min_le_right _ _)
    rw [List.drop_eq_getElem_cons hlt] at hz
    injection hz with z1 z2
    have e1 : y = xs[i] := by have := congrArg Prod.fst z1; simpa using this
    have e2 : x = ys[i] := by have := congrArg Prod.snd z1; simpa using this
    subst e1 e2
    have n3 : (List.range (min xs.size ys.size)).drop i = i :: (List.range (min xs.size ys.size)).drop (i + 1) := by simp [List.drop_eq_getElem_cons, hm]
    rw [n3, List.all_cons] at hR
    refine wpAny_bind (he i g1 g2 _ _ ?_)
    cases hg : g i with
    | true =>
      rw [hg] at hR
      wp_walk
      exact ⟨rfl, rfl, i + 1, z2, by simpa using hR⟩
    | false =>
      rw [hg] at hR
      wp_walk
      simpa using hR
  case fin =>
    rintro ⟨b1, b2⟩ s' ⟨hb', rfl, i, hz, hR⟩
    simp only at hb'
    subst hb'
    have hge : min xs.size ys.size ≤ i := by
      refine Nat.le_of_not_lt fun z => ?_
      have z' : i < (xs.toList.zip ys.toList).length := by rw [zl]; exact z
      rw [List.drop_eq_getElem_cons z'] at hz
      cases hz
    rw [List.drop_of_length_le (by simpa using hge)] at hR
    wp_walk
    simpa [Builtin.Tuple.tupleCompareSizes, bne] using hR
  case h => exact ⟨rfl, rfl, 0, rfl, by simpa using hR⟩
/-- richCompare's answer, in one model -/
def RcP (pr : Program) (wo : World) (A : Around) (s : Shared) (y x : Value) (b : Bool) : Prop := ∀ (E : Value → Shared → Prop) (Q : Value → Shared → Prop), Q (.bool b) s → wpAny (model pr wo) A (richCompare .Eq y x) Q E s
def RcNeP (pr : Program) (wo : World) (A : Around) (s : Shared) (y x : Value) (b : Bool) : Prop := ∀ (E : Value → Shared → Prop) (Q : Value → Shared → Prop), Q (.bool b) s → wpAny (model pr wo) A (richCompare .NotEq y x) Q E s
theorem RcAt.p {A : Around} {s : Shared} {y x : Value} {b : Bool} (h : RcAt A s y x b) : RcP pr wo A s y x b := fun E Q q => h pr wo E Q q
theorem RcNeAt.p {A : Around} {s : Shared} {y x : Value} {b : Bool} (h : RcNeAt A s y x b) : RcNeP pr wo A s y x b := fun E Q q => h pr wo E Q q
variable {A : Around} {s : Shared} {p q : Addr} {xs ys : Array Value} {g : Nat → Bool}
theorem RcP.lists (hl : s.heap.IsList p xs) (hb : s.heap.IsList q ys) (hs : xs.size = ys.size) (hu : A.units < cLine) (he : ItemsP pr wo A s xs ys g) : RcP pr wo A s (.ref p) (.ref q) ((List.range xs.size).all g) :=
  fun E Q h => rcP_lists hl hb hs hu he E Q h
theorem RcNeP.lists (hl : s.heap.IsList p xs) (hb : s.heap.IsList q ys) (hs : xs.size = ys.size) (hu : A.units < cLine) (he : ItemsP pr wo A s xs ys g) : RcNeP pr wo A s (.ref p) (.ref q) (!(List.range xs.size).all g) := fun E Q h => by
  obtain ⟨⟨c1, d1, t1, s1⟩, ho, hc, m, hd⟩ := id hl
  obtain ⟨⟨c2, d2, t2, s2⟩, ho2, hc2, m2, hd2⟩ := id hb
  simp only at hc hd hc2 hd2
  subst hc hd hc2 hd2
  have ta : s.TypeIs (.ref p) "list" := ⟨_, ho, rfl⟩
  refine wpAny_richCompare_same_room (op := .NotEq) ta ⟨_, ho2, rfl⟩ F.slot_list_ne (call_meetsIn F.slot_list_ne ta F.entry_list_ne (F.args_list_ne_2 _ _) (ls_ne p q xs ys m m2 d1 d2 s1 s2 hs g) ⟨ho, ho2, he, ?_⟩) hu
  show Value.bool _ ≠ Value.notImplemented ∧ Q _ s
  exact ⟨(fun x => nomatch x), h⟩
theorem RcP.tuples (hl : s.heap.IsTuple p xs) (hb : s.heap.IsTuple q ys) (hu : A.units < cLine) (he : ItemsP pr wo A s xs ys g) : RcP pr wo A s (.ref p) (.ref q) ((List.range (min xs.size ys.size)).all g && xs.size == ys.size) := fun E Q h => by
  obtain ⟨⟨c1, d1, t1, s1⟩, ho, hc, m, hd⟩ := id hl
  obtain ⟨⟨c2, d2, t2, s2⟩, ho2, hc2, m2, hd2⟩ := id hb
  simp only at hc hd hc2 hd2
  subst hc hd hc2 hd2
  have ta : s.TypeIs (.ref p) "tuple" := ⟨_, ho, rfl⟩
  refine wpAny_richCompare_same_room (op := .Eq) ta ⟨_, ho2, rfl⟩ F.slot_tuple_eq (call_meetsIn F.slot_tuple_eq ta F.entry_tuple_eq (F.args_tuple_eq_2 _ _) (tp_eq p q xs ys m m2 d1 d2 s1 s2 g) ⟨ho, ho2, he, ?_⟩) hu
  show Value.bool _ ≠ Value.notImplemented ∧ Q _ s
  exact ⟨(fun x => nomatch x), h⟩
theorem RcNeP.tuples (hl : s.heap.IsTuple p xs) (hb : s.heap.IsTuple q ys) (hu : A.units < cLine) (he : ItemsP pr wo A s xs ys g) : RcNeP pr wo A s (.ref p) (.ref q) (!((List.range (min xs.size ys.size)).all g && xs.size == ys.size)) := fun E Q h => by
  obtain ⟨⟨c1, d1, t1, s1⟩, ho, hc, m, hd⟩ := id hl
  obtain ⟨⟨c2, d2, t2, s2⟩, ho2, hc2, m2, hd2⟩ := id hb
  simp only at hc hd hc2 hd2
  subst hc hd hc2 hd2
  have ta : s.TypeIs (.ref p) "tuple" := ⟨_, ho, rfl⟩
  refine wpAny_richCompare_same_room (op := .NotEq) ta ⟨_, ho2, rfl⟩ F.slot_tuple_ne (call_meetsIn F.slot_tuple_ne ta F.entry_tuple_ne (F.args_tuple_ne_2 _ _) (tp_ne p q xs ys m m2 d1 d2 s1 s2 g) ⟨ho, ho2, he, ?_⟩) hu
  show Value.bool _ ≠ Value.notImplemented ∧ Q _ s
  exact ⟨(fun x => nomatch x), h⟩
variable {K : Type} [DecidableEq K] {knd : KeyKind pr wo K} {ka kb : List (K × Value)} {r : Bool}
theorem RcP.dicts (ha : (p == sysModules) = false) (hb : (q == sysModules) = false) (da : s.heap.DictOf knd p ka) (db : s.heap.DictOf knd q kb) (hu : A.units < cLine) (hits : ka.length = kb.length → PySem.W.KeqHitsP pr wo A.in1 s kb ka r) : RcP pr wo A s (.ref p) (.ref q) (ka.length == kb.length && r) :=
  fun E Q h => PySem.W.rcP_dicts ha hb da db hu hits E Q h
theorem RcNeP.dicts (ha : (p == sysModules) = false) (hb : (q == sysModules) = false) (da : s.heap.DictOf knd p ka) (db : s.heap.DictOf knd q kb) (hu : A.units < cLine) (hits : ka.length = kb.length → PySem.W.KeqHitsP pr wo A.in1 s kb ka r) : RcNeP pr wo A s (.ref p) (.ref q) (!(ka.length == kb.length && r)) := fun E Q h => by
  refine wpAny_richCompare_same_room (op := .NotEq) da.typeIs db.typeIs PySem.F.slot_dict_ne (wpAny_call_entry PySem.F.slot_dict_ne da.typeIs PySem.F.entry_dict_ne ?_ (PySem.F.args_dict_ne_2 _ _)) hu
  show wpAny _ _ (Builtin.Dict.dictSlotArgs "__ne__" ⟨[.ref p, .ref q], []⟩ >>= _) _ _ s
  refine wpAny_bind ?_
  unfold Builtin.Dict.dictSlotArgs
  refine wpAny_bind (wpAny_notOrdered_dict da.typeIs ?_)
  show wpAny _ _ (pure (Value.ref p, Value.ref q)) _ _ s
  refine wpAny_pure (wpAny_bind (wpAny_isInstance (T := "dict") db.typeIs PySem.F.sub_dict_dict ?_))
  simp only [Bool.not_true, Bool.false_eq_true, if_false]
  refine wpAny_bind (wpAny_pure (wpAny_bind (wpAny_pure ?_)))
  refine wpAny_bind (PySem.W.samePairsP ha hb da db hits (wpAny_pure ⟨_, rfl, ?_, ?_⟩))
  · exact fun x => nomatch x
  · simpa using h
end
end PySem.SeqAt

/-! DLQ2: equality of data with dicts in them. -/
namespace DL
open PySem PySem.Spec PyProof.Rows L2
section
variable {α β : Type}
def dget (ks : List Key) (xs : List α) (k : Key) : Option α := ((ks.zip xs).find? fun kv => decide (kv.1 = k)).map (·.2)
end
section
variable {K : PySem.W.Frag} {w : Wd}
theorem dget_rep {k : Key} : ∀ {ks : List Key} {xs : List D} {vs : List V}, RepL K w xs vs →
    (∀ d, dget ks xs k = some d → ∃ v, valV (ks.zip vs) k = some v ∧ Rep K w d v) ∧ (dget ks xs k = none → valV (ks.zip vs) k = none)
  | [], xs, vs, _ => ⟨fun d e => by simp [dget] at e, fun _ => by simp [valV]⟩
  | j :: ks, [], vs, h => by
    rw [RepL.nil_iff] at h
    subst h
    exact ⟨fun d e => by simp [dget] at e, fun _ => by simp [valV]⟩
  | j :: ks, x :: xs, vs, h => by
    rw [RepL.cons_iff] at h
    obtain ⟨v, r, rfl, h1, h2⟩ := h
    obtain ⟨i1, i2⟩ := dget_rep (k := k) (ks := ks) h2
    by_cases e : j = k
    · subst e
      refine ⟨fun d q => ⟨v, by simp [valV], ?_⟩, fun q => by simp [dget] at q⟩
      simp [dget] at q
      subst q
      exact h1
    · have a : dget (j :: ks) (x :: xs) k = dget ks xs k := by simp [dget, List.find?_cons, e]
      have c : valV ((j :: ks).zip (v :: r)) k = valV (ks.zip r) k := by simp [valV, List.find?_cons, e]
      rw [a, c]
      exact ⟨i1, i2⟩
end
/-- the values of one dict beside those of another -/
def hitsD (f : D → D → Option Bool) (ls : List Key) (ys : List D) : List Key → List D → Option Bool
  | k :: ks, x :: xs => match dget ls ys k with
    | some y => (f x y).bind fun a => (hitsD f ls ys ks xs).bind fun c => some (a && c)
    | none => some false
  | _, _ => some true
def eqF : Nat → D → D → Option Bool
  | 0, _, _ => none
  | n + 1, x, y => match x, y with
    | .bl a, .bl b => some (a == b)
    | .bl a, .int j => some ((if a then 1 else 0) == j)
    | .int i, .bl b => some (i == (if b then 1 else 0))
    | .int i, .int j => some (i == j)
    | .str x, .str y => some (x == y)
    | .non, .non => some true
    | .lst xs, .lst ys => eqL (eqF n) xs ys
    | .tup xs, .tup ys => eqL (eqF n) xs ys
    | .dic ks xs, .dic ls ys => if ks.length = ls.length then hitsD (eqF n) ls ys ks xs else some false
    | .ref m, .ref k => if m = k then some true else none
    | x, y => cond (kOk x && kOk y) (some false) none
section
variable {X : Cx} {ct : CT} {w : Wd} {M : Store} {H : Hp} {pins : List (Addr × Obj)} {σ : L2.St} {s : Shared}
theorem Rd.dk_inj {a : Addr} {kvs kvs' : List (Key × V)} (h : Rd H a (.dK kvs)) (h' : Rd H a (.dK kvs')) : kvs = kvs' := by
  rcases h with h | ⟨o, h⟩ <;> rcases h' with h' | ⟨o', h'⟩ <;> rw [h] at h' <;> cases h' <;> rfl
theorem find_nodup {ks : List Key} {xs : List D} (hn : ks.Nodup) : ∀ {i : Nat} {k : Key} {x : D}, ks[i]? = some k → xs[i]? = some x → dget ks xs k = some x := by
  induction ks generalizing xs with
  | nil => intro i k x e; simp at e
  | cons j ks ih =>
    intro i k x e1 e2
    cases xs with
    | nil => simp at e2
    | cons y ys =>
      cases i with
      | zero =>
        simp at e1 e2
        subst e1 e2
        simp [dget]
      | succ i =>
        simp only [List.getElem?_cons_succ] at e1 e2
        have hj : j ≠ k := fun z => (List.nodup_cons.mp hn).1 (z ▸ List.mem_of_getElem? e1)
        have := ih (List.nodup_cons.mp hn).2 e1 e2
        simpa [dget, List.find?_cons, hj] using this
theorem hitsD_same {f : D → D → Option Bool} {ls : List Key} {ys : List D} (hn : ls.Nodup) (hf : ∀ x y v k, Rep X.K w x v → Rep X.K w y v → f x y = some k → k = true) {lv : List V} (hy : RepL X.K w ys lv) :
    ∀ {ks : List Key} {xs : List D} {vs : List V} {k : Bool} {i : Nat}, RepL X.K w xs vs → (∀ j, ks[j]? = ls[i + j]?) → (∀ j, vs[j]? = lv[i + j]?) → hitsD f ls ys ks xs = some k → k = true
  | [], _, _, k, _, _, _, _, e => by simp only [hitsD] at e; cases e; rfl
  | _ :: _, [], _, k, _, _, _, _, e => by simp only [hitsD] at e; cases e; rfl
  | key :: ks, x :: xs, vs, k, i, hx, hk, hv, e => by
    rw [RepL.cons_iff] at hx
    obtain ⟨v, r, rfl, h1, h2⟩ := hx
    have k0 := hk 0
    have v0 := hv 0
    simp only [List.getElem?_cons_zero, Nat.add_zero] at k0 v0
    obtain ⟨y, ey, hyv⟩ := hy.get' v0.symm
    have hd := find_nodup hn k0.symm ey
    simp only [hitsD, hd] at e
    obtain ⟨a, ea, e⟩ := Option.bind_eq_some_iff.mp e
    obtain ⟨c, ec, e⟩ := Option.bind_eq_some_iff.mp e
    have a1 := hf x y v a h1 hyv ea
    have c1 := hitsD_same hn hf hy (i := i + 1) h2 (fun j => by have := hk (j + 1); simpa [Nat.add_assoc, Nat.add_comm 1 j] using this) (fun j => by have := hv (j + 1); simpa [Nat.add_assoc, Nat.add_comm 1 j] using this) ec
    subst a1 c1
    cases e
    rfl
theorem kv_fst : ∀ {kvs : List (Key × V)} {ws : List (Key × Value)}, KV kvs ws → kvs.map (·.1) = ws.map (·.1)
  | _, _, .nil => rfl
  | _, _, .cons h t => by
    obtain ⟨h1, _⟩ := h
    have := kv_fst t
    simp only [List.map_cons, this, h1]
theorem dic_nodup (I : Inv X pins σ H s) {ks : List Key} {xs : List D} {v : V} (h : Vw X.K w H (.dic ks xs) v) : ks.Nodup := by
  obtain ⟨a, vs, rfl, h1, h2, h3⟩ := h
  obtain ⟨_, _, ws, kv, o, es, ep, _, _, _, _, _, g6⟩ := dk_rd I.hok h1
  have e : (ks.zip vs).map (·.1) = ks := by
    rw [List.map_fst_zip]
    rw [← h3.length, h2]
    exact Nat.le_refl _
  have e2 := kv_fst kv
  rw [← e, e2]
  exact g6
theorem eqF_same (I : Inv X pins σ H s) (rl : Rl X.K ct w M H) : ∀ (n : Nat) (x y : D) (v : V) (k : Bool), Vw X.K w H x v → Vw X.K w H y v → eqF n x y = some k → k = true
  | 0, _, _, _, _, _, _, e => by cases e
  | n + 1, x, y, v, k, hx, hy, e => by
    have ih : ∀ x y v k, Rep X.K w x v → Rep X.K w y v → eqF n x y = some k → k = true := fun x y v k h1 h2 => eqF_same I rl n x y v k (Vw.of rl.sub h1) (Vw.of rl.sub h2)
    cases x <;> cases y <;> (try (unfold eqF at e; dsimp only [kOk, Bool.and_true, Bool.and_false, Bool.true_and, Bool.false_and, cond_true, cond_false] at e))
    all_goals try (cases e; done)
    case non.non => cases e; rfl
    case bl.bl a b =>
      cases hx
      cases hy
      cases e
      simp
    case int.int a b =>
      cases hx
      cases hy
      cases e
      simp
    case str.str a b =>
      cases hx
      cases hy
      cases e
      simp
    case lst.lst xs ys =>
      obtain ⟨a, vs, rfl, h1, h2⟩ := hx
      obtain ⟨a', vs', e', h1', h2'⟩ := hy
      cases e'
      rw [h1] at h1'
      cases h1'
      exact eqL_same (vs := vs) ih vs h2 h2' e
    case tup.tup xs ys =>
      obtain ⟨_, a, vs, rfl, h1, h2⟩ := hx
      obtain ⟨_, a', vs', e', h1', h2'⟩ := hy
      cases e'
      have := I.tuple_inj h1 h1'
      subst this
      exact eqL_same (vs := vs) ih vs h2 h2' e
    case dic.dic ks xs ls ys =>
      have nd := dic_nodup I hy
      obtain ⟨a, vs, rfl, h1, h2, h3⟩ := hx
      obtain ⟨a', vs', e', h1', h2', h3'⟩ := hy
      cases e'
      have := Rd.dk_inj h1 h1'
      obtain ⟨rfl, rfl⟩ := zip_inj (by rw [h2, h3.length]) (by rw [h2', h3'.length]) this
      rw [if_pos rfl] at e
      exact hitsD_same nd ih h3' (i := 0) h3 (fun j => by simp) (fun j => by simp) e
    case ref.ref m m' =>
      split at e
      · cases e; rfl
      · cases e
    case lst.tup xs ys =>
      exfalso
      obtain ⟨a, vs, its, rfl, _, _, _, _, p⟩ := Vw.list I hx (u := _) (show RelV _ (V.casesOn (motive := fun _ => Value) v .none (fun b => .bool b) (fun i => .int i 0) (fun x => .str x 0) (fun b => .bytes b 0) (fun b => .float b 0) (fun a => .ref a) (fun n => .type n)) from by obtain ⟨a, vs, rfl, _⟩ := hx; rfl)
      obtain ⟨a', vs', its', e', _, _, _, _, p'⟩ := Vw.tuple I hy (u := .ref a) rfl
      cases e'
      exact lt_excl p p'
    case tup.lst xs ys =>
      exfalso
      obtain ⟨_, a, vs, rfl, _⟩ := id hx
      obtain ⟨a', vs', its, e1, _, _, _, _, p⟩ := Vw.tuple I hx (u := .ref a) rfl
      cases e1
      obtain ⟨a', vs', its', e', _, _, _, _, p'⟩ := Vw.list I hy (u := .ref a) rfl
      cases e'
      exact lt_excl p' p
    all_goals
      exfalso
      first
        | (cases hx; cases hy; done)
        | (obtain ⟨a, vs, rfl, _⟩ := hx; cases hy; done)
        | (obtain ⟨a, vs, rfl, _⟩ := hy; cases hx; done)
        | (obtain ⟨_, a, vs, rfl, _⟩ := hx; cases hy; done)
        | (obtain ⟨_, a, vs, rfl, _⟩ := hy; cases hx; done)
        | (cases hx; obtain ⟨_, _, e', _⟩ := hy; cases e'; done)

theorem eqP_of_ne {A : Around} {u1 u2 : Value} {k : Bool} (hne : u1 ≠ u2) (hf : ∀ b t, u1 ≠ .float b t) (h : SeqAt.RcP X.prog X.w A s u1 u2 k) : SeqAt.EqP X.prog X.w A s u1 u2 k := fun E Q hq => by
  unfold eqBool
  refine wpAny_holding ?_
  refine wpAny_ite_split (fun hab => absurd (eq_of_beq hab) hne) (fun _ => ?_)
  cases u1 with
  | float b t => exact absurd rfl (hf b t)
  | _ => exact wpAny_bind (h E _ (wpAny_truthy_bool hq))
def isDic : D → Bool
  | .dic _ _ => true
  | _ => false
theorem eqF_kind {n : Nat} {x y : D} {k : Bool} (e : eqF (n + 1) x y = some k) : (kOk x = true ∧ kOk y = true) ∨ (∃ m, x = .ref m ∧ y = .ref m ∧ k = true) ∨ ∃ ks xs ls ys, x = .dic ks xs ∧ y = .dic ls ys := by
  cases x <;> cases y <;> (unfold eqF at e; dsimp only [kOk, Bool.and_true, Bool.and_false, Bool.true_and, Bool.false_and, cond_true, cond_false] at e)
  case ref.ref m m' =>
    split at e
    · rename_i h
      subst h
      cases e
      exact .inr (.inl ⟨_, rfl, rfl, rfl⟩)
    · cases e
  all_goals first
    | exact .inl ⟨rfl, rfl⟩
    | exact .inr (.inr ⟨_, _, _, _, rfl, rfl⟩)
    | cases e
theorem rcF_step (I : Inv X pins σ H s) (rl : Rl X.K ct w M H) {n : Nat} (ih : ∀ (x y : D) (v1 v2 : V) (u1 u2 : Value) (k : Bool) (A : Around), A.units + n < cLine → Vw X.K w H x v1 → RelV v1 u1 → Vw X.K w H y v2 → RelV v2 u2 → eqF n x y = some k → SeqAt.EqP X.prog X.w A s u1 u2 k)
    {x y : D} {v1 v2 : V} {u1 u2 : Value} {k : Bool} {A : Around} (hu : A.units + (n + 1) < cLine) (hx : Vw X.K w H x v1) (r1 : RelV v1 u1) (hy : Vw X.K w H y v2) (r2 : RelV v2 u2) (hk : kOk x = true ∧ kOk y = true) (e : eqF (n + 1) x y = some k) : SeqAt.RcP X.prog X.w A s u1 u2 k := by
  have hu0 : A.units < cLine := by omega
  have sx := Vw.shape I hx r1
  have sy := Vw.shape I hy r2
  have items : ∀ {xs ys : List D} {vs vs' : List V} {its its' : List Value}, RepL X.K w xs vs → Vals vs its → RepL X.K w ys vs' → Vals vs' its' → (∀ (j : Nat) (x y : D), xs[j]? = some x → ys[j]? = some y → ∃ a, eqF n x y = some a) →
      ∀ j (h1 : j < its.toArray.size) (h2 : j < its'.toArray.size), SeqAt.EqP X.prog X.w A.in1 s its.toArray[j] its'.toArray[j] ((xs[j]?.bind fun x => ys[j]?.bind fun y => eqF n x y) == some true) := fun {xs ys vs vs' its its'} a b c d hq j h1 h2 => by
    obtain ⟨x, v, e1, p1, q1⟩ := items_at a b h1
    obtain ⟨y, v', e2, p2, q2⟩ := items_at c d h2
    obtain ⟨k', e3⟩ := hq j x y e1 e2
    rw [e1, e2]
    have z := ih x y v v' _ _ k' A.in1 (in1_lt hu) (Vw.of rl.sub p1) q1 (Vw.of rl.sub p2) q2 e3
    simp only [Option.bind_some, e3]
    cases k' <;> exact z
  cases x <;> cases y <;> (try (cases hk.1; done)) <;> (try (cases hk.2; done)) <;> (unfold eqF at e; dsimp only [kOk, Bool.and_true, Bool.and_false, Bool.true_and, Bool.false_and, cond_true, cond_false] at e)
  case lst.lst xs ys =>
    obtain ⟨a, vs, its, rfl, rfl, _, h2, h3, h4⟩ := Vw.list I hx r1
    obtain ⟨a', vs', its', rfl, rfl, _, h2', h3', h4'⟩ := Vw.list I hy r2
    obtain ⟨q1, q2⟩ := eqL_all e
    have l1 : its.toArray.size = xs.length := by rw [List.size_toArray, ← h3.length, h2.length]
    have l2 : its'.toArray.size = ys.length := by rw [List.size_toArray, ← h3'.length, h2'.length]
    by_cases hl : xs.length = ys.length
    · have := SeqAt.RcP.lists (pr := X.prog) (wo := X.w) h4 h4' (by omega) hu0 (items h2 h3 h2' h3' q2)
      rw [l1] at this
      rw [← hl, Nat.min_self] at q1
      simp only [beq_self_eq_true, Bool.and_true] at q1
      rw [← q1]
      exact this
    · have hk := eqL_len e hl
      subst hk
      exact (SeqAt.RcAt.lists_lengths h4 h4' (by simp only [bne_iff_ne, ne_eq]; omega) hu0).p
  case tup.tup xs ys =>
    obtain ⟨a, vs, its, rfl, rfl, _, h2, h3, h4⟩ := Vw.tuple I hx r1
    obtain ⟨a', vs', its', rfl, rfl, _, h2', h3', h4'⟩ := Vw.tuple I hy r2
    obtain ⟨q1, q2⟩ := eqL_all e
    have l1 : its.toArray.size = xs.length := by rw [List.size_toArray, ← h3.length, h2.length]
    have l2 : its'.toArray.size = ys.length := by rw [List.size_toArray, ← h3'.length, h2'.length]
    have := SeqAt.RcP.tuples (pr := X.prog) (wo := X.w) h4 h4' hu0 (items h2 h3 h2' h3' q2)
    rw [l1, l2] at this
    rw [← q1]
    exact this
  case non.non =>
    cases e
    cases sx
    cases sy
    exact (SeqAt.RcAt.none_none ).p
  case non.bl =>
    cases e
    cases sx
    cases sy
    exact (SeqAt.RcAt.none_bool _).p
  case non.int =>
    cases e
    cases sx
    obtain ⟨ty, rfl⟩ := sy
    exact (SeqAt.RcAt.none_int _ _).p
  case non.str =>
    cases e
    cases sx
    obtain ⟨ty, rfl⟩ := sy
    exact (SeqAt.RcAt.none_str _ _).p
  case non.lst =>
    cases e
    cases sx
    obtain ⟨ay, iy, rfl, py⟩ := sy
    exact (SeqAt.RcAt.none_list py hu0).p
  case non.tup =>
    cases e
    cases sx
    obtain ⟨ay, iy, rfl, py⟩ := sy
    exact (SeqAt.RcAt.none_tuple py hu0).p
  case bl.non =>
    cases e
    cases sx
    cases sy
    exact (SeqAt.RcAt.bool_none _).p
  case bl.bl =>
    cases e
    cases sx
    cases sy
    exact (SeqAt.RcAt.bool_bool _ _).p
  case bl.int =>
    cases e
    cases sx
    obtain ⟨ty, rfl⟩ := sy
    exact (SeqAt.RcAt.bool_int _ _ _).p
  case bl.str =>
    cases e
    cases sx
    obtain ⟨ty, rfl⟩ := sy
    exact (SeqAt.RcAt.bool_str _ _ _).p
  case bl.lst =>
    cases e
    cases sx
    obtain ⟨ay, iy, rfl, py⟩ := sy
    exact (SeqAt.RcAt.bool_list _ py hu0).p
  case bl.tup =>
    cases e
    cases sx
    obtain ⟨ay, iy, rfl, py⟩ := sy
    exact (SeqAt.RcAt.bool_tuple _ py hu0).p
  case int.non =>
    cases e
    obtain ⟨tx, rfl⟩ := sx
    cases sy
    exact (SeqAt.RcAt.int_none _ _).p
  case int.bl =>
    cases e
    obtain ⟨tx, rfl⟩ := sx
    cases sy
    exact (SeqAt.RcAt.int_bool _ _ _).p
  case int.int =>
    cases e
    obtain ⟨tx, rfl⟩ := sx
    obtain ⟨ty, rfl⟩ := sy
    exact (SeqAt.RcAt.int_int _ _ _ _).p
  case int.str =>
    cases e
    obtain ⟨tx, rfl⟩ := sx
    obtain ⟨ty, rfl⟩ := sy
    exact (SeqAt.RcAt.int_str _ _ _ _).p
  case int.lst =>
    cases e
    obtain ⟨tx, rfl⟩ := sx
    obtain ⟨ay, iy, rfl, py⟩ := sy
    exact (SeqAt.RcAt.int_list _ _ py hu0).p
  case int.tup =>
    cases e
    obtain ⟨tx, rfl⟩ := sx
    obtain ⟨ay, iy, rfl, py⟩ := sy
    exact (SeqAt.RcAt.int_tuple _ _ py hu0).p
  case str.non =>
    cases e
    obtain ⟨tx, rfl⟩ := sx
    cases sy
    exact (SeqAt.RcAt.str_none _ _).p
  case str.bl =>
    cases e
    obtain ⟨tx, rfl⟩ := sx
    cases sy
    exact (SeqAt.RcAt.str_bool _ _ _).p
  case str.int =>
    cases e
    obtain ⟨tx, rfl⟩ := sx
    obtain ⟨ty, rfl⟩ := sy
    exact (SeqAt.RcAt.str_int _ _ _ _).p
  case str.str =>
    cases e
    obtain ⟨tx, rfl⟩ := sx
    obtain ⟨ty, rfl⟩ := sy
    exact (SeqAt.RcAt.str_str _ _ _ _).p
  case str.lst =>
    cases e
    obtain ⟨tx, rfl⟩ := sx
    obtain ⟨ay, iy, rfl, py⟩ := sy
    exact (SeqAt.RcAt.str_list _ _ py hu0).p
  case str.tup =>
    cases e
    obtain ⟨tx, rfl⟩ := sx
    obtain ⟨ay, iy, rfl, py⟩ := sy
    exact (SeqAt.RcAt.str_tuple _ _ py hu0).p
  case lst.non =>
    cases e
    obtain ⟨ax, ix, rfl, px⟩ := sx
    cases sy
    exact (SeqAt.RcAt.list_none px hu0).p
  case lst.bl =>
    cases e
    obtain ⟨ax, ix, rfl, px⟩ := sx
    cases sy
    exact (SeqAt.RcAt.list_bool _ px hu0).p
  case lst.int =>
    cases e
    obtain ⟨ax, ix, rfl, px⟩ := sx
    obtain ⟨ty, rfl⟩ := sy
    exact (SeqAt.RcAt.list_int _ _ px hu0).p
  case lst.str =>
    cases e
    obtain ⟨ax, ix, rfl, px⟩ := sx
    obtain ⟨ty, rfl⟩ := sy
    exact (SeqAt.RcAt.list_str _ _ px hu0).p
  case lst.tup =>
    cases e
    obtain ⟨ax, ix, rfl, px⟩ := sx
    obtain ⟨ay, iy, rfl, py⟩ := sy
    exact (SeqAt.RcAt.list_tuple px py hu0).p
  case tup.non =>
    cases e
    obtain ⟨ax, ix, rfl, px⟩ := sx
    cases sy
    exact (SeqAt.RcAt.tuple_none px hu0).p
  case tup.bl =>
    cases e
    obtain ⟨ax, ix, rfl, px⟩ := sx
    cases sy
    exact (SeqAt.RcAt.tuple_bool _ px hu0).p
  case tup.int =>
    cases e
    obtain ⟨ax, ix, rfl, px⟩ := sx
    obtain ⟨ty, rfl⟩ := sy
    exact (SeqAt.RcAt.tuple_int _ _ px hu0).p
  case tup.str =>
    cases e
    obtain ⟨ax, ix, rfl, px⟩ := sx
    obtain ⟨ty, rfl⟩ := sy
    exact (SeqAt.RcAt.tuple_str _ _ px hu0).p
  case tup.lst =>
    cases e
    obtain ⟨ax, ix, rfl, px⟩ := sx
    obtain ⟨ay, iy, rfl, py⟩ := sy
    exact (SeqAt.RcAt.tuple_list px py hu0).p
theorem rcneF_step (I : Inv X pins σ H s) (rl : Rl X.K ct w M H) {n : Nat} (ih : ∀ (x y : D) (v1 v2 : V) (u1 u2 : Value) (k : Bool) (A : Around), A.units + n < cLine → Vw X.K w H x v1 → RelV v1 u1 → Vw X.K w H y v2 → RelV v2 u2 → eqF n x y = some k → SeqAt.EqP X.prog X.w A s u1 u2 k)
    {x y : D} {v1 v2 : V} {u1 u2 : Value} {k : Bool} {A : Around} (hu : A.units + (n + 1) < cLine) (hx : Vw X.K w H x v1) (r1 : RelV v1 u1) (hy : Vw X.K w H y v2) (r2 : RelV v2 u2) (hk : kOk x = true ∧ kOk y = true) (e : eqF (n + 1) x y = some k) : SeqAt.RcNeP X.prog X.w A s u1 u2 (!k) := by
  have hu0 : A.units < cLine := by omega
  have sx := Vw.shape I hx r1
  have sy := Vw.shape I hy r2
  have items : ∀ {xs ys : List D} {vs vs' : List V} {its its' : List Value}, RepL X.K w xs vs → Vals vs its → RepL X.K w ys vs' → Vals vs' its' → (∀ (j : Nat) (x y : D), xs[j]? = some x → ys[j]? = some y → ∃ a, eqF n x y = some a) →
      ∀ j (h1 : j < its.toArray.size) (h2 : j < its'.toArray.size), SeqAt.EqP X.prog X.w A.in1 s its.toArray[j] its'.toArray[j] ((xs[j]?.bind fun x => ys[j]?.bind fun y => eqF n x y) == some true) := fun {xs ys vs vs' its its'} a b c d hq j h1 h2 => by
    obtain ⟨x, v, e1, p1, q1⟩ := items_at a b h1
    obtain ⟨y, v', e2, p2, q2⟩ := items_at c d h2
    obtain ⟨k', e3⟩ := hq j x y e1 e2
    rw [e1, e2]
    have z := ih x y v v' _ _ k' A.in1 (in1_lt hu) (Vw.of rl.sub p1) q1 (Vw.of rl.sub p2) q2 e3
    simp only [Option.bind_some, e3]
    cases k' <;> exact z
  cases x <;> cases y <;> (try (cases hk.1; done)) <;> (try (cases hk.2; done)) <;> (unfold eqF at e; dsimp only [kOk, Bool.and_true, Bool.and_false, Bool.true_and, Bool.false_and, cond_true, cond_false] at e)
  case lst.lst xs ys =>
    obtain ⟨a, vs, its, rfl, rfl, _, h2, h3, h4⟩ := Vw.list I hx r1
    obtain ⟨a', vs', its', rfl, rfl, _, h2', h3', h4'⟩ := Vw.list I hy r2
    obtain ⟨q1, q2⟩ := eqL_all e
    have l1 : its.toArray.size = xs.length := by rw [List.size_toArray, ← h3.length, h2.length]
    have l2 : its'.toArray.size = ys.length := by rw [List.size_toArray, ← h3'.length, h2'.length]
    by_cases hl : xs.length = ys.length
    · have := SeqAt.RcNeP.lists (pr := X.prog) (wo := X.w) h4 h4' (by omega) hu0 (items h2 h3 h2' h3' q2)
      rw [l1] at this
      rw [← hl, Nat.min_self] at q1
      simp only [beq_self_eq_true, Bool.and_true] at q1
      rw [← q1]
      exact this
    · have hk := eqL_len e hl
      subst hk
      exact (SeqAt.RcNeAt.lists_lengths h4 h4' (by simp only [bne_iff_ne, ne_eq]; omega) hu0).p
  case tup.tup xs ys =>
    obtain ⟨a, vs, its, rfl, rfl, _, h2, h3, h4⟩ := Vw.tuple I hx r1
    obtain ⟨a', vs', its', rfl, rfl, _, h2', h3', h4'⟩ := Vw.tuple I hy r2
    obtain ⟨q1, q2⟩ := eqL_all e
    have l1 : its.toArray.size = xs.length := by rw [List.size_toArray, ← h3.length, h2.length]
    have l2 : its'.toArray.size = ys.length := by rw [List.size_toArray, ← h3'.length, h2'.length]
    have := SeqAt.RcNeP.tuples (pr := X.prog) (wo := X.w) h4 h4' hu0 (items h2 h3 h2' h3' q2)
    rw [l1, l2] at this
    rw [← q1]
    exact this
  case non.non =>
    cases e
    cases sx
    cases sy
    exact (SeqAt.RcNeAt.none_none ).p
  case non.bl =>
    cases e
    cases sx
    cases sy
    exact (SeqAt.RcNeAt.none_bool _).p
  case non.int =>
    cases e
    cases sx
    obtain ⟨ty, rfl⟩ := sy
    exact (SeqAt.RcNeAt.none_int _ _).p
  case non.str =>
    cases e
    cases sx
    obtain ⟨ty, rfl⟩ := sy
    exact (SeqAt.RcNeAt.none_str _ _).p
  case non.lst =>
    cases e
    cases sx
    obtain ⟨ay, iy, rfl, py⟩ := sy
    exact (SeqAt.RcNeAt.none_list py hu0).p
  case non.tup =>
    cases e
    cases sx
    obtain ⟨ay, iy, rfl, py⟩ := sy
    exact (SeqAt.RcNeAt.none_tuple py hu0).p
  case bl.non =>
    cases e
    cases sx
    cases sy
    exact (SeqAt.RcNeAt.bool_none _).p
  case bl.bl =>
    cases e
    cases sx
    cases sy
    exact (SeqAt.RcNeAt.bool_bool _ _).p
  case bl.int =>
    cases e
    cases sx
    obtain ⟨ty, rfl⟩ := sy
    exact (SeqAt.RcNeAt.bool_int _ _ _).p
  case bl.str =>
    cases e
    cases sx
    obtain ⟨ty, rfl⟩ := sy
    exact (SeqAt.RcNeAt.bool_str _ _ _).p
  case bl.lst =>
    cases e
    cases sx
    obtain ⟨ay, iy, rfl, py⟩ := sy
    exact (SeqAt.RcNeAt.bool_list _ py hu0).p
  case bl.tup =>
    cases e
    cases sx
    obtain ⟨ay, iy, rfl, py⟩ := sy
    exact (SeqAt.RcNeAt.bool_tuple _ py hu0).p
  case int.non =>
    cases e
    obtain ⟨tx, rfl⟩ := sx
    cases sy
    exact (SeqAt.RcNeAt.int_none _ _).p
  case int.bl =>
    cases e
    obtain ⟨tx, rfl⟩ := sx
    cases sy
    exact (SeqAt.RcNeAt.int_bool _ _ _).p
  case int.int =>
    cases e
    obtain ⟨tx, rfl⟩ := sx
    obtain ⟨ty, rfl⟩ := sy
    exact (SeqAt.RcNeAt.int_int _ _ _ _).p
  case int.str =>
    cases e
    obtain ⟨tx, rfl⟩ := sx
    obtain ⟨ty, rfl⟩ := sy
    exact (SeqAt.RcNeAt.int_str _ _ _ _).p
  case int.lst =>
    cases e
    obtain ⟨tx, rfl⟩ := sx
    obtain ⟨ay, iy, rfl, py⟩ := sy
    exact (SeqAt.RcNeAt.int_list _ _ py hu0).p
  case int.tup =>
    cases e
    obtain ⟨tx, rfl⟩ := sx
    obtain ⟨ay, iy, rfl, py⟩ := sy
    exact (SeqAt.RcNeAt.int_tuple _ _ py hu0).p
  case str.non =>
    cases e
    obtain ⟨tx, rfl⟩ := sx
    cases sy
    exact (SeqAt.RcNeAt.str_none _ _).p
  case str.bl =>
    cases e
    obtain ⟨tx, rfl⟩ := sx
    cases sy
    exact (SeqAt.RcNeAt.str_bool _ _ _).p
  case str.int =>
    cases e
    obtain ⟨tx, rfl⟩ := sx
    obtain ⟨ty, rfl⟩ := sy
    exact (SeqAt.RcNeAt.str_int _ _ _ _).p
  case str.str =>
    cases e
    obtain ⟨tx, rfl⟩ := sx
    obtain ⟨ty, rfl⟩ := sy
    exact (SeqAt.RcNeAt.str_str _ _ _ _).p
  case str.lst =>
    cases e
    obtain ⟨tx, rfl⟩ := sx
    obtain ⟨ay, iy, rfl, py⟩ := sy
    exact (SeqAt.RcNeAt.str_list _ _ py hu0).p
  case str.tup =>
    cases e
    obtain ⟨tx, rfl⟩ := sx
    obtain ⟨ay, iy, rfl, py⟩ := sy
    exact (SeqAt.RcNeAt.str_tuple _ _ py hu0).p
  case lst.non =>
    cases e
    obtain ⟨ax, ix, rfl, px⟩ := sx
    cases sy
    exact (SeqAt.RcNeAt.list_none px hu0).p
  case lst.bl =>
    cases e
    obtain ⟨ax, ix, rfl, px⟩ := sx
    cases sy
    exact (SeqAt.RcNeAt.list_bool _ px hu0).p
  case lst.int =>
    cases e
    obtain ⟨ax, ix, rfl, px⟩ := sx
    obtain ⟨ty, rfl⟩ := sy
    exact (SeqAt.RcNeAt.list_int _ _ px hu0).p
  case lst.str =>
    cases e
    obtain ⟨ax, ix, rfl, px⟩ := sx
    obtain ⟨ty, rfl⟩ := sy
    exact (SeqAt.RcNeAt.list_str _ _ px hu0).p
  case lst.tup =>
    cases e
    obtain ⟨ax, ix, rfl, px⟩ := sx
    obtain ⟨ay, iy, rfl, py⟩ := sy
    exact (SeqAt.RcNeAt.list_tuple px py hu0).p
  case tup.non =>
    cases e
    obtain ⟨ax, ix, rfl, px⟩ := sx
    cases sy
    exact (SeqAt.RcNeAt.tuple_none px hu0).p
  case tup.bl =>
    cases e
    obtain ⟨ax, ix, rfl, px⟩ := sx
    cases sy
    exact (SeqAt.RcNeAt.tuple_bool _ px hu0).p
  case tup.int =>
    cases e
    obtain ⟨ax, ix, rfl, px⟩ := sx
    obtain ⟨ty, rfl⟩ := sy
    exact (SeqAt.RcNeAt.tuple_int _ _ px hu0).p
  case tup.str =>
    cases e
    obtain ⟨ax, ix, rfl, px⟩ := sx
    obtain ⟨ty, rfl⟩ := sy
    exact (SeqAt.RcNeAt.tuple_str _ _ px hu0).p
  case tup.lst =>
    cases e
    obtain ⟨ax, ix, rfl, px⟩ := sx
    obtain ⟨ay, iy, rfl, py⟩ := sy
    exact (SeqAt.RcNeAt.tuple_list px py hu0).p

theorem hits_of {A : Around} {f : D → D → Option Bool} {ls : List Key} {ys : List D} {lv : List V} {vb : List (Key × Value)} (rb : KV (ls.zip lv) vb) (hy : RepL X.K w ys lv)
    (ih : ∀ (x y : D) (v1 v2 : V) (u1 u2 : Value) (k : Bool), Rep X.K w x v1 → RelV v1 u1 → Rep X.K w y v2 → RelV v2 u2 → f x y = some k → SeqAt.EqP X.prog X.w A s u1 u2 k) :
    ∀ {ks : List Key} {xs : List D} {vs : List V} {va : List (Key × Value)} {k : Bool}, ks.length = xs.length → RepL X.K w xs vs → KV (ks.zip vs) va → hitsD f ls ys ks xs = some k → PySem.W.KeqHitsP X.prog X.w A s vb va k
  | [], [], vs, va, k, _, _, ra, e => by
    cases ra
    simp only [hitsD] at e
    cases e
    exact .nil
  | key :: ks, x :: xs, vs, va, k, hl, hx, ra, e => by
    rw [RepL.cons_iff] at hx
    obtain ⟨v, r, rfl, h1, h2⟩ := hx
    cases ra with
    | @cons _ q _ qs hq t =>
    obtain ⟨q1, q2⟩ := q
    obtain ⟨g1, g2⟩ := hq
    have g1 : key = q1 := g1
    subst g1
    have rv := rb.val key
    obtain ⟨d1, d2⟩ := dget_rep (k := key) (ks := ls) hy
    simp only [hitsD] at e
    split at e
    · rename_i y ey
      obtain ⟨a, ea, e⟩ := Option.bind_eq_some_iff.mp e
      obtain ⟨c, ec, e⟩ := Option.bind_eq_some_iff.mp e
      cases e
      obtain ⟨yv, e1, e2⟩ := d1 y ey
      rw [e1] at rv
      obtain ⟨u, e3, e4⟩ := rv.some_of
      exact .hit e3 (ih x y v yv _ _ a h1 g2 e2 e4 ea) (hits_of rb hy ih (by simpa using hl) h2 t ec)
    · rename_i ey
      cases e
      have e1 := d2 ey
      rw [e1] at rv
      exact .miss rv.none_of
theorem rcF_dic (I : Inv X pins σ H s) (rl : Rl X.K ct w M H) {n : Nat} (ih : ∀ (x y : D) (v1 v2 : V) (u1 u2 : Value) (k : Bool) (A : Around), A.units + n < cLine → Vw X.K w H x v1 → RelV v1 u1 → Vw X.K w H y v2 → RelV v2 u2 → eqF n x y = some k → SeqAt.EqP X.prog X.w A s u1 u2 k)
    {ks ls : List Key} {xs ys : List D} {v1 v2 : V} {u1 u2 : Value} {k : Bool} {A : Around} (hu : A.units + (n + 1) < cLine) (hx : Vw X.K w H (.dic ks xs) v1) (r1 : RelV v1 u1) (hy : Vw X.K w H (.dic ls ys) v2) (r2 : RelV v2 u2) (e : eqF (n + 1) (.dic ks xs) (.dic ls ys) = some k) :
    SeqAt.RcP X.prog X.w A s u1 u2 k ∧ SeqAt.RcNeP X.prog X.w A s u1 u2 (!k) := by
  have hu0 : A.units < cLine := by omega
  obtain ⟨a, vs, rfl, h1, h2, h3⟩ := hx
  obtain ⟨a', vs', rfl, h1', h2', h3'⟩ := hy
  cases r1
  cases r2
  obtain ⟨_, sa, wa, ra, da⟩ := dk_rd I.hok h1
  obtain ⟨_, sb, wb, rb, db⟩ := dk_rd I.hok h1'
  have l1 := h3.length
  have l2 := h3'.length
  have la : (ks.zip vs).length = wa.length := Paired.length ra
  have lb : (ls.zip vs').length = wb.length := Paired.length rb
  rw [List.length_zip] at la lb
  unfold eqF at e
  dsimp only at e
  have hk : ∃ r, (wa.length == wb.length && r) = k ∧ (wa.length = wb.length → PySem.W.KeqHitsP X.prog X.w A.in1 s wb wa r) := by
    split at e
    · rename_i hl
      refine ⟨k, ?_, fun _ => hits_of rb h3' (fun x y v1 v2 u1 u2 k p1 q1 p2 q2 z => ih x y v1 v2 u1 u2 k A.in1 (in1_lt hu) (Vw.of rl.sub p1) q1 (Vw.of rl.sub p2) q2 z) h2 h3 ra e⟩
      have : wa.length = wb.length := by omega
      simp [this]
    · rename_i hl
      cases e
      have ne : wa.length ≠ wb.length := by omega
      exact ⟨true, by simp [ne], fun z => absurd z ne⟩
  obtain ⟨r, rfl, hits⟩ := hk
  exact ⟨SeqAt.RcP.dicts (knd := mixKind X.prog X.w) sa sb da db hu0 hits, SeqAt.RcNeP.dicts (knd := mixKind X.prog X.w) sa sb da db hu0 hits⟩
theorem eqF_at (I : Inv X pins σ H s) (rl : Rl X.K ct w M H) : ∀ (n : Nat) (x y : D) (v1 v2 : V) (u1 u2 : Value) (k : Bool) (A : Around), A.units + n < cLine → Vw X.K w H x v1 → RelV v1 u1 → Vw X.K w H y v2 → RelV v2 u2 → eqF n x y = some k → SeqAt.EqP X.prog X.w A s u1 u2 k
  | 0, _, _, _, _, _, _, _, _, _, _, _, _, _, e => by cases e
  | n + 1, x, y, v1, v2, u1, u2, k, A, hu, hx, r1, hy, r2, e => by
    have same : u1 = u2 → SeqAt.EqP X.prog X.w A s u1 u2 k := fun hv => by
      subst hv
      have hv' : v1 = v2 := r1.inj r2
      subst hv'
      have := eqF_same I rl (n + 1) x y v1 k hx hy e
      subst this
      exact (SeqAt.EqAt.same _).eqP
    by_cases hv : u1 = u2
    · exact same hv
    · rcases eqF_kind e with hk | ⟨m, rfl, rfl, rfl⟩ | ⟨ks, xs, ls, ys, rfl, rfl⟩
      · exact eqP_of_ne hv ((Vw.shape I hx r1).noflt hk.1) (rcF_step I rl (eqF_at I rl n) hu hx r1 hy r2 hk e)
      · obtain ⟨a, rfl, h1⟩ := hx
        obtain ⟨a', rfl, h2⟩ := hy
        rw [h1] at h2
        cases h2
        cases r1
        cases r2
        exact absurd rfl hv
      · refine eqP_of_ne hv (fun b t z => ?_) (rcF_dic I rl (eqF_at I rl n) hu hx r1 hy r2 e).1
        obtain ⟨a, vs, rfl, _⟩ := hx
        cases r1
        cases z
/-- both answers at the top -/
theorem rcF (I : Inv X pins σ H s) (rl : Rl X.K ct w M H) {x y : D} {v1 v2 : V} {u1 u2 : Value} {k : Bool} {A : Around} (hu : A.units + 60 < cLine) (hx : Vw X.K w H x v1) (r1 : RelV v1 u1) (hy : Vw X.K w H y v2) (r2 : RelV v2 u2) (hk : (kOk x = true ∧ kOk y = true) ∨ (isDic x = true ∧ isDic y = true)) (e : eqF 60 x y = some k) :
    SeqAt.RcP X.prog X.w A s u1 u2 k ∧ SeqAt.RcNeP X.prog X.w A s u1 u2 (!k) := by
  rcases hk with hk | ⟨k1, k2⟩
  · exact ⟨rcF_step I rl (eqF_at I rl 59) hu hx r1 hy r2 hk e, rcneF_step I rl (eqF_at I rl 59) hu hx r1 hy r2 hk e⟩
  · cases x <;> cases k1
    cases y <;> cases k2
    exact rcF_dic I rl (eqF_at I rl 59) hu hx r1 hy r2 e
end
end DL

/-! DL3: operators on data, displays, built-in calls. -/
namespace DL
open PySem PySem.Spec PyProof.Rows L2

section
variable {X : Cx} {ct : CT} {b : Base} {W : WX}
theorem OpV.mk' {fn : Value → Value → Sem Value} {g : D → D → Option D}
    (h : ∀ (pins : List (Addr × Obj)) (s : Shared) (σ : L2.St) (H : Hp) (x y : V) (v u : Value) (Q : VK) (w : Wd) (M : Store) (dx dy d : D), Inv X pins σ H s → RelV x v → RelV y u → Rl X.K ct w M H → Vw X.K w H dx x → Vw X.K w H dy y → g dx dy = some d →
      Ok1 X.K ct w M H d Q → wpAny (model X.prog X.w) X.A (fn v u) (EP X pins σ Q) X.xe s) : OpV X ct fn g :=
  ⟨fun x y H Q => ∃ w M dx dy d, Rl X.K ct w M H ∧ Vw X.K w H dx x ∧ Vw X.K w H dy y ∧ g dx dy = some d ∧ Ok1 X.K ct w M H d Q,
    fun pins s σ H x y v u Q I rx ry ⟨w, M, dx, dy, d, rl, hx, hy, e, k⟩ => h pins s σ H x y v u Q w M dx dy d I rx ry rl hx hy e k,
    fun w M H x y v1 v2 d Q rl hx hy e k => ⟨w, M, x, y, d, rl, hx, hy, e, k⟩⟩
theorem UnV.mk' {fn : Value → Sem Value} {g : D → Option D}
    (h : ∀ (pins : List (Addr × Obj)) (s : Shared) (σ : L2.St) (H : Hp) (x : V) (v : Value) (Q : VK) (w : Wd) (M : Store) (dx d : D), Inv X pins σ H s → RelV x v → Rl X.K ct w M H → Vw X.K w H dx x → g dx = some d →
      Ok1 X.K ct w M H d Q → wpAny (model X.prog X.w) X.A (fn v) (EP X pins σ Q) X.xe s) : UnV X ct fn g :=
  ⟨fun x H Q => ∃ w M dx d, Rl X.K ct w M H ∧ Vw X.K w H dx x ∧ g dx = some d ∧ Ok1 X.K ct w M H d Q,
    fun pins s σ H x v Q I rx ⟨w, M, dx, d, rl, hx, e, k⟩ => h pins s σ H x v Q w M dx d I rx rl hx e k,
    fun w M H x v1 d Q rl hx e k => ⟨w, M, x, d, rl, hx, e, k⟩⟩
/-- the answer is data without places -/
def Flat : D → V → Prop
  | .non, v => v = .non
  | .bl b, v => v = .bl b
  | .int i, v => v = .int i
  | .str x, v => v = .str x
  | _, _ => False
theorem Flat.rep {K : PySem.W.Frag} {w : Wd} {d : D} {v : V} (h : Flat d v) : Rep K w d v := by
  cases d <;> first | (simp only [Rep]; exact h) | exact h.elim
theorem Ok1.now {w : Wd} {M : Store} {H : Hp} {d : D} {v : V} {Q : VK} (k : Ok1 X.K ct w M H d Q) (rl : Rl X.K ct w M H) (h : Flat d v) : Q v H := k w v H (Step.refl _ _) rl h.rep
theorem Ok1.old {w : Wd} {M : Store} {H : Hp} {d : D} {v : V} {Q : VK} (k : Ok1 X.K ct w M H d Q) (rl : Rl X.K ct w M H) (h : Rep X.K w d v) : Q v H := k w v H (Step.refl _ _) rl h
theorem Ok1.tup {w : Wd} {M : Store} {H : Hp} {xs : List D} {vs : List V} {Q : VK} (k : Ok1 X.K ct w M H (.tup xs) Q) (rl : Rl X.K ct w M H) (h : RepL X.K w xs vs) {p : Addr} (hp : H p = none) {o : Obj} (ho : o.dict = none) : Q (.ref p) (upd H p (.frz o (.tup vs))) := by
  obtain ⟨s, r⟩ := rl.frozen (o := .frz o (.tup vs)) hp ho
  refine k _ _ _ s r ?_
  simp only [Rep]
  exact ⟨p, vs, rfl, .inl (.inr ⟨o, upd_same⟩), s.repL h⟩
theorem Ok1.lst {w : Wd} {M : Store} {H : Hp} {xs : List D} {vs : List V} {Q : VK} (k : Ok1 X.K ct w M H (.lst xs) Q) (rl : Rl X.K ct w M H) (h : RepL X.K w xs vs) {p : Addr} (hp : H p = none) : Q (.ref p) (upd H p (.lst vs)) := by
  obtain ⟨s, r⟩ := rl.frozen (o := .lst vs) hp trivial
  refine k _ _ _ s r ?_
  simp only [Rep]
  exact ⟨p, vs, rfl, upd_same, s.repL h⟩

/-! ### arithmetic -/
def mulOk (i j : Int) : Prop := (-(2 ^ 64) < i ∧ i < 2 ^ 64) ∨ (-(2 ^ 64) < j ∧ j < 2 ^ 64) ∨ i.natAbs.log2 + j.natAbs.log2 < 1000000
instance (i j : Int) : Decidable (mulOk i j) := by unfold mulOk; infer_instance
theorem mulOk.ok {i j : Int} (h : mulOk i j) : IntMulOk i j := by
  rcases h with h | h | h
  · exact CMul.ok (.inl h)
  · exact CMul.ok (.inr h)
  · exact CMulW.ok h
def strRep (x : Str) (n : Int) : Option D := if 0 ≤ n ∧ n < 2 ^ 40 ∧ x.length * n.toNat ≤ sizeLine then some (.str (Txt.mul x n)) else none
def gAdd : D → D → Option D
  | .int i, .int j => some (.int (i + j))
  | .str x, .str y => if x.length + y.length ≤ sizeLine then some (.str (x ++ y)) else none
  | .tup xs, .tup ys => if xs.length + ys.length ≤ sizeLine then some (.tup (xs ++ ys)) else none
  | .lst xs, .lst ys => if xs.length + ys.length ≤ sizeLine then some (.lst (xs ++ ys)) else none
  | _, _ => none
def gSub : D → D → Option D
  | .int i, .int j => some (.int (i - j))
  | _, _ => none
def gMul : D → D → Option D
  | .int i, .int j => if mulOk i j then some (.int (i * j)) else none
  | .lst xs, .int k => if -(2 ^ 63) ≤ k ∧ k < 2 ^ 63 ∧ xs.length * k.toNat ≤ sizeLine then some (.lst (List.replicate k.toNat xs).flatten) else none
  | .str x, .int k => strRep x k
  | _, _ => none
def gDiv : D → D → Option D
  | .int i, .int j => if 0 < j ∧ j.natAbs.log2 < 9000 then some (.int (i / j)) else if j < 0 ∧ j.natAbs.log2 < 9000 then some (.int (i.fdiv j)) else none
  | _, _ => none
def gMod : D → D → Option D
  | .int i, .int j => if 0 < j then some (.int (i % j)) else if j < 0 then some (.int (i.fmod j)) else none
  | _, _ => none
def gPow : D → D → Option D
  | .int i, .int j => if 0 ≤ j ∧ j ≤ 1000000 ∧ i.natAbs < 2 ^ 64 then some (.int (i ^ j.toNat)) else none
  | _, _ => none
def gNeg : D → Option D
  | .int i => some (.int (-i))
  | _ => none
/-- t + u, both of items: a tuple without a dict -/
theorem op_catF : OpR X (binaryOp .Add) (fun x y H Q => ∃ a b xs ys, x = .ref a ∧ y = .ref b ∧ SqT X.K H a xs ∧ SqT X.K H b ys ∧ xs.length + ys.length ≤ sizeLine ∧
    (xs = [] → Q (.ref b) H) ∧ (xs ≠ [] → ys = [] → Q (.ref a) H) ∧ (∀ p o, H p = none → o.dict = none → Q (.ref p) (upd H p (.frz o (.tup (xs ++ ys)))))) := by
  intro pins s σ H x y v u Q I rx ry h
  obtain ⟨a, b, xs, ys, rfl, rfl, ha, hb, hz, q0, q1, q2⟩ := h
  by_cases hx : xs = []
  · exact op_catA pins s σ H _ _ v u Q I rx ry ⟨a, b, xs, ys, rfl, rfl, ha, hb, hz, q0, q1, fun z => absurd hx z⟩
  cases rx
  cases ry
  obtain ⟨its, r1, p1, _⟩ := I.tuple ha
  obtain ⟨its2, r2, p2, _⟩ := I.tuple hb
  refine HT.cat_tup p1 p2 (fun z => hx (r1.nil_iff.mp z)) (fun z => ⟨.ref a, H, I, rfl, q1 hx (r2.nil_iff.mp z)⟩) (fun z => ?_) (by rw [← r1.length, ← r2.length]; exact hz)
  refine ⟨.ref s.heap.objs.size, _, I.laid (t' := s.toks) (o := .frz _ (.tup (xs ++ ys))) (fun b ob q => Heap.get?_push_of_some _ q) (Nat.le_refl _) ⟨Heap.get?_push_size _ rfl, ?_⟩, rfl, q2 _ _ (I.hok.fresh (Nat.le_refl _)) rfl⟩
  exact ⟨by rw [List.length_append]; exact hz, _, r1.append r2, IsTup.new _ _⟩
theorem ov_add : OpV X ct (binaryOp .Add) gAdd := OpV.mk' fun pins s σ H x y v u Q w M dx dy d I rx ry rl hx hy e k => by
  unfold gAdd at e
  split at e
  · cases e
    exact op_add pins s σ H x y v u Q I rx ry ⟨_, _, hx, hy, k.now rl rfl⟩
  · split at e
    · cases e
      exact op_add_str pins s σ H x y v u Q I rx ry ⟨_, _, hx, hy, by assumption, k.now rl rfl⟩
    · cases e
  · split at e
    · rename_i xs ys hl
      cases e
      obtain ⟨hr, a, vs, rfl, h1, h2⟩ := hx
      obtain ⟨hr', a', vs', rfl, h1', h2'⟩ := hy
      refine op_catF pins s σ H _ _ v u Q I rx ry ⟨a, a', vs, vs', rfl, rfl, h1, h1', by rw [← h2.length, ← h2'.length]; exact hl, fun z => ?_, fun _ z => ?_, fun p o hp ho => k.tup rl (h2.append h2') hp ho⟩
      · have : xs = [] := List.length_eq_zero_iff.mp (by rw [h2.length, z]; rfl)
        subst this
        exact k.old rl hr'
      · have : ys = [] := List.length_eq_zero_iff.mp (by rw [h2'.length, z]; rfl)
        subst this
        rw [List.append_nil] at k
        exact k.old rl hr
    · cases e
  · split at e
    · rename_i xs ys hl
      cases e
      obtain ⟨a, vs, rfl, h1, h2⟩ := hx
      obtain ⟨a', vs', rfl, h1', h2'⟩ := hy
      exact op_cat pins s σ H _ _ v u Q I rx ry ⟨a, a', vs, vs', rfl, rfl, h1, h1', by rw [← h2.length, ← h2'.length]; exact hl, fun p hp => k.lst rl (h2.append h2') hp⟩
    · cases e
  · cases e
theorem ov_mul : OpV X ct (binaryOp .Mult) gMul := OpV.mk' fun pins s σ H x y v u Q w M dx dy d I rx ry rl hx hy e k => by
  unfold gMul at e
  split at e
  · split at e
    · rename_i i j h
      cases e
      cases hx
      cases hy
      obtain ⟨t, rfl⟩ := rx
      obtain ⟨t', rfl⟩ := ry
      exact mul_int ⟨.int _, H, I.tok _, ⟨_, rfl⟩, k.now rl rfl⟩ h.ok
    · cases e
  · split at e
    · rename_i xs j h
      cases e
      obtain ⟨a, vs, rfl, h1, h2⟩ := hx
      cases hy
      refine op_rep pins s σ H _ _ v u Q I rx ry ⟨a, j, vs, rfl, rfl, h1, h.1, h.2.1, by rw [← h2.length]; exact h.2.2, fun p hp => k.lst rl ?_ hp⟩
      generalize j.toNat = n
      induction n with
      | zero => exact .nil
      | succ n ih =>
        rw [List.replicate_succ, List.replicate_succ, List.flatten_cons, List.flatten_cons]
        exact h2.append ih
    · cases e
  · unfold strRep at e
    split at e
    · rename_i x n h
      cases e
      cases hx
      cases hy
      obtain ⟨t, rfl⟩ := rx
      obtain ⟨t', rfl⟩ := ry
      have hs : sizeLine = 16777216 := sizeLine_eq
      refine PySem.SB.mul ⟨by simp; omega, fun h1 h2 => ?_, fun h1 h2 => ?_⟩ fun t'' k' => ⟨.str _, H, I.tok _, ⟨_, rfl⟩, k.now rl rfl⟩
      · have hn : 0 < n := by omega
        have hx : x.length ≤ sizeLine := by
          have := h.2.2
          have h3 : 1 ≤ n.toNat := by omega
          calc x.length = x.length * 1 := by omega
            _ ≤ x.length * n.toNat := Nat.mul_le_mul_left _ h3
            _ ≤ sizeLine := this
        have hd : (2 : Int) ^ 63 - 1 ≥ n * x.length := by
          have h4 : ((x.length * n.toNat : Nat) : Int) ≤ sizeLine := by exact_mod_cast h.2.2
          have h5 : ((x.length * n.toNat : Nat) : Int) = n * x.length := by
            rw [Int.natCast_mul, Int.toNat_of_nonneg (by omega), Int.mul_comm]
          rw [h5, hs] at h4
          omega
        have : (x.length : Int) ≤ (2 ^ 63 - 1) / n := by
          rw [Int.le_ediv_iff_mul_le hn, Int.mul_comm]
          exact hd
        omega
      · unfold PySem.Builtin.Str.tooLong
        rw [decide_eq_false_iff_not]
        have := h.2.2
        omega
    · cases e
  · cases e
theorem ov_div : OpV X ct (binaryOp .FloorDiv) gDiv := OpV.mk' fun pins s σ H x y v u Q w M dx dy d I rx ry rl hx hy e k => by
  unfold gDiv at e
  split at e
  · split at e
    · rename_i i j h
      cases e
      exact op_fdivW pins s σ H x y v u Q I rx ry ⟨_, _, hx, hy, h, k.now rl rfl⟩
    · split at e
      · rename_i i j h0 h
        cases e
        cases hx
        cases hy
        obtain ⟨t, rfl⟩ := rx
        obtain ⟨t', rfl⟩ := ry
        exact floordiv_int (by omega) ⟨.int _, H, I.tok _, ⟨_, rfl⟩, k.now rl rfl⟩ (.inl (PyProof.noPylong_of_log2 h.2))
      · cases e
  · cases e
theorem ov_mod : OpV X ct (binaryOp .Mod) gMod := OpV.mk' fun pins s σ H x y v u Q w M dx dy d I rx ry rl hx hy e k => by
  unfold gMod at e
  split at e
  · split at e
    · rename_i i j h
      cases e
      exact op_mod pins s σ H x y v u Q I rx ry ⟨_, _, hx, hy, h, k.now rl rfl⟩
    · split at e
      · rename_i i j h0 h
        cases e
        exact op_modN pins s σ H x y v u Q I rx ry ⟨_, _, hx, hy, by omega, k.now rl rfl⟩
      · cases e
  · cases e
theorem ov_pow : OpV X ct (binaryOp .Pow) gPow := OpV.mk' fun pins s σ H x y v u Q w M dx dy d I rx ry rl hx hy e k => by
  unfold gPow at e
  split at e
  · split at e
    · rename_i i j h
      cases e
      exact op_pow pins s σ H x y v u Q I rx ry ⟨_, _, hx, hy, h, k.now rl rfl⟩
    · cases e
  · cases e
theorem uv_neg : UnV X ct (unaryOp .USub) gNeg := UnV.mk' fun pins s σ H x v Q w M dx d I rx rl hx e k => by
  unfold gNeg at e
  split at e
  · cases e
    exact un_neg pins s σ H x v Q I rx ⟨_, hx, k.now rl rfl⟩
  · cases e

/-! ### comparisons -/
def qOk (x y : D) : Bool := (kOk x && kOk y) || (isDic x && isDic y)
theorem qOk_of {x y : D} (h : qOk x y = true) : (kOk x = true ∧ kOk y = true) ∨ (isDic x = true ∧ isDic y = true) := by
  unfold qOk at h
  rw [Bool.or_eq_true, Bool.and_eq_true, Bool.and_eq_true] at h
  exact h
def gEq (x y : D) : Option D := cond (qOk x y) ((eqF 60 x y).map D.bl) none
def gNe (x y : D) : Option D := cond (qOk x y) ((eqF 60 x y).map fun k => D.bl (!k)) none
theorem ov_eq (hu : X.A.units + 64 < cLine) : OpV X ct (compareOp .Eq) gEq := OpV.mk' fun pins s σ H x y v u Q w M dx dy d I rx ry rl hx hy e k => by
  unfold gEq at e
  cases hk : qOk dx dy with
  | false => rw [hk] at e; cases e
  | true =>
    rw [hk, cond_true] at e
    obtain ⟨c, ec, e⟩ := Option.map_eq_some_iff.mp e
    subst e
    exact (rcF I rl (A := X.A) (by omega) hx rx hy ry (qOk_of hk) ec).1 X.xe (EP X pins σ Q) ⟨.bl c, H, I, rfl, k.now rl rfl⟩
theorem ov_ne (hu : X.A.units + 64 < cLine) : OpV X ct (compareOp .NotEq) gNe := OpV.mk' fun pins s σ H x y v u Q w M dx dy d I rx ry rl hx hy e k => by
  unfold gNe at e
  cases hk : qOk dx dy with
  | false => rw [hk] at e; cases e
  | true =>
    rw [hk, cond_true] at e
    obtain ⟨c, ec, e⟩ := Option.map_eq_some_iff.mp e
    subst e
    exact (rcF I rl (A := X.A) (by omega) hx rx hy ry (qOk_of hk) ec).2 X.xe (EP X pins σ Q) ⟨.bl (!c), H, I, rfl, k.now rl rfl⟩
def gLt : D → D → Option D
  | .int i, .int j => some (.bl (decide (i < j)))
  | .str x, .str y => some (.bl (decide (x.cps.toList < y.cps.toList)))
  | _, _ => none
def gLe : D → D → Option D
  | .int i, .int j => some (.bl (decide (i ≤ j)))
  | .str x, .str y => some (.bl (!decide (y.cps.toList < x.cps.toList)))
  | _, _ => none
def gGt : D → D → Option D
  | .int i, .int j => some (.bl (decide (j < i)))
  | .str x, .str y => some (.bl (decide (y.cps.toList < x.cps.toList)))
  | _, _ => none
def gGe : D → D → Option D
  | .int i, .int j => some (.bl (decide (j ≤ i)))
  | .str x, .str y => some (.bl (!decide (x.cps.toList < y.cps.toList)))
  | _, _ => none
theorem ov_le : OpV X ct (compareOp .LtE) gLe := OpV.mk' fun pins s σ H x y v u Q w M dx dy d I rx ry rl hx hy e k => by
  unfold gLe at e
  split at e
  · cases e
    exact op_le pins s σ H x y v u Q I rx ry ⟨_, _, hx, hy, k.now rl rfl⟩
  · cases e
    exact op_le_str pins s σ H x y v u Q I rx ry ⟨_, _, hx, hy, k.now rl rfl⟩
  · cases e
theorem ov_gt : OpV X ct (compareOp .Gt) gGt := OpV.mk' fun pins s σ H x y v u Q w M dx dy d I rx ry rl hx hy e k => by
  unfold gGt at e
  split at e
  · cases e
    exact op_gt pins s σ H x y v u Q I rx ry ⟨_, _, hx, hy, k.now rl rfl⟩
  · cases e
    exact op_gt_str pins s σ H x y v u Q I rx ry ⟨_, _, hx, hy, k.now rl rfl⟩
  · cases e
theorem ov_ge : OpV X ct (compareOp .GtE) gGe := OpV.mk' fun pins s σ H x y v u Q w M dx dy d I rx ry rl hx hy e k => by
  unfold gGe at e
  split at e
  · cases e
    exact op_ge pins s σ H x y v u Q I rx ry ⟨_, _, hx, hy, k.now rl rfl⟩
  · cases e
    exact op_ge_str pins s σ H x y v u Q I rx ry ⟨_, _, hx, hy, k.now rl rfl⟩
  · cases e
def isNon : D → Bool
  | .non => true
  | _ => false
def gIs : D → D → Option D
  | .bl a, .bl c => some (.bl (decide (a = c)))
  | x, .non => some (.bl (isNon x))
  | _, _ => none
def gIsNot : D → D → Option D
  | .bl a, .bl c => some (.bl (!decide (a = c)))
  | x, .non => some (.bl (!isNon x))
  | _, _ => none
end
end DL

/-! DL4: items, in, displays, arguments, built-in calls. -/
namespace DL
open PySem PySem.Spec PyProof.Rows L2

/-! ### dicts as lists of keys beside a list of values -/
section
variable {α β : Type}
def dput (ks : List Key) (xs : List α) (k : Key) (v : α) : List Key × List α :=
  if ((ks.zip xs).any fun kv => decide (kv.1 = k)) = true then (ks, (ks.zip xs).map fun kv => if kv.1 = k then v else kv.2) else (ks ++ [k], xs ++ [v])
def ddrop (ks : List Key) (xs : List α) (k : Key) : List Key × List α :=
  (((ks.zip xs).filter fun kv => decide (kv.1 ≠ k)).map (·.1), ((ks.zip xs).filter fun kv => decide (kv.1 ≠ k)).map (·.2))
end
def keyD : D → Option Key
  | .int i => some (.inl i)
  | .str x => some (.inr x)
  | _ => none
theorem keyD_v {K : PySem.W.Frag} {w : Wd} {H : Hp} {d : D} {v : V} {k : Key} (h : Vw K w H d v) (e : keyD d = some k) : v = kV k := by
  cases d <;> first | (cases e; cases h; rfl) | cases e
theorem keyD_r {K : PySem.W.Frag} {w : Wd} {d : D} {v : V} {k : Key} (h : Rep K w d v) (e : keyD d = some k) : v = kV k := by
  cases d <;> first | (cases e; simp only [Rep] at h; subst h; rfl) | cases e
section
variable {K : PySem.W.Frag} {w : Wd}
end

def strAt (z : Str) (i : Int) : Option D := if z.length ≤ sizeLine then (atI z.cps.toList i).map fun c => .str ⟨#[c]⟩ else none
def gIx : D → D → Option D
  | .lst xs, .int i => atI xs i
  | .tup xs, .int i => atI xs i
  | .str z, .int i => strAt z i
  | .dic ks xs, k => (keyD k).bind fun k => dget ks xs k
  | _, _ => none
theorem atI_rep {K : PySem.W.Frag} {w : Wd} {xs : List D} {vs : List V} {i : Int} {d : D} (h : RepL K w xs vs) (e : atI xs i = some d) : ∃ v, atI vs i = some v ∧ Rep K w d v := by
  unfold atI at e ⊢
  obtain ⟨j, e1, e2⟩ := Option.bind_eq_some_iff.mp e
  obtain ⟨v, h1, h2⟩ := h.get e2
  exact ⟨v, by rw [← h.length, e1]; exact h1, h2⟩
section
variable {X : Cx} {ct : CT} {b : Base} {W : WX}
theorem iv_ix (hu : X.A.units + 64 < cLine) : IxV X ct gIx := by
  refine ⟨fun x y H Q => ∃ w M dx dy d, Rl X.K ct w M H ∧ Vw X.K w H dx x ∧ Vw X.K w H dy y ∧ gIx dx dy = some d ∧ Ok1 X.K ct w M H d Q, ?_, fun w M H x y v1 v2 d Q rl hx hy e k => ⟨w, M, x, y, d, rl, hx, hy, e, k⟩⟩
  intro value slice pins s σ H x y v u Q I rx ry h hs
  obtain ⟨w, M, dx, dy, d, rl, hx, hy, e, k⟩ := h
  unfold gIx at e
  split at e
  · obtain ⟨a, vs, rfl, h1, h2⟩ := hx
    cases hy
    obtain ⟨v', e1, e2⟩ := atI_rep h2 e
    exact ix_list value slice pins s σ H _ _ v u Q I rx ry ⟨a, vs, _, v', rfl, rfl, SqL.of h1, e1, k.old rl e2⟩ hs
  · obtain ⟨_, a, vs, rfl, h1, h2⟩ := hx
    cases hy
    obtain ⟨v', e1, e2⟩ := atI_rep h2 e
    exact ix_tup value slice pins s σ H _ _ v u Q I rx ry ⟨a, vs, _, v', rfl, rfl, h1, e1, k.old rl e2⟩ hs
  · cases hx
    cases hy
    unfold strAt at e
    split at e
    · rename_i hz
      obtain ⟨c, e1, e2⟩ := Option.map_eq_some_iff.mp e
      subst e2
      exact ix_str value slice pins s σ H _ _ v u Q I rx ry ⟨_, _, c, rfl, rfl, hz, e1, k.now rl rfl⟩ hs
    · cases e
  · obtain ⟨a, vs, rfl, h1, h2, h3⟩ := hx
    obtain ⟨key, e1, e2⟩ := Option.bind_eq_some_iff.mp e
    have ek := keyD_v hy e1
    subst ek
    obtain ⟨v', e3, e4⟩ := (dget_rep h3).1 d e2
    cases rx
    have g : DGet H a (kV key) (some v') := .inl ⟨_, key, h1, rfl, e3.symm⟩
    exact tail_any (dict_typeIs I g) PySem.F.slot_dict_getitem.lookup (d_getItem (by omega) I g ry fun w' s3 I3 rw' => ⟨v', H, I3, rw', k.old rl e4⟩) hs
  · cases e

/-! ### in -/
def anyE (x : D) : List D → Option Bool
  | [] => some false
  | y :: ys => (eqD 60 y x).bind fun a => (anyE x ys).bind fun c => some (a || c)
def inB : D → D → Option Bool
  | x, .lst ys => anyE x ys
  | x, .tup ys => anyE x ys
  | k, .dic ks xs => (keyD k).bind fun k => some (dget ks xs k).isSome
  | .str x, .str z => match x.cps.toList with
    | [c] => some (decide (c ∈ z.cps.toList))
    | _ => some (!(Builtin.Str.occurrences z x 0 z.length 1).isEmpty)
  | _, _ => none
def gIn (x y : D) : Option D := (inB x y).map D.bl
def gNotIn (x y : D) : Option D := (inB x y).map fun k => D.bl (!k)
open Classical in
/-- the answer of == for each item, by its value -/
noncomputable def eOf (K : PySem.W.Frag) (w : Wd) (x : D) (z : Value) : Bool := decide (∃ v y, RelV v z ∧ Rep K w y v ∧ eqD 60 y x = some true)
open Classical in
theorem anyE_run {w : Wd} {M : Store} {H : Hp} {pins : List (Addr × Obj)} {σ : L2.St} {s : Shared} (I : Inv X pins σ H s) (rl : Rl X.K ct w M H) {x : D} {v : V} {u : Value} (hx : Vw X.K w H x v) (rx : RelV v u) {A : Around} (hu : A.units + 60 < cLine) :
    ∀ {ys : List D} {vs : List V} {its : List Value} {k : Bool}, RepL X.K w ys vs → Vals vs its → anyE x ys = some k →
      (∀ y ∈ its, SeqAt.EqAt A s y u (eOf X.K w x y)) ∧ its.any (eOf X.K w x) = k
  | [], vs, its, k, h, r, e => by
    rw [RepL.nil_iff] at h
    subst h
    cases r
    cases e
    exact ⟨fun y hy => by simp at hy, rfl⟩
  | y :: ys, vs, its, k, h, r, e => by
    rw [RepL.cons_iff] at h
    obtain ⟨v1, r1, rfl, h1, h2⟩ := h
    cases r with
    | @cons _ u1 _ us ru rus =>
    unfold anyE at e
    obtain ⟨a, ea, e⟩ := Option.bind_eq_some_iff.mp e
    obtain ⟨c, ec, e⟩ := Option.bind_eq_some_iff.mp e
    cases e
    obtain ⟨f1, f2⟩ := anyE_run I rl hx rx hu h2 rus ec
    have q1 := eqD_at I rl 60 y x v1 v u1 u a A hu (Vw.of rl.sub h1) ru hx rx ea
    have q2 : eOf X.K w x u1 = a := by
      unfold eOf
      cases a with
      | true => exact decide_eq_true ⟨v1, y, ru, h1, ea⟩
      | false =>
        refine decide_eq_false fun ⟨v2, y2, g1, g2, g3⟩ => ?_
        have := g1.inj ru
        subst this
        have := Rep.inj I rl y2 y v2 g2 h1
        subst this
        rw [ea] at g3
        cases g3
    refine ⟨fun z hz => ?_, by rw [List.any_cons, q2, f2]⟩
    rcases List.mem_cons.mp hz with q | q
    · subst q
      rw [q2]
      exact q1
    · exact f1 z q
theorem in_dic {w : Wd} {H : Hp} {a : Addr} {ks : List Key} {xs : List D} {vs : List V} {key : Key} (h1 : Rd H a (.dK (ks.zip vs))) (h3 : RepL X.K w xs vs) : ∃ o, DGet H a (kV key) o ∧ o.isSome = (dget ks xs key).isSome := by
  refine ⟨_, .inl ⟨_, key, h1, rfl, rfl⟩, ?_⟩
  obtain ⟨q1, q2⟩ := dget_rep (k := key) (ks := ks) h3
  cases z : dget ks xs key with
  | none =>
    rw [q2 z]
    rfl
  | some d =>
    obtain ⟨v', e3, _⟩ := q1 d z
    rw [e3]
    rfl
theorem one_sign {x : Str} {c : Nat} (h : x.cps.toList = [c]) : x = ⟨#[c]⟩ := by
  have : x.cps = #[c] := by
    have := congrArg List.toArray h
    simpa using this
  cases x
  simp_all
theorem ov_in (hu : X.A.units + 64 < cLine) : OpV X ct (compareOp .In) gIn := OpV.mk' fun pins s σ H x y v u Q w M dx dy d I rx ry rl hx hy e k => by
  unfold gIn at e
  obtain ⟨c, ec, e⟩ := Option.map_eq_some_iff.mp e
  subst e
  cases dy with
  | lst ys =>
    have ec : anyE dx ys = some c := by cases dx <;> exact ec
    obtain ⟨a, vs, its, rfl, rfl, h1, h2, h3, h4⟩ := Vw.list I hy ry
    obtain ⟨f1, f2⟩ := anyE_run I rl hx rx (A := X.A.in1) (by show X.A.units + 1 + 60 < cLine; omega) h2 h3 ec
    refine SeqAt.in_listAt (eOf X.K w _) h4 (fun z hz => f1 z (by simpa using hz)) ?_
    have : its.toArray.any (eOf X.K w dx) = c := by rw [← f2]; simp
    rw [this]
    exact ⟨.bl c, H, I, rfl, k.now rl rfl⟩
  | tup ys =>
    have ec : anyE dx ys = some c := by cases dx <;> exact ec
    obtain ⟨a, vs, its, rfl, rfl, h1, h2, h3, h4⟩ := Vw.tuple I hy ry
    obtain ⟨f1, f2⟩ := anyE_run I rl hx rx (A := X.A.in1) (by show X.A.units + 1 + 60 < cLine; omega) h2 h3 ec
    refine SeqAt.in_tupleAt (eOf X.K w _) h4 (fun z hz => f1 z (by simpa using hz)) ?_
    have : its.toArray.any (eOf X.K w dx) = c := by rw [← f2]; simp
    rw [this]
    exact ⟨.bl c, H, I, rfl, k.now rl rfl⟩
  | dic ks xs =>
    have ec : (keyD dx).bind (fun k => some (dget ks xs k).isSome) = some c := by cases dx <;> exact ec
    obtain ⟨a, vs, rfl, h1, h2, h3⟩ := hy
    obtain ⟨key, e1, e2⟩ := Option.bind_eq_some_iff.mp ec
    cases e2
    have ek := keyD_v hx e1
    subst ek
    cases ry
    obtain ⟨o, g, eo⟩ := in_dic (X := X) (key := key) h1 h3
    refine d_in (by omega) I g rx fun s' I' => ⟨.bl _, H, I', rfl, ?_⟩
    rw [eo]
    exact k.now rl rfl
  | str z =>
    cases dx with
    | str x0 =>
      unfold inB at ec
      dsimp only at ec
      split at ec
      · rename_i cc hc
        cases ec
        cases hx
        cases hy
        exact op_in_sign pins s σ H _ _ v u Q I rx ry ⟨cc, _, by rw [one_sign hc], rfl, k.now rl rfl⟩
      · cases ec
        exact op_in_str pins s σ H x y v u Q I rx ry ⟨_, _, hx, hy, k.now rl rfl⟩
    | _ => cases ec
  | _ => cases dx <;> cases ec
theorem ov_notin (hu : X.A.units + 64 < cLine) : OpV X ct (compareOp .NotIn) gNotIn := OpV.mk' fun pins s σ H x y v u Q w M dx dy d I rx ry rl hx hy e k => by
  unfold gNotIn at e
  obtain ⟨c, ec, e⟩ := Option.map_eq_some_iff.mp e
  subst e
  cases dy with
  | lst ys =>
    have ec : anyE dx ys = some c := by cases dx <;> exact ec
    obtain ⟨a, vs, its, rfl, rfl, h1, h2, h3, h4⟩ := Vw.list I hy ry
    obtain ⟨f1, f2⟩ := anyE_run I rl hx rx (A := X.A.in1) (by show X.A.units + 1 + 60 < cLine; omega) h2 h3 ec
    refine SeqAt.notIn_listAt (eOf X.K w _) h4 (fun z hz => f1 z (by simpa using hz)) ?_
    have : its.toArray.any (eOf X.K w dx) = c := by rw [← f2]; simp
    rw [this]
    exact ⟨.bl (!c), H, I, rfl, k.now rl rfl⟩
  | tup ys =>
    have ec : anyE dx ys = some c := by cases dx <;> exact ec
    obtain ⟨a, vs, its, rfl, rfl, h1, h2, h3, h4⟩ := Vw.tuple I hy ry
    obtain ⟨f1, f2⟩ := anyE_run I rl hx rx (A := X.A.in1) (by show X.A.units + 1 + 60 < cLine; omega) h2 h3 ec
    refine SeqAt.notIn_tupleAt (eOf X.K w _) h4 (fun z hz => f1 z (by simpa using hz)) ?_
    have : its.toArray.any (eOf X.K w dx) = c := by rw [← f2]; simp
    rw [this]
    exact ⟨.bl (!c), H, I, rfl, k.now rl rfl⟩
  | dic ks xs =>
    have ec : (keyD dx).bind (fun k => some (dget ks xs k).isSome) = some c := by cases dx <;> exact ec
    obtain ⟨a, vs, rfl, h1, h2, h3⟩ := hy
    obtain ⟨key, e1, e2⟩ := Option.bind_eq_some_iff.mp ec
    cases e2
    have ek := keyD_v hx e1
    subst ek
    cases ry
    obtain ⟨o, g, eo⟩ := in_dic (X := X) (key := key) h1 h3
    refine d_notIn (by omega) I g rx fun s' I' => ⟨.bl _, H, I', rfl, ?_⟩
    rw [eo]
    exact k.now rl rfl
  | str z =>
    cases dx with
    | str x0 =>
      unfold inB at ec
      dsimp only at ec
      split at ec
      · rename_i cc hc
        cases ec
        cases hx
        cases hy
        exact op_notIn_sign pins s σ H _ _ v u Q I rx ry ⟨cc, _, by rw [one_sign hc], rfl, k.now rl rfl⟩
      · cases ec
        exact op_notin_str pins s σ H x y v u Q I rx ry ⟨_, _, hx, hy, k.now rl rfl⟩
    | _ => cases ec
  | _ => cases dx <;> cases ec
end
end DL

/-! DL5: displays, arguments, built-in calls. -/
namespace DL
open PySem PySem.Spec PyProof.Rows L2

def aNil : CA := fun _ M => .ok [] M
def aCons (f : CE) (g : CA) : CA := fun en M => (f en M).bind fun d M1 => (g en M1).bind fun ds M2 => .ok (d :: ds) M2
abbrev CAH := En → Store → Out (List Hd)
def ahNil : CAH := fun _ M => .ok [] M
def ahCons (f : CH) (g : CAH) : CAH := fun en M => (f en M).bind fun d M1 => (g en M1).bind fun ds M2 => .ok (d :: ds) M2
inductive RepHs (K : PySem.W.Frag) (w : Wd) (σ : L2.St) : List Hd → List V → Prop
  | nil : RepHs K w σ [] []
  | cons {h : Hd} {hs : List Hd} {v : V} {vs : List V} : RepH K w σ h v → RepHs K w σ hs vs → RepHs K w σ (h :: hs) (v :: vs)
inductive Vws (K : PySem.W.Frag) (w : Wd) (H : Hp) : List D → List V → Prop
  | nil : Vws K w H [] []
  | cons {d : D} {ds : List D} {v : V} {vs : List V} : Vw K w H d v → Vws K w H ds vs → Vws K w H (d :: ds) (v :: vs)
def vws (en : En) (M : Store) : List Hd → Option (List D)
  | [] => some []
  | h :: hs => (vw en M h).bind fun d => (vws en M hs).bind fun ds => some (d :: ds)
theorem vws_ok {K : PySem.W.Frag} {ct : CT} {b : Base} {w : Wd} {en : En} {σ : L2.St} {M : Store} {H : Hp} (S : Sl K ct b w en σ H) (r : Rl K ct w M H) : ∀ {hs : List Hd} {vs : List V} {ds : List D}, RepHs K w σ hs vs → vws en M hs = some ds → Vws K w H ds vs
  | [], _, _, .nil, e => by cases e; exact .nil
  | h :: hs, _, _, .cons a c, e => by
    unfold vws at e
    obtain ⟨d, e1, e⟩ := Option.bind_eq_some_iff.mp e
    obtain ⟨ds, e2, e⟩ := Option.bind_eq_some_iff.mp e
    cases e
    exact .cons (vw_ok S r a e1) (vws_ok S r c e2)
section
variable (X : Cx) (ct : CT) (b : Base) (W : WX)
def TAHD (f : CAH) : TA := fun σ H Q => ∃ w en M, Sl X.K ct b w en σ H ∧ Rl X.K ct w M H ∧ Post (f en M)
  (fun d M' => ∀ w' v H', Step w H w' H' → Rl X.K ct w' M' H' → RepHs X.K w' σ d v → Q v H')
  (fun c fs M' => ∀ w' cls dx H', Step w H w' H' → Sl X.K ct b w' en σ H' → Rl X.K ct w' M' H' → ExV X.K ct w' c fs cls dx H' → W cls dx σ H')
abbrev PAHD (f : CAH) (es : List Expr) : Prop := PA X es (TAHD X ct b W f)
end
def eTup (f : CA) : CE := fun en M => (f en M).bind fun ds M1 => if ds.length ≤ sizeLine then .ok (.tup ds) M1 else .err
def nLst (f : CA) : CN := fun en M => (f en M).bind fun ds M1 => if ds.length ≤ sizeLine then .ok (.lst ds) M1 else .err
def frzO : MO → Option D
  | .lst xs => some (.lst xs)
  | .dic ks xs => some (.dic ks xs)
  | _ => none
/-- a new list or dict that stands for ever -/
def frz (f : CN) : CE := fun en M => (f en M).bind fun o M1 => ofO (frzO o) M1
/-- a new list or dict of the store -/
def alc (f : CN) : CE := fun en M => (f en M).bind fun o M1 => .ok (.ref M1.length) (M1 ++ [o])
def eCall (g : List D → Option D) (f : CAH) : CE := fun en M => (f en M).bind fun as M1 => ofO ((vws en M1 as).bind g) M1
def nCall (g : List D → Option MO) (f : CAH) : CN := fun en M => (f en M).bind fun as M1 => ofO ((vws en M1 as).bind g) M1

section
variable {X : Cx} {ct : CT} {b : Base} {W : WX} {e e1 e2 e3 : Expr} {pos : Pos} {es : List Expr}
theorem pad_nil : PAD X ct b W aNil [] := PA.wk pa_nil fun σ H Q h => by
  obtain ⟨w, en, M, S, r, p⟩ := h
  exact p w _ H (Step.refl _ _) r .nil
theorem pad_cons {f : CE} {g : CA} (h1 : PD X ct b W f e) (h2 : PAD X ct b W g es) (hs : starEach (e :: es) X.env = (false, eval e X.env) :: starEach es X.env := by rfl) : PAD X ct b W (aCons f g) (e :: es) := PA.wk (pa_cons h1 h2 hs) fun σ H Q h => by
  obtain ⟨w, en, M, S, rl, p⟩ := h
  refine ⟨w, en, M, S, rl, (Post.bind p).imp (fun a M1 q w1 v1 H1 s1 r1 x1 => ?_) fun _ _ _ q => q⟩
  exact ⟨w1, en, M1, S.step s1, r1, (Post.bind q).imp (fun c M2 q w2 v2 H2 s2 r2 x2 => q w2 _ H2 (s1.trans s2) r2 (.cons (s2.rep x1) x2)) fun _ _ _ q w' cls dx H' s => q w' cls dx H' (s1.trans s)⟩
theorem pah_nil : PAHD X ct b W ahNil [] := PA.wk pa_nil fun σ H Q h => by
  obtain ⟨w, en, M, S, r, p⟩ := h
  exact p w _ H (Step.refl _ _) r .nil
theorem pah_cons {f : CH} {g : CAH} (h1 : PHD X ct b W f e) (h2 : PAHD X ct b W g es) (hs : starEach (e :: es) X.env = (false, eval e X.env) :: starEach es X.env := by rfl) : PAHD X ct b W (ahCons f g) (e :: es) := PA.wk (pa_cons h1 h2 hs) fun σ H Q h => by
  obtain ⟨w, en, M, S, rl, p⟩ := h
  refine ⟨w, en, M, S, rl, (Post.bind p).imp (fun a M1 q w1 v1 H1 s1 r1 x1 => ?_) fun _ _ _ q => q⟩
  exact ⟨w1, en, M1, S.step s1, r1, (Post.bind q).imp (fun c M2 q w2 v2 H2 s2 r2 x2 => q w2 _ H2 (s1.trans s2) r2 (.cons (s2.repH x1) x2)) fun _ _ _ q w' cls dx H' s => q w' cls dx H' (s1.trans s)⟩
/-- a tuple, without a dict of its own -/
theorem pe_tupF {x1} {t : TA} (h : PA X es t) : PE X (.Tuple es x1 pos) (fun σ H Q => t σ H fun xs H1 => xs.length ≤ sizeLine ∧ ∀ p o, H1 p = none → o.dict = none → Q (.ref p) (upd H1 p (.frz o (.tup xs)))) := by
  refine ⟨fun pins s σ H Q I hq => ?_⟩
  refine wpAny_Tuple_spliced (thn (h.run pos pins s σ H _ I hq) fun us s1 ⟨xs, H1, I1, r, z, q⟩ => ⟨by rw [← r.length]; exact z, ?_⟩)
  have hf : H1 s1.heap.objs.size = none := I1.hok.fresh (Nat.le_refl _)
  refine ⟨.ref s1.heap.objs.size, upd H1 s1.heap.objs.size (.frz { cls := .type "tuple", data := .seq us.toArray } (.tup xs)), I1.laid (t' := s1.toks) (fun b u e => Heap.get?_push_of_some _ e) (Nat.le_refl _) ?_, rfl, q _ _ hf ?_⟩
  · exact ⟨Heap.get?_push_size _ rfl, z, us, r, ⟨_, Heap.get?_push_size _ rfl, rfl, _, rfl⟩⟩
  · rfl
theorem pd_tup {f : CA} {k : Nat} (h : PAD X ct b W f es) : PD X ct b W (eTup f) (.Tuple es k pos) := PE.wk (pe_tupF h) fun σ H Q h => by
  obtain ⟨w, en, M, S, rl, p⟩ := h
  refine ⟨w, en, M, S, rl, (Post.bind p).imp (fun ds M1 q w1 v1 H1 s1 r1 x1 => ?_) fun _ _ _ q => q⟩
  split at q
  · rename_i hl
    refine ⟨by rw [← x1.length]; exact hl, fun p o hp ho => ?_⟩
    exact Ok1.tup (X := X) (ct := ct) (M := M1) (fun w' v H' s r x => q w' v H' (s1.trans s) r x) r1 x1 hp ho
  · exact q.elim
theorem pn_lst {f : CA} (h : PAD X ct b W f es) : PND X ct b W (nLst f) (.List es pos) := PE.wk (pe_lst h) fun σ H Q h => by
  obtain ⟨w, en, M, S, rl, p⟩ := h
  refine ⟨w, en, M, S, rl, (Post.bind p).imp (fun ds M1 q w1 v1 H1 s1 r1 x1 => ?_) fun _ _ _ q => q⟩
  split at q
  · rename_i hl
    exact ⟨by rw [← x1.length]; exact hl, fun p hp => q w1 p (.lst v1) H1 s1 r1 hp ⟨v1, rfl, x1⟩⟩
  · exact q.elim
theorem RepO.nice {K : PySem.W.Frag} {w : Wd} {o : MO} {ho : HO} (h : RepO K ct w o ho) : NiceH ho := by
  cases o with
  | lst xs => obtain ⟨vs, rfl, _⟩ := h; trivial
  | dic ks xs => obtain ⟨vs, rfl, _⟩ := h; trivial
  | ldic ks xs => obtain ⟨ob, vs, rfl, _⟩ := h; trivial
  | ins c fs => obtain ⟨dx, vs, rfl, _⟩ := h; trivial
  | exc c fs => obtain ⟨oe, dx, rfl, _⟩ := h; trivial
  | kd ks xs => exact h.niceH
/-- what an expression gives may be locked -/
def tLk (t : TE) : TE := fun σ H Q => t σ H fun x H1 => Q x H1 ∨ ∃ d u, x = .ref d ∧ H1 d = some u ∧ Mut (some u) ∧ ∀ od, Q x (upd H1 d (.frz od u))
theorem pe_lk {t : TE} (h : PE X e t) : PE X e (tLk t) := ⟨fun pins s σ H Q I hw => thn (h.run pins s σ H _ I hw) fun v s1 ⟨x, H1, I1, r, q⟩ => by
  rcases q with q | ⟨d, u, rfl, hd, mu, q⟩
  · exact ⟨x, H1, I1, r, q⟩
  · obtain ⟨od, I2⟩ := I1.lock hd mu
    exact ⟨_, _, I2, r, q od⟩⟩
/-- a new thing, locked, for ever -/
theorem Rl.frozenL {K : PySem.W.Frag} {w : Wd} {M : Store} {H : Hp} (r : Rl K ct w M H) {p : Addr} {o : HO} {od : Obj} (hp : H p = none) (hn : NiceH (.frz od o)) : Step w H ⟨w.ρ, upd w.F p (.frz od o)⟩ (upd (upd H p o) p (.frz od o)) ∧ Rl K ct ⟨w.ρ, upd w.F p (.frz od o)⟩ M (upd (upd H p o) p (.frz od o)) := by
  have e : upd (upd H p o) p (.frz od o) = upd H p (.frz od o) := by
    funext b
    by_cases hb : b = p
    · rw [hb, upd_same, upd_same]
    · rw [upd_ne hb, upd_ne hb, upd_ne hb]
  rw [e]
  exact r.frozen hp hn
theorem TND.frz {f : CN} {σ : L2.St} {H : Hp} {Q : VK} (hl : ∀ en M o M', f en M = .ok o M' → ∃ xs, o = .lst xs) (h : TD X ct b W (frz f) σ H Q) : TND X ct b W f σ H Q := by
  obtain ⟨w, en, M, S, rl, p⟩ := h
  unfold DL.frz at p
  cases ef : f en M with
  | err => rw [ef] at p; exact p.elim
  | exc c fs M1 =>
    rw [ef] at p
    refine ⟨w, en, M, S, rl, ?_⟩
    rw [ef]
    exact p
  | ok o M1 =>
    rw [ef] at p
    obtain ⟨xs, rfl⟩ := hl _ _ _ _ ef
    refine ⟨w, en, M, S, rl, ?_⟩
    rw [ef]
    intro w1 p1 ho H1 s1 r1 hp ro
    have p : Post (ofO (frzO (.lst xs)) M1) _ _ := p
    obtain ⟨d, e, q⟩ := ofO_post p
    obtain ⟨s2, r2⟩ := r1.frozen (o := ho) hp (RepO.nice ro)
    refine q _ _ _ (s1.trans s2) r2 ?_
    cases e
    obtain ⟨vs, rfl, x⟩ := ro
    simp only [Rep]
    exact ⟨p1, vs, rfl, upd_same, s2.repL x⟩
theorem pd_frz {f : CN} (h : PND X ct b W f e) : PD X ct b W (frz f) e := PE.wk (pe_lk h) fun σ H Q h => by
  obtain ⟨w, en, M, S, rl, p⟩ := h
  refine ⟨w, en, M, S, rl, (Post.bind p).imp (fun o M1 q w1 p1 ho H1 s1 r1 hp ro => ?_) fun _ _ _ q => q⟩
  obtain ⟨d, e, q⟩ := ofO_post q
  cases o with
  | lst xs =>
    cases e
    obtain ⟨s2, r2⟩ := r1.frozen (o := ho) hp (RepO.nice ro)
    refine .inl (q _ _ _ (s1.trans s2) r2 ?_)
    obtain ⟨vs, rfl, x⟩ := ro
    simp only [Rep]
    exact ⟨p1, vs, rfl, upd_same, s2.repL x⟩
  | dic ks xs =>
    cases e
    obtain ⟨vs, rfl, l, x⟩ := ro
    refine .inr ⟨p1, _, rfl, upd_same, trivial, fun od => ?_⟩
    obtain ⟨s2, r2⟩ := r1.frozenL (o := .dK (ks.zip vs)) (od := od) hp trivial
    refine q _ _ _ (s1.trans s2) r2 ?_
    simp only [Rep]
    exact ⟨p1, vs, rfl, ⟨od, upd_same⟩, l, s2.repL x⟩
  | ldic ks xs => cases e
  | ins c fs => cases e
  | exc c fs => cases e
  | kd ks xs => cases e
theorem pd_alc {f : CN} (h : PND X ct b W f e) : PD X ct b W (alc f) e := PE.wk h fun σ H Q h => by
  obtain ⟨w, en, M, S, rl, p⟩ := h
  refine ⟨w, en, M, S, rl, (Post.bind p).imp (fun o M1 q w1 p1 ho H1 s1 r1 hp ro => ?_) fun _ _ _ q => q⟩
  obtain ⟨s2, r2⟩ := r1.alloc hp ro
  refine q _ _ _ (s1.trans s2) r2 ?_
  simp only [Rep]
  refine ⟨p1, rfl, ?_⟩
  show (w1.ρ ++ [p1])[M1.length]? = some p1
  rw [r1.len, List.getElem?_append_right (Nat.le_refl _)]
  simp

/-! ### built-in calls -/
def CallV (X : Cx) (ct : CT) (fv : Value) (g : List D → Option D) : Prop := ∃ r, CallR X fv r ∧ ∀ w M H ds vs d Q, Rl X.K ct w M H → Vws X.K w H ds vs → g ds = some d → Ok1 X.K ct w M H d Q → r vs H Q
def OkN (K : PySem.W.Frag) (ct : CT) (w : Wd) (M : Store) (H : Hp) (o : MO) (Q : VK) : Prop := ∀ w' p ho H', Step w H w' H' → Rl K ct w' M H' → H' p = none → RepO K ct w' o ho → Q (.ref p) (upd H' p ho)
def CallN (X : Cx) (ct : CT) (fv : Value) (g : List D → Option MO) : Prop := ∃ r, CallR X fv r ∧ ∀ w M H ds vs o Q, Rl X.K ct w M H → Vws X.K w H ds vs → g ds = some o → OkN X.K ct w M H o Q → r vs H Q
theorem CallV.mk' {fv : Value} {g : List D → Option D}
    (h : ∀ (pins : List (Addr × Obj)) (s : Shared) (σ : L2.St) (H : Hp) (vs : List V) (us : List Value) (Q : VK) (w : Wd) (M : Store) (ds : List D) (d : D), Inv X pins σ H s → Vals vs us → Rl X.K ct w M H → Vws X.K w H ds vs → g ds = some d →
      Ok1 X.K ct w M H d Q → wpAny (model X.prog X.w) X.A (call fv us) (EP X pins σ Q) X.xe s) : CallV X ct fv g :=
  ⟨fun vs H Q => ∃ w M ds d, Rl X.K ct w M H ∧ Vws X.K w H ds vs ∧ g ds = some d ∧ Ok1 X.K ct w M H d Q,
    fun pins s σ H vs us Q I rx ⟨w, M, ds, d, rl, hx, e, k⟩ => h pins s σ H vs us Q w M ds d I rx rl hx e k,
    fun w M H ds vs d Q rl hx e k => ⟨w, M, ds, d, rl, hx, e, k⟩⟩
theorem CallN.mk' {fv : Value} {g : List D → Option MO}
    (h : ∀ (pins : List (Addr × Obj)) (s : Shared) (σ : L2.St) (H : Hp) (vs : List V) (us : List Value) (Q : VK) (w : Wd) (M : Store) (ds : List D) (d : MO), Inv X pins σ H s → Vals vs us → Rl X.K ct w M H → Vws X.K w H ds vs → g ds = some d →
      OkN X.K ct w M H d Q → wpAny (model X.prog X.w) X.A (call fv us) (EP X pins σ Q) X.xe s) : CallN X ct fv g :=
  ⟨fun vs H Q => ∃ w M ds d, Rl X.K ct w M H ∧ Vws X.K w H ds vs ∧ g ds = some d ∧ OkN X.K ct w M H d Q,
    fun pins s σ H vs us Q I rx ⟨w, M, ds, d, rl, hx, e, k⟩ => h pins s σ H vs us Q w M ds d I rx rl hx e k,
    fun w M H ds vs d Q rl hx e k => ⟨w, M, ds, d, rl, hx, e, k⟩⟩
theorem call_go {r : List V → Hp → VK → Prop} {g : List D → Option D} {f : CAH} (hr : ∀ w M H ds vs d Q, Rl X.K ct w M H → Vws X.K w H ds vs → g ds = some d → Ok1 X.K ct w M H d Q → r vs H Q) {σ : L2.St} {H : Hp} {Q : VK}
    (h : TD X ct b W (eCall g f) σ H Q) : tCB r (TAHD X ct b W f) σ H Q := by
  obtain ⟨w, en, M, S, rl, p⟩ := h
  refine ⟨w, en, M, S, rl, (Post.bind p).imp (fun as M1 q w1 v1 H1 s1 r1 x1 => ?_) fun _ _ _ q => q⟩
  obtain ⟨d, e, q⟩ := ofO_post q
  obtain ⟨ds, e1, e2⟩ := Option.bind_eq_some_iff.mp e
  exact hr w1 M1 H1 ds v1 d Q r1 (vws_ok (S.step s1) r1 x1 e1) e2 fun w' v H' s r' rp => q w' v H' (s1.trans s) r' rp
theorem pd_callB {x : Str} {id : String} {p : Pos} {g : List D → Option D} {f : CAH} (hc : CallV X ct (.builtin id) g) (hm : X.mg x = none) (hv : bootBuiltins x = some (.builtin id)) (ha : PAHD X ct b W f (e :: es)) (hg : Gl X x := by rfl) (hn : x ≠ "__name__" := by decide)
    (hdb : (x == ("__debug__" : Str)) = false := by decide) (he : starEach (e :: es) X.env = (false, eval e X.env) :: starEach es X.env := by rfl) (hpl : (backTo pos (starEach es X.env)).any (·.1) = false := by rfl) : PD X ct b W (eCall g f) (.Call (.Name x p) (e :: es) [] pos) := by
  obtain ⟨r, o, hr⟩ := hc
  exact PE.wk (pe_callB o hg hm hv ha hn hdb he hpl) fun _ _ _ h => call_go hr h
end
end DL

/-! DL6: the built-ins, one by one. -/
namespace DL
open PySem PySem.Spec PyProof.Rows L2

/-! ### lists of one kind -/
def intsD : List D → Option (List Int)
  | [] => some []
  | .int i :: r => (intsD r).map (i :: ·)
  | _ :: _ => none
def blsD : List D → Option (List Bool)
  | [] => some []
  | .bl i :: r => (blsD r).map (i :: ·)
  | _ :: _ => none
def strsD : List D → Option (List Str)
  | [] => some []
  | .str i :: r => (strsD r).map (i :: ·)
  | _ :: _ => none
section
variable {K : PySem.W.Frag} {w : Wd}
theorem intsD_rep : ∀ {xs : List D} {vs : List V} {ns : List Int}, RepL K w xs vs → intsD xs = some ns → vs = ns.map V.int
  | [], vs, ns, h, e => by
    rw [RepL.nil_iff] at h
    cases e
    exact h
  | x :: xs, vs, ns, h, e => by
    rw [RepL.cons_iff] at h
    obtain ⟨v, r, rfl, h1, h2⟩ := h
    cases x with
    | int i =>
      unfold intsD at e
      obtain ⟨ms, e1, e2⟩ := Option.map_eq_some_iff.mp e
      subst e2
      simp only [Rep] at h1
      rw [h1, intsD_rep h2 e1]
      rfl
    | _ => cases e
theorem blsD_rep : ∀ {xs : List D} {vs : List V} {ns : List Bool}, RepL K w xs vs → blsD xs = some ns → vs = ns.map V.bl
  | [], vs, ns, h, e => by
    rw [RepL.nil_iff] at h
    cases e
    exact h
  | x :: xs, vs, ns, h, e => by
    rw [RepL.cons_iff] at h
    obtain ⟨v, r, rfl, h1, h2⟩ := h
    cases x with
    | bl i =>
      unfold blsD at e
      obtain ⟨ms, e1, e2⟩ := Option.map_eq_some_iff.mp e
      subst e2
      simp only [Rep] at h1
      rw [h1, blsD_rep h2 e1]
      rfl
    | _ => cases e
theorem strsD_rep : ∀ {xs : List D} {vs : List V} {ns : List Str}, RepL K w xs vs → strsD xs = some ns → vs = ns.map V.str
  | [], vs, ns, h, e => by
    rw [RepL.nil_iff] at h
    cases e
    exact h
  | x :: xs, vs, ns, h, e => by
    rw [RepL.cons_iff] at h
    obtain ⟨v, r, rfl, h1, h2⟩ := h
    cases x with
    | str i =>
      unfold strsD at e
      obtain ⟨ms, e1, e2⟩ := Option.map_eq_some_iff.mp e
      subst e2
      simp only [Rep] at h1
      rw [h1, strsD_rep h2 e1]
      rfl
    | _ => cases e
theorem ints_repL : ∀ ns : List Int, RepL K w (ns.map D.int) (ns.map V.int)
  | [] => .nil
  | n :: ns => .cons (by simp only [Rep]) (ints_repL ns)
end
theorem blsD_map : ∀ ns : List Bool, blsD (ns.map D.bl) = some ns
  | [] => rfl
  | n :: ns => by simp only [List.map_cons, blsD, blsD_map ns, Option.map_some]
theorem strsD_map : ∀ ns : List Str, strsD (ns.map D.str) = some ns
  | [] => rfl
  | n :: ns => by simp only [List.map_cons, strsD, strsD_map ns, Option.map_some]

section
variable {X : Cx} {ct : CT} {b : Base} {W : WX} {e e1 e2 e3 : Expr} {pos : Pos} {es : List Expr}
theorem Vws.one {w : Wd} {H : Hp} {d : D} {vs : List V} (h : Vws X.K w H [d] vs) : ∃ v, vs = [v] ∧ Vw X.K w H d v := by
  cases h with
  | cons a c => cases c; exact ⟨_, rfl, a⟩
theorem Vws.two {w : Wd} {H : Hp} {d d' : D} {vs : List V} (h : Vws X.K w H [d, d'] vs) : ∃ v v', vs = [v, v'] ∧ Vw X.K w H d v ∧ Vw X.K w H d' v' := by
  cases h with
  | cons a c =>
    cases c with
    | cons a' c => cases c; exact ⟨_, _, rfl, a, a'⟩

/-! ### len -/
def gLen : List D → Option D
  | [.str x] => if x.length ≤ sizeLine then some (.int x.length) else none
  | [.lst xs] => some (.int xs.length)
  | [.tup xs] => some (.int xs.length)
  | [.dic ks xs] => some (.int ks.length)
  | [.scr ns] => some (.int ns.length)
  | _ => none
theorem cv_len : CallV X ct (.builtin "len") gLen := CallV.mk' fun pins s σ H vs us Q w M ds d I rx rl hx e k => by
  unfold gLen at e
  split at e
  · split at e
    · rename_i x hl
      cases e
      obtain ⟨v, rfl, h⟩ := hx.one
      cases h
      exact call_len pins s σ H _ us Q I rx ⟨_, _, rfl, ⟨hl, rfl⟩, k.now rl rfl⟩
    · cases e
  · cases e
    obtain ⟨v, rfl, a, vs, rfl, h1, h2⟩ := hx.one
    rw [h2.length] at k
    exact call_len pins s σ H _ us Q I rx ⟨_, _, rfl, .inl ⟨vs, SqL.of h1, rfl⟩, k.now rl rfl⟩
  · cases e
    obtain ⟨v, rfl, _, a, vs, rfl, h1, h2⟩ := hx.one
    rw [h2.length] at k
    exact call_len pins s σ H _ us Q I rx ⟨_, _, rfl, .inr ⟨vs, h1, rfl⟩, k.now rl rfl⟩
  · cases e
    obtain ⟨v, rfl, a, vs, rfl, h1, h2, h3⟩ := hx.one
    obtain ⟨u, rfl, ru⟩ := vals1 rx
    cases ru
    refine d_len I h1 fun t s' I' => ⟨.int _, H, I', ⟨t, rfl⟩, ?_⟩
    rw [List.length_zip, h2, h3.length, Nat.min_self, ← h3.length, ← h2]
    exact k.now rl rfl
  · cases e
    obtain ⟨v, rfl, _, a, rfl, h1⟩ := hx.one
    refine call_len pins s σ H _ us Q I rx ⟨_, _, rfl, .inl ⟨_, h1, rfl⟩, ?_⟩
    rw [List.length_map]
    exact k.now rl rfl
  · cases e

/-! ### all, any, sum, abs, min, max, int, str -/
def gAll : List D → Option D
  | [.lst xs] => (blsD xs).map fun bs => .bl (bs.all id)
  | _ => none
def gAny : List D → Option D
  | [.lst xs] => (blsD xs).map fun bs => .bl (bs.any id)
  | _ => none
def gSum : List D → Option D
  | [.lst xs] => (intsD xs).map fun ns => .int ns.sum
  | _ => none
def gAbs : List D → Option D
  | [.int i] => some (.int (if i < 0 then -i else i))
  | _ => none
def gMax2 : List D → Option D
  | [.int i, .int j] => some (.int (if j > i then j else i))
  | _ => none
def gMin2 : List D → Option D
  | [.int i, .int j] => some (.int (if j < i then j else i))
  | _ => none
def gInt : List D → Option D
  | [.int i] => some (.int i)
  | [.bl k] => some (.int (if k then 1 else 0))
  | _ => none
def gStrI : List D → Option D
  | [.int i] => if i.natAbs.log2 < 1920 then some (.str (toString i)) else none
  | _ => none
theorem cv_all (hc : X.calm = true) : CallV X ct (.builtin "all") gAll := CallV.mk' fun pins s σ H vs us Q w M ds d I rx rl hx e k => by
  unfold gAll at e
  split at e
  · obtain ⟨bs, e1, e2⟩ := Option.map_eq_some_iff.mp e
    subst e2
    obtain ⟨v, rfl, a, vs, rfl, h1, h2⟩ := hx.one
    have := blsD_rep h2 e1
    subst this
    exact cr_all hc pins s σ H _ us Q I rx ⟨a, bs, rfl, SqL.of h1, k.now rl rfl⟩
  · cases e
/-! ### tuple(..), list(..), dict(d) -/
def gTuple : List D → Option D
  | [.lst xs] => some (.tup xs)
  | [.tup xs] => some (.tup xs)
  | _ => none
def dK : Key → D
  | .inl i => .int i
  | .inr x => .str x
def gList : List D → Option MO
  | [.lst xs] => some (.lst xs)
  | [.tup xs] => some (.lst xs)
  | [.dic ks xs] => some (.lst (ks.map dK))
  | _ => none
theorem keys_rep {K : PySem.W.Frag} {w : Wd} : ∀ ks : List Key, RepL K w (ks.map dK) (ks.map kV)
  | [] => .nil
  | .inl i :: ks => .cons (by simp only [dK, kV, Rep]) (keys_rep ks)
  | .inr x :: ks => .cons (by simp only [dK, kV, Rep]) (keys_rep ks)
theorem OkN.now {w : Wd} {M : Store} {H : Hp} {o : MO} {ho : HO} {Q : VK} (k : OkN X.K ct w M H o Q) (rl : Rl X.K ct w M H) (h : RepO X.K ct w o ho) {p : Addr} (hp : H p = none) : Q (.ref p) (upd H p ho) := k w p ho H (Step.refl _ _) rl hp h
def gDict : List D → Option MO
  | [.dic ks xs] => some (.dic ks xs)
  | _ => none
end

/-! ### isinstance -/
inductive Ty where
  | int | bool | str | tuple | list | dict
def Ty.name : Ty → String
  | .int => "int" | .bool => "bool" | .str => "str" | .tuple => "tuple" | .list => "list" | .dict => "dict"
def tyN : D → Option Nat
  | .non => some 0 | .bl _ => some 1 | .int _ => some 2 | .str _ => some 3 | .tup _ => some 4 | .lst _ => some 5 | .dic _ _ => some 6
  | _ => none
def isiB : Ty → D → Option Bool
  | .int, .int _ => some true
  | .int, .bl _ => some true
  | .bool, .bl _ => some true
  | .str, .str _ => some true
  | .tuple, .tup _ => some true
  | .list, .lst _ => some true
  | .dict, .dic _ _ => some true
  | _, d => (tyN d).map fun _ => false
def nmN : Nat → String
  | 0 => "NoneType" | 1 => "bool" | 2 => "int" | 3 => "str" | 4 => "tuple" | 5 => "list" | _ => "dict"
theorem tyx_of {K : PySem.W.Frag} {ct : CT} {w : Wd} {M : Store} {H : Hp} {d : D} {v : V} {n : Nat} (rl : Rl K ct w M H) (h : Vw K w H d v) (e : tyN d = some n) : TyX K H v (.type (nmN n)) := by
  cases d with
  | non => cases e; cases h; exact .base .non
  | bl x => cases e; cases h; exact .base (.bl _)
  | int x => cases e; cases h; exact .base (.int _)
  | str x => cases e; cases h; exact .base (.str _)
  | tup xs =>
    cases e
    obtain ⟨_, a, vs, rfl, h1, h2⟩ := h
    rcases h1 with (h1 | ⟨o, h1⟩) | ⟨o, its, n, h1, c, _⟩
    · exact .base (.tup h1)
    · exact .fTuple h1
    · exact .kTuple h1 c
  | lst xs =>
    cases e
    obtain ⟨a, vs, rfl, h1, h2⟩ := h
    exact .base (.lst h1)
  | dic ks xs =>
    cases e
    obtain ⟨a, vs, rfl, h1 | ⟨o, h1⟩, h2⟩ := h
    · exact .base (.dK h1)
    · exact .fDict h1
  | ref n => cases e
  | scr n => cases e
theorem isi_kit (T : Ty) (d : D) (k : Bool) (e : isiB T d = some k) : ∃ n, tyN d = some n ∧ kitB (nmN n) T.name = some k := by
  cases T <;> cases d <;> (try (cases e; done)) <;> (refine ⟨_, rfl, ?_⟩; cases e; decide +kernel)
section
variable {X : Cx} {ct : CT} {b : Base} {W : WX} {e e1 e2 e3 : Expr} {pos : Pos} {es : List Expr}
def eIsi (T : Ty) (h : CH) : CE := fun en M => (h en M).bind fun a M1 => ofO ((vw en M1 a).bind fun d => (isiB T d).map D.bl) M1
theorem pd_isi {x : Str} {p p2 : Pos} {T : Ty} {f : CH} (hm : X.mg "isinstance" = none) (hmT : X.mg x = none) (hv : bootBuiltins x = some (.type T.name)) (ha : PHD X ct b W f e) (hg : Gl X "isinstance" := by rfl) (hgT : Gl X x := by rfl) (hn : x ≠ "__name__" := by decide)
    (hdb : (x == ("__debug__" : Str)) = false := by decide) (he : starEach (e :: [.Name x p2]) X.env = (false, eval e X.env) :: starEach [.Name x p2] X.env := by rfl) (hpl : (backTo pos (starEach [.Name x p2] X.env)).any (·.1) = false := by rfl)
    (hs2 : starEach [.Name x p2] X.env = (false, eval (.Name x p2) X.env) :: starEach [] X.env := by rfl) : PD X ct b W (eIsi T f) (.Call (.Name "isinstance" p) [e, .Name x p2] [] pos) := by
  have hT : PE X (.Name x p2) (tC (.ty T.name)) := pe_bltn hgT hmT hv rfl hn hdb
  refine PE.wk (pe_callB call_isi hg hm (by decide +kernel) (pa_cons ha (pa_cons hT pa_nil hs2) he) (by decide) (by decide) he hpl) fun σ H Q h => ?_
  obtain ⟨w, en, M, S, rl, p⟩ := h
  refine ⟨w, en, M, S, rl, (Post.bind p).imp (fun a M1 q w1 v1 H1 s1 r1 x1 => ?_) fun _ _ _ q => q⟩
  obtain ⟨d, e, q⟩ := ofO_post q
  obtain ⟨y, ey, e⟩ := Option.bind_eq_some_iff.mp e
  obtain ⟨k, ek, e⟩ := Option.map_eq_some_iff.mp e
  subst e
  obtain ⟨n, e3, e4⟩ := isi_kit T y k ek
  exact ⟨v1, .ty T.name, _, _, k, rfl, .ty _, tyx_of r1 (vw_ok (S.step s1) r1 x1 ey) e3, kit_ty e4, q w1 _ H1 s1 r1 (by simp only [Rep])⟩
def eIsi2 (T U : Ty) (h : CH) : CE := fun en M => (h en M).bind fun a M1 => ofO ((vw en M1 a).bind fun d => (isiB T d).bind fun k => (isiB U d).map fun l => D.bl (k || l)) M1
end
end DL

/-! DL7: statements, defs, calls. -/
namespace DL
open PySem PySem.Spec PyProof.Rows L2

/-- a later world -/
structure Wle (w w' : Wd) : Prop where
  ρ : w.ρ <+: w'.ρ
  F : Same w.F w'.F
theorem Step.le {w w' : Wd} {H H' : Hp} (s : Step w H w' H') : Wle w w' := ⟨s.ρ, s.F⟩
theorem Wle.trans {w w1 w2 : Wd} (a : Wle w w1) (c : Wle w1 w2) : Wle w w2 := ⟨a.ρ.trans c.ρ, a.F.trans c.F⟩
theorem Wle.refl (w : Wd) : Wle w w := ⟨List.prefix_refl _, Same.refl _⟩
theorem Wle.rep {K : PySem.W.Frag} {w w' : Wd} (a : Wle w w') {d : D} {v : V} (h : Rep K w d v) : Rep K w' d v := Rep.mono a.ρ a.F _ _ h
theorem Wle.repL {K : PySem.W.Frag} {w w' : Wd} (a : Wle w w') {d : List D} {v : List V} (h : RepL K w d v) : RepL K w' d v := RepL.mono a.ρ a.F _ _ h
inductive Fl where
  | next (en : En) | ret (d : D) | brk (en : En) | cont (en : En) | exc (c : Str) (fs : List (Str × D)) (en : En)
abbrev CS := En → Store → Out Fl
section
variable (X : Cx) (ct : CT) (b : Base) (W : WX)
/-- what a statement's end is to bring -/
def FlP (w : Wd) (D : Ends) (r : Fl) (M' : Store) : Prop := match r with
  | .next en' => ∀ w' σ' H', Step b.w b.H w' H' → Wle w w' → Sl X.K ct b w' en' σ' H' → Rl X.K ct w' M' H' → D.nx σ' H'
  | .brk en' => ∀ w' σ' H', Step b.w b.H w' H' → Wle w w' → Sl X.K ct b w' en' σ' H' → Rl X.K ct w' M' H' → D.bk σ' H'
  | .cont en' => ∀ w' σ' H', Step b.w b.H w' H' → Wle w w' → Sl X.K ct b w' en' σ' H' → Rl X.K ct w' M' H' → D.ct σ' H'
  | .ret d => ∀ w' v H', Step b.w b.H w' H' → Wle w w' → Rl X.K ct w' M' H' → Rep X.K w' d v → D.rt v H'
  | .exc c fs en' => ∀ w' cls dx σ' H', Step b.w b.H w' H' → Wle w w' → Sl X.K ct b w' en' σ' H' → Rl X.K ct w' M' H' → ExV X.K ct w' c fs cls dx H' → W cls dx σ' H'
def PostS (w : Wd) (o : Out Fl) (D : Ends) : Prop := match o with
  | .ok r M' => FlP X ct b W w D r M'
  | _ => False
def TSD (f : CS) : L2.TS := fun D σ H => ∃ w en M, Step b.w b.H w H ∧ Sl X.K ct b w en σ H ∧ Rl X.K ct w M H ∧ PostS X ct b W w (f en M) D
abbrev PSD (f : CS) (st : Stmt) : Prop := L2.PS X st (TSD X ct b W f)
abbrev PSsD (f : CS) (st : List Stmt) : Prop := L2.PSs X st (TSD X ct b W f)
end
def seqS (f g : CS) : CS := fun en M => match f en M with
  | .ok (.next en') M' => g en' M'
  | r => r
def nilS : CS := fun en M => .ok (.next en) M
/-- an expression's answer, then the rest of the statement -/
def thenS (o : Out D) (en : En) (k : D → Store → Out Fl) : Out Fl := match o with
  | .ok d M => k d M
  | .exc c fs M => .ok (.exc c fs en) M
  | .err => .err
def thenB (o : Out Bool) (en : En) (k : Bool → Store → Out Fl) : Out Fl := match o with
  | .ok d M => k d M
  | .exc c fs M => .ok (.exc c fs en) M
  | .err => .err
def thenN (o : Out MO) (en : En) (k : MO → Store → Out Fl) : Out Fl := match o with
  | .ok d M => k d M
  | .exc c fs M => .ok (.exc c fs en) M
  | .err => .err
def thenA (o : Out (List D)) (en : En) (k : List D → Store → Out Fl) : Out Fl := match o with
  | .ok d M => k d M
  | .exc c fs M => .ok (.exc c fs en) M
  | .err => .err
@[simp] theorem thenS_ok (d : D) (M : Store) (en : En) (k : D → Store → Out Fl) : thenS (.ok d M) en k = k d M := rfl
@[simp] theorem thenB_ok (d : Bool) (M : Store) (en : En) (k : Bool → Store → Out Fl) : thenB (.ok d M) en k = k d M := rfl
@[simp] theorem thenN_ok (d : MO) (M : Store) (en : En) (k : MO → Store → Out Fl) : thenN (.ok d M) en k = k d M := rfl
@[simp] theorem thenA_ok (d : List D) (M : Store) (en : En) (k : List D → Store → Out Fl) : thenA (.ok d M) en k = k d M := rfl
@[simp] theorem thenS_exc (c : Str) (fs : List (Str × D)) (M : Store) (en : En) (k : D → Store → Out Fl) : thenS (.exc c fs M) en k = .ok (.exc c fs en) M := rfl
@[simp] theorem thenB_exc (c : Str) (fs : List (Str × D)) (M : Store) (en : En) (k : Bool → Store → Out Fl) : thenB (.exc c fs M) en k = .ok (.exc c fs en) M := rfl
def asgS (i : Nat) (f : CE) : CS := fun en M => thenS (f en M) en fun d M' => .ok (.next (en.set i (some (.val d)))) M'
/-- name = a new list or dict that the frame goes on changing -/
def ownS (i : Nat) (f : CN) : CS := fun en M => thenN (f en M) en fun o M' => .ok (.next (en.set i (some (.own o)))) M'
def retS (f : CE) : CS := fun en M => thenS (f en M) en fun d M' => .ok (.ret d) M'
def retNS : CS := fun _ M => .ok (.ret .non) M
def dropS (f : CE) : CS := fun en M => thenS (f en M) en fun _ M' => .ok (.next en) M'
def ifS (c : CB) (f g : CS) : CS := fun en M => thenB (c en M) en fun k M' => if k = true then f en M' else g en M'
def brkS : CS := fun en M => .ok (.brk en) M
def contS : CS := fun en M => .ok (.cont en) M
/-- a ghost: the frame's own thing in slot i stands for ever from here on -/
def frzS (i : Nat) (g : CS) : CS := fun en M => match en[i]? with
  | some (some (.own o)) => match frzO o with
    | some d => g (en.set i (some (.val d))) M
    | none => .err
  | _ => g en M
def parS (i j : Nat) (f : CA) : CS := fun en M => thenA (f en M) en fun ds M' => match ds with
  | [x, y] => .ok (.next ((en.set i (some (.val x))).set j (some (.val y)))) M'
  | _ => .err

section
variable {K : PySem.W.Frag} {ct : CT} {b : Base} {w : Wd} {en : En} {σ : L2.St} {H : Hp}
theorem Sl.setv (S : Sl K ct b w en σ H) (i : Nat) {d : D} {v : V} (h : Rep K w d v) : Sl K ct b w (en.set i (some (.val d))) (σ.set i (some v)) H := by
  refine ⟨by rw [List.length_set, List.length_set]; exact S.len, fun j d' e => ?_, fun j o e => ?_, fun j k o o' hjk e1 e2 => ?_⟩
  · by_cases hj : i = j
    · subst hj
      have hl : i < en.length := by
        have := (List.getElem?_eq_some_iff.mp e).1
        rwa [List.length_set] at this
      rw [List.getElem?_set_self hl] at e
      cases e
      exact ⟨v, by rw [List.getElem?_set_self (by rw [← S.len]; exact hl)], h⟩
    · rw [List.getElem?_set_ne hj] at e
      obtain ⟨u, h1, h2⟩ := S.val j d' e
      exact ⟨u, by rw [List.getElem?_set_ne hj]; exact h1, h2⟩
  · by_cases hj : i = j
    · subst hj
      have hl : i < en.length := by
        have := (List.getElem?_eq_some_iff.mp e).1
        rwa [List.length_set] at this
      rw [List.getElem?_set_self hl] at e
      cases e
    · rw [List.getElem?_set_ne hj] at e
      obtain ⟨a, ho, h1, h2⟩ := S.own j o e
      exact ⟨a, ho, by rw [List.getElem?_set_ne hj]; exact h1, h2⟩
  · have no : ∀ (j : Nat) (o : MO), (en.set i (some (.val d)))[j]? = some (some (.own o)) → i ≠ j := fun j o e z => by
      subst z
      have hl : i < en.length := by
        have := (List.getElem?_eq_some_iff.mp e).1
        rwa [List.length_set] at this
      rw [List.getElem?_set_self hl] at e
      cases e
    have n1 := no j o e1
    have n2 := no k o' e2
    rw [List.getElem?_set_ne n1] at e1
    rw [List.getElem?_set_ne n2] at e2
    rw [List.getElem?_set_ne n1, List.getElem?_set_ne n2]
    exact S.sep j k o o' hjk e1 e2
theorem Step.fresh {w' : Wd} {H' : Hp} {M' : Store} (s : Step w H w' H') (r : Rl K ct w' M' H') {p : Addr} (hp : H' p = none) (sub : Sub w.F H) (rr : ∀ a ∈ w.ρ, H a ≠ none) : Fr0 H p := fun o e => by
  by_cases hF : w.F p = none
  · by_cases hρ : p ∈ w.ρ
    · exact absurd (s.ρ.mem hρ) (r.notin hp)
    · by_cases ht : ∀ ps, o ≠ .tbl ps
      · rw [(s.fr p o e ht hF hρ).1] at hp
        cases hp
      · rw [Classical.not_forall] at ht
        obtain ⟨ps, ht⟩ := ht
        exact ⟨ps, Classical.not_not.mp ht⟩
  · cases q : w.F p with
    | none => exact absurd q hF
    | some u =>
      have := r.sub.free hp
      rw [s.F _ _ q] at this
      cases this
end

section
variable {X : Cx} {ct : CT} {b : Base} {W : WX} {e e1 e2 e3 : Expr} {pos : Pos} {es : List Expr} {st : Stmt} {sts : List Stmt} {f g : CS}
/-- the base itself is sound: it was so at the entry -/
structure Base.Ok (K : PySem.W.Frag) (b : Base) : Prop where
  sub : Sub b.w.F b.H
  there : ∀ a ∈ b.w.ρ, b.H a ≠ none
theorem PostS.wle {w w1 : Wd} {o : Out Fl} {D : Ends} (h : PostS X ct b W w o D) (l : Wle w w1) : PostS X ct b W w1 o D := by
  cases o with
  | ok r M' =>
    cases r with
    | next en' => exact fun w' σ' H' s l' S r => h w' σ' H' s (l.trans l') S r
    | ret d => exact fun w' v H' s l' r x => h w' v H' s (l.trans l') r x
    | brk en' => exact fun w' σ' H' s l' S r => h w' σ' H' s (l.trans l') S r
    | cont en' => exact fun w' σ' H' s l' S r => h w' σ' H' s (l.trans l') S r
    | exc c fs en' => exact fun w' cls dx σ' H' s l' S r x => h w' cls dx σ' H' s (l.trans l') S r x
  | exc c fs M => exact h
  | err => exact h
theorem PostS.seq {w : Wd} {o : Out Fl} {g : CS} {D : Ends} (h : PostS X ct b W w (match o with
    | .ok (.next en') M' => g en' M'
    | r => r) D) : PostS X ct b W w o { D with nx := TSD X ct b W g D } := by
  cases o with
  | ok r M' =>
    cases r with
    | next en' => exact fun w' σ' H' s l S r => ⟨w', en', M', s, S, r, PostS.wle h l⟩
    | ret d => exact h
    | brk en' => exact h
    | cont en' => exact h
    | exc c fs en' => exact h
  | exc c fs M => exact h
  | err => exact h
theorem psd_nil : PSsD X ct b W nilS [] := PSs.wk pss_nil fun D σ H h => by
  obtain ⟨w, en, M, s, S, r, p⟩ := h
  exact p w σ H s (.refl w) S r
theorem psd_cons (h1 : PSD X ct b W f st) (h2 : PSsD X ct b W g sts) : PSsD X ct b W (seqS f g) (st :: sts) := PSs.wk (pss_cons h1 h2) fun D σ H h => by
  obtain ⟨w, en, M, s, S, r, p⟩ := h
  exact ⟨w, en, M, s, S, r, PostS.seq (g := g) p⟩
theorem psd_one (h1 : PSD X ct b W f st) : PSsD X ct b W f [st] := PSs.wk (pss_one h1) fun D σ H h => h
theorem ThenS.go {te : CE} {k : D → Store → Out Fl} {D : Ends} {σ : L2.St} {H : Hp} {w : Wd} {en : En} {M : Store} {Q : VK} (s : Step b.w b.H w H) (S : Sl X.K ct b w en σ H) (r : Rl X.K ct w M H) (p : PostS X ct b W w (thenS (te en M) en k) D)
    (hk : ∀ d M' w' v H', PostS X ct b W w' (k d M') D → Step b.w b.H w' H' → Sl X.K ct b w' en σ H' → Rl X.K ct w' M' H' → Rep X.K w' d v → Q v H') : TD X ct b W te σ H Q := by
  refine ⟨w, en, M, S, r, ?_⟩
  cases q : te en M with
  | ok d M' =>
    rw [q] at p
    exact fun w' v H' s' r' x => hk d M' w' v H' (PostS.wle p s'.le) (s.trans s') (S.step s') r' x
  | exc c fs M' =>
    rw [q] at p
    exact fun w' cls dx H' s' S' r' x => p w' cls dx σ H' (s.trans s') s'.le S' r' x
  | err =>
    rw [q] at p
    exact p.elim
theorem ThenB.go {te : CB} {k : Bool → Store → Out Fl} {D : Ends} {σ : L2.St} {H : Hp} {w : Wd} {en : En} {M : Store} {Q : Bool → Hp → Prop} (s : Step b.w b.H w H) (S : Sl X.K ct b w en σ H) (r : Rl X.K ct w M H) (p : PostS X ct b W w (thenB (te en M) en k) D)
    (hk : ∀ d M' w' H', PostS X ct b W w' (k d M') D → Step b.w b.H w' H' → Sl X.K ct b w' en σ H' → Rl X.K ct w' M' H' → Q d H') : TTD X ct b W te σ H Q := by
  refine ⟨w, en, M, S, r, ?_⟩
  cases q : te en M with
  | ok d M' =>
    rw [q] at p
    exact fun w' H' s' r' => hk d M' w' H' (PostS.wle p s'.le) (s.trans s') (S.step s') r'
  | exc c fs M' =>
    rw [q] at p
    exact fun w' cls dx H' s' S' r' x => p w' cls dx σ H' (s.trans s') s'.le S' r' x
  | err =>
    rw [q] at p
    exact p.elim
theorem ThenA.go {te : CA} {k : List D → Store → Out Fl} {D : Ends} {σ : L2.St} {H : Hp} {w : Wd} {en : En} {M : Store} {Q : List V → Hp → Prop} (s : Step b.w b.H w H) (S : Sl X.K ct b w en σ H) (r : Rl X.K ct w M H) (p : PostS X ct b W w (thenA (te en M) en k) D)
    (hk : ∀ d M' w' v H', PostS X ct b W w' (k d M') D → Step b.w b.H w' H' → Sl X.K ct b w' en σ H' → Rl X.K ct w' M' H' → RepL X.K w' d v → Q v H') : TAD X ct b W te σ H Q := by
  refine ⟨w, en, M, S, r, ?_⟩
  cases q : te en M with
  | ok d M' =>
    rw [q] at p
    exact fun w' v H' s' r' x => hk d M' w' v H' (PostS.wle p s'.le) (s.trans s') (S.step s') r' x
  | exc c fs M' =>
    rw [q] at p
    exact fun w' cls dx H' s' S' r' x => p w' cls dx σ H' (s.trans s') s'.le S' r' x
  | err =>
    rw [q] at p
    exact p.elim
theorem ThenN.go {te : CN} {k : MO → Store → Out Fl} {D : Ends} {σ : L2.St} {H : Hp} {w : Wd} {en : En} {M : Store} {Q : VK} (s : Step b.w b.H w H) (S : Sl X.K ct b w en σ H) (r : Rl X.K ct w M H) (p : PostS X ct b W w (thenN (te en M) en k) D)
    (hk : ∀ o M' w' p ho H', PostS X ct b W w' (k o M') D → Step b.w b.H w' H' → Sl X.K ct b w' en σ H' → Rl X.K ct w' M' H' → H' p = none → RepO X.K ct w' o ho → Q (.ref p) (upd H' p ho)) : TND X ct b W te σ H Q := by
  refine ⟨w, en, M, S, r, ?_⟩
  cases q : te en M with
  | ok d M' =>
    rw [q] at p
    exact fun w' p' ho H' s' r' hp x => hk d M' w' p' ho H' (PostS.wle p s'.le) (s.trans s') (S.step s') r' hp x
  | exc c fs M' =>
    rw [q] at p
    exact fun w' cls dx H' s' S' r' x => p w' cls dx σ H' (s.trans s') s'.le S' r' x
  | err =>
    rw [q] at p
    exact p.elim
theorem psd_asg {i : Nat} {x : Str} {pos' : Pos} {te : CE} (hN : X.N.Nodup) (he : PD X ct b W te e) (hi : X.N[i]? = some x := by rfl) (hx : Loc X.env.scope x := by first | exact Or.inl rfl | exact Or.inr rfl)
    (hs : swapsWith e (some (.Name x pos')) pos.line X.env = pure false := by rfl) (hf : X.fn x = true ∨ X.env.scope.names.lookup x = some .local := by first | exact .inl rfl | exact .inr rfl) : PSD X ct b W (asgS i te) (.Assign [.Name x pos'] e pos) :=
  PS.wk (ps_set (i := i) hN hi hx he hs hf) fun D σ H h => by
    obtain ⟨w, en, M, s, S, r, p⟩ := h
    exact ThenS.go (Q := fun x H1 => gName i x σ H1 D.nx) s S r p fun d M' w' v H' q s' S' r' x => q w' _ H' s' (.refl _) (S'.setv i x) r'
theorem psd_ret {te : CE} (he : PD X ct b W te e) : PSD X ct b W (retS te) (.Return (some e) pos) := PS.wk (ps_ret he) fun D σ H h => by
  obtain ⟨w, en, M, s, S, r, p⟩ := h
  exact ThenS.go (Q := D.rt) s S r p fun d M' w' v H' q s' S' r' x => q w' v H' s' (.refl _) r' x
theorem psd_if {c : CB} {a1 a2 : List Stmt} (hc : PTD X ct b W c e) (h1 : PSsD X ct b W f a1) (h2 : PSsD X ct b W g a2) : PSD X ct b W (ifS c f g) (.If e a1 a2 pos) := PS.wk (ps_if hc h1 h2) fun D σ H h => by
  obtain ⟨w, en, M, s, S, r, p⟩ := h
  refine ThenB.go (Q := fun k H1 => if k = true then TSD X ct b W f D σ H1 else TSD X ct b W g D σ H1) s S r p fun k M' w' H' q s' S' r' => ?_
  cases k with
  | true =>
    rw [if_pos rfl] at q ⊢
    exact ⟨w', en, M', s', S', r', q⟩
  | false =>
    rw [if_neg Bool.false_ne_true] at q ⊢
    exact ⟨w', en, M', s', S', r', q⟩
/-- what stands at the start may be locked -/
def tLkS (t : L2.TS) : L2.TS := fun D σ H => t D σ H ∨ ∃ d u, H d = some u ∧ Mut (some u) ∧ ∀ od, t D σ (upd H d (.frz od u))
end
end DL

/-! DL8: defs and their calls; while; for; comprehensions. -/
namespace DL
open PySem PySem.Spec PyProof.Rows L2

abbrev CF := List D → Store → Out D
def SpD (K : PySem.W.Frag) (ct : CT) (f : CF) : Sp := fun vs H Q E => ∃ w M ds, RepL K w ds vs ∧ Rl K ct w M H ∧ Post (f ds M)
  (fun d M' => ∀ w' v H', Step w H w' H' → Rl K ct w' M' H' → Rep K w' d v → Q v H')
  (fun c fs M' => ∀ w' cls dx H', Step w H w' H' → Rl K ct w' M' H' → ExV K ct w' c fs cls dx H' → E cls dx H')
/-- a def of n parameters and N names, by its body -/
def mkF (n N : Nat) (body : CS) : CF := fun ds M => if ds.length = n then match body (ds.map (fun d => some (.val d)) ++ List.replicate (N - n) none) M with
    | .ok (.ret d) M' => .ok d M'
    | .ok (.next _) M' => .ok .non M'
    | .ok (.exc c fs _) M' => .exc c fs M'
    | _ => .err
  else .err
/-- what holds all through a def's body -/
structure Cz (X : Cx) (ct : CT) (b : Base) (W : WX) (k : Nat) : Prop where
  tk : Takes X W
  hp : PassesOwn (model X.prog X.w) X.A X.env X.xe
  hc : X.calm = true
  hN : X.N.Nodup
  hb : b.Ok X.K
  hr : Room k X.A
theorem Cz.hu {X : Cx} {ct : CT} {b : Base} {W : WX} {k : Nat} (C : Cz X ct b W k) : X.A.units + 64 < cLine := C.hr.units
section
variable {P : Program} {w : World} {K : PySem.W.Frag} {mg : Str → Option Value} {base : Heap} {ct : CT}
theorem start_sl {b : Base} {wd : Wd} {H : Hp} : ∀ {ds : List D} {vs : List V} {N : Nat}, RepL K wd ds vs → ds.length ≤ N →
    Sl K ct b wd (ds.map (fun d => some (Slot.val d)) ++ List.replicate (N - ds.length) none) (vs.map some ++ List.replicate (N - vs.length) none) H := fun {ds vs N} h hn => by
  have hl := h.length
  have ow : ∀ (i : Nat) (o : MO), (ds.map (fun d => some (Slot.val d)) ++ List.replicate (N - ds.length) none)[i]? ≠ some (some (.own o)) := fun i o e => by
    by_cases hi : i < ds.length
    · rw [List.getElem?_append_left (by simpa using hi), List.getElem?_map] at e
      rw [List.getElem?_eq_getElem hi] at e
      cases e
    · rw [List.getElem?_append_right (by simpa using hi), List.getElem?_replicate] at e
      split at e <;> cases e
  refine ⟨by simp [hl], fun i d e => ?_, fun i o e => absurd e (ow i o), fun i j o o' _ e => absurd e (ow i o)⟩
  by_cases hi : i < ds.length
  · rw [List.getElem?_append_left (by simpa using hi), List.getElem?_map, List.getElem?_eq_getElem hi] at e
    have e' : ds[i] = d := by simpa using e
    obtain ⟨v, h1, h2⟩ := h.get (List.getElem?_eq_getElem hi)
    rw [e'] at h2
    refine ⟨v, ?_, h2⟩
    rw [List.getElem?_append_left (by simp; omega), List.getElem?_map, h1]
    rfl
  · rw [List.getElem?_append_right (by simpa using hi), List.getElem?_replicate] at e
    split at e <;> cases e
/-- a def that may be called by its name -/
structure Callee (P : Program) (w : World) (K : PySem.W.Frag) (mg : Str → Option Value) (base : Heap) (ct : CT) (x : Str) (k : Nat) (cf : CF) : Prop where
  ex : ∃ (f : Addr) (fd : FuncData) (ps : List Str), FnOk P w K mg base (L2.CX P w) k f fd ps (SpD K ct cf) ∧ mg x = some (.ref f) ∧ PySem.W.keepIn K (.ref f) = true ∧ Binds K fd ps []
end
def eFn (cf : CF) (args : CA) : CE := fun en M => (args en M).bind fun ds M1 => cf ds M1
section
variable {X : Cx} {ct : CT} {b : Base} {W : WX} {e e1 e2 e3 : Expr} {pos : Pos} {es : List Expr} {st : Stmt} {sts : List Stmt} {f g : CS}
/-! ### while -/
def goOn (o : Out Fl) (k : En → Store → Out Fl) : Out Fl := match o with
  | .ok (.next en2) M2 => k en2 M2
  | .ok (.cont en2) M2 => k en2 M2
  | .ok (.brk en2) M2 => .ok (.next en2) M2
  | o => o
@[simp] theorem goOn_next (en : En) (M : Store) (k : En → Store → Out Fl) : goOn (.ok (.next en) M) k = k en M := rfl
@[simp] theorem goOn_cont (en : En) (M : Store) (k : En → Store → Out Fl) : goOn (.ok (.cont en) M) k = k en M := rfl
@[simp] theorem goOn_brk (en : En) (M : Store) (k : En → Store → Out Fl) : goOn (.ok (.brk en) M) k = .ok (.next en) M := rfl
@[simp] theorem goOn_ret (d : D) (M : Store) (k : En → Store → Out Fl) : goOn (.ok (.ret d) M) k = .ok (.ret d) M := rfl
@[simp] theorem goOn_exc (c : Str) (fs : List (Str × D)) (en : En) (M : Store) (k : En → Store → Out Fl) : goOn (.ok (.exc c fs en) M) k = .ok (.exc c fs en) M := rfl
def loopW (c : CB) (body : CS) : Nat → CS
  | 0 => fun _ _ => .err
  | n + 1 => fun en M => thenB (c en M) en fun k M1 => if k = true then goOn (body en M1) (loopW c body n) else .ok (.next en) M1
open Classical in
noncomputable def whileS0 (c : CB) (body : CS) : CS := fun en M => if h : ∃ n, loopW c body n en M ≠ .err then loopW c body h.choose en M else .err
theorem PostS.goOn {w : Wd} {o : Out Fl} {k : En → Store → Out Fl} {D : Ends} {N : L2.St → Hp → Prop} (h : PostS X ct b W w (goOn o k) D)
    (hN : ∀ en2 M2 w', PostS X ct b W w' (k en2 M2) D → ∀ σ' H', Step b.w b.H w' H' → Wle w w' → Sl X.K ct b w' en2 σ' H' → Rl X.K ct w' M2 H' → N σ' H') : PostS X ct b W w o { D with nx := N, ct := N, bk := D.nx } := by
  cases o with
  | ok r M' =>
    cases r with
    | next en2 => exact fun w' σ' H' s l S r => hN en2 M' w' (PostS.wle h l) σ' H' s l S r
    | cont en2 => exact fun w' σ' H' s l S r => hN en2 M' w' (PostS.wle h l) σ' H' s l S r
    | brk en2 => exact h
    | ret d => exact h
    | exc c fs en => exact h
  | exc c fs M => exact h
  | err => exact h
end
/-- as whileS0, but the first 300 turns by counting (so a kernel may run it) -/
noncomputable def whileS (c : CB) (body : CS) : CS := fun en M => match loopW c body 300 en M with
  | .err => whileS0 c body en M
  | r => r
section
variable {X : Cx} {ct : CT} {b : Base} {W : WX} {e : Expr} {pos : Pos}
end
end DL

/-! DL9: targets; what is walked; for; comprehensions. -/
namespace DL
open PySem PySem.Spec PyProof.Rows L2

inductive Tg where
  | name (i : Nat) | tup (ts : List Tg)
mutual
def Tg.put : Tg → D → En → Option En
  | .name i, x, en => some (en.set i (some (.val x)))
  | .tup ts, x, en => match x with
    | .tup xs => Tg.puts ts xs en
    | _ => none
def Tg.puts : List Tg → List D → En → Option En
  | [], [], en => some en
  | t :: ts, x :: xs, en => (t.put x en).bind fun en' => Tg.puts ts xs en'
  | [], _ :: _, _ => none
  | _ :: _, [], _ => none
end
mutual
def Tg.ixs : Tg → List Nat
  | .name i => [i]
  | .tup ts => Tg.ixss ts
def Tg.ixss : List Tg → List Nat
  | [] => []
  | t :: ts => t.ixs ++ Tg.ixss ts
end
/-- only the slots at l may differ -/
def But (l : List Nat) (σ σ' : L2.St) : Prop := σ'.length = σ.length ∧ ∀ j, j ∉ l → σ'[j]? = σ[j]?
/-- how an item is had: for ever (strong), or, a new tuple, for this moment alone (weak) -/
abbrev RR := PySem.W.Frag → Wd → Hp → D → V → Prop
def RS : RR := fun K w _ d v => Rep K w d v
def RW : RR := fun K w H d v => ∃ ds T vs, d = .tup ds ∧ v = .ref T ∧ SqT K H T vs ∧ RepL K w ds vs
section
variable (X : Cx) (ct : CT) (b : Base)
def TGD (R : RR) (t : Tg) : TG := fun v σ H Q => ∃ w en M d en', Sl X.K ct b w en σ H ∧ Rl X.K ct w M H ∧ R X.K w H d v ∧ t.put d en = some en' ∧ ∀ σ', Sl X.K ct b w en' σ' H → But t.ixs σ σ' → Q σ' H
def TGsD (t : List Tg) : TGs := fun v σ H Q => ∃ w en M d en', Sl X.K ct b w en σ H ∧ Rl X.K ct w M H ∧ RepL X.K w d v ∧ Tg.puts t d en = some en' ∧ ∀ σ', Sl X.K ct b w en' σ' H → But (Tg.ixss t) σ σ' → Q σ' H
abbrev PGD (t : Tg) (e : Expr) : Prop := PG X e (TGD X ct b RS t)
abbrev PGW (t : Tg) (e : Expr) : Prop := PG X e (TGD X ct b RW t)
abbrev PGsD (t : List Tg) (es : List Expr) : Prop := PGs X es (TGsD X ct b t)
end
theorem PG.wk {X : Cx} {e : Expr} {t t' : TG} (h : PG X e t) (m : ∀ v σ H Q, t' v σ H Q → t v σ H Q) : PG X e t' := ⟨fun pins s σ H v u Q I r q => h.run pins s σ H v u Q I r (m v σ H Q q)⟩
theorem PGs.wk {X : Cx} {e : List Expr} {t t' : TGs} (h : PGs X e t) (m : ∀ v σ H Q, t' v σ H Q → t v σ H Q) : PGs X e t' := ⟨fun pins s σ H v u Q I r q => h.run pins s σ H v u Q I r (m v σ H Q q)⟩
section
variable {X : Cx} {ct : CT} {b : Base} {W : WX} {e e1 e2 e3 : Expr} {pos : Pos} {es : List Expr}
theorem pgd_name {i : Nat} {x : Str} (hN : X.N.Nodup) (hi : X.N[i]? = some x := by rfl) (hx : Loc X.env.scope x := by first | exact Or.inl rfl | exact Or.inr rfl) (hf : X.fn x = true ∨ X.env.scope.names.lookup x = some .local := by first | exact .inl rfl | exact .inr rfl) :
    PGD X ct b (.name i) (.Name x pos) := PG.wk (pg_name (i := i) hN hi hx hf) fun v σ H Q h => by
  obtain ⟨w, en, M, d, en', S, rl, r, e, k⟩ := h
  simp only [Tg.put, Option.some.injEq] at e
  subst e
  refine k _ (S.setv i r) ⟨List.length_set, fun j hj => ?_⟩
  simp only [Tg.ixs, List.mem_singleton] at hj
  exact List.getElem?_set_ne (Ne.symm hj)
theorem pgsd_nil : PGsD X ct b [] [] := PGs.wk pgs_nil fun v σ H Q h => by
  obtain ⟨w, en, M, d, en', S, rl, r, e, k⟩ := h
  cases d with
  | nil =>
    rw [RepL.nil_iff] at r
    simp only [Tg.puts, Option.some.injEq] at e
    subst e
    exact ⟨r, k _ S ⟨rfl, fun _ _ => rfl⟩⟩
  | cons _ _ => simp only [Tg.puts] at e; cases e
theorem pgsd_cons {t : Tg} {ts : List Tg} (h1 : PGD X ct b t e) (h2 : PGsD X ct b ts es) (hs : (assignEach (e :: es) X.env).map (·.2) = assign e X.env :: (assignEach es X.env).map (·.2) := by rfl) : PGsD X ct b (t :: ts) (e :: es) := PGs.wk (pgs_cons h1 h2 hs) fun v σ H Q h => by
  obtain ⟨w, en, M, d, en', S, rl, r, e, k⟩ := h
  cases d with
  | nil => simp only [Tg.puts] at e; cases e
  | cons d ds =>
    rw [RepL.cons_iff] at r
    obtain ⟨v1, r1, rfl, x1, x2⟩ := r
    simp only [Tg.puts] at e
    obtain ⟨en1, e1, e⟩ := Option.bind_eq_some_iff.mp e
    refine ⟨v1, r1, rfl, w, en, M, d, en1, S, rl, x1, e1, fun σ1 S1 b1 => ?_⟩
    refine ⟨w, en1, M, ds, en', S1, rl, x2, e, fun σ2 S2 b2 => k σ2 S2 ⟨b2.1.trans b1.1, fun j hj => ?_⟩⟩
    simp only [Tg.ixss, List.mem_append, not_or] at hj
    exact (b2.2 j hj.2).trans (b1.2 j hj.1)
theorem puts_len : ∀ (ts : List Tg) (ds : List D) (en en' : En), Tg.puts ts ds en = some en' → ts.length = ds.length
  | [], [], _, _, _ => rfl
  | [], _ :: _, _, _, e => by simp only [Tg.puts] at e; cases e
  | _ :: _, [], _, _, e => by simp only [Tg.puts] at e; cases e
  | t :: ts, d :: ds, en, en', e => by
    simp only [Tg.puts] at e
    obtain ⟨en1, e1, e⟩ := Option.bind_eq_some_iff.mp e
    rw [List.length_cons, List.length_cons, puts_len ts ds en1 en' e]
theorem pgd_tup {ts : List Tg} {k : Nat} (hc : X.calm = true) (h : PGsD X ct b ts es) (hn : (assignEach es X.env).length = ts.length := by rfl) (hst : (assignEach es X.env).findIdx? (·.1) = none := by rfl) : PGD X ct b (.tup ts) (.Tuple es k pos) :=
  PG.wk (pg_tup (n := ts.length) hc h hn hst) fun v σ H Q hh => by
    obtain ⟨w, en, M, d, en', S, rl, r, e, k⟩ := hh
    have r : Rep X.K w d v := r
    cases d with
    | tup ds =>
      simp only [Rep] at r
      obtain ⟨a, vs, rfl, h1, h2⟩ := r
      simp only [Tg.put] at e
      refine ⟨a, vs, rfl, rl.sub.sqt h1, ?_, w, en, M, ds, en', S, rl, h2, e, fun σ' S' b' => k σ' S' b'⟩
      rw [← h2.length]
      exact (puts_len ts ds en en' e).symm
    | _ => simp only [Tg.put] at e; cases e

theorem pgw_tup {ts : List Tg} {k : Nat} (hc : X.calm = true) (h : PGsD X ct b ts es) (hn : (assignEach es X.env).length = ts.length := by rfl) (hst : (assignEach es X.env).findIdx? (·.1) = none := by rfl) : PGW X ct b (.tup ts) (.Tuple es k pos) :=
  PG.wk (pg_tup (n := ts.length) hc h hn hst) fun v σ H Q hh => by
    obtain ⟨w, en, M, d, en', S, rl, r, e, k⟩ := hh
    obtain ⟨ds, T, vs, rfl, rfl, h1, h2⟩ := r
    simp only [Tg.put] at e
    refine ⟨T, vs, rfl, h1, ?_, w, en, M, ds, en', S, rl, h2, e, fun σ' S' b' => k σ' S' b'⟩
    rw [← h2.length]
    exact (puts_len ts ds en en' e).symm

def asgG (t : Tg) (f : CE) : CS := fun en M => thenS (f en M) en fun d M' => match t.put d en with
  | some en' => .ok (.next en') M'
  | none => .err
theorem psd_asgG {t : Tg} {te : CE} {tg : Expr} (he : PD X ct b W te e) (hg : PGD X ct b t tg) (hs : swapsWithSole [tg] e pos.line X.env = pure false := by rfl) (hw : swappedStores [tg] e X.env = pure none := by rfl)
    (h1 : (assignEach [tg] X.env).map (·.2) = [assign tg X.env] := by rfl) : PSD X ct b W (asgG t te) (.Assign [tg] e pos) := PS.wk (ps_asg he hg hs hw h1) fun D σ H h => by
  obtain ⟨w, en, M, s, S, r, p⟩ := h
  refine ThenS.go (Q := fun x H1 => TGD X ct b RS t x σ H1 D.nx) s S r p fun d M' w' v H' q s' S' r' x => ?_
  split at q
  · rename_i en' e
    exact ⟨w', en, M', d, en', S', r', x, e, fun σ' S2 _ => q w' σ' H' s' (.refl _) S2 r'⟩
  · exact q.elim

/-! ### what is walked -/
def guards : List (D × D) → Store → Prop
  | [], _ => True
  | (h, v) :: r, M => vwD M h = some v ∧ guards r M
/-- the iterator J gives the data xs, one a turn, while the guards hold -/
structure WkD (R : RR) (K : PySem.W.Frag) (ct : CT) (J : It) (w : Wd) (xs : List D) (g : List (D × D)) : Prop where
  ex : ∃ (G : Hp → Prop) (Y : Nat → Hp → V → Hp → Prop), Walk J xs.length G Y ∧ (∀ w' M H, Wle w w' → Rl K ct w' M H → guards g M → G H) ∧
    ∀ (i : Nat) w' M H x H', i < xs.length → Wle w w' → Rl K ct w' M H → guards g M → Y i H x H' → ∃ w2 d, xs[i]? = some d ∧ Step w' H w2 H' ∧ Rl K ct w2 M H' ∧ R K w2 H' d x
abbrev CI := En → Store → Out (List D × List (D × D))
def TID (RX : RR) (X : Cx) (ct : CT) (b : Base) (W : WX) (f : CI) : TI := fun σ H R => ∃ w en M, Sl X.K ct b w en σ H ∧ Rl X.K ct w M H ∧ Post (f en M)
  (fun p M' => ∀ w' J H', Step w H w' H' → Rl X.K ct w' M' H' → WkD RX X.K ct J w' p.1 p.2 → R J H')
  (fun c fs M' => ∀ w' cls dx H', Step w H w' H' → Sl X.K ct b w' en σ H' → Rl X.K ct w' M' H' → ExV X.K ct w' c fs cls dx H' → W cls dx σ H')
abbrev PID (X : Cx) (ct : CT) (b : Base) (W : WX) (f : CI) (tg e : Expr) : Prop := PI X tg e (TID RS X ct b W f)
abbrev PIW (X : Cx) (ct : CT) (b : Base) (W : WX) (f : CI) (tg e : Expr) : Prop := PI X tg e (TID RW X ct b W f)
def gdD (d v : D) : List (D × D) := match d with
  | .ref _ => [(d, v)]
  | _ => []
def signsD (z : Str) : List D := z.cps.toList.map fun c => .str ⟨#[c]⟩
def itemsD : D → Option (List D)
  | .lst xs => some xs
  | .tup xs => some xs
  | .scr ns => some (ns.map D.int)
  | .str z => some (signsD z)
  | _ => none
/-- a list, a tuple, a text, the script -/
def iSeq (f : CE) : CI := fun en M => (f en M).bind fun d M1 => ofO ((vwD M1 d).bind fun v => (itemsD v).map fun xs => (xs, gdD d v)) M1
theorem wk_listG {K : PySem.W.Frag} {a : Addr} {n : Nat} : Walk (Itl K a) n (fun H => ∃ vs, H a = some (.lst vs) ∧ vs.length = n) (fun i H x H' => H' = H ∧ ∃ vs, H a = some (.lst vs) ∧ vs[i]? = some x) := by
  refine ⟨fun i H hi q => ?_, fun H q => ?_, fun i H x H' hi q y => ?_⟩
  · obtain ⟨vs, h1, h2⟩ := q
    exact ⟨vs, vs[i]'(by omega), SqL.of h1, by simp [h2, hi]⟩
  · obtain ⟨vs, h1, h2⟩ := q
    exact ⟨vs, SqL.of h1, by omega⟩
  · obtain ⟨vs, h1, h2⟩ := q
    exact ⟨y.1, vs, h1, y.2 vs (SqL.of h1)⟩
/-- the view of a list handle, as it stands at any later time -/
theorem view_list {w w' : Wd} {M : Store} {H : Hp} {d : D} {xs : List D} {a : Addr} (hd : Rep X.K w d (.ref a)) (l : Wle w w') (rl : Rl X.K ct w' M H) (hv : vwD M d = some (.lst xs)) : ∃ vs, H a = some (.lst vs) ∧ RepL X.K w' xs vs := by
  obtain ⟨a', vs, e, h1, h2⟩ := vwD_ok rl (l.rep hd) hv
  cases e
  exact ⟨vs, h1, h2⟩
theorem gd_view {d v : D} {M M' : Store} (hv : vwD M d = some v) (g : guards (gdD d v) M') : vwD M' d = some v := by
  cases d with
  | ref n => exact g.1
  | _ => exact hv
theorem wkd_list {w : Wd} {d : D} {xs : List D} {a : Addr} {M : Store} (hd : Rep X.K w d (.ref a)) (hv : vwD M d = some (.lst xs)) : WkD RS X.K ct (Itl X.K a) w xs (gdD d (.lst xs)) := by
  refine ⟨_, _, wk_listG (K := X.K) (a := a) (n := xs.length), fun w' M' H' l rl g => ?_, fun i w' M' H' x H2 hi l rl g y => ?_⟩
  · obtain ⟨vs, h1, h2⟩ := view_list hd l rl (gd_view hv g)
    exact ⟨vs, h1, h2.length.symm⟩
  · obtain ⟨rfl, vs', q1, q2⟩ := y
    obtain ⟨vs, h1, h2⟩ := view_list hd l rl (gd_view hv g)
    rw [h1] at q1
    cases q1
    obtain ⟨d', e1, e2⟩ := h2.get' q2
    exact ⟨w', d', e1, Step.refl _ _, rl, e2⟩
theorem wkd_tup {w : Wd} {xs : List D} {a : Addr} {vs : List V} (h1 : SqT X.K w.F a vs) (h2 : RepL X.K w xs vs) (g : List (D × D)) : WkD RS X.K ct (Itt X.K a) w xs g := by
  refine ⟨fun H => SqT X.K H a vs, YAt vs, ?_, fun w' M' H' l rl _ => rl.sub.sqt (Same.sqt l.F h1), fun i w' M' H' x H2 hi l rl _ y => ?_⟩
  · rw [h2.length]
    exact walk_tup
  · obtain ⟨rfl, q2⟩ := y
    obtain ⟨d', e1, e2⟩ := h2.get' q2
    exact ⟨w', d', e1, Step.refl _ _, rl, l.rep e2⟩
theorem wkd_scr {w : Wd} {ns : List Int} {a : Addr} (h1 : (∃ o, w.F a = some (.frz o (.lst (ns.map V.int)))) ∨ SqL X.K (fun _ => none) a (ns.map V.int)) (g : List (D × D)) : WkD RS X.K ct (Itl X.K a) w (ns.map D.int) g := by
  refine ⟨fun H => SqL X.K H a (ns.map V.int), YAt (ns.map V.int), ?_, fun w' M' H' l rl _ => scr_sql rl (h1.imp (fun ⟨o, e⟩ => ⟨o, l.F _ _ e⟩) id), fun i w' M' H' x H2 hi l rl _ y => ?_⟩
  · have : (ns.map D.int).length = (ns.map V.int).length := by rw [List.length_map, List.length_map]
    rw [this]
    exact walk_list
  · obtain ⟨rfl, q2⟩ := y
    obtain ⟨d', e1, e2⟩ := (ints_repL (K := X.K) (w := w') ns).get' q2
    exact ⟨w', d', e1, Step.refl _ _, rl, e2⟩
theorem wkd_str {w : Wd} {z : Str} (g : List (D × D)) : WkD RS X.K ct (Its z) w (signsD z) g := by
  refine ⟨fun _ => True, fun i H v H' => H' = H ∧ ∃ c, z.cps[i]? = some c ∧ v = .str ⟨#[c]⟩, ?_, fun _ _ _ _ _ _ => trivial, fun i w' M' H' x H2 hi l rl _ y => ?_⟩
  · have : (signsD z).length = z.cps.size := by simp [signsD]
    rw [this]
    exact walk_str
  · obtain ⟨rfl, c, e1, rfl⟩ := y
    refine ⟨w', .str ⟨#[c]⟩, ?_, Step.refl _ _, rl, by simp only [RS, Rep]⟩
    simp only [signsD, List.getElem?_map, Array.getElem?_toList, e1, Option.map_some]
theorem pid_seq {f : CE} {tg : Expr} (h : PD X ct b W f e) : PID X ct b W (iSeq f) tg e := by
  refine ⟨fun pins s σ H R I hw => ?_⟩
  obtain ⟨w, en, M, S, rl, p⟩ := hw
  unfold iSeq at p
  have p' := Post.bind p
  cases q : f en M with
  | err => rw [q] at p'; exact p'.elim
  | exc c fs M1 =>
    rw [q] at p'
    refine (pi_list (tg := tg) h).run pins s σ H R I ⟨w, en, M, S, rl, ?_⟩
    rw [q]
    exact p'
  | ok d M1 =>
    rw [q] at p'
    obtain ⟨⟨xs, g⟩, e0, k⟩ := ofO_post (show Post (ofO ((vwD M1 d).bind fun v => (itemsD v).map fun xs => (xs, gdD d v)) M1) _ _ from p')
    obtain ⟨v, ev, e0⟩ := Option.bind_eq_some_iff.mp e0
    obtain ⟨xs', ei, e0⟩ := Option.map_eq_some_iff.mp e0
    cases e0
    cases v with
    | lst ys =>
      cases ei
      refine (pi_list (tg := tg) h).run pins s σ H R I ⟨w, en, M, S, rl, ?_⟩
      rw [q]
      intro w1 v1 H1 s1 r1 x1
      obtain ⟨a, vs, rfl, h1, h2⟩ := vwD_ok r1 x1 ev
      exact ⟨a, rfl, ⟨vs, SqL.of h1⟩, k w1 _ H1 s1 r1 (wkd_list x1 ev)⟩
    | tup ys =>
      cases ei
      refine (pi_tup (tg := tg) h).run pins s σ H R I ⟨w, en, M, S, rl, ?_⟩
      rw [q]
      intro w1 v1 H1 s1 r1 x1
      obtain ⟨h0, a, vs, rfl, h1, h2⟩ := vwD_ok r1 x1 ev
      simp only [Rep] at h0
      obtain ⟨a', vs', e, h1', h2'⟩ := h0
      cases e
      exact ⟨a, rfl, ⟨vs, h1⟩, k w1 _ H1 s1 r1 (wkd_tup h1' h2' _)⟩
    | scr ns =>
      cases ei
      refine (pi_list (tg := tg) h).run pins s σ H R I ⟨w, en, M, S, rl, ?_⟩
      rw [q]
      intro w1 v1 H1 s1 r1 x1
      obtain ⟨h0, a, rfl, h1⟩ := vwD_ok r1 x1 ev
      simp only [Rep] at h0
      obtain ⟨a', e, h1'⟩ := h0
      cases e
      exact ⟨a, rfl, ⟨_, h1⟩, k w1 _ H1 s1 r1 (wkd_scr h1' _)⟩
    | str z =>
      cases ei
      refine (pi_str (tg := tg) h).run pins s σ H R I ⟨w, en, M, S, rl, ?_⟩
      rw [q]
      intro w1 v1 H1 s1 r1 x1
      cases vwD_ok r1 x1 ev
      exact ⟨z, rfl, k w1 _ H1 s1 r1 (wkd_str _)⟩
    | _ => cases ei
/-- range(..) -/
def rngD (lo : Int) (n : Nat) : List D := (List.range n).map fun (i : Nat) => .int (lo + (i : Int))
def iRange1 (f : CA) : CI := fun en M => (f en M).bind fun ds M1 => match ds with
  | [.int j] => if -(2 ^ 62) ≤ j ∧ j < 2 ^ 62 then .ok (rngD 0 j.toNat, []) M1 else .err
  | _ => .err
def iRange2 (f : CA) : CI := fun en M => (f en M).bind fun ds M1 => match ds with
  | [.int i, .int j] => if -(2 ^ 62) ≤ i ∧ i < 2 ^ 62 ∧ -(2 ^ 62) ≤ j ∧ j < 2 ^ 62 then .ok (rngD i (j - i).toNat, []) M1 else .err
  | _ => .err
theorem wkd_rng {w : Wd} {lo : Int} {n : Nat} : WkD RS X.K ct (Itr lo n) w (rngD lo n) [] := by
  refine ⟨fun _ => True, YFn fun i => .int (lo + i), ?_, fun _ _ _ _ _ _ => trivial, fun i w' M' H' x H2 hi l rl _ y => ?_⟩
  · have : (rngD lo n).length = n := by simp [rngD]
    rw [this]
    exact walk_range
  · obtain ⟨rfl, rfl⟩ := y
    have hi' : i < n := by simpa [rngD] using hi
    refine ⟨w', .int (lo + i), ?_, Step.refl _ _, rl, by simp only [RS, Rep]⟩
    simp [rngD, hi']
theorem pid_range1 {f : CA} {tg : Expr} {p : Pos} (hm : X.mg "range" = none) (ha : PAD X ct b W f [e1]) (hg : Gl X "range" := by rfl) (hs : starEach [e1] X.env = [(false, eval e1 X.env)] := by rfl) : PID X ct b W (iRange1 f) tg (.Call (.Name "range" p) [e1] [] pos) := by
  refine ⟨fun pins s σ H R I hw => (pi_range1 (tg := tg) hg hm ha hs).run pins s σ H R I ?_⟩
  obtain ⟨w, en, M, S, rl, p⟩ := hw
  refine ⟨w, en, M, S, rl, (Post.bind p).imp (fun ds M1 q w1 vs H1 s1 r1 x1 => ?_) fun _ _ _ q => q⟩
  have hl := x1.length
  split at q
  · split at q
    · rename_i j hj
      have := intsD_rep (ns := [j]) x1 rfl
      subst this
      exact ⟨j, rfl, hj.1, hj.2, q w1 _ H1 s1 r1 wkd_rng⟩
    · exact q.elim
  · exact q.elim
end
end DL

/-! DL10: for; list comprehensions. -/
namespace DL
open PySem PySem.Spec PyProof.Rows L2

mutual
/-- the same data, decided (so a kernel may run it) -/
def sameV : D → D → Bool
  | .non, .non => true
  | .bl a, .bl b => decide (a = b)
  | .int a, .int b => decide (a = b)
  | .str a, .str b => decide (a = b)
  | .tup a, .tup b => sameVs a b
  | .lst a, .lst b => sameVs a b
  | .dic ks a, .dic ls b => decide (ks = ls) && sameVs a b
  | .ref a, .ref b => decide (a = b)
  | .scr a, .scr b => decide (a = b)
  | _, _ => false
def sameVs : List D → List D → Bool
  | [], [] => true
  | a :: r, b :: q => sameV a b && sameVs r q
  | _, _ => false
end
mutual
theorem sameV_iff : ∀ {a b : D}, sameV a b = true ↔ a = b
  | .non, b => by cases b <;> simp [sameV]
  | .bl _, b => by cases b <;> simp [sameV]
  | .int _, b => by cases b <;> simp [sameV]
  | .str _, b => by cases b <;> simp [sameV]
  | .tup x, b => by cases b <;> simp [sameV, sameVs_iff (a := x)]
  | .lst x, b => by cases b <;> simp [sameV, sameVs_iff (a := x)]
  | .dic ks x, b => by cases b <;> simp [sameV, sameVs_iff (a := x)]
  | .ref _, b => by cases b <;> simp [sameV]
  | .scr _, b => by cases b <;> simp [sameV]
theorem sameVs_iff : ∀ {a b : List D}, sameVs a b = true ↔ a = b
  | [], b => by cases b <;> simp [sameVs]
  | x :: r, b => by cases b <;> simp [sameVs, sameV_iff (a := x), sameVs_iff (a := r)]
end
def gOk : List (D × D) → Store → Bool
  | [], _ => true
  | (h, v) :: r, M => (match vwD M h with | some u => sameV u v | none => false) && gOk r M
theorem gOk_iff : ∀ {g : List (D × D)} {M : Store}, gOk g M = true ↔ guards g M
  | [], M => by simp [gOk, guards]
  | (h, v) :: r, M => by
    unfold gOk guards
    rw [Bool.and_eq_true, gOk_iff]
    cases e : vwD M h with
    | none => simp
    | some u => simp [sameV_iff]
@[simp] theorem gOk_nil (M : Store) : gOk [] M = true := gOk_iff.mpr trivial
noncomputable def loopF (t : Tg) (g : List (D × D)) (body : CS) : List D → CS
  | [] => fun en M => if gOk g M = true then .ok (.next en) M else .err
  | x :: xs => fun en M => if gOk g M = true then (match t.put x en with
    | some en1 => goOn (body en1 M) (loopF t g body xs)
    | none => .err) else .err
def thenI (o : Out (List D × List (D × D))) (en : En) (k : (List D × List (D × D)) → Store → Out Fl) : Out Fl := match o with
  | .ok d M => k d M
  | .exc c fs M => .ok (.exc c fs en) M
  | .err => .err
@[simp] theorem thenI_ok (d : List D × List (D × D)) (M : Store) (en : En) (k : (List D × List (D × D)) → Store → Out Fl) : thenI (.ok d M) en k = k d M := rfl
noncomputable def forS (ci : CI) (t : Tg) (body : CS) : CS := fun en M => thenI (ci en M) en fun p M1 => loopF t p.2 body p.1 en M1
section
variable {X : Cx} {ct : CT} {b : Base} {W : WX} {e e1 e2 e3 : Expr} {pos : Pos} {es : List Expr}
theorem psd_for {R : RR} {ci : CI} {t : Tg} {body : CS} {tg : Expr} {bs : List Stmt} (hp : PassesOwn (model X.prog X.w) X.A X.env X.xe) (hc : X.calm = true) (hi : PI X tg e (TID R X ct b W ci)) (hg : PG X tg (TGD X ct b R t)) (hb : PSsD X ct b W body bs)
    (hs : ∀ x, foldedSetIterable e X.env x = pure x := by intro _; rfl) : PSD X ct b W (forS ci t body) (.For tg e bs [] pos) := PS.wk (ps_for hp hc hi hg hb hs) fun D σ H h => by
  obtain ⟨w, en, M, s, S, rl, p⟩ := h
  unfold forS at p
  refine ⟨w, en, M, S, rl, ?_⟩
  cases q : ci en M with
  | err => rw [q] at p; exact p.elim
  | exc c fs M1 =>
    rw [q] at p
    intro w' cls dx H' s' S' r' x
    exact p w' cls dx σ H' (s.trans s') s'.le S' r' x
  | ok p2 M1 =>
    rw [q] at p
    obtain ⟨xs, g⟩ := p2
    intro w1 J H1 s1 r1 wk
    obtain ⟨G, Y, wl, hG, hY⟩ := wk.ex
    have p1 : PostS X ct b W w1 (loopF t g body xs en M1) D := p.wle s1.le
    refine for_it wl (fun i σ H => ∃ w en M, Step b.w b.H w H ∧ Sl X.K ct b w en σ H ∧ Rl X.K ct w M H ∧ Wle w1 w ∧ PostS X ct b W w (loopF t g body (xs.drop i) en M) D)
      ⟨w1, en, M1, s.trans s1, S.step s1, r1, Wle.refl _, p1⟩ (fun i σ H hi hh => ?_) (fun i x σ H H' hi hh y => ?_) fun σ H hh => ?_
    · obtain ⟨w, en, M, s, S, rl, le, p⟩ := hh
      refine hG w M H le rl ?_
      by_cases hlt : i < xs.length
      · rw [List.drop_eq_getElem_cons hlt] at p
        unfold loopF at p
        split at p
        · rename_i hg
          exact gOk_iff.mp hg
        · exact p.elim
      · rw [List.drop_eq_nil_of_le (by omega)] at p
        unfold loopF at p
        split at p
        · rename_i hg
          exact gOk_iff.mp hg
        · exact p.elim
    · obtain ⟨w, en, M, s, S, rl, le, p⟩ := hh
      rw [List.drop_eq_getElem_cons hi] at p
      unfold loopF at p
      split at p
      case isFalse => exact p.elim
      rename_i hg
      obtain ⟨w2, d, e1, s2, r2, x2⟩ := hY i w M H x H' hi le rl (gOk_iff.mp hg) y
      rw [List.getElem?_eq_getElem hi] at e1
      cases e1
      split at p
      case h_2 => exact p.elim
      rename_i en1 e1
      refine ⟨w2, en, M, xs[i], en1, S.step s2, r2, x2, e1, fun σ' S3 _ => ?_⟩
      refine ⟨w2, en1, M, s.trans s2, S3, r2, PostS.goOn (p.wle s2.le) fun en2 M2 w3 q2 σ3 H3 s3 l3 S4 r3 => ⟨w3, en2, M2, s3, S4, r3, (le.trans s2.le).trans l3, q2⟩⟩
    · obtain ⟨w, en, M, s, S, rl, le, p⟩ := hh
      rw [List.drop_eq_nil_of_le (Nat.le_refl _)] at p
      unfold loopF at p
      split at p
      · exact p w σ H s (.refl _) S rl
      · exact p.elim

/-! ### list comprehensions -/
def upd' (H : Hp) (p : Addr) : Hp := fun a => if a = p then none else H a
theorem upd'_self {H : Hp} {p : Addr} {o : HO} (h : H p = some o) : upd (upd' H p) p o = H := by
  funext a
  by_cases ha : a = p
  · subst ha
    rw [upd_same, h]
  · rw [upd_ne ha]
    exact if_neg ha

/-- no exception here -/
def Out.calm {α : Type} (o : Out α) : Out α := match o with
  | .ok a M => .ok a M
  | _ => .err
@[simp] theorem Out.calm_ok {α : Type} (a : α) (M : Store) : (Out.ok a M).calm = .ok a M := rfl
def wipeE (en : En) : List Nat → En
  | [] => en
  | v :: vs => (wipeE en vs).set v none
noncomputable def compL (t : Tg) (g : List (D × D)) (tt : CB) (te : CE) (en : En) : List D → Store → Out (List D)
  | [], M => if gOk g M = true then .ok [] M else .err
  | x :: xs, M => if gOk g M = true then (match t.put x en with
    | some en1 => (tt en1 M).calm.bind fun k M1 => if k = true then (te en1 M1).calm.bind fun d M2 => (compL t g tt te en xs M2).bind fun r M3 => .ok (d :: r) M3 else compL t g tt te en xs M1
    | none => .err) else .err
noncomputable def nComp (ci : CI) (t : Tg) (vs : List Nat) (tt : CB) (te : CE) : CN := fun en M => (ci en M).bind fun p M1 => if p.1.length ≤ sizeLine then (compL t p.2 tt te (wipeE en vs) p.1 M1).bind fun r M2 => .ok (.lst r) M2 else .err
abbrev W0 : WX := fun _ _ _ _ => False
theorem wipeE_length (en : En) : ∀ vs : List Nat, (wipeE en vs).length = en.length
  | [] => rfl
  | v :: vs => by unfold wipeE; rw [List.length_set, wipeE_length en vs]
theorem wipe_get (σ : L2.St) (j : Nat) : ∀ vs : List Nat, (wipe σ vs)[j]? = if j ∈ vs then (if j < σ.length then some none else none) else σ[j]?
  | [] => by simp [wipe]
  | v :: vs => by
    unfold wipe
    rw [List.getElem?_set, wipe_length, wipe_get σ j vs]
    by_cases h : v = j
    · subst h
      simp
    · have h' : ¬ j = v := fun z => h z.symm
      simp [h, h']
theorem wipeE_get (σ : En) (j : Nat) : ∀ vs : List Nat, (wipeE σ vs)[j]? = if j ∈ vs then (if j < σ.length then some none else none) else σ[j]?
  | [] => by simp [wipeE]
  | v :: vs => by
    unfold wipeE
    rw [List.getElem?_set, wipeE_length, wipeE_get σ j vs]
    by_cases h : v = j
    · subst h
      simp
    · have h' : ¬ j = v := fun z => h z.symm
      simp [h, h']
theorem Sl.wipe {K : PySem.W.Frag} {w : Wd} {en : En} {σ : L2.St} {H : Hp} (S : Sl K ct b w en σ H) (vs : List Nat) : Sl K ct b w (wipeE en vs) (wipe σ vs) H := by
  refine ⟨by rw [wipe_length, wipeE_length]; exact S.len, fun i d e => ?_, fun i o e => ?_, fun i j o o' hij e1 e2 => ?_⟩
  · rw [wipeE_get] at e
    split at e
    · split at e <;> cases e
    · rename_i hi
      rw [wipe_get, if_neg hi]
      exact S.val i d e
  · rw [wipeE_get] at e
    split at e
    · split at e <;> cases e
    · rename_i hi
      rw [wipe_get, if_neg hi]
      exact S.own i o e
  · rw [wipeE_get] at e1 e2
    split at e1
    · split at e1 <;> cases e1
    split at e2
    · split at e2 <;> cases e2
    rename_i h1 h2
    rw [wipe_get, if_neg h1, wipe_get, if_neg h2]
    exact S.sep i j o o' hij e1 e2
theorem But.wiped {l vs : List Nat} {σ σ2 : L2.St} (h : But l (wipe σ vs) σ2) (hl : ∀ j ∈ l, j ∈ vs) : wipe σ2 vs = wipe σ vs := by
  have hlen : σ2.length = σ.length := h.1.trans (wipe_length σ vs)
  refine List.ext_getElem? fun j => ?_
  rw [wipe_get, wipe_get, hlen]
  by_cases hj : j ∈ vs
  · rw [if_pos hj, if_pos hj]
  · rw [if_neg hj, if_neg hj]
    have := h.2 j fun z => hj (hl j z)
    rw [this, wipe_get, if_neg hj]
theorem Rl.out {K : PySem.W.Frag} {w : Wd} {M : Store} {H : Hp} (r : Rl K ct w M H) {p : Addr} (hF : w.F p = none) (hp : p ∉ w.ρ) (hN : ∀ o, H p = some o → NiceH o) : Rl K ct w M (upd' H p) := by
  refine ⟨fun b' u e => ?_, r.len, r.nd, fun n u e => ?_, r.nice, tabs_at r.tabs hN fun b hb => if_neg hb⟩
  · have : b' ≠ p := fun z => by rw [z, hF] at e; cases e
    rw [show upd' H p b' = H b' from if_neg this]
    exact r.sub _ _ e
  · obtain ⟨a, ho, h1, h2, h3, h4⟩ := r.mo n u e
    have : a ≠ p := fun z => hp (z ▸ List.mem_of_getElem? h1)
    exact ⟨a, ho, h1, h2, by rw [show upd' H p a = H a from if_neg this]; exact h3, h4⟩

theorem upd'_same_none {H : Hp} {p : Addr} {o : HO} (h : H p = none) : upd' (upd H p o) p = H := by
  funext a
  by_cases ha : a = p
  · subst ha
    rw [h]
    exact if_pos rfl
  · rw [show upd' (upd H p o) p a = upd H p o a from if_neg ha, upd_ne ha]
theorem upd'_upd {H : Hp} {p : Addr} {o : HO} : upd' (upd H p o) p = upd' H p := by
  funext a
  by_cases ha : a = p
  · subst ha
    rw [show upd' (upd H a o) a a = none from if_pos rfl, show upd' H a a = none from if_pos rfl]
  · rw [show upd' (upd H p o) p a = upd H p o a from if_neg ha, upd_ne ha, show upd' H p a = H a from if_neg ha]
theorem upd'_none {H : Hp} {p : Addr} : upd' H p p = none := if_pos rfl
theorem upd'_le {H : Hp} {p : Addr} : Same (upd' H p) H := fun b u e => by
  by_cases hb : b = p
  · subst hb
    rw [upd'_none] at e
    cases e
  · rwa [show upd' H p b = H b from if_neg hb] at e
theorem Step.out {w w' : Wd} {H H' : Hp} (s : Step w H w' H') (p : Addr) : Step w (upd' H p) w' (upd' H' p) := ⟨s.ρ, s.F, fun c u h1 ht h2 h3 => by
  have hc : c ≠ p := fun z => by rw [z, upd'_none] at h1; cases h1
  rw [show upd' H p c = H c from if_neg hc] at h1
  rw [show upd' H' p c = H' c from if_neg hc]
  exact s.fr c u h1 ht h2 h3⟩
theorem Rl.up {K : PySem.W.Frag} {w : Wd} {M : Store} {H H' : Hp} (r : Rl K ct w M H) (s : Same H H') : Rl K ct w M H' := by
  refine ⟨fun b' u e => (r.sub _ _ e).imp (fun z => s _ _ z) fun ⟨h1, ob, h2⟩ => ⟨h1, ob, s _ _ h2⟩, r.len, r.nd, fun n u e => ?_, r.nice, r.tabs.ext s⟩
  obtain ⟨a, ho, h1, h2, h3, h4⟩ := r.mo n u e
  exact ⟨a, ho, h1, h2, s _ _ h3, h4⟩
theorem Sl.up {K : PySem.W.Frag} {w : Wd} {en : En} {σ : L2.St} {H H' : Hp} (S : Sl K ct b w en σ H) (s : Same H H') : Sl K ct b w en σ H' := by
  refine ⟨S.len, S.val, fun i o e => ?_, S.sep⟩
  obtain ⟨a, ho, h1, h2, h3, h4, h5, h6⟩ := S.own i o e
  exact ⟨a, ho, h1, h2, h3, h4, s _ _ h5, h6⟩
theorem comp_wk {R : RR} {ci : CI} {t : Tg} {tt : CB} {te : CE} {vs : List Nat} {σ : L2.St} {H : Hp} {Q : VK} (hl' : ∀ j ∈ t.ixs, j ∈ vs) (h : TND X ct b W (nComp ci t vs tt te) σ H Q) : tLc (TID R X ct b W ci) (TGD X ct b R t) (TTD X ct b W0 tt) (TD X ct b W0 te) vs σ H Q := by
  obtain ⟨w, en, M, S, rl, p⟩ := h
  refine ⟨w, en, M, S, rl, (Post.bind p).imp (fun pr M1 q w1 J H1 s1 r1 wk D hD => ?_) fun _ _ _ q => q⟩
  obtain ⟨xs, g⟩ := pr
  split at q
  case isFalse => exact q.elim
  rename_i hsz
  obtain ⟨G, Y, wl, hG, hY⟩ := wk.ex
  have q := Post.bind q
  have S1 := (S.step s1).wipe vs
  refine lc_it wl (fun i Hn => ∃ w2 M acc accv, Step w1 H1 w2 (upd' Hn D) ∧ Rl X.K ct w2 M (upd' Hn D) ∧ Hn D = some (.lst accv) ∧ RepL X.K w2 acc accv ∧ acc.length ≤ i ∧
      Post (compL t g tt te (wipeE en vs) (xs.drop i) M) (fun r M2 => ∀ w' p ho H', Step w H w' H' → Rl X.K ct w' M2 H' → H' p = none → RepO X.K ct w' (.lst (acc ++ r)) ho → Q (.ref p) (upd H' p ho)) (fun _ _ _ => True)) ?_ ?_ ?_ ?_
  · refine ⟨w1, M1, [], [], ?_, ?_, upd_same, .nil, Nat.le_refl _, ?_⟩
    · rw [upd'_same_none hD]
      exact Step.refl _ _
    · rw [upd'_same_none hD]
      exact r1
    · exact q.imp (fun _ _ z => z) fun _ _ _ _ => trivial
  · rintro i Hn hi ⟨w2, M2, acc, accv, st, rn, hDn, ra, hacc, pp⟩
    refine hG w2 M2 Hn st.le (rn.up upd'_le) ?_
    by_cases hlt : i < xs.length
    · rw [List.drop_eq_getElem_cons hlt] at pp
      unfold compL at pp
      split at pp
      · rename_i hg
        exact gOk_iff.mp hg
      · exact pp.elim
    · rw [List.drop_eq_nil_of_le (by omega)] at pp
      unfold compL at pp
      split at pp
      · rename_i hg
        exact gOk_iff.mp hg
      · exact pp.elim
  · rintro i x Hn H2 hi ⟨w2, M2, acc, accv, st, rn, hDn, ra, hacc, pp⟩ y
    rw [List.drop_eq_getElem_cons hi] at pp
    unfold compL at pp
    split at pp
    case isFalse => exact pp.elim
    rename_i hgd
    have rn' := rn.up (upd'_le (H := Hn) (p := D))
    obtain ⟨w3, d, e1, s3, r3, x3⟩ := hY i w2 M2 Hn x H2 hi st.le rn' (gOk_iff.mp hgd) y
    rw [List.getElem?_eq_getElem hi] at e1
    cases e1
    split at pp
    case h_2 => exact pp.elim
    rename_i en1 e1
    have FD : w2.F D = none := rn.sub.free upd'_none
    have ND : D ∉ w2.ρ := rn.notin upd'_none
    have st3 : Step w1 H1 w3 (upd' H2 D) := st.trans (s3.out D)
    obtain ⟨hD3, FD3, ND3⟩ := s3.fr D _ hDn (fun _ z => nomatch z) FD ND
    refine ⟨w3, wipeE en vs, M2, xs[i], en1, (S1.step st3).up upd'_le, r3, x3, e1, fun σ2 S3 bt => ⟨bt.wiped hl', ?_⟩⟩
    have pp := Post.bind pp
    refine ⟨w3, en1, M2, S3, r3, ?_⟩
    cases qt : tt en1 M2 with
    | err => rw [qt] at pp; exact pp.elim
    | exc c fs M3 => rw [qt] at pp; exact pp.elim
    | ok k M3 =>
      rw [qt] at pp
      intro w4 H4 s4 r4
      obtain ⟨hD4, FD4, ND4⟩ := s4.fr D _ hD3 (fun _ z => nomatch z) FD3 ND3
      cases k with
      | false =>
        rw [if_neg Bool.false_ne_true]
        refine ⟨w4, M3, acc, accv, st3.trans (s4.out D), r4.out FD4 ND4 (fun o e => by rw [hD4] at e; cases e; trivial), hD4, s4.repL (s3.repL ra), by omega, ?_⟩
        exact pp
      | true =>
        rw [if_pos rfl]
        have pp := Post.bind (show Post ((te en1 M3).calm.bind _) _ _ from pp)
        refine ⟨w4, en1, M3, S3.step s4, r4, ?_⟩
        cases qe : te en1 M3 with
        | err => rw [qe] at pp; exact pp.elim
        | exc c fs M4 => rw [qe] at pp; exact pp.elim
        | ok d M4 =>
          rw [qe] at pp
          intro w5 yv H5 s5 r5 x5
          obtain ⟨hD5, FD5, ND5⟩ := s5.fr D _ hD4 (fun _ z => nomatch z) FD4 ND4
          have ra5 := s5.repL (s4.repL (s3.repL ra))
          refine ⟨accv, hD5, ?_, w5, M4, acc ++ [d], accv ++ [yv], ?_, ?_, upd_same, ra5.append (.one x5), ?_, ?_⟩
          · rw [← ra.length]
            omega
          · rw [upd'_upd]
            exact (st3.trans (s4.out D)).trans (s5.out D)
          · rw [upd'_upd]
            exact r5.out FD5 ND5 (fun o e => by rw [hD5] at e; cases e; trivial)
          · rw [List.length_append, List.length_singleton]
            omega
          · refine (Post.bind (show Post ((compL t g tt te (wipeE en vs) (xs.drop (i + 1)) M4).bind _) _ _ from pp)).imp (fun r M5 z => ?_) fun _ _ _ z => z
            have z' := z
            simp only [Post] at z'
            rw [List.append_assoc]
            exact z'
  · rintro Hn ⟨w2, M2, acc, accv, st, rn, hDn, ra, hacc, pp⟩
    rw [List.drop_eq_nil_of_le (Nat.le_refl _)] at pp
    unfold compL at pp
    split at pp
    case isFalse => exact pp.elim
    have := pp w2 D (.lst accv) (upd' Hn D) (s1.trans st) rn upd'_none ⟨accv, rfl, by rw [List.append_nil]; exact ra⟩
    rwa [upd'_self hDn] at this
theorem ixs_ok {t : Tg} {vs : List Nat} (hl : (t.ixs.all fun j => vs.contains j) = true) : ∀ j ∈ t.ixs, j ∈ vs := fun j hj => by
  have := List.all_eq_true.mp hl j hj
  simpa using this
/-- [elt for t in ci if tt], a new list -/
theorem pn_comp {R : RR} {ci : CI} {t : Tg} {tt : CB} {te : CE} {elt tg iter : Expr} {ifs : List Expr} {scope : Scope} {own : List (Str × Nat)} (hc : X.calm = true) (hN : X.N.Nodup) (hi : PI X tg iter (TID R X ct b W ci))
    (hg : ∀ (s : Shared) (H : Hp) (C : Addr) (cl : List (Str × Addr)) (fp : List Addr), PG (X.blk s H scope (compEnvC scope cl C X.env) fp) tg (TGD X ct b R t))
    (ht : ∀ (s : Shared) (H : Hp) (C : Addr) (cl : List (Str × Addr)) (fp : List Addr), PTs (X.blk s H scope (compEnvC scope cl C X.env) fp) ifs (TTD X ct b W0 tt))
    (he : ∀ (s : Shared) (H : Hp) (C : Addr) (cl : List (Str × Addr)) (fp : List Addr), PD (X.blk s H scope (compEnvC scope cl C X.env) fp) ct b W0 te elt)
    (ok : blkC X.N X.env.scope scope own = true := by rfl) (hl : (t.ixs.all fun j => (own.map (·.2)).contains j) = true := by rfl) (hs : ∀ x, foldedSetIterable iter X.env x = pure x := by intro _; rfl) :
    PND X ct b W (nComp ci t (own.map (·.2)) tt te) (.ListComp elt [⟨tg, iter, ifs, 0⟩] scope pos) :=
  PE.wk (pe_lc (g := TGD X ct b R t) (te := TD X ct b W0 te) hc hN hi (blkOk_by ok) hg ht he hs) fun σ H Q h => comp_wk (ixs_ok hl) h
section
variable {R : RR} {ci : CI} {t : Tg} {tt : CB} {te : CE} {elt tg iter : Expr} {ifs : List Expr} {scope : Scope} {own : List (Str × Nat)} {i : Nat} {y : Str} {py spos : Pos}
end
def tYesD : CB := fun _ M => .ok true M
theorem ptsd_nil : PTs X [] (TTD X ct b W tYesD) := ⟨fun pins s σ H Q I h => by
  obtain ⟨w, en, M, S, r, p⟩ := h
  exact pts_nil.run pins s σ H Q I (p w H (Step.refl _ _) r)⟩
theorem ptsd_one {c : Expr} {tt : CB} (h : PTD X ct b W tt c) : PTs X [c] (TTD X ct b W tt) := pts_one h
/-- what stays so in a comprehension's block -/
theorem takesW0 : Takes X W0 := fun _ _ h => by
  obtain ⟨_, _, _, _, _, _, _, _, _, _, _, _, _, _, _, _, z⟩ := h
  exact z.elim
end
end DL

/-! DL11: things that change: methods, subscript stores. -/
namespace DL
open PySem PySem.Spec PyProof.Rows L2
section
variable {X : Cx} {ct : CT} {b : Base} {W : WX} {e e1 e2 e3 o : Expr} {pos : Pos} {es : List Expr}
/-- an own thing changed in place -/
theorem Rl.off {K : PySem.W.Frag} {w : Wd} {M : Store} {H : Hp} (r : Rl K ct w M H) {p : Addr} {ho : HO} (hF : w.F p = none) (hp : p ∉ w.ρ) (hN : ∀ o, H p = some o → NiceH o) : Rl K ct w M (upd H p ho) := by
  refine ⟨fun b' u e => ?_, r.len, r.nd, fun n u e => ?_, r.nice, tabs_upd r.tabs hN⟩
  · have : b' ≠ p := fun z => by rw [z, hF] at e; cases e
    rw [upd_ne this]
    exact r.sub _ _ e
  · obtain ⟨a, h1, h2, h3, h4, h5⟩ := r.mo n u e
    have : a ≠ p := fun z => hp (z ▸ List.mem_of_getElem? h2)
    exact ⟨a, h1, h2, h3, by rw [upd_ne this]; exact h4, h5⟩
theorem Step.off {w : Wd} {H : Hp} (s : Step b.w b.H w H) {p : Addr} {ho : HO} (hb : Fr0 b.H p) : Step b.w b.H w (upd H p ho) := ⟨s.ρ, s.F, fun c u h1 ht h2 h3 => by
  have hc : c ≠ p := fun z => let ⟨ps, e⟩ := hb u (z ▸ h1); ht ps e
  rw [upd_ne hc]
  exact s.fr c u h1 ht h2 h3⟩
def tyM (T : String) : MO → Bool
  | .lst _ => T == "list"
  | .dic _ _ => T == "dict"
  | _ => false
theorem tyM_ok {K : PySem.W.Frag} {T : String} {w : Wd} {o : MO} {ho : HO} {H : Hp} {a : Addr} (h : tyM T o = true) (hr : RepO K ct w o ho) (hH : H a = some ho) : tyV K T (.ref a) H := by
  cases o with
  | lst xs =>
    obtain ⟨vs, rfl, _⟩ := hr
    have : T = "list" := by simpa [tyM] using h
    exact .inl ⟨this, vs, SqL.of hH⟩
  | dic ks xs =>
    obtain ⟨vs, rfl, _⟩ := hr
    have : T = "dict" := by simpa [tyM] using h
    exact .inr (.inr (.inl ⟨this, .inl ⟨_, hH⟩⟩))
  | ldic ks xs => cases h
  | ins c fs => cases h
  | exc c fs => cases h
  | kd ks xs => cases h
/-- a method that changes its thing: what it leaves there, what it gives; the arguments by their places -/
def MetV (X : Cx) (ct : CT) (id : String) (g : MO → List D → Option (MO × D)) : Prop := ∃ r, MtR X id r ∧ ∀ w H a o ho ds vs o' d Q, H a = some ho → RepO X.K ct w o ho → RepL X.K w ds vs → g o ds = some (o', d) →
  (∀ ho' v, RepO X.K ct w o' ho' → Rep X.K w d v → Q v (upd H a ho')) → r (.ref a) vs H Q
/-- of the frame's own thing -/
def mutO (T : String) (g : MO → List D → Option (MO × D)) (i : Nat) (args : CA) : En → Store → Out (MO × D) := fun en M => match en[i]? with
  | some (some (.own o)) => if tyM T o = true then (args en M).bind fun ds M1 => ofO (g o ds) M1 else .err
  | _ => .err
def thenM (o : Out (MO × D)) (en : En) (k : MO × D → Store → Out Fl) : Out Fl := match o with
  | .ok d M => k d M
  | .exc c fs M => .ok (.exc c fs en) M
  | .err => .err
@[simp] theorem thenM_ok (d : MO × D) (M : Store) (en : En) (k : MO × D → Store → Out Fl) : thenM (.ok d M) en k = k d M := rfl
def mutS (i : Nat) (f : En → Store → Out (MO × D)) : CS := fun en M => thenM (f en M) en fun p M1 => .ok (.next (en.set i (some (.own p.1)))) M1
def mutA (j i : Nat) (f : En → Store → Out (MO × D)) : CS := fun en M => thenM (f en M) en fun p M1 => .ok (.next ((en.set i (some (.own p.1))).set j (some (.val p.2)))) M1
section
variable (X : Cx) (ct : CT) (b : Base) (W : WX)
def TMD (i : Nat) (f : En → Store → Out (MO × D)) : TE := fun σ H Q => ∃ w en M, Step b.w b.H w H ∧ Sl X.K ct b w en σ H ∧ Rl X.K ct w M H ∧ Post (f en M)
  (fun p M' => ∀ w' v H', Step b.w b.H w' H' → Wle w w' → Sl X.K ct b w' (en.set i (some (.own p.1))) σ H' → Rl X.K ct w' M' H' → Rep X.K w' p.2 v → Q v H')
  (fun c fs M' => ∀ w' cls dx H', Step w H w' H' → Sl X.K ct b w' en σ H' → Rl X.K ct w' M' H' → ExV X.K ct w' c fs cls dx H' → W cls dx σ H')
abbrev PMD (i : Nat) (f : En → Store → Out (MO × D)) (e : Expr) : Prop := PE X e (TMD X ct b W i f)
end
theorem ThenM.go {i : Nat} {te : En → Store → Out (MO × D)} {k : MO × D → Store → Out Fl} {D : Ends} {σ : L2.St} {H : Hp} {w : Wd} {en : En} {M : Store} {Q : VK} (s : Step b.w b.H w H) (S : Sl X.K ct b w en σ H) (r : Rl X.K ct w M H) (p : PostS X ct b W w (thenM (te en M) en k) D)
    (hk : ∀ d M' w' v H', PostS X ct b W w' (k d M') D → Step b.w b.H w' H' → Sl X.K ct b w' (en.set i (some (.own d.1))) σ H' → Rl X.K ct w' M' H' → Rep X.K w' d.2 v → Q v H') : TMD X ct b W i te σ H Q := by
  refine ⟨w, en, M, s, S, r, ?_⟩
  cases q : te en M with
  | ok d M' =>
    rw [q] at p
    exact fun w' v H' s' l' S' r' x => hk d M' w' v H' (PostS.wle p l') s' S' r' x
  | exc c fs M' =>
    rw [q] at p
    exact fun w' cls dx H' s' S' r' x => p w' cls dx σ H' (s.trans s') s'.le S' r' x
  | err =>
    rw [q] at p
    exact p.elim
/-- a thing of the store changed: an expression -/
def eMut (T : String) (g : MO → List D → Option (MO × D)) (f : CE) (args : CA) : CE := fun en M => (f en M).bind fun d M1 => match d with
  | .ref n => match M1[n]? with
    | some o => if tyM T o = true then (args en M1).bind fun ds M2 => match M2[n]? with
      | some o2 => match g o2 ds with
        | some (o', r) => .ok r (M2.set n o')
        | none => .err
      | none => .err
      else .err
    | none => .err
  | _ => .err
theorem mut_ref {T id : String} {g : MO → List D → Option (MO × D)} {r : V → List V → Hp → VK → Prop} (hr : ∀ w H a o ho ds vs o' d Q, H a = some ho → RepO X.K ct w o ho → RepL X.K w ds vs → g o ds = some (o', d) →
    (∀ ho' v, RepO X.K ct w o' ho' → Rep X.K w d v → Q v (upd H a ho')) → r (.ref a) vs H Q) {w0 w1 : Wd} {H0 H1 : Hp} {M1 : Store} {n : Nat} {a : Addr} {ds : List D} {vs : List V} {Q : VK} (s0 : Step w0 H0 w1 H1) (r1 : Rl X.K ct w1 M1 H1) (ha : w1.ρ[n]? = some a) (x1 : RepL X.K w1 ds vs)
    {E : Str → List (Str × D) → Store → Prop}
    (p : Post (match M1[n]? with
      | some o2 => match g o2 ds with
        | some (o', r) => Out.ok r (M1.set n o')
        | none => .err
      | none => .err) (fun d M' => ∀ w' v H', Step w0 H0 w' H' → Rl X.K ct w' M' H' → Rep X.K w' d v → Q v H') E) : r (.ref a) vs H1 Q := by
  split at p
  case h_2 => exact p.elim
  rename_i o2 e2
  split at p
  case h_2 => exact p.elim
  rename_i o' d eg
  obtain ⟨ho, hF, hH, ro⟩ := r1.at ha e2
  refine hr w1 H1 a o2 ho ds vs o' d Q hH ro x1 eg fun ho' v ro' rv => ?_
  obtain ⟨s2, r2⟩ := r1.write ha ro'
  exact p w1 v _ (s0.trans s2) r2 rv
theorem pd_mut {T id : String} {name : Str} {g : MO → List D → Option (MO × D)} {f : CE} {args : CA} {apos cpos : Pos} (hm : MetV X ct id g) (pa : PlainAttrs T) (slot : PySem.Slot T name id) (hty : typeOf (.builtin id) = pure (.type "method_descriptor"))
    (ho : PD X ct b W f o) (ha : PAD X ct b W args (e :: es))
    (hbase : attributeBase o name X.env (eval o X.env) = eval o X.env := by rfl)
    (hfew : ((backTo cpos (starEach (e :: es) X.env)).all (fun x => !x.1) && (backToKw cpos (keywordEach [] X.env)).all (fun x => x.1.isSome)
      && decide ((e :: es).length + ([] : List Keyword).length + (if ([] : List Keyword).isEmpty then 0 else 1) < 30)) = true := by rfl)
    (hline : (apos.endLine == cpos.line) = true := by rfl) (hs : starEach (e :: es) X.env = (false, eval e X.env) :: starEach es X.env := by rfl) (hplain : (backTo cpos (starEach es X.env)).any (·.1) = false := by rfl) :
    PD X ct b W (eMut T g f args) (.Call (.Attribute o name apos) (e :: es) [] cpos) := by
  obtain ⟨r, hmt, hr⟩ := hm
  refine PE.wk (pe_bm pa slot hty hmt ho ha hbase hfew hline hs hplain) fun σ H Q h => ?_
  obtain ⟨w, en, M, S, rl, p⟩ := h
  refine ⟨w, en, M, S, rl, (Post.bind p).imp (fun d M1 q w1 v1 H1 s1 r1 x1 => ?_) fun _ _ _ q => q⟩
  split at q
  case h_2 => exact q.elim
  rename_i n
  split at q
  case h_2 => exact q.elim
  rename_i o1 e1
  split at q
  case isFalse => exact q.elim
  rename_i ht
  simp only [Rep] at x1
  obtain ⟨a, rfl, ha1⟩ := x1
  obtain ⟨ho1, hF1, hH1, ro1⟩ := r1.at ha1 e1
  refine ⟨tyM_ok (ct := ct) ht ro1 hH1, w1, en, M1, S.step s1, r1, (Post.bind q).imp (fun ds M2 q w2 vs H2 s2 r2 x2 => ?_) fun c fs M2 q w2 cls dx H2 s2 S2 r2 x2 => q w2 cls dx H2 (s1.trans s2) S2 r2 x2⟩
  exact mut_ref (id := id) (T := T) hr (s1.trans s2) r2 (prefix_get s2.ρ ha1) x2 q
end
end DL

/-! DL12: the methods; subscript stores; value and, or, not. -/
namespace DL
open PySem PySem.Spec PyProof.Rows L2
def mAppend : MO → List D → Option (MO × D)
  | .lst xs, [y] => if xs.length < sizeLine then some (.lst (xs ++ [y]), .non) else none
  | _, _ => none
def mInsert : MO → List D → Option (MO × D)
  | .lst xs, [.int i, y] => if xs.length < sizeLine ∧ 0 ≤ i ∧ i < 2 ^ 63 then some (.lst (xs.take i.toNat ++ [y] ++ xs.drop i.toNat), .non) else none
  | _, _ => none
def mPop : MO → List D → Option (MO × D)
  | .lst xs, [] => xs[xs.length - 1]?.map fun y => (.lst xs.dropLast, y)
  | _, _ => none
def mPopAt : MO → List D → Option (MO × D)
  | .lst xs, [.int i] => if -(2 ^ 63) ≤ i ∧ i < 2 ^ 63 then (seqIndex? i xs.length).bind fun k => xs[k]?.map fun y => (.lst (xs.eraseIdx k), y) else none
  | _, _ => none
def mClear : MO → List D → Option (MO × D)
  | .lst _, [] => some (.lst [], .non)
  | _, _ => none
def mReverse : MO → List D → Option (MO × D)
  | .lst xs, [] => some (.lst xs.reverse, .non)
  | _, _ => none
theorem RepL.eraseIdx {K : PySem.W.Frag} {w : Wd} {ds : List D} {vs : List V} (h : RepL K w ds vs) (k : Nat) : RepL K w (ds.eraseIdx k) (vs.eraseIdx k) := by
  rw [List.eraseIdx_eq_take_drop_succ, List.eraseIdx_eq_take_drop_succ]
  exact (h.take k).append (h.drop (k + 1))
theorem RepL.dropLast {K : PySem.W.Frag} {w : Wd} {ds : List D} {vs : List V} (h : RepL K w ds vs) : RepL K w ds.dropLast vs.dropLast := by
  rw [List.dropLast_eq_take, List.dropLast_eq_take, h.length]
  exact h.take _
theorem RepL.one_iff {K : PySem.W.Frag} {w : Wd} {d : D} {vs : List V} (h : RepL K w [d] vs) : ∃ v, vs = [v] ∧ Rep K w d v := by
  rw [RepL.cons_iff] at h
  obtain ⟨v, r, rfl, h1, h2⟩ := h
  rw [RepL.nil_iff] at h2
  exact ⟨v, by rw [h2], h1⟩
section
variable {X : Cx} {ct : CT} {b : Base} {W : WX} {e e1 e2 e3 o : Expr} {pos : Pos} {es : List Expr}
theorem met_popAt : MetV X ct "list.pop" mPopAt := by
  refine ⟨_, mt_popAt, fun w H a o ho ds vs o' d Q hH hr hx e k => ?_⟩
  unfold mPopAt at e
  split at e
  case h_2 => cases e
  rename_i xs i
  split at e
  case isFalse => cases e
  rename_i hz
  obtain ⟨j, e1, e⟩ := Option.bind_eq_some_iff.mp e
  obtain ⟨y, e2, e3⟩ := Option.map_eq_some_iff.mp e
  cases e3
  obtain ⟨us, rfl, x⟩ := hr
  obtain ⟨v, rfl, h1⟩ := hx.one_iff
  simp only [Rep] at h1
  subst h1
  obtain ⟨v, h1, h2⟩ := x.get e2
  exact ⟨a, us, i, j, v, rfl, rfl, hH, hz.1, hz.2, by rw [← x.length]; exact e1, h1, k _ _ ⟨_, rfl, x.eraseIdx j⟩ h2⟩
/-! ### o[k] = v -/
def putM : MO → D → D → Option MO
  | .lst xs, .int k, v => (ixN xs.length k).map fun j => .lst (xs.set j v)
  | .dic ks xs, k, v => (keyD k).bind fun k => if ks.length < sizeLine then some (.dic (dput ks xs k v).1 (dput ks xs k v).2) else none
  | _, _, _ => none

theorem zip_map_snd {α β γ : Type} (f : α → β → γ) : ∀ (ks : List α) (vs : List β), ks.zip ((ks.zip vs).map fun kv => f kv.1 kv.2) = (ks.zip vs).map fun kv => (kv.1, f kv.1 kv.2)
  | [], _ => rfl
  | _ :: _, [] => rfl
  | k :: ks, v :: vs => by simp [zip_map_snd f ks vs]
theorem any_zip {α : Type} (p : Key → Bool) : ∀ (ks : List Key) (xs : List α), ks.length = xs.length → ((ks.zip xs).any fun kv => p kv.1) = ks.any p
  | [], [], _ => rfl
  | [], _ :: _, h => by cases h
  | _ :: _, [], h => by cases h
  | k :: ks, x :: xs, h => by
    simp only [List.zip_cons_cons, List.any_cons, any_zip p ks xs (Nat.succ.inj h)]
theorem RepL.mapset {K : PySem.W.Frag} {w : Wd} {k : Key} {d : D} {u : V} (hd : Rep K w d u) : ∀ (ks : List Key) {xs : List D} {vs : List V}, RepL K w xs vs →
    RepL K w ((ks.zip xs).map fun kv => if kv.1 = k then d else kv.2) ((ks.zip vs).map fun kv => if kv.1 = k then u else kv.2)
  | [], _, _, _ => .nil
  | j :: ks, [], vs, h => by
    rw [RepL.nil_iff] at h
    subst h
    exact .nil
  | j :: ks, x :: xs, vs, h => by
    rw [RepL.cons_iff] at h
    obtain ⟨v, r, rfl, h1, h2⟩ := h
    simp only [List.zip_cons_cons, List.map_cons]
    refine .cons ?_ (RepL.mapset hd ks h2)
    split
    · exact hd
    · exact h1
theorem dput_rep {K : PySem.W.Frag} {w : Wd} {ks : List Key} {xs : List D} {vs : List V} {k : Key} {d : D} {u : V} (hl : ks.length = xs.length) (h : RepL K w xs vs) (hd : Rep K w d u) :
    ∃ vs', putK (ks.zip vs) k u = (dput ks xs k d).1.zip vs' ∧ (dput ks xs k d).1.length = (dput ks xs k d).2.length ∧ RepL K w (dput ks xs k d).2 vs' := by
  have hl2 : ks.length = vs.length := hl.trans h.length
  have a1 := any_zip (fun j => decide (j = k)) ks xs hl
  have a2 := any_zip (fun j => decide (j = k)) ks vs hl2
  unfold dput putK
  rw [a1, a2]
  by_cases q : (ks.any fun j => decide (j = k)) = true
  · rw [if_pos q, if_pos q]
    refine ⟨(ks.zip vs).map fun kv => if kv.1 = k then u else kv.2, ?_, ?_, RepL.mapset hd ks h⟩
    · show _ = ks.zip _
      rw [zip_map_snd (fun j v => if j = k then u else v)]
      refine List.map_congr_left fun kv _ => ?_
      split <;> rfl
    · show ks.length = ((ks.zip xs).map _).length
      rw [List.length_map, List.length_zip]
      omega
  · rw [if_neg q, if_neg q]
    refine ⟨vs ++ [u], ?_, ?_, h.append (.one hd)⟩
    · show _ = (ks ++ [k]).zip (vs ++ [u])
      rw [List.zip_append hl2]
      rfl
    · show (ks ++ [k]).length = (xs ++ [d]).length
      simp [hl]
def rPut : TSet := fun o i v H Q => rSetL o i v H Q ∨ ∃ a H', o = .ref a ∧ DPut H a i v H' ∧ Q H'
theorem set_put (hu : X.A.units + 64 < cLine) : PSet X rPut := fun pins s σ H o i v ov iv u Q I ro ri rv h => by
  rcases h with h | ⟨a, H', rfl, g, q⟩
  · exact set_list pins s σ H o i v ov iv u Q I ro ri rv h
  · cases ro
    exact d_setItem (by omega) I g ri rv fun s' I' => ⟨H', I', q⟩
theorem putM_ok {w : Wd} {H : Hp} {o o' : MO} {ho : HO} {a : Addr} {k v : D} {kv vv : V} {Q : Hp → Prop} (hH : H a = some ho) (hr : RepO X.K ct w o ho) (hk : Rep X.K w k kv) (hv : Rep X.K w v vv) (e : putM o k v = some o')
    (q : ∀ ho', RepO X.K ct w o' ho' → Q (upd H a ho')) : rPut (.ref a) kv vv H Q := by
  unfold putM at e
  split at e
  · rename_i xs i
    obtain ⟨j, e1, e2⟩ := Option.map_eq_some_iff.mp e
    subst e2
    obtain ⟨us, rfl, x⟩ := hr
    simp only [Rep] at hk
    subst hk
    exact .inl ⟨a, us, i, j, rfl, rfl, hH, by rw [← x.length]; exact e1, q _ ⟨_, rfl, x.set hv j⟩⟩
  · rename_i ks xs
    obtain ⟨key, e1, e2⟩ := Option.bind_eq_some_iff.mp e
    split at e2
    case isFalse => cases e2
    rename_i hz
    cases e2
    obtain ⟨us, rfl, hl, x⟩ := hr
    have ek := keyD_r hk e1
    subst ek
    obtain ⟨vs', p1, p2, p3⟩ := dput_rep (k := key) hl x hv
    refine .inr ⟨a, _, rfl, .inl ⟨_, key, hH, rfl, ?_, rfl⟩, ?_⟩
    · rw [List.length_zip]
      omega
    · rw [p1]
      exact q _ ⟨_, rfl, p2, p3⟩
  · cases e
theorem ThenS.goL {te : CE} {k : DL.D → Store → Out Fl} {D : Ends} {σ : L2.St} {H : Hp} {w : Wd} {en : En} {M : Store} {Q : VK} (s : Step b.w b.H w H) (S : Sl X.K ct b w en σ H) (r : Rl X.K ct w M H) (p : PostS X ct b W w (thenS (te en M) en k) D)
    (hk : ∀ d M' w' v H', PostS X ct b W w' (k d M') D → Step w H w' H' → Sl X.K ct b w' en σ H' → Rl X.K ct w' M' H' → Rep X.K w' d v → Q v H') : TD X ct b W te σ H Q := by
  refine ⟨w, en, M, S, r, ?_⟩
  cases q : te en M with
  | ok d M' =>
    rw [q] at p
    exact fun w' v H' s' r' x => hk d M' w' v H' (PostS.wle p s'.le) s' (S.step s') r' x
  | exc c fs M' =>
    rw [q] at p
    exact fun w' cls dx H' s' S' r' x => p w' cls dx σ H' (s.trans s') s'.le S' r' x
  | err =>
    rw [q] at p
    exact p.elim
/-- own[k] = v -/
def stO (i : Nat) (fk fv : CE) : CS := fun en M => thenS (fv en M) en fun v M1 => match en[i]? with
  | some (some (.own o)) => thenS (fk en M1) en fun k M2 => match putM o k v with
    | some o' => .ok (.next (en.set i (some (.own o')))) M2
    | none => .err
  | _ => .err
/-- o[k] = v, the thing of the store -/
def stR (fo fk fv : CE) : CS := fun en M => thenS (fv en M) en fun v M1 => thenS (fo en M1) en fun o M2 => thenS (fk en M2) en fun k M3 => match o with
  | .ref n => match M3[n]? with
    | some o => match putM o k v with
      | some o' => .ok (.next en) (M3.set n o')
      | none => .err
    | none => .err
  | _ => .err
theorem psd_stR {fo fk fv : CE} {ps : Pos} {ie ve : Expr} (hu : X.A.units + 64 < cLine) (ho : PD X ct b W fo o) (hi : PD X ct b W fk ie) (hv : PD X ct b W fv ve)
    (hs : swapsWithSole [.Subscript o ie ps] ve pos.line X.env = pure false := by rfl) (hw : swappedStores [.Subscript o ie ps] ve X.env = pure none := by rfl)
    (h1 : (assignEach [.Subscript o ie ps] X.env).map (·.2) = [assign (.Subscript o ie ps) X.env] := by rfl)
    (ha : ∀ v, assign (.Subscript o ie ps) X.env v = (do
      let ov ← holding [v] (eval o X.env)
      let iv ← holding [v, ov] (eval ie X.env)
      standAt ps
      holding [v, ov, iv] (setItem ov iv v)
      release [v, ov, iv] []) := by intro _; rfl) : PSD X ct b W (stR fo fk fv) (.Assign [.Subscript o ie ps] ve pos) :=
  PS.wk (ps_asg hv (pg_sub ho hi (set_put hu) ha) hs hw h1) fun En σ H h => by
    obtain ⟨w, en, M, s, S, r, p⟩ := h
    refine ThenS.goL (Q := fun x H1 => L2.gSub (TD X ct b W fo) (TD X ct b W fk) rPut x σ H1 En.nx) s S r p fun v M1 w1 vv H1 q s1 S1 r1 x1 => ?_
    refine ThenS.goL (s.trans s1) S1 r1 q fun od M2 w2 ov H2 q s2 S2 r2 x2 => ?_
    refine ThenS.goL ((s.trans s1).trans s2) S2 r2 q fun k M3 w3 kv H3 q s3 S3 r3 x3 => ?_
    split at q
    case h_2 => exact q.elim
    rename_i n
    split at q
    case h_2 => exact q.elim
    rename_i o2 e2
    split at q
    case h_2 => exact q.elim
    rename_i o' e'
    have x2' := s3.rep x2
    simp only [Rep] at x2'
    obtain ⟨a, rfl, ha⟩ := x2'
    obtain ⟨ho, hF, hH, ro⟩ := r3.at ha e2
    refine putM_ok (ct := ct) hH ro x3 (s3.rep (s2.rep x1)) e' fun ho2 ro2 => ?_
    obtain ⟨s4, r4⟩ := r3.write ha ro2
    exact q w3 σ _ ((((s.trans s1).trans s2).trans s3).trans s4) s4.le (S3.step s4) r4

/-! ### and, or, not as values -/
def eAnd (f g : CE) : CE := fun en M => (f en M).bind fun d M1 => (ofO ((vwD M1 d).bind TruD) M1).bind fun k M1 => if k = true then g en M1 else .ok d M1
def eOr (f g : CE) : CE := fun en M => (f en M).bind fun d M1 => (ofO ((vwD M1 d).bind TruD) M1).bind fun k M1 => if k = true then .ok d M1 else g en M1
def eNot (f : CE) : CE := fun en M => (f en M).bind fun d M1 => ofO (((vwD M1 d).bind TruD).map fun k => .bl (!k)) M1
theorem pd_and {f g : CE} (h1 : PD X ct b W f e1) (h2 : PD X ct b W g (.BoolOp .And (e2 :: es) pos)) : PD X ct b W (eAnd f g) (.BoolOp .And (e1 :: e2 :: es) pos) := PE.wk (pe_andT h1 h2) fun σ H Q h => by
  obtain ⟨w, en, M, S, rl, p⟩ := h
  refine ⟨w, en, M, S, rl, (Post.bind p).imp (fun d M1 q w1 v1 H1 s1 r1 x1 => ?_) fun _ _ _ q => q⟩
  obtain ⟨k, ek, q⟩ := ofO_post (Post.bind q)
  obtain ⟨dv, e1, e2⟩ := Option.bind_eq_some_iff.mp ek
  refine ⟨k, TruD.ok (vwD_ok r1 x1 e1) e2, ?_⟩
  cases k with
  | true =>
    rw [if_pos rfl] at q ⊢
    exact ⟨w1, en, M1, S.step s1, r1, q.imp (fun d M2 q w2 v H2 s2 r2 x2 => q w2 v H2 (s1.trans s2) r2 x2) fun c fs M2 q w2 cls dx H2 s2 => q w2 cls dx H2 (s1.trans s2)⟩
  | false =>
    rw [if_neg Bool.false_ne_true] at q ⊢
    exact q w1 v1 H1 s1 r1 x1
theorem pd_and1 {f : CE} (h1 : PD X ct b W f e1) : PD X ct b W f (.BoolOp .And [e1] pos) := pe_one h1
/-! ### code that is not reached -/
def errS : CS := fun _ _ => .err
def errE : CE := fun _ _ => .err
def errB : CB := fun _ _ => .err
end
end DL

/-! DL13: dicts: get, dict(..), displays, comprehensions. -/
namespace DL
open PySem PySem.Spec PyProof.Rows L2
/-- the kept tuples have no dict of their own -/
def KNice (K : PySem.W.Frag) : Prop := ∀ a o, K.lookup a = some o → o.cls = .type "tuple" → o.dict = none
section
variable {X : Cx} {ct : CT} {b : Base} {W : WX} {e e1 e2 e3 o : Expr} {pos : Pos} {es : List Expr}
def NT (K : PySem.W.Frag) (H : Hp) (a : Addr) (vs : List V) : Prop := (∃ o, H a = some (.frz o (.tup vs)) ∧ o.dict = none) ∨ (SqT K (fun _ => none) a vs)
theorem NT.plain (hK : KNice X.K) {pins : List (Addr × Obj)} {σ : L2.St} {H : Hp} {s : Shared} (I : Inv X pins σ H s) {a : Addr} {vs : List V} (h : NT X.K H a vs) :
    ∃ its : List Value, Vals vs its ∧ PlainSeq "tuple" s.heap a its.toArray ∧ vs.length ≤ sizeLine := by
  rcases h with ⟨o, h, hd⟩ | h
  · obtain ⟨q, z, its, r, p⟩ := I.hok a _ h
    obtain ⟨o', ho, hc, n, hdt⟩ := p
    rw [q] at ho
    cases ho
    exact ⟨its, r, ⟨o, n, q, hc, hd, hdt⟩, z⟩
  · rcases h with (h | ⟨o, h⟩) | ⟨o, its, n, hk, hc, hs, hz, r⟩
    · cases h
    · cases h
    · refine ⟨its.toList, r, ⟨o, n, I.kIn a o hk, hc, hK a o hk hc, by simpa using hs⟩, ?_⟩
      have e := r.length
      simp only [Array.length_toList] at e
      omega
/-- the pairs, as keys and values -/
def pairsD : List D → Option (List (Key × D))
  | [] => some []
  | .tup [k, v] :: r => (keyD k).bind fun k => (pairsD r).map fun l => (k, v) :: l
  | _ => none
def mergeD (ks : List Key) (xs : List D) : List (Key × D) → List Key × List D
  | [] => (ks, xs)
  | (k, v) :: r => mergeD (dput ks xs k v).1 (dput ks xs k v).2 r
theorem mergeD_rep {w : Wd} : ∀ {l : List (Key × D)} {kvs : List (Key × V)} {ks : List Key} {xs : List D} {vs : List V}, Paired (fun p q => p.1 = q.1 ∧ Rep X.K w p.2 q.2) l kvs → ks.length = xs.length → RepL X.K w xs vs →
    ∃ vs', mergeK (ks.zip vs) kvs = (mergeD ks xs l).1.zip vs' ∧ (mergeD ks xs l).1.length = (mergeD ks xs l).2.length ∧ RepL X.K w (mergeD ks xs l).2 vs'
  | _, _, ks, xs, vs, .nil, hl, h => ⟨vs, rfl, hl, h⟩
  | _, _, ks, xs, vs, .cons (a := p) (b := q) hp t, hl, h => by
    obtain ⟨vs', e1, e2, e3⟩ := dput_rep (k := p.1) (d := p.2) hl h hp.2
    obtain ⟨vs2, f1, f2, f3⟩ := mergeD_rep (ks := (dput ks xs p.1 p.2).1) (xs := (dput ks xs p.1 p.2).2) t e2 e3
    refine ⟨vs2, ?_, f2, f3⟩
    show mergeK (putK (ks.zip vs) q.1 q.2) _ = _
    rw [← hp.1, e1]
    exact f1
def gDictP : List D → Option MO
  | [.dic ks xs] => some (.dic ks xs)
  | [.lst xs] => (pairsD xs).map fun l => .dic (mergeD [] [] l).1 (mergeD [] [] l).2
  | [.tup xs] => (pairsD xs).map fun l => .dic (mergeD [] [] l).1 (mergeD [] [] l).2
  | _ => none
/-! ### d.get -/
def eGet1 (h : CH) (f : CE) : CE := fun en M => (h en M).bind fun a M1 => match vw en M1 a with
  | some (.dic _ _) => (f en M1).bind fun k M2 => match vw en M2 a with
    | some (.dic ks xs) => ofO ((keyD k).map fun k => (dget ks xs k).getD .non) M2
    | _ => .err
  | _ => .err
def eGet2 (h : CH) (f g : CE) : CE := fun en M => (h en M).bind fun a M1 => match vw en M1 a with
  | some (.dic _ _) => (f en M1).bind fun k M2 => (g en M2).bind fun z M3 => match vw en M3 a with
    | some (.dic ks xs) => ofO ((keyD k).map fun k => (dget ks xs k).getD z) M3
    | _ => .err
  | _ => .err
end
end DL

/-! DL14: dict displays, dict comprehensions. -/
namespace DL
open PySem PySem.Spec PyProof.Rows L2
def dPairs : List (CE × CE) → En → Store → Out (List (Key × D))
  | [], _, M => .ok [] M
  | (f, g) :: r, en, M => (f en M).bind fun k M1 => (g en M1).bind fun v M2 => (ofO (keyD k) M2).bind fun k M2 => (dPairs r en M2).bind fun l M3 => .ok ((k, v) :: l) M3
def nDisp (fs : List (CE × CE)) : CN := fun en M => (dPairs fs en M).bind fun l M1 => .ok (.dic (mergeD [] [] l).1 (mergeD [] [] l).2) M1
def nDict0 : CN := fun _ M => .ok (.dic [] []) M
section
variable {X : Cx} {ct : CT} {b : Base} {W : WX} {e e1 e2 e3 o : Expr} {pos : Pos} {es : List Expr}
def trs (X : Cx) (ct : CT) (b : Base) (W : WX) (fs : List (CE × CE)) : List (TE × TE) := fs.map fun f => (TD X ct b W f.1, TD X ct b W f.2)
abbrev PPD (X : Cx) (ct : CT) (b : Base) (W : WX) (pos : Pos) (keys : List (Option Expr)) (values : List Expr) (fs : List (CE × CE)) : Prop := PPs X pos keys values (trs X ct b W fs)
theorem ppd_nil : PPD X ct b W pos [] [] [] := pps_nil
theorem ppd_cons {k v : Expr} {ks : List (Option Expr)} {vs : List Expr} {f g : CE} {fs : List (CE × CE)} (hk : PD X ct b W f k) (hv : PD X ct b W g v) (hr : PPD X ct b W pos ks vs fs) : PPD X ct b W pos (some k :: ks) (v :: vs) ((f, g) :: fs) := pps_cons hk hv hr
theorem pairs_go {σ : L2.St} : ∀ {fs : List (CE × CE)} {w : Wd} {en : En} {M : Store} {H : Hp} {R : List (V × V) → Hp → Prop}, Sl X.K ct b w en σ H → Rl X.K ct w M H →
    Post (dPairs fs en M) (fun l M' => ∀ w' (kvs : List (Key × V)) H', Step w H w' H' → Rl X.K ct w' M' H' → Paired (fun (p : Key × D) (q : Key × V) => p.1 = q.1 ∧ Rep X.K w' p.2 q.2) l kvs → R (kvs.map fun kv => (kV kv.1, kv.2)) H')
      (fun c fs M' => ∀ w' cls dx H', Step w H w' H' → Sl X.K ct b w' en σ H' → Rl X.K ct w' M' H' → ExV X.K ct w' c fs cls dx H' → W cls dx σ H') → tPairs (trs X ct b W fs) σ H R
  | [], w, en, M, H, R, S, rl, p => p w [] H (Step.refl _ _) rl .nil
  | (f, g) :: r, w, en, M, H, R, S, rl, p => by
    unfold dPairs at p
    refine ⟨w, en, M, S, rl, (Post.bind p).imp (fun k M1 q w1 kv H1 s1 r1 x1 => ?_) fun _ _ _ q => q⟩
    refine ⟨w1, en, M1, S.step s1, r1, (Post.bind q).imp (fun v M2 q w2 vv H2 s2 r2 x2 => ?_) fun c fs M2 q w2 cls dx H2 s2 S2 r2 x2 => q w2 cls dx H2 (s1.trans s2) S2 r2 x2⟩
    obtain ⟨key, ek, q⟩ := ofO_post (Post.bind q)
    have := keyD_r x1 ek
    subst this
    refine pairs_go (S.step (s1.trans s2)) r2 ((Post.bind q).imp (fun l M3 q w3 kvs H3 s3 r3 x3 => ?_) fun c fs M3 q w3 cls dx H3 s3 S3 r3 x3 => q w3 cls dx H3 ((s1.trans s2).trans s3) S3 r3 x3)
    exact q w3 ((key, vv) :: kvs) H3 ((s1.trans s2).trans s3) r3 (.cons ⟨rfl, s3.rep x2⟩ x3)
theorem pn_disp {keys : List (Option Expr)} {values : List Expr} {fs : List (CE × CE)} (h : PPD X ct b W pos keys values fs) (hall : keys.all (·.isSome) = true := by rfl) (hl : keys.length = values.length := by rfl) (h0 : keys ≠ [] := by exact fun z => nomatch z)
    (h15 : keys.length ≤ 15 := by decide) (hf : fs.length ≤ 15 := by decide) : PND X ct b W (nDisp fs) (.Dict keys values pos) := PE.wk (pe_disp h hall hl h0 h15) fun σ H Q hh => by
  obtain ⟨w, en, M, S, rl, p⟩ := hh
  intro d hd
  obtain ⟨s0, r0⟩ := rl.aside (o := .dK []) hd
  have lenL : ∀ {fs : List (CE × CE)} {en : En} {M M' : Store} {l : List (Key × D)}, dPairs fs en M = .ok l M' → l.length = fs.length := fun {fs} => by
    induction fs with
    | nil => intro en M M' l e; cases e; rfl
    | cons f r ih =>
      obtain ⟨f, g⟩ := f
      intro en M M' l e
      unfold dPairs at e
      cases q1 : f en M with
      | err => rw [q1] at e; cases e
      | exc c fs M1 => rw [q1] at e; cases e
      | ok k M1 =>
        rw [q1] at e
        simp only [Out.bind_ok] at e
        cases q2 : g en M1 with
        | err => rw [q2] at e; cases e
        | exc c fs M1 => rw [q2] at e; cases e
        | ok v M2 =>
          rw [q2] at e
          simp only [Out.bind_ok] at e
          cases q3 : keyD k with
          | none => rw [q3] at e; cases e
          | some key =>
            rw [q3] at e
            simp only [ofO, Out.bind_ok] at e
            cases q4 : dPairs r en M2 with
            | err => rw [q4] at e; cases e
            | exc c fs M1 => rw [q4] at e; cases e
            | ok l' M3 =>
              rw [q4] at e
              cases e
              simp only [List.length_cons, ih q4]
  refine pairs_go (S.step s0) r0 ?_
  unfold nDisp at p
  have p := Post.bind p
  cases q0 : dPairs fs en M with
  | err => rw [q0] at p; exact p.elim
  | exc c fs' M1 =>
    rw [q0] at p
    exact fun w' cls dx H' s' S' r' x => p w' cls dx H' (s0.trans s') S' r' x
  | ok l M1 =>
    rw [q0] at p
    intro w' kvs H' s' r' x
    obtain ⟨h1, h2, h3⟩ := s'.fr d _ upd_same (fun _ z => nomatch z) (rl.sub.free hd) (rl.notin hd)
    have hk : kvs.length = l.length := by
      have : ∀ {l : List (Key × D)} {kvs : List (Key × V)}, Paired (fun p q => p.1 = q.1 ∧ Rep X.K w' p.2 q.2) l kvs → kvs.length = l.length := fun h => by
        induction h with
        | nil => rfl
        | cons _ _ ih => simp [ih]
      exact this x
    refine ⟨h1, kvs, rfl, by rw [hk, lenL q0]; exact hf, ?_⟩
    obtain ⟨vs', e1, e2, e3⟩ := mergeD_rep (X := X) (ks := []) (xs := []) (vs := []) x rfl .nil
    have so : Step w H w' (upd' H' d) := by
      have := s'.out d
      rwa [upd'_same_none hd] at this
    have := p w' d (.dK (mergeK [] kvs)) (upd' H' d) so (r'.out h2 h3 (fun o e => by rw [h1] at e; cases e; trivial)) upd'_none ⟨vs', by rw [show mergeK [] kvs = _ from e1], e2, e3⟩
    have eu : upd (upd' H' d) d (.dK (mergeK [] kvs)) = upd H' d (.dK (mergeK [] kvs)) := by
      funext a
      by_cases ha : a = d
      · subst ha
        rw [upd_same, upd_same]
      · rw [upd_ne ha, upd_ne ha]
        exact if_neg ha
    rwa [eu] at this

/-! ### dict comprehensions -/
noncomputable def compD (t : Tg) (g : List (D × D)) (tt : CB) (tk tv : CE) (en : En) : List D → List Key → List D → Store → Out (List Key × List D)
  | [], ks, xs, M => if gOk g M = true then .ok (ks, xs) M else .err
  | x :: r, ks, xs, M => if gOk g M = true then (match t.put x en with
    | some en1 => (tt en1 M).calm.bind fun k M1 => if k = true then (tk en1 M1).calm.bind fun kd M2 => (tv en1 M2).calm.bind fun v M3 => (ofO (keyD kd) M3).bind fun key M3 => compD t g tt tk tv en r (dput ks xs key v).1 (dput ks xs key v).2 M3 else compD t g tt tk tv en r ks xs M1
    | none => .err) else .err
noncomputable def nCompD (ci : CI) (t : Tg) (vs : List Nat) (tt : CB) (tk tv : CE) : CN := fun en M => (ci en M).bind fun p M1 => if p.1.length ≤ sizeLine then (compD t p.2 tt tk tv (wipeE en vs) p.1 [] [] M1).bind fun r M2 => .ok (.dic r.1 r.2) M2 else .err
end
end DL

/-! DLS: the set of texts, made from a list, and sorted. Its proofs are the kit's proofs for sets of ints, turned to texts. -/
namespace DL
open PySem PySem.Spec PyProof.Rows L2
def keyS (e : Int × Value) : Str := match e.2 with | .str k _ => k | _ => Str.empty
def GoodS (P : Program) (w : World) (e : Int × Value) : Prop := ∃ k tk, e.2 = Value.str k tk ∧ e.1 = (strKind P w).hash k

/-- the set of ints at a: S its members, n their number; its table rises and can be walked -/
def SetX (P : Program) (w : World) (h : Heap) (a : Addr) (S : Str → Bool) (n : Nat) : Prop :=
  ∃ o es ep t, h.get? a = some o ∧ o.ExactSet ∧ o.data = .set es ep t ∧ (∀ e ∈ es.toList, GoodS P w e) ∧ (es.toList.map keyS).Nodup ∧ (∀ k, S k = true ↔ k ∈ es.toList.map keyS) ∧
    es.size < scanBound ∧ t.fits es.size = true ∧ es.size = n ∧ Ris t.place.toList ∧ (w.params.followText "set-order" = true ∨ t.led = true)

section
variable {P : Program} {w : World} {h h' : Heap} {a : Addr} {S : Str → Bool} {n : Nat}

theorem SetX.at (R : SetX P w h a S n) (k : ∀ o, h.get? a = some o → h'.get? a = some o) : SetX P w h' a S n := by
  obtain ⟨o, es, ep, t, ho, r⟩ := R
  exact ⟨o, es, ep, t, k o ho, r⟩
theorem SetX.lt (R : SetX P w h a S n) : a < h.objs.size := by
  obtain ⟨o, es, ep, t, ho, r⟩ := R
  exact Heap.lt_size ho
theorem SetX.congr {S' : Str → Bool} (R : SetX P w h a S n) (e : ∀ k, S' k = S k) : SetX P w h a S' n := by
  have q : S' = S := funext e
  rw [q]; exact R
theorem goodS_elems {l : List (Int × Value)} (g : ∀ e ∈ l, GoodS P w e) : ElemsOf (strKind P w) l := fun e he => by
  obtain ⟨k, tk, h1, h2⟩ := g e he
  exact ⟨⟨k, by rw [h1]; exact strKind_is P w k tk, h2⟩, by rw [h1] <;> rfl⟩
theorem goodS_is {e : Int × Value} (g : GoodS P w e) (k : Str) : (strKind P w).is k e.2 = true ↔ keyS e = k := by
  obtain ⟨k0, tk, h1, _⟩ := g
  unfold keyS
  rw [h1]
  show ((k0 == k) = true) ↔ k0 = k
  exact beq_iff_eq
theorem goodS_mem {l : List (Int × Value)} (g : ∀ e ∈ l, GoodS P w e) (k : Str) : k ∈ l.map keyS ↔ ∃ e ∈ l, (strKind P w).is k e.2 = true := by
  rw [List.mem_map]
  constructor
  · rintro ⟨e, he, q⟩
    exact ⟨e, he, (goodS_is (g e he) k).2 q⟩
  · rintro ⟨e, he, q⟩
    exact ⟨e, he, (goodS_is (g e he) k).1 q⟩
theorem SetX.setOf (R : SetX P w h a S n) : h.SetOf (strKind P w) a S n := by
  obtain ⟨o, es, ep, t, ho, hx, hd, g, nd, hm, hb, hf, hn, _⟩ := R
  exact ⟨o, es, ep, t, ho, hx, hd, goodS_elems g, fun k => (hm k).trans (goodS_mem g k), hb, hf, hn⟩
end

section
variable {P : Program} {w : World} {A : Around} {E : Value → Shared → Prop} {s : Shared} {a : Addr} {S : Str → Bool} {n : Nat}

/-! ### add -/
end
section
variable {P : Program} {w : World} {A : Around} {E : Value → Shared → Prop} {s : Shared}
set_option maxRecDepth 100000 in
set_option maxHeartbeats 3200000 in
end
end DL

/-! DLT: sorted: lists of texts and ints, keys of dicts, sorted(set(texts)). -/
namespace DL
open PySem PySem.Spec PyProof.Rows L2
section
variable {P : Program} {w : World} {A : Around} {E : Value → Shared → Prop} {s : Shared} {a : Addr}
end
end DL

/-! DLU: sorted, as values. -/
namespace DL
open PySem PySem.Spec PyProof.Rows L2
/-! ### the order of texts -/
def leS (x y : Str) : Bool := !ltCps y.cps.toList x.cps.toList
def sortS (xs : List Str) : List Str := xs.mergeSort leS
def leZ (x y : Int) : Bool := decide (x ≤ y)
def sortZ (xs : List Int) : List Int := xs.mergeSort leZ
/-- without repetition, the first ones -/
def dedup {α : Type} [DecidableEq α] : List α → List α
  | [] => []
  | x :: r => x :: (dedup r).filter (· ≠ x)
def SetTXO (P : Program) (w : World) (a : Addr) (xs : List Str) : HO := .ext fun h => ∃ c, c ≤ xs.length ∧ SetX P w h a (fun j => decide (j ∈ xs)) c
section
variable {X : Cx}
theorem SetX.ex {P : Program} {w : World} {h : Heap} {a : Addr} {S : Str → Bool} {c : Nat} (R : SetX P w h a S c) : ∃ o, h.get? a = some o := by
  obtain ⟨o, es, ep, t, ho, _⟩ := R
  exact ⟨o, ho⟩
end

/-! ### as values -/
def strKeys : List Key → Option (List Str)
  | [] => some []
  | .inr x :: r => (strKeys r).map (x :: ·)
  | _ => none
def intKeys : List Key → Option (List Int)
  | [] => some []
  | .inl x :: r => (intKeys r).map (x :: ·)
  | _ => none
def gSorted : List D → Option MO
  | [.lst xs] => match strsD xs with
    | some zs => some (.lst ((sortS zs).map D.str))
    | none => (intsD xs).bind fun zs => if zs.length < 64 then some (.lst ((sortZ zs).map D.int)) else none
  | [.dic ks _] => match strKeys ks with
    | some zs => if zs.length < 64 then some (.lst ((sortS zs).map D.str)) else none
    | none => (intKeys ks).bind fun zs => if zs.length < 64 then some (.lst ((sortZ zs).map D.int)) else none
  | _ => none
section
variable {X : Cx} {ct : CT} {b : Base} {W : WX} {e e1 e2 e3 o : Expr} {pos : Pos} {es : List Expr}
/-- sorted(set(xs)) of texts -/
def nSortedSet (h : CH) : CN := fun en M => (h en M).bind fun a M1 => ofO ((vw en M1 a).bind fun d => match d with
  | .lst xs => (strsD xs).bind fun zs => if zs.length < 64 then some (.lst ((sortS (dedup zs)).map D.str)) else none
  | _ => none) M1
end
end DL

/-! DLV: calls with keywords. -/
namespace DL
open PySem PySem.Spec PyProof.Rows L2
def pick {α : Type} (π : List Nat) (xs : List α) : List α := π.filterMap fun i => xs[i]?
theorem Vals.at' {vs : List V} {us : List Value} (h : Vals vs us) (i : Nat) : (vs[i]? = none ∧ us[i]? = none) ∨ ∃ v u, vs[i]? = some v ∧ us[i]? = some u ∧ RelV v u := by
  induction h generalizing i with
  | nil => exact .inl ⟨rfl, rfl⟩
  | cons r _ ih =>
    cases i with
    | zero => exact .inr ⟨_, _, rfl, rfl, r⟩
    | succ i => exact ih i
theorem Vals.pick {vs : List V} {us : List Value} (h : Vals vs us) : ∀ π : List Nat, Vals (DL.pick π vs) (DL.pick π us)
  | [] => .nil
  | i :: π => by
    have ih := Vals.pick h π
    unfold DL.pick at ih ⊢
    rcases Vals.at' h i with ⟨e1, e2⟩ | ⟨v, u, e1, e2, r⟩
    · rw [List.filterMap_cons_none e1, List.filterMap_cons_none e2]
      exact ih
    · rw [List.filterMap_cons_some e1, List.filterMap_cons_some e2]
      exact .cons r ih
theorem RepL.pick {K : PySem.W.Frag} {w : Wd} {ds : List D} {vs : List V} (h : RepL K w ds vs) : ∀ π : List Nat, RepL K w (DL.pick π ds) (DL.pick π vs)
  | [] => .nil
  | i :: π => by
    have ih := RepL.pick h π
    unfold DL.pick at ih ⊢
    cases e1 : ds[i]? with
    | none =>
      have e2 : vs[i]? = none := by
        rw [List.getElem?_eq_none_iff] at e1 ⊢
        rw [← h.length]
        exact e1
      rw [List.filterMap_cons_none e1, List.filterMap_cons_none e2]
      exact ih
    | some d =>
      obtain ⟨v, e2, r⟩ := h.get e1
      rw [List.filterMap_cons_some e1, List.filterMap_cons_some e2]
      exact .cons r ih
/-- a def that may be called with n arguments by place and keywords ks -/
structure CalleeK (P : Program) (w : World) (K : PySem.W.Frag) (mg : Str → Option Value) (base : Heap) (ct : CT) (x : Str) (k n : Nat) (ks : List Str) (π : List Nat) (cf : CF) : Prop where
  ex : ∃ (f : Addr) (fd : FuncData) (ps : List Str), FnOk P w K mg base (L2.CX P w) k f fd ps (SpD K ct cf) ∧ mg x = some (.ref f) ∧ PySem.W.keepIn K (.ref f) = true ∧ KBn K fd ps n ks (fun us ws => pick π (us ++ ws)) (fun us ws => pick π (us ++ ws))
theorem kbn_mk {K : PySem.W.Frag} {x qual : Str} {st : Stmt} {f : Addr} {fd : FuncData} (F : Fun K x qual st f fd) {ps : List Str} {n : Nat} {ks : List Str} {π : List Nat}
    (h : ∀ (kV doc pm : Value) (an : Option Addr) (cdv ct : Value) (us ws : List Value), us.length = n → ws.length = ks.length → bindArgs (PySem.W.fnOf x qual (defArgs st) (defBody st) (defScope st) .none kV doc pm an cdv ct) ⟨us, ks.zip ws⟩ = pure (ps.zip (pick π (us ++ ws)))) :
    KBn K fd ps n ks (fun us ws => pick π (us ++ ws)) (fun us ws => pick π (us ++ ws)) := by
  obtain ⟨oc, od, kV, doc, pm, an, cdv, ct, osl, rfl, lk, hcd⟩ := F.ex
  exact ⟨fun s us ws _ h1 h2 => .of_eq (h kV doc pm an cdv ct us ws h1 h2), fun r1 r2 => Vals.pick (r1.append r2) π⟩
def eKw0 (m : Nat) (π : List Nat) (cf : CF) (args : CA) : CE := fun en M => (args en M).bind fun zs M1 => if zs.length = m then cf (pick π zs) M1 else .err
def eKw (n m : Nat) (π : List Nat) (cf : CF) (args kargs : CA) : CE := fun en M => (args en M).bind fun ds M1 => (kargs en M1).bind fun zs M2 => if ds.length = n ∧ zs.length = m then cf (pick π (ds ++ zs)) M2 else .err
section
variable {X : Cx} {ct : CT} {b : Base} {W : WX} {e e1 e2 e3 o : Expr} {pos : Pos} {es : List Expr}
abbrev PKD (X : Cx) (ct : CT) (b : Base) (W : WX) (f : CA) (ks : List Keyword) : Prop := PK X ks (TAD X ct b W f)
theorem pkd_nil : PKD X ct b W aNil [] := ⟨fun pos pins s σ H Q I h => by
  obtain ⟨w, en, M, S, r, p⟩ := h
  exact pk_nil.run pos pins s σ H Q I (p w _ H (Step.refl _ _) r .nil)⟩
theorem pkd_cons {n : Str} {kws : List Keyword} {f : CE} {g : CA} (h1 : PD X ct b W f e) (h2 : PKD X ct b W g kws) : PKD X ct b W (aCons f g) ((⟨some n, e, pos⟩ : Keyword) :: kws) := ⟨fun pos pins s σ H Q I h => by
  obtain ⟨w, en, M, S, rl, p⟩ := h
  refine (pk_cons h1 h2).run pos pins s σ H Q I ⟨w, en, M, S, rl, (Post.bind p).imp (fun a M1 q w1 v1 H1 s1 r1 x1 => ?_) fun _ _ _ q => q⟩
  exact ⟨w1, en, M1, S.step s1, r1, (Post.bind q).imp (fun c M2 q w2 v2 H2 s2 r2 x2 => q w2 _ H2 (s1.trans s2) r2 (.cons (s2.rep x1) x2)) fun _ _ _ q w' cls dx H' s => q w' cls dx H' (s1.trans s)⟩⟩
end
section
variable {P : Program} {w : World} {K : PySem.W.Frag} {mg : Str → Option Value} {base : Heap} {ct : CT}
end
end DL

/-! DLG: repr; defs that show data (no repr goes on around them); the law's call. -/
namespace DL
open PySem PySem.Spec PyProof.Rows L2
/-- a def's promise where no repr goes on around its call -/
structure FnG (P : Program) (w : World) (K : PySem.W.Frag) (mg : Str → Option Value) (base : Heap) (CX : CXT) (k : Nat) (f : Addr) (fd : FuncData) (ps : List Str) (sp : Sp) : Prop where
  len : ∀ vs H Q E, sp vs H Q E → vs.length = ps.length
  run : ∀ (A : Around) (outer : List Env) (s : Shared) (H : Hp) (args : Args) (us : List Value) (vs : List V) (Q : VK) (E : XK), Room k A → A.guards = some [] → Env0 P w K mg base A outer s H → BindsTo s fd args (ps.zip us) → Vals vs us → sp vs H Q E →
    codeAny (model P w) A (.call (.ref f) args) (CR CX outer P w H s Q E) s
theorem FnG.of {P : Program} {w : World} {K : PySem.W.Frag} {mg : Str → Option Value} {base : Heap} {CX : CXT} {k : Nat} {f : Addr} {fd : FuncData} {ps : List Str} {sp : Sp} (F : FnOk P w K mg base CX k f fd ps sp) : FnG P w K mg base CX k f fd ps sp :=
  ⟨F.len, fun A outer s H args us vs Q E hr _ => F.run A outer s H args us vs Q E hr⟩
theorem fn_ofG {CX : CXT} {P : Program} {w : World} {K : PySem.W.Frag} {mg : Str → Option Value} {base : Heap} {k : Nat} {f : Addr} {name qual : Str} {params : Arguments} {body : List Stmt} {scope : Scope} {dV kV doc pm cdv ct oc : Value} {an od : Option Addr}
    {osl : Array (Option Value)} {N ps : List Str} {sp : Sp} (lk : K.lookup f = some ⟨oc, od, .func (PySem.W.fnOf name qual params body scope dV kV doc pm an cdv ct), osl⟩) (hcd : PySem.W.codeIn K cdv qual = true) (S : FnScope N ps scope)
    (len : ∀ vs H Q E, sp vs H Q E → vs.length = ps.length)
    (hbody : ∀ (A : Around) (outer : List Env) (s : Shared) (H : Hp) (vs : List V) (Q : VK) (E : XK), Room k (A.deeper (envOfC qual scope s.heap.objs.size f cdv)) → A.guards = some [] → sp vs H Q E →
      ∃ t, PSs (cxOf CX P w K mg base N qual scope f cdv A outer s H E) body t ∧ t { nx := fun _ H' => Q .non H', rt := Q } (start N vs) H) :
    FnG P w K mg base CX (k + 1) f (PySem.W.fnOf name qual params body scope dV kV doc pm an cdv ct) ps sp := by
  refine ⟨len, fun A outer s H args us vs Q E hr hgd e0 hb r hsp => ?_⟩
  have hl := len _ _ _ _ hsp
  have KX : K.In s.heap := e0.mod.kin.keeps fun b o e => (e0.bs b o e).1
  have lim : s.heap.NoLimit := e0.mod.nolimit.keeps fun b o e => (e0.bs b o e).1
  have hkind : ∀ y ∈ ps.zip us, scope.names.lookup y.1 = some .local ∨ (scope.names.lookup y.1 = some .cell ∧ ((cellsFrom (s.heap.objs.size + 1) scope.names []).lookup y.1).isSome = true) := fun ⟨n, v⟩ hy => by
    rcases S.par n (List.of_mem_zip hy).1 with q | q
    · exact .inl q
    · exact .inr ⟨q, PySem.W.cellsFrom_some _ _ _ (.inl q)⟩
  refine codeAny_call_function hr.depth (KX _ _ lk) rfl S.co S.gen rfl (PySem.W.codeRec_of KX hcd) (hb _ _ _ _ ?_)
  refine wpAny_newFunctionEnv_cells S.kind hkind fun env he s1 x => ?_
  subst he
  refine ⟨lim.keeps x.toInCall.keep, codeAny_func ?_⟩
  obtain ⟨t, ht, hq⟩ := hbody A outer s H vs Q E (hr.deeper _) hgd hsp
  have I : Inv (cxOf CX P w K mg base N qual scope f cdv A outer s H E) [] (start N vs) H s1 := inv_start S hr.hd e0 hl r x
  refine wpAny_mono (ht.run [] s1 (start N vs) H _ I hq) (fun fl s' hs => ?_) fun e s' hs => hs
  have fin : ∀ {σ' : L2.St} {H' : Hp} {v : V} {u : Value}, Inv (cxOf CX P w K mg base N qual scope f cdv A outer s H E) [] σ' H' s' → RelV v u → Q v H' → L2.CE outer P w H s Q u s' :=
    fun {σ' H' v u} J rv q => ⟨v, H', J.os, J.bare, J.base, J.hok, rv, q⟩
  cases fl with
  | ret u =>
    obtain ⟨v, σ', H', J, rv, q⟩ := hs
    exact fin J rv q
  | next =>
    obtain ⟨σ', H', J, q⟩ := hs
    exact fin (v := V.non) (u := Value.none) J rfl q
  | brk =>
    obtain ⟨_, _, _, q⟩ := hs
    exact False.elim q
  | cont =>
    obtain ⟨_, _, _, q⟩ := hs
    exact False.elim q
section
variable {P : Program} {w : World} {K : PySem.W.Frag} {mg : Str → Option Value} {base : Heap} {ct : CT}
/-- THE RULE for a def that shows data -/
theorem fn_g {x qual : Str} {st : Stmt} {f : Addr} {fd : FuncData} {N ps : List Str} {k : Nat} {body : CS} (F : Fun K x qual st f fd) (S : FnScope N ps (defScope st))
    (h : ∀ (cdv : Value) (A : Around) (outer : List Env) (s : Shared) (H : Hp) (E : XK) (b : Base) (W : WX), (cxOf (L2.CX P w) P w K mg base N qual (defScope st) f cdv A outer s H E).A.guards = some [] → Cz (cxOf (L2.CX P w) P w K mg base N qual (defScope st) f cdv A outer s H E) ct b W k →
      PSsD (cxOf (L2.CX P w) P w K mg base N qual (defScope st) f cdv A outer s H E) ct b W body (defBody st)) :
    FnG P w K mg base (L2.CX P w) (k + 1) f fd ps (SpD K ct (mkF ps.length N.length body)) := by
  have hle : ps.length ≤ N.length := by
    rw [← S.pre, List.length_take]
    omega
  obtain ⟨oc, od, kV, doc, pm, an, cdv, cc, osl, rfl, lk, hcd⟩ := F.ex
  refine fn_ofG lk hcd S (fun vs H Q E q => ?_) (fun A outer s H vs Q E hr hgd q => ?_)
  · obtain ⟨w', M, ds, r, rl, p⟩ := q
    unfold mkF at p
    split at p
    · rename_i hl
      rw [← r.length, hl]
    · exact p.elim
  · obtain ⟨w', M, ds, r, rl, p⟩ := q
    unfold mkF at p
    split at p
    · rename_i hl
      have tk : Takes (cxOf (L2.CX P w) P w K mg base N qual (defScope st) f cdv A outer s H E) (fun cls d _ H => E cls d H) := takes_of rfl rfl rfl rfl
      have hp : PassesOwn (model P w) (cxOf (L2.CX P w) P w K mg base N qual (defScope st) f cdv A outer s H E).A (cxOf (L2.CX P w) P w K mg base N qual (defScope st) f cdv A outer s H E).env (cxOf (L2.CX P w) P w K mg base N qual (defScope st) f cdv A outer s H E).xe := passes_of rfl
      have hb : (⟨w', H⟩ : Base).Ok K := ⟨rl.sub, fun a ha e => rl.notin e ha⟩
      refine ⟨_, h cdv A outer s H E ⟨w', H⟩ (fun cls d _ H => E cls d H) hgd ⟨tk, hp, rfl, S.nd, hb, hr⟩, ?_⟩
      refine ⟨w', _, M, Step.refl _ _, start_sl (N := N.length) r (by rw [hl]; exact hle), rl, ?_⟩
      rw [hl]
      revert p
      cases body (ds.map (fun d => some (Slot.val d)) ++ List.replicate (N.length - ps.length) none) M with
      | ok fl M' =>
        cases fl with
        | ret d => exact fun p w2 v H2 s2 _ r2 x => p w2 v H2 s2 r2 x
        | next en => exact fun p w2 σ2 H2 s2 _ S2 r2 => p w2 _ H2 s2 r2 (by simp only [Rep])
        | exc c fs en => exact fun p w2 cls dx σ2 H2 s2 _ S2 r2 x => p w2 cls dx H2 s2 r2 x
        | brk en => exact fun p => p.elim
        | cont en => exact fun p => p.elim
      | exc c fs M' => exact fun p => p.elim
      | err => exact fun p => p.elim
    · exact p.elim
structure CalleeG (P : Program) (w : World) (K : PySem.W.Frag) (mg : Str → Option Value) (base : Heap) (ct : CT) (x : Str) (k : Nat) (cf : CF) : Prop where
  ex : ∃ (f : Addr) (fd : FuncData) (ps : List Str), FnG P w K mg base (L2.CX P w) k f fd ps (SpD K ct cf) ∧ mg x = some (.ref f) ∧ PySem.W.keepIn K (.ref f) = true ∧ Binds K fd ps []
theorem calleeG_mk {x qual : Str} {st : Stmt} {f : Addr} {fd : FuncData} {ps : List Str} {k : Nat} {cf : CF} (F : Fun K x qual st f fd) (ok : FnG P w K mg base (L2.CX P w) k f fd ps (SpD K ct cf)) (hm : mg x = some (.ref f))
    (h : ∀ (kV doc pm : Value) (an : Option Addr) (cdv ct : Value) (us : List Value), us.length = ps.length → bindArgs (PySem.W.fnOf x qual (defArgs st) (defBody st) (defScope st) .none kV doc pm an cdv ct) ⟨us, []⟩ = pure (ps.zip us)) : CalleeG P w K mg base ct x k cf :=
  ⟨f, fd, ps, ok, hm, F.kp, F.binds h⟩
end
section
variable {X : Cx} {ct : CT} {b : Base} {W : WX} {e e1 e2 e3 o : Expr} {pos : Pos} {es : List Expr}
theorem run_fnSG {k : Nat} {f : Addr} {fd : FuncData} {ps : List Str} {sp : Sp} {E : XK} {pins : List (Addr × Obj)} {σ : L2.St} {H : Hp} {s : Shared} {Q : VK} {us : List Value} {vs : List V} (F : FnG X.prog X.w X.K X.mg X.base (L2.CX X.prog X.w) k f fd ps sp) (hr : Room k X.A) (hgd : X.A.guards = some [])
    (hb : Binds X.K fd ps []) (hx : PassesAt (L2.CX X.prog X.w) X σ E) (I : Inv X pins σ H s) (r : Vals vs us) (h : sp vs H Q E) : wpAny (model X.prog X.w) X.A (call (.ref f) us) (EP X pins σ Q) X.xe s := by
  have hl : us.length = ps.length := by rw [← r.length]; exact F.len _ _ _ _ h
  have b := hb s us I.kIn (by rw [List.append_nil]; exact hl)
  rw [List.append_nil] at b
  refine wpAny_call (codeAny_mono (F.run X.A X.stack s H ⟨us, []⟩ us vs Q E hr hgd I.env0 b r h) fun r s' hq => ?_)
  cases r with
  | error e => exact hx pins H s e s' I hq
  | ok fl =>
    cases fl with
    | ret u => exact I.after hq
    | next => exact False.elim hq
    | brk => exact False.elim hq
    | cont => exact False.elim hq
theorem pd_callG {x : Str} {p : Pos} {k : Nat} {cf : CF} {args : CA} (F : CalleeG X.prog X.w X.K X.mg X.base ct x k cf) (hgd : X.A.guards = some []) (hr : Room k X.A) (tk : Takes X W) (ha : PAD X ct b W args (e :: es)) (hg : Gl X x := by rfl) (hdb : (x == ("__debug__" : Str)) = false := by decide)
    (he : starEach (e :: es) X.env = (false, eval e X.env) :: starEach es X.env := by rfl) (hpl : (backTo pos (starEach es X.env)).any (·.1) = false := by rfl) : PD X ct b W (eFn cf args) (.Call (.Name x p) (e :: es) [] pos) := by
  obtain ⟨fa, fd, ps, F, hm, hk, hb⟩ := F.ex
  refine ⟨fun pins s σ H Q I h => ?_⟩
  obtain ⟨w, en, M, S, rl, p⟩ := h
  refine wpAny_Call_Name_kw (ld_glob I hg hm ?_ hdb)
  refine PySem.W.callWith_K (h₀ := X.base) I.ok.mod.kin hk (thn (ha.run pos pins s σ H (fun vs H1 => SpD X.K ct cf vs H1 Q (WE W σ)) I ?_) fun us s1 ⟨vs, H1, I1, r, q⟩ => ⟨I1.kIn, ?_⟩) he hpl
  · refine ⟨w, en, M, S, rl, (Post.bind p).imp (fun ds M1 q w1 vs H1 s1 r1 x1 => ?_) fun _ _ _ q => q⟩
    exact ⟨w1, M1, ds, x1, r1, q.imp (fun d M2 q w2 v H2 s2 r2 x2 => q w2 v H2 (s1.trans s2) r2 x2) fun c fs M2 q w2 cls dx H2 s2 r2 x2 => q w2 cls dx H2 (s1.trans s2) (S.step (s1.trans s2)) r2 x2⟩
  · exact run_fnSG F hr hgd hb (passAt tk σ) I1 r q

/-! ### repr -/
mutual
def pyD : D → Option PyData
  | .non => some .none
  | .bl k => some (.bool k)
  | .int i => some (.int i)
  | .str x => some (.str x)
  | .tup xs => (pyDs xs).map .tuple
  | .lst xs => (pyDs xs).map .list
  | _ => none
def pyDs : List D → Option (List PyData)
  | [] => some []
  | x :: xs => (pyD x).bind fun p => (pyDs xs).map fun ps => p :: ps
end
mutual
theorem reads_of {w : Wd} {M : Store} {H : Hp} {pins : List (Addr × Obj)} {σ : L2.St} {s : Shared} (I : Inv X pins σ H s) (rl : Rl X.K ct w M H) : ∀ (d : D) (v : V) (u : Value) (p : PyData), Rep X.K w d v → RelV v u → pyD d = some p → ∃ as, Reads s.heap u p as
  | .non, v, u, p, h, r, e => by
    simp only [Rep] at h
    subst h
    simp only [pyD, Option.some.injEq] at e
    subst e
    obtain rfl : u = Value.none := r
    exact ⟨_, .none⟩
  | .bl k, v, u, p, h, r, e => by
    simp only [Rep] at h
    subst h
    simp only [pyD, Option.some.injEq] at e
    subst e
    obtain rfl : u = Value.bool k := r
    exact ⟨_, .bool k⟩
  | .int i, v, u, p, h, r, e => by
    simp only [Rep] at h
    subst h
    simp only [pyD, Option.some.injEq] at e
    subst e
    obtain ⟨t, rfl⟩ := r
    exact ⟨_, .int i t⟩
  | .str i, v, u, p, h, r, e => by
    simp only [Rep] at h
    subst h
    simp only [pyD, Option.some.injEq] at e
    subst e
    obtain ⟨t, rfl⟩ := r
    exact ⟨_, .str i t⟩
  | .tup xs, v, u, p, h, r, e => by
    simp only [Rep] at h
    obtain ⟨a, vs, rfl, h1, h2⟩ := h
    simp only [pyD] at e
    obtain ⟨ps, e1, rfl⟩ := Option.map_eq_some_iff.mp e
    cases r
    obtain ⟨its, rv, pl, _⟩ := I.tuple (rl.sub.sqt h1)
    obtain ⟨as, q⟩ := readss_of I rl xs vs its ps h2 rv e1
    obtain ⟨o, ho, hc, n, hd⟩ := pl
    exact ⟨_, .tuple ho hc hd (by simpa using q)⟩
  | .lst xs, v, u, p, h, r, e => by
    simp only [Rep] at h
    obtain ⟨a, vs, rfl, h1, h2⟩ := h
    simp only [pyD] at e
    obtain ⟨ps, e1, rfl⟩ := Option.map_eq_some_iff.mp e
    cases r
    obtain ⟨its, rv, pl, _⟩ := I.list (SqL.of (rl.sub.lst h1))
    obtain ⟨as, q⟩ := readss_of I rl xs vs its ps h2 rv e1
    obtain ⟨o, n, ho, hc, hdn, hd⟩ := pl
    exact ⟨_, .list ho hc hd (by simpa using q)⟩
  | .dic _ _, v, u, p, h, r, e => by simp only [pyD] at e; cases e
  | .ref _, v, u, p, h, r, e => by simp only [pyD] at e; cases e
  | .scr _, v, u, p, h, r, e => by simp only [pyD] at e; cases e
theorem readss_of {w : Wd} {M : Store} {H : Hp} {pins : List (Addr × Obj)} {σ : L2.St} {s : Shared} (I : Inv X pins σ H s) (rl : Rl X.K ct w M H) : ∀ (d : List D) (v : List V) (u : List Value) (p : List PyData), RepL X.K w d v → Vals v u → pyDs d = some p → ∃ as, ReadsAll s.heap u p as
  | [], v, u, p, h, r, e => by
    rw [RepL.nil_iff] at h
    subst h
    cases r
    simp only [pyDs, Option.some.injEq] at e
    subst e
    exact ⟨_, .nil⟩
  | x :: xs, v, u, p, h, r, e => by
    rw [RepL.cons_iff] at h
    obtain ⟨v1, r1, rfl, h1, h2⟩ := h
    cases r with
    | cons r0 rs =>
      simp only [pyDs] at e
      obtain ⟨p1, e1, e⟩ := Option.bind_eq_some_iff.mp e
      obtain ⟨ps, e2, rfl⟩ := Option.map_eq_some_iff.mp e
      obtain ⟨as, q1⟩ := reads_of I rl x v1 _ p1 h1 r0 e1
      obtain ⟨bs, q2⟩ := readss_of I rl xs r1 _ ps h2 rs e2
      exact ⟨_, .cons q1 q2⟩
end
def gRepr : List D → Option D
  | [.lst xs] => (pyDs xs).bind fun ps => if (PyData.list ps).showable = true ∧ (PyData.list ps).hasDict = false ∧ (PyData.list ps).depth ≤ 60 ∧ (PyData.list ps).shown.length ≤ sizeLine then some (.str (PyData.list ps).shown) else none
  | [.tup xs] => (pyDs xs).bind fun ps => if (PyData.tuple ps).showable = true ∧ (PyData.tuple ps).hasDict = false ∧ (PyData.tuple ps).depth ≤ 60 ∧ (PyData.tuple ps).shown.length ≤ sizeLine then some (.str (PyData.tuple ps).shown) else none
  | [.int i] => if i.natAbs.log2 < 1920 then some (.str (toString i)) else none
  | [.str x] => if (reprText x).length ≤ sizeLine then some (.str (reprText x)) else none
  | [.bl k] => some (.str (if k then "True" else "False"))
  | [.non] => some (.str "None")
  | _ => none
end

/-! ### the law's call: the kit's head, for such a promise -/
theorem law_callG {P : Program} {w : World} {K : PySem.W.Frag} {mg mb : Str → Option Value} {CX : CXT} {k : Nat} {fa a : Addr} {fd : FuncData} {x : Str} {sp : Sp} {s₁ : Shared} {vs : List Value} {ns : List Int}
    (KX : K.In s₁.heap) (hns : s₁.heap.Ns mainGlobals mg) (hb : s₁.heap.Ns builtinsNs mb) (hbb : ∀ x : Str, x ≠ "__name__" → mb x = bootBuiltins x) (hlim : s₁.heap.NoLimit) (hg : s₁.gens = #[])
    (ha : s₁.heap.get? a = some { cls := .type "list", data := .seq vs.toArray }) (hi : IntsAre vs ns) (hl : ns.length ≤ sizeLine) (hr : Room k callerA)
    (F : ∀ base : Heap, K.In base → base.Ns mainGlobals mg → FnG P w K mg base CX k fa fd [x] sp) (hbind : ∀ (s : Shared) (u : Value), BindsTo s fd ⟨[u], []⟩ [(x, u)])
    (hsp : ∀ H : Hp, Only H → SqL K H a (ns.map V.int) → sp [.ref a] H (fun v _ => v = .bl true) fun _ _ _ => False)
    (hCX : ∀ H e s', CX [] H s₁ (fun _ _ _ => False) e s' → False) :
    codeAny (model P w) callerA (.call (.ref fa) ⟨[.ref a], []⟩) (fun r s' => r = .ok (.ret (.bool true)) ∧ OldK s₁.heap s'.heap ∧ s'.os = s₁.os ∧ AllBare s'.gens) s₁ := by
  have rv := vals_ints hi
  have lenV := hi.length
  -- from an abstract heap in which nothing but the script may be tracked
  have core : ∀ H : Hp, Only H → SqL K H a (ns.map V.int) → HOk P w H s₁.heap → (∀ b, H b ≠ none → b = a) → (H a ≠ none → K.lookup a = none) →
      codeAny (model P w) callerA (.call (.ref fa) ⟨[.ref a], []⟩) (fun r s' => r = .ok (.ret (.bool true)) ∧ OldK s₁.heap s'.heap ∧ s'.os = s₁.os ∧ AllBare s'.gens) s₁ := by
    intro H hO hS hok hA hK
    have base_of : ∀ {b : Addr} {o : Obj}, s₁.heap.get? b = some o → H b = none → (hidT s₁.heap H).get? b = some o := fun e n => hidT_get e n
    have noA : ∀ {b : Addr} {o : Obj} {es : Array DictEntry} {ep : Nat}, s₁.heap.get? b = some o → o.data = .dict es ep → H b = none := fun {b o es ep} e d => by
      cases q : H b with
      | none => rfl
      | some u =>
        have e' : b = a := hA b (by rw [q]; simp)
        subst e'
        rw [ha] at e; cases e
        have d' : Data.seq vs.toArray _ = Data.dict es ep := d
        cases d'
    have nsK : ∀ {b : Addr} {m : Str → Option Value}, s₁.heap.Ns b m → (hidT s₁.heap H).Ns b m := fun {b m} ⟨o, es, ep, e, d, r⟩ => ⟨o, es, ep, base_of e (noA e d), d, r⟩
    have hKb : K.In (hidT s₁.heap H) := fun b o e => base_of (KX b o e) (by
      cases q : H b with
      | none => rfl
      | some u =>
        have e' : b = a := hA b (by rw [q]; simp)
        subst e'
        rw [hK (by rw [q]; simp)] at e; cases e)
    have hM : Mod K mg (hidT s₁.heap H) := ⟨hKb, nsK hns, ⟨mb, nsK hb, hbb⟩, let ⟨mc, h1, h2⟩ := hlim; ⟨mc, nsK h1, h2⟩⟩
    have e0 : Env0 P w K mg (hidT s₁.heap H) callerA [] s₁ H := ⟨rfl, hM, fun b o e => of_hidT e, Nat.le_of_eq (hidT_size _ _), trivial, fun b hb => absurd (show b ∈ ([] : List Addr) from hb) (by simp), hok, .of_eq hg⟩
    refine codeAny_mono ((F _ hKb (nsK hns)).run callerA [] s₁ H ⟨[.ref a], []⟩ [.ref a] [.ref a] _ _ hr rfl e0 (hbind s₁ (.ref a)) (.cons rfl .nil) (hsp H hO hS)) fun r s' h => ?_
    cases r with
    | error e => exact (hCX H e s' h).elim
    | ok fl =>
      cases fl with
      | next => exact False.elim h
      | brk => exact False.elim h
      | cont => exact False.elim h
      | ret u =>
        obtain ⟨v, H', os, bare, un, hok', r', q⟩ := h
        have q' : v = .bl true := q
        subst q'
        obtain rfl : u = Value.bool true := r'
        refine ⟨rfl, OldK.of_keep fun b o e => ?_, os, bare⟩
        cases q : H b with
        | none => exact un.keep b o e q (by intro z; exact absurd (show b ∈ ([] : List Addr) from z) (by simp)) (by simp)
        | some u =>
          rcases hO b with z | ⟨ob, xs, z⟩
          · rw [q] at z; cases z
          · have z2 := un.frzs b ob _ z
            obtain ⟨e1, _⟩ := hok b _ z
            obtain ⟨e2, _⟩ := hok' b _ z2
            rw [e] at e1; cases e1
            exact e2
  cases hk : K.lookup a with
  | some o =>
    -- the script is one of the module's own objects
    have e := KX a o hk
    rw [ha] at e
    cases e
    refine core (fun _ => none) (fun _ => .inl rfl) (.inr ⟨_, vs.toArray, _, hk, rfl, rfl, rfl, by rw [List.size_toArray, lenV]; exact hl, by simpa using rv⟩) (fun b u z => by have z' : (none : Option HO) = some u := z; cases z') (fun b z => absurd rfl z) fun z => absurd rfl z
  | none =>
    refine core (fun b => if b = a then some (.frz { cls := .type "list", data := .seq vs.toArray } (.lst (ns.map V.int))) else none) (fun b => ?_) (.inl (.inr ⟨{ cls := .type "list", data := .seq vs.toArray }, if_pos rfl⟩)) (fun b u z => ?_) (fun b z => ?_) fun _ => hk
    · by_cases hb : b = a
      · exact .inr ⟨_, _, if_pos hb⟩
      · exact .inl (if_neg hb)
    · by_cases hb : b = a
      · have z' := (if_pos hb).symm.trans z
        cases z'
        subst hb
        exact ⟨ha, by rw [List.length_map]; exact hl, vs, _, rv, ha⟩
      · have z' := (if_neg hb).symm.trans z
        cases z'
    · by_cases hb : b = a
      · exact hb
      · exact absurd (if_neg hb) z

/-- the end of every claim here: the promise of the law's def, and that its code answers True -/
theorem walk_dl {l : PySem.W.OpenLaw} {n k : Nat} {q : Program} {loose : List Str} {XP : (Str → Option Value) → Heap → Prop} {YP : World → Heap → Prop} {d : DefRec} {K : Params → PySem.W.Frag} {x : Str} {cf : CF}
    (hn : l.most = some n) (hn2 : n ≤ sizeLine) (hdf : d.params.defaults = []) (hr : Room k callerA)
    (hY : ∀ (w : World) (h : Heap), YP w h → (K w.params).In h)
    (F : ∀ (w : World) (mg : Str → Option Value) (fa : Addr) (h : Heap), (K w.params).In h → h.Ns mainGlobals mg → mg d.name = some (.ref fa) →
      ∃ (fd : FuncData) (ct : CT), ct.t = [] ∧ (∀ (s : Shared) (u : Value), BindsTo s fd ⟨[u], []⟩ [(x, u)]) ∧
        ∀ base : Heap, (K w.params).In base → base.Ns mainGlobals mg → FnG l.prog w (K w.params) mg base (L2.CX l.prog w) k fa fd [x] (SpD (K w.params) ct cf))
    (plain : ∀ ns : List Int, ns.length ≤ n → ∃ M, cf [.scr ns] [] = .ok (.bl true) M) :
    PySem.W.WalkO q loose XP YP l.row.toRowW d [] (fun f vs => PySem.call f vs) := by
  refine Att.attach_call hn hdf fun w s₀ s₁ mg mb fa o pm cd doc a vs ns G Y ho hd hcd hmg hobj hints hlen hg => ?_
  have KX := hY w _ Y
  obtain ⟨fd, ct, ht, hb, hF⟩ := F w mg fa _ KX G.T.g hmg
  refine law_callG KX G.T.g G.T.b G.T.builtins G.T.nolimit hg hobj hints (Nat.le_trans hlen hn2) hr hF hb (fun H hO hS => ?_) fun H e s' h => ?_
  · obtain ⟨M, e⟩ := plain ns hlen
    have nice : ∀ a o, H a = some o → NiceH o := fun b o q => by
      rcases hO b with z | ⟨ob, xs, z⟩
      · rw [q] at z
        cases z
      · rw [q] at z
        cases z
        trivial
    refine ⟨⟨[], H⟩, [], [.scr ns], .one ?_, ⟨fun b o q => .inl q, rfl, List.nodup_nil, fun n o q => by simp at q, nice, fun p hp => by rw [ht] at hp; cases hp⟩, ?_⟩
    · simp only [Rep]
      refine ⟨a, rfl, ?_⟩
      rcases hS with (z | ⟨o, z⟩) | z
      · rcases hO a with y | ⟨ob, xs, y⟩
        · rw [z] at y
          cases y
        · rw [z] at y
          cases y
      · exact .inl ⟨o, z⟩
      · exact .inr (.inr z)
    · rw [e]
      intro w' v H' _ _ x
      simp only [Rep] at x
      exact x
  · obtain ⟨_, _, _, _, _, _, _, _, _, _, _, _, z⟩ := h
    exact z.elim
/-- the kept tuples, looked through -/
def kNiceB (K : PySem.W.Frag) : Bool := K.all fun p => match p.2.cls with
  | .type t => !(t == "tuple") || p.2.dict.isNone
  | _ => true
theorem lk_mem : ∀ {K : List (Addr × Obj)} {a : Addr} {o : Obj}, K.lookup a = some o → (a, o) ∈ K
  | [], _, _, e => by cases e
  | (c, x) :: r, a, o, e => by
    rw [List.lookup_cons] at e
    split at e
    · rename_i h
      cases e
      have : a = c := by simpa using h
      subst this
      exact List.mem_cons_self
    · exact List.mem_cons_of_mem _ (lk_mem e)
theorem kNice_of {K : PySem.W.Frag} (h : kNiceB K = true) : KNice K := fun a o e hc => by
  have hm : (a, o) ∈ K := lk_mem e
  have := List.all_eq_true.mp h _ hm
  simp only [hc, beq_self_eq_true, Bool.not_true, Bool.false_or, Option.isNone_iff_eq_none] at this
  exact this
theorem glb_str {K : PySem.W.Frag} {mg : Str → Option Value} {x z : Str} {t : Tok} (h : mg x = some (.str z t)) : Glb K mg x (.str z) := ⟨_, V.str z, h, ⟨t, rfl⟩, fun _ => by simp only [Rep]⟩
theorem glb_int {K : PySem.W.Frag} {mg : Str → Option Value} {x : Str} {z : Int} {t : Tok} (h : mg x = some (.int z t)) : Glb K mg x (.int z) := ⟨_, V.int z, h, ⟨t, rfl⟩, fun _ => by simp only [Rep]⟩
end DL

/-! DLP: plain laws of the combinators: loops, comprehensions, tables, equality. -/
namespace DL
open PySem PySem.Spec PyProof.Rows L2
/-- a comprehension whose parts change nothing -/
theorem compL_map {t : Tg} {tt : CB} {te : CE} {en : En} {M : Store} {g : D → Bool} {f : D → D} : ∀ {xs : List D}, (∀ x ∈ xs, ∃ en1, t.put x en = some en1 ∧ tt en1 M = .ok (g x) M ∧ (g x = true → te en1 M = .ok (f x) M)) →
    compL t [] tt te en xs M = .ok ((xs.filter g).map f) M
  | [], _ => by simp [compL]
  | x :: xs, h => by
    obtain ⟨en1, h1, h2, h3⟩ := h x List.mem_cons_self
    have ih := compL_map (xs := xs) fun y hy => h y (List.mem_cons_of_mem _ hy)
    unfold compL
    simp only [gOk_nil, if_true, h1, h2, Out.calm_ok, Out.bind_ok]
    by_cases hg : g x = true
    · simp [hg, h3 hg, ih]
    · simp [hg, ih]
/-- a comprehension whose parts change the store -/
theorem compL_inv {t : Tg} {te : CE} {en : En} {xs : List D} (P : Nat → List D → Store → Prop) : ∀ (n i : Nat) (acc : List D) (M : Store), xs.length = i + n → P i acc M →
    (∀ i x acc M, xs[i]? = some x → P i acc M → ∃ en1 d M', t.put x en = some en1 ∧ te en1 M = .ok d M' ∧ P (i + 1) (acc ++ [d]) M') → ∃ r M', compL t [] tYesD te en (xs.drop i) M = .ok r M' ∧ P xs.length (acc ++ r) M'
  | 0, i, acc, M, hn, p, h => by
    rw [List.drop_eq_nil_of_le (by omega)]
    exact ⟨[], M, by simp [compL], by rw [List.append_nil, hn]; exact p⟩
  | n + 1, i, acc, M, hn, p, h => by
    have hi : i < xs.length := by omega
    obtain ⟨en1, d, M1, h1, h2, h3⟩ := h i xs[i] acc M (List.getElem?_eq_getElem hi) p
    obtain ⟨r, M2, e1, e2⟩ := compL_inv P n (i + 1) (acc ++ [d]) M1 (by omega) h3 h
    rw [List.drop_eq_getElem_cons hi]
    refine ⟨d :: r, M2, ?_, by rw [← List.append_cons] at e2; exact e2⟩
    unfold compL
    simp [h1, tYesD, h2, e1]
/-! ### equality of plain data -/
inductive Pl : Nat → D → Prop
  | int (n : Nat) (i : Int) : Pl (n + 1) (.int i)
  | str (n : Nat) (x : Str) : Pl (n + 1) (.str x)
  | bl (n : Nat) (x : Bool) : Pl (n + 1) (.bl x)
  | non (n : Nat) : Pl (n + 1) .non
  | tup (n : Nat) (xs : List D) : (∀ x ∈ xs, Pl n x) → Pl (n + 1) (.tup xs)
  | lst (n : Nat) (xs : List D) : (∀ x ∈ xs, Pl n x) → Pl (n + 1) (.lst xs)
  | dic (n : Nat) (ks : List Key) (xs : List D) : ks.Nodup → ks.length = xs.length → (∀ x ∈ xs, Pl n x) → Pl (n + 1) (.dic ks xs)
theorem Pl.qOk {n : Nat} {d : D} (h : Pl n d) : qOk d d = true := by cases h <;> rfl
/-! ### tables: dicts from texts to whole numbers -/
def tk (ns : List Str) : List Key := ns.map Sum.inr
def tx (ns : List Str) (f : Str → Int) : List D := ns.map fun n => .int (f n)
def ufn (f : Str → Int) (n : Str) (v : Int) : Str → Int := fun m => if m = n then v else f m
/-! ### one step at a time -/
end DL

/-! DL15: new tuples that are read at once (divmod), and more built-in steps. -/
namespace DL
open PySem PySem.Spec PyProof.Rows L2
section
variable (X : Cx) (ct : CT) (b : Base) (W : WX)
/-- an expression whose tuple is had for this moment alone -/
def TTW (f : CE) : TE := fun σ H Q => ∃ w en M, Sl X.K ct b w en σ H ∧ Rl X.K ct w M H ∧ Post (f en M)
  (fun d M' => ∀ w' v H', Step w H w' H' → Rl X.K ct w' M' H' → RW X.K w' H' d v → Q v H')
  (fun c fs M' => ∀ w' cls dx H', Step w H w' H' → Sl X.K ct b w' en σ H' → Rl X.K ct w' M' H' → ExV X.K ct w' c fs cls dx H' → W cls dx σ H')
abbrev PTW (f : CE) (e : Expr) : Prop := PE X e (TTW X ct b W f)
end
def OkW (K : PySem.W.Frag) (ct : CT) (w : Wd) (M : Store) (H : Hp) (d : D) (Q : VK) : Prop := ∀ w' v H', Step w H w' H' → Rl K ct w' M H' → RW K w' H' d v → Q v H'
def CallW (X : Cx) (ct : CT) (fv : Value) (g : List D → Option D) : Prop := ∃ r, CallR X fv r ∧ ∀ w M H ds vs d Q, Rl X.K ct w M H → Vws X.K w H ds vs → g ds = some d → OkW X.K ct w M H d Q → r vs H Q
section
variable {X : Cx} {ct : CT} {b : Base} {W : WX} {e e1 e2 e3 : Expr} {pos : Pos} {es : List Expr}
theorem CallW.mk' {fv : Value} {g : List D → Option D}
    (h : ∀ (pins : List (Addr × Obj)) (s : Shared) (σ : L2.St) (H : Hp) (vs : List V) (us : List Value) (Q : VK) (w : Wd) (M : Store) (ds : List D) (d : D), Inv X pins σ H s → Vals vs us → Rl X.K ct w M H → Vws X.K w H ds vs → g ds = some d →
      OkW X.K ct w M H d Q → wpAny (model X.prog X.w) X.A (call fv us) (EP X pins σ Q) X.xe s) : CallW X ct fv g :=
  ⟨fun vs H Q => ∃ w M ds d, Rl X.K ct w M H ∧ Vws X.K w H ds vs ∧ g ds = some d ∧ OkW X.K ct w M H d Q,
    fun pins s σ H vs us Q I rx ⟨w, M, ds, d, rl, hx, e, k⟩ => h pins s σ H vs us Q w M ds d I rx rl hx e k,
    fun w M H ds vs d Q rl hx e k => ⟨w, M, ds, d, rl, hx, e, k⟩⟩
/-- divmod of whole numbers, a positive divisor, as far as C divides by itself -/
def gDivmod : List D → Option D
  | [.int i, .int j] => if 0 < j ∧ Builtin.Int.intBits i ≤ Builtin.Int.intBits j + 4000 then some (.tup [.int (i / j), .int (i % j)]) else none
  | _ => none
end
end DL

/-! DL16: zip of two lists or of two tuples; the pairs are had for the turn alone. -/
namespace DL
open PySem PySem.Spec PyProof.Rows L2
def zipD (xs ys : List D) : List D := (xs.zip ys).map fun p => .tup [p.1, p.2]
def zipO (M : Store) (d1 d2 : D) : Option (List D × List (D × D)) := match vwD M d1, vwD M d2 with
  | some (.lst xs), some (.lst ys) => some (zipD xs ys, gdD d1 (.lst xs) ++ gdD d2 (.lst ys))
  | some (.tup xs), some (.tup ys) => some (zipD xs ys, [])
  | _, _ => none
def iZip2 (f : CA) : CI := fun en M => (f en M).bind fun ds M1 => match ds with
  | [d1, d2] => ofO (zipO M1 d1 d2) M1
  | _ => .err
section
variable {X : Cx} {ct : CT} {b : Base} {W : WX} {e e1 e2 e3 : Expr} {pos : Pos} {es : List Expr}
end
end DL

/-! DL17: methods of a text; slices of a text. -/
namespace DL
open PySem PySem.Spec PyProof.Rows L2
def eSM (g : Str → List D → Option D) (f : CE) (args : CA) : CE := fun en M => (f en M).bind fun d M1 => match d with
  | .str z => (args en M1).bind fun ds M2 => ofO (g z ds) M2
  | _ => .err
def optE : Option CE → En → Store → Out (Option Int)
  | none, _, M => .ok none M
  | some f, en, M => (f en M).bind fun d M1 => match d with
    | .int i => .ok (some i) M1
    | _ => .err
def eSlS (f : CE) (lo hi : Option CE) : CE := fun en M => (f en M).bind fun d M1 => match d with
  | .str z => (optE lo en M1).bind fun l M2 => (optE hi en M2).bind fun u M3 => if z.length ≤ sizeLine then .ok (.str (cutS z l u)) M3 else .err
  | _ => .err
section
variable (X : Cx) (ct : CT) (b : Base) (W : WX)
def TOD (o : Option CE) : TO := fun σ H Q => ∃ w en M, Sl X.K ct b w en σ H ∧ Rl X.K ct w M H ∧ Post (optE o en M)
  (fun d M' => ∀ w' H', Step w H w' H' → Rl X.K ct w' M' H' → Q d H')
  (fun c fs M' => ∀ w' cls dx H', Step w H w' H' → Sl X.K ct b w' en σ H' → Rl X.K ct w' M' H' → ExV X.K ct w' c fs cls dx H' → W cls dx σ H')
abbrev POD (o : Option CE) (e : Option Expr) : Prop := PO X e (TOD X ct b W o)
def SMet (id : String) (g : Str → List D → Option D) : Prop := ∃ r, MtR X id r ∧ ∀ w M H z ds vs d Q, Rl X.K ct w M H → RepL X.K w ds vs → g z ds = some d → Ok1 X.K ct w M H d Q → r (.str z) vs H Q
end
section
variable {X : Cx} {ct : CT} {b : Base} {W : WX} {o e e1 e2 e3 : Expr} {pos p2 : Pos} {es : List Expr}
theorem PO.wk {e : Option Expr} {t t' : TO} (h : PO X e t) (m : ∀ σ H Q, t' σ H Q → t σ H Q) : PO X e t' := ⟨fun pins s σ H Q I q => h.run pins s σ H Q I (m σ H Q q)⟩
theorem pod_none : POD X ct b W none none := PO.wk po_none fun σ H Q h => by
  obtain ⟨w, en, M, S, rl, p⟩ := h
  exact p w H (Step.refl _ _) rl
theorem pod_some {f : CE} (h : PD X ct b W f e) : POD X ct b W (some f) (some e) := PO.wk (po_some h) fun σ H Q h => by
  obtain ⟨w, en, M, S, rl, p⟩ := h
  refine ⟨w, en, M, S, rl, (Post.bind p).imp (fun d M1 q w1 v H1 s1 r1 x1 => ?_) fun _ _ _ q => q⟩
  split at q
  · rename_i i
    simp only [Rep] at x1
    exact ⟨i, x1, q w1 H1 s1 r1⟩
  · exact q.elim
theorem pd_slS {f : CE} {lo hi : Option CE} {el eu : Option Expr} (he : PD X ct b W f e) (hl : POD X ct b W lo el) (hu : POD X ct b W hi eu) : PD X ct b W (eSlS f lo hi) (.Subscript e (.Slice el eu none p2) pos) :=
  PE.wk (pe_slice sl_str he hl hu) fun σ H Q h => by
    obtain ⟨w, en, M, S, rl, p⟩ := h
    refine ⟨w, en, M, S, rl, (Post.bind p).imp (fun d M1 q w1 v H1 s1 r1 x1 => ?_) fun _ _ _ q => q⟩
    split at q
    · rename_i z
      simp only [Rep] at x1
      subst x1
      refine ⟨w1, en, M1, S.step s1, r1, (Post.bind q).imp (fun l M2 q w2 H2 s2 r2 => ?_) fun c fs M2 q w2 cls dx H2 s2 S2 r2 x2 => q w2 cls dx H2 (s1.trans s2) S2 r2 x2⟩
      refine ⟨w2, en, M2, S.step (s1.trans s2), r2, (Post.bind q).imp (fun u M3 q w3 H3 s3 r3 => ?_) fun c fs M2 q w3 cls dx H3 s3 S3 r3 x3 => q w3 cls dx H3 ((s1.trans s2).trans s3) S3 r3 x3⟩
      split at q
      · rename_i hz
        exact ⟨z, rfl, hz, q w3 _ H3 ((s1.trans s2).trans s3) r3 (by simp only [Rep])⟩
      · exact q.elim
    · exact q.elim
theorem pd_sm {id : String} {name : Str} {g : Str → List D → Option D} {f : CE} {args : CA} {apos cpos : Pos} (hm : SMet X ct id g) (pa : PlainAttrs "str") (slot : PySem.Slot "str" name id) (hty : typeOf (.builtin id) = pure (.type "method_descriptor"))
    (ho : PD X ct b W f o) (ha : PAD X ct b W args (e :: es))
    (hbase : attributeBase o name X.env (eval o X.env) = eval o X.env := by rfl)
    (hfew : ((backTo cpos (starEach (e :: es) X.env)).all (fun x => !x.1) && (backToKw cpos (keywordEach [] X.env)).all (fun x => x.1.isSome)
      && decide ((e :: es).length + ([] : List Keyword).length + (if ([] : List Keyword).isEmpty then 0 else 1) < 30)) = true := by rfl)
    (hline : (apos.endLine == cpos.line) = true := by rfl) (hs : starEach (e :: es) X.env = (false, eval e X.env) :: starEach es X.env := by rfl) (hplain : (backTo cpos (starEach es X.env)).any (·.1) = false := by rfl) :
    PD X ct b W (eSM g f args) (.Call (.Attribute o name apos) (e :: es) [] cpos) := by
  obtain ⟨r, hmt, hr⟩ := hm
  refine PE.wk (pe_bm pa slot hty hmt ho ha hbase hfew hline hs hplain) fun σ H Q h => ?_
  obtain ⟨w, en, M, S, rl, p⟩ := h
  refine ⟨w, en, M, S, rl, (Post.bind p).imp (fun d M1 q w1 v1 H1 s1 r1 x1 => ?_) fun _ _ _ q => q⟩
  split at q
  case h_2 => exact q.elim
  rename_i z
  simp only [Rep] at x1
  subst x1
  refine ⟨by simp [tyV], w1, en, M1, S.step s1, r1, (Post.bind q).imp (fun ds M2 q w2 vs H2 s2 r2 x2 => ?_) fun c fs M2 q w2 cls dx H2 s2 S2 r2 x2 => q w2 cls dx H2 (s1.trans s2) S2 r2 x2⟩
  obtain ⟨d, ed, q⟩ := ofO_post q
  exact hr w2 M2 H2 z ds vs d Q r2 x2 ed fun w3 v H3 s3 r3 x3 => q w3 v H3 ((s1.trans s2).trans s3) r3 x3
def gCount : Str → List D → Option D
  | z, [.str y] => some (.int (Txt.count z y))
  | _, _ => none
end
end DL

/-! DL18: sum and min of a tuple. -/
namespace DL
open PySem PySem.Spec PyProof.Rows L2
def gSumT : List D → Option D
  | [.lst xs] => (intsD xs).map fun ns => .int ns.sum
  | [.tup xs] => (intsD xs).map fun ns => .int ns.sum
  | _ => none
section
variable {X : Cx} {ct : CT}
def gMinT : List D → Option D
  | [.int i, .int j] => some (.int (if j < i then j else i))
  | [.tup xs] => (intsD xs).bind fun ns => ns.min?.map D.int
  | [.lst xs] => (intsD xs).bind fun ns => ns.min?.map D.int
  | _ => none
end
end DL

/-! DL19: three names at once. -/
namespace DL
open PySem PySem.Spec PyProof.Rows L2
def par3S (i j l : Nat) (te : CA) : CS := fun en M => thenA (te en M) en fun ds M' => match ds with
  | [d1, d2, d3] => .ok (.next (((en.set i (some (.val d1))).set j (some (.val d2))).set l (some (.val d3)))) M'
  | _ => .err
section
variable {X : Cx} {ct : CT} {b : Base} {W : WX} {e e1 e2 e3 : Expr} {pos : Pos}
end
end DL

/-! DL20: enumerate of a list, a tuple, a text; the pairs are had for the turn alone. -/
namespace PySem
open Sem (wp)
open AutoSeq1 (wpAny_loadPart')
theorem meets_enum1 {v : Value} {o : Obj} {H : Heap → Prop} (B : Begins v o H) :
    Meets (Builtin.«enumerate.__new__» ⟨[.type "enumerate", v], []⟩) (fun _ R s => H s.heap ∧
      R (.ok (.ret (.ref (s.heap.push o).objs.size))) { s with heap := (s.heap.push o).push { cls := .type "enumerate", data := .fields #[.none, .bool false, .ref s.heap.objs.size, rawInt 0, .none, .none] } }) :=
  .of_wp fun prog w A R s h => by
    obtain ⟨hp, g, d, tk, os⟩ := s; obtain ⟨h1, h⟩ := h
    have hsub := sub_enumerate
    have q1 : ∀ {A' : Around} {E : Value → Shared → Prop} {Q : Value → Shared → Prop}, Q (.ref hp.objs.size) ⟨hp.push o, g, d, tk, os⟩ → wpAny (model prog w) A' (pyIter v) Q E ⟨hp, g, d, tk, os⟩ :=
      fun q => B.iter prog w _ _ ⟨hp, g, d, tk, os⟩ _ h1 q
    wp_walk using q1
    refine wpAny_stack_any fun st => wpAny_pure ?_
    split
    · rename_i c _ _ _ _ _
      cases (c == Value.type "enumerate")
      · wp_walk using q1
        exact ⟨_, rfl, h⟩
      · wp_walk using q1
        exact ⟨_, rfl, h⟩
    · wp_walk using q1
      exact ⟨_, rfl, h⟩
section
variable {prog : Program} {w : World} {A : Around} {E : Value → Shared → Prop} {s : Shared}
theorem enum_begins1 {v : Value} {o : Obj} {H : Heap → Prop} {Q : Value → Shared → Prop} (B : Begins v o H) (h1 : H s.heap)
    (h : ∀ h', IsEnum h' (s.heap.objs.size + 1) s.heap.objs.size 0 .none → h'.get? s.heap.objs.size = some o → h'.objs.size = s.heap.objs.size + 2 →
      (∀ b o, s.heap.get? b = some o → h'.get? b = some o) → Q (.ref (s.heap.objs.size + 1)) { s with heap := h' }) :
    wpAny (model prog w) A (call (.type "enumerate") [v]) Q E s := by
  refine callType_new F.called_enumerate (by decide) (F.typeCall_enumerate_1 _) (F.newCall_enumerate_1 _) (fun obj => F.args_object_init_2 obj _) F.entry_enumerate_new
    (meets_enum1 B) ⟨h1, ?_⟩
  have hz : (s.heap.push o).objs.size = s.heap.objs.size + 1 := Heap.size_push ..
  show _ ∧ _
  rw [hz]
  have he : IsEnum ((s.heap.push o).push { cls := .type "enumerate", data := .fields #[.none, .bool false, .ref s.heap.objs.size, rawInt 0, .none, .none] }) (s.heap.objs.size + 1) s.heap.objs.size 0 .none := by
    have := Heap.get?_push_size (s.heap.push o) (o := { cls := .type "enumerate", data := .fields #[.none, .bool false, .ref s.heap.objs.size, rawInt 0, .none, .none] }) rfl
    rw [hz] at this; exact this
  refine ⟨⟨_, he, rfl⟩, h _ he (Heap.get?_push_of_some _ (Heap.get?_push_size _ B.free)) (by rw [Heap.size_push, hz]) fun b o x => Heap.get?_push_of_some _ (Heap.get?_push_of_some _ x)⟩
end
end PySem
namespace DL
open PySem PySem.Spec PyProof.Rows L2
/-- the items xs, each in a new pair -/
def ItE (K : PySem.W.Frag) (xs : List V) (G : Hp → Prop) : It :=
  ⟨fun i H => G H ∧ i < xs.length, fun i H v H' => ∃ T x, v = .ref T ∧ H T = none ∧ H' = upd H T (.tup [.int (i : Nat), x]) ∧ xs[i]? = some x, fun i H => G H ∧ xs.length ≤ i⟩
/-- an inner iterator of fixed items -/
theorem turn_enumG {P : Program} {w : World} {K : PySem.W.Frag} {elts : List Expr} {kk : Nat} {tpos : Pos} (xs : List V) (G : Hp → Prop) (e it : Addr) (fpi : List Addr) (It0 : Nat → Heap → Prop) (Sv : List Value → Nat → Heap → Prop) (hne : e ≠ it)
    (hof : ∀ i h, It0 i h → ∃ o, h.get? it = some o ∧ ∀ v, o.data ≠ .cell v)
    (hk0 : ∀ i h h', It0 i h → (∀ o, h.get? it = some o → h'.get? it = some o) → It0 i h')
    (hst : ∀ (X : Cx) (pins : List (Addr × Obj)) (s : Shared) (σ : L2.St) (H : Hp) (i : Nat), X.prog = P → X.w = w → X.K = K → Inv X pins σ H s → G H → It0 i s.heap → (∃ old, IsEnum s.heap e it ((i : Nat) : Int) old) → ∃ its, Vals xs its ∧ Sv its i s.heap ∧ e ∉ fpi)
    (hin : ∀ its i h, Sv its i h → It0 i h)
    (D : ∀ (A : Around) (its : List Value), A.handled = none → (∃ i h, Sv its i h) → ∃ Pp, Draws P w A it fpi its.length Pp (Sv its) ∧ ∀ i u, Pp i u → ∀ x, (xs : List V)[i]? = some x → Vals xs its → RelV x u) :
    Turn P w K (.Tuple elts kk tpos) (ItE K xs G) [e, it] e (fun i h => (∃ old, IsEnum h e it ((i : Nat) : Int) old) ∧ It0 i h ∧ i ≤ xs.length) where
  mem := by simp
  obj := fun i h st b hb => by
    obtain ⟨⟨old, he⟩, hi, _⟩ := st
    have e' : b = e ∨ b = it := by simpa using hb
    rcases e' with z | z
    · rw [z]; exact ⟨_, he, fun v q => nomatch q⟩
    · rw [z]; exact hof i h hi
  keep := fun i h h' st k => let ⟨⟨old, he⟩, hi, hl⟩ := st; ⟨⟨old, k e (by simp) _ he⟩, hk0 i h h' hi fun o q => k it (by simp) o q, hl⟩
  item := by
    intro X hP hw hK hc i pins s σ H E I hf st hg
    have HH := hst X pins s σ H i hP hw hK I hg.1 st.2.1 st.1
    subst hP hw hK
    obtain ⟨⟨old, he⟩, hit, hil⟩ := st
    obtain ⟨its, rv, hS, hnf⟩ := HH
    obtain ⟨Pp, dr, hp⟩ := D X.A.in1 its (I.ok.hd hc) ⟨_, _, hS⟩
    have hlt : i < its.length := by rw [← rv.length]; exact hg.2
    have hel : e < s.heap.objs.size := Heap.lt_size he
    have hisz : it < s.heap.objs.size := by obtain ⟨_, q, _⟩ := hof i _ hit; exact Heap.lt_size q
    refine wpAny_pyNext_enum_itemD dr he hS hlt hne hnf fun u h' tk hu ho hS' hT hsz hk => ?_
    refine ⟨_, rfl, wpAny_letOwnedTupleGo_enum (s := { s with heap := h', toks := tk + 1 }) ho fun h'' he' sb => ?_⟩
    have hT2 : h''.get? s.heap.objs.size = some { cls := .type "tuple", data := .seq #[.int i tk, u] } := (sb.2 _ (Nat.ne_of_gt hel)).trans hT
    have hx : xs[i]? = some (xs[i]'hg.2) := List.getElem?_eq_getElem hg.2
    have ru : RelV (xs[i]'hg.2) u := hp i u hu _ hx rv
    have new : ObjOk X.prog X.w (upd H s.heap.objs.size (.tup [.int (i : Nat), xs[i]'hg.2])) h'' s.heap.objs.size (.tup [.int (i : Nat), xs[i]'hg.2]) :=
      ⟨by show 2 ≤ sizeLine; decide, [.int i tk, u], .cons ⟨_, rfl⟩ (.cons ru .nil), ⟨_, hT2, rfl, _, rfl⟩⟩
    have I1 : Inv X pins σ (upd H s.heap.objs.size (.tup [.int (i : Nat), xs[i]'hg.2])) { s with heap := h'', toks := tk + 1 } :=
      I.turnedNew (ch := [e, it]) (fun b ob hb q => (sb.2 b (fun z => hb (by simp [z]))).trans (hk b ob (fun z => hb (by simp [z])) (fun z => hb (by simp [z])) q)) hf (Nat.le_refl _) new
    refine ⟨.ref s.heap.objs.size, _, I1, rfl, ⟨_, _, rfl, I.hok.fresh (Nat.le_refl _), rfl, hx⟩, ⟨⟨u, ?_⟩, hk0 _ _ _ (hin _ _ _ hS') fun o q => (sb.2 it (Ne.symm hne)).trans q, hg.2⟩, fun b hb => ?_⟩
    · have e1 : ((i + 1 : Nat) : Int) = (i : Int) + 1 := by omega
      rw [e1]; exact he'
    · have hb' : b < s.heap.objs.size := by
        have e' : b = e ∨ b = it := by simpa using hb
        rcases e' with z | z
        · rw [z]; exact hel
        · rw [z]; exact hisz
      rw [upd_ne (Nat.ne_of_lt hb')]
      exact (hf b hb).1
  done := by
    intro X hP hw hK hc i pins s σ H E I hf st hg
    have HH := hst X pins s σ H i hP hw hK I hg.1 st.2.1 st.1
    subst hP hw hK
    obtain ⟨⟨old, he⟩, hit, hil⟩ := st
    obtain ⟨its, rv, hS, hnf⟩ := HH
    obtain ⟨Pp, dr, hp⟩ := D X.A.in1 its (I.ok.hd hc) ⟨_, _, hS⟩
    obtain ⟨f0, f1, f2, f3, f4, f5⟩ := hf it (by simp)
    have hl := rv.length
    have hii : i = its.length := by
      have := hg.2
      omega
    have hS' : Sv its its.length s.heap := hii ▸ hS
    exact wpAny_pyNext_enum_endD dr he hS' fun h' eb => ⟨rfl, I.turned (t' := s.toks) (fun b o hb q => eb b o hb q) f0 f1 f3 f4 f5⟩
  self := fun A i s Q E st h => let ⟨⟨_, he⟩, _⟩ := st; wpAny_pyIter_enum he h
/-! ### the three kinds -/
theorem vals_get {xs : List V} {its : List Value} (h : Vals xs its) {i : Nat} {x : V} {u : Value} (hx : xs[i]? = some x) (hu : its[i]? = some u) : RelV x u := by
  obtain ⟨u', e, r⟩ := h.get hx
  rw [hu] at e
  cases e
  exact r
theorem turn_enumT {P : Program} {w : World} {K : PySem.W.Frag} {elts : List Expr} {kk : Nat} {tpos : Pos} (xs : List V) (a e it : Addr) (hne : e ≠ it) :
    Turn P w K (.Tuple elts kk tpos) (ItE K xs fun H => SqT K H a xs) [e, it] e (fun i h => (∃ old, IsEnum h e it ((i : Nat) : Int) old) ∧ h.IsTupleIter it a i ∧ i ≤ xs.length) := by
  refine turn_enumG xs _ e it [it, a] (fun i h => h.IsTupleIter it a i) (fun its i h => h.IsTupleIter it a i ∧ h.IsTuple a its.toArray) hne (fun i h ⟨o, ho, hc, hd⟩ => ⟨o, ho, fun v q => by rw [hd] at q; cases q⟩) (fun i h h' st k => st.at k) (fun X pins s σ H i hP hw hK I hg hi he => ?_) (fun its i h q => q.1) (fun A its hh ⟨i, h, q1, q2⟩ => ?_)
  · subst hK
    obtain ⟨its, rv, p, hz⟩ := I.tuple hg
    obtain ⟨old, he⟩ := he
    refine ⟨its, rv, ⟨hi, show s.heap.IsTuple a its.toArray from p⟩, ?_⟩
    simp only [List.mem_cons, List.not_mem_nil, or_false, not_or]
    refine ⟨hne, fun z => ?_⟩
    subst z
    obtain ⟨o, ho, hc, _⟩ := p
    have he' : s.heap.get? e = some _ := he
    rw [he'] at ho
    cases ho
    simp at hc
  · have ne : a ≠ it := by
      intro z
      subst z
      obtain ⟨o, ho, hc, _⟩ := q1
      obtain ⟨o', ho', hc', _⟩ := q2
      rw [ho] at ho'
      cases ho'
      rw [hc] at hc'
      simp at hc'
    exact ⟨_, by simpa using Draws.tuple (prog := P) (w := w) (A := A) hh it a ne its.toArray, fun i u hu x hx rv => vals_get rv hx hu⟩
theorem turn_enumS {P : Program} {w : World} {K : PySem.W.Frag} {elts : List Expr} {kk : Nat} {tpos : Pos} (z : Str) (t : Tok) (e it : Addr) (hne : e ≠ it) :
    Turn P w K (.Tuple elts kk tpos) (ItE K (z.cps.toList.map fun c => .str ⟨#[c]⟩) fun _ => True) [e, it] e (fun i h => (∃ old, IsEnum h e it ((i : Nat) : Int) old) ∧ h.IsStrIter it (strIterType z) z t i ∧ i ≤ (z.cps.toList.map fun c => V.str ⟨#[c]⟩).length) := by
  refine turn_enumG _ _ e it [it] (fun i h => h.IsStrIter it (strIterType z) z t i) (fun its i h => h.IsStrIter it (strIterType z) z t i ∧ its.length = z.cps.size) hne (fun i h ⟨o, ho, hc, hd⟩ => ⟨o, ho, fun v q => by rw [hd] at q; cases q⟩) (fun i h h' st k => ?_) (fun X pins s σ H i hP hw hK I hg hi he => ?_) (fun its i h q => q.1) (fun A its hh ⟨i, h, q1, q2⟩ => ?_)
  · obtain ⟨o, ho, hc, hd⟩ := st
    exact ⟨o, k o ho, hc, hd⟩
  · refine ⟨z.cps.toList.map fun c => .str ⟨#[c]⟩ 0, ?_, ⟨hi, by simp⟩, by simpa using hne⟩
    generalize z.cps.toList = l
    induction l with
    | nil => exact .nil
    | cons c r ih => exact .cons ⟨_, rfl⟩ ih
  · refine ⟨fun i v => ∃ c u, z.cps[i]? = some c ∧ v = .str ⟨#[c]⟩ u, ?_, ?_⟩
    · have D := Draws.text (prog := P) (w := w) (A := A) hh it z t
      rw [q2]
      exact ⟨fun i h st => D.live i h st.1, fun i h h' st k => ⟨D.frame i h h' st.1 k, st.2⟩, fun i s Q E hi st hQ => D.item i s Q E hi st.1 fun x h' tk hp hs hb => hQ x h' tk hp ⟨hs, st.2⟩ hb, fun s Q E st hE => D.done s Q E st.1 hE⟩
    · intro i u ⟨c, u', e1, e2⟩ x hx _
      subst e2
      have : z.cps.toList[i]? = some c := by simpa using e1
      rw [List.getElem?_map, this] at hx
      cases hx
      exact ⟨_, rfl⟩
theorem valsOne {v : V} {us : List Value} (h : Vals [v] us) : ∃ u, us = [u] ∧ RelV v u := by
  cases h with
  | cons r rr =>
    cases rr
    exact ⟨_, rfl, r⟩
/-- enumerate(e) -/
def iEnumA (K : PySem.W.Frag) (ta : TA) : TI := fun σ H R => ta σ H fun vs H1 =>
  (∃ a xs, vs = [.ref a] ∧ SqL K H1 a xs ∧ R (Ite K a) H1) ∨ (∃ a xs, vs = [.ref a] ∧ SqT K H1 a xs ∧ R (ItE K xs fun H => SqT K H a xs) H1) ∨ ∃ z, vs = [.str z] ∧ R (ItE K (z.cps.toList.map fun c => V.str ⟨#[c]⟩) fun _ => True) H1
theorem pi_enumA {X : Cx} {e : Expr} {ta : TA} {p pos tpos : Pos} {elts : List Expr} {kk : Nat} (hg : Gl X "enumerate") (hm : X.mg "enumerate" = none) (ha : PA X [e] ta) (hs : starEach [e] X.env = [(false, eval e X.env)] := by rfl) :
    PI X (.Tuple elts kk tpos) (.Call (.Name "enumerate" p) [e] [] pos) (iEnumA X.K ta) := by
  refine ⟨fun pins s σ H R I h => ?_⟩
  refine Call_ (ld_blt I hg hm boot_enumerate (PyProof.Rows.callWith_type1 (thn (ha.run pos pins s σ H _ I h) fun us s1 ⟨vs, H1, I1, r1, q1⟩ => ?_) hs rfl))
  have apart : ∀ b ∈ [s1.heap.objs.size + 1, s1.heap.objs.size], s1.heap.objs.size ≤ b := fun b hb => by
    have e' : b = s1.heap.objs.size + 1 ∨ b = s1.heap.objs.size := by simpa using hb
    rcases e' with z | z
    · rw [z]; exact Nat.le_add_right _ _
    · rw [z]; exact Nat.le_refl _
  rcases q1 with ⟨a, xs, rfl, hq, q⟩ | ⟨a, xs, rfl, hq, q⟩ | ⟨z, rfl, q⟩ <;> obtain ⟨u, rfl, ru⟩ := valsOne r1
  · have eu : u = .ref a := ru
    subst eu
    obtain ⟨its, rv, p', hz⟩ := I1.list hq
    refine call_enumerate_list p'.isList fun h' he hit hsz hk => wpAny_pyIter_enum he ?_
    have I2 : Inv X pins σ H1 { s1 with heap := h' } := I1.kept (t' := s1.toks) hk
    exact ⟨s1.heap.objs.size + 1, [s1.heap.objs.size + 1, s1.heap.objs.size], _, _, H1, rfl, I2, turn_enum a (s1.heap.objs.size + 1) s1.heap.objs.size, ⟨⟨.none, he⟩, hit, Nat.succ_ne_self _⟩, fun b hb => I1.fpOk (apart b hb) (I1.hok.fresh (apart b hb)), q⟩
  · have eu : u = .ref a := ru
    subst eu
    obtain ⟨its, rv, p', hz⟩ := I1.tuple hq
    refine PySem.enum_begins1 (begins_tuple a its.toArray) (show s1.heap.IsTuple a its.toArray from p') fun h' he hit hsz hk => wpAny_pyIter_enum he ?_
    have I2 : Inv X pins σ H1 { s1 with heap := h' } := I1.kept (t' := s1.toks) hk
    exact ⟨s1.heap.objs.size + 1, [s1.heap.objs.size + 1, s1.heap.objs.size], _, _, H1, rfl, I2, turn_enumT xs a (s1.heap.objs.size + 1) s1.heap.objs.size (Nat.succ_ne_self _), ⟨⟨.none, he⟩, ⟨_, hit, rfl, rfl⟩, Nat.zero_le _⟩, fun b hb => I1.fpOk (apart b hb) (I1.hok.fresh (apart b hb)), q⟩
  · obtain ⟨t, eu⟩ := ru
    subst eu
    refine call_enumerate_str fun h' he hit hsz hk => wpAny_pyIter_enum he ?_
    have I2 : Inv X pins σ H1 { s1 with heap := h' } := I1.kept (t' := s1.toks) hk
    exact ⟨s1.heap.objs.size + 1, [s1.heap.objs.size + 1, s1.heap.objs.size], _, _, H1, rfl, I2, turn_enumS z t (s1.heap.objs.size + 1) s1.heap.objs.size (Nat.succ_ne_self _), ⟨⟨.none, he⟩, hit, Nat.zero_le _⟩, fun b hb => I1.fpOk (apart b hb) (I1.hok.fresh (apart b hb)), q⟩
/-! ### on data -/
def enumD : Nat → List D → List D
  | _, [] => []
  | i, x :: xs => .tup [.int (i : Int), x] :: enumD (i + 1) xs
theorem enumD_len : ∀ (i : Nat) (xs : List D), (enumD i xs).length = xs.length
  | _, [] => rfl
  | i, x :: xs => by simp [enumD, enumD_len (i + 1) xs]
theorem enumD_get : ∀ {i : Nat} {xs : List D} {j : Nat} {x : D}, xs[j]? = some x → (enumD i xs)[j]? = some (.tup [.int ((i + j : Nat) : Int), x])
  | i, [], j, x, h => by simp at h
  | i, y :: ys, 0, x, h => by
    simp at h
    simp [enumD, h]
  | i, y :: ys, j + 1, x, h => by
    simp at h
    rw [enumD, List.getElem?_cons_succ, enumD_get h, show i + 1 + j = i + (j + 1) by omega]
def itemsE : D → Option (List D)
  | .lst xs => some xs
  | .tup xs => some xs
  | .str z => some (signsD z)
  | _ => none
def iEnumD (f : CA) : CI := fun en M => (f en M).bind fun ds M1 => match ds with
  | [d] => ofO ((vwD M1 d).bind fun v => (itemsE v).map fun xs => (enumD 0 xs, gdD d v)) M1
  | _ => .err
section
variable {X : Cx} {ct : CT} {b : Base} {W : WX} {e e1 e2 e3 : Expr} {pos : Pos} {es : List Expr}
theorem wk_enumL {K : PySem.W.Frag} {a : Addr} {n : Nat} : Walk (Ite K a) n (fun H => ∃ vs, H a = some (.lst vs) ∧ vs.length = n)
    (fun i H v H' => ∃ T x vs, v = .ref T ∧ H T = none ∧ H' = upd H T (.tup [.int (i : Nat), x]) ∧ H a = some (.lst vs) ∧ vs[i]? = some x) := by
  refine ⟨fun i H hi q => ?_, fun H q => ?_, fun i H x H' hi q y => ?_⟩
  · obtain ⟨vs, h1, h2⟩ := q
    exact ⟨vs, vs[i]'(by omega), SqL.of h1, by simp [h2]⟩
  · obtain ⟨vs, h1, h2⟩ := q
    exact ⟨vs, SqL.of h1, by omega⟩
  · obtain ⟨vs, h1, h2⟩ := q
    obtain ⟨T, x, r1, r2, r3, r4⟩ := y
    exact ⟨T, x, vs, r1, r2, r3, h1, r4 _ (SqL.of h1)⟩
theorem wk_enumE {K : PySem.W.Frag} {vs : List V} {G : Hp → Prop} : Walk (ItE K vs G) vs.length G
    (fun i H v H' => ∃ T x, v = .ref T ∧ H T = none ∧ H' = upd H T (.tup [.int (i : Nat), x]) ∧ vs[i]? = some x) :=
  ⟨fun i H hi q => ⟨q, hi⟩, fun H q => ⟨q, Nat.le_refl _⟩, fun i H x H' hi q y => y⟩
theorem pair_rw {w : Wd} {M : Store} {H : Hp} {T : Addr} {x : V} {d : D} {i : Nat} (rl : Rl X.K ct w M H) (hT : H T = none) (r : Rep X.K w d x) :
    ∃ H', H' = upd H T (.tup [.int (i : Nat), x]) ∧ Step w H w H' ∧ Rl X.K ct w M H' ∧ RW X.K w H' (.tup [.int ((i : Nat) : Int), d]) (.ref T) := by
  obtain ⟨s2, r2'⟩ := rl.aside (o := .tup [.int (i : Nat), x]) hT
  exact ⟨_, rfl, s2, r2', _, T, _, rfl, rfl, .inl (.inl (by simp [upd])), (RepL.cons_iff).mpr ⟨.int (i : Nat), [x], rfl, by simp only [Rep], (RepL.cons_iff).mpr ⟨x, [], rfl, r, (RepL.nil_iff).mpr rfl⟩⟩⟩
theorem wkd_enumL {w : Wd} {d : D} {xs : List D} {a : Addr} {M : Store} (hd : Rep X.K w d (.ref a)) (hv : vwD M d = some (.lst xs)) : WkD RW X.K ct (Ite X.K a) w (enumD 0 xs) (gdD d (.lst xs)) := by
  refine ⟨_, _, (enumD_len 0 xs).symm ▸ wk_enumL (K := X.K) (a := a) (n := xs.length), fun w' M' H' l rl g => ?_, fun i w' M' H' x H2 hi l rl g y => ?_⟩
  · obtain ⟨vs, h1, h2⟩ := view_list hd l rl (gd_view hv g)
    exact ⟨vs, h1, by rw [enumD_len]; exact h2.length.symm⟩
  · obtain ⟨T, x, vs', rfl, r2, rfl, r4, r5⟩ := y
    obtain ⟨vs, h1, h2⟩ := view_list hd l rl (gd_view hv g)
    rw [h1] at r4
    cases r4
    obtain ⟨x', e1, e2⟩ := h2.get' r5
    obtain ⟨H', rfl, s2, r2', rw'⟩ := pair_rw (i := i) rl r2 e2
    exact ⟨w', _, by simpa using enumD_get (i := 0) e1, s2, r2', rw'⟩
theorem wkd_enumE {w : Wd} {xs : List D} {vs : List V} {G : Hp → Prop} (hG : ∀ w' M' H', Wle w w' → Rl X.K ct w' M' H' → G H') (h2 : RepL X.K w xs vs) (g : List (D × D)) : WkD RW X.K ct (ItE X.K vs G) w (enumD 0 xs) g := by
  have hl : (enumD 0 xs).length = vs.length := by rw [enumD_len, h2.length]
  refine ⟨_, _, hl.symm ▸ wk_enumE (K := X.K) (vs := vs) (G := G), fun w' M' H' l rl _ => hG w' M' H' l rl, fun i w' M' H' x H2 hi l rl _ y => ?_⟩
  obtain ⟨T, x, rfl, r2, rfl, r5⟩ := y
  obtain ⟨x', e1, e2⟩ := h2.get' r5
  obtain ⟨H', rfl, s2, r2', rw'⟩ := pair_rw (i := i) rl r2 (l.rep e2)
  exact ⟨w', _, by simpa using enumD_get (i := 0) e1, s2, r2', rw'⟩
theorem piw_enum {f : CA} {p tpos : Pos} {elts : List Expr} {kk : Nat} (hm : X.mg "enumerate" = none) (ha : PAD X ct b W f [e]) (hg : Gl X "enumerate" := by rfl) (hs : starEach [e] X.env = [(false, eval e X.env)] := by rfl) :
    PIW X ct b W (iEnumD f) (.Tuple elts kk tpos) (.Call (.Name "enumerate" p) [e] [] pos) := by
  refine ⟨fun pins s σ H R I hw => (pi_enumA hg hm ha hs).run pins s σ H R I ?_⟩
  obtain ⟨w, en, M, S, rl, p⟩ := hw
  refine ⟨w, en, M, S, rl, (Post.bind p).imp (fun ds M1 q w1 vs1 H1 s1 r1 x1 => ?_) fun _ _ _ q => q⟩
  split at q
  case h_2 => exact q.elim
  rename_i d
  rw [RepL.cons_iff] at x1
  obtain ⟨v1, t1, rfl, x1, x2⟩ := x1
  rw [RepL.nil_iff] at x2
  subst x2
  obtain ⟨⟨xs, g⟩, e0, k⟩ := ofO_post q
  obtain ⟨v, ev, e0⟩ := Option.bind_eq_some_iff.mp e0
  obtain ⟨ys, ei, e0⟩ := Option.map_eq_some_iff.mp e0
  cases e0
  have vw := vwD_ok r1 x1 ev
  cases v with
  | lst zs =>
    cases ei
    obtain ⟨a, us, rfl, h1, h2⟩ := vw
    exact .inl ⟨a, us, rfl, SqL.of h1, k w1 _ H1 s1 r1 (wkd_enumL x1 ev)⟩
  | tup zs =>
    cases ei
    obtain ⟨h0, a, us, rfl, h1, h2⟩ := vw
    simp only [Rep] at h0
    obtain ⟨b1, vs1, e1, k1, k2⟩ := h0
    cases e1
    exact .inr (.inl ⟨_, vs1, rfl, r1.sub.sqt k1, k w1 _ H1 s1 r1 (wkd_enumE (fun w' M' H' l rl => rl.sub.sqt (Same.sqt l.F k1)) k2 _)⟩)
  | str z =>
    cases ei
    cases vw
    refine .inr (.inr ⟨z, rfl, k w1 _ H1 s1 r1 (wkd_enumE (fun _ _ _ _ _ => trivial) ?_ _)⟩)
    unfold signsD
    generalize z.cps.toList = l
    induction l with
    | nil => exact (RepL.nil_iff).mpr rfl
    | cons c r ih => exact (RepL.cons_iff).mpr ⟨_, _, rfl, by simp only [Rep], ih⟩
  | _ => cases ei
end
end DL

/-! DL21: join. -/
namespace DL
open PySem PySem.Spec PyProof.Rows L2
section
variable {X : Cx} {ct : CT} {b : Base} {W : WX} {e e1 e2 e3 : Expr} {pos : Pos} {es : List Expr}
def joinO (z : Str) (ys : List Str) : Option D := if (ys.map (·.length)).sum + ys.length * z.length ≤ 16777216 then some (.str (Txt.join z ys)) else none
def gJoin : Str → List D → Option D
  | z, [.lst xs] => (strsD xs).bind (joinO z)
  | z, [.tup xs] => (strsD xs).bind (joinO z)
  | _, _ => none
theorem joinO_some {z : Str} {ys : List Str} {d : D} (h : joinO z ys = some d) : (ys.map (·.length)).sum + ys.length * z.length ≤ 16777216 ∧ d = .str (Txt.join z ys) := by
  unfold joinO at h
  split at h
  · rename_i hz
    exact ⟨hz, (Option.some.inj h).symm⟩
  · cases h
theorem sm_join : SMet X ct "str.join" gJoin := ⟨_, mt_join, fun w M H z ds vs d Q rl x e k => by
  unfold gJoin at e
  split at e
  · rename_i xs
    obtain ⟨ys, e1, e2⟩ := Option.bind_eq_some_iff.mp e
    obtain ⟨hz, rfl⟩ := joinO_some e2
    rw [RepL.cons_iff] at x
    obtain ⟨v1, t1, rfl, y1, x1⟩ := x
    rw [RepL.nil_iff] at x1
    subst x1
    simp only [Rep] at y1
    obtain ⟨a, us, rfl, h1, h2⟩ := y1
    have := strsD_rep h2 e1
    subst this
    exact ⟨z, a, ys, rfl, rfl, .inl (SqL.of (rl.sub.lst h1)), hz, k w _ H (Step.refl _ _) rl (by simp only [Rep])⟩
  · rename_i xs
    obtain ⟨ys, e1, e2⟩ := Option.bind_eq_some_iff.mp e
    obtain ⟨hz, rfl⟩ := joinO_some e2
    rw [RepL.cons_iff] at x
    obtain ⟨v1, t1, rfl, y1, x1⟩ := x
    rw [RepL.nil_iff] at x1
    subst x1
    simp only [Rep] at y1
    obtain ⟨a, us, rfl, h1, h2⟩ := y1
    have := strsD_rep h2 e1
    subst this
    exact ⟨z, a, ys, rfl, rfl, .inr (rl.sub.sqt h1), hz, k w _ H (Step.refl _ _) rl (by simp only [Rep])⟩
  · cases e⟩
end
end DL

/-! DL22: exceptions of own classes: an own __init__ that says the base's and stores one field; raise; try .. except as. -/
namespace DL
open PySem PySem.Spec PyProof.Rows L2

/-- where the classes lie -/
def ctOf (mg : Str → Option Value) : CT := ⟨fun c => match mg c with
  | some (.ref a) => a
  | _ => 0, [], none⟩
theorem ctOf_of {mg : Str → Option Value} {c : Str} {a : Addr} (h : mg c = some (.ref a)) : ctOf mg c = a := by show (match mg c with | some (.ref a) => a | _ => 0) = a; rw [h]

/-- the base class, whose __init__ is ValueError's -/
structure BasE (K : PySem.W.Frag) (mg : Str → Option Value) (bn : Str) : Prop where
  ex : ∃ B : Addr, mg bn = some (.ref B) ∧ PySem.W.specialIn K (.ref B) "__getattribute__" = some (some (.builtin "type.__getattribute__")) ∧ PySem.W.readsIn K B (.type "type") = true ∧
    PySem.W.typeIn K (.ref B) = some (.type "type") ∧ PySem.W.findCls K (.ref B) (.type "type") "__init__" = some (.val (.builtin "ValueError.__init__"))
section
variable {X : Cx} {e : Expr} {es : List Expr} {ta : TA} {bn : Str} {p1 p2 pos : Pos}
theorem pe_oxinit {pl : Sem Bool} (T : BasE X.K X.mg bn) (ha : PA X (e :: es) ta) (hg : Gl X bn := by rfl) (hdb : (bn == ("__debug__" : Str)) = false := by decide)
    (hc : eval (.Call (.Attribute (.Name bn p1) "__init__" p2) (e :: es) [] pos) X.env = (do
      let ov ← eval (.Name bn p1) X.env
      standAt p2.atName
      let (f, first) ← holding [ov] (getMethod ov "__init__" pl)
      callWith pos f first (backTo pos (starEach (e :: es) X.env)) (backToKw pos (keywordEach [] X.env))) := by rfl)
    (he : starEach (e :: es) X.env = (false, eval e X.env) :: starEach es X.env := by rfl) (hpl : (backTo pos (starEach es X.env)).any (·.1) = false := by rfl) :
    PE X (.Call (.Attribute (.Name bn p1) "__init__" p2) (e :: es) [] pos) (tVeI X.K ta) := by
  refine ⟨fun pins s σ H Q I h => ?_⟩
  obtain ⟨B, hm, hsp, hrd, hty, hfc⟩ := T.ex
  refine PySem.W.methodCall_KW (ld_glob I hg hm ?_ hdb) hc
  obtain ⟨m, fr⟩ := I.fr
  refine PySem.W.method_of_cls fr I.ok.mod.kin hsp (PySem.W.cls_val fr I.ok.mod.kin hty hrd hfc (by rfl) ?_)
  show wpAny _ _ (callWith pos (Value.builtin "ValueError.__init__") [] (backTo pos (starEach (e :: es) X.env)) []) _ _ _
  refine PyProof.Rows.callWith_method1 (thn (ha.run pos pins _ σ H _ (I.tok _) h) fun us s1 ⟨vs, H1, I1, r1, a, C, ws, ev, hl, T, ea, q⟩ => ?_) he hpl
  subst ev
  cases r1 with
  | @cons _ u0 _ ur ra rw' =>
    obtain rfl : u0 = Value.ref a := ra
    have hlen : ur.length ≤ sizeLine := by
      rw [← Paired.length rw', sizeLine_eq]
      omega
    exact oinit_ok T I1 ea hlen fun s' J => ⟨.non, H1, J, rfl, q⟩
end

/-! ### the own __init__ -/
/-- def __init__(self, p): B.__init__(self, "..."); self.f = p -/
def SpInit (C : Addr) (f : Str) : Sp := fun vs H Q _ => ∃ (a : Addr) (y : V), vs = [.ref a, y] ∧ H a = some (exo a C none) ∧
  ∀ dx, H dx = none → dx ≠ a → Q .non (upd (upd H dx (exd dx [(f, y)])) a (exo a C (some dx)))
section
variable {P : Program} {w : World} {K : PySem.W.Frag} {mg : Str → Option Value} {base : Heap}
def tInit (K : PySem.W.Frag) (m f : Str) : L2.TS := tSeq (tDrop (tVeI K (tCons (tVar 0) (tCons (tC (.str m)) tNil)))) (tOst K f (tVar 0) (tVar 1))
theorem init_ok {qual p f m : Str} {st : Stmt} {fI C : Addr} {fd : FuncData} (F : Fun K "__init__" qual st fI fd) (S : FnScope ["self", p] ["self", p] (defScope st))
    (T : OexC K C) (hno : PySem.W.findIn K (.ref C) f = some none)
    (hb : ∀ (cdv : Value) (A : Around) (outer : List Env) (s : Shared) (H : Hp) (E : XK), L2.PSs (cxOf (L2.CX P w) P w K mg base ["self", p] qual (defScope st) fI cdv A outer s H E) (defBody st) (tInit K m f)) :
    FnOk P w K mg base (L2.CX P w) 1 fI fd ["self", p] (SpInit C f) := by
  refine F.okX S (fun vs H Q E q => ?_) (fun cdv A outer s H vs Q E hr q => ⟨_, hb cdv A outer s H E, ?_⟩)
  · obtain ⟨a, y, rfl, _⟩ := q
    rfl
  · obtain ⟨a, y, rfl, ha, q⟩ := q
    refine ⟨.ref a, rfl, ?_⟩
    refine ⟨a, C, [.str m], rfl, (by simp), T, ha, ?_⟩
    refine ⟨y, rfl, .ref a, rfl, a, C, rfl, T, hno, .inl ⟨ha, fun dx n ne => q dx n ne⟩⟩
theorem pss_init {X : Cx} {p f m : Str} {j : Nat} {p1 p2 p3 p4 p5 p6 p7 p8 p9 p10 : Pos} {pl : Sem Bool} (Tb : BasE X.K X.mg "PourError") (h0 : X.N[0]? = some ("self" : Str) := by rfl) (h1 : X.N[1]? = some p := by rfl) (hg : Gl X "PourError" := by rfl)
    (hsv : Vis X.env.scope "self" := by first | exact Or.inl rfl | exact Or.inr (Or.inl rfl) | exact Or.inr (Or.inr rfl)) (hpv : Vis X.env.scope p := by first | exact Or.inl rfl | exact Or.inr (Or.inl rfl) | exact Or.inr (Or.inr rfl))
    (hpd : (p == ("__debug__" : Str)) = false := by decide) (hpc : (p == ("__classdict__" : Str)) = false := by decide)
    (hc : eval (.Call (.Attribute (.Name "PourError" p1) "__init__" p2) [.Name "self" p3, .Constant (.str m) j p4] [] p5) X.env = (do
      let ov ← eval (.Name "PourError" p1) X.env
      standAt p2.atName
      let (f, first) ← holding [ov] (getMethod ov "__init__" pl)
      callWith p5 f first (backTo p5 (starEach [.Name "self" p3, .Constant (.str m) j p4] X.env)) (backToKw p5 (keywordEach [] X.env))) := by rfl)
    (hs1 : swapsWith (.Call (.Attribute (.Name "PourError" p1) "__init__" p2) [.Name "self" p3, .Constant (.str m) j p4] [] p5) none p6.line X.env = pure false := by rfl)
    (hs2 : swapsWith (.Name p p9) (some (.Attribute (.Name "self" p7) f p8)) p10.line X.env = pure false := by rfl)
    (he1 : starEach [.Name "self" p3, .Constant (.str m) j p4] X.env = (false, eval (.Name "self" p3) X.env) :: starEach [.Constant (.str m) j p4] X.env := by rfl)
    (he2 : starEach [.Constant (.str m) j p4] X.env = (false, eval (.Constant (.str m) j p4) X.env) :: starEach [] X.env := by rfl)
    (hpl : (backTo p5 (starEach [.Constant (.str m) j p4] X.env)).any (·.1) = false := by rfl) :
    L2.PSs X [.Expr (.Call (.Attribute (.Name "PourError" p1) "__init__" p2) [.Name "self" p3, .Constant (.str m) j p4] [] p5) p6, .Assign [.Attribute (.Name "self" p7) f p8] (.Name p p9) p10] (tInit X.K m f) :=
  pss_cons (ps_expr (pe_oxinit Tb (pa_cons (pe_var (i := 0) h0 hsv) (pa_cons pe_str pa_nil he2) he1) hg (by decide) hc he1 hpl) hs1) (pss_one (ps_ost (pe_var (i := 0) h0 hsv) (pe_var (i := 1) h1 hpv hpd hpc) hs2))

/-- a class whose instances are raised -/
structure ExcC (P : Program) (w : World) (K : PySem.W.Frag) (mg : Str → Option Value) (base : Heap) (ct : CT) (x f : Str) : Prop where
  ex : ∃ (C fI : Addr) (fd : FuncData) (ps : List Str), OexC K C ∧ PySem.W.findIn K (.ref C) "__init__" = some (some (.ref fI)) ∧ PySem.W.typeIn K (.ref fI) = some (.type "function") ∧
    FnOk P w K mg base (L2.CX P w) 1 fI fd ps (SpInit C f) ∧ Binds K fd ps [] ∧ mg x = some (.ref C) ∧ ct x = C
end
def raiseS (x f : Str) (args : CA) : CS := fun en M => thenA (args en M) en fun ds M1 => match ds with
  | [d] => .ok (.exc x [(f, d)] en) M1
  | _ => .err
section
variable {X : Cx} {ct : CT} {b : Base} {W : WX} {e : Expr} {es : List Expr} {x f : Str} {p pos pos2 : Pos} {args : CA}
end

/-! ### try .. except C as n -/
def untag (i : Nat) : Out Fl → Out Fl
  | .ok (.next en) M => .ok (.next (en.set i none)) M
  | .ok (.brk en) M => .ok (.brk (en.set i none)) M
  | .ok (.cont en) M => .ok (.cont (en.set i none)) M
  | .ok (.ret d) M => .ok (.ret d) M
  | _ => .err
/-- ok c: does the clause take the class c; h: the suite, by the exception's class and fields; i: the name's slot -/
def tryS (f : CS) (ok : Str → Option Bool) (i : Nat) (h : Str → List (Str × D) → CS) : CS := fun en M => match f en M with
  | .ok (.exc c fs en1) M1 => match ok c with
    | some true => if i < en1.length then untag i (h c fs (en1.set i none) M1) else .err
    | some false => .ok (.exc c fs en1) M1
    | none => .err
  | r => r
/-- the reading of the suite: slot i holds the exception at a -/
def TSX (X : Cx) (ct : CT) (b : Base) (i : Nat) (h : Str → List (Str × D) → CS) (a : Addr) (cls : Value) (d : Option Addr) : L2.TS := fun D' σ H => ∃ w en M c fs, Step b.w b.H w H ∧ Sl X.K ct b w en σ H ∧ en[i]? = some none ∧ σ[i]? = some (some (.ref a)) ∧
  Rl X.K ct w M H ∧ ExV X.K ct w c fs cls d H ∧ PostS X ct b W0 w (h c fs en M) D'
section
variable {X : Cx} {ct : CT} {b : Base} {W : WX} {pos pos' np : Pos} {n x : Str} {c : Value} {i : Nat} {f : CS} {ok : Str → Option Bool} {h : Str → List (Str × D) → CS} {body suite : List Stmt} {b₀ : Stmt}
/-- y = n.f, n the exception -/
def hFld (cn f : Str) (j : Nat) : Str → List (Str × D) → CS := fun c fs en M => if c = cn then match fs.lookup f with
  | some d => .ok (.next (en.set j (some (.val d)))) M
  | none => .err
  else .err
structure FldC (K : PySem.W.Frag) (ct : CT) (cn f : Str) : Prop where
  ex : XfC K (ct cn) ∧ PySem.W.findIn K (.ref (ct cn)) f = some none
theorem zip_lookup {K : PySem.W.Frag} {w : Wd} {f : Str} {d : D} : ∀ {fs : List (Str × D)} {vs : List V}, RepL K w (fs.map (·.2)) vs → fs.lookup f = some d → ∃ v, ((fs.map (·.1)).zip vs).lookup f = some v ∧ Rep K w d v
  | [], vs, r, e => by cases e
  | (g, y) :: fs, vs, r, e => by
    simp only [List.map_cons, RepL.cons_iff] at r
    obtain ⟨v, vs', rfl, r1, r2⟩ := r
    simp only [List.map_cons, List.zip_cons_cons, List.lookup_cons] at e ⊢
    cases hb : (f == g) with
    | true =>
      rw [hb] at e
      cases e
      exact ⟨v, rfl, r1⟩
    | false =>
      rw [hb] at e
      exact zip_lookup r2 e
end
/-- in a try's body -/
theorem Cz.tr {X : Cx} {ct : CT} {b : Base} {W W' : WX} {k : Nat} {pn : List (Addr × Obj)} {xe : Value → Shared → Prop} (C : Cz X ct b W k) (tk : Takes (X.tr pn xe) W') (hp : PassesOwn (model X.prog X.w) X.A X.env xe) : Cz (X.tr pn xe) ct b W' k :=
  ⟨tk, hp, C.hc, C.hN, C.hb, C.hr⟩
def okL (l : List (Str × Bool)) (c : Str) : Option Bool := l.lookup c
structure CatC (K : PySem.W.Frag) (mg : Str → Option Value) (ct : CT) (h : Str) (l : List (Str × Bool)) : Prop where
  gl : mg h = some (.ref (ct h))
  ex : ∀ (cn : Str) (k : Bool), okL l cn = some k → PySem.W.exmOne K (.ref (ct cn)) (.ref (ct h)) = some k
theorem catC_self {K : PySem.W.Frag} {mg : Str → Option Value} {x : Str} {C : Addr} (h : mg x = some (.ref C)) (te : PySem.W.exmOne K (.ref C) (.ref C) = some true) : CatC K mg (ctOf mg) x [(x, true)] :=
  ⟨by rw [ctOf_of h]; exact h, fun cn k e => by
    unfold okL at e
    simp only [List.lookup_cons, List.lookup_nil] at e
    split at e
    · rename_i hb
      have hc : cn = x := by simpa using hb
      cases e
      rw [hc, ctOf_of h]
      exact te
    · cases e⟩
theorem exm_self {K : PySem.W.Frag} {S : Addr} (h1 : PySem.W.subIn K (.ref S) (.type "BaseException") = some true) (h2 : PySem.W.isClsIn K S = true) (h3 : PySem.W.typeIn K (.ref S) = some (.type "type")) (h4 : PySem.W.subIn K (.ref S) (.ref S) = some true) :
    PySem.W.exmOne K (.ref S) (.ref S) = some true := by
  have h2' : (PySem.W.clsIn K S).isSome = true := h2
  have e1 : (PySem.W.subIn K (.ref S) (.type "BaseException") == some true) = true := by rw [h1] <;> rfl
  have e2 : ((PySem.W.clsIn K S).isSome && PySem.W.typeIn K (.ref S) == some (.type "type")) = true := by rw [h2', h3] <;> rfl
  show (if (PySem.W.subIn K (.ref S) (.type "BaseException") == some true) = true then (if ((PySem.W.clsIn K S).isSome && PySem.W.typeIn K (.ref S) == some (.type "type")) = true then PySem.W.subIn K (.ref S) (.ref S) else none) else none) = some true
  rw [if_pos e1, if_pos e2]
  exact h4
end DL

/-! DL23: slices of texts, tuples, lists. -/
namespace DL
open PySem PySem.Spec PyProof.Rows L2
def cutD (xs : List D) (lo hi : Option Int) : List D := (xs.drop (HT.sIx xs.length 0 lo)).take (HT.sIx xs.length xs.length hi - HT.sIx xs.length 0 lo)
def gSl (lo hi : Option Int) : D → Option D
  | .str z => if z.length ≤ sizeLine then some (.str (cutS z lo hi)) else none
  | .tup xs => some (.tup (cutD xs lo hi))
  | .lst xs => some (.lst (cutD xs lo hi))
  | _ => none
def eSlG (h : CH) (lo hi : Option CE) : CE := fun en M => (h en M).bind fun a M1 => (optE lo en M1).bind fun l M2 => (optE hi en M2).bind fun u M3 => ofO ((vw en M3 a).bind (gSl l u)) M3
section
variable {X : Cx} {ct : CT} {b : Base} {W : WX} {e : Expr} {pos p2 : Pos}
end
end DL

/-! DL24: recursion (a def by how deep it may go); an except suite `y = repr(e.f)`. -/
namespace DL
open PySem PySem.Spec PyProof.Rows L2
section
variable {P : Program} {w : World} {K : PySem.W.Frag} {mg : Str → Option Value} {base : Heap} {ct : CT}
/-- what may not go at all -/
def fErr : CF := fun _ _ => .err
end
/-- y = repr(n.f), n the exception -/
def hRepr (cn f : Str) (j : Nat) : Str → List (Str × D) → CS := fun c fs en M => if c = cn then match fs.lookup f with
  | some d => match (vwD M d).bind fun v => gRepr [v] with
    | some r => .ok (.next (en.set j (some (.val r)))) M
    | none => .err
  | none => .err
  else .err
section
variable {X : Cx} {ct : CT} {b : Base} {W : WX} {pos : Pos} {n : Str} {i : Nat}
end
end DL

/-! DLX: a machine for plain proofs: what is to be shown of a piece of code (Post), one rewriting rule a construct; what follows a part is a named continuation, so that simp works at the head alone. -/
namespace DL
open PySem PySem.Spec PyProof.Rows L2
abbrev EX := Str → List (Str × D) → Store → Prop
section
variable {α β : Type}
theorem Post_bind_eq {x : Out α} {f : α → Store → Out β} {Q : β → Store → Prop} {E : EX} : Post (x.bind f) Q E = Post x (fun a M => Post (f a M) Q E) E := by cases x <;> rfl
@[simp] theorem Post_ok {a : α} {M : Store} {Q : α → Store → Prop} {E : EX} : Post (.ok a M) Q E = Q a M := rfl
@[simp] theorem Post_exc {c : Str} {fs : List (Str × D)} {M : Store} {Q : α → Store → Prop} {E : EX} : Post (.exc c fs M) Q E = E c fs M := rfl
@[simp] theorem Post_err {Q : α → Store → Prop} {E : EX} : Post .err Q E = False := rfl
def PV (o : Option α) (M : Store) (Q : α → Store → Prop) : Prop := match o with | some a => Q a M | none => False
@[simp] theorem PV_some {a : α} {M : Store} {Q : α → Store → Prop} : PV (some a) M Q = Q a M := rfl
@[simp] theorem PV_none {M : Store} {Q : α → Store → Prop} : PV none M Q = False := rfl
theorem Post_ofO {o : Option α} {M : Store} {Q : α → Store → Prop} {E : EX} : Post (ofO o M) Q E = PV o M Q := by cases o <;> rfl
end
def PF (n : Nat) (P : Prop) : Prop := n ≤ sizeLine ∧ P
@[simp] theorem PF_of {n : Nat} {P : Prop} (h : n ≤ 16777216) : PF n P = P := by
  have e : sizeLine = 16777216 := by decide
  unfold PF
  rw [e]
  simp [h]
def kNo : EX := fun _ _ _ => False
@[simp] theorem kNo_app {c : Str} {fs : List (Str × D)} {M : Store} : kNo c fs M = False := rfl
theorem Post.eq {α : Type} {x : Out α} {d : α} {M : Store} (h : Post x (fun d' M' => d' = d ∧ M' = M) kNo) : x = .ok d M := by
  cases x with
  | ok a M' => obtain ⟨rfl, rfl⟩ := h; rfl
  | exc c fs M' => exact h.elim
  | err => exact h.elim
theorem Post.of_eq {α : Type} {x : Out α} {d : α} {M : Store} {Q : α → Store → Prop} {E : EX} (h : x = .ok d M) (q : Q d M) : Post x Q E := by rw [h]; exact q
theorem Post.ex {α : Type} {x : Out α} {Q : α → Store → Prop} (h : Post x Q kNo) : ∃ d M, x = .ok d M ∧ Q d M := by
  cases x with
  | ok a M' => exact ⟨_, _, rfl, h⟩
  | exc c fs M' => exact h.elim
  | err => exact h.elim
theorem Post.mono {α : Type} {x : Out α} {Q Q' : α → Store → Prop} {E : EX} (h : Post x Q kNo) (hq : ∀ a M, Q a M → Q' a M) : Post x Q' E := h.imp hq fun _ _ _ z => z.elim

/-- the n-th item, by rules of its own -/
def gt {α : Type} : List α → Nat → Option α
  | [], _ => none
  | x :: _, 0 => some x
  | _ :: r, n + 1 => gt r n
@[simp] theorem gt_0 {α : Type} {x : α} {r : List α} : gt (x :: r) 0 = some x := rfl
@[simp] theorem gt_1 {α : Type} {x : α} {r : List α} {n : Nat} : gt (x :: r) (n + 1) = gt r n := rfl
@[simp] theorem gt_nil {α : Type} {n : Nat} : gt ([] : List α) n = none := by cases n <;> rfl
theorem gt_eq {α : Type} : ∀ (l : List α) (n : Nat), l[n]? = gt l n
  | [], n => by simp
  | x :: r, 0 => rfl
  | x :: r, n + 1 => by rw [List.getElem?_cons_succ, gt_eq r n]; rfl
/-! ### views -/
section
variable {M : Store} {en : En}
def vwR : Option MO → Nat → Option D
  | some o, n => match vwO o with
    | some d => some d
    | none => some (.ref n)
  | none, _ => none
@[simp] theorem vwR_lst {xs : List D} {n : Nat} : vwR (some (.lst xs)) n = some (.lst xs) := rfl
@[simp] theorem vwR_dic {ks : List Key} {xs : List D} {n : Nat} : vwR (some (.dic ks xs)) n = some (.dic ks xs) := rfl
@[simp] theorem vwR_ldic {ks : List Key} {xs : List D} {n : Nat} : vwR (some (.ldic ks xs)) n = some (.dic ks xs) := rfl
@[simp] theorem vwR_ins {c : Str} {fs : List (Str × D)} {n : Nat} : vwR (some (.ins c fs)) n = some (.ref n) := rfl
@[simp] theorem vwD_ref {n : Nat} : vwD M (.ref n) = vwR (gt M n) n := by
  rw [← gt_eq]
  cases h : M[n]? with
  | none => simp only [vwD, vwR, h]
  | some o =>
    simp only [vwD, vwR, h]
    try (cases vwO o <;> rfl)
@[simp] theorem vwD_int {i : Int} : vwD M (.int i) = some (.int i) := rfl
@[simp] theorem vwD_bl {i : Bool} : vwD M (.bl i) = some (.bl i) := rfl
@[simp] theorem vwD_str {i : Str} : vwD M (.str i) = some (.str i) := rfl
@[simp] theorem vwD_non : vwD M .non = some .non := rfl
@[simp] theorem vwD_tup {xs : List D} : vwD M (.tup xs) = some (.tup xs) := rfl
@[simp] theorem vwD_lst {xs : List D} : vwD M (.lst xs) = some (.lst xs) := rfl
@[simp] theorem vwD_dic {ks : List Key} {xs : List D} : vwD M (.dic ks xs) = some (.dic ks xs) := rfl
@[simp] theorem vwD_scr {ns : List Int} : vwD M (.scr ns) = some (.scr ns) := rfl
def vwS : Option (Option Slot) → Option D
  | some (some (.own o)) => vwO o
  | _ => none
@[simp] theorem vwS_lst {xs : List D} : vwS (some (some (.own (.lst xs)))) = some (.lst xs) := rfl
@[simp] theorem vwS_dic {ks : List Key} {xs : List D} : vwS (some (some (.own (.dic ks xs)))) = some (.dic ks xs) := rfl
@[simp] theorem vw_d {x : D} : vw en M (.d x) = vwD M x := rfl
@[simp] theorem vw_own {i : Nat} : vw en M (.own i) = vwS (gt en i) := by
  rw [← gt_eq]
  unfold vw vwS
  rfl
def vw2 (g : D → D → Option D) : Option D → Option D → Option D
  | some x, some y => g x y
  | _, _ => none
@[simp] theorem vw2_some {g : D → D → Option D} {x y : D} : vw2 g (some x) (some y) = g x y := rfl
theorem vw2_eq {g : D → D → Option D} {a c : Option D} : (a.bind fun x => c.bind fun y => g x y) = vw2 g a c := by cases a <;> cases c <;> rfl
def consO : Option D → Option (List D) → Option (List D)
  | some x, some y => some (x :: y)
  | _, _ => none
@[simp] theorem consO_some {x : D} {y : List D} : consO (some x) (some y) = some (x :: y) := rfl
@[simp] theorem vws_nil' : vws en M [] = some [] := rfl
@[simp] theorem vws_cons' {h : Hd} {hs : List Hd} : vws en M (h :: hs) = consO (vw en M h) (vws en M hs) := by
  show ((vw en M h).bind fun d => (vws en M hs).bind fun ds => some (d :: ds)) = _
  cases vw en M h <;> cases vws en M hs <;> rfl
end
/-! ### expressions -/
section
variable {en : En} {M : Store} {E : EX}
def kVar (s : Option (Option Slot)) (M : Store) (Q : D → Store → Prop) : Prop := match s with | some (some (.val d)) => Q d M | _ => False
@[simp] theorem kVar_val {d : D} {Q : D → Store → Prop} : kVar (some (some (.val d))) M Q = Q d M := rfl
@[simp] theorem m_eVar {i : Nat} {Q : D → Store → Prop} : Post (eVar i en M) Q E = kVar (gt en i) M Q := by
  rw [← gt_eq]
  unfold eVar kVar
  split <;> simp_all
@[simp] theorem m_eC {d : D} {Q : D → Store → Prop} : Post (eC d en M) Q E = Q d M := rfl
def kHd (Q : Hd → Store → Prop) (d : D) (M : Store) : Prop := Q (.d d) M
@[simp] theorem kHd_app {Q : Hd → Store → Prop} {d : D} : kHd Q d M = Q (.d d) M := rfl
@[simp] theorem m_hd {f : CE} {Q : Hd → Store → Prop} : Post (hd f en M) Q E = Post (f en M) (kHd Q) E := by simp only [hd, Post_bind_eq]; rfl
def kOwn (s : Option (Option Slot)) (i : Nat) (M : Store) (Q : Hd → Store → Prop) : Prop := match s with | some (some (.own _)) => Q (.own i) M | some (some (.val d)) => Q (.d d) M | _ => False
@[simp] theorem kOwn_own {o : MO} {i : Nat} {Q : Hd → Store → Prop} : kOwn (some (some (.own o))) i M Q = Q (.own i) M := rfl
@[simp] theorem kOwn_val {d : D} {i : Nat} {Q : Hd → Store → Prop} : kOwn (some (some (.val d))) i M Q = Q (.d d) M := rfl
@[simp] theorem m_hOwn {i : Nat} {Q : Hd → Store → Prop} : Post (hOwn i en M) Q E = kOwn (gt en i) i M Q := by
  rw [← gt_eq]
  unfold hOwn kOwn
  split <;> simp_all
def kOp2 (g : D → D → Option D) (a : Hd) (en : En) (Q : D → Store → Prop) (c : Hd) (M : Store) : Prop := PV (vw2 g (vw en M a) (vw en M c)) M Q
def kOp1 (g : D → D → Option D) (h2 : CH) (en : En) (Q : D → Store → Prop) (E : EX) (a : Hd) (M : Store) : Prop := Post (h2 en M) (kOp2 g a en Q) E
@[simp] theorem kOp2_app {g : D → D → Option D} {a c : Hd} {Q : D → Store → Prop} : kOp2 g a en Q c M = PV (vw2 g (vw en M a) (vw en M c)) M Q := rfl
@[simp] theorem kOp1_app {g : D → D → Option D} {h2 : CH} {Q : D → Store → Prop} {a : Hd} : kOp1 g h2 en Q E a M = Post (h2 en M) (kOp2 g a en Q) E := rfl
@[simp] theorem m_eOp {g : D → D → Option D} {h1 h2 : CH} {Q : D → Store → Prop} : Post (eOp g h1 h2 en M) Q E = Post (h1 en M) (kOp1 g h2 en Q E) E := by
  simp only [eOp, Post_bind_eq, Post_ofO, vw2_eq]; rfl
def kUn (g : D → Option D) (en : En) (Q : D → Store → Prop) (a : Hd) (M : Store) : Prop := PV ((vw en M a).bind g) M Q
@[simp] theorem kUn_app {g : D → Option D} {Q : D → Store → Prop} {a : Hd} : kUn g en Q a M = PV ((vw en M a).bind g) M Q := rfl
@[simp] theorem m_eUn {g : D → Option D} {h : CH} {Q : D → Store → Prop} : Post (eUn g h en M) Q E = Post (h en M) (kUn g en Q) E := by simp only [eUn, Post_bind_eq, Post_ofO]; rfl
def kBl (Q : Bool → Store → Prop) (d : D) (M : Store) : Prop := match d with | .bl k => Q k M | _ => False
@[simp] theorem kBl_bl {Q : Bool → Store → Prop} {k : Bool} : kBl Q (.bl k) M = Q k M := rfl
@[simp] theorem m_bT {g : D → D → Option D} {h1 h2 : CH} {Q : Bool → Store → Prop} : Post (bT g h1 h2 en M) Q E = Post (eOp g h1 h2 en M) (kBl Q) E := by
  simp only [bT, Post_bind_eq]
  congr 1
  funext d M
  cases d <;> rfl
def kTru (en : En) (Q : Bool → Store → Prop) (a : Hd) (M : Store) : Prop := PV ((vw en M a).bind TruD) M Q
@[simp] theorem kTru_app {Q : Bool → Store → Prop} {a : Hd} : kTru en Q a M = PV ((vw en M a).bind TruD) M Q := rfl
@[simp] theorem m_bTru {h : CH} {Q : Bool → Store → Prop} : Post (bTru h en M) Q E = Post (h en M) (kTru en Q) E := by simp only [bTru, Post_bind_eq, Post_ofO]; rfl
def kAnd (g : CB) (en : En) (Q : Bool → Store → Prop) (E : EX) (k : Bool) (M : Store) : Prop := match k with | true => Post (g en M) Q E | false => Q false M
@[simp] theorem kAnd_t {g : CB} {Q : Bool → Store → Prop} : kAnd g en Q E true M = Post (g en M) Q E := rfl
@[simp] theorem kAnd_f {g : CB} {Q : Bool → Store → Prop} : kAnd g en Q E false M = Q false M := rfl
@[simp] theorem m_bAnd {f g : CB} {Q : Bool → Store → Prop} : Post (bAnd f g en M) Q E = Post (f en M) (kAnd g en Q E) E := by
  simp only [bAnd, Post_bind_eq]
  congr 1
  funext k M
  cases k <;> rfl
def kOr (g : CB) (en : En) (Q : Bool → Store → Prop) (E : EX) (k : Bool) (M : Store) : Prop := match k with | false => Post (g en M) Q E | true => Q true M
@[simp] theorem kOr_f {g : CB} {Q : Bool → Store → Prop} : kOr g en Q E false M = Post (g en M) Q E := rfl
@[simp] theorem kOr_t {g : CB} {Q : Bool → Store → Prop} : kOr g en Q E true M = Q true M := rfl
@[simp] theorem m_bOr {f g : CB} {Q : Bool → Store → Prop} : Post (bOr f g en M) Q E = Post (f en M) (kOr g en Q E) E := by
  simp only [bOr, Post_bind_eq]
  congr 1
  funext k M
  cases k <;> rfl
def kNot (Q : Bool → Store → Prop) (k : Bool) (M : Store) : Prop := Q (!k) M
@[simp] theorem kNot_app {Q : Bool → Store → Prop} {k : Bool} : kNot Q k M = Q (!k) M := rfl
@[simp] theorem m_bNot {f : CB} {Q : Bool → Store → Prop} : Post (bNot f en M) Q E = Post (f en M) (kNot Q) E := by simp only [bNot, Post_bind_eq]; rfl
def kIfE (f g : CE) (en : En) (Q : D → Store → Prop) (E : EX) (k : Bool) (M : Store) : Prop := match k with | true => Post (f en M) Q E | false => Post (g en M) Q E
@[simp] theorem kIfE_t {f g : CE} {Q : D → Store → Prop} : kIfE f g en Q E true M = Post (f en M) Q E := rfl
@[simp] theorem kIfE_f {f g : CE} {Q : D → Store → Prop} : kIfE f g en Q E false M = Post (g en M) Q E := rfl
@[simp] theorem m_eIf {c : CB} {f g : CE} {Q : D → Store → Prop} : Post (eIf c f g en M) Q E = Post (c en M) (kIfE f g en Q E) E := by
  simp only [eIf, Post_bind_eq]
  congr 1
  funext k M
  cases k <;> rfl
def kB (Q : D → Store → Prop) (k : Bool) (M : Store) : Prop := Q (.bl k) M
@[simp] theorem kB_app {Q : D → Store → Prop} {k : Bool} : kB Q k M = Q (.bl k) M := rfl
@[simp] theorem m_eB {f : CB} {Q : D → Store → Prop} : Post (eB f en M) Q E = Post (f en M) (kB Q) E := by simp only [eB, Post_bind_eq]; rfl
def kCh3 (g' : D → D → Option D) (c : Hd) (en : En) (Q : Bool → Store → Prop) (d : Hd) (M : Store) : Prop := PV (vw2 g' (vw en M c) (vw en M d)) M (kBl Q)
def kChB (g' : D → D → Option D) (c : Hd) (h3 : CH) (en : En) (Q : Bool → Store → Prop) (E : EX) (x : D) (M : Store) : Prop := match x with | .bl true => Post (h3 en M) (kCh3 g' c en Q) E | .bl false => Q false M | _ => False
def kCh2 (g g' : D → D → Option D) (a : Hd) (h3 : CH) (en : En) (Q : Bool → Store → Prop) (E : EX) (c : Hd) (M : Store) : Prop := PV (vw2 g (vw en M a) (vw en M c)) M (kChB g' c h3 en Q E)
def kCh1 (g g' : D → D → Option D) (h2 h3 : CH) (en : En) (Q : Bool → Store → Prop) (E : EX) (a : Hd) (M : Store) : Prop := Post (h2 en M) (kCh2 g g' a h3 en Q E) E
@[simp] theorem kCh3_app {g' : D → D → Option D} {c d : Hd} {Q : Bool → Store → Prop} : kCh3 g' c en Q d M = PV (vw2 g' (vw en M c) (vw en M d)) M (kBl Q) := rfl
@[simp] theorem kChB_t {g' : D → D → Option D} {c : Hd} {h3 : CH} {Q : Bool → Store → Prop} : kChB g' c h3 en Q E (.bl true) M = Post (h3 en M) (kCh3 g' c en Q) E := rfl
@[simp] theorem kChB_f {g' : D → D → Option D} {c : Hd} {h3 : CH} {Q : Bool → Store → Prop} : kChB g' c h3 en Q E (.bl false) M = Q false M := rfl
@[simp] theorem kCh2_app {g g' : D → D → Option D} {a c : Hd} {h3 : CH} {Q : Bool → Store → Prop} : kCh2 g g' a h3 en Q E c M = PV (vw2 g (vw en M a) (vw en M c)) M (kChB g' c h3 en Q E) := rfl
@[simp] theorem kCh1_app {g g' : D → D → Option D} {h2 h3 : CH} {a : Hd} {Q : Bool → Store → Prop} : kCh1 g g' h2 h3 en Q E a M = Post (h2 en M) (kCh2 g g' a h3 en Q E) E := rfl
@[simp] theorem m_bChain {g g' : D → D → Option D} {h1 h2 h3 : CH} {Q : Bool → Store → Prop} : Post (bChain g g' h1 h2 h3 en M) Q E = Post (h1 en M) (kCh1 g g' h2 h3 en Q E) E := by
  simp only [bChain, Post_bind_eq]
  congr 1
  funext a M1
  show Post _ _ _ = Post _ _ _
  congr 1
  funext c M2
  rw [kCh2_app, vw2_eq]
  cases vw2 g (vw en M2 a) (vw en M2 c) with
  | none => rfl
  | some x =>
    cases x with
    | bl k =>
      cases k with
      | false => rfl
      | true =>
        show Post (Out.bind _ _) _ _ = Post _ _ _
        rw [Post_bind_eq]
        congr 1
        funext d M3
        rw [kCh3_app, vw2_eq]
        cases vw2 g' (vw en M3 c) (vw en M3 d) with
        | none => rfl
        | some x => cases x <;> rfl
    | _ => rfl
@[simp] theorem m_aNil {Q : List D → Store → Prop} : Post (aNil en M) Q E = Q [] M := rfl
def kAC2 (d : D) (Q : List D → Store → Prop) (ds : List D) (M : Store) : Prop := Q (d :: ds) M
def kAC (g : CA) (en : En) (Q : List D → Store → Prop) (E : EX) (d : D) (M : Store) : Prop := Post (g en M) (kAC2 d Q) E
@[simp] theorem kAC2_app {d : D} {ds : List D} {Q : List D → Store → Prop} : kAC2 d Q ds M = Q (d :: ds) M := rfl
@[simp] theorem kAC_app {d : D} {g : CA} {Q : List D → Store → Prop} : kAC g en Q E d M = Post (g en M) (kAC2 d Q) E := rfl
@[simp] theorem m_aCons {f : CE} {g : CA} {Q : List D → Store → Prop} : Post (aCons f g en M) Q E = Post (f en M) (kAC g en Q E) E := by simp only [aCons, Post_bind_eq]; rfl
@[simp] theorem m_ahNil {Q : List Hd → Store → Prop} : Post (ahNil en M) Q E = Q [] M := rfl
def kHC2 (d : Hd) (Q : List Hd → Store → Prop) (ds : List Hd) (M : Store) : Prop := Q (d :: ds) M
def kHC (g : CAH) (en : En) (Q : List Hd → Store → Prop) (E : EX) (d : Hd) (M : Store) : Prop := Post (g en M) (kHC2 d Q) E
@[simp] theorem kHC2_app {d : Hd} {ds : List Hd} {Q : List Hd → Store → Prop} : kHC2 d Q ds M = Q (d :: ds) M := rfl
@[simp] theorem kHC_app {d : Hd} {g : CAH} {Q : List Hd → Store → Prop} : kHC g en Q E d M = Post (g en M) (kHC2 d Q) E := rfl
@[simp] theorem m_ahCons {f : CH} {g : CAH} {Q : List Hd → Store → Prop} : Post (ahCons f g en M) Q E = Post (f en M) (kHC g en Q E) E := by simp only [ahCons, Post_bind_eq]; rfl
def kTup (Q : D → Store → Prop) (ds : List D) (M : Store) : Prop := PF ds.length (Q (.tup ds) M)
@[simp] theorem kTup_app {ds : List D} {Q : D → Store → Prop} : kTup Q ds M = PF ds.length (Q (.tup ds) M) := rfl
theorem Post_ite {α : Type} {c : Prop} [Decidable c] {x : Out α} {Q : α → Store → Prop} : Post (if c then x else .err) Q E = (c ∧ Post x Q E) := by
  split <;> simp_all
@[simp] theorem m_eTup {f : CA} {Q : D → Store → Prop} : Post (eTup f en M) Q E = Post (f en M) (kTup Q) E := by simp only [eTup, Post_bind_eq, Post_ite]; rfl
def kLst (Q : MO → Store → Prop) (ds : List D) (M : Store) : Prop := PF ds.length (Q (.lst ds) M)
@[simp] theorem kLst_app {ds : List D} {Q : MO → Store → Prop} : kLst Q ds M = PF ds.length (Q (.lst ds) M) := rfl
@[simp] theorem m_nLst {f : CA} {Q : MO → Store → Prop} : Post (nLst f en M) Q E = Post (f en M) (kLst Q) E := by simp only [nLst, Post_bind_eq, Post_ite]; rfl
def kFrz (Q : D → Store → Prop) (o : MO) (M : Store) : Prop := PV (frzO o) M Q
@[simp] theorem kFrz_lst {xs : List D} {Q : D → Store → Prop} : kFrz Q (.lst xs) M = Q (.lst xs) M := rfl
@[simp] theorem kFrz_dic {ks : List Key} {xs : List D} {Q : D → Store → Prop} : kFrz Q (.dic ks xs) M = Q (.dic ks xs) M := rfl
@[simp] theorem m_frz {f : CN} {Q : D → Store → Prop} : Post (frz f en M) Q E = Post (f en M) (kFrz Q) E := by simp only [frz, Post_bind_eq, Post_ofO]; rfl
def kAlc (Q : D → Store → Prop) (o : MO) (M : Store) : Prop := Q (.ref M.length) (M ++ [o])
@[simp] theorem kAlc_app {o : MO} {Q : D → Store → Prop} : kAlc Q o M = Q (.ref M.length) (M ++ [o]) := rfl
@[simp] theorem m_alc {f : CN} {Q : D → Store → Prop} : Post (alc f en M) Q E = Post (f en M) (kAlc Q) E := by simp only [alc, Post_bind_eq]; rfl
def kCall {β : Type} (g : List D → Option β) (en : En) (Q : β → Store → Prop) (as : List Hd) (M : Store) : Prop := PV ((vws en M as).bind g) M Q
@[simp] theorem kCall_app {β : Type} {g : List D → Option β} {Q : β → Store → Prop} {as : List Hd} : kCall g en Q as M = PV ((vws en M as).bind g) M Q := rfl
@[simp] theorem m_eCall {g : List D → Option D} {f : CAH} {Q : D → Store → Prop} : Post (eCall g f en M) Q E = Post (f en M) (kCall g en Q) E := by simp only [eCall, Post_bind_eq, Post_ofO]; rfl
@[simp] theorem m_nCall {g : List D → Option MO} {f : CAH} {Q : MO → Store → Prop} : Post (nCall g f en M) Q E = Post (f en M) (kCall g en Q) E := by simp only [nCall, Post_bind_eq, Post_ofO]; rfl
def isi1 (T : Ty) (d : D) : Option D := (isiB T d).map D.bl
def kIsi (T : Ty) (en : En) (Q : D → Store → Prop) (a : Hd) (M : Store) : Prop := PV ((vw en M a).bind (isi1 T)) M Q
@[simp] theorem kIsi_app {T : Ty} {Q : D → Store → Prop} {a : Hd} : kIsi T en Q a M = PV ((vw en M a).bind (isi1 T)) M Q := rfl
@[simp] theorem m_eIsi {T : Ty} {h : CH} {Q : D → Store → Prop} : Post (eIsi T h en M) Q E = Post (h en M) (kIsi T en Q) E := by simp only [eIsi, Post_bind_eq, Post_ofO]; rfl
def isi2 (T U : Ty) (d : D) : Option D := (isiB T d).bind fun k => (isiB U d).map fun l => D.bl (k || l)
def kIsi2 (T U : Ty) (en : En) (Q : D → Store → Prop) (a : Hd) (M : Store) : Prop := PV ((vw en M a).bind (isi2 T U)) M Q
@[simp] theorem kIsi2_app {T U : Ty} {Q : D → Store → Prop} {a : Hd} : kIsi2 T U en Q a M = PV ((vw en M a).bind (isi2 T U)) M Q := rfl
@[simp] theorem m_eIsi2 {T U : Ty} {h : CH} {Q : D → Store → Prop} : Post (eIsi2 T U h en M) Q E = Post (h en M) (kIsi2 T U en Q) E := by simp only [eIsi2, Post_bind_eq, Post_ofO]; rfl
def kFn (cf : CF) (Q : D → Store → Prop) (E : EX) (ds : List D) (M : Store) : Prop := Post (cf ds M) Q E
@[simp] theorem kFn_app {cf : CF} {ds : List D} {Q : D → Store → Prop} : kFn cf Q E ds M = Post (cf ds M) Q E := rfl
@[simp] theorem m_eFn {cf : CF} {a : CA} {Q : D → Store → Prop} : Post (eFn cf a en M) Q E = Post (a en M) (kFn cf Q E) E := by simp only [eFn, Post_bind_eq]; rfl
def kKw0 (m : Nat) (π : List Nat) (cf : CF) (Q : D → Store → Prop) (E : EX) (zs : List D) (M : Store) : Prop := zs.length = m ∧ Post (cf (pick π zs) M) Q E
@[simp] theorem kKw0_app {m : Nat} {π : List Nat} {cf : CF} {zs : List D} {Q : D → Store → Prop} : kKw0 m π cf Q E zs M = (zs.length = m ∧ Post (cf (pick π zs) M) Q E) := rfl
@[simp] theorem m_eKw0 {m : Nat} {π : List Nat} {cf : CF} {a : CA} {Q : D → Store → Prop} : Post (eKw0 m π cf a en M) Q E = Post (a en M) (kKw0 m π cf Q E) E := by simp only [eKw0, Post_bind_eq, Post_ite]; rfl
def kKw2 (n m : Nat) (π : List Nat) (cf : CF) (ds : List D) (Q : D → Store → Prop) (E : EX) (zs : List D) (M : Store) : Prop := (ds.length = n ∧ zs.length = m) ∧ Post (cf (pick π (ds ++ zs)) M) Q E
def kKw1 (n m : Nat) (π : List Nat) (cf : CF) (k : CA) (en : En) (Q : D → Store → Prop) (E : EX) (ds : List D) (M : Store) : Prop := Post (k en M) (kKw2 n m π cf ds Q E) E
@[simp] theorem kKw2_app {n m : Nat} {π : List Nat} {cf : CF} {ds zs : List D} {Q : D → Store → Prop} : kKw2 n m π cf ds Q E zs M = ((ds.length = n ∧ zs.length = m) ∧ Post (cf (pick π (ds ++ zs)) M) Q E) := rfl
@[simp] theorem kKw1_app {n m : Nat} {π : List Nat} {cf : CF} {k : CA} {ds : List D} {Q : D → Store → Prop} : kKw1 n m π cf k en Q E ds M = Post (k en M) (kKw2 n m π cf ds Q E) E := rfl
@[simp] theorem m_eKw {n m : Nat} {π : List Nat} {cf : CF} {a k : CA} {Q : D → Store → Prop} : Post (eKw n m π cf a k en M) Q E = Post (a en M) (kKw1 n m π cf k en Q E) E := by simp only [eKw, Post_bind_eq, Post_ite]; rfl
def kEA (g : CE) (en : En) (Q : D → Store → Prop) (E : EX) (d : D) (k : Bool) (M : Store) : Prop := match k with | true => Post (g en M) Q E | false => Q d M
def kEAnd (g : CE) (en : En) (Q : D → Store → Prop) (E : EX) (d : D) (M : Store) : Prop := PV ((vwD M d).bind TruD) M (kEA g en Q E d)
@[simp] theorem kEA_t {g : CE} {d : D} {Q : D → Store → Prop} : kEA g en Q E d true M = Post (g en M) Q E := rfl
@[simp] theorem kEA_f {g : CE} {d : D} {Q : D → Store → Prop} : kEA g en Q E d false M = Q d M := rfl
@[simp] theorem kEAnd_app {g : CE} {d : D} {Q : D → Store → Prop} : kEAnd g en Q E d M = PV ((vwD M d).bind TruD) M (kEA g en Q E d) := rfl
@[simp] theorem m_eAnd {f g : CE} {Q : D → Store → Prop} : Post (eAnd f g en M) Q E = Post (f en M) (kEAnd g en Q E) E := by
  simp only [eAnd, Post_bind_eq, Post_ofO]
  congr 1
  funext d M
  show PV _ _ _ = PV _ _ _
  congr 1
  funext k M
  cases k <;> rfl
def kEO (g : CE) (en : En) (Q : D → Store → Prop) (E : EX) (d : D) (k : Bool) (M : Store) : Prop := match k with | false => Post (g en M) Q E | true => Q d M
def kEOr (g : CE) (en : En) (Q : D → Store → Prop) (E : EX) (d : D) (M : Store) : Prop := PV ((vwD M d).bind TruD) M (kEO g en Q E d)
@[simp] theorem kEO_f {g : CE} {d : D} {Q : D → Store → Prop} : kEO g en Q E d false M = Post (g en M) Q E := rfl
@[simp] theorem kEO_t {g : CE} {d : D} {Q : D → Store → Prop} : kEO g en Q E d true M = Q d M := rfl
@[simp] theorem kEOr_app {g : CE} {d : D} {Q : D → Store → Prop} : kEOr g en Q E d M = PV ((vwD M d).bind TruD) M (kEO g en Q E d) := rfl
@[simp] theorem m_eOr {f g : CE} {Q : D → Store → Prop} : Post (eOr f g en M) Q E = Post (f en M) (kEOr g en Q E) E := by
  simp only [eOr, Post_bind_eq, Post_ofO]
  congr 1
  funext d M
  show PV _ _ _ = PV _ _ _
  congr 1
  funext k M
  cases k <;> rfl
def notD (k : Bool) : D := .bl (!k)
@[simp] theorem notD_eq {k : Bool} : notD k = .bl (!k) := rfl
def kENot (Q : D → Store → Prop) (d : D) (M : Store) : Prop := PV (((vwD M d).bind TruD).map notD) M Q
@[simp] theorem kENot_app {d : D} {Q : D → Store → Prop} : kENot Q d M = PV (((vwD M d).bind TruD).map notD) M Q := rfl
@[simp] theorem m_eNot {f : CE} {Q : D → Store → Prop} : Post (eNot f en M) Q E = Post (f en M) (kENot Q) E := by simp only [eNot, Post_bind_eq, Post_ofO]; rfl
end
end DL

/-! DLY: the machine: displays, walks, comprehensions, statements, loops, defs. -/
namespace DL
open PySem PySem.Spec PyProof.Rows L2
section
variable {en : En} {M : Store} {E : EX}
/-! ### displays of dicts -/
def kDP3 (key : Key) (v : D) (Q : List (Key × D) → Store → Prop) (l : List (Key × D)) (M : Store) : Prop := Q ((key, v) :: l) M
def kDP2k (r : List (CE × CE)) (v : D) (en : En) (Q : List (Key × D) → Store → Prop) (E : EX) (key : Key) (M : Store) : Prop := Post (dPairs r en M) (kDP3 key v Q) E
def kDP2 (r : List (CE × CE)) (k : D) (en : En) (Q : List (Key × D) → Store → Prop) (E : EX) (v : D) (M : Store) : Prop := PV (keyD k) M (kDP2k r v en Q E)
def kDP1 (g : CE) (r : List (CE × CE)) (en : En) (Q : List (Key × D) → Store → Prop) (E : EX) (k : D) (M : Store) : Prop := Post (g en M) (kDP2 r k en Q E) E
@[simp] theorem kDP3_app {key : Key} {v : D} {l : List (Key × D)} {Q : List (Key × D) → Store → Prop} : kDP3 key v Q l M = Q ((key, v) :: l) M := rfl
@[simp] theorem kDP2k_app {r : List (CE × CE)} {key : Key} {v : D} {Q : List (Key × D) → Store → Prop} : kDP2k r v en Q E key M = Post (dPairs r en M) (kDP3 key v Q) E := rfl
@[simp] theorem kDP2_app {r : List (CE × CE)} {k v : D} {Q : List (Key × D) → Store → Prop} : kDP2 r k en Q E v M = PV (keyD k) M (kDP2k r v en Q E) := rfl
@[simp] theorem kDP1_app {g : CE} {r : List (CE × CE)} {k : D} {Q : List (Key × D) → Store → Prop} : kDP1 g r en Q E k M = Post (g en M) (kDP2 r k en Q E) E := rfl
@[simp] theorem m_dPairs_nil {Q : List (Key × D) → Store → Prop} : Post (dPairs [] en M) Q E = Q [] M := rfl
@[simp] theorem m_dPairs_cons {f g : CE} {r : List (CE × CE)} {Q : List (Key × D) → Store → Prop} : Post (dPairs ((f, g) :: r) en M) Q E = Post (f en M) (kDP1 g r en Q E) E := by
  simp only [dPairs, Post_bind_eq, Post_ofO]
  rfl
@[simp] theorem keyD_str {x : Str} : keyD (.str x) = some (.inr x) := rfl
@[simp] theorem keyD_int {x : Int} : keyD (.int x) = some (.inl x) := rfl
def kDisp (Q : MO → Store → Prop) (l : List (Key × D)) (M : Store) : Prop := Q (.dic (mergeD [] [] l).1 (mergeD [] [] l).2) M
@[simp] theorem kDisp_app {l : List (Key × D)} {Q : MO → Store → Prop} : kDisp Q l M = Q (.dic (mergeD [] [] l).1 (mergeD [] [] l).2) M := rfl
@[simp] theorem m_nDisp {fs : List (CE × CE)} {Q : MO → Store → Prop} : Post (nDisp fs en M) Q E = Post (dPairs fs en M) (kDisp Q) E := by simp only [nDisp, Post_bind_eq]; rfl
@[simp] theorem m_nDict0 {Q : MO → Store → Prop} : Post (nDict0 en M) Q E = Q (.dic [] []) M := rfl
/-! ### d.get -/
def kGet1b (v : Option D) (k : D) (M : Store) (Q : D → Store → Prop) : Prop := match v with | some (.dic ks xs) => PV ((keyD k).map fun k => (dget ks xs k).getD .non) M Q | _ => False
@[simp] theorem kGet1b_app {ks : List Key} {xs : List D} {k : D} {Q : D → Store → Prop} : kGet1b (some (.dic ks xs)) k M Q = PV ((keyD k).map fun k => (dget ks xs k).getD .non) M Q := rfl
def kGet1k (a : Hd) (en : En) (Q : D → Store → Prop) (k : D) (M : Store) : Prop := kGet1b (vw en M a) k M Q
@[simp] theorem kGet1k_app {a : Hd} {k : D} {Q : D → Store → Prop} : kGet1k a en Q k M = kGet1b (vw en M a) k M Q := rfl
def kGet1v (v : Option D) (f : CE) (a : Hd) (en : En) (M : Store) (Q : D → Store → Prop) (E : EX) : Prop := match v with | some (.dic _ _) => Post (f en M) (kGet1k a en Q) E | _ => False
@[simp] theorem kGet1v_app {ks : List Key} {xs : List D} {f : CE} {a : Hd} {Q : D → Store → Prop} : kGet1v (some (.dic ks xs)) f a en M Q E = Post (f en M) (kGet1k a en Q) E := rfl
def kGet1 (f : CE) (en : En) (Q : D → Store → Prop) (E : EX) (a : Hd) (M : Store) : Prop := kGet1v (vw en M a) f a en M Q E
@[simp] theorem kGet1_app {f : CE} {a : Hd} {Q : D → Store → Prop} : kGet1 f en Q E a M = kGet1v (vw en M a) f a en M Q E := rfl
@[simp] theorem m_eGet1 {h : CH} {f : CE} {Q : D → Store → Prop} : Post (eGet1 h f en M) Q E = Post (h en M) (kGet1 f en Q E) E := by
  simp only [eGet1, Post_bind_eq]
  congr 1
  funext a M1
  rw [kGet1_app]
  cases q : vw en M1 a with
  | none => rfl
  | some d =>
    cases d <;> try rfl
    rw [kGet1v_app]
    simp only [Post_bind_eq]
    congr 1
    funext k M2
    rw [kGet1k_app]
    cases q : vw en M2 a with
    | none => rfl
    | some d =>
      cases d <;> try rfl
      rw [kGet1b_app]
      exact Post_ofO
def kGet2b (v : Option D) (k z : D) (M : Store) (Q : D → Store → Prop) : Prop := match v with | some (.dic ks xs) => PV ((keyD k).map fun k => (dget ks xs k).getD z) M Q | _ => False
@[simp] theorem kGet2b_app {ks : List Key} {xs : List D} {k z : D} {Q : D → Store → Prop} : kGet2b (some (.dic ks xs)) k z M Q = PV ((keyD k).map fun k => (dget ks xs k).getD z) M Q := rfl
def kGet2z (a : Hd) (k : D) (en : En) (Q : D → Store → Prop) (z : D) (M : Store) : Prop := kGet2b (vw en M a) k z M Q
@[simp] theorem kGet2z_app {a : Hd} {k z : D} {Q : D → Store → Prop} : kGet2z a k en Q z M = kGet2b (vw en M a) k z M Q := rfl
def kGet2k (g : CE) (a : Hd) (en : En) (Q : D → Store → Prop) (E : EX) (k : D) (M : Store) : Prop := Post (g en M) (kGet2z a k en Q) E
@[simp] theorem kGet2k_app {g : CE} {a : Hd} {k : D} {Q : D → Store → Prop} : kGet2k g a en Q E k M = Post (g en M) (kGet2z a k en Q) E := rfl
def kGet2v (v : Option D) (f g : CE) (a : Hd) (en : En) (M : Store) (Q : D → Store → Prop) (E : EX) : Prop := match v with | some (.dic _ _) => Post (f en M) (kGet2k g a en Q E) E | _ => False
@[simp] theorem kGet2v_app {ks : List Key} {xs : List D} {f g : CE} {a : Hd} {Q : D → Store → Prop} : kGet2v (some (.dic ks xs)) f g a en M Q E = Post (f en M) (kGet2k g a en Q E) E := rfl
def kGet2 (f g : CE) (en : En) (Q : D → Store → Prop) (E : EX) (a : Hd) (M : Store) : Prop := kGet2v (vw en M a) f g a en M Q E
@[simp] theorem kGet2_app {f g : CE} {a : Hd} {Q : D → Store → Prop} : kGet2 f g en Q E a M = kGet2v (vw en M a) f g a en M Q E := rfl
@[simp] theorem m_eGet2 {h : CH} {f g : CE} {Q : D → Store → Prop} : Post (eGet2 h f g en M) Q E = Post (h en M) (kGet2 f g en Q E) E := by
  simp only [eGet2, Post_bind_eq]
  congr 1
  funext a M1
  rw [kGet2_app]
  cases q : vw en M1 a with
  | none => rfl
  | some d =>
    cases d <;> try rfl
    rw [kGet2v_app]
    simp only [Post_bind_eq]
    congr 1
    funext k M2
    rw [kGet2k_app]
    congr 1
    funext z M3
    rw [kGet2z_app]
    cases q : vw en M3 a with
    | none => rfl
    | some d =>
      cases d <;> try rfl
      rw [kGet2b_app]
      exact Post_ofO
/-! ### texts -/
def kSM2 (g : Str → List D → Option D) (z : Str) (Q : D → Store → Prop) (ds : List D) (M : Store) : Prop := PV (g z ds) M Q
@[simp] theorem kSM2_app {g : Str → List D → Option D} {z : Str} {ds : List D} {Q : D → Store → Prop} : kSM2 g z Q ds M = PV (g z ds) M Q := rfl
def kSM (g : Str → List D → Option D) (args : CA) (en : En) (Q : D → Store → Prop) (E : EX) (d : D) (M : Store) : Prop := match d with | .str z => Post (args en M) (kSM2 g z Q) E | _ => False
@[simp] theorem kSM_app {g : Str → List D → Option D} {args : CA} {z : Str} {Q : D → Store → Prop} : kSM g args en Q E (.str z) M = Post (args en M) (kSM2 g z Q) E := rfl
@[simp] theorem m_eSM {g : Str → List D → Option D} {f : CE} {args : CA} {Q : D → Store → Prop} : Post (eSM g f args en M) Q E = Post (f en M) (kSM g args en Q E) E := by
  simp only [eSM, Post_bind_eq]
  congr 1
  funext d M1
  cases d <;> try rfl
  rw [kSM_app]
  simp only [Post_bind_eq, Post_ofO]
  rfl
def kOpt (Q : Option Int → Store → Prop) (d : D) (M : Store) : Prop := match d with | .int i => Q (some i) M | _ => False
@[simp] theorem kOpt_app {i : Int} {Q : Option Int → Store → Prop} : kOpt Q (.int i) M = Q (some i) M := rfl
@[simp] theorem m_optE_none {Q : Option Int → Store → Prop} : Post (optE none en M) Q E = Q none M := rfl
@[simp] theorem m_optE_some {f : CE} {Q : Option Int → Store → Prop} : Post (optE (some f) en M) Q E = Post (f en M) (kOpt Q) E := by
  simp only [optE, Post_bind_eq]
  congr 1
  funext d M1
  cases d <;> rfl
def kSl3 (z : Str) (l : Option Int) (Q : D → Store → Prop) (u : Option Int) (M : Store) : Prop := PF z.length (Q (.str (cutS z l u)) M)
@[simp] theorem kSl3_app {z : Str} {l u : Option Int} {Q : D → Store → Prop} : kSl3 z l Q u M = PF z.length (Q (.str (cutS z l u)) M) := rfl
def kSl2 (z : Str) (hi : Option CE) (en : En) (Q : D → Store → Prop) (E : EX) (l : Option Int) (M : Store) : Prop := Post (optE hi en M) (kSl3 z l Q) E
@[simp] theorem kSl2_app {z : Str} {hi : Option CE} {l : Option Int} {Q : D → Store → Prop} : kSl2 z hi en Q E l M = Post (optE hi en M) (kSl3 z l Q) E := rfl
def kSl (lo hi : Option CE) (en : En) (Q : D → Store → Prop) (E : EX) (d : D) (M : Store) : Prop := match d with | .str z => Post (optE lo en M) (kSl2 z hi en Q E) E | _ => False
@[simp] theorem kSl_app {lo hi : Option CE} {z : Str} {Q : D → Store → Prop} : kSl lo hi en Q E (.str z) M = Post (optE lo en M) (kSl2 z hi en Q E) E := rfl
@[simp] theorem m_eSlS {f : CE} {lo hi : Option CE} {Q : D → Store → Prop} : Post (eSlS f lo hi en M) Q E = Post (f en M) (kSl lo hi en Q E) E := by
  simp only [eSlS, Post_bind_eq]
  congr 1
  funext d M1
  cases d <;> try rfl
  rw [kSl_app]
  simp only [Post_bind_eq, Post_ite]
  rfl
/-! ### what is walked -/
abbrev IT := List D × List (D × D)
def kSeqI (Q : IT → Store → Prop) (d v : D) (M : Store) : Prop := PV (itemsD v) M fun xs M => Q (xs, gdD d v) M
@[simp] theorem kSeqI_lst {xs : List D} {d : D} {Q : IT → Store → Prop} : kSeqI Q d (.lst xs) M = Q (xs, gdD d (.lst xs)) M := rfl
@[simp] theorem kSeqI_tup {xs : List D} {d : D} {Q : IT → Store → Prop} : kSeqI Q d (.tup xs) M = Q (xs, gdD d (.tup xs)) M := rfl
@[simp] theorem kSeqI_scr {xs : List Int} {d : D} {Q : IT → Store → Prop} : kSeqI Q d (.scr xs) M = Q (xs.map D.int, gdD d (.scr xs)) M := rfl
@[simp] theorem kSeqI_str {z : Str} {d : D} {Q : IT → Store → Prop} : kSeqI Q d (.str z) M = Q (signsD z, gdD d (.str z)) M := rfl
@[simp] theorem gdD_lst {xs : List D} {v : D} : gdD (.lst xs) v = [] := rfl
@[simp] theorem gdD_tup {xs : List D} {v : D} : gdD (.tup xs) v = [] := rfl
@[simp] theorem gdD_scr {xs : List Int} {v : D} : gdD (.scr xs) v = [] := rfl
@[simp] theorem gdD_str {z : Str} {v : D} : gdD (.str z) v = [] := rfl
@[simp] theorem gdD_ref {n : Nat} {v : D} : gdD (.ref n) v = [(.ref n, v)] := rfl
def kISeq (Q : IT → Store → Prop) (d : D) (M : Store) : Prop := PV (vwD M d) M (kSeqI Q d)
@[simp] theorem kISeq_app {d : D} {Q : IT → Store → Prop} : kISeq Q d M = PV (vwD M d) M (kSeqI Q d) := rfl
@[simp] theorem m_iSeq {f : CE} {Q : IT → Store → Prop} : Post (iSeq f en M) Q E = Post (f en M) (kISeq Q) E := by
  simp only [iSeq, Post_bind_eq, Post_ofO]
  congr 1
  funext d M1
  rw [kISeq_app]
  cases vwD M1 d with
  | none => rfl
  | some v =>
    show PV ((itemsD v).map _) _ _ = PV (itemsD v) _ _
    cases itemsD v <;> rfl
/-- whole numbers that a range bears -/
structure Sm (j : Int) : Prop where
  h : -(2 ^ 62) ≤ j ∧ j < 2 ^ 62
theorem Sm.eq {j : Int} : (-(2 ^ 62) ≤ j ∧ j < 2 ^ 62) = Sm j := propext ⟨Sm.mk, Sm.h⟩
theorem Sm.of {j : Int} (h : -1000000000000000000 ≤ j) (h2 : j ≤ 1000000000000000000) : Sm j := ⟨by omega⟩
def kRng1 (Q : IT → Store → Prop) (ds : List D) (M : Store) : Prop := match ds with | [.int j] => Sm j ∧ Q (rngD 0 j.toNat, []) M | _ => False
@[simp] theorem kRng1_app {j : Int} {Q : IT → Store → Prop} : kRng1 Q [.int j] M = (Sm j ∧ Q (rngD 0 j.toNat, []) M) := rfl
@[simp] theorem m_iRange1 {f : CA} {Q : IT → Store → Prop} : Post (iRange1 f en M) Q E = Post (f en M) (kRng1 Q) E := by
  simp only [iRange1, Post_bind_eq]
  congr 1
  funext ds M1
  match ds with
  | [] => rfl
  | [.int j] => exact Post_ite.trans (by rw [Sm.eq]; rfl)
  | [.non] => rfl
  | [.bl _] => rfl
  | [.str _] => rfl
  | [.tup _] => rfl
  | [.lst _] => rfl
  | [.dic _ _] => rfl
  | [.ref _] => rfl
  | [.scr _] => rfl
  | a :: b :: r => cases a <;> rfl
def kRng2 (Q : IT → Store → Prop) (ds : List D) (M : Store) : Prop := match ds with | [.int i, .int j] => (Sm i ∧ Sm j) ∧ Q (rngD i (j - i).toNat, []) M | _ => False
@[simp] theorem kRng2_app {i j : Int} {Q : IT → Store → Prop} : kRng2 Q [.int i, .int j] M = ((Sm i ∧ Sm j) ∧ Q (rngD i (j - i).toNat, []) M) := rfl
@[simp] theorem m_iRange2 {f : CA} {Q : IT → Store → Prop} : Post (iRange2 f en M) Q E = Post (f en M) (kRng2 Q) E := by
  simp only [iRange2, Post_bind_eq]
  congr 1
  funext ds M1
  rcases ds with _ | ⟨a, _ | ⟨b, _ | ⟨c, r⟩⟩⟩
  · rfl
  · cases a <;> rfl
  · cases a <;> cases b <;> try rfl
    rw [kRng2_app]
    show Post (ite _ _ _) _ _ = _
    rw [Post_ite, ← Sm.eq, ← Sm.eq]
    simp only [and_assoc, Post_ok]
  · cases a <;> cases b <;> rfl
def kZip (Q : IT → Store → Prop) (ds : List D) (M : Store) : Prop := match ds with | [d1, d2] => PV (zipO M d1 d2) M Q | _ => False
@[simp] theorem kZip_app {d1 d2 : D} {Q : IT → Store → Prop} : kZip Q [d1, d2] M = PV (zipO M d1 d2) M Q := rfl
@[simp] theorem m_iZip2 {f : CA} {Q : IT → Store → Prop} : Post (iZip2 f en M) Q E = Post (f en M) (kZip Q) E := by
  simp only [iZip2, Post_bind_eq]
  congr 1
  funext ds M1
  rcases ds with _ | ⟨a, _ | ⟨b, _ | ⟨c, r⟩⟩⟩
  · rfl
  · rfl
  · exact Post_ofO
  · rfl
@[simp] theorem zipO_lst {xs ys : List D} : zipO M (.lst xs) (.lst ys) = some (zipD xs ys, []) := rfl
@[simp] theorem zipO_tup {xs ys : List D} : zipO M (.tup xs) (.tup ys) = some (zipD xs ys, []) := rfl
/-! ### comprehensions -/
def kComp (t : Tg) (vs : List Nat) (tt : CB) (te : CE) (en : En) (Q : MO → Store → Prop) (E : EX) (p : IT) (M : Store) : Prop := PF p.1.length (Post (compL t p.2 tt te (wipeE en vs) p.1 M) (fun r M => Q (.lst r) M) E)
@[simp] theorem kComp_app {t : Tg} {vs : List Nat} {tt : CB} {te : CE} {xs : List D} {g : List (D × D)} {Q : MO → Store → Prop} : kComp t vs tt te en Q E (xs, g) M = PF xs.length (Post (compL t g tt te (wipeE en vs) xs M) (fun r M => Q (.lst r) M) E) := rfl
@[simp] theorem m_nComp {ci : CI} {t : Tg} {vs : List Nat} {tt : CB} {te : CE} {Q : MO → Store → Prop} : Post (nComp ci t vs tt te en M) Q E = Post (ci en M) (kComp t vs tt te en Q E) E := by
  simp only [nComp, Post_bind_eq, Post_ite]
  rfl
def kCv (t : Tg) (tt : CB) (te : CE) (en : En) (xs : List D) (d : D) (Q : List D → Store → Prop) (E : EX) (M : Store) : Prop := Post (compL t [] tt te en xs M) (fun r M => Q (d :: r) M) E
def kCd (t : Tg) (tt : CB) (te : CE) (en : En) (xs : List D) (Q : List D → Store → Prop) (E : EX) (d : D) (M : Store) : Prop := kCv t tt te en xs d Q E M
def kCt (t : Tg) (tt : CB) (te : CE) (en en1 : En) (xs : List D) (Q : List D → Store → Prop) (E : EX) (k : Bool) (M : Store) : Prop := match k with | true => Post (te en1 M) (kCd t tt te en xs Q E) kNo | false => Post (compL t [] tt te en xs M) Q E
def kCp (t : Tg) (tt : CB) (te : CE) (en : En) (xs : List D) (Q : List D → Store → Prop) (E : EX) (en1 : En) (M : Store) : Prop := Post (tt en1 M) (kCt t tt te en en1 xs Q E) kNo
@[simp] theorem kCd_app {t : Tg} {tt : CB} {te : CE} {xs : List D} {d : D} {Q : List D → Store → Prop} : kCd t tt te en xs Q E d M = Post (compL t [] tt te en xs M) (fun r M => Q (d :: r) M) E := rfl
@[simp] theorem kCt_t {t : Tg} {tt : CB} {te : CE} {en1 : En} {xs : List D} {Q : List D → Store → Prop} : kCt t tt te en en1 xs Q E true M = Post (te en1 M) (kCd t tt te en xs Q E) kNo := rfl
@[simp] theorem kCt_f {t : Tg} {tt : CB} {te : CE} {en1 : En} {xs : List D} {Q : List D → Store → Prop} : kCt t tt te en en1 xs Q E false M = Post (compL t [] tt te en xs M) Q E := rfl
@[simp] theorem kCp_app {t : Tg} {tt : CB} {te : CE} {en1 : En} {xs : List D} {Q : List D → Store → Prop} : kCp t tt te en xs Q E en1 M = Post (tt en1 M) (kCt t tt te en en1 xs Q E) kNo := rfl
@[simp] theorem m_compL_nil {t : Tg} {tt : CB} {te : CE} {Q : List D → Store → Prop} : Post (compL t [] tt te en [] M) Q E = Q [] M := by
  unfold compL
  simp
end
end DL

/-! DLZ: the machine: statements, loops, defs; rules for loops. -/
namespace DL
open PySem PySem.Spec PyProof.Rows L2
abbrev QF := Fl → Store → Prop
section
variable {en : En} {M : Store} {E : EX}
def kEx (en : En) (Q : QF) : EX := fun c fs M => Q (.exc c fs en) M
@[simp] theorem kEx_app {Q : QF} {c : Str} {fs : List (Str × D)} : kEx en Q c fs M = Q (.exc c fs en) M := rfl
theorem Post_thenS {o : Out D} {k : D → Store → Out Fl} {Q : QF} : Post (thenS o en k) Q E = Post o (fun d M => Post (k d M) Q E) (kEx en Q) := by cases o <;> rfl
theorem Post_thenB {o : Out Bool} {k : Bool → Store → Out Fl} {Q : QF} : Post (thenB o en k) Q E = Post o (fun d M => Post (k d M) Q E) (kEx en Q) := by cases o <;> rfl
theorem Post_thenN {o : Out MO} {k : MO → Store → Out Fl} {Q : QF} : Post (thenN o en k) Q E = Post o (fun d M => Post (k d M) Q E) (kEx en Q) := by cases o <;> rfl
theorem Post_thenA {o : Out (List D)} {k : List D → Store → Out Fl} {Q : QF} : Post (thenA o en k) Q E = Post o (fun d M => Post (k d M) Q E) (kEx en Q) := by cases o <;> rfl
theorem Post_thenM {o : Out (MO × D)} {k : MO × D → Store → Out Fl} {Q : QF} : Post (thenM o en k) Q E = Post o (fun d M => Post (k d M) Q E) (kEx en Q) := by cases o <;> rfl
theorem Post_thenI {o : Out IT} {k : IT → Store → Out Fl} {Q : QF} : Post (thenI o en k) Q E = Post o (fun d M => Post (k d M) Q E) (kEx en Q) := by cases o <;> rfl
def kSeq (g : CS) (Q : QF) (E : EX) (r : Fl) (M : Store) : Prop := match r with | .next en => Post (g en M) Q E | r => Q r M
@[simp] theorem kSeq_next {g : CS} {Q : QF} : kSeq g Q E (.next en) M = Post (g en M) Q E := rfl
@[simp] theorem kSeq_ret {g : CS} {Q : QF} {d : D} : kSeq g Q E (.ret d) M = Q (.ret d) M := rfl
@[simp] theorem kSeq_brk {g : CS} {Q : QF} : kSeq g Q E (.brk en) M = Q (.brk en) M := rfl
@[simp] theorem kSeq_cont {g : CS} {Q : QF} : kSeq g Q E (.cont en) M = Q (.cont en) M := rfl
@[simp] theorem kSeq_exc {g : CS} {Q : QF} {c : Str} {fs : List (Str × D)} : kSeq g Q E (.exc c fs en) M = Q (.exc c fs en) M := rfl
@[simp] theorem m_seqS {f g : CS} {Q : QF} : Post (seqS f g en M) Q E = Post (f en M) (kSeq g Q E) E := by
  unfold seqS
  cases f en M with
  | ok r M1 => cases r <;> rfl
  | exc c fs M1 => rfl
  | err => rfl
@[simp] theorem m_nilS {Q : QF} : Post (nilS en M) Q E = Q (.next en) M := rfl
@[simp] theorem m_brkS {Q : QF} : Post (brkS en M) Q E = Q (.brk en) M := rfl
@[simp] theorem m_contS {Q : QF} : Post (contS en M) Q E = Q (.cont en) M := rfl
@[simp] theorem m_retNS {Q : QF} : Post (retNS en M) Q E = Q (.ret .non) M := rfl
@[simp] theorem m_errS {Q : QF} : Post (errS en M) Q E = False := rfl
def kAsg (i : Nat) (en : En) (Q : QF) (d : D) (M : Store) : Prop := Q (.next (en.set i (some (.val d)))) M
@[simp] theorem kAsg_app {i : Nat} {Q : QF} {d : D} : kAsg i en Q d M = Q (.next (en.set i (some (.val d)))) M := rfl
@[simp] theorem m_asgS {i : Nat} {f : CE} {Q : QF} : Post (asgS i f en M) Q E = Post (f en M) (kAsg i en Q) (kEx en Q) := by simp only [asgS, Post_thenS]; rfl
def kOwnS (i : Nat) (en : En) (Q : QF) (d : MO) (M : Store) : Prop := Q (.next (en.set i (some (.own d)))) M
@[simp] theorem kOwnS_app {i : Nat} {Q : QF} {d : MO} : kOwnS i en Q d M = Q (.next (en.set i (some (.own d)))) M := rfl
@[simp] theorem m_ownS {i : Nat} {f : CN} {Q : QF} : Post (ownS i f en M) Q E = Post (f en M) (kOwnS i en Q) (kEx en Q) := by simp only [ownS, Post_thenN]; rfl
def kRetS (Q : QF) (d : D) (M : Store) : Prop := Q (.ret d) M
@[simp] theorem kRetS_app {Q : QF} {d : D} : kRetS Q d M = Q (.ret d) M := rfl
@[simp] theorem m_retS {f : CE} {Q : QF} : Post (retS f en M) Q E = Post (f en M) (kRetS Q) (kEx en Q) := by simp only [retS, Post_thenS]; rfl
def kDrop (en : En) (Q : QF) (d : D) (M : Store) : Prop := Q (.next en) M
@[simp] theorem kDrop_app {Q : QF} {d : D} : kDrop en Q d M = Q (.next en) M := rfl
@[simp] theorem m_dropS {f : CE} {Q : QF} : Post (dropS f en M) Q E = Post (f en M) (kDrop en Q) (kEx en Q) := by simp only [dropS, Post_thenS]; rfl
def kIf (f g : CS) (en : En) (Q : QF) (E : EX) (k : Bool) (M : Store) : Prop := match k with | true => Post (f en M) Q E | false => Post (g en M) Q E
@[simp] theorem kIf_t {f g : CS} {Q : QF} : kIf f g en Q E true M = Post (f en M) Q E := rfl
@[simp] theorem kIf_f {f g : CS} {Q : QF} : kIf f g en Q E false M = Post (g en M) Q E := rfl
@[simp] theorem m_ifS {c : CB} {f g : CS} {Q : QF} : Post (ifS c f g en M) Q E = Post (c en M) (kIf f g en Q E) (kEx en Q) := by
  simp only [ifS, Post_thenB]
  congr 1
  funext k M
  cases k <;> rfl
def kFrzS (s : Option (Option Slot)) (i : Nat) (g : CS) (en : En) (M : Store) (Q : QF) (E : EX) : Prop := match s with
  | some (some (.own o)) => PV (frzO o) M fun d M => Post (g (en.set i (some (.val d))) M) Q E
  | _ => Post (g en M) Q E
@[simp] theorem kFrzS_lst {xs : List D} {i : Nat} {g : CS} {Q : QF} : kFrzS (some (some (.own (.lst xs)))) i g en M Q E = Post (g (en.set i (some (.val (.lst xs)))) M) Q E := rfl
@[simp] theorem kFrzS_dic {ks : List Key} {xs : List D} {i : Nat} {g : CS} {Q : QF} : kFrzS (some (some (.own (.dic ks xs)))) i g en M Q E = Post (g (en.set i (some (.val (.dic ks xs)))) M) Q E := rfl
@[simp] theorem kFrzS_val {d : D} {i : Nat} {g : CS} {Q : QF} : kFrzS (some (some (.val d))) i g en M Q E = Post (g en M) Q E := rfl
@[simp] theorem kFrzS_none {i : Nat} {g : CS} {Q : QF} : kFrzS (some none) i g en M Q E = Post (g en M) Q E := rfl
@[simp] theorem m_frzS {i : Nat} {g : CS} {Q : QF} : Post (frzS i g en M) Q E = kFrzS (gt en i) i g en M Q E := by
  rw [← gt_eq]
  unfold frzS kFrzS
  cases en[i]? with
  | none => rfl
  | some s =>
    cases s with
    | none => rfl
    | some s =>
      cases s with
      | val d => rfl
      | own o =>
        show Post (match frzO o with | some d => _ | none => _) Q E = PV (frzO o) _ _
        cases frzO o <;> rfl
def kPar (i j : Nat) (en : En) (Q : QF) (ds : List D) (M : Store) : Prop := match ds with | [x, y] => Q (.next ((en.set i (some (.val x))).set j (some (.val y)))) M | _ => False
@[simp] theorem kPar_app {i j : Nat} {Q : QF} {x y : D} : kPar i j en Q [x, y] M = Q (.next ((en.set i (some (.val x))).set j (some (.val y)))) M := rfl
@[simp] theorem m_parS {i j : Nat} {f : CA} {Q : QF} : Post (parS i j f en M) Q E = Post (f en M) (kPar i j en Q) (kEx en Q) := by
  simp only [parS, Post_thenA]
  congr 1
  funext ds M1
  rcases ds with _ | ⟨a, _ | ⟨b, _ | ⟨c, r⟩⟩⟩ <;> rfl
def kPar3 (i j l : Nat) (en : En) (Q : QF) (ds : List D) (M : Store) : Prop := match ds with | [x, y, z] => Q (.next (((en.set i (some (.val x))).set j (some (.val y))).set l (some (.val z)))) M | _ => False
@[simp] theorem kPar3_app {i j l : Nat} {Q : QF} {x y z : D} : kPar3 i j l en Q [x, y, z] M = Q (.next (((en.set i (some (.val x))).set j (some (.val y))).set l (some (.val z)))) M := rfl
@[simp] theorem m_par3S {i j l : Nat} {f : CA} {Q : QF} : Post (par3S i j l f en M) Q E = Post (f en M) (kPar3 i j l en Q) (kEx en Q) := by
  simp only [par3S, Post_thenA]
  congr 1
  funext ds M1
  rcases ds with _ | ⟨a, _ | ⟨b, _ | ⟨c, _ | ⟨d, r⟩⟩⟩⟩ <;> rfl
def kNext (Q : QF) (en : En) (M : Store) : Prop := Q (.next en) M
@[simp] theorem kNext_app {Q : QF} : kNext Q en M = Q (.next en) M := rfl
def kAsgG (t : Tg) (en : En) (Q : QF) (d : D) (M : Store) : Prop := PV (t.put d en) M (kNext Q)
@[simp] theorem kAsgG_app {t : Tg} {Q : QF} {d : D} : kAsgG t en Q d M = PV (t.put d en) M (kNext Q) := rfl
@[simp] theorem m_asgG {t : Tg} {f : CE} {Q : QF} : Post (asgG t f en M) Q E = Post (f en M) (kAsgG t en Q) (kEx en Q) := by
  simp only [asgG, Post_thenS]
  congr 1
  funext d M1
  rw [kAsgG_app]
  cases t.put d en <;> rfl
def putsO (ts : List Tg) (xs : List D) : Option En → Option En
  | some en => Tg.puts ts xs en
  | none => none
@[simp] theorem putsO_some {ts : List Tg} {xs : List D} : putsO ts xs (some en) = Tg.puts ts xs en := rfl
@[simp] theorem put_name {i : Nat} {d : D} : Tg.put (.name i) d en = some (en.set i (some (.val d))) := by simp [Tg.put]
@[simp] theorem put_tup {ts : List Tg} {xs : List D} : Tg.put (.tup ts) (.tup xs) en = Tg.puts ts xs en := by simp [Tg.put]
@[simp] theorem puts_nil : Tg.puts [] [] en = some en := by simp [Tg.puts]
@[simp] theorem puts_cons {t : Tg} {ts : List Tg} {x : D} {xs : List D} : Tg.puts (t :: ts) (x :: xs) en = putsO ts xs (t.put x en) := by
  rw [Tg.puts]
  cases t.put x en <;> rfl
/-! ### things that change -/
def putR : Option MO → D → D → Option MO
  | some o, k, v => putM o k v
  | none, _, _ => none
@[simp] theorem putR_some {o : MO} {k v : D} : putR (some o) k v = putM o k v := rfl
def kSetR (n : Nat) (en : En) (Q : QF) (o : MO) (M : Store) : Prop := Q (.next en) (M.set n o)
@[simp] theorem kSetR_app {n : Nat} {Q : QF} {o : MO} : kSetR n en Q o M = Q (.next en) (M.set n o) := rfl
def kStR3 (o v : D) (en : En) (Q : QF) (k : D) (M : Store) : Prop := match o with | .ref n => PV (putR (gt M n) k v) M (kSetR n en Q) | _ => False
@[simp] theorem kStR3_app {n : Nat} {k v : D} {Q : QF} : kStR3 (.ref n) v en Q k M = PV (putR (gt M n) k v) M (kSetR n en Q) := rfl
def kStR2 (fk : CE) (v : D) (en : En) (Q : QF) (o : D) (M : Store) : Prop := Post (fk en M) (kStR3 o v en Q) (kEx en Q)
@[simp] theorem kStR2_app {fk : CE} {v o : D} {Q : QF} : kStR2 fk v en Q o M = Post (fk en M) (kStR3 o v en Q) (kEx en Q) := rfl
def kStR1 (fo fk : CE) (en : En) (Q : QF) (v : D) (M : Store) : Prop := Post (fo en M) (kStR2 fk v en Q) (kEx en Q)
@[simp] theorem kStR1_app {fo fk : CE} {v : D} {Q : QF} : kStR1 fo fk en Q v M = Post (fo en M) (kStR2 fk v en Q) (kEx en Q) := rfl
@[simp] theorem m_stR {fo fk fv : CE} {Q : QF} : Post (stR fo fk fv en M) Q E = Post (fv en M) (kStR1 fo fk en Q) (kEx en Q) := by
  simp only [stR, Post_thenS]
  congr 1
  funext v M1
  rw [kStR1_app]
  congr 1
  funext o M2
  rw [kStR2_app]
  congr 1
  funext k M3
  cases o <;> try rfl
  rename_i n
  rw [kStR3_app, ← gt_eq]
  show Post (match M3[n]? with | some o => _ | none => _) Q E = _
  cases M3[n]? with
  | none => rfl
  | some o =>
    rw [putR_some]
    show Post (match putM o k v with | some o' => _ | none => _) Q E = _
    cases putM o k v <;> rfl
def putS : Option (Option Slot) → D → D → Option MO
  | some (some (.own o)), k, v => putM o k v
  | _, _, _ => none
@[simp] theorem putS_own {o : MO} {k v : D} : putS (some (some (.own o))) k v = putM o k v := rfl
def kStO2 (i : Nat) (v : D) (en : En) (Q : QF) (k : D) (M : Store) : Prop := PV (putS (gt en i) k v) M (kOwnS i en Q)
@[simp] theorem kStO2_app {i : Nat} {v k : D} {Q : QF} : kStO2 i v en Q k M = PV (putS (gt en i) k v) M (kOwnS i en Q) := rfl
def isOwn : Option (Option Slot) → Bool
  | some (some (.own _)) => true
  | _ => false
@[simp] theorem isOwn_own {o : MO} : isOwn (some (some (.own o))) = true := rfl
def kStO1 (i : Nat) (fk : CE) (en : En) (Q : QF) (v : D) (M : Store) : Prop := isOwn (gt en i) = true ∧ Post (fk en M) (kStO2 i v en Q) (kEx en Q)
@[simp] theorem kStO1_app {i : Nat} {fk : CE} {v : D} {Q : QF} : kStO1 i fk en Q v M = (isOwn (gt en i) = true ∧ Post (fk en M) (kStO2 i v en Q) (kEx en Q)) := rfl
@[simp] theorem m_stO {i : Nat} {fk fv : CE} {Q : QF} : Post (stO i fk fv en M) Q E = Post (fv en M) (kStO1 i fk en Q) (kEx en Q) := by
  simp only [stO, Post_thenS]
  congr 1
  funext v M1
  rw [kStO1_app, ← gt_eq]
  cases q : en[i]? with
  | none => simp [isOwn]
  | some s =>
    cases s with
    | none => simp [isOwn]
    | some s =>
      cases s with
      | val d => simp [isOwn]
      | own o =>
        simp only [isOwn_own, true_and, Post_thenS]
        congr 1
        funext k M2
        rw [kStO2_app, ← gt_eq, q, putS_own]
        cases putM o k v <;> rfl
abbrev QM := MO × D → Store → Prop
def ownO (T : String) : Option (Option Slot) → Option MO
  | some (some (.own o)) => if tyM T o = true then some o else none
  | _ => none
@[simp] theorem ownO_lst {xs : List D} : ownO "list" (some (some (.own (.lst xs)))) = some (.lst xs) := rfl
@[simp] theorem ownO_dic {ks : List Key} {xs : List D} : ownO "dict" (some (some (.own (.dic ks xs)))) = some (.dic ks xs) := rfl
def kMO2 (g : MO → List D → Option (MO × D)) (o : MO) (Q : QM) (ds : List D) (M : Store) : Prop := PV (g o ds) M Q
@[simp] theorem kMO2_app {g : MO → List D → Option (MO × D)} {o : MO} {Q : QM} {ds : List D} : kMO2 g o Q ds M = PV (g o ds) M Q := rfl
def kMO (g : MO → List D → Option (MO × D)) (args : CA) (en : En) (Q : QM) (E : EX) (o : MO) (M : Store) : Prop := Post (args en M) (kMO2 g o Q) E
@[simp] theorem kMO_app {g : MO → List D → Option (MO × D)} {args : CA} {o : MO} {Q : QM} : kMO g args en Q E o M = Post (args en M) (kMO2 g o Q) E := rfl
@[simp] theorem m_mutO {T : String} {g : MO → List D → Option (MO × D)} {i : Nat} {args : CA} {Q : QM} : Post (mutO T g i args en M) Q E = PV (ownO T (gt en i)) M (kMO g args en Q E) := by
  unfold mutO
  rw [← gt_eq]
  cases en[i]? with
  | none => rfl
  | some s =>
    cases s with
    | none => rfl
    | some s =>
      cases s with
      | val d => rfl
      | own o =>
        unfold ownO
        simp only
        split
        · rename_i h
          simp only [Post_bind_eq, Post_ofO, PV_some]
          rfl
        · rfl
def kMutS (i : Nat) (en : En) (Q : QF) (p : MO × D) (M : Store) : Prop := Q (.next (en.set i (some (.own p.1)))) M
@[simp] theorem kMutS_app {i : Nat} {Q : QF} {o : MO} {d : D} : kMutS i en Q (o, d) M = Q (.next (en.set i (some (.own o)))) M := rfl
@[simp] theorem m_mutS {i : Nat} {f : En → Store → Out (MO × D)} {Q : QF} : Post (mutS i f en M) Q E = Post (f en M) (kMutS i en Q) (kEx en Q) := by simp only [mutS, Post_thenM]; rfl
def kMutA (j i : Nat) (en : En) (Q : QF) (p : MO × D) (M : Store) : Prop := Q (.next ((en.set i (some (.own p.1))).set j (some (.val p.2)))) M
@[simp] theorem kMutA_app {j i : Nat} {Q : QF} {o : MO} {d : D} : kMutA j i en Q (o, d) M = Q (.next ((en.set i (some (.own o))).set j (some (.val d)))) M := rfl
@[simp] theorem m_mutA {j i : Nat} {f : En → Store → Out (MO × D)} {Q : QF} : Post (mutA j i f en M) Q E = Post (f en M) (kMutA j i en Q) (kEx en Q) := by simp only [mutA, Post_thenM]; rfl
def getT (T : String) : Option MO → Option MO
  | some o => if tyM T o = true then some o else none
  | none => none
@[simp] theorem getT_lst {xs : List D} : getT "list" (some (.lst xs)) = some (.lst xs) := rfl
@[simp] theorem getT_dic {ks : List Key} {xs : List D} : getT "dict" (some (.dic ks xs)) = some (.dic ks xs) := rfl
def mutR (g : MO → List D → Option (MO × D)) : Option MO → List D → Option (MO × D)
  | some o, ds => g o ds
  | none, _ => none
@[simp] theorem mutR_some {g : MO → List D → Option (MO × D)} {o : MO} {ds : List D} : mutR g (some o) ds = g o ds := rfl
def kEM3 (n : Nat) (Q : D → Store → Prop) (p : MO × D) (M : Store) : Prop := Q p.2 (M.set n p.1)
@[simp] theorem kEM3_app {n : Nat} {Q : D → Store → Prop} {o : MO} {d : D} : kEM3 n Q (o, d) M = Q d (M.set n o) := rfl
def kEM2 (g : MO → List D → Option (MO × D)) (n : Nat) (Q : D → Store → Prop) (ds : List D) (M : Store) : Prop := PV (mutR g (gt M n) ds) M (kEM3 n Q)
@[simp] theorem kEM2_app {g : MO → List D → Option (MO × D)} {n : Nat} {Q : D → Store → Prop} {ds : List D} : kEM2 g n Q ds M = PV (mutR g (gt M n) ds) M (kEM3 n Q) := rfl
def kEM1 (g : MO → List D → Option (MO × D)) (n : Nat) (args : CA) (en : En) (Q : D → Store → Prop) (E : EX) (o : MO) (M : Store) : Prop := Post (args en M) (kEM2 g n Q) E
@[simp] theorem kEM1_app {g : MO → List D → Option (MO × D)} {n : Nat} {args : CA} {Q : D → Store → Prop} {o : MO} : kEM1 g n args en Q E o M = Post (args en M) (kEM2 g n Q) E := rfl
def kEM (T : String) (g : MO → List D → Option (MO × D)) (args : CA) (en : En) (Q : D → Store → Prop) (E : EX) (d : D) (M : Store) : Prop := match d with | .ref n => PV (getT T (gt M n)) M (kEM1 g n args en Q E) | _ => False
@[simp] theorem kEM_app {T : String} {g : MO → List D → Option (MO × D)} {args : CA} {Q : D → Store → Prop} {n : Nat} : kEM T g args en Q E (.ref n) M = PV (getT T (gt M n)) M (kEM1 g n args en Q E) := rfl
@[simp] theorem m_eMut {T : String} {g : MO → List D → Option (MO × D)} {f : CE} {args : CA} {Q : D → Store → Prop} : Post (eMut T g f args en M) Q E = Post (f en M) (kEM T g args en Q E) E := by
  simp only [eMut, Post_bind_eq]
  congr 1
  funext d M1
  cases d <;> try rfl
  rename_i n
  rw [kEM_app, ← gt_eq]
  show Post (match M1[n]? with | some o => _ | none => _) Q E = _
  cases M1[n]? with
  | none => rfl
  | some o =>
    unfold getT
    simp only
    split
    · rw [PV_some, kEM1_app, Post_bind_eq]
      congr 1
      funext ds M2
      rw [kEM2_app, ← gt_eq]
      show Post (match M2[n]? with | some o => _ | none => _) Q E = _
      cases M2[n]? with
      | none => rfl
      | some o2 =>
        rw [mutR_some]
        show Post (match g o2 ds with | some (o', r) => _ | none => _) Q E = _
        cases g o2 ds with
        | none => rfl
        | some p => cases p; rfl
    · rfl
/-! ### loops -/
def kLoop (t : Tg) (g : List (D × D)) (body : CS) (xs : List D) (Q : QF) (E : EX) (r : Fl) (M : Store) : Prop := match r with
  | .next en => Post (loopF t g body xs en M) Q E
  | .cont en => Post (loopF t g body xs en M) Q E
  | .brk en => Q (.next en) M
  | r => Q r M
@[simp] theorem kLoop_next {t : Tg} {g : List (D × D)} {body : CS} {xs : List D} {Q : QF} : kLoop t g body xs Q E (.next en) M = Post (loopF t g body xs en M) Q E := rfl
@[simp] theorem kLoop_cont {t : Tg} {g : List (D × D)} {body : CS} {xs : List D} {Q : QF} : kLoop t g body xs Q E (.cont en) M = Post (loopF t g body xs en M) Q E := rfl
@[simp] theorem kLoop_brk {t : Tg} {g : List (D × D)} {body : CS} {xs : List D} {Q : QF} : kLoop t g body xs Q E (.brk en) M = Q (.next en) M := rfl
@[simp] theorem kLoop_ret {t : Tg} {g : List (D × D)} {body : CS} {xs : List D} {Q : QF} {d : D} : kLoop t g body xs Q E (.ret d) M = Q (.ret d) M := rfl
@[simp] theorem kLoop_exc {t : Tg} {g : List (D × D)} {body : CS} {xs : List D} {Q : QF} {c : Str} {fs : List (Str × D)} : kLoop t g body xs Q E (.exc c fs en) M = Q (.exc c fs en) M := rfl
def kBody (t : Tg) (g : List (D × D)) (body : CS) (xs : List D) (Q : QF) (E : EX) (en : En) (M : Store) : Prop := Post (body en M) (kLoop t g body xs Q E) E
@[simp] theorem kBody_app {t : Tg} {g : List (D × D)} {body : CS} {xs : List D} {Q : QF} : kBody t g body xs Q E en M = Post (body en M) (kLoop t g body xs Q E) E := rfl
@[simp] theorem m_loopF_nil {t : Tg} {body : CS} {Q : QF} : Post (loopF t [] body [] en M) Q E = Q (.next en) M := by
  unfold loopF
  simp
theorem m_loopF_consG {t : Tg} {g : List (D × D)} {body : CS} {x : D} {xs : List D} {Q : QF} (hg : gOk g M = true) : Post (loopF t g body (x :: xs) en M) Q E = PV (t.put x en) M (kBody t g body xs Q E) := by
  rw [loopF]
  simp only [hg, if_true]
  cases t.put x en with
  | none => rfl
  | some en1 =>
    rw [PV_some, kBody_app]
    show Post (goOn _ _) _ _ = _
    cases body en1 M with
    | ok r M1 => cases r <;> rfl
    | exc c fs M1 => rfl
    | err => rfl
theorem m_loopF_cons {t : Tg} {body : CS} {x : D} {xs : List D} {Q : QF} : Post (loopF t [] body (x :: xs) en M) Q E = PV (t.put x en) M (kBody t [] body xs Q E) := m_loopF_consG (gOk_nil _)
def kFor (t : Tg) (body : CS) (en : En) (Q : QF) (E : EX) (p : IT) (M : Store) : Prop := Post (loopF t p.2 body p.1 en M) Q E
@[simp] theorem kFor_app {t : Tg} {body : CS} {xs : List D} {g : List (D × D)} {Q : QF} : kFor t body en Q E (xs, g) M = Post (loopF t g body xs en M) Q E := rfl
@[simp] theorem m_forS {ci : CI} {t : Tg} {body : CS} {Q : QF} : Post (forS ci t body en M) Q E = Post (ci en M) (kFor t body en Q E) (kEx en Q) := by simp only [forS, Post_thenI]; rfl
/-- the end of a turn -/
def kInv (I : En → Store → Prop) (Q : QF) (r : Fl) (M : Store) : Prop := match r with | .next en => I en M | .cont en => I en M | .brk en => Q (.next en) M | r => Q r M
@[simp] theorem kInv_next {I : En → Store → Prop} {Q : QF} : kInv I Q (.next en) M = I en M := rfl
@[simp] theorem kInv_cont {I : En → Store → Prop} {Q : QF} : kInv I Q (.cont en) M = I en M := rfl
@[simp] theorem kInv_brk {I : En → Store → Prop} {Q : QF} : kInv I Q (.brk en) M = Q (.next en) M := rfl
@[simp] theorem kInv_ret {I : En → Store → Prop} {Q : QF} {d : D} : kInv I Q (.ret d) M = Q (.ret d) M := rfl
@[simp] theorem kInv_exc {I : En → Store → Prop} {Q : QF} {c : Str} {fs : List (Str × D)} : kInv I Q (.exc c fs en) M = Q (.exc c fs en) M := rfl
def kWh (body : CS) (I : En → Store → Prop) (Q : QF) (en : En) (k : Bool) (M : Store) : Prop := match k with | true => Post (body en M) (kInv I Q) kNo | false => Q (.next en) M
@[simp] theorem kWh_t {body : CS} {I : En → Store → Prop} {Q : QF} : kWh body I Q en true M = Post (body en M) (kInv I Q) kNo := rfl
@[simp] theorem kWh_f {body : CS} {I : En → Store → Prop} {Q : QF} : kWh body I Q en false M = Q (.next en) M := rfl
def kPutB (body : CS) (Q : QF) (E : EX) (en : En) (M : Store) : Prop := Post (body en M) Q E
@[simp] theorem kPutB_app {body : CS} {Q : QF} : kPutB body Q E en M = Post (body en M) Q E := rfl
/-- a for by an invariant -/
theorem for_inv {t : Tg} {body : CS} {xs : List D} {Q : QF} (I : Nat → En → Store → Prop) (h0 : I 0 en M) (hend : ∀ en M, I xs.length en M → Q (.next en) M)
    (h : ∀ i x en M, xs[i]? = some x → I i en M → PV (t.put x en) M (kPutB body (kInv (I (i + 1)) Q) E)) : Post (loopF t [] body xs en M) Q E := by
  have go : ∀ (n i : Nat) (en : En) (M : Store), xs.length = i + n → I i en M → Post (loopF t [] body (xs.drop i) en M) Q E := fun n => by
    induction n with
    | zero =>
      intro i en M hn p
      rw [List.drop_eq_nil_of_le (by omega), m_loopF_nil]
      exact hend _ _ (by rw [hn]; exact p)
    | succ n ih =>
      intro i en M hn p
      have hi : i < xs.length := by omega
      rw [List.drop_eq_getElem_cons hi, m_loopF_cons]
      have := h i xs[i] en M (List.getElem?_eq_getElem hi) p
      cases q : t.put xs[i] en with
      | none => rw [q] at this; exact this.elim
      | some en1 =>
        rw [q] at this
        rw [PV_some, kBody_app]
        refine Post.imp this (fun r M1 z => ?_) (fun c fs M1 z => z)
        cases r with
        | next en2 => exact ih (i + 1) en2 M1 (by omega) z
        | cont en2 => exact ih (i + 1) en2 M1 (by omega) z
        | brk en2 => exact z
        | ret d => exact z
        | exc c fs en2 => exact z
  exact go xs.length 0 en M (by omega) h0
/-- a comprehension whose parts change nothing -/
theorem comp_map {t : Tg} {tt : CB} {te : CE} {xs : List D} {Q : List D → Store → Prop} (g : D → Bool) (f : D → D)
    (h : ∀ x ∈ xs, ∃ en1, t.put x en = some en1 ∧ tt en1 M = .ok (g x) M ∧ (g x = true → te en1 M = .ok (f x) M)) (q : Q ((xs.filter g).map f) M) : Post (compL t [] tt te en xs M) Q E := by
  rw [compL_map h]
  exact q
theorem comp_all {t : Tg} {te : CE} {xs : List D} {Q : List D → Store → Prop} (f : D → D)
    (h : ∀ x ∈ xs, ∃ en1, t.put x en = some en1 ∧ te en1 M = .ok (f x) M) (q : Q (xs.map f) M) : Post (compL t [] tYesD te en xs M) Q E := by
  refine comp_map (fun _ => true) f (fun x hx => let ⟨en1, a, b⟩ := h x hx; ⟨en1, a, rfl, fun _ => b⟩) ?_
  rwa [List.filter_eq_self.mpr fun _ _ => rfl]
@[simp] theorem m_tYes {Q : Bool → Store → Prop} : Post (tYesD en M) Q E = Q true M := rfl
theorem comp_inv {t : Tg} {te : CE} {xs : List D} {Q : List D → Store → Prop} (I : Nat → List D → Store → Prop) (h0 : I 0 [] M) (hend : ∀ acc M, I xs.length acc M → Q acc M)
    (h : ∀ i x acc M, xs[i]? = some x → I i acc M → PV (t.put x en) M fun en1 M => Post (te en1 M) (fun d M => I (i + 1) (acc ++ [d]) M) kNo) : Post (compL t [] tYesD te en xs M) Q E := by
  obtain ⟨r, M', e1, e2⟩ := compL_inv (t := t) (te := te) (en := en) (xs := xs) I xs.length 0 [] M (by omega) h0 fun i x acc M hx p => by
    have := h i x acc M hx p
    cases q : t.put x en with
    | none => rw [q] at this; exact this.elim
    | some en1 =>
      rw [q] at this
      obtain ⟨d, M', e1, e2⟩ := Post.ex this
      exact ⟨en1, d, M', rfl, e1, e2⟩
  rw [List.drop_zero] at e1
  rw [e1]
  exact hend _ _ e2
def optCons {α : Type} : Option α → List α → List α
  | some x, l => x :: l
  | none, l => l
@[simp] theorem optCons_some {α : Type} {x : α} {l : List α} : optCons (some x) l = x :: l := rfl
@[simp] theorem pick_nil {α : Type} {xs : List α} : pick [] xs = [] := rfl
@[simp] theorem pick_cons {α : Type} {i : Nat} {π : List Nat} {xs : List α} : pick (i :: π) xs = optCons (gt xs i) (pick π xs) := by
  rw [← gt_eq]
  unfold pick
  rw [List.filterMap_cons]
  cases xs[i]? <;> rfl
/-! ### defs -/
def kDef (Q : D → Store → Prop) (E : EX) (r : Fl) (M : Store) : Prop := match r with
  | .ret d => Q d M
  | .next _ => Q .non M
  | .exc c fs _ => E c fs M
  | _ => False
@[simp] theorem kDef_ret {Q : D → Store → Prop} {d : D} : kDef Q E (.ret d) M = Q d M := rfl
@[simp] theorem kDef_next {Q : D → Store → Prop} : kDef Q E (.next en) M = Q .non M := rfl
@[simp] theorem kDef_exc {Q : D → Store → Prop} {c : Str} {fs : List (Str × D)} : kDef Q E (.exc c fs en) M = E c fs M := rfl
def nones : Nat → En
  | 0 => []
  | n + 1 => none :: nones n
@[simp] theorem nones_0 : nones 0 = [] := rfl
@[simp] theorem nones_1 {n : Nat} : nones (n + 1) = none :: nones n := rfl
def vals : List D → En → En
  | [], r => r
  | d :: ds, r => some (.val d) :: vals ds r
@[simp] theorem vals_nil {r : En} : vals [] r = r := rfl
@[simp] theorem vals_cons {d : D} {ds : List D} {r : En} : vals (d :: ds) r = some (.val d) :: vals ds r := rfl
theorem nones_eq : ∀ n : Nat, nones n = List.replicate n none
  | 0 => rfl
  | n + 1 => by rw [nones_1, nones_eq n, List.replicate_succ]
theorem vals_eq : ∀ (ds : List D) (r : En), vals ds r = ds.map (fun d => some (.val d)) ++ r
  | [], r => rfl
  | d :: ds, r => by simp [vals_eq ds r]
@[simp] theorem m_mkF {n N : Nat} {body : CS} {ds : List D} {Q : D → Store → Prop} : Post (mkF n N body ds M) Q E = (ds.length = n ∧ Post (body (vals ds (nones (N - n))) M) (kDef Q E) kNo) := by
  unfold mkF
  rw [vals_eq, nones_eq, ← Post_ite]
  by_cases h : ds.length = n
  · simp only [if_pos h]
    cases body _ M with
    | ok r M1 => cases r <;> rfl
    | exc c fs M1 => rfl
    | err => rfl
  · simp only [if_neg h, Post_err]
end
end DL

/-! DLW: the machine: the operations, one rewriting rule a case; bounds so that omega can show them. -/
namespace DL
open PySem PySem.Spec PyProof.Rows L2
section
variable {i j : Int} {x y : Str} {xs ys : List D} {d : D}
theorem szl : sizeLine = 16777216 := by decide
@[simp] theorem gAdd_int : gAdd (.int i) (.int j) = some (.int (i + j)) := rfl
@[simp] theorem gSub_int : gSub (.int i) (.int j) = some (.int (i - j)) := rfl
@[simp] theorem gNeg_int : gNeg (.int i) = some (.int (-i)) := rfl
@[simp] theorem gAdd_str (h : x.length + y.length ≤ 16777216) : gAdd (.str x) (.str y) = some (.str (x ++ y)) := by
  rw [← szl] at h
  simp [gAdd, h]
@[simp] theorem gAdd_lst' (h : xs.length + ys.length ≤ 16777216) : gAdd (.lst xs) (.lst ys) = some (.lst (xs ++ ys)) := by
  rw [← szl] at h
  simp [gAdd, h]
@[simp] theorem gAdd_tup' (h : xs.length + ys.length ≤ 16777216) : gAdd (.tup xs) (.tup ys) = some (.tup (xs ++ ys)) := by
  rw [← szl] at h
  simp [gAdd, h]
/-- a bound that omega can show -/
def lim : Int := 1000000000000000000000000000000000000000000000000000000000000000000000000000000000000000000000000000000000000000000000000000000
theorem log_lt {n k : Nat} (h : n < 2 ^ k) (hk : 0 < k) : n.log2 < k := by
  by_cases h0 : n = 0
  · subst h0; simpa using hk
  · exact (Nat.log2_lt h0).mpr h
theorem lim_log (h : -1000000000000000000000000000000000000000000000000000000000000000000000000000000000000000000000000000000000000000000000000000000 ≤ i) (h2 : i ≤ 1000000000000000000000000000000000000000000000000000000000000000000000000000000000000000000000000000000000000000000000000000000) : i.natAbs.log2 < 500 := by
  refine log_lt ?_ (by decide)
  have : (1000000000000000000000000000000000000000000000000000000000000000000000000000000000000000000000000000000000000000000000000000000 : Nat) < 2 ^ 500 := by decide +kernel
  generalize 2 ^ 500 = z at *
  omega
/-- lim of both factors -/
theorem gMul_int (h : -1000000000000000000000000000000000000000000000000000000000000000000000000000000000000000000000000000000000000000000000000000000 ≤ i) (h2 : i ≤ 1000000000000000000000000000000000000000000000000000000000000000000000000000000000000000000000000000000000000000000000000000000)
    (h3 : -1000000000000000000000000000000000000000000000000000000000000000000000000000000000000000000000000000000000000000000000000000000 ≤ j) (h4 : j ≤ 1000000000000000000000000000000000000000000000000000000000000000000000000000000000000000000000000000000000000000000000000000000) : gMul (.int i) (.int j) = some (.int (i * j)) := by
  have h1 := lim_log h h2
  have h5 := lim_log h3 h4
  have : mulOk i j := .inr (.inr (by omega))
  simp [gMul, this]
theorem gDiv_int (h : 0 < j) (h4 : j ≤ 1000000000000000000000000000000000000000000000000000000000000000000000000000000000000000000000000000000000000000000000000000000) : gDiv (.int i) (.int j) = some (.int (i / j)) := by
  have h5 := lim_log (i := j) (by omega) h4
  have : j.natAbs.log2 < 9000 := by omega
  simp [gDiv, h, this]
@[simp] theorem gMod_int (h : 0 < j) : gMod (.int i) (.int j) = some (.int (i % j)) := by simp [gMod, h]
/-- powers of ten, squares, cubes -/
theorem gPow_nat {n : Nat} (h : -1000000000000000000 ≤ i) (h2 : i ≤ 1000000000000000000) (hn : n ≤ 1000000) : gPow (.int i) (.int n) = some (.int (i ^ n)) := by
  have h1 : i.natAbs < 2 ^ 64 := by omega
  have : (0 : Int) ≤ n := by omega
  have h2 : (n : Int) ≤ 1000000 := by omega
  simp [gPow, h1, h2]
@[simp] theorem gPow_2 (h : -1000000000000000000 ≤ i) (h2 : i ≤ 1000000000000000000) : gPow (.int i) (.int 2) = some (.int (i ^ 2)) := gPow_nat (n := 2) h h2 (by decide)
@[simp] theorem gPow_3 (h : -1000000000000000000 ≤ i) (h2 : i ≤ 1000000000000000000) : gPow (.int i) (.int 3) = some (.int (i ^ 3)) := gPow_nat (n := 3) h h2 (by decide)
@[simp] theorem gPow_10_5 : gPow (.int 10) (.int 5) = some (.int 100000) := by have := gPow_nat (i := 10) (n := 5) (by decide) (by decide) (by decide); simpa using this
@[simp] theorem gPow_10_6 : gPow (.int 10) (.int 6) = some (.int 1000000) := by have := gPow_nat (i := 10) (n := 6) (by decide) (by decide) (by decide); simpa using this
@[simp] theorem gPow_10_10 : gPow (.int 10) (.int 10) = some (.int 10000000000) := by have := gPow_nat (i := 10) (n := 10) (by decide) (by decide) (by decide); simpa using this
@[simp] theorem gPow_10_18 : gPow (.int 10) (.int 18) = some (.int 1000000000000000000) := by have := gPow_nat (i := 10) (n := 18) (by decide) (by decide) (by decide); simpa using this
@[simp] theorem gPow_10_20 : gPow (.int 10) (.int 20) = some (.int 100000000000000000000) := by have := gPow_nat (i := 10) (n := 20) (by decide) (by decide) (by decide); simpa using this
@[simp] theorem gPow_10_30 : gPow (.int 10) (.int 30) = some (.int 1000000000000000000000000000000) := by have := gPow_nat (i := 10) (n := 30) (by decide) (by decide) (by decide); simpa using this
@[simp] theorem gPow_10_33 : gPow (.int 10) (.int 33) = some (.int 1000000000000000000000000000000000) := by have := gPow_nat (i := 10) (n := 33) (by decide) (by decide) (by decide); simpa using this
@[simp] theorem gPow_10_38 : gPow (.int 10) (.int 38) = some (.int 100000000000000000000000000000000000000) := by have := gPow_nat (i := 10) (n := 38) (by decide) (by decide) (by decide); simpa using this
@[simp] theorem gPow_10_39 : gPow (.int 10) (.int 39) = some (.int 1000000000000000000000000000000000000000) := by have := gPow_nat (i := 10) (n := 39) (by decide) (by decide) (by decide); simpa using this
@[simp] theorem gPow_10_40 : gPow (.int 10) (.int 40) = some (.int 10000000000000000000000000000000000000000) := by have := gPow_nat (i := 10) (n := 40) (by decide) (by decide) (by decide); simpa using this
@[simp] theorem gLt_int : gLt (.int i) (.int j) = some (.bl (decide (i < j))) := rfl
@[simp] theorem gLe_int : gLe (.int i) (.int j) = some (.bl (decide (i ≤ j))) := rfl
@[simp] theorem gGt_int : gGt (.int i) (.int j) = some (.bl (decide (j < i))) := rfl
@[simp] theorem gGe_int : gGe (.int i) (.int j) = some (.bl (decide (j ≤ i))) := rfl
@[simp] theorem gEq_int : gEq (.int i) (.int j) = some (.bl (decide (i = j))) := rfl
@[simp] theorem gNe_int : gNe (.int i) (.int j) = some (.bl (!decide (i = j))) := rfl
@[simp] theorem gEq_str : gEq (.str x) (.str y) = some (.bl (decide (x = y))) := rfl
@[simp] theorem gNe_str : gNe (.str x) (.str y) = some (.bl (!decide (x = y))) := rfl
@[simp] theorem gEq_bl {a b : Bool} : gEq (.bl a) (.bl b) = some (.bl (a == b)) := rfl
@[simp] theorem gNe_bl {a b : Bool} : gNe (.bl a) (.bl b) = some (.bl (!(a == b))) := rfl
@[simp] theorem TruD_bl {k : Bool} : TruD (.bl k) = some k := rfl
@[simp] theorem TruD_non : TruD .non = some false := rfl
@[simp] theorem gInt_bl {k : Bool} : gInt [.bl k] = some (.int (if k then 1 else 0)) := rfl
@[simp] theorem gInt_int : gInt [.int i] = some (.int i) := rfl
@[simp] theorem gLen_lst : gLen [.lst xs] = some (.int xs.length) := rfl
@[simp] theorem gLen_tup : gLen [.tup xs] = some (.int xs.length) := rfl
@[simp] theorem gLen_dic {ks : List Key} : gLen [.dic ks xs] = some (.int ks.length) := rfl
@[simp] theorem gLen_scr {ns : List Int} : gLen [.scr ns] = some (.int ns.length) := rfl
@[simp] theorem gLen_str (h : x.length ≤ 16777216) : gLen [.str x] = some (.int x.length) := by
  rw [← szl] at h
  simp [gLen, h]
@[simp] theorem gMax2_int : gMax2 [.int i, .int j] = some (.int (if j > i then j else i)) := rfl
@[simp] theorem gMinT_int : gMinT [.int i, .int j] = some (.int (if j < i then j else i)) := rfl
@[simp] theorem gTuple_lst : gTuple [.lst xs] = some (.tup xs) := rfl
@[simp] theorem gTuple_tup : gTuple [.tup xs] = some (.tup xs) := rfl
@[simp] theorem gIx_lst : gIx (.lst xs) (.int i) = atI xs i := rfl
@[simp] theorem gIx_tup : gIx (.tup xs) (.int i) = atI xs i := rfl
def ixKey (ks : List Key) (xs : List D) : Option Key → Option D
  | some k => dget ks xs k
  | none => none
@[simp] theorem ixKey_some {ks : List Key} {k : Key} : ixKey ks xs (some k) = dget ks xs k := rfl
@[simp] theorem gIx_dic_str {ks : List Key} : gIx (.dic ks xs) (.str x) = dget ks xs (.inr x) := rfl
@[simp] theorem gIx_dic_int {ks : List Key} : gIx (.dic ks xs) (.int i) = dget ks xs (.inl i) := rfl
theorem atI_n {α : Type} {l : List α} {n : Nat} : atI l (n : Int) = l[n]? := by
  unfold atI ixN
  simp only [Int.natCast_nonneg, if_true, Int.toNat_natCast]
  by_cases h : (n : Int) < (l.length : Int)
  · simp [h]
  · simp only [if_neg h, Option.bind_none]
    exact (List.getElem?_eq_none (by omega)).symm
@[simp] theorem atI_0 {α : Type} {l : List α} : atI l 0 = l[0]? := atI_n (n := 0)
@[simp] theorem atI_1 {α : Type} {l : List α} : atI l 1 = l[1]? := atI_n (n := 1)
@[simp] theorem atI_2 {α : Type} {l : List α} : atI l 2 = l[2]? := atI_n (n := 2)
@[simp] theorem atI_3 {α : Type} {l : List α} : atI l 3 = l[3]? := atI_n (n := 3)
theorem gIx_str (h : x.length ≤ 16777216) {n : Nat} {c : Nat} (e : x.cps.toList[n]? = some c) : gIx (.str x) (.int n) = some (.str ⟨#[c]⟩) := by
  rw [← szl] at h
  show strAt x n = _
  unfold strAt
  rw [if_pos h, atI_n, e]
  rfl
@[simp] theorem putM_dic {ks : List Key} (h : ks.length < 16777216) : putM (.dic ks xs) (.str x) d = some (.dic (dput ks xs (.inr x) d).1 (dput ks xs (.inr x) d).2) := by
  rw [← szl] at h
  simp [putM, h]
@[simp] theorem mPopAt_0 {x : D} : mPopAt (.lst (x :: xs)) [.int 0] = some (.lst xs, x) := by
  simp [mPopAt, seqIndex?]
@[simp] theorem mAppend_lst (h : xs.length < 16777216) : mAppend (.lst xs) [d] = some (.lst (xs ++ [d]), .non) := by
  rw [← szl] at h
  simp [mAppend, h]
@[simp] theorem isi1_int : isi1 .int (.int i) = some (.bl true) := rfl
@[simp] theorem isi1_bool_int : isi1 .bool (.int i) = some (.bl false) := rfl
@[simp] theorem isi1_str_int : isi1 .str (.int i) = some (.bl false) := rfl
@[simp] theorem isi1_tuple_int : isi1 .tuple (.int i) = some (.bl false) := rfl
@[simp] theorem isi1_tuple : isi1 .tuple (.tup xs) = some (.bl true) := rfl
@[simp] theorem isi1_str : isi1 .str (.str x) = some (.bl true) := rfl
@[simp] theorem isi1_list : isi1 .list (.lst xs) = some (.bl true) := rfl
def kEnum (M : Store) (d : D) : Option D → Option IT
  | some (.lst xs) => some (enumD 0 xs, gdD d (.lst xs))
  | some (.tup xs) => some (enumD 0 xs, gdD d (.tup xs))
  | some (.str z) => some (enumD 0 (signsD z), gdD d (.str z))
  | _ => none
@[simp] theorem kEnum_lst {M : Store} : kEnum M d (some (.lst xs)) = some (enumD 0 xs, gdD d (.lst xs)) := rfl
@[simp] theorem kEnum_tup {M : Store} : kEnum M d (some (.tup xs)) = some (enumD 0 xs, gdD d (.tup xs)) := rfl
@[simp] theorem kEnum_str {M : Store} : kEnum M d (some (.str x)) = some (enumD 0 (signsD x), gdD d (.str x)) := rfl
def kEnumI (Q : IT → Store → Prop) (ds : List D) (M : Store) : Prop := match ds with | [d] => PV (kEnum M d (vwD M d)) M Q | _ => False
@[simp] theorem kEnumI_app {M : Store} {Q : IT → Store → Prop} : kEnumI Q [d] M = PV (kEnum M d (vwD M d)) M Q := rfl
@[simp] theorem m_iEnumD {M : Store} {en : En} {E : EX} {f : CA} {Q : IT → Store → Prop} : Post (iEnumD f en M) Q E = Post (f en M) (kEnumI Q) E := by
  simp only [iEnumD, Post_bind_eq]
  congr 1
  funext ds M1
  rcases ds with _ | ⟨a, _ | ⟨b, r⟩⟩
  · rfl
  · rw [kEnumI_app]
    show Post (ofO _ _) _ _ = _
    rw [Post_ofO]
    cases vwD M1 a with
    | none => rfl
    | some v => cases v <;> rfl
  · rfl
/-! ### equality of data, kind by kind -/
def andO : Option Bool → Option Bool → Option Bool
  | some a, some b => some (a && b)
  | _, _ => none
def orO : Option Bool → Option Bool → Option Bool
  | some a, some b => some (a || b)
  | _, _ => none
@[simp] theorem andO_some {a b : Bool} : andO (some a) (some b) = some (a && b) := rfl
@[simp] theorem orO_some {a b : Bool} : orO (some a) (some b) = some (a || b) := rfl
@[simp] theorem eqL_nn {f : D → D → Option Bool} : eqL f [] [] = some true := rfl
@[simp] theorem eqL_nc {f : D → D → Option Bool} : eqL f [] (d :: ys) = some false := rfl
@[simp] theorem eqL_cn {f : D → D → Option Bool} : eqL f (d :: xs) [] = some false := rfl
@[simp] theorem eqL_cc {f : D → D → Option Bool} {d' : D} : eqL f (d :: xs) (d' :: ys) = andO (f d d') (eqL f xs ys) := by
  rw [eqL]
  cases f d d' <;> cases eqL f xs ys <;> rfl
@[simp] theorem anyE_nil : anyE d [] = some false := rfl
@[simp] theorem anyE_cons {d' : D} : anyE d (d' :: xs) = orO (eqD 60 d' d) (anyE d xs) := by
  rw [anyE]
  cases eqD 60 d' d <;> cases anyE d xs <;> rfl
@[simp] theorem gIn_tup : gIn d (.tup xs) = (anyE d xs).map D.bl := by cases d <;> rfl
@[simp] theorem gIn_lst : gIn d (.lst xs) = (anyE d xs).map D.bl := by cases d <;> rfl
@[simp] theorem gNotIn_tup : gNotIn d (.tup xs) = (anyE d xs).map notD := by cases d <;> rfl
@[simp] theorem gNotIn_lst : gNotIn d (.lst xs) = (anyE d xs).map notD := by cases d <;> rfl
@[simp] theorem eqD_non_non {n : Nat} : eqD (n + 1) .non .non = some true := rfl
@[simp] theorem eqF_non_non {n : Nat} : eqF (n + 1) .non .non = some true := rfl
@[simp] theorem gEq_non_non : gEq .non .non = some (.bl true) := rfl
@[simp] theorem gNe_non_non : gNe .non .non = some (.bl false) := rfl
@[simp] theorem eqD_non_int {n : Nat} : eqD (n + 1) .non (.int j) = some false := rfl
@[simp] theorem eqF_non_int {n : Nat} : eqF (n + 1) .non (.int j) = some false := rfl
@[simp] theorem gEq_non_int : gEq .non (.int j) = some (.bl false) := rfl
@[simp] theorem gNe_non_int : gNe .non (.int j) = some (.bl true) := rfl
@[simp] theorem eqD_non_str {n : Nat} : eqD (n + 1) .non (.str y) = some false := rfl
@[simp] theorem eqF_non_str {n : Nat} : eqF (n + 1) .non (.str y) = some false := rfl
@[simp] theorem gEq_non_str : gEq .non (.str y) = some (.bl false) := rfl
@[simp] theorem gNe_non_str : gNe .non (.str y) = some (.bl true) := rfl
@[simp] theorem eqD_non_tup {n : Nat} : eqD (n + 1) .non (.tup ys) = some false := rfl
@[simp] theorem eqF_non_tup {n : Nat} : eqF (n + 1) .non (.tup ys) = some false := rfl
@[simp] theorem gEq_non_tup : gEq .non (.tup ys) = some (.bl false) := rfl
@[simp] theorem gNe_non_tup : gNe .non (.tup ys) = some (.bl true) := rfl
@[simp] theorem eqD_non_lst {n : Nat} : eqD (n + 1) .non (.lst ys) = some false := rfl
@[simp] theorem eqF_non_lst {n : Nat} : eqF (n + 1) .non (.lst ys) = some false := rfl
@[simp] theorem gEq_non_lst : gEq .non (.lst ys) = some (.bl false) := rfl
@[simp] theorem gNe_non_lst : gNe .non (.lst ys) = some (.bl true) := rfl
@[simp] theorem eqD_non_bl {b : Bool} {n : Nat} : eqD (n + 1) .non (.bl b) = some false := rfl
@[simp] theorem eqF_non_bl {b : Bool} {n : Nat} : eqF (n + 1) .non (.bl b) = some false := rfl
@[simp] theorem gEq_non_bl {b : Bool} : gEq .non (.bl b) = some (.bl false) := rfl
@[simp] theorem gNe_non_bl {b : Bool} : gNe .non (.bl b) = some (.bl true) := rfl
@[simp] theorem eqD_int_non {n : Nat} : eqD (n + 1) (.int i) .non = some false := rfl
@[simp] theorem eqF_int_non {n : Nat} : eqF (n + 1) (.int i) .non = some false := rfl
@[simp] theorem gEq_int_non : gEq (.int i) .non = some (.bl false) := rfl
@[simp] theorem gNe_int_non : gNe (.int i) .non = some (.bl true) := rfl
@[simp] theorem eqD_int_int {n : Nat} : eqD (n + 1) (.int i) (.int j) = some (decide (i = j)) := rfl
@[simp] theorem eqF_int_int {n : Nat} : eqF (n + 1) (.int i) (.int j) = some (decide (i = j)) := rfl
@[simp] theorem eqD_int_str {n : Nat} : eqD (n + 1) (.int i) (.str y) = some false := rfl
@[simp] theorem eqF_int_str {n : Nat} : eqF (n + 1) (.int i) (.str y) = some false := rfl
@[simp] theorem gEq_int_str : gEq (.int i) (.str y) = some (.bl false) := rfl
@[simp] theorem gNe_int_str : gNe (.int i) (.str y) = some (.bl true) := rfl
@[simp] theorem eqD_int_tup {n : Nat} : eqD (n + 1) (.int i) (.tup ys) = some false := rfl
@[simp] theorem eqF_int_tup {n : Nat} : eqF (n + 1) (.int i) (.tup ys) = some false := rfl
@[simp] theorem gEq_int_tup : gEq (.int i) (.tup ys) = some (.bl false) := rfl
@[simp] theorem gNe_int_tup : gNe (.int i) (.tup ys) = some (.bl true) := rfl
@[simp] theorem eqD_int_lst {n : Nat} : eqD (n + 1) (.int i) (.lst ys) = some false := rfl
@[simp] theorem eqF_int_lst {n : Nat} : eqF (n + 1) (.int i) (.lst ys) = some false := rfl
@[simp] theorem gEq_int_lst : gEq (.int i) (.lst ys) = some (.bl false) := rfl
@[simp] theorem gNe_int_lst : gNe (.int i) (.lst ys) = some (.bl true) := rfl
@[simp] theorem eqD_str_non {n : Nat} : eqD (n + 1) (.str x) .non = some false := rfl
@[simp] theorem eqF_str_non {n : Nat} : eqF (n + 1) (.str x) .non = some false := rfl
@[simp] theorem gEq_str_non : gEq (.str x) .non = some (.bl false) := rfl
@[simp] theorem gNe_str_non : gNe (.str x) .non = some (.bl true) := rfl
@[simp] theorem eqD_str_int {n : Nat} : eqD (n + 1) (.str x) (.int j) = some false := rfl
@[simp] theorem eqF_str_int {n : Nat} : eqF (n + 1) (.str x) (.int j) = some false := rfl
@[simp] theorem gEq_str_int : gEq (.str x) (.int j) = some (.bl false) := rfl
@[simp] theorem gNe_str_int : gNe (.str x) (.int j) = some (.bl true) := rfl
@[simp] theorem eqD_str_str {n : Nat} : eqD (n + 1) (.str x) (.str y) = some (decide (x = y)) := rfl
@[simp] theorem eqF_str_str {n : Nat} : eqF (n + 1) (.str x) (.str y) = some (decide (x = y)) := rfl
@[simp] theorem eqD_str_tup {n : Nat} : eqD (n + 1) (.str x) (.tup ys) = some false := rfl
@[simp] theorem eqF_str_tup {n : Nat} : eqF (n + 1) (.str x) (.tup ys) = some false := rfl
@[simp] theorem gEq_str_tup : gEq (.str x) (.tup ys) = some (.bl false) := rfl
@[simp] theorem gNe_str_tup : gNe (.str x) (.tup ys) = some (.bl true) := rfl
@[simp] theorem eqD_str_lst {n : Nat} : eqD (n + 1) (.str x) (.lst ys) = some false := rfl
@[simp] theorem eqF_str_lst {n : Nat} : eqF (n + 1) (.str x) (.lst ys) = some false := rfl
@[simp] theorem gEq_str_lst : gEq (.str x) (.lst ys) = some (.bl false) := rfl
@[simp] theorem gNe_str_lst : gNe (.str x) (.lst ys) = some (.bl true) := rfl
@[simp] theorem eqD_str_bl {b : Bool} {n : Nat} : eqD (n + 1) (.str x) (.bl b) = some false := rfl
@[simp] theorem eqF_str_bl {b : Bool} {n : Nat} : eqF (n + 1) (.str x) (.bl b) = some false := rfl
@[simp] theorem gEq_str_bl {b : Bool} : gEq (.str x) (.bl b) = some (.bl false) := rfl
@[simp] theorem gNe_str_bl {b : Bool} : gNe (.str x) (.bl b) = some (.bl true) := rfl
@[simp] theorem eqD_tup_non {n : Nat} : eqD (n + 1) (.tup xs) .non = some false := rfl
@[simp] theorem eqF_tup_non {n : Nat} : eqF (n + 1) (.tup xs) .non = some false := rfl
@[simp] theorem gEq_tup_non : gEq (.tup xs) .non = some (.bl false) := rfl
@[simp] theorem gNe_tup_non : gNe (.tup xs) .non = some (.bl true) := rfl
@[simp] theorem eqD_tup_int {n : Nat} : eqD (n + 1) (.tup xs) (.int j) = some false := rfl
@[simp] theorem eqF_tup_int {n : Nat} : eqF (n + 1) (.tup xs) (.int j) = some false := rfl
@[simp] theorem gEq_tup_int : gEq (.tup xs) (.int j) = some (.bl false) := rfl
@[simp] theorem gNe_tup_int : gNe (.tup xs) (.int j) = some (.bl true) := rfl
@[simp] theorem eqD_tup_str {n : Nat} : eqD (n + 1) (.tup xs) (.str y) = some false := rfl
@[simp] theorem eqF_tup_str {n : Nat} : eqF (n + 1) (.tup xs) (.str y) = some false := rfl
@[simp] theorem gEq_tup_str : gEq (.tup xs) (.str y) = some (.bl false) := rfl
@[simp] theorem gNe_tup_str : gNe (.tup xs) (.str y) = some (.bl true) := rfl
@[simp] theorem eqD_tup_tup {n : Nat} : eqD (n + 1) (.tup xs) (.tup ys) = eqL (eqD n) xs ys := rfl
@[simp] theorem eqF_tup_tup {n : Nat} : eqF (n + 1) (.tup xs) (.tup ys) = eqL (eqF n) xs ys := rfl
@[simp] theorem gEq_tup_tup : gEq (.tup xs) (.tup ys) = (eqL (eqF 59) xs ys).map D.bl := rfl
@[simp] theorem gNe_tup_tup : gNe (.tup xs) (.tup ys) = (eqL (eqF 59) xs ys).map notD := rfl
@[simp] theorem eqD_tup_lst {n : Nat} : eqD (n + 1) (.tup xs) (.lst ys) = some false := rfl
@[simp] theorem eqF_tup_lst {n : Nat} : eqF (n + 1) (.tup xs) (.lst ys) = some false := rfl
@[simp] theorem gEq_tup_lst : gEq (.tup xs) (.lst ys) = some (.bl false) := rfl
@[simp] theorem gNe_tup_lst : gNe (.tup xs) (.lst ys) = some (.bl true) := rfl
@[simp] theorem eqD_tup_bl {b : Bool} {n : Nat} : eqD (n + 1) (.tup xs) (.bl b) = some false := rfl
@[simp] theorem eqF_tup_bl {b : Bool} {n : Nat} : eqF (n + 1) (.tup xs) (.bl b) = some false := rfl
@[simp] theorem gEq_tup_bl {b : Bool} : gEq (.tup xs) (.bl b) = some (.bl false) := rfl
@[simp] theorem gNe_tup_bl {b : Bool} : gNe (.tup xs) (.bl b) = some (.bl true) := rfl
@[simp] theorem eqD_lst_non {n : Nat} : eqD (n + 1) (.lst xs) .non = some false := rfl
@[simp] theorem eqF_lst_non {n : Nat} : eqF (n + 1) (.lst xs) .non = some false := rfl
@[simp] theorem gEq_lst_non : gEq (.lst xs) .non = some (.bl false) := rfl
@[simp] theorem gNe_lst_non : gNe (.lst xs) .non = some (.bl true) := rfl
@[simp] theorem eqD_lst_int {n : Nat} : eqD (n + 1) (.lst xs) (.int j) = some false := rfl
@[simp] theorem eqF_lst_int {n : Nat} : eqF (n + 1) (.lst xs) (.int j) = some false := rfl
@[simp] theorem gEq_lst_int : gEq (.lst xs) (.int j) = some (.bl false) := rfl
@[simp] theorem gNe_lst_int : gNe (.lst xs) (.int j) = some (.bl true) := rfl
@[simp] theorem eqD_lst_str {n : Nat} : eqD (n + 1) (.lst xs) (.str y) = some false := rfl
@[simp] theorem eqF_lst_str {n : Nat} : eqF (n + 1) (.lst xs) (.str y) = some false := rfl
@[simp] theorem gEq_lst_str : gEq (.lst xs) (.str y) = some (.bl false) := rfl
@[simp] theorem gNe_lst_str : gNe (.lst xs) (.str y) = some (.bl true) := rfl
@[simp] theorem eqD_lst_tup {n : Nat} : eqD (n + 1) (.lst xs) (.tup ys) = some false := rfl
@[simp] theorem eqF_lst_tup {n : Nat} : eqF (n + 1) (.lst xs) (.tup ys) = some false := rfl
@[simp] theorem gEq_lst_tup : gEq (.lst xs) (.tup ys) = some (.bl false) := rfl
@[simp] theorem gNe_lst_tup : gNe (.lst xs) (.tup ys) = some (.bl true) := rfl
@[simp] theorem eqD_lst_lst {n : Nat} : eqD (n + 1) (.lst xs) (.lst ys) = eqL (eqD n) xs ys := rfl
@[simp] theorem eqF_lst_lst {n : Nat} : eqF (n + 1) (.lst xs) (.lst ys) = eqL (eqF n) xs ys := rfl
@[simp] theorem gEq_lst_lst : gEq (.lst xs) (.lst ys) = (eqL (eqF 59) xs ys).map D.bl := rfl
@[simp] theorem gNe_lst_lst : gNe (.lst xs) (.lst ys) = (eqL (eqF 59) xs ys).map notD := rfl
@[simp] theorem eqD_lst_bl {b : Bool} {n : Nat} : eqD (n + 1) (.lst xs) (.bl b) = some false := rfl
@[simp] theorem eqF_lst_bl {b : Bool} {n : Nat} : eqF (n + 1) (.lst xs) (.bl b) = some false := rfl
@[simp] theorem gEq_lst_bl {b : Bool} : gEq (.lst xs) (.bl b) = some (.bl false) := rfl
@[simp] theorem gNe_lst_bl {b : Bool} : gNe (.lst xs) (.bl b) = some (.bl true) := rfl
@[simp] theorem eqD_bl_non {a : Bool} {n : Nat} : eqD (n + 1) (.bl a) .non = some false := rfl
@[simp] theorem eqF_bl_non {a : Bool} {n : Nat} : eqF (n + 1) (.bl a) .non = some false := rfl
@[simp] theorem gEq_bl_non {a : Bool} : gEq (.bl a) .non = some (.bl false) := rfl
@[simp] theorem gNe_bl_non {a : Bool} : gNe (.bl a) .non = some (.bl true) := rfl
@[simp] theorem eqD_bl_str {a : Bool} {n : Nat} : eqD (n + 1) (.bl a) (.str y) = some false := rfl
@[simp] theorem eqF_bl_str {a : Bool} {n : Nat} : eqF (n + 1) (.bl a) (.str y) = some false := rfl
@[simp] theorem gEq_bl_str {a : Bool} : gEq (.bl a) (.str y) = some (.bl false) := rfl
@[simp] theorem gNe_bl_str {a : Bool} : gNe (.bl a) (.str y) = some (.bl true) := rfl
@[simp] theorem eqD_bl_tup {a : Bool} {n : Nat} : eqD (n + 1) (.bl a) (.tup ys) = some false := rfl
@[simp] theorem eqF_bl_tup {a : Bool} {n : Nat} : eqF (n + 1) (.bl a) (.tup ys) = some false := rfl
@[simp] theorem gEq_bl_tup {a : Bool} : gEq (.bl a) (.tup ys) = some (.bl false) := rfl
@[simp] theorem gNe_bl_tup {a : Bool} : gNe (.bl a) (.tup ys) = some (.bl true) := rfl
@[simp] theorem eqD_bl_lst {a : Bool} {n : Nat} : eqD (n + 1) (.bl a) (.lst ys) = some false := rfl
@[simp] theorem eqF_bl_lst {a : Bool} {n : Nat} : eqF (n + 1) (.bl a) (.lst ys) = some false := rfl
@[simp] theorem gEq_bl_lst {a : Bool} : gEq (.bl a) (.lst ys) = some (.bl false) := rfl
@[simp] theorem gNe_bl_lst {a : Bool} : gNe (.bl a) (.lst ys) = some (.bl true) := rfl
@[simp] theorem eqD_bl_bl {a b : Bool} {n : Nat} : eqD (n + 1) (.bl a) (.bl b) = some (a == b) := rfl
@[simp] theorem eqF_bl_bl {a b : Bool} {n : Nat} : eqF (n + 1) (.bl a) (.bl b) = some (a == b) := rfl
@[simp] theorem eqF_dic_dic {n : Nat} {ks ls : List Key} : eqF (n + 1) (.dic ks xs) (.dic ls ys) = if ks.length = ls.length then hitsD (eqF n) ls ys ks xs else some false := rfl
@[simp] theorem gEq_dic_dic {ks ls : List Key} : gEq (.dic ks xs) (.dic ls ys) = (if ks.length = ls.length then hitsD (eqF 59) ls ys ks xs else some false).map D.bl := rfl
@[simp] theorem gNe_dic_dic {ks ls : List Key} : gNe (.dic ks xs) (.dic ls ys) = (if ks.length = ls.length then hitsD (eqF 59) ls ys ks xs else some false).map notD := rfl
@[simp] theorem gIs_non : gIs .non .non = some (.bl true) := rfl
@[simp] theorem gIsNot_non : gIsNot .non .non = some (.bl false) := rfl
@[simp] theorem gIs_int : gIs (.int i) .non = some (.bl false) := rfl
@[simp] theorem gIsNot_int : gIsNot (.int i) .non = some (.bl true) := rfl
@[simp] theorem gIs_str : gIs (.str x) .non = some (.bl false) := rfl
@[simp] theorem gIsNot_str : gIsNot (.str x) .non = some (.bl true) := rfl
@[simp] theorem gIs_tup : gIs (.tup xs) .non = some (.bl false) := rfl
@[simp] theorem gIsNot_tup : gIsNot (.tup xs) .non = some (.bl true) := rfl
@[simp] theorem gIs_lst : gIs (.lst xs) .non = some (.bl false) := rfl
@[simp] theorem gIsNot_lst : gIsNot (.lst xs) .non = some (.bl true) := rfl
@[simp] theorem gIs_bl {a : Bool} : gIs (.bl a) .non = some (.bl false) := rfl
@[simp] theorem gIsNot_bl {a : Bool} : gIsNot (.bl a) .non = some (.bl true) := rfl
/-! ### texts by their signs -/
@[simp] theorem len_app : (x ++ y).length = x.length + y.length := Array.size_append
@[simp] theorem toList_app : (x ++ y).cps.toList = x.cps.toList ++ y.cps.toList := Array.toList_append
theorem len_toList : x.length = x.cps.toList.length := by rw [Array.length_toList]; rfl
theorem str_ext (h : x.cps.toList = y.cps.toList) : x = y := by
  cases x; cases y
  simp only [Str.mk.injEq]
  exact Array.toList_inj.mp h
def sg (c : Nat) : Str := ⟨#[c]⟩
def tx' (l : List Nat) : Str := ⟨l.toArray⟩
@[simp] theorem sg_list {c : Nat} : (sg c).cps.toList = [c] := rfl
@[simp] theorem tx_list {l : List Nat} : (tx' l).cps.toList = l := by simp [tx']
@[simp] theorem tx_len {l : List Nat} : (tx' l).length = l.length := by rw [len_toList, tx_list]
@[simp] theorem sg_len {c : Nat} : (sg c).length = 1 := rfl
theorem cut_to {n : Nat} : cutS x none (some (n : Int)) = tx' (x.cps.toList.take n) := by
  refine str_ext ?_
  unfold cutS
  simp only [HT.sIx_none, HT.sIx_nat, List.drop_zero, Nat.sub_zero]
  simp only [tx_list]
  rw [len_toList]
  exact List.take_eq_take_min.symm
theorem cut_from {n : Nat} : cutS x (some (n : Int)) none = tx' (x.cps.toList.drop n) := by
  refine str_ext ?_
  unfold cutS
  simp only [HT.sIx_none, HT.sIx_nat]
  simp only [tx_list]
  rw [len_toList]
  by_cases h : n ≤ x.cps.toList.length
  · rw [Nat.min_eq_left h]
    exact List.take_of_length_le (by simp)
  · rw [Nat.min_eq_right (by omega), List.drop_eq_nil_of_le (Nat.le_refl _), List.drop_eq_nil_of_le (by omega)]
    simp
theorem ixs_ok' {l : List Nat} {n : Nat} {c : Nat} (e : l[n]? = some c) (h : l.length ≤ 16777216) : gIx (.str (tx' l)) (.int n) = some (.str (sg c)) := gIx_str (by simpa using h) (by simpa using e)
theorem signs_tx {l : List Nat} : signsD (tx' l) = l.map fun c => .str (sg c) := by
  unfold signsD
  rw [tx_list]
  rfl
theorem lit (z : String) (l : List Nat) (h : (Str.ofString z).cps.toList = l) : Str.ofString z = tx' l := str_ext (by rw [h, tx_list])
theorem rngD_get {lo : Int} {n i : Nat} {d : D} (h : (rngD lo n)[i]? = some d) : i < n ∧ d = .int (lo + (i : Int)) := by
  obtain ⟨h1, h2⟩ := List.getElem?_eq_some_iff.mp h
  have h3 : i < n := by simpa [rngD] using h1
  refine ⟨h3, ?_⟩
  rw [← h2]
  simp [rngD]
@[simp] theorem rngD_len {lo : Int} {n : Nat} : (rngD lo n).length = n := by simp [rngD]
end
/-! ### raise, try; slices -/
section
variable {en : En} {M : Store} {E : EX}
def kRaise (x f : Str) (en : En) (Q : QF) (ds : List D) (M : Store) : Prop := match ds with | [d] => Q (.exc x [(f, d)] en) M | _ => False
@[simp] theorem kRaise_app {x f : Str} {d : D} {Q : QF} : kRaise x f en Q [d] M = Q (.exc x [(f, d)] en) M := rfl
@[simp] theorem m_raiseS {x f : Str} {a : CA} {Q : QF} : Post (raiseS x f a en M) Q E = Post (a en M) (kRaise x f en Q) (kEx en Q) := by
  simp only [raiseS, Post_thenA]
  congr 1
  funext ds M1
  rcases ds with _ | ⟨a, _ | ⟨b, r⟩⟩ <;> rfl
def kUntag (i : Nat) (Q : QF) (r : Fl) (M : Store) : Prop := match r with
  | .next en => Q (.next (en.set i none)) M
  | .brk en => Q (.brk (en.set i none)) M
  | .cont en => Q (.cont (en.set i none)) M
  | .ret d => Q (.ret d) M
  | .exc _ _ _ => False
@[simp] theorem kUntag_next {i : Nat} {Q : QF} : kUntag i Q (.next en) M = Q (.next (en.set i none)) M := rfl
@[simp] theorem kUntag_ret {i : Nat} {Q : QF} {d : D} : kUntag i Q (.ret d) M = Q (.ret d) M := rfl
def kHan (o : Option Bool) (i : Nat) (h : Str → List (Str × D) → CS) (c : Str) (fs : List (Str × D)) (en : En) (Q : QF) (M : Store) : Prop := match o with
  | some true => i < en.length ∧ Post (h c fs (en.set i none) M) (kUntag i Q) kNo
  | some false => Q (.exc c fs en) M
  | none => False
@[simp] theorem kHan_t {i : Nat} {h : Str → List (Str × D) → CS} {c : Str} {fs : List (Str × D)} {Q : QF} : kHan (some true) i h c fs en Q M = (i < en.length ∧ Post (h c fs (en.set i none) M) (kUntag i Q) kNo) := rfl
@[simp] theorem kHan_f {i : Nat} {h : Str → List (Str × D) → CS} {c : Str} {fs : List (Str × D)} {Q : QF} : kHan (some false) i h c fs en Q M = Q (.exc c fs en) M := rfl
def kTry (ok : Str → Option Bool) (i : Nat) (h : Str → List (Str × D) → CS) (Q : QF) (r : Fl) (M : Store) : Prop := match r with
  | .exc c fs en => kHan (ok c) i h c fs en Q M
  | r => Q r M
@[simp] theorem kTry_exc {ok : Str → Option Bool} {i : Nat} {h : Str → List (Str × D) → CS} {c : Str} {fs : List (Str × D)} {Q : QF} : kTry ok i h Q (.exc c fs en) M = kHan (ok c) i h c fs en Q M := rfl
@[simp] theorem kTry_next {ok : Str → Option Bool} {i : Nat} {h : Str → List (Str × D) → CS} {Q : QF} : kTry ok i h Q (.next en) M = Q (.next en) M := rfl
@[simp] theorem kTry_ret {ok : Str → Option Bool} {i : Nat} {h : Str → List (Str × D) → CS} {Q : QF} {d : D} : kTry ok i h Q (.ret d) M = Q (.ret d) M := rfl
@[simp] theorem kTry_brk {ok : Str → Option Bool} {i : Nat} {h : Str → List (Str × D) → CS} {Q : QF} : kTry ok i h Q (.brk en) M = Q (.brk en) M := rfl
@[simp] theorem kTry_cont {ok : Str → Option Bool} {i : Nat} {h : Str → List (Str × D) → CS} {Q : QF} : kTry ok i h Q (.cont en) M = Q (.cont en) M := rfl
theorem Post_untag {i : Nat} {o : Out Fl} {Q : QF} : Post (untag i o) Q E = Post o (kUntag i Q) kNo := by
  cases o with
  | ok r M1 => cases r <;> rfl
  | exc c fs M1 => rfl
  | err => rfl
@[simp] theorem m_tryS {f : CS} {ok : Str → Option Bool} {i : Nat} {h : Str → List (Str × D) → CS} {Q : QF} : Post (tryS f ok i h en M) Q E = Post (f en M) (kTry ok i h Q) E := by
  unfold tryS
  cases f en M with
  | err => rfl
  | exc c fs M1 => rfl
  | ok r M1 =>
    cases r with
    | exc c fs en1 =>
      show Post (match ok c with | some true => _ | some false => _ | none => _) Q E = kHan (ok c) i h c fs en1 Q M1
      cases ok c with
      | none => rfl
      | some k =>
        cases k with
        | false => rfl
        | true =>
          show Post (if i < en1.length then _ else _) Q E = _
          rw [Post_ite, Post_untag]
          rfl
    | next en1 => rfl
    | brk en1 => rfl
    | cont en1 => rfl
    | ret d => rfl
@[simp] theorem okL_1 {x : Str} {k : Bool} {r : List (Str × Bool)} : okL ((x, k) :: r) x = some k := by simp [okL, List.lookup]
@[simp] theorem m_hFld {cn f : Str} {j : Nat} {d : D} {Q : QF} : Post (hFld cn f j cn [(f, d)] en M) Q E = Q (.next (en.set j (some (.val d)))) M := by
  simp [hFld, List.lookup]
def kSG3 (a : Hd) (l : Option Int) (en : En) (Q : D → Store → Prop) (u : Option Int) (M : Store) : Prop := PV ((vw en M a).bind (gSl l u)) M Q
@[simp] theorem kSG3_app {a : Hd} {l u : Option Int} {Q : D → Store → Prop} : kSG3 a l en Q u M = PV ((vw en M a).bind (gSl l u)) M Q := rfl
def kSG2 (a : Hd) (hi : Option CE) (en : En) (Q : D → Store → Prop) (E : EX) (l : Option Int) (M : Store) : Prop := Post (optE hi en M) (kSG3 a l en Q) E
@[simp] theorem kSG2_app {a : Hd} {hi : Option CE} {l : Option Int} {Q : D → Store → Prop} : kSG2 a hi en Q E l M = Post (optE hi en M) (kSG3 a l en Q) E := rfl
def kSG (lo hi : Option CE) (en : En) (Q : D → Store → Prop) (E : EX) (a : Hd) (M : Store) : Prop := Post (optE lo en M) (kSG2 a hi en Q E) E
@[simp] theorem kSG_app {a : Hd} {lo hi : Option CE} {Q : D → Store → Prop} : kSG lo hi en Q E a M = Post (optE lo en M) (kSG2 a hi en Q E) E := rfl
@[simp] theorem m_eSlG {h : CH} {lo hi : Option CE} {Q : D → Store → Prop} : Post (eSlG h lo hi en M) Q E = Post (h en M) (kSG lo hi en Q E) E := by
  simp only [eSlG, Post_bind_eq, Post_ofO]
  rfl
@[simp] theorem gSl_tup {l u : Option Int} {xs : List D} : gSl l u (.tup xs) = some (.tup (cutD xs l u)) := rfl
@[simp] theorem gSl_lst {l u : Option Int} {xs : List D} : gSl l u (.lst xs) = some (.lst (cutD xs l u)) := rfl
@[simp] theorem cutD_1 {x : D} {xs : List D} : cutD (x :: xs) (some 1) none = xs := by
  unfold cutD HT.sIx
  simp
end
end DL

/-! DLR: repr of data with dicts, at any depth. -/
namespace DL
open PySem PySem.Spec PyProof.Rows L2
def keyP : Key → PyData
  | .inl i => .int i
  | .inr x => .str x
mutual
def pyE : D → Option PyData
  | .non => some .none
  | .bl k => some (.bool k)
  | .int i => some (.int i)
  | .str x => some (.str x)
  | .tup xs => (pyEs xs).map .tuple
  | .lst xs => (pyEs xs).map .list
  | .dic ks xs => (pyEs xs).map fun ps => .dict ((ks.map keyP).zip ps)
  | _ => none
def pyEs : List D → Option (List PyData)
  | [] => some []
  | x :: xs => (pyE x).bind fun p => (pyEs xs).map fun ps => p :: ps
end
/-- a value that reads as p, and is shown so -/
structure Shw (P : Program) (w : World) (h : Heap) (u : Value) (p : PyData) : Prop where
  rd : ∃ as, Reads h u p as
  sh : p.showable = true → p.shown.length ≤ sizeLine → ∃ cs, ReadAtMost h p.depth cs ∧ ReprK P w cs h p.depth u p.shown
  tp : p.showable = true → p.shown.length ≤ sizeLine → ∀ a, u = .ref a → ∃ T idr, ShowsBy P w h a p T idr
structure Shws (P : Program) (w : World) (h : Heap) (us : List Value) (ps : List PyData) : Prop where
  rd : ∃ as, ReadsAll h us ps as
  sh : PyData.showableAll ps = true → (∀ t ∈ PyData.shownAll ps, t.length ≤ sizeLine) → ∃ cs, ReadAtMost h (PyData.depthAll ps) cs ∧ ReprAllK P w cs h (PyData.depthAll ps) us (PyData.shownAll ps)
section
variable {P : Program} {w : World} {h : Heap} {u : Value} {p : PyData}
theorem no_reads {n : Nat} : ReadAtMost h n [] := fun _ q => nomatch q
theorem Shw.flat (r : Reads h u p []) (z : p.showable = true → p.shown.length ≤ sizeLine → ReprIs P w u p.shown) (nr : ∀ a, u ≠ .ref a) : Shw P w h u p :=
  ⟨⟨_, r⟩, fun x y => ⟨[], no_reads, .of_is (z x y) _ _ _⟩, fun _ _ a e => absurd e (nr a)⟩
theorem Shws.nil : Shws P w h [] [] := ⟨⟨_, .nil⟩, fun _ _ => ⟨[], no_reads, by simp only [PyData.shownAll]; exact .nil⟩⟩
theorem Shws.cons {us : List Value} {ps : List PyData} (x : Shw P w h u p) (y : Shws P w h us ps) : Shws P w h (u :: us) (p :: ps) := by
  obtain ⟨⟨a1, r1⟩, s1, _⟩ := x
  obtain ⟨⟨a2, r2⟩, s2⟩ := y
  refine ⟨⟨_, .cons r1 r2⟩, fun hs hz => ?_⟩
  simp only [PyData.showableAll, Bool.and_eq_true] at hs
  simp only [PyData.shownAll, List.mem_cons] at hz
  obtain ⟨c1, m1, k1⟩ := s1 hs.1 (hz _ (.inl rfl))
  obtain ⟨c2, m2, k2⟩ := s2 hs.2 fun t q => hz t (.inr q)
  refine ⟨c1 ++ c2, ?_, ?_⟩
  · simp only [PyData.depthAll]
    exact (m1.mono (Nat.le_max_left _ _)).append (m2.mono (Nat.le_max_right _ _))
  · simp only [PyData.depthAll, PyData.shownAll]
    exact .cons ((k1.more fun b q => List.mem_append_left _ q).level_le (Nat.le_max_left _ _)) (k2.more_le (fun b q => List.mem_append_right _ q) (Nat.le_max_right _ _))
theorem Shw.lst {a : Addr} {o : Obj} {vs : Array Value} {n : Nat} {ps : List PyData} (e1 : h.get? a = some o) (e2 : o.cls = .type "list") (e3 : o.data = .seq vs n) (y : Shws P w h vs.toList ps) : Shw P w h (.ref a) (.list ps) := by
  obtain ⟨⟨a2, r2⟩, s2⟩ := y
  have r := Reads.list e1 e2 e3 r2
  have go : (PyData.list ps).showable = true → (PyData.list ps).shown.length ≤ sizeLine → ∃ c2, a ∉ c2 ∧ ReadAtMost h (PyData.depthAll ps) c2 ∧ ReprAllK P w c2 h (PyData.depthAll ps) vs.toList (PyData.shownAll ps) := fun hs hz => by
    simp only [PyData.showable] at hs
    simp only [PyData.shown] at hz
    obtain ⟨c2, m2, k2⟩ := s2 hs fun t q => Nat.le_trans (listText_mem_le q) hz
    exact ⟨c2, not_mem_of_deeper r (by simp only [PyData.depth]; omega) m2, m2, k2⟩
  refine ⟨⟨_, r⟩, fun hs hz => ?_, fun hs hz b eb => ?_⟩
  · obtain ⟨c2, ni, m2, k2⟩ := go hs hz
    refine ⟨a :: c2, ReadAtMost.cons r (by simp only [PyData.depth]; omega) m2, ?_⟩
    simp only [PyData.depth, PyData.shown]
    cases vs with
    | mk l =>
      cases l with
      | nil =>
        cases (show ReadsAll h [] ps _ from r2)
        simp only [PyData.shownAll, listText_nil]
        exact ReprK.listEmpty e1 e2 e3
      | cons x l => exact ReprK.list e1 e2 e3 ni (by simpa using k2.length_eq) fun i y q => k2.item i y (by simpa using q)
  · cases eb
    obtain ⟨c2, ni, m2, k2⟩ := go hs hz
    refine ⟨_, _, F.slot_list_repr.toG, F.slot_list_str, F.slot_list_format, fun s up => ⟨o, up _ _ e1, e2⟩, fun A E s Q gd un up k => ?_⟩
    simp only [PyData.depth] at un
    simp only [PyData.shown] at k hz
    cases vs with
    | mk l =>
      cases l with
      | nil =>
        cases (show ReadsAll h [] ps _ from r2)
        simp only [PyData.shownAll, listText_nil] at k
        exact call_list_repr_empty ⟨o, up _ _ e1, e2⟩ (up _ _ e1) e3 (k s.heap _ _ fun _ _ q => q)
      | cons x l => exact call_list_reprK e1 e2 e3 ni (by simpa using k2.length_eq) (fun i y q => k2.item i y (by simpa using q)) gd (fun b _ => Clear.nil b) un up k hz
theorem Shw.tup {a : Addr} {o : Obj} {vs : Array Value} {n : Nat} {ps : List PyData} (e1 : h.get? a = some o) (e2 : o.cls = .type "tuple") (e3 : o.data = .seq vs n) (y : Shws P w h vs.toList ps) : Shw P w h (.ref a) (.tuple ps) := by
  obtain ⟨⟨a2, r2⟩, s2⟩ := y
  have r := Reads.tuple e1 e2 e3 r2
  have go : (PyData.tuple ps).showable = true → (PyData.tuple ps).shown.length ≤ sizeLine → ∃ c2, a ∉ c2 ∧ ReadAtMost h (PyData.depthAll ps) c2 ∧ ReprAllK P w c2 h (PyData.depthAll ps) vs.toList (PyData.shownAll ps) := fun hs hz => by
    simp only [PyData.showable] at hs
    simp only [PyData.shown] at hz
    obtain ⟨c2, m2, k2⟩ := s2 hs fun t q => Nat.le_trans (tupleText_mem_le q) hz
    exact ⟨c2, not_mem_of_deeper r (by simp only [PyData.depth]; omega) m2, m2, k2⟩
  refine ⟨⟨_, r⟩, fun hs hz => ?_, fun hs hz b eb => ?_⟩
  · obtain ⟨c2, ni, m2, k2⟩ := go hs hz
    refine ⟨a :: c2, ReadAtMost.cons r (by simp only [PyData.depth]; omega) m2, ?_⟩
    simp only [PyData.depth, PyData.shown]
    exact ReprK.tuple e1 e2 e3 ni k2
  · cases eb
    obtain ⟨c2, ni, m2, k2⟩ := go hs hz
    refine ⟨_, _, F.slot_tuple_repr, F.slot_tuple_str, F.slot_tuple_format, fun s up => ⟨o, up _ _ e1, e2⟩, fun A E s Q gd un up k => ?_⟩
    simp only [PyData.depth] at un
    simp only [PyData.shown] at k hz
    exact call_tuple_reprK e1 e2 e3 ni k2 gd (fun b _ => Clear.nil b) un up k hz
theorem Shw.dic {a : Addr} {o : Obj} {es : Array DictEntry} {n : Nat} {qs : List (PyData × PyData)} (e1 : h.get? a = some o) (e2 : o.cls = .type "dict") (e3 : o.data = .dict es n) (sy : (a == sysModules) = false)
    (x : Shws P w h (es.toList.map (·.key)) (qs.map (·.1))) (y : Shws P w h (es.toList.map (·.val)) (qs.map (·.2))) : Shw P w h (.ref a) (.dict qs) := by
  obtain ⟨⟨a1, r1⟩, s1⟩ := x
  obtain ⟨⟨a2, r2⟩, s2⟩ := y
  have r := Reads.dict e1 e2 e3 r1 r2
  have go : (PyData.dict qs).showable = true → (PyData.dict qs).shown.length ≤ sizeLine → ∃ c, a ∉ c ∧ ReadAtMost h (PyData.depthKv qs) c ∧ ReprEntriesK P w c h (PyData.depthKv qs) es.toList (PyData.shownKv qs) := fun hs hz => by
    simp only [PyData.showable] at hs
    simp only [PyData.shown] at hz
    obtain ⟨z1, z2⟩ := PyData.showableKv_split qs hs
    obtain ⟨c1, m1, k1⟩ := s1 z1 fun t q => by
      obtain ⟨p, hp, hl⟩ := PyData.shownKv_key_le qs t q
      exact Nat.le_trans hl (Nat.le_trans (dictText_mem_le hp) hz)
    obtain ⟨c2, m2, k2⟩ := s2 z2 fun t q => by
      obtain ⟨p, hp, hl⟩ := PyData.shownKv_val_le qs t q
      exact Nat.le_trans hl (Nat.le_trans (dictText_mem_le hp) hz)
    have m := (m1.mono (PyData.depthAll_keys_le qs)).append (m2.mono (PyData.depthAll_vals_le qs))
    refine ⟨c1 ++ c2, not_mem_of_deeper r (by simp only [PyData.depth]; omega) m, m, ?_⟩
    rw [PyData.shownKv_eq]
    exact ReprEntriesK.of_two _ _ _ (k1.more_le (fun b q => List.mem_append_left _ q) (PyData.depthAll_keys_le qs)) (k2.more_le (fun b q => List.mem_append_right _ q) (PyData.depthAll_vals_le qs))
  refine ⟨⟨_, r⟩, fun hs hz => ?_, fun hs hz b eb => ?_⟩
  · obtain ⟨c2, ni, m2, k2⟩ := go hs hz
    refine ⟨a :: c2, ReadAtMost.cons r (by simp only [PyData.depth]; omega) m2, ?_⟩
    simp only [PyData.depth, PyData.shown]
    exact ReprK.dict e1 e2 e3 sy ni k2
  · cases eb
    obtain ⟨c2, ni, m2, k2⟩ := go hs hz
    refine ⟨_, _, F.slot_dict_repr, F.slot_dict_str, F.slot_dict_format, fun s up => ⟨o, up _ _ e1, e2⟩, fun A E s Q gd un up k => ?_⟩
    simp only [PyData.depth] at un
    simp only [PyData.shown] at k hz
    exact call_dict_reprK e1 e2 e3 sy ni k2 gd (fun b _ => Clear.nil b) un up k hz
/-- repr of it -/
theorem Shw.call {a : Addr} {A : Around} {E : Value → Shared → Prop} {s : Shared} {Q : Value → Shared → Prop} (x : Shw P w s.heap (.ref a) p) (hs : p.showable = true) (hz : p.shown.length ≤ sizeLine) (hg : A.guards = some []) (hu : A.units + (p.depth + 1) < cLine)
    (k : ∀ h' u tk, (∀ b o, s.heap.get? b = some o → h'.get? b = some o) → Q (.str p.shown u) { s with heap := h', toks := tk }) : wpAny (model P w) A (call (.builtin "repr") [.ref a]) Q E s := by
  obtain ⟨T, idr, S⟩ := x.tp hs hz a rfl
  refine call_repr_slot (by omega) (S.typeIs s fun _ _ q => q) S.slotRepr ?_
  exact S.call A.in1 E s _ hg (by show A.units + 1 + p.depth < cLine; omega) (fun _ _ q => q) fun h' u tk q => ⟨_, _, rfl, k h' u tk q⟩
end
section
variable {X : Cx} {ct : CT} {w : Wd} {M : Store} {H : Hp} {pins : List (Addr × Obj)} {σ : L2.St} {s : Shared}
theorem shw_key {k : Key} {v : Value} (h : (mixKind X.prog X.w).is k v = true) (z : (keyP k).showable = true → True) : Shw X.prog X.w s.heap v (keyP k) := by
  rcases keyIs_shape h with ⟨i, t, rfl, rfl⟩ | ⟨x, t, rfl, rfl⟩
  · exact .flat (.int i t) (fun z _ => by simp only [keyP, PyData.shown]; exact ReprIs.int t (by simpa [keyP, PyData.showable] using z)) nofun
  · exact .flat (.str x t) (fun _ z => by simp only [keyP, PyData.shown]; exact ReprIs.str x t (by simpa only [keyP, PyData.shown] using z)) nofun
theorem shws_keys : ∀ {es : List DictEntry} {kvs : List (Key × V)} {vs : List (Key × Value)}, KV kvs vs → Pairs (mixKind X.prog X.w) es vs → Shws X.prog X.w s.heap (es.map (·.key)) ((kvs.map (·.1)).map keyP) ∧ Vals (kvs.map (·.2)) (es.map (·.val))
  | _, _, _, .nil, .nil => ⟨.nil, .nil⟩
  | _, _, _, .cons r rs, .cons q e qs => by
    obtain ⟨h1, h2⟩ := shws_keys rs qs
    obtain ⟨r1, r2⟩ := r
    refine ⟨.cons ?_ h1, .cons ?_ h2⟩
    · have := shw_key (X := X) (s := s) q fun _ => trivial
      rw [← r1] at this
      exact this
    · have := r2
      rw [← e] at this
      exact this
theorem zip_fst {α β : Type} : ∀ {l : List α} {m : List β}, l.length = m.length → (l.zip m).map (·.1) = l ∧ (l.zip m).map (·.2) = m
  | [], [], _ => ⟨rfl, rfl⟩
  | a :: l, b :: m, h => by
    obtain ⟨h1, h2⟩ := zip_fst (l := l) (m := m) (by simpa using h)
    simp [h1, h2]
theorem pyEs_len : ∀ {xs : List D} {ps : List PyData}, pyEs xs = some ps → xs.length = ps.length
  | [], ps, e => by simp only [pyEs, Option.some.injEq] at e; subst e; rfl
  | x :: xs, ps, e => by
    simp only [pyEs] at e
    obtain ⟨p1, e1, e⟩ := Option.bind_eq_some_iff.mp e
    obtain ⟨qs, e2, rfl⟩ := Option.map_eq_some_iff.mp e
    simp [pyEs_len e2]
mutual
theorem shw_of (I : Inv X pins σ H s) (rl : Rl X.K ct w M H) : ∀ (d : D) (v : V) (u : Value) (p : PyData), Rep X.K w d v → RelV v u → pyE d = some p → Shw X.prog X.w s.heap u p
  | .non, v, u, p, h, r, e => by
    simp only [Rep] at h
    subst h
    simp only [pyE, Option.some.injEq] at e
    subst e
    obtain rfl : u = Value.none := r
    exact .flat .none (fun _ _ => by simp only [PyData.shown]; exact ReprIs.none) nofun
  | .bl k, v, u, p, h, r, e => by
    simp only [Rep] at h
    subst h
    simp only [pyE, Option.some.injEq] at e
    subst e
    obtain rfl : u = Value.bool k := r
    exact .flat (.bool k) (fun _ _ => by simp only [PyData.shown]; exact ReprIs.bool k) nofun
  | .int i, v, u, p, h, r, e => by
    simp only [Rep] at h
    subst h
    simp only [pyE, Option.some.injEq] at e
    subst e
    obtain ⟨t, rfl⟩ := r
    exact .flat (.int i t) (fun z _ => by simp only [PyData.shown]; exact ReprIs.int t (by simpa [PyData.showable] using z)) nofun
  | .str i, v, u, p, h, r, e => by
    simp only [Rep] at h
    subst h
    simp only [pyE, Option.some.injEq] at e
    subst e
    obtain ⟨t, rfl⟩ := r
    exact .flat (.str i t) (fun _ z => by simp only [PyData.shown]; exact ReprIs.str i t (by simpa only [PyData.shown] using z)) nofun
  | .tup xs, v, u, p, h, r, e => by
    simp only [Rep] at h
    obtain ⟨a, vs, rfl, h1, h2⟩ := h
    simp only [pyE] at e
    obtain ⟨ps, e1, rfl⟩ := Option.map_eq_some_iff.mp e
    cases r
    obtain ⟨its, rv, pl, _⟩ := I.tuple (rl.sub.sqt h1)
    have q := shws_of I rl xs vs its ps h2 rv e1
    obtain ⟨o, ho, hc, n, hd⟩ := pl
    exact .tup ho hc hd (by simpa using q)
  | .lst xs, v, u, p, h, r, e => by
    simp only [Rep] at h
    obtain ⟨a, vs, rfl, h1, h2⟩ := h
    simp only [pyE] at e
    obtain ⟨ps, e1, rfl⟩ := Option.map_eq_some_iff.mp e
    cases r
    obtain ⟨its, rv, pl, _⟩ := I.list (SqL.of (rl.sub.lst h1))
    have q := shws_of I rl xs vs its ps h2 rv e1
    obtain ⟨o, n, ho, hc, hdn, hd⟩ := pl
    exact .lst ho hc hd (by simpa using q)
  | .dic ks xs, v, u, p, h, r, e => by
    simp only [Rep] at h
    obtain ⟨a, vs, rfl, ⟨o1, h1⟩, h2, h3⟩ := h
    simp only [pyE] at e
    obtain ⟨ps, e1, rfl⟩ := Option.map_eq_some_iff.mp e
    cases r
    obtain ⟨_, sy, ws, kv, o, es, ep, g1, g2, g3, _, g5, _⟩ := dk_rd I.hok (.inr ⟨o1, rl.sub.frz h1⟩)
    obtain ⟨k1, k2⟩ := shws_keys (X := X) (s := s) kv g5
    have lv := h3.length
    obtain ⟨z1, z2⟩ := zip_fst (l := ks) (m := vs) (by omega)
    rw [z1] at k1
    rw [z2] at k2
    have q := shws_of I rl xs vs _ ps h3 k2 e1
    have lp := pyEs_len e1
    obtain ⟨y1, y2⟩ := zip_fst (l := ks.map keyP) (m := ps) (by simp; omega)
    exact .dic g1 g2.1 g3 sy (by rw [y1]; exact k1) (by rw [y2]; exact q)
  | .ref _, v, u, p, h, r, e => by simp only [pyE] at e; cases e
  | .scr _, v, u, p, h, r, e => by simp only [pyE] at e; cases e
theorem shws_of (I : Inv X pins σ H s) (rl : Rl X.K ct w M H) : ∀ (d : List D) (v : List V) (u : List Value) (p : List PyData), RepL X.K w d v → Vals v u → pyEs d = some p → Shws X.prog X.w s.heap u p
  | [], v, u, p, h, r, e => by
    rw [RepL.nil_iff] at h
    subst h
    cases r
    simp only [pyEs, Option.some.injEq] at e
    subst e
    exact .nil
  | x :: xs, v, u, p, h, r, e => by
    rw [RepL.cons_iff] at h
    obtain ⟨v1, r1, rfl, h1, h2⟩ := h
    cases r with
    | cons r0 rs =>
      simp only [pyEs] at e
      obtain ⟨p1, e1, e⟩ := Option.bind_eq_some_iff.mp e
      obtain ⟨ps, e2, rfl⟩ := Option.map_eq_some_iff.mp e
      exact .cons (shw_of I rl x v1 _ p1 h1 r0 e1) (shws_of I rl xs r1 _ ps h2 rs e2)
end
theorem shw_vw (I : Inv X pins σ H s) (rl : Rl X.K ct w M H) {d : D} {v : V} {u : Value} {p : PyData} (h : Vw X.K w H d v) (r : RelV v u) (e : pyE d = some p) : Shw X.prog X.w s.heap u p := by
  cases d with
  | lst xs =>
    obtain ⟨a, vs, rfl, h1, h2⟩ := h
    simp only [pyE] at e
    obtain ⟨ps, e1, rfl⟩ := Option.map_eq_some_iff.mp e
    cases r
    obtain ⟨its, rv, pl, _⟩ := I.list (SqL.of h1)
    have q := shws_of I rl xs vs its ps h2 rv e1
    obtain ⟨o, n, ho, hc, hdn, hd⟩ := pl
    exact .lst ho hc hd (by simpa using q)
  | dic ks xs =>
    obtain ⟨a, vs, rfl, h1, h2, h3⟩ := h
    simp only [pyE] at e
    obtain ⟨ps, e1, rfl⟩ := Option.map_eq_some_iff.mp e
    cases r
    obtain ⟨_, sy, ws, kv, o, es, ep, g1, g2, g3, _, g5, _⟩ := dk_rd I.hok h1
    obtain ⟨k1, k2⟩ := shws_keys (X := X) (s := s) kv g5
    have lv := h3.length
    obtain ⟨z1, z2⟩ := zip_fst (l := ks) (m := vs) (by omega)
    rw [z1] at k1
    rw [z2] at k2
    have q := shws_of I rl xs vs _ ps h3 k2 e1
    have lp := pyEs_len e1
    obtain ⟨y1, y2⟩ := zip_fst (l := ks.map keyP) (m := ps) (by simp; omega)
    exact .dic g1 g2.1 g3 sy (by rw [y1]; exact k1) (by rw [y2]; exact q)
  | tup xs => exact shw_of I rl _ _ _ _ h.1 r e
  | non => exact shw_of I rl .non v u p (by simp only [Rep]; exact h) r e
  | bl k => exact shw_of I rl (.bl k) v u p (by simp only [Rep]; exact h) r e
  | int i => exact shw_of I rl (.int i) v u p (by simp only [Rep]; exact h) r e
  | str x => exact shw_of I rl (.str x) v u p (by simp only [Rep]; exact h) r e
  | ref n => simp only [pyE] at e; cases e
  | scr n => simp only [pyE] at e; cases e
def gRp : List D → Option D
  | [d] => (pyE d).bind fun p => if p.showable = true ∧ p.depth ≤ 60 ∧ p.shown.length ≤ sizeLine then some (.str p.shown) else none
  | _ => none
theorem reads_flat {h : Heap} {u : Value} {p : PyData} {as : List Addr} (r : Reads h u p as) : (∃ a, u = .ref a) ∨ (u = .none ∧ p = .none) ∨ (∃ k, u = .bool k ∧ p = .bool k) ∨ (∃ i t, u = .int i t ∧ p = .int i) ∨ ∃ x t, u = .str x t ∧ p = .str x := by
  cases r with
  | none => exact .inr (.inl ⟨rfl, rfl⟩)
  | bool b => exact .inr (.inr (.inl ⟨_, rfl, rfl⟩))
  | int i t => exact .inr (.inr (.inr (.inl ⟨_, _, rfl, rfl⟩)))
  | str x t => exact .inr (.inr (.inr (.inr ⟨_, _, rfl, rfl⟩)))
  | list _ _ _ _ => exact .inl ⟨_, rfl⟩
  | tuple _ _ _ _ => exact .inl ⟨_, rfl⟩
  | dict _ _ _ _ _ => exact .inl ⟨_, rfl⟩
theorem cv_repr2 (hgd : X.A.guards = some []) (hu : X.A.units + 64 < cLine) : CallV X ct (.builtin "repr") gRp := CallV.mk' fun pins s σ H vs us Q w M ds d I rx rl hx e k => by
  match ds, e with
  | [d0], e =>
    obtain ⟨p, e1, e⟩ := Option.bind_eq_some_iff.mp e
    split at e
    case isFalse => cases e
    rename_i hc
    cases e
    obtain ⟨v, rfl, h1⟩ := hx.one
    obtain ⟨u, rfl, ru⟩ := vals1 rx
    have q := shw_vw I rl h1 ru e1
    obtain ⟨as, r⟩ := q.rd
    rcases reads_flat r with ⟨a, rfl⟩ | ⟨rfl, rfl⟩ | ⟨b, rfl, rfl⟩ | ⟨i, t, rfl, rfl⟩ | ⟨x, t, rfl, rfl⟩
    · refine q.call hc.1 hc.2.2 hgd (by have := hc.2.1; omega) fun h' u tk kp => ?_
      exact ⟨.str p.shown, H, I.kept (t' := tk) kp, ⟨u, rfl⟩, k.now rl rfl⟩
    · refine P.repr_of_none ⟨V.str _, H, I.tok _, ⟨_, rfl⟩, k.now rl (by simp only [PyData.shown]; rfl)⟩
    · refine P.repr_of_bool ⟨V.str _, H, I.tok _, ⟨_, rfl⟩, k.now rl (by simp only [PyData.shown]; rfl)⟩
    · refine P.repr_of_int (by simpa [PyData.showable] using hc.1) ⟨V.str _, H, I.tok _, ⟨_, rfl⟩, k.now rl (by simp only [PyData.shown]; rfl)⟩
    · refine P.repr_of_str ⟨V.str _, H, I.tok _, ⟨_, rfl⟩, k.now rl (by simp only [PyData.shown]; rfl)⟩ (by simpa only [PyData.shown] using hc.2.2)
end
end DL
namespace DL
open PySem PySem.Spec PyProof.Rows L2
/-- y = repr(n.f), n the exception -/
def hRp (cn f : Str) (j : Nat) : Str → List (Str × D) → CS := fun c fs en M => if c = cn then match fs.lookup f with
  | some d => match (vwD M d).bind fun v => gRp [v] with
    | some r => .ok (.next (en.set j (some (.val r)))) M
    | none => .err
  | none => .err
  else .err
section
variable {X : Cx} {ct : CT} {b : Base} {W : WX} {pos : Pos} {n : Str} {i : Nat}
end
section
variable {d : D} {x : Str} {i : Int} {xs : List D}
end
end DL

/-! DL25: own classes: fields, methods, new instances; calls with defaults. -/
namespace DL
open PySem PySem.Spec PyProof.Rows L2
/-- the fields of an instance of c -/
def insAt (c : Str) : Option MO → Option (List (Str × D))
  | some (.ins c' fs) => if c' = c then some fs else none
  | _ => none
@[simp] theorem insAt_same {c : Str} {fs : List (Str × D)} : insAt c (some (.ins c fs)) = some fs := if_pos rfl
def putD (f : Str) (d : D) : List (Str × D) → List (Str × D)
  | [] => [(f, d)]
  | (g, x) :: r => if g = f then (g, d) :: r else (g, x) :: putD f d r
structure FldI (K : PySem.W.Frag) (ct : CT) (c f : Str) : Prop where
  cl : Cls K (ct c)
  na : NoAttr K (ct c) f
def eFld (c f : Str) (e : CE) : CE := fun en M => (e en M).bind fun d M1 => match d with
  | .ref n => ofO ((insAt c M1[n]?).bind fun fs => fs.lookup f) M1
  | _ => .err
def stF (c f : Str) (fo fv : CE) : CS := fun en M => thenS (fv en M) en fun v M1 => thenS (fo en M1) en fun o M2 => match o with
  | .ref n => match insAt c M2[n]? with
    | some fs => if fs.length < 900 then .ok (.next en) (M2.set n (.ins c (putD f v fs))) else .err
    | none => .err
  | _ => .err
section
variable {X : Cx} {ct : CT} {b : Base} {W : WX} {e o : Expr} {pos apos tpos : Pos} {es : List Expr}
end
/-! ### calls -/
/-- a value that stands for ever, as the module's top made it -/
def Cst (K : PySem.W.Frag) (ds : List D) (vs : List V) : Prop := ∀ w, RepL K w ds vs
/-- how n values by place and keywords ks are bound: π picks among the values, the keywords' values, the constants -/
structure Bnd (K : PySem.W.Frag) (fd : FuncData) (ps : List Str) (n : Nat) (ks : List Str) (π : List Nat) (cs : List D) : Prop where
  ex : ∃ (cv : List V) (g : List Value → List Value → List Value), Cst K cs cv ∧ KBn K fd ps n ks g (fun vs zs => pick π (vs ++ zs ++ cv))
theorem Bnd.of {K : PySem.W.Frag} {x qual : Str} {st : Stmt} {f : Addr} {fd : FuncData} (F : Fun K x qual st f fd) {ps : List Str} {n : Nat} {ks : List Str} {π : List Nat}
    (h : ∀ (kV doc pm : Value) (an : Option Addr) (cdv ct : Value) (us ws : List Value), us.length = n → ws.length = ks.length → bindArgs (PySem.W.fnOf x qual (defArgs st) (defBody st) (defScope st) .none kV doc pm an cdv ct) ⟨us, ks.zip ws⟩ = pure (ps.zip (pick π (us ++ ws ++ [])))) :
    Bnd K fd ps n ks π [] := by
  obtain ⟨oc, od, kV, doc, pm, an, cdv, ct, osl, rfl, lk, hcd⟩ := F.ex
  exact ⟨[], _, fun w => .nil, ⟨fun s us ws _ h1 h2 => .of_eq (h kV doc pm an cdv ct us ws h1 h2), fun r1 r2 => Vals.pick ((r1.append r2).append .nil) π⟩⟩
/-- keyword-only parameters, some of which lack: ms -/
theorem Bnd.kw {K : PySem.W.Frag} {x qual : Str} {st : Stmt} {kws : List (Str × V)} {f : Addr} {fd : FuncData} (F : FunD K x qual (defArgs st) (defBody st) (defScope st) [] kws f fd) {ps : List Str} {n : Nat} {ks : List Str} {π : List Nat} (ms : List (Str × V)) {cs : List D} (hk : kws ≠ []) (hms : ∀ q ∈ ms, q ∈ kws) (hc : Cst K cs (ms.map (·.2)))
    (h : ∀ (D : Addr) (doc pm : Value) (an : Option Addr) (cdv ct : Value) (us mv ws : List Value), us.length = n → mv.length = ms.length → ws.length = ks.length →
      KwChain D ((ms.map (·.1)).zip mv) (bindArgs (PySem.W.fnOf x qual (defArgs st) (defBody st) (defScope st) .none (.ref D) doc pm an cdv ct) ⟨us, ks.zip ws⟩) (ps.zip (pick π (us ++ ws ++ mv)))) : Bnd K fd ps n ks π cs := by
  obtain ⟨mv, kb⟩ := FunD.kbinds0 F n ks ms (fun us mv ws => pick π (us ++ ws ++ mv)) hk hms (fun r1 r2 r3 => Vals.pick ((r1.append r3).append r2) π) h
  exact ⟨_, _, hc, kb⟩
/-! ### the values of a call -/
structure PCA (X : Cx) (es : List Expr) (kws : List Keyword) (ks : List Str) (t : L2.St → Hp → (List V → List V → Hp → Prop) → Prop) : Prop where
  run : ∀ (pos : Pos) (f : Value) (first : List Value) (pins : List (Addr × Obj)) (s : Shared) (σ : L2.St) (H : Hp) (Q : List V → List V → Hp → Prop) (R : Value → Shared → Prop), PySem.W.keepIn X.K f = true → Inv X pins σ H s → t σ H Q →
    (∀ us ws vs zs s2 H2, Inv X pins σ H2 s2 → Vals vs us → Vals zs ws → Q vs zs H2 → wpAny (model X.prog X.w) X.A (call f (first ++ us) (ks.zip ws)) R X.xe s2) →
    wpAny (model X.prog X.w) X.A (callWith pos f first (backTo pos (starEach es X.env)) (backToKw pos (keywordEach kws X.env))) R X.xe s
def eAA (args kargs : CA) : En → Store → Out (List D × List D) := fun en M => (args en M).bind fun ds M1 => (kargs en M1).bind fun zs M2 => .ok (ds, zs) M2
abbrev CAA := En → Store → Out (List D × List D)
section
variable (X : Cx) (ct : CT) (b : Base) (W : WX)
def TAA (f : CAA) : L2.St → Hp → (List V → List V → Hp → Prop) → Prop := fun σ H Q => ∃ w en M, Sl X.K ct b w en σ H ∧ Rl X.K ct w M H ∧ Post (f en M)
  (fun p M' => ∀ w' vs zs H', Step w H w' H' → Rl X.K ct w' M' H' → RepL X.K w' p.1 vs → RepL X.K w' p.2 zs → Q vs zs H')
  (fun c fs M' => ∀ w' cls dx H', Step w H w' H' → Sl X.K ct b w' en σ H' → Rl X.K ct w' M' H' → ExV X.K ct w' c fs cls dx H' → W cls dx σ H')
abbrev PCAD (ks : List Str) (f : CAA) (es : List Expr) (kws : List Keyword) : Prop := PCA X es kws ks (TAA X ct b W f)
end
section
variable {X : Cx} {ct : CT} {b : Base} {W : WX} {e o : Expr} {es : List Expr} {kws : List Keyword} {ks : List Str} {args kargs : CA}
theorem pca_00 : PCAD X ct b W [] (eAA aNil aNil) [] [] := ⟨fun pos f first pins s σ H Q R kp I h k => by
  obtain ⟨w, en, M, S, rl, p⟩ := h
  have := p w [] [] H (Step.refl _ _) rl .nil .nil
  exact PySem.W.callWith_K0 I.kIn kp (k [] [] [] [] s H I .nil .nil this)⟩
theorem pca_0k (hkw : PKD X ct b W kargs kws) (hall : ∀ pos, (backToKw pos (keywordEach kws X.env)).all (·.1.isSome) = true := by intro _; rfl) (hks : ∀ pos, (backToKw pos (keywordEach kws X.env)).filterMap (·.1) = ks := by intro _; rfl)
    (hpl : ∀ pos, ((backTo pos (starEach [] X.env)).any (·.1) || (backToKw pos (keywordEach kws X.env)).any (·.1.isNone)) = false := by intro _; rfl) : PCAD X ct b W ks (eAA aNil kargs) [] kws := ⟨fun pos f first pins s σ H Q R kp I h k => by
  obtain ⟨w, en, M, S, rl, p⟩ := h
  refine PySem.W.callWith_KW0 (h₀ := X.base) I.ok.mod.kin kp (hall pos) ?_ (hpl pos)
  refine thn (hkw.run pos pins s σ H (fun zs H1 => Q [] zs H1) I ?_) fun ws s2 ⟨zs, H2, I2, rz, q2⟩ => ⟨I2.kIn, ?_⟩
  · refine ⟨w, en, M, S, rl, (Post.bind (x := kargs en M) (f := fun zs M2 => .ok ([], zs) M2) p).imp (fun zs M1 q w1 zv H1 s1 r1 x1 => ?_) fun _ _ _ q => q⟩
    exact q w1 [] zv H1 s1 r1 .nil x1
  · rw [hks pos]
    exact k [] ws [] zs s2 H2 I2 .nil rz q2⟩
/-- the callee runs (no repr goes on) -/
theorem run_gNS {k n : Nat} {f : Addr} {fd : FuncData} {ps : List Str} {sp : Sp} {E : XK} {g : List Value → List Value → List Value} {gV : List V → List V → List V} {pins : List (Addr × Obj)} {σ : L2.St} {H : Hp} {s : Shared} {Q : VK} {us ws : List Value} {vs zs : List V}
    (F : FnG X.prog X.w X.K X.mg X.base (L2.CX X.prog X.w) k f fd ps sp) (hgd : X.A.guards = some []) (hr : Room k X.A) (hb : KBn X.K fd ps n ks g gV) (hx : PassesAt (L2.CX X.prog X.w) X σ E)
    (I : Inv X pins σ H s) (r : Vals vs us) (rz : Vals zs ws) (l1 : vs.length = n) (l2 : zs.length = ks.length) (h : sp (gV vs zs) H Q E) : wpAny (model X.prog X.w) X.A (call (.ref f) us (ks.zip ws)) (EP X pins σ Q) X.xe s := by
  have r2 := hb.rel r rz
  refine wpAny_call (codeAny_mono (F.run X.A X.stack s H ⟨us, ks.zip ws⟩ (g us ws) (gV vs zs) Q E hr hgd I.env0 (hb.to s us ws I.kIn (r.length.symm.trans l1) (rz.length.symm.trans l2)) r2 h) fun r s' hq => ?_)
  cases r with
  | error e => exact hx pins H s e s' I hq
  | ok fl =>
    cases fl with
    | ret u => exact I.after hq
    | next => exact False.elim hq
    | brk => exact False.elim hq
    | cont => exact False.elim hq
end
/-! ### a def with defaults; methods; new instances -/
structure CalC (P : Program) (w : World) (K : PySem.W.Frag) (mg : Str → Option Value) (base : Heap) (ct : CT) (x : Str) (k n : Nat) (ks : List Str) (π : List Nat) (cs : List D) (cf : CF) : Prop where
  ex : ∃ (f : Addr) (fd : FuncData) (ps : List Str), FnG P w K mg base (L2.CX P w) k f fd ps (SpD K ct cf) ∧ mg x = some (.ref f) ∧ PySem.W.keepIn K (.ref f) = true ∧ Bnd K fd ps n ks π cs
/-- a method m of the class c, called with n values by place behind self -/
structure MetC (P : Program) (w : World) (K : PySem.W.Frag) (mg : Str → Option Value) (base : Heap) (ct : CT) (c m : Str) (k n : Nat) (ks : List Str) (π : List Nat) (cs : List D) (cf : CF) : Prop where
  ex : ∃ (f : Addr) (fd : FuncData) (ps : List Str), FnG P w K mg base (L2.CX P w) k f fd ps (SpD K ct cf) ∧ Cls K (ct c) ∧ Meth K (ct c) m f ∧ Bnd K fd ps (n + 1) ks π cs
/-- the class x is called with n values by place -/
structure MakC (P : Program) (w : World) (K : PySem.W.Frag) (mg : Str → Option Value) (base : Heap) (ct : CT) (x : Str) (k n : Nat) (ks : List Str) (π : List Nat) (cs : List D) (cf : CF) : Prop where
  ex : ∃ (f : Addr) (fd : FuncData) (ps : List Str), FnG P w K mg base (L2.CX P w) k f fd ps (SpD K ct cf) ∧ mg x = some (.ref (ct x)) ∧ Mk K (ct x) f ∧ Bnd K fd ps (n + 1) ks π cs
def eCalD (n m : Nat) (π : List Nat) (cs : List D) (cf : CF) (fa : CAA) : CE := fun en M => (fa en M).bind fun p M1 => if p.1.length = n ∧ p.2.length = m then cf (pick π (p.1 ++ p.2 ++ cs)) M1 else .err
def eMet (c mn : Str) (n m : Nat) (π : List Nat) (cs : List D) (cf : CF) (fo : CE) (fa : CAA) : CE := fun en M => (fo en M).bind fun d M1 => match d with
  | .ref r => match insAt c M1[r]? with
    | some fs => if (fs.lookup mn).isNone = true then (fa en M1).bind fun p M2 => if p.1.length = n ∧ p.2.length = m then cf (pick π (.ref r :: p.1 ++ p.2 ++ cs)) M2 else .err else .err
    | none => .err
  | _ => .err
def eMak (c : Str) (n m : Nat) (π : List Nat) (cs : List D) (cf : CF) (fa : CAA) : CE := fun en M => (fa en M).bind fun p M1 => if p.1.length = n ∧ p.2.length = m then
  (cf (pick π (.ref M1.length :: p.1 ++ p.2 ++ cs)) (M1 ++ [.ins c []])).bind fun r M2 => match r with
    | .non => .ok (.ref M1.length) M2
    | _ => .err else .err
section
variable {X : Cx} {ct : CT} {b : Base} {W : WX} {e o : Expr} {es : List Expr} {kws : List Keyword} {ks : List Str} {fa : CAA} {fo : CE} {p pos apos : Pos} {k n : Nat} {π : List Nat} {cs : List D} {cf : CF} {x c m : Str}
theorem go_call {ds : List D} {vs : List V} {cf : CF} {π : List Nat} {w w1 : Wd} {en : En} {σ : L2.St} {H H1 : Hp} {M1 : Store} {Q : VK} (S : Sl X.K ct b w en σ H) (s1 : Step w H w1 H1) (r1 : Rl X.K ct w1 M1 H1) (hx : RepL X.K w1 ds vs)
    (p : Post (cf (pick π ds) M1) (fun d M' => ∀ w' v H', Step w H w' H' → Rl X.K ct w' M' H' → Rep X.K w' d v → Q v H')
      (fun c fs M' => ∀ w' cls dx H', Step w H w' H' → Sl X.K ct b w' en σ H' → Rl X.K ct w' M' H' → ExV X.K ct w' c fs cls dx H' → W cls dx σ H')) : SpD X.K ct cf (pick π vs) H1 Q (WE W σ) :=
  ⟨w1, M1, _, hx.pick π, r1, p.imp (fun d M2 q w2' v H2' s2' r2' x2' => q w2' v H2' (s1.trans s2') r2' x2') fun c fs M2 q w2' cls dx H2' s2' r2' x2' => q w2' cls dx H2' (s1.trans s2') (S.step (s1.trans s2')) r2' x2'⟩
theorem pd_calD (F : CalC X.prog X.w X.K X.mg X.base ct x k n ks π cs cf) (hgd : X.A.guards = some []) (hr : Room k X.A) (tk : Takes X W) (ha : PCAD X ct b W ks fa es kws) (hg : Gl X x := by rfl) (hdb : (x == ("__debug__" : Str)) = false := by decide) :
    PD X ct b W (eCalD n ks.length π cs cf fa) (.Call (.Name x p) es kws pos) := by
  obtain ⟨f, fd, ps, F, hm, hk, cv, g, hc, hb⟩ := F.ex
  refine ⟨fun pins s σ H Q I h => ?_⟩
  obtain ⟨w, en, M, S, rl, pp⟩ := h
  refine wpAny_Call_Name_kw (ld_glob I hg hm ?_ hdb)
  refine ha.run pos _ [] pins s σ H (fun vs zs H1 => (vs.length = n ∧ zs.length = ks.length) ∧ SpD X.K ct cf (pick π (vs ++ zs ++ cv)) H1 Q (WE W σ)) _ hk I ?_ fun us ws vs zs s2 H2 I2 r1 r2 q => ?_
  · refine ⟨w, en, M, S, rl, (Post.bind pp).imp (fun p M1 q w1 vs zs H1 s1 r1 x1 x2 => ?_) fun _ _ _ q => q⟩
    split at q
    · rename_i hl
      exact ⟨⟨by rw [← x1.length]; exact hl.1, by rw [← x2.length]; exact hl.2⟩, go_call S s1 r1 ((x1.append x2).append (hc _)) q⟩
    · exact q.elim
  · exact run_gNS F hgd hr hb (passAt tk σ) I2 r1 r2 q.1.1 q.1.2 q.2
end
end DL

/-! DL26: walks over dicts that stand for ever: keys, values, pairs; the machine's rules for DL25 and these. -/
namespace DL
open PySem PySem.Spec PyProof.Rows L2
/-- what is walked: a dict's keys, else as iSeq -/
def iSeqK (f : CE) : CI := fun en M => (f en M).bind fun d M1 => match d with
  | .dic ks _ => .ok (ks.map dK, []) M1
  | d => ofO ((vwD M1 d).bind fun v => (itemsD v).map fun xs => (xs, gdD d v)) M1
def iValsD (f : CE) : CI := fun en M => (f en M).bind fun d M1 => match d with
  | .dic ks xs => if ks.length = xs.length then .ok (xs, []) M1 else .err
  | _ => .err
def iItemsD (f : CE) : CI := fun en M => (f en M).bind fun d M1 => match d with
  | .dic ks xs => if ks.length = xs.length then .ok (zipD (ks.map dK) xs, []) M1 else .err
  | _ => .err
section
variable {X : Cx} {ct : CT} {b : Base} {W : WX} {e e1 e2 tg : Expr} {apos cpos pos : Pos} {es : List Expr}
theorem dic_F {w : Wd} {ks : List Key} {xs : List D} {v : V} (h : Rep X.K w (.dic ks xs) v) : ∃ a o vs, v = .ref a ∧ w.F a = some (.frz o (.dK (ks.zip vs))) ∧ ks.length = xs.length ∧ RepL X.K w xs vs := by
  simp only [Rep] at h
  obtain ⟨a, vs, rfl, ⟨o, h1⟩, h2, h3⟩ := h
  exact ⟨a, o, vs, rfl, h1, h2, h3⟩
theorem zip_get1 {ks : List Key} {vs : List V} (hl : ks.length = vs.length) {i : Nat} {k : Key} {v : V} (h : (ks.zip vs)[i]? = some (k, v)) : ks[i]? = some k ∧ vs[i]? = some v := by
  rw [List.getElem?_zip_eq_some] at h
  exact h
theorem wkd_keys {w : Wd} {ks : List Key} {vs : List V} {a : Addr} {o : Obj} (h : w.F a = some (.frz o (.dK (ks.zip vs)))) (hl : ks.length = vs.length) : WkD RS X.K ct (Itk a o (ks.zip vs)) w (ks.map dK) [] := by
  refine ⟨fun H => H a = some (.frz o (.dK (ks.zip vs))), fun i H x H' => H' = H ∧ ∃ k v, (ks.zip vs)[i]? = some (k, v) ∧ x = kV k, ?_, fun w' M' H' l rl _ => rl.sub.frz (l.F _ _ h), fun i w' M' H' x H2 hi l rl _ y => ?_⟩
  · have : (ks.map dK).length = (ks.zip vs).length := by simp [hl]
    rw [this]
    exact walk_keys
  · obtain ⟨rfl, k, v, y1, rfl⟩ := y
    obtain ⟨k1, _⟩ := zip_get1 hl y1
    refine ⟨w', dK k, by simp [k1], Step.refl _ _, rl, ?_⟩
    obtain ⟨d, q1, q2⟩ := (keys_rep (K := X.K) (w := w') ks).get' (i := i) (v := kV k) (by simp [k1])
    rw [List.getElem?_map, k1] at q1
    cases q1
    exact q2
theorem pid_seqK {f : CE} {tg : Expr} (h : PD X ct b W f e) : PID X ct b W (iSeqK f) tg e := by
  refine ⟨fun pins s σ H R I hw => ?_⟩
  obtain ⟨w, en, M, S, rl, p⟩ := hw
  cases q : f en M with
  | err =>
    unfold iSeqK at p
    rw [q] at p
    exact p.elim
  | exc c fs M1 =>
    refine (pid_seq (tg := tg) h).run pins s σ H R I ⟨w, en, M, S, rl, ?_⟩
    unfold iSeqK at p
    unfold iSeq
    rw [q] at p ⊢
    exact p
  | ok d M1 =>
    by_cases hd : ∃ ks xs, d = .dic ks xs
    · obtain ⟨ks, xs, rfl⟩ := hd
      refine (pi_keys (tg := tg) h).run pins s σ H R I ⟨w, en, M, S, rl, ?_⟩
      unfold iSeqK at p
      rw [q] at p ⊢
      intro w1 v1 H1 s1 r1 x1
      obtain ⟨a, o, vs, rfl, h1, h2, h3⟩ := dic_F x1
      exact ⟨a, o, rfl, .inl ⟨_, r1.sub.frz h1, p w1 _ H1 s1 r1 (wkd_keys h1 (h2.trans h3.length))⟩⟩
    · refine (pid_seq (tg := tg) h).run pins s σ H R I ⟨w, en, M, S, rl, ?_⟩
      unfold iSeqK at p
      unfold iSeq
      rw [q] at p ⊢
      cases d <;> first | exact p | exact absurd ⟨_, _, rfl⟩ hd
end
end DL

/-! DL27: targets of every kind in a parallel assignment. -/
namespace DL
open PySem PySem.Spec PyProof.Rows L2
abbrev TX := D → En → Store → Out En
def xName (i : Nat) : TX := fun d en M => .ok (en.set i (some (.val d))) M
def xSubO (i : Nat) (fk : CE) : TX := fun v en M => match en[i]? with
  | some (some (.own o)) => (fk en M).bind fun k M1 => match putM o k v with
    | some o' => .ok (en.set i (some (.own o'))) M1
    | none => .err
  | _ => .err
def xSubR (fo fk : CE) : TX := fun v en M => (fo en M).bind fun o M1 => (fk en M1).bind fun k M2 => match o with
  | .ref n => match M2[n]? with
    | some o => match putM o k v with
      | some o' => .ok en (M2.set n o')
      | none => .err
    | none => .err
  | _ => .err
def xFld (c f : Str) (fo : CE) : TX := fun v en M => (fo en M).bind fun o M1 => match o with
  | .ref n => match insAt c M1[n]? with
    | some fs => if fs.length < 900 then .ok en (M1.set n (.ins c (putD f v fs))) else .err
    | none => .err
  | _ => .err
def xs2 : List TX → List D → En → Store → Out En
  | [], [], en, M => .ok en M
  | t :: ts, d :: ds, en, M => (t d en M).bind fun en' M' => xs2 ts ds en' M'
  | _, _, _, _ => .err
def xTup (ts : List TX) : TX := fun d en M => match d with
  | .tup ds => xs2 ts ds en M
  | _ => .err
def noE : Str → List (Str × D) → Store → Prop := fun _ _ _ => False
section
variable (X : Cx) (ct : CT) (b : Base)
def TGX (R : RR) (t : TX) : TG := fun v σ H Q => ∃ w en M d, Step b.w b.H w H ∧ Sl X.K ct b w en σ H ∧ Rl X.K ct w M H ∧ R X.K w H d v ∧
  Post (t d en M) (fun en' M' => ∀ w' σ' H', Step b.w b.H w' H' → Wle w w' → Sl X.K ct b w' en' σ' H' → Rl X.K ct w' M' H' → Q σ' H') noE
def TGXs (t : List TX) : TGs := fun v σ H Q => ∃ w en M d, Step b.w b.H w H ∧ Sl X.K ct b w en σ H ∧ Rl X.K ct w M H ∧ RepL X.K w d v ∧
  Post (xs2 t d en M) (fun en' M' => ∀ w' σ' H', Step b.w b.H w' H' → Wle w w' → Sl X.K ct b w' en' σ' H' → Rl X.K ct w' M' H' → Q σ' H') noE
abbrev PGX (t : TX) (e : Expr) : Prop := PG X e (TGX X ct b RS t)
abbrev PGXW (t : TX) (e : Expr) : Prop := PG X e (TGX X ct b RW t)
abbrev PGXs (t : List TX) (es : List Expr) : Prop := PGs X es (TGXs X ct b t)
end
/-- o.f = .. -/
def gAttr (K : PySem.W.Frag) (to : TE) (f : Str) : TG := fun y σ H Q => to σ H fun x H1 => ∃ a C dx fs, x = .ref a ∧ H1 a = some (.ins C dx fs) ∧ Cls K C ∧ NoAttr K C f ∧ fs.length < 1000 ∧ Q σ (upd H1 a (.ins C dx (putF f y fs)))
section
variable {X : Cx} {ct : CT} {b : Base} {W : WX} {e e1 e2 e3 o : Expr} {pos tpos : Pos} {es : List Expr}
def asgX (t : TX) (f : CE) : CS := fun en M => thenS (f en M) en fun d M' => match t d en M' with
  | .ok en' M2 => .ok (.next en') M2
  | _ => .err
end
end DL

/-! DL28: the machine's rules for DL25 to DL27. -/
namespace DL
open PySem PySem.Spec PyProof.Rows L2
section
variable {en : En} {M : Store} {E : EX}
/-! ### fields -/
def fldAt (c f : Str) (o : Option MO) : Option D := (insAt c o).bind fun fs => fs.lookup f
def kFld (c f : Str) (Q : D → Store → Prop) (d : D) (M : Store) : Prop := match d with | .ref n => PV (fldAt c f (gt M n)) M Q | _ => False
@[simp] theorem kFld_app {c f : Str} {Q : D → Store → Prop} {n : Nat} : kFld c f Q (.ref n) M = PV (fldAt c f (gt M n)) M Q := rfl
@[simp] theorem m_eFld {c f : Str} {fo : CE} {Q : D → Store → Prop} : Post (eFld c f fo en M) Q E = Post (fo en M) (kFld c f Q) E := by
  simp only [eFld, Post_bind_eq]
  congr 1
  funext d M1
  cases d <;> try rfl
  rename_i n
  rw [kFld_app, ← gt_eq]
  exact Post_ofO
def putI (c f : Str) (v : D) (o : Option MO) : Option MO := match insAt c o with
  | some fs => if fs.length < 900 then some (.ins c (putD f v fs)) else none
  | none => none
def kStF2 (c f : Str) (v : D) (en : En) (Q : QF) (o : D) (M : Store) : Prop := match o with | .ref n => PV (putI c f v (gt M n)) M (kSetR n en Q) | _ => False
@[simp] theorem kStF2_app {c f : Str} {v : D} {Q : QF} {n : Nat} : kStF2 c f v en Q (.ref n) M = PV (putI c f v (gt M n)) M (kSetR n en Q) := rfl
def kStF1 (c f : Str) (fo : CE) (en : En) (Q : QF) (v : D) (M : Store) : Prop := Post (fo en M) (kStF2 c f v en Q) (kEx en Q)
@[simp] theorem kStF1_app {c f : Str} {fo : CE} {v : D} {Q : QF} : kStF1 c f fo en Q v M = Post (fo en M) (kStF2 c f v en Q) (kEx en Q) := rfl
theorem putI_go {c f : Str} {v : D} {n : Nat} {o : Option MO} {M : Store} {en : En} {Q : QF} {E : EX} : Post (match insAt c o with | some fs => if fs.length < 900 then Out.ok (Fl.next en) (M.set n (.ins c (putD f v fs))) else .err | none => .err) Q E = PV (putI c f v o) M (kSetR n en Q) := by
  unfold putI
  cases insAt c o with
  | none => rfl
  | some fs =>
    dsimp only
    split <;> rfl
@[simp] theorem m_stF {c f : Str} {fo fv : CE} {Q : QF} : Post (stF c f fo fv en M) Q E = Post (fv en M) (kStF1 c f fo en Q) (kEx en Q) := by
  simp only [stF, Post_thenS]
  congr 1
  funext v M1
  rw [kStF1_app]
  congr 1
  funext o M2
  cases o <;> try rfl
  rename_i n
  rw [kStF2_app, ← gt_eq]
  exact putI_go
/-! ### calls -/
abbrev QA := List D × List D → Store → Prop
def kAA2 (ds : List D) (Q : QA) (zs : List D) (M : Store) : Prop := Q (ds, zs) M
@[simp] theorem kAA2_app {ds zs : List D} {Q : QA} : kAA2 ds Q zs M = Q (ds, zs) M := rfl
def kAA1 (k : CA) (en : En) (Q : QA) (E : EX) (ds : List D) (M : Store) : Prop := Post (k en M) (kAA2 ds Q) E
@[simp] theorem kAA1_app {k : CA} {Q : QA} {ds : List D} : kAA1 k en Q E ds M = Post (k en M) (kAA2 ds Q) E := rfl
@[simp] theorem m_eAA {a k : CA} {Q : QA} : Post (eAA a k en M) Q E = Post (a en M) (kAA1 k en Q E) E := by
  simp only [eAA, Post_bind_eq]
  rfl
def kCal (n m : Nat) (π : List Nat) (cs : List D) (cf : CF) (Q : D → Store → Prop) (E : EX) (p : List D × List D) (M : Store) : Prop := (p.1.length = n ∧ p.2.length = m) ∧ Post (cf (pick π (p.1 ++ p.2 ++ cs)) M) Q E
@[simp] theorem kCal_app {n m : Nat} {π : List Nat} {cs : List D} {cf : CF} {Q : D → Store → Prop} {ds zs : List D} : kCal n m π cs cf Q E (ds, zs) M = ((ds.length = n ∧ zs.length = m) ∧ Post (cf (pick π (ds ++ zs ++ cs)) M) Q E) := rfl
@[simp] theorem m_eCalD {n m : Nat} {π : List Nat} {cs : List D} {cf : CF} {fa : CAA} {Q : D → Store → Prop} : Post (eCalD n m π cs cf fa en M) Q E = Post (fa en M) (kCal n m π cs cf Q E) E := by
  simp only [eCalD, Post_bind_eq]
  congr 1
  funext p M1
  exact Post_ite
def metAt (c mn : Str) (o : Option MO) : Option Unit := (insAt c o).bind fun fs => if (fs.lookup mn).isNone = true then some () else none
def kMet2 (r n m : Nat) (π : List Nat) (cs : List D) (cf : CF) (Q : D → Store → Prop) (E : EX) (p : List D × List D) (M : Store) : Prop := (p.1.length = n ∧ p.2.length = m) ∧ Post (cf (pick π (.ref r :: p.1 ++ p.2 ++ cs)) M) Q E
@[simp] theorem kMet2_app {r n m : Nat} {π : List Nat} {cs : List D} {cf : CF} {Q : D → Store → Prop} {ds zs : List D} : kMet2 r n m π cs cf Q E (ds, zs) M = ((ds.length = n ∧ zs.length = m) ∧ Post (cf (pick π (.ref r :: ds ++ zs ++ cs)) M) Q E) := rfl
def kMet1 (r n m : Nat) (π : List Nat) (cs : List D) (cf : CF) (fa : CAA) (en : En) (Q : D → Store → Prop) (E : EX) (_ : Unit) (M : Store) : Prop := Post (fa en M) (kMet2 r n m π cs cf Q E) E
@[simp] theorem kMet1_app {r n m : Nat} {π : List Nat} {cs : List D} {cf : CF} {fa : CAA} {u : Unit} {Q : D → Store → Prop} : kMet1 r n m π cs cf fa en Q E u M = Post (fa en M) (kMet2 r n m π cs cf Q E) E := rfl
def kMet (c mn : Str) (n m : Nat) (π : List Nat) (cs : List D) (cf : CF) (fa : CAA) (en : En) (Q : D → Store → Prop) (E : EX) (d : D) (M : Store) : Prop := match d with
  | .ref r => PV (metAt c mn (gt M r)) M (kMet1 r n m π cs cf fa en Q E)
  | _ => False
@[simp] theorem kMet_app {c mn : Str} {r n m : Nat} {π : List Nat} {cs : List D} {cf : CF} {fa : CAA} {Q : D → Store → Prop} : kMet c mn n m π cs cf fa en Q E (.ref r) M = PV (metAt c mn (gt M r)) M (kMet1 r n m π cs cf fa en Q E) := rfl
@[simp] theorem m_eMet {c mn : Str} {n m : Nat} {π : List Nat} {cs : List D} {cf : CF} {fo : CE} {fa : CAA} {Q : D → Store → Prop} : Post (eMet c mn n m π cs cf fo fa en M) Q E = Post (fo en M) (kMet c mn n m π cs cf fa en Q E) E := by
  simp only [eMet, Post_bind_eq]
  congr 1
  funext d M1
  cases d <;> try rfl
  rename_i r
  rw [kMet_app, ← gt_eq]
  unfold metAt
  show Post (match insAt c M1[r]? with | some fs => _ | none => _) Q E = _
  cases insAt c M1[r]? with
  | none => rfl
  | some fs =>
    dsimp only [Option.bind_some]
    split
    · rw [PV_some, kMet1_app, Post_bind_eq]
      congr 1
      funext p M2
      exact Post_ite
    · rfl
def kMak2 (r : Nat) (Q : D → Store → Prop) (d : D) (M : Store) : Prop := match d with | .non => Q (.ref r) M | _ => False
@[simp] theorem kMak2_app {r : Nat} {Q : D → Store → Prop} : kMak2 r Q .non M = Q (.ref r) M := rfl
def kMak (c : Str) (n m : Nat) (π : List Nat) (cs : List D) (cf : CF) (Q : D → Store → Prop) (E : EX) (p : List D × List D) (M : Store) : Prop := (p.1.length = n ∧ p.2.length = m) ∧ Post (cf (pick π (.ref M.length :: p.1 ++ p.2 ++ cs)) (M ++ [.ins c []])) (kMak2 M.length Q) E
@[simp] theorem kMak_app {c : Str} {n m : Nat} {π : List Nat} {cs : List D} {cf : CF} {Q : D → Store → Prop} {ds zs : List D} : kMak c n m π cs cf Q E (ds, zs) M = ((ds.length = n ∧ zs.length = m) ∧ Post (cf (pick π (.ref M.length :: ds ++ zs ++ cs)) (M ++ [.ins c []])) (kMak2 M.length Q) E) := rfl
@[simp] theorem m_eMak {c : Str} {n m : Nat} {π : List Nat} {cs : List D} {cf : CF} {fa : CAA} {Q : D → Store → Prop} : Post (eMak c n m π cs cf fa en M) Q E = Post (fa en M) (kMak c n m π cs cf Q E) E := by
  simp only [eMak, Post_bind_eq]
  congr 1
  funext p M1
  refine Post_ite.trans ?_
  unfold kMak
  rw [Post_bind_eq]
  congr 2
  funext d M2
  cases d <;> rfl
/-! ### walks -/
def kSeqK (Q : IT → Store → Prop) (d : D) (M : Store) : Prop := match d with | .dic ks _ => Q (ks.map dK, []) M | d => PV (vwD M d) M (kSeqI Q d)
@[simp] theorem kSeqK_dic {Q : IT → Store → Prop} {ks : List Key} {xs : List D} : kSeqK Q (.dic ks xs) M = Q (ks.map dK, []) M := rfl
@[simp] theorem kSeqK_lst {Q : IT → Store → Prop} {xs : List D} : kSeqK Q (.lst xs) M = Q (xs, []) M := rfl
@[simp] theorem kSeqK_tup {Q : IT → Store → Prop} {xs : List D} : kSeqK Q (.tup xs) M = Q (xs, []) M := rfl
@[simp] theorem kSeqK_scr {Q : IT → Store → Prop} {xs : List Int} : kSeqK Q (.scr xs) M = Q (xs.map D.int, []) M := rfl
@[simp] theorem kSeqK_str {Q : IT → Store → Prop} {z : Str} : kSeqK Q (.str z) M = Q (signsD z, []) M := rfl
@[simp] theorem kSeqK_ref {Q : IT → Store → Prop} {n : Nat} : kSeqK Q (.ref n) M = PV (vwD M (.ref n)) M (kSeqI Q (.ref n)) := rfl
@[simp] theorem m_iSeqK {f : CE} {Q : IT → Store → Prop} : Post (iSeqK f en M) Q E = Post (f en M) (kSeqK Q) E := by
  simp only [iSeqK, Post_bind_eq]
  congr 1
  funext d M1
  have key : ∀ d : D, Post (ofO ((vwD M1 d).bind fun v => (itemsD v).map fun xs => (xs, gdD d v)) M1) Q E = PV (vwD M1 d) M1 (kSeqI Q d) := fun d => by
    rw [Post_ofO]
    cases vwD M1 d with
    | none => rfl
    | some v =>
      show PV ((itemsD v).map _) _ _ = PV (itemsD v) _ _
      cases itemsD v <;> rfl
  cases d <;> first | rfl | exact key _
def kVals (Q : IT → Store → Prop) (d : D) (M : Store) : Prop := match d with | .dic ks xs => ks.length = xs.length ∧ Q (xs, []) M | _ => False
@[simp] theorem kVals_app {Q : IT → Store → Prop} {ks : List Key} {xs : List D} : kVals Q (.dic ks xs) M = (ks.length = xs.length ∧ Q (xs, []) M) := rfl
@[simp] theorem m_iValsD {f : CE} {Q : IT → Store → Prop} : Post (iValsD f en M) Q E = Post (f en M) (kVals Q) E := by
  simp only [iValsD, Post_bind_eq]
  congr 1
  funext d M1
  cases d <;> first | rfl | exact Post_ite
def kItems (Q : IT → Store → Prop) (d : D) (M : Store) : Prop := match d with | .dic ks xs => ks.length = xs.length ∧ Q (zipD (ks.map dK) xs, []) M | _ => False
@[simp] theorem kItems_app {Q : IT → Store → Prop} {ks : List Key} {xs : List D} : kItems Q (.dic ks xs) M = (ks.length = xs.length ∧ Q (zipD (ks.map dK) xs, []) M) := rfl
@[simp] theorem m_iItemsD {f : CE} {Q : IT → Store → Prop} : Post (iItemsD f en M) Q E = Post (f en M) (kItems Q) E := by
  simp only [iItemsD, Post_bind_eq]
  congr 1
  funext d M1
  cases d <;> first | rfl | exact Post_ite
/-! ### targets -/
def kNX (Q : QF) (en : En) (M : Store) : Prop := Q (.next en) M
@[simp] theorem kNX_app {Q : QF} : kNX Q en M = Q (.next en) M := rfl
def kAsgX (t : TX) (en : En) (Q : QF) (d : D) (M : Store) : Prop := Post (t d en M) (kNX Q) kNo
@[simp] theorem kAsgX_app {t : TX} {Q : QF} {d : D} : kAsgX t en Q d M = Post (t d en M) (kNX Q) kNo := rfl
@[simp] theorem m_asgX {t : TX} {f : CE} {Q : QF} : Post (asgX t f en M) Q E = Post (f en M) (kAsgX t en Q) (kEx en Q) := by
  simp only [asgX, Post_thenS]
  congr 1
  funext d M1
  rw [kAsgX_app]
  cases t d en M1 <;> rfl
variable {QE : En → Store → Prop}
@[simp] theorem m_xName {i : Nat} {d : D} : Post (xName i d en M) QE E = QE (en.set i (some (.val d))) M := rfl
def kXS (i : Nat) (v : D) (en : En) (QE : En → Store → Prop) (k : D) (M : Store) : Prop := PV (putS (gt en i) k v) M fun o M => QE (en.set i (some (.own o))) M
@[simp] theorem kXS_app {i : Nat} {v k : D} : kXS i v en QE k M = PV (putS (gt en i) k v) M fun o M => QE (en.set i (some (.own o))) M := rfl
@[simp] theorem m_xSubO {i : Nat} {fk : CE} {v : D} : Post (xSubO i fk v en M) QE E = (isOwn (gt en i) = true ∧ Post (fk en M) (kXS i v en QE) E) := by
  rw [← gt_eq]
  unfold xSubO
  cases q : en[i]? with
  | none => simp [isOwn]
  | some s =>
    cases s with
    | none => simp [isOwn]
    | some s =>
      cases s with
      | val d => simp [isOwn]
      | own o =>
        simp only [isOwn_own, true_and, Post_bind_eq]
        congr 1
        funext k M1
        rw [kXS_app, ← gt_eq, q, putS_own]
        cases putM o k v <;> rfl
def kXSet (n : Nat) (en : En) (QE : En → Store → Prop) (o : MO) (M : Store) : Prop := QE en (M.set n o)
@[simp] theorem kXSet_app {n : Nat} {o : MO} : kXSet n en QE o M = QE en (M.set n o) := rfl
def kXR2 (o v : D) (en : En) (QE : En → Store → Prop) (k : D) (M : Store) : Prop := match o with | .ref n => PV (putR (gt M n) k v) M (kXSet n en QE) | _ => False
@[simp] theorem kXR2_app {n : Nat} {k v : D} : kXR2 (.ref n) v en QE k M = PV (putR (gt M n) k v) M (kXSet n en QE) := rfl
def kXR1 (fk : CE) (v : D) (en : En) (QE : En → Store → Prop) (E : EX) (o : D) (M : Store) : Prop := Post (fk en M) (kXR2 o v en QE) E
@[simp] theorem kXR1_app {fk : CE} {v o : D} : kXR1 fk v en QE E o M = Post (fk en M) (kXR2 o v en QE) E := rfl
@[simp] theorem m_xSubR {fo fk : CE} {v : D} : Post (xSubR fo fk v en M) QE E = Post (fo en M) (kXR1 fk v en QE E) E := by
  simp only [xSubR, Post_bind_eq]
  congr 1
  funext o M1
  rw [kXR1_app]
  congr 1
  funext k M2
  cases o <;> try rfl
  rename_i n
  rw [kXR2_app, ← gt_eq]
  show Post (match M2[n]? with | some o => _ | none => _) QE E = _
  cases M2[n]? with
  | none => rfl
  | some o =>
    rw [putR_some]
    show Post (match putM o k v with | some o' => _ | none => _) QE E = _
    cases putM o k v <;> rfl
def kXF (c f : Str) (v : D) (en : En) (QE : En → Store → Prop) (o : D) (M : Store) : Prop := match o with | .ref n => PV (putI c f v (gt M n)) M (kXSet n en QE) | _ => False
@[simp] theorem kXF_app {c f : Str} {v : D} {n : Nat} : kXF c f v en QE (.ref n) M = PV (putI c f v (gt M n)) M (kXSet n en QE) := rfl
@[simp] theorem m_xFld {c f : Str} {fo : CE} {v : D} : Post (xFld c f fo v en M) QE E = Post (fo en M) (kXF c f v en QE) E := by
  simp only [xFld, Post_bind_eq]
  congr 1
  funext o M1
  cases o <;> try rfl
  rename_i n
  rw [kXF_app, ← gt_eq]
  unfold putI
  show Post (match insAt c M1[n]? with | some fs => _ | none => _) QE E = _
  cases insAt c M1[n]? with
  | none => rfl
  | some fs =>
    dsimp only
    split <;> rfl
@[simp] theorem m_xTup {ts : List TX} {ds : List D} : Post (xTup ts (.tup ds) en M) QE E = Post (xs2 ts ds en M) QE E := rfl
@[simp] theorem m_xs2_nil : Post (xs2 [] [] en M) QE E = QE en M := rfl
def kXs (ts : List TX) (ds : List D) (QE : En → Store → Prop) (E : EX) (en : En) (M : Store) : Prop := Post (xs2 ts ds en M) QE E
@[simp] theorem kXs_app {ts : List TX} {ds : List D} : kXs ts ds QE E en M = Post (xs2 ts ds en M) QE E := rfl
@[simp] theorem m_xs2_cons {t : TX} {ts : List TX} {d : D} {ds : List D} : Post (xs2 (t :: ts) (d :: ds) en M) QE E = Post (t d en M) (kXs ts ds QE E) E := by
  show Post (Out.bind _ _) QE E = _
  rw [Post_bind_eq]
  rfl
end
end DL

/-! DL29: what the generator needs for programs with classes (all defs by FnG); constants that the module's top holds. -/
namespace DL
open PySem PySem.Spec PyProof.Rows L2
section
variable {P : Program} {w : World} {K : PySem.W.Frag} {mg : Str → Option Value} {base : Heap} {ct : CT}
theorem calC_mk {x qual y : Str} {st : Stmt} {f : Addr} {fd : FuncData} {ps : List Str} {k n : Nat} {ks : List Str} {π : List Nat} {cs : List D} {cf : CF} (F : Fun K x qual st f fd) (ok : FnG P w K mg base (L2.CX P w) k f fd ps (SpD K ct cf)) (hm : mg y = some (.ref f)) (B : Bnd K fd ps n ks π cs) : CalC P w K mg base ct y k n ks π cs cf :=
  ⟨f, fd, ps, ok, hm, F.kp, B⟩
/-- kept data -/
inductive KD (K : PySem.W.Frag) : D → V → Prop
  | non : KD K .non .non
  | bl (b : Bool) : KD K (.bl b) (.bl b)
  | int (i : Int) : KD K (.int i) (.int i)
  | str (x : Str) : KD K (.str x) (.str x)
  | tup {xs : List D} {vs : List V} {a : Addr} {o : Obj} {its : Array Value} {n : Nat} (h : K.lookup a = some o) (hc : o.cls = .type "tuple") (hd : o.data = .seq its n) (hz : its.size ≤ sizeLine) (hv : Vals vs its.toList) (hl : xs.length = vs.length) (hx : ∀ (i : Nat) x v, xs[i]? = some x → vs[i]? = some v → KD K x v) : KD K (.tup xs) (.ref a)
theorem repL_of {K : PySem.W.Frag} {w : Wd} : ∀ {xs : List D} {vs : List V}, xs.length = vs.length → (∀ (i : Nat) x v, xs[i]? = some x → vs[i]? = some v → Rep K w x v) → RepL K w xs vs
  | [], [], _, _ => .nil
  | [], _ :: _, h, _ => by cases h
  | _ :: _, [], h, _ => by cases h
  | x :: xs, v :: vs, h, k => .cons (k 0 x v rfl rfl) (repL_of (by simpa using h) fun i x v a b => k (i + 1) x v (by simpa using a) (by simpa using b))
theorem KD.rep {d : D} {v : V} (h : KD K d v) (w : Wd) : Rep K w d v := by
  induction h with
  | non => simp only [Rep]
  | bl b => simp only [Rep]
  | int i => simp only [Rep]
  | str x => simp only [Rep]
  | tup h hc hd hz hv hl hx ih =>
    simp only [Rep]
    exact ⟨_, _, rfl, .inr ⟨_, _, _, h, hc, hd, hz, hv⟩, repL_of hl ih⟩
/-- a tuple of texts, whole numbers, kept by the top -/
inductive Flt1 : D → Value → Prop
  | int (i : Int) (t : Tok) : Flt1 (.int i) (.int i t)
  | str (x : Str) (t : Tok) : Flt1 (.str x) (.str x t)
  | bl (b : Bool) : Flt1 (.bl b) (.bool b)
  | non : Flt1 .non .none
inductive Flts : List D → List Value → Prop
  | nil : Flts [] []
  | cons {d : D} {ds : List D} {u : Value} {us : List Value} : Flt1 d u → Flts ds us → Flts (d :: ds) (u :: us)
theorem Flts.vals : ∀ {ds : List D} {us : List Value}, Flts ds us → ∃ vs, Vals vs us ∧ ds.length = vs.length ∧ ∀ (i : Nat) x v, ds[i]? = some x → vs[i]? = some v → KD K x v
  | [], [], .nil => ⟨[], .nil, rfl, fun i x v h => by simp at h⟩
  | d :: ds, u :: us, .cons h t => by
    obtain ⟨vs, a, b, c⟩ := Flts.vals t
    have one : ∃ v, RelV v u ∧ KD K d v := by
      cases h with
      | int i t => exact ⟨.int i, ⟨t, rfl⟩, .int i⟩
      | str x t => exact ⟨.str x, ⟨t, rfl⟩, .str x⟩
      | bl b => exact ⟨.bl b, rfl, .bl b⟩
      | non => exact ⟨.non, rfl, .non⟩
    obtain ⟨v, r, k⟩ := one
    refine ⟨v :: vs, .cons r a, by simp [b], fun i x y e1 e2 => ?_⟩
    cases i with
    | zero =>
      simp at e1 e2
      subst e1 e2
      exact k
    | succ i => exact c i x y (by simpa using e1) (by simpa using e2)
end
end DL

/-! a, b = a list -/
namespace DL
open PySem PySem.Spec PyProof.Rows L2
section
variable {prog : Program} {w : World} {A : Around} {E : Value → Shared → Prop} {s : Shared}
end
/-- (a, b, ..) = a tuple or a list of that length -/
def gUn (K : PySem.W.Frag) (n : Nat) (t : TGs) : TG := fun v σ H Q => ∃ a xs, v = .ref a ∧ (SqT K H a xs ∨ SqL K H a xs) ∧ xs.length = n ∧ t xs σ H Q
/-- a, b = a tuple, or a list looked into now -/
def xUn (ts : List TX) : TX := fun d en M => match vwD M d with
  | some (.tup ds) => xs2 ts ds en M
  | some (.lst ds) => xs2 ts ds en M
  | _ => .err
section
variable {X : Cx} {ct : CT} {b : Base} {W : WX} {es : List Expr} {pos : Pos}
end
section
variable {en : En} {M : Store} {QE : En → Store → Prop} {E : Str → List (Str × D) → Store → Prop}
def kUnp (ts : List TX) (en : En) (M : Store) (QE : En → Store → Prop) (E : Str → List (Str × D) → Store → Prop) : Option D → Prop
  | some (.tup ds) => Post (xs2 ts ds en M) QE E
  | some (.lst ds) => Post (xs2 ts ds en M) QE E
  | _ => False
@[simp] theorem kUnp_tup {ts : List TX} {ds : List D} : kUnp ts en M QE E (some (.tup ds)) = Post (xs2 ts ds en M) QE E := rfl
@[simp] theorem kUnp_lst {ts : List TX} {ds : List D} : kUnp ts en M QE E (some (.lst ds)) = Post (xs2 ts ds en M) QE E := rfl
@[simp] theorem m_xUn {ts : List TX} {d : D} : Post (xUn ts d en M) QE E = kUnp ts en M QE E (vwD M d) := by
  unfold xUn
  cases q : vwD M d with
  | none => rfl
  | some x => cases x <;> rfl
end
end DL

/-! DL31: the machine's rules for dicts. -/
namespace DL
open PySem PySem.Spec PyProof.Rows L2
@[simp] theorem gDictP_dic {ks : List Key} {xs : List D} : gDictP [.dic ks xs] = some (.dic ks xs) := rfl
@[simp] theorem gIn_dic_str {ks : List Key} {xs : List D} {x : Str} : gIn (.str x) (.dic ks xs) = some (.bl (dget ks xs (.inr x)).isSome) := rfl
@[simp] theorem gNotIn_dic_str {ks : List Key} {xs : List D} {x : Str} : gNotIn (.str x) (.dic ks xs) = some (.bl (!(dget ks xs (.inr x)).isSome)) := rfl
theorem gIn_sg {z : Str} {c : Nat} : gIn (.str (sg c)) (.str z) = some (.bl (decide (c ∈ z.cps.toList))) := rfl
section
variable {en : En} {M : Store} {E : Str → List (Str × D) → Store → Prop}
def kCompD (t : Tg) (vs : List Nat) (tt : CB) (tk tv : CE) (en : En) (Q : MO → Store → Prop) (E : Str → List (Str × D) → Store → Prop) (p : IT) (M : Store) : Prop := PF p.1.length (Post (compD t p.2 tt tk tv (wipeE en vs) p.1 [] [] M) (fun r M => Q (.dic r.1 r.2) M) E)
@[simp] theorem kCompD_app {t : Tg} {vs : List Nat} {tt : CB} {tk tv : CE} {xs : List D} {g : List (D × D)} {Q : MO → Store → Prop} : kCompD t vs tt tk tv en Q E (xs, g) M = PF xs.length (Post (compD t g tt tk tv (wipeE en vs) xs [] [] M) (fun r M => Q (.dic r.1 r.2) M) E) := rfl
@[simp] theorem m_nCompD {ci : CI} {t : Tg} {vs : List Nat} {tt : CB} {tk tv : CE} {Q : MO → Store → Prop} : Post (nCompD ci t vs tt tk tv en M) Q E = Post (ci en M) (kCompD t vs tt tk tv en Q E) E := by
  simp only [nCompD, Post_bind_eq, Post_ite]
  rfl
abbrev QDc := List Key × List D → Store → Prop
section
variable (t : Tg) (tt : CB) (tk tv : CE) (en en1 : En) (xs : List D) (ks : List Key) (vs : List D) (Q : QDc) (E : Str → List (Str × D) → Store → Prop)
def kDz (v : D) (key : Key) (M : Store) : Prop := Post (compD t [] tt tk tv en xs (dput ks vs key v).1 (dput ks vs key v).2 M) Q E
def kDv (kd v : D) (M : Store) : Prop := PV (keyD kd) M (kDz t tt tk tv en xs ks vs Q E v)
def kDk (kd : D) (M : Store) : Prop := Post (tv en1 M) (kDv t tt tk tv en xs ks vs Q E kd) kNo
def kDt (k : Bool) (M : Store) : Prop := match k with | true => Post (tk en1 M) (kDk t tt tk tv en en1 xs ks vs Q E) kNo | false => Post (compD t [] tt tk tv en xs ks vs M) Q E
def kDp (en1 : En) (M : Store) : Prop := Post (tt en1 M) (kDt t tt tk tv en en1 xs ks vs Q E) kNo
@[simp] theorem kDz_app {v : D} {key : Key} {M : Store} : kDz t tt tk tv en xs ks vs Q E v key M = Post (compD t [] tt tk tv en xs (dput ks vs key v).1 (dput ks vs key v).2 M) Q E := rfl
@[simp] theorem kDv_app {kd v : D} {M : Store} : kDv t tt tk tv en xs ks vs Q E kd v M = PV (keyD kd) M (kDz t tt tk tv en xs ks vs Q E v) := rfl
@[simp] theorem kDk_app {kd : D} {M : Store} : kDk t tt tk tv en en1 xs ks vs Q E kd M = Post (tv en1 M) (kDv t tt tk tv en xs ks vs Q E kd) kNo := rfl
@[simp] theorem kDt_t {M : Store} : kDt t tt tk tv en en1 xs ks vs Q E true M = Post (tk en1 M) (kDk t tt tk tv en en1 xs ks vs Q E) kNo := rfl
@[simp] theorem kDt_f {M : Store} : kDt t tt tk tv en en1 xs ks vs Q E false M = Post (compD t [] tt tk tv en xs ks vs M) Q E := rfl
@[simp] theorem kDp_app {en1 : En} {M : Store} : kDp t tt tk tv en xs ks vs Q E en1 M = Post (tt en1 M) (kDt t tt tk tv en en1 xs ks vs Q E) kNo := rfl
end
@[simp] theorem m_compD_nil {t : Tg} {tt : CB} {tk tv : CE} {ks : List Key} {vs : List D} {Q : QDc} : Post (compD t [] tt tk tv en [] ks vs M) Q E = Q (ks, vs) M := by
  unfold compD
  simp
end
section
variable {i : Int} {x : Str} {b : Bool} {xs : List D} {ks : List Key}
@[simp] theorem isi_int_non : isi1 .int .non = some (.bl false) := rfl
@[simp] theorem isi_int_bl : isi1 .int (.bl b) = some (.bl true) := rfl
@[simp] theorem isi_int_int : isi1 .int (.int i) = some (.bl true) := rfl
@[simp] theorem isi_int_str : isi1 .int (.str x) = some (.bl false) := rfl
@[simp] theorem isi_int_tup : isi1 .int (.tup xs) = some (.bl false) := rfl
@[simp] theorem isi_int_lst : isi1 .int (.lst xs) = some (.bl false) := rfl
@[simp] theorem isi_int_dic : isi1 .int (.dic ks xs) = some (.bl false) := rfl
@[simp] theorem isi_bool_non : isi1 .bool .non = some (.bl false) := rfl
@[simp] theorem isi_bool_bl : isi1 .bool (.bl b) = some (.bl true) := rfl
@[simp] theorem isi_bool_int : isi1 .bool (.int i) = some (.bl false) := rfl
@[simp] theorem isi_bool_str : isi1 .bool (.str x) = some (.bl false) := rfl
@[simp] theorem isi_bool_tup : isi1 .bool (.tup xs) = some (.bl false) := rfl
@[simp] theorem isi_bool_lst : isi1 .bool (.lst xs) = some (.bl false) := rfl
@[simp] theorem isi_bool_dic : isi1 .bool (.dic ks xs) = some (.bl false) := rfl
@[simp] theorem isi_str_non : isi1 .str .non = some (.bl false) := rfl
@[simp] theorem isi_str_bl : isi1 .str (.bl b) = some (.bl false) := rfl
@[simp] theorem isi_str_int : isi1 .str (.int i) = some (.bl false) := rfl
@[simp] theorem isi_str_str : isi1 .str (.str x) = some (.bl true) := rfl
@[simp] theorem isi_str_tup : isi1 .str (.tup xs) = some (.bl false) := rfl
@[simp] theorem isi_str_lst : isi1 .str (.lst xs) = some (.bl false) := rfl
@[simp] theorem isi_str_dic : isi1 .str (.dic ks xs) = some (.bl false) := rfl
@[simp] theorem isi_tuple_non : isi1 .tuple .non = some (.bl false) := rfl
@[simp] theorem isi_tuple_bl : isi1 .tuple (.bl b) = some (.bl false) := rfl
@[simp] theorem isi_tuple_int : isi1 .tuple (.int i) = some (.bl false) := rfl
@[simp] theorem isi_tuple_str : isi1 .tuple (.str x) = some (.bl false) := rfl
@[simp] theorem isi_tuple_tup : isi1 .tuple (.tup xs) = some (.bl true) := rfl
@[simp] theorem isi_tuple_lst : isi1 .tuple (.lst xs) = some (.bl false) := rfl
@[simp] theorem isi_tuple_dic : isi1 .tuple (.dic ks xs) = some (.bl false) := rfl
@[simp] theorem isi_list_non : isi1 .list .non = some (.bl false) := rfl
@[simp] theorem isi_list_bl : isi1 .list (.bl b) = some (.bl false) := rfl
@[simp] theorem isi_list_int : isi1 .list (.int i) = some (.bl false) := rfl
@[simp] theorem isi_list_str : isi1 .list (.str x) = some (.bl false) := rfl
@[simp] theorem isi_list_tup : isi1 .list (.tup xs) = some (.bl false) := rfl
@[simp] theorem isi_list_lst : isi1 .list (.lst xs) = some (.bl true) := rfl
@[simp] theorem isi_list_dic : isi1 .list (.dic ks xs) = some (.bl false) := rfl
@[simp] theorem isi_dict_non : isi1 .dict .non = some (.bl false) := rfl
@[simp] theorem isi_dict_bl : isi1 .dict (.bl b) = some (.bl false) := rfl
@[simp] theorem isi_dict_int : isi1 .dict (.int i) = some (.bl false) := rfl
@[simp] theorem isi_dict_str : isi1 .dict (.str x) = some (.bl false) := rfl
@[simp] theorem isi_dict_tup : isi1 .dict (.tup xs) = some (.bl false) := rfl
@[simp] theorem isi_dict_lst : isi1 .dict (.lst xs) = some (.bl false) := rfl
@[simp] theorem isi_dict_dic : isi1 .dict (.dic ks xs) = some (.bl true) := rfl
@[simp] theorem isi2_lt_non : isi2 .list .tuple .non = some (.bl false) := rfl
@[simp] theorem isi2_lt_bl : isi2 .list .tuple (.bl b) = some (.bl false) := rfl
@[simp] theorem isi2_lt_int : isi2 .list .tuple (.int i) = some (.bl false) := rfl
@[simp] theorem isi2_lt_str : isi2 .list .tuple (.str x) = some (.bl false) := rfl
@[simp] theorem isi2_lt_tup : isi2 .list .tuple (.tup xs) = some (.bl true) := rfl
@[simp] theorem isi2_lt_lst : isi2 .list .tuple (.lst xs) = some (.bl true) := rfl
@[simp] theorem isi2_lt_dic : isi2 .list .tuple (.dic ks xs) = some (.bl false) := rfl
end
end DL

/-! DL32: the set of a dict's keys; == and != of two sets of texts. -/
namespace DL
open PySem PySem.Spec PyProof.Rows L2
section
variable {P : Program} {w : World} {A : Around} {E : Value → Shared → Prop} {s : Shared} {a : Addr}
open AutoSeq1 (wpAny_loadPart')
set_option maxRecDepth 100000 in
set_option maxHeartbeats 3200000 in
end
end DL

/-! DL33: == and != of two sets of texts. -/
namespace DL
open PySem PySem.Spec PyProof.Rows L2
section
variable {P : Program} {w : World} {A : Around} {E : Value → Shared → Prop} {s : Shared} {p q : Addr} {S T : Str → Bool} {n m : Nat}
theorem SetX.typeIs (R : SetX P w s.heap p S n) : s.TypeIs (.ref p) "set" := by
  obtain ⟨o, es, ep, t, ho, hx, _⟩ := R
  exact ⟨o, ho, hx.1⟩
end
end DL

/-! DL34: set(a) != set(b). -/
namespace DL
open PySem PySem.Spec PyProof.Rows L2
def kset (d : D) : Option (List Str) := match d with
  | .dic ks _ => (strKeys ks).bind fun z => if z.length < 64 then some z else none
  | .lst xs => (strsD xs).bind fun z => if z.length < 64 then some z else none
  | _ => none
def sameS (za zc : List Str) : Bool := za.all (fun x => decide (x ∈ zc)) && zc.all (fun x => decide (x ∈ za))
def eSetNe (h1 h2 : CH) : CE := fun en M => (h1 en M).bind fun a M1 => (ofO ((vw en M1 a).bind kset) M1).bind fun za M1' => (h2 en M1').bind fun c M2 => (ofO ((vw en M2 c).bind kset) M2).bind fun zc M3 => .ok (.bl (!(sameS za zc))) M3
section
variable {X : Cx} {ct : CT} {b : Base} {W : WX} {e1 e2 : Expr} {pos : Pos}
/-- what set(..) is handed -/
def KsAt (K : PySem.W.Frag) (H : Hp) (a : Addr) (xs : List Str) : Prop := SqL K H a (xs.map V.str) ∨ ∃ kvs : List (Key × V), Rd H a (.dK kvs) ∧ kvs.map (·.1) = xs.map Sum.inr
def rSetNe (P : Program) (w : World) : R2 := fun x y H Q => ∃ (p q : Addr) (xs ys : List Str), x = .ref p ∧ y = .ref q ∧ H p = some (SetTXO P w p xs) ∧ H q = some (SetTXO P w q ys) ∧ Q (.bl (!(sameS xs ys))) H
def bSetNe (h1 h2 : CH) : CB := fun en M => (eSetNe h1 h2 en M).bind fun d M => match d with
  | .bl k => .ok k M
  | _ => .err
end
section
variable {en : En} {M : Store} {E : Str → List (Str × D) → Store → Prop}
def kSN2 (za : List Str) (en : En) (Q : D → Store → Prop) (c : Hd) (M : Store) : Prop := PV ((vw en M c).bind kset) M fun zc M => Q (.bl (!(sameS za zc))) M
@[simp] theorem kSN2_app {za : List Str} {Q : D → Store → Prop} {c : Hd} : kSN2 za en Q c M = PV ((vw en M c).bind kset) M fun zc M => Q (.bl (!(sameS za zc))) M := rfl
def kSN1b (h2 : CH) (en : En) (Q : D → Store → Prop) (E : Str → List (Str × D) → Store → Prop) (za : List Str) (M : Store) : Prop := Post (h2 en M) (kSN2 za en Q) E
@[simp] theorem kSN1b_app {h2 : CH} {za : List Str} {Q : D → Store → Prop} : kSN1b h2 en Q E za M = Post (h2 en M) (kSN2 za en Q) E := rfl
def kSN1 (h2 : CH) (en : En) (Q : D → Store → Prop) (E : Str → List (Str × D) → Store → Prop) (a : Hd) (M : Store) : Prop := PV ((vw en M a).bind kset) M (kSN1b h2 en Q E)
@[simp] theorem kSN1_app {h2 : CH} {Q : D → Store → Prop} {a : Hd} : kSN1 h2 en Q E a M = PV ((vw en M a).bind kset) M (kSN1b h2 en Q E) := rfl
@[simp] theorem m_eSetNe {h1 h2 : CH} {Q : D → Store → Prop} : Post (eSetNe h1 h2 en M) Q E = Post (h1 en M) (kSN1 h2 en Q E) E := by
  simp only [eSetNe, Post_bind_eq]
  congr 1
  funext a M1
  rw [Post_ofO, kSN1_app]
  congr 1
  funext za M1'
  rw [kSN1b_app]
  congr 1
  funext c M2
  rw [Post_ofO]
  rfl
def kSB (Q : Bool → Store → Prop) (d : D) (M : Store) : Prop := match d with | .bl k => Q k M | _ => False
@[simp] theorem kSB_app {k : Bool} {Q : Bool → Store → Prop} : kSB Q (.bl k) M = Q k M := rfl
@[simp] theorem m_bSetNe {h1 h2 : CH} {Q : Bool → Store → Prop} : Post (bSetNe h1 h2 en M) Q E = Post (eSetNe h1 h2 en M) (kSB Q) E := by
  simp only [bSetNe, Post_bind_eq]
  congr 1
  funext d M1
  cases d <;> rfl
end
end DL

/-! DL35: list(d.items()). -/
namespace DL
open PySem PySem.Spec PyProof.Rows L2 LiI
def d0 : Obj := { cls := .type "tuple", data := .seq #[] }
/-- the tuples locked -/
def lockT (h : Heap) (as : List Addr) (H : Hp) : Hp := fun b => if b ∈ as then (H b).map (fun u => .frz ((h.get? b).getD d0) u) else H b
section
variable {X : Cx} {e : Expr} {te : TE} {p apos cpos pos : Pos}
def rItemsF : V → Hp → VK → Prop := fun x H Q => ∃ (d : Addr) (kvs : List (Key × V)), x = .ref d ∧ Rd H d (.dK kvs) ∧
  ∀ (H' : Hp) (p : Addr) (ts : List Addr), (∀ b o, H b = some o → H' b = some o) → H p = none → (∀ t ∈ ts, H t = none) → H' p = some (.lst (ts.map V.ref)) → Paired (fun (t : Addr) (q : Key × V) => ∃ o, o.dict = none ∧ H' t = some (.frz o (.tup [kV q.1, q.2]))) ts kvs → Q (.ref p) H'
end
section
variable {K : PySem.W.Frag} {ct : CT} {w : Wd} {M : Store} {H H' : Hp}
/-- more things that stand for ever -/
theorem Rl.grow (r : Rl K ct w M H) (k : ∀ b o, H b = some o → H' b = some o) (F' : Hp) (hF : ∀ b, F' b = w.F b ∨ (H b = none ∧ F' b = H' b)) (hn : ∀ b o, F' b = some o → NiceH o) :
    Step w H ⟨w.ρ, F'⟩ H' ∧ Rl K ct ⟨w.ρ, F'⟩ M H' := by
  have keepF : ∀ b o, H b = some o → F' b = w.F b := fun b o e => by
    rcases hF b with h | ⟨h, _⟩
    · exact h
    · rw [e] at h
      cases h
  have sF : Same w.F F' := fun b u e => by
    have hb : ∃ o, H b = some o := by
      cases q : H b with
      | some o => exact ⟨o, rfl⟩
      | none =>
        rw [r.sub.free q] at e
        cases e
    obtain ⟨o, ho⟩ := hb
    rw [keepF b o ho]
    exact e
  have st : Step w H ⟨w.ρ, F'⟩ H' := ⟨List.prefix_refl _, sF, fun a u h1 _ h2 h3 => ⟨k a u h1, (keepF a u h1).trans h2, h3⟩⟩
  refine ⟨st, fun b u e => ?_, r.len, r.nd, fun n u e => ?_, fun b u e => hn b u e, r.tabs.ext k⟩
  · have e' : F' b = some u := e
    rcases hF b with h | ⟨_, h⟩
    · rw [h] at e'
      rcases r.sub b u e' with z | ⟨z, ob, z2⟩
      · exact .inl (k _ _ z)
      · exact .inr ⟨z, ob, k _ _ z2⟩
    · rw [h] at e'
      exact .inl e'
  · obtain ⟨a, ho, h1, h2, h3, h4⟩ := r.mo n u e
    exact ⟨a, ho, h1, (keepF a ho h3).trans h2, k a ho h3, st.repO h4⟩
end
/-- list(d.items()) -/
def eItemsL (f : CE) : CE := fun en M => (f en M).bind fun d M1 => match d with
  | .dic ks xs => if ks.length = xs.length then .ok (.lst (zipD (ks.map dK) xs)) M1 else .err
  | _ => .err
section
variable {X : Cx} {ct : CT} {b : Base} {W : WX} {e : Expr} {p apos cpos pos : Pos}
end
section
variable {en : En} {M : Store} {E : Str → List (Str × D) → Store → Prop}
def kItemsL (Q : D → Store → Prop) (d : D) (M : Store) : Prop := match d with | .dic ks xs => ks.length = xs.length ∧ Q (.lst (zipD (ks.map dK) xs)) M | _ => False
@[simp] theorem kItemsL_app {Q : D → Store → Prop} {ks : List Key} {xs : List D} : kItemsL Q (.dic ks xs) M = (ks.length = xs.length ∧ Q (.lst (zipD (ks.map dK) xs)) M) := rfl
@[simp] theorem m_eItemsL {f : CE} {Q : D → Store → Prop} : Post (eItemsL f en M) Q E = Post (f en M) (kItemsL Q) E := by
  simp only [eItemsL, Post_bind_eq]
  congr 1
  funext d M1
  cases d <;> first | rfl | exact Post_ite
end
end DL

/-! DL36: list(d.values()). -/
namespace DL
open PySem PySem.Spec PyProof.Rows L2 LiI
def rValsF : V → Hp → VK → Prop := fun x H Q => ∃ (d : Addr) (kvs : List (Key × V)), x = .ref d ∧ Rd H d (.dK kvs) ∧ ∀ q, H q = none → Q (.ref q) (upd H q (.lst (kvs.map (·.2))))
section
variable {X : Cx} {e : Expr} {te : TE} {p apos cpos pos : Pos}
end
/-- list(d.values()) -/
def eValsL (f : CE) : CE := fun en M => (f en M).bind fun d M1 => match vwD M1 d with
  | some (.dic ks xs) => if ks.length = xs.length then .ok (.lst xs) M1 else .err
  | _ => .err
section
variable {X : Cx} {ct : CT} {b : Base} {W : WX} {e : Expr} {p apos cpos pos : Pos}
end
section
variable {en : En} {M : Store} {E : Str → List (Str × D) → Store → Prop}
def kValsV (Q : D → Store → Prop) (v : Option D) (M : Store) : Prop := match v with | some (.dic ks xs) => ks.length = xs.length ∧ Q (.lst xs) M | _ => False
def kValsL (Q : D → Store → Prop) (d : D) (M : Store) : Prop := kValsV Q (vwD M d) M
@[simp] theorem kValsV_app {Q : D → Store → Prop} {ks : List Key} {xs : List D} : kValsV Q (some (.dic ks xs)) M = (ks.length = xs.length ∧ Q (.lst xs) M) := rfl
@[simp] theorem kValsL_app {Q : D → Store → Prop} {ks : List Key} {xs : List D} : kValsL Q (.dic ks xs) M = (ks.length = xs.length ∧ Q (.lst xs) M) := rfl
@[simp] theorem kValsL_ref {Q : D → Store → Prop} {n : Nat} : kValsL Q (.ref n) M = kValsV Q (vwR (gt M n) n) M := by
  unfold kValsL
  rw [vwD_ref]
@[simp] theorem m_eValsL {f : CE} {Q : D → Store → Prop} : Post (eValsL f en M) Q E = Post (f en M) (kValsL Q) E := by
  simp only [eValsL, Post_bind_eq]
  congr 1
  funext d M1
  unfold kValsL kValsV
  split <;> first | rfl | exact Post_ite
end
end DL

/-! DL37: a new thing made while a dict of the store is locked: inside, the dict stands as a frozen one. -/
namespace DL
open PySem PySem.Spec PyProof.Rows L2
/-- data without places -/
def flat : D → Bool
  | .non => true
  | .bl _ => true
  | .int _ => true
  | .str _ => true
  | _ => false
def plainD : D → Bool
  | .dic _ xs => xs.all flat
  | .lst xs => xs.all flat
  | d => flat d
def flatO : MO → Bool
  | .dic _ xs => xs.all flat
  | .lst xs => xs.all flat
  | _ => false
def hide1 : Option Slot → Option Slot
  | some (.val d) => if plainD d then some (.val d) else none
  | _ => none
def hide (en : En) : En := en.map hide1
/-- the dict in slot i, a thing of the store, is locked while f runs; f sees flat data alone -/
def nLk (i : Nat) (f : CN) : CN := fun en M => match en[i]? with
  | some (some (.val (.ref n))) => match M[n]? with
    | some (.dic ks xs) => if xs.all flat then (match f (hide (en.set i (some (.val (.dic ks xs))))) [] with
        | .ok o [] => if flatO o then .ok o M else .err
        | _ => .err) else .err
    | _ => .err
  | _ => f en M
section
variable {K : PySem.W.Frag} {w w' : Wd}
end
section
variable {X : Cx} {ct : CT} {b : Base} {W : WX} {e : Expr} {i : Nat} {f : CN}
end
section
variable {i : Nat} {f : CN} {en : En} {M : Store}
end
/-- x, y = two new things, the frame's own -/
def parO (i j : Nat) (f g : CN) : CS := fun en M => thenN (f en M) en fun o1 M1 => thenN (g en M1) en fun o2 M2 => .ok (.next ((en.set i (some (.own o1))).set j (some (.own o2)))) M2
section
variable {X : Cx} {ct : CT} {b : Base} {W : WX} {e1 e2 : Expr} {pos : Pos}
end
section
variable {en : En} {M : Store} {E : EX} {Q : QF}
def kParO1 (i j : Nat) (g : CN) (en : En) (Q : QF) (o1 : MO) (M : Store) : Prop := Post (g en M) (fun o2 M2 => Q (.next ((en.set i (some (.own o1))).set j (some (.own o2)))) M2) (kEx en Q)
@[simp] theorem kParO1_app {i j : Nat} {g : CN} {o1 : MO} : kParO1 i j g en Q o1 M = Post (g en M) (fun o2 M2 => Q (.next ((en.set i (some (.own o1))).set j (some (.own o2)))) M2) (kEx en Q) := rfl
@[simp] theorem m_parO {i j : Nat} {f g : CN} : Post (parO i j f g en M) Q E = Post (f en M) (kParO1 i j g en Q) (kEx en Q) := by
  simp only [parO, Post_thenN]
  rfl
end
end DL

/-! DL38: enumerate of a dict that stands for ever. -/
namespace DL
open PySem PySem.Spec PyProof.Rows L2
section
variable {prog : Program} {w : World} {A : Around} {E : Value → Shared → Prop} {s : Shared}
theorem nextOf_key_item {it d : Addr} {i n ep : Nat} {od : Obj} {es : Array DictEntry} {en : DictEntry} {Q : Value → Shared → Prop} (hit : s.heap.IsKeyIter it d i n ep) (hod : s.heap.get? d = some od) (hdd : od.data = .dict es ep)
    (hsz : es.size = n) (hx : es[i]? = some en) (hQ : ∀ h', h'.IsKeyIter it d (i + 1) n ep → Heap.SameBut it s.heap h' → Q en.key { s with heap := h' }) : wpAny (model prog w) A (Builtin.SmallTypes.nextOf (.ref it)) Q E s := by
  obtain ⟨o, ho, hc, hd⟩ := id hit
  unfold Builtin.SmallTypes.nextOf
  refine wpAny_bind (wpAny_callSpecial?_slot (name := Str.ofString "__next__") hit.typeIs F.slot_dict_keyiterator_next
    (wpAny_call_entry F.slot_dict_keyiterator_next hit.typeIs F.entry_dict_keyiterator_next ?_ (F.args_dict_keyiterator_next_1 _)))
  refine wpAny_bind (wpAny_pure ?_)
  refine wpAny_bind ?_
  refine wpAny_bind ?_
  first | refine wpAny_bind (wpAny_typeNameOfWhole_keyiter hit.typeIs (wpAny_pure ?_)) | refine wpAny_bind (wpAny_typeNameOf_keyiter hit.typeIs (wpAny_pure ?_))
  refine wpAny_bind (wpAny_fieldsOf ho hd ?_)
  have hown : Builtin.Dict_items.ownsTuple "dict_keyiterator" = false := by decide
  simp only [hown, Bool.false_eq_true, if_false]
  show wpAny _ _ (if (Value.ref d == Value.none) = true then _ else _) _ _ s
  rw [if_neg (show ¬ ((Value.ref d == Value.none) = true) from Bool.false_ne_true)]
  refine wpAny_bind (wpAny_pure ?_)
  refine wpAny_bind (wpAny_dictEntries hod hdd ?_)
  rw [if_neg (by rw [hsz]; simp)]
  refine wpAny_bind (wpAny_pure ?_)
  refine wpAny_bind (wpAny_dictEpoch hod hdd ?_)
  rw [if_neg (by simp)]
  refine wpAny_pure ?_
  obtain ⟨hlt', hen⟩ := Array.getElem?_eq_some_iff.mp hx
  simp only [show ¬ ((i : Int) < 0) from by omega, if_false, Int.toNat_natCast, Array.getElem?_eq_getElem hlt']
  refine wpAny_bind ?_
  first | refine wpAny_bind (wpAny_typeNameOfWhole_keyiter hit.typeIs (wpAny_pure ?_)) | refine wpAny_bind (wpAny_typeNameOf_keyiter hit.typeIs (wpAny_pure ?_))
  refine wpAny_bind (wpAny_isOneOf_keyiter hit.typeIs ?_)
  show wpAny _ _ (setField (.ref it) 1 (rawInt ((i : Int) + 1)) >>= _) _ _ s
  refine wpAny_bind (wpAny_setField ho hd (by simp) ?_)
  have hit' : (s.heap.update it (Obj.mapFields (·.setIfInBounds 1 (rawInt ((i : Int) + 1))))).IsKeyIter it d (i + 1) n ep :=
    ⟨_, Heap.get?_update_self _ ho (Obj.isFreed_of_fields (Obj.data_mapFields hd _)), (Obj.cls_mapFields ..).trans hc, by rw [Obj.data_mapFields hd]; simp [rawInt]⟩
  refine wpAny_bind (wpAny_holding ?_)
  refine wpAny_bind (wpAny_isOneOf_keyiter (s := { s with heap := s.heap.update it (Obj.mapFields (·.setIfInBounds 1 (rawInt ((i : Int) + 1)))) }) hit'.typeIs ?_)
  show wpAny _ _ (pure es[i].key) _ _ _
  rw [hen]
  exact wpAny_pure (wpAny_pure ⟨_, rfl, wpAny_pure (hQ _ hit' (Heap.SameBut.update ..))⟩)
theorem nextOf_key_end {it d : Addr} {i n ep : Nat} {od : Obj} {es : Array DictEntry} {Q : Value → Shared → Prop} (hh : A.handled = none) (hit : s.heap.IsKeyIter it d i n ep) (hod : s.heap.get? d = some od) (hdd : od.data = .dict es ep)
    (hsz : es.size = n) (hge : n ≤ i) (hE : ∀ h' e, Heap.ExtBut it s.heap h' → (∃ o, h'.get? e = some o ∧ o.cls = .type "StopIteration") → E (.ref e) { s with heap := h' }) : wpAny (model prog w) A (Builtin.SmallTypes.nextOf (.ref it)) Q E s := by
  obtain ⟨o, ho, hc, hd⟩ := id hit
  unfold Builtin.SmallTypes.nextOf
  refine wpAny_bind (wpAny_callSpecial?_slot (name := Str.ofString "__next__") hit.typeIs F.slot_dict_keyiterator_next
    (wpAny_call_entry F.slot_dict_keyiterator_next hit.typeIs F.entry_dict_keyiterator_next ?_ (F.args_dict_keyiterator_next_1 _)))
  refine wpAny_bind (wpAny_pure ?_)
  refine wpAny_bind ?_
  refine wpAny_bind ?_
  first | refine wpAny_bind (wpAny_typeNameOfWhole_keyiter hit.typeIs (wpAny_pure ?_)) | refine wpAny_bind (wpAny_typeNameOf_keyiter hit.typeIs (wpAny_pure ?_))
  refine wpAny_bind (wpAny_fieldsOf ho hd ?_)
  have hown : Builtin.Dict_items.ownsTuple "dict_keyiterator" = false := by decide
  simp only [hown, Bool.false_eq_true, if_false]
  show wpAny _ _ (if (Value.ref d == Value.none) = true then _ else _) _ _ s
  rw [if_neg (show ¬ ((Value.ref d == Value.none) = true) from Bool.false_ne_true)]
  refine wpAny_bind (wpAny_pure ?_)
  refine wpAny_bind (wpAny_dictEntries hod hdd ?_)
  rw [if_neg (by rw [hsz]; simp)]
  refine wpAny_bind (wpAny_pure ?_)
  refine wpAny_bind (wpAny_dictEpoch hod hdd ?_)
  rw [if_neg (by simp)]
  refine wpAny_pure ?_
  have hge' : es.size ≤ i := by rw [hsz]; exact hge
  simp only [show ¬ ((i : Int) < 0) from by omega, if_false, Int.toNat_natCast, Array.getElem?_eq_none hge']
  refine wpAny_bind ?_
  first | refine wpAny_bind (wpAny_typeNameOfWhole_keyiter hit.typeIs (wpAny_pure ?_)) | refine wpAny_bind (wpAny_typeNameOf_keyiter hit.typeIs (wpAny_pure ?_))
  show wpAny _ _ (setField (.ref it) 0 .none >>= _) _ _ s
  refine wpAny_bind (wpAny_setField ho hd (by simp) ?_)
  show wpAny _ _ (newExc (.type "StopIteration") [] >>= _) _ _ _
  refine wpAny_bind ?_
  simp only [newExc, newTuple]
  refine wpAny_bind (wpAny_newObj_type ?_ (by size_fits))
  refine wpAny_bind (m := firstArgMember _ _) (wpAny_of_eq (a := Value.none) (by first | rfl | (simp only [firstArgMember]; rfl)) ?_)
  refine wpAny_newObj_type ?_ (by size_fits)
  simp only [raiseNew]
  refine wpAny_bind (wpAny_handled ?_)
  first | rw [show A.in1.handled = none from hh] | rw [hh]
  refine wpAny_bind (wpAny_pure (wpAny_throw ?_))
  exact hE _ _ (((Heap.SameBut.update ..).extBut.push _).push _) ⟨_, Heap.get?_push_size _ rfl, rfl⟩
theorem Draws.keys (hh : A.handled = none) (it d : Addr) (hne : d ≠ it) {od : Obj} {es : Array DictEntry} {ep : Nat} (hdd : od.data = .dict es ep) :
    Draws prog w A it [it, d] es.size (fun i v => ∃ en, es[i]? = some en ∧ v = en.key) (fun i h => h.IsKeyIter it d i es.size ep ∧ h.get? d = some od) where
  live := fun _ _ st => let ⟨o, ho, _⟩ := st.1; ⟨o, ho⟩
  frame := fun _ _ _ st hk => ⟨st.1.at fun o e => hk it (by simp) o e, hk d (by simp) _ st.2⟩
  item := fun i s Q E hi st hQ => by
    refine nextOf_key_item st.1 st.2 hdd rfl (Array.getElem?_eq_getElem hi) fun h' hit' hs' => ?_
    exact hQ _ h' s.toks ⟨_, Array.getElem?_eq_getElem hi, rfl⟩ ⟨hit', (hs'.2 d hne).trans st.2⟩ hs'
  done := fun s Q E st hE => nextOf_key_end hh st.1 st.2 hdd rfl (Nat.le_refl _) hE
end
def iEnumKT (K : PySem.W.Frag) (ta : TA) : TI := fun σ H R => ta σ H fun vs H1 => ∃ d o kvs, vs = [.ref d] ∧ H1 d = some (.frz o (.dK kvs)) ∧ R (ItE K (kvs.map fun kv => kV kv.1) fun H => H d = some (.frz o (.dK kvs))) H1
/-- enumerate of a dict that stands for ever, else as iEnumD -/
def enK (M : Store) : D → Out (List D × List (D × D))
  | .dic ks _ => .ok (enumD 0 (ks.map dK), []) M
  | d => ofO ((vwD M d).bind fun v => (itemsE v).map fun xs => (enumD 0 xs, gdD d v)) M
def iEnumK (f : CA) : CI := fun en M => (f en M).bind fun ds M1 => match ds with
  | [d] => enK M1 d
  | _ => .err
section
variable {X : Cx} {ct : CT} {b : Base} {W : WX} {e : Expr} {pos : Pos}
end
/-! ### list(text) -/
def gListS : List D → Option MO
  | [.str z] => if z.cps.size ≤ sizeLine then some (.lst (signsD z)) else none
  | ds => gList ds
end DL

/-! DL39: a sum of two lists as a new list; d.pop(k) of a dict of the store. -/
namespace DL
open PySem PySem.Spec PyProof.Rows L2
def catL : D → D → Option MO
  | .lst xs, .lst ys => if xs.length + ys.length ≤ sizeLine then some (.lst (xs ++ ys)) else none
  | _, _ => none
def nCat (h1 h2 : CH) : CN := fun en M => (h1 en M).bind fun a M1 => (h2 en M1).bind fun c M2 => ofO ((vw en M2 a).bind fun x => (vw en M2 c).bind fun y => catL x y) M2
/-- the dict without a key -/
def dropD (k : Key) : List Key → List D → List Key × List D
  | j :: ks, x :: xs => if j = k then dropD k ks xs else (j :: (dropD k ks xs).1, x :: (dropD k ks xs).2)
  | _, _ => ([], [])
def eDPop (fo fk : CE) : CE := fun en M => (fo en M).bind fun o M1 => match o with
  | .ref n => match M1[n]? with
    | some (.dic _ _) => (fk en M1).bind fun k M2 => match M2[n]? with
      | some (.dic ks xs) => ofO ((keyD k).bind fun key => (dget ks xs key).map fun v => (v, dropD key ks xs)) M2 |>.bind fun r M3 => .ok r.1 (M3.set n (.dic r.2.1 r.2.2))
      | _ => .err
    | _ => .err
  | _ => .err
section
variable {X : Cx} {ct : CT} {b : Base} {W : WX} {e1 e2 o e : Expr} {pos apos cpos : Pos}
end
section
variable {en : En} {M : Store} {E : Str → List (Str × D) → Store → Prop}
def kCatB (en : En) (Q : MO → Store → Prop) (a c : Hd) (M : Store) : Prop := PV ((vw en M a).bind fun x => (vw en M c).bind fun y => catL x y) M Q
def kCatA (h2 : CH) (en : En) (Q : MO → Store → Prop) (E : Str → List (Str × D) → Store → Prop) (a : Hd) (M : Store) : Prop := Post (h2 en M) (kCatB en Q a) E
@[simp] theorem kCatB_app {Q : MO → Store → Prop} {a c : Hd} : kCatB en Q a c M = PV ((vw en M a).bind fun x => (vw en M c).bind fun y => catL x y) M Q := rfl
@[simp] theorem kCatA_app {h2 : CH} {Q : MO → Store → Prop} {a : Hd} : kCatA h2 en Q E a M = Post (h2 en M) (kCatB en Q a) E := rfl
@[simp] theorem m_nCat {h1 h2 : CH} {Q : MO → Store → Prop} : Post (nCat h1 h2 en M) Q E = Post (h1 en M) (kCatA h2 en Q E) E := by
  simp only [nCat, Post_bind_eq, Post_ofO]
  rfl
@[simp] theorem catL_lst {xs ys : List D} (h : xs.length + ys.length ≤ 16777216) : catL (.lst xs) (.lst ys) = some (.lst (xs ++ ys)) := by
  show (if xs.length + ys.length ≤ sizeLine then some (MO.lst (xs ++ ys)) else none) = _
  rw [sizeLine_eq, if_pos h]
end
end DL

/-! DL40: an expression with a flat answer while a dict of the store is locked; max of a list; loops over lists of the store. -/
namespace DL
open PySem PySem.Spec PyProof.Rows L2
def eLk (i : Nat) (f : CE) : CE := fun en M => match en[i]? with
  | some (some (.val (.ref n))) => match M[n]? with
    | some (.dic ks xs) => if xs.all flat then (match f (hide (en.set i (some (.val (.dic ks xs))))) [] with
        | .ok d [] => if flat d then .ok d M else .err
        | _ => .err) else .err
    | _ => .err
  | _ => f en M
section
variable {X : Cx} {ct : CT} {b : Base} {W : WX} {e : Expr} {i : Nat} {f : CE}
end
section
variable {i : Nat} {f : CE} {en : En} {M : Store}
theorem eLk_dic {ks : List Key} {xs : List D} (h : en[i]? = some (some (.val (.dic ks xs)))) : eLk i f en M = f en M := by
  unfold eLk
  rw [h]
end
/-! ### max of a list -/
def gMaxL : List D → Option D
  | [.int i, .int j] => some (.int (if j > i then j else i))
  | [.lst xs] => (intsD xs).bind fun ns => ns.max?.map D.int
  | _ => none
/-! ### loops over lists of the store -/
section
variable {en : En} {M : Store} {E : EX}
end
end DL

/-! DL41: name = {k: v for ..} on one line, also under a lock; a test of the form a if t else b. -/
namespace DL
open PySem PySem.Spec PyProof.Rows L2
section
variable {X : Cx}
/-- a if t else b as a test -/
def tIfT (t ta tb : TT) : TT := fun σ H Q => t σ H fun c H1 => if c = true then ta σ H1 Q else tb σ H1 Q
end
def bIf (c a b : CB) : CB := fun en M => (c en M).bind fun k M1 => if k = true then a en M1 else b en M1
section
variable {X : Cx} {ct : CT} {b : Base} {W : WX}
end
section
variable {en : En} {M : Store} {E : EX} {Q : Bool → Store → Prop}
def kIfB (a b : CB) (en : En) (Q : Bool → Store → Prop) (E : EX) (k : Bool) (M : Store) : Prop := match k with | true => Post (a en M) Q E | false => Post (b en M) Q E
@[simp] theorem kIfB_t {a b : CB} : kIfB a b en Q E true M = Post (a en M) Q E := rfl
@[simp] theorem kIfB_f {a b : CB} : kIfB a b en Q E false M = Post (b en M) Q E := rfl
@[simp] theorem m_bIf {c a b : CB} : Post (bIf c a b en M) Q E = Post (c en M) (kIfB a b en Q E) E := by
  simp only [bIf, Post_bind_eq]
  congr 1
  funext k M1
  cases k <;> rfl
end
section
variable {X : Cx} {ct : CT} {b : Base} {W : WX} {i j : Nat} {f : CN}
end
section
variable {X : Cx} {ct : CT} {b : Base} {W : WX} {i j : Nat} {f : CN} {st : Stmt} {T : L2.TS}
end
section
variable {X : Cx} {ct : CT} {b : Base} {W : WX} {R : RR} {ci : CI} {t : Tg} {tt : CB} {tk tv : CE} {kx vx tg iter : Expr} {ifs : List Expr} {scope : Scope} {own : List (Str × Nat)} {i j : Nat} {y : Str} {py pos spos : Pos}
end
end DL

/-! DL42: xs[::-1] of lists and tuples. -/
namespace DL
open PySem PySem.Spec PyProof.Rows L2
section
variable {prog : Program} {w : World} {A : Around} {E : Value → Shared → Prop} {s : Shared}
end
def tRev (K : PySem.W.Frag) (te : TE) : TE := fun σ H Q => te σ H fun x H1 =>
  (∃ a xs, x = .ref a ∧ SqL K H1 a xs ∧ ∀ p, H1 p = none → Q (.ref p) (upd H1 p (.lst xs.reverse))) ∨
  (∃ a xs, x = .ref a ∧ SqT K H1 a xs ∧ ∀ p o, H1 p = none → o.dict = none → Q (.ref p) (upd H1 p (.frz o (.tup xs.reverse))))
section
variable {X : Cx} {ct : CT} {b : Base} {W : WX} {e : Expr} {pos p1 p2 p3 : Pos} {k : Nat}
def gRev : D → Option D
  | .tup xs => some (.tup xs.reverse)
  | .lst xs => some (.lst xs.reverse)
  | _ => none
def eRev (h : CH) : CE := fun en M => (h en M).bind fun a M1 => ofO ((vw en M1 a).bind gRev) M1
end
def kRv (Q : D → Store → Prop) (en : En) (a : Hd) (M : Store) : Prop := PV ((vw en M a).bind gRev) M Q
@[simp] theorem kRv_app {Q : D → Store → Prop} {en : En} {a : Hd} {M : Store} : kRv Q en a M = PV ((vw en M a).bind gRev) M Q := rfl
@[simp] theorem m_eRev {h : CH} {en : En} {M : Store} {Q : D → Store → Prop} {E : EX} : Post (eRev h en M) Q E = Post (h en M) (kRv Q en) E := by
  simp only [eRev, Post_bind_eq, Post_ofO]
  rfl
@[simp] theorem gRev_tup {xs : List D} : gRev (.tup xs) = some (.tup xs.reverse) := rfl
@[simp] theorem gRev_lst {xs : List D} : gRev (.lst xs) = some (.lst xs.reverse) := rfl
end DL

/-! DL43: a list comprehension on one line as a thing of the store; divmod by a divisor of at most 9000 bits. -/
namespace DL
open PySem PySem.Spec PyProof.Rows L2
section
variable {X : Cx} {ct : CT} {b : Base} {W : WX}
theorem TND.alc {f : CN} {σ : L2.St} {H : Hp} {Q : VK} (h : TD X ct b W (alc f) σ H Q) : TND X ct b W f σ H Q := by
  obtain ⟨w, en, M, S, rl, p⟩ := h
  refine ⟨w, en, M, S, rl, (Post.bind p).imp (fun o M1 q w1 p1 ho H1 s1 r1 hp ro => ?_) fun _ _ _ q => q⟩
  obtain ⟨s2, r2⟩ := r1.alloc hp ro
  refine q _ _ _ (s1.trans s2) r2 ?_
  simp only [Rep]
  refine ⟨p1, rfl, ?_⟩
  show (w1.ρ ++ [p1])[M1.length]? = some p1
  rw [r1.len, List.getElem?_append_right (Nat.le_refl _)]
  simp
variable {R : RR} {ci : CI} {t : Tg} {tt : CB} {te : CE} {elt tg iter : Expr} {ifs : List Expr} {scope : Scope} {own : List (Str × Nat)} {i : Nat} {y : Str} {py pos spos : Pos}
end
def gDivmodS : List D → Option D
  | [.int i, .int j] => if 0 < j ∧ j.natAbs.log2 < 9000 then some (.tup [.int (i / j), .int (i % j)]) else none
  | _ => none
/-- list(script) too -/
def gListC : List D → Option MO
  | [.scr ns] => some (.lst (ns.map D.int))
  | ds => gList ds
end DL

/-! DL44: repr of a tuple with lists of the store; comprehensions over such lists. -/
namespace DL
open PySem PySem.Spec PyProof.Rows L2
def rfE (M : Store) (x : D) : D := (vwD M x).getD x
/-- a tuple's items, seen -/
def dpE (M : Store) : D → D
  | .tup ds => .tup (ds.map (rfE M))
  | d => d
def eRpM (f : CE) : CE := fun en M => (f en M).bind fun d M1 => ofO (gRp [dpE M1 d]) M1
section
variable {X : Cx} {ct : CT} {b : Base} {W : WX} {w : Wd} {M : Store} {pins : List (Addr × Obj)} {σ : L2.St} {H : Hp} {s : Shared} {pos : Pos}
def rRp (X : Cx) (ct : CT) : List V → Hp → VK → Prop := fun vs H Q => ∃ (w : Wd) (M : Store) (d : D) (v : V) (p : PyData), vs = [v] ∧ Rl X.K ct w M H ∧ Rep X.K w d v ∧ pyE (dpE M d) = some p ∧ (p.showable = true ∧ p.depth ≤ 60 ∧ p.shown.length ≤ sizeLine) ∧ Ok1 X.K ct w M H (.str p.shown) Q
end
section
variable {en : En} {M : Store} {E : EX}
def kRpM (Q : D → Store → Prop) (d : D) (M : Store) : Prop := PV (gRp [dpE M d]) M Q
@[simp] theorem kRpM_app {Q : D → Store → Prop} {d : D} : kRpM Q d M = PV (gRp [dpE M d]) M Q := rfl
@[simp] theorem m_eRpM {f : CE} {Q : D → Store → Prop} : Post (eRpM f en M) Q E = Post (f en M) (kRpM Q) E := by
  unfold eRpM
  rw [Post_bind_eq]
  congr 1
  funext d M1
  rw [Post_ofO]
  rfl
end
end DL

/-! DL45: an exception kept as a value behind its suite; a lambda handed to a def. -/
namespace DL
open PySem PySem.Spec PyProof.Rows L2
section
variable {X : Cx} {pins : List (Addr × Obj)} {σ : L2.St} {H : Hp} {s : Shared}
end
/-- what 'except x as n: y = n' wishes of an exception of the body -/
def wKeep (K : PySem.W.Frag) (c : Value) (i j : Nat) (D : Ends) : WX := fun cls d σ H =>
  PySem.W.exmOne K cls c = some true ∧ i < σ.length ∧ ∀ (a : Addr) (oe : Obj), H a = none → Zc cls d oe → (∃ ws, oe.data = .fields ws) → D.nx (((σ.set i (some (.ref a))).set j (some (.ref a))).set i none) (upd H a (.frz oe (.own 0)))
section
variable {X : Cx} {x n y : Str} {c : Value} {i j : Nat} {body : List Stmt} {np py pn2 pa pos pos' : Pos} {tb : WX → L2.TS}
end
end DL

/-! DL46: x(lambda: e): a lambda handed to a def that calls it once, in a try. -/
namespace DL
open PySem PySem.Spec PyProof.Rows L2
open LamX (CodeO Tabs ExtN TabB LamS lamEnv lamCx)

/-- the lambda's object, in the state of its maker -/
structure LamAt (X : Cx) (s : Shared) (H : Hp) (f c1 : Addr) (pr : Arguments) (bd : Expr) (sc : Scope) : Prop where
  obj : ∃ pm ctv : Value, s.heap.get? f = some (PySem.W.kla_obj "<lambda>" (X.env.qual ++ "<lambda>") pr bd sc
    (cloFrom X.env.cells sc.names []) pm c1 ctv)
  new : H f = none
  out : f ∉ frs X.stack
/-- no arguments are bound -/
def Bind0 (pr : Arguments) (bd : Expr) (sc : Scope) : Prop := ∀ (q : Str) (cl : List (Str × Addr)) (pm cv ctv : Value),
  bindArgs (PySem.W.kla_fn "<lambda>" q pr bd sc cl pm cv ctv) ⟨[], []⟩ = pure []
/-- the def's frame over its caller's -/
abbrev gCx (X : Cx) (Ng : List Str) (x : Str) (sg : Scope) (g : Addr) (cd : Value) (s : Shared) (H : Hp) : Cx :=
  cxOf C8.CX0 X.prog X.w X.K X.mg X.base Ng x sg g cd X.A X.stack s H C8.E0
section
variable {X : Cx} {pins : List (Addr × Obj)} {σ : L2.St} {H : Hp} {s : Shared}
/-- a def that calls what it got: what it gives by what the call does (tl: the call's reading) -/
def GivesG (X : Cx) (Ng : List Str) (x : Str) (sg : Scope) (g : Addr) (cd : Value) (bg : List Stmt) (a q : Str) (TT : (XK → Hp → VK → Prop) → Hp → VK → Prop) : Prop :=
  ∀ (f c1 : Addr) (s : Shared) (H : Hp) (Q : VK) (tl : XK → Hp → VK → Prop),
    (∀ (W : WX) (pn : List (Addr × Obj)) (xe : Value → Shared → Prop) (p1 p2 : Pos), Takes ((gCx X Ng x sg g cd s H).tr pn xe) W → PE ((gCx X Ng x sg g cd s H).tr pn xe) (.Call (.Name a p1) [] [] p2)
      (fun σZ HZ Q => σZ[0]? = some (some (.ref f)) ∧ HZ c1 = some (CodeO c1 q) ∧ tl (WE W σZ) HZ Q)) →
    H c1 = some (CodeO c1 q) → TT tl H Q →
    ∃ t, L2.PSs (gCx X Ng x sg g cd s H) bg t ∧ t { nx := fun _ H' => Q .non H', rt := Q } (L2.start Ng [.ref f]) H
end

/-! ### in data -/
abbrev AF := (Store → Out D) → Store → Out D
def SpO (K : PySem.W.Frag) (ct : CT) (w : Wd) (H : Hp) (o : Out D) (Q : VK) (E : XK) : Prop := Post o
  (fun d M' => ∀ w' v H', Step w H w' H' → Rl K ct w' M' H' → Rep K w' d v → Q v H')
  (fun c fs M' => ∀ w' cls dx H', Step w H w' H' → Rl K ct w' M' H' → ExV K ct w' c fs cls dx H' → E cls dx H')
/-- what a def cf makes of the call's reading -/
def TTd (K : PySem.W.Frag) (ct : CT) (cf : AF) : (XK → Hp → VK → Prop) → Hp → VK → Prop := fun tl H Q => ∃ (ac : Store → Out D) (w : Wd) (M : Store), Rl K ct w M H ∧
  (∀ (w2 : Wd) (M2 : Store) (H2 : Hp) (E : XK) (Q2 : VK), Step w H w2 H2 → Rl K ct w2 M2 H2 → SpO K ct w2 H2 (ac M2) Q2 E → tl E H2 Q2) ∧ SpO K ct w H (cf ac M) Q (fun _ _ _ => False)
structure LamDef (P : Program) (w : World) (K : PySem.W.Frag) (mg : Str → Option Value) (base : Heap) (ct : CT) (x : Str) (k : Nat) (cf : AF) : Prop where
  ex : ∃ (g : Addr) (pg : Arguments) (bg : List Stmt) (sg : Scope) (dV kV doc pm cdv cT oc : Value) (an od : Option Addr) (osl : Array (Option Value)) (Ng : List Str) (a : Str),
    mg x = some (.ref g) ∧ PySem.W.keepIn K (.ref g) = true ∧ K.lookup g = some ⟨oc, od, .func (PySem.W.fnOf x x pg bg sg dV kV doc pm an cdv cT), osl⟩ ∧ PySem.W.codeIn K cdv x = true ∧
    L2.Binds K (PySem.W.fnOf x x pg bg sg dV kV doc pm an cdv cT) [a] [] ∧ FnScope Ng [a] sg ∧ Ng[0]? = some a ∧ Vis sg a ∧ (a == ("__debug__" : Str)) = false ∧ (a == ("__classdict__" : Str)) = false ∧
    ∀ (X : Cx) (q : Str), X.prog = P → X.w = w → X.K = K → X.mg = mg → X.base = base → X.A.guards = some [] → Room (k + 1) X.A → GivesG X Ng x sg g cdv bg a q (TTd K ct cf)
def eLam (cf : AF) (te : CE) : CE := fun en M => match cf (fun M1 => te en M1) M with
  | .ok d M1 => .ok d M1
  | _ => .err
theorem Rl.ext {K : PySem.W.Frag} {ct : CT} {w : Wd} {M : Store} {H H1 : Hp} (r : Rl K ct w M H) (e : ExtN H H1) (t : Tabs ct.t H1) : Step w H w H1 ∧ Rl K ct w M H1 := by
  refine ⟨⟨List.prefix_refl _, Same.refl _, fun a o h ht h2 h3 => ⟨e a o h ht, h2, h3⟩⟩, fun b o q => ?_, r.len, r.nd, fun n o q => ?_, r.nice, t⟩
  · rcases r.sub b o q with z | ⟨z1, ob, z2⟩
    · exact .inl (e _ _ z (r.nice _ _ q).ntbl)
    · exact .inr ⟨z1, ob, e _ _ z2 fun ps z => nomatch z⟩
  · obtain ⟨a, ho, h1, h2, h3, h4⟩ := r.mo n o q
    exact ⟨a, ho, h1, h2, e _ _ h3 h4.niceH.ntbl, h4⟩
section
variable {X : Cx} {ct : CT} {b : Base} {W : WX}
end
end DL

/-! DL48: the law's call where tables of code objects grow. -/
namespace DL
open PySem PySem.Spec PyProof.Rows L2
open LamX (TabB)

/-- the abstract heap that the law starts from: the tables, the script perhaps -/
structure Start (K : PySem.W.Frag) (cs : List (Addr × Addr)) (a : Addr) (H : Hp) : Prop where
  tab : ∀ p ∈ cs, H p.2 = some (.tbl #[])
  low : ∀ b, H b = none ∨ (∃ p ∈ cs, b = p.2) ∨ (b = a ∧ K.lookup a = none ∧ ∃ o xs, H b = some (.frz o (.lst xs)))
section
variable {P : Program} {w : World} {K : PySem.W.Frag} {mg mb : Str → Option Value} {cs : List (Addr × Addr)} {a fa : Addr} {s₁ : Shared} {vs : List Value} {ns : List Int} {H : Hp}
/-- what the law's start knows of its state -/
structure LawSt (K : PySem.W.Frag) (mg mb : Str → Option Value) (cs : List (Addr × Addr)) (a : Addr) (vs : List Value) (s₁ : Shared) : Prop where
  kin : K.In s₁.heap
  gl : s₁.heap.Ns mainGlobals mg
  bl : s₁.heap.Ns builtinsNs mb
  bb : ∀ x : Str, x ≠ "__name__" → mb x = bootBuiltins x
  lim : s₁.heap.NoLimit
  gens : s₁.gens = #[]
  emp : ∀ p ∈ cs, s₁.heap.get? p.2 = some { cls := .none, data := .fields #[] }
  notK : ∀ p ∈ cs, K.lookup p.2 = none
  code : ∀ p ∈ cs, PySem.W.CodeHd s₁.heap p.1 p.2
  bmain : ∃ (bm : Addr) (ob : Obj), mg "__builtins__" = some (.ref bm) ∧ bm ≠ builtinsNs ∧ s₁.heap.get? bm = some ob ∧ ob.cls = .type "module" ∧ ob.dict = some builtinsNs ∧ ob.data = .plain
  scr : s₁.heap.get? a = some { cls := .type "list", data := .seq vs.toArray }
theorem LawSt.here (L : LawSt K mg mb cs a vs s₁) (S : Start K cs a H) {b : Addr} {o : Obj} (e : s₁.heap.get? b = some o) (h1 : ∀ xs n, o.data ≠ .seq xs n) (h2 : o.data ≠ .fields #[]) : (hidT s₁.heap H).get? b = some o := by
  refine hidT_get e ?_
  rcases S.low b with z | ⟨p, hp, z⟩ | ⟨z, _⟩
  · exact z
  · subst z
    rw [L.emp p hp] at e
    cases e
    exact absurd rfl h2
  · subst z
    rw [L.scr] at e
    cases e
    exact absurd rfl (h1 _ _)
theorem LawSt.hereNs (L : LawSt K mg mb cs a vs s₁) (S : Start K cs a H) {b : Addr} {m : Str → Option Value} (h : s₁.heap.Ns b m) : (hidT s₁.heap H).Ns b m := by
  obtain ⟨o, es, ep, e, d, r⟩ := h
  refine ⟨o, es, ep, L.here S e (fun xs n z => ?_) (fun z => ?_), d, r⟩
  · rw [d] at z
    cases z
  · rw [d] at z
    cases z
theorem LawSt.hereK (L : LawSt K mg mb cs a vs s₁) (S : Start K cs a H) : K.In (hidT s₁.heap H) := fun b o e => hidT_get (L.kin b o e) (by
  rcases S.low b with z | ⟨p, hp, z⟩ | ⟨z, hk, _⟩
  · exact z
  · rw [z, L.notK p hp] at e
    cases e
  · rw [z, hk] at e
    cases e)
theorem LawSt.mod (L : LawSt K mg mb cs a vs s₁) (S : Start K cs a H) : Mod K mg (hidT s₁.heap H) :=
  ⟨L.hereK S, L.hereNs S L.gl, ⟨mb, L.hereNs S L.bl, L.bb⟩, let ⟨mc, h1, h2⟩ := L.lim; ⟨mc, L.hereNs S h1, h2⟩⟩
theorem LawSt.tabs (L : LawSt K mg mb cs a vs s₁) (S : Start K cs a H) : ∀ p ∈ cs, TabB (hidT s₁.heap H) mg p.1 p.2 := fun p hp => by
  refine ⟨?_, ?_, fun z => ?_⟩
  · obtain ⟨o, us, file, tf, flags, tg, inF, text, tt, e1, r1, r2, r3, rest⟩ := L.code p hp
    refine ⟨o, us, file, tf, flags, tg, inF, text, tt, L.here S e1 (fun xs n z => ?_) (fun z => ?_), r1, r2, r3, rest⟩
    · rw [r2] at z
      cases z
    · rw [r2] at z
      cases z
      simp at r3
  · obtain ⟨bm, ob, b1, b2, b3, b4, b5, b6⟩ := L.bmain
    refine ⟨bm, ob, b1, b2, fun q => ?_, fun q => ?_, L.here S b3 (fun xs n z => ?_) (fun z => ?_), b4, b5, b6⟩
    · obtain ⟨o, es, ep, e, hd, _⟩ := L.gl
      rw [q, e] at b3
      cases b3
      rw [hd] at b6
      cases b6
    · rw [q, L.emp p hp] at b3
      cases b3
      cases b6
    · rw [b6] at z
      cases z
    · rw [b6] at z
      cases z
  · obtain ⟨o, es, ep, e, hd, _⟩ := L.gl
    rw [z, L.emp p hp] at e
    cases e
    cases hd
end
end DL

/-! DL47: the defs that call what they got in a try; defs that make lambdas. -/
namespace DL
open PySem PySem.Spec PyProof.Rows L2
open LamX (CodeO Tabs ExtN TabB LamS lamEnv lamCx)

/-- the call of what came, as a statement -/
def actS (ac : Store → Out D) : CS := fun en M => match ac M with
  | .ok _ M1 => .ok (.next en) M1
  | .exc c fs M1 => .ok (.exc c fs en) M1
  | .err => .err
/-- try: work() / except C as n: y = n -/
def keepS (ac : Store → Out D) (ok : Str → Option Bool) (j : Nat) : CS := fun en M => match ac M with
  | .ok _ M1 => .ok (.next en) M1
  | .exc c fs M1 => match ok c with
    | some true => .ok (.next (en.set j (some (.val (.ref M1.length))))) (M1 ++ [.exc c fs])
    | _ => .err
  | .err => .err
def retO : Out Fl → Out D
  | .ok (.ret d) M => .ok d M
  | .ok (.next _) M => .ok .non M
  | _ => .err
def enJ (N j : Nat) (d : D) : En := (List.replicate N none).set j (some (.val d))
def afKeep (N j : Nat) (ok : Str → Option Bool) (frest : CS) : AF := fun ac M => retO (seqS (keepS ac ok j) frest (enJ N j .non) M)
def afTry (N j : Nat) (ok : Str → Option Bool) (i : Nat) (h : Str → List (Str × D) → CS) (frest : CS) : AF := fun ac M => retO (seqS (tryS (actS ac) ok i h) frest (enJ N j .non) M)
section
variable {K : PySem.W.Frag} {ct : CT} {b : Base} {w : Wd} {H : Hp}
end
section
variable {X : Cx} {ct : CT} {w : Wd} {H : Hp} {Q : VK} {Z : Cx}
end
end DL

/-! DL49: text.index(sign); the machine's rules of lambdas. -/
namespace DL
open PySem PySem.Spec PyProof.Rows L2
section
variable {X : Cx} {ct : CT}
def gIndexS : Str → List D → Option D
  | z, [.str y] => ((Builtin.Str.occurrences z y 0 z.length 1).head?).map fun k => .int (k : Nat)
  | _, _ => none
end
/-! ### assembly -/
/-- the name of a lambda of the def x -/
abbrev lamQ (x : Str) : Str := x ++ ".<locals>." ++ "<lambda>"
def ctOfT (mg : Str → Option Value) (T : List (Addr × Str)) : CT := ⟨(ctOf mg).c, T, none⟩
/-! ### the machine -/
section
variable {α : Type} {en : En} {M : Store} {E : Str → List (Str × D) → Store → Prop}
/-- behind a lambda's call: an exception of it was caught there -/
@[simp] theorem m_eLam {cf : AF} {te : CE} {Q : D → Store → Prop} : Post (eLam cf te en M) Q E = Post (cf (fun M1 => te en M1) M) Q (fun _ _ _ => False) := by
  unfold eLam
  cases cf (fun M1 => te en M1) M <;> rfl
end
end DL

/-! DL50: comprehensions of two clauses: the machine of a dict's. -/
namespace DL
open PySem PySem.Spec PyProof.Rows L2

/-! ### the turns of {k: v for t0 in i0 if .. for t1 in i1 if ..} -/
section
variable (kx vx t0 i0 t1 i1 : Expr) (f0 f1 : List Expr) (sc : Scope) (ps : Pos)
abbrev dc2E : Expr := .DictComp kx vx [⟨t0, i0, f0, 0⟩, ⟨t1, i1, f1, 0⟩] sc ps
end
section
variable {prog : Program} {w : World} {A : Around} {R : Result → Shared → Prop} {s : Shared} {kx vx t0 i0 t1 i1 : Expr} {f0 f1 : List Expr} {sc : Scope} {ps : Pos} {it : Value} {D : Addr} {en : Env}
/-- what an exception in the block comes to -/
abbrev nEr (prog : Program) (w : World) (A : Around) (R : Result → Shared → Prop) (en : Env) : Value → Shared → Prop := notedBy (model prog w) A en fun z s => R (.error z) s
abbrev testsG (en : Env) (fs : List Expr) : Sem Bool := forIn fs true fun q r => if r = true then do let go ← isTrue q en (eval q en); pure (ForInStep.yield go) else pure (ForInStep.yield r)
end
end DL

/-! DL51: {k: v for t0 in i0 if .. for t1 in i1 if ..} as a value. -/
namespace DL
open PySem PySem.Spec PyProof.Rows L2
section
variable {X : Cx}
/-- what the inner walk of one outer turn asks: from a state of W1 on, each of its turns stores one item, its end reaches Nx -/
def InW (J1 : It) (g1 : TG) (tt1 : TT) (tk tv : TE) (vs1 : List Nat) (σ2 : L2.St) (D : Addr) (Nx : Hp → Prop) (W1 : Nat → Nat → Hp → Prop) : Prop := ∀ j k H, W1 j k H →
  (J1.stop j H ∧ Nx H) ∨ (J1.go j H ∧ ∃ Nx1 : Hp → Prop, (∀ H', Nx1 H' → ∃ k', k' < k ∧ W1 (j + 1) k' H') ∧ ∀ x H', J1.yld j H x H' → g1 x (wipe σ2 vs1) H' fun σ3 H5 => wipe σ3 vs1 = wipe σ2 vs1 ∧ tt1 σ3 H5 fun b H6 =>
    if b = true then tk σ3 H6 fun y H7 => tv σ3 H7 fun z H8 => ∃ kvs key, y = kV key ∧ H8 D = some (.dK kvs) ∧ kvs.length < sizeLine ∧ Nx1 (upd H8 D (.dK (putK kvs key z))) else Nx1 H6)
def OutW (J : It) (g : TG) (tt : TT) (wi1 : TI) (g1 : TG) (tt1 : TT) (tk tv : TE) (vs vs1 : List Nat) (σ : L2.St) (D : Addr) (Qd : Hp → Prop) (W : Nat → Nat → Hp → Prop) : Prop := ∀ i m H, W i m H →
  (J.stop i H ∧ Qd H) ∨ (J.go i H ∧ ∃ Nx : Hp → Prop, (∀ H', Nx H' → ∃ m', m' < m ∧ W (i + 1) m' H') ∧ ∀ x H', J.yld i H x H' → g x (wipe σ vs) H' fun σ2 H2 => wipe σ2 vs = wipe σ vs ∧ tt σ2 H2 fun b H3 =>
    if b = true then wi1 σ2 H3 fun J1 H4 => ∃ W1 : Nat → Nat → Hp → Prop, (∃ m, W1 0 m H4) ∧ InW J1 g1 tt1 tk tv vs1 σ2 D Nx W1 else Nx H3)
def tDc2 (wi : TI) (g : TG) (tt : TT) (wi1 : TI) (g1 : TG) (tt1 : TT) (tk tv : TE) (vs vs1 : List Nat) : TE := fun σ H Q => wi σ H fun J H1 => ∀ D, H1 D = none → ∃ W : Nat → Nat → Hp → Prop, (∃ m, W 0 m (upd H1 D (.dK []))) ∧ OutW J g tt wi1 g1 tt1 tk tv vs vs1 σ D (Q (.ref D)) W
/-- the parts, in the block -/
structure Parts (X : Cx) (sc : Scope) (t0 t1 i1 kx vx : Expr) (f0 f1 : List Expr) (g : TG) (tt : TT) (wi1 : TI) (g1 : TG) (tt1 : TT) (tk tv : TE) : Prop where
  pg : ∀ (s : Shared) (H : Hp) (C : Addr) (cl : List (Str × Addr)) (fp : List Addr), PG (X.blk s H sc (compEnvC sc cl C X.env) fp) t0 g
  pt : ∀ (s : Shared) (H : Hp) (C : Addr) (cl : List (Str × Addr)) (fp : List Addr), PTs (X.blk s H sc (compEnvC sc cl C X.env) fp) f0 tt
  pi : ∀ (s : Shared) (H : Hp) (C : Addr) (cl : List (Str × Addr)) (fp : List Addr), PI (X.blk s H sc (compEnvC sc cl C X.env) fp) t1 i1 wi1
  pg1 : ∀ (s : Shared) (H : Hp) (C : Addr) (cl : List (Str × Addr)) (fp : List Addr), PG (X.blk s H sc (compEnvC sc cl C X.env) fp) t1 g1
  pt1 : ∀ (s : Shared) (H : Hp) (C : Addr) (cl : List (Str × Addr)) (fp : List Addr), PTs (X.blk s H sc (compEnvC sc cl C X.env) fp) f1 tt1
  pk : ∀ (s : Shared) (H : Hp) (C : Addr) (cl : List (Str × Addr)) (fp : List Addr), PE (X.blk s H sc (compEnvC sc cl C X.env) fp) kx tk
  pv : ∀ (s : Shared) (H : Hp) (C : Addr) (cl : List (Str × Addr)) (fp : List Addr), PE (X.blk s H sc (compEnvC sc cl C X.env) fp) vx tv
variable {sc : Scope} {t0 i0 t1 i1 kx vx : Expr} {f0 f1 : List Expr} {wi wi1 : TI} {g g1 : TG} {tt tt1 : TT} {tk tv : TE} {own : List (Str × Nat)} {vs1 : List Nat} {ps ps' : Pos}
end
end DL

/-! DL52: comprehensions of two clauses, in data. -/
namespace DL
open PySem PySem.Spec PyProof.Rows L2
/-! ### own slots under a target -/
mutual
theorem put_own : ∀ (t : Tg) (x : D) (en en1 : En) (i : Nat) (o : MO), t.put x en = some en1 → en1[i]? = some (some (.own o)) → i ∉ t.ixs ∧ en[i]? = some (some (.own o))
  | .name j, x, en, en1, i, o, e, h => by
    simp only [Tg.put, Option.some.injEq] at e
    subst e
    rw [List.getElem?_set] at h
    by_cases q : j = i
    · rw [if_pos q] at h
      split at h <;> cases h
    · rw [if_neg q] at h
      refine ⟨fun z => q ?_, h⟩
      simp only [Tg.ixs, List.mem_singleton] at z
      exact z.symm
  | .tup ts, x, en, en1, i, o, e, h => by
    cases x with
    | tup xs =>
      simp only [Tg.put] at e
      have := puts_own ts xs en en1 i o e h
      simpa only [Tg.ixs] using this
    | _ => simp only [Tg.put] at e; cases e
theorem puts_own : ∀ (ts : List Tg) (xs : List D) (en en1 : En) (i : Nat) (o : MO), Tg.puts ts xs en = some en1 → en1[i]? = some (some (.own o)) → i ∉ Tg.ixss ts ∧ en[i]? = some (some (.own o))
  | [], [], en, en1, i, o, e, h => by
    simp only [Tg.puts, Option.some.injEq] at e
    subst e
    exact ⟨by simp [Tg.ixss], h⟩
  | [], _ :: _, _, _, _, _, e, _ => by simp only [Tg.puts] at e; cases e
  | _ :: _, [], _, _, _, _, e, _ => by simp only [Tg.puts] at e; cases e
  | t :: ts, x :: xs, en, en1, i, o, e, h => by
    simp only [Tg.puts] at e
    obtain ⟨en', e1, e2⟩ := Option.bind_eq_some_iff.mp e
    obtain ⟨h1, h2⟩ := puts_own ts xs en' en1 i o e2 h
    obtain ⟨h3, h4⟩ := put_own t x en en' i o e1 h2
    refine ⟨fun z => ?_, h4⟩
    simp only [Tg.ixss, List.mem_append] at z
    exact z.elim h3 h1
end
theorem Sl.out {K : PySem.W.Frag} {ct : CT} {b : Base} {w : Wd} {en : En} {σ : L2.St} {H : Hp} {D : Addr} (S : Sl K ct b w en σ H) (hne : ∀ (i : Nat) (o : MO) (a : Addr), en[i]? = some (some (.own o)) → σ[i]? = some (some (.ref a)) → a ≠ D) : Sl K ct b w en σ (upd' H D) := by
  refine ⟨S.len, S.val, fun i o e => ?_, S.sep⟩
  obtain ⟨a, ho, h1, h2, h3, h4, h5, h6⟩ := S.own i o e
  have ne : a ≠ D := hne i o a e h1
  exact ⟨a, ho, h1, h2, h3, h4, by rw [show upd' H D a = H a from if_neg ne]; exact h5, h6⟩
/-! ### dicts -/
noncomputable def compD2 (t : Tg) (g : List (D × D)) (tt : CB) (ci1 : CI) (t1 : Tg) (vs1 : List Nat) (tt1 : CB) (tk tv : CE) (en : En) : List D → List Key → List D → Store → Out (List Key × List D)
  | [], ks, xs, M => if gOk g M = true then .ok (ks, xs) M else .err
  | x :: r, ks, xs, M => if gOk g M = true then (match t.put x en with
    | some en1 => (tt en1 M).calm.bind fun k M1 => if k = true then (ci1 en1 M1).calm.bind fun p M2 => if ks.length + p.1.length ≤ sizeLine then
        (compD t1 p.2 tt1 tk tv (wipeE en1 vs1) p.1 ks xs M2).bind fun q M3 => compD2 t g tt ci1 t1 vs1 tt1 tk tv en r q.1 q.2 M3 else .err else compD2 t g tt ci1 t1 vs1 tt1 tk tv en r ks xs M1
    | none => .err) else .err
noncomputable def nCompD2 (ci : CI) (t : Tg) (vs : List Nat) (tt : CB) (ci1 : CI) (t1 : Tg) (vs1 : List Nat) (tt1 : CB) (tk tv : CE) : CN := fun en M => (ci en M).bind fun p M1 => (compD2 t p.2 tt ci1 t1 vs1 tt1 tk tv (wipeE en vs) p.1 [] [] M1).bind fun r M2 => .ok (.dic r.1 r.2) M2
section
variable {X : Cx} {ct : CT} {b : Base} {W : WX} {pos : Pos}
/-- what holds between two stores: the dict at D holds ks, acc -/
structure AtD (X : Cx) (ct : CT) (dp : Addr) (w1 : Wd) (H1 : Hp) (Hn : Hp) (w2 : Wd) (M : Store) (ks : List Key) (acc : List D) (accv : List V) : Prop where
  st : Step w1 H1 w2 (upd' Hn dp)
  rl : Rl X.K ct w2 M (upd' Hn dp)
  at' : Hn dp = some (.dK (ks.zip accv))
  len : ks.length = acc.length
  rep : RepL X.K w2 acc accv
theorem AtD.go {dp : Addr} {w1 w2 w3 : Wd} {H1 Hn H2 : Hp} {M M3 : Store} {ks : List Key} {acc : List D} {accv : List V} (A : AtD X ct dp w1 H1 Hn w2 M ks acc accv) (FD : w2.F dp = none) (ND : dp ∉ w2.ρ) (s : Step w2 Hn w3 H2) (r : Rl X.K ct w3 M3 H2) :
    AtD X ct dp w1 H1 H2 w3 M3 ks acc accv ∧ w3.F dp = none ∧ dp ∉ w3.ρ := by
  obtain ⟨hD, FD', ND'⟩ := s.fr dp _ A.at' (fun _ z => nomatch z) FD ND
  exact ⟨⟨A.st.trans (s.out dp), r.out FD' ND' (fun o e => by rw [hD] at e; cases e; trivial), hD, A.len, s.repL A.rep⟩, FD', ND'⟩
end
end DL

/-! DL53: lists of two clauses, in data; the machine's rules of both. -/
namespace DL
open PySem PySem.Spec PyProof.Rows L2
noncomputable def compL2 (t : Tg) (g : List (D × D)) (tt : CB) (ci1 : CI) (t1 : Tg) (vs1 : List Nat) (tt1 : CB) (te : CE) (en : En) : List D → List D → Store → Out (List D)
  | [], acc, M => if gOk g M = true then .ok acc M else .err
  | x :: r, acc, M => if gOk g M = true then (match t.put x en with
    | some en1 => (tt en1 M).calm.bind fun k M1 => if k = true then (ci1 en1 M1).calm.bind fun p M2 => if acc.length + p.1.length ≤ sizeLine then
        (compL t1 p.2 tt1 te (wipeE en1 vs1) p.1 M2).bind fun q M3 => compL2 t g tt ci1 t1 vs1 tt1 te en r (acc ++ q) M3 else .err else compL2 t g tt ci1 t1 vs1 tt1 te en r acc M1
    | none => .err) else .err
noncomputable def nComp2 (ci : CI) (t : Tg) (vs : List Nat) (tt : CB) (ci1 : CI) (t1 : Tg) (vs1 : List Nat) (tt1 : CB) (te : CE) : CN := fun en M => (ci en M).bind fun p M1 => (compL2 t p.2 tt ci1 t1 vs1 tt1 te (wipeE en vs) p.1 [] M1).bind fun r M2 => .ok (.lst r) M2
section
variable {X : Cx} {ct : CT} {b : Base} {W : WX} {pos : Pos}
structure AtL (X : Cx) (ct : CT) (dp : Addr) (w1 : Wd) (H1 : Hp) (Hn : Hp) (w2 : Wd) (M : Store) (acc : List D) (accv : List V) : Prop where
  st : Step w1 H1 w2 (upd' Hn dp)
  rl : Rl X.K ct w2 M (upd' Hn dp)
  at' : Hn dp = some (.lst accv)
  rep : RepL X.K w2 acc accv
theorem AtL.go {dp : Addr} {w1 w2 w3 : Wd} {H1 Hn H2 : Hp} {M M3 : Store} {acc : List D} {accv : List V} (A : AtL X ct dp w1 H1 Hn w2 M acc accv) (FD : w2.F dp = none) (ND : dp ∉ w2.ρ) (s : Step w2 Hn w3 H2) (r : Rl X.K ct w3 M3 H2) :
    AtL X ct dp w1 H1 H2 w3 M3 acc accv ∧ w3.F dp = none ∧ dp ∉ w3.ρ := by
  obtain ⟨hD, FD', ND'⟩ := s.fr dp _ A.at' (fun _ z => nomatch z) FD ND
  exact ⟨⟨A.st.trans (s.out dp), r.out FD' ND' (fun o e => by rw [hD] at e; cases e; trivial), hD, s.repL A.rep⟩, FD', ND'⟩
section
variable {R R1 : RR} {ci ci1 : CI} {t t1 : Tg} {tt tt1 : CB} {te : CE} {elt tg iter tg1 iter1 : Expr} {ifs ifs1 : List Expr} {scope : Scope} {own : List (Str × Nat)} {vs1 : List Nat}
end
end
/-! ### the machine -/
section
variable {en : En} {M : Store} {E : EX} {t t1 : Tg} {vs vs1 : List Nat} {tt tt1 : CB} {te tk tv : CE} {ci ci1 : CI}
def kComp2 (t : Tg) (vs : List Nat) (tt : CB) (ci1 : CI) (t1 : Tg) (vs1 : List Nat) (tt1 : CB) (te : CE) (en : En) (Q : MO → Store → Prop) (E : EX) (p : IT) (M : Store) : Prop := Post (compL2 t p.2 tt ci1 t1 vs1 tt1 te (wipeE en vs) p.1 [] M) (fun r M => Q (.lst r) M) E
@[simp] theorem kComp2_app {xs : List D} {g : List (D × D)} {Q : MO → Store → Prop} : kComp2 t vs tt ci1 t1 vs1 tt1 te en Q E (xs, g) M = Post (compL2 t g tt ci1 t1 vs1 tt1 te (wipeE en vs) xs [] M) (fun r M => Q (.lst r) M) E := rfl
@[simp] theorem m_nComp2 {Q : MO → Store → Prop} : Post (nComp2 ci t vs tt ci1 t1 vs1 tt1 te en M) Q E = Post (ci en M) (kComp2 t vs tt ci1 t1 vs1 tt1 te en Q E) E := by
  simp only [nComp2, Post_bind_eq]
  rfl
def kCompD2 (t : Tg) (vs : List Nat) (tt : CB) (ci1 : CI) (t1 : Tg) (vs1 : List Nat) (tt1 : CB) (tk tv : CE) (en : En) (Q : MO → Store → Prop) (E : EX) (p : IT) (M : Store) : Prop := Post (compD2 t p.2 tt ci1 t1 vs1 tt1 tk tv (wipeE en vs) p.1 [] [] M) (fun r M => Q (.dic r.1 r.2) M) E
@[simp] theorem kCompD2_app {xs : List D} {g : List (D × D)} {Q : MO → Store → Prop} : kCompD2 t vs tt ci1 t1 vs1 tt1 tk tv en Q E (xs, g) M = Post (compD2 t g tt ci1 t1 vs1 tt1 tk tv (wipeE en vs) xs [] [] M) (fun r M => Q (.dic r.1 r.2) M) E := rfl
@[simp] theorem m_nCompD2 {Q : MO → Store → Prop} : Post (nCompD2 ci t vs tt ci1 t1 vs1 tt1 tk tv en M) Q E = Post (ci en M) (kCompD2 t vs tt ci1 t1 vs1 tt1 tk tv en Q E) E := by
  simp only [nCompD2, Post_bind_eq]
  rfl
end
end DL

/-! DL54: a list times a number as a new list. -/
namespace DL
open PySem PySem.Spec PyProof.Rows L2
def repL' : D → D → Option MO
  | .lst xs, .int k => if -(2 ^ 63) ≤ k ∧ k < 2 ^ 63 ∧ xs.length * k.toNat ≤ sizeLine then some (.lst (List.replicate k.toNat xs).flatten) else none
  | _, _ => none
def nRep (h1 h2 : CH) : CN := fun en M => (h1 en M).bind fun a M1 => (h2 en M1).bind fun c M2 => ofO ((vw en M2 a).bind fun x => (vw en M2 c).bind fun y => repL' x y) M2
section
variable {X : Cx} {ct : CT} {b : Base} {W : WX} {e1 e2 : Expr} {pos : Pos}
end
/-- d.clear() -/
def mDClear : MO → List D → Option (MO × D)
  | .dic _ _, [] => some (.dic [] [], .non)
  | _, _ => none
/-! ### the machine -/
section
variable {en : En} {M : Store} {E : EX}
def kRep2 (a : Hd) (en : En) (Q : MO → Store → Prop) (c : Hd) (M : Store) : Prop := PV ((vw en M a).bind fun x => (vw en M c).bind fun y => repL' x y) M Q
def kRep1 (h2 : CH) (en : En) (Q : MO → Store → Prop) (E : EX) (a : Hd) (M : Store) : Prop := Post (h2 en M) (kRep2 a en Q) E
@[simp] theorem kRep2_app {a c : Hd} {Q : MO → Store → Prop} : kRep2 a en Q c M = PV ((vw en M a).bind fun x => (vw en M c).bind fun y => repL' x y) M Q := rfl
@[simp] theorem kRep1_app {h2 : CH} {a : Hd} {Q : MO → Store → Prop} : kRep1 h2 en Q E a M = Post (h2 en M) (kRep2 a en Q) E := rfl
@[simp] theorem m_nRep {h1 h2 : CH} {Q : MO → Store → Prop} : Post (nRep h1 h2 en M) Q E = Post (h1 en M) (kRep1 h2 en Q E) E := by
  simp only [nRep, Post_bind_eq, Post_ofO]
  rfl
@[simp] theorem repL'_one {d : D} {n : Nat} (h : n ≤ 16777216) : repL' (.lst [d]) (.int n) = some (.lst (List.replicate n d)) := by
  have sl : sizeLine = 16777216 := by decide
  simp only [repL']
  rw [if_pos ⟨by omega, by omega, by simp [sl]; omega⟩]
  have : ∀ n : Nat, (List.replicate n [d]).flatten = List.replicate n d := fun n => by
    induction n with
    | zero => rfl
    | succ n ih => rw [List.replicate_succ, List.flatten_cons, ih]; rfl
  simp [this]
end
end DL

/-! DL56: d.pop(k) of a dict of the frame's own. -/
namespace DL
open PySem PySem.Spec PyProof.Rows L2
def rDPopM : V → List V → Hp → VK → Prop := fun x vs H Q => ∃ (a : Addr) (kvs : List (Key × V)) (k : Key) (v : V), x = .ref a ∧ vs = [kV k] ∧ H a = some (.dK kvs) ∧ valV kvs k = some v ∧ Q v (upd H a (.dK (dropK kvs k)))
/-- d.pop(k) -/
def mDPop : MO → List D → Option (MO × D)
  | .dic ks xs, [k] => (keyD k).bind fun key => (dget ks xs key).map fun v => (.dic (dropD key ks xs).1 (dropD key ks xs).2, v)
  | _, _ => none
end DL

/-! DL57: sorted(t) of a tuple of texts. -/
namespace DL
open PySem PySem.Spec PyProof.Rows L2
section
variable {prog : Program} {w : World} {A : Around} {E : Value → Shared → Prop} {s : Shared}
end
section
variable {X : Cx}
/-- sorted, of a tuple of texts too -/
def gSortedT : List D → Option MO
  | [.tup xs] => (strsD xs).bind fun zs => if zs.length < 64 then some (.lst ((sortS zs).map D.str)) else none
  | ds => gSorted ds
variable {ct : CT}
@[simp] theorem gSortedT_lst {xs : List D} : gSortedT [.lst xs] = gSorted [.lst xs] := rfl
@[simp] theorem gSortedT_dic {ks : List Key} {xs : List D} : gSortedT [.dic ks xs] = gSorted [.dic ks xs] := rfl
end
end DL

/-! DL58: an entry of a module's dict of texts. -/
namespace DL
open PySem PySem.Spec PyProof.Rows L2
/-- a module's dict from texts to texts that nobody changes -/
def GlbD (P : Program) (w : World) (K : PySem.W.Frag) (mg : Str → Option Value) (x : Str) (kvs : List (Str × Str)) : Prop :=
  ∃ (a : Addr) (o : Obj) (es : Array DictEntry) (ep : Nat) (vs : List (Str × Value)), mg x = some (.ref a) ∧ K.lookup a = some o ∧ o.ExactDict ∧ o.data = .dict es ep ∧ KeysOf (strKind P w) es ∧ Pairs (strKind P w) es.toList vs ∧ (vs.map (·.1)).Nodup ∧
    ∀ z t, kvs.lookup z = some t → ∃ tk, valueAt vs z = some (.str t tk)
def eGlbD (kvs : List (Str × Str)) (f : CE) : CE := fun en M => (f en M).bind fun d M1 => match d with
  | .str z => ofO ((kvs.lookup z).map D.str) M1
  | _ => .err
section
variable {X : Cx} {ct : CT} {b : Base} {W : WX} {e : Expr} {p pos : Pos}
end
/-- of the object that stands in the module -/
def enD (w : World) (e : Str × Tok × Str × Tok) : DictEntry := ⟨hashStr w e.1, .str e.1 e.2.1, .str e.2.2.1 e.2.2.2⟩
/-! ### on the machine -/
def kGlbD (kvs : List (Str × Str)) (Q : D → Store → Prop) (d : D) (M : Store) : Prop := match d with
  | .str z => match kvs.lookup z with
    | some t => Q (.str t) M
    | none => False
  | _ => False
@[simp] theorem m_eGlbD {kvs : List (Str × Str)} {f : CE} {en : En} {M : Store} {Q : D → Store → Prop} {E : EX} : Post (eGlbD kvs f en M) Q E = Post (f en M) (kGlbD kvs Q) E := by
  simp only [eGlbD, Post_bind_eq]
  congr 1
  funext d M1
  cases d with
  | str z =>
    show Post (ofO ((kvs.lookup z).map D.str) M1) Q E = (match kvs.lookup z with | some t => Q (.str t) M1 | none => False)
    cases kvs.lookup z <;> rfl
  | _ => rfl
end DL

/-! DL59: zip of a tuple and a list (after the kit's proofs for two tuples and for two lists). -/
namespace RZTL
open PySem
open PySem.Sem (wp)
section
variable {prog : Program} {w : World} {A : Around} {E : Value → Shared → Prop} {s : Shared}
end
abbrev zipTLH1 (h : Heap) (l1 : Addr) : Heap := h.push { cls := .type "tuple_iterator", data := .fields #[.ref l1, .int 0 0] }
abbrev zipTLH2 (h : Heap) (l1 l2 : Addr) : Heap := (zipTLH1 h l1).push { cls := .type "list_iterator", data := .fields #[.ref l2, .int 0 0] }
abbrev zipTLH3 (h : Heap) (l1 l2 : Addr) : Heap := (zipTLH2 h l1 l2).push { cls := .type "tuple", data := .seq #[.ref h.objs.size, .ref (zipTLH1 h l1).objs.size] }
abbrev zipTLH4 (h : Heap) (l1 l2 : Addr) : Heap := (zipTLH3 h l1 l2).push { cls := .type "tuple", data := .seq #[.none, .none] }
abbrev zipTLH5 (h : Heap) (l1 l2 : Addr) : Heap := (zipTLH4 h l1 l2).push { cls := .type "zip", data := .fields #[.none, .bool false, .bool false, .ref (zipTLH2 h l1 l2).objs.size, .ref (zipTLH3 h l1 l2).objs.size] }

section
variable {prog : Program} {w : World} {A : Around} {E : Value → Shared → Prop} {s : Shared}

end
open PySem.Spec PyProof.Rows L2 RZ
/-- the tuple at a and the list at b as they stand at each turn, the items in new pairs -/
def ItzTL (K : PySem.W.Frag) (a b : Addr) : It :=
  ⟨fun i H => ∃ (xs ys : List V) (x y : V), SqT K H a xs ∧ SqL K H b ys ∧ xs[i]? = some x ∧ ys[i]? = some y,
    fun i H v H' => ∃ T x y, v = .ref T ∧ H T = none ∧ H' = upd H T (.tup [x, y]) ∧ (∀ xs, SqT K H a xs → xs[i]? = some x) ∧ ∀ ys, SqL K H b ys → ys[i]? = some y,
    fun i H => ∃ xs ys : List V, SqT K H a xs ∧ SqL K H b ys ∧ (xs.length ≤ i ∨ ys.length ≤ i)⟩
def iZipTL (K : PySem.W.Frag) (ta : TA) : TI := fun σ H R => ta σ H fun vs H1 => ∃ a b xs ys, vs = [.ref a, .ref b] ∧ SqT K H1 a xs ∧ SqL K H1 b ys ∧ R (ItzTL K a b) H1
end RZTL
namespace DL
open PySem PySem.Spec PyProof.Rows L2
def zipTLO (M : Store) (d1 d2 : D) : Option (List D × List (D × D)) := match vwD M d1, vwD M d2 with
  | some (.tup xs), some (.lst ys) => some (zipD xs ys, gdD d2 (.lst ys))
  | _, _ => none
def iZipTL (f : CA) : CI := fun en M => (f en M).bind fun ds M1 => match ds with
  | [d1, d2] => ofO (zipTLO M1 d1 d2) M1
  | _ => .err
section
variable {X : Cx} {ct : CT} {b : Base} {W : WX} {e e1 e2 e3 : Expr} {pos : Pos} {es : List Expr}
def kZipTL (Q : IT → Store → Prop) (ds : List D) (M : Store) : Prop := match ds with | [d1, d2] => PV (zipTLO M d1 d2) M Q | _ => False
end
@[simp] theorem kZipTL_app {d1 d2 : D} {Q : IT → Store → Prop} {M : Store} : kZipTL Q [d1, d2] M = PV (zipTLO M d1 d2) M Q := rfl
@[simp] theorem zipTLO_tl {M : Store} {xs ys : List D} : zipTLO M (.tup xs) (.lst ys) = some (zipD xs ys, []) := rfl
@[simp] theorem m_iZipTL {f : CA} {en : En} {M : Store} {E : EX} {Q : IT → Store → Prop} : Post (iZipTL f en M) Q E = Post (f en M) (kZipTL Q) E := by
  simp only [iZipTL, Post_bind_eq]
  congr 1
  funext ds M1
  match ds with
  | [] => rfl
  | [_] => rfl
  | [d1, d2] =>
    show Post (ofO (zipTLO M1 d1 d2) M1) Q E = PV (zipTLO M1 d1 d2) M1 Q
    cases zipTLO M1 d1 d2 <;> rfl
  | _ :: _ :: _ :: _ => rfl
end DL

/-! DL60: sorted(d) of a dict with int keys, any number of them (after the kit's proof for fewer than 64). -/
namespace DL
open PySem PySem.Spec PyProof.Rows L2
section
variable {X : Cx}
/-- sorted, of a dict with many int keys too -/
def gSortedB : List D → Option MO
  | [.dic ks _] => match strKeys ks with
    | some zs => if zs.length < 64 then some (.lst ((sortS zs).map D.str)) else none
    | none => (intKeys ks).bind fun zs => if zs.length ≤ sizeLine then some (.lst ((sortZ zs).map D.int)) else none
  | ds => gSorted ds
variable {ct : CT}
end
end DL

/-! DL61: sorted(xs) of a list of pairs (text, int), any number of them (after the kit's proof for pairs of ints). -/
namespace DL
open PySem PySem.Spec PyProof.Rows L2
/-! ### the order -/
def ltSI (p q : Str × Int) : Bool := if p.1 = q.1 then decide (p.2 < q.2) else decide (p.1.cps.toList < q.1.cps.toList)
def leSI (p q : Str × Int) : Bool := !ltSI q p
def sortSI (ps : List (Str × Int)) : List (Str × Int) := ps.mergeSort leSI
/-! ### the sort -/
/-- a tuple (text, int) in the heap -/
def IsSI (h : Heap) (v : Value) (p : Str × Int) : Prop := ∃ a o t u n, v = .ref a ∧ h.get? a = some o ∧ o.cls = .type "tuple" ∧ o.data = .seq #[.str p.1 t, .int p.2 u] n
theorem IsSI.keeps {h h' : Heap} {v : Value} {p : Str × Int} (x : IsSI h v p) (k : ∀ b o, h.get? b = some o → o.cls = .type "tuple" → h'.get? b = some o) : IsSI h' v p := by
  obtain ⟨a, o, t, u, n, e, ho, hc, hd⟩ := x
  exact ⟨a, o, t, u, n, e, k _ _ ho hc, hc, hd⟩
section
variable {prog : Program} {w : World} {A : Around} {E : Value → Shared → Prop} {s : Shared}
end
section
variable {X : Cx}
end
/-! ### as values -/
def pairD (p : Str × Int) : D := .tup [.str p.1, .int p.2]
def siD : List D → Option (List (Str × Int))
  | [] => some []
  | .tup [.str x, .int i] :: r => (siD r).map ((x, i) :: ·)
  | _ => none
/-- sorted, of a list of pairs (text, int) too -/
def gSortedP : List D → Option MO
  | [.lst ds] => match siD ds with
    | some ps => some (.lst ((sortSI ps).map pairD))
    | none => gSorted [.lst ds]
  | ds => gSorted ds
section
variable {X : Cx} {ct : CT} {w : Wd}
end
end DL

/-! DL62: isinstance of an exception that is kept in the store; its fields. -/
namespace DL
open PySem PySem.Spec PyProof.Rows L2
/-- what the class of a kept exception must say -/
structure XkC (K : PySem.W.Frag) (D : Addr) : Prop where
  cl : (PySem.W.clsIn K D).isSome = true
  ga : PySem.W.findIn K (.ref D) "__getattribute__" = some (some (.builtin "BaseException.__getattribute__"))
  gg : PySem.W.findIn K (.ref D) "__getattr__" = some none
  ex : PySem.W.subIn K (.ref D) (.type "BaseException") = some true
  ha : PySem.W.findIn K (.ref D) "__class__" = some (some (.builtin "object.__class__"))
  hn : PySem.W.specialIn K (.builtin "object.__class__") "__get__" = some (some (.builtin "getset_descriptor.__get__"))
  ht : PySem.W.takesIn K (.builtin "object.__class__") = some true
  hm : PySem.W.mroIn K D (.type "object") = some true
  hd : PySem.W.hasDictIn K D = true
/-- an exception of the class at D stands at a -/
def XkAt (H : Hp) (a D : Addr) (fs : Option (List (Str × V))) : Prop := ∃ (oe : Obj) (dx : Option Addr), H a = some (.frz oe (.own 0)) ∧ Zc (.ref D) dx oe ∧ (∃ ws, oe.data = .fields ws) ∧
  ((dx = none ∧ fs = none) ∨ ∃ d l, dx = some d ∧ fs = some l ∧ H d = some (.xd l))
section
variable {X : Cx} {pins : List (Addr × Obj)} {σ : L2.St} {H : Hp} {s : Shared}
theorem xk_inst (I : Inv X pins σ H s) {a D : Addr} {fs : Option (List (Str × V))} (h : XkAt H a D fs) : ∃ (oe : Obj) (od : Option Obj), PySem.W.InstAt s.heap a oe D od := by
  obtain ⟨oe, dx, e1, hz, ⟨ws, hd⟩, h⟩ := h
  obtain ⟨he, _⟩ := (show ObjOk X.prog X.w H s.heap a (.frz oe (.own 0)) from I.hok a _ e1)
  obtain ⟨oc, odd, oda, osl⟩ := oe
  obtain ⟨z1, z2⟩ := hz
  dsimp only at z1 z2 hd
  subst z1 z2 hd
  rcases h with ⟨rfl, _⟩ | ⟨d, l, rfl, _, e2⟩
  · exact ⟨_, none, he, rfl, rfl, trivial⟩
  · obtain ⟨mA, hns, _⟩ := (show ObjOk X.prog X.w H s.heap d (.xd l) from I.hok d _ e2)
    obtain ⟨od, ho, _⟩ := lookIn_ns hns
    exact ⟨_, some od, he, rfl, rfl, ho⟩
/-- isinstance(e, c), one class -/
theorem call_xk1 : CallR X (.builtin "isinstance") (fun xs H Q => ∃ (a D : Addr) (fs : Option (List (Str × V))) (c : V) (u : Value) (b : Bool), xs = [.ref a, c] ∧ XkC X.K D ∧ XkAt H a D fs ∧ ClsV c u ∧ PySem.W.kitOne X.K (.ref D) u = some b ∧ Q (.bl b) H) := by
  intro pins s σ H xs us Q I r h
  obtain ⟨a, D, fs, c, u, b, rfl, C, at', k, e, q⟩ := h
  obtain ⟨u1, u2, rfl, r1, r2⟩ := vals2 r
  have e2 := k.eq r2
  subst e2
  cases (show u1 = Value.ref a from r1)
  obtain ⟨oe, od, J⟩ := xk_inst I at'
  exact PySem.W.kia_one (PySem.W.kitx_exc C.cl C.ga C.gg C.ex C.ha C.hn C.ht C.hm) I.kIn J e (fun z => nomatch z) fun tk => ⟨.bl b, H, I.tok tk, rfl, q⟩
end
/-! ### in data -/
/-- which of the exception classes (by name) a test takes -/
def xkB (M : Store) (l : List (Str × Bool)) : D → Option D
  | .ref n => match M[n]? with
    | some (.exc c _) => (l.lookup c).map D.bl
    | _ => none
  | _ => none
def eXk (l : List (Str × Bool)) (f : CE) : CE := fun en M => (f en M).bind fun d M1 => ofO (xkB M1 l d) M1
/-- the answers of a test for these classes -/
structure XkT (K : PySem.W.Frag) (ct : CT) (us : List Value) (l : List (Str × Bool)) : Prop where
  h : ∀ c b, l.lookup c = some b → XkC K (ct.c c) ∧ PySem.W.kitAny K (.ref (ct.c c)) us = some b
theorem kitAny_one {K : PySem.W.Frag} {t u : Value} {b : Bool} (h : PySem.W.kitAny K t [u] = some b) : PySem.W.kitOne K t u = some b := by
  unfold PySem.W.kitAny at h
  cases e : PySem.W.kitOne K t u with
  | none => rw [e] at h; cases h
  | some k =>
    rw [e] at h
    cases k with
    | true => exact h
    | false =>
      unfold PySem.W.kitAny at h
      exact h
section
variable {X : Cx} {ct : CT} {b : Base} {W : WX} {e : Expr} {pos : Pos}
theorem xk_at {w : Wd} {M : Store} {H : Hp} {d y : D} {v : V} {l : List (Str × Bool)} (rl : Rl X.K ct w M H) (x : Rep X.K w d v) (e : xkB M l d = some y) : ∃ (n : Nat) (a : Addr) (c : Str) (fs : List (Str × D)) (k : Bool) (vs : Option (List (Str × V))), d = .ref n ∧ v = .ref a ∧ y = .bl k ∧ l.lookup c = some k ∧ M[n]? = some (.exc c fs) ∧ XkAt H a (ct.c c) vs := by
  unfold xkB at e
  split at e
  case h_2 => cases e
  rename_i n
  split at e
  case h_2 => cases e
  rename_i c fs eM
  obtain ⟨k, ek, rfl⟩ := Option.map_eq_some_iff.mp e
  simp only [Rep] at x
  obtain ⟨a, rfl, ha⟩ := x
  obtain ⟨ho, hF, hH, oe, dx, rfl, hz, hf, hx⟩ := rl.at ha eM
  rcases hx with ⟨_, rfl⟩ | ⟨dd, vs, rfl, e2, _⟩
  · exact ⟨n, a, c, fs, k, none, rfl, rfl, rfl, ek, eM, oe, none, hH, hz, hf, .inl ⟨rfl, rfl⟩⟩
  · refine ⟨n, a, c, fs, k, some ((fs.map (·.1)).zip vs), rfl, rfl, rfl, ek, eM, oe, some dd, hH, hz, hf, .inr ⟨dd, (fs.map (·.1)).zip vs, rfl, rfl, ?_⟩⟩
    rcases rl.sub dd _ e2 with h | ⟨⟨kvs, z⟩, _⟩
    · exact h
    · cases z
/-- isinstance(x, C), C an own class -/
theorem pd_xk1 {x : Str} {p p2 : Pos} {C : Addr} {f : CE} {l : List (Str × Bool)} (T : XkT X.K ct [.ref C] l) (hm : X.mg "isinstance" = none) (hmT : X.mg x = some (.ref C)) (ha : PD X ct b W f e) (hg : Gl X "isinstance" := by rfl) (hgT : Gl X x := by rfl)
    (hdb : (x == ("__debug__" : Str)) = false := by decide) (he : starEach (e :: [.Name x p2]) X.env = (false, eval e X.env) :: starEach [.Name x p2] X.env := by rfl) (hpl : (backTo pos (starEach [.Name x p2] X.env)).any (·.1) = false := by rfl)
    (hs2 : starEach [.Name x p2] X.env = (false, eval (.Name x p2) X.env) :: starEach [] X.env := by rfl) : PD X ct b W (eXk l f) (.Call (.Name "isinstance" p) [e, .Name x p2] [] pos) := by
  have hT : PE X (.Name x p2) (tC (.ref C)) := pe_glob hgT hmT rfl hdb
  refine PE.wk (pe_callB call_xk1 hg hm (by decide +kernel) (pa_cons ha (pa_cons hT pa_nil hs2) he) (by decide) (by decide) he hpl) fun σ H Q h => ?_
  obtain ⟨w, en, M, S, rl, p⟩ := h
  refine ⟨w, en, M, S, rl, (Post.bind p).imp (fun d M1 q w1 v1 H1 s1 r1 x1 => ?_) fun _ _ _ q => q⟩
  obtain ⟨y, ey, q⟩ := ofO_post q
  obtain ⟨n, a, c, fs, k, vs, rfl, rfl, rfl, hl, eM, at'⟩ := xk_at r1 x1 ey
  obtain ⟨Cc, hk⟩ := T.h c k hl
  exact ⟨a, _, vs, .ref C, _, k, rfl, Cc, at', .own C, kitAny_one hk, q w1 _ H1 s1 r1 (by simp only [Rep])⟩
/-- isinstance(x, T), T a built-in class -/
theorem pd_xkB {x : Str} {n0 : String} {p p2 : Pos} {f : CE} {l : List (Str × Bool)} (T : XkT X.K ct [.type n0] l) (hm : X.mg "isinstance" = none) (hmT : X.mg x = none) (hv : bootBuiltins x = some (.type n0)) (ha : PD X ct b W f e) (hg : Gl X "isinstance" := by rfl) (hgT : Gl X x := by rfl) (hn : x ≠ "__name__" := by decide)
    (hdb : (x == ("__debug__" : Str)) = false := by decide) (he : starEach (e :: [.Name x p2]) X.env = (false, eval e X.env) :: starEach [.Name x p2] X.env := by rfl) (hpl : (backTo pos (starEach [.Name x p2] X.env)).any (·.1) = false := by rfl)
    (hs2 : starEach [.Name x p2] X.env = (false, eval (.Name x p2) X.env) :: starEach [] X.env := by rfl) : PD X ct b W (eXk l f) (.Call (.Name "isinstance" p) [e, .Name x p2] [] pos) := by
  have hT : PE X (.Name x p2) (tC (.ty n0)) := pe_bltn hgT hmT hv rfl hn hdb
  refine PE.wk (pe_callB call_xk1 hg hm (by decide +kernel) (pa_cons ha (pa_cons hT pa_nil hs2) he) (by decide) (by decide) he hpl) fun σ H Q h => ?_
  obtain ⟨w, en, M, S, rl, p⟩ := h
  refine ⟨w, en, M, S, rl, (Post.bind p).imp (fun d M1 q w1 v1 H1 s1 r1 x1 => ?_) fun _ _ _ q => q⟩
  obtain ⟨y, ey, q⟩ := ofO_post q
  obtain ⟨n, a, c, fs, k, vs, rfl, rfl, rfl, hl, eM, at'⟩ := xk_at r1 x1 ey
  obtain ⟨Cc, hk⟩ := T.h c k hl
  exact ⟨a, _, vs, .ty n0, _, k, rfl, Cc, at', .ty n0, kitAny_one hk, q w1 _ H1 s1 r1 (by simp only [Rep])⟩
end
/-! ### a field of a kept exception -/
section
variable {X : Cx} {ct : CT} {b : Base} {W : WX} {e : Expr} {pos : Pos} {te : TE} {f : Str}
theorem pe_xkf (he : PE X e te) (hb : attributeBase e f X.env (eval e X.env) = eval e X.env := by rfl) : PE X (.Attribute e f pos) (fun σ H Q => te σ H fun x H1 => ∃ (a D : Addr) (l : List (Str × V)) (v : V), x = .ref a ∧ XkC X.K D ∧ PySem.W.findIn X.K (.ref D) f = some none ∧ XkAt H1 a D (some l) ∧ l.lookup f = some v ∧ Q v H1) := by
  refine ⟨fun pins s σ H Q I h => attr_of hb (thn (he.run pins s σ H _ I h) fun u s1 hh => ?_)⟩
  obtain ⟨x, H1, I1, rx, a, D, l, v, rfl, C, hno, ⟨oe, dx, e1, hz, ⟨ws, hd⟩, hx⟩, hl, q⟩ := hh
  obtain rfl : u = Value.ref a := rx
  rcases hx with ⟨_, z⟩ | ⟨d, l', rfl, z, e2⟩
  · cases z
  cases z
  obtain ⟨he1, _⟩ := (show ObjOk X.prog X.w H1 s1.heap a (.frz oe (.own 0)) from I1.hok a _ e1)
  obtain ⟨mA, hns, hr⟩ := (show ObjOk X.prog X.w H1 s1.heap d (.xd l) from I1.hok d _ e2)
  obtain ⟨od, ho, hlk⟩ := lookIn_ns hns
  obtain ⟨u, hu, ru⟩ := RelO.some_of (v := v) (o := mA f) (by rw [← hl]; exact hr f)
  have J : PySem.W.InstAt s1.heap a oe D (some od) := ⟨he1, hz.1, by unfold PySem.W.notCls; rw [hd] <;> rfl, by rw [hz.2]; exact ho⟩
  exact HandSPX.exc_get I1.kIn J C.ga C.gg C.ex (PySem.W.findObj_own C.hd hno rfl (by rw [hlk, hu])) (handed_of ru) ⟨v, H1, I1.tok _, ru, q⟩
def xkF (M : Store) (f : Str) (l : List Str) : D → Option D
  | .ref n => match M[n]? with
    | some (.exc c fs) => if c ∈ l then fs.lookup f else none
    | _ => none
  | _ => none
def eXkF (f : Str) (l : List Str) (g : CE) : CE := fun en M => (g en M).bind fun d M1 => ofO (xkF M1 f l d) M1
structure XkFT (K : PySem.W.Frag) (ct : CT) (f : Str) (l : List Str) : Prop where
  h : ∀ c ∈ l, XkC K (ct.c c) ∧ PySem.W.findIn K (.ref (ct.c c)) f = some none
theorem pd_xkf {g : CE} {l : List Str} (T : XkFT X.K ct f l) (he : PD X ct b W g e) (hb : attributeBase e f X.env (eval e X.env) = eval e X.env := by rfl) : PD X ct b W (eXkF f l g) (.Attribute e f pos) := by
  refine PE.wk (pe_xkf he hb) fun σ H Q h => ?_
  obtain ⟨w, en, M, S, rl, p⟩ := h
  refine ⟨w, en, M, S, rl, (Post.bind p).imp (fun d M1 q w1 v1 H1 s1 r1 x1 => ?_) fun _ _ _ q => q⟩
  obtain ⟨y, ey, q2⟩ := ofO_post q
  unfold xkF at ey
  split at ey
  case h_2 => cases ey
  rename_i n
  split at ey
  case h_2 => cases ey
  rename_i c fs eM
  split at ey
  case isFalse => cases ey
  rename_i hc
  simp only [Rep] at x1
  obtain ⟨a, rfl, ha⟩ := x1
  obtain ⟨ho, hF, hH, oe, dx, rfl, hz, hf, hx⟩ := r1.at ha eM
  obtain ⟨Cc, hno⟩ := T.h c hc
  rcases hx with ⟨rfl, _⟩ | ⟨dd, vs, rfl, e2, rr⟩
  · cases ey
  · obtain ⟨v, hv, rv⟩ := zip_lookup rr ey
    refine ⟨a, _, (fs.map (·.1)).zip vs, v, rfl, Cc, hno, ⟨oe, some dd, hH, hz, hf, .inr ⟨dd, _, rfl, rfl, ?_⟩⟩, hv, q2 w1 v H1 s1 r1 rv⟩
    rcases r1.sub dd _ e2 with h | ⟨⟨kvs, z⟩, _⟩
    · exact h
    · cases z
end
/-! ### marks: lists of True and False -/
section
variable {X : Cx}
end
section
variable {X : Cx} {ct : CT} {b : Base} {W : WX} {o e : Expr} {pos apos cpos : Pos}
def cntB (xs : List D) : List D → Option D
  | [.bl k] => (blsD xs).map fun bs => .int (bs.count k : Nat)
  | _ => none
def idxB (xs : List D) : List D → Option D
  | [.bl k] => (blsD xs).bind fun bs => if bs.idxOf k < bs.length then some (.int (bs.idxOf k : Nat)) else none
  | _ => none
/-- a method of a list that stands for ever -/
def eLM (g : List D → List D → Option D) (f : CE) (args : CA) : CE := fun en M => (f en M).bind fun d M1 => match d with
  | .lst xs => (args en M1).bind fun ds M2 => ofO (g xs ds) M2
  | _ => .err
end
/-! ### assembly -/
theorem lookup_mem {α : Type} : ∀ {l : List (Str × α)} {c : Str} {b : α}, l.lookup c = some b → (c, b) ∈ l
  | [], _, _, h => by cases h
  | (x, y) :: l, c, b, h => by
    rw [List.lookup_cons] at h
    by_cases e : (c == x) = true
    · rw [e] at h
      cases h
      rw [eq_of_beq e]
      exact List.mem_cons_self
    · rw [Bool.not_eq_true] at e
      rw [e] at h
      exact List.mem_cons_of_mem _ (lookup_mem h)
section
variable {K : PySem.W.Frag} {mg : Str → Option Value} {ct : CT}
theorem xkT_mk {us : List Value} {l : List (Str × Bool)} (h : ∀ p ∈ l, XkC K (ct.c p.1) ∧ PySem.W.kitAny K (.ref (ct.c p.1)) us = some p.2) : XkT K ct us l := ⟨fun c b e => h (c, b) (lookup_mem e)⟩
theorem kitOne_own {t E : Addr} {b : Bool} (h1 : PySem.W.isClsIn K E = true) (h2 : PySem.W.typeIn K (.ref E) = some (.type "type")) (h3 : PySem.W.subIn K (.ref t) (.ref E) = some b) (h4 : PySem.W.subIn K (.ref t) (.ref t) = some true) : PySem.W.kitOne K (.ref t) (.ref E) = some b := by
  unfold PySem.W.kitOne
  by_cases e : (Value.ref t == Value.ref E) = true
  · rw [if_pos e]
    have e' : t = E := Value.ref.inj (beq_iff_eq.mp e)
    subst e'
    rw [h4] at h3
    exact h3
  · rw [if_neg e]
    have h1' : (PySem.W.clsIn K E).isSome = true := h1
    show (if ((PySem.W.clsIn K E).isSome && PySem.W.typeIn K (.ref E) == some (.type "type")) = true then PySem.W.subIn K (.ref t) (.ref E) else none) = some b
    rw [if_pos (by rw [h1', h2] <;> rfl)]
    exact h3
theorem kitOne_blt {t : Addr} {T : String} {b : Bool} (h1 : PySem.W.kitMeta T = true) (h3 : PySem.W.subIn K (.ref t) (.type T) = some b) : PySem.W.kitOne K (.ref t) (.type T) = some b := by
  unfold PySem.W.kitOne
  rw [if_neg (by intro z; exact nomatch (beq_iff_eq.mp z))]
  show (if PySem.W.kitMeta T = true then PySem.W.subIn K (.ref t) (.type T) else none) = some b
  rw [if_pos h1]
  exact h3
theorem kitAny_of1 {t u : Value} {b : Bool} (h : PySem.W.kitOne K t u = some b) : PySem.W.kitAny K t [u] = some b := by
  unfold PySem.W.kitAny
  rw [h]
  cases b <;> rfl
/-- a test for one own class, for three -/
structure XkH (K : PySem.W.Frag) (mg : Str → Option Value) (ct : CT) (x : Str) (l : List (Str × Bool)) : Prop where
  h : ∃ C, mg x = some (.ref C) ∧ XkT K ct [.ref C] l
structure XkH3 (K : PySem.W.Frag) (mg : Str → Option Value) (ct : CT) (x1 x2 x3 : Str) (l : List (Str × Bool)) : Prop where
  h : ∃ C1 C2 C3, mg x1 = some (.ref C1) ∧ mg x2 = some (.ref C2) ∧ mg x3 = some (.ref C3) ∧ XkT K ct [.ref C1, .ref C2, .ref C3] l
end
section
variable {X : Cx} {ct : CT} {b : Base} {W : WX} {e : Expr} {pos : Pos}
theorem pd_xkH {x : Str} {p p2 : Pos} {f : CE} {l : List (Str × Bool)} (T : XkH X.K X.mg ct x l) (hm : X.mg "isinstance" = none) (ha : PD X ct b W f e) (hg : Gl X "isinstance" := by rfl) (hgT : Gl X x := by rfl)
    (hdb : (x == ("__debug__" : Str)) = false := by decide) (he : starEach (e :: [.Name x p2]) X.env = (false, eval e X.env) :: starEach [.Name x p2] X.env := by rfl) (hpl : (backTo pos (starEach [.Name x p2] X.env)).any (·.1) = false := by rfl)
    (hs2 : starEach [.Name x p2] X.env = (false, eval (.Name x p2) X.env) :: starEach [] X.env := by rfl) : PD X ct b W (eXk l f) (.Call (.Name "isinstance" p) [e, .Name x p2] [] pos) := by
  obtain ⟨C, hmT, T⟩ := T.h
  exact pd_xk1 T hm hmT ha hg hgT hdb he hpl hs2
end
/-! ### the machine -/
section
variable {en : En} {M : Store} {E : EX}
def kXk (l : List (Str × Bool)) (Q : D → Store → Prop) (d : D) (M : Store) : Prop := PV (xkB M l d) M Q
@[simp] theorem kXk_app {l : List (Str × Bool)} {Q : D → Store → Prop} {d : D} : kXk l Q d M = PV (xkB M l d) M Q := rfl
@[simp] theorem m_eXk {l : List (Str × Bool)} {f : CE} {Q : D → Store → Prop} : Post (eXk l f en M) Q E = Post (f en M) (kXk l Q) E := by
  simp only [eXk, Post_bind_eq, Post_ofO]
  rfl
def kXkF (f : Str) (l : List Str) (Q : D → Store → Prop) (d : D) (M : Store) : Prop := PV (xkF M f l d) M Q
@[simp] theorem kXkF_app {f : Str} {l : List Str} {Q : D → Store → Prop} {d : D} : kXkF f l Q d M = PV (xkF M f l d) M Q := rfl
@[simp] theorem m_eXkF {f : Str} {l : List Str} {g : CE} {Q : D → Store → Prop} : Post (eXkF f l g en M) Q E = Post (g en M) (kXkF f l Q) E := by
  simp only [eXkF, Post_bind_eq, Post_ofO]
  rfl
def kLM2 (g : List D → List D → Option D) (xs : List D) (Q : D → Store → Prop) (ds : List D) (M : Store) : Prop := PV (g xs ds) M Q
@[simp] theorem kLM2_app {g : List D → List D → Option D} {xs ds : List D} {Q : D → Store → Prop} : kLM2 g xs Q ds M = PV (g xs ds) M Q := rfl
def kLM (g : List D → List D → Option D) (args : CA) (en : En) (Q : D → Store → Prop) (E : EX) (d : D) (M : Store) : Prop := match d with
  | .lst xs => Post (args en M) (kLM2 g xs Q) E
  | _ => False
@[simp] theorem kLM_app {g : List D → List D → Option D} {args : CA} {xs : List D} {Q : D → Store → Prop} : kLM g args en Q E (.lst xs) M = Post (args en M) (kLM2 g xs Q) E := rfl
@[simp] theorem m_eLM {g : List D → List D → Option D} {f : CE} {args : CA} {Q : D → Store → Prop} : Post (eLM g f args en M) Q E = Post (f en M) (kLM g args en Q E) E := by
  simp only [eLM, Post_bind_eq]
  congr 1
  funext d M1
  cases d <;> try rfl
  rw [kLM_app]
  simp only [Post_bind_eq, Post_ofO]
  rfl
end
end DL

/-! DL63: raise of an own class without own __init__, with a text. -/
namespace DL
open PySem PySem.Spec PyProof.Rows L2
def raiseP (x : Str) : CS := fun en M => .ok (.exc x [] en) M
/-- a class without own __init__ whose instances are raised -/
structure ExcP (K : PySem.W.Frag) (mg : Str → Option Value) (ct : CT) (x : Str) : Prop where
  ex : ∃ C : Addr, mg x = some (.ref C) ∧ ct.c x = C ∧ PySem.W.excIn K C [.type "ValueError", .type "Exception", .type "BaseException", .type "object"] "ValueError.__new__" = true ∧ PySem.W.keepIn K (.ref C) = true ∧
    PySem.W.subIn K (.ref C) (.type "BaseException") = some true ∧ PySem.W.typeIn K (.ref C) = some (.type "type")
section
variable {X : Cx} {ct : CT} {b : Base} {W : WX} {x m : Str} {j : Nat} {p p2 pos pos2 : Pos}
@[simp] theorem m_raiseP {en : En} {M : Store} {Q : QF} {E : EX} : Post (raiseP x en M) Q E = Q (.exc x [] en) M := rfl
end
end DL

/-! DL64: isinstance of an own class; == and != by an own __eq__. -/
namespace DL
open PySem PySem.Spec PyProof.Rows L2
/-- an own class whose instances are asked for -/
structure IsoC (K : PySem.W.Frag) (mg : Str → Option Value) (ct : CT) (c : Str) : Prop where
  gl : mg c = some (.ref (ct.c c))
  cl : Cls K (ct.c c)
  ha : PySem.W.findIn K (.ref (ct.c c)) "__class__" = some (some (.builtin "object.__class__"))
  hn : PySem.W.specialIn K (.builtin "object.__class__") "__get__" = some (some (.builtin "getset_descriptor.__get__"))
  ht : PySem.W.takesIn K (.builtin "object.__class__") = some true
  hm : PySem.W.mroIn K (ct.c c) (.type "object") = some true
  is : PySem.W.isClsIn K (ct.c c) = true
  ty : PySem.W.typeIn K (.ref (ct.c c)) = some (.type "type")
def tyV (M : Store) (d : D) : Option Nat := (vwD M d).bind tyN
def isoB (c : Str) (M : Store) (d : D) : Option D := match tyV M d with
  | some _ => some (.bl false)
  | none => match d with
    | .ref n => (insAt c M[n]?).map fun _ => .bl true
    | _ => none
def eIsO (c : Str) (f : CE) : CE := fun en M => (f en M).bind fun d M1 => ofO (isoB c M1 d) M1
section
variable {K : PySem.W.Frag} {mg : Str → Option Value} {ct : CT} {c : Str} {w : Wd} {M : Store} {H : Hp} {d : D} {v : V}
end
section
variable {X : Cx} {ct : CT} {b : Base} {W : WX} {e o : Expr} {pos : Pos}
end
/-! ### == by an own __eq__ -/
structure EqC (P : Program) (w : World) (K : PySem.W.Frag) (mg : Str → Option Value) (base : Heap) (ct : CT) (c : Str) (k : Nat) (cf : CF) : Prop where
  me : MetC P w K mg base ct c "__eq__" k 1 [] [0, 1] [] cf
  iso : IsoC K mg ct c
  ne : PySem.W.findIn K (.ref (ct.c c)) "__ne__" = some (some (.builtin "object.__ne__"))
def eqR (c : Str) (M : Store) (d : D) : Bool := (tyV M d).isSome || (match d with
  | .ref n => (insAt c M[n]?).isSome
  | _ => false)
def eEqI (ng : Bool) (c : Str) (cf : CF) (fo fr : CE) : CE := fun en M => (fo en M).bind fun d M1 => (fr en M1).bind fun e M2 => match d with
  | .ref r => if (insAt c M2[r]?).isSome = true ∧ eqR c M2 e = true then (cf [.ref r, e] M2).bind fun v M3 => match v with
    | .bl k => .ok (.bl (if ng = true then !k else k)) M3
    | _ => .err else .err
  | _ => .err
section
variable {prog : Program} {w : World} {A : Around} {E : Value → Shared → Prop} {s : Shared} {K : PySem.W.Frag} {x C L f : Addr} {h₀ : Heap} {m : Str → Option Value} {ox : Obj} {od : Option Obj} {b tb : Value}
end
section
variable {X : Cx} {ct : CT} {b : Base} {W : WX} {e o : Expr} {pos : Pos} {c : Str} {k : Nat} {cf : CF} {fo fr : CE}
/-- what is known when both sides are there -/
def EqP (X : Cx) (ct : CT) (W : WX) (ng : Bool) (c : Str) (cf : CF) (cv : List V) (Q : VK) (σ : L2.St) (v y : V) (H : Hp) : Prop := ∃ a dx fs, v = .ref a ∧ H a = some (.ins (ct.c c) dx fs) ∧
  ((∃ n, TyX X.K H y (.type (nmN n))) ∨ TyX X.K H y (.ref (ct.c c))) ∧ SpD X.K ct cf (pick [0, 1] (.ref a :: [y] ++ [] ++ cv)) H (fun r H3 => ∃ k, r = .bl k ∧ Q (.bl (if ng = true then !k else k)) H3) (WE W σ)
/-- a bool as a test -/
def bB (f : CE) : CB := fun en M => (f en M).bind fun d M => match d with
  | .bl k => .ok k M
  | _ => .err
end
/-! ### the machine -/
@[simp] theorem m_bB {f : CE} {en : En} {M : Store} {Q : Bool → Store → Prop} {E : EX} : Post (bB f en M) Q E = Post (f en M) (kBl Q) E := by
  simp only [bB, Post_bind_eq]
  congr 1
  funext d M
  cases d <;> rfl
section
variable {en : En} {M : Store} {E : Str → List (Str × D) → Store → Prop} {Q : D → Store → Prop} {c : Str} {f fo fr : CE} {cf : CF} {ng : Bool} {d e : D}
def kIsO (c : Str) (Q : D → Store → Prop) (d : D) (M : Store) : Prop := PV (isoB c M d) M Q
@[simp] theorem kIsO_app : kIsO c Q d M = PV (isoB c M d) M Q := rfl
@[simp] theorem m_eIsO : Post (eIsO c f en M) Q E = Post (f en M) (kIsO c Q) E := by
  simp only [eIsO, Post_bind_eq, Post_ofO]
  rfl
def kEqB (ng : Bool) (Q : D → Store → Prop) (v : D) (M : Store) : Prop := match v with
  | .bl k => Q (.bl (if ng = true then !k else k)) M
  | _ => False
@[simp] theorem kEqB_f {k : Bool} : kEqB false Q (.bl k) M = Q (.bl k) M := rfl
@[simp] theorem kEqB_t {k : Bool} : kEqB true Q (.bl k) M = Q (.bl (!k)) M := rfl
def kEq2 (ng : Bool) (c : Str) (cf : CF) (Q : D → Store → Prop) (E : Str → List (Str × D) → Store → Prop) (d e : D) (M : Store) : Prop := match d with
  | .ref r => ((insAt c (gt M r)).isSome = true ∧ eqR c M e = true) ∧ Post (cf [.ref r, e] M) (kEqB ng Q) E
  | _ => False
@[simp] theorem kEq2_ref {r : Nat} : kEq2 ng c cf Q E (.ref r) e M = (((insAt c (gt M r)).isSome = true ∧ eqR c M e = true) ∧ Post (cf [.ref r, e] M) (kEqB ng Q) E) := rfl
def kEq1 (ng : Bool) (c : Str) (cf : CF) (fr : CE) (en : En) (Q : D → Store → Prop) (E : Str → List (Str × D) → Store → Prop) (d : D) (M : Store) : Prop := Post (fr en M) (kEq2 ng c cf Q E d) E
@[simp] theorem kEq1_app : kEq1 ng c cf fr en Q E d M = Post (fr en M) (kEq2 ng c cf Q E d) E := rfl
theorem eqB_post {v : D} {M3 : Store} : Post (match v with | .bl k => Out.ok (.bl (if ng = true then !k else k)) M3 | _ => .err) Q E = kEqB ng Q v M3 := by
  cases v <;> rfl
@[simp] theorem m_eEqI : Post (eEqI ng c cf fo fr en M) Q E = Post (fo en M) (kEq1 ng c cf fr en Q E) E := by
  unfold eEqI
  rw [Post_bind_eq]
  congr 1
  funext d M1
  rw [Post_bind_eq, kEq1_app]
  congr 1
  funext e M2
  cases d with
  | ref r =>
    rw [kEq2_ref, ← gt_eq]
    show Post (if (insAt c M2[r]?).isSome = true ∧ eqR c M2 e = true then _ else _) Q E = _
    by_cases h : (insAt c M2[r]?).isSome = true ∧ eqR c M2 e = true
    · rw [if_pos h, Post_bind_eq]
      simp only [h, true_and, and_self]
      congr 1
      funext v M3
      exact eqB_post
    · rw [if_neg h]
      simp only [h, false_and]
      rfl
  | _ => rfl
end
end DL

/-! DL65: an expression with a flat answer while two dicts of the store are locked. -/
namespace DL
open PySem PySem.Spec PyProof.Rows L2
def eLk2 (i j : Nat) (f : CE) : CE := fun en M => match en[i]?, en[j]? with
  | some (some (.val (.ref n))), some (some (.val (.ref m))) => match M[n]?, M[m]? with
    | some (.dic ks xs), some (.dic ls ys) => if (n ≠ m ∧ i ≠ j) ∧ (xs.all flat = true ∧ ys.all flat = true) then (match f (hide ((en.set i (some (.val (.dic ks xs)))).set j (some (.val (.dic ls ys))))) [] with
        | .ok d [] => if flat d then .ok d M else .err
        | _ => .err) else .err
    | _, _ => .err
  | _, _ => f en M
section
variable {X : Cx} {ct : CT} {b : Base} {W : WX} {e : Expr} {i j : Nat} {f : CE}
end
section
variable {i j : Nat} {f : CE} {en : En} {M : Store} {Q : D → Store → Prop} {E : Str → List (Str × D) → Store → Prop}
/-- the machine: a dict that stands for ever needs no lock -/
def kLk (i : Nat) (f : CE) (en : En) (M : Store) (Q : D → Store → Prop) (E : Str → List (Str × D) → Store → Prop) (s : Option (Option Slot)) : Prop := match s with
  | some (some (.val (.dic _ _))) => Post (f en M) Q E
  | _ => Post (eLk i f en M) Q E
@[simp] theorem kLk_dic {ks : List Key} {xs : List D} : kLk i f en M Q E (some (some (.val (.dic ks xs)))) = Post (f en M) Q E := rfl
@[simp] theorem m_eLk : Post (eLk i f en M) Q E = kLk i f en M Q E en[i]? := by
  unfold kLk
  split
  · rename_i ks xs h
    rw [eLk_dic h]
  · rfl
def kLk2 (i j : Nat) (f : CE) (en : En) (M : Store) (Q : D → Store → Prop) (E : Str → List (Str × D) → Store → Prop) (s : Option (Option Slot)) : Prop := match s with
  | some (some (.val (.dic _ _))) => Post (f en M) Q E
  | _ => Post (eLk2 i j f en M) Q E
@[simp] theorem kLk2_dic {ks : List Key} {xs : List D} : kLk2 i j f en M Q E (some (some (.val (.dic ks xs)))) = Post (f en M) Q E := rfl
@[simp] theorem m_eLk2 : Post (eLk2 i j f en M) Q E = kLk2 i j f en M Q E en[i]? := by
  unfold kLk2
  split
  · rename_i ks xs h
    unfold eLk2
    rw [h]
  · rfl
end
end DL

/-! DL55: dict(zip(xs, ys)) over a list or tuple and a list or tuple. -/
namespace DL
open PySem PySem.Spec PyProof.Rows L2
section
variable {prog : Program} {w : World} {A : Around} {E : Value → Shared → Prop} {s : Shared} {z TI TO i1 i2 T : Addr} {fp1 fp2 : List Addr} {n1 n2 i : Nat} {P1 P2 : Nat → Value → Prop} {St1 St2 : Nat → Heap → Prop} {f : Bool} {oT : Obj}
end
section
variable {prog : Program} {w : World} {z TI TO i1 i2 : Addr} {fp1 fp2 : List Addr} {n1 n2 : Nat} {P1 P2 : Nat → Value → Prop} {St1 St2 : Nat → Heap → Prop}
end
/-- a list or a tuple, as it begins and what it draws -/
structure SeqA (prog : Program) (w : World) (a : Addr) (items : Array Value) (h : Heap) : Prop where
  ex : ∃ (o : Obj) (HB : Heap → Prop), Begins (.ref a) o HB ∧ HB h ∧ ∀ it, a ≠ it → ∃ St : Nat → Heap → Prop, (∀ A : Around, A.handled = none → Draws prog w A it [it, a] items.size (fun i v => items[i]? = some v) St) ∧ (∀ h', h'.get? it = some o → HB h' → St 0 h') ∧ ∀ h', St 0 h' → ∀ b ∈ [it, a], ∃ o, h'.get? b = some o
def SqV (K : PySem.W.Frag) (H : Hp) (a : Addr) (xs : List V) : Prop := SqL K H a xs ∨ SqT K H a xs
def rDictZ (K : PySem.W.Frag) : List V → Hp → VK → Prop := fun xs H Q => ∃ (a c : Addr) (ks : List Key) (ys : List V), xs = [.ref a, .ref c] ∧ SqV K H a (ks.map kV) ∧ SqV K H c ys ∧ ∀ p, H p = none → Q (.ref p) (upd H p (.dK (mergeK [] (ks.zip ys))))
section
variable {X : Cx} {e1 e2 : Expr} {ta : TA} {p p2 pos pos2 : Pos}
end
/-! ### in data -/
def seqD : D → Option (List D)
  | .lst xs => some xs
  | .tup xs => some xs
  | _ => none
def keysD : List D → Option (List Key)
  | [] => some []
  | d :: r => (keyD d).bind fun k => (keysD r).map fun l => k :: l
def dictZ (M : Store) (d1 d2 : D) : Option MO := (vwD M d1).bind fun v1 => (vwD M d2).bind fun v2 => (seqD v1).bind fun xs => (seqD v2).bind fun ys => (keysD xs).map fun ks => .dic (mergeD [] [] (ks.zip ys)).1 (mergeD [] [] (ks.zip ys)).2
/-- dict(zip(xs, ys)) -/
def nDictZ (f : CA) : CN := fun en M => (f en M).bind fun ds M1 => match ds with
  | [d1, d2] => ofO (dictZ M1 d1 d2) M1
  | _ => .err
section
variable {X : Cx} {ct : CT} {b : Base} {W : WX} {e1 e2 : Expr} {p p2 pos pos2 : Pos}
end
section
variable {en : En} {M : Store} {E : EX}
def kDictZ (Q : MO → Store → Prop) (ds : List D) (M : Store) : Prop := match ds with | [d1, d2] => PV (dictZ M d1 d2) M Q | _ => False
@[simp] theorem kDictZ_app {Q : MO → Store → Prop} {d1 d2 : D} : kDictZ Q [d1, d2] M = PV (dictZ M d1 d2) M Q := rfl
@[simp] theorem m_nDictZ {f : CA} {Q : MO → Store → Prop} : Post (nDictZ f en M) Q E = Post (f en M) (kDictZ Q) E := by
  unfold nDictZ
  rw [Post_bind_eq]
  congr 1
  funext ds M1
  match ds with
  | [d1, d2] =>
    rw [Post_ofO]
    rfl
  | [] => rfl
  | [_] => rfl
  | _ :: _ :: _ :: _ => rfl
end
end DL

/-! DL73: tuple(d.values()). -/
namespace DL
open PySem PySem.Spec PyProof.Rows L2 LiI
open AutoSeq1 (wpAny_loadPart')
open PySem.W (KdlSrc kdl_extend)
section
variable {prog : Program} {w : World} {A : Around} {E : Value → Shared → Prop} {s : Shared} {T : String} {r d : Addr} {n : Nat} {P : Nat → Value → Prop} {OK : Heap → Prop}
end
def rValsT : V → Hp → VK → Prop := fun x H Q => ∃ (d : Addr) (kvs : List (Key × V)), x = .ref d ∧ Rd H d (.dK kvs) ∧ ∀ q o, H q = none → o.dict = none → Q (.ref q) (upd H q (.frz o (.tup (kvs.map (·.2)))))
section
variable {X : Cx} {e : Expr} {te : TE} {p apos cpos pos : Pos}
end
/-- tuple(d.values()) -/
def eValsT (f : CE) : CE := fun en M => (f en M).bind fun d M1 => match vwD M1 d with
  | some (.dic ks xs) => if ks.length = xs.length then .ok (.tup xs) M1 else .err
  | _ => .err
section
variable {X : Cx} {ct : CT} {b : Base} {W : WX} {e : Expr} {p apos cpos pos : Pos}
end
section
variable {en : En} {M : Store} {E : Str → List (Str × D) → Store → Prop}
def kValsU (Q : D → Store → Prop) (v : Option D) (M : Store) : Prop := match v with | some (.dic ks xs) => ks.length = xs.length ∧ Q (.tup xs) M | _ => False
def kValsT (Q : D → Store → Prop) (d : D) (M : Store) : Prop := kValsU Q (vwD M d) M
@[simp] theorem kValsU_app {Q : D → Store → Prop} {ks : List Key} {xs : List D} : kValsU Q (some (.dic ks xs)) M = (ks.length = xs.length ∧ Q (.tup xs) M) := rfl
@[simp] theorem kValsT_app {Q : D → Store → Prop} {ks : List Key} {xs : List D} : kValsT Q (.dic ks xs) M = (ks.length = xs.length ∧ Q (.tup xs) M) := rfl
@[simp] theorem kValsT_ref {Q : D → Store → Prop} {n : Nat} : kValsT Q (.ref n) M = kValsU Q (vwR (gt M n) n) M := by
  unfold kValsT
  rw [vwD_ref]
@[simp] theorem m_eValsT {f : CE} {Q : D → Store → Prop} : Post (eValsT f en M) Q E = Post (f en M) (kValsT Q) E := by
  simp only [eValsT, Post_bind_eq]
  congr 1
  funext d M1
  unfold kValsT kValsU
  split <;> first | rfl | exact Post_ite
end
end DL

/-! DL74: dicts whose keys are tuples, nested (a frame's own): `k not in d`, d[k] = v, {k: v}. -/
namespace DL
open PySem PySem.Spec PyProof.Rows L2
/-! ### keys in the heap -/
section
variable {X : Cx} {pins : List (Addr × Obj)} {σ : L2.St} {H : Hp} {s : Shared} {w : Wd}
mutual
theorem nk_at (I : Inv X pins σ H s) (sub : Sub w.F H) : ∀ (d : D) (v : V) (u : Value) (k : NestedKey), Rep X.K w d v → RelV v u → nkD d = some k → NestedIs s.heap k u
  | .non, v, u, k, x, r, e => by
    simp only [Rep] at x
    subst x
    cases e
    obtain rfl : u = Value.none := r
    exact .none
  | .bl b, v, u, k, x, r, e => by
    simp only [Rep] at x
    subst x
    cases e
    obtain rfl : u = Value.bool b := r
    exact .bool rfl
  | .int i, v, u, k, x, r, e => by
    simp only [Rep] at x
    subst x
    cases e
    obtain ⟨t, rfl⟩ : ∃ t, u = Value.int i t := r
    exact .int i t
  | .str y, v, u, k, x, r, e => by
    simp only [Rep] at x
    subst x
    cases e
    obtain ⟨t, rfl⟩ : ∃ t, u = Value.str y t := r
    exact .text y t
  | .tup xs, v, u, k, x, r, e => by
    simp only [Rep] at x
    obtain ⟨a, vs, rfl, h1, h2⟩ := x
    obtain rfl : u = Value.ref a := r
    unfold nkD at e
    obtain ⟨l, e1, rfl⟩ := Option.map_eq_some_iff.mp e
    obtain ⟨its, rv, ⟨o, g1, g2, n, g3⟩, _⟩ := I.tuple (sub.sqt h1)
    exact .tup g1 g2 g3 (by simpa using nks_at I sub xs vs its l h2 rv e1)
  | .lst xs, v, u, k, x, r, e => by cases e
  | .dic ks xs, v, u, k, x, r, e => by cases e
  | .ref n, v, u, k, x, r, e => by cases e
  | .scr ns, v, u, k, x, r, e => by cases e
theorem nks_at (I : Inv X pins σ H s) (sub : Sub w.F H) : ∀ (ds : List D) (vs : List V) (us : List Value) (ks : List NestedKey), RepL X.K w ds vs → Vals vs us → nkL ds = some ks → NestedAll s.heap ks us
  | [], vs, us, ks, x, r, e => by
    rw [RepL.nil_iff] at x
    subst x
    cases r
    cases e
    exact .nil
  | d :: ds, vs, us, ks, x, r, e => by
    rw [RepL.cons_iff] at x
    obtain ⟨v, vr, rfl, h1, h2⟩ := x
    cases r with
    | cons r1 r2 =>
      unfold nkL at e
      obtain ⟨k, e1, e⟩ := Option.bind_eq_some_iff.mp e
      obtain ⟨l, e2, rfl⟩ := Option.map_eq_some_iff.mp e
      exact .cons (nk_at I sub d v _ k h1 r1 e1) (nks_at I sub ds vr _ l h2 r2 e2)
end
end
/-! ### k not in d -/
section
variable {X : Cx} {ct : CT} {b : Base} {W : WX} {e e1 e2 : Expr} {pos : Pos}
def rKdNin (X : Cx) : R2 := fun x y H Q => ∃ (w : Wd) (q a : Addr) (ks : List D) (es : List (NestedKey × Addr × V)) (d : D) (k : NestedKey), Sub w.F H ∧ y = .ref q ∧ H q = some (.ext (KdP X.prog X.w a es)) ∧ keysT ks = some (es.map (·.1)) ∧ RepL X.K w ks (es.map fun e => V.ref e.2.1) ∧ Rep X.K w d x ∧ keyT d = some k ∧ Q (.bl (!decide (k ∈ es.map (·.1)))) H
/-- whether a key is there -/
def kdHas (ks : List D) (d : D) : Option Bool := (keyT d).bind fun k => (keysT ks).map fun l => decide (k ∈ l)
noncomputable def eKdNin (f : CE) (i : Nat) : CE := fun en M => (f en M).bind fun d M1 => match en[i]? with
  | some (some (.own (.kd ks _))) => ofO ((kdHas ks d).map fun k => .bl (!k)) M1
  | _ => .err
noncomputable def bKdNin (f : CE) (i : Nat) : CB := fun en M => (eKdNin f i en M).bind fun d M => match d with
  | .bl k => .ok k M
  | _ => .err
end
/-! ### d[k] = v -/
def putE (es : List (NestedKey × Addr × V)) (k : NestedKey) (ia : Addr) (v : V) : List (NestedKey × Addr × V) := if k ∈ es.map (·.1) then es.map (fun e => if e.1 = k then (e.1, e.2.1, v) else e) else es ++ [(k, ia, v)]
section
variable {X : Cx} {ct : CT} {b : Base} {W : WX} {e e1 e2 : Expr} {pos : Pos}
def rKdPut (X : Cx) : TSet := fun o i v H Q => ∃ (w : Wd) (q a : Addr) (ks : List D) (es : List (NestedKey × Addr × V)) (d : D) (k : NestedKey), Sub w.F H ∧ o = .ref q ∧ H q = some (.ext (KdP X.prog X.w a es)) ∧ keysT ks = some (es.map (·.1)) ∧ RepL X.K w ks (es.map fun e => V.ref e.2.1) ∧ Rep X.K w d i ∧ keyT d = some k ∧ es.length < sizeLine ∧
  ∀ ia, i = .ref ia → Q (upd H q (.ext (KdP X.prog X.w q (putE es k ia v))))
/-- d[k] = v, in data -/
def kdPut (ks xs : List D) (d v : D) : Option MO := (keyT d).bind fun k => (keysT ks).bind fun l => if ks.length < sizeLine then some (if k ∈ l then .kd ks ((l.zip xs).map fun p => if p.1 = k then v else p.2) else .kd (ks ++ [d]) (xs ++ [v])) else none
/-- own[k] = v, the keys tuples -/
def stK (i : Nat) (fk fv : CE) : CS := fun en M => thenS (fv en M) en fun v M1 => match en[i]? with
  | some (some (.own (.kd ks xs))) => thenS (fk en M1) en fun k M2 => match kdPut ks xs k v with
    | some o' => .ok (.next (en.set i (some (.own o')))) M2
    | none => .err
  | _ => .err
end
/-! ### {k: v} -/
section
variable {X : Cx} {ct : CT} {b : Base} {W : WX} {e1 e2 : Expr} {pos : Pos}
def tDispK (X : Cx) (tk tv : TE) : TE := fun σ H Q => ∀ p, H p = none → tPairs [(tk, tv)] σ (upd H p (.dK [])) fun ps H2 => H2 p = some (.dK []) ∧
  ∃ (w : Wd) (d : D) (k : NestedKey) (x y : V), ps = [(x, y)] ∧ Sub w.F H2 ∧ Rep X.K w d x ∧ keyT d = some k ∧ ∀ ia, x = .ref ia → Q (.ref p) (upd H2 p (.ext (KdP X.prog X.w p [(k, ia, y)])))
/-- {k: v}, the key a tuple -/
def nDispK (fk fv : CE) : CN := fun en M => (fk en M).bind fun d M1 => (fv en M1).bind fun v M2 => ofO ((keyT d).map fun _ => MO.kd [d] [v]) M2
end
/-! ### the machine -/
section
variable {en : En} {M : Store} {E : EX}
def kdOf : Option (Option Slot) → Option (List D × List D)
  | some (some (.own (.kd ks xs))) => some (ks, xs)
  | _ => none
@[simp] theorem kdOf_own {ks xs : List D} : kdOf (some (some (.own (.kd ks xs)))) = some (ks, xs) := rfl
def kKdN (i : Nat) (en : En) (Q : Bool → Store → Prop) (d : D) (M : Store) : Prop := PV ((kdOf (gt en i)).bind fun p => kdHas p.1 d) M fun k M => Q (!k) M
@[simp] theorem kKdN_app {i : Nat} {Q : Bool → Store → Prop} {d : D} : kKdN i en Q d M = PV ((kdOf (gt en i)).bind fun p => kdHas p.1 d) M fun k M => Q (!k) M := rfl
@[simp] theorem m_bKdNin {f : CE} {i : Nat} {Q : Bool → Store → Prop} : Post (bKdNin f i en M) Q E = Post (f en M) (kKdN i en Q) E := by
  simp only [bKdNin, eKdNin, Post_bind_eq]
  congr 1
  funext d M1
  rw [kKdN_app, ← gt_eq]
  cases q : en[i]? with
  | none => rfl
  | some s =>
    cases s with
    | none => rfl
    | some s =>
      cases s with
      | val d => rfl
      | own o =>
        cases o with
        | kd ks xs =>
          show Post (ofO ((kdHas ks d).map _) M1) _ _ = PV (kdHas ks d) M1 _
          cases kdHas ks d <;> rfl
        | _ => rfl
def kStK2 (i : Nat) (v : D) (en : En) (Q : QF) (k : D) (M : Store) : Prop := PV ((kdOf (gt en i)).bind fun p => kdPut p.1 p.2 k v) M (kOwnS i en Q)
@[simp] theorem kStK2_app {i : Nat} {v k : D} {Q : QF} : kStK2 i v en Q k M = PV ((kdOf (gt en i)).bind fun p => kdPut p.1 p.2 k v) M (kOwnS i en Q) := rfl
def kStK1 (i : Nat) (fk : CE) (en : En) (Q : QF) (v : D) (M : Store) : Prop := (kdOf (gt en i)).isSome = true ∧ Post (fk en M) (kStK2 i v en Q) (kEx en Q)
@[simp] theorem kStK1_app {i : Nat} {fk : CE} {v : D} {Q : QF} : kStK1 i fk en Q v M = ((kdOf (gt en i)).isSome = true ∧ Post (fk en M) (kStK2 i v en Q) (kEx en Q)) := rfl
@[simp] theorem m_stK {i : Nat} {fk fv : CE} {Q : QF} : Post (stK i fk fv en M) Q E = Post (fv en M) (kStK1 i fk en Q) (kEx en Q) := by
  simp only [stK, Post_thenS]
  congr 1
  funext v M1
  rw [kStK1_app, ← gt_eq]
  cases q : en[i]? with
  | none => simp [kdOf]
  | some s =>
    cases s with
    | none => simp [kdOf]
    | some s =>
      cases s with
      | val d => simp [kdOf]
      | own o =>
        cases o with
        | kd ks xs =>
          simp only [kdOf_own, Option.isSome_some, true_and, Post_thenS]
          congr 1
          funext k M2
          rw [kStK2_app, ← gt_eq, q]
          show Post (match kdPut ks xs k v with | some o' => _ | none => _) Q E = PV (kdPut ks xs k v) M2 _
          cases kdPut ks xs k v <;> rfl
        | _ => simp [kdOf]
def kDisK2 (k : D) (Q : MO → Store → Prop) (v : D) (M : Store) : Prop := PV ((keyT k).map fun _ => MO.kd [k] [v]) M Q
@[simp] theorem kDisK2_app {k v : D} {Q : MO → Store → Prop} : kDisK2 k Q v M = PV ((keyT k).map fun _ => MO.kd [k] [v]) M Q := rfl
def kDisK1 (fv : CE) (en : En) (Q : MO → Store → Prop) (E : EX) (k : D) (M : Store) : Prop := Post (fv en M) (kDisK2 k Q) E
@[simp] theorem kDisK1_app {fv : CE} {k : D} {Q : MO → Store → Prop} : kDisK1 fv en Q E k M = Post (fv en M) (kDisK2 k Q) E := rfl
@[simp] theorem m_nDispK {fk fv : CE} {Q : MO → Store → Prop} : Post (nDispK fk fv en M) Q E = Post (fk en M) (kDisK1 fv en Q E) E := by
  simp only [nDispK, Post_bind_eq]
  congr 1
  funext k M1
  rw [kDisK1_app]
  congr 1
  funext v M2
  rw [kDisK2_app, Post_ofO]
end
/-! ### the assembly's table -/
def ctW (P : Program) (w : World) (mg : Str → Option Value) : CT := ⟨(ctOf mg).c, [], some (P, w)⟩
end DL

/-! DL75: tuples of numbers, texts and tuples compared by < and >, and sorted (by the kit's order of plain data). -/
namespace DL
open PySem PySem.Spec PyProof.Rows L2 PySem.W
mutual
def dP : D → Option PyData
  | .non => some .none
  | .bl b => some (.bool b)
  | .int i => some (.int i)
  | .str x => some (.str x)
  | .tup xs => (dPL xs).map .tuple
  | _ => none
def dPL : List D → Option (List PyData)
  | [] => some []
  | x :: xs => (dP x).bind fun p => (dPL xs).map fun l => p :: l
end
section
variable {X : Cx} {pins : List (Addr × Obj)} {σ : L2.St} {H : Hp} {s : Shared} {w : Wd}
mutual
theorem reads_at (I : L2.Inv X pins σ H s) (sub : Sub w.F H) : ∀ (d : D) (v : V) (u : Value) (p : PyData), Rep X.K w d v → L2.RelV v u → dP d = some p → ∃ as, Reads s.heap u p as
  | .non, v, u, k, x, r, e => by
    simp only [Rep] at x
    subst x
    cases e
    obtain rfl : u = Value.none := r
    exact ⟨_, .none⟩
  | .bl b, v, u, k, x, r, e => by
    simp only [Rep] at x
    subst x
    cases e
    obtain rfl : u = Value.bool b := r
    exact ⟨_, .bool b⟩
  | .int i, v, u, k, x, r, e => by
    simp only [Rep] at x
    subst x
    cases e
    obtain ⟨t, rfl⟩ : ∃ t, u = Value.int i t := r
    exact ⟨_, .int i t⟩
  | .str y, v, u, k, x, r, e => by
    simp only [Rep] at x
    subst x
    cases e
    obtain ⟨t, rfl⟩ : ∃ t, u = Value.str y t := r
    exact ⟨_, .str y t⟩
  | .tup xs, v, u, k, x, r, e => by
    simp only [Rep] at x
    obtain ⟨a, vs, rfl, h1, h2⟩ := x
    obtain rfl : u = Value.ref a := r
    unfold dP at e
    obtain ⟨l, e1, rfl⟩ := Option.map_eq_some_iff.mp e
    obtain ⟨its, rv, ⟨o, g1, g2, n, g3⟩, _⟩ := I.tuple (sub.sqt h1)
    obtain ⟨as, ra⟩ := readsL_at I sub xs vs its l h2 rv e1
    exact ⟨as, .tuple g1 g2 g3 (by simpa using ra)⟩
  | .lst xs, v, u, k, x, r, e => by cases e
  | .dic ks xs, v, u, k, x, r, e => by cases e
  | .ref n, v, u, k, x, r, e => by cases e
  | .scr ns, v, u, k, x, r, e => by cases e
theorem readsL_at (I : L2.Inv X pins σ H s) (sub : Sub w.F H) : ∀ (ds : List D) (vs : List V) (us : List Value) (ps : List PyData), RepL X.K w ds vs → Vals vs us → dPL ds = some ps → ∃ as, ReadsAll s.heap us ps as
  | [], vs, us, ks, x, r, e => by
    rw [RepL.nil_iff] at x
    subst x
    cases r
    cases e
    exact ⟨_, .nil⟩
  | d :: ds, vs, us, ks, x, r, e => by
    rw [RepL.cons_iff] at x
    obtain ⟨v, vr, rfl, h1, h2⟩ := x
    cases r with
    | cons r1 r2 =>
      unfold dPL at e
      obtain ⟨k, e1, e⟩ := Option.bind_eq_some_iff.mp e
      obtain ⟨l, e2, rfl⟩ := Option.map_eq_some_iff.mp e
      obtain ⟨as, ra⟩ := reads_at I sub d v _ k h1 r1 e1
      obtain ⟨bs, rb⟩ := readsL_at I sub ds vr _ l h2 r2 e2
      exact ⟨_, .cons ra rb⟩
end
end
/-! ### a < b, a > b -/
def cmpT (a b : D) : Option (PyData × PyData) := match a, b with
  | .tup xs, .tup ys => (dP (.tup xs)).bind fun p => (dP (.tup ys)).bind fun q => if alike p q = true ∧ alike q p = true ∧ p.depth ≤ 8 ∧ q.depth ≤ 8 then some (p, q) else none
  | _, _ => none
def gLtT (a b : D) : Option D := match cmpT a b with
  | some (p, q) => some (.bl (dataLt p q))
  | none => gLt a b
def gGtT (a b : D) : Option D := match cmpT a b with
  | some (p, q) => some (.bl (dataLt q p))
  | none => gGt a b
section
variable {X : Cx} {ct : CT}
def rLtT (X : Cx) : R2 := fun x y H Q => ∃ (w : Wd) (dx dy : D) (p q : PyData), Sub w.F H ∧ Rep X.K w dx x ∧ Rep X.K w dy y ∧ dP dx = some p ∧ dP dy = some q ∧ alike p q = true ∧ p.depth ≤ 8 ∧ p ≠ .none ∧ Q (.bl (dataLt p q)) H
def rGtT (X : Cx) : R2 := fun x y H Q => ∃ (w : Wd) (dx dy : D) (p q : PyData), Sub w.F H ∧ Rep X.K w dx x ∧ Rep X.K w dy y ∧ dP dx = some p ∧ dP dy = some q ∧ alike p q = true ∧ p.depth ≤ 8 ∧ p ≠ .none ∧ Q (.bl (dataLt q p)) H
end
/-! ### sorted -/
def encD (d : D) : PyData := (dP d).getD .none
def tupNE : PyData → Bool
  | .tuple (_ :: _) => true
  | _ => false
/-- a list of tuples that can be sorted -/
def srtD (ds : List D) : Bool := ds.all (fun d => (dP d).isSome && tupNE (encD d) && decide ((encD d).depth ≤ 8)) && ds.all fun d => ds.all fun e => alike (encD d) (encD e)
def sortD (ds : List D) : List D := ds.mergeSort (dataLe false encD)
def gSortedD : List D → Option MO
  | [.lst ds] => if srtD ds = true then some (.lst (sortD ds)) else gSorted [.lst ds]
  | ds => gSorted ds
section
variable {X : Cx} {ct : CT}
end
end DL

/-! DL83: xs.remove(s) of a list of texts in which s is. -/
namespace DL
open PySem PySem.Spec PyProof.Rows L2 PySem.W
/-- whether a value is this text -/
def isTx (k : Str) (v : Value) : Bool := match v with
  | .str n _ => n.cps.toList == k.cps.toList
  | _ => false
def rRemS : V → List V → Hp → VK → Prop := fun x xs H Q => ∃ (l : Addr) (ns : List Str) (k : Str), x = .ref l ∧ xs = [.str k] ∧ H l = some (.lst (ns.map V.str)) ∧ k ∈ ns ∧ Q .non (upd H l (.lst ((ns.erase k).map V.str)))
/-- xs.remove(s) -/
def mRemove : MO → List D → Option (MO × D)
  | .lst xs, [.str k] => (strsD xs).bind fun ns => if k ∈ ns then some (.lst ((ns.erase k).map D.str), .non) else none
  | _, _ => none
end DL

/-! DL84: a suite: y = [e.f], e the exception. -/
namespace DL
open PySem PySem.Spec PyProof.Rows L2 PySem.W
/-- y = [n.f], n the exception -/
def hFldL (cn f : Str) (j : Nat) : Str → List (Str × D) → CS := fun c fs en M => if c = cn then match fs.lookup f with
  | some d => .ok (.next (en.set j (some (.val (.lst [d]))))) M
  | none => .err
  else .err
section
variable {X : Cx} {ct : CT} {b : Base} {pos : Pos} {n : Str} {i : Nat}
end
section
variable {en : En} {M : Store} {E : EX} {Q : QF}
@[simp] theorem m_hFldL {cn f : Str} {j : Nat} {d : D} {Q : QF} : Post (hFldL cn f j cn [(f, d)] en M) Q E = Q (.next (en.set j (some (.val (.lst [d]))))) M := by
  simp [hFldL, List.lookup]
end
end DL

/-! DL85 (= DL72 over DL84): xs.extend(ys) of a list of the store, ys a list that stands for ever. -/
namespace DL
open PySem PySem.Spec PyProof.Rows L2
def mExtend : MO → List D → Option (MO × D)
  | .lst xs, [.lst ys] => if xs.length + ys.length ≤ sizeLine then some (.lst (xs ++ ys), .non) else none
  | _, _ => none
def MetVS (X : Cx) (ct : CT) (id : String) (g : MO → List D → Option (MO × D)) : Prop := ∃ r, MtR X id r ∧ ∀ w H a o ho ds vs o' d Q, Sub w.F H → H a = some ho → RepO X.K ct w o ho → RepL X.K w ds vs → g o ds = some (o', d) →
  (∀ ho' v, RepO X.K ct w o' ho' → Rep X.K w d v → Q v (upd H a ho')) → r (.ref a) vs H Q
section
variable {X : Cx} {ct : CT} {b : Base} {W : WX} {o e : Expr} {es : List Expr}
end
end DL

/-! DL86 (= DL80 over DL85): zip of a list and a tuple (DL59 with the sides exchanged); xs[lo:hi] of a list as a new list. -/
namespace RZLT
open PySem
open PySem.Sem (wp)
section
variable {prog : Program} {w : World} {A : Around} {E : Value → Shared → Prop} {s : Shared}
end
abbrev zipLTH1 (h : Heap) (l1 : Addr) : Heap := h.push { cls := .type "list_iterator", data := .fields #[.ref l1, .int 0 0] }
abbrev zipLTH2 (h : Heap) (l1 l2 : Addr) : Heap := (zipLTH1 h l1).push { cls := .type "tuple_iterator", data := .fields #[.ref l2, .int 0 0] }
abbrev zipLTH3 (h : Heap) (l1 l2 : Addr) : Heap := (zipLTH2 h l1 l2).push { cls := .type "tuple", data := .seq #[.ref h.objs.size, .ref (zipLTH1 h l1).objs.size] }
abbrev zipLTH4 (h : Heap) (l1 l2 : Addr) : Heap := (zipLTH3 h l1 l2).push { cls := .type "tuple", data := .seq #[.none, .none] }
abbrev zipLTH5 (h : Heap) (l1 l2 : Addr) : Heap := (zipLTH4 h l1 l2).push { cls := .type "zip", data := .fields #[.none, .bool false, .bool false, .ref (zipLTH2 h l1 l2).objs.size, .ref (zipLTH3 h l1 l2).objs.size] }

section
variable {prog : Program} {w : World} {A : Around} {E : Value → Shared → Prop} {s : Shared}

end
open PySem.Spec PyProof.Rows L2 RZ
/-- the tuple at a and the list at b as they stand at each turn, the items in new pairs -/
def ItzLT (K : PySem.W.Frag) (a b : Addr) : It :=
  ⟨fun i H => ∃ (xs ys : List V) (x y : V), SqL K H a xs ∧ SqT K H b ys ∧ xs[i]? = some x ∧ ys[i]? = some y,
    fun i H v H' => ∃ T x y, v = .ref T ∧ H T = none ∧ H' = upd H T (.tup [x, y]) ∧ (∀ xs, SqL K H a xs → xs[i]? = some x) ∧ ∀ ys, SqT K H b ys → ys[i]? = some y,
    fun i H => ∃ xs ys : List V, SqL K H a xs ∧ SqT K H b ys ∧ (xs.length ≤ i ∨ ys.length ≤ i)⟩
def iZipLT (K : PySem.W.Frag) (ta : TA) : TI := fun σ H R => ta σ H fun vs H1 => ∃ a b xs ys, vs = [.ref a, .ref b] ∧ SqL K H1 a xs ∧ SqT K H1 b ys ∧ R (ItzLT K a b) H1
end RZLT
namespace DL
open PySem PySem.Spec PyProof.Rows L2
def zipLTO (M : Store) (d1 d2 : D) : Option (List D × List (D × D)) := match vwD M d1, vwD M d2 with
  | some (.lst xs), some (.tup ys) => some (zipD xs ys, gdD d1 (.lst xs))
  | _, _ => none
def iZipLT (f : CA) : CI := fun en M => (f en M).bind fun ds M1 => match ds with
  | [d1, d2] => ofO (zipLTO M1 d1 d2) M1
  | _ => .err
section
variable {X : Cx} {ct : CT} {b : Base} {W : WX} {e e1 e2 e3 : Expr} {pos : Pos} {es : List Expr}
def kZipLT (Q : IT → Store → Prop) (ds : List D) (M : Store) : Prop := match ds with | [d1, d2] => PV (zipLTO M d1 d2) M Q | _ => False
end
@[simp] theorem kZipLT_app {d1 d2 : D} {Q : IT → Store → Prop} {M : Store} : kZipLT Q [d1, d2] M = PV (zipLTO M d1 d2) M Q := rfl
@[simp] theorem zipLTO_lt {M : Store} {xs ys : List D} : zipLTO M (.lst xs) (.tup ys) = some (zipD xs ys, []) := rfl
@[simp] theorem m_iZipLT {f : CA} {en : En} {M : Store} {E : EX} {Q : IT → Store → Prop} : Post (iZipLT f en M) Q E = Post (f en M) (kZipLT Q) E := by
  simp only [iZipLT, Post_bind_eq]
  congr 1
  funext ds M1
  match ds with
  | [] => rfl
  | [_] => rfl
  | [d1, d2] =>
    show Post (ofO (zipLTO M1 d1 d2) M1) Q E = PV (zipLTO M1 d1 d2) M1 Q
    cases zipLTO M1 d1 d2 <;> rfl
  | _ :: _ :: _ :: _ => rfl
/-! ### xs[lo:hi] of a list, a new list -/
def gSlL (l u : Option Int) : D → Option MO
  | .lst xs => some (.lst (cutD xs l u))
  | _ => none
def nSlL (h : CH) (lo hi : Option CE) : CN := fun en M => (h en M).bind fun a M1 => (optE lo en M1).bind fun l M2 => (optE hi en M2).bind fun u M3 => ofO ((vw en M3 a).bind (gSlL l u)) M3
section
variable {X : Cx} {ct : CT} {b : Base} {W : WX} {e : Expr} {pos p2 : Pos}
end
section
variable {en : En} {M : Store} {E : EX}
def kSL3 (a : Hd) (l : Option Int) (en : En) (Q : MO → Store → Prop) (u : Option Int) (M : Store) : Prop := PV ((vw en M a).bind (gSlL l u)) M Q
@[simp] theorem kSL3_app {a : Hd} {l u : Option Int} {Q : MO → Store → Prop} : kSL3 a l en Q u M = PV ((vw en M a).bind (gSlL l u)) M Q := rfl
def kSL2 (a : Hd) (hi : Option CE) (en : En) (Q : MO → Store → Prop) (E : EX) (l : Option Int) (M : Store) : Prop := Post (optE hi en M) (kSL3 a l en Q) E
@[simp] theorem kSL2_app {a : Hd} {hi : Option CE} {l : Option Int} {Q : MO → Store → Prop} : kSL2 a hi en Q E l M = Post (optE hi en M) (kSL3 a l en Q) E := rfl
def kSL (lo hi : Option CE) (en : En) (Q : MO → Store → Prop) (E : EX) (a : Hd) (M : Store) : Prop := Post (optE lo en M) (kSL2 a hi en Q E) E
@[simp] theorem kSL_app {a : Hd} {lo hi : Option CE} {Q : MO → Store → Prop} : kSL lo hi en Q E a M = Post (optE lo en M) (kSL2 a hi en Q E) E := rfl
@[simp] theorem m_nSlL {h : CH} {lo hi : Option CE} {Q : MO → Store → Prop} : Post (nSlL h lo hi en M) Q E = Post (h en M) (kSL lo hi en Q E) E := by
  simp only [nSlL, Post_bind_eq, Post_ofO]
  rfl
@[simp] theorem gSlL_lst {l u : Option Int} {xs : List D} : gSlL l u (.lst xs) = some (.lst (cutD xs l u)) := rfl
end
end DL

/-! DL87: ("a", "b", ..).index(x) of a written tuple of texts. -/
namespace DL
open PySem PySem.Spec PyProof.Rows L2
def tstrs : List D → Option (List Str)
  | [] => some []
  | .str z :: l => (tstrs l).map (z :: ·)
  | _ :: _ => none
def gTIx (xs : List D) : List D → Option D
  | [.str y] => (tstrs xs).bind fun l => if y ∈ l then some (.int (l.idxOf y : Nat)) else none
  | _ => none
def eTIx (f args : CA) : CE := fun en M => (f en M).bind fun xs M1 => if xs.length ≤ sizeLine then (args en M1).bind fun ds M2 => ofO (gTIx xs ds) M2 else .err
def rTIx (K : PySem.W.Frag) : V → List V → Hp → VK → Prop := fun x xs H Q => ∃ (a : Addr) (ys : List Str) (y : Str), x = V.ref a ∧ xs = [V.str y] ∧ SqT K H a (ys.map V.str) ∧ y ∈ ys ∧ Q (.int (ys.idxOf y : Nat)) H
section
variable {X : Cx} {ct : CT} {b : Base} {W : WX} {e : Expr} {es : List Expr} {name : Str} {apos cpos tpos : Pos} {k : Nat}
end
/-! the meter's rules -/
section
variable {M : Store} {en : En}
def kTI2 (xs : List D) (Q : D → Store → Prop) (ds : List D) (M : Store) : Prop := PV (gTIx xs ds) M Q
@[simp] theorem kTI2_app {xs ds : List D} {Q : D → Store → Prop} : kTI2 xs Q ds M = PV (gTIx xs ds) M Q := rfl
def kTI (args : CA) (en : En) (Q : D → Store → Prop) (E : EX) (xs : List D) (M : Store) : Prop := PF xs.length (Post (args en M) (kTI2 xs Q) E)
@[simp] theorem kTI_app {args : CA} {xs : List D} {Q : D → Store → Prop} {E : EX} : kTI args en Q E xs M = PF xs.length (Post (args en M) (kTI2 xs Q) E) := rfl
@[simp] theorem m_eTIx {f args : CA} {Q : D → Store → Prop} {E : EX} : Post (eTIx f args en M) Q E = Post (f en M) (kTI args en Q E) E := by
  simp only [eTIx, Post_bind_eq, Post_ite]
  congr 1
  funext xs M1
  rw [kTI_app]
  simp only [Post_bind_eq, Post_ofO]
  rfl
end
end DL

/-! DL88: xs.index(x) of a list of texts. -/
namespace DL
open PySem PySem.Spec PyProof.Rows L2
section
variable {X : Cx} {ct : CT} {b : Base} {W : WX} {o e : Expr} {apos cpos : Pos}
end
end DL

/-! DL89: xs[::k] of a list that stands for ever, k = 1 or -1 known as it runs. -/
namespace DL
open PySem PySem.Spec PyProof.Rows L2
def gStp : List D → Int → Option D
  | xs, 1 => some (.lst xs)
  | xs, -1 => some (.lst xs.reverse)
  | _, _ => none
def eStp (f g : CE) : CE := fun en M => (f en M).bind fun a M1 => match a with
  | .lst xs => (optE (some g) en M1).bind fun o M2 => match o with
    | some k => ofO (gStp xs k) M2
    | none => .err
  | _ => .err
def tStp (K : PySem.W.Frag) (te : TE) (to : TO) : TE := fun σ H Q => te σ H fun x H1 => to σ H1 fun o H2 =>
  ∃ a xs, x = .ref a ∧ SqL K H2 a xs ∧ ((o = some (-1) ∧ ∀ p, H2 p = none → Q (.ref p) (upd H2 p (.lst xs.reverse))) ∨ (o = some 1 ∧ ∀ p, H2 p = none → Q (.ref p) (upd H2 p (.lst xs))))
section
variable {X : Cx} {ct : CT} {b : Base} {W : WX} {e es : Expr} {pos p3 : Pos}
end
/-! the meter's rules -/
section
variable {M : Store} {en : En}
def kStpB (xs : List D) (Q : D → Store → Prop) (o : Option Int) (M : Store) : Prop := match o with | some k => PV (gStp xs k) M Q | none => False
@[simp] theorem kStpB_app {xs : List D} {Q : D → Store → Prop} {k : Int} : kStpB xs Q (some k) M = PV (gStp xs k) M Q := rfl
def kStpA (g : CE) (en : En) (Q : D → Store → Prop) (E : EX) (d : D) (M : Store) : Prop := match d with | .lst xs => Post (optE (some g) en M) (kStpB xs Q) E | _ => False
@[simp] theorem kStpA_app {g : CE} {xs : List D} {Q : D → Store → Prop} {E : EX} : kStpA g en Q E (.lst xs) M = Post (optE (some g) en M) (kStpB xs Q) E := rfl
@[simp] theorem m_eStp {f g : CE} {Q : D → Store → Prop} {E : EX} : Post (eStp f g en M) Q E = Post (f en M) (kStpA g en Q E) E := by
  simp only [eStp, Post_bind_eq]
  congr 1
  funext d M1
  cases d <;> try rfl
  rw [kStpA_app]
  simp only [Post_bind_eq]
  congr 1
  funext o M2
  cases o with
  | none => rfl
  | some k =>
    rw [kStpB_app]
    simp only [Post_ofO]
@[simp] theorem gStp_1 {xs : List D} : gStp xs 1 = some (.lst xs) := rfl
@[simp] theorem gStp_m {xs : List D} : gStp xs (-1) = some (.lst xs.reverse) := rfl
end
end DL

/-! DL67: dict(list(zip(xs, ys))): the list of a zip by an own machine proof. -/
namespace DL
open PySem PySem.Spec PyProof.Rows L2
open PySem.Sem (wp)
/-- an iterator whose items are new pairs, while at S a list is being filled -/
structure LSrc (prog : Program) (w : World) (A : Around) (I S : Addr) (wr : List Addr) (n : Nat) (Rel : Nat → Value → Value → Prop) (St : Nat → Heap → Prop) : Prop where
  off : S ∉ wr
  there : ∀ i h, St i h → ∀ b ∈ wr, b < h.objs.size
  frame : ∀ i h h', St i h → (∀ b o, b ≠ S → h.get? b = some o → h'.get? b = some o) → St i h'
  item : ∀ i (s : Shared) (Q : Option Value → Shared → Prop) (E : Value → Shared → Prop), i < n → St i s.heap → S < s.heap.objs.size →
    (∀ k v h' tk, Rel i k v → IsTupOf2 h' s.heap.objs.size k v → St (i + 1) h' → (∀ b o, b ∉ wr → s.heap.get? b = some o → h'.get? b = some o) → Q (some (.ref s.heap.objs.size)) { s with heap := h', toks := tk }) → wpAny (model prog w) A (pyNext (.ref I)) Q E s
  done : ∀ (s : Shared) (Q : Option Value → Shared → Prop) (E : Value → Shared → Prop), St n s.heap →
    (∀ h' tk, (∀ b o, b ∉ wr → s.heap.get? b = some o → h'.get? b = some o) → Q none { s with heap := h', toks := tk }) → wpAny (model prog w) A (pyNext (.ref I)) Q E s
/-- the addresses as hold the pairs, in order -/
structure LG (Rel : Nat → Value → Value → Prop) (S : Addr) (wr : List Addr) (h : Heap) (as : List Addr) : Prop where
  off : ∀ a ∈ as, a ∉ wr ∧ a ≠ S
  pairs : ∀ (j : Nat) (a : Addr), as[j]? = some a → ∃ k v, Rel j k v ∧ IsTupOf2 h a k v
  nd : as.Nodup
  up : ∀ a ∈ as, S < a
section
variable {prog : Program} {w : World} {A : Around} {s : Shared} {R : Result → Shared → Prop} {I S : Addr} {wr : List Addr} {n : Nat} {Rel : Nat → Value → Value → Prop} {St : Nat → Heap → Prop}
end
section
variable {prog : Program} {w : World} {A : Around} {E : Value → Shared → Prop} {s : Shared} {z TI TO S : Addr} {f0 : Value} {wr : List Addr} {n : Nat} {Rel : Nat → Value → Value → Prop} {St : Nat → Heap → Prop}
end

section
variable {prog : Program} {w : World} {z TI TO i1 i2 : Addr} {fp1 fp2 : List Addr} {n1 n2 : Nat} {P1 P2 : Nat → Value → Prop} {St1 St2 : Nat → Heap → Prop}
def ZSt (z TI TO i1 i2 d : Addr) (St1 St2 : Nat → Heap → Prop) (i : Nat) (h : Heap) : Prop := IsTupOf2 h TI (.ref i1) (.ref i2) ∧ St1 i h ∧ St2 i h ∧ (∃ a b, IsTupOf2 h TO a b) ∧
  (IsZip h z TI TO .none ∨ ∃ T f oT, IsZipHeld h z TI TO T f ∧ h.get? T = some oT ∧ T ≠ z ∧ T ≠ i1 ∧ T ≠ i2 ∧ T ≠ d)
end
section
variable {X : Cx} {e1 e2 : Expr} {ta : TA} {p p2 p3 pos pos2 pos3 : Pos}
end
section
variable {X : Cx} {ct : CT} {b : Base} {W : WX} {e1 e2 : Expr} {p p2 p3 pos pos2 pos3 : Pos}
end
end DL

/-! DL69: sets of texts and whole numbers, mixed; their proofs are DLS's, DL32's and DL33's, turned. -/
namespace DL
open PySem PySem.Spec PyProof.Rows L2
noncomputable instance memKey (j : Key) (l : List Key) : Decidable (j ∈ l) := Classical.propDecidable _
def keyM (e : Int × Value) : Key := match e.2 with | .str k _ => .inr k | .int i _ => .inl i | _ => .inl 0
def GoodM (P : Program) (w : World) (e : Int × Value) : Prop := ∃ k, (mixKind P w).is k e.2 = true ∧ e.1 = (mixKind P w).hash k
theorem scn_key {k : Key} {v : Value} (h : keyIs k v = true) : v.scannable = true := by
  rcases keyIs_shape h with ⟨i, t, rfl, rfl⟩ | ⟨x, t, rfl, rfl⟩ <;> rfl
theorem keyM_is {k : Key} {v : Value} {i : Int} (h : keyIs k v = true) : keyM (i, v) = k := by
  rcases keyIs_shape h with ⟨i, t, rfl, rfl⟩ | ⟨x, t, rfl, rfl⟩ <;> rfl
/-- the set of ints at a: S its members, n their number; its table rises and can be walked -/
def SetM (P : Program) (w : World) (h : Heap) (a : Addr) (S : Key → Bool) (n : Nat) : Prop :=
  ∃ o es ep t, h.get? a = some o ∧ o.ExactSet ∧ o.data = .set es ep t ∧ (∀ e ∈ es.toList, GoodM P w e) ∧ (es.toList.map keyM).Nodup ∧ (∀ k, S k = true ↔ k ∈ es.toList.map keyM) ∧
    es.size < scanBound ∧ t.fits es.size = true ∧ es.size = n ∧ Ris t.place.toList ∧ (w.params.followText "set-order" = true ∨ t.led = true)

section
variable {P : Program} {w : World} {h h' : Heap} {a : Addr} {S : Key → Bool} {n : Nat}

theorem SetM.at (R : SetM P w h a S n) (k : ∀ o, h.get? a = some o → h'.get? a = some o) : SetM P w h' a S n := by
  obtain ⟨o, es, ep, t, ho, r⟩ := R
  exact ⟨o, es, ep, t, k o ho, r⟩
theorem SetM.lt (R : SetM P w h a S n) : a < h.objs.size := by
  obtain ⟨o, es, ep, t, ho, r⟩ := R
  exact Heap.lt_size ho
theorem SetM.congr {S' : Key → Bool} (R : SetM P w h a S n) (e : ∀ k, S' k = S k) : SetM P w h a S' n := by
  have q : S' = S := funext e
  rw [q]; exact R
theorem goodM_elems {l : List (Int × Value)} (g : ∀ e ∈ l, GoodM P w e) : ElemsOf (mixKind P w) l := fun e he => by
  obtain ⟨k, h1, h2⟩ := g e he
  exact ⟨⟨k, h1, h2⟩, scn_key h1⟩
theorem goodM_is {e : Int × Value} (g : GoodM P w e) (k : Key) : (mixKind P w).is k e.2 = true ↔ keyM e = k := by
  obtain ⟨k0, h1, _⟩ := g
  have e1 : keyM e = k0 := keyM_is (i := e.1) h1
  rw [e1]
  exact ⟨fun h => (mixKind P w).inj _ _ _ h1 h, fun h => by rw [← h]; exact h1⟩
theorem goodM_mem {l : List (Int × Value)} (g : ∀ e ∈ l, GoodM P w e) (k : Key) : k ∈ l.map keyM ↔ ∃ e ∈ l, (mixKind P w).is k e.2 = true := by
  rw [List.mem_map]
  constructor
  · rintro ⟨e, he, q⟩
    exact ⟨e, he, (goodM_is (g e he) k).2 q⟩
  · rintro ⟨e, he, q⟩
    exact ⟨e, he, (goodM_is (g e he) k).1 q⟩
theorem SetM.setOf (R : SetM P w h a S n) : h.SetOf (mixKind P w) a S n := by
  obtain ⟨o, es, ep, t, ho, hx, hd, g, nd, hm, hb, hf, hn, _⟩ := R
  exact ⟨o, es, ep, t, ho, hx, hd, goodM_elems g, fun k => (hm k).trans (goodM_mem g k), hb, hf, hn⟩
end

section
variable {P : Program} {w : World} {A : Around} {E : Value → Shared → Prop} {s : Shared} {a : Addr} {S : Key → Bool} {n : Nat}

/-! ### add -/
end
section
variable {P : Program} {w : World} {A : Around} {E : Value → Shared → Prop} {s : Shared}
set_option maxRecDepth 100000 in
set_option maxHeartbeats 3200000 in
end
section
variable {P : Program} {w : World} {A : Around} {E : Value → Shared → Prop} {s : Shared} {a : Addr}
open AutoSeq1 (wpAny_loadPart')
set_option maxRecDepth 100000 in
set_option maxHeartbeats 3200000 in
end
section
variable {P : Program} {w : World} {A : Around} {E : Value → Shared → Prop} {s : Shared} {p q : Addr} {S T : Key → Bool} {n m : Nat}
theorem SetM.typeIs (R : SetM P w s.heap p S n) : s.TypeIs (.ref p) "set" := by
  obtain ⟨o, es, ep, t, ho, hx, _⟩ := R
  exact ⟨o, ho, hx.1⟩
end
end DL

/-! DL70: set(a) != set(b) of texts and whole numbers (DL34, turned). -/
namespace DL
open PySem PySem.Spec PyProof.Rows L2
theorem SetM.ex {P : Program} {w : World} {h : Heap} {a : Addr} {S : Key → Bool} {n : Nat} (R : SetM P w h a S n) : ∃ o, h.get? a = some o := by
  obtain ⟨o, es, ep, t, ho, _⟩ := R
  exact ⟨o, ho⟩
def SetMO (P : Program) (w : World) (a : Addr) (xs : List Key) : HO := .ext fun h => ∃ c, c ≤ xs.length ∧ SetM P w h a (fun j => decide (j ∈ xs)) c
def ksetM (d : D) : Option (List Key) := match d with
  | .dic ks _ => if ks.length < 64 then some ks else none
  | .lst xs => (strsD xs).bind fun z => if z.length < 64 then some (z.map Sum.inr) else none
  | _ => none
noncomputable def sameM (za zc : List Key) : Bool := za.all (fun x => decide (x ∈ zc)) && zc.all (fun x => decide (x ∈ za))
noncomputable def eSetNeM (h1 h2 : CH) : CE := fun en M => (h1 en M).bind fun a M1 => (ofO ((vw en M1 a).bind ksetM) M1).bind fun za M1' => (h2 en M1').bind fun c M2 => (ofO ((vw en M2 c).bind ksetM) M2).bind fun zc M3 => .ok (.bl (!(sameM za zc))) M3
section
variable {X : Cx} {ct : CT} {b : Base} {W : WX} {e1 e2 : Expr} {pos : Pos}
/-- what set(..) is handed -/
def KsAtM (K : PySem.W.Frag) (H : Hp) (a : Addr) (xs : List Key) : Prop := (∃ zs : List Str, xs = zs.map Sum.inr ∧ SqL K H a (zs.map V.str)) ∨ ∃ kvs : List (Key × V), Rd H a (.dK kvs) ∧ kvs.map (·.1) = xs
def rSetNeM (P : Program) (w : World) : R2 := fun x y H Q => ∃ (p q : Addr) (xs ys : List Key), x = .ref p ∧ y = .ref q ∧ H p = some (SetMO P w p xs) ∧ H q = some (SetMO P w q ys) ∧ Q (.bl (!(sameM xs ys))) H
noncomputable def bSetNeM (h1 h2 : CH) : CB := fun en M => (eSetNeM h1 h2 en M).bind fun d M => match d with
  | .bl k => .ok k M
  | _ => .err
end
section
variable {en : En} {M : Store} {E : Str → List (Str × D) → Store → Prop}
def kSeM2 (za : List Key) (en : En) (Q : D → Store → Prop) (c : Hd) (M : Store) : Prop := PV ((vw en M c).bind ksetM) M fun zc M => Q (.bl (!(sameM za zc))) M
@[simp] theorem kSeM2_app {za : List Key} {Q : D → Store → Prop} {c : Hd} : kSeM2 za en Q c M = PV ((vw en M c).bind ksetM) M fun zc M => Q (.bl (!(sameM za zc))) M := rfl
def kSeM1b (h2 : CH) (en : En) (Q : D → Store → Prop) (E : Str → List (Str × D) → Store → Prop) (za : List Key) (M : Store) : Prop := Post (h2 en M) (kSeM2 za en Q) E
@[simp] theorem kSeM1b_app {h2 : CH} {za : List Key} {Q : D → Store → Prop} : kSeM1b h2 en Q E za M = Post (h2 en M) (kSeM2 za en Q) E := rfl
def kSeM1 (h2 : CH) (en : En) (Q : D → Store → Prop) (E : Str → List (Str × D) → Store → Prop) (a : Hd) (M : Store) : Prop := PV ((vw en M a).bind ksetM) M (kSeM1b h2 en Q E)
@[simp] theorem kSeM1_app {h2 : CH} {Q : D → Store → Prop} {a : Hd} : kSeM1 h2 en Q E a M = PV ((vw en M a).bind ksetM) M (kSeM1b h2 en Q E) := rfl
@[simp] theorem m_eSetNeM {h1 h2 : CH} {Q : D → Store → Prop} : Post (eSetNeM h1 h2 en M) Q E = Post (h1 en M) (kSeM1 h2 en Q E) E := by
  simp only [eSetNeM, Post_bind_eq]
  congr 1
  funext a M1
  rw [Post_ofO, kSeM1_app]
  congr 1
  funext za M1'
  rw [kSeM1b_app]
  congr 1
  funext c M2
  rw [Post_ofO]
  rfl
def kSeMB (Q : Bool → Store → Prop) (d : D) (M : Store) : Prop := match d with | .bl k => Q k M | _ => False
@[simp] theorem kSeMB_app {k : Bool} {Q : Bool → Store → Prop} : kSeMB Q (.bl k) M = Q k M := rfl
@[simp] theorem m_bSetNeM {h1 h2 : CH} {Q : Bool → Store → Prop} : Post (bSetNeM h1 h2 en M) Q E = Post (eSetNeM h1 h2 en M) (kSeMB Q) E := by
  simp only [bSetNeM, Post_bind_eq]
  congr 1
  funext d M1
  cases d <;> rfl
end
end DL

/-! DL71: xs[n::-1] of a list, n a whole number that is not negative (after DL42). -/
namespace DL
open PySem PySem.Spec PyProof.Rows L2
def tRevK (K : PySem.W.Frag) (n : Nat) (te : TE) : TE := fun σ H Q => te σ H fun x H1 =>
  ∃ a xs, x = .ref a ∧ SqL K H1 a xs ∧ ∀ p, H1 p = none → Q (.ref p) (upd H1 p (.lst (xs.take (n + 1)).reverse))
section
variable {X : Cx} {ct : CT} {b : Base} {W : WX} {e : Expr} {pos p0 p1 p2 p3 : Pos} {k k0 : Nat} {n : Nat}
def gRevK (n : Nat) : D → Option D
  | .lst xs => some (.lst (xs.take (n + 1)).reverse)
  | _ => none
def eRevK (n : Nat) (h : CH) : CE := fun en M => (h en M).bind fun a M1 => ofO ((vw en M1 a).bind (gRevK n)) M1
end
def kRvK (n : Nat) (Q : D → Store → Prop) (en : En) (a : Hd) (M : Store) : Prop := PV ((vw en M a).bind (gRevK n)) M Q
@[simp] theorem kRvK_app {n : Nat} {Q : D → Store → Prop} {en : En} {a : Hd} {M : Store} : kRvK n Q en a M = PV ((vw en M a).bind (gRevK n)) M Q := rfl
@[simp] theorem m_eRevK {n : Nat} {h : CH} {en : En} {M : Store} {Q : D → Store → Prop} {E : EX} : Post (eRevK n h en M) Q E = Post (h en M) (kRvK n Q en) E := by
  simp only [eRevK, Post_bind_eq, Post_ofO]
  rfl
@[simp] theorem gRevK_lst {n : Nat} {xs : List D} : gRevK n (.lst xs) = some (.lst (xs.take (n + 1)).reverse) := rfl
end DL

/-! DL66: a comparison of tuples with lists of the store in them (what the lists hold has no places). -/
namespace DL
open PySem PySem.Spec PyProof.Rows L2
mutual
/-- no thing of the store in it, nor the script -/
def nrf : D → Bool
  | .tup xs => nrfs xs
  | .lst xs => nrfs xs
  | .dic _ xs => nrfs xs
  | .ref _ => false
  | .scr _ => false
  | _ => true
def nrfs : List D → Bool
  | [] => true
  | x :: xs => nrf x && nrfs xs
end
section
variable {K : PySem.W.Frag} {ct : CT} {w w' : Wd} {M : Store} {H : Hp}
mutual
theorem nrf_rep (hF : Same w.F w'.F) : ∀ {d : D} {v : V}, nrf d = true → Rep K w d v → Rep K w' d v
  | .non, v, _, r => by simp only [Rep] at r ⊢; exact r
  | .bl _, v, _, r => by simp only [Rep] at r ⊢; exact r
  | .int _, v, _, r => by simp only [Rep] at r ⊢; exact r
  | .str _, v, _, r => by simp only [Rep] at r ⊢; exact r
  | .tup xs, v, h, r => by
    simp only [Rep] at r ⊢
    obtain ⟨a, vs, e, s, q⟩ := r
    exact ⟨a, vs, e, Same.sqt hF s, nrfs_rep hF h q⟩
  | .lst xs, v, h, r => by
    simp only [Rep] at r ⊢
    obtain ⟨a, vs, e, s, q⟩ := r
    exact ⟨a, vs, e, hF _ _ s, nrfs_rep hF h q⟩
  | .dic ks xs, v, h, r => by
    simp only [Rep] at r ⊢
    obtain ⟨a, vs, e, ⟨o, s⟩, l, q⟩ := r
    exact ⟨a, vs, e, ⟨o, hF _ _ s⟩, l, nrfs_rep hF h q⟩
  | .ref _, v, h, r => nomatch h
  | .scr _, v, h, r => nomatch h
theorem nrfs_rep (hF : Same w.F w'.F) : ∀ {xs : List D} {vs : List V}, nrfs xs = true → RepL K w xs vs → RepL K w' xs vs
  | [], vs, _, r => by simp only [RepL] at r ⊢; exact r
  | x :: xs, vs, h, r => by
    simp only [nrfs, Bool.and_eq_true] at h
    simp only [RepL] at r ⊢
    obtain ⟨v, t, e, r1, r2⟩ := r
    exact ⟨v, t, e, nrf_rep hF h.1 r1, nrfs_rep hF h.2 r2⟩
end
/-- an item, a list of the store told out -/
def rs1 (M : Store) : D → Option D
  | .ref n => match M[n]? with
    | some (.lst ys) => if nrfs ys = true then some (.lst ys) else none
    | _ => none
  | d => if nrf d = true then some d else none
def rsL (M : Store) : List D → Option (List D)
  | [] => some []
  | x :: xs => (rs1 M x).bind fun y => (rsL M xs).map fun ys => y :: ys
def rsD (M : Store) : D → Option D
  | .tup xs => (rsL M xs).map D.tup
  | d => if nrf d = true then some d else none
end
/-- an operation with a flat answer, lists of the store told out -/
def opM (g : D → D → Option D) (M : Store) (x y : D) : Option D := (rsD M x).bind fun x' => (rsD M y).bind fun y' => (g x' y').bind fun d => if flat d = true then some d else none
def eOpM (g : D → D → Option D) (h1 h2 : CH) : CE := fun en M => (h1 en M).bind fun a M1 => (h2 en M1).bind fun c M2 => ofO ((vw en M2 a).bind fun x => (vw en M2 c).bind fun y => opM g M2 x y) M2
section
variable {X : Cx} {ct : CT} {b : Base} {W : WX} {e1 e2 : Expr} {pos : Pos}
end
/-! ### the machine -/
section
variable {en : En} {M : Store} {Q : D → Store → Prop} {E : Str → List (Str × D) → Store → Prop} {g : D → D → Option D} {h1 h2 : CH}
def kM2 (g : D → D → Option D) (a : Hd) (en : En) (Q : D → Store → Prop) (c : Hd) (M : Store) : Prop := PV ((vw en M a).bind fun x => (vw en M c).bind fun y => opM g M x y) M Q
@[simp] theorem kM2_app {a c : Hd} : kM2 g a en Q c M = PV ((vw en M a).bind fun x => (vw en M c).bind fun y => opM g M x y) M Q := rfl
def kM1 (g : D → D → Option D) (h2 : CH) (en : En) (Q : D → Store → Prop) (E : Str → List (Str × D) → Store → Prop) (a : Hd) (M : Store) : Prop := Post (h2 en M) (kM2 g a en Q) E
@[simp] theorem kM1_app {a : Hd} : kM1 g h2 en Q E a M = Post (h2 en M) (kM2 g a en Q) E := rfl
@[simp] theorem m_eOpM : Post (eOpM g h1 h2 en M) Q E = Post (h1 en M) (kM1 g h2 en Q E) E := by
  unfold eOpM
  rw [Post_bind_eq]
  congr 1
  funext a M1
  rw [Post_bind_eq, kM1_app]
  congr 1
  funext c M2
  rw [Post_ofO]
  rfl
end
end DL

/-! DL90: as DL66, for lists with lists of the store in them; as a test, too. -/
namespace DL
open PySem PySem.Spec PyProof.Rows L2
section
variable {K : PySem.W.Frag} {ct : CT} {w w' : Wd} {M : Store} {H : Hp}
def rsD2 (M : Store) : D → Option D
  | .lst xs => (rsL M xs).map D.lst
  | d => rsD M d
end
def opM2 (g : D → D → Option D) (M : Store) (x y : D) : Option D := (rsD2 M x).bind fun x' => (rsD2 M y).bind fun y' => (g x' y').bind fun d => if flat d = true then some d else none
def eOpM2 (g : D → D → Option D) (h1 h2 : CH) : CE := fun en M => (h1 en M).bind fun a M1 => (h2 en M1).bind fun c M2 => ofO ((vw en M2 a).bind fun x => (vw en M2 c).bind fun y => opM2 g M2 x y) M2
section
variable {X : Cx} {ct : CT} {b : Base} {W : WX} {e1 e2 : Expr} {pos : Pos}
end
/-! ### the machine -/
section
variable {en : En} {M : Store} {Q : D → Store → Prop} {E : Str → List (Str × D) → Store → Prop} {g : D → D → Option D} {h1 h2 : CH}
def kN2 (g : D → D → Option D) (a : Hd) (en : En) (Q : D → Store → Prop) (c : Hd) (M : Store) : Prop := PV ((vw en M a).bind fun x => (vw en M c).bind fun y => opM2 g M x y) M Q
@[simp] theorem kN2_app {a c : Hd} : kN2 g a en Q c M = PV ((vw en M a).bind fun x => (vw en M c).bind fun y => opM2 g M x y) M Q := rfl
def kN1 (g : D → D → Option D) (h2 : CH) (en : En) (Q : D → Store → Prop) (E : Str → List (Str × D) → Store → Prop) (a : Hd) (M : Store) : Prop := Post (h2 en M) (kN2 g a en Q) E
@[simp] theorem kN1_app {a : Hd} : kN1 g h2 en Q E a M = Post (h2 en M) (kN2 g a en Q) E := rfl
@[simp] theorem m_eOpM2 : Post (eOpM2 g h1 h2 en M) Q E = Post (h1 en M) (kN1 g h2 en Q E) E := by
  unfold eOpM2
  rw [Post_bind_eq]
  congr 1
  funext a M1
  rw [Post_bind_eq, kN1_app]
  congr 1
  funext c M2
  rw [Post_ofO]
  rfl
end
end DL

/-! DL91: xs.index(x) of a list of the store. -/
namespace DL
open PySem PySem.Spec PyProof.Rows L2
section
variable {X : Cx} {ct : CT} {b : Base} {W : WX} {o e : Expr} {apos cpos : Pos}
/-- a method of a list of the store that changes nothing -/
def eLR (g : List D → List D → Option D) (f : CE) (args : CA) : CE := fun en M => (f en M).bind fun d M1 => match d with
  | .ref n => match M1[n]? with
    | some (.lst _) => (args en M1).bind fun ds M2 => match M2[n]? with
      | some (.lst xs) => ofO (g xs ds) M2
      | _ => .err
    | _ => .err
  | _ => .err
end
/-! ### the machine -/
section
variable {en : En} {M : Store} {Q : D → Store → Prop} {E : Str → List (Str × D) → Store → Prop} {g : List D → List D → Option D} {f : CE} {args : CA}
def kLR2 (g : List D → List D → Option D) (n : Nat) (Q : D → Store → Prop) (ds : List D) (M2 : Store) : Prop := match gt M2 n with
  | some (.lst xs) => PV (g xs ds) M2 Q
  | _ => False
def kLR (g : List D → List D → Option D) (args : CA) (en : En) (Q : D → Store → Prop) (E : Str → List (Str × D) → Store → Prop) (d : D) (M1 : Store) : Prop := match d with
  | .ref n => match gt M1 n with
    | some (.lst _) => Post (args en M1) (kLR2 g n Q) E
    | _ => False
  | _ => False
@[simp] theorem m_eLR : Post (eLR g f args en M) Q E = Post (f en M) (kLR g args en Q E) E := by
  simp only [eLR, Post_bind_eq]
  congr 1
  funext d M1
  cases d with
  | ref n =>
    unfold kLR
    dsimp only
    rw [← gt_eq]
    cases M1[n]? with
    | none => rfl
    | some o =>
      cases o with
      | lst xs =>
        dsimp only
        rw [Post_bind_eq]
        congr 1
        funext ds M2
        unfold kLR2
        rw [← gt_eq]
        cases M2[n]? with
        | none => rfl
        | some o2 =>
          cases o2 <;> first | rfl | (dsimp only; rw [Post_ofO])
      | _ => rfl
  | _ => rfl
end
end DL

/-! DL92: text.split(sep); int(text). -/
namespace DL
open PySem PySem.Spec PyProof.Rows L2
/-! ### text.split(sep) -/
def gSplit (z : Str) : List D → Option D
  | [.str y] => if (y.length == 0) = false ∧ z.length + 2 ≤ sizeLine then some (.lst ((Txt.split z y).map D.str)) else none
  | _ => none
section
variable {X : Cx} {ct : CT}
/-! ### int(text) -/
def gIntS : List D → Option D
  | [.str z] => if z.length ≤ 640 then (intText? z).map D.int else none
  | _ => none
end
end DL

/-! DL93: try .. except X: suite, without a name. -/
namespace DL
open PySem PySem.Spec PyProof.Rows L2
/-- what a suite may do: no exception leaves it -/
def noX : Out Fl → Out Fl
  | .ok (.exc _ _ _) _ => .err
  | .exc _ _ _ => .err
  | r => r
def tryN (f : CS) (ok : Str → Option Bool) (g : CS) : CS := fun en M => match f en M with
  | .ok (.exc c fs en1) M1 => match ok c with
    | some true => noX (g en1 M1)
    | some false => .ok (.exc c fs en1) M1
    | none => .err
  | r => r
section
variable {X : Cx} {ct : CT} {b : Base} {W : WX} {pos pos' np : Pos} {x : Str} {c : Value} {f g : CS} {ok : Str → Option Bool} {body suite : List Stmt} {b₀ : Stmt}
end
/-! the machine's rules -/
section
variable {M : Store} {en : En} {E : EX}
def kNoX (Q : QF) (r : Fl) (M : Store) : Prop := match r with
  | .exc _ _ _ => False
  | r => Q r M
@[simp] theorem kNoX_exc {c : Str} {fs : List (Str × D)} {Q : QF} : kNoX Q (.exc c fs en) M = False := rfl
@[simp] theorem kNoX_next {Q : QF} : kNoX Q (.next en) M = Q (.next en) M := rfl
@[simp] theorem kNoX_ret {Q : QF} {d : D} : kNoX Q (.ret d) M = Q (.ret d) M := rfl
@[simp] theorem kNoX_brk {Q : QF} : kNoX Q (.brk en) M = Q (.brk en) M := rfl
@[simp] theorem kNoX_cont {Q : QF} : kNoX Q (.cont en) M = Q (.cont en) M := rfl
theorem Post_noX {o : Out Fl} {Q : QF} : Post (noX o) Q E = Post o (kNoX Q) kNo := by
  cases o with
  | ok r M1 => cases r <;> rfl
  | exc c fs M1 => rfl
  | err => rfl
def kHanN (o : Option Bool) (g : CS) (c : Str) (fs : List (Str × D)) (en : En) (Q : QF) (M : Store) : Prop := match o with
  | some true => Post (g en M) (kNoX Q) kNo
  | some false => Q (.exc c fs en) M
  | none => False
@[simp] theorem kHanN_t {g : CS} {c : Str} {fs : List (Str × D)} {Q : QF} : kHanN (some true) g c fs en Q M = Post (g en M) (kNoX Q) kNo := rfl
@[simp] theorem kHanN_f {g : CS} {c : Str} {fs : List (Str × D)} {Q : QF} : kHanN (some false) g c fs en Q M = Q (.exc c fs en) M := rfl
def kTryN (ok : Str → Option Bool) (g : CS) (Q : QF) (r : Fl) (M : Store) : Prop := match r with
  | .exc c fs en => kHanN (ok c) g c fs en Q M
  | r => Q r M
@[simp] theorem kTryN_exc {ok : Str → Option Bool} {g : CS} {c : Str} {fs : List (Str × D)} {Q : QF} : kTryN ok g Q (.exc c fs en) M = kHanN (ok c) g c fs en Q M := rfl
@[simp] theorem kTryN_next {ok : Str → Option Bool} {g : CS} {Q : QF} : kTryN ok g Q (.next en) M = Q (.next en) M := rfl
@[simp] theorem kTryN_ret {ok : Str → Option Bool} {g : CS} {Q : QF} {d : D} : kTryN ok g Q (.ret d) M = Q (.ret d) M := rfl
@[simp] theorem kTryN_brk {ok : Str → Option Bool} {g : CS} {Q : QF} : kTryN ok g Q (.brk en) M = Q (.brk en) M := rfl
@[simp] theorem kTryN_cont {ok : Str → Option Bool} {g : CS} {Q : QF} : kTryN ok g Q (.cont en) M = Q (.cont en) M := rfl
@[simp] theorem m_tryN {f g : CS} {ok : Str → Option Bool} {Q : QF} : Post (tryN f ok g en M) Q E = Post (f en M) (kTryN ok g Q) E := by
  unfold tryN
  cases f en M with
  | err => rfl
  | exc c fs M1 => rfl
  | ok r M1 =>
    cases r with
    | exc c fs en1 =>
      show Post (match ok c with | some true => _ | some false => _ | none => _) Q E = kHanN (ok c) g c fs en1 Q M1
      cases ok c with
      | none => rfl
      | some k =>
        cases k with
        | false => rfl
        | true => exact Post_noX
    | next en1 => rfl
    | brk en1 => rfl
    | cont en1 => rfl
    | ret d => rfl
end
end DL

/-! DL94: list(zip(xs, ys)) as a list that stands for ever; xs[a::k]. -/
namespace DL
open PySem PySem.Spec PyProof.Rows L2
open PySem.Sem (wp)
/-- new pairs, tracked -/
def putP : Hp → List Addr → List (V × V) → Hp
  | H, a :: as, p :: kvs => putP (upd H a (.tup [p.1, p.2])) as kvs
  | H, _, _ => H
section
variable {X : Cx} {e1 e2 : Expr} {ta : TA} {p2 p3 pos2 pos3 : Pos}
def rZipL (K : PySem.W.Frag) : List V → Hp → VK → Prop := fun xs H Q => ∃ (a c : Addr) (us vs : List V), xs = [.ref a, .ref c] ∧ SqV K H a us ∧ SqV K H c vs ∧
  ∀ (H' : Hp) (p : Addr) (ts : List Addr), (∀ b o, H b = some o → H' b = some o) → H p = none → (∀ t ∈ ts, H t = none) → H' p = some (.lst (ts.map V.ref)) → Paired (fun (t : Addr) (q : V × V) => ∃ o, o.dict = none ∧ H' t = some (.frz o (.tup [q.1, q.2]))) ts (us.zip vs) → Q (.ref p) H'
end
section
variable {K : PySem.W.Frag} {w : Wd}
end
def zipLD (M : Store) (d1 d2 : D) : Option D := (vwD M d1).bind fun v1 => (vwD M d2).bind fun v2 => (seqD v1).bind fun xs => (seqD v2).map fun ys => .lst (zipD xs ys)
/-- list(zip(xs, ys)) -/
def eZipL (f : CA) : CE := fun en M => (f en M).bind fun ds M1 => match ds with
  | [d1, d2] => ofO (zipLD M1 d1 d2) M1
  | _ => .err
section
variable {X : Cx} {ct : CT} {b : Base} {W : WX} {e1 e2 : Expr} {p2 p3 pos2 pos3 : Pos}
end
section
variable {en : En} {M : Store} {E : Str → List (Str × D) → Store → Prop}
def kZipL (Q : D → Store → Prop) (ds : List D) (M : Store) : Prop := match ds with | [d1, d2] => PV (zipLD M d1 d2) M Q | _ => False
@[simp] theorem kZipL_app {Q : D → Store → Prop} {d1 d2 : D} : kZipL Q [d1, d2] M = PV (zipLD M d1 d2) M Q := rfl
@[simp] theorem m_eZipL {f : CA} {Q : D → Store → Prop} : Post (eZipL f en M) Q E = Post (f en M) (kZipL Q) E := by
  simp only [eZipL, Post_bind_eq]
  congr 1
  funext ds M1
  match ds with
  | [] => rfl
  | [_] => rfl
  | [d1, d2] => exact Post_ofO
  | _ :: _ :: _ :: _ => rfl
@[simp] theorem zipLD_ll {xs ys : List D} : zipLD M (.lst xs) (.lst ys) = some (.lst (zipD xs ys)) := rfl
end
end DL

/-! DL95: xs[a::k] of a list that stands for ever. -/
namespace DL
open PySem PySem.Spec PyProof.Rows L2
/-- the places of xs[i::k] -/
def ixK (i k : Int) (n : Nat) : List Nat := sliceRange (sliceBounds (some i) none (some k) n).1 (sliceBounds (some i) none (some k) n).2.1 (sliceBounds (some i) none (some k) n).2.2
def pickK {α : Type} (i k : Int) (xs : List α) : List α := (ixK i k xs.length).filterMap (xs[·]?)
def eStK (f g1 g2 : CE) : CE := fun en M => (f en M).bind fun a M1 => match a with
  | .lst xs => (optE (some g1) en M1).bind fun o1 M2 => match o1 with
    | some i => (optE (some g2) en M2).bind fun o2 M3 => match o2 with
      | some k => if 0 < k then .ok (.lst (pickK i k xs)) M3 else .err
      | none => .err
    | none => .err
  | _ => .err
def tStK (K : PySem.W.Frag) (te : TE) (t1 t2 : TO) : TE := fun σ H Q => te σ H fun x H1 => t1 σ H1 fun o1 H2 => t2 σ H2 fun o2 H3 =>
  ∃ a xs i k, x = .ref a ∧ o1 = some i ∧ o2 = some k ∧ SqL K H3 a xs ∧ 0 < k ∧ ∀ p, H3 p = none → Q (.ref p) (upd H3 p (.lst (pickK i k xs)))
section
variable {X : Cx} {ct : CT} {b : Base} {W : WX} {e el es : Expr} {pos p3 : Pos}
end
/-! the meter's rules -/
section
variable {M : Store} {en : En}
def kStKc (xs : List D) (i : Int) (Q : D → Store → Prop) (o : Option Int) (M : Store) : Prop := match o with | some k => 0 < k ∧ Q (.lst (pickK i k xs)) M | none => False
@[simp] theorem kStKc_app {xs : List D} {i k : Int} {Q : D → Store → Prop} : kStKc xs i Q (some k) M = (0 < k ∧ Q (.lst (pickK i k xs)) M) := rfl
def kStKb (g2 : CE) (en : En) (xs : List D) (Q : D → Store → Prop) (E : EX) (o : Option Int) (M : Store) : Prop := match o with | some i => Post (optE (some g2) en M) (kStKc xs i Q) E | none => False
@[simp] theorem kStKb_app {g2 : CE} {xs : List D} {i : Int} {Q : D → Store → Prop} {E : EX} : kStKb g2 en xs Q E (some i) M = Post (optE (some g2) en M) (kStKc xs i Q) E := rfl
def kStKa (g1 g2 : CE) (en : En) (Q : D → Store → Prop) (E : EX) (d : D) (M : Store) : Prop := match d with | .lst xs => Post (optE (some g1) en M) (kStKb g2 en xs Q E) E | _ => False
@[simp] theorem kStKa_app {g1 g2 : CE} {xs : List D} {Q : D → Store → Prop} {E : EX} : kStKa g1 g2 en Q E (.lst xs) M = Post (optE (some g1) en M) (kStKb g2 en xs Q E) E := rfl
@[simp] theorem m_eStK {f g1 g2 : CE} {Q : D → Store → Prop} {E : EX} : Post (eStK f g1 g2 en M) Q E = Post (f en M) (kStKa g1 g2 en Q E) E := by
  simp only [eStK, Post_bind_eq]
  congr 1
  funext d M1
  cases d <;> try rfl
  rw [kStKa_app]
  simp only [Post_bind_eq]
  congr 1
  funext o M2
  cases o with
  | none => rfl
  | some i =>
    rw [kStKb_app]
    simp only [Post_bind_eq]
    congr 1
    funext o2 M3
    cases o2 with
    | none => rfl
    | some k => exact Post_ite
end
/-! every second item -/
def ev2 {α : Type} : List α → List α
  | x :: _ :: r => x :: ev2 r
  | [x] => [x]
  | [] => []
end DL

/-! DL96: try .. except X as n: y = n, in any def. -/
namespace DL
open PySem PySem.Spec PyProof.Rows L2
def keepT (f : CS) (ok : Str → Option Bool) (i j : Nat) : CS := fun en M => match f en M with
  | .ok (.exc c fs en1) M1 => match ok c with
    | some true => if i < en1.length then .ok (.next (((en1.set i none).set j (some (.val (.ref M1.length)))).set i none)) (M1 ++ [.exc c fs]) else .err
    | _ => .err
  | r => r
section
variable {X : Cx} {ct : CT} {b : Base} {W : WX} {pos pos' np py pn2 pa : Pos} {x y n : Str} {c : Value} {i j : Nat} {f : CS} {ok : Str → Option Bool} {body : List Stmt}
end
section
variable {M : Store} {en : En} {E : EX} {i j : Nat} {ok : Str → Option Bool}
def kKeep (ok : Str → Option Bool) (i j : Nat) (Q : QF) (r : Fl) (M : Store) : Prop := match r with
  | .exc c fs en => ok c = some true ∧ i < en.length ∧ Q (.next (((en.set i none).set j (some (.val (.ref M.length)))).set i none)) (M ++ [.exc c fs])
  | r => Q r M
@[simp] theorem kKeep_next {Q : QF} : kKeep ok i j Q (.next en) M = Q (.next en) M := rfl
@[simp] theorem kKeep_ret {Q : QF} {d : D} : kKeep ok i j Q (.ret d) M = Q (.ret d) M := rfl
@[simp] theorem kKeep_brk {Q : QF} : kKeep ok i j Q (.brk en) M = Q (.brk en) M := rfl
@[simp] theorem kKeep_cont {Q : QF} : kKeep ok i j Q (.cont en) M = Q (.cont en) M := rfl
end
end DL

/-! DL97: an exception object made by a call of its class, as a value (by place, by keyword, without a field). -/
namespace PySem
namespace HandSPX
open PySem.W PySem.Calls PyProof.Rows
section
variable {M : Model} {A : Around} {E : Value → Shared → Prop} {h : Heap} {g : Array GenState} {d : Drawn} {t : Nat} {os : OsState}
variable {nm q : Str} {C N : Addr} {bs bm bmB : List Value} {hdct : Bool} {sn : List Str} {sub : List Value} {ab : Bool} {col : Option Bool} {dd : Option Addr} {k0 k1 k2 k3 k5 : Option Value} {B newId initId : String}
theorem check_new_kw (F : ExcBaseFacts B newId initId bmB) (hT : ∀ X : String, bm.contains (.type X) = bmB.contains (.type X)) {rest : List Value} {kw : List (Str × Value)} {Q : Unit → Shared → Prop}
    (hC : h.get? C = some (excClassObj nm q C N bs bm hdct sn sub ab col dd k0 k1 k2 k3 k5 newId)) (hq : Q () ⟨h, g, d, t, os⟩) : wpAny M A (checkBuiltinCall newId ⟨.ref C :: rest, kw⟩) Q E ⟨h, g, d, t, os⟩ := by
  have hcont : (Value.ref C :: bm).contains (.type B) = true := by rw [List.contains_cons, hT, F.hasB, Bool.or_true]
  have hstar := F.noStar
  simp only [checkBuiltinCall, F.newKind, F.newSplit, F.newRow]
  repeat (first | refine wpAny_loadPart_at hC ?_ | (refine wpAny_isSubtype_exc hC ?_; rw [hcont]) | refine wpAny_staticBase_exc hC ?_ | refine wpAny_madeBy_exc hC ?_ | simp only [bne_self_eq_false, Bool.false_eq_true, if_false] | wp_step)
  exact hq
end
section
variable {prog : Program} {w : World} {A : Around} {E : Value → Shared → Prop} {R : Result → Shared → Prop} {h : Heap} {g : Array GenState} {d : Drawn} {t : Nat} {os : OsState}
variable {nm q : Str} {C N : Addr} {bs bm bmB : List Value} {hdct : Bool} {sn : List Str} {sub : List Value} {ab : Bool} {col : Option Bool} {dd : Option Addr} {k0 k1 k2 k3 k5 : Option Value} {B newId initId : String}
theorem new_kw (F : ExcBaseFacts B newId initId bmB) (hT : ∀ X : String, bm.contains (.type X) = bmB.contains (.type X)) {rest : List Value} {kw : List (Str × Value)}
    (hC : h.get? C = some (excClassObj nm q C N bs bm hdct sn sub ab col dd k0 k1 k2 k3 k5 newId))
    (hq : R (.ok (.ret (.ref (h.objs.size + 1)))) ⟨(h.push { cls := .type "tuple", data := .seq rest.toArray }).push
      { cls := .ref C, data := .fields #[.ref h.objs.size, .none, .none, .none, .bool false, .none] }, g, d, t, os⟩) (hrest : rest.length ≤ sizeLine) :
    codeAny (model prog w) A (.builtin newId ⟨.ref C :: rest, kw⟩) R ⟨h, g, d, t, os⟩ := by
  have hends := F.ends
  have hcB : (Value.ref C :: bm).contains (.type B) = true := by rw [List.contains_cons, hT, F.hasB, Bool.or_true]
  have hcA : (Value.ref C :: bm).contains (.type "AttributeError") = false := by rw [List.contains_cons, hT, F.noAttr]; rfl
  have hcN : (Value.ref C :: bm).contains (.type "NameError") = false := by rw [List.contains_cons, hT, F.noName]; rfl
  refine codeAny_builtinAt F.entry ?_
  unfold Builtin.«BaseException.__new__»
  refine wpAt_bind ?_
  show wpAt _ _ _ (stack >>= _) _ _ _
  refine wpAt_bind (wpAt_stack fun p below => wpAt_of_wpAny ?_)
  wp_walk
  refine wpAt_of_wpAny ?_
  rw [F.owner]
  repeat (first | with_reducible refine wpAny_madeHere_exc F.canon hC ?_ | with_reducible refine wpAny_loadPart_at hC ?_ | (with_reducible refine wpAny_isSubtype_exc hC ?_; first | rw [hcB] | rw [hcA] | rw [hcN]) | wp_step)
  show R _ _
  rw [Heap.size_push]
  exact hq
theorem type_call_kw (F : ExcBaseFacts B newId initId bmB) (hT : ∀ X : String, bm.contains (.type X) = bmB.contains (.type X)) {rest : List Value} {kw : List (Str × Value)} {fI : Addr} {Q : Fin → Shared → Prop}
    (hC : h.get? C = some (excClassObj nm q C N bs bm hdct sn sub ab col dd k0 k1 k2 k3 k5 newId))
    (hi : W.Looks (model prog w) h (typeLookup (.ref C) "__init__") (some (.ref fI))) (hb : ∀ self, W.Looks (model prog w) h (bindSpecial (.ref fI) self) (.ref fI, [self])) (hrest : rest.length ≤ sizeLine)
    (hq : codeAny (model prog w) A (.call (.ref fI) ⟨.ref (h.objs.size + 1) :: rest, kw⟩)
      (fun r s' => match r with | .ok (.ret v) => v = .none ∧ Q (.done (.ret (.ref (h.objs.size + 1)))) s' | .ok _ => False | .error e => E e s')
      ⟨(h.push (W.kdv_tup rest)).push (excO C h.objs.size), g, d, t, os⟩) :
    wpAny (model prog w) A (Builtin.«type.__call__» ⟨.ref C :: rest, kw⟩) Q E ⟨h, g, d, t, os⟩ := by
  repeat (first | with_reducible refine wpAny_loadPart_at hC ?_ | with_reducible refine wpAny_madeBy_exc hC ?_ | wp_step)
  refine codeAny_call_builtin_code (Code.quiet_builtin _ F.quiet) (check_new_kw F hT hC ?_)
  refine new_kw F hT hC ?_ hrest
  show wpAny _ _ _ _ _ _
  have k : ∀ b o, h.get? b = some o → ((h.push (W.kdv_tup rest)).push (excO C h.objs.size)).get? b = some o := fun b o e => Heap.get?_push_of_some _ (Heap.get?_push_of_some _ e)
  have hC₁ := k _ _ hC
  have hget : ((h.push (W.kdv_tup rest)).push (excO C h.objs.size)).get? (h.objs.size + 1) = some (excO C h.objs.size) := by heap_get
  have hcC : (Value.ref C :: bm).contains (.ref C) = true := by simp
  have i1 := hi.keeps k
  have b1 := (hb (.ref (h.objs.size + 1))).keeps k
  unfold isInstance
  repeat (first | with_reducible refine wpAny_loadPart_at hget ?_ | (with_reducible refine wpAny_isSubtype_exc hC₁ ?_; rw [hcC]) | wp_step)
  show wpAny _ _ (typeLookup (.ref C) _) _ _ _
  refine i1.at ?_
  refine wpAny_holding (wpAny_bind (b1.at ?_))
  refine wpAny_bind (wpAny_call (codeAny_mono hq fun r s' z => ?_))
  rcases r with e | (v | _ | _ | _) <;> first | exact z | exact z.elim | skip
  obtain ⟨rfl, z⟩ := z
  first
    | exact wpAny_pure (wpAny_pure z)
    | (wp_walk; exact z)
theorem call_kw (F : ExcBaseFacts B newId initId bmB) (hT : ∀ X : String, bm.contains (.type X) = bmB.contains (.type X)) {rest : List Value} {kw : List (Str × Value)} {fI : Addr}
    (hC : h.get? C = some (excClassObj nm q C N bs bm hdct sn sub ab col dd k0 k1 k2 k3 k5 newId))
    (hi : W.Looks (model prog w) h (typeLookup (.ref C) "__init__") (some (.ref fI))) (hb : ∀ self, W.Looks (model prog w) h (bindSpecial (.ref fI) self) (.ref fI, [self])) (hrest : rest.length ≤ sizeLine)
    (hq : codeAny (model prog w) (A.under (.builtin "type.__call__" ⟨.ref C :: rest, kw⟩)) (.call (.ref fI) ⟨.ref (h.objs.size + 1) :: rest, kw⟩) (W.InitBack (h.objs.size + 1) R)
      ⟨(h.push (W.kdv_tup rest)).push (excO C h.objs.size), g, d, t, os⟩) :
    codeAny (model prog w) A (.call (.ref C) ⟨rest, kw⟩) R ⟨h, g, d, t, os⟩ := by
  have f1 := tc_lookup
  have f2 := tc_bind (.ref C)
  have hTy : (⟨h, g, d, t, os⟩ : Shared).TypeIs (.ref C) "type" := ⟨_, hC, rfl⟩
  refine codeAny_of_tree ?_
  show wpAny _ _ (callAny (.ref C) _) _ _ _
  repeat (any_goals (first | assumption | with_reducible refine wpAny_loadPart_at hC ?_ | wp_step))
  refine ⟨rfl, ?_⟩
  refine codeAny_call_builtin_at (Code.quiet_builtin _ (by decide +kernel)) entry_typeCall (wpAny_check_type_call_sub hC (type_call_kw F hT hC hi hb hrest ?_))
  refine codeAny_mono hq fun r s' z => ?_
  rcases r with e | (v | _ | _ | _) <;> exact z
end
end HandSPX
end PySem
namespace DL
open PySem PySem.Spec PyProof.Rows L2
section
variable {X : Cx} {e : Expr} {es : List Expr} {p pos : Pos}
/-- C(k = e): an exception by a keyword -/
def tMkOK (C : Addr) (sp : Sp) (m : Nat) (gV : List V → List V → List V) (ta : TA) : L2.St → Hp → XK → Prop := fun σ H Q => ta σ H fun zs H1 => zs.length = m ∧ ∀ a, H1 a = none → sp (gV [.ref a] zs) (upd H1 a (exo a C none))
  (fun v H2 => v = .non ∧ ∃ (d : Addr) (fs : List (Str × V)), H2 a = some (exo a C (some d)) ∧ H2 d = some (exd d fs) ∧ H1 d = none ∧ Q (.ref C) (some d) (upd (del H2 a) d (.xd fs))) (fun _ _ _ => False)
theorem pmk_oexK {CX : CXT} {x : Str} {C fI : Addr} {k : Nat} {fd : FuncData} {ps ks : List Str} {sp : Sp} {kws : List Keyword} {tk : TA} {g : List Value → List Value → List Value} {gV : List V → List V → List V} (T : OexC X.K C) (iC : PySem.W.findIn X.K (.ref C) "__init__" = some (some (.ref fI))) (tI : PySem.W.typeIn X.K (.ref fI) = some (.type "function"))
    (F1 : FnOk X.prog X.w X.K X.mg X.base CX k fI fd ps sp) (hr : Room (k + 1) X.A) (hb : KBn X.K fd ps 1 ks g gV) (hx : Passes CX X (fun _ _ _ => False)) (hg : Gl X x) (hm : X.mg x = some (.ref C)) (hkw : PK X kws tk)
    (hall : (backToKw pos (keywordEach kws X.env)).all (·.1.isSome) = true := by rfl) (hks : (backToKw pos (keywordEach kws X.env)).filterMap (·.1) = ks := by rfl) (hdb : (x == ("__debug__" : Str)) = false := by decide)
    (hpl : ((backTo pos (starEach [] X.env)).any (·.1) || (backToKw pos (keywordEach kws X.env)).any (·.1.isNone)) = false := by rfl) :
    PMk X (.Call (.Name x p) [] kws pos) (tMkOK C sp ks.length gV tk) := by
  intro pins s σ H Q I h
  obtain ⟨nm, q, N, bs, bm, sn, sub, ab, col, dd, k0, k1, k2, k3, k5, hC, hbm⟩ := T.cls
  refine wpAny_Call_Name_kw (ld_glob I hg hm ?_ hdb)
  refine PySem.W.callWith_KW0 (h₀ := X.base) I.ok.mod.kin T.kC hall (thn (hkw.run pos pins s σ H _ I h) fun ws s1 ⟨zs, H1, I1, rz, l2, q1⟩ => ⟨I1.kIn, ?_⟩) hpl
  rw [hks]
  show wpAny _ _ (call (.ref C) [] (ks.zip ws)) _ _ _
  obtain ⟨hp, g', dr, tk', os⟩ := s1
  have hsz : hp.objs.size ≤ hp.objs.size + 1 := Nat.le_succ _
  have hn : H1 (hp.objs.size + 1) = none := I1.hok.fresh hsz
  have hq := q1 (hp.objs.size + 1) hn
  have kk : ∀ b o, hp.get? b = some o → ((hp.push (PySem.W.kdv_tup [])).push (PySem.HandSPX.excO C hp.objs.size)).get? b = some o := fun b o e => Heap.get?_push_of_some _ (Heap.get?_push_of_some _ e)
  have hget : ((hp.push (PySem.W.kdv_tup [])).push (PySem.HandSPX.excO C hp.objs.size)).get? (hp.objs.size + 1) = some (PySem.HandSPX.excO C hp.objs.size) := by heap_get
  have I2 : Inv X pins σ (upd H1 (hp.objs.size + 1) (exo (hp.objs.size + 1) C none)) ⟨(hp.push (PySem.W.kdv_tup [])).push (PySem.HandSPX.excO C hp.objs.size), g', dr, tk', os⟩ :=
    I1.laid (t' := tk') (a := hp.objs.size + 1) (o := exo (hp.objs.size + 1) C none) (h' := (hp.push (PySem.W.kdv_tup [])).push (PySem.HandSPX.excO C hp.objs.size)) kk hsz (exo_ok hget)
  have r2 := hb.rel (vs := [V.ref (hp.objs.size + 1)]) (us := [Value.ref (hp.objs.size + 1)]) (.cons rfl .nil) rz
  refine wpAny_call (PySem.HandSPX.call_kw (rest := []) F.excBase_ValueError (fun Y => PySem.HandSPX.refsVE_contains Y bm hbm) (I1.kIn _ _ hC) (PySem.W.looks_findIn I1.kIn iC) (fun self => PySem.W.bind_fn I1.kIn self tI) (Nat.zero_le _)
    (codeAny_mono (F1.run _ X.stack _ _ ⟨[Value.ref (hp.objs.size + 1)], ks.zip ws⟩ (g [Value.ref (hp.objs.size + 1)] ws) _ _ (fun _ _ _ => False) (hr.make C [] (ks.zip ws)) (I2.env0.make C [] (ks.zip ws)) (hb.to _ [Value.ref (hp.objs.size + 1)] ws I2.kIn rfl (rz.length.symm.trans l2)) r2 hq) fun r s' hq' => ?_))
  cases r with
  | error er => exact hx pins σ _ _ er s' I2 hq'
  | ok fl =>
    cases fl with
    | ret u =>
      obtain ⟨v, H2, os2, bare2, un2, hok2, rv, ev, d, fs, ea, ed, hd1, q2⟩ := hq'
      subst ev
      obtain ⟨h2, g2, d2, t2, os'⟩ := s'
      exact ⟨rv, mk_end (raises_own T.exC T.tyC) I1 hsz kk un2 hok2 os2 bare2 ea ed hd1 q2⟩
    | next => exact False.elim hq'
    | brk => exact False.elim hq'
    | cont => exact False.elim hq'
/-- what makes an exception gives a value -/
theorem pe_ofMk {t : L2.St → Hp → XK → Prop} (h : PMk X e t) : PE X e (fun σ H Q => t σ H fun cls d H' => ∀ (a : Addr) (oe : Obj), H' a = none → Zc cls d oe → (∃ ws, oe.data = .fields ws) → Q (.ref a) (upd H' a (.frz oe (.own 0)))) := by
  refine ⟨fun pins s σ H Q I q => ?_⟩
  refine wpAny_mono (h pins s σ H _ I q) (fun u s' hu => ?_) fun _ _ x => x
  obtain ⟨a, oe, vs, sI, H', cls, d, rfl, J, keep, gone, he, hz, hd, _, na, os, ag, _, q⟩ := hu
  have J2 : Inv X pins σ H' { s' with heap := sI.heap } := ⟨J.ok, os.trans J.os, ag, J.base, J.loc, J.cell, J.free, J.freeC, J.pin, J.hok, J.len⟩
  have J3 : Inv X pins σ (upd H' a (.frz oe (.own 0))) s' := J2.laidN (t' := s'.toks) (h' := s'.heap) keep gone na ⟨he, ⟨oe, he⟩⟩
  exact ⟨.ref a, _, J3, rfl, q a oe na hz ⟨_, hd⟩⟩
end
/-! ### in data -/
def mkX (x f : Str) (args : CA) : CE := fun en M => (args en M).bind fun ds M1 => match ds with
  | [d] => .ok (.ref M1.length) (M1 ++ [.exc x [(f, d)]])
  | _ => .err
def mkX0 (x : Str) : CE := fun _ M => .ok (.ref M.length) (M ++ [.exc x []])
section
variable {P : Program} {w : World} {K : PySem.W.Frag} {mg : Str → Option Value} {base : Heap} {ct : CT}
/-- as ExcC, called by the keyword p -/
structure ExcK (P : Program) (w : World) (K : PySem.W.Frag) (mg : Str → Option Value) (base : Heap) (ct : CT) (x f p : Str) : Prop where
  ex : ∃ (C fI : Addr) (fd : FuncData) (ps : List Str), OexC K C ∧ PySem.W.findIn K (.ref C) "__init__" = some (some (.ref fI)) ∧ PySem.W.typeIn K (.ref fI) = some (.type "function") ∧
    FnOk P w K mg base (L2.CX P w) 1 fI fd ps (SpInit C f) ∧ KBn K fd ps 1 [p] (fun us ws => pick [0, 1] (us ++ ws)) (fun us ws => pick [0, 1] (us ++ ws)) ∧ mg x = some (.ref C) ∧ ct x = C
end
section
variable {X : Cx} {ct : CT} {b : Base} {W : WX} {e : Expr} {es : List Expr} {x f k : Str} {p p2 pos : Pos} {args : CA} {kws : List Keyword} {m : Str} {j : Nat}
/-- the end: the object's dict stands, the object is the store's last thing -/
theorem mkX_go {C : Addr} {d : D} {v : V} {w1 : Wd} {M1 : Store} {H1 : Hp} {Q : VK} (hct : ct x = C) (r1 : Rl X.K ct w1 M1 H1) (xv : Rep X.K w1 d v)
    (p1 : ∀ w' v' H', Step w1 H1 w' H' → Rl X.K ct w' (M1 ++ [.exc x [(f, d)]]) H' → Rep X.K w' (.ref M1.length) v' → Q v' H') (a : Addr) (na : H1 a = none) :
    SpInit C f [.ref a, v] (upd H1 a (exo a C none)) (fun u H2 => u = .non ∧ ∃ (d : Addr) (fs : List (Str × V)), H2 a = some (exo a C (some d)) ∧ H2 d = some (exd d fs) ∧ H1 d = none ∧
      ∀ (a' : Addr) (oe : Obj), (upd (del H2 a) d (.xd fs)) a' = none → Zc (.ref C) (some d) oe → (∃ ws, oe.data = .fields ws) → Q (.ref a') (upd (upd (del H2 a) d (.xd fs)) a' (.frz oe (.own 0)))) (fun _ _ _ => False) := by
  refine ⟨a, v, rfl, upd_same, fun dx n ne => ⟨rfl, dx, [(f, v)], upd_same, ?_, ?_, ?_⟩⟩
  · rw [upd_ne ne, upd_same]
  · rw [upd_ne ne] at n
    exact n
  · have n1 : H1 dx = none := by
      rw [upd_ne ne] at n
      exact n
    have eH : upd (del (upd (upd (upd H1 a (exo a C none)) dx (exd dx [(f, v)])) a (exo a C (some dx))) a) dx (HO.xd [(f, v)]) = upd H1 dx (HO.xd [(f, v)]) := by
      funext c
      by_cases hcd : c = dx
      · rw [hcd, upd_same, upd_same]
      · rw [upd_ne hcd, upd_ne hcd]
        by_cases hca : c = a
        · rw [hca, del_same, na]
        · rw [del_ne hca, upd_ne hca, upd_ne hcd, upd_ne hca]
    rw [eH]
    intro a' oe na' hz hd
    obtain ⟨s2, r2⟩ := r1.frozen (o := HO.xd [(f, v)]) n1 trivial
    have ro : RepO X.K ct ⟨w1.ρ, upd w1.F dx (HO.xd [(f, v)])⟩ (.exc x [(f, d)]) (.frz oe (.own 0)) := ⟨oe, some dx, rfl, by rw [hct]; exact hz, hd, .inr ⟨dx, [v], rfl, upd_same, .one (s2.rep xv)⟩⟩
    obtain ⟨s3, r3⟩ := r2.alloc na' ro
    refine p1 _ (.ref a') _ (s2.trans s3) r3 ?_
    simp only [Rep]
    refine ⟨a', rfl, ?_⟩
    rw [r2.len, List.getElem?_append_right (Nat.le_refl _)]
    simp
/-- C(e) -/
theorem pd_mkX (T : ExcC X.prog X.w X.K X.mg X.base ct x f) (hr : Room 2 X.A) (ha : PAD X ct b W args (e :: es)) (hg : Gl X x := by rfl) (hdb : (x == ("__debug__" : Str)) = false := by decide)
    (he : starEach (e :: es) X.env = (false, eval e X.env) :: starEach es X.env := by rfl) (hpl : (backTo pos (starEach es X.env)).any (·.1) = false := by rfl) :
    PD X ct b W (mkX x f args) (.Call (.Name x p) (e :: es) [] pos) := by
  obtain ⟨C, fI, fd, ps, T1, hi, ht, F, hb, hm, hct⟩ := T.ex
  refine PE.wk (pe_ofMk (pmk_oex (ds := []) (dvs := []) T1 hi ht F hr hb .nil (fun _ _ _ _ _ _ _ h => by
    obtain ⟨_, _, _, _, _, _, _, _, _, _, _, _, z⟩ := h
    exact z.elim) hg hm ha hdb he hpl)) fun σ H Q h => ?_
  obtain ⟨w, en, M, S, rl, q⟩ := h
  refine ⟨w, en, M, S, rl, (Post.bind q).imp (fun ds M1 q w1 vs H1 s1 r1 x1 => ?_) fun _ _ _ q => q⟩
  match ds, q, x1 with
  | [d], q, x1 =>
    rw [RepL.cons_iff] at x1
    obtain ⟨v, r0, rfl, xv, xr⟩ := x1
    rw [RepL.nil_iff] at xr
    subst xr
    exact ⟨by simp, fun a na => mkX_go hct r1 xv (fun w' v' H' s r y => q w' v' H' (s1.trans s) r y) a na⟩
/-- C(k = e) -/
theorem pd_mkXk (T : ExcK X.prog X.w X.K X.mg X.base ct x f k) (hr : Room 2 X.A) (ha : PKD X ct b W args kws) (hg : Gl X x := by rfl)
    (hall : (backToKw pos (keywordEach kws X.env)).all (·.1.isSome) = true := by rfl) (hks : (backToKw pos (keywordEach kws X.env)).filterMap (·.1) = [k] := by rfl) (hdb : (x == ("__debug__" : Str)) = false := by decide)
    (hpl : ((backTo pos (starEach [] X.env)).any (·.1) || (backToKw pos (keywordEach kws X.env)).any (·.1.isNone)) = false := by rfl) :
    PD X ct b W (mkX x f args) (.Call (.Name x p) [] kws pos) := by
  obtain ⟨C, fI, fd, ps, T1, hi, ht, F, hb, hm, hct⟩ := T.ex
  refine PE.wk (pe_ofMk (pmk_oexK T1 hi ht F hr hb (fun _ _ _ _ _ _ _ h => by
    obtain ⟨_, _, _, _, _, _, _, _, _, _, _, _, z⟩ := h
    exact z.elim) hg hm ha hall hks hdb hpl)) fun σ H Q h => ?_
  obtain ⟨w, en, M, S, rl, q⟩ := h
  refine ⟨w, en, M, S, rl, (Post.bind q).imp (fun ds M1 q w1 vs H1 s1 r1 x1 => ?_) fun _ _ _ q => q⟩
  match ds, q, x1 with
  | [d], q, x1 =>
    rw [RepL.cons_iff] at x1
    obtain ⟨v, r0, rfl, xv, xr⟩ := x1
    rw [RepL.nil_iff] at xr
    subst xr
    exact ⟨rfl, fun a na => mkX_go hct r1 xv (fun w' v' H' s r y => q w' v' H' (s1.trans s) r y) a na⟩
/-- C('m'), C without an own __init__ -/
theorem pd_mkX0 (T : ExcP X.K X.mg ct x) (hg : Gl X x := by rfl) (hdb : (x == ("__debug__" : Str)) = false := by decide) : PD X ct b W (mkX0 x) (.Call (.Name x p) [.Constant (.str m) j p2] [] pos) := by
  obtain ⟨C, hm, hct, q, kC, eC, tC⟩ := T.ex
  refine PE.wk (pe_ofMk (pmk_own (m := m) (j := j) F.excBase_ValueError q hm kC (raises_own eC tC) hg hdb)) fun σ H Q h => ?_
  obtain ⟨w, en, M, S, rl, q⟩ := h
  intro a oe na hz hd
  have ro : RepO X.K ct w (.exc x []) (.frz oe (.own 0)) := ⟨oe, none, rfl, by rw [hct]; exact hz, hd, .inl ⟨rfl, rfl⟩⟩
  obtain ⟨s3, r3⟩ := rl.alloc na ro
  refine q _ (.ref a) _ s3 r3 ?_
  simp only [Rep]
  refine ⟨a, rfl, ?_⟩
  rw [rl.len, List.getElem?_append_right (Nat.le_refl _)]
  simp
end
/-! ### the machine -/
section
variable {en : En} {M : Store} {E : EX}
def kMkX (x f : Str) (Q : D → Store → Prop) (ds : List D) (M : Store) : Prop := match ds with
  | [d] => Q (.ref M.length) (M ++ [.exc x [(f, d)]])
  | _ => False
@[simp] theorem kMkX_app {x f : Str} {Q : D → Store → Prop} {d : D} : kMkX x f Q [d] M = Q (.ref M.length) (M ++ [.exc x [(f, d)]]) := rfl
@[simp] theorem m_mkX {x f : Str} {args : CA} {Q : D → Store → Prop} : Post (mkX x f args en M) Q E = Post (args en M) (kMkX x f Q) E := by
  simp only [mkX, Post_bind_eq]
  congr 1
  funext ds M1
  match ds with
  | [] => rfl
  | [d] => rfl
  | _ :: _ :: _ => rfl
@[simp] theorem m_mkX0 {x : Str} {Q : D → Store → Prop} : Post (mkX0 x en M) Q E = Q (.ref M.length) (M ++ [.exc x []]) := rfl
end
end DL

namespace KX
open PySem PySem.Spec PyProof.Rows L2 DL
def top (i : Nat) : Stmt := PySem.Challenge.pw_blindpour_k01_names_and_exceptions.main.body.getD i (.Pass ⟨0, 0, 0, 0⟩)
abbrev s_is_name : Stmt := (top 3)
abbrev s__law_source : Stmt := (top 19)
abbrev s__law_draw : Stmt := (top 20)
abbrev s__law_choice : Stmt := (top 21)
abbrev s__law_is_name : Stmt := (top 22)
abbrev s__law_text : Stmt := (top 23)
abbrev s__law_value : Stmt := (top 24)
abbrev s__law_fields : Stmt := (top 25)
abbrev s__law_kinds : Stmt := (top 26)
abbrev s_law : Stmt := (top 27)
/-- the names of the top that the defs read -/
structure Gm (K : PySem.W.Frag) (mg : Str → Option Value) : Prop where
  LETTERS : Glb K mg "LETTERS" (.str "abcdefghijklmnopqrstuvwxyz")
  LONGEST_NAME : Glb K mg "LONGEST_NAME" (.int 6)
  ValueError : mg "ValueError" = none
  all : mg "all" = none
  enumerate : mg "enumerate" = none
  isinstance : mg "isinstance" = none
  len : mg "len" = none
  range : mg "range" = none
  repr : mg "repr" = none
  str : mg "str" = none
section
variable {P : Program} {w : World} {K : PySem.W.Frag} {mg : Str → Option Value} {base : Heap} {ct : CT}
noncomputable def c_is_name : CS := seqS (ifS (bOr (bNot (bTru (hd (eIsi .str (hd (eVar 0)))))) (bNot (bChain gLe gLe (hd (eC (.int 1))) (hd (eCall gLen (ahCons (hd (eVar 0)) (ahNil)))) (hd (eC (.int 6)))))) (retS (eC (.bl false))) (nilS)) <| retS (eCall gAll (ahCons (hd (frz (nComp (iSeqK (eVar 0)) (.name 1) [1] (tYesD) (eOp gIn (hd (eVar 1)) (hd (eC (.str "abcdefghijklmnopqrstuvwxyz"))))))) (ahNil)))
noncomputable def f_is_name : CF := mkF 1 2 c_is_name
set_option maxHeartbeats 4000000 in
theorem ok_is_name {f : Addr} {fd : FuncData} (F : Fun K "is_name" "is_name" s_is_name f fd) (G : Gm K mg) (hK : KNice K) : FnG P w K mg base (L2.CX P w) 1 f fd ["value"] (SpD K ct f_is_name) :=
  fn_g (N := ["value", "letter"]) F ⟨rfl, rfl, rfl, by decide +kernel, rfl, by decide +kernel, by decide +kernel⟩ fun cdv A outer s H E b W hgd C => (psd_cons (psd_if (ptd_w (pwd_or (ptd_not (pt_tru (phd (pd_isi (T := .str) G.isinstance G.str (by rfl) (phd (pd_var (i := 0))))))) (pwd_or1 (ptd_not (ptd_chain ov_le ov_le (phd pd_int) (phd (pd_callB cv_len G.len (by rfl) (pah_cons (phd (pd_var (i := 0))) pah_nil))) (phd (pd_glob G.LONGEST_NAME))))))) (psd_one (psd_ret pd_bl)) psd_nil) (psd_one (psd_ret (pd_callB (cv_all C.hc) G.all (by rfl) (pah_cons (phd (pd_frz (pn_comp (own := [("letter", 1)]) C.hc C.hN (pid_seqK (pd_var (i := 0))) (fun _ _ _ _ _ => (pgd_name (i := 1) C.hN)) (fun _ _ _ _ _ => ptsd_nil) (fun _ _ _ _ _ => (pd_cmp (ov_in C.hu) (phd (pd_var (i := 1))) (phd (pd_glob G.LETTERS))))))) pah_nil)))))
noncomputable def c__law_source : CS := retS (alc (nDisp [(eC (.str "great"), alc (nComp (iSeqK (eVar 0)) (.name 1) [1] (bT gGe (hd (eVar 1)) (hd (eOp gPow (hd (eC (.int 10))) (hd (eC (.int 18)))))) (eVar 1))), (eC (.str "rest"), eC (.int 0)), (eC (.str "count"), eC (.int 0)), (eC (.str "seed"), eC (.int 7)), (eC (.str "cells"), eOp gAdd (hd (alc (nComp (iSeqK (eVar 0)) (.name 1) [1] (tYesD) (eOp gMod (hd (eVar 1)) (hd (eC (.int 2147483629))))))) (hd (alc (nLst (aCons (eC (.int 77)) (aNil))))))]))
noncomputable def f__law_source : CF := mkF 1 2 c__law_source
set_option maxHeartbeats 4000000 in
theorem ok__law_source {f : Addr} {fd : FuncData} (F : Fun K "_law_source" "_law_source" s__law_source f fd) (G : Gm K mg) (hK : KNice K) : FnG P w K mg base (L2.CX P w) 1 f fd ["_law_script"] (SpD K ct f__law_source) :=
  fn_g (N := ["_law_script", "_law_cell"]) F ⟨rfl, rfl, rfl, by decide +kernel, rfl, by decide +kernel, by decide +kernel⟩ fun cdv A outer s H E b W hgd C => (psd_one (psd_ret (pd_alc (pn_disp (ppd_cons pd_str (pd_alc (pn_comp (own := [("_law_cell", 1)]) C.hc C.hN (pid_seqK (pd_var (i := 0))) (fun _ _ _ _ _ => (pgd_name (i := 1) C.hN)) (fun _ _ _ _ _ => (ptsd_one (pt_cmpV ov_ge (phd (pd_var (i := 1))) (phd (pd_op ov_pow (phd pd_int) (phd pd_int)))))) (fun _ _ _ _ _ => (pd_var (i := 1))))) (ppd_cons pd_str pd_int (ppd_cons pd_str pd_int (ppd_cons pd_str pd_int (ppd_cons pd_str (pd_op ov_add (phd (pd_alc (pn_comp (own := [("_law_cell", 1)]) C.hc C.hN (pid_seqK (pd_var (i := 0))) (fun _ _ _ _ _ => (pgd_name (i := 1) C.hN)) (fun _ _ _ _ _ => ptsd_nil) (fun _ _ _ _ _ => (pd_op ov_mod (phd (pd_var (i := 1))) (phd pd_int)))))) (phd (pd_alc (pn_lst (pad_cons pd_int pad_nil))))) ppd_nil)))))))))
noncomputable def c__law_draw : CS := seqS (ifS (bAnd (bT gEq (hd (eOp gIx (hd (eVar 0)) (hd (eC (.str "rest"))))) (hd (eC (.int 0)))) (bT gNe (hd (eOp gIx (hd (eVar 0)) (hd (eC (.str "great"))))) (hd (frz (nLst (aNil)))))) (stR (eVar 0) (eC (.str "rest")) (eMut "list" mPopAt (eOp gIx (hd (eVar 0)) (hd (eC (.str "great")))) (aCons (eC (.int 0)) (aNil)))) (nilS)) <| seqS (ifS (bT gGt (hd (eOp gIx (hd (eVar 0)) (hd (eC (.str "rest"))))) (hd (eC (.int 0)))) (seqS (asgS 2 (eOp gMod (hd (eOp gIx (hd (eVar 0)) (hd (eC (.str "rest"))))) (hd (eVar 1)))) <| seqS (stR (eVar 0) (eC (.str "rest")) (eOp gDiv (hd (eOp gIx (hd (eVar 0)) (hd (eC (.str "rest"))))) (hd (eVar 1)))) <| retS (eVar 2)) (nilS)) <| seqS (asgS 3 (eOp gIx (hd (eVar 0)) (hd (eC (.str "count"))))) <| seqS (stR (eVar 0) (eC (.str "count")) (eOp gAdd (hd (eVar 3)) (hd (eC (.int 1))))) <| seqS (asgS 4 (eOp gIx (hd (eOp gIx (hd (eVar 0)) (hd (eC (.str "cells"))))) (hd (eOp gMod (hd (eVar 3)) (hd (eCall gLen (ahCons (hd (eOp gIx (hd (eVar 0)) (hd (eC (.str "cells"))))) (ahNil)))))))) <| seqS (asgS 5 (eOp gMod (hd (eOp gAdd (hd (eOp gAdd (hd (eOp gMul (hd (eOp gIx (hd (eVar 0)) (hd (eC (.str "seed"))))) (hd (eC (.int 48271))))) (hd (eOp gMul (hd (eVar 4)) (hd (eOp gAdd (hd (eOp gMul (hd (eC (.int 2))) (hd (eVar 3)))) (hd (eC (.int 3))))))))) (hd (eOp gPow (hd (eVar 3)) (hd (eC (.int 3))))))) (hd (eC (.int 2147483647))))) <| seqS (stR (eVar 0) (eC (.str "seed")) (eVar 5)) <| seqS (asgS 6 (eOp gAdd (hd (eOp gMul (hd (eOp gMod (hd (eOp gPow (hd (eVar 5)) (hd (eC (.int 2))))) (hd (eC (.int 2147483629))))) (hd (eC (.int 2147483587))))) (hd (eOp gMod (hd (eOp gPow (hd (eVar 5)) (hd (eC (.int 3))))) (hd (eC (.int 2147483579))))))) <| retS (eOp gMod (hd (eOp gDiv (hd (eVar 6)) (hd (eC (.int 7))))) (hd (eVar 1)))
noncomputable def f__law_draw : CF := mkF 2 7 c__law_draw
set_option maxHeartbeats 4000000 in
theorem ok__law_draw {f : Addr} {fd : FuncData} (F : Fun K "_law_draw" "_law_draw" s__law_draw f fd) (G : Gm K mg) (hK : KNice K) : FnG P w K mg base (L2.CX P w) 1 f fd ["_law_source_here", "_law_bound"] (SpD K ct f__law_draw) :=
  fn_g (N := ["_law_source_here", "_law_bound", "_law_digit", "_law_turn", "_law_cell", "_law_seed", "_law_mixed"]) F ⟨rfl, rfl, rfl, by decide +kernel, rfl, by decide +kernel, by decide +kernel⟩ fun cdv A outer s H E b W hgd C => (psd_cons (psd_if (ptd_w (pwd_and (pt_cmpV (ov_eq C.hu) (phd (pd_ix (iv_ix C.hu) (phd (pd_var (i := 0))) (phd pd_str))) (phd pd_int)) (pwd_and1 (pt_cmpV (ov_ne C.hu) (phd (pd_ix (iv_ix C.hu) (phd (pd_var (i := 0))) (phd pd_str))) (phd (pd_frz (pn_lst pad_nil))))))) (psd_one (psd_stR C.hu (pd_var (i := 0)) pd_str (pd_mut met_popAt PySem.F.plainAttrs_list PySem.F.slot_list_pop PySem.F.type_list_pop (pd_ix (iv_ix C.hu) (phd (pd_var (i := 0))) (phd pd_str)) (pad_cons pd_int pad_nil)))) psd_nil) (psd_cons (psd_if (pt_cmpV ov_gt (phd (pd_ix (iv_ix C.hu) (phd (pd_var (i := 0))) (phd pd_str))) (phd pd_int)) (psd_cons (psd_asg (i := 2) C.hN (pd_op ov_mod (phd (pd_ix (iv_ix C.hu) (phd (pd_var (i := 0))) (phd pd_str))) (phd (pd_var (i := 1))))) (psd_cons (psd_stR C.hu (pd_var (i := 0)) pd_str (pd_op ov_div (phd (pd_ix (iv_ix C.hu) (phd (pd_var (i := 0))) (phd pd_str))) (phd (pd_var (i := 1))))) (psd_one (psd_ret (pd_var (i := 2)))))) psd_nil) (psd_cons (psd_asg (i := 3) C.hN (pd_ix (iv_ix C.hu) (phd (pd_var (i := 0))) (phd pd_str))) (psd_cons (psd_stR C.hu (pd_var (i := 0)) pd_str (pd_op ov_add (phd (pd_var (i := 3))) (phd pd_int))) (psd_cons (psd_asg (i := 4) C.hN (pd_ix (iv_ix C.hu) (phd (pd_ix (iv_ix C.hu) (phd (pd_var (i := 0))) (phd pd_str))) (phd (pd_op ov_mod (phd (pd_var (i := 3))) (phd (pd_callB cv_len G.len (by rfl) (pah_cons (phd (pd_ix (iv_ix C.hu) (phd (pd_var (i := 0))) (phd pd_str))) pah_nil))))))) (psd_cons (psd_asg (i := 5) C.hN (pd_op ov_mod (phd (pd_op ov_add (phd (pd_op ov_add (phd (pd_op ov_mul (phd (pd_ix (iv_ix C.hu) (phd (pd_var (i := 0))) (phd pd_str))) (phd pd_int))) (phd (pd_op ov_mul (phd (pd_var (i := 4))) (phd (pd_op ov_add (phd (pd_op ov_mul (phd pd_int) (phd (pd_var (i := 3))))) (phd pd_int))))))) (phd (pd_op ov_pow (phd (pd_var (i := 3))) (phd pd_int))))) (phd pd_int))) (psd_cons (psd_stR C.hu (pd_var (i := 0)) pd_str (pd_var (i := 5))) (psd_cons (psd_asg (i := 6) C.hN (pd_op ov_add (phd (pd_op ov_mul (phd (pd_op ov_mod (phd (pd_op ov_pow (phd (pd_var (i := 5))) (phd pd_int))) (phd pd_int))) (phd pd_int))) (phd (pd_op ov_mod (phd (pd_op ov_pow (phd (pd_var (i := 5))) (phd pd_int))) (phd pd_int))))) (psd_one (psd_ret (pd_op ov_mod (phd (pd_op ov_div (phd (pd_var (i := 6))) (phd pd_int))) (phd (pd_var (i := 1))))))))))))))
noncomputable def c__law_choice : CS := retS (eOp gIx (hd (eVar 1)) (hd (eFn f__law_draw (aCons (eVar 0) (aCons (eCall gLen (ahCons (hd (eVar 1)) (ahNil))) (aNil))))))
noncomputable def f__law_choice : CF := mkF 2 2 c__law_choice
set_option maxHeartbeats 4000000 in
theorem ok__law_choice {f : Addr} {fd : FuncData} (F : Fun K "_law_choice" "_law_choice" s__law_choice f fd) (G : Gm K mg) (hK : KNice K) (h__law_draw : CalleeG P w K mg base ct "_law_draw" 1 f__law_draw) : FnG P w K mg base (L2.CX P w) 2 f fd ["_law_source_here", "_law_options"] (SpD K ct f__law_choice) :=
  fn_g (N := ["_law_source_here", "_law_options"]) F ⟨rfl, rfl, rfl, by decide +kernel, rfl, by decide +kernel, by decide +kernel⟩ fun cdv A outer s H E b W hgd C => (psd_one (psd_ret (pd_ix (iv_ix C.hu) (phd (pd_var (i := 1))) (phd (pd_callG h__law_draw hgd (C.hr.mono (by decide)) C.tk (pad_cons (pd_var (i := 0)) (pad_cons (pd_callB cv_len G.len (by rfl) (pah_cons (phd (pd_var (i := 1))) pah_nil)) pad_nil)))))))
noncomputable def c__law_is_name : CS := seqS (ifS (bOr (bNot (bTru (hd (eIsi .str (hd (eVar 0)))))) (bNot (bChain gLe gLe (hd (eC (.int 1))) (hd (eCall gLen (ahCons (hd (eVar 0)) (ahNil)))) (hd (eC (.int 6)))))) (retS (eC (.bl false))) (nilS)) <| retS (eOp gEq (hd (frz (nComp (iSeqK (eVar 0)) (.name 1) [1] (bT gNotIn (hd (eVar 1)) (hd (eC (.str "abcdefghijklmnopqrstuvwxyz")))) (eVar 1)))) (hd (frz (nLst (aNil)))))
noncomputable def f__law_is_name : CF := mkF 1 2 c__law_is_name
set_option maxHeartbeats 4000000 in
theorem ok__law_is_name {f : Addr} {fd : FuncData} (F : Fun K "_law_is_name" "_law_is_name" s__law_is_name f fd) (G : Gm K mg) (hK : KNice K) : FnG P w K mg base (L2.CX P w) 1 f fd ["_law_item"] (SpD K ct f__law_is_name) :=
  fn_g (N := ["_law_item", "_law_letter"]) F ⟨rfl, rfl, rfl, by decide +kernel, rfl, by decide +kernel, by decide +kernel⟩ fun cdv A outer s H E b W hgd C => (psd_cons (psd_if (ptd_w (pwd_or (ptd_not (pt_tru (phd (pd_isi (T := .str) G.isinstance G.str (by rfl) (phd (pd_var (i := 0))))))) (pwd_or1 (ptd_not (ptd_chain ov_le ov_le (phd pd_int) (phd (pd_callB cv_len G.len (by rfl) (pah_cons (phd (pd_var (i := 0))) pah_nil))) (phd pd_int)))))) (psd_one (psd_ret pd_bl)) psd_nil) (psd_one (psd_ret (pd_cmp (ov_eq C.hu) (phd (pd_frz (pn_comp (own := [("_law_letter", 1)]) C.hc C.hN (pid_seqK (pd_var (i := 0))) (fun _ _ _ _ _ => (pgd_name (i := 1) C.hN)) (fun _ _ _ _ _ => (ptsd_one (pt_cmpV (ov_notin C.hu) (phd (pd_var (i := 1))) (phd pd_str)))) (fun _ _ _ _ _ => (pd_var (i := 1)))))) (phd (pd_frz (pn_lst pad_nil)))))))
noncomputable def c__law_text : CS := seqS (asgS 1 (eC (.str "abcdefghijklmnopqrstuvwxyz"))) <| seqS (asgS 2 (eSM gJoin (eC (.str "")) (aCons (frz (nComp (iRange1 (aCons (eFn f__law_draw (aCons (eVar 0) (aCons (eC (.int 10)) (aNil)))) (aNil))) (.name 5) [5] (tYesD) (eFn f__law_choice (aCons (eVar 0) (aCons (eVar 1) (aNil)))))) (aNil)))) <| seqS (asgS 3 (eFn f__law_draw (aCons (eVar 0) (aCons (eOp gAdd (hd (eCall gLen (ahCons (hd (eVar 2)) (ahNil)))) (hd (eC (.int 1)))) (aNil))))) <| seqS (asgS 4 (eFn f__law_choice (aCons (eVar 0) (aCons (frz (nLst (aCons (eC (.str "")) (aCons (eC (.str "")) (aCons (eC (.str "")) (aCons (eC (.str "A")) (aCons (eC (.str "Z")) (aCons (eC (.str " ")) (aCons (eC (.str "1")) (aCons (eC (.str "_")) (aCons (eC (.str "-")) (aCons (eC (.str "\n")) (aCons (eC (.str "`")) (aCons (eC (.str "{")) (aNil))))))))))))))) (aNil))))) <| retS (eOp gAdd (hd (eOp gAdd (hd (eSlS (eVar 2) none (some (eVar 3)))) (hd (eVar 4)))) (hd (eSlS (eVar 2) (some (eVar 3)) none)))
noncomputable def f__law_text : CF := mkF 1 6 c__law_text
set_option maxHeartbeats 4000000 in
theorem ok__law_text {f : Addr} {fd : FuncData} (F : Fun K "_law_text" "_law_text" s__law_text f fd) (G : Gm K mg) (hK : KNice K) (h__law_choice : CalleeG P w K mg base ct "_law_choice" 2 f__law_choice) (h__law_draw : CalleeG P w K mg base ct "_law_draw" 1 f__law_draw) : FnG P w K mg base (L2.CX P w) 3 f fd ["_law_source_here"] (SpD K ct f__law_text) :=
  fn_g (N := ["_law_source_here", "_law_letters", "_law_text_here", "_law_place", "_law_character", "_law_k"]) F ⟨rfl, rfl, rfl, by decide +kernel, rfl, by decide +kernel, by decide +kernel⟩ fun cdv A outer s H E b W hgd C => (psd_cons (psd_asg (i := 1) C.hN pd_str) (psd_cons (psd_asg (i := 2) C.hN (pd_sm sm_join PySem.F.plainAttrs_str PySem.F.slot_str_join PySem.F.type_str_join pd_str (pad_cons (pd_frz (pn_comp (own := [("_law_k", 5)]) C.hc C.hN (pid_range1 G.range (pad_cons (pd_callG h__law_draw hgd (C.hr.mono (by decide)) C.tk (pad_cons (pd_var (i := 0)) (pad_cons pd_int pad_nil))) pad_nil)) (fun _ _ _ _ _ => (pgd_name (i := 5) C.hN)) (fun _ _ _ _ _ => ptsd_nil) (fun _ _ _ _ _ => (pd_callG h__law_choice hgd (C.hr.mono (by decide)) takesW0 (pad_cons (pd_var (i := 0)) (pad_cons (pd_var (i := 1)) pad_nil)))))) pad_nil))) (psd_cons (psd_asg (i := 3) C.hN (pd_callG h__law_draw hgd (C.hr.mono (by decide)) C.tk (pad_cons (pd_var (i := 0)) (pad_cons (pd_op ov_add (phd (pd_callB cv_len G.len (by rfl) (pah_cons (phd (pd_var (i := 2))) pah_nil))) (phd pd_int)) pad_nil)))) (psd_cons (psd_asg (i := 4) C.hN (pd_callG h__law_choice hgd (C.hr.mono (by decide)) C.tk (pad_cons (pd_var (i := 0)) (pad_cons (pd_frz (pn_lst (pad_cons pd_str (pad_cons pd_str (pad_cons pd_str (pad_cons pd_str (pad_cons pd_str (pad_cons pd_str (pad_cons pd_str (pad_cons pd_str (pad_cons pd_str (pad_cons pd_str (pad_cons pd_str (pad_cons pd_str pad_nil)))))))))))))) pad_nil)))) (psd_one (psd_ret (pd_op ov_add (phd (pd_op ov_add (phd (pd_slS (pd_var (i := 2)) pod_none (pod_some (pd_var (i := 3))))) (phd (pd_var (i := 4))))) (phd (pd_slS (pd_var (i := 2)) (pod_some (pd_var (i := 3))) pod_none)))))))))
noncomputable def c__law_value : CS := seqS (asgS 1 (eFn f__law_text (aCons (eVar 0) (aNil)))) <| retS (eFn f__law_choice (aCons (eVar 0) (aCons (frz (nLst (aCons (eVar 1) (aCons (eVar 1) (aCons (eVar 1) (aCons (eVar 1) (aCons (eC .non) (aCons (eC (.int 5)) (aCons (eC (.bl true)) (aCons (frz (nLst (aCons (eVar 1) (aNil)))) (aCons (eTup (aCons (eVar 1) (aNil))) (aCons (frz (nDisp [(eVar 1, eC (.int 1))])) (aCons (eUn gNeg (hd (eC (.int 1)))) (aCons (eTup (aNil)) (aNil))))))))))))))) (aNil))))
noncomputable def f__law_value : CF := mkF 1 2 c__law_value
set_option maxHeartbeats 4000000 in
theorem ok__law_value {f : Addr} {fd : FuncData} (F : Fun K "_law_value" "_law_value" s__law_value f fd) (G : Gm K mg) (hK : KNice K) (h__law_choice : CalleeG P w K mg base ct "_law_choice" 2 f__law_choice) (h__law_text : CalleeG P w K mg base ct "_law_text" 3 f__law_text) : FnG P w K mg base (L2.CX P w) 4 f fd ["_law_source_here"] (SpD K ct f__law_value) :=
  fn_g (N := ["_law_source_here", "_law_text_here"]) F ⟨rfl, rfl, rfl, by decide +kernel, rfl, by decide +kernel, by decide +kernel⟩ fun cdv A outer s H E b W hgd C => (psd_cons (psd_asg (i := 1) C.hN (pd_callG h__law_text hgd (C.hr.mono (by decide)) C.tk (pad_cons (pd_var (i := 0)) pad_nil))) (psd_one (psd_ret (pd_callG h__law_choice hgd (C.hr.mono (by decide)) C.tk (pad_cons (pd_var (i := 0)) (pad_cons (pd_frz (pn_lst (pad_cons (pd_var (i := 1)) (pad_cons (pd_var (i := 1)) (pad_cons (pd_var (i := 1)) (pad_cons (pd_var (i := 1)) (pad_cons pd_non (pad_cons pd_int (pad_cons pd_bl (pad_cons (pd_frz (pn_lst (pad_cons (pd_var (i := 1)) pad_nil))) (pad_cons (pd_tup (pad_cons (pd_var (i := 1)) pad_nil)) (pad_cons (pd_frz (pn_disp (ppd_cons (pd_var (i := 1)) pd_int ppd_nil))) (pad_cons (pd_un uv_neg (phd pd_int)) (pad_cons (pd_tup pad_nil) pad_nil)))))))))))))) pad_nil))))))
noncomputable def c__law_fields : CS := seqS (asgS 0 (frz (nLst (aCons (eTup (aCons (mkX "InvalidName" "name" (aCons (eC (.int 5)) (aNil))) (aCons (eXkF "name" ["DuplicateName", "InvalidCapacity", "InvalidName"] (mkX "InvalidName" "name" (aCons (eC (.int 5)) (aNil)))) (aNil)))) (aCons (eTup (aCons (mkX "DuplicateName" "name" (aCons (eC (.str "a")) (aNil))) (aCons (eXkF "name" ["DuplicateName", "InvalidCapacity", "InvalidName"] (mkX "DuplicateName" "name" (aCons (eC (.str "a")) (aNil)))) (aNil)))) (aNil)))))) <| seqS (asgS 0 (eOp gAdd (hd (eVar 0)) (hd (frz (nLst (aCons (eTup (aCons (mkX "InvalidCapacity" "name" (aCons (eC .non) (aNil))) (aCons (eXkF "name" ["DuplicateName", "InvalidCapacity", "InvalidName"] (mkX "InvalidCapacity" "name" (aCons (eC .non) (aNil)))) (aNil)))) (aCons (eTup (aCons (mkX "InvalidAction" "index" (aCons (eC (.int 3)) (aNil))) (aCons (eXkF "index" ["InvalidAction", "InvalidOutcome", "InvalidSymbol", "InvalidTie"] (mkX "InvalidAction" "index" (aCons (eC (.int 3)) (aNil)))) (aNil)))) (aNil)))))))) <| seqS (asgS 0 (eOp gAdd (hd (eVar 0)) (hd (frz (nLst (aCons (eTup (aCons (mkX "InvalidOutcome" "index" (aCons (eC (.int 4)) (aNil))) (aCons (eXkF "index" ["InvalidAction", "InvalidOutcome", "InvalidSymbol", "InvalidTie"] (mkX "InvalidOutcome" "index" (aCons (eC (.int 4)) (aNil)))) (aNil)))) (aCons (eTup (aCons (mkX "InvalidTie" "index" (aCons (eC (.int 2)) (aNil))) (aCons (eXkF "index" ["InvalidAction", "InvalidOutcome", "InvalidSymbol", "InvalidTie"] (mkX "InvalidTie" "index" (aCons (eC (.int 2)) (aNil)))) (aNil)))) (aNil)))))))) <| seqS (asgS 0 (eOp gAdd (hd (eVar 0)) (hd (frz (nLst (aCons (eTup (aCons (mkX "Contradiction" "certificate" (aCons (eTup (aNil)) (aNil))) (aCons (eXkF "certificate" ["Contradiction"] (mkX "Contradiction" "certificate" (aCons (eTup (aNil)) (aNil)))) (aNil)))) (aCons (eTup (aCons (mkX "InvalidSymbol" "index" (aCons (eC (.int 7)) (aNil))) (aCons (eXkF "index" ["InvalidAction", "InvalidOutcome", "InvalidSymbol", "InvalidTie"] (mkX "InvalidSymbol" "index" (aCons (eC (.int 7)) (aNil)))) (aNil)))) (aNil)))))))) <| seqS (asgS 0 (eOp gAdd (hd (eVar 0)) (hd (frz (nLst (aCons (eTup (aCons (mkX "InvalidNumber" "number" (aCons (eUn gNeg (hd (eC (.int 1)))) (aNil))) (aCons (eXkF "number" ["InvalidNumber"] (mkX "InvalidNumber" "number" (aCons (eUn gNeg (hd (eC (.int 1)))) (aNil)))) (aNil)))) (aCons (eTup (aCons (mkX "InvalidText" "line" (aCons (eC (.int 9)) (aNil))) (aCons (eXkF "line" ["InvalidText"] (mkX "InvalidText" "line" (aCons (eC (.int 9)) (aNil)))) (aNil)))) (aNil)))))))) <| seqS (asgS 1 (frz (nLst (aCons (eXkF "name" ["DuplicateName", "InvalidCapacity", "InvalidName"] (mkX "InvalidName" "name" (aCons (eC (.int 5)) aNil))) (aCons (eXkF "name" ["DuplicateName", "InvalidCapacity", "InvalidName"] (mkX "DuplicateName" "name" (aCons (eC (.str "a")) aNil))) (aCons (eXkF "name" ["DuplicateName", "InvalidCapacity", "InvalidName"] (mkX "InvalidCapacity" "name" (aCons (eC .non) aNil))) (aNil))))))) <| seqS (asgS 1 (eOp gAdd (hd (eVar 1)) (hd (frz (nLst (aCons (eXkF "index" ["InvalidAction", "InvalidOutcome", "InvalidSymbol", "InvalidTie"] (mkX "InvalidAction" "index" (aCons (eC (.int 3)) aNil))) (aCons (eXkF "index" ["InvalidAction", "InvalidOutcome", "InvalidSymbol", "InvalidTie"] (mkX "InvalidOutcome" "index" (aCons (eC (.int 4)) aNil))) (aCons (eXkF "index" ["InvalidAction", "InvalidOutcome", "InvalidSymbol", "InvalidTie"] (mkX "InvalidTie" "index" (aCons (eC (.int 2)) aNil))) (aNil))))))))) <| seqS (asgS 1 (eOp gAdd (hd (eVar 1)) (hd (frz (nLst (aCons (eXkF "certificate" ["Contradiction"] (mkX "Contradiction" "certificate" (aCons (eTup (aNil)) aNil))) (aCons (eXkF "index" ["InvalidAction", "InvalidOutcome", "InvalidSymbol", "InvalidTie"] (mkX "InvalidSymbol" "index" (aCons (eC (.int 7)) aNil))) (aNil)))))))) <| seqS (asgS 1 (eOp gAdd (hd (eVar 1)) (hd (frz (nLst (aCons (eXkF "number" ["InvalidNumber"] (mkX "InvalidNumber" "number" (aCons (eUn gNeg (hd (eC (.int 1)))) aNil))) (aCons (eXkF "line" ["InvalidText"] (mkX "InvalidText" "line" (aCons (eC (.int 9)) aNil))) (aNil)))))))) <| retS (eTup (aCons (eVar 0) (aCons (eVar 1) (aNil))))
noncomputable def f__law_fields : CF := mkF 0 2 c__law_fields
set_option maxHeartbeats 4000000 in
theorem ok__law_fields {f : Addr} {fd : FuncData} (F : Fun K "_law_fields" "_law_fields" s__law_fields f fd) (G : Gm K mg) (hK : KNice K) (x_Contradiction : ExcC P w K mg base ct "Contradiction" "certificate") (x_DuplicateName : ExcC P w K mg base ct "DuplicateName" "name") (x_InvalidAction : ExcC P w K mg base ct "InvalidAction" "index") (x_InvalidCapacity : ExcC P w K mg base ct "InvalidCapacity" "name") (x_InvalidName : ExcC P w K mg base ct "InvalidName" "name") (x_InvalidNumber : ExcC P w K mg base ct "InvalidNumber" "number") (x_InvalidOutcome : ExcC P w K mg base ct "InvalidOutcome" "index") (x_InvalidSymbol : ExcC P w K mg base ct "InvalidSymbol" "index") (x_InvalidText : ExcC P w K mg base ct "InvalidText" "line") (x_InvalidTie : ExcC P w K mg base ct "InvalidTie" "index") (y_Contradiction : ExcK P w K mg base ct "Contradiction" "certificate" "certificate") (y_DuplicateName : ExcK P w K mg base ct "DuplicateName" "name" "name") (y_InvalidAction : ExcK P w K mg base ct "InvalidAction" "index" "index") (y_InvalidCapacity : ExcK P w K mg base ct "InvalidCapacity" "name" "name") (y_InvalidName : ExcK P w K mg base ct "InvalidName" "name" "name") (y_InvalidNumber : ExcK P w K mg base ct "InvalidNumber" "number" "number") (y_InvalidOutcome : ExcK P w K mg base ct "InvalidOutcome" "index" "index") (y_InvalidSymbol : ExcK P w K mg base ct "InvalidSymbol" "index" "index") (y_InvalidText : ExcK P w K mg base ct "InvalidText" "line" "line") (y_InvalidTie : ExcK P w K mg base ct "InvalidTie" "index" "index") (w_certificate : XkFT K ct "certificate" ["Contradiction"]) (w_index : XkFT K ct "index" ["InvalidAction", "InvalidOutcome", "InvalidSymbol", "InvalidTie"]) (w_line : XkFT K ct "line" ["InvalidText"]) (w_name : XkFT K ct "name" ["DuplicateName", "InvalidCapacity", "InvalidName"]) (w_number : XkFT K ct "number" ["InvalidNumber"]) : FnG P w K mg base (L2.CX P w) 3 f fd [] (SpD K ct f__law_fields) :=
  fn_g (N := ["_law_first", "_law_second"]) F ⟨rfl, rfl, rfl, by decide +kernel, rfl, by decide +kernel, by decide +kernel⟩ fun cdv A outer s H E b W hgd C => (psd_cons (psd_asg (i := 0) C.hN (pd_frz (pn_lst (pad_cons (pd_tup (pad_cons (pd_mkX x_InvalidName (C.hr.mono (by decide)) (pad_cons pd_int pad_nil)) (pad_cons (pd_xkf w_name (pd_mkX x_InvalidName (C.hr.mono (by decide)) (pad_cons pd_int pad_nil))) pad_nil))) (pad_cons (pd_tup (pad_cons (pd_mkX x_DuplicateName (C.hr.mono (by decide)) (pad_cons pd_str pad_nil)) (pad_cons (pd_xkf w_name (pd_mkX x_DuplicateName (C.hr.mono (by decide)) (pad_cons pd_str pad_nil))) pad_nil))) pad_nil))))) (psd_cons (psd_asg (i := 0) C.hN (pd_op ov_add (phd (pd_var (i := 0))) (phd (pd_frz (pn_lst (pad_cons (pd_tup (pad_cons (pd_mkX x_InvalidCapacity (C.hr.mono (by decide)) (pad_cons pd_non pad_nil)) (pad_cons (pd_xkf w_name (pd_mkX x_InvalidCapacity (C.hr.mono (by decide)) (pad_cons pd_non pad_nil))) pad_nil))) (pad_cons (pd_tup (pad_cons (pd_mkX x_InvalidAction (C.hr.mono (by decide)) (pad_cons pd_int pad_nil)) (pad_cons (pd_xkf w_index (pd_mkX x_InvalidAction (C.hr.mono (by decide)) (pad_cons pd_int pad_nil))) pad_nil))) pad_nil))))))) (psd_cons (psd_asg (i := 0) C.hN (pd_op ov_add (phd (pd_var (i := 0))) (phd (pd_frz (pn_lst (pad_cons (pd_tup (pad_cons (pd_mkX x_InvalidOutcome (C.hr.mono (by decide)) (pad_cons pd_int pad_nil)) (pad_cons (pd_xkf w_index (pd_mkX x_InvalidOutcome (C.hr.mono (by decide)) (pad_cons pd_int pad_nil))) pad_nil))) (pad_cons (pd_tup (pad_cons (pd_mkX x_InvalidTie (C.hr.mono (by decide)) (pad_cons pd_int pad_nil)) (pad_cons (pd_xkf w_index (pd_mkX x_InvalidTie (C.hr.mono (by decide)) (pad_cons pd_int pad_nil))) pad_nil))) pad_nil))))))) (psd_cons (psd_asg (i := 0) C.hN (pd_op ov_add (phd (pd_var (i := 0))) (phd (pd_frz (pn_lst (pad_cons (pd_tup (pad_cons (pd_mkX x_Contradiction (C.hr.mono (by decide)) (pad_cons (pd_tup pad_nil) pad_nil)) (pad_cons (pd_xkf w_certificate (pd_mkX x_Contradiction (C.hr.mono (by decide)) (pad_cons (pd_tup pad_nil) pad_nil))) pad_nil))) (pad_cons (pd_tup (pad_cons (pd_mkX x_InvalidSymbol (C.hr.mono (by decide)) (pad_cons pd_int pad_nil)) (pad_cons (pd_xkf w_index (pd_mkX x_InvalidSymbol (C.hr.mono (by decide)) (pad_cons pd_int pad_nil))) pad_nil))) pad_nil))))))) (psd_cons (psd_asg (i := 0) C.hN (pd_op ov_add (phd (pd_var (i := 0))) (phd (pd_frz (pn_lst (pad_cons (pd_tup (pad_cons (pd_mkX x_InvalidNumber (C.hr.mono (by decide)) (pad_cons (pd_un uv_neg (phd pd_int)) pad_nil)) (pad_cons (pd_xkf w_number (pd_mkX x_InvalidNumber (C.hr.mono (by decide)) (pad_cons (pd_un uv_neg (phd pd_int)) pad_nil))) pad_nil))) (pad_cons (pd_tup (pad_cons (pd_mkX x_InvalidText (C.hr.mono (by decide)) (pad_cons pd_int pad_nil)) (pad_cons (pd_xkf w_line (pd_mkX x_InvalidText (C.hr.mono (by decide)) (pad_cons pd_int pad_nil))) pad_nil))) pad_nil))))))) (psd_cons (psd_asg (i := 1) C.hN (pd_frz (pn_lst (pad_cons (pd_xkf w_name (pd_mkXk y_InvalidName (C.hr.mono (by decide)) (pkd_cons pd_int pkd_nil))) (pad_cons (pd_xkf w_name (pd_mkXk y_DuplicateName (C.hr.mono (by decide)) (pkd_cons pd_str pkd_nil))) (pad_cons (pd_xkf w_name (pd_mkXk y_InvalidCapacity (C.hr.mono (by decide)) (pkd_cons pd_non pkd_nil))) pad_nil)))))) (psd_cons (psd_asg (i := 1) C.hN (pd_op ov_add (phd (pd_var (i := 1))) (phd (pd_frz (pn_lst (pad_cons (pd_xkf w_index (pd_mkXk y_InvalidAction (C.hr.mono (by decide)) (pkd_cons pd_int pkd_nil))) (pad_cons (pd_xkf w_index (pd_mkXk y_InvalidOutcome (C.hr.mono (by decide)) (pkd_cons pd_int pkd_nil))) (pad_cons (pd_xkf w_index (pd_mkXk y_InvalidTie (C.hr.mono (by decide)) (pkd_cons pd_int pkd_nil))) pad_nil)))))))) (psd_cons (psd_asg (i := 1) C.hN (pd_op ov_add (phd (pd_var (i := 1))) (phd (pd_frz (pn_lst (pad_cons (pd_xkf w_certificate (pd_mkXk y_Contradiction (C.hr.mono (by decide)) (pkd_cons (pd_tup pad_nil) pkd_nil))) (pad_cons (pd_xkf w_index (pd_mkXk y_InvalidSymbol (C.hr.mono (by decide)) (pkd_cons pd_int pkd_nil))) pad_nil))))))) (psd_cons (psd_asg (i := 1) C.hN (pd_op ov_add (phd (pd_var (i := 1))) (phd (pd_frz (pn_lst (pad_cons (pd_xkf w_number (pd_mkXk y_InvalidNumber (C.hr.mono (by decide)) (pkd_cons (pd_un uv_neg (phd pd_int)) pkd_nil))) (pad_cons (pd_xkf w_line (pd_mkXk y_InvalidText (C.hr.mono (by decide)) (pkd_cons pd_int pkd_nil))) pad_nil))))))) (psd_one (psd_ret (pd_tup (pad_cons (pd_var (i := 0)) (pad_cons (pd_var (i := 1)) pad_nil))))))))))))))
noncomputable def c__law_kinds : CS := seqS (asgS 1 (frz (nLst (aCons (eXk [("Contradiction", false), ("DuplicateName", false), ("InvalidAction", false), ("InvalidCapacity", false), ("InvalidForm", false), ("InvalidName", true), ("InvalidNumber", false), ("InvalidOutcome", false), ("InvalidSymbol", false), ("InvalidText", false), ("InvalidTie", false), ("Mismatch", false), ("PourError", false)] (eVar 0)) (aCons (eXk [("Contradiction", false), ("DuplicateName", true), ("InvalidAction", false), ("InvalidCapacity", false), ("InvalidForm", false), ("InvalidName", false), ("InvalidNumber", false), ("InvalidOutcome", false), ("InvalidSymbol", false), ("InvalidText", false), ("InvalidTie", false), ("Mismatch", false), ("PourError", false)] (eVar 0)) (aCons (eXk [("Contradiction", false), ("DuplicateName", false), ("InvalidAction", false), ("InvalidCapacity", true), ("InvalidForm", false), ("InvalidName", false), ("InvalidNumber", false), ("InvalidOutcome", false), ("InvalidSymbol", false), ("InvalidText", false), ("InvalidTie", false), ("Mismatch", false), ("PourError", false)] (eVar 0)) (aNil))))))) <| seqS (asgS 1 (eOp gAdd (hd (eVar 1)) (hd (frz (nLst (aCons (eXk [("Contradiction", false), ("DuplicateName", false), ("InvalidAction", true), ("InvalidCapacity", false), ("InvalidForm", false), ("InvalidName", false), ("InvalidNumber", false), ("InvalidOutcome", false), ("InvalidSymbol", false), ("InvalidText", false), ("InvalidTie", false), ("Mismatch", false), ("PourError", false)] (eVar 0)) (aCons (eXk [("Contradiction", false), ("DuplicateName", false), ("InvalidAction", false), ("InvalidCapacity", false), ("InvalidForm", false), ("InvalidName", false), ("InvalidNumber", false), ("InvalidOutcome", true), ("InvalidSymbol", false), ("InvalidText", false), ("InvalidTie", false), ("Mismatch", false), ("PourError", false)] (eVar 0)) (aCons (eXk [("Contradiction", false), ("DuplicateName", false), ("InvalidAction", false), ("InvalidCapacity", false), ("InvalidForm", false), ("InvalidName", false), ("InvalidNumber", false), ("InvalidOutcome", false), ("InvalidSymbol", false), ("InvalidText", false), ("InvalidTie", true), ("Mismatch", false), ("PourError", false)] (eVar 0)) (aNil))))))))) <| seqS (asgS 1 (eOp gAdd (hd (eVar 1)) (hd (frz (nLst (aCons (eXk [("Contradiction", true), ("DuplicateName", false), ("InvalidAction", false), ("InvalidCapacity", false), ("InvalidForm", false), ("InvalidName", false), ("InvalidNumber", false), ("InvalidOutcome", false), ("InvalidSymbol", false), ("InvalidText", false), ("InvalidTie", false), ("Mismatch", false), ("PourError", false)] (eVar 0)) (aCons (eXk [("Contradiction", false), ("DuplicateName", false), ("InvalidAction", false), ("InvalidCapacity", false), ("InvalidForm", false), ("InvalidName", false), ("InvalidNumber", false), ("InvalidOutcome", false), ("InvalidSymbol", true), ("InvalidText", false), ("InvalidTie", false), ("Mismatch", false), ("PourError", false)] (eVar 0)) (aNil)))))))) <| seqS (asgS 1 (eOp gAdd (hd (eVar 1)) (hd (frz (nLst (aCons (eXk [("Contradiction", false), ("DuplicateName", false), ("InvalidAction", false), ("InvalidCapacity", false), ("InvalidForm", false), ("InvalidName", false), ("InvalidNumber", true), ("InvalidOutcome", false), ("InvalidSymbol", false), ("InvalidText", false), ("InvalidTie", false), ("Mismatch", false), ("PourError", false)] (eVar 0)) (aCons (eXk [("Contradiction", false), ("DuplicateName", false), ("InvalidAction", false), ("InvalidCapacity", false), ("InvalidForm", false), ("InvalidName", false), ("InvalidNumber", false), ("InvalidOutcome", false), ("InvalidSymbol", false), ("InvalidText", true), ("InvalidTie", false), ("Mismatch", false), ("PourError", false)] (eVar 0)) (aNil)))))))) <| retS (eOp gAdd (hd (eVar 1)) (hd (frz (nLst (aCons (eXk [("Contradiction", false), ("DuplicateName", false), ("InvalidAction", false), ("InvalidCapacity", false), ("InvalidForm", true), ("InvalidName", false), ("InvalidNumber", false), ("InvalidOutcome", false), ("InvalidSymbol", false), ("InvalidText", false), ("InvalidTie", false), ("Mismatch", false), ("PourError", false)] (eVar 0)) (aCons (eXk [("Contradiction", false), ("DuplicateName", false), ("InvalidAction", false), ("InvalidCapacity", false), ("InvalidForm", false), ("InvalidName", false), ("InvalidNumber", false), ("InvalidOutcome", false), ("InvalidSymbol", false), ("InvalidText", false), ("InvalidTie", false), ("Mismatch", true), ("PourError", false)] (eVar 0)) (aNil)))))))
noncomputable def f__law_kinds : CF := mkF 1 2 c__law_kinds
set_option maxHeartbeats 4000000 in
theorem ok__law_kinds {f : Addr} {fd : FuncData} (F : Fun K "_law_kinds" "_law_kinds" s__law_kinds f fd) (G : Gm K mg) (hK : KNice K) (u__law_kinds_0 : XkH K mg ct "InvalidCapacity" [("Contradiction", false), ("DuplicateName", false), ("InvalidAction", false), ("InvalidCapacity", true), ("InvalidForm", false), ("InvalidName", false), ("InvalidNumber", false), ("InvalidOutcome", false), ("InvalidSymbol", false), ("InvalidText", false), ("InvalidTie", false), ("Mismatch", false), ("PourError", false)]) (u__law_kinds_1 : XkH K mg ct "DuplicateName" [("Contradiction", false), ("DuplicateName", true), ("InvalidAction", false), ("InvalidCapacity", false), ("InvalidForm", false), ("InvalidName", false), ("InvalidNumber", false), ("InvalidOutcome", false), ("InvalidSymbol", false), ("InvalidText", false), ("InvalidTie", false), ("Mismatch", false), ("PourError", false)]) (u__law_kinds_2 : XkH K mg ct "InvalidName" [("Contradiction", false), ("DuplicateName", false), ("InvalidAction", false), ("InvalidCapacity", false), ("InvalidForm", false), ("InvalidName", true), ("InvalidNumber", false), ("InvalidOutcome", false), ("InvalidSymbol", false), ("InvalidText", false), ("InvalidTie", false), ("Mismatch", false), ("PourError", false)]) (u__law_kinds_3 : XkH K mg ct "InvalidTie" [("Contradiction", false), ("DuplicateName", false), ("InvalidAction", false), ("InvalidCapacity", false), ("InvalidForm", false), ("InvalidName", false), ("InvalidNumber", false), ("InvalidOutcome", false), ("InvalidSymbol", false), ("InvalidText", false), ("InvalidTie", true), ("Mismatch", false), ("PourError", false)]) (u__law_kinds_4 : XkH K mg ct "InvalidOutcome" [("Contradiction", false), ("DuplicateName", false), ("InvalidAction", false), ("InvalidCapacity", false), ("InvalidForm", false), ("InvalidName", false), ("InvalidNumber", false), ("InvalidOutcome", true), ("InvalidSymbol", false), ("InvalidText", false), ("InvalidTie", false), ("Mismatch", false), ("PourError", false)]) (u__law_kinds_5 : XkH K mg ct "InvalidAction" [("Contradiction", false), ("DuplicateName", false), ("InvalidAction", true), ("InvalidCapacity", false), ("InvalidForm", false), ("InvalidName", false), ("InvalidNumber", false), ("InvalidOutcome", false), ("InvalidSymbol", false), ("InvalidText", false), ("InvalidTie", false), ("Mismatch", false), ("PourError", false)]) (u__law_kinds_6 : XkH K mg ct "InvalidSymbol" [("Contradiction", false), ("DuplicateName", false), ("InvalidAction", false), ("InvalidCapacity", false), ("InvalidForm", false), ("InvalidName", false), ("InvalidNumber", false), ("InvalidOutcome", false), ("InvalidSymbol", true), ("InvalidText", false), ("InvalidTie", false), ("Mismatch", false), ("PourError", false)]) (u__law_kinds_7 : XkH K mg ct "Contradiction" [("Contradiction", true), ("DuplicateName", false), ("InvalidAction", false), ("InvalidCapacity", false), ("InvalidForm", false), ("InvalidName", false), ("InvalidNumber", false), ("InvalidOutcome", false), ("InvalidSymbol", false), ("InvalidText", false), ("InvalidTie", false), ("Mismatch", false), ("PourError", false)]) (u__law_kinds_8 : XkH K mg ct "InvalidText" [("Contradiction", false), ("DuplicateName", false), ("InvalidAction", false), ("InvalidCapacity", false), ("InvalidForm", false), ("InvalidName", false), ("InvalidNumber", false), ("InvalidOutcome", false), ("InvalidSymbol", false), ("InvalidText", true), ("InvalidTie", false), ("Mismatch", false), ("PourError", false)]) (u__law_kinds_9 : XkH K mg ct "InvalidNumber" [("Contradiction", false), ("DuplicateName", false), ("InvalidAction", false), ("InvalidCapacity", false), ("InvalidForm", false), ("InvalidName", false), ("InvalidNumber", true), ("InvalidOutcome", false), ("InvalidSymbol", false), ("InvalidText", false), ("InvalidTie", false), ("Mismatch", false), ("PourError", false)]) (u__law_kinds_10 : XkH K mg ct "Mismatch" [("Contradiction", false), ("DuplicateName", false), ("InvalidAction", false), ("InvalidCapacity", false), ("InvalidForm", false), ("InvalidName", false), ("InvalidNumber", false), ("InvalidOutcome", false), ("InvalidSymbol", false), ("InvalidText", false), ("InvalidTie", false), ("Mismatch", true), ("PourError", false)]) (u__law_kinds_11 : XkH K mg ct "InvalidForm" [("Contradiction", false), ("DuplicateName", false), ("InvalidAction", false), ("InvalidCapacity", false), ("InvalidForm", true), ("InvalidName", false), ("InvalidNumber", false), ("InvalidOutcome", false), ("InvalidSymbol", false), ("InvalidText", false), ("InvalidTie", false), ("Mismatch", false), ("PourError", false)]) : FnG P w K mg base (L2.CX P w) 1 f fd ["_law_error"] (SpD K ct f__law_kinds) :=
  fn_g (N := ["_law_error", "_law_marks"]) F ⟨rfl, rfl, rfl, by decide +kernel, rfl, by decide +kernel, by decide +kernel⟩ fun cdv A outer s H E b W hgd C => (psd_cons (psd_asg (i := 1) C.hN (pd_frz (pn_lst (pad_cons (pd_xkH u__law_kinds_2 G.isinstance (pd_var (i := 0))) (pad_cons (pd_xkH u__law_kinds_1 G.isinstance (pd_var (i := 0))) (pad_cons (pd_xkH u__law_kinds_0 G.isinstance (pd_var (i := 0))) pad_nil)))))) (psd_cons (psd_asg (i := 1) C.hN (pd_op ov_add (phd (pd_var (i := 1))) (phd (pd_frz (pn_lst (pad_cons (pd_xkH u__law_kinds_5 G.isinstance (pd_var (i := 0))) (pad_cons (pd_xkH u__law_kinds_4 G.isinstance (pd_var (i := 0))) (pad_cons (pd_xkH u__law_kinds_3 G.isinstance (pd_var (i := 0))) pad_nil)))))))) (psd_cons (psd_asg (i := 1) C.hN (pd_op ov_add (phd (pd_var (i := 1))) (phd (pd_frz (pn_lst (pad_cons (pd_xkH u__law_kinds_7 G.isinstance (pd_var (i := 0))) (pad_cons (pd_xkH u__law_kinds_6 G.isinstance (pd_var (i := 0))) pad_nil))))))) (psd_cons (psd_asg (i := 1) C.hN (pd_op ov_add (phd (pd_var (i := 1))) (phd (pd_frz (pn_lst (pad_cons (pd_xkH u__law_kinds_9 G.isinstance (pd_var (i := 0))) (pad_cons (pd_xkH u__law_kinds_8 G.isinstance (pd_var (i := 0))) pad_nil))))))) (psd_one (psd_ret (pd_op ov_add (phd (pd_var (i := 1))) (phd (pd_frz (pn_lst (pad_cons (pd_xkH u__law_kinds_11 G.isinstance (pd_var (i := 0))) (pad_cons (pd_xkH u__law_kinds_10 G.isinstance (pd_var (i := 0))) pad_nil))))))))))))
noncomputable def c_law : CS := seqS (asgS 1 (eFn f__law_source (aCons (eVar 0) (aNil)))) <| seqS (forS (iRange1 (aCons (eC (.int 12)) (aNil))) (.name 2) (seqS (asgS 3 (eFn f__law_value (aCons (eVar 1) (aNil)))) <| seqS (asgS 4 (eFn f__law_is_name (aCons (eVar 3) (aNil)))) <| ifS (bT gNe (hd (eCall gRp (ahCons (hd (frz (nLst (aCons (eFn f_is_name (aCons (eVar 3) (aNil))) (aCons (eCalD 0 1 [0] [] f_is_name (eAA (aNil) (aCons (eVar 3) (aNil)))) (aNil)))))) (ahNil)))) (hd (eCall gRp (ahCons (hd (frz (nLst (aCons (eVar 4) (aCons (eVar 4) (aNil)))))) (ahNil))))) (retS (eC (.bl false))) (nilS))) <| seqS (asgG (.tup [.name 5, .name 6]) (eCalD 0 0 [] [] f__law_fields (eAA (aNil) (aNil)))) <| seqS (asgS 7 (frz (nLst (aCons (eC (.int 5)) (aCons (eC (.str "a")) (aCons (eC .non) (aCons (eC (.int 3)) (aCons (eC (.int 4)) (aCons (eC (.int 2)) (aCons (eTup (aNil)) (aCons (eC (.int 7)) (aCons (eUn gNeg (hd (eC (.int 1)))) (aCons (eC (.int 9)) (aNil)))))))))))))) <| seqS (ifS (bOr (bT gNe (hd (eCall gRp (ahCons (hd (frz (nComp (iSeqK (eVar 5)) (.tup [.name 10, .name 11]) [10, 11] (tYesD) (eVar 11)))) (ahNil)))) (hd (eCall gRp (ahCons (hd (eVar 7)) (ahNil))))) (bT gNe (hd (eCall gRp (ahCons (hd (eVar 6)) (ahNil)))) (hd (eCall gRp (ahCons (hd (eVar 7)) (ahNil)))))) (retS (eC (.bl false))) (nilS)) <| seqS (asgS 8 (eOp gAdd (hd (frz (nComp (iSeqK (eVar 5)) (.tup [.name 10, .name 11]) [10, 11] (tYesD) (eVar 10)))) (hd (frz (nLst (aCons (mkX0 "InvalidForm") (aCons (mkX0 "Mismatch") (aNil)))))))) <| seqS (forS (iEnumD (aCons (eVar 8) (aNil))) (.tup [.name 9, .name 10]) (seqS (ifS (bT gNe (hd (eFn f__law_kinds (aCons (eVar 10) (aNil)))) (hd (frz (nComp (iRange1 (aCons (eC (.int 12)) (aNil))) (.name 12) [12] (tYesD) (eOp gEq (hd (eVar 12)) (hd (eVar 9))))))) (retS (eC (.bl false))) (nilS)) <| ifS (bOr (bNot (bTru (hd (eXk [("Contradiction", true), ("DuplicateName", true), ("InvalidAction", true), ("InvalidCapacity", true), ("InvalidForm", true), ("InvalidName", true), ("InvalidNumber", true), ("InvalidOutcome", true), ("InvalidSymbol", true), ("InvalidText", true), ("InvalidTie", true), ("Mismatch", true), ("PourError", true)] (eVar 10))))) (bNot (bTru (hd (eXk [("Contradiction", true), ("DuplicateName", true), ("InvalidAction", true), ("InvalidCapacity", true), ("InvalidForm", true), ("InvalidName", true), ("InvalidNumber", true), ("InvalidOutcome", true), ("InvalidSymbol", true), ("InvalidText", true), ("InvalidTie", true), ("Mismatch", true), ("PourError", true)] (eVar 10)))))) (retS (eC (.bl false))) (nilS))) <| retS (eAnd (eXk [("Contradiction", true), ("DuplicateName", true), ("InvalidAction", true), ("InvalidCapacity", true), ("InvalidForm", true), ("InvalidName", true), ("InvalidNumber", true), ("InvalidOutcome", true), ("InvalidSymbol", true), ("InvalidText", true), ("InvalidTie", true), ("Mismatch", true), ("PourError", true)] (mkX0 "PourError")) (eOp gNotIn (hd (eC (.bl true))) (hd (eFn f__law_kinds (aCons (mkX0 "PourError") (aNil))))))
noncomputable def f_law : CF := mkF 1 13 c_law
set_option maxHeartbeats 4000000 in
theorem ok_law {f : Addr} {fd : FuncData} (F : Fun K "law" "law" s_law f fd) (G : Gm K mg) (hK : KNice K) (h__law_is_name : CalleeG P w K mg base ct "_law_is_name" 1 f__law_is_name) (h__law_kinds : CalleeG P w K mg base ct "_law_kinds" 1 f__law_kinds) (h__law_source : CalleeG P w K mg base ct "_law_source" 1 f__law_source) (h__law_value : CalleeG P w K mg base ct "_law_value" 4 f__law_value) (h_is_name : CalleeG P w K mg base ct "is_name" 1 f_is_name) (q__law_fields_0 : CalC P w K mg base ct "_law_fields" 3 0 [] [] [] f__law_fields) (q_is_name_0_value : CalC P w K mg base ct "is_name" 1 0 ["value"] [0] [] f_is_name) (x_InvalidForm : ExcP K mg ct "InvalidForm") (x_Mismatch : ExcP K mg ct "Mismatch") (x_PourError : ExcP K mg ct "PourError") (u_law_0 : XkH K mg ct "PourError" [("Contradiction", true), ("DuplicateName", true), ("InvalidAction", true), ("InvalidCapacity", true), ("InvalidForm", true), ("InvalidName", true), ("InvalidNumber", true), ("InvalidOutcome", true), ("InvalidSymbol", true), ("InvalidText", true), ("InvalidTie", true), ("Mismatch", true), ("PourError", true)]) (u_law_1 : XkT K ct [.type "ValueError"] [("Contradiction", true), ("DuplicateName", true), ("InvalidAction", true), ("InvalidCapacity", true), ("InvalidForm", true), ("InvalidName", true), ("InvalidNumber", true), ("InvalidOutcome", true), ("InvalidSymbol", true), ("InvalidText", true), ("InvalidTie", true), ("Mismatch", true), ("PourError", true)]) : FnG P w K mg base (L2.CX P w) 5 f fd ["_law_script"] (SpD K ct f_law) :=
  fn_g (N := ["_law_script", "_law_source_here", "_law_trial", "_law_item", "_law_expected", "_law_built", "_law_second", "_law_fields_here", "_law_errors", "_law_position", "_law_error", "_law_field", "_law_k"]) F ⟨rfl, rfl, rfl, by decide +kernel, rfl, by decide +kernel, by decide +kernel⟩ fun cdv A outer s H E b W hgd C => (psd_cons (psd_asg (i := 1) C.hN (pd_callG h__law_source hgd (C.hr.mono (by decide)) C.tk (pad_cons (pd_var (i := 0)) pad_nil))) (psd_cons (psd_for C.hp C.hc (pid_range1 G.range (pad_cons pd_int pad_nil)) (pgd_name (i := 2) C.hN) (psd_cons (psd_asg (i := 3) C.hN (pd_callG h__law_value hgd (C.hr.mono (by decide)) C.tk (pad_cons (pd_var (i := 1)) pad_nil))) (psd_cons (psd_asg (i := 4) C.hN (pd_callG h__law_is_name hgd (C.hr.mono (by decide)) C.tk (pad_cons (pd_var (i := 3)) pad_nil))) (psd_one (psd_if (pt_cmpV (ov_ne C.hu) (phd (pd_callB (cv_repr2 hgd C.hu) G.repr (by rfl) (pah_cons (phd (pd_frz (pn_lst (pad_cons (pd_callG h_is_name hgd (C.hr.mono (by decide)) C.tk (pad_cons (pd_var (i := 3)) pad_nil)) (pad_cons (pd_calD (ks := ["value"]) q_is_name_0_value (by exact hgd) (by exact C.hr.mono (by decide)) C.tk (pca_0k (pkd_cons (pd_var (i := 3)) pkd_nil))) pad_nil))))) pah_nil))) (phd (pd_callB (cv_repr2 hgd C.hu) G.repr (by rfl) (pah_cons (phd (pd_frz (pn_lst (pad_cons (pd_var (i := 4)) (pad_cons (pd_var (i := 4)) pad_nil))))) pah_nil)))) (psd_one (psd_ret pd_bl)) psd_nil))))) (psd_cons (psd_asgG (pd_calD (ks := []) q__law_fields_0 (by exact hgd) (by exact C.hr.mono (by decide)) C.tk pca_00) (pgd_tup C.hc (pgsd_cons (pgd_name (i := 5) C.hN) (pgsd_cons (pgd_name (i := 6) C.hN) pgsd_nil)))) (psd_cons (psd_asg (i := 7) C.hN (pd_frz (pn_lst (pad_cons pd_int (pad_cons pd_str (pad_cons pd_non (pad_cons pd_int (pad_cons pd_int (pad_cons pd_int (pad_cons (pd_tup pad_nil) (pad_cons pd_int (pad_cons (pd_un uv_neg (phd pd_int)) (pad_cons pd_int pad_nil))))))))))))) (psd_cons (psd_if (ptd_w (pwd_or (pt_cmpV (ov_ne C.hu) (phd (pd_callB (cv_repr2 hgd C.hu) G.repr (by rfl) (pah_cons (phd (pd_frz (pn_comp (own := [("_law_error", 10), ("_law_field", 11)]) C.hc C.hN (pid_seqK (pd_var (i := 5))) (fun _ _ _ _ _ => (pgd_tup C.hc (pgsd_cons (pgd_name (i := 10) C.hN) (pgsd_cons (pgd_name (i := 11) C.hN) pgsd_nil)))) (fun _ _ _ _ _ => ptsd_nil) (fun _ _ _ _ _ => (pd_var (i := 11)))))) pah_nil))) (phd (pd_callB (cv_repr2 hgd C.hu) G.repr (by rfl) (pah_cons (phd (pd_var (i := 7))) pah_nil)))) (pwd_or1 (pt_cmpV (ov_ne C.hu) (phd (pd_callB (cv_repr2 hgd C.hu) G.repr (by rfl) (pah_cons (phd (pd_var (i := 6))) pah_nil))) (phd (pd_callB (cv_repr2 hgd C.hu) G.repr (by rfl) (pah_cons (phd (pd_var (i := 7))) pah_nil))))))) (psd_one (psd_ret pd_bl)) psd_nil) (psd_cons (psd_asg (i := 8) C.hN (pd_op ov_add (phd (pd_frz (pn_comp (own := [("_law_error", 10), ("_law_field", 11)]) C.hc C.hN (pid_seqK (pd_var (i := 5))) (fun _ _ _ _ _ => (pgd_tup C.hc (pgsd_cons (pgd_name (i := 10) C.hN) (pgsd_cons (pgd_name (i := 11) C.hN) pgsd_nil)))) (fun _ _ _ _ _ => ptsd_nil) (fun _ _ _ _ _ => (pd_var (i := 10)))))) (phd (pd_frz (pn_lst (pad_cons (pd_mkX0 x_InvalidForm) (pad_cons (pd_mkX0 x_Mismatch) pad_nil))))))) (psd_cons (psd_for C.hp C.hc (piw_enum G.enumerate (pad_cons (pd_var (i := 8)) pad_nil)) (pgw_tup C.hc (pgsd_cons (pgd_name (i := 9) C.hN) (pgsd_cons (pgd_name (i := 10) C.hN) pgsd_nil))) (psd_cons (psd_if (pt_cmpV (ov_ne C.hu) (phd (pd_callG h__law_kinds hgd (C.hr.mono (by decide)) C.tk (pad_cons (pd_var (i := 10)) pad_nil))) (phd (pd_frz (pn_comp (own := [("_law_k", 12)]) C.hc C.hN (pid_range1 G.range (pad_cons pd_int pad_nil)) (fun _ _ _ _ _ => (pgd_name (i := 12) C.hN)) (fun _ _ _ _ _ => ptsd_nil) (fun _ _ _ _ _ => (pd_cmp (ov_eq C.hu) (phd (pd_var (i := 12))) (phd (pd_var (i := 9))))))))) (psd_one (psd_ret pd_bl)) psd_nil) (psd_one (psd_if (ptd_w (pwd_or (ptd_not (pt_tru (phd (pd_xkH u_law_0 G.isinstance (pd_var (i := 10)))))) (pwd_or1 (ptd_not (pt_tru (phd (pd_xkB u_law_1 G.isinstance G.ValueError (by rfl) (pd_var (i := 10))))))))) (psd_one (psd_ret pd_bl)) psd_nil)))) (psd_one (psd_ret (pd_and (pd_xkB u_law_1 G.isinstance G.ValueError (by rfl) (pd_mkX0 x_PourError)) (pd_and1 (pd_cmp (ov_notin C.hu) (phd pd_bl) (phd (pd_callG h__law_kinds hgd (C.hr.mono (by decide)) C.tk (pad_cons (pd_mkX0 x_PourError) pad_nil)))))))))))))))
end
end KX

/-! S1: the source of numbers: _law_draw, _law_choice. -/
namespace KX
open PySem PySem.Spec PyProof.Rows L2 DL
def ks5 : List Key := [.inr "great", .inr "rest", .inr "count", .inr "seed", .inr "cells"]
structure SrcOk (gs : List Int) (rest count seed : Int) (cells : List Int) (c : Nat) : Prop where
  g : ∀ x ∈ gs, 0 ≤ x
  r : 0 ≤ rest
  k0 : 0 ≤ count
  k1 : count ≤ c
  s0 : 0 ≤ seed
  s1 : seed < 2147483647
  c0 : cells ≠ []
  c1 : ∀ x ∈ cells, 0 ≤ x ∧ x < 2147483629
def src (gs : List Int) (rest count seed : Int) (cells : List Int) (x1 x2 : MO) (T : Store) : Store := .lst (gs.map D.int) :: x1 :: x2 :: .dic ks5 [.ref 0, .int rest, .int count, .int seed, .lst (cells.map D.int)] :: T
/-- the source, ahead of the things T -/
def SrcT (T : Store) (M : Store) (c : Nat) : Prop := ∃ gs rest count seed cells x1 x2, M = src gs rest count seed cells x1 x2 T ∧ SrcOk gs rest count seed cells c
abbrev Src (M : Store) (c : Nat) : Prop := SrcT [] M c
theorem SrcT.mono {T M : Store} {c c' : Nat} (h : SrcT T M c) (l : c ≤ c') : SrcT T M c' := by
  obtain ⟨gs, rest, count, seed, cells, x1, x2, e, g⟩ := h
  exact ⟨gs, rest, count, seed, cells, x1, x2, e, g.g, g.r, g.k0, by have := g.k1; omega, g.s0, g.s1, g.c0, g.c1⟩
@[simp] theorem dg0 {a b c d e : D} : dget ks5 [a, b, c, d, e] (.inr "great") = some a := by rfl
@[simp] theorem dg1 {a b c d e : D} : dget ks5 [a, b, c, d, e] (.inr "rest") = some b := by rfl
@[simp] theorem dg2 {a b c d e : D} : dget ks5 [a, b, c, d, e] (.inr "count") = some c := by rfl
@[simp] theorem dg3 {a b c d e : D} : dget ks5 [a, b, c, d, e] (.inr "seed") = some d := by rfl
@[simp] theorem dg4 {a b c d e : D} : dget ks5 [a, b, c, d, e] (.inr "cells") = some e := by rfl
@[simp] theorem dp1 {a b c d e x : D} : dput ks5 [a, b, c, d, e] (.inr "rest") x = (ks5, [a, x, c, d, e]) := by rfl
@[simp] theorem dp2 {a b c d e x : D} : dput ks5 [a, b, c, d, e] (.inr "count") x = (ks5, [a, b, x, d, e]) := by rfl
@[simp] theorem dp3 {a b c d e x : D} : dput ks5 [a, b, c, d, e] (.inr "seed") x = (ks5, [a, b, c, x, e]) := by rfl
@[simp] theorem l5 : ks5.length = 5 := rfl
@[simp] theorem putM5 {xs : List D} {x : Str} {d : D} : putM (.dic ks5 xs) (.str x) d = some (.dic (dput ks5 xs (.inr x) d).1 (dput ks5 xs (.inr x) d).2) := putM_dic (by decide)
theorem cells_at {cells : List Int} {j : Int} (h0 : 0 ≤ j) (h1 : j < cells.length) : ∃ z ∈ cells, atI (cells.map D.int) j = some (.int z) := by
  obtain ⟨n, rfl⟩ := Int.eq_ofNat_of_zero_le h0
  have hn : n < cells.length := by omega
  refine ⟨cells[n], List.getElem_mem hn, ?_⟩
  refine (atI_n (n := n)).trans ?_
  simp [hn]
theorem e_take {T M : Store} {c : Nat} {b : Int} {Q : D → Store → Prop} {E : EX} (h : SrcT T M c) (hb : 0 < b) (hb2 : b ≤ 1000000000000000000000000000000000000000000000000000000000000) (hc : c ≤ 1000000000000000) (q : ∀ k M', 0 ≤ k → k < b → SrcT T M' (c + 1) → Q (.int k) M') : Post (f__law_draw [.ref 3, .int b] M) Q E := by
  obtain ⟨gs, rest, count, seed, cells, x1, x2, rfl, g⟩ := h
  have gen : ∀ gs : List Int, (∀ x ∈ gs, 0 ≤ x) → ∀ x1 x2 : MO, Post (f__law_draw [.ref 3, .int b] (src [] 0 count seed cells x1 x2 T)) Q E ∧ Post (f__law_draw [.ref 3, .int b] (src (0 :: gs) 0 count seed cells x1 x2 T)) Q E := by
    intro gs hg x1 x2
    have hl : 0 < cells.length := List.length_pos_iff.mpr g.c0
    have hl' : (0 : Int) < cells.length := by omega
    obtain ⟨z, hz, ez⟩ := cells_at (cells := cells) (j := count % cells.length) (Int.emod_nonneg _ (by omega)) (Int.emod_lt_of_pos _ hl')
    have z1 := (g.c1 z hz).1
    have z2 := (g.c1 z hz).2
    have k0 := g.k0
    have k1 := g.k1
    have s0 := g.s0
    have s1 := g.s1
    have m1 : gMul (.int seed) (.int 48271) = some (.int (seed * 48271)) := gMul_int (by omega) (by omega) (by omega) (by omega)
    have m2 : gMul (.int 2) (.int count) = some (.int (2 * count)) := gMul_int (by omega) (by omega) (by omega) (by omega)
    have m3 : gMul (.int z) (.int (2 * count + 3)) = some (.int (z * (2 * count + 3))) := gMul_int (by omega) (by omega) (by omega) (by omega)
    generalize hs : (seed * 48271 + z * (2 * count + 3) + count ^ 3) % 2147483647 = s'
    have s'0 : 0 ≤ s' := by rw [← hs]; exact Int.emod_nonneg _ (by decide)
    have s'1 : s' < 2147483647 := by rw [← hs]; exact Int.emod_lt_of_pos _ (by decide)
    have n1 := Int.emod_nonneg (s' ^ 2) (show (2147483629 : Int) ≠ 0 by decide)
    have n2 := Int.emod_lt_of_pos (s' ^ 2) (show (0 : Int) < 2147483629 by decide)
    have m4 : gMul (.int (s' ^ 2 % 2147483629)) (.int 2147483587) = some (.int (s' ^ 2 % 2147483629 * 2147483587)) := gMul_int (by omega) (by omega) (by omega) (by omega)
    have m5 : gDiv (.int (s' ^ 2 % 2147483629 * 2147483587 + s' ^ 3 % 2147483579)) (.int 7) = some (.int ((s' ^ 2 % 2147483629 * 2147483587 + s' ^ 3 % 2147483579) / 7)) := gDiv_int (by omega) (by omega)
    constructor
    · simp (disch := omega) [f__law_draw, c__law_draw, src, ez, m1, m2, m3, hs, m4, m5]
      exact q _ _ (Int.emod_nonneg _ (by omega)) (Int.emod_lt_of_pos _ hb) ⟨[], 0, count + 1, s', cells, _, _, rfl, by simp, by omega, by omega, by omega, s'0, s'1, g.c0, g.c1⟩
    · simp (disch := omega) [f__law_draw, c__law_draw, src, ez, m1, m2, m3, hs, m4, m5]
      exact q _ _ (Int.emod_nonneg _ (by omega)) (Int.emod_lt_of_pos _ hb) ⟨gs, 0, count + 1, s', cells, _, _, rfl, hg, by omega, by omega, by omega, s'0, s'1, g.c0, g.c1⟩
  have d1 (r : Int) : gDiv (.int r) (.int b) = some (.int (r / b)) := gDiv_int hb (by omega)
  have k0 := g.k0
  have k1 := g.k1
  by_cases hr : rest = 0
  · subst hr
    cases gs with
    | nil => exact (gen [] (by simp) x1 x2).1
    | cons x gs =>
      have x0 := g.g x List.mem_cons_self
      by_cases hx : 0 < x
      · simp (disch := omega) [f__law_draw, c__law_draw, src, hx, d1]
        exact q _ _ (Int.emod_nonneg _ (by omega)) (Int.emod_lt_of_pos _ hb) ⟨gs, x / b, count, seed, cells, _, _, rfl, fun y hy => g.g y (List.mem_cons_of_mem _ hy), Int.ediv_nonneg (by omega) (by omega), k0, by omega, g.s0, g.s1, g.c0, g.c1⟩
      · have : x = 0 := by omega
        subst this
        exact (gen gs (fun y hy => g.g y (List.mem_cons_of_mem _ hy)) x1 x2).2
  · have r0 := g.r
    have hx : 0 < rest := by omega
    simp (disch := omega) [f__law_draw, c__law_draw, src, hx, hr, d1]
    exact q _ _ (Int.emod_nonneg _ (by omega)) (Int.emod_lt_of_pos _ hb) ⟨gs, rest / b, count, seed, cells, _, _, rfl, g.g, Int.ediv_nonneg (by omega) (by omega), k0, by omega, g.s0, g.s1, g.c0, g.c1⟩
theorem e_pick {T M : Store} {c : Nat} {xs : List D} {Q : D → Store → Prop} {E : EX} (h : SrcT T M c) (hx : xs ≠ []) (hl : xs.length ≤ 1000) (hc : c ≤ 1000000000000000) (q : ∀ x ∈ xs, ∀ M', SrcT T M' (c + 1) → Q x M') : Post (f__law_choice [.ref 3, .lst xs] M) Q E := by
  have hp : 0 < xs.length := List.length_pos_iff.mpr hx
  simp (disch := omega) [f__law_choice, c__law_choice]
  refine e_take (c := c) h (by omega) (by omega) hc fun k M' k0 k1 s => ?_
  obtain ⟨n, rfl⟩ := Int.eq_ofNat_of_zero_le k0
  have hn : n < xs.length := by omega
  simp [atI_n, hn]
  exact q _ (List.getElem_mem hn) _ s
theorem e_pickS {T M : Store} {c : Nat} {cs : List Nat} {Q : D → Store → Prop} {E : EX} (h : SrcT T M c) (hx : cs ≠ []) (hl : cs.length ≤ 1000) (hc : c ≤ 1000000000000000) (q : ∀ x ∈ cs, ∀ M', SrcT T M' (c + 1) → Q (.str (sg x)) M') : Post (f__law_choice [.ref 3, .str (tx' cs)] M) Q E := by
  have hp : 0 < cs.length := List.length_pos_iff.mpr hx
  simp (disch := first | omega | (simp <;> omega) | fail) [f__law_choice, c__law_choice]
  refine e_take (c := c) h (by omega) (by omega) hc fun k M' k0 k1 s => ?_
  obtain ⟨n, rfl⟩ := Int.eq_ofNat_of_zero_le k0
  have hn : n < cs.length := by omega
  have e := ixs_ok' (l := cs) (n := n) (c := cs[n]) (List.getElem?_eq_getElem hn) (by omega)
  simp [e]
  exact q _ (List.getElem_mem hn) _ s
theorem SrcT.len {M : Store} {c : Nat} (h : SrcT [] M c) : M.length = 4 := by
  obtain ⟨gs, rest, count, seed, cells, x1, x2, rfl, g⟩ := h
  rfl
theorem SrcT.push {M : Store} {c : Nat} (h : SrcT [] M c) (o : MO) : SrcT [o] (M ++ [o]) c := by
  obtain ⟨gs, rest, count, seed, cells, x1, x2, rfl, g⟩ := h
  exact ⟨gs, rest, count, seed, cells, x1, x2, rfl, g⟩
end KX

/-! SN (k33): the names that the law draws. -/
namespace KX
open PySem PySem.Spec PyProof.Rows L2 DL
def letters : Str := "abcdefghijklmnopqrstuvwxyz"
structure NameOk (n : Str) : Prop where
  l0 : 1 ≤ n.length
  l1 : n.length ≤ 6
  c : ∀ c ∈ n.cps.toList, c ∈ letters.cps.toList
def abcL : List Nat := [97, 98, 99, 100, 101, 102, 103, 104, 105, 106, 107, 108, 109, 110, 111, 112, 113, 114, 115, 116, 117, 118, 119, 120, 121, 122]
theorem letters_l : letters.cps.toList = abcL := by decide +kernel
theorem letters_tx : Str.ofString "abcdefghijklmnopqrstuvwxyz" = tx' abcL := lit _ _ (by decide +kernel)
theorem e_empty : Str.ofString "" = tx' [] := by rfl
structure NmL (l : List Nat) : Prop where
  n1 : 1 ≤ l.length
  n2 : l.length ≤ 6
  ok : ∀ c ∈ l, c ∈ abcL
theorem NmL.nm {l : List Nat} (h : NmL l) : NameOk (tx' l) := ⟨by rw [tx_len]; exact h.n1, by rw [tx_len]; exact h.n2, fun c hc => by rw [letters_l]; rw [tx_list] at hc; exact h.ok c hc⟩
theorem join_sgs : ∀ l : List Nat, Txt.join (tx' []) (l.map sg) = tx' l := by
  have go : ∀ l : List Nat, (Str.join (tx' []) (l.map sg)).cps.toList = l := fun l => by
    induction l with
    | nil => rfl
    | cons c r ih =>
      cases r with
      | nil => rfl
      | cons e r =>
        rw [List.map_cons, List.map_cons]
        show (sg c ++ tx' [] ++ Str.join (tx' []) (sg e :: r.map sg)).cps.toList = _
        rw [toList_app, toList_app, ← List.map_cons, ih]
        rfl
  intro l
  rw [show Txt.join (tx' []) (l.map sg) = Str.join (tx' []) (l.map sg) from PySem.StrLaws.glued_eq_join _ _]
  exact str_ext (by rw [go, tx_list])
theorem gJoin_sgs {l : List Nat} (h : l.length ≤ 16777216) : gJoin (tx' []) [.lst (l.map fun c => .str (sg c))] = some (.str (tx' l)) := by
  have e : strsD (l.map fun c => D.str (sg c)) = some (l.map sg) := by
    rw [← strsD_map, List.map_map]
    rfl
  have e2 : ((l.map sg).map Str.length).sum = l.length := by
    clear h e
    induction l with
    | nil => rfl
    | cons c r ih =>
      simp only [List.map_cons, List.sum_cons, sg_len, List.length_cons] at ih ⊢
      omega
  show (strsD _).bind _ = _
  rw [e]
  show joinO _ _ = _
  unfold joinO
  rw [if_pos (by rw [e2, List.length_map]; show _ + l.length * (tx' []).length ≤ _; rw [tx_len]; simp only [List.length_nil]; omega), join_sgs]
/-- a map on texts of one sign, given on signs -/
def onSg (f : Nat → D) : D → D
  | .str z => match z.cps.toList with
    | [c] => f c
    | _ => .str z
  | d => d
def onStr {α : Type} (f : Str → α) (a : α) : D → α
  | .str z => f z
  | _ => a
def cand (l : List Nat) : List Str := tx' l :: abcL.map fun c => tx' (l.take 5 ++ [c])
end KX

/-! F0 (k33): names of any values, slices (of k14, k13). -/
namespace KX
open PySem PySem.Spec PyProof.Rows L2 DL
theorem e_let : Str.ofString "abcdefghijklmnopqrstuvwxyz" = letters := rfl
theorem tx_self (n : Str) : tx' n.cps.toList = n := str_ext (by simp)
def itm : D → Bool
  | .ref _ => false
  | .scr _ => false
  | _ => true
def isS : D → Bool
  | .str _ => true
  | _ => false
def isT : D → Bool
  | .tup _ => true
  | _ => false
def isL : D → Bool
  | .lst _ => true
  | _ => false
def isLT : D → Bool
  | .tup _ => true
  | .lst _ => true
  | _ => false
theorem isi_str {d : D} (h : itm d = true) : isi1 .str d = some (.bl (isS d)) := by cases d <;> first | rfl | cases h
theorem vw_itm {d : D} (h : itm d = true) (M : Store) : vwD M d = some d := by cases d <;> first | rfl | cases h
theorem gAll_bools (l : List Bool) : gAll [.lst (l.map D.bl)] = some (.bl (l.all id)) := by
  show (blsD _).map _ = _
  rw [blsD_map]
  rfl
theorem eqL_nil (L : List D) : eqL (eqF 59) L [] = some L.isEmpty := by cases L <;> rfl
def lowB (z : Str) : Bool := z.cps.toList.all fun c => decide (c ∈ letters.cps.toList)
theorem lowB_sg (c : Nat) : lowB (sg c) = decide (c ∈ letters.cps.toList) := by
  have e1 : (sg c).cps.toList = [c] := rfl
  unfold lowB
  rw [e1, List.all_cons, List.all_nil, Bool.and_true]
theorem lowB_tx (l : List Nat) : lowB (tx' l) = l.all fun c => decide (c ∈ letters.cps.toList) := by
  unfold lowB
  rw [tx_list]
def inL : D → D
  | .str w => .bl (lowB w)
  | d => d
def nmB (z : Str) : Bool := decide (1 ≤ z.length ∧ z.length ≤ 6) && lowB z
def nmV : D → Bool
  | .str z => nmB z
  | _ => false
theorem gNotIn_sg {z : Str} {c : Nat} : gNotIn (.str (sg c)) (.str z) = some (.bl (!decide (c ∈ z.cps.toList))) := rfl
theorem e_nameV {d : D} (h : itm d = true) (hz : ∀ z, d = .str z → z.length ≤ 100) (M : Store) : f_is_name [d] M = .ok (.bl (nmV d)) M := by
  have i1 := isi_str h
  have v1 := vw_itm h
  cases d with
  | ref n => cases h
  | scr n => cases h
  | str z =>
    obtain ⟨l, rfl⟩ : ∃ l, z = tx' l := ⟨_, (tx_self z).symm⟩
    have hz : l.length ≤ 100 := by simpa using hz _ rfl
    refine Post.eq ?_
    by_cases c1 : 1 ≤ l.length
    · by_cases c2 : l.length ≤ 6
      · have n1 : (1 : Int) ≤ l.length := by omega
        have n2 : (l.length : Int) ≤ 6 := by omega
        simp (disch := first | omega | (simp <;> omega) | fail) [f_is_name, c_is_name, n1, n2, signs_tx, wipeE, e_let]
        refine comp_all inL (fun d hd => ?_) ?_
        · obtain ⟨c, hc, rfl⟩ := List.mem_map.mp hd
          refine ⟨_, put_name, Post.eq ?_⟩
          have gi : gIn (.str (sg c)) (.str letters) = some (.bl (decide (c ∈ letters.cps.toList))) := gIn_sg
          simp [gi, inL, lowB_sg]
        · have e : List.map inL (l.map fun c => D.str (sg c)) = (l.map fun c => decide (c ∈ letters.cps.toList)).map D.bl := by
            rw [List.map_map, List.map_map]
            refine List.map_congr_left fun c _ => ?_
            simp [inL, lowB_sg]
          rw [e]
          have ga := gAll_bools (l.map fun c => decide (c ∈ letters.cps.toList))
          have en : nmV (.str (tx' l)) = (l.map fun c => decide (c ∈ letters.cps.toList)).all id := by
            rw [List.all_map]
            simp [nmV, nmB, c1, c2, lowB_tx]
          simp only [ga]
          rw [en]
          exact ⟨rfl, rfl⟩
      · have n2 : ¬ (l.length : Int) ≤ 6 := by omega
        have n1 : (1 : Int) ≤ l.length := by omega
        simp (disch := first | omega | (simp <;> omega) | fail) [f_is_name, c_is_name, nmV, nmB, n1, n2, c2]
    · have n1 : ¬ (1 : Int) ≤ l.length := by omega
      simp (disch := first | omega | (simp <;> omega) | fail) [f_is_name, c_is_name, nmV, nmB, n1, c1]
  | _ => exact Post.eq (by simp [f_is_name, c_is_name, i1, v1, isS, nmV])
def notL : D → Bool
  | .str w => !lowB w
  | _ => false
theorem e_nameL {d : D} (h : itm d = true) (hz : ∀ z, d = .str z → z.length ≤ 100) (M : Store) : f__law_is_name [d] M = .ok (.bl (nmV d)) M := by
  have i1 := isi_str h
  have v1 := vw_itm h
  cases d with
  | ref n => cases h
  | scr n => cases h
  | str z =>
    obtain ⟨l, rfl⟩ : ∃ l, z = tx' l := ⟨_, (tx_self z).symm⟩
    have hz : l.length ≤ 100 := by simpa using hz _ rfl
    refine Post.eq ?_
    by_cases c1 : 1 ≤ l.length
    · by_cases c2 : l.length ≤ 6
      · have n1 : (1 : Int) ≤ l.length := by omega
        have n2 : (l.length : Int) ≤ 6 := by omega
        simp (disch := first | omega | (simp <;> omega) | fail) [f__law_is_name, c__law_is_name, n1, n2, signs_tx, wipeE, e_let]
        refine DL.comp_map notL (fun d => d) (fun d hd => ?_) ?_
        · obtain ⟨c, hc, rfl⟩ := List.mem_map.mp hd
          have gi : gNotIn (.str (sg c)) (.str letters) = some (.bl (!decide (c ∈ letters.cps.toList))) := gNotIn_sg
          refine ⟨_, put_name, Post.eq ?_, fun _ => Post.eq (by simp)⟩
          simp [gi, notL, lowB_sg]
        · rw [List.map_id']
          have e : nmV (.str (tx' l)) = (List.filter notL (l.map fun c => D.str (sg c))).isEmpty := by
            have en : nmV (.str (tx' l)) = l.all fun c => decide (c ∈ letters.cps.toList) := by simp [nmV, nmB, c1, c2, lowB_tx]
            rw [en, Bool.eq_iff_iff, List.isEmpty_iff, List.filter_eq_nil_iff, List.all_eq_true]
            constructor
            · intro hh x hx
              obtain ⟨c, hc, rfl⟩ := List.mem_map.mp hx
              have := hh c hc
              simp only [notL, lowB_sg, this]
              simp
            · intro hh c hc
              have := hh _ (List.mem_map.mpr ⟨c, hc, rfl⟩)
              simpa only [notL, lowB_sg, Bool.not_eq_true', Bool.not_eq_false] using this
          rw [e]
          generalize List.filter notL (l.map fun c => D.str (sg c)) = Lf
          have vL : ∀ L : List D, vwD M (.lst L) = some (.lst L) := fun _ => rfl
          simp [vL, eqL_nil]
      · have n2 : ¬ (l.length : Int) ≤ 6 := by omega
        have n1 : (1 : Int) ≤ l.length := by omega
        simp (disch := first | omega | (simp <;> omega) | fail) [f__law_is_name, c__law_is_name, nmV, nmB, n1, n2, c2]
    · have n1 : ¬ (1 : Int) ≤ l.length := by omega
      simp (disch := first | omega | (simp <;> omega) | fail) [f__law_is_name, c__law_is_name, nmV, nmB, n1, c1]
  | _ => exact Post.eq (by simp [f__law_is_name, c__law_is_name, i1, v1, isS, nmV])
theorem NameOk.nm {n : Str} (h : NameOk n) : nmB n = true := by
  unfold nmB lowB
  rw [Bool.and_eq_true, decide_eq_true_eq, List.all_eq_true]
  exact ⟨⟨h.l0, h.l1⟩, fun c hc => decide_eq_true (h.c c hc)⟩
end KX

/-! S5: the source is made. -/
namespace KX
open PySem PySem.Spec PyProof.Rows L2 DL
theorem comp_ints {t : Tg} {tt : CB} {te : CE} {en : En} {M : Store} {ns : List Int} {Q : List D → Store → Prop} {E : EX} (p : Int → Bool) (f : Int → Int)
    (h : ∀ n ∈ ns, ∃ en1, t.put (.int n) en = some en1 ∧ tt en1 M = .ok (p n) M ∧ te en1 M = .ok (.int (f n)) M) (q : Q (((ns.filter p).map f).map D.int) M) : Post (compL t [] tt te en (ns.map D.int) M) Q E := by
  refine comp_map (fun d => match d with | .int i => p i | _ => false) (fun d => match d with | .int i => .int (f i) | d => d) (fun d hd => ?_) ?_
  · obtain ⟨n, hn, rfl⟩ := List.mem_map.mp hd
    obtain ⟨en1, h1, h2, h3⟩ := h n hn
    exact ⟨en1, h1, h2, fun _ => h3⟩
  · have e : (List.filter (fun d => match d with | .int i => p i | _ => false) (ns.map D.int)).map (fun d => match d with | .int i => .int (f i) | d => d) = ((ns.filter p).map f).map D.int := by
      rw [List.filter_map, List.map_map, List.map_map]
      rfl
    rw [e]
    exact q
theorem e_begun {ns : List Int} (hl : ns.length ≤ 63) {Q : D → Store → Prop} {E : EX} (q : ∀ M, Src M 0 → Q (.ref 3) M) : Post (f__law_source [.scr ns] []) Q E := by
  simp (disch := first | omega | (simp <;> omega) | fail) [f__law_source, c__law_source, wipeE]
  refine comp_ints (fun i => decide (1000000000000000000 ≤ i)) id (fun n hn => ⟨[some (.val (.scr ns)), some (.val (.int n))], by simp, Post.eq (by simp), Post.eq (by simp)⟩) ?_
  simp (disch := first | omega | (simp <;> omega) | fail) [wipeE]
  refine comp_ints (fun i => true) (fun i => i % 2147483629) (fun n hn => ⟨[some (.val (.scr ns)), some (.val (.int n))], by simp, Post.eq (by simp), Post.eq (by simp)⟩) ?_
  rw [show ns.filter (fun _ => true) = ns from List.filter_eq_self.mpr fun _ _ => rfl]
  simp (disch := first | omega | (simp <;> omega) | fail) [wipeE]
  refine q _ ⟨ns.filter fun i => decide (1000000000000000000 ≤ i), 0, 0, 7, (ns.map fun i => i % 2147483629) ++ [77], .lst (ns.map (D.int ∘ fun i => i % 2147483629)), .lst [.int 77], ?_, ?_⟩
  · simp only [src, List.map_append, List.map_map, List.map_cons, List.map_nil]
    rfl
  · refine ⟨fun x hx => ?_, by omega, by omega, by simp, by omega, by omega, by simp, fun x hx => ?_⟩
    · have := (List.mem_filter.mp hx).2
      simp at this
      omega
    · rcases List.mem_append.mp hx with hx | hx
      · obtain ⟨n, _, rfl⟩ := List.mem_map.mp hx
        exact ⟨Int.emod_nonneg _ (by decide), Int.emod_lt_of_pos _ (by decide)⟩
      · simp at hx
        omega
end KX

/-! E1 (k01): the values drawn. -/
namespace KX
open PySem PySem.Spec PyProof.Rows L2 DL
theorem tx_appT (a b : List Nat) : tx' a ++ tx' b = tx' (a ++ b) := str_ext (by rw [toList_app, tx_list, tx_list, tx_list])
theorem e_text {M : Store} {c : Nat} {Q : D → Store → Prop} {E : EX} (h : SrcT [] M c) (hc : c ≤ 1000000)
    (q : ∀ (l : List Nat) (M' : Store), l.length ≤ 20 → SrcT [] M' (c + 20) → Q (.str (tx' l)) M') : Post (f__law_text [.ref 3] M) Q E := by
  simp (disch := first | omega | (simp <;> omega) | fail) [f__law_text, c__law_text, letters_tx, e_empty]
  refine e_take h (by omega) (by omega) (by omega) fun k M1 k0 k1 s1 => ?_
  have sm : Sm k := Sm.of (by omega) (by omega)
  simp [sm, wipeE]
  rw [PF_of (by omega)]
  refine comp_inv (fun j acc M => ∃ l : List Nat, acc = l.map (fun c => .str (sg c)) ∧ l.length = j ∧ SrcT [] M (c + 1 + j)) ⟨[], rfl, rfl, s1⟩ (fun acc M4 hI => ?_) fun j x acc M4 hx hI => ?_
  case refine_2 =>
    obtain ⟨l, rfl, hlen, s4⟩ := hI
    have hj := (rngD_get hx).1
    simp
    refine e_pickS s4 (by decide) (by decide) (by omega) fun y hy M5 s5 => ?_
    exact ⟨l ++ [y], by simp, by simp; omega, s5.mono (by omega)⟩
  obtain ⟨l, rfl, hlen, s4⟩ := hI
  rw [rngD_len] at hlen s4
  have hl : l.length ≤ 10 := by omega
  simp (disch := first | omega | (simp <;> omega) | fail) [gJoin_sgs (l := l) (by omega)]
  refine e_take s4 (by omega) (by omega) (by omega) fun k2 M5 k20 k21 s5 => ?_
  simp
  refine e_pick s5 (by simp) (by simp) (by omega) fun y hy M6 s6 => ?_
  obtain ⟨ly, rfl, hly⟩ : ∃ ly : List Nat, y = .str (tx' ly) ∧ ly.length ≤ 1 := by
    simp only [List.mem_cons, List.not_mem_nil, or_false] at hy
    rcases hy with rfl | rfl | rfl | rfl | rfl | rfl | rfl | rfl | rfl | rfl | rfl | rfl
    · exact ⟨[], rfl, by simp⟩
    · exact ⟨[], rfl, by simp⟩
    · exact ⟨[], rfl, by simp⟩
    · exact ⟨[65], rfl, by simp⟩
    · exact ⟨[90], rfl, by simp⟩
    · exact ⟨[32], rfl, by simp⟩
    · exact ⟨[49], rfl, by simp⟩
    · exact ⟨[95], rfl, by simp⟩
    · exact ⟨[45], rfl, by simp⟩
    · exact ⟨[10], rfl, by simp⟩
    · exact ⟨[96], rfl, by simp⟩
    · exact ⟨[123], rfl, by simp⟩
  obtain ⟨n, rfl⟩ := Int.eq_ofNat_of_zero_le k20
  have t1 := List.length_take_le n l
  have t2 : (l.drop n).length ≤ l.length := by simp
  simp (disch := first | omega | (simp <;> omega) | fail) [cut_to, cut_from, tx_appT]
  exact q _ M6 (by simp; omega) (s6.mono (by omega))
theorem e_value {M : Store} {c : Nat} {Q : D → Store → Prop} {E : EX} (h : SrcT [] M c) (hc : c ≤ 100000)
    (q : ∀ (d : D) (M' : Store), itm d = true → (∀ z, d = .str z → z.length ≤ 100) → SrcT [] M' (c + 30) → Q d M') : Post (f__law_value [.ref 3] M) Q E := by
  simp (disch := first | omega | (simp <;> omega) | fail) [f__law_value, c__law_value]
  refine e_text h (by omega) fun l M1 hl s1 => ?_
  simp (disch := first | omega | (simp <;> omega) | fail)
  refine e_pick s1 (by simp) (by simp) (by omega) fun y hy M2 s2 => ?_
  refine q y M2 ?_ (fun z hz => ?_) (s2.mono (by omega))
  · simp only [List.mem_cons, List.not_mem_nil, or_false] at hy
    rcases hy with rfl | rfl | rfl | rfl | rfl | rfl | rfl | rfl | rfl | rfl | rfl | rfl <;> rfl
  · subst hz
    simp only [List.mem_cons, List.not_mem_nil, or_false] at hy
    rcases hy with hy | hy | hy | hy | hy | hy | hy | hy | hy | hy | hy | hy <;> first | (cases hy; rw [tx_len]; omega) | cases hy
end KX

/-! P01 (k01): the law. -/
namespace KX
open PySem PySem.Spec PyProof.Rows L2 DL
noncomputable def c_rest : CS := seqS (asgG (.tup [.name 5, .name 6]) (eCalD 0 0 [] [] f__law_fields (eAA (aNil) (aNil)))) <| seqS (asgS 7 (frz (nLst (aCons (eC (.int 5)) (aCons (eC (.str "a")) (aCons (eC .non) (aCons (eC (.int 3)) (aCons (eC (.int 4)) (aCons (eC (.int 2)) (aCons (eTup (aNil)) (aCons (eC (.int 7)) (aCons (eUn gNeg (hd (eC (.int 1)))) (aCons (eC (.int 9)) (aNil)))))))))))))) <| seqS (ifS (bOr (bT gNe (hd (eCall gRp (ahCons (hd (frz (nComp (iSeqK (eVar 5)) (.tup [.name 10, .name 11]) [10, 11] (tYesD) (eVar 11)))) (ahNil)))) (hd (eCall gRp (ahCons (hd (eVar 7)) (ahNil))))) (bT gNe (hd (eCall gRp (ahCons (hd (eVar 6)) (ahNil)))) (hd (eCall gRp (ahCons (hd (eVar 7)) (ahNil)))))) (retS (eC (.bl false))) (nilS)) <| seqS (asgS 8 (eOp gAdd (hd (frz (nComp (iSeqK (eVar 5)) (.tup [.name 10, .name 11]) [10, 11] (tYesD) (eVar 10)))) (hd (frz (nLst (aCons (mkX0 "InvalidForm") (aCons (mkX0 "Mismatch") (aNil)))))))) <| seqS (forS (iEnumD (aCons (eVar 8) (aNil))) (.tup [.name 9, .name 10]) (seqS (ifS (bT gNe (hd (eFn f__law_kinds (aCons (eVar 10) (aNil)))) (hd (frz (nComp (iRange1 (aCons (eC (.int 12)) (aNil))) (.name 12) [12] (tYesD) (eOp gEq (hd (eVar 12)) (hd (eVar 9))))))) (retS (eC (.bl false))) (nilS)) <| ifS (bOr (bNot (bTru (hd (eXk [("Contradiction", true), ("DuplicateName", true), ("InvalidAction", true), ("InvalidCapacity", true), ("InvalidForm", true), ("InvalidName", true), ("InvalidNumber", true), ("InvalidOutcome", true), ("InvalidSymbol", true), ("InvalidText", true), ("InvalidTie", true), ("Mismatch", true), ("PourError", true)] (eVar 10))))) (bNot (bTru (hd (eXk [("Contradiction", true), ("DuplicateName", true), ("InvalidAction", true), ("InvalidCapacity", true), ("InvalidForm", true), ("InvalidName", true), ("InvalidNumber", true), ("InvalidOutcome", true), ("InvalidSymbol", true), ("InvalidText", true), ("InvalidTie", true), ("Mismatch", true), ("PourError", true)] (eVar 10)))))) (retS (eC (.bl false))) (nilS))) <| retS (eAnd (eXk [("Contradiction", true), ("DuplicateName", true), ("InvalidAction", true), ("InvalidCapacity", true), ("InvalidForm", true), ("InvalidName", true), ("InvalidNumber", true), ("InvalidOutcome", true), ("InvalidSymbol", true), ("InvalidText", true), ("InvalidTie", true), ("Mismatch", true), ("PourError", true)] (mkX0 "PourError")) (eOp gNotIn (hd (eC (.bl true))) (hd (eFn f__law_kinds (aCons (mkX0 "PourError") (aNil))))))
theorem law_eq : c_law = (seqS (asgS 1 (eFn f__law_source (aCons (eVar 0) (aNil)))) <| seqS (forS (iRange1 (aCons (eC (.int 12)) (aNil))) (.name 2) (seqS (asgS 3 (eFn f__law_value (aCons (eVar 1) (aNil)))) <| seqS (asgS 4 (eFn f__law_is_name (aCons (eVar 3) (aNil)))) <| ifS (bT gNe (hd (eCall gRp (ahCons (hd (frz (nLst (aCons (eFn f_is_name (aCons (eVar 3) (aNil))) (aCons (eCalD 0 1 [0] [] f_is_name (eAA (aNil) (aCons (eVar 3) (aNil)))) (aNil)))))) (ahNil)))) (hd (eCall gRp (ahCons (hd (frz (nLst (aCons (eVar 4) (aCons (eVar 4) (aNil)))))) (ahNil))))) (retS (eC (.bl false))) (nilS))) <|  c_rest) := rfl
def isTr : Out Fl → Bool
  | .ok (.ret (.bl true)) _ => true
  | _ => false
theorem e_rest (s0 s1 s2 s3 s4 : Option Slot) (a b c d : MO) : isTr (c_rest [s0, s1, s2, s3, s4, none, none, none, none, none, none, none, none] [a, b, c, d]) = true := by kernel_rfl
theorem isTr_post {o : Out Fl} {Q : QF} {E : EX} (h : isTr o = true) (q : ∀ M, Q (.ret (.bl true)) M) : Post o Q E := by
  unfold isTr at h
  split at h
  · exact q _
  · cases h
theorem rp_two (b : Bool) : ∃ z, gRp [.lst [.bl b, .bl b]] = some (.str z) := by
  cases b
  · exact ⟨_, rfl⟩
  · exact ⟨_, rfl⟩
theorem plain : ∀ ns : List Int, ns.length ≤ 63 → ∃ M, f_law [.scr ns] [] = .ok (.bl true) M := fun ns hn => by
  suffices h : Post (f_law [.scr ns] []) (fun d _ => d = .bl true) kNo by
    obtain ⟨d, M, e, rfl⟩ := h.ex
    exact ⟨M, e⟩
  obtain ⟨R, hR, er⟩ : ∃ R : CS, c_rest = R ∧ ∀ (s0 s1 s2 s3 s4 : Option Slot) (a b c d : MO), isTr (R [s0, s1, s2, s3, s4, none, none, none, none, none, none, none, none] [a, b, c, d]) = true := ⟨c_rest, rfl, e_rest⟩
  simp [f_law, law_eq, hR]
  refine e_begun hn fun M0 s0 => ?_
  have sm : Sm 12 := Sm.of (by omega) (by omega)
  simp [sm]
  refine for_inv (fun i en M => (∃ x2 x3 x4 : Option Slot, en = [some (.val (.scr ns)), some (.val (.ref 3)), x2, x3, x4, none, none, none, none, none, none, none, none]) ∧ SrcT [] M (100 * i)) ⟨⟨none, none, none, rfl⟩, s0⟩ (fun en M h => ?_) fun i x en M hx h => ?_
  · obtain ⟨⟨x2, x3, x4, rfl⟩, s⟩ := h
    obtain ⟨gs, rest, count, seed, cells, x1, x2', rfl, g⟩ := s
    simp
    exact isTr_post (er (some (.val (.scr ns))) (some (.val (.ref 3))) x2 x3 x4 _ _ _ _) fun M => by simp
  · obtain ⟨⟨x2, x3, x4, rfl⟩, s⟩ := h
    obtain ⟨hi, rfl⟩ := rngD_get hx
    simp
    refine e_value s (by omega) fun d M1 hd hz s1 => ?_
    obtain ⟨z, hz'⟩ := rp_two (nmV d)
    simp [e_nameV hd hz, e_nameL hd hz, hz']
    exact s1.mono (by omega)
end KX

namespace KX
open PySem PySem.Spec PyProof.Rows L2 DL
theorem all_mk {P : Program} {w : World} {K : PySem.W.Frag} {h : Heap} {mg : Str → Option Value} {fa : Addr} (X : K.In h) (G : h.Ns mainGlobals mg) (hfa : mg "law" = some (.ref fa))
    {f0 : Addr} {od0 an0 : Option Addr} {sl0 : Array (Option Value)} {oc0 kV0 dc0 pm0 cd0 ct0 : Value}
    {f1 : Addr} {od1 an1 : Option Addr} {sl1 : Array (Option Value)} {oc1 kV1 dc1 pm1 cd1 ct1 : Value}
    {f2 : Addr} {od2 an2 : Option Addr} {sl2 : Array (Option Value)} {oc2 kV2 dc2 pm2 cd2 ct2 : Value}
    {f3 : Addr} {od3 an3 : Option Addr} {sl3 : Array (Option Value)} {oc3 kV3 dc3 pm3 cd3 ct3 : Value}
    {f4 : Addr} {od4 an4 : Option Addr} {sl4 : Array (Option Value)} {oc4 kV4 dc4 pm4 cd4 ct4 : Value}
    {f5 : Addr} {od5 an5 : Option Addr} {sl5 : Array (Option Value)} {oc5 kV5 dc5 pm5 cd5 ct5 : Value}
    {f6 : Addr} {od6 an6 : Option Addr} {sl6 : Array (Option Value)} {oc6 kV6 dc6 pm6 cd6 ct6 : Value}
    {f7 : Addr} {od7 an7 : Option Addr} {sl7 : Array (Option Value)} {oc7 kV7 dc7 pm7 cd7 ct7 : Value}
    {f8 : Addr} {od8 an8 : Option Addr} {sl8 : Array (Option Value)} {oc8 kV8 dc8 pm8 cd8 ct8 : Value}
    {f9 : Addr} {od9 an9 : Option Addr} {sl9 : Array (Option Value)} {oc9 kV9 dc9 pm9 cd9 ct9 : Value}
    {t_LETTERS : Tok}
    {t_LONGEST_NAME : Tok}
    {B : Addr}
    {CContradiction IContradiction NContradiction : Addr} {nmContradiction qnContradiction : Str} {bsContradiction : List Value} {snContradiction : List Str} {subContradiction : List Value} {abContradiction : Bool} {colContradiction : Option Bool} {m0Contradiction m1Contradiction m2Contradiction m3Contradiction m5Contradiction : Option Value} {ddAContradiction odIContradiction anIContradiction : Option Addr} {slIContradiction : Array (Option Value)} {ocIContradiction kVIContradiction dcIContradiction pmIContradiction cdIContradiction ctIContradiction : Value}
    {CDuplicateName IDuplicateName NDuplicateName : Addr} {nmDuplicateName qnDuplicateName : Str} {bsDuplicateName : List Value} {snDuplicateName : List Str} {subDuplicateName : List Value} {abDuplicateName : Bool} {colDuplicateName : Option Bool} {m0DuplicateName m1DuplicateName m2DuplicateName m3DuplicateName m5DuplicateName : Option Value} {ddADuplicateName odIDuplicateName anIDuplicateName : Option Addr} {slIDuplicateName : Array (Option Value)} {ocIDuplicateName kVIDuplicateName dcIDuplicateName pmIDuplicateName cdIDuplicateName ctIDuplicateName : Value}
    {CInvalidAction IInvalidAction NInvalidAction : Addr} {nmInvalidAction qnInvalidAction : Str} {bsInvalidAction : List Value} {snInvalidAction : List Str} {subInvalidAction : List Value} {abInvalidAction : Bool} {colInvalidAction : Option Bool} {m0InvalidAction m1InvalidAction m2InvalidAction m3InvalidAction m5InvalidAction : Option Value} {ddAInvalidAction odIInvalidAction anIInvalidAction : Option Addr} {slIInvalidAction : Array (Option Value)} {ocIInvalidAction kVIInvalidAction dcIInvalidAction pmIInvalidAction cdIInvalidAction ctIInvalidAction : Value}
    {CInvalidCapacity IInvalidCapacity NInvalidCapacity : Addr} {nmInvalidCapacity qnInvalidCapacity : Str} {bsInvalidCapacity : List Value} {snInvalidCapacity : List Str} {subInvalidCapacity : List Value} {abInvalidCapacity : Bool} {colInvalidCapacity : Option Bool} {m0InvalidCapacity m1InvalidCapacity m2InvalidCapacity m3InvalidCapacity m5InvalidCapacity : Option Value} {ddAInvalidCapacity odIInvalidCapacity anIInvalidCapacity : Option Addr} {slIInvalidCapacity : Array (Option Value)} {ocIInvalidCapacity kVIInvalidCapacity dcIInvalidCapacity pmIInvalidCapacity cdIInvalidCapacity ctIInvalidCapacity : Value}
    {CInvalidForm : Addr}
    {CInvalidName IInvalidName NInvalidName : Addr} {nmInvalidName qnInvalidName : Str} {bsInvalidName : List Value} {snInvalidName : List Str} {subInvalidName : List Value} {abInvalidName : Bool} {colInvalidName : Option Bool} {m0InvalidName m1InvalidName m2InvalidName m3InvalidName m5InvalidName : Option Value} {ddAInvalidName odIInvalidName anIInvalidName : Option Addr} {slIInvalidName : Array (Option Value)} {ocIInvalidName kVIInvalidName dcIInvalidName pmIInvalidName cdIInvalidName ctIInvalidName : Value}
    {CInvalidNumber IInvalidNumber NInvalidNumber : Addr} {nmInvalidNumber qnInvalidNumber : Str} {bsInvalidNumber : List Value} {snInvalidNumber : List Str} {subInvalidNumber : List Value} {abInvalidNumber : Bool} {colInvalidNumber : Option Bool} {m0InvalidNumber m1InvalidNumber m2InvalidNumber m3InvalidNumber m5InvalidNumber : Option Value} {ddAInvalidNumber odIInvalidNumber anIInvalidNumber : Option Addr} {slIInvalidNumber : Array (Option Value)} {ocIInvalidNumber kVIInvalidNumber dcIInvalidNumber pmIInvalidNumber cdIInvalidNumber ctIInvalidNumber : Value}
    {CInvalidOutcome IInvalidOutcome NInvalidOutcome : Addr} {nmInvalidOutcome qnInvalidOutcome : Str} {bsInvalidOutcome : List Value} {snInvalidOutcome : List Str} {subInvalidOutcome : List Value} {abInvalidOutcome : Bool} {colInvalidOutcome : Option Bool} {m0InvalidOutcome m1InvalidOutcome m2InvalidOutcome m3InvalidOutcome m5InvalidOutcome : Option Value} {ddAInvalidOutcome odIInvalidOutcome anIInvalidOutcome : Option Addr} {slIInvalidOutcome : Array (Option Value)} {ocIInvalidOutcome kVIInvalidOutcome dcIInvalidOutcome pmIInvalidOutcome cdIInvalidOutcome ctIInvalidOutcome : Value}
    {CInvalidSymbol IInvalidSymbol NInvalidSymbol : Addr} {nmInvalidSymbol qnInvalidSymbol : Str} {bsInvalidSymbol : List Value} {snInvalidSymbol : List Str} {subInvalidSymbol : List Value} {abInvalidSymbol : Bool} {colInvalidSymbol : Option Bool} {m0InvalidSymbol m1InvalidSymbol m2InvalidSymbol m3InvalidSymbol m5InvalidSymbol : Option Value} {ddAInvalidSymbol odIInvalidSymbol anIInvalidSymbol : Option Addr} {slIInvalidSymbol : Array (Option Value)} {ocIInvalidSymbol kVIInvalidSymbol dcIInvalidSymbol pmIInvalidSymbol cdIInvalidSymbol ctIInvalidSymbol : Value}
    {CInvalidText IInvalidText NInvalidText : Addr} {nmInvalidText qnInvalidText : Str} {bsInvalidText : List Value} {snInvalidText : List Str} {subInvalidText : List Value} {abInvalidText : Bool} {colInvalidText : Option Bool} {m0InvalidText m1InvalidText m2InvalidText m3InvalidText m5InvalidText : Option Value} {ddAInvalidText odIInvalidText anIInvalidText : Option Addr} {slIInvalidText : Array (Option Value)} {ocIInvalidText kVIInvalidText dcIInvalidText pmIInvalidText cdIInvalidText ctIInvalidText : Value}
    {CInvalidTie IInvalidTie NInvalidTie : Addr} {nmInvalidTie qnInvalidTie : Str} {bsInvalidTie : List Value} {snInvalidTie : List Str} {subInvalidTie : List Value} {abInvalidTie : Bool} {colInvalidTie : Option Bool} {m0InvalidTie m1InvalidTie m2InvalidTie m3InvalidTie m5InvalidTie : Option Value} {ddAInvalidTie odIInvalidTie anIInvalidTie : Option Addr} {slIInvalidTie : Array (Option Value)} {ocIInvalidTie kVIInvalidTie dcIInvalidTie pmIInvalidTie cdIInvalidTie ctIInvalidTie : Value}
    {CMismatch : Addr}
    {CPourError : Addr}
    (a0 : PySem.W.nsIn K mainGlobals "is_name" = some (some (.ref f0))) (l0 : K.lookup f0 = some ⟨oc0, od0, .func (PySem.W.fnOf "is_name" "is_name" (defArgs s_is_name) (defBody s_is_name) (defScope s_is_name) .none kV0 dc0 pm0 an0 cd0 ct0), sl0⟩) (c0 : PySem.W.codeIn K cd0 "is_name" = true) (k0 : PySem.W.keepIn K (.ref f0) = true)
    (a1 : PySem.W.nsIn K mainGlobals "_law_source" = some (some (.ref f1))) (l1 : K.lookup f1 = some ⟨oc1, od1, .func (PySem.W.fnOf "_law_source" "_law_source" (defArgs s__law_source) (defBody s__law_source) (defScope s__law_source) .none kV1 dc1 pm1 an1 cd1 ct1), sl1⟩) (c1 : PySem.W.codeIn K cd1 "_law_source" = true) (k1 : PySem.W.keepIn K (.ref f1) = true)
    (a2 : PySem.W.nsIn K mainGlobals "_law_draw" = some (some (.ref f2))) (l2 : K.lookup f2 = some ⟨oc2, od2, .func (PySem.W.fnOf "_law_draw" "_law_draw" (defArgs s__law_draw) (defBody s__law_draw) (defScope s__law_draw) .none kV2 dc2 pm2 an2 cd2 ct2), sl2⟩) (c2 : PySem.W.codeIn K cd2 "_law_draw" = true) (k2 : PySem.W.keepIn K (.ref f2) = true)
    (a3 : PySem.W.nsIn K mainGlobals "_law_choice" = some (some (.ref f3))) (l3 : K.lookup f3 = some ⟨oc3, od3, .func (PySem.W.fnOf "_law_choice" "_law_choice" (defArgs s__law_choice) (defBody s__law_choice) (defScope s__law_choice) .none kV3 dc3 pm3 an3 cd3 ct3), sl3⟩) (c3 : PySem.W.codeIn K cd3 "_law_choice" = true) (k3 : PySem.W.keepIn K (.ref f3) = true)
    (a4 : PySem.W.nsIn K mainGlobals "_law_is_name" = some (some (.ref f4))) (l4 : K.lookup f4 = some ⟨oc4, od4, .func (PySem.W.fnOf "_law_is_name" "_law_is_name" (defArgs s__law_is_name) (defBody s__law_is_name) (defScope s__law_is_name) .none kV4 dc4 pm4 an4 cd4 ct4), sl4⟩) (c4 : PySem.W.codeIn K cd4 "_law_is_name" = true) (k4 : PySem.W.keepIn K (.ref f4) = true)
    (a5 : PySem.W.nsIn K mainGlobals "_law_text" = some (some (.ref f5))) (l5 : K.lookup f5 = some ⟨oc5, od5, .func (PySem.W.fnOf "_law_text" "_law_text" (defArgs s__law_text) (defBody s__law_text) (defScope s__law_text) .none kV5 dc5 pm5 an5 cd5 ct5), sl5⟩) (c5 : PySem.W.codeIn K cd5 "_law_text" = true) (k5 : PySem.W.keepIn K (.ref f5) = true)
    (a6 : PySem.W.nsIn K mainGlobals "_law_value" = some (some (.ref f6))) (l6 : K.lookup f6 = some ⟨oc6, od6, .func (PySem.W.fnOf "_law_value" "_law_value" (defArgs s__law_value) (defBody s__law_value) (defScope s__law_value) .none kV6 dc6 pm6 an6 cd6 ct6), sl6⟩) (c6 : PySem.W.codeIn K cd6 "_law_value" = true) (k6 : PySem.W.keepIn K (.ref f6) = true)
    (a7 : PySem.W.nsIn K mainGlobals "_law_fields" = some (some (.ref f7))) (l7 : K.lookup f7 = some ⟨oc7, od7, .func (PySem.W.fnOf "_law_fields" "_law_fields" (defArgs s__law_fields) (defBody s__law_fields) (defScope s__law_fields) .none kV7 dc7 pm7 an7 cd7 ct7), sl7⟩) (c7 : PySem.W.codeIn K cd7 "_law_fields" = true) (k7 : PySem.W.keepIn K (.ref f7) = true)
    (a8 : PySem.W.nsIn K mainGlobals "_law_kinds" = some (some (.ref f8))) (l8 : K.lookup f8 = some ⟨oc8, od8, .func (PySem.W.fnOf "_law_kinds" "_law_kinds" (defArgs s__law_kinds) (defBody s__law_kinds) (defScope s__law_kinds) .none kV8 dc8 pm8 an8 cd8 ct8), sl8⟩) (c8 : PySem.W.codeIn K cd8 "_law_kinds" = true) (k8 : PySem.W.keepIn K (.ref f8) = true)
    (a9 : PySem.W.nsIn K mainGlobals "law" = some (some (.ref f9))) (l9 : K.lookup f9 = some ⟨oc9, od9, .func (PySem.W.fnOf "law" "law" (defArgs s_law) (defBody s_law) (defScope s_law) .none kV9 dc9 pm9 an9 cd9 ct9), sl9⟩) (c9 : PySem.W.codeIn K cd9 "law" = true) (k9 : PySem.W.keepIn K (.ref f9) = true)
    (z_LETTERS : PySem.W.nsIn K mainGlobals "LETTERS" = some (some (.str "abcdefghijklmnopqrstuvwxyz" t_LETTERS)))
    (z_LONGEST_NAME : PySem.W.nsIn K mainGlobals "LONGEST_NAME" = some (some (.int 6 t_LONGEST_NAME)))
    (z_ValueError : PySem.W.nsIn K mainGlobals "ValueError" = some none)
    (z_all : PySem.W.nsIn K mainGlobals "all" = some none)
    (z_enumerate : PySem.W.nsIn K mainGlobals "enumerate" = some none)
    (z_isinstance : PySem.W.nsIn K mainGlobals "isinstance" = some none)
    (z_len : PySem.W.nsIn K mainGlobals "len" = some none)
    (z_range : PySem.W.nsIn K mainGlobals "range" = some none)
    (z_repr : PySem.W.nsIn K mainGlobals "repr" = some none)
    (z_str : PySem.W.nsIn K mainGlobals "str" = some none)
    (aB : PySem.W.nsIn K mainGlobals "PourError" = some (some (.ref B)))
    (gB : PySem.W.specialIn K (.ref B) "__getattribute__" = some (some (.builtin "type.__getattribute__")))
    (rB : PySem.W.readsIn K B (.type "type") = true)
    (tB : PySem.W.typeIn K (.ref B) = some (.type "type"))
    (fB : PySem.W.findCls K (.ref B) (.type "type") "__init__" = some (.val (.builtin "ValueError.__init__")))
    (aCContradiction : PySem.W.nsIn K mainGlobals "Contradiction" = some (some (.ref CContradiction)))
    (xLContradiction : K.lookup CContradiction = some (PySem.excClassObj nmContradiction qnContradiction CContradiction NContradiction bsContradiction [.ref B, .type "ValueError", .type "Exception", .type "BaseException", .type "object"] true snContradiction subContradiction abContradiction colContradiction ddAContradiction m0Contradiction m1Contradiction m2Contradiction m3Contradiction m5Contradiction "ValueError.__new__"))
    (saContradiction : PySem.W.findIn K (.ref CContradiction) "__setattr__" = some (some (.builtin "object.__setattr__")))
    (gaContradiction : PySem.W.findIn K (.ref CContradiction) "__getattribute__" = some (some (.builtin "BaseException.__getattribute__")))
    (ggContradiction : PySem.W.findIn K (.ref CContradiction) "__getattr__" = some none)
    (nbContradiction : PySem.W.findIn K (.ref CContradiction) "certificate" = some none)
    (aIContradiction : PySem.W.findIn K (.ref CContradiction) "__init__" = some (some (.ref IContradiction)))
    (tIContradiction : PySem.W.typeIn K (.ref IContradiction) = some (.type "function"))
    (lIContradiction : K.lookup IContradiction = some ⟨ocIContradiction, odIContradiction, .func (PySem.W.fnOf "__init__" "Contradiction.__init__" (defArgs (inClass (top 12) 0)) (defBody (inClass (top 12) 0)) (defScope (inClass (top 12) 0)) .none kVIContradiction dcIContradiction pmIContradiction anIContradiction cdIContradiction ctIContradiction), slIContradiction⟩)
    (cIContradiction : PySem.W.codeIn K cdIContradiction "Contradiction.__init__" = true)
    (kIContradiction : PySem.W.keepIn K (.ref IContradiction) = true)
    (kCContradiction : PySem.W.keepIn K (.ref CContradiction) = true)
    (eCContradiction : PySem.W.subIn K (.ref CContradiction) (.type "BaseException") = some true)
    (tCContradiction : PySem.W.typeIn K (.ref CContradiction) = some (.type "type"))
    (hCContradiction : PySem.W.hasDictIn K CContradiction = true)
    (iCContradiction : PySem.W.isClsIn K CContradiction = true)
    (sCContradiction : PySem.W.subIn K (.ref CContradiction) (.ref CContradiction) = some true)
    (aCDuplicateName : PySem.W.nsIn K mainGlobals "DuplicateName" = some (some (.ref CDuplicateName)))
    (xLDuplicateName : K.lookup CDuplicateName = some (PySem.excClassObj nmDuplicateName qnDuplicateName CDuplicateName NDuplicateName bsDuplicateName [.ref B, .type "ValueError", .type "Exception", .type "BaseException", .type "object"] true snDuplicateName subDuplicateName abDuplicateName colDuplicateName ddADuplicateName m0DuplicateName m1DuplicateName m2DuplicateName m3DuplicateName m5DuplicateName "ValueError.__new__"))
    (saDuplicateName : PySem.W.findIn K (.ref CDuplicateName) "__setattr__" = some (some (.builtin "object.__setattr__")))
    (gaDuplicateName : PySem.W.findIn K (.ref CDuplicateName) "__getattribute__" = some (some (.builtin "BaseException.__getattribute__")))
    (ggDuplicateName : PySem.W.findIn K (.ref CDuplicateName) "__getattr__" = some none)
    (nbDuplicateName : PySem.W.findIn K (.ref CDuplicateName) "name" = some none)
    (aIDuplicateName : PySem.W.findIn K (.ref CDuplicateName) "__init__" = some (some (.ref IDuplicateName)))
    (tIDuplicateName : PySem.W.typeIn K (.ref IDuplicateName) = some (.type "function"))
    (lIDuplicateName : K.lookup IDuplicateName = some ⟨ocIDuplicateName, odIDuplicateName, .func (PySem.W.fnOf "__init__" "DuplicateName.__init__" (defArgs (inClass (top 7) 0)) (defBody (inClass (top 7) 0)) (defScope (inClass (top 7) 0)) .none kVIDuplicateName dcIDuplicateName pmIDuplicateName anIDuplicateName cdIDuplicateName ctIDuplicateName), slIDuplicateName⟩)
    (cIDuplicateName : PySem.W.codeIn K cdIDuplicateName "DuplicateName.__init__" = true)
    (kIDuplicateName : PySem.W.keepIn K (.ref IDuplicateName) = true)
    (kCDuplicateName : PySem.W.keepIn K (.ref CDuplicateName) = true)
    (eCDuplicateName : PySem.W.subIn K (.ref CDuplicateName) (.type "BaseException") = some true)
    (tCDuplicateName : PySem.W.typeIn K (.ref CDuplicateName) = some (.type "type"))
    (hCDuplicateName : PySem.W.hasDictIn K CDuplicateName = true)
    (iCDuplicateName : PySem.W.isClsIn K CDuplicateName = true)
    (sCDuplicateName : PySem.W.subIn K (.ref CDuplicateName) (.ref CDuplicateName) = some true)
    (aCInvalidAction : PySem.W.nsIn K mainGlobals "InvalidAction" = some (some (.ref CInvalidAction)))
    (xLInvalidAction : K.lookup CInvalidAction = some (PySem.excClassObj nmInvalidAction qnInvalidAction CInvalidAction NInvalidAction bsInvalidAction [.ref B, .type "ValueError", .type "Exception", .type "BaseException", .type "object"] true snInvalidAction subInvalidAction abInvalidAction colInvalidAction ddAInvalidAction m0InvalidAction m1InvalidAction m2InvalidAction m3InvalidAction m5InvalidAction "ValueError.__new__"))
    (saInvalidAction : PySem.W.findIn K (.ref CInvalidAction) "__setattr__" = some (some (.builtin "object.__setattr__")))
    (gaInvalidAction : PySem.W.findIn K (.ref CInvalidAction) "__getattribute__" = some (some (.builtin "BaseException.__getattribute__")))
    (ggInvalidAction : PySem.W.findIn K (.ref CInvalidAction) "__getattr__" = some none)
    (nbInvalidAction : PySem.W.findIn K (.ref CInvalidAction) "index" = some none)
    (aIInvalidAction : PySem.W.findIn K (.ref CInvalidAction) "__init__" = some (some (.ref IInvalidAction)))
    (tIInvalidAction : PySem.W.typeIn K (.ref IInvalidAction) = some (.type "function"))
    (lIInvalidAction : K.lookup IInvalidAction = some ⟨ocIInvalidAction, odIInvalidAction, .func (PySem.W.fnOf "__init__" "InvalidAction.__init__" (defArgs (inClass (top 9) 0)) (defBody (inClass (top 9) 0)) (defScope (inClass (top 9) 0)) .none kVIInvalidAction dcIInvalidAction pmIInvalidAction anIInvalidAction cdIInvalidAction ctIInvalidAction), slIInvalidAction⟩)
    (cIInvalidAction : PySem.W.codeIn K cdIInvalidAction "InvalidAction.__init__" = true)
    (kIInvalidAction : PySem.W.keepIn K (.ref IInvalidAction) = true)
    (kCInvalidAction : PySem.W.keepIn K (.ref CInvalidAction) = true)
    (eCInvalidAction : PySem.W.subIn K (.ref CInvalidAction) (.type "BaseException") = some true)
    (tCInvalidAction : PySem.W.typeIn K (.ref CInvalidAction) = some (.type "type"))
    (hCInvalidAction : PySem.W.hasDictIn K CInvalidAction = true)
    (iCInvalidAction : PySem.W.isClsIn K CInvalidAction = true)
    (sCInvalidAction : PySem.W.subIn K (.ref CInvalidAction) (.ref CInvalidAction) = some true)
    (aCInvalidCapacity : PySem.W.nsIn K mainGlobals "InvalidCapacity" = some (some (.ref CInvalidCapacity)))
    (xLInvalidCapacity : K.lookup CInvalidCapacity = some (PySem.excClassObj nmInvalidCapacity qnInvalidCapacity CInvalidCapacity NInvalidCapacity bsInvalidCapacity [.ref B, .type "ValueError", .type "Exception", .type "BaseException", .type "object"] true snInvalidCapacity subInvalidCapacity abInvalidCapacity colInvalidCapacity ddAInvalidCapacity m0InvalidCapacity m1InvalidCapacity m2InvalidCapacity m3InvalidCapacity m5InvalidCapacity "ValueError.__new__"))
    (saInvalidCapacity : PySem.W.findIn K (.ref CInvalidCapacity) "__setattr__" = some (some (.builtin "object.__setattr__")))
    (gaInvalidCapacity : PySem.W.findIn K (.ref CInvalidCapacity) "__getattribute__" = some (some (.builtin "BaseException.__getattribute__")))
    (ggInvalidCapacity : PySem.W.findIn K (.ref CInvalidCapacity) "__getattr__" = some none)
    (nbInvalidCapacity : PySem.W.findIn K (.ref CInvalidCapacity) "name" = some none)
    (aIInvalidCapacity : PySem.W.findIn K (.ref CInvalidCapacity) "__init__" = some (some (.ref IInvalidCapacity)))
    (tIInvalidCapacity : PySem.W.typeIn K (.ref IInvalidCapacity) = some (.type "function"))
    (lIInvalidCapacity : K.lookup IInvalidCapacity = some ⟨ocIInvalidCapacity, odIInvalidCapacity, .func (PySem.W.fnOf "__init__" "InvalidCapacity.__init__" (defArgs (inClass (top 8) 0)) (defBody (inClass (top 8) 0)) (defScope (inClass (top 8) 0)) .none kVIInvalidCapacity dcIInvalidCapacity pmIInvalidCapacity anIInvalidCapacity cdIInvalidCapacity ctIInvalidCapacity), slIInvalidCapacity⟩)
    (cIInvalidCapacity : PySem.W.codeIn K cdIInvalidCapacity "InvalidCapacity.__init__" = true)
    (kIInvalidCapacity : PySem.W.keepIn K (.ref IInvalidCapacity) = true)
    (kCInvalidCapacity : PySem.W.keepIn K (.ref CInvalidCapacity) = true)
    (eCInvalidCapacity : PySem.W.subIn K (.ref CInvalidCapacity) (.type "BaseException") = some true)
    (tCInvalidCapacity : PySem.W.typeIn K (.ref CInvalidCapacity) = some (.type "type"))
    (hCInvalidCapacity : PySem.W.hasDictIn K CInvalidCapacity = true)
    (iCInvalidCapacity : PySem.W.isClsIn K CInvalidCapacity = true)
    (sCInvalidCapacity : PySem.W.subIn K (.ref CInvalidCapacity) (.ref CInvalidCapacity) = some true)
    (aCInvalidForm : PySem.W.nsIn K mainGlobals "InvalidForm" = some (some (.ref CInvalidForm)))
    (qXInvalidForm : PySem.W.excIn K CInvalidForm [.type "ValueError", .type "Exception", .type "BaseException", .type "object"] "ValueError.__new__" = true)
    (gaInvalidForm : PySem.W.findIn K (.ref CInvalidForm) "__getattribute__" = some (some (.builtin "BaseException.__getattribute__")))
    (ggInvalidForm : PySem.W.findIn K (.ref CInvalidForm) "__getattr__" = some none)
    (kCInvalidForm : PySem.W.keepIn K (.ref CInvalidForm) = true)
    (eCInvalidForm : PySem.W.subIn K (.ref CInvalidForm) (.type "BaseException") = some true)
    (tCInvalidForm : PySem.W.typeIn K (.ref CInvalidForm) = some (.type "type"))
    (hCInvalidForm : PySem.W.hasDictIn K CInvalidForm = true)
    (iCInvalidForm : PySem.W.isClsIn K CInvalidForm = true)
    (sCInvalidForm : PySem.W.subIn K (.ref CInvalidForm) (.ref CInvalidForm) = some true)
    (aCInvalidName : PySem.W.nsIn K mainGlobals "InvalidName" = some (some (.ref CInvalidName)))
    (xLInvalidName : K.lookup CInvalidName = some (PySem.excClassObj nmInvalidName qnInvalidName CInvalidName NInvalidName bsInvalidName [.ref B, .type "ValueError", .type "Exception", .type "BaseException", .type "object"] true snInvalidName subInvalidName abInvalidName colInvalidName ddAInvalidName m0InvalidName m1InvalidName m2InvalidName m3InvalidName m5InvalidName "ValueError.__new__"))
    (saInvalidName : PySem.W.findIn K (.ref CInvalidName) "__setattr__" = some (some (.builtin "object.__setattr__")))
    (gaInvalidName : PySem.W.findIn K (.ref CInvalidName) "__getattribute__" = some (some (.builtin "BaseException.__getattribute__")))
    (ggInvalidName : PySem.W.findIn K (.ref CInvalidName) "__getattr__" = some none)
    (nbInvalidName : PySem.W.findIn K (.ref CInvalidName) "name" = some none)
    (aIInvalidName : PySem.W.findIn K (.ref CInvalidName) "__init__" = some (some (.ref IInvalidName)))
    (tIInvalidName : PySem.W.typeIn K (.ref IInvalidName) = some (.type "function"))
    (lIInvalidName : K.lookup IInvalidName = some ⟨ocIInvalidName, odIInvalidName, .func (PySem.W.fnOf "__init__" "InvalidName.__init__" (defArgs (inClass (top 6) 0)) (defBody (inClass (top 6) 0)) (defScope (inClass (top 6) 0)) .none kVIInvalidName dcIInvalidName pmIInvalidName anIInvalidName cdIInvalidName ctIInvalidName), slIInvalidName⟩)
    (cIInvalidName : PySem.W.codeIn K cdIInvalidName "InvalidName.__init__" = true)
    (kIInvalidName : PySem.W.keepIn K (.ref IInvalidName) = true)
    (kCInvalidName : PySem.W.keepIn K (.ref CInvalidName) = true)
    (eCInvalidName : PySem.W.subIn K (.ref CInvalidName) (.type "BaseException") = some true)
    (tCInvalidName : PySem.W.typeIn K (.ref CInvalidName) = some (.type "type"))
    (hCInvalidName : PySem.W.hasDictIn K CInvalidName = true)
    (iCInvalidName : PySem.W.isClsIn K CInvalidName = true)
    (sCInvalidName : PySem.W.subIn K (.ref CInvalidName) (.ref CInvalidName) = some true)
    (aCInvalidNumber : PySem.W.nsIn K mainGlobals "InvalidNumber" = some (some (.ref CInvalidNumber)))
    (xLInvalidNumber : K.lookup CInvalidNumber = some (PySem.excClassObj nmInvalidNumber qnInvalidNumber CInvalidNumber NInvalidNumber bsInvalidNumber [.ref B, .type "ValueError", .type "Exception", .type "BaseException", .type "object"] true snInvalidNumber subInvalidNumber abInvalidNumber colInvalidNumber ddAInvalidNumber m0InvalidNumber m1InvalidNumber m2InvalidNumber m3InvalidNumber m5InvalidNumber "ValueError.__new__"))
    (saInvalidNumber : PySem.W.findIn K (.ref CInvalidNumber) "__setattr__" = some (some (.builtin "object.__setattr__")))
    (gaInvalidNumber : PySem.W.findIn K (.ref CInvalidNumber) "__getattribute__" = some (some (.builtin "BaseException.__getattribute__")))
    (ggInvalidNumber : PySem.W.findIn K (.ref CInvalidNumber) "__getattr__" = some none)
    (nbInvalidNumber : PySem.W.findIn K (.ref CInvalidNumber) "number" = some none)
    (aIInvalidNumber : PySem.W.findIn K (.ref CInvalidNumber) "__init__" = some (some (.ref IInvalidNumber)))
    (tIInvalidNumber : PySem.W.typeIn K (.ref IInvalidNumber) = some (.type "function"))
    (lIInvalidNumber : K.lookup IInvalidNumber = some ⟨ocIInvalidNumber, odIInvalidNumber, .func (PySem.W.fnOf "__init__" "InvalidNumber.__init__" (defArgs (inClass (top 14) 0)) (defBody (inClass (top 14) 0)) (defScope (inClass (top 14) 0)) .none kVIInvalidNumber dcIInvalidNumber pmIInvalidNumber anIInvalidNumber cdIInvalidNumber ctIInvalidNumber), slIInvalidNumber⟩)
    (cIInvalidNumber : PySem.W.codeIn K cdIInvalidNumber "InvalidNumber.__init__" = true)
    (kIInvalidNumber : PySem.W.keepIn K (.ref IInvalidNumber) = true)
    (kCInvalidNumber : PySem.W.keepIn K (.ref CInvalidNumber) = true)
    (eCInvalidNumber : PySem.W.subIn K (.ref CInvalidNumber) (.type "BaseException") = some true)
    (tCInvalidNumber : PySem.W.typeIn K (.ref CInvalidNumber) = some (.type "type"))
    (hCInvalidNumber : PySem.W.hasDictIn K CInvalidNumber = true)
    (iCInvalidNumber : PySem.W.isClsIn K CInvalidNumber = true)
    (sCInvalidNumber : PySem.W.subIn K (.ref CInvalidNumber) (.ref CInvalidNumber) = some true)
    (aCInvalidOutcome : PySem.W.nsIn K mainGlobals "InvalidOutcome" = some (some (.ref CInvalidOutcome)))
    (xLInvalidOutcome : K.lookup CInvalidOutcome = some (PySem.excClassObj nmInvalidOutcome qnInvalidOutcome CInvalidOutcome NInvalidOutcome bsInvalidOutcome [.ref B, .type "ValueError", .type "Exception", .type "BaseException", .type "object"] true snInvalidOutcome subInvalidOutcome abInvalidOutcome colInvalidOutcome ddAInvalidOutcome m0InvalidOutcome m1InvalidOutcome m2InvalidOutcome m3InvalidOutcome m5InvalidOutcome "ValueError.__new__"))
    (saInvalidOutcome : PySem.W.findIn K (.ref CInvalidOutcome) "__setattr__" = some (some (.builtin "object.__setattr__")))
    (gaInvalidOutcome : PySem.W.findIn K (.ref CInvalidOutcome) "__getattribute__" = some (some (.builtin "BaseException.__getattribute__")))
    (ggInvalidOutcome : PySem.W.findIn K (.ref CInvalidOutcome) "__getattr__" = some none)
    (nbInvalidOutcome : PySem.W.findIn K (.ref CInvalidOutcome) "index" = some none)
    (aIInvalidOutcome : PySem.W.findIn K (.ref CInvalidOutcome) "__init__" = some (some (.ref IInvalidOutcome)))
    (tIInvalidOutcome : PySem.W.typeIn K (.ref IInvalidOutcome) = some (.type "function"))
    (lIInvalidOutcome : K.lookup IInvalidOutcome = some ⟨ocIInvalidOutcome, odIInvalidOutcome, .func (PySem.W.fnOf "__init__" "InvalidOutcome.__init__" (defArgs (inClass (top 10) 0)) (defBody (inClass (top 10) 0)) (defScope (inClass (top 10) 0)) .none kVIInvalidOutcome dcIInvalidOutcome pmIInvalidOutcome anIInvalidOutcome cdIInvalidOutcome ctIInvalidOutcome), slIInvalidOutcome⟩)
    (cIInvalidOutcome : PySem.W.codeIn K cdIInvalidOutcome "InvalidOutcome.__init__" = true)
    (kIInvalidOutcome : PySem.W.keepIn K (.ref IInvalidOutcome) = true)
    (kCInvalidOutcome : PySem.W.keepIn K (.ref CInvalidOutcome) = true)
    (eCInvalidOutcome : PySem.W.subIn K (.ref CInvalidOutcome) (.type "BaseException") = some true)
    (tCInvalidOutcome : PySem.W.typeIn K (.ref CInvalidOutcome) = some (.type "type"))
    (hCInvalidOutcome : PySem.W.hasDictIn K CInvalidOutcome = true)
    (iCInvalidOutcome : PySem.W.isClsIn K CInvalidOutcome = true)
    (sCInvalidOutcome : PySem.W.subIn K (.ref CInvalidOutcome) (.ref CInvalidOutcome) = some true)
    (aCInvalidSymbol : PySem.W.nsIn K mainGlobals "InvalidSymbol" = some (some (.ref CInvalidSymbol)))
    (xLInvalidSymbol : K.lookup CInvalidSymbol = some (PySem.excClassObj nmInvalidSymbol qnInvalidSymbol CInvalidSymbol NInvalidSymbol bsInvalidSymbol [.ref B, .type "ValueError", .type "Exception", .type "BaseException", .type "object"] true snInvalidSymbol subInvalidSymbol abInvalidSymbol colInvalidSymbol ddAInvalidSymbol m0InvalidSymbol m1InvalidSymbol m2InvalidSymbol m3InvalidSymbol m5InvalidSymbol "ValueError.__new__"))
    (saInvalidSymbol : PySem.W.findIn K (.ref CInvalidSymbol) "__setattr__" = some (some (.builtin "object.__setattr__")))
    (gaInvalidSymbol : PySem.W.findIn K (.ref CInvalidSymbol) "__getattribute__" = some (some (.builtin "BaseException.__getattribute__")))
    (ggInvalidSymbol : PySem.W.findIn K (.ref CInvalidSymbol) "__getattr__" = some none)
    (nbInvalidSymbol : PySem.W.findIn K (.ref CInvalidSymbol) "index" = some none)
    (aIInvalidSymbol : PySem.W.findIn K (.ref CInvalidSymbol) "__init__" = some (some (.ref IInvalidSymbol)))
    (tIInvalidSymbol : PySem.W.typeIn K (.ref IInvalidSymbol) = some (.type "function"))
    (lIInvalidSymbol : K.lookup IInvalidSymbol = some ⟨ocIInvalidSymbol, odIInvalidSymbol, .func (PySem.W.fnOf "__init__" "InvalidSymbol.__init__" (defArgs (inClass (top 13) 0)) (defBody (inClass (top 13) 0)) (defScope (inClass (top 13) 0)) .none kVIInvalidSymbol dcIInvalidSymbol pmIInvalidSymbol anIInvalidSymbol cdIInvalidSymbol ctIInvalidSymbol), slIInvalidSymbol⟩)
    (cIInvalidSymbol : PySem.W.codeIn K cdIInvalidSymbol "InvalidSymbol.__init__" = true)
    (kIInvalidSymbol : PySem.W.keepIn K (.ref IInvalidSymbol) = true)
    (kCInvalidSymbol : PySem.W.keepIn K (.ref CInvalidSymbol) = true)
    (eCInvalidSymbol : PySem.W.subIn K (.ref CInvalidSymbol) (.type "BaseException") = some true)
    (tCInvalidSymbol : PySem.W.typeIn K (.ref CInvalidSymbol) = some (.type "type"))
    (hCInvalidSymbol : PySem.W.hasDictIn K CInvalidSymbol = true)
    (iCInvalidSymbol : PySem.W.isClsIn K CInvalidSymbol = true)
    (sCInvalidSymbol : PySem.W.subIn K (.ref CInvalidSymbol) (.ref CInvalidSymbol) = some true)
    (aCInvalidText : PySem.W.nsIn K mainGlobals "InvalidText" = some (some (.ref CInvalidText)))
    (xLInvalidText : K.lookup CInvalidText = some (PySem.excClassObj nmInvalidText qnInvalidText CInvalidText NInvalidText bsInvalidText [.ref B, .type "ValueError", .type "Exception", .type "BaseException", .type "object"] true snInvalidText subInvalidText abInvalidText colInvalidText ddAInvalidText m0InvalidText m1InvalidText m2InvalidText m3InvalidText m5InvalidText "ValueError.__new__"))
    (saInvalidText : PySem.W.findIn K (.ref CInvalidText) "__setattr__" = some (some (.builtin "object.__setattr__")))
    (gaInvalidText : PySem.W.findIn K (.ref CInvalidText) "__getattribute__" = some (some (.builtin "BaseException.__getattribute__")))
    (ggInvalidText : PySem.W.findIn K (.ref CInvalidText) "__getattr__" = some none)
    (nbInvalidText : PySem.W.findIn K (.ref CInvalidText) "line" = some none)
    (aIInvalidText : PySem.W.findIn K (.ref CInvalidText) "__init__" = some (some (.ref IInvalidText)))
    (tIInvalidText : PySem.W.typeIn K (.ref IInvalidText) = some (.type "function"))
    (lIInvalidText : K.lookup IInvalidText = some ⟨ocIInvalidText, odIInvalidText, .func (PySem.W.fnOf "__init__" "InvalidText.__init__" (defArgs (inClass (top 15) 0)) (defBody (inClass (top 15) 0)) (defScope (inClass (top 15) 0)) .none kVIInvalidText dcIInvalidText pmIInvalidText anIInvalidText cdIInvalidText ctIInvalidText), slIInvalidText⟩)
    (cIInvalidText : PySem.W.codeIn K cdIInvalidText "InvalidText.__init__" = true)
    (kIInvalidText : PySem.W.keepIn K (.ref IInvalidText) = true)
    (kCInvalidText : PySem.W.keepIn K (.ref CInvalidText) = true)
    (eCInvalidText : PySem.W.subIn K (.ref CInvalidText) (.type "BaseException") = some true)
    (tCInvalidText : PySem.W.typeIn K (.ref CInvalidText) = some (.type "type"))
    (hCInvalidText : PySem.W.hasDictIn K CInvalidText = true)
    (iCInvalidText : PySem.W.isClsIn K CInvalidText = true)
    (sCInvalidText : PySem.W.subIn K (.ref CInvalidText) (.ref CInvalidText) = some true)
    (aCInvalidTie : PySem.W.nsIn K mainGlobals "InvalidTie" = some (some (.ref CInvalidTie)))
    (xLInvalidTie : K.lookup CInvalidTie = some (PySem.excClassObj nmInvalidTie qnInvalidTie CInvalidTie NInvalidTie bsInvalidTie [.ref B, .type "ValueError", .type "Exception", .type "BaseException", .type "object"] true snInvalidTie subInvalidTie abInvalidTie colInvalidTie ddAInvalidTie m0InvalidTie m1InvalidTie m2InvalidTie m3InvalidTie m5InvalidTie "ValueError.__new__"))
    (saInvalidTie : PySem.W.findIn K (.ref CInvalidTie) "__setattr__" = some (some (.builtin "object.__setattr__")))
    (gaInvalidTie : PySem.W.findIn K (.ref CInvalidTie) "__getattribute__" = some (some (.builtin "BaseException.__getattribute__")))
    (ggInvalidTie : PySem.W.findIn K (.ref CInvalidTie) "__getattr__" = some none)
    (nbInvalidTie : PySem.W.findIn K (.ref CInvalidTie) "index" = some none)
    (aIInvalidTie : PySem.W.findIn K (.ref CInvalidTie) "__init__" = some (some (.ref IInvalidTie)))
    (tIInvalidTie : PySem.W.typeIn K (.ref IInvalidTie) = some (.type "function"))
    (lIInvalidTie : K.lookup IInvalidTie = some ⟨ocIInvalidTie, odIInvalidTie, .func (PySem.W.fnOf "__init__" "InvalidTie.__init__" (defArgs (inClass (top 11) 0)) (defBody (inClass (top 11) 0)) (defScope (inClass (top 11) 0)) .none kVIInvalidTie dcIInvalidTie pmIInvalidTie anIInvalidTie cdIInvalidTie ctIInvalidTie), slIInvalidTie⟩)
    (cIInvalidTie : PySem.W.codeIn K cdIInvalidTie "InvalidTie.__init__" = true)
    (kIInvalidTie : PySem.W.keepIn K (.ref IInvalidTie) = true)
    (kCInvalidTie : PySem.W.keepIn K (.ref CInvalidTie) = true)
    (eCInvalidTie : PySem.W.subIn K (.ref CInvalidTie) (.type "BaseException") = some true)
    (tCInvalidTie : PySem.W.typeIn K (.ref CInvalidTie) = some (.type "type"))
    (hCInvalidTie : PySem.W.hasDictIn K CInvalidTie = true)
    (iCInvalidTie : PySem.W.isClsIn K CInvalidTie = true)
    (sCInvalidTie : PySem.W.subIn K (.ref CInvalidTie) (.ref CInvalidTie) = some true)
    (aCMismatch : PySem.W.nsIn K mainGlobals "Mismatch" = some (some (.ref CMismatch)))
    (qXMismatch : PySem.W.excIn K CMismatch [.type "ValueError", .type "Exception", .type "BaseException", .type "object"] "ValueError.__new__" = true)
    (gaMismatch : PySem.W.findIn K (.ref CMismatch) "__getattribute__" = some (some (.builtin "BaseException.__getattribute__")))
    (ggMismatch : PySem.W.findIn K (.ref CMismatch) "__getattr__" = some none)
    (kCMismatch : PySem.W.keepIn K (.ref CMismatch) = true)
    (eCMismatch : PySem.W.subIn K (.ref CMismatch) (.type "BaseException") = some true)
    (tCMismatch : PySem.W.typeIn K (.ref CMismatch) = some (.type "type"))
    (hCMismatch : PySem.W.hasDictIn K CMismatch = true)
    (iCMismatch : PySem.W.isClsIn K CMismatch = true)
    (sCMismatch : PySem.W.subIn K (.ref CMismatch) (.ref CMismatch) = some true)
    (aCPourError : PySem.W.nsIn K mainGlobals "PourError" = some (some (.ref CPourError)))
    (qXPourError : PySem.W.excIn K CPourError [.type "ValueError", .type "Exception", .type "BaseException", .type "object"] "ValueError.__new__" = true)
    (gaPourError : PySem.W.findIn K (.ref CPourError) "__getattribute__" = some (some (.builtin "BaseException.__getattribute__")))
    (ggPourError : PySem.W.findIn K (.ref CPourError) "__getattr__" = some none)
    (kCPourError : PySem.W.keepIn K (.ref CPourError) = true)
    (eCPourError : PySem.W.subIn K (.ref CPourError) (.type "BaseException") = some true)
    (tCPourError : PySem.W.typeIn K (.ref CPourError) = some (.type "type"))
    (hCPourError : PySem.W.hasDictIn K CPourError = true)
    (iCPourError : PySem.W.isClsIn K CPourError = true)
    (sCPourError : PySem.W.subIn K (.ref CPourError) (.ref CPourError) = some true)
    (hN0 : PySem.W.specialIn K (.builtin "object.__class__") "__get__" = some (some (.builtin "getset_descriptor.__get__")))
    (hT0 : PySem.W.takesIn K (.builtin "object.__class__") = some true)
    (hAContradiction : PySem.W.findIn K (.ref CContradiction) "__class__" = some (some (.builtin "object.__class__")))
    (hMContradiction : PySem.W.mroIn K CContradiction (.type "object") = some true)
    (sVContradiction : PySem.W.subIn K (.ref CContradiction) (.type "ValueError") = some true)
    (sXContradiction_DuplicateName : PySem.W.subIn K (.ref CContradiction) (.ref CDuplicateName) = some false)
    (sXContradiction_InvalidAction : PySem.W.subIn K (.ref CContradiction) (.ref CInvalidAction) = some false)
    (sXContradiction_InvalidCapacity : PySem.W.subIn K (.ref CContradiction) (.ref CInvalidCapacity) = some false)
    (sXContradiction_InvalidForm : PySem.W.subIn K (.ref CContradiction) (.ref CInvalidForm) = some false)
    (sXContradiction_InvalidName : PySem.W.subIn K (.ref CContradiction) (.ref CInvalidName) = some false)
    (sXContradiction_InvalidNumber : PySem.W.subIn K (.ref CContradiction) (.ref CInvalidNumber) = some false)
    (sXContradiction_InvalidOutcome : PySem.W.subIn K (.ref CContradiction) (.ref CInvalidOutcome) = some false)
    (sXContradiction_InvalidSymbol : PySem.W.subIn K (.ref CContradiction) (.ref CInvalidSymbol) = some false)
    (sXContradiction_InvalidText : PySem.W.subIn K (.ref CContradiction) (.ref CInvalidText) = some false)
    (sXContradiction_InvalidTie : PySem.W.subIn K (.ref CContradiction) (.ref CInvalidTie) = some false)
    (sXContradiction_Mismatch : PySem.W.subIn K (.ref CContradiction) (.ref CMismatch) = some false)
    (sXContradiction_PourError : PySem.W.subIn K (.ref CContradiction) (.ref CPourError) = some true)
    (hADuplicateName : PySem.W.findIn K (.ref CDuplicateName) "__class__" = some (some (.builtin "object.__class__")))
    (hMDuplicateName : PySem.W.mroIn K CDuplicateName (.type "object") = some true)
    (sVDuplicateName : PySem.W.subIn K (.ref CDuplicateName) (.type "ValueError") = some true)
    (sXDuplicateName_Contradiction : PySem.W.subIn K (.ref CDuplicateName) (.ref CContradiction) = some false)
    (sXDuplicateName_InvalidAction : PySem.W.subIn K (.ref CDuplicateName) (.ref CInvalidAction) = some false)
    (sXDuplicateName_InvalidCapacity : PySem.W.subIn K (.ref CDuplicateName) (.ref CInvalidCapacity) = some false)
    (sXDuplicateName_InvalidForm : PySem.W.subIn K (.ref CDuplicateName) (.ref CInvalidForm) = some false)
    (sXDuplicateName_InvalidName : PySem.W.subIn K (.ref CDuplicateName) (.ref CInvalidName) = some false)
    (sXDuplicateName_InvalidNumber : PySem.W.subIn K (.ref CDuplicateName) (.ref CInvalidNumber) = some false)
    (sXDuplicateName_InvalidOutcome : PySem.W.subIn K (.ref CDuplicateName) (.ref CInvalidOutcome) = some false)
    (sXDuplicateName_InvalidSymbol : PySem.W.subIn K (.ref CDuplicateName) (.ref CInvalidSymbol) = some false)
    (sXDuplicateName_InvalidText : PySem.W.subIn K (.ref CDuplicateName) (.ref CInvalidText) = some false)
    (sXDuplicateName_InvalidTie : PySem.W.subIn K (.ref CDuplicateName) (.ref CInvalidTie) = some false)
    (sXDuplicateName_Mismatch : PySem.W.subIn K (.ref CDuplicateName) (.ref CMismatch) = some false)
    (sXDuplicateName_PourError : PySem.W.subIn K (.ref CDuplicateName) (.ref CPourError) = some true)
    (hAInvalidAction : PySem.W.findIn K (.ref CInvalidAction) "__class__" = some (some (.builtin "object.__class__")))
    (hMInvalidAction : PySem.W.mroIn K CInvalidAction (.type "object") = some true)
    (sVInvalidAction : PySem.W.subIn K (.ref CInvalidAction) (.type "ValueError") = some true)
    (sXInvalidAction_Contradiction : PySem.W.subIn K (.ref CInvalidAction) (.ref CContradiction) = some false)
    (sXInvalidAction_DuplicateName : PySem.W.subIn K (.ref CInvalidAction) (.ref CDuplicateName) = some false)
    (sXInvalidAction_InvalidCapacity : PySem.W.subIn K (.ref CInvalidAction) (.ref CInvalidCapacity) = some false)
    (sXInvalidAction_InvalidForm : PySem.W.subIn K (.ref CInvalidAction) (.ref CInvalidForm) = some false)
    (sXInvalidAction_InvalidName : PySem.W.subIn K (.ref CInvalidAction) (.ref CInvalidName) = some false)
    (sXInvalidAction_InvalidNumber : PySem.W.subIn K (.ref CInvalidAction) (.ref CInvalidNumber) = some false)
    (sXInvalidAction_InvalidOutcome : PySem.W.subIn K (.ref CInvalidAction) (.ref CInvalidOutcome) = some false)
    (sXInvalidAction_InvalidSymbol : PySem.W.subIn K (.ref CInvalidAction) (.ref CInvalidSymbol) = some false)
    (sXInvalidAction_InvalidText : PySem.W.subIn K (.ref CInvalidAction) (.ref CInvalidText) = some false)
    (sXInvalidAction_InvalidTie : PySem.W.subIn K (.ref CInvalidAction) (.ref CInvalidTie) = some false)
    (sXInvalidAction_Mismatch : PySem.W.subIn K (.ref CInvalidAction) (.ref CMismatch) = some false)
    (sXInvalidAction_PourError : PySem.W.subIn K (.ref CInvalidAction) (.ref CPourError) = some true)
    (hAInvalidCapacity : PySem.W.findIn K (.ref CInvalidCapacity) "__class__" = some (some (.builtin "object.__class__")))
    (hMInvalidCapacity : PySem.W.mroIn K CInvalidCapacity (.type "object") = some true)
    (sVInvalidCapacity : PySem.W.subIn K (.ref CInvalidCapacity) (.type "ValueError") = some true)
    (sXInvalidCapacity_Contradiction : PySem.W.subIn K (.ref CInvalidCapacity) (.ref CContradiction) = some false)
    (sXInvalidCapacity_DuplicateName : PySem.W.subIn K (.ref CInvalidCapacity) (.ref CDuplicateName) = some false)
    (sXInvalidCapacity_InvalidAction : PySem.W.subIn K (.ref CInvalidCapacity) (.ref CInvalidAction) = some false)
    (sXInvalidCapacity_InvalidForm : PySem.W.subIn K (.ref CInvalidCapacity) (.ref CInvalidForm) = some false)
    (sXInvalidCapacity_InvalidName : PySem.W.subIn K (.ref CInvalidCapacity) (.ref CInvalidName) = some false)
    (sXInvalidCapacity_InvalidNumber : PySem.W.subIn K (.ref CInvalidCapacity) (.ref CInvalidNumber) = some false)
    (sXInvalidCapacity_InvalidOutcome : PySem.W.subIn K (.ref CInvalidCapacity) (.ref CInvalidOutcome) = some false)
    (sXInvalidCapacity_InvalidSymbol : PySem.W.subIn K (.ref CInvalidCapacity) (.ref CInvalidSymbol) = some false)
    (sXInvalidCapacity_InvalidText : PySem.W.subIn K (.ref CInvalidCapacity) (.ref CInvalidText) = some false)
    (sXInvalidCapacity_InvalidTie : PySem.W.subIn K (.ref CInvalidCapacity) (.ref CInvalidTie) = some false)
    (sXInvalidCapacity_Mismatch : PySem.W.subIn K (.ref CInvalidCapacity) (.ref CMismatch) = some false)
    (sXInvalidCapacity_PourError : PySem.W.subIn K (.ref CInvalidCapacity) (.ref CPourError) = some true)
    (hAInvalidForm : PySem.W.findIn K (.ref CInvalidForm) "__class__" = some (some (.builtin "object.__class__")))
    (hMInvalidForm : PySem.W.mroIn K CInvalidForm (.type "object") = some true)
    (sVInvalidForm : PySem.W.subIn K (.ref CInvalidForm) (.type "ValueError") = some true)
    (sXInvalidForm_Contradiction : PySem.W.subIn K (.ref CInvalidForm) (.ref CContradiction) = some false)
    (sXInvalidForm_DuplicateName : PySem.W.subIn K (.ref CInvalidForm) (.ref CDuplicateName) = some false)
    (sXInvalidForm_InvalidAction : PySem.W.subIn K (.ref CInvalidForm) (.ref CInvalidAction) = some false)
    (sXInvalidForm_InvalidCapacity : PySem.W.subIn K (.ref CInvalidForm) (.ref CInvalidCapacity) = some false)
    (sXInvalidForm_InvalidName : PySem.W.subIn K (.ref CInvalidForm) (.ref CInvalidName) = some false)
    (sXInvalidForm_InvalidNumber : PySem.W.subIn K (.ref CInvalidForm) (.ref CInvalidNumber) = some false)
    (sXInvalidForm_InvalidOutcome : PySem.W.subIn K (.ref CInvalidForm) (.ref CInvalidOutcome) = some false)
    (sXInvalidForm_InvalidSymbol : PySem.W.subIn K (.ref CInvalidForm) (.ref CInvalidSymbol) = some false)
    (sXInvalidForm_InvalidText : PySem.W.subIn K (.ref CInvalidForm) (.ref CInvalidText) = some false)
    (sXInvalidForm_InvalidTie : PySem.W.subIn K (.ref CInvalidForm) (.ref CInvalidTie) = some false)
    (sXInvalidForm_Mismatch : PySem.W.subIn K (.ref CInvalidForm) (.ref CMismatch) = some false)
    (sXInvalidForm_PourError : PySem.W.subIn K (.ref CInvalidForm) (.ref CPourError) = some true)
    (hAInvalidName : PySem.W.findIn K (.ref CInvalidName) "__class__" = some (some (.builtin "object.__class__")))
    (hMInvalidName : PySem.W.mroIn K CInvalidName (.type "object") = some true)
    (sVInvalidName : PySem.W.subIn K (.ref CInvalidName) (.type "ValueError") = some true)
    (sXInvalidName_Contradiction : PySem.W.subIn K (.ref CInvalidName) (.ref CContradiction) = some false)
    (sXInvalidName_DuplicateName : PySem.W.subIn K (.ref CInvalidName) (.ref CDuplicateName) = some false)
    (sXInvalidName_InvalidAction : PySem.W.subIn K (.ref CInvalidName) (.ref CInvalidAction) = some false)
    (sXInvalidName_InvalidCapacity : PySem.W.subIn K (.ref CInvalidName) (.ref CInvalidCapacity) = some false)
    (sXInvalidName_InvalidForm : PySem.W.subIn K (.ref CInvalidName) (.ref CInvalidForm) = some false)
    (sXInvalidName_InvalidNumber : PySem.W.subIn K (.ref CInvalidName) (.ref CInvalidNumber) = some false)
    (sXInvalidName_InvalidOutcome : PySem.W.subIn K (.ref CInvalidName) (.ref CInvalidOutcome) = some false)
    (sXInvalidName_InvalidSymbol : PySem.W.subIn K (.ref CInvalidName) (.ref CInvalidSymbol) = some false)
    (sXInvalidName_InvalidText : PySem.W.subIn K (.ref CInvalidName) (.ref CInvalidText) = some false)
    (sXInvalidName_InvalidTie : PySem.W.subIn K (.ref CInvalidName) (.ref CInvalidTie) = some false)
    (sXInvalidName_Mismatch : PySem.W.subIn K (.ref CInvalidName) (.ref CMismatch) = some false)
    (sXInvalidName_PourError : PySem.W.subIn K (.ref CInvalidName) (.ref CPourError) = some true)
    (hAInvalidNumber : PySem.W.findIn K (.ref CInvalidNumber) "__class__" = some (some (.builtin "object.__class__")))
    (hMInvalidNumber : PySem.W.mroIn K CInvalidNumber (.type "object") = some true)
    (sVInvalidNumber : PySem.W.subIn K (.ref CInvalidNumber) (.type "ValueError") = some true)
    (sXInvalidNumber_Contradiction : PySem.W.subIn K (.ref CInvalidNumber) (.ref CContradiction) = some false)
    (sXInvalidNumber_DuplicateName : PySem.W.subIn K (.ref CInvalidNumber) (.ref CDuplicateName) = some false)
    (sXInvalidNumber_InvalidAction : PySem.W.subIn K (.ref CInvalidNumber) (.ref CInvalidAction) = some false)
    (sXInvalidNumber_InvalidCapacity : PySem.W.subIn K (.ref CInvalidNumber) (.ref CInvalidCapacity) = some false)
    (sXInvalidNumber_InvalidForm : PySem.W.subIn K (.ref CInvalidNumber) (.ref CInvalidForm) = some false)
    (sXInvalidNumber_InvalidName : PySem.W.subIn K (.ref CInvalidNumber) (.ref CInvalidName) = some false)
    (sXInvalidNumber_InvalidOutcome : PySem.W.subIn K (.ref CInvalidNumber) (.ref CInvalidOutcome) = some false)
    (sXInvalidNumber_InvalidSymbol : PySem.W.subIn K (.ref CInvalidNumber) (.ref CInvalidSymbol) = some false)
    (sXInvalidNumber_InvalidText : PySem.W.subIn K (.ref CInvalidNumber) (.ref CInvalidText) = some false)
    (sXInvalidNumber_InvalidTie : PySem.W.subIn K (.ref CInvalidNumber) (.ref CInvalidTie) = some false)
    (sXInvalidNumber_Mismatch : PySem.W.subIn K (.ref CInvalidNumber) (.ref CMismatch) = some false)
    (sXInvalidNumber_PourError : PySem.W.subIn K (.ref CInvalidNumber) (.ref CPourError) = some true)
    (hAInvalidOutcome : PySem.W.findIn K (.ref CInvalidOutcome) "__class__" = some (some (.builtin "object.__class__")))
    (hMInvalidOutcome : PySem.W.mroIn K CInvalidOutcome (.type "object") = some true)
    (sVInvalidOutcome : PySem.W.subIn K (.ref CInvalidOutcome) (.type "ValueError") = some true)
    (sXInvalidOutcome_Contradiction : PySem.W.subIn K (.ref CInvalidOutcome) (.ref CContradiction) = some false)
    (sXInvalidOutcome_DuplicateName : PySem.W.subIn K (.ref CInvalidOutcome) (.ref CDuplicateName) = some false)
    (sXInvalidOutcome_InvalidAction : PySem.W.subIn K (.ref CInvalidOutcome) (.ref CInvalidAction) = some false)
    (sXInvalidOutcome_InvalidCapacity : PySem.W.subIn K (.ref CInvalidOutcome) (.ref CInvalidCapacity) = some false)
    (sXInvalidOutcome_InvalidForm : PySem.W.subIn K (.ref CInvalidOutcome) (.ref CInvalidForm) = some false)
    (sXInvalidOutcome_InvalidName : PySem.W.subIn K (.ref CInvalidOutcome) (.ref CInvalidName) = some false)
    (sXInvalidOutcome_InvalidNumber : PySem.W.subIn K (.ref CInvalidOutcome) (.ref CInvalidNumber) = some false)
    (sXInvalidOutcome_InvalidSymbol : PySem.W.subIn K (.ref CInvalidOutcome) (.ref CInvalidSymbol) = some false)
    (sXInvalidOutcome_InvalidText : PySem.W.subIn K (.ref CInvalidOutcome) (.ref CInvalidText) = some false)
    (sXInvalidOutcome_InvalidTie : PySem.W.subIn K (.ref CInvalidOutcome) (.ref CInvalidTie) = some false)
    (sXInvalidOutcome_Mismatch : PySem.W.subIn K (.ref CInvalidOutcome) (.ref CMismatch) = some false)
    (sXInvalidOutcome_PourError : PySem.W.subIn K (.ref CInvalidOutcome) (.ref CPourError) = some true)
    (hAInvalidSymbol : PySem.W.findIn K (.ref CInvalidSymbol) "__class__" = some (some (.builtin "object.__class__")))
    (hMInvalidSymbol : PySem.W.mroIn K CInvalidSymbol (.type "object") = some true)
    (sVInvalidSymbol : PySem.W.subIn K (.ref CInvalidSymbol) (.type "ValueError") = some true)
    (sXInvalidSymbol_Contradiction : PySem.W.subIn K (.ref CInvalidSymbol) (.ref CContradiction) = some false)
    (sXInvalidSymbol_DuplicateName : PySem.W.subIn K (.ref CInvalidSymbol) (.ref CDuplicateName) = some false)
    (sXInvalidSymbol_InvalidAction : PySem.W.subIn K (.ref CInvalidSymbol) (.ref CInvalidAction) = some false)
    (sXInvalidSymbol_InvalidCapacity : PySem.W.subIn K (.ref CInvalidSymbol) (.ref CInvalidCapacity) = some false)
    (sXInvalidSymbol_InvalidForm : PySem.W.subIn K (.ref CInvalidSymbol) (.ref CInvalidForm) = some false)
    (sXInvalidSymbol_InvalidName : PySem.W.subIn K (.ref CInvalidSymbol) (.ref CInvalidName) = some false)
    (sXInvalidSymbol_InvalidNumber : PySem.W.subIn K (.ref CInvalidSymbol) (.ref CInvalidNumber) = some false)
    (sXInvalidSymbol_InvalidOutcome : PySem.W.subIn K (.ref CInvalidSymbol) (.ref CInvalidOutcome) = some false)
    (sXInvalidSymbol_InvalidText : PySem.W.subIn K (.ref CInvalidSymbol) (.ref CInvalidText) = some false)
    (sXInvalidSymbol_InvalidTie : PySem.W.subIn K (.ref CInvalidSymbol) (.ref CInvalidTie) = some false)
    (sXInvalidSymbol_Mismatch : PySem.W.subIn K (.ref CInvalidSymbol) (.ref CMismatch) = some false)
    (sXInvalidSymbol_PourError : PySem.W.subIn K (.ref CInvalidSymbol) (.ref CPourError) = some true)
    (hAInvalidText : PySem.W.findIn K (.ref CInvalidText) "__class__" = some (some (.builtin "object.__class__")))
    (hMInvalidText : PySem.W.mroIn K CInvalidText (.type "object") = some true)
    (sVInvalidText : PySem.W.subIn K (.ref CInvalidText) (.type "ValueError") = some true)
    (sXInvalidText_Contradiction : PySem.W.subIn K (.ref CInvalidText) (.ref CContradiction) = some false)
    (sXInvalidText_DuplicateName : PySem.W.subIn K (.ref CInvalidText) (.ref CDuplicateName) = some false)
    (sXInvalidText_InvalidAction : PySem.W.subIn K (.ref CInvalidText) (.ref CInvalidAction) = some false)
    (sXInvalidText_InvalidCapacity : PySem.W.subIn K (.ref CInvalidText) (.ref CInvalidCapacity) = some false)
    (sXInvalidText_InvalidForm : PySem.W.subIn K (.ref CInvalidText) (.ref CInvalidForm) = some false)
    (sXInvalidText_InvalidName : PySem.W.subIn K (.ref CInvalidText) (.ref CInvalidName) = some false)
    (sXInvalidText_InvalidNumber : PySem.W.subIn K (.ref CInvalidText) (.ref CInvalidNumber) = some false)
    (sXInvalidText_InvalidOutcome : PySem.W.subIn K (.ref CInvalidText) (.ref CInvalidOutcome) = some false)
    (sXInvalidText_InvalidSymbol : PySem.W.subIn K (.ref CInvalidText) (.ref CInvalidSymbol) = some false)
    (sXInvalidText_InvalidTie : PySem.W.subIn K (.ref CInvalidText) (.ref CInvalidTie) = some false)
    (sXInvalidText_Mismatch : PySem.W.subIn K (.ref CInvalidText) (.ref CMismatch) = some false)
    (sXInvalidText_PourError : PySem.W.subIn K (.ref CInvalidText) (.ref CPourError) = some true)
    (hAInvalidTie : PySem.W.findIn K (.ref CInvalidTie) "__class__" = some (some (.builtin "object.__class__")))
    (hMInvalidTie : PySem.W.mroIn K CInvalidTie (.type "object") = some true)
    (sVInvalidTie : PySem.W.subIn K (.ref CInvalidTie) (.type "ValueError") = some true)
    (sXInvalidTie_Contradiction : PySem.W.subIn K (.ref CInvalidTie) (.ref CContradiction) = some false)
    (sXInvalidTie_DuplicateName : PySem.W.subIn K (.ref CInvalidTie) (.ref CDuplicateName) = some false)
    (sXInvalidTie_InvalidAction : PySem.W.subIn K (.ref CInvalidTie) (.ref CInvalidAction) = some false)
    (sXInvalidTie_InvalidCapacity : PySem.W.subIn K (.ref CInvalidTie) (.ref CInvalidCapacity) = some false)
    (sXInvalidTie_InvalidForm : PySem.W.subIn K (.ref CInvalidTie) (.ref CInvalidForm) = some false)
    (sXInvalidTie_InvalidName : PySem.W.subIn K (.ref CInvalidTie) (.ref CInvalidName) = some false)
    (sXInvalidTie_InvalidNumber : PySem.W.subIn K (.ref CInvalidTie) (.ref CInvalidNumber) = some false)
    (sXInvalidTie_InvalidOutcome : PySem.W.subIn K (.ref CInvalidTie) (.ref CInvalidOutcome) = some false)
    (sXInvalidTie_InvalidSymbol : PySem.W.subIn K (.ref CInvalidTie) (.ref CInvalidSymbol) = some false)
    (sXInvalidTie_InvalidText : PySem.W.subIn K (.ref CInvalidTie) (.ref CInvalidText) = some false)
    (sXInvalidTie_Mismatch : PySem.W.subIn K (.ref CInvalidTie) (.ref CMismatch) = some false)
    (sXInvalidTie_PourError : PySem.W.subIn K (.ref CInvalidTie) (.ref CPourError) = some true)
    (hAMismatch : PySem.W.findIn K (.ref CMismatch) "__class__" = some (some (.builtin "object.__class__")))
    (hMMismatch : PySem.W.mroIn K CMismatch (.type "object") = some true)
    (sVMismatch : PySem.W.subIn K (.ref CMismatch) (.type "ValueError") = some true)
    (sXMismatch_Contradiction : PySem.W.subIn K (.ref CMismatch) (.ref CContradiction) = some false)
    (sXMismatch_DuplicateName : PySem.W.subIn K (.ref CMismatch) (.ref CDuplicateName) = some false)
    (sXMismatch_InvalidAction : PySem.W.subIn K (.ref CMismatch) (.ref CInvalidAction) = some false)
    (sXMismatch_InvalidCapacity : PySem.W.subIn K (.ref CMismatch) (.ref CInvalidCapacity) = some false)
    (sXMismatch_InvalidForm : PySem.W.subIn K (.ref CMismatch) (.ref CInvalidForm) = some false)
    (sXMismatch_InvalidName : PySem.W.subIn K (.ref CMismatch) (.ref CInvalidName) = some false)
    (sXMismatch_InvalidNumber : PySem.W.subIn K (.ref CMismatch) (.ref CInvalidNumber) = some false)
    (sXMismatch_InvalidOutcome : PySem.W.subIn K (.ref CMismatch) (.ref CInvalidOutcome) = some false)
    (sXMismatch_InvalidSymbol : PySem.W.subIn K (.ref CMismatch) (.ref CInvalidSymbol) = some false)
    (sXMismatch_InvalidText : PySem.W.subIn K (.ref CMismatch) (.ref CInvalidText) = some false)
    (sXMismatch_InvalidTie : PySem.W.subIn K (.ref CMismatch) (.ref CInvalidTie) = some false)
    (sXMismatch_PourError : PySem.W.subIn K (.ref CMismatch) (.ref CPourError) = some true)
    (hAPourError : PySem.W.findIn K (.ref CPourError) "__class__" = some (some (.builtin "object.__class__")))
    (hMPourError : PySem.W.mroIn K CPourError (.type "object") = some true)
    (sVPourError : PySem.W.subIn K (.ref CPourError) (.type "ValueError") = some true)
    (sXPourError_Contradiction : PySem.W.subIn K (.ref CPourError) (.ref CContradiction) = some false)
    (sXPourError_DuplicateName : PySem.W.subIn K (.ref CPourError) (.ref CDuplicateName) = some false)
    (sXPourError_InvalidAction : PySem.W.subIn K (.ref CPourError) (.ref CInvalidAction) = some false)
    (sXPourError_InvalidCapacity : PySem.W.subIn K (.ref CPourError) (.ref CInvalidCapacity) = some false)
    (sXPourError_InvalidForm : PySem.W.subIn K (.ref CPourError) (.ref CInvalidForm) = some false)
    (sXPourError_InvalidName : PySem.W.subIn K (.ref CPourError) (.ref CInvalidName) = some false)
    (sXPourError_InvalidNumber : PySem.W.subIn K (.ref CPourError) (.ref CInvalidNumber) = some false)
    (sXPourError_InvalidOutcome : PySem.W.subIn K (.ref CPourError) (.ref CInvalidOutcome) = some false)
    (sXPourError_InvalidSymbol : PySem.W.subIn K (.ref CPourError) (.ref CInvalidSymbol) = some false)
    (sXPourError_InvalidText : PySem.W.subIn K (.ref CPourError) (.ref CInvalidText) = some false)
    (sXPourError_InvalidTie : PySem.W.subIn K (.ref CPourError) (.ref CInvalidTie) = some false)
    (sXPourError_Mismatch : PySem.W.subIn K (.ref CPourError) (.ref CMismatch) = some false)
    (kn : kNiceB K = true) : ∃ (fd : FuncData) (ct : CT), ct.t = [] ∧ (∀ (s : Shared) (v : Value), BindsTo s fd ⟨[v], []⟩ [("_law_script", v)]) ∧ ∀ base : Heap, K.In base → base.Ns mainGlobals mg → FnG P w K mg base (L2.CX P w) 5 fa fd ["_law_script"] (SpD K ct f_law) := by
  have e := hfa.symm.trans (PySem.W.mg_of X G a9)
  cases e
  have hK := kNice_of kn
  have Gs : Gm K mg := ⟨glb_str (PySem.W.mg_of X G z_LETTERS), glb_int (PySem.W.mg_of X G z_LONGEST_NAME), PySem.W.mg_none_of X G z_ValueError, PySem.W.mg_none_of X G z_all, PySem.W.mg_none_of X G z_enumerate, PySem.W.mg_none_of X G z_isinstance, PySem.W.mg_none_of X G z_len, PySem.W.mg_none_of X G z_range, PySem.W.mg_none_of X G z_repr, PySem.W.mg_none_of X G z_str⟩
  have F0 := fun_mk (st := s_is_name) l0 c0 k0
  have F1 := fun_mk (st := s__law_source) l1 c1 k1
  have F2 := fun_mk (st := s__law_draw) l2 c2 k2
  have F3 := fun_mk (st := s__law_choice) l3 c3 k3
  have F4 := fun_mk (st := s__law_is_name) l4 c4 k4
  have F5 := fun_mk (st := s__law_text) l5 c5 k5
  have F6 := fun_mk (st := s__law_value) l6 c6 k6
  have F7 := fun_mk (st := s__law_fields) l7 c7 k7
  have F8 := fun_mk (st := s__law_kinds) l8 c8 k8
  have F9 := fun_mk (st := s_law) l9 c9 k9
  refine ⟨PySem.W.fnOf "law" "law" (defArgs s_law) (defBody s_law) (defScope s_law) .none kV9 dc9 pm9 an9 cd9 ct9, (ctOf mg), rfl, fun s v => .of_eq rfl, fun base _ _ => ?_⟩
  have Tb : BasE K mg "PourError" := ⟨⟨B, PySem.W.mg_of X G aB, gB, rB, tB, fB⟩⟩
  have gContradiction := PySem.W.mg_of X G aCContradiction
  have eContradiction : ctOf mg "Contradiction" = CContradiction := ctOf_of gContradiction
  have TContradiction : OexC K CContradiction := ⟨⟨_, _, _, _, _, _, _, _, _, _, _, _, _, _, _, xLContradiction, by rfl⟩, saContradiction, eCContradiction, tCContradiction, kCContradiction⟩
  have FIContradiction := fun_mk (st := (inClass (top 12) 0)) lIContradiction cIContradiction kIContradiction
  have oIContradiction : FnOk P w K mg base (L2.CX P w) 1 IContradiction _ ["self", "certificate"] (SpInit CContradiction "certificate") := init_ok FIContradiction ⟨rfl, rfl, rfl, by decide +kernel, rfl, by decide +kernel, by decide +kernel⟩ TContradiction nbContradiction (fun _ _ _ _ _ _ => pss_init Tb)
  have x_Contradiction : ExcC P w K mg base (ctOf mg) "Contradiction" "certificate" := ⟨⟨CContradiction, IContradiction, _, _, TContradiction, aIContradiction, tIContradiction, oIContradiction, FIContradiction.binds (fun _ _ _ _ _ _ us hl => match us, hl with | [_, _], _ => rfl), gContradiction, eContradiction⟩⟩
  have y_Contradiction : ExcK P w K mg base (ctOf mg) "Contradiction" "certificate" "certificate" := ⟨⟨CContradiction, IContradiction, _, _, TContradiction, aIContradiction, tIContradiction, oIContradiction, kbn_mk FIContradiction (n := 1) (ks := ["certificate"]) (π := [0, 1]) (ps := ["self", "certificate"]) (fun _ _ _ _ _ _ us ws l1 l2 => match us, ws, l1, l2 with | [_], [_], _, _ => rfl), gContradiction, eContradiction⟩⟩
  have t_Contradiction : CatC K mg (ctOf mg) "Contradiction" [("Contradiction", true)] := catC_self gContradiction (exm_self eCContradiction iCContradiction tCContradiction sCContradiction)
  have d_Contradiction_certificate : FldC K (ctOf mg) "Contradiction" "certificate" := ⟨by rw [eContradiction]; exact ⟨⟨gaContradiction, ggContradiction, eCContradiction, hCContradiction⟩, nbContradiction⟩⟩
  have gDuplicateName := PySem.W.mg_of X G aCDuplicateName
  have eDuplicateName : ctOf mg "DuplicateName" = CDuplicateName := ctOf_of gDuplicateName
  have TDuplicateName : OexC K CDuplicateName := ⟨⟨_, _, _, _, _, _, _, _, _, _, _, _, _, _, _, xLDuplicateName, by rfl⟩, saDuplicateName, eCDuplicateName, tCDuplicateName, kCDuplicateName⟩
  have FIDuplicateName := fun_mk (st := (inClass (top 7) 0)) lIDuplicateName cIDuplicateName kIDuplicateName
  have oIDuplicateName : FnOk P w K mg base (L2.CX P w) 1 IDuplicateName _ ["self", "name"] (SpInit CDuplicateName "name") := init_ok FIDuplicateName ⟨rfl, rfl, rfl, by decide +kernel, rfl, by decide +kernel, by decide +kernel⟩ TDuplicateName nbDuplicateName (fun _ _ _ _ _ _ => pss_init Tb)
  have x_DuplicateName : ExcC P w K mg base (ctOf mg) "DuplicateName" "name" := ⟨⟨CDuplicateName, IDuplicateName, _, _, TDuplicateName, aIDuplicateName, tIDuplicateName, oIDuplicateName, FIDuplicateName.binds (fun _ _ _ _ _ _ us hl => match us, hl with | [_, _], _ => rfl), gDuplicateName, eDuplicateName⟩⟩
  have y_DuplicateName : ExcK P w K mg base (ctOf mg) "DuplicateName" "name" "name" := ⟨⟨CDuplicateName, IDuplicateName, _, _, TDuplicateName, aIDuplicateName, tIDuplicateName, oIDuplicateName, kbn_mk FIDuplicateName (n := 1) (ks := ["name"]) (π := [0, 1]) (ps := ["self", "name"]) (fun _ _ _ _ _ _ us ws l1 l2 => match us, ws, l1, l2 with | [_], [_], _, _ => rfl), gDuplicateName, eDuplicateName⟩⟩
  have t_DuplicateName : CatC K mg (ctOf mg) "DuplicateName" [("DuplicateName", true)] := catC_self gDuplicateName (exm_self eCDuplicateName iCDuplicateName tCDuplicateName sCDuplicateName)
  have d_DuplicateName_name : FldC K (ctOf mg) "DuplicateName" "name" := ⟨by rw [eDuplicateName]; exact ⟨⟨gaDuplicateName, ggDuplicateName, eCDuplicateName, hCDuplicateName⟩, nbDuplicateName⟩⟩
  have gInvalidAction := PySem.W.mg_of X G aCInvalidAction
  have eInvalidAction : ctOf mg "InvalidAction" = CInvalidAction := ctOf_of gInvalidAction
  have TInvalidAction : OexC K CInvalidAction := ⟨⟨_, _, _, _, _, _, _, _, _, _, _, _, _, _, _, xLInvalidAction, by rfl⟩, saInvalidAction, eCInvalidAction, tCInvalidAction, kCInvalidAction⟩
  have FIInvalidAction := fun_mk (st := (inClass (top 9) 0)) lIInvalidAction cIInvalidAction kIInvalidAction
  have oIInvalidAction : FnOk P w K mg base (L2.CX P w) 1 IInvalidAction _ ["self", "index"] (SpInit CInvalidAction "index") := init_ok FIInvalidAction ⟨rfl, rfl, rfl, by decide +kernel, rfl, by decide +kernel, by decide +kernel⟩ TInvalidAction nbInvalidAction (fun _ _ _ _ _ _ => pss_init Tb)
  have x_InvalidAction : ExcC P w K mg base (ctOf mg) "InvalidAction" "index" := ⟨⟨CInvalidAction, IInvalidAction, _, _, TInvalidAction, aIInvalidAction, tIInvalidAction, oIInvalidAction, FIInvalidAction.binds (fun _ _ _ _ _ _ us hl => match us, hl with | [_, _], _ => rfl), gInvalidAction, eInvalidAction⟩⟩
  have y_InvalidAction : ExcK P w K mg base (ctOf mg) "InvalidAction" "index" "index" := ⟨⟨CInvalidAction, IInvalidAction, _, _, TInvalidAction, aIInvalidAction, tIInvalidAction, oIInvalidAction, kbn_mk FIInvalidAction (n := 1) (ks := ["index"]) (π := [0, 1]) (ps := ["self", "index"]) (fun _ _ _ _ _ _ us ws l1 l2 => match us, ws, l1, l2 with | [_], [_], _, _ => rfl), gInvalidAction, eInvalidAction⟩⟩
  have t_InvalidAction : CatC K mg (ctOf mg) "InvalidAction" [("InvalidAction", true)] := catC_self gInvalidAction (exm_self eCInvalidAction iCInvalidAction tCInvalidAction sCInvalidAction)
  have d_InvalidAction_index : FldC K (ctOf mg) "InvalidAction" "index" := ⟨by rw [eInvalidAction]; exact ⟨⟨gaInvalidAction, ggInvalidAction, eCInvalidAction, hCInvalidAction⟩, nbInvalidAction⟩⟩
  have gInvalidCapacity := PySem.W.mg_of X G aCInvalidCapacity
  have eInvalidCapacity : ctOf mg "InvalidCapacity" = CInvalidCapacity := ctOf_of gInvalidCapacity
  have TInvalidCapacity : OexC K CInvalidCapacity := ⟨⟨_, _, _, _, _, _, _, _, _, _, _, _, _, _, _, xLInvalidCapacity, by rfl⟩, saInvalidCapacity, eCInvalidCapacity, tCInvalidCapacity, kCInvalidCapacity⟩
  have FIInvalidCapacity := fun_mk (st := (inClass (top 8) 0)) lIInvalidCapacity cIInvalidCapacity kIInvalidCapacity
  have oIInvalidCapacity : FnOk P w K mg base (L2.CX P w) 1 IInvalidCapacity _ ["self", "name"] (SpInit CInvalidCapacity "name") := init_ok FIInvalidCapacity ⟨rfl, rfl, rfl, by decide +kernel, rfl, by decide +kernel, by decide +kernel⟩ TInvalidCapacity nbInvalidCapacity (fun _ _ _ _ _ _ => pss_init Tb)
  have x_InvalidCapacity : ExcC P w K mg base (ctOf mg) "InvalidCapacity" "name" := ⟨⟨CInvalidCapacity, IInvalidCapacity, _, _, TInvalidCapacity, aIInvalidCapacity, tIInvalidCapacity, oIInvalidCapacity, FIInvalidCapacity.binds (fun _ _ _ _ _ _ us hl => match us, hl with | [_, _], _ => rfl), gInvalidCapacity, eInvalidCapacity⟩⟩
  have y_InvalidCapacity : ExcK P w K mg base (ctOf mg) "InvalidCapacity" "name" "name" := ⟨⟨CInvalidCapacity, IInvalidCapacity, _, _, TInvalidCapacity, aIInvalidCapacity, tIInvalidCapacity, oIInvalidCapacity, kbn_mk FIInvalidCapacity (n := 1) (ks := ["name"]) (π := [0, 1]) (ps := ["self", "name"]) (fun _ _ _ _ _ _ us ws l1 l2 => match us, ws, l1, l2 with | [_], [_], _, _ => rfl), gInvalidCapacity, eInvalidCapacity⟩⟩
  have t_InvalidCapacity : CatC K mg (ctOf mg) "InvalidCapacity" [("InvalidCapacity", true)] := catC_self gInvalidCapacity (exm_self eCInvalidCapacity iCInvalidCapacity tCInvalidCapacity sCInvalidCapacity)
  have d_InvalidCapacity_name : FldC K (ctOf mg) "InvalidCapacity" "name" := ⟨by rw [eInvalidCapacity]; exact ⟨⟨gaInvalidCapacity, ggInvalidCapacity, eCInvalidCapacity, hCInvalidCapacity⟩, nbInvalidCapacity⟩⟩
  have gInvalidForm := PySem.W.mg_of X G aCInvalidForm
  have eInvalidForm : ctOf mg "InvalidForm" = CInvalidForm := ctOf_of gInvalidForm
  have x_InvalidForm : ExcP K mg (ctOf mg) "InvalidForm" := ⟨⟨CInvalidForm, gInvalidForm, eInvalidForm, qXInvalidForm, kCInvalidForm, eCInvalidForm, tCInvalidForm⟩⟩
  have t_InvalidForm : CatC K mg (ctOf mg) "InvalidForm" [("InvalidForm", true)] := catC_self gInvalidForm (exm_self eCInvalidForm iCInvalidForm tCInvalidForm sCInvalidForm)
  have gInvalidName := PySem.W.mg_of X G aCInvalidName
  have eInvalidName : ctOf mg "InvalidName" = CInvalidName := ctOf_of gInvalidName
  have TInvalidName : OexC K CInvalidName := ⟨⟨_, _, _, _, _, _, _, _, _, _, _, _, _, _, _, xLInvalidName, by rfl⟩, saInvalidName, eCInvalidName, tCInvalidName, kCInvalidName⟩
  have FIInvalidName := fun_mk (st := (inClass (top 6) 0)) lIInvalidName cIInvalidName kIInvalidName
  have oIInvalidName : FnOk P w K mg base (L2.CX P w) 1 IInvalidName _ ["self", "name"] (SpInit CInvalidName "name") := init_ok FIInvalidName ⟨rfl, rfl, rfl, by decide +kernel, rfl, by decide +kernel, by decide +kernel⟩ TInvalidName nbInvalidName (fun _ _ _ _ _ _ => pss_init Tb)
  have x_InvalidName : ExcC P w K mg base (ctOf mg) "InvalidName" "name" := ⟨⟨CInvalidName, IInvalidName, _, _, TInvalidName, aIInvalidName, tIInvalidName, oIInvalidName, FIInvalidName.binds (fun _ _ _ _ _ _ us hl => match us, hl with | [_, _], _ => rfl), gInvalidName, eInvalidName⟩⟩
  have y_InvalidName : ExcK P w K mg base (ctOf mg) "InvalidName" "name" "name" := ⟨⟨CInvalidName, IInvalidName, _, _, TInvalidName, aIInvalidName, tIInvalidName, oIInvalidName, kbn_mk FIInvalidName (n := 1) (ks := ["name"]) (π := [0, 1]) (ps := ["self", "name"]) (fun _ _ _ _ _ _ us ws l1 l2 => match us, ws, l1, l2 with | [_], [_], _, _ => rfl), gInvalidName, eInvalidName⟩⟩
  have t_InvalidName : CatC K mg (ctOf mg) "InvalidName" [("InvalidName", true)] := catC_self gInvalidName (exm_self eCInvalidName iCInvalidName tCInvalidName sCInvalidName)
  have d_InvalidName_name : FldC K (ctOf mg) "InvalidName" "name" := ⟨by rw [eInvalidName]; exact ⟨⟨gaInvalidName, ggInvalidName, eCInvalidName, hCInvalidName⟩, nbInvalidName⟩⟩
  have gInvalidNumber := PySem.W.mg_of X G aCInvalidNumber
  have eInvalidNumber : ctOf mg "InvalidNumber" = CInvalidNumber := ctOf_of gInvalidNumber
  have TInvalidNumber : OexC K CInvalidNumber := ⟨⟨_, _, _, _, _, _, _, _, _, _, _, _, _, _, _, xLInvalidNumber, by rfl⟩, saInvalidNumber, eCInvalidNumber, tCInvalidNumber, kCInvalidNumber⟩
  have FIInvalidNumber := fun_mk (st := (inClass (top 14) 0)) lIInvalidNumber cIInvalidNumber kIInvalidNumber
  have oIInvalidNumber : FnOk P w K mg base (L2.CX P w) 1 IInvalidNumber _ ["self", "number"] (SpInit CInvalidNumber "number") := init_ok FIInvalidNumber ⟨rfl, rfl, rfl, by decide +kernel, rfl, by decide +kernel, by decide +kernel⟩ TInvalidNumber nbInvalidNumber (fun _ _ _ _ _ _ => pss_init Tb)
  have x_InvalidNumber : ExcC P w K mg base (ctOf mg) "InvalidNumber" "number" := ⟨⟨CInvalidNumber, IInvalidNumber, _, _, TInvalidNumber, aIInvalidNumber, tIInvalidNumber, oIInvalidNumber, FIInvalidNumber.binds (fun _ _ _ _ _ _ us hl => match us, hl with | [_, _], _ => rfl), gInvalidNumber, eInvalidNumber⟩⟩
  have y_InvalidNumber : ExcK P w K mg base (ctOf mg) "InvalidNumber" "number" "number" := ⟨⟨CInvalidNumber, IInvalidNumber, _, _, TInvalidNumber, aIInvalidNumber, tIInvalidNumber, oIInvalidNumber, kbn_mk FIInvalidNumber (n := 1) (ks := ["number"]) (π := [0, 1]) (ps := ["self", "number"]) (fun _ _ _ _ _ _ us ws l1 l2 => match us, ws, l1, l2 with | [_], [_], _, _ => rfl), gInvalidNumber, eInvalidNumber⟩⟩
  have t_InvalidNumber : CatC K mg (ctOf mg) "InvalidNumber" [("InvalidNumber", true)] := catC_self gInvalidNumber (exm_self eCInvalidNumber iCInvalidNumber tCInvalidNumber sCInvalidNumber)
  have d_InvalidNumber_number : FldC K (ctOf mg) "InvalidNumber" "number" := ⟨by rw [eInvalidNumber]; exact ⟨⟨gaInvalidNumber, ggInvalidNumber, eCInvalidNumber, hCInvalidNumber⟩, nbInvalidNumber⟩⟩
  have gInvalidOutcome := PySem.W.mg_of X G aCInvalidOutcome
  have eInvalidOutcome : ctOf mg "InvalidOutcome" = CInvalidOutcome := ctOf_of gInvalidOutcome
  have TInvalidOutcome : OexC K CInvalidOutcome := ⟨⟨_, _, _, _, _, _, _, _, _, _, _, _, _, _, _, xLInvalidOutcome, by rfl⟩, saInvalidOutcome, eCInvalidOutcome, tCInvalidOutcome, kCInvalidOutcome⟩
  have FIInvalidOutcome := fun_mk (st := (inClass (top 10) 0)) lIInvalidOutcome cIInvalidOutcome kIInvalidOutcome
  have oIInvalidOutcome : FnOk P w K mg base (L2.CX P w) 1 IInvalidOutcome _ ["self", "index"] (SpInit CInvalidOutcome "index") := init_ok FIInvalidOutcome ⟨rfl, rfl, rfl, by decide +kernel, rfl, by decide +kernel, by decide +kernel⟩ TInvalidOutcome nbInvalidOutcome (fun _ _ _ _ _ _ => pss_init Tb)
  have x_InvalidOutcome : ExcC P w K mg base (ctOf mg) "InvalidOutcome" "index" := ⟨⟨CInvalidOutcome, IInvalidOutcome, _, _, TInvalidOutcome, aIInvalidOutcome, tIInvalidOutcome, oIInvalidOutcome, FIInvalidOutcome.binds (fun _ _ _ _ _ _ us hl => match us, hl with | [_, _], _ => rfl), gInvalidOutcome, eInvalidOutcome⟩⟩
  have y_InvalidOutcome : ExcK P w K mg base (ctOf mg) "InvalidOutcome" "index" "index" := ⟨⟨CInvalidOutcome, IInvalidOutcome, _, _, TInvalidOutcome, aIInvalidOutcome, tIInvalidOutcome, oIInvalidOutcome, kbn_mk FIInvalidOutcome (n := 1) (ks := ["index"]) (π := [0, 1]) (ps := ["self", "index"]) (fun _ _ _ _ _ _ us ws l1 l2 => match us, ws, l1, l2 with | [_], [_], _, _ => rfl), gInvalidOutcome, eInvalidOutcome⟩⟩
  have t_InvalidOutcome : CatC K mg (ctOf mg) "InvalidOutcome" [("InvalidOutcome", true)] := catC_self gInvalidOutcome (exm_self eCInvalidOutcome iCInvalidOutcome tCInvalidOutcome sCInvalidOutcome)
  have d_InvalidOutcome_index : FldC K (ctOf mg) "InvalidOutcome" "index" := ⟨by rw [eInvalidOutcome]; exact ⟨⟨gaInvalidOutcome, ggInvalidOutcome, eCInvalidOutcome, hCInvalidOutcome⟩, nbInvalidOutcome⟩⟩
  have gInvalidSymbol := PySem.W.mg_of X G aCInvalidSymbol
  have eInvalidSymbol : ctOf mg "InvalidSymbol" = CInvalidSymbol := ctOf_of gInvalidSymbol
  have TInvalidSymbol : OexC K CInvalidSymbol := ⟨⟨_, _, _, _, _, _, _, _, _, _, _, _, _, _, _, xLInvalidSymbol, by rfl⟩, saInvalidSymbol, eCInvalidSymbol, tCInvalidSymbol, kCInvalidSymbol⟩
  have FIInvalidSymbol := fun_mk (st := (inClass (top 13) 0)) lIInvalidSymbol cIInvalidSymbol kIInvalidSymbol
  have oIInvalidSymbol : FnOk P w K mg base (L2.CX P w) 1 IInvalidSymbol _ ["self", "index"] (SpInit CInvalidSymbol "index") := init_ok FIInvalidSymbol ⟨rfl, rfl, rfl, by decide +kernel, rfl, by decide +kernel, by decide +kernel⟩ TInvalidSymbol nbInvalidSymbol (fun _ _ _ _ _ _ => pss_init Tb)
  have x_InvalidSymbol : ExcC P w K mg base (ctOf mg) "InvalidSymbol" "index" := ⟨⟨CInvalidSymbol, IInvalidSymbol, _, _, TInvalidSymbol, aIInvalidSymbol, tIInvalidSymbol, oIInvalidSymbol, FIInvalidSymbol.binds (fun _ _ _ _ _ _ us hl => match us, hl with | [_, _], _ => rfl), gInvalidSymbol, eInvalidSymbol⟩⟩
  have y_InvalidSymbol : ExcK P w K mg base (ctOf mg) "InvalidSymbol" "index" "index" := ⟨⟨CInvalidSymbol, IInvalidSymbol, _, _, TInvalidSymbol, aIInvalidSymbol, tIInvalidSymbol, oIInvalidSymbol, kbn_mk FIInvalidSymbol (n := 1) (ks := ["index"]) (π := [0, 1]) (ps := ["self", "index"]) (fun _ _ _ _ _ _ us ws l1 l2 => match us, ws, l1, l2 with | [_], [_], _, _ => rfl), gInvalidSymbol, eInvalidSymbol⟩⟩
  have t_InvalidSymbol : CatC K mg (ctOf mg) "InvalidSymbol" [("InvalidSymbol", true)] := catC_self gInvalidSymbol (exm_self eCInvalidSymbol iCInvalidSymbol tCInvalidSymbol sCInvalidSymbol)
  have d_InvalidSymbol_index : FldC K (ctOf mg) "InvalidSymbol" "index" := ⟨by rw [eInvalidSymbol]; exact ⟨⟨gaInvalidSymbol, ggInvalidSymbol, eCInvalidSymbol, hCInvalidSymbol⟩, nbInvalidSymbol⟩⟩
  have gInvalidText := PySem.W.mg_of X G aCInvalidText
  have eInvalidText : ctOf mg "InvalidText" = CInvalidText := ctOf_of gInvalidText
  have TInvalidText : OexC K CInvalidText := ⟨⟨_, _, _, _, _, _, _, _, _, _, _, _, _, _, _, xLInvalidText, by rfl⟩, saInvalidText, eCInvalidText, tCInvalidText, kCInvalidText⟩
  have FIInvalidText := fun_mk (st := (inClass (top 15) 0)) lIInvalidText cIInvalidText kIInvalidText
  have oIInvalidText : FnOk P w K mg base (L2.CX P w) 1 IInvalidText _ ["self", "line"] (SpInit CInvalidText "line") := init_ok FIInvalidText ⟨rfl, rfl, rfl, by decide +kernel, rfl, by decide +kernel, by decide +kernel⟩ TInvalidText nbInvalidText (fun _ _ _ _ _ _ => pss_init Tb)
  have x_InvalidText : ExcC P w K mg base (ctOf mg) "InvalidText" "line" := ⟨⟨CInvalidText, IInvalidText, _, _, TInvalidText, aIInvalidText, tIInvalidText, oIInvalidText, FIInvalidText.binds (fun _ _ _ _ _ _ us hl => match us, hl with | [_, _], _ => rfl), gInvalidText, eInvalidText⟩⟩
  have y_InvalidText : ExcK P w K mg base (ctOf mg) "InvalidText" "line" "line" := ⟨⟨CInvalidText, IInvalidText, _, _, TInvalidText, aIInvalidText, tIInvalidText, oIInvalidText, kbn_mk FIInvalidText (n := 1) (ks := ["line"]) (π := [0, 1]) (ps := ["self", "line"]) (fun _ _ _ _ _ _ us ws l1 l2 => match us, ws, l1, l2 with | [_], [_], _, _ => rfl), gInvalidText, eInvalidText⟩⟩
  have t_InvalidText : CatC K mg (ctOf mg) "InvalidText" [("InvalidText", true)] := catC_self gInvalidText (exm_self eCInvalidText iCInvalidText tCInvalidText sCInvalidText)
  have d_InvalidText_line : FldC K (ctOf mg) "InvalidText" "line" := ⟨by rw [eInvalidText]; exact ⟨⟨gaInvalidText, ggInvalidText, eCInvalidText, hCInvalidText⟩, nbInvalidText⟩⟩
  have gInvalidTie := PySem.W.mg_of X G aCInvalidTie
  have eInvalidTie : ctOf mg "InvalidTie" = CInvalidTie := ctOf_of gInvalidTie
  have TInvalidTie : OexC K CInvalidTie := ⟨⟨_, _, _, _, _, _, _, _, _, _, _, _, _, _, _, xLInvalidTie, by rfl⟩, saInvalidTie, eCInvalidTie, tCInvalidTie, kCInvalidTie⟩
  have FIInvalidTie := fun_mk (st := (inClass (top 11) 0)) lIInvalidTie cIInvalidTie kIInvalidTie
  have oIInvalidTie : FnOk P w K mg base (L2.CX P w) 1 IInvalidTie _ ["self", "index"] (SpInit CInvalidTie "index") := init_ok FIInvalidTie ⟨rfl, rfl, rfl, by decide +kernel, rfl, by decide +kernel, by decide +kernel⟩ TInvalidTie nbInvalidTie (fun _ _ _ _ _ _ => pss_init Tb)
  have x_InvalidTie : ExcC P w K mg base (ctOf mg) "InvalidTie" "index" := ⟨⟨CInvalidTie, IInvalidTie, _, _, TInvalidTie, aIInvalidTie, tIInvalidTie, oIInvalidTie, FIInvalidTie.binds (fun _ _ _ _ _ _ us hl => match us, hl with | [_, _], _ => rfl), gInvalidTie, eInvalidTie⟩⟩
  have y_InvalidTie : ExcK P w K mg base (ctOf mg) "InvalidTie" "index" "index" := ⟨⟨CInvalidTie, IInvalidTie, _, _, TInvalidTie, aIInvalidTie, tIInvalidTie, oIInvalidTie, kbn_mk FIInvalidTie (n := 1) (ks := ["index"]) (π := [0, 1]) (ps := ["self", "index"]) (fun _ _ _ _ _ _ us ws l1 l2 => match us, ws, l1, l2 with | [_], [_], _, _ => rfl), gInvalidTie, eInvalidTie⟩⟩
  have t_InvalidTie : CatC K mg (ctOf mg) "InvalidTie" [("InvalidTie", true)] := catC_self gInvalidTie (exm_self eCInvalidTie iCInvalidTie tCInvalidTie sCInvalidTie)
  have d_InvalidTie_index : FldC K (ctOf mg) "InvalidTie" "index" := ⟨by rw [eInvalidTie]; exact ⟨⟨gaInvalidTie, ggInvalidTie, eCInvalidTie, hCInvalidTie⟩, nbInvalidTie⟩⟩
  have gMismatch := PySem.W.mg_of X G aCMismatch
  have eMismatch : ctOf mg "Mismatch" = CMismatch := ctOf_of gMismatch
  have x_Mismatch : ExcP K mg (ctOf mg) "Mismatch" := ⟨⟨CMismatch, gMismatch, eMismatch, qXMismatch, kCMismatch, eCMismatch, tCMismatch⟩⟩
  have t_Mismatch : CatC K mg (ctOf mg) "Mismatch" [("Mismatch", true)] := catC_self gMismatch (exm_self eCMismatch iCMismatch tCMismatch sCMismatch)
  have gPourError := PySem.W.mg_of X G aCPourError
  have ePourError : ctOf mg "PourError" = CPourError := ctOf_of gPourError
  have x_PourError : ExcP K mg (ctOf mg) "PourError" := ⟨⟨CPourError, gPourError, ePourError, qXPourError, kCPourError, eCPourError, tCPourError⟩⟩
  have t_PourError : CatC K mg (ctOf mg) "PourError" [("PourError", true)] := catC_self gPourError (exm_self eCPourError iCPourError tCPourError sCPourError)
  have xkContradiction : XkC K (ctOf mg "Contradiction") := by rw [eContradiction]; exact ⟨iCContradiction, gaContradiction, ggContradiction, eCContradiction, hAContradiction, hN0, hT0, hMContradiction, hCContradiction⟩
  have xkDuplicateName : XkC K (ctOf mg "DuplicateName") := by rw [eDuplicateName]; exact ⟨iCDuplicateName, gaDuplicateName, ggDuplicateName, eCDuplicateName, hADuplicateName, hN0, hT0, hMDuplicateName, hCDuplicateName⟩
  have xkInvalidAction : XkC K (ctOf mg "InvalidAction") := by rw [eInvalidAction]; exact ⟨iCInvalidAction, gaInvalidAction, ggInvalidAction, eCInvalidAction, hAInvalidAction, hN0, hT0, hMInvalidAction, hCInvalidAction⟩
  have xkInvalidCapacity : XkC K (ctOf mg "InvalidCapacity") := by rw [eInvalidCapacity]; exact ⟨iCInvalidCapacity, gaInvalidCapacity, ggInvalidCapacity, eCInvalidCapacity, hAInvalidCapacity, hN0, hT0, hMInvalidCapacity, hCInvalidCapacity⟩
  have xkInvalidForm : XkC K (ctOf mg "InvalidForm") := by rw [eInvalidForm]; exact ⟨iCInvalidForm, gaInvalidForm, ggInvalidForm, eCInvalidForm, hAInvalidForm, hN0, hT0, hMInvalidForm, hCInvalidForm⟩
  have xkInvalidName : XkC K (ctOf mg "InvalidName") := by rw [eInvalidName]; exact ⟨iCInvalidName, gaInvalidName, ggInvalidName, eCInvalidName, hAInvalidName, hN0, hT0, hMInvalidName, hCInvalidName⟩
  have xkInvalidNumber : XkC K (ctOf mg "InvalidNumber") := by rw [eInvalidNumber]; exact ⟨iCInvalidNumber, gaInvalidNumber, ggInvalidNumber, eCInvalidNumber, hAInvalidNumber, hN0, hT0, hMInvalidNumber, hCInvalidNumber⟩
  have xkInvalidOutcome : XkC K (ctOf mg "InvalidOutcome") := by rw [eInvalidOutcome]; exact ⟨iCInvalidOutcome, gaInvalidOutcome, ggInvalidOutcome, eCInvalidOutcome, hAInvalidOutcome, hN0, hT0, hMInvalidOutcome, hCInvalidOutcome⟩
  have xkInvalidSymbol : XkC K (ctOf mg "InvalidSymbol") := by rw [eInvalidSymbol]; exact ⟨iCInvalidSymbol, gaInvalidSymbol, ggInvalidSymbol, eCInvalidSymbol, hAInvalidSymbol, hN0, hT0, hMInvalidSymbol, hCInvalidSymbol⟩
  have xkInvalidText : XkC K (ctOf mg "InvalidText") := by rw [eInvalidText]; exact ⟨iCInvalidText, gaInvalidText, ggInvalidText, eCInvalidText, hAInvalidText, hN0, hT0, hMInvalidText, hCInvalidText⟩
  have xkInvalidTie : XkC K (ctOf mg "InvalidTie") := by rw [eInvalidTie]; exact ⟨iCInvalidTie, gaInvalidTie, ggInvalidTie, eCInvalidTie, hAInvalidTie, hN0, hT0, hMInvalidTie, hCInvalidTie⟩
  have xkMismatch : XkC K (ctOf mg "Mismatch") := by rw [eMismatch]; exact ⟨iCMismatch, gaMismatch, ggMismatch, eCMismatch, hAMismatch, hN0, hT0, hMMismatch, hCMismatch⟩
  have xkPourError : XkC K (ctOf mg "PourError") := by rw [ePourError]; exact ⟨iCPourError, gaPourError, ggPourError, eCPourError, hAPourError, hN0, hT0, hMPourError, hCPourError⟩
  have gEContradiction := PySem.W.mg_of X G aCContradiction
  have gEDuplicateName := PySem.W.mg_of X G aCDuplicateName
  have gEInvalidAction := PySem.W.mg_of X G aCInvalidAction
  have gEInvalidCapacity := PySem.W.mg_of X G aCInvalidCapacity
  have gEInvalidForm := PySem.W.mg_of X G aCInvalidForm
  have gEInvalidName := PySem.W.mg_of X G aCInvalidName
  have gEInvalidNumber := PySem.W.mg_of X G aCInvalidNumber
  have gEInvalidOutcome := PySem.W.mg_of X G aCInvalidOutcome
  have gEInvalidSymbol := PySem.W.mg_of X G aCInvalidSymbol
  have gEInvalidText := PySem.W.mg_of X G aCInvalidText
  have gEInvalidTie := PySem.W.mg_of X G aCInvalidTie
  have gEMismatch := PySem.W.mg_of X G aCMismatch
  have gEPourError := PySem.W.mg_of X G aCPourError
  have koContradiction_Contradiction : PySem.W.kitOne K (.ref (ctOf mg "Contradiction")) (.ref CContradiction) = some true := by rw [eContradiction]; exact kitOne_own iCContradiction tCContradiction sCContradiction sCContradiction
  have koContradiction_DuplicateName : PySem.W.kitOne K (.ref (ctOf mg "Contradiction")) (.ref CDuplicateName) = some false := by rw [eContradiction]; exact kitOne_own iCDuplicateName tCDuplicateName sXContradiction_DuplicateName sCContradiction
  have koContradiction_InvalidAction : PySem.W.kitOne K (.ref (ctOf mg "Contradiction")) (.ref CInvalidAction) = some false := by rw [eContradiction]; exact kitOne_own iCInvalidAction tCInvalidAction sXContradiction_InvalidAction sCContradiction
  have koContradiction_InvalidCapacity : PySem.W.kitOne K (.ref (ctOf mg "Contradiction")) (.ref CInvalidCapacity) = some false := by rw [eContradiction]; exact kitOne_own iCInvalidCapacity tCInvalidCapacity sXContradiction_InvalidCapacity sCContradiction
  have koContradiction_InvalidForm : PySem.W.kitOne K (.ref (ctOf mg "Contradiction")) (.ref CInvalidForm) = some false := by rw [eContradiction]; exact kitOne_own iCInvalidForm tCInvalidForm sXContradiction_InvalidForm sCContradiction
  have koContradiction_InvalidName : PySem.W.kitOne K (.ref (ctOf mg "Contradiction")) (.ref CInvalidName) = some false := by rw [eContradiction]; exact kitOne_own iCInvalidName tCInvalidName sXContradiction_InvalidName sCContradiction
  have koContradiction_InvalidNumber : PySem.W.kitOne K (.ref (ctOf mg "Contradiction")) (.ref CInvalidNumber) = some false := by rw [eContradiction]; exact kitOne_own iCInvalidNumber tCInvalidNumber sXContradiction_InvalidNumber sCContradiction
  have koContradiction_InvalidOutcome : PySem.W.kitOne K (.ref (ctOf mg "Contradiction")) (.ref CInvalidOutcome) = some false := by rw [eContradiction]; exact kitOne_own iCInvalidOutcome tCInvalidOutcome sXContradiction_InvalidOutcome sCContradiction
  have koContradiction_InvalidSymbol : PySem.W.kitOne K (.ref (ctOf mg "Contradiction")) (.ref CInvalidSymbol) = some false := by rw [eContradiction]; exact kitOne_own iCInvalidSymbol tCInvalidSymbol sXContradiction_InvalidSymbol sCContradiction
  have koContradiction_InvalidText : PySem.W.kitOne K (.ref (ctOf mg "Contradiction")) (.ref CInvalidText) = some false := by rw [eContradiction]; exact kitOne_own iCInvalidText tCInvalidText sXContradiction_InvalidText sCContradiction
  have koContradiction_InvalidTie : PySem.W.kitOne K (.ref (ctOf mg "Contradiction")) (.ref CInvalidTie) = some false := by rw [eContradiction]; exact kitOne_own iCInvalidTie tCInvalidTie sXContradiction_InvalidTie sCContradiction
  have koContradiction_Mismatch : PySem.W.kitOne K (.ref (ctOf mg "Contradiction")) (.ref CMismatch) = some false := by rw [eContradiction]; exact kitOne_own iCMismatch tCMismatch sXContradiction_Mismatch sCContradiction
  have koContradiction_PourError : PySem.W.kitOne K (.ref (ctOf mg "Contradiction")) (.ref CPourError) = some true := by rw [eContradiction]; exact kitOne_own iCPourError tCPourError sXContradiction_PourError sCContradiction
  have koContradiction_VE : PySem.W.kitOne K (.ref (ctOf mg "Contradiction")) (.type "ValueError") = some true := by rw [eContradiction]; exact kitOne_blt (by decide +kernel) sVContradiction
  have koDuplicateName_Contradiction : PySem.W.kitOne K (.ref (ctOf mg "DuplicateName")) (.ref CContradiction) = some false := by rw [eDuplicateName]; exact kitOne_own iCContradiction tCContradiction sXDuplicateName_Contradiction sCDuplicateName
  have koDuplicateName_DuplicateName : PySem.W.kitOne K (.ref (ctOf mg "DuplicateName")) (.ref CDuplicateName) = some true := by rw [eDuplicateName]; exact kitOne_own iCDuplicateName tCDuplicateName sCDuplicateName sCDuplicateName
  have koDuplicateName_InvalidAction : PySem.W.kitOne K (.ref (ctOf mg "DuplicateName")) (.ref CInvalidAction) = some false := by rw [eDuplicateName]; exact kitOne_own iCInvalidAction tCInvalidAction sXDuplicateName_InvalidAction sCDuplicateName
  have koDuplicateName_InvalidCapacity : PySem.W.kitOne K (.ref (ctOf mg "DuplicateName")) (.ref CInvalidCapacity) = some false := by rw [eDuplicateName]; exact kitOne_own iCInvalidCapacity tCInvalidCapacity sXDuplicateName_InvalidCapacity sCDuplicateName
  have koDuplicateName_InvalidForm : PySem.W.kitOne K (.ref (ctOf mg "DuplicateName")) (.ref CInvalidForm) = some false := by rw [eDuplicateName]; exact kitOne_own iCInvalidForm tCInvalidForm sXDuplicateName_InvalidForm sCDuplicateName
  have koDuplicateName_InvalidName : PySem.W.kitOne K (.ref (ctOf mg "DuplicateName")) (.ref CInvalidName) = some false := by rw [eDuplicateName]; exact kitOne_own iCInvalidName tCInvalidName sXDuplicateName_InvalidName sCDuplicateName
  have koDuplicateName_InvalidNumber : PySem.W.kitOne K (.ref (ctOf mg "DuplicateName")) (.ref CInvalidNumber) = some false := by rw [eDuplicateName]; exact kitOne_own iCInvalidNumber tCInvalidNumber sXDuplicateName_InvalidNumber sCDuplicateName
  have koDuplicateName_InvalidOutcome : PySem.W.kitOne K (.ref (ctOf mg "DuplicateName")) (.ref CInvalidOutcome) = some false := by rw [eDuplicateName]; exact kitOne_own iCInvalidOutcome tCInvalidOutcome sXDuplicateName_InvalidOutcome sCDuplicateName
  have koDuplicateName_InvalidSymbol : PySem.W.kitOne K (.ref (ctOf mg "DuplicateName")) (.ref CInvalidSymbol) = some false := by rw [eDuplicateName]; exact kitOne_own iCInvalidSymbol tCInvalidSymbol sXDuplicateName_InvalidSymbol sCDuplicateName
  have koDuplicateName_InvalidText : PySem.W.kitOne K (.ref (ctOf mg "DuplicateName")) (.ref CInvalidText) = some false := by rw [eDuplicateName]; exact kitOne_own iCInvalidText tCInvalidText sXDuplicateName_InvalidText sCDuplicateName
  have koDuplicateName_InvalidTie : PySem.W.kitOne K (.ref (ctOf mg "DuplicateName")) (.ref CInvalidTie) = some false := by rw [eDuplicateName]; exact kitOne_own iCInvalidTie tCInvalidTie sXDuplicateName_InvalidTie sCDuplicateName
  have koDuplicateName_Mismatch : PySem.W.kitOne K (.ref (ctOf mg "DuplicateName")) (.ref CMismatch) = some false := by rw [eDuplicateName]; exact kitOne_own iCMismatch tCMismatch sXDuplicateName_Mismatch sCDuplicateName
  have koDuplicateName_PourError : PySem.W.kitOne K (.ref (ctOf mg "DuplicateName")) (.ref CPourError) = some true := by rw [eDuplicateName]; exact kitOne_own iCPourError tCPourError sXDuplicateName_PourError sCDuplicateName
  have koDuplicateName_VE : PySem.W.kitOne K (.ref (ctOf mg "DuplicateName")) (.type "ValueError") = some true := by rw [eDuplicateName]; exact kitOne_blt (by decide +kernel) sVDuplicateName
  have koInvalidAction_Contradiction : PySem.W.kitOne K (.ref (ctOf mg "InvalidAction")) (.ref CContradiction) = some false := by rw [eInvalidAction]; exact kitOne_own iCContradiction tCContradiction sXInvalidAction_Contradiction sCInvalidAction
  have koInvalidAction_DuplicateName : PySem.W.kitOne K (.ref (ctOf mg "InvalidAction")) (.ref CDuplicateName) = some false := by rw [eInvalidAction]; exact kitOne_own iCDuplicateName tCDuplicateName sXInvalidAction_DuplicateName sCInvalidAction
  have koInvalidAction_InvalidAction : PySem.W.kitOne K (.ref (ctOf mg "InvalidAction")) (.ref CInvalidAction) = some true := by rw [eInvalidAction]; exact kitOne_own iCInvalidAction tCInvalidAction sCInvalidAction sCInvalidAction
  have koInvalidAction_InvalidCapacity : PySem.W.kitOne K (.ref (ctOf mg "InvalidAction")) (.ref CInvalidCapacity) = some false := by rw [eInvalidAction]; exact kitOne_own iCInvalidCapacity tCInvalidCapacity sXInvalidAction_InvalidCapacity sCInvalidAction
  have koInvalidAction_InvalidForm : PySem.W.kitOne K (.ref (ctOf mg "InvalidAction")) (.ref CInvalidForm) = some false := by rw [eInvalidAction]; exact kitOne_own iCInvalidForm tCInvalidForm sXInvalidAction_InvalidForm sCInvalidAction
  have koInvalidAction_InvalidName : PySem.W.kitOne K (.ref (ctOf mg "InvalidAction")) (.ref CInvalidName) = some false := by rw [eInvalidAction]; exact kitOne_own iCInvalidName tCInvalidName sXInvalidAction_InvalidName sCInvalidAction
  have koInvalidAction_InvalidNumber : PySem.W.kitOne K (.ref (ctOf mg "InvalidAction")) (.ref CInvalidNumber) = some false := by rw [eInvalidAction]; exact kitOne_own iCInvalidNumber tCInvalidNumber sXInvalidAction_InvalidNumber sCInvalidAction
  have koInvalidAction_InvalidOutcome : PySem.W.kitOne K (.ref (ctOf mg "InvalidAction")) (.ref CInvalidOutcome) = some false := by rw [eInvalidAction]; exact kitOne_own iCInvalidOutcome tCInvalidOutcome sXInvalidAction_InvalidOutcome sCInvalidAction
  have koInvalidAction_InvalidSymbol : PySem.W.kitOne K (.ref (ctOf mg "InvalidAction")) (.ref CInvalidSymbol) = some false := by rw [eInvalidAction]; exact kitOne_own iCInvalidSymbol tCInvalidSymbol sXInvalidAction_InvalidSymbol sCInvalidAction
  have koInvalidAction_InvalidText : PySem.W.kitOne K (.ref (ctOf mg "InvalidAction")) (.ref CInvalidText) = some false := by rw [eInvalidAction]; exact kitOne_own iCInvalidText tCInvalidText sXInvalidAction_InvalidText sCInvalidAction
  have koInvalidAction_InvalidTie : PySem.W.kitOne K (.ref (ctOf mg "InvalidAction")) (.ref CInvalidTie) = some false := by rw [eInvalidAction]; exact kitOne_own iCInvalidTie tCInvalidTie sXInvalidAction_InvalidTie sCInvalidAction
  have koInvalidAction_Mismatch : PySem.W.kitOne K (.ref (ctOf mg "InvalidAction")) (.ref CMismatch) = some false := by rw [eInvalidAction]; exact kitOne_own iCMismatch tCMismatch sXInvalidAction_Mismatch sCInvalidAction
  have koInvalidAction_PourError : PySem.W.kitOne K (.ref (ctOf mg "InvalidAction")) (.ref CPourError) = some true := by rw [eInvalidAction]; exact kitOne_own iCPourError tCPourError sXInvalidAction_PourError sCInvalidAction
  have koInvalidAction_VE : PySem.W.kitOne K (.ref (ctOf mg "InvalidAction")) (.type "ValueError") = some true := by rw [eInvalidAction]; exact kitOne_blt (by decide +kernel) sVInvalidAction
  have koInvalidCapacity_Contradiction : PySem.W.kitOne K (.ref (ctOf mg "InvalidCapacity")) (.ref CContradiction) = some false := by rw [eInvalidCapacity]; exact kitOne_own iCContradiction tCContradiction sXInvalidCapacity_Contradiction sCInvalidCapacity
  have koInvalidCapacity_DuplicateName : PySem.W.kitOne K (.ref (ctOf mg "InvalidCapacity")) (.ref CDuplicateName) = some false := by rw [eInvalidCapacity]; exact kitOne_own iCDuplicateName tCDuplicateName sXInvalidCapacity_DuplicateName sCInvalidCapacity
  have koInvalidCapacity_InvalidAction : PySem.W.kitOne K (.ref (ctOf mg "InvalidCapacity")) (.ref CInvalidAction) = some false := by rw [eInvalidCapacity]; exact kitOne_own iCInvalidAction tCInvalidAction sXInvalidCapacity_InvalidAction sCInvalidCapacity
  have koInvalidCapacity_InvalidCapacity : PySem.W.kitOne K (.ref (ctOf mg "InvalidCapacity")) (.ref CInvalidCapacity) = some true := by rw [eInvalidCapacity]; exact kitOne_own iCInvalidCapacity tCInvalidCapacity sCInvalidCapacity sCInvalidCapacity
  have koInvalidCapacity_InvalidForm : PySem.W.kitOne K (.ref (ctOf mg "InvalidCapacity")) (.ref CInvalidForm) = some false := by rw [eInvalidCapacity]; exact kitOne_own iCInvalidForm tCInvalidForm sXInvalidCapacity_InvalidForm sCInvalidCapacity
  have koInvalidCapacity_InvalidName : PySem.W.kitOne K (.ref (ctOf mg "InvalidCapacity")) (.ref CInvalidName) = some false := by rw [eInvalidCapacity]; exact kitOne_own iCInvalidName tCInvalidName sXInvalidCapacity_InvalidName sCInvalidCapacity
  have koInvalidCapacity_InvalidNumber : PySem.W.kitOne K (.ref (ctOf mg "InvalidCapacity")) (.ref CInvalidNumber) = some false := by rw [eInvalidCapacity]; exact kitOne_own iCInvalidNumber tCInvalidNumber sXInvalidCapacity_InvalidNumber sCInvalidCapacity
  have koInvalidCapacity_InvalidOutcome : PySem.W.kitOne K (.ref (ctOf mg "InvalidCapacity")) (.ref CInvalidOutcome) = some false := by rw [eInvalidCapacity]; exact kitOne_own iCInvalidOutcome tCInvalidOutcome sXInvalidCapacity_InvalidOutcome sCInvalidCapacity
  have koInvalidCapacity_InvalidSymbol : PySem.W.kitOne K (.ref (ctOf mg "InvalidCapacity")) (.ref CInvalidSymbol) = some false := by rw [eInvalidCapacity]; exact kitOne_own iCInvalidSymbol tCInvalidSymbol sXInvalidCapacity_InvalidSymbol sCInvalidCapacity
  have koInvalidCapacity_InvalidText : PySem.W.kitOne K (.ref (ctOf mg "InvalidCapacity")) (.ref CInvalidText) = some false := by rw [eInvalidCapacity]; exact kitOne_own iCInvalidText tCInvalidText sXInvalidCapacity_InvalidText sCInvalidCapacity
  have koInvalidCapacity_InvalidTie : PySem.W.kitOne K (.ref (ctOf mg "InvalidCapacity")) (.ref CInvalidTie) = some false := by rw [eInvalidCapacity]; exact kitOne_own iCInvalidTie tCInvalidTie sXInvalidCapacity_InvalidTie sCInvalidCapacity
  have koInvalidCapacity_Mismatch : PySem.W.kitOne K (.ref (ctOf mg "InvalidCapacity")) (.ref CMismatch) = some false := by rw [eInvalidCapacity]; exact kitOne_own iCMismatch tCMismatch sXInvalidCapacity_Mismatch sCInvalidCapacity
  have koInvalidCapacity_PourError : PySem.W.kitOne K (.ref (ctOf mg "InvalidCapacity")) (.ref CPourError) = some true := by rw [eInvalidCapacity]; exact kitOne_own iCPourError tCPourError sXInvalidCapacity_PourError sCInvalidCapacity
  have koInvalidCapacity_VE : PySem.W.kitOne K (.ref (ctOf mg "InvalidCapacity")) (.type "ValueError") = some true := by rw [eInvalidCapacity]; exact kitOne_blt (by decide +kernel) sVInvalidCapacity
  have koInvalidForm_Contradiction : PySem.W.kitOne K (.ref (ctOf mg "InvalidForm")) (.ref CContradiction) = some false := by rw [eInvalidForm]; exact kitOne_own iCContradiction tCContradiction sXInvalidForm_Contradiction sCInvalidForm
  have koInvalidForm_DuplicateName : PySem.W.kitOne K (.ref (ctOf mg "InvalidForm")) (.ref CDuplicateName) = some false := by rw [eInvalidForm]; exact kitOne_own iCDuplicateName tCDuplicateName sXInvalidForm_DuplicateName sCInvalidForm
  have koInvalidForm_InvalidAction : PySem.W.kitOne K (.ref (ctOf mg "InvalidForm")) (.ref CInvalidAction) = some false := by rw [eInvalidForm]; exact kitOne_own iCInvalidAction tCInvalidAction sXInvalidForm_InvalidAction sCInvalidForm
  have koInvalidForm_InvalidCapacity : PySem.W.kitOne K (.ref (ctOf mg "InvalidForm")) (.ref CInvalidCapacity) = some false := by rw [eInvalidForm]; exact kitOne_own iCInvalidCapacity tCInvalidCapacity sXInvalidForm_InvalidCapacity sCInvalidForm
  have koInvalidForm_InvalidForm : PySem.W.kitOne K (.ref (ctOf mg "InvalidForm")) (.ref CInvalidForm) = some true := by rw [eInvalidForm]; exact kitOne_own iCInvalidForm tCInvalidForm sCInvalidForm sCInvalidForm
  have koInvalidForm_InvalidName : PySem.W.kitOne K (.ref (ctOf mg "InvalidForm")) (.ref CInvalidName) = some false := by rw [eInvalidForm]; exact kitOne_own iCInvalidName tCInvalidName sXInvalidForm_InvalidName sCInvalidForm
  have koInvalidForm_InvalidNumber : PySem.W.kitOne K (.ref (ctOf mg "InvalidForm")) (.ref CInvalidNumber) = some false := by rw [eInvalidForm]; exact kitOne_own iCInvalidNumber tCInvalidNumber sXInvalidForm_InvalidNumber sCInvalidForm
  have koInvalidForm_InvalidOutcome : PySem.W.kitOne K (.ref (ctOf mg "InvalidForm")) (.ref CInvalidOutcome) = some false := by rw [eInvalidForm]; exact kitOne_own iCInvalidOutcome tCInvalidOutcome sXInvalidForm_InvalidOutcome sCInvalidForm
  have koInvalidForm_InvalidSymbol : PySem.W.kitOne K (.ref (ctOf mg "InvalidForm")) (.ref CInvalidSymbol) = some false := by rw [eInvalidForm]; exact kitOne_own iCInvalidSymbol tCInvalidSymbol sXInvalidForm_InvalidSymbol sCInvalidForm
  have koInvalidForm_InvalidText : PySem.W.kitOne K (.ref (ctOf mg "InvalidForm")) (.ref CInvalidText) = some false := by rw [eInvalidForm]; exact kitOne_own iCInvalidText tCInvalidText sXInvalidForm_InvalidText sCInvalidForm
  have koInvalidForm_InvalidTie : PySem.W.kitOne K (.ref (ctOf mg "InvalidForm")) (.ref CInvalidTie) = some false := by rw [eInvalidForm]; exact kitOne_own iCInvalidTie tCInvalidTie sXInvalidForm_InvalidTie sCInvalidForm
  have koInvalidForm_Mismatch : PySem.W.kitOne K (.ref (ctOf mg "InvalidForm")) (.ref CMismatch) = some false := by rw [eInvalidForm]; exact kitOne_own iCMismatch tCMismatch sXInvalidForm_Mismatch sCInvalidForm
  have koInvalidForm_PourError : PySem.W.kitOne K (.ref (ctOf mg "InvalidForm")) (.ref CPourError) = some true := by rw [eInvalidForm]; exact kitOne_own iCPourError tCPourError sXInvalidForm_PourError sCInvalidForm
  have koInvalidForm_VE : PySem.W.kitOne K (.ref (ctOf mg "InvalidForm")) (.type "ValueError") = some true := by rw [eInvalidForm]; exact kitOne_blt (by decide +kernel) sVInvalidForm
  have koInvalidName_Contradiction : PySem.W.kitOne K (.ref (ctOf mg "InvalidName")) (.ref CContradiction) = some false := by rw [eInvalidName]; exact kitOne_own iCContradiction tCContradiction sXInvalidName_Contradiction sCInvalidName
  have koInvalidName_DuplicateName : PySem.W.kitOne K (.ref (ctOf mg "InvalidName")) (.ref CDuplicateName) = some false := by rw [eInvalidName]; exact kitOne_own iCDuplicateName tCDuplicateName sXInvalidName_DuplicateName sCInvalidName
  have koInvalidName_InvalidAction : PySem.W.kitOne K (.ref (ctOf mg "InvalidName")) (.ref CInvalidAction) = some false := by rw [eInvalidName]; exact kitOne_own iCInvalidAction tCInvalidAction sXInvalidName_InvalidAction sCInvalidName
  have koInvalidName_InvalidCapacity : PySem.W.kitOne K (.ref (ctOf mg "InvalidName")) (.ref CInvalidCapacity) = some false := by rw [eInvalidName]; exact kitOne_own iCInvalidCapacity tCInvalidCapacity sXInvalidName_InvalidCapacity sCInvalidName
  have koInvalidName_InvalidForm : PySem.W.kitOne K (.ref (ctOf mg "InvalidName")) (.ref CInvalidForm) = some false := by rw [eInvalidName]; exact kitOne_own iCInvalidForm tCInvalidForm sXInvalidName_InvalidForm sCInvalidName
  have koInvalidName_InvalidName : PySem.W.kitOne K (.ref (ctOf mg "InvalidName")) (.ref CInvalidName) = some true := by rw [eInvalidName]; exact kitOne_own iCInvalidName tCInvalidName sCInvalidName sCInvalidName
  have koInvalidName_InvalidNumber : PySem.W.kitOne K (.ref (ctOf mg "InvalidName")) (.ref CInvalidNumber) = some false := by rw [eInvalidName]; exact kitOne_own iCInvalidNumber tCInvalidNumber sXInvalidName_InvalidNumber sCInvalidName
  have koInvalidName_InvalidOutcome : PySem.W.kitOne K (.ref (ctOf mg "InvalidName")) (.ref CInvalidOutcome) = some false := by rw [eInvalidName]; exact kitOne_own iCInvalidOutcome tCInvalidOutcome sXInvalidName_InvalidOutcome sCInvalidName
  have koInvalidName_InvalidSymbol : PySem.W.kitOne K (.ref (ctOf mg "InvalidName")) (.ref CInvalidSymbol) = some false := by rw [eInvalidName]; exact kitOne_own iCInvalidSymbol tCInvalidSymbol sXInvalidName_InvalidSymbol sCInvalidName
  have koInvalidName_InvalidText : PySem.W.kitOne K (.ref (ctOf mg "InvalidName")) (.ref CInvalidText) = some false := by rw [eInvalidName]; exact kitOne_own iCInvalidText tCInvalidText sXInvalidName_InvalidText sCInvalidName
  have koInvalidName_InvalidTie : PySem.W.kitOne K (.ref (ctOf mg "InvalidName")) (.ref CInvalidTie) = some false := by rw [eInvalidName]; exact kitOne_own iCInvalidTie tCInvalidTie sXInvalidName_InvalidTie sCInvalidName
  have koInvalidName_Mismatch : PySem.W.kitOne K (.ref (ctOf mg "InvalidName")) (.ref CMismatch) = some false := by rw [eInvalidName]; exact kitOne_own iCMismatch tCMismatch sXInvalidName_Mismatch sCInvalidName
  have koInvalidName_PourError : PySem.W.kitOne K (.ref (ctOf mg "InvalidName")) (.ref CPourError) = some true := by rw [eInvalidName]; exact kitOne_own iCPourError tCPourError sXInvalidName_PourError sCInvalidName
  have koInvalidName_VE : PySem.W.kitOne K (.ref (ctOf mg "InvalidName")) (.type "ValueError") = some true := by rw [eInvalidName]; exact kitOne_blt (by decide +kernel) sVInvalidName
  have koInvalidNumber_Contradiction : PySem.W.kitOne K (.ref (ctOf mg "InvalidNumber")) (.ref CContradiction) = some false := by rw [eInvalidNumber]; exact kitOne_own iCContradiction tCContradiction sXInvalidNumber_Contradiction sCInvalidNumber
  have koInvalidNumber_DuplicateName : PySem.W.kitOne K (.ref (ctOf mg "InvalidNumber")) (.ref CDuplicateName) = some false := by rw [eInvalidNumber]; exact kitOne_own iCDuplicateName tCDuplicateName sXInvalidNumber_DuplicateName sCInvalidNumber
  have koInvalidNumber_InvalidAction : PySem.W.kitOne K (.ref (ctOf mg "InvalidNumber")) (.ref CInvalidAction) = some false := by rw [eInvalidNumber]; exact kitOne_own iCInvalidAction tCInvalidAction sXInvalidNumber_InvalidAction sCInvalidNumber
  have koInvalidNumber_InvalidCapacity : PySem.W.kitOne K (.ref (ctOf mg "InvalidNumber")) (.ref CInvalidCapacity) = some false := by rw [eInvalidNumber]; exact kitOne_own iCInvalidCapacity tCInvalidCapacity sXInvalidNumber_InvalidCapacity sCInvalidNumber
  have koInvalidNumber_InvalidForm : PySem.W.kitOne K (.ref (ctOf mg "InvalidNumber")) (.ref CInvalidForm) = some false := by rw [eInvalidNumber]; exact kitOne_own iCInvalidForm tCInvalidForm sXInvalidNumber_InvalidForm sCInvalidNumber
  have koInvalidNumber_InvalidName : PySem.W.kitOne K (.ref (ctOf mg "InvalidNumber")) (.ref CInvalidName) = some false := by rw [eInvalidNumber]; exact kitOne_own iCInvalidName tCInvalidName sXInvalidNumber_InvalidName sCInvalidNumber
  have koInvalidNumber_InvalidNumber : PySem.W.kitOne K (.ref (ctOf mg "InvalidNumber")) (.ref CInvalidNumber) = some true := by rw [eInvalidNumber]; exact kitOne_own iCInvalidNumber tCInvalidNumber sCInvalidNumber sCInvalidNumber
  have koInvalidNumber_InvalidOutcome : PySem.W.kitOne K (.ref (ctOf mg "InvalidNumber")) (.ref CInvalidOutcome) = some false := by rw [eInvalidNumber]; exact kitOne_own iCInvalidOutcome tCInvalidOutcome sXInvalidNumber_InvalidOutcome sCInvalidNumber
  have koInvalidNumber_InvalidSymbol : PySem.W.kitOne K (.ref (ctOf mg "InvalidNumber")) (.ref CInvalidSymbol) = some false := by rw [eInvalidNumber]; exact kitOne_own iCInvalidSymbol tCInvalidSymbol sXInvalidNumber_InvalidSymbol sCInvalidNumber
  have koInvalidNumber_InvalidText : PySem.W.kitOne K (.ref (ctOf mg "InvalidNumber")) (.ref CInvalidText) = some false := by rw [eInvalidNumber]; exact kitOne_own iCInvalidText tCInvalidText sXInvalidNumber_InvalidText sCInvalidNumber
  have koInvalidNumber_InvalidTie : PySem.W.kitOne K (.ref (ctOf mg "InvalidNumber")) (.ref CInvalidTie) = some false := by rw [eInvalidNumber]; exact kitOne_own iCInvalidTie tCInvalidTie sXInvalidNumber_InvalidTie sCInvalidNumber
  have koInvalidNumber_Mismatch : PySem.W.kitOne K (.ref (ctOf mg "InvalidNumber")) (.ref CMismatch) = some false := by rw [eInvalidNumber]; exact kitOne_own iCMismatch tCMismatch sXInvalidNumber_Mismatch sCInvalidNumber
  have koInvalidNumber_PourError : PySem.W.kitOne K (.ref (ctOf mg "InvalidNumber")) (.ref CPourError) = some true := by rw [eInvalidNumber]; exact kitOne_own iCPourError tCPourError sXInvalidNumber_PourError sCInvalidNumber
  have koInvalidNumber_VE : PySem.W.kitOne K (.ref (ctOf mg "InvalidNumber")) (.type "ValueError") = some true := by rw [eInvalidNumber]; exact kitOne_blt (by decide +kernel) sVInvalidNumber
  have koInvalidOutcome_Contradiction : PySem.W.kitOne K (.ref (ctOf mg "InvalidOutcome")) (.ref CContradiction) = some false := by rw [eInvalidOutcome]; exact kitOne_own iCContradiction tCContradiction sXInvalidOutcome_Contradiction sCInvalidOutcome
  have koInvalidOutcome_DuplicateName : PySem.W.kitOne K (.ref (ctOf mg "InvalidOutcome")) (.ref CDuplicateName) = some false := by rw [eInvalidOutcome]; exact kitOne_own iCDuplicateName tCDuplicateName sXInvalidOutcome_DuplicateName sCInvalidOutcome
  have koInvalidOutcome_InvalidAction : PySem.W.kitOne K (.ref (ctOf mg "InvalidOutcome")) (.ref CInvalidAction) = some false := by rw [eInvalidOutcome]; exact kitOne_own iCInvalidAction tCInvalidAction sXInvalidOutcome_InvalidAction sCInvalidOutcome
  have koInvalidOutcome_InvalidCapacity : PySem.W.kitOne K (.ref (ctOf mg "InvalidOutcome")) (.ref CInvalidCapacity) = some false := by rw [eInvalidOutcome]; exact kitOne_own iCInvalidCapacity tCInvalidCapacity sXInvalidOutcome_InvalidCapacity sCInvalidOutcome
  have koInvalidOutcome_InvalidForm : PySem.W.kitOne K (.ref (ctOf mg "InvalidOutcome")) (.ref CInvalidForm) = some false := by rw [eInvalidOutcome]; exact kitOne_own iCInvalidForm tCInvalidForm sXInvalidOutcome_InvalidForm sCInvalidOutcome
  have koInvalidOutcome_InvalidName : PySem.W.kitOne K (.ref (ctOf mg "InvalidOutcome")) (.ref CInvalidName) = some false := by rw [eInvalidOutcome]; exact kitOne_own iCInvalidName tCInvalidName sXInvalidOutcome_InvalidName sCInvalidOutcome
  have koInvalidOutcome_InvalidNumber : PySem.W.kitOne K (.ref (ctOf mg "InvalidOutcome")) (.ref CInvalidNumber) = some false := by rw [eInvalidOutcome]; exact kitOne_own iCInvalidNumber tCInvalidNumber sXInvalidOutcome_InvalidNumber sCInvalidOutcome
  have koInvalidOutcome_InvalidOutcome : PySem.W.kitOne K (.ref (ctOf mg "InvalidOutcome")) (.ref CInvalidOutcome) = some true := by rw [eInvalidOutcome]; exact kitOne_own iCInvalidOutcome tCInvalidOutcome sCInvalidOutcome sCInvalidOutcome
  have koInvalidOutcome_InvalidSymbol : PySem.W.kitOne K (.ref (ctOf mg "InvalidOutcome")) (.ref CInvalidSymbol) = some false := by rw [eInvalidOutcome]; exact kitOne_own iCInvalidSymbol tCInvalidSymbol sXInvalidOutcome_InvalidSymbol sCInvalidOutcome
  have koInvalidOutcome_InvalidText : PySem.W.kitOne K (.ref (ctOf mg "InvalidOutcome")) (.ref CInvalidText) = some false := by rw [eInvalidOutcome]; exact kitOne_own iCInvalidText tCInvalidText sXInvalidOutcome_InvalidText sCInvalidOutcome
  have koInvalidOutcome_InvalidTie : PySem.W.kitOne K (.ref (ctOf mg "InvalidOutcome")) (.ref CInvalidTie) = some false := by rw [eInvalidOutcome]; exact kitOne_own iCInvalidTie tCInvalidTie sXInvalidOutcome_InvalidTie sCInvalidOutcome
  have koInvalidOutcome_Mismatch : PySem.W.kitOne K (.ref (ctOf mg "InvalidOutcome")) (.ref CMismatch) = some false := by rw [eInvalidOutcome]; exact kitOne_own iCMismatch tCMismatch sXInvalidOutcome_Mismatch sCInvalidOutcome
  have koInvalidOutcome_PourError : PySem.W.kitOne K (.ref (ctOf mg "InvalidOutcome")) (.ref CPourError) = some true := by rw [eInvalidOutcome]; exact kitOne_own iCPourError tCPourError sXInvalidOutcome_PourError sCInvalidOutcome
  have koInvalidOutcome_VE : PySem.W.kitOne K (.ref (ctOf mg "InvalidOutcome")) (.type "ValueError") = some true := by rw [eInvalidOutcome]; exact kitOne_blt (by decide +kernel) sVInvalidOutcome
  have koInvalidSymbol_Contradiction : PySem.W.kitOne K (.ref (ctOf mg "InvalidSymbol")) (.ref CContradiction) = some false := by rw [eInvalidSymbol]; exact kitOne_own iCContradiction tCContradiction sXInvalidSymbol_Contradiction sCInvalidSymbol
  have koInvalidSymbol_DuplicateName : PySem.W.kitOne K (.ref (ctOf mg "InvalidSymbol")) (.ref CDuplicateName) = some false := by rw [eInvalidSymbol]; exact kitOne_own iCDuplicateName tCDuplicateName sXInvalidSymbol_DuplicateName sCInvalidSymbol
  have koInvalidSymbol_InvalidAction : PySem.W.kitOne K (.ref (ctOf mg "InvalidSymbol")) (.ref CInvalidAction) = some false := by rw [eInvalidSymbol]; exact kitOne_own iCInvalidAction tCInvalidAction sXInvalidSymbol_InvalidAction sCInvalidSymbol
  have koInvalidSymbol_InvalidCapacity : PySem.W.kitOne K (.ref (ctOf mg "InvalidSymbol")) (.ref CInvalidCapacity) = some false := by rw [eInvalidSymbol]; exact kitOne_own iCInvalidCapacity tCInvalidCapacity sXInvalidSymbol_InvalidCapacity sCInvalidSymbol
  have koInvalidSymbol_InvalidForm : PySem.W.kitOne K (.ref (ctOf mg "InvalidSymbol")) (.ref CInvalidForm) = some false := by rw [eInvalidSymbol]; exact kitOne_own iCInvalidForm tCInvalidForm sXInvalidSymbol_InvalidForm sCInvalidSymbol
  have koInvalidSymbol_InvalidName : PySem.W.kitOne K (.ref (ctOf mg "InvalidSymbol")) (.ref CInvalidName) = some false := by rw [eInvalidSymbol]; exact kitOne_own iCInvalidName tCInvalidName sXInvalidSymbol_InvalidName sCInvalidSymbol
  have koInvalidSymbol_InvalidNumber : PySem.W.kitOne K (.ref (ctOf mg "InvalidSymbol")) (.ref CInvalidNumber) = some false := by rw [eInvalidSymbol]; exact kitOne_own iCInvalidNumber tCInvalidNumber sXInvalidSymbol_InvalidNumber sCInvalidSymbol
  have koInvalidSymbol_InvalidOutcome : PySem.W.kitOne K (.ref (ctOf mg "InvalidSymbol")) (.ref CInvalidOutcome) = some false := by rw [eInvalidSymbol]; exact kitOne_own iCInvalidOutcome tCInvalidOutcome sXInvalidSymbol_InvalidOutcome sCInvalidSymbol
  have koInvalidSymbol_InvalidSymbol : PySem.W.kitOne K (.ref (ctOf mg "InvalidSymbol")) (.ref CInvalidSymbol) = some true := by rw [eInvalidSymbol]; exact kitOne_own iCInvalidSymbol tCInvalidSymbol sCInvalidSymbol sCInvalidSymbol
  have koInvalidSymbol_InvalidText : PySem.W.kitOne K (.ref (ctOf mg "InvalidSymbol")) (.ref CInvalidText) = some false := by rw [eInvalidSymbol]; exact kitOne_own iCInvalidText tCInvalidText sXInvalidSymbol_InvalidText sCInvalidSymbol
  have koInvalidSymbol_InvalidTie : PySem.W.kitOne K (.ref (ctOf mg "InvalidSymbol")) (.ref CInvalidTie) = some false := by rw [eInvalidSymbol]; exact kitOne_own iCInvalidTie tCInvalidTie sXInvalidSymbol_InvalidTie sCInvalidSymbol
  have koInvalidSymbol_Mismatch : PySem.W.kitOne K (.ref (ctOf mg "InvalidSymbol")) (.ref CMismatch) = some false := by rw [eInvalidSymbol]; exact kitOne_own iCMismatch tCMismatch sXInvalidSymbol_Mismatch sCInvalidSymbol
  have koInvalidSymbol_PourError : PySem.W.kitOne K (.ref (ctOf mg "InvalidSymbol")) (.ref CPourError) = some true := by rw [eInvalidSymbol]; exact kitOne_own iCPourError tCPourError sXInvalidSymbol_PourError sCInvalidSymbol
  have koInvalidSymbol_VE : PySem.W.kitOne K (.ref (ctOf mg "InvalidSymbol")) (.type "ValueError") = some true := by rw [eInvalidSymbol]; exact kitOne_blt (by decide +kernel) sVInvalidSymbol
  have koInvalidText_Contradiction : PySem.W.kitOne K (.ref (ctOf mg "InvalidText")) (.ref CContradiction) = some false := by rw [eInvalidText]; exact kitOne_own iCContradiction tCContradiction sXInvalidText_Contradiction sCInvalidText
  have koInvalidText_DuplicateName : PySem.W.kitOne K (.ref (ctOf mg "InvalidText")) (.ref CDuplicateName) = some false := by rw [eInvalidText]; exact kitOne_own iCDuplicateName tCDuplicateName sXInvalidText_DuplicateName sCInvalidText
  have koInvalidText_InvalidAction : PySem.W.kitOne K (.ref (ctOf mg "InvalidText")) (.ref CInvalidAction) = some false := by rw [eInvalidText]; exact kitOne_own iCInvalidAction tCInvalidAction sXInvalidText_InvalidAction sCInvalidText
  have koInvalidText_InvalidCapacity : PySem.W.kitOne K (.ref (ctOf mg "InvalidText")) (.ref CInvalidCapacity) = some false := by rw [eInvalidText]; exact kitOne_own iCInvalidCapacity tCInvalidCapacity sXInvalidText_InvalidCapacity sCInvalidText
  have koInvalidText_InvalidForm : PySem.W.kitOne K (.ref (ctOf mg "InvalidText")) (.ref CInvalidForm) = some false := by rw [eInvalidText]; exact kitOne_own iCInvalidForm tCInvalidForm sXInvalidText_InvalidForm sCInvalidText
  have koInvalidText_InvalidName : PySem.W.kitOne K (.ref (ctOf mg "InvalidText")) (.ref CInvalidName) = some false := by rw [eInvalidText]; exact kitOne_own iCInvalidName tCInvalidName sXInvalidText_InvalidName sCInvalidText
  have koInvalidText_InvalidNumber : PySem.W.kitOne K (.ref (ctOf mg "InvalidText")) (.ref CInvalidNumber) = some false := by rw [eInvalidText]; exact kitOne_own iCInvalidNumber tCInvalidNumber sXInvalidText_InvalidNumber sCInvalidText
  have koInvalidText_InvalidOutcome : PySem.W.kitOne K (.ref (ctOf mg "InvalidText")) (.ref CInvalidOutcome) = some false := by rw [eInvalidText]; exact kitOne_own iCInvalidOutcome tCInvalidOutcome sXInvalidText_InvalidOutcome sCInvalidText
  have koInvalidText_InvalidSymbol : PySem.W.kitOne K (.ref (ctOf mg "InvalidText")) (.ref CInvalidSymbol) = some false := by rw [eInvalidText]; exact kitOne_own iCInvalidSymbol tCInvalidSymbol sXInvalidText_InvalidSymbol sCInvalidText
  have koInvalidText_InvalidText : PySem.W.kitOne K (.ref (ctOf mg "InvalidText")) (.ref CInvalidText) = some true := by rw [eInvalidText]; exact kitOne_own iCInvalidText tCInvalidText sCInvalidText sCInvalidText
  have koInvalidText_InvalidTie : PySem.W.kitOne K (.ref (ctOf mg "InvalidText")) (.ref CInvalidTie) = some false := by rw [eInvalidText]; exact kitOne_own iCInvalidTie tCInvalidTie sXInvalidText_InvalidTie sCInvalidText
  have koInvalidText_Mismatch : PySem.W.kitOne K (.ref (ctOf mg "InvalidText")) (.ref CMismatch) = some false := by rw [eInvalidText]; exact kitOne_own iCMismatch tCMismatch sXInvalidText_Mismatch sCInvalidText
  have koInvalidText_PourError : PySem.W.kitOne K (.ref (ctOf mg "InvalidText")) (.ref CPourError) = some true := by rw [eInvalidText]; exact kitOne_own iCPourError tCPourError sXInvalidText_PourError sCInvalidText
  have koInvalidText_VE : PySem.W.kitOne K (.ref (ctOf mg "InvalidText")) (.type "ValueError") = some true := by rw [eInvalidText]; exact kitOne_blt (by decide +kernel) sVInvalidText
  have koInvalidTie_Contradiction : PySem.W.kitOne K (.ref (ctOf mg "InvalidTie")) (.ref CContradiction) = some false := by rw [eInvalidTie]; exact kitOne_own iCContradiction tCContradiction sXInvalidTie_Contradiction sCInvalidTie
  have koInvalidTie_DuplicateName : PySem.W.kitOne K (.ref (ctOf mg "InvalidTie")) (.ref CDuplicateName) = some false := by rw [eInvalidTie]; exact kitOne_own iCDuplicateName tCDuplicateName sXInvalidTie_DuplicateName sCInvalidTie
  have koInvalidTie_InvalidAction : PySem.W.kitOne K (.ref (ctOf mg "InvalidTie")) (.ref CInvalidAction) = some false := by rw [eInvalidTie]; exact kitOne_own iCInvalidAction tCInvalidAction sXInvalidTie_InvalidAction sCInvalidTie
  have koInvalidTie_InvalidCapacity : PySem.W.kitOne K (.ref (ctOf mg "InvalidTie")) (.ref CInvalidCapacity) = some false := by rw [eInvalidTie]; exact kitOne_own iCInvalidCapacity tCInvalidCapacity sXInvalidTie_InvalidCapacity sCInvalidTie
  have koInvalidTie_InvalidForm : PySem.W.kitOne K (.ref (ctOf mg "InvalidTie")) (.ref CInvalidForm) = some false := by rw [eInvalidTie]; exact kitOne_own iCInvalidForm tCInvalidForm sXInvalidTie_InvalidForm sCInvalidTie
  have koInvalidTie_InvalidName : PySem.W.kitOne K (.ref (ctOf mg "InvalidTie")) (.ref CInvalidName) = some false := by rw [eInvalidTie]; exact kitOne_own iCInvalidName tCInvalidName sXInvalidTie_InvalidName sCInvalidTie
  have koInvalidTie_InvalidNumber : PySem.W.kitOne K (.ref (ctOf mg "InvalidTie")) (.ref CInvalidNumber) = some false := by rw [eInvalidTie]; exact kitOne_own iCInvalidNumber tCInvalidNumber sXInvalidTie_InvalidNumber sCInvalidTie
  have koInvalidTie_InvalidOutcome : PySem.W.kitOne K (.ref (ctOf mg "InvalidTie")) (.ref CInvalidOutcome) = some false := by rw [eInvalidTie]; exact kitOne_own iCInvalidOutcome tCInvalidOutcome sXInvalidTie_InvalidOutcome sCInvalidTie
  have koInvalidTie_InvalidSymbol : PySem.W.kitOne K (.ref (ctOf mg "InvalidTie")) (.ref CInvalidSymbol) = some false := by rw [eInvalidTie]; exact kitOne_own iCInvalidSymbol tCInvalidSymbol sXInvalidTie_InvalidSymbol sCInvalidTie
  have koInvalidTie_InvalidText : PySem.W.kitOne K (.ref (ctOf mg "InvalidTie")) (.ref CInvalidText) = some false := by rw [eInvalidTie]; exact kitOne_own iCInvalidText tCInvalidText sXInvalidTie_InvalidText sCInvalidTie
  have koInvalidTie_InvalidTie : PySem.W.kitOne K (.ref (ctOf mg "InvalidTie")) (.ref CInvalidTie) = some true := by rw [eInvalidTie]; exact kitOne_own iCInvalidTie tCInvalidTie sCInvalidTie sCInvalidTie
  have koInvalidTie_Mismatch : PySem.W.kitOne K (.ref (ctOf mg "InvalidTie")) (.ref CMismatch) = some false := by rw [eInvalidTie]; exact kitOne_own iCMismatch tCMismatch sXInvalidTie_Mismatch sCInvalidTie
  have koInvalidTie_PourError : PySem.W.kitOne K (.ref (ctOf mg "InvalidTie")) (.ref CPourError) = some true := by rw [eInvalidTie]; exact kitOne_own iCPourError tCPourError sXInvalidTie_PourError sCInvalidTie
  have koInvalidTie_VE : PySem.W.kitOne K (.ref (ctOf mg "InvalidTie")) (.type "ValueError") = some true := by rw [eInvalidTie]; exact kitOne_blt (by decide +kernel) sVInvalidTie
  have koMismatch_Contradiction : PySem.W.kitOne K (.ref (ctOf mg "Mismatch")) (.ref CContradiction) = some false := by rw [eMismatch]; exact kitOne_own iCContradiction tCContradiction sXMismatch_Contradiction sCMismatch
  have koMismatch_DuplicateName : PySem.W.kitOne K (.ref (ctOf mg "Mismatch")) (.ref CDuplicateName) = some false := by rw [eMismatch]; exact kitOne_own iCDuplicateName tCDuplicateName sXMismatch_DuplicateName sCMismatch
  have koMismatch_InvalidAction : PySem.W.kitOne K (.ref (ctOf mg "Mismatch")) (.ref CInvalidAction) = some false := by rw [eMismatch]; exact kitOne_own iCInvalidAction tCInvalidAction sXMismatch_InvalidAction sCMismatch
  have koMismatch_InvalidCapacity : PySem.W.kitOne K (.ref (ctOf mg "Mismatch")) (.ref CInvalidCapacity) = some false := by rw [eMismatch]; exact kitOne_own iCInvalidCapacity tCInvalidCapacity sXMismatch_InvalidCapacity sCMismatch
  have koMismatch_InvalidForm : PySem.W.kitOne K (.ref (ctOf mg "Mismatch")) (.ref CInvalidForm) = some false := by rw [eMismatch]; exact kitOne_own iCInvalidForm tCInvalidForm sXMismatch_InvalidForm sCMismatch
  have koMismatch_InvalidName : PySem.W.kitOne K (.ref (ctOf mg "Mismatch")) (.ref CInvalidName) = some false := by rw [eMismatch]; exact kitOne_own iCInvalidName tCInvalidName sXMismatch_InvalidName sCMismatch
  have koMismatch_InvalidNumber : PySem.W.kitOne K (.ref (ctOf mg "Mismatch")) (.ref CInvalidNumber) = some false := by rw [eMismatch]; exact kitOne_own iCInvalidNumber tCInvalidNumber sXMismatch_InvalidNumber sCMismatch
  have koMismatch_InvalidOutcome : PySem.W.kitOne K (.ref (ctOf mg "Mismatch")) (.ref CInvalidOutcome) = some false := by rw [eMismatch]; exact kitOne_own iCInvalidOutcome tCInvalidOutcome sXMismatch_InvalidOutcome sCMismatch
  have koMismatch_InvalidSymbol : PySem.W.kitOne K (.ref (ctOf mg "Mismatch")) (.ref CInvalidSymbol) = some false := by rw [eMismatch]; exact kitOne_own iCInvalidSymbol tCInvalidSymbol sXMismatch_InvalidSymbol sCMismatch
  have koMismatch_InvalidText : PySem.W.kitOne K (.ref (ctOf mg "Mismatch")) (.ref CInvalidText) = some false := by rw [eMismatch]; exact kitOne_own iCInvalidText tCInvalidText sXMismatch_InvalidText sCMismatch
  have koMismatch_InvalidTie : PySem.W.kitOne K (.ref (ctOf mg "Mismatch")) (.ref CInvalidTie) = some false := by rw [eMismatch]; exact kitOne_own iCInvalidTie tCInvalidTie sXMismatch_InvalidTie sCMismatch
  have koMismatch_Mismatch : PySem.W.kitOne K (.ref (ctOf mg "Mismatch")) (.ref CMismatch) = some true := by rw [eMismatch]; exact kitOne_own iCMismatch tCMismatch sCMismatch sCMismatch
  have koMismatch_PourError : PySem.W.kitOne K (.ref (ctOf mg "Mismatch")) (.ref CPourError) = some true := by rw [eMismatch]; exact kitOne_own iCPourError tCPourError sXMismatch_PourError sCMismatch
  have koMismatch_VE : PySem.W.kitOne K (.ref (ctOf mg "Mismatch")) (.type "ValueError") = some true := by rw [eMismatch]; exact kitOne_blt (by decide +kernel) sVMismatch
  have koPourError_Contradiction : PySem.W.kitOne K (.ref (ctOf mg "PourError")) (.ref CContradiction) = some false := by rw [ePourError]; exact kitOne_own iCContradiction tCContradiction sXPourError_Contradiction sCPourError
  have koPourError_DuplicateName : PySem.W.kitOne K (.ref (ctOf mg "PourError")) (.ref CDuplicateName) = some false := by rw [ePourError]; exact kitOne_own iCDuplicateName tCDuplicateName sXPourError_DuplicateName sCPourError
  have koPourError_InvalidAction : PySem.W.kitOne K (.ref (ctOf mg "PourError")) (.ref CInvalidAction) = some false := by rw [ePourError]; exact kitOne_own iCInvalidAction tCInvalidAction sXPourError_InvalidAction sCPourError
  have koPourError_InvalidCapacity : PySem.W.kitOne K (.ref (ctOf mg "PourError")) (.ref CInvalidCapacity) = some false := by rw [ePourError]; exact kitOne_own iCInvalidCapacity tCInvalidCapacity sXPourError_InvalidCapacity sCPourError
  have koPourError_InvalidForm : PySem.W.kitOne K (.ref (ctOf mg "PourError")) (.ref CInvalidForm) = some false := by rw [ePourError]; exact kitOne_own iCInvalidForm tCInvalidForm sXPourError_InvalidForm sCPourError
  have koPourError_InvalidName : PySem.W.kitOne K (.ref (ctOf mg "PourError")) (.ref CInvalidName) = some false := by rw [ePourError]; exact kitOne_own iCInvalidName tCInvalidName sXPourError_InvalidName sCPourError
  have koPourError_InvalidNumber : PySem.W.kitOne K (.ref (ctOf mg "PourError")) (.ref CInvalidNumber) = some false := by rw [ePourError]; exact kitOne_own iCInvalidNumber tCInvalidNumber sXPourError_InvalidNumber sCPourError
  have koPourError_InvalidOutcome : PySem.W.kitOne K (.ref (ctOf mg "PourError")) (.ref CInvalidOutcome) = some false := by rw [ePourError]; exact kitOne_own iCInvalidOutcome tCInvalidOutcome sXPourError_InvalidOutcome sCPourError
  have koPourError_InvalidSymbol : PySem.W.kitOne K (.ref (ctOf mg "PourError")) (.ref CInvalidSymbol) = some false := by rw [ePourError]; exact kitOne_own iCInvalidSymbol tCInvalidSymbol sXPourError_InvalidSymbol sCPourError
  have koPourError_InvalidText : PySem.W.kitOne K (.ref (ctOf mg "PourError")) (.ref CInvalidText) = some false := by rw [ePourError]; exact kitOne_own iCInvalidText tCInvalidText sXPourError_InvalidText sCPourError
  have koPourError_InvalidTie : PySem.W.kitOne K (.ref (ctOf mg "PourError")) (.ref CInvalidTie) = some false := by rw [ePourError]; exact kitOne_own iCInvalidTie tCInvalidTie sXPourError_InvalidTie sCPourError
  have koPourError_Mismatch : PySem.W.kitOne K (.ref (ctOf mg "PourError")) (.ref CMismatch) = some false := by rw [ePourError]; exact kitOne_own iCMismatch tCMismatch sXPourError_Mismatch sCPourError
  have koPourError_PourError : PySem.W.kitOne K (.ref (ctOf mg "PourError")) (.ref CPourError) = some true := by rw [ePourError]; exact kitOne_own iCPourError tCPourError sCPourError sCPourError
  have koPourError_VE : PySem.W.kitOne K (.ref (ctOf mg "PourError")) (.type "ValueError") = some true := by rw [ePourError]; exact kitOne_blt (by decide +kernel) sVPourError
  have u__law_kinds_0 : XkH K mg (ctOf mg) "InvalidCapacity" [("Contradiction", false), ("DuplicateName", false), ("InvalidAction", false), ("InvalidCapacity", true), ("InvalidForm", false), ("InvalidName", false), ("InvalidNumber", false), ("InvalidOutcome", false), ("InvalidSymbol", false), ("InvalidText", false), ("InvalidTie", false), ("Mismatch", false), ("PourError", false)] := ⟨⟨_, gEInvalidCapacity, xkT_mk (fun p hp => by simp only [List.mem_cons, List.not_mem_nil, or_false] at hp; rcases hp with rfl | rfl | rfl | rfl | rfl | rfl | rfl | rfl | rfl | rfl | rfl | rfl | rfl <;> first | exact ⟨xkContradiction, kitAny_of1 koContradiction_InvalidCapacity⟩ | exact ⟨xkDuplicateName, kitAny_of1 koDuplicateName_InvalidCapacity⟩ | exact ⟨xkInvalidAction, kitAny_of1 koInvalidAction_InvalidCapacity⟩ | exact ⟨xkInvalidCapacity, kitAny_of1 koInvalidCapacity_InvalidCapacity⟩ | exact ⟨xkInvalidForm, kitAny_of1 koInvalidForm_InvalidCapacity⟩ | exact ⟨xkInvalidName, kitAny_of1 koInvalidName_InvalidCapacity⟩ | exact ⟨xkInvalidNumber, kitAny_of1 koInvalidNumber_InvalidCapacity⟩ | exact ⟨xkInvalidOutcome, kitAny_of1 koInvalidOutcome_InvalidCapacity⟩ | exact ⟨xkInvalidSymbol, kitAny_of1 koInvalidSymbol_InvalidCapacity⟩ | exact ⟨xkInvalidText, kitAny_of1 koInvalidText_InvalidCapacity⟩ | exact ⟨xkInvalidTie, kitAny_of1 koInvalidTie_InvalidCapacity⟩ | exact ⟨xkMismatch, kitAny_of1 koMismatch_InvalidCapacity⟩ | exact ⟨xkPourError, kitAny_of1 koPourError_InvalidCapacity⟩)⟩⟩
  have u__law_kinds_1 : XkH K mg (ctOf mg) "DuplicateName" [("Contradiction", false), ("DuplicateName", true), ("InvalidAction", false), ("InvalidCapacity", false), ("InvalidForm", false), ("InvalidName", false), ("InvalidNumber", false), ("InvalidOutcome", false), ("InvalidSymbol", false), ("InvalidText", false), ("InvalidTie", false), ("Mismatch", false), ("PourError", false)] := ⟨⟨_, gEDuplicateName, xkT_mk (fun p hp => by simp only [List.mem_cons, List.not_mem_nil, or_false] at hp; rcases hp with rfl | rfl | rfl | rfl | rfl | rfl | rfl | rfl | rfl | rfl | rfl | rfl | rfl <;> first | exact ⟨xkContradiction, kitAny_of1 koContradiction_DuplicateName⟩ | exact ⟨xkDuplicateName, kitAny_of1 koDuplicateName_DuplicateName⟩ | exact ⟨xkInvalidAction, kitAny_of1 koInvalidAction_DuplicateName⟩ | exact ⟨xkInvalidCapacity, kitAny_of1 koInvalidCapacity_DuplicateName⟩ | exact ⟨xkInvalidForm, kitAny_of1 koInvalidForm_DuplicateName⟩ | exact ⟨xkInvalidName, kitAny_of1 koInvalidName_DuplicateName⟩ | exact ⟨xkInvalidNumber, kitAny_of1 koInvalidNumber_DuplicateName⟩ | exact ⟨xkInvalidOutcome, kitAny_of1 koInvalidOutcome_DuplicateName⟩ | exact ⟨xkInvalidSymbol, kitAny_of1 koInvalidSymbol_DuplicateName⟩ | exact ⟨xkInvalidText, kitAny_of1 koInvalidText_DuplicateName⟩ | exact ⟨xkInvalidTie, kitAny_of1 koInvalidTie_DuplicateName⟩ | exact ⟨xkMismatch, kitAny_of1 koMismatch_DuplicateName⟩ | exact ⟨xkPourError, kitAny_of1 koPourError_DuplicateName⟩)⟩⟩
  have u__law_kinds_2 : XkH K mg (ctOf mg) "InvalidName" [("Contradiction", false), ("DuplicateName", false), ("InvalidAction", false), ("InvalidCapacity", false), ("InvalidForm", false), ("InvalidName", true), ("InvalidNumber", false), ("InvalidOutcome", false), ("InvalidSymbol", false), ("InvalidText", false), ("InvalidTie", false), ("Mismatch", false), ("PourError", false)] := ⟨⟨_, gEInvalidName, xkT_mk (fun p hp => by simp only [List.mem_cons, List.not_mem_nil, or_false] at hp; rcases hp with rfl | rfl | rfl | rfl | rfl | rfl | rfl | rfl | rfl | rfl | rfl | rfl | rfl <;> first | exact ⟨xkContradiction, kitAny_of1 koContradiction_InvalidName⟩ | exact ⟨xkDuplicateName, kitAny_of1 koDuplicateName_InvalidName⟩ | exact ⟨xkInvalidAction, kitAny_of1 koInvalidAction_InvalidName⟩ | exact ⟨xkInvalidCapacity, kitAny_of1 koInvalidCapacity_InvalidName⟩ | exact ⟨xkInvalidForm, kitAny_of1 koInvalidForm_InvalidName⟩ | exact ⟨xkInvalidName, kitAny_of1 koInvalidName_InvalidName⟩ | exact ⟨xkInvalidNumber, kitAny_of1 koInvalidNumber_InvalidName⟩ | exact ⟨xkInvalidOutcome, kitAny_of1 koInvalidOutcome_InvalidName⟩ | exact ⟨xkInvalidSymbol, kitAny_of1 koInvalidSymbol_InvalidName⟩ | exact ⟨xkInvalidText, kitAny_of1 koInvalidText_InvalidName⟩ | exact ⟨xkInvalidTie, kitAny_of1 koInvalidTie_InvalidName⟩ | exact ⟨xkMismatch, kitAny_of1 koMismatch_InvalidName⟩ | exact ⟨xkPourError, kitAny_of1 koPourError_InvalidName⟩)⟩⟩
  have u__law_kinds_3 : XkH K mg (ctOf mg) "InvalidTie" [("Contradiction", false), ("DuplicateName", false), ("InvalidAction", false), ("InvalidCapacity", false), ("InvalidForm", false), ("InvalidName", false), ("InvalidNumber", false), ("InvalidOutcome", false), ("InvalidSymbol", false), ("InvalidText", false), ("InvalidTie", true), ("Mismatch", false), ("PourError", false)] := ⟨⟨_, gEInvalidTie, xkT_mk (fun p hp => by simp only [List.mem_cons, List.not_mem_nil, or_false] at hp; rcases hp with rfl | rfl | rfl | rfl | rfl | rfl | rfl | rfl | rfl | rfl | rfl | rfl | rfl <;> first | exact ⟨xkContradiction, kitAny_of1 koContradiction_InvalidTie⟩ | exact ⟨xkDuplicateName, kitAny_of1 koDuplicateName_InvalidTie⟩ | exact ⟨xkInvalidAction, kitAny_of1 koInvalidAction_InvalidTie⟩ | exact ⟨xkInvalidCapacity, kitAny_of1 koInvalidCapacity_InvalidTie⟩ | exact ⟨xkInvalidForm, kitAny_of1 koInvalidForm_InvalidTie⟩ | exact ⟨xkInvalidName, kitAny_of1 koInvalidName_InvalidTie⟩ | exact ⟨xkInvalidNumber, kitAny_of1 koInvalidNumber_InvalidTie⟩ | exact ⟨xkInvalidOutcome, kitAny_of1 koInvalidOutcome_InvalidTie⟩ | exact ⟨xkInvalidSymbol, kitAny_of1 koInvalidSymbol_InvalidTie⟩ | exact ⟨xkInvalidText, kitAny_of1 koInvalidText_InvalidTie⟩ | exact ⟨xkInvalidTie, kitAny_of1 koInvalidTie_InvalidTie⟩ | exact ⟨xkMismatch, kitAny_of1 koMismatch_InvalidTie⟩ | exact ⟨xkPourError, kitAny_of1 koPourError_InvalidTie⟩)⟩⟩
  have u__law_kinds_4 : XkH K mg (ctOf mg) "InvalidOutcome" [("Contradiction", false), ("DuplicateName", false), ("InvalidAction", false), ("InvalidCapacity", false), ("InvalidForm", false), ("InvalidName", false), ("InvalidNumber", false), ("InvalidOutcome", true), ("InvalidSymbol", false), ("InvalidText", false), ("InvalidTie", false), ("Mismatch", false), ("PourError", false)] := ⟨⟨_, gEInvalidOutcome, xkT_mk (fun p hp => by simp only [List.mem_cons, List.not_mem_nil, or_false] at hp; rcases hp with rfl | rfl | rfl | rfl | rfl | rfl | rfl | rfl | rfl | rfl | rfl | rfl | rfl <;> first | exact ⟨xkContradiction, kitAny_of1 koContradiction_InvalidOutcome⟩ | exact ⟨xkDuplicateName, kitAny_of1 koDuplicateName_InvalidOutcome⟩ | exact ⟨xkInvalidAction, kitAny_of1 koInvalidAction_InvalidOutcome⟩ | exact ⟨xkInvalidCapacity, kitAny_of1 koInvalidCapacity_InvalidOutcome⟩ | exact ⟨xkInvalidForm, kitAny_of1 koInvalidForm_InvalidOutcome⟩ | exact ⟨xkInvalidName, kitAny_of1 koInvalidName_InvalidOutcome⟩ | exact ⟨xkInvalidNumber, kitAny_of1 koInvalidNumber_InvalidOutcome⟩ | exact ⟨xkInvalidOutcome, kitAny_of1 koInvalidOutcome_InvalidOutcome⟩ | exact ⟨xkInvalidSymbol, kitAny_of1 koInvalidSymbol_InvalidOutcome⟩ | exact ⟨xkInvalidText, kitAny_of1 koInvalidText_InvalidOutcome⟩ | exact ⟨xkInvalidTie, kitAny_of1 koInvalidTie_InvalidOutcome⟩ | exact ⟨xkMismatch, kitAny_of1 koMismatch_InvalidOutcome⟩ | exact ⟨xkPourError, kitAny_of1 koPourError_InvalidOutcome⟩)⟩⟩
  have u__law_kinds_5 : XkH K mg (ctOf mg) "InvalidAction" [("Contradiction", false), ("DuplicateName", false), ("InvalidAction", true), ("InvalidCapacity", false), ("InvalidForm", false), ("InvalidName", false), ("InvalidNumber", false), ("InvalidOutcome", false), ("InvalidSymbol", false), ("InvalidText", false), ("InvalidTie", false), ("Mismatch", false), ("PourError", false)] := ⟨⟨_, gEInvalidAction, xkT_mk (fun p hp => by simp only [List.mem_cons, List.not_mem_nil, or_false] at hp; rcases hp with rfl | rfl | rfl | rfl | rfl | rfl | rfl | rfl | rfl | rfl | rfl | rfl | rfl <;> first | exact ⟨xkContradiction, kitAny_of1 koContradiction_InvalidAction⟩ | exact ⟨xkDuplicateName, kitAny_of1 koDuplicateName_InvalidAction⟩ | exact ⟨xkInvalidAction, kitAny_of1 koInvalidAction_InvalidAction⟩ | exact ⟨xkInvalidCapacity, kitAny_of1 koInvalidCapacity_InvalidAction⟩ | exact ⟨xkInvalidForm, kitAny_of1 koInvalidForm_InvalidAction⟩ | exact ⟨xkInvalidName, kitAny_of1 koInvalidName_InvalidAction⟩ | exact ⟨xkInvalidNumber, kitAny_of1 koInvalidNumber_InvalidAction⟩ | exact ⟨xkInvalidOutcome, kitAny_of1 koInvalidOutcome_InvalidAction⟩ | exact ⟨xkInvalidSymbol, kitAny_of1 koInvalidSymbol_InvalidAction⟩ | exact ⟨xkInvalidText, kitAny_of1 koInvalidText_InvalidAction⟩ | exact ⟨xkInvalidTie, kitAny_of1 koInvalidTie_InvalidAction⟩ | exact ⟨xkMismatch, kitAny_of1 koMismatch_InvalidAction⟩ | exact ⟨xkPourError, kitAny_of1 koPourError_InvalidAction⟩)⟩⟩
  have u__law_kinds_6 : XkH K mg (ctOf mg) "InvalidSymbol" [("Contradiction", false), ("DuplicateName", false), ("InvalidAction", false), ("InvalidCapacity", false), ("InvalidForm", false), ("InvalidName", false), ("InvalidNumber", false), ("InvalidOutcome", false), ("InvalidSymbol", true), ("InvalidText", false), ("InvalidTie", false), ("Mismatch", false), ("PourError", false)] := ⟨⟨_, gEInvalidSymbol, xkT_mk (fun p hp => by simp only [List.mem_cons, List.not_mem_nil, or_false] at hp; rcases hp with rfl | rfl | rfl | rfl | rfl | rfl | rfl | rfl | rfl | rfl | rfl | rfl | rfl <;> first | exact ⟨xkContradiction, kitAny_of1 koContradiction_InvalidSymbol⟩ | exact ⟨xkDuplicateName, kitAny_of1 koDuplicateName_InvalidSymbol⟩ | exact ⟨xkInvalidAction, kitAny_of1 koInvalidAction_InvalidSymbol⟩ | exact ⟨xkInvalidCapacity, kitAny_of1 koInvalidCapacity_InvalidSymbol⟩ | exact ⟨xkInvalidForm, kitAny_of1 koInvalidForm_InvalidSymbol⟩ | exact ⟨xkInvalidName, kitAny_of1 koInvalidName_InvalidSymbol⟩ | exact ⟨xkInvalidNumber, kitAny_of1 koInvalidNumber_InvalidSymbol⟩ | exact ⟨xkInvalidOutcome, kitAny_of1 koInvalidOutcome_InvalidSymbol⟩ | exact ⟨xkInvalidSymbol, kitAny_of1 koInvalidSymbol_InvalidSymbol⟩ | exact ⟨xkInvalidText, kitAny_of1 koInvalidText_InvalidSymbol⟩ | exact ⟨xkInvalidTie, kitAny_of1 koInvalidTie_InvalidSymbol⟩ | exact ⟨xkMismatch, kitAny_of1 koMismatch_InvalidSymbol⟩ | exact ⟨xkPourError, kitAny_of1 koPourError_InvalidSymbol⟩)⟩⟩
  have u__law_kinds_7 : XkH K mg (ctOf mg) "Contradiction" [("Contradiction", true), ("DuplicateName", false), ("InvalidAction", false), ("InvalidCapacity", false), ("InvalidForm", false), ("InvalidName", false), ("InvalidNumber", false), ("InvalidOutcome", false), ("InvalidSymbol", false), ("InvalidText", false), ("InvalidTie", false), ("Mismatch", false), ("PourError", false)] := ⟨⟨_, gEContradiction, xkT_mk (fun p hp => by simp only [List.mem_cons, List.not_mem_nil, or_false] at hp; rcases hp with rfl | rfl | rfl | rfl | rfl | rfl | rfl | rfl | rfl | rfl | rfl | rfl | rfl <;> first | exact ⟨xkContradiction, kitAny_of1 koContradiction_Contradiction⟩ | exact ⟨xkDuplicateName, kitAny_of1 koDuplicateName_Contradiction⟩ | exact ⟨xkInvalidAction, kitAny_of1 koInvalidAction_Contradiction⟩ | exact ⟨xkInvalidCapacity, kitAny_of1 koInvalidCapacity_Contradiction⟩ | exact ⟨xkInvalidForm, kitAny_of1 koInvalidForm_Contradiction⟩ | exact ⟨xkInvalidName, kitAny_of1 koInvalidName_Contradiction⟩ | exact ⟨xkInvalidNumber, kitAny_of1 koInvalidNumber_Contradiction⟩ | exact ⟨xkInvalidOutcome, kitAny_of1 koInvalidOutcome_Contradiction⟩ | exact ⟨xkInvalidSymbol, kitAny_of1 koInvalidSymbol_Contradiction⟩ | exact ⟨xkInvalidText, kitAny_of1 koInvalidText_Contradiction⟩ | exact ⟨xkInvalidTie, kitAny_of1 koInvalidTie_Contradiction⟩ | exact ⟨xkMismatch, kitAny_of1 koMismatch_Contradiction⟩ | exact ⟨xkPourError, kitAny_of1 koPourError_Contradiction⟩)⟩⟩
  have u__law_kinds_8 : XkH K mg (ctOf mg) "InvalidText" [("Contradiction", false), ("DuplicateName", false), ("InvalidAction", false), ("InvalidCapacity", false), ("InvalidForm", false), ("InvalidName", false), ("InvalidNumber", false), ("InvalidOutcome", false), ("InvalidSymbol", false), ("InvalidText", true), ("InvalidTie", false), ("Mismatch", false), ("PourError", false)] := ⟨⟨_, gEInvalidText, xkT_mk (fun p hp => by simp only [List.mem_cons, List.not_mem_nil, or_false] at hp; rcases hp with rfl | rfl | rfl | rfl | rfl | rfl | rfl | rfl | rfl | rfl | rfl | rfl | rfl <;> first | exact ⟨xkContradiction, kitAny_of1 koContradiction_InvalidText⟩ | exact ⟨xkDuplicateName, kitAny_of1 koDuplicateName_InvalidText⟩ | exact ⟨xkInvalidAction, kitAny_of1 koInvalidAction_InvalidText⟩ | exact ⟨xkInvalidCapacity, kitAny_of1 koInvalidCapacity_InvalidText⟩ | exact ⟨xkInvalidForm, kitAny_of1 koInvalidForm_InvalidText⟩ | exact ⟨xkInvalidName, kitAny_of1 koInvalidName_InvalidText⟩ | exact ⟨xkInvalidNumber, kitAny_of1 koInvalidNumber_InvalidText⟩ | exact ⟨xkInvalidOutcome, kitAny_of1 koInvalidOutcome_InvalidText⟩ | exact ⟨xkInvalidSymbol, kitAny_of1 koInvalidSymbol_InvalidText⟩ | exact ⟨xkInvalidText, kitAny_of1 koInvalidText_InvalidText⟩ | exact ⟨xkInvalidTie, kitAny_of1 koInvalidTie_InvalidText⟩ | exact ⟨xkMismatch, kitAny_of1 koMismatch_InvalidText⟩ | exact ⟨xkPourError, kitAny_of1 koPourError_InvalidText⟩)⟩⟩
  have u__law_kinds_9 : XkH K mg (ctOf mg) "InvalidNumber" [("Contradiction", false), ("DuplicateName", false), ("InvalidAction", false), ("InvalidCapacity", false), ("InvalidForm", false), ("InvalidName", false), ("InvalidNumber", true), ("InvalidOutcome", false), ("InvalidSymbol", false), ("InvalidText", false), ("InvalidTie", false), ("Mismatch", false), ("PourError", false)] := ⟨⟨_, gEInvalidNumber, xkT_mk (fun p hp => by simp only [List.mem_cons, List.not_mem_nil, or_false] at hp; rcases hp with rfl | rfl | rfl | rfl | rfl | rfl | rfl | rfl | rfl | rfl | rfl | rfl | rfl <;> first | exact ⟨xkContradiction, kitAny_of1 koContradiction_InvalidNumber⟩ | exact ⟨xkDuplicateName, kitAny_of1 koDuplicateName_InvalidNumber⟩ | exact ⟨xkInvalidAction, kitAny_of1 koInvalidAction_InvalidNumber⟩ | exact ⟨xkInvalidCapacity, kitAny_of1 koInvalidCapacity_InvalidNumber⟩ | exact ⟨xkInvalidForm, kitAny_of1 koInvalidForm_InvalidNumber⟩ | exact ⟨xkInvalidName, kitAny_of1 koInvalidName_InvalidNumber⟩ | exact ⟨xkInvalidNumber, kitAny_of1 koInvalidNumber_InvalidNumber⟩ | exact ⟨xkInvalidOutcome, kitAny_of1 koInvalidOutcome_InvalidNumber⟩ | exact ⟨xkInvalidSymbol, kitAny_of1 koInvalidSymbol_InvalidNumber⟩ | exact ⟨xkInvalidText, kitAny_of1 koInvalidText_InvalidNumber⟩ | exact ⟨xkInvalidTie, kitAny_of1 koInvalidTie_InvalidNumber⟩ | exact ⟨xkMismatch, kitAny_of1 koMismatch_InvalidNumber⟩ | exact ⟨xkPourError, kitAny_of1 koPourError_InvalidNumber⟩)⟩⟩
  have u__law_kinds_10 : XkH K mg (ctOf mg) "Mismatch" [("Contradiction", false), ("DuplicateName", false), ("InvalidAction", false), ("InvalidCapacity", false), ("InvalidForm", false), ("InvalidName", false), ("InvalidNumber", false), ("InvalidOutcome", false), ("InvalidSymbol", false), ("InvalidText", false), ("InvalidTie", false), ("Mismatch", true), ("PourError", false)] := ⟨⟨_, gEMismatch, xkT_mk (fun p hp => by simp only [List.mem_cons, List.not_mem_nil, or_false] at hp; rcases hp with rfl | rfl | rfl | rfl | rfl | rfl | rfl | rfl | rfl | rfl | rfl | rfl | rfl <;> first | exact ⟨xkContradiction, kitAny_of1 koContradiction_Mismatch⟩ | exact ⟨xkDuplicateName, kitAny_of1 koDuplicateName_Mismatch⟩ | exact ⟨xkInvalidAction, kitAny_of1 koInvalidAction_Mismatch⟩ | exact ⟨xkInvalidCapacity, kitAny_of1 koInvalidCapacity_Mismatch⟩ | exact ⟨xkInvalidForm, kitAny_of1 koInvalidForm_Mismatch⟩ | exact ⟨xkInvalidName, kitAny_of1 koInvalidName_Mismatch⟩ | exact ⟨xkInvalidNumber, kitAny_of1 koInvalidNumber_Mismatch⟩ | exact ⟨xkInvalidOutcome, kitAny_of1 koInvalidOutcome_Mismatch⟩ | exact ⟨xkInvalidSymbol, kitAny_of1 koInvalidSymbol_Mismatch⟩ | exact ⟨xkInvalidText, kitAny_of1 koInvalidText_Mismatch⟩ | exact ⟨xkInvalidTie, kitAny_of1 koInvalidTie_Mismatch⟩ | exact ⟨xkMismatch, kitAny_of1 koMismatch_Mismatch⟩ | exact ⟨xkPourError, kitAny_of1 koPourError_Mismatch⟩)⟩⟩
  have u__law_kinds_11 : XkH K mg (ctOf mg) "InvalidForm" [("Contradiction", false), ("DuplicateName", false), ("InvalidAction", false), ("InvalidCapacity", false), ("InvalidForm", true), ("InvalidName", false), ("InvalidNumber", false), ("InvalidOutcome", false), ("InvalidSymbol", false), ("InvalidText", false), ("InvalidTie", false), ("Mismatch", false), ("PourError", false)] := ⟨⟨_, gEInvalidForm, xkT_mk (fun p hp => by simp only [List.mem_cons, List.not_mem_nil, or_false] at hp; rcases hp with rfl | rfl | rfl | rfl | rfl | rfl | rfl | rfl | rfl | rfl | rfl | rfl | rfl <;> first | exact ⟨xkContradiction, kitAny_of1 koContradiction_InvalidForm⟩ | exact ⟨xkDuplicateName, kitAny_of1 koDuplicateName_InvalidForm⟩ | exact ⟨xkInvalidAction, kitAny_of1 koInvalidAction_InvalidForm⟩ | exact ⟨xkInvalidCapacity, kitAny_of1 koInvalidCapacity_InvalidForm⟩ | exact ⟨xkInvalidForm, kitAny_of1 koInvalidForm_InvalidForm⟩ | exact ⟨xkInvalidName, kitAny_of1 koInvalidName_InvalidForm⟩ | exact ⟨xkInvalidNumber, kitAny_of1 koInvalidNumber_InvalidForm⟩ | exact ⟨xkInvalidOutcome, kitAny_of1 koInvalidOutcome_InvalidForm⟩ | exact ⟨xkInvalidSymbol, kitAny_of1 koInvalidSymbol_InvalidForm⟩ | exact ⟨xkInvalidText, kitAny_of1 koInvalidText_InvalidForm⟩ | exact ⟨xkInvalidTie, kitAny_of1 koInvalidTie_InvalidForm⟩ | exact ⟨xkMismatch, kitAny_of1 koMismatch_InvalidForm⟩ | exact ⟨xkPourError, kitAny_of1 koPourError_InvalidForm⟩)⟩⟩
  have u_law_0 : XkH K mg (ctOf mg) "PourError" [("Contradiction", true), ("DuplicateName", true), ("InvalidAction", true), ("InvalidCapacity", true), ("InvalidForm", true), ("InvalidName", true), ("InvalidNumber", true), ("InvalidOutcome", true), ("InvalidSymbol", true), ("InvalidText", true), ("InvalidTie", true), ("Mismatch", true), ("PourError", true)] := ⟨⟨_, gEPourError, xkT_mk (fun p hp => by simp only [List.mem_cons, List.not_mem_nil, or_false] at hp; rcases hp with rfl | rfl | rfl | rfl | rfl | rfl | rfl | rfl | rfl | rfl | rfl | rfl | rfl <;> first | exact ⟨xkContradiction, kitAny_of1 koContradiction_PourError⟩ | exact ⟨xkDuplicateName, kitAny_of1 koDuplicateName_PourError⟩ | exact ⟨xkInvalidAction, kitAny_of1 koInvalidAction_PourError⟩ | exact ⟨xkInvalidCapacity, kitAny_of1 koInvalidCapacity_PourError⟩ | exact ⟨xkInvalidForm, kitAny_of1 koInvalidForm_PourError⟩ | exact ⟨xkInvalidName, kitAny_of1 koInvalidName_PourError⟩ | exact ⟨xkInvalidNumber, kitAny_of1 koInvalidNumber_PourError⟩ | exact ⟨xkInvalidOutcome, kitAny_of1 koInvalidOutcome_PourError⟩ | exact ⟨xkInvalidSymbol, kitAny_of1 koInvalidSymbol_PourError⟩ | exact ⟨xkInvalidText, kitAny_of1 koInvalidText_PourError⟩ | exact ⟨xkInvalidTie, kitAny_of1 koInvalidTie_PourError⟩ | exact ⟨xkMismatch, kitAny_of1 koMismatch_PourError⟩ | exact ⟨xkPourError, kitAny_of1 koPourError_PourError⟩)⟩⟩
  have u_law_1 : XkT K (ctOf mg) [.type "ValueError"] [("Contradiction", true), ("DuplicateName", true), ("InvalidAction", true), ("InvalidCapacity", true), ("InvalidForm", true), ("InvalidName", true), ("InvalidNumber", true), ("InvalidOutcome", true), ("InvalidSymbol", true), ("InvalidText", true), ("InvalidTie", true), ("Mismatch", true), ("PourError", true)] := xkT_mk (fun p hp => by simp only [List.mem_cons, List.not_mem_nil, or_false] at hp; rcases hp with rfl | rfl | rfl | rfl | rfl | rfl | rfl | rfl | rfl | rfl | rfl | rfl | rfl <;> first | exact ⟨xkContradiction, kitAny_of1 koContradiction_VE⟩ | exact ⟨xkDuplicateName, kitAny_of1 koDuplicateName_VE⟩ | exact ⟨xkInvalidAction, kitAny_of1 koInvalidAction_VE⟩ | exact ⟨xkInvalidCapacity, kitAny_of1 koInvalidCapacity_VE⟩ | exact ⟨xkInvalidForm, kitAny_of1 koInvalidForm_VE⟩ | exact ⟨xkInvalidName, kitAny_of1 koInvalidName_VE⟩ | exact ⟨xkInvalidNumber, kitAny_of1 koInvalidNumber_VE⟩ | exact ⟨xkInvalidOutcome, kitAny_of1 koInvalidOutcome_VE⟩ | exact ⟨xkInvalidSymbol, kitAny_of1 koInvalidSymbol_VE⟩ | exact ⟨xkInvalidText, kitAny_of1 koInvalidText_VE⟩ | exact ⟨xkInvalidTie, kitAny_of1 koInvalidTie_VE⟩ | exact ⟨xkMismatch, kitAny_of1 koMismatch_VE⟩ | exact ⟨xkPourError, kitAny_of1 koPourError_VE⟩)
  have w_certificate : XkFT K (ctOf mg) "certificate" ["Contradiction"] := ⟨(fun p hp => by simp only [List.mem_cons, List.not_mem_nil, or_false] at hp; subst hp; exact ⟨xkContradiction, by rw [show (ctOf mg).c "Contradiction" = CContradiction from eContradiction]; exact nbContradiction⟩)⟩
  have w_index : XkFT K (ctOf mg) "index" ["InvalidAction", "InvalidOutcome", "InvalidSymbol", "InvalidTie"] := ⟨(fun p hp => by simp only [List.mem_cons, List.not_mem_nil, or_false] at hp; rcases hp with rfl | rfl | rfl | rfl <;> first | exact ⟨xkInvalidAction, by rw [show (ctOf mg).c "InvalidAction" = CInvalidAction from eInvalidAction]; exact nbInvalidAction⟩ | exact ⟨xkInvalidOutcome, by rw [show (ctOf mg).c "InvalidOutcome" = CInvalidOutcome from eInvalidOutcome]; exact nbInvalidOutcome⟩ | exact ⟨xkInvalidSymbol, by rw [show (ctOf mg).c "InvalidSymbol" = CInvalidSymbol from eInvalidSymbol]; exact nbInvalidSymbol⟩ | exact ⟨xkInvalidTie, by rw [show (ctOf mg).c "InvalidTie" = CInvalidTie from eInvalidTie]; exact nbInvalidTie⟩)⟩
  have w_line : XkFT K (ctOf mg) "line" ["InvalidText"] := ⟨(fun p hp => by simp only [List.mem_cons, List.not_mem_nil, or_false] at hp; subst hp; exact ⟨xkInvalidText, by rw [show (ctOf mg).c "InvalidText" = CInvalidText from eInvalidText]; exact nbInvalidText⟩)⟩
  have w_name : XkFT K (ctOf mg) "name" ["DuplicateName", "InvalidCapacity", "InvalidName"] := ⟨(fun p hp => by simp only [List.mem_cons, List.not_mem_nil, or_false] at hp; rcases hp with rfl | rfl | rfl <;> first | exact ⟨xkDuplicateName, by rw [show (ctOf mg).c "DuplicateName" = CDuplicateName from eDuplicateName]; exact nbDuplicateName⟩ | exact ⟨xkInvalidCapacity, by rw [show (ctOf mg).c "InvalidCapacity" = CInvalidCapacity from eInvalidCapacity]; exact nbInvalidCapacity⟩ | exact ⟨xkInvalidName, by rw [show (ctOf mg).c "InvalidName" = CInvalidName from eInvalidName]; exact nbInvalidName⟩)⟩
  have w_number : XkFT K (ctOf mg) "number" ["InvalidNumber"] := ⟨(fun p hp => by simp only [List.mem_cons, List.not_mem_nil, or_false] at hp; subst hp; exact ⟨xkInvalidNumber, by rw [show (ctOf mg).c "InvalidNumber" = CInvalidNumber from eInvalidNumber]; exact nbInvalidNumber⟩)⟩
  have o0 : FnG P w K mg base (L2.CX P w) 1 f0 _ ["value"] (SpD K (ctOf mg) f_is_name) := ok_is_name F0 Gs hK 
  have h_is_name : CalleeG P w K mg base (ctOf mg) "is_name" 1 f_is_name := calleeG_mk F0 o0 (PySem.W.mg_of X G a0) fun _ _ _ _ _ _ us hl => match us, hl with | [_], _ => rfl
  have q_is_name_0_value : CalC P w K mg base (ctOf mg) "is_name" 1 0 ["value"] [0] [] f_is_name := calC_mk F0 o0 (PySem.W.mg_of X G a0) (Bnd.of F0 fun _ _ _ _ _ _ us ws h1 h2 => match us, ws, h1, h2 with | [], [_], _, _ => rfl)
  have o1 : FnG P w K mg base (L2.CX P w) 1 f1 _ ["_law_script"] (SpD K (ctOf mg) f__law_source) := ok__law_source F1 Gs hK 
  have h__law_source : CalleeG P w K mg base (ctOf mg) "_law_source" 1 f__law_source := calleeG_mk F1 o1 (PySem.W.mg_of X G a1) fun _ _ _ _ _ _ us hl => match us, hl with | [_], _ => rfl
  have o2 : FnG P w K mg base (L2.CX P w) 1 f2 _ ["_law_source_here", "_law_bound"] (SpD K (ctOf mg) f__law_draw) := ok__law_draw F2 Gs hK 
  have h__law_draw : CalleeG P w K mg base (ctOf mg) "_law_draw" 1 f__law_draw := calleeG_mk F2 o2 (PySem.W.mg_of X G a2) fun _ _ _ _ _ _ us hl => match us, hl with | [_, _], _ => rfl
  have o3 : FnG P w K mg base (L2.CX P w) 2 f3 _ ["_law_source_here", "_law_options"] (SpD K (ctOf mg) f__law_choice) := ok__law_choice F3 Gs hK h__law_draw
  have h__law_choice : CalleeG P w K mg base (ctOf mg) "_law_choice" 2 f__law_choice := calleeG_mk F3 o3 (PySem.W.mg_of X G a3) fun _ _ _ _ _ _ us hl => match us, hl with | [_, _], _ => rfl
  have o4 : FnG P w K mg base (L2.CX P w) 1 f4 _ ["_law_item"] (SpD K (ctOf mg) f__law_is_name) := ok__law_is_name F4 Gs hK 
  have h__law_is_name : CalleeG P w K mg base (ctOf mg) "_law_is_name" 1 f__law_is_name := calleeG_mk F4 o4 (PySem.W.mg_of X G a4) fun _ _ _ _ _ _ us hl => match us, hl with | [_], _ => rfl
  have o5 : FnG P w K mg base (L2.CX P w) 3 f5 _ ["_law_source_here"] (SpD K (ctOf mg) f__law_text) := ok__law_text F5 Gs hK h__law_choice h__law_draw
  have h__law_text : CalleeG P w K mg base (ctOf mg) "_law_text" 3 f__law_text := calleeG_mk F5 o5 (PySem.W.mg_of X G a5) fun _ _ _ _ _ _ us hl => match us, hl with | [_], _ => rfl
  have o6 : FnG P w K mg base (L2.CX P w) 4 f6 _ ["_law_source_here"] (SpD K (ctOf mg) f__law_value) := ok__law_value F6 Gs hK h__law_choice h__law_text
  have h__law_value : CalleeG P w K mg base (ctOf mg) "_law_value" 4 f__law_value := calleeG_mk F6 o6 (PySem.W.mg_of X G a6) fun _ _ _ _ _ _ us hl => match us, hl with | [_], _ => rfl
  have o7 : FnG P w K mg base (L2.CX P w) 3 f7 _ [] (SpD K (ctOf mg) f__law_fields) := ok__law_fields F7 Gs hK x_Contradiction x_DuplicateName x_InvalidAction x_InvalidCapacity x_InvalidName x_InvalidNumber x_InvalidOutcome x_InvalidSymbol x_InvalidText x_InvalidTie y_Contradiction y_DuplicateName y_InvalidAction y_InvalidCapacity y_InvalidName y_InvalidNumber y_InvalidOutcome y_InvalidSymbol y_InvalidText y_InvalidTie w_certificate w_index w_line w_name w_number
  have q__law_fields_0 : CalC P w K mg base (ctOf mg) "_law_fields" 3 0 [] [] [] f__law_fields := calC_mk F7 o7 (PySem.W.mg_of X G a7) (Bnd.of F7 fun _ _ _ _ _ _ us ws h1 h2 => match us, ws, h1, h2 with | [], [], _, _ => rfl)
  have o8 : FnG P w K mg base (L2.CX P w) 1 f8 _ ["_law_error"] (SpD K (ctOf mg) f__law_kinds) := ok__law_kinds F8 Gs hK u__law_kinds_0 u__law_kinds_1 u__law_kinds_2 u__law_kinds_3 u__law_kinds_4 u__law_kinds_5 u__law_kinds_6 u__law_kinds_7 u__law_kinds_8 u__law_kinds_9 u__law_kinds_10 u__law_kinds_11
  have h__law_kinds : CalleeG P w K mg base (ctOf mg) "_law_kinds" 1 f__law_kinds := calleeG_mk F8 o8 (PySem.W.mg_of X G a8) fun _ _ _ _ _ _ us hl => match us, hl with | [_], _ => rfl
  have o9 : FnG P w K mg base (L2.CX P w) 5 _ _ ["_law_script"] (SpD K (ctOf mg) f_law) := ok_law F9 Gs hK h__law_is_name h__law_kinds h__law_source h__law_value h_is_name q__law_fields_0 q_is_name_0_value x_InvalidForm x_Mismatch x_PourError u_law_0 u_law_1
  exact o9
end KX
open PySem PySem.W PyProof.Rows
set_option maxRecDepth 100000 in
set_option maxHeartbeats 0 in
theorem PySem.Challenge.cw_blindpour_k01_names_and_exceptions_holds : PySem.Challenge.rw_blindpour_k01_names_and_exceptions.Holds := by
  w_on; o_law; k_head; (case hw => w_witness2)
  k_fill
  refine DL.walk_dl (l := PySem.Challenge.rw_blindpour_k01_names_and_exceptions) (k := 5) (x := "_law_script") (cf := KX.f_law) rfl (by decide) rfl ⟨rfl, by decide, by decide⟩ (fun w h Y => PySem.W.kIn_of Y) ?F KX.plain
  case F =>
    intro w mg fa h KI G hmg
    refine' KX.all_mk KI G hmg ?a0 ?l0 ?c0 ?k0 ?a1 ?l1 ?c1 ?k1 ?a2 ?l2 ?c2 ?k2 ?a3 ?l3 ?c3 ?k3 ?a4 ?l4 ?c4 ?k4 ?a5 ?l5 ?c5 ?k5 ?a6 ?l6 ?c6 ?k6 ?a7 ?l7 ?c7 ?k7 ?a8 ?l8 ?c8 ?k8 ?a9 ?l9 ?c9 ?k9 ?z_LETTERS ?z_LONGEST_NAME ?z_ValueError ?z_all ?z_enumerate ?z_isinstance ?z_len ?z_range ?z_repr ?z_str ?aB ?gB ?rB ?tB ?fB ?aCContradiction ?xLContradiction ?saContradiction ?gaContradiction ?ggContradiction ?nbContradiction ?aIContradiction ?tIContradiction ?lIContradiction ?cIContradiction ?kIContradiction ?kCContradiction ?eCContradiction ?tCContradiction ?hCContradiction ?iCContradiction ?sCContradiction ?aCDuplicateName ?xLDuplicateName ?saDuplicateName ?gaDuplicateName ?ggDuplicateName ?nbDuplicateName ?aIDuplicateName ?tIDuplicateName ?lIDuplicateName ?cIDuplicateName ?kIDuplicateName ?kCDuplicateName ?eCDuplicateName ?tCDuplicateName ?hCDuplicateName ?iCDuplicateName ?sCDuplicateName ?aCInvalidAction ?xLInvalidAction ?saInvalidAction ?gaInvalidAction ?ggInvalidAction ?nbInvalidAction ?aIInvalidAction ?tIInvalidAction ?lIInvalidAction ?cIInvalidAction ?kIInvalidAction ?kCInvalidAction ?eCInvalidAction ?tCInvalidAction ?hCInvalidAction ?iCInvalidAction ?sCInvalidAction ?aCInvalidCapacity ?xLInvalidCapacity ?saInvalidCapacity ?gaInvalidCapacity ?ggInvalidCapacity ?nbInvalidCapacity ?aIInvalidCapacity ?tIInvalidCapacity ?lIInvalidCapacity ?cIInvalidCapacity ?kIInvalidCapacity ?kCInvalidCapacity ?eCInvalidCapacity ?tCInvalidCapacity ?hCInvalidCapacity ?iCInvalidCapacity ?sCInvalidCapacity ?aCInvalidForm ?qXInvalidForm ?gaInvalidForm ?ggInvalidForm ?kCInvalidForm ?eCInvalidForm ?tCInvalidForm ?hCInvalidForm ?iCInvalidForm ?sCInvalidForm ?aCInvalidName ?xLInvalidName ?saInvalidName ?gaInvalidName ?ggInvalidName ?nbInvalidName ?aIInvalidName ?tIInvalidName ?lIInvalidName ?cIInvalidName ?kIInvalidName ?kCInvalidName ?eCInvalidName ?tCInvalidName ?hCInvalidName ?iCInvalidName ?sCInvalidName ?aCInvalidNumber ?xLInvalidNumber ?saInvalidNumber ?gaInvalidNumber ?ggInvalidNumber ?nbInvalidNumber ?aIInvalidNumber ?tIInvalidNumber ?lIInvalidNumber ?cIInvalidNumber ?kIInvalidNumber ?kCInvalidNumber ?eCInvalidNumber ?tCInvalidNumber ?hCInvalidNumber ?iCInvalidNumber ?sCInvalidNumber ?aCInvalidOutcome ?xLInvalidOutcome ?saInvalidOutcome ?gaInvalidOutcome ?ggInvalidOutcome ?nbInvalidOutcome ?aIInvalidOutcome ?tIInvalidOutcome ?lIInvalidOutcome ?cIInvalidOutcome ?kIInvalidOutcome ?kCInvalidOutcome ?eCInvalidOutcome ?tCInvalidOutcome ?hCInvalidOutcome ?iCInvalidOutcome ?sCInvalidOutcome ?aCInvalidSymbol ?xLInvalidSymbol ?saInvalidSymbol ?gaInvalidSymbol ?ggInvalidSymbol ?nbInvalidSymbol ?aIInvalidSymbol ?tIInvalidSymbol ?lIInvalidSymbol ?cIInvalidSymbol ?kIInvalidSymbol ?kCInvalidSymbol ?eCInvalidSymbol ?tCInvalidSymbol ?hCInvalidSymbol ?iCInvalidSymbol ?sCInvalidSymbol ?aCInvalidText ?xLInvalidText ?saInvalidText ?gaInvalidText ?ggInvalidText ?nbInvalidText ?aIInvalidText ?tIInvalidText ?lIInvalidText ?cIInvalidText ?kIInvalidText ?kCInvalidText ?eCInvalidText ?tCInvalidText ?hCInvalidText ?iCInvalidText ?sCInvalidText ?aCInvalidTie ?xLInvalidTie ?saInvalidTie ?gaInvalidTie ?ggInvalidTie ?nbInvalidTie ?aIInvalidTie ?tIInvalidTie ?lIInvalidTie ?cIInvalidTie ?kIInvalidTie ?kCInvalidTie ?eCInvalidTie ?tCInvalidTie ?hCInvalidTie ?iCInvalidTie ?sCInvalidTie ?aCMismatch ?qXMismatch ?gaMismatch ?ggMismatch ?kCMismatch ?eCMismatch ?tCMismatch ?hCMismatch ?iCMismatch ?sCMismatch ?aCPourError ?qXPourError ?gaPourError ?ggPourError ?kCPourError ?eCPourError ?tCPourError ?hCPourError ?iCPourError ?sCPourError ?hN0 ?hT0 ?hAContradiction ?hMContradiction ?sVContradiction ?sXContradiction_DuplicateName ?sXContradiction_InvalidAction ?sXContradiction_InvalidCapacity ?sXContradiction_InvalidForm ?sXContradiction_InvalidName ?sXContradiction_InvalidNumber ?sXContradiction_InvalidOutcome ?sXContradiction_InvalidSymbol ?sXContradiction_InvalidText ?sXContradiction_InvalidTie ?sXContradiction_Mismatch ?sXContradiction_PourError ?hADuplicateName ?hMDuplicateName ?sVDuplicateName ?sXDuplicateName_Contradiction ?sXDuplicateName_InvalidAction ?sXDuplicateName_InvalidCapacity ?sXDuplicateName_InvalidForm ?sXDuplicateName_InvalidName ?sXDuplicateName_InvalidNumber ?sXDuplicateName_InvalidOutcome ?sXDuplicateName_InvalidSymbol ?sXDuplicateName_InvalidText ?sXDuplicateName_InvalidTie ?sXDuplicateName_Mismatch ?sXDuplicateName_PourError ?hAInvalidAction ?hMInvalidAction ?sVInvalidAction ?sXInvalidAction_Contradiction ?sXInvalidAction_DuplicateName ?sXInvalidAction_InvalidCapacity ?sXInvalidAction_InvalidForm ?sXInvalidAction_InvalidName ?sXInvalidAction_InvalidNumber ?sXInvalidAction_InvalidOutcome ?sXInvalidAction_InvalidSymbol ?sXInvalidAction_InvalidText ?sXInvalidAction_InvalidTie ?sXInvalidAction_Mismatch ?sXInvalidAction_PourError ?hAInvalidCapacity ?hMInvalidCapacity ?sVInvalidCapacity ?sXInvalidCapacity_Contradiction ?sXInvalidCapacity_DuplicateName ?sXInvalidCapacity_InvalidAction ?sXInvalidCapacity_InvalidForm ?sXInvalidCapacity_InvalidName ?sXInvalidCapacity_InvalidNumber ?sXInvalidCapacity_InvalidOutcome ?sXInvalidCapacity_InvalidSymbol ?sXInvalidCapacity_InvalidText ?sXInvalidCapacity_InvalidTie ?sXInvalidCapacity_Mismatch ?sXInvalidCapacity_PourError ?hAInvalidForm ?hMInvalidForm ?sVInvalidForm ?sXInvalidForm_Contradiction ?sXInvalidForm_DuplicateName ?sXInvalidForm_InvalidAction ?sXInvalidForm_InvalidCapacity ?sXInvalidForm_InvalidName ?sXInvalidForm_InvalidNumber ?sXInvalidForm_InvalidOutcome ?sXInvalidForm_InvalidSymbol ?sXInvalidForm_InvalidText ?sXInvalidForm_InvalidTie ?sXInvalidForm_Mismatch ?sXInvalidForm_PourError ?hAInvalidName ?hMInvalidName ?sVInvalidName ?sXInvalidName_Contradiction ?sXInvalidName_DuplicateName ?sXInvalidName_InvalidAction ?sXInvalidName_InvalidCapacity ?sXInvalidName_InvalidForm ?sXInvalidName_InvalidNumber ?sXInvalidName_InvalidOutcome ?sXInvalidName_InvalidSymbol ?sXInvalidName_InvalidText ?sXInvalidName_InvalidTie ?sXInvalidName_Mismatch ?sXInvalidName_PourError ?hAInvalidNumber ?hMInvalidNumber ?sVInvalidNumber ?sXInvalidNumber_Contradiction ?sXInvalidNumber_DuplicateName ?sXInvalidNumber_InvalidAction ?sXInvalidNumber_InvalidCapacity ?sXInvalidNumber_InvalidForm ?sXInvalidNumber_InvalidName ?sXInvalidNumber_InvalidOutcome ?sXInvalidNumber_InvalidSymbol ?sXInvalidNumber_InvalidText ?sXInvalidNumber_InvalidTie ?sXInvalidNumber_Mismatch ?sXInvalidNumber_PourError ?hAInvalidOutcome ?hMInvalidOutcome ?sVInvalidOutcome ?sXInvalidOutcome_Contradiction ?sXInvalidOutcome_DuplicateName ?sXInvalidOutcome_InvalidAction ?sXInvalidOutcome_InvalidCapacity ?sXInvalidOutcome_InvalidForm ?sXInvalidOutcome_InvalidName ?sXInvalidOutcome_InvalidNumber ?sXInvalidOutcome_InvalidSymbol ?sXInvalidOutcome_InvalidText ?sXInvalidOutcome_InvalidTie ?sXInvalidOutcome_Mismatch ?sXInvalidOutcome_PourError ?hAInvalidSymbol ?hMInvalidSymbol ?sVInvalidSymbol ?sXInvalidSymbol_Contradiction ?sXInvalidSymbol_DuplicateName ?sXInvalidSymbol_InvalidAction ?sXInvalidSymbol_InvalidCapacity ?sXInvalidSymbol_InvalidForm ?sXInvalidSymbol_InvalidName ?sXInvalidSymbol_InvalidNumber ?sXInvalidSymbol_InvalidOutcome ?sXInvalidSymbol_InvalidText ?sXInvalidSymbol_InvalidTie ?sXInvalidSymbol_Mismatch ?sXInvalidSymbol_PourError ?hAInvalidText ?hMInvalidText ?sVInvalidText ?sXInvalidText_Contradiction ?sXInvalidText_DuplicateName ?sXInvalidText_InvalidAction ?sXInvalidText_InvalidCapacity ?sXInvalidText_InvalidForm ?sXInvalidText_InvalidName ?sXInvalidText_InvalidNumber ?sXInvalidText_InvalidOutcome ?sXInvalidText_InvalidSymbol ?sXInvalidText_InvalidTie ?sXInvalidText_Mismatch ?sXInvalidText_PourError ?hAInvalidTie ?hMInvalidTie ?sVInvalidTie ?sXInvalidTie_Contradiction ?sXInvalidTie_DuplicateName ?sXInvalidTie_InvalidAction ?sXInvalidTie_InvalidCapacity ?sXInvalidTie_InvalidForm ?sXInvalidTie_InvalidName ?sXInvalidTie_InvalidNumber ?sXInvalidTie_InvalidOutcome ?sXInvalidTie_InvalidSymbol ?sXInvalidTie_InvalidText ?sXInvalidTie_Mismatch ?sXInvalidTie_PourError ?hAMismatch ?hMMismatch ?sVMismatch ?sXMismatch_Contradiction ?sXMismatch_DuplicateName ?sXMismatch_InvalidAction ?sXMismatch_InvalidCapacity ?sXMismatch_InvalidForm ?sXMismatch_InvalidName ?sXMismatch_InvalidNumber ?sXMismatch_InvalidOutcome ?sXMismatch_InvalidSymbol ?sXMismatch_InvalidText ?sXMismatch_InvalidTie ?sXMismatch_PourError ?hAPourError ?hMPourError ?sVPourError ?sXPourError_Contradiction ?sXPourError_DuplicateName ?sXPourError_InvalidAction ?sXPourError_InvalidCapacity ?sXPourError_InvalidForm ?sXPourError_InvalidName ?sXPourError_InvalidNumber ?sXPourError_InvalidOutcome ?sXPourError_InvalidSymbol ?sXPourError_InvalidText ?sXPourError_InvalidTie ?sXPourError_Mismatch ?kn
    (case a0 => k_is)
    (case l0 => k_is)
    (case c0 => k_is)
    (case k0 => k_is)
    (case a1 => k_is)
    (case l1 => k_is)
    (case c1 => k_is)
    (case k1 => k_is)
    (case a2 => k_is)
    (case l2 => k_is)
    (case c2 => k_is)
    (case k2 => k_is)
    (case a3 => k_is)
    (case l3 => k_is)
    (case c3 => k_is)
    (case k3 => k_is)
    (case a4 => k_is)
    (case l4 => k_is)
    (case c4 => k_is)
    (case k4 => k_is)
    (case a5 => k_is)
    (case l5 => k_is)
    (case c5 => k_is)
    (case k5 => k_is)
    (case a6 => k_is)
    (case l6 => k_is)
    (case c6 => k_is)
    (case k6 => k_is)
    (case a7 => k_is)
    (case l7 => k_is)
    (case c7 => k_is)
    (case k7 => k_is)
    (case a8 => k_is)
    (case l8 => k_is)
    (case c8 => k_is)
    (case k8 => k_is)
    (case a9 => k_is)
    (case l9 => k_is)
    (case c9 => k_is)
    (case k9 => k_is)
    (case z_LETTERS => k_is)
    (case z_LONGEST_NAME => k_is)
    (case z_ValueError => k_is)
    (case z_all => k_is)
    (case z_enumerate => k_is)
    (case z_isinstance => k_is)
    (case z_len => k_is)
    (case z_range => k_is)
    (case z_repr => k_is)
    (case z_str => k_is)
    (case aB => k_is)
    (case gB => k_is)
    (case rB => k_is)
    (case tB => k_is)
    (case fB => k_is)
    (case aCContradiction => k_is)
    (case xLContradiction => k_is)
    (case saContradiction => k_is)
    (case gaContradiction => k_is)
    (case ggContradiction => k_is)
    (case nbContradiction => k_is)
    (case aIContradiction => k_is)
    (case tIContradiction => k_is)
    (case lIContradiction => k_is)
    (case cIContradiction => k_is)
    (case kIContradiction => k_is)
    (case kCContradiction => k_is)
    (case eCContradiction => k_is)
    (case tCContradiction => k_is)
    (case hCContradiction => k_is)
    (case iCContradiction => k_is)
    (case sCContradiction => first | k_is | rfl)
    (case aCDuplicateName => k_is)
    (case xLDuplicateName => k_is)
    (case saDuplicateName => k_is)
    (case gaDuplicateName => k_is)
    (case ggDuplicateName => k_is)
    (case nbDuplicateName => k_is)
    (case aIDuplicateName => k_is)
    (case tIDuplicateName => k_is)
    (case lIDuplicateName => k_is)
    (case cIDuplicateName => k_is)
    (case kIDuplicateName => k_is)
    (case kCDuplicateName => k_is)
    (case eCDuplicateName => k_is)
    (case tCDuplicateName => k_is)
    (case hCDuplicateName => k_is)
    (case iCDuplicateName => k_is)
    (case sCDuplicateName => first | k_is | rfl)
    (case aCInvalidAction => k_is)
    (case xLInvalidAction => k_is)
    (case saInvalidAction => k_is)
    (case gaInvalidAction => k_is)
    (case ggInvalidAction => k_is)
    (case nbInvalidAction => k_is)
    (case aIInvalidAction => k_is)
    (case tIInvalidAction => k_is)
    (case lIInvalidAction => k_is)
    (case cIInvalidAction => k_is)
    (case kIInvalidAction => k_is)
    (case kCInvalidAction => k_is)
    (case eCInvalidAction => k_is)
    (case tCInvalidAction => k_is)
    (case hCInvalidAction => k_is)
    (case iCInvalidAction => k_is)
    (case sCInvalidAction => first | k_is | rfl)
    (case aCInvalidCapacity => k_is)
    (case xLInvalidCapacity => k_is)
    (case saInvalidCapacity => k_is)
    (case gaInvalidCapacity => k_is)
    (case ggInvalidCapacity => k_is)
    (case nbInvalidCapacity => k_is)
    (case aIInvalidCapacity => k_is)
    (case tIInvalidCapacity => k_is)
    (case lIInvalidCapacity => k_is)
    (case cIInvalidCapacity => k_is)
    (case kIInvalidCapacity => k_is)
    (case kCInvalidCapacity => k_is)
    (case eCInvalidCapacity => k_is)
    (case tCInvalidCapacity => k_is)
    (case hCInvalidCapacity => k_is)
    (case iCInvalidCapacity => k_is)
    (case sCInvalidCapacity => first | k_is | rfl)
    (case aCInvalidForm => k_is)
    (case qXInvalidForm => first | k_exc | k_is | rfl | decide +kernel)
    (case gaInvalidForm => k_is)
    (case ggInvalidForm => k_is)
    (case kCInvalidForm => k_is)
    (case eCInvalidForm => k_is)
    (case tCInvalidForm => k_is)
    (case hCInvalidForm => k_is)
    (case iCInvalidForm => k_is)
    (case sCInvalidForm => first | k_is | rfl)
    (case aCInvalidName => k_is)
    (case xLInvalidName => k_is)
    (case saInvalidName => k_is)
    (case gaInvalidName => k_is)
    (case ggInvalidName => k_is)
    (case nbInvalidName => k_is)
    (case aIInvalidName => k_is)
    (case tIInvalidName => k_is)
    (case lIInvalidName => k_is)
    (case cIInvalidName => k_is)
    (case kIInvalidName => k_is)
    (case kCInvalidName => k_is)
    (case eCInvalidName => k_is)
    (case tCInvalidName => k_is)
    (case hCInvalidName => k_is)
    (case iCInvalidName => k_is)
    (case sCInvalidName => first | k_is | rfl)
    (case aCInvalidNumber => k_is)
    (case xLInvalidNumber => k_is)
    (case saInvalidNumber => k_is)
    (case gaInvalidNumber => k_is)
    (case ggInvalidNumber => k_is)
    (case nbInvalidNumber => k_is)
    (case aIInvalidNumber => k_is)
    (case tIInvalidNumber => k_is)
    (case lIInvalidNumber => k_is)
    (case cIInvalidNumber => k_is)
    (case kIInvalidNumber => k_is)
    (case kCInvalidNumber => k_is)
    (case eCInvalidNumber => k_is)
    (case tCInvalidNumber => k_is)
    (case hCInvalidNumber => k_is)
    (case iCInvalidNumber => k_is)
    (case sCInvalidNumber => first | k_is | rfl)
    (case aCInvalidOutcome => k_is)
    (case xLInvalidOutcome => k_is)
    (case saInvalidOutcome => k_is)
    (case gaInvalidOutcome => k_is)
    (case ggInvalidOutcome => k_is)
    (case nbInvalidOutcome => k_is)
    (case aIInvalidOutcome => k_is)
    (case tIInvalidOutcome => k_is)
    (case lIInvalidOutcome => k_is)
    (case cIInvalidOutcome => k_is)
    (case kIInvalidOutcome => k_is)
    (case kCInvalidOutcome => k_is)
    (case eCInvalidOutcome => k_is)
    (case tCInvalidOutcome => k_is)
    (case hCInvalidOutcome => k_is)
    (case iCInvalidOutcome => k_is)
    (case sCInvalidOutcome => first | k_is | rfl)
    (case aCInvalidSymbol => k_is)
    (case xLInvalidSymbol => k_is)
    (case saInvalidSymbol => k_is)
    (case gaInvalidSymbol => k_is)
    (case ggInvalidSymbol => k_is)
    (case nbInvalidSymbol => k_is)
    (case aIInvalidSymbol => k_is)
    (case tIInvalidSymbol => k_is)
    (case lIInvalidSymbol => k_is)
    (case cIInvalidSymbol => k_is)
    (case kIInvalidSymbol => k_is)
    (case kCInvalidSymbol => k_is)
    (case eCInvalidSymbol => k_is)
    (case tCInvalidSymbol => k_is)
    (case hCInvalidSymbol => k_is)
    (case iCInvalidSymbol => k_is)
    (case sCInvalidSymbol => first | k_is | rfl)
    (case aCInvalidText => k_is)
    (case xLInvalidText => k_is)
    (case saInvalidText => k_is)
    (case gaInvalidText => k_is)
    (case ggInvalidText => k_is)
    (case nbInvalidText => k_is)
    (case aIInvalidText => k_is)
    (case tIInvalidText => k_is)
    (case lIInvalidText => k_is)
    (case cIInvalidText => k_is)
    (case kIInvalidText => k_is)
    (case kCInvalidText => k_is)
    (case eCInvalidText => k_is)
    (case tCInvalidText => k_is)
    (case hCInvalidText => k_is)
    (case iCInvalidText => k_is)
    (case sCInvalidText => first | k_is | rfl)
    (case aCInvalidTie => k_is)
    (case xLInvalidTie => k_is)
    (case saInvalidTie => k_is)
    (case gaInvalidTie => k_is)
    (case ggInvalidTie => k_is)
    (case nbInvalidTie => k_is)
    (case aIInvalidTie => k_is)
    (case tIInvalidTie => k_is)
    (case lIInvalidTie => k_is)
    (case cIInvalidTie => k_is)
    (case kIInvalidTie => k_is)
    (case kCInvalidTie => k_is)
    (case eCInvalidTie => k_is)
    (case tCInvalidTie => k_is)
    (case hCInvalidTie => k_is)
    (case iCInvalidTie => k_is)
    (case sCInvalidTie => first | k_is | rfl)
    (case aCMismatch => k_is)
    (case qXMismatch => first | k_exc | k_is | rfl | decide +kernel)
    (case gaMismatch => k_is)
    (case ggMismatch => k_is)
    (case kCMismatch => k_is)
    (case eCMismatch => k_is)
    (case tCMismatch => k_is)
    (case hCMismatch => k_is)
    (case iCMismatch => k_is)
    (case sCMismatch => first | k_is | rfl)
    (case aCPourError => k_is)
    (case qXPourError => first | k_exc | k_is | rfl | decide +kernel)
    (case gaPourError => k_is)
    (case ggPourError => k_is)
    (case kCPourError => k_is)
    (case eCPourError => k_is)
    (case tCPourError => k_is)
    (case hCPourError => k_is)
    (case iCPourError => k_is)
    (case sCPourError => first | k_is | rfl)
    (case hN0 => k_is)
    (case hT0 => k_is)
    (case hAContradiction => k_is)
    (case hMContradiction => k_is)
    (case sVContradiction => first | k_is | rfl)
    (case sXContradiction_DuplicateName => first | k_is | rfl)
    (case sXContradiction_InvalidAction => first | k_is | rfl)
    (case sXContradiction_InvalidCapacity => first | k_is | rfl)
    (case sXContradiction_InvalidForm => first | k_is | rfl)
    (case sXContradiction_InvalidName => first | k_is | rfl)
    (case sXContradiction_InvalidNumber => first | k_is | rfl)
    (case sXContradiction_InvalidOutcome => first | k_is | rfl)
    (case sXContradiction_InvalidSymbol => first | k_is | rfl)
    (case sXContradiction_InvalidText => first | k_is | rfl)
    (case sXContradiction_InvalidTie => first | k_is | rfl)
    (case sXContradiction_Mismatch => first | k_is | rfl)
    (case sXContradiction_PourError => first | k_is | rfl)
    (case hADuplicateName => k_is)
    (case hMDuplicateName => k_is)
    (case sVDuplicateName => first | k_is | rfl)
    (case sXDuplicateName_Contradiction => first | k_is | rfl)
    (case sXDuplicateName_InvalidAction => first | k_is | rfl)
    (case sXDuplicateName_InvalidCapacity => first | k_is | rfl)
    (case sXDuplicateName_InvalidForm => first | k_is | rfl)
    (case sXDuplicateName_InvalidName => first | k_is | rfl)
    (case sXDuplicateName_InvalidNumber => first | k_is | rfl)
    (case sXDuplicateName_InvalidOutcome => first | k_is | rfl)
    (case sXDuplicateName_InvalidSymbol => first | k_is | rfl)
    (case sXDuplicateName_InvalidText => first | k_is | rfl)
    (case sXDuplicateName_InvalidTie => first | k_is | rfl)
    (case sXDuplicateName_Mismatch => first | k_is | rfl)
    (case sXDuplicateName_PourError => first | k_is | rfl)
    (case hAInvalidAction => k_is)
    (case hMInvalidAction => k_is)
    (case sVInvalidAction => first | k_is | rfl)
    (case sXInvalidAction_Contradiction => first | k_is | rfl)
    (case sXInvalidAction_DuplicateName => first | k_is | rfl)
    (case sXInvalidAction_InvalidCapacity => first | k_is | rfl)
    (case sXInvalidAction_InvalidForm => first | k_is | rfl)
    (case sXInvalidAction_InvalidName => first | k_is | rfl)
    (case sXInvalidAction_InvalidNumber => first | k_is | rfl)
    (case sXInvalidAction_InvalidOutcome => first | k_is | rfl)
    (case sXInvalidAction_InvalidSymbol => first | k_is | rfl)
    (case sXInvalidAction_InvalidText => first | k_is | rfl)
    (case sXInvalidAction_InvalidTie => first | k_is | rfl)
    (case sXInvalidAction_Mismatch => first | k_is | rfl)
    (case sXInvalidAction_PourError => first | k_is | rfl)
    (case hAInvalidCapacity => k_is)
    (case hMInvalidCapacity => k_is)
    (case sVInvalidCapacity => first | k_is | rfl)
    (case sXInvalidCapacity_Contradiction => first | k_is | rfl)
    (case sXInvalidCapacity_DuplicateName => first | k_is | rfl)
    (case sXInvalidCapacity_InvalidAction => first | k_is | rfl)
    (case sXInvalidCapacity_InvalidForm => first | k_is | rfl)
    (case sXInvalidCapacity_InvalidName => first | k_is | rfl)
    (case sXInvalidCapacity_InvalidNumber => first | k_is | rfl)
    (case sXInvalidCapacity_InvalidOutcome => first | k_is | rfl)
    (case sXInvalidCapacity_InvalidSymbol => first | k_is | rfl)
    (case sXInvalidCapacity_InvalidText => first | k_is | rfl)
    (case sXInvalidCapacity_InvalidTie => first | k_is | rfl)
    (case sXInvalidCapacity_Mismatch => first | k_is | rfl)
    (case sXInvalidCapacity_PourError => first | k_is | rfl)
    (case hAInvalidForm => k_is)
    (case hMInvalidForm => k_is)
    (case sVInvalidForm => first | k_is | rfl)
    (case sXInvalidForm_Contradiction => first | k_is | rfl)
    (case sXInvalidForm_DuplicateName => first | k_is | rfl)
    (case sXInvalidForm_InvalidAction => first | k_is | rfl)
    (case sXInvalidForm_InvalidCapacity => first | k_is | rfl)
    (case sXInvalidForm_InvalidName => first | k_is | rfl)
    (case sXInvalidForm_InvalidNumber => first | k_is | rfl)
    (case sXInvalidForm_InvalidOutcome => first | k_is | rfl)
    (case sXInvalidForm_InvalidSymbol => first | k_is | rfl)
    (case sXInvalidForm_InvalidText => first | k_is | rfl)
    (case sXInvalidForm_InvalidTie => first | k_is | rfl)
    (case sXInvalidForm_Mismatch => first | k_is | rfl)
    (case sXInvalidForm_PourError => first | k_is | rfl)
    (case hAInvalidName => k_is)
    (case hMInvalidName => k_is)
    (case sVInvalidName => first | k_is | rfl)
    (case sXInvalidName_Contradiction => first | k_is | rfl)
    (case sXInvalidName_DuplicateName => first | k_is | rfl)
    (case sXInvalidName_InvalidAction => first | k_is | rfl)
    (case sXInvalidName_InvalidCapacity => first | k_is | rfl)
    (case sXInvalidName_InvalidForm => first | k_is | rfl)
    (case sXInvalidName_InvalidNumber => first | k_is | rfl)
    (case sXInvalidName_InvalidOutcome => first | k_is | rfl)
    (case sXInvalidName_InvalidSymbol => first | k_is | rfl)
    (case sXInvalidName_InvalidText => first | k_is | rfl)
    (case sXInvalidName_InvalidTie => first | k_is | rfl)
    (case sXInvalidName_Mismatch => first | k_is | rfl)
    (case sXInvalidName_PourError => first | k_is | rfl)
    (case hAInvalidNumber => k_is)
    (case hMInvalidNumber => k_is)
    (case sVInvalidNumber => first | k_is | rfl)
    (case sXInvalidNumber_Contradiction => first | k_is | rfl)
    (case sXInvalidNumber_DuplicateName => first | k_is | rfl)
    (case sXInvalidNumber_InvalidAction => first | k_is | rfl)
    (case sXInvalidNumber_InvalidCapacity => first | k_is | rfl)
    (case sXInvalidNumber_InvalidForm => first | k_is | rfl)
    (case sXInvalidNumber_InvalidName => first | k_is | rfl)
    (case sXInvalidNumber_InvalidOutcome => first | k_is | rfl)
    (case sXInvalidNumber_InvalidSymbol => first | k_is | rfl)
    (case sXInvalidNumber_InvalidText => first | k_is | rfl)
    (case sXInvalidNumber_InvalidTie => first | k_is | rfl)
    (case sXInvalidNumber_Mismatch => first | k_is | rfl)
    (case sXInvalidNumber_PourError => first | k_is | rfl)
    (case hAInvalidOutcome => k_is)
    (case hMInvalidOutcome => k_is)
    (case sVInvalidOutcome => first | k_is | rfl)
    (case sXInvalidOutcome_Contradiction => first | k_is | rfl)
    (case sXInvalidOutcome_DuplicateName => first | k_is | rfl)
    (case sXInvalidOutcome_InvalidAction => first | k_is | rfl)
    (case sXInvalidOutcome_InvalidCapacity => first | k_is | rfl)
    (case sXInvalidOutcome_InvalidForm => first | k_is | rfl)
    (case sXInvalidOutcome_InvalidName => first | k_is | rfl)
    (case sXInvalidOutcome_InvalidNumber => first | k_is | rfl)
    (case sXInvalidOutcome_InvalidSymbol => first | k_is | rfl)
    (case sXInvalidOutcome_InvalidText => first | k_is | rfl)
    (case sXInvalidOutcome_InvalidTie => first | k_is | rfl)
    (case sXInvalidOutcome_Mismatch => first | k_is | rfl)
    (case sXInvalidOutcome_PourError => first | k_is | rfl)
    (case hAInvalidSymbol => k_is)
    (case hMInvalidSymbol => k_is)
    (case sVInvalidSymbol => first | k_is | rfl)
    (case sXInvalidSymbol_Contradiction => first | k_is | rfl)
    (case sXInvalidSymbol_DuplicateName => first | k_is | rfl)
    (case sXInvalidSymbol_InvalidAction => first | k_is | rfl)
    (case sXInvalidSymbol_InvalidCapacity => first | k_is | rfl)
    (case sXInvalidSymbol_InvalidForm => first | k_is | rfl)
    (case sXInvalidSymbol_InvalidName => first | k_is | rfl)
    (case sXInvalidSymbol_InvalidNumber => first | k_is | rfl)
    (case sXInvalidSymbol_InvalidOutcome => first | k_is | rfl)
    (case sXInvalidSymbol_InvalidText => first | k_is | rfl)
    (case sXInvalidSymbol_InvalidTie => first | k_is | rfl)
    (case sXInvalidSymbol_Mismatch => first | k_is | rfl)
    (case sXInvalidSymbol_PourError => first | k_is | rfl)
    (case hAInvalidText => k_is)
    (case hMInvalidText => k_is)
    (case sVInvalidText => first | k_is | rfl)
    (case sXInvalidText_Contradiction => first | k_is | rfl)
    (case sXInvalidText_DuplicateName => first | k_is | rfl)
    (case sXInvalidText_InvalidAction => first | k_is | rfl)
    (case sXInvalidText_InvalidCapacity => first | k_is | rfl)
    (case sXInvalidText_InvalidForm => first | k_is | rfl)
    (case sXInvalidText_InvalidName => first | k_is | rfl)
    (case sXInvalidText_InvalidNumber => first | k_is | rfl)
    (case sXInvalidText_InvalidOutcome => first | k_is | rfl)
    (case sXInvalidText_InvalidSymbol => first | k_is | rfl)
    (case sXInvalidText_InvalidTie => first | k_is | rfl)
    (case sXInvalidText_Mismatch => first | k_is | rfl)
    (case sXInvalidText_PourError => first | k_is | rfl)
    (case hAInvalidTie => k_is)
    (case hMInvalidTie => k_is)
    (case sVInvalidTie => first | k_is | rfl)
    (case sXInvalidTie_Contradiction => first | k_is | rfl)
    (case sXInvalidTie_DuplicateName => first | k_is | rfl)
    (case sXInvalidTie_InvalidAction => first | k_is | rfl)
    (case sXInvalidTie_InvalidCapacity => first | k_is | rfl)
    (case sXInvalidTie_InvalidForm => first | k_is | rfl)
    (case sXInvalidTie_InvalidName => first | k_is | rfl)
    (case sXInvalidTie_InvalidNumber => first | k_is | rfl)
    (case sXInvalidTie_InvalidOutcome => first | k_is | rfl)
    (case sXInvalidTie_InvalidSymbol => first | k_is | rfl)
    (case sXInvalidTie_InvalidText => first | k_is | rfl)
    (case sXInvalidTie_Mismatch => first | k_is | rfl)
    (case sXInvalidTie_PourError => first | k_is | rfl)
    (case hAMismatch => k_is)
    (case hMMismatch => k_is)
    (case sVMismatch => first | k_is | rfl)
    (case sXMismatch_Contradiction => first | k_is | rfl)
    (case sXMismatch_DuplicateName => first | k_is | rfl)
    (case sXMismatch_InvalidAction => first | k_is | rfl)
    (case sXMismatch_InvalidCapacity => first | k_is | rfl)
    (case sXMismatch_InvalidForm => first | k_is | rfl)
    (case sXMismatch_InvalidName => first | k_is | rfl)
    (case sXMismatch_InvalidNumber => first | k_is | rfl)
    (case sXMismatch_InvalidOutcome => first | k_is | rfl)
    (case sXMismatch_InvalidSymbol => first | k_is | rfl)
    (case sXMismatch_InvalidText => first | k_is | rfl)
    (case sXMismatch_InvalidTie => first | k_is | rfl)
    (case sXMismatch_PourError => first | k_is | rfl)
    (case hAPourError => k_is)
    (case hMPourError => k_is)
    (case sVPourError => first | k_is | rfl)
    (case sXPourError_Contradiction => first | k_is | rfl)
    (case sXPourError_DuplicateName => first | k_is | rfl)
    (case sXPourError_InvalidAction => first | k_is | rfl)
    (case sXPourError_InvalidCapacity => first | k_is | rfl)
    (case sXPourError_InvalidForm => first | k_is | rfl)
    (case sXPourError_InvalidName => first | k_is | rfl)
    (case sXPourError_InvalidNumber => first | k_is | rfl)
    (case sXPourError_InvalidOutcome => first | k_is | rfl)
    (case sXPourError_InvalidSymbol => first | k_is | rfl)
    (case sXPourError_InvalidText => first | k_is | rfl)
    (case sXPourError_InvalidTie => first | k_is | rfl)
    (case sXPourError_Mismatch => first | k_is | rfl)
    (case kn => first | rfl | k_is | decide +kernel)
#print axioms PySem.Challenge.cw_blindpour_k01_names_and_exceptions_holds
namespace KX
end KX
