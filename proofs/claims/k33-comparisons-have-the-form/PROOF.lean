import PyProof.Rows.All
import Wide.All
import OpenK.AllK
import Wide.FinOn
import HandS.ForMost
import HandS.ForExc
import HandS.CallSlots
import HandS.IsInst
import HandS.DictComp
import HandS.More
import HandS.Deep
import HandS.SetKeys
import HandS.Strs
import HandS.Conv
import HandS.Codes
import HandS.Flow
import HandS.Style
import HandS.Wide
import HandS.DeepEq
import HandS.Lambda
import HandS.ExcValue
import KE.KDictDisplayH
import KE.KeyNested
import HandS.TupAny
import HandS.TupLe
import PyProof.StrBlock2
import PyProof.NeKinds
import HandS.DictEq
import HandS.WordsDict
import HandS.Walk
import KE.KDictPairs
import HandS.SetFor
import PyProof.Rows.SortShellAny
import HandS.Defaults
import HandS.Ends
import PyProof.ReprRoads
import PyProof.CallFns
import HandS.WideBits
import HandS.Zip
import HandS.Text
import KE.KTupSum
import KE.GoesEnum
import KE.GoesMore
import HandS.Iter
import HandS.ExcInit
import HandS.ExcField
import PyProof.Rows.RegReprOcc
import PyProof.ReprReads
import HandS.MakeKwOnly
import HandS.TupSets
import PyProof.SeqIndex
import PyProof.SetRoads
import HandS.ListItems
import KE.KDictList
import HandS.EndTab
import HandS.Replace
import HandS.Finally
import HandS.SortInts
import KE.KSortTupAny
import KE.KExcIs
import HandS.ExcOwn
import KE.KDictZip
import PyProof.TupleOfSeq
import PyProof.TupleOfGen
import KE.DataCmp
import KE.SortData
import PyProof.SeqRoads2
import PyProof.ReprLen
import PySem.Challenge.RW_blindpour_k33_comparisons_have_the_docum
set_option Elab.async false
set_option linter.all false
set_option maxRecDepth 100000
set_option maxHeartbeats 4000000
namespace DL
open PySem PySem.Spec PyProof.Rows L2
inductive D where
  | non | bl (b : Bool) | int (i : Int) | str (x : Str) | tup (xs : List D) | lst (xs : List D) | dic (ks : List Key) (xs : List D) | ref (n : Nat) | scr (ns : List Int)
inductive MO where
  | lst (xs : List D) | dic (ks : List Key) (xs : List D) | ldic (ks : List Key) (xs : List D) | ins (c : Str) (fs : List (Str × D)) | exc (c : Str) (fs : List (Str × D)) | kd (ks xs : List D)
abbrev Store := List MO
structure Wd where
  ρ : List Addr
  F : Hp
section
variable (K : PySem.W.Frag) (w : Wd)
mutual
def Rep : D → V → Prop
  | .non, v => v = .non
  | .bl b, v => v = .bl b
  | .int i, v => v = .int i
  | .str x, v => v = .str x
  | .tup xs, v => ∃ a vs, v = .ref a ∧ SqT K w.F a vs ∧ RepL xs vs
  | .lst xs, v => ∃ a vs, v = .ref a ∧ w.F a = some (.lst vs) ∧ RepL xs vs
  | .dic ks xs, v => ∃ a vs, v = .ref a ∧ (∃ o, w.F a = some (.frz o (.dK (ks.zip vs)))) ∧ ks.length = xs.length ∧ RepL xs vs
  | .ref n, v => ∃ a, v = .ref a ∧ w.ρ[n]? = some a
  | .scr ns, v => ∃ a, v = .ref a ∧ ((∃ o, w.F a = some (.frz o (.lst (ns.map V.int)))) ∨ SqL K (fun _ => none) a (ns.map V.int))
def RepL : List D → List V → Prop
  | [], vs => vs = []
  | x :: xs, vs => ∃ v r, vs = v :: r ∧ Rep x v ∧ RepL xs r
end
end
structure CT where
  c : Str → Addr
  t : List (Addr × Str)
  pw : Option (Program × World) := none
instance : CoeFun CT fun _ => Str → Addr := ⟨CT.c⟩
def KdP (P : Program) (W : World) (a : Addr) (es : List (NestedKey × Addr × V)) (h : Heap) : Prop :=
  ∃ ys : List (NestedKey × Addr × Value), Paired (fun p q => p.1 = q.1 ∧ p.2.1 = q.2.1 ∧ RelV p.2.2 q.2.2) es ys ∧ es.length ≤ sizeLine ∧ (a == sysModules) = false ∧
    ∃ o ar ep, h.get? a = some o ∧ o.ExactDict ∧ o.data = .dict ar ep ∧ ar.toList = ys.map (entryOfKey (nestedKind P W)) ∧ (ys.map (·.1)).Nodup
mutual
def nkD : D → Option NestedKey
  | .non => some .none
  | .bl b => some (.num (if b then 1 else 0))
  | .int i => some (.num i)
  | .str x => some (.text x)
  | .tup xs => (nkL xs).map .tup
  | _ => none
def nkL : List D → Option (List NestedKey)
  | [] => some []
  | x :: xs => (nkD x).bind fun k => (nkL xs).map fun l => k :: l
end
def keyT : D → Option NestedKey
  | .tup xs => (nkL xs).bind fun l => if (NestedKey.tup l).depth ≤ 8 then some (.tup l) else none
  | _ => none
def keysT : List D → Option (List NestedKey)
  | [] => some []
  | x :: xs => (keyT x).bind fun k => (keysT xs).map fun l => k :: l
def ExF (K : PySem.W.Frag) (w : Wd) (fs : List (Str × D)) (dx : Option Addr) : Prop :=
  (fs = [] ∧ dx = none) ∨ ∃ (d : Addr) (vs : List V), dx = some d ∧ w.F d = some (.xd ((fs.map (·.1)).zip vs)) ∧ RepL K w (fs.map (·.2)) vs
def RepO (K : PySem.W.Frag) (ct : CT) (w : Wd) : MO → HO → Prop
  | .lst xs, h => ∃ vs, h = .lst vs ∧ RepL K w xs vs
  | .dic ks xs, h => ∃ vs, h = .dK (ks.zip vs) ∧ ks.length = xs.length ∧ RepL K w xs vs
  | .ldic ks xs, h => ∃ ob vs, h = .frz ob (.dK (ks.zip vs)) ∧ ks.length = xs.length ∧ RepL K w xs vs
  | .ins c fs, h => ∃ dx vs, h = .ins (ct c) dx ((fs.map (·.1)).zip vs) ∧ RepL K w (fs.map (·.2)) vs
  | .exc c fs, h => ∃ (oe : Obj) (dx : Option Addr), h = .frz oe (.own 0) ∧ Zc (.ref (ct c)) dx oe ∧ (∃ ws, oe.data = .fields ws) ∧ ExF K w fs dx
  | .kd ks xs, h => ∃ (P : Program) (W : World) (a : Addr) (es : List (NestedKey × Addr × V)), ct.pw = some (P, W) ∧ h = .ext (KdP P W a es) ∧ keysT ks = some (es.map (·.1)) ∧ RepL K w ks (es.map fun e => V.ref e.2.1) ∧ RepL K w xs (es.map (·.2.2))
structure Step (w : Wd) (H : Hp) (w' : Wd) (H' : Hp) : Prop where
  ρ : w.ρ <+: w'.ρ
  F : Same w.F w'.F
  fr : ∀ a o, H a = some o → (∀ ps, o ≠ .tbl ps) → w.F a = none → a ∉ w.ρ → H' a = some o ∧ w'.F a = none ∧ a ∉ w'.ρ
def Sub (F H : Hp) : Prop := ∀ b o, F b = some o → H b = some o ∨ ((∃ kvs, o = HO.dK kvs) ∧ ∃ ob, H b = some (.frz ob o))
theorem Sub.free {F H : Hp} (s : Sub F H) {b : Addr} (h : H b = none) : F b = none := by
  cases q : F b with
  | none => rfl
  | some o =>
    rcases s b o q with z | ⟨_, ob, z⟩
    · rw [h] at z; cases z
    · rw [h] at z; cases z
theorem Sub.ne {F H : Hp} (s : Sub F H) {b p : Addr} {o : HO} (h : F b = some o) (hp : H p = none) : b ≠ p := fun z => by
  rw [z, s.free hp] at h
  cases h
def NiceH : HO → Prop
  | .tup _ => False
  | .tbl _ => False
  | .ext φ => ∃ P W a es, φ = KdP P W a es
  | .frz o (.tup _) => o.dict = none
  | _ => True
theorem NiceH.ntbl {o : HO} (h : NiceH o) : ∀ ps, o ≠ .tbl ps := fun ps e => by
  rw [e] at h
  exact h
theorem RepO.niceH {K : PySem.W.Frag} {ct : CT} {w : Wd} {o : MO} {ho : HO} (h : RepO K ct w o ho) : NiceH ho := by
  cases o with
  | lst xs => obtain ⟨vs, rfl, _⟩ := h; trivial
  | dic ks xs => obtain ⟨vs, rfl, _⟩ := h; trivial
  | ldic ks xs => obtain ⟨ob, vs, rfl, _⟩ := h; trivial
  | ins c fs => obtain ⟨dx, vs, rfl, _⟩ := h; trivial
  | exc c fs => obtain ⟨oe, dx, rfl, _⟩ := h; trivial
  | kd ks xs => obtain ⟨P, W, a, es, _, rfl, _⟩ := h; exact ⟨P, W, a, es, rfl⟩
def solo (a : Addr) (o : Obj) : Heap := ⟨(Array.replicate (a + 1) { cls := .none, data := .freed : Obj }).set! a o, {}⟩
theorem solo_at {a : Addr} {o : Obj} (h : o.data ≠ .freed) : (solo a o).get? a = some o := by
  have e : (solo a o).objs[a]? = some o := by
    unfold solo
    simp
  unfold Heap.get?
  rw [e]
  split
  · rename_i q
    cases q
    exact absurd rfl h
  · rfl
theorem solo_ne {a b : Addr} {o : Obj} (h : b ≠ a) : (solo a o).get? b = none := by
  have e : (solo a o).objs[b]? = none ∨ (solo a o).objs[b]? = some { cls := .none, data := .freed : Obj } := by
    unfold solo
    simp only [Array.set!_eq_setIfInBounds, Array.getElem?_setIfInBounds]
    rw [if_neg (fun z => h z.symm)]
    by_cases l : b < a + 1
    · right
      simp [l]
    · left
      simp [l]
  unfold Heap.get?
  rcases e with e | e <;> rw [e]
theorem code_nice {c : Addr} {q : Str} : ¬ NiceH (LamX.CodeO c q) := by
  rintro ⟨P, W, a, es, e⟩
  have p : (fun h : Heap => ∃ (oc : Obj) (vs : Array Value) (t : Tok), h.get? c = some oc ∧ oc.data = .fields vs ∧ vs[1]? = some (.str q t)) (solo c { cls := .none, data := .fields #[.none, .str q 0] }) := ⟨_, _, 0, solo_at (by simp), rfl, by simp⟩
  rw [e] at p
  obtain ⟨ys, _, _, _, o, ar, ep, g, _, d, _⟩ := p
  by_cases z : a = c
  · subst z
    rw [solo_at (by simp)] at g
    cases g
    cases d
  · rw [solo_ne z] at g
    cases g
theorem tabs_at {T : List (Addr × Str)} {H H' : Hp} {p : Addr} (t : LamX.Tabs T H) (h : ∀ o, H p = some o → NiceH o) (e : ∀ b, b ≠ p → H' b = H b) : LamX.Tabs T H' := fun q hq => by
  obtain ⟨ps, h1, h2, h3⟩ := t q hq
  have np : q.1 ≠ p := fun z => by
    have : NiceH (.tbl ps) := h _ (by rw [← z]; exact h1)
    exact this
  refine ⟨ps, by rw [e _ np]; exact h1, h2, fun pos cv hc => ?_⟩
  obtain ⟨c, e1, e2⟩ := h3 pos cv hc
  have nc : c ≠ p := fun z => by
    exact code_nice (h _ (by rw [← z]; exact e2))
  exact ⟨c, e1, by rw [e _ nc]; exact e2⟩
theorem tabs_upd {T : List (Addr × Str)} {H : Hp} {p : Addr} {u : HO} (t : LamX.Tabs T H) (h : ∀ o, H p = some o → NiceH o) : LamX.Tabs T (upd H p u) := tabs_at t h fun b hb => upd_ne hb
theorem tabs_new {T : List (Addr × Str)} {H : Hp} {p : Addr} {u : HO} (t : LamX.Tabs T H) (h : H p = none) : LamX.Tabs T (upd H p u) := tabs_upd t fun o e => by rw [h] at e; cases e
structure Rl (K : PySem.W.Frag) (ct : CT) (w : Wd) (M : Store) (H : Hp) : Prop where
  sub : Sub w.F H
  len : M.length = w.ρ.length
  nd : w.ρ.Nodup
  mo : ∀ (n : Nat) (o : MO), M[n]? = some o → ∃ a ho, w.ρ[n]? = some a ∧ w.F a = none ∧ H a = some ho ∧ RepO K ct w o ho
  nice : ∀ a o, w.F a = some o → NiceH o
  tabs : LamX.Tabs ct.t H
inductive Slot where
  | val (d : D) | own (o : MO)
abbrev En := List (Option Slot)
structure Base where
  w : Wd
  H : Hp
structure Sl (K : PySem.W.Frag) (ct : CT) (b : Base) (w : Wd) (en : En) (σ : L2.St) (H : Hp) : Prop where
  len : en.length = σ.length
  val : ∀ (i : Nat) (d : D), en[i]? = some (some (.val d)) → ∃ v, σ[i]? = some (some v) ∧ Rep K w d v
  own : ∀ (i : Nat) (o : MO), en[i]? = some (some (.own o)) → ∃ a ho, σ[i]? = some (some (.ref a)) ∧ Fr0 b.H a ∧ w.F a = none ∧ a ∉ w.ρ ∧ H a = some ho ∧ RepO K ct w o ho
  sep : ∀ (i j : Nat) (o o' : MO), i ≠ j → en[i]? = some (some (.own o)) → en[j]? = some (some (.own o')) → σ[i]? ≠ σ[j]?
theorem Same.rd {H H' : Hp} (e : Same H H') {a : Addr} {u : HO} (r : Rd H a u) : Rd H' a u := by
  rcases r with r | ⟨o, r⟩
  · exact .inl (e _ _ r)
  · exact .inr ⟨o, e _ _ r⟩
theorem Same.sqt {K : PySem.W.Frag} {H H' : Hp} {a : Addr} {xs : List V} (e : Same H H') (h : SqT K H a xs) : SqT K H' a xs := by
  rcases h with h | h
  · exact .inl (Same.rd e h)
  · exact .inr h
section
variable {K : PySem.W.Frag} {ct : CT} {w w' w2 : Wd} {H H' H2 : Hp}
theorem prefix_get {α : Type} {l l' : List α} (h : l <+: l') {n : Nat} {a : α} (e : l[n]? = some a) : l'[n]? = some a := by
  obtain ⟨r, rfl⟩ := h
  obtain ⟨h1, h2⟩ := List.getElem?_eq_some_iff.mp e
  rw [List.getElem?_append_left h1]
  exact e
mutual
theorem Rep.mono (hρ : w.ρ <+: w'.ρ) (hF : Same w.F w'.F) : ∀ (d : D) (v : V), Rep K w d v → Rep K w' d v
  | .non, v, h => by simpa only [Rep] using h
  | .bl b, v, h => by simpa only [Rep] using h
  | .int i, v, h => by simpa only [Rep] using h
  | .str x, v, h => by simpa only [Rep] using h
  | .tup xs, v, h => by
    simp only [Rep] at h ⊢
    obtain ⟨a, vs, rfl, h1, h2⟩ := h
    exact ⟨a, vs, rfl, Same.sqt hF h1, RepL.mono hρ hF xs vs h2⟩
  | .lst xs, v, h => by
    simp only [Rep] at h ⊢
    obtain ⟨a, vs, rfl, h1, h2⟩ := h
    exact ⟨a, vs, rfl, hF _ _ h1, RepL.mono hρ hF xs vs h2⟩
  | .scr ns, v, h => by
    simp only [Rep] at h ⊢
    obtain ⟨a, rfl, h1⟩ := h
    exact ⟨a, rfl, h1.imp (fun ⟨o, e⟩ => ⟨o, hF _ _ e⟩) id⟩
  | .dic ks xs, v, h => by
    simp only [Rep] at h ⊢
    obtain ⟨a, vs, rfl, ⟨o, h1⟩, h2, h3⟩ := h
    exact ⟨a, vs, rfl, ⟨o, hF _ _ h1⟩, h2, RepL.mono hρ hF xs vs h3⟩
  | .ref n, v, h => by
    simp only [Rep] at h ⊢
    obtain ⟨a, rfl, h1⟩ := h
    exact ⟨a, rfl, prefix_get hρ h1⟩
theorem RepL.mono (hρ : w.ρ <+: w'.ρ) (hF : Same w.F w'.F) : ∀ (d : List D) (v : List V), RepL K w d v → RepL K w' d v
  | [], v, h => by simpa only [RepL] using h
  | x :: xs, v, h => by
    simp only [RepL] at h ⊢
    obtain ⟨y, r, rfl, h1, h2⟩ := h
    exact ⟨y, r, rfl, Rep.mono hρ hF x y h1, RepL.mono hρ hF xs r h2⟩
end
theorem ExF.mono (hρ : w.ρ <+: w'.ρ) (hF : Same w.F w'.F) {fs : List (Str × D)} {dx : Option Addr} (h : ExF K w fs dx) : ExF K w' fs dx := by
  rcases h with h | ⟨d, vs, e, h, r⟩
  · exact .inl h
  · exact .inr ⟨d, vs, e, hF _ _ h, RepL.mono hρ hF _ _ r⟩
theorem RepO.mono (hρ : w.ρ <+: w'.ρ) (hF : Same w.F w'.F) {o : MO} {ho : HO} (h : RepO K ct w o ho) : RepO K ct w' o ho := by
  cases o with
  | lst xs => obtain ⟨vs, e, r⟩ := h; exact ⟨vs, e, RepL.mono hρ hF _ _ r⟩
  | dic ks xs => obtain ⟨vs, e, l, r⟩ := h; exact ⟨vs, e, l, RepL.mono hρ hF _ _ r⟩
  | ldic ks xs => obtain ⟨ob, vs, e, l, r⟩ := h; exact ⟨ob, vs, e, l, RepL.mono hρ hF _ _ r⟩
  | ins c fs => obtain ⟨dx, vs, e, r⟩ := h; exact ⟨dx, vs, e, RepL.mono hρ hF _ _ r⟩
  | exc c fs => obtain ⟨oe, dx, e, z, d, r⟩ := h; exact ⟨oe, dx, e, z, d, ExF.mono hρ hF r⟩
  | kd ks xs => obtain ⟨P, W, a, es, e1, e2, e3, r1, r2⟩ := h; exact ⟨P, W, a, es, e1, e2, e3, RepL.mono hρ hF _ _ r1, RepL.mono hρ hF _ _ r2⟩
theorem Step.rep (s : Step w H w' H') {d : D} {v : V} (h : Rep K w d v) : Rep K w' d v := Rep.mono s.ρ s.F _ _ h
theorem Step.repL (s : Step w H w' H') {d : List D} {v : List V} (h : RepL K w d v) : RepL K w' d v := RepL.mono s.ρ s.F _ _ h
theorem Step.repO (s : Step w H w' H') {o : MO} {h : HO} (x : RepO K ct w o h) : RepO K ct w' o h := RepO.mono s.ρ s.F x
theorem Step.refl (w : Wd) (H : Hp) : Step w H w H := ⟨List.prefix_refl _, Same.refl _, fun _ _ h1 _ h2 h3 => ⟨h1, h2, h3⟩⟩
theorem Step.trans (a : Step w H w' H') (b : Step w' H' w2 H2) : Step w H w2 H2 :=
  ⟨a.ρ.trans b.ρ, a.F.trans b.F, fun c o h1 ht h2 h3 => let ⟨q1, q2, q3⟩ := a.fr c o h1 ht h2 h3; b.fr c o q1 ht q2 q3⟩
theorem Sl.step {b : Base} {en : En} {σ : L2.St} (x : Sl K ct b w en σ H) (s : Step w H w' H') : Sl K ct b w' en σ H' := by
  refine ⟨x.len, fun i d e => ?_, fun i o e => ?_, x.sep⟩
  · obtain ⟨v, h1, h2⟩ := x.val i d e
    exact ⟨v, h1, s.rep h2⟩
  · obtain ⟨a, ho, h1, h2, h3, h4, h5, h6⟩ := x.own i o e
    obtain ⟨q1, q2, q3⟩ := s.fr a ho h5 h6.niceH.ntbl h3 h4
    exact ⟨a, ho, h1, h2, q2, q3, q1, s.repO h6⟩
theorem RepL.length : ∀ {ds : List D} {vs : List V}, RepL K w ds vs → ds.length = vs.length
  | [], vs, h => by
    simp only [RepL] at h
    rw [h]
    rfl
  | x :: xs, vs, h => by
    simp only [RepL] at h
    obtain ⟨v, r, rfl, _, h2⟩ := h
    simp only [List.length_cons, RepL.length h2]
theorem RepL.get : ∀ {ds : List D} {vs : List V} {i : Nat} {d : D}, RepL K w ds vs → ds[i]? = some d → ∃ v, vs[i]? = some v ∧ Rep K w d v
  | [], vs, i, d, h, e => by simp at e
  | x :: xs, vs, 0, d, h, e => by
    simp only [RepL] at h
    obtain ⟨v, r, rfl, h1, h2⟩ := h
    simp only [List.getElem?_cons_zero, Option.some.injEq] at e
    subst e
    exact ⟨v, rfl, h1⟩
  | x :: xs, vs, i + 1, d, h, e => by
    simp only [RepL] at h
    obtain ⟨v, r, rfl, h1, h2⟩ := h
    simp only [List.getElem?_cons_succ] at e ⊢
    exact RepL.get h2 e
theorem RepL.get' : ∀ {ds : List D} {vs : List V} {i : Nat} {v : V}, RepL K w ds vs → vs[i]? = some v → ∃ d, ds[i]? = some d ∧ Rep K w d v
  | [], vs, i, v, h, e => by
    simp only [RepL] at h
    rw [h] at e
    simp at e
  | x :: xs, vs, 0, d, h, e => by
    simp only [RepL] at h
    obtain ⟨v, r, rfl, h1, h2⟩ := h
    simp only [List.getElem?_cons_zero, Option.some.injEq] at e
    subst e
    exact ⟨x, rfl, h1⟩
  | x :: xs, vs, i + 1, d, h, e => by
    simp only [RepL] at h
    obtain ⟨v, r, rfl, h1, h2⟩ := h
    simp only [List.getElem?_cons_succ] at e ⊢
    exact RepL.get' h2 e
theorem RepL.append : ∀ {ds es : List D} {vs us : List V}, RepL K w ds vs → RepL K w es us → RepL K w (ds ++ es) (vs ++ us)
  | [], es, vs, us, h, h' => by
    simp only [RepL] at h
    rw [h]
    exact h'
  | x :: xs, es, vs, us, h, h' => by
    simp only [RepL] at h
    obtain ⟨v, r, rfl, h1, h2⟩ := h
    simp only [List.cons_append, RepL]
    exact ⟨v, r ++ us, rfl, h1, RepL.append h2 h'⟩
theorem RepL.nil : RepL K w [] [] := by simp only [RepL]
theorem RepL.cons {d : D} {ds : List D} {v : V} {vs : List V} (h : Rep K w d v) (hs : RepL K w ds vs) : RepL K w (d :: ds) (v :: vs) := by
  simp only [RepL]
  exact ⟨v, vs, rfl, h, hs⟩
theorem RepL.one {d : D} {v : V} (h : Rep K w d v) : RepL K w [d] [v] := .cons h .nil
theorem RepL.cons_iff {d : D} {ds : List D} {vs : List V} : RepL K w (d :: ds) vs ↔ ∃ v r, vs = v :: r ∧ Rep K w d v ∧ RepL K w ds r := by simp only [RepL]
theorem RepL.nil_iff {vs : List V} : RepL K w [] vs ↔ vs = [] := by simp only [RepL]
theorem RepL.take : ∀ {ds : List D} {vs : List V} (n : Nat), RepL K w ds vs → RepL K w (ds.take n) (vs.take n)
  | ds, vs, 0, _ => by
    rw [List.take_zero, List.take_zero]
    exact .nil
  | [], vs, n + 1, h => by
    rw [RepL.nil_iff] at h
    rw [h]
    exact .nil
  | x :: xs, vs, n + 1, h => by
    rw [RepL.cons_iff] at h
    obtain ⟨v, r, rfl, h1, h2⟩ := h
    exact .cons h1 (RepL.take n h2)
theorem RepL.drop : ∀ {ds : List D} {vs : List V} (n : Nat), RepL K w ds vs → RepL K w (ds.drop n) (vs.drop n)
  | ds, vs, 0, h => h
  | [], vs, n + 1, h => by
    rw [RepL.nil_iff] at h
    rw [h]
    exact .nil
  | x :: xs, vs, n + 1, h => by
    rw [RepL.cons_iff] at h
    obtain ⟨v, r, rfl, h1, h2⟩ := h
    exact RepL.drop n h2
theorem RepL.set {d : D} {v : V} (hv : Rep K w d v) : ∀ {ds : List D} {vs : List V} (n : Nat), RepL K w ds vs → RepL K w (ds.set n d) (vs.set n v)
  | [], vs, n, h => by
    rw [RepL.nil_iff] at h
    rw [h]
    exact .nil
  | x :: xs, vs, 0, h => by
    rw [RepL.cons_iff] at h
    obtain ⟨u, r, rfl, h1, h2⟩ := h
    exact .cons hv h2
  | x :: xs, vs, n + 1, h => by
    rw [RepL.cons_iff] at h
    obtain ⟨u, r, rfl, h1, h2⟩ := h
    exact .cons h1 (RepL.set hv n h2)
theorem Rl.frozen {M : Store} (r : Rl K ct w M H) {p : Addr} {o : HO} (hp : H p = none) (hn : NiceH o) : Step w H ⟨w.ρ, upd w.F p o⟩ (upd H p o) ∧ Rl K ct ⟨w.ρ, upd w.F p o⟩ M (upd H p o) := by
  have fp : w.F p = none := r.sub.free hp
  have sF : Same w.F (upd w.F p o) := fun b u e => by
    rw [upd_ne (ne_of_none e fp)]
    exact e
  have st : Step w H ⟨w.ρ, upd w.F p o⟩ (upd H p o) := ⟨List.prefix_refl _, sF, fun a u h1 _ h2 h3 => by
    have ne := ne_of_none h1 hp
    refine ⟨by rw [upd_ne ne]; exact h1, ?_, h3⟩
    show upd w.F p o a = none
    rw [upd_ne ne]
    exact h2⟩
  refine ⟨st, fun b u e => ?_, r.len, r.nd, fun n u e => ?_, fun b u e => ?_, tabs_new r.tabs hp⟩
  · by_cases hb : b = p
    · subst hb
      have e' : upd w.F b o b = some u := e
      rw [upd_same] at e'
      rw [upd_same]
      exact .inl e'
    · have e' : upd w.F p o b = some u := e
      rw [upd_ne hb] at e'
      rw [upd_ne hb]
      exact r.sub _ _ e'
  · obtain ⟨a, ho, h1, h2, h3, h4⟩ := r.mo n u e
    have ne := ne_of_none h3 hp
    refine ⟨a, ho, h1, ?_, by rw [upd_ne ne]; exact h3, st.repO h4⟩
    show upd w.F p o a = none
    rw [upd_ne ne]
    exact h2
  · by_cases hb : b = p
    · subst hb
      have e' : upd w.F b o b = some u := e
      rw [upd_same] at e'
      cases e'
      exact hn
    · have e' : upd w.F p o b = some u := e
      rw [upd_ne hb] at e'
      exact r.nice _ _ e'
theorem Rl.aside {M : Store} (r : Rl K ct w M H) {p : Addr} {o : HO} (hp : H p = none) : Step w H w (upd H p o) ∧ Rl K ct w M (upd H p o) := by
  refine ⟨⟨List.prefix_refl _, Same.refl _, fun a u h1 _ h2 h3 => ⟨by rw [upd_ne (ne_of_none h1 hp)]; exact h1, h2, h3⟩⟩, fun b u e => ?_, r.len, r.nd, fun n u e => ?_, r.nice, tabs_new r.tabs hp⟩
  · rw [upd_ne (r.sub.ne e hp)]
    exact r.sub b u e
  · obtain ⟨a, ho, h1, h2, h3, h4⟩ := r.mo n u e
    exact ⟨a, ho, h1, h2, by rw [upd_ne (ne_of_none h3 hp)]; exact h3, h4⟩
theorem Rl.notin {M : Store} (r : Rl K ct w M H) {p : Addr} (hp : H p = none) : p ∉ w.ρ := fun hm => by
  obtain ⟨n, hn, e⟩ := List.getElem_of_mem hm
  have hM : n < M.length := by rw [r.len]; exact hn
  obtain ⟨a, ho, h1, h2, h3, h4⟩ := r.mo n M[n] (List.getElem?_eq_getElem hM)
  rw [List.getElem?_eq_getElem hn, e] at h1
  cases h1
  rw [hp] at h3
  cases h3
theorem Rl.alloc {M : Store} (r : Rl K ct w M H) {p : Addr} {ho : HO} {o : MO} (hp : H p = none) (ro : RepO K ct w o ho) : Step w H ⟨w.ρ ++ [p], w.F⟩ (upd H p ho) ∧ Rl K ct ⟨w.ρ ++ [p], w.F⟩ (M ++ [o]) (upd H p ho) := by
  have pp : w.ρ <+: w.ρ ++ [p] := List.prefix_append _ _
  have fp : w.F p = none := r.sub.free hp
  have st : Step w H ⟨w.ρ ++ [p], w.F⟩ (upd H p ho) := ⟨pp, Same.refl _, fun a u h1 _ h2 h3 => by
    have ne := ne_of_none h1 hp
    refine ⟨by rw [upd_ne ne]; exact h1, h2, ?_⟩
    show a ∉ w.ρ ++ [p]
    simp only [List.mem_append, List.mem_singleton, not_or]
    exact ⟨h3, ne⟩⟩
  refine ⟨st, fun b u e => ?_, ?_, ?_, fun n u e => ?_, r.nice, tabs_new r.tabs hp⟩
  · rw [upd_ne (r.sub.ne e hp)]
    exact r.sub b u e
  · show (M ++ [o]).length = (w.ρ ++ [p]).length
    simp [r.len]
  · show (w.ρ ++ [p]).Nodup
    rw [List.nodup_append]
    refine ⟨r.nd, by simp, fun a ha b hb => ?_⟩
    have : b = p := by simpa using hb
    subst this
    exact fun z => r.notin hp (z ▸ ha)
  · by_cases hn : n < M.length
    · rw [List.getElem?_append_left hn] at e
      obtain ⟨a, hu, h1, h2, h3, h4⟩ := r.mo n u e
      exact ⟨a, hu, prefix_get pp h1, h2, by rw [upd_ne (ne_of_none h3 hp)]; exact h3, st.repO h4⟩
    · rw [List.getElem?_append_right (by omega)] at e
      have hz : n - M.length = 0 := by
        cases q : n - M.length with
        | zero => rfl
        | succ k => rw [q] at e; simp at e
      rw [hz] at e
      simp only [List.getElem?_cons_zero, Option.some.injEq] at e
      subst e
      have hn' : n = w.ρ.length := by rw [← r.len]; omega
      refine ⟨p, ho, ?_, fp, upd_same, st.repO ro⟩
      show (w.ρ ++ [p])[n]? = some p
      rw [hn', List.getElem?_append_right (Nat.le_refl _)]
      simp
theorem Rl.write {M : Store} (r : Rl K ct w M H) {n : Nat} {a : Addr} {ho : HO} {o : MO} (ha : w.ρ[n]? = some a) (ro : RepO K ct w o ho) : Step w H w (upd H a ho) ∧ Rl K ct w (M.set n o) (upd H a ho) := by
  have hm : a ∈ w.ρ := List.mem_of_getElem? ha
  have hn : n < w.ρ.length := (List.getElem?_eq_some_iff.mp ha).1
  have hM : n < M.length := by rw [r.len]; exact hn
  obtain ⟨a', h0, g1, g2, g3, g4⟩ := r.mo n M[n] (List.getElem?_eq_getElem hM)
  rw [ha] at g1
  cases g1
  refine ⟨⟨List.prefix_refl _, Same.refl _, fun b u h1 _ h2 h3 => ⟨by rw [upd_ne (fun z => h3 (by rw [z]; exact hm))]; exact h1, h2, h3⟩⟩, fun b u e => ?_, ?_, r.nd, fun m u e => ?_, r.nice, tabs_upd r.tabs fun o e => by rw [g3] at e; cases e; exact g4.niceH⟩
  · have ne : b ≠ a := fun z => by rw [z, g2] at e; cases e
    rw [upd_ne ne]
    exact r.sub b u e
  · rw [List.length_set]
    exact r.len
  · by_cases hmn : m = n
    · subst hmn
      rw [List.getElem?_set_self hM] at e
      cases e
      exact ⟨a, ho, ha, g2, upd_same, ro⟩
    · rw [List.getElem?_set_ne (Ne.symm hmn)] at e
      obtain ⟨b, hb, h1, h2, h3, h4⟩ := r.mo m u e
      refine ⟨b, hb, h1, h2, ?_, h4⟩
      have ne : b ≠ a := fun z => by
        subst z
        obtain ⟨k1, e1⟩ := List.getElem?_eq_some_iff.mp h1
        obtain ⟨k2, e2⟩ := List.getElem?_eq_some_iff.mp ha
        exact hmn ((List.getElem_inj r.nd).mp (e1.trans e2.symm))
      rw [upd_ne ne]
      exact h3
theorem Rl.at {M : Store} (r : Rl K ct w M H) {n : Nat} {a : Addr} {o : MO} (ha : w.ρ[n]? = some a) (e : M[n]? = some o) : ∃ ho, w.F a = none ∧ H a = some ho ∧ RepO K ct w o ho := by
  obtain ⟨a', ho, h1, h2, h3, h4⟩ := r.mo n o e
  rw [ha] at h1
  cases h1
  exact ⟨ho, h2, h3, h4⟩
end
inductive Out (α : Type) where
  | ok (a : α) (M : Store) | exc (c : Str) (fs : List (Str × D)) (M : Store) | err
def Out.bind {α β : Type} (x : Out α) (f : α → Store → Out β) : Out β := match x with
  | .ok a M => f a M
  | .exc c fs M => .exc c fs M
  | .err => .err
@[simp] theorem Out.bind_ok {α β : Type} (a : α) (M : Store) (f : α → Store → Out β) : (Out.ok a M).bind f = f a M := rfl
@[simp] theorem Out.bind_exc {α β : Type} (c : Str) (fs : List (Str × D)) (M : Store) (f : α → Store → Out β) : (Out.exc c fs M).bind f = .exc c fs M := rfl
@[simp] theorem Out.bind_err {α β : Type} (f : α → Store → Out β) : (Out.err).bind f = .err := rfl
def Post {α : Type} (x : Out α) (Q : α → Store → Prop) (E : Str → List (Str × D) → Store → Prop) : Prop := match x with
  | .ok a M => Q a M
  | .exc c fs M => E c fs M
  | .err => False
theorem Post.bind {α β : Type} {x : Out α} {f : α → Store → Out β} {Q : β → Store → Prop} {E : Str → List (Str × D) → Store → Prop} (h : Post (x.bind f) Q E) : Post x (fun a M => Post (f a M) Q E) E := by
  cases x with
  | ok a M => exact h
  | exc c fs M => exact h
  | err => exact h
theorem Post.imp {α : Type} {x : Out α} {Q Q' : α → Store → Prop} {E E' : Str → List (Str × D) → Store → Prop} (h : Post x Q E) (hq : ∀ a M, Q a M → Q' a M) (he : ∀ c fs M, E c fs M → E' c fs M) : Post x Q' E' := by
  cases x with
  | ok a M => exact hq _ _ h
  | exc c fs M => exact he _ _ _ h
  | err => exact h
abbrev CE := En → Store → Out D
def ExV (K : PySem.W.Frag) (ct : CT) (w : Wd) (c : Str) (fs : List (Str × D)) (cls : Value) (dx : Option Addr) (H : Hp) : Prop :=
  cls = .ref (ct c) ∧ ExF K w fs dx
section
variable (X : Cx) (ct : CT) (b : Base) (W : WX)
def TD (f : CE) : TE := fun σ H Q => ∃ w en M, Sl X.K ct b w en σ H ∧ Rl X.K ct w M H ∧ Post (f en M)
  (fun d M' => ∀ w' v H', Step w H w' H' → Rl X.K ct w' M' H' → Rep X.K w' d v → Q v H')
  (fun c fs M' => ∀ w' cls dx H', Step w H w' H' → Sl X.K ct b w' en σ H' → Rl X.K ct w' M' H' → ExV X.K ct w' c fs cls dx H' → W cls dx σ H')
def TTD (f : En → Store → Out Bool) : TT := fun σ H Q => ∃ w en M, Sl X.K ct b w en σ H ∧ Rl X.K ct w M H ∧ Post (f en M)
  (fun d M' => ∀ w' H', Step w H w' H' → Rl X.K ct w' M' H' → Q d H')
  (fun c fs M' => ∀ w' cls dx H', Step w H w' H' → Sl X.K ct b w' en σ H' → Rl X.K ct w' M' H' → ExV X.K ct w' c fs cls dx H' → W cls dx σ H')
def TAD (f : En → Store → Out (List D)) : TA := fun σ H Q => ∃ w en M, Sl X.K ct b w en σ H ∧ Rl X.K ct w M H ∧ Post (f en M)
  (fun d M' => ∀ w' v H', Step w H w' H' → Rl X.K ct w' M' H' → RepL X.K w' d v → Q v H')
  (fun c fs M' => ∀ w' cls dx H', Step w H w' H' → Sl X.K ct b w' en σ H' → Rl X.K ct w' M' H' → ExV X.K ct w' c fs cls dx H' → W cls dx σ H')
def TND (f : En → Store → Out MO) : TE := fun σ H Q => ∃ w en M, Sl X.K ct b w en σ H ∧ Rl X.K ct w M H ∧ Post (f en M)
  (fun o M' => ∀ w' p ho H', Step w H w' H' → Rl X.K ct w' M' H' → H' p = none → RepO X.K ct w' o ho → Q (.ref p) (upd H' p ho))
  (fun c fs M' => ∀ w' cls dx H', Step w H w' H' → Sl X.K ct b w' en σ H' → Rl X.K ct w' M' H' → ExV X.K ct w' c fs cls dx H' → W cls dx σ H')
abbrev PD (f : CE) (e : Expr) : Prop := PE X e (TD X ct b W f)
abbrev PTD (f : En → Store → Out Bool) (e : Expr) : Prop := PT X e (TTD X ct b W f)
abbrev PAD (f : En → Store → Out (List D)) (es : List Expr) : Prop := PA X es (TAD X ct b W f)
abbrev PND (f : En → Store → Out MO) (e : Expr) : Prop := PE X e (TND X ct b W f)
end
theorem PE.wk {X : Cx} {e : Expr} {t t' : TE} (h : PE X e t) (m : ∀ σ H Q, t' σ H Q → t σ H Q) : PE X e t' := ⟨fun pins s σ H Q I q => h.run pins s σ H Q I (m σ H Q q)⟩
theorem PT.wk {X : Cx} {e : Expr} {t t' : TT} (h : PT X e t) (m : ∀ σ H Q, t' σ H Q → t σ H Q) : PT X e t' := ⟨fun pins s σ H Q I q => h.run pins s σ H Q I (m σ H Q q)⟩
theorem PA.wk {X : Cx} {e : List Expr} {t t' : TA} (h : PA X e t) (m : ∀ σ H Q, t' σ H Q → t σ H Q) : PA X e t' := ⟨fun pos pins s σ H Q I q => h.run pos pins s σ H Q I (m σ H Q q)⟩
theorem PS.wk {X : Cx} {e : Stmt} {t t' : L2.TS} (h : L2.PS X e t) (m : ∀ D σ H, t' D σ H → t D σ H) : L2.PS X e t' := L2.PS.mk fun pins s σ H D I q => h.run pins s σ H D I (m D σ H q)
theorem PSs.wk {X : Cx} {e : List Stmt} {t t' : L2.TS} (h : L2.PSs X e t) (m : ∀ D σ H, t' D σ H → t D σ H) : L2.PSs X e t' := L2.PSs.mk fun pins s σ H D I q => h.run pins s σ H D I (m D σ H q)
section
variable {X : Cx} {ct : CT} {b : Base} {W : WX}
theorem TD.go {f : CE} {σ : L2.St} {H : Hp} {R : VK} {w : Wd} {en : En} {M : Store} (S : Sl X.K ct b w en σ H) (r : Rl X.K ct w M H)
    {Q : D → Store → Prop} {E : Str → List (Str × D) → Store → Prop} (p : Post (f en M) Q E)
    (hk : ∀ d M', Q d M' → ∀ w' v H', Step w H w' H' → Rl X.K ct w' M' H' → Sl X.K ct b w' en σ H' → Rep X.K w' d v → R v H')
    (he : ∀ c fs M', E c fs M' → ∀ w' cls dx H', Step w H w' H' → Sl X.K ct b w' en σ H' → Rl X.K ct w' M' H' → ExV X.K ct w' c fs cls dx H' → W cls dx σ H') : TD X ct b W f σ H R :=
  ⟨w, en, M, S, r, p.imp (fun d M' q w' v H' s r' x => hk d M' q w' v H' s r' (S.step s) x) he⟩
end
end DL
namespace DL
open PySem PySem.Spec PyProof.Rows L2
inductive Hd where
  | d (x : D) | own (i : Nat)
def vwO : MO → Option D
  | .lst xs => some (.lst xs)
  | .dic ks xs => some (.dic ks xs)
  | .ldic ks xs => some (.dic ks xs)
  | .ins _ _ => none
  | .exc _ _ => none
  | .kd _ _ => none
def vwD (M : Store) : D → Option D
  | .ref n => match M[n]? with
    | some o => match vwO o with
      | some d => some d
      | none => some (.ref n)
    | none => none
  | d => some d
def vw (en : En) (M : Store) : Hd → Option D
  | .d x => vwD M x
  | .own i => match en[i]? with
    | some (some (.own o)) => vwO o
    | _ => none
def RepH (K : PySem.W.Frag) (w : Wd) (σ : L2.St) : Hd → V → Prop
  | .d x, v => Rep K w x v
  | .own i, v => σ[i]? = some (some v)
def Vw (K : PySem.W.Frag) (w : Wd) (H : Hp) : D → V → Prop
  | .lst xs, v => ∃ a vs, v = .ref a ∧ H a = some (.lst vs) ∧ RepL K w xs vs
  | .dic ks xs, v => ∃ a vs, v = .ref a ∧ Rd H a (.dK (ks.zip vs)) ∧ ks.length = xs.length ∧ RepL K w xs vs
  | .non, v => v = .non
  | .bl b, v => v = .bl b
  | .int i, v => v = .int i
  | .str x, v => v = .str x
  | .tup xs, v => Rep K w (.tup xs) v ∧ ∃ a vs, v = .ref a ∧ SqT K H a vs ∧ RepL K w xs vs
  | .ref n, v => ∃ a, v = .ref a ∧ w.ρ[n]? = some a
  | .scr ns, v => Rep K w (.scr ns) v ∧ ∃ a, v = .ref a ∧ SqL K H a (ns.map V.int)
theorem Sub.lst {F H : Hp} (s : Sub F H) {a : Addr} {vs : List V} (h : F a = some (.lst vs)) : H a = some (.lst vs) := by
  rcases s _ _ h with z | ⟨⟨kvs, e⟩, _⟩
  · exact z
  · cases e
theorem Sub.tup {F H : Hp} (s : Sub F H) {a : Addr} {vs : List V} (h : F a = some (.tup vs)) : H a = some (.tup vs) := by
  rcases s _ _ h with z | ⟨⟨kvs, e⟩, _⟩
  · exact z
  · cases e
theorem Sub.frz {F H : Hp} (s : Sub F H) {a : Addr} {o : Obj} {u : HO} (h : F a = some (.frz o u)) : H a = some (.frz o u) := by
  rcases s _ _ h with z | ⟨⟨kvs, e⟩, _⟩
  · exact z
  · cases e
theorem Sub.dK {F H : Hp} (s : Sub F H) {a : Addr} {kvs : List (Key × V)} (h : F a = some (.dK kvs)) : Rd H a (.dK kvs) := by
  rcases s _ _ h with z | ⟨_, ob, z⟩
  · exact .inl z
  · exact .inr ⟨ob, z⟩
theorem Sub.sqt {K : PySem.W.Frag} {F H : Hp} (s : Sub F H) {a : Addr} {vs : List V} (h : SqT K F a vs) : SqT K H a vs := by
  rcases h with (h | ⟨o, h⟩) | h
  · exact .inl (.inl (s.tup h))
  · exact .inl (.inr ⟨o, s.frz h⟩)
  · exact .inr h
theorem Vw.of {K : PySem.W.Frag} {w : Wd} {H : Hp} (s : Sub w.F H) : ∀ {d : D} {v : V}, Rep K w d v → Vw K w H d v
  | .non, v, h => by
    simp only [Rep] at h
    exact h
  | .bl _, v, h => by
    simp only [Rep] at h
    exact h
  | .int _, v, h => by
    simp only [Rep] at h
    exact h
  | .str _, v, h => by
    simp only [Rep] at h
    exact h
  | .tup xs, v, h => by
    have h0 := h
    simp only [Rep] at h
    obtain ⟨a, vs, rfl, h1, h2⟩ := h
    exact ⟨h0, a, vs, rfl, s.sqt h1, h2⟩
  | .lst xs, v, h => by
    simp only [Rep] at h
    obtain ⟨a, vs, rfl, h1, h2⟩ := h
    exact ⟨a, vs, rfl, s.lst h1, h2⟩
  | .dic ks xs, v, h => by
    simp only [Rep] at h
    obtain ⟨a, vs, rfl, ⟨o, h1⟩, h2, h3⟩ := h
    exact ⟨a, vs, rfl, .inr ⟨o, s.frz h1⟩, h2, h3⟩
  | .ref n, v, h => by
    simp only [Rep] at h
    exact h
  | .scr ns, v, h => by
    have h0 := h
    simp only [Rep] at h
    obtain ⟨a, rfl, h1⟩ := h
    refine ⟨h0, a, rfl, ?_⟩
    rcases h1 with ⟨o, e⟩ | h1
    · exact .inl (.inr ⟨o, s.frz e⟩)
    · rcases h1 with (h1 | ⟨o, h1⟩) | h1
      · cases h1
      · cases h1
      · exact .inr h1
theorem Vw.ofO {K : PySem.W.Frag} {ct : CT} {w : Wd} {H : Hp} {o : MO} {ho : HO} {a : Addr} {d : D} (ha : H a = some ho) (r : RepO K ct w o ho) (e : vwO o = some d) : Vw K w H d (.ref a) := by
  cases o with
  | lst xs =>
    cases e
    obtain ⟨vs, rfl, r⟩ := r
    exact ⟨a, vs, rfl, ha, r⟩
  | dic ks xs =>
    cases e
    obtain ⟨vs, rfl, l, r⟩ := r
    exact ⟨a, vs, rfl, .inl ha, l, r⟩
  | ldic ks xs =>
    cases e
    obtain ⟨ob, vs, rfl, l, r⟩ := r
    exact ⟨a, vs, rfl, .inr ⟨ob, ha⟩, l, r⟩
  | ins c fs => cases e
  | exc c fs => cases e
  | kd ks xs => cases e
theorem vwD_ok {K : PySem.W.Frag} {ct : CT} {w : Wd} {M : Store} {H : Hp} {x d : D} {v : V} (r : Rl K ct w M H) (h : Rep K w x v) (e : vwD M x = some d) : Vw K w H d v := by
  cases x with
  | ref n =>
    simp only [Rep] at h
    obtain ⟨a, rfl, ha⟩ := h
    unfold vwD at e
    dsimp only at e
    cases q : M[n]? with
    | none => rw [q] at e; cases e
    | some o =>
      rw [q] at e
      dsimp only at e
      obtain ⟨ho, h2, h3, h4⟩ := r.at ha q
      cases z : vwO o with
      | none =>
        rw [z] at e
        cases e
        exact ⟨a, rfl, ha⟩
      | some d' =>
        rw [z] at e
        cases e
        exact Vw.ofO h3 h4 z
  | _ =>
    cases e
    exact Vw.of r.sub h
theorem vw_ok {K : PySem.W.Frag} {ct : CT} {b : Base} {w : Wd} {en : En} {σ : L2.St} {M : Store} {H : Hp} {x : Hd} {d : D} {v : V} (S : Sl K ct b w en σ H) (r : Rl K ct w M H) (h : RepH K w σ x v) (e : vw en M x = some d) : Vw K w H d v := by
  cases x with
  | d x => exact vwD_ok r h e
  | own i =>
    unfold vw at e
    dsimp only at e
    have h : σ[i]? = some (some v) := h
    cases q : en[i]? with
    | none => rw [q] at e; cases e
    | some o' =>
      rw [q] at e
      cases o' with
      | none => cases e
      | some sl =>
        cases sl with
        | val d => cases e
        | own o =>
          dsimp only at e
          obtain ⟨a, ho, h1, _, _, _, h5, h6⟩ := S.own i o q
          rw [h] at h1
          cases h1
          exact Vw.ofO h5 h6 e
theorem Step.repH {K : PySem.W.Frag} {w w' : Wd} {H H' : Hp} {σ : L2.St} (s : Step w H w' H') {x : Hd} {v : V} (h : RepH K w σ x v) : RepH K w' σ x v := by
  cases x with
  | d x => exact s.rep (show Rep K w x v from h)
  | own i => exact h
abbrev CH := En → Store → Out Hd
abbrev CB := En → Store → Out Bool
abbrev CA := En → Store → Out (List D)
abbrev CN := En → Store → Out MO
section
variable (X : Cx) (ct : CT) (b : Base) (W : WX)
def THD (f : CH) : TE := fun σ H Q => ∃ w en M, Sl X.K ct b w en σ H ∧ Rl X.K ct w M H ∧ Post (f en M)
  (fun d M' => ∀ w' v H', Step w H w' H' → Rl X.K ct w' M' H' → RepH X.K w' σ d v → Q v H')
  (fun c fs M' => ∀ w' cls dx H', Step w H w' H' → Sl X.K ct b w' en σ H' → Rl X.K ct w' M' H' → ExV X.K ct w' c fs cls dx H' → W cls dx σ H')
abbrev PHD (f : CH) (e : Expr) : Prop := PE X e (THD X ct b W f)
end
def hd (f : CE) : CH := fun en M => (f en M).bind fun d M => .ok (.d d) M
def hOwn (i : Nat) : CH := fun en M => match en[i]? with
  | some (some (.own _)) => .ok (.own i) M
  | some (some (.val d)) => .ok (.d d) M
  | _ => .err
def eVar (i : Nat) : CE := fun en M => match en[i]? with
  | some (some (.val d)) => .ok d M
  | _ => .err
def eC (d : D) : CE := fun _ M => .ok d M
def ofO {α : Type} (o : Option α) (M : Store) : Out α := match o with
  | some a => .ok a M
  | none => .err
@[simp] theorem ofO_some {α : Type} (a : α) (M : Store) : ofO (some a) M = .ok a M := rfl
@[simp] theorem ofO_none {α : Type} (M : Store) : ofO (none : Option α) M = .err := rfl
def eOp (g : D → D → Option D) (h1 h2 : CH) : CE := fun en M => (h1 en M).bind fun a M1 => (h2 en M1).bind fun c M2 => ofO ((vw en M2 a).bind fun x => (vw en M2 c).bind fun y => g x y) M2
section
variable {X : Cx} {ct : CT} {b : Base} {W : WX} {e e1 e2 e3 : Expr} {pos : Pos} {es : List Expr}
theorem TD.th {f : CE} {σ : L2.St} {H : Hp} {Q : VK} (h : THD X ct b W (hd f) σ H Q) : TD X ct b W f σ H Q := by
  obtain ⟨w, en, M, S, r, p⟩ := h
  refine ⟨w, en, M, S, r, (Post.bind p).imp (fun d M' q w' v H' s r' x => q w' v H' s r' x) fun _ _ _ q => q⟩
theorem phd {f : CE} (h : PD X ct b W f e) : PHD X ct b W (hd f) e := PE.wk h fun _ _ _ => TD.th
theorem ph_own {i : Nat} {x : Str} {pos : Pos} (hN : X.N[i]? = some x := by rfl) (hv : Vis X.env.scope x := by first | exact Or.inl rfl | exact Or.inr (Or.inl rfl) | exact Or.inr (Or.inr rfl)) (hd : (x == ("__debug__" : Str)) = false := by decide)
    (hcd : (x == ("__classdict__" : Str)) = false := by decide) : PHD X ct b W (hOwn i) (.Name x pos) := PE.wk (pe_var hN hv hd hcd) fun σ H Q h => by
  obtain ⟨w, en, M, S, r, p⟩ := h
  unfold hOwn at p
  split at p
  · rename_i o q
    obtain ⟨a, ho, h1, _⟩ := S.own i o q
    exact ⟨.ref a, h1, p w _ H (Step.refl _ _) r h1⟩
  · rename_i d q
    obtain ⟨v, h1, h2⟩ := S.val i d q
    exact ⟨v, h1, p w _ H (Step.refl _ _) r h2⟩
  · exact p.elim
theorem pd_var {i : Nat} {x : Str} {pos : Pos} (hN : X.N[i]? = some x := by rfl) (hv : Vis X.env.scope x := by first | exact Or.inl rfl | exact Or.inr (Or.inl rfl) | exact Or.inr (Or.inr rfl)) (hd : (x == ("__debug__" : Str)) = false := by decide)
    (hcd : (x == ("__classdict__" : Str)) = false := by decide) : PD X ct b W (eVar i) (.Name x pos) := PE.wk (pe_var hN hv hd hcd) fun σ H Q h => by
  obtain ⟨w, en, M, S, r, p⟩ := h
  unfold eVar at p
  split at p
  · rename_i d q
    obtain ⟨v, h1, h2⟩ := S.val i d q
    exact ⟨v, h1, p w _ H (Step.refl _ _) r h2⟩
  · exact p.elim
theorem TD.const {d : D} {v : V} (hv : ∀ w, Rep X.K w d v) {σ : L2.St} {H : Hp} {Q : VK} (h : TD X ct b W (eC d) σ H Q) : Q v H := by
  obtain ⟨w, en, M, S, r, p⟩ := h
  exact p w v H (Step.refl _ _) r (hv w)
theorem pd_int {i : Int} {j pos} : PD X ct b W (eC (.int i)) (.Constant (.int i) j pos) := PE.wk pe_int fun _ _ _ h => TD.const (fun _ => by simp only [Rep]) h
theorem pd_str {i : Str} {j pos} : PD X ct b W (eC (.str i)) (.Constant (.str i) j pos) := PE.wk pe_str fun _ _ _ h => TD.const (fun _ => by simp only [Rep]) h
theorem pd_bl {i : Bool} {j pos} : PD X ct b W (eC (.bl i)) (.Constant (.bool i) j pos) := PE.wk pe_bl fun _ _ _ h => TD.const (fun _ => by simp only [Rep]) h
theorem pd_non {j pos} : PD X ct b W (eC .non) (.Constant .none j pos) := PE.wk pe_non fun _ _ _ h => TD.const (fun _ => by simp only [Rep]) h
structure Glb (K : PySem.W.Frag) (mg : Str → Option Value) (x : Str) (d : D) : Prop where
  ex : ∃ u v, mg x = some u ∧ RelV v u ∧ ∀ w, Rep K w d v
theorem pd_glob {x : Str} {d : D} {pos : Pos} (g : Glb X.K X.mg x d) (hg : Gl X x := by rfl) (hd : (x == ("__debug__" : Str)) = false := by decide) : PD X ct b W (eC d) (.Name x pos) := by
  obtain ⟨u, v, h1, h2, h3⟩ := g.ex
  exact PE.wk (pe_glob hg h1 h2 hd) fun _ _ _ h => TD.const h3 h
def Ok1 (K : PySem.W.Frag) (ct : CT) (w : Wd) (M : Store) (H : Hp) (d : D) (Q : VK) : Prop := ∀ w' v H', Step w H w' H' → Rl K ct w' M H' → Rep K w' d v → Q v H'
def OpV (X : Cx) (ct : CT) (fn : Value → Value → Sem Value) (g : D → D → Option D) : Prop := ∃ r, OpR X fn r ∧ ∀ w M H x y v1 v2 d Q, Rl X.K ct w M H → Vw X.K w H x v1 → Vw X.K w H y v2 → g x y = some d → Ok1 X.K ct w M H d Q → r v1 v2 H Q
def UnV (X : Cx) (ct : CT) (fn : Value → Sem Value) (g : D → Option D) : Prop := ∃ r, UnR X fn r ∧ ∀ w M H x v1 d Q, Rl X.K ct w M H → Vw X.K w H x v1 → g x = some d → Ok1 X.K ct w M H d Q → r v1 H Q
theorem ofO_post {α : Type} {o : Option α} {M : Store} {Q : α → Store → Prop} {E : Str → List (Str × D) → Store → Prop} (h : Post (ofO o M) Q E) : ∃ a, o = some a ∧ Q a M := by
  cases o with
  | none => exact h.elim
  | some a => exact ⟨a, rfl, h⟩
theorem op_go {fn : Value → Value → Sem Value} {g : D → D → Option D} {h1 h2 : CH} {r : R2}
    (hr : ∀ w M H x y v1 v2 d Q, Rl X.K ct w M H → Vw X.K w H x v1 → Vw X.K w H y v2 → g x y = some d → Ok1 X.K ct w M H d Q → r v1 v2 H Q) {σ : L2.St} {H : Hp} {Q : VK} (h : TD X ct b W (eOp g h1 h2) σ H Q) :
    tOp r (THD X ct b W h1) (THD X ct b W h2) σ H Q := by
  obtain ⟨w, en, M, S, rl, p⟩ := h
  refine ⟨w, en, M, S, rl, (Post.bind p).imp (fun a M1 q w1 v1 H1 s1 r1 x1 => ?_) fun _ _ _ q => q⟩
  refine ⟨w1, en, M1, S.step s1, r1, (Post.bind q).imp (fun c M2 q w2 v2 H2 s2 r2 x2 => ?_) fun _ _ _ q w' cls dx H' s => q w' cls dx H' (s1.trans s)⟩
  obtain ⟨d, e, q⟩ := ofO_post q
  obtain ⟨x, ex, e⟩ := Option.bind_eq_some_iff.mp e
  obtain ⟨y, ey, e⟩ := Option.bind_eq_some_iff.mp e
  exact hr w2 M2 H2 x y v1 v2 d Q r2 (vw_ok (S.step (s1.trans s2)) r2 (s2.repH x1) ex) (vw_ok (S.step (s1.trans s2)) r2 x2 ey) e fun w' v H' s r' rp => q w' v H' ((s1.trans s2).trans s) r' rp
theorem pd_op {op : Operator} {g : D → D → Option D} {h1 h2 : CH} (ho : OpV X ct (binaryOp op) g) (ha : PHD X ct b W h1 e1) (hb : PHD X ct b W h2 e2) : PD X ct b W (eOp g h1 h2) (.BinOp e1 op e2 pos) := by
  obtain ⟨r, o, hr⟩ := ho
  exact PE.wk (pe_op o ha hb) fun _ _ _ h => op_go (fn := binaryOp op) hr h
theorem pd_cmp {op : CmpOp} {g : D → D → Option D} {h1 h2 : CH} (ho : OpV X ct (compareOp op) g) (ha : PHD X ct b W h1 e1) (hb : PHD X ct b W h2 e2) (hm : behindInMarks op e2 = false := by first | rfl | exact nomark _) :
    PD X ct b W (eOp g h1 h2) (.Compare e1 [op] [e2] pos) := by
  obtain ⟨r, o, hr⟩ := ho
  exact PE.wk (pe_cmpR o ha hb hm) fun _ _ _ h => op_go (fn := compareOp op) hr h
def IxV (X : Cx) (ct : CT) (g : D → D → Option D) : Prop := ∃ r, IxR X r ∧ ∀ w M H x y v1 v2 d Q, Rl X.K ct w M H → Vw X.K w H x v1 → Vw X.K w H y v2 → g x y = some d → Ok1 X.K ct w M H d Q → r v1 v2 H Q
theorem pd_ix {g : D → D → Option D} {h1 h2 : CH} (ho : IxV X ct g) (ha : PHD X ct b W h1 e1) (hb : PHD X ct b W h2 e2) (hs : PlainIx e2 := by exact fun _ _ => rfl) : PD X ct b W (eOp g h1 h2) (.Subscript e1 e2 pos) := by
  obtain ⟨r, o, hr⟩ := ho
  exact PE.wk (pe_ix o ha hb hs) fun _ _ _ h => op_go (fn := getItem) hr h
def bT (g : D → D → Option D) (h1 h2 : CH) : CB := fun en M => (eOp g h1 h2 en M).bind fun d M => match d with
  | .bl k => .ok k M
  | _ => .err
def TruD : D → Option Bool
  | .non => some false
  | .bl k => some k
  | .int i => some (i != 0)
  | .str x => if x.length ≤ sizeLine then some ((x.length : Int) != 0) else none
  | .tup xs => some (!xs.isEmpty)
  | .lst xs => some (!xs.isEmpty)
  | _ => none
def bTru (h : CH) : CB := fun en M => (h en M).bind fun a M1 => ofO ((vw en M1 a).bind TruD) M1
def bAnd (f g : CB) : CB := fun en M => (f en M).bind fun k M1 => if k = true then g en M1 else .ok false M1
def bOr (f g : CB) : CB := fun en M => (f en M).bind fun k M1 => if k = true then .ok true M1 else g en M1
def bNot (f : CB) : CB := fun en M => (f en M).bind fun k M1 => .ok (!k) M1
def eIf (c : CB) (f g : CE) : CE := fun en M => (c en M).bind fun k M1 => if k = true then f en M1 else g en M1
abbrev PWD (X : Cx) (ct : CT) (b : Base) (W : WX) (f : CB) (e : Expr) : Prop := PW X e (TTD X ct b W f)
theorem pt_cmpV {op : CmpOp} {g : D → D → Option D} {h1 h2 : CH} (ho : OpV X ct (compareOp op) g) (ha : PHD X ct b W h1 e1) (hb : PHD X ct b W h2 e2) (hm : behindInMarks op e2 = false := by first | rfl | exact nomark _) :
    PTD X ct b W (bT g h1 h2) (.Compare e1 [op] [e2] pos) := by
  obtain ⟨r, o, hr⟩ := ho
  refine PT.wk (pt_cmpR o ha hb hm) fun σ H Q h => ?_
  refine op_go (fn := compareOp op) hr ?_
  obtain ⟨w, en, M, S, rl, p⟩ := h
  refine ⟨w, en, M, S, rl, (Post.bind p).imp (fun d M1 q w1 v1 H1 s1 r1 x1 => ?_) fun _ _ _ q => q⟩
  cases d with
  | bl k =>
    simp only [Rep] at x1
    exact ⟨k, x1, q w1 H1 s1 r1⟩
  | _ => exact q.elim
theorem TruD.ok {K : PySem.W.Frag} {w : Wd} {H : Hp} {d : D} {v : V} {k : Bool} (h : Vw K w H d v) (e : TruD d = some k) : TruV K v H k := by
  cases d with
  | non => cases e; cases h; rfl
  | bl k => cases e; cases h; rfl
  | int i => cases e; cases h; rfl
  | str x =>
    unfold TruD at e
    dsimp only at e
    cases h
    by_cases q : x.length ≤ sizeLine
    · rw [if_pos q] at e
      cases e
      exact ⟨q, rfl⟩
    · rw [if_neg q] at e
      cases e
  | tup xs =>
    cases e
    obtain ⟨_, a, vs, rfl, h1, h2⟩ := h
    refine .inr (.inl ⟨vs, h1, ?_⟩)
    have := h2.length
    cases xs <;> cases vs <;> simp_all
  | lst xs =>
    cases e
    obtain ⟨a, vs, rfl, h1, h2⟩ := h
    refine .inl ⟨vs, SqL.of h1, ?_⟩
    have := h2.length
    cases xs <;> cases vs <;> simp_all
  | dic ks xs => cases e
  | ref n => cases e
  | scr ns => cases e
theorem pt_tru {h1 : CH} (ha : PHD X ct b W h1 e) (he : ∀ whole, isTrue e X.env whole = (do let v ← whole; standAt e.pos; holding [v] (truthy v)) := by intro _; rfl) : PTD X ct b W (bTru h1) e := by
  refine PT.wk (pt_truth ha he) fun σ H Q h => ?_
  obtain ⟨w, en, M, S, rl, p⟩ := h
  refine ⟨w, en, M, S, rl, (Post.bind p).imp (fun a M1 q w1 v1 H1 s1 r1 x1 => ?_) fun _ _ _ q => q⟩
  obtain ⟨k, e, q⟩ := ofO_post q
  obtain ⟨x, ex, e⟩ := Option.bind_eq_some_iff.mp e
  exact ⟨k, TruD.ok (vw_ok (S.step s1) r1 x1 ex) e, q w1 H1 s1 r1⟩
theorem bAnd_go {f g : CB} {σ : L2.St} {H : Hp} {Q : Bool → Hp → Prop} (h : TTD X ct b W (bAnd f g) σ H Q) : tAnd (TTD X ct b W f) (TTD X ct b W g) σ H Q := by
  obtain ⟨w, en, M, S, rl, p⟩ := h
  refine ⟨w, en, M, S, rl, (Post.bind p).imp (fun k M1 q w1 H1 s1 r1 => ?_) fun _ _ _ q => q⟩
  cases k with
  | true =>
    rw [if_pos rfl] at q ⊢
    exact ⟨w1, en, M1, S.step s1, r1, q.imp (fun k M2 q w2 H2 s2 r2 => q w2 H2 (s1.trans s2) r2) fun _ _ _ q w' cls dx H' s => q w' cls dx H' (s1.trans s)⟩
  | false =>
    rw [if_neg Bool.false_ne_true] at q ⊢
    exact q w1 H1 s1 r1
theorem bOr_go {f g : CB} {σ : L2.St} {H : Hp} {Q : Bool → Hp → Prop} (h : TTD X ct b W (bOr f g) σ H Q) : tOr (TTD X ct b W f) (TTD X ct b W g) σ H Q := by
  obtain ⟨w, en, M, S, rl, p⟩ := h
  refine ⟨w, en, M, S, rl, (Post.bind p).imp (fun k M1 q w1 H1 s1 r1 => ?_) fun _ _ _ q => q⟩
  cases k with
  | false =>
    rw [if_neg Bool.false_ne_true] at q ⊢
    exact ⟨w1, en, M1, S.step s1, r1, q.imp (fun k M2 q w2 H2 s2 r2 => q w2 H2 (s1.trans s2) r2) fun _ _ _ q w' cls dx H' s => q w' cls dx H' (s1.trans s)⟩
  | true =>
    rw [if_pos rfl] at q ⊢
    exact q w1 H1 s1 r1
theorem pwd_and1 {f : CB} (h : PTD X ct b W f e) : PWD X ct b W f (.BoolOp .And [e] pos) := pw_and1 h
theorem pwd_or1 {f : CB} (h : PTD X ct b W f e) : PWD X ct b W f (.BoolOp .Or [e] pos) := pw_or1 h
theorem PW.wk {X : Cx} {e : Expr} {t t' : TT} (h : PW X e t) (m : ∀ σ H Q, t' σ H Q → t σ H Q) : PW X e t' := ⟨fun wh pins s σ H Q I q => h.run wh pins s σ H Q I (m σ H Q q)⟩
theorem pwd_and {f g : CB} (h : PTD X ct b W f e1) (h2 : PWD X ct b W g (.BoolOp .And (e2 :: es) pos)) : PWD X ct b W (bAnd f g) (.BoolOp .And (e1 :: e2 :: es) pos) := PW.wk (pw_and h h2) fun _ _ _ => bAnd_go
theorem pwd_or {f g : CB} (h : PTD X ct b W f e1) (h2 : PWD X ct b W g (.BoolOp .Or (e2 :: es) pos)) : PWD X ct b W (bOr f g) (.BoolOp .Or (e1 :: e2 :: es) pos) := PW.wk (pw_or h h2) fun _ _ _ => bOr_go
theorem ptd_w {f : CB} (h : PWD X ct b W f e) : PTD X ct b W f e := h.pt
theorem ptd_not {f : CB} (h : PTD X ct b W f e) : PTD X ct b W (bNot f) (.UnaryOp .Not e pos) := PT.wk (pt_not h) fun σ H Q h => by
  obtain ⟨w, en, M, S, rl, p⟩ := h
  exact ⟨w, en, M, S, rl, (Post.bind p).imp (fun k M1 q w1 H1 s1 r1 => q w1 H1 s1 r1) fun _ _ _ q => q⟩
theorem pd_if {c : CB} {f g : CE} (hc : PTD X ct b W c e) (hf : PD X ct b W f e1) (hg : PD X ct b W g e2) : PD X ct b W (eIf c f g) (.IfExp e e1 e2 pos) := PE.wk (pe_ifExp hc hf hg) fun σ H Q h => by
  obtain ⟨w, en, M, S, rl, p⟩ := h
  refine ⟨w, en, M, S, rl, (Post.bind p).imp (fun k M1 q w1 H1 s1 r1 => ?_) fun _ _ _ q => q⟩
  cases k with
  | true =>
    rw [if_pos rfl] at q ⊢
    exact ⟨w1, en, M1, S.step s1, r1, q.imp (fun k M2 q w2 v H2 s2 r2 => q w2 v H2 (s1.trans s2) r2) fun _ _ _ q w' cls dx H' s => q w' cls dx H' (s1.trans s)⟩
  | false =>
    rw [if_neg Bool.false_ne_true] at q ⊢
    exact ⟨w1, en, M1, S.step s1, r1, q.imp (fun k M2 q w2 v H2 s2 r2 => q w2 v H2 (s1.trans s2) r2) fun _ _ _ q w' cls dx H' s => q w' cls dx H' (s1.trans s)⟩
def bChain (g g' : D → D → Option D) (h1 h2 h3 : CH) : CB := fun en M => (h1 en M).bind fun a M1 => (h2 en M1).bind fun c M2 => match (vw en M2 a).bind fun x => (vw en M2 c).bind fun y => g x y with
  | some (.bl true) => (h3 en M2).bind fun d M3 => match (vw en M3 c).bind fun y => (vw en M3 d).bind fun z => g' y z with
    | some (.bl k) => .ok k M3
    | _ => .err
  | some (.bl false) => .ok false M2
  | _ => .err
theorem chain_go {op op' : CmpOp} {g g' : D → D → Option D} {h1 h2 h3 : CH} {r r' : R2}
    (hr : ∀ w M H x y v1 v2 d Q, Rl X.K ct w M H → Vw X.K w H x v1 → Vw X.K w H y v2 → g x y = some d → Ok1 X.K ct w M H d Q → r v1 v2 H Q)
    (hr' : ∀ w M H x y v1 v2 d Q, Rl X.K ct w M H → Vw X.K w H x v1 → Vw X.K w H y v2 → g' x y = some d → Ok1 X.K ct w M H d Q → r' v1 v2 H Q)
    {σ : L2.St} {H : Hp} {Q : VK} (h : TTD X ct b W (bChain g g' h1 h2 h3) σ H (fun k H' => Q (.bl k) H')) : tChain r r' (THD X ct b W h1) (THD X ct b W h2) (THD X ct b W h3) σ H Q := by
  obtain ⟨w, en, M, S, rl, p⟩ := h
  refine ⟨w, en, M, S, rl, (Post.bind p).imp (fun a M1 q w1 v1 H1 s1 r1 x1 => ?_) fun _ _ _ q => q⟩
  refine ⟨w1, en, M1, S.step s1, r1, (Post.bind q).imp (fun c M2 q w2 v2 H2 s2 r2 x2 => ?_) fun _ _ _ q w' cls dx H' s => q w' cls dx H' (s1.trans s)⟩
  have S2 := S.step (s1.trans s2)
  split at q
  · rename_i e
    obtain ⟨x, ex, e⟩ := Option.bind_eq_some_iff.mp e
    obtain ⟨y, ey, e⟩ := Option.bind_eq_some_iff.mp e
    refine hr w2 M2 H2 x y v1 v2 _ _ r2 (vw_ok S2 r2 (s2.repH x1) ex) (vw_ok S2 r2 x2 ey) e fun w3 v3 H3 s3 r3 x3 => ?_
    simp only [Rep] at x3
    refine ⟨true, x3, ?_⟩
    rw [if_pos rfl]
    refine ⟨w3, en, M2, S2.step s3, r3, (Post.bind q).imp (fun d M3 q w4 v4 H4 s4 r4 x4 => ?_) fun _ _ _ q w' cls dx H' s => q w' cls dx H' (((s1.trans s2).trans s3).trans s)⟩
    have S4 := S2.step (s3.trans s4)
    split at q
    · rename_i k e'
      obtain ⟨y', ey', e'⟩ := Option.bind_eq_some_iff.mp e'
      obtain ⟨z, ez, e'⟩ := Option.bind_eq_some_iff.mp e'
      refine hr' w4 M3 H4 y' z v2 v4 _ _ r4 (vw_ok S4 r4 ((s3.trans s4).repH x2) ey') (vw_ok S4 r4 x4 ez) e' fun w5 v5 H5 s5 r5 x5 => ?_
      simp only [Rep] at x5
      rw [x5]
      exact q w5 H5 ((((s1.trans s2).trans s3).trans s4).trans s5) r5
    · exact q.elim
  · rename_i e
    obtain ⟨x, ex, e⟩ := Option.bind_eq_some_iff.mp e
    obtain ⟨y, ey, e⟩ := Option.bind_eq_some_iff.mp e
    refine hr w2 M2 H2 x y v1 v2 _ _ r2 (vw_ok S2 r2 (s2.repH x1) ex) (vw_ok S2 r2 x2 ey) e fun w3 v3 H3 s3 r3 x3 => ?_
    simp only [Rep] at x3
    refine ⟨false, x3, ?_⟩
    rw [if_neg Bool.false_ne_true]
    exact q w3 H3 ((s1.trans s2).trans s3) r3
  · exact q.elim
theorem ptd_chain {op op' : CmpOp} {g g' : D → D → Option D} {h1 h2 h3 : CH} (ho : OpV X ct (compareOp op) g) (ho' : OpV X ct (compareOp op') g') (ha : PHD X ct b W h1 e1) (hb : PHD X ct b W h2 e2) (hc : PHD X ct b W h3 e3)
    (hm : lastMarks [op, op'] [e2, e3] = false := by with_unfolding_all rfl) : PTD X ct b W (bChain g g' h1 h2 h3) (.Compare e1 [op, op'] [e2, e3] pos) := by
  obtain ⟨r, o, hr⟩ := ho
  obtain ⟨r', o', hr'⟩ := ho'
  refine PT.wk (pt_chain o o' ha hb hc hm) fun σ H Q h => chain_go (op := op) (op' := op') hr hr' ?_
  obtain ⟨w, en, M, S, rl, p⟩ := h
  exact ⟨w, en, M, S, rl, p.imp (fun k M1 q w1 H1 s1 r1 => ⟨k, rfl, q w1 H1 s1 r1⟩) fun _ _ _ q => q⟩
end
end DL
namespace DL
open PySem PySem.Spec PyProof.Rows L2
def eqL (f : D → D → Option Bool) : List D → List D → Option Bool
  | [], [] => some true
  | x :: xs, y :: ys => (f x y).bind fun a => (eqL f xs ys).bind fun c => some (a && c)
  | [], _ :: _ => some false
  | _ :: _, [] => some false
def kOk : D → Bool
  | .dic _ _ => false
  | .ref _ => false
  | .scr _ => false
  | _ => true
def eqD : Nat → D → D → Option Bool
  | 0, _, _ => none
  | n + 1, x, y => match x, y with
    | .bl a, .bl b => some (a == b)
    | .bl a, .int j => some ((if a then 1 else 0) == j)
    | .int i, .bl b => some (i == (if b then 1 else 0))
    | .int i, .int j => some (i == j)
    | .str x, .str y => some (x == y)
    | .non, .non => some true
    | .lst xs, .lst ys => eqL (eqD n) xs ys
    | .tup xs, .tup ys => eqL (eqD n) xs ys
    | .ref m, .ref k => if m = k then some true else none
    | x, y => cond (kOk x && kOk y) (some false) none
theorem eqL_len {f : D → D → Option Bool} : ∀ {xs ys : List D} {k : Bool}, eqL f xs ys = some k → xs.length ≠ ys.length → k = false
  | [], [], _, _, h => absurd rfl h
  | [], _ :: _, k, e, _ => by cases e; rfl
  | _ :: _, [], k, e, _ => by cases e; rfl
  | x :: xs, y :: ys, k, e, h => by
    unfold eqL at e
    obtain ⟨a, ea, e⟩ := Option.bind_eq_some_iff.mp e
    obtain ⟨c, ec, e⟩ := Option.bind_eq_some_iff.mp e
    have := eqL_len ec (by simpa using h)
    subst this
    cases e
    simp
theorem eqL_all {f : D → D → Option Bool} : ∀ {xs ys : List D} {k : Bool}, eqL f xs ys = some k →
    ((List.range (min xs.length ys.length)).all (fun j => (xs[j]?.bind fun x => ys[j]?.bind fun y => f x y) == some true) && xs.length == ys.length) = k ∧ ∀ (j : Nat) (x y : D), xs[j]? = some x → ys[j]? = some y → ∃ a, f x y = some a
  | [], [], _, e => by cases e; simp
  | [], _ :: _, k, e => by cases e; simp
  | _ :: _, [], k, e => by cases e; simp
  | x :: xs, y :: ys, k, e => by
    unfold eqL at e
    obtain ⟨a, ea, e⟩ := Option.bind_eq_some_iff.mp e
    obtain ⟨c, ec, e⟩ := Option.bind_eq_some_iff.mp e
    obtain ⟨h1, h2⟩ := eqL_all ec
    cases e
    refine ⟨?_, fun j x' y' e1 e2 => ?_⟩
    · have hm : min (x :: xs).length (y :: ys).length = min xs.length ys.length + 1 := by
        simp only [List.length_cons]
        omega
      rw [hm, List.range_succ_eq_map, List.all_cons, List.all_map]
      have hl : ((x :: xs).length == (y :: ys).length) = (xs.length == ys.length) := by simp
      rw [hl, Bool.and_assoc, ← h1]
      congr 1
      simp [ea]
    · cases j with
      | zero =>
        simp at e1 e2
        subst e1 e2
        exact ⟨a, ea⟩
      | succ j => exact h2 j x' y' (by simpa using e1) (by simpa using e2)
section
variable {X : Cx} {ct : CT} {w : Wd} {M : Store} {H : Hp} {pins : List (Addr × Obj)} {σ : L2.St} {s : Shared}
theorem Vw.list (I : Inv X pins σ H s) {xs : List D} {v : V} {u : Value} (h : Vw X.K w H (.lst xs) v) (r : RelV v u) :
    ∃ (a : Addr) (vs : List V) (its : List Value), v = .ref a ∧ u = .ref a ∧ H a = some (.lst vs) ∧ RepL X.K w xs vs ∧ Vals vs its ∧ s.heap.IsList a its.toArray := by
  obtain ⟨a, vs, rfl, h1, h2⟩ := h
  cases r
  obtain ⟨its, r, p, _⟩ := I.list (SqL.of h1)
  exact ⟨a, vs, its, rfl, rfl, h1, h2, r, p.isList⟩
theorem Vw.tuple (I : Inv X pins σ H s) {xs : List D} {v : V} {u : Value} (h : Vw X.K w H (.tup xs) v) (r : RelV v u) :
    ∃ (a : Addr) (vs : List V) (its : List Value), v = .ref a ∧ u = .ref a ∧ SqT X.K H a vs ∧ RepL X.K w xs vs ∧ Vals vs its ∧ s.heap.IsTuple a its.toArray := by
  obtain ⟨_, a, vs, rfl, h1, h2⟩ := h
  cases r
  obtain ⟨its, r, p, _⟩ := I.tuple h1
  exact ⟨a, vs, its, rfl, rfl, h1, h2, r, p⟩
theorem lt_excl {h : Heap} {a : Addr} {xs ys : Array Value} (h1 : h.IsList a xs) (h2 : h.IsTuple a ys) : False := by
  obtain ⟨o, e, c, _⟩ := h1
  obtain ⟨o', e', c', _⟩ := h2
  rw [e] at e'
  cases e'
  rw [c] at c'
  exact absurd c' (by decide)
theorem K_untr (I : Inv X pins σ H s) {a : Addr} {o : Obj} (h : X.K.lookup a = some o) : H a = none := (I.bs a o (I.mod.kin a o h)).2
theorem sqt_F (I : Inv X pins σ H s) (rl : Rl X.K ct w M H) {a : Addr} {vs : List V} (h : SqT X.K w.F a vs) {u : HO} (e : w.F a = some u) : u = .tup vs ∨ ∃ o, u = .frz o (.tup vs) := by
  rcases h with (h | ⟨o, h⟩) | ⟨o, its, n, h, _⟩
  · rw [e] at h; cases h; exact .inl rfl
  · rw [e] at h; cases h; exact .inr ⟨o, rfl⟩
  · exfalso
    have z := K_untr I h
    rw [rl.sub.free z] at e
    cases e
theorem map_int_inj : ∀ {a c : List Int}, a.map V.int = c.map V.int → a = c
  | [], [], _ => rfl
  | [], _ :: _, h => by cases h
  | _ :: _, [], h => by cases h
  | x :: xs, y :: ys, h => by
    simp only [List.map_cons, List.cons.injEq] at h
    obtain ⟨h1, h2⟩ := h
    cases h1
    rw [map_int_inj h2]
theorem scr_sql {K : PySem.W.Frag} {ns : List Int} {a : Addr} (rl : Rl K ct w M H) (h : (∃ o, w.F a = some (.frz o (.lst (ns.map V.int)))) ∨ SqL K (fun _ => none) a (ns.map V.int)) : SqL K H a (ns.map V.int) := by
  rcases h with ⟨o, e⟩ | h1
  · exact .inl (.inr ⟨o, rl.sub.frz e⟩)
  · rcases h1 with (h1 | ⟨o, h1⟩) | h1
    · cases h1
    · cases h1
    · exact .inr h1
theorem scr_F (I : Inv X pins σ H s) (rl : Rl X.K ct w M H) {ns : List Int} {a : Addr} (h : (∃ o, w.F a = some (.frz o (.lst (ns.map V.int)))) ∨ SqL X.K (fun _ => none) a (ns.map V.int)) {u : HO} (e : w.F a = some u) : ∃ o, u = .frz o (.lst (ns.map V.int)) := by
  rcases h with ⟨o, h⟩ | h
  · rw [e] at h; cases h; exact ⟨o, rfl⟩
  · rcases h with (h | ⟨o, h⟩) | ⟨o, its, n, h, _⟩
    · cases h
    · cases h
    · exfalso
      have z := K_untr I h
      rw [rl.sub.free z] at e
      cases e
theorem zip_inj {α β : Type} : ∀ {ks ks' : List α} {vs vs' : List β}, ks.length = vs.length → ks'.length = vs'.length → ks.zip vs = ks'.zip vs' → ks = ks' ∧ vs = vs'
  | [], [], [], [], _, _, _ => ⟨rfl, rfl⟩
  | [], [], _ :: _, _, h, _, _ => by cases h
  | [], [], _, _ :: _, _, h, _ => by cases h
  | [], _ :: _, _, [], _, h, _ => by cases h
  | _ :: _, [], [], _, h, _, _ => by cases h
  | [], _ :: _, _ :: _, _, h, _, _ => by cases h
  | _ :: _, [], _, _ :: _, _, h, _ => by cases h
  | [], _ :: _, [], _ :: _, _, _, e => by cases e
  | _ :: _, [], _ :: _, [], _, _, e => by cases e
  | _ :: _, _ :: _, [], _, h, _, _ => by cases h
  | _ :: _, _ :: _, _, [], _, h, _ => by cases h
  | a :: ks, a' :: ks', v :: vs, v' :: vs', h, h', e => by
    simp only [List.zip_cons_cons, List.cons.injEq, Prod.mk.injEq] at e
    obtain ⟨⟨rfl, rfl⟩, e⟩ := e
    obtain ⟨rfl, rfl⟩ := zip_inj (by simpa using h) (by simpa using h') e
    exact ⟨rfl, rfl⟩
mutual
theorem Rep.inj (I : Inv X pins σ H s) (rl : Rl X.K ct w M H) : ∀ (x y : D) (v : V), Rep X.K w x v → Rep X.K w y v → x = y
  | .non, y, v, hx, hy => by
    simp only [Rep] at hx
    subst hx
    cases y <;> simp only [Rep] at hy <;> first | rfl | (cases hy; done) | (obtain ⟨_, _, e, _⟩ := hy; cases e; done) | (obtain ⟨_, e, _⟩ := hy; cases e; done)
  | .bl b, y, v, hx, hy => by
    simp only [Rep] at hx
    subst hx
    cases y <;> simp only [Rep] at hy <;> first | (cases hy; rfl) | (cases hy; done) | (obtain ⟨_, _, e, _⟩ := hy; cases e; done) | (obtain ⟨_, e, _⟩ := hy; cases e; done)
  | .int b, y, v, hx, hy => by
    simp only [Rep] at hx
    subst hx
    cases y <;> simp only [Rep] at hy <;> first | (cases hy; rfl) | (cases hy; done) | (obtain ⟨_, _, e, _⟩ := hy; cases e; done) | (obtain ⟨_, e, _⟩ := hy; cases e; done)
  | .str b, y, v, hx, hy => by
    simp only [Rep] at hx
    subst hx
    cases y <;> simp only [Rep] at hy <;> first | (cases hy; rfl) | (cases hy; done) | (obtain ⟨_, _, e, _⟩ := hy; cases e; done) | (obtain ⟨_, e, _⟩ := hy; cases e; done)
  | .tup xs, y, v, hx, hy => by
    simp only [Rep] at hx
    obtain ⟨a, vs, rfl, h1, h2⟩ := hx
    cases y <;> simp only [Rep] at hy <;> try (cases hy; done)
    case tup ys =>
      obtain ⟨a', vs', e, h1', h2'⟩ := hy
      cases e
      have := I.tuple_inj (rl.sub.sqt h1) (rl.sub.sqt h1')
      subst this
      rw [RepL.inj I rl xs ys vs h2 h2']
    case lst ys =>
      obtain ⟨a', vs', e, h1', h2'⟩ := hy
      cases e
      rcases sqt_F I rl h1 h1' with z | ⟨_, z⟩ <;> cases z
    case dic ks ys =>
      obtain ⟨a', vs', e, ⟨o1, h1'⟩, h2'⟩ := hy
      cases e
      rcases sqt_F I rl h1 h1' with z | ⟨_, z⟩ <;> cases z
    case ref n =>
      obtain ⟨a', e, h1'⟩ := hy
      cases e
      exfalso
      obtain ⟨o, ho⟩ : ∃ o, M[n]? = some o := ⟨_, List.getElem?_eq_getElem (by rw [rl.len]; exact (List.getElem?_eq_some_iff.mp h1').1)⟩
      obtain ⟨u, g1, g2, _⟩ := rl.at h1' ho
      rcases h1 with (h1 | ⟨o, h1⟩) | ⟨o, its, n, h1, _⟩
      · rw [g1] at h1; cases h1
      · rw [g1] at h1; cases h1
      · rw [K_untr I h1] at g2; cases g2
    case scr ns =>
      obtain ⟨a', e, h1'⟩ := hy
      cases e
      exfalso
      obtain ⟨_, _, p, _⟩ := I.list (scr_sql rl h1')
      obtain ⟨_, _, q, _⟩ := I.tuple (rl.sub.sqt h1)
      exact lt_excl p.isList q
  | .lst xs, y, v, hx, hy => by
    simp only [Rep] at hx
    obtain ⟨a, vs, rfl, h1, h2⟩ := hx
    cases y <;> simp only [Rep] at hy <;> try (cases hy; done)
    case tup ys =>
      obtain ⟨a', vs', e, h1', h2'⟩ := hy
      cases e
      rcases sqt_F I rl h1' h1 with z | ⟨_, z⟩ <;> cases z
    case lst ys =>
      obtain ⟨a', vs', e, h1', h2'⟩ := hy
      cases e
      rw [h1] at h1'
      cases h1'
      rw [RepL.inj I rl xs ys vs h2 h2']
    case dic ks ys =>
      obtain ⟨a', vs', e, ⟨o1, h1'⟩, h2'⟩ := hy
      cases e
      rw [h1] at h1'
      cases h1'
    case ref n =>
      obtain ⟨a', e, h1'⟩ := hy
      cases e
      exfalso
      obtain ⟨o, ho⟩ : ∃ o, M[n]? = some o := ⟨_, List.getElem?_eq_getElem (by rw [rl.len]; exact (List.getElem?_eq_some_iff.mp h1').1)⟩
      obtain ⟨u, g1, g2, _⟩ := rl.at h1' ho
      rw [h1] at g1
      cases g1
    case scr ns =>
      obtain ⟨a', e, h1'⟩ := hy
      cases e
      obtain ⟨_, z⟩ := scr_F I rl h1' h1
      cases z
  | .dic ks xs, y, v, hx, hy => by
    simp only [Rep] at hx
    obtain ⟨a, vs, rfl, ⟨o0, h1⟩, h2, h3⟩ := hx
    cases y <;> simp only [Rep] at hy <;> try (cases hy; done)
    case tup ys =>
      obtain ⟨a', vs', e, h1', h2'⟩ := hy
      cases e
      rcases sqt_F I rl h1' h1 with z | ⟨_, z⟩ <;> cases z
    case lst ys =>
      obtain ⟨a', vs', e, h1', h2'⟩ := hy
      cases e
      rw [h1] at h1'
      cases h1'
    case dic ks' ys =>
      obtain ⟨a', vs', e, ⟨o1, h1'⟩, h2', h3'⟩ := hy
      cases e
      rw [h1] at h1'
      have q := Option.some.inj h1'
      injection q with q0 q
      injection q with q
      obtain ⟨rfl, rfl⟩ := zip_inj (by rw [h2, h3.length]) (by rw [h2', h3'.length]) q
      rw [RepL.inj I rl xs ys vs h3 h3']
    case ref n =>
      obtain ⟨a', e, h1'⟩ := hy
      cases e
      exfalso
      obtain ⟨o, ho⟩ : ∃ o, M[n]? = some o := ⟨_, List.getElem?_eq_getElem (by rw [rl.len]; exact (List.getElem?_eq_some_iff.mp h1').1)⟩
      obtain ⟨u, g1, g2, _⟩ := rl.at h1' ho
      rw [h1] at g1
      cases g1
    case scr ns =>
      obtain ⟨a', e, h1'⟩ := hy
      cases e
      obtain ⟨_, z⟩ := scr_F I rl h1' h1
      cases z
  | .ref n, y, v, hx, hy => by
    simp only [Rep] at hx
    obtain ⟨a, rfl, h1⟩ := hx
    obtain ⟨o, ho⟩ : ∃ o, M[n]? = some o := ⟨_, List.getElem?_eq_getElem (by rw [rl.len]; exact (List.getElem?_eq_some_iff.mp h1).1)⟩
    obtain ⟨u, g1, g2, _⟩ := rl.at h1 ho
    cases y <;> simp only [Rep] at hy <;> try (cases hy; done)
    case tup ys =>
      obtain ⟨a', vs', e, h1', h2'⟩ := hy
      cases e
      exfalso
      rcases h1' with (h1 | ⟨o, h1⟩) | ⟨o, its, n, h1, _⟩
      · rw [g1] at h1; cases h1
      · rw [g1] at h1; cases h1
      · rw [K_untr I h1] at g2; cases g2
    case lst ys =>
      obtain ⟨a', vs', e, h1', h2'⟩ := hy
      cases e
      rw [g1] at h1'
      cases h1'
    case dic ks' ys =>
      obtain ⟨a', vs', e, ⟨o1, h1'⟩, h2', h3'⟩ := hy
      cases e
      rw [g1] at h1'
      cases h1'
    case ref n' =>
      obtain ⟨a', e, h1'⟩ := hy
      cases e
      obtain ⟨k1, e1⟩ := List.getElem?_eq_some_iff.mp h1
      obtain ⟨k2, e2⟩ := List.getElem?_eq_some_iff.mp h1'
      rw [(List.getElem_inj rl.nd).mp (e1.trans e2.symm)]
    case scr ns =>
      obtain ⟨a', e, h1'⟩ := hy
      cases e
      exfalso
      rcases h1' with ⟨o, h⟩ | h
      · rw [g1] at h; cases h
      · rcases h with (h | ⟨o, h⟩) | ⟨o, its, n, h, _⟩
        · cases h
        · cases h
        · rw [K_untr I h] at g2; cases g2
  | .scr ns, y, v, hx, hy => by
    simp only [Rep] at hx
    obtain ⟨a, rfl, h1⟩ := hx
    cases y <;> simp only [Rep] at hy <;> try (cases hy; done)
    case tup ys =>
      obtain ⟨a', vs', e, h1', h2'⟩ := hy
      cases e
      exfalso
      obtain ⟨_, _, p, _⟩ := I.list (scr_sql rl h1)
      obtain ⟨_, _, q, _⟩ := I.tuple (rl.sub.sqt h1')
      exact lt_excl p.isList q
    case lst ys =>
      obtain ⟨a', vs', e, h1', h2'⟩ := hy
      cases e
      obtain ⟨_, z⟩ := scr_F I rl h1 h1'
      cases z
    case dic ks' ys =>
      obtain ⟨a', vs', e, ⟨o1, h1'⟩, h2', h3'⟩ := hy
      cases e
      obtain ⟨_, z⟩ := scr_F I rl h1 h1'
      cases z
    case ref n' =>
      obtain ⟨a', e, h1'⟩ := hy
      cases e
      exfalso
      obtain ⟨o, ho⟩ : ∃ o, M[n']? = some o := ⟨_, List.getElem?_eq_getElem (by rw [rl.len]; exact (List.getElem?_eq_some_iff.mp h1').1)⟩
      obtain ⟨u, g1, g2, _⟩ := rl.at h1' ho
      rcases h1 with ⟨o, h⟩ | h
      · rw [g1] at h; cases h
      · rcases h with (h | ⟨o, h⟩) | ⟨o, its, n, h, _⟩
        · cases h
        · cases h
        · rw [K_untr I h] at g2; cases g2
    case scr ns' =>
      obtain ⟨a', e, h1'⟩ := hy
      cases e
      have := I.list_inj (scr_sql rl h1) (scr_sql rl h1')
      rw [map_int_inj this]
theorem RepL.inj (I : Inv X pins σ H s) (rl : Rl X.K ct w M H) : ∀ (xs ys : List D) (vs : List V), RepL X.K w xs vs → RepL X.K w ys vs → xs = ys
  | [], [], _, _, _ => rfl
  | [], y :: ys, vs, h1, h2 => by
    rw [RepL.nil_iff] at h1
    subst h1
    rw [RepL.cons_iff] at h2
    obtain ⟨_, _, e, _⟩ := h2
    cases e
  | x :: xs, [], vs, h1, h2 => by
    rw [RepL.nil_iff] at h2
    subst h2
    rw [RepL.cons_iff] at h1
    obtain ⟨_, _, e, _⟩ := h1
    cases e
  | x :: xs, y :: ys, vs, h1, h2 => by
    rw [RepL.cons_iff] at h1 h2
    obtain ⟨v, r, rfl, h1, h1'⟩ := h1
    obtain ⟨v', r', e', h2, h2'⟩ := h2
    cases e'
    rw [Rep.inj I rl x y v h1 h2, RepL.inj I rl xs ys r h1' h2']
end
theorem eqL_same {f : D → D → Option Bool} {vs : List V} : ∀ {xs ys : List D} {k : Bool}, (∀ x y v k, Rep X.K w x v → Rep X.K w y v → f x y = some k → k = true) → ∀ vs, RepL X.K w xs vs → RepL X.K w ys vs → eqL f xs ys = some k → k = true
  | [], [], _, _, _, _, _, e => by cases e; rfl
  | [], y :: ys, k, _, vs, h1, h2, e => by
    rw [RepL.nil_iff] at h1
    subst h1
    rw [RepL.cons_iff] at h2
    obtain ⟨_, _, e, _⟩ := h2
    cases e
  | x :: xs, [], k, _, vs, h1, h2, e => by
    rw [RepL.nil_iff] at h2
    subst h2
    rw [RepL.cons_iff] at h1
    obtain ⟨_, _, e, _⟩ := h1
    cases e
  | x :: xs, y :: ys, k, ih, vs, h1, h2, e => by
    rw [RepL.cons_iff] at h1 h2
    obtain ⟨v, r, rfl, h1, h1'⟩ := h1
    obtain ⟨v', r', e', h2, h2'⟩ := h2
    cases e'
    unfold eqL at e
    obtain ⟨a, ea, e⟩ := Option.bind_eq_some_iff.mp e
    obtain ⟨c, ec, e⟩ := Option.bind_eq_some_iff.mp e
    have e1 := ih x y v a h1 h2 ea
    have e2 := eqL_same (vs := r) ih r h1' h2' ec
    subst e1 e2
    cases e
    rfl
theorem eqD_same (I : Inv X pins σ H s) (rl : Rl X.K ct w M H) : ∀ (n : Nat) (x y : D) (v : V) (k : Bool), Vw X.K w H x v → Vw X.K w H y v → eqD n x y = some k → k = true
  | 0, _, _, _, _, _, _, e => by cases e
  | n + 1, x, y, v, k, hx, hy, e => by
    have ih : ∀ x y v k, Rep X.K w x v → Rep X.K w y v → eqD n x y = some k → k = true := fun x y v k h1 h2 => eqD_same I rl n x y v k (Vw.of rl.sub h1) (Vw.of rl.sub h2)
    cases x <;> cases y <;> (try (unfold eqD at e; dsimp only [kOk, Bool.and_true, Bool.and_false, Bool.true_and, Bool.false_and, cond_true, cond_false] at e))
    all_goals try (cases e; done)
    case non.non => cases e; rfl
    case bl.bl a b =>
      cases hx
      cases hy
      cases e
      simp
    case int.int a b =>
      cases hx
      cases hy
      cases e
      simp
    case str.str a b =>
      cases hx
      cases hy
      cases e
      simp
    case lst.lst xs ys =>
      obtain ⟨a, vs, rfl, h1, h2⟩ := hx
      obtain ⟨a', vs', e', h1', h2'⟩ := hy
      cases e'
      rw [h1] at h1'
      cases h1'
      exact eqL_same (vs := vs) ih vs h2 h2' e
    case tup.tup xs ys =>
      obtain ⟨_, a, vs, rfl, h1, h2⟩ := hx
      obtain ⟨_, a', vs', e', h1', h2'⟩ := hy
      cases e'
      have := I.tuple_inj h1 h1'
      subst this
      exact eqL_same (vs := vs) ih vs h2 h2' e
    case ref.ref m m' =>
      split at e
      · cases e; rfl
      · cases e
    case lst.tup xs ys =>
      exfalso
      obtain ⟨a, vs, its, rfl, _, _, _, _, p⟩ := Vw.list I hx (u := _) (show RelV _ (V.casesOn (motive := fun _ => Value) v .none (fun b => .bool b) (fun i => .int i 0) (fun x => .str x 0) (fun b => .bytes b 0) (fun b => .float b 0) (fun a => .ref a) (fun n => .type n)) from by obtain ⟨a, vs, rfl, _⟩ := hx; rfl)
      obtain ⟨a', vs', its', e', _, _, _, _, p'⟩ := Vw.tuple I hy (u := .ref a) rfl
      cases e'
      exact lt_excl p p'
    case tup.lst xs ys =>
      exfalso
      obtain ⟨_, a, vs, rfl, _⟩ := id hx
      obtain ⟨a', vs', its, e1, _, _, _, _, p⟩ := Vw.tuple I hx (u := .ref a) rfl
      cases e1
      obtain ⟨a', vs', its', e', _, _, _, _, p'⟩ := Vw.list I hy (u := .ref a) rfl
      cases e'
      exact lt_excl p' p
    all_goals
      exfalso
      first
        | (cases hx; cases hy; done)
        | (obtain ⟨a, vs, rfl, _⟩ := hx; cases hy; done)
        | (obtain ⟨a, vs, rfl, _⟩ := hy; cases hx; done)
        | (obtain ⟨_, a, vs, rfl, _⟩ := hx; cases hy; done)
        | (obtain ⟨_, a, vs, rfl, _⟩ := hy; cases hx; done)
        | (cases hx; obtain ⟨_, _, e', _⟩ := hy; cases e'; done)
theorem items_at {xs : List D} {vs : List V} {its : List Value} (h : RepL X.K w xs vs) (r : Vals vs its) {j : Nat} (hj : j < its.toArray.size) : ∃ x v, xs[j]? = some x ∧ Rep X.K w x v ∧ RelV v its.toArray[j] := by
  have hj' : j < its.length := by simpa using hj
  have e : vs.length = its.length := r.length
  have e2 := h.length
  have hv : vs[j]? = some vs[j] := List.getElem?_eq_getElem (by omega)
  obtain ⟨u, h1, h2⟩ := r.get hv
  obtain ⟨d, h3, h4⟩ := h.get' hv
  refine ⟨d, _, h3, h4, ?_⟩
  have : its.toArray[j] = u := by
    rw [List.getElem?_eq_getElem hj'] at h1
    simpa using Option.some.inj h1
  rw [this]
  exact h2
theorem in1_lt {A : Around} {n : Nat} (h : A.units + (n + 1) < cLine) : A.in1.units + n < cLine := by
  show A.units + 1 + n < cLine
  omega
theorem eqAt_of_ne {A : Around} {u1 u2 : Value} {k : Bool} (hne : u1 ≠ u2) (hf : ∀ b t, u1 ≠ .float b t) (h : SeqAt.RcAt A s u1 u2 k) : SeqAt.EqAt A s u1 u2 k := fun prog w E Q hq => by
  unfold eqBool
  refine wpAny_holding ?_
  refine wpAny_ite_split (fun hab => absurd (eq_of_beq hab) hne) (fun _ => ?_)
  cases u1 with
  | float b t => exact absurd rfl (hf b t)
  | _ => exact wpAny_bind (h prog w E _ (wpAny_truthy_bool hq))
def Shp (s : Shared) : D → Value → Prop
  | .non, u => u = .none
  | .bl b, u => u = .bool b
  | .int i, u => ∃ t, u = .int i t
  | .str x, u => ∃ t, u = .str x t
  | .lst _, u => ∃ a its, u = .ref a ∧ s.heap.IsList a its
  | .tup _, u => ∃ a its, u = .ref a ∧ s.heap.IsTuple a its
  | _, _ => True
theorem Vw.shape (I : Inv X pins σ H s) {x : D} {v : V} {u : Value} (h : Vw X.K w H x v) (r : RelV v u) : Shp s x u := by
  cases x with
  | non => cases h; exact r
  | bl b => cases h; exact r
  | int i => cases h; exact r
  | str x => cases h; exact r
  | lst xs =>
    obtain ⟨a, vs, its, _, h1, _, _, _, h2⟩ := Vw.list I h r
    exact ⟨a, _, h1, h2⟩
  | tup xs =>
    obtain ⟨a, vs, its, _, h1, _, _, _, h2⟩ := Vw.tuple I h r
    exact ⟨a, _, h1, h2⟩
  | _ => trivial
theorem Shp.noflt {x : D} {u : Value} (h : Shp s x u) (hk : kOk x = true) : ∀ b t, u ≠ .float b t := fun b t e => by
  subst e
  cases x with
  | non => cases h
  | bl b => cases h
  | int i => obtain ⟨_, h⟩ := h; cases h
  | str x => obtain ⟨_, h⟩ := h; cases h
  | lst xs => obtain ⟨_, _, h, _⟩ := h; cases h
  | tup xs => obtain ⟨_, _, h, _⟩ := h; cases h
  | _ => cases hk
theorem eqD_kind {n : Nat} {x y : D} {k : Bool} (e : eqD (n + 1) x y = some k) : (kOk x = true ∧ kOk y = true) ∨ ∃ m, x = .ref m ∧ y = .ref m ∧ k = true := by
  cases x <;> cases y <;> (unfold eqD at e; dsimp only [kOk, Bool.and_true, Bool.and_false, Bool.true_and, Bool.false_and, cond_true, cond_false] at e)
  case ref.ref m m' =>
    split at e
    · rename_i h
      subst h
      cases e
      exact .inr ⟨_, rfl, rfl, rfl⟩
    · cases e
  all_goals first
    | exact .inl ⟨rfl, rfl⟩
    | cases e
theorem rc_step (I : Inv X pins σ H s) (rl : Rl X.K ct w M H) {n : Nat} (ih : ∀ (x y : D) (v1 v2 : V) (u1 u2 : Value) (k : Bool) (A : Around), A.units + n < cLine → Vw X.K w H x v1 → RelV v1 u1 → Vw X.K w H y v2 → RelV v2 u2 → eqD n x y = some k → SeqAt.EqAt A s u1 u2 k)
    {x y : D} {v1 v2 : V} {u1 u2 : Value} {k : Bool} {A : Around} (hu : A.units + (n + 1) < cLine) (hx : Vw X.K w H x v1) (r1 : RelV v1 u1) (hy : Vw X.K w H y v2) (r2 : RelV v2 u2) (hk : kOk x = true ∧ kOk y = true) (e : eqD (n + 1) x y = some k) : SeqAt.RcAt A s u1 u2 k := by
  have hu0 : A.units < cLine := by omega
  have sx := Vw.shape I hx r1
  have sy := Vw.shape I hy r2
  have items : ∀ {xs ys : List D} {vs vs' : List V} {its its' : List Value}, RepL X.K w xs vs → Vals vs its → RepL X.K w ys vs' → Vals vs' its' → (∀ (j : Nat) (x y : D), xs[j]? = some x → ys[j]? = some y → ∃ a, eqD n x y = some a) →
      ∀ j (h1 : j < its.toArray.size) (h2 : j < its'.toArray.size), SeqAt.EqAt A.in1 s its.toArray[j] its'.toArray[j] ((xs[j]?.bind fun x => ys[j]?.bind fun y => eqD n x y) == some true) := fun {xs ys vs vs' its its'} a b c d hq j h1 h2 => by
    obtain ⟨x, v, e1, p1, q1⟩ := items_at a b h1
    obtain ⟨y, v', e2, p2, q2⟩ := items_at c d h2
    obtain ⟨k', e3⟩ := hq j x y e1 e2
    rw [e1, e2]
    have z := ih x y v v' _ _ k' A.in1 (in1_lt hu) (Vw.of rl.sub p1) q1 (Vw.of rl.sub p2) q2 e3
    simp only [Option.bind_some, e3]
    cases k' <;> exact z
  cases x <;> cases y <;> (try (cases hk.1; done)) <;> (try (cases hk.2; done)) <;> (unfold eqD at e; dsimp only [kOk, Bool.and_true, Bool.and_false, Bool.true_and, Bool.false_and, cond_true, cond_false] at e)
  case lst.lst xs ys =>
    obtain ⟨a, vs, its, rfl, rfl, _, h2, h3, h4⟩ := Vw.list I hx r1
    obtain ⟨a', vs', its', rfl, rfl, _, h2', h3', h4'⟩ := Vw.list I hy r2
    obtain ⟨q1, q2⟩ := eqL_all e
    have l1 : its.toArray.size = xs.length := by rw [List.size_toArray, ← h3.length, h2.length]
    have l2 : its'.toArray.size = ys.length := by rw [List.size_toArray, ← h3'.length, h2'.length]
    by_cases hl : xs.length = ys.length
    · have := SeqAt.RcAt.lists h4 h4' (by omega) hu0 (items h2 h3 h2' h3' q2)
      rw [l1] at this
      rw [← hl, Nat.min_self] at q1
      simp only [beq_self_eq_true, Bool.and_true] at q1
      rw [← q1]
      exact this
    · have hk := eqL_len e hl
      subst hk
      exact SeqAt.RcAt.lists_lengths h4 h4' (by simp only [bne_iff_ne, ne_eq]; omega) hu0
  case tup.tup xs ys =>
    obtain ⟨a, vs, its, rfl, rfl, _, h2, h3, h4⟩ := Vw.tuple I hx r1
    obtain ⟨a', vs', its', rfl, rfl, _, h2', h3', h4'⟩ := Vw.tuple I hy r2
    obtain ⟨q1, q2⟩ := eqL_all e
    have l1 : its.toArray.size = xs.length := by rw [List.size_toArray, ← h3.length, h2.length]
    have l2 : its'.toArray.size = ys.length := by rw [List.size_toArray, ← h3'.length, h2'.length]
    have := SeqAt.RcAt.tuples h4 h4' hu0 (items h2 h3 h2' h3' q2)
    rw [l1, l2] at this
    rw [← q1]
    exact this
  case non.non =>
    cases e
    cases sx
    cases sy
    exact SeqAt.RcAt.none_none
  case non.bl =>
    cases e
    cases sx
    cases sy
    exact SeqAt.RcAt.none_bool _
  case non.int =>
    cases e
    cases sx
    obtain ⟨ty, rfl⟩ := sy
    exact SeqAt.RcAt.none_int _ _
  case non.str =>
    cases e
    cases sx
    obtain ⟨ty, rfl⟩ := sy
    exact SeqAt.RcAt.none_str _ _
  case non.lst =>
    cases e
    cases sx
    obtain ⟨ay, iy, rfl, py⟩ := sy
    exact SeqAt.RcAt.none_list py hu0
  case non.tup =>
    cases e
    cases sx
    obtain ⟨ay, iy, rfl, py⟩ := sy
    exact SeqAt.RcAt.none_tuple py hu0
  case bl.non =>
    cases e
    cases sx
    cases sy
    exact SeqAt.RcAt.bool_none _
  case bl.bl =>
    cases e
    cases sx
    cases sy
    exact SeqAt.RcAt.bool_bool _ _
  case bl.int =>
    cases e
    cases sx
    obtain ⟨ty, rfl⟩ := sy
    exact SeqAt.RcAt.bool_int _ _ _
  case bl.str =>
    cases e
    cases sx
    obtain ⟨ty, rfl⟩ := sy
    exact SeqAt.RcAt.bool_str _ _ _
  case bl.lst =>
    cases e
    cases sx
    obtain ⟨ay, iy, rfl, py⟩ := sy
    exact SeqAt.RcAt.bool_list _ py hu0
  case bl.tup =>
    cases e
    cases sx
    obtain ⟨ay, iy, rfl, py⟩ := sy
    exact SeqAt.RcAt.bool_tuple _ py hu0
  case int.non =>
    cases e
    obtain ⟨tx, rfl⟩ := sx
    cases sy
    exact SeqAt.RcAt.int_none _ _
  case int.bl =>
    cases e
    obtain ⟨tx, rfl⟩ := sx
    cases sy
    exact SeqAt.RcAt.int_bool _ _ _
  case int.int =>
    cases e
    obtain ⟨tx, rfl⟩ := sx
    obtain ⟨ty, rfl⟩ := sy
    exact SeqAt.RcAt.int_int _ _ _ _
  case int.str =>
    cases e
    obtain ⟨tx, rfl⟩ := sx
    obtain ⟨ty, rfl⟩ := sy
    exact SeqAt.RcAt.int_str _ _ _ _
  case int.lst =>
    cases e
    obtain ⟨tx, rfl⟩ := sx
    obtain ⟨ay, iy, rfl, py⟩ := sy
    exact SeqAt.RcAt.int_list _ _ py hu0
  case int.tup =>
    cases e
    obtain ⟨tx, rfl⟩ := sx
    obtain ⟨ay, iy, rfl, py⟩ := sy
    exact SeqAt.RcAt.int_tuple _ _ py hu0
  case str.non =>
    cases e
    obtain ⟨tx, rfl⟩ := sx
    cases sy
    exact SeqAt.RcAt.str_none _ _
  case str.bl =>
    cases e
    obtain ⟨tx, rfl⟩ := sx
    cases sy
    exact SeqAt.RcAt.str_bool _ _ _
  case str.int =>
    cases e
    obtain ⟨tx, rfl⟩ := sx
    obtain ⟨ty, rfl⟩ := sy
    exact SeqAt.RcAt.str_int _ _ _ _
  case str.str =>
    cases e
    obtain ⟨tx, rfl⟩ := sx
    obtain ⟨ty, rfl⟩ := sy
    exact SeqAt.RcAt.str_str _ _ _ _
  case str.lst =>
    cases e
    obtain ⟨tx, rfl⟩ := sx
    obtain ⟨ay, iy, rfl, py⟩ := sy
    exact SeqAt.RcAt.str_list _ _ py hu0
  case str.tup =>
    cases e
    obtain ⟨tx, rfl⟩ := sx
    obtain ⟨ay, iy, rfl, py⟩ := sy
    exact SeqAt.RcAt.str_tuple _ _ py hu0
  case lst.non =>
    cases e
    obtain ⟨ax, ix, rfl, px⟩ := sx
    cases sy
    exact SeqAt.RcAt.list_none px hu0
  case lst.bl =>
    cases e
    obtain ⟨ax, ix, rfl, px⟩ := sx
    cases sy
    exact SeqAt.RcAt.list_bool _ px hu0
  case lst.int =>
    cases e
    obtain ⟨ax, ix, rfl, px⟩ := sx
    obtain ⟨ty, rfl⟩ := sy
    exact SeqAt.RcAt.list_int _ _ px hu0
  case lst.str =>
    cases e
    obtain ⟨ax, ix, rfl, px⟩ := sx
    obtain ⟨ty, rfl⟩ := sy
    exact SeqAt.RcAt.list_str _ _ px hu0
  case lst.tup =>
    cases e
    obtain ⟨ax, ix, rfl, px⟩ := sx
    obtain ⟨ay, iy, rfl, py⟩ := sy
    exact SeqAt.RcAt.list_tuple px py hu0
  case tup.non =>
    cases e
    obtain ⟨ax, ix, rfl, px⟩ := sx
    cases sy
    exact SeqAt.RcAt.tuple_none px hu0
  case tup.bl =>
    cases e
    obtain ⟨ax, ix, rfl, px⟩ := sx
    cases sy
    exact SeqAt.RcAt.tuple_bool _ px hu0
  case tup.int =>
    cases e
    obtain ⟨ax, ix, rfl, px⟩ := sx
    obtain ⟨ty, rfl⟩ := sy
    exact SeqAt.RcAt.tuple_int _ _ px hu0
  case tup.str =>
    cases e
    obtain ⟨ax, ix, rfl, px⟩ := sx
    obtain ⟨ty, rfl⟩ := sy
    exact SeqAt.RcAt.tuple_str _ _ px hu0
  case tup.lst =>
    cases e
    obtain ⟨ax, ix, rfl, px⟩ := sx
    obtain ⟨ay, iy, rfl, py⟩ := sy
    exact SeqAt.RcAt.tuple_list px py hu0
theorem eqD_at (I : Inv X pins σ H s) (rl : Rl X.K ct w M H) : ∀ (n : Nat) (x y : D) (v1 v2 : V) (u1 u2 : Value) (k : Bool) (A : Around), A.units + n < cLine → Vw X.K w H x v1 → RelV v1 u1 → Vw X.K w H y v2 → RelV v2 u2 → eqD n x y = some k → SeqAt.EqAt A s u1 u2 k
  | 0, _, _, _, _, _, _, _, _, _, _, _, _, _, e => by cases e
  | n + 1, x, y, v1, v2, u1, u2, k, A, hu, hx, r1, hy, r2, e => by
    rcases eqD_kind e with hk | ⟨m, rfl, rfl, rfl⟩
    · by_cases hv : u1 = u2
      · have hv' : v1 = v2 := by
          subst hv
          exact r1.inj r2
        subst hv hv'
        have := eqD_same I rl (n + 1) x y v1 k hx hy e
        subst this
        exact SeqAt.EqAt.same _
      · exact eqAt_of_ne hv ((Vw.shape I hx r1).noflt hk.1) (rc_step I rl (eqD_at I rl n) hu hx r1 hy r2 hk e)
    · obtain ⟨a, rfl, h1⟩ := hx
      obtain ⟨a', rfl, h2⟩ := hy
      rw [h1] at h2
      cases h2
      cases r1
      cases r2
      exact SeqAt.EqAt.same _
end
end DL
namespace PySem.SeqAt
open AutoSeq1 (wpAny_loadPart')
open MeetsSeq MeetsSeq2 MeetsSeq3 SeqRoads2
section
variable {pr : Program} {wo : World}
abbrev lsO (dq : Option Addr) (xs : Array Value) (m : Nat) (so : Array (Option Value)) : Obj := { cls := .type "list", dict := dq, data := .seq xs m, slots := so }
abbrev tpO (dq : Option Addr) (xs : Array Value) (m : Nat) (so : Array (Option Value)) : Obj := { cls := .type "tuple", dict := dq, data := .seq xs m, slots := so }
abbrev ItemsP (pr : Program) (wo : World) (A : Around) (s : Shared) (xs ys : Array Value) (g : Nat → Bool) : Prop := ∀ j (h1 : j < xs.size) (h2 : j < ys.size), EqP pr wo A.in1 s xs[j] ys[j] (g j)
theorem ls_ne_loop (p q : Addr) (xs ys : Array Value) (m m2 : Nat) (dq dq2 : Option Addr) (so so2 : Array (Option Value)) (hs : xs.size = ys.size) (g : Nat → Bool) (r : Nat) :
    ∀ i : Nat, xs.size - i = r → MeetsIn pr wo (Builtin.«list.__eq__.loop» ⟨[.ref p, .ref q, rawInt i, rawInt 3], []⟩)
      (fun A R s => s.heap.get? p = some (lsO dq xs m so) ∧ s.heap.get? q = some (lsO dq2 ys m2 so2) ∧ ItemsP pr wo A s xs ys g ∧ R (.ok (.ret (.bool (!((List.range xs.size).drop i).all g)))) s) := by
  induction r with
  | zero =>
    intro i hr A R s hh
    obtain ⟨hp, gn, dd, tt, os⟩ := s
    obtain ⟨hl, hb, he, hR⟩ := hh
    wp_walk using wpAny_loadPart' hl, wpAny_loadPart' hb
    have n1 : xs[((i : Nat) : Int).toNat]? = none := by simp; omega
    have n2 : ys[((i : Nat) : Int).toNat]? = none := by simp; omega
    have n3 : (List.range xs.size).drop i = [] := by simp; omega
    rw [n3] at hR
    rw [n1, n2]
    wp_walk using wpAny_loadPart' hl, wpAny_loadPart' hb
    show R (.ok (.ret (.bool (xs.size != ys.size)))) _
    rw [hs]
    simpa using hR
  | succ r ih =>
    intro i hr A R s hh
    obtain ⟨hp, gn, dd, tt, os⟩ := s
    obtain ⟨hl, hb, he, hR⟩ := hh
    wp_walk using wpAny_loadPart' hl, wpAny_loadPart' hb
    have g1 : i < xs.size := by omega
    have g2 : i < ys.size := by omega
    have n1 : xs[((i : Nat) : Int).toNat]? = some xs[i] := by simp [g1]
    have n2 : ys[((i : Nat) : Int).toNat]? = some ys[i] := by simp [g2]
    have n3 : (List.range xs.size).drop i = i :: (List.range xs.size).drop (i + 1) := by simp [List.drop_eq_getElem_cons, g1]
    have n4 : ((i : Int) + 1) = ((i + 1 : Nat) : Int) := by push_cast; rfl
    rw [n3, List.all_cons] at hR
    rw [n1, n2]
    refine wpAny_bind (he i g1 g2 _ _ ?_)
    cases hg : g i with
    | true =>
      rw [hg] at hR
      wp_walk
      rw [n4]
      refine ⟨plainId_quiet plain_eq_loop _, codeAny_builtin entry_eq_loop ?_⟩
      rw [Around.under_plainId plain_eq_loop _]
      exact ih (i + 1) (by omega) A R _ ⟨hl, hb, he, by simpa using hR⟩
    | false =>
      rw [hg] at hR
      wp_walk using wpAny_loadPart' hl, wpAny_loadPart' hb
      rw [n1, n2]
      wp_walk
      simpa using hR
theorem ls_ne (p q : Addr) (xs ys : Array Value) (m m2 : Nat) (dq dq2 : Option Addr) (so so2 : Array (Option Value)) (hs : xs.size = ys.size) (g : Nat → Bool) :
    MeetsIn pr wo (Builtin.«list.__ne__» ⟨[.ref p, .ref q], []⟩)
      (fun A R s => s.heap.get? p = some (lsO dq xs m so) ∧ s.heap.get? q = some (lsO dq2 ys m2 so2) ∧ ItemsP pr wo A s xs ys g ∧ R (.ok (.ret (.bool (!(List.range xs.size).all g)))) s) := by
  intro A R s hh
  obtain ⟨hp, gn, dd, tt, os⟩ := s
  obtain ⟨hl, hb, he, hR⟩ := hh
  have sb := AutoSeq1.sub_list_list
  have nn : ¬ (xs.size != ys.size) = true := by simp [hs]
  wp_walk using wpAny_loadPart' hl, wpAny_loadPart' hb
  refine ⟨plainId_quiet plain_eq_loop _, codeAny_builtin entry_eq_loop ?_⟩
  rw [Around.under_plainId plain_eq_loop _]
  exact ls_ne_loop p q xs ys m m2 dq dq2 so so2 hs g _ 0 rfl A R _ ⟨hl, hb, he, by simpa using hR⟩
theorem tp_eq (p q : Addr) (xs ys : Array Value) (m m2 : Nat) (dq dq2 : Option Addr) (so so2 : Array (Option Value)) (g : Nat → Bool) :
    MeetsIn pr wo (Builtin.«tuple.__eq__» ⟨[.ref p, .ref q], []⟩)
      (fun A R s => s.heap.get? p = some (tpO dq xs m so) ∧ s.heap.get? q = some (tpO dq2 ys m2 so2) ∧ ItemsP pr wo A s xs ys g ∧ R (.ok (.ret (.bool ((List.range (min xs.size ys.size)).all g && xs.size == ys.size)))) s) := by
  intro A R s hh
  obtain ⟨hp, gn, dd, tt, os⟩ := s
  obtain ⟨hl, hb, he, hR⟩ := hh
  have sb := AutoSeq1.sub_tuple_tuple
  have zl : (xs.toList.zip ys.toList).length = min xs.size ys.size := by simp
  wp_walk using wpAny_loadPart' hl, wpAny_loadPart' hb, wpAny_forIn_list _ (fun rest b s' => b.1 = none ∧ s' = ⟨hp, gn, dd, tt, os⟩ ∧ ∃ i, rest = (xs.toList.zip ys.toList).drop i ∧
    R (.ok (.ret (.bool (((List.range (min xs.size ys.size)).drop i).all g && xs.size == ys.size)))) ⟨hp, gn, dd, tt, os⟩) _
  case turn =>
    rintro ⟨y, x⟩ rest b s' ⟨hb', rfl, i, hz, hR⟩
    have hlt : i < (xs.toList.zip ys.toList).length := by
      refine Nat.lt_of_not_le fun z => ?_
      rw [List.drop_of_length_le z] at hz
      cases hz
    have hm : i < min xs.size ys.size := zl ▸ hlt
    have g1 : i < xs.size := Nat.lt_of_lt_of_le hm (Nat.min_le_left _ _)
    have g2 : i < ys.size := Nat.lt_of_lt_of_le hm (Nat.min_le_right _ _)
    rw [List.drop_eq_getElem_cons hlt] at hz
    injection hz with z1 z2
    have e1 : y = xs[i] := by have := congrArg Prod.fst z1; simpa using this
    have e2 : x = ys[i] := by have := congrArg Prod.snd z1; simpa using this
    subst e1 e2
    have n3 : (List.range (min xs.size ys.size)).drop i = i :: (List.range (min xs.size ys.size)).drop (i + 1) := by simp [List.drop_eq_getElem_cons, hm]
    rw [n3, List.all_cons] at hR
    refine wpAny_bind (he i g1 g2 _ _ ?_)
    cases hg : g i with
    | true =>
      rw [hg] at hR
      wp_walk
      exact ⟨rfl, rfl, i + 1, z2, by simpa using hR⟩
    | false =>
      rw [hg] at hR
      wp_walk
      simpa using hR
  case fin =>
    rintro ⟨b1, b2⟩ s' ⟨hb', rfl, i, hz, hR⟩
    simp only at hb'
    subst hb'
    have hge : min xs.size ys.size ≤ i := by
      refine Nat.le_of_not_lt fun z => ?_
      have z' : i < (xs.toList.zip ys.toList).length := by rw [zl]; exact z
      rw [List.drop_eq_getElem_cons z'] at hz
      cases hz
    rw [List.drop_of_length_le (by simpa using hge)] at hR
    wp_walk
    simpa [Builtin.Tuple.tupleCompareSizes] using hR
  case h => exact ⟨rfl, rfl, 0, rfl, by simpa using hR⟩
theorem tp_ne (p q : Addr) (xs ys : Array Value) (m m2 : Nat) (dq dq2 : Option Addr) (so so2 : Array (Option Value)) (g : Nat → Bool) :
    MeetsIn pr wo (Builtin.«tuple.__ne__» ⟨[.ref p, .ref q], []⟩)
      (fun A R s => s.heap.get? p = some (tpO dq xs m so) ∧ s.heap.get? q = some (tpO dq2 ys m2 so2) ∧ ItemsP pr wo A s xs ys g ∧ R (.ok (.ret (.bool (!((List.range (min xs.size ys.size)).all g && xs.size == ys.size))))) s) := by
  intro A R s hh
  obtain ⟨hp, gn, dd, tt, os⟩ := s
  obtain ⟨hl, hb, he, hR⟩ := hh
  have sb := AutoSeq1.sub_tuple_tuple
  have zl : (xs.toList.zip ys.toList).length = min xs.size ys.size := by simp
  wp_walk using wpAny_loadPart' hl, wpAny_loadPart' hb, wpAny_forIn_list _ (fun rest b s' => b.1 = none ∧ s' = ⟨hp, gn, dd, tt, os⟩ ∧ ∃ i, rest = (xs.toList.zip ys.toList).drop i ∧
    R (.ok (.ret (.bool (!(((List.range (min xs.size ys.size)).drop i).all g && xs.size == ys.size))))) ⟨hp, gn, dd, tt, os⟩) _
  case turn =>
    rintro ⟨y, x⟩ rest b s' ⟨hb', rfl, i, hz, hR⟩
    have hlt : i < (xs.toList.zip ys.toList).length := by
      refine Nat.lt_of_not_le fun z => ?_
      rw [List.drop_of_length_le z] at hz
      cases hz
    have hm : i < min xs.size ys.size := zl ▸ hlt
    have g1 : i < xs.size := Nat.lt_of_lt_of_le hm (Nat.min_le_left _ _)
    have g2 : i < ys.size := Nat.lt_of_lt_of_le hm (Nat.min_le_right _ _)
    rw [List.drop_eq_getElem_cons hlt] at hz
    injection hz with z1 z2
    have e1 : y = xs[i] := by have := congrArg Prod.fst z1; simpa using this
    have e2 : x = ys[i] := by have := congrArg Prod.snd z1; simpa using this
    subst e1 e2
    have n3 : (List.range (min xs.size ys.size)).drop i = i :: (List.range (min xs.size ys.size)).drop (i + 1) := by simp [List.drop_eq_getElem_cons, hm]
    rw [n3, List.all_cons] at hR
    refine wpAny_bind (he i g1 g2 _ _ ?_)
    cases hg : g i with
    | true =>
      rw [hg] at hR
      wp_walk
      exact ⟨rfl, rfl, i + 1, z2, by simpa using hR⟩
    | false =>
      rw [hg] at hR
      wp_walk
      simpa using hR
  case fin =>
    rintro ⟨b1, b2⟩ s' ⟨hb', rfl, i, hz, hR⟩
    simp only at hb'
    subst hb'
    have hge : min xs.size ys.size ≤ i := by
      refine Nat.le_of_not_lt fun z => ?_
      have z' : i < (xs.toList.zip ys.toList).length := by rw [zl]; exact z
      rw [List.drop_eq_getElem_cons z'] at hz
      cases hz
    rw [List.drop_of_length_le (by simpa using hge)] at hR
    wp_walk
    simpa [Builtin.Tuple.tupleCompareSizes, bne] using hR
  case h => exact ⟨rfl, rfl, 0, rfl, by simpa using hR⟩
def RcP (pr : Program) (wo : World) (A : Around) (s : Shared) (y x : Value) (b : Bool) : Prop := ∀ (E : Value → Shared → Prop) (Q : Value → Shared → Prop), Q (.bool b) s → wpAny (model pr wo) A (richCompare .Eq y x) Q E s
def RcNeP (pr : Program) (wo : World) (A : Around) (s : Shared) (y x : Value) (b : Bool) : Prop := ∀ (E : Value → Shared → Prop) (Q : Value → Shared → Prop), Q (.bool b) s → wpAny (model pr wo) A (richCompare .NotEq y x) Q E s
theorem RcAt.p {A : Around} {s : Shared} {y x : Value} {b : Bool} (h : RcAt A s y x b) : RcP pr wo A s y x b := fun E Q q => h pr wo E Q q
theorem RcNeAt.p {A : Around} {s : Shared} {y x : Value} {b : Bool} (h : RcNeAt A s y x b) : RcNeP pr wo A s y x b := fun E Q q => h pr wo E Q q
variable {A : Around} {s : Shared} {p q : Addr} {xs ys : Array Value} {g : Nat → Bool}
theorem RcP.lists (hl : s.heap.IsList p xs) (hb : s.heap.IsList q ys) (hs : xs.size = ys.size) (hu : A.units < cLine) (he : ItemsP pr wo A s xs ys g) : RcP pr wo A s (.ref p) (.ref q) ((List.range xs.size).all g) :=
  fun E Q h => rcP_lists hl hb hs hu he E Q h
theorem RcNeP.lists (hl : s.heap.IsList p xs) (hb : s.heap.IsList q ys) (hs : xs.size = ys.size) (hu : A.units < cLine) (he : ItemsP pr wo A s xs ys g) : RcNeP pr wo A s (.ref p) (.ref q) (!(List.range xs.size).all g) := fun E Q h => by
  obtain ⟨⟨c1, d1, t1, s1⟩, ho, hc, m, hd⟩ := id hl
  obtain ⟨⟨c2, d2, t2, s2⟩, ho2, hc2, m2, hd2⟩ := id hb
  simp only at hc hd hc2 hd2
  subst hc hd hc2 hd2
  have ta : s.TypeIs (.ref p) "list" := ⟨_, ho, rfl⟩
  refine wpAny_richCompare_same_room (op := .NotEq) ta ⟨_, ho2, rfl⟩ F.slot_list_ne (call_meetsIn F.slot_list_ne ta F.entry_list_ne (F.args_list_ne_2 _ _) (ls_ne p q xs ys m m2 d1 d2 s1 s2 hs g) ⟨ho, ho2, he, ?_⟩) hu
  show Value.bool _ ≠ Value.notImplemented ∧ Q _ s
  exact ⟨(fun x => nomatch x), h⟩
theorem RcP.tuples (hl : s.heap.IsTuple p xs) (hb : s.heap.IsTuple q ys) (hu : A.units < cLine) (he : ItemsP pr wo A s xs ys g) : RcP pr wo A s (.ref p) (.ref q) ((List.range (min xs.size ys.size)).all g && xs.size == ys.size) := fun E Q h => by
  obtain ⟨⟨c1, d1, t1, s1⟩, ho, hc, m, hd⟩ := id hl
  obtain ⟨⟨c2, d2, t2, s2⟩, ho2, hc2, m2, hd2⟩ := id hb
  simp only at hc hd hc2 hd2
  subst hc hd hc2 hd2
  have ta : s.TypeIs (.ref p) "tuple" := ⟨_, ho, rfl⟩
  refine wpAny_richCompare_same_room (op := .Eq) ta ⟨_, ho2, rfl⟩ F.slot_tuple_eq (call_meetsIn F.slot_tuple_eq ta F.entry_tuple_eq (F.args_tuple_eq_2 _ _) (tp_eq p q xs ys m m2 d1 d2 s1 s2 g) ⟨ho, ho2, he, ?_⟩) hu
  show Value.bool _ ≠ Value.notImplemented ∧ Q _ s
  exact ⟨(fun x => nomatch x), h⟩
theorem RcNeP.tuples (hl : s.heap.IsTuple p xs) (hb : s.heap.IsTuple q ys) (hu : A.units < cLine) (he : ItemsP pr wo A s xs ys g) : RcNeP pr wo A s (.ref p) (.ref q) (!((List.range (min xs.size ys.size)).all g && xs.size == ys.size)) := fun E Q h => by
  obtain ⟨⟨c1, d1, t1, s1⟩, ho, hc, m, hd⟩ := id hl
  obtain ⟨⟨c2, d2, t2, s2⟩, ho2, hc2, m2, hd2⟩ := id hb
  simp only at hc hd hc2 hd2
  subst hc hd hc2 hd2
  have ta : s.TypeIs (.ref p) "tuple" := ⟨_, ho, rfl⟩
  refine wpAny_richCompare_same_room (op := .NotEq) ta ⟨_, ho2, rfl⟩ F.slot_tuple_ne (call_meetsIn F.slot_tuple_ne ta F.entry_tuple_ne (F.args_tuple_ne_2 _ _) (tp_ne p q xs ys m m2 d1 d2 s1 s2 g) ⟨ho, ho2, he, ?_⟩) hu
  show Value.bool _ ≠ Value.notImplemented ∧ Q _ s
  exact ⟨(fun x => nomatch x), h⟩
variable {K : Type} [DecidableEq K] {knd : KeyKind pr wo K} {ka kb : List (K × Value)} {r : Bool}
theorem RcP.dicts (ha : (p == sysModules) = false) (hb : (q == sysModules) = false) (da : s.heap.DictOf knd p ka) (db : s.heap.DictOf knd q kb) (hu : A.units < cLine) (hits : ka.length = kb.length → PySem.W.KeqHitsP pr wo A.in1 s kb ka r) : RcP pr wo A s (.ref p) (.ref q) (ka.length == kb.length && r) :=
  fun E Q h => PySem.W.rcP_dicts ha hb da db hu hits E Q h
theorem RcNeP.dicts (ha : (p == sysModules) = false) (hb : (q == sysModules) = false) (da : s.heap.DictOf knd p ka) (db : s.heap.DictOf knd q kb) (hu : A.units < cLine) (hits : ka.length = kb.length → PySem.W.KeqHitsP pr wo A.in1 s kb ka r) : RcNeP pr wo A s (.ref p) (.ref q) (!(ka.length == kb.length && r)) := fun E Q h => by
  refine wpAny_richCompare_same_room (op := .NotEq) da.typeIs db.typeIs PySem.F.slot_dict_ne (wpAny_call_entry PySem.F.slot_dict_ne da.typeIs PySem.F.entry_dict_ne ?_ (PySem.F.args_dict_ne_2 _ _)) hu
  show wpAny _ _ (Builtin.Dict.dictSlotArgs "__ne__" ⟨[.ref p, .ref q], []⟩ >>= _) _ _ s
  refine wpAny_bind ?_
  unfold Builtin.Dict.dictSlotArgs
  refine wpAny_bind (wpAny_notOrdered_dict da.typeIs ?_)
  show wpAny _ _ (pure (Value.ref p, Value.ref q)) _ _ s
  refine wpAny_pure (wpAny_bind (wpAny_isInstance (T := "dict") db.typeIs PySem.F.sub_dict_dict ?_))
  simp only [Bool.not_true, Bool.false_eq_true, if_false]
  refine wpAny_bind (wpAny_pure (wpAny_bind (wpAny_pure ?_)))
  refine wpAny_bind (PySem.W.samePairsP ha hb da db hits (wpAny_pure ⟨_, rfl, ?_, ?_⟩))
  · exact fun x => nomatch x
  · simpa using h
end
end PySem.SeqAt
namespace DL
open PySem PySem.Spec PyProof.Rows L2
section
variable {α β : Type}
def dget (ks : List Key) (xs : List α) (k : Key) : Option α := ((ks.zip xs).find? fun kv => decide (kv.1 = k)).map (·.2)
end
section
variable {K : PySem.W.Frag} {w : Wd}
theorem dget_rep {k : Key} : ∀ {ks : List Key} {xs : List D} {vs : List V}, RepL K w xs vs →
    (∀ d, dget ks xs k = some d → ∃ v, valV (ks.zip vs) k = some v ∧ Rep K w d v) ∧ (dget ks xs k = none → valV (ks.zip vs) k = none)
  | [], xs, vs, _ => ⟨fun d e => by simp [dget] at e, fun _ => by simp [valV]⟩
  | j :: ks, [], vs, h => by
    rw [RepL.nil_iff] at h
    subst h
    exact ⟨fun d e => by simp [dget] at e, fun _ => by simp [valV]⟩
  | j :: ks, x :: xs, vs, h => by
    rw [RepL.cons_iff] at h
    obtain ⟨v, r, rfl, h1, h2⟩ := h
    obtain ⟨i1, i2⟩ := dget_rep (k := k) (ks := ks) h2
    by_cases e : j = k
    · subst e
      refine ⟨fun d q => ⟨v, by simp [valV], ?_⟩, fun q => by simp [dget] at q⟩
      simp [dget] at q
      subst q
      exact h1
    · have a : dget (j :: ks) (x :: xs) k = dget ks xs k := by simp [dget, List.find?_cons, e]
      have c : valV ((j :: ks).zip (v :: r)) k = valV (ks.zip r) k := by simp [valV, List.find?_cons, e]
      rw [a, c]
      exact ⟨i1, i2⟩
end
def hitsD (f : D → D → Option Bool) (ls : List Key) (ys : List D) : List Key → List D → Option Bool
  | k :: ks, x :: xs => match dget ls ys k with
    | some y => (f x y).bind fun a => (hitsD f ls ys ks xs).bind fun c => some (a && c)
    | none => some false
  | _, _ => some true
def eqF : Nat → D → D → Option Bool
  | 0, _, _ => none
  | n + 1, x, y => match x, y with
    | .bl a, .bl b => some (a == b)
    | .bl a, .int j => some ((if a then 1 else 0) == j)
    | .int i, .bl b => some (i == (if b then 1 else 0))
    | .int i, .int j => some (i == j)
    | .str x, .str y => some (x == y)
    | .non, .non => some true
    | .lst xs, .lst ys => eqL (eqF n) xs ys
    | .tup xs, .tup ys => eqL (eqF n) xs ys
    | .dic ks xs, .dic ls ys => if ks.length = ls.length then hitsD (eqF n) ls ys ks xs else some false
    | .ref m, .ref k => if m = k then some true else none
    | x, y => cond (kOk x && kOk y) (some false) none
section
variable {X : Cx} {ct : CT} {w : Wd} {M : Store} {H : Hp} {pins : List (Addr × Obj)} {σ : L2.St} {s : Shared}
theorem Rd.dk_inj {a : Addr} {kvs kvs' : List (Key × V)} (h : Rd H a (.dK kvs)) (h' : Rd H a (.dK kvs')) : kvs = kvs' := by
  rcases h with h | ⟨o, h⟩ <;> rcases h' with h' | ⟨o', h'⟩ <;> rw [h] at h' <;> cases h' <;> rfl
theorem find_nodup {ks : List Key} {xs : List D} (hn : ks.Nodup) : ∀ {i : Nat} {k : Key} {x : D}, ks[i]? = some k → xs[i]? = some x → dget ks xs k = some x := by
  induction ks generalizing xs with
  | nil => intro i k x e; simp at e
  | cons j ks ih =>
    intro i k x e1 e2
    cases xs with
    | nil => simp at e2
    | cons y ys =>
      cases i with
      | zero =>
        simp at e1 e2
        subst e1 e2
        simp [dget]
      | succ i =>
        simp only [List.getElem?_cons_succ] at e1 e2
        have hj : j ≠ k := fun z => (List.nodup_cons.mp hn).1 (z ▸ List.mem_of_getElem? e1)
        have := ih (List.nodup_cons.mp hn).2 e1 e2
        simpa [dget, List.find?_cons, hj] using this
theorem hitsD_same {f : D → D → Option Bool} {ls : List Key} {ys : List D} (hn : ls.Nodup) (hf : ∀ x y v k, Rep X.K w x v → Rep X.K w y v → f x y = some k → k = true) {lv : List V} (hy : RepL X.K w ys lv) :
    ∀ {ks : List Key} {xs : List D} {vs : List V} {k : Bool} {i : Nat}, RepL X.K w xs vs → (∀ j, ks[j]? = ls[i + j]?) → (∀ j, vs[j]? = lv[i + j]?) → hitsD f ls ys ks xs = some k → k = true
  | [], _, _, k, _, _, _, _, e => by simp only [hitsD] at e; cases e; rfl
  | _ :: _, [], _, k, _, _, _, _, e => by simp only [hitsD] at e; cases e; rfl
  | key :: ks, x :: xs, vs, k, i, hx, hk, hv, e => by
    rw [RepL.cons_iff] at hx
    obtain ⟨v, r, rfl, h1, h2⟩ := hx
    have k0 := hk 0
    have v0 := hv 0
    simp only [List.getElem?_cons_zero, Nat.add_zero] at k0 v0
    obtain ⟨y, ey, hyv⟩ := hy.get' v0.symm
    have hd := find_nodup hn k0.symm ey
    simp only [hitsD, hd] at e
    obtain ⟨a, ea, e⟩ := Option.bind_eq_some_iff.mp e
    obtain ⟨c, ec, e⟩ := Option.bind_eq_some_iff.mp e
    have a1 := hf x y v a h1 hyv ea
    have c1 := hitsD_same hn hf hy (i := i + 1) h2 (fun j => by have := hk (j + 1); simpa [Nat.add_assoc, Nat.add_comm 1 j] using this) (fun j => by have := hv (j + 1); simpa [Nat.add_assoc, Nat.add_comm 1 j] using this) ec
    subst a1 c1
    cases e
    rfl
theorem kv_fst : ∀ {kvs : List (Key × V)} {ws : List (Key × Value)}, KV kvs ws → kvs.map (·.1) = ws.map (·.1)
  | _, _, .nil => rfl
  | _, _, .cons h t => by
    obtain ⟨h1, _⟩ := h
    have := kv_fst t
    simp only [List.map_cons, this, h1]
theorem dic_nodup (I : Inv X pins σ H s) {ks : List Key} {xs : List D} {v : V} (h : Vw X.K w H (.dic ks xs) v) : ks.Nodup := by
  obtain ⟨a, vs, rfl, h1, h2, h3⟩ := h
  obtain ⟨_, _, ws, kv, o, es, ep, _, _, _, _, _, g6⟩ := dk_rd I.hok h1
  have e : (ks.zip vs).map (·.1) = ks := by
    rw [List.map_fst_zip]
    rw [← h3.length, h2]
    exact Nat.le_refl _
  have e2 := kv_fst kv
  rw [← e, e2]
  exact g6
theorem eqF_same (I : Inv X pins σ H s) (rl : Rl X.K ct w M H) : ∀ (n : Nat) (x y : D) (v : V) (k : Bool), Vw X.K w H x v → Vw X.K w H y v → eqF n x y = some k → k = true
  | 0, _, _, _, _, _, _, e => by cases e
  | n + 1, x, y, v, k, hx, hy, e => by
    have ih : ∀ x y v k, Rep X.K w x v → Rep X.K w y v → eqF n x y = some k → k = true := fun x y v k h1 h2 => eqF_same I rl n x y v k (Vw.of rl.sub h1) (Vw.of rl.sub h2)
    cases x <;> cases y <;> (try (unfold eqF at e; dsimp only [kOk, Bool.and_true, Bool.and_false, Bool.true_and, Bool.false_and, cond_true, cond_false] at e))
    all_goals try (cases e; done)
    case non.non => cases e; rfl
    case bl.bl a b =>
      cases hx
      cases hy
      cases e
      simp
    case int.int a b =>
      cases hx
      cases hy
      cases e
      simp
    case str.str a b =>
      cases hx
      cases hy
      cases e
      simp
    case lst.lst xs ys =>
      obtain ⟨a, vs, rfl, h1, h2⟩ := hx
      obtain ⟨a', vs', e', h1', h2'⟩ := hy
      cases e'
      rw [h1] at h1'
      cases h1'
      exact eqL_same (vs := vs) ih vs h2 h2' e
    case tup.tup xs ys =>
      obtain ⟨_, a, vs, rfl, h1, h2⟩ := hx
      obtain ⟨_, a', vs', e', h1', h2'⟩ := hy
      cases e'
      have := I.tuple_inj h1 h1'
      subst this
      exact eqL_same (vs := vs) ih vs h2 h2' e
    case dic.dic ks xs ls ys =>
      have nd := dic_nodup I hy
      obtain ⟨a, vs, rfl, h1, h2, h3⟩ := hx
      obtain ⟨a', vs', e', h1', h2', h3'⟩ := hy
      cases e'
      have := Rd.dk_inj h1 h1'
      obtain ⟨rfl, rfl⟩ := zip_inj (by rw [h2, h3.length]) (by rw [h2', h3'.length]) this
      rw [if_pos rfl] at e
      exact hitsD_same nd ih h3' (i := 0) h3 (fun j => by simp) (fun j => by simp) e
    case ref.ref m m' =>
      split at e
      · cases e; rfl
      · cases e
    case lst.tup xs ys =>
      exfalso
      obtain ⟨a, vs, its, rfl, _, _, _, _, p⟩ := Vw.list I hx (u := _) (show RelV _ (V.casesOn (motive := fun _ => Value) v .none (fun b => .bool b) (fun i => .int i 0) (fun x => .str x 0) (fun b => .bytes b 0) (fun b => .float b 0) (fun a => .ref a) (fun n => .type n)) from by obtain ⟨a, vs, rfl, _⟩ := hx; rfl)
      obtain ⟨a', vs', its', e', _, _, _, _, p'⟩ := Vw.tuple I hy (u := .ref a) rfl
      cases e'
      exact lt_excl p p'
    case tup.lst xs ys =>
      exfalso
      obtain ⟨_, a, vs, rfl, _⟩ := id hx
      obtain ⟨a', vs', its, e1, _, _, _, _, p⟩ := Vw.tuple I hx (u := .ref a) rfl
      cases e1
      obtain ⟨a', vs', its', e', _, _, _, _, p'⟩ := Vw.list I hy (u := .ref a) rfl
      cases e'
      exact lt_excl p' p
    all_goals
      exfalso
      first
        | (cases hx; cases hy; done)
        | (obtain ⟨a, vs, rfl, _⟩ := hx; cases hy; done)
        | (obtain ⟨a, vs, rfl, _⟩ := hy; cases hx; done)
        | (obtain ⟨_, a, vs, rfl, _⟩ := hx; cases hy; done)
        | (obtain ⟨_, a, vs, rfl, _⟩ := hy; cases hx; done)
        | (cases hx; obtain ⟨_, _, e', _⟩ := hy; cases e'; done)
theorem eqP_of_ne {A : Around} {u1 u2 : Value} {k : Bool} (hne : u1 ≠ u2) (hf : ∀ b t, u1 ≠ .float b t) (h : SeqAt.RcP X.prog X.w A s u1 u2 k) : SeqAt.EqP X.prog X.w A s u1 u2 k := fun E Q hq => by
  unfold eqBool
  refine wpAny_holding ?_
  refine wpAny_ite_split (fun hab => absurd (eq_of_beq hab) hne) (fun _ => ?_)
  cases u1 with
  | float b t => exact absurd rfl (hf b t)
  | _ => exact wpAny_bind (h E _ (wpAny_truthy_bool hq))
def isDic : D → Bool
  | .dic _ _ => true
  | _ => false
theorem eqF_kind {n : Nat} {x y : D} {k : Bool} (e : eqF (n + 1) x y = some k) : (kOk x = true ∧ kOk y = true) ∨ (∃ m, x = .ref m ∧ y = .ref m ∧ k = true) ∨ ∃ ks xs ls ys, x = .dic ks xs ∧ y = .dic ls ys := by
  cases x <;> cases y <;> (unfold eqF at e; dsimp only [kOk, Bool.and_true, Bool.and_false, Bool.true_and, Bool.false_and, cond_true, cond_false] at e)
  case ref.ref m m' =>
    split at e
    · rename_i h
      subst h
      cases e
      exact .inr (.inl ⟨_, rfl, rfl, rfl⟩)
    · cases e
  all_goals first
    | exact .inl ⟨rfl, rfl⟩
    | exact .inr (.inr ⟨_, _, _, _, rfl, rfl⟩)
    | cases e
theorem rcF_step (I : Inv X pins σ H s) (rl : Rl X.K ct w M H) {n : Nat} (ih : ∀ (x y : D) (v1 v2 : V) (u1 u2 : Value) (k : Bool) (A : Around), A.units + n < cLine → Vw X.K w H x v1 → RelV v1 u1 → Vw X.K w H y v2 → RelV v2 u2 → eqF n x y = some k → SeqAt.EqP X.prog X.w A s u1 u2 k)
    {x y : D} {v1 v2 : V} {u1 u2 : Value} {k : Bool} {A : Around} (hu : A.units + (n + 1) < cLine) (hx : Vw X.K w H x v1) (r1 : RelV v1 u1) (hy : Vw X.K w H y v2) (r2 : RelV v2 u2) (hk : kOk x = true ∧ kOk y = true) (e : eqF (n + 1) x y = some k) : SeqAt.RcP X.prog X.w A s u1 u2 k := by
  have hu0 : A.units < cLine := by omega
  have sx := Vw.shape I hx r1
  have sy := Vw.shape I hy r2
  have items : ∀ {xs ys : List D} {vs vs' : List V} {its its' : List Value}, RepL X.K w xs vs → Vals vs its → RepL X.K w ys vs' → Vals vs' its' → (∀ (j : Nat) (x y : D), xs[j]? = some x → ys[j]? = some y → ∃ a, eqF n x y = some a) →
      ∀ j (h1 : j < its.toArray.size) (h2 : j < its'.toArray.size), SeqAt.EqP X.prog X.w A.in1 s its.toArray[j] its'.toArray[j] ((xs[j]?.bind fun x => ys[j]?.bind fun y => eqF n x y) == some true) := fun {xs ys vs vs' its its'} a b c d hq j h1 h2 => by
    obtain ⟨x, v, e1, p1, q1⟩ := items_at a b h1
    obtain ⟨y, v', e2, p2, q2⟩ := items_at c d h2
    obtain ⟨k', e3⟩ := hq j x y e1 e2
    rw [e1, e2]
    have z := ih x y v v' _ _ k' A.in1 (in1_lt hu) (Vw.of rl.sub p1) q1 (Vw.of rl.sub p2) q2 e3
    simp only [Option.bind_some, e3]
    cases k' <;> exact z
  cases x <;> cases y <;> (try (cases hk.1; done)) <;> (try (cases hk.2; done)) <;> (unfold eqF at e; dsimp only [kOk, Bool.and_true, Bool.and_false, Bool.true_and, Bool.false_and, cond_true, cond_false] at e)
  case lst.lst xs ys =>
    obtain ⟨a, vs, its, rfl, rfl, _, h2, h3, h4⟩ := Vw.list I hx r1
    obtain ⟨a', vs', its', rfl, rfl, _, h2', h3', h4'⟩ := Vw.list I hy r2
    obtain ⟨q1, q2⟩ := eqL_all e
    have l1 : its.toArray.size = xs.length := by rw [List.size_toArray, ← h3.length, h2.length]
    have l2 : its'.toArray.size = ys.length := by rw [List.size_toArray, ← h3'.length, h2'.length]
    by_cases hl : xs.length = ys.length
    · have := SeqAt.RcP.lists (pr := X.prog) (wo := X.w) h4 h4' (by omega) hu0 (items h2 h3 h2' h3' q2)
      rw [l1] at this
      rw [← hl, Nat.min_self] at q1
      simp only [beq_self_eq_true, Bool.and_true] at q1
      rw [← q1]
      exact this
    · have hk := eqL_len e hl
      subst hk
      exact (SeqAt.RcAt.lists_lengths h4 h4' (by simp only [bne_iff_ne, ne_eq]; omega) hu0).p
  case tup.tup xs ys =>
    obtain ⟨a, vs, its, rfl, rfl, _, h2, h3, h4⟩ := Vw.tuple I hx r1
    obtain ⟨a', vs', its', rfl, rfl, _, h2', h3', h4'⟩ := Vw.tuple I hy r2
    obtain ⟨q1, q2⟩ := eqL_all e
    have l1 : its.toArray.size = xs.length := by rw [List.size_toArray, ← h3.length, h2.length]
    have l2 : its'.toArray.size = ys.length := by rw [List.size_toArray, ← h3'.length, h2'.length]
    have := SeqAt.RcP.tuples (pr := X.prog) (wo := X.w) h4 h4' hu0 (items h2 h3 h2' h3' q2)
    rw [l1, l2] at this
    rw [← q1]
    exact this
  case non.non =>
    cases e
    cases sx
    cases sy
    exact (SeqAt.RcAt.none_none ).p
  case non.bl =>
    cases e
    cases sx
    cases sy
    exact (SeqAt.RcAt.none_bool _).p
  case non.int =>
    cases e
    cases sx
    obtain ⟨ty, rfl⟩ := sy
    exact (SeqAt.RcAt.none_int _ _).p
  case non.str =>
    cases e
    cases sx
    obtain ⟨ty, rfl⟩ := sy
    exact (SeqAt.RcAt.none_str _ _).p
  case non.lst =>
    cases e
    cases sx
    obtain ⟨ay, iy, rfl, py⟩ := sy
    exact (SeqAt.RcAt.none_list py hu0).p
  case non.tup =>
    cases e
    cases sx
    obtain ⟨ay, iy, rfl, py⟩ := sy
    exact (SeqAt.RcAt.none_tuple py hu0).p
  case bl.non =>
    cases e
    cases sx
    cases sy
    exact (SeqAt.RcAt.bool_none _).p
  case bl.bl =>
    cases e
    cases sx
    cases sy
    exact (SeqAt.RcAt.bool_bool _ _).p
  case bl.int =>
    cases e
    cases sx
    obtain ⟨ty, rfl⟩ := sy
    exact (SeqAt.RcAt.bool_int _ _ _).p
  case bl.str =>
    cases e
    cases sx
    obtain ⟨ty, rfl⟩ := sy
    exact (SeqAt.RcAt.bool_str _ _ _).p
  case bl.lst =>
    cases e
    cases sx
    obtain ⟨ay, iy, rfl, py⟩ := sy
    exact (SeqAt.RcAt.bool_list _ py hu0).p
  case bl.tup =>
    cases e
    cases sx
    obtain ⟨ay, iy, rfl, py⟩ := sy
    exact (SeqAt.RcAt.bool_tuple _ py hu0).p
  case int.non =>
    cases e
    obtain ⟨tx, rfl⟩ := sx
    cases sy
    exact (SeqAt.RcAt.int_none _ _).p
  case int.bl =>
    cases e
    obtain ⟨tx, rfl⟩ := sx
    cases sy
    exact (SeqAt.RcAt.int_bool _ _ _).p
  case int.int =>
    cases e
    obtain ⟨tx, rfl⟩ := sx
    obtain ⟨ty, rfl⟩ := sy
    exact (SeqAt.RcAt.int_int _ _ _ _).p
  case int.str =>
    cases e
    obtain ⟨tx, rfl⟩ := sx
    obtain ⟨ty, rfl⟩ := sy
    exact (SeqAt.RcAt.int_str _ _ _ _).p
  case int.lst =>
    cases e
    obtain ⟨tx, rfl⟩ := sx
    obtain ⟨ay, iy, rfl, py⟩ := sy
    exact (SeqAt.RcAt.int_list _ _ py hu0).p
  case int.tup =>
    cases e
    obtain ⟨tx, rfl⟩ := sx
    obtain ⟨ay, iy, rfl, py⟩ := sy
    exact (SeqAt.RcAt.int_tuple _ _ py hu0).p
  case str.non =>
    cases e
    obtain ⟨tx, rfl⟩ := sx
    cases sy
    exact (SeqAt.RcAt.str_none _ _).p
  case str.bl =>
    cases e
    obtain ⟨tx, rfl⟩ := sx
    cases sy
    exact (SeqAt.RcAt.str_bool _ _ _).p
  case str.int =>
    cases e
    obtain ⟨tx, rfl⟩ := sx
    obtain ⟨ty, rfl⟩ := sy
    exact (SeqAt.RcAt.str_int _ _ _ _).p
  case str.str =>
    cases e
    obtain ⟨tx, rfl⟩ := sx
    obtain ⟨ty, rfl⟩ := sy
    exact (SeqAt.RcAt.str_str _ _ _ _).p
  case str.lst =>
    cases e
    obtain ⟨tx, rfl⟩ := sx
    obtain ⟨ay, iy, rfl, py⟩ := sy
    exact (SeqAt.RcAt.str_list _ _ py hu0).p
  case str.tup =>
    cases e
    obtain ⟨tx, rfl⟩ := sx
    obtain ⟨ay, iy, rfl, py⟩ := sy
    exact (SeqAt.RcAt.str_tuple _ _ py hu0).p
  case lst.non =>
    cases e
    obtain ⟨ax, ix, rfl, px⟩ := sx
    cases sy
    exact (SeqAt.RcAt.list_none px hu0).p
  case lst.bl =>
    cases e
    obtain ⟨ax, ix, rfl, px⟩ := sx
    cases sy
    exact (SeqAt.RcAt.list_bool _ px hu0).p
  case lst.int =>
    cases e
    obtain ⟨ax, ix, rfl, px⟩ := sx
    obtain ⟨ty, rfl⟩ := sy
    exact (SeqAt.RcAt.list_int _ _ px hu0).p
  case lst.str =>
    cases e
    obtain ⟨ax, ix, rfl, px⟩ := sx
    obtain ⟨ty, rfl⟩ := sy
    exact (SeqAt.RcAt.list_str _ _ px hu0).p
  case lst.tup =>
    cases e
    obtain ⟨ax, ix, rfl, px⟩ := sx
    obtain ⟨ay, iy, rfl, py⟩ := sy
    exact (SeqAt.RcAt.list_tuple px py hu0).p
  case tup.non =>
    cases e
    obtain ⟨ax, ix, rfl, px⟩ := sx
    cases sy
    exact (SeqAt.RcAt.tuple_none px hu0).p
  case tup.bl =>
    cases e
    obtain ⟨ax, ix, rfl, px⟩ := sx
    cases sy
    exact (SeqAt.RcAt.tuple_bool _ px hu0).p
  case tup.int =>
    cases e
    obtain ⟨ax, ix, rfl, px⟩ := sx
    obtain ⟨ty, rfl⟩ := sy
    exact (SeqAt.RcAt.tuple_int _ _ px hu0).p
  case tup.str =>
    cases e
    obtain ⟨ax, ix, rfl, px⟩ := sx
    obtain ⟨ty, rfl⟩ := sy
    exact (SeqAt.RcAt.tuple_str _ _ px hu0).p
  case tup.lst =>
    cases e
    obtain ⟨ax, ix, rfl, px⟩ := sx
    obtain ⟨ay, iy, rfl, py⟩ := sy
    exact (SeqAt.RcAt.tuple_list px py hu0).p
theorem rcneF_step (I : Inv X pins σ H s) (rl : Rl X.K ct w M H) {n : Nat} (ih : ∀ (x y : D) (v1 v2 : V) (u1 u2 : Value) (k : Bool) (A : Around), A.units + n < cLine → Vw X.K w H x v1 → RelV v1 u1 → Vw X.K w H y v2 → RelV v2 u2 → eqF n x y = some k → SeqAt.EqP X.prog X.w A s u1 u2 k)
    {x y : D} {v1 v2 : V} {u1 u2 : Value} {k : Bool} {A : Around} (hu : A.units + (n + 1) < cLine) (hx : Vw X.K w H x v1) (r1 : RelV v1 u1) (hy : Vw X.K w H y v2) (r2 : RelV v2 u2) (hk : kOk x = true ∧ kOk y = true) (e : eqF (n + 1) x y = some k) : SeqAt.RcNeP X.prog X.w A s u1 u2 (!k) := by
  have hu0 : A.units < cLine := by omega
  have sx := Vw.shape I hx r1
  have sy := Vw.shape I hy r2
  have items : ∀ {xs ys : List D} {vs vs' : List V} {its its' : List Value}, RepL X.K w xs vs → Vals vs its → RepL X.K w ys vs' → Vals vs' its' → (∀ (j : Nat) (x y : D), xs[j]? = some x → ys[j]? = some y → ∃ a, eqF n x y = some a) →
      ∀ j (h1 : j < its.toArray.size) (h2 : j < its'.toArray.size), SeqAt.EqP X.prog X.w A.in1 s its.toArray[j] its'.toArray[j] ((xs[j]?.bind fun x => ys[j]?.bind fun y => eqF n x y) == some true) := fun {xs ys vs vs' its its'} a b c d hq j h1 h2 => by
    obtain ⟨x, v, e1, p1, q1⟩ := items_at a b h1
    obtain ⟨y, v', e2, p2, q2⟩ := items_at c d h2
    obtain ⟨k', e3⟩ := hq j x y e1 e2
    rw [e1, e2]
    have z := ih x y v v' _ _ k' A.in1 (in1_lt hu) (Vw.of rl.sub p1) q1 (Vw.of rl.sub p2) q2 e3
    simp only [Option.bind_some, e3]
    cases k' <;> exact z
  cases x <;> cases y <;> (try (cases hk.1; done)) <;> (try (cases hk.2; done)) <;> (unfold eqF at e; dsimp only [kOk, Bool.and_true, Bool.and_false, Bool.true_and, Bool.false_and, cond_true, cond_false] at e)
  case lst.lst xs ys =>
    obtain ⟨a, vs, its, rfl, rfl, _, h2, h3, h4⟩ := Vw.list I hx r1
    obtain ⟨a', vs', its', rfl, rfl, _, h2', h3', h4'⟩ := Vw.list I hy r2
    obtain ⟨q1, q2⟩ := eqL_all e
    have l1 : its.toArray.size = xs.length := by rw [List.size_toArray, ← h3.length, h2.length]
    have l2 : its'.toArray.size = ys.length := by rw [List.size_toArray, ← h3'.length, h2'.length]
    by_cases hl : xs.length = ys.length
    · have := SeqAt.RcNeP.lists (pr := X.prog) (wo := X.w) h4 h4' (by omega) hu0 (items h2 h3 h2' h3' q2)
      rw [l1] at this
      rw [← hl, Nat.min_self] at q1
      simp only [beq_self_eq_true, Bool.and_true] at q1
      rw [← q1]
      exact this
    · have hk := eqL_len e hl
      subst hk
      exact (SeqAt.RcNeAt.lists_lengths h4 h4' (by simp only [bne_iff_ne, ne_eq]; omega) hu0).p
  case tup.tup xs ys =>
    obtain ⟨a, vs, its, rfl, rfl, _, h2, h3, h4⟩ := Vw.tuple I hx r1
    obtain ⟨a', vs', its', rfl, rfl, _, h2', h3', h4'⟩ := Vw.tuple I hy r2
    obtain ⟨q1, q2⟩ := eqL_all e
    have l1 : its.toArray.size = xs.length := by rw [List.size_toArray, ← h3.length, h2.length]
    have l2 : its'.toArray.size = ys.length := by rw [List.size_toArray, ← h3'.length, h2'.length]
    have := SeqAt.RcNeP.tuples (pr := X.prog) (wo := X.w) h4 h4' hu0 (items h2 h3 h2' h3' q2)
    rw [l1, l2] at this
    rw [← q1]
    exact this
  case non.non =>
    cases e
    cases sx
    cases sy
    exact (SeqAt.RcNeAt.none_none ).p
  case non.bl =>
    cases e
    cases sx
    cases sy
    exact (SeqAt.RcNeAt.none_bool _).p
  case non.int =>
    cases e
    cases sx
    obtain ⟨ty, rfl⟩ := sy
    exact (SeqAt.RcNeAt.none_int _ _).p
  case non.str =>
    cases e
    cases sx
    obtain ⟨ty, rfl⟩ := sy
    exact (SeqAt.RcNeAt.none_str _ _).p
  case non.lst =>
    cases e
    cases sx
    obtain ⟨ay, iy, rfl, py⟩ := sy
    exact (SeqAt.RcNeAt.none_list py hu0).p
  case non.tup =>
    cases e
    cases sx
    obtain ⟨ay, iy, rfl, py⟩ := sy
    exact (SeqAt.RcNeAt.none_tuple py hu0).p
  case bl.non =>
    cases e
    cases sx
    cases sy
    exact (SeqAt.RcNeAt.bool_none _).p
  case bl.bl =>
    cases e
    cases sx
    cases sy
    exact (SeqAt.RcNeAt.bool_bool _ _).p
  case bl.int =>
    cases e
    cases sx
    obtain ⟨ty, rfl⟩ := sy
    exact (SeqAt.RcNeAt.bool_int _ _ _).p
  case bl.str =>
    cases e
    cases sx
    obtain ⟨ty, rfl⟩ := sy
    exact (SeqAt.RcNeAt.bool_str _ _ _).p
  case bl.lst =>
    cases e
    cases sx
    obtain ⟨ay, iy, rfl, py⟩ := sy
    exact (SeqAt.RcNeAt.bool_list _ py hu0).p
  case bl.tup =>
    cases e
    cases sx
    obtain ⟨ay, iy, rfl, py⟩ := sy
    exact (SeqAt.RcNeAt.bool_tuple _ py hu0).p
  case int.non =>
    cases e
    obtain ⟨tx, rfl⟩ := sx
    cases sy
    exact (SeqAt.RcNeAt.int_none _ _).p
  case int.bl =>
    cases e
    obtain ⟨tx, rfl⟩ := sx
    cases sy
    exact (SeqAt.RcNeAt.int_bool _ _ _).p
  case int.int =>
    cases e
    obtain ⟨tx, rfl⟩ := sx
    obtain ⟨ty, rfl⟩ := sy
    exact (SeqAt.RcNeAt.int_int _ _ _ _).p
  case int.str =>
    cases e
    obtain ⟨tx, rfl⟩ := sx
    obtain ⟨ty, rfl⟩ := sy
    exact (SeqAt.RcNeAt.int_str _ _ _ _).p
  case int.lst =>
    cases e
    obtain ⟨tx, rfl⟩ := sx
    obtain ⟨ay, iy, rfl, py⟩ := sy
    exact (SeqAt.RcNeAt.int_list _ _ py hu0).p
  case int.tup =>
    cases e
    obtain ⟨tx, rfl⟩ := sx
    obtain ⟨ay, iy, rfl, py⟩ := sy
    exact (SeqAt.RcNeAt.int_tuple _ _ py hu0).p
  case str.non =>
    cases e
    obtain ⟨tx, rfl⟩ := sx
    cases sy
    exact (SeqAt.RcNeAt.str_none _ _).p
  case str.bl =>
    cases e
    obtain ⟨tx, rfl⟩ := sx
    cases sy
    exact (SeqAt.RcNeAt.str_bool _ _ _).p
  case str.int =>
    cases e
    obtain ⟨tx, rfl⟩ := sx
    obtain ⟨ty, rfl⟩ := sy
    exact (SeqAt.RcNeAt.str_int _ _ _ _).p
  case str.str =>
    cases e
    obtain ⟨tx, rfl⟩ := sx
    obtain ⟨ty, rfl⟩ := sy
    exact (SeqAt.RcNeAt.str_str _ _ _ _).p
  case str.lst =>
    cases e
    obtain ⟨tx, rfl⟩ := sx
    obtain ⟨ay, iy, rfl, py⟩ := sy
    exact (SeqAt.RcNeAt.str_list _ _ py hu0).p
  case str.tup =>
    cases e
    obtain ⟨tx, rfl⟩ := sx
    obtain ⟨ay, iy, rfl, py⟩ := sy
    exact (SeqAt.RcNeAt.str_tuple _ _ py hu0).p
  case lst.non =>
    cases e
    obtain ⟨ax, ix, rfl, px⟩ := sx
    cases sy
    exact (SeqAt.RcNeAt.list_none px hu0).p
  case lst.bl =>
    cases e
    obtain ⟨ax, ix, rfl, px⟩ := sx
    cases sy
    exact (SeqAt.RcNeAt.list_bool _ px hu0).p
  case lst.int =>
    cases e
    obtain ⟨ax, ix, rfl, px⟩ := sx
    obtain ⟨ty, rfl⟩ := sy
    exact (SeqAt.RcNeAt.list_int _ _ px hu0).p
  case lst.str =>
    cases e
    obtain ⟨ax, ix, rfl, px⟩ := sx
    obtain ⟨ty, rfl⟩ := sy
    exact (SeqAt.RcNeAt.list_str _ _ px hu0).p
  case lst.tup =>
    cases e
    obtain ⟨ax, ix, rfl, px⟩ := sx
    obtain ⟨ay, iy, rfl, py⟩ := sy
    exact (SeqAt.RcNeAt.list_tuple px py hu0).p
  case tup.non =>
    cases e
    obtain ⟨ax, ix, rfl, px⟩ := sx
    cases sy
    exact (SeqAt.RcNeAt.tuple_none px hu0).p
  case tup.bl =>
    cases e
    obtain ⟨ax, ix, rfl, px⟩ := sx
    cases sy
    exact (SeqAt.RcNeAt.tuple_bool _ px hu0).p
  case tup.int =>
    cases e
    obtain ⟨ax, ix, rfl, px⟩ := sx
    obtain ⟨ty, rfl⟩ := sy
    exact (SeqAt.RcNeAt.tuple_int _ _ px hu0).p
  case tup.str =>
    cases e
    obtain ⟨ax, ix, rfl, px⟩ := sx
    obtain ⟨ty, rfl⟩ := sy
    exact (SeqAt.RcNeAt.tuple_str _ _ px hu0).p
  case tup.lst =>
    cases e
    obtain ⟨ax, ix, rfl, px⟩ := sx
    obtain ⟨ay, iy, rfl, py⟩ := sy
    exact (SeqAt.RcNeAt.tuple_list px py hu0).p
theorem hits_of {A : Around} {f : D → D → Option Bool} {ls : List Key} {ys : List D} {lv : List V} {vb : List (Key × Value)} (rb : KV (ls.zip lv) vb) (hy : RepL X.K w ys lv)
    (ih : ∀ (x y : D) (v1 v2 : V) (u1 u2 : Value) (k : Bool), Rep X.K w x v1 → RelV v1 u1 → Rep X.K w y v2 → RelV v2 u2 → f x y = some k → SeqAt.EqP X.prog X.w A s u1 u2 k) :
    ∀ {ks : List Key} {xs : List D} {vs : List V} {va : List (Key × Value)} {k : Bool}, ks.length = xs.length → RepL X.K w xs vs → KV (ks.zip vs) va → hitsD f ls ys ks xs = some k → PySem.W.KeqHitsP X.prog X.w A s vb va k
  | [], [], vs, va, k, _, _, ra, e => by
    cases ra
    simp only [hitsD] at e
    cases e
    exact .nil
  | key :: ks, x :: xs, vs, va, k, hl, hx, ra, e => by
    rw [RepL.cons_iff] at hx
    obtain ⟨v, r, rfl, h1, h2⟩ := hx
    cases ra with
    | @cons _ q _ qs hq t =>
    obtain ⟨q1, q2⟩ := q
    obtain ⟨g1, g2⟩ := hq
    have g1 : key = q1 := g1
    subst g1
    have rv := rb.val key
    obtain ⟨d1, d2⟩ := dget_rep (k := key) (ks := ls) hy
    simp only [hitsD] at e
    split at e
    · rename_i y ey
      obtain ⟨a, ea, e⟩ := Option.bind_eq_some_iff.mp e
      obtain ⟨c, ec, e⟩ := Option.bind_eq_some_iff.mp e
      cases e
      obtain ⟨yv, e1, e2⟩ := d1 y ey
      rw [e1] at rv
      obtain ⟨u, e3, e4⟩ := rv.some_of
      exact .hit e3 (ih x y v yv _ _ a h1 g2 e2 e4 ea) (hits_of rb hy ih (by simpa using hl) h2 t ec)
    · rename_i ey
      cases e
      have e1 := d2 ey
      rw [e1] at rv
      exact .miss rv.none_of
theorem rcF_dic (I : Inv X pins σ H s) (rl : Rl X.K ct w M H) {n : Nat} (ih : ∀ (x y : D) (v1 v2 : V) (u1 u2 : Value) (k : Bool) (A : Around), A.units + n < cLine → Vw X.K w H x v1 → RelV v1 u1 → Vw X.K w H y v2 → RelV v2 u2 → eqF n x y = some k → SeqAt.EqP X.prog X.w A s u1 u2 k)
    {ks ls : List Key} {xs ys : List D} {v1 v2 : V} {u1 u2 : Value} {k : Bool} {A : Around} (hu : A.units + (n + 1) < cLine) (hx : Vw X.K w H (.dic ks xs) v1) (r1 : RelV v1 u1) (hy : Vw X.K w H (.dic ls ys) v2) (r2 : RelV v2 u2) (e : eqF (n + 1) (.dic ks xs) (.dic ls ys) = some k) :
    SeqAt.RcP X.prog X.w A s u1 u2 k ∧ SeqAt.RcNeP X.prog X.w A s u1 u2 (!k) := by
  have hu0 : A.units < cLine := by omega
  obtain ⟨a, vs, rfl, h1, h2, h3⟩ := hx
  obtain ⟨a', vs', rfl, h1', h2', h3'⟩ := hy
  cases r1
  cases r2
  obtain ⟨_, sa, wa, ra, da⟩ := dk_rd I.hok h1
  obtain ⟨_, sb, wb, rb, db⟩ := dk_rd I.hok h1'
  have l1 := h3.length
  have l2 := h3'.length
  have la : (ks.zip vs).length = wa.length := Paired.length ra
  have lb : (ls.zip vs').length = wb.length := Paired.length rb
  rw [List.length_zip] at la lb
  unfold eqF at e
  dsimp only at e
  have hk : ∃ r, (wa.length == wb.length && r) = k ∧ (wa.length = wb.length → PySem.W.KeqHitsP X.prog X.w A.in1 s wb wa r) := by
    split at e
    · rename_i hl
      refine ⟨k, ?_, fun _ => hits_of rb h3' (fun x y v1 v2 u1 u2 k p1 q1 p2 q2 z => ih x y v1 v2 u1 u2 k A.in1 (in1_lt hu) (Vw.of rl.sub p1) q1 (Vw.of rl.sub p2) q2 z) h2 h3 ra e⟩
      have : wa.length = wb.length := by omega
      simp [this]
    · rename_i hl
      cases e
      have ne : wa.length ≠ wb.length := by omega
      exact ⟨true, by simp [ne], fun z => absurd z ne⟩
  obtain ⟨r, rfl, hits⟩ := hk
  exact ⟨SeqAt.RcP.dicts (knd := mixKind X.prog X.w) sa sb da db hu0 hits, SeqAt.RcNeP.dicts (knd := mixKind X.prog X.w) sa sb da db hu0 hits⟩
theorem eqF_at (I : Inv X pins σ H s) (rl : Rl X.K ct w M H) : ∀ (n : Nat) (x y : D) (v1 v2 : V) (u1 u2 : Value) (k : Bool) (A : Around), A.units + n < cLine → Vw X.K w H x v1 → RelV v1 u1 → Vw X.K w H y v2 → RelV v2 u2 → eqF n x y = some k → SeqAt.EqP X.prog X.w A s u1 u2 k
  | 0, _, _, _, _, _, _, _, _, _, _, _, _, _, e => by cases e
  | n + 1, x, y, v1, v2, u1, u2, k, A, hu, hx, r1, hy, r2, e => by
    have same : u1 = u2 → SeqAt.EqP X.prog X.w A s u1 u2 k := fun hv => by
      subst hv
      have hv' : v1 = v2 := r1.inj r2
      subst hv'
      have := eqF_same I rl (n + 1) x y v1 k hx hy e
      subst this
      exact (SeqAt.EqAt.same _).eqP
    by_cases hv : u1 = u2
    · exact same hv
    · rcases eqF_kind e with hk | ⟨m, rfl, rfl, rfl⟩ | ⟨ks, xs, ls, ys, rfl, rfl⟩
      · exact eqP_of_ne hv ((Vw.shape I hx r1).noflt hk.1) (rcF_step I rl (eqF_at I rl n) hu hx r1 hy r2 hk e)
      · obtain ⟨a, rfl, h1⟩ := hx
        obtain ⟨a', rfl, h2⟩ := hy
        rw [h1] at h2
        cases h2
        cases r1
        cases r2
        exact absurd rfl hv
      · refine eqP_of_ne hv (fun b t z => ?_) (rcF_dic I rl (eqF_at I rl n) hu hx r1 hy r2 e).1
        obtain ⟨a, vs, rfl, _⟩ := hx
        cases r1
        cases z
theorem rcF (I : Inv X pins σ H s) (rl : Rl X.K ct w M H) {x y : D} {v1 v2 : V} {u1 u2 : Value} {k : Bool} {A : Around} (hu : A.units + 60 < cLine) (hx : Vw X.K w H x v1) (r1 : RelV v1 u1) (hy : Vw X.K w H y v2) (r2 : RelV v2 u2) (hk : (kOk x = true ∧ kOk y = true) ∨ (isDic x = true ∧ isDic y = true)) (e : eqF 60 x y = some k) :
    SeqAt.RcP X.prog X.w A s u1 u2 k ∧ SeqAt.RcNeP X.prog X.w A s u1 u2 (!k) := by
  rcases hk with hk | ⟨k1, k2⟩
  · exact ⟨rcF_step I rl (eqF_at I rl 59) hu hx r1 hy r2 hk e, rcneF_step I rl (eqF_at I rl 59) hu hx r1 hy r2 hk e⟩
  · cases x <;> cases k1
    cases y <;> cases k2
    exact rcF_dic I rl (eqF_at I rl 59) hu hx r1 hy r2 e
end
end DL
namespace DL
open PySem PySem.Spec PyProof.Rows L2
section
variable {X : Cx} {ct : CT} {b : Base} {W : WX}
theorem OpV.mk' {fn : Value → Value → Sem Value} {g : D → D → Option D}
    (h : ∀ (pins : List (Addr × Obj)) (s : Shared) (σ : L2.St) (H : Hp) (x y : V) (v u : Value) (Q : VK) (w : Wd) (M : Store) (dx dy d : D), Inv X pins σ H s → RelV x v → RelV y u → Rl X.K ct w M H → Vw X.K w H dx x → Vw X.K w H dy y → g dx dy = some d →
      Ok1 X.K ct w M H d Q → wpAny (model X.prog X.w) X.A (fn v u) (EP X pins σ Q) X.xe s) : OpV X ct fn g :=
  ⟨fun x y H Q => ∃ w M dx dy d, Rl X.K ct w M H ∧ Vw X.K w H dx x ∧ Vw X.K w H dy y ∧ g dx dy = some d ∧ Ok1 X.K ct w M H d Q,
    fun pins s σ H x y v u Q I rx ry ⟨w, M, dx, dy, d, rl, hx, hy, e, k⟩ => h pins s σ H x y v u Q w M dx dy d I rx ry rl hx hy e k,
    fun w M H x y v1 v2 d Q rl hx hy e k => ⟨w, M, x, y, d, rl, hx, hy, e, k⟩⟩
theorem UnV.mk' {fn : Value → Sem Value} {g : D → Option D}
    (h : ∀ (pins : List (Addr × Obj)) (s : Shared) (σ : L2.St) (H : Hp) (x : V) (v : Value) (Q : VK) (w : Wd) (M : Store) (dx d : D), Inv X pins σ H s → RelV x v → Rl X.K ct w M H → Vw X.K w H dx x → g dx = some d →
      Ok1 X.K ct w M H d Q → wpAny (model X.prog X.w) X.A (fn v) (EP X pins σ Q) X.xe s) : UnV X ct fn g :=
  ⟨fun x H Q => ∃ w M dx d, Rl X.K ct w M H ∧ Vw X.K w H dx x ∧ g dx = some d ∧ Ok1 X.K ct w M H d Q,
    fun pins s σ H x v Q I rx ⟨w, M, dx, d, rl, hx, e, k⟩ => h pins s σ H x v Q w M dx d I rx rl hx e k,
    fun w M H x v1 d Q rl hx e k => ⟨w, M, x, d, rl, hx, e, k⟩⟩
def Flat : D → V → Prop
  | .non, v => v = .non
  | .bl b, v => v = .bl b
  | .int i, v => v = .int i
  | .str x, v => v = .str x
  | _, _ => False
theorem Flat.rep {K : PySem.W.Frag} {w : Wd} {d : D} {v : V} (h : Flat d v) : Rep K w d v := by
  cases d <;> first | (simp only [Rep]; exact h) | exact h.elim
theorem Ok1.now {w : Wd} {M : Store} {H : Hp} {d : D} {v : V} {Q : VK} (k : Ok1 X.K ct w M H d Q) (rl : Rl X.K ct w M H) (h : Flat d v) : Q v H := k w v H (Step.refl _ _) rl h.rep
theorem Ok1.old {w : Wd} {M : Store} {H : Hp} {d : D} {v : V} {Q : VK} (k : Ok1 X.K ct w M H d Q) (rl : Rl X.K ct w M H) (h : Rep X.K w d v) : Q v H := k w v H (Step.refl _ _) rl h
theorem Ok1.tup {w : Wd} {M : Store} {H : Hp} {xs : List D} {vs : List V} {Q : VK} (k : Ok1 X.K ct w M H (.tup xs) Q) (rl : Rl X.K ct w M H) (h : RepL X.K w xs vs) {p : Addr} (hp : H p = none) {o : Obj} (ho : o.dict = none) : Q (.ref p) (upd H p (.frz o (.tup vs))) := by
  obtain ⟨s, r⟩ := rl.frozen (o := .frz o (.tup vs)) hp ho
  refine k _ _ _ s r ?_
  simp only [Rep]
  exact ⟨p, vs, rfl, .inl (.inr ⟨o, upd_same⟩), s.repL h⟩
theorem Ok1.lst {w : Wd} {M : Store} {H : Hp} {xs : List D} {vs : List V} {Q : VK} (k : Ok1 X.K ct w M H (.lst xs) Q) (rl : Rl X.K ct w M H) (h : RepL X.K w xs vs) {p : Addr} (hp : H p = none) : Q (.ref p) (upd H p (.lst vs)) := by
  obtain ⟨s, r⟩ := rl.frozen (o := .lst vs) hp trivial
  refine k _ _ _ s r ?_
  simp only [Rep]
  exact ⟨p, vs, rfl, upd_same, s.repL h⟩
def mulOk (i j : Int) : Prop := (-(2 ^ 64) < i ∧ i < 2 ^ 64) ∨ (-(2 ^ 64) < j ∧ j < 2 ^ 64) ∨ i.natAbs.log2 + j.natAbs.log2 < 1000000
instance (i j : Int) : Decidable (mulOk i j) := by unfold mulOk; infer_instance
theorem mulOk.ok {i j : Int} (h : mulOk i j) : IntMulOk i j := by
  rcases h with h | h | h
  · exact CMul.ok (.inl h)
  · exact CMul.ok (.inr h)
  · exact CMulW.ok h
def strRep (x : Str) (n : Int) : Option D := if 0 ≤ n ∧ n < 2 ^ 40 ∧ x.length * n.toNat ≤ sizeLine then some (.str (Txt.mul x n)) else none
def gAdd : D → D → Option D
  | .int i, .int j => some (.int (i + j))
  | .str x, .str y => if x.length + y.length ≤ sizeLine then some (.str (x ++ y)) else none
  | .tup xs, .tup ys => if xs.length + ys.length ≤ sizeLine then some (.tup (xs ++ ys)) else none
  | .lst xs, .lst ys => if xs.length + ys.length ≤ sizeLine then some (.lst (xs ++ ys)) else none
  | _, _ => none
def gSub : D → D → Option D
  | .int i, .int j => some (.int (i - j))
  | _, _ => none
def gMul : D → D → Option D
  | .int i, .int j => if mulOk i j then some (.int (i * j)) else none
  | .lst xs, .int k => if -(2 ^ 63) ≤ k ∧ k < 2 ^ 63 ∧ xs.length * k.toNat ≤ sizeLine then some (.lst (List.replicate k.toNat xs).flatten) else none
  | .str x, .int k => strRep x k
  | _, _ => none
def gDiv : D → D → Option D
  | .int i, .int j => if 0 < j ∧ j.natAbs.log2 < 9000 then some (.int (i / j)) else if j < 0 ∧ j.natAbs.log2 < 9000 then some (.int (i.fdiv j)) else none
  | _, _ => none
def gMod : D → D → Option D
  | .int i, .int j => if 0 < j then some (.int (i % j)) else if j < 0 then some (.int (i.fmod j)) else none
  | _, _ => none
def gPow : D → D → Option D
  | .int i, .int j => if 0 ≤ j ∧ j ≤ 1000000 ∧ i.natAbs < 2 ^ 64 then some (.int (i ^ j.toNat)) else none
  | _, _ => none
theorem op_catF : OpR X (binaryOp .Add) (fun x y H Q => ∃ a b xs ys, x = .ref a ∧ y = .ref b ∧ SqT X.K H a xs ∧ SqT X.K H b ys ∧ xs.length + ys.length ≤ sizeLine ∧
    (xs = [] → Q (.ref b) H) ∧ (xs ≠ [] → ys = [] → Q (.ref a) H) ∧ (∀ p o, H p = none → o.dict = none → Q (.ref p) (upd H p (.frz o (.tup (xs ++ ys)))))) := by
  intro pins s σ H x y v u Q I rx ry h
  obtain ⟨a, b, xs, ys, rfl, rfl, ha, hb, hz, q0, q1, q2⟩ := h
  by_cases hx : xs = []
  · exact op_catA pins s σ H _ _ v u Q I rx ry ⟨a, b, xs, ys, rfl, rfl, ha, hb, hz, q0, q1, fun z => absurd hx z⟩
  cases rx
  cases ry
  obtain ⟨its, r1, p1, _⟩ := I.tuple ha
  obtain ⟨its2, r2, p2, _⟩ := I.tuple hb
  refine HT.cat_tup p1 p2 (fun z => hx (r1.nil_iff.mp z)) (fun z => ⟨.ref a, H, I, rfl, q1 hx (r2.nil_iff.mp z)⟩) (fun z => ?_) (by rw [← r1.length, ← r2.length]; exact hz)
  refine ⟨.ref s.heap.objs.size, _, I.laid (t' := s.toks) (o := .frz _ (.tup (xs ++ ys))) (fun b ob q => Heap.get?_push_of_some _ q) (Nat.le_refl _) ⟨Heap.get?_push_size _ rfl, ?_⟩, rfl, q2 _ _ (I.hok.fresh (Nat.le_refl _)) rfl⟩
  exact ⟨by rw [List.length_append]; exact hz, _, r1.append r2, IsTup.new _ _⟩
theorem ov_add : OpV X ct (binaryOp .Add) gAdd := OpV.mk' fun pins s σ H x y v u Q w M dx dy d I rx ry rl hx hy e k => by
  unfold gAdd at e
  split at e
  · cases e
    exact op_add pins s σ H x y v u Q I rx ry ⟨_, _, hx, hy, k.now rl rfl⟩
  · split at e
    · cases e
      exact op_add_str pins s σ H x y v u Q I rx ry ⟨_, _, hx, hy, by assumption, k.now rl rfl⟩
    · cases e
  · split at e
    · rename_i xs ys hl
      cases e
      obtain ⟨hr, a, vs, rfl, h1, h2⟩ := hx
      obtain ⟨hr', a', vs', rfl, h1', h2'⟩ := hy
      refine op_catF pins s σ H _ _ v u Q I rx ry ⟨a, a', vs, vs', rfl, rfl, h1, h1', by rw [← h2.length, ← h2'.length]; exact hl, fun z => ?_, fun _ z => ?_, fun p o hp ho => k.tup rl (h2.append h2') hp ho⟩
      · have : xs = [] := List.length_eq_zero_iff.mp (by rw [h2.length, z]; rfl)
        subst this
        exact k.old rl hr'
      · have : ys = [] := List.length_eq_zero_iff.mp (by rw [h2'.length, z]; rfl)
        subst this
        rw [List.append_nil] at k
        exact k.old rl hr
    · cases e
  · split at e
    · rename_i xs ys hl
      cases e
      obtain ⟨a, vs, rfl, h1, h2⟩ := hx
      obtain ⟨a', vs', rfl, h1', h2'⟩ := hy
      exact op_cat pins s σ H _ _ v u Q I rx ry ⟨a, a', vs, vs', rfl, rfl, h1, h1', by rw [← h2.length, ← h2'.length]; exact hl, fun p hp => k.lst rl (h2.append h2') hp⟩
    · cases e
  · cases e
theorem ov_sub : OpV X ct (binaryOp .Sub) gSub := OpV.mk' fun pins s σ H x y v u Q w M dx dy d I rx ry rl hx hy e k => by
  unfold gSub at e
  split at e
  · cases e
    exact op_sub pins s σ H x y v u Q I rx ry ⟨_, _, hx, hy, k.now rl rfl⟩
  · cases e
theorem ov_mul : OpV X ct (binaryOp .Mult) gMul := OpV.mk' fun pins s σ H x y v u Q w M dx dy d I rx ry rl hx hy e k => by
  unfold gMul at e
  split at e
  · split at e
    · rename_i i j h
      cases e
      cases hx
      cases hy
      obtain ⟨t, rfl⟩ := rx
      obtain ⟨t', rfl⟩ := ry
      exact mul_int ⟨.int _, H, I.tok _, ⟨_, rfl⟩, k.now rl rfl⟩ h.ok
    · cases e
  · split at e
    · rename_i xs j h
      cases e
      obtain ⟨a, vs, rfl, h1, h2⟩ := hx
      cases hy
      refine op_rep pins s σ H _ _ v u Q I rx ry ⟨a, j, vs, rfl, rfl, h1, h.1, h.2.1, by rw [← h2.length]; exact h.2.2, fun p hp => k.lst rl ?_ hp⟩
      generalize j.toNat = n
      induction n with
      | zero => exact .nil
      | succ n ih =>
        rw [List.replicate_succ, List.replicate_succ, List.flatten_cons, List.flatten_cons]
        exact h2.append ih
    · cases e
  · unfold strRep at e
    split at e
    · rename_i x n h
      cases e
      cases hx
      cases hy
      obtain ⟨t, rfl⟩ := rx
      obtain ⟨t', rfl⟩ := ry
      have hs : sizeLine = 16777216 := sizeLine_eq
      refine PySem.SB.mul ⟨by simp; omega, fun h1 h2 => ?_, fun h1 h2 => ?_⟩ fun t'' k' => ⟨.str _, H, I.tok _, ⟨_, rfl⟩, k.now rl rfl⟩
      · have hn : 0 < n := by omega
        have hx : x.length ≤ sizeLine := by
          have := h.2.2
          have h3 : 1 ≤ n.toNat := by omega
          calc x.length = x.length * 1 := by omega
            _ ≤ x.length * n.toNat := Nat.mul_le_mul_left _ h3
            _ ≤ sizeLine := this
        have hd : (2 : Int) ^ 63 - 1 ≥ n * x.length := by
          have h4 : ((x.length * n.toNat : Nat) : Int) ≤ sizeLine := by exact_mod_cast h.2.2
          have h5 : ((x.length * n.toNat : Nat) : Int) = n * x.length := by
            rw [Int.natCast_mul, Int.toNat_of_nonneg (by omega), Int.mul_comm]
          rw [h5, hs] at h4
          omega
        have : (x.length : Int) ≤ (2 ^ 63 - 1) / n := by
          rw [Int.le_ediv_iff_mul_le hn, Int.mul_comm]
          exact hd
        omega
      · unfold PySem.Builtin.Str.tooLong
        rw [decide_eq_false_iff_not]
        have := h.2.2
        omega
    · cases e
  · cases e
theorem ov_div : OpV X ct (binaryOp .FloorDiv) gDiv := OpV.mk' fun pins s σ H x y v u Q w M dx dy d I rx ry rl hx hy e k => by
  unfold gDiv at e
  split at e
  · split at e
    · rename_i i j h
      cases e
      exact op_fdivW pins s σ H x y v u Q I rx ry ⟨_, _, hx, hy, h, k.now rl rfl⟩
    · split at e
      · rename_i i j h0 h
        cases e
        cases hx
        cases hy
        obtain ⟨t, rfl⟩ := rx
        obtain ⟨t', rfl⟩ := ry
        exact floordiv_int (by omega) ⟨.int _, H, I.tok _, ⟨_, rfl⟩, k.now rl rfl⟩ (.inl (PyProof.noPylong_of_log2 h.2))
      · cases e
  · cases e
theorem ov_mod : OpV X ct (binaryOp .Mod) gMod := OpV.mk' fun pins s σ H x y v u Q w M dx dy d I rx ry rl hx hy e k => by
  unfold gMod at e
  split at e
  · split at e
    · rename_i i j h
      cases e
      exact op_mod pins s σ H x y v u Q I rx ry ⟨_, _, hx, hy, h, k.now rl rfl⟩
    · split at e
      · rename_i i j h0 h
        cases e
        exact op_modN pins s σ H x y v u Q I rx ry ⟨_, _, hx, hy, by omega, k.now rl rfl⟩
      · cases e
  · cases e
theorem ov_pow : OpV X ct (binaryOp .Pow) gPow := OpV.mk' fun pins s σ H x y v u Q w M dx dy d I rx ry rl hx hy e k => by
  unfold gPow at e
  split at e
  · split at e
    · rename_i i j h
      cases e
      exact op_pow pins s σ H x y v u Q I rx ry ⟨_, _, hx, hy, h, k.now rl rfl⟩
    · cases e
  · cases e
def qOk (x y : D) : Bool := (kOk x && kOk y) || (isDic x && isDic y)
theorem qOk_of {x y : D} (h : qOk x y = true) : (kOk x = true ∧ kOk y = true) ∨ (isDic x = true ∧ isDic y = true) := by
  unfold qOk at h
  rw [Bool.or_eq_true, Bool.and_eq_true, Bool.and_eq_true] at h
  exact h
def gEq (x y : D) : Option D := cond (qOk x y) ((eqF 60 x y).map D.bl) none
def gNe (x y : D) : Option D := cond (qOk x y) ((eqF 60 x y).map fun k => D.bl (!k)) none
theorem ov_eq (hu : X.A.units + 64 < cLine) : OpV X ct (compareOp .Eq) gEq := OpV.mk' fun pins s σ H x y v u Q w M dx dy d I rx ry rl hx hy e k => by
  unfold gEq at e
  cases hk : qOk dx dy with
  | false => rw [hk] at e; cases e
  | true =>
    rw [hk, cond_true] at e
    obtain ⟨c, ec, e⟩ := Option.map_eq_some_iff.mp e
    subst e
    exact (rcF I rl (A := X.A) (by omega) hx rx hy ry (qOk_of hk) ec).1 X.xe (EP X pins σ Q) ⟨.bl c, H, I, rfl, k.now rl rfl⟩
theorem ov_ne (hu : X.A.units + 64 < cLine) : OpV X ct (compareOp .NotEq) gNe := OpV.mk' fun pins s σ H x y v u Q w M dx dy d I rx ry rl hx hy e k => by
  unfold gNe at e
  cases hk : qOk dx dy with
  | false => rw [hk] at e; cases e
  | true =>
    rw [hk, cond_true] at e
    obtain ⟨c, ec, e⟩ := Option.map_eq_some_iff.mp e
    subst e
    exact (rcF I rl (A := X.A) (by omega) hx rx hy ry (qOk_of hk) ec).2 X.xe (EP X pins σ Q) ⟨.bl (!c), H, I, rfl, k.now rl rfl⟩
def gLt : D → D → Option D
  | .int i, .int j => some (.bl (decide (i < j)))
  | .str x, .str y => some (.bl (decide (x.cps.toList < y.cps.toList)))
  | _, _ => none
def gLe : D → D → Option D
  | .int i, .int j => some (.bl (decide (i ≤ j)))
  | .str x, .str y => some (.bl (!decide (y.cps.toList < x.cps.toList)))
  | _, _ => none
def gGt : D → D → Option D
  | .int i, .int j => some (.bl (decide (j < i)))
  | .str x, .str y => some (.bl (decide (y.cps.toList < x.cps.toList)))
  | _, _ => none
def gGe : D → D → Option D
  | .int i, .int j => some (.bl (decide (j ≤ i)))
  | .str x, .str y => some (.bl (!decide (x.cps.toList < y.cps.toList)))
  | _, _ => none
theorem ov_lt : OpV X ct (compareOp .Lt) gLt := OpV.mk' fun pins s σ H x y v u Q w M dx dy d I rx ry rl hx hy e k => by
  unfold gLt at e
  split at e
  · cases e
    exact op_lt pins s σ H x y v u Q I rx ry ⟨_, _, hx, hy, k.now rl rfl⟩
  · cases e
    exact op_lt_str pins s σ H x y v u Q I rx ry ⟨_, _, hx, hy, k.now rl rfl⟩
  · cases e
theorem ov_le : OpV X ct (compareOp .LtE) gLe := OpV.mk' fun pins s σ H x y v u Q w M dx dy d I rx ry rl hx hy e k => by
  unfold gLe at e
  split at e
  · cases e
    exact op_le pins s σ H x y v u Q I rx ry ⟨_, _, hx, hy, k.now rl rfl⟩
  · cases e
    exact op_le_str pins s σ H x y v u Q I rx ry ⟨_, _, hx, hy, k.now rl rfl⟩
  · cases e
theorem ov_gt : OpV X ct (compareOp .Gt) gGt := OpV.mk' fun pins s σ H x y v u Q w M dx dy d I rx ry rl hx hy e k => by
  unfold gGt at e
  split at e
  · cases e
    exact op_gt pins s σ H x y v u Q I rx ry ⟨_, _, hx, hy, k.now rl rfl⟩
  · cases e
    exact op_gt_str pins s σ H x y v u Q I rx ry ⟨_, _, hx, hy, k.now rl rfl⟩
  · cases e
theorem ov_ge : OpV X ct (compareOp .GtE) gGe := OpV.mk' fun pins s σ H x y v u Q w M dx dy d I rx ry rl hx hy e k => by
  unfold gGe at e
  split at e
  · cases e
    exact op_ge pins s σ H x y v u Q I rx ry ⟨_, _, hx, hy, k.now rl rfl⟩
  · cases e
    exact op_ge_str pins s σ H x y v u Q I rx ry ⟨_, _, hx, hy, k.now rl rfl⟩
  · cases e
end
end DL
namespace DL
open PySem PySem.Spec PyProof.Rows L2
section
variable {α β : Type}
def dput (ks : List Key) (xs : List α) (k : Key) (v : α) : List Key × List α :=
  if ((ks.zip xs).any fun kv => decide (kv.1 = k)) = true then (ks, (ks.zip xs).map fun kv => if kv.1 = k then v else kv.2) else (ks ++ [k], xs ++ [v])
end
def keyD : D → Option Key
  | .int i => some (.inl i)
  | .str x => some (.inr x)
  | _ => none
theorem keyD_v {K : PySem.W.Frag} {w : Wd} {H : Hp} {d : D} {v : V} {k : Key} (h : Vw K w H d v) (e : keyD d = some k) : v = kV k := by
  cases d <;> first | (cases e; cases h; rfl) | cases e
theorem keyD_r {K : PySem.W.Frag} {w : Wd} {d : D} {v : V} {k : Key} (h : Rep K w d v) (e : keyD d = some k) : v = kV k := by
  cases d <;> first | (cases e; simp only [Rep] at h; subst h; rfl) | cases e
section
variable {K : PySem.W.Frag} {w : Wd}
end
def strAt (z : Str) (i : Int) : Option D := if z.length ≤ sizeLine then (atI z.cps.toList i).map fun c => .str ⟨#[c]⟩ else none
def gIx : D → D → Option D
  | .lst xs, .int i => atI xs i
  | .tup xs, .int i => atI xs i
  | .str z, .int i => strAt z i
  | .dic ks xs, k => (keyD k).bind fun k => dget ks xs k
  | _, _ => none
theorem atI_rep {K : PySem.W.Frag} {w : Wd} {xs : List D} {vs : List V} {i : Int} {d : D} (h : RepL K w xs vs) (e : atI xs i = some d) : ∃ v, atI vs i = some v ∧ Rep K w d v := by
  unfold atI at e ⊢
  obtain ⟨j, e1, e2⟩ := Option.bind_eq_some_iff.mp e
  obtain ⟨v, h1, h2⟩ := h.get e2
  exact ⟨v, by rw [← h.length, e1]; exact h1, h2⟩
section
variable {X : Cx} {ct : CT} {b : Base} {W : WX}
theorem iv_ix (hu : X.A.units + 64 < cLine) : IxV X ct gIx := by
  refine ⟨fun x y H Q => ∃ w M dx dy d, Rl X.K ct w M H ∧ Vw X.K w H dx x ∧ Vw X.K w H dy y ∧ gIx dx dy = some d ∧ Ok1 X.K ct w M H d Q, ?_, fun w M H x y v1 v2 d Q rl hx hy e k => ⟨w, M, x, y, d, rl, hx, hy, e, k⟩⟩
  intro value slice pins s σ H x y v u Q I rx ry h hs
  obtain ⟨w, M, dx, dy, d, rl, hx, hy, e, k⟩ := h
  unfold gIx at e
  split at e
  · obtain ⟨a, vs, rfl, h1, h2⟩ := hx
    cases hy
    obtain ⟨v', e1, e2⟩ := atI_rep h2 e
    exact ix_list value slice pins s σ H _ _ v u Q I rx ry ⟨a, vs, _, v', rfl, rfl, SqL.of h1, e1, k.old rl e2⟩ hs
  · obtain ⟨_, a, vs, rfl, h1, h2⟩ := hx
    cases hy
    obtain ⟨v', e1, e2⟩ := atI_rep h2 e
    exact ix_tup value slice pins s σ H _ _ v u Q I rx ry ⟨a, vs, _, v', rfl, rfl, h1, e1, k.old rl e2⟩ hs
  · cases hx
    cases hy
    unfold strAt at e
    split at e
    · rename_i hz
      obtain ⟨c, e1, e2⟩ := Option.map_eq_some_iff.mp e
      subst e2
      exact ix_str value slice pins s σ H _ _ v u Q I rx ry ⟨_, _, c, rfl, rfl, hz, e1, k.now rl rfl⟩ hs
    · cases e
  · obtain ⟨a, vs, rfl, h1, h2, h3⟩ := hx
    obtain ⟨key, e1, e2⟩ := Option.bind_eq_some_iff.mp e
    have ek := keyD_v hy e1
    subst ek
    obtain ⟨v', e3, e4⟩ := (dget_rep h3).1 d e2
    cases rx
    have g : DGet H a (kV key) (some v') := .inl ⟨_, key, h1, rfl, e3.symm⟩
    exact tail_any (dict_typeIs I g) PySem.F.slot_dict_getitem.lookup (d_getItem (by omega) I g ry fun w' s3 I3 rw' => ⟨v', H, I3, rw', k.old rl e4⟩) hs
  · cases e
def anyE (x : D) : List D → Option Bool
  | [] => some false
  | y :: ys => (eqD 60 y x).bind fun a => (anyE x ys).bind fun c => some (a || c)
def inB : D → D → Option Bool
  | x, .lst ys => anyE x ys
  | x, .tup ys => anyE x ys
  | k, .dic ks xs => (keyD k).bind fun k => some (dget ks xs k).isSome
  | .str x, .str z => match x.cps.toList with
    | [c] => some (decide (c ∈ z.cps.toList))
    | _ => some (!(Builtin.Str.occurrences z x 0 z.length 1).isEmpty)
  | _, _ => none
def gIn (x y : D) : Option D := (inB x y).map D.bl
def gNotIn (x y : D) : Option D := (inB x y).map fun k => D.bl (!k)
open Classical in
noncomputable def eOf (K : PySem.W.Frag) (w : Wd) (x : D) (z : Value) : Bool := decide (∃ v y, RelV v z ∧ Rep K w y v ∧ eqD 60 y x = some true)
open Classical in
theorem anyE_run {w : Wd} {M : Store} {H : Hp} {pins : List (Addr × Obj)} {σ : L2.St} {s : Shared} (I : Inv X pins σ H s) (rl : Rl X.K ct w M H) {x : D} {v : V} {u : Value} (hx : Vw X.K w H x v) (rx : RelV v u) {A : Around} (hu : A.units + 60 < cLine) :
    ∀ {ys : List D} {vs : List V} {its : List Value} {k : Bool}, RepL X.K w ys vs → Vals vs its → anyE x ys = some k →
      (∀ y ∈ its, SeqAt.EqAt A s y u (eOf X.K w x y)) ∧ its.any (eOf X.K w x) = k
  | [], vs, its, k, h, r, e => by
    rw [RepL.nil_iff] at h
    subst h
    cases r
    cases e
    exact ⟨fun y hy => by simp at hy, rfl⟩
  | y :: ys, vs, its, k, h, r, e => by
    rw [RepL.cons_iff] at h
    obtain ⟨v1, r1, rfl, h1, h2⟩ := h
    cases r with
    | @cons _ u1 _ us ru rus =>
    unfold anyE at e
    obtain ⟨a, ea, e⟩ := Option.bind_eq_some_iff.mp e
    obtain ⟨c, ec, e⟩ := Option.bind_eq_some_iff.mp e
    cases e
    obtain ⟨f1, f2⟩ := anyE_run I rl hx rx hu h2 rus ec
    have q1 := eqD_at I rl 60 y x v1 v u1 u a A hu (Vw.of rl.sub h1) ru hx rx ea
    have q2 : eOf X.K w x u1 = a := by
      unfold eOf
      cases a with
      | true => exact decide_eq_true ⟨v1, y, ru, h1, ea⟩
      | false =>
        refine decide_eq_false fun ⟨v2, y2, g1, g2, g3⟩ => ?_
        have := g1.inj ru
        subst this
        have := Rep.inj I rl y2 y v2 g2 h1
        subst this
        rw [ea] at g3
        cases g3
    refine ⟨fun z hz => ?_, by rw [List.any_cons, q2, f2]⟩
    rcases List.mem_cons.mp hz with q | q
    · subst q
      rw [q2]
      exact q1
    · exact f1 z q
theorem in_dic {w : Wd} {H : Hp} {a : Addr} {ks : List Key} {xs : List D} {vs : List V} {key : Key} (h1 : Rd H a (.dK (ks.zip vs))) (h3 : RepL X.K w xs vs) : ∃ o, DGet H a (kV key) o ∧ o.isSome = (dget ks xs key).isSome := by
  refine ⟨_, .inl ⟨_, key, h1, rfl, rfl⟩, ?_⟩
  obtain ⟨q1, q2⟩ := dget_rep (k := key) (ks := ks) h3
  cases z : dget ks xs key with
  | none =>
    rw [q2 z]
    rfl
  | some d =>
    obtain ⟨v', e3, _⟩ := q1 d z
    rw [e3]
    rfl
theorem one_sign {x : Str} {c : Nat} (h : x.cps.toList = [c]) : x = ⟨#[c]⟩ := by
  have : x.cps = #[c] := by
    have := congrArg List.toArray h
    simpa using this
  cases x
  simp_all
theorem ov_in (hu : X.A.units + 64 < cLine) : OpV X ct (compareOp .In) gIn := OpV.mk' fun pins s σ H x y v u Q w M dx dy d I rx ry rl hx hy e k => by
  unfold gIn at e
  obtain ⟨c, ec, e⟩ := Option.map_eq_some_iff.mp e
  subst e
  cases dy with
  | lst ys =>
    have ec : anyE dx ys = some c := by cases dx <;> exact ec
    obtain ⟨a, vs, its, rfl, rfl, h1, h2, h3, h4⟩ := Vw.list I hy ry
    obtain ⟨f1, f2⟩ := anyE_run I rl hx rx (A := X.A.in1) (by show X.A.units + 1 + 60 < cLine; omega) h2 h3 ec
    refine SeqAt.in_listAt (eOf X.K w _) h4 (fun z hz => f1 z (by simpa using hz)) ?_
    have : its.toArray.any (eOf X.K w dx) = c := by rw [← f2]; simp
    rw [this]
    exact ⟨.bl c, H, I, rfl, k.now rl rfl⟩
  | tup ys =>
    have ec : anyE dx ys = some c := by cases dx <;> exact ec
    obtain ⟨a, vs, its, rfl, rfl, h1, h2, h3, h4⟩ := Vw.tuple I hy ry
    obtain ⟨f1, f2⟩ := anyE_run I rl hx rx (A := X.A.in1) (by show X.A.units + 1 + 60 < cLine; omega) h2 h3 ec
    refine SeqAt.in_tupleAt (eOf X.K w _) h4 (fun z hz => f1 z (by simpa using hz)) ?_
    have : its.toArray.any (eOf X.K w dx) = c := by rw [← f2]; simp
    rw [this]
    exact ⟨.bl c, H, I, rfl, k.now rl rfl⟩
  | dic ks xs =>
    have ec : (keyD dx).bind (fun k => some (dget ks xs k).isSome) = some c := by cases dx <;> exact ec
    obtain ⟨a, vs, rfl, h1, h2, h3⟩ := hy
    obtain ⟨key, e1, e2⟩ := Option.bind_eq_some_iff.mp ec
    cases e2
    have ek := keyD_v hx e1
    subst ek
    cases ry
    obtain ⟨o, g, eo⟩ := in_dic (X := X) (key := key) h1 h3
    refine d_in (by omega) I g rx fun s' I' => ⟨.bl _, H, I', rfl, ?_⟩
    rw [eo]
    exact k.now rl rfl
  | str z =>
    cases dx with
    | str x0 =>
      unfold inB at ec
      dsimp only at ec
      split at ec
      · rename_i cc hc
        cases ec
        cases hx
        cases hy
        exact op_in_sign pins s σ H _ _ v u Q I rx ry ⟨cc, _, by rw [one_sign hc], rfl, k.now rl rfl⟩
      · cases ec
        exact op_in_str pins s σ H x y v u Q I rx ry ⟨_, _, hx, hy, k.now rl rfl⟩
    | _ => cases ec
  | _ => cases dx <;> cases ec
theorem ov_notin (hu : X.A.units + 64 < cLine) : OpV X ct (compareOp .NotIn) gNotIn := OpV.mk' fun pins s σ H x y v u Q w M dx dy d I rx ry rl hx hy e k => by
  unfold gNotIn at e
  obtain ⟨c, ec, e⟩ := Option.map_eq_some_iff.mp e
  subst e
  cases dy with
  | lst ys =>
    have ec : anyE dx ys = some c := by cases dx <;> exact ec
    obtain ⟨a, vs, its, rfl, rfl, h1, h2, h3, h4⟩ := Vw.list I hy ry
    obtain ⟨f1, f2⟩ := anyE_run I rl hx rx (A := X.A.in1) (by show X.A.units + 1 + 60 < cLine; omega) h2 h3 ec
    refine SeqAt.notIn_listAt (eOf X.K w _) h4 (fun z hz => f1 z (by simpa using hz)) ?_
    have : its.toArray.any (eOf X.K w dx) = c := by rw [← f2]; simp
    rw [this]
    exact ⟨.bl (!c), H, I, rfl, k.now rl rfl⟩
  | tup ys =>
    have ec : anyE dx ys = some c := by cases dx <;> exact ec
    obtain ⟨a, vs, its, rfl, rfl, h1, h2, h3, h4⟩ := Vw.tuple I hy ry
    obtain ⟨f1, f2⟩ := anyE_run I rl hx rx (A := X.A.in1) (by show X.A.units + 1 + 60 < cLine; omega) h2 h3 ec
    refine SeqAt.notIn_tupleAt (eOf X.K w _) h4 (fun z hz => f1 z (by simpa using hz)) ?_
    have : its.toArray.any (eOf X.K w dx) = c := by rw [← f2]; simp
    rw [this]
    exact ⟨.bl (!c), H, I, rfl, k.now rl rfl⟩
  | dic ks xs =>
    have ec : (keyD dx).bind (fun k => some (dget ks xs k).isSome) = some c := by cases dx <;> exact ec
    obtain ⟨a, vs, rfl, h1, h2, h3⟩ := hy
    obtain ⟨key, e1, e2⟩ := Option.bind_eq_some_iff.mp ec
    cases e2
    have ek := keyD_v hx e1
    subst ek
    cases ry
    obtain ⟨o, g, eo⟩ := in_dic (X := X) (key := key) h1 h3
    refine d_notIn (by omega) I g rx fun s' I' => ⟨.bl _, H, I', rfl, ?_⟩
    rw [eo]
    exact k.now rl rfl
  | str z =>
    cases dx with
    | str x0 =>
      unfold inB at ec
      dsimp only at ec
      split at ec
      · rename_i cc hc
        cases ec
        cases hx
        cases hy
        exact op_notIn_sign pins s σ H _ _ v u Q I rx ry ⟨cc, _, by rw [one_sign hc], rfl, k.now rl rfl⟩
      · cases ec
        exact op_notin_str pins s σ H x y v u Q I rx ry ⟨_, _, hx, hy, k.now rl rfl⟩
    | _ => cases ec
  | _ => cases dx <;> cases ec
end
end DL
namespace DL
open PySem PySem.Spec PyProof.Rows L2
def aNil : CA := fun _ M => .ok [] M
def aCons (f : CE) (g : CA) : CA := fun en M => (f en M).bind fun d M1 => (g en M1).bind fun ds M2 => .ok (d :: ds) M2
abbrev CAH := En → Store → Out (List Hd)
def ahNil : CAH := fun _ M => .ok [] M
def ahCons (f : CH) (g : CAH) : CAH := fun en M => (f en M).bind fun d M1 => (g en M1).bind fun ds M2 => .ok (d :: ds) M2
inductive RepHs (K : PySem.W.Frag) (w : Wd) (σ : L2.St) : List Hd → List V → Prop
  | nil : RepHs K w σ [] []
  | cons {h : Hd} {hs : List Hd} {v : V} {vs : List V} : RepH K w σ h v → RepHs K w σ hs vs → RepHs K w σ (h :: hs) (v :: vs)
inductive Vws (K : PySem.W.Frag) (w : Wd) (H : Hp) : List D → List V → Prop
  | nil : Vws K w H [] []
  | cons {d : D} {ds : List D} {v : V} {vs : List V} : Vw K w H d v → Vws K w H ds vs → Vws K w H (d :: ds) (v :: vs)
def vws (en : En) (M : Store) : List Hd → Option (List D)
  | [] => some []
  | h :: hs => (vw en M h).bind fun d => (vws en M hs).bind fun ds => some (d :: ds)
theorem vws_ok {K : PySem.W.Frag} {ct : CT} {b : Base} {w : Wd} {en : En} {σ : L2.St} {M : Store} {H : Hp} (S : Sl K ct b w en σ H) (r : Rl K ct w M H) : ∀ {hs : List Hd} {vs : List V} {ds : List D}, RepHs K w σ hs vs → vws en M hs = some ds → Vws K w H ds vs
  | [], _, _, .nil, e => by cases e; exact .nil
  | h :: hs, _, _, .cons a c, e => by
    unfold vws at e
    obtain ⟨d, e1, e⟩ := Option.bind_eq_some_iff.mp e
    obtain ⟨ds, e2, e⟩ := Option.bind_eq_some_iff.mp e
    cases e
    exact .cons (vw_ok S r a e1) (vws_ok S r c e2)
section
variable (X : Cx) (ct : CT) (b : Base) (W : WX)
def TAHD (f : CAH) : TA := fun σ H Q => ∃ w en M, Sl X.K ct b w en σ H ∧ Rl X.K ct w M H ∧ Post (f en M)
  (fun d M' => ∀ w' v H', Step w H w' H' → Rl X.K ct w' M' H' → RepHs X.K w' σ d v → Q v H')
  (fun c fs M' => ∀ w' cls dx H', Step w H w' H' → Sl X.K ct b w' en σ H' → Rl X.K ct w' M' H' → ExV X.K ct w' c fs cls dx H' → W cls dx σ H')
abbrev PAHD (f : CAH) (es : List Expr) : Prop := PA X es (TAHD X ct b W f)
end
def eTup (f : CA) : CE := fun en M => (f en M).bind fun ds M1 => if ds.length ≤ sizeLine then .ok (.tup ds) M1 else .err
def nLst (f : CA) : CN := fun en M => (f en M).bind fun ds M1 => if ds.length ≤ sizeLine then .ok (.lst ds) M1 else .err
def frzO : MO → Option D
  | .lst xs => some (.lst xs)
  | .dic ks xs => some (.dic ks xs)
  | _ => none
def frz (f : CN) : CE := fun en M => (f en M).bind fun o M1 => ofO (frzO o) M1
def alc (f : CN) : CE := fun en M => (f en M).bind fun o M1 => .ok (.ref M1.length) (M1 ++ [o])
def eCall (g : List D → Option D) (f : CAH) : CE := fun en M => (f en M).bind fun as M1 => ofO ((vws en M1 as).bind g) M1
def nCall (g : List D → Option MO) (f : CAH) : CN := fun en M => (f en M).bind fun as M1 => ofO ((vws en M1 as).bind g) M1
section
variable {X : Cx} {ct : CT} {b : Base} {W : WX} {e e1 e2 e3 : Expr} {pos : Pos} {es : List Expr}
theorem pad_nil : PAD X ct b W aNil [] := PA.wk pa_nil fun σ H Q h => by
  obtain ⟨w, en, M, S, r, p⟩ := h
  exact p w _ H (Step.refl _ _) r .nil
theorem pad_cons {f : CE} {g : CA} (h1 : PD X ct b W f e) (h2 : PAD X ct b W g es) (hs : starEach (e :: es) X.env = (false, eval e X.env) :: starEach es X.env := by rfl) : PAD X ct b W (aCons f g) (e :: es) := PA.wk (pa_cons h1 h2 hs) fun σ H Q h => by
  obtain ⟨w, en, M, S, rl, p⟩ := h
  refine ⟨w, en, M, S, rl, (Post.bind p).imp (fun a M1 q w1 v1 H1 s1 r1 x1 => ?_) fun _ _ _ q => q⟩
  exact ⟨w1, en, M1, S.step s1, r1, (Post.bind q).imp (fun c M2 q w2 v2 H2 s2 r2 x2 => q w2 _ H2 (s1.trans s2) r2 (.cons (s2.rep x1) x2)) fun _ _ _ q w' cls dx H' s => q w' cls dx H' (s1.trans s)⟩
theorem pah_nil : PAHD X ct b W ahNil [] := PA.wk pa_nil fun σ H Q h => by
  obtain ⟨w, en, M, S, r, p⟩ := h
  exact p w _ H (Step.refl _ _) r .nil
theorem pah_cons {f : CH} {g : CAH} (h1 : PHD X ct b W f e) (h2 : PAHD X ct b W g es) (hs : starEach (e :: es) X.env = (false, eval e X.env) :: starEach es X.env := by rfl) : PAHD X ct b W (ahCons f g) (e :: es) := PA.wk (pa_cons h1 h2 hs) fun σ H Q h => by
  obtain ⟨w, en, M, S, rl, p⟩ := h
  refine ⟨w, en, M, S, rl, (Post.bind p).imp (fun a M1 q w1 v1 H1 s1 r1 x1 => ?_) fun _ _ _ q => q⟩
  exact ⟨w1, en, M1, S.step s1, r1, (Post.bind q).imp (fun c M2 q w2 v2 H2 s2 r2 x2 => q w2 _ H2 (s1.trans s2) r2 (.cons (s2.repH x1) x2)) fun _ _ _ q w' cls dx H' s => q w' cls dx H' (s1.trans s)⟩
theorem pe_tupF {x1} {t : TA} (h : PA X es t) : PE X (.Tuple es x1 pos) (fun σ H Q => t σ H fun xs H1 => xs.length ≤ sizeLine ∧ ∀ p o, H1 p = none → o.dict = none → Q (.ref p) (upd H1 p (.frz o (.tup xs)))) := by
  refine ⟨fun pins s σ H Q I hq => ?_⟩
  refine wpAny_Tuple_spliced (thn (h.run pos pins s σ H _ I hq) fun us s1 ⟨xs, H1, I1, r, z, q⟩ => ⟨by rw [← r.length]; exact z, ?_⟩)
  have hf : H1 s1.heap.objs.size = none := I1.hok.fresh (Nat.le_refl _)
  refine ⟨.ref s1.heap.objs.size, upd H1 s1.heap.objs.size (.frz { cls := .type "tuple", data := .seq us.toArray } (.tup xs)), I1.laid (t' := s1.toks) (fun b u e => Heap.get?_push_of_some _ e) (Nat.le_refl _) ?_, rfl, q _ _ hf ?_⟩
  · exact ⟨Heap.get?_push_size _ rfl, z, us, r, ⟨_, Heap.get?_push_size _ rfl, rfl, _, rfl⟩⟩
  · rfl
theorem pd_tup {f : CA} {k : Nat} (h : PAD X ct b W f es) : PD X ct b W (eTup f) (.Tuple es k pos) := PE.wk (pe_tupF h) fun σ H Q h => by
  obtain ⟨w, en, M, S, rl, p⟩ := h
  refine ⟨w, en, M, S, rl, (Post.bind p).imp (fun ds M1 q w1 v1 H1 s1 r1 x1 => ?_) fun _ _ _ q => q⟩
  split at q
  · rename_i hl
    refine ⟨by rw [← x1.length]; exact hl, fun p o hp ho => ?_⟩
    exact Ok1.tup (X := X) (ct := ct) (M := M1) (fun w' v H' s r x => q w' v H' (s1.trans s) r x) r1 x1 hp ho
  · exact q.elim
theorem pn_lst {f : CA} (h : PAD X ct b W f es) : PND X ct b W (nLst f) (.List es pos) := PE.wk (pe_lst h) fun σ H Q h => by
  obtain ⟨w, en, M, S, rl, p⟩ := h
  refine ⟨w, en, M, S, rl, (Post.bind p).imp (fun ds M1 q w1 v1 H1 s1 r1 x1 => ?_) fun _ _ _ q => q⟩
  split at q
  · rename_i hl
    exact ⟨by rw [← x1.length]; exact hl, fun p hp => q w1 p (.lst v1) H1 s1 r1 hp ⟨v1, rfl, x1⟩⟩
  · exact q.elim
theorem RepO.nice {K : PySem.W.Frag} {w : Wd} {o : MO} {ho : HO} (h : RepO K ct w o ho) : NiceH ho := by
  cases o with
  | lst xs => obtain ⟨vs, rfl, _⟩ := h; trivial
  | dic ks xs => obtain ⟨vs, rfl, _⟩ := h; trivial
  | ldic ks xs => obtain ⟨ob, vs, rfl, _⟩ := h; trivial
  | ins c fs => obtain ⟨dx, vs, rfl, _⟩ := h; trivial
  | exc c fs => obtain ⟨oe, dx, rfl, _⟩ := h; trivial
  | kd ks xs => exact h.niceH
def tLk (t : TE) : TE := fun σ H Q => t σ H fun x H1 => Q x H1 ∨ ∃ d u, x = .ref d ∧ H1 d = some u ∧ Mut (some u) ∧ ∀ od, Q x (upd H1 d (.frz od u))
theorem pe_lk {t : TE} (h : PE X e t) : PE X e (tLk t) := ⟨fun pins s σ H Q I hw => thn (h.run pins s σ H _ I hw) fun v s1 ⟨x, H1, I1, r, q⟩ => by
  rcases q with q | ⟨d, u, rfl, hd, mu, q⟩
  · exact ⟨x, H1, I1, r, q⟩
  · obtain ⟨od, I2⟩ := I1.lock hd mu
    exact ⟨_, _, I2, r, q od⟩⟩
theorem Rl.frozenL {K : PySem.W.Frag} {w : Wd} {M : Store} {H : Hp} (r : Rl K ct w M H) {p : Addr} {o : HO} {od : Obj} (hp : H p = none) (hn : NiceH (.frz od o)) : Step w H ⟨w.ρ, upd w.F p (.frz od o)⟩ (upd (upd H p o) p (.frz od o)) ∧ Rl K ct ⟨w.ρ, upd w.F p (.frz od o)⟩ M (upd (upd H p o) p (.frz od o)) := by
  have e : upd (upd H p o) p (.frz od o) = upd H p (.frz od o) := by
    funext b
    by_cases hb : b = p
    · rw [hb, upd_same, upd_same]
    · rw [upd_ne hb, upd_ne hb, upd_ne hb]
  rw [e]
  exact r.frozen hp hn
theorem TND.frz {f : CN} {σ : L2.St} {H : Hp} {Q : VK} (hl : ∀ en M o M', f en M = .ok o M' → ∃ xs, o = .lst xs) (h : TD X ct b W (frz f) σ H Q) : TND X ct b W f σ H Q := by
  obtain ⟨w, en, M, S, rl, p⟩ := h
  unfold DL.frz at p
  cases ef : f en M with
  | err => rw [ef] at p; exact p.elim
  | exc c fs M1 =>
    rw [ef] at p
    refine ⟨w, en, M, S, rl, ?_⟩
    rw [ef]
    exact p
  | ok o M1 =>
    rw [ef] at p
    obtain ⟨xs, rfl⟩ := hl _ _ _ _ ef
    refine ⟨w, en, M, S, rl, ?_⟩
    rw [ef]
    intro w1 p1 ho H1 s1 r1 hp ro
    have p : Post (ofO (frzO (.lst xs)) M1) _ _ := p
    obtain ⟨d, e, q⟩ := ofO_post p
    obtain ⟨s2, r2⟩ := r1.frozen (o := ho) hp (RepO.nice ro)
    refine q _ _ _ (s1.trans s2) r2 ?_
    cases e
    obtain ⟨vs, rfl, x⟩ := ro
    simp only [Rep]
    exact ⟨p1, vs, rfl, upd_same, s2.repL x⟩
theorem pd_frz {f : CN} (h : PND X ct b W f e) : PD X ct b W (frz f) e := PE.wk (pe_lk h) fun σ H Q h => by
  obtain ⟨w, en, M, S, rl, p⟩ := h
  refine ⟨w, en, M, S, rl, (Post.bind p).imp (fun o M1 q w1 p1 ho H1 s1 r1 hp ro => ?_) fun _ _ _ q => q⟩
  obtain ⟨d, e, q⟩ := ofO_post q
  cases o with
  | lst xs =>
    cases e
    obtain ⟨s2, r2⟩ := r1.frozen (o := ho) hp (RepO.nice ro)
    refine .inl (q _ _ _ (s1.trans s2) r2 ?_)
    obtain ⟨vs, rfl, x⟩ := ro
    simp only [Rep]
    exact ⟨p1, vs, rfl, upd_same, s2.repL x⟩
  | dic ks xs =>
    cases e
    obtain ⟨vs, rfl, l, x⟩ := ro
    refine .inr ⟨p1, _, rfl, upd_same, trivial, fun od => ?_⟩
    obtain ⟨s2, r2⟩ := r1.frozenL (o := .dK (ks.zip vs)) (od := od) hp trivial
    refine q _ _ _ (s1.trans s2) r2 ?_
    simp only [Rep]
    exact ⟨p1, vs, rfl, ⟨od, upd_same⟩, l, s2.repL x⟩
  | ldic ks xs => cases e
  | ins c fs => cases e
  | exc c fs => cases e
  | kd ks xs => cases e
theorem pd_alc {f : CN} (h : PND X ct b W f e) : PD X ct b W (alc f) e := PE.wk h fun σ H Q h => by
  obtain ⟨w, en, M, S, rl, p⟩ := h
  refine ⟨w, en, M, S, rl, (Post.bind p).imp (fun o M1 q w1 p1 ho H1 s1 r1 hp ro => ?_) fun _ _ _ q => q⟩
  obtain ⟨s2, r2⟩ := r1.alloc hp ro
  refine q _ _ _ (s1.trans s2) r2 ?_
  simp only [Rep]
  refine ⟨p1, rfl, ?_⟩
  show (w1.ρ ++ [p1])[M1.length]? = some p1
  rw [r1.len, List.getElem?_append_right (Nat.le_refl _)]
  simp
def CallV (X : Cx) (ct : CT) (fv : Value) (g : List D → Option D) : Prop := ∃ r, CallR X fv r ∧ ∀ w M H ds vs d Q, Rl X.K ct w M H → Vws X.K w H ds vs → g ds = some d → Ok1 X.K ct w M H d Q → r vs H Q
def OkN (K : PySem.W.Frag) (ct : CT) (w : Wd) (M : Store) (H : Hp) (o : MO) (Q : VK) : Prop := ∀ w' p ho H', Step w H w' H' → Rl K ct w' M H' → H' p = none → RepO K ct w' o ho → Q (.ref p) (upd H' p ho)
def CallN (X : Cx) (ct : CT) (fv : Value) (g : List D → Option MO) : Prop := ∃ r, CallR X fv r ∧ ∀ w M H ds vs o Q, Rl X.K ct w M H → Vws X.K w H ds vs → g ds = some o → OkN X.K ct w M H o Q → r vs H Q
theorem CallV.mk' {fv : Value} {g : List D → Option D}
    (h : ∀ (pins : List (Addr × Obj)) (s : Shared) (σ : L2.St) (H : Hp) (vs : List V) (us : List Value) (Q : VK) (w : Wd) (M : Store) (ds : List D) (d : D), Inv X pins σ H s → Vals vs us → Rl X.K ct w M H → Vws X.K w H ds vs → g ds = some d →
      Ok1 X.K ct w M H d Q → wpAny (model X.prog X.w) X.A (call fv us) (EP X pins σ Q) X.xe s) : CallV X ct fv g :=
  ⟨fun vs H Q => ∃ w M ds d, Rl X.K ct w M H ∧ Vws X.K w H ds vs ∧ g ds = some d ∧ Ok1 X.K ct w M H d Q,
    fun pins s σ H vs us Q I rx ⟨w, M, ds, d, rl, hx, e, k⟩ => h pins s σ H vs us Q w M ds d I rx rl hx e k,
    fun w M H ds vs d Q rl hx e k => ⟨w, M, ds, d, rl, hx, e, k⟩⟩
theorem CallN.mk' {fv : Value} {g : List D → Option MO}
    (h : ∀ (pins : List (Addr × Obj)) (s : Shared) (σ : L2.St) (H : Hp) (vs : List V) (us : List Value) (Q : VK) (w : Wd) (M : Store) (ds : List D) (d : MO), Inv X pins σ H s → Vals vs us → Rl X.K ct w M H → Vws X.K w H ds vs → g ds = some d →
      OkN X.K ct w M H d Q → wpAny (model X.prog X.w) X.A (call fv us) (EP X pins σ Q) X.xe s) : CallN X ct fv g :=
  ⟨fun vs H Q => ∃ w M ds d, Rl X.K ct w M H ∧ Vws X.K w H ds vs ∧ g ds = some d ∧ OkN X.K ct w M H d Q,
    fun pins s σ H vs us Q I rx ⟨w, M, ds, d, rl, hx, e, k⟩ => h pins s σ H vs us Q w M ds d I rx rl hx e k,
    fun w M H ds vs d Q rl hx e k => ⟨w, M, ds, d, rl, hx, e, k⟩⟩
theorem call_go {r : List V → Hp → VK → Prop} {g : List D → Option D} {f : CAH} (hr : ∀ w M H ds vs d Q, Rl X.K ct w M H → Vws X.K w H ds vs → g ds = some d → Ok1 X.K ct w M H d Q → r vs H Q) {σ : L2.St} {H : Hp} {Q : VK}
    (h : TD X ct b W (eCall g f) σ H Q) : tCB r (TAHD X ct b W f) σ H Q := by
  obtain ⟨w, en, M, S, rl, p⟩ := h
  refine ⟨w, en, M, S, rl, (Post.bind p).imp (fun as M1 q w1 v1 H1 s1 r1 x1 => ?_) fun _ _ _ q => q⟩
  obtain ⟨d, e, q⟩ := ofO_post q
  obtain ⟨ds, e1, e2⟩ := Option.bind_eq_some_iff.mp e
  exact hr w1 M1 H1 ds v1 d Q r1 (vws_ok (S.step s1) r1 x1 e1) e2 fun w' v H' s r' rp => q w' v H' (s1.trans s) r' rp
theorem calln_go {r : List V → Hp → VK → Prop} {g : List D → Option MO} {f : CAH} (hr : ∀ w M H ds vs d Q, Rl X.K ct w M H → Vws X.K w H ds vs → g ds = some d → OkN X.K ct w M H d Q → r vs H Q) {σ : L2.St} {H : Hp} {Q : VK}
    (h : TND X ct b W (nCall g f) σ H Q) : tCB r (TAHD X ct b W f) σ H Q := by
  obtain ⟨w, en, M, S, rl, p⟩ := h
  refine ⟨w, en, M, S, rl, (Post.bind p).imp (fun as M1 q w1 v1 H1 s1 r1 x1 => ?_) fun _ _ _ q => q⟩
  obtain ⟨d, e, q⟩ := ofO_post q
  obtain ⟨ds, e1, e2⟩ := Option.bind_eq_some_iff.mp e
  exact hr w1 M1 H1 ds v1 d Q r1 (vws_ok (S.step s1) r1 x1 e1) e2 fun w' p ho H' s r' hp rp => q w' p ho H' (s1.trans s) r' hp rp
theorem pd_callB {x : Str} {id : String} {p : Pos} {g : List D → Option D} {f : CAH} (hc : CallV X ct (.builtin id) g) (hm : X.mg x = none) (hv : bootBuiltins x = some (.builtin id)) (ha : PAHD X ct b W f (e :: es)) (hg : Gl X x := by rfl) (hn : x ≠ "__name__" := by decide)
    (hdb : (x == ("__debug__" : Str)) = false := by decide) (he : starEach (e :: es) X.env = (false, eval e X.env) :: starEach es X.env := by rfl) (hpl : (backTo pos (starEach es X.env)).any (·.1) = false := by rfl) : PD X ct b W (eCall g f) (.Call (.Name x p) (e :: es) [] pos) := by
  obtain ⟨r, o, hr⟩ := hc
  exact PE.wk (pe_callB o hg hm hv ha hn hdb he hpl) fun _ _ _ h => call_go hr h
theorem pd_callT {x : Str} {id : String} {p : Pos} {g : List D → Option D} {f : CAH} (hc : CallV X ct (.type id) g) (hm : X.mg x = none) (hv : bootBuiltins x = some (.type id)) (ha : PAHD X ct b W f (e :: es)) (hg : Gl X x := by rfl) (hn : x ≠ "__name__" := by decide)
    (hdb : (x == ("__debug__" : Str)) = false := by decide) (he : starEach (e :: es) X.env = (false, eval e X.env) :: starEach es X.env := by rfl) (hpl : (backTo pos (starEach es X.env)).any (·.1) = false := by rfl) : PD X ct b W (eCall g f) (.Call (.Name x p) (e :: es) [] pos) := by
  obtain ⟨r, o, hr⟩ := hc
  exact PE.wk (pe_callTy o hg hm hv ha hn hdb he hpl) fun _ _ _ h => call_go hr h
theorem pn_callT {x : Str} {id : String} {p : Pos} {g : List D → Option MO} {f : CAH} (hc : CallN X ct (.type id) g) (hm : X.mg x = none) (hv : bootBuiltins x = some (.type id)) (ha : PAHD X ct b W f (e :: es)) (hg : Gl X x := by rfl) (hn : x ≠ "__name__" := by decide)
    (hdb : (x == ("__debug__" : Str)) = false := by decide) (he : starEach (e :: es) X.env = (false, eval e X.env) :: starEach es X.env := by rfl) (hpl : (backTo pos (starEach es X.env)).any (·.1) = false := by rfl) : PND X ct b W (nCall g f) (.Call (.Name x p) (e :: es) [] pos) := by
  obtain ⟨r, o, hr⟩ := hc
  exact PE.wk (pe_callTy o hg hm hv ha hn hdb he hpl) fun _ _ _ h => calln_go hr h
end
end DL
namespace DL
open PySem PySem.Spec PyProof.Rows L2
def intsD : List D → Option (List Int)
  | [] => some []
  | .int i :: r => (intsD r).map (i :: ·)
  | _ :: _ => none
def blsD : List D → Option (List Bool)
  | [] => some []
  | .bl i :: r => (blsD r).map (i :: ·)
  | _ :: _ => none
def strsD : List D → Option (List Str)
  | [] => some []
  | .str i :: r => (strsD r).map (i :: ·)
  | _ :: _ => none
section
variable {K : PySem.W.Frag} {w : Wd}
theorem intsD_rep : ∀ {xs : List D} {vs : List V} {ns : List Int}, RepL K w xs vs → intsD xs = some ns → vs = ns.map V.int
  | [], vs, ns, h, e => by
    rw [RepL.nil_iff] at h
    cases e
    exact h
  | x :: xs, vs, ns, h, e => by
    rw [RepL.cons_iff] at h
    obtain ⟨v, r, rfl, h1, h2⟩ := h
    cases x with
    | int i =>
      unfold intsD at e
      obtain ⟨ms, e1, e2⟩ := Option.map_eq_some_iff.mp e
      subst e2
      simp only [Rep] at h1
      rw [h1, intsD_rep h2 e1]
      rfl
    | _ => cases e
theorem blsD_rep : ∀ {xs : List D} {vs : List V} {ns : List Bool}, RepL K w xs vs → blsD xs = some ns → vs = ns.map V.bl
  | [], vs, ns, h, e => by
    rw [RepL.nil_iff] at h
    cases e
    exact h
  | x :: xs, vs, ns, h, e => by
    rw [RepL.cons_iff] at h
    obtain ⟨v, r, rfl, h1, h2⟩ := h
    cases x with
    | bl i =>
      unfold blsD at e
      obtain ⟨ms, e1, e2⟩ := Option.map_eq_some_iff.mp e
      subst e2
      simp only [Rep] at h1
      rw [h1, blsD_rep h2 e1]
      rfl
    | _ => cases e
theorem strsD_rep : ∀ {xs : List D} {vs : List V} {ns : List Str}, RepL K w xs vs → strsD xs = some ns → vs = ns.map V.str
  | [], vs, ns, h, e => by
    rw [RepL.nil_iff] at h
    cases e
    exact h
  | x :: xs, vs, ns, h, e => by
    rw [RepL.cons_iff] at h
    obtain ⟨v, r, rfl, h1, h2⟩ := h
    cases x with
    | str i =>
      unfold strsD at e
      obtain ⟨ms, e1, e2⟩ := Option.map_eq_some_iff.mp e
      subst e2
      simp only [Rep] at h1
      rw [h1, strsD_rep h2 e1]
      rfl
    | _ => cases e
theorem ints_repL : ∀ ns : List Int, RepL K w (ns.map D.int) (ns.map V.int)
  | [] => .nil
  | n :: ns => .cons (by simp only [Rep]) (ints_repL ns)
end
theorem blsD_map : ∀ ns : List Bool, blsD (ns.map D.bl) = some ns
  | [] => rfl
  | n :: ns => by simp only [List.map_cons, blsD, blsD_map ns, Option.map_some]
theorem strsD_map : ∀ ns : List Str, strsD (ns.map D.str) = some ns
  | [] => rfl
  | n :: ns => by simp only [List.map_cons, strsD, strsD_map ns, Option.map_some]
section
variable {X : Cx} {ct : CT} {b : Base} {W : WX} {e e1 e2 e3 : Expr} {pos : Pos} {es : List Expr}
theorem Vws.one {w : Wd} {H : Hp} {d : D} {vs : List V} (h : Vws X.K w H [d] vs) : ∃ v, vs = [v] ∧ Vw X.K w H d v := by
  cases h with
  | cons a c => cases c; exact ⟨_, rfl, a⟩
theorem Vws.two {w : Wd} {H : Hp} {d d' : D} {vs : List V} (h : Vws X.K w H [d, d'] vs) : ∃ v v', vs = [v, v'] ∧ Vw X.K w H d v ∧ Vw X.K w H d' v' := by
  cases h with
  | cons a c =>
    cases c with
    | cons a' c => cases c; exact ⟨_, _, rfl, a, a'⟩
def gLen : List D → Option D
  | [.str x] => if x.length ≤ sizeLine then some (.int x.length) else none
  | [.lst xs] => some (.int xs.length)
  | [.tup xs] => some (.int xs.length)
  | [.dic ks xs] => some (.int ks.length)
  | [.scr ns] => some (.int ns.length)
  | _ => none
theorem cv_len : CallV X ct (.builtin "len") gLen := CallV.mk' fun pins s σ H vs us Q w M ds d I rx rl hx e k => by
  unfold gLen at e
  split at e
  · split at e
    · rename_i x hl
      cases e
      obtain ⟨v, rfl, h⟩ := hx.one
      cases h
      exact call_len pins s σ H _ us Q I rx ⟨_, _, rfl, ⟨hl, rfl⟩, k.now rl rfl⟩
    · cases e
  · cases e
    obtain ⟨v, rfl, a, vs, rfl, h1, h2⟩ := hx.one
    rw [h2.length] at k
    exact call_len pins s σ H _ us Q I rx ⟨_, _, rfl, .inl ⟨vs, SqL.of h1, rfl⟩, k.now rl rfl⟩
  · cases e
    obtain ⟨v, rfl, _, a, vs, rfl, h1, h2⟩ := hx.one
    rw [h2.length] at k
    exact call_len pins s σ H _ us Q I rx ⟨_, _, rfl, .inr ⟨vs, h1, rfl⟩, k.now rl rfl⟩
  · cases e
    obtain ⟨v, rfl, a, vs, rfl, h1, h2, h3⟩ := hx.one
    obtain ⟨u, rfl, ru⟩ := vals1 rx
    cases ru
    refine d_len I h1 fun t s' I' => ⟨.int _, H, I', ⟨t, rfl⟩, ?_⟩
    rw [List.length_zip, h2, h3.length, Nat.min_self, ← h3.length, ← h2]
    exact k.now rl rfl
  · cases e
    obtain ⟨v, rfl, _, a, rfl, h1⟩ := hx.one
    refine call_len pins s σ H _ us Q I rx ⟨_, _, rfl, .inl ⟨_, h1, rfl⟩, ?_⟩
    rw [List.length_map]
    exact k.now rl rfl
  · cases e
def gAll : List D → Option D
  | [.lst xs] => (blsD xs).map fun bs => .bl (bs.all id)
  | _ => none
def gMax2 : List D → Option D
  | [.int i, .int j] => some (.int (if j > i then j else i))
  | _ => none
def gInt : List D → Option D
  | [.int i] => some (.int i)
  | [.bl k] => some (.int (if k then 1 else 0))
  | _ => none
theorem cv_all (hc : X.calm = true) : CallV X ct (.builtin "all") gAll := CallV.mk' fun pins s σ H vs us Q w M ds d I rx rl hx e k => by
  unfold gAll at e
  split at e
  · obtain ⟨bs, e1, e2⟩ := Option.map_eq_some_iff.mp e
    subst e2
    obtain ⟨v, rfl, a, vs, rfl, h1, h2⟩ := hx.one
    have := blsD_rep h2 e1
    subst this
    exact cr_all hc pins s σ H _ us Q I rx ⟨a, bs, rfl, SqL.of h1, k.now rl rfl⟩
  · cases e
theorem cv_max (hc : X.calm = true) : CallV X ct (.builtin "max") gMax2 := CallV.mk' fun pins s σ H vs us Q w M ds d I rx rl hx e k => by
  unfold gMax2 at e
  split at e
  · cases e
    obtain ⟨v, v', rfl, h, h'⟩ := hx.two
    cases h
    cases h'
    exact call_max2 hc pins s σ H _ us Q I rx ⟨_, _, rfl, k.now rl rfl⟩
  · cases e
theorem cv_int : CallV X ct (.type "int") gInt := CallV.mk' fun pins s σ H vs us Q w M ds d I rx rl hx e k => by
  unfold gInt at e
  split at e
  · cases e
    obtain ⟨v, rfl, h⟩ := hx.one
    cases h
    exact call_int1 pins s σ H _ us Q I rx (.inl ⟨_, rfl, k.now rl rfl⟩)
  · cases e
    obtain ⟨v, rfl, h⟩ := hx.one
    cases h
    exact call_int1 pins s σ H _ us Q I rx (.inr ⟨_, rfl, k.now rl rfl⟩)
  · cases e
def gTuple : List D → Option D
  | [.lst xs] => some (.tup xs)
  | [.tup xs] => some (.tup xs)
  | _ => none
theorem call_tuple_ofF : CallR X (.type "tuple") (fun xs H Q => ∃ p ys, xs = [.ref p] ∧ ((SqL X.K H p ys ∧ ∀ l o, H l = none → o.dict = none → Q (.ref l) (upd H l (.frz o (.tup ys)))) ∨ (SqT X.K H p ys ∧ Q (.ref p) H))) := by
  intro pins s σ H xs us Q I r h
  obtain ⟨p, ys, rfl, h⟩ := h
  obtain ⟨u, rfl, rx⟩ := vals1 r
  cases rx
  rcases h with ⟨hq, q⟩ | ⟨hq, q⟩
  · obtain ⟨its, r', pl, hz⟩ := I.list hq
    have hlen := r'.length
    refine call_tuple_list pl.isList (fun h' kp => ?_) (by simp only [List.size_toArray] <;> omega)
    have I1 : Inv X pins σ H { s with heap := h' } := I.kept (t' := s.toks) kp
    have I2 : Inv X pins σ (upd H h'.objs.size (.frz { cls := .type "tuple", data := .seq its.toArray } (.tup ys))) { s with heap := h'.push { cls := .type "tuple", data := .seq its.toArray } } :=
      I1.laid (t' := s.toks) (fun b o e => Heap.get?_push_of_some _ e) (Nat.le_refl _) (show ObjOk X.prog X.w _ _ _ (.frz _ (.tup ys)) from ⟨Heap.get?_push_size _ rfl, hz, its, r', IsTup.new _ _⟩)
    exact ⟨.ref h'.objs.size, _, I2, rfl, q _ _ (I1.hok.fresh (Nat.le_refl _)) rfl⟩
  · obtain ⟨its, r', pl, hz⟩ := I.tuple hq
    exact call_tuple_same pl ⟨.ref p, H, I, rfl, q⟩
theorem cv_tuple : CallV X ct (.type "tuple") gTuple := CallV.mk' fun pins s σ H vs us Q w M ds d I rx rl hx e k => by
  unfold gTuple at e
  split at e
  · cases e
    obtain ⟨v, rfl, a, vs, rfl, h1, h2⟩ := hx.one
    exact call_tuple_ofF pins s σ H _ us Q I rx ⟨a, vs, rfl, .inl ⟨SqL.of h1, fun l o hl ho => k.tup rl h2 hl ho⟩⟩
  · cases e
    obtain ⟨v, rfl, h0, a, vs, rfl, h1, h2⟩ := hx.one
    exact call_tuple_of pins s σ H _ us Q I rx ⟨a, vs, rfl, .inr ⟨h1, k.old rl h0⟩⟩
  · cases e
def dK : Key → D
  | .inl i => .int i
  | .inr x => .str x
def gList : List D → Option MO
  | [.lst xs] => some (.lst xs)
  | [.tup xs] => some (.lst xs)
  | [.dic ks xs] => some (.lst (ks.map dK))
  | _ => none
theorem keys_rep {K : PySem.W.Frag} {w : Wd} : ∀ ks : List Key, RepL K w (ks.map dK) (ks.map kV)
  | [] => .nil
  | .inl i :: ks => .cons (by simp only [dK, kV, Rep]) (keys_rep ks)
  | .inr x :: ks => .cons (by simp only [dK, kV, Rep]) (keys_rep ks)
theorem OkN.now {w : Wd} {M : Store} {H : Hp} {o : MO} {ho : HO} {Q : VK} (k : OkN X.K ct w M H o Q) (rl : Rl X.K ct w M H) (h : RepO X.K ct w o ho) {p : Addr} (hp : H p = none) : Q (.ref p) (upd H p ho) := k w p ho H (Step.refl _ _) rl hp h
theorem zip_keys {ks : List Key} {vs : List V} (h : ks.length = vs.length) : (ks.zip vs).map (fun kv => kV kv.1) = ks.map kV := by
  have : (fun kv : Key × V => kV kv.1) = kV ∘ Prod.fst := rfl
  rw [this, ← List.map_map, List.map_fst_zip (by omega)]
theorem cn_list (hc : X.calm = true) : CallN X ct (.type "list") gList := CallN.mk' fun pins s σ H vs us Q w M ds d I rx rl hx e k => by
  unfold gList at e
  split at e
  · cases e
    obtain ⟨v, rfl, a, vs, rfl, h1, h2⟩ := hx.one
    exact call_list_of pins s σ H _ us Q I rx ⟨a, vs, rfl, .inl (SqL.of h1), fun l hl => k.now rl ⟨vs, rfl, h2⟩ hl⟩
  · cases e
    obtain ⟨v, rfl, h0, a, vs, rfl, h1, h2⟩ := hx.one
    exact call_list_of pins s σ H _ us Q I rx ⟨a, vs, rfl, .inr h1, fun l hl => k.now rl ⟨vs, rfl, h2⟩ hl⟩
  · cases e
    obtain ⟨v, rfl, a, vs, rfl, h1, h2, h3⟩ := hx.one
    refine call_listD hc pins s σ H _ us Q I rx ⟨a, _, rfl, h1, fun p hp => ?_⟩
    rw [zip_keys (by rw [h2, h3.length])]
    exact k.now rl ⟨_, rfl, keys_rep _⟩ hp
  · cases e
end
inductive Ty where
  | int | bool | str | tuple | list | dict
def Ty.name : Ty → String
  | .int => "int" | .bool => "bool" | .str => "str" | .tuple => "tuple" | .list => "list" | .dict => "dict"
def tyN : D → Option Nat
  | .non => some 0 | .bl _ => some 1 | .int _ => some 2 | .str _ => some 3 | .tup _ => some 4 | .lst _ => some 5 | .dic _ _ => some 6
  | _ => none
def isiB : Ty → D → Option Bool
  | .int, .int _ => some true
  | .int, .bl _ => some true
  | .bool, .bl _ => some true
  | .str, .str _ => some true
  | .tuple, .tup _ => some true
  | .list, .lst _ => some true
  | .dict, .dic _ _ => some true
  | _, d => (tyN d).map fun _ => false
def nmN : Nat → String
  | 0 => "NoneType" | 1 => "bool" | 2 => "int" | 3 => "str" | 4 => "tuple" | 5 => "list" | _ => "dict"
theorem tyx_of {K : PySem.W.Frag} {ct : CT} {w : Wd} {M : Store} {H : Hp} {d : D} {v : V} {n : Nat} (rl : Rl K ct w M H) (h : Vw K w H d v) (e : tyN d = some n) : TyX K H v (.type (nmN n)) := by
  cases d with
  | non => cases e; cases h; exact .base .non
  | bl x => cases e; cases h; exact .base (.bl _)
  | int x => cases e; cases h; exact .base (.int _)
  | str x => cases e; cases h; exact .base (.str _)
  | tup xs =>
    cases e
    obtain ⟨_, a, vs, rfl, h1, h2⟩ := h
    rcases h1 with (h1 | ⟨o, h1⟩) | ⟨o, its, n, h1, c, _⟩
    · exact .base (.tup h1)
    · exact .fTuple h1
    · exact .kTuple h1 c
  | lst xs =>
    cases e
    obtain ⟨a, vs, rfl, h1, h2⟩ := h
    exact .base (.lst h1)
  | dic ks xs =>
    cases e
    obtain ⟨a, vs, rfl, h1 | ⟨o, h1⟩, h2⟩ := h
    · exact .base (.dK h1)
    · exact .fDict h1
  | ref n => cases e
  | scr n => cases e
theorem isi_kit (T : Ty) (d : D) (k : Bool) (e : isiB T d = some k) : ∃ n, tyN d = some n ∧ kitB (nmN n) T.name = some k := by
  cases T <;> cases d <;> (try (cases e; done)) <;> (refine ⟨_, rfl, ?_⟩; cases e; decide +kernel)
section
variable {X : Cx} {ct : CT} {b : Base} {W : WX} {e e1 e2 e3 : Expr} {pos : Pos} {es : List Expr}
def eIsi (T : Ty) (h : CH) : CE := fun en M => (h en M).bind fun a M1 => ofO ((vw en M1 a).bind fun d => (isiB T d).map D.bl) M1
theorem pd_isi {x : Str} {p p2 : Pos} {T : Ty} {f : CH} (hm : X.mg "isinstance" = none) (hmT : X.mg x = none) (hv : bootBuiltins x = some (.type T.name)) (ha : PHD X ct b W f e) (hg : Gl X "isinstance" := by rfl) (hgT : Gl X x := by rfl) (hn : x ≠ "__name__" := by decide)
    (hdb : (x == ("__debug__" : Str)) = false := by decide) (he : starEach (e :: [.Name x p2]) X.env = (false, eval e X.env) :: starEach [.Name x p2] X.env := by rfl) (hpl : (backTo pos (starEach [.Name x p2] X.env)).any (·.1) = false := by rfl)
    (hs2 : starEach [.Name x p2] X.env = (false, eval (.Name x p2) X.env) :: starEach [] X.env := by rfl) : PD X ct b W (eIsi T f) (.Call (.Name "isinstance" p) [e, .Name x p2] [] pos) := by
  have hT : PE X (.Name x p2) (tC (.ty T.name)) := pe_bltn hgT hmT hv rfl hn hdb
  refine PE.wk (pe_callB call_isi hg hm (by decide +kernel) (pa_cons ha (pa_cons hT pa_nil hs2) he) (by decide) (by decide) he hpl) fun σ H Q h => ?_
  obtain ⟨w, en, M, S, rl, p⟩ := h
  refine ⟨w, en, M, S, rl, (Post.bind p).imp (fun a M1 q w1 v1 H1 s1 r1 x1 => ?_) fun _ _ _ q => q⟩
  obtain ⟨d, e, q⟩ := ofO_post q
  obtain ⟨y, ey, e⟩ := Option.bind_eq_some_iff.mp e
  obtain ⟨k, ek, e⟩ := Option.map_eq_some_iff.mp e
  subst e
  obtain ⟨n, e3, e4⟩ := isi_kit T y k ek
  exact ⟨v1, .ty T.name, _, _, k, rfl, .ty _, tyx_of r1 (vw_ok (S.step s1) r1 x1 ey) e3, kit_ty e4, q w1 _ H1 s1 r1 (by simp only [Rep])⟩
def eIsi2 (T U : Ty) (h : CH) : CE := fun en M => (h en M).bind fun a M1 => ofO ((vw en M1 a).bind fun d => (isiB T d).bind fun k => (isiB U d).map fun l => D.bl (k || l)) M1
theorem pd_isi2 {x y : Str} {p p2 p3 p4 : Pos} {T U : Ty} {f : CH} {kk : Nat} (hm : X.mg "isinstance" = none) (hmT : X.mg x = none) (hv : bootBuiltins x = some (.type T.name)) (hmU : X.mg y = none) (hvU : bootBuiltins y = some (.type U.name)) (ha : PHD X ct b W f e)
    (hg : Gl X "isinstance" := by rfl) (hgT : Gl X x := by rfl) (hgU : Gl X y := by rfl) (hn : x ≠ "__name__" := by decide) (hnU : y ≠ "__name__" := by decide)
    (hdb : (x == ("__debug__" : Str)) = false := by decide) (hdbU : (y == ("__debug__" : Str)) = false := by decide)
    (hi1 : starEach [.Name x p2, .Name y p3] X.env = (false, eval (.Name x p2) X.env) :: starEach [.Name y p3] X.env := by rfl) (hi2 : starEach [.Name y p3] X.env = (false, eval (.Name y p3) X.env) :: starEach [] X.env := by rfl)
    (he : starEach (e :: [.Tuple [.Name x p2, .Name y p3] kk p4]) X.env = (false, eval e X.env) :: starEach [.Tuple [.Name x p2, .Name y p3] kk p4] X.env := by rfl) (hpl : (backTo pos (starEach [.Tuple [.Name x p2, .Name y p3] kk p4] X.env)).any (·.1) = false := by rfl)
    (hs2 : starEach [.Tuple [.Name x p2, .Name y p3] kk p4] X.env = (false, eval (.Tuple [.Name x p2, .Name y p3] kk p4) X.env) :: starEach [] X.env := by rfl) : PD X ct b W (eIsi2 T U f) (.Call (.Name "isinstance" p) [e, .Tuple [.Name x p2, .Name y p3] kk p4] [] pos) := by
  have hT : PE X (.Name x p2) (tC (.ty T.name)) := pe_bltn hgT hmT hv rfl hn hdb
  have hU : PE X (.Name y p3) (tC (.ty U.name)) := pe_bltn hgU hmU hvU rfl hnU hdbU
  refine PE.wk (pe_callB call_isiT hg hm (by decide +kernel) (pa_cons ha (pa_cons (pe_tup (pa_cons hT (pa_cons hU pa_nil hi2) hi1)) pa_nil hs2) he) (by decide) (by decide) he hpl) fun σ H Q h => ?_
  obtain ⟨w, en, M, S, rl, p⟩ := h
  refine ⟨w, en, M, S, rl, (Post.bind p).imp (fun a M1 q w1 v1 H1 s1 r1 x1 => ?_) fun _ _ _ q => q⟩
  obtain ⟨d, e, q⟩ := ofO_post q
  obtain ⟨y, ey, e⟩ := Option.bind_eq_some_iff.mp e
  obtain ⟨k, ek, e⟩ := Option.bind_eq_some_iff.mp e
  obtain ⟨l, el, e⟩ := Option.map_eq_some_iff.mp e
  subst e
  refine ⟨by show 2 ≤ sizeLine; rw [sizeLine_eq]; omega, fun tp htp => ?_⟩
  obtain ⟨n, e3, e4⟩ := isi_kit T y k ek
  obtain ⟨n', e3', e4'⟩ := isi_kit U y l el
  rw [e3] at e3'
  cases e3'
  obtain ⟨s2, r2⟩ := r1.aside (o := .tup [.ty T.name, .ty U.name]) htp
  have S2 := S.step (s1.trans s2)
  refine ⟨v1, tp, _, _, [.type T.name, .type U.name], k || l, rfl, upd_same, .cons (.ty _) (.cons (.ty _) .nil), tyx_of r2 (vw_ok S2 r2 (s2.repH x1) ey) e3, ?_, q _ _ _ (s1.trans s2) r2 (by simp only [Rep])⟩
  refine kitAny_cons (kit_ty e4) (fun hk => ?_) fun hk => by rw [hk]; rfl
  subst hk
  refine kitAny_cons (kit_ty e4') (fun hk => by subst hk; rfl) fun hk => by rw [hk]; rfl
end
end DL
namespace DL
open PySem PySem.Spec PyProof.Rows L2
structure Wle (w w' : Wd) : Prop where
  ρ : w.ρ <+: w'.ρ
  F : Same w.F w'.F
theorem Step.le {w w' : Wd} {H H' : Hp} (s : Step w H w' H') : Wle w w' := ⟨s.ρ, s.F⟩
theorem Wle.trans {w w1 w2 : Wd} (a : Wle w w1) (c : Wle w1 w2) : Wle w w2 := ⟨a.ρ.trans c.ρ, a.F.trans c.F⟩
theorem Wle.refl (w : Wd) : Wle w w := ⟨List.prefix_refl _, Same.refl _⟩
theorem Wle.rep {K : PySem.W.Frag} {w w' : Wd} (a : Wle w w') {d : D} {v : V} (h : Rep K w d v) : Rep K w' d v := Rep.mono a.ρ a.F _ _ h
theorem Wle.repL {K : PySem.W.Frag} {w w' : Wd} (a : Wle w w') {d : List D} {v : List V} (h : RepL K w d v) : RepL K w' d v := RepL.mono a.ρ a.F _ _ h
inductive Fl where
  | next (en : En) | ret (d : D) | brk (en : En) | cont (en : En) | exc (c : Str) (fs : List (Str × D)) (en : En)
abbrev CS := En → Store → Out Fl
section
variable (X : Cx) (ct : CT) (b : Base) (W : WX)
def FlP (w : Wd) (D : Ends) (r : Fl) (M' : Store) : Prop := match r with
  | .next en' => ∀ w' σ' H', Step b.w b.H w' H' → Wle w w' → Sl X.K ct b w' en' σ' H' → Rl X.K ct w' M' H' → D.nx σ' H'
  | .brk en' => ∀ w' σ' H', Step b.w b.H w' H' → Wle w w' → Sl X.K ct b w' en' σ' H' → Rl X.K ct w' M' H' → D.bk σ' H'
  | .cont en' => ∀ w' σ' H', Step b.w b.H w' H' → Wle w w' → Sl X.K ct b w' en' σ' H' → Rl X.K ct w' M' H' → D.ct σ' H'
  | .ret d => ∀ w' v H', Step b.w b.H w' H' → Wle w w' → Rl X.K ct w' M' H' → Rep X.K w' d v → D.rt v H'
  | .exc c fs en' => ∀ w' cls dx σ' H', Step b.w b.H w' H' → Wle w w' → Sl X.K ct b w' en' σ' H' → Rl X.K ct w' M' H' → ExV X.K ct w' c fs cls dx H' → W cls dx σ' H'
def PostS (w : Wd) (o : Out Fl) (D : Ends) : Prop := match o with
  | .ok r M' => FlP X ct b W w D r M'
  | _ => False
def TSD (f : CS) : L2.TS := fun D σ H => ∃ w en M, Step b.w b.H w H ∧ Sl X.K ct b w en σ H ∧ Rl X.K ct w M H ∧ PostS X ct b W w (f en M) D
abbrev PSD (f : CS) (st : Stmt) : Prop := L2.PS X st (TSD X ct b W f)
abbrev PSsD (f : CS) (st : List Stmt) : Prop := L2.PSs X st (TSD X ct b W f)
end
def seqS (f g : CS) : CS := fun en M => match f en M with
  | .ok (.next en') M' => g en' M'
  | r => r
def nilS : CS := fun en M => .ok (.next en) M
def thenS (o : Out D) (en : En) (k : D → Store → Out Fl) : Out Fl := match o with
  | .ok d M => k d M
  | .exc c fs M => .ok (.exc c fs en) M
  | .err => .err
def thenB (o : Out Bool) (en : En) (k : Bool → Store → Out Fl) : Out Fl := match o with
  | .ok d M => k d M
  | .exc c fs M => .ok (.exc c fs en) M
  | .err => .err
def thenN (o : Out MO) (en : En) (k : MO → Store → Out Fl) : Out Fl := match o with
  | .ok d M => k d M
  | .exc c fs M => .ok (.exc c fs en) M
  | .err => .err
def thenA (o : Out (List D)) (en : En) (k : List D → Store → Out Fl) : Out Fl := match o with
  | .ok d M => k d M
  | .exc c fs M => .ok (.exc c fs en) M
  | .err => .err
@[simp] theorem thenS_ok (d : D) (M : Store) (en : En) (k : D → Store → Out Fl) : thenS (.ok d M) en k = k d M := rfl
@[simp] theorem thenB_ok (d : Bool) (M : Store) (en : En) (k : Bool → Store → Out Fl) : thenB (.ok d M) en k = k d M := rfl
@[simp] theorem thenN_ok (d : MO) (M : Store) (en : En) (k : MO → Store → Out Fl) : thenN (.ok d M) en k = k d M := rfl
@[simp] theorem thenA_ok (d : List D) (M : Store) (en : En) (k : List D → Store → Out Fl) : thenA (.ok d M) en k = k d M := rfl
@[simp] theorem thenS_exc (c : Str) (fs : List (Str × D)) (M : Store) (en : En) (k : D → Store → Out Fl) : thenS (.exc c fs M) en k = .ok (.exc c fs en) M := rfl
@[simp] theorem thenB_exc (c : Str) (fs : List (Str × D)) (M : Store) (en : En) (k : Bool → Store → Out Fl) : thenB (.exc c fs M) en k = .ok (.exc c fs en) M := rfl
def asgS (i : Nat) (f : CE) : CS := fun en M => thenS (f en M) en fun d M' => .ok (.next (en.set i (some (.val d)))) M'
def retS (f : CE) : CS := fun en M => thenS (f en M) en fun d M' => .ok (.ret d) M'
def dropS (f : CE) : CS := fun en M => thenS (f en M) en fun _ M' => .ok (.next en) M'
def ifS (c : CB) (f g : CS) : CS := fun en M => thenB (c en M) en fun k M' => if k = true then f en M' else g en M'
def frzS (i : Nat) (g : CS) : CS := fun en M => match en[i]? with
  | some (some (.own o)) => match frzO o with
    | some d => g (en.set i (some (.val d))) M
    | none => .err
  | _ => g en M
section
variable {K : PySem.W.Frag} {ct : CT} {b : Base} {w : Wd} {en : En} {σ : L2.St} {H : Hp}
theorem Sl.setv (S : Sl K ct b w en σ H) (i : Nat) {d : D} {v : V} (h : Rep K w d v) : Sl K ct b w (en.set i (some (.val d))) (σ.set i (some v)) H := by
  refine ⟨by rw [List.length_set, List.length_set]; exact S.len, fun j d' e => ?_, fun j o e => ?_, fun j k o o' hjk e1 e2 => ?_⟩
  · by_cases hj : i = j
    · subst hj
      have hl : i < en.length := by
        have := (List.getElem?_eq_some_iff.mp e).1
        rwa [List.length_set] at this
      rw [List.getElem?_set_self hl] at e
      cases e
      exact ⟨v, by rw [List.getElem?_set_self (by rw [← S.len]; exact hl)], h⟩
    · rw [List.getElem?_set_ne hj] at e
      obtain ⟨u, h1, h2⟩ := S.val j d' e
      exact ⟨u, by rw [List.getElem?_set_ne hj]; exact h1, h2⟩
  · by_cases hj : i = j
    · subst hj
      have hl : i < en.length := by
        have := (List.getElem?_eq_some_iff.mp e).1
        rwa [List.length_set] at this
      rw [List.getElem?_set_self hl] at e
      cases e
    · rw [List.getElem?_set_ne hj] at e
      obtain ⟨a, ho, h1, h2⟩ := S.own j o e
      exact ⟨a, ho, by rw [List.getElem?_set_ne hj]; exact h1, h2⟩
  · have no : ∀ (j : Nat) (o : MO), (en.set i (some (.val d)))[j]? = some (some (.own o)) → i ≠ j := fun j o e z => by
      subst z
      have hl : i < en.length := by
        have := (List.getElem?_eq_some_iff.mp e).1
        rwa [List.length_set] at this
      rw [List.getElem?_set_self hl] at e
      cases e
    have n1 := no j o e1
    have n2 := no k o' e2
    rw [List.getElem?_set_ne n1] at e1
    rw [List.getElem?_set_ne n2] at e2
    rw [List.getElem?_set_ne n1, List.getElem?_set_ne n2]
    exact S.sep j k o o' hjk e1 e2
theorem Step.fresh {w' : Wd} {H' : Hp} {M' : Store} (s : Step w H w' H') (r : Rl K ct w' M' H') {p : Addr} (hp : H' p = none) (sub : Sub w.F H) (rr : ∀ a ∈ w.ρ, H a ≠ none) : Fr0 H p := fun o e => by
  by_cases hF : w.F p = none
  · by_cases hρ : p ∈ w.ρ
    · exact absurd (s.ρ.mem hρ) (r.notin hp)
    · by_cases ht : ∀ ps, o ≠ .tbl ps
      · rw [(s.fr p o e ht hF hρ).1] at hp
        cases hp
      · rw [Classical.not_forall] at ht
        obtain ⟨ps, ht⟩ := ht
        exact ⟨ps, Classical.not_not.mp ht⟩
  · cases q : w.F p with
    | none => exact absurd q hF
    | some u =>
      have := r.sub.free hp
      rw [s.F _ _ q] at this
      cases this
theorem Sl.seto {M : Store} (S : Sl K ct b w en σ H) (rl : Rl K ct w M H) (i : Nat) {o : MO} {ho : HO} {p : Addr} (hp : H p = none) (hb : Fr0 b.H p) (h : RepO K ct w o ho) : Sl K ct b w (en.set i (some (.own o))) (σ.set i (some (.ref p))) (upd H p ho) := by
  have S1 := S.step (rl.aside (o := ho) hp).1
  have np : ∀ (j : Nat) (o' : MO), en[j]? = some (some (.own o')) → σ[j]? ≠ some (some (.ref p)) := fun j o' e z => by
    obtain ⟨a, h1, h2, _, _, _, h3, _⟩ := S.own j o' e
    rw [h2] at z
    cases z
    rw [hp] at h3
    cases h3
  refine ⟨by rw [List.length_set, List.length_set]; exact S.len, fun j d' e => ?_, fun j o' e => ?_, fun j k o1 o2 hjk e1 e2 => ?_⟩
  · by_cases hj : i = j
    · subst hj
      have hl : i < en.length := by
        have := (List.getElem?_eq_some_iff.mp e).1
        rwa [List.length_set] at this
      rw [List.getElem?_set_self hl] at e
      cases e
    · rw [List.getElem?_set_ne hj] at e
      obtain ⟨u, h1, h2⟩ := S.val j d' e
      exact ⟨u, by rw [List.getElem?_set_ne hj]; exact h1, h2⟩
  · by_cases hj : i = j
    · subst hj
      have hl : i < en.length := by
        have := (List.getElem?_eq_some_iff.mp e).1
        rwa [List.length_set] at this
      rw [List.getElem?_set_self hl] at e
      cases e
      exact ⟨p, ho, by rw [List.getElem?_set_self (by rw [← S.len]; exact hl)], hb, rl.sub.free hp, rl.notin hp, upd_same, h⟩
    · rw [List.getElem?_set_ne hj] at e
      obtain ⟨a, hu, h1, h2⟩ := S1.own j o' e
      exact ⟨a, hu, by rw [List.getElem?_set_ne hj]; exact h1, h2⟩
  · by_cases hj : i = j
    · subst hj
      have hl : i < en.length := by
        have := (List.getElem?_eq_some_iff.mp e1).1
        rwa [List.length_set] at this
      rw [List.getElem?_set_ne hjk] at e2
      rw [List.getElem?_set_self (by rw [← S.len]; exact hl), List.getElem?_set_ne hjk]
      exact fun z => np k o2 e2 z.symm
    · rw [List.getElem?_set_ne hj] at e1
      by_cases hk : i = k
      · subst hk
        have hl : i < en.length := by
          have := (List.getElem?_eq_some_iff.mp e2).1
          rwa [List.length_set] at this
        rw [List.getElem?_set_self (by rw [← S.len]; exact hl), List.getElem?_set_ne hj]
        exact np j o1 e1
      · rw [List.getElem?_set_ne hk] at e2
        rw [List.getElem?_set_ne hj, List.getElem?_set_ne hk]
        exact S.sep j k o1 o2 hjk e1 e2
end
section
variable {X : Cx} {ct : CT} {b : Base} {W : WX} {e e1 e2 e3 : Expr} {pos : Pos} {es : List Expr} {st : Stmt} {sts : List Stmt} {f g : CS}
structure Base.Ok (K : PySem.W.Frag) (b : Base) : Prop where
  sub : Sub b.w.F b.H
  there : ∀ a ∈ b.w.ρ, b.H a ≠ none
theorem PostS.wle {w w1 : Wd} {o : Out Fl} {D : Ends} (h : PostS X ct b W w o D) (l : Wle w w1) : PostS X ct b W w1 o D := by
  cases o with
  | ok r M' =>
    cases r with
    | next en' => exact fun w' σ' H' s l' S r => h w' σ' H' s (l.trans l') S r
    | ret d => exact fun w' v H' s l' r x => h w' v H' s (l.trans l') r x
    | brk en' => exact fun w' σ' H' s l' S r => h w' σ' H' s (l.trans l') S r
    | cont en' => exact fun w' σ' H' s l' S r => h w' σ' H' s (l.trans l') S r
    | exc c fs en' => exact fun w' cls dx σ' H' s l' S r x => h w' cls dx σ' H' s (l.trans l') S r x
  | exc c fs M => exact h
  | err => exact h
theorem PostS.seq {w : Wd} {o : Out Fl} {g : CS} {D : Ends} (h : PostS X ct b W w (match o with
    | .ok (.next en') M' => g en' M'
    | r => r) D) : PostS X ct b W w o { D with nx := TSD X ct b W g D } := by
  cases o with
  | ok r M' =>
    cases r with
    | next en' => exact fun w' σ' H' s l S r => ⟨w', en', M', s, S, r, PostS.wle h l⟩
    | ret d => exact h
    | brk en' => exact h
    | cont en' => exact h
    | exc c fs en' => exact h
  | exc c fs M => exact h
  | err => exact h
theorem psd_nil : PSsD X ct b W nilS [] := PSs.wk pss_nil fun D σ H h => by
  obtain ⟨w, en, M, s, S, r, p⟩ := h
  exact p w σ H s (.refl w) S r
theorem psd_cons (h1 : PSD X ct b W f st) (h2 : PSsD X ct b W g sts) : PSsD X ct b W (seqS f g) (st :: sts) := PSs.wk (pss_cons h1 h2) fun D σ H h => by
  obtain ⟨w, en, M, s, S, r, p⟩ := h
  exact ⟨w, en, M, s, S, r, PostS.seq (g := g) p⟩
theorem psd_one (h1 : PSD X ct b W f st) : PSsD X ct b W f [st] := PSs.wk (pss_one h1) fun D σ H h => h
theorem ThenS.go {te : CE} {k : D → Store → Out Fl} {D : Ends} {σ : L2.St} {H : Hp} {w : Wd} {en : En} {M : Store} {Q : VK} (s : Step b.w b.H w H) (S : Sl X.K ct b w en σ H) (r : Rl X.K ct w M H) (p : PostS X ct b W w (thenS (te en M) en k) D)
    (hk : ∀ d M' w' v H', PostS X ct b W w' (k d M') D → Step b.w b.H w' H' → Sl X.K ct b w' en σ H' → Rl X.K ct w' M' H' → Rep X.K w' d v → Q v H') : TD X ct b W te σ H Q := by
  refine ⟨w, en, M, S, r, ?_⟩
  cases q : te en M with
  | ok d M' =>
    rw [q] at p
    exact fun w' v H' s' r' x => hk d M' w' v H' (PostS.wle p s'.le) (s.trans s') (S.step s') r' x
  | exc c fs M' =>
    rw [q] at p
    exact fun w' cls dx H' s' S' r' x => p w' cls dx σ H' (s.trans s') s'.le S' r' x
  | err =>
    rw [q] at p
    exact p.elim
theorem ThenB.go {te : CB} {k : Bool → Store → Out Fl} {D : Ends} {σ : L2.St} {H : Hp} {w : Wd} {en : En} {M : Store} {Q : Bool → Hp → Prop} (s : Step b.w b.H w H) (S : Sl X.K ct b w en σ H) (r : Rl X.K ct w M H) (p : PostS X ct b W w (thenB (te en M) en k) D)
    (hk : ∀ d M' w' H', PostS X ct b W w' (k d M') D → Step b.w b.H w' H' → Sl X.K ct b w' en σ H' → Rl X.K ct w' M' H' → Q d H') : TTD X ct b W te σ H Q := by
  refine ⟨w, en, M, S, r, ?_⟩
  cases q : te en M with
  | ok d M' =>
    rw [q] at p
    exact fun w' H' s' r' => hk d M' w' H' (PostS.wle p s'.le) (s.trans s') (S.step s') r'
  | exc c fs M' =>
    rw [q] at p
    exact fun w' cls dx H' s' S' r' x => p w' cls dx σ H' (s.trans s') s'.le S' r' x
  | err =>
    rw [q] at p
    exact p.elim
theorem ThenA.go {te : CA} {k : List D → Store → Out Fl} {D : Ends} {σ : L2.St} {H : Hp} {w : Wd} {en : En} {M : Store} {Q : List V → Hp → Prop} (s : Step b.w b.H w H) (S : Sl X.K ct b w en σ H) (r : Rl X.K ct w M H) (p : PostS X ct b W w (thenA (te en M) en k) D)
    (hk : ∀ d M' w' v H', PostS X ct b W w' (k d M') D → Step b.w b.H w' H' → Sl X.K ct b w' en σ H' → Rl X.K ct w' M' H' → RepL X.K w' d v → Q v H') : TAD X ct b W te σ H Q := by
  refine ⟨w, en, M, S, r, ?_⟩
  cases q : te en M with
  | ok d M' =>
    rw [q] at p
    exact fun w' v H' s' r' x => hk d M' w' v H' (PostS.wle p s'.le) (s.trans s') (S.step s') r' x
  | exc c fs M' =>
    rw [q] at p
    exact fun w' cls dx H' s' S' r' x => p w' cls dx σ H' (s.trans s') s'.le S' r' x
  | err =>
    rw [q] at p
    exact p.elim
theorem ThenN.go {te : CN} {k : MO → Store → Out Fl} {D : Ends} {σ : L2.St} {H : Hp} {w : Wd} {en : En} {M : Store} {Q : VK} (s : Step b.w b.H w H) (S : Sl X.K ct b w en σ H) (r : Rl X.K ct w M H) (p : PostS X ct b W w (thenN (te en M) en k) D)
    (hk : ∀ o M' w' p ho H', PostS X ct b W w' (k o M') D → Step b.w b.H w' H' → Sl X.K ct b w' en σ H' → Rl X.K ct w' M' H' → H' p = none → RepO X.K ct w' o ho → Q (.ref p) (upd H' p ho)) : TND X ct b W te σ H Q := by
  refine ⟨w, en, M, S, r, ?_⟩
  cases q : te en M with
  | ok d M' =>
    rw [q] at p
    exact fun w' p' ho H' s' r' hp x => hk d M' w' p' ho H' (PostS.wle p s'.le) (s.trans s') (S.step s') r' hp x
  | exc c fs M' =>
    rw [q] at p
    exact fun w' cls dx H' s' S' r' x => p w' cls dx σ H' (s.trans s') s'.le S' r' x
  | err =>
    rw [q] at p
    exact p.elim
theorem psd_asg {i : Nat} {x : Str} {pos' : Pos} {te : CE} (hN : X.N.Nodup) (he : PD X ct b W te e) (hi : X.N[i]? = some x := by rfl) (hx : Loc X.env.scope x := by first | exact Or.inl rfl | exact Or.inr rfl)
    (hs : swapsWith e (some (.Name x pos')) pos.line X.env = pure false := by rfl) (hf : X.fn x = true ∨ X.env.scope.names.lookup x = some .local := by first | exact .inl rfl | exact .inr rfl) : PSD X ct b W (asgS i te) (.Assign [.Name x pos'] e pos) :=
  PS.wk (ps_set (i := i) hN hi hx he hs hf) fun D σ H h => by
    obtain ⟨w, en, M, s, S, r, p⟩ := h
    exact ThenS.go (Q := fun x H1 => gName i x σ H1 D.nx) s S r p fun d M' w' v H' q s' S' r' x => q w' _ H' s' (.refl _) (S'.setv i x) r'
theorem psd_ret {te : CE} (he : PD X ct b W te e) : PSD X ct b W (retS te) (.Return (some e) pos) := PS.wk (ps_ret he) fun D σ H h => by
  obtain ⟨w, en, M, s, S, r, p⟩ := h
  exact ThenS.go (Q := D.rt) s S r p fun d M' w' v H' q s' S' r' x => q w' v H' s' (.refl _) r' x
theorem psd_expr {te : CE} (he : PD X ct b W te e) (hs : swapsWith e none pos.line X.env = pure false := by rfl) : PSD X ct b W (dropS te) (.Expr e pos) := PS.wk (ps_expr he hs) fun D σ H h => by
  obtain ⟨w, en, M, s, S, r, p⟩ := h
  exact ThenS.go (Q := fun _ H1 => D.nx σ H1) s S r p fun d M' w' v H' q s' S' r' x => q w' σ H' s' (.refl _) S' r'
theorem psd_if {c : CB} {a1 a2 : List Stmt} (hc : PTD X ct b W c e) (h1 : PSsD X ct b W f a1) (h2 : PSsD X ct b W g a2) : PSD X ct b W (ifS c f g) (.If e a1 a2 pos) := PS.wk (ps_if hc h1 h2) fun D σ H h => by
  obtain ⟨w, en, M, s, S, r, p⟩ := h
  refine ThenB.go (Q := fun k H1 => if k = true then TSD X ct b W f D σ H1 else TSD X ct b W g D σ H1) s S r p fun k M' w' H' q s' S' r' => ?_
  cases k with
  | true =>
    rw [if_pos rfl] at q ⊢
    exact ⟨w', en, M', s', S', r', q⟩
  | false =>
    rw [if_neg Bool.false_ne_true] at q ⊢
    exact ⟨w', en, M', s', S', r', q⟩
theorem Sl.freezeG {w : Wd} {en : En} {σ : L2.St} {H H' : Hp} {M : Store} (S : Sl X.K ct b w en σ H) (rl : Rl X.K ct w M H) {i : Nat} {o : MO} {d : D} {a : Addr} {ho ho' : HO} (s : Step b.w b.H w H) (e : en[i]? = some (some (.own o)))
    (h1 : σ[i]? = some (some (.ref a))) (h2 : Fr0 b.H a) (h3 : w.F a = none) (h4 : a ∉ w.ρ) (h5 : H a = some ho) (hn5 : NiceH ho) (k1 : H' a = some ho') (k2 : ∀ c, c ≠ a → H' c = H c) (kn : NiceH ho')
    (kr : (∀ (x : List D) (v : List V), RepL X.K w x v → RepL X.K ⟨w.ρ, upd w.F a ho'⟩ x v) → Rep X.K ⟨w.ρ, upd w.F a ho'⟩ d (.ref a)) :
    ∃ w', Step b.w b.H w' H' ∧ Wle w w' ∧ Sl X.K ct b w' (en.set i (some (.val d))) σ H' ∧ Rl X.K ct w' M H' := by
  have sF : Same w.F (upd w.F a ho') := fun c u q => by
    rw [upd_ne (ne_of_none q h3)]
    exact q
  have mono : ∀ {d : D} {v : V}, Rep X.K w d v → Rep X.K ⟨w.ρ, upd w.F a ho'⟩ d v := fun x => Rep.mono (w := w) (w' := ⟨w.ρ, upd w.F a ho'⟩) (List.prefix_refl _) sF _ _ x
  have monoL : ∀ (d : List D) (v : List V), RepL X.K w d v → RepL X.K ⟨w.ρ, upd w.F a ho'⟩ d v := fun _ _ x => RepL.mono (w := w) (w' := ⟨w.ρ, upd w.F a ho'⟩) (List.prefix_refl _) sF _ _ x
  have monoO : ∀ {o : MO} {h : HO}, RepO X.K ct w o h → RepO X.K ct ⟨w.ρ, upd w.F a ho'⟩ o h := fun x => RepO.mono (w := w) (w' := ⟨w.ρ, upd w.F a ho'⟩) (List.prefix_refl _) sF x
  refine ⟨⟨w.ρ, upd w.F a ho'⟩, ⟨s.ρ, s.F.trans sF, fun c u q1 qt q2 q3 => ?_⟩, ⟨List.prefix_refl _, sF⟩, ⟨by rw [List.length_set]; exact S.len, fun j d' q => ?_, fun j o' q => ?_, fun j k o1 o2 hjk q1 q2 => ?_⟩, ⟨fun c u q => ?_, rl.len, rl.nd, fun n u q => ?_, fun c u q => ?_, tabs_at rl.tabs (fun o e => by rw [h5] at e; cases e; exact hn5) k2⟩⟩
  · obtain ⟨g1, g2, g3⟩ := s.fr c u q1 qt q2 q3
    have hc : c ≠ a := fun z => let ⟨ps, e⟩ := h2 u (z ▸ q1); qt ps e
    refine ⟨by rw [k2 c hc]; exact g1, ?_, g3⟩
    show upd w.F a ho' c = none
    rw [upd_ne hc]
    exact g2
  · by_cases hj : i = j
    · subst hj
      have hl : i < en.length := (List.getElem?_eq_some_iff.mp e).1
      rw [List.getElem?_set_self hl] at q
      cases q
      exact ⟨.ref a, h1, kr monoL⟩
    · rw [List.getElem?_set_ne hj] at q
      obtain ⟨v, g1, g2⟩ := S.val j d' q
      exact ⟨v, g1, mono g2⟩
  · by_cases hj : i = j
    · subst hj
      have hl : i < en.length := (List.getElem?_eq_some_iff.mp e).1
      rw [List.getElem?_set_self hl] at q
      cases q
    · rw [List.getElem?_set_ne hj] at q
      obtain ⟨c, hu, g1, g2, g3, g4, g5, g6⟩ := S.own j o' q
      have hc : c ≠ a := fun z => by
        subst z
        exact S.sep i j o o' hj e q (h1.trans g1.symm)
      refine ⟨c, hu, g1, g2, ?_, g4, by rw [k2 c hc]; exact g5, monoO g6⟩
      show upd w.F a ho' c = none
      rw [upd_ne hc]
      exact g3
  · have no : ∀ (j : Nat) (o' : MO), (en.set i (some (.val d)))[j]? = some (some (.own o')) → en[j]? = some (some (.own o')) := fun j o' q => by
      by_cases hj : i = j
      · subst hj
        have hl : i < en.length := (List.getElem?_eq_some_iff.mp e).1
        rw [List.getElem?_set_self hl] at q
        cases q
      · rwa [List.getElem?_set_ne hj] at q
    exact S.sep j k o1 o2 hjk (no j o1 q1) (no k o2 q2)
  · by_cases hc : c = a
    · subst hc
      have q' : upd w.F c ho' c = some u := q
      rw [upd_same] at q'
      cases q'
      exact .inl k1
    · have q' : upd w.F a ho' c = some u := q
      rw [upd_ne hc] at q'
      have := rl.sub c u q'
      rw [k2 c hc]
      exact this
  · obtain ⟨c, hu, g1, g2, g3, g4⟩ := rl.mo n u q
    have hc : c ≠ a := fun z => by
      subst z
      exact h4 (List.mem_of_getElem? g1)
    refine ⟨c, hu, g1, ?_, by rw [k2 c hc]; exact g3, monoO g4⟩
    show upd w.F a ho' c = none
    rw [upd_ne hc]
    exact g2
  · by_cases hc : c = a
    · subst hc
      have q' : upd w.F c ho' c = some u := q
      rw [upd_same] at q'
      cases q'
      exact kn
    · have q' : upd w.F a ho' c = some u := q
      rw [upd_ne hc] at q'
      exact rl.nice c u q'
def tLkS (t : L2.TS) : L2.TS := fun D σ H => t D σ H ∨ ∃ d u, H d = some u ∧ Mut (some u) ∧ ∀ od, t D σ (upd H d (.frz od u))
theorem pss_lk {t : L2.TS} (h : L2.PSs X sts t) : L2.PSs X sts (tLkS t) := L2.PSs.mk fun pins s σ H D I q => by
  rcases q with q | ⟨d, u, hd, mu, q⟩
  · exact h.run pins s σ H D I q
  · obtain ⟨od, I2⟩ := I.lock hd mu
    exact h.run pins s σ _ D I2 (q od)
theorem psd_frz {i : Nat} (h : PSsD X ct b W g sts) : PSsD X ct b W (frzS i g) sts := PSs.wk (pss_lk h) fun D σ H h => by
  obtain ⟨w, en, M, s, S, r, p⟩ := h
  unfold frzS at p
  split at p
  · rename_i o e
    split at p
    · rename_i d hd
      obtain ⟨a, ho, h1, h2, h3, h4, h5, h6⟩ := S.own i o e
      cases o with
      | lst xs =>
        cases hd
        have hn := RepO.nice h6
        obtain ⟨vs, rfl, x⟩ := h6
        obtain ⟨w', s', l', S', r'⟩ := S.freezeG (d := .lst xs) (ho' := .lst vs) (H' := H) r s e h1 h2 h3 h4 h5 hn h5 (fun _ _ => rfl) hn fun m => by
          simp only [Rep]
          exact ⟨a, vs, rfl, upd_same, m _ _ x⟩
        exact .inl ⟨w', _, M, s', S', r', PostS.wle p l'⟩
      | dic ks xs =>
        cases hd
        obtain ⟨vs, rfl, l, x⟩ := h6
        refine .inr ⟨a, _, h5, trivial, fun od => ?_⟩
        obtain ⟨w', s', l', S', r'⟩ := S.freezeG (d := .dic ks xs) (ho' := .frz od (.dK (ks.zip vs))) (H' := upd H a (.frz od (.dK (ks.zip vs)))) r s e h1 h2 h3 h4 h5 (by trivial) upd_same (fun c hc => upd_ne hc) trivial fun m => by
          simp only [Rep]
          exact ⟨a, vs, rfl, ⟨od, upd_same⟩, l, m _ _ x⟩
        exact ⟨w', _, M, s', S', r', PostS.wle p l'⟩
      | ldic ks xs => cases hd
      | ins c fs => cases hd
      | exc c fs => cases hd
      | kd ks xs => cases hd
    · exact p.elim
  · exact .inl ⟨w, en, M, s, S, r, p⟩
end
end DL
namespace DL
open PySem PySem.Spec PyProof.Rows L2
abbrev CF := List D → Store → Out D
def SpD (K : PySem.W.Frag) (ct : CT) (f : CF) : Sp := fun vs H Q E => ∃ w M ds, RepL K w ds vs ∧ Rl K ct w M H ∧ Post (f ds M)
  (fun d M' => ∀ w' v H', Step w H w' H' → Rl K ct w' M' H' → Rep K w' d v → Q v H')
  (fun c fs M' => ∀ w' cls dx H', Step w H w' H' → Rl K ct w' M' H' → ExV K ct w' c fs cls dx H' → E cls dx H')
def mkF (n N : Nat) (body : CS) : CF := fun ds M => if ds.length = n then match body (ds.map (fun d => some (.val d)) ++ List.replicate (N - n) none) M with
    | .ok (.ret d) M' => .ok d M'
    | .ok (.next _) M' => .ok .non M'
    | .ok (.exc c fs _) M' => .exc c fs M'
    | _ => .err
  else .err
structure Cz (X : Cx) (ct : CT) (b : Base) (W : WX) (k : Nat) : Prop where
  tk : Takes X W
  hp : PassesOwn (model X.prog X.w) X.A X.env X.xe
  hc : X.calm = true
  hN : X.N.Nodup
  hb : b.Ok X.K
  hr : Room k X.A
theorem Cz.hu {X : Cx} {ct : CT} {b : Base} {W : WX} {k : Nat} (C : Cz X ct b W k) : X.A.units + 64 < cLine := C.hr.units
section
variable {P : Program} {w : World} {K : PySem.W.Frag} {mg : Str → Option Value} {base : Heap} {ct : CT}
theorem start_sl {b : Base} {wd : Wd} {H : Hp} : ∀ {ds : List D} {vs : List V} {N : Nat}, RepL K wd ds vs → ds.length ≤ N →
    Sl K ct b wd (ds.map (fun d => some (Slot.val d)) ++ List.replicate (N - ds.length) none) (vs.map some ++ List.replicate (N - vs.length) none) H := fun {ds vs N} h hn => by
  have hl := h.length
  have ow : ∀ (i : Nat) (o : MO), (ds.map (fun d => some (Slot.val d)) ++ List.replicate (N - ds.length) none)[i]? ≠ some (some (.own o)) := fun i o e => by
    by_cases hi : i < ds.length
    · rw [List.getElem?_append_left (by simpa using hi), List.getElem?_map] at e
      rw [List.getElem?_eq_getElem hi] at e
      cases e
    · rw [List.getElem?_append_right (by simpa using hi), List.getElem?_replicate] at e
      split at e <;> cases e
  refine ⟨by simp [hl], fun i d e => ?_, fun i o e => absurd e (ow i o), fun i j o o' _ e => absurd e (ow i o)⟩
  by_cases hi : i < ds.length
  · rw [List.getElem?_append_left (by simpa using hi), List.getElem?_map, List.getElem?_eq_getElem hi] at e
    have e' : ds[i] = d := by simpa using e
    obtain ⟨v, h1, h2⟩ := h.get (List.getElem?_eq_getElem hi)
    rw [e'] at h2
    refine ⟨v, ?_, h2⟩
    rw [List.getElem?_append_left (by simp; omega), List.getElem?_map, h1]
    rfl
  · rw [List.getElem?_append_right (by simpa using hi), List.getElem?_replicate] at e
    split at e <;> cases e
end
def eFn (cf : CF) (args : CA) : CE := fun en M => (args en M).bind fun ds M1 => cf ds M1
section
variable {X : Cx} {ct : CT} {b : Base} {W : WX} {e e1 e2 e3 : Expr} {pos : Pos} {es : List Expr} {st : Stmt} {sts : List Stmt} {f g : CS}
def goOn (o : Out Fl) (k : En → Store → Out Fl) : Out Fl := match o with
  | .ok (.next en2) M2 => k en2 M2
  | .ok (.cont en2) M2 => k en2 M2
  | .ok (.brk en2) M2 => .ok (.next en2) M2
  | o => o
@[simp] theorem goOn_next (en : En) (M : Store) (k : En → Store → Out Fl) : goOn (.ok (.next en) M) k = k en M := rfl
@[simp] theorem goOn_cont (en : En) (M : Store) (k : En → Store → Out Fl) : goOn (.ok (.cont en) M) k = k en M := rfl
@[simp] theorem goOn_brk (en : En) (M : Store) (k : En → Store → Out Fl) : goOn (.ok (.brk en) M) k = .ok (.next en) M := rfl
@[simp] theorem goOn_ret (d : D) (M : Store) (k : En → Store → Out Fl) : goOn (.ok (.ret d) M) k = .ok (.ret d) M := rfl
@[simp] theorem goOn_exc (c : Str) (fs : List (Str × D)) (en : En) (M : Store) (k : En → Store → Out Fl) : goOn (.ok (.exc c fs en) M) k = .ok (.exc c fs en) M := rfl
open Classical in
theorem PostS.goOn {w : Wd} {o : Out Fl} {k : En → Store → Out Fl} {D : Ends} {N : L2.St → Hp → Prop} (h : PostS X ct b W w (goOn o k) D)
    (hN : ∀ en2 M2 w', PostS X ct b W w' (k en2 M2) D → ∀ σ' H', Step b.w b.H w' H' → Wle w w' → Sl X.K ct b w' en2 σ' H' → Rl X.K ct w' M2 H' → N σ' H') : PostS X ct b W w o { D with nx := N, ct := N, bk := D.nx } := by
  cases o with
  | ok r M' =>
    cases r with
    | next en2 => exact fun w' σ' H' s l S r => hN en2 M' w' (PostS.wle h l) σ' H' s l S r
    | cont en2 => exact fun w' σ' H' s l S r => hN en2 M' w' (PostS.wle h l) σ' H' s l S r
    | brk en2 => exact h
    | ret d => exact h
    | exc c fs en => exact h
  | exc c fs M => exact h
  | err => exact h
end
end DL
namespace DL
open PySem PySem.Spec PyProof.Rows L2
inductive Tg where
  | name (i : Nat) | tup (ts : List Tg)
mutual
def Tg.put : Tg → D → En → Option En
  | .name i, x, en => some (en.set i (some (.val x)))
  | .tup ts, x, en => match x with
    | .tup xs => Tg.puts ts xs en
    | _ => none
def Tg.puts : List Tg → List D → En → Option En
  | [], [], en => some en
  | t :: ts, x :: xs, en => (t.put x en).bind fun en' => Tg.puts ts xs en'
  | [], _ :: _, _ => none
  | _ :: _, [], _ => none
end
mutual
def Tg.ixs : Tg → List Nat
  | .name i => [i]
  | .tup ts => Tg.ixss ts
def Tg.ixss : List Tg → List Nat
  | [] => []
  | t :: ts => t.ixs ++ Tg.ixss ts
end
def But (l : List Nat) (σ σ' : L2.St) : Prop := σ'.length = σ.length ∧ ∀ j, j ∉ l → σ'[j]? = σ[j]?
abbrev RR := PySem.W.Frag → Wd → Hp → D → V → Prop
def RS : RR := fun K w _ d v => Rep K w d v
def RW : RR := fun K w H d v => ∃ ds T vs, d = .tup ds ∧ v = .ref T ∧ SqT K H T vs ∧ RepL K w ds vs
section
variable (X : Cx) (ct : CT) (b : Base)
def TGD (R : RR) (t : Tg) : TG := fun v σ H Q => ∃ w en M d en', Sl X.K ct b w en σ H ∧ Rl X.K ct w M H ∧ R X.K w H d v ∧ t.put d en = some en' ∧ ∀ σ', Sl X.K ct b w en' σ' H → But t.ixs σ σ' → Q σ' H
def TGsD (t : List Tg) : TGs := fun v σ H Q => ∃ w en M d en', Sl X.K ct b w en σ H ∧ Rl X.K ct w M H ∧ RepL X.K w d v ∧ Tg.puts t d en = some en' ∧ ∀ σ', Sl X.K ct b w en' σ' H → But (Tg.ixss t) σ σ' → Q σ' H
abbrev PGD (t : Tg) (e : Expr) : Prop := PG X e (TGD X ct b RS t)
abbrev PGW (t : Tg) (e : Expr) : Prop := PG X e (TGD X ct b RW t)
abbrev PGsD (t : List Tg) (es : List Expr) : Prop := PGs X es (TGsD X ct b t)
end
theorem PG.wk {X : Cx} {e : Expr} {t t' : TG} (h : PG X e t) (m : ∀ v σ H Q, t' v σ H Q → t v σ H Q) : PG X e t' := ⟨fun pins s σ H v u Q I r q => h.run pins s σ H v u Q I r (m v σ H Q q)⟩
theorem PGs.wk {X : Cx} {e : List Expr} {t t' : TGs} (h : PGs X e t) (m : ∀ v σ H Q, t' v σ H Q → t v σ H Q) : PGs X e t' := ⟨fun pins s σ H v u Q I r q => h.run pins s σ H v u Q I r (m v σ H Q q)⟩
section
variable {X : Cx} {ct : CT} {b : Base} {W : WX} {e e1 e2 e3 : Expr} {pos : Pos} {es : List Expr}
theorem pgd_name {i : Nat} {x : Str} (hN : X.N.Nodup) (hi : X.N[i]? = some x := by rfl) (hx : Loc X.env.scope x := by first | exact Or.inl rfl | exact Or.inr rfl) (hf : X.fn x = true ∨ X.env.scope.names.lookup x = some .local := by first | exact .inl rfl | exact .inr rfl) :
    PGD X ct b (.name i) (.Name x pos) := PG.wk (pg_name (i := i) hN hi hx hf) fun v σ H Q h => by
  obtain ⟨w, en, M, d, en', S, rl, r, e, k⟩ := h
  simp only [Tg.put, Option.some.injEq] at e
  subst e
  refine k _ (S.setv i r) ⟨List.length_set, fun j hj => ?_⟩
  simp only [Tg.ixs, List.mem_singleton] at hj
  exact List.getElem?_set_ne (Ne.symm hj)
theorem pgsd_nil : PGsD X ct b [] [] := PGs.wk pgs_nil fun v σ H Q h => by
  obtain ⟨w, en, M, d, en', S, rl, r, e, k⟩ := h
  cases d with
  | nil =>
    rw [RepL.nil_iff] at r
    simp only [Tg.puts, Option.some.injEq] at e
    subst e
    exact ⟨r, k _ S ⟨rfl, fun _ _ => rfl⟩⟩
  | cons _ _ => simp only [Tg.puts] at e; cases e
theorem pgsd_cons {t : Tg} {ts : List Tg} (h1 : PGD X ct b t e) (h2 : PGsD X ct b ts es) (hs : (assignEach (e :: es) X.env).map (·.2) = assign e X.env :: (assignEach es X.env).map (·.2) := by rfl) : PGsD X ct b (t :: ts) (e :: es) := PGs.wk (pgs_cons h1 h2 hs) fun v σ H Q h => by
  obtain ⟨w, en, M, d, en', S, rl, r, e, k⟩ := h
  cases d with
  | nil => simp only [Tg.puts] at e; cases e
  | cons d ds =>
    rw [RepL.cons_iff] at r
    obtain ⟨v1, r1, rfl, x1, x2⟩ := r
    simp only [Tg.puts] at e
    obtain ⟨en1, e1, e⟩ := Option.bind_eq_some_iff.mp e
    refine ⟨v1, r1, rfl, w, en, M, d, en1, S, rl, x1, e1, fun σ1 S1 b1 => ?_⟩
    refine ⟨w, en1, M, ds, en', S1, rl, x2, e, fun σ2 S2 b2 => k σ2 S2 ⟨b2.1.trans b1.1, fun j hj => ?_⟩⟩
    simp only [Tg.ixss, List.mem_append, not_or] at hj
    exact (b2.2 j hj.2).trans (b1.2 j hj.1)
theorem puts_len : ∀ (ts : List Tg) (ds : List D) (en en' : En), Tg.puts ts ds en = some en' → ts.length = ds.length
  | [], [], _, _, _ => rfl
  | [], _ :: _, _, _, e => by simp only [Tg.puts] at e; cases e
  | _ :: _, [], _, _, e => by simp only [Tg.puts] at e; cases e
  | t :: ts, d :: ds, en, en', e => by
    simp only [Tg.puts] at e
    obtain ⟨en1, e1, e⟩ := Option.bind_eq_some_iff.mp e
    rw [List.length_cons, List.length_cons, puts_len ts ds en1 en' e]
theorem pgd_tup {ts : List Tg} {k : Nat} (hc : X.calm = true) (h : PGsD X ct b ts es) (hn : (assignEach es X.env).length = ts.length := by rfl) (hst : (assignEach es X.env).findIdx? (·.1) = none := by rfl) : PGD X ct b (.tup ts) (.Tuple es k pos) :=
  PG.wk (pg_tup (n := ts.length) hc h hn hst) fun v σ H Q hh => by
    obtain ⟨w, en, M, d, en', S, rl, r, e, k⟩ := hh
    have r : Rep X.K w d v := r
    cases d with
    | tup ds =>
      simp only [Rep] at r
      obtain ⟨a, vs, rfl, h1, h2⟩ := r
      simp only [Tg.put] at e
      refine ⟨a, vs, rfl, rl.sub.sqt h1, ?_, w, en, M, ds, en', S, rl, h2, e, fun σ' S' b' => k σ' S' b'⟩
      rw [← h2.length]
      exact (puts_len ts ds en en' e).symm
    | _ => simp only [Tg.put] at e; cases e
theorem pgw_tup {ts : List Tg} {k : Nat} (hc : X.calm = true) (h : PGsD X ct b ts es) (hn : (assignEach es X.env).length = ts.length := by rfl) (hst : (assignEach es X.env).findIdx? (·.1) = none := by rfl) : PGW X ct b (.tup ts) (.Tuple es k pos) :=
  PG.wk (pg_tup (n := ts.length) hc h hn hst) fun v σ H Q hh => by
    obtain ⟨w, en, M, d, en', S, rl, r, e, k⟩ := hh
    obtain ⟨ds, T, vs, rfl, rfl, h1, h2⟩ := r
    simp only [Tg.put] at e
    refine ⟨T, vs, rfl, h1, ?_, w, en, M, ds, en', S, rl, h2, e, fun σ' S' b' => k σ' S' b'⟩
    rw [← h2.length]
    exact (puts_len ts ds en en' e).symm
def asgG (t : Tg) (f : CE) : CS := fun en M => thenS (f en M) en fun d M' => match t.put d en with
  | some en' => .ok (.next en') M'
  | none => .err
theorem psd_asgG {t : Tg} {te : CE} {tg : Expr} (he : PD X ct b W te e) (hg : PGD X ct b t tg) (hs : swapsWithSole [tg] e pos.line X.env = pure false := by rfl) (hw : swappedStores [tg] e X.env = pure none := by rfl)
    (h1 : (assignEach [tg] X.env).map (·.2) = [assign tg X.env] := by rfl) : PSD X ct b W (asgG t te) (.Assign [tg] e pos) := PS.wk (ps_asg he hg hs hw h1) fun D σ H h => by
  obtain ⟨w, en, M, s, S, r, p⟩ := h
  refine ThenS.go (Q := fun x H1 => TGD X ct b RS t x σ H1 D.nx) s S r p fun d M' w' v H' q s' S' r' x => ?_
  split at q
  · rename_i en' e
    exact ⟨w', en, M', d, en', S', r', x, e, fun σ' S2 _ => q w' σ' H' s' (.refl _) S2 r'⟩
  · exact q.elim
def guards : List (D × D) → Store → Prop
  | [], _ => True
  | (h, v) :: r, M => vwD M h = some v ∧ guards r M
structure WkD (R : RR) (K : PySem.W.Frag) (ct : CT) (J : It) (w : Wd) (xs : List D) (g : List (D × D)) : Prop where
  ex : ∃ (G : Hp → Prop) (Y : Nat → Hp → V → Hp → Prop), Walk J xs.length G Y ∧ (∀ w' M H, Wle w w' → Rl K ct w' M H → guards g M → G H) ∧
    ∀ (i : Nat) w' M H x H', i < xs.length → Wle w w' → Rl K ct w' M H → guards g M → Y i H x H' → ∃ w2 d, xs[i]? = some d ∧ Step w' H w2 H' ∧ Rl K ct w2 M H' ∧ R K w2 H' d x
abbrev CI := En → Store → Out (List D × List (D × D))
def TID (RX : RR) (X : Cx) (ct : CT) (b : Base) (W : WX) (f : CI) : TI := fun σ H R => ∃ w en M, Sl X.K ct b w en σ H ∧ Rl X.K ct w M H ∧ Post (f en M)
  (fun p M' => ∀ w' J H', Step w H w' H' → Rl X.K ct w' M' H' → WkD RX X.K ct J w' p.1 p.2 → R J H')
  (fun c fs M' => ∀ w' cls dx H', Step w H w' H' → Sl X.K ct b w' en σ H' → Rl X.K ct w' M' H' → ExV X.K ct w' c fs cls dx H' → W cls dx σ H')
abbrev PID (X : Cx) (ct : CT) (b : Base) (W : WX) (f : CI) (tg e : Expr) : Prop := PI X tg e (TID RS X ct b W f)
abbrev PIW (X : Cx) (ct : CT) (b : Base) (W : WX) (f : CI) (tg e : Expr) : Prop := PI X tg e (TID RW X ct b W f)
def gdD (d v : D) : List (D × D) := match d with
  | .ref _ => [(d, v)]
  | _ => []
def signsD (z : Str) : List D := z.cps.toList.map fun c => .str ⟨#[c]⟩
def itemsD : D → Option (List D)
  | .lst xs => some xs
  | .tup xs => some xs
  | .scr ns => some (ns.map D.int)
  | .str z => some (signsD z)
  | _ => none
def iSeq (f : CE) : CI := fun en M => (f en M).bind fun d M1 => ofO ((vwD M1 d).bind fun v => (itemsD v).map fun xs => (xs, gdD d v)) M1
theorem wk_listG {K : PySem.W.Frag} {a : Addr} {n : Nat} : Walk (Itl K a) n (fun H => ∃ vs, H a = some (.lst vs) ∧ vs.length = n) (fun i H x H' => H' = H ∧ ∃ vs, H a = some (.lst vs) ∧ vs[i]? = some x) := by
  refine ⟨fun i H hi q => ?_, fun H q => ?_, fun i H x H' hi q y => ?_⟩
  · obtain ⟨vs, h1, h2⟩ := q
    exact ⟨vs, vs[i]'(by omega), SqL.of h1, by simp [h2, hi]⟩
  · obtain ⟨vs, h1, h2⟩ := q
    exact ⟨vs, SqL.of h1, by omega⟩
  · obtain ⟨vs, h1, h2⟩ := q
    exact ⟨y.1, vs, h1, y.2 vs (SqL.of h1)⟩
theorem view_list {w w' : Wd} {M : Store} {H : Hp} {d : D} {xs : List D} {a : Addr} (hd : Rep X.K w d (.ref a)) (l : Wle w w') (rl : Rl X.K ct w' M H) (hv : vwD M d = some (.lst xs)) : ∃ vs, H a = some (.lst vs) ∧ RepL X.K w' xs vs := by
  obtain ⟨a', vs, e, h1, h2⟩ := vwD_ok rl (l.rep hd) hv
  cases e
  exact ⟨vs, h1, h2⟩
theorem gd_view {d v : D} {M M' : Store} (hv : vwD M d = some v) (g : guards (gdD d v) M') : vwD M' d = some v := by
  cases d with
  | ref n => exact g.1
  | _ => exact hv
theorem wkd_list {w : Wd} {d : D} {xs : List D} {a : Addr} {M : Store} (hd : Rep X.K w d (.ref a)) (hv : vwD M d = some (.lst xs)) : WkD RS X.K ct (Itl X.K a) w xs (gdD d (.lst xs)) := by
  refine ⟨_, _, wk_listG (K := X.K) (a := a) (n := xs.length), fun w' M' H' l rl g => ?_, fun i w' M' H' x H2 hi l rl g y => ?_⟩
  · obtain ⟨vs, h1, h2⟩ := view_list hd l rl (gd_view hv g)
    exact ⟨vs, h1, h2.length.symm⟩
  · obtain ⟨rfl, vs', q1, q2⟩ := y
    obtain ⟨vs, h1, h2⟩ := view_list hd l rl (gd_view hv g)
    rw [h1] at q1
    cases q1
    obtain ⟨d', e1, e2⟩ := h2.get' q2
    exact ⟨w', d', e1, Step.refl _ _, rl, e2⟩
theorem wkd_tup {w : Wd} {xs : List D} {a : Addr} {vs : List V} (h1 : SqT X.K w.F a vs) (h2 : RepL X.K w xs vs) (g : List (D × D)) : WkD RS X.K ct (Itt X.K a) w xs g := by
  refine ⟨fun H => SqT X.K H a vs, YAt vs, ?_, fun w' M' H' l rl _ => rl.sub.sqt (Same.sqt l.F h1), fun i w' M' H' x H2 hi l rl _ y => ?_⟩
  · rw [h2.length]
    exact walk_tup
  · obtain ⟨rfl, q2⟩ := y
    obtain ⟨d', e1, e2⟩ := h2.get' q2
    exact ⟨w', d', e1, Step.refl _ _, rl, l.rep e2⟩
theorem wkd_scr {w : Wd} {ns : List Int} {a : Addr} (h1 : (∃ o, w.F a = some (.frz o (.lst (ns.map V.int)))) ∨ SqL X.K (fun _ => none) a (ns.map V.int)) (g : List (D × D)) : WkD RS X.K ct (Itl X.K a) w (ns.map D.int) g := by
  refine ⟨fun H => SqL X.K H a (ns.map V.int), YAt (ns.map V.int), ?_, fun w' M' H' l rl _ => scr_sql rl (h1.imp (fun ⟨o, e⟩ => ⟨o, l.F _ _ e⟩) id), fun i w' M' H' x H2 hi l rl _ y => ?_⟩
  · have : (ns.map D.int).length = (ns.map V.int).length := by rw [List.length_map, List.length_map]
    rw [this]
    exact walk_list
  · obtain ⟨rfl, q2⟩ := y
    obtain ⟨d', e1, e2⟩ := (ints_repL (K := X.K) (w := w') ns).get' q2
    exact ⟨w', d', e1, Step.refl _ _, rl, e2⟩
theorem wkd_str {w : Wd} {z : Str} (g : List (D × D)) : WkD RS X.K ct (Its z) w (signsD z) g := by
  refine ⟨fun _ => True, fun i H v H' => H' = H ∧ ∃ c, z.cps[i]? = some c ∧ v = .str ⟨#[c]⟩, ?_, fun _ _ _ _ _ _ => trivial, fun i w' M' H' x H2 hi l rl _ y => ?_⟩
  · have : (signsD z).length = z.cps.size := by simp [signsD]
    rw [this]
    exact walk_str
  · obtain ⟨rfl, c, e1, rfl⟩ := y
    refine ⟨w', .str ⟨#[c]⟩, ?_, Step.refl _ _, rl, by simp only [RS, Rep]⟩
    simp only [signsD, List.getElem?_map, Array.getElem?_toList, e1, Option.map_some]
theorem pid_seq {f : CE} {tg : Expr} (h : PD X ct b W f e) : PID X ct b W (iSeq f) tg e := by
  refine ⟨fun pins s σ H R I hw => ?_⟩
  obtain ⟨w, en, M, S, rl, p⟩ := hw
  unfold iSeq at p
  have p' := Post.bind p
  cases q : f en M with
  | err => rw [q] at p'; exact p'.elim
  | exc c fs M1 =>
    rw [q] at p'
    refine (pi_list (tg := tg) h).run pins s σ H R I ⟨w, en, M, S, rl, ?_⟩
    rw [q]
    exact p'
  | ok d M1 =>
    rw [q] at p'
    obtain ⟨⟨xs, g⟩, e0, k⟩ := ofO_post (show Post (ofO ((vwD M1 d).bind fun v => (itemsD v).map fun xs => (xs, gdD d v)) M1) _ _ from p')
    obtain ⟨v, ev, e0⟩ := Option.bind_eq_some_iff.mp e0
    obtain ⟨xs', ei, e0⟩ := Option.map_eq_some_iff.mp e0
    cases e0
    cases v with
    | lst ys =>
      cases ei
      refine (pi_list (tg := tg) h).run pins s σ H R I ⟨w, en, M, S, rl, ?_⟩
      rw [q]
      intro w1 v1 H1 s1 r1 x1
      obtain ⟨a, vs, rfl, h1, h2⟩ := vwD_ok r1 x1 ev
      exact ⟨a, rfl, ⟨vs, SqL.of h1⟩, k w1 _ H1 s1 r1 (wkd_list x1 ev)⟩
    | tup ys =>
      cases ei
      refine (pi_tup (tg := tg) h).run pins s σ H R I ⟨w, en, M, S, rl, ?_⟩
      rw [q]
      intro w1 v1 H1 s1 r1 x1
      obtain ⟨h0, a, vs, rfl, h1, h2⟩ := vwD_ok r1 x1 ev
      simp only [Rep] at h0
      obtain ⟨a', vs', e, h1', h2'⟩ := h0
      cases e
      exact ⟨a, rfl, ⟨vs, h1⟩, k w1 _ H1 s1 r1 (wkd_tup h1' h2' _)⟩
    | scr ns =>
      cases ei
      refine (pi_list (tg := tg) h).run pins s σ H R I ⟨w, en, M, S, rl, ?_⟩
      rw [q]
      intro w1 v1 H1 s1 r1 x1
      obtain ⟨h0, a, rfl, h1⟩ := vwD_ok r1 x1 ev
      simp only [Rep] at h0
      obtain ⟨a', e, h1'⟩ := h0
      cases e
      exact ⟨a, rfl, ⟨_, h1⟩, k w1 _ H1 s1 r1 (wkd_scr h1' _)⟩
    | str z =>
      cases ei
      refine (pi_str (tg := tg) h).run pins s σ H R I ⟨w, en, M, S, rl, ?_⟩
      rw [q]
      intro w1 v1 H1 s1 r1 x1
      cases vwD_ok r1 x1 ev
      exact ⟨z, rfl, k w1 _ H1 s1 r1 (wkd_str _)⟩
    | _ => cases ei
def rngD (lo : Int) (n : Nat) : List D := (List.range n).map fun (i : Nat) => .int (lo + (i : Int))
def iRange1 (f : CA) : CI := fun en M => (f en M).bind fun ds M1 => match ds with
  | [.int j] => if -(2 ^ 62) ≤ j ∧ j < 2 ^ 62 then .ok (rngD 0 j.toNat, []) M1 else .err
  | _ => .err
theorem wkd_rng {w : Wd} {lo : Int} {n : Nat} : WkD RS X.K ct (Itr lo n) w (rngD lo n) [] := by
  refine ⟨fun _ => True, YFn fun i => .int (lo + i), ?_, fun _ _ _ _ _ _ => trivial, fun i w' M' H' x H2 hi l rl _ y => ?_⟩
  · have : (rngD lo n).length = n := by simp [rngD]
    rw [this]
    exact walk_range
  · obtain ⟨rfl, rfl⟩ := y
    have hi' : i < n := by simpa [rngD] using hi
    refine ⟨w', .int (lo + i), ?_, Step.refl _ _, rl, by simp only [RS, Rep]⟩
    simp [rngD, hi']
theorem pid_range1 {f : CA} {tg : Expr} {p : Pos} (hm : X.mg "range" = none) (ha : PAD X ct b W f [e1]) (hg : Gl X "range" := by rfl) (hs : starEach [e1] X.env = [(false, eval e1 X.env)] := by rfl) : PID X ct b W (iRange1 f) tg (.Call (.Name "range" p) [e1] [] pos) := by
  refine ⟨fun pins s σ H R I hw => (pi_range1 (tg := tg) hg hm ha hs).run pins s σ H R I ?_⟩
  obtain ⟨w, en, M, S, rl, p⟩ := hw
  refine ⟨w, en, M, S, rl, (Post.bind p).imp (fun ds M1 q w1 vs H1 s1 r1 x1 => ?_) fun _ _ _ q => q⟩
  have hl := x1.length
  split at q
  · split at q
    · rename_i j hj
      have := intsD_rep (ns := [j]) x1 rfl
      subst this
      exact ⟨j, rfl, hj.1, hj.2, q w1 _ H1 s1 r1 wkd_rng⟩
    · exact q.elim
  · exact q.elim
end
end DL
namespace DL
open PySem PySem.Spec PyProof.Rows L2
open Classical in
noncomputable def gOk (g : List (D × D)) (M : Store) : Bool := decide (guards g M)
theorem gOk_iff {g : List (D × D)} {M : Store} : gOk g M = true ↔ guards g M := by simp [gOk]
@[simp] theorem gOk_nil (M : Store) : gOk [] M = true := gOk_iff.mpr trivial
noncomputable def loopF (t : Tg) (g : List (D × D)) (body : CS) : List D → CS
  | [] => fun en M => if gOk g M = true then .ok (.next en) M else .err
  | x :: xs => fun en M => if gOk g M = true then (match t.put x en with
    | some en1 => goOn (body en1 M) (loopF t g body xs)
    | none => .err) else .err
def thenI (o : Out (List D × List (D × D))) (en : En) (k : (List D × List (D × D)) → Store → Out Fl) : Out Fl := match o with
  | .ok d M => k d M
  | .exc c fs M => .ok (.exc c fs en) M
  | .err => .err
@[simp] theorem thenI_ok (d : List D × List (D × D)) (M : Store) (en : En) (k : (List D × List (D × D)) → Store → Out Fl) : thenI (.ok d M) en k = k d M := rfl
noncomputable def forS (ci : CI) (t : Tg) (body : CS) : CS := fun en M => thenI (ci en M) en fun p M1 => loopF t p.2 body p.1 en M1
section
variable {X : Cx} {ct : CT} {b : Base} {W : WX} {e e1 e2 e3 : Expr} {pos : Pos} {es : List Expr}
theorem psd_for {R : RR} {ci : CI} {t : Tg} {body : CS} {tg : Expr} {bs : List Stmt} (hp : PassesOwn (model X.prog X.w) X.A X.env X.xe) (hc : X.calm = true) (hi : PI X tg e (TID R X ct b W ci)) (hg : PG X tg (TGD X ct b R t)) (hb : PSsD X ct b W body bs)
    (hs : ∀ x, foldedSetIterable e X.env x = pure x := by intro _; rfl) : PSD X ct b W (forS ci t body) (.For tg e bs [] pos) := PS.wk (ps_for hp hc hi hg hb hs) fun D σ H h => by
  obtain ⟨w, en, M, s, S, rl, p⟩ := h
  unfold forS at p
  refine ⟨w, en, M, S, rl, ?_⟩
  cases q : ci en M with
  | err => rw [q] at p; exact p.elim
  | exc c fs M1 =>
    rw [q] at p
    intro w' cls dx H' s' S' r' x
    exact p w' cls dx σ H' (s.trans s') s'.le S' r' x
  | ok p2 M1 =>
    rw [q] at p
    obtain ⟨xs, g⟩ := p2
    intro w1 J H1 s1 r1 wk
    obtain ⟨G, Y, wl, hG, hY⟩ := wk.ex
    have p1 : PostS X ct b W w1 (loopF t g body xs en M1) D := p.wle s1.le
    refine for_it wl (fun i σ H => ∃ w en M, Step b.w b.H w H ∧ Sl X.K ct b w en σ H ∧ Rl X.K ct w M H ∧ Wle w1 w ∧ PostS X ct b W w (loopF t g body (xs.drop i) en M) D)
      ⟨w1, en, M1, s.trans s1, S.step s1, r1, Wle.refl _, p1⟩ (fun i σ H hi hh => ?_) (fun i x σ H H' hi hh y => ?_) fun σ H hh => ?_
    · obtain ⟨w, en, M, s, S, rl, le, p⟩ := hh
      refine hG w M H le rl ?_
      by_cases hlt : i < xs.length
      · rw [List.drop_eq_getElem_cons hlt] at p
        unfold loopF at p
        split at p
        · rename_i hg
          exact gOk_iff.mp hg
        · exact p.elim
      · rw [List.drop_eq_nil_of_le (by omega)] at p
        unfold loopF at p
        split at p
        · rename_i hg
          exact gOk_iff.mp hg
        · exact p.elim
    · obtain ⟨w, en, M, s, S, rl, le, p⟩ := hh
      rw [List.drop_eq_getElem_cons hi] at p
      unfold loopF at p
      split at p
      case isFalse => exact p.elim
      rename_i hg
      obtain ⟨w2, d, e1, s2, r2, x2⟩ := hY i w M H x H' hi le rl (gOk_iff.mp hg) y
      rw [List.getElem?_eq_getElem hi] at e1
      cases e1
      split at p
      case h_2 => exact p.elim
      rename_i en1 e1
      refine ⟨w2, en, M, xs[i], en1, S.step s2, r2, x2, e1, fun σ' S3 _ => ?_⟩
      refine ⟨w2, en1, M, s.trans s2, S3, r2, PostS.goOn (p.wle s2.le) fun en2 M2 w3 q2 σ3 H3 s3 l3 S4 r3 => ⟨w3, en2, M2, s3, S4, r3, (le.trans s2.le).trans l3, q2⟩⟩
    · obtain ⟨w, en, M, s, S, rl, le, p⟩ := hh
      rw [List.drop_eq_nil_of_le (Nat.le_refl _)] at p
      unfold loopF at p
      split at p
      · exact p w σ H s (.refl _) S rl
      · exact p.elim
def upd' (H : Hp) (p : Addr) : Hp := fun a => if a = p then none else H a
theorem upd'_self {H : Hp} {p : Addr} {o : HO} (h : H p = some o) : upd (upd' H p) p o = H := by
  funext a
  by_cases ha : a = p
  · subst ha
    rw [upd_same, h]
  · rw [upd_ne ha]
    exact if_neg ha
def Out.calm {α : Type} (o : Out α) : Out α := match o with
  | .ok a M => .ok a M
  | _ => .err
@[simp] theorem Out.calm_ok {α : Type} (a : α) (M : Store) : (Out.ok a M).calm = .ok a M := rfl
def wipeE (en : En) : List Nat → En
  | [] => en
  | v :: vs => (wipeE en vs).set v none
noncomputable def compL (t : Tg) (g : List (D × D)) (tt : CB) (te : CE) (en : En) : List D → Store → Out (List D)
  | [], M => if gOk g M = true then .ok [] M else .err
  | x :: xs, M => if gOk g M = true then (match t.put x en with
    | some en1 => (tt en1 M).calm.bind fun k M1 => if k = true then (te en1 M1).calm.bind fun d M2 => (compL t g tt te en xs M2).bind fun r M3 => .ok (d :: r) M3 else compL t g tt te en xs M1
    | none => .err) else .err
noncomputable def nComp (ci : CI) (t : Tg) (vs : List Nat) (tt : CB) (te : CE) : CN := fun en M => (ci en M).bind fun p M1 => if p.1.length ≤ sizeLine then (compL t p.2 tt te (wipeE en vs) p.1 M1).bind fun r M2 => .ok (.lst r) M2 else .err
theorem nComp_lst {ci : CI} {t : Tg} {vs : List Nat} {tt : CB} {te : CE} {en : En} {M : Store} {o : MO} {M' : Store} (e : nComp ci t vs tt te en M = .ok o M') : ∃ xs, o = .lst xs := by
  unfold nComp at e
  cases h1 : ci en M with
  | ok p M1 =>
    rw [h1, Out.bind_ok] at e
    split at e
    · cases h2 : compL t p.2 tt te (wipeE en vs) p.1 M1 with
      | ok r M2 => rw [h2] at e; cases e; exact ⟨_, rfl⟩
      | exc c fs M2 => rw [h2] at e; cases e
      | err => rw [h2] at e; cases e
    · cases e
  | exc c fs M1 => rw [h1] at e; cases e
  | err => rw [h1] at e; cases e
abbrev W0 : WX := fun _ _ _ _ => False
theorem wipeE_length (en : En) : ∀ vs : List Nat, (wipeE en vs).length = en.length
  | [] => rfl
  | v :: vs => by unfold wipeE; rw [List.length_set, wipeE_length en vs]
theorem wipe_get (σ : L2.St) (j : Nat) : ∀ vs : List Nat, (wipe σ vs)[j]? = if j ∈ vs then (if j < σ.length then some none else none) else σ[j]?
  | [] => by simp [wipe]
  | v :: vs => by
    unfold wipe
    rw [List.getElem?_set, wipe_length, wipe_get σ j vs]
    by_cases h : v = j
    · subst h
      simp
    · have h' : ¬ j = v := fun z => h z.symm
      simp [h, h']
theorem wipeE_get (σ : En) (j : Nat) : ∀ vs : List Nat, (wipeE σ vs)[j]? = if j ∈ vs then (if j < σ.length then some none else none) else σ[j]?
  | [] => by simp [wipeE]
  | v :: vs => by
    unfold wipeE
    rw [List.getElem?_set, wipeE_length, wipeE_get σ j vs]
    by_cases h : v = j
    · subst h
      simp
    · have h' : ¬ j = v := fun z => h z.symm
      simp [h, h']
theorem Sl.wipe {K : PySem.W.Frag} {w : Wd} {en : En} {σ : L2.St} {H : Hp} (S : Sl K ct b w en σ H) (vs : List Nat) : Sl K ct b w (wipeE en vs) (wipe σ vs) H := by
  refine ⟨by rw [wipe_length, wipeE_length]; exact S.len, fun i d e => ?_, fun i o e => ?_, fun i j o o' hij e1 e2 => ?_⟩
  · rw [wipeE_get] at e
    split at e
    · split at e <;> cases e
    · rename_i hi
      rw [wipe_get, if_neg hi]
      exact S.val i d e
  · rw [wipeE_get] at e
    split at e
    · split at e <;> cases e
    · rename_i hi
      rw [wipe_get, if_neg hi]
      exact S.own i o e
  · rw [wipeE_get] at e1 e2
    split at e1
    · split at e1 <;> cases e1
    split at e2
    · split at e2 <;> cases e2
    rename_i h1 h2
    rw [wipe_get, if_neg h1, wipe_get, if_neg h2]
    exact S.sep i j o o' hij e1 e2
theorem But.wiped {l vs : List Nat} {σ σ2 : L2.St} (h : But l (wipe σ vs) σ2) (hl : ∀ j ∈ l, j ∈ vs) : wipe σ2 vs = wipe σ vs := by
  have hlen : σ2.length = σ.length := h.1.trans (wipe_length σ vs)
  refine List.ext_getElem? fun j => ?_
  rw [wipe_get, wipe_get, hlen]
  by_cases hj : j ∈ vs
  · rw [if_pos hj, if_pos hj]
  · rw [if_neg hj, if_neg hj]
    have := h.2 j fun z => hj (hl j z)
    rw [this, wipe_get, if_neg hj]
theorem Rl.out {K : PySem.W.Frag} {w : Wd} {M : Store} {H : Hp} (r : Rl K ct w M H) {p : Addr} (hF : w.F p = none) (hp : p ∉ w.ρ) (hN : ∀ o, H p = some o → NiceH o) : Rl K ct w M (upd' H p) := by
  refine ⟨fun b' u e => ?_, r.len, r.nd, fun n u e => ?_, r.nice, tabs_at r.tabs hN fun b hb => if_neg hb⟩
  · have : b' ≠ p := fun z => by rw [z, hF] at e; cases e
    rw [show upd' H p b' = H b' from if_neg this]
    exact r.sub _ _ e
  · obtain ⟨a, ho, h1, h2, h3, h4⟩ := r.mo n u e
    have : a ≠ p := fun z => hp (z ▸ List.mem_of_getElem? h1)
    exact ⟨a, ho, h1, h2, by rw [show upd' H p a = H a from if_neg this]; exact h3, h4⟩
theorem upd'_same_none {H : Hp} {p : Addr} {o : HO} (h : H p = none) : upd' (upd H p o) p = H := by
  funext a
  by_cases ha : a = p
  · subst ha
    rw [h]
    exact if_pos rfl
  · rw [show upd' (upd H p o) p a = upd H p o a from if_neg ha, upd_ne ha]
theorem upd'_upd {H : Hp} {p : Addr} {o : HO} : upd' (upd H p o) p = upd' H p := by
  funext a
  by_cases ha : a = p
  · subst ha
    rw [show upd' (upd H a o) a a = none from if_pos rfl, show upd' H a a = none from if_pos rfl]
  · rw [show upd' (upd H p o) p a = upd H p o a from if_neg ha, upd_ne ha, show upd' H p a = H a from if_neg ha]
theorem upd'_none {H : Hp} {p : Addr} : upd' H p p = none := if_pos rfl
theorem upd'_le {H : Hp} {p : Addr} : Same (upd' H p) H := fun b u e => by
  by_cases hb : b = p
  · subst hb
    rw [upd'_none] at e
    cases e
  · rwa [show upd' H p b = H b from if_neg hb] at e
theorem Step.out {w w' : Wd} {H H' : Hp} (s : Step w H w' H') (p : Addr) : Step w (upd' H p) w' (upd' H' p) := ⟨s.ρ, s.F, fun c u h1 ht h2 h3 => by
  have hc : c ≠ p := fun z => by rw [z, upd'_none] at h1; cases h1
  rw [show upd' H p c = H c from if_neg hc] at h1
  rw [show upd' H' p c = H' c from if_neg hc]
  exact s.fr c u h1 ht h2 h3⟩
theorem Rl.up {K : PySem.W.Frag} {w : Wd} {M : Store} {H H' : Hp} (r : Rl K ct w M H) (s : Same H H') : Rl K ct w M H' := by
  refine ⟨fun b' u e => (r.sub _ _ e).imp (fun z => s _ _ z) fun ⟨h1, ob, h2⟩ => ⟨h1, ob, s _ _ h2⟩, r.len, r.nd, fun n u e => ?_, r.nice, r.tabs.ext s⟩
  obtain ⟨a, ho, h1, h2, h3, h4⟩ := r.mo n u e
  exact ⟨a, ho, h1, h2, s _ _ h3, h4⟩
theorem Sl.up {K : PySem.W.Frag} {w : Wd} {en : En} {σ : L2.St} {H H' : Hp} (S : Sl K ct b w en σ H) (s : Same H H') : Sl K ct b w en σ H' := by
  refine ⟨S.len, S.val, fun i o e => ?_, S.sep⟩
  obtain ⟨a, ho, h1, h2, h3, h4, h5, h6⟩ := S.own i o e
  exact ⟨a, ho, h1, h2, h3, h4, s _ _ h5, h6⟩
theorem comp_wk {R : RR} {ci : CI} {t : Tg} {tt : CB} {te : CE} {vs : List Nat} {σ : L2.St} {H : Hp} {Q : VK} (hl' : ∀ j ∈ t.ixs, j ∈ vs) (h : TND X ct b W (nComp ci t vs tt te) σ H Q) : tLc (TID R X ct b W ci) (TGD X ct b R t) (TTD X ct b W0 tt) (TD X ct b W0 te) vs σ H Q := by
  obtain ⟨w, en, M, S, rl, p⟩ := h
  refine ⟨w, en, M, S, rl, (Post.bind p).imp (fun pr M1 q w1 J H1 s1 r1 wk D hD => ?_) fun _ _ _ q => q⟩
  obtain ⟨xs, g⟩ := pr
  split at q
  case isFalse => exact q.elim
  rename_i hsz
  obtain ⟨G, Y, wl, hG, hY⟩ := wk.ex
  have q := Post.bind q
  have S1 := (S.step s1).wipe vs
  refine lc_it wl (fun i Hn => ∃ w2 M acc accv, Step w1 H1 w2 (upd' Hn D) ∧ Rl X.K ct w2 M (upd' Hn D) ∧ Hn D = some (.lst accv) ∧ RepL X.K w2 acc accv ∧ acc.length ≤ i ∧
      Post (compL t g tt te (wipeE en vs) (xs.drop i) M) (fun r M2 => ∀ w' p ho H', Step w H w' H' → Rl X.K ct w' M2 H' → H' p = none → RepO X.K ct w' (.lst (acc ++ r)) ho → Q (.ref p) (upd H' p ho)) (fun _ _ _ => True)) ?_ ?_ ?_ ?_
  · refine ⟨w1, M1, [], [], ?_, ?_, upd_same, .nil, Nat.le_refl _, ?_⟩
    · rw [upd'_same_none hD]
      exact Step.refl _ _
    · rw [upd'_same_none hD]
      exact r1
    · exact q.imp (fun _ _ z => z) fun _ _ _ _ => trivial
  · rintro i Hn hi ⟨w2, M2, acc, accv, st, rn, hDn, ra, hacc, pp⟩
    refine hG w2 M2 Hn st.le (rn.up upd'_le) ?_
    by_cases hlt : i < xs.length
    · rw [List.drop_eq_getElem_cons hlt] at pp
      unfold compL at pp
      split at pp
      · rename_i hg
        exact gOk_iff.mp hg
      · exact pp.elim
    · rw [List.drop_eq_nil_of_le (by omega)] at pp
      unfold compL at pp
      split at pp
      · rename_i hg
        exact gOk_iff.mp hg
      · exact pp.elim
  · rintro i x Hn H2 hi ⟨w2, M2, acc, accv, st, rn, hDn, ra, hacc, pp⟩ y
    rw [List.drop_eq_getElem_cons hi] at pp
    unfold compL at pp
    split at pp
    case isFalse => exact pp.elim
    rename_i hgd
    have rn' := rn.up (upd'_le (H := Hn) (p := D))
    obtain ⟨w3, d, e1, s3, r3, x3⟩ := hY i w2 M2 Hn x H2 hi st.le rn' (gOk_iff.mp hgd) y
    rw [List.getElem?_eq_getElem hi] at e1
    cases e1
    split at pp
    case h_2 => exact pp.elim
    rename_i en1 e1
    have FD : w2.F D = none := rn.sub.free upd'_none
    have ND : D ∉ w2.ρ := rn.notin upd'_none
    have st3 : Step w1 H1 w3 (upd' H2 D) := st.trans (s3.out D)
    obtain ⟨hD3, FD3, ND3⟩ := s3.fr D _ hDn (fun _ z => nomatch z) FD ND
    refine ⟨w3, wipeE en vs, M2, xs[i], en1, (S1.step st3).up upd'_le, r3, x3, e1, fun σ2 S3 bt => ⟨bt.wiped hl', ?_⟩⟩
    have pp := Post.bind pp
    refine ⟨w3, en1, M2, S3, r3, ?_⟩
    cases qt : tt en1 M2 with
    | err => rw [qt] at pp; exact pp.elim
    | exc c fs M3 => rw [qt] at pp; exact pp.elim
    | ok k M3 =>
      rw [qt] at pp
      intro w4 H4 s4 r4
      obtain ⟨hD4, FD4, ND4⟩ := s4.fr D _ hD3 (fun _ z => nomatch z) FD3 ND3
      cases k with
      | false =>
        rw [if_neg Bool.false_ne_true]
        refine ⟨w4, M3, acc, accv, st3.trans (s4.out D), r4.out FD4 ND4 (fun o e => by rw [hD4] at e; cases e; trivial), hD4, s4.repL (s3.repL ra), by omega, ?_⟩
        exact pp
      | true =>
        rw [if_pos rfl]
        have pp := Post.bind (show Post ((te en1 M3).calm.bind _) _ _ from pp)
        refine ⟨w4, en1, M3, S3.step s4, r4, ?_⟩
        cases qe : te en1 M3 with
        | err => rw [qe] at pp; exact pp.elim
        | exc c fs M4 => rw [qe] at pp; exact pp.elim
        | ok d M4 =>
          rw [qe] at pp
          intro w5 yv H5 s5 r5 x5
          obtain ⟨hD5, FD5, ND5⟩ := s5.fr D _ hD4 (fun _ z => nomatch z) FD4 ND4
          have ra5 := s5.repL (s4.repL (s3.repL ra))
          refine ⟨accv, hD5, ?_, w5, M4, acc ++ [d], accv ++ [yv], ?_, ?_, upd_same, ra5.append (.one x5), ?_, ?_⟩
          · rw [← ra.length]
            omega
          · rw [upd'_upd]
            exact (st3.trans (s4.out D)).trans (s5.out D)
          · rw [upd'_upd]
            exact r5.out FD5 ND5 (fun o e => by rw [hD5] at e; cases e; trivial)
          · rw [List.length_append, List.length_singleton]
            omega
          · refine (Post.bind (show Post ((compL t g tt te (wipeE en vs) (xs.drop (i + 1)) M4).bind _) _ _ from pp)).imp (fun r M5 z => ?_) fun _ _ _ z => z
            have z' := z
            simp only [Post] at z'
            rw [List.append_assoc]
            exact z'
  · rintro Hn ⟨w2, M2, acc, accv, st, rn, hDn, ra, hacc, pp⟩
    rw [List.drop_eq_nil_of_le (Nat.le_refl _)] at pp
    unfold compL at pp
    split at pp
    case isFalse => exact pp.elim
    have := pp w2 D (.lst accv) (upd' Hn D) (s1.trans st) rn upd'_none ⟨accv, rfl, by rw [List.append_nil]; exact ra⟩
    rwa [upd'_self hDn] at this
theorem ixs_ok {t : Tg} {vs : List Nat} (hl : (t.ixs.all fun j => vs.contains j) = true) : ∀ j ∈ t.ixs, j ∈ vs := fun j hj => by
  have := List.all_eq_true.mp hl j hj
  simpa using this
theorem pn_comp {R : RR} {ci : CI} {t : Tg} {tt : CB} {te : CE} {elt tg iter : Expr} {ifs : List Expr} {scope : Scope} {own : List (Str × Nat)} (hc : X.calm = true) (hN : X.N.Nodup) (hi : PI X tg iter (TID R X ct b W ci))
    (hg : ∀ (s : Shared) (H : Hp) (C : Addr) (cl : List (Str × Addr)) (fp : List Addr), PG (X.blk s H scope (compEnvC scope cl C X.env) fp) tg (TGD X ct b R t))
    (ht : ∀ (s : Shared) (H : Hp) (C : Addr) (cl : List (Str × Addr)) (fp : List Addr), PTs (X.blk s H scope (compEnvC scope cl C X.env) fp) ifs (TTD X ct b W0 tt))
    (he : ∀ (s : Shared) (H : Hp) (C : Addr) (cl : List (Str × Addr)) (fp : List Addr), PD (X.blk s H scope (compEnvC scope cl C X.env) fp) ct b W0 te elt)
    (ok : blkC X.N X.env.scope scope own = true := by rfl) (hl : (t.ixs.all fun j => (own.map (·.2)).contains j) = true := by rfl) (hs : ∀ x, foldedSetIterable iter X.env x = pure x := by intro _; rfl) :
    PND X ct b W (nComp ci t (own.map (·.2)) tt te) (.ListComp elt [⟨tg, iter, ifs, 0⟩] scope pos) :=
  PE.wk (pe_lc (g := TGD X ct b R t) (te := TD X ct b W0 te) hc hN hi (blkOk_by ok) hg ht he hs) fun σ H Q h => comp_wk (ixs_ok hl) h
section
variable {R : RR} {ci : CI} {t : Tg} {tt : CB} {te : CE} {elt tg iter : Expr} {ifs : List Expr} {scope : Scope} {own : List (Str × Nat)} {i : Nat} {y : Str} {py spos : Pos}
theorem psd_setComp (hc : X.calm = true) (hN : X.N.Nodup) (hi : PI X tg iter (TID R X ct b W ci))
    (hg : ∀ (s : Shared) (H : Hp) (C : Addr) (cl : List (Str × Addr)) (fp : List Addr), PG (X.blk s H scope (compEnvC scope cl C X.env) fp) tg (TGD X ct b R t))
    (ht : ∀ (s : Shared) (H : Hp) (C : Addr) (cl : List (Str × Addr)) (fp : List Addr), PTs (X.blk s H scope (compEnvC scope cl C X.env) fp) ifs (TTD X ct b W0 tt))
    (he : ∀ (s : Shared) (H : Hp) (C : Addr) (cl : List (Str × Addr)) (fp : List Addr), PD (X.blk s H scope (compEnvC scope cl C X.env) fp) ct b W0 te elt)
    (ok : blkC X.N X.env.scope scope own = true := by rfl) (hl : (t.ixs.all fun j => (own.map (·.2)).contains j) = true := by rfl) (hy : X.N[i]? = some y := by rfl) (hyl : X.env.scope.names.lookup y = some .local := by rfl) (hk : X.env.scope.kind = .function := by rfl) (hln : (py.line == pos.line) = true := by rfl)
    (ha : (scope.names.any fun (n, k) => n == y && (k == .local || k == .cell)) = false := by rfl) (hs : ∀ x, foldedSetIterable iter X.env x = pure x := by intro _; rfl) :
    PSD X ct b W (asgS i (frz (nComp ci t (own.map (·.2)) tt te))) (.Assign [.Name y py] (.ListComp elt [⟨tg, iter, ifs, 0⟩] scope pos) spos) :=
  PS.wk (ps_setLc (i := i) (g := TGD X ct b R t) (te := TD X ct b W0 te) hc hN hy hyl (sw_true hk hyl hln ha) hi (blkOk_by ok) hg ht he hs) fun D σ H h => by
    obtain ⟨w, en, M, s, S, r, p⟩ := h
    exact comp_wk (ixs_ok hl) (TND.frz (fun en M o M' e => nComp_lst e) (ThenS.go (Q := fun x H1 => gName i x σ H1 D.nx) s S r p fun d M' w' v H' q s' S' r' x => q w' _ H' s' (.refl _) (S'.setv i x) r'))
end
def tYesD : CB := fun _ M => .ok true M
theorem ptsd_nil : PTs X [] (TTD X ct b W tYesD) := ⟨fun pins s σ H Q I h => by
  obtain ⟨w, en, M, S, r, p⟩ := h
  exact pts_nil.run pins s σ H Q I (p w H (Step.refl _ _) r)⟩
theorem ptsd_one {c : Expr} {tt : CB} (h : PTD X ct b W tt c) : PTs X [c] (TTD X ct b W tt) := pts_one h
theorem takesW0 : Takes X W0 := fun _ _ h => by
  obtain ⟨_, _, _, _, _, _, _, _, _, _, _, _, _, _, _, _, z⟩ := h
  exact z.elim
end
end DL
namespace DL
open PySem PySem.Spec PyProof.Rows L2
section
variable {X : Cx} {ct : CT} {b : Base} {W : WX} {e e1 e2 e3 o : Expr} {pos : Pos} {es : List Expr}
theorem Rl.off {K : PySem.W.Frag} {w : Wd} {M : Store} {H : Hp} (r : Rl K ct w M H) {p : Addr} {ho : HO} (hF : w.F p = none) (hp : p ∉ w.ρ) (hN : ∀ o, H p = some o → NiceH o) : Rl K ct w M (upd H p ho) := by
  refine ⟨fun b' u e => ?_, r.len, r.nd, fun n u e => ?_, r.nice, tabs_upd r.tabs hN⟩
  · have : b' ≠ p := fun z => by rw [z, hF] at e; cases e
    rw [upd_ne this]
    exact r.sub _ _ e
  · obtain ⟨a, h1, h2, h3, h4, h5⟩ := r.mo n u e
    have : a ≠ p := fun z => hp (z ▸ List.mem_of_getElem? h2)
    exact ⟨a, h1, h2, h3, by rw [upd_ne this]; exact h4, h5⟩
theorem Step.off {w : Wd} {H : Hp} (s : Step b.w b.H w H) {p : Addr} {ho : HO} (hb : Fr0 b.H p) : Step b.w b.H w (upd H p ho) := ⟨s.ρ, s.F, fun c u h1 ht h2 h3 => by
  have hc : c ≠ p := fun z => let ⟨ps, e⟩ := hb u (z ▸ h1); ht ps e
  rw [upd_ne hc]
  exact s.fr c u h1 ht h2 h3⟩
theorem Sl.puto {K : PySem.W.Frag} {w : Wd} {en : En} {σ : L2.St} {H : Hp} (S : Sl K ct b w en σ H) {i : Nat} {o o' : MO} {p : Addr} {ho' : HO} (e : en[i]? = some (some (.own o))) (hσ : σ[i]? = some (some (.ref p))) (h : RepO K ct w o' ho') :
    Sl K ct b w (en.set i (some (.own o'))) σ (upd H p ho') := by
  have hl : i < en.length := (List.getElem?_eq_some_iff.mp e).1
  obtain ⟨a0, ho0, g1, g2, g3, g4, g5, g6⟩ := S.own i o e
  rw [hσ] at g1
  cases g1
  refine ⟨by rw [List.length_set]; exact S.len, fun j d q => ?_, fun j u q => ?_, fun j k o1 o2 hjk q1 q2 => ?_⟩
  · by_cases hj : i = j
    · subst hj
      rw [List.getElem?_set_self hl] at q
      cases q
    · rw [List.getElem?_set_ne hj] at q
      exact S.val j d q
  · by_cases hj : i = j
    · subst hj
      rw [List.getElem?_set_self hl] at q
      cases q
      exact ⟨p, ho', hσ, g2, g3, g4, upd_same, h⟩
    · rw [List.getElem?_set_ne hj] at q
      obtain ⟨a, hu, h1, h2, h3, h4, h5, h6⟩ := S.own j u q
      have ne : a ≠ p := fun z => by
        subst z
        exact S.sep i j o u hj e q (hσ.trans h1.symm)
      exact ⟨a, hu, h1, h2, h3, h4, by rw [upd_ne ne]; exact h5, h6⟩
  · have ow : ∀ (j : Nat) (u : MO), (en.set i (some (.own o')))[j]? = some (some (.own u)) → ∃ u', en[j]? = some (some (.own u')) := fun j u q => by
      by_cases hj : i = j
      · subst hj
        exact ⟨o, e⟩
      · rw [List.getElem?_set_ne hj] at q
        exact ⟨u, q⟩
    obtain ⟨u1, q1⟩ := ow j o1 q1
    obtain ⟨u2, q2⟩ := ow k o2 q2
    exact S.sep j k u1 u2 hjk q1 q2
def tyM (T : String) : MO → Bool
  | .lst _ => T == "list"
  | .dic _ _ => T == "dict"
  | _ => false
theorem tyM_ok {K : PySem.W.Frag} {T : String} {w : Wd} {o : MO} {ho : HO} {H : Hp} {a : Addr} (h : tyM T o = true) (hr : RepO K ct w o ho) (hH : H a = some ho) : tyV K T (.ref a) H := by
  cases o with
  | lst xs =>
    obtain ⟨vs, rfl, _⟩ := hr
    have : T = "list" := by simpa [tyM] using h
    exact .inl ⟨this, vs, SqL.of hH⟩
  | dic ks xs =>
    obtain ⟨vs, rfl, _⟩ := hr
    have : T = "dict" := by simpa [tyM] using h
    exact .inr (.inr (.inl ⟨this, .inl ⟨_, hH⟩⟩))
  | ldic ks xs => cases h
  | ins c fs => cases h
  | exc c fs => cases h
  | kd ks xs => cases h
def MetV (X : Cx) (ct : CT) (id : String) (g : MO → List D → Option (MO × D)) : Prop := ∃ r, MtR X id r ∧ ∀ w H a o ho ds vs o' d Q, H a = some ho → RepO X.K ct w o ho → RepL X.K w ds vs → g o ds = some (o', d) →
  (∀ ho' v, RepO X.K ct w o' ho' → Rep X.K w d v → Q v (upd H a ho')) → r (.ref a) vs H Q
def mutO (T : String) (g : MO → List D → Option (MO × D)) (i : Nat) (args : CA) : En → Store → Out (MO × D) := fun en M => match en[i]? with
  | some (some (.own o)) => if tyM T o = true then (args en M).bind fun ds M1 => ofO (g o ds) M1 else .err
  | _ => .err
def thenM (o : Out (MO × D)) (en : En) (k : MO × D → Store → Out Fl) : Out Fl := match o with
  | .ok d M => k d M
  | .exc c fs M => .ok (.exc c fs en) M
  | .err => .err
@[simp] theorem thenM_ok (d : MO × D) (M : Store) (en : En) (k : MO × D → Store → Out Fl) : thenM (.ok d M) en k = k d M := rfl
def mutS (i : Nat) (f : En → Store → Out (MO × D)) : CS := fun en M => thenM (f en M) en fun p M1 => .ok (.next (en.set i (some (.own p.1)))) M1
section
variable (X : Cx) (ct : CT) (b : Base) (W : WX)
def TMD (i : Nat) (f : En → Store → Out (MO × D)) : TE := fun σ H Q => ∃ w en M, Step b.w b.H w H ∧ Sl X.K ct b w en σ H ∧ Rl X.K ct w M H ∧ Post (f en M)
  (fun p M' => ∀ w' v H', Step b.w b.H w' H' → Wle w w' → Sl X.K ct b w' (en.set i (some (.own p.1))) σ H' → Rl X.K ct w' M' H' → Rep X.K w' p.2 v → Q v H')
  (fun c fs M' => ∀ w' cls dx H', Step w H w' H' → Sl X.K ct b w' en σ H' → Rl X.K ct w' M' H' → ExV X.K ct w' c fs cls dx H' → W cls dx σ H')
abbrev PMD (i : Nat) (f : En → Store → Out (MO × D)) (e : Expr) : Prop := PE X e (TMD X ct b W i f)
end
theorem pm_bm {T id : String} {name x : Str} {i : Nat} {g : MO → List D → Option (MO × D)} {args : CA} {p apos cpos : Pos} (hm : MetV X ct id g) (pa : PlainAttrs T) (slot : PySem.Slot T name id) (hty : typeOf (.builtin id) = pure (.type "method_descriptor"))
    (ho : PHD X ct b W (hOwn i) (.Name x p)) (ha : PAD X ct b W args (e :: es))
    (hbase : attributeBase (.Name x p) name X.env (eval (.Name x p) X.env) = eval (.Name x p) X.env := by rfl)
    (hfew : ((backTo cpos (starEach (e :: es) X.env)).all (fun x => !x.1) && (backToKw cpos (keywordEach [] X.env)).all (fun x => x.1.isSome)
      && decide ((e :: es).length + ([] : List Keyword).length + (if ([] : List Keyword).isEmpty then 0 else 1) < 30)) = true := by rfl)
    (hline : (apos.endLine == cpos.line) = true := by rfl) (hs : starEach (e :: es) X.env = (false, eval e X.env) :: starEach es X.env := by rfl) (hplain : (backTo cpos (starEach es X.env)).any (·.1) = false := by rfl) :
    PMD X ct b W i (mutO T g i args) (.Call (.Attribute (.Name x p) name apos) (e :: es) [] cpos) := by
  obtain ⟨r, hmt, hr⟩ := hm
  refine PE.wk (pe_bm pa slot hty hmt ho ha hbase hfew hline hs hplain) fun σ H Q h => ?_
  obtain ⟨w, en, M, s, S, rl, p⟩ := h
  unfold mutO at p
  split at p
  case h_2 => exact p.elim
  rename_i o eo
  split at p
  case isFalse => exact p.elim
  rename_i ht
  obtain ⟨a, ho, h1, h2, h3, h4, h5, h6⟩ := S.own i o eo
  refine ⟨w, en, M, S, rl, ?_⟩
  unfold hOwn
  rw [eo]
  intro w1 v H1 s1 r1 hv
  cases h1.symm.trans hv
  obtain ⟨q1, q2, q3⟩ := s1.fr a ho h5 h6.niceH.ntbl h3 h4
  refine ⟨tyM_ok (ct := ct) ht (s1.repO h6) q1, w1, en, M, S.step s1, r1, (Post.bind p).imp (fun ds M2 q w2 vs H2 s2 r2 x2 => ?_) fun c fs M2 q w2 cls dx H2 s2 S2 r2 x2 => q w2 cls dx H2 (s1.trans s2) S2 r2 x2⟩
  obtain ⟨⟨o', d⟩, eg, q⟩ := ofO_post q
  obtain ⟨g1, g2, g3⟩ := s2.fr a ho q1 h6.niceH.ntbl q2 q3
  refine hr w2 H2 a o ho ds vs o' d Q g1 ((s1.trans s2).repO h6) x2 eg fun ho' v ro' rv => ?_
  have S2 := S.step (s1.trans s2)
  exact q w2 v _ ((s.trans (s1.trans s2)).off h2) (s1.trans s2).le (S2.puto eo h1 ro') (r2.off g2 g3 fun o e => by rw [g1] at e; cases e; exact h6.niceH) rv
theorem ThenM.go {i : Nat} {te : En → Store → Out (MO × D)} {k : MO × D → Store → Out Fl} {D : Ends} {σ : L2.St} {H : Hp} {w : Wd} {en : En} {M : Store} {Q : VK} (s : Step b.w b.H w H) (S : Sl X.K ct b w en σ H) (r : Rl X.K ct w M H) (p : PostS X ct b W w (thenM (te en M) en k) D)
    (hk : ∀ d M' w' v H', PostS X ct b W w' (k d M') D → Step b.w b.H w' H' → Sl X.K ct b w' (en.set i (some (.own d.1))) σ H' → Rl X.K ct w' M' H' → Rep X.K w' d.2 v → Q v H') : TMD X ct b W i te σ H Q := by
  refine ⟨w, en, M, s, S, r, ?_⟩
  cases q : te en M with
  | ok d M' =>
    rw [q] at p
    exact fun w' v H' s' l' S' r' x => hk d M' w' v H' (PostS.wle p l') s' S' r' x
  | exc c fs M' =>
    rw [q] at p
    exact fun w' cls dx H' s' S' r' x => p w' cls dx σ H' (s.trans s') s'.le S' r' x
  | err =>
    rw [q] at p
    exact p.elim
theorem psd_mut {i : Nat} {f : En → Store → Out (MO × D)} (h : PMD X ct b W i f e) (hs : swapsWith e none pos.line X.env = pure false := by rfl) : PSD X ct b W (mutS i f) (.Expr e pos) := PS.wk (ps_expr h hs) fun D σ H h => by
  obtain ⟨w, en, M, s, S, r, p⟩ := h
  exact ThenM.go (Q := fun _ H1 => D.nx σ H1) s S r p fun d M' w' v H' q s' S' r' x => q w' σ H' s' (.refl _) S' r'
def eMut (T : String) (g : MO → List D → Option (MO × D)) (f : CE) (args : CA) : CE := fun en M => (f en M).bind fun d M1 => match d with
  | .ref n => match M1[n]? with
    | some o => if tyM T o = true then (args en M1).bind fun ds M2 => match M2[n]? with
      | some o2 => match g o2 ds with
        | some (o', r) => .ok r (M2.set n o')
        | none => .err
      | none => .err
      else .err
    | none => .err
  | _ => .err
theorem mut_ref {T id : String} {g : MO → List D → Option (MO × D)} {r : V → List V → Hp → VK → Prop} (hr : ∀ w H a o ho ds vs o' d Q, H a = some ho → RepO X.K ct w o ho → RepL X.K w ds vs → g o ds = some (o', d) →
    (∀ ho' v, RepO X.K ct w o' ho' → Rep X.K w d v → Q v (upd H a ho')) → r (.ref a) vs H Q) {w0 w1 : Wd} {H0 H1 : Hp} {M1 : Store} {n : Nat} {a : Addr} {ds : List D} {vs : List V} {Q : VK} (s0 : Step w0 H0 w1 H1) (r1 : Rl X.K ct w1 M1 H1) (ha : w1.ρ[n]? = some a) (x1 : RepL X.K w1 ds vs)
    {E : Str → List (Str × D) → Store → Prop}
    (p : Post (match M1[n]? with
      | some o2 => match g o2 ds with
        | some (o', r) => Out.ok r (M1.set n o')
        | none => .err
      | none => .err) (fun d M' => ∀ w' v H', Step w0 H0 w' H' → Rl X.K ct w' M' H' → Rep X.K w' d v → Q v H') E) : r (.ref a) vs H1 Q := by
  split at p
  case h_2 => exact p.elim
  rename_i o2 e2
  split at p
  case h_2 => exact p.elim
  rename_i o' d eg
  obtain ⟨ho, hF, hH, ro⟩ := r1.at ha e2
  refine hr w1 H1 a o2 ho ds vs o' d Q hH ro x1 eg fun ho' v ro' rv => ?_
  obtain ⟨s2, r2⟩ := r1.write ha ro'
  exact p w1 v _ (s0.trans s2) r2 rv
theorem pd_mut {T id : String} {name : Str} {g : MO → List D → Option (MO × D)} {f : CE} {args : CA} {apos cpos : Pos} (hm : MetV X ct id g) (pa : PlainAttrs T) (slot : PySem.Slot T name id) (hty : typeOf (.builtin id) = pure (.type "method_descriptor"))
    (ho : PD X ct b W f o) (ha : PAD X ct b W args (e :: es))
    (hbase : attributeBase o name X.env (eval o X.env) = eval o X.env := by rfl)
    (hfew : ((backTo cpos (starEach (e :: es) X.env)).all (fun x => !x.1) && (backToKw cpos (keywordEach [] X.env)).all (fun x => x.1.isSome)
      && decide ((e :: es).length + ([] : List Keyword).length + (if ([] : List Keyword).isEmpty then 0 else 1) < 30)) = true := by rfl)
    (hline : (apos.endLine == cpos.line) = true := by rfl) (hs : starEach (e :: es) X.env = (false, eval e X.env) :: starEach es X.env := by rfl) (hplain : (backTo cpos (starEach es X.env)).any (·.1) = false := by rfl) :
    PD X ct b W (eMut T g f args) (.Call (.Attribute o name apos) (e :: es) [] cpos) := by
  obtain ⟨r, hmt, hr⟩ := hm
  refine PE.wk (pe_bm pa slot hty hmt ho ha hbase hfew hline hs hplain) fun σ H Q h => ?_
  obtain ⟨w, en, M, S, rl, p⟩ := h
  refine ⟨w, en, M, S, rl, (Post.bind p).imp (fun d M1 q w1 v1 H1 s1 r1 x1 => ?_) fun _ _ _ q => q⟩
  split at q
  case h_2 => exact q.elim
  rename_i n
  split at q
  case h_2 => exact q.elim
  rename_i o1 e1
  split at q
  case isFalse => exact q.elim
  rename_i ht
  simp only [Rep] at x1
  obtain ⟨a, rfl, ha1⟩ := x1
  obtain ⟨ho1, hF1, hH1, ro1⟩ := r1.at ha1 e1
  refine ⟨tyM_ok (ct := ct) ht ro1 hH1, w1, en, M1, S.step s1, r1, (Post.bind q).imp (fun ds M2 q w2 vs H2 s2 r2 x2 => ?_) fun c fs M2 q w2 cls dx H2 s2 S2 r2 x2 => q w2 cls dx H2 (s1.trans s2) S2 r2 x2⟩
  exact mut_ref (id := id) (T := T) hr (s1.trans s2) r2 (prefix_get s2.ρ ha1) x2 q
end
end DL
namespace DL
open PySem PySem.Spec PyProof.Rows L2
def mAppend : MO → List D → Option (MO × D)
  | .lst xs, [y] => if xs.length < sizeLine then some (.lst (xs ++ [y]), .non) else none
  | _, _ => none
def mPopAt : MO → List D → Option (MO × D)
  | .lst xs, [.int i] => if -(2 ^ 63) ≤ i ∧ i < 2 ^ 63 then (seqIndex? i xs.length).bind fun k => xs[k]?.map fun y => (.lst (xs.eraseIdx k), y) else none
  | _, _ => none
theorem RepL.eraseIdx {K : PySem.W.Frag} {w : Wd} {ds : List D} {vs : List V} (h : RepL K w ds vs) (k : Nat) : RepL K w (ds.eraseIdx k) (vs.eraseIdx k) := by
  rw [List.eraseIdx_eq_take_drop_succ, List.eraseIdx_eq_take_drop_succ]
  exact (h.take k).append (h.drop (k + 1))
theorem RepL.one_iff {K : PySem.W.Frag} {w : Wd} {d : D} {vs : List V} (h : RepL K w [d] vs) : ∃ v, vs = [v] ∧ Rep K w d v := by
  rw [RepL.cons_iff] at h
  obtain ⟨v, r, rfl, h1, h2⟩ := h
  rw [RepL.nil_iff] at h2
  exact ⟨v, by rw [h2], h1⟩
theorem Rep.non' {K : PySem.W.Frag} {w : Wd} : Rep K w .non .non := by simp only [Rep]
section
variable {X : Cx} {ct : CT} {b : Base} {W : WX} {e e1 e2 e3 o : Expr} {pos : Pos} {es : List Expr}
theorem met_append : MetV X ct "list.append" mAppend := by
  refine ⟨_, mt_append, fun w H a o ho ds vs o' d Q hH hr hx e k => ?_⟩
  unfold mAppend at e
  split at e
  case h_2 => cases e
  rename_i xs y
  split at e
  case isFalse => cases e
  rename_i hz
  cases e
  obtain ⟨us, rfl, x⟩ := hr
  obtain ⟨v, rfl, h1⟩ := hx.one_iff
  exact ⟨a, us, v, rfl, rfl, hH, by rw [← x.length]; exact hz, k _ _ ⟨_, rfl, x.append (.one h1)⟩ .non'⟩
theorem met_popAt : MetV X ct "list.pop" mPopAt := by
  refine ⟨_, mt_popAt, fun w H a o ho ds vs o' d Q hH hr hx e k => ?_⟩
  unfold mPopAt at e
  split at e
  case h_2 => cases e
  rename_i xs i
  split at e
  case isFalse => cases e
  rename_i hz
  obtain ⟨j, e1, e⟩ := Option.bind_eq_some_iff.mp e
  obtain ⟨y, e2, e3⟩ := Option.map_eq_some_iff.mp e
  cases e3
  obtain ⟨us, rfl, x⟩ := hr
  obtain ⟨v, rfl, h1⟩ := hx.one_iff
  simp only [Rep] at h1
  subst h1
  obtain ⟨v, h1, h2⟩ := x.get e2
  exact ⟨a, us, i, j, v, rfl, rfl, hH, hz.1, hz.2, by rw [← x.length]; exact e1, h1, k _ _ ⟨_, rfl, x.eraseIdx j⟩ h2⟩
def putM : MO → D → D → Option MO
  | .lst xs, .int k, v => (ixN xs.length k).map fun j => .lst (xs.set j v)
  | .dic ks xs, k, v => (keyD k).bind fun k => if ks.length < sizeLine then some (.dic (dput ks xs k v).1 (dput ks xs k v).2) else none
  | _, _, _ => none
theorem zip_map_snd {α β γ : Type} (f : α → β → γ) : ∀ (ks : List α) (vs : List β), ks.zip ((ks.zip vs).map fun kv => f kv.1 kv.2) = (ks.zip vs).map fun kv => (kv.1, f kv.1 kv.2)
  | [], _ => rfl
  | _ :: _, [] => rfl
  | k :: ks, v :: vs => by simp [zip_map_snd f ks vs]
theorem any_zip {α : Type} (p : Key → Bool) : ∀ (ks : List Key) (xs : List α), ks.length = xs.length → ((ks.zip xs).any fun kv => p kv.1) = ks.any p
  | [], [], _ => rfl
  | [], _ :: _, h => by cases h
  | _ :: _, [], h => by cases h
  | k :: ks, x :: xs, h => by
    simp only [List.zip_cons_cons, List.any_cons, any_zip p ks xs (Nat.succ.inj h)]
theorem RepL.mapset {K : PySem.W.Frag} {w : Wd} {k : Key} {d : D} {u : V} (hd : Rep K w d u) : ∀ (ks : List Key) {xs : List D} {vs : List V}, RepL K w xs vs →
    RepL K w ((ks.zip xs).map fun kv => if kv.1 = k then d else kv.2) ((ks.zip vs).map fun kv => if kv.1 = k then u else kv.2)
  | [], _, _, _ => .nil
  | j :: ks, [], vs, h => by
    rw [RepL.nil_iff] at h
    subst h
    exact .nil
  | j :: ks, x :: xs, vs, h => by
    rw [RepL.cons_iff] at h
    obtain ⟨v, r, rfl, h1, h2⟩ := h
    simp only [List.zip_cons_cons, List.map_cons]
    refine .cons ?_ (RepL.mapset hd ks h2)
    split
    · exact hd
    · exact h1
theorem dput_rep {K : PySem.W.Frag} {w : Wd} {ks : List Key} {xs : List D} {vs : List V} {k : Key} {d : D} {u : V} (hl : ks.length = xs.length) (h : RepL K w xs vs) (hd : Rep K w d u) :
    ∃ vs', putK (ks.zip vs) k u = (dput ks xs k d).1.zip vs' ∧ (dput ks xs k d).1.length = (dput ks xs k d).2.length ∧ RepL K w (dput ks xs k d).2 vs' := by
  have hl2 : ks.length = vs.length := hl.trans h.length
  have a1 := any_zip (fun j => decide (j = k)) ks xs hl
  have a2 := any_zip (fun j => decide (j = k)) ks vs hl2
  unfold dput putK
  rw [a1, a2]
  by_cases q : (ks.any fun j => decide (j = k)) = true
  · rw [if_pos q, if_pos q]
    refine ⟨(ks.zip vs).map fun kv => if kv.1 = k then u else kv.2, ?_, ?_, RepL.mapset hd ks h⟩
    · show _ = ks.zip _
      rw [zip_map_snd (fun j v => if j = k then u else v)]
      refine List.map_congr_left fun kv _ => ?_
      split <;> rfl
    · show ks.length = ((ks.zip xs).map _).length
      rw [List.length_map, List.length_zip]
      omega
  · rw [if_neg q, if_neg q]
    refine ⟨vs ++ [u], ?_, ?_, h.append (.one hd)⟩
    · show _ = (ks ++ [k]).zip (vs ++ [u])
      rw [List.zip_append hl2]
      rfl
    · show (ks ++ [k]).length = (xs ++ [d]).length
      simp [hl]
def rPut : TSet := fun o i v H Q => rSetL o i v H Q ∨ ∃ a H', o = .ref a ∧ DPut H a i v H' ∧ Q H'
theorem set_put (hu : X.A.units + 64 < cLine) : PSet X rPut := fun pins s σ H o i v ov iv u Q I ro ri rv h => by
  rcases h with h | ⟨a, H', rfl, g, q⟩
  · exact set_list pins s σ H o i v ov iv u Q I ro ri rv h
  · cases ro
    exact d_setItem (by omega) I g ri rv fun s' I' => ⟨H', I', q⟩
theorem putM_ok {w : Wd} {H : Hp} {o o' : MO} {ho : HO} {a : Addr} {k v : D} {kv vv : V} {Q : Hp → Prop} (hH : H a = some ho) (hr : RepO X.K ct w o ho) (hk : Rep X.K w k kv) (hv : Rep X.K w v vv) (e : putM o k v = some o')
    (q : ∀ ho', RepO X.K ct w o' ho' → Q (upd H a ho')) : rPut (.ref a) kv vv H Q := by
  unfold putM at e
  split at e
  · rename_i xs i
    obtain ⟨j, e1, e2⟩ := Option.map_eq_some_iff.mp e
    subst e2
    obtain ⟨us, rfl, x⟩ := hr
    simp only [Rep] at hk
    subst hk
    exact .inl ⟨a, us, i, j, rfl, rfl, hH, by rw [← x.length]; exact e1, q _ ⟨_, rfl, x.set hv j⟩⟩
  · rename_i ks xs
    obtain ⟨key, e1, e2⟩ := Option.bind_eq_some_iff.mp e
    split at e2
    case isFalse => cases e2
    rename_i hz
    cases e2
    obtain ⟨us, rfl, hl, x⟩ := hr
    have ek := keyD_r hk e1
    subst ek
    obtain ⟨vs', p1, p2, p3⟩ := dput_rep (k := key) hl x hv
    refine .inr ⟨a, _, rfl, .inl ⟨_, key, hH, rfl, ?_, rfl⟩, ?_⟩
    · rw [List.length_zip]
      omega
    · rw [p1]
      exact q _ ⟨_, rfl, p2, p3⟩
  · cases e
theorem ThenS.goL {te : CE} {k : DL.D → Store → Out Fl} {D : Ends} {σ : L2.St} {H : Hp} {w : Wd} {en : En} {M : Store} {Q : VK} (s : Step b.w b.H w H) (S : Sl X.K ct b w en σ H) (r : Rl X.K ct w M H) (p : PostS X ct b W w (thenS (te en M) en k) D)
    (hk : ∀ d M' w' v H', PostS X ct b W w' (k d M') D → Step w H w' H' → Sl X.K ct b w' en σ H' → Rl X.K ct w' M' H' → Rep X.K w' d v → Q v H') : TD X ct b W te σ H Q := by
  refine ⟨w, en, M, S, r, ?_⟩
  cases q : te en M with
  | ok d M' =>
    rw [q] at p
    exact fun w' v H' s' r' x => hk d M' w' v H' (PostS.wle p s'.le) s' (S.step s') r' x
  | exc c fs M' =>
    rw [q] at p
    exact fun w' cls dx H' s' S' r' x => p w' cls dx σ H' (s.trans s') s'.le S' r' x
  | err =>
    rw [q] at p
    exact p.elim
def stR (fo fk fv : CE) : CS := fun en M => thenS (fv en M) en fun v M1 => thenS (fo en M1) en fun o M2 => thenS (fk en M2) en fun k M3 => match o with
  | .ref n => match M3[n]? with
    | some o => match putM o k v with
      | some o' => .ok (.next en) (M3.set n o')
      | none => .err
    | none => .err
  | _ => .err
theorem psd_stR {fo fk fv : CE} {ps : Pos} {ie ve : Expr} (hu : X.A.units + 64 < cLine) (ho : PD X ct b W fo o) (hi : PD X ct b W fk ie) (hv : PD X ct b W fv ve)
    (hs : swapsWithSole [.Subscript o ie ps] ve pos.line X.env = pure false := by rfl) (hw : swappedStores [.Subscript o ie ps] ve X.env = pure none := by rfl)
    (h1 : (assignEach [.Subscript o ie ps] X.env).map (·.2) = [assign (.Subscript o ie ps) X.env] := by rfl)
    (ha : ∀ v, assign (.Subscript o ie ps) X.env v = (do
      let ov ← holding [v] (eval o X.env)
      let iv ← holding [v, ov] (eval ie X.env)
      standAt ps
      holding [v, ov, iv] (setItem ov iv v)
      release [v, ov, iv] []) := by intro _; rfl) : PSD X ct b W (stR fo fk fv) (.Assign [.Subscript o ie ps] ve pos) :=
  PS.wk (ps_asg hv (pg_sub ho hi (set_put hu) ha) hs hw h1) fun En σ H h => by
    obtain ⟨w, en, M, s, S, r, p⟩ := h
    refine ThenS.goL (Q := fun x H1 => L2.gSub (TD X ct b W fo) (TD X ct b W fk) rPut x σ H1 En.nx) s S r p fun v M1 w1 vv H1 q s1 S1 r1 x1 => ?_
    refine ThenS.goL (s.trans s1) S1 r1 q fun od M2 w2 ov H2 q s2 S2 r2 x2 => ?_
    refine ThenS.goL ((s.trans s1).trans s2) S2 r2 q fun k M3 w3 kv H3 q s3 S3 r3 x3 => ?_
    split at q
    case h_2 => exact q.elim
    rename_i n
    split at q
    case h_2 => exact q.elim
    rename_i o2 e2
    split at q
    case h_2 => exact q.elim
    rename_i o' e'
    have x2' := s3.rep x2
    simp only [Rep] at x2'
    obtain ⟨a, rfl, ha⟩ := x2'
    obtain ⟨ho, hF, hH, ro⟩ := r3.at ha e2
    refine putM_ok (ct := ct) hH ro x3 (s3.rep (s2.rep x1)) e' fun ho2 ro2 => ?_
    obtain ⟨s4, r4⟩ := r3.write ha ro2
    exact q w3 σ _ ((((s.trans s1).trans s2).trans s3).trans s4) s4.le (S3.step s4) r4
def eAnd (f g : CE) : CE := fun en M => (f en M).bind fun d M1 => (ofO ((vwD M1 d).bind TruD) M1).bind fun k M1 => if k = true then g en M1 else .ok d M1
theorem pd_and {f g : CE} (h1 : PD X ct b W f e1) (h2 : PD X ct b W g (.BoolOp .And (e2 :: es) pos)) : PD X ct b W (eAnd f g) (.BoolOp .And (e1 :: e2 :: es) pos) := PE.wk (pe_andT h1 h2) fun σ H Q h => by
  obtain ⟨w, en, M, S, rl, p⟩ := h
  refine ⟨w, en, M, S, rl, (Post.bind p).imp (fun d M1 q w1 v1 H1 s1 r1 x1 => ?_) fun _ _ _ q => q⟩
  obtain ⟨k, ek, q⟩ := ofO_post (Post.bind q)
  obtain ⟨dv, e1, e2⟩ := Option.bind_eq_some_iff.mp ek
  refine ⟨k, TruD.ok (vwD_ok r1 x1 e1) e2, ?_⟩
  cases k with
  | true =>
    rw [if_pos rfl] at q ⊢
    exact ⟨w1, en, M1, S.step s1, r1, q.imp (fun d M2 q w2 v H2 s2 r2 x2 => q w2 v H2 (s1.trans s2) r2 x2) fun c fs M2 q w2 cls dx H2 s2 => q w2 cls dx H2 (s1.trans s2)⟩
  | false =>
    rw [if_neg Bool.false_ne_true] at q ⊢
    exact q w1 v1 H1 s1 r1 x1
theorem pd_and1 {f : CE} (h1 : PD X ct b W f e1) : PD X ct b W f (.BoolOp .And [e1] pos) := pe_one h1
end
end DL
namespace DL
open PySem PySem.Spec PyProof.Rows L2
def KNice (K : PySem.W.Frag) : Prop := ∀ a o, K.lookup a = some o → o.cls = .type "tuple" → o.dict = none
section
variable {X : Cx} {ct : CT} {b : Base} {W : WX} {e e1 e2 e3 o : Expr} {pos : Pos} {es : List Expr}
def NT (K : PySem.W.Frag) (H : Hp) (a : Addr) (vs : List V) : Prop := (∃ o, H a = some (.frz o (.tup vs)) ∧ o.dict = none) ∨ (SqT K (fun _ => none) a vs)
theorem NT.plain (hK : KNice X.K) {pins : List (Addr × Obj)} {σ : L2.St} {H : Hp} {s : Shared} (I : Inv X pins σ H s) {a : Addr} {vs : List V} (h : NT X.K H a vs) :
    ∃ its : List Value, Vals vs its ∧ PlainSeq "tuple" s.heap a its.toArray ∧ vs.length ≤ sizeLine := by
  rcases h with ⟨o, h, hd⟩ | h
  · obtain ⟨q, z, its, r, p⟩ := I.hok a _ h
    obtain ⟨o', ho, hc, n, hdt⟩ := p
    rw [q] at ho
    cases ho
    exact ⟨its, r, ⟨o, n, q, hc, hd, hdt⟩, z⟩
  · rcases h with (h | ⟨o, h⟩) | ⟨o, its, n, hk, hc, hs, hz, r⟩
    · cases h
    · cases h
    · refine ⟨its.toList, r, ⟨o, n, I.kIn a o hk, hc, hK a o hk hc, by simpa using hs⟩, ?_⟩
      have e := r.length
      simp only [Array.length_toList] at e
      omega
def mergeD (ks : List Key) (xs : List D) : List (Key × D) → List Key × List D
  | [] => (ks, xs)
  | (k, v) :: r => mergeD (dput ks xs k v).1 (dput ks xs k v).2 r
theorem mergeD_rep {w : Wd} : ∀ {l : List (Key × D)} {kvs : List (Key × V)} {ks : List Key} {xs : List D} {vs : List V}, Paired (fun p q => p.1 = q.1 ∧ Rep X.K w p.2 q.2) l kvs → ks.length = xs.length → RepL X.K w xs vs →
    ∃ vs', mergeK (ks.zip vs) kvs = (mergeD ks xs l).1.zip vs' ∧ (mergeD ks xs l).1.length = (mergeD ks xs l).2.length ∧ RepL X.K w (mergeD ks xs l).2 vs'
  | _, _, ks, xs, vs, .nil, hl, h => ⟨vs, rfl, hl, h⟩
  | _, _, ks, xs, vs, .cons (a := p) (b := q) hp t, hl, h => by
    obtain ⟨vs', e1, e2, e3⟩ := dput_rep (k := p.1) (d := p.2) hl h hp.2
    obtain ⟨vs2, f1, f2, f3⟩ := mergeD_rep (ks := (dput ks xs p.1 p.2).1) (xs := (dput ks xs p.1 p.2).2) t e2 e3
    refine ⟨vs2, ?_, f2, f3⟩
    show mergeK (putK (ks.zip vs) q.1 q.2) _ = _
    rw [← hp.1, e1]
    exact f1
end
end DL
namespace DL
open PySem PySem.Spec PyProof.Rows L2
def dPairs : List (CE × CE) → En → Store → Out (List (Key × D))
  | [], _, M => .ok [] M
  | (f, g) :: r, en, M => (f en M).bind fun k M1 => (g en M1).bind fun v M2 => (ofO (keyD k) M2).bind fun k M2 => (dPairs r en M2).bind fun l M3 => .ok ((k, v) :: l) M3
def nDisp (fs : List (CE × CE)) : CN := fun en M => (dPairs fs en M).bind fun l M1 => .ok (.dic (mergeD [] [] l).1 (mergeD [] [] l).2) M1
def nDict0 : CN := fun _ M => .ok (.dic [] []) M
section
variable {X : Cx} {ct : CT} {b : Base} {W : WX} {e e1 e2 e3 o : Expr} {pos : Pos} {es : List Expr}
def trs (X : Cx) (ct : CT) (b : Base) (W : WX) (fs : List (CE × CE)) : List (TE × TE) := fs.map fun f => (TD X ct b W f.1, TD X ct b W f.2)
abbrev PPD (X : Cx) (ct : CT) (b : Base) (W : WX) (pos : Pos) (keys : List (Option Expr)) (values : List Expr) (fs : List (CE × CE)) : Prop := PPs X pos keys values (trs X ct b W fs)
theorem ppd_nil : PPD X ct b W pos [] [] [] := pps_nil
theorem ppd_cons {k v : Expr} {ks : List (Option Expr)} {vs : List Expr} {f g : CE} {fs : List (CE × CE)} (hk : PD X ct b W f k) (hv : PD X ct b W g v) (hr : PPD X ct b W pos ks vs fs) : PPD X ct b W pos (some k :: ks) (v :: vs) ((f, g) :: fs) := pps_cons hk hv hr
theorem pairs_go {σ : L2.St} : ∀ {fs : List (CE × CE)} {w : Wd} {en : En} {M : Store} {H : Hp} {R : List (V × V) → Hp → Prop}, Sl X.K ct b w en σ H → Rl X.K ct w M H →
    Post (dPairs fs en M) (fun l M' => ∀ w' (kvs : List (Key × V)) H', Step w H w' H' → Rl X.K ct w' M' H' → Paired (fun (p : Key × D) (q : Key × V) => p.1 = q.1 ∧ Rep X.K w' p.2 q.2) l kvs → R (kvs.map fun kv => (kV kv.1, kv.2)) H')
      (fun c fs M' => ∀ w' cls dx H', Step w H w' H' → Sl X.K ct b w' en σ H' → Rl X.K ct w' M' H' → ExV X.K ct w' c fs cls dx H' → W cls dx σ H') → tPairs (trs X ct b W fs) σ H R
  | [], w, en, M, H, R, S, rl, p => p w [] H (Step.refl _ _) rl .nil
  | (f, g) :: r, w, en, M, H, R, S, rl, p => by
    unfold dPairs at p
    refine ⟨w, en, M, S, rl, (Post.bind p).imp (fun k M1 q w1 kv H1 s1 r1 x1 => ?_) fun _ _ _ q => q⟩
    refine ⟨w1, en, M1, S.step s1, r1, (Post.bind q).imp (fun v M2 q w2 vv H2 s2 r2 x2 => ?_) fun c fs M2 q w2 cls dx H2 s2 S2 r2 x2 => q w2 cls dx H2 (s1.trans s2) S2 r2 x2⟩
    obtain ⟨key, ek, q⟩ := ofO_post (Post.bind q)
    have := keyD_r x1 ek
    subst this
    refine pairs_go (S.step (s1.trans s2)) r2 ((Post.bind q).imp (fun l M3 q w3 kvs H3 s3 r3 x3 => ?_) fun c fs M3 q w3 cls dx H3 s3 S3 r3 x3 => q w3 cls dx H3 ((s1.trans s2).trans s3) S3 r3 x3)
    exact q w3 ((key, vv) :: kvs) H3 ((s1.trans s2).trans s3) r3 (.cons ⟨rfl, s3.rep x2⟩ x3)
theorem pn_dict0 : PND X ct b W nDict0 (.Dict [] [] pos) := PE.wk pe_dnewK fun σ H Q h => by
  obtain ⟨w, en, M, S, rl, p⟩ := h
  exact fun q hq => p w q (.dK []) H (Step.refl _ _) rl hq ⟨[], rfl, rfl, .nil⟩
theorem pn_disp {keys : List (Option Expr)} {values : List Expr} {fs : List (CE × CE)} (h : PPD X ct b W pos keys values fs) (hall : keys.all (·.isSome) = true := by rfl) (hl : keys.length = values.length := by rfl) (h0 : keys ≠ [] := by exact fun z => nomatch z)
    (h15 : keys.length ≤ 15 := by decide) (hf : fs.length ≤ 15 := by decide) : PND X ct b W (nDisp fs) (.Dict keys values pos) := PE.wk (pe_disp h hall hl h0 h15) fun σ H Q hh => by
  obtain ⟨w, en, M, S, rl, p⟩ := hh
  intro d hd
  obtain ⟨s0, r0⟩ := rl.aside (o := .dK []) hd
  have lenL : ∀ {fs : List (CE × CE)} {en : En} {M M' : Store} {l : List (Key × D)}, dPairs fs en M = .ok l M' → l.length = fs.length := fun {fs} => by
    induction fs with
    | nil => intro en M M' l e; cases e; rfl
    | cons f r ih =>
      obtain ⟨f, g⟩ := f
      intro en M M' l e
      unfold dPairs at e
      cases q1 : f en M with
      | err => rw [q1] at e; cases e
      | exc c fs M1 => rw [q1] at e; cases e
      | ok k M1 =>
        rw [q1] at e
        simp only [Out.bind_ok] at e
        cases q2 : g en M1 with
        | err => rw [q2] at e; cases e
        | exc c fs M1 => rw [q2] at e; cases e
        | ok v M2 =>
          rw [q2] at e
          simp only [Out.bind_ok] at e
          cases q3 : keyD k with
          | none => rw [q3] at e; cases e
          | some key =>
            rw [q3] at e
            simp only [ofO, Out.bind_ok] at e
            cases q4 : dPairs r en M2 with
            | err => rw [q4] at e; cases e
            | exc c fs M1 => rw [q4] at e; cases e
            | ok l' M3 =>
              rw [q4] at e
              cases e
              simp only [List.length_cons, ih q4]
  refine pairs_go (S.step s0) r0 ?_
  unfold nDisp at p
  have p := Post.bind p
  cases q0 : dPairs fs en M with
  | err => rw [q0] at p; exact p.elim
  | exc c fs' M1 =>
    rw [q0] at p
    exact fun w' cls dx H' s' S' r' x => p w' cls dx H' (s0.trans s') S' r' x
  | ok l M1 =>
    rw [q0] at p
    intro w' kvs H' s' r' x
    obtain ⟨h1, h2, h3⟩ := s'.fr d _ upd_same (fun _ z => nomatch z) (rl.sub.free hd) (rl.notin hd)
    have hk : kvs.length = l.length := by
      have : ∀ {l : List (Key × D)} {kvs : List (Key × V)}, Paired (fun p q => p.1 = q.1 ∧ Rep X.K w' p.2 q.2) l kvs → kvs.length = l.length := fun h => by
        induction h with
        | nil => rfl
        | cons _ _ ih => simp [ih]
      exact this x
    refine ⟨h1, kvs, rfl, by rw [hk, lenL q0]; exact hf, ?_⟩
    obtain ⟨vs', e1, e2, e3⟩ := mergeD_rep (X := X) (ks := []) (xs := []) (vs := []) x rfl .nil
    have so : Step w H w' (upd' H' d) := by
      have := s'.out d
      rwa [upd'_same_none hd] at this
    have := p w' d (.dK (mergeK [] kvs)) (upd' H' d) so (r'.out h2 h3 (fun o e => by rw [h1] at e; cases e; trivial)) upd'_none ⟨vs', by rw [show mergeK [] kvs = _ from e1], e2, e3⟩
    have eu : upd (upd' H' d) d (.dK (mergeK [] kvs)) = upd H' d (.dK (mergeK [] kvs)) := by
      funext a
      by_cases ha : a = d
      · subst ha
        rw [upd_same, upd_same]
      · rw [upd_ne ha, upd_ne ha]
        exact if_neg ha
    rwa [eu] at this
end
end DL
namespace DL
open PySem PySem.Spec PyProof.Rows L2
def keyS (e : Int × Value) : Str := match e.2 with | .str k _ => k | _ => Str.empty
def GoodS (P : Program) (w : World) (e : Int × Value) : Prop := ∃ k tk, e.2 = Value.str k tk ∧ e.1 = (strKind P w).hash k
def SetX (P : Program) (w : World) (h : Heap) (a : Addr) (S : Str → Bool) (n : Nat) : Prop :=
  ∃ o es ep t, h.get? a = some o ∧ o.ExactSet ∧ o.data = .set es ep t ∧ (∀ e ∈ es.toList, GoodS P w e) ∧ (es.toList.map keyS).Nodup ∧ (∀ k, S k = true ↔ k ∈ es.toList.map keyS) ∧
    es.size < scanBound ∧ t.fits es.size = true ∧ es.size = n ∧ Ris t.place.toList ∧ (w.params.followText "set-order" = true ∨ t.led = true)
section
variable {P : Program} {w : World} {h h' : Heap} {a : Addr} {S : Str → Bool} {n : Nat}
theorem SetX.at (R : SetX P w h a S n) (k : ∀ o, h.get? a = some o → h'.get? a = some o) : SetX P w h' a S n := by
  obtain ⟨o, es, ep, t, ho, r⟩ := R
  exact ⟨o, es, ep, t, k o ho, r⟩
theorem SetX.lt (R : SetX P w h a S n) : a < h.objs.size := by
  obtain ⟨o, es, ep, t, ho, r⟩ := R
  exact Heap.lt_size ho
theorem SetX.congr {S' : Str → Bool} (R : SetX P w h a S n) (e : ∀ k, S' k = S k) : SetX P w h a S' n := by
  have q : S' = S := funext e
  rw [q]; exact R
end
section
variable {P : Program} {w : World} {A : Around} {E : Value → Shared → Prop} {s : Shared} {a : Addr} {S : Str → Bool} {n : Nat}
end
section
variable {P : Program} {w : World} {A : Around} {E : Value → Shared → Prop} {s : Shared}
set_option maxRecDepth 100000 in
set_option maxHeartbeats 3200000 in
end
end DL
namespace DL
open PySem PySem.Spec PyProof.Rows L2
section
variable {P : Program} {w : World} {A : Around} {E : Value → Shared → Prop} {s : Shared} {a : Addr}
end
end DL
namespace DL
open PySem PySem.Spec PyProof.Rows L2
section
variable {X : Cx}
theorem SetX.ex {P : Program} {w : World} {h : Heap} {a : Addr} {S : Str → Bool} {c : Nat} (R : SetX P w h a S c) : ∃ o, h.get? a = some o := by
  obtain ⟨o, es, ep, t, ho, _⟩ := R
  exact ⟨o, ho⟩
end
section
variable {X : Cx} {ct : CT} {b : Base} {W : WX} {e e1 e2 e3 o : Expr} {pos : Pos} {es : List Expr}
end
end DL
namespace DL
open PySem PySem.Spec PyProof.Rows L2
def pick {α : Type} (π : List Nat) (xs : List α) : List α := π.filterMap fun i => xs[i]?
theorem Vals.at' {vs : List V} {us : List Value} (h : Vals vs us) (i : Nat) : (vs[i]? = none ∧ us[i]? = none) ∨ ∃ v u, vs[i]? = some v ∧ us[i]? = some u ∧ RelV v u := by
  induction h generalizing i with
  | nil => exact .inl ⟨rfl, rfl⟩
  | cons r _ ih =>
    cases i with
    | zero => exact .inr ⟨_, _, rfl, rfl, r⟩
    | succ i => exact ih i
theorem Vals.pick {vs : List V} {us : List Value} (h : Vals vs us) : ∀ π : List Nat, Vals (DL.pick π vs) (DL.pick π us)
  | [] => .nil
  | i :: π => by
    have ih := Vals.pick h π
    unfold DL.pick at ih ⊢
    rcases Vals.at' h i with ⟨e1, e2⟩ | ⟨v, u, e1, e2, r⟩
    · rw [List.filterMap_cons_none e1, List.filterMap_cons_none e2]
      exact ih
    · rw [List.filterMap_cons_some e1, List.filterMap_cons_some e2]
      exact .cons r ih
theorem RepL.pick {K : PySem.W.Frag} {w : Wd} {ds : List D} {vs : List V} (h : RepL K w ds vs) : ∀ π : List Nat, RepL K w (DL.pick π ds) (DL.pick π vs)
  | [] => .nil
  | i :: π => by
    have ih := RepL.pick h π
    unfold DL.pick at ih ⊢
    cases e1 : ds[i]? with
    | none =>
      have e2 : vs[i]? = none := by
        rw [List.getElem?_eq_none_iff] at e1 ⊢
        rw [← h.length]
        exact e1
      rw [List.filterMap_cons_none e1, List.filterMap_cons_none e2]
      exact ih
    | some d =>
      obtain ⟨v, e2, r⟩ := h.get e1
      rw [List.filterMap_cons_some e1, List.filterMap_cons_some e2]
      exact .cons r ih
section
variable {X : Cx} {ct : CT} {b : Base} {W : WX} {e e1 e2 e3 o : Expr} {pos : Pos} {es : List Expr}
abbrev PKD (X : Cx) (ct : CT) (b : Base) (W : WX) (f : CA) (ks : List Keyword) : Prop := PK X ks (TAD X ct b W f)
theorem pkd_nil : PKD X ct b W aNil [] := ⟨fun pos pins s σ H Q I h => by
  obtain ⟨w, en, M, S, r, p⟩ := h
  exact pk_nil.run pos pins s σ H Q I (p w _ H (Step.refl _ _) r .nil)⟩
theorem pkd_cons {n : Str} {kws : List Keyword} {f : CE} {g : CA} (h1 : PD X ct b W f e) (h2 : PKD X ct b W g kws) : PKD X ct b W (aCons f g) ((⟨some n, e, pos⟩ : Keyword) :: kws) := ⟨fun pos pins s σ H Q I h => by
  obtain ⟨w, en, M, S, rl, p⟩ := h
  refine (pk_cons h1 h2).run pos pins s σ H Q I ⟨w, en, M, S, rl, (Post.bind p).imp (fun a M1 q w1 v1 H1 s1 r1 x1 => ?_) fun _ _ _ q => q⟩
  exact ⟨w1, en, M1, S.step s1, r1, (Post.bind q).imp (fun c M2 q w2 v2 H2 s2 r2 x2 => q w2 _ H2 (s1.trans s2) r2 (.cons (s2.rep x1) x2)) fun _ _ _ q w' cls dx H' s => q w' cls dx H' (s1.trans s)⟩⟩
end
section
variable {P : Program} {w : World} {K : PySem.W.Frag} {mg : Str → Option Value} {base : Heap} {ct : CT}
end
end DL
namespace DL
open PySem PySem.Spec PyProof.Rows L2
structure FnG (P : Program) (w : World) (K : PySem.W.Frag) (mg : Str → Option Value) (base : Heap) (CX : CXT) (k : Nat) (f : Addr) (fd : FuncData) (ps : List Str) (sp : Sp) : Prop where
  len : ∀ vs H Q E, sp vs H Q E → vs.length = ps.length
  run : ∀ (A : Around) (outer : List Env) (s : Shared) (H : Hp) (args : Args) (us : List Value) (vs : List V) (Q : VK) (E : XK), Room k A → A.guards = some [] → Env0 P w K mg base A outer s H → BindsTo s fd args (ps.zip us) → Vals vs us → sp vs H Q E →
    codeAny (model P w) A (.call (.ref f) args) (CR CX outer P w H s Q E) s
theorem FnG.of {P : Program} {w : World} {K : PySem.W.Frag} {mg : Str → Option Value} {base : Heap} {CX : CXT} {k : Nat} {f : Addr} {fd : FuncData} {ps : List Str} {sp : Sp} (F : FnOk P w K mg base CX k f fd ps sp) : FnG P w K mg base CX k f fd ps sp :=
  ⟨F.len, fun A outer s H args us vs Q E hr _ => F.run A outer s H args us vs Q E hr⟩
theorem fn_ofG {CX : CXT} {P : Program} {w : World} {K : PySem.W.Frag} {mg : Str → Option Value} {base : Heap} {k : Nat} {f : Addr} {name qual : Str} {params : Arguments} {body : List Stmt} {scope : Scope} {dV kV doc pm cdv ct oc : Value} {an od : Option Addr}
    {osl : Array (Option Value)} {N ps : List Str} {sp : Sp} (lk : K.lookup f = some ⟨oc, od, .func (PySem.W.fnOf name qual params body scope dV kV doc pm an cdv ct), osl⟩) (hcd : PySem.W.codeIn K cdv qual = true) (S : FnScope N ps scope)
    (len : ∀ vs H Q E, sp vs H Q E → vs.length = ps.length)
    (hbody : ∀ (A : Around) (outer : List Env) (s : Shared) (H : Hp) (vs : List V) (Q : VK) (E : XK), Room k (A.deeper (envOfC qual scope s.heap.objs.size f cdv)) → A.guards = some [] → sp vs H Q E →
      ∃ t, PSs (cxOf CX P w K mg base N qual scope f cdv A outer s H E) body t ∧ t { nx := fun _ H' => Q .non H', rt := Q } (start N vs) H) :
    FnG P w K mg base CX (k + 1) f (PySem.W.fnOf name qual params body scope dV kV doc pm an cdv ct) ps sp := by
  refine ⟨len, fun A outer s H args us vs Q E hr hgd e0 hb r hsp => ?_⟩
  have hl := len _ _ _ _ hsp
  have KX : K.In s.heap := e0.mod.kin.keeps fun b o e => (e0.bs b o e).1
  have lim : s.heap.NoLimit := e0.mod.nolimit.keeps fun b o e => (e0.bs b o e).1
  have hkind : ∀ y ∈ ps.zip us, scope.names.lookup y.1 = some .local ∨ (scope.names.lookup y.1 = some .cell ∧ ((cellsFrom (s.heap.objs.size + 1) scope.names []).lookup y.1).isSome = true) := fun ⟨n, v⟩ hy => by
    rcases S.par n (List.of_mem_zip hy).1 with q | q
    · exact .inl q
    · exact .inr ⟨q, PySem.W.cellsFrom_some _ _ _ (.inl q)⟩
  refine codeAny_call_function hr.depth (KX _ _ lk) rfl S.co S.gen rfl (PySem.W.codeRec_of KX hcd) (hb _ _ _ _ ?_)
  refine wpAny_newFunctionEnv_cells S.kind hkind fun env he s1 x => ?_
  subst he
  refine ⟨lim.keeps x.toInCall.keep, codeAny_func ?_⟩
  obtain ⟨t, ht, hq⟩ := hbody A outer s H vs Q E (hr.deeper _) hgd hsp
  have I : Inv (cxOf CX P w K mg base N qual scope f cdv A outer s H E) [] (start N vs) H s1 := inv_start S hr.hd e0 hl r x
  refine wpAny_mono (ht.run [] s1 (start N vs) H _ I hq) (fun fl s' hs => ?_) fun e s' hs => hs
  have fin : ∀ {σ' : L2.St} {H' : Hp} {v : V} {u : Value}, Inv (cxOf CX P w K mg base N qual scope f cdv A outer s H E) [] σ' H' s' → RelV v u → Q v H' → L2.CE outer P w H s Q u s' :=
    fun {σ' H' v u} J rv q => ⟨v, H', J.os, J.bare, J.base, J.hok, rv, q⟩
  cases fl with
  | ret u =>
    obtain ⟨v, σ', H', J, rv, q⟩ := hs
    exact fin J rv q
  | next =>
    obtain ⟨σ', H', J, q⟩ := hs
    exact fin (v := V.non) (u := Value.none) J rfl q
  | brk =>
    obtain ⟨_, _, _, q⟩ := hs
    exact False.elim q
  | cont =>
    obtain ⟨_, _, _, q⟩ := hs
    exact False.elim q
section
variable {P : Program} {w : World} {K : PySem.W.Frag} {mg : Str → Option Value} {base : Heap} {ct : CT}
theorem fn_g {x qual : Str} {st : Stmt} {f : Addr} {fd : FuncData} {N ps : List Str} {k : Nat} {body : CS} (F : Fun K x qual st f fd) (S : FnScope N ps (defScope st))
    (h : ∀ (cdv : Value) (A : Around) (outer : List Env) (s : Shared) (H : Hp) (E : XK) (b : Base) (W : WX), (cxOf (L2.CX P w) P w K mg base N qual (defScope st) f cdv A outer s H E).A.guards = some [] → Cz (cxOf (L2.CX P w) P w K mg base N qual (defScope st) f cdv A outer s H E) ct b W k →
      PSsD (cxOf (L2.CX P w) P w K mg base N qual (defScope st) f cdv A outer s H E) ct b W body (defBody st)) :
    FnG P w K mg base (L2.CX P w) (k + 1) f fd ps (SpD K ct (mkF ps.length N.length body)) := by
  have hle : ps.length ≤ N.length := by
    rw [← S.pre, List.length_take]
    omega
  obtain ⟨oc, od, kV, doc, pm, an, cdv, cc, osl, rfl, lk, hcd⟩ := F.ex
  refine fn_ofG lk hcd S (fun vs H Q E q => ?_) (fun A outer s H vs Q E hr hgd q => ?_)
  · obtain ⟨w', M, ds, r, rl, p⟩ := q
    unfold mkF at p
    split at p
    · rename_i hl
      rw [← r.length, hl]
    · exact p.elim
  · obtain ⟨w', M, ds, r, rl, p⟩ := q
    unfold mkF at p
    split at p
    · rename_i hl
      have tk : Takes (cxOf (L2.CX P w) P w K mg base N qual (defScope st) f cdv A outer s H E) (fun cls d _ H => E cls d H) := takes_of rfl rfl rfl rfl
      have hp : PassesOwn (model P w) (cxOf (L2.CX P w) P w K mg base N qual (defScope st) f cdv A outer s H E).A (cxOf (L2.CX P w) P w K mg base N qual (defScope st) f cdv A outer s H E).env (cxOf (L2.CX P w) P w K mg base N qual (defScope st) f cdv A outer s H E).xe := passes_of rfl
      have hb : (⟨w', H⟩ : Base).Ok K := ⟨rl.sub, fun a ha e => rl.notin e ha⟩
      refine ⟨_, h cdv A outer s H E ⟨w', H⟩ (fun cls d _ H => E cls d H) hgd ⟨tk, hp, rfl, S.nd, hb, hr⟩, ?_⟩
      refine ⟨w', _, M, Step.refl _ _, start_sl (N := N.length) r (by rw [hl]; exact hle), rl, ?_⟩
      rw [hl]
      revert p
      cases body (ds.map (fun d => some (Slot.val d)) ++ List.replicate (N.length - ps.length) none) M with
      | ok fl M' =>
        cases fl with
        | ret d => exact fun p w2 v H2 s2 _ r2 x => p w2 v H2 s2 r2 x
        | next en => exact fun p w2 σ2 H2 s2 _ S2 r2 => p w2 _ H2 s2 r2 (by simp only [Rep])
        | exc c fs en => exact fun p w2 cls dx σ2 H2 s2 _ S2 r2 x => p w2 cls dx H2 s2 r2 x
        | brk en => exact fun p => p.elim
        | cont en => exact fun p => p.elim
      | exc c fs M' => exact fun p => p.elim
      | err => exact fun p => p.elim
    · exact p.elim
structure CalleeG (P : Program) (w : World) (K : PySem.W.Frag) (mg : Str → Option Value) (base : Heap) (ct : CT) (x : Str) (k : Nat) (cf : CF) : Prop where
  ex : ∃ (f : Addr) (fd : FuncData) (ps : List Str), FnG P w K mg base (L2.CX P w) k f fd ps (SpD K ct cf) ∧ mg x = some (.ref f) ∧ PySem.W.keepIn K (.ref f) = true ∧ Binds K fd ps []
theorem calleeG_mk {x qual : Str} {st : Stmt} {f : Addr} {fd : FuncData} {ps : List Str} {k : Nat} {cf : CF} (F : Fun K x qual st f fd) (ok : FnG P w K mg base (L2.CX P w) k f fd ps (SpD K ct cf)) (hm : mg x = some (.ref f))
    (h : ∀ (kV doc pm : Value) (an : Option Addr) (cdv ct : Value) (us : List Value), us.length = ps.length → bindArgs (PySem.W.fnOf x qual (defArgs st) (defBody st) (defScope st) .none kV doc pm an cdv ct) ⟨us, []⟩ = pure (ps.zip us)) : CalleeG P w K mg base ct x k cf :=
  ⟨f, fd, ps, ok, hm, F.kp, F.binds h⟩
end
section
variable {X : Cx} {ct : CT} {b : Base} {W : WX} {e e1 e2 e3 o : Expr} {pos : Pos} {es : List Expr}
theorem run_fnSG {k : Nat} {f : Addr} {fd : FuncData} {ps : List Str} {sp : Sp} {E : XK} {pins : List (Addr × Obj)} {σ : L2.St} {H : Hp} {s : Shared} {Q : VK} {us : List Value} {vs : List V} (F : FnG X.prog X.w X.K X.mg X.base (L2.CX X.prog X.w) k f fd ps sp) (hr : Room k X.A) (hgd : X.A.guards = some [])
    (hb : Binds X.K fd ps []) (hx : PassesAt (L2.CX X.prog X.w) X σ E) (I : Inv X pins σ H s) (r : Vals vs us) (h : sp vs H Q E) : wpAny (model X.prog X.w) X.A (call (.ref f) us) (EP X pins σ Q) X.xe s := by
  have hl : us.length = ps.length := by rw [← r.length]; exact F.len _ _ _ _ h
  have b := hb s us I.kIn (by rw [List.append_nil]; exact hl)
  rw [List.append_nil] at b
  refine wpAny_call (codeAny_mono (F.run X.A X.stack s H ⟨us, []⟩ us vs Q E hr hgd I.env0 b r h) fun r s' hq => ?_)
  cases r with
  | error e => exact hx pins H s e s' I hq
  | ok fl =>
    cases fl with
    | ret u => exact I.after hq
    | next => exact False.elim hq
    | brk => exact False.elim hq
    | cont => exact False.elim hq
theorem pd_callG {x : Str} {p : Pos} {k : Nat} {cf : CF} {args : CA} (F : CalleeG X.prog X.w X.K X.mg X.base ct x k cf) (hgd : X.A.guards = some []) (hr : Room k X.A) (tk : Takes X W) (ha : PAD X ct b W args (e :: es)) (hg : Gl X x := by rfl) (hdb : (x == ("__debug__" : Str)) = false := by decide)
    (he : starEach (e :: es) X.env = (false, eval e X.env) :: starEach es X.env := by rfl) (hpl : (backTo pos (starEach es X.env)).any (·.1) = false := by rfl) : PD X ct b W (eFn cf args) (.Call (.Name x p) (e :: es) [] pos) := by
  obtain ⟨fa, fd, ps, F, hm, hk, hb⟩ := F.ex
  refine ⟨fun pins s σ H Q I h => ?_⟩
  obtain ⟨w, en, M, S, rl, p⟩ := h
  refine wpAny_Call_Name_kw (ld_glob I hg hm ?_ hdb)
  refine PySem.W.callWith_K (h₀ := X.base) I.ok.mod.kin hk (thn (ha.run pos pins s σ H (fun vs H1 => SpD X.K ct cf vs H1 Q (WE W σ)) I ?_) fun us s1 ⟨vs, H1, I1, r, q⟩ => ⟨I1.kIn, ?_⟩) he hpl
  · refine ⟨w, en, M, S, rl, (Post.bind p).imp (fun ds M1 q w1 vs H1 s1 r1 x1 => ?_) fun _ _ _ q => q⟩
    exact ⟨w1, M1, ds, x1, r1, q.imp (fun d M2 q w2 v H2 s2 r2 x2 => q w2 v H2 (s1.trans s2) r2 x2) fun c fs M2 q w2 cls dx H2 s2 r2 x2 => q w2 cls dx H2 (s1.trans s2) (S.step (s1.trans s2)) r2 x2⟩
  · exact run_fnSG F hr hgd hb (passAt tk σ) I1 r q
mutual
def pyD : D → Option PyData
  | .non => some .none
  | .bl k => some (.bool k)
  | .int i => some (.int i)
  | .str x => some (.str x)
  | .tup xs => (pyDs xs).map .tuple
  | .lst xs => (pyDs xs).map .list
  | _ => none
def pyDs : List D → Option (List PyData)
  | [] => some []
  | x :: xs => (pyD x).bind fun p => (pyDs xs).map fun ps => p :: ps
end
mutual
theorem reads_of {w : Wd} {M : Store} {H : Hp} {pins : List (Addr × Obj)} {σ : L2.St} {s : Shared} (I : Inv X pins σ H s) (rl : Rl X.K ct w M H) : ∀ (d : D) (v : V) (u : Value) (p : PyData), Rep X.K w d v → RelV v u → pyD d = some p → ∃ as, Reads s.heap u p as
  | .non, v, u, p, h, r, e => by
    simp only [Rep] at h
    subst h
    simp only [pyD, Option.some.injEq] at e
    subst e
    obtain rfl : u = Value.none := r
    exact ⟨_, .none⟩
  | .bl k, v, u, p, h, r, e => by
    simp only [Rep] at h
    subst h
    simp only [pyD, Option.some.injEq] at e
    subst e
    obtain rfl : u = Value.bool k := r
    exact ⟨_, .bool k⟩
  | .int i, v, u, p, h, r, e => by
    simp only [Rep] at h
    subst h
    simp only [pyD, Option.some.injEq] at e
    subst e
    obtain ⟨t, rfl⟩ := r
    exact ⟨_, .int i t⟩
  | .str i, v, u, p, h, r, e => by
    simp only [Rep] at h
    subst h
    simp only [pyD, Option.some.injEq] at e
    subst e
    obtain ⟨t, rfl⟩ := r
    exact ⟨_, .str i t⟩
  | .tup xs, v, u, p, h, r, e => by
    simp only [Rep] at h
    obtain ⟨a, vs, rfl, h1, h2⟩ := h
    simp only [pyD] at e
    obtain ⟨ps, e1, rfl⟩ := Option.map_eq_some_iff.mp e
    cases r
    obtain ⟨its, rv, pl, _⟩ := I.tuple (rl.sub.sqt h1)
    obtain ⟨as, q⟩ := readss_of I rl xs vs its ps h2 rv e1
    obtain ⟨o, ho, hc, n, hd⟩ := pl
    exact ⟨_, .tuple ho hc hd (by simpa using q)⟩
  | .lst xs, v, u, p, h, r, e => by
    simp only [Rep] at h
    obtain ⟨a, vs, rfl, h1, h2⟩ := h
    simp only [pyD] at e
    obtain ⟨ps, e1, rfl⟩ := Option.map_eq_some_iff.mp e
    cases r
    obtain ⟨its, rv, pl, _⟩ := I.list (SqL.of (rl.sub.lst h1))
    obtain ⟨as, q⟩ := readss_of I rl xs vs its ps h2 rv e1
    obtain ⟨o, n, ho, hc, hdn, hd⟩ := pl
    exact ⟨_, .list ho hc hd (by simpa using q)⟩
  | .dic _ _, v, u, p, h, r, e => by simp only [pyD] at e; cases e
  | .ref _, v, u, p, h, r, e => by simp only [pyD] at e; cases e
  | .scr _, v, u, p, h, r, e => by simp only [pyD] at e; cases e
theorem readss_of {w : Wd} {M : Store} {H : Hp} {pins : List (Addr × Obj)} {σ : L2.St} {s : Shared} (I : Inv X pins σ H s) (rl : Rl X.K ct w M H) : ∀ (d : List D) (v : List V) (u : List Value) (p : List PyData), RepL X.K w d v → Vals v u → pyDs d = some p → ∃ as, ReadsAll s.heap u p as
  | [], v, u, p, h, r, e => by
    rw [RepL.nil_iff] at h
    subst h
    cases r
    simp only [pyDs, Option.some.injEq] at e
    subst e
    exact ⟨_, .nil⟩
  | x :: xs, v, u, p, h, r, e => by
    rw [RepL.cons_iff] at h
    obtain ⟨v1, r1, rfl, h1, h2⟩ := h
    cases r with
    | cons r0 rs =>
      simp only [pyDs] at e
      obtain ⟨p1, e1, e⟩ := Option.bind_eq_some_iff.mp e
      obtain ⟨ps, e2, rfl⟩ := Option.map_eq_some_iff.mp e
      obtain ⟨as, q1⟩ := reads_of I rl x v1 _ p1 h1 r0 e1
      obtain ⟨bs, q2⟩ := readss_of I rl xs r1 _ ps h2 rs e2
      exact ⟨_, .cons q1 q2⟩
end
end
theorem law_callG {P : Program} {w : World} {K : PySem.W.Frag} {mg mb : Str → Option Value} {CX : CXT} {k : Nat} {fa a : Addr} {fd : FuncData} {x : Str} {sp : Sp} {s₁ : Shared} {vs : List Value} {ns : List Int}
    (KX : K.In s₁.heap) (hns : s₁.heap.Ns mainGlobals mg) (hb : s₁.heap.Ns builtinsNs mb) (hbb : ∀ x : Str, x ≠ "__name__" → mb x = bootBuiltins x) (hlim : s₁.heap.NoLimit) (hg : s₁.gens = #[])
    (ha : s₁.heap.get? a = some { cls := .type "list", data := .seq vs.toArray }) (hi : IntsAre vs ns) (hl : ns.length ≤ sizeLine) (hr : Room k callerA)
    (F : ∀ base : Heap, K.In base → base.Ns mainGlobals mg → FnG P w K mg base CX k fa fd [x] sp) (hbind : ∀ (s : Shared) (u : Value), BindsTo s fd ⟨[u], []⟩ [(x, u)])
    (hsp : ∀ H : Hp, Only H → SqL K H a (ns.map V.int) → sp [.ref a] H (fun v _ => v = .bl true) fun _ _ _ => False)
    (hCX : ∀ H e s', CX [] H s₁ (fun _ _ _ => False) e s' → False) :
    codeAny (model P w) callerA (.call (.ref fa) ⟨[.ref a], []⟩) (fun r s' => r = .ok (.ret (.bool true)) ∧ OldK s₁.heap s'.heap ∧ s'.os = s₁.os ∧ AllBare s'.gens) s₁ := by
  have rv := vals_ints hi
  have lenV := hi.length
  have core : ∀ H : Hp, Only H → SqL K H a (ns.map V.int) → HOk P w H s₁.heap → (∀ b, H b ≠ none → b = a) → (H a ≠ none → K.lookup a = none) →
      codeAny (model P w) callerA (.call (.ref fa) ⟨[.ref a], []⟩) (fun r s' => r = .ok (.ret (.bool true)) ∧ OldK s₁.heap s'.heap ∧ s'.os = s₁.os ∧ AllBare s'.gens) s₁ := by
    intro H hO hS hok hA hK
    have base_of : ∀ {b : Addr} {o : Obj}, s₁.heap.get? b = some o → H b = none → (hidT s₁.heap H).get? b = some o := fun e n => hidT_get e n
    have noA : ∀ {b : Addr} {o : Obj} {es : Array DictEntry} {ep : Nat}, s₁.heap.get? b = some o → o.data = .dict es ep → H b = none := fun {b o es ep} e d => by
      cases q : H b with
      | none => rfl
      | some u =>
        have e' : b = a := hA b (by rw [q]; simp)
        subst e'
        rw [ha] at e; cases e
        have d' : Data.seq vs.toArray _ = Data.dict es ep := d
        cases d'
    have nsK : ∀ {b : Addr} {m : Str → Option Value}, s₁.heap.Ns b m → (hidT s₁.heap H).Ns b m := fun {b m} ⟨o, es, ep, e, d, r⟩ => ⟨o, es, ep, base_of e (noA e d), d, r⟩
    have hKb : K.In (hidT s₁.heap H) := fun b o e => base_of (KX b o e) (by
      cases q : H b with
      | none => rfl
      | some u =>
        have e' : b = a := hA b (by rw [q]; simp)
        subst e'
        rw [hK (by rw [q]; simp)] at e; cases e)
    have hM : Mod K mg (hidT s₁.heap H) := ⟨hKb, nsK hns, ⟨mb, nsK hb, hbb⟩, let ⟨mc, h1, h2⟩ := hlim; ⟨mc, nsK h1, h2⟩⟩
    have e0 : Env0 P w K mg (hidT s₁.heap H) callerA [] s₁ H := ⟨rfl, hM, fun b o e => of_hidT e, Nat.le_of_eq (hidT_size _ _), trivial, fun b hb => absurd (show b ∈ ([] : List Addr) from hb) (by simp), hok, .of_eq hg⟩
    refine codeAny_mono ((F _ hKb (nsK hns)).run callerA [] s₁ H ⟨[.ref a], []⟩ [.ref a] [.ref a] _ _ hr rfl e0 (hbind s₁ (.ref a)) (.cons rfl .nil) (hsp H hO hS)) fun r s' h => ?_
    cases r with
    | error e => exact (hCX H e s' h).elim
    | ok fl =>
      cases fl with
      | next => exact False.elim h
      | brk => exact False.elim h
      | cont => exact False.elim h
      | ret u =>
        obtain ⟨v, H', os, bare, un, hok', r', q⟩ := h
        have q' : v = .bl true := q
        subst q'
        obtain rfl : u = Value.bool true := r'
        refine ⟨rfl, OldK.of_keep fun b o e => ?_, os, bare⟩
        cases q : H b with
        | none => exact un.keep b o e q (by intro z; exact absurd (show b ∈ ([] : List Addr) from z) (by simp)) (by simp)
        | some u =>
          rcases hO b with z | ⟨ob, xs, z⟩
          · rw [q] at z; cases z
          · have z2 := un.frzs b ob _ z
            obtain ⟨e1, _⟩ := hok b _ z
            obtain ⟨e2, _⟩ := hok' b _ z2
            rw [e] at e1; cases e1
            exact e2
  cases hk : K.lookup a with
  | some o =>
    have e := KX a o hk
    rw [ha] at e
    cases e
    refine core (fun _ => none) (fun _ => .inl rfl) (.inr ⟨_, vs.toArray, _, hk, rfl, rfl, rfl, by rw [List.size_toArray, lenV]; exact hl, by simpa using rv⟩) (fun b u z => by have z' : (none : Option HO) = some u := z; cases z') (fun b z => absurd rfl z) fun z => absurd rfl z
  | none =>
    refine core (fun b => if b = a then some (.frz { cls := .type "list", data := .seq vs.toArray } (.lst (ns.map V.int))) else none) (fun b => ?_) (.inl (.inr ⟨{ cls := .type "list", data := .seq vs.toArray }, if_pos rfl⟩)) (fun b u z => ?_) (fun b z => ?_) fun _ => hk
    · by_cases hb : b = a
      · exact .inr ⟨_, _, if_pos hb⟩
      · exact .inl (if_neg hb)
    · by_cases hb : b = a
      · have z' := (if_pos hb).symm.trans z
        cases z'
        subst hb
        exact ⟨ha, by rw [List.length_map]; exact hl, vs, _, rv, ha⟩
      · have z' := (if_neg hb).symm.trans z
        cases z'
    · by_cases hb : b = a
      · exact hb
      · exact absurd (if_neg hb) z
theorem walk_dl {l : PySem.W.OpenLaw} {n k : Nat} {q : Program} {loose : List Str} {XP : (Str → Option Value) → Heap → Prop} {YP : World → Heap → Prop} {d : DefRec} {K : Params → PySem.W.Frag} {x : Str} {cf : CF}
    (hn : l.most = some n) (hn2 : n ≤ sizeLine) (hdf : d.params.defaults = []) (hr : Room k callerA)
    (hY : ∀ (w : World) (h : Heap), YP w h → (K w.params).In h)
    (F : ∀ (w : World) (mg : Str → Option Value) (fa : Addr) (h : Heap), (K w.params).In h → h.Ns mainGlobals mg → mg d.name = some (.ref fa) →
      ∃ (fd : FuncData) (ct : CT), ct.t = [] ∧ (∀ (s : Shared) (u : Value), BindsTo s fd ⟨[u], []⟩ [(x, u)]) ∧
        ∀ base : Heap, (K w.params).In base → base.Ns mainGlobals mg → FnG l.prog w (K w.params) mg base (L2.CX l.prog w) k fa fd [x] (SpD (K w.params) ct cf))
    (plain : ∀ ns : List Int, ns.length ≤ n → ∃ M, cf [.scr ns] [] = .ok (.bl true) M) :
    PySem.W.WalkO q loose XP YP l.row.toRowW d [] (fun f vs => PySem.call f vs) := by
  refine Att.attach_call hn hdf fun w s₀ s₁ mg mb fa o pm cd doc a vs ns G Y ho hd hcd hmg hobj hints hlen hg => ?_
  have KX := hY w _ Y
  obtain ⟨fd, ct, ht, hb, hF⟩ := F w mg fa _ KX G.T.g hmg
  refine law_callG KX G.T.g G.T.b G.T.builtins G.T.nolimit hg hobj hints (Nat.le_trans hlen hn2) hr hF hb (fun H hO hS => ?_) fun H e s' h => ?_
  · obtain ⟨M, e⟩ := plain ns hlen
    have nice : ∀ a o, H a = some o → NiceH o := fun b o q => by
      rcases hO b with z | ⟨ob, xs, z⟩
      · rw [q] at z
        cases z
      · rw [q] at z
        cases z
        trivial
    refine ⟨⟨[], H⟩, [], [.scr ns], .one ?_, ⟨fun b o q => .inl q, rfl, List.nodup_nil, fun n o q => by simp at q, nice, fun p hp => by rw [ht] at hp; cases hp⟩, ?_⟩
    · simp only [Rep]
      refine ⟨a, rfl, ?_⟩
      rcases hS with (z | ⟨o, z⟩) | z
      · rcases hO a with y | ⟨ob, xs, y⟩
        · rw [z] at y
          cases y
        · rw [z] at y
          cases y
      · exact .inl ⟨o, z⟩
      · exact .inr (.inr z)
    · rw [e]
      intro w' v H' _ _ x
      simp only [Rep] at x
      exact x
  · obtain ⟨_, _, _, _, _, _, _, _, _, _, _, _, z⟩ := h
    exact z.elim
def kNiceB (K : PySem.W.Frag) : Bool := K.all fun p => match p.2.cls with
  | .type t => !(t == "tuple") || p.2.dict.isNone
  | _ => true
theorem lk_mem : ∀ {K : List (Addr × Obj)} {a : Addr} {o : Obj}, K.lookup a = some o → (a, o) ∈ K
  | [], _, _, e => by cases e
  | (c, x) :: r, a, o, e => by
    rw [List.lookup_cons] at e
    split at e
    · rename_i h
      cases e
      have : a = c := by simpa using h
      subst this
      exact List.mem_cons_self
    · exact List.mem_cons_of_mem _ (lk_mem e)
theorem kNice_of {K : PySem.W.Frag} (h : kNiceB K = true) : KNice K := fun a o e hc => by
  have hm : (a, o) ∈ K := lk_mem e
  have := List.all_eq_true.mp h _ hm
  simp only [hc, beq_self_eq_true, Bool.not_true, Bool.false_or, Option.isNone_iff_eq_none] at this
  exact this
theorem glb_str {K : PySem.W.Frag} {mg : Str → Option Value} {x z : Str} {t : Tok} (h : mg x = some (.str z t)) : Glb K mg x (.str z) := ⟨_, V.str z, h, ⟨t, rfl⟩, fun _ => by simp only [Rep]⟩
theorem glb_int {K : PySem.W.Frag} {mg : Str → Option Value} {x : Str} {z : Int} {t : Tok} (h : mg x = some (.int z t)) : Glb K mg x (.int z) := ⟨_, V.int z, h, ⟨t, rfl⟩, fun _ => by simp only [Rep]⟩
end DL
namespace DL
open PySem PySem.Spec PyProof.Rows L2
theorem compL_map {t : Tg} {tt : CB} {te : CE} {en : En} {M : Store} {g : D → Bool} {f : D → D} : ∀ {xs : List D}, (∀ x ∈ xs, ∃ en1, t.put x en = some en1 ∧ tt en1 M = .ok (g x) M ∧ (g x = true → te en1 M = .ok (f x) M)) →
    compL t [] tt te en xs M = .ok ((xs.filter g).map f) M
  | [], _ => by simp [compL]
  | x :: xs, h => by
    obtain ⟨en1, h1, h2, h3⟩ := h x List.mem_cons_self
    have ih := compL_map (xs := xs) fun y hy => h y (List.mem_cons_of_mem _ hy)
    unfold compL
    simp only [gOk_nil, if_true, h1, h2, Out.calm_ok, Out.bind_ok]
    by_cases hg : g x = true
    · simp [hg, h3 hg, ih]
    · simp [hg, ih]
theorem compL_inv {t : Tg} {te : CE} {en : En} {xs : List D} (P : Nat → List D → Store → Prop) : ∀ (n i : Nat) (acc : List D) (M : Store), xs.length = i + n → P i acc M →
    (∀ i x acc M, xs[i]? = some x → P i acc M → ∃ en1 d M', t.put x en = some en1 ∧ te en1 M = .ok d M' ∧ P (i + 1) (acc ++ [d]) M') → ∃ r M', compL t [] tYesD te en (xs.drop i) M = .ok r M' ∧ P xs.length (acc ++ r) M'
  | 0, i, acc, M, hn, p, h => by
    rw [List.drop_eq_nil_of_le (by omega)]
    exact ⟨[], M, by simp [compL], by rw [List.append_nil, hn]; exact p⟩
  | n + 1, i, acc, M, hn, p, h => by
    have hi : i < xs.length := by omega
    obtain ⟨en1, d, M1, h1, h2, h3⟩ := h i xs[i] acc M (List.getElem?_eq_getElem hi) p
    obtain ⟨r, M2, e1, e2⟩ := compL_inv P n (i + 1) (acc ++ [d]) M1 (by omega) h3 h
    rw [List.drop_eq_getElem_cons hi]
    refine ⟨d :: r, M2, ?_, by rw [← List.append_cons] at e2; exact e2⟩
    unfold compL
    simp [h1, tYesD, h2, e1]
inductive Pl : Nat → D → Prop
  | int (n : Nat) (i : Int) : Pl (n + 1) (.int i)
  | str (n : Nat) (x : Str) : Pl (n + 1) (.str x)
  | bl (n : Nat) (x : Bool) : Pl (n + 1) (.bl x)
  | non (n : Nat) : Pl (n + 1) .non
  | tup (n : Nat) (xs : List D) : (∀ x ∈ xs, Pl n x) → Pl (n + 1) (.tup xs)
  | lst (n : Nat) (xs : List D) : (∀ x ∈ xs, Pl n x) → Pl (n + 1) (.lst xs)
  | dic (n : Nat) (ks : List Key) (xs : List D) : ks.Nodup → ks.length = xs.length → (∀ x ∈ xs, Pl n x) → Pl (n + 1) (.dic ks xs)
theorem eqL_refl {f : D → D → Option Bool} : ∀ {xs : List D}, (∀ x ∈ xs, f x x = some true) → eqL f xs xs = some true
  | [], _ => rfl
  | x :: xs, h => by
    unfold eqL
    rw [h x List.mem_cons_self, eqL_refl fun y hy => h y (List.mem_cons_of_mem _ hy)]
    rfl
theorem hitsD_refl {f : D → D → Option Bool} {ls : List Key} {ys : List D} (hn : ls.Nodup) (hl : ls.length = ys.length) (hf : ∀ x ∈ ys, f x x = some true) :
    ∀ {ks : List Key} {xs : List D} {i : Nat}, ks.length = xs.length → (∀ j k, ks[j]? = some k → ls[i + j]? = some k) → (∀ j x, xs[j]? = some x → ys[i + j]? = some x) → hitsD f ls ys ks xs = some true
  | [], [], _, _, _, _ => rfl
  | [], _ :: _, _, h, _, _ => by cases h
  | _ :: _, [], _, h, _, _ => by cases h
  | k :: ks, x :: xs, i, h, hk, hx => by
    have k0 := hk 0 k rfl
    have x0 := hx 0 x rfl
    rw [Nat.add_zero] at k0 x0
    have ih := hitsD_refl hn hl hf (ks := ks) (xs := xs) (i := i + 1) (by simpa using h) (fun j k q => by have := hk (j + 1) k (by simpa using q); rwa [Nat.add_assoc, Nat.add_comm 1 j]) (fun j k q => by have := hx (j + 1) k (by simpa using q); rwa [Nat.add_assoc, Nat.add_comm 1 j])
    unfold hitsD
    simp [find_nodup hn k0 x0, hf x (List.mem_of_getElem? x0), ih]
theorem eqF_refl : ∀ {n : Nat} {d : D}, Pl n d → eqF n d d = some true := fun {n d} h => by
  induction h with
  | int n i => simp [eqF]
  | str n x => simp [eqF]
  | bl n x => simp [eqF]
  | non n => rfl
  | tup n xs _ ih => exact eqL_refl ih
  | lst n xs _ ih => exact eqL_refl ih
  | dic n ks xs hn hl _ ih =>
    unfold eqF
    simp only [if_true]
    exact hitsD_refl hn hl ih (i := 0) hl (fun j k q => by simpa using q) (fun j x q => by simpa using q)
theorem Pl.qOk {n : Nat} {d : D} (h : Pl n d) : qOk d d = true := by cases h <;> rfl
def tk (ns : List Str) : List Key := ns.map Sum.inr
def tx (ns : List Str) (f : Str → Int) : List D := ns.map fun n => .int (f n)
end DL
namespace DL
open PySem PySem.Spec PyProof.Rows L2
section
variable (X : Cx) (ct : CT) (b : Base) (W : WX)
end
def OkW (K : PySem.W.Frag) (ct : CT) (w : Wd) (M : Store) (H : Hp) (d : D) (Q : VK) : Prop := ∀ w' v H', Step w H w' H' → Rl K ct w' M H' → RW K w' H' d v → Q v H'
def CallW (X : Cx) (ct : CT) (fv : Value) (g : List D → Option D) : Prop := ∃ r, CallR X fv r ∧ ∀ w M H ds vs d Q, Rl X.K ct w M H → Vws X.K w H ds vs → g ds = some d → OkW X.K ct w M H d Q → r vs H Q
section
variable {X : Cx} {ct : CT} {b : Base} {W : WX} {e e1 e2 e3 : Expr} {pos : Pos} {es : List Expr}
theorem CallW.mk' {fv : Value} {g : List D → Option D}
    (h : ∀ (pins : List (Addr × Obj)) (s : Shared) (σ : L2.St) (H : Hp) (vs : List V) (us : List Value) (Q : VK) (w : Wd) (M : Store) (ds : List D) (d : D), Inv X pins σ H s → Vals vs us → Rl X.K ct w M H → Vws X.K w H ds vs → g ds = some d →
      OkW X.K ct w M H d Q → wpAny (model X.prog X.w) X.A (call fv us) (EP X pins σ Q) X.xe s) : CallW X ct fv g :=
  ⟨fun vs H Q => ∃ w M ds d, Rl X.K ct w M H ∧ Vws X.K w H ds vs ∧ g ds = some d ∧ OkW X.K ct w M H d Q,
    fun pins s σ H vs us Q I rx ⟨w, M, ds, d, rl, hx, e, k⟩ => h pins s σ H vs us Q w M ds d I rx rl hx e k,
    fun w M H ds vs d Q rl hx e k => ⟨w, M, ds, d, rl, hx, e, k⟩⟩
end
end DL
namespace DL
open PySem PySem.Spec PyProof.Rows L2
section
variable {X : Cx} {ct : CT} {b : Base} {W : WX} {e e1 e2 e3 : Expr} {pos : Pos} {es : List Expr}
end
end DL
namespace DL
open PySem PySem.Spec PyProof.Rows L2
def eSM (g : Str → List D → Option D) (f : CE) (args : CA) : CE := fun en M => (f en M).bind fun d M1 => match d with
  | .str z => (args en M1).bind fun ds M2 => ofO (g z ds) M2
  | _ => .err
def optE : Option CE → En → Store → Out (Option Int)
  | none, _, M => .ok none M
  | some f, en, M => (f en M).bind fun d M1 => match d with
    | .int i => .ok (some i) M1
    | _ => .err
def eSlS (f : CE) (lo hi : Option CE) : CE := fun en M => (f en M).bind fun d M1 => match d with
  | .str z => (optE lo en M1).bind fun l M2 => (optE hi en M2).bind fun u M3 => if z.length ≤ sizeLine then .ok (.str (cutS z l u)) M3 else .err
  | _ => .err
section
variable (X : Cx) (ct : CT) (b : Base) (W : WX)
def TOD (o : Option CE) : TO := fun σ H Q => ∃ w en M, Sl X.K ct b w en σ H ∧ Rl X.K ct w M H ∧ Post (optE o en M)
  (fun d M' => ∀ w' H', Step w H w' H' → Rl X.K ct w' M' H' → Q d H')
  (fun c fs M' => ∀ w' cls dx H', Step w H w' H' → Sl X.K ct b w' en σ H' → Rl X.K ct w' M' H' → ExV X.K ct w' c fs cls dx H' → W cls dx σ H')
abbrev POD (o : Option CE) (e : Option Expr) : Prop := PO X e (TOD X ct b W o)
def SMet (id : String) (g : Str → List D → Option D) : Prop := ∃ r, MtR X id r ∧ ∀ w M H z ds vs d Q, Rl X.K ct w M H → RepL X.K w ds vs → g z ds = some d → Ok1 X.K ct w M H d Q → r (.str z) vs H Q
end
section
variable {X : Cx} {ct : CT} {b : Base} {W : WX} {o e e1 e2 e3 : Expr} {pos p2 : Pos} {es : List Expr}
theorem PO.wk {e : Option Expr} {t t' : TO} (h : PO X e t) (m : ∀ σ H Q, t' σ H Q → t σ H Q) : PO X e t' := ⟨fun pins s σ H Q I q => h.run pins s σ H Q I (m σ H Q q)⟩
theorem pod_none : POD X ct b W none none := PO.wk po_none fun σ H Q h => by
  obtain ⟨w, en, M, S, rl, p⟩ := h
  exact p w H (Step.refl _ _) rl
theorem pod_some {f : CE} (h : PD X ct b W f e) : POD X ct b W (some f) (some e) := PO.wk (po_some h) fun σ H Q h => by
  obtain ⟨w, en, M, S, rl, p⟩ := h
  refine ⟨w, en, M, S, rl, (Post.bind p).imp (fun d M1 q w1 v H1 s1 r1 x1 => ?_) fun _ _ _ q => q⟩
  split at q
  · rename_i i
    simp only [Rep] at x1
    exact ⟨i, x1, q w1 H1 s1 r1⟩
  · exact q.elim
theorem pd_slS {f : CE} {lo hi : Option CE} {el eu : Option Expr} (he : PD X ct b W f e) (hl : POD X ct b W lo el) (hu : POD X ct b W hi eu) : PD X ct b W (eSlS f lo hi) (.Subscript e (.Slice el eu none p2) pos) :=
  PE.wk (pe_slice sl_str he hl hu) fun σ H Q h => by
    obtain ⟨w, en, M, S, rl, p⟩ := h
    refine ⟨w, en, M, S, rl, (Post.bind p).imp (fun d M1 q w1 v H1 s1 r1 x1 => ?_) fun _ _ _ q => q⟩
    split at q
    · rename_i z
      simp only [Rep] at x1
      subst x1
      refine ⟨w1, en, M1, S.step s1, r1, (Post.bind q).imp (fun l M2 q w2 H2 s2 r2 => ?_) fun c fs M2 q w2 cls dx H2 s2 S2 r2 x2 => q w2 cls dx H2 (s1.trans s2) S2 r2 x2⟩
      refine ⟨w2, en, M2, S.step (s1.trans s2), r2, (Post.bind q).imp (fun u M3 q w3 H3 s3 r3 => ?_) fun c fs M2 q w3 cls dx H3 s3 S3 r3 x3 => q w3 cls dx H3 ((s1.trans s2).trans s3) S3 r3 x3⟩
      split at q
      · rename_i hz
        exact ⟨z, rfl, hz, q w3 _ H3 ((s1.trans s2).trans s3) r3 (by simp only [Rep])⟩
      · exact q.elim
    · exact q.elim
theorem pd_sm {id : String} {name : Str} {g : Str → List D → Option D} {f : CE} {args : CA} {apos cpos : Pos} (hm : SMet X ct id g) (pa : PlainAttrs "str") (slot : PySem.Slot "str" name id) (hty : typeOf (.builtin id) = pure (.type "method_descriptor"))
    (ho : PD X ct b W f o) (ha : PAD X ct b W args (e :: es))
    (hbase : attributeBase o name X.env (eval o X.env) = eval o X.env := by rfl)
    (hfew : ((backTo cpos (starEach (e :: es) X.env)).all (fun x => !x.1) && (backToKw cpos (keywordEach [] X.env)).all (fun x => x.1.isSome)
      && decide ((e :: es).length + ([] : List Keyword).length + (if ([] : List Keyword).isEmpty then 0 else 1) < 30)) = true := by rfl)
    (hline : (apos.endLine == cpos.line) = true := by rfl) (hs : starEach (e :: es) X.env = (false, eval e X.env) :: starEach es X.env := by rfl) (hplain : (backTo cpos (starEach es X.env)).any (·.1) = false := by rfl) :
    PD X ct b W (eSM g f args) (.Call (.Attribute o name apos) (e :: es) [] cpos) := by
  obtain ⟨r, hmt, hr⟩ := hm
  refine PE.wk (pe_bm pa slot hty hmt ho ha hbase hfew hline hs hplain) fun σ H Q h => ?_
  obtain ⟨w, en, M, S, rl, p⟩ := h
  refine ⟨w, en, M, S, rl, (Post.bind p).imp (fun d M1 q w1 v1 H1 s1 r1 x1 => ?_) fun _ _ _ q => q⟩
  split at q
  case h_2 => exact q.elim
  rename_i z
  simp only [Rep] at x1
  subst x1
  refine ⟨by simp [tyV], w1, en, M1, S.step s1, r1, (Post.bind q).imp (fun ds M2 q w2 vs H2 s2 r2 x2 => ?_) fun c fs M2 q w2 cls dx H2 s2 S2 r2 x2 => q w2 cls dx H2 (s1.trans s2) S2 r2 x2⟩
  obtain ⟨d, ed, q⟩ := ofO_post q
  exact hr w2 M2 H2 z ds vs d Q r2 x2 ed fun w3 v H3 s3 r3 x3 => q w3 v H3 ((s1.trans s2).trans s3) r3 x3
end
end DL
namespace DL
open PySem PySem.Spec PyProof.Rows L2
theorem minT_raw {prog : Program} {w : World} {A : Around} {E : Value → Shared → Prop} {s : Shared} {l : Addr} {its : List Value} {ns : List Int} {Q : Value → Shared → Prop} (hh : A.handled = none) (hl : s.heap.IsTuple l its.toArray) (hi : IntsAre its ns) (hne : 0 < ns.length)
    (h : ∀ h' tk M t', (∀ b o, s.heap.get? b = some o → h'.get? b = some o) → M ∈ ns → (∀ a, a ∈ ns → M ≤ a) → Q (.int M t') { s with heap := h', toks := tk }) : wpAny (model prog w) A (call (.builtin "min") [.ref l]) Q E s := by
  obtain ⟨xs, e⟩ := hi.allInts.items
  have hn : numsOf (intItems xs).toList = ns := by rw [← e]; exact hi.numsOf
  rw [nums_intItems] at hn
  subst hn
  rw [e] at hl
  have hsz : 0 < xs.size := by simpa using hne
  obtain ⟨o, ho, hc, n, hd⟩ := id hl
  have hlt : l < s.heap.objs.size := Heap.lt_size ho
  have hle : l ≠ s.heap.objs.size := Nat.ne_of_lt hlt
  refine PySem.call_min_walk (wpAny_pyIter_tuple hl ?_)
  refine ⟨s.heap.objs.size, _, _, _, _, _, _, rfl, Walks.tuple (A := A.in1) hh _ l hle (intItems xs), ⟨⟨_, Heap.get?_push_size _ rfl, rfl, rfl⟩, hl.at fun o e => Heap.get?_push_of_some _ e⟩, fun b hb => ?_, by simpa [intItems] using hsz, CmpOf.ints_lt (numAt xs) (fun _ _ => intItems_at), fun v h' tk hP hk => ?_⟩
  · rcases List.mem_cons.mp hb with rfl | hb
    · exact Heap.lt_size (Heap.get?_push_size _ rfl)
    · obtain rfl := List.mem_singleton.mp hb
      exact Heap.lt_size (Heap.get?_push_of_some _ ho)
  · obtain ⟨t, rfl⟩ := intItems_at hP
    rw [show (intItems xs).size = xs.size by simp [intItems]]
    obtain ⟨h1, h2⟩ := argBest_lt (numAt xs) (xs.size - 1)
    refine h h' tk _ t (fun b o e => hk b o (fun hm => absurd (Heap.lt_size e) ((List.mem_singleton.mp hm) ▸ Nat.lt_irrefl _)) (Heap.get?_push_of_some _ e)) ?_ fun a ha => ?_
    · rw [numAt_eq]; exact PySem.getD_mem (by rw [List.length_map, Array.length_toList]; omega)
    · obtain ⟨j, hj, rfl⟩ := mem_getD ha
      rw [List.length_map, Array.length_toList] at hj
      rw [← numAt_eq]; exact h2 j (by omega)
section
variable {X : Cx} {ct : CT}
def gMinT : List D → Option D
  | [.int i, .int j] => some (.int (if j < i then j else i))
  | [.tup xs] => (intsD xs).bind fun ns => ns.min?.map D.int
  | [.lst xs] => (intsD xs).bind fun ns => ns.min?.map D.int
  | _ => none
theorem min_is {ns : List Int} {m k : Int} (h : ns.min? = some k) (h1 : m ∈ ns) (h2 : ∀ a, a ∈ ns → m ≤ a) : m = k := by
  have h3 := List.min?_eq_some_iff.mp h
  have h4 := h3.2 m h1
  have h5 := h2 k h3.1
  omega
theorem cv_minT (hc : X.calm = true) : CallV X ct (.builtin "min") gMinT := CallV.mk' fun pins s σ H vs us Q w M ds d I rx rl hx e k => by
  unfold gMinT at e
  split at e
  · cases e
    obtain ⟨v, v', rfl, h, h'⟩ := hx.two
    cases h
    cases h'
    exact call_min2 hc pins s σ H _ us Q I rx ⟨_, _, rfl, k.now rl rfl⟩
  · obtain ⟨ns, e1, e2⟩ := Option.bind_eq_some_iff.mp e
    obtain ⟨m, e3, e4⟩ := Option.map_eq_some_iff.mp e2
    cases e4
    obtain ⟨v, rfl, h⟩ := hx.one
    obtain ⟨h0, a, vs, rfl, h1, h2⟩ := h
    have := intsD_rep h2 e1
    subst this
    obtain ⟨its, rv, hl, _⟩ := I.tuple h1
    rw [Vals.ref1 rx]
    refine minT_raw (I.ok.hd hc) hl rv.ints (List.length_pos_of_mem (List.min?_eq_some_iff.mp e3).1) fun h' tk m' t' hk g1 g2 => ?_
    rw [min_is e3 g1 g2]
    exact ⟨.int _, H, I.kept hk, ⟨_, rfl⟩, k.now rl rfl⟩
  · obtain ⟨ns, e1, e2⟩ := Option.bind_eq_some_iff.mp e
    obtain ⟨m, e3, e4⟩ := Option.map_eq_some_iff.mp e2
    cases e4
    obtain ⟨v, rfl, h⟩ := hx.one
    obtain ⟨a, vs, rfl, h1, h2⟩ := h
    have := intsD_rep h2 e1
    subst this
    refine cr_min hc pins s σ H _ us Q I rx ⟨a, ns, rfl, SqL.of h1, List.length_pos_of_mem (List.min?_eq_some_iff.mp e3).1, fun m' g1 g2 => ?_⟩
    rw [min_is e3 g1 g2]
    exact k.now rl rfl
  · cases e
end
end DL
namespace DL
open PySem PySem.Spec PyProof.Rows L2
section
variable {X : Cx} {ct : CT} {b : Base} {W : WX} {e e1 e2 e3 : Expr} {pos : Pos}
end
end DL
namespace PySem
open Sem (wp)
open AutoSeq1 (wpAny_loadPart')
theorem meets_enum1 {v : Value} {o : Obj} {H : Heap → Prop} (B : Begins v o H) :
    Meets (Builtin.«enumerate.__new__» ⟨[.type "enumerate", v], []⟩) (fun _ R s => H s.heap ∧
      R (.ok (.ret (.ref (s.heap.push o).objs.size))) { s with heap := (s.heap.push o).push { cls := .type "enumerate", data := .fields #[.none, .bool false, .ref s.heap.objs.size, rawInt 0, .none, .none] } }) :=
  .of_wp fun prog w A R s h => by
    obtain ⟨hp, g, d, tk, os⟩ := s; obtain ⟨h1, h⟩ := h
    have hsub := sub_enumerate
    have q1 : ∀ {A' : Around} {E : Value → Shared → Prop} {Q : Value → Shared → Prop}, Q (.ref hp.objs.size) ⟨hp.push o, g, d, tk, os⟩ → wpAny (model prog w) A' (pyIter v) Q E ⟨hp, g, d, tk, os⟩ :=
      fun q => B.iter prog w _ _ ⟨hp, g, d, tk, os⟩ _ h1 q
    wp_walk using q1
    refine wpAny_stack_any fun st => wpAny_pure ?_
    split
    · rename_i c _ _ _ _ _
      cases (c == Value.type "enumerate")
      · wp_walk using q1
        exact ⟨_, rfl, h⟩
      · wp_walk using q1
        exact ⟨_, rfl, h⟩
    · wp_walk using q1
      exact ⟨_, rfl, h⟩
section
variable {prog : Program} {w : World} {A : Around} {E : Value → Shared → Prop} {s : Shared}
theorem enum_begins1 {v : Value} {o : Obj} {H : Heap → Prop} {Q : Value → Shared → Prop} (B : Begins v o H) (h1 : H s.heap)
    (h : ∀ h', IsEnum h' (s.heap.objs.size + 1) s.heap.objs.size 0 .none → h'.get? s.heap.objs.size = some o → h'.objs.size = s.heap.objs.size + 2 →
      (∀ b o, s.heap.get? b = some o → h'.get? b = some o) → Q (.ref (s.heap.objs.size + 1)) { s with heap := h' }) :
    wpAny (model prog w) A (call (.type "enumerate") [v]) Q E s := by
  refine callType_new F.called_enumerate (by decide) (F.typeCall_enumerate_1 _) (F.newCall_enumerate_1 _) (fun obj => F.args_object_init_2 obj _) F.entry_enumerate_new
    (meets_enum1 B) ⟨h1, ?_⟩
  have hz : (s.heap.push o).objs.size = s.heap.objs.size + 1 := Heap.size_push ..
  show _ ∧ _
  rw [hz]
  have he : IsEnum ((s.heap.push o).push { cls := .type "enumerate", data := .fields #[.none, .bool false, .ref s.heap.objs.size, rawInt 0, .none, .none] }) (s.heap.objs.size + 1) s.heap.objs.size 0 .none := by
    have := Heap.get?_push_size (s.heap.push o) (o := { cls := .type "enumerate", data := .fields #[.none, .bool false, .ref s.heap.objs.size, rawInt 0, .none, .none] }) rfl
    rw [hz] at this; exact this
  refine ⟨⟨_, he, rfl⟩, h _ he (Heap.get?_push_of_some _ (Heap.get?_push_size _ B.free)) (by rw [Heap.size_push, hz]) fun b o x => Heap.get?_push_of_some _ (Heap.get?_push_of_some _ x)⟩
end
end PySem
namespace DL
open PySem PySem.Spec PyProof.Rows L2
def ItE (K : PySem.W.Frag) (xs : List V) (G : Hp → Prop) : It :=
  ⟨fun i H => G H ∧ i < xs.length, fun i H v H' => ∃ T x, v = .ref T ∧ H T = none ∧ H' = upd H T (.tup [.int (i : Nat), x]) ∧ xs[i]? = some x, fun i H => G H ∧ xs.length ≤ i⟩
theorem turn_enumG {P : Program} {w : World} {K : PySem.W.Frag} {elts : List Expr} {kk : Nat} {tpos : Pos} (xs : List V) (G : Hp → Prop) (e it : Addr) (fpi : List Addr) (It0 : Nat → Heap → Prop) (Sv : List Value → Nat → Heap → Prop) (hne : e ≠ it)
    (hof : ∀ i h, It0 i h → ∃ o, h.get? it = some o ∧ ∀ v, o.data ≠ .cell v)
    (hk0 : ∀ i h h', It0 i h → (∀ o, h.get? it = some o → h'.get? it = some o) → It0 i h')
    (hst : ∀ (X : Cx) (pins : List (Addr × Obj)) (s : Shared) (σ : L2.St) (H : Hp) (i : Nat), X.prog = P → X.w = w → X.K = K → Inv X pins σ H s → G H → It0 i s.heap → (∃ old, IsEnum s.heap e it ((i : Nat) : Int) old) → ∃ its, Vals xs its ∧ Sv its i s.heap ∧ e ∉ fpi)
    (hin : ∀ its i h, Sv its i h → It0 i h)
    (D : ∀ (A : Around) (its : List Value), A.handled = none → (∃ i h, Sv its i h) → ∃ Pp, Draws P w A it fpi its.length Pp (Sv its) ∧ ∀ i u, Pp i u → ∀ x, (xs : List V)[i]? = some x → Vals xs its → RelV x u) :
    Turn P w K (.Tuple elts kk tpos) (ItE K xs G) [e, it] e (fun i h => (∃ old, IsEnum h e it ((i : Nat) : Int) old) ∧ It0 i h ∧ i ≤ xs.length) where
  mem := by simp
  obj := fun i h st b hb => by
    obtain ⟨⟨old, he⟩, hi, _⟩ := st
    have e' : b = e ∨ b = it := by simpa using hb
    rcases e' with z | z
    · rw [z]; exact ⟨_, he, fun v q => nomatch q⟩
    · rw [z]; exact hof i h hi
  keep := fun i h h' st k => let ⟨⟨old, he⟩, hi, hl⟩ := st; ⟨⟨old, k e (by simp) _ he⟩, hk0 i h h' hi fun o q => k it (by simp) o q, hl⟩
  item := by
    intro X hP hw hK hc i pins s σ H E I hf st hg
    have HH := hst X pins s σ H i hP hw hK I hg.1 st.2.1 st.1
    subst hP hw hK
    obtain ⟨⟨old, he⟩, hit, hil⟩ := st
    obtain ⟨its, rv, hS, hnf⟩ := HH
    obtain ⟨Pp, dr, hp⟩ := D X.A.in1 its (I.ok.hd hc) ⟨_, _, hS⟩
    have hlt : i < its.length := by rw [← rv.length]; exact hg.2
    have hel : e < s.heap.objs.size := Heap.lt_size he
    have hisz : it < s.heap.objs.size := by obtain ⟨_, q, _⟩ := hof i _ hit; exact Heap.lt_size q
    refine wpAny_pyNext_enum_itemD dr he hS hlt hne hnf fun u h' tk hu ho hS' hT hsz hk => ?_
    refine ⟨_, rfl, wpAny_letOwnedTupleGo_enum (s := { s with heap := h', toks := tk + 1 }) ho fun h'' he' sb => ?_⟩
    have hT2 : h''.get? s.heap.objs.size = some { cls := .type "tuple", data := .seq #[.int i tk, u] } := (sb.2 _ (Nat.ne_of_gt hel)).trans hT
    have hx : xs[i]? = some (xs[i]'hg.2) := List.getElem?_eq_getElem hg.2
    have ru : RelV (xs[i]'hg.2) u := hp i u hu _ hx rv
    have new : ObjOk X.prog X.w (upd H s.heap.objs.size (.tup [.int (i : Nat), xs[i]'hg.2])) h'' s.heap.objs.size (.tup [.int (i : Nat), xs[i]'hg.2]) :=
      ⟨by show 2 ≤ sizeLine; decide, [.int i tk, u], .cons ⟨_, rfl⟩ (.cons ru .nil), ⟨_, hT2, rfl, _, rfl⟩⟩
    have I1 : Inv X pins σ (upd H s.heap.objs.size (.tup [.int (i : Nat), xs[i]'hg.2])) { s with heap := h'', toks := tk + 1 } :=
      I.turnedNew (ch := [e, it]) (fun b ob hb q => (sb.2 b (fun z => hb (by simp [z]))).trans (hk b ob (fun z => hb (by simp [z])) (fun z => hb (by simp [z])) q)) hf (Nat.le_refl _) new
    refine ⟨.ref s.heap.objs.size, _, I1, rfl, ⟨_, _, rfl, I.hok.fresh (Nat.le_refl _), rfl, hx⟩, ⟨⟨u, ?_⟩, hk0 _ _ _ (hin _ _ _ hS') fun o q => (sb.2 it (Ne.symm hne)).trans q, hg.2⟩, fun b hb => ?_⟩
    · have e1 : ((i + 1 : Nat) : Int) = (i : Int) + 1 := by omega
      rw [e1]; exact he'
    · have hb' : b < s.heap.objs.size := by
        have e' : b = e ∨ b = it := by simpa using hb
        rcases e' with z | z
        · rw [z]; exact hel
        · rw [z]; exact hisz
      rw [upd_ne (Nat.ne_of_lt hb')]
      exact (hf b hb).1
  done := by
    intro X hP hw hK hc i pins s σ H E I hf st hg
    have HH := hst X pins s σ H i hP hw hK I hg.1 st.2.1 st.1
    subst hP hw hK
    obtain ⟨⟨old, he⟩, hit, hil⟩ := st
    obtain ⟨its, rv, hS, hnf⟩ := HH
    obtain ⟨Pp, dr, hp⟩ := D X.A.in1 its (I.ok.hd hc) ⟨_, _, hS⟩
    obtain ⟨f0, f1, f2, f3, f4, f5⟩ := hf it (by simp)
    have hl := rv.length
    have hii : i = its.length := by
      have := hg.2
      omega
    have hS' : Sv its its.length s.heap := hii ▸ hS
    exact wpAny_pyNext_enum_endD dr he hS' fun h' eb => ⟨rfl, I.turned (t' := s.toks) (fun b o hb q => eb b o hb q) f0 f1 f3 f4 f5⟩
  self := fun A i s Q E st h => let ⟨⟨_, he⟩, _⟩ := st; wpAny_pyIter_enum he h
theorem vals_get {xs : List V} {its : List Value} (h : Vals xs its) {i : Nat} {x : V} {u : Value} (hx : xs[i]? = some x) (hu : its[i]? = some u) : RelV x u := by
  obtain ⟨u', e, r⟩ := h.get hx
  rw [hu] at e
  cases e
  exact r
theorem turn_enumT {P : Program} {w : World} {K : PySem.W.Frag} {elts : List Expr} {kk : Nat} {tpos : Pos} (xs : List V) (a e it : Addr) (hne : e ≠ it) :
    Turn P w K (.Tuple elts kk tpos) (ItE K xs fun H => SqT K H a xs) [e, it] e (fun i h => (∃ old, IsEnum h e it ((i : Nat) : Int) old) ∧ h.IsTupleIter it a i ∧ i ≤ xs.length) := by
  refine turn_enumG xs _ e it [it, a] (fun i h => h.IsTupleIter it a i) (fun its i h => h.IsTupleIter it a i ∧ h.IsTuple a its.toArray) hne (fun i h ⟨o, ho, hc, hd⟩ => ⟨o, ho, fun v q => by rw [hd] at q; cases q⟩) (fun i h h' st k => st.at k) (fun X pins s σ H i hP hw hK I hg hi he => ?_) (fun its i h q => q.1) (fun A its hh ⟨i, h, q1, q2⟩ => ?_)
  · subst hK
    obtain ⟨its, rv, p, hz⟩ := I.tuple hg
    obtain ⟨old, he⟩ := he
    refine ⟨its, rv, ⟨hi, show s.heap.IsTuple a its.toArray from p⟩, ?_⟩
    simp only [List.mem_cons, List.not_mem_nil, or_false, not_or]
    refine ⟨hne, fun z => ?_⟩
    subst z
    obtain ⟨o, ho, hc, _⟩ := p
    have he' : s.heap.get? e = some _ := he
    rw [he'] at ho
    cases ho
    simp at hc
  · have ne : a ≠ it := by
      intro z
      subst z
      obtain ⟨o, ho, hc, _⟩ := q1
      obtain ⟨o', ho', hc', _⟩ := q2
      rw [ho] at ho'
      cases ho'
      rw [hc] at hc'
      simp at hc'
    exact ⟨_, by simpa using Draws.tuple (prog := P) (w := w) (A := A) hh it a ne its.toArray, fun i u hu x hx rv => vals_get rv hx hu⟩
theorem turn_enumS {P : Program} {w : World} {K : PySem.W.Frag} {elts : List Expr} {kk : Nat} {tpos : Pos} (z : Str) (t : Tok) (e it : Addr) (hne : e ≠ it) :
    Turn P w K (.Tuple elts kk tpos) (ItE K (z.cps.toList.map fun c => .str ⟨#[c]⟩) fun _ => True) [e, it] e (fun i h => (∃ old, IsEnum h e it ((i : Nat) : Int) old) ∧ h.IsStrIter it (strIterType z) z t i ∧ i ≤ (z.cps.toList.map fun c => V.str ⟨#[c]⟩).length) := by
  refine turn_enumG _ _ e it [it] (fun i h => h.IsStrIter it (strIterType z) z t i) (fun its i h => h.IsStrIter it (strIterType z) z t i ∧ its.length = z.cps.size) hne (fun i h ⟨o, ho, hc, hd⟩ => ⟨o, ho, fun v q => by rw [hd] at q; cases q⟩) (fun i h h' st k => ?_) (fun X pins s σ H i hP hw hK I hg hi he => ?_) (fun its i h q => q.1) (fun A its hh ⟨i, h, q1, q2⟩ => ?_)
  · obtain ⟨o, ho, hc, hd⟩ := st
    exact ⟨o, k o ho, hc, hd⟩
  · refine ⟨z.cps.toList.map fun c => .str ⟨#[c]⟩ 0, ?_, ⟨hi, by simp⟩, by simpa using hne⟩
    generalize z.cps.toList = l
    induction l with
    | nil => exact .nil
    | cons c r ih => exact .cons ⟨_, rfl⟩ ih
  · refine ⟨fun i v => ∃ c u, z.cps[i]? = some c ∧ v = .str ⟨#[c]⟩ u, ?_, ?_⟩
    · have D := Draws.text (prog := P) (w := w) (A := A) hh it z t
      rw [q2]
      exact ⟨fun i h st => D.live i h st.1, fun i h h' st k => ⟨D.frame i h h' st.1 k, st.2⟩, fun i s Q E hi st hQ => D.item i s Q E hi st.1 fun x h' tk hp hs hb => hQ x h' tk hp ⟨hs, st.2⟩ hb, fun s Q E st hE => D.done s Q E st.1 hE⟩
    · intro i u ⟨c, u', e1, e2⟩ x hx _
      subst e2
      have : z.cps.toList[i]? = some c := by simpa using e1
      rw [List.getElem?_map, this] at hx
      cases hx
      exact ⟨_, rfl⟩
theorem valsOne {v : V} {us : List Value} (h : Vals [v] us) : ∃ u, us = [u] ∧ RelV v u := by
  cases h with
  | cons r rr =>
    cases rr
    exact ⟨_, rfl, r⟩
def iEnumA (K : PySem.W.Frag) (ta : TA) : TI := fun σ H R => ta σ H fun vs H1 =>
  (∃ a xs, vs = [.ref a] ∧ SqL K H1 a xs ∧ R (Ite K a) H1) ∨ (∃ a xs, vs = [.ref a] ∧ SqT K H1 a xs ∧ R (ItE K xs fun H => SqT K H a xs) H1) ∨ ∃ z, vs = [.str z] ∧ R (ItE K (z.cps.toList.map fun c => V.str ⟨#[c]⟩) fun _ => True) H1
theorem pi_enumA {X : Cx} {e : Expr} {ta : TA} {p pos tpos : Pos} {elts : List Expr} {kk : Nat} (hg : Gl X "enumerate") (hm : X.mg "enumerate" = none) (ha : PA X [e] ta) (hs : starEach [e] X.env = [(false, eval e X.env)] := by rfl) :
    PI X (.Tuple elts kk tpos) (.Call (.Name "enumerate" p) [e] [] pos) (iEnumA X.K ta) := by
  refine ⟨fun pins s σ H R I h => ?_⟩
  refine Call_ (ld_blt I hg hm boot_enumerate (PyProof.Rows.callWith_type1 (thn (ha.run pos pins s σ H _ I h) fun us s1 ⟨vs, H1, I1, r1, q1⟩ => ?_) hs rfl))
  have apart : ∀ b ∈ [s1.heap.objs.size + 1, s1.heap.objs.size], s1.heap.objs.size ≤ b := fun b hb => by
    have e' : b = s1.heap.objs.size + 1 ∨ b = s1.heap.objs.size := by simpa using hb
    rcases e' with z | z
    · rw [z]; exact Nat.le_add_right _ _
    · rw [z]; exact Nat.le_refl _
  rcases q1 with ⟨a, xs, rfl, hq, q⟩ | ⟨a, xs, rfl, hq, q⟩ | ⟨z, rfl, q⟩ <;> obtain ⟨u, rfl, ru⟩ := valsOne r1
  · have eu : u = .ref a := ru
    subst eu
    obtain ⟨its, rv, p', hz⟩ := I1.list hq
    refine call_enumerate_list p'.isList fun h' he hit hsz hk => wpAny_pyIter_enum he ?_
    have I2 : Inv X pins σ H1 { s1 with heap := h' } := I1.kept (t' := s1.toks) hk
    exact ⟨s1.heap.objs.size + 1, [s1.heap.objs.size + 1, s1.heap.objs.size], _, _, H1, rfl, I2, turn_enum a (s1.heap.objs.size + 1) s1.heap.objs.size, ⟨⟨.none, he⟩, hit, Nat.succ_ne_self _⟩, fun b hb => I1.fpOk (apart b hb) (I1.hok.fresh (apart b hb)), q⟩
  · have eu : u = .ref a := ru
    subst eu
    obtain ⟨its, rv, p', hz⟩ := I1.tuple hq
    refine PySem.enum_begins1 (begins_tuple a its.toArray) (show s1.heap.IsTuple a its.toArray from p') fun h' he hit hsz hk => wpAny_pyIter_enum he ?_
    have I2 : Inv X pins σ H1 { s1 with heap := h' } := I1.kept (t' := s1.toks) hk
    exact ⟨s1.heap.objs.size + 1, [s1.heap.objs.size + 1, s1.heap.objs.size], _, _, H1, rfl, I2, turn_enumT xs a (s1.heap.objs.size + 1) s1.heap.objs.size (Nat.succ_ne_self _), ⟨⟨.none, he⟩, ⟨_, hit, rfl, rfl⟩, Nat.zero_le _⟩, fun b hb => I1.fpOk (apart b hb) (I1.hok.fresh (apart b hb)), q⟩
  · obtain ⟨t, eu⟩ := ru
    subst eu
    refine call_enumerate_str fun h' he hit hsz hk => wpAny_pyIter_enum he ?_
    have I2 : Inv X pins σ H1 { s1 with heap := h' } := I1.kept (t' := s1.toks) hk
    exact ⟨s1.heap.objs.size + 1, [s1.heap.objs.size + 1, s1.heap.objs.size], _, _, H1, rfl, I2, turn_enumS z t (s1.heap.objs.size + 1) s1.heap.objs.size (Nat.succ_ne_self _), ⟨⟨.none, he⟩, hit, Nat.zero_le _⟩, fun b hb => I1.fpOk (apart b hb) (I1.hok.fresh (apart b hb)), q⟩
def enumD : Nat → List D → List D
  | _, [] => []
  | i, x :: xs => .tup [.int (i : Int), x] :: enumD (i + 1) xs
theorem enumD_len : ∀ (i : Nat) (xs : List D), (enumD i xs).length = xs.length
  | _, [] => rfl
  | i, x :: xs => by simp [enumD, enumD_len (i + 1) xs]
theorem enumD_get : ∀ {i : Nat} {xs : List D} {j : Nat} {x : D}, xs[j]? = some x → (enumD i xs)[j]? = some (.tup [.int ((i + j : Nat) : Int), x])
  | i, [], j, x, h => by simp at h
  | i, y :: ys, 0, x, h => by
    simp at h
    simp [enumD, h]
  | i, y :: ys, j + 1, x, h => by
    simp at h
    rw [enumD, List.getElem?_cons_succ, enumD_get h, show i + 1 + j = i + (j + 1) by omega]
def itemsE : D → Option (List D)
  | .lst xs => some xs
  | .tup xs => some xs
  | .str z => some (signsD z)
  | _ => none
def iEnumD (f : CA) : CI := fun en M => (f en M).bind fun ds M1 => match ds with
  | [d] => ofO ((vwD M1 d).bind fun v => (itemsE v).map fun xs => (enumD 0 xs, gdD d v)) M1
  | _ => .err
section
variable {X : Cx} {ct : CT} {b : Base} {W : WX} {e e1 e2 e3 : Expr} {pos : Pos} {es : List Expr}
theorem wk_enumL {K : PySem.W.Frag} {a : Addr} {n : Nat} : Walk (Ite K a) n (fun H => ∃ vs, H a = some (.lst vs) ∧ vs.length = n)
    (fun i H v H' => ∃ T x vs, v = .ref T ∧ H T = none ∧ H' = upd H T (.tup [.int (i : Nat), x]) ∧ H a = some (.lst vs) ∧ vs[i]? = some x) := by
  refine ⟨fun i H hi q => ?_, fun H q => ?_, fun i H x H' hi q y => ?_⟩
  · obtain ⟨vs, h1, h2⟩ := q
    exact ⟨vs, vs[i]'(by omega), SqL.of h1, by simp [h2]⟩
  · obtain ⟨vs, h1, h2⟩ := q
    exact ⟨vs, SqL.of h1, by omega⟩
  · obtain ⟨vs, h1, h2⟩ := q
    obtain ⟨T, x, r1, r2, r3, r4⟩ := y
    exact ⟨T, x, vs, r1, r2, r3, h1, r4 _ (SqL.of h1)⟩
theorem wk_enumE {K : PySem.W.Frag} {vs : List V} {G : Hp → Prop} : Walk (ItE K vs G) vs.length G
    (fun i H v H' => ∃ T x, v = .ref T ∧ H T = none ∧ H' = upd H T (.tup [.int (i : Nat), x]) ∧ vs[i]? = some x) :=
  ⟨fun i H hi q => ⟨q, hi⟩, fun H q => ⟨q, Nat.le_refl _⟩, fun i H x H' hi q y => y⟩
theorem pair_rw {w : Wd} {M : Store} {H : Hp} {T : Addr} {x : V} {d : D} {i : Nat} (rl : Rl X.K ct w M H) (hT : H T = none) (r : Rep X.K w d x) :
    ∃ H', H' = upd H T (.tup [.int (i : Nat), x]) ∧ Step w H w H' ∧ Rl X.K ct w M H' ∧ RW X.K w H' (.tup [.int ((i : Nat) : Int), d]) (.ref T) := by
  obtain ⟨s2, r2'⟩ := rl.aside (o := .tup [.int (i : Nat), x]) hT
  exact ⟨_, rfl, s2, r2', _, T, _, rfl, rfl, .inl (.inl (by simp [upd])), (RepL.cons_iff).mpr ⟨.int (i : Nat), [x], rfl, by simp only [Rep], (RepL.cons_iff).mpr ⟨x, [], rfl, r, (RepL.nil_iff).mpr rfl⟩⟩⟩
theorem wkd_enumL {w : Wd} {d : D} {xs : List D} {a : Addr} {M : Store} (hd : Rep X.K w d (.ref a)) (hv : vwD M d = some (.lst xs)) : WkD RW X.K ct (Ite X.K a) w (enumD 0 xs) (gdD d (.lst xs)) := by
  refine ⟨_, _, (enumD_len 0 xs).symm ▸ wk_enumL (K := X.K) (a := a) (n := xs.length), fun w' M' H' l rl g => ?_, fun i w' M' H' x H2 hi l rl g y => ?_⟩
  · obtain ⟨vs, h1, h2⟩ := view_list hd l rl (gd_view hv g)
    exact ⟨vs, h1, by rw [enumD_len]; exact h2.length.symm⟩
  · obtain ⟨T, x, vs', rfl, r2, rfl, r4, r5⟩ := y
    obtain ⟨vs, h1, h2⟩ := view_list hd l rl (gd_view hv g)
    rw [h1] at r4
    cases r4
    obtain ⟨x', e1, e2⟩ := h2.get' r5
    obtain ⟨H', rfl, s2, r2', rw'⟩ := pair_rw (i := i) rl r2 e2
    exact ⟨w', _, by simpa using enumD_get (i := 0) e1, s2, r2', rw'⟩
theorem wkd_enumE {w : Wd} {xs : List D} {vs : List V} {G : Hp → Prop} (hG : ∀ w' M' H', Wle w w' → Rl X.K ct w' M' H' → G H') (h2 : RepL X.K w xs vs) (g : List (D × D)) : WkD RW X.K ct (ItE X.K vs G) w (enumD 0 xs) g := by
  have hl : (enumD 0 xs).length = vs.length := by rw [enumD_len, h2.length]
  refine ⟨_, _, hl.symm ▸ wk_enumE (K := X.K) (vs := vs) (G := G), fun w' M' H' l rl _ => hG w' M' H' l rl, fun i w' M' H' x H2 hi l rl _ y => ?_⟩
  obtain ⟨T, x, rfl, r2, rfl, r5⟩ := y
  obtain ⟨x', e1, e2⟩ := h2.get' r5
  obtain ⟨H', rfl, s2, r2', rw'⟩ := pair_rw (i := i) rl r2 (l.rep e2)
  exact ⟨w', _, by simpa using enumD_get (i := 0) e1, s2, r2', rw'⟩
theorem piw_enum {f : CA} {p tpos : Pos} {elts : List Expr} {kk : Nat} (hm : X.mg "enumerate" = none) (ha : PAD X ct b W f [e]) (hg : Gl X "enumerate" := by rfl) (hs : starEach [e] X.env = [(false, eval e X.env)] := by rfl) :
    PIW X ct b W (iEnumD f) (.Tuple elts kk tpos) (.Call (.Name "enumerate" p) [e] [] pos) := by
  refine ⟨fun pins s σ H R I hw => (pi_enumA hg hm ha hs).run pins s σ H R I ?_⟩
  obtain ⟨w, en, M, S, rl, p⟩ := hw
  refine ⟨w, en, M, S, rl, (Post.bind p).imp (fun ds M1 q w1 vs1 H1 s1 r1 x1 => ?_) fun _ _ _ q => q⟩
  split at q
  case h_2 => exact q.elim
  rename_i d
  rw [RepL.cons_iff] at x1
  obtain ⟨v1, t1, rfl, x1, x2⟩ := x1
  rw [RepL.nil_iff] at x2
  subst x2
  obtain ⟨⟨xs, g⟩, e0, k⟩ := ofO_post q
  obtain ⟨v, ev, e0⟩ := Option.bind_eq_some_iff.mp e0
  obtain ⟨ys, ei, e0⟩ := Option.map_eq_some_iff.mp e0
  cases e0
  have vw := vwD_ok r1 x1 ev
  cases v with
  | lst zs =>
    cases ei
    obtain ⟨a, us, rfl, h1, h2⟩ := vw
    exact .inl ⟨a, us, rfl, SqL.of h1, k w1 _ H1 s1 r1 (wkd_enumL x1 ev)⟩
  | tup zs =>
    cases ei
    obtain ⟨h0, a, us, rfl, h1, h2⟩ := vw
    simp only [Rep] at h0
    obtain ⟨b1, vs1, e1, k1, k2⟩ := h0
    cases e1
    exact .inr (.inl ⟨_, vs1, rfl, r1.sub.sqt k1, k w1 _ H1 s1 r1 (wkd_enumE (fun w' M' H' l rl => rl.sub.sqt (Same.sqt l.F k1)) k2 _)⟩)
  | str z =>
    cases ei
    cases vw
    refine .inr (.inr ⟨z, rfl, k w1 _ H1 s1 r1 (wkd_enumE (fun _ _ _ _ _ => trivial) ?_ _)⟩)
    unfold signsD
    generalize z.cps.toList = l
    induction l with
    | nil => exact (RepL.nil_iff).mpr rfl
    | cons c r ih => exact (RepL.cons_iff).mpr ⟨_, _, rfl, by simp only [Rep], ih⟩
  | _ => cases ei
end
end DL
namespace DL
open PySem PySem.Spec PyProof.Rows L2
section
variable {X : Cx} {ct : CT} {b : Base} {W : WX} {e e1 e2 e3 : Expr} {pos : Pos} {es : List Expr}
def joinO (z : Str) (ys : List Str) : Option D := if (ys.map (·.length)).sum + ys.length * z.length ≤ 16777216 then some (.str (Txt.join z ys)) else none
def gJoin : Str → List D → Option D
  | z, [.lst xs] => (strsD xs).bind (joinO z)
  | z, [.tup xs] => (strsD xs).bind (joinO z)
  | _, _ => none
theorem joinO_some {z : Str} {ys : List Str} {d : D} (h : joinO z ys = some d) : (ys.map (·.length)).sum + ys.length * z.length ≤ 16777216 ∧ d = .str (Txt.join z ys) := by
  unfold joinO at h
  split at h
  · rename_i hz
    exact ⟨hz, (Option.some.inj h).symm⟩
  · cases h
theorem sm_join : SMet X ct "str.join" gJoin := ⟨_, mt_join, fun w M H z ds vs d Q rl x e k => by
  unfold gJoin at e
  split at e
  · rename_i xs
    obtain ⟨ys, e1, e2⟩ := Option.bind_eq_some_iff.mp e
    obtain ⟨hz, rfl⟩ := joinO_some e2
    rw [RepL.cons_iff] at x
    obtain ⟨v1, t1, rfl, y1, x1⟩ := x
    rw [RepL.nil_iff] at x1
    subst x1
    simp only [Rep] at y1
    obtain ⟨a, us, rfl, h1, h2⟩ := y1
    have := strsD_rep h2 e1
    subst this
    exact ⟨z, a, ys, rfl, rfl, .inl (SqL.of (rl.sub.lst h1)), hz, k w _ H (Step.refl _ _) rl (by simp only [Rep])⟩
  · rename_i xs
    obtain ⟨ys, e1, e2⟩ := Option.bind_eq_some_iff.mp e
    obtain ⟨hz, rfl⟩ := joinO_some e2
    rw [RepL.cons_iff] at x
    obtain ⟨v1, t1, rfl, y1, x1⟩ := x
    rw [RepL.nil_iff] at x1
    subst x1
    simp only [Rep] at y1
    obtain ⟨a, us, rfl, h1, h2⟩ := y1
    have := strsD_rep h2 e1
    subst this
    exact ⟨z, a, ys, rfl, rfl, .inr (rl.sub.sqt h1), hz, k w _ H (Step.refl _ _) rl (by simp only [Rep])⟩
  · cases e⟩
end
end DL
namespace DL
open PySem PySem.Spec PyProof.Rows L2
def ctOf (mg : Str → Option Value) : CT := ⟨fun c => match mg c with
  | some (.ref a) => a
  | _ => 0, [], none⟩
theorem ctOf_of {mg : Str → Option Value} {c : Str} {a : Addr} (h : mg c = some (.ref a)) : ctOf mg c = a := by show (match mg c with | some (.ref a) => a | _ => 0) = a; rw [h]
structure BasE (K : PySem.W.Frag) (mg : Str → Option Value) (bn : Str) : Prop where
  ex : ∃ B : Addr, mg bn = some (.ref B) ∧ PySem.W.specialIn K (.ref B) "__getattribute__" = some (some (.builtin "type.__getattribute__")) ∧ PySem.W.readsIn K B (.type "type") = true ∧
    PySem.W.typeIn K (.ref B) = some (.type "type") ∧ PySem.W.findCls K (.ref B) (.type "type") "__init__" = some (.val (.builtin "ValueError.__init__"))
section
variable {X : Cx} {e : Expr} {es : List Expr} {ta : TA} {bn : Str} {p1 p2 pos : Pos}
theorem pe_oxinit {pl : Sem Bool} (T : BasE X.K X.mg bn) (ha : PA X (e :: es) ta) (hg : Gl X bn := by rfl) (hdb : (bn == ("__debug__" : Str)) = false := by decide)
    (hc : eval (.Call (.Attribute (.Name bn p1) "__init__" p2) (e :: es) [] pos) X.env = (do
      let ov ← eval (.Name bn p1) X.env
      standAt p2.atName
      let (f, first) ← holding [ov] (getMethod ov "__init__" pl)
      callWith pos f first (backTo pos (starEach (e :: es) X.env)) (backToKw pos (keywordEach [] X.env))) := by rfl)
    (he : starEach (e :: es) X.env = (false, eval e X.env) :: starEach es X.env := by rfl) (hpl : (backTo pos (starEach es X.env)).any (·.1) = false := by rfl) :
    PE X (.Call (.Attribute (.Name bn p1) "__init__" p2) (e :: es) [] pos) (tVeI X.K ta) := by
  refine ⟨fun pins s σ H Q I h => ?_⟩
  obtain ⟨B, hm, hsp, hrd, hty, hfc⟩ := T.ex
  refine PySem.W.methodCall_KW (ld_glob I hg hm ?_ hdb) hc
  obtain ⟨m, fr⟩ := I.fr
  refine PySem.W.method_of_cls fr I.ok.mod.kin hsp (PySem.W.cls_val fr I.ok.mod.kin hty hrd hfc (by rfl) ?_)
  show wpAny _ _ (callWith pos (Value.builtin "ValueError.__init__") [] (backTo pos (starEach (e :: es) X.env)) []) _ _ _
  refine PyProof.Rows.callWith_method1 (thn (ha.run pos pins _ σ H _ (I.tok _) h) fun us s1 ⟨vs, H1, I1, r1, a, C, ws, ev, hl, T, ea, q⟩ => ?_) he hpl
  subst ev
  cases r1 with
  | @cons _ u0 _ ur ra rw' =>
    obtain rfl : u0 = Value.ref a := ra
    have hlen : ur.length ≤ sizeLine := by
      rw [← Paired.length rw', sizeLine_eq]
      omega
    exact oinit_ok T I1 ea hlen fun s' J => ⟨.non, H1, J, rfl, q⟩
end
def SpInit (C : Addr) (f : Str) : Sp := fun vs H Q _ => ∃ (a : Addr) (y : V), vs = [.ref a, y] ∧ H a = some (exo a C none) ∧
  ∀ dx, H dx = none → dx ≠ a → Q .non (upd (upd H dx (exd dx [(f, y)])) a (exo a C (some dx)))
section
variable {P : Program} {w : World} {K : PySem.W.Frag} {mg : Str → Option Value} {base : Heap}
def tInit (K : PySem.W.Frag) (m f : Str) : L2.TS := tSeq (tDrop (tVeI K (tCons (tVar 0) (tCons (tC (.str m)) tNil)))) (tOst K f (tVar 0) (tVar 1))
theorem init_ok {qual p f m : Str} {st : Stmt} {fI C : Addr} {fd : FuncData} (F : Fun K "__init__" qual st fI fd) (S : FnScope ["self", p] ["self", p] (defScope st))
    (T : OexC K C) (hno : PySem.W.findIn K (.ref C) f = some none)
    (hb : ∀ (cdv : Value) (A : Around) (outer : List Env) (s : Shared) (H : Hp) (E : XK), L2.PSs (cxOf (L2.CX P w) P w K mg base ["self", p] qual (defScope st) fI cdv A outer s H E) (defBody st) (tInit K m f)) :
    FnOk P w K mg base (L2.CX P w) 1 fI fd ["self", p] (SpInit C f) := by
  refine F.okX S (fun vs H Q E q => ?_) (fun cdv A outer s H vs Q E hr q => ⟨_, hb cdv A outer s H E, ?_⟩)
  · obtain ⟨a, y, rfl, _⟩ := q
    rfl
  · obtain ⟨a, y, rfl, ha, q⟩ := q
    refine ⟨.ref a, rfl, ?_⟩
    refine ⟨a, C, [.str m], rfl, (by simp), T, ha, ?_⟩
    refine ⟨y, rfl, .ref a, rfl, a, C, rfl, T, hno, .inl ⟨ha, fun dx n ne => q dx n ne⟩⟩
theorem pss_init {X : Cx} {p f m : Str} {j : Nat} {p1 p2 p3 p4 p5 p6 p7 p8 p9 p10 : Pos} {pl : Sem Bool} (Tb : BasE X.K X.mg "PourError") (h0 : X.N[0]? = some ("self" : Str) := by rfl) (h1 : X.N[1]? = some p := by rfl) (hg : Gl X "PourError" := by rfl)
    (hsv : Vis X.env.scope "self" := by first | exact Or.inl rfl | exact Or.inr (Or.inl rfl) | exact Or.inr (Or.inr rfl)) (hpv : Vis X.env.scope p := by first | exact Or.inl rfl | exact Or.inr (Or.inl rfl) | exact Or.inr (Or.inr rfl))
    (hpd : (p == ("__debug__" : Str)) = false := by decide) (hpc : (p == ("__classdict__" : Str)) = false := by decide)
    (hc : eval (.Call (.Attribute (.Name "PourError" p1) "__init__" p2) [.Name "self" p3, .Constant (.str m) j p4] [] p5) X.env = (do
      let ov ← eval (.Name "PourError" p1) X.env
      standAt p2.atName
      let (f, first) ← holding [ov] (getMethod ov "__init__" pl)
      callWith p5 f first (backTo p5 (starEach [.Name "self" p3, .Constant (.str m) j p4] X.env)) (backToKw p5 (keywordEach [] X.env))) := by rfl)
    (hs1 : swapsWith (.Call (.Attribute (.Name "PourError" p1) "__init__" p2) [.Name "self" p3, .Constant (.str m) j p4] [] p5) none p6.line X.env = pure false := by rfl)
    (hs2 : swapsWith (.Name p p9) (some (.Attribute (.Name "self" p7) f p8)) p10.line X.env = pure false := by rfl)
    (he1 : starEach [.Name "self" p3, .Constant (.str m) j p4] X.env = (false, eval (.Name "self" p3) X.env) :: starEach [.Constant (.str m) j p4] X.env := by rfl)
    (he2 : starEach [.Constant (.str m) j p4] X.env = (false, eval (.Constant (.str m) j p4) X.env) :: starEach [] X.env := by rfl)
    (hpl : (backTo p5 (starEach [.Constant (.str m) j p4] X.env)).any (·.1) = false := by rfl) :
    L2.PSs X [.Expr (.Call (.Attribute (.Name "PourError" p1) "__init__" p2) [.Name "self" p3, .Constant (.str m) j p4] [] p5) p6, .Assign [.Attribute (.Name "self" p7) f p8] (.Name p p9) p10] (tInit X.K m f) :=
  pss_cons (ps_expr (pe_oxinit Tb (pa_cons (pe_var (i := 0) h0 hsv) (pa_cons pe_str pa_nil he2) he1) hg (by decide) hc he1 hpl) hs1) (pss_one (ps_ost (pe_var (i := 0) h0 hsv) (pe_var (i := 1) h1 hpv hpd hpc) hs2))
structure ExcC (P : Program) (w : World) (K : PySem.W.Frag) (mg : Str → Option Value) (base : Heap) (ct : CT) (x f : Str) : Prop where
  ex : ∃ (C fI : Addr) (fd : FuncData) (ps : List Str), OexC K C ∧ PySem.W.findIn K (.ref C) "__init__" = some (some (.ref fI)) ∧ PySem.W.typeIn K (.ref fI) = some (.type "function") ∧
    FnOk P w K mg base (L2.CX P w) 1 fI fd ps (SpInit C f) ∧ Binds K fd ps [] ∧ mg x = some (.ref C) ∧ ct x = C
end
def raiseS (x f : Str) (args : CA) : CS := fun en M => thenA (args en M) en fun ds M1 => match ds with
  | [d] => .ok (.exc x [(f, d)] en) M1
  | _ => .err
section
variable {X : Cx} {ct : CT} {b : Base} {W : WX} {e : Expr} {es : List Expr} {x f : Str} {p pos pos2 : Pos} {args : CA}
theorem psd_raise (hc : X.calm = true) (tk : Takes X W) (T : ExcC X.prog X.w X.K X.mg X.base ct x f) (hr : Room 2 X.A) (ha : PAD X ct b W args (e :: es)) (hg : Gl X x := by rfl) (hdb : (x == ("__debug__" : Str)) = false := by decide)
    (he : starEach (e :: es) X.env = (false, eval e X.env) :: starEach es X.env := by rfl) (hpl : (backTo pos (starEach es X.env)).any (·.1) = false := by rfl) :
    PSD X ct b W (raiseS x f args) (.Raise (some (.Call (.Name x p) (e :: es) [] pos)) none pos2) := by
  obtain ⟨C, fI, fd, ps, T1, hi, ht, F, hb, hm, hct⟩ := T.ex
  refine PS.wk (ps_raise hc tk (pmk_oex (ds := []) (dvs := []) T1 hi ht F hr hb .nil (fun _ _ _ _ _ _ _ h => by
    obtain ⟨_, _, _, _, _, _, _, _, _, _, _, _, z⟩ := h
    exact z.elim) hg hm ha hdb he hpl)) fun D σ H h => ?_
  obtain ⟨w, en, M, s, S, r, q⟩ := h
  refine ThenA.go (Q := fun vs H1 => vs.length ≤ 1000 ∧ ∀ a, H1 a = none → SpInit C f (.ref a :: (vs ++ [])) (upd H1 a (exo a C none))
    (fun v H2 => v = .non ∧ ∃ (d : Addr) (fs : List (Str × V)), H2 a = some (exo a C (some d)) ∧ H2 d = some (exd d fs) ∧ H1 d = none ∧ W (.ref C) (some d) σ (upd (del H2 a) d (.xd fs))) (fun _ _ _ => False)) s S r q fun ds M1 w1 vs H1 p1 s1 S1 r1 x1 => ?_
  match ds, p1, x1 with
  | [d], p1, x1 =>
    rw [RepL.cons_iff] at x1
    obtain ⟨v, r0, rfl, xv, xr⟩ := x1
    rw [RepL.nil_iff] at xr
    subst xr
    refine ⟨by simp, fun a na => ⟨a, v, rfl, upd_same, fun dx n ne => ⟨rfl, dx, [(f, v)], upd_same, ?_, ?_, ?_⟩⟩⟩
    · rw [upd_ne ne, upd_same]
    · rw [upd_ne ne] at n
      exact n
    · have n1 : H1 dx = none := by
        rw [upd_ne ne] at n
        exact n
      have eH : upd (del (upd (upd (upd H1 a (exo a C none)) dx (exd dx [(f, v)])) a (exo a C (some dx))) a) dx (HO.xd [(f, v)]) = upd H1 dx (HO.xd [(f, v)]) := by
        funext c
        by_cases hcd : c = dx
        · rw [hcd, upd_same, upd_same]
        · rw [upd_ne hcd, upd_ne hcd]
          by_cases hca : c = a
          · rw [hca, del_same, na]
          · rw [del_ne hca, upd_ne hca, upd_ne hcd, upd_ne hca]
      rw [eH]
      obtain ⟨s2, r2⟩ := r1.frozen (o := HO.xd [(f, v)]) n1 trivial
      refine p1 _ (.ref C) (some dx) σ _ ?_ ⟨s2.ρ, s2.F⟩ (S1.step s2) r2 ⟨by rw [hct], .inr ⟨dx, [v], rfl, upd_same, .one (s2.rep xv)⟩⟩
      exact s1.trans s2
end
def untag (i : Nat) : Out Fl → Out Fl
  | .ok (.next en) M => .ok (.next (en.set i none)) M
  | .ok (.brk en) M => .ok (.brk (en.set i none)) M
  | .ok (.cont en) M => .ok (.cont (en.set i none)) M
  | .ok (.ret d) M => .ok (.ret d) M
  | _ => .err
def tryS (f : CS) (ok : Str → Option Bool) (i : Nat) (h : Str → List (Str × D) → CS) : CS := fun en M => match f en M with
  | .ok (.exc c fs en1) M1 => match ok c with
    | some true => if i < en1.length then untag i (h c fs (en1.set i none) M1) else .err
    | some false => .ok (.exc c fs en1) M1
    | none => .err
  | r => r
def TSX (X : Cx) (ct : CT) (b : Base) (i : Nat) (h : Str → List (Str × D) → CS) (a : Addr) (cls : Value) (d : Option Addr) : L2.TS := fun D' σ H => ∃ w en M c fs, Step b.w b.H w H ∧ Sl X.K ct b w en σ H ∧ en[i]? = some none ∧ σ[i]? = some (some (.ref a)) ∧
  Rl X.K ct w M H ∧ ExV X.K ct w c fs cls d H ∧ PostS X ct b W0 w (h c fs en M) D'
section
variable {X : Cx} {ct : CT} {b : Base} {W : WX} {pos pos' np : Pos} {n x : Str} {c : Value} {i : Nat} {f : CS} {ok : Str → Option Bool} {h : Str → List (Str × D) → CS} {body suite : List Stmt} {b₀ : Stmt}
theorem Sl.unset {w : Wd} {en : En} {σ : L2.St} {H : Hp} (S : Sl X.K ct b w en σ H) (i : Nat) (v : Option V) : Sl X.K ct b w (en.set i none) (σ.set i v) H := by
  have key : ∀ (j : Nat) (s : Slot), (en.set i none)[j]? = some (some s) → j ≠ i ∧ en[j]? = some (some s) := fun j s e => by
    rw [List.getElem?_set] at e
    by_cases hj : i = j
    · rw [if_pos hj] at e
      split at e <;> cases e
    · rw [if_neg hj] at e
      exact ⟨fun z => hj z.symm, e⟩
  refine ⟨by rw [List.length_set, List.length_set]; exact S.len, fun j d e => ?_, fun j o e => ?_, fun j k o o' hjk e1 e2 => ?_⟩
  · obtain ⟨n1, e1⟩ := key j _ e
    obtain ⟨v, h1, h2⟩ := S.val j d e1
    exact ⟨v, by rw [List.getElem?_set_ne (Ne.symm n1)]; exact h1, h2⟩
  · obtain ⟨n1, e1⟩ := key j _ e
    obtain ⟨a, ho, h1, h2⟩ := S.own j o e1
    exact ⟨a, ho, by rw [List.getElem?_set_ne (Ne.symm n1)]; exact h1, h2⟩
  · obtain ⟨n1, q1⟩ := key j _ e1
    obtain ⟨n2, q2⟩ := key k _ e2
    rw [List.getElem?_set_ne (Ne.symm n1), List.getElem?_set_ne (Ne.symm n2)]
    exact S.sep j k o o' hjk q1 q2
theorem psd_tryAs (hs : X.stack = X.env :: X.outer) (hf : X.env.frame = some X.env.locals) (hN : X.N.Nodup) (hc : Names X x c) (tk : Takes X W)
    (hok : ∀ (cn : Str) (k : Bool), ok cn = some k → PySem.W.exmOne X.K (.ref (ct cn)) c = some k)
    (hb : ∀ (W' : WX) (pn : List (Addr × Obj)) (xe : Value → Shared → Prop), Takes (X.tr pn xe) W' → PassesOwn (model X.prog X.w) X.A X.env xe → PSsD (X.tr pn xe) ct b W' f body)
    (hsu : ∀ (a : Addr) (oe : Obj) (cls : Value) (d : Option Addr) (pn : List (Addr × Obj)), Zc cls d oe → (∃ vs, oe.data = .fields vs) → L2.PSs (X.suite a ((a, oe) :: pn)) (b₀ :: suite) (TSX X ct b i h a cls d))
    (hi : X.N[i]? = some n := by rfl) (hln : X.env.kindOf n = some .local := by rfl) (hlen : X.N.length = X.N.length := by rfl) :
    PSD X ct b W (tryS f ok i h) (.Try body [.ExceptHandler (some (.Name x np)) (some n) (b₀ :: suite) pos'] [] [] pos) :=
  PS.wk (ps_try_as (tb := fun W' => TSD X ct b W' f) (ts := TSX X ct b i h) (Wout := W) hs hf hN hi hln hc tk hb hsu) fun D σ H q => by
    obtain ⟨w, en, M, s, S, r, q⟩ := q
    refine ⟨w, en, M, s, S, r, ?_⟩
    unfold tryS at q
    revert q
    cases f en M with
    | err => exact fun q => q
    | exc c' fs M1 => exact fun q => q
    | ok fl M1 =>
      cases fl with
      | next en1 => exact fun q => q
      | ret d => exact fun q => q
      | brk en1 => exact fun q => q
      | cont en1 => exact fun q => q
      | exc c' fs en1 =>
        intro q w1 cls dx σ1 H1 s1 l1 S1 r1 x1
        obtain ⟨hx1, hx2⟩ := x1
        dsimp only at q
        cases e : ok c' with
        | none =>
          rw [e] at q
          exact q.elim
        | some k =>
          rw [e] at q
          refine ⟨k, by rw [hx1]; exact hok c' k e, fun hk a na => ?_, fun hk => ?_⟩
          · subst hk
            dsimp only at q
            by_cases hle : i < en1.length
            · rw [if_pos hle] at q
              have hli : i < σ1.length := by rw [← S1.len]; exact hle
              refine ⟨w1, en1.set i none, M1, c', fs, s1, S1.unset i _, ?_, by rw [List.getElem?_set_self hli], r1, ⟨hx1, hx2⟩, ?_⟩
              · rw [List.getElem?_set_self (by rw [S1.len]; exact hli)]
              · revert q
                cases h c' fs (en1.set i none) M1 with
                | err => exact fun q => q
                | exc c2 fs2 M2 => exact fun q => q
                | ok fl2 M2 =>
                  cases fl2 with
                  | exc c2 fs2 en2 => exact fun q => q.elim
                  | ret d2 => exact fun q w2 v H2 s2 l2 r2 x2 => q w2 v H2 s2 (l1.trans l2) r2 x2
                  | next en2 => exact fun q w2 σ2 H2 s2 l2 S2 r2 => q w2 _ H2 s2 (l1.trans l2) (S2.unset i none) r2
                  | brk en2 => exact fun q w2 σ2 H2 s2 l2 S2 r2 => q w2 _ H2 s2 (l1.trans l2) (S2.unset i none) r2
                  | cont en2 => exact fun q w2 σ2 H2 s2 l2 S2 r2 => q w2 _ H2 s2 (l1.trans l2) (S2.unset i none) r2
            · rw [if_neg hle] at q
              exact q.elim
          · subst hk
            exact q w1 cls dx σ1 H1 s1 l1 S1 r1 ⟨hx1, hx2⟩
structure FldC (K : PySem.W.Frag) (ct : CT) (cn f : Str) : Prop where
  ex : XfC K (ct cn) ∧ PySem.W.findIn K (.ref (ct cn)) f = some none
theorem zip_lookup {K : PySem.W.Frag} {w : Wd} {f : Str} {d : D} : ∀ {fs : List (Str × D)} {vs : List V}, RepL K w (fs.map (·.2)) vs → fs.lookup f = some d → ∃ v, ((fs.map (·.1)).zip vs).lookup f = some v ∧ Rep K w d v
  | [], vs, r, e => by cases e
  | (g, y) :: fs, vs, r, e => by
    simp only [List.map_cons, RepL.cons_iff] at r
    obtain ⟨v, vs', rfl, r1, r2⟩ := r
    simp only [List.map_cons, List.zip_cons_cons, List.lookup_cons] at e ⊢
    cases hb : (f == g) with
    | true =>
      rw [hb] at e
      cases e
      exact ⟨v, rfl, r1⟩
    | false =>
      rw [hb] at e
      exact zip_lookup r2 e
end
theorem Cz.tr {X : Cx} {ct : CT} {b : Base} {W W' : WX} {k : Nat} {pn : List (Addr × Obj)} {xe : Value → Shared → Prop} (C : Cz X ct b W k) (tk : Takes (X.tr pn xe) W') (hp : PassesOwn (model X.prog X.w) X.A X.env xe) : Cz (X.tr pn xe) ct b W' k :=
  ⟨tk, hp, C.hc, C.hN, C.hb, C.hr⟩
def okL (l : List (Str × Bool)) (c : Str) : Option Bool := l.lookup c
structure CatC (K : PySem.W.Frag) (mg : Str → Option Value) (ct : CT) (h : Str) (l : List (Str × Bool)) : Prop where
  gl : mg h = some (.ref (ct h))
  ex : ∀ (cn : Str) (k : Bool), okL l cn = some k → PySem.W.exmOne K (.ref (ct cn)) (.ref (ct h)) = some k
theorem catC_self {K : PySem.W.Frag} {mg : Str → Option Value} {x : Str} {C : Addr} (h : mg x = some (.ref C)) (te : PySem.W.exmOne K (.ref C) (.ref C) = some true) : CatC K mg (ctOf mg) x [(x, true)] :=
  ⟨by rw [ctOf_of h]; exact h, fun cn k e => by
    unfold okL at e
    simp only [List.lookup_cons, List.lookup_nil] at e
    split at e
    · rename_i hb
      have hc : cn = x := by simpa using hb
      cases e
      rw [hc, ctOf_of h]
      exact te
    · cases e⟩
theorem exm_self {K : PySem.W.Frag} {S : Addr} (h1 : PySem.W.subIn K (.ref S) (.type "BaseException") = some true) (h2 : PySem.W.isClsIn K S = true) (h3 : PySem.W.typeIn K (.ref S) = some (.type "type")) (h4 : PySem.W.subIn K (.ref S) (.ref S) = some true) :
    PySem.W.exmOne K (.ref S) (.ref S) = some true := by
  have h2' : (PySem.W.clsIn K S).isSome = true := h2
  have e1 : (PySem.W.subIn K (.ref S) (.type "BaseException") == some true) = true := by rw [h1] <;> rfl
  have e2 : ((PySem.W.clsIn K S).isSome && PySem.W.typeIn K (.ref S) == some (.type "type")) = true := by rw [h2', h3] <;> rfl
  show (if (PySem.W.subIn K (.ref S) (.type "BaseException") == some true) = true then (if ((PySem.W.clsIn K S).isSome && PySem.W.typeIn K (.ref S) == some (.type "type")) = true then PySem.W.subIn K (.ref S) (.ref S) else none) else none) = some true
  rw [if_pos e1, if_pos e2]
  exact h4
end DL
namespace DL
open PySem PySem.Spec PyProof.Rows L2
def cutD (xs : List D) (lo hi : Option Int) : List D := (xs.drop (HT.sIx xs.length 0 lo)).take (HT.sIx xs.length xs.length hi - HT.sIx xs.length 0 lo)
theorem RepL.cut {K : PySem.W.Frag} {w : Wd} {ds : List D} {vs : List V} (lo hi : Option Int) (h : RepL K w ds vs) : RepL K w (cutD ds lo hi) (cutV vs lo hi) := by
  unfold cutD cutV
  rw [h.length]
  exact RepL.take _ (RepL.drop _ h)
def gSl (lo hi : Option Int) : D → Option D
  | .str z => if z.length ≤ sizeLine then some (.str (cutS z lo hi)) else none
  | .tup xs => some (.tup (cutD xs lo hi))
  | .lst xs => some (.lst (cutD xs lo hi))
  | _ => none
def eSlG (h : CH) (lo hi : Option CE) : CE := fun en M => (h en M).bind fun a M1 => (optE lo en M1).bind fun l M2 => (optE hi en M2).bind fun u M3 => ofO ((vw en M3 a).bind (gSl l u)) M3
section
variable {X : Cx} {ct : CT} {b : Base} {W : WX} {e : Expr} {pos p2 : Pos}
theorem sl_tupF : SlR X (fun x lo hi H Q => ∃ a xs, x = .ref a ∧ SqT X.K H a xs ∧ (HT.sIx xs.length 0 lo = 0 ∧ HT.sIx xs.length xs.length hi = xs.length → Q (.ref a) H) ∧
    (∀ p o, H p = none → o.dict = none → Q (.ref p) (upd H p (.frz o (.tup (cutV xs lo hi)))))) := by
  intro pins s σ H x v vl vu lo hi sl Q I rx hs pl pu h
  obtain ⟨a, xs, rfl, hx, q1, q2⟩ := h
  by_cases hw : HT.sIx xs.length 0 lo = 0 ∧ HT.sIx xs.length xs.length hi = xs.length
  · exact sl_tupA pins s σ H _ v vl vu lo hi sl Q I rx hs pl pu ⟨a, xs, rfl, hx, q1, fun z => absurd hw z⟩
  cases rx
  obtain ⟨its, r, ht, hz⟩ := I.tuple hx
  have hlen : its.toArray.size = xs.length := by rw [List.size_toArray]; exact r.length.symm
  refine ⟨"tuple", _, PyProof.Rows.slot_tuple_getitem.lookup, ht.typeIs, ?_⟩
  refine HT.getItem_tuple_cut ht hs pl pu (by rw [hlen]; exact hw) ?_ (by rw [hlen]; exact hz)
  rw [hlen]
  refine ⟨.ref s.heap.objs.size, _, I.laid (t' := s.toks) (o := .frz _ (.tup (cutV xs lo hi))) (fun b ob q => Heap.get?_push_of_some _ q) (Nat.le_refl _) ⟨Heap.get?_push_size _ rfl, ?_⟩, rfl, q2 _ _ (I.hok.fresh (Nat.le_refl _)) rfl⟩
  exact ⟨Nat.le_trans (cutV_length xs lo hi) hz, _, (r.drop (HT.sIx xs.length 0 lo)).take (HT.sIx xs.length xs.length hi - HT.sIx xs.length 0 lo), IsTup.new _ _⟩
theorem cutD_whole {xs : List D} {lo hi : Option Int} (h : HT.sIx xs.length 0 lo = 0 ∧ HT.sIx xs.length xs.length hi = xs.length) : cutD xs lo hi = xs := by
  unfold cutD
  rw [h.1, h.2, List.drop_zero, Nat.sub_zero, List.take_length]
theorem pd_slG {h : CH} {lo hi : Option CE} {el eu : Option Expr} (he : PHD X ct b W h e) (hl : POD X ct b W lo el) (hu : POD X ct b W hi eu) : PD X ct b W (eSlG h lo hi) (.Subscript e (.Slice el eu none p2) pos) :=
  PE.wk (pe_slice ((sl_str.or sl_tupF).or sl_list) he hl hu) fun σ H Q h => by
    obtain ⟨w, en, M, S, rl, p⟩ := h
    refine ⟨w, en, M, S, rl, (Post.bind p).imp (fun a M1 q w1 v H1 s1 r1 x1 => ?_) fun _ _ _ q => q⟩
    refine ⟨w1, en, M1, S.step s1, r1, (Post.bind q).imp (fun l M2 q w2 H2 s2 r2 => ?_) fun c fs M2 q w2 cls dx H2 s2 S2 r2 x2 => q w2 cls dx H2 (s1.trans s2) S2 r2 x2⟩
    refine ⟨w2, en, M2, S.step (s1.trans s2), r2, (Post.bind q).imp (fun u M3 q w3 H3 s3 r3 => ?_) fun c fs M2 q w3 cls dx H3 s3 S3 r3 x3 => q w3 cls dx H3 ((s1.trans s2).trans s3) S3 r3 x3⟩
    have s123 := (s1.trans s2).trans s3
    obtain ⟨d, ed, q⟩ := ofO_post q
    obtain ⟨x, ex, ed⟩ := Option.bind_eq_some_iff.mp ed
    have hx := vw_ok (S.step s123) r3 ((s2.trans s3).repH x1) ex
    have k : Ok1 X.K ct w3 M3 H3 d Q := fun w' v H' s r' rp => q w' v H' (s123.trans s) r' rp
    unfold gSl at ed
    split at ed
    · rename_i z
      split at ed
      · rename_i hz
        cases ed
        cases hx
        exact .inl (.inl ⟨z, rfl, hz, k.now r3 rfl⟩)
      · cases ed
    · rename_i xs
      cases ed
      obtain ⟨hr, a, vs, rfl, h1, h2⟩ := hx
      refine .inl (.inr ⟨a, vs, rfl, h1, fun hw => ?_, fun p o hp ho => k.tup r3 (h2.cut l u) hp ho⟩)
      rw [← h2.length] at hw
      rw [cutD_whole hw] at k
      exact k.old r3 hr
    · rename_i xs
      cases ed
      obtain ⟨a, vs, rfl, h1, h2⟩ := hx
      exact .inr ⟨a, vs, rfl, .inl (.inl h1), fun p hp => k.lst r3 (h2.cut l u) hp⟩
    · cases ed
end
end DL
namespace DL
open PySem PySem.Spec PyProof.Rows L2
section
variable {P : Program} {w : World} {K : PySem.W.Frag} {mg : Str → Option Value} {base : Heap} {ct : CT}
def fErr : CF := fun _ _ => .err
theorem fnOk_err {k : Nat} {f : Addr} {fd : FuncData} {ps : List Str} : FnOk P w K mg base (L2.CX P w) k f fd ps (SpD K ct fErr) :=
  ⟨fun vs H Q E h => by
    obtain ⟨_, _, _, _, _, p⟩ := h
    exact p.elim, fun A outer s H args us vs Q E _ _ _ _ h => by
    obtain ⟨_, _, _, _, _, p⟩ := h
    exact p.elim⟩
end
section
variable {X : Cx} {ct : CT} {b : Base} {W : WX} {pos : Pos} {n : Str} {i : Nat}
end
end DL
namespace DL
open PySem PySem.Spec PyProof.Rows L2
abbrev EX := Str → List (Str × D) → Store → Prop
section
variable {α β : Type}
theorem Post_bind_eq {x : Out α} {f : α → Store → Out β} {Q : β → Store → Prop} {E : EX} : Post (x.bind f) Q E = Post x (fun a M => Post (f a M) Q E) E := by cases x <;> rfl
@[simp] theorem Post_ok {a : α} {M : Store} {Q : α → Store → Prop} {E : EX} : Post (.ok a M) Q E = Q a M := rfl
@[simp] theorem Post_exc {c : Str} {fs : List (Str × D)} {M : Store} {Q : α → Store → Prop} {E : EX} : Post (.exc c fs M) Q E = E c fs M := rfl
@[simp] theorem Post_err {Q : α → Store → Prop} {E : EX} : Post .err Q E = False := rfl
def PV (o : Option α) (M : Store) (Q : α → Store → Prop) : Prop := match o with | some a => Q a M | none => False
@[simp] theorem PV_some {a : α} {M : Store} {Q : α → Store → Prop} : PV (some a) M Q = Q a M := rfl
@[simp] theorem PV_none {M : Store} {Q : α → Store → Prop} : PV none M Q = False := rfl
theorem Post_ofO {o : Option α} {M : Store} {Q : α → Store → Prop} {E : EX} : Post (ofO o M) Q E = PV o M Q := by cases o <;> rfl
end
def PF (n : Nat) (P : Prop) : Prop := n ≤ sizeLine ∧ P
@[simp] theorem PF_of {n : Nat} {P : Prop} (h : n ≤ 16777216) : PF n P = P := by
  have e : sizeLine = 16777216 := by decide
  unfold PF
  rw [e]
  simp [h]
def kNo : EX := fun _ _ _ => False
@[simp] theorem kNo_app {c : Str} {fs : List (Str × D)} {M : Store} : kNo c fs M = False := rfl
theorem Post.eq {α : Type} {x : Out α} {d : α} {M : Store} (h : Post x (fun d' M' => d' = d ∧ M' = M) kNo) : x = .ok d M := by
  cases x with
  | ok a M' => obtain ⟨rfl, rfl⟩ := h; rfl
  | exc c fs M' => exact h.elim
  | err => exact h.elim
theorem Post.of_eq {α : Type} {x : Out α} {d : α} {M : Store} {Q : α → Store → Prop} {E : EX} (h : x = .ok d M) (q : Q d M) : Post x Q E := by rw [h]; exact q
theorem Post.ex {α : Type} {x : Out α} {Q : α → Store → Prop} (h : Post x Q kNo) : ∃ d M, x = .ok d M ∧ Q d M := by
  cases x with
  | ok a M' => exact ⟨_, _, rfl, h⟩
  | exc c fs M' => exact h.elim
  | err => exact h.elim
theorem Post.mono {α : Type} {x : Out α} {Q Q' : α → Store → Prop} {E : EX} (h : Post x Q kNo) (hq : ∀ a M, Q a M → Q' a M) : Post x Q' E := h.imp hq fun _ _ _ z => z.elim
def gt {α : Type} : List α → Nat → Option α
  | [], _ => none
  | x :: _, 0 => some x
  | _ :: r, n + 1 => gt r n
@[simp] theorem gt_0 {α : Type} {x : α} {r : List α} : gt (x :: r) 0 = some x := rfl
@[simp] theorem gt_1 {α : Type} {x : α} {r : List α} {n : Nat} : gt (x :: r) (n + 1) = gt r n := rfl
@[simp] theorem gt_nil {α : Type} {n : Nat} : gt ([] : List α) n = none := by cases n <;> rfl
theorem gt_eq {α : Type} : ∀ (l : List α) (n : Nat), l[n]? = gt l n
  | [], n => by simp
  | x :: r, 0 => rfl
  | x :: r, n + 1 => by rw [List.getElem?_cons_succ, gt_eq r n]; rfl
section
variable {M : Store} {en : En}
def vwR : Option MO → Nat → Option D
  | some o, n => match vwO o with
    | some d => some d
    | none => some (.ref n)
  | none, _ => none
@[simp] theorem vwR_lst {xs : List D} {n : Nat} : vwR (some (.lst xs)) n = some (.lst xs) := rfl
@[simp] theorem vwR_dic {ks : List Key} {xs : List D} {n : Nat} : vwR (some (.dic ks xs)) n = some (.dic ks xs) := rfl
@[simp] theorem vwR_ldic {ks : List Key} {xs : List D} {n : Nat} : vwR (some (.ldic ks xs)) n = some (.dic ks xs) := rfl
@[simp] theorem vwR_ins {c : Str} {fs : List (Str × D)} {n : Nat} : vwR (some (.ins c fs)) n = some (.ref n) := rfl
@[simp] theorem vwD_ref {n : Nat} : vwD M (.ref n) = vwR (gt M n) n := by
  rw [← gt_eq]
  cases h : M[n]? with
  | none => simp only [vwD, vwR, h]
  | some o =>
    simp only [vwD, vwR, h]
    try (cases vwO o <;> rfl)
@[simp] theorem vwD_int {i : Int} : vwD M (.int i) = some (.int i) := rfl
@[simp] theorem vwD_bl {i : Bool} : vwD M (.bl i) = some (.bl i) := rfl
@[simp] theorem vwD_str {i : Str} : vwD M (.str i) = some (.str i) := rfl
@[simp] theorem vwD_non : vwD M .non = some .non := rfl
@[simp] theorem vwD_tup {xs : List D} : vwD M (.tup xs) = some (.tup xs) := rfl
@[simp] theorem vwD_lst {xs : List D} : vwD M (.lst xs) = some (.lst xs) := rfl
@[simp] theorem vwD_dic {ks : List Key} {xs : List D} : vwD M (.dic ks xs) = some (.dic ks xs) := rfl
@[simp] theorem vwD_scr {ns : List Int} : vwD M (.scr ns) = some (.scr ns) := rfl
def vwS : Option (Option Slot) → Option D
  | some (some (.own o)) => vwO o
  | _ => none
@[simp] theorem vwS_lst {xs : List D} : vwS (some (some (.own (.lst xs)))) = some (.lst xs) := rfl
@[simp] theorem vwS_dic {ks : List Key} {xs : List D} : vwS (some (some (.own (.dic ks xs)))) = some (.dic ks xs) := rfl
@[simp] theorem vw_d {x : D} : vw en M (.d x) = vwD M x := rfl
@[simp] theorem vw_own {i : Nat} : vw en M (.own i) = vwS (gt en i) := by
  rw [← gt_eq]
  unfold vw vwS
  rfl
def vw2 (g : D → D → Option D) : Option D → Option D → Option D
  | some x, some y => g x y
  | _, _ => none
@[simp] theorem vw2_some {g : D → D → Option D} {x y : D} : vw2 g (some x) (some y) = g x y := rfl
theorem vw2_eq {g : D → D → Option D} {a c : Option D} : (a.bind fun x => c.bind fun y => g x y) = vw2 g a c := by cases a <;> cases c <;> rfl
def consO : Option D → Option (List D) → Option (List D)
  | some x, some y => some (x :: y)
  | _, _ => none
@[simp] theorem consO_some {x : D} {y : List D} : consO (some x) (some y) = some (x :: y) := rfl
@[simp] theorem vws_nil' : vws en M [] = some [] := rfl
@[simp] theorem vws_cons' {h : Hd} {hs : List Hd} : vws en M (h :: hs) = consO (vw en M h) (vws en M hs) := by
  show ((vw en M h).bind fun d => (vws en M hs).bind fun ds => some (d :: ds)) = _
  cases vw en M h <;> cases vws en M hs <;> rfl
end
section
variable {en : En} {M : Store} {E : EX}
def kVar (s : Option (Option Slot)) (M : Store) (Q : D → Store → Prop) : Prop := match s with | some (some (.val d)) => Q d M | _ => False
@[simp] theorem kVar_val {d : D} {Q : D → Store → Prop} : kVar (some (some (.val d))) M Q = Q d M := rfl
@[simp] theorem m_eVar {i : Nat} {Q : D → Store → Prop} : Post (eVar i en M) Q E = kVar (gt en i) M Q := by
  rw [← gt_eq]
  unfold eVar kVar
  split <;> simp_all
@[simp] theorem m_eC {d : D} {Q : D → Store → Prop} : Post (eC d en M) Q E = Q d M := rfl
def kHd (Q : Hd → Store → Prop) (d : D) (M : Store) : Prop := Q (.d d) M
@[simp] theorem kHd_app {Q : Hd → Store → Prop} {d : D} : kHd Q d M = Q (.d d) M := rfl
@[simp] theorem m_hd {f : CE} {Q : Hd → Store → Prop} : Post (hd f en M) Q E = Post (f en M) (kHd Q) E := by simp only [hd, Post_bind_eq]; rfl
def kOwn (s : Option (Option Slot)) (i : Nat) (M : Store) (Q : Hd → Store → Prop) : Prop := match s with | some (some (.own _)) => Q (.own i) M | some (some (.val d)) => Q (.d d) M | _ => False
@[simp] theorem kOwn_own {o : MO} {i : Nat} {Q : Hd → Store → Prop} : kOwn (some (some (.own o))) i M Q = Q (.own i) M := rfl
@[simp] theorem kOwn_val {d : D} {i : Nat} {Q : Hd → Store → Prop} : kOwn (some (some (.val d))) i M Q = Q (.d d) M := rfl
@[simp] theorem m_hOwn {i : Nat} {Q : Hd → Store → Prop} : Post (hOwn i en M) Q E = kOwn (gt en i) i M Q := by
  rw [← gt_eq]
  unfold hOwn kOwn
  split <;> simp_all
def kOp2 (g : D → D → Option D) (a : Hd) (en : En) (Q : D → Store → Prop) (c : Hd) (M : Store) : Prop := PV (vw2 g (vw en M a) (vw en M c)) M Q
def kOp1 (g : D → D → Option D) (h2 : CH) (en : En) (Q : D → Store → Prop) (E : EX) (a : Hd) (M : Store) : Prop := Post (h2 en M) (kOp2 g a en Q) E
@[simp] theorem kOp2_app {g : D → D → Option D} {a c : Hd} {Q : D → Store → Prop} : kOp2 g a en Q c M = PV (vw2 g (vw en M a) (vw en M c)) M Q := rfl
@[simp] theorem kOp1_app {g : D → D → Option D} {h2 : CH} {Q : D → Store → Prop} {a : Hd} : kOp1 g h2 en Q E a M = Post (h2 en M) (kOp2 g a en Q) E := rfl
@[simp] theorem m_eOp {g : D → D → Option D} {h1 h2 : CH} {Q : D → Store → Prop} : Post (eOp g h1 h2 en M) Q E = Post (h1 en M) (kOp1 g h2 en Q E) E := by
  simp only [eOp, Post_bind_eq, Post_ofO, vw2_eq]; rfl
def kBl (Q : Bool → Store → Prop) (d : D) (M : Store) : Prop := match d with | .bl k => Q k M | _ => False
@[simp] theorem kBl_bl {Q : Bool → Store → Prop} {k : Bool} : kBl Q (.bl k) M = Q k M := rfl
@[simp] theorem m_bT {g : D → D → Option D} {h1 h2 : CH} {Q : Bool → Store → Prop} : Post (bT g h1 h2 en M) Q E = Post (eOp g h1 h2 en M) (kBl Q) E := by
  simp only [bT, Post_bind_eq]
  congr 1
  funext d M
  cases d <;> rfl
def kTru (en : En) (Q : Bool → Store → Prop) (a : Hd) (M : Store) : Prop := PV ((vw en M a).bind TruD) M Q
@[simp] theorem kTru_app {Q : Bool → Store → Prop} {a : Hd} : kTru en Q a M = PV ((vw en M a).bind TruD) M Q := rfl
@[simp] theorem m_bTru {h : CH} {Q : Bool → Store → Prop} : Post (bTru h en M) Q E = Post (h en M) (kTru en Q) E := by simp only [bTru, Post_bind_eq, Post_ofO]; rfl
def kAnd (g : CB) (en : En) (Q : Bool → Store → Prop) (E : EX) (k : Bool) (M : Store) : Prop := match k with | true => Post (g en M) Q E | false => Q false M
@[simp] theorem kAnd_t {g : CB} {Q : Bool → Store → Prop} : kAnd g en Q E true M = Post (g en M) Q E := rfl
@[simp] theorem kAnd_f {g : CB} {Q : Bool → Store → Prop} : kAnd g en Q E false M = Q false M := rfl
@[simp] theorem m_bAnd {f g : CB} {Q : Bool → Store → Prop} : Post (bAnd f g en M) Q E = Post (f en M) (kAnd g en Q E) E := by
  simp only [bAnd, Post_bind_eq]
  congr 1
  funext k M
  cases k <;> rfl
def kOr (g : CB) (en : En) (Q : Bool → Store → Prop) (E : EX) (k : Bool) (M : Store) : Prop := match k with | false => Post (g en M) Q E | true => Q true M
@[simp] theorem kOr_f {g : CB} {Q : Bool → Store → Prop} : kOr g en Q E false M = Post (g en M) Q E := rfl
@[simp] theorem kOr_t {g : CB} {Q : Bool → Store → Prop} : kOr g en Q E true M = Q true M := rfl
@[simp] theorem m_bOr {f g : CB} {Q : Bool → Store → Prop} : Post (bOr f g en M) Q E = Post (f en M) (kOr g en Q E) E := by
  simp only [bOr, Post_bind_eq]
  congr 1
  funext k M
  cases k <;> rfl
def kNot (Q : Bool → Store → Prop) (k : Bool) (M : Store) : Prop := Q (!k) M
@[simp] theorem kNot_app {Q : Bool → Store → Prop} {k : Bool} : kNot Q k M = Q (!k) M := rfl
@[simp] theorem m_bNot {f : CB} {Q : Bool → Store → Prop} : Post (bNot f en M) Q E = Post (f en M) (kNot Q) E := by simp only [bNot, Post_bind_eq]; rfl
def kIfE (f g : CE) (en : En) (Q : D → Store → Prop) (E : EX) (k : Bool) (M : Store) : Prop := match k with | true => Post (f en M) Q E | false => Post (g en M) Q E
@[simp] theorem kIfE_t {f g : CE} {Q : D → Store → Prop} : kIfE f g en Q E true M = Post (f en M) Q E := rfl
@[simp] theorem kIfE_f {f g : CE} {Q : D → Store → Prop} : kIfE f g en Q E false M = Post (g en M) Q E := rfl
@[simp] theorem m_eIf {c : CB} {f g : CE} {Q : D → Store → Prop} : Post (eIf c f g en M) Q E = Post (c en M) (kIfE f g en Q E) E := by
  simp only [eIf, Post_bind_eq]
  congr 1
  funext k M
  cases k <;> rfl
def kCh3 (g' : D → D → Option D) (c : Hd) (en : En) (Q : Bool → Store → Prop) (d : Hd) (M : Store) : Prop := PV (vw2 g' (vw en M c) (vw en M d)) M (kBl Q)
def kChB (g' : D → D → Option D) (c : Hd) (h3 : CH) (en : En) (Q : Bool → Store → Prop) (E : EX) (x : D) (M : Store) : Prop := match x with | .bl true => Post (h3 en M) (kCh3 g' c en Q) E | .bl false => Q false M | _ => False
def kCh2 (g g' : D → D → Option D) (a : Hd) (h3 : CH) (en : En) (Q : Bool → Store → Prop) (E : EX) (c : Hd) (M : Store) : Prop := PV (vw2 g (vw en M a) (vw en M c)) M (kChB g' c h3 en Q E)
def kCh1 (g g' : D → D → Option D) (h2 h3 : CH) (en : En) (Q : Bool → Store → Prop) (E : EX) (a : Hd) (M : Store) : Prop := Post (h2 en M) (kCh2 g g' a h3 en Q E) E
@[simp] theorem kCh3_app {g' : D → D → Option D} {c d : Hd} {Q : Bool → Store → Prop} : kCh3 g' c en Q d M = PV (vw2 g' (vw en M c) (vw en M d)) M (kBl Q) := rfl
@[simp] theorem kChB_t {g' : D → D → Option D} {c : Hd} {h3 : CH} {Q : Bool → Store → Prop} : kChB g' c h3 en Q E (.bl true) M = Post (h3 en M) (kCh3 g' c en Q) E := rfl
@[simp] theorem kChB_f {g' : D → D → Option D} {c : Hd} {h3 : CH} {Q : Bool → Store → Prop} : kChB g' c h3 en Q E (.bl false) M = Q false M := rfl
@[simp] theorem kCh2_app {g g' : D → D → Option D} {a c : Hd} {h3 : CH} {Q : Bool → Store → Prop} : kCh2 g g' a h3 en Q E c M = PV (vw2 g (vw en M a) (vw en M c)) M (kChB g' c h3 en Q E) := rfl
@[simp] theorem kCh1_app {g g' : D → D → Option D} {h2 h3 : CH} {a : Hd} {Q : Bool → Store → Prop} : kCh1 g g' h2 h3 en Q E a M = Post (h2 en M) (kCh2 g g' a h3 en Q E) E := rfl
@[simp] theorem m_bChain {g g' : D → D → Option D} {h1 h2 h3 : CH} {Q : Bool → Store → Prop} : Post (bChain g g' h1 h2 h3 en M) Q E = Post (h1 en M) (kCh1 g g' h2 h3 en Q E) E := by
  simp only [bChain, Post_bind_eq]
  congr 1
  funext a M1
  show Post _ _ _ = Post _ _ _
  congr 1
  funext c M2
  rw [kCh2_app, vw2_eq]
  cases vw2 g (vw en M2 a) (vw en M2 c) with
  | none => rfl
  | some x =>
    cases x with
    | bl k =>
      cases k with
      | false => rfl
      | true =>
        show Post (Out.bind _ _) _ _ = Post _ _ _
        rw [Post_bind_eq]
        congr 1
        funext d M3
        rw [kCh3_app, vw2_eq]
        cases vw2 g' (vw en M3 c) (vw en M3 d) with
        | none => rfl
        | some x => cases x <;> rfl
    | _ => rfl
@[simp] theorem m_aNil {Q : List D → Store → Prop} : Post (aNil en M) Q E = Q [] M := rfl
def kAC2 (d : D) (Q : List D → Store → Prop) (ds : List D) (M : Store) : Prop := Q (d :: ds) M
def kAC (g : CA) (en : En) (Q : List D → Store → Prop) (E : EX) (d : D) (M : Store) : Prop := Post (g en M) (kAC2 d Q) E
@[simp] theorem kAC2_app {d : D} {ds : List D} {Q : List D → Store → Prop} : kAC2 d Q ds M = Q (d :: ds) M := rfl
@[simp] theorem kAC_app {d : D} {g : CA} {Q : List D → Store → Prop} : kAC g en Q E d M = Post (g en M) (kAC2 d Q) E := rfl
@[simp] theorem m_aCons {f : CE} {g : CA} {Q : List D → Store → Prop} : Post (aCons f g en M) Q E = Post (f en M) (kAC g en Q E) E := by simp only [aCons, Post_bind_eq]; rfl
@[simp] theorem m_ahNil {Q : List Hd → Store → Prop} : Post (ahNil en M) Q E = Q [] M := rfl
def kHC2 (d : Hd) (Q : List Hd → Store → Prop) (ds : List Hd) (M : Store) : Prop := Q (d :: ds) M
def kHC (g : CAH) (en : En) (Q : List Hd → Store → Prop) (E : EX) (d : Hd) (M : Store) : Prop := Post (g en M) (kHC2 d Q) E
@[simp] theorem kHC2_app {d : Hd} {ds : List Hd} {Q : List Hd → Store → Prop} : kHC2 d Q ds M = Q (d :: ds) M := rfl
@[simp] theorem kHC_app {d : Hd} {g : CAH} {Q : List Hd → Store → Prop} : kHC g en Q E d M = Post (g en M) (kHC2 d Q) E := rfl
@[simp] theorem m_ahCons {f : CH} {g : CAH} {Q : List Hd → Store → Prop} : Post (ahCons f g en M) Q E = Post (f en M) (kHC g en Q E) E := by simp only [ahCons, Post_bind_eq]; rfl
def kTup (Q : D → Store → Prop) (ds : List D) (M : Store) : Prop := PF ds.length (Q (.tup ds) M)
@[simp] theorem kTup_app {ds : List D} {Q : D → Store → Prop} : kTup Q ds M = PF ds.length (Q (.tup ds) M) := rfl
theorem Post_ite {α : Type} {c : Prop} [Decidable c] {x : Out α} {Q : α → Store → Prop} : Post (if c then x else .err) Q E = (c ∧ Post x Q E) := by
  split <;> simp_all
@[simp] theorem m_eTup {f : CA} {Q : D → Store → Prop} : Post (eTup f en M) Q E = Post (f en M) (kTup Q) E := by simp only [eTup, Post_bind_eq, Post_ite]; rfl
def kLst (Q : MO → Store → Prop) (ds : List D) (M : Store) : Prop := PF ds.length (Q (.lst ds) M)
@[simp] theorem kLst_app {ds : List D} {Q : MO → Store → Prop} : kLst Q ds M = PF ds.length (Q (.lst ds) M) := rfl
@[simp] theorem m_nLst {f : CA} {Q : MO → Store → Prop} : Post (nLst f en M) Q E = Post (f en M) (kLst Q) E := by simp only [nLst, Post_bind_eq, Post_ite]; rfl
def kFrz (Q : D → Store → Prop) (o : MO) (M : Store) : Prop := PV (frzO o) M Q
@[simp] theorem kFrz_lst {xs : List D} {Q : D → Store → Prop} : kFrz Q (.lst xs) M = Q (.lst xs) M := rfl
@[simp] theorem kFrz_dic {ks : List Key} {xs : List D} {Q : D → Store → Prop} : kFrz Q (.dic ks xs) M = Q (.dic ks xs) M := rfl
@[simp] theorem m_frz {f : CN} {Q : D → Store → Prop} : Post (frz f en M) Q E = Post (f en M) (kFrz Q) E := by simp only [frz, Post_bind_eq, Post_ofO]; rfl
def kAlc (Q : D → Store → Prop) (o : MO) (M : Store) : Prop := Q (.ref M.length) (M ++ [o])
@[simp] theorem kAlc_app {o : MO} {Q : D → Store → Prop} : kAlc Q o M = Q (.ref M.length) (M ++ [o]) := rfl
@[simp] theorem m_alc {f : CN} {Q : D → Store → Prop} : Post (alc f en M) Q E = Post (f en M) (kAlc Q) E := by simp only [alc, Post_bind_eq]; rfl
def kCall {β : Type} (g : List D → Option β) (en : En) (Q : β → Store → Prop) (as : List Hd) (M : Store) : Prop := PV ((vws en M as).bind g) M Q
@[simp] theorem kCall_app {β : Type} {g : List D → Option β} {Q : β → Store → Prop} {as : List Hd} : kCall g en Q as M = PV ((vws en M as).bind g) M Q := rfl
@[simp] theorem m_eCall {g : List D → Option D} {f : CAH} {Q : D → Store → Prop} : Post (eCall g f en M) Q E = Post (f en M) (kCall g en Q) E := by simp only [eCall, Post_bind_eq, Post_ofO]; rfl
@[simp] theorem m_nCall {g : List D → Option MO} {f : CAH} {Q : MO → Store → Prop} : Post (nCall g f en M) Q E = Post (f en M) (kCall g en Q) E := by simp only [nCall, Post_bind_eq, Post_ofO]; rfl
def isi1 (T : Ty) (d : D) : Option D := (isiB T d).map D.bl
def kIsi (T : Ty) (en : En) (Q : D → Store → Prop) (a : Hd) (M : Store) : Prop := PV ((vw en M a).bind (isi1 T)) M Q
@[simp] theorem kIsi_app {T : Ty} {Q : D → Store → Prop} {a : Hd} : kIsi T en Q a M = PV ((vw en M a).bind (isi1 T)) M Q := rfl
@[simp] theorem m_eIsi {T : Ty} {h : CH} {Q : D → Store → Prop} : Post (eIsi T h en M) Q E = Post (h en M) (kIsi T en Q) E := by simp only [eIsi, Post_bind_eq, Post_ofO]; rfl
def isi2 (T U : Ty) (d : D) : Option D := (isiB T d).bind fun k => (isiB U d).map fun l => D.bl (k || l)
def kIsi2 (T U : Ty) (en : En) (Q : D → Store → Prop) (a : Hd) (M : Store) : Prop := PV ((vw en M a).bind (isi2 T U)) M Q
@[simp] theorem kIsi2_app {T U : Ty} {Q : D → Store → Prop} {a : Hd} : kIsi2 T U en Q a M = PV ((vw en M a).bind (isi2 T U)) M Q := rfl
@[simp] theorem m_eIsi2 {T U : Ty} {h : CH} {Q : D → Store → Prop} : Post (eIsi2 T U h en M) Q E = Post (h en M) (kIsi2 T U en Q) E := by simp only [eIsi2, Post_bind_eq, Post_ofO]; rfl
def kFn (cf : CF) (Q : D → Store → Prop) (E : EX) (ds : List D) (M : Store) : Prop := Post (cf ds M) Q E
@[simp] theorem kFn_app {cf : CF} {ds : List D} {Q : D → Store → Prop} : kFn cf Q E ds M = Post (cf ds M) Q E := rfl
@[simp] theorem m_eFn {cf : CF} {a : CA} {Q : D → Store → Prop} : Post (eFn cf a en M) Q E = Post (a en M) (kFn cf Q E) E := by simp only [eFn, Post_bind_eq]; rfl
def kEA (g : CE) (en : En) (Q : D → Store → Prop) (E : EX) (d : D) (k : Bool) (M : Store) : Prop := match k with | true => Post (g en M) Q E | false => Q d M
def kEAnd (g : CE) (en : En) (Q : D → Store → Prop) (E : EX) (d : D) (M : Store) : Prop := PV ((vwD M d).bind TruD) M (kEA g en Q E d)
@[simp] theorem kEA_t {g : CE} {d : D} {Q : D → Store → Prop} : kEA g en Q E d true M = Post (g en M) Q E := rfl
@[simp] theorem kEA_f {g : CE} {d : D} {Q : D → Store → Prop} : kEA g en Q E d false M = Q d M := rfl
@[simp] theorem kEAnd_app {g : CE} {d : D} {Q : D → Store → Prop} : kEAnd g en Q E d M = PV ((vwD M d).bind TruD) M (kEA g en Q E d) := rfl
@[simp] theorem m_eAnd {f g : CE} {Q : D → Store → Prop} : Post (eAnd f g en M) Q E = Post (f en M) (kEAnd g en Q E) E := by
  simp only [eAnd, Post_bind_eq, Post_ofO]
  congr 1
  funext d M
  show PV _ _ _ = PV _ _ _
  congr 1
  funext k M
  cases k <;> rfl
def notD (k : Bool) : D := .bl (!k)
@[simp] theorem notD_eq {k : Bool} : notD k = .bl (!k) := rfl
end
end DL
namespace DL
open PySem PySem.Spec PyProof.Rows L2
section
variable {en : En} {M : Store} {E : EX}
def kDP3 (key : Key) (v : D) (Q : List (Key × D) → Store → Prop) (l : List (Key × D)) (M : Store) : Prop := Q ((key, v) :: l) M
def kDP2k (r : List (CE × CE)) (v : D) (en : En) (Q : List (Key × D) → Store → Prop) (E : EX) (key : Key) (M : Store) : Prop := Post (dPairs r en M) (kDP3 key v Q) E
def kDP2 (r : List (CE × CE)) (k : D) (en : En) (Q : List (Key × D) → Store → Prop) (E : EX) (v : D) (M : Store) : Prop := PV (keyD k) M (kDP2k r v en Q E)
def kDP1 (g : CE) (r : List (CE × CE)) (en : En) (Q : List (Key × D) → Store → Prop) (E : EX) (k : D) (M : Store) : Prop := Post (g en M) (kDP2 r k en Q E) E
@[simp] theorem kDP3_app {key : Key} {v : D} {l : List (Key × D)} {Q : List (Key × D) → Store → Prop} : kDP3 key v Q l M = Q ((key, v) :: l) M := rfl
@[simp] theorem kDP2k_app {r : List (CE × CE)} {key : Key} {v : D} {Q : List (Key × D) → Store → Prop} : kDP2k r v en Q E key M = Post (dPairs r en M) (kDP3 key v Q) E := rfl
@[simp] theorem kDP2_app {r : List (CE × CE)} {k v : D} {Q : List (Key × D) → Store → Prop} : kDP2 r k en Q E v M = PV (keyD k) M (kDP2k r v en Q E) := rfl
@[simp] theorem kDP1_app {g : CE} {r : List (CE × CE)} {k : D} {Q : List (Key × D) → Store → Prop} : kDP1 g r en Q E k M = Post (g en M) (kDP2 r k en Q E) E := rfl
@[simp] theorem m_dPairs_nil {Q : List (Key × D) → Store → Prop} : Post (dPairs [] en M) Q E = Q [] M := rfl
@[simp] theorem m_dPairs_cons {f g : CE} {r : List (CE × CE)} {Q : List (Key × D) → Store → Prop} : Post (dPairs ((f, g) :: r) en M) Q E = Post (f en M) (kDP1 g r en Q E) E := by
  simp only [dPairs, Post_bind_eq, Post_ofO]
  rfl
@[simp] theorem keyD_str {x : Str} : keyD (.str x) = some (.inr x) := rfl
@[simp] theorem keyD_int {x : Int} : keyD (.int x) = some (.inl x) := rfl
def kDisp (Q : MO → Store → Prop) (l : List (Key × D)) (M : Store) : Prop := Q (.dic (mergeD [] [] l).1 (mergeD [] [] l).2) M
@[simp] theorem kDisp_app {l : List (Key × D)} {Q : MO → Store → Prop} : kDisp Q l M = Q (.dic (mergeD [] [] l).1 (mergeD [] [] l).2) M := rfl
@[simp] theorem m_nDisp {fs : List (CE × CE)} {Q : MO → Store → Prop} : Post (nDisp fs en M) Q E = Post (dPairs fs en M) (kDisp Q) E := by simp only [nDisp, Post_bind_eq]; rfl
@[simp] theorem m_nDict0 {Q : MO → Store → Prop} : Post (nDict0 en M) Q E = Q (.dic [] []) M := rfl
def kSM2 (g : Str → List D → Option D) (z : Str) (Q : D → Store → Prop) (ds : List D) (M : Store) : Prop := PV (g z ds) M Q
@[simp] theorem kSM2_app {g : Str → List D → Option D} {z : Str} {ds : List D} {Q : D → Store → Prop} : kSM2 g z Q ds M = PV (g z ds) M Q := rfl
def kSM (g : Str → List D → Option D) (args : CA) (en : En) (Q : D → Store → Prop) (E : EX) (d : D) (M : Store) : Prop := match d with | .str z => Post (args en M) (kSM2 g z Q) E | _ => False
@[simp] theorem kSM_app {g : Str → List D → Option D} {args : CA} {z : Str} {Q : D → Store → Prop} : kSM g args en Q E (.str z) M = Post (args en M) (kSM2 g z Q) E := rfl
@[simp] theorem m_eSM {g : Str → List D → Option D} {f : CE} {args : CA} {Q : D → Store → Prop} : Post (eSM g f args en M) Q E = Post (f en M) (kSM g args en Q E) E := by
  simp only [eSM, Post_bind_eq]
  congr 1
  funext d M1
  cases d <;> try rfl
  rw [kSM_app]
  simp only [Post_bind_eq, Post_ofO]
  rfl
def kOpt (Q : Option Int → Store → Prop) (d : D) (M : Store) : Prop := match d with | .int i => Q (some i) M | _ => False
@[simp] theorem kOpt_app {i : Int} {Q : Option Int → Store → Prop} : kOpt Q (.int i) M = Q (some i) M := rfl
@[simp] theorem m_optE_none {Q : Option Int → Store → Prop} : Post (optE none en M) Q E = Q none M := rfl
@[simp] theorem m_optE_some {f : CE} {Q : Option Int → Store → Prop} : Post (optE (some f) en M) Q E = Post (f en M) (kOpt Q) E := by
  simp only [optE, Post_bind_eq]
  congr 1
  funext d M1
  cases d <;> rfl
def kSl3 (z : Str) (l : Option Int) (Q : D → Store → Prop) (u : Option Int) (M : Store) : Prop := PF z.length (Q (.str (cutS z l u)) M)
@[simp] theorem kSl3_app {z : Str} {l u : Option Int} {Q : D → Store → Prop} : kSl3 z l Q u M = PF z.length (Q (.str (cutS z l u)) M) := rfl
def kSl2 (z : Str) (hi : Option CE) (en : En) (Q : D → Store → Prop) (E : EX) (l : Option Int) (M : Store) : Prop := Post (optE hi en M) (kSl3 z l Q) E
@[simp] theorem kSl2_app {z : Str} {hi : Option CE} {l : Option Int} {Q : D → Store → Prop} : kSl2 z hi en Q E l M = Post (optE hi en M) (kSl3 z l Q) E := rfl
def kSl (lo hi : Option CE) (en : En) (Q : D → Store → Prop) (E : EX) (d : D) (M : Store) : Prop := match d with | .str z => Post (optE lo en M) (kSl2 z hi en Q E) E | _ => False
@[simp] theorem kSl_app {lo hi : Option CE} {z : Str} {Q : D → Store → Prop} : kSl lo hi en Q E (.str z) M = Post (optE lo en M) (kSl2 z hi en Q E) E := rfl
@[simp] theorem m_eSlS {f : CE} {lo hi : Option CE} {Q : D → Store → Prop} : Post (eSlS f lo hi en M) Q E = Post (f en M) (kSl lo hi en Q E) E := by
  simp only [eSlS, Post_bind_eq]
  congr 1
  funext d M1
  cases d <;> try rfl
  rw [kSl_app]
  simp only [Post_bind_eq, Post_ite]
  rfl
abbrev IT := List D × List (D × D)
def kSeqI (Q : IT → Store → Prop) (d v : D) (M : Store) : Prop := PV (itemsD v) M fun xs M => Q (xs, gdD d v) M
@[simp] theorem kSeqI_lst {xs : List D} {d : D} {Q : IT → Store → Prop} : kSeqI Q d (.lst xs) M = Q (xs, gdD d (.lst xs)) M := rfl
@[simp] theorem kSeqI_tup {xs : List D} {d : D} {Q : IT → Store → Prop} : kSeqI Q d (.tup xs) M = Q (xs, gdD d (.tup xs)) M := rfl
@[simp] theorem kSeqI_scr {xs : List Int} {d : D} {Q : IT → Store → Prop} : kSeqI Q d (.scr xs) M = Q (xs.map D.int, gdD d (.scr xs)) M := rfl
@[simp] theorem kSeqI_str {z : Str} {d : D} {Q : IT → Store → Prop} : kSeqI Q d (.str z) M = Q (signsD z, gdD d (.str z)) M := rfl
@[simp] theorem gdD_lst {xs : List D} {v : D} : gdD (.lst xs) v = [] := rfl
@[simp] theorem gdD_tup {xs : List D} {v : D} : gdD (.tup xs) v = [] := rfl
@[simp] theorem gdD_scr {xs : List Int} {v : D} : gdD (.scr xs) v = [] := rfl
@[simp] theorem gdD_str {z : Str} {v : D} : gdD (.str z) v = [] := rfl
@[simp] theorem gdD_ref {n : Nat} {v : D} : gdD (.ref n) v = [(.ref n, v)] := rfl
def kISeq (Q : IT → Store → Prop) (d : D) (M : Store) : Prop := PV (vwD M d) M (kSeqI Q d)
@[simp] theorem kISeq_app {d : D} {Q : IT → Store → Prop} : kISeq Q d M = PV (vwD M d) M (kSeqI Q d) := rfl
@[simp] theorem m_iSeq {f : CE} {Q : IT → Store → Prop} : Post (iSeq f en M) Q E = Post (f en M) (kISeq Q) E := by
  simp only [iSeq, Post_bind_eq, Post_ofO]
  congr 1
  funext d M1
  rw [kISeq_app]
  cases vwD M1 d with
  | none => rfl
  | some v =>
    show PV ((itemsD v).map _) _ _ = PV (itemsD v) _ _
    cases itemsD v <;> rfl
structure Sm (j : Int) : Prop where
  h : -(2 ^ 62) ≤ j ∧ j < 2 ^ 62
theorem Sm.eq {j : Int} : (-(2 ^ 62) ≤ j ∧ j < 2 ^ 62) = Sm j := propext ⟨Sm.mk, Sm.h⟩
theorem Sm.of {j : Int} (h : -1000000000000000000 ≤ j) (h2 : j ≤ 1000000000000000000) : Sm j := ⟨by omega⟩
def kRng1 (Q : IT → Store → Prop) (ds : List D) (M : Store) : Prop := match ds with | [.int j] => Sm j ∧ Q (rngD 0 j.toNat, []) M | _ => False
@[simp] theorem kRng1_app {j : Int} {Q : IT → Store → Prop} : kRng1 Q [.int j] M = (Sm j ∧ Q (rngD 0 j.toNat, []) M) := rfl
@[simp] theorem m_iRange1 {f : CA} {Q : IT → Store → Prop} : Post (iRange1 f en M) Q E = Post (f en M) (kRng1 Q) E := by
  simp only [iRange1, Post_bind_eq]
  congr 1
  funext ds M1
  match ds with
  | [] => rfl
  | [.int j] => exact Post_ite.trans (by rw [Sm.eq]; rfl)
  | [.non] => rfl
  | [.bl _] => rfl
  | [.str _] => rfl
  | [.tup _] => rfl
  | [.lst _] => rfl
  | [.dic _ _] => rfl
  | [.ref _] => rfl
  | [.scr _] => rfl
  | a :: b :: r => cases a <;> rfl
def kComp (t : Tg) (vs : List Nat) (tt : CB) (te : CE) (en : En) (Q : MO → Store → Prop) (E : EX) (p : IT) (M : Store) : Prop := PF p.1.length (Post (compL t p.2 tt te (wipeE en vs) p.1 M) (fun r M => Q (.lst r) M) E)
@[simp] theorem kComp_app {t : Tg} {vs : List Nat} {tt : CB} {te : CE} {xs : List D} {g : List (D × D)} {Q : MO → Store → Prop} : kComp t vs tt te en Q E (xs, g) M = PF xs.length (Post (compL t g tt te (wipeE en vs) xs M) (fun r M => Q (.lst r) M) E) := rfl
@[simp] theorem m_nComp {ci : CI} {t : Tg} {vs : List Nat} {tt : CB} {te : CE} {Q : MO → Store → Prop} : Post (nComp ci t vs tt te en M) Q E = Post (ci en M) (kComp t vs tt te en Q E) E := by
  simp only [nComp, Post_bind_eq, Post_ite]
  rfl
theorem Post_calm {α : Type} {x : Out α} {Q : α → Store → Prop} {E E' : EX} : Post x.calm Q E = Post x Q kNo := by cases x <;> rfl
def kCv (t : Tg) (tt : CB) (te : CE) (en : En) (xs : List D) (d : D) (Q : List D → Store → Prop) (E : EX) (M : Store) : Prop := Post (compL t [] tt te en xs M) (fun r M => Q (d :: r) M) E
def kCd (t : Tg) (tt : CB) (te : CE) (en : En) (xs : List D) (Q : List D → Store → Prop) (E : EX) (d : D) (M : Store) : Prop := kCv t tt te en xs d Q E M
def kCt (t : Tg) (tt : CB) (te : CE) (en en1 : En) (xs : List D) (Q : List D → Store → Prop) (E : EX) (k : Bool) (M : Store) : Prop := match k with | true => Post (te en1 M) (kCd t tt te en xs Q E) kNo | false => Post (compL t [] tt te en xs M) Q E
def kCp (t : Tg) (tt : CB) (te : CE) (en : En) (xs : List D) (Q : List D → Store → Prop) (E : EX) (en1 : En) (M : Store) : Prop := Post (tt en1 M) (kCt t tt te en en1 xs Q E) kNo
@[simp] theorem kCd_app {t : Tg} {tt : CB} {te : CE} {xs : List D} {d : D} {Q : List D → Store → Prop} : kCd t tt te en xs Q E d M = Post (compL t [] tt te en xs M) (fun r M => Q (d :: r) M) E := rfl
@[simp] theorem kCt_t {t : Tg} {tt : CB} {te : CE} {en1 : En} {xs : List D} {Q : List D → Store → Prop} : kCt t tt te en en1 xs Q E true M = Post (te en1 M) (kCd t tt te en xs Q E) kNo := rfl
@[simp] theorem kCt_f {t : Tg} {tt : CB} {te : CE} {en1 : En} {xs : List D} {Q : List D → Store → Prop} : kCt t tt te en en1 xs Q E false M = Post (compL t [] tt te en xs M) Q E := rfl
@[simp] theorem kCp_app {t : Tg} {tt : CB} {te : CE} {en1 : En} {xs : List D} {Q : List D → Store → Prop} : kCp t tt te en xs Q E en1 M = Post (tt en1 M) (kCt t tt te en en1 xs Q E) kNo := rfl
@[simp] theorem m_compL_nil {t : Tg} {tt : CB} {te : CE} {Q : List D → Store → Prop} : Post (compL t [] tt te en [] M) Q E = Q [] M := by
  unfold compL
  simp
theorem m_compL_cons {t : Tg} {tt : CB} {te : CE} {x : D} {xs : List D} {Q : List D → Store → Prop} : Post (compL t [] tt te en (x :: xs) M) Q E = PV (t.put x en) M (kCp t tt te en xs Q E) := by
  rw [compL]
  simp only [gOk_nil, if_true]
  cases t.put x en with
  | none => rfl
  | some en1 =>
    rw [PV_some, kCp_app]
    show Post (Out.bind _ _) _ _ = _
    rw [Post_bind_eq]
    rw [Post_calm (E' := E)]
    congr 1
    funext k M1
    cases k with
    | false => rfl
    | true =>
      simp only [if_true, kCt_t]
      rw [Post_bind_eq, Post_calm (E' := E)]
      congr 1
      funext d M2
      rw [Post_bind_eq]
      rfl
end
end DL
namespace DL
open PySem PySem.Spec PyProof.Rows L2
abbrev QF := Fl → Store → Prop
section
variable {en : En} {M : Store} {E : EX}
def kEx (en : En) (Q : QF) : EX := fun c fs M => Q (.exc c fs en) M
@[simp] theorem kEx_app {Q : QF} {c : Str} {fs : List (Str × D)} : kEx en Q c fs M = Q (.exc c fs en) M := rfl
theorem Post_thenS {o : Out D} {k : D → Store → Out Fl} {Q : QF} : Post (thenS o en k) Q E = Post o (fun d M => Post (k d M) Q E) (kEx en Q) := by cases o <;> rfl
theorem Post_thenB {o : Out Bool} {k : Bool → Store → Out Fl} {Q : QF} : Post (thenB o en k) Q E = Post o (fun d M => Post (k d M) Q E) (kEx en Q) := by cases o <;> rfl
theorem Post_thenN {o : Out MO} {k : MO → Store → Out Fl} {Q : QF} : Post (thenN o en k) Q E = Post o (fun d M => Post (k d M) Q E) (kEx en Q) := by cases o <;> rfl
theorem Post_thenA {o : Out (List D)} {k : List D → Store → Out Fl} {Q : QF} : Post (thenA o en k) Q E = Post o (fun d M => Post (k d M) Q E) (kEx en Q) := by cases o <;> rfl
theorem Post_thenM {o : Out (MO × D)} {k : MO × D → Store → Out Fl} {Q : QF} : Post (thenM o en k) Q E = Post o (fun d M => Post (k d M) Q E) (kEx en Q) := by cases o <;> rfl
theorem Post_thenI {o : Out IT} {k : IT → Store → Out Fl} {Q : QF} : Post (thenI o en k) Q E = Post o (fun d M => Post (k d M) Q E) (kEx en Q) := by cases o <;> rfl
def kSeq (g : CS) (Q : QF) (E : EX) (r : Fl) (M : Store) : Prop := match r with | .next en => Post (g en M) Q E | r => Q r M
@[simp] theorem kSeq_next {g : CS} {Q : QF} : kSeq g Q E (.next en) M = Post (g en M) Q E := rfl
@[simp] theorem kSeq_ret {g : CS} {Q : QF} {d : D} : kSeq g Q E (.ret d) M = Q (.ret d) M := rfl
@[simp] theorem kSeq_brk {g : CS} {Q : QF} : kSeq g Q E (.brk en) M = Q (.brk en) M := rfl
@[simp] theorem kSeq_cont {g : CS} {Q : QF} : kSeq g Q E (.cont en) M = Q (.cont en) M := rfl
@[simp] theorem kSeq_exc {g : CS} {Q : QF} {c : Str} {fs : List (Str × D)} : kSeq g Q E (.exc c fs en) M = Q (.exc c fs en) M := rfl
@[simp] theorem m_seqS {f g : CS} {Q : QF} : Post (seqS f g en M) Q E = Post (f en M) (kSeq g Q E) E := by
  unfold seqS
  cases f en M with
  | ok r M1 => cases r <;> rfl
  | exc c fs M1 => rfl
  | err => rfl
@[simp] theorem m_nilS {Q : QF} : Post (nilS en M) Q E = Q (.next en) M := rfl
def kAsg (i : Nat) (en : En) (Q : QF) (d : D) (M : Store) : Prop := Q (.next (en.set i (some (.val d)))) M
@[simp] theorem kAsg_app {i : Nat} {Q : QF} {d : D} : kAsg i en Q d M = Q (.next (en.set i (some (.val d)))) M := rfl
@[simp] theorem m_asgS {i : Nat} {f : CE} {Q : QF} : Post (asgS i f en M) Q E = Post (f en M) (kAsg i en Q) (kEx en Q) := by simp only [asgS, Post_thenS]; rfl
def kRetS (Q : QF) (d : D) (M : Store) : Prop := Q (.ret d) M
@[simp] theorem kRetS_app {Q : QF} {d : D} : kRetS Q d M = Q (.ret d) M := rfl
@[simp] theorem m_retS {f : CE} {Q : QF} : Post (retS f en M) Q E = Post (f en M) (kRetS Q) (kEx en Q) := by simp only [retS, Post_thenS]; rfl
def kDrop (en : En) (Q : QF) (d : D) (M : Store) : Prop := Q (.next en) M
@[simp] theorem kDrop_app {Q : QF} {d : D} : kDrop en Q d M = Q (.next en) M := rfl
@[simp] theorem m_dropS {f : CE} {Q : QF} : Post (dropS f en M) Q E = Post (f en M) (kDrop en Q) (kEx en Q) := by simp only [dropS, Post_thenS]; rfl
def kIf (f g : CS) (en : En) (Q : QF) (E : EX) (k : Bool) (M : Store) : Prop := match k with | true => Post (f en M) Q E | false => Post (g en M) Q E
@[simp] theorem kIf_t {f g : CS} {Q : QF} : kIf f g en Q E true M = Post (f en M) Q E := rfl
@[simp] theorem kIf_f {f g : CS} {Q : QF} : kIf f g en Q E false M = Post (g en M) Q E := rfl
@[simp] theorem m_ifS {c : CB} {f g : CS} {Q : QF} : Post (ifS c f g en M) Q E = Post (c en M) (kIf f g en Q E) (kEx en Q) := by
  simp only [ifS, Post_thenB]
  congr 1
  funext k M
  cases k <;> rfl
def kFrzS (s : Option (Option Slot)) (i : Nat) (g : CS) (en : En) (M : Store) (Q : QF) (E : EX) : Prop := match s with
  | some (some (.own o)) => PV (frzO o) M fun d M => Post (g (en.set i (some (.val d))) M) Q E
  | _ => Post (g en M) Q E
@[simp] theorem kFrzS_lst {xs : List D} {i : Nat} {g : CS} {Q : QF} : kFrzS (some (some (.own (.lst xs)))) i g en M Q E = Post (g (en.set i (some (.val (.lst xs)))) M) Q E := rfl
@[simp] theorem kFrzS_dic {ks : List Key} {xs : List D} {i : Nat} {g : CS} {Q : QF} : kFrzS (some (some (.own (.dic ks xs)))) i g en M Q E = Post (g (en.set i (some (.val (.dic ks xs)))) M) Q E := rfl
@[simp] theorem kFrzS_val {d : D} {i : Nat} {g : CS} {Q : QF} : kFrzS (some (some (.val d))) i g en M Q E = Post (g en M) Q E := rfl
@[simp] theorem kFrzS_none {i : Nat} {g : CS} {Q : QF} : kFrzS (some none) i g en M Q E = Post (g en M) Q E := rfl
@[simp] theorem m_frzS {i : Nat} {g : CS} {Q : QF} : Post (frzS i g en M) Q E = kFrzS (gt en i) i g en M Q E := by
  rw [← gt_eq]
  unfold frzS kFrzS
  cases en[i]? with
  | none => rfl
  | some s =>
    cases s with
    | none => rfl
    | some s =>
      cases s with
      | val d => rfl
      | own o =>
        show Post (match frzO o with | some d => _ | none => _) Q E = PV (frzO o) _ _
        cases frzO o <;> rfl
def kNext (Q : QF) (en : En) (M : Store) : Prop := Q (.next en) M
@[simp] theorem kNext_app {Q : QF} : kNext Q en M = Q (.next en) M := rfl
def kAsgG (t : Tg) (en : En) (Q : QF) (d : D) (M : Store) : Prop := PV (t.put d en) M (kNext Q)
@[simp] theorem kAsgG_app {t : Tg} {Q : QF} {d : D} : kAsgG t en Q d M = PV (t.put d en) M (kNext Q) := rfl
@[simp] theorem m_asgG {t : Tg} {f : CE} {Q : QF} : Post (asgG t f en M) Q E = Post (f en M) (kAsgG t en Q) (kEx en Q) := by
  simp only [asgG, Post_thenS]
  congr 1
  funext d M1
  rw [kAsgG_app]
  cases t.put d en <;> rfl
def putsO (ts : List Tg) (xs : List D) : Option En → Option En
  | some en => Tg.puts ts xs en
  | none => none
@[simp] theorem putsO_some {ts : List Tg} {xs : List D} : putsO ts xs (some en) = Tg.puts ts xs en := rfl
@[simp] theorem put_name {i : Nat} {d : D} : Tg.put (.name i) d en = some (en.set i (some (.val d))) := by simp [Tg.put]
@[simp] theorem put_tup {ts : List Tg} {xs : List D} : Tg.put (.tup ts) (.tup xs) en = Tg.puts ts xs en := by simp [Tg.put]
@[simp] theorem puts_nil : Tg.puts [] [] en = some en := by simp [Tg.puts]
@[simp] theorem puts_cons {t : Tg} {ts : List Tg} {x : D} {xs : List D} : Tg.puts (t :: ts) (x :: xs) en = putsO ts xs (t.put x en) := by
  rw [Tg.puts]
  cases t.put x en <;> rfl
def putR : Option MO → D → D → Option MO
  | some o, k, v => putM o k v
  | none, _, _ => none
@[simp] theorem putR_some {o : MO} {k v : D} : putR (some o) k v = putM o k v := rfl
def kSetR (n : Nat) (en : En) (Q : QF) (o : MO) (M : Store) : Prop := Q (.next en) (M.set n o)
@[simp] theorem kSetR_app {n : Nat} {Q : QF} {o : MO} : kSetR n en Q o M = Q (.next en) (M.set n o) := rfl
def kStR3 (o v : D) (en : En) (Q : QF) (k : D) (M : Store) : Prop := match o with | .ref n => PV (putR (gt M n) k v) M (kSetR n en Q) | _ => False
@[simp] theorem kStR3_app {n : Nat} {k v : D} {Q : QF} : kStR3 (.ref n) v en Q k M = PV (putR (gt M n) k v) M (kSetR n en Q) := rfl
def kStR2 (fk : CE) (v : D) (en : En) (Q : QF) (o : D) (M : Store) : Prop := Post (fk en M) (kStR3 o v en Q) (kEx en Q)
@[simp] theorem kStR2_app {fk : CE} {v o : D} {Q : QF} : kStR2 fk v en Q o M = Post (fk en M) (kStR3 o v en Q) (kEx en Q) := rfl
def kStR1 (fo fk : CE) (en : En) (Q : QF) (v : D) (M : Store) : Prop := Post (fo en M) (kStR2 fk v en Q) (kEx en Q)
@[simp] theorem kStR1_app {fo fk : CE} {v : D} {Q : QF} : kStR1 fo fk en Q v M = Post (fo en M) (kStR2 fk v en Q) (kEx en Q) := rfl
@[simp] theorem m_stR {fo fk fv : CE} {Q : QF} : Post (stR fo fk fv en M) Q E = Post (fv en M) (kStR1 fo fk en Q) (kEx en Q) := by
  simp only [stR, Post_thenS]
  congr 1
  funext v M1
  rw [kStR1_app]
  congr 1
  funext o M2
  rw [kStR2_app]
  congr 1
  funext k M3
  cases o <;> try rfl
  rename_i n
  rw [kStR3_app, ← gt_eq]
  show Post (match M3[n]? with | some o => _ | none => _) Q E = _
  cases M3[n]? with
  | none => rfl
  | some o =>
    rw [putR_some]
    show Post (match putM o k v with | some o' => _ | none => _) Q E = _
    cases putM o k v <;> rfl
abbrev QM := MO × D → Store → Prop
def ownO (T : String) : Option (Option Slot) → Option MO
  | some (some (.own o)) => if tyM T o = true then some o else none
  | _ => none
@[simp] theorem ownO_lst {xs : List D} : ownO "list" (some (some (.own (.lst xs)))) = some (.lst xs) := rfl
@[simp] theorem ownO_dic {ks : List Key} {xs : List D} : ownO "dict" (some (some (.own (.dic ks xs)))) = some (.dic ks xs) := rfl
def kMO2 (g : MO → List D → Option (MO × D)) (o : MO) (Q : QM) (ds : List D) (M : Store) : Prop := PV (g o ds) M Q
@[simp] theorem kMO2_app {g : MO → List D → Option (MO × D)} {o : MO} {Q : QM} {ds : List D} : kMO2 g o Q ds M = PV (g o ds) M Q := rfl
def kMO (g : MO → List D → Option (MO × D)) (args : CA) (en : En) (Q : QM) (E : EX) (o : MO) (M : Store) : Prop := Post (args en M) (kMO2 g o Q) E
@[simp] theorem kMO_app {g : MO → List D → Option (MO × D)} {args : CA} {o : MO} {Q : QM} : kMO g args en Q E o M = Post (args en M) (kMO2 g o Q) E := rfl
@[simp] theorem m_mutO {T : String} {g : MO → List D → Option (MO × D)} {i : Nat} {args : CA} {Q : QM} : Post (mutO T g i args en M) Q E = PV (ownO T (gt en i)) M (kMO g args en Q E) := by
  unfold mutO
  rw [← gt_eq]
  cases en[i]? with
  | none => rfl
  | some s =>
    cases s with
    | none => rfl
    | some s =>
      cases s with
      | val d => rfl
      | own o =>
        unfold ownO
        simp only
        split
        · rename_i h
          simp only [Post_bind_eq, Post_ofO, PV_some]
          rfl
        · rfl
def kMutS (i : Nat) (en : En) (Q : QF) (p : MO × D) (M : Store) : Prop := Q (.next (en.set i (some (.own p.1)))) M
@[simp] theorem kMutS_app {i : Nat} {Q : QF} {o : MO} {d : D} : kMutS i en Q (o, d) M = Q (.next (en.set i (some (.own o)))) M := rfl
@[simp] theorem m_mutS {i : Nat} {f : En → Store → Out (MO × D)} {Q : QF} : Post (mutS i f en M) Q E = Post (f en M) (kMutS i en Q) (kEx en Q) := by simp only [mutS, Post_thenM]; rfl
def getT (T : String) : Option MO → Option MO
  | some o => if tyM T o = true then some o else none
  | none => none
@[simp] theorem getT_lst {xs : List D} : getT "list" (some (.lst xs)) = some (.lst xs) := rfl
@[simp] theorem getT_dic {ks : List Key} {xs : List D} : getT "dict" (some (.dic ks xs)) = some (.dic ks xs) := rfl
def mutR (g : MO → List D → Option (MO × D)) : Option MO → List D → Option (MO × D)
  | some o, ds => g o ds
  | none, _ => none
@[simp] theorem mutR_some {g : MO → List D → Option (MO × D)} {o : MO} {ds : List D} : mutR g (some o) ds = g o ds := rfl
def kEM3 (n : Nat) (Q : D → Store → Prop) (p : MO × D) (M : Store) : Prop := Q p.2 (M.set n p.1)
@[simp] theorem kEM3_app {n : Nat} {Q : D → Store → Prop} {o : MO} {d : D} : kEM3 n Q (o, d) M = Q d (M.set n o) := rfl
def kEM2 (g : MO → List D → Option (MO × D)) (n : Nat) (Q : D → Store → Prop) (ds : List D) (M : Store) : Prop := PV (mutR g (gt M n) ds) M (kEM3 n Q)
@[simp] theorem kEM2_app {g : MO → List D → Option (MO × D)} {n : Nat} {Q : D → Store → Prop} {ds : List D} : kEM2 g n Q ds M = PV (mutR g (gt M n) ds) M (kEM3 n Q) := rfl
def kEM1 (g : MO → List D → Option (MO × D)) (n : Nat) (args : CA) (en : En) (Q : D → Store → Prop) (E : EX) (o : MO) (M : Store) : Prop := Post (args en M) (kEM2 g n Q) E
@[simp] theorem kEM1_app {g : MO → List D → Option (MO × D)} {n : Nat} {args : CA} {Q : D → Store → Prop} {o : MO} : kEM1 g n args en Q E o M = Post (args en M) (kEM2 g n Q) E := rfl
def kEM (T : String) (g : MO → List D → Option (MO × D)) (args : CA) (en : En) (Q : D → Store → Prop) (E : EX) (d : D) (M : Store) : Prop := match d with | .ref n => PV (getT T (gt M n)) M (kEM1 g n args en Q E) | _ => False
@[simp] theorem kEM_app {T : String} {g : MO → List D → Option (MO × D)} {args : CA} {Q : D → Store → Prop} {n : Nat} : kEM T g args en Q E (.ref n) M = PV (getT T (gt M n)) M (kEM1 g n args en Q E) := rfl
@[simp] theorem m_eMut {T : String} {g : MO → List D → Option (MO × D)} {f : CE} {args : CA} {Q : D → Store → Prop} : Post (eMut T g f args en M) Q E = Post (f en M) (kEM T g args en Q E) E := by
  simp only [eMut, Post_bind_eq]
  congr 1
  funext d M1
  cases d <;> try rfl
  rename_i n
  rw [kEM_app, ← gt_eq]
  show Post (match M1[n]? with | some o => _ | none => _) Q E = _
  cases M1[n]? with
  | none => rfl
  | some o =>
    unfold getT
    simp only
    split
    · rw [PV_some, kEM1_app, Post_bind_eq]
      congr 1
      funext ds M2
      rw [kEM2_app, ← gt_eq]
      show Post (match M2[n]? with | some o => _ | none => _) Q E = _
      cases M2[n]? with
      | none => rfl
      | some o2 =>
        rw [mutR_some]
        show Post (match g o2 ds with | some (o', r) => _ | none => _) Q E = _
        cases g o2 ds with
        | none => rfl
        | some p => cases p; rfl
    · rfl
def kLoop (t : Tg) (g : List (D × D)) (body : CS) (xs : List D) (Q : QF) (E : EX) (r : Fl) (M : Store) : Prop := match r with
  | .next en => Post (loopF t g body xs en M) Q E
  | .cont en => Post (loopF t g body xs en M) Q E
  | .brk en => Q (.next en) M
  | r => Q r M
@[simp] theorem kLoop_next {t : Tg} {g : List (D × D)} {body : CS} {xs : List D} {Q : QF} : kLoop t g body xs Q E (.next en) M = Post (loopF t g body xs en M) Q E := rfl
@[simp] theorem kLoop_cont {t : Tg} {g : List (D × D)} {body : CS} {xs : List D} {Q : QF} : kLoop t g body xs Q E (.cont en) M = Post (loopF t g body xs en M) Q E := rfl
@[simp] theorem kLoop_brk {t : Tg} {g : List (D × D)} {body : CS} {xs : List D} {Q : QF} : kLoop t g body xs Q E (.brk en) M = Q (.next en) M := rfl
@[simp] theorem kLoop_ret {t : Tg} {g : List (D × D)} {body : CS} {xs : List D} {Q : QF} {d : D} : kLoop t g body xs Q E (.ret d) M = Q (.ret d) M := rfl
@[simp] theorem kLoop_exc {t : Tg} {g : List (D × D)} {body : CS} {xs : List D} {Q : QF} {c : Str} {fs : List (Str × D)} : kLoop t g body xs Q E (.exc c fs en) M = Q (.exc c fs en) M := rfl
def kBody (t : Tg) (g : List (D × D)) (body : CS) (xs : List D) (Q : QF) (E : EX) (en : En) (M : Store) : Prop := Post (body en M) (kLoop t g body xs Q E) E
@[simp] theorem kBody_app {t : Tg} {g : List (D × D)} {body : CS} {xs : List D} {Q : QF} : kBody t g body xs Q E en M = Post (body en M) (kLoop t g body xs Q E) E := rfl
@[simp] theorem m_loopF_nil {t : Tg} {body : CS} {Q : QF} : Post (loopF t [] body [] en M) Q E = Q (.next en) M := by
  unfold loopF
  simp
theorem m_loopF_consG {t : Tg} {g : List (D × D)} {body : CS} {x : D} {xs : List D} {Q : QF} (hg : gOk g M = true) : Post (loopF t g body (x :: xs) en M) Q E = PV (t.put x en) M (kBody t g body xs Q E) := by
  rw [loopF]
  simp only [hg, if_true]
  cases t.put x en with
  | none => rfl
  | some en1 =>
    rw [PV_some, kBody_app]
    show Post (goOn _ _) _ _ = _
    cases body en1 M with
    | ok r M1 => cases r <;> rfl
    | exc c fs M1 => rfl
    | err => rfl
theorem m_loopF_cons {t : Tg} {body : CS} {x : D} {xs : List D} {Q : QF} : Post (loopF t [] body (x :: xs) en M) Q E = PV (t.put x en) M (kBody t [] body xs Q E) := m_loopF_consG (gOk_nil _)
def kFor (t : Tg) (body : CS) (en : En) (Q : QF) (E : EX) (p : IT) (M : Store) : Prop := Post (loopF t p.2 body p.1 en M) Q E
@[simp] theorem kFor_app {t : Tg} {body : CS} {xs : List D} {g : List (D × D)} {Q : QF} : kFor t body en Q E (xs, g) M = Post (loopF t g body xs en M) Q E := rfl
@[simp] theorem m_forS {ci : CI} {t : Tg} {body : CS} {Q : QF} : Post (forS ci t body en M) Q E = Post (ci en M) (kFor t body en Q E) (kEx en Q) := by simp only [forS, Post_thenI]; rfl
def kInv (I : En → Store → Prop) (Q : QF) (r : Fl) (M : Store) : Prop := match r with | .next en => I en M | .cont en => I en M | .brk en => Q (.next en) M | r => Q r M
@[simp] theorem kInv_next {I : En → Store → Prop} {Q : QF} : kInv I Q (.next en) M = I en M := rfl
@[simp] theorem kInv_cont {I : En → Store → Prop} {Q : QF} : kInv I Q (.cont en) M = I en M := rfl
@[simp] theorem kInv_brk {I : En → Store → Prop} {Q : QF} : kInv I Q (.brk en) M = Q (.next en) M := rfl
@[simp] theorem kInv_ret {I : En → Store → Prop} {Q : QF} {d : D} : kInv I Q (.ret d) M = Q (.ret d) M := rfl
@[simp] theorem kInv_exc {I : En → Store → Prop} {Q : QF} {c : Str} {fs : List (Str × D)} : kInv I Q (.exc c fs en) M = Q (.exc c fs en) M := rfl
def kPutB (body : CS) (Q : QF) (E : EX) (en : En) (M : Store) : Prop := Post (body en M) Q E
@[simp] theorem kPutB_app {body : CS} {Q : QF} : kPutB body Q E en M = Post (body en M) Q E := rfl
theorem for_inv {t : Tg} {body : CS} {xs : List D} {Q : QF} (I : Nat → En → Store → Prop) (h0 : I 0 en M) (hend : ∀ en M, I xs.length en M → Q (.next en) M)
    (h : ∀ i x en M, xs[i]? = some x → I i en M → PV (t.put x en) M (kPutB body (kInv (I (i + 1)) Q) E)) : Post (loopF t [] body xs en M) Q E := by
  have go : ∀ (n i : Nat) (en : En) (M : Store), xs.length = i + n → I i en M → Post (loopF t [] body (xs.drop i) en M) Q E := fun n => by
    induction n with
    | zero =>
      intro i en M hn p
      rw [List.drop_eq_nil_of_le (by omega), m_loopF_nil]
      exact hend _ _ (by rw [hn]; exact p)
    | succ n ih =>
      intro i en M hn p
      have hi : i < xs.length := by omega
      rw [List.drop_eq_getElem_cons hi, m_loopF_cons]
      have := h i xs[i] en M (List.getElem?_eq_getElem hi) p
      cases q : t.put xs[i] en with
      | none => rw [q] at this; exact this.elim
      | some en1 =>
        rw [q] at this
        rw [PV_some, kBody_app]
        refine Post.imp this (fun r M1 z => ?_) (fun c fs M1 z => z)
        cases r with
        | next en2 => exact ih (i + 1) en2 M1 (by omega) z
        | cont en2 => exact ih (i + 1) en2 M1 (by omega) z
        | brk en2 => exact z
        | ret d => exact z
        | exc c fs en2 => exact z
  exact go xs.length 0 en M (by omega) h0
theorem comp_map {t : Tg} {tt : CB} {te : CE} {xs : List D} {Q : List D → Store → Prop} (g : D → Bool) (f : D → D)
    (h : ∀ x ∈ xs, ∃ en1, t.put x en = some en1 ∧ tt en1 M = .ok (g x) M ∧ (g x = true → te en1 M = .ok (f x) M)) (q : Q ((xs.filter g).map f) M) : Post (compL t [] tt te en xs M) Q E := by
  rw [compL_map h]
  exact q
theorem comp_all {t : Tg} {te : CE} {xs : List D} {Q : List D → Store → Prop} (f : D → D)
    (h : ∀ x ∈ xs, ∃ en1, t.put x en = some en1 ∧ te en1 M = .ok (f x) M) (q : Q (xs.map f) M) : Post (compL t [] tYesD te en xs M) Q E := by
  refine comp_map (fun _ => true) f (fun x hx => let ⟨en1, a, b⟩ := h x hx; ⟨en1, a, rfl, fun _ => b⟩) ?_
  rwa [List.filter_eq_self.mpr fun _ _ => rfl]
@[simp] theorem m_tYes {Q : Bool → Store → Prop} : Post (tYesD en M) Q E = Q true M := rfl
theorem comp_inv {t : Tg} {te : CE} {xs : List D} {Q : List D → Store → Prop} (I : Nat → List D → Store → Prop) (h0 : I 0 [] M) (hend : ∀ acc M, I xs.length acc M → Q acc M)
    (h : ∀ i x acc M, xs[i]? = some x → I i acc M → PV (t.put x en) M fun en1 M => Post (te en1 M) (fun d M => I (i + 1) (acc ++ [d]) M) kNo) : Post (compL t [] tYesD te en xs M) Q E := by
  obtain ⟨r, M', e1, e2⟩ := compL_inv (t := t) (te := te) (en := en) (xs := xs) I xs.length 0 [] M (by omega) h0 fun i x acc M hx p => by
    have := h i x acc M hx p
    cases q : t.put x en with
    | none => rw [q] at this; exact this.elim
    | some en1 =>
      rw [q] at this
      obtain ⟨d, M', e1, e2⟩ := Post.ex this
      exact ⟨en1, d, M', rfl, e1, e2⟩
  rw [List.drop_zero] at e1
  rw [e1]
  exact hend _ _ e2
def optCons {α : Type} : Option α → List α → List α
  | some x, l => x :: l
  | none, l => l
@[simp] theorem optCons_some {α : Type} {x : α} {l : List α} : optCons (some x) l = x :: l := rfl
@[simp] theorem pick_nil {α : Type} {xs : List α} : pick [] xs = [] := rfl
@[simp] theorem pick_cons {α : Type} {i : Nat} {π : List Nat} {xs : List α} : pick (i :: π) xs = optCons (gt xs i) (pick π xs) := by
  rw [← gt_eq]
  unfold pick
  rw [List.filterMap_cons]
  cases xs[i]? <;> rfl
def kDef (Q : D → Store → Prop) (E : EX) (r : Fl) (M : Store) : Prop := match r with
  | .ret d => Q d M
  | .next _ => Q .non M
  | .exc c fs _ => E c fs M
  | _ => False
@[simp] theorem kDef_ret {Q : D → Store → Prop} {d : D} : kDef Q E (.ret d) M = Q d M := rfl
@[simp] theorem kDef_next {Q : D → Store → Prop} : kDef Q E (.next en) M = Q .non M := rfl
@[simp] theorem kDef_exc {Q : D → Store → Prop} {c : Str} {fs : List (Str × D)} : kDef Q E (.exc c fs en) M = E c fs M := rfl
def nones : Nat → En
  | 0 => []
  | n + 1 => none :: nones n
@[simp] theorem nones_0 : nones 0 = [] := rfl
@[simp] theorem nones_1 {n : Nat} : nones (n + 1) = none :: nones n := rfl
def vals : List D → En → En
  | [], r => r
  | d :: ds, r => some (.val d) :: vals ds r
@[simp] theorem vals_nil {r : En} : vals [] r = r := rfl
@[simp] theorem vals_cons {d : D} {ds : List D} {r : En} : vals (d :: ds) r = some (.val d) :: vals ds r := rfl
theorem nones_eq : ∀ n : Nat, nones n = List.replicate n none
  | 0 => rfl
  | n + 1 => by rw [nones_1, nones_eq n, List.replicate_succ]
theorem vals_eq : ∀ (ds : List D) (r : En), vals ds r = ds.map (fun d => some (.val d)) ++ r
  | [], r => rfl
  | d :: ds, r => by simp [vals_eq ds r]
@[simp] theorem m_mkF {n N : Nat} {body : CS} {ds : List D} {Q : D → Store → Prop} : Post (mkF n N body ds M) Q E = (ds.length = n ∧ Post (body (vals ds (nones (N - n))) M) (kDef Q E) kNo) := by
  unfold mkF
  rw [vals_eq, nones_eq, ← Post_ite]
  by_cases h : ds.length = n
  · simp only [if_pos h]
    cases body _ M with
    | ok r M1 => cases r <;> rfl
    | exc c fs M1 => rfl
    | err => rfl
  · simp only [if_neg h, Post_err]
end
end DL
namespace DL
open PySem PySem.Spec PyProof.Rows L2
section
variable {i j : Int} {x y : Str} {xs ys : List D} {d : D}
theorem szl : sizeLine = 16777216 := by decide
@[simp] theorem gAdd_int : gAdd (.int i) (.int j) = some (.int (i + j)) := rfl
@[simp] theorem gSub_int : gSub (.int i) (.int j) = some (.int (i - j)) := rfl
@[simp] theorem gAdd_str (h : x.length + y.length ≤ 16777216) : gAdd (.str x) (.str y) = some (.str (x ++ y)) := by
  rw [← szl] at h
  simp [gAdd, h]
@[simp] theorem gAdd_lst' (h : xs.length + ys.length ≤ 16777216) : gAdd (.lst xs) (.lst ys) = some (.lst (xs ++ ys)) := by
  rw [← szl] at h
  simp [gAdd, h]
@[simp] theorem gAdd_tup' (h : xs.length + ys.length ≤ 16777216) : gAdd (.tup xs) (.tup ys) = some (.tup (xs ++ ys)) := by
  rw [← szl] at h
  simp [gAdd, h]
def lim : Int := 1000000000000000000000000000000000000000000000000000000000000000000000000000000000000000000000000000000000000000000000000000000
theorem log_lt {n k : Nat} (h : n < 2 ^ k) (hk : 0 < k) : n.log2 < k := by
  by_cases h0 : n = 0
  · subst h0; simpa using hk
  · exact (Nat.log2_lt h0).mpr h
theorem lim_log (h : -1000000000000000000000000000000000000000000000000000000000000000000000000000000000000000000000000000000000000000000000000000000 ≤ i) (h2 : i ≤ 1000000000000000000000000000000000000000000000000000000000000000000000000000000000000000000000000000000000000000000000000000000) : i.natAbs.log2 < 500 := by
  refine log_lt ?_ (by decide)
  have : (1000000000000000000000000000000000000000000000000000000000000000000000000000000000000000000000000000000000000000000000000000000 : Nat) < 2 ^ 500 := by decide +kernel
  generalize 2 ^ 500 = z at *
  omega
theorem gMul_int (h : -1000000000000000000000000000000000000000000000000000000000000000000000000000000000000000000000000000000000000000000000000000000 ≤ i) (h2 : i ≤ 1000000000000000000000000000000000000000000000000000000000000000000000000000000000000000000000000000000000000000000000000000000)
    (h3 : -1000000000000000000000000000000000000000000000000000000000000000000000000000000000000000000000000000000000000000000000000000000 ≤ j) (h4 : j ≤ 1000000000000000000000000000000000000000000000000000000000000000000000000000000000000000000000000000000000000000000000000000000) : gMul (.int i) (.int j) = some (.int (i * j)) := by
  have h1 := lim_log h h2
  have h5 := lim_log h3 h4
  have : mulOk i j := .inr (.inr (by omega))
  simp [gMul, this]
theorem gDiv_int (h : 0 < j) (h4 : j ≤ 1000000000000000000000000000000000000000000000000000000000000000000000000000000000000000000000000000000000000000000000000000000) : gDiv (.int i) (.int j) = some (.int (i / j)) := by
  have h5 := lim_log (i := j) (by omega) h4
  have : j.natAbs.log2 < 9000 := by omega
  simp [gDiv, h, this]
@[simp] theorem gMod_int (h : 0 < j) : gMod (.int i) (.int j) = some (.int (i % j)) := by simp [gMod, h]
theorem gPow_nat {n : Nat} (h : -1000000000000000000 ≤ i) (h2 : i ≤ 1000000000000000000) (hn : n ≤ 1000000) : gPow (.int i) (.int n) = some (.int (i ^ n)) := by
  have h1 : i.natAbs < 2 ^ 64 := by omega
  have : (0 : Int) ≤ n := by omega
  have h2 : (n : Int) ≤ 1000000 := by omega
  simp [gPow, h1, h2]
@[simp] theorem gPow_2 (h : -1000000000000000000 ≤ i) (h2 : i ≤ 1000000000000000000) : gPow (.int i) (.int 2) = some (.int (i ^ 2)) := gPow_nat (n := 2) h h2 (by decide)
@[simp] theorem gPow_3 (h : -1000000000000000000 ≤ i) (h2 : i ≤ 1000000000000000000) : gPow (.int i) (.int 3) = some (.int (i ^ 3)) := gPow_nat (n := 3) h h2 (by decide)
@[simp] theorem gPow_10_5 : gPow (.int 10) (.int 5) = some (.int 100000) := by have := gPow_nat (i := 10) (n := 5) (by decide) (by decide) (by decide); simpa using this
@[simp] theorem gPow_10_6 : gPow (.int 10) (.int 6) = some (.int 1000000) := by have := gPow_nat (i := 10) (n := 6) (by decide) (by decide) (by decide); simpa using this
@[simp] theorem gPow_10_10 : gPow (.int 10) (.int 10) = some (.int 10000000000) := by have := gPow_nat (i := 10) (n := 10) (by decide) (by decide) (by decide); simpa using this
@[simp] theorem gPow_10_18 : gPow (.int 10) (.int 18) = some (.int 1000000000000000000) := by have := gPow_nat (i := 10) (n := 18) (by decide) (by decide) (by decide); simpa using this
@[simp] theorem gPow_10_20 : gPow (.int 10) (.int 20) = some (.int 100000000000000000000) := by have := gPow_nat (i := 10) (n := 20) (by decide) (by decide) (by decide); simpa using this
@[simp] theorem gPow_10_30 : gPow (.int 10) (.int 30) = some (.int 1000000000000000000000000000000) := by have := gPow_nat (i := 10) (n := 30) (by decide) (by decide) (by decide); simpa using this
@[simp] theorem gPow_10_33 : gPow (.int 10) (.int 33) = some (.int 1000000000000000000000000000000000) := by have := gPow_nat (i := 10) (n := 33) (by decide) (by decide) (by decide); simpa using this
@[simp] theorem gPow_10_38 : gPow (.int 10) (.int 38) = some (.int 100000000000000000000000000000000000000) := by have := gPow_nat (i := 10) (n := 38) (by decide) (by decide) (by decide); simpa using this
@[simp] theorem gPow_10_39 : gPow (.int 10) (.int 39) = some (.int 1000000000000000000000000000000000000000) := by have := gPow_nat (i := 10) (n := 39) (by decide) (by decide) (by decide); simpa using this
@[simp] theorem gPow_10_40 : gPow (.int 10) (.int 40) = some (.int 10000000000000000000000000000000000000000) := by have := gPow_nat (i := 10) (n := 40) (by decide) (by decide) (by decide); simpa using this
@[simp] theorem gLt_int : gLt (.int i) (.int j) = some (.bl (decide (i < j))) := rfl
@[simp] theorem gLe_int : gLe (.int i) (.int j) = some (.bl (decide (i ≤ j))) := rfl
@[simp] theorem gGt_int : gGt (.int i) (.int j) = some (.bl (decide (j < i))) := rfl
@[simp] theorem gGe_int : gGe (.int i) (.int j) = some (.bl (decide (j ≤ i))) := rfl
@[simp] theorem gEq_int : gEq (.int i) (.int j) = some (.bl (decide (i = j))) := rfl
@[simp] theorem gNe_int : gNe (.int i) (.int j) = some (.bl (!decide (i = j))) := rfl
@[simp] theorem gEq_str : gEq (.str x) (.str y) = some (.bl (decide (x = y))) := rfl
@[simp] theorem gNe_str : gNe (.str x) (.str y) = some (.bl (!decide (x = y))) := rfl
@[simp] theorem gEq_bl {a b : Bool} : gEq (.bl a) (.bl b) = some (.bl (a == b)) := rfl
@[simp] theorem gNe_bl {a b : Bool} : gNe (.bl a) (.bl b) = some (.bl (!(a == b))) := rfl
@[simp] theorem TruD_bl {k : Bool} : TruD (.bl k) = some k := rfl
@[simp] theorem TruD_non : TruD .non = some false := rfl
@[simp] theorem gInt_bl {k : Bool} : gInt [.bl k] = some (.int (if k then 1 else 0)) := rfl
@[simp] theorem gInt_int : gInt [.int i] = some (.int i) := rfl
@[simp] theorem gLen_lst : gLen [.lst xs] = some (.int xs.length) := rfl
@[simp] theorem gLen_tup : gLen [.tup xs] = some (.int xs.length) := rfl
@[simp] theorem gLen_dic {ks : List Key} : gLen [.dic ks xs] = some (.int ks.length) := rfl
@[simp] theorem gLen_scr {ns : List Int} : gLen [.scr ns] = some (.int ns.length) := rfl
@[simp] theorem gLen_str (h : x.length ≤ 16777216) : gLen [.str x] = some (.int x.length) := by
  rw [← szl] at h
  simp [gLen, h]
@[simp] theorem gMax2_int : gMax2 [.int i, .int j] = some (.int (if j > i then j else i)) := rfl
@[simp] theorem gMinT_int : gMinT [.int i, .int j] = some (.int (if j < i then j else i)) := rfl
@[simp] theorem gTuple_lst : gTuple [.lst xs] = some (.tup xs) := rfl
@[simp] theorem gTuple_tup : gTuple [.tup xs] = some (.tup xs) := rfl
@[simp] theorem gIx_lst : gIx (.lst xs) (.int i) = atI xs i := rfl
@[simp] theorem gIx_tup : gIx (.tup xs) (.int i) = atI xs i := rfl
@[simp] theorem gIx_dic_str {ks : List Key} : gIx (.dic ks xs) (.str x) = dget ks xs (.inr x) := rfl
@[simp] theorem gIx_dic_int {ks : List Key} : gIx (.dic ks xs) (.int i) = dget ks xs (.inl i) := rfl
theorem atI_n {α : Type} {l : List α} {n : Nat} : atI l (n : Int) = l[n]? := by
  unfold atI ixN
  simp only [Int.natCast_nonneg, if_true, Int.toNat_natCast]
  by_cases h : (n : Int) < (l.length : Int)
  · simp [h]
  · simp only [if_neg h, Option.bind_none]
    exact (List.getElem?_eq_none (by omega)).symm
@[simp] theorem atI_0 {α : Type} {l : List α} : atI l 0 = l[0]? := atI_n (n := 0)
@[simp] theorem atI_1 {α : Type} {l : List α} : atI l 1 = l[1]? := atI_n (n := 1)
@[simp] theorem atI_2 {α : Type} {l : List α} : atI l 2 = l[2]? := atI_n (n := 2)
@[simp] theorem atI_3 {α : Type} {l : List α} : atI l 3 = l[3]? := atI_n (n := 3)
theorem gIx_str (h : x.length ≤ 16777216) {n : Nat} {c : Nat} (e : x.cps.toList[n]? = some c) : gIx (.str x) (.int n) = some (.str ⟨#[c]⟩) := by
  rw [← szl] at h
  show strAt x n = _
  unfold strAt
  rw [if_pos h, atI_n, e]
  rfl
@[simp] theorem putM_dic {ks : List Key} (h : ks.length < 16777216) : putM (.dic ks xs) (.str x) d = some (.dic (dput ks xs (.inr x) d).1 (dput ks xs (.inr x) d).2) := by
  rw [← szl] at h
  simp [putM, h]
@[simp] theorem mPopAt_0 {x : D} : mPopAt (.lst (x :: xs)) [.int 0] = some (.lst xs, x) := by
  simp [mPopAt, seqIndex?]
@[simp] theorem mAppend_lst (h : xs.length < 16777216) : mAppend (.lst xs) [d] = some (.lst (xs ++ [d]), .non) := by
  rw [← szl] at h
  simp [mAppend, h]
@[simp] theorem isi1_int : isi1 .int (.int i) = some (.bl true) := rfl
@[simp] theorem isi1_bool_int : isi1 .bool (.int i) = some (.bl false) := rfl
@[simp] theorem isi1_str_int : isi1 .str (.int i) = some (.bl false) := rfl
@[simp] theorem isi1_tuple_int : isi1 .tuple (.int i) = some (.bl false) := rfl
@[simp] theorem isi1_tuple : isi1 .tuple (.tup xs) = some (.bl true) := rfl
@[simp] theorem isi1_str : isi1 .str (.str x) = some (.bl true) := rfl
@[simp] theorem isi1_list : isi1 .list (.lst xs) = some (.bl true) := rfl
def kEnum (M : Store) (d : D) : Option D → Option IT
  | some (.lst xs) => some (enumD 0 xs, gdD d (.lst xs))
  | some (.tup xs) => some (enumD 0 xs, gdD d (.tup xs))
  | some (.str z) => some (enumD 0 (signsD z), gdD d (.str z))
  | _ => none
@[simp] theorem kEnum_lst {M : Store} : kEnum M d (some (.lst xs)) = some (enumD 0 xs, gdD d (.lst xs)) := rfl
@[simp] theorem kEnum_tup {M : Store} : kEnum M d (some (.tup xs)) = some (enumD 0 xs, gdD d (.tup xs)) := rfl
@[simp] theorem kEnum_str {M : Store} : kEnum M d (some (.str x)) = some (enumD 0 (signsD x), gdD d (.str x)) := rfl
def kEnumI (Q : IT → Store → Prop) (ds : List D) (M : Store) : Prop := match ds with | [d] => PV (kEnum M d (vwD M d)) M Q | _ => False
@[simp] theorem kEnumI_app {M : Store} {Q : IT → Store → Prop} : kEnumI Q [d] M = PV (kEnum M d (vwD M d)) M Q := rfl
@[simp] theorem m_iEnumD {M : Store} {en : En} {E : EX} {f : CA} {Q : IT → Store → Prop} : Post (iEnumD f en M) Q E = Post (f en M) (kEnumI Q) E := by
  simp only [iEnumD, Post_bind_eq]
  congr 1
  funext ds M1
  rcases ds with _ | ⟨a, _ | ⟨b, r⟩⟩
  · rfl
  · rw [kEnumI_app]
    show Post (ofO _ _) _ _ = _
    rw [Post_ofO]
    cases vwD M1 a with
    | none => rfl
    | some v => cases v <;> rfl
  · rfl
def andO : Option Bool → Option Bool → Option Bool
  | some a, some b => some (a && b)
  | _, _ => none
def orO : Option Bool → Option Bool → Option Bool
  | some a, some b => some (a || b)
  | _, _ => none
@[simp] theorem andO_some {a b : Bool} : andO (some a) (some b) = some (a && b) := rfl
@[simp] theorem orO_some {a b : Bool} : orO (some a) (some b) = some (a || b) := rfl
@[simp] theorem eqL_nn {f : D → D → Option Bool} : eqL f [] [] = some true := rfl
@[simp] theorem eqL_nc {f : D → D → Option Bool} : eqL f [] (d :: ys) = some false := rfl
@[simp] theorem eqL_cn {f : D → D → Option Bool} : eqL f (d :: xs) [] = some false := rfl
@[simp] theorem eqL_cc {f : D → D → Option Bool} {d' : D} : eqL f (d :: xs) (d' :: ys) = andO (f d d') (eqL f xs ys) := by
  rw [eqL]
  cases f d d' <;> cases eqL f xs ys <;> rfl
@[simp] theorem anyE_nil : anyE d [] = some false := rfl
@[simp] theorem anyE_cons {d' : D} : anyE d (d' :: xs) = orO (eqD 60 d' d) (anyE d xs) := by
  rw [anyE]
  cases eqD 60 d' d <;> cases anyE d xs <;> rfl
@[simp] theorem gIn_tup : gIn d (.tup xs) = (anyE d xs).map D.bl := by cases d <;> rfl
@[simp] theorem gIn_lst : gIn d (.lst xs) = (anyE d xs).map D.bl := by cases d <;> rfl
@[simp] theorem gNotIn_tup : gNotIn d (.tup xs) = (anyE d xs).map notD := by cases d <;> rfl
@[simp] theorem gNotIn_lst : gNotIn d (.lst xs) = (anyE d xs).map notD := by cases d <;> rfl
@[simp] theorem eqD_non_non {n : Nat} : eqD (n + 1) .non .non = some true := rfl
@[simp] theorem eqF_non_non {n : Nat} : eqF (n + 1) .non .non = some true := rfl
@[simp] theorem gEq_non_non : gEq .non .non = some (.bl true) := rfl
@[simp] theorem gNe_non_non : gNe .non .non = some (.bl false) := rfl
@[simp] theorem eqD_non_int {n : Nat} : eqD (n + 1) .non (.int j) = some false := rfl
@[simp] theorem eqF_non_int {n : Nat} : eqF (n + 1) .non (.int j) = some false := rfl
@[simp] theorem gEq_non_int : gEq .non (.int j) = some (.bl false) := rfl
@[simp] theorem gNe_non_int : gNe .non (.int j) = some (.bl true) := rfl
@[simp] theorem eqD_non_str {n : Nat} : eqD (n + 1) .non (.str y) = some false := rfl
@[simp] theorem eqF_non_str {n : Nat} : eqF (n + 1) .non (.str y) = some false := rfl
@[simp] theorem gEq_non_str : gEq .non (.str y) = some (.bl false) := rfl
@[simp] theorem gNe_non_str : gNe .non (.str y) = some (.bl true) := rfl
@[simp] theorem eqD_non_tup {n : Nat} : eqD (n + 1) .non (.tup ys) = some false := rfl
@[simp] theorem eqF_non_tup {n : Nat} : eqF (n + 1) .non (.tup ys) = some false := rfl
@[simp] theorem gEq_non_tup : gEq .non (.tup ys) = some (.bl false) := rfl
@[simp] theorem gNe_non_tup : gNe .non (.tup ys) = some (.bl true) := rfl
@[simp] theorem eqD_non_lst {n : Nat} : eqD (n + 1) .non (.lst ys) = some false := rfl
@[simp] theorem eqF_non_lst {n : Nat} : eqF (n + 1) .non (.lst ys) = some false := rfl
@[simp] theorem gEq_non_lst : gEq .non (.lst ys) = some (.bl false) := rfl
@[simp] theorem gNe_non_lst : gNe .non (.lst ys) = some (.bl true) := rfl
@[simp] theorem eqD_non_bl {b : Bool} {n : Nat} : eqD (n + 1) .non (.bl b) = some false := rfl
@[simp] theorem eqF_non_bl {b : Bool} {n : Nat} : eqF (n + 1) .non (.bl b) = some false := rfl
@[simp] theorem gEq_non_bl {b : Bool} : gEq .non (.bl b) = some (.bl false) := rfl
@[simp] theorem gNe_non_bl {b : Bool} : gNe .non (.bl b) = some (.bl true) := rfl
@[simp] theorem eqD_int_non {n : Nat} : eqD (n + 1) (.int i) .non = some false := rfl
@[simp] theorem eqF_int_non {n : Nat} : eqF (n + 1) (.int i) .non = some false := rfl
@[simp] theorem gEq_int_non : gEq (.int i) .non = some (.bl false) := rfl
@[simp] theorem gNe_int_non : gNe (.int i) .non = some (.bl true) := rfl
@[simp] theorem eqD_int_int {n : Nat} : eqD (n + 1) (.int i) (.int j) = some (decide (i = j)) := rfl
@[simp] theorem eqF_int_int {n : Nat} : eqF (n + 1) (.int i) (.int j) = some (decide (i = j)) := rfl
@[simp] theorem eqD_int_str {n : Nat} : eqD (n + 1) (.int i) (.str y) = some false := rfl
@[simp] theorem eqF_int_str {n : Nat} : eqF (n + 1) (.int i) (.str y) = some false := rfl
@[simp] theorem gEq_int_str : gEq (.int i) (.str y) = some (.bl false) := rfl
@[simp] theorem gNe_int_str : gNe (.int i) (.str y) = some (.bl true) := rfl
@[simp] theorem eqD_int_tup {n : Nat} : eqD (n + 1) (.int i) (.tup ys) = some false := rfl
@[simp] theorem eqF_int_tup {n : Nat} : eqF (n + 1) (.int i) (.tup ys) = some false := rfl
@[simp] theorem gEq_int_tup : gEq (.int i) (.tup ys) = some (.bl false) := rfl
@[simp] theorem gNe_int_tup : gNe (.int i) (.tup ys) = some (.bl true) := rfl
@[simp] theorem eqD_int_lst {n : Nat} : eqD (n + 1) (.int i) (.lst ys) = some false := rfl
@[simp] theorem eqF_int_lst {n : Nat} : eqF (n + 1) (.int i) (.lst ys) = some false := rfl
@[simp] theorem gEq_int_lst : gEq (.int i) (.lst ys) = some (.bl false) := rfl
@[simp] theorem gNe_int_lst : gNe (.int i) (.lst ys) = some (.bl true) := rfl
@[simp] theorem eqD_str_non {n : Nat} : eqD (n + 1) (.str x) .non = some false := rfl
@[simp] theorem eqF_str_non {n : Nat} : eqF (n + 1) (.str x) .non = some false := rfl
@[simp] theorem gEq_str_non : gEq (.str x) .non = some (.bl false) := rfl
@[simp] theorem gNe_str_non : gNe (.str x) .non = some (.bl true) := rfl
@[simp] theorem eqD_str_int {n : Nat} : eqD (n + 1) (.str x) (.int j) = some false := rfl
@[simp] theorem eqF_str_int {n : Nat} : eqF (n + 1) (.str x) (.int j) = some false := rfl
@[simp] theorem gEq_str_int : gEq (.str x) (.int j) = some (.bl false) := rfl
@[simp] theorem gNe_str_int : gNe (.str x) (.int j) = some (.bl true) := rfl
@[simp] theorem eqD_str_str {n : Nat} : eqD (n + 1) (.str x) (.str y) = some (decide (x = y)) := rfl
@[simp] theorem eqF_str_str {n : Nat} : eqF (n + 1) (.str x) (.str y) = some (decide (x = y)) := rfl
@[simp] theorem eqD_str_tup {n : Nat} : eqD (n + 1) (.str x) (.tup ys) = some false := rfl
@[simp] theorem eqF_str_tup {n : Nat} : eqF (n + 1) (.str x) (.tup ys) = some false := rfl
@[simp] theorem gEq_str_tup : gEq (.str x) (.tup ys) = some (.bl false) := rfl
@[simp] theorem gNe_str_tup : gNe (.str x) (.tup ys) = some (.bl true) := rfl
@[simp] theorem eqD_str_lst {n : Nat} : eqD (n + 1) (.str x) (.lst ys) = some false := rfl
@[simp] theorem eqF_str_lst {n : Nat} : eqF (n + 1) (.str x) (.lst ys) = some false := rfl
@[simp] theorem gEq_str_lst : gEq (.str x) (.lst ys) = some (.bl false) := rfl
@[simp] theorem gNe_str_lst : gNe (.str x) (.lst ys) = some (.bl true) := rfl
@[simp] theorem eqD_str_bl {b : Bool} {n : Nat} : eqD (n + 1) (.str x) (.bl b) = some false := rfl
@[simp] theorem eqF_str_bl {b : Bool} {n : Nat} : eqF (n + 1) (.str x) (.bl b) = some false := rfl
@[simp] theorem gEq_str_bl {b : Bool} : gEq (.str x) (.bl b) = some (.bl false) := rfl
@[simp] theorem gNe_str_bl {b : Bool} : gNe (.str x) (.bl b) = some (.bl true) := rfl
@[simp] theorem eqD_tup_non {n : Nat} : eqD (n + 1) (.tup xs) .non = some false := rfl
@[simp] theorem eqF_tup_non {n : Nat} : eqF (n + 1) (.tup xs) .non = some false := rfl
@[simp] theorem gEq_tup_non : gEq (.tup xs) .non = some (.bl false) := rfl
@[simp] theorem gNe_tup_non : gNe (.tup xs) .non = some (.bl true) := rfl
@[simp] theorem eqD_tup_int {n : Nat} : eqD (n + 1) (.tup xs) (.int j) = some false := rfl
@[simp] theorem eqF_tup_int {n : Nat} : eqF (n + 1) (.tup xs) (.int j) = some false := rfl
@[simp] theorem gEq_tup_int : gEq (.tup xs) (.int j) = some (.bl false) := rfl
@[simp] theorem gNe_tup_int : gNe (.tup xs) (.int j) = some (.bl true) := rfl
@[simp] theorem eqD_tup_str {n : Nat} : eqD (n + 1) (.tup xs) (.str y) = some false := rfl
@[simp] theorem eqF_tup_str {n : Nat} : eqF (n + 1) (.tup xs) (.str y) = some false := rfl
@[simp] theorem gEq_tup_str : gEq (.tup xs) (.str y) = some (.bl false) := rfl
@[simp] theorem gNe_tup_str : gNe (.tup xs) (.str y) = some (.bl true) := rfl
@[simp] theorem eqD_tup_tup {n : Nat} : eqD (n + 1) (.tup xs) (.tup ys) = eqL (eqD n) xs ys := rfl
@[simp] theorem eqF_tup_tup {n : Nat} : eqF (n + 1) (.tup xs) (.tup ys) = eqL (eqF n) xs ys := rfl
@[simp] theorem gEq_tup_tup : gEq (.tup xs) (.tup ys) = (eqL (eqF 59) xs ys).map D.bl := rfl
@[simp] theorem gNe_tup_tup : gNe (.tup xs) (.tup ys) = (eqL (eqF 59) xs ys).map notD := rfl
@[simp] theorem eqD_tup_lst {n : Nat} : eqD (n + 1) (.tup xs) (.lst ys) = some false := rfl
@[simp] theorem eqF_tup_lst {n : Nat} : eqF (n + 1) (.tup xs) (.lst ys) = some false := rfl
@[simp] theorem gEq_tup_lst : gEq (.tup xs) (.lst ys) = some (.bl false) := rfl
@[simp] theorem gNe_tup_lst : gNe (.tup xs) (.lst ys) = some (.bl true) := rfl
@[simp] theorem eqD_tup_bl {b : Bool} {n : Nat} : eqD (n + 1) (.tup xs) (.bl b) = some false := rfl
@[simp] theorem eqF_tup_bl {b : Bool} {n : Nat} : eqF (n + 1) (.tup xs) (.bl b) = some false := rfl
@[simp] theorem gEq_tup_bl {b : Bool} : gEq (.tup xs) (.bl b) = some (.bl false) := rfl
@[simp] theorem gNe_tup_bl {b : Bool} : gNe (.tup xs) (.bl b) = some (.bl true) := rfl
@[simp] theorem eqD_lst_non {n : Nat} : eqD (n + 1) (.lst xs) .non = some false := rfl
@[simp] theorem eqF_lst_non {n : Nat} : eqF (n + 1) (.lst xs) .non = some false := rfl
@[simp] theorem gEq_lst_non : gEq (.lst xs) .non = some (.bl false) := rfl
@[simp] theorem gNe_lst_non : gNe (.lst xs) .non = some (.bl true) := rfl
@[simp] theorem eqD_lst_int {n : Nat} : eqD (n + 1) (.lst xs) (.int j) = some false := rfl
@[simp] theorem eqF_lst_int {n : Nat} : eqF (n + 1) (.lst xs) (.int j) = some false := rfl
@[simp] theorem gEq_lst_int : gEq (.lst xs) (.int j) = some (.bl false) := rfl
@[simp] theorem gNe_lst_int : gNe (.lst xs) (.int j) = some (.bl true) := rfl
@[simp] theorem eqD_lst_str {n : Nat} : eqD (n + 1) (.lst xs) (.str y) = some false := rfl
@[simp] theorem eqF_lst_str {n : Nat} : eqF (n + 1) (.lst xs) (.str y) = some false := rfl
@[simp] theorem gEq_lst_str : gEq (.lst xs) (.str y) = some (.bl false) := rfl
@[simp] theorem gNe_lst_str : gNe (.lst xs) (.str y) = some (.bl true) := rfl
@[simp] theorem eqD_lst_tup {n : Nat} : eqD (n + 1) (.lst xs) (.tup ys) = some false := rfl
@[simp] theorem eqF_lst_tup {n : Nat} : eqF (n + 1) (.lst xs) (.tup ys) = some false := rfl
@[simp] theorem gEq_lst_tup : gEq (.lst xs) (.tup ys) = some (.bl false) := rfl
@[simp] theorem gNe_lst_tup : gNe (.lst xs) (.tup ys) = some (.bl true) := rfl
@[simp] theorem eqD_lst_lst {n : Nat} : eqD (n + 1) (.lst xs) (.lst ys) = eqL (eqD n) xs ys := rfl
@[simp] theorem eqF_lst_lst {n : Nat} : eqF (n + 1) (.lst xs) (.lst ys) = eqL (eqF n) xs ys := rfl
@[simp] theorem gEq_lst_lst : gEq (.lst xs) (.lst ys) = (eqL (eqF 59) xs ys).map D.bl := rfl
@[simp] theorem gNe_lst_lst : gNe (.lst xs) (.lst ys) = (eqL (eqF 59) xs ys).map notD := rfl
@[simp] theorem eqD_lst_bl {b : Bool} {n : Nat} : eqD (n + 1) (.lst xs) (.bl b) = some false := rfl
@[simp] theorem eqF_lst_bl {b : Bool} {n : Nat} : eqF (n + 1) (.lst xs) (.bl b) = some false := rfl
@[simp] theorem gEq_lst_bl {b : Bool} : gEq (.lst xs) (.bl b) = some (.bl false) := rfl
@[simp] theorem gNe_lst_bl {b : Bool} : gNe (.lst xs) (.bl b) = some (.bl true) := rfl
@[simp] theorem eqD_bl_non {a : Bool} {n : Nat} : eqD (n + 1) (.bl a) .non = some false := rfl
@[simp] theorem eqF_bl_non {a : Bool} {n : Nat} : eqF (n + 1) (.bl a) .non = some false := rfl
@[simp] theorem gEq_bl_non {a : Bool} : gEq (.bl a) .non = some (.bl false) := rfl
@[simp] theorem gNe_bl_non {a : Bool} : gNe (.bl a) .non = some (.bl true) := rfl
@[simp] theorem eqD_bl_str {a : Bool} {n : Nat} : eqD (n + 1) (.bl a) (.str y) = some false := rfl
@[simp] theorem eqF_bl_str {a : Bool} {n : Nat} : eqF (n + 1) (.bl a) (.str y) = some false := rfl
@[simp] theorem gEq_bl_str {a : Bool} : gEq (.bl a) (.str y) = some (.bl false) := rfl
@[simp] theorem gNe_bl_str {a : Bool} : gNe (.bl a) (.str y) = some (.bl true) := rfl
@[simp] theorem eqD_bl_tup {a : Bool} {n : Nat} : eqD (n + 1) (.bl a) (.tup ys) = some false := rfl
@[simp] theorem eqF_bl_tup {a : Bool} {n : Nat} : eqF (n + 1) (.bl a) (.tup ys) = some false := rfl
@[simp] theorem gEq_bl_tup {a : Bool} : gEq (.bl a) (.tup ys) = some (.bl false) := rfl
@[simp] theorem gNe_bl_tup {a : Bool} : gNe (.bl a) (.tup ys) = some (.bl true) := rfl
@[simp] theorem eqD_bl_lst {a : Bool} {n : Nat} : eqD (n + 1) (.bl a) (.lst ys) = some false := rfl
@[simp] theorem eqF_bl_lst {a : Bool} {n : Nat} : eqF (n + 1) (.bl a) (.lst ys) = some false := rfl
@[simp] theorem gEq_bl_lst {a : Bool} : gEq (.bl a) (.lst ys) = some (.bl false) := rfl
@[simp] theorem gNe_bl_lst {a : Bool} : gNe (.bl a) (.lst ys) = some (.bl true) := rfl
@[simp] theorem eqD_bl_bl {a b : Bool} {n : Nat} : eqD (n + 1) (.bl a) (.bl b) = some (a == b) := rfl
@[simp] theorem eqF_bl_bl {a b : Bool} {n : Nat} : eqF (n + 1) (.bl a) (.bl b) = some (a == b) := rfl
@[simp] theorem eqF_dic_dic {n : Nat} {ks ls : List Key} : eqF (n + 1) (.dic ks xs) (.dic ls ys) = if ks.length = ls.length then hitsD (eqF n) ls ys ks xs else some false := rfl
@[simp] theorem gEq_dic_dic {ks ls : List Key} : gEq (.dic ks xs) (.dic ls ys) = (if ks.length = ls.length then hitsD (eqF 59) ls ys ks xs else some false).map D.bl := rfl
@[simp] theorem gNe_dic_dic {ks ls : List Key} : gNe (.dic ks xs) (.dic ls ys) = (if ks.length = ls.length then hitsD (eqF 59) ls ys ks xs else some false).map notD := rfl
@[simp] theorem len_app : (x ++ y).length = x.length + y.length := Array.size_append
@[simp] theorem toList_app : (x ++ y).cps.toList = x.cps.toList ++ y.cps.toList := Array.toList_append
theorem len_toList : x.length = x.cps.toList.length := by rw [Array.length_toList]; rfl
theorem str_ext (h : x.cps.toList = y.cps.toList) : x = y := by
  cases x; cases y
  simp only [Str.mk.injEq]
  exact Array.toList_inj.mp h
def sg (c : Nat) : Str := ⟨#[c]⟩
def tx' (l : List Nat) : Str := ⟨l.toArray⟩
@[simp] theorem sg_list {c : Nat} : (sg c).cps.toList = [c] := rfl
@[simp] theorem tx_list {l : List Nat} : (tx' l).cps.toList = l := by simp [tx']
@[simp] theorem tx_len {l : List Nat} : (tx' l).length = l.length := by rw [len_toList, tx_list]
@[simp] theorem sg_len {c : Nat} : (sg c).length = 1 := rfl
theorem tx_snoc {l : List Nat} {c : Nat} : tx' l ++ sg c = tx' (l ++ [c]) := str_ext (by simp)
theorem tx_inj {l r : List Nat} : (tx' l = tx' r) ↔ l = r := ⟨fun h => by have := congrArg (fun z => z.cps.toList) h; simpa using this, fun h => by rw [h]⟩
theorem cut_to {n : Nat} : cutS x none (some (n : Int)) = tx' (x.cps.toList.take n) := by
  refine str_ext ?_
  unfold cutS
  simp only [HT.sIx_none, HT.sIx_nat, List.drop_zero, Nat.sub_zero]
  simp only [tx_list]
  rw [len_toList]
  exact List.take_eq_take_min.symm
theorem ixs_ok' {l : List Nat} {n : Nat} {c : Nat} (e : l[n]? = some c) (h : l.length ≤ 16777216) : gIx (.str (tx' l)) (.int n) = some (.str (sg c)) := gIx_str (by simpa using h) (by simpa using e)
theorem signs_tx {l : List Nat} : signsD (tx' l) = l.map fun c => .str (sg c) := by
  unfold signsD
  rw [tx_list]
  rfl
theorem lit (z : String) (l : List Nat) (h : (Str.ofString z).cps.toList = l) : Str.ofString z = tx' l := str_ext (by rw [h, tx_list])
theorem rngD_get {lo : Int} {n i : Nat} {d : D} (h : (rngD lo n)[i]? = some d) : i < n ∧ d = .int (lo + (i : Int)) := by
  obtain ⟨h1, h2⟩ := List.getElem?_eq_some_iff.mp h
  have h3 : i < n := by simpa [rngD] using h1
  refine ⟨h3, ?_⟩
  rw [← h2]
  simp [rngD]
@[simp] theorem rngD_len {lo : Int} {n : Nat} : (rngD lo n).length = n := by simp [rngD]
end
section
variable {en : En} {M : Store} {E : EX}
def kRaise (x f : Str) (en : En) (Q : QF) (ds : List D) (M : Store) : Prop := match ds with | [d] => Q (.exc x [(f, d)] en) M | _ => False
@[simp] theorem kRaise_app {x f : Str} {d : D} {Q : QF} : kRaise x f en Q [d] M = Q (.exc x [(f, d)] en) M := rfl
@[simp] theorem m_raiseS {x f : Str} {a : CA} {Q : QF} : Post (raiseS x f a en M) Q E = Post (a en M) (kRaise x f en Q) (kEx en Q) := by
  simp only [raiseS, Post_thenA]
  congr 1
  funext ds M1
  rcases ds with _ | ⟨a, _ | ⟨b, r⟩⟩ <;> rfl
def kUntag (i : Nat) (Q : QF) (r : Fl) (M : Store) : Prop := match r with
  | .next en => Q (.next (en.set i none)) M
  | .brk en => Q (.brk (en.set i none)) M
  | .cont en => Q (.cont (en.set i none)) M
  | .ret d => Q (.ret d) M
  | .exc _ _ _ => False
@[simp] theorem kUntag_next {i : Nat} {Q : QF} : kUntag i Q (.next en) M = Q (.next (en.set i none)) M := rfl
@[simp] theorem kUntag_ret {i : Nat} {Q : QF} {d : D} : kUntag i Q (.ret d) M = Q (.ret d) M := rfl
def kHan (o : Option Bool) (i : Nat) (h : Str → List (Str × D) → CS) (c : Str) (fs : List (Str × D)) (en : En) (Q : QF) (M : Store) : Prop := match o with
  | some true => i < en.length ∧ Post (h c fs (en.set i none) M) (kUntag i Q) kNo
  | some false => Q (.exc c fs en) M
  | none => False
@[simp] theorem kHan_t {i : Nat} {h : Str → List (Str × D) → CS} {c : Str} {fs : List (Str × D)} {Q : QF} : kHan (some true) i h c fs en Q M = (i < en.length ∧ Post (h c fs (en.set i none) M) (kUntag i Q) kNo) := rfl
@[simp] theorem kHan_f {i : Nat} {h : Str → List (Str × D) → CS} {c : Str} {fs : List (Str × D)} {Q : QF} : kHan (some false) i h c fs en Q M = Q (.exc c fs en) M := rfl
def kTry (ok : Str → Option Bool) (i : Nat) (h : Str → List (Str × D) → CS) (Q : QF) (r : Fl) (M : Store) : Prop := match r with
  | .exc c fs en => kHan (ok c) i h c fs en Q M
  | r => Q r M
@[simp] theorem kTry_exc {ok : Str → Option Bool} {i : Nat} {h : Str → List (Str × D) → CS} {c : Str} {fs : List (Str × D)} {Q : QF} : kTry ok i h Q (.exc c fs en) M = kHan (ok c) i h c fs en Q M := rfl
@[simp] theorem kTry_next {ok : Str → Option Bool} {i : Nat} {h : Str → List (Str × D) → CS} {Q : QF} : kTry ok i h Q (.next en) M = Q (.next en) M := rfl
@[simp] theorem kTry_ret {ok : Str → Option Bool} {i : Nat} {h : Str → List (Str × D) → CS} {Q : QF} {d : D} : kTry ok i h Q (.ret d) M = Q (.ret d) M := rfl
@[simp] theorem kTry_brk {ok : Str → Option Bool} {i : Nat} {h : Str → List (Str × D) → CS} {Q : QF} : kTry ok i h Q (.brk en) M = Q (.brk en) M := rfl
@[simp] theorem kTry_cont {ok : Str → Option Bool} {i : Nat} {h : Str → List (Str × D) → CS} {Q : QF} : kTry ok i h Q (.cont en) M = Q (.cont en) M := rfl
theorem Post_untag {i : Nat} {o : Out Fl} {Q : QF} : Post (untag i o) Q E = Post o (kUntag i Q) kNo := by
  cases o with
  | ok r M1 => cases r <;> rfl
  | exc c fs M1 => rfl
  | err => rfl
@[simp] theorem m_tryS {f : CS} {ok : Str → Option Bool} {i : Nat} {h : Str → List (Str × D) → CS} {Q : QF} : Post (tryS f ok i h en M) Q E = Post (f en M) (kTry ok i h Q) E := by
  unfold tryS
  cases f en M with
  | err => rfl
  | exc c fs M1 => rfl
  | ok r M1 =>
    cases r with
    | exc c fs en1 =>
      show Post (match ok c with | some true => _ | some false => _ | none => _) Q E = kHan (ok c) i h c fs en1 Q M1
      cases ok c with
      | none => rfl
      | some k =>
        cases k with
        | false => rfl
        | true =>
          show Post (if i < en1.length then _ else _) Q E = _
          rw [Post_ite, Post_untag]
          rfl
    | next en1 => rfl
    | brk en1 => rfl
    | cont en1 => rfl
    | ret d => rfl
@[simp] theorem okL_1 {x : Str} {k : Bool} {r : List (Str × Bool)} : okL ((x, k) :: r) x = some k := by simp [okL, List.lookup]
def kSG3 (a : Hd) (l : Option Int) (en : En) (Q : D → Store → Prop) (u : Option Int) (M : Store) : Prop := PV ((vw en M a).bind (gSl l u)) M Q
@[simp] theorem kSG3_app {a : Hd} {l u : Option Int} {Q : D → Store → Prop} : kSG3 a l en Q u M = PV ((vw en M a).bind (gSl l u)) M Q := rfl
def kSG2 (a : Hd) (hi : Option CE) (en : En) (Q : D → Store → Prop) (E : EX) (l : Option Int) (M : Store) : Prop := Post (optE hi en M) (kSG3 a l en Q) E
@[simp] theorem kSG2_app {a : Hd} {hi : Option CE} {l : Option Int} {Q : D → Store → Prop} : kSG2 a hi en Q E l M = Post (optE hi en M) (kSG3 a l en Q) E := rfl
def kSG (lo hi : Option CE) (en : En) (Q : D → Store → Prop) (E : EX) (a : Hd) (M : Store) : Prop := Post (optE lo en M) (kSG2 a hi en Q E) E
@[simp] theorem kSG_app {a : Hd} {lo hi : Option CE} {Q : D → Store → Prop} : kSG lo hi en Q E a M = Post (optE lo en M) (kSG2 a hi en Q E) E := rfl
@[simp] theorem m_eSlG {h : CH} {lo hi : Option CE} {Q : D → Store → Prop} : Post (eSlG h lo hi en M) Q E = Post (h en M) (kSG lo hi en Q E) E := by
  simp only [eSlG, Post_bind_eq, Post_ofO]
  rfl
@[simp] theorem gSl_tup {l u : Option Int} {xs : List D} : gSl l u (.tup xs) = some (.tup (cutD xs l u)) := rfl
@[simp] theorem gSl_lst {l u : Option Int} {xs : List D} : gSl l u (.lst xs) = some (.lst (cutD xs l u)) := rfl
@[simp] theorem cutD_1 {x : D} {xs : List D} : cutD (x :: xs) (some 1) none = xs := by
  unfold cutD HT.sIx
  simp
end
end DL
namespace DL
open PySem PySem.Spec PyProof.Rows L2
def keyP : Key → PyData
  | .inl i => .int i
  | .inr x => .str x
mutual
def pyE : D → Option PyData
  | .non => some .none
  | .bl k => some (.bool k)
  | .int i => some (.int i)
  | .str x => some (.str x)
  | .tup xs => (pyEs xs).map .tuple
  | .lst xs => (pyEs xs).map .list
  | .dic ks xs => (pyEs xs).map fun ps => .dict ((ks.map keyP).zip ps)
  | _ => none
def pyEs : List D → Option (List PyData)
  | [] => some []
  | x :: xs => (pyE x).bind fun p => (pyEs xs).map fun ps => p :: ps
end
structure Shw (P : Program) (w : World) (h : Heap) (u : Value) (p : PyData) : Prop where
  rd : ∃ as, Reads h u p as
  sh : p.showable = true → p.shown.length ≤ sizeLine → ∃ cs, ReadAtMost h p.depth cs ∧ ReprK P w cs h p.depth u p.shown
  tp : p.showable = true → p.shown.length ≤ sizeLine → ∀ a, u = .ref a → ∃ T idr, ShowsBy P w h a p T idr
structure Shws (P : Program) (w : World) (h : Heap) (us : List Value) (ps : List PyData) : Prop where
  rd : ∃ as, ReadsAll h us ps as
  sh : PyData.showableAll ps = true → (∀ t ∈ PyData.shownAll ps, t.length ≤ sizeLine) → ∃ cs, ReadAtMost h (PyData.depthAll ps) cs ∧ ReprAllK P w cs h (PyData.depthAll ps) us (PyData.shownAll ps)
section
variable {P : Program} {w : World} {h : Heap} {u : Value} {p : PyData}
theorem no_reads {n : Nat} : ReadAtMost h n [] := fun _ q => nomatch q
theorem Shw.flat (r : Reads h u p []) (z : p.showable = true → p.shown.length ≤ sizeLine → ReprIs P w u p.shown) (nr : ∀ a, u ≠ .ref a) : Shw P w h u p :=
  ⟨⟨_, r⟩, fun x y => ⟨[], no_reads, .of_is (z x y) _ _ _⟩, fun _ _ a e => absurd e (nr a)⟩
theorem Shws.nil : Shws P w h [] [] := ⟨⟨_, .nil⟩, fun _ _ => ⟨[], no_reads, by simp only [PyData.shownAll]; exact .nil⟩⟩
theorem Shws.cons {us : List Value} {ps : List PyData} (x : Shw P w h u p) (y : Shws P w h us ps) : Shws P w h (u :: us) (p :: ps) := by
  obtain ⟨⟨a1, r1⟩, s1, _⟩ := x
  obtain ⟨⟨a2, r2⟩, s2⟩ := y
  refine ⟨⟨_, .cons r1 r2⟩, fun hs hz => ?_⟩
  simp only [PyData.showableAll, Bool.and_eq_true] at hs
  simp only [PyData.shownAll, List.mem_cons] at hz
  obtain ⟨c1, m1, k1⟩ := s1 hs.1 (hz _ (.inl rfl))
  obtain ⟨c2, m2, k2⟩ := s2 hs.2 fun t q => hz t (.inr q)
  refine ⟨c1 ++ c2, ?_, ?_⟩
  · simp only [PyData.depthAll]
    exact (m1.mono (Nat.le_max_left _ _)).append (m2.mono (Nat.le_max_right _ _))
  · simp only [PyData.depthAll, PyData.shownAll]
    exact .cons ((k1.more fun b q => List.mem_append_left _ q).level_le (Nat.le_max_left _ _)) (k2.more_le (fun b q => List.mem_append_right _ q) (Nat.le_max_right _ _))
theorem Shw.lst {a : Addr} {o : Obj} {vs : Array Value} {n : Nat} {ps : List PyData} (e1 : h.get? a = some o) (e2 : o.cls = .type "list") (e3 : o.data = .seq vs n) (y : Shws P w h vs.toList ps) : Shw P w h (.ref a) (.list ps) := by
  obtain ⟨⟨a2, r2⟩, s2⟩ := y
  have r := Reads.list e1 e2 e3 r2
  have go : (PyData.list ps).showable = true → (PyData.list ps).shown.length ≤ sizeLine → ∃ c2, a ∉ c2 ∧ ReadAtMost h (PyData.depthAll ps) c2 ∧ ReprAllK P w c2 h (PyData.depthAll ps) vs.toList (PyData.shownAll ps) := fun hs hz => by
    simp only [PyData.showable] at hs
    simp only [PyData.shown] at hz
    obtain ⟨c2, m2, k2⟩ := s2 hs fun t q => Nat.le_trans (listText_mem_le q) hz
    exact ⟨c2, not_mem_of_deeper r (by simp only [PyData.depth]; omega) m2, m2, k2⟩
  refine ⟨⟨_, r⟩, fun hs hz => ?_, fun hs hz b eb => ?_⟩
  · obtain ⟨c2, ni, m2, k2⟩ := go hs hz
    refine ⟨a :: c2, ReadAtMost.cons r (by simp only [PyData.depth]; omega) m2, ?_⟩
    simp only [PyData.depth, PyData.shown]
    cases vs with
    | mk l =>
      cases l with
      | nil =>
        cases (show ReadsAll h [] ps _ from r2)
        simp only [PyData.shownAll, listText_nil]
        exact ReprK.listEmpty e1 e2 e3
      | cons x l => exact ReprK.list e1 e2 e3 ni (by simpa using k2.length_eq) fun i y q => k2.item i y (by simpa using q)
  · cases eb
    obtain ⟨c2, ni, m2, k2⟩ := go hs hz
    refine ⟨_, _, F.slot_list_repr.toG, F.slot_list_str, F.slot_list_format, fun s up => ⟨o, up _ _ e1, e2⟩, fun A E s Q gd un up k => ?_⟩
    simp only [PyData.depth] at un
    simp only [PyData.shown] at k hz
    cases vs with
    | mk l =>
      cases l with
      | nil =>
        cases (show ReadsAll h [] ps _ from r2)
        simp only [PyData.shownAll, listText_nil] at k
        exact call_list_repr_empty ⟨o, up _ _ e1, e2⟩ (up _ _ e1) e3 (k s.heap _ _ fun _ _ q => q)
      | cons x l => exact call_list_reprK e1 e2 e3 ni (by simpa using k2.length_eq) (fun i y q => k2.item i y (by simpa using q)) gd (fun b _ => Clear.nil b) un up k hz
theorem Shw.tup {a : Addr} {o : Obj} {vs : Array Value} {n : Nat} {ps : List PyData} (e1 : h.get? a = some o) (e2 : o.cls = .type "tuple") (e3 : o.data = .seq vs n) (y : Shws P w h vs.toList ps) : Shw P w h (.ref a) (.tuple ps) := by
  obtain ⟨⟨a2, r2⟩, s2⟩ := y
  have r := Reads.tuple e1 e2 e3 r2
  have go : (PyData.tuple ps).showable = true → (PyData.tuple ps).shown.length ≤ sizeLine → ∃ c2, a ∉ c2 ∧ ReadAtMost h (PyData.depthAll ps) c2 ∧ ReprAllK P w c2 h (PyData.depthAll ps) vs.toList (PyData.shownAll ps) := fun hs hz => by
    simp only [PyData.showable] at hs
    simp only [PyData.shown] at hz
    obtain ⟨c2, m2, k2⟩ := s2 hs fun t q => Nat.le_trans (tupleText_mem_le q) hz
    exact ⟨c2, not_mem_of_deeper r (by simp only [PyData.depth]; omega) m2, m2, k2⟩
  refine ⟨⟨_, r⟩, fun hs hz => ?_, fun hs hz b eb => ?_⟩
  · obtain ⟨c2, ni, m2, k2⟩ := go hs hz
    refine ⟨a :: c2, ReadAtMost.cons r (by simp only [PyData.depth]; omega) m2, ?_⟩
    simp only [PyData.depth, PyData.shown]
    exact ReprK.tuple e1 e2 e3 ni k2
  · cases eb
    obtain ⟨c2, ni, m2, k2⟩ := go hs hz
    refine ⟨_, _, F.slot_tuple_repr, F.slot_tuple_str, F.slot_tuple_format, fun s up => ⟨o, up _ _ e1, e2⟩, fun A E s Q gd un up k => ?_⟩
    simp only [PyData.depth] at un
    simp only [PyData.shown] at k hz
    exact call_tuple_reprK e1 e2 e3 ni k2 gd (fun b _ => Clear.nil b) un up k hz
theorem Shw.dic {a : Addr} {o : Obj} {es : Array DictEntry} {n : Nat} {qs : List (PyData × PyData)} (e1 : h.get? a = some o) (e2 : o.cls = .type "dict") (e3 : o.data = .dict es n) (sy : (a == sysModules) = false)
    (x : Shws P w h (es.toList.map (·.key)) (qs.map (·.1))) (y : Shws P w h (es.toList.map (·.val)) (qs.map (·.2))) : Shw P w h (.ref a) (.dict qs) := by
  obtain ⟨⟨a1, r1⟩, s1⟩ := x
  obtain ⟨⟨a2, r2⟩, s2⟩ := y
  have r := Reads.dict e1 e2 e3 r1 r2
  have go : (PyData.dict qs).showable = true → (PyData.dict qs).shown.length ≤ sizeLine → ∃ c, a ∉ c ∧ ReadAtMost h (PyData.depthKv qs) c ∧ ReprEntriesK P w c h (PyData.depthKv qs) es.toList (PyData.shownKv qs) := fun hs hz => by
    simp only [PyData.showable] at hs
    simp only [PyData.shown] at hz
    obtain ⟨z1, z2⟩ := PyData.showableKv_split qs hs
    obtain ⟨c1, m1, k1⟩ := s1 z1 fun t q => by
      obtain ⟨p, hp, hl⟩ := PyData.shownKv_key_le qs t q
      exact Nat.le_trans hl (Nat.le_trans (dictText_mem_le hp) hz)
    obtain ⟨c2, m2, k2⟩ := s2 z2 fun t q => by
      obtain ⟨p, hp, hl⟩ := PyData.shownKv_val_le qs t q
      exact Nat.le_trans hl (Nat.le_trans (dictText_mem_le hp) hz)
    have m := (m1.mono (PyData.depthAll_keys_le qs)).append (m2.mono (PyData.depthAll_vals_le qs))
    refine ⟨c1 ++ c2, not_mem_of_deeper r (by simp only [PyData.depth]; omega) m, m, ?_⟩
    rw [PyData.shownKv_eq]
    exact ReprEntriesK.of_two _ _ _ (k1.more_le (fun b q => List.mem_append_left _ q) (PyData.depthAll_keys_le qs)) (k2.more_le (fun b q => List.mem_append_right _ q) (PyData.depthAll_vals_le qs))
  refine ⟨⟨_, r⟩, fun hs hz => ?_, fun hs hz b eb => ?_⟩
  · obtain ⟨c2, ni, m2, k2⟩ := go hs hz
    refine ⟨a :: c2, ReadAtMost.cons r (by simp only [PyData.depth]; omega) m2, ?_⟩
    simp only [PyData.depth, PyData.shown]
    exact ReprK.dict e1 e2 e3 sy ni k2
  · cases eb
    obtain ⟨c2, ni, m2, k2⟩ := go hs hz
    refine ⟨_, _, F.slot_dict_repr, F.slot_dict_str, F.slot_dict_format, fun s up => ⟨o, up _ _ e1, e2⟩, fun A E s Q gd un up k => ?_⟩
    simp only [PyData.depth] at un
    simp only [PyData.shown] at k hz
    exact call_dict_reprK e1 e2 e3 sy ni k2 gd (fun b _ => Clear.nil b) un up k hz
theorem Shw.call {a : Addr} {A : Around} {E : Value → Shared → Prop} {s : Shared} {Q : Value → Shared → Prop} (x : Shw P w s.heap (.ref a) p) (hs : p.showable = true) (hz : p.shown.length ≤ sizeLine) (hg : A.guards = some []) (hu : A.units + (p.depth + 1) < cLine)
    (k : ∀ h' u tk, (∀ b o, s.heap.get? b = some o → h'.get? b = some o) → Q (.str p.shown u) { s with heap := h', toks := tk }) : wpAny (model P w) A (call (.builtin "repr") [.ref a]) Q E s := by
  obtain ⟨T, idr, S⟩ := x.tp hs hz a rfl
  refine call_repr_slot (by omega) (S.typeIs s fun _ _ q => q) S.slotRepr ?_
  exact S.call A.in1 E s _ hg (by show A.units + 1 + p.depth < cLine; omega) (fun _ _ q => q) fun h' u tk q => ⟨_, _, rfl, k h' u tk q⟩
end
section
variable {X : Cx} {ct : CT} {w : Wd} {M : Store} {H : Hp} {pins : List (Addr × Obj)} {σ : L2.St} {s : Shared}
theorem shw_key {k : Key} {v : Value} (h : (mixKind X.prog X.w).is k v = true) (z : (keyP k).showable = true → True) : Shw X.prog X.w s.heap v (keyP k) := by
  rcases keyIs_shape h with ⟨i, t, rfl, rfl⟩ | ⟨x, t, rfl, rfl⟩
  · exact .flat (.int i t) (fun z _ => by simp only [keyP, PyData.shown]; exact ReprIs.int t (by simpa [keyP, PyData.showable] using z)) nofun
  · exact .flat (.str x t) (fun _ z => by simp only [keyP, PyData.shown]; exact ReprIs.str x t (by simpa only [keyP, PyData.shown] using z)) nofun
theorem shws_keys : ∀ {es : List DictEntry} {kvs : List (Key × V)} {vs : List (Key × Value)}, KV kvs vs → Pairs (mixKind X.prog X.w) es vs → Shws X.prog X.w s.heap (es.map (·.key)) ((kvs.map (·.1)).map keyP) ∧ Vals (kvs.map (·.2)) (es.map (·.val))
  | _, _, _, .nil, .nil => ⟨.nil, .nil⟩
  | _, _, _, .cons r rs, .cons q e qs => by
    obtain ⟨h1, h2⟩ := shws_keys rs qs
    obtain ⟨r1, r2⟩ := r
    refine ⟨.cons ?_ h1, .cons ?_ h2⟩
    · have := shw_key (X := X) (s := s) q fun _ => trivial
      rw [← r1] at this
      exact this
    · have := r2
      rw [← e] at this
      exact this
theorem zip_fst {α β : Type} : ∀ {l : List α} {m : List β}, l.length = m.length → (l.zip m).map (·.1) = l ∧ (l.zip m).map (·.2) = m
  | [], [], _ => ⟨rfl, rfl⟩
  | a :: l, b :: m, h => by
    obtain ⟨h1, h2⟩ := zip_fst (l := l) (m := m) (by simpa using h)
    simp [h1, h2]
theorem pyEs_len : ∀ {xs : List D} {ps : List PyData}, pyEs xs = some ps → xs.length = ps.length
  | [], ps, e => by simp only [pyEs, Option.some.injEq] at e; subst e; rfl
  | x :: xs, ps, e => by
    simp only [pyEs] at e
    obtain ⟨p1, e1, e⟩ := Option.bind_eq_some_iff.mp e
    obtain ⟨qs, e2, rfl⟩ := Option.map_eq_some_iff.mp e
    simp [pyEs_len e2]
mutual
theorem shw_of (I : Inv X pins σ H s) (rl : Rl X.K ct w M H) : ∀ (d : D) (v : V) (u : Value) (p : PyData), Rep X.K w d v → RelV v u → pyE d = some p → Shw X.prog X.w s.heap u p
  | .non, v, u, p, h, r, e => by
    simp only [Rep] at h
    subst h
    simp only [pyE, Option.some.injEq] at e
    subst e
    obtain rfl : u = Value.none := r
    exact .flat .none (fun _ _ => by simp only [PyData.shown]; exact ReprIs.none) nofun
  | .bl k, v, u, p, h, r, e => by
    simp only [Rep] at h
    subst h
    simp only [pyE, Option.some.injEq] at e
    subst e
    obtain rfl : u = Value.bool k := r
    exact .flat (.bool k) (fun _ _ => by simp only [PyData.shown]; exact ReprIs.bool k) nofun
  | .int i, v, u, p, h, r, e => by
    simp only [Rep] at h
    subst h
    simp only [pyE, Option.some.injEq] at e
    subst e
    obtain ⟨t, rfl⟩ := r
    exact .flat (.int i t) (fun z _ => by simp only [PyData.shown]; exact ReprIs.int t (by simpa [PyData.showable] using z)) nofun
  | .str i, v, u, p, h, r, e => by
    simp only [Rep] at h
    subst h
    simp only [pyE, Option.some.injEq] at e
    subst e
    obtain ⟨t, rfl⟩ := r
    exact .flat (.str i t) (fun _ z => by simp only [PyData.shown]; exact ReprIs.str i t (by simpa only [PyData.shown] using z)) nofun
  | .tup xs, v, u, p, h, r, e => by
    simp only [Rep] at h
    obtain ⟨a, vs, rfl, h1, h2⟩ := h
    simp only [pyE] at e
    obtain ⟨ps, e1, rfl⟩ := Option.map_eq_some_iff.mp e
    cases r
    obtain ⟨its, rv, pl, _⟩ := I.tuple (rl.sub.sqt h1)
    have q := shws_of I rl xs vs its ps h2 rv e1
    obtain ⟨o, ho, hc, n, hd⟩ := pl
    exact .tup ho hc hd (by simpa using q)
  | .lst xs, v, u, p, h, r, e => by
    simp only [Rep] at h
    obtain ⟨a, vs, rfl, h1, h2⟩ := h
    simp only [pyE] at e
    obtain ⟨ps, e1, rfl⟩ := Option.map_eq_some_iff.mp e
    cases r
    obtain ⟨its, rv, pl, _⟩ := I.list (SqL.of (rl.sub.lst h1))
    have q := shws_of I rl xs vs its ps h2 rv e1
    obtain ⟨o, n, ho, hc, hdn, hd⟩ := pl
    exact .lst ho hc hd (by simpa using q)
  | .dic ks xs, v, u, p, h, r, e => by
    simp only [Rep] at h
    obtain ⟨a, vs, rfl, ⟨o1, h1⟩, h2, h3⟩ := h
    simp only [pyE] at e
    obtain ⟨ps, e1, rfl⟩ := Option.map_eq_some_iff.mp e
    cases r
    obtain ⟨_, sy, ws, kv, o, es, ep, g1, g2, g3, _, g5, _⟩ := dk_rd I.hok (.inr ⟨o1, rl.sub.frz h1⟩)
    obtain ⟨k1, k2⟩ := shws_keys (X := X) (s := s) kv g5
    have lv := h3.length
    obtain ⟨z1, z2⟩ := zip_fst (l := ks) (m := vs) (by omega)
    rw [z1] at k1
    rw [z2] at k2
    have q := shws_of I rl xs vs _ ps h3 k2 e1
    have lp := pyEs_len e1
    obtain ⟨y1, y2⟩ := zip_fst (l := ks.map keyP) (m := ps) (by simp; omega)
    exact .dic g1 g2.1 g3 sy (by rw [y1]; exact k1) (by rw [y2]; exact q)
  | .ref _, v, u, p, h, r, e => by simp only [pyE] at e; cases e
  | .scr _, v, u, p, h, r, e => by simp only [pyE] at e; cases e
theorem shws_of (I : Inv X pins σ H s) (rl : Rl X.K ct w M H) : ∀ (d : List D) (v : List V) (u : List Value) (p : List PyData), RepL X.K w d v → Vals v u → pyEs d = some p → Shws X.prog X.w s.heap u p
  | [], v, u, p, h, r, e => by
    rw [RepL.nil_iff] at h
    subst h
    cases r
    simp only [pyEs, Option.some.injEq] at e
    subst e
    exact .nil
  | x :: xs, v, u, p, h, r, e => by
    rw [RepL.cons_iff] at h
    obtain ⟨v1, r1, rfl, h1, h2⟩ := h
    cases r with
    | cons r0 rs =>
      simp only [pyEs] at e
      obtain ⟨p1, e1, e⟩ := Option.bind_eq_some_iff.mp e
      obtain ⟨ps, e2, rfl⟩ := Option.map_eq_some_iff.mp e
      exact .cons (shw_of I rl x v1 _ p1 h1 r0 e1) (shws_of I rl xs r1 _ ps h2 rs e2)
end
theorem shw_vw (I : Inv X pins σ H s) (rl : Rl X.K ct w M H) {d : D} {v : V} {u : Value} {p : PyData} (h : Vw X.K w H d v) (r : RelV v u) (e : pyE d = some p) : Shw X.prog X.w s.heap u p := by
  cases d with
  | lst xs =>
    obtain ⟨a, vs, rfl, h1, h2⟩ := h
    simp only [pyE] at e
    obtain ⟨ps, e1, rfl⟩ := Option.map_eq_some_iff.mp e
    cases r
    obtain ⟨its, rv, pl, _⟩ := I.list (SqL.of h1)
    have q := shws_of I rl xs vs its ps h2 rv e1
    obtain ⟨o, n, ho, hc, hdn, hd⟩ := pl
    exact .lst ho hc hd (by simpa using q)
  | dic ks xs =>
    obtain ⟨a, vs, rfl, h1, h2, h3⟩ := h
    simp only [pyE] at e
    obtain ⟨ps, e1, rfl⟩ := Option.map_eq_some_iff.mp e
    cases r
    obtain ⟨_, sy, ws, kv, o, es, ep, g1, g2, g3, _, g5, _⟩ := dk_rd I.hok h1
    obtain ⟨k1, k2⟩ := shws_keys (X := X) (s := s) kv g5
    have lv := h3.length
    obtain ⟨z1, z2⟩ := zip_fst (l := ks) (m := vs) (by omega)
    rw [z1] at k1
    rw [z2] at k2
    have q := shws_of I rl xs vs _ ps h3 k2 e1
    have lp := pyEs_len e1
    obtain ⟨y1, y2⟩ := zip_fst (l := ks.map keyP) (m := ps) (by simp; omega)
    exact .dic g1 g2.1 g3 sy (by rw [y1]; exact k1) (by rw [y2]; exact q)
  | tup xs => exact shw_of I rl _ _ _ _ h.1 r e
  | non => exact shw_of I rl .non v u p (by simp only [Rep]; exact h) r e
  | bl k => exact shw_of I rl (.bl k) v u p (by simp only [Rep]; exact h) r e
  | int i => exact shw_of I rl (.int i) v u p (by simp only [Rep]; exact h) r e
  | str x => exact shw_of I rl (.str x) v u p (by simp only [Rep]; exact h) r e
  | ref n => simp only [pyE] at e; cases e
  | scr n => simp only [pyE] at e; cases e
def gRp : List D → Option D
  | [d] => (pyE d).bind fun p => if p.showable = true ∧ p.depth ≤ 60 ∧ p.shown.length ≤ sizeLine then some (.str p.shown) else none
  | _ => none
theorem reads_flat {h : Heap} {u : Value} {p : PyData} {as : List Addr} (r : Reads h u p as) : (∃ a, u = .ref a) ∨ (u = .none ∧ p = .none) ∨ (∃ k, u = .bool k ∧ p = .bool k) ∨ (∃ i t, u = .int i t ∧ p = .int i) ∨ ∃ x t, u = .str x t ∧ p = .str x := by
  cases r with
  | none => exact .inr (.inl ⟨rfl, rfl⟩)
  | bool b => exact .inr (.inr (.inl ⟨_, rfl, rfl⟩))
  | int i t => exact .inr (.inr (.inr (.inl ⟨_, _, rfl, rfl⟩)))
  | str x t => exact .inr (.inr (.inr (.inr ⟨_, _, rfl, rfl⟩)))
  | list _ _ _ _ => exact .inl ⟨_, rfl⟩
  | tuple _ _ _ _ => exact .inl ⟨_, rfl⟩
  | dict _ _ _ _ _ => exact .inl ⟨_, rfl⟩
theorem cv_repr2 (hgd : X.A.guards = some []) (hu : X.A.units + 64 < cLine) : CallV X ct (.builtin "repr") gRp := CallV.mk' fun pins s σ H vs us Q w M ds d I rx rl hx e k => by
  match ds, e with
  | [d0], e =>
    obtain ⟨p, e1, e⟩ := Option.bind_eq_some_iff.mp e
    split at e
    case isFalse => cases e
    rename_i hc
    cases e
    obtain ⟨v, rfl, h1⟩ := hx.one
    obtain ⟨u, rfl, ru⟩ := vals1 rx
    have q := shw_vw I rl h1 ru e1
    obtain ⟨as, r⟩ := q.rd
    rcases reads_flat r with ⟨a, rfl⟩ | ⟨rfl, rfl⟩ | ⟨b, rfl, rfl⟩ | ⟨i, t, rfl, rfl⟩ | ⟨x, t, rfl, rfl⟩
    · refine q.call hc.1 hc.2.2 hgd (by have := hc.2.1; omega) fun h' u tk kp => ?_
      exact ⟨.str p.shown, H, I.kept (t' := tk) kp, ⟨u, rfl⟩, k.now rl rfl⟩
    · refine P.repr_of_none ⟨V.str _, H, I.tok _, ⟨_, rfl⟩, k.now rl (by simp only [PyData.shown]; rfl)⟩
    · refine P.repr_of_bool ⟨V.str _, H, I.tok _, ⟨_, rfl⟩, k.now rl (by simp only [PyData.shown]; rfl)⟩
    · refine P.repr_of_int (by simpa [PyData.showable] using hc.1) ⟨V.str _, H, I.tok _, ⟨_, rfl⟩, k.now rl (by simp only [PyData.shown]; rfl)⟩
    · refine P.repr_of_str ⟨V.str _, H, I.tok _, ⟨_, rfl⟩, k.now rl (by simp only [PyData.shown]; rfl)⟩ (by simpa only [PyData.shown] using hc.2.2)
end
end DL
namespace DL
open PySem PySem.Spec PyProof.Rows L2
section
variable {X : Cx} {ct : CT} {b : Base} {W : WX} {pos : Pos} {n : Str} {i : Nat}
end
section
variable {d : D} {x : Str} {i : Int} {xs : List D}
theorem gRp_of {p : PyData} {z : Str} (e : pyE d = some p) (h1 : p.showable = true) (h2 : p.depth ≤ 60) (h3 : p.shown = z) (h4 : z.length ≤ 16777216) : gRp [d] = some (.str z) := by
  have szl : sizeLine = 16777216 := by decide
  simp [gRp, e, h1, h2, h3, szl, h4]
end
end DL
namespace DL
open PySem PySem.Spec PyProof.Rows L2
section
variable {X : Cx} {ct : CT} {b : Base} {W : WX} {e o : Expr} {pos apos tpos : Pos} {es : List Expr}
end
def Cst (K : PySem.W.Frag) (ds : List D) (vs : List V) : Prop := ∀ w, RepL K w ds vs
structure Bnd (K : PySem.W.Frag) (fd : FuncData) (ps : List Str) (n : Nat) (ks : List Str) (π : List Nat) (cs : List D) : Prop where
  ex : ∃ (cv : List V) (g : List Value → List Value → List Value), Cst K cs cv ∧ KBn K fd ps n ks g (fun vs zs => pick π (vs ++ zs ++ cv))
theorem Bnd.of {K : PySem.W.Frag} {x qual : Str} {st : Stmt} {f : Addr} {fd : FuncData} (F : Fun K x qual st f fd) {ps : List Str} {n : Nat} {ks : List Str} {π : List Nat}
    (h : ∀ (kV doc pm : Value) (an : Option Addr) (cdv ct : Value) (us ws : List Value), us.length = n → ws.length = ks.length → bindArgs (PySem.W.fnOf x qual (defArgs st) (defBody st) (defScope st) .none kV doc pm an cdv ct) ⟨us, ks.zip ws⟩ = pure (ps.zip (pick π (us ++ ws ++ [])))) :
    Bnd K fd ps n ks π [] := by
  obtain ⟨oc, od, kV, doc, pm, an, cdv, ct, osl, rfl, lk, hcd⟩ := F.ex
  exact ⟨[], _, fun w => .nil, ⟨fun s us ws _ h1 h2 => .of_eq (h kV doc pm an cdv ct us ws h1 h2), fun r1 r2 => Vals.pick ((r1.append r2).append .nil) π⟩⟩
structure PCA (X : Cx) (es : List Expr) (kws : List Keyword) (ks : List Str) (t : L2.St → Hp → (List V → List V → Hp → Prop) → Prop) : Prop where
  run : ∀ (pos : Pos) (f : Value) (first : List Value) (pins : List (Addr × Obj)) (s : Shared) (σ : L2.St) (H : Hp) (Q : List V → List V → Hp → Prop) (R : Value → Shared → Prop), PySem.W.keepIn X.K f = true → Inv X pins σ H s → t σ H Q →
    (∀ us ws vs zs s2 H2, Inv X pins σ H2 s2 → Vals vs us → Vals zs ws → Q vs zs H2 → wpAny (model X.prog X.w) X.A (call f (first ++ us) (ks.zip ws)) R X.xe s2) →
    wpAny (model X.prog X.w) X.A (callWith pos f first (backTo pos (starEach es X.env)) (backToKw pos (keywordEach kws X.env))) R X.xe s
def eAA (args kargs : CA) : En → Store → Out (List D × List D) := fun en M => (args en M).bind fun ds M1 => (kargs en M1).bind fun zs M2 => .ok (ds, zs) M2
abbrev CAA := En → Store → Out (List D × List D)
section
variable (X : Cx) (ct : CT) (b : Base) (W : WX)
def TAA (f : CAA) : L2.St → Hp → (List V → List V → Hp → Prop) → Prop := fun σ H Q => ∃ w en M, Sl X.K ct b w en σ H ∧ Rl X.K ct w M H ∧ Post (f en M)
  (fun p M' => ∀ w' vs zs H', Step w H w' H' → Rl X.K ct w' M' H' → RepL X.K w' p.1 vs → RepL X.K w' p.2 zs → Q vs zs H')
  (fun c fs M' => ∀ w' cls dx H', Step w H w' H' → Sl X.K ct b w' en σ H' → Rl X.K ct w' M' H' → ExV X.K ct w' c fs cls dx H' → W cls dx σ H')
abbrev PCAD (ks : List Str) (f : CAA) (es : List Expr) (kws : List Keyword) : Prop := PCA X es kws ks (TAA X ct b W f)
end
section
variable {X : Cx} {ct : CT} {b : Base} {W : WX} {e o : Expr} {es : List Expr} {kws : List Keyword} {ks : List Str} {args kargs : CA}
theorem pca_0k (hkw : PKD X ct b W kargs kws) (hall : ∀ pos, (backToKw pos (keywordEach kws X.env)).all (·.1.isSome) = true := by intro _; rfl) (hks : ∀ pos, (backToKw pos (keywordEach kws X.env)).filterMap (·.1) = ks := by intro _; rfl)
    (hpl : ∀ pos, ((backTo pos (starEach [] X.env)).any (·.1) || (backToKw pos (keywordEach kws X.env)).any (·.1.isNone)) = false := by intro _; rfl) : PCAD X ct b W ks (eAA aNil kargs) [] kws := ⟨fun pos f first pins s σ H Q R kp I h k => by
  obtain ⟨w, en, M, S, rl, p⟩ := h
  refine PySem.W.callWith_KW0 (h₀ := X.base) I.ok.mod.kin kp (hall pos) ?_ (hpl pos)
  refine thn (hkw.run pos pins s σ H (fun zs H1 => Q [] zs H1) I ?_) fun ws s2 ⟨zs, H2, I2, rz, q2⟩ => ⟨I2.kIn, ?_⟩
  · refine ⟨w, en, M, S, rl, (Post.bind (x := kargs en M) (f := fun zs M2 => .ok ([], zs) M2) p).imp (fun zs M1 q w1 zv H1 s1 r1 x1 => ?_) fun _ _ _ q => q⟩
    exact q w1 [] zv H1 s1 r1 .nil x1
  · rw [hks pos]
    exact k [] ws [] zs s2 H2 I2 .nil rz q2⟩
theorem run_gNS {k n : Nat} {f : Addr} {fd : FuncData} {ps : List Str} {sp : Sp} {E : XK} {g : List Value → List Value → List Value} {gV : List V → List V → List V} {pins : List (Addr × Obj)} {σ : L2.St} {H : Hp} {s : Shared} {Q : VK} {us ws : List Value} {vs zs : List V}
    (F : FnG X.prog X.w X.K X.mg X.base (L2.CX X.prog X.w) k f fd ps sp) (hgd : X.A.guards = some []) (hr : Room k X.A) (hb : KBn X.K fd ps n ks g gV) (hx : PassesAt (L2.CX X.prog X.w) X σ E)
    (I : Inv X pins σ H s) (r : Vals vs us) (rz : Vals zs ws) (l1 : vs.length = n) (l2 : zs.length = ks.length) (h : sp (gV vs zs) H Q E) : wpAny (model X.prog X.w) X.A (call (.ref f) us (ks.zip ws)) (EP X pins σ Q) X.xe s := by
  have r2 := hb.rel r rz
  refine wpAny_call (codeAny_mono (F.run X.A X.stack s H ⟨us, ks.zip ws⟩ (g us ws) (gV vs zs) Q E hr hgd I.env0 (hb.to s us ws I.kIn (r.length.symm.trans l1) (rz.length.symm.trans l2)) r2 h) fun r s' hq => ?_)
  cases r with
  | error e => exact hx pins H s e s' I hq
  | ok fl =>
    cases fl with
    | ret u => exact I.after hq
    | next => exact False.elim hq
    | brk => exact False.elim hq
    | cont => exact False.elim hq
end
structure CalC (P : Program) (w : World) (K : PySem.W.Frag) (mg : Str → Option Value) (base : Heap) (ct : CT) (x : Str) (k n : Nat) (ks : List Str) (π : List Nat) (cs : List D) (cf : CF) : Prop where
  ex : ∃ (f : Addr) (fd : FuncData) (ps : List Str), FnG P w K mg base (L2.CX P w) k f fd ps (SpD K ct cf) ∧ mg x = some (.ref f) ∧ PySem.W.keepIn K (.ref f) = true ∧ Bnd K fd ps n ks π cs
def eCalD (n m : Nat) (π : List Nat) (cs : List D) (cf : CF) (fa : CAA) : CE := fun en M => (fa en M).bind fun p M1 => if p.1.length = n ∧ p.2.length = m then cf (pick π (p.1 ++ p.2 ++ cs)) M1 else .err
section
variable {X : Cx} {ct : CT} {b : Base} {W : WX} {e o : Expr} {es : List Expr} {kws : List Keyword} {ks : List Str} {fa : CAA} {fo : CE} {p pos apos : Pos} {k n : Nat} {π : List Nat} {cs : List D} {cf : CF} {x c m : Str}
theorem go_call {ds : List D} {vs : List V} {cf : CF} {π : List Nat} {w w1 : Wd} {en : En} {σ : L2.St} {H H1 : Hp} {M1 : Store} {Q : VK} (S : Sl X.K ct b w en σ H) (s1 : Step w H w1 H1) (r1 : Rl X.K ct w1 M1 H1) (hx : RepL X.K w1 ds vs)
    (p : Post (cf (pick π ds) M1) (fun d M' => ∀ w' v H', Step w H w' H' → Rl X.K ct w' M' H' → Rep X.K w' d v → Q v H')
      (fun c fs M' => ∀ w' cls dx H', Step w H w' H' → Sl X.K ct b w' en σ H' → Rl X.K ct w' M' H' → ExV X.K ct w' c fs cls dx H' → W cls dx σ H')) : SpD X.K ct cf (pick π vs) H1 Q (WE W σ) :=
  ⟨w1, M1, _, hx.pick π, r1, p.imp (fun d M2 q w2' v H2' s2' r2' x2' => q w2' v H2' (s1.trans s2') r2' x2') fun c fs M2 q w2' cls dx H2' s2' r2' x2' => q w2' cls dx H2' (s1.trans s2') (S.step (s1.trans s2')) r2' x2'⟩
theorem pd_calD (F : CalC X.prog X.w X.K X.mg X.base ct x k n ks π cs cf) (hgd : X.A.guards = some []) (hr : Room k X.A) (tk : Takes X W) (ha : PCAD X ct b W ks fa es kws) (hg : Gl X x := by rfl) (hdb : (x == ("__debug__" : Str)) = false := by decide) :
    PD X ct b W (eCalD n ks.length π cs cf fa) (.Call (.Name x p) es kws pos) := by
  obtain ⟨f, fd, ps, F, hm, hk, cv, g, hc, hb⟩ := F.ex
  refine ⟨fun pins s σ H Q I h => ?_⟩
  obtain ⟨w, en, M, S, rl, pp⟩ := h
  refine wpAny_Call_Name_kw (ld_glob I hg hm ?_ hdb)
  refine ha.run pos _ [] pins s σ H (fun vs zs H1 => (vs.length = n ∧ zs.length = ks.length) ∧ SpD X.K ct cf (pick π (vs ++ zs ++ cv)) H1 Q (WE W σ)) _ hk I ?_ fun us ws vs zs s2 H2 I2 r1 r2 q => ?_
  · refine ⟨w, en, M, S, rl, (Post.bind pp).imp (fun p M1 q w1 vs zs H1 s1 r1 x1 x2 => ?_) fun _ _ _ q => q⟩
    split at q
    · rename_i hl
      exact ⟨⟨by rw [← x1.length]; exact hl.1, by rw [← x2.length]; exact hl.2⟩, go_call S s1 r1 ((x1.append x2).append (hc _)) q⟩
    · exact q.elim
  · exact run_gNS F hgd hr hb (passAt tk σ) I2 r1 r2 q.1.1 q.1.2 q.2
end
end DL
namespace DL
open PySem PySem.Spec PyProof.Rows L2
def iSeqK (f : CE) : CI := fun en M => (f en M).bind fun d M1 => match d with
  | .dic ks _ => .ok (ks.map dK, []) M1
  | d => ofO ((vwD M1 d).bind fun v => (itemsD v).map fun xs => (xs, gdD d v)) M1
section
variable {X : Cx} {ct : CT} {b : Base} {W : WX} {e e1 e2 tg : Expr} {apos cpos pos : Pos} {es : List Expr}
theorem dic_F {w : Wd} {ks : List Key} {xs : List D} {v : V} (h : Rep X.K w (.dic ks xs) v) : ∃ a o vs, v = .ref a ∧ w.F a = some (.frz o (.dK (ks.zip vs))) ∧ ks.length = xs.length ∧ RepL X.K w xs vs := by
  simp only [Rep] at h
  obtain ⟨a, vs, rfl, ⟨o, h1⟩, h2, h3⟩ := h
  exact ⟨a, o, vs, rfl, h1, h2, h3⟩
theorem zip_get1 {ks : List Key} {vs : List V} (hl : ks.length = vs.length) {i : Nat} {k : Key} {v : V} (h : (ks.zip vs)[i]? = some (k, v)) : ks[i]? = some k ∧ vs[i]? = some v := by
  rw [List.getElem?_zip_eq_some] at h
  exact h
theorem wkd_keys {w : Wd} {ks : List Key} {vs : List V} {a : Addr} {o : Obj} (h : w.F a = some (.frz o (.dK (ks.zip vs)))) (hl : ks.length = vs.length) : WkD RS X.K ct (Itk a o (ks.zip vs)) w (ks.map dK) [] := by
  refine ⟨fun H => H a = some (.frz o (.dK (ks.zip vs))), fun i H x H' => H' = H ∧ ∃ k v, (ks.zip vs)[i]? = some (k, v) ∧ x = kV k, ?_, fun w' M' H' l rl _ => rl.sub.frz (l.F _ _ h), fun i w' M' H' x H2 hi l rl _ y => ?_⟩
  · have : (ks.map dK).length = (ks.zip vs).length := by simp [hl]
    rw [this]
    exact walk_keys
  · obtain ⟨rfl, k, v, y1, rfl⟩ := y
    obtain ⟨k1, _⟩ := zip_get1 hl y1
    refine ⟨w', dK k, by simp [k1], Step.refl _ _, rl, ?_⟩
    obtain ⟨d, q1, q2⟩ := (keys_rep (K := X.K) (w := w') ks).get' (i := i) (v := kV k) (by simp [k1])
    rw [List.getElem?_map, k1] at q1
    cases q1
    exact q2
theorem pid_seqK {f : CE} {tg : Expr} (h : PD X ct b W f e) : PID X ct b W (iSeqK f) tg e := by
  refine ⟨fun pins s σ H R I hw => ?_⟩
  obtain ⟨w, en, M, S, rl, p⟩ := hw
  cases q : f en M with
  | err =>
    unfold iSeqK at p
    rw [q] at p
    exact p.elim
  | exc c fs M1 =>
    refine (pid_seq (tg := tg) h).run pins s σ H R I ⟨w, en, M, S, rl, ?_⟩
    unfold iSeqK at p
    unfold iSeq
    rw [q] at p ⊢
    exact p
  | ok d M1 =>
    by_cases hd : ∃ ks xs, d = .dic ks xs
    · obtain ⟨ks, xs, rfl⟩ := hd
      refine (pi_keys (tg := tg) h).run pins s σ H R I ⟨w, en, M, S, rl, ?_⟩
      unfold iSeqK at p
      rw [q] at p ⊢
      intro w1 v1 H1 s1 r1 x1
      obtain ⟨a, o, vs, rfl, h1, h2, h3⟩ := dic_F x1
      exact ⟨a, o, rfl, .inl ⟨_, r1.sub.frz h1, p w1 _ H1 s1 r1 (wkd_keys h1 (h2.trans h3.length))⟩⟩
    · refine (pid_seq (tg := tg) h).run pins s σ H R I ⟨w, en, M, S, rl, ?_⟩
      unfold iSeqK at p
      unfold iSeq
      rw [q] at p ⊢
      cases d <;> first | exact p | exact absurd ⟨_, _, rfl⟩ hd
end
end DL
namespace DL
open PySem PySem.Spec PyProof.Rows L2
section
variable (X : Cx) (ct : CT) (b : Base)
end
section
variable {X : Cx} {ct : CT} {b : Base} {W : WX} {e e1 e2 e3 o : Expr} {pos tpos : Pos} {es : List Expr}
end
end DL
namespace DL
open PySem PySem.Spec PyProof.Rows L2
section
variable {en : En} {M : Store} {E : EX}
abbrev QA := List D × List D → Store → Prop
def kAA2 (ds : List D) (Q : QA) (zs : List D) (M : Store) : Prop := Q (ds, zs) M
@[simp] theorem kAA2_app {ds zs : List D} {Q : QA} : kAA2 ds Q zs M = Q (ds, zs) M := rfl
def kAA1 (k : CA) (en : En) (Q : QA) (E : EX) (ds : List D) (M : Store) : Prop := Post (k en M) (kAA2 ds Q) E
@[simp] theorem kAA1_app {k : CA} {Q : QA} {ds : List D} : kAA1 k en Q E ds M = Post (k en M) (kAA2 ds Q) E := rfl
@[simp] theorem m_eAA {a k : CA} {Q : QA} : Post (eAA a k en M) Q E = Post (a en M) (kAA1 k en Q E) E := by
  simp only [eAA, Post_bind_eq]
  rfl
def kCal (n m : Nat) (π : List Nat) (cs : List D) (cf : CF) (Q : D → Store → Prop) (E : EX) (p : List D × List D) (M : Store) : Prop := (p.1.length = n ∧ p.2.length = m) ∧ Post (cf (pick π (p.1 ++ p.2 ++ cs)) M) Q E
@[simp] theorem kCal_app {n m : Nat} {π : List Nat} {cs : List D} {cf : CF} {Q : D → Store → Prop} {ds zs : List D} : kCal n m π cs cf Q E (ds, zs) M = ((ds.length = n ∧ zs.length = m) ∧ Post (cf (pick π (ds ++ zs ++ cs)) M) Q E) := rfl
@[simp] theorem m_eCalD {n m : Nat} {π : List Nat} {cs : List D} {cf : CF} {fa : CAA} {Q : D → Store → Prop} : Post (eCalD n m π cs cf fa en M) Q E = Post (fa en M) (kCal n m π cs cf Q E) E := by
  simp only [eCalD, Post_bind_eq]
  congr 1
  funext p M1
  exact Post_ite
def kSeqK (Q : IT → Store → Prop) (d : D) (M : Store) : Prop := match d with | .dic ks _ => Q (ks.map dK, []) M | d => PV (vwD M d) M (kSeqI Q d)
@[simp] theorem kSeqK_dic {Q : IT → Store → Prop} {ks : List Key} {xs : List D} : kSeqK Q (.dic ks xs) M = Q (ks.map dK, []) M := rfl
@[simp] theorem kSeqK_lst {Q : IT → Store → Prop} {xs : List D} : kSeqK Q (.lst xs) M = Q (xs, []) M := rfl
@[simp] theorem kSeqK_tup {Q : IT → Store → Prop} {xs : List D} : kSeqK Q (.tup xs) M = Q (xs, []) M := rfl
@[simp] theorem kSeqK_scr {Q : IT → Store → Prop} {xs : List Int} : kSeqK Q (.scr xs) M = Q (xs.map D.int, []) M := rfl
@[simp] theorem kSeqK_str {Q : IT → Store → Prop} {z : Str} : kSeqK Q (.str z) M = Q (signsD z, []) M := rfl
@[simp] theorem kSeqK_ref {Q : IT → Store → Prop} {n : Nat} : kSeqK Q (.ref n) M = PV (vwD M (.ref n)) M (kSeqI Q (.ref n)) := rfl
@[simp] theorem m_iSeqK {f : CE} {Q : IT → Store → Prop} : Post (iSeqK f en M) Q E = Post (f en M) (kSeqK Q) E := by
  simp only [iSeqK, Post_bind_eq]
  congr 1
  funext d M1
  have key : ∀ d : D, Post (ofO ((vwD M1 d).bind fun v => (itemsD v).map fun xs => (xs, gdD d v)) M1) Q E = PV (vwD M1 d) M1 (kSeqI Q d) := fun d => by
    rw [Post_ofO]
    cases vwD M1 d with
    | none => rfl
    | some v =>
      show PV ((itemsD v).map _) _ _ = PV (itemsD v) _ _
      cases itemsD v <;> rfl
  cases d <;> first | rfl | exact key _
variable {QE : En → Store → Prop}
end
end DL
namespace DL
open PySem PySem.Spec PyProof.Rows L2
section
variable {P : Program} {w : World} {K : PySem.W.Frag} {mg : Str → Option Value} {base : Heap} {ct : CT}
theorem fnG_err {k : Nat} {f : Addr} {fd : FuncData} {ps : List Str} : FnG P w K mg base (L2.CX P w) k f fd ps (SpD K ct fErr) := FnG.of fnOk_err
theorem calC_mk {x qual y : Str} {st : Stmt} {f : Addr} {fd : FuncData} {ps : List Str} {k n : Nat} {ks : List Str} {π : List Nat} {cs : List D} {cf : CF} (F : Fun K x qual st f fd) (ok : FnG P w K mg base (L2.CX P w) k f fd ps (SpD K ct cf)) (hm : mg y = some (.ref f)) (B : Bnd K fd ps n ks π cs) : CalC P w K mg base ct y k n ks π cs cf :=
  ⟨f, fd, ps, ok, hm, F.kp, B⟩
inductive KD (K : PySem.W.Frag) : D → V → Prop
  | non : KD K .non .non
  | bl (b : Bool) : KD K (.bl b) (.bl b)
  | int (i : Int) : KD K (.int i) (.int i)
  | str (x : Str) : KD K (.str x) (.str x)
  | tup {xs : List D} {vs : List V} {a : Addr} {o : Obj} {its : Array Value} {n : Nat} (h : K.lookup a = some o) (hc : o.cls = .type "tuple") (hd : o.data = .seq its n) (hz : its.size ≤ sizeLine) (hv : Vals vs its.toList) (hl : xs.length = vs.length) (hx : ∀ (i : Nat) x v, xs[i]? = some x → vs[i]? = some v → KD K x v) : KD K (.tup xs) (.ref a)
theorem repL_of {K : PySem.W.Frag} {w : Wd} : ∀ {xs : List D} {vs : List V}, xs.length = vs.length → (∀ (i : Nat) x v, xs[i]? = some x → vs[i]? = some v → Rep K w x v) → RepL K w xs vs
  | [], [], _, _ => .nil
  | [], _ :: _, h, _ => by cases h
  | _ :: _, [], h, _ => by cases h
  | x :: xs, v :: vs, h, k => .cons (k 0 x v rfl rfl) (repL_of (by simpa using h) fun i x v a b => k (i + 1) x v (by simpa using a) (by simpa using b))
theorem KD.rep {d : D} {v : V} (h : KD K d v) (w : Wd) : Rep K w d v := by
  induction h with
  | non => simp only [Rep]
  | bl b => simp only [Rep]
  | int i => simp only [Rep]
  | str x => simp only [Rep]
  | tup h hc hd hz hv hl hx ih =>
    simp only [Rep]
    exact ⟨_, _, rfl, .inr ⟨_, _, _, h, hc, hd, hz, hv⟩, repL_of hl ih⟩
inductive Flt1 : D → Value → Prop
  | int (i : Int) (t : Tok) : Flt1 (.int i) (.int i t)
  | str (x : Str) (t : Tok) : Flt1 (.str x) (.str x t)
  | bl (b : Bool) : Flt1 (.bl b) (.bool b)
  | non : Flt1 .non .none
inductive Flts : List D → List Value → Prop
  | nil : Flts [] []
  | cons {d : D} {ds : List D} {u : Value} {us : List Value} : Flt1 d u → Flts ds us → Flts (d :: ds) (u :: us)
theorem Flts.vals : ∀ {ds : List D} {us : List Value}, Flts ds us → ∃ vs, Vals vs us ∧ ds.length = vs.length ∧ ∀ (i : Nat) x v, ds[i]? = some x → vs[i]? = some v → KD K x v
  | [], [], .nil => ⟨[], .nil, rfl, fun i x v h => by simp at h⟩
  | d :: ds, u :: us, .cons h t => by
    obtain ⟨vs, a, b, c⟩ := Flts.vals t
    have one : ∃ v, RelV v u ∧ KD K d v := by
      cases h with
      | int i t => exact ⟨.int i, ⟨t, rfl⟩, .int i⟩
      | str x t => exact ⟨.str x, ⟨t, rfl⟩, .str x⟩
      | bl b => exact ⟨.bl b, rfl, .bl b⟩
      | non => exact ⟨.non, rfl, .non⟩
    obtain ⟨v, r, k⟩ := one
    refine ⟨v :: vs, .cons r a, by simp [b], fun i x y e1 e2 => ?_⟩
    cases i with
    | zero =>
      simp at e1 e2
      subst e1 e2
      exact k
    | succ i => exact c i x y (by simpa using e1) (by simpa using e2)
end
end DL
namespace DL
open PySem PySem.Spec PyProof.Rows L2
section
variable {prog : Program} {w : World} {A : Around} {E : Value → Shared → Prop} {s : Shared}
end
section
variable {X : Cx} {ct : CT} {b : Base} {W : WX} {es : List Expr} {pos : Pos}
end
section
variable {en : En} {M : Store} {QE : En → Store → Prop} {E : Str → List (Str × D) → Store → Prop}
end
end DL
namespace DL
open PySem PySem.Spec PyProof.Rows L2
@[simp] theorem gIn_dic_str {ks : List Key} {xs : List D} {x : Str} : gIn (.str x) (.dic ks xs) = some (.bl (dget ks xs (.inr x)).isSome) := rfl
@[simp] theorem gNotIn_dic_str {ks : List Key} {xs : List D} {x : Str} : gNotIn (.str x) (.dic ks xs) = some (.bl (!(dget ks xs (.inr x)).isSome)) := rfl
theorem gIn_sg {z : Str} {c : Nat} : gIn (.str (sg c)) (.str z) = some (.bl (decide (c ∈ z.cps.toList))) := rfl
section
variable {en : En} {M : Store} {E : Str → List (Str × D) → Store → Prop}
abbrev QDc := List Key × List D → Store → Prop
section
variable (t : Tg) (tt : CB) (tk tv : CE) (en en1 : En) (xs : List D) (ks : List Key) (vs : List D) (Q : QDc) (E : Str → List (Str × D) → Store → Prop)
end
end
section
variable {i : Int} {x : Str} {b : Bool} {xs : List D} {ks : List Key}
@[simp] theorem isi_int_non : isi1 .int .non = some (.bl false) := rfl
@[simp] theorem isi_int_bl : isi1 .int (.bl b) = some (.bl true) := rfl
@[simp] theorem isi_int_int : isi1 .int (.int i) = some (.bl true) := rfl
@[simp] theorem isi_int_str : isi1 .int (.str x) = some (.bl false) := rfl
@[simp] theorem isi_int_tup : isi1 .int (.tup xs) = some (.bl false) := rfl
@[simp] theorem isi_int_lst : isi1 .int (.lst xs) = some (.bl false) := rfl
@[simp] theorem isi_int_dic : isi1 .int (.dic ks xs) = some (.bl false) := rfl
@[simp] theorem isi_bool_non : isi1 .bool .non = some (.bl false) := rfl
@[simp] theorem isi_bool_bl : isi1 .bool (.bl b) = some (.bl true) := rfl
@[simp] theorem isi_bool_int : isi1 .bool (.int i) = some (.bl false) := rfl
@[simp] theorem isi_bool_str : isi1 .bool (.str x) = some (.bl false) := rfl
@[simp] theorem isi_bool_tup : isi1 .bool (.tup xs) = some (.bl false) := rfl
@[simp] theorem isi_bool_lst : isi1 .bool (.lst xs) = some (.bl false) := rfl
@[simp] theorem isi_bool_dic : isi1 .bool (.dic ks xs) = some (.bl false) := rfl
@[simp] theorem isi_str_non : isi1 .str .non = some (.bl false) := rfl
@[simp] theorem isi_str_bl : isi1 .str (.bl b) = some (.bl false) := rfl
@[simp] theorem isi_str_int : isi1 .str (.int i) = some (.bl false) := rfl
@[simp] theorem isi_str_str : isi1 .str (.str x) = some (.bl true) := rfl
@[simp] theorem isi_str_tup : isi1 .str (.tup xs) = some (.bl false) := rfl
@[simp] theorem isi_str_lst : isi1 .str (.lst xs) = some (.bl false) := rfl
@[simp] theorem isi_str_dic : isi1 .str (.dic ks xs) = some (.bl false) := rfl
@[simp] theorem isi_tuple_non : isi1 .tuple .non = some (.bl false) := rfl
@[simp] theorem isi_tuple_bl : isi1 .tuple (.bl b) = some (.bl false) := rfl
@[simp] theorem isi_tuple_int : isi1 .tuple (.int i) = some (.bl false) := rfl
@[simp] theorem isi_tuple_str : isi1 .tuple (.str x) = some (.bl false) := rfl
@[simp] theorem isi_tuple_tup : isi1 .tuple (.tup xs) = some (.bl true) := rfl
@[simp] theorem isi_tuple_lst : isi1 .tuple (.lst xs) = some (.bl false) := rfl
@[simp] theorem isi_tuple_dic : isi1 .tuple (.dic ks xs) = some (.bl false) := rfl
@[simp] theorem isi_list_non : isi1 .list .non = some (.bl false) := rfl
@[simp] theorem isi_list_bl : isi1 .list (.bl b) = some (.bl false) := rfl
@[simp] theorem isi_list_int : isi1 .list (.int i) = some (.bl false) := rfl
@[simp] theorem isi_list_str : isi1 .list (.str x) = some (.bl false) := rfl
@[simp] theorem isi_list_tup : isi1 .list (.tup xs) = some (.bl false) := rfl
@[simp] theorem isi_list_lst : isi1 .list (.lst xs) = some (.bl true) := rfl
@[simp] theorem isi_list_dic : isi1 .list (.dic ks xs) = some (.bl false) := rfl
@[simp] theorem isi_dict_non : isi1 .dict .non = some (.bl false) := rfl
@[simp] theorem isi_dict_bl : isi1 .dict (.bl b) = some (.bl false) := rfl
@[simp] theorem isi_dict_int : isi1 .dict (.int i) = some (.bl false) := rfl
@[simp] theorem isi_dict_str : isi1 .dict (.str x) = some (.bl false) := rfl
@[simp] theorem isi_dict_tup : isi1 .dict (.tup xs) = some (.bl false) := rfl
@[simp] theorem isi_dict_lst : isi1 .dict (.lst xs) = some (.bl false) := rfl
@[simp] theorem isi_dict_dic : isi1 .dict (.dic ks xs) = some (.bl true) := rfl
@[simp] theorem isi2_lt_non : isi2 .list .tuple .non = some (.bl false) := rfl
@[simp] theorem isi2_lt_bl : isi2 .list .tuple (.bl b) = some (.bl false) := rfl
@[simp] theorem isi2_lt_int : isi2 .list .tuple (.int i) = some (.bl false) := rfl
@[simp] theorem isi2_lt_str : isi2 .list .tuple (.str x) = some (.bl false) := rfl
@[simp] theorem isi2_lt_tup : isi2 .list .tuple (.tup xs) = some (.bl true) := rfl
@[simp] theorem isi2_lt_lst : isi2 .list .tuple (.lst xs) = some (.bl true) := rfl
@[simp] theorem isi2_lt_dic : isi2 .list .tuple (.dic ks xs) = some (.bl false) := rfl
end
end DL
namespace DL
open PySem PySem.Spec PyProof.Rows L2
section
variable {P : Program} {w : World} {A : Around} {E : Value → Shared → Prop} {s : Shared} {a : Addr}
open AutoSeq1 (wpAny_loadPart')
set_option maxRecDepth 100000 in
set_option maxHeartbeats 3200000 in
end
end DL
namespace DL
open PySem PySem.Spec PyProof.Rows L2
section
variable {P : Program} {w : World} {A : Around} {E : Value → Shared → Prop} {s : Shared} {p q : Addr} {S T : Str → Bool} {n m : Nat}
theorem SetX.typeIs (R : SetX P w s.heap p S n) : s.TypeIs (.ref p) "set" := by
  obtain ⟨o, es, ep, t, ho, hx, _⟩ := R
  exact ⟨o, ho, hx.1⟩
end
end DL
namespace DL
open PySem PySem.Spec PyProof.Rows L2
section
variable {X : Cx} {ct : CT} {b : Base} {W : WX} {e1 e2 : Expr} {pos : Pos}
end
section
variable {en : En} {M : Store} {E : Str → List (Str × D) → Store → Prop}
end
end DL
namespace DL
open PySem PySem.Spec PyProof.Rows L2 LiI
def d0 : Obj := { cls := .type "tuple", data := .seq #[] }
section
variable {X : Cx} {e : Expr} {te : TE} {p apos cpos pos : Pos}
end
section
variable {K : PySem.W.Frag} {ct : CT} {w : Wd} {M : Store} {H H' : Hp}
end
section
variable {X : Cx} {ct : CT} {b : Base} {W : WX} {e : Expr} {p apos cpos pos : Pos}
end
section
variable {en : En} {M : Store} {E : Str → List (Str × D) → Store → Prop}
end
end DL
namespace DL
open PySem PySem.Spec PyProof.Rows L2 LiI
section
variable {X : Cx} {e : Expr} {te : TE} {p apos cpos pos : Pos}
end
section
variable {X : Cx} {ct : CT} {b : Base} {W : WX} {e : Expr} {p apos cpos pos : Pos}
end
section
variable {en : En} {M : Store} {E : Str → List (Str × D) → Store → Prop}
end
end DL
namespace DL
open PySem PySem.Spec PyProof.Rows L2
def flat : D → Bool
  | .non => true
  | .bl _ => true
  | .int _ => true
  | .str _ => true
  | _ => false
section
variable {K : PySem.W.Frag} {w w' : Wd}
end
section
variable {X : Cx} {ct : CT} {b : Base} {W : WX} {e : Expr} {i : Nat} {f : CN}
end
section
variable {i : Nat} {f : CN} {en : En} {M : Store}
end
def parO (i j : Nat) (f g : CN) : CS := fun en M => thenN (f en M) en fun o1 M1 => thenN (g en M1) en fun o2 M2 => .ok (.next ((en.set i (some (.own o1))).set j (some (.own o2)))) M2
section
variable {X : Cx} {ct : CT} {b : Base} {W : WX} {e1 e2 : Expr} {pos : Pos}
theorem ThenN.go2 {te : CN} {k : MO → Store → Out Fl} {D : Ends} {σ : L2.St} {H : Hp} {w : Wd} {en : En} {M : Store} {Q : VK} (s : Step b.w b.H w H) (S : Sl X.K ct b w en σ H) (r : Rl X.K ct w M H) (p : PostS X ct b W w (thenN (te en M) en k) D)
    (hk : ∀ o M' w' p ho H', PostS X ct b W w' (k o M') D → Step w H w' H' → Rl X.K ct w' M' H' → H' p = none → RepO X.K ct w' o ho → Q (.ref p) (upd H' p ho)) : TND X ct b W te σ H Q := by
  refine ⟨w, en, M, S, r, ?_⟩
  cases q : te en M with
  | ok d M' =>
    rw [q] at p
    exact fun w' p' ho H' s' r' hp x => hk d M' w' p' ho H' (PostS.wle p s'.le) s' r' hp x
  | exc c fs M' =>
    rw [q] at p
    exact fun w' cls dx H' s' S' r' x => p w' cls dx σ H' (s.trans s') s'.le S' r' x
  | err =>
    rw [q] at p
    exact p.elim
theorem psd_parO {i j : Nat} {x y : Str} {px py pt : Pos} {kt k2 pt2} {f g : CN} (hb : b.Ok X.K) (hc : X.calm = true) (hN : X.N.Nodup) (h1 : PND X ct b W f e1) (h2 : PND X ct b W g e2) (hij : i ≠ j) (hi : X.N[i]? = some x := by rfl) (hj : X.N[j]? = some y := by rfl)
    (hx : X.env.scope.names.lookup x = some .local := by rfl) (hy : X.env.scope.names.lookup y = some .local := by rfl)
    (hs1 : starEach [e1, e2] X.env = (false, eval e1 X.env) :: starEach [e2] X.env := by rfl) (hs2 : starEach [e2] X.env = (false, eval e2 X.env) :: starEach [] X.env := by rfl)
    (hw : swappedStores [.Tuple [.Name x px, .Name y py] kt pt] (.Tuple [e1, e2] k2 pt2) X.env = pure (some [x, y]) := by rfl)
    (hs : swapsWithSole [.Tuple [.Name x px, .Name y py] kt pt] (.Tuple [e1, e2] k2 pt2) pos.line X.env = pure false := by rfl) : PSD X ct b W (parO i j f g) (.Assign [.Tuple [.Name x px, .Name y py] kt pt] (.Tuple [e1, e2] k2 pt2) pos) :=
  PS.wk (ps_par (i := i) (j := j) hc hN hi hj hij hx hy (pa_cons h1 (pa_cons h2 pa_nil hs2) hs1) hw hs) fun D σ H h => by
    obtain ⟨w, en, M, s, S, r, p⟩ := h
    refine ThenN.go2 (te := f) (Q := fun v H1 => tCons (TND X ct b W g) tNil σ H1 fun vs H2 => ∃ v' w', v :: vs = [v', w'] ∧ D.nx ((σ.set i (some v')).set j (some w')) H2) s S r p fun o M' w' p1 ho H' q s' r' hp x => ?_
    obtain ⟨sA, rA⟩ := r'.aside (o := ho) hp
    have S1 := (S.step s').seto r' i hp ((s.trans s').fresh r' hp hb.sub hb.there) x
    refine ThenN.go2 (te := g) (Q := fun v H1 => ∃ v' w', .ref p1 :: [v] = [v', w'] ∧ D.nx ((σ.set i (some v')).set j (some w')) H1) ((s.trans s').trans sA) ((S.step s').step sA) rA q fun o2 M2 w2 p2 ho2 H2 q2 s2 r2 hp2 x2 => ?_
    have S2 := (S1.step s2).seto r2 j hp2 ((((s.trans s').trans sA).trans s2).fresh r2 hp2 hb.sub hb.there) x2
    obtain ⟨sB, rB⟩ := r2.aside (o := ho2) hp2
    exact ⟨.ref p1, .ref p2, rfl, q2 w2 _ _ ((((s.trans s').trans sA).trans s2).trans sB) (.refl _) S2 rB⟩
end
section
variable {en : En} {M : Store} {E : EX} {Q : QF}
def kParO1 (i j : Nat) (g : CN) (en : En) (Q : QF) (o1 : MO) (M : Store) : Prop := Post (g en M) (fun o2 M2 => Q (.next ((en.set i (some (.own o1))).set j (some (.own o2)))) M2) (kEx en Q)
@[simp] theorem kParO1_app {i j : Nat} {g : CN} {o1 : MO} : kParO1 i j g en Q o1 M = Post (g en M) (fun o2 M2 => Q (.next ((en.set i (some (.own o1))).set j (some (.own o2)))) M2) (kEx en Q) := rfl
@[simp] theorem m_parO {i j : Nat} {f g : CN} : Post (parO i j f g en M) Q E = Post (f en M) (kParO1 i j g en Q) (kEx en Q) := by
  simp only [parO, Post_thenN]
  rfl
end
end DL
namespace DL
open PySem PySem.Spec PyProof.Rows L2
section
variable {prog : Program} {w : World} {A : Around} {E : Value → Shared → Prop} {s : Shared}
theorem nextOf_key_item {it d : Addr} {i n ep : Nat} {od : Obj} {es : Array DictEntry} {en : DictEntry} {Q : Value → Shared → Prop} (hit : s.heap.IsKeyIter it d i n ep) (hod : s.heap.get? d = some od) (hdd : od.data = .dict es ep)
    (hsz : es.size = n) (hx : es[i]? = some en) (hQ : ∀ h', h'.IsKeyIter it d (i + 1) n ep → Heap.SameBut it s.heap h' → Q en.key { s with heap := h' }) : wpAny (model prog w) A (Builtin.SmallTypes.nextOf (.ref it)) Q E s := by
  obtain ⟨o, ho, hc, hd⟩ := id hit
  unfold Builtin.SmallTypes.nextOf
  refine wpAny_bind (wpAny_callSpecial?_slot (name := Str.ofString "__next__") hit.typeIs F.slot_dict_keyiterator_next
    (wpAny_call_entry F.slot_dict_keyiterator_next hit.typeIs F.entry_dict_keyiterator_next ?_ (F.args_dict_keyiterator_next_1 _)))
  refine wpAny_bind (wpAny_pure ?_)
  refine wpAny_bind ?_
  refine wpAny_bind ?_
  first | refine wpAny_bind (wpAny_typeNameOfWhole_keyiter hit.typeIs (wpAny_pure ?_)) | refine wpAny_bind (wpAny_typeNameOf_keyiter hit.typeIs (wpAny_pure ?_))
  refine wpAny_bind (wpAny_fieldsOf ho hd ?_)
  have hown : Builtin.Dict_items.ownsTuple "dict_keyiterator" = false := by decide
  simp only [hown, Bool.false_eq_true, if_false]
  show wpAny _ _ (if (Value.ref d == Value.none) = true then _ else _) _ _ s
  rw [if_neg (show ¬ ((Value.ref d == Value.none) = true) from Bool.false_ne_true)]
  refine wpAny_bind (wpAny_pure ?_)
  refine wpAny_bind (wpAny_dictEntries hod hdd ?_)
  rw [if_neg (by rw [hsz]; simp)]
  refine wpAny_bind (wpAny_pure ?_)
  refine wpAny_bind (wpAny_dictEpoch hod hdd ?_)
  rw [if_neg (by simp)]
  refine wpAny_pure ?_
  obtain ⟨hlt', hen⟩ := Array.getElem?_eq_some_iff.mp hx
  simp only [show ¬ ((i : Int) < 0) from by omega, if_false, Int.toNat_natCast, Array.getElem?_eq_getElem hlt']
  refine wpAny_bind ?_
  first | refine wpAny_bind (wpAny_typeNameOfWhole_keyiter hit.typeIs (wpAny_pure ?_)) | refine wpAny_bind (wpAny_typeNameOf_keyiter hit.typeIs (wpAny_pure ?_))
  refine wpAny_bind (wpAny_isOneOf_keyiter hit.typeIs ?_)
  show wpAny _ _ (setField (.ref it) 1 (rawInt ((i : Int) + 1)) >>= _) _ _ s
  refine wpAny_bind (wpAny_setField ho hd (by simp) ?_)
  have hit' : (s.heap.update it (Obj.mapFields (·.setIfInBounds 1 (rawInt ((i : Int) + 1))))).IsKeyIter it d (i + 1) n ep :=
    ⟨_, Heap.get?_update_self _ ho (Obj.isFreed_of_fields (Obj.data_mapFields hd _)), (Obj.cls_mapFields ..).trans hc, by rw [Obj.data_mapFields hd]; simp [rawInt]⟩
  refine wpAny_bind (wpAny_holding ?_)
  refine wpAny_bind (wpAny_isOneOf_keyiter (s := { s with heap := s.heap.update it (Obj.mapFields (·.setIfInBounds 1 (rawInt ((i : Int) + 1)))) }) hit'.typeIs ?_)
  show wpAny _ _ (pure es[i].key) _ _ _
  rw [hen]
  exact wpAny_pure (wpAny_pure ⟨_, rfl, wpAny_pure (hQ _ hit' (Heap.SameBut.update ..))⟩)
theorem nextOf_key_end {it d : Addr} {i n ep : Nat} {od : Obj} {es : Array DictEntry} {Q : Value → Shared → Prop} (hh : A.handled = none) (hit : s.heap.IsKeyIter it d i n ep) (hod : s.heap.get? d = some od) (hdd : od.data = .dict es ep)
    (hsz : es.size = n) (hge : n ≤ i) (hE : ∀ h' e, Heap.ExtBut it s.heap h' → (∃ o, h'.get? e = some o ∧ o.cls = .type "StopIteration") → E (.ref e) { s with heap := h' }) : wpAny (model prog w) A (Builtin.SmallTypes.nextOf (.ref it)) Q E s := by
  obtain ⟨o, ho, hc, hd⟩ := id hit
  unfold Builtin.SmallTypes.nextOf
  refine wpAny_bind (wpAny_callSpecial?_slot (name := Str.ofString "__next__") hit.typeIs F.slot_dict_keyiterator_next
    (wpAny_call_entry F.slot_dict_keyiterator_next hit.typeIs F.entry_dict_keyiterator_next ?_ (F.args_dict_keyiterator_next_1 _)))
  refine wpAny_bind (wpAny_pure ?_)
  refine wpAny_bind ?_
  refine wpAny_bind ?_
  first | refine wpAny_bind (wpAny_typeNameOfWhole_keyiter hit.typeIs (wpAny_pure ?_)) | refine wpAny_bind (wpAny_typeNameOf_keyiter hit.typeIs (wpAny_pure ?_))
  refine wpAny_bind (wpAny_fieldsOf ho hd ?_)
  have hown : Builtin.Dict_items.ownsTuple "dict_keyiterator" = false := by decide
  simp only [hown, Bool.false_eq_true, if_false]
  show wpAny _ _ (if (Value.ref d == Value.none) = true then _ else _) _ _ s
  rw [if_neg (show ¬ ((Value.ref d == Value.none) = true) from Bool.false_ne_true)]
  refine wpAny_bind (wpAny_pure ?_)
  refine wpAny_bind (wpAny_dictEntries hod hdd ?_)
  rw [if_neg (by rw [hsz]; simp)]
  refine wpAny_bind (wpAny_pure ?_)
  refine wpAny_bind (wpAny_dictEpoch hod hdd ?_)
  rw [if_neg (by simp)]
  refine wpAny_pure ?_
  have hge' : es.size ≤ i := by rw [hsz]; exact hge
  simp only [show ¬ ((i : Int) < 0) from by omega, if_false, Int.toNat_natCast, Array.getElem?_eq_none hge']
  refine wpAny_bind ?_
  first | refine wpAny_bind (wpAny_typeNameOfWhole_keyiter hit.typeIs (wpAny_pure ?_)) | refine wpAny_bind (wpAny_typeNameOf_keyiter hit.typeIs (wpAny_pure ?_))
  show wpAny _ _ (setField (.ref it) 0 .none >>= _) _ _ s
  refine wpAny_bind (wpAny_setField ho hd (by simp) ?_)
  show wpAny _ _ (newExc (.type "StopIteration") [] >>= _) _ _ _
  refine wpAny_bind ?_
  simp only [newExc, newTuple]
  refine wpAny_bind (wpAny_newObj_type ?_ (by size_fits))
  refine wpAny_bind (m := firstArgMember _ _) (wpAny_of_eq (a := Value.none) (by first | rfl | (simp only [firstArgMember]; rfl)) ?_)
  refine wpAny_newObj_type ?_ (by size_fits)
  simp only [raiseNew]
  refine wpAny_bind (wpAny_handled ?_)
  first | rw [show A.in1.handled = none from hh] | rw [hh]
  refine wpAny_bind (wpAny_pure (wpAny_throw ?_))
  exact hE _ _ (((Heap.SameBut.update ..).extBut.push _).push _) ⟨_, Heap.get?_push_size _ rfl, rfl⟩
theorem Draws.keys (hh : A.handled = none) (it d : Addr) (hne : d ≠ it) {od : Obj} {es : Array DictEntry} {ep : Nat} (hdd : od.data = .dict es ep) :
    Draws prog w A it [it, d] es.size (fun i v => ∃ en, es[i]? = some en ∧ v = en.key) (fun i h => h.IsKeyIter it d i es.size ep ∧ h.get? d = some od) where
  live := fun _ _ st => let ⟨o, ho, _⟩ := st.1; ⟨o, ho⟩
  frame := fun _ _ _ st hk => ⟨st.1.at fun o e => hk it (by simp) o e, hk d (by simp) _ st.2⟩
  item := fun i s Q E hi st hQ => by
    refine nextOf_key_item st.1 st.2 hdd rfl (Array.getElem?_eq_getElem hi) fun h' hit' hs' => ?_
    exact hQ _ h' s.toks ⟨_, Array.getElem?_eq_getElem hi, rfl⟩ ⟨hit', (hs'.2 d hne).trans st.2⟩ hs'
  done := fun s Q E st hE => nextOf_key_end hh st.1 st.2 hdd rfl (Nat.le_refl _) hE
end
section
variable {X : Cx} {ct : CT} {b : Base} {W : WX} {e : Expr} {pos : Pos}
end
end DL
namespace DL
open PySem PySem.Spec PyProof.Rows L2
section
variable {X : Cx} {ct : CT} {b : Base} {W : WX} {e1 e2 o e : Expr} {pos apos cpos : Pos}
end
section
variable {en : En} {M : Store} {E : Str → List (Str × D) → Store → Prop}
end
end DL
namespace DL
open PySem PySem.Spec PyProof.Rows L2
section
variable {X : Cx} {ct : CT} {b : Base} {W : WX} {e : Expr} {i : Nat} {f : CE}
end
section
variable {i : Nat} {f : CE} {en : En} {M : Store}
end
def gMaxL : List D → Option D
  | [.int i, .int j] => some (.int (if j > i then j else i))
  | [.lst xs] => (intsD xs).bind fun ns => ns.max?.map D.int
  | _ => none
theorem max_is {ns : List Int} {m k : Int} (h : ns.max? = some k) (h1 : m ∈ ns) (h2 : ∀ a, a ∈ ns → a ≤ m) : m = k := by
  have h3 := List.max?_eq_some_iff.mp h
  have h4 := h3.2 m h1
  have h5 := h2 k h3.1
  omega
theorem cv_maxL {X : Cx} {ct : CT} (hc : X.calm = true) : CallV X ct (.builtin "max") gMaxL := CallV.mk' fun pins s σ H vs us Q w M ds d I rx rl hx e k => by
  unfold gMaxL at e
  split at e
  · cases e
    obtain ⟨v, v', rfl, h, h'⟩ := hx.two
    cases h
    cases h'
    exact call_max2 hc pins s σ H _ us Q I rx ⟨_, _, rfl, k.now rl rfl⟩
  · obtain ⟨ns, e1, e2⟩ := Option.bind_eq_some_iff.mp e
    obtain ⟨m, e3, e4⟩ := Option.map_eq_some_iff.mp e2
    cases e4
    obtain ⟨v, rfl, h⟩ := hx.one
    obtain ⟨a, vs, rfl, h1, h2⟩ := h
    have := intsD_rep h2 e1
    subst this
    refine cr_max hc pins s σ H _ us Q I rx ⟨a, ns, rfl, SqL.of h1, List.length_pos_of_mem (List.max?_eq_some_iff.mp e3).1, fun m' g1 g2 => ?_⟩
    rw [max_is e3 g1 g2]
    exact k.now rl rfl
  · cases e
section
variable {en : En} {M : Store} {E : EX}
end
end DL
namespace DL
open PySem PySem.Spec PyProof.Rows L2
section
variable {X : Cx}
end
section
variable {X : Cx} {ct : CT} {b : Base} {W : WX}
end
section
variable {en : En} {M : Store} {E : EX} {Q : Bool → Store → Prop}
end
section
variable {X : Cx} {ct : CT} {b : Base} {W : WX} {i j : Nat} {f : CN}
end
section
variable {X : Cx} {ct : CT} {b : Base} {W : WX} {i j : Nat} {f : CN} {st : Stmt} {T : L2.TS}
end
section
variable {X : Cx} {ct : CT} {b : Base} {W : WX} {R : RR} {ci : CI} {t : Tg} {tt : CB} {tk tv : CE} {kx vx tg iter : Expr} {ifs : List Expr} {scope : Scope} {own : List (Str × Nat)} {i j : Nat} {y : Str} {py pos spos : Pos}
end
end DL
namespace DL
open PySem PySem.Spec PyProof.Rows L2
section
variable {prog : Program} {w : World} {A : Around} {E : Value → Shared → Prop} {s : Shared}
end
section
variable {X : Cx} {ct : CT} {b : Base} {W : WX} {e : Expr} {pos p1 p2 p3 : Pos} {k : Nat}
end
end DL
namespace DL
open PySem PySem.Spec PyProof.Rows L2
section
variable {X : Cx} {ct : CT} {b : Base} {W : WX}
theorem TND.alc {f : CN} {σ : L2.St} {H : Hp} {Q : VK} (h : TD X ct b W (alc f) σ H Q) : TND X ct b W f σ H Q := by
  obtain ⟨w, en, M, S, rl, p⟩ := h
  refine ⟨w, en, M, S, rl, (Post.bind p).imp (fun o M1 q w1 p1 ho H1 s1 r1 hp ro => ?_) fun _ _ _ q => q⟩
  obtain ⟨s2, r2⟩ := r1.alloc hp ro
  refine q _ _ _ (s1.trans s2) r2 ?_
  simp only [Rep]
  refine ⟨p1, rfl, ?_⟩
  show (w1.ρ ++ [p1])[M1.length]? = some p1
  rw [r1.len, List.getElem?_append_right (Nat.le_refl _)]
  simp
variable {R : RR} {ci : CI} {t : Tg} {tt : CB} {te : CE} {elt tg iter : Expr} {ifs : List Expr} {scope : Scope} {own : List (Str × Nat)} {i : Nat} {y : Str} {py pos spos : Pos}
end
end DL
namespace DL
open PySem PySem.Spec PyProof.Rows L2
section
variable {X : Cx} {ct : CT} {b : Base} {W : WX} {w : Wd} {M : Store} {pins : List (Addr × Obj)} {σ : L2.St} {H : Hp} {s : Shared} {pos : Pos}
end
section
variable {en : En} {M : Store} {E : EX}
end
end DL
namespace DL
open PySem PySem.Spec PyProof.Rows L2
section
variable {X : Cx} {pins : List (Addr × Obj)} {σ : L2.St} {H : Hp} {s : Shared}
end
section
variable {X : Cx} {x n y : Str} {c : Value} {i j : Nat} {body : List Stmt} {np py pn2 pa pos pos' : Pos} {tb : WX → L2.TS}
end
end DL
namespace DL
open PySem PySem.Spec PyProof.Rows L2
open LamX (CodeO Tabs ExtN TabB LamS lamEnv lamCx)
section
variable {X : Cx} {pins : List (Addr × Obj)} {σ : L2.St} {H : Hp} {s : Shared}
end
theorem Rl.ext {K : PySem.W.Frag} {ct : CT} {w : Wd} {M : Store} {H H1 : Hp} (r : Rl K ct w M H) (e : ExtN H H1) (t : Tabs ct.t H1) : Step w H w H1 ∧ Rl K ct w M H1 := by
  refine ⟨⟨List.prefix_refl _, Same.refl _, fun a o h ht h2 h3 => ⟨e a o h ht, h2, h3⟩⟩, fun b o q => ?_, r.len, r.nd, fun n o q => ?_, r.nice, t⟩
  · rcases r.sub b o q with z | ⟨z1, ob, z2⟩
    · exact .inl (e _ _ z (r.nice _ _ q).ntbl)
    · exact .inr ⟨z1, ob, e _ _ z2 fun ps z => nomatch z⟩
  · obtain ⟨a, ho, h1, h2, h3, h4⟩ := r.mo n o q
    exact ⟨a, ho, h1, h2, e _ _ h3 h4.niceH.ntbl, h4⟩
section
variable {X : Cx} {ct : CT} {b : Base} {W : WX}
end
end DL
namespace DL
open PySem PySem.Spec PyProof.Rows L2
open LamX (TabB)
structure Start (K : PySem.W.Frag) (cs : List (Addr × Addr)) (a : Addr) (H : Hp) : Prop where
  tab : ∀ p ∈ cs, H p.2 = some (.tbl #[])
  low : ∀ b, H b = none ∨ (∃ p ∈ cs, b = p.2) ∨ (b = a ∧ K.lookup a = none ∧ ∃ o xs, H b = some (.frz o (.lst xs)))
section
variable {P : Program} {w : World} {K : PySem.W.Frag} {mg mb : Str → Option Value} {cs : List (Addr × Addr)} {a fa : Addr} {s₁ : Shared} {vs : List Value} {ns : List Int} {H : Hp}
structure LawSt (K : PySem.W.Frag) (mg mb : Str → Option Value) (cs : List (Addr × Addr)) (a : Addr) (vs : List Value) (s₁ : Shared) : Prop where
  kin : K.In s₁.heap
  gl : s₁.heap.Ns mainGlobals mg
  bl : s₁.heap.Ns builtinsNs mb
  bb : ∀ x : Str, x ≠ "__name__" → mb x = bootBuiltins x
  lim : s₁.heap.NoLimit
  gens : s₁.gens = #[]
  emp : ∀ p ∈ cs, s₁.heap.get? p.2 = some { cls := .none, data := .fields #[] }
  notK : ∀ p ∈ cs, K.lookup p.2 = none
  code : ∀ p ∈ cs, PySem.W.CodeHd s₁.heap p.1 p.2
  bmain : ∃ (bm : Addr) (ob : Obj), mg "__builtins__" = some (.ref bm) ∧ bm ≠ builtinsNs ∧ s₁.heap.get? bm = some ob ∧ ob.cls = .type "module" ∧ ob.dict = some builtinsNs ∧ ob.data = .plain
  scr : s₁.heap.get? a = some { cls := .type "list", data := .seq vs.toArray }
theorem LawSt.here (L : LawSt K mg mb cs a vs s₁) (S : Start K cs a H) {b : Addr} {o : Obj} (e : s₁.heap.get? b = some o) (h1 : ∀ xs n, o.data ≠ .seq xs n) (h2 : o.data ≠ .fields #[]) : (hidT s₁.heap H).get? b = some o := by
  refine hidT_get e ?_
  rcases S.low b with z | ⟨p, hp, z⟩ | ⟨z, _⟩
  · exact z
  · subst z
    rw [L.emp p hp] at e
    cases e
    exact absurd rfl h2
  · subst z
    rw [L.scr] at e
    cases e
    exact absurd rfl (h1 _ _)
theorem LawSt.hereNs (L : LawSt K mg mb cs a vs s₁) (S : Start K cs a H) {b : Addr} {m : Str → Option Value} (h : s₁.heap.Ns b m) : (hidT s₁.heap H).Ns b m := by
  obtain ⟨o, es, ep, e, d, r⟩ := h
  refine ⟨o, es, ep, L.here S e (fun xs n z => ?_) (fun z => ?_), d, r⟩
  · rw [d] at z
    cases z
  · rw [d] at z
    cases z
theorem LawSt.hereK (L : LawSt K mg mb cs a vs s₁) (S : Start K cs a H) : K.In (hidT s₁.heap H) := fun b o e => hidT_get (L.kin b o e) (by
  rcases S.low b with z | ⟨p, hp, z⟩ | ⟨z, hk, _⟩
  · exact z
  · rw [z, L.notK p hp] at e
    cases e
  · rw [z, hk] at e
    cases e)
theorem LawSt.mod (L : LawSt K mg mb cs a vs s₁) (S : Start K cs a H) : Mod K mg (hidT s₁.heap H) :=
  ⟨L.hereK S, L.hereNs S L.gl, ⟨mb, L.hereNs S L.bl, L.bb⟩, let ⟨mc, h1, h2⟩ := L.lim; ⟨mc, L.hereNs S h1, h2⟩⟩
theorem LawSt.tabs (L : LawSt K mg mb cs a vs s₁) (S : Start K cs a H) : ∀ p ∈ cs, TabB (hidT s₁.heap H) mg p.1 p.2 := fun p hp => by
  refine ⟨?_, ?_, fun z => ?_⟩
  · obtain ⟨o, us, file, tf, flags, tg, inF, text, tt, e1, r1, r2, r3, rest⟩ := L.code p hp
    refine ⟨o, us, file, tf, flags, tg, inF, text, tt, L.here S e1 (fun xs n z => ?_) (fun z => ?_), r1, r2, r3, rest⟩
    · rw [r2] at z
      cases z
    · rw [r2] at z
      cases z
      simp at r3
  · obtain ⟨bm, ob, b1, b2, b3, b4, b5, b6⟩ := L.bmain
    refine ⟨bm, ob, b1, b2, fun q => ?_, fun q => ?_, L.here S b3 (fun xs n z => ?_) (fun z => ?_), b4, b5, b6⟩
    · obtain ⟨o, es, ep, e, hd, _⟩ := L.gl
      rw [q, e] at b3
      cases b3
      rw [hd] at b6
      cases b6
    · rw [q, L.emp p hp] at b3
      cases b3
      cases b6
    · rw [b6] at z
      cases z
    · rw [b6] at z
      cases z
  · obtain ⟨o, es, ep, e, hd, _⟩ := L.gl
    rw [z, L.emp p hp] at e
    cases e
    cases hd
end
end DL
namespace DL
open PySem PySem.Spec PyProof.Rows L2
open LamX (CodeO Tabs ExtN TabB LamS lamEnv lamCx)
section
variable {K : PySem.W.Frag} {ct : CT} {b : Base} {w : Wd} {H : Hp}
end
section
variable {X : Cx} {ct : CT} {w : Wd} {H : Hp} {Q : VK} {Z : Cx}
end
end DL
namespace DL
open PySem PySem.Spec PyProof.Rows L2
section
variable {X : Cx} {ct : CT}
end
section
variable {α : Type} {en : En} {M : Store} {E : Str → List (Str × D) → Store → Prop}
end
end DL
namespace DL
open PySem PySem.Spec PyProof.Rows L2
section
variable (kx vx t0 i0 t1 i1 : Expr) (f0 f1 : List Expr) (sc : Scope) (ps : Pos)
end
section
variable {prog : Program} {w : World} {A : Around} {R : Result → Shared → Prop} {s : Shared} {kx vx t0 i0 t1 i1 : Expr} {f0 f1 : List Expr} {sc : Scope} {ps : Pos} {it : Value} {D : Addr} {en : Env}
end
end DL
namespace DL
open PySem PySem.Spec PyProof.Rows L2
section
variable {X : Cx}
variable {sc : Scope} {t0 i0 t1 i1 kx vx : Expr} {f0 f1 : List Expr} {wi wi1 : TI} {g g1 : TG} {tt tt1 : TT} {tk tv : TE} {own : List (Str × Nat)} {vs1 : List Nat} {ps ps' : Pos}
end
end DL
namespace DL
open PySem PySem.Spec PyProof.Rows L2
mutual
theorem put_own : ∀ (t : Tg) (x : D) (en en1 : En) (i : Nat) (o : MO), t.put x en = some en1 → en1[i]? = some (some (.own o)) → i ∉ t.ixs ∧ en[i]? = some (some (.own o))
  | .name j, x, en, en1, i, o, e, h => by
    simp only [Tg.put, Option.some.injEq] at e
    subst e
    rw [List.getElem?_set] at h
    by_cases q : j = i
    · rw [if_pos q] at h
      split at h <;> cases h
    · rw [if_neg q] at h
      refine ⟨fun z => q ?_, h⟩
      simp only [Tg.ixs, List.mem_singleton] at z
      exact z.symm
  | .tup ts, x, en, en1, i, o, e, h => by
    cases x with
    | tup xs =>
      simp only [Tg.put] at e
      have := puts_own ts xs en en1 i o e h
      simpa only [Tg.ixs] using this
    | _ => simp only [Tg.put] at e; cases e
theorem puts_own : ∀ (ts : List Tg) (xs : List D) (en en1 : En) (i : Nat) (o : MO), Tg.puts ts xs en = some en1 → en1[i]? = some (some (.own o)) → i ∉ Tg.ixss ts ∧ en[i]? = some (some (.own o))
  | [], [], en, en1, i, o, e, h => by
    simp only [Tg.puts, Option.some.injEq] at e
    subst e
    exact ⟨by simp [Tg.ixss], h⟩
  | [], _ :: _, _, _, _, _, e, _ => by simp only [Tg.puts] at e; cases e
  | _ :: _, [], _, _, _, _, e, _ => by simp only [Tg.puts] at e; cases e
  | t :: ts, x :: xs, en, en1, i, o, e, h => by
    simp only [Tg.puts] at e
    obtain ⟨en', e1, e2⟩ := Option.bind_eq_some_iff.mp e
    obtain ⟨h1, h2⟩ := puts_own ts xs en' en1 i o e2 h
    obtain ⟨h3, h4⟩ := put_own t x en en' i o e1 h2
    refine ⟨fun z => ?_, h4⟩
    simp only [Tg.ixss, List.mem_append] at z
    exact z.elim h3 h1
end
theorem Sl.out {K : PySem.W.Frag} {ct : CT} {b : Base} {w : Wd} {en : En} {σ : L2.St} {H : Hp} {D : Addr} (S : Sl K ct b w en σ H) (hne : ∀ (i : Nat) (o : MO) (a : Addr), en[i]? = some (some (.own o)) → σ[i]? = some (some (.ref a)) → a ≠ D) : Sl K ct b w en σ (upd' H D) := by
  refine ⟨S.len, S.val, fun i o e => ?_, S.sep⟩
  obtain ⟨a, ho, h1, h2, h3, h4, h5, h6⟩ := S.own i o e
  have ne : a ≠ D := hne i o a e h1
  exact ⟨a, ho, h1, h2, h3, h4, by rw [show upd' H D a = H a from if_neg ne]; exact h5, h6⟩
section
variable {X : Cx} {ct : CT} {b : Base} {W : WX} {pos : Pos}
structure AtD (X : Cx) (ct : CT) (dp : Addr) (w1 : Wd) (H1 : Hp) (Hn : Hp) (w2 : Wd) (M : Store) (ks : List Key) (acc : List D) (accv : List V) : Prop where
  st : Step w1 H1 w2 (upd' Hn dp)
  rl : Rl X.K ct w2 M (upd' Hn dp)
  at' : Hn dp = some (.dK (ks.zip accv))
  len : ks.length = acc.length
  rep : RepL X.K w2 acc accv
theorem AtD.go {dp : Addr} {w1 w2 w3 : Wd} {H1 Hn H2 : Hp} {M M3 : Store} {ks : List Key} {acc : List D} {accv : List V} (A : AtD X ct dp w1 H1 Hn w2 M ks acc accv) (FD : w2.F dp = none) (ND : dp ∉ w2.ρ) (s : Step w2 Hn w3 H2) (r : Rl X.K ct w3 M3 H2) :
    AtD X ct dp w1 H1 H2 w3 M3 ks acc accv ∧ w3.F dp = none ∧ dp ∉ w3.ρ := by
  obtain ⟨hD, FD', ND'⟩ := s.fr dp _ A.at' (fun _ z => nomatch z) FD ND
  exact ⟨⟨A.st.trans (s.out dp), r.out FD' ND' (fun o e => by rw [hD] at e; cases e; trivial), hD, A.len, s.repL A.rep⟩, FD', ND'⟩
end
end DL
namespace DL
open PySem PySem.Spec PyProof.Rows L2
section
variable {X : Cx} {ct : CT} {b : Base} {W : WX} {pos : Pos}
structure AtL (X : Cx) (ct : CT) (dp : Addr) (w1 : Wd) (H1 : Hp) (Hn : Hp) (w2 : Wd) (M : Store) (acc : List D) (accv : List V) : Prop where
  st : Step w1 H1 w2 (upd' Hn dp)
  rl : Rl X.K ct w2 M (upd' Hn dp)
  at' : Hn dp = some (.lst accv)
  rep : RepL X.K w2 acc accv
theorem AtL.go {dp : Addr} {w1 w2 w3 : Wd} {H1 Hn H2 : Hp} {M M3 : Store} {acc : List D} {accv : List V} (A : AtL X ct dp w1 H1 Hn w2 M acc accv) (FD : w2.F dp = none) (ND : dp ∉ w2.ρ) (s : Step w2 Hn w3 H2) (r : Rl X.K ct w3 M3 H2) :
    AtL X ct dp w1 H1 H2 w3 M3 acc accv ∧ w3.F dp = none ∧ dp ∉ w3.ρ := by
  obtain ⟨hD, FD', ND'⟩ := s.fr dp _ A.at' (fun _ z => nomatch z) FD ND
  exact ⟨⟨A.st.trans (s.out dp), r.out FD' ND' (fun o e => by rw [hD] at e; cases e; trivial), hD, s.repL A.rep⟩, FD', ND'⟩
section
variable {R R1 : RR} {ci ci1 : CI} {t t1 : Tg} {tt tt1 : CB} {te : CE} {elt tg iter tg1 iter1 : Expr} {ifs ifs1 : List Expr} {scope : Scope} {own : List (Str × Nat)} {vs1 : List Nat}
end
end
section
variable {en : En} {M : Store} {E : EX} {t t1 : Tg} {vs vs1 : List Nat} {tt tt1 : CB} {te tk tv : CE} {ci ci1 : CI}
end
end DL
namespace DL
open PySem PySem.Spec PyProof.Rows L2
def repL' : D → D → Option MO
  | .lst xs, .int k => if -(2 ^ 63) ≤ k ∧ k < 2 ^ 63 ∧ xs.length * k.toNat ≤ sizeLine then some (.lst (List.replicate k.toNat xs).flatten) else none
  | _, _ => none
def nRep (h1 h2 : CH) : CN := fun en M => (h1 en M).bind fun a M1 => (h2 en M1).bind fun c M2 => ofO ((vw en M2 a).bind fun x => (vw en M2 c).bind fun y => repL' x y) M2
section
variable {X : Cx} {ct : CT} {b : Base} {W : WX} {e1 e2 : Expr} {pos : Pos}
theorem rep_flat {K : PySem.W.Frag} {w : Wd} {xs : List D} {vs : List V} (h : RepL K w xs vs) : ∀ n : Nat, RepL K w (List.replicate n xs).flatten (List.replicate n vs).flatten
  | 0 => .nil
  | n + 1 => by
    rw [List.replicate_succ, List.replicate_succ, List.flatten_cons, List.flatten_cons]
    exact h.append (rep_flat h n)
theorem pn_rep {h1 h2 : CH} (ha : PHD X ct b W h1 e1) (hb : PHD X ct b W h2 e2) : PND X ct b W (nRep h1 h2) (.BinOp e1 .Mult e2 pos) :=
  PE.wk (pe_op op_rep ha hb) fun σ H Q h => by
    obtain ⟨w, en, M, S, rl, p⟩ := h
    refine ⟨w, en, M, S, rl, (Post.bind p).imp (fun a M1 q w1 v1 H1 s1 r1 x1 => ?_) fun _ _ _ q => q⟩
    refine ⟨w1, en, M1, S.step s1, r1, (Post.bind q).imp (fun c M2 q w2 v2 H2 s2 r2 x2 => ?_) fun _ _ _ q w' cls dx H' s => q w' cls dx H' (s1.trans s)⟩
    obtain ⟨d, e, q⟩ := ofO_post q
    obtain ⟨x, ex, e⟩ := Option.bind_eq_some_iff.mp e
    obtain ⟨y, ey, e⟩ := Option.bind_eq_some_iff.mp e
    have k1 := vw_ok (S.step (s1.trans s2)) r2 (s2.repH x1) ex
    have k2 := vw_ok (S.step (s1.trans s2)) r2 x2 ey
    unfold repL' at e
    split at e
    case h_2 => cases e
    rename_i xs j ez
    split at e
    case isFalse => cases e
    rename_i hl
    cases e
    obtain ⟨a1, vs, rfl, g1, g2⟩ := k1
    cases k2
    exact ⟨a1, j, vs, rfl, rfl, g1, hl.1, hl.2.1, by rw [← g2.length]; exact hl.2.2, fun p hp => q w2 p _ H2 (s1.trans s2) r2 hp ⟨_, rfl, rep_flat g2 _⟩⟩
end
section
variable {en : En} {M : Store} {E : EX}
def kRep2 (a : Hd) (en : En) (Q : MO → Store → Prop) (c : Hd) (M : Store) : Prop := PV ((vw en M a).bind fun x => (vw en M c).bind fun y => repL' x y) M Q
def kRep1 (h2 : CH) (en : En) (Q : MO → Store → Prop) (E : EX) (a : Hd) (M : Store) : Prop := Post (h2 en M) (kRep2 a en Q) E
@[simp] theorem kRep2_app {a c : Hd} {Q : MO → Store → Prop} : kRep2 a en Q c M = PV ((vw en M a).bind fun x => (vw en M c).bind fun y => repL' x y) M Q := rfl
@[simp] theorem kRep1_app {h2 : CH} {a : Hd} {Q : MO → Store → Prop} : kRep1 h2 en Q E a M = Post (h2 en M) (kRep2 a en Q) E := rfl
@[simp] theorem m_nRep {h1 h2 : CH} {Q : MO → Store → Prop} : Post (nRep h1 h2 en M) Q E = Post (h1 en M) (kRep1 h2 en Q E) E := by
  simp only [nRep, Post_bind_eq, Post_ofO]
  rfl
@[simp] theorem repL'_one {d : D} {n : Nat} (h : n ≤ 16777216) : repL' (.lst [d]) (.int n) = some (.lst (List.replicate n d)) := by
  have sl : sizeLine = 16777216 := by decide
  simp only [repL']
  rw [if_pos ⟨by omega, by omega, by simp [sl]; omega⟩]
  have : ∀ n : Nat, (List.replicate n [d]).flatten = List.replicate n d := fun n => by
    induction n with
    | zero => rfl
    | succ n ih => rw [List.replicate_succ, List.flatten_cons, ih]; rfl
  simp [this]
end
end DL
namespace DL
open PySem PySem.Spec PyProof.Rows L2
end DL
namespace DL
open PySem PySem.Spec PyProof.Rows L2
section
variable {prog : Program} {w : World} {A : Around} {E : Value → Shared → Prop} {s : Shared}
end
section
variable {X : Cx}
variable {ct : CT}
end
end DL
namespace DL
open PySem PySem.Spec PyProof.Rows L2
section
variable {X : Cx} {ct : CT} {b : Base} {W : WX} {e : Expr} {p pos : Pos}
end
end DL
namespace RZTL
open PySem
open PySem.Sem (wp)
section
variable {prog : Program} {w : World} {A : Around} {E : Value → Shared → Prop} {s : Shared}
end
section
variable {prog : Program} {w : World} {A : Around} {E : Value → Shared → Prop} {s : Shared}
end
open PySem.Spec PyProof.Rows L2 RZ
end RZTL
namespace DL
open PySem PySem.Spec PyProof.Rows L2
section
variable {X : Cx} {ct : CT} {b : Base} {W : WX} {e e1 e2 e3 : Expr} {pos : Pos} {es : List Expr}
end
end DL
namespace DL
open PySem PySem.Spec PyProof.Rows L2
section
variable {X : Cx}
variable {ct : CT}
end
end DL
namespace DL
open PySem PySem.Spec PyProof.Rows L2
def IsSI (h : Heap) (v : Value) (p : Str × Int) : Prop := ∃ a o t u n, v = .ref a ∧ h.get? a = some o ∧ o.cls = .type "tuple" ∧ o.data = .seq #[.str p.1 t, .int p.2 u] n
theorem IsSI.keeps {h h' : Heap} {v : Value} {p : Str × Int} (x : IsSI h v p) (k : ∀ b o, h.get? b = some o → o.cls = .type "tuple" → h'.get? b = some o) : IsSI h' v p := by
  obtain ⟨a, o, t, u, n, e, ho, hc, hd⟩ := x
  exact ⟨a, o, t, u, n, e, k _ _ ho hc, hc, hd⟩
section
variable {prog : Program} {w : World} {A : Around} {E : Value → Shared → Prop} {s : Shared}
end
section
variable {X : Cx}
end
section
variable {X : Cx} {ct : CT} {w : Wd}
end
end DL
namespace DL
open PySem PySem.Spec PyProof.Rows L2
section
variable {X : Cx} {pins : List (Addr × Obj)} {σ : L2.St} {H : Hp} {s : Shared}
end
section
variable {X : Cx} {ct : CT} {b : Base} {W : WX} {e : Expr} {pos : Pos}
end
section
variable {X : Cx} {ct : CT} {b : Base} {W : WX} {e : Expr} {pos : Pos} {te : TE} {f : Str}
end
section
variable {X : Cx}
end
section
variable {X : Cx} {ct : CT} {b : Base} {W : WX} {o e : Expr} {pos apos cpos : Pos}
end
section
variable {K : PySem.W.Frag} {mg : Str → Option Value} {ct : CT}
end
section
variable {X : Cx} {ct : CT} {b : Base} {W : WX} {e : Expr} {pos : Pos}
end
section
variable {en : En} {M : Store} {E : EX}
end
end DL
namespace DL
open PySem PySem.Spec PyProof.Rows L2
section
variable {X : Cx} {ct : CT} {b : Base} {W : WX} {x m : Str} {j : Nat} {p p2 pos pos2 : Pos}
end
end DL
namespace DL
open PySem PySem.Spec PyProof.Rows L2
def tyV (M : Store) (d : D) : Option Nat := (vwD M d).bind tyN
section
variable {K : PySem.W.Frag} {mg : Str → Option Value} {ct : CT} {c : Str} {w : Wd} {M : Store} {H : Hp} {d : D} {v : V}
end
section
variable {X : Cx} {ct : CT} {b : Base} {W : WX} {e o : Expr} {pos : Pos}
end
section
variable {prog : Program} {w : World} {A : Around} {E : Value → Shared → Prop} {s : Shared} {K : PySem.W.Frag} {x C L f : Addr} {h₀ : Heap} {m : Str → Option Value} {ox : Obj} {od : Option Obj} {b tb : Value}
end
section
variable {X : Cx} {ct : CT} {b : Base} {W : WX} {e o : Expr} {pos : Pos} {c : Str} {k : Nat} {cf : CF} {fo fr : CE}
def EqP (X : Cx) (ct : CT) (W : WX) (ng : Bool) (c : Str) (cf : CF) (cv : List V) (Q : VK) (σ : L2.St) (v y : V) (H : Hp) : Prop := ∃ a dx fs, v = .ref a ∧ H a = some (.ins (ct.c c) dx fs) ∧
  ((∃ n, TyX X.K H y (.type (nmN n))) ∨ TyX X.K H y (.ref (ct.c c))) ∧ SpD X.K ct cf (pick [0, 1] (.ref a :: [y] ++ [] ++ cv)) H (fun r H3 => ∃ k, r = .bl k ∧ Q (.bl (if ng = true then !k else k)) H3) (WE W σ)
end
section
variable {en : En} {M : Store} {E : Str → List (Str × D) → Store → Prop} {Q : D → Store → Prop} {c : Str} {f fo fr : CE} {cf : CF} {ng : Bool} {d e : D}
end
end DL
namespace DL
open PySem PySem.Spec PyProof.Rows L2
section
variable {X : Cx} {ct : CT} {b : Base} {W : WX} {e : Expr} {i j : Nat} {f : CE}
end
section
variable {i j : Nat} {f : CE} {en : En} {M : Store} {Q : D → Store → Prop} {E : Str → List (Str × D) → Store → Prop}
end
end DL
namespace DL
open PySem PySem.Spec PyProof.Rows L2
section
variable {prog : Program} {w : World} {A : Around} {E : Value → Shared → Prop} {s : Shared} {z TI TO i1 i2 T : Addr} {fp1 fp2 : List Addr} {n1 n2 i : Nat} {P1 P2 : Nat → Value → Prop} {St1 St2 : Nat → Heap → Prop} {f : Bool} {oT : Obj}
end
section
variable {prog : Program} {w : World} {z TI TO i1 i2 : Addr} {fp1 fp2 : List Addr} {n1 n2 : Nat} {P1 P2 : Nat → Value → Prop} {St1 St2 : Nat → Heap → Prop}
end
section
variable {X : Cx} {e1 e2 : Expr} {ta : TA} {p p2 pos pos2 : Pos}
end
section
variable {X : Cx} {ct : CT} {b : Base} {W : WX} {e1 e2 : Expr} {p p2 pos pos2 : Pos}
end
section
variable {en : En} {M : Store} {E : EX}
end
end DL
namespace DL
open PySem PySem.Spec PyProof.Rows L2 LiI
open AutoSeq1 (wpAny_loadPart')
open PySem.W (KdlSrc kdl_extend)
section
variable {prog : Program} {w : World} {A : Around} {E : Value → Shared → Prop} {s : Shared} {T : String} {r d : Addr} {n : Nat} {P : Nat → Value → Prop} {OK : Heap → Prop}
end
section
variable {X : Cx} {e : Expr} {te : TE} {p apos cpos pos : Pos}
end
section
variable {X : Cx} {ct : CT} {b : Base} {W : WX} {e : Expr} {p apos cpos pos : Pos}
end
section
variable {en : En} {M : Store} {E : Str → List (Str × D) → Store → Prop}
end
end DL
namespace DL
open PySem PySem.Spec PyProof.Rows L2
section
variable {X : Cx} {pins : List (Addr × Obj)} {σ : L2.St} {H : Hp} {s : Shared} {w : Wd}
mutual
theorem nk_at (I : Inv X pins σ H s) (sub : Sub w.F H) : ∀ (d : D) (v : V) (u : Value) (k : NestedKey), Rep X.K w d v → RelV v u → nkD d = some k → NestedIs s.heap k u
  | .non, v, u, k, x, r, e => by
    simp only [Rep] at x
    subst x
    cases e
    obtain rfl : u = Value.none := r
    exact .none
  | .bl b, v, u, k, x, r, e => by
    simp only [Rep] at x
    subst x
    cases e
    obtain rfl : u = Value.bool b := r
    exact .bool rfl
  | .int i, v, u, k, x, r, e => by
    simp only [Rep] at x
    subst x
    cases e
    obtain ⟨t, rfl⟩ : ∃ t, u = Value.int i t := r
    exact .int i t
  | .str y, v, u, k, x, r, e => by
    simp only [Rep] at x
    subst x
    cases e
    obtain ⟨t, rfl⟩ : ∃ t, u = Value.str y t := r
    exact .text y t
  | .tup xs, v, u, k, x, r, e => by
    simp only [Rep] at x
    obtain ⟨a, vs, rfl, h1, h2⟩ := x
    obtain rfl : u = Value.ref a := r
    unfold nkD at e
    obtain ⟨l, e1, rfl⟩ := Option.map_eq_some_iff.mp e
    obtain ⟨its, rv, ⟨o, g1, g2, n, g3⟩, _⟩ := I.tuple (sub.sqt h1)
    exact .tup g1 g2 g3 (by simpa using nks_at I sub xs vs its l h2 rv e1)
  | .lst xs, v, u, k, x, r, e => by cases e
  | .dic ks xs, v, u, k, x, r, e => by cases e
  | .ref n, v, u, k, x, r, e => by cases e
  | .scr ns, v, u, k, x, r, e => by cases e
theorem nks_at (I : Inv X pins σ H s) (sub : Sub w.F H) : ∀ (ds : List D) (vs : List V) (us : List Value) (ks : List NestedKey), RepL X.K w ds vs → Vals vs us → nkL ds = some ks → NestedAll s.heap ks us
  | [], vs, us, ks, x, r, e => by
    rw [RepL.nil_iff] at x
    subst x
    cases r
    cases e
    exact .nil
  | d :: ds, vs, us, ks, x, r, e => by
    rw [RepL.cons_iff] at x
    obtain ⟨v, vr, rfl, h1, h2⟩ := x
    cases r with
    | cons r1 r2 =>
      unfold nkL at e
      obtain ⟨k, e1, e⟩ := Option.bind_eq_some_iff.mp e
      obtain ⟨l, e2, rfl⟩ := Option.map_eq_some_iff.mp e
      exact .cons (nk_at I sub d v _ k h1 r1 e1) (nks_at I sub ds vr _ l h2 r2 e2)
end
end
section
variable {X : Cx} {ct : CT} {b : Base} {W : WX} {e e1 e2 : Expr} {pos : Pos}
end
section
variable {X : Cx} {ct : CT} {b : Base} {W : WX} {e e1 e2 : Expr} {pos : Pos}
end
section
variable {X : Cx} {ct : CT} {b : Base} {W : WX} {e1 e2 : Expr} {pos : Pos}
end
section
variable {en : En} {M : Store} {E : EX}
end
end DL
namespace DL
open PySem PySem.Spec PyProof.Rows L2 PySem.W
mutual
def dP : D → Option PyData
  | .non => some .none
  | .bl b => some (.bool b)
  | .int i => some (.int i)
  | .str x => some (.str x)
  | .tup xs => (dPL xs).map .tuple
  | _ => none
def dPL : List D → Option (List PyData)
  | [] => some []
  | x :: xs => (dP x).bind fun p => (dPL xs).map fun l => p :: l
end
section
variable {X : Cx} {pins : List (Addr × Obj)} {σ : L2.St} {H : Hp} {s : Shared} {w : Wd}
mutual
theorem reads_at (I : L2.Inv X pins σ H s) (sub : Sub w.F H) : ∀ (d : D) (v : V) (u : Value) (p : PyData), Rep X.K w d v → L2.RelV v u → dP d = some p → ∃ as, Reads s.heap u p as
  | .non, v, u, k, x, r, e => by
    simp only [Rep] at x
    subst x
    cases e
    obtain rfl : u = Value.none := r
    exact ⟨_, .none⟩
  | .bl b, v, u, k, x, r, e => by
    simp only [Rep] at x
    subst x
    cases e
    obtain rfl : u = Value.bool b := r
    exact ⟨_, .bool b⟩
  | .int i, v, u, k, x, r, e => by
    simp only [Rep] at x
    subst x
    cases e
    obtain ⟨t, rfl⟩ : ∃ t, u = Value.int i t := r
    exact ⟨_, .int i t⟩
  | .str y, v, u, k, x, r, e => by
    simp only [Rep] at x
    subst x
    cases e
    obtain ⟨t, rfl⟩ : ∃ t, u = Value.str y t := r
    exact ⟨_, .str y t⟩
  | .tup xs, v, u, k, x, r, e => by
    simp only [Rep] at x
    obtain ⟨a, vs, rfl, h1, h2⟩ := x
    obtain rfl : u = Value.ref a := r
    unfold dP at e
    obtain ⟨l, e1, rfl⟩ := Option.map_eq_some_iff.mp e
    obtain ⟨its, rv, ⟨o, g1, g2, n, g3⟩, _⟩ := I.tuple (sub.sqt h1)
    obtain ⟨as, ra⟩ := readsL_at I sub xs vs its l h2 rv e1
    exact ⟨as, .tuple g1 g2 g3 (by simpa using ra)⟩
  | .lst xs, v, u, k, x, r, e => by cases e
  | .dic ks xs, v, u, k, x, r, e => by cases e
  | .ref n, v, u, k, x, r, e => by cases e
  | .scr ns, v, u, k, x, r, e => by cases e
theorem readsL_at (I : L2.Inv X pins σ H s) (sub : Sub w.F H) : ∀ (ds : List D) (vs : List V) (us : List Value) (ps : List PyData), RepL X.K w ds vs → Vals vs us → dPL ds = some ps → ∃ as, ReadsAll s.heap us ps as
  | [], vs, us, ks, x, r, e => by
    rw [RepL.nil_iff] at x
    subst x
    cases r
    cases e
    exact ⟨_, .nil⟩
  | d :: ds, vs, us, ks, x, r, e => by
    rw [RepL.cons_iff] at x
    obtain ⟨v, vr, rfl, h1, h2⟩ := x
    cases r with
    | cons r1 r2 =>
      unfold dPL at e
      obtain ⟨k, e1, e⟩ := Option.bind_eq_some_iff.mp e
      obtain ⟨l, e2, rfl⟩ := Option.map_eq_some_iff.mp e
      obtain ⟨as, ra⟩ := reads_at I sub d v _ k h1 r1 e1
      obtain ⟨bs, rb⟩ := readsL_at I sub ds vr _ l h2 r2 e2
      exact ⟨_, .cons ra rb⟩
end
end
section
variable {X : Cx} {ct : CT}
end
section
variable {X : Cx} {ct : CT}
end
end DL
namespace DL
open PySem PySem.Spec PyProof.Rows L2 PySem.W
def isTx (k : Str) (v : Value) : Bool := match v with
  | .str n _ => n.cps.toList == k.cps.toList
  | _ => false
theorem tx_beq {a b : Str} : (a.cps.toList == b.cps.toList) = true ↔ a = b := by
  rw [beq_iff_eq]
  constructor
  · intro h
    obtain ⟨a⟩ := a
    obtain ⟨b⟩ := b
    exact congrArg Str.mk (Array.ext' h)
  · intro h
    rw [h]
theorem isTx_gives {k : Str} {t : Tok} : ∀ {us : List Value} {ns : List Str}, StrsAre us ns → ∀ y ∈ us, MeetsSeq.EqGives y (.str k t) (isTx k y)
  | _, _, .nil => fun y hy => by cases hy
  | _, _, .cons n t' h => fun y hy => by
    rcases List.mem_cons.mp hy with e | e
    · rw [e]
      exact SeqRoads2.EqGives.str n k t' t
    · exact isTx_gives h y e
theorem isTx_at (k : Str) : ∀ {vs : List Value} {ns : List Str}, StrsAre vs ns → ∀ (i : Nat) (h : i < vs.length), isTx k vs[i] = true ↔ ns[i]? = some k
  | _, _, .nil, i, h => absurd h (by simp)
  | _, _, .cons n t hr, 0, _ => by
    show (n.cps.toList == k.cps.toList) = true ↔ some n = some k
    rw [tx_beq, Option.some_inj]
  | _, _, .cons n t hr, i + 1, h => isTx_at k hr i (Nat.lt_of_succ_lt_succ h)
theorem firstS_at : ∀ {ns : List Str} {k : Str}, k ∈ ns → ∃ j, j < ns.length ∧ ns[j]? = some k ∧ (∀ i, i < j → ns[i]? ≠ some k) ∧ ns.eraseIdx j = ns.erase k
  | [], k, h => absurd h (by simp)
  | a :: r, k, h => by
    by_cases e : a = k
    · refine ⟨0, Nat.succ_pos _, by rw [e] <;> rfl, fun i hi => absurd hi (Nat.not_lt_zero _), ?_⟩
      rw [e, List.erase_cons_head] <;> rfl
    · have hr : k ∈ r := by
        rcases List.mem_cons.mp h with z | z
        · exact absurd z.symm e
        · exact z
      obtain ⟨j, h1, h2, h3, h4⟩ := firstS_at hr
      refine ⟨j + 1, Nat.succ_lt_succ h1, h2, fun i hi => ?_, ?_⟩
      · cases i with
        | zero =>
          intro z
          exact e (Option.some.inj z)
        | succ i => exact h3 i (Nat.lt_of_succ_lt_succ hi)
      · rw [List.erase_cons_tail (by rw [beq_iff_eq]; exact e), ← h4] <;> rfl
theorem mapS_eraseIdx (f : Str → V) : ∀ (ns : List Str) (j : Nat), (ns.map f).eraseIdx j = (ns.eraseIdx j).map f
  | [], _ => rfl
  | _ :: _, 0 => rfl
  | n :: r, j + 1 => by
    show f n :: (r.map f).eraseIdx j = f n :: (r.eraseIdx j).map f
    rw [mapS_eraseIdx f r j]
def rRemS : V → List V → Hp → VK → Prop := fun x xs H Q => ∃ (l : Addr) (ns : List Str) (k : Str), x = .ref l ∧ xs = [.str k] ∧ H l = some (.lst (ns.map V.str)) ∧ k ∈ ns ∧ Q .non (upd H l (.lst ((ns.erase k).map V.str)))
theorem mt_removeS {X : Cx} : MtR X "list.remove" rRemS := by
  intro pins s σ H x xs v us Q I rx rxs h
  obtain ⟨l, ns, k, rfl, rfl, hH, hk, q⟩ := h
  cases rx
  obtain ⟨u, rfl, ru⟩ := vals1 rxs
  obtain ⟨t, rfl⟩ := (show ∃ t, u = Value.str k t from ru)
  obtain ⟨z, its, n, r, hl, e⟩ := I.lstM hH
  have hi : StrsAre its ns := Vals.strs r
  have hnl : ns.length = its.length := by rw [← hl, List.length_map]
  obtain ⟨j, j1, j2, j3, j4⟩ := firstS_at hk
  have hj : j < its.length := by omega
  have hsz : its.toArray.size ≤ sizeLine := by rw [List.size_toArray, ← hl]; exact z
  refine call_meets PySem.F.slot_list_remove ⟨_, e, rfl⟩ PySem.F.entry_list_remove (PySem.F.args_list_remove_2 _ _)
    (MeetsSeq.list_remove l its.toArray n (.str k t) (isTx k) (fun y hy => isTx_gives hi y (by simpa using hy)) j (by rw [List.size_toArray]; exact hj) ?hit (fun i hi2 hlt => ?hno) hsz) ⟨e, ?_⟩
  case hit =>
    show isTx k its[j] = true
    exact (isTx_at k hi j hj).mpr j2
  case hno =>
    have hi3 : i < its.length := by rw [List.size_toArray] at hi2; exact hi2
    show isTx k its[i] = false
    rw [Bool.eq_false_iff]
    intro w
    exact j3 i hlt ((isTx_at k hi i hi3).mp w)
  have r2 : Vals ((ns.erase k).map V.str) (its.eraseIdx j) := by
    have w := r.eraseIdx j
    rw [mapS_eraseIdx, j4] at w
    exact w
  refine ⟨.non, _, I.lset (its' := its.eraseIdx j) hH e ?_ r2 ?_, rfl, q⟩
  · show its.toArray.eraseIdxIfInBounds j = (its.eraseIdx j).toArray
    rw [List.eraseIdxIfInBounds_toArray]
  · rw [List.length_map]
    have := List.length_erase_le (a := k) (l := ns)
    rw [List.length_map] at z
    omega
def mRemove : MO → List D → Option (MO × D)
  | .lst xs, [.str k] => (strsD xs).bind fun ns => if k ∈ ns then some (.lst ((ns.erase k).map D.str), .non) else none
  | _, _ => none
theorem strsD_eq : ∀ {xs : List D} {ns : List Str}, strsD xs = some ns → xs = ns.map D.str
  | [], ns, h => by cases h; rfl
  | .str a :: xs, ns, h => by
    unfold strsD at h
    obtain ⟨m, e, rfl⟩ := Option.map_eq_some_iff.mp h
    rw [strsD_eq e]
    rfl
  | .non :: _, _, h | .bl _ :: _, _, h | .int _ :: _, _, h | .tup _ :: _, _, h | .lst _ :: _, _, h | .dic _ _ :: _, _, h | .ref _ :: _, _, h | .scr _ :: _, _, h => by cases h
theorem repS {K : PySem.W.Frag} {w : Wd} : ∀ {ns : List Str} {us : List V}, RepL K w (ns.map D.str) us → us = ns.map V.str
  | [], us, h => by
    rw [List.map_nil, RepL.nil_iff] at h
    exact h
  | n :: ns, us, h => by
    rw [List.map_cons, RepL.cons_iff] at h
    obtain ⟨v, r, rfl, h1, h2⟩ := h
    simp only [Rep] at h1
    subst h1
    rw [repS h2]
    rfl
theorem repS' {K : PySem.W.Frag} {w : Wd} : ∀ ns : List Str, RepL K w (ns.map D.str) (ns.map V.str)
  | [] => by
    rw [List.map_nil, RepL.nil_iff]
    rfl
  | n :: ns => by
    rw [List.map_cons, RepL.cons_iff]
    exact ⟨_, _, rfl, by simp only [Rep], repS' ns⟩
theorem met_remove {X : Cx} {ct : CT} : MetV X ct "list.remove" mRemove := by
  refine ⟨_, mt_removeS, fun w H a o ho ds vs o' d Q hH hr hx e k => ?_⟩
  unfold mRemove at e
  split at e
  case h_2 => cases e
  rename_i xs s
  obtain ⟨ns, e1, e2⟩ := Option.bind_eq_some_iff.mp e
  split at e2
  case isFalse => cases e2
  rename_i hs
  cases e2
  rw [strsD_eq e1] at hr
  obtain ⟨us, rfl, x⟩ := hr
  obtain rfl := repS x
  obtain ⟨v, rfl, h1⟩ := hx.one_iff
  simp only [Rep] at h1
  subst h1
  exact ⟨a, ns, s, rfl, rfl, hH, hs, k _ _ ⟨_, rfl, repS' _⟩ .non'⟩
end DL
namespace DL
open PySem PySem.Spec PyProof.Rows L2 PySem.W
def hFldL (cn f : Str) (j : Nat) : Str → List (Str × D) → CS := fun c fs en M => if c = cn then match fs.lookup f with
  | some d => .ok (.next (en.set j (some (.val (.lst [d]))))) M
  | none => .err
  else .err
section
variable {X : Cx} {ct : CT} {b : Base} {pos : Pos} {n : Str} {i : Nat}
theorem psx_fldL {a : Addr} {oe : Obj} {cls : Value} {d : Option Addr} {pn : List (Addr × Obj)} {cn fl y : Str} {j : Nat} {py pnm p2 p3 : Pos} (T : FldC X.K ct cn fl) (hz : Zc cls d oe) (hf : ∃ vs, oe.data = .fields vs) (hN : X.N.Nodup)
    (hi : X.N[i]? = some n := by rfl) (hj : X.N[j]? = some y := by rfl) (hv : Vis X.env.scope n := by first | exact Or.inl rfl | exact Or.inr (Or.inl rfl) | exact Or.inr (Or.inr rfl))
    (hx : Loc X.env.scope y := by first | exact Or.inl rfl | exact Or.inr rfl) (hnd : (n == ("__debug__" : Str)) = false := by decide) (hnc : (n == ("__classdict__" : Str)) = false := by decide)
    (hb : attributeBase (.Name n pnm) fl X.env (eval (.Name n pnm) X.env) = eval (.Name n pnm) X.env := by rfl)
    (he : starEach [.Attribute (.Name n pnm) fl p2] X.env = (false, eval (.Attribute (.Name n pnm) fl p2) X.env) :: starEach [] X.env := by rfl)
    (hs : swapsWith (.List [.Attribute (.Name n pnm) fl p2] p3) (some (.Name y py)) pos.line X.env = pure false := by rfl) (hfn : X.fn y = true ∨ X.env.scope.names.lookup y = some .local := by first | exact .inl rfl | exact .inr rfl) :
    L2.PSs (X.suite a ((a, oe) :: pn)) [.Assign [.Name y py] (.List [.Attribute (.Name n pnm) fl p2] p3) pos] (TSX X ct b i (hFldL cn fl j) a cls d) :=
  PSs.wk (pss_one (ps_set (X := X.suite a ((a, oe) :: pn)) (i := j) hN hj hx (pe_lst (pa_cons (pe_xf T.ex.1 T.ex.2 hz hf (pe_var (X := X.suite a ((a, oe) :: pn)) (i := i) hi hv hnd hnc) hb) pa_nil he)) hs hfn)) fun D σ H q => by
    obtain ⟨w, en, M, c, fs, s, S, e1, e2, r, ⟨x1, x2⟩, p⟩ := q
    unfold hFldL at p
    split at p
    · rename_i hc
      subst hc
      split at p
      · rename_i dv hl
        rcases x2 with ⟨x2, _⟩ | ⟨da, vs, x2, x3, x4⟩
        · subst x2
          cases hl
        · obtain ⟨v, l1, l2⟩ := zip_lookup x4 hl
          refine ⟨.ref a, e2, rfl, x1, da, _, v, x2, (r.sub _ _ x3).resolve_right (fun ⟨⟨_, z⟩, _⟩ => nomatch z), l1, ?_⟩
          refine ⟨show 1 ≤ sizeLine by decide, fun p' hp => ?_⟩
          obtain ⟨s2, r2⟩ := r.frozen (o := .lst [v]) hp trivial
          refine p _ _ _ (s.trans s2) s2.le ((S.step s2).setv j ?_) r2
          simp only [Rep]
          exact ⟨p', [v], rfl, upd_same, s2.repL (.one l2)⟩
      · exact p.elim
    · exact p.elim
end
section
variable {en : En} {M : Store} {E : EX} {Q : QF}
@[simp] theorem m_hFldL {cn f : Str} {j : Nat} {d : D} {Q : QF} : Post (hFldL cn f j cn [(f, d)] en M) Q E = Q (.next (en.set j (some (.val (.lst [d]))))) M := by
  simp [hFldL, List.lookup]
end
end DL
namespace KX
open PySem PySem.Spec PyProof.Rows L2 DL
mutual
def wt : D → Nat
  | .tup xs => wts xs + 1
  | .lst xs => wts xs + 1
  | .str x => x.length + 1
  | _ => 1
def wts : List D → Nat
  | [] => 0
  | x :: xs => wt x + wts xs
end
mutual
def dpt : D → Nat
  | .tup xs => dpts xs + 1
  | .lst xs => dpts xs + 1
  | .dic _ _ => 1
  | _ => 0
def dpts : List D → Nat
  | [] => 0
  | x :: xs => max (dpt x) (dpts xs)
end
mutual
def vl (b : Nat) : D → Prop
  | .non => True
  | .bl _ => True
  | .int i => i.natAbs < 2 ^ b
  | .str x => ∀ c ∈ x.cps.toList, c < 16 ^ 8
  | .tup xs => vls b xs
  | .lst xs => vls b xs
  | .dic ks xs => ks = [] ∧ xs = []
  | .ref _ => False
  | .scr _ => False
def vls (b : Nat) : List D → Prop
  | [] => True
  | x :: xs => vl b x ∧ vls b xs
end
theorem vls_iff {b : Nat} : ∀ {xs : List D}, vls b xs ↔ ∀ x ∈ xs, vl b x
  | [] => by simp [vls]
  | x :: xs => by simp [vls, vls_iff (xs := xs)]
mutual
theorem vl_mono {b b' : Nat} (h : b ≤ b') : ∀ {d : D}, vl b d → vl b' d
  | .non, _ => trivial
  | .bl _, _ => trivial
  | .int i, v => Nat.lt_of_lt_of_le v (Nat.pow_le_pow_right (by decide) h)
  | .str x, v => v
  | .tup xs, v => vls_mono h (xs := xs) v
  | .lst xs, v => vls_mono h (xs := xs) v
  | .dic ks xs, v => v
  | .ref _, v => v.elim
  | .scr _, v => v.elim
theorem vls_mono {b b' : Nat} (h : b ≤ b') : ∀ {xs : List D}, vls b xs → vls b' xs
  | [], _ => trivial
  | x :: xs, v => ⟨vl_mono h v.1, vls_mono h v.2⟩
end
structure Py (b : Nat) (d : D) (p : PyData) : Prop where
  e : pyE d = some p
  s : p.showable = true
  dp : p.depth ≤ dpt d
  l : p.leavesShort 102 = true
  w : p.weight + 1 ≤ 102 * wt d
structure Pys (b : Nat) (xs : List D) (ps : List PyData) : Prop where
  e : pyEs xs = some ps
  s : PyData.showableAll ps = true
  dp : PyData.depthAll ps ≤ dpts xs
  l : PyData.leavesShortAll 102 ps = true
  w : PyData.weightAll ps ≤ 102 * wts xs
theorem int_log {i : Int} {b : Nat} (h : i.natAbs < 2 ^ b) (hb : b ≤ 100) : i.natAbs.log2 < 100 := by
  by_cases e : i.natAbs = 0
  · rw [e]; decide
  · have := (Nat.log2_lt e).mpr h
    omega
mutual
theorem py_vl {b : Nat} (hb : b ≤ 100) : ∀ d : D, vl b d → ∃ p, Py b d p
  | .non, _ => ⟨.none, rfl, rfl, by simp [PyData.depth, dpt], rfl, by simp [PyData.weight, wt]⟩
  | .bl k, _ => ⟨.bool k, rfl, rfl, by simp [PyData.depth, dpt], rfl, by simp [PyData.weight, wt]⟩
  | .int i, v => by
    have l := int_log v hb
    refine ⟨.int i, rfl, ?_, by simp [PyData.depth, dpt], ?_, ?_⟩
    · simp only [PyData.showable, decide_eq_true_eq]
      omega
    · have := PySem.int_text_length_le (a := i) (k := 100) (by decide) l
      refine decide_eq_true ?_
      show (Str.ofString (toString i)).length ≤ 102
      rw [PySem.ofString_length]
      omega
    · simp only [PyData.weight, wt]
      split <;> omega
  | .str x, v => by
    refine ⟨.str x, rfl, rfl, by simp [PyData.depth, dpt], ?_, ?_⟩
    · simp only [PyData.leavesShort, List.all_eq_true, decide_eq_true_eq]
      exact v
    · have e : x.length = x.cps.size := rfl
      simp only [PyData.weight, wt]
      omega
  | .tup xs, v => by
    obtain ⟨ps, e, s, d, l, w⟩ := pys_vl hb xs v
    exact ⟨.tuple ps, by simp [pyE, e], by simpa only [PyData.showable] using s, by simp only [PyData.depth, dpt]; omega, by simpa only [PyData.leavesShort] using l, by simp only [PyData.weight, wt]; omega⟩
  | .lst xs, v => by
    obtain ⟨ps, e, s, d, l, w⟩ := pys_vl hb xs v
    exact ⟨.list ps, by simp [pyE, e], by simpa only [PyData.showable] using s, by simp only [PyData.depth, dpt]; omega, by simpa only [PyData.leavesShort] using l, by simp only [PyData.weight, wt]; omega⟩
  | .dic ks xs, v => by
    obtain ⟨rfl, rfl⟩ := v
    exact ⟨.dict [], rfl, rfl, by simp [PyData.depth, PyData.depthKv, dpt], rfl, by simp [PyData.weight, PyData.weightKv, wt]⟩
  | .ref _, v => v.elim
  | .scr _, v => v.elim
theorem pys_vl {b : Nat} (hb : b ≤ 100) : ∀ xs : List D, vls b xs → ∃ ps, Pys b xs ps
  | [], _ => ⟨[], rfl, rfl, by simp [PyData.depthAll], rfl, by simp [PyData.weightAll]⟩
  | x :: xs, v => by
    obtain ⟨p, e1, s1, d1, l1, w1⟩ := py_vl hb x v.1
    obtain ⟨ps, e2, s2, d2, l2, w2⟩ := pys_vl hb xs v.2
    refine ⟨p :: ps, by simp [pyEs, e1, e2], by simp [PyData.showableAll, s1, s2], ?_, by simp [PyData.leavesShortAll, l1, l2], ?_⟩
    · simp only [PyData.depthAll, dpts]
      omega
    · simp only [PyData.weightAll, wts]
      omega
end
theorem rp_vl {b : Nat} {d : D} (hb : b ≤ 100) (v : vl b d) (hd : dpt d ≤ 60) (hw : wt d ≤ 1500) : ∃ z, gRp [d] = some (.str z) := by
  obtain ⟨p, e, s, d1, l, w⟩ := py_vl hb d v
  have := PyData.shown_le 102 (by decide) p l
  exact ⟨_, gRp_of e s (by omega) rfl (by omega)⟩
end KX
namespace KX
open PySem PySem.Spec PyProof.Rows L2 DL
def top (i : Nat) : Stmt := PySem.Challenge.pw_blindpour_k33_comparisons_have_the_docum.main.body.getD i (.Pass ⟨0, 0, 0, 0⟩)
abbrev s_is_name : Stmt := (top 6)
abbrev s_check_names : Stmt := (top 9)
abbrev s_without_common : Stmt := (top 10)
abbrev s_emptied : Stmt := (top 11)
abbrev s_next_source : Stmt := (top 13)
abbrev s_next_target : Stmt := (top 12)
abbrev s_both_next : Stmt := (top 14)
abbrev s_pour_into : Stmt := (top 15)
abbrev s_comparison : Stmt := (top 16)
abbrev s__law_begun : Stmt := (top 18)
abbrev s__law_take : Stmt := (top 19)
abbrev s__law_pick : Stmt := (top 20)
abbrev s__law_names : Stmt := (top 21)
abbrev s__law_lists : Stmt := (top 22)
abbrev s__law_is_name : Stmt := (top 23)
abbrev s__law_is_strategy : Stmt := (top 24)
abbrev s__law_left : Stmt := (top 25)
abbrev s__law_pours : Stmt := (top 26)
abbrev s__law_is_brief : Stmt := (top 27)
abbrev s__law_used : Stmt := (top 28)
abbrev s__law_raised : Stmt := (top 29)
abbrev s__law_bad : Stmt := (top 30)
abbrev s_law : Stmt := (top 31)
structure Gm (K : PySem.W.Frag) (mg : Str → Option Value) : Prop where
  LETTERS : Glb K mg "LETTERS" (.str "abcdefghijklmnopqrstuvwxyz")
  LONGEST_NAME : Glb K mg "LONGEST_NAME" (.int 6)
  MOST_NAMES : Glb K mg "MOST_NAMES" (.int 5)
  all : mg "all" = none
  enumerate : mg "enumerate" = none
  int : mg "int" = none
  isinstance : mg "isinstance" = none
  len : mg "len" = none
  list : mg "list" = none
  max : mg "max" = none
  min : mg "min" = none
  range : mg "range" = none
  repr : mg "repr" = none
  str : mg "str" = none
  tuple : mg "tuple" = none
section
variable {P : Program} {w : World} {K : PySem.W.Frag} {mg : Str → Option Value} {base : Heap} {ct : CT}
noncomputable def c_is_name : CS := seqS (ifS (bOr (bNot (bTru (hd (eIsi .str (hd (eVar 0)))))) (bNot (bChain gLe gLe (hd (eC (.int 1))) (hd (eCall gLen (ahCons (hd (eVar 0)) (ahNil)))) (hd (eC (.int 6)))))) (retS (eC (.bl false))) (nilS)) <| retS (eCall gAll (ahCons (hd (frz (nComp (iSeqK (eVar 0)) (.name 1) [1] (tYesD) (eOp gIn (hd (eVar 1)) (hd (eC (.str "abcdefghijklmnopqrstuvwxyz"))))))) (ahNil)))
noncomputable def f_is_name : CF := mkF 1 2 c_is_name
set_option maxHeartbeats 4000000 in
theorem ok_is_name {f : Addr} {fd : FuncData} (F : Fun K "is_name" "is_name" s_is_name f fd) (G : Gm K mg) (hK : KNice K) : FnG P w K mg base (L2.CX P w) 1 f fd ["value"] (SpD K ct f_is_name) :=
  fn_g (N := ["value", "letter"]) F ⟨rfl, rfl, rfl, by decide +kernel, rfl, by decide +kernel, by decide +kernel⟩ fun cdv A outer s H E b W hgd C => (psd_cons (psd_if (ptd_w (pwd_or (ptd_not (pt_tru (phd (pd_isi (T := .str) G.isinstance G.str (by rfl) (phd (pd_var (i := 0))))))) (pwd_or1 (ptd_not (ptd_chain ov_le ov_le (phd pd_int) (phd (pd_callB cv_len G.len (by rfl) (pah_cons (phd (pd_var (i := 0))) pah_nil))) (phd (pd_glob G.LONGEST_NAME))))))) (psd_one (psd_ret pd_bl)) psd_nil) (psd_one (psd_ret (pd_callB (cv_all C.hc) G.all (by rfl) (pah_cons (phd (pd_frz (pn_comp (own := [("letter", 1)]) C.hc C.hN (pid_seqK (pd_var (i := 0))) (fun _ _ _ _ _ => (pgd_name (i := 1) C.hN)) (fun _ _ _ _ _ => ptsd_nil) (fun _ _ _ _ _ => (pd_cmp (ov_in C.hu) (phd (pd_var (i := 1))) (phd (pd_glob G.LETTERS))))))) pah_nil)))))
noncomputable def c_check_names : CS := forS (iSeqK (eTup (aCons (eVar 0) (aCons (eVar 1) (aNil))))) (.name 2) (seqS (ifS (bNot (bTru (hd (eIsi2 .list .tuple (hd (eVar 2)))))) (raiseS "InvalidName" "name" (aCons (eC .non) (aNil))) (nilS)) <| forS (iEnumD (aCons (eVar 2) (aNil))) (.tup [.name 3, .name 4]) (ifS (bOr (bT gGe (hd (eVar 3)) (hd (eC (.int 5)))) (bNot (bTru (hd (eFn f_is_name (aCons (eVar 4) (aNil))))))) (raiseS "InvalidName" "name" (aCons (eVar 4) (aNil))) (nilS)))
noncomputable def f_check_names : CF := mkF 2 5 c_check_names
set_option maxHeartbeats 4000000 in
theorem ok_check_names {f : Addr} {fd : FuncData} (F : Fun K "check_names" "check_names" s_check_names f fd) (G : Gm K mg) (hK : KNice K) (h_is_name : CalleeG P w K mg base ct "is_name" 1 f_is_name) (x_InvalidName : ExcC P w K mg base ct "InvalidName" "name") : FnG P w K mg base (L2.CX P w) 3 f fd ["one", "other"] (SpD K ct f_check_names) :=
  fn_g (N := ["one", "other", "value", "index", "name"]) F ⟨rfl, rfl, rfl, by decide +kernel, rfl, by decide +kernel, by decide +kernel⟩ fun cdv A outer s H E b W hgd C => (psd_one (psd_for C.hp C.hc (pid_seqK (pd_tup (pad_cons (pd_var (i := 0)) (pad_cons (pd_var (i := 1)) pad_nil)))) (pgd_name (i := 2) C.hN) (psd_cons (psd_if (ptd_not (pt_tru (phd (pd_isi2 (T := .list) (U := .tuple) G.isinstance G.list (by rfl) G.tuple (by rfl) (phd (pd_var (i := 2))))))) (psd_one (psd_raise C.hc C.tk x_InvalidName (C.hr.mono (by decide)) (pad_cons pd_non pad_nil))) psd_nil) (psd_one (psd_for C.hp C.hc (piw_enum G.enumerate (pad_cons (pd_var (i := 2)) pad_nil)) (pgw_tup C.hc (pgsd_cons (pgd_name (i := 3) C.hN) (pgsd_cons (pgd_name (i := 4) C.hN) pgsd_nil))) (psd_one (psd_if (ptd_w (pwd_or (pt_cmpV ov_ge (phd (pd_var (i := 3))) (phd (pd_glob G.MOST_NAMES))) (pwd_or1 (ptd_not (pt_tru (phd (pd_callG h_is_name hgd (C.hr.mono (by decide)) C.tk (pad_cons (pd_var (i := 4)) pad_nil)))))))) (psd_one (psd_raise C.hc C.tk x_InvalidName (C.hr.mono (by decide)) (pad_cons (pd_var (i := 4)) pad_nil))) psd_nil)))))))
noncomputable def c_without_common : CS := seqS (parO 2 3 (nCall gList (ahCons (hd (eVar 1)) (ahNil))) (nLst (aNil))) <| seqS (forS (iSeqK (eVar 0)) (.name 4) (ifS (bT gIn (hd (eVar 4)) (hOwn 2)) (mutS 2 (mutO "list" mRemove 2 (aCons (eVar 4) (aNil)))) (mutS 3 (mutO "list" mAppend 3 (aCons (eVar 4) (aNil)))))) <| frzS 2 (frzS 3 (retS (eTup (aCons (eVar 3) (aCons (eVar 2) (aNil))))))
noncomputable def f_without_common : CF := mkF 2 5 c_without_common
set_option maxHeartbeats 4000000 in
theorem ok_without_common {f : Addr} {fd : FuncData} (F : Fun K "without_common" "without_common" s_without_common f fd) (G : Gm K mg) (hK : KNice K) : FnG P w K mg base (L2.CX P w) 1 f fd ["one", "other"] (SpD K ct f_without_common) :=
  fn_g (N := ["one", "other", "rest", "left", "name"]) F ⟨rfl, rfl, rfl, by decide +kernel, rfl, by decide +kernel, by decide +kernel⟩ fun cdv A outer s H E b W hgd C => (psd_cons (psd_parO (i := 2) (j := 3) C.hb C.hc C.hN (pn_callT (cn_list C.hc) G.list (by rfl) (pah_cons (phd (pd_var (i := 1))) pah_nil)) (pn_lst pad_nil) (by decide)) (psd_cons (psd_for C.hp C.hc (pid_seqK (pd_var (i := 0))) (pgd_name (i := 4) C.hN) (psd_one (psd_if (pt_cmpV (ov_in C.hu) (phd (pd_var (i := 4))) (ph_own (i := 2))) (psd_one (psd_mut (pm_bm met_remove PySem.F.plainAttrs_list PySem.F.slot_list_remove PySem.F.type_list_remove (ph_own (i := 2)) (pad_cons (pd_var (i := 4)) pad_nil)))) (psd_one (psd_mut (pm_bm met_append PySem.F.plainAttrs_list PySem.F.slot_list_append PySem.F.type_list_append (ph_own (i := 3)) (pad_cons (pd_var (i := 4)) pad_nil))))))) (psd_frz (i := 2) (psd_frz (i := 3) (psd_one (psd_ret (pd_tup (pad_cons (pd_var (i := 3)) (pad_cons (pd_var (i := 2)) pad_nil)))))))))
noncomputable def c_emptied : CS := retS (eIf (bT gIn (hd (eVar 0)) (hd (eVar 1))) (eTup (aCons (eC (.str "do")) (aCons (eTup (aCons (eC (.str "empty")) (aCons (eVar 0) (aNil)))) (aCons (eVar 2) (aNil))))) (eVar 2))
noncomputable def f_emptied : CF := mkF 3 3 c_emptied
set_option maxHeartbeats 4000000 in
theorem ok_emptied {f : Addr} {fd : FuncData} (F : Fun K "emptied" "emptied" s_emptied f fd) (G : Gm K mg) (hK : KNice K) : FnG P w K mg base (L2.CX P w) 1 f fd ["name", "used", "strategy"] (SpD K ct f_emptied) :=
  fn_g (N := ["name", "used", "strategy"]) F ⟨rfl, rfl, rfl, by decide +kernel, rfl, by decide +kernel, by decide +kernel⟩ fun cdv A outer s H E b W hgd C => (psd_one (psd_ret (pd_if (pt_cmpV (ov_in C.hu) (phd (pd_var (i := 0))) (phd (pd_var (i := 1)))) (pd_tup (pad_cons pd_str (pad_cons (pd_tup (pad_cons pd_str (pad_cons (pd_var (i := 0)) pad_nil))) (pad_cons (pd_var (i := 2)) pad_nil)))) (pd_var (i := 2)))))
noncomputable def c_next_source (g_pour_into : CF) : CS := seqS (ifS (bT gEq (hd (eVar 1)) (hd (frz (nLst (aNil))))) (retS (eTup (aCons (eC (.str "result")) (aCons (eC (.str "negative")) (aNil))))) (nilS)) <| retS (eTup (aCons (eC (.str "do")) (aCons (eTup (aCons (eC (.str "fill")) (aCons (eOp gIx (hd (eVar 1)) (hd (eC (.int 0)))) (aNil)))) (aCons (eFn g_pour_into (aCons (eOp gIx (hd (eVar 1)) (hd (eC (.int 0)))) (aCons (eVar 0) (aCons (eSlG (hd (eVar 1)) (some (eC (.int 1))) none) (aCons (eVar 2) (aCons (eVar 3) (aNil))))))) (aNil)))))
noncomputable def k_next_source (g : CF) : CF := mkF 4 4 (c_next_source g)
set_option maxHeartbeats 4000000 in
theorem ok_next_source {lv : Nat} {l_pour_into : Nat} {g_pour_into : CF} {f : Addr} {fd : FuncData} (F : Fun K "next_source" "next_source" s_next_source f fd) (G : Gm K mg) (hK : KNice K) (hl : 1 ≤ lv) (h_pour_into : CalleeG P w K mg base ct "pour_into" l_pour_into g_pour_into) (e_pour_into : l_pour_into ≤ lv) : FnG P w K mg base (L2.CX P w) (lv + 1) f fd ["target", "sources", "targets", "used"] (SpD K ct (mkF 4 4 (c_next_source g_pour_into))) :=
  fn_g (N := ["target", "sources", "targets", "used"]) F ⟨rfl, rfl, rfl, by decide +kernel, rfl, by decide +kernel, by decide +kernel⟩ fun cdv A outer s H E b W hgd C => (psd_cons (psd_if (pt_cmpV (ov_eq C.hu) (phd (pd_var (i := 1))) (phd (pd_frz (pn_lst pad_nil)))) (psd_one (psd_ret (pd_tup (pad_cons pd_str (pad_cons pd_str pad_nil))))) psd_nil) (psd_one (psd_ret (pd_tup (pad_cons pd_str (pad_cons (pd_tup (pad_cons pd_str (pad_cons (pd_ix (iv_ix C.hu) (phd (pd_var (i := 1))) (phd pd_int)) pad_nil))) (pad_cons (pd_callG h_pour_into hgd (C.hr.mono e_pour_into) C.tk (pad_cons (pd_ix (iv_ix C.hu) (phd (pd_var (i := 1))) (phd pd_int)) (pad_cons (pd_var (i := 0)) (pad_cons (pd_slG (phd (pd_var (i := 1))) (pod_some pd_int) pod_none) (pad_cons (pd_var (i := 2)) (pad_cons (pd_var (i := 3)) pad_nil)))))) pad_nil)))))))
noncomputable def c_next_target (g_pour_into : CF) : CS := seqS (ifS (bT gEq (hd (eVar 2)) (hd (frz (nLst (aNil))))) (retS (eTup (aCons (eC (.str "result")) (aCons (eC (.str "positive")) (aNil))))) (nilS)) <| seqS (asgS 4 (eOp gIx (hd (eVar 2)) (hd (eC (.int 0))))) <| retS (eFn f_emptied (aCons (eVar 4) (aCons (eVar 3) (aCons (eFn g_pour_into (aCons (eVar 0) (aCons (eVar 4) (aCons (eVar 1) (aCons (eSlG (hd (eVar 2)) (some (eC (.int 1))) none) (aCons (eOp gAdd (hd (eVar 3)) (hd (frz (nLst (aCons (eVar 4) (aNil)))))) (aNil))))))) (aNil)))))
noncomputable def k_next_target (g : CF) : CF := mkF 4 5 (c_next_target g)
set_option maxHeartbeats 4000000 in
theorem ok_next_target {lv : Nat} {l_pour_into : Nat} {g_pour_into : CF} {f : Addr} {fd : FuncData} (F : Fun K "next_target" "next_target" s_next_target f fd) (G : Gm K mg) (hK : KNice K) (h_emptied : CalleeG P w K mg base ct "emptied" 1 f_emptied) (hl : 1 ≤ lv) (h_pour_into : CalleeG P w K mg base ct "pour_into" l_pour_into g_pour_into) (e_pour_into : l_pour_into ≤ lv) : FnG P w K mg base (L2.CX P w) (lv + 1) f fd ["source", "sources", "targets", "used"] (SpD K ct (mkF 4 5 (c_next_target g_pour_into))) :=
  fn_g (N := ["source", "sources", "targets", "used", "target"]) F ⟨rfl, rfl, rfl, by decide +kernel, rfl, by decide +kernel, by decide +kernel⟩ fun cdv A outer s H E b W hgd C => (psd_cons (psd_if (pt_cmpV (ov_eq C.hu) (phd (pd_var (i := 2))) (phd (pd_frz (pn_lst pad_nil)))) (psd_one (psd_ret (pd_tup (pad_cons pd_str (pad_cons pd_str pad_nil))))) psd_nil) (psd_cons (psd_asg (i := 4) C.hN (pd_ix (iv_ix C.hu) (phd (pd_var (i := 2))) (phd pd_int))) (psd_one (psd_ret (pd_callG h_emptied hgd (C.hr.mono (Nat.le_trans (by decide) hl)) C.tk (pad_cons (pd_var (i := 4)) (pad_cons (pd_var (i := 3)) (pad_cons (pd_callG h_pour_into hgd (C.hr.mono e_pour_into) C.tk (pad_cons (pd_var (i := 0)) (pad_cons (pd_var (i := 4)) (pad_cons (pd_var (i := 1)) (pad_cons (pd_slG (phd (pd_var (i := 2))) (pod_some pd_int) pod_none) (pad_cons (pd_op ov_add (phd (pd_var (i := 3))) (phd (pd_frz (pn_lst (pad_cons (pd_var (i := 4)) pad_nil))))) pad_nil)))))) pad_nil))))))))
noncomputable def c_both_next (g_next_target : CF) : CS := seqS (ifS (bAnd (bT gEq (hd (eVar 0)) (hd (frz (nLst (aNil))))) (bT gEq (hd (eVar 1)) (hd (frz (nLst (aNil)))))) (retS (eTup (aCons (eC (.str "result")) (aCons (eC (.str "zero")) (aNil))))) (nilS)) <| seqS (ifS (bT gEq (hd (eVar 0)) (hd (frz (nLst (aNil))))) (retS (eTup (aCons (eC (.str "result")) (aCons (eC (.str "negative")) (aNil))))) (nilS)) <| seqS (ifS (bT gEq (hd (eVar 1)) (hd (frz (nLst (aNil))))) (retS (eTup (aCons (eC (.str "result")) (aCons (eC (.str "positive")) (aNil))))) (nilS)) <| retS (eTup (aCons (eC (.str "do")) (aCons (eTup (aCons (eC (.str "fill")) (aCons (eOp gIx (hd (eVar 0)) (hd (eC (.int 0)))) (aNil)))) (aCons (eFn g_next_target (aCons (eOp gIx (hd (eVar 0)) (hd (eC (.int 0)))) (aCons (eSlG (hd (eVar 0)) (some (eC (.int 1))) none) (aCons (eVar 1) (aCons (eVar 2) (aNil)))))) (aNil)))))
noncomputable def k_both_next (g : CF) : CF := mkF 3 3 (c_both_next (k_next_target g))
set_option maxHeartbeats 4000000 in
theorem ok_both_next {lv : Nat} {l_next_target : Nat} {g_next_target : CF} {f : Addr} {fd : FuncData} (F : Fun K "both_next" "both_next" s_both_next f fd) (G : Gm K mg) (hK : KNice K) (hl : 1 ≤ lv) (h_next_target : CalleeG P w K mg base ct "next_target" l_next_target g_next_target) (e_next_target : l_next_target ≤ lv) : FnG P w K mg base (L2.CX P w) (lv + 1) f fd ["sources", "targets", "used"] (SpD K ct (mkF 3 3 (c_both_next g_next_target))) :=
  fn_g (N := ["sources", "targets", "used"]) F ⟨rfl, rfl, rfl, by decide +kernel, rfl, by decide +kernel, by decide +kernel⟩ fun cdv A outer s H E b W hgd C => (psd_cons (psd_if (ptd_w (pwd_and (pt_cmpV (ov_eq C.hu) (phd (pd_var (i := 0))) (phd (pd_frz (pn_lst pad_nil)))) (pwd_and1 (pt_cmpV (ov_eq C.hu) (phd (pd_var (i := 1))) (phd (pd_frz (pn_lst pad_nil))))))) (psd_one (psd_ret (pd_tup (pad_cons pd_str (pad_cons pd_str pad_nil))))) psd_nil) (psd_cons (psd_if (pt_cmpV (ov_eq C.hu) (phd (pd_var (i := 0))) (phd (pd_frz (pn_lst pad_nil)))) (psd_one (psd_ret (pd_tup (pad_cons pd_str (pad_cons pd_str pad_nil))))) psd_nil) (psd_cons (psd_if (pt_cmpV (ov_eq C.hu) (phd (pd_var (i := 1))) (phd (pd_frz (pn_lst pad_nil)))) (psd_one (psd_ret (pd_tup (pad_cons pd_str (pad_cons pd_str pad_nil))))) psd_nil) (psd_one (psd_ret (pd_tup (pad_cons pd_str (pad_cons (pd_tup (pad_cons pd_str (pad_cons (pd_ix (iv_ix C.hu) (phd (pd_var (i := 0))) (phd pd_int)) pad_nil))) (pad_cons (pd_callG h_next_target hgd (C.hr.mono e_next_target) C.tk (pad_cons (pd_ix (iv_ix C.hu) (phd (pd_var (i := 0))) (phd pd_int)) (pad_cons (pd_slG (phd (pd_var (i := 0))) (pod_some pd_int) pod_none) (pad_cons (pd_var (i := 1)) (pad_cons (pd_var (i := 2)) pad_nil))))) pad_nil)))))))))
noncomputable def c_pour_into (g_next_source : CF) (g_next_target : CF) (g_both_next : CF) : CS := seqS (asgS 5 (eFn g_next_source (aCons (eVar 1) (aCons (eVar 2) (aCons (eVar 3) (aCons (eVar 4) (aNil))))))) <| seqS (asgS 6 (eFn g_next_target (aCons (eVar 0) (aCons (eVar 2) (aCons (eVar 3) (aCons (eVar 4) (aNil))))))) <| retS (eTup (aCons (eC (.str "pour")) (aCons (eVar 0) (aCons (eVar 1) (aCons (eVar 5) (aCons (eVar 6) (aCons (eFn g_both_next (aCons (eVar 2) (aCons (eVar 3) (aCons (eVar 4) (aNil))))) (aNil))))))))
noncomputable def f_pour_into : Nat → CF
  | 0 => fErr
  | n + 1 => mkF 5 7 (c_pour_into (k_next_source (f_pour_into n)) (k_next_target (f_pour_into n)) (k_both_next (f_pour_into n)))
noncomputable def f_next_source (n : Nat) : CF := k_next_source (f_pour_into n)
noncomputable def f_next_target (n : Nat) : CF := k_next_target (f_pour_into n)
noncomputable def f_both_next (n : Nat) : CF := k_both_next (f_pour_into n)
set_option maxHeartbeats 4000000 in
theorem ok_pour_into {lv : Nat} {l_next_source : Nat} {g_next_source : CF} {l_next_target : Nat} {g_next_target : CF} {l_both_next : Nat} {g_both_next : CF} {f : Addr} {fd : FuncData} (F : Fun K "pour_into" "pour_into" s_pour_into f fd) (G : Gm K mg) (hK : KNice K) (hl : 1 ≤ lv) (h_next_source : CalleeG P w K mg base ct "next_source" l_next_source g_next_source) (e_next_source : l_next_source ≤ lv) (h_next_target : CalleeG P w K mg base ct "next_target" l_next_target g_next_target) (e_next_target : l_next_target ≤ lv) (h_both_next : CalleeG P w K mg base ct "both_next" l_both_next g_both_next) (e_both_next : l_both_next ≤ lv) : FnG P w K mg base (L2.CX P w) (lv + 1) f fd ["source", "target", "sources", "targets", "used"] (SpD K ct (mkF 5 7 (c_pour_into g_next_source g_next_target g_both_next))) :=
  fn_g (N := ["source", "target", "sources", "targets", "used", "drained", "filled"]) F ⟨rfl, rfl, rfl, by decide +kernel, rfl, by decide +kernel, by decide +kernel⟩ fun cdv A outer s H E b W hgd C => (psd_cons (psd_asg (i := 5) C.hN (pd_callG h_next_source hgd (C.hr.mono e_next_source) C.tk (pad_cons (pd_var (i := 1)) (pad_cons (pd_var (i := 2)) (pad_cons (pd_var (i := 3)) (pad_cons (pd_var (i := 4)) pad_nil)))))) (psd_cons (psd_asg (i := 6) C.hN (pd_callG h_next_target hgd (C.hr.mono e_next_target) C.tk (pad_cons (pd_var (i := 0)) (pad_cons (pd_var (i := 2)) (pad_cons (pd_var (i := 3)) (pad_cons (pd_var (i := 4)) pad_nil)))))) (psd_one (psd_ret (pd_tup (pad_cons pd_str (pad_cons (pd_var (i := 0)) (pad_cons (pd_var (i := 1)) (pad_cons (pd_var (i := 5)) (pad_cons (pd_var (i := 6)) (pad_cons (pd_callG h_both_next hgd (C.hr.mono e_both_next) C.tk (pad_cons (pd_var (i := 2)) (pad_cons (pd_var (i := 3)) (pad_cons (pd_var (i := 4)) pad_nil)))) pad_nil)))))))))))
theorem cyc_pour_into {a_next_source : Addr} {d_next_source : FuncData} {a_next_target : Addr} {d_next_target : FuncData} {a_both_next : Addr} {d_both_next : FuncData} {a_pour_into : Addr} {d_pour_into : FuncData} (F_next_source : Fun K "next_source" "next_source" s_next_source a_next_source d_next_source) (F_next_target : Fun K "next_target" "next_target" s_next_target a_next_target d_next_target) (F_both_next : Fun K "both_next" "both_next" s_both_next a_both_next d_both_next) (F_pour_into : Fun K "pour_into" "pour_into" s_pour_into a_pour_into d_pour_into) (hm_next_source : mg "next_source" = some (.ref a_next_source)) (hb_next_source : Binds K d_next_source ["target", "sources", "targets", "used"] []) (hm_next_target : mg "next_target" = some (.ref a_next_target)) (hb_next_target : Binds K d_next_target ["source", "sources", "targets", "used"] []) (hm_both_next : mg "both_next" = some (.ref a_both_next)) (hb_both_next : Binds K d_both_next ["sources", "targets", "used"] []) (hm_pour_into : mg "pour_into" = some (.ref a_pour_into)) (hb_pour_into : Binds K d_pour_into ["source", "target", "sources", "targets", "used"] []) (G : Gm K mg) (hK : KNice K) (h_emptied : CalleeG P w K mg base ct "emptied" 1 f_emptied) : ∀ n : Nat, FnG P w K mg base (L2.CX P w) (1 + 4 * n) a_pour_into d_pour_into ["source", "target", "sources", "targets", "used"] (SpD K ct (f_pour_into n))
  | 0 => fnG_err
  | n + 1 => have h_pour_into : CalleeG P w K mg base ct "pour_into" (1 + 4 * n) (f_pour_into n) := ⟨⟨_, _, _, cyc_pour_into F_next_source F_next_target F_both_next F_pour_into hm_next_source hb_next_source hm_next_target hb_next_target hm_both_next hb_both_next hm_pour_into hb_pour_into G hK h_emptied n, hm_pour_into, F_pour_into.kp, hb_pour_into⟩⟩
    have h_next_source : CalleeG P w K mg base ct "next_source" (1 + 4 * n + 0 + 1) (k_next_source (f_pour_into n)) := ⟨⟨_, _, _, ok_next_source (lv := 1 + 4 * n + 0) F_next_source G hK  (by omega) h_pour_into (by omega), hm_next_source, F_next_source.kp, hb_next_source⟩⟩
    have h_next_target : CalleeG P w K mg base ct "next_target" (1 + 4 * n + 1 + 1) (k_next_target (f_pour_into n)) := ⟨⟨_, _, _, ok_next_target (lv := 1 + 4 * n + 1) F_next_target G hK h_emptied (by omega) h_pour_into (by omega), hm_next_target, F_next_target.kp, hb_next_target⟩⟩
    have h_both_next : CalleeG P w K mg base ct "both_next" (1 + 4 * n + 2 + 1) (k_both_next (f_pour_into n)) := ⟨⟨_, _, _, ok_both_next (lv := 1 + 4 * n + 2) F_both_next G hK  (by omega) h_next_target (by omega), hm_both_next, F_both_next.kp, hb_both_next⟩⟩
    ok_pour_into (lv := 1 + 4 * n + 3) F_pour_into G hK  (by omega) h_next_source (by omega) h_next_target (by omega) h_both_next (by omega)
noncomputable def c_comparison : CS := seqS (dropS (eFn f_check_names (aCons (eVar 0) (aCons (eVar 1) (aNil))))) <| seqS (asgG (.tup [.name 2, .name 3]) (eFn f_without_common (aCons (eVar 0) (aCons (eVar 1) (aNil))))) <| retS (eFn (f_both_next 12) (aCons (eVar 2) (aCons (eVar 3) (aCons (frz (nLst (aNil))) (aNil)))))
noncomputable def f_comparison : CF := mkF 2 4 c_comparison
set_option maxHeartbeats 4000000 in
theorem ok_comparison {f : Addr} {fd : FuncData} (F : Fun K "comparison" "comparison" s_comparison f fd) (G : Gm K mg) (hK : KNice K) (h_both_next : CalleeG P w K mg base ct "both_next" 52 (f_both_next 12)) (h_check_names : CalleeG P w K mg base ct "check_names" 3 f_check_names) (h_without_common : CalleeG P w K mg base ct "without_common" 1 f_without_common) : FnG P w K mg base (L2.CX P w) 53 f fd ["one", "other"] (SpD K ct f_comparison) :=
  fn_g (N := ["one", "other", "sources", "targets"]) F ⟨rfl, rfl, rfl, by decide +kernel, rfl, by decide +kernel, by decide +kernel⟩ fun cdv A outer s H E b W hgd C => (psd_cons (psd_expr (pd_callG h_check_names hgd (C.hr.mono (by decide)) C.tk (pad_cons (pd_var (i := 0)) (pad_cons (pd_var (i := 1)) pad_nil)))) (psd_cons (psd_asgG (pd_callG h_without_common hgd (C.hr.mono (by decide)) C.tk (pad_cons (pd_var (i := 0)) (pad_cons (pd_var (i := 1)) pad_nil))) (pgd_tup C.hc (pgsd_cons (pgd_name (i := 2) C.hN) (pgsd_cons (pgd_name (i := 3) C.hN) pgsd_nil)))) (psd_one (psd_ret (pd_callG h_both_next hgd (C.hr.mono (by decide)) C.tk (pad_cons (pd_var (i := 2)) (pad_cons (pd_var (i := 3)) (pad_cons (pd_frz (pn_lst pad_nil)) pad_nil))))))))
noncomputable def c__law_begun : CS := retS (alc (nDisp [(eC (.str "large"), alc (nComp (iSeqK (eVar 0)) (.name 1) [1] (bT gGe (hd (eVar 1)) (hd (eOp gPow (hd (eC (.int 10))) (hd (eC (.int 18)))))) (eVar 1))), (eC (.str "rest"), eC (.int 0)), (eC (.str "turn"), eC (.int 0)), (eC (.str "seed"), eC (.int 7)), (eC (.str "cells"), eOp gAdd (hd (alc (nComp (iSeqK (eVar 0)) (.name 1) [1] (tYesD) (eOp gMod (hd (eVar 1)) (hd (eC (.int 2147483629))))))) (hd (frz (nLst (aCons (eC (.int 77)) (aNil))))))]))
noncomputable def f__law_begun : CF := mkF 1 2 c__law_begun
set_option maxHeartbeats 4000000 in
theorem ok__law_begun {f : Addr} {fd : FuncData} (F : Fun K "_law_begun" "_law_begun" s__law_begun f fd) (G : Gm K mg) (hK : KNice K) : FnG P w K mg base (L2.CX P w) 1 f fd ["_law_script"] (SpD K ct f__law_begun) :=
  fn_g (N := ["_law_script", "_law_cell"]) F ⟨rfl, rfl, rfl, by decide +kernel, rfl, by decide +kernel, by decide +kernel⟩ fun cdv A outer s H E b W hgd C => (psd_one (psd_ret (pd_alc (pn_disp (ppd_cons pd_str (pd_alc (pn_comp (own := [("_law_cell", 1)]) C.hc C.hN (pid_seqK (pd_var (i := 0))) (fun _ _ _ _ _ => (pgd_name (i := 1) C.hN)) (fun _ _ _ _ _ => (ptsd_one (pt_cmpV ov_ge (phd (pd_var (i := 1))) (phd (pd_op ov_pow (phd pd_int) (phd pd_int)))))) (fun _ _ _ _ _ => (pd_var (i := 1))))) (ppd_cons pd_str pd_int (ppd_cons pd_str pd_int (ppd_cons pd_str pd_int (ppd_cons pd_str (pd_op ov_add (phd (pd_alc (pn_comp (own := [("_law_cell", 1)]) C.hc C.hN (pid_seqK (pd_var (i := 0))) (fun _ _ _ _ _ => (pgd_name (i := 1) C.hN)) (fun _ _ _ _ _ => ptsd_nil) (fun _ _ _ _ _ => (pd_op ov_mod (phd (pd_var (i := 1))) (phd pd_int)))))) (phd (pd_frz (pn_lst (pad_cons pd_int pad_nil))))) ppd_nil)))))))))
noncomputable def c__law_take : CS := seqS (ifS (bAnd (bT gEq (hd (eOp gIx (hd (eVar 0)) (hd (eC (.str "rest"))))) (hd (eC (.int 0)))) (bT gNe (hd (eOp gIx (hd (eVar 0)) (hd (eC (.str "large"))))) (hd (frz (nLst (aNil)))))) (stR (eVar 0) (eC (.str "rest")) (eMut "list" mPopAt (eOp gIx (hd (eVar 0)) (hd (eC (.str "large")))) (aCons (eC (.int 0)) (aNil)))) (nilS)) <| seqS (ifS (bT gGt (hd (eOp gIx (hd (eVar 0)) (hd (eC (.str "rest"))))) (hd (eC (.int 0)))) (seqS (asgS 2 (eOp gMod (hd (eOp gIx (hd (eVar 0)) (hd (eC (.str "rest"))))) (hd (eVar 1)))) <| seqS (stR (eVar 0) (eC (.str "rest")) (eOp gDiv (hd (eOp gIx (hd (eVar 0)) (hd (eC (.str "rest"))))) (hd (eVar 1)))) <| retS (eVar 2)) (nilS)) <| seqS (asgS 3 (eOp gIx (hd (eVar 0)) (hd (eC (.str "turn"))))) <| seqS (stR (eVar 0) (eC (.str "turn")) (eOp gAdd (hd (eVar 3)) (hd (eC (.int 1))))) <| seqS (asgS 4 (eOp gIx (hd (eOp gIx (hd (eVar 0)) (hd (eC (.str "cells"))))) (hd (eOp gMod (hd (eVar 3)) (hd (eCall gLen (ahCons (hd (eOp gIx (hd (eVar 0)) (hd (eC (.str "cells"))))) (ahNil)))))))) <| seqS (asgS 5 (eOp gMod (hd (eOp gAdd (hd (eOp gAdd (hd (eOp gMul (hd (eOp gIx (hd (eVar 0)) (hd (eC (.str "seed"))))) (hd (eC (.int 48271))))) (hd (eOp gMul (hd (eVar 4)) (hd (eOp gAdd (hd (eOp gMul (hd (eC (.int 2))) (hd (eVar 3)))) (hd (eC (.int 3))))))))) (hd (eOp gPow (hd (eVar 3)) (hd (eC (.int 3))))))) (hd (eC (.int 2147483647))))) <| seqS (stR (eVar 0) (eC (.str "seed")) (eVar 5)) <| seqS (asgS 6 (eOp gAdd (hd (eOp gMul (hd (eOp gMod (hd (eOp gPow (hd (eVar 5)) (hd (eC (.int 2))))) (hd (eC (.int 2147483629))))) (hd (eC (.int 2147483587))))) (hd (eOp gMod (hd (eOp gPow (hd (eVar 5)) (hd (eC (.int 3))))) (hd (eC (.int 2147483579))))))) <| retS (eOp gMod (hd (eOp gDiv (hd (eVar 6)) (hd (eC (.int 7))))) (hd (eVar 1)))
noncomputable def f__law_take : CF := mkF 2 7 c__law_take
set_option maxHeartbeats 4000000 in
theorem ok__law_take {f : Addr} {fd : FuncData} (F : Fun K "_law_take" "_law_take" s__law_take f fd) (G : Gm K mg) (hK : KNice K) : FnG P w K mg base (L2.CX P w) 1 f fd ["_law_state", "_law_size"] (SpD K ct f__law_take) :=
  fn_g (N := ["_law_state", "_law_size", "_law_found", "_law_turn", "_law_cell", "_law_seed", "_law_mixed"]) F ⟨rfl, rfl, rfl, by decide +kernel, rfl, by decide +kernel, by decide +kernel⟩ fun cdv A outer s H E b W hgd C => (psd_cons (psd_if (ptd_w (pwd_and (pt_cmpV (ov_eq C.hu) (phd (pd_ix (iv_ix C.hu) (phd (pd_var (i := 0))) (phd pd_str))) (phd pd_int)) (pwd_and1 (pt_cmpV (ov_ne C.hu) (phd (pd_ix (iv_ix C.hu) (phd (pd_var (i := 0))) (phd pd_str))) (phd (pd_frz (pn_lst pad_nil))))))) (psd_one (psd_stR C.hu (pd_var (i := 0)) pd_str (pd_mut met_popAt PySem.F.plainAttrs_list PySem.F.slot_list_pop PySem.F.type_list_pop (pd_ix (iv_ix C.hu) (phd (pd_var (i := 0))) (phd pd_str)) (pad_cons pd_int pad_nil)))) psd_nil) (psd_cons (psd_if (pt_cmpV ov_gt (phd (pd_ix (iv_ix C.hu) (phd (pd_var (i := 0))) (phd pd_str))) (phd pd_int)) (psd_cons (psd_asg (i := 2) C.hN (pd_op ov_mod (phd (pd_ix (iv_ix C.hu) (phd (pd_var (i := 0))) (phd pd_str))) (phd (pd_var (i := 1))))) (psd_cons (psd_stR C.hu (pd_var (i := 0)) pd_str (pd_op ov_div (phd (pd_ix (iv_ix C.hu) (phd (pd_var (i := 0))) (phd pd_str))) (phd (pd_var (i := 1))))) (psd_one (psd_ret (pd_var (i := 2)))))) psd_nil) (psd_cons (psd_asg (i := 3) C.hN (pd_ix (iv_ix C.hu) (phd (pd_var (i := 0))) (phd pd_str))) (psd_cons (psd_stR C.hu (pd_var (i := 0)) pd_str (pd_op ov_add (phd (pd_var (i := 3))) (phd pd_int))) (psd_cons (psd_asg (i := 4) C.hN (pd_ix (iv_ix C.hu) (phd (pd_ix (iv_ix C.hu) (phd (pd_var (i := 0))) (phd pd_str))) (phd (pd_op ov_mod (phd (pd_var (i := 3))) (phd (pd_callB cv_len G.len (by rfl) (pah_cons (phd (pd_ix (iv_ix C.hu) (phd (pd_var (i := 0))) (phd pd_str))) pah_nil))))))) (psd_cons (psd_asg (i := 5) C.hN (pd_op ov_mod (phd (pd_op ov_add (phd (pd_op ov_add (phd (pd_op ov_mul (phd (pd_ix (iv_ix C.hu) (phd (pd_var (i := 0))) (phd pd_str))) (phd pd_int))) (phd (pd_op ov_mul (phd (pd_var (i := 4))) (phd (pd_op ov_add (phd (pd_op ov_mul (phd pd_int) (phd (pd_var (i := 3))))) (phd pd_int))))))) (phd (pd_op ov_pow (phd (pd_var (i := 3))) (phd pd_int))))) (phd pd_int))) (psd_cons (psd_stR C.hu (pd_var (i := 0)) pd_str (pd_var (i := 5))) (psd_cons (psd_asg (i := 6) C.hN (pd_op ov_add (phd (pd_op ov_mul (phd (pd_op ov_mod (phd (pd_op ov_pow (phd (pd_var (i := 5))) (phd pd_int))) (phd pd_int))) (phd pd_int))) (phd (pd_op ov_mod (phd (pd_op ov_pow (phd (pd_var (i := 5))) (phd pd_int))) (phd pd_int))))) (psd_one (psd_ret (pd_op ov_mod (phd (pd_op ov_div (phd (pd_var (i := 6))) (phd pd_int))) (phd (pd_var (i := 1))))))))))))))
noncomputable def c__law_pick : CS := retS (eOp gIx (hd (eVar 1)) (hd (eFn f__law_take (aCons (eVar 0) (aCons (eCall gLen (ahCons (hd (eVar 1)) (ahNil))) (aNil))))))
noncomputable def f__law_pick : CF := mkF 2 2 c__law_pick
set_option maxHeartbeats 4000000 in
theorem ok__law_pick {f : Addr} {fd : FuncData} (F : Fun K "_law_pick" "_law_pick" s__law_pick f fd) (G : Gm K mg) (hK : KNice K) (h__law_take : CalleeG P w K mg base ct "_law_take" 1 f__law_take) : FnG P w K mg base (L2.CX P w) 2 f fd ["_law_state", "_law_items"] (SpD K ct f__law_pick) :=
  fn_g (N := ["_law_state", "_law_items"]) F ⟨rfl, rfl, rfl, by decide +kernel, rfl, by decide +kernel, by decide +kernel⟩ fun cdv A outer s H E b W hgd C => (psd_one (psd_ret (pd_ix (iv_ix C.hu) (phd (pd_var (i := 1))) (phd (pd_callG h__law_take hgd (C.hr.mono (by decide)) C.tk (pad_cons (pd_var (i := 0)) (pad_cons (pd_callB cv_len G.len (by rfl) (pah_cons (phd (pd_var (i := 1))) pah_nil)) pad_nil)))))))
noncomputable def c__law_names : CS := seqS (asgG (.tup [.name 2, .name 3]) (eTup (aCons (eC (.str "abcdefghijklmnopqrstuvwxyz")) (aCons (alc (nLst (aNil))) (aNil))))) <| seqS (forS (iRange1 (aCons (eVar 1) (aNil))) (.name 4) (seqS (asgS 5 (eSM gJoin (eC (.str "")) (aCons (frz (nComp (iRange1 (aCons (eOp gAdd (hd (eC (.int 1))) (hd (eFn f__law_take (aCons (eVar 0) (aCons (eC (.int 6)) (aNil)))))) (aNil))) (.name 7) [7] (tYesD) (eFn f__law_pick (aCons (eVar 0) (aCons (eVar 2) (aNil)))))) (aNil)))) <| seqS (asgS 5 (eFn f__law_pick (aCons (eVar 0) (aCons (frz (nLst (aCons (eC (.str "fill")) (aCons (eC (.str "empty")) (aCons (eC (.str "pour")) (aCons (eC (.str "a")) (aCons (eC (.str "b")) (aCons (eVar 5) (aCons (eVar 5) (aCons (eVar 5) (aNil))))))))))) (aNil))))) <| seqS (asgS 6 (eOp gAdd (hd (frz (nLst (aCons (eVar 5) (aNil))))) (hd (frz (nComp (iSeqK (eVar 2)) (.name 8) [8] (tYesD) (eOp gAdd (hd (eSlS (eVar 5) none (some (eC (.int 5))))) (hd (eVar 8)))))))) <| dropS (eMut "list" mAppend (eVar 3) (aCons (eOp gIx (hd (frz (nComp (iSeqK (eVar 6)) (.name 9) [9] (bT gNotIn (hd (eVar 9)) (hd (eVar 3))) (eVar 9)))) (hd (eC (.int 0)))) (aNil))))) <| retS (eVar 3)
noncomputable def f__law_names : CF := mkF 2 10 c__law_names
set_option maxHeartbeats 4000000 in
theorem ok__law_names {f : Addr} {fd : FuncData} (F : Fun K "_law_names" "_law_names" s__law_names f fd) (G : Gm K mg) (hK : KNice K) (h__law_pick : CalleeG P w K mg base ct "_law_pick" 2 f__law_pick) (h__law_take : CalleeG P w K mg base ct "_law_take" 1 f__law_take) : FnG P w K mg base (L2.CX P w) 3 f fd ["_law_state", "_law_count"] (SpD K ct f__law_names) :=
  fn_g (N := ["_law_state", "_law_count", "_law_letters", "_law_found", "_law_turn", "_law_word", "_law_some", "_law_k", "_law_letter", "_law_name"]) F ⟨rfl, rfl, rfl, by decide +kernel, rfl, by decide +kernel, by decide +kernel⟩ fun cdv A outer s H E b W hgd C => (psd_cons (psd_asgG (pd_tup (pad_cons pd_str (pad_cons (pd_alc (pn_lst pad_nil)) pad_nil))) (pgd_tup C.hc (pgsd_cons (pgd_name (i := 2) C.hN) (pgsd_cons (pgd_name (i := 3) C.hN) pgsd_nil)))) (psd_cons (psd_for C.hp C.hc (pid_range1 G.range (pad_cons (pd_var (i := 1)) pad_nil)) (pgd_name (i := 4) C.hN) (psd_cons (psd_asg (i := 5) C.hN (pd_sm sm_join PySem.F.plainAttrs_str PySem.F.slot_str_join PySem.F.type_str_join pd_str (pad_cons (pd_frz (pn_comp (own := [("_law_k", 7)]) C.hc C.hN (pid_range1 G.range (pad_cons (pd_op ov_add (phd pd_int) (phd (pd_callG h__law_take hgd (C.hr.mono (by decide)) C.tk (pad_cons (pd_var (i := 0)) (pad_cons pd_int pad_nil))))) pad_nil)) (fun _ _ _ _ _ => (pgd_name (i := 7) C.hN)) (fun _ _ _ _ _ => ptsd_nil) (fun _ _ _ _ _ => (pd_callG h__law_pick hgd (C.hr.mono (by decide)) takesW0 (pad_cons (pd_var (i := 0)) (pad_cons (pd_var (i := 2)) pad_nil)))))) pad_nil))) (psd_cons (psd_asg (i := 5) C.hN (pd_callG h__law_pick hgd (C.hr.mono (by decide)) C.tk (pad_cons (pd_var (i := 0)) (pad_cons (pd_frz (pn_lst (pad_cons pd_str (pad_cons pd_str (pad_cons pd_str (pad_cons pd_str (pad_cons pd_str (pad_cons (pd_var (i := 5)) (pad_cons (pd_var (i := 5)) (pad_cons (pd_var (i := 5)) pad_nil)))))))))) pad_nil)))) (psd_cons (psd_asg (i := 6) C.hN (pd_op ov_add (phd (pd_frz (pn_lst (pad_cons (pd_var (i := 5)) pad_nil)))) (phd (pd_frz (pn_comp (own := [("_law_letter", 8)]) C.hc C.hN (pid_seqK (pd_var (i := 2))) (fun _ _ _ _ _ => (pgd_name (i := 8) C.hN)) (fun _ _ _ _ _ => ptsd_nil) (fun _ _ _ _ _ => (pd_op ov_add (phd (pd_slS (pd_var (i := 5)) pod_none (pod_some pd_int))) (phd (pd_var (i := 8)))))))))) (psd_one (psd_expr (pd_mut met_append PySem.F.plainAttrs_list PySem.F.slot_list_append PySem.F.type_list_append (pd_var (i := 3)) (pad_cons (pd_ix (iv_ix C.hu) (phd (pd_frz (pn_comp (own := [("_law_name", 9)]) C.hc C.hN (pid_seqK (pd_var (i := 6))) (fun _ _ _ _ _ => (pgd_name (i := 9) C.hN)) (fun _ _ _ _ _ => (ptsd_one (pt_cmpV (ov_notin C.hu) (phd (pd_var (i := 9))) (phd (pd_var (i := 3)))))) (fun _ _ _ _ _ => (pd_var (i := 9)))))) (phd pd_int)) pad_nil)))))))) (psd_one (psd_ret (pd_var (i := 3))))))
noncomputable def c__law_lists : CS := seqS (asgS 3 (frz (nComp (iRange1 (aCons (eFn f__law_take (aCons (eVar 0) (aCons (eOp gAdd (hd (eVar 2)) (hd (eC (.int 1)))) (aNil)))) (aNil))) (.name 4) [4] (tYesD) (eFn f__law_pick (aCons (eVar 0) (aCons (eVar 1) (aNil))))))) <| retS (eTup (aCons (eVar 3) (aCons (frz (nComp (iRange1 (aCons (eFn f__law_take (aCons (eVar 0) (aCons (eOp gAdd (hd (eVar 2)) (hd (eC (.int 1)))) (aNil)))) (aNil))) (.name 4) [4] (tYesD) (eFn f__law_pick (aCons (eVar 0) (aCons (eVar 1) (aNil)))))) (aNil))))
noncomputable def f__law_lists : CF := mkF 3 5 c__law_lists
set_option maxHeartbeats 4000000 in
theorem ok__law_lists {f : Addr} {fd : FuncData} (F : Fun K "_law_lists" "_law_lists" s__law_lists f fd) (G : Gm K mg) (hK : KNice K) (h__law_pick : CalleeG P w K mg base ct "_law_pick" 2 f__law_pick) (h__law_take : CalleeG P w K mg base ct "_law_take" 1 f__law_take) : FnG P w K mg base (L2.CX P w) 3 f fd ["_law_state", "_law_names_here", "_law_most"] (SpD K ct f__law_lists) :=
  fn_g (N := ["_law_state", "_law_names_here", "_law_most", "_law_first", "_law_k"]) F ⟨rfl, rfl, rfl, by decide +kernel, rfl, by decide +kernel, by decide +kernel⟩ fun cdv A outer s H E b W hgd C => (psd_cons (psd_setComp (i := 3) (own := [("_law_k", 4)]) C.hc C.hN (pid_range1 G.range (pad_cons (pd_callG h__law_take hgd (C.hr.mono (by decide)) C.tk (pad_cons (pd_var (i := 0)) (pad_cons (pd_op ov_add (phd (pd_var (i := 2))) (phd pd_int)) pad_nil))) pad_nil)) (fun _ _ _ _ _ => (pgd_name (i := 4) C.hN)) (fun _ _ _ _ _ => ptsd_nil) (fun _ _ _ _ _ => (pd_callG h__law_pick hgd (C.hr.mono (by decide)) takesW0 (pad_cons (pd_var (i := 0)) (pad_cons (pd_var (i := 1)) pad_nil))))) (psd_one (psd_ret (pd_tup (pad_cons (pd_var (i := 3)) (pad_cons (pd_frz (pn_comp (own := [("_law_k", 4)]) C.hc C.hN (pid_range1 G.range (pad_cons (pd_callG h__law_take hgd (C.hr.mono (by decide)) C.tk (pad_cons (pd_var (i := 0)) (pad_cons (pd_op ov_add (phd (pd_var (i := 2))) (phd pd_int)) pad_nil))) pad_nil)) (fun _ _ _ _ _ => (pgd_name (i := 4) C.hN)) (fun _ _ _ _ _ => ptsd_nil) (fun _ _ _ _ _ => (pd_callG h__law_pick hgd (C.hr.mono (by decide)) takesW0 (pad_cons (pd_var (i := 0)) (pad_cons (pd_var (i := 1)) pad_nil)))))) pad_nil))))))
noncomputable def c__law_is_name : CS := seqS (ifS (bOr (bNot (bTru (hd (eIsi .str (hd (eVar 0)))))) (bNot (bChain gLe gLe (hd (eC (.int 1))) (hd (eCall gLen (ahCons (hd (eVar 0)) (ahNil)))) (hd (eC (.int 6)))))) (retS (eC (.bl false))) (nilS)) <| retS (eOp gEq (hd (frz (nComp (iSeqK (eVar 0)) (.name 1) [1] (bT gNotIn (hd (eVar 1)) (hd (eC (.str "abcdefghijklmnopqrstuvwxyz")))) (eVar 1)))) (hd (frz (nLst (aNil)))))
noncomputable def f__law_is_name : CF := mkF 1 2 c__law_is_name
set_option maxHeartbeats 4000000 in
theorem ok__law_is_name {f : Addr} {fd : FuncData} (F : Fun K "_law_is_name" "_law_is_name" s__law_is_name f fd) (G : Gm K mg) (hK : KNice K) : FnG P w K mg base (L2.CX P w) 1 f fd ["_law_value"] (SpD K ct f__law_is_name) :=
  fn_g (N := ["_law_value", "_law_letter"]) F ⟨rfl, rfl, rfl, by decide +kernel, rfl, by decide +kernel, by decide +kernel⟩ fun cdv A outer s H E b W hgd C => (psd_cons (psd_if (ptd_w (pwd_or (ptd_not (pt_tru (phd (pd_isi (T := .str) G.isinstance G.str (by rfl) (phd (pd_var (i := 0))))))) (pwd_or1 (ptd_not (ptd_chain ov_le ov_le (phd pd_int) (phd (pd_callB cv_len G.len (by rfl) (pah_cons (phd (pd_var (i := 0))) pah_nil))) (phd pd_int)))))) (psd_one (psd_ret pd_bl)) psd_nil) (psd_one (psd_ret (pd_cmp (ov_eq C.hu) (phd (pd_frz (pn_comp (own := [("_law_letter", 1)]) C.hc C.hN (pid_seqK (pd_var (i := 0))) (fun _ _ _ _ _ => (pgd_name (i := 1) C.hN)) (fun _ _ _ _ _ => (ptsd_one (pt_cmpV (ov_notin C.hu) (phd (pd_var (i := 1))) (phd pd_str)))) (fun _ _ _ _ _ => (pd_var (i := 1)))))) (phd (pd_frz (pn_lst pad_nil)))))))
noncomputable def c__law_is_strategy (g : CF) : CS := seqS (ifS (bOr (bNot (bTru (hd (eIsi .tuple (hd (eVar 0)))))) (bOr (bT gEq (hd (eVar 0)) (hd (eTup (aNil)))) (bNot (bTru (hd (eIsi .str (hd (eOp gIx (hd (eVar 0)) (hd (eC (.int 0))))))))))) (retS (eC (.bl false))) (nilS)) <| seqS (ifS (bT gEq (hd (eOp gIx (hd (eVar 0)) (hd (eC (.int 0))))) (hd (eC (.str "result")))) (retS (eAnd (eOp gEq (hd (eCall gLen (ahCons (hd (eVar 0)) (ahNil)))) (hd (eC (.int 2)))) (eAnd (eIsi .str (hd (eOp gIx (hd (eVar 0)) (hd (eC (.int 1)))))) (eOp gIn (hd (eOp gIx (hd (eVar 0)) (hd (eC (.int 1))))) (hd (eTup (aCons (eC (.str "negative")) (aCons (eC (.str "zero")) (aCons (eC (.str "positive")) (aNil)))))))))) (nilS)) <| seqS (ifS (bT gEq (hd (eOp gIx (hd (eVar 0)) (hd (eC (.int 0))))) (hd (eC (.str "do")))) (seqS (ifS (bOr (bT gNe (hd (eCall gLen (ahCons (hd (eVar 0)) (ahNil)))) (hd (eC (.int 3)))) (bOr (bNot (bTru (hd (eIsi .tuple (hd (eOp gIx (hd (eVar 0)) (hd (eC (.int 1))))))))) (bT gNe (hd (eCall gLen (ahCons (hd (eOp gIx (hd (eVar 0)) (hd (eC (.int 1))))) (ahNil)))) (hd (eC (.int 2)))))) (retS (eC (.bl false))) (nilS)) <| seqS (asgS 1 (eOp gIx (hd (eOp gIx (hd (eVar 0)) (hd (eC (.int 1))))) (hd (eC (.int 0))))) <| seqS (ifS (bOr (bNot (bTru (hd (eIsi .str (hd (eVar 1)))))) (bOr (bT gNotIn (hd (eVar 1)) (hd (eTup (aCons (eC (.str "fill")) (aCons (eC (.str "empty")) (aNil)))))) (bNot (bTru (hd (eFn f__law_is_name (aCons (eOp gIx (hd (eOp gIx (hd (eVar 0)) (hd (eC (.int 1))))) (hd (eC (.int 1)))) (aNil)))))))) (retS (eC (.bl false))) (nilS)) <| retS (eFn g (aCons (eOp gIx (hd (eVar 0)) (hd (eC (.int 2)))) (aNil)))) (nilS)) <| seqS (ifS (bOr (bT gNe (hd (eOp gIx (hd (eVar 0)) (hd (eC (.int 0))))) (hd (eC (.str "pour")))) (bOr (bT gNe (hd (eCall gLen (ahCons (hd (eVar 0)) (ahNil)))) (hd (eC (.int 6)))) (bOr (bNot (bTru (hd (eFn f__law_is_name (aCons (eOp gIx (hd (eVar 0)) (hd (eC (.int 1)))) (aNil)))))) (bNot (bTru (hd (eFn f__law_is_name (aCons (eOp gIx (hd (eVar 0)) (hd (eC (.int 2)))) (aNil))))))))) (retS (eC (.bl false))) (nilS)) <| retS (eAnd (eOp gNe (hd (eOp gIx (hd (eVar 0)) (hd (eC (.int 1))))) (hd (eOp gIx (hd (eVar 0)) (hd (eC (.int 2)))))) (eOp gEq (hd (frz (nComp (iSeqK (eSlG (hd (eVar 0)) (some (eC (.int 3))) none)) (.name 2) [2] (bNot (bTru (hd (eFn g (aCons (eVar 2) (aNil)))))) (eVar 2)))) (hd (frz (nLst (aNil))))))
noncomputable def f__law_is_strategy : Nat → CF
  | 0 => fErr
  | n + 1 => mkF 1 3 (c__law_is_strategy (f__law_is_strategy n))
set_option maxHeartbeats 4000000 in
theorem ok__law_is_strategy {f : Addr} {fd : FuncData} (F : Fun K "_law_is_strategy" "_law_is_strategy" s__law_is_strategy f fd) (G : Gm K mg) (hK : KNice K) (h__law_is_name : CalleeG P w K mg base ct "_law_is_name" 1 f__law_is_name) (hm : mg "_law_is_strategy" = some (.ref f)) (hbd : Binds K fd ["_law_value"] []) : ∀ n : Nat, FnG P w K mg base (L2.CX P w) (2 + n) f fd ["_law_value"] (SpD K ct (f__law_is_strategy n))
  | 0 => fnG_err
  | n + 1 => have h_self : CalleeG P w K mg base ct "_law_is_strategy" (2 + n) (f__law_is_strategy n) := ⟨⟨f, fd, ["_law_value"], ok__law_is_strategy F G hK h__law_is_name hm hbd n, hm, F.kp, hbd⟩⟩
    fn_g (N := ["_law_value", "_law_word", "_law_part"]) F ⟨rfl, rfl, rfl, by decide +kernel, rfl, by decide +kernel, by decide +kernel⟩ fun cdv A outer s H E b W hgd C => (psd_cons (psd_if (ptd_w (pwd_or (ptd_not (pt_tru (phd (pd_isi (T := .tuple) G.isinstance G.tuple (by rfl) (phd (pd_var (i := 0))))))) (pwd_or (pt_cmpV (ov_eq C.hu) (phd (pd_var (i := 0))) (phd (pd_tup pad_nil))) (pwd_or1 (ptd_not (pt_tru (phd (pd_isi (T := .str) G.isinstance G.str (by rfl) (phd (pd_ix (iv_ix C.hu) (phd (pd_var (i := 0))) (phd pd_int))))))))))) (psd_one (psd_ret pd_bl)) psd_nil) (psd_cons (psd_if (pt_cmpV (ov_eq C.hu) (phd (pd_ix (iv_ix C.hu) (phd (pd_var (i := 0))) (phd pd_int))) (phd pd_str)) (psd_one (psd_ret (pd_and (pd_cmp (ov_eq C.hu) (phd (pd_callB cv_len G.len (by rfl) (pah_cons (phd (pd_var (i := 0))) pah_nil))) (phd pd_int)) (pd_and (pd_isi (T := .str) G.isinstance G.str (by rfl) (phd (pd_ix (iv_ix C.hu) (phd (pd_var (i := 0))) (phd pd_int)))) (pd_and1 (pd_cmp (ov_in C.hu) (phd (pd_ix (iv_ix C.hu) (phd (pd_var (i := 0))) (phd pd_int))) (phd (pd_tup (pad_cons pd_str (pad_cons pd_str (pad_cons pd_str pad_nil))))))))))) psd_nil) (psd_cons (psd_if (pt_cmpV (ov_eq C.hu) (phd (pd_ix (iv_ix C.hu) (phd (pd_var (i := 0))) (phd pd_int))) (phd pd_str)) (psd_cons (psd_if (ptd_w (pwd_or (pt_cmpV (ov_ne C.hu) (phd (pd_callB cv_len G.len (by rfl) (pah_cons (phd (pd_var (i := 0))) pah_nil))) (phd pd_int)) (pwd_or (ptd_not (pt_tru (phd (pd_isi (T := .tuple) G.isinstance G.tuple (by rfl) (phd (pd_ix (iv_ix C.hu) (phd (pd_var (i := 0))) (phd pd_int))))))) (pwd_or1 (pt_cmpV (ov_ne C.hu) (phd (pd_callB cv_len G.len (by rfl) (pah_cons (phd (pd_ix (iv_ix C.hu) (phd (pd_var (i := 0))) (phd pd_int))) pah_nil))) (phd pd_int)))))) (psd_one (psd_ret pd_bl)) psd_nil) (psd_cons (psd_asg (i := 1) C.hN (pd_ix (iv_ix C.hu) (phd (pd_ix (iv_ix C.hu) (phd (pd_var (i := 0))) (phd pd_int))) (phd pd_int))) (psd_cons (psd_if (ptd_w (pwd_or (ptd_not (pt_tru (phd (pd_isi (T := .str) G.isinstance G.str (by rfl) (phd (pd_var (i := 1))))))) (pwd_or (pt_cmpV (ov_notin C.hu) (phd (pd_var (i := 1))) (phd (pd_tup (pad_cons pd_str (pad_cons pd_str pad_nil))))) (pwd_or1 (ptd_not (pt_tru (phd (pd_callG h__law_is_name hgd (C.hr.mono (Nat.le_trans (by decide) (Nat.le_add_right _ _))) C.tk (pad_cons (pd_ix (iv_ix C.hu) (phd (pd_ix (iv_ix C.hu) (phd (pd_var (i := 0))) (phd pd_int))) (phd pd_int)) pad_nil))))))))) (psd_one (psd_ret pd_bl)) psd_nil) (psd_one (psd_ret (pd_callG h_self hgd (C.hr.mono (Nat.le_refl _)) C.tk (pad_cons (pd_ix (iv_ix C.hu) (phd (pd_var (i := 0))) (phd pd_int)) pad_nil))))))) psd_nil) (psd_cons (psd_if (ptd_w (pwd_or (pt_cmpV (ov_ne C.hu) (phd (pd_ix (iv_ix C.hu) (phd (pd_var (i := 0))) (phd pd_int))) (phd pd_str)) (pwd_or (pt_cmpV (ov_ne C.hu) (phd (pd_callB cv_len G.len (by rfl) (pah_cons (phd (pd_var (i := 0))) pah_nil))) (phd pd_int)) (pwd_or (ptd_not (pt_tru (phd (pd_callG h__law_is_name hgd (C.hr.mono (Nat.le_trans (by decide) (Nat.le_add_right _ _))) C.tk (pad_cons (pd_ix (iv_ix C.hu) (phd (pd_var (i := 0))) (phd pd_int)) pad_nil))))) (pwd_or1 (ptd_not (pt_tru (phd (pd_callG h__law_is_name hgd (C.hr.mono (Nat.le_trans (by decide) (Nat.le_add_right _ _))) C.tk (pad_cons (pd_ix (iv_ix C.hu) (phd (pd_var (i := 0))) (phd pd_int)) pad_nil)))))))))) (psd_one (psd_ret pd_bl)) psd_nil) (psd_one (psd_ret (pd_and (pd_cmp (ov_ne C.hu) (phd (pd_ix (iv_ix C.hu) (phd (pd_var (i := 0))) (phd pd_int))) (phd (pd_ix (iv_ix C.hu) (phd (pd_var (i := 0))) (phd pd_int)))) (pd_and1 (pd_cmp (ov_eq C.hu) (phd (pd_frz (pn_comp (own := [("_law_part", 2)]) C.hc C.hN (pid_seqK (pd_slG (phd (pd_var (i := 0))) (pod_some pd_int) pod_none)) (fun _ _ _ _ _ => (pgd_name (i := 2) C.hN)) (fun _ _ _ _ _ => (ptsd_one (ptd_not (pt_tru (phd (pd_callG h_self hgd (C.hr.mono (Nat.le_refl _)) takesW0 (pad_cons (pd_var (i := 2)) pad_nil))))))) (fun _ _ _ _ _ => (pd_var (i := 2)))))) (phd (pd_frz (pn_lst pad_nil))))))))))))
noncomputable def c__law_left : CS := seqS (parO 2 3 (nCall gList (ahCons (hd (eVar 1)) (ahNil))) (nLst (aNil))) <| seqS (forS (iSeqK (eVar 0)) (.name 4) (ifS (bT gIn (hd (eVar 4)) (hOwn 2)) (mutS 2 (mutO "list" mRemove 2 (aCons (eVar 4) (aNil)))) (mutS 3 (mutO "list" mAppend 3 (aCons (eVar 4) (aNil)))))) <| frzS 2 (frzS 3 (retS (eTup (aCons (eVar 3) (aCons (eVar 2) (aNil))))))
noncomputable def f__law_left : CF := mkF 2 5 c__law_left
set_option maxHeartbeats 4000000 in
theorem ok__law_left {f : Addr} {fd : FuncData} (F : Fun K "_law_left" "_law_left" s__law_left f fd) (G : Gm K mg) (hK : KNice K) : FnG P w K mg base (L2.CX P w) 1 f fd ["_law_one_list", "_law_other_list"] (SpD K ct f__law_left) :=
  fn_g (N := ["_law_one_list", "_law_other_list", "_law_rest", "_law_kept", "_law_name"]) F ⟨rfl, rfl, rfl, by decide +kernel, rfl, by decide +kernel, by decide +kernel⟩ fun cdv A outer s H E b W hgd C => (psd_cons (psd_parO (i := 2) (j := 3) C.hb C.hc C.hN (pn_callT (cn_list C.hc) G.list (by rfl) (pah_cons (phd (pd_var (i := 1))) pah_nil)) (pn_lst pad_nil) (by decide)) (psd_cons (psd_for C.hp C.hc (pid_seqK (pd_var (i := 0))) (pgd_name (i := 4) C.hN) (psd_one (psd_if (pt_cmpV (ov_in C.hu) (phd (pd_var (i := 4))) (ph_own (i := 2))) (psd_one (psd_mut (pm_bm met_remove PySem.F.plainAttrs_list PySem.F.slot_list_remove PySem.F.type_list_remove (ph_own (i := 2)) (pad_cons (pd_var (i := 4)) pad_nil)))) (psd_one (psd_mut (pm_bm met_append PySem.F.plainAttrs_list PySem.F.slot_list_append PySem.F.type_list_append (ph_own (i := 3)) (pad_cons (pd_var (i := 4)) pad_nil))))))) (psd_frz (i := 2) (psd_frz (i := 3) (psd_one (psd_ret (pd_tup (pad_cons (pd_var (i := 3)) (pad_cons (pd_var (i := 2)) pad_nil)))))))))
noncomputable def c__law_pours (g : CF) : CS := seqS (ifS (bT gEq (hd (eOp gIx (hd (eVar 0)) (hd (eC (.int 0))))) (hd (eC (.str "result")))) (retS (eC (.int 0))) (nilS)) <| seqS (ifS (bT gEq (hd (eOp gIx (hd (eVar 0)) (hd (eC (.int 0))))) (hd (eC (.str "do")))) (retS (eFn g (aCons (eOp gIx (hd (eVar 0)) (hd (eC (.int 2)))) (aNil)))) (nilS)) <| retS (eOp gAdd (hd (eC (.int 1))) (hd (eCall gMaxL (ahCons (hd (frz (nComp (iSeqK (eSlG (hd (eVar 0)) (some (eC (.int 3))) none)) (.name 1) [1] (tYesD) (eFn g (aCons (eVar 1) (aNil)))))) (ahNil)))))
noncomputable def f__law_pours : Nat → CF
  | 0 => fErr
  | n + 1 => mkF 1 2 (c__law_pours (f__law_pours n))
set_option maxHeartbeats 4000000 in
theorem ok__law_pours {f : Addr} {fd : FuncData} (F : Fun K "_law_pours" "_law_pours" s__law_pours f fd) (G : Gm K mg) (hK : KNice K) (hm : mg "_law_pours" = some (.ref f)) (hbd : Binds K fd ["_law_strategy"] []) : ∀ n : Nat, FnG P w K mg base (L2.CX P w) (1 + n) f fd ["_law_strategy"] (SpD K ct (f__law_pours n))
  | 0 => fnG_err
  | n + 1 => have h_self : CalleeG P w K mg base ct "_law_pours" (1 + n) (f__law_pours n) := ⟨⟨f, fd, ["_law_strategy"], ok__law_pours F G hK  hm hbd n, hm, F.kp, hbd⟩⟩
    fn_g (N := ["_law_strategy", "_law_part"]) F ⟨rfl, rfl, rfl, by decide +kernel, rfl, by decide +kernel, by decide +kernel⟩ fun cdv A outer s H E b W hgd C => (psd_cons (psd_if (pt_cmpV (ov_eq C.hu) (phd (pd_ix (iv_ix C.hu) (phd (pd_var (i := 0))) (phd pd_int))) (phd pd_str)) (psd_one (psd_ret pd_int)) psd_nil) (psd_cons (psd_if (pt_cmpV (ov_eq C.hu) (phd (pd_ix (iv_ix C.hu) (phd (pd_var (i := 0))) (phd pd_int))) (phd pd_str)) (psd_one (psd_ret (pd_callG h_self hgd (C.hr.mono (Nat.le_refl _)) C.tk (pad_cons (pd_ix (iv_ix C.hu) (phd (pd_var (i := 0))) (phd pd_int)) pad_nil)))) psd_nil) (psd_one (psd_ret (pd_op ov_add (phd pd_int) (phd (pd_callB (cv_maxL C.hc) G.max (by rfl) (pah_cons (phd (pd_frz (pn_comp (own := [("_law_part", 1)]) C.hc C.hN (pid_seqK (pd_slG (phd (pd_var (i := 0))) (pod_some pd_int) pod_none)) (fun _ _ _ _ _ => (pgd_name (i := 1) C.hN)) (fun _ _ _ _ _ => ptsd_nil) (fun _ _ _ _ _ => (pd_callG h_self hgd (C.hr.mono (Nat.le_refl _)) takesW0 (pad_cons (pd_var (i := 1)) pad_nil)))))) pah_nil))))))))
noncomputable def c__law_is_brief (g : CF) : CS := seqS (ifS (bT gEq (hd (eOp gIx (hd (eVar 0)) (hd (eC (.int 0))))) (hd (eC (.str "do")))) (retS (eFn g (aCons (eOp gIx (hd (eVar 0)) (hd (eC (.int 2)))) (aCons (eOp gAdd (hd (eVar 1)) (hd (eC (.int 1)))) (aNil))))) (nilS)) <| seqS (ifS (bT gEq (hd (eOp gIx (hd (eVar 0)) (hd (eC (.int 0))))) (hd (eC (.str "pour")))) (retS (eAnd (eOp gLt (hd (eVar 1)) (hd (eC (.int 3)))) (eOp gEq (hd (frz (nComp (iSeqK (eSlG (hd (eVar 0)) (some (eC (.int 3))) none)) (.name 2) [2] (bNot (bTru (hd (eFn g (aCons (eVar 2) (aCons (eC (.int 0)) (aNil))))))) (eVar 2)))) (hd (frz (nLst (aNil))))))) (nilS)) <| retS (eC (.bl true))
noncomputable def f__law_is_brief : Nat → CF
  | 0 => fErr
  | n + 1 => mkF 2 3 (c__law_is_brief (f__law_is_brief n))
set_option maxHeartbeats 4000000 in
theorem ok__law_is_brief {f : Addr} {fd : FuncData} (F : Fun K "_law_is_brief" "_law_is_brief" s__law_is_brief f fd) (G : Gm K mg) (hK : KNice K) (hm : mg "_law_is_brief" = some (.ref f)) (hbd : Binds K fd ["_law_strategy", "_law_others"] []) : ∀ n : Nat, FnG P w K mg base (L2.CX P w) (1 + n) f fd ["_law_strategy", "_law_others"] (SpD K ct (f__law_is_brief n))
  | 0 => fnG_err
  | n + 1 => have h_self : CalleeG P w K mg base ct "_law_is_brief" (1 + n) (f__law_is_brief n) := ⟨⟨f, fd, ["_law_strategy", "_law_others"], ok__law_is_brief F G hK  hm hbd n, hm, F.kp, hbd⟩⟩
    fn_g (N := ["_law_strategy", "_law_others", "_law_part"]) F ⟨rfl, rfl, rfl, by decide +kernel, rfl, by decide +kernel, by decide +kernel⟩ fun cdv A outer s H E b W hgd C => (psd_cons (psd_if (pt_cmpV (ov_eq C.hu) (phd (pd_ix (iv_ix C.hu) (phd (pd_var (i := 0))) (phd pd_int))) (phd pd_str)) (psd_one (psd_ret (pd_callG h_self hgd (C.hr.mono (Nat.le_refl _)) C.tk (pad_cons (pd_ix (iv_ix C.hu) (phd (pd_var (i := 0))) (phd pd_int)) (pad_cons (pd_op ov_add (phd (pd_var (i := 1))) (phd pd_int)) pad_nil))))) psd_nil) (psd_cons (psd_if (pt_cmpV (ov_eq C.hu) (phd (pd_ix (iv_ix C.hu) (phd (pd_var (i := 0))) (phd pd_int))) (phd pd_str)) (psd_one (psd_ret (pd_and (pd_cmp ov_lt (phd (pd_var (i := 1))) (phd pd_int)) (pd_and1 (pd_cmp (ov_eq C.hu) (phd (pd_frz (pn_comp (own := [("_law_part", 2)]) C.hc C.hN (pid_seqK (pd_slG (phd (pd_var (i := 0))) (pod_some pd_int) pod_none)) (fun _ _ _ _ _ => (pgd_name (i := 2) C.hN)) (fun _ _ _ _ _ => (ptsd_one (ptd_not (pt_tru (phd (pd_callG h_self hgd (C.hr.mono (Nat.le_refl _)) takesW0 (pad_cons (pd_var (i := 2)) (pad_cons pd_int pad_nil)))))))) (fun _ _ _ _ _ => (pd_var (i := 2)))))) (phd (pd_frz (pn_lst pad_nil)))))))) psd_nil) (psd_one (psd_ret pd_bl))))
noncomputable def c__law_used (g : CF) : CS := seqS (ifS (bT gEq (hd (eOp gIx (hd (eVar 0)) (hd (eC (.int 0))))) (hd (eC (.str "result")))) (retS (frz (nLst (aNil)))) (nilS)) <| seqS (ifS (bT gEq (hd (eOp gIx (hd (eVar 0)) (hd (eC (.int 0))))) (hd (eC (.str "do")))) (retS (eOp gAdd (hd (frz (nLst (aCons (eOp gIx (hd (eOp gIx (hd (eVar 0)) (hd (eC (.int 1))))) (hd (eC (.int 1)))) (aNil))))) (hd (eFn g (aCons (eOp gIx (hd (eVar 0)) (hd (eC (.int 2)))) (aNil)))))) (nilS)) <| seqS (asgS 1 (frz (nCall gList (ahCons (hd (eSlG (hd (eVar 0)) (some (eC (.int 1))) (some (eC (.int 3))))) (ahNil))))) <| seqS (forS (iSeqK (eSlG (hd (eVar 0)) (some (eC (.int 3))) none)) (.name 2) (asgS 1 (eOp gAdd (hd (eVar 1)) (hd (eFn g (aCons (eVar 2) (aNil))))))) <| retS (eVar 1)
noncomputable def f__law_used : Nat → CF
  | 0 => fErr
  | n + 1 => mkF 1 3 (c__law_used (f__law_used n))
set_option maxHeartbeats 4000000 in
theorem ok__law_used {f : Addr} {fd : FuncData} (F : Fun K "_law_used" "_law_used" s__law_used f fd) (G : Gm K mg) (hK : KNice K) (hm : mg "_law_used" = some (.ref f)) (hbd : Binds K fd ["_law_strategy"] []) : ∀ n : Nat, FnG P w K mg base (L2.CX P w) (1 + n) f fd ["_law_strategy"] (SpD K ct (f__law_used n))
  | 0 => fnG_err
  | n + 1 => have h_self : CalleeG P w K mg base ct "_law_used" (1 + n) (f__law_used n) := ⟨⟨f, fd, ["_law_strategy"], ok__law_used F G hK  hm hbd n, hm, F.kp, hbd⟩⟩
    fn_g (N := ["_law_strategy", "_law_found", "_law_part"]) F ⟨rfl, rfl, rfl, by decide +kernel, rfl, by decide +kernel, by decide +kernel⟩ fun cdv A outer s H E b W hgd C => (psd_cons (psd_if (pt_cmpV (ov_eq C.hu) (phd (pd_ix (iv_ix C.hu) (phd (pd_var (i := 0))) (phd pd_int))) (phd pd_str)) (psd_one (psd_ret (pd_frz (pn_lst pad_nil)))) psd_nil) (psd_cons (psd_if (pt_cmpV (ov_eq C.hu) (phd (pd_ix (iv_ix C.hu) (phd (pd_var (i := 0))) (phd pd_int))) (phd pd_str)) (psd_one (psd_ret (pd_op ov_add (phd (pd_frz (pn_lst (pad_cons (pd_ix (iv_ix C.hu) (phd (pd_ix (iv_ix C.hu) (phd (pd_var (i := 0))) (phd pd_int))) (phd pd_int)) pad_nil)))) (phd (pd_callG h_self hgd (C.hr.mono (Nat.le_refl _)) C.tk (pad_cons (pd_ix (iv_ix C.hu) (phd (pd_var (i := 0))) (phd pd_int)) pad_nil)))))) psd_nil) (psd_cons (psd_asg (i := 1) C.hN (pd_frz (pn_callT (cn_list C.hc) G.list (by rfl) (pah_cons (phd (pd_slG (phd (pd_var (i := 0))) (pod_some pd_int) (pod_some pd_int))) pah_nil)))) (psd_cons (psd_for C.hp C.hc (pid_seqK (pd_slG (phd (pd_var (i := 0))) (pod_some pd_int) pod_none)) (pgd_name (i := 2) C.hN) (psd_one (psd_asg (i := 1) C.hN (pd_op ov_add (phd (pd_var (i := 1))) (phd (pd_callG h_self hgd (C.hr.mono (Nat.le_refl _)) C.tk (pad_cons (pd_var (i := 2)) pad_nil))))))) (psd_one (psd_ret (pd_var (i := 1))))))))
noncomputable def c__law_raised : CS := seqS (asgS 2 (frz (nLst (aNil)))) <| seqS (tryS (dropS (eFn f_comparison (aCons (eVar 0) (aCons (eVar 1) (aNil))))) (okL [("InvalidName", true)]) 3 (hFldL "InvalidName" "name" 2)) <| retS (eVar 2)
noncomputable def f__law_raised : CF := mkF 2 4 c__law_raised
set_option maxHeartbeats 4000000 in
theorem ok__law_raised {f : Addr} {fd : FuncData} (F : Fun K "_law_raised" "_law_raised" s__law_raised f fd) (G : Gm K mg) (hK : KNice K) (h_comparison : CalleeG P w K mg base ct "comparison" 53 f_comparison) (t_InvalidName : CatC K mg ct "InvalidName" [("InvalidName", true)]) (d_InvalidName_name : FldC K ct "InvalidName" "name") : FnG P w K mg base (L2.CX P w) 54 f fd ["_law_first", "_law_second"] (SpD K ct f__law_raised) :=
  fn_g (N := ["_law_first", "_law_second", "_law_found", "e"]) F ⟨rfl, rfl, rfl, by decide +kernel, rfl, by decide +kernel, by decide +kernel⟩ fun cdv A outer s H E b W hgd C => (psd_cons (psd_asg (i := 2) C.hN (pd_frz (pn_lst pad_nil))) (psd_cons (psd_tryAs (i := 3) rfl rfl C.hN ⟨rfl, by decide, .inl t_InvalidName.gl⟩ C.tk t_InvalidName.ex (fun _ _ _ tk hp => have C := C.tr tk hp; (psd_one (psd_expr (pd_callG h_comparison hgd (C.hr.mono (by decide)) C.tk (pad_cons (pd_var (i := 0)) (pad_cons (pd_var (i := 1)) pad_nil)))))) (fun _ _ _ _ _ hz hf => psx_fldL (i := 3) (j := 2) d_InvalidName_name hz hf C.hN)) (psd_one (psd_ret (pd_var (i := 2))))))
noncomputable def c__law_bad : CS := seqS (asgS 2 (eFn f__law_pick (aCons (eVar 0) (aCons (frz (nLst (aCons (eC .non) (aCons (eC (.str "")) (aCons (eC (.str "A")) (aCons (eC (.str "toolong")) (aCons (eC (.int 5)) (aCons (eC (.bl true)) (aCons (eTup (aCons (eC (.str "a")) (aNil))) (aCons (frz (nLst (aCons (eC (.str "a")) (aNil)))) (aCons (frz (nDict0)) (aCons (eC (.str "a b")) (aNil))))))))))))) (aNil))))) <| seqS (asgS 3 (eFn f__law_take (aCons (eVar 0) (aCons (eOp gAdd (hd (eCall gLen (ahCons (hd (eVar 1)) (ahNil)))) (hd (eC (.int 1)))) (aNil))))) <| seqS (asgS 4 (frz (nLst (aCons (eTup (aCons (eOp gAdd (hd (eOp gAdd (hd (eSlG (hd (eVar 1)) none (some (eVar 3)))) (hd (frz (nLst (aCons (eVar 2) (aNil))))))) (hd (eSlG (hd (eVar 1)) (some (eVar 3)) none))) (aCons (eVar 2) (aNil)))) (aCons (eTup (aCons (eOp gAdd (hd (eSlG (hd (eOp gAdd (hd (eVar 1)) (hd (frz (nRep (hd (frz (nLst (aCons (eC (.str "x")) (aNil))))) (hd (eC (.int 6)))))))) none (some (eC (.int 5))))) (hd (frz (nLst (aCons (eC (.str "last")) (aCons (eVar 2) (aNil))))))) (aCons (eC (.str "last")) (aNil)))) (aNil)))))) <| seqS (asgS 4 (eOp gAdd (hd (eVar 4)) (hd (frz (nComp (iSeqK (frz (nLst (aCons (eC .non) (aCons (eC (.int 5)) (aCons (eC (.str "abc")) (aCons (frz (nDisp [(eC (.str "a"), eC (.int 1))])) (aNil)))))))) (.name 2) [2] (tYesD) (eTup (aCons (eVar 2) (aCons (eC .non) (aNil))))))))) <| retS (eFn f__law_pick (aCons (eVar 0) (aCons (eVar 4) (aNil))))
noncomputable def f__law_bad : CF := mkF 2 5 c__law_bad
set_option maxHeartbeats 4000000 in
theorem ok__law_bad {f : Addr} {fd : FuncData} (F : Fun K "_law_bad" "_law_bad" s__law_bad f fd) (G : Gm K mg) (hK : KNice K) (h__law_pick : CalleeG P w K mg base ct "_law_pick" 2 f__law_pick) (h__law_take : CalleeG P w K mg base ct "_law_take" 1 f__law_take) : FnG P w K mg base (L2.CX P w) 3 f fd ["_law_state", "_law_good"] (SpD K ct f__law_bad) :=
  fn_g (N := ["_law_state", "_law_good", "_law_odd", "_law_spot", "_law_some"]) F ⟨rfl, rfl, rfl, by decide +kernel, rfl, by decide +kernel, by decide +kernel⟩ fun cdv A outer s H E b W hgd C => (psd_cons (psd_asg (i := 2) C.hN (pd_callG h__law_pick hgd (C.hr.mono (by decide)) C.tk (pad_cons (pd_var (i := 0)) (pad_cons (pd_frz (pn_lst (pad_cons pd_non (pad_cons pd_str (pad_cons pd_str (pad_cons pd_str (pad_cons pd_int (pad_cons pd_bl (pad_cons (pd_tup (pad_cons pd_str pad_nil)) (pad_cons (pd_frz (pn_lst (pad_cons pd_str pad_nil))) (pad_cons (pd_frz pn_dict0) (pad_cons pd_str pad_nil)))))))))))) pad_nil)))) (psd_cons (psd_asg (i := 3) C.hN (pd_callG h__law_take hgd (C.hr.mono (by decide)) C.tk (pad_cons (pd_var (i := 0)) (pad_cons (pd_op ov_add (phd (pd_callB cv_len G.len (by rfl) (pah_cons (phd (pd_var (i := 1))) pah_nil))) (phd pd_int)) pad_nil)))) (psd_cons (psd_asg (i := 4) C.hN (pd_frz (pn_lst (pad_cons (pd_tup (pad_cons (pd_op ov_add (phd (pd_op ov_add (phd (pd_slG (phd (pd_var (i := 1))) pod_none (pod_some (pd_var (i := 3))))) (phd (pd_frz (pn_lst (pad_cons (pd_var (i := 2)) pad_nil)))))) (phd (pd_slG (phd (pd_var (i := 1))) (pod_some (pd_var (i := 3))) pod_none))) (pad_cons (pd_var (i := 2)) pad_nil))) (pad_cons (pd_tup (pad_cons (pd_op ov_add (phd (pd_slG (phd (pd_op ov_add (phd (pd_var (i := 1))) (phd (pd_frz (pn_rep (phd (pd_frz (pn_lst (pad_cons pd_str pad_nil)))) (phd pd_int)))))) pod_none (pod_some pd_int))) (phd (pd_frz (pn_lst (pad_cons pd_str (pad_cons (pd_var (i := 2)) pad_nil)))))) (pad_cons pd_str pad_nil))) pad_nil))))) (psd_cons (psd_asg (i := 4) C.hN (pd_op ov_add (phd (pd_var (i := 4))) (phd (pd_frz (pn_comp (own := [("_law_odd", 2)]) C.hc C.hN (pid_seqK (pd_frz (pn_lst (pad_cons pd_non (pad_cons pd_int (pad_cons pd_str (pad_cons (pd_frz (pn_disp (ppd_cons pd_str pd_int ppd_nil))) pad_nil))))))) (fun _ _ _ _ _ => (pgd_name (i := 2) C.hN)) (fun _ _ _ _ _ => ptsd_nil) (fun _ _ _ _ _ => (pd_tup (pad_cons (pd_var (i := 2)) (pad_cons pd_non pad_nil))))))))) (psd_one (psd_ret (pd_callG h__law_pick hgd (C.hr.mono (by decide)) C.tk (pad_cons (pd_var (i := 0)) (pad_cons (pd_var (i := 4)) pad_nil)))))))))
noncomputable def c_law : CS := seqS (asgS 1 (eFn f__law_begun (aCons (eVar 0) (aNil)))) <| seqS (forS (iRange1 (aCons (eCall gMax2 (ahCons (hd (eC (.int 1))) (ahCons (hd (eCall gMinT (ahCons (hd (eC (.int 8))) (ahCons (hd (eCall gLen (ahCons (hd (eVar 0)) (ahNil)))) (ahNil))))) (ahNil)))) (aNil))) (.name 2) (seqS (asgS 3 (eFn f__law_names (aCons (eVar 1) (aCons (eOp gAdd (hd (eC (.int 1))) (hd (eFn f__law_take (aCons (eVar 1) (aCons (eC (.int 6)) (aNil)))))) (aNil))))) <| seqS (asgG (.tup [.name 4, .name 5]) (eFn f__law_lists (aCons (eVar 1) (aCons (eVar 3) (aCons (eC (.int 5)) (aNil)))))) <| seqS (asgS 6 (eCall gRp (ahCons (hd (eTup (aCons (eVar 4) (aCons (eVar 5) (aNil))))) (ahNil)))) <| seqS (asgS 7 (eFn f_comparison (aCons (eVar 4) (aCons (eVar 5) (aNil))))) <| seqS (asgG (.tup [.name 8, .name 9]) (eFn f__law_left (aCons (eVar 4) (aCons (eVar 5) (aNil))))) <| seqS (ifS (bOr (bNot (bTru (hd (eFn (f__law_is_strategy 40) (aCons (eVar 7) (aNil)))))) (bT gNe (hd (frz (nComp (iSeqK (eFn (f__law_used 40) (aCons (eVar 7) (aNil)))) (.name 14) [14] (bT gNotIn (hd (eVar 14)) (hd (eOp gAdd (hd (eVar 8)) (hd (eVar 9))))) (eVar 14)))) (hd (frz (nLst (aNil)))))) (retS (eC (.bl false))) (nilS)) <| seqS (ifS (bOr (bT gEq (hd (eVar 8)) (hd (frz (nLst (aNil))))) (bT gEq (hd (eVar 9)) (hd (frz (nLst (aNil)))))) (ifS (bT gNe (hd (eVar 7)) (hd (eTup (aCons (eC (.str "result")) (aCons (eOp gIx (hd (frz (nLst (aCons (eC (.str "negative")) (aCons (eC (.str "zero")) (aCons (eC (.str "positive")) (aNil))))))) (hd (eOp gSub (hd (eOp gAdd (hd (eC (.int 1))) (hd (eCall gInt (ahCons (hd (eOp gNe (hd (eVar 8)) (hd (frz (nLst (aNil)))))) (ahNil)))))) (hd (eCall gInt (ahCons (hd (eOp gNe (hd (eVar 9)) (hd (frz (nLst (aNil)))))) (ahNil))))))) (aNil)))))) (retS (eC (.bl false))) (nilS)) (ifS (bOr (bNot (bChain gLe gLt (hd (eC (.int 1))) (hd (eFn (f__law_pours 40) (aCons (eVar 7) (aNil)))) (hd (eOp gAdd (hd (eCall gLen (ahCons (hd (eVar 8)) (ahNil)))) (hd (eCall gLen (ahCons (hd (eVar 9)) (ahNil)))))))) (bNot (bTru (hd (eFn (f__law_is_brief 40) (aCons (eVar 7) (aCons (eC (.int 0)) (aNil)))))))) (retS (eC (.bl false))) (nilS))) <| seqS (ifS (bOr (bT gNe (hd (eCalD 0 2 [1, 0] [] f_comparison (eAA (aNil) (aCons (eCall gTuple (ahCons (hd (eVar 5)) (ahNil))) (aCons (eCall gTuple (ahCons (hd (eVar 4)) (ahNil))) (aNil)))))) (hd (eVar 7))) (bT gNe (hd (eCall gRp (ahCons (hd (eTup (aCons (eVar 4) (aCons (eVar 5) (aNil))))) (ahNil)))) (hd (eVar 6)))) (retS (eC (.bl false))) (nilS)) <| seqS (asgG (.tup [.name 10, .name 11]) (eFn f__law_bad (aCons (eVar 1) (aCons (eVar 4) (aNil))))) <| seqS (asgG (.tup [.name 12, .name 13]) (eFn f__law_bad (aCons (eVar 1) (aCons (eVar 5) (aNil))))) <| ifS (bOr (bT gNe (hd (eFn f__law_raised (aCons (eVar 10) (aCons (eVar 12) (aNil))))) (hd (frz (nLst (aCons (eVar 11) (aNil)))))) (bT gNe (hd (eFn f__law_raised (aCons (eVar 4) (aCons (eVar 12) (aNil))))) (hd (frz (nLst (aCons (eVar 13) (aNil))))))) (retS (eC (.bl false))) (nilS))) <| retS (eC (.bl true))
noncomputable def f_law : CF := mkF 1 15 c_law
set_option maxHeartbeats 4000000 in
theorem ok_law {f : Addr} {fd : FuncData} (F : Fun K "law" "law" s_law f fd) (G : Gm K mg) (hK : KNice K) (h__law_bad : CalleeG P w K mg base ct "_law_bad" 3 f__law_bad) (h__law_begun : CalleeG P w K mg base ct "_law_begun" 1 f__law_begun) (h__law_is_brief : CalleeG P w K mg base ct "_law_is_brief" 41 (f__law_is_brief 40)) (h__law_is_strategy : CalleeG P w K mg base ct "_law_is_strategy" 42 (f__law_is_strategy 40)) (h__law_left : CalleeG P w K mg base ct "_law_left" 1 f__law_left) (h__law_lists : CalleeG P w K mg base ct "_law_lists" 3 f__law_lists) (h__law_names : CalleeG P w K mg base ct "_law_names" 3 f__law_names) (h__law_pours : CalleeG P w K mg base ct "_law_pours" 41 (f__law_pours 40)) (h__law_raised : CalleeG P w K mg base ct "_law_raised" 54 f__law_raised) (h__law_take : CalleeG P w K mg base ct "_law_take" 1 f__law_take) (h__law_used : CalleeG P w K mg base ct "_law_used" 41 (f__law_used 40)) (h_comparison : CalleeG P w K mg base ct "comparison" 53 f_comparison) (q_comparison_0_other_one : CalC P w K mg base ct "comparison" 53 0 ["other", "one"] [1, 0] [] f_comparison) : FnG P w K mg base (L2.CX P w) 55 f fd ["_law_script"] (SpD K ct f_law) :=
  fn_g (N := ["_law_script", "_law_state", "_law_turn", "_law_names_here", "_law_first", "_law_second", "_law_shown", "_law_found", "_law_kept", "_law_rest", "_law_bad_here", "_law_due", "_law_worse", "_law_late", "_law_name"]) F ⟨rfl, rfl, rfl, by decide +kernel, rfl, by decide +kernel, by decide +kernel⟩ fun cdv A outer s H E b W hgd C => (psd_cons (psd_asg (i := 1) C.hN (pd_callG h__law_begun hgd (C.hr.mono (by decide)) C.tk (pad_cons (pd_var (i := 0)) pad_nil))) (psd_cons (psd_for C.hp C.hc (pid_range1 G.range (pad_cons (pd_callB (cv_max C.hc) G.max (by rfl) (pah_cons (phd pd_int) (pah_cons (phd (pd_callB (cv_minT C.hc) G.min (by rfl) (pah_cons (phd pd_int) (pah_cons (phd (pd_callB cv_len G.len (by rfl) (pah_cons (phd (pd_var (i := 0))) pah_nil))) pah_nil)))) pah_nil))) pad_nil)) (pgd_name (i := 2) C.hN) (psd_cons (psd_asg (i := 3) C.hN (pd_callG h__law_names hgd (C.hr.mono (by decide)) C.tk (pad_cons (pd_var (i := 1)) (pad_cons (pd_op ov_add (phd pd_int) (phd (pd_callG h__law_take hgd (C.hr.mono (by decide)) C.tk (pad_cons (pd_var (i := 1)) (pad_cons pd_int pad_nil))))) pad_nil)))) (psd_cons (psd_asgG (pd_callG h__law_lists hgd (C.hr.mono (by decide)) C.tk (pad_cons (pd_var (i := 1)) (pad_cons (pd_var (i := 3)) (pad_cons pd_int pad_nil)))) (pgd_tup C.hc (pgsd_cons (pgd_name (i := 4) C.hN) (pgsd_cons (pgd_name (i := 5) C.hN) pgsd_nil)))) (psd_cons (psd_asg (i := 6) C.hN (pd_callB (cv_repr2 hgd C.hu) G.repr (by rfl) (pah_cons (phd (pd_tup (pad_cons (pd_var (i := 4)) (pad_cons (pd_var (i := 5)) pad_nil)))) pah_nil))) (psd_cons (psd_asg (i := 7) C.hN (pd_callG h_comparison hgd (C.hr.mono (by decide)) C.tk (pad_cons (pd_var (i := 4)) (pad_cons (pd_var (i := 5)) pad_nil)))) (psd_cons (psd_asgG (pd_callG h__law_left hgd (C.hr.mono (by decide)) C.tk (pad_cons (pd_var (i := 4)) (pad_cons (pd_var (i := 5)) pad_nil))) (pgd_tup C.hc (pgsd_cons (pgd_name (i := 8) C.hN) (pgsd_cons (pgd_name (i := 9) C.hN) pgsd_nil)))) (psd_cons (psd_if (ptd_w (pwd_or (ptd_not (pt_tru (phd (pd_callG h__law_is_strategy hgd (C.hr.mono (by decide)) C.tk (pad_cons (pd_var (i := 7)) pad_nil))))) (pwd_or1 (pt_cmpV (ov_ne C.hu) (phd (pd_frz (pn_comp (own := [("_law_name", 14)]) C.hc C.hN (pid_seqK (pd_callG h__law_used hgd (C.hr.mono (by decide)) C.tk (pad_cons (pd_var (i := 7)) pad_nil))) (fun _ _ _ _ _ => (pgd_name (i := 14) C.hN)) (fun _ _ _ _ _ => (ptsd_one (pt_cmpV (ov_notin C.hu) (phd (pd_var (i := 14))) (phd (pd_op ov_add (phd (pd_var (i := 8))) (phd (pd_var (i := 9)))))))) (fun _ _ _ _ _ => (pd_var (i := 14)))))) (phd (pd_frz (pn_lst pad_nil))))))) (psd_one (psd_ret pd_bl)) psd_nil) (psd_cons (psd_if (ptd_w (pwd_or (pt_cmpV (ov_eq C.hu) (phd (pd_var (i := 8))) (phd (pd_frz (pn_lst pad_nil)))) (pwd_or1 (pt_cmpV (ov_eq C.hu) (phd (pd_var (i := 9))) (phd (pd_frz (pn_lst pad_nil))))))) (psd_one (psd_if (pt_cmpV (ov_ne C.hu) (phd (pd_var (i := 7))) (phd (pd_tup (pad_cons pd_str (pad_cons (pd_ix (iv_ix C.hu) (phd (pd_frz (pn_lst (pad_cons pd_str (pad_cons pd_str (pad_cons pd_str pad_nil)))))) (phd (pd_op ov_sub (phd (pd_op ov_add (phd pd_int) (phd (pd_callT cv_int G.int (by rfl) (pah_cons (phd (pd_cmp (ov_ne C.hu) (phd (pd_var (i := 8))) (phd (pd_frz (pn_lst pad_nil))))) pah_nil))))) (phd (pd_callT cv_int G.int (by rfl) (pah_cons (phd (pd_cmp (ov_ne C.hu) (phd (pd_var (i := 9))) (phd (pd_frz (pn_lst pad_nil))))) pah_nil)))))) pad_nil))))) (psd_one (psd_ret pd_bl)) psd_nil)) (psd_one (psd_if (ptd_w (pwd_or (ptd_not (ptd_chain ov_le ov_lt (phd pd_int) (phd (pd_callG h__law_pours hgd (C.hr.mono (by decide)) C.tk (pad_cons (pd_var (i := 7)) pad_nil))) (phd (pd_op ov_add (phd (pd_callB cv_len G.len (by rfl) (pah_cons (phd (pd_var (i := 8))) pah_nil))) (phd (pd_callB cv_len G.len (by rfl) (pah_cons (phd (pd_var (i := 9))) pah_nil))))))) (pwd_or1 (ptd_not (pt_tru (phd (pd_callG h__law_is_brief hgd (C.hr.mono (by decide)) C.tk (pad_cons (pd_var (i := 7)) (pad_cons pd_int pad_nil))))))))) (psd_one (psd_ret pd_bl)) psd_nil))) (psd_cons (psd_if (ptd_w (pwd_or (pt_cmpV (ov_ne C.hu) (phd (pd_calD (ks := ["other", "one"]) q_comparison_0_other_one (by exact hgd) (by exact C.hr.mono (by decide)) C.tk (pca_0k (pkd_cons (pd_callT cv_tuple G.tuple (by rfl) (pah_cons (phd (pd_var (i := 5))) pah_nil)) (pkd_cons (pd_callT cv_tuple G.tuple (by rfl) (pah_cons (phd (pd_var (i := 4))) pah_nil)) pkd_nil))))) (phd (pd_var (i := 7)))) (pwd_or1 (pt_cmpV (ov_ne C.hu) (phd (pd_callB (cv_repr2 hgd C.hu) G.repr (by rfl) (pah_cons (phd (pd_tup (pad_cons (pd_var (i := 4)) (pad_cons (pd_var (i := 5)) pad_nil)))) pah_nil))) (phd (pd_var (i := 6))))))) (psd_one (psd_ret pd_bl)) psd_nil) (psd_cons (psd_asgG (pd_callG h__law_bad hgd (C.hr.mono (by decide)) C.tk (pad_cons (pd_var (i := 1)) (pad_cons (pd_var (i := 4)) pad_nil))) (pgd_tup C.hc (pgsd_cons (pgd_name (i := 10) C.hN) (pgsd_cons (pgd_name (i := 11) C.hN) pgsd_nil)))) (psd_cons (psd_asgG (pd_callG h__law_bad hgd (C.hr.mono (by decide)) C.tk (pad_cons (pd_var (i := 1)) (pad_cons (pd_var (i := 5)) pad_nil))) (pgd_tup C.hc (pgsd_cons (pgd_name (i := 12) C.hN) (pgsd_cons (pgd_name (i := 13) C.hN) pgsd_nil)))) (psd_one (psd_if (ptd_w (pwd_or (pt_cmpV (ov_ne C.hu) (phd (pd_callG h__law_raised hgd (C.hr.mono (by decide)) C.tk (pad_cons (pd_var (i := 10)) (pad_cons (pd_var (i := 12)) pad_nil)))) (phd (pd_frz (pn_lst (pad_cons (pd_var (i := 11)) pad_nil))))) (pwd_or1 (pt_cmpV (ov_ne C.hu) (phd (pd_callG h__law_raised hgd (C.hr.mono (by decide)) C.tk (pad_cons (pd_var (i := 4)) (pad_cons (pd_var (i := 12)) pad_nil)))) (phd (pd_frz (pn_lst (pad_cons (pd_var (i := 13)) pad_nil)))))))) (psd_one (psd_ret pd_bl)) psd_nil))))))))))))) (psd_one (psd_ret pd_bl))))
end
end KX
namespace KX
open PySem PySem.Spec PyProof.Rows L2 DL
def ks5 : List Key := [.inr "large", .inr "rest", .inr "turn", .inr "seed", .inr "cells"]
structure SrcOk (gs : List Int) (rest count seed : Int) (cells : List Int) (c : Nat) : Prop where
  g : ∀ x ∈ gs, 0 ≤ x
  r : 0 ≤ rest
  k0 : 0 ≤ count
  k1 : count ≤ c
  s0 : 0 ≤ seed
  s1 : seed < 2147483647
  c0 : cells ≠ []
  c1 : ∀ x ∈ cells, 0 ≤ x ∧ x < 2147483629
def src (gs : List Int) (rest count seed : Int) (cells : List Int) (x1 : MO) (T : Store) : Store := .lst (gs.map D.int) :: x1 :: .dic ks5 [.ref 0, .int rest, .int count, .int seed, .lst (cells.map D.int)] :: T
def SrcT (T : Store) (M : Store) (c : Nat) : Prop := ∃ gs rest count seed cells x1, M = src gs rest count seed cells x1 T ∧ SrcOk gs rest count seed cells c
theorem SrcT.mono {T M : Store} {c c' : Nat} (h : SrcT T M c) (l : c ≤ c') : SrcT T M c' := by
  obtain ⟨gs, rest, count, seed, cells, x1, e, g⟩ := h
  exact ⟨gs, rest, count, seed, cells, x1, e, g.g, g.r, g.k0, by have := g.k1; omega, g.s0, g.s1, g.c0, g.c1⟩
@[simp] theorem dg0 {a b c d e : D} : dget ks5 [a, b, c, d, e] (.inr "large") = some a := by rfl
@[simp] theorem dg1 {a b c d e : D} : dget ks5 [a, b, c, d, e] (.inr "rest") = some b := by rfl
@[simp] theorem dg2 {a b c d e : D} : dget ks5 [a, b, c, d, e] (.inr "turn") = some c := by rfl
@[simp] theorem dg3 {a b c d e : D} : dget ks5 [a, b, c, d, e] (.inr "seed") = some d := by rfl
@[simp] theorem dg4 {a b c d e : D} : dget ks5 [a, b, c, d, e] (.inr "cells") = some e := by rfl
@[simp] theorem dp1 {a b c d e x : D} : dput ks5 [a, b, c, d, e] (.inr "rest") x = (ks5, [a, x, c, d, e]) := by rfl
@[simp] theorem dp2 {a b c d e x : D} : dput ks5 [a, b, c, d, e] (.inr "turn") x = (ks5, [a, b, x, d, e]) := by rfl
@[simp] theorem dp3 {a b c d e x : D} : dput ks5 [a, b, c, d, e] (.inr "seed") x = (ks5, [a, b, c, x, e]) := by rfl
@[simp] theorem l5 : ks5.length = 5 := rfl
@[simp] theorem putM5 {xs : List D} {x : Str} {d : D} : putM (.dic ks5 xs) (.str x) d = some (.dic (dput ks5 xs (.inr x) d).1 (dput ks5 xs (.inr x) d).2) := putM_dic (by decide)
theorem cells_at {cells : List Int} {j : Int} (h0 : 0 ≤ j) (h1 : j < cells.length) : ∃ z ∈ cells, atI (cells.map D.int) j = some (.int z) := by
  obtain ⟨n, rfl⟩ := Int.eq_ofNat_of_zero_le h0
  have hn : n < cells.length := by omega
  refine ⟨cells[n], List.getElem_mem hn, ?_⟩
  refine (atI_n (n := n)).trans ?_
  simp [hn]
theorem gInt_i (i : Int) : gInt [.int i] = some (.int i) := rfl
theorem e_take {T M : Store} {c : Nat} {b : Int} {Q : D → Store → Prop} {E : EX} (h : SrcT T M c) (hc : c ≤ 100000000000000) (hb : 0 < b) (hb2 : b ≤ 1000000000000000000000000000000000000000000000000000000000000) (q : ∀ k M', 0 ≤ k → k < b → SrcT T M' (c + 1) → Q (.int k) M') : Post (f__law_take [.ref 2, .int b] M) Q E := by
  obtain ⟨gs, rest, count, seed, cells, x1, rfl, g⟩ := h
  have gen : ∀ gs : List Int, (∀ x ∈ gs, 0 ≤ x) → ∀ x1 : MO, Post (f__law_take [.ref 2, .int b] (src [] 0 count seed cells x1 T)) Q E ∧ Post (f__law_take [.ref 2, .int b] (src (0 :: gs) 0 count seed cells x1 T)) Q E := by
    intro gs hg x1
    have hl : 0 < cells.length := List.length_pos_iff.mpr g.c0
    have hl' : (0 : Int) < cells.length := by omega
    obtain ⟨z, hz, ez⟩ := cells_at (cells := cells) (j := count % cells.length) (Int.emod_nonneg _ (by omega)) (Int.emod_lt_of_pos _ hl')
    have z1 := (g.c1 z hz).1
    have z2 := (g.c1 z hz).2
    have k0 := g.k0
    have k1 := g.k1
    have s0 := g.s0
    have s1 := g.s1
    have m1 : gMul (.int seed) (.int 48271) = some (.int (seed * 48271)) := gMul_int (by omega) (by omega) (by omega) (by omega)
    have m2 : gMul (.int 2) (.int count) = some (.int (2 * count)) := gMul_int (by omega) (by omega) (by omega) (by omega)
    have m3 : gMul (.int z) (.int (2 * count + 3)) = some (.int (z * (2 * count + 3))) := gMul_int (by omega) (by omega) (by omega) (by omega)
    generalize hs : (seed * 48271 + z * (2 * count + 3) + count ^ 3) % 2147483647 = s'
    have s'0 : 0 ≤ s' := by rw [← hs]; exact Int.emod_nonneg _ (by decide)
    have s'1 : s' < 2147483647 := by rw [← hs]; exact Int.emod_lt_of_pos _ (by decide)
    have n1 := Int.emod_nonneg (s' ^ 2) (show (2147483629 : Int) ≠ 0 by decide)
    have n2 := Int.emod_lt_of_pos (s' ^ 2) (show (0 : Int) < 2147483629 by decide)
    have m4 : gMul (.int (s' ^ 2 % 2147483629)) (.int 2147483587) = some (.int (s' ^ 2 % 2147483629 * 2147483587)) := gMul_int (by omega) (by omega) (by omega) (by omega)
    have m5 : gDiv (.int (s' ^ 2 % 2147483629 * 2147483587 + s' ^ 3 % 2147483579)) (.int 7) = some (.int ((s' ^ 2 % 2147483629 * 2147483587 + s' ^ 3 % 2147483579) / 7)) := gDiv_int (by omega) (by omega)
    constructor
    · simp (disch := omega) [f__law_take, c__law_take, src, gInt_i, ez, m1, m2, m3, hs, m4, m5]
      exact q _ _ (Int.emod_nonneg _ (by omega)) (Int.emod_lt_of_pos _ hb) ⟨[], 0, count + 1, s', cells, _, rfl, by simp, by omega, by omega, by omega, s'0, s'1, g.c0, g.c1⟩
    · simp (disch := omega) [f__law_take, c__law_take, src, gInt_i, ez, m1, m2, m3, hs, m4, m5]
      exact q _ _ (Int.emod_nonneg _ (by omega)) (Int.emod_lt_of_pos _ hb) ⟨gs, 0, count + 1, s', cells, _, rfl, hg, by omega, by omega, by omega, s'0, s'1, g.c0, g.c1⟩
  have d1 (r : Int) : gDiv (.int r) (.int b) = some (.int (r / b)) := gDiv_int hb (by omega)
  have k0 := g.k0
  have k1 := g.k1
  by_cases hr : rest = 0
  · subst hr
    cases gs with
    | nil => exact (gen [] (by simp) x1).1
    | cons x gs =>
      have x0 := g.g x List.mem_cons_self
      by_cases hx : 0 < x
      · simp (disch := omega) [f__law_take, c__law_take, src, gInt_i, hx, d1]
        exact q _ _ (Int.emod_nonneg _ (by omega)) (Int.emod_lt_of_pos _ hb) ⟨gs, x / b, count, seed, cells, _, rfl, fun y hy => g.g y (List.mem_cons_of_mem _ hy), Int.ediv_nonneg (by omega) (by omega), k0, by omega, g.s0, g.s1, g.c0, g.c1⟩
      · have : x = 0 := by omega
        subst this
        exact (gen gs (fun y hy => g.g y (List.mem_cons_of_mem _ hy)) x1).2
  · have r0 := g.r
    have hx : 0 < rest := by omega
    simp (disch := omega) [f__law_take, c__law_take, src, gInt_i, hx, hr, d1]
    exact q _ _ (Int.emod_nonneg _ (by omega)) (Int.emod_lt_of_pos _ hb) ⟨gs, rest / b, count, seed, cells, _, rfl, g.g, Int.ediv_nonneg (by omega) (by omega), k0, by omega, g.s0, g.s1, g.c0, g.c1⟩
theorem e_pick {T M : Store} {c : Nat} {xs : List D} {Q : D → Store → Prop} {E : EX} (h : SrcT T M c) (hc : c ≤ 100000000000000) (hx : xs ≠ []) (hl : xs.length ≤ 1000) (q : ∀ x ∈ xs, ∀ M', SrcT T M' (c + 1) → Q x M') : Post (f__law_pick [.ref 2, .lst xs] M) Q E := by
  have hp : 0 < xs.length := List.length_pos_iff.mpr hx
  simp (disch := omega) [f__law_pick, c__law_pick]
  refine e_take h hc (by omega) (by omega) fun k M' k0 k1 s => ?_
  obtain ⟨n, rfl⟩ := Int.eq_ofNat_of_zero_le k0
  have hn : n < xs.length := by omega
  simp [atI_n, hn]
  exact q _ (List.getElem_mem hn) _ s
theorem SrcT.at {T M : Store} {c : Nat} (h : SrcT T M c) (j : Nat) : gt M (3 + j) = T[j]? := by
  obtain ⟨gs, rest, count, seed, cells, x1, rfl, _⟩ := h
  rw [← gt_eq]
  show (_ :: _ :: _ :: T)[3 + j]? = _
  rw [show 3 + j = j + 1 + 1 + 1 by omega, List.getElem?_cons_succ, List.getElem?_cons_succ, List.getElem?_cons_succ]
theorem e_pickR {T M : Store} {c j : Nat} {xs : List D} {Q : D → Store → Prop} {E : EX} (h : SrcT T M c) (hj : T[j]? = some (.lst xs)) (hc : c ≤ 100000000000000) (hx : xs ≠ []) (hl : xs.length ≤ 1000) (q : ∀ x ∈ xs, ∀ M', SrcT T M' (c + 1) → Q x M') : Post (f__law_pick [.ref 2, .ref (3 + j)] M) Q E := by
  have hp : 0 < xs.length := List.length_pos_iff.mpr hx
  have g0 := h.at j
  rw [hj] at g0
  simp (disch := omega) [f__law_pick, c__law_pick, g0]
  refine e_take h hc (by omega) (by omega) fun k M' k0 k1 s => ?_
  have g1 := s.at j
  rw [hj] at g1
  obtain ⟨n, rfl⟩ := Int.eq_ofNat_of_zero_le k0
  have hn : n < xs.length := by omega
  simp [g1, atI_n, hn]
  exact q _ (List.getElem_mem hn) _ s
theorem e_pickS {T M : Store} {c : Nat} {l : List Nat} {Q : D → Store → Prop} {E : EX} (h : SrcT T M c) (hc : c ≤ 100000000000000) (hx : l ≠ []) (hl : l.length ≤ 1000) (q : ∀ x ∈ l, ∀ M', SrcT T M' (c + 1) → Q (.str (sg x)) M') : Post (f__law_pick [.ref 2, .str (tx' l)] M) Q E := by
  have hp : 0 < l.length := List.length_pos_iff.mpr hx
  have gl : gLen [.str (tx' l)] = some (.int (l.length : Int)) := by rw [gLen_str (by simp; omega), tx_len]
  simp (disch := omega) [f__law_pick, c__law_pick, gl]
  refine e_take h hc (by omega) (by omega) fun k M' k0 k1 s => ?_
  obtain ⟨n, rfl⟩ := Int.eq_ofNat_of_zero_le k0
  have hn : n < l.length := by omega
  have ix := ixs_ok' (l := l) (n := n) (c := l[n]) (List.getElem?_eq_getElem hn) (by omega)
  simp [ix]
  exact q _ (List.getElem_mem hn) _ s
theorem SrcT.len {T M : Store} {c : Nat} (h : SrcT T M c) : M.length = 3 + T.length := by
  obtain ⟨gs, rest, count, seed, cells, x1, rfl, _⟩ := h
  simp [src]
  omega
theorem SrcT.push {T M : Store} {c : Nat} (h : SrcT T M c) (o : MO) : SrcT (T ++ [o]) (M ++ [o]) c := by
  obtain ⟨gs, rest, count, seed, cells, x1, rfl, g⟩ := h
  exact ⟨gs, rest, count, seed, cells, x1, rfl, g⟩
theorem SrcT.setT {T M : Store} {c : Nat} (h : SrcT T M c) (j : Nat) (o : MO) : SrcT (T.set j o) (M.set (3 + j) o) c := by
  obtain ⟨gs, rest, count, seed, cells, x1, rfl, g⟩ := h
  refine ⟨gs, rest, count, seed, cells, x1, ?_, g⟩
  show List.set (_ :: _ :: _ :: T) (3 + j) o = _
  rw [show 3 + j = j + 1 + 1 + 1 by omega]
  rfl
theorem SrcT.split {T1 X B M : Store} {c : Nat} (s : SrcT (T1 ++ X ++ B) M c) : ∃ A, M = A ++ X ++ B ∧ A.length = 3 + T1.length ∧ ∀ X' B', SrcT (T1 ++ X' ++ B') (A ++ X' ++ B') c := by
  obtain ⟨gs, rest, count, seed, cells, x1, rfl, g⟩ := s
  refine ⟨src gs rest count seed cells x1 T1, ?_, ?_, fun X' B' => ⟨gs, rest, count, seed, cells, x1, ?_, g⟩⟩
  · simp [src]
  · simp [src]
    omega
  · simp [src]
end KX
namespace KX
open PySem PySem.Spec PyProof.Rows L2 DL
def letters : Str := "abcdefghijklmnopqrstuvwxyz"
structure NameOk (n : Str) : Prop where
  l0 : 1 ≤ n.length
  l1 : n.length ≤ 6
  c : ∀ c ∈ n.cps.toList, c ∈ letters.cps.toList
def abcL : List Nat := [97, 98, 99, 100, 101, 102, 103, 104, 105, 106, 107, 108, 109, 110, 111, 112, 113, 114, 115, 116, 117, 118, 119, 120, 121, 122]
theorem letters_l : letters.cps.toList = abcL := by decide +kernel
theorem letters_tx : Str.ofString "abcdefghijklmnopqrstuvwxyz" = tx' abcL := lit _ _ (by decide +kernel)
theorem e_empty : Str.ofString "" = tx' [] := by rfl
structure NmL (l : List Nat) : Prop where
  n1 : 1 ≤ l.length
  n2 : l.length ≤ 6
  ok : ∀ c ∈ l, c ∈ abcL
theorem NmL.nm {l : List Nat} (h : NmL l) : NameOk (tx' l) := ⟨by rw [tx_len]; exact h.n1, by rw [tx_len]; exact h.n2, fun c hc => by rw [letters_l]; rw [tx_list] at hc; exact h.ok c hc⟩
theorem join_sgs : ∀ l : List Nat, Txt.join (tx' []) (l.map sg) = tx' l := by
  have go : ∀ l : List Nat, (Str.join (tx' []) (l.map sg)).cps.toList = l := fun l => by
    induction l with
    | nil => rfl
    | cons c r ih =>
      cases r with
      | nil => rfl
      | cons e r =>
        rw [List.map_cons, List.map_cons]
        show (sg c ++ tx' [] ++ Str.join (tx' []) (sg e :: r.map sg)).cps.toList = _
        rw [toList_app, toList_app, ← List.map_cons, ih]
        rfl
  intro l
  rw [show Txt.join (tx' []) (l.map sg) = Str.join (tx' []) (l.map sg) from PySem.StrLaws.glued_eq_join _ _]
  exact str_ext (by rw [go, tx_list])
theorem gJoin_sgs {l : List Nat} (h : l.length ≤ 16777216) : gJoin (tx' []) [.lst (l.map fun c => .str (sg c))] = some (.str (tx' l)) := by
  have e : strsD (l.map fun c => D.str (sg c)) = some (l.map sg) := by
    rw [← strsD_map, List.map_map]
    rfl
  have e2 : ((l.map sg).map Str.length).sum = l.length := by
    clear h e
    induction l with
    | nil => rfl
    | cons c r ih =>
      simp only [List.map_cons, List.sum_cons, sg_len, List.length_cons] at ih ⊢
      omega
  show (strsD _).bind _ = _
  rw [e]
  show joinO _ _ = _
  unfold joinO
  rw [if_pos (by rw [e2, List.length_map]; show _ + l.length * (tx' []).length ≤ _; rw [tx_len]; simp only [List.length_nil]; omega), join_sgs]
theorem anyE_strs {a : Str} : ∀ l : List Str, anyE (.str a) (l.map D.str) = some (decide (a ∈ l))
  | [] => by simp
  | x :: l => by
    rw [List.map_cons, anyE_cons, anyE_strs l]
    simp only [eqD_str_str, orO_some, List.mem_cons]
    by_cases h : a = x
    · subst h; simp
    · have : ¬ x = a := fun z => h z.symm
      simp [h, this]
theorem sub_len' {α : Type} [DecidableEq α] : ∀ {l1 l2 : List α}, l1.Nodup → (∀ n ∈ l1, n ∈ l2) → l1.length ≤ l2.length
  | [], _, _, _ => Nat.zero_le _
  | x :: r, l2, hd, hs => by
    obtain ⟨h1, h2⟩ := List.nodup_cons.mp hd
    have hx : x ∈ l2 := hs x List.mem_cons_self
    have ih := sub_len' (l1 := r) (l2 := l2.erase x) h2 fun n hn => (List.mem_erase_of_ne (a := n) (b := x) fun z => h1 (by rw [← z]; exact hn)).mpr (hs n (List.mem_cons_of_mem _ hn))
    rw [List.length_erase_of_mem hx] at ih
    have : 0 < l2.length := List.length_pos_of_mem hx
    rw [List.length_cons]
    omega
def onSg (f : Nat → D) : D → D
  | .str z => match z.cps.toList with
    | [c] => f c
    | _ => .str z
  | d => d
theorem onSg_sg {f : Nat → D} {c : Nat} : onSg f (.str (sg c)) = f c := rfl
theorem map_onSg {f : Nat → D} {w : List Nat} : (w.map fun c => D.str (sg c)).map (onSg f) = w.map f := by
  rw [List.map_map]
  rfl
def onStr {α : Type} (f : Str → α) (a : α) : D → α
  | .str z => f z
  | _ => a
def cand (l : List Nat) : List Str := tx' l :: abcL.map fun c => tx' (l.take 5 ++ [c])
theorem new_name {l : List Nat} {names : List Str} (hl : names.length ≤ 20) : (List.filter (fun x => !decide (x ∈ names)) (tx' l :: abcL.map fun c => tx' (l.take 5 ++ [c]))) ≠ [] := fun e => by
  have h1 : ∀ x ∈ abcL.map fun c => tx' (l.take 5 ++ [c]), x ∈ names := fun x hx => by
    have := List.filter_eq_nil_iff.mp e x (List.mem_cons_of_mem _ hx)
    simpa using this
  have nd : (abcL.map fun c => tx' (l.take 5 ++ [c])).Nodup := by
    rw [List.nodup_iff_pairwise_ne, List.pairwise_map]
    have : abcL.Nodup := by decide +kernel
    refine List.Pairwise.imp (fun {a b} hab e => ?_) (List.nodup_iff_pairwise_ne.mp this)
    have := tx_inj.mp e
    simp at this
    exact hab this
  have := sub_len' nd h1
  rw [List.length_map] at this
  have : abcL.length = 26 := by decide
  omega
theorem cand_ok {l : List Nat} (h : NmL l) {x : Str} (hx : x ∈ tx' l :: abcL.map fun c => tx' (l.take 5 ++ [c])) : NameOk x := by
  rcases List.mem_cons.mp hx with rfl | hx
  · exact h.nm
  · obtain ⟨c, hc, rfl⟩ := List.mem_map.mp hx
    have n1 := h.n1
    refine NmL.nm ⟨by simp, by simp; omega, fun e he => ?_⟩
    rcases List.mem_append.mp he with z | z
    · exact h.ok e (List.mem_of_mem_take z)
    · have : e = c := by simpa using z
      rw [this]
      exact hc
theorem e_names {T M : Store} {c : Nat} {n : Int} {Q : D → Store → Prop} {E : EX} (h : SrcT T M c) (hc : c ≤ 10000000000000) (n0 : 0 ≤ n) (n1 : n ≤ 8)
    (q : ∀ (names : List Str) M', names.length = n.toNat → names.Nodup → (∀ x ∈ names, NameOk x) → SrcT (T ++ [.lst (names.map D.str)]) M' (c + 200) → Q (.ref (3 + T.length)) M') : Post (f__law_names [.ref 2, .int n] M) Q E := by
  have sm : Sm n := Sm.of (by omega) (by omega)
  have hp := h.push (.lst [])
  simp (disch := first | omega | (simp <;> omega) | fail) [f__law_names, c__law_names, sm, h.len, letters_tx]
  refine for_inv (fun i en M => ∃ (names : List Str) (x4 x5 x6 x7 x8 x9 : Option Slot), en = [some (.val (.ref 2)), some (.val (.int n)), some (.val (.str (tx' abcL))), some (.val (.ref (3 + T.length))), x4, x5, x6, x7, x8, x9] ∧ names.length = i ∧ names.Nodup ∧ (∀ x ∈ names, NameOk x) ∧ SrcT (T ++ [.lst (names.map D.str)]) M (c + 20 * i))
    ⟨[], none, none, none, none, none, none, rfl, rfl, by simp, by simp, hp⟩ (fun en M' hi => ?_) fun i x en M' hx hi => ?_
  · obtain ⟨names, x4, x5, x6, x7, x8, x9, rfl, hn, nd, ok, s⟩ := hi
    rw [rngD_len] at hn s
    simp
    exact q names M' hn nd ok (s.mono (by omega))
  · obtain ⟨names, x4, x5, x6, x7, x8, x9, rfl, hn, nd, ok, s⟩ := hi
    have hi5 : i < 8 := by
      have := (rngD_get hx).1
      omega
    simp [e_empty]
    refine e_take s (by omega) (by omega) (by omega) fun k2 M3 k20 k21 s3 => ?_
    have sm2 : Sm (1 + k2) := Sm.of (by omega) (by omega)
    simp [sm2, wipeE]
    rw [PF_of (by omega)]
    refine comp_inv (fun j acc M => ∃ l : List Nat, acc = l.map (fun c => .str (sg c)) ∧ l.length = j ∧ (∀ c ∈ l, c ∈ abcL) ∧ SrcT (T ++ [.lst (names.map D.str)]) M (c + 20 * i + 3 + j)) ⟨[], rfl, rfl, by simp, s3.mono (by omega)⟩ (fun acc M4 hI => ?_) fun j x acc M4 hx hI => ?_
    case refine_2 =>
      obtain ⟨l, rfl, hlen, okl, s4⟩ := hI
      have hj := (rngD_get hx).1
      simp
      refine e_pickS s4 (by omega) (by decide) (by decide) fun y hy M5 s5 => ?_
      exact ⟨l ++ [y], by simp, by simp; omega, fun e he => by
        rcases List.mem_append.mp he with z | z
        · exact okl e z
        · have : e = y := by simpa using z
          rw [this]
          exact hy, s5.mono (by omega)⟩
    obtain ⟨l0, rfl, hlen, okl, s4⟩ := hI
    rw [rngD_len] at hlen s4
    have nl0 : NmL l0 := ⟨by omega, by omega, okl⟩
    simp [gJoin_sgs (l := l0) (by omega)]
    refine e_pick s4 (by omega) (by simp) (by simp) fun y hy M5 s5 => ?_
    obtain ⟨l, rfl, nl⟩ : ∃ l : List Nat, y = .str (tx' l) ∧ NmL l := by
      have w1 : Str.ofString "fill" = tx' [102, 105, 108, 108] := lit _ _ (by decide +kernel)
      have w2 : Str.ofString "empty" = tx' [101, 109, 112, 116, 121] := lit _ _ (by decide +kernel)
      have w3 : Str.ofString "pour" = tx' [112, 111, 117, 114] := lit _ _ (by decide +kernel)
      have w4 : Str.ofString "a" = tx' [97] := lit _ _ (by decide +kernel)
      have w5 : Str.ofString "b" = tx' [98] := lit _ _ (by decide +kernel)
      have ok1 : ∀ l ∈ ([[102, 105, 108, 108], [101, 109, 112, 116, 121], [112, 111, 117, 114], [97], [98]] : List (List Nat)), NmL l := fun l hl => by
        have h : ∀ l ∈ ([[102, 105, 108, 108], [101, 109, 112, 116, 121], [112, 111, 117, 114], [97], [98]] : List (List Nat)), 1 ≤ l.length ∧ l.length ≤ 6 ∧ ∀ c ∈ l, c ∈ abcL := by decide +kernel
        exact ⟨(h l hl).1, (h l hl).2.1, (h l hl).2.2⟩
      rw [w1, w2, w3, w4, w5] at hy
      simp only [List.mem_cons, List.not_mem_nil, or_false] at hy
      rcases hy with rfl | rfl | rfl | rfl | rfl | rfl | rfl | rfl
      · exact ⟨_, rfl, ok1 _ (by simp)⟩
      · exact ⟨_, rfl, ok1 _ (by simp)⟩
      · exact ⟨_, rfl, ok1 _ (by simp)⟩
      · exact ⟨_, rfl, ok1 _ (by simp)⟩
      · exact ⟨_, rfl, ok1 _ (by simp)⟩
      · exact ⟨_, rfl, nl0⟩
      · exact ⟨_, rfl, nl0⟩
      · exact ⟨_, rfl, nl0⟩
    have n2 := nl.n2
    have g3 : gt M5 (3 + T.length) = some (.lst (names.map D.str)) := by rw [s5.at]; simp
    have c5 : cutS (tx' l) none (some 5) = tx' (l.take 5) := by
      have := cut_to (x := tx' l) (n := 5)
      rwa [tx_list] at this
    have ad (c : Nat) : gAdd (.str (tx' (l.take 5))) (.str (sg c)) = some (.str (tx' (l.take 5 ++ [c]))) := by
      have z : (tx' (l.take 5)).length + (sg c).length ≤ 16777216 := by simp; omega
      rw [gAdd_str z, tx_snoc]
    simp [signs_tx, wipeE]
    rw [PF_of (by decide)]
    refine comp_all (onSg fun c => .str (tx' (l.take 5 ++ [c]))) (fun d hd => ?_) ?_
    · obtain ⟨c, hc, rfl⟩ := List.mem_map.mp hd
      exact ⟨_, put_name, Post.eq (by simp (disch := first | omega | (simp <;> omega) | fail) [c5, ad, onSg_sg])⟩
    · have gl : gAdd (.lst [.str (tx' l)]) (.lst (abcL.map fun c => D.str (tx' (l.take 5 ++ [c])))) = some (.lst ((cand l).map D.str)) := by
        rw [gAdd_lst' (by simp; decide)]
        unfold cand
        rw [List.map_cons, List.map_map]
        rfl
      rw [map_onSg]
      simp [g3, gl, wipeE]
      rw [PF_of (by unfold cand; simp; decide)]
      refine comp_map (onStr (fun z => !decide (z ∈ names)) false) (fun d => d) (fun d hd => ?_) ?_
      · obtain ⟨z, hz, rfl⟩ := List.mem_map.mp hd
        exact ⟨_, put_name, Post.eq (by simp [g3, anyE_strs, onStr]), fun _ => Post.eq (by simp)⟩
      · have e : List.map (fun d => d) (List.filter (onStr (fun z => !decide (z ∈ names)) false) ((cand l).map D.str)) = ((cand l).filter fun z => !decide (z ∈ names)).map D.str := by
          rw [List.map_id', List.filter_map]
          rfl
        rw [e]
        have nn := new_name (l := l) (names := names) (by omega)
        cases hq : (cand l).filter fun z => !decide (z ∈ names) with
        | nil => exact absurd hq nn
        | cons y ys =>
          have hy : y ∈ (cand l).filter fun z => !decide (z ∈ names) := by rw [hq]; exact List.mem_cons_self
          obtain ⟨hy1, hy2⟩ := List.mem_filter.mp hy
          have hy2 : y ∉ names := by simpa using hy2
          have ln : names.length < 16777216 := by omega
          have s4 := s5.setT T.length (.lst (names.map D.str ++ [.str y]))
          simp [g3, mAppend_lst (xs := names.map D.str) (d := .str y) (by simp; omega)]
          refine ⟨names ++ [y], by simp; omega, ?_, fun z hz => ?_, ?_⟩
          · rw [List.nodup_append]
            exact ⟨nd, by simp, fun a ha b hb => by
              have : b = y := by simpa using hb
              subst this
              exact fun z => hy2 (z ▸ ha)⟩
          · rcases List.mem_append.mp hz with z1 | z1
            · exact ok z z1
            · have : z = y := by simpa using z1
              rw [this]
              exact cand_ok nl hy1
          · have e2 : (T ++ [MO.lst (names.map D.str)]).set T.length (.lst (names.map D.str ++ [.str y])) = T ++ [.lst ((names ++ [y]).map D.str)] := by simp
            rw [e2] at s4
            exact s4.mono (by omega)
end KX
namespace KX
open PySem PySem.Spec PyProof.Rows L2 DL
theorem e_let : Str.ofString "abcdefghijklmnopqrstuvwxyz" = letters := rfl
theorem tx_self (n : Str) : tx' n.cps.toList = n := str_ext (by simp)
def itm : D → Bool
  | .ref _ => false
  | .scr _ => false
  | _ => true
def isS : D → Bool
  | .str _ => true
  | _ => false
def isLT : D → Bool
  | .tup _ => true
  | .lst _ => true
  | _ => false
theorem isi_str {d : D} (h : itm d = true) : isi1 .str d = some (.bl (isS d)) := by cases d <;> first | rfl | cases h
theorem isi_lt {d : D} (h : itm d = true) : isi2 .list .tuple d = some (.bl (isLT d)) := by cases d <;> first | rfl | cases h
theorem vw_itm {d : D} (h : itm d = true) (M : Store) : vwD M d = some d := by cases d <;> first | rfl | cases h
theorem gAll_bools (l : List Bool) : gAll [.lst (l.map D.bl)] = some (.bl (l.all id)) := by
  show (blsD _).map _ = _
  rw [blsD_map]
  rfl
theorem eqL_nil (L : List D) : eqL (eqF 59) L [] = some L.isEmpty := by cases L <;> rfl
def lowB (z : Str) : Bool := z.cps.toList.all fun c => decide (c ∈ letters.cps.toList)
theorem lowB_sg (c : Nat) : lowB (sg c) = decide (c ∈ letters.cps.toList) := by
  have e1 : (sg c).cps.toList = [c] := rfl
  unfold lowB
  rw [e1, List.all_cons, List.all_nil, Bool.and_true]
theorem lowB_tx (l : List Nat) : lowB (tx' l) = l.all fun c => decide (c ∈ letters.cps.toList) := by
  unfold lowB
  rw [tx_list]
def inL : D → D
  | .str w => .bl (lowB w)
  | d => d
def nmB (z : Str) : Bool := decide (1 ≤ z.length ∧ z.length ≤ 6) && lowB z
def nmV : D → Bool
  | .str z => nmB z
  | _ => false
theorem gNotIn_sg {z : Str} {c : Nat} : gNotIn (.str (sg c)) (.str z) = some (.bl (!decide (c ∈ z.cps.toList))) := rfl
theorem e_nameV {d : D} (h : itm d = true) (hz : ∀ z, d = .str z → z.length ≤ 100) (M : Store) : f_is_name [d] M = .ok (.bl (nmV d)) M := by
  have i1 := isi_str h
  have v1 := vw_itm h
  cases d with
  | ref n => cases h
  | scr n => cases h
  | str z =>
    obtain ⟨l, rfl⟩ : ∃ l, z = tx' l := ⟨_, (tx_self z).symm⟩
    have hz : l.length ≤ 100 := by simpa using hz _ rfl
    refine Post.eq ?_
    by_cases c1 : 1 ≤ l.length
    · by_cases c2 : l.length ≤ 6
      · have n1 : (1 : Int) ≤ l.length := by omega
        have n2 : (l.length : Int) ≤ 6 := by omega
        simp (disch := first | omega | (simp <;> omega) | fail) [f_is_name, c_is_name, n1, n2, signs_tx, wipeE, e_let]
        refine comp_all inL (fun d hd => ?_) ?_
        · obtain ⟨c, hc, rfl⟩ := List.mem_map.mp hd
          refine ⟨_, put_name, Post.eq ?_⟩
          have gi : gIn (.str (sg c)) (.str letters) = some (.bl (decide (c ∈ letters.cps.toList))) := gIn_sg
          simp [gi, inL, lowB_sg]
        · have e : List.map inL (l.map fun c => D.str (sg c)) = (l.map fun c => decide (c ∈ letters.cps.toList)).map D.bl := by
            rw [List.map_map, List.map_map]
            refine List.map_congr_left fun c _ => ?_
            simp [inL, lowB_sg]
          rw [e]
          have ga := gAll_bools (l.map fun c => decide (c ∈ letters.cps.toList))
          have en : nmV (.str (tx' l)) = (l.map fun c => decide (c ∈ letters.cps.toList)).all id := by
            rw [List.all_map]
            simp [nmV, nmB, c1, c2, lowB_tx]
          simp only [ga]
          rw [en]
          exact ⟨rfl, rfl⟩
      · have n2 : ¬ (l.length : Int) ≤ 6 := by omega
        have n1 : (1 : Int) ≤ l.length := by omega
        simp (disch := first | omega | (simp <;> omega) | fail) [f_is_name, c_is_name, nmV, nmB, n1, n2, c2]
    · have n1 : ¬ (1 : Int) ≤ l.length := by omega
      simp (disch := first | omega | (simp <;> omega) | fail) [f_is_name, c_is_name, nmV, nmB, n1, c1]
  | _ => exact Post.eq (by simp [f_is_name, c_is_name, i1, v1, isS, nmV])
def notL : D → Bool
  | .str w => !lowB w
  | _ => false
theorem e_nameL {d : D} (h : itm d = true) (hz : ∀ z, d = .str z → z.length ≤ 100) (M : Store) : f__law_is_name [d] M = .ok (.bl (nmV d)) M := by
  have i1 := isi_str h
  have v1 := vw_itm h
  cases d with
  | ref n => cases h
  | scr n => cases h
  | str z =>
    obtain ⟨l, rfl⟩ : ∃ l, z = tx' l := ⟨_, (tx_self z).symm⟩
    have hz : l.length ≤ 100 := by simpa using hz _ rfl
    refine Post.eq ?_
    by_cases c1 : 1 ≤ l.length
    · by_cases c2 : l.length ≤ 6
      · have n1 : (1 : Int) ≤ l.length := by omega
        have n2 : (l.length : Int) ≤ 6 := by omega
        simp (disch := first | omega | (simp <;> omega) | fail) [f__law_is_name, c__law_is_name, n1, n2, signs_tx, wipeE, e_let]
        refine DL.comp_map notL (fun d => d) (fun d hd => ?_) ?_
        · obtain ⟨c, hc, rfl⟩ := List.mem_map.mp hd
          have gi : gNotIn (.str (sg c)) (.str letters) = some (.bl (!decide (c ∈ letters.cps.toList))) := gNotIn_sg
          refine ⟨_, put_name, Post.eq ?_, fun _ => Post.eq (by simp)⟩
          simp [gi, notL, lowB_sg]
        · rw [List.map_id']
          have e : nmV (.str (tx' l)) = (List.filter notL (l.map fun c => D.str (sg c))).isEmpty := by
            have en : nmV (.str (tx' l)) = l.all fun c => decide (c ∈ letters.cps.toList) := by simp [nmV, nmB, c1, c2, lowB_tx]
            rw [en, Bool.eq_iff_iff, List.isEmpty_iff, List.filter_eq_nil_iff, List.all_eq_true]
            constructor
            · intro hh x hx
              obtain ⟨c, hc, rfl⟩ := List.mem_map.mp hx
              have := hh c hc
              simp only [notL, lowB_sg, this]
              simp
            · intro hh c hc
              have := hh _ (List.mem_map.mpr ⟨c, hc, rfl⟩)
              simpa only [notL, lowB_sg, Bool.not_eq_true', Bool.not_eq_false] using this
          rw [e]
          generalize List.filter notL (l.map fun c => D.str (sg c)) = Lf
          have vL : ∀ L : List D, vwD M (.lst L) = some (.lst L) := fun _ => rfl
          simp [vL, eqL_nil]
      · have n2 : ¬ (l.length : Int) ≤ 6 := by omega
        have n1 : (1 : Int) ≤ l.length := by omega
        simp (disch := first | omega | (simp <;> omega) | fail) [f__law_is_name, c__law_is_name, nmV, nmB, n1, n2, c2]
    · have n1 : ¬ (1 : Int) ≤ l.length := by omega
      simp (disch := first | omega | (simp <;> omega) | fail) [f__law_is_name, c__law_is_name, nmV, nmB, n1, c1]
  | _ => exact Post.eq (by simp [f__law_is_name, c__law_is_name, i1, v1, isS, nmV])
theorem sIx_n {n d a : Nat} (h : a ≤ n) : HT.sIx n d (some (a : Int)) = a := by
  rw [HT.sIx_nat]
  omega
theorem sIx_0 {n d : Nat} : HT.sIx n d none = d := rfl
theorem cut_hi {xs : List D} {a : Nat} (h : a ≤ xs.length) : DL.cutD xs none (some (a : Int)) = xs.take a := by
  unfold DL.cutD
  rw [sIx_n h, sIx_0]
  simp
theorem cut_lo {xs : List D} {a : Nat} (h : a ≤ xs.length) : DL.cutD xs (some (a : Int)) none = xs.drop a := by
  unfold DL.cutD
  rw [sIx_n h, sIx_0]
  exact List.take_of_length_le (by simp)
theorem enum_at {xs : List D} {i : Nat} {x : D} (hx : (enumD 0 xs)[i]? = some x) : ∃ y, xs[i]? = some y ∧ x = .tup [.int (i : Int), y] := by
  have hk : i < xs.length := by
    have := (List.getElem?_eq_some_iff.mp hx).1
    simpa [enumD_len] using this
  have e2 := enumD_get (i := 0) (xs := xs) (j := i) (x := xs[i]) (by simp [hk])
  rw [hx] at e2
  exact ⟨xs[i], by simp [hk], by simpa using e2⟩
theorem NameOk.nm {n : Str} (h : NameOk n) : nmB n = true := by
  unfold nmB lowB
  rw [Bool.and_eq_true, decide_eq_true_eq, List.all_eq_true]
  exact ⟨⟨h.l0, h.l1⟩, fun c hc => decide_eq_true (h.c c hc)⟩
theorem e_nmL {n : Str} (h : NameOk n) (M : Store) : f__law_is_name [.str n] M = .ok (.bl true) M := by
  have := e_nameL (d := .str n) rfl (fun z e => by cases e; have := h.l1; omega) M
  rwa [show nmV (.str n) = true from h.nm] at this
end KX
namespace KX
open PySem PySem.Spec PyProof.Rows L2 DL
inductive Stg where
  | res (c : Str)
  | act (w a : Str) (s : Stg)
  | pour (a b : Str) (d f e : Stg)
def stD : Stg → D
  | .res c => .tup [.str "result", .str c]
  | .act w a s => .tup [.str "do", .tup [.str w, .str a], stD s]
  | .pour a b d f e => .tup [.str "pour", .str a, .str b, stD d, stD f, stD e]
def emS (t : Str) (u : List Str) (s : Stg) : Stg := if t ∈ u then .act "empty" t s else s
def piS : Nat → Str → Str → List Str → List Str → List Str → Stg
  | 0, _, _, _, _, _ => .res "zero"
  | n + 1, s, t, S, T, u => .pour s t
      (match S with
        | [] => .res "negative"
        | a :: S' => .act "fill" a (piS n a t S' T u))
      (match T with
        | [] => .res "positive"
        | b :: T' => emS b u (piS n s b S T' (u ++ [b])))
      (match S, T with
        | [], [] => .res "zero"
        | [], _ :: _ => .res "negative"
        | _ :: _, [] => .res "positive"
        | a :: S', b :: T' => .act "fill" a (emS b u (piS n a b S' T' (u ++ [b]))))
def nsS (n : Nat) (t : Str) (S T u : List Str) : Stg := match S with
  | [] => .res "negative"
  | a :: S' => .act "fill" a (piS n a t S' T u)
def ntS (n : Nat) (s : Str) (S T u : List Str) : Stg := match T with
  | [] => .res "positive"
  | b :: T' => emS b u (piS n s b S T' (u ++ [b]))
def bnS (n : Nat) (S T u : List Str) : Stg := match S, T with
  | [], [] => .res "zero"
  | [], _ :: _ => .res "negative"
  | _ :: _, [] => .res "positive"
  | a :: S', b :: T' => .act "fill" a (emS b u (piS n a b S' T' (u ++ [b])))
theorem piS_succ {n : Nat} {s t : Str} {S T u : List Str} : piS (n + 1) s t S T u = .pour s t (nsS n t S T u) (ntS n s S T u) (bnS n S T u) := rfl
abbrev strL (l : List Str) : D := .lst (l.map D.str)
theorem eqL_nilS {l : List Str} : eqL (eqF 59) (l.map D.str) [] = some l.isEmpty := by
  cases l <;> rfl
theorem emptied_p {t : Str} {u : List Str} {d : D} {M : Store} : f_emptied [.str t, strL u, d] M = .ok (if t ∈ u then .tup [.str "do", .tup [.str "empty", .str t], d] else d) M := Post.eq (by
  by_cases h : t ∈ u
  · simp [f_emptied, c_emptied, anyE_strs, h]
  · simp [f_emptied, c_emptied, anyE_strs, h])
theorem e_emptied {t : Str} {u : List Str} {s : Stg} {M : Store} : f_emptied [.str t, strL u, stD s] M = .ok (stD (emS t u s)) M := by
  rw [emptied_p]
  unfold emS
  split <;> rfl
theorem atI_z {α : Type} {x : α} {l : List α} : atI (x :: l) 0 = some x := by
  have := atI_n (l := x :: l) (n := 0)
  simpa using this
section
variable {n : Nat} (hp : ∀ (s t : Str) (S T u : List Str) (M : Store), S.length + T.length < n → u.length + T.length ≤ 20 → f_pour_into n [.str s, .str t, strL S, strL T, strL u] M = .ok (stD (piS n s t S T u)) M)
include hp
theorem e_ns {t : Str} {S T u : List Str} {M : Store} (h : S.length + T.length ≤ n) (hu : u.length + T.length ≤ 20) : k_next_source (f_pour_into n) [.str t, strL S, strL T, strL u] M = .ok (stD (nsS n t S T u)) M := Post.eq (by
  cases S with
  | nil => simp [k_next_source, c_next_source, nsS, stD, eqL_nilS]
  | cons a S' =>
    have e := hp a t S' T u M (by simp at h; omega) hu
    have ix : atI (D.str a :: S'.map D.str) 0 = some (.str a) := atI_z
    have en : eqL (eqF 59) (D.str a :: S'.map D.str) [] = some false := rfl
    simp [k_next_source, c_next_source, nsS, stD, ix, en, e])
theorem e_nt {s : Str} {S T u : List Str} {M : Store} (h : S.length + T.length ≤ n) (hu : u.length + T.length ≤ 20) : k_next_target (f_pour_into n) [.str s, strL S, strL T, strL u] M = .ok (stD (ntS n s S T u)) M := Post.eq (by
  cases T with
  | nil => simp [k_next_target, c_next_target, ntS, stD, eqL_nilS]
  | cons b T' =>
    have e := hp s b S T' (u ++ [b]) M (by simp at h; omega) (by simp at hu ⊢; omega)
    have ix : atI (D.str b :: T'.map D.str) 0 = some (.str b) := atI_z
    have en : eqL (eqF 59) (D.str b :: T'.map D.str) [] = some false := rfl
    have ga : gAdd (.lst (u.map D.str)) (.lst [.str b]) = some (strL (u ++ [b])) := by
      rw [gAdd_lst' (by simp at hu ⊢; omega)]
      simp
    have ee := e_emptied (t := b) (u := u) (s := piS n s b S T' (u ++ [b])) (M := M)
    simp [k_next_target, c_next_target, ntS, ix, en, ga, e, ee])
theorem e_bn {S T u : List Str} {M : Store} (h : S.length + T.length ≤ n) (hu : u.length + T.length ≤ 20) : k_both_next (f_pour_into n) [strL S, strL T, strL u] M = .ok (stD (bnS n S T u)) M := Post.eq (by
  cases S with
  | nil =>
    cases T with
    | nil => simp [k_both_next, c_both_next, bnS, stD, eqL_nilS]
    | cons b T' =>
      have en : eqL (eqF 59) (D.str b :: T'.map D.str) [] = some false := rfl
      simp [k_both_next, c_both_next, bnS, stD, eqL_nilS, en]
  | cons a S' =>
    have en1 : eqL (eqF 59) (D.str a :: S'.map D.str) [] = some false := rfl
    have ix : atI (D.str a :: S'.map D.str) 0 = some (.str a) := atI_z
    cases T with
    | nil => simp [k_both_next, c_both_next, bnS, stD, eqL_nilS, en1]
    | cons b T' =>
      have en2 : eqL (eqF 59) (D.str b :: T'.map D.str) [] = some false := rfl
      have e := e_nt hp (s := a) (S := S') (T := b :: T') (u := u) (M := M) (by simp at h ⊢; omega) hu
      have eb : ntS n a S' (b :: T') u = emS b u (piS n a b S' T' (u ++ [b])) := rfl
      rw [eb] at e
      simp [k_both_next, c_both_next, bnS, stD, en1, en2, ix, e])
end
theorem e_pi : ∀ (n : Nat) (s t : Str) (S T u : List Str) (M : Store), S.length + T.length < n → u.length + T.length ≤ 20 → f_pour_into n [.str s, .str t, strL S, strL T, strL u] M = .ok (stD (piS n s t S T u)) M
  | 0, _, _, _, _, _, _, h, _ => absurd h (by omega)
  | n + 1, s, t, S, T, u, M, h, hu => Post.eq (by
    have hp := e_pi n
    have e1 := e_ns hp (t := t) (S := S) (T := T) (u := u) (M := M) (by omega) hu
    have e2 := e_nt hp (s := s) (S := S) (T := T) (u := u) (M := M) (by omega) hu
    have e3 := e_bn hp (S := S) (T := T) (u := u) (M := M) (by omega) hu
    rw [piS_succ]
    simp [f_pour_into, c_pour_into, stD, e1, e2, e3])
end KX
namespace KX
open PySem PySem.Spec PyProof.Rows L2 DL
def okG : Stg → Prop
  | .res c => c = Str.ofString "negative" ∨ c = Str.ofString "zero" ∨ c = Str.ofString "positive"
  | .act w a s => (w = Str.ofString "fill" ∨ w = Str.ofString "empty") ∧ NameOk a ∧ okG s
  | .pour a b d f e => NameOk a ∧ NameOk b ∧ a ≠ b ∧ okG d ∧ okG f ∧ okG e
def dpG : Stg → Nat
  | .res _ => 1
  | .act _ _ s => 1 + dpG s
  | .pour _ _ d f e => 1 + max (dpG d) (max (dpG f) (dpG e))
def poG : Stg → Nat
  | .res _ => 0
  | .act _ _ s => poG s
  | .pour _ _ d f e => 1 + max (poG d) (max (poG f) (poG e))
def brG : Nat → Stg → Prop
  | _, .res _ => True
  | k, .act _ _ s => brG (k + 1) s
  | k, .pour _ _ d f e => k < 3 ∧ brG 0 d ∧ brG 0 f ∧ brG 0 e
def usG : Stg → List Str
  | .res _ => []
  | .act _ a s => a :: usG s
  | .pour a b d f e => a :: b :: (usG d ++ usG f ++ usG e)
theorem w_rd : (Str.ofString "result" = Str.ofString "do") = False := eq_false (by decide +kernel)
theorem w_dr : (Str.ofString "do" = Str.ofString "result") = False := eq_false (by decide +kernel)
theorem w_pr : (Str.ofString "pour" = Str.ofString "result") = False := eq_false (by decide +kernel)
theorem w_pd : (Str.ofString "pour" = Str.ofString "do") = False := eq_false (by decide +kernel)
theorem w_rp : (Str.ofString "result" = Str.ofString "pour") = False := eq_false (by decide +kernel)
theorem cut3 {a b c d e f : D} : DL.cutD [a, b, c, d, e, f] (some 3) none = [d, e, f] := rfl
theorem cut13 {a b c d e f : D} : DL.cutD [a, b, c, d, e, f] (some 1) (some 3) = [b, c] := rfl
section
variable {M : Store}
theorem st_tup (s : Stg) : ∃ xs, stD s = .tup xs := by cases s <;> exact ⟨_, rfl⟩
theorem vw_st (s : Stg) (M : Store) : vwD M (stD s) = some (stD s) := by cases s <;> rfl
theorem in3 {c : Str} (h : c = Str.ofString "negative" ∨ c = Str.ofString "zero" ∨ c = Str.ofString "positive") : gIn (.str c) (.tup [.str "negative", .str "zero", .str "positive"]) = some (.bl true) := by
  rcases h with rfl | rfl | rfl <;> rfl
theorem nin2 {w : Str} (h : w = Str.ofString "fill" ∨ w = Str.ofString "empty") : gNotIn (.str w) (.tup [.str "fill", .str "empty"]) = some (.bl false) := by
  rcases h with rfl | rfl <;> rfl
theorem e_iss : ∀ (n : Nat) (s : Stg) (M : Store), dpG s ≤ n → okG s → f__law_is_strategy n [stD s] M = .ok (.bl true) M
  | 0, s, M, h, _ => by cases s <;> simp [dpG] at h
  | n + 1, .res c, M, _, ok => Post.eq (by
    have i3 := in3 ok
    simp [f__law_is_strategy, c__law_is_strategy, stD, i3])
  | n + 1, .act w a s, M, h, ok => Post.eq (by
    obtain ⟨hw, ha, hs⟩ := ok
    have ih := e_iss n s M (by simp [dpG] at h; omega) hs
    have en := e_nmL ha M
    have i2 := nin2 hw
    simp [f__law_is_strategy, c__law_is_strategy, stD, w_dr, i2, en, ih])
  | n + 1, .pour a b d f e, M, h, ok => Post.eq (by
    obtain ⟨ha, hb, hab, hd, hf, he⟩ := ok
    have hm : dpG d ≤ n ∧ dpG f ≤ n ∧ dpG e ≤ n := by
      simp only [dpG] at h
      omega
    have i1 := e_iss n d M hm.1 hd
    have i2 := e_iss n f M hm.2.1 hf
    have i3 := e_iss n e M hm.2.2 he
    have ea := e_nmL ha M
    have eb := e_nmL hb M
    have vd := vw_st d M
    have vf := vw_st f M
    have ve := vw_st e M
    simp [f__law_is_strategy, c__law_is_strategy, stD, w_pr, w_pd, ea, eb, hab, cut3, wipeE, m_compL_cons, i1, i2, i3])
theorem e_pours : ∀ (n : Nat) (s : Stg) (M : Store), dpG s ≤ n → f__law_pours n [stD s] M = .ok (.int (poG s)) M
  | 0, s, M, h => by cases s <;> simp [dpG] at h
  | n + 1, .res c, M, _ => Post.eq (by simp [f__law_pours, c__law_pours, stD, poG])
  | n + 1, .act w a s, M, h => Post.eq (by
    have ih := e_pours n s M (by simp [dpG] at h; omega)
    simp [f__law_pours, c__law_pours, stD, w_dr, ih, poG])
  | n + 1, .pour a b d f e, M, h => Post.eq (by
    have hm : dpG d ≤ n ∧ dpG f ≤ n ∧ dpG e ≤ n := by
      simp only [dpG] at h
      omega
    have i1 := e_pours n d M hm.1
    have i2 := e_pours n f M hm.2.1
    have i3 := e_pours n e M hm.2.2
    have gm : gMaxL [.lst [.int (poG d), .int (poG f), .int (poG e)]] = some (.int ((max (poG d) (max (poG f) (poG e)) : Nat) : Int)) := by
      show (([(poG d : Int), (poG f : Int), (poG e : Int)] : List Int).max?).map D.int = _
      have : ([(poG d : Int), (poG f : Int), (poG e : Int)] : List Int).max? = some ((max (poG d) (max (poG f) (poG e)) : Nat) : Int) := by
        simp only [List.max?_cons', List.foldl_cons, List.foldl_nil]
        congr 1
        omega
      rw [this]
      rfl
    simp [f__law_pours, c__law_pours, stD, w_pr, w_pd, cut3, wipeE, m_compL_cons, i1, i2, i3, gm, poG])
theorem e_brief : ∀ (n : Nat) (s : Stg) (k : Nat) (M : Store), dpG s ≤ n → k ≤ 60 → dpG s + k ≤ 60 → brG k s → f__law_is_brief n [stD s, .int k] M = .ok (.bl true) M
  | 0, s, k, M, h, _, _, _ => by cases s <;> simp [dpG] at h
  | n + 1, .res c, k, M, _, _, _, _ => Post.eq (by simp [f__law_is_brief, c__law_is_brief, stD, w_rd, w_rp])
  | n + 1, .act w a s, k, M, h, hk, hk2, hb => Post.eq (by
    have ih := e_brief n s (k + 1) M (by simp [dpG] at h; omega) (by simp [dpG] at hk2; omega) (by simp [dpG] at hk2; omega) hb
    rw [show ((k + 1 : Nat) : Int) = (k : Int) + 1 by omega] at ih
    simp [f__law_is_brief, c__law_is_brief, stD, ih])
  | n + 1, .pour a b d f e, k, M, h, hk, hk2, hb => Post.eq (by
    obtain ⟨h3, hd, hf, he⟩ := hb
    have hm : dpG d ≤ n ∧ dpG f ≤ n ∧ dpG e ≤ n := by
      simp only [dpG] at h
      omega
    have hm2 : dpG d ≤ 60 ∧ dpG f ≤ 60 ∧ dpG e ≤ 60 := by
      simp only [dpG] at hk2
      omega
    have i1 := e_brief n d 0 M hm.1 (by omega) (by omega) hd
    have i2 := e_brief n f 0 M hm.2.1 (by omega) (by omega) hf
    have i3 := e_brief n e 0 M hm.2.2 (by omega) (by omega) he
    have k3 : (k : Int) < 3 := by omega
    rw [show ((0 : Nat) : Int) = 0 from rfl] at i1 i2 i3
    simp [f__law_is_brief, c__law_is_brief, stD, w_pr, w_pd, cut3, wipeE, m_compL_cons, i1, i2, i3, k3, h3])
theorem e_used : ∀ (n : Nat) (s : Stg) (M : Store), dpG s ≤ n → (usG s).length ≤ 16000000 → f__law_used n [stD s] M = .ok (strL (usG s)) M
  | 0, s, M, h, _ => by cases s <;> simp [dpG] at h
  | n + 1, .res c, M, _, _ => Post.eq (by simp [f__law_used, c__law_used, stD, usG])
  | n + 1, .act w a s, M, h, hl => Post.eq (by
    have ih := e_used n s M (by simp [dpG] at h; omega) (by simp [usG] at hl; omega)
    have ga : gAdd (.lst [.str a]) (.lst ((usG s).map D.str)) = some (.lst (.str a :: (usG s).map D.str)) := by
      rw [gAdd_lst' (by simp [usG] at hl ⊢; omega)]
      rfl
    simp [f__law_used, c__law_used, stD, w_dr, ih, ga, usG])
  | n + 1, .pour a b d f e, M, h, hl => Post.eq (by
    have hm : dpG d ≤ n ∧ dpG f ≤ n ∧ dpG e ≤ n := by
      simp only [dpG] at h
      omega
    simp only [usG, List.length_cons, List.length_append] at hl
    have i1 := e_used n d M hm.1 (by omega)
    have i2 := e_used n f M hm.2.1 (by omega)
    have i3 := e_used n e M hm.2.2 (by omega)
    have g1 : gAdd (.lst [.str a, .str b]) (.lst ((usG d).map D.str)) = some (strL (a :: b :: usG d)) := by
      rw [gAdd_lst' (by simp; omega)]
      rfl
    have g2 : gAdd (strL (a :: b :: usG d)) (.lst ((usG f).map D.str)) = some (strL (a :: b :: (usG d ++ usG f))) := by
      rw [gAdd_lst' (by simp; omega)]
      simp
    have g3 : gAdd (strL (a :: b :: (usG d ++ usG f))) (.lst ((usG e).map D.str)) = some (strL (a :: b :: (usG d ++ usG f ++ usG e))) := by
      rw [gAdd_lst' (by simp; omega)]
      simp
    have gl : gList [.tup [.str a, .str b]] = some (.lst [.str a, .str b]) := rfl
    simp only [strL, List.map_cons, List.map_append] at g2 g3
    simp [f__law_used, c__law_used, stD, w_pr, w_pd, cut3, cut13, gl, wipeE, m_loopF_cons, i1, i2, i3, g1, g2, g3, usG])
end
theorem em_ok {t : Str} {u : List Str} {s : Stg} (ht : NameOk t) (h : okG s) : okG (emS t u s) := by
  unfold emS
  split
  · exact ⟨.inr rfl, ht, h⟩
  · exact h
theorem em_dp {t : Str} {u : List Str} {s : Stg} : dpG (emS t u s) ≤ 1 + dpG s := by
  unfold emS
  split
  · exact Nat.le_refl _
  · omega
theorem em_po {t : Str} {u : List Str} {s : Stg} : poG (emS t u s) = poG s := by
  unfold emS
  split <;> rfl
theorem em_us {t x : Str} {u : List Str} {s : Stg} (h : x ∈ usG (emS t u s)) : x = t ∨ x ∈ usG s := by
  unfold emS at h
  split at h
  · exact List.mem_cons.mp h
  · exact .inr h
theorem em_ul {t : Str} {u : List Str} {s : Stg} : (usG (emS t u s)).length ≤ 1 + (usG s).length := by
  unfold emS
  split
  · simp [usG]
    omega
  · omega
theorem pi_ok : ∀ (n : Nat) (s t : Str) (S T u : List Str), NameOk s → NameOk t → (∀ x ∈ S, NameOk x) → (∀ x ∈ T, NameOk x) → (∀ x ∈ s :: S, ∀ y ∈ t :: T, x ≠ y) → okG (piS n s t S T u)
  | 0, _, _, _, _, _, _, _, _, _, _ => .inr (.inl rfl)
  | n + 1, s, t, S, T, u, hs, ht, hS, hT, hne => by
    rw [piS_succ]
    refine ⟨hs, ht, hne s List.mem_cons_self t List.mem_cons_self, ?_, ?_, ?_⟩
    · cases S with
      | nil => exact .inl rfl
      | cons a S' => exact ⟨.inl rfl, hS a List.mem_cons_self, pi_ok n a t S' T u (hS a List.mem_cons_self) ht (fun x hx => hS x (List.mem_cons_of_mem _ hx)) hT fun x hx y hy => hne x (List.mem_cons_of_mem _ hx) y hy⟩
    · cases T with
      | nil => exact .inr (.inr rfl)
      | cons b T' => exact em_ok (hT b List.mem_cons_self) (pi_ok n s b S T' _ hs (hT b List.mem_cons_self) hS (fun x hx => hT x (List.mem_cons_of_mem _ hx)) fun x hx y hy => hne x hx y (List.mem_cons_of_mem _ hy))
    · cases S with
      | nil =>
        cases T with
        | nil => exact .inr (.inl rfl)
        | cons b T' => exact .inl rfl
      | cons a S' =>
        cases T with
        | nil => exact .inr (.inr rfl)
        | cons b T' => exact ⟨.inl rfl, hS a List.mem_cons_self, em_ok (hT b List.mem_cons_self) (pi_ok n a b S' T' _ (hS a List.mem_cons_self) (hT b List.mem_cons_self) (fun x hx => hS x (List.mem_cons_of_mem _ hx)) (fun x hx => hT x (List.mem_cons_of_mem _ hx)) fun x hx y hy => hne x (List.mem_cons_of_mem _ hx) y (List.mem_cons_of_mem _ hy))⟩
theorem pi_dp : ∀ (n : Nat) (s t : Str) (S T u : List Str), dpG (piS n s t S T u) ≤ 3 * n + 1
  | 0, _, _, _, _, _ => Nat.le_refl _
  | n + 1, s, t, S, T, u => by
    rw [piS_succ]
    have h1 : dpG (nsS n t S T u) ≤ 3 * n + 3 := by
      cases S with
      | nil => simp [nsS, dpG]
      | cons a S' =>
        have := pi_dp n a t S' T u
        simp only [nsS, dpG]
        omega
    have h2 : dpG (ntS n s S T u) ≤ 3 * n + 3 := by
      cases T with
      | nil => simp [ntS, dpG]
      | cons b T' =>
        have := pi_dp n s b S T' (u ++ [b])
        have := em_dp (t := b) (u := u) (s := piS n s b S T' (u ++ [b]))
        simp only [ntS]
        omega
    have h3 : dpG (bnS n S T u) ≤ 3 * n + 3 := by
      cases S with
      | nil => cases T <;> simp [bnS, dpG]
      | cons a S' =>
        cases T with
        | nil => simp [bnS, dpG]
        | cons b T' =>
          have := pi_dp n a b S' T' (u ++ [b])
          have := em_dp (t := b) (u := u) (s := piS n a b S' T' (u ++ [b]))
          simp only [bnS, dpG]
          omega
    simp only [dpG]
    omega
theorem pi_po : ∀ (n : Nat) (s t : Str) (S T u : List Str), poG (piS n s t S T u) ≤ S.length + T.length + 1
  | 0, _, _, _, _, _ => by simp [piS, poG]
  | n + 1, s, t, S, T, u => by
    rw [piS_succ]
    have h1 : poG (nsS n t S T u) ≤ S.length + T.length := by
      cases S with
      | nil => simp [nsS, poG]
      | cons a S' =>
        have := pi_po n a t S' T u
        simp only [nsS, poG, List.length_cons]
        omega
    have h2 : poG (ntS n s S T u) ≤ S.length + T.length := by
      cases T with
      | nil => simp [ntS, poG]
      | cons b T' =>
        have := pi_po n s b S T' (u ++ [b])
        simp only [ntS, em_po, List.length_cons]
        omega
    have h3 : poG (bnS n S T u) ≤ S.length + T.length := by
      cases S with
      | nil => cases T <;> simp [bnS, poG]
      | cons a S' =>
        cases T with
        | nil => simp [bnS, poG]
        | cons b T' =>
          have := pi_po n a b S' T' (u ++ [b])
          simp only [bnS, poG, em_po, List.length_cons]
          omega
    simp only [poG]
    omega
theorem em_br {t : Str} {u : List Str} {s : Stg} {k : Nat} (h : ∀ j, j ≤ 2 → brG j s) (hk : k ≤ 1) : brG k (emS t u s) := by
  unfold emS
  split
  · exact h (k + 1) (by omega)
  · exact h k (by omega)
theorem pi_br : ∀ (n : Nat) (s t : Str) (S T u : List Str) (k : Nat), k ≤ 2 → brG k (piS n s t S T u)
  | 0, _, _, _, _, _, _, _ => trivial
  | n + 1, s, t, S, T, u, k, hk => by
    rw [piS_succ]
    refine ⟨by omega, ?_, ?_, ?_⟩
    · cases S with
      | nil => trivial
      | cons a S' => exact pi_br n a t S' T u 1 (by omega)
    · cases T with
      | nil => trivial
      | cons b T' => exact em_br (fun j hj => pi_br n s b S T' _ j hj) (by omega)
    · cases S with
      | nil => cases T <;> trivial
      | cons a S' =>
        cases T with
        | nil => trivial
        | cons b T' => exact em_br (k := 1) (fun j hj => pi_br n a b S' T' _ j hj) (by omega)
theorem pi_us : ∀ (n : Nat) (s t : Str) (S T u : List Str) (x : Str), x ∈ usG (piS n s t S T u) → x = s ∨ x = t ∨ x ∈ S ∨ x ∈ T
  | 0, _, _, _, _, _, _, h => by cases h
  | n + 1, s, t, S, T, u, x, h => by
    rw [piS_succ] at h
    simp only [usG, List.mem_cons, List.mem_append] at h
    rcases h with h | h | (h | h) | h
    · exact .inl h
    · exact .inr (.inl h)
    · cases S with
      | nil => cases h
      | cons a S' =>
        rcases List.mem_cons.mp h with rfl | h
        · exact .inr (.inr (.inl List.mem_cons_self))
        · rcases pi_us n a t S' T u x h with rfl | rfl | h | h
          · exact .inr (.inr (.inl List.mem_cons_self))
          · exact .inr (.inl rfl)
          · exact .inr (.inr (.inl (List.mem_cons_of_mem _ h)))
          · exact .inr (.inr (.inr h))
    · cases T with
      | nil => cases h
      | cons b T' =>
        rcases em_us h with rfl | h
        · exact .inr (.inr (.inr List.mem_cons_self))
        · rcases pi_us n s b S T' _ x h with rfl | rfl | h | h
          · exact .inl rfl
          · exact .inr (.inr (.inr List.mem_cons_self))
          · exact .inr (.inr (.inl h))
          · exact .inr (.inr (.inr (List.mem_cons_of_mem _ h)))
    · cases S with
      | nil => cases T <;> cases h
      | cons a S' =>
        cases T with
        | nil => cases h
        | cons b T' =>
          rcases List.mem_cons.mp h with rfl | h
          · exact .inr (.inr (.inl List.mem_cons_self))
          · rcases em_us h with rfl | h
            · exact .inr (.inr (.inr List.mem_cons_self))
            · rcases pi_us n a b S' T' _ x h with rfl | rfl | h | h
              · exact .inr (.inr (.inl List.mem_cons_self))
              · exact .inr (.inr (.inr List.mem_cons_self))
              · exact .inr (.inr (.inl (List.mem_cons_of_mem _ h)))
              · exact .inr (.inr (.inr (List.mem_cons_of_mem _ h)))
theorem pi_ul : ∀ (n : Nat) (s t : Str) (S T u : List Str), (usG (piS n s t S T u)).length + 3 ≤ 3 ^ (n + 1)
  | 0, _, _, _, _, _ => by simp [piS, usG]
  | n + 1, s, t, S, T, u => by
    rw [piS_succ]
    have p0 : 3 ≤ 3 ^ (n + 1) := by
      have := Nat.one_le_two_pow (n := n)
      rw [Nat.pow_succ]
      have : 1 ≤ 3 ^ n := Nat.one_le_pow _ _ (by decide)
      omega
    have h1 : (usG (nsS n t S T u)).length + 2 ≤ 3 ^ (n + 1) := by
      cases S with
      | nil => simp [nsS, usG]; omega
      | cons a S' =>
        have := pi_ul n a t S' T u
        simp only [nsS, usG, List.length_cons]
        omega
    have h2 : (usG (ntS n s S T u)).length + 2 ≤ 3 ^ (n + 1) := by
      cases T with
      | nil => simp [ntS, usG]; omega
      | cons b T' =>
        have := pi_ul n s b S T' (u ++ [b])
        have := em_ul (t := b) (u := u) (s := piS n s b S T' (u ++ [b]))
        simp only [ntS]
        omega
    have h3 : (usG (bnS n S T u)).length + 1 ≤ 3 ^ (n + 1) := by
      cases S with
      | nil => cases T <;> simp [bnS, usG] <;> omega
      | cons a S' =>
        cases T with
        | nil => simp [bnS, usG]; omega
        | cons b T' =>
          have := pi_ul n a b S' T' (u ++ [b])
          have := em_ul (t := b) (u := u) (s := piS n a b S' T' (u ++ [b]))
          simp only [bnS, usG, List.length_cons]
          omega
    simp only [usG, List.length_cons, List.length_append]
    rw [show 3 ^ (n + 1 + 1) = 3 * 3 ^ (n + 1) by rw [Nat.pow_succ, Nat.mul_comm]]
    omega
end KX
namespace KX
open PySem PySem.Spec PyProof.Rows L2 DL
def wc : List Str → List Str → List Str → List Str × List Str
  | [], l, r => (l, r)
  | n :: o, l, r => if n ∈ r then wc o l (r.erase n) else wc o (l ++ [n]) r
theorem wc_snoc (n : Str) : ∀ (o l r : List Str), wc (o ++ [n]) l r = if n ∈ (wc o l r).2 then ((wc o l r).1, (wc o l r).2.erase n) else ((wc o l r).1 ++ [n], (wc o l r).2)
  | [], l, r => by
    by_cases h : n ∈ r <;> simp [wc, h]
  | m :: o, l, r => by
    simp only [List.cons_append, wc]
    split
    · exact wc_snoc n o l (r.erase m)
    · exact wc_snoc n o (l ++ [m]) r
theorem wc_sub : ∀ {o l r : List Str}, (∀ x ∈ (wc o l r).1, x ∈ l ∨ x ∈ o) ∧ (∀ x ∈ (wc o l r).2, x ∈ r) ∧ (wc o l r).1.length ≤ l.length + o.length ∧ (wc o l r).2.length ≤ r.length
  | [], l, r => ⟨fun x h => .inl h, fun x h => h, by simp [wc], by simp [wc]⟩
  | n :: o, l, r => by
    unfold wc
    split
    · obtain ⟨h1, h2, h3, h4⟩ := wc_sub (o := o) (l := l) (r := r.erase n)
      have := List.length_erase_le (a := n) (l := r)
      exact ⟨fun x hx => (h1 x hx).imp_right (List.mem_cons_of_mem _), fun x hx => List.mem_of_mem_erase (h2 x hx), by simp; omega, by omega⟩
    · obtain ⟨h1, h2, h3, h4⟩ := wc_sub (o := o) (l := l ++ [n]) (r := r)
      refine ⟨fun x hx => ?_, h2, by simp at h3 ⊢; omega, h4⟩
      rcases h1 x hx with h | h
      · rcases List.mem_append.mp h with h | h
        · exact .inl h
        · rw [List.mem_singleton.mp h]
          exact .inr List.mem_cons_self
      · exact .inr (List.mem_cons_of_mem _ h)
theorem wc_dis : ∀ {o l r : List Str}, (∀ x ∈ l, x ∉ r) → ∀ x ∈ (wc o l r).1, x ∉ (wc o l r).2
  | [], l, r, h => h
  | n :: o, l, r, h => by
    unfold wc
    split
    · exact wc_dis (o := o) fun x hx z => h x hx (List.mem_of_mem_erase z)
    · rename_i hn
      refine wc_dis (o := o) fun x hx => ?_
      rcases List.mem_append.mp hx with hx | hx
      · exact h x hx
      · rw [List.mem_singleton.mp hx]
        exact hn
theorem strsD_m : ∀ l : List Str, strsD (l.map D.str) = some l
  | [] => rfl
  | a :: l => by
    rw [List.map_cons, strsD, strsD_m l]
    rfl
theorem mRem {a : Str} {l : List Str} (h : a ∈ l) : mRemove (.lst (l.map D.str)) [.str a] = some (.lst ((l.erase a).map D.str), .non) := by
  show (strsD _).bind _ = _
  rw [strsD_m]
  simp [h]
def LT (mk : List D → D) : Prop := mk = D.lst ∨ mk = D.tup
def WcI (d1 d2 : D) (o r0 : List Str) (M : Store) (i : Nat) (en : En) (M' : Store) : Prop := M' = M ∧ ∃ x4 : Option Slot, en = [some (.val d1), some (.val d2), some (.own (.lst ((wc (o.take i) [] r0).2.map D.str))), some (.own (.lst ((wc (o.take i) [] r0).1.map D.str))), x4]
section
variable {o r : List Str} {M : Store}
theorem e_wc {mk mk' : List D → D} (hm : LT mk) (hm' : LT mk') (ho : o.length ≤ 20) (hr : r.length ≤ 20) : f_without_common [mk (o.map D.str), mk' (r.map D.str)] M = .ok (.tup [strL (wc o [] r).1, strL (wc o [] r).2]) M := Post.eq (by
  have gl : gList [mk' (r.map D.str)] = some (.lst (r.map D.str)) := by rcases hm' with rfl | rfl <;> rfl
  have vm : ∀ M, vwD M (mk' (r.map D.str)) = some (mk' (r.map D.str)) := fun M => by rcases hm' with rfl | rfl <;> rfl
  rcases hm with rfl | rfl
  all_goals
    simp (disch := first | omega | (simp <;> omega) | fail) [f_without_common, c_without_common, gl, vm]
    first
      | refine for_inv (WcI (.lst (o.map D.str)) (mk' (r.map D.str)) o r M) ⟨rfl, none, rfl⟩ (fun en M' hi => ?_) fun i x en M' hx hi => ?_
      | refine for_inv (WcI (.tup (o.map D.str)) (mk' (r.map D.str)) o r M) ⟨rfl, none, rfl⟩ (fun en M' hi => ?_) fun i x en M' hx hi => ?_
    · obtain ⟨rfl, x4, rfl⟩ := hi
      rw [List.length_map, List.take_length]
      simp
    · obtain ⟨rfl, x4, rfl⟩ := hi
      rw [List.getElem?_map] at hx
      obtain ⟨n, hn, rfl⟩ := Option.map_eq_some_iff.mp hx
      have et : o.take (i + 1) = o.take i ++ [n] := by rw [List.take_add_one, hn]; rfl
      have ws := wc_snoc n (o.take i) [] r
      rw [← et] at ws
      obtain ⟨_, _, l3, l4⟩ := wc_sub (o := o.take i) (l := []) (r := r)
      have lt := List.length_take_le i o
      have lt2 : (o.take i).length ≤ 20 := by rw [List.length_take]; omega
      generalize wc (o.take i) [] r = p at *
      by_cases h : n ∈ p.2
      · rw [if_pos h] at ws
        simp [anyE_strs, h, mRem h]
        exact ⟨rfl, some (.val (.str n)), by rw [ws]⟩
      · rw [if_neg h] at ws
        have ma := mAppend_lst (xs := p.1.map D.str) (d := .str n) (by simp at l3 ⊢; omega)
        simp [anyE_strs, h, ma]
        exact ⟨rfl, some (.val (.str n)), by rw [ws]; simp⟩)
theorem e_left (ho : o.length ≤ 20) (hr : r.length ≤ 20) : f__law_left [strL o, strL r] M = .ok (.tup [strL (wc o [] r).1, strL (wc o [] r).2]) M := Post.eq (by
  have gl : gList [strL r] = some (.lst (r.map D.str)) := rfl
  simp (disch := first | omega | (simp <;> omega) | fail) [f__law_left, c__law_left, gl]
  refine for_inv (WcI (strL o) (strL r) o r M) ⟨rfl, none, by simp [wc]⟩ (fun en M' hi => ?_) fun i x en M' hx hi => ?_
  · obtain ⟨rfl, x4, rfl⟩ := hi
    rw [List.length_map, List.take_length]
    simp
  · obtain ⟨rfl, x4, rfl⟩ := hi
    rw [List.getElem?_map] at hx
    obtain ⟨n, hn, rfl⟩ := Option.map_eq_some_iff.mp hx
    have et : o.take (i + 1) = o.take i ++ [n] := by rw [List.take_add_one, hn]; rfl
    have ws := wc_snoc n (o.take i) [] r
    rw [← et] at ws
    obtain ⟨_, _, l3, l4⟩ := wc_sub (o := o.take i) (l := []) (r := r)
    have lt2 : (o.take i).length ≤ 20 := by rw [List.length_take]; omega
    generalize wc (o.take i) [] r = p at *
    by_cases h : n ∈ p.2
    · rw [if_pos h] at ws
      simp [anyE_strs, h, mRem h]
      exact ⟨rfl, some (.val (.str n)), by rw [ws]⟩
    · rw [if_neg h] at ws
      have ma := mAppend_lst (xs := p.1.map D.str) (d := .str n) (by simp at l3 ⊢; omega)
      simp [anyE_strs, h, ma]
      exact ⟨rfl, some (.val (.str n)), by rw [ws]; simp⟩)
def itV : D → Option (List D)
  | .lst xs => some xs
  | .tup xs => some xs
  | _ => none
def badX : Nat → List D → Option D
  | _, [] => none
  | k, x :: r => if 5 ≤ k ∨ nmV x = false then some x else badX (k + 1) r
def chkV (d : D) : Option D := match itV d with
  | none => some .non
  | some xs => badX 0 xs
theorem badX_all : ∀ {xs : List D} {k : Nat}, (∀ x ∈ xs, nmV x = true) → k + xs.length ≤ 5 → badX k xs = none
  | [], _, _, _ => rfl
  | x :: r, k, h, hk => by
    simp only [List.length_cons] at hk
    unfold badX
    rw [if_neg (by
      rintro (z | z)
      · omega
      · rw [h x List.mem_cons_self] at z
        cases z), badX_all (fun y hy => h y (List.mem_cons_of_mem _ hy)) (by omega)]
theorem badX_at : ∀ {xs : List D} {k : Nat} {x : D} {r : List D}, (∀ y ∈ xs, nmV y = true) → k + xs.length ≤ 5 → (5 ≤ k + xs.length ∨ nmV x = false) → badX k (xs ++ x :: r) = some x
  | [], k, x, r, _, _, h => by
    rw [List.nil_append, badX, if_pos (by simpa using h)]
  | y :: xs, k, x, r, hy, hk, h => by
    simp only [List.length_cons] at hk h
    rw [List.cons_append, badX, if_neg (by
      rintro (z | z)
      · omega
      · rw [hy y List.mem_cons_self] at z
        cases z), badX_at (fun z hz => hy z (List.mem_cons_of_mem _ hz)) (by omega) (h.imp_left fun z => by omega)]
structure Vl (d : D) : Prop where
  i : itm d = true
  x : ∀ xs, itV d = some xs → xs.length ≤ 20 ∧ ∀ x ∈ xs, itm x = true ∧ ∀ z, x = .str z → z.length ≤ 100
noncomputable def ckI : CS := ifS (bOr (bT gGe (hd (eVar 3)) (hd (eC (.int 5)))) (bNot (bTru (hd (eFn f_is_name (aCons (eVar 4) (aNil))))))) (raiseS "InvalidName" "name" (aCons (eVar 4) (aNil))) (nilS)
noncomputable def ckB : CS := seqS (ifS (bNot (bTru (hd (eIsi2 .list .tuple (hd (eVar 2)))))) (raiseS "InvalidName" "name" (aCons (eC .non) (aNil))) (nilS)) <| forS (iEnumD (aCons (eVar 2) (aNil))) (.tup [.name 3, .name 4]) ckI
theorem ck_code : c_check_names = forS (iSeqK (eTup (aCons (eVar 0) (aCons (eVar 1) (aNil))))) (.name 2) ckB := rfl
def BadI (d : D) (xs : List D) (x0 x1 : Option Slot) (M : Store) (i : Nat) (en : En) (M' : Store) : Prop := M' = M ∧ (∃ x3 x4 : Option Slot, en = [x0, x1, some (.val d), x3, x4]) ∧ i ≤ 5 ∧ ∀ y ∈ xs.take i, nmV y = true
def ckQ (d : D) (x0 x1 : Option Slot) (M : Store) : QF := fun fl M' => M' = M ∧ ((chkV d = none ∧ ∃ y3 y4, fl = .next [x0, x1, some (.val d), y3, y4]) ∨ ∃ e en', chkV d = some e ∧ fl = .exc "InvalidName" [("name", e)] en')
theorem ck_body {d : D} {x0 x1 x3 x4 : Option Slot} (v : Vl d) : Post (ckB [x0, x1, some (.val d), x3, x4] M) (ckQ d x0 x1 M) kNo := by
  have i1 := isi_lt v.i
  have v1 := vw_itm v.i
  cases hd : itV d with
  | none =>
    have hf : isLT d = false := by cases d <;> first | rfl | cases hd
    rw [hf] at i1
    have en : chkV d = some .non := by unfold chkV; rw [hd]
    simp [ckB, i1, v1]
    exact ⟨rfl, .inr ⟨_, _, en, rfl⟩⟩
  | some xs =>
    have hf : isLT d = true := by cases d <;> first | rfl | cases hd
    rw [hf] at i1
    have hx := v.x xs hd
    have en : chkV d = badX 0 xs := by unfold chkV; rw [hd]
    have lp : Post (loopF (.tup [.name 3, .name 4]) [] ckI (enumD 0 xs) [x0, x1, some (.val d), x3, x4] M) (ckQ d x0 x1 M) kNo := by
      refine for_inv (BadI d xs x0 x1 M) ⟨rfl, ⟨_, _, rfl⟩, by omega, by simp⟩ (fun en' M' hi => ?_) fun i x en' M' hx' hi => ?_
      · obtain ⟨rfl, ⟨y3, y4, rfl⟩, h5, h⟩ := hi
        rw [enumD_len] at h5 h
        rw [List.take_length] at h
        exact ⟨rfl, .inl ⟨by rw [en]; exact badX_all h (by omega), _, _, rfl⟩⟩
      · obtain ⟨rfl, ⟨y3, y4, rfl⟩, h5, h⟩ := hi
        obtain ⟨y, hy, rfl⟩ := enum_at hx'
        have hym := List.mem_of_getElem? hy
        obtain ⟨q1, q2⟩ := hx.2 y hym
        have ei := e_nameV q1 q2
        have vy := vw_itm q1
        have hil := (List.getElem?_eq_some_iff.mp hy).1
        have ex : xs = xs.take i ++ y :: xs.drop (i + 1) := by
          obtain ⟨hi, e⟩ := List.getElem?_eq_some_iff.mp hy
          rw [← e, ← List.drop_eq_getElem_cons hi, List.take_append_drop]
        have lt : (xs.take i).length = i := by rw [List.length_take]; omega
        have et : xs.take (i + 1) = xs.take i ++ [y] := by rw [List.take_add_one, hy]; rfl
        by_cases h5' : 5 ≤ i
        · have h5i : (5 : Int) ≤ (i : Int) := by omega
          simp [ckI, h5i, h5', vy]
          exact ⟨rfl, .inr ⟨_, _, by rw [en, ex]; exact badX_at h (by omega) (by left; omega), rfl⟩⟩
        · have h5i : ¬ (5 : Int) ≤ (i : Int) := by omega
          by_cases hn : nmV y = true
          · simp [ckI, h5i, h5', ei, hn]
            refine ⟨rfl, ⟨_, _, rfl⟩, by omega, fun z hz => ?_⟩
            rw [et] at hz
            rcases List.mem_append.mp hz with hz | hz
            · exact h z hz
            · rw [List.mem_singleton.mp hz]
              exact hn
          · have hn : nmV y = false := by simpa using hn
            simp [ckI, h5i, h5', ei, hn, vy]
            exact ⟨rfl, .inr ⟨_, _, by rw [en, ex]; exact badX_at h (by omega) (by right; exact hn), rfl⟩⟩
    have len := hx.1
    cases d <;> first | cases hd | skip
    all_goals
      simp (disch := first | omega | (simp <;> omega) | fail) [ckB, i1]
      exact lp
end
end KX
namespace KX
open PySem PySem.Spec PyProof.Rows L2 DL
theorem Post.eqx {α : Type} {x : Out α} {c : Str} {fs : List (Str × D)} {M : Store} (h : Post x (fun _ _ => False) (fun c' fs' M' => c' = c ∧ fs' = fs ∧ M' = M)) : x = .exc c fs M := by
  cases x with
  | ok d M1 => exact h.elim
  | exc c1 fs1 M1 =>
    obtain ⟨rfl, rfl, rfl⟩ := h
    rfl
  | err => exact h.elim
section
variable {d1 d2 e : D} {M : Store}
theorem chk_eq {d : D} {x0 x1 x3 x4 : Option Slot} (v : Vl d) : (chkV d = none ∧ ∃ y3 y4, ckB [x0, x1, some (.val d), x3, x4] M = .ok (.next [x0, x1, some (.val d), y3, y4]) M) ∨ ∃ e en', chkV d = some e ∧ ckB [x0, x1, some (.val d), x3, x4] M = .ok (.exc "InvalidName" [("name", e)] en') M := by
  obtain ⟨fl, M', h, rfl, q⟩ := (ck_body (x0 := x0) (x1 := x1) (x3 := x3) (x4 := x4) (M := M) v).ex
  rcases q with ⟨q, y3, y4, rfl⟩ | ⟨e, en', q, rfl⟩
  · exact .inl ⟨q, y3, y4, h⟩
  · exact .inr ⟨e, en', q, h⟩
theorem e_chk_ok (v1 : Vl d1) (v2 : Vl d2) (h1 : chkV d1 = none) (h2 : chkV d2 = none) : f_check_names [d1, d2] M = .ok .non M := Post.eq (by
  rcases chk_eq (M := M) (x0 := some (.val d1)) (x1 := some (.val d2)) (x3 := none) (x4 := none) v1 with ⟨_, y3, y4, e1⟩ | ⟨e, en', q, _⟩
  · rcases chk_eq (M := M) (x0 := some (.val d1)) (x1 := some (.val d2)) (x3 := y3) (x4 := y4) v2 with ⟨_, z3, z4, e2⟩ | ⟨e, en', q, _⟩
    · simp [f_check_names, ck_code, m_loopF_cons, e1, e2]
    · rw [h2] at q
      cases q
  · rw [h1] at q
    cases q)
theorem e_chk_1 (v1 : Vl d1) (h1 : chkV d1 = some e) : f_check_names [d1, d2] M = .exc "InvalidName" [("name", e)] M := Post.eqx (by
  rcases chk_eq (M := M) (x0 := some (.val d1)) (x1 := some (.val d2)) (x3 := none) (x4 := none) v1 with ⟨q, _⟩ | ⟨e', en', q, e1⟩
  · rw [h1] at q
    cases q
  · rw [h1] at q
    cases q
    simp [f_check_names, ck_code, m_loopF_cons, e1])
theorem e_chk_2 (v1 : Vl d1) (v2 : Vl d2) (h1 : chkV d1 = none) (h2 : chkV d2 = some e) : f_check_names [d1, d2] M = .exc "InvalidName" [("name", e)] M := Post.eqx (by
  rcases chk_eq (M := M) (x0 := some (.val d1)) (x1 := some (.val d2)) (x3 := none) (x4 := none) v1 with ⟨_, y3, y4, e1⟩ | ⟨e', en', q, _⟩
  · rcases chk_eq (M := M) (x0 := some (.val d1)) (x1 := some (.val d2)) (x3 := y3) (x4 := y4) v2 with ⟨q, _⟩ | ⟨e', en', q, e2⟩
    · rw [h2] at q
      cases q
    · rw [h2] at q
      cases q
      simp [f_check_names, ck_code, m_loopF_cons, e1, e2]
  · rw [h1] at q
    cases q)
theorem e_cmp_x (h : f_check_names [d1, d2] M = .exc "InvalidName" [("name", e)] M) : f_comparison [d1, d2] M = .exc "InvalidName" [("name", e)] M := Post.eqx (by
  simp [f_comparison, c_comparison, h])
theorem e_raised_x (h : f_check_names [d1, d2] M = .exc "InvalidName" [("name", e)] M) : f__law_raised [d1, d2] M = .ok (.lst [e]) M := Post.eq (by
  have hc := e_cmp_x h
  simp [f__law_raised, c__law_raised, hc])
end
theorem names_vl {mk : List D → D} (hm : LT mk) {a : List Str} (ok : ∀ x ∈ a, NameOk x) (l : a.length ≤ 5) : Vl (mk (a.map D.str)) ∧ chkV (mk (a.map D.str)) = none := by
  have hb : badX 0 (a.map D.str) = none := badX_all (fun x hx => by
    obtain ⟨n, hn, rfl⟩ := List.mem_map.mp hx
    exact (ok n hn).nm) (by simp; omega)
  have hx : ∀ x ∈ a.map D.str, itm x = true ∧ ∀ z, x = .str z → z.length ≤ 100 := fun x hx => by
    obtain ⟨n, hn, rfl⟩ := List.mem_map.mp hx
    exact ⟨rfl, fun z e => by cases e; have := (ok n hn).l1; omega⟩
  rcases hm with rfl | rfl
  · exact ⟨⟨rfl, fun xs h => by cases h; exact ⟨by simp; omega, hx⟩⟩, hb⟩
  · exact ⟨⟨rfl, fun xs h => by cases h; exact ⟨by simp; omega, hx⟩⟩, hb⟩
def cmpS (a b : List Str) : Stg := bnS 12 (wc a [] b).1 (wc a [] b).2 []
theorem e_cmp {mk mk' : List D → D} (hm : LT mk) (hm' : LT mk') {a b : List Str} {M : Store} (oka : ∀ x ∈ a, NameOk x) (okb : ∀ x ∈ b, NameOk x) (la : a.length ≤ 5) (lb : b.length ≤ 5) : f_comparison [mk (a.map D.str), mk' (b.map D.str)] M = .ok (stD (cmpS a b)) M := Post.eq (by
  obtain ⟨v1, c1⟩ := names_vl hm oka la
  obtain ⟨v2, c2⟩ := names_vl hm' okb lb
  have ec := e_chk_ok (M := M) v1 v2 c1 c2
  have ew := e_wc (M := M) hm hm' (o := a) (r := b) (by omega) (by omega)
  obtain ⟨_, _, l3, l4⟩ := wc_sub (o := a) (l := []) (r := b)
  have eb := e_bn (e_pi 12) (S := (wc a [] b).1) (T := (wc a [] b).2) (u := []) (M := M) (by simp at l3; omega) (by simp; omega)
  rw [show strL [] = D.lst [] from rfl] at eb
  have vm : ∀ M, vwD M (mk (a.map D.str)) = some (mk (a.map D.str)) := fun M => by rcases hm with rfl | rfl <;> rfl
  have vm' : ∀ M, vwD M (mk' (b.map D.str)) = some (mk' (b.map D.str)) := fun M => by rcases hm' with rfl | rfl <;> rfl
  unfold cmpS
  generalize mk (a.map D.str) = D1 at *
  generalize mk' (b.map D.str) = D2 at *
  generalize bnS 12 (wc a [] b).1 (wc a [] b).2 [] = z at *
  simp [f_comparison, c_comparison, ec, ew, f_both_next, eb])
section
variable {a b : List Str}
theorem cmp_lens : (wc a [] b).1.length ≤ a.length ∧ (wc a [] b).2.length ≤ b.length := by
  obtain ⟨_, _, l3, l4⟩ := wc_sub (o := a) (l := []) (r := b)
  exact ⟨by simpa using l3, l4⟩
theorem cmp_mem : (∀ x ∈ (wc a [] b).1, x ∈ a) ∧ ∀ x ∈ (wc a [] b).2, x ∈ b := by
  obtain ⟨h1, h2, _, _⟩ := wc_sub (o := a) (l := []) (r := b)
  exact ⟨fun x hx => (h1 x hx).resolve_left (by simp), h2⟩
theorem cmp_ok (oka : ∀ x ∈ a, NameOk x) (okb : ∀ x ∈ b, NameOk x) : okG (cmpS a b) := by
  obtain ⟨m1, m2⟩ := cmp_mem (a := a) (b := b)
  have dis := wc_dis (o := a) (l := []) (r := b) (by simp)
  unfold cmpS
  cases hS : (wc a [] b).1 with
  | nil =>
    cases hT : (wc a [] b).2 with
    | nil => exact .inr (.inl rfl)
    | cons y T => exact .inl rfl
  | cons x S =>
    cases hT : (wc a [] b).2 with
    | nil => exact .inr (.inr rfl)
    | cons y T =>
      rw [hS] at m1 dis
      rw [hT] at m2 dis
      have ox := fun z hz => oka z (m1 z hz)
      have oy := fun z hz => okb z (m2 z hz)
      exact ⟨.inl rfl, ox x List.mem_cons_self, em_ok (oy y List.mem_cons_self) (pi_ok _ _ _ _ _ _ (ox x List.mem_cons_self) (oy y List.mem_cons_self) (fun z hz => ox z (List.mem_cons_of_mem _ hz)) (fun z hz => oy z (List.mem_cons_of_mem _ hz)) fun p hp q hq e => dis p hp (e ▸ hq))⟩
theorem cmp_dp : dpG (cmpS a b) ≤ 39 := by
  unfold cmpS
  cases (wc a [] b).1 with
  | nil => cases (wc a [] b).2 <;> simp [bnS, dpG]
  | cons x S =>
    cases (wc a [] b).2 with
    | nil => simp [bnS, dpG]
    | cons y T =>
      have := pi_dp 12 x y S T ([] ++ [y])
      have := em_dp (t := y) (u := []) (s := piS 12 x y S T ([] ++ [y]))
      simp only [bnS, dpG]
      omega
theorem cmp_us (z : Str) (h : z ∈ usG (cmpS a b)) : z ∈ (wc a [] b).1 ++ (wc a [] b).2 := by
  unfold cmpS at h
  cases hS : (wc a [] b).1 with
  | nil =>
    rw [hS] at h
    cases hT : (wc a [] b).2 <;> rw [hT] at h <;> cases h
  | cons x S =>
    rw [hS] at h
    cases hT : (wc a [] b).2 with
    | nil =>
      rw [hT] at h
      cases h
    | cons y T =>
      rw [hT] at h
      rw [List.mem_append]
      rcases List.mem_cons.mp h with rfl | h
      · exact .inl List.mem_cons_self
      · rcases em_us h with rfl | h
        · exact .inr List.mem_cons_self
        · rcases pi_us _ _ _ _ _ _ _ h with rfl | rfl | h | h
          · exact .inl List.mem_cons_self
          · exact .inr List.mem_cons_self
          · exact .inl (List.mem_cons_of_mem _ h)
          · exact .inr (List.mem_cons_of_mem _ h)
theorem cmp_ul : (usG (cmpS a b)).length ≤ 16000000 := by
  unfold cmpS
  cases (wc a [] b).1 with
  | nil => cases (wc a [] b).2 <;> simp [bnS, usG]
  | cons x S =>
    cases (wc a [] b).2 with
    | nil => simp [bnS, usG]
    | cons y T =>
      have := pi_ul 12 x y S T ([] ++ [y])
      have := em_ul (t := y) (u := []) (s := piS 12 x y S T ([] ++ [y]))
      have : (3 : Nat) ^ (12 + 1) = 1594323 := by decide
      simp only [bnS, usG, List.length_cons]
      omega
theorem cmp_none (h : (wc a [] b).1 = [] ∨ (wc a [] b).2 = []) : cmpS a b = .res (if (wc a [] b).1 = [] then (if (wc a [] b).2 = [] then "zero" else "negative") else "positive") := by
  unfold cmpS
  cases hS : (wc a [] b).1 with
  | nil =>
    cases hT : (wc a [] b).2 with
    | nil => rfl
    | cons y T => rfl
  | cons x S =>
    cases hT : (wc a [] b).2 with
    | nil => rfl
    | cons y T =>
      rw [hS, hT] at h
      rcases h with h | h <;> cases h
theorem cmp_po (h1 : (wc a [] b).1 ≠ []) (h2 : (wc a [] b).2 ≠ []) : 1 ≤ poG (cmpS a b) ∧ poG (cmpS a b) < (wc a [] b).1.length + (wc a [] b).2.length ∧ brG 0 (cmpS a b) := by
  unfold cmpS
  cases hS : (wc a [] b).1 with
  | nil => exact absurd hS h1
  | cons x S =>
    cases hT : (wc a [] b).2 with
    | nil => exact absurd hT h2
    | cons y T =>
      have := pi_po 12 x y S T ([] ++ [y])
      have one : 1 ≤ poG (piS 12 x y S T ([] ++ [y])) := by
        rw [piS_succ]
        simp [poG]
      refine ⟨?_, ?_, ?_⟩
      · simp only [bnS, poG, em_po]
        exact one
      · simp only [bnS, poG, em_po, List.length_cons]
        omega
      · exact em_br (k := 1) (fun j hj => pi_br _ _ _ _ _ _ j hj) (by omega)
end
end KX
namespace KX
open PySem PySem.Spec PyProof.Rows L2 DL
theorem comp_ints {t : Tg} {tt : CB} {te : CE} {en : En} {M : Store} {ns : List Int} {Q : List D → Store → Prop} {E : EX} (p : Int → Bool) (f : Int → Int)
    (h : ∀ n ∈ ns, ∃ en1, t.put (.int n) en = some en1 ∧ tt en1 M = .ok (p n) M ∧ te en1 M = .ok (.int (f n)) M) (q : Q (((ns.filter p).map f).map D.int) M) : Post (compL t [] tt te en (ns.map D.int) M) Q E := by
  refine comp_map (fun d => match d with | .int i => p i | _ => false) (fun d => match d with | .int i => .int (f i) | d => d) (fun d hd => ?_) ?_
  · obtain ⟨n, hn, rfl⟩ := List.mem_map.mp hd
    obtain ⟨en1, h1, h2, h3⟩ := h n hn
    exact ⟨en1, h1, h2, fun _ => h3⟩
  · have e : (List.filter (fun d => match d with | .int i => p i | _ => false) (ns.map D.int)).map (fun d => match d with | .int i => .int (f i) | d => d) = ((ns.filter p).map f).map D.int := by
      rw [List.filter_map, List.map_map, List.map_map]
      rfl
    rw [e]
    exact q
theorem e_start {ns : List Int} (hl : ns.length ≤ 63) {Q : D → Store → Prop} {E : EX} (q : ∀ M, SrcT [] M 0 → Q (.ref 2) M) : Post (f__law_begun [.scr ns] []) Q E := by
  simp (disch := first | omega | (simp <;> omega) | fail) [f__law_begun, c__law_begun, wipeE]
  refine comp_ints (fun i => decide (1000000000000000000 ≤ i)) (fun i => i) (fun n hn => ⟨_, put_name, Post.eq (by simp), Post.eq (by simp)⟩) ?_
  simp (disch := first | omega | (simp <;> omega) | fail) [wipeE]
  refine comp_ints (fun _ => true) (fun i => i % 2147483629) (fun n hn => ⟨_, put_name, rfl, Post.eq (by simp [gInt_i])⟩) ?_
  have ft : List.filter (fun _ : Int => true) ns = ns := List.filter_eq_self.mpr fun _ _ => rfl
  have ga : gAdd (.lst (List.map (D.int ∘ fun i => i % 2147483629) (List.filter (fun x => true) ns))) (.lst [.int 77]) = some (.lst ((ns.map (fun i => i % 2147483629) ++ [77]).map D.int)) := by
    rw [gAdd_lst' (by have := List.length_filter_le (fun _ : Int => true) ns; simp; omega), ft]
    simp
  simp (disch := first | omega | (simp <;> omega) | fail) [ga]
  refine q _ ⟨(ns.filter fun i => decide (1000000000000000000 ≤ i)), 0, 0, 7, ns.map (fun i => i % 2147483629) ++ [77], .lst ((ns.map fun i => i % 2147483629).map D.int), ?_, ?_⟩
  · simp [src, ks5, ft]
    exact ⟨rfl, rfl⟩
  · refine ⟨fun x hx => ?_, by omega, by omega, by omega, by omega, by omega, by simp, fun x hx => ?_⟩
    · have := (List.mem_filter.mp hx).2
      simp at this
      omega
    · rcases List.mem_append.mp hx with h | h
      · obtain ⟨n, _, rfl⟩ := List.mem_map.mp h
        exact ⟨Int.emod_nonneg _ (by decide), Int.emod_lt_of_pos _ (by decide)⟩
      · rw [List.mem_singleton.mp h]
        exact ⟨by decide, by decide⟩
theorem rp_names {a b : List Str} (oka : ∀ x ∈ a, NameOk x) (okb : ∀ x ∈ b, NameOk x) (la : a.length ≤ 5) (lb : b.length ≤ 5) : ∃ z, gRp [.tup [strL a, strL b]] = some (.str z) := by
  have low : ∀ c ∈ letters.cps.toList, c < 16 ^ 8 := by decide +kernel
  have v : ∀ {l : List Str}, (∀ x ∈ l, NameOk x) → vls 1 (l.map D.str) := fun {l} ok => vls_iff.mpr fun x hx => by
    obtain ⟨n, hn, rfl⟩ := List.mem_map.mp hx
    exact fun c hc => low c ((ok n hn).c c hc)
  have d : ∀ l : List Str, dpts (l.map D.str) = 0 := fun l => by
    induction l with
    | nil => rfl
    | cons x l ih => simp [dpts, dpt, ih]
  have w : ∀ l : List Str, (∀ x ∈ l, NameOk x) → wts (l.map D.str) ≤ 7 * l.length := fun l => by
    induction l with
    | nil => intro _; simp [wts]
    | cons x l ih =>
      intro ok
      have := ih fun y hy => ok y (List.mem_cons_of_mem _ hy)
      have := (ok x List.mem_cons_self).l1
      simp only [List.map_cons, wts, wt, List.length_cons]
      omega
  refine rp_vl (b := 1) (by omega) ⟨v oka, v okb, trivial⟩ ?_ ?_
  · simp [dpt, dpts, d]
  · have := w a oka
    have := w b okb
    simp only [wt, wts]
    omega
section
variable {T M : Store} {c : Nat} {Q : D → Store → Prop} {E : EX}
theorem comp_picks {names : List Str} {j n : Nat} {x2 x3 x4 : Option Slot} {Q : List D → Store → Prop} {E : EX} (s : SrcT T M c) (hj : T[j]? = some (.lst (names.map D.str))) (hne : names ≠ []) (hl : names.length ≤ 20) (hc : c ≤ 1000000000) (hn : n ≤ 20)
    (q : ∀ (l : List Str) M', (∀ x ∈ l, x ∈ names) → l.length = n → SrcT T M' (c + n) → Q (l.map D.str) M') :
    Post (compL (.name 4) [] tYesD (eFn f__law_pick (aCons (eVar 0) (aCons (eVar 1) (aNil)))) [some (.val (.ref 2)), some (.val (.ref (3 + j))), x2, x3, x4] (rngD 0 n) M) Q E := by
  refine comp_inv (fun i acc M => ∃ l : List Str, acc = l.map D.str ∧ (∀ x ∈ l, x ∈ names) ∧ l.length = i ∧ SrcT T M (c + i)) ⟨[], rfl, by simp, rfl, s⟩ (fun acc M hi => ?_) fun i x acc M hx hi => ?_
  · obtain ⟨l, rfl, h1, h2, s1⟩ := hi
    rw [rngD_len] at h2 s1
    exact q l M h1 h2 s1
  · obtain ⟨l, rfl, h1, h2, s1⟩ := hi
    have hil := (rngD_get hx).1
    rw [put_name, PV_some]
    simp
    refine e_pickR s1 hj (by omega) (by simpa using hne) (by simp; omega) fun y hy M' s2 => ?_
    obtain ⟨z, hz, rfl⟩ := List.mem_map.mp hy
    refine ⟨l ++ [z], by simp, fun b hb => ?_, by simp; omega, s2.mono (by omega)⟩
    rcases List.mem_append.mp hb with hb | hb
    · exact h1 b hb
    · rw [List.mem_singleton.mp hb]
      exact hz
theorem e_lists {names : List Str} {j : Nat} (s : SrcT T M c) (hj : T[j]? = some (.lst (names.map D.str))) (hne : names ≠ []) (hl : names.length ≤ 20) (hc : c ≤ 100000000)
    (q : ∀ (a b : List Str) M', (∀ x ∈ a, x ∈ names) → (∀ x ∈ b, x ∈ names) → a.length ≤ 5 → b.length ≤ 5 → SrcT T M' (c + 20) → Q (.tup [strL a, strL b]) M') : Post (f__law_lists [.ref 2, .ref (3 + j), .int 5] M) Q E := by
  simp (disch := first | omega | (simp <;> omega) | fail) [f__law_lists, c__law_lists]
  refine e_take s (by omega) (by omega) (by omega) fun k M1 k0 k1 s1 => ?_
  have sm : Sm k := Sm.of (by omega) (by omega)
  simp (disch := first | omega | (simp <;> omega) | fail) [sm, wipeE]
  refine comp_picks s1 hj hne hl (by omega) (by omega) fun a M2 ha la s2 => ?_
  refine e_take s2 (by omega) (by omega) (by omega) fun k' M3 k0' k1' s3 => ?_
  have sm' : Sm k' := Sm.of (by omega) (by omega)
  simp (disch := first | omega | (simp <;> omega) | fail) [sm', wipeE]
  refine comp_picks s3 hj hne hl (by omega) (by omega) fun b M4 hb lb s4 => ?_
  exact q a b M4 ha hb (by omega) (by omega) (s4.mono (by omega))
structure Odd (d : D) : Prop where
  i : itm d = true
  n : nmV d = false
  z : ∀ z, d = .str z → z.length ≤ 100
  e : eqL (eqF 59) [d] [d] = some true
theorem Odd.vw {d : D} (h : Odd d) (M : Store) : vwD M d = some d := vw_itm h.i M
structure BadV (v due : D) : Prop where
  vl : Vl v
  c : chkV v = some due
  e : eqL (eqF 59) [due] [due] = some true
  w : ∀ M, vwD M due = some due
theorem nms_k {good : List Str} (ok : ∀ x ∈ good, NameOk x) : ∀ y ∈ good.map D.str, nmV y = true := fun y hy => by
  obtain ⟨n, hn, rfl⟩ := List.mem_map.mp hy
  exact (ok n hn).nm
theorem nms_x {good : List Str} (ok : ∀ x ∈ good, NameOk x) : ∀ y ∈ good.map D.str, itm y = true ∧ ∀ z, y = .str z → z.length ≤ 100 := fun y hy => by
  obtain ⟨n, hn, rfl⟩ := List.mem_map.mp hy
  exact ⟨rfl, fun z e => by cases e; have := (ok n hn).l1; omega⟩
theorem bad_one {good : List Str} {odd : D} (ok : ∀ x ∈ good, NameOk x) (l5 : good.length ≤ 5) (o : Odd odd) (k : Nat) : BadV (.lst (List.take k (good.map D.str) ++ (odd :: List.drop k (good.map D.str)))) odd where
  vl := ⟨rfl, fun xs h => by
    cases h
    refine ⟨by simp; omega, fun x hx => ?_⟩
    rcases List.mem_append.mp hx with hx | hx
    · exact nms_x ok x (List.mem_of_mem_take hx)
    · rcases List.mem_cons.mp hx with rfl | hx
      · exact ⟨o.i, o.z⟩
      · exact nms_x ok x (List.mem_of_mem_drop hx)⟩
  c := badX_at (xs := List.take k (good.map D.str)) (k := 0) (fun y hy => nms_k ok y (List.mem_of_mem_take hy)) (by rw [List.length_take, List.length_map]; omega) (.inr o.n)
  e := o.e
  w := o.vw
theorem bad_two {good : List Str} {odd : D} (ok : ∀ x ∈ good, NameOk x) (l5 : good.length ≤ 5) (o : Odd odd) : BadV (.lst (List.take 5 ((good ++ List.replicate 6 (Str.ofString "x")).map D.str) ++ [.str "last", odd])) (.str "last") where
  vl := ⟨rfl, fun xs h => by
    cases h
    refine ⟨by first | (simp; omega) | simp, fun x hx => ?_⟩
    have hX : NameOk (Str.ofString "x") := ⟨by decide, by decide, by decide +kernel⟩
    rcases List.mem_append.mp hx with hx | hx
    · refine nms_x (good := good ++ List.replicate 6 (Str.ofString "x")) (fun y hy => ?_) x (List.mem_of_mem_take hx)
      rcases List.mem_append.mp hy with hy | hy
      · exact ok y hy
      · rw [(List.mem_replicate.mp hy).2]
        exact hX
    · simp only [List.mem_cons, List.not_mem_nil, or_false] at hx
      rcases hx with rfl | rfl
      · exact ⟨rfl, fun z e => by cases e; decide⟩
      · exact ⟨o.i, o.z⟩⟩
  c := by
    have hX : NameOk (Str.ofString "x") := ⟨by decide, by decide, by decide +kernel⟩
    refine badX_at (xs := List.take 5 ((good ++ List.replicate 6 (Str.ofString "x")).map D.str)) (k := 0) (r := [odd]) (fun y hy => nms_k (good := good ++ List.replicate 6 (Str.ofString "x")) (fun y hy => ?_) y (List.mem_of_mem_take hy)) ?_ (.inl ?_)
    · rcases List.mem_append.mp hy with hy | hy
      · exact ok y hy
      · rw [(List.mem_replicate.mp hy).2]
        exact hX
    · rw [List.length_take]
      omega
    · rw [List.length_take]
      simp
  e := rfl
  w := fun _ => rfl
theorem bad_non {d : D} (h : itV d = none) (hi : itm d = true) : BadV d .non where
  vl := ⟨hi, fun xs e => by rw [h] at e; cases e⟩
  c := by unfold chkV; rw [h]
  e := rfl
  w := fun _ => rfl
theorem e_bad {good : List Str} (ok : ∀ x ∈ good, NameOk x) (l5 : good.length ≤ 5) (s : SrcT T M c) (hc : c ≤ 100000000) (q : ∀ v due M', BadV v due → SrcT T M' (c + 5) → Q (.tup [v, due]) M') : Post (f__law_bad [.ref 2, strL good] M) Q E := by
  simp (disch := first | omega | (simp <;> omega) | fail) [f__law_bad, c__law_bad]
  refine e_pick s (by omega) (by simp) (by simp) fun odd ho M1 s1 => ?_
  have o : Odd odd := by
    simp only [List.mem_cons, List.not_mem_nil, or_false] at ho
    rcases ho with rfl | rfl | rfl | rfl | rfl | rfl | rfl | rfl | rfl | rfl
    all_goals exact ⟨rfl, (by decide +kernel), (fun z e => by first | (cases e; decide) | cases e), (by first | rfl | decide +kernel)⟩
  have vo := o.vw
  simp (disch := first | omega | (simp <;> omega) | fail) []
  refine e_take s1 (by omega) (by omega) (by omega) fun k M2 k0 k1 s2 => ?_
  obtain ⟨n, rfl⟩ := Int.eq_ofNat_of_zero_le k0
  have c1 : DL.cutD (good.map D.str) none (some (n : Int)) = List.take n (good.map D.str) := cut_hi (by first | (simp; omega) | simp)
  have c2 : DL.cutD (good.map D.str) (some (n : Int)) none = List.drop n (good.map D.str) := cut_lo (by first | (simp; omega) | simp)
  have rp : repL' (.lst [.str "x"]) (.int 6) = some (.lst (List.replicate 6 (D.str "x"))) := rfl
  have a1 : gAdd (.lst (List.take n (good.map D.str))) (.lst [odd]) = some (.lst (List.take n (good.map D.str) ++ [odd])) := gAdd_lst' (by first | (simp; omega) | simp)
  have a2 : gAdd (.lst (List.take n (good.map D.str) ++ [odd])) (.lst (List.drop n (good.map D.str))) = some (.lst (List.take n (good.map D.str) ++ (odd :: List.drop n (good.map D.str)))) := by
    rw [gAdd_lst' (by first | (simp; omega) | simp), List.append_assoc]
    rfl
  have a3 : gAdd (.lst (good.map D.str)) (.lst (List.replicate 6 (D.str "x"))) = some (.lst ((good ++ List.replicate 6 (Str.ofString "x")).map D.str)) := by
    rw [gAdd_lst' (by first | (simp; omega) | simp), List.map_append, List.map_replicate]
  have c3 : DL.cutD ((good ++ List.replicate 6 (Str.ofString "x")).map D.str) none (some 5) = List.take 5 ((good ++ List.replicate 6 (Str.ofString "x")).map D.str) := cut_hi (a := 5) (by first | (simp; omega) | simp)
  rw [List.map_append, List.map_replicate, show List.replicate 6 (D.str (Str.ofString "x")) = [D.str "x", .str "x", .str "x", .str "x", .str "x", .str "x"] from rfl] at c3 a3
  have b2 := bad_two ok l5 o
  rw [List.map_append, List.map_replicate, show List.replicate 6 (D.str (Str.ofString "x")) = [D.str "x", .str "x", .str "x", .str "x", .str "x", .str "x"] from rfl] at b2
  have a4 : gAdd (.lst (List.take 5 (good.map D.str ++ [D.str "x", .str "x", .str "x", .str "x", .str "x", .str "x"]))) (.lst [.str "last", odd]) = some (.lst (List.take 5 (good.map D.str ++ [D.str "x", .str "x", .str "x", .str "x", .str "x", .str "x"]) ++ [.str "last", odd])) := gAdd_lst' (by first | (simp; omega) | simp)
  have b1 := bad_one ok l5 o n
  generalize List.take n (good.map D.str) ++ (odd :: List.drop n (good.map D.str)) = L1 at *
  generalize List.take 5 (good.map D.str ++ [D.str "x", .str "x", .str "x", .str "x", .str "x", .str "x"]) ++ [.str "last", odd] = L2 at *
  generalize List.take 5 (good.map D.str ++ [D.str "x", .str "x", .str "x", .str "x", .str "x", .str "x"]) = L3 at *
  generalize List.take n (good.map D.str) ++ [odd] = L5 at *
  generalize List.take n (good.map D.str) = L6 at *
  generalize List.drop n (good.map D.str) = L7 at *
  have a5 : ∀ (x y : D), gAdd (.lst [x, y]) (.lst [.tup [.non, .non], .tup [.int 5, .non], .tup [.str "abc", .non], .tup [.dic [.inr "a"] [.int 1], .non]]) = some (.lst [x, y, .tup [.non, .non], .tup [.int 5, .non], .tup [.str "abc", .non], .tup [.dic [.inr "a"] [.int 1], .non]]) := fun x y => by
    rw [gAdd_lst' (by simp)]
    rfl
  simp (disch := first | omega | (simp <;> omega) | fail) [c1, c2, rp, a1, a2, a3, c3, a4, vo, wipeE, m_compL_cons, a5]
  refine e_pick s2 (by omega) (by simp) (by simp) fun y hy M3 s3 => ?_
  simp only [List.mem_cons, List.not_mem_nil, or_false] at hy
  rcases hy with rfl | rfl | rfl | rfl | rfl | rfl
  · exact q _ _ M3 b1 (s3.mono (by omega))
  · exact q _ _ M3 b2 (s3.mono (by omega))
  · exact q _ _ M3 (bad_non rfl rfl) (s3.mono (by omega))
  · exact q _ _ M3 (bad_non rfl rfl) (s3.mono (by omega))
  · exact q _ _ M3 (bad_non rfl rfl) (s3.mono (by omega))
  · exact q _ _ M3 (bad_non rfl rfl) (s3.mono (by omega))
end
end KX
namespace KX
open PySem PySem.Spec PyProof.Rows L2 DL
theorem plStr {n : Nat} (h : 1 ≤ n) (x : Str) : Pl n (.str x) := by
  obtain ⟨m, rfl⟩ : ∃ m, n = m + 1 := ⟨n - 1, by omega⟩
  exact .str _ _
theorem plSt : ∀ (n : Nat) (s : Stg), dpG s + 3 ≤ n → Pl n (stD s)
  | 0, s, h => absurd h (by omega)
  | n + 1, .res c, h => .tup n _ fun y hy => by
    simp only [List.mem_cons, List.not_mem_nil, or_false] at hy
    rcases hy with rfl | rfl <;> exact plStr (by simp [dpG] at h; omega) _
  | n + 1, .act w a s, h => .tup n _ fun y hy => by
    simp only [dpG] at h
    simp only [List.mem_cons, List.not_mem_nil, or_false] at hy
    rcases hy with rfl | rfl | rfl
    · exact plStr (by omega) _
    · obtain ⟨m, rfl⟩ : ∃ m, n = m + 1 := ⟨n - 1, by omega⟩
      exact .tup m _ fun y hy => by
        simp only [List.mem_cons, List.not_mem_nil, or_false] at hy
        rcases hy with rfl | rfl <;> exact plStr (by omega) _
    · exact plSt n s (by omega)
  | n + 1, .pour a b d f e, h => .tup n _ fun y hy => by
    simp only [dpG] at h
    simp only [List.mem_cons, List.not_mem_nil, or_false] at hy
    rcases hy with rfl | rfl | rfl | rfl | rfl | rfl
    · exact plStr (by omega) _
    · exact plStr (by omega) _
    · exact plStr (by omega) _
    · exact plSt n d (by omega)
    · exact plSt n f (by omega)
    · exact plSt n e (by omega)
theorem ne_st {s : Stg} (h : dpG s ≤ 50) : gNe (stD s) (stD s) = some (.bl false) := by
  have e := eqF_refl (plSt 60 s (by omega))
  obtain ⟨xs, hx⟩ := st_tup s
  rw [hx] at e ⊢
  have e' : eqL (eqF 59) xs xs = some true := e
  rw [gNe_tup_tup, e']
  rfl
def LwI (ns : List Int) (i : Nat) (en : En) (M : Store) : Prop := ∃ (T : Store) (c : Nat) (x2 x3 x4 x5 x6 x7 x8 x9 x10 x11 x12 x13 x14 : Option Slot), en = [some (.val (.scr ns)), some (.val (.ref 2)), x2, x3, x4, x5, x6, x7, x8, x9, x10, x11, x12, x13, x14] ∧ SrcT T M c ∧ c ≤ 1000 * i
theorem plain : ∀ ns : List Int, ns.length ≤ 63 → ∃ M, f_law [.scr ns] [] = .ok (.bl true) M := fun ns hl => by
  have main : Post (f_law [.scr ns] []) (fun d _ => d = .bl true) kNo := by
    simp (disch := first | omega | (simp <;> omega) | fail) [f_law, c_law]
    refine e_start hl fun M s => ?_
    have gl : gLen [.scr ns] = some (.int ns.length) := by rfl
    obtain ⟨m, gm, m0, m5⟩ : ∃ m : Int, gMinT [.int 8, .int ns.length] = some (.int m) ∧ 0 ≤ m ∧ m ≤ 8 := by
      by_cases h : (ns.length : Int) < 8
      · exact ⟨ns.length, by simp [gMinT]; omega, by omega, by omega⟩
      · exact ⟨8, by simp [gMinT]; omega, by omega, by omega⟩
    obtain ⟨m', gm', m0', m5'⟩ : ∃ m' : Int, gMax2 [.int 1, .int m] = some (.int m') ∧ 0 ≤ m' ∧ m' ≤ 8 := by
      by_cases h : m > 1
      · exact ⟨m, by simp [gMax2]; omega, by omega, by omega⟩
      · exact ⟨1, by simp [gMax2]; omega, by omega, by omega⟩
    have sm : Sm m' := Sm.of (by omega) (by omega)
    simp (disch := first | omega | (simp <;> omega) | fail) [gl, gm, gm', sm]
    refine for_inv (LwI ns) ⟨[], 0, none, none, none, none, none, none, none, none, none, none, none, none, none, rfl, s, by omega⟩ (fun en M hi => ?_) fun i x en M hx hi => ?_
    · obtain ⟨T, c, x2, x3, x4, x5, x6, x7, x8, x9, x10, x11, x12, x13, x14, rfl, s, hc⟩ := hi
      simp
    · obtain ⟨T, c, x2, x3, x4, x5, x6, x7, x8, x9, x10, x11, x12, x13, x14, rfl, s, hc⟩ := hi
      have hil := (rngD_get hx).1
      simp (disch := first | omega | (simp <;> omega) | fail) []
      refine e_take s (by omega) (by omega) (by omega) fun k M1 k0 k1 s1 => ?_
      simp (disch := first | omega | (simp <;> omega) | fail) []
      refine e_names s1 (by omega) (by omega) (by omega) fun names M2 hn nd ok s2 => ?_
      have hj : (T ++ [MO.lst (names.map D.str)])[T.length]? = some (.lst (names.map D.str)) := by simp
      have hne : names ≠ [] := fun z => by
        rw [z] at hn
        simp at hn
        omega
      generalize T ++ [MO.lst (names.map D.str)] = T2 at *
      generalize T.length = j at *
      simp (disch := first | omega | (simp <;> omega) | fail) []
      refine e_lists s2 hj hne (by omega) (by omega) fun a b M3 ha hb la lb s3 => ?_
      have oka : ∀ x ∈ a, NameOk x := fun x hx => ok x (ha x hx)
      have okb : ∀ x ∈ b, NameOk x := fun x hx => ok x (hb x hx)
      obtain ⟨z, hz⟩ := rp_names oka okb la lb
      have ec := fun M => e_cmp (M := M) (mk := D.lst) (mk' := D.lst) (.inl rfl) (.inl rfl) oka okb la lb
      have ect := fun M => e_cmp (M := M) (mk := D.tup) (mk' := D.tup) (.inr rfl) (.inr rfl) oka okb la lb
      have el := fun M => e_left (M := M) (o := a) (r := b) (by omega) (by omega)
      have okg := cmp_ok oka okb
      have dp := cmp_dp (a := a) (b := b)
      have ei := fun M => e_iss 40 (cmpS a b) M (by omega) okg
      have eu := fun M => e_used 40 (cmpS a b) M (by omega) cmp_ul
      have ep := fun M => e_pours 40 (cmpS a b) M (by omega)
      have us := cmp_us (a := a) (b := b)
      have ul := cmp_ul (a := a) (b := b)
      obtain ⟨L1, L2⟩ := cmp_lens (a := a) (b := b)
      have nst := ne_st (s := cmpS a b) (by omega)
      have hnone := cmp_none (a := a) (b := b)
      have hsome := cmp_po (a := a) (b := b)
      simp (disch := first | omega | (simp <;> omega) | fail) [hz, ec, el, ei, eu, wipeE]
      obtain ⟨va, ca⟩ := names_vl (mk := D.lst) (.inl rfl) oka la
      have ga : gAdd (strL (wc a [] b).1) (strL (wc a [] b).2) = some (strL ((wc a [] b).1 ++ (wc a [] b).2)) := by
        rw [gAdd_lst' (by simp; omega), ← List.map_append]
      have fe : (((usG (cmpS a b)).map D.str).filter (fun _ => false)).map (fun d => d) = ([] : List D) := by
        rw [List.filter_eq_nil_iff.mpr (by simp)]
        rfl
      refine comp_map (fun _ => false) (fun d => d) (fun d hd => ?_) ?_
      · obtain ⟨w, hw, rfl⟩ := List.mem_map.mp hd
        have hm := us w hw
        rw [List.mem_append] at hm
        have an := anyE_strs (a := w) ((wc a [] b).1 ++ (wc a [] b).2)
        rw [List.map_append, decide_eq_true (List.mem_append.mpr hm)] at an
        exact ⟨_, put_name, Post.eq (by simp [ga, an]), fun z => by cases z⟩
      rw [fe]
      have n1 : (wc a [] b).1.length ≤ 5 := by omega
      have n2 : (wc a [] b).2.length ≤ 5 := by omega
      generalize hK : (wc a [] b).1 = K at *
      generalize hR : (wc a [] b).2 = R at *
      generalize cmpS a b = found at *
      by_cases h1 : K = []
      · by_cases h2 : R = []
        · have hc := hnone (.inl h1)
          rw [if_pos h1, if_pos h2] at hc
          subst h1 h2 hc
          simp (disch := first | omega | (simp <;> omega) | fail) [eqL_nilS, stD, ect, hz]
          refine e_bad oka la s3 (by omega) fun v1 due1 M4 B1 s4 => ?_
          simp (disch := first | omega | (simp <;> omega) | fail) []
          refine e_bad okb lb s4 (by omega) fun v2 due2 M5 B2 s5 => ?_
          have r1 := fun M => e_raised_x (M := M) (e_chk_1 (d2 := v2) B1.vl B1.c)
          have r2 := fun M => e_raised_x (M := M) (e_chk_2 va B2.vl ca B2.c)
          have q1 := B1.e
          have q2 := B2.e
          have w1 := B1.w
          have w2 := B2.w
          simp (disch := first | omega | (simp <;> omega) | fail) [r1, r2, q1, q2, w1, w2]
          exact ⟨T2, _, _, _, _, _, _, _, _, _, _, _, _, _, _, rfl, s5, by omega⟩
        · have hc := hnone (.inl h1)
          rw [if_pos h1, if_neg h2] at hc
          subst h1 hc
          have e2 : R.isEmpty = false := by cases R <;> first | rfl | exact absurd rfl h2
          simp (disch := first | omega | (simp <;> omega) | fail) [eqL_nilS, e2, stD, ect, hz]
          refine e_bad oka la s3 (by omega) fun v1 due1 M4 B1 s4 => ?_
          simp (disch := first | omega | (simp <;> omega) | fail) []
          refine e_bad okb lb s4 (by omega) fun v2 due2 M5 B2 s5 => ?_
          have r1 := fun M => e_raised_x (M := M) (e_chk_1 (d2 := v2) B1.vl B1.c)
          have r2 := fun M => e_raised_x (M := M) (e_chk_2 va B2.vl ca B2.c)
          have q1 := B1.e
          have q2 := B2.e
          have w1 := B1.w
          have w2 := B2.w
          simp (disch := first | omega | (simp <;> omega) | fail) [r1, r2, q1, q2, w1, w2]
          exact ⟨T2, _, _, _, _, _, _, _, _, _, _, _, _, _, _, rfl, s5, by omega⟩
      · have e1 : K.isEmpty = false := by cases K <;> first | rfl | exact absurd rfl h1
        by_cases h2 : R = []
        · have hc := hnone (.inr h2)
          rw [if_neg h1] at hc
          subst h2 hc
          simp (disch := first | omega | (simp <;> omega) | fail) [eqL_nilS, e1, stD, ect, hz]
          refine e_bad oka la s3 (by omega) fun v1 due1 M4 B1 s4 => ?_
          simp (disch := first | omega | (simp <;> omega) | fail) []
          refine e_bad okb lb s4 (by omega) fun v2 due2 M5 B2 s5 => ?_
          have r1 := fun M => e_raised_x (M := M) (e_chk_1 (d2 := v2) B1.vl B1.c)
          have r2 := fun M => e_raised_x (M := M) (e_chk_2 va B2.vl ca B2.c)
          have q1 := B1.e
          have q2 := B2.e
          have w1 := B1.w
          have w2 := B2.w
          simp (disch := first | omega | (simp <;> omega) | fail) [r1, r2, q1, q2, w1, w2]
          exact ⟨T2, _, _, _, _, _, _, _, _, _, _, _, _, _, _, rfl, s5, by omega⟩
        · have e2 : R.isEmpty = false := by cases R <;> first | rfl | exact absurd rfl h2
          obtain ⟨p1, p2, p3⟩ := hsome h1 h2
          have eb := fun M => e_brief 40 found 0 M (by omega) (by omega) (by omega) p3
          have z0 : ((0 : Nat) : Int) = 0 := rfl
          simp only [z0] at eb
          have vst := fun M => vw_st found M
          have p1' : (1 : Int) ≤ (poG found : Int) := by omega
          have p2' : (poG found : Int) < (K.length : Int) + (R.length : Int) := by omega
          simp (disch := first | omega | (simp <;> omega) | fail) [eqL_nilS, e1, e2, ep, eb, p1', p2', ect, hz, nst, vst]
          refine e_bad oka la s3 (by omega) fun v1 due1 M4 B1 s4 => ?_
          simp (disch := first | omega | (simp <;> omega) | fail) []
          refine e_bad okb lb s4 (by omega) fun v2 due2 M5 B2 s5 => ?_
          have r1 := fun M => e_raised_x (M := M) (e_chk_1 (d2 := v2) B1.vl B1.c)
          have r2 := fun M => e_raised_x (M := M) (e_chk_2 va B2.vl ca B2.c)
          have q1 := B1.e
          have q2 := B2.e
          have w1 := B1.w
          have w2 := B2.w
          simp (disch := first | omega | (simp <;> omega) | fail) [r1, r2, q1, q2, w1, w2]
          exact ⟨T2, _, _, _, _, _, _, _, _, _, _, _, _, _, _, rfl, s5, by omega⟩
  obtain ⟨d, M, e, rfl⟩ := main.ex
  exact ⟨M, e⟩
end KX
namespace KX
open PySem PySem.Spec PyProof.Rows L2 DL
theorem all_mk {P : Program} {w : World} {K : PySem.W.Frag} {h : Heap} {mg : Str → Option Value} {fa : Addr} (X : K.In h) (G : h.Ns mainGlobals mg) (hfa : mg "law" = some (.ref fa))
    {f0 : Addr} {od0 an0 : Option Addr} {sl0 : Array (Option Value)} {oc0 kV0 dc0 pm0 cd0 ct0 : Value}
    {f1 : Addr} {od1 an1 : Option Addr} {sl1 : Array (Option Value)} {oc1 kV1 dc1 pm1 cd1 ct1 : Value}
    {f2 : Addr} {od2 an2 : Option Addr} {sl2 : Array (Option Value)} {oc2 kV2 dc2 pm2 cd2 ct2 : Value}
    {f3 : Addr} {od3 an3 : Option Addr} {sl3 : Array (Option Value)} {oc3 kV3 dc3 pm3 cd3 ct3 : Value}
    {f4 : Addr} {od4 an4 : Option Addr} {sl4 : Array (Option Value)} {oc4 kV4 dc4 pm4 cd4 ct4 : Value}
    {f5 : Addr} {od5 an5 : Option Addr} {sl5 : Array (Option Value)} {oc5 kV5 dc5 pm5 cd5 ct5 : Value}
    {f6 : Addr} {od6 an6 : Option Addr} {sl6 : Array (Option Value)} {oc6 kV6 dc6 pm6 cd6 ct6 : Value}
    {f7 : Addr} {od7 an7 : Option Addr} {sl7 : Array (Option Value)} {oc7 kV7 dc7 pm7 cd7 ct7 : Value}
    {f8 : Addr} {od8 an8 : Option Addr} {sl8 : Array (Option Value)} {oc8 kV8 dc8 pm8 cd8 ct8 : Value}
    {f9 : Addr} {od9 an9 : Option Addr} {sl9 : Array (Option Value)} {oc9 kV9 dc9 pm9 cd9 ct9 : Value}
    {f10 : Addr} {od10 an10 : Option Addr} {sl10 : Array (Option Value)} {oc10 kV10 dc10 pm10 cd10 ct10 : Value}
    {f11 : Addr} {od11 an11 : Option Addr} {sl11 : Array (Option Value)} {oc11 kV11 dc11 pm11 cd11 ct11 : Value}
    {f12 : Addr} {od12 an12 : Option Addr} {sl12 : Array (Option Value)} {oc12 kV12 dc12 pm12 cd12 ct12 : Value}
    {f13 : Addr} {od13 an13 : Option Addr} {sl13 : Array (Option Value)} {oc13 kV13 dc13 pm13 cd13 ct13 : Value}
    {f14 : Addr} {od14 an14 : Option Addr} {sl14 : Array (Option Value)} {oc14 kV14 dc14 pm14 cd14 ct14 : Value}
    {f15 : Addr} {od15 an15 : Option Addr} {sl15 : Array (Option Value)} {oc15 kV15 dc15 pm15 cd15 ct15 : Value}
    {f16 : Addr} {od16 an16 : Option Addr} {sl16 : Array (Option Value)} {oc16 kV16 dc16 pm16 cd16 ct16 : Value}
    {f17 : Addr} {od17 an17 : Option Addr} {sl17 : Array (Option Value)} {oc17 kV17 dc17 pm17 cd17 ct17 : Value}
    {f18 : Addr} {od18 an18 : Option Addr} {sl18 : Array (Option Value)} {oc18 kV18 dc18 pm18 cd18 ct18 : Value}
    {f19 : Addr} {od19 an19 : Option Addr} {sl19 : Array (Option Value)} {oc19 kV19 dc19 pm19 cd19 ct19 : Value}
    {f20 : Addr} {od20 an20 : Option Addr} {sl20 : Array (Option Value)} {oc20 kV20 dc20 pm20 cd20 ct20 : Value}
    {f21 : Addr} {od21 an21 : Option Addr} {sl21 : Array (Option Value)} {oc21 kV21 dc21 pm21 cd21 ct21 : Value}
    {f22 : Addr} {od22 an22 : Option Addr} {sl22 : Array (Option Value)} {oc22 kV22 dc22 pm22 cd22 ct22 : Value}
    {t_LETTERS : Tok}
    {t_LONGEST_NAME : Tok}
    {t_MOST_NAMES : Tok}
    {B : Addr}
    {CInvalidName IInvalidName NInvalidName : Addr} {nmInvalidName qnInvalidName : Str} {bsInvalidName : List Value} {snInvalidName : List Str} {subInvalidName : List Value} {abInvalidName : Bool} {colInvalidName : Option Bool} {m0InvalidName m1InvalidName m2InvalidName m3InvalidName m5InvalidName : Option Value} {ddAInvalidName odIInvalidName anIInvalidName : Option Addr} {slIInvalidName : Array (Option Value)} {ocIInvalidName kVIInvalidName dcIInvalidName pmIInvalidName cdIInvalidName ctIInvalidName : Value}
    (a0 : PySem.W.nsIn K mainGlobals "is_name" = some (some (.ref f0))) (l0 : K.lookup f0 = some ⟨oc0, od0, .func (PySem.W.fnOf "is_name" "is_name" (defArgs s_is_name) (defBody s_is_name) (defScope s_is_name) .none kV0 dc0 pm0 an0 cd0 ct0), sl0⟩) (c0 : PySem.W.codeIn K cd0 "is_name" = true) (k0 : PySem.W.keepIn K (.ref f0) = true)
    (a1 : PySem.W.nsIn K mainGlobals "check_names" = some (some (.ref f1))) (l1 : K.lookup f1 = some ⟨oc1, od1, .func (PySem.W.fnOf "check_names" "check_names" (defArgs s_check_names) (defBody s_check_names) (defScope s_check_names) .none kV1 dc1 pm1 an1 cd1 ct1), sl1⟩) (c1 : PySem.W.codeIn K cd1 "check_names" = true) (k1 : PySem.W.keepIn K (.ref f1) = true)
    (a2 : PySem.W.nsIn K mainGlobals "without_common" = some (some (.ref f2))) (l2 : K.lookup f2 = some ⟨oc2, od2, .func (PySem.W.fnOf "without_common" "without_common" (defArgs s_without_common) (defBody s_without_common) (defScope s_without_common) .none kV2 dc2 pm2 an2 cd2 ct2), sl2⟩) (c2 : PySem.W.codeIn K cd2 "without_common" = true) (k2 : PySem.W.keepIn K (.ref f2) = true)
    (a3 : PySem.W.nsIn K mainGlobals "emptied" = some (some (.ref f3))) (l3 : K.lookup f3 = some ⟨oc3, od3, .func (PySem.W.fnOf "emptied" "emptied" (defArgs s_emptied) (defBody s_emptied) (defScope s_emptied) .none kV3 dc3 pm3 an3 cd3 ct3), sl3⟩) (c3 : PySem.W.codeIn K cd3 "emptied" = true) (k3 : PySem.W.keepIn K (.ref f3) = true)
    (a4 : PySem.W.nsIn K mainGlobals "next_source" = some (some (.ref f4))) (l4 : K.lookup f4 = some ⟨oc4, od4, .func (PySem.W.fnOf "next_source" "next_source" (defArgs s_next_source) (defBody s_next_source) (defScope s_next_source) .none kV4 dc4 pm4 an4 cd4 ct4), sl4⟩) (c4 : PySem.W.codeIn K cd4 "next_source" = true) (k4 : PySem.W.keepIn K (.ref f4) = true)
    (a5 : PySem.W.nsIn K mainGlobals "next_target" = some (some (.ref f5))) (l5 : K.lookup f5 = some ⟨oc5, od5, .func (PySem.W.fnOf "next_target" "next_target" (defArgs s_next_target) (defBody s_next_target) (defScope s_next_target) .none kV5 dc5 pm5 an5 cd5 ct5), sl5⟩) (c5 : PySem.W.codeIn K cd5 "next_target" = true) (k5 : PySem.W.keepIn K (.ref f5) = true)
    (a6 : PySem.W.nsIn K mainGlobals "both_next" = some (some (.ref f6))) (l6 : K.lookup f6 = some ⟨oc6, od6, .func (PySem.W.fnOf "both_next" "both_next" (defArgs s_both_next) (defBody s_both_next) (defScope s_both_next) .none kV6 dc6 pm6 an6 cd6 ct6), sl6⟩) (c6 : PySem.W.codeIn K cd6 "both_next" = true) (k6 : PySem.W.keepIn K (.ref f6) = true)
    (a7 : PySem.W.nsIn K mainGlobals "pour_into" = some (some (.ref f7))) (l7 : K.lookup f7 = some ⟨oc7, od7, .func (PySem.W.fnOf "pour_into" "pour_into" (defArgs s_pour_into) (defBody s_pour_into) (defScope s_pour_into) .none kV7 dc7 pm7 an7 cd7 ct7), sl7⟩) (c7 : PySem.W.codeIn K cd7 "pour_into" = true) (k7 : PySem.W.keepIn K (.ref f7) = true)
    (a8 : PySem.W.nsIn K mainGlobals "comparison" = some (some (.ref f8))) (l8 : K.lookup f8 = some ⟨oc8, od8, .func (PySem.W.fnOf "comparison" "comparison" (defArgs s_comparison) (defBody s_comparison) (defScope s_comparison) .none kV8 dc8 pm8 an8 cd8 ct8), sl8⟩) (c8 : PySem.W.codeIn K cd8 "comparison" = true) (k8 : PySem.W.keepIn K (.ref f8) = true)
    (a9 : PySem.W.nsIn K mainGlobals "_law_begun" = some (some (.ref f9))) (l9 : K.lookup f9 = some ⟨oc9, od9, .func (PySem.W.fnOf "_law_begun" "_law_begun" (defArgs s__law_begun) (defBody s__law_begun) (defScope s__law_begun) .none kV9 dc9 pm9 an9 cd9 ct9), sl9⟩) (c9 : PySem.W.codeIn K cd9 "_law_begun" = true) (k9 : PySem.W.keepIn K (.ref f9) = true)
    (a10 : PySem.W.nsIn K mainGlobals "_law_take" = some (some (.ref f10))) (l10 : K.lookup f10 = some ⟨oc10, od10, .func (PySem.W.fnOf "_law_take" "_law_take" (defArgs s__law_take) (defBody s__law_take) (defScope s__law_take) .none kV10 dc10 pm10 an10 cd10 ct10), sl10⟩) (c10 : PySem.W.codeIn K cd10 "_law_take" = true) (k10 : PySem.W.keepIn K (.ref f10) = true)
    (a11 : PySem.W.nsIn K mainGlobals "_law_pick" = some (some (.ref f11))) (l11 : K.lookup f11 = some ⟨oc11, od11, .func (PySem.W.fnOf "_law_pick" "_law_pick" (defArgs s__law_pick) (defBody s__law_pick) (defScope s__law_pick) .none kV11 dc11 pm11 an11 cd11 ct11), sl11⟩) (c11 : PySem.W.codeIn K cd11 "_law_pick" = true) (k11 : PySem.W.keepIn K (.ref f11) = true)
    (a12 : PySem.W.nsIn K mainGlobals "_law_names" = some (some (.ref f12))) (l12 : K.lookup f12 = some ⟨oc12, od12, .func (PySem.W.fnOf "_law_names" "_law_names" (defArgs s__law_names) (defBody s__law_names) (defScope s__law_names) .none kV12 dc12 pm12 an12 cd12 ct12), sl12⟩) (c12 : PySem.W.codeIn K cd12 "_law_names" = true) (k12 : PySem.W.keepIn K (.ref f12) = true)
    (a13 : PySem.W.nsIn K mainGlobals "_law_lists" = some (some (.ref f13))) (l13 : K.lookup f13 = some ⟨oc13, od13, .func (PySem.W.fnOf "_law_lists" "_law_lists" (defArgs s__law_lists) (defBody s__law_lists) (defScope s__law_lists) .none kV13 dc13 pm13 an13 cd13 ct13), sl13⟩) (c13 : PySem.W.codeIn K cd13 "_law_lists" = true) (k13 : PySem.W.keepIn K (.ref f13) = true)
    (a14 : PySem.W.nsIn K mainGlobals "_law_is_name" = some (some (.ref f14))) (l14 : K.lookup f14 = some ⟨oc14, od14, .func (PySem.W.fnOf "_law_is_name" "_law_is_name" (defArgs s__law_is_name) (defBody s__law_is_name) (defScope s__law_is_name) .none kV14 dc14 pm14 an14 cd14 ct14), sl14⟩) (c14 : PySem.W.codeIn K cd14 "_law_is_name" = true) (k14 : PySem.W.keepIn K (.ref f14) = true)
    (a15 : PySem.W.nsIn K mainGlobals "_law_is_strategy" = some (some (.ref f15))) (l15 : K.lookup f15 = some ⟨oc15, od15, .func (PySem.W.fnOf "_law_is_strategy" "_law_is_strategy" (defArgs s__law_is_strategy) (defBody s__law_is_strategy) (defScope s__law_is_strategy) .none kV15 dc15 pm15 an15 cd15 ct15), sl15⟩) (c15 : PySem.W.codeIn K cd15 "_law_is_strategy" = true) (k15 : PySem.W.keepIn K (.ref f15) = true)
    (a16 : PySem.W.nsIn K mainGlobals "_law_left" = some (some (.ref f16))) (l16 : K.lookup f16 = some ⟨oc16, od16, .func (PySem.W.fnOf "_law_left" "_law_left" (defArgs s__law_left) (defBody s__law_left) (defScope s__law_left) .none kV16 dc16 pm16 an16 cd16 ct16), sl16⟩) (c16 : PySem.W.codeIn K cd16 "_law_left" = true) (k16 : PySem.W.keepIn K (.ref f16) = true)
    (a17 : PySem.W.nsIn K mainGlobals "_law_pours" = some (some (.ref f17))) (l17 : K.lookup f17 = some ⟨oc17, od17, .func (PySem.W.fnOf "_law_pours" "_law_pours" (defArgs s__law_pours) (defBody s__law_pours) (defScope s__law_pours) .none kV17 dc17 pm17 an17 cd17 ct17), sl17⟩) (c17 : PySem.W.codeIn K cd17 "_law_pours" = true) (k17 : PySem.W.keepIn K (.ref f17) = true)
    (a18 : PySem.W.nsIn K mainGlobals "_law_is_brief" = some (some (.ref f18))) (l18 : K.lookup f18 = some ⟨oc18, od18, .func (PySem.W.fnOf "_law_is_brief" "_law_is_brief" (defArgs s__law_is_brief) (defBody s__law_is_brief) (defScope s__law_is_brief) .none kV18 dc18 pm18 an18 cd18 ct18), sl18⟩) (c18 : PySem.W.codeIn K cd18 "_law_is_brief" = true) (k18 : PySem.W.keepIn K (.ref f18) = true)
    (a19 : PySem.W.nsIn K mainGlobals "_law_used" = some (some (.ref f19))) (l19 : K.lookup f19 = some ⟨oc19, od19, .func (PySem.W.fnOf "_law_used" "_law_used" (defArgs s__law_used) (defBody s__law_used) (defScope s__law_used) .none kV19 dc19 pm19 an19 cd19 ct19), sl19⟩) (c19 : PySem.W.codeIn K cd19 "_law_used" = true) (k19 : PySem.W.keepIn K (.ref f19) = true)
    (a20 : PySem.W.nsIn K mainGlobals "_law_raised" = some (some (.ref f20))) (l20 : K.lookup f20 = some ⟨oc20, od20, .func (PySem.W.fnOf "_law_raised" "_law_raised" (defArgs s__law_raised) (defBody s__law_raised) (defScope s__law_raised) .none kV20 dc20 pm20 an20 cd20 ct20), sl20⟩) (c20 : PySem.W.codeIn K cd20 "_law_raised" = true) (k20 : PySem.W.keepIn K (.ref f20) = true)
    (a21 : PySem.W.nsIn K mainGlobals "_law_bad" = some (some (.ref f21))) (l21 : K.lookup f21 = some ⟨oc21, od21, .func (PySem.W.fnOf "_law_bad" "_law_bad" (defArgs s__law_bad) (defBody s__law_bad) (defScope s__law_bad) .none kV21 dc21 pm21 an21 cd21 ct21), sl21⟩) (c21 : PySem.W.codeIn K cd21 "_law_bad" = true) (k21 : PySem.W.keepIn K (.ref f21) = true)
    (a22 : PySem.W.nsIn K mainGlobals "law" = some (some (.ref f22))) (l22 : K.lookup f22 = some ⟨oc22, od22, .func (PySem.W.fnOf "law" "law" (defArgs s_law) (defBody s_law) (defScope s_law) .none kV22 dc22 pm22 an22 cd22 ct22), sl22⟩) (c22 : PySem.W.codeIn K cd22 "law" = true) (k22 : PySem.W.keepIn K (.ref f22) = true)
    (z_LETTERS : PySem.W.nsIn K mainGlobals "LETTERS" = some (some (.str "abcdefghijklmnopqrstuvwxyz" t_LETTERS)))
    (z_LONGEST_NAME : PySem.W.nsIn K mainGlobals "LONGEST_NAME" = some (some (.int 6 t_LONGEST_NAME)))
    (z_MOST_NAMES : PySem.W.nsIn K mainGlobals "MOST_NAMES" = some (some (.int 5 t_MOST_NAMES)))
    (z_all : PySem.W.nsIn K mainGlobals "all" = some none)
    (z_enumerate : PySem.W.nsIn K mainGlobals "enumerate" = some none)
    (z_int : PySem.W.nsIn K mainGlobals "int" = some none)
    (z_isinstance : PySem.W.nsIn K mainGlobals "isinstance" = some none)
    (z_len : PySem.W.nsIn K mainGlobals "len" = some none)
    (z_list : PySem.W.nsIn K mainGlobals "list" = some none)
    (z_max : PySem.W.nsIn K mainGlobals "max" = some none)
    (z_min : PySem.W.nsIn K mainGlobals "min" = some none)
    (z_range : PySem.W.nsIn K mainGlobals "range" = some none)
    (z_repr : PySem.W.nsIn K mainGlobals "repr" = some none)
    (z_str : PySem.W.nsIn K mainGlobals "str" = some none)
    (z_tuple : PySem.W.nsIn K mainGlobals "tuple" = some none)
    (aB : PySem.W.nsIn K mainGlobals "PourError" = some (some (.ref B)))
    (gB : PySem.W.specialIn K (.ref B) "__getattribute__" = some (some (.builtin "type.__getattribute__")))
    (rB : PySem.W.readsIn K B (.type "type") = true)
    (tB : PySem.W.typeIn K (.ref B) = some (.type "type"))
    (fB : PySem.W.findCls K (.ref B) (.type "type") "__init__" = some (.val (.builtin "ValueError.__init__")))
    (aCInvalidName : PySem.W.nsIn K mainGlobals "InvalidName" = some (some (.ref CInvalidName)))
    (xLInvalidName : K.lookup CInvalidName = some (PySem.excClassObj nmInvalidName qnInvalidName CInvalidName NInvalidName bsInvalidName [.ref B, .type "ValueError", .type "Exception", .type "BaseException", .type "object"] true snInvalidName subInvalidName abInvalidName colInvalidName ddAInvalidName m0InvalidName m1InvalidName m2InvalidName m3InvalidName m5InvalidName "ValueError.__new__"))
    (saInvalidName : PySem.W.findIn K (.ref CInvalidName) "__setattr__" = some (some (.builtin "object.__setattr__")))
    (gaInvalidName : PySem.W.findIn K (.ref CInvalidName) "__getattribute__" = some (some (.builtin "BaseException.__getattribute__")))
    (ggInvalidName : PySem.W.findIn K (.ref CInvalidName) "__getattr__" = some none)
    (nbInvalidName : PySem.W.findIn K (.ref CInvalidName) "name" = some none)
    (aIInvalidName : PySem.W.findIn K (.ref CInvalidName) "__init__" = some (some (.ref IInvalidName)))
    (tIInvalidName : PySem.W.typeIn K (.ref IInvalidName) = some (.type "function"))
    (lIInvalidName : K.lookup IInvalidName = some ⟨ocIInvalidName, odIInvalidName, .func (PySem.W.fnOf "__init__" "InvalidName.__init__" (defArgs (inClass (top 2) 0)) (defBody (inClass (top 2) 0)) (defScope (inClass (top 2) 0)) .none kVIInvalidName dcIInvalidName pmIInvalidName anIInvalidName cdIInvalidName ctIInvalidName), slIInvalidName⟩)
    (cIInvalidName : PySem.W.codeIn K cdIInvalidName "InvalidName.__init__" = true)
    (kIInvalidName : PySem.W.keepIn K (.ref IInvalidName) = true)
    (kCInvalidName : PySem.W.keepIn K (.ref CInvalidName) = true)
    (eCInvalidName : PySem.W.subIn K (.ref CInvalidName) (.type "BaseException") = some true)
    (tCInvalidName : PySem.W.typeIn K (.ref CInvalidName) = some (.type "type"))
    (hCInvalidName : PySem.W.hasDictIn K CInvalidName = true)
    (iCInvalidName : PySem.W.isClsIn K CInvalidName = true)
    (sCInvalidName : PySem.W.subIn K (.ref CInvalidName) (.ref CInvalidName) = some true)
    (kn : kNiceB K = true) : ∃ (fd : FuncData) (ct : CT), ct.t = [] ∧ (∀ (s : Shared) (v : Value), BindsTo s fd ⟨[v], []⟩ [("_law_script", v)]) ∧ ∀ base : Heap, K.In base → base.Ns mainGlobals mg → FnG P w K mg base (L2.CX P w) 55 fa fd ["_law_script"] (SpD K ct f_law) := by
  have e := hfa.symm.trans (PySem.W.mg_of X G a22)
  cases e
  have hK := kNice_of kn
  have Gs : Gm K mg := ⟨glb_str (PySem.W.mg_of X G z_LETTERS), glb_int (PySem.W.mg_of X G z_LONGEST_NAME), glb_int (PySem.W.mg_of X G z_MOST_NAMES), PySem.W.mg_none_of X G z_all, PySem.W.mg_none_of X G z_enumerate, PySem.W.mg_none_of X G z_int, PySem.W.mg_none_of X G z_isinstance, PySem.W.mg_none_of X G z_len, PySem.W.mg_none_of X G z_list, PySem.W.mg_none_of X G z_max, PySem.W.mg_none_of X G z_min, PySem.W.mg_none_of X G z_range, PySem.W.mg_none_of X G z_repr, PySem.W.mg_none_of X G z_str, PySem.W.mg_none_of X G z_tuple⟩
  have F0 := fun_mk (st := s_is_name) l0 c0 k0
  have F1 := fun_mk (st := s_check_names) l1 c1 k1
  have F2 := fun_mk (st := s_without_common) l2 c2 k2
  have F3 := fun_mk (st := s_emptied) l3 c3 k3
  have F4 := fun_mk (st := s_next_source) l4 c4 k4
  have F5 := fun_mk (st := s_next_target) l5 c5 k5
  have F6 := fun_mk (st := s_both_next) l6 c6 k6
  have F7 := fun_mk (st := s_pour_into) l7 c7 k7
  have F8 := fun_mk (st := s_comparison) l8 c8 k8
  have F9 := fun_mk (st := s__law_begun) l9 c9 k9
  have F10 := fun_mk (st := s__law_take) l10 c10 k10
  have F11 := fun_mk (st := s__law_pick) l11 c11 k11
  have F12 := fun_mk (st := s__law_names) l12 c12 k12
  have F13 := fun_mk (st := s__law_lists) l13 c13 k13
  have F14 := fun_mk (st := s__law_is_name) l14 c14 k14
  have F15 := fun_mk (st := s__law_is_strategy) l15 c15 k15
  have F16 := fun_mk (st := s__law_left) l16 c16 k16
  have F17 := fun_mk (st := s__law_pours) l17 c17 k17
  have F18 := fun_mk (st := s__law_is_brief) l18 c18 k18
  have F19 := fun_mk (st := s__law_used) l19 c19 k19
  have F20 := fun_mk (st := s__law_raised) l20 c20 k20
  have F21 := fun_mk (st := s__law_bad) l21 c21 k21
  have F22 := fun_mk (st := s_law) l22 c22 k22
  refine ⟨PySem.W.fnOf "law" "law" (defArgs s_law) (defBody s_law) (defScope s_law) .none kV22 dc22 pm22 an22 cd22 ct22, (ctOf mg), rfl, fun s v => .of_eq rfl, fun base _ _ => ?_⟩
  have Tb : BasE K mg "PourError" := ⟨⟨B, PySem.W.mg_of X G aB, gB, rB, tB, fB⟩⟩
  have gInvalidName := PySem.W.mg_of X G aCInvalidName
  have eInvalidName : ctOf mg "InvalidName" = CInvalidName := ctOf_of gInvalidName
  have TInvalidName : OexC K CInvalidName := ⟨⟨_, _, _, _, _, _, _, _, _, _, _, _, _, _, _, xLInvalidName, by rfl⟩, saInvalidName, eCInvalidName, tCInvalidName, kCInvalidName⟩
  have FIInvalidName := fun_mk (st := (inClass (top 2) 0)) lIInvalidName cIInvalidName kIInvalidName
  have oIInvalidName : FnOk P w K mg base (L2.CX P w) 1 IInvalidName _ ["self", "name"] (SpInit CInvalidName "name") := init_ok FIInvalidName ⟨rfl, rfl, rfl, by decide +kernel, rfl, by decide +kernel, by decide +kernel⟩ TInvalidName nbInvalidName (fun _ _ _ _ _ _ => pss_init Tb)
  have x_InvalidName : ExcC P w K mg base (ctOf mg) "InvalidName" "name" := ⟨⟨CInvalidName, IInvalidName, _, _, TInvalidName, aIInvalidName, tIInvalidName, oIInvalidName, FIInvalidName.binds (fun _ _ _ _ _ _ us hl => match us, hl with | [_, _], _ => rfl), gInvalidName, eInvalidName⟩⟩
  have t_InvalidName : CatC K mg (ctOf mg) "InvalidName" [("InvalidName", true)] := catC_self gInvalidName (exm_self eCInvalidName iCInvalidName tCInvalidName sCInvalidName)
  have d_InvalidName_name : FldC K (ctOf mg) "InvalidName" "name" := ⟨by rw [eInvalidName]; exact ⟨⟨gaInvalidName, ggInvalidName, eCInvalidName, hCInvalidName⟩, nbInvalidName⟩⟩
  have o0 : FnG P w K mg base (L2.CX P w) 1 f0 _ ["value"] (SpD K (ctOf mg) f_is_name) := ok_is_name F0 Gs hK
  have h_is_name : CalleeG P w K mg base (ctOf mg) "is_name" 1 f_is_name := calleeG_mk F0 o0 (PySem.W.mg_of X G a0) fun _ _ _ _ _ _ us hl => match us, hl with | [_], _ => rfl
  have o1 : FnG P w K mg base (L2.CX P w) 3 f1 _ ["one", "other"] (SpD K (ctOf mg) f_check_names) := ok_check_names F1 Gs hK h_is_name x_InvalidName
  have h_check_names : CalleeG P w K mg base (ctOf mg) "check_names" 3 f_check_names := calleeG_mk F1 o1 (PySem.W.mg_of X G a1) fun _ _ _ _ _ _ us hl => match us, hl with | [_, _], _ => rfl
  have o2 : FnG P w K mg base (L2.CX P w) 1 f2 _ ["one", "other"] (SpD K (ctOf mg) f_without_common) := ok_without_common F2 Gs hK
  have h_without_common : CalleeG P w K mg base (ctOf mg) "without_common" 1 f_without_common := calleeG_mk F2 o2 (PySem.W.mg_of X G a2) fun _ _ _ _ _ _ us hl => match us, hl with | [_, _], _ => rfl
  have o3 : FnG P w K mg base (L2.CX P w) 1 f3 _ ["name", "used", "strategy"] (SpD K (ctOf mg) f_emptied) := ok_emptied F3 Gs hK
  have h_emptied : CalleeG P w K mg base (ctOf mg) "emptied" 1 f_emptied := calleeG_mk F3 o3 (PySem.W.mg_of X G a3) fun _ _ _ _ _ _ us hl => match us, hl with | [_, _, _], _ => rfl
  have b4 := F4.binds (ps := ["target", "sources", "targets", "used"]) fun _ _ _ _ _ _ us hl => match us, hl with | [_, _, _, _], _ => rfl
  have b5 := F5.binds (ps := ["source", "sources", "targets", "used"]) fun _ _ _ _ _ _ us hl => match us, hl with | [_, _, _, _], _ => rfl
  have b6 := F6.binds (ps := ["sources", "targets", "used"]) fun _ _ _ _ _ _ us hl => match us, hl with | [_, _, _], _ => rfl
  have b7 := F7.binds (ps := ["source", "target", "sources", "targets", "used"]) fun _ _ _ _ _ _ us hl => match us, hl with | [_, _, _, _, _], _ => rfl
  have o7 := cyc_pour_into F4 F5 F6 F7 (PySem.W.mg_of X G a4) b4 (PySem.W.mg_of X G a5) b5 (PySem.W.mg_of X G a6) b6 (PySem.W.mg_of X G a7) b7 Gs hK h_emptied 12
  have h_pour_into : CalleeG P w K mg base (ctOf mg) "pour_into" 49 (f_pour_into 12) := ⟨⟨_, _, _, o7, PySem.W.mg_of X G a7, F7.kp, b7⟩⟩
  have h_next_source : CalleeG P w K mg base (ctOf mg) "next_source" 50 (f_next_source 12) := ⟨⟨_, _, _, ok_next_source (lv := 49) F4 Gs hK  (by decide) h_pour_into (by decide), PySem.W.mg_of X G a4, F4.kp, b4⟩⟩
  have h_next_target : CalleeG P w K mg base (ctOf mg) "next_target" 51 (f_next_target 12) := ⟨⟨_, _, _, ok_next_target (lv := 50) F5 Gs hK h_emptied (by decide) h_pour_into (by decide), PySem.W.mg_of X G a5, F5.kp, b5⟩⟩
  have h_both_next : CalleeG P w K mg base (ctOf mg) "both_next" 52 (f_both_next 12) := ⟨⟨_, _, _, ok_both_next (lv := 51) F6 Gs hK  (by decide) h_next_target (by decide), PySem.W.mg_of X G a6, F6.kp, b6⟩⟩
  have o8 : FnG P w K mg base (L2.CX P w) 53 f8 _ ["one", "other"] (SpD K (ctOf mg) f_comparison) := ok_comparison F8 Gs hK h_both_next h_check_names h_without_common
  have h_comparison : CalleeG P w K mg base (ctOf mg) "comparison" 53 f_comparison := calleeG_mk F8 o8 (PySem.W.mg_of X G a8) fun _ _ _ _ _ _ us hl => match us, hl with | [_, _], _ => rfl
  have q_comparison_0_other_one : CalC P w K mg base (ctOf mg) "comparison" 53 0 ["other", "one"] [1, 0] [] f_comparison := calC_mk F8 o8 (PySem.W.mg_of X G a8) (Bnd.of F8 fun _ _ _ _ _ _ us ws h1 h2 => match us, ws, h1, h2 with | [], [_, _], _, _ => rfl)
  have o9 : FnG P w K mg base (L2.CX P w) 1 f9 _ ["_law_script"] (SpD K (ctOf mg) f__law_begun) := ok__law_begun F9 Gs hK
  have h__law_begun : CalleeG P w K mg base (ctOf mg) "_law_begun" 1 f__law_begun := calleeG_mk F9 o9 (PySem.W.mg_of X G a9) fun _ _ _ _ _ _ us hl => match us, hl with | [_], _ => rfl
  have o10 : FnG P w K mg base (L2.CX P w) 1 f10 _ ["_law_state", "_law_size"] (SpD K (ctOf mg) f__law_take) := ok__law_take F10 Gs hK
  have h__law_take : CalleeG P w K mg base (ctOf mg) "_law_take" 1 f__law_take := calleeG_mk F10 o10 (PySem.W.mg_of X G a10) fun _ _ _ _ _ _ us hl => match us, hl with | [_, _], _ => rfl
  have o11 : FnG P w K mg base (L2.CX P w) 2 f11 _ ["_law_state", "_law_items"] (SpD K (ctOf mg) f__law_pick) := ok__law_pick F11 Gs hK h__law_take
  have h__law_pick : CalleeG P w K mg base (ctOf mg) "_law_pick" 2 f__law_pick := calleeG_mk F11 o11 (PySem.W.mg_of X G a11) fun _ _ _ _ _ _ us hl => match us, hl with | [_, _], _ => rfl
  have o12 : FnG P w K mg base (L2.CX P w) 3 f12 _ ["_law_state", "_law_count"] (SpD K (ctOf mg) f__law_names) := ok__law_names F12 Gs hK h__law_pick h__law_take
  have h__law_names : CalleeG P w K mg base (ctOf mg) "_law_names" 3 f__law_names := calleeG_mk F12 o12 (PySem.W.mg_of X G a12) fun _ _ _ _ _ _ us hl => match us, hl with | [_, _], _ => rfl
  have o13 : FnG P w K mg base (L2.CX P w) 3 f13 _ ["_law_state", "_law_names_here", "_law_most"] (SpD K (ctOf mg) f__law_lists) := ok__law_lists F13 Gs hK h__law_pick h__law_take
  have h__law_lists : CalleeG P w K mg base (ctOf mg) "_law_lists" 3 f__law_lists := calleeG_mk F13 o13 (PySem.W.mg_of X G a13) fun _ _ _ _ _ _ us hl => match us, hl with | [_, _, _], _ => rfl
  have o14 : FnG P w K mg base (L2.CX P w) 1 f14 _ ["_law_value"] (SpD K (ctOf mg) f__law_is_name) := ok__law_is_name F14 Gs hK
  have h__law_is_name : CalleeG P w K mg base (ctOf mg) "_law_is_name" 1 f__law_is_name := calleeG_mk F14 o14 (PySem.W.mg_of X G a14) fun _ _ _ _ _ _ us hl => match us, hl with | [_], _ => rfl
  have b15 := F15.binds (ps := ["_law_value"]) fun _ _ _ _ _ _ us hl => match us, hl with | [_], _ => rfl
  have o15 : FnG P w K mg base (L2.CX P w) 42 f15 _ ["_law_value"] (SpD K (ctOf mg) (f__law_is_strategy 40)) := ok__law_is_strategy F15 Gs hK h__law_is_name (PySem.W.mg_of X G a15) b15 40
  have h__law_is_strategy : CalleeG P w K mg base (ctOf mg) "_law_is_strategy" 42 (f__law_is_strategy 40) := ⟨⟨_, _, _, o15, PySem.W.mg_of X G a15, F15.kp, b15⟩⟩
  have o16 : FnG P w K mg base (L2.CX P w) 1 f16 _ ["_law_one_list", "_law_other_list"] (SpD K (ctOf mg) f__law_left) := ok__law_left F16 Gs hK
  have h__law_left : CalleeG P w K mg base (ctOf mg) "_law_left" 1 f__law_left := calleeG_mk F16 o16 (PySem.W.mg_of X G a16) fun _ _ _ _ _ _ us hl => match us, hl with | [_, _], _ => rfl
  have b17 := F17.binds (ps := ["_law_strategy"]) fun _ _ _ _ _ _ us hl => match us, hl with | [_], _ => rfl
  have o17 : FnG P w K mg base (L2.CX P w) 41 f17 _ ["_law_strategy"] (SpD K (ctOf mg) (f__law_pours 40)) := ok__law_pours F17 Gs hK  (PySem.W.mg_of X G a17) b17 40
  have h__law_pours : CalleeG P w K mg base (ctOf mg) "_law_pours" 41 (f__law_pours 40) := ⟨⟨_, _, _, o17, PySem.W.mg_of X G a17, F17.kp, b17⟩⟩
  have b18 := F18.binds (ps := ["_law_strategy", "_law_others"]) fun _ _ _ _ _ _ us hl => match us, hl with | [_, _], _ => rfl
  have o18 : FnG P w K mg base (L2.CX P w) 41 f18 _ ["_law_strategy", "_law_others"] (SpD K (ctOf mg) (f__law_is_brief 40)) := ok__law_is_brief F18 Gs hK  (PySem.W.mg_of X G a18) b18 40
  have h__law_is_brief : CalleeG P w K mg base (ctOf mg) "_law_is_brief" 41 (f__law_is_brief 40) := ⟨⟨_, _, _, o18, PySem.W.mg_of X G a18, F18.kp, b18⟩⟩
  have b19 := F19.binds (ps := ["_law_strategy"]) fun _ _ _ _ _ _ us hl => match us, hl with | [_], _ => rfl
  have o19 : FnG P w K mg base (L2.CX P w) 41 f19 _ ["_law_strategy"] (SpD K (ctOf mg) (f__law_used 40)) := ok__law_used F19 Gs hK  (PySem.W.mg_of X G a19) b19 40
  have h__law_used : CalleeG P w K mg base (ctOf mg) "_law_used" 41 (f__law_used 40) := ⟨⟨_, _, _, o19, PySem.W.mg_of X G a19, F19.kp, b19⟩⟩
  have o20 : FnG P w K mg base (L2.CX P w) 54 f20 _ ["_law_first", "_law_second"] (SpD K (ctOf mg) f__law_raised) := ok__law_raised F20 Gs hK h_comparison t_InvalidName d_InvalidName_name
  have h__law_raised : CalleeG P w K mg base (ctOf mg) "_law_raised" 54 f__law_raised := calleeG_mk F20 o20 (PySem.W.mg_of X G a20) fun _ _ _ _ _ _ us hl => match us, hl with | [_, _], _ => rfl
  have o21 : FnG P w K mg base (L2.CX P w) 3 f21 _ ["_law_state", "_law_good"] (SpD K (ctOf mg) f__law_bad) := ok__law_bad F21 Gs hK h__law_pick h__law_take
  have h__law_bad : CalleeG P w K mg base (ctOf mg) "_law_bad" 3 f__law_bad := calleeG_mk F21 o21 (PySem.W.mg_of X G a21) fun _ _ _ _ _ _ us hl => match us, hl with | [_, _], _ => rfl
  have o22 : FnG P w K mg base (L2.CX P w) 55 _ _ ["_law_script"] (SpD K (ctOf mg) f_law) := ok_law F22 Gs hK h__law_bad h__law_begun h__law_is_brief h__law_is_strategy h__law_left h__law_lists h__law_names h__law_pours h__law_raised h__law_take h__law_used h_comparison q_comparison_0_other_one
  exact o22
end KX
open PySem PySem.W PyProof.Rows
set_option maxRecDepth 100000 in
set_option maxHeartbeats 0 in
theorem PySem.Challenge.cw_blindpour_k33_comparisons_have_the_docum_holds : PySem.Challenge.rw_blindpour_k33_comparisons_have_the_docum.Holds := by
  w_on; o_law; k_head; (case hw => w_witness2)
  k_fill
  refine DL.walk_dl (l := PySem.Challenge.rw_blindpour_k33_comparisons_have_the_docum) (k := 55) (x := "_law_script") (cf := KX.f_law) rfl (by decide) rfl ⟨rfl, by decide, by decide⟩ (fun w h Y => PySem.W.kIn_of Y) ?F KX.plain
  case F =>
    intro w mg fa h KI G hmg
    refine' KX.all_mk KI G hmg ?a0 ?l0 ?c0 ?k0 ?a1 ?l1 ?c1 ?k1 ?a2 ?l2 ?c2 ?k2 ?a3 ?l3 ?c3 ?k3 ?a4 ?l4 ?c4 ?k4 ?a5 ?l5 ?c5 ?k5 ?a6 ?l6 ?c6 ?k6 ?a7 ?l7 ?c7 ?k7 ?a8 ?l8 ?c8 ?k8 ?a9 ?l9 ?c9 ?k9 ?a10 ?l10 ?c10 ?k10 ?a11 ?l11 ?c11 ?k11 ?a12 ?l12 ?c12 ?k12 ?a13 ?l13 ?c13 ?k13 ?a14 ?l14 ?c14 ?k14 ?a15 ?l15 ?c15 ?k15 ?a16 ?l16 ?c16 ?k16 ?a17 ?l17 ?c17 ?k17 ?a18 ?l18 ?c18 ?k18 ?a19 ?l19 ?c19 ?k19 ?a20 ?l20 ?c20 ?k20 ?a21 ?l21 ?c21 ?k21 ?a22 ?l22 ?c22 ?k22 ?z_LETTERS ?z_LONGEST_NAME ?z_MOST_NAMES ?z_all ?z_enumerate ?z_int ?z_isinstance ?z_len ?z_list ?z_max ?z_min ?z_range ?z_repr ?z_str ?z_tuple ?aB ?gB ?rB ?tB ?fB ?aCInvalidName ?xLInvalidName ?saInvalidName ?gaInvalidName ?ggInvalidName ?nbInvalidName ?aIInvalidName ?tIInvalidName ?lIInvalidName ?cIInvalidName ?kIInvalidName ?kCInvalidName ?eCInvalidName ?tCInvalidName ?hCInvalidName ?iCInvalidName ?sCInvalidName ?kn
    (case a0 => k_is)
    (case l0 => k_is)
    (case c0 => k_is)
    (case k0 => k_is)
    (case a1 => k_is)
    (case l1 => k_is)
    (case c1 => k_is)
    (case k1 => k_is)
    (case a2 => k_is)
    (case l2 => k_is)
    (case c2 => k_is)
    (case k2 => k_is)
    (case a3 => k_is)
    (case l3 => k_is)
    (case c3 => k_is)
    (case k3 => k_is)
    (case a4 => k_is)
    (case l4 => k_is)
    (case c4 => k_is)
    (case k4 => k_is)
    (case a5 => k_is)
    (case l5 => k_is)
    (case c5 => k_is)
    (case k5 => k_is)
    (case a6 => k_is)
    (case l6 => k_is)
    (case c6 => k_is)
    (case k6 => k_is)
    (case a7 => k_is)
    (case l7 => k_is)
    (case c7 => k_is)
    (case k7 => k_is)
    (case a8 => k_is)
    (case l8 => k_is)
    (case c8 => k_is)
    (case k8 => k_is)
    (case a9 => k_is)
    (case l9 => k_is)
    (case c9 => k_is)
    (case k9 => k_is)
    (case a10 => k_is)
    (case l10 => k_is)
    (case c10 => k_is)
    (case k10 => k_is)
    (case a11 => k_is)
    (case l11 => k_is)
    (case c11 => k_is)
    (case k11 => k_is)
    (case a12 => k_is)
    (case l12 => k_is)
    (case c12 => k_is)
    (case k12 => k_is)
    (case a13 => k_is)
    (case l13 => k_is)
    (case c13 => k_is)
    (case k13 => k_is)
    (case a14 => k_is)
    (case l14 => k_is)
    (case c14 => k_is)
    (case k14 => k_is)
    (case a15 => k_is)
    (case l15 => k_is)
    (case c15 => k_is)
    (case k15 => k_is)
    (case a16 => k_is)
    (case l16 => k_is)
    (case c16 => k_is)
    (case k16 => k_is)
    (case a17 => k_is)
    (case l17 => k_is)
    (case c17 => k_is)
    (case k17 => k_is)
    (case a18 => k_is)
    (case l18 => k_is)
    (case c18 => k_is)
    (case k18 => k_is)
    (case a19 => k_is)
    (case l19 => k_is)
    (case c19 => k_is)
    (case k19 => k_is)
    (case a20 => k_is)
    (case l20 => k_is)
    (case c20 => k_is)
    (case k20 => k_is)
    (case a21 => k_is)
    (case l21 => k_is)
    (case c21 => k_is)
    (case k21 => k_is)
    (case a22 => k_is)
    (case l22 => k_is)
    (case c22 => k_is)
    (case k22 => k_is)
    (case z_LETTERS => k_is)
    (case z_LONGEST_NAME => k_is)
    (case z_MOST_NAMES => k_is)
    (case z_all => k_is)
    (case z_enumerate => k_is)
    (case z_int => k_is)
    (case z_isinstance => k_is)
    (case z_len => k_is)
    (case z_list => k_is)
    (case z_max => k_is)
    (case z_min => k_is)
    (case z_range => k_is)
    (case z_repr => k_is)
    (case z_str => k_is)
    (case z_tuple => k_is)
    (case aB => k_is)
    (case gB => k_is)
    (case rB => k_is)
    (case tB => k_is)
    (case fB => k_is)
    (case aCInvalidName => k_is)
    (case xLInvalidName => k_is)
    (case saInvalidName => k_is)
    (case gaInvalidName => k_is)
    (case ggInvalidName => k_is)
    (case nbInvalidName => k_is)
    (case aIInvalidName => k_is)
    (case tIInvalidName => k_is)
    (case lIInvalidName => k_is)
    (case cIInvalidName => k_is)
    (case kIInvalidName => k_is)
    (case kCInvalidName => k_is)
    (case eCInvalidName => k_is)
    (case tCInvalidName => k_is)
    (case hCInvalidName => k_is)
    (case iCInvalidName => k_is)
    (case sCInvalidName => first | k_is | rfl)
    (case kn => first | rfl | k_is | decide +kernel)
#print axioms PySem.Challenge.cw_blindpour_k33_comparisons_have_the_docum_holds
namespace KX
end KX
