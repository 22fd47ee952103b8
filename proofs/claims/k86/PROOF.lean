import PyProof.Rows.All
import Wide.All
import OpenK.AllK
import Wide.FinOn
import HandS.ForMost
import HandS.Exc
import HandS.TryOnly
import HandS.ExcOwn
import HandS.WordsExc
import HandS.Defaults
import HandS.Deep
import HandS.TupAny
import HandS.Wide
import HandS.TupLen
import HandS.HeadHook1
import HandS.HeadHook2
import HandS.IsInst
import HandS.Ends
import HandS.HeadEnd
import HandS.Sort
import HandS.SortOrd
import HandS.SortRule
import HandS.SortInts
import HandS.SortKw
import KE.GoesEnum
import HandS.Zip
import HandS.Conv
import KE.DataCmp
import KE.DataMinMax
import KE.SortData
import HandS.SetFor
import HandS.TupLe
import HandS.TupMul
import HandS.TupSets
import HandS.Set
import HandS.Strs
import HandS.More
import KE.GoesZip
import KE.GoesMore
import KE.KDictSum
import KE.KDictCopyH
import KE.KDictZip
import PyProof.Rows.Chain
import PyProof.StrBlock2
import KE.KDictPairs
import KE.KDictKeyed
import HandS.Dict
import KE.KDictItemsList
import HandS.ExcIs
import HandS.RaiseMore
import HandS.FStr
import HandS.Text
import HandS.Iter
import KE.KStateDown
import HandS.Head0
import HandS.Head1
import HandS.Head2
import PySem.Challenge.RW_thinways_k86_webs_written
set_option Elab.async false
set_option linter.all false
set_option maxRecDepth 100000
set_option maxHeartbeats 8000000
set_option exponentiation.threshold 5000
/-! A value layer: data trees in the place of heaps. -/
namespace TW
open PySem PySem.Spec L2

/-- a value as the layer sees it: frozen data, a list that is owned, a dict that is owned -/
inductive T where
  | frz (d : PyData)
  | scr (ns : List Int)
  | lst (ts : List T)
  | dct (kvs : List (Key × PyData))
  | lck (kvs : List (Key × PyData))
  | dtp (kvs : List (List Key × PyData))

/-- an exception object of the class cls, caught, at a -/
def ExT (cls : Value) (a : Addr) : HO := .ext fun h => ∃ (oe : Obj) (vs : Array Value), h.get? a = some oe ∧ Zc cls none oe ∧ oe.data = .fields vs
/-! data that stand frozen: as L2.Dp, its lists tracked; {} and a caught exception told as a dict -/
mutual
inductive Df (K : PySem.W.Frag) (F : Hp) : V → PyData → Prop
  | non : Df K F .non .none
  | bl (b : Bool) : Df K F (.bl b) (.bool b)
  | int (i : Int) : Df K F (.int i) (.int i)
  | str (x : Str) : Df K F (.str x) (.str x)
  | lst {a : Addr} {xs : List V} {ds : List PyData} : F a = some (.lst xs) → DfAll K F xs ds → Df K F (.ref a) (.list ds)
  | tup {a : Addr} {xs : List V} {ds : List PyData} : F a = some (.tup xs) → DfAll K F xs ds → Df K F (.ref a) (.tuple ds)
  | dic {a : Addr} : F a = some (.dK []) → Df K F (.ref a) (.dict [])
  | dc1 {a : Addr} {i j : Int} : F a = some (.dK [(.inl i, .int j)]) → Df K F (.ref a) (.dict [(.int i, .int j)])
  | exn {a : Addr} {c : Str} : F a = some (ExT (.ref (He.ga K c)) a) → Df K F (.ref a) (.dict [(.str c, .none)])
inductive DfAll (K : PySem.W.Frag) (F : Hp) : List V → List PyData → Prop
  | nil : DfAll K F [] []
  | cons {v : V} {vs : List V} {d : PyData} {ds : List PyData} : Df K F v d → DfAll K F vs ds → DfAll K F (v :: vs) (d :: ds)
end

mutual
def RepT (K : PySem.W.Frag) (F H : Hp) : T → V → List Addr → Prop
  | .frz d, v, o => Df K F v d ∧ o = []
  | .scr ns, v, o => (∃ a, v = .ref a ∧ SqL K F a (ns.map V.int)) ∧ o = []
  | .lst ts, v, o => ∃ a vs o', v = .ref a ∧ H a = some (.lst vs) ∧ RepTs K F H ts vs o' ∧ o = a :: o'
  | .dct kvs, v, o => ∃ a ps, v = .ref a ∧ H a = some (.dK ps) ∧ Paired (fun (p : Key × PyData) (q : Key × V) => p.1 = q.1 ∧ Df K F q.2 p.2) kvs ps ∧ o = [a]
  | .lck kvs, v, o => (∃ a od ps, v = .ref a ∧ F a = some (.frz od (.dK ps)) ∧ Paired (fun (p : Key × PyData) (q : Key × V) => p.1 = q.1 ∧ Df K F q.2 p.2) kvs ps) ∧ o = []
  | .dtp kvs, v, o => ∃ a ps, v = .ref a ∧ H a = some (.dT ps) ∧ Paired (fun (p : List Key × PyData) (q : List Key × V) => p.1 = q.1 ∧ Df K F q.2 p.2) kvs ps ∧ o = [a]
def RepTs (K : PySem.W.Frag) (F H : Hp) : List T → List V → List Addr → Prop
  | [], vs, o => vs = [] ∧ o = []
  | t :: ts, vs, o => ∃ v r o1 o2, vs = v :: r ∧ RepT K F H t v o1 ∧ RepTs K F H ts r o2 ∧ o = o1 ++ o2
end
abbrev G := List (Option T)
def RepG (K : PySem.W.Frag) (F H : Hp) : G → St → List Addr → Prop
  | [], σ, o => σ = [] ∧ o = []
  | none :: Γ, σ, o => ∃ x r, σ = x :: r ∧ RepG K F H Γ r o
  | some t :: Γ, σ, o => ∃ v r o1 o2, σ = some v :: r ∧ RepT K F H t v o1 ∧ RepG K F H Γ r o2 ∧ o = o1 ++ o2

/-- the state: F the frozen part of the heap, O what the slots own -/
structure Ok (K : PySem.W.Frag) (F H : Hp) (Γ : G) (σ : St) (O : List Addr) : Prop where
  sub : Same F H
  rep : RepG K F H Γ σ O
  nd : O.Nodup
  out : ∀ a ∈ O, F a = none
/-- what a piece of code may do: owning O, it leaves all else as it was, and owns O' behind -/
structure Step (F H : Hp) (O : List Addr) (F' H' : Hp) (O' : List Addr) : Prop where
  f : Same F F'
  fr : ∀ a, H a ≠ none → a ∉ O → H' a = H a ∧ (F' a ≠ none → F a ≠ none)
  own : ∀ a ∈ O', a ∈ O ∨ H a = none

/-! ### frozen data grow with the heap -/
mutual
theorem Df.mono {K : PySem.W.Frag} {F F' : Hp} (e : Same F F') : ∀ (d : PyData) (v : V), Df K F v d → Df K F' v d
  | .none, _, h => by cases h; exact .non
  | .bool b, _, h => by cases h; exact .bl b
  | .int i, _, h => by cases h; exact .int i
  | .str x, _, h => by cases h; exact .str x
  | .list ds, _, h => by
    cases h with
    | lst hs ha => exact .lst (e _ _ hs) (DfAll.mono e ds _ ha)
  | .tuple ds, _, h => by
    cases h with
    | tup hs ha => exact .tup (e _ _ hs) (DfAll.mono e ds _ ha)
  | .dict _, _, h => by
    cases h with
    | dic q => exact .dic (e _ _ q)
    | dc1 q => exact .dc1 (e _ _ q)
    | exn q => exact .exn (e _ _ q)
theorem DfAll.mono {K : PySem.W.Frag} {F F' : Hp} (e : Same F F') : ∀ (ds : List PyData) (vs : List V), DfAll K F vs ds → DfAll K F' vs ds
  | [], _, h => by cases h; exact .nil
  | d :: ds, _, h => by
    cases h with
    | cons h1 h2 => exact .cons (Df.mono e d _ h1) (DfAll.mono e ds _ h2)
end
theorem DfAll.length {K : PySem.W.Frag} {F : Hp} : ∀ {vs : List V} {ds : List PyData}, DfAll K F vs ds → vs.length = ds.length
  | _, _, .nil => rfl
  | _, _, .cons _ h => congrArg Nat.succ (DfAll.length h)
theorem DfAll.get {K : PySem.W.Frag} {F : Hp} : ∀ {vs : List V} {ds : List PyData} {i : Nat} {d : PyData}, DfAll K F vs ds → ds[i]? = some d → ∃ v, vs[i]? = some v ∧ Df K F v d
  | _, _, _, _, .nil, e => by simp at e
  | _, _, 0, _, .cons h _, e => by simp at e; subst e; exact ⟨_, rfl, h⟩
  | _, _, i + 1, d, .cons _ h, e => by
    obtain ⟨v, h1, h2⟩ := DfAll.get (i := i) (d := d) h (by simpa using e)
    exact ⟨v, by simpa using h1, h2⟩
theorem DfAll.get' {K : PySem.W.Frag} {F : Hp} : ∀ {vs : List V} {ds : List PyData} {i : Nat} {v : V}, DfAll K F vs ds → vs[i]? = some v → ∃ d, ds[i]? = some d ∧ Df K F v d
  | _, _, _, _, .nil, e => by simp at e
  | _, _, 0, _, .cons h _, e => by simp at e; subst e; exact ⟨_, rfl, h⟩
  | _, _, i + 1, d, .cons _ h, e => by
    obtain ⟨v, h1, h2⟩ := DfAll.get' (i := i) (v := d) h (by simpa using e)
    exact ⟨v, by simpa using h1, h2⟩
theorem DfAll.append {K : PySem.W.Frag} {F : Hp} : ∀ {vs ws : List V} {ds es : List PyData}, DfAll K F vs ds → DfAll K F ws es → DfAll K F (vs ++ ws) (ds ++ es)
  | _, _, _, _, .nil, h => h
  | _, _, _, _, .cons h r, h' => .cons h (DfAll.append r h')
theorem DfAll.take {K : PySem.W.Frag} {F : Hp} : ∀ {vs : List V} {ds : List PyData} (n : Nat), DfAll K F vs ds → DfAll K F (vs.take n) (ds.take n)
  | _, _, 0, _ => .nil
  | _, _, _ + 1, .nil => .nil
  | _, _, n + 1, .cons h r => .cons h (DfAll.take n r)
theorem DfAll.drop {K : PySem.W.Frag} {F : Hp} : ∀ {vs : List V} {ds : List PyData} (n : Nat), DfAll K F vs ds → DfAll K F (vs.drop n) (ds.drop n)
  | _, _, 0, r => r
  | _, _, _ + 1, .nil => .nil
  | _, _, n + 1, .cons _ r => DfAll.drop n r
theorem DfAll.reverse {K : PySem.W.Frag} {F : Hp} {vs : List V} {ds : List PyData} (h : DfAll K F vs ds) : DfAll K F vs.reverse ds.reverse := by
  induction h using DfAll.rec (motive_1 := fun _ _ _ => True) with
  | nil => exact .nil
  | cons h1 h2 ih1 ih2 => simp only [List.reverse_cons]; exact DfAll.append ih2 (.cons h1 .nil)
  | _ => trivial

/-! ### the owned parts stand where they stood -/
def On (o : List Addr) (H H' : Hp) : Prop := ∀ a ∈ o, H' a = H a
theorem On.left {o1 o2 : List Addr} {H H' : Hp} (h : On (o1 ++ o2) H H') : On o1 H H' := fun a m => h a (List.mem_append_left _ m)
theorem On.right {o1 o2 : List Addr} {H H' : Hp} (h : On (o1 ++ o2) H H') : On o2 H H' := fun a m => h a (List.mem_append_right _ m)
theorem paired_mono {κ : Type} {K : PySem.W.Frag} {F F' : Hp} (e : Same F F') {kvs : List (κ × PyData)} {ps : List (κ × V)} (h : Paired (fun (p : κ × PyData) (q : κ × V) => p.1 = q.1 ∧ Df K F q.2 p.2) kvs ps) :
    Paired (fun (p : κ × PyData) (q : κ × V) => p.1 = q.1 ∧ Df K F' q.2 p.2) kvs ps := Paired.mapP h fun _ _ q => ⟨q.1, Df.mono e _ _ q.2⟩
mutual
theorem RepT.mono {K : PySem.W.Frag} {F F' H H' : Hp} (e : Same F F') : ∀ (t : T) (v : V) (o : List Addr), RepT K F H t v o → On o H H' → RepT K F' H' t v o
  | .frz d, v, o, h, n => by
    unfold RepT at h ⊢
    exact ⟨Df.mono e _ _ h.1, h.2⟩
  | .scr ns, v, o, h, n => by
    unfold RepT at h ⊢
    obtain ⟨⟨a, rfl, hs⟩, h2⟩ := h
    exact ⟨⟨a, rfl, e.seq hs⟩, h2⟩
  | .lst ts, v, o, h, n => by
    unfold RepT at h ⊢
    obtain ⟨a, vs, o', rfl, ha, hr, rfl⟩ := h
    exact ⟨a, vs, o', rfl, (n a (List.mem_cons_self ..)).trans ha, RepTs.mono e ts vs o' hr fun b m => n b (List.mem_cons_of_mem _ m), rfl⟩
  | .dct kvs, v, o, h, n => by
    unfold RepT at h ⊢
    obtain ⟨a, ps, rfl, ha, hp, rfl⟩ := h
    exact ⟨a, ps, rfl, (n a (List.mem_cons_self ..)).trans ha, paired_mono e hp, rfl⟩
  | .lck kvs, v, o, h, n => by
    unfold RepT at h ⊢
    obtain ⟨⟨a, od, ps, rfl, ha, hp⟩, h2⟩ := h
    exact ⟨⟨a, od, ps, rfl, e _ _ ha, paired_mono e hp⟩, h2⟩
  | .dtp kvs, v, o, h, n => by
    unfold RepT at h ⊢
    obtain ⟨a, ps, rfl, ha, hp, rfl⟩ := h
    exact ⟨a, ps, rfl, (n a (List.mem_cons_self ..)).trans ha, paired_mono e hp, rfl⟩
theorem RepTs.mono {K : PySem.W.Frag} {F F' H H' : Hp} (e : Same F F') : ∀ (ts : List T) (vs : List V) (o : List Addr), RepTs K F H ts vs o → On o H H' → RepTs K F' H' ts vs o
  | [], vs, o, h, n => by
    unfold RepTs at h ⊢
    exact h
  | t :: ts, vs, o, h, n => by
    unfold RepTs at h ⊢
    obtain ⟨v, r, o1, o2, rfl, h1, h2, rfl⟩ := h
    exact ⟨v, r, o1, o2, rfl, RepT.mono e t v o1 h1 n.left, RepTs.mono e ts r o2 h2 n.right, rfl⟩
end
theorem RepG.mono {K : PySem.W.Frag} {F F' H H' : Hp} (e : Same F F') : ∀ {Γ : G} {σ : St} {o : List Addr}, RepG K F H Γ σ o → On o H H' → RepG K F' H' Γ σ o
  | [], _, _, h, n => h
  | none :: Γ, _, _, h, n => by
    obtain ⟨x, r, rfl, h⟩ := h
    exact ⟨x, r, rfl, RepG.mono e h n⟩
  | some t :: Γ, _, _, h, n => by
    obtain ⟨v, r, o1, o2, rfl, h1, h2, rfl⟩ := h
    exact ⟨v, r, o1, o2, rfl, RepT.mono e t v o1 h1 n.left, RepG.mono e h2 n.right, rfl⟩
mutual
theorem RepT.live {K : PySem.W.Frag} {F H : Hp} : ∀ (t : T) (v : V) (o : List Addr), RepT K F H t v o → ∀ a ∈ o, H a ≠ none
  | .frz d, v, o, h => by
    unfold RepT at h
    rw [h.2]
    intro a m
    cases m
  | .scr d, v, o, h => by
    unfold RepT at h
    rw [h.2]
    intro a m
    cases m
  | .lst ts, v, o, h => by
    unfold RepT at h
    obtain ⟨a, vs, o', rfl, ha, hr, rfl⟩ := h
    intro b m
    rcases List.mem_cons.mp m with rfl | m
    · rw [ha]; intro q; cases q
    · exact RepTs.live ts vs o' hr b m
  | .dct kvs, v, o, h => by
    unfold RepT at h
    obtain ⟨a, ps, rfl, ha, hp, rfl⟩ := h
    intro b m
    rcases List.mem_cons.mp m with rfl | m
    · rw [ha]; intro q; cases q
    · cases m
  | .lck kvs, v, o, h => by
    unfold RepT at h
    obtain ⟨_, rfl⟩ := h
    exact fun b m => nomatch m
  | .dtp kvs, v, o, h => by
    unfold RepT at h
    obtain ⟨a, ps, rfl, ha, hp, rfl⟩ := h
    intro b m
    rcases List.mem_cons.mp m with rfl | m
    · rw [ha]; intro q; cases q
    · cases m
theorem RepTs.live {K : PySem.W.Frag} {F H : Hp} : ∀ (ts : List T) (vs : List V) (o : List Addr), RepTs K F H ts vs o → ∀ a ∈ o, H a ≠ none
  | [], vs, o, h => by
    unfold RepTs at h
    rw [h.2]
    intro a m
    cases m
  | t :: ts, vs, o, h => by
    unfold RepTs at h
    obtain ⟨v, r, o1, o2, rfl, h1, h2, rfl⟩ := h
    intro a m
    rcases List.mem_append.mp m with m | m
    · exact RepT.live t v o1 h1 a m
    · exact RepTs.live ts r o2 h2 a m
end
theorem RepG.live {K : PySem.W.Frag} {F H : Hp} : ∀ {Γ : G} {σ : St} {o : List Addr}, RepG K F H Γ σ o → ∀ a ∈ o, H a ≠ none
  | [], _, _, h => by
    rw [h.2]
    intro a m
    cases m
  | none :: Γ, _, _, h => by
    obtain ⟨x, r, rfl, h⟩ := h
    exact RepG.live h
  | some t :: Γ, _, _, h => by
    obtain ⟨v, r, o1, o2, rfl, h1, h2, rfl⟩ := h
    intro a m
    rcases List.mem_append.mp m with m | m
    · exact RepT.live t v o1 h1 a m
    · exact RepG.live h2 a m
theorem RepG.length {K : PySem.W.Frag} {F H : Hp} : ∀ {Γ : G} {σ : St} {o : List Addr}, RepG K F H Γ σ o → σ.length = Γ.length
  | [], _, _, h => by rw [h.1] <;> rfl
  | none :: Γ, _, _, h => by
    obtain ⟨x, r, rfl, h⟩ := h
    exact congrArg Nat.succ (RepG.length h)
  | some t :: Γ, _, _, h => by
    obtain ⟨v, r, o1, o2, rfl, h1, h2, rfl⟩ := h
    exact congrArg Nat.succ (RepG.length h2)

/-! ### steps -/
section
variable {F H F1 H1 F2 H2 : Hp} {O O1 O2 o : List Addr}
theorem Step.refl : Step F H O F H O := ⟨Same.refl _, fun _ _ _ => ⟨rfl, id⟩, fun _ m => .inl m⟩
theorem Step.trans (a : Step F H O F1 H1 O1) (b : Step F1 H1 O1 F2 H2 O2) : Step F H O F2 H2 O2 := by
  refine ⟨a.f.trans b.f, fun x hx ho => ?_, fun x m => ?_⟩
  · obtain ⟨e1, f1⟩ := a.fr x hx ho
    have n1 : x ∉ O1 := fun m => by
      rcases a.own x m with q | q
      · exact ho q
      · exact hx q
    obtain ⟨e2, f2⟩ := b.fr x (by rw [e1]; exact hx) n1
    exact ⟨e2.trans e1, fun q => f1 (f2 q)⟩
  · rcases b.own x m with q | q
    · exact a.own x q
    · by_cases ho : x ∈ O
      · exact .inl ho
      · by_cases hx : H x = none
        · exact .inr hx
        · have e1 := (a.fr x hx ho).1
          rw [q] at e1
          exact absurd e1.symm hx
/-- while something else, o, is held -/
theorem Step.hold (a : Step F H O F1 H1 O1) : Step F H (o ++ O) F1 H1 (o ++ O1) :=
  ⟨a.f, fun x hx ho => a.fr x hx fun m => ho (List.mem_append_right _ m), fun x m => by
    rcases List.mem_append.mp m with m | m
    · exact .inl (List.mem_append_left _ m)
    · exact (a.own x m).imp (List.mem_append_right _) id⟩
/-- .. which stands as it stood -/
theorem Step.on (a : Step F H O F1 H1 O1) (l : ∀ x ∈ o, H x ≠ none) (d : ∀ x ∈ o, x ∉ O) : On o H H1 := fun x m => (a.fr x (l x m) (d x m)).1
theorem Step.out (a : Step F H O F1 H1 O1) (l : ∀ x ∈ o, H x ≠ none) (d : ∀ x ∈ o, x ∉ O) (n : ∀ x ∈ o, F x = none) : ∀ x ∈ o, F1 x = none := fun x m => by
  cases q : F1 x with
  | none => rfl
  | some z => exact absurd (n x m) ((a.fr x (l x m) (d x m)).2 (by rw [q]; intro z; cases z))
theorem Step.apart (a : Step F H O F1 H1 O1) (l : ∀ x ∈ o, H x ≠ none) (d : ∀ x ∈ o, x ∉ O) : ∀ x ∈ o, x ∉ O1 := fun x m q => by
  rcases a.own x q with z | z
  · exact d x m z
  · exact l x m z
theorem Step.less (a : Step F H O F1 H1 O1) (h : ∀ x ∈ O2, x ∈ O1) : Step F H O F1 H1 O2 := ⟨a.f, a.fr, fun x m => a.own x (h x m)⟩
theorem Step.more (a : Step F H O F1 H1 O1) (h : ∀ x ∈ O, x ∈ O2) : Step F H O2 F1 H1 O1 := ⟨a.f, fun x hx ho => a.fr x hx fun m => ho (h x m), fun x m => (a.own x m).imp (h x) id⟩
end

/-! ### freezing -/
mutual
def fz : T → Option PyData
  | .frz d => some d
  | .scr _ => none
  | .lst ts => (fzs ts).map .list
  | .dct _ => none
  | .lck _ => none
  | .dtp _ => none
def fzs : List T → Option (List PyData)
  | [] => some []
  | t :: ts => match fz t, fzs ts with
    | some d, some ds => some (d :: ds)
    | _, _ => none
end
/-- what stands at o goes to the frozen part -/
def icy (F H : Hp) (o : List Addr) : Hp := fun a => if a ∈ o then H a else F a
theorem icy_same {F H : Hp} {o : List Addr} (n : ∀ a ∈ o, F a = none) : Same F (icy F H o) := fun b x e => by
  unfold icy
  rw [if_neg fun m => by rw [n b m] at e; cases e]
  exact e
theorem icy_sub {F H : Hp} {o : List Addr} (s : Same F H) : Same (icy F H o) H := fun b x e => by
  unfold icy at e
  split at e
  · exact e
  · exact s b x e
theorem icy_at {F H : Hp} {o : List Addr} {a : Addr} (m : a ∈ o) : icy F H o a = H a := if_pos m
theorem icy_off {F H : Hp} {o : List Addr} {a : Addr} (m : a ∉ o) : icy F H o a = F a := if_neg m
theorem icy_mono {F H : Hp} {o o' : List Addr} (s : Same F H) (h : ∀ a ∈ o, a ∈ o') : Same (icy F H o) (icy F H o') := fun b x e => by
  unfold icy at e ⊢
  split at e
  · rename_i m
    rw [if_pos (h b m)]
    exact e
  · split
    · exact s b x e
    · exact e
mutual
theorem RepT.fz {K : PySem.W.Frag} {F H : Hp} (s : Same F H) : ∀ (t : T) (v : V) (o : List Addr) (d : PyData), RepT K F H t v o → (∀ a ∈ o, F a = none) → fz t = some d → Df K (icy F H o) v d
  | .frz d, v, o, d', h, n, e => by
    unfold RepT at h
    unfold TW.fz at e
    cases e
    exact Df.mono (icy_same n) _ _ h.1
  | .scr ns, v, o, d', h, n, e => by
    unfold TW.fz at e
    cases e
  | .lst ts, v, o, d', h, n, e => by
    unfold RepT at h
    obtain ⟨a, vs, o', rfl, ha, hr, rfl⟩ := h
    unfold TW.fz at e
    cases q : fzs ts with
    | none => rw [q] at e; cases e
    | some ds =>
      rw [q] at e
      cases e
      have h1 := RepTs.fz s ts vs o' ds hr (fun b m => n b (List.mem_cons_of_mem _ m)) q
      have h2 := DfAll.mono (icy_mono (o' := a :: o') s fun b m => List.mem_cons_of_mem _ m) _ _ h1
      exact .lst ((icy_at (List.mem_cons_self ..)).trans ha) h2
  | .dct kvs, v, o, d', h, n, e => by
    unfold TW.fz at e
    cases e
  | .lck kvs, v, o, d', h, n, e => by
    unfold TW.fz at e
    cases e
  | .dtp kvs, v, o, d', h, n, e => by
    unfold TW.fz at e
    cases e
theorem RepTs.fz {K : PySem.W.Frag} {F H : Hp} (s : Same F H) : ∀ (ts : List T) (vs : List V) (o : List Addr) (ds : List PyData), RepTs K F H ts vs o → (∀ a ∈ o, F a = none) → fzs ts = some ds → DfAll K (icy F H o) vs ds
  | [], vs, o, ds, h, n, e => by
    unfold RepTs at h
    unfold fzs at e
    cases e
    rw [h.1]
    exact .nil
  | t :: ts, vs, o, ds, h, n, e => by
    unfold RepTs at h
    obtain ⟨v, r, o1, o2, rfl, h1, h2, rfl⟩ := h
    unfold fzs at e
    cases q1 : TW.fz t with
    | none => rw [q1] at e; cases e
    | some d1 =>
      cases q2 : fzs ts with
      | none => rw [q1, q2] at e; cases e
      | some d2 =>
        rw [q1, q2] at e
        cases e
        have g1 := RepT.fz s t v o1 d1 h1 (fun a m => n a (List.mem_append_left _ m)) q1
        have g2 := RepTs.fz s ts r o2 d2 h2 (fun a m => n a (List.mem_append_right _ m)) q2
        exact .cons (Df.mono (icy_mono s fun a m => List.mem_append_left _ m) _ _ g1) (DfAll.mono (icy_mono s fun a m => List.mem_append_right _ m) _ _ g2)
end
/-- the step of freezing o -/
theorem Step.ice {F H : Hp} {o O : List Addr} (n : ∀ a ∈ o, F a = none) : Step F H (o ++ O) (icy F H o) H O :=
  ⟨icy_same n, fun x hx ho => ⟨rfl, fun q => by
    unfold icy at q
    rw [if_neg fun m => ho (List.mem_append_left _ m)] at q
    exact q⟩, fun x m => .inl (List.mem_append_right _ m)⟩
/-! no dict within -/
mutual
def noDic : PyData → Bool
  | .none | .bool _ | .int _ | .str _ => true
  | .list xs | .tuple xs => noDicAll xs
  | .dict _ => false
def noDicAll : List PyData → Bool
  | [] => true
  | x :: xs => noDic x && noDicAll xs
end
mutual
theorem noDic_lay : ∀ (d : PyData), d.canLay0 = true → noDic d = true
  | .none, _ => by rw [noDic]
  | .bool _, _ => by rw [noDic]
  | .int _, _ => by rw [noDic]
  | .str _, _ => by rw [noDic]
  | .list ds, c => by rw [noDic]; exact noDic_lays ds (by rwa [PyData.canLay0] at c)
  | .tuple ds, c => by rw [noDic]; exact noDic_lays ds (by rwa [PyData.canLay0] at c)
  | .dict _, c => by rw [PyData.canLay0] at c; cases c
theorem noDic_lays : ∀ (ds : List PyData), PyData.canLayAll0 ds = true → noDicAll ds = true
  | [], _ => by rw [noDicAll]
  | d :: ds, c => by
    rw [PyData.canLayAll0, Bool.and_eq_true] at c
    rw [noDicAll, noDic_lay d c.1, noDic_lays ds c.2]
    rfl
end
theorem noDic_shaped {d : PyData} (h : PySem.SeqAt.shaped d = true) : noDic d = true := noDic_lay d (PySem.SeqAt.canLay_of_shaped h)
theorem noDic_map {α : Type} (f : α → PyData) (h : ∀ a, noDic (f a) = true) : ∀ l : List α, noDicAll (l.map f) = true
  | [] => by rw [List.map_nil, noDicAll]
  | a :: l => by rw [List.map_cons, noDicAll, h a, noDic_map f h l]; rfl
mutual
theorem Df.dp {K : PySem.W.Frag} {F H : Hp} (s : Same F H) : ∀ (d : PyData) (v : V), Df K F v d → noDic d = true → L2.Dp K H v d
  | .none, _, h, _ => by cases h; exact .non
  | .bool b, _, h, _ => by cases h; exact .bl b
  | .int i, _, h, _ => by cases h; exact .int i
  | .str x, _, h, _ => by cases h; exact .str x
  | .list ds, _, h, c => by
    cases h with
    | lst hs ha => exact .lst (.inl (.inl (s _ _ hs))) (DfAll.dp s ds _ ha (by rwa [noDic] at c))
  | .tuple ds, _, h, c => by
    cases h with
    | tup hs ha => exact .tup (.inl (.inl (s _ _ hs))) (DfAll.dp s ds _ ha (by rwa [noDic] at c))
  | .dict _, _, _, c => by rw [noDic] at c; cases c
theorem DfAll.dp {K : PySem.W.Frag} {F H : Hp} (s : Same F H) : ∀ (ds : List PyData) (vs : List V), DfAll K F vs ds → noDicAll ds = true → L2.DpAll K H vs ds
  | [], _, h, _ => by cases h; exact .nil
  | d :: ds, _, h, c => by
    rw [noDicAll, Bool.and_eq_true] at c
    cases h with
    | cons h1 h2 => exact .cons (Df.dp s d _ h1 c.1) (DfAll.dp s ds _ h2 c.2)
end
theorem tupT {K : PySem.W.Frag} {F H : Hp} {a : Addr} {xs : List V} (s : Same F H) (h : F a = some (.tup xs)) : SqT K H a xs := .inl (.inl (s _ _ h))
theorem sqT_mono {K : PySem.W.Frag} {F H : Hp} {a : Addr} {xs : List V} (s : Same F H) (h : SqT K F a xs) : SqT K H a xs := by
  rcases h with (h | ⟨o, h⟩) | h
  · exact .inl (.inl (s _ _ h))
  · exact .inl (.inr ⟨o, s _ _ h⟩)
  · exact .inr h
end TW

namespace TW
open PySem PySem.Spec L2

/-! ### runs -/
inductive Rs (α : Type) where
  | ok (a : α) (Γ : G)
  | ex (c : Str) (Γ : G)
abbrev M (α : Type) := G → Option (Rs α)
def bM {α β : Type} (m : M α) (f : α → M β) : M β := fun Γ => match m Γ with
  | none => none
  | some (.ex c Γ') => some (.ex c Γ')
  | some (.ok a Γ') => f a Γ'
def pM {α : Type} (a : α) : M α := fun Γ => some (.ok a Γ)
def oM {α : Type} (o : Option α) : M α := fun Γ => o.map fun a => .ok a Γ

/-- only new frozen things -/
structure Grow (F H F' H' : Hp) : Prop where
  f : Same F F'
  h : Same H H'
  s : Same F' H'
  n : ∀ a, F' a ≠ none → F a ≠ none ∨ H a = none
theorem Grow.refl {F H : Hp} (s : Same F H) : Grow F H F H := ⟨Same.refl _, Same.refl _, s, fun _ h => .inl h⟩
theorem Grow.trans {F H F1 H1 F2 H2 : Hp} (a : Grow F H F1 H1) (b : Grow F1 H1 F2 H2) : Grow F H F2 H2 := ⟨a.f.trans b.f, a.h.trans b.h, b.s, fun x h => by
  rcases b.n x h with q | q
  · exact a.n x q
  · exact .inr (a.h.free q)⟩
theorem none_of_same {F H : Hp} (s : Same F H) {p : Addr} (h : H p = none) : F p = none := by
  cases q : F p with
  | none => rfl
  | some o => rw [s p o q] at h; cases h
theorem same_upd {H : Hp} {p : Addr} {o : HO} (h : H p = none) : Same H (upd H p o) := fun b x e => by
  rw [upd_ne (ne_of_none e h)]
  exact e
theorem same_upd2 {F H : Hp} {p : Addr} {o : HO} (s : Same F H) : Same (upd F p o) (upd H p o) := fun b x e => by
  by_cases hb : b = p
  · subst hb; rw [upd_same] at e ⊢; exact e
  · rw [upd_ne hb] at e ⊢; exact s b x e
theorem Grow.new {F H : Hp} {p : Addr} {o : HO} (s : Same F H) (h : H p = none) : Grow F H (upd F p o) (upd H p o) := by
  refine ⟨same_upd (none_of_same s h), same_upd h, same_upd2 s, fun x hx => ?_⟩
  by_cases hb : x = p
  · subst hb; exact .inr h
  · rw [upd_ne hb] at hx; exact .inl hx
theorem Ok.grow {K : PySem.W.Frag} {F H F' H' : Hp} {Γ : G} {σ : St} {O : List Addr} (k : Ok K F H Γ σ O) (g : Grow F H F' H') : Ok K F' H' Γ σ O := by
  have live := RepG.live k.rep
  refine ⟨g.s, RepG.mono g.f k.rep fun a m => ?_, k.nd, fun a m => ?_⟩
  · cases q : H a with
    | none => exact absurd q (live a m)
    | some o => exact g.h a o q
  · cases q : F' a with
    | none => rfl
    | some o =>
      rcases g.n a (by rw [q]; intro z; cases z) with z | z
      · exact absurd (k.out a m) z
      · exact absurd z (live a m)
theorem Grow.step {F H F' H' : Hp} {O : List Addr} (g : Grow F H F' H') : Step F H O F' H' O := by
  refine ⟨g.f, fun a ha _ => ⟨?_, fun q => ?_⟩, fun _ m => .inl m⟩
  · cases q : H a with
    | none => exact absurd q ha
    | some o => exact g.h a o q
  · rcases g.n a q with z | z
    · exact z
    · exact absurd z ha

/-! ### readings meet runs -/
/-- a result that owns nothing -/
def HitN {α β : Type} (K : PySem.W.Frag) (W : WX) (R : Hp → Hp → α → β → Prop) (r : Option (Rs α)) (σ : St) (F H : Hp) (O : List Addr) (Q : β → Hp → Prop) : Prop := match r with
  | none => False
  | some (.ok d Γ') => ∀ v F' H' O', Ok K F' H' Γ' σ O' → R F' H' d v → Step F H O F' H' O' → Q v H'
  | some (.ex c Γ') => ∀ F' H' O', Ok K F' H' Γ' σ O' → Step F H O F' H' O' → W (.ref (He.ga K c)) none σ H'
/-- a result that may own -/
def HitT {α β : Type} (K : PySem.W.Frag) (W : WX) (R : Hp → Hp → α → β → List Addr → Prop) (r : Option (Rs α)) (σ : St) (F H : Hp) (O : List Addr) (Q : β → Hp → Prop) : Prop := match r with
  | none => False
  | some (.ok t Γ') => ∀ v F' H' O' o, Ok K F' H' Γ' σ O' → R F' H' t v o → (o ++ O').Nodup → (∀ a ∈ o, F' a = none) → Step F H O F' H' (o ++ O') → Q v H'
  | some (.ex c Γ') => ∀ F' H' O', Ok K F' H' Γ' σ O' → Step F H O F' H' O' → W (.ref (He.ga K c)) none σ H'
section
variable {α β γ δ : Type} {K : PySem.W.Frag} {W : WX} {σ : St} {F H F1 H1 : Hp} {O O1 o : List Addr}
theorem HitN.trans {R : Hp → Hp → α → β → Prop} {r : Option (Rs α)} {Q : β → Hp → Prop} (h : HitN K W R r σ F H O Q) (s : Step F H O F1 H1 O1) : HitN K W R r σ F1 H1 O1 Q := by
  match r, h with
  | some (.ok d Γ'), h => exact fun v F' H' O' k q s' => h v F' H' O' k q (s.trans s')
  | some (.ex c Γ'), h => exact fun F' H' O' k s' => h F' H' O' k (s.trans s')
theorem HitT.trans {R : Hp → Hp → α → β → List Addr → Prop} {r : Option (Rs α)} {Q : β → Hp → Prop} (h : HitT K W R r σ F H O Q) (s : Step F H O F1 H1 O1) : HitT K W R r σ F1 H1 O1 Q := by
  match r, h with
  | some (.ok d Γ'), h => exact fun v F' H' O' o k q n x s' => h v F' H' O' o k q n x (s.trans s')
  | some (.ex c Γ'), h => exact fun F' H' O' k s' => h F' H' O' k (s.trans s')
theorem HitN.imp {R : Hp → Hp → α → β → Prop} {r : Option (Rs α)} {Q Q' : β → Hp → Prop} (h : HitN K W R r σ F H O Q) (i : ∀ v H, Q v H → Q' v H) : HitN K W R r σ F H O Q' := by
  match r, h with
  | some (.ok d Γ'), h => exact fun v F' H' O' k q s' => i _ _ (h v F' H' O' k q s')
  | some (.ex c Γ'), h => exact h
/-- a step, then the rest: NN: neither owns -/
theorem HitN.bind {R : Hp → Hp → α → β → Prop} {R' : Hp → Hp → γ → δ → Prop} {m : M α} {f : α → M γ} {Γ : G} {Q : δ → Hp → Prop} {P : β → Hp → Prop} (h : HitN K W R' (bM m f Γ) σ F H O Q)
    (k : ∀ a Γ1 v F1 H1 O1, Ok K F1 H1 Γ1 σ O1 → R F1 H1 a v → Step F H O F1 H1 O1 → HitN K W R' (f a Γ1) σ F1 H1 O1 Q → P v H1) : HitN K W R (m Γ) σ F H O P := by
  unfold bM at h
  match q : m Γ, h with
  | some (.ok a Γ1), h => exact fun v F' H' O' g r s => k a Γ1 v F' H' O' g r s (HitN.trans h s)
  | some (.ex c Γ1), h => exact h
theorem HitT.bindN {R : Hp → Hp → α → β → Prop} {R' : Hp → Hp → γ → δ → List Addr → Prop} {m : M α} {f : α → M γ} {Γ : G} {Q : δ → Hp → Prop} {P : β → Hp → Prop} (h : HitT K W R' (bM m f Γ) σ F H O Q)
    (k : ∀ a Γ1 v F1 H1 O1, Ok K F1 H1 Γ1 σ O1 → R F1 H1 a v → Step F H O F1 H1 O1 → HitT K W R' (f a Γ1) σ F1 H1 O1 Q → P v H1) : HitN K W R (m Γ) σ F H O P := by
  unfold bM at h
  match q : m Γ, h with
  | some (.ok a Γ1), h => exact fun v F' H' O' g r s => k a Γ1 v F' H' O' g r s (HitT.trans h s)
  | some (.ex c Γ1), h => exact h
theorem HitN.bindT {R : Hp → Hp → α → β → List Addr → Prop} {R' : Hp → Hp → γ → δ → Prop} {m : M α} {f : α → M γ} {Γ : G} {Q : δ → Hp → Prop} {P : β → Hp → Prop} (h : HitN K W R' (bM m f Γ) σ F H O Q)
    (k : ∀ a Γ1 v F1 H1 O1 o, Ok K F1 H1 Γ1 σ O1 → R F1 H1 a v o → (o ++ O1).Nodup → (∀ a ∈ o, F1 a = none) → Step F H O F1 H1 (o ++ O1) → HitN K W R' (f a Γ1) σ F1 H1 (o ++ O1) Q → P v H1) : HitT K W R (m Γ) σ F H O P := by
  unfold bM at h
  match q : m Γ, h with
  | some (.ok a Γ1), h => exact fun v F' H' O' o g r n x s => k a Γ1 v F' H' O' o g r n x s (HitN.trans h s)
  | some (.ex c Γ1), h => exact h
theorem HitT.bindT {R : Hp → Hp → α → β → List Addr → Prop} {R' : Hp → Hp → γ → δ → List Addr → Prop} {m : M α} {f : α → M γ} {Γ : G} {Q : δ → Hp → Prop} {P : β → Hp → Prop} (h : HitT K W R' (bM m f Γ) σ F H O Q)
    (k : ∀ a Γ1 v F1 H1 O1 o, Ok K F1 H1 Γ1 σ O1 → R F1 H1 a v o → (o ++ O1).Nodup → (∀ a ∈ o, F1 a = none) → Step F H O F1 H1 (o ++ O1) → HitT K W R' (f a Γ1) σ F1 H1 (o ++ O1) Q → P v H1) : HitT K W R (m Γ) σ F H O P := by
  unfold bM at h
  match q : m Γ, h with
  | some (.ok a Γ1), h => exact fun v F' H' O' o g r n x s => k a Γ1 v F' H' O' o g r n x s (HitT.trans h s)
  | some (.ex c Γ1), h => exact h
/-- while o is held -/
theorem HitN.unhold {R : Hp → Hp → α → β → Prop} {r : Option (Rs α)} {Q : β → Hp → Prop} (h : HitN K W R r σ F H (o ++ O) Q) (hx : ∀ c d σ H, W c d σ H → W c d σ H := fun _ _ _ _ z => z) :
    HitN K W R r σ F H O (fun v H' => (∃ F' O', Step F H O F' H' O') ∧ Q v H') := by
  match r, h with
  | some (.ok d Γ'), h => exact fun v F' H' O' k q s => ⟨⟨F', O', s⟩, h v F' H' O' k q ((s.hold (o := o)).less fun x m => List.mem_append_right _ m)⟩
  | some (.ex c Γ'), h => exact fun F' H' O' k s => h F' H' O' k ((s.hold (o := o)).less fun x m => List.mem_append_right _ m)
/-- the end: a value -/
theorem HitN.here {R : Hp → Hp → α → β → Prop} {x : Option α} {Γ : G} {Q : β → Hp → Prop} (h : HitN K W R (oM x Γ) σ F H O Q) (k : ∀ d, x = some d → (∀ v F' H' O', Ok K F' H' Γ σ O' → R F' H' d v → Step F H O F' H' O' → Q v H') → Prop) : True := trivial
end

/-! ### what results are -/
abbrev rD (K : PySem.W.Frag) : Hp → Hp → PyData → V → Prop := fun F _ d v => Df K F v d
/-- data that is looked at: a list that may be owned, of frozen things -/
def rP (K : PySem.W.Frag) : Hp → Hp → PyData → V → Prop := fun F H d v => Df K F v d ∨ ∃ a vs ds, v = .ref a ∧ d = .list ds ∧ H a = some (.lst vs) ∧ DfAll K F vs ds
abbrev rB : Hp → Hp → Bool → Bool → Prop := fun _ _ b b' => b' = b
abbrev rT (K : PySem.W.Frag) : Hp → Hp → T → V → List Addr → Prop := fun F H t v o => RepT K F H t v o
/-- argument lists -/
abbrev rDs (K : PySem.W.Frag) : Hp → Hp → List PyData → List V → Prop := fun F _ ds vs => DfAll K F vs ds
def rPs (K : PySem.W.Frag) : Hp → Hp → List PyData → List V → Prop := fun F H ds vs => Paired (fun d v => rP K F H d v) ds vs

/-! ### the judgements -/
def VD (X : Cx) (W : WX) (e : Expr) (m : M PyData) : Prop := ∃ t, PE X e t ∧ ∀ Γ σ F H O Q, Ok X.K F H Γ σ O → HitN X.K W (rD X.K) (m Γ) σ F H O Q → t σ H Q
def VP (X : Cx) (W : WX) (e : Expr) (m : M PyData) : Prop := ∃ t, PE X e t ∧ ∀ Γ σ F H O Q, Ok X.K F H Γ σ O → HitN X.K W (rP X.K) (m Γ) σ F H O Q → t σ H Q
def VT (X : Cx) (W : WX) (e : Expr) (m : M T) : Prop := ∃ t, PE X e t ∧ ∀ Γ σ F H O Q, Ok X.K F H Γ σ O → HitT X.K W (rT X.K) (m Γ) σ F H O Q → t σ H Q
def VB (X : Cx) (W : WX) (e : Expr) (m : M Bool) : Prop := ∃ t, PT X e t ∧ ∀ Γ σ F H O Q, Ok X.K F H Γ σ O → HitN X.K W rB (m Γ) σ F H O Q → t σ H Q
def VW (X : Cx) (W : WX) (e : Expr) (m : M Bool) : Prop := ∃ t, PW X e t ∧ ∀ Γ σ F H O Q, Ok X.K F H Γ σ O → HitN X.K W rB (m Γ) σ F H O Q → t σ H Q
/-- arguments: frozen -/
def VDs (X : Cx) (W : WX) (es : List Expr) (m : M (List PyData)) : Prop := ∃ t, PA X es t ∧ ∀ Γ σ F H O Q, Ok X.K F H Γ σ O → HitN X.K W (rDs X.K) (m Γ) σ F H O Q → t σ H Q

/-! ### constants, names -/
section
variable {X : Cx} {W : WX} {pos : Pos}
def mC (d : PyData) : M PyData := pM d
theorem vd_int {i j} : VD X W (.Constant (.int i) j pos) (mC (.int i)) := ⟨_, pe_int, fun Γ σ F H O Q k h => h _ F H O k (.int i) Step.refl⟩
theorem vd_bl {b j} : VD X W (.Constant (.bool b) j pos) (mC (.bool b)) := ⟨_, pe_bl, fun Γ σ F H O Q k h => h _ F H O k (.bl b) Step.refl⟩
theorem vd_non {j} : VD X W (.Constant .none j pos) (mC .none) := ⟨_, pe_non, fun Γ σ F H O Q k h => h _ F H O k .non Step.refl⟩
theorem vd_str {x j} : VD X W (.Constant (.str x) j pos) (mC (.str x)) := ⟨_, pe_str, fun Γ σ F H O Q k h => h _ F H O k (.str x) Step.refl⟩
theorem vd_glob {x : Str} {i : Int} (hg : Gl X x) (hm : ∃ t, X.mg x = some (.int i t)) (hd : (x == ("__debug__" : Str)) = false := by decide) : VD X W (.Name x pos) (mC (.int i)) := by
  obtain ⟨t, hm⟩ := hm
  exact ⟨_, pe_glob (v := V.int i) hg hm ⟨t, rfl⟩ hd, fun Γ σ F H O Q k h => h _ F H O k (.int i) Step.refl⟩
end

/-! ### slots -/
section
variable {K : PySem.W.Frag} {F H : Hp}
/-- a slot taken out of the state -/
theorem RepG.take : ∀ {Γ : G} {σ : St} {O : List Addr} {i : Nat} {t : T}, RepG K F H Γ σ O → Γ[i]? = some (some t) →
    ∃ v o O', σ[i]? = some (some v) ∧ RepT K F H t v o ∧ RepG K F H (Γ.set i none) σ O' ∧ List.Perm O (o ++ O')
  | [], _, _, _, _, _, e => by simp at e
  | none :: Γ, _, _, 0, t, _, e => by simp at e
  | none :: Γ, _, O, i + 1, t, h, e => by
    obtain ⟨x, r, rfl, h⟩ := h
    obtain ⟨v, o, O', h1, h2, h3, h4⟩ := RepG.take (i := i) (t := t) h (by simpa using e)
    exact ⟨v, o, O', by simpa using h1, h2, ⟨x, r, rfl, h3⟩, h4⟩
  | some t' :: Γ, _, O, 0, t, h, e => by
    obtain ⟨v, r, o1, o2, rfl, h1, h2, rfl⟩ := h
    have e' : t' = t := by simpa using e
    subst e'
    exact ⟨v, o1, o2, rfl, h1, ⟨some v, r, rfl, h2⟩, .refl _⟩
  | some t' :: Γ, _, O, i + 1, t, h, e => by
    obtain ⟨v, r, o1, o2, rfl, h1, h2, rfl⟩ := h
    obtain ⟨v', o, O', g1, g2, g3, g4⟩ := RepG.take (i := i) (t := t) h2 (by simpa using e)
    refine ⟨v', o, o1 ++ O', by simpa using g1, g2, ⟨v, r, o1, O', rfl, h1, g3, rfl⟩, ?_⟩
    refine (List.Perm.append_left o1 g4).trans ?_
    rw [← List.append_assoc, ← List.append_assoc]
    exact List.Perm.append_right _ List.perm_append_comm
/-- .. put back -/
theorem RepG.put : ∀ {Γ : G} {σ : St} {O : List Addr} {i : Nat} {t : T} {v : V} {o : List Addr}, RepG K F H Γ σ O → i < Γ.length → RepT K F H t v o →
    ∃ O', RepG K F H (Γ.set i (some t)) (σ.set i (some v)) O' ∧ (Γ[i]? = some none → List.Perm O' (o ++ O)) ∧ ((o ++ O).Nodup → O'.Nodup) ∧ ∀ a ∈ O', a ∈ o ++ O
  | [], _, _, i, t, v, o, _, e, _ => by simp at e
  | none :: Γ, _, O, 0, t, v, o, h, e, q => by
    obtain ⟨x, r, rfl, h⟩ := h
    exact ⟨o ++ O, ⟨v, r, o, O, rfl, q, h, rfl⟩, fun _ => .refl _, id, fun _ m => m⟩
  | none :: Γ, _, O, i + 1, t, v, o, h, e, q => by
    obtain ⟨x, r, rfl, h⟩ := h
    obtain ⟨O', h1, h2, h3, h4⟩ := RepG.put (i := i) (t := t) (v := v) (o := o) h (by simpa using e) q
    exact ⟨O', ⟨x, _, rfl, h1⟩, fun z => h2 (by simpa using z), h3, h4⟩
  | some t' :: Γ, _, O, 0, t, v, o, h, e, q => by
    obtain ⟨v', r, o1, o2, rfl, h1, h2, rfl⟩ := h
    refine ⟨o ++ o2, ⟨v, r, o, o2, rfl, q, h2, rfl⟩, fun z => by simp at z, fun n => ?_, fun a m => ?_⟩
    · refine n.sublist ?_
      exact List.Sublist.append_left (List.sublist_append_right _ _) _
    · rcases List.mem_append.mp m with m | m
      · exact List.mem_append_left _ m
      · exact List.mem_append_right _ (List.mem_append_right _ m)
  | some t' :: Γ, _, O, i + 1, t, v, o, h, e, q => by
    obtain ⟨v', r, o1, o2, rfl, h1, h2, rfl⟩ := h
    obtain ⟨O', g1, g2, g3, g4⟩ := RepG.put (i := i) (t := t) (v := v) (o := o) h2 (by simpa using e) q
    refine ⟨o1 ++ O', ⟨v', _, o1, O', rfl, h1, g1, rfl⟩, fun z => ?_, fun n => ?_, fun a m => ?_⟩
    · refine (List.Perm.append_left o1 (g2 (by simpa using z))).trans ?_
      rw [← List.append_assoc, ← List.append_assoc]
      exact List.Perm.append_right _ List.perm_append_comm
    · have n2 : (o ++ o2).Nodup := n.sublist (List.Sublist.append_left (List.sublist_append_right _ _) _)
      refine List.nodup_append.mpr ⟨(List.nodup_append.mp (List.nodup_append.mp n).2.1).1, g3 n2, fun a ha b hb => ?_⟩
      rcases List.mem_append.mp (g4 b hb) with z | z
      · exact fun q => (List.nodup_append.mp n).2.2 b z a (List.mem_append_left _ ha) q.symm
      · exact (List.nodup_append.mp (List.nodup_append.mp n).2.1).2.2 a ha b z
    · rcases List.mem_append.mp m with m | m
      · exact List.mem_append_right _ (List.mem_append_left _ m)
      · rcases List.mem_append.mp (g4 a m) with z | z
        · exact List.mem_append_left _ z
        · exact List.mem_append_right _ (List.mem_append_right _ z)
/-- a slot forgotten -/
theorem RepG.drop : ∀ {Γ : G} {σ : St} {O : List Addr} (i : Nat) (x : Option V), RepG K F H Γ σ O → ∃ O', RepG K F H (Γ.set i none) (σ.set i x) O' ∧ (O.Nodup → O'.Nodup) ∧ ∀ a ∈ O', a ∈ O
  | [], _, O, i, x, h => by
    obtain ⟨rfl, rfl⟩ := h
    exact ⟨[], ⟨rfl, rfl⟩, id, fun _ m => m⟩
  | none :: Γ, _, O, 0, x, h => by
    obtain ⟨y, r, rfl, h⟩ := h
    exact ⟨O, ⟨x, r, rfl, h⟩, id, fun _ m => m⟩
  | none :: Γ, _, O, i + 1, x, h => by
    obtain ⟨y, r, rfl, h⟩ := h
    obtain ⟨O', h1, h2, h3⟩ := RepG.drop i x h
    exact ⟨O', ⟨y, _, rfl, h1⟩, h2, h3⟩
  | some t' :: Γ, _, O, 0, x, h => by
    obtain ⟨v', r, o1, o2, rfl, h1, h2, rfl⟩ := h
    exact ⟨o2, ⟨x, r, rfl, h2⟩, fun n => (List.nodup_append.mp n).2.1, fun a m => List.mem_append_right _ m⟩
  | some t' :: Γ, _, O, i + 1, x, h => by
    obtain ⟨v', r, o1, o2, rfl, h1, h2, rfl⟩ := h
    obtain ⟨O', g1, g2, g3⟩ := RepG.drop i x h2
    refine ⟨o1 ++ O', ⟨v', _, o1, O', rfl, h1, g1, rfl⟩, fun n => ?_, fun a m => ?_⟩
    · refine List.nodup_append.mpr ⟨(List.nodup_append.mp n).1, g2 (List.nodup_append.mp n).2.1, fun a ha b hb => (List.nodup_append.mp n).2.2 a ha b (g3 b hb)⟩
    · rcases List.mem_append.mp m with m | m
      · exact List.mem_append_left _ m
      · exact List.mem_append_right _ (g3 a m)
end
theorem set_self {α : Type} {l : List α} {i : Nat} {a : α} (h : l[i]? = some a) : l.set i a = l := by
  apply List.ext_getElem?
  intro j
  by_cases e : i = j
  · subst e
    rw [List.getElem?_set_self (List.getElem?_eq_some_iff.mp h).1, h]
  · rw [List.getElem?_set_ne e]
end TW

namespace TW
open PySem PySem.Spec L2
section
variable {K : PySem.W.Frag} {F H : Hp} {Γ : G} {σ : St} {O o : List Addr} {i : Nat} {t : T} {v : V}
theorem Ok.take (k : Ok K F H Γ σ O) (e : Γ[i]? = some (some t)) : ∃ v o O', σ[i]? = some (some v) ∧ RepT K F H t v o ∧ Ok K F H (Γ.set i none) σ O' ∧ (o ++ O').Nodup ∧ (∀ a ∈ o, F a = none) ∧ Step F H O F H (o ++ O') := by
  obtain ⟨v, o, O', h1, h2, h3, h4⟩ := RepG.take k.rep e
  have n := (List.Perm.nodup_iff h4).mp k.nd
  exact ⟨v, o, O', h1, h2, ⟨k.sub, h3, (List.nodup_append.mp n).2.1, fun a m => k.out a (h4.mem_iff.mpr (List.mem_append_right _ m))⟩, n, fun a m => k.out a (h4.mem_iff.mpr (List.mem_append_left _ m)),
    Step.refl.less fun a m => h4.mem_iff.mpr m⟩
theorem Ok.put (k : Ok K F H Γ σ O) (e : i < Γ.length) (r : RepT K F H t v o) (n : (o ++ O).Nodup) (x : ∀ a ∈ o, F a = none) : ∃ O', Ok K F H (Γ.set i (some t)) (σ.set i (some v)) O' ∧ Step F H (o ++ O) F H O' := by
  obtain ⟨O', h1, h2, h3, h4⟩ := RepG.put k.rep e r
  refine ⟨O', ⟨k.sub, h1, h3 n, fun a m => ?_⟩, Step.refl.less h4⟩
  rcases List.mem_append.mp (h4 a m) with z | z
  · exact x a z
  · exact k.out a z
theorem Ok.lt (k : Ok K F H Γ σ O) (e : σ[i]? = some (some v)) : i < Γ.length := by
  have := RepG.length k.rep
  have := (List.getElem?_eq_some_iff.mp e).1
  omega
/-- .. where it stood -/
theorem Ok.back (k : Ok K F H Γ σ O) (e : σ[i]? = some (some v)) (r : RepT K F H t v o) (n : (o ++ O).Nodup) (x : ∀ a ∈ o, F a = none) : ∃ O', Ok K F H (Γ.set i (some t)) σ O' ∧ Step F H (o ++ O) F H O' := by
  have h := k.put (k.lt e) r n x
  rw [set_self e] at h
  exact h
theorem Ok.drop (k : Ok K F H Γ σ O) (i : Nat) (x : Option V) : ∃ O', Ok K F H (Γ.set i none) (σ.set i x) O' ∧ Step F H O F H O' := by
  obtain ⟨O', h1, h2, h3⟩ := RepG.drop i x k.rep
  exact ⟨O', ⟨k.sub, h1, h2 k.nd, fun a m => k.out a (h3 a m)⟩, Step.refl.less h3⟩
theorem Ok.frz {d : PyData} (k : Ok K F H Γ σ O) (e : Γ[i]? = some (some (.frz d))) : ∃ v, σ[i]? = some (some v) ∧ Df K F v d := by
  obtain ⟨v, o, O', h1, h2, _⟩ := k.take e
  unfold RepT at h2
  exact ⟨v, h1, h2.1⟩
/-- what is held goes to the frozen part -/
theorem Ok.ice {d : PyData} (k : Ok K F H Γ σ O) (r : RepT K F H t v o) (n : (o ++ O).Nodup) (x : ∀ a ∈ o, F a = none) (e : fz t = some d) : ∃ F', Ok K F' H Γ σ O ∧ Df K F' v d ∧ Step F H (o ++ O) F' H O := by
  refine ⟨icy F H o, ⟨icy_sub k.sub, RepG.mono (icy_same x) k.rep fun _ _ => rfl, k.nd, fun a m => ?_⟩, RepT.fz k.sub t v o d r x e, Step.ice x⟩
  rw [icy_off fun q => (List.nodup_append.mp n).2.2 a q a m rfl]
  exact k.out a m
end

/-! ### names -/
def mVar (i : Nat) : M PyData := fun Γ => match Γ[i]? with
  | some (some (.frz d)) => some (.ok d Γ)
  | some (some t) => (fz t).map fun d => .ok d (Γ.set i (some (.frz d)))
  | _ => none
def mMove (i : Nat) : M T := fun Γ => match Γ[i]? with
  | some (some t) => some (.ok t (Γ.set i none))
  | _ => none
/-- a list's items, all frozen -/
def ice : List T → Option (List PyData)
  | [] => some []
  | .frz d :: ts => (ice ts).map (d :: ·)
  | _ => none
def mPeek (i : Nat) : M PyData := fun Γ => match Γ[i]? with
  | some (some (.frz d)) => some (.ok d Γ)
  | some (some (.lst ts)) => (ice ts).map fun ds => .ok (.list ds) Γ
  | _ => none
theorem ice_all {K : PySem.W.Frag} {F H : Hp} : ∀ {ts : List T} {vs : List V} {o : List Addr} {ds : List PyData}, RepTs K F H ts vs o → ice ts = some ds → DfAll K F vs ds ∧ o = []
  | [], _, _, _, h, e => by
    unfold RepTs at h
    unfold ice at e
    cases e
    rw [h.1, h.2]
    exact ⟨.nil, rfl⟩
  | .frz d :: ts, _, _, _, h, e => by
    unfold RepTs at h
    obtain ⟨v, r, o1, o2, rfl, h1, h2, rfl⟩ := h
    unfold RepT at h1
    unfold ice at e
    cases q : ice ts with
    | none => rw [q] at e; cases e
    | some ds =>
      rw [q] at e
      cases e
      obtain ⟨g1, g2⟩ := ice_all h2 q
      rw [h1.2, g2]
      exact ⟨.cons h1.1 g1, rfl⟩
  | .lst _ :: _, _, _, _, h, e => by cases e
  | .dct _ :: _, _, _, _, h, e => by cases e
  | .lck _ :: _, _, _, _, h, e => by cases e
  | .dtp _ :: _, _, _, _, h, e => by cases e
  | .scr _ :: _, _, _, _, h, e => by cases e
theorem of_ice {K : PySem.W.Frag} {F H : Hp} : ∀ {vs : List V} {ds : List PyData}, DfAll K F vs ds → RepTs K F H (ds.map .frz) vs []
  | _, _, .nil => by unfold List.map RepTs; exact ⟨rfl, rfl⟩
  | _, _, .cons h r => by
    unfold List.map RepTs
    exact ⟨_, _, [], [], rfl, by unfold RepT; exact ⟨h, rfl⟩, of_ice r, rfl⟩
theorem repFrz {K : PySem.W.Frag} {F H : Hp} {d : PyData} {v : V} (h : Df K F v d) : RepT K F H (.frz d) v [] := by
  unfold RepT; exact ⟨h, rfl⟩
section
variable {X : Cx} {W : WX} {pos : Pos}
theorem vd_var (i : Nat) {x : Str} (hN : X.N[i]? = some x := by rfl) (hv : Vis X.env.scope x := by first | exact Or.inl rfl | exact Or.inr (Or.inl rfl) | exact Or.inr (Or.inr rfl)) (hd : (x == ("__debug__" : Str)) = false := by decide)
    (hcd : (x == ("__classdict__" : Str)) = false := by decide) : VD X W (.Name x pos) (mVar i) := by
  refine ⟨_, pe_var hN hv hd hcd, fun Γ σ F H O Q k h => ?_⟩
  unfold mVar at h
  split at h
  · rename_i d e
    obtain ⟨v, e1, r⟩ := k.frz e
    exact ⟨v, e1, h v F H O k r Step.refl⟩
  · rename_i t _ e
    obtain ⟨v, o, O', e1, r, k1, n, x, s⟩ := k.take e
    cases q : fz t with
    | none => rw [q] at h; exact h.elim
    | some d =>
      rw [q] at h
      obtain ⟨F', k2, r2, s2⟩ := k1.ice r n x q
      obtain ⟨O2, k3, s3⟩ := k2.back (t := .frz d) e1 (repFrz r2) k2.nd (fun _ m => nomatch m)
      rw [List.set_set] at k3
      exact ⟨v, e1, h v F' H O2 k3 r2 ((s.trans s2).trans s3)⟩
  · exact h.elim
theorem vt_move (i : Nat) {x : Str} (hN : X.N[i]? = some x := by rfl) (hv : Vis X.env.scope x := by first | exact Or.inl rfl | exact Or.inr (Or.inl rfl) | exact Or.inr (Or.inr rfl)) (hd : (x == ("__debug__" : Str)) = false := by decide)
    (hcd : (x == ("__classdict__" : Str)) = false := by decide) : VT X W (.Name x pos) (mMove i) := by
  refine ⟨_, pe_var hN hv hd hcd, fun Γ σ F H O Q k h => ?_⟩
  unfold mMove at h
  split at h
  · rename_i t e
    obtain ⟨v, o, O', e1, r, k1, n, x, s⟩ := k.take e
    exact ⟨v, e1, h v F H O' o k1 r n x s⟩
  · exact h.elim
theorem vp_peek (i : Nat) {x : Str} (hN : X.N[i]? = some x := by rfl) (hv : Vis X.env.scope x := by first | exact Or.inl rfl | exact Or.inr (Or.inl rfl) | exact Or.inr (Or.inr rfl)) (hd : (x == ("__debug__" : Str)) = false := by decide)
    (hcd : (x == ("__classdict__" : Str)) = false := by decide) : VP X W (.Name x pos) (mPeek i) := by
  refine ⟨_, pe_var hN hv hd hcd, fun Γ σ F H O Q k h => ?_⟩
  unfold mPeek at h
  split at h
  · rename_i d e
    obtain ⟨v, e1, r⟩ := k.frz e
    exact ⟨v, e1, h v F H O k (.inl r) Step.refl⟩
  · rename_i ts e
    obtain ⟨v, o, O', e1, r, k1, n, x, s⟩ := k.take e
    cases q : ice ts with
    | none => rw [q] at h; exact h.elim
    | some ds =>
      rw [q] at h
      unfold RepT at r
      obtain ⟨a, vs, o', rfl, ha, hr, rfl⟩ := r
      obtain ⟨g1, g2⟩ := ice_all hr q
      exact ⟨.ref a, e1, h _ F H O k (.inr ⟨a, vs, ds, rfl, rfl, ha, g1⟩) Step.refl⟩
  · exact h.elim
variable {e : Expr}
/-- frozen data may be looked at, may be a result -/
theorem vp_of {m : M PyData} (h : VD X W e m) : VP X W e m := by
  obtain ⟨t, p, s⟩ := h
  refine ⟨t, p, fun Γ σ F H O Q k h => s Γ σ F H O Q k ?_⟩
  match m Γ, h with
  | some (.ok d Γ'), h => exact fun v F' H' O' k r s => h v F' H' O' k (.inl r) s
  | some (.ex c Γ'), h => exact h
def mT (m : M PyData) : M T := bM m fun d => pM (.frz d)
theorem vt_of {m : M PyData} (h : VD X W e m) : VT X W e (mT m) := by
  obtain ⟨t, p, s⟩ := h
  refine ⟨t, p, fun Γ σ F H O Q k h => s Γ σ F H O Q k ?_⟩
  unfold mT at h
  exact HitT.bindN h fun d Γ1 v F1 H1 O1 k1 r s1 h1 => h1 v F1 H1 O1 [] k1 (repFrz r) k1.nd (fun _ m => nomatch m) Step.refl
/-- a result, frozen -/
def mF (m : M T) : M PyData := bM m fun t => oM (fz t)
theorem vd_of {m : M T} (h : VT X W e m) : VD X W e (mF m) := by
  obtain ⟨t, p, s⟩ := h
  refine ⟨t, p, fun Γ σ F H O Q k h => s Γ σ F H O Q k ?_⟩
  unfold mF at h
  refine HitN.bindT h fun t Γ1 v F1 H1 O1 o k1 r n x s1 h1 => ?_
  unfold oM at h1
  cases q : fz t with
  | none => rw [q] at h1; exact h1.elim
  | some d =>
    rw [q] at h1
    obtain ⟨F2, k2, r2, s2⟩ := k1.ice r n x q
    exact h1 v F2 H1 O1 k2 r2 s2

/-! ### operators, by values -/
abbrev OpF := PyData → PyData → Option PyData
def OpD (X : Cx) (fo : Value → Value → Sem Value) (f : OpF) : Prop := ∃ r : R2, OpR X fo r ∧ ∀ a b d, f a b = some d → ∀ x y F H Q, Same F H → Df X.K F x a → Df X.K F y b →
  (∀ v F' H', Grow F H F' H' → Df X.K F' v d → Q v H') → r x y H Q
/-- .. the right one looked at -/
def OpP (X : Cx) (fo : Value → Value → Sem Value) (f : OpF) : Prop := ∃ r : R2, OpR X fo r ∧ ∀ a b d, f a b = some d → ∀ x y F H Q, Same F H → Df X.K F x a → rP X.K F H b y →
  (∀ v F' H', Grow F H F' H' → Df X.K F' v d → Q v H') → r x y H Q
theorem OpP.d {fo : Value → Value → Sem Value} {f : OpF} (h : OpP X fo f) : OpD X fo f := by
  obtain ⟨r, h1, h2⟩ := h
  exact ⟨r, h1, fun a b d e x y F H Q s ra rb q => h2 a b d e x y F H Q s ra (.inl rb) q⟩
def mOp (f : OpF) (ma mb : M PyData) : M PyData := bM ma fun a => bM mb fun b => oM (f a b)
variable {a b : Expr} {ma mb : M PyData}
theorem HitN.fin {K : PySem.W.Frag} {R : Hp → Hp → PyData → V → Prop} {x : Option PyData} {Γ : G} {σ : St} {F H : Hp} {O : List Addr} {Q : VK} (h : HitN K W R (oM x Γ) σ F H O Q) (k : Ok K F H Γ σ O) :
    ∃ d, x = some d ∧ ∀ v F' H', Grow F H F' H' → R F' H' d v → Q v H' := by
  unfold oM at h
  cases x with
  | none => exact h.elim
  | some d => exact ⟨d, rfl, fun v F' H' g r => h v F' H' O (k.grow g) r g.step⟩
theorem op_hit {fo : Value → Value → Sem Value} {f : OpF} (ho : OpP X fo f) (ha : VD X W a ma) (hb : VP X W b mb) : ∃ (r : R2) (ta tb : TE), OpR X fo r ∧ PE X a ta ∧ PE X b tb ∧ ∀ Γ σ F H O Q, Ok X.K F H Γ σ O → HitN X.K W (rD X.K) (mOp f ma mb Γ) σ F H O Q → tOp r ta tb σ H Q := by
  obtain ⟨r, hr, hf⟩ := ho
  obtain ⟨ta, pa, sa⟩ := ha
  obtain ⟨tb, pb, sb⟩ := hb
  refine ⟨r, ta, tb, hr, pa, pb, fun Γ σ F H O Q k h => sa Γ σ F H O _ k ?_⟩
  unfold mOp at h
  refine HitN.bind h fun da Γ1 v F1 H1 O1 k1 r1 s1 h1 => sb Γ1 σ F1 H1 O1 _ k1 ?_
  refine HitN.bind h1 fun db Γ2 w F2 H2 O2 k2 r2 s2 h2 => ?_
  obtain ⟨d, e, q⟩ := HitN.fin h2 k2
  exact hf da db d e v w F2 H2 Q k2.sub (Df.mono s2.f _ _ r1) r2 q
theorem op_hitD {fo : Value → Value → Sem Value} {f : OpF} (ho : OpD X fo f) (ha : VD X W a ma) (hb : VD X W b mb) : ∃ (r : R2) (ta tb : TE), OpR X fo r ∧ PE X a ta ∧ PE X b tb ∧ ∀ Γ σ F H O Q, Ok X.K F H Γ σ O → HitN X.K W (rD X.K) (mOp f ma mb Γ) σ F H O Q → tOp r ta tb σ H Q := by
  obtain ⟨r, hr, hf⟩ := ho
  obtain ⟨ta, pa, sa⟩ := ha
  obtain ⟨tb, pb, sb⟩ := hb
  refine ⟨r, ta, tb, hr, pa, pb, fun Γ σ F H O Q k h => sa Γ σ F H O _ k ?_⟩
  unfold mOp at h
  refine HitN.bind h fun da Γ1 v F1 H1 O1 k1 r1 s1 h1 => sb Γ1 σ F1 H1 O1 _ k1 ?_
  refine HitN.bind h1 fun db Γ2 w F2 H2 O2 k2 r2 s2 h2 => ?_
  obtain ⟨d, e, q⟩ := HitN.fin h2 k2
  exact hf da db d e v w F2 H2 Q k2.sub (Df.mono s2.f _ _ r1) r2 q
theorem vd_op {op : Operator} {f : OpF} (ho : OpD X (binaryOp op) f) (ha : VD X W a ma) (hb : VD X W b mb) : VD X W (.BinOp a op b pos) (mOp f ma mb) := by
  obtain ⟨r, ta, tb, hr, pa, pb, s⟩ := op_hitD ho ha hb
  exact ⟨_, pe_op hr pa pb, s⟩
theorem vd_cmp {op : CmpOp} {f : OpF} (ho : OpD X (compareOp op) f) (ha : VD X W a ma) (hb : VD X W b mb) (hm : behindInMarks op b = false := by first | exact nomark _ | rfl) : VD X W (.Compare a [op] [b] pos) (mOp f ma mb) := by
  obtain ⟨r, ta, tb, hr, pa, pb, s⟩ := op_hitD ho ha hb
  exact ⟨_, pe_cmpR hr pa pb hm, s⟩
/-- in, not in: the right one looked at -/
theorem vd_in {op : CmpOp} {f : OpF} (ho : OpP X (compareOp op) f) (ha : VD X W a ma) (hb : VP X W b mb) (hm : behindInMarks op b = false := by first | exact nomark _ | rfl) : VD X W (.Compare a [op] [b] pos) (mOp f ma mb) := by
  obtain ⟨r, ta, tb, hr, pa, pb, s⟩ := op_hit ho ha hb
  exact ⟨_, pe_cmpR hr pa pb hm, s⟩

/-! ### tests -/
def isB : PyData → Option Bool
  | .bool b => some b
  | _ => none
def mB (m : M PyData) : M Bool := bM m fun d => oM (isB d)
theorem vb_val {m : M PyData} (h : VD X W e m) (he : ∀ whole, isTrue e X.env whole = (do let v ← whole; standAt e.pos; holding [v] (truthy v)) := by intro _; rfl) : VB X W e (mB m) := by
  obtain ⟨t, p, s⟩ := h
  refine ⟨_, pt_val p he, fun Γ σ F H O Q k h => s Γ σ F H O _ k ?_⟩
  unfold mB at h
  refine HitN.bind h fun d Γ1 v F1 H1 O1 k1 r1 s1 h1 => ?_
  cases d with
  | bool c =>
    cases r1
    exact ⟨c, rfl, h1 c F1 H1 O1 k1 rfl Step.refl⟩
  | _ => exact h1.elim
theorem vb_cmp {op : CmpOp} {f : OpF} (ho : OpD X (compareOp op) f) (ha : VD X W a ma) (hb : VD X W b mb) (hm : behindInMarks op b = false := by first | exact nomark _ | rfl) : VB X W (.Compare a [op] [b] pos) (mB (mOp f ma mb)) := by
  obtain ⟨r, ta, tb, hr, pa, pb, s⟩ := op_hitD ho ha hb
  refine ⟨_, pt_cmpR hr pa pb hm, fun Γ σ F H O Q k h => s Γ σ F H O _ k ?_⟩
  unfold mB at h
  refine HitN.bind h fun d Γ1 v F1 H1 O1 k1 r1 s1 h1 => ?_
  cases d with
  | bool c =>
    cases r1
    exact ⟨c, rfl, h1 c F1 H1 O1 k1 rfl Step.refl⟩
  | _ => exact h1.elim
theorem vb_in {op : CmpOp} {f : OpF} (ho : OpP X (compareOp op) f) (ha : VD X W a ma) (hb : VP X W b mb) (hm : behindInMarks op b = false := by first | exact nomark _ | rfl) : VB X W (.Compare a [op] [b] pos) (mB (mOp f ma mb)) := by
  obtain ⟨r, ta, tb, hr, pa, pb, s⟩ := op_hit ho ha hb
  refine ⟨_, pt_cmpR hr pa pb hm, fun Γ σ F H O Q k h => s Γ σ F H O _ k ?_⟩
  unfold mB at h
  refine HitN.bind h fun d Γ1 v F1 H1 O1 k1 r1 s1 h1 => ?_
  cases d with
  | bool c =>
    cases r1
    exact ⟨c, rfl, h1 c F1 H1 O1 k1 rfl Step.refl⟩
  | _ => exact h1.elim
variable {rest : List Expr} {ca cb : M Bool}
def mAnd (ca cb : M Bool) : M Bool := bM ca fun c => if c = true then cb else pM false
def mOr (ca cb : M Bool) : M Bool := bM ca fun c => if c = true then pM true else cb
def mNot (ca : M Bool) : M Bool := bM ca fun c => pM (!c)
theorem VW.vb (h : VW X W e ca) : VB X W e ca := by
  obtain ⟨t, p, s⟩ := h
  exact ⟨t, p.pt, s⟩
theorem vw_and1 (ha : VB X W a ca) : VW X W (.BoolOp .And [a] pos) ca := by
  obtain ⟨t, p, s⟩ := ha
  exact ⟨t, pw_and1 p, s⟩
theorem vw_or1 (ha : VB X W a ca) : VW X W (.BoolOp .Or [a] pos) ca := by
  obtain ⟨t, p, s⟩ := ha
  exact ⟨t, pw_or1 p, s⟩
theorem vw_and (ha : VB X W a ca) (hb : VW X W (.BoolOp .And (b :: rest) pos) cb) : VW X W (.BoolOp .And (a :: b :: rest) pos) (mAnd ca cb) := by
  obtain ⟨ta, pa, sa⟩ := ha
  obtain ⟨tb, pb, sb⟩ := hb
  refine ⟨_, pw_and pa pb, fun Γ σ F H O Q k h => sa Γ σ F H O _ k ?_⟩
  unfold mAnd at h
  refine HitN.bind h fun c Γ1 v F1 H1 O1 k1 r1 s1 h1 => ?_
  cases r1
  cases c with
  | true => exact iteT (sb Γ1 σ F1 H1 O1 _ k1 h1)
  | false => exact iteF (h1 false F1 H1 O1 k1 rfl Step.refl)
theorem vw_or (ha : VB X W a ca) (hb : VW X W (.BoolOp .Or (b :: rest) pos) cb) : VW X W (.BoolOp .Or (a :: b :: rest) pos) (mOr ca cb) := by
  obtain ⟨ta, pa, sa⟩ := ha
  obtain ⟨tb, pb, sb⟩ := hb
  refine ⟨_, pw_or pa pb, fun Γ σ F H O Q k h => sa Γ σ F H O _ k ?_⟩
  unfold mOr at h
  refine HitN.bind h fun c Γ1 v F1 H1 O1 k1 r1 s1 h1 => ?_
  cases r1
  cases c with
  | true => exact iteT (h1 true F1 H1 O1 k1 rfl Step.refl)
  | false => exact iteF (sb Γ1 σ F1 H1 O1 _ k1 h1)
theorem vb_not (ha : VB X W a ca) : VB X W (.UnaryOp .Not a pos) (mNot ca) := by
  obtain ⟨ta, pa, sa⟩ := ha
  refine ⟨_, pt_not pa, fun Γ σ F H O Q k h => sa Γ σ F H O _ k ?_⟩
  unfold mNot at h
  refine HitN.bind h fun c Γ1 v F1 H1 O1 k1 r1 s1 h1 => ?_
  cases r1
  exact h1 (!c) F1 H1 O1 k1 rfl Step.refl
/-! .. as values, of truths -/
def mAndV (ma mb : M PyData) : M PyData := bM ma fun d => match d with
  | .bool true => mb
  | .bool false => pM (.bool false)
  | _ => fun _ => none
def mOrV (ma mb : M PyData) : M PyData := bM ma fun d => match d with
  | .bool true => pM (.bool true)
  | .bool false => mb
  | _ => fun _ => none
def mNotV (ma : M PyData) : M PyData := bM ma fun d => match d with
  | .bool c => pM (.bool (!c))
  | _ => fun _ => none
theorem vd_one {op} (h : VD X W a ma) : VD X W (.BoolOp op [a] pos) ma := by
  obtain ⟨t, p, s⟩ := h
  exact ⟨t, pe_one p, s⟩
theorem vd_and (ha : VD X W a ma) (hb : VD X W (.BoolOp .And (b :: rest) pos) mb) : VD X W (.BoolOp .And (a :: b :: rest) pos) (mAndV ma mb) := by
  obtain ⟨ta, pa, sa⟩ := ha
  obtain ⟨tb, pb, sb⟩ := hb
  refine ⟨_, pe_and pa pb, fun Γ σ F H O Q k h => sa Γ σ F H O _ k ?_⟩
  unfold mAndV at h
  refine HitN.bind h fun d Γ1 v F1 H1 O1 k1 r1 s1 h1 => ?_
  cases d with
  | bool c =>
    cases r1
    refine ⟨c, rfl, ?_⟩
    cases c with
    | true => exact iteT (sb Γ1 σ F1 H1 O1 _ k1 h1)
    | false => exact iteF (h1 (.bl false) F1 H1 O1 k1 (.bl false) Step.refl)
  | _ => exact h1.elim
theorem vd_or (ha : VD X W a ma) (hb : VD X W (.BoolOp .Or (b :: rest) pos) mb) : VD X W (.BoolOp .Or (a :: b :: rest) pos) (mOrV ma mb) := by
  obtain ⟨ta, pa, sa⟩ := ha
  obtain ⟨tb, pb, sb⟩ := hb
  refine ⟨_, pe_or pa pb, fun Γ σ F H O Q k h => sa Γ σ F H O _ k ?_⟩
  unfold mOrV at h
  refine HitN.bind h fun d Γ1 v F1 H1 O1 k1 r1 s1 h1 => ?_
  cases d with
  | bool c =>
    cases r1
    refine ⟨c, rfl, ?_⟩
    cases c with
    | true => exact iteT (h1 (.bl true) F1 H1 O1 k1 (.bl true) Step.refl)
    | false => exact iteF (sb Γ1 σ F1 H1 O1 _ k1 h1)
  | _ => exact h1.elim
theorem vd_not (ha : VD X W a ma) : VD X W (.UnaryOp .Not a pos) (mNotV ma) := by
  obtain ⟨ta, pa, sa⟩ := ha
  refine ⟨_, pe_not pa, fun Γ σ F H O Q k h => sa Γ σ F H O _ k ?_⟩
  unfold mNotV at h
  refine HitN.bind h fun d Γ1 v F1 H1 O1 k1 r1 s1 h1 => ?_
  cases d with
  | bool c =>
    cases r1
    exact ⟨c, rfl, h1 (.bl (!c)) F1 H1 O1 k1 (.bl (!c)) Step.refl⟩
  | _ => exact h1.elim
/-- a if c else b -/
def mIf {α : Type} (c : M Bool) (ma mb : M α) : M α := bM c fun c => if c = true then ma else mb
theorem vd_if {c : Expr} {mc : M Bool} (hc : VB X W c mc) (ha : VD X W a ma) (hb : VD X W b mb) : VD X W (.IfExp c a b pos) (mIf mc ma mb) := by
  obtain ⟨tc, pc, sc⟩ := hc
  obtain ⟨ta, pa, sa⟩ := ha
  obtain ⟨tb, pb, sb⟩ := hb
  refine ⟨_, pe_ifExp pc pa pb, fun Γ σ F H O Q k h => sc Γ σ F H O _ k ?_⟩
  unfold mIf at h
  refine HitN.bind h fun c Γ1 v F1 H1 O1 k1 r1 s1 h1 => ?_
  cases r1
  cases c with
  | true => exact iteT (sa Γ1 σ F1 H1 O1 _ k1 h1)
  | false => exact iteF (sb Γ1 σ F1 H1 O1 _ k1 h1)
/-! .. chains -/
def mChain (f g : OpF) (ma mb mc : M PyData) : M PyData := bM ma fun a => bM mb fun b => bM (oM (f a b)) fun d => match d with
  | .bool true => bM mc fun c => oM (g b c)
  | .bool false => pM (.bool false)
  | _ => fun _ => none
end
end TW

namespace TW
open PySem PySem.Spec L2
/-! ### operators -/
def big (i : Int) : Bool := decide (i.natAbs < 2 ^ 4000)
def addF : OpF
  | .int i, .int j => some (.int (i + j))
  | .tuple a, .tuple b => if a.length + b.length ≤ sizeLine then some (.tuple (a ++ b)) else none
  | .list a, .list b => if a.length + b.length ≤ sizeLine then some (.list (a ++ b)) else none
  | .str a, .str b => if a.length + b.length ≤ sizeLine then some (.str (a ++ b)) else none
  | _, _ => none
def subF : OpF
  | .int i, .int j => some (.int (i - j))
  | _, _ => none
def mulF : OpF
  | .int i, .int j => if (big i && big j) = true then some (.int (i * j)) else none
  | _, _ => none
def modF : OpF
  | .int i, .int j => if 0 < j then some (.int (i % j)) else none
  | _, _ => none
def divF : OpF
  | .int i, .int j => if 0 < j ∧ big j = true then some (.int (i / j)) else none
  | _, _ => none
def powF : OpF
  | .int i, .int j => if 0 ≤ j ∧ j ≤ 1000000 ∧ i.natAbs < 2 ^ 64 then some (.int (i ^ j.toNat)) else none
  | _, _ => none
def cmpF (p : Int → Int → Bool) : OpF
  | .int i, .int j => some (.bool (p i j))
  | _, _ => none
abbrev leF : OpF := cmpF fun i j => decide (i ≤ j)
abbrev gtF : OpF := cmpF fun i j => decide (j < i)
abbrev geF : OpF := cmpF fun i j => decide (j ≤ i)
def eqF : OpF := fun a b => if (SeqAt.shaped a && SeqAt.shaped b) = true then some (.bool (PyData.eqv a b)) else none
def neF : OpF := fun a b => if (SeqAt.shaped a && SeqAt.shaped b) = true then some (.bool (!PyData.eqv a b)) else none
def isNo : PyData → Bool
  | .none => true
  | _ => false
def isNF : OpF
  | a, .none => some (.bool (isNo a))
  | _, _ => none
def notNF : OpF
  | a, .none => some (.bool (!isNo a))
  | _, _ => none
def inF : OpF
  | d, .list ds => if (SeqAt.shaped d && SeqAt.shaped (.list ds)) = true then some (.bool (ds.any fun z => PyData.eqv z d)) else none
  | d, .tuple ds => if (SeqAt.shaped d && SeqAt.shaped (.tuple ds)) = true then some (.bool (ds.any fun z => PyData.eqv z d)) else none
  | _, _ => none
def notF : OpF
  | d, .list ds => if (SeqAt.shaped d && SeqAt.shaped (.list ds)) = true then some (.bool (!ds.any fun z => PyData.eqv z d)) else none
  | d, .tuple ds => if (SeqAt.shaped d && SeqAt.shaped (.tuple ds)) = true then some (.bool (!ds.any fun z => PyData.eqv z d)) else none
  | _, _ => none
section
variable {X : Cx}
theorem opI {fo : Value → Value → Sem Value} {f : OpF} {C : Int → Int → Prop} {g : Int → Int → V} (ho : OpR X fo (rI C g)) (gd : Int → Int → PyData) (hf : ∀ a b d, f a b = some d → ∃ i j, a = .int i ∧ b = .int j ∧ C i j ∧ d = gd i j)
    (hg : ∀ F i j, Df X.K F (g i j) (gd i j)) : OpD X fo f := by
  refine ⟨_, ho, fun a b d e x y F H Q s ra rb q => ?_⟩
  obtain ⟨i, j, rfl, rfl, c, rfl⟩ := hf a b d e
  cases ra
  cases rb
  exact ⟨i, j, rfl, rfl, c, q _ F H (Grow.refl s) (hg F i j)⟩
theorem opI0 {fo : Value → Value → Sem Value} {f : OpF} {g : Int → Int → V} (ho : OpR X fo (rI0 g)) (gd : Int → Int → PyData) (hf : ∀ a b d, f a b = some d → ∃ i j, a = .int i ∧ b = .int j ∧ d = gd i j)
    (hg : ∀ F i j, Df X.K F (g i j) (gd i j)) : OpD X fo f := by
  refine ⟨_, ho, fun a b d e x y F H Q s ra rb q => ?_⟩
  obtain ⟨i, j, rfl, rfl, rfl⟩ := hf a b d e
  cases ra
  cases rb
  exact ⟨i, j, rfl, rfl, q _ F H (Grow.refl s) (hg F i j)⟩
theorem od_sub : OpD X (binaryOp .Sub) subF := opI0 op_sub (fun i j => .int (i - j)) (fun a b d e => by
  unfold subF at e; split at e <;> cases e; exact ⟨_, _, rfl, rfl, rfl⟩) fun _ _ _ => .int _
theorem od_mul : OpD X (binaryOp .Mult) mulF := opI op_mulW (fun i j => .int (i * j)) (fun a b d e => by
  unfold mulF at e
  split at e
  · split at e
    · rename_i i j h
      cases e
      obtain ⟨h1, h2⟩ := Bool.and_eq_true_iff.mp h
      exact ⟨_, _, rfl, rfl, wide_mul (of_decide_eq_true h1) (of_decide_eq_true h2) (by decide) (by decide) (by decide), rfl⟩
    · cases e
  · cases e) fun _ _ _ => .int _
theorem od_mod : OpD X (binaryOp .Mod) modF := opI op_mod (fun i j => .int (i % j)) (fun a b d e => by
  unfold modF at e
  split at e
  · split at e
    · rename_i i j h
      cases e
      exact ⟨_, _, rfl, rfl, h, rfl⟩
    · cases e
  · cases e) fun _ _ _ => .int _
theorem od_div : OpD X (binaryOp .FloorDiv) divF := opI op_fdivW (fun i j => .int (i / j)) (fun a b d e => by
  unfold divF at e
  split at e
  · split at e
    · rename_i i j h
      cases e
      exact ⟨_, _, rfl, rfl, wide_div h.1 (of_decide_eq_true h.2) (by decide) (by decide), rfl⟩
    · cases e
  · cases e) fun _ _ _ => .int _
theorem od_pow : OpD X (binaryOp .Pow) powF := opI op_pow (fun i j => .int (i ^ j.toNat)) (fun a b d e => by
  unfold powF at e
  split at e
  · split at e
    · rename_i i j h
      cases e
      exact ⟨_, _, rfl, rfl, h, rfl⟩
    · cases e
  · cases e) fun _ _ _ => .int _
theorem od_cmp {op : CmpOp} {p : Int → Int → Bool} (ho : OpR X (compareOp op) (rI0 fun i j => .bl (p i j))) : OpD X (compareOp op) (cmpF p) := opI0 ho (fun i j => .bool (p i j)) (fun a b d e => by
  unfold cmpF at e; split at e <;> cases e; exact ⟨_, _, rfl, rfl, rfl⟩) fun _ _ _ => .bl _
theorem od_le : OpD X (compareOp .LtE) leF := od_cmp op_le
theorem od_gt : OpD X (compareOp .Gt) gtF := od_cmp op_gt
theorem od_ge : OpD X (compareOp .GtE) geF := od_cmp op_ge
theorem od_eq (hu : X.A.units + 65 < cLine) : OpD X (compareOp .Eq) eqF := by
  refine ⟨_, op_eqD (by omega), fun a b d e x y F H Q s ra rb q => ?_⟩
  unfold eqF at e
  split at e
  · rename_i h
    cases e
    obtain ⟨h1, h2⟩ := Bool.and_eq_true_iff.mp h
    exact ⟨a, b, Df.dp s _ _ ra (noDic_shaped h1), Df.dp s _ _ rb (noDic_shaped h2), h1, h2, q _ F H (Grow.refl s) (.bl _)⟩
  · cases e
theorem od_ne (hu : X.A.units + 65 < cLine) : OpD X (compareOp .NotEq) neF := by
  refine ⟨_, op_neD (by omega), fun a b d e x y F H Q s ra rb q => ?_⟩
  unfold neF at e
  split at e
  · rename_i h
    cases e
    obtain ⟨h1, h2⟩ := Bool.and_eq_true_iff.mp h
    exact ⟨a, b, Df.dp s _ _ ra (noDic_shaped h1), Df.dp s _ _ rb (noDic_shaped h2), h1, h2, q _ F H (Grow.refl s) (.bl _)⟩
  · cases e
/-- in, over readings -/
def rInA (K : PySem.W.Frag) (neg : Bool) : R2 := fun x y H Q => ∃ d ds, L2.Dp K H x d ∧ (L2.Dp K H y (.list ds) ∨ L2.Dp K H y (.tuple ds)) ∧ SeqAt.shaped d = true ∧ SeqAt.shaped (.list ds) = true ∧ Q (.bl (if neg = true then !ds.any fun z => PyData.eqv z d else ds.any fun z => PyData.eqv z d)) H
theorem op_inA (hu : X.A.units + 65 < cLine) : OpR X (compareOp .In) (rInA X.K false) := by
  intro pins s σ H x y v u Q I rx ry h
  obtain ⟨d, ds, hd, he, sd, se, q⟩ := h
  obtain ⟨as, r1⟩ := Dp.reads I d x v hd rx
  rcases he with he | he
  · obtain ⟨bs, r2⟩ := Dp.reads I (.list ds) y u he ry
    exact SeqAt.in_list_reads r2 r1 (SeqAt.canLay_of_shaped se) (SeqAt.canLay_of_shaped sd) (PyProof.Rows.room_in_shaped sd hu) ⟨.bl _, H, I, rfl, q⟩
  · obtain ⟨bs, r2⟩ := Dp.reads I (.tuple ds) y u he ry
    exact SeqAt.in_tuple_reads r2 r1 (SeqAt.canLay_of_shaped se) (SeqAt.canLay_of_shaped sd) (PyProof.Rows.room_in_shaped sd hu) ⟨.bl _, H, I, rfl, q⟩
theorem op_notInA (hu : X.A.units + 65 < cLine) : OpR X (compareOp .NotIn) (rInA X.K true) := by
  intro pins s σ H x y v u Q I rx ry h
  obtain ⟨d, ds, hd, he, sd, se, q⟩ := h
  obtain ⟨as, r1⟩ := Dp.reads I d x v hd rx
  rcases he with he | he
  · obtain ⟨bs, r2⟩ := Dp.reads I (.list ds) y u he ry
    exact SeqAt.notIn_list_reads r2 r1 (SeqAt.canLay_of_shaped se) (SeqAt.canLay_of_shaped sd) (PyProof.Rows.room_in_shaped sd hu) ⟨.bl _, H, I, rfl, q⟩
  · obtain ⟨bs, r2⟩ := Dp.reads I (.tuple ds) y u he ry
    exact SeqAt.notIn_tuple_reads r2 r1 (SeqAt.canLay_of_shaped se) (SeqAt.canLay_of_shaped sd) (PyProof.Rows.room_in_shaped sd hu) ⟨.bl _, H, I, rfl, q⟩
theorem rP.dp {K : PySem.W.Frag} {F H : Hp} {d : PyData} {v : V} (s : Same F H) (h : rP K F H d v) (c : noDic d = true) : L2.Dp K H v d := by
  rcases h with h | ⟨a, vs, ds, rfl, rfl, ha, hd⟩
  · exact Df.dp s _ _ h c
  · exact .lst (.inl (.inl ha)) (DfAll.dp s _ _ hd (by rwa [noDic] at c))
theorem op_in (hu : X.A.units + 65 < cLine) : OpP X (compareOp .In) inF := by
  refine ⟨_, op_inA hu, fun a b d e x y F H Q s ra rb q => ?_⟩
  unfold inF at e
  split at e
  · split at e
    · rename_i h
      cases e
      obtain ⟨h1, h2⟩ := Bool.and_eq_true_iff.mp h
      exact ⟨_, _, Df.dp s _ _ ra (noDic_shaped h1), .inl (rP.dp s rb (noDic_shaped h2)), h1, h2, q _ F H (Grow.refl s) (.bl _)⟩
    · cases e
  · split at e
    · rename_i h
      cases e
      obtain ⟨h1, h2⟩ := Bool.and_eq_true_iff.mp h
      exact ⟨_, _, Df.dp s _ _ ra (noDic_shaped h1), .inr (rP.dp s rb (noDic_shaped h2)), h1, h2, q _ F H (Grow.refl s) (.bl _)⟩
    · cases e
  · cases e
theorem op_notin (hu : X.A.units + 65 < cLine) : OpP X (compareOp .NotIn) notF := by
  refine ⟨_, op_notInA hu, fun a b d e x y F H Q s ra rb q => ?_⟩
  unfold notF at e
  split at e
  · split at e
    · rename_i h
      cases e
      obtain ⟨h1, h2⟩ := Bool.and_eq_true_iff.mp h
      exact ⟨_, _, Df.dp s _ _ ra (noDic_shaped h1), .inl (rP.dp s rb (noDic_shaped h2)), h1, h2, q _ F H (Grow.refl s) (.bl _)⟩
    · cases e
  · split at e
    · rename_i h
      cases e
      obtain ⟨h1, h2⟩ := Bool.and_eq_true_iff.mp h
      exact ⟨_, _, Df.dp s _ _ ra (noDic_shaped h1), .inr (rP.dp s rb (noDic_shaped h2)), h1, h2, q _ F H (Grow.refl s) (.bl _)⟩
    · cases e
  · cases e
theorem od_isN : OpD X (compareOp .Is) isNF := by
  refine ⟨_, op_isN, fun a b d e x y F H Q s ra rb q => ?_⟩
  cases b with
  | none => ?_
  | _ => cases e
  cases rb
  refine ⟨rfl, ?_⟩
  cases ra with
  | non =>
    cases (show some (PyData.bool true) = some d from e)
    exact q _ F H (Grow.refl s) (.bl _)
  | _ =>
    cases (show some (PyData.bool false) = some d from e)
    exact q _ F H (Grow.refl s) (.bl _)
theorem od_notN : OpD X (compareOp .IsNot) notNF := by
  refine ⟨_, op_notN, fun a b d e x y F H Q s ra rb q => ?_⟩
  cases b with
  | none => ?_
  | _ => cases e
  cases rb
  refine ⟨rfl, ?_⟩
  cases ra with
  | non =>
    cases (show some (PyData.bool false) = some d from e)
    exact q _ F H (Grow.refl s) (.bl _)
  | _ =>
    cases (show some (PyData.bool true) = some d from e)
    exact q _ F H (Grow.refl s) (.bl _)
theorem grow_tup {K : PySem.W.Frag} {F H : Hp} {p : Addr} {vs : List V} {ds : List PyData} (s : Same F H) (hp : H p = none) (h : DfAll K F vs ds) : Grow F H (upd F p (.tup vs)) (upd H p (.tup vs)) ∧ Df K (upd F p (.tup vs)) (.ref p) (.tuple ds) :=
  ⟨Grow.new s hp, .tup upd_same (DfAll.mono (same_upd (none_of_same s hp)) _ _ h)⟩
theorem grow_lst {K : PySem.W.Frag} {F H : Hp} {p : Addr} {vs : List V} {ds : List PyData} (s : Same F H) (hp : H p = none) (h : DfAll K F vs ds) : Grow F H (upd F p (.lst vs)) (upd H p (.lst vs)) ∧ Df K (upd F p (.lst vs)) (.ref p) (.list ds) :=
  ⟨Grow.new s hp, .lst upd_same (DfAll.mono (same_upd (none_of_same s hp)) _ _ h)⟩
theorem od_add : OpD X (binaryOp .Add) addF := by
  refine ⟨_, op_add.or (op_catA.or (op_add_str.or op_cat)), fun a b d e x y F H Q s ra rb q => ?_⟩
  unfold addF at e
  split at e
  · cases e
    cases ra
    cases rb
    exact .inl ⟨_, _, rfl, rfl, q _ F H (Grow.refl s) (.int _)⟩
  · split at e
    · rename_i ds es h
      cases e
      cases ra with
      | tup h1 h2 =>
        rename_i a' xs
        cases rb with
        | tup h3 h4 =>
          rename_i b' ys
          have l1 := DfAll.length h2
          have l2 := DfAll.length h4
          refine .inr (.inl ⟨_, _, _, _, rfl, rfl, tupT s h1, tupT s h3, by omega, fun e => ?_, fun _ e => ?_, fun _ _ p hp => ?_⟩)
          · subst e
            cases h2
            exact q _ F H (Grow.refl s) (.tup h3 h4)
          · subst e
            cases h4
            rw [List.append_nil] at q
            exact q _ F H (Grow.refl s) (.tup h1 h2)
          · obtain ⟨g, r⟩ := grow_tup s hp (DfAll.append h2 h4)
            exact q _ _ _ g r
    · cases e
  · split at e
    · rename_i ds es h
      cases e
      cases ra with
      | lst h1 h2 =>
        cases rb with
        | lst h3 h4 =>
          have l1 := DfAll.length h2
          have l2 := DfAll.length h4
          refine .inr (.inr (.inr ⟨_, _, _, _, rfl, rfl, s _ _ h1, s _ _ h3, by omega, fun p hp => ?_⟩))
          obtain ⟨g, r⟩ := grow_lst s hp (DfAll.append h2 h4)
          exact q _ _ _ g r
    · cases e
  · split at e
    · rename_i h
      cases e
      cases ra
      cases rb
      exact .inr (.inr (.inl ⟨_, _, rfl, rfl, h, q _ F H (Grow.refl s) (.str _)⟩))
    · cases e
  · cases e
end

/-! ### chains -/
section
variable {X : Cx} {W : WX} {pos : Pos} {a b c : Expr} {ma mb mc : M PyData}
theorem chain_hit {fo go : Value → Value → Sem Value} {f g : OpF} (hf : OpD X fo f) (hg : OpD X go g) (ha : VD X W a ma) (hb : VD X W b mb) (hc : VD X W c mc) :
    ∃ (r r' : R2) (ta tb tc : TE), OpR X fo r ∧ OpR X go r' ∧ PE X a ta ∧ PE X b tb ∧ PE X c tc ∧ ∀ Γ σ F H O Q, Ok X.K F H Γ σ O → HitN X.K W (rD X.K) (mChain f g ma mb mc Γ) σ F H O Q → tChain r r' ta tb tc σ H Q := by
  obtain ⟨r, hr, f1⟩ := hf
  obtain ⟨r', hr', g1⟩ := hg
  obtain ⟨ta, pa, sa⟩ := ha
  obtain ⟨tb, pb, sb⟩ := hb
  obtain ⟨tc, pc, sc⟩ := hc
  refine ⟨r, r', ta, tb, tc, hr, hr', pa, pb, pc, fun Γ σ F H O Q k h => sa Γ σ F H O _ k ?_⟩
  unfold mChain at h
  refine HitN.bind h fun da Γ1 v F1 H1 O1 k1 r1 s1 h1 => sb Γ1 σ F1 H1 O1 _ k1 ?_
  refine HitN.bind h1 fun db Γ2 w F2 H2 O2 k2 r2 s2 h2 => ?_
  cases e : f da db with
  | none =>
    have h3 : HitN X.K W (rD X.K) none σ F2 H2 O2 Q := by
      unfold bM oM at h2
      rw [e] at h2
      exact h2
    exact h3.elim
  | some d =>
    refine f1 da db d e v w F2 H2 _ k2.sub (Df.mono s2.f _ _ r1) r2 fun z F3 H3 g3 r3 => ?_
    unfold bM oM at h2
    rw [e] at h2
    have h3 := HitN.trans h2 (g3.step (O := O2))
    have k3 := k2.grow g3
    cases d with
    | bool t =>
      cases r3
      refine ⟨t, rfl, ?_⟩
      cases t with
      | false => exact iteF (h3 (.bl false) F3 H3 O2 k3 (.bl false) Step.refl)
      | true =>
        refine iteT (sc Γ2 σ F3 H3 O2 _ k3 ?_)
        refine HitN.bind h3 fun dc Γ4 z' F4 H4 O4 k4 r4 s4 h4 => ?_
        obtain ⟨d', e', q⟩ := HitN.fin h4 k4
        exact g1 db dc d' e' w z' F4 H4 Q k4.sub (Df.mono (g3.f.trans s4.f) _ _ r2) r4 q
    | _ => exact h3.elim
theorem vd_chain {op op' : CmpOp} {f g : OpF} (hf : OpD X (compareOp op) f) (hg : OpD X (compareOp op') g) (ha : VD X W a ma) (hb : VD X W b mb) (hc : VD X W c mc) (hm : lastMarks [op, op'] [b, c] = false := by with_unfolding_all rfl) :
    VD X W (.Compare a [op, op'] [b, c] pos) (mChain f g ma mb mc) := by
  obtain ⟨r, r', ta, tb, tc, h1, h2, pa, pb, pc, s⟩ := chain_hit hf hg ha hb hc
  exact ⟨_, pe_chain h1 h2 pa pb pc hm, s⟩
theorem vb_chain {op op' : CmpOp} {f g : OpF} (hf : OpD X (compareOp op) f) (hg : OpD X (compareOp op') g) (ha : VD X W a ma) (hb : VD X W b mb) (hc : VD X W c mc) (hm : lastMarks [op, op'] [b, c] = false := by with_unfolding_all rfl) :
    VB X W (.Compare a [op, op'] [b, c] pos) (mB (mChain f g ma mb mc)) := by
  obtain ⟨r, r', ta, tb, tc, h1, h2, pa, pb, pc, s⟩ := chain_hit hf hg ha hb hc
  refine ⟨_, pt_chain h1 h2 pa pb pc hm, fun Γ σ F H O Q k h => s Γ σ F H O _ k ?_⟩
  unfold mB at h
  refine HitN.bind h fun d Γ1 v F1 H1 O1 k1 r1 s1 h1 => ?_
  cases d with
  | bool c =>
    cases r1
    exact ⟨c, rfl, h1 c F1 H1 O1 k1 rfl Step.refl⟩
  | _ => exact h1.elim

/-! ### argument lists, displays -/
variable {es : List Expr} {me : M PyData} {ms : M (List PyData)} {e : Expr}
def mNil : M (List PyData) := pM []
def mCons (me : M PyData) (ms : M (List PyData)) : M (List PyData) := bM me fun d => bM ms fun ds => pM (d :: ds)
theorem vs_nil : VDs X W [] mNil := ⟨_, pa_nil, fun Γ σ F H O Q k h => h [] F H O k .nil Step.refl⟩
theorem vs_cons (he : VD X W e me) (hs : VDs X W es ms) (hst : starEach (e :: es) X.env = (false, eval e X.env) :: starEach es X.env := by rfl) : VDs X W (e :: es) (mCons me ms) := by
  obtain ⟨te, pe, se⟩ := he
  obtain ⟨ts, ps, ss⟩ := hs
  refine ⟨_, pa_cons pe ps hst, fun Γ σ F H O Q k h => se Γ σ F H O _ k ?_⟩
  unfold mCons at h
  refine HitN.bind h fun d Γ1 v F1 H1 O1 k1 r1 s1 h1 => ss Γ1 σ F1 H1 O1 _ k1 ?_
  refine HitN.bind h1 fun ds Γ2 vs F2 H2 O2 k2 r2 s2 h2 => ?_
  exact h2 (v :: vs) F2 H2 O2 k2 (.cons (Df.mono s2.f _ _ r1) r2) Step.refl
def mTup (ms : M (List PyData)) : M PyData := bM ms fun ds => oM (if ds.length ≤ sizeLine then some (.tuple ds) else none)
theorem vd_tup {x1} (hs : VDs X W es ms) : VD X W (.Tuple es x1 pos) (mTup ms) := by
  obtain ⟨ts, ps, ss⟩ := hs
  refine ⟨_, pe_tup ps, fun Γ σ F H O Q k h => ss Γ σ F H O _ k ?_⟩
  unfold mTup at h
  refine HitN.bind h fun ds Γ1 vs F1 H1 O1 k1 r1 s1 h1 => ?_
  obtain ⟨d, e, q⟩ := HitN.fin h1 k1
  split at e
  · rename_i hl
    cases e
    refine ⟨by rw [DfAll.length r1]; exact hl, fun p hp => ?_⟩
    obtain ⟨g, r⟩ := grow_tup k1.sub hp r1
    exact q _ _ _ g r
  · cases e
def mLst (ms : M (List PyData)) : M T := bM ms fun ds => oM (if ds.length ≤ sizeLine then some (.lst (ds.map .frz)) else none)
/-- a new list, owned -/
theorem HitT.newL {K : PySem.W.Frag} {Γ : G} {σ : St} {F H : Hp} {O : List Addr} {Q : VK} {p : Addr} {vs : List V} {ts : List T} {o : List Addr} (h : HitT K W (rT K) (some (.ok (T.lst ts) Γ)) σ F H (o ++ O) Q) (k : Ok K F H Γ σ O) (hp : H p = none) (r : RepTs K F H ts vs o)
    (n : (o ++ O).Nodup) (x : ∀ a ∈ o, F a = none) : Q (.ref p) (upd H p (.lst vs)) := by
  have lo := RepTs.live _ _ _ r
  have lO := RepG.live k.rep
  have po : ∀ a ∈ o, a ≠ p := fun a m e => lo a m (by rw [e]; exact hp)
  have pO : ∀ a ∈ O, a ≠ p := fun a m e => lO a m (by rw [e]; exact hp)
  have np : p ∉ o ++ O := fun m => (List.mem_append.mp m).elim (fun z => po p z rfl) fun z => pO p z rfl
  refine h (.ref p) F (upd H p (.lst vs)) O (p :: o) ⟨fun b x e => ?_, RepG.mono (Same.refl _) k.rep fun a m => upd_ne (pO a m), k.nd, k.out⟩ ?_ ?_ (fun a m => ?_) ⟨Same.refl _, fun a ha _ => ⟨?_, id⟩, fun a m => ?_⟩
  · rw [upd_ne (ne_of_none (k.sub b x e) hp)]
    exact k.sub b x e
  · unfold rT RepT
    exact ⟨p, vs, o, rfl, upd_same, RepTs.mono (Same.refl _) ts vs o r fun a m => upd_ne (po a m), rfl⟩
  · exact List.nodup_cons.mpr ⟨np, n⟩
  · rcases List.mem_cons.mp m with rfl | m
    · exact none_of_same k.sub hp
    · exact x a m
  · exact upd_ne fun e => ha (by rw [e]; exact hp)
  · rcases List.mem_cons.mp m with rfl | m
    · exact .inr hp
    · exact .inl m
theorem vt_lst (hs : VDs X W es ms) : VT X W (.List es pos) (mLst ms) := by
  obtain ⟨ts, ps, ss⟩ := hs
  refine ⟨_, pe_lst ps, fun Γ σ F H O Q k h => ss Γ σ F H O _ k ?_⟩
  unfold mLst at h
  refine HitT.bindN h fun ds Γ1 vs F1 H1 O1 k1 r1 s1 h1 => ?_
  unfold oM at h1
  split at h1
  · rename_i hl
    refine ⟨by rw [DfAll.length r1]; exact hl, fun p hp => ?_⟩
    exact HitT.newL (o := []) h1 k1 hp (of_ice r1) k1.nd (fun _ m => nomatch m)
  · exact h1.elim

/-! ### subscripts -/
def ixF : OpF
  | .list ds, .int i => atI ds i
  | .tuple ds, .int i => atI ds i
  | .str z, .int i => if z.length ≤ sizeLine then (atI z.cps.toList i).map fun c => .str ⟨#[c]⟩ else none
  | _, _ => none
theorem at_df {K : PySem.W.Frag} {F : Hp} {vs : List V} {ds : List PyData} {i : Int} {d : PyData} (h : DfAll K F vs ds) (e : atI ds i = some d) : ∃ v, atI vs i = some v ∧ Df K F v d := by
  unfold atI at e ⊢
  rw [DfAll.length h]
  cases q : ixN ds.length i with
  | none => rw [q] at e; cases e
  | some j =>
    rw [q] at e
    exact DfAll.get h e
theorem vd_ix (ha : VD X W a ma) (hb : VD X W b mb) (hs : PlainIx b := by exact fun _ _ => rfl) : VD X W (.Subscript a b pos) (mOp ixF ma mb) := by
  obtain ⟨ta, pa, sa⟩ := ha
  obtain ⟨tb, pb, sb⟩ := hb
  refine ⟨_, pe_ix ix_seq pa pb hs, fun Γ σ F H O Q k h => sa Γ σ F H O _ k ?_⟩
  unfold mOp at h
  refine HitN.bind h fun da Γ1 v F1 H1 O1 k1 r1 s1 h1 => sb Γ1 σ F1 H1 O1 _ k1 ?_
  refine HitN.bind h1 fun db Γ2 w F2 H2 O2 k2 r2 s2 h2 => ?_
  obtain ⟨d, e, q⟩ := HitN.fin h2 k2
  have r1 := Df.mono s2.f _ _ r1
  unfold ixF at e
  split at e
  · cases r1 with
    | lst h3 h4 =>
      cases r2
      obtain ⟨z, e1, r⟩ := at_df h4 e
      exact .inl ⟨_, _, _, z, rfl, rfl, .inl (.inl (k2.sub _ _ h3)), e1, q _ F2 H2 (Grow.refl k2.sub) r⟩
  · cases r1 with
    | tup h3 h4 =>
      cases r2
      obtain ⟨z, e1, r⟩ := at_df h4 e
      exact .inr (.inl ⟨_, _, _, z, rfl, rfl, tupT k2.sub h3, e1, q _ F2 H2 (Grow.refl k2.sub) r⟩)
  · split at e
    · rename_i hl
      cases r1
      cases r2
      rename_i z' i'
      cases q1 : atI z'.cps.toList i' with
      | none => rw [q1] at e; cases e
      | some c =>
        rw [q1] at e
        cases e
        exact .inr (.inr ⟨_, _, c, rfl, rfl, hl, q1, q _ F2 H2 (Grow.refl k2.sub) (.str _)⟩)
    · cases e
  · cases e
/-- x[i] of a name: what it owns may stay owned -/
def ixS (i : Nat) : PyData → M PyData := fun d Γ => match Γ[i]? with
  | some (some (.frz a)) => oM (ixF a d) Γ
  | some (some (.scr ns)) => (match d with
    | .int k => oM ((atI ns k).map .int) Γ
    | _ => none)
  | some (some (.lst ts)) => (match d with
    | .int k => (match atI ts k with
      | some (.frz d) => some (.ok d Γ)
      | some _ => (match fzs ts with
        | some ds => oM (atI ds k) (Γ.set i (some (.frz (.list ds))))
        | none => none)
      | none => none)
    | _ => none)
  | _ => none
def mIxV (i : Nat) (mb : M PyData) : M PyData := fun Γ => match Γ[i]? with
  | some (some _) => bM mb (ixS i) Γ
  | _ => none
theorem RepTs.get {K : PySem.W.Frag} {F H : Hp} : ∀ {ts : List T} {vs : List V} {o : List Addr} {j : Nat} {t : T}, RepTs K F H ts vs o → ts[j]? = some t → ∃ v o1, vs[j]? = some v ∧ RepT K F H t v o1 ∧ ∀ a ∈ o1, a ∈ o
  | [], _, _, _, _, _, e => by simp at e
  | t' :: ts, _, _, 0, t, h, e => by
    unfold RepTs at h
    obtain ⟨v, r, o1, o2, rfl, h1, h2, rfl⟩ := h
    have e' : t' = t := by simpa using e
    subst e'
    exact ⟨v, o1, rfl, h1, fun a m => List.mem_append_left _ m⟩
  | t' :: ts, _, _, j + 1, t, h, e => by
    unfold RepTs at h
    obtain ⟨v, r, o1, o2, rfl, h1, h2, rfl⟩ := h
    obtain ⟨v', o3, g1, g2, g3⟩ := RepTs.get (j := j) (t := t) h2 (by simpa using e)
    exact ⟨v', o3, by simpa using g1, g2, fun a m => List.mem_append_right _ (g3 a m)⟩
theorem RepTs.length {K : PySem.W.Frag} {F H : Hp} : ∀ {ts : List T} {vs : List V} {o : List Addr}, RepTs K F H ts vs o → vs.length = ts.length
  | [], _, _, h => by unfold RepTs at h; rw [h.1] <;> rfl
  | t' :: ts, _, _, h => by
    unfold RepTs at h
    obtain ⟨v, r, o1, o2, rfl, h1, h2, rfl⟩ := h
    exact congrArg Nat.succ (RepTs.length h2)
theorem at_rep {K : PySem.W.Frag} {F H : Hp} {vs : List V} {ts : List T} {o : List Addr} {i : Int} {t : T} (h : RepTs K F H ts vs o) (e : atI ts i = some t) : ∃ v o1, atI vs i = some v ∧ RepT K F H t v o1 ∧ ∀ a ∈ o1, a ∈ o := by
  unfold atI at e ⊢
  rw [RepTs.length h]
  cases q : ixN ts.length i with
  | none => rw [q] at e; cases e
  | some j =>
    rw [q] at e
    exact RepTs.get h e
theorem vd_ixV (i : Nat) {x : Str} {p : Pos} (hb : VD X W b mb) (hN : X.N[i]? = some x := by rfl) (hv : Vis X.env.scope x := by first | exact Or.inl rfl | exact Or.inr (Or.inl rfl) | exact Or.inr (Or.inr rfl)) (hs : PlainIx b := by exact fun _ _ => rfl) (hd : (x == ("__debug__" : Str)) = false := by decide)
    (hcd : (x == ("__classdict__" : Str)) = false := by decide) : VD X W (.Subscript (.Name x p) b pos) (mIxV i mb) := by
  obtain ⟨tb, pb, sb⟩ := hb
  refine ⟨_, pe_ix ix_seq (pe_var hN hv hd hcd) pb hs, fun Γ σ F H O Q k h => ?_⟩
  unfold mIxV at h
  split at h
  case h_2 => exact h.elim
  rename_i t0 e0
  obtain ⟨v0, _, _, ev0, _⟩ := k.take e0
  have go : ∀ v : V, σ[i]? = some (some v) → tb σ H fun y H2 => rIx X.K v y H2 Q := fun v ev => by
    refine sb Γ σ F H O _ k ?_
    refine HitN.bind h fun d Γ1 w F1 H1 O1 k1 r1 s1 h1 => ?_
    unfold ixS at h1
    split at h1
    · rename_i a e
      obtain ⟨v', e1, r⟩ := k1.frz e
      rw [ev] at e1
      cases e1
      obtain ⟨d', e2, q⟩ := HitN.fin h1 k1
      unfold ixF at e2
      split at e2
      · cases r with
        | lst h3 h4 =>
          cases r1
          obtain ⟨z, e1, r⟩ := at_df h4 e2
          exact .inl ⟨_, _, _, z, rfl, rfl, .inl (.inl (k1.sub _ _ h3)), e1, q _ F1 H1 (Grow.refl k1.sub) r⟩
      · cases r with
        | tup h3 h4 =>
          cases r1
          obtain ⟨z, e1, r⟩ := at_df h4 e2
          exact .inr (.inl ⟨_, _, _, z, rfl, rfl, tupT k1.sub h3, e1, q _ F1 H1 (Grow.refl k1.sub) r⟩)
      · split at e2
        · rename_i hl
          cases r
          cases r1
          rename_i z' i'
          cases q1 : atI z'.cps.toList i' with
          | none => rw [q1] at e2; cases e2
          | some c =>
            rw [q1] at e2
            cases e2
            exact .inr (.inr ⟨_, _, c, rfl, rfl, hl, q1, q _ F1 H1 (Grow.refl k1.sub) (.str _)⟩)
        · cases e2
      · cases e2
    · rename_i ns e
      obtain ⟨v', o, O', e1, r, k2, n, x', s⟩ := k1.take e
      rw [ev] at e1
      cases e1
      unfold RepT at r
      obtain ⟨⟨a, rfl, hs⟩, _⟩ := r
      split at h1
      · rename_i j
        cases r1
        obtain ⟨d', e2, q⟩ := HitN.fin h1 k1
        cases q1 : atI ns j with
        | none => rw [q1] at e2; cases e2
        | some c =>
          rw [q1] at e2
          cases e2
          refine .inl ⟨_, _, _, .int c, rfl, rfl, k1.sub.seq hs, ?_, q _ F1 H1 (Grow.refl k1.sub) (.int _)⟩
          unfold atI at q1 ⊢
          rw [List.length_map]
          cases q2 : ixN ns.length j with
          | none => rw [q2] at q1; cases q1
          | some m =>
            rw [q2] at q1
            show (ns.map V.int)[m]? = some (V.int c)
            rw [List.getElem?_map, show ns[m]? = some c from q1]
            rfl
      · exact h1.elim
    · rename_i ts e
      obtain ⟨v', o, O', e1, r, k2, n, x', s⟩ := k1.take e
      rw [ev] at e1
      cases e1
      split at h1
      · rename_i j
        cases r1
        have r' := r
        unfold RepT at r'
        obtain ⟨a, vs, o', rfl, ha, hr, rfl⟩ := r'
        split at h1
        · rename_i d' e2
          obtain ⟨z, o1, e3, r3, _⟩ := at_rep hr e2
          unfold RepT at r3
          exact .inl ⟨_, _, _, z, rfl, rfl, .inl (.inl ha), e3, h1 z F1 H1 O1 k1 r3.1 Step.refl⟩
        · split at h1
          · rename_i ds e2
            have ef : fz (.lst ts) = some (.list ds) := by
              unfold fz
              rw [e2]
              rfl
            obtain ⟨F3, k3, r3, s3⟩ := k2.ice r n x' ef
            obtain ⟨O4, k4, s4⟩ := k3.back (t := .frz (.list ds)) ev (repFrz r3) k3.nd (fun _ m => nomatch m)
            rw [List.set_set] at k4
            have h2 := HitN.trans h1 ((s.trans s3).trans s4)
            obtain ⟨d', e3, q⟩ := HitN.fin h2 k4
            cases r3 with
            | lst h5 h6 =>
              have hh : vs = _ := (HO.lst.inj (Option.some.inj (ha.symm.trans (k4.sub _ _ h5))))
              subst hh
              obtain ⟨z, e1, r⟩ := at_df h6 e3
              exact .inl ⟨_, _, _, z, rfl, rfl, .inl (.inl ha), e1, q _ F3 H1 (Grow.refl k4.sub) r⟩
          · exact h1.elim
        · exact h1.elim
      · exact h1.elim
    · exact h1.elim
  exact ⟨v0, ev0, go v0 ev0⟩
end
end TW

namespace TW
open PySem PySem.Spec L2
/-! ### statements -/
inductive Fl where
  | nx (Γ : G)
  | bk (Γ : G)
  | ct (Γ : G)
  | rt (t : T) (Γ : G)
  | ex (c : Str) (Γ : G)
abbrev MS := G → Option Fl
def bS {α : Type} (m : M α) (f : α → MS) : MS := fun Γ => match m Γ with
  | none => none
  | some (.ex c Γ') => some (.ex c Γ')
  | some (.ok a Γ') => f a Γ'
def qS (a b : MS) : MS := fun Γ => match a Γ with
  | some (.nx Γ') => b Γ'
  | r => r
def nS : MS := fun Γ => some (.nx Γ)
def Keeps (io : List Nat) (σ σ' : St) : Prop := σ'.length = σ.length ∧ ∀ j ∈ io, σ'[j]? = σ[j]?
def HitS (K : PySem.W.Frag) (W : WX) (io : List Nat) (r : Option Fl) (D : Ends) (σ : St) (F H : Hp) (O : List Addr) : Prop := match r with
  | none => False
  | some (.nx Γ') => ∀ σ' F' H' O', Ok K F' H' Γ' σ' O' → Step F H O F' H' O' → Keeps io σ σ' → D.nx σ' H'
  | some (.bk Γ') => ∀ σ' F' H' O', Ok K F' H' Γ' σ' O' → Step F H O F' H' O' → Keeps io σ σ' → D.bk σ' H'
  | some (.ct Γ') => ∀ σ' F' H' O', Ok K F' H' Γ' σ' O' → Step F H O F' H' O' → Keeps io σ σ' → D.ct σ' H'
  | some (.rt t Γ') => ∀ v σ' F' H' O' o, Ok K F' H' Γ' σ' O' → RepT K F' H' t v o → (o ++ O').Nodup → (∀ a ∈ o, F' a = none) → Step F H O F' H' (o ++ O') → Keeps io σ σ' → D.rt v H'
  | some (.ex c Γ') => ∀ σ' F' H' O', Ok K F' H' Γ' σ' O' → Step F H O F' H' O' → Keeps io σ σ' → W (.ref (He.ga K c)) none σ' H'
def VS (X : Cx) (W : WX) (io : List Nat) (st : Stmt) (m : MS) : Prop := ∃ t, PS X st t ∧ ∀ Γ σ F H O D, Ok X.K F H Γ σ O → HitS X.K W io (m Γ) D σ F H O → t D σ H
def VSs (X : Cx) (W : WX) (io : List Nat) (st : List Stmt) (m : MS) : Prop := ∃ t, PSs X st t ∧ ∀ Γ σ F H O D, Ok X.K F H Γ σ O → HitS X.K W io (m Γ) D σ F H O → t D σ H
theorem Keeps.refl {io : List Nat} {σ : St} : Keeps io σ σ := ⟨rfl, fun _ _ => rfl⟩
theorem Keeps.trans {io : List Nat} {σ σ1 σ2 : St} (a : Keeps io σ σ1) (b : Keeps io σ1 σ2) : Keeps io σ σ2 := ⟨b.1.trans a.1, fun j m => (b.2 j m).trans (a.2 j m)⟩
section
variable {α β : Type} {K : PySem.W.Frag} {W : WX} {io : List Nat} {σ σ1 : St} {F H F1 H1 : Hp} {O O1 o : List Addr} {D : Ends}
theorem HitS.trans {r : Option Fl} (h : HitS K W io r D σ F H O) (s : Step F H O F1 H1 O1) (k : Keeps io σ σ1) : HitS K W io r D σ1 F1 H1 O1 := by
  match r, h with
  | some (.nx Γ'), h => exact fun σ' F' H' O' q s' k' => h σ' F' H' O' q (s.trans s') (k.trans k')
  | some (.bk Γ'), h => exact fun σ' F' H' O' q s' k' => h σ' F' H' O' q (s.trans s') (k.trans k')
  | some (.ct Γ'), h => exact fun σ' F' H' O' q s' k' => h σ' F' H' O' q (s.trans s') (k.trans k')
  | some (.rt t Γ'), h => exact fun v σ' F' H' O' o q r n x s' k' => h v σ' F' H' O' o q r n x (s.trans s') (k.trans k')
  | some (.ex c Γ'), h => exact fun σ' F' H' O' q s' k' => h σ' F' H' O' q (s.trans s') (k.trans k')
theorem HitS.bindN {R : Hp → Hp → α → β → Prop} {m : M α} {f : α → MS} {Γ : G} {P : β → Hp → Prop} (h : HitS K W io (bS m f Γ) D σ F H O)
    (k : ∀ a Γ1 v F1 H1 O1, Ok K F1 H1 Γ1 σ O1 → R F1 H1 a v → Step F H O F1 H1 O1 → HitS K W io (f a Γ1) D σ F1 H1 O1 → P v H1) : HitN K W R (m Γ) σ F H O P := by
  unfold bS at h
  match q : m Γ, h with
  | some (.ok a Γ1), h => exact fun v F' H' O' g r s => k a Γ1 v F' H' O' g r s (HitS.trans h s Keeps.refl)
  | some (.ex c Γ1), h => exact fun F' H' O' g s => h σ F' H' O' g s Keeps.refl
theorem HitS.bindT {R : Hp → Hp → α → β → List Addr → Prop} {m : M α} {f : α → MS} {Γ : G} {P : β → Hp → Prop} (h : HitS K W io (bS m f Γ) D σ F H O)
    (k : ∀ a Γ1 v F1 H1 O1 o, Ok K F1 H1 Γ1 σ O1 → R F1 H1 a v o → (o ++ O1).Nodup → (∀ a ∈ o, F1 a = none) → Step F H O F1 H1 (o ++ O1) → HitS K W io (f a Γ1) D σ F1 H1 (o ++ O1) → P v H1) : HitT K W R (m Γ) σ F H O P := by
  unfold bS at h
  match q : m Γ, h with
  | some (.ok a Γ1), h => exact fun v F' H' O' o g r n x s => k a Γ1 v F' H' O' o g r n x s (HitS.trans h s Keeps.refl)
  | some (.ex c Γ1), h => exact fun F' H' O' g s => h σ F' H' O' g s Keeps.refl
end
section
variable {X : Cx} {W : WX} {io : List Nat} {pos : Pos} {st : Stmt} {sts : List Stmt} {a b : MS} {e : Expr}
theorem vss_nil : VSs X W io [] nS := ⟨_, pss_nil, fun Γ σ F H O D k h => h σ F H O k Step.refl Keeps.refl⟩
theorem vss_one (h : VS X W io st a) : VSs X W io [st] a := by
  obtain ⟨t, p, s⟩ := h
  exact ⟨t, pss_one p, s⟩
theorem vss_cons (h1 : VS X W io st a) (h2 : VSs X W io sts b) : VSs X W io (st :: sts) (qS a b) := by
  obtain ⟨t, p, s⟩ := h1
  obtain ⟨u, q, z⟩ := h2
  refine ⟨_, pss_cons p q, fun Γ σ F H O D k h => s Γ σ F H O _ k ?_⟩
  unfold qS at h
  match r : a Γ, h with
  | some (.nx Γ'), h => exact fun σ' F' H' O' k' s' g' => z Γ' σ' F' H' O' D k' (HitS.trans h s' g')
  | some (.bk Γ'), h => exact h
  | some (.ct Γ'), h => exact h
  | some (.rt t Γ'), h => exact h
  | some (.ex c Γ'), h => exact h
theorem vs_pass : VS X W io (.Pass pos) nS := ⟨_, ps_pass, fun Γ σ F H O D k h => h σ F H O k Step.refl Keeps.refl⟩
theorem vs_doc {x j pos'} : VS X W io (.Expr (.Constant (.str x) j pos) pos') nS := ⟨_, ps_doc, fun Γ σ F H O D k h => h σ F H O k Step.refl Keeps.refl⟩
theorem vs_break : VS X W io (.Break pos) (fun Γ => some (.bk Γ)) := ⟨_, ps_break, fun Γ σ F H O D k h => h σ F H O k Step.refl Keeps.refl⟩
theorem vs_continue : VS X W io (.Continue pos) (fun Γ => some (.ct Γ)) := ⟨_, ps_continue, fun Γ σ F H O D k h => h σ F H O k Step.refl Keeps.refl⟩
/-- what the walk does not come to -/
theorem vs_never : VS X W io st (fun _ => none) := ⟨_, ps_never, fun Γ σ F H O D k h => h.elim⟩
theorem vss_never : VSs X W io sts (fun _ => none) := ⟨_, pss_never, fun Γ σ F H O D k h => h.elim⟩
def mRet (m : M T) : MS := bS m fun t Γ => some (.rt t Γ)
theorem vs_ret {m : M T} (h : VT X W e m) : VS X W io (.Return (some e) pos) (mRet m) := by
  obtain ⟨t, p, s⟩ := h
  refine ⟨_, ps_ret p, fun Γ σ F H O D k h => s Γ σ F H O _ k ?_⟩
  unfold mRet at h
  exact HitS.bindT h fun t Γ1 v F1 H1 O1 o k1 r n x s1 h1 => h1 v σ F1 H1 O1 o k1 r n x Step.refl Keeps.refl
theorem vs_retN : VS X W io (.Return none pos) (fun Γ => some (.rt (.frz .none) Γ)) := ⟨_, ps_retN, fun Γ σ F H O D k h => h .non σ F H O [] k (repFrz .non) k.nd (fun _ m => nomatch m) Step.refl Keeps.refl⟩
def mWhen (c : M Bool) (a b : MS) : MS := bS c fun c => if c = true then a else b
theorem vs_if {c : Expr} {mc : M Bool} {as bs : List Stmt} (hc : VB X W c mc) (ha : VSs X W io as a) (hb : VSs X W io bs b) : VS X W io (.If c as bs pos) (mWhen mc a b) := by
  obtain ⟨tc, pc, sc⟩ := hc
  obtain ⟨ta, pa, sa⟩ := ha
  obtain ⟨tb, pb, sb⟩ := hb
  refine ⟨_, ps_if pc pa pb, fun Γ σ F H O D k h => sc Γ σ F H O _ k ?_⟩
  unfold mWhen at h
  refine HitS.bindN h fun c Γ1 v F1 H1 O1 k1 r1 s1 h1 => ?_
  cases r1
  cases c with
  | true => exact iteT (sa Γ1 σ F1 H1 O1 D k1 h1)
  | false => exact iteF (sb Γ1 σ F1 H1 O1 D k1 h1)
/-- an expression whose value is dropped -/
def mDrop (m : M T) : MS := bS m fun _ Γ => some (.nx Γ)
theorem vs_expr {m : M T} (h : VT X W e m) (hs : swapsWith e none pos.line X.env = pure false := by rfl) : VS X W io (.Expr e pos) (mDrop m) := by
  obtain ⟨t, p, s⟩ := h
  refine ⟨_, ps_expr p hs, fun Γ σ F H O D k h => s Γ σ F H O _ k ?_⟩
  unfold mDrop at h
  exact HitS.bindT h fun t Γ1 v F1 H1 O1 o k1 r n x s1 h1 => h1 σ F1 H1 O1 k1 (Step.refl.less fun a m => List.mem_append_right _ m) Keeps.refl
/-! ### stores -/
def storeG (i : Nat) (t : T) (Γ : G) : Option G := if i < Γ.length then some (Γ.set i (some t)) else none
def mSet (i : Nat) (m : M T) : MS := bS m fun t Γ => (storeG i t Γ).map .nx
theorem Keeps.set {io : List Nat} {σ : St} {i : Nat} {x : Option V} (h : i ∉ io) : Keeps io σ (σ.set i x) := ⟨List.length_set .., fun j m => by
  rw [List.getElem?_set_ne fun e => h (by rw [e]; exact m)]⟩
theorem vs_set (i : Nat) {x : Str} {pos' : Pos} {m : M T} (hN : X.N.Nodup) (h : VT X W e m) (hi : X.N[i]? = some x := by rfl) (hx : Loc X.env.scope x := by first | exact Or.inl rfl | exact Or.inr rfl) (hio : i ∉ io := by decide)
    (hs : swapsWith e (some (.Name x pos')) pos.line X.env = pure false := by rfl) (hf : X.fn x = true ∨ X.env.scope.names.lookup x = some .local := by first | exact .inl rfl | exact .inr rfl) : VS X W io (.Assign [.Name x pos'] e pos) (mSet i m) := by
  obtain ⟨t, p, s⟩ := h
  refine ⟨_, ps_set hN hi hx p hs hf, fun Γ σ F H O D k h => s Γ σ F H O _ k ?_⟩
  unfold mSet at h
  refine HitS.bindT h fun t Γ1 v F1 H1 O1 o k1 r n x s1 h1 => ?_
  unfold storeG at h1
  split at h1
  · rename_i hl
    obtain ⟨O2, k2, s2⟩ := k1.put (v := v) hl r n x
    exact h1 _ F1 H1 O2 k2 s2 (Keeps.set hio)
  · exact h1.elim
/-- targets, of frozen data -/
abbrev MG := PyData → G → Option G
def VG (X : Cx) (io : List Nat) (tg : Expr) (g : MG) : Prop := ∃ t, PG X tg t ∧ ∀ d v Γ Γ' σ F H O Q, Ok X.K F H Γ σ O → Df X.K F v d → g d Γ = some Γ' → (∀ σ' O', Ok X.K F H Γ' σ' O' → Step F H O F H O' → Keeps io σ σ' → Q σ' H) → t v σ H Q
abbrev MGs := List PyData → G → Option G
def VGs (X : Cx) (io : List Nat) (tgs : List Expr) (g : MGs) : Prop := ∃ t, PGs X tgs t ∧ ∀ ds vs Γ Γ' σ F H O Q, Ok X.K F H Γ σ O → DfAll X.K F vs ds → g ds Γ = some Γ' → (∀ σ' O', Ok X.K F H Γ' σ' O' → Step F H O F H O' → Keeps io σ σ' → Q σ' H) → t vs σ H Q
def gN (i : Nat) : MG := fun d Γ => storeG i (.frz d) Γ
theorem vg_name (i : Nat) {x : Str} (hN : X.N.Nodup) (hi : X.N[i]? = some x := by rfl) (hx : Loc X.env.scope x := by first | exact Or.inl rfl | exact Or.inr rfl) (hio : i ∉ io := by decide) (hf : X.fn x = true ∨ X.env.scope.names.lookup x = some .local := by first | exact .inl rfl | exact .inr rfl) : VG X io (.Name x pos) (gN i) := by
  refine ⟨_, pg_name hN hi hx hf, fun d v Γ Γ' σ F H O Q k r e h => ?_⟩
  unfold gN storeG at e
  split at e
  · rename_i hl
    cases e
    obtain ⟨O2, k2, s2⟩ := k.put (v := v) (t := .frz d) hl (repFrz r) k.nd (fun _ m => nomatch m)
    exact h _ O2 k2 s2 (Keeps.set hio)
  · cases e
def gE : MGs := fun ds Γ => match ds with
  | [] => some Γ
  | _ => none
def gC (g : MG) (gs : MGs) : MGs := fun ds Γ => match ds with
  | d :: ds => (g d Γ).bind (gs ds)
  | [] => none
theorem vgs_nil : VGs X io [] gE := by
  refine ⟨_, pgs_nil, fun ds vs Γ Γ' σ F H O Q k r e h => ?_⟩
  cases r with
  | nil =>
    cases e
    exact ⟨rfl, h σ O k Step.refl Keeps.refl⟩
  | cons h1 h2 => cases e
theorem vgs_cons {es : List Expr} {g : MG} {gs : MGs} (h1 : VG X io e g) (h2 : VGs X io es gs) (hs : (assignEach (e :: es) X.env).map (·.2) = assign e X.env :: (assignEach es X.env).map (·.2) := by rfl) : VGs X io (e :: es) (gC g gs) := by
  obtain ⟨t, p, s⟩ := h1
  obtain ⟨ts, ps, ss⟩ := h2
  refine ⟨_, pgs_cons p ps hs, fun ds vs Γ Γ' σ F H O Q k r e h => ?_⟩
  cases r with
  | nil => cases e
  | cons r1 r2 =>
    rename_i v vs' d ds'
    unfold gC at e
    dsimp only at e
    cases q : g d Γ with
    | none => rw [q] at e; cases e
    | some Γ1 =>
      rw [q] at e
      refine ⟨v, vs', rfl, s d v Γ Γ1 σ F H O _ k r1 q fun σ1 O1 k1 s1 g1 => ?_⟩
      exact ss ds' vs' Γ1 Γ' σ1 F H O1 Q k1 r2 e fun σ2 O2 k2 s2 g2 => h σ2 O2 k2 (s1.trans s2) (g1.trans g2)
def gTu (n : Nat) (gs : MGs) : MG := fun d Γ => match d with
  | .tuple ds => if ds.length = n then gs ds Γ else none
  | .list ds => if ds.length = n then gs ds Γ else none
  | _ => none
theorem vg_tup {es : List Expr} {k : Nat} {gs : MGs} {n : Nat} (hc : X.calm = true) (h : VGs X io es gs) (hn : (assignEach es X.env).length = n := by rfl) (hst : (assignEach es X.env).findIdx? (·.1) = none := by rfl) : VG X io (.Tuple es k pos) (gTu n gs) := by
  obtain ⟨ts, ps, ss⟩ := h
  refine ⟨fun v σ H Q => gTup X.K n ts v σ H Q ∨ gLst X.K n ts v σ H Q, ⟨fun pins s σ H v u Q I r hw => hw.elim ((pg_tup hc ps hn hst).run pins s σ H v u Q I r) ((pg_lst hc ps hn hst).run pins s σ H v u Q I r)⟩, fun d v Γ Γ' σ F H O Q k r e h => ?_⟩
  unfold gTu at e
  split at e
  · split at e
    · rename_i hl
      cases r with
      | tup h1 h2 => exact .inl ⟨_, _, rfl, tupT k.sub h1, (DfAll.length h2).trans hl, ss _ _ Γ Γ' σ F H O Q k h2 e h⟩
    · cases e
  · split at e
    · rename_i hl
      cases r with
      | lst h1 h2 => exact .inr ⟨_, _, rfl, .inl (.inl (k.sub _ _ h1)), (DfAll.length h2).trans hl, ss _ _ Γ Γ' σ F H O Q k h2 e h⟩
    · cases e
  · cases e
def mAsg (g : MG) (m : M PyData) : MS := bS m fun d Γ => (g d Γ).map .nx
theorem vs_asg {tg : Expr} {g : MG} {m : M PyData} (h : VD X W e m) (hg : VG X io tg g) (hs : swapsWithSole [tg] e pos.line X.env = pure false := by rfl) (hw : swappedStores [tg] e X.env = pure none := by rfl)
    (h1 : (assignEach [tg] X.env).map (·.2) = [assign tg X.env] := by rfl) : VS X W io (.Assign [tg] e pos) (mAsg g m) := by
  obtain ⟨t, p, s⟩ := h
  obtain ⟨tg', pg, sg⟩ := hg
  refine ⟨_, ps_asg p pg hs hw h1, fun Γ σ F H O D k h => s Γ σ F H O _ k ?_⟩
  unfold mAsg at h
  refine HitS.bindN h fun d Γ1 v F1 H1 O1 k1 r s1 h1 => ?_
  cases q : g d Γ1 with
  | none => rw [q] at h1; exact h1.elim
  | some Γ2 =>
    rw [q] at h1
    exact sg d v Γ1 Γ2 σ F1 H1 O1 _ k1 r q fun σ' O' k' s' g' => h1 σ' F1 H1 O' k' s' g'
/-- a, b = x, y -/
def mPar (i j : Nat) (ms : M (List PyData)) : MS := bS ms fun ds Γ => match ds with
  | [d, e] => ((storeG i (.frz d) Γ).bind (storeG j (.frz e))).map .nx
  | _ => none
theorem vs_par (i j : Nat) {x y : Str} {a b : Expr} {ms : M (List PyData)} {px py pt : Pos} {kt k2 pt2} (hc : X.calm = true) (hN : X.N.Nodup) (ha : VDs X W [a, b] ms) (hi : X.N[i]? = some x := by rfl) (hj : X.N[j]? = some y := by rfl) (hij : i ≠ j := by decide)
    (hx : X.env.scope.names.lookup x = some .local := by rfl) (hy : X.env.scope.names.lookup y = some .local := by rfl) (hio : i ∉ io := by decide) (hjo : j ∉ io := by decide)
    (hw : swappedStores [.Tuple [.Name x px, .Name y py] kt pt] (.Tuple [a, b] k2 pt2) X.env = pure (some [x, y]) := by rfl)
    (hs : swapsWithSole [.Tuple [.Name x px, .Name y py] kt pt] (.Tuple [a, b] k2 pt2) pos.line X.env = pure false := by rfl) :
    VS X W io (.Assign [.Tuple [.Name x px, .Name y py] kt pt] (.Tuple [a, b] k2 pt2) pos) (mPar i j ms) := by
  obtain ⟨t, p, s⟩ := ha
  refine ⟨_, ps_par hc hN hi hj hij hx hy p hw hs, fun Γ σ F H O D k h => s Γ σ F H O _ k ?_⟩
  unfold mPar at h
  refine HitS.bindN h fun ds Γ1 vs F1 H1 O1 k1 r s1 h1 => ?_
  split at h1
  · rename_i d e
    cases r with
    | cons r1 r =>
      cases r with
      | cons r2 r =>
        cases r
        rename_i v w
        refine ⟨v, w, rfl, ?_⟩
        unfold storeG at h1
        split at h1
        · rename_i hl
          obtain ⟨O2, k2, s2⟩ := k1.put (v := v) (t := .frz d) hl (repFrz r1) k1.nd (fun _ m => nomatch m)
          dsimp only [Option.bind_some] at h1
          split at h1
          · rename_i hl2
            obtain ⟨O3, k3, s3⟩ := k2.put (v := w) (t := .frz e) hl2 (repFrz r2) k2.nd (fun _ m => nomatch m)
            exact h1 _ F1 H1 O3 k3 (s2.trans s3) ((Keeps.set hio).trans (Keeps.set hjo))
          · exact h1.elim
        · exact h1.elim
  · exact h1.elim
/-- x += e -/
def mAug (i : Nat) (f : OpF) (m : M PyData) : MS := bS (mVar i) fun d => bS m fun d' => bS (oM (f d d')) fun z Γ => (storeG i (.frz z) Γ).map .nx
theorem vs_aug (i : Nat) {x : Str} {pos' : Pos} {op : Operator} {f : OpF} {m : M PyData} (hN : X.N.Nodup) (ho : ∃ r : R2, OpR X (inplaceOp op) r ∧ ∀ a b d, f a b = some d → ∀ x y F H Q, Same F H → Df X.K F x a → Df X.K F y b → (∀ v F' H', Grow F H F' H' → Df X.K F' v d → Q v H') → r x y H Q)
    (h : VD X W e m) (hi : X.N[i]? = some x := by rfl) (hx : Loc X.env.scope x := by first | exact Or.inl rfl | exact Or.inr rfl) (hio : i ∉ io := by decide) (hf : X.fn x = true ∨ X.env.scope.names.lookup x = some .local := by first | exact .inl rfl | exact .inr rfl) :
    VS X W io (.AugAssign (.Name x pos') op e pos) (mAug i f m) := by
  obtain ⟨t, p, s⟩ := h
  obtain ⟨r, hr, hf'⟩ := ho
  refine ⟨_, ps_aug hN hi hx p (ti := fun x y H Q => r x y H Q) (fun pins s σ H x y v u Q I rx ry h => hr pins s σ H x y v u Q I rx ry h) hf, fun Γ σ F H O D k h => ?_⟩
  unfold mAug at h
  have h2 := HitS.bindN (R := fun F' H' d v => Df X.K F' v d ∧ σ[i]? = some (some v)) (P := fun v H1 => ∃ F1 O1 d Γ1, Ok X.K F1 H1 Γ1 σ O1 ∧ Df X.K F1 v d ∧ σ[i]? = some (some v) ∧ HitS X.K W io (bS m (fun d' => bS (oM (f d d')) fun z Γ => (storeG i (.frz z) Γ).map .nx) Γ1) D σ F1 H1 O1) h
    (fun d Γ1 v F1 H1 O1 k1 r1 s1 h1 => ⟨F1, O1, d, Γ1, k1, r1.1, r1.2, h1⟩)
  unfold mVar at h2
  have fin : ∀ v F1 O1 d Γ1, Ok X.K F1 H Γ1 σ O1 → Df X.K F1 v d → σ[i]? = some (some v) → HitS X.K W io (bS m (fun d' => bS (oM (f d d')) fun z Γ => (storeG i (.frz z) Γ).map .nx) Γ1) D σ F1 H O1 →
      t σ H fun y H1 => r v y H1 fun z H2 => D.nx (σ.set i (some z)) H2 := fun v F1 O1 d Γ1 k1 r1 e1 h1 => by
    refine s Γ1 σ F1 H O1 _ k1 ?_
    refine HitS.bindN h1 fun d' Γ2 w F2 H2 O2 k2 r2 s2 h3 => ?_
    cases q : f d d' with
    | none =>
      unfold bS oM at h3
      rw [q] at h3
      exact h3.elim
    | some z =>
      unfold bS oM at h3
      rw [q] at h3
      refine hf' d d' z q v w F2 H2 _ k2.sub (Df.mono s2.f _ _ r1) r2 fun zv F3 H3 g3 r3 => ?_
      have k3 := k2.grow g3
      have h4 := HitS.trans h3 (g3.step (O := O2)) Keeps.refl
      dsimp only [Option.map_some] at h4
      unfold storeG at h4
      split at h4
      · rename_i hl
        obtain ⟨O4, k4, s4⟩ := k3.put (v := zv) (t := .frz z) hl (repFrz r3) k3.nd (fun _ m => nomatch m)
        exact h4 _ F3 H3 O4 k4 s4 (Keeps.set hio)
      · exact h4.elim
  split at h2
  · rename_i d e1
    obtain ⟨v, e2, r1⟩ := k.frz e1
    obtain ⟨F1, O1, d', Γ1, k1, r1', e3, h3⟩ := h2 v F H O k ⟨r1, e2⟩ Step.refl
    exact ⟨v, e2, fin v F1 O1 d' Γ1 k1 r1' e2 h3⟩
  · rename_i t0 _ e1
    obtain ⟨v, o, O', e2, r1, k1, n, x', s1⟩ := k.take e1
    cases q : fz t0 with
    | none => rw [q] at h2; exact h2.elim
    | some d =>
      rw [q] at h2
      obtain ⟨F', k2, r2, s2⟩ := k1.ice r1 n x' q
      obtain ⟨O2, k3, s3⟩ := k2.back (t := .frz d) e2 (repFrz r2) k2.nd (fun _ m => nomatch m)
      rw [List.set_set] at k3
      obtain ⟨F1, O1, d', Γ1, k4, r4, e4, h4⟩ := h2 v F' H O2 k3 ⟨r2, e2⟩ ((s1.trans s2).trans s3)
      exact ⟨v, e2, fin v F1 O1 d' Γ1 k4 r4 e2 h4⟩
  · exact h2.elim
def iaddF : OpF
  | .int i, .int j => some (.int (i + j))
  | _, _ => none
theorem ia_add : ∃ r : R2, OpR X (inplaceOp .Add) r ∧ ∀ a b d, iaddF a b = some d → ∀ x y F H Q, Same F H → Df X.K F x a → Df X.K F y b → (∀ v F' H', Grow F H F' H' → Df X.K F' v d → Q v H') → r x y H Q := by
  refine ⟨_, iop_add, fun a b d e x y F H Q s ra rb q => ?_⟩
  unfold iaddF at e
  split at e
  · cases e
    cases ra
    cases rb
    exact ⟨_, _, rfl, rfl, q _ F H (Grow.refl s) (.int _)⟩
  · cases e

/-! ### while -/
def mWhile (c : M Bool) (b : MS) : Nat → MS
  | 0 => fun _ => none
  | n + 1 => bS c fun t => if t = true then (fun Γ => match b Γ with
      | some (.nx Γ') => mWhile c b n Γ'
      | some (.ct Γ') => mWhile c b n Γ'
      | some (.bk Γ') => some (.nx Γ')
      | r => r) else nS
theorem vs_while (n : Nat) {c : Expr} {body : List Stmt} {mc : M Bool} {b : MS} (hp : PassesOwn (model X.prog X.w) X.A X.env X.xe) (hc : VB X W c mc) (hb : VSs X W io body b) : VS X W io (.While c body [] pos) (mWhile mc b n) := by
  obtain ⟨tc, pc, sc⟩ := hc
  obtain ⟨tb, pb, sb⟩ := hb
  refine ⟨_, ps_while hp pc pb, fun Γ σ F H O D k h => ?_⟩
  refine ⟨fun m σ H => ∃ Γ F O, Ok X.K F H Γ σ O ∧ HitS X.K W io (mWhile mc b m Γ) D σ F H O, ⟨n, Γ, F, O, k, h⟩, ?_⟩
  rintro m σ H ⟨Γ, F, O, k, h⟩
  cases m with
  | zero => exact h.elim
  | succ m =>
    refine sc Γ σ F H O _ k ?_
    refine HitS.bindN h fun t Γ1 v F1 H1 O1 k1 r1 s1 h1 => ?_
    cases r1
    cases t with
    | false => exact iteF (h1 σ F1 H1 O1 k1 Step.refl Keeps.refl)
    | true =>
      refine iteT ⟨fun σ' H' => ∃ Γ F O, Ok X.K F H' Γ σ' O ∧ HitS X.K W io (mWhile mc b m Γ) D σ' F H' O, fun σ' H' q => ⟨m, Nat.lt_succ_self m, q⟩, sb Γ1 σ F1 H1 O1 _ k1 ?_⟩
      rw [if_pos rfl] at h1
      match r : b Γ1, h1 with
      | some (.nx Γ'), h1 => exact fun σ' F' H' O' k' s' g' => ⟨Γ', F', O', k', HitS.trans h1 s' g'⟩
      | some (.ct Γ'), h1 => exact fun σ' F' H' O' k' s' g' => ⟨Γ', F', O', k', HitS.trans h1 s' g'⟩
      | some (.bk Γ'), h1 => exact fun σ' F' H' O' k' s' g' => h1 σ' F' H' O' k' s' g'
      | some (.rt t Γ'), h1 => exact h1
      | some (.ex c Γ'), h1 => exact h1
end
end TW
/-! ### promises of defs that know that no repr is under way -/
namespace TW
open PySem PySem.Spec PyProof.Rows L2
structure RoomG (k : Nat) (A : Around) : Prop where
  rm : L2.Room k A
  gu : A.guards = some []
theorem RoomG.un {k : Nat} {A : Around} (r : RoomG k A) : A.units + 16 * k + 200 < cLine := r.rm.un
theorem RoomG.hd {k : Nat} {A : Around} (r : RoomG k A) : A.handled = none := r.rm.hd
theorem RoomG.mono {j k : Nat} {A : Around} (r : RoomG k A) (h : j ≤ k) : RoomG j A := ⟨r.rm.mono h, r.gu⟩
theorem RoomG.deeper {k : Nat} {A : Around} (r : RoomG (k + 1) A) (env : Env) : RoomG k (A.deeper env) := ⟨r.rm.deeper env, r.gu⟩
structure FnOkG (Pg : Program) (w : World) (K : PySem.W.Frag) (mg : Str → Option Value) (base : Heap) (X : CXT) (k : Nat) (f : Addr) (fd : FuncData) (ns : List Str) (sp : Sp) : Prop where
  len : ∀ ws H Q E, sp ws H Q E → ws.length = ns.length
  run : ∀ (A : Around) (fs : List Env) (s : Shared) (H : Hp) (as : Args) (us : List Value) (ws : List V) (Q : VK) (E : XK),
    RoomG k A → Env0 Pg w K mg base A fs s H → BindsTo s fd as (ns.zip us) → Vals ws us → sp ws H Q E →
      codeAny (model Pg w) A (.call (.ref f) as) (L2.CR X fs Pg w H s Q E) s
section
variable {Pg : Program} {w : World} {K : PySem.W.Frag} {mg : Str → Option Value} {base : Heap} {C : CXT} {f : Addr} {fd : FuncData} {ns : List Str} {sp : Sp} {k : Nat}
theorem FnOkG.mono {j : Nat} (F : FnOkG Pg w K mg base C j f fd ns sp) (h : j ≤ k) : FnOkG Pg w K mg base C k f fd ns sp :=
  ⟨F.len, fun A fs s H as us ws Q E r => F.run A fs s H as us ws Q E (r.mono h)⟩
/-- a def by its body -/
theorem fnG_of {nm qn : Str} {pa : Arguments} {bd : List Stmt} {sc : Scope} {N : List Str} (D : FunD K nm qn pa bd sc [] [] f fd) (S : FnScope N ns sc) (len : ∀ ws H Q E, sp ws H Q E → ws.length = ns.length)
    (hb : ∀ (cv : Value) (A : Around) (fs : List Env) (s : Shared) (H : Hp) (ws : List V) (Q : VK) (E : XK), RoomG k (A.deeper (envOfC qn sc s.heap.objs.size f cv)) → sp ws H Q E →
      ∃ t, PSs (cxOf C Pg w K mg base N qn sc f cv A fs s H E) bd t ∧ t { nx := fun _ G => Q .non G, rt := Q } (L2.start N ws) H) :
    FnOkG Pg w K mg base C (k + 1) f fd ns sp := by
  obtain ⟨oc, od, dV, kV, doc, pm, an, cv, ct, osl, rfl, lk, hcd, _, _⟩ := D.ex
  refine ⟨len, fun A fs s H as us ws Q E hr e0 bd hv hs => ?_⟩
  have KX : K.In s.heap := e0.mod.kin.keeps fun b o e => (e0.bs b o e).1
  have lim : s.heap.NoLimit := e0.mod.nolimit.keeps fun b o e => (e0.bs b o e).1
  have kinds : ∀ q ∈ ns.zip us, sc.names.lookup q.1 = some .local ∨ (sc.names.lookup q.1 = some .cell ∧ ((cellsFrom (s.heap.objs.size + 1) sc.names []).lookup q.1).isSome = true) := by
    intro q hq
    obtain ⟨a, b⟩ := q
    rcases S.par a (List.of_mem_zip hq).1 with z | z
    · exact Or.inl z
    · exact Or.inr ⟨z, PySem.W.cellsFrom_some _ _ _ (Or.inl z)⟩
  refine codeAny_call_function hr.rm.depth (KX _ _ lk) rfl S.co S.gen rfl (PySem.W.codeRec_of KX hcd) (bd _ _ _ _ (wpAny_newFunctionEnv_cells S.kind kinds fun env he s1 x => ?_))
  subst he
  refine ⟨lim.keeps x.toInCall.keep, codeAny_func ?_⟩
  obtain ⟨t, ht, hq⟩ := hb cv A fs s H ws Q E (hr.deeper _) hs
  refine wpAny_mono (ht.run [] s1 (L2.start N ws) H _ (inv_start S hr.hd e0 (len _ _ _ _ hs) hv x) hq) (fun fl s' z => ?_) (fun e s' z => z)
  cases fl with
  | brk => obtain ⟨_, _, _, q⟩ := z; exact q.elim
  | cont => obtain ⟨_, _, _, q⟩ := z; exact q.elim
  | next =>
    obtain ⟨_, G, J, q⟩ := z
    exact ⟨V.non, G, J.os, J.bare, J.base, J.hok, rfl, q⟩
  | ret u =>
    obtain ⟨v, _, G, J, rv, q⟩ := z
    exact ⟨v, G, J.os, J.bare, J.base, J.hok, rv, q⟩
end
section
variable {X : Cx} {C : CXT} {k : Nat} {f : Addr} {fd : FuncData} {ns : List Str} {sp : Sp} {E : L2.St → XK} {x : Str} {p pos : Pos} {e : Expr} {es : List Expr} {t : TA}
theorem run_fnG {pins : List (Addr × Obj)} {σ : L2.St} {H : Hp} {s : Shared} {Q : VK} {us : List Value} {ws : List V} (F : FnOkG X.prog X.w X.K X.mg X.base C k f fd ns sp) (hr : RoomG k X.A) (hb : Binds X.K fd ns [])
    (hx : PassesAt C X σ (E σ)) (I : Inv X pins σ H s) (r : Vals ws us) (h : sp ws H Q (E σ)) : wpAny (model X.prog X.w) X.A (call (.ref f) us) (EP X pins σ Q) X.xe s := by
  have b := hb s us I.kIn (by rw [List.append_nil, ← r.length]; exact F.len _ _ _ _ h)
  rw [List.append_nil] at b
  refine wpAny_call (codeAny_mono (F.run X.A X.stack s H ⟨us, []⟩ us ws Q (E σ) hr I.env0 b r h) ?_)
  intro c s' q
  cases c with
  | error d => exact hx pins H s d s' I q
  | ok fl => cases fl <;> first | exact I.after q | exact False.elim q
theorem pe_callG (F : FnOkG X.prog X.w X.K X.mg X.base C k f fd ns sp) (hr : RoomG k X.A) (hg : Gl X x) (hm : X.mg x = some (.ref f)) (hk : PySem.W.keepIn X.K (.ref f) = true) (hb : Binds X.K fd ns []) (hx : ∀ σ, PassesAt C X σ (E σ)) (ha : PA X (e :: es) t)
    (hdb : (x == ("__debug__" : Str)) = false := by decide) (he : starEach (e :: es) X.env = (false, eval e X.env) :: starEach es X.env := by rfl) (hpl : (backTo pos (starEach es X.env)).any (·.1) = false := by rfl) : PE X (.Call (.Name x p) (e :: es) [] pos) (tCallS sp E t) := by
  refine ⟨fun pins s σ H Q I h => wpAny_Call_Name_kw (ld_glob I hg hm ?_ hdb)⟩
  refine PySem.W.callWith_K (h₀ := X.base) I.ok.mod.kin hk (thn (ha.run pos pins s σ H _ I h) ?_) he hpl
  rintro us s1 ⟨ws, H1, I1, r, q⟩
  exact ⟨I1.kIn, run_fnG F hr hb (hx σ) I1 r q⟩
end
end TW

namespace TW
open PySem PySem.Spec L2
/-! ### what is walked -/
def Walks (K : PySem.W.Frag) : Hp → Hp → List PyData → It → Prop := fun F _ ds J => ∀ i F1 H1, Same F F1 → Same F1 H1 →
  (∀ d, ds[i]? = some d → J.go i H1 ∧ ∀ x H2, J.yld i H1 x H2 → ∃ F2, Grow F1 H1 F2 H2 ∧ Df K F2 x d) ∧ (ds.length ≤ i → J.stop i H1)
def VI (X : Cx) (W : WX) (tg iter : Expr) (m : M (List PyData)) : Prop := ∃ wi, PI X tg iter wi ∧ ∀ Γ σ F H O R, Ok X.K F H Γ σ O → HitN X.K W (Walks X.K) (m Γ) σ F H O R → wi σ H R
section
variable {X : Cx} {W : WX} {io : List Nat} {pos : Pos} {tg e : Expr}
theorem walks_list {K : PySem.W.Frag} {F H : Hp} {a : Addr} {xs : List V} {ds : List PyData} (h : F a = some (.lst xs)) (r : DfAll K F xs ds) : Walks K F H ds (Itl K a) := fun i F1 H1 s1 s2 => by
  have q : SqL K H1 a xs := .inl (.inl (s2 _ _ (s1 _ _ h)))
  refine ⟨fun d e => ?_, fun e => ⟨xs, q, by rw [DfAll.length r]; exact e⟩⟩
  obtain ⟨v, e1, r1⟩ := DfAll.get r e
  refine ⟨⟨xs, v, q, e1⟩, fun x H2 y => ?_⟩
  obtain ⟨rfl, y⟩ := y
  have := y xs q
  rw [e1] at this
  cases this
  exact ⟨F1, Grow.refl s2, Df.mono s1 _ _ r1⟩
theorem walks_tup {K : PySem.W.Frag} {F H : Hp} {a : Addr} {xs : List V} {ds : List PyData} (h : F a = some (.tup xs)) (r : DfAll K F xs ds) : Walks K F H ds (Itt K a) := fun i F1 H1 s1 s2 => by
  have q : SqT K H1 a xs := sqT_mono s2 (tupT s1 h)
  refine ⟨fun d e => ?_, fun e => ⟨xs, q, by rw [DfAll.length r]; exact e⟩⟩
  obtain ⟨v, e1, r1⟩ := DfAll.get r e
  refine ⟨⟨xs, v, q, e1⟩, fun x H2 y => ?_⟩
  obtain ⟨rfl, y⟩ := y
  have := y xs q
  rw [e1] at this
  cases this
  exact ⟨F1, Grow.refl s2, Df.mono s1 _ _ r1⟩
def itemsF : PyData → Option (List PyData)
  | .list ds => some ds
  | .tuple ds => some ds
  | _ => none
def mIt (m : M PyData) : M (List PyData) := bM m fun d => oM (itemsF d)
theorem vi_seq {m : M PyData} (h : VD X W e m) : VI X W tg e (mIt m) := by
  obtain ⟨t, p, s⟩ := h
  refine ⟨fun σ H R => t σ H fun x H1 => ∃ a, x = .ref a ∧ (((∃ xs, SqL X.K H1 a xs) ∧ R (Itl X.K a) H1) ∨ ((∃ xs, SqT X.K H1 a xs) ∧ R (Itt X.K a) H1)), ⟨fun pins sh σ H R I h => ?_⟩, fun Γ σ F H O R k h => s Γ σ F H O _ k ?_⟩
  · -- both kinds at once: which it is, is known where the value has come
    have key : ∀ (x : V) (H1 : Hp) (v : Value) (s1 : Shared), Inv X pins σ H1 s1 → RelV x v → (∃ a, x = .ref a ∧ (((∃ xs, SqL X.K H1 a xs) ∧ R (Itl X.K a) H1) ∨ ((∃ xs, SqT X.K H1 a xs) ∧ R (Itt X.K a) H1))) →
        wpAny (model X.prog X.w) X.A (pyIter v) (PIE X pins σ tg R) X.xe s1 := by
      rintro x H1 v s1 I1 r1 ⟨a, rfl, ⟨⟨xs, hq⟩, q⟩ | ⟨⟨xs, hq⟩, q⟩⟩
      · cases r1
        obtain ⟨its, rv, p, hz⟩ := I1.list hq
        refine wpAny_pyIter_list p.isList ?_
        refine ⟨s1.heap.objs.size, [s1.heap.objs.size], _, _, H1, rfl, I1.kept (t' := s1.toks) fun b o e => Heap.get?_push_of_some _ e, turn_list a _, ⟨_, Heap.get?_push_size _ rfl, rfl, rfl⟩, fun b hb => ?_, q⟩
        have e : b = s1.heap.objs.size := by simpa using hb
        subst e
        exact I1.fpOk (Nat.le_refl _) (I1.hok.fresh (Nat.le_refl _))
      · cases r1
        obtain ⟨its, rv, p, hz⟩ := I1.tuple hq
        refine wpAny_pyIter_tuple (show s1.heap.IsTuple a its.toArray from p) ?_
        refine ⟨s1.heap.objs.size, [s1.heap.objs.size], _, _, H1, rfl, I1.kept (t' := s1.toks) fun b o e => Heap.get?_push_of_some _ e, turn_tuple a _, ⟨_, Heap.get?_push_size _ rfl, rfl, rfl⟩, fun b hb => ?_, q⟩
        have e : b = s1.heap.objs.size := by simpa using hb
        subst e
        exact I1.fpOk (Nat.le_refl _) (I1.hok.fresh (Nat.le_refl _))
    exact thn (p.run pins sh σ H _ I h) fun v s1 ⟨x, H1, I1, r1, q1⟩ => key x H1 v s1 I1 r1 q1
  · unfold mIt at h
    refine HitN.bind h fun d Γ1 v F1 H1 O1 k1 r s1 h1 => ?_
    unfold oM at h1
    cases d with
    | list ds =>
      cases r with
      | lst h2 h3 => exact ⟨_, rfl, .inl ⟨⟨_, .inl (.inl (k1.sub _ _ h2))⟩, h1 _ F1 H1 O1 k1 (walks_list h2 h3) Step.refl⟩⟩
    | tuple ds =>
      cases r with
      | tup h2 h3 => exact ⟨_, rfl, .inr ⟨⟨_, tupT k1.sub h2⟩, h1 _ F1 H1 O1 k1 (walks_tup h2 h3) Step.refl⟩⟩
    | _ => exact h1.elim
def upto (lo : Int) (n : Nat) : List PyData := (List.range n).map fun (i : Nat) => .int (lo + (i : Int))
theorem walks_range {K : PySem.W.Frag} {F H : Hp} {lo : Int} {n : Nat} : Walks K F H (upto lo n) (Itr lo n) := fun i F1 H1 s1 s2 => by
  refine ⟨fun d e => ?_, fun e => ?_⟩
  · unfold upto at e
    rw [List.getElem?_map] at e
    by_cases hi : i < n
    · rw [List.getElem?_range hi] at e
      cases e
      refine ⟨hi, fun x H2 y => ?_⟩
      obtain ⟨rfl, rfl⟩ := y
      exact ⟨F1, Grow.refl s2, .int _⟩
    · rw [List.getElem?_eq_none (by rw [List.length_range]; omega)] at e
      cases e
  · unfold upto at e
    rw [List.length_map, List.length_range] at e
    exact e
def rng1F : List PyData → Option (List PyData)
  | [.int j] => if -(2 ^ 62) ≤ j ∧ j < 2 ^ 62 then some (upto 0 j.toNat) else none
  | _ => none
def rng2F : List PyData → Option (List PyData)
  | [.int i, .int j] => if -(2 ^ 62) ≤ i ∧ i < 2 ^ 62 ∧ -(2 ^ 62) ≤ j ∧ j < 2 ^ 62 then some (upto i (j - i).toNat) else none
  | _ => none
def mRng1 (m : M (List PyData)) : M (List PyData) := bM m fun ds => oM (rng1F ds)
def mRng2 (m : M (List PyData)) : M (List PyData) := bM m fun ds => oM (rng2F ds)
theorem vi_range1 {a : Expr} {p : Pos} {m : M (List PyData)} (hm : X.mg "range" = none) (h : VDs X W [a] m) (hg : Gl X "range" := by rfl) (hs : starEach [a] X.env = [(false, eval a X.env)] := by rfl) : VI X W tg (.Call (.Name "range" p) [a] [] pos) (mRng1 m) := by
  obtain ⟨t, pa, s⟩ := h
  refine ⟨_, pi_range1 hg hm pa hs, fun Γ σ F H O R k h => s Γ σ F H O _ k ?_⟩
  unfold mRng1 at h
  refine HitN.bind h fun ds Γ1 vs F1 H1 O1 k1 r s1 h1 => ?_
  unfold oM rng1F at h1
  split at h1
  · cases r with
    | cons r1 r =>
      cases r1
      cases r
      split at h1
      · rename_i hj
        exact ⟨_, rfl, hj.1, hj.2, h1 _ F1 H1 O1 k1 walks_range Step.refl⟩
      · exact h1.elim
  · exact h1.elim
theorem vi_range2 {a b : Expr} {p : Pos} {m : M (List PyData)} (hm : X.mg "range" = none) (h : VDs X W [a, b] m) (hg : Gl X "range" := by rfl) (hs : starEach [a, b] X.env = [(false, eval a X.env), (false, eval b X.env)] := by rfl) (hs2 : starEach [b] X.env = [(false, eval b X.env)] := by rfl) : VI X W tg (.Call (.Name "range" p) [a, b] [] pos) (mRng2 m) := by
  obtain ⟨t, pa, s⟩ := h
  refine ⟨_, pi_range2 hg hm pa hs hs2, fun Γ σ F H O R k h => s Γ σ F H O _ k ?_⟩
  unfold mRng2 at h
  refine HitN.bind h fun ds Γ1 vs F1 H1 O1 k1 r s1 h1 => ?_
  unfold oM rng2F at h1
  split at h1
  · cases r with
    | cons r1 r =>
      cases r with
      | cons r2 r =>
        cases r1
        cases r2
        cases r
        split at h1
        · rename_i hj
          exact ⟨_, _, rfl, hj, h1 _ F1 H1 O1 k1 walks_range Step.refl⟩
        · exact h1.elim
  · exact h1.elim

/-! ### for -/
def loopS (g : MG) (b : MS) : List PyData → MS
  | [] => nS
  | d :: ds => fun Γ => match g d Γ with
    | none => none
    | some Γ1 => match b Γ1 with
      | some (.nx Γ2) => loopS g b ds Γ2
      | some (.ct Γ2) => loopS g b ds Γ2
      | some (.bk Γ2) => some (.nx Γ2)
      | r => r
def mFor (mi : M (List PyData)) (g : MG) (b : MS) : MS := bS mi (loopS g b)
theorem vs_for {iter : Expr} {body : List Stmt} {mi : M (List PyData)} {g : MG} {b : MS} (hp : PassesOwn (model X.prog X.w) X.A X.env X.xe) (hc : X.calm = true) (hi : VI X W tg iter mi) (hg : VG X io tg g) (hb : VSs X W io body b)
    (hs : ∀ x, foldedSetIterable iter X.env x = pure x := by intro _; rfl) : VS X W io (.For tg iter body [] pos) (mFor mi g b) := by
  obtain ⟨wi, pi, si⟩ := hi
  obtain ⟨tg', pg, sg⟩ := hg
  obtain ⟨tb, pb, sb⟩ := hb
  refine ⟨_, ps_for hp hc pi pg pb hs, fun Γ σ F H O D k h => si Γ σ F H O _ k ?_⟩
  unfold mFor at h
  refine HitS.bindN h fun ds Γ1 J F1 H1 O1 k1 w1 s1 h1 => ?_
  refine ⟨fun i m σ' H' => m = ds.length - i ∧ i ≤ ds.length ∧ ∃ Γ' F' O', Ok X.K F' H' Γ' σ' O' ∧ Same F1 F' ∧ HitS X.K W io (loopS g b (ds.drop i) Γ') D σ' F' H' O', ⟨ds.length, by simp, Nat.zero_le _, Γ1, F1, O1, k1, Same.refl _, h1⟩, ?_⟩
  rintro i m σ2 H2 ⟨rfl, hi, Γ2, F2, O2, k2, s2, h2⟩
  obtain ⟨wgo, wstop⟩ := w1 i F2 H2 s2 k2.sub
  by_cases hlt : i < ds.length
  · have e : ds[i]? = some ds[i] := List.getElem?_eq_getElem hlt
    have ed : ds.drop i = ds[i] :: ds.drop (i + 1) := List.drop_eq_getElem_cons hlt
    obtain ⟨go, yl⟩ := wgo _ e
    refine .inr ⟨go, fun σ' H' => i + 1 ≤ ds.length ∧ ∃ Γ' F' O', Ok X.K F' H' Γ' σ' O' ∧ Same F1 F' ∧ HitS X.K W io (loopS g b (ds.drop (i + 1)) Γ') D σ' F' H' O', fun σ' H' q => ⟨ds.length - (i + 1), by omega, rfl, q.1, q.2⟩, fun x H3 y => ?_⟩
    obtain ⟨F3, g3, r3⟩ := yl x H3 y
    have k3 := k2.grow g3
    have h3 := HitS.trans h2 (g3.step (O := O2)) Keeps.refl
    rw [ed] at h3
    unfold loopS at h3
    cases q : g ds[i] Γ2 with
    | none => rw [q] at h3; exact h3.elim
    | some Γ3 =>
      rw [q] at h3
      refine sg ds[i] x Γ2 Γ3 σ2 F3 H3 O2 _ k3 r3 q fun σ4 O4 k4 s4 g4 => sb Γ3 σ4 F3 H3 O4 _ k4 ?_
      have h4 := HitS.trans h3 s4 g4
      dsimp only at h4
      have s13 : Same F1 F3 := s2.trans g3.f
      match r : b Γ3, h4 with
      | some (.nx Γ'), h4 => exact fun σ' F' H' O' k' s' g' => ⟨hlt, Γ', F', O', k', s13.trans s'.f, HitS.trans h4 s' g'⟩
      | some (.ct Γ'), h4 => exact fun σ' F' H' O' k' s' g' => ⟨hlt, Γ', F', O', k', s13.trans s'.f, HitS.trans h4 s' g'⟩
      | some (.bk Γ'), h4 => exact fun σ' F' H' O' k' s' g' => h4 σ' F' H' O' k' s' g'
      | some (.rt t Γ'), h4 => exact h4
      | some (.ex c Γ'), h4 => exact h4
  · have e : i = ds.length := by omega
    subst e
    refine .inl ⟨wstop (Nat.le_refl _), ?_⟩
    rw [List.drop_length] at h2
    exact h2 σ2 F2 H2 O2 k2 Step.refl Keeps.refl
end

/-! ### calls of defs -/
inductive CR where
  | ret (t : T) (outs : G)
  | exc (c : Str)
abbrev MF := List T → Option CR
def spM (n : Nat) (K : PySem.W.Frag) (mf : MF) : Sp := fun vs H Q E => ∃ F ts O, vs.length = n ∧ Same F H ∧ RepTs K F H ts vs O ∧ O.Nodup ∧ (∀ a ∈ O, F a = none) ∧ match mf ts with
  | none => False
  | some (.ret t outs) => ∀ v F' H' O' o, Same F' H' → RepG K F' H' outs (vs.map some) O' → RepT K F' H' t v o → (o ++ O').Nodup → (∀ a ∈ o ++ O', F' a = none) → Step F H O F' H' (o ++ O') → Q v H'
  | some (.exc c) => ∀ F' H', Same F' H' → Step F H O F' H' [] → E (.ref (He.ga K c)) none H'
inductive Ar where
  | d (m : M PyData)
  | own (i : Nat)
  | cp (i : Nat)
  | tm (m : M T)
/-- the script, handed on -/
def mCopy (i : Nat) : M T := fun Γ => match Γ[i]? with
  | some (some (.scr ns)) => some (.ok (.scr ns) Γ)
  | _ => none
def mArgs : List Ar → M (List T)
  | [] => pM []
  | .d m :: r => bM m fun d => bM (mArgs r) fun ts => pM (.frz d :: ts)
  | .own i :: r => fun Γ => match Γ[i]? with
    | some (some _) => bM (mArgs r) (fun ts => bM (mMove i) fun t => pM (t :: ts)) Γ
    | _ => none
  | .cp i :: r => bM (mCopy i) fun t => bM (mArgs r) fun ts => pM (t :: ts)
  | .tm m :: r => bM m fun t => bM (mArgs r) fun ts => pM (t :: ts)
def OwnAt (σ : St) : List Ar → List V → Prop
  | [], vs => vs = []
  | .d _ :: r, vs => ∃ v ws, vs = v :: ws ∧ OwnAt σ r ws
  | .own i :: r, vs => ∃ v ws, vs = v :: ws ∧ σ[i]? = some (some v) ∧ OwnAt σ r ws
  | .cp _ :: r, vs => ∃ v ws, vs = v :: ws ∧ OwnAt σ r ws
  | .tm _ :: r, vs => ∃ v ws, vs = v :: ws ∧ OwnAt σ r ws
theorem OwnAt.length {σ : St} : ∀ {as : List Ar} {vs : List V}, OwnAt σ as vs → vs.length = as.length
  | [], _, h => by rw [show _ = [] from h] <;> rfl
  | .d _ :: r, _, h => by
    obtain ⟨v, ws, rfl, h⟩ := h
    exact congrArg Nat.succ (OwnAt.length h)
  | .own i :: r, _, h => by
    obtain ⟨v, ws, rfl, _, h⟩ := h
    exact congrArg Nat.succ (OwnAt.length h)
  | .cp _ :: r, _, h => by
    obtain ⟨v, ws, rfl, h⟩ := h
    exact congrArg Nat.succ (OwnAt.length h)
  | .tm _ :: r, _, h => by
    obtain ⟨v, ws, rfl, h⟩ := h
    exact congrArg Nat.succ (OwnAt.length h)
def VA (X : Cx) (W : WX) (es : List Expr) (as : List Ar) : Prop := ∃ t, PA X es t ∧ ∀ Γ σ F H O Q, Ok X.K F H Γ σ O → HitT X.K W (fun F H ts vs o => RepTs X.K F H ts vs o ∧ OwnAt σ as vs) (mArgs as Γ) σ F H O Q → t σ H Q
section
variable {X : Cx} {W : WX} {io : List Nat} {pos : Pos} {e : Expr} {es : List Expr} {as : List Ar}
theorem va_nil : VA X W [] [] := ⟨_, pa_nil, fun Γ σ F H O Q k h => h [] F H O [] k ⟨by unfold RepTs; exact ⟨rfl, rfl⟩, rfl⟩ k.nd (fun _ m => nomatch m) Step.refl⟩
theorem va_d {m : M PyData} (he : VD X W e m) (hs : VA X W es as) (hst : starEach (e :: es) X.env = (false, eval e X.env) :: starEach es X.env := by rfl) : VA X W (e :: es) (.d m :: as) := by
  obtain ⟨te, pe, se⟩ := he
  obtain ⟨ts, ps, ss⟩ := hs
  refine ⟨_, pa_cons pe ps hst, fun Γ σ F H O Q k h => se Γ σ F H O _ k ?_⟩
  unfold mArgs at h
  refine HitT.bindN h fun d Γ1 v F1 H1 O1 k1 r1 s1 h1 => ss Γ1 σ F1 H1 O1 _ k1 ?_
  refine HitT.bindT h1 fun ts Γ2 vs F2 H2 O2 o2 k2 r2 n2 x2 s2 h2 => ?_
  exact h2 (v :: vs) F2 H2 O2 o2 k2 ⟨by unfold RepTs; exact ⟨v, vs, [], o2, rfl, repFrz (Df.mono s2.f _ _ r1), r2.1, rfl⟩, v, vs, rfl, r2.2⟩ n2 x2 Step.refl
theorem va_tm {m : M T} (he : VT X W e m) (hs : VA X W es as) (hst : starEach (e :: es) X.env = (false, eval e X.env) :: starEach es X.env := by rfl) : VA X W (e :: es) (.tm m :: as) := by
  obtain ⟨te, pe, se⟩ := he
  obtain ⟨ts, ps, ss⟩ := hs
  refine ⟨_, pa_cons pe ps hst, fun Γ σ F H O Q k h => se Γ σ F H O _ k ?_⟩
  unfold mArgs at h
  refine HitT.bindT h fun t Γ1 v F1 H1 O1 o1 k1 r1 n1 x1 s1 h1 => ss Γ1 σ F1 H1 O1 _ k1 ?_
  have apart : ∀ b ∈ o1, b ∉ O1 := fun b m z => (List.nodup_append.mp n1).2.2 b m b z rfl
  have live := RepT.live t v o1 r1
  unfold bM at h1
  cases q : mArgs as Γ1 with
  | none => rw [q] at h1; exact h1.elim
  | some r =>
    rw [q] at h1
    cases r with
    | ex c Γ2 => exact fun F' H' O' k2 s2 => h1 F' H' O' k2 ⟨s2.f, fun a ha no => s2.fr a ha fun z => no (List.mem_append_right _ z), fun a ha => (s2.own a ha).imp (List.mem_append_right _) id⟩
    | ok us Γ2 =>
      intro vs F2 H2 O2 o2 k2 r2 n2 x2 s2
      have off : ∀ b ∈ o1, b ∉ o2 ++ O2 := fun b m z => (s2.own b z).elim (apart b m) (live b m)
      refine h1 (v :: vs) F2 H2 O2 (o1 ++ o2) k2 ⟨by unfold RepTs; exact ⟨v, vs, o1, o2, rfl, RepT.mono s2.f _ _ _ r1 (fun a m => (s2.fr a (live a m) (apart a m)).1), r2.1, rfl⟩, v, vs, rfl, r2.2⟩ ?_ ?_ ⟨s2.f, fun a ha no => s2.fr a ha fun z => no (List.mem_append_right _ z), fun a ha => ?_⟩
      · rw [List.append_assoc]
        exact List.nodup_append.mpr ⟨(List.nodup_append.mp n1).1, n2, fun a ha b hb e => off a ha (e ▸ hb)⟩
      · intro a ha
        rcases List.mem_append.mp ha with ha | ha
        · cases z : F2 a with
          | none => rfl
          | some y => exact absurd (x1 a ha) ((s2.fr a (live a ha) (apart a ha)).2 (by rw [z]; exact fun w => nomatch w))
        · exact x2 a ha
      · rw [List.append_assoc] at ha
        rcases List.mem_append.mp ha with ha | ha
        · exact .inl (List.mem_append_left _ ha)
        · exact (s2.own a ha).imp (List.mem_append_right _) id
theorem va_own (i : Nat) {x : Str} {p : Pos} (hs : VA X W es as) (hN : X.N[i]? = some x := by rfl) (hv : Vis X.env.scope x := by first | exact Or.inl rfl | exact Or.inr (Or.inl rfl) | exact Or.inr (Or.inr rfl)) (hd : (x == ("__debug__" : Str)) = false := by decide)
    (hcd : (x == ("__classdict__" : Str)) = false := by decide) (hst : starEach (Expr.Name x p :: es) X.env = (false, eval (Expr.Name x p) X.env) :: starEach es X.env := by rfl) : VA X W (.Name x p :: es) (.own i :: as) := by
  obtain ⟨ts, ps, ss⟩ := hs
  refine ⟨_, pa_cons (pe_var hN hv hd hcd) ps hst, fun Γ σ F H O Q k h => ?_⟩
  unfold mArgs at h
  split at h
  · rename_i t0 e0
    obtain ⟨v, _, _, e1, _⟩ := k.take e0
    refine ⟨v, e1, ss Γ σ F H O _ k ?_⟩
    refine HitT.bindT h fun ts Γ1 vs F1 H1 O1 o1 k1 r1 n1 x1 s1 h1 => ?_
    unfold bM mMove at h1
    dsimp only at h1
    split at h1
    · exact h1.elim
    · rename_i q
      split at q <;> cases q
    · rename_i t1 Γ2 q
      split at q
      · rename_i t2 e2
        cases q
        obtain ⟨v', o, O', e3, r, k2, n, x, s⟩ := k1.take e2
        rw [e1] at e3
        cases e3
        have lo := RepT.live _ _ _ r
        have lO := RepG.live k2.rep
        have sub : ∀ b ∈ o ++ O', b ∈ O1 := fun b m => by
          rcases s.own b m with z | z
          · exact z
          · rcases List.mem_append.mp m with m | m
            · exact absurd z (lo b m)
            · exact absurd z (lO b m)
        have d1 : ∀ b ∈ o1, b ∉ O1 := fun b m q => (List.nodup_append.mp n1).2.2 b m b q rfl
        refine h1 (v :: vs) F1 H1 O' (o ++ o1) k2 ⟨by unfold RepTs; exact ⟨v, vs, o, o1, rfl, r, r1.1, rfl⟩, v, vs, rfl, e1, r1.2⟩ ?_ ?_ ?_
        · rw [List.append_assoc]
          refine List.nodup_append.mpr ⟨(List.nodup_append.mp n).1, List.nodup_append.mpr ⟨(List.nodup_append.mp n1).1, (List.nodup_append.mp n).2.1, fun b hb c hc q => ?_⟩, fun b hb c hc q => ?_⟩
          · subst q
            exact d1 b hb (sub b (List.mem_append_right _ hc))
          · subst q
            rcases List.mem_append.mp hc with hc | hc
            · exact d1 b hc (sub b (List.mem_append_left _ hb))
            · exact (List.nodup_append.mp n).2.2 b hb b hc rfl
        · intro b m
          rcases List.mem_append.mp m with m | m
          · exact x b m
          · exact x1 b m
        · refine ⟨Same.refl _, fun b hb no => ⟨rfl, id⟩, fun b m => .inl ?_⟩
          rw [List.append_assoc] at m
          rcases List.mem_append.mp m with m | m
          · exact List.mem_append_right _ (sub b (List.mem_append_left _ m))
          · rcases List.mem_append.mp m with m | m
            · exact List.mem_append_left _ m
            · exact List.mem_append_right _ (sub b (List.mem_append_right _ m))
      · cases q
  · exact h.elim
theorem va_cp (i : Nat) {x : Str} {p : Pos} (hs : VA X W es as) (hN : X.N[i]? = some x := by rfl) (hv : Vis X.env.scope x := by first | exact Or.inl rfl | exact Or.inr (Or.inl rfl) | exact Or.inr (Or.inr rfl)) (hd : (x == ("__debug__" : Str)) = false := by decide)
    (hcd : (x == ("__classdict__" : Str)) = false := by decide) (hst : starEach (Expr.Name x p :: es) X.env = (false, eval (Expr.Name x p) X.env) :: starEach es X.env := by rfl) : VA X W (.Name x p :: es) (.cp i :: as) := by
  obtain ⟨ts, ps, ss⟩ := hs
  refine ⟨_, pa_cons (pe_var hN hv hd hcd) ps hst, fun Γ σ F H O Q k h => ?_⟩
  unfold mArgs bM mCopy at h
  dsimp only at h
  split at h
  · exact h.elim
  · rename_i q
    split at q <;> cases q
  · rename_i t0 Γ0 q
    split at q
    · rename_i ns e
      cases q
      obtain ⟨v, o, O', e1, r, k1, n, x, s⟩ := k.take e
      have r' := r
      unfold RepT at r'
      obtain ⟨_, rfl⟩ := r'
      refine ⟨v, e1, ss Γ σ F H O _ k ?_⟩
      refine HitT.bindT h fun ts Γ2 vs F2 H2 O2 o2 k2 r2 n2 x2 s2 h2 => ?_
      exact h2 (v :: vs) F2 H2 O2 o2 k2 ⟨by unfold RepTs; exact ⟨v, vs, [], o2, rfl, RepT.mono s2.f _ _ _ r (fun _ m => nomatch m), r2.1, rfl⟩, v, vs, rfl, r2.2⟩ n2 x2 Step.refl
    · cases q
def restore : List Ar → G → G → G
  | .own i :: as, some t :: os, Γ => restore as os (Γ.set i (some t))
  | .own _ :: as, none :: os, Γ => restore as os Γ
  | .d _ :: as, _ :: os, Γ => restore as os Γ
  | .cp _ :: as, _ :: os, Γ => restore as os Γ
  | .tm _ :: as, _ :: os, Γ => restore as os Γ
  | _, _, Γ => Γ
def mCall (mf : MF) (as : List Ar) : M T := bM (mArgs as) fun ts Γ => match mf ts with
  | none => none
  | some (.ret t outs) => some (.ok t (restore as outs Γ))
  | some (.exc c) => some (.ex c Γ)
theorem restore_ok {K : PySem.W.Frag} {F H : Hp} {σ : St} : ∀ {as : List Ar} {outs : G} {vs : List V} {Γ : G} {O O' : List Addr}, Ok K F H Γ σ O → RepG K F H outs (vs.map some) O' → OwnAt σ as vs → (O' ++ O).Nodup → (∀ a ∈ O', F a = none) →
    ∃ O2, Ok K F H (restore as outs Γ) σ O2 ∧ ∀ a ∈ O2, a ∈ O' ++ O
  | [], outs, vs, Γ, O, O', k, r, w, n, x => by
    refine ⟨O, ?_, fun a m => List.mem_append_right _ m⟩
    unfold restore
    exact k
  | .d m :: as, [], vs, Γ, O, O', k, r, w, n, x => ⟨O, by unfold restore; exact k, fun a m => List.mem_append_right _ m⟩
  | .cp m :: as, [], vs, Γ, O, O', k, r, w, n, x => ⟨O, by unfold restore; exact k, fun a m => List.mem_append_right _ m⟩
  | .tm m :: as, [], vs, Γ, O, O', k, r, w, n, x => ⟨O, by unfold restore; exact k, fun a m => List.mem_append_right _ m⟩
  | .own i :: as, [], vs, Γ, O, O', k, r, w, n, x => ⟨O, by unfold restore; exact k, fun a m => List.mem_append_right _ m⟩
  | .d m :: as, none :: os, vs, Γ, O, O', k, r, w, n, x => by
    obtain ⟨v, ws, rfl, w⟩ := w
    obtain ⟨y, r', e, r⟩ := r
    cases e
    unfold restore
    exact restore_ok k r w n x
  | .d m :: as, some t :: os, vs, Γ, O, O', k, r, w, n, x => by
    obtain ⟨v, ws, rfl, w⟩ := w
    obtain ⟨v', r', o1, o2, e, r1, r2, rfl⟩ := r
    cases e
    unfold restore
    obtain ⟨O2, k2, m2⟩ := restore_ok k r2 w (n.sublist (List.Sublist.append_right (List.sublist_append_right _ _) _)) fun a m => x a (List.mem_append_right _ m)
    refine ⟨O2, k2, fun a m => ?_⟩
    rcases List.mem_append.mp (m2 a m) with z | z
    · exact List.mem_append_left _ (List.mem_append_right _ z)
    · exact List.mem_append_right _ z
  | .cp m :: as, none :: os, vs, Γ, O, O', k, r, w, n, x => by
    obtain ⟨v, ws, rfl, w⟩ := w
    obtain ⟨y, r', e, r⟩ := r
    cases e
    unfold restore
    exact restore_ok k r w n x
  | .cp m :: as, some t :: os, vs, Γ, O, O', k, r, w, n, x => by
    obtain ⟨v, ws, rfl, w⟩ := w
    obtain ⟨v', r', o1, o2, e, r1, r2, rfl⟩ := r
    cases e
    unfold restore
    obtain ⟨O2, k2, m2⟩ := restore_ok k r2 w (n.sublist (List.Sublist.append_right (List.sublist_append_right _ _) _)) fun a m => x a (List.mem_append_right _ m)
    refine ⟨O2, k2, fun a m => ?_⟩
    rcases List.mem_append.mp (m2 a m) with z | z
    · exact List.mem_append_left _ (List.mem_append_right _ z)
    · exact List.mem_append_right _ z
  | .tm m :: as, none :: os, vs, Γ, O, O', k, r, w, n, x => by
    obtain ⟨v, ws, rfl, w⟩ := w
    obtain ⟨y, r', e, r⟩ := r
    cases e
    unfold restore
    exact restore_ok k r w n x
  | .tm m :: as, some t :: os, vs, Γ, O, O', k, r, w, n, x => by
    obtain ⟨v, ws, rfl, w⟩ := w
    obtain ⟨v', r', o1, o2, e, r1, r2, rfl⟩ := r
    cases e
    unfold restore
    obtain ⟨O2, k2, m2⟩ := restore_ok k r2 w (n.sublist (List.Sublist.append_right (List.sublist_append_right _ _) _)) fun a m => x a (List.mem_append_right _ m)
    refine ⟨O2, k2, fun a m => ?_⟩
    rcases List.mem_append.mp (m2 a m) with z | z
    · exact List.mem_append_left _ (List.mem_append_right _ z)
    · exact List.mem_append_right _ z
  | .own i :: as, none :: os, vs, Γ, O, O', k, r, w, n, x => by
    obtain ⟨v, ws, rfl, e1, w⟩ := w
    obtain ⟨y, r', e, r⟩ := r
    cases e
    unfold restore
    exact restore_ok k r w n x
  | .own i :: as, some t :: os, vs, Γ, O, O', k, r, w, n, x => by
    obtain ⟨v, ws, rfl, e1, w⟩ := w
    obtain ⟨v', r', o1, o2, e, r1, r2, rfl⟩ := r
    cases e
    unfold restore
    have n1 : (o1 ++ O).Nodup := n.sublist (List.Sublist.append_right (List.sublist_append_left _ _) _)
    obtain ⟨O1, k1, s1⟩ := k.back (t := t) e1 r1 n1 fun a m => x a (List.mem_append_left _ m)
    have s1 : ∀ a ∈ O1, a ∈ o1 ++ O := fun a m => (s1.own a m).elim id fun z => absurd z (RepG.live k1.rep a m)
    obtain ⟨O2, k2, m2⟩ := restore_ok k1 r2 w (by
      refine List.nodup_append.mpr ⟨(List.nodup_append.mp (List.nodup_append.mp n).1).2.1, k1.nd, fun a ha b hb q => ?_⟩
      subst q
      rcases List.mem_append.mp (s1 a hb) with z | z
      · exact (List.nodup_append.mp (List.nodup_append.mp n).1).2.2 a z a ha rfl
      · exact (List.nodup_append.mp n).2.2 a (List.mem_append_right _ ha) a z rfl) fun a m => x a (List.mem_append_right _ m)
    refine ⟨O2, k2, fun a m => ?_⟩
    rcases List.mem_append.mp (m2 a m) with z | z
    · exact List.mem_append_left _ (List.mem_append_right _ z)
    · rcases List.mem_append.mp (s1 a z) with z | z
      · exact List.mem_append_left _ (List.mem_append_left _ z)
      · exact List.mem_append_right _ z
theorem vt_call {n k : Nat} {f : Addr} {fd : FuncData} {ps : List Str} {x : Str} {p : Pos} {mf : MF} (Fn : FnOkG X.prog X.w X.K X.mg X.base (L2.CX X.prog X.w) k f fd ps (spM n X.K mf)) (hr : RoomG k X.A) (hm : X.mg x = some (.ref f)) (hk : PySem.W.keepIn X.K (.ref f) = true) (hb : Binds X.K fd ps [])
    (tk : Takes X W) (ha : VA X W (e :: es) as) (hn : (e :: es).length = n := by rfl) (hn2 : as.length = n := by rfl) (hg : Gl X x := by rfl) (hdb : (x == ("__debug__" : Str)) = false := by decide) (he : starEach (e :: es) X.env = (false, eval e X.env) :: starEach es X.env := by rfl) (hpl : (backTo pos (starEach es X.env)).any (·.1) = false := by rfl) :
    VT X W (.Call (.Name x p) (e :: es) [] pos) (mCall mf as) := by
  obtain ⟨t, pa, s⟩ := ha
  refine ⟨_, pe_callG Fn hr hg hm hk hb (fun σ => passAt tk σ) pa hdb he hpl, fun Γ σ F H O Q k h => s Γ σ F H O _ k ?_⟩
  unfold mCall at h
  refine HitT.bindT h fun ts Γ1 vs F1 H1 O1 o k1 r n1 x1 s1 h1 => ?_
  obtain ⟨r, w⟩ := r
  have lo := RepTs.live _ _ _ r
  have dj : ∀ a ∈ O1, a ∉ o := fun a m q => (List.nodup_append.mp n1).2.2 a q a m rfl
  have lO := RepG.live k1.rep
  have hl : vs.length = n := by
    rw [OwnAt.length w, hn2]
  refine ⟨F1, ts, o, hl, k1.sub, r, (List.nodup_append.mp n1).1, x1, ?_⟩
  cases q : mf ts with
  | none => rw [q] at h1; exact h1
  | some c =>
    rw [q] at h1
    cases c with
    | ret t outs =>
      intro v F' H' O' o' sub ro rt n' x' st
      have on : On O1 H1 H' := st.on lO dj
      have ap := st.apart lO dj
      have k2 : Ok X.K F' H' Γ1 σ O1 := ⟨sub, RepG.mono st.f k1.rep on, k1.nd, st.out lO dj k1.out⟩
      obtain ⟨O2, k3, m3⟩ := restore_ok k2 ro w (by
        refine List.nodup_append.mpr ⟨(List.nodup_append.mp n').2.1, k1.nd, fun a ha b hb q => ?_⟩
        subst q
        exact ap a hb (List.mem_append_right _ ha)) fun a m => x' a (List.mem_append_right _ m)
      refine h1 v F' H' O2 o' k3 rt ?_ (fun a m => x' a (List.mem_append_left _ m)) ?_
      · refine List.nodup_append.mpr ⟨(List.nodup_append.mp n').1, k3.nd, fun a ha b hb q => ?_⟩
        subst q
        rcases List.mem_append.mp (m3 a hb) with z | z
        · exact (List.nodup_append.mp n').2.2 a ha a z rfl
        · exact ap a z (List.mem_append_left _ ha)
      · have st2 : Step F1 H1 (O1 ++ o) F' H' (O1 ++ (o' ++ O')) := st.hold
        refine (st2.more fun a m => ?_).less fun a m => ?_
        · rcases List.mem_append.mp m with z | z
          · exact List.mem_append_right _ z
          · exact List.mem_append_left _ z
        · rcases List.mem_append.mp m with z | z
          · exact List.mem_append_right _ (List.mem_append_left _ z)
          · rcases List.mem_append.mp (m3 a z) with z | z
            · exact List.mem_append_right _ (List.mem_append_right _ z)
            · exact List.mem_append_left _ z
    | exc c =>
      intro F' H' sub st
      have on : On O1 H1 H' := st.on lO dj
      have k2 : Ok X.K F' H' Γ1 σ O1 := ⟨sub, RepG.mono st.f k1.rep on, k1.nd, st.out lO dj k1.out⟩
      have st2 : Step F1 H1 (O1 ++ o) F' H' (O1 ++ []) := st.hold
      rw [List.append_nil] at st2
      refine h1 F' H' O1 k2 (st2.more fun a m => ?_)
      rcases List.mem_append.mp m with z | z
      · exact List.mem_append_right _ z
      · exact List.mem_append_left _ z
end
end TW

namespace TW
open PySem PySem.Spec L2
open PyProof.Rows (envOfC)
/-! ### a def keeps its promise -/
def maskG (io : List Nat) : Nat → Nat → G → G
  | _, 0, _ => []
  | j, n + 1, [] => none :: maskG io (j + 1) n []
  | j, n + 1, x :: Γ => (if j ∈ io then x else none) :: maskG io (j + 1) n Γ
def mfOf (n N : Nat) (io : List Nat) (mb : MS) : MF := fun ts => if ts.length = n then match mb (ts.map some ++ List.replicate (N - n) none) with
  | some (.rt t Γ) => some (.ret t (maskG io 0 n Γ))
  | some (.nx Γ) => some (.ret (.frz .none) (maskG io 0 n Γ))
  | some (.ex c Γ) => some (.exc c)
  | _ => none
  else none
theorem mask_ok {K : PySem.W.Frag} {F H : Hp} {io : List Nat} : ∀ {Γ : G} {σ : St} {O : List Addr} {vs : List V} {j : Nat}, RepG K F H Γ σ O → O.Nodup → vs.length ≤ σ.length → (∀ i (v : V), vs[i]? = some v → j + i ∈ io → σ[i]? = some (some v)) →
    ∃ O2, RepG K F H (maskG io j vs.length Γ) (vs.map some) O2 ∧ O2.Nodup ∧ ∀ a ∈ O2, a ∈ O
  | Γ, σ, O, [], j, h, n, l, e => ⟨[], ⟨rfl, rfl⟩, List.nodup_nil, fun a m => nomatch m⟩
  | [], σ, O, v :: vs, j, h, n, l, e => by
    rw [h.1] at l
    exact absurd l (by simp)
  | none :: Γ, _, O, v :: vs, j, h, n, l, e => by
    obtain ⟨x, r, rfl, h⟩ := h
    obtain ⟨O2, h1, h2, h3⟩ := mask_ok (j := j + 1) (vs := vs) h n (by simpa using l) fun i v' q m => by
      have := e (i + 1) v' (by simpa using q) (by rw [show j + (i + 1) = j + 1 + i by omega]; exact m)
      simpa using this
    refine ⟨O2, ?_, h2, h3⟩
    show RepG K F H ((if j ∈ io then (none : Option T) else none) :: maskG io (j + 1) vs.length Γ) (some v :: vs.map some) O2
    rw [show (if j ∈ io then (none : Option T) else none) = none by split <;> rfl]
    exact ⟨some v, _, rfl, h1⟩
  | some t :: Γ, _, O, v :: vs, j, h, n, l, e => by
    obtain ⟨v', r, o1, o2, rfl, r1, h, rfl⟩ := h
    obtain ⟨O2, h1, h2, h3⟩ := mask_ok (j := j + 1) (vs := vs) h (List.nodup_append.mp n).2.1 (by simpa using l) fun i v' q m => by
      have := e (i + 1) v' (by simpa using q) (by rw [show j + (i + 1) = j + 1 + i by omega]; exact m)
      simpa using this
    show ∃ O2, RepG K F H ((if j ∈ io then some t else none) :: maskG io (j + 1) vs.length Γ) (some v :: vs.map some) O2 ∧ O2.Nodup ∧ ∀ a ∈ O2, a ∈ o1 ++ o2
    by_cases q : j ∈ io
    · rw [if_pos q]
      have e0 := e 0 v rfl q
      cases (show some (some v') = some (some v) from e0)
      refine ⟨o1 ++ O2, ⟨v, _, o1, O2, rfl, r1, h1, rfl⟩, List.nodup_append.mpr ⟨(List.nodup_append.mp n).1, h2, fun a ha b hb => (List.nodup_append.mp n).2.2 a ha b (h3 b hb)⟩, fun a m => ?_⟩
      rcases List.mem_append.mp m with m | m
      · exact List.mem_append_left _ m
      · exact List.mem_append_right _ (h3 a m)
    · rw [if_neg q]
      exact ⟨O2, ⟨some v, _, rfl, h1⟩, h2, fun a m => List.mem_append_right _ (h3 a m)⟩
theorem rep_start {K : PySem.W.Frag} {F H : Hp} : ∀ {ts : List T} {vs : List V} {O : List Addr} (k : Nat), RepTs K F H ts vs O → RepG K F H (ts.map some ++ List.replicate k none) (vs.map some ++ List.replicate k none) O
  | [], _, _, k, h => by
    unfold RepTs at h
    obtain ⟨rfl, rfl⟩ := h
    show RepG K F H (List.replicate k none) (List.replicate k none) []
    induction k with
    | zero => exact ⟨rfl, rfl⟩
    | succ k ih => exact ⟨none, _, rfl, ih⟩
  | t :: ts, _, _, k, h => by
    unfold RepTs at h
    obtain ⟨v, r, o1, o2, rfl, h1, h2, rfl⟩ := h
    exact ⟨v, _, o1, o2, rfl, h1, rep_start k h2, rfl⟩
theorem takes_cx {P : Program} {w : World} {K : PySem.W.Frag} {mg : Str → Option Value} {base : Heap} {N : List Str} {qual : Str} {scope : Scope} {f : Addr} {cdv : Value} {A : Around} {outer : List Env} {s : Shared} {H : Hp} {E : XK} :
    Takes (cxOf (L2.CX P w) P w K mg base N qual scope f cdv A outer s H E) (fun cls d _ H => E cls d H) := takes_of rfl rfl rfl rfl
theorem own_cx {P : Program} {w : World} {K : PySem.W.Frag} {mg : Str → Option Value} {base : Heap} {N : List Str} {qual : Str} {scope : Scope} {f : Addr} {cdv : Value} {A : Around} {outer : List Env} {s : Shared} {H : Hp} {E : XK} :
    PassesOwn (model P w) (A.deeper (envOfC qual scope s.heap.objs.size f cdv)) (envOfC qual scope s.heap.objs.size f cdv) (cxOf (L2.CX P w) P w K mg base N qual scope f cdv A outer s H E).xe := passes_of (X := cxOf (L2.CX P w) P w K mg base N qual scope f cdv A outer s H E) rfl
theorem fn_ok {P : Program} {w : World} {K : PySem.W.Frag} {mg : Str → Option Value} {base : Heap} {x qual : Str} {params : Arguments} {body : List Stmt} {scope : Scope} {f : Addr} {fd : FuncData} {N ps : List Str} {k : Nat} {mb : MS} (io : List Nat)
    (Fd : FunD K x qual params body scope [] [] f fd) (S : FnScope N ps scope) (hN : ps.length ≤ N.length)
    (hbody : ∀ (cdv : Value) (A : Around) (outer : List Env) (s : Shared) (H : Hp) (E : XK), RoomG k (A.deeper (envOfC qual scope s.heap.objs.size f cdv)) →
      VSs (cxOf (L2.CX P w) P w K mg base N qual scope f cdv A outer s H E) (fun cls d _ H => E cls d H) io body mb) :
    FnOkG P w K mg base (L2.CX P w) (k + 1) f fd ps (spM ps.length K (mfOf ps.length N.length io mb)) := by
  refine fnG_of Fd S (fun vs H Q E h => ?_) (fun cdv A outer s H vs Q E hr h => ?_)
  · obtain ⟨_, _, _, e, _⟩ := h
    exact e
  · obtain ⟨F, ts, O, hl, sub, r, nd, x, h⟩ := h
    obtain ⟨t, p, z⟩ := hbody cdv A outer s H E hr
    refine ⟨t, p, ?_⟩
    have hts : ts.length = ps.length := (RepTs.length r).symm.trans hl
    unfold mfOf at h
    rw [if_pos hts] at h
    have r0 := rep_start (K := K) (F := F) (H := H) (N.length - ps.length) r
    rw [show vs.map some ++ List.replicate (N.length - ps.length) none = L2.start N vs by unfold L2.start; rw [hl]] at r0
    refine z _ (L2.start N vs) F H O _ ⟨sub, r0, nd, x⟩ ?_
    have outs : ∀ {Γ' : G} {σ' : St} {F' H' : Hp} {O' : List Addr}, Ok K F' H' Γ' σ' O' → Keeps io (L2.start N vs) σ' → ∃ O2, RepG K F' H' (maskG io 0 ps.length Γ') (vs.map some) O2 ∧ O2.Nodup ∧ ∀ a ∈ O2, a ∈ O' := fun {Γ' σ' F' H' O'} k' kp => by
      have hle : vs.length ≤ σ'.length := by
        rw [kp.1]
        unfold L2.start
        rw [List.length_append, List.length_map]
        omega
      rw [← hl]
      refine mask_ok (j := 0) k'.rep k'.nd hle fun i v e m => ?_
      rw [kp.2 i (by simpa using m)]
      unfold L2.start
      have hi : i < vs.length := (List.getElem?_eq_some_iff.mp e).1
      rw [List.getElem?_append_left (by rw [List.length_map]; exact hi), List.getElem?_map, e]
      rfl
    match q : mb (ts.map some ++ List.replicate (N.length - ps.length) none), h with
    | some (.rt t' Γ'), h =>
      intro v σ' F' H' O' o k' rt n' x' st kp
      obtain ⟨O2, r2, n2, m2⟩ := outs k' kp
      refine h v F' H' O2 o k'.sub r2 rt ?_ (fun a m => ?_) (st.less fun a m => ?_)
      · exact List.nodup_append.mpr ⟨(List.nodup_append.mp n').1, n2, fun a ha b hb => (List.nodup_append.mp n').2.2 a ha b (m2 b hb)⟩
      · rcases List.mem_append.mp m with m | m
        · exact x' a m
        · exact k'.out a (m2 a m)
      · rcases List.mem_append.mp m with m | m
        · exact List.mem_append_left _ m
        · exact List.mem_append_right _ (m2 a m)
    | some (.nx Γ'), h =>
      intro σ' F' H' O' k' st kp
      obtain ⟨O2, r2, n2, m2⟩ := outs k' kp
      exact h .non F' H' O2 [] k'.sub r2 (repFrz .non) n2 (fun a m => k'.out a (m2 a m)) (st.less fun a m => m2 a m)
    | some (.ex c Γ'), h =>
      intro σ' F' H' O' k' st kp
      exact h F' H' k'.sub (st.less fun a m => nomatch m)
end TW

namespace TW
open PySem PySem.Spec L2
/-! ### the reading that a run gives -/
def cnN {α β : Type} (K : PySem.W.Frag) (W : WX) (R : Hp → Hp → α → β → Prop) (m : M α) : St → Hp → (β → Hp → Prop) → Prop := fun σ H Q => ∃ Γ F O, Ok K F H Γ σ O ∧ HitN K W R (m Γ) σ F H O Q
def cnT {α β : Type} (K : PySem.W.Frag) (W : WX) (R : Hp → Hp → α → β → List Addr → Prop) (m : M α) : St → Hp → (β → Hp → Prop) → Prop := fun σ H Q => ∃ Γ F O, Ok K F H Γ σ O ∧ HitT K W R (m Γ) σ F H O Q
section
variable {X : Cx} {W : WX} {io : List Nat} {pos : Pos} {e : Expr}
theorem VD.cn {m : M PyData} (h : VD X W e m) : PE X e (cnN X.K W (rD X.K) m) := by
  obtain ⟨t, p, s⟩ := h
  exact ⟨fun pins sh σ H Q I ⟨Γ, F, O, k, h⟩ => p.run pins sh σ H Q I (s Γ σ F H O Q k h)⟩
theorem VT.cn {m : M T} (h : VT X W e m) : PE X e (cnT X.K W (rT X.K) m) := by
  obtain ⟨t, p, s⟩ := h
  exact ⟨fun pins sh σ H Q I ⟨Γ, F, O, k, h⟩ => p.run pins sh σ H Q I (s Γ σ F H O Q k h)⟩
theorem VB.cn {m : M Bool} (h : VB X W e m) : PT X e (cnN X.K W rB m) := by
  obtain ⟨t, p, s⟩ := h
  exact ⟨fun pins sh σ H Q I ⟨Γ, F, O, k, h⟩ => p.run pins sh σ H Q I (s Γ σ F H O Q k h)⟩
def cnG (K : PySem.W.Frag) (io : List Nat) (g : MG) : TG := fun v σ H Q => ∃ d Γ Γ' F O, Ok K F H Γ σ O ∧ Df K F v d ∧ g d Γ = some Γ' ∧ ∀ σ' O', Ok K F H Γ' σ' O' → Step F H O F H O' → Keeps io σ σ' → Q σ' H
theorem VG.cn {tg : Expr} {g : MG} (h : VG X io tg g) : PG X tg (cnG X.K io g) := by
  obtain ⟨t, p, s⟩ := h
  exact ⟨fun pins sh σ H v u Q I r ⟨d, Γ, Γ', F, O, k, r1, e, h⟩ => p.run pins sh σ H v u Q I r (s d v Γ Γ' σ F H O Q k r1 e h)⟩
end
/-! ### comprehensions -/
def wipeG (Γ : G) : List Nat → G
  | [] => Γ
  | v :: vs => (wipeG Γ vs).set v none
def loopC (g : MG) (mt : M Bool) (me : M T) (own : List Nat) : List PyData → List T → M T
  | [], acc => pM (.lst acc)
  | d :: ds, acc => fun Γ => match g d Γ with
    | none => none
    | some Γ1 => match mt Γ1 with
      | some (.ok true Γ2) => (match me Γ2 with
        | some (.ok t Γ3) => if acc.length < sizeLine then loopC g mt me own ds (acc ++ [t]) (wipeG Γ3 own) else none
        | _ => none)
      | some (.ok false Γ2) => loopC g mt me own ds acc (wipeG Γ2 own)
      | _ => none
def mComp (mi : M (List PyData)) (g : MG) (mt : M Bool) (me : M T) (own : List Nat) : M T := bM mi fun ds Γ => loopC g mt me own ds [] (wipeG Γ own)
theorem Ok.wipe {K : PySem.W.Frag} {F H : Hp} {Γ : G} {σ : St} : ∀ {O : List Addr} (vs : List Nat), Ok K F H Γ σ O → ∃ O', Ok K F H (wipeG Γ vs) (L2.wipe σ vs) O' ∧ Step F H O F H O'
  | O, [], k => ⟨O, k, Step.refl⟩
  | O, v :: vs, k => by
    obtain ⟨O1, k1, s1⟩ := Ok.wipe vs k
    obtain ⟨O2, k2, s2⟩ := k1.drop v none
    exact ⟨O2, k2, s1.trans s2⟩
theorem wipeG_none {Γ : G} {i : Nat} : ∀ {vs : List Nat}, i ∈ vs → i < Γ.length → (wipeG Γ vs)[i]? = some none
  | v :: vs, h, l => by
    have hl : ∀ vs : List Nat, (wipeG Γ vs).length = Γ.length := fun vs => by
      induction vs with
      | nil => rfl
      | cons v vs ih => unfold wipeG; rw [List.length_set, ih]
    unfold wipeG
    by_cases e : v = i
    · subst e
      rw [List.getElem?_set_self (by rw [hl]; exact l)]
    · rw [List.getElem?_set_ne e]
      rcases List.mem_cons.mp h with q | q
      · exact absurd q.symm e
      · exact wipeG_none q l
theorem RepG.same {K : PySem.W.Frag} {F H : Hp} : ∀ {Γ : G} {σ σ' : St} {O : List Addr}, RepG K F H Γ σ O → σ'.length = σ.length → (∀ (i : Nat) (t : T), Γ[i]? = some (some t) → σ'[i]? = σ[i]?) → RepG K F H Γ σ' O
  | [], σ, σ', O, h, l, e => by
    obtain ⟨rfl, rfl⟩ := h
    exact ⟨List.eq_nil_of_length_eq_zero l, rfl⟩
  | none :: Γ, _, σ', O, h, l, e => by
    obtain ⟨x, r, rfl, h⟩ := h
    cases σ' with
    | nil => cases l
    | cons y r' => exact ⟨y, r', rfl, RepG.same h (by simpa using l) fun i t q => by simpa using e (i + 1) t (by simpa using q)⟩
  | some t :: Γ, _, σ', O, h, l, e => by
    obtain ⟨v, r, o1, o2, rfl, h1, h2, rfl⟩ := h
    cases σ' with
    | nil => cases l
    | cons y r' =>
      have e0 : y = some v := by simpa using e 0 t rfl
      subst e0
      exact ⟨v, r', o1, o2, rfl, h1, RepG.same h2 (by simpa using l) fun i t q => by simpa using e (i + 1) t (by simpa using q), rfl⟩
theorem Ok.unwipe {K : PySem.W.Frag} {F H : Hp} {Γ : G} {σ : St} {O : List Addr} {vs : List Nat} (k : Ok K F H Γ (L2.wipe σ vs) O) (h : ∀ i ∈ vs, ∀ t : T, Γ[i]? ≠ some (some t)) : Ok K F H Γ σ O :=
  ⟨k.sub, RepG.same k.rep (wipe_length σ vs).symm fun i t q => (wipe_out fun m => h i m t q).symm, k.nd, k.out⟩
def outOf (n : Nat) (own : List Nat) : List Nat := (List.range n).filter fun i => !own.contains i
theorem out_not {n i : Nat} {own : List Nat} (h : own.contains i = true) : i ∉ outOf n own := fun m => by
  have := (List.mem_filter.mp m).2
  rw [h] at this
  cases this
theorem wipe_keeps {n : Nat} {own : List Nat} {σ σ' : St} (hn : σ.length = n) (k : Keeps (outOf n own) (L2.wipe σ own) σ') : L2.wipe σ' own = L2.wipe σ own := by
  have len : σ'.length = σ.length := k.1.trans (wipe_length σ own)
  apply List.ext_getElem?
  intro i
  by_cases hm : i ∈ own
  · have inn : ∀ {τ : St} {vs : List Nat}, i ∈ vs → i < τ.length → (L2.wipe τ vs)[i]? = some none := by
      intro τ vs
      induction vs with
      | nil => intro h; cases h
      | cons v vs ih =>
        intro h l
        unfold L2.wipe
        by_cases e : v = i
        · subst e
          rw [List.getElem?_set_self (by rw [wipe_length]; exact l)]
        · rw [List.getElem?_set_ne e]
          rcases List.mem_cons.mp h with q | q
          · exact absurd q.symm e
          · exact ih q l
    by_cases l : i < σ.length
    · rw [inn hm (by omega), inn hm l]
    · rw [List.getElem?_eq_none (by rw [wipe_length]; omega), List.getElem?_eq_none (by rw [wipe_length]; omega)]
  · rw [wipe_out hm]
    by_cases l : i < n
    · refine k.2 i ?_
      unfold outOf
      refine List.mem_filter.mpr ⟨List.mem_range.mpr l, ?_⟩
      simp [hm]
    · rw [List.getElem?_eq_none (by omega), List.getElem?_eq_none (by rw [wipe_length]; omega)]
abbrev W0 : WX := fun _ _ _ _ => False
/-- tests of a clause -/
def VTs (X : Cx) (W : WX) (ifs : List Expr) (m : M Bool) : Prop := PTs X ifs (cnN X.K W rB m)
section
variable {X : Cx} {W : WX} {io : List Nat} {pos : Pos} {e : Expr}
theorem vts_nil : VTs X W [] (pM true) := ⟨fun pins s σ H Q I ⟨Γ, F, O, k, h⟩ => pts_nil.run pins s σ H Q I (h true F H O k rfl Step.refl)⟩
theorem vts_one {c : Expr} {mc : M Bool} (h : VB X W c mc) : VTs X W [c] mc := pts_one h.cn
theorem RepTs.append {K : PySem.W.Frag} {F H : Hp} : ∀ {ts us : List T} {vs ws : List V} {o o' : List Addr}, RepTs K F H ts vs o → RepTs K F H us ws o' → RepTs K F H (ts ++ us) (vs ++ ws) (o ++ o')
  | [], us, _, ws, _, o', h, h' => by
    unfold RepTs at h
    obtain ⟨rfl, rfl⟩ := h
    exact h'
  | t :: ts, us, _, ws, _, o', h, h' => by
    unfold RepTs at h
    obtain ⟨v, r, o1, o2, rfl, h1, h2, rfl⟩ := h
    show RepTs K F H (t :: (ts ++ us)) (v :: (r ++ ws)) (o1 ++ o2 ++ o')
    unfold RepTs
    exact ⟨v, _, o1, o2 ++ o', rfl, h1, RepTs.append h2 h', by rw [List.append_assoc]⟩
theorem wipeG_no {Γ : G} {own : List Nat} : ∀ (i : Nat), i ∈ own → ∀ t : T, (wipeG Γ own)[i]? ≠ some (some t) := fun i m t q => by
  have hl : ∀ vs : List Nat, (wipeG Γ vs).length = Γ.length := fun vs => by
    induction vs with
    | nil => rfl
    | cons v vs ih => unfold wipeG; rw [List.length_set, ih]
  by_cases l : i < Γ.length
  · rw [wipeG_none m l] at q
    cases q
  · rw [List.getElem?_eq_none (by rw [hl]; omega)] at q
    cases q
/-- the list that is made, D, stands beside while a step is done that owns O -/
theorem comp_hit {K : PySem.W.Frag} {W : WX} {g : MG} {mt : M Bool} {me : M T} {own : List Nat} {n : Nat} {mi : M (List PyData)} {wi : TI} {Γ : G} {σ : St} {F H : Hp} {O : List Addr} {Q : VK} (k : Ok K F H Γ σ O) (hn : σ.length = n)
    (si : ∀ Γ σ F H O R, Ok K F H Γ σ O → HitN K W (Walks K) (mi Γ) σ F H O R → wi σ H R) (h : HitT K W (rT K) (mComp mi g mt me own Γ) σ F H O Q) :
    tLc wi (cnG K (outOf n own) g) (cnN K W0 rB mt) (cnT K W0 (rT K) me) own σ H Q := by
  refine si Γ σ F H O _ k ?_
  unfold mComp at h
  refine HitT.bindN h fun ds Γ1 J F1 H1 O1 k1 w1 s1 h1 => ?_
  intro D hD
  obtain ⟨O2, k2, s2⟩ := k1.wipe own
  have lO2 := RepG.live k2.rep
  have dD : ∀ a ∈ O2, a ≠ D := fun a m e => lO2 a m (by rw [e]; exact hD)
  have k3 : Ok K F1 (upd H1 D (.lst [])) (wipeG Γ1 own) (L2.wipe σ own) O2 := ⟨fun b x e => by rw [upd_ne (ne_of_none (k2.sub b x e) hD)]; exact k2.sub b x e, RepG.mono (Same.refl _) k2.rep fun a m => upd_ne (dD a m), k2.nd, k2.out⟩
  have st3 : Step F1 H1 O1 F1 (upd H1 D (.lst [])) (D :: ([] ++ O2)) := by
    refine ⟨Same.refl _, fun a ha _ => ⟨upd_ne fun e => ha (by rw [e]; exact hD), id⟩, fun a m => ?_⟩
    rcases List.mem_cons.mp m with rfl | m
    · exact .inr hD
    · exact s2.own a m
  have h3 := HitT.trans h1 st3
  have ndD : (D :: ([] ++ O2)).Nodup := List.nodup_cons.mpr ⟨fun m => dD D m rfl, k2.nd⟩
  refine ⟨fun i m H => m = ds.length - i ∧ i ≤ ds.length ∧ ∃ Γ F O acc vs oa, Ok K F H Γ (L2.wipe σ own) O ∧ (∀ i ∈ own, ∀ t : T, Γ[i]? ≠ some (some t)) ∧ H D = some (.lst vs) ∧ RepTs K F H acc vs oa ∧ (D :: (oa ++ O)).Nodup ∧ (∀ a ∈ D :: oa, F a = none) ∧ Same F1 F ∧
    HitT K W (rT K) (loopC g mt me own (ds.drop i) acc Γ) σ F H (D :: (oa ++ O)) Q,
    ⟨ds.length, by simp, Nat.zero_le _, wipeG Γ1 own, F1, O2, [], [], [], k3, wipeG_no, upd_same, by unfold RepTs; exact ⟨rfl, rfl⟩, ndD, fun a m => (by
      rcases List.mem_cons.mp m with rfl | m
      · exact none_of_same k2.sub hD
      · cases m), Same.refl _, h3⟩, ?_⟩
  rintro i m H4 ⟨rfl, hi, Γ4, F4, O4, acc, vs, oa, k4, wn, hD4, r4, n4, x4, s4, h4⟩
  obtain ⟨wgo, wstop⟩ := w1 i F4 H4 s4 k4.sub
  by_cases hlt : i < ds.length
  · have e : ds[i]? = some ds[i] := List.getElem?_eq_getElem hlt
    have ed : ds.drop i = ds[i] :: ds.drop (i + 1) := List.drop_eq_getElem_cons hlt
    obtain ⟨go, yl⟩ := wgo _ e
    refine .inr ⟨go, fun H' => i + 1 ≤ ds.length ∧ ∃ Γ F O acc vs oa, Ok K F H' Γ (L2.wipe σ own) O ∧ (∀ i ∈ own, ∀ t : T, Γ[i]? ≠ some (some t)) ∧ H' D = some (.lst vs) ∧ RepTs K F H' acc vs oa ∧ (D :: (oa ++ O)).Nodup ∧ (∀ a ∈ D :: oa, F a = none) ∧ Same F1 F ∧
      HitT K W (rT K) (loopC g mt me own (ds.drop (i + 1)) acc Γ) σ F H' (D :: (oa ++ O)) Q, fun H' q => ⟨ds.length - (i + 1), by omega, rfl, q.1, q.2⟩, fun x H5 y => ?_⟩
    obtain ⟨F5, g5, r5⟩ := yl x H5 y
    have k5 := k4.grow g5
    have liveA : ∀ a ∈ D :: oa, H4 a ≠ none := fun a m => by
      rcases List.mem_cons.mp m with rfl | m
      · rw [hD4]; intro z; cases z
      · exact RepTs.live _ _ _ r4 a m
    -- what stays beside through a step that owns O
    have aside : ∀ {Fa Ha Fb Hb : Hp} {Oa Ob : List Addr}, Step Fa Ha Oa Fb Hb Ob → (∀ a ∈ D :: oa, Ha a ≠ none) → (∀ a ∈ D :: oa, a ∉ Oa) → (∀ a ∈ D :: oa, Fa a = none) → Ha D = some (.lst vs) → RepTs K Fa Ha acc vs oa →
        (∀ a ∈ D :: oa, Hb a ≠ none) ∧ (∀ a ∈ D :: oa, a ∉ Ob) ∧ (∀ a ∈ D :: oa, Fb a = none) ∧ Hb D = some (.lst vs) ∧ RepTs K Fb Hb acc vs oa := by
      intro Fa Ha Fb Hb Oa Ob st l d f hd r
      have on := st.on l d
      refine ⟨fun a m => by rw [on a m]; exact l a m, st.apart l d, st.out l d f, (on D (List.mem_cons_self ..)).trans hd, RepTs.mono st.f _ _ _ r fun a m => on a (List.mem_cons_of_mem _ m)⟩
    have dis4 : ∀ a ∈ D :: oa, a ∉ O4 := fun a m q => by
      have n4' : ((D :: oa) ++ O4).Nodup := n4
      exact (List.nodup_append.mp n4').2.2 a m a q rfl
    obtain ⟨l5, d5, f5, hD5, ra5⟩ := aside (g5.step (O := O4)) liveA dis4 x4 hD4 r4
    have h5 := HitT.trans h4 (g5.step (O := D :: (oa ++ O4)))
    rw [ed] at h5
    unfold loopC at h5
    cases q1 : g ds[i] Γ4 with
    | none => rw [q1] at h5; exact h5.elim
    | some Γ6 =>
      rw [q1] at h5
      refine ⟨ds[i], Γ4, Γ6, F5, O4, k5, r5, q1, fun σ6 O6 k6 s6 kp6 => ⟨wipe_keeps hn kp6, Γ6, F5, O6, k6, ?_⟩⟩
      obtain ⟨l6, d6, f6, hD6, ra6⟩ := aside s6 l5 d5 f5 hD5 ra5
      have h6 := HitT.trans h5 (s6.hold (o := D :: oa))
      dsimp only at h6
      match q2 : mt Γ6, h6 with
      | some (.ok b Γ7), h6 =>
        intro b' F7 H7 O7 k7 rb s7
        cases rb
        obtain ⟨l7, d7, f7, hD7, ra7⟩ := aside s7 l6 d6 f6 hD6 ra6
        cases b with
        | false =>
          refine iteF ⟨hlt, ?_⟩
          have h7 := HitT.trans h6 (s7.hold (o := D :: oa))
          obtain ⟨O8, k8, s8⟩ := k7.wipe own
          rw [wipe_keeps hn kp6] at k8
          obtain ⟨l8, d8, f8, hD8, ra8⟩ := aside s8 l7 d7 f7 hD7 ra7
          refine ⟨wipeG Γ7 own, F7, O8, acc, vs, oa, k8, wipeG_no, hD8, ra8, ?_, f8, (((s4.trans g5.f).trans s6.f).trans s7.f), HitT.trans h7 (s8.hold (o := D :: oa))⟩
          have n4' : ((D :: oa) ++ O4).Nodup := n4
          show ((D :: oa) ++ O8).Nodup
          exact List.nodup_append.mpr ⟨(List.nodup_append.mp n4').1, k8.nd, fun a ha b hb q => d8 a ha (by rw [q]; exact hb)⟩
        | true =>
          refine iteT ⟨Γ7, F7, O7, k7, ?_⟩
          have h7 := HitT.trans h6 (s7.hold (o := D :: oa))
          dsimp only at h7
          match q3 : me Γ7, h7 with
          | some (.ok t Γ8), h7 =>
            intro y F8 H8 O8 o8 k8 r8 n8 x8 s8
            dsimp only at h7
            split at h7
            · rename_i hz
              obtain ⟨l8, d8, f8, hD8, ra8⟩ := aside s8 l7 d7 f7 hD7 ra7
              have h8 := HitT.trans h7 (s8.hold (o := D :: oa))
              obtain ⟨O9, k9, s9⟩ := k8.wipe own
              rw [wipe_keeps hn kp6] at k9
              have sub9 : ∀ a ∈ O9, a ∈ O8 := fun a m => (s9.own a m).elim id fun z => absurd z (RepG.live k9.rep a m)
              refine ⟨vs, hD8, by rw [RepTs.length ra8]; exact hz, hlt, ?_⟩
              have hDo : ∀ a ∈ oa ++ o8, a ≠ D := fun a m e => by
                subst e
                rcases List.mem_append.mp m with m | m
                · exact (List.nodup_cons.mp n4).1 (List.mem_append_left _ m)
                · exact d8 a (List.mem_cons_self ..) (List.mem_append_left _ m)
              have hDO : ∀ a ∈ O9, a ≠ D := fun a m e => by
                subst e
                exact d8 a (List.mem_cons_self ..) (List.mem_append_right _ (sub9 a m))
              have n4' : ((D :: oa) ++ O4).Nodup := n4
              have nn : (D :: ((oa ++ o8) ++ O9)).Nodup := by
                refine List.nodup_cons.mpr ⟨fun m => ?_, List.nodup_append.mpr ⟨List.nodup_append.mpr ⟨(List.nodup_cons.mp (List.nodup_append.mp n4').1).2, (List.nodup_append.mp n8).1, fun a ha b hb q => ?_⟩, k9.nd, fun a ha b hb q => ?_⟩⟩
                · rcases List.mem_append.mp m with m | m
                  · exact hDo D m rfl
                  · exact hDO D m rfl
                · subst q
                  exact d8 a (List.mem_cons_of_mem _ ha) (List.mem_append_left _ hb)
                · subst q
                  rcases List.mem_append.mp ha with ha | ha
                  · exact d8 a (List.mem_cons_of_mem _ ha) (List.mem_append_right _ (sub9 a hb))
                  · exact (List.nodup_append.mp n8).2.2 a ha a (sub9 a hb) rfl
              refine ⟨wipeG Γ8 own, F8, O9, acc ++ [t], vs ++ [y], oa ++ o8, ⟨fun b x e => ?_, RepG.mono (Same.refl _) k9.rep fun a m => upd_ne (hDO a m), k9.nd, k9.out⟩, wipeG_no, upd_same, ?_, nn, fun a m => ?_, ((((s4.trans g5.f).trans s6.f).trans s7.f).trans s8.f), ?_⟩
              · rw [upd_ne fun z => by subst z; rw [f8 b (List.mem_cons_self ..)] at e; cases e]
                exact k9.sub b x e
              · refine RepTs.mono (Same.refl _) _ _ _ (RepTs.append ra8 (us := [t]) (ws := [y]) (o' := o8) ?_) fun a m => upd_ne (hDo a m)
                unfold RepTs RepTs
                exact ⟨y, [], o8, [], rfl, r8, ⟨rfl, rfl⟩, by rw [List.append_nil]⟩
              · rcases List.mem_cons.mp m with rfl | m
                · exact f8 a (List.mem_cons_self ..)
                · rcases List.mem_append.mp m with m | m
                  · exact f8 a (List.mem_cons_of_mem _ m)
                  · exact x8 a m
              · refine HitT.trans h8 ⟨Same.refl _, fun a ha no => ⟨upd_ne fun e => no (by rw [e]; exact List.mem_cons_self ..), id⟩, fun a m => ?_⟩
                refine .inl ?_
                rcases List.mem_cons.mp m with rfl | m
                · exact List.mem_cons_self ..
                · rcases List.mem_append.mp m with m | m
                  · rcases List.mem_append.mp m with m | m
                    · exact List.mem_append_left _ (List.mem_cons_of_mem _ m)
                    · exact List.mem_append_right _ (List.mem_append_left _ m)
                  · exact List.mem_append_right _ (List.mem_append_right _ (sub9 a m))
            · exact h7.elim
          | some (.ex c Γ8), h7 => exact h7.elim
          | none, h7 => exact h7.elim
      | some (.ex c Γ7), h6 => exact h6.elim
      | none, h6 => exact h6.elim
  · have e : i = ds.length := by omega
    subst e
    refine .inl ⟨wstop (Nat.le_refl _), ?_⟩
    rw [List.drop_length] at h4
    have k5 := k4.unwipe wn
    refine h4 (.ref D) F4 H4 O4 (D :: oa) k5 ?_ n4 x4 Step.refl
    unfold rT RepT
    exact ⟨D, vs, oa, rfl, hD4, r4, rfl⟩
/-- [e for tg in iter if ..] -/
theorem vt_lc {elt tg iter : Expr} {ifs : List Expr} {scope : Scope} {own : List (Str × Nat)} {mi : M (List PyData)} {g : MG} {mt : M Bool} {me : M T} (hc : X.calm = true) (hN : X.N.Nodup) (hi : VI X W tg iter mi) (ok : BlkOk X.N X.env.scope scope own)
    (hg : ∀ (s : Shared) (H : Hp) (C : Addr) (cl : List (Str × Addr)) (fp : List Addr), VG (X.blk s H scope (compEnvC scope cl C X.env) fp) (outOf X.N.length (own.map (·.2))) tg g)
    (ht : ∀ (s : Shared) (H : Hp) (C : Addr) (cl : List (Str × Addr)) (fp : List Addr), VTs (X.blk s H scope (compEnvC scope cl C X.env) fp) W0 ifs mt)
    (he : ∀ (s : Shared) (H : Hp) (C : Addr) (cl : List (Str × Addr)) (fp : List Addr), VT (X.blk s H scope (compEnvC scope cl C X.env) fp) W0 elt me) (hs : ∀ x, foldedSetIterable iter X.env x = pure x := by intro _; rfl) :
    VT X W (.ListComp elt [⟨tg, iter, ifs, 0⟩] scope pos) (mComp mi g mt me (own.map (·.2))) := by
  obtain ⟨wi, pi, si⟩ := hi
  exact ⟨fun σ H Q => σ.length = X.N.length → tLc wi (cnG X.K (outOf X.N.length (own.map (·.2))) g) (cnN X.K W0 rB mt) (cnT X.K W0 (rT X.K) me) (own.map (·.2)) σ H Q,
    ⟨fun pins sh σ H Q I h => (pe_lc (tt := cnN X.K W0 rB mt) hc hN pi ok (fun s H C cl fp => (hg s H C cl fp).cn) (fun s H C cl fp => ht s H C cl fp) (fun s H C cl fp => (he s H C cl fp).cn) hs).run pins sh σ H Q I (h I.len)⟩,
    fun Γ σ F H O Q k h hn => comp_hit k hn si h⟩
/-- x = [..] on one line, x a local -/
theorem vs_setLc (i : Nat) {y : Str} {py : Pos} {elt tg iter : Expr} {ifs : List Expr} {scope : Scope} {own : List (Str × Nat)} {spos : Pos} {mi : M (List PyData)} {g : MG} {mt : M Bool} {me : M T} (hc : X.calm = true) (hN : X.N.Nodup) (hi : VI X W tg iter mi) (ok : BlkOk X.N X.env.scope scope own)
    (hg : ∀ (s : Shared) (H : Hp) (C : Addr) (cl : List (Str × Addr)) (fp : List Addr), VG (X.blk s H scope (compEnvC scope cl C X.env) fp) (outOf X.N.length (own.map (·.2))) tg g)
    (ht : ∀ (s : Shared) (H : Hp) (C : Addr) (cl : List (Str × Addr)) (fp : List Addr), VTs (X.blk s H scope (compEnvC scope cl C X.env) fp) W0 ifs mt)
    (he : ∀ (s : Shared) (H : Hp) (C : Addr) (cl : List (Str × Addr)) (fp : List Addr), VT (X.blk s H scope (compEnvC scope cl C X.env) fp) W0 elt me)
    (hsw : swapsWith (.ListComp elt [⟨tg, iter, ifs, 0⟩] scope pos) (some (.Name y py)) spos.line X.env = pure true) (hy : X.N[i]? = some y := by rfl) (hyl : X.env.scope.names.lookup y = some .local := by rfl) (hio : i ∉ io := by decide)
    (hs : ∀ x, foldedSetIterable iter X.env x = pure x := by intro _; rfl) :
    VS X W io (.Assign [.Name y py] (.ListComp elt [⟨tg, iter, ifs, 0⟩] scope pos) spos) (mSet i (mComp mi g mt me (own.map (·.2)))) := by
  obtain ⟨wi, pi, si⟩ := hi
  refine ⟨fun D σ H => σ.length = X.N.length → tAsg (tLc wi (cnG X.K (outOf X.N.length (own.map (·.2))) g) (cnN X.K W0 rB mt) (cnT X.K W0 (rT X.K) me) (own.map (·.2))) (gName i) D σ H,
    ⟨fun pins sh σ H D I h => (ps_setLc (tt := cnN X.K W0 rB mt) hc hN hy hyl hsw pi ok (fun s H C cl fp => (hg s H C cl fp).cn) (fun s H C cl fp => ht s H C cl fp) (fun s H C cl fp => (he s H C cl fp).cn) hs).run pins sh σ H D I (h I.len)⟩,
    fun Γ σ F H O D k h hn => ?_⟩
  refine comp_hit k hn si ?_
  unfold mSet at h
  refine HitS.bindT h fun t Γ1 v F1 H1 O1 o k1 r n x s1 h1 => ?_
  unfold storeG at h1
  split at h1
  · rename_i hl
    obtain ⟨O2, k2, s2⟩ := k1.put (v := v) hl r n x
    exact h1 _ F1 H1 O2 k2 s2 (Keeps.set hio)
  · exact h1.elim
/-- .. frozen at once -/
theorem vs_setLcF (i : Nat) {y : Str} {py : Pos} {elt tg iter : Expr} {ifs : List Expr} {scope : Scope} {own : List (Str × Nat)} {spos : Pos} {mi : M (List PyData)} {g : MG} {mt : M Bool} {me : M T} (hc : X.calm = true) (hN : X.N.Nodup) (hi : VI X W tg iter mi) (ok : BlkOk X.N X.env.scope scope own)
    (hg : ∀ (s : Shared) (H : Hp) (C : Addr) (cl : List (Str × Addr)) (fp : List Addr), VG (X.blk s H scope (compEnvC scope cl C X.env) fp) (outOf X.N.length (own.map (·.2))) tg g)
    (ht : ∀ (s : Shared) (H : Hp) (C : Addr) (cl : List (Str × Addr)) (fp : List Addr), VTs (X.blk s H scope (compEnvC scope cl C X.env) fp) W0 ifs mt)
    (he : ∀ (s : Shared) (H : Hp) (C : Addr) (cl : List (Str × Addr)) (fp : List Addr), VT (X.blk s H scope (compEnvC scope cl C X.env) fp) W0 elt me)
    (hsw : swapsWith (.ListComp elt [⟨tg, iter, ifs, 0⟩] scope pos) (some (.Name y py)) spos.line X.env = pure true) (hy : X.N[i]? = some y := by rfl) (hyl : X.env.scope.names.lookup y = some .local := by rfl) (hio : i ∉ io := by decide)
    (hs : ∀ x, foldedSetIterable iter X.env x = pure x := by intro _; rfl) :
    VS X W io (.Assign [.Name y py] (.ListComp elt [⟨tg, iter, ifs, 0⟩] scope pos) spos) (mSet i (mT (mF (mComp mi g mt me (own.map (·.2)))))) := by
  obtain ⟨wi, pi, si⟩ := hi
  refine ⟨fun D σ H => σ.length = X.N.length → tAsg (tLc wi (cnG X.K (outOf X.N.length (own.map (·.2))) g) (cnN X.K W0 rB mt) (cnT X.K W0 (rT X.K) me) (own.map (·.2))) (gName i) D σ H,
    ⟨fun pins sh σ H D I h => (ps_setLc (tt := cnN X.K W0 rB mt) hc hN hy hyl hsw pi ok (fun s H C cl fp => (hg s H C cl fp).cn) (fun s H C cl fp => ht s H C cl fp) (fun s H C cl fp => (he s H C cl fp).cn) hs).run pins sh σ H D I (h I.len)⟩,
    fun Γ σ F H O D k h hn => ?_⟩
  refine comp_hit k hn si ?_
  unfold mSet mT mF at h
  have h := HitS.bindT h fun t Γ1 v F1 H1 O1 o k1 r n x s1 h1 => (show (D.nx (σ.set i (some v)) H1) from by
    unfold storeG at h1
    split at h1
    · rename_i hl
      obtain ⟨O2, k2, s2⟩ := k1.put (v := v) hl r n x
      exact h1 _ F1 H1 O2 k2 s2 (Keeps.set hio)
    · exact h1.elim)
  have h := HitT.bindN (R := rD X.K) h fun d Γ1 v F1 H1 O1 k1 r s1 h1 => h1 v F1 H1 O1 [] k1 (repFrz r) k1.nd (fun _ m => nomatch m) Step.refl
  refine HitN.bindT h fun t Γ1 v F1 H1 O1 o k1 r n x s1 h1 => ?_
  unfold oM at h1
  cases q : fz t with
  | none => rw [q] at h1; exact h1.elim
  | some d =>
    rw [q] at h1
    obtain ⟨F2, k2, r2, s2⟩ := k1.ice r n x q
    exact h1 v F2 H1 O1 k2 r2 s2
end
end TW

namespace TW
open PySem PySem.Spec L2
/-! ### built-ins -/
def Call1 (X : Cx) (fo : Value) (g : PyData → Option PyData) : Prop := ∃ r : List V → Hp → VK → Prop, CallR X fo r ∧ ∀ a d, g a = some d → ∀ x F H Q, Same F H → rP X.K F H a x → (∀ v F' H', Grow F H F' H' → Df X.K F' v d → Q v H') → r [x] H Q
def Call1T (X : Cx) (fo : Value) (g : PyData → Option (List PyData)) : Prop := ∃ r : List V → Hp → VK → Prop, CallR X fo r ∧ ∀ a ds, g a = some ds → ∀ x F H Q, Same F H → rP X.K F H a x →
  (∀ p vs F' H', Grow F H F' H' → H' p = none → DfAll X.K F' vs ds → Q (.ref p) (upd H' p (.lst vs))) → r [x] H Q
def Call2 (X : Cx) (fo : Value) (g : OpF) : Prop := ∃ r : List V → Hp → VK → Prop, CallR X fo r ∧ ∀ a b d, g a b = some d → ∀ x y F H Q, Same F H → Df X.K F x a → Df X.K F y b → (∀ v F' H', Grow F H F' H' → Df X.K F' v d → Q v H') → r [x, y] H Q
def mC1 (g : PyData → Option PyData) (m : M PyData) : M PyData := bM m fun d => oM (g d)
def mC1T (g : PyData → Option (List PyData)) (m : M PyData) : M T := bM m fun d => oM ((g d).map fun ds => .lst (ds.map .frz))
def mC2 (g : OpF) (ma mb : M PyData) : M PyData := mOp g ma mb
section
variable {X : Cx} {W : WX} {io : List Nat} {pos p : Pos} {e a b : Expr} {x : Str} {m ma mb : M PyData}
theorem c1_hit {fo : Value} {g : PyData → Option PyData} (hc : Call1 X fo g) (h : VP X W e m) (hst : starEach [e] X.env = (false, eval e X.env) :: starEach [] X.env) :
    ∃ r t, CallR X fo r ∧ PA X [e] t ∧ ∀ Γ σ F H O Q, Ok X.K F H Γ σ O → HitN X.K W (rD X.K) (mC1 g m Γ) σ F H O Q → tCB r t σ H Q := by
  obtain ⟨r, hr, f⟩ := hc
  obtain ⟨t, p, s⟩ := h
  refine ⟨r, _, hr, pa_cons p pa_nil hst, fun Γ σ F H O Q k h => s Γ σ F H O _ k ?_⟩
  unfold mC1 at h
  refine HitN.bind h fun d Γ1 v F1 H1 O1 k1 r1 s1 h1 => ?_
  obtain ⟨d', e', q⟩ := HitN.fin h1 k1
  exact f d d' e' v F1 H1 Q k1.sub r1 q
theorem c1_hitT {fo : Value} {g : PyData → Option (List PyData)} (hc : Call1T X fo g) (h : VP X W e m) (hst : starEach [e] X.env = (false, eval e X.env) :: starEach [] X.env) :
    ∃ r t, CallR X fo r ∧ PA X [e] t ∧ ∀ Γ σ F H O Q, Ok X.K F H Γ σ O → HitT X.K W (rT X.K) (mC1T g m Γ) σ F H O Q → tCB r t σ H Q := by
  obtain ⟨r, hr, f⟩ := hc
  obtain ⟨t, p, s⟩ := h
  refine ⟨r, _, hr, pa_cons p pa_nil hst, fun Γ σ F H O Q k h => s Γ σ F H O _ k ?_⟩
  unfold mC1T at h
  refine HitT.bindN h fun d Γ1 v F1 H1 O1 k1 r1 s1 h1 => ?_
  unfold oM at h1
  cases q : g d with
  | none => rw [q] at h1; exact h1.elim
  | some ds =>
    rw [q] at h1
    refine f d ds q v F1 H1 Q k1.sub r1 fun p vs F2 H2 g2 hp r2 => ?_
    exact HitT.newL (o := []) (HitT.trans h1 (g2.step (O := O1))) (k1.grow g2) hp (of_ice r2) (k1.grow g2).nd (fun _ m => nomatch m)
theorem vd_c1B {id : String} {g : PyData → Option PyData} (hc : Call1 X (.builtin id) g) (hm : X.mg x = none) (hv : bootBuiltins x = some (.builtin id)) (h : VP X W e m) (hg : Gl X x := by rfl) (hst : starEach [e] X.env = (false, eval e X.env) :: starEach [] X.env := by rfl) (hn : x ≠ "__name__" := by decide) (hd : (x == ("__debug__" : Str)) = false := by decide) :
    VD X W (.Call (.Name x p) [e] [] pos) (mC1 g m) := by
  obtain ⟨r, t, h1, h2, h3⟩ := c1_hit hc h hst
  exact ⟨_, pe_callB h1 hg hm hv h2 hn hd hst, h3⟩
theorem vd_c1Y {id : String} {g : PyData → Option PyData} (hc : Call1 X (.type id) g) (hm : X.mg x = none) (hv : bootBuiltins x = some (.type id)) (h : VP X W e m) (hg : Gl X x := by rfl) (hst : starEach [e] X.env = (false, eval e X.env) :: starEach [] X.env := by rfl) (hn : x ≠ "__name__" := by decide) (hd : (x == ("__debug__" : Str)) = false := by decide) :
    VD X W (.Call (.Name x p) [e] [] pos) (mC1 g m) := by
  obtain ⟨r, t, h1, h2, h3⟩ := c1_hit hc h hst
  exact ⟨_, pe_callTy h1 hg hm hv h2 hn hd hst, h3⟩
theorem vt_c1B {id : String} {g : PyData → Option (List PyData)} (hc : Call1T X (.builtin id) g) (hm : X.mg x = none) (hv : bootBuiltins x = some (.builtin id)) (h : VP X W e m) (hg : Gl X x := by rfl) (hst : starEach [e] X.env = (false, eval e X.env) :: starEach [] X.env := by rfl) (hn : x ≠ "__name__" := by decide) (hd : (x == ("__debug__" : Str)) = false := by decide) :
    VT X W (.Call (.Name x p) [e] [] pos) (mC1T g m) := by
  obtain ⟨r, t, h1, h2, h3⟩ := c1_hitT hc h hst
  exact ⟨_, pe_callB h1 hg hm hv h2 hn hd hst, h3⟩
theorem vt_c1Y {id : String} {g : PyData → Option (List PyData)} (hc : Call1T X (.type id) g) (hm : X.mg x = none) (hv : bootBuiltins x = some (.type id)) (h : VP X W e m) (hg : Gl X x := by rfl) (hst : starEach [e] X.env = (false, eval e X.env) :: starEach [] X.env := by rfl) (hn : x ≠ "__name__" := by decide) (hd : (x == ("__debug__" : Str)) = false := by decide) :
    VT X W (.Call (.Name x p) [e] [] pos) (mC1T g m) := by
  obtain ⟨r, t, h1, h2, h3⟩ := c1_hitT hc h hst
  exact ⟨_, pe_callTy h1 hg hm hv h2 hn hd hst, h3⟩
theorem vd_c2B {id : String} {g : OpF} (hc : Call2 X (.builtin id) g) (hm : X.mg x = none) (hv : bootBuiltins x = some (.builtin id)) (ha : VD X W a ma) (hb : VD X W b mb) (hg : Gl X x := by rfl) (hst : starEach [a, b] X.env = (false, eval a X.env) :: starEach [b] X.env := by rfl) (hst2 : starEach [b] X.env = (false, eval b X.env) :: starEach [] X.env := by rfl)
    (hn : x ≠ "__name__" := by decide) (hd : (x == ("__debug__" : Str)) = false := by decide) : VD X W (.Call (.Name x p) [a, b] [] pos) (mC2 g ma mb) := by
  obtain ⟨r, hr, f⟩ := hc
  obtain ⟨ta, pa, sa⟩ := ha
  obtain ⟨tb, pb, sb⟩ := hb
  refine ⟨_, pe_callB hr hg hm hv (pa_cons pa (pa_cons pb pa_nil hst2) hst) hn hd hst (by rw [hst2] <;> rfl), fun Γ σ F H O Q k h => sa Γ σ F H O _ k ?_⟩
  unfold mC2 mOp at h
  refine HitN.bind h fun da Γ1 v F1 H1 O1 k1 r1 s1 h1 => sb Γ1 σ F1 H1 O1 _ k1 ?_
  refine HitN.bind h1 fun db Γ2 w F2 H2 O2 k2 r2 s2 h2 => ?_
  obtain ⟨d, e, q⟩ := HitN.fin h2 k2
  exact f da db d e v w F2 H2 Q k2.sub (Df.mono s2.f _ _ r1) r2 q
end
def lenF : PyData → Option PyData
  | .list ds => some (.int ds.length)
  | .tuple ds => some (.int ds.length)
  | .str z => if z.length ≤ sizeLine then some (.int z.length) else none
  | _ => none
def intsF : List PyData → Option (List Int)
  | [] => some []
  | .int i :: ds => (intsF ds).map (i :: ·)
  | _ => none
def bolsF : List PyData → Option (List Bool)
  | [] => some []
  | .bool i :: ds => (bolsF ds).map (i :: ·)
  | _ => none
theorem ints_vs {K : PySem.W.Frag} {F : Hp} : ∀ {vs : List V} {ds : List PyData} {ns : List Int}, DfAll K F vs ds → intsF ds = some ns → vs = ns.map V.int
  | _, _, ns, .nil, e => by cases e; rfl
  | _, d :: ds, ns, .cons h r, e => by
    cases d with
    | int i =>
      unfold intsF at e
      cases q : intsF ds with
      | none => rw [q] at e; cases e
      | some ms =>
        rw [q] at e
        cases e
        cases h
        rw [ints_vs r q]
        rfl
    | _ => cases e
theorem bols_vs {K : PySem.W.Frag} {F : Hp} : ∀ {vs : List V} {ds : List PyData} {ns : List Bool}, DfAll K F vs ds → bolsF ds = some ns → vs = ns.map V.bl
  | _, _, ns, .nil, e => by cases e; rfl
  | _, d :: ds, ns, .cons h r, e => by
    cases d with
    | bool i =>
      unfold bolsF at e
      cases q : bolsF ds with
      | none => rw [q] at e; cases e
      | some ms =>
        rw [q] at e
        cases e
        cases h
        rw [bols_vs r q]
        rfl
    | _ => cases e
/-- a list that is looked at -/
theorem rP.list {K : PySem.W.Frag} {F H : Hp} {ds : List PyData} {v : V} (s : Same F H) (h : rP K F H (.list ds) v) : ∃ a vs, v = .ref a ∧ H a = some (.lst vs) ∧ DfAll K F vs ds := by
  rcases h with h | ⟨a, vs, ds', rfl, e, ha, hd⟩
  · cases h with
    | lst h1 h2 => exact ⟨_, _, rfl, s _ _ h1, h2⟩
  · cases e
    exact ⟨a, vs, rfl, ha, hd⟩
theorem rP.df {K : PySem.W.Frag} {F H : Hp} {d : PyData} {v : V} (h : rP K F H d v) (n : ∀ ds, d ≠ .list ds) : Df K F v d := by
  rcases h with h | ⟨a, vs, ds', rfl, e, ha, hd⟩
  · exact h
  · exact absurd e (n ds')
section
variable {X : Cx}
theorem c_len : Call1 X (.builtin "len") lenF := by
  refine ⟨_, call_len, fun a d e x F H Q s r q => ?_⟩
  unfold lenF at e
  split at e
  · cases e
    obtain ⟨p, vs, rfl, hp, h2⟩ := rP.list s r
    exact ⟨_, _, rfl, .inl ⟨vs, .inl (.inl hp), (DfAll.length h2).symm⟩, q _ F H (Grow.refl s) (.int _)⟩
  · cases e
    cases r.df (fun _ z => nomatch z) with
    | tup h1 h2 => exact ⟨_, _, rfl, .inr ⟨_, tupT s h1, (DfAll.length h2).symm⟩, q _ F H (Grow.refl s) (.int _)⟩
  · split at e
    · rename_i hz
      cases e
      cases r.df (fun _ z => nomatch z)
      exact ⟨_, _, rfl, ⟨hz, rfl⟩, q _ F H (Grow.refl s) (.int _)⟩
    · cases e
  · cases e
def allF : PyData → Option PyData
  | .list ds => (bolsF ds).map fun bs => .bool (bs.all id)
  | _ => none
def anyF : PyData → Option PyData
  | .list ds => (bolsF ds).map fun bs => .bool (bs.any id)
  | _ => none
def sumF : PyData → Option PyData
  | .list ds => (intsF ds).map fun ns => .int ns.sum
  | _ => none
theorem c_all (hc : X.calm = true) : Call1 X (.builtin "all") allF := by
  refine ⟨_, cr_all hc, fun a d e x F H Q s r q => ?_⟩
  unfold allF at e
  split at e
  · rename_i ds
    cases q1 : bolsF ds with
    | none => rw [q1] at e; cases e
    | some bs =>
      rw [q1] at e
      cases e
      obtain ⟨p, vs, rfl, hp, h2⟩ := rP.list s r
      exact ⟨_, bs, rfl, .inl (.inl (by rw [← bols_vs h2 q1]; exact hp)), q _ F H (Grow.refl s) (.bl _)⟩
  · cases e
theorem c_any (hc : X.calm = true) : Call1 X (.builtin "any") anyF := by
  refine ⟨_, cr_any hc, fun a d e x F H Q s r q => ?_⟩
  unfold anyF at e
  split at e
  · rename_i ds
    cases q1 : bolsF ds with
    | none => rw [q1] at e; cases e
    | some bs =>
      rw [q1] at e
      cases e
      obtain ⟨p, vs, rfl, hp, h2⟩ := rP.list s r
      exact ⟨_, bs, rfl, .inl (.inl (by rw [← bols_vs h2 q1]; exact hp)), q _ F H (Grow.refl s) (.bl _)⟩
  · cases e
theorem c_sum (hc : X.calm = true) : Call1 X (.builtin "sum") sumF := by
  refine ⟨_, cr_sum hc, fun a d e x F H Q s r q => ?_⟩
  unfold sumF at e
  split at e
  · rename_i ds
    cases q1 : intsF ds with
    | none => rw [q1] at e; cases e
    | some bs =>
      rw [q1] at e
      cases e
      obtain ⟨p, vs, rfl, hp, h2⟩ := rP.list s r
      exact ⟨_, bs, rfl, .inl (.inl (by rw [← ints_vs h2 q1]; exact hp)), q _ F H (Grow.refl s) (.int _)⟩
  · cases e
def max2F : OpF
  | .int i, .int j => some (.int (if j > i then j else i))
  | _, _ => none
def min2F : OpF
  | .int i, .int j => some (.int (if j < i then j else i))
  | _, _ => none
theorem c_max2 (hc : X.calm = true) : Call2 X (.builtin "max") max2F := by
  refine ⟨_, call_max2 hc, fun a b d e x y F H Q s ra rb q => ?_⟩
  unfold max2F at e
  split at e
  · cases e
    cases ra
    cases rb
    exact ⟨_, _, rfl, q _ F H (Grow.refl s) (.int _)⟩
  · cases e
theorem c_min2 (hc : X.calm = true) : Call2 X (.builtin "min") min2F := by
  refine ⟨_, call_min2 hc, fun a b d e x y F H Q s ra rb q => ?_⟩
  unfold min2F at e
  split at e
  · cases e
    cases ra
    cases rb
    exact ⟨_, _, rfl, q _ F H (Grow.refl s) (.int _)⟩
  · cases e
def absF : PyData → Option PyData
  | .int i => some (.int (if i < 0 then -i else i))
  | _ => none
theorem c_abs : Call1 X (.builtin "abs") absF := by
  refine ⟨_, call_abs, fun a d e x F H Q s r q => ?_⟩
  unfold absF at e
  split at e
  · cases e
    cases r.df (fun _ z => nomatch z)
    exact ⟨_, rfl, q _ F H (Grow.refl s) (.int _)⟩
  · cases e
def intF : PyData → Option PyData
  | .int i => some (.int i)
  | .bool b => some (.int (if b = true then 1 else 0))
  | _ => none
theorem c_int : Call1 X (.type "int") intF := by
  refine ⟨_, call_int1, fun a d e x F H Q s r q => ?_⟩
  unfold intF at e
  split at e
  · cases e
    cases r.df (fun _ z => nomatch z)
    exact .inl ⟨_, rfl, q _ F H (Grow.refl s) (.int _)⟩
  · cases e
    cases r.df (fun _ z => nomatch z)
    exact .inr ⟨_, rfl, q _ F H (Grow.refl s) (.int _)⟩
  · cases e
def tupF : PyData → Option PyData
  | .list ds => some (.tuple ds)
  | .tuple ds => some (.tuple ds)
  | _ => none
theorem c_tuple : Call1 X (.type "tuple") tupF := by
  refine ⟨_, call_tuple_of, fun a d e x F H Q s r q => ?_⟩
  unfold tupF at e
  split at e
  · cases e
    obtain ⟨p, vs, rfl, hp, h2⟩ := rP.list s r
    refine ⟨_, vs, rfl, .inl ⟨.inl (.inl hp), fun l hl => ?_⟩⟩
    obtain ⟨g, z⟩ := grow_tup s hl h2
    exact q _ _ _ g z
  · cases e
    have r := r.df (fun _ z => nomatch z)
    cases r with
    | tup h1 h2 => exact ⟨_, _, rfl, .inr ⟨tupT s h1, q _ F H (Grow.refl s) (.tup h1 h2)⟩⟩
  · cases e
theorem c_list : Call1T X (.type "list") itemsF := by
  refine ⟨_, call_list_of, fun a ds e x F H Q s r q => ?_⟩
  unfold itemsF at e
  split at e
  · cases e
    obtain ⟨p, vs, rfl, hp, h2⟩ := rP.list s r
    exact ⟨_, vs, rfl, .inl (.inl (.inl hp)), fun l hl => q l vs F H (Grow.refl s) hl h2⟩
  · cases e
    have r := r.df (fun _ z => nomatch z)
    cases r with
    | tup h1 h2 => exact ⟨_, _, rfl, .inr (tupT s h1), fun l hl => q l _ F H (Grow.refl s) hl h2⟩
  · cases e
/-! isinstance -/
def tyName : PyData → String
  | .none => "NoneType"
  | .bool _ => "bool"
  | .int _ => "int"
  | .str _ => "str"
  | .list _ => "list"
  | .tuple _ => "tuple"
  | .dict _ => "dict"
def instF (n : String) (d : PyData) : Option PyData := match d with
  | .dict ((.str _, _) :: _) => none
  | d => (kitB (tyName d) n).map .bool
theorem df_ty {K : PySem.W.Frag} {F H : Hp} {v : V} {d : PyData} (s : Same F H) (h : Df K F v d) (hd : ∀ c x l, d ≠ .dict ((.str c, x) :: l)) : TyX K H v (.type (tyName d)) := by
  cases h with
  | non => exact .base .non
  | bl b => exact .base (.bl b)
  | int i => exact .base (.int i)
  | str x => exact .base (.str x)
  | lst h1 h2 => exact .base (.lst (s _ _ h1))
  | tup h1 h2 => exact .base (.tup (s _ _ h1))
  | dic h1 => exact .base (.dK (s _ _ h1))
  | dc1 h1 => exact .base (.dK (s _ _ h1))
  | exn h1 => exact absurd rfl (hd _ _ _)
variable {W : WX} {pos p p2 : Pos} {e : Expr} {m : M PyData} {y : Str} {n : String}
theorem vd_isi (n : String) (hm : X.mg "isinstance" = none) (hmy : X.mg y = none) (hv : bootBuiltins y = some (.type n)) (h : VD X W e m) (hg : Gl X "isinstance" := by rfl) (hgy : Gl X y := by rfl)
    (hst : starEach [e, .Name y p2] X.env = (false, eval e X.env) :: starEach [.Name y p2] X.env := by rfl) (hst2 : starEach [.Name y p2] X.env = (false, eval (.Name y p2) X.env) :: starEach [] X.env := by rfl) (hn : y ≠ "__name__" := by decide) (hd : (y == ("__debug__" : Str)) = false := by decide) :
    VD X W (.Call (.Name "isinstance" p) [e, .Name y p2] [] pos) (mC1 (instF n) m) := by
  obtain ⟨t, pe, s⟩ := h
  refine ⟨_, pe_callB call_isi hg hm (by decide +kernel) (pa_cons pe (pa_cons (pe_bltn (v := V.ty n) hgy hmy hv rfl hn hd) pa_nil hst2) hst) (by decide) (by decide) hst (by rw [hst2] <;> rfl), fun Γ σ F H O Q k h => s Γ σ F H O _ k ?_⟩
  unfold mC1 at h
  refine HitN.bind h fun d Γ1 v F1 H1 O1 k1 r1 s1 h1 => ?_
  obtain ⟨d', e', q⟩ := HitN.fin h1 k1
  have hne : ∀ c x l, d ≠ .dict ((.str c, x) :: l) := fun c x l z => by subst z; cases e'
  have e' : (kitB (tyName d) n).map PyData.bool = some d' := by
    unfold instF at e'
    split at e'
    · exact absurd rfl (hne _ _ _)
    · exact e'
  cases q1 : kitB (tyName d) n with
  | none => rw [q1] at e'; cases e'
  | some b =>
    rw [q1] at e'
    cases e'
    exact ⟨v, .ty n, _, _, b, rfl, .ty n, df_ty k1.sub r1 hne, kit_ty q1, q _ F1 H1 (Grow.refl k1.sub) (.bl _)⟩
end

/-! ### owned lists change -/
section
variable {K : PySem.W.Frag} {F H : Hp}
theorem Ok.putL {Γ : G} {σ : St} {O o : List Addr} {i : Nat} {a : Addr} {vs vs' : List V} {ts' : List T} (k : Ok K F H (Γ.set i none) σ O) (e : σ[i]? = some (some (.ref a))) (ha : H a = some (.lst vs)) (r : RepTs K F H ts' vs' o) (n : (a :: (o ++ O)).Nodup) (x : ∀ b ∈ a :: o, F b = none) :
    ∃ O2, Ok K F (upd H a (.lst vs')) (Γ.set i (some (.lst ts'))) σ O2 ∧ Step F H (a :: (o ++ O)) F (upd H a (.lst vs')) O2 := by
  have hO : ∀ b ∈ O, b ≠ a := fun b m e => (List.nodup_cons.mp n).1 (by rw [← e]; exact List.mem_append_right _ m)
  have ho : ∀ b ∈ o, b ≠ a := fun b m e => (List.nodup_cons.mp n).1 (by rw [← e]; exact List.mem_append_left _ m)
  have k1 : Ok K F (upd H a (.lst vs')) (Γ.set i none) σ O := ⟨fun b z q => by
    rw [upd_ne fun w => by subst w; rw [x b (List.mem_cons_self ..)] at q; cases q]
    exact k.sub b z q, RepG.mono (Same.refl _) k.rep fun b m => upd_ne (hO b m), k.nd, k.out⟩
  have r1 : RepT K F (upd H a (.lst vs')) (.lst ts') (.ref a) (a :: o) := by
    unfold RepT
    exact ⟨a, vs', o, rfl, upd_same, RepTs.mono (Same.refl _) _ _ _ r fun b m => upd_ne (ho b m), rfl⟩
  have n2 : ((a :: o) ++ O).Nodup := n
  obtain ⟨O2, k2, s2⟩ := k1.back (t := .lst ts') e r1 n2 x
  rw [List.set_set] at k2
  refine ⟨O2, k2, ⟨Same.refl _, fun b hb ho => ⟨upd_ne fun e => ho (by rw [e]; exact List.mem_cons_self ..), id⟩, fun b m => ?_⟩⟩
  exact (s2.own b m).imp (fun z => z) fun z => absurd z (RepG.live k2.rep b m)
theorem RepTs.setF {d : PyData} {v : V} (r : Df K F v d) : ∀ {ts : List T} {vs : List V} {o : List Addr} (j : Nat), RepTs K F H ts vs o → o.Nodup → ∃ o2, RepTs K F H (ts.set j (.frz d)) (vs.set j v) o2 ∧ o2.Nodup ∧ ∀ b ∈ o2, b ∈ o
  | [], _, o, j, h, n => by
    unfold RepTs at h
    obtain ⟨rfl, rfl⟩ := h
    exact ⟨[], by unfold List.set RepTs; exact ⟨rfl, rfl⟩, n, fun _ m => m⟩
  | t :: ts, _, _, 0, h, n => by
    unfold RepTs at h
    obtain ⟨v', r', o1, o2, rfl, h1, h2, rfl⟩ := h
    refine ⟨o2, ?_, (List.nodup_append.mp n).2.1, fun b m => List.mem_append_right _ m⟩
    show RepTs K F H (.frz d :: ts) (v :: r') o2
    unfold RepTs
    exact ⟨v, r', [], o2, rfl, repFrz r, h2, rfl⟩
  | t :: ts, _, _, j + 1, h, n => by
    unfold RepTs at h
    obtain ⟨v', r', o1, o2, rfl, h1, h2, rfl⟩ := h
    obtain ⟨o3, g1, g2, g3⟩ := RepTs.setF r j h2 (List.nodup_append.mp n).2.1
    refine ⟨o1 ++ o3, ?_, List.nodup_append.mpr ⟨(List.nodup_append.mp n).1, g2, fun a ha b hb => (List.nodup_append.mp n).2.2 a ha b (g3 b hb)⟩, fun b m => ?_⟩
    · show RepTs K F H (t :: ts.set j (.frz d)) (v' :: r'.set j v) (o1 ++ o3)
      unfold RepTs
      exact ⟨v', _, o1, o3, rfl, h1, g1, rfl⟩
    · rcases List.mem_append.mp m with m | m
      · exact List.mem_append_left _ m
      · exact List.mem_append_right _ (g3 b m)
theorem RepTs.erase : ∀ {ts : List T} {vs : List V} {o : List Addr} (j : Nat), RepTs K F H ts vs o → o.Nodup → ∃ o2, RepTs K F H (ts.eraseIdx j) (vs.eraseIdx j) o2 ∧ o2.Nodup ∧ ∀ b ∈ o2, b ∈ o
  | [], _, o, j, h, n => by
    unfold RepTs at h
    obtain ⟨rfl, rfl⟩ := h
    exact ⟨[], by unfold List.eraseIdx RepTs; exact ⟨rfl, rfl⟩, n, fun _ m => m⟩
  | t :: ts, _, _, 0, h, n => by
    unfold RepTs at h
    obtain ⟨v', r', o1, o2, rfl, h1, h2, rfl⟩ := h
    exact ⟨o2, h2, (List.nodup_append.mp n).2.1, fun b m => List.mem_append_right _ m⟩
  | t :: ts, _, _, j + 1, h, n => by
    unfold RepTs at h
    obtain ⟨v', r', o1, o2, rfl, h1, h2, rfl⟩ := h
    obtain ⟨o3, g1, g2, g3⟩ := RepTs.erase j h2 (List.nodup_append.mp n).2.1
    refine ⟨o1 ++ o3, ?_, List.nodup_append.mpr ⟨(List.nodup_append.mp n).1, g2, fun a ha b hb => (List.nodup_append.mp n).2.2 a ha b (g3 b hb)⟩, fun b m => ?_⟩
    · show RepTs K F H (t :: ts.eraseIdx j) (v' :: r'.eraseIdx j) (o1 ++ o3)
      unfold RepTs
      exact ⟨v', _, o1, o3, rfl, h1, g1, rfl⟩
    · rcases List.mem_append.mp m with m | m
      · exact List.mem_append_left _ m
      · exact List.mem_append_right _ (g3 b m)
theorem RepTs.dropLast {ts : List T} {vs : List V} {o : List Addr} (h : RepTs K F H ts vs o) (n : o.Nodup) : ∃ o2, RepTs K F H ts.dropLast vs.dropLast o2 ∧ o2.Nodup ∧ ∀ b ∈ o2, b ∈ o := by
  obtain ⟨o2, h1, h2, h3⟩ := RepTs.erase (ts.length - 1) h n
  rw [show ts.eraseIdx (ts.length - 1) = ts.dropLast from List.eraseIdx_length_sub_one, ← RepTs.length h, show vs.eraseIdx (vs.length - 1) = vs.dropLast from List.eraseIdx_length_sub_one] at h1
  exact ⟨o2, h1, h2, h3⟩
end
section
variable {X : Cx} {W : WX} {io : List Nat} {pos p p2 p3 : Pos} {e k : Expr} {x : Str} {m mk : M PyData}
/-- a slot that owns a list: where it stands -/
theorem Ok.lstAt {K : PySem.W.Frag} {F H : Hp} {Γ : G} {σ : St} {O : List Addr} {i : Nat} {ts : List T} {v : V} (k : Ok K F H Γ σ O) (e : Γ[i]? = some (some (.lst ts))) (ev : σ[i]? = some (some v)) :
    ∃ a vs o O', v = .ref a ∧ H a = some (.lst vs) ∧ RepTs K F H ts vs o ∧ Ok K F H (Γ.set i none) σ O' ∧ (a :: (o ++ O')).Nodup ∧ (∀ b ∈ a :: o, F b = none) ∧ Step F H O F H (a :: (o ++ O')) := by
  obtain ⟨v', o, O', e1, r, k1, n, x, s⟩ := k.take e
  rw [ev] at e1
  cases e1
  unfold RepT at r
  obtain ⟨a, vs, o', rfl, ha, hr, rfl⟩ := r
  exact ⟨a, vs, o', O', rfl, ha, hr, k1, n, x, s⟩
/-- x[k] = e -/
def setIx (i : Nat) (d : PyData) (kd : PyData) (Γ : G) : Option G := match kd, Γ[i]? with
  | .int j, some (some (.lst ts)) => (match ixN ts.length j with
    | some l => some (Γ.set i (some (.lst (ts.set l (.frz d)))))
    | none => none)
  | _, _ => none
def mSetIx (i : Nat) (m mk : M PyData) : MS := bS m fun d Γ => match Γ[i]? with
  | some (some _) => bS mk (fun kd Γ => (setIx i d kd Γ).map .nx) Γ
  | _ => none
theorem vs_setIx (i : Nat) (he : VD X W e m) (hk : VD X W k mk) (hN : X.N[i]? = some x := by rfl) (hv : Vis X.env.scope x := by first | exact Or.inl rfl | exact Or.inr (Or.inl rfl) | exact Or.inr (Or.inr rfl)) (hd : (x == ("__debug__" : Str)) = false := by decide)
    (hcd : (x == ("__classdict__" : Str)) = false := by decide)
    (ha : ∀ v, assign (.Subscript (.Name x p) k p2) X.env v = (do
      let ov ← holding [v] (eval (.Name x p) X.env)
      let iv ← holding [v, ov] (eval k X.env)
      standAt p2
      holding [v, ov, iv] (setItem ov iv v)
      release [v, ov, iv] []) := by intro _; rfl)
    (hs : swapsWithSole [.Subscript (.Name x p) k p2] e pos.line X.env = pure false := by rfl) (hw : swappedStores [.Subscript (.Name x p) k p2] e X.env = pure none := by rfl)
    (h1 : (assignEach [.Subscript (.Name x p) k p2] X.env).map (·.2) = [assign (.Subscript (.Name x p) k p2) X.env] := by rfl) : VS X W io (.Assign [.Subscript (.Name x p) k p2] e pos) (mSetIx i m mk) := by
  obtain ⟨t, pe, s⟩ := he
  obtain ⟨tk, pk, sk⟩ := hk
  refine ⟨_, ps_asg pe (pg_sub (pe_var hN hv hd hcd) pk set_list ha) hs hw h1, fun Γ σ F H O D k h => s Γ σ F H O _ k ?_⟩
  unfold mSetIx at h
  refine HitS.bindN h fun d Γ1 v F1 H1 O1 k1 r1 s1 h1 => ?_
  split at h1
  · rename_i t0 e0
    obtain ⟨v0, _, _, ev0, _⟩ := k1.take e0
    refine ⟨v0, ev0, sk Γ1 σ F1 H1 O1 _ k1 ?_⟩
    refine HitS.bindN h1 fun kd Γ2 w F2 H2 O2 k2 r2 s2 h2 => ?_
    unfold setIx at h2
    split at h2
    · rename_i j ts e2
      cases r2
      obtain ⟨a, vs, o, O', rfl, ha', hr, k3, n3, x3, s3⟩ := k2.lstAt e2 ev0
      split at h2
      · rename_i l e3
        have r1' := Df.mono s2.f _ _ r1
        have n3' := (List.nodup_cons.mp n3).2
        obtain ⟨o2, g1, g2, g3⟩ := RepTs.setF r1' l hr (List.nodup_append.mp n3').1
        have n4 : (a :: (o2 ++ O')).Nodup := by
          refine List.nodup_cons.mpr ⟨fun m => (List.nodup_cons.mp n3).1 ?_, List.nodup_append.mpr ⟨g2, k3.nd, fun x hx y hy => (List.nodup_append.mp n3').2.2 x (g3 x hx) y hy⟩⟩
          rcases List.mem_append.mp m with m | m
          · exact List.mem_append_left _ (g3 _ m)
          · exact List.mem_append_right _ m
        obtain ⟨O4, k4, s4⟩ := k3.putL ev0 ha' g1 n4 fun b m => by
          rcases List.mem_cons.mp m with rfl | m
          · exact x3 b (List.mem_cons_self ..)
          · exact x3 b (List.mem_cons_of_mem _ (g3 b m))
        refine ⟨a, vs, j, l, rfl, rfl, ha', by rw [RepTs.length hr]; exact e3, ?_⟩
        refine h2 σ F2 _ O4 k4 ((s3.less fun b m => ?_).trans s4) Keeps.refl
        rcases List.mem_cons.mp m with rfl | m
        · exact List.mem_cons_self ..
        · rcases List.mem_append.mp m with m | m
          · exact List.mem_cons_of_mem _ (List.mem_append_left _ (g3 b m))
          · exact List.mem_cons_of_mem _ (List.mem_append_right _ m)
      · exact h2.elim
    · exact h2.elim
  · exact h1.elim
/-- x.append(e) -/
def mApp (i : Nat) (m : M T) : M T := fun Γ => match Γ[i]? with
  | some (some (.lst _)) => bM m (fun t Γ => match Γ[i]? with
    | some (some (.lst ts)) => if ts.length < sizeLine then some (.ok (.frz .none) (Γ.set i (some (.lst (ts ++ [t]))))) else none
    | _ => none) Γ
  | _ => none
theorem vt_append (i : Nat) {mt : M T} (he : VT X W e mt) (hN : X.N[i]? = some x := by rfl) (hv : Vis X.env.scope x := by first | exact Or.inl rfl | exact Or.inr (Or.inl rfl) | exact Or.inr (Or.inr rfl)) (hd : (x == ("__debug__" : Str)) = false := by decide)
    (hcd : (x == ("__classdict__" : Str)) = false := by decide) (hst : starEach [e] X.env = (false, eval e X.env) :: starEach [] X.env := by rfl)
    (pbm : ∀ {te : TE} {ta : TE}, PE X (.Name x p) te → PE X e ta → PE X (.Call (.Attribute (.Name x p) "append" p2) [e] [] pos) (tBM X.K "list" rAppend te (tCons ta tNil)) := by
      intro te ta h1 h2; exact pe_bm PySem.F.plainAttrs_list PySem.F.slot_list_append PySem.F.type_list_append mt_append h1 (pa_cons h2 pa_nil)) :
    VT X W (.Call (.Attribute (.Name x p) "append" p2) [e] [] pos) (mApp i mt) := by
  obtain ⟨t, pe, s⟩ := he
  refine ⟨_, pbm (pe_var hN hv hd hcd) pe, fun Γ σ F H O Q k h => ?_⟩
  unfold mApp at h
  split at h
  · rename_i ts0 e0
    obtain ⟨v0, _, _, ev0, _⟩ := k.take e0
    obtain ⟨a, vs, o, O', rfl, ha, _⟩ := k.lstAt e0 ev0
    refine ⟨_, ev0, .inl ⟨rfl, _, SqL.of ha⟩, s Γ σ F H O _ k ?_⟩
    refine HitT.bindT h fun tv Γ1 y F1 H1 O1 oy k1 r1 n1 x1 s1 h1 => ?_
    split at h1
    · rename_i ts e2
      split at h1
      · rename_i hz
        obtain ⟨a', vs2, o2, O2, e3, ha2, hr, k3, n3, x3, s3⟩ := k1.lstAt e2 ev0
        cases e3
        have sub : ∀ b ∈ a :: (o2 ++ O2), b ∈ O1 := fun b m => by
          rcases s3.own b m with z | z
          · exact z
          · rcases List.mem_cons.mp m with rfl | m
            · rw [ha2] at z; cases z
            · rcases List.mem_append.mp m with m | m
              · exact absurd z (RepTs.live _ _ _ hr b m)
              · exact absurd z (RepG.live k3.rep b m)
        have dy : ∀ b ∈ oy, b ∉ O1 := fun b m q => (List.nodup_append.mp n1).2.2 b m b q rfl
        have n3' := (List.nodup_cons.mp n3).2
        have n4 : (a :: ((o2 ++ oy) ++ O2)).Nodup := by
          refine List.nodup_cons.mpr ⟨fun m => ?_, List.nodup_append.mpr ⟨List.nodup_append.mpr ⟨(List.nodup_append.mp n3').1, (List.nodup_append.mp n1).1, fun b hb c hc q => ?_⟩, k3.nd, fun b hb c hc q => ?_⟩⟩
          · rcases List.mem_append.mp m with m | m
            · rcases List.mem_append.mp m with m | m
              · exact (List.nodup_cons.mp n3).1 (List.mem_append_left _ m)
              · exact dy _ m (sub _ (List.mem_cons_self ..))
            · exact (List.nodup_cons.mp n3).1 (List.mem_append_right _ m)
          · subst q
            exact dy b hc (sub b (List.mem_cons_of_mem _ (List.mem_append_left _ hb)))
          · subst q
            rcases List.mem_append.mp hb with hb | hb
            · exact (List.nodup_append.mp n3').2.2 b hb b hc rfl
            · exact dy b hb (sub b (List.mem_cons_of_mem _ (List.mem_append_right _ hc)))
        have r4 : RepTs X.K F1 H1 (ts ++ [tv]) (vs2 ++ [y]) (o2 ++ oy) := RepTs.append hr (by unfold RepTs RepTs; exact ⟨y, [], oy, [], rfl, r1, ⟨rfl, rfl⟩, by rw [List.append_nil]⟩)
        obtain ⟨O4, k4, s4⟩ := k3.putL ev0 ha2 r4 n4 fun b m => by
          rcases List.mem_cons.mp m with rfl | m
          · exact x3 b (List.mem_cons_self ..)
          · rcases List.mem_append.mp m with m | m
            · exact x3 b (List.mem_cons_of_mem _ m)
            · exact x1 b m
        refine ⟨a, vs2, y, rfl, rfl, ha2, by rw [RepTs.length hr]; exact hz, ?_⟩
        refine h1 .non F1 _ O4 [] k4 (repFrz .non) k4.nd (fun _ m => nomatch m) ⟨Same.refl _, fun b hb no => s4.fr b hb fun m => no ?_, fun b m => ?_⟩
        · rcases List.mem_cons.mp m with rfl | m
          · exact List.mem_append_right _ (sub b (List.mem_cons_self ..))
          · rcases List.mem_append.mp m with m | m
            · rcases List.mem_append.mp m with m | m
              · exact List.mem_append_right _ (sub b (List.mem_cons_of_mem _ (List.mem_append_left _ m)))
              · exact List.mem_append_left _ m
            · exact List.mem_append_right _ (sub b (List.mem_cons_of_mem _ (List.mem_append_right _ m)))
        · rcases s4.own b m with z | z
          · refine .inl ?_
            rcases List.mem_cons.mp z with rfl | m
            · exact List.mem_append_right _ (sub b (List.mem_cons_self ..))
            · rcases List.mem_append.mp m with m | m
              · rcases List.mem_append.mp m with m | m
                · exact List.mem_append_right _ (sub b (List.mem_cons_of_mem _ (List.mem_append_left _ m)))
                · exact List.mem_append_left _ m
              · exact List.mem_append_right _ (sub b (List.mem_cons_of_mem _ (List.mem_append_right _ m)))
          · exact .inr z
      · exact h1.elim
    · exact h1.elim
  · exact h.elim
/-- raise X('..') -/
theorem vs_raise {xs ms : Str} {j : Nat} (hc : X.calm = true) (tk : Takes X W) (q : PySem.W.excIn X.K (He.ga X.K xs) He.veBase "ValueError.__new__" = true) (gC : X.mg xs = some (.ref (He.ga X.K xs))) (kC : PySem.W.keepIn X.K (.ref (He.ga X.K xs)) = true)
    (bC : PySem.W.subIn X.K (.ref (He.ga X.K xs)) (.type "BaseException") = some true) (tC : PySem.W.typeIn X.K (.ref (He.ga X.K xs)) = some (.type "type")) (hg : Gl X xs := by rfl) (hdb : (xs == ("__debug__" : Str)) = false := by decide) :
    VS X W io (.Raise (some (.Call (.Name xs p) [.Constant (.str ms) j p2] [] p3)) none pos) (fun Γ => some (.ex xs Γ)) :=
  ⟨_, ps_raise hc tk (pmk_own PySem.F.excBase_ValueError q gC kC (raises_own bC tC) hg hdb), fun Γ σ F H O D k h => h σ F H O k Step.refl Keeps.refl⟩
end
end TW

namespace TW
open PySem PySem.Spec L2
/-- a def of the module by its name -/
structure Fn (P : Program) (w : World) (K : PySem.W.Frag) (mg : Str → Option Value) (base : Heap) (x : Str) (n k : Nat) (mf : MF) : Prop where
  ex : ∃ (f : Addr) (fd : FuncData) (ps : List Str), FnOkG P w K mg base (L2.CX P w) k f fd ps (spM n K mf) ∧ mg x = some (.ref f) ∧ PySem.W.keepIn K (.ref f) = true ∧ Binds K fd ps []
section
variable {X : Cx} {W : WX} {io : List Nat} {pos : Pos} {e : Expr} {es : List Expr} {as : List Ar}
theorem vt_fn {n k k' : Nat} {x : Str} {p : Pos} {mf : MF} (Fn : Fn X.prog X.w X.K X.mg X.base x n k mf) (hr : RoomG k' X.A) (hk : k ≤ k') (tk : Takes X W) (ha : VA X W (e :: es) as) (hn : (e :: es).length = n := by rfl) (hn2 : as.length = n := by rfl) (hg : Gl X x := by rfl) (hdb : (x == ("__debug__" : Str)) = false := by decide)
    (he : starEach (e :: es) X.env = (false, eval e X.env) :: starEach es X.env := by rfl) (hpl : (backTo pos (starEach es X.env)).any (·.1) = false := by rfl) : VT X W (.Call (.Name x p) (e :: es) [] pos) (mCall mf as) := by
  obtain ⟨f, fd, ps, F, hm, kp, hb⟩ := Fn.ex
  exact vt_call F (hr.mono hk) hm kp hb tk ha hn hn2 hg hdb he hpl
def negF : PyData → Option PyData
  | .int i => some (.int (-i))
  | _ => none
theorem vd_neg {m : M PyData} (h : VD X W e m) : VD X W (.UnaryOp .USub e pos) (mC1 negF m) := by
  obtain ⟨t, p, s⟩ := h
  refine ⟨_, pe_un un_neg p, fun Γ σ F H O Q k h => s Γ σ F H O _ k ?_⟩
  unfold mC1 at h
  refine HitN.bind h fun d Γ1 v F1 H1 O1 k1 r1 s1 h1 => ?_
  obtain ⟨d', e', q⟩ := HitN.fin h1 k1
  unfold negF at e'
  split at e'
  · cases e'
    cases r1
    exact ⟨_, rfl, q _ F1 H1 (Grow.refl k1.sub) (.int _)⟩
  · cases e'
end
abbrev ltF : OpF := cmpF fun i j => decide (i < j)
theorem od_lt {X : Cx} : OpD X (compareOp .Lt) ltF := od_cmp op_lt
/-- len(x) of a name -/
def lenT : T → Option PyData
  | .frz d => lenF d
  | .scr ns => some (.int ns.length)
  | .lst ts => some (.int ts.length)
  | .dct kvs => some (.int kvs.length)
  | .lck _ => none
  | .dtp kvs => some (.int kvs.length)
def mLen (i : Nat) : M PyData := fun Γ => match Γ[i]? with
  | some (some t) => (lenT t).map fun d => .ok d Γ
  | _ => none
theorem paired_len {α β : Type} {R : α → β → Prop} : ∀ {l : List α} {l' : List β}, Paired R l l' → l.length = l'.length
  | _, _, .nil => rfl
  | _, _, .cons _ t => congrArg Nat.succ (paired_len t)
def rLenD : List V → Hp → VK → Prop := fun xs H Q => ∃ a kvs, xs = [.ref a] ∧ H a = some (.dK kvs) ∧ Q (.int kvs.length) H
theorem call_lenK {X : Cx} : CallR X (.builtin "len") rLenD := by
  intro pins s σ H xs us Q I r h
  obtain ⟨a, kvs, rfl, ha, q⟩ := h
  rw [Vals.ref1 r]
  exact d_len I (.inl ha) fun t s' I' => ⟨.int kvs.length, H, I', ⟨t, rfl⟩, q⟩
section
variable {X : Cx} {W : WX} {pos p p2 : Pos}
theorem vd_len (i : Nat) {x : Str} (hm : X.mg "len" = none) (hN : X.N[i]? = some x := by rfl) (hv : Vis X.env.scope x := by first | exact Or.inl rfl | exact Or.inr (Or.inl rfl) | exact Or.inr (Or.inr rfl)) (hd : (x == ("__debug__" : Str)) = false := by decide)
    (hcd : (x == ("__classdict__" : Str)) = false := by decide) (hg : Gl X "len" := by rfl) (hst : starEach [Expr.Name x p2] X.env = (false, eval (Expr.Name x p2) X.env) :: starEach [] X.env := by rfl) : VD X W (.Call (.Name "len" p) [.Name x p2] [] pos) (mLen i) := by
  refine ⟨_, pe_callB (call_len.or (call_lenK.or call_len_dT)) hg hm boot_len (pa_cons (pe_var hN hv hd hcd) pa_nil hst) (by decide) (by decide) hst, fun Γ σ F H O Q k h => ?_⟩
  unfold mLen at h
  split at h
  · rename_i t e
    obtain ⟨v, o, O', e1, r, k1, n, x, s⟩ := k.take e
    refine ⟨v, e1, ?_⟩
    cases q : lenT t with
    | none => rw [q] at h; exact h.elim
    | some d =>
      rw [q] at h
      have fin : ∀ j : Nat, d = .int j → Q (.int j) H := fun j e => by
        subst e
        exact h (.int j) F H O k (.int _) Step.refl
      unfold RepT at r
      unfold lenT at q
      split at q
      · rename_i d0
        obtain ⟨r, _⟩ := r
        unfold lenF at q
        split at q
        · cases q
          cases r with
          | lst h1 h2 => exact .inl ⟨_, _, rfl, .inl ⟨_, .inl (.inl (k.sub _ _ h1)), (DfAll.length h2).symm⟩, fin _ rfl⟩
        · cases q
          cases r with
          | tup h1 h2 => exact .inl ⟨_, _, rfl, .inr ⟨_, tupT k.sub h1, (DfAll.length h2).symm⟩, fin _ rfl⟩
        · split at q
          · rename_i hz
            cases q
            cases r
            exact .inl ⟨_, _, rfl, ⟨hz, rfl⟩, fin _ rfl⟩
          · cases q
        · cases q
      · cases q
        obtain ⟨⟨a, rfl, hs⟩, _⟩ := r
        exact .inl ⟨_, _, rfl, .inl ⟨_, k.sub.seq hs, by rw [List.length_map]⟩, fin _ rfl⟩
      · cases q
        obtain ⟨a, vs, o', rfl, ha, hr, rfl⟩ := r
        exact .inl ⟨_, _, rfl, .inl ⟨_, .inl (.inl ha), (RepTs.length hr).symm⟩, fin _ rfl⟩
      · cases q
        obtain ⟨a, ps, rfl, ha, hp, rfl⟩ := r
        refine .inr (.inl ⟨a, ps, rfl, ha, ?_⟩)
        rw [← paired_len hp]
        exact fin _ rfl
      · cases q
      · cases q
        obtain ⟨a, ps, rfl, ha, hp, rfl⟩ := r
        refine .inr (.inr ⟨a, ps, rfl, ha, ?_⟩)
        rw [← paired_len hp]
        exact fin _ rfl
  · exact h.elim
end
/-! ### the end -/
theorem fn_calm {P : Program} {w : World} {K : PySem.W.Frag} {mg : Str → Option Value} {base : Heap} {k : Nat} {f : Addr} {fd : FuncData} {ps : List Str} {sp : Sp} (F : FnOkG P w K mg base (L2.CX P w) k f fd ps sp) :
    FnOkG P w K mg base CX0 k f fd ps (fun vs H Q _ => sp vs H Q E0) := by
  refine ⟨fun vs H Q E h => F.len vs H Q E0 h, fun A outer s H args us vs Q E hr he hb hv hs => ?_⟩
  refine codeAny_mono (F.run A outer s H args us vs Q E0 hr he hb hv hs) fun r s' h => ?_
  cases r with
  | ok fl => cases fl <;> exact h
  | error e =>
    obtain ⟨_, _, _, _, _, _, _, _, _, _, _, _, z⟩ := (show L2.CX P w outer H s E0 e s' from h)
    exact z.elim
theorem law_end {K : PySem.W.Frag} {mf : MF} {n : Nat} (h : ∀ ns : List Int, ns.length ≤ n → ∃ outs, mf [.scr ns] = some (.ret (.frz (.bool true)) outs)) (H : Hp) (a : Addr) (ns : List Int) (hl : ns.length ≤ n) (hS : SqL K H a (ns.map V.int)) :
    spM 1 K mf [.ref a] H (fun v _ => v = .bl true) E0 := by
  obtain ⟨outs, e⟩ := h ns hl
  refine ⟨H, [.scr ns], [], rfl, Same.refl _, ?_, List.nodup_nil, fun _ m => (nomatch m), ?_⟩
  · unfold RepTs RepTs
    exact ⟨_, _, [], [], rfl, by unfold RepT; exact ⟨⟨a, rfl, hS⟩, rfl⟩, ⟨rfl, rfl⟩, rfl⟩
  · rw [e]
    intro v F' H' O' o s1 r1 r2 _ _ _
    unfold RepT at r2
    cases r2.1
    rfl
end TW
/-! ### the law's own call, where no repr is under way -/
namespace TW
open PySem PySem.Spec PyProof.Rows L2
/-- a heap that tracks the script at most, at a -/
structure OneAt (K : PySem.W.Frag) (h : Heap) (H : Hp) (a : Addr) : Prop where
  only : Only H
  lone : ∀ b, H b ≠ none → b = a
  out : H a ≠ none → K.lookup a = none
theorem law_at {Pg : Program} {w : World} {K : PySem.W.Frag} {mg mb : Str → Option Value} {C : CXT} {k : Nat} {fa a : Addr} {fd : FuncData} {x : Str} {sp : Sp} {s : Shared} {vs : List Value} {H : Hp}
    (KX : K.In s.heap) (gs : s.heap.Ns mainGlobals mg) (bs : s.heap.Ns builtinsNs mb) (bb : ∀ y : Str, y ≠ "__name__" → mb y = bootBuiltins y) (nl : s.heap.NoLimit) (g0 : s.gens = #[])
    (ha : s.heap.get? a = some { cls := .type "list", data := .seq vs.toArray }) (hr : RoomG k callerA)
    (F : ∀ base : Heap, K.In base → base.Ns mainGlobals mg → FnOkG Pg w K mg base C k fa fd [x] sp) (hbind : ∀ (t : Shared) (u : Value), BindsTo t fd ⟨[u], []⟩ [(x, u)])
    (hC : ∀ G e t, C [] G s (fun _ _ _ => False) e t → False) (hok : HOk Pg w H s.heap) (one : OneAt K s.heap H a) (hs : sp [.ref a] H (fun v _ => v = .bl true) fun _ _ _ => False) :
    codeAny (model Pg w) callerA (.call (.ref fa) ⟨[.ref a], []⟩) (fun r t => r = .ok (.ret (.bool true)) ∧ OldK s.heap t.heap ∧ t.os = s.os ∧ AllBare t.gens) s := by
  have free : ∀ {b : Addr} {o : Obj}, s.heap.get? b = some o → (b = a → False) → H b = none := fun {b o} e ne => by
    cases q : H b with
    | none => rfl
    | some u => exact (ne (one.lone b (by rw [q]; exact fun z => nomatch z))).elim
  have dfree : ∀ {b : Addr} {o : Obj} {es : Array DictEntry} {ep : Nat}, s.heap.get? b = some o → o.data = .dict es ep → H b = none := fun {b o es ep} e d => free e fun z => by
    rw [z, ha] at e
    cases e
    exact nomatch (show Data.seq vs.toArray _ = Data.dict es ep from d)
  have hid : ∀ {b : Addr} {m : Str → Option Value}, s.heap.Ns b m → (hidT s.heap H).Ns b m := fun {b m} z => by
    obtain ⟨o, es, ep, e, d, r⟩ := z
    exact ⟨o, es, ep, hidT_get e (dfree e d), d, r⟩
  have KH : K.In (hidT s.heap H) := fun b o e => hidT_get (KX b o e) (by
    cases q : H b with
    | none => rfl
    | some u =>
      have n : H b ≠ none := by rw [q]; exact fun z => nomatch z
      have eb := one.lone b n
      rw [eb] at n e
      rw [one.out n] at e
      cases e)
  have md : Mod K mg (hidT s.heap H) := by
    obtain ⟨mc, n1, n2⟩ := nl
    exact ⟨KH, hid gs, ⟨mb, hid bs, bb⟩, mc, hid n1, n2⟩
  have none0 : ∀ b : Addr, b ∉ frs [] := fun b z => absurd (show b ∈ ([] : List Addr) from z) List.not_mem_nil
  have e0 : Env0 Pg w K mg (hidT s.heap H) callerA [] s H := ⟨rfl, md, fun b o e => of_hidT e, Nat.le_of_eq (hidT_size _ _), trivial, fun b z => (none0 b z).elim, hok, .of_eq g0⟩
  have go := (F _ KH (hid gs)).run callerA [] s H ⟨[.ref a], []⟩ [.ref a] [.ref a] _ _ hr e0 (hbind s (.ref a)) (.cons rfl .nil) hs
  refine codeAny_mono go ?_
  intro r t z
  cases r with
  | error e => exact (hC H e t z).elim
  | ok fl =>
    cases fl with
    | ret u =>
      obtain ⟨v, G, os, bare, un, hok2, r2, q⟩ := z
      cases (show v = .bl true from q)
      cases (show u = Value.bool true from r2)
      refine ⟨rfl, OldK.of_keep fun b o e => ?_, os, bare⟩
      cases q : H b with
      | none => exact un.keep b o e q (none0 b) List.not_mem_nil
      | some y =>
        rcases one.only b with n | ⟨o1, xs, n⟩
        · rw [q] at n; cases n
        · have e1 := (hok b _ n).1
          rw [e] at e1
          have e2 := Option.some.inj e1
          rw [e2]
          exact (hok2 b _ (un.frzs b o1 _ n)).1
    | _ => exact False.elim z
theorem walk_ofG {l : PySem.W.OpenLaw} {n k : Nat} {q : Program} {loose : List Str} {XP : (Str → Option Value) → Heap → Prop} {YP : World → Heap → Prop} {d : DefRec} {CX : CXT} {x : Str} (hn : l.most = some n) (hn2 : n ≤ sizeLine) (hdf : d.params.defaults = []) (hr : Room k callerA)
    (F : ∀ (w : World) (mg : Str → Option Value) (fa : Addr) (h : Heap), YP w h → h.Ns mainGlobals mg → mg d.name = some (.ref fa) → ∃ (K : PySem.W.Frag) (fd : FuncData) (sp : Sp), K.In h ∧ (∀ (s : Shared) (u : Value), BindsTo s fd ⟨[u], []⟩ [(x, u)]) ∧
      (∀ (H : Hp) (a : Addr) (ns : List Int), ns.length ≤ n → Only H → SqL K H a (ns.map V.int) → sp [.ref a] H (fun v _ => v = .bl true) fun _ _ _ => False) ∧ ∀ base : Heap, K.In base → base.Ns mainGlobals mg → FnOkG l.prog w K mg base CX k fa fd [x] sp)
    (hCX : ∀ (H : Hp) (s : Shared) (e : Value) (s' : Shared), CX [] H s (fun _ _ _ => False) e s' → False) : PySem.W.WalkO q loose XP YP l.row.toRowW d [] (fun f vs => PySem.call f vs) := by
  refine Att.attach_call hn hdf ?_
  intro w s₀ s mg mb fa o pm cd doc a vs ns G Y _ _ _ hmg hobj hints hlen hg
  obtain ⟨K, fd, sp, KX, hb, hsp, hF⟩ := F w mg fa _ Y G.T.g hmg
  have rv := vals_ints hints
  have lz : ns.length ≤ sizeLine := Nat.le_trans hlen hn2
  have fin := fun H hok one hS => law_at (H := H) KX G.T.g G.T.b G.T.builtins G.T.nolimit hg hobj ⟨hr, rfl⟩ hF hb (fun H e t => hCX H s e t) hok one (hsp H a ns hlen one.only hS)
  cases hk : K.lookup a with
  | some o =>
    have e := KX a o hk
    rw [hobj] at e
    cases e
    refine fin (fun _ => none) (fun b u z => nomatch z) ⟨fun _ => .inl rfl, fun b z => absurd rfl z, fun z => absurd rfl z⟩ (.inr ⟨_, vs.toArray, _, hk, rfl, rfl, rfl, ?_, by simpa using rv⟩)
    rw [List.size_toArray, hints.length]
    exact lz
  | none =>
    let u : HO := .frz { cls := .type "list", data := .seq vs.toArray } (.lst (ns.map V.int))
    have at_ : ∀ {b : Addr} {y : HO}, (if b = a then some u else none) = some y → b = a ∧ y = u := fun {b y} z => by
      by_cases c : b = a
      · rw [if_pos c] at z
        exact ⟨c, (Option.some.inj z).symm⟩
      · rw [if_neg c] at z
        cases z
    refine fin (fun b => if b = a then some u else none) (fun b y z => ?_) ⟨fun b => ?_, fun b z => ?_, fun _ => hk⟩ (.inl (.inr ⟨_, if_pos rfl⟩))
    · obtain ⟨rfl, rfl⟩ := at_ z
      exact ⟨hobj, by rw [List.length_map]; exact lz, vs, _, rv, hobj⟩
    · by_cases c : b = a
      · exact .inr ⟨_, _, if_pos c⟩
      · exact .inl (if_neg c)
    · by_cases c : b = a
      · exact c
      · exact absurd (if_neg c) z
end TW

/-! sorted: of ints, of tuples of ints -/
namespace TW
open PySem PySem.Spec L2
abbrev lexL : List Int → List Int → Bool := HT.lexLt
theorem lexL_cons {x y : Int} {xs ys : List Int} : lexL (x :: xs) (y :: ys) = if x = y then lexL xs ys else decide (x < y) := HT.lexLt_cons x y xs ys
theorem lexL_irr : ∀ xs : List Int, lexL xs xs = false
  | [] => rfl
  | x :: xs => by rw [lexL_cons, if_pos rfl]; exact lexL_irr xs
theorem lexL_asym : ∀ {xs ys : List Int}, lexL xs ys = true → lexL ys xs = false
  | [], [], h => by cases (show false = true from h)
  | [], _ :: _, h => rfl
  | _ :: _, [], h => by cases (show false = true from h)
  | x :: xs, y :: ys, h => by
    rw [lexL_cons] at h ⊢
    by_cases e : x = y
    · subst e
      rw [if_pos rfl] at h ⊢
      exact lexL_asym h
    · rw [if_neg e] at h
      rw [if_neg (Ne.symm e)]
      have := of_decide_eq_true h
      exact decide_eq_false (by omega)
/-- no greater is carried on -/
theorem lexL_tr : ∀ {xs ys zs : List Int}, lexL xs ys = false → lexL ys zs = false → lexL xs zs = false
  | [], [], zs, h1, h2 => h2
  | [], _ :: _, zs, h1, h2 => by cases (show true = false from h1)
  | x :: xs, [], [], h1, h2 => rfl
  | x :: xs, [], _ :: _, h1, h2 => by cases (show true = false from h2)
  | x :: xs, y :: ys, [], h1, h2 => rfl
  | x :: xs, y :: ys, z :: zs, h1, h2 => by
    rw [lexL_cons] at h1 h2 ⊢
    by_cases e1 : x = y
    · subst e1
      rw [if_pos rfl] at h1
      by_cases e2 : x = z
      · subst e2
        rw [if_pos rfl] at h2 ⊢
        exact lexL_tr h1 h2
      · rw [if_neg e2] at h2 ⊢
        exact h2
    · rw [if_neg e1] at h1
      have l1 := of_decide_eq_false h1
      by_cases e2 : y = z
      · subst e2
        rw [if_neg e1]
        exact h1
      · rw [if_neg e2] at h2
        have l2 := of_decide_eq_false h2
        rw [if_neg (by omega)]
        exact decide_eq_false (by omega)
theorem lexL_anti : ∀ {xs ys : List Int}, lexL xs ys = false → lexL ys xs = false → xs = ys
  | [], [], _, _ => rfl
  | [], _ :: _, h, _ => by cases (show true = false from h)
  | _ :: _, [], _, h => by cases (show true = false from h)
  | x :: xs, y :: ys, h1, h2 => by
    rw [lexL_cons] at h1 h2
    by_cases e : x = y
    · subst e
      rw [if_pos rfl] at h1 h2
      rw [lexL_anti h1 h2]
    · rw [if_neg e] at h1
      rw [if_neg (Ne.symm e)] at h2
      have l1 := of_decide_eq_false h1
      have l2 := of_decide_eq_false h2
      exact absurd (show x = y by omega) e
theorem swo_lexL {α : Type} (k : α → List Int) : SrtO.Swo fun v u => lexL (k v) (k u) := ⟨fun x y h => lexL_asym h, fun x y z h1 h2 => lexL_tr h2 h1⟩
/-- by the places of both -/
def lexZ (fin : Bool) : List Int → List Int → Bool
  | x :: xs, y :: ys => if x = y then lexZ fin xs ys else decide (x < y)
  | _, _ => fin
theorem lexZ_eq : ∀ (ns ms : List Int), lexZ (decide (ns.length < ms.length)) ns ms = lexL ns ms
  | [], [] => rfl
  | [], _ :: _ => by unfold lexZ; exact decide_eq_true (by simp)
  | _ :: _, [] => by unfold lexZ; exact decide_eq_false (by simp)
  | x :: xs, y :: ys => by
    unfold lexZ
    rw [lexL_cons]
    have e : decide ((x :: xs).length < (y :: ys).length) = decide (xs.length < ys.length) := by simp
    rw [e, lexZ_eq xs ys]
section
open PyProof.Rows PySem.Calls
variable {prog : Program} {w : World} {A : Around} {E : Value → Shared → Prop} {s : Shared}
theorem kat_ints {b fin : Bool} {Q : Bool → Shared → Prop} {xs : List Value} {ns : List Int} (hx : PyProof.Rows.IntsAre xs ns) : ∀ {ys : List Value} {ms : List Int} (i : Nat), PyProof.Rows.IntsAre ys ms → Q (lexZ fin ns ms) s → PySem.W.KatLex prog w A b fin Q (xs.zip ys) i s := by
  induction hx with
  | nil => intro ys ms i hy h; exact PySem.W.kat_nil (by unfold lexZ at h; exact h)
  | cons n t hx ih =>
    intro ys ms i hy h
    cases hy with
    | nil => exact PySem.W.kat_nil (by unfold lexZ at h; exact h)
    | cons n2 t2 hy =>
      unfold lexZ at h
      refine PySem.W.kat_cons (SeqAt.EqAt.int_int _ _ _ _ prog w _ _ ?_)
      refine PySem.W.kat_go (fun e1 => ?_) (fun e1 => ?_)
      · have e : n = n2 := by simpa using e1
        rw [if_pos e] at h
        exact PySem.W.kat_yes (ih (i + 1) hy h)
      · have e : ¬ n = n2 := by simpa using e1
        rw [if_neg e] at h
        exact PySem.W.kat_no (TS.oneLt_ints _ h)
/-- a tuple of ints, not empty -/
def TI (h : Heap) (v : Value) (ns : List Int) : Prop := TS.TupInts h v ns ∧ ns ≠ []
theorem tup_cmp {vs : List Value} {k : Value → List Int} (hp : ∀ v ∈ vs, TS.TupInts s.heap v (k v)) : SrtO.Cmp prog w A s (PyProof.Rows.tuples' true) (fun p => p.1 ∈ vs) (SrtO.lt2 fun v u => lexL (k v) (k u)) := by
  intro p q hm hm'
  have h1 := hp _ hm
  have h2 := hp _ hm'
  show wpAny (model prog w) A (PyProof.Rows.keyLt' (PyProof.Rows.tuples' true) p.1 q.1) (fun r s' => s' = s ∧ r = lexL (k p.1) (k q.1)) (fun _ _ => False) s
  obtain ⟨a, xs, e, ⟨o, ho, hc, n, hd⟩, i⟩ := h1
  obtain ⟨a', xs', e', ⟨o', ho', hc', n', hd'⟩, i'⟩ := h2
  rw [e, e']
  refine PySem.W.kat_lt ho hd ho' hd' (kat_ints i 0 i' ⟨rfl, ?_⟩)
  have l1 := i.length
  have l2 := i'.length
  have e1 : decide (xs.size < xs'.size) = decide ((k p.1).length < (k q.1).length) := by
    rw [← l1, ← l2] <;> simp
  rw [e1, lexZ_eq, ← e, ← e']
theorem tup_firsts {h : Heap} : ∀ vs : List Value, (∀ v ∈ vs, ∃ ns, TI h v ns) → ∃ fs, PySem.W.KatTups h vs fs ∧ fs.length = vs.length ∧ ∀ f, f ∈ fs → ∃ n t, f = Value.int n t
  | [], _ => ⟨[], PySem.W.KatTups.nil, rfl, fun f hf => by simp at hf⟩
  | v :: vs, x => by
    obtain ⟨fs, k, hl, hi⟩ := tup_firsts vs fun u hu => x u (List.mem_cons_of_mem _ hu)
    obtain ⟨ns, ⟨a, xs, rfl, ⟨o, ho, hc, n, hdt⟩, i⟩, hn⟩ := x v (List.mem_cons_self ..)
    obtain ⟨y, ys, e⟩ : ∃ y ys, xs.toList = y :: ys := by
      cases q : xs.toList with
      | nil =>
        rw [q] at i
        cases i
        exact absurd rfl hn
      | cons y ys => exact ⟨y, ys, rfl⟩
    obtain ⟨m, t, hy⟩ := i.all y (by rw [e]; exact List.mem_cons_self ..)
    refine ⟨y :: fs, PySem.W.KatTups.cons ho hc hdt ?_ k, by simp [hl], fun f hf => ?_⟩
    · have z := congrArg (fun l : List Value => l[0]?) e
      simpa using z
    · rcases List.mem_cons.mp hf with rfl | hf
      · exact ⟨m, t, hy⟩
      · exact hi f hf
theorem tup_sortable {a : Addr} {vs : List Value} {k : Value → List Int} (h0 : 0 < vs.length) (hp : ∀ v ∈ vs, TI s.heap v (k v)) (ha : ∀ o, s.heap.get? a = some o → o.cls ≠ .type "tuple") : SrtO.SortableO prog w A s a vs fun v u => lexL (k v) (k u) := by
  intro h' keep
  have hp' : ∀ v ∈ vs, TI h' v (k v) := fun v hm => ⟨(hp v hm).1.keeps fun b o e c => keep b o (fun z => by subst z; exact ha o e c) e, (hp v hm).2⟩
  obtain ⟨fs, h1, h2, h3⟩ := tup_firsts vs fun v hm => ⟨_, hp' v hm⟩
  refine ⟨PyProof.Rows.tuples' true, fun Q E hq => ?_, tup_cmp fun v hm => (hp' v hm).1⟩
  refine PySem.W.kat_kind (T := .type "int") h1 (by omega) (fun f hm => ?_) (by rfl) ?_
  · obtain ⟨x, t, rfl⟩ := h3 f hm
    exact PySem.W.Looks.of_pure rfl
  · have e : (Value.type "int" != Value.type "tuple") = true := by first | decide +kernel | rfl | decide
    rw [e]
    exact hq
/-- collecting a tuple -/
theorem collect_tup {l : Addr} {vs : List Value} {Q : List Value → Shared → Prop} (hl : PyProof.Rows.IsTup s.heap l vs.toArray)
    (h : Q vs { s with heap := (s.heap.push (PyProof.Rows.seqObj "list" #[] 0)).update s.heap.objs.size (Obj.mapSeq (· ++ vs.toArray)) }) (hsz : vs.length ≤ sizeLine) :
    wpAny (model prog w) A (collect (.ref l)) Q E s := by
  obtain ⟨o, ho, hc, n, hd⟩ := id hl
  unfold collect
  refine wpAny_bind (wpAny_runValue (codeAny_builtin entry_proto_collect' ?_))
  show wpAny _ _ (do again (.builtin "list.__iadd__" ⟨[← newList [], .ref l], []⟩)) _ _ s
  refine wpAny_bind (wpAny_newList (wpAny_pure ⟨Code.quiet_builtin _ (by decide +kernel), codeAny_builtin entry_list_iadd' ?_⟩))
  show wpAny _ _ (Builtin.List.listExtendWith (.ref s.heap.objs.size) (.ref l) (.ref s.heap.objs.size)) _ _ { s with heap := s.heap.push (seqObj "list" #[] 0) }
  unfold Builtin.List.listExtendWith
  have ho' : (s.heap.push (seqObj "list" #[] 0)).get? l = some o := Heap.get?_push_of_some _ ho
  refine wpAny_bind (wpAny_typeOf (T := "tuple") ⟨o, ho', hc⟩ ?_)
  have ht : (Value.type "tuple" == Value.type "tuple") = true := by rfl
  rw [if_pos (by rw [ht]; simp)]
  refine wpAny_bind (listItems_at ho' hd ?_)
  refine wpAny_bind (listItems_at (xs := #[]) (n := 0) (Heap.get?_push_size _ rfl) rfl ?_)
  rw [if_neg (by simp)]
  refine wpAny_bind (listUpdate_at (xs := #[]) (n := 0) (Heap.get?_push_size _ rfl) rfl ?_ (Nat.zero_le _) (by show (#[] ++ vs.toArray).size ≤ sizeLine + 1; simp only [Array.size_append, List.size_toArray, List.length_nil]; omega))
  refine wpAny_pure ?_
  show wpAny (model prog w) A (do
      let o ← load s.heap.objs.size
      match o.data with
      | .seq xs _ => pure xs.toList
      | _ => unsupported "internal:collect") Q E { s with heap := (s.heap.push (seqObj "list" #[] 0)).update s.heap.objs.size (Obj.mapSeq (· ++ vs.toArray)) }
  refine wpAny_bind (wpAny_load (get?_update_seq (Heap.get?_push_size _ rfl) _) ?_)
  show wpAny _ _ (pure ((#[] : Array Value) ++ vs.toArray).toList) Q E _
  rw [show ((#[] : Array Value) ++ vs.toArray).toList = vs by simp]
  exact wpAny_pure h
/-- sorted of what can be collected -/
theorem sorted_ordC {v : Value} {vs : List Value} {ltv : Value → Value → Bool} {Q : Value → Shared → Prop} (O : SrtO.Swo ltv) (hz : vs.length ≤ sizeLine)
    (col : ∀ Q : List Value → Shared → Prop, Q vs { s with heap := (s.heap.push (seqObj "list" #[] 0)).update s.heap.objs.size (Obj.mapSeq (· ++ vs.toArray)) } → wpAny (model prog w) A.in1 (collect v) Q (fun u s' => E u s') s)
    (hS : 2 ≤ vs.length → ∀ (h₁ : Heap) (a : Addr), h₁.get? a = some (seqObj "list" vs.toArray 0) → (∀ b o, s.heap.get? b = some o → b ≠ a ∧ h₁.get? b = some o) → SrtO.SortableO prog w A.in1.in1 { s with heap := h₁ } a vs ltv)
    (h : ∀ out : List Value, SrtO.Srtd ltv out → SrtO.Stb ltv out vs → Q (.ref (s.heap.objs.size + 1)) { s with heap := sortedAll s.heap vs out.toArray }) :
    wpAny (model prog w) A (call (.builtin "sorted") [v]) Q E s := by
  refine PySem.Calls.call_function_entry kind_sorted plain_sorted entry_sorted (args_sorted1 _) ?_
  unfold Builtin.«sorted»
  refine wpAny_bind (m := checkCount "sorted" 1 1 _) (wpAny_pure ?_)
  refine wpAny_bind (col _ ?_)
  refine wpAny_bind (wpAny_newList ?_ hz)
  have hsz : ((s.heap.push (seqObj "list" #[] 0)).update s.heap.objs.size (Obj.mapSeq (· ++ vs.toArray))).objs.size = s.heap.objs.size + 1 := by
    rw [Heap.size_update, size_push']
  have hoL : (((s.heap.push (seqObj "list" #[] 0)).update s.heap.objs.size (Obj.mapSeq (· ++ vs.toArray))).push (seqObj "list" vs.toArray 0)).get? (s.heap.objs.size + 1) = some (seqObj "list" vs.toArray 0) := by
    rw [← hsz]; exact Heap.get?_push_size _ rfl
  have keep : ∀ b o, s.heap.get? b = some o → b ≠ s.heap.objs.size + 1 ∧ (((s.heap.push (seqObj "list" #[] 0)).update s.heap.objs.size (Obj.mapSeq (· ++ vs.toArray))).push (seqObj "list" vs.toArray 0)).get? b = some o := fun b o q => by
    have hlt : b < s.heap.objs.size := Heap.lt_size q
    refine ⟨Nat.ne_of_lt (Nat.lt_succ_of_lt hlt), Heap.get?_push_of_some _ ?_⟩
    rw [Heap.get?_update_ne _ _ _ _ (Nat.ne_of_lt hlt)]
    exact Heap.get?_push_of_some _ q
  show wpAny _ _ _ _ _ { s with heap := ((s.heap.push (seqObj "list" #[] 0)).update s.heap.objs.size (Obj.mapSeq (· ++ vs.toArray))).push (seqObj "list" vs.toArray 0) }
  rw [hsz]
  refine wpAny_bind (wpAny_holding (wpAny_call_entry slot_list_sort ⟨_, hoL, rfl⟩ entry_list_sort (SrtO.list_sort_ord O hoL hz (fun h2 => hS h2 _ _ hoL keep) fun out hs hb => ⟨_, rfl, ?_⟩) (args_list_sort _)))
  exact wpAny_pure ⟨_, rfl, h out hs hb⟩
theorem sorted_ordKC {v : Value} {vs : List Value} {b : Bool} {kw : List (Str × Value)} {ltv : Value → Value → Bool} {Q : Value → Shared → Prop} (hk : ∀ a, Builtin.«list.sort» ⟨[.ref a], kw⟩ = Builtin.«list.sort» ⟨[.ref a], [(Str.ofString "reverse", .bool b)]⟩)
    (ha1 : argsOk "sorted" ⟨[v], kw⟩) (ha2 : ∀ a, argsOk "list.sort" ⟨[a], kw⟩) (O : SrtO.Swo ltv) (hz : vs.length ≤ sizeLine)
    (col : ∀ Q : List Value → Shared → Prop, Q vs { s with heap := (s.heap.push (seqObj "list" #[] 0)).update s.heap.objs.size (Obj.mapSeq (· ++ vs.toArray)) } → wpAny (model prog w) A.in1 (collect v) Q (fun u s' => E u s') s)
    (hS : 2 ≤ vs.length → ∀ (h₁ : Heap) (a : Addr), h₁.get? a = some (seqObj "list" vs.toArray 0) → (∀ b o, s.heap.get? b = some o → b ≠ a ∧ h₁.get? b = some o) → SrtO.SortableO prog w A.in1.in1 { s with heap := h₁ } a vs ltv)
    (h : ∀ out : List Value, SrtO.Srtd ltv out → SrtO.Stb ltv out (if b = true then vs.reverse else vs) → Q (.ref (s.heap.objs.size + 1)) { s with heap := sortedAll s.heap vs (if b = true then out.toArray.reverse else out.toArray) }) :
    wpAny (model prog w) A (call (.builtin "sorted") [v] kw) Q E s := by
  refine call_function_entry_kw kind_sorted plain_sorted entry_sorted ha1 ?_
  unfold Builtin.«sorted»
  refine wpAny_bind (m := checkCount "sorted" 1 1 _) (wpAny_pure ?_)
  refine wpAny_bind (col _ ?_)
  refine wpAny_bind (wpAny_newList ?_ hz)
  have hsz : ((s.heap.push (seqObj "list" #[] 0)).update s.heap.objs.size (Obj.mapSeq (· ++ vs.toArray))).objs.size = s.heap.objs.size + 1 := by
    rw [Heap.size_update, size_push']
  have hoL : (((s.heap.push (seqObj "list" #[] 0)).update s.heap.objs.size (Obj.mapSeq (· ++ vs.toArray))).push (seqObj "list" vs.toArray 0)).get? (s.heap.objs.size + 1) = some (seqObj "list" vs.toArray 0) := by
    rw [← hsz]; exact Heap.get?_push_size _ rfl
  have keep : ∀ b o, s.heap.get? b = some o → b ≠ s.heap.objs.size + 1 ∧ (((s.heap.push (seqObj "list" #[] 0)).update s.heap.objs.size (Obj.mapSeq (· ++ vs.toArray))).push (seqObj "list" vs.toArray 0)).get? b = some o := fun b o q => by
    have hlt : b < s.heap.objs.size := Heap.lt_size q
    refine ⟨Nat.ne_of_lt (Nat.lt_succ_of_lt hlt), Heap.get?_push_of_some _ ?_⟩
    rw [Heap.get?_update_ne _ _ _ _ (Nat.ne_of_lt hlt)]
    exact Heap.get?_push_of_some _ q
  show wpAny _ _ _ _ _ { s with heap := ((s.heap.push (seqObj "list" #[] 0)).update s.heap.objs.size (Obj.mapSeq (· ++ vs.toArray))).push (seqObj "list" vs.toArray 0) }
  rw [hsz]
  refine wpAny_bind (wpAny_holding (wpAny_call_entry_kw slot_list_sort ⟨_, hoL, rfl⟩ entry_list_sort ?_ (ha2 _)))
  rw [hk]
  refine SrtR.list_sort_ordR O hoL hz (fun h2 => hS h2 _ _ hoL keep) fun out hs hb => ⟨_, rfl, ?_⟩
  exact wpAny_pure ⟨_, rfl, h out hs hb⟩
end
/-! ### readings -/
abbrev SqX (K : PySem.W.Frag) (H : Hp) (a : Addr) (xs : List V) : Prop := SqL K H a xs ∨ SqT K H a xs
/-- the sequence at a holds xs -/
theorem sq_col {X : Cx} {pins : List (Addr × Obj)} {σ : St} {H : Hp} {s : Shared} {a : Addr} {xs : List V} (I : Inv X pins σ H s) (h : SqX X.K H a xs) : ∃ its : List Value, Vals xs its ∧ its.length ≤ sizeLine ∧ (∃ o, s.heap.get? a = some o) ∧
    ∀ (A : Around) (E : Value → Shared → Prop) (Q : List Value → Shared → Prop), Q its { s with heap := (s.heap.push (PyProof.Rows.seqObj "list" #[] 0)).update s.heap.objs.size (Obj.mapSeq (· ++ its.toArray)) } → wpAny (model X.prog X.w) A (collect (.ref a)) Q E s := by
  rcases h with h | h
  · obtain ⟨its, rv, hl, hz⟩ := I.list h
    have l := rv.length
    obtain ⟨o, ho, _⟩ := id hl.isList
    exact ⟨its, rv, by omega, ⟨o, ho⟩, fun A E Q q => PyProof.Rows.collect_list hl.isList q (by omega)⟩
  · obtain ⟨its, rv, hl, hz⟩ := I.tuple h
    have l := rv.length
    obtain ⟨o, ho, _⟩ := id hl
    exact ⟨its, rv, by omega, ⟨o, ho⟩, fun A E Q q => collect_tup hl q (by omega)⟩
/-- tuples that hold these ints -/
def TK (K : PySem.W.Frag) (H : Hp) (x : V) (ns : List Int) : Prop := ns ≠ [] ∧ ∃ t, x = V.ref t ∧ H t = some (.tup (ns.map V.int))
def rSort (K : PySem.W.Frag) : List V → Hp → VK → Prop := fun vs H Q => ∃ (a : Addr) (xs : List V), vs = [V.ref a] ∧ SqX K H a xs ∧
  ((∃ ns : List Int, xs = ns.map V.int ∧ ∀ (ns' : List Int) (p : Addr), ns'.Perm ns → ns'.Pairwise (· ≤ ·) → H p = none → Q (.ref p) (upd H p (.lst (ns'.map V.int)))) ∨
   (∃ (P : V → List Int → Prop) (ks : List (List Int)), (∀ x k, P x k → TK K H x k) ∧ Paired P xs ks ∧ ∀ (ys : List V) (ks' : List (List Int)) (p : Addr), Paired P ys ks' → ks'.Perm ks → ks'.Pairwise (fun a b => lexL b a = false) → H p = none → Q (.ref p) (upd H p (.lst ys))))
def rSortR (K : PySem.W.Frag) : List V → List V → Hp → VK → Prop := fun vs zs H Q => ∃ (a : Addr) (ns : List Int), vs = [V.ref a] ∧ zs = [.bl true] ∧ SqX K H a (ns.map V.int) ∧
  ∀ (ns' : List Int) (p : Addr), ns'.Perm ns → ns'.Pairwise (· ≥ ·) → H p = none → Q (.ref p) (upd H p (.lst (ns'.map V.int)))
theorem tk_ints {X : Cx} {pins : List (Addr × Obj)} {σ : St} {H : Hp} {s : Shared} {P : V → List Int → Prop} (I : Inv X pins σ H s) (hP : ∀ x k, P x k → TK X.K H x k) : ∀ {xs : List V} {us : List Value} {ks : List (List Int)}, Vals xs us → Paired P xs ks → us.map (TS.intsOf s.heap) = ks ∧ xs = us.map backV ∧ ∀ u ∈ us, TI s.heap u (TS.intsOf s.heap u) ∧ P (backV u) (TS.intsOf s.heap u) ∧ ∃ a, u = .ref a
  | _, _, _, .nil, .nil => ⟨rfl, rfl, fun u hu => nomatch hu⟩
  | x :: xs, u :: us, k :: ks, .cons r rs, .cons p ps => by
    obtain ⟨e1, e2, e3⟩ := tk_ints I hP rs ps
    obtain ⟨hn, t, rfl, ht⟩ := hP _ _ p
    obtain rfl : u = .ref t := r
    obtain ⟨its, rv, hl, hz⟩ := I.tuple (.inl (.inl ht))
    have T : TS.TupInts s.heap (.ref t) k := ⟨t, its.toArray, rfl, hl, rv.ints⟩
    have e := T.ints
    refine ⟨by rw [List.map_cons, e, e1], by rw [List.map_cons, ← e2] <;> rfl, fun v hv => ?_⟩
    rcases List.mem_cons.mp hv with rfl | hv
    · rw [e]
      exact ⟨⟨T, hn⟩, p, _, rfl⟩
    · exact e3 v hv
theorem paired_map {α β γ : Type} {R : β → γ → Prop} {f : α → β} {g : α → γ} : ∀ {l : List α}, (∀ a ∈ l, R (f a) (g a)) → Paired R (l.map f) (l.map g)
  | [], _ => .nil
  | a :: l, h => .cons (h a (List.mem_cons_self ..)) (paired_map fun b m => h b (List.mem_cons_of_mem _ m))
section
variable {X : Cx}
theorem cr_sort : CallR X (.builtin "sorted") (rSort X.K) := by
  intro pins s σ H vs us Q I r h
  obtain ⟨a, xs, rfl, hs, h⟩ := h
  obtain ⟨its, rv, hz, ⟨o, ho⟩, col⟩ := sq_col I hs
  rw [Vals.ref1 r]
  rcases h with ⟨ns, rfl, q⟩ | ⟨P, ks, hP, hk, q⟩
  · have hi := rv.ints
    refine sorted_ordC SrtO.swo_int hz (fun Q q => col _ _ Q q) (fun h2 h₁ a' _ _ => SrtO.ints_sortable hi h2) fun out h1 h2 => ?_
    obtain ⟨k1, k2, k3⟩ := SrtO.ints_out hi h1 h2
    obtain ⟨ep, he'⟩ := PyProof.Rows.sortedAll_at s.heap its out.toArray
    have hlen : ((out.map SrtO.iv).map V.int).length ≤ sizeLine := by
      rw [List.length_map, k2.length_eq, ← hi.length]
      exact hz
    exact ⟨.ref _, upd H (s.heap.objs.size + 1) (.lst ((out.map SrtO.iv).map V.int)), I.laid (t' := s.toks) (fun _ _ => PyProof.Rows.sortedAll_old) (Nat.le_succ _) ⟨hlen, out, ep, vals_of_ints k1, he'⟩, rfl, q _ _ k2 k3 (I.hok.fresh (Nat.le_succ _))⟩
  · obtain ⟨e1, e2, e3⟩ := tk_ints I hP rv hk
    refine sorted_ordC (swo_lexL (TS.intsOf s.heap)) hz (fun Q q => col _ _ Q q) (fun h2 h₁ a' ha' kk => ?_) fun out h1 h2 => ?_
    · refine tup_sortable (s := { s with heap := h₁ }) (by omega) (fun v hv => ⟨(e3 v hv).1.1.keeps fun b o e _ => (kk b o e).2, (e3 v hv).1.2⟩) fun o e => ?_
      have e' : some o = some (PyProof.Rows.seqObj "list" its.toArray 0) := e.symm.trans ha'
      cases e'
      intro c
      exact absurd (Value.type.inj c) (by decide)
    · obtain ⟨ep, he'⟩ := PyProof.Rows.sortedAll_at s.heap its out.toArray
      have mem : ∀ u ∈ out, u ∈ its := fun u m => h2.perm.mem_iff.mp m
      have hlen : (out.map backV).length ≤ sizeLine := by
        rw [List.length_map, h2.perm.length_eq]
        exact hz
      refine ⟨.ref _, upd H (s.heap.objs.size + 1) (.lst (out.map backV)), I.laid (t' := s.toks) (fun _ _ => PyProof.Rows.sortedAll_old) (Nat.le_succ _) ⟨hlen, out, ep, vals_back fun u m => (e3 u (mem u m)).2.2, he'⟩, rfl, q _ (out.map (TS.intsOf s.heap)) _ (paired_map fun u m => (e3 u (mem u m)).2.1) ?_ ?_ (I.hok.fresh (Nat.le_succ _))⟩
      · rw [← e1]; exact h2.perm.map _
      · exact List.pairwise_map.mpr h1
theorem cr_sortR : CallRK X (.builtin "sorted") [Str.ofString "reverse"] (rSortR X.K) := by
  intro pins s σ H vs zs us ws Q I r rz h
  obtain ⟨a, ns, rfl, rfl, hs, q⟩ := h
  obtain rfl := Vals.ref1 r
  obtain ⟨w1, rfl, e1⟩ := vals1 rz
  obtain rfl : w1 = Value.bool true := e1
  obtain ⟨its, rv, hz, ⟨o, ho⟩, col⟩ := sq_col I hs
  have hi := rv.ints
  refine sorted_ordKC (b := true) (fun _ => rfl) (PyProof.Rows.args_sorted_rev _ _) (fun _ => PyProof.Rows.args_list_sort_rev _ _) SrtO.swo_int hz (fun Q q => col _ _ Q q) (fun h2 h₁ a' _ _ => SrtO.ints_sortable hi h2) fun out h1 h2 => ?_
  obtain ⟨ns', k1, k2, k3⟩ := SrtR.ints_outR hi h1 h2
  obtain ⟨ep, he'⟩ := PyProof.Rows.sortedAll_at s.heap its (if true = true then out.toArray.reverse else out.toArray)
  have hlen : (ns'.map V.int).length ≤ sizeLine := by
    rw [List.length_map, k2.length_eq, ← hi.length]
    exact hz
  have e0 : ((if true = true then out.toArray.reverse else out.toArray).toList).toArray = (if true = true then out.toArray.reverse else out.toArray) := by rw [Array.toArray_toList]
  exact ⟨.ref _, upd H (s.heap.objs.size + 1) (.lst (ns'.map V.int)), I.laid (t' := s.toks) (fun _ _ => PyProof.Rows.sortedAll_old) (Nat.le_succ _) ⟨hlen, _, ep, vals_of_ints k1, by rw [e0]; exact he'⟩, rfl, q _ _ k2 k3 (I.hok.fresh (Nat.le_succ _))⟩
end
/-! ### on data -/
def tupI : PyData → Option (List Int)
  | .tuple ds => match intsF ds with
    | some (n :: ns) => some (n :: ns)
    | _ => none
  | _ => none
def tupsF : List PyData → Option (List (List Int))
  | [] => some []
  | d :: ds => match tupI d, tupsF ds with
    | some k, some ks => some (k :: ks)
    | _, _ => none
def lexLe (a b : List Int) : Bool := !lexL b a
def tupD (k : List Int) : PyData := .tuple (k.map .int)
def sortI (ns : List Int) : List Int := ns.mergeSort (fun a b => decide (a ≤ b))
def sortL (ks : List (List Int)) : List (List Int) := ks.mergeSort lexLe
def sortF (a : PyData) : Option (List PyData) := match itemsF a with
  | none => none
  | some ds => match intsF ds with
    | some ns => some ((sortI ns).map .int)
    | none => (tupsF ds).map fun ks => (sortL ks).map tupD
def sortFR (a : PyData) : Option (List PyData) := match itemsF a with
  | none => none
  | some ds => (intsF ds).map fun ns => (sortI ns).reverse.map .int
theorem sortI_perm (ns : List Int) : (sortI ns).Perm ns := List.mergeSort_perm _ _
theorem sortI_le (ns : List Int) : (sortI ns).Pairwise (· ≤ ·) := by
  have := List.pairwise_mergeSort (le := fun a b : Int => decide (a ≤ b)) (fun a b c h1 h2 => by simp at *; omega) (fun a b => by simp; omega) ns
  exact this.imp fun h => of_decide_eq_true h
theorem sortI_uniq {ns ms : List Int} (p : ms.Perm ns) (h : ms.Pairwise (· ≤ ·)) : ms = sortI ns :=
  List.Perm.eq_of_pairwise (fun _ _ _ _ a b => Int.le_antisymm a b) h (sortI_le ns) (p.trans (sortI_perm ns).symm)
theorem sortL_perm (ks : List (List Int)) : (sortL ks).Perm ks := List.mergeSort_perm _ _
theorem sortL_le (ks : List (List Int)) : (sortL ks).Pairwise (fun a b => lexL b a = false) := by
  have := List.pairwise_mergeSort (le := lexLe) (fun a b c h1 h2 => by
    unfold lexLe at *
    simp at h1 h2 ⊢
    exact lexL_tr h2 h1) (fun a b => by
    unfold lexLe
    cases q : lexL b a
    · rfl
    · rw [lexL_asym q]; rfl) ks
  exact this.imp fun h => by unfold lexLe at h; simpa using h
theorem sortL_uniq {ks ms : List (List Int)} (p : ms.Perm ks) (h : ms.Pairwise (fun a b => lexL b a = false)) : ms = sortL ks :=
  List.Perm.eq_of_pairwise (fun _ _ _ _ a b => lexL_anti b a) h (sortL_le ks) (p.trans (sortL_perm ks).symm)
theorem df_ints {K : PySem.W.Frag} {F : Hp} : ∀ (ns : List Int), DfAll K F (ns.map V.int) (ns.map PyData.int)
  | [] => .nil
  | n :: ns => .cons (.int n) (df_ints ns)
theorem intsF_some : ∀ {ds : List PyData} {ns : List Int}, intsF ds = some ns → ds = ns.map .int
  | [], ns, e => by cases e; rfl
  | d :: ds, ns, e => by
    cases d with
    | int i =>
      unfold intsF at e
      cases q : intsF ds with
      | none => rw [q] at e; cases e
      | some ms =>
        rw [q] at e
        cases e
        rw [intsF_some q]
        rfl
    | _ => cases e
theorem tupI_some {d : PyData} {k : List Int} (e : tupI d = some k) : k ≠ [] ∧ d = tupD k := by
  unfold tupI at e
  split at e
  · split at e
    · rename_i ds _ n ns q
      cases e
      exact ⟨by simp, by rw [intsF_some q]; rfl⟩
    · cases e
  · cases e
theorem tups_tk {K : PySem.W.Frag} {F : Hp} : ∀ {vs : List V} {ds : List PyData} {ks : List (List Int)}, DfAll K F vs ds → tupsF ds = some ks → Paired (TK K F) vs ks
  | _, _, ks, .nil, e => by cases e; exact .nil
  | _, d :: ds, ks, .cons h r, e => by
    unfold tupsF at e
    split at e
    · rename_i k ks' e1 e2
      cases e
      obtain ⟨hn, rfl⟩ := tupI_some e1
      refine .cons ?_ (tups_tk r e2)
      cases h with
      | tup h1 h2 =>
        refine ⟨hn, _, rfl, ?_⟩
        have q := ints_vs h2 (ns := k) (by
          clear h1 h2 e1 hn
          induction k with
          | nil => rfl
          | cons n ns ih => rw [List.map_cons]; unfold intsF; rw [ih]; rfl)
        rw [← q]
        exact h1
    · cases e
theorem tk_df {K : PySem.W.Frag} {F : Hp} : ∀ {ys : List V} {ks : List (List Int)}, Paired (TK K F) ys ks → DfAll K F ys (ks.map tupD)
  | _, _, .nil => .nil
  | _, _, .cons h r => by
    obtain ⟨hn, t, rfl, ht⟩ := h
    exact .cons (.tup ht (df_ints _)) (tk_df r)
theorem items_sq {K : PySem.W.Frag} {F H : Hp} {a : PyData} {ds : List PyData} {x : V} (s : Same F H) (r : rP K F H a x) (e : itemsF a = some ds) : ∃ p vs, x = .ref p ∧ SqX K H p vs ∧ DfAll K F vs ds := by
  unfold itemsF at e
  split at e
  · cases e
    obtain ⟨p, vs, rfl, hp, h2⟩ := rP.list s r
    exact ⟨p, vs, rfl, .inl (.of hp), h2⟩
  · cases e
    have r := r.df (fun _ z => nomatch z)
    cases r with
    | tup h1 h2 => exact ⟨_, _, rfl, .inr (tupT s h1), h2⟩
  · cases e
theorem TK.mono {K : PySem.W.Frag} {F H : Hp} {x : V} {k : List Int} (s : Same F H) (h : TK K F x k) : TK K H x k := by
  obtain ⟨hn, t, e, ht⟩ := h
  exact ⟨hn, t, e, s _ _ ht⟩
section
variable {X : Cx} {W : WX}
theorem c_sorted : Call1T X (.builtin "sorted") sortF := by
  refine ⟨_, cr_sort, fun a ds e x F H Q s r q => ?_⟩
  unfold sortF at e
  cases q1 : itemsF a with
  | none => rw [q1] at e; cases e
  | some es =>
    rw [q1] at e
    obtain ⟨p, vs, rfl, hp, h2⟩ := items_sq s r q1
    refine ⟨p, vs, rfl, hp, ?_⟩
    cases q2 : intsF es with
    | some ns =>
      simp only [q2] at e
      cases e
      refine .inl ⟨ns, ints_vs h2 q2, fun ns' l hp2 hs hl => ?_⟩
      rw [sortI_uniq hp2 hs]
      exact q l _ F H (Grow.refl s) hl (df_ints _)
    | none =>
      simp only [q2] at e
      cases q3 : tupsF es with
      | none => rw [q3] at e; cases e
      | some ks =>
        rw [q3] at e
        cases e
        refine .inr ⟨TK X.K F, ks, fun _ _ h => h.mono s, tups_tk h2 q3, fun ys ks' l hy hp2 hs hl => ?_⟩
        have e4 := sortL_uniq hp2 hs
        subst e4
        exact q l ys F H (Grow.refl s) hl (tk_df hy)
variable {pos p : Pos} {e : Expr} {x : Str} {m : M PyData} {kws : List Keyword}
theorem vt_sortedR (hm : X.mg x = none) (hv : bootBuiltins x = some (.builtin "sorted")) (hk : PK X kws (fun σ H Q => Q [.bl true] H)) (h : VP X W e m) (hg : Gl X x := by rfl) (hst : starEach [e] X.env = (false, eval e X.env) :: starEach [] X.env := by rfl) (hn : x ≠ "__name__" := by decide) (hdb : (x == ("__debug__" : Str)) = false := by decide)
    (he : backTo pos (starEach [e] X.env) = (false, eval e X.env) :: backTo pos (starEach [] X.env) := by rfl) (hpl : (backTo pos (starEach [e] X.env)).any (·.1) = false := by rfl)
    (hall : (backToKw pos (keywordEach kws X.env)).all (·.1.isSome) = true := by rfl) (hnone : (backToKw pos (keywordEach kws X.env)).any (·.1.isNone) = false := by rfl) (hks : (backToKw pos (keywordEach kws X.env)).filterMap (·.1) = [Str.ofString "reverse"] := by rfl) :
    VT X W (.Call (.Name x p) [e] kws pos) (mC1T sortFR m) := by
  obtain ⟨t, pe, s⟩ := h
  refine ⟨_, pe_callBK cr_sortR hg hm hv (pa_cons pe pa_nil hst) hk hn hdb he hpl hall hnone hks, fun Γ σ F H O Q k h => s Γ σ F H O _ k ?_⟩
  unfold mC1T at h
  refine HitT.bindN h fun d Γ1 v F1 H1 O1 k1 r1 s1 h1 => ?_
  unfold oM sortFR at h1
  cases q1 : itemsF d with
  | none => rw [q1] at h1; exact h1.elim
  | some es =>
    simp only [q1] at h1
    cases q2 : intsF es with
    | none => rw [q2] at h1; exact h1.elim
    | some ns =>
      rw [q2] at h1
      obtain ⟨p, vs, rfl, hp, h2⟩ := items_sq k1.sub r1 q1
      have e := ints_vs h2 q2
      subst e
      refine ⟨p, ns, rfl, rfl, hp, fun ns' l hp2 hs hl => ?_⟩
      have e5 : ns' = (sortI ns).reverse := by
        have := sortI_uniq (ns := ns) (ms := ns'.reverse) ((List.reverse_perm _).trans hp2) (by rw [List.pairwise_reverse]; exact hs)
        rw [← this, List.reverse_reverse]
      subst e5
      exact HitT.newL (o := []) h1 k1 hl (of_ice (df_ints _)) k1.nd (fun _ m => nomatch m)
end
end TW

/-! enumerate, zip, list(range) -/
namespace TW
open PySem PySem.Spec L2 PySem.Calls
/-! ### enumerate(tuple) -/
theorem meets_enumB {v : Value} {o : Obj} {H : Heap → Prop} (B : Begins v o H) :
    Meets (Builtin.«enumerate.__new__» ⟨[.type "enumerate", v], []⟩) (fun _ R s => H s.heap ∧
      R (.ok (.ret (.ref (s.heap.push o).objs.size))) { s with heap := (s.heap.push o).push { cls := .type "enumerate", data := .fields #[.none, .bool false, .ref s.heap.objs.size, rawInt 0, .none, .none] } }) :=
  .of_wp fun prog w A R s h => by
    obtain ⟨hp, g, d, tk, os⟩ := s; obtain ⟨h1, h⟩ := h
    have hsub := sub_enumerate
    have q1 : ∀ {A' : Around} {E : Value → Shared → Prop} {Q : Value → Shared → Prop}, Q (.ref hp.objs.size) ⟨hp.push o, g, d, tk, os⟩ → wpAny (model prog w) A' (pyIter v) Q E ⟨hp, g, d, tk, os⟩ :=
      fun q => B.iter prog w _ _ ⟨hp, g, d, tk, os⟩ _ h1 q
    wp_walk using q1
    refine wpAny_stack_any fun st => wpAny_pure ?_
    split
    · rename_i c _ _ _ _ _
      cases (c == Value.type "enumerate")
      · wp_walk using q1
        exact ⟨_, rfl, h⟩
      · wp_walk using q1
        exact ⟨_, rfl, h⟩
    · wp_walk using q1
      exact ⟨_, rfl, h⟩
section
variable {prog : Program} {w : World} {A : Around} {E : Value → Shared → Prop} {s : Shared}
theorem call_enumB {v : Value} {o : Obj} {H : Heap → Prop} {Q : Value → Shared → Prop} (B : Begins v o H) (h1 : H s.heap)
    (h : ∀ h', IsEnum h' (s.heap.objs.size + 1) s.heap.objs.size 0 .none → h'.get? s.heap.objs.size = some o → h'.objs.size = s.heap.objs.size + 2 →
      (∀ b o, s.heap.get? b = some o → h'.get? b = some o) → Q (.ref (s.heap.objs.size + 1)) { s with heap := h' }) :
    wpAny (model prog w) A (call (.type "enumerate") [v]) Q E s := by
  refine callType_new F.called_enumerate (by decide) (F.typeCall_enumerate_1 _) (F.newCall_enumerate_1 _) (fun obj => F.args_object_init_2 obj _) F.entry_enumerate_new
    (meets_enumB B) ⟨h1, ?_⟩
  have hz : (s.heap.push o).objs.size = s.heap.objs.size + 1 := Heap.size_push ..
  show _ ∧ _
  rw [hz]
  have he : IsEnum ((s.heap.push o).push { cls := .type "enumerate", data := .fields #[.none, .bool false, .ref s.heap.objs.size, rawInt 0, .none, .none] }) (s.heap.objs.size + 1) s.heap.objs.size 0 .none := by
    have := Heap.get?_push_size (s.heap.push o) (o := { cls := .type "enumerate", data := .fields #[.none, .bool false, .ref s.heap.objs.size, rawInt 0, .none, .none] }) rfl
    rw [hz] at this; exact this
  refine ⟨⟨_, he, rfl⟩, h _ he (Heap.get?_push_of_some _ (Heap.get?_push_size _ B.free)) (by rw [Heap.size_push, hz]) fun b o x => Heap.get?_push_of_some _ (Heap.get?_push_of_some _ x)⟩
end
/-- the tuple at a, each item in a new pair -/
def IteT (K : PySem.W.Frag) (a : Addr) : It :=
  ⟨fun i H => ∃ (xs : List V) (x : V), SqT K H a xs ∧ xs[i]? = some x, fun i H v H' => ∃ T x, v = .ref T ∧ H T = none ∧ H' = upd H T (.tup [.int (i : Nat), x]) ∧ ∀ xs, SqT K H a xs → xs[i]? = some x, fun i H => ∃ xs : List V, SqT K H a xs ∧ xs.length ≤ i⟩
theorem turn_enumT {P : Program} {w : World} {K : PySem.W.Frag} {elts : List Expr} {kk : Nat} {tpos : Pos} (a e it : Addr) :
    Turn P w K (.Tuple elts kk tpos) (IteT K a) [e, it] e (fun i h => (∃ old, IsEnum h e it ((i : Nat) : Int) old) ∧ h.IsTupleIter it a i ∧ e ≠ it) where
  mem := by simp
  obj := fun i h st b hb => by
    obtain ⟨⟨old, he⟩, ⟨o, ho, hc, hd⟩, _⟩ := st
    have e' : b = e ∨ b = it := by simpa using hb
    rcases e' with z | z
    · rw [z]; exact ⟨_, he, fun v q => nomatch q⟩
    · rw [z]; exact ⟨o, ho, fun v q => by rw [hd] at q; cases q⟩
  keep := fun i h h' st k => let ⟨⟨old, he⟩, hi, hne⟩ := st; ⟨⟨old, k e (by simp) _ he⟩, hi.at fun o q => k it (by simp) o q, hne⟩
  item := by
    intro X hP hw hK hc i pins s σ H E I hf st hg
    subst hP hw hK
    obtain ⟨⟨old, he⟩, hit, hne⟩ := st
    obtain ⟨xs, x, hq, hx⟩ := hg
    obtain ⟨its, rv, p, hz⟩ := I.tuple hq
    obtain ⟨u, hu, ru⟩ := rv.get hx
    have hel : e < s.heap.objs.size := Heap.lt_size he
    have hil : it < s.heap.objs.size := by obtain ⟨_, q, _⟩ := hit; exact Heap.lt_size q
    have hli := (List.getElem?_eq_some_iff.mp hu).1
    obtain ⟨op, hop, hcp, _⟩ := id p
    obtain ⟨oi, hoi, hci, _⟩ := id hit
    have ane : a ≠ it := fun z => by
      rw [z, hoi] at hop
      cases hop
      rw [hcp] at hci
      exact absurd (Value.type.inj hci) (by decide)
    have eane : e ≠ a := fun z => by
      rw [← z] at hop
      rw [show s.heap.get? e = _ from he] at hop
      cases hop
      exact absurd (Value.type.inj hcp) (by decide)
    refine wpAny_pyNext_enum_itemD (Draws.tuple (A := X.A.in1) (show X.A.in1.handled = none from I.ok.hd hc) it a ane its.toArray) he ⟨hit, (show s.heap.IsTuple a its.toArray from p)⟩ (i := i) (by simpa using hli) hne (by simp [hne, eane]) fun u' h' tk hPx ho hst hT hsz hk => ?_
    have eu : u' = u := by
      have h1 : its[i]? = some u' := by simpa using hPx
      rw [hu] at h1
      exact (Option.some.inj h1).symm
    subst eu
    have hit' := hst.1
    refine ⟨_, rfl, wpAny_letOwnedTupleGo_enum (s := { s with heap := h', toks := tk + 1 }) ho fun h'' he' sb => ?_⟩
    have hT2 : h''.get? s.heap.objs.size = some { cls := .type "tuple", data := .seq #[.int i tk, u'] } := (sb.2 _ (Nat.ne_of_gt hel)).trans hT
    have new : ObjOk X.prog X.w (upd H s.heap.objs.size (.tup [.int (i : Nat), x])) h'' s.heap.objs.size (.tup [.int (i : Nat), x]) :=
      ⟨by show 2 ≤ sizeLine; decide, [.int i tk, u'], .cons ⟨_, rfl⟩ (.cons ru .nil), ⟨_, hT2, rfl, _, rfl⟩⟩
    have I1 : Inv X pins σ (upd H s.heap.objs.size (.tup [.int (i : Nat), x])) { s with heap := h'', toks := tk + 1 } :=
      I.turnedNew (ch := [e, it]) (fun b ob hb q => (sb.2 b (fun z => hb (by simp [z]))).trans (hk b ob (fun z => hb (by simp [z])) (fun z => hb (by simp [z])) q)) hf (Nat.le_refl _) new
    refine ⟨.ref s.heap.objs.size, _, I1, rfl, ⟨_, x, rfl, I.hok.fresh (Nat.le_refl _), rfl, fun ys hy => by rw [I.tuple_inj hy hq]; exact hx⟩, ⟨⟨u', ?_⟩, hit'.at fun o q => (sb.2 it (Ne.symm hne)).trans q, hne⟩, fun b hb => ?_⟩
    · have e1 : ((i + 1 : Nat) : Int) = (i : Int) + 1 := by omega
      rw [e1]; exact he'
    · have hb' : b < s.heap.objs.size := by
        have e' : b = e ∨ b = it := by simpa using hb
        rcases e' with z | z
        · rw [z]; exact hel
        · rw [z]; exact hil
      rw [upd_ne (Nat.ne_of_lt hb')]
      exact (hf b hb).1
  done := by
    intro X hP hw hK hc i pins s σ H E I hf st hg
    subst hP hw hK
    obtain ⟨⟨old, he⟩, hit, hne⟩ := st
    obtain ⟨xs, hq, hx⟩ := hg
    obtain ⟨its, rv, p, hz⟩ := I.tuple hq
    obtain ⟨f0, f1, f2, f3, f4, f5⟩ := hf it (by simp)
    have hl := rv.length
    have h0 : X.A.handled = none := I.ok.hd hc
    have hsub : wpAny (model X.prog X.w) X.A (pyNext (.ref e)) (fun r s1 => r = none ∧ Inv X pins σ H s1) E s := by
      have hT : s.TypeIs (.ref e) "enumerate" := ⟨_, he, rfl⟩
      unfold pyNext
      refine wpAny_bind (wpAny_attempt (wpAny_callSpecial?_slot (name := Str.ofString "__next__") hT F.slot_enumerate_next
        (wpAny_call_entry F.slot_enumerate_next hT F.entry_enumerate_next ?_ (F.args_enumerate_next_1 _))))
      show wpAny _ _ (field (.ref e) 2 >>= _) _ _ _
      refine wpAny_bind (wpAny_field he rfl (x := .ref it) rfl ?_)
      refine wpAny_bind (wpAny_nextOf_tuple_end (A := X.A.in1) (show X.A.in1.handled = none from h0) hit (show s.heap.IsTuple a its.toArray from p) (by simp; omega) fun h' x he' hx' => ?_)
      obtain ⟨o, ho, hc⟩ := hx'
      refine wpAny_bind (wpAny_isInstance (T := "StopIteration") (b := true) ⟨o, ho, hc⟩ isSubtype_stop ?_)
      exact wpAny_pure ⟨rfl, I.turned (t' := s.toks) (fun b o hb q => he' b o hb q) f0 f1 f3 f4 f5⟩
    exact hsub
  self := fun A i s Q E st h => let ⟨⟨_, he⟩, _⟩ := st; wpAny_pyIter_enum he h
def iEnumX (K : PySem.W.Frag) (ta : TA) : L2.TI := fun σ H R => ta σ H fun vs H1 => ∃ a xs, vs = [.ref a] ∧ ((SqL K H1 a xs ∧ R (Ite K a) H1) ∨ (SqT K H1 a xs ∧ R (IteT K a) H1))
theorem pi_enumX {X : Cx} {e : Expr} {ta : TA} {p pos tpos : Pos} {elts : List Expr} {kk : Nat} (hg : Gl X "enumerate") (hm : X.mg "enumerate" = none) (ha : PA X [e] ta) (hs : starEach [e] X.env = [(false, eval e X.env)] := by rfl) :
    PI X (.Tuple elts kk tpos) (.Call (.Name "enumerate" p) [e] [] pos) (iEnumX X.K ta) := by
  refine ⟨fun pins s σ H R I h => ?_⟩
  refine PyProof.Rows.Call_ (ld_blt I hg hm PyProof.Rows.boot_enumerate (PyProof.Rows.callWith_type1 (thn (ha.run pos pins s σ H _ I h) fun us s1 ⟨vs, H1, I1, r1, q1⟩ => ?_) hs rfl))
  obtain ⟨a, xs, ex, q1⟩ := q1
  subst ex
  have fr : ∀ b ∈ [s1.heap.objs.size + 1, s1.heap.objs.size], FpOk X pins H1 b := fun b hb => by
    have e' : b = s1.heap.objs.size + 1 ∨ b = s1.heap.objs.size := by simpa using hb
    have hle : s1.heap.objs.size ≤ b := by
      rcases e' with z | z
      · rw [z]; exact Nat.le_add_right _ _
      · rw [z]; exact Nat.le_refl _
    exact I1.fpOk hle (I1.hok.fresh hle)
  obtain rfl := Vals.ref1 r1
  rcases q1 with ⟨hq, q⟩ | ⟨hq, q⟩
  · obtain ⟨its, rv, p', hz⟩ := I1.list hq
    refine call_enumerate_list p'.isList fun h' he hit hsz hk => wpAny_pyIter_enum he ?_
    exact ⟨s1.heap.objs.size + 1, [s1.heap.objs.size + 1, s1.heap.objs.size], _, _, H1, rfl, I1.kept (t' := s1.toks) hk, turn_enum a (s1.heap.objs.size + 1) s1.heap.objs.size, ⟨⟨.none, he⟩, hit, Nat.succ_ne_self _⟩, fr, q⟩
  · obtain ⟨its, rv, p', hz⟩ := I1.tuple hq
    refine call_enumB (begins_tuple a its.toArray) (show s1.heap.IsTuple a its.toArray from p') fun h' he hit hsz hk => wpAny_pyIter_enum he ?_
    exact ⟨s1.heap.objs.size + 1, [s1.heap.objs.size + 1, s1.heap.objs.size], _, _, H1, rfl, I1.kept (t' := s1.toks) hk, turn_enumT a (s1.heap.objs.size + 1) s1.heap.objs.size, ⟨⟨.none, he⟩, ⟨_, hit, rfl, rfl⟩, Nat.succ_ne_self _⟩, fr, q⟩
/-! ### enumerate on data -/
def enumL : Nat → List PyData → List PyData
  | _, [] => []
  | k, d :: ds => .tuple [.int k, d] :: enumL (k + 1) ds
theorem enumL_len : ∀ (k : Nat) (ds : List PyData), (enumL k ds).length = ds.length
  | _, [] => rfl
  | k, d :: ds => by unfold enumL; rw [List.length_cons, List.length_cons, enumL_len]
theorem enumL_get : ∀ {ds : List PyData} {k i : Nat} {e : PyData}, (enumL k ds)[i]? = some e → ∃ d, ds[i]? = some d ∧ e = .tuple [.int ((k + i : Nat) : Int), d]
  | [], _, _, _, h => by simp [enumL] at h
  | d :: ds, k, 0, e, h => by unfold enumL at h; exact ⟨d, rfl, (Option.some.inj h).symm⟩
  | d :: ds, k, i + 1, e, h => by
    unfold enumL at h
    obtain ⟨d', h1, h2⟩ := enumL_get (ds := ds) (k := k + 1) (i := i) h
    exact ⟨d', h1, by rw [h2, show k + 1 + i = k + (i + 1) by omega]⟩
theorem enum_yld {K : PySem.W.Frag} {F1 H1 H2 : Hp} {x v : V} {d : PyData} {i : Nat} {T : Addr} (s2 : Same F1 H1) (hT : H1 T = none) (r1 : Df K F1 v d) :
    ∃ F2, Grow F1 H1 F2 (upd H1 T (.tup [.int (i : Nat), v])) ∧ Df K F2 (.ref T) (.tuple [.int ((0 + i : Nat) : Int), d]) := by
  refine ⟨upd F1 T (.tup [.int (i : Nat), v]), Grow.new s2 hT, .tup upd_same ?_⟩
  rw [Nat.zero_add]
  exact .cons (.int _) (.cons (Df.mono (same_upd (none_of_same s2 hT)) _ _ r1) .nil)
theorem walks_enumL {K : PySem.W.Frag} {F H : Hp} {a : Addr} {xs : List V} {ds : List PyData} (h : F a = some (.lst xs)) (r : DfAll K F xs ds) : Walks K F H (enumL 0 ds) (Ite K a) := fun i F1 H1 s1 s2 => by
  have q : SqL K H1 a xs := .inl (.inl (s2 _ _ (s1 _ _ h)))
  refine ⟨fun d e => ?_, fun e => ⟨xs, q, by rw [DfAll.length r, ← enumL_len 0 ds]; exact e⟩⟩
  obtain ⟨d', e1, rfl⟩ := enumL_get e
  obtain ⟨v, e2, r1⟩ := DfAll.get r e1
  refine ⟨⟨xs, v, q, e2⟩, fun x H2 y => ?_⟩
  obtain ⟨T, x', rfl, hT, rfl, y⟩ := y
  have := y xs q
  rw [e2] at this
  cases this
  exact enum_yld (x := .non) (H2 := H1) s2 hT (Df.mono s1 _ _ r1)
theorem walks_enumT {K : PySem.W.Frag} {F H : Hp} {a : Addr} {xs : List V} {ds : List PyData} (h : F a = some (.tup xs)) (r : DfAll K F xs ds) : Walks K F H (enumL 0 ds) (IteT K a) := fun i F1 H1 s1 s2 => by
  have q : SqT K H1 a xs := sqT_mono s2 (tupT s1 h)
  refine ⟨fun d e => ?_, fun e => ⟨xs, q, by rw [DfAll.length r, ← enumL_len 0 ds]; exact e⟩⟩
  obtain ⟨d', e1, rfl⟩ := enumL_get e
  obtain ⟨v, e2, r1⟩ := DfAll.get r e1
  refine ⟨⟨xs, v, q, e2⟩, fun x H2 y => ?_⟩
  obtain ⟨T, x', rfl, hT, rfl, y⟩ := y
  have := y xs q
  rw [e2] at this
  cases this
  exact enum_yld (x := .non) (H2 := H1) s2 hT (Df.mono s1 _ _ r1)
def mEnum (m : M PyData) : M (List PyData) := bM m fun d => oM ((itemsF d).map (enumL 0))
section
variable {X : Cx} {W : WX} {pos p tpos : Pos} {elts : List Expr} {kk : Nat} {e a b : Expr} {m ma mb : M PyData}
theorem vi_enum (hm : X.mg "enumerate" = none) (h : VD X W e m) (hg : Gl X "enumerate" := by rfl) (hs : starEach [e] X.env = (false, eval e X.env) :: starEach [] X.env := by rfl) : VI X W (.Tuple elts kk tpos) (.Call (.Name "enumerate" p) [e] [] pos) (mEnum m) := by
  obtain ⟨t, pe, s⟩ := h
  refine ⟨_, pi_enumX hg hm (pa_cons pe pa_nil hs) hs, fun Γ σ F H O R k h => s Γ σ F H O _ k ?_⟩
  unfold mEnum at h
  refine HitN.bind h fun d Γ1 v F1 H1 O1 k1 r s1 h1 => ?_
  unfold oM at h1
  cases d with
  | list ds =>
    cases r with
    | lst h2 h3 => exact ⟨_, _, rfl, .inl ⟨.inl (.inl (k1.sub _ _ h2)), h1 _ F1 H1 O1 k1 (walks_enumL h2 h3) Step.refl⟩⟩
  | tuple ds =>
    cases r with
    | tup h2 h3 => exact ⟨_, _, rfl, .inr ⟨tupT k1.sub h2, h1 _ F1 H1 O1 k1 (walks_enumT h2 h3) Step.refl⟩⟩
  | _ => exact h1.elim
/-! ### zip -/
def zipL : List PyData → List PyData → List PyData
  | d :: ds, e :: es => .tuple [d, e] :: zipL ds es
  | _, _ => []
theorem zipL_len : ∀ (ds es : List PyData), (zipL ds es).length = min ds.length es.length
  | [], es => by simp [zipL]
  | d :: ds, [] => by simp [zipL]
  | d :: ds, e :: es => by unfold zipL; simp only [List.length_cons]; rw [zipL_len]; omega
theorem zipL_get : ∀ {ds es : List PyData} {i : Nat} {e : PyData}, (zipL ds es)[i]? = some e → ∃ d d', ds[i]? = some d ∧ es[i]? = some d' ∧ e = .tuple [d, d']
  | [], es, _, _, h => by simp [zipL] at h
  | d :: ds, [], _, _, h => by simp [zipL] at h
  | d :: ds, d' :: es, 0, e, h => by unfold zipL at h; exact ⟨d, d', rfl, rfl, (Option.some.inj h).symm⟩
  | d :: ds, d' :: es, i + 1, e, h => by unfold zipL at h; exact zipL_get (ds := ds) (es := es) (i := i) h
/-- two lists or two tuples -/
def zipF : PyData → PyData → Option (List PyData)
  | .list ds, .list es => some (zipL ds es)
  | .tuple ds, .tuple es => some (zipL ds es)
  | _, _ => none
theorem walks_zipL {K : PySem.W.Frag} {F H : Hp} {a b : Addr} {xs ys : List V} {ds es : List PyData} (h : F a = some (.lst xs)) (r : DfAll K F xs ds) (h' : F b = some (.lst ys)) (r' : DfAll K F ys es) : Walks K F H (zipL ds es) (Itz K a b) := fun i F1 H1 s1 s2 => by
  have q : SqL K H1 a xs := .inl (.inl (s2 _ _ (s1 _ _ h)))
  have q' : SqL K H1 b ys := .inl (.inl (s2 _ _ (s1 _ _ h')))
  refine ⟨fun d e => ?_, fun e => ⟨xs, ys, q, q', by rw [zipL_len] at e; rw [DfAll.length r, DfAll.length r']; omega⟩⟩
  obtain ⟨d1, d2, e1, e2, rfl⟩ := zipL_get e
  obtain ⟨v, e3, r1⟩ := DfAll.get r e1
  obtain ⟨v', e4, r2⟩ := DfAll.get r' e2
  refine ⟨⟨xs, ys, v, v', q, q', e3, e4⟩, fun x H2 y => ?_⟩
  obtain ⟨T, x', y', rfl, hT, rfl, z1, z2⟩ := y
  have := z1 xs q
  rw [e3] at this
  cases this
  have := z2 ys q'
  rw [e4] at this
  cases this
  have g := same_upd (o := .tup [v, v']) (none_of_same s2 hT)
  exact ⟨upd F1 T (.tup [v, v']), Grow.new s2 hT, .tup upd_same (.cons (Df.mono (s1.trans g) _ _ r1) (.cons (Df.mono (s1.trans g) _ _ r2) .nil))⟩
theorem walks_zipT {K : PySem.W.Frag} {F H : Hp} {a b : Addr} {xs ys : List V} {ds es : List PyData} (h : F a = some (.tup xs)) (r : DfAll K F xs ds) (h' : F b = some (.tup ys)) (r' : DfAll K F ys es) : Walks K F H (zipL ds es) (RZ.ItzT K a b) := fun i F1 H1 s1 s2 => by
  have q : SqT K H1 a xs := sqT_mono s2 (tupT s1 h)
  have q' : SqT K H1 b ys := sqT_mono s2 (tupT s1 h')
  refine ⟨fun d e => ?_, fun e => ⟨xs, ys, q, q', by rw [zipL_len] at e; rw [DfAll.length r, DfAll.length r']; omega⟩⟩
  obtain ⟨d1, d2, e1, e2, rfl⟩ := zipL_get e
  obtain ⟨v, e3, r1⟩ := DfAll.get r e1
  obtain ⟨v', e4, r2⟩ := DfAll.get r' e2
  refine ⟨⟨xs, ys, v, v', q, q', e3, e4⟩, fun x H2 y => ?_⟩
  obtain ⟨T, x', y', rfl, hT, rfl, z1, z2⟩ := y
  have := z1 xs q
  rw [e3] at this
  cases this
  have := z2 ys q'
  rw [e4] at this
  cases this
  have g := same_upd (o := .tup [v, v']) (none_of_same s2 hT)
  exact ⟨upd F1 T (.tup [v, v']), Grow.new s2 hT, .tup upd_same (.cons (Df.mono (s1.trans g) _ _ r1) (.cons (Df.mono (s1.trans g) _ _ r2) .nil))⟩
def mZip (ma mb : M PyData) : M (List PyData) := bM ma fun d => bM mb fun e => oM (zipF d e)
theorem vi_zip (hm : X.mg "zip" = none) (ha : VD X W a ma) (hb : VD X W b mb) (hg : Gl X "zip" := by rfl) (hs : starEach [a, b] X.env = (false, eval a X.env) :: starEach [b] X.env := by rfl) (hs2 : starEach [b] X.env = (false, eval b X.env) :: starEach [] X.env := by rfl) (hpl : (backTo pos (starEach [b] X.env)).any (·.1) = false := by rfl) :
    VI X W (.Tuple elts kk tpos) (.Call (.Name "zip" p) [a, b] [] pos) (mZip ma mb) := by
  obtain ⟨ta, pa, sa⟩ := ha
  obtain ⟨tb, pb, sb⟩ := hb
  refine ⟨_, RZ.pi_zipA hg hm (pa_cons pa (pa_cons pb pa_nil hs2) hs) hs hpl, fun Γ σ F H O R k h => sa Γ σ F H O _ k ?_⟩
  unfold mZip at h
  refine HitN.bind h fun d Γ1 v F1 H1 O1 k1 r s1 h1 => ?_
  refine sb Γ1 σ F1 H1 O1 _ k1 ?_
  refine HitN.bind h1 fun e Γ2 v2 F2 H2 O2 k2 r2 s2 h2 => ?_
  have r := Df.mono s2.f _ _ r
  unfold oM zipF at h2
  split at h2
  · cases r with
    | lst a1 a2 =>
      cases r2 with
      | lst b1 b2 => exact ⟨_, _, _, _, rfl, .inl ⟨.inl (.inl (k2.sub _ _ a1)), .inl (.inl (k2.sub _ _ b1)), h2 _ F2 H2 O2 k2 (walks_zipL a1 a2 b1 b2) Step.refl⟩⟩
  · cases r with
    | tup a1 a2 =>
      cases r2 with
      | tup b1 b2 => exact ⟨_, _, _, _, rfl, .inr ⟨tupT k2.sub a1, tupT k2.sub b1, h2 _ F2 H2 O2 k2 (walks_zipT a1 a2 b1 b2) Step.refl⟩⟩
  · exact h2.elim
/-! ### list(range), tuple(range) -/
def rgF (a b : Int) : Option (List PyData) := if -(2 ^ 62) ≤ a ∧ a < 2 ^ 62 ∧ -(2 ^ 62) ≤ b ∧ b < 2 ^ 62 ∧ (b - a).toNat ≤ 2 ^ 24 then some (upto a (b - a).toNat) else none
def mRgA1 (m : M PyData) : M (List PyData) := bM m fun d => match d with
  | .int n => oM (rgF 0 n)
  | _ => fun _ => none
def mRgA2 (ma mb : M PyData) : M (List PyData) := bM ma fun d => bM mb fun e => match d, e with
  | .int a, .int b => oM (rgF a b)
  | _, _ => fun _ => none
/-- a range handed on -/
def VR (X : Cx) (W : WX) (e : Expr) (m : M (List PyData)) : Prop := ∃ t, PRg X e t ∧ ∀ Γ σ F H O (Q : Int → Int → Hp → Prop), Ok X.K F H Γ σ O →
  HitN X.K W (fun _ _ ds (ab : Int × Int) => RgOk ab.1 ab.2 ∧ ds = upto ab.1 (ab.2 - ab.1).toNat) (m Γ) σ F H O (fun ab H => Q ab.1 ab.2 H) → t σ H Q
theorem rgF_ok {a b : Int} {ds : List PyData} (h : rgF a b = some ds) : RgOk a b ∧ ds = upto a (b - a).toNat := by
  unfold rgF at h
  split at h
  · rename_i q; cases h; exact ⟨q, rfl⟩
  · cases h
theorem vr_1 (hm : X.mg "range" = none) (h : VD X W a m) (hg : Gl X "range" := by rfl) (na : starEach [a] X.env = (false, eval a X.env) :: starEach [] X.env := by rfl) : VR X W (.Call (.Name "range" p) [a] [] pos) (mRgA1 m) := by
  obtain ⟨t, pe, s⟩ := h
  refine ⟨_, prg_1 hg hm pe na, fun Γ σ F H O Q k h => s Γ σ F H O _ k ?_⟩
  unfold mRgA1 at h
  refine HitN.bind h fun d Γ1 v F1 H1 O1 k1 r s1 h1 => ?_
  split at h1
  · cases r
    refine ⟨_, rfl, ?_⟩
    unfold oM at h1
    cases q : rgF 0 _ with
    | none => rw [q] at h1; exact h1.elim
    | some ds => rw [q] at h1; exact h1 (_, _) F1 H1 O1 k1 (rgF_ok q) Step.refl
  · exact h1.elim
theorem vr_2 (hm : X.mg "range" = none) (ha : VD X W a ma) (hb : VD X W b mb) (hg : Gl X "range" := by rfl) (na : starEach [a, b] X.env = (false, eval a X.env) :: starEach [b] X.env := by rfl)
    (nb : starEach [b] X.env = (false, eval b X.env) :: starEach [] X.env := by rfl) (hp : (backTo pos (starEach [b] X.env)).any (·.1) = false := by rfl) : VR X W (.Call (.Name "range" p) [a, b] [] pos) (mRgA2 ma mb) := by
  obtain ⟨ta, pa, sa⟩ := ha
  obtain ⟨tb, pb, sb⟩ := hb
  refine ⟨_, prg_2 hg hm pa pb na nb hp, fun Γ σ F H O Q k h => sa Γ σ F H O _ k ?_⟩
  unfold mRgA2 at h
  refine HitN.bind h fun d Γ1 v F1 H1 O1 k1 r s1 h1 => ?_
  refine sb Γ1 σ F1 H1 O1 _ k1 ?_
  refine HitN.bind h1 fun d2 Γ2 v2 F2 H2 O2 k2 r2 s2 h2 => ?_
  split at h2
  · cases r
    cases r2
    refine ⟨_, _, rfl, rfl, ?_⟩
    unfold oM at h2
    cases q : rgF _ _ with
    | none => rw [q] at h2; exact h2.elim
    | some ds => rw [q] at h2; exact h2 (_, _) F2 H2 O2 k2 (rgF_ok q) Step.refl
  · exact h2.elim
theorem df_rg {K : PySem.W.Frag} {F : Hp} (a b : Int) : DfAll K F (rgV a b) (upto a (b - a).toNat) := by
  unfold rgV upto
  generalize List.range (b - a).toNat = l
  induction l with
  | nil => exact .nil
  | cons x l ih => exact .cons (.int _) ih
def mLstR (m : M (List PyData)) : M T := bM m fun ds => pM (.lst (ds.map .frz))
def mTupR (m : M (List PyData)) : M PyData := bM m fun ds => pM (.tuple ds)
theorem vt_listRg {mm : M (List PyData)} (hc : X.calm = true) (hm : X.mg "list" = none) (he : VR X W e mm) (hg : Gl X "list" := by rfl) (na : starEach [e] X.env = (false, eval e X.env) :: starEach [] X.env := by rfl) : VT X W (.Call (.Name "list" p) [e] [] pos) (mLstR mm) := by
  obtain ⟨t, pe, s⟩ := he
  refine ⟨_, pe_listRg hc hg hm pe na, fun Γ σ F H O Q k h => s Γ σ F H O _ k ?_⟩
  unfold mLstR at h
  refine HitT.bindN h fun ds Γ1 ab F1 H1 O1 k1 r1 s1 h1 => ?_
  obtain ⟨ok, rfl⟩ := r1
  exact ⟨ok, fun q hq => HitT.newL (o := []) h1 k1 hq (of_ice (df_rg _ _)) k1.nd (fun _ m => nomatch m)⟩
theorem vd_tupRg {mm : M (List PyData)} (hc : X.calm = true) (hm : X.mg "tuple" = none) (he : VR X W e mm) (hg : Gl X "tuple" := by rfl) (na : starEach [e] X.env = (false, eval e X.env) :: starEach [] X.env := by rfl) : VD X W (.Call (.Name "tuple" p) [e] [] pos) (mTupR mm) := by
  obtain ⟨t, pe, s⟩ := he
  refine ⟨_, pe_tupRg hc hg hm pe na, fun Γ σ F H O Q k h => s Γ σ F H O _ k ?_⟩
  unfold mTupR at h
  refine HitN.bind h fun ds Γ1 ab F1 H1 O1 k1 r1 s1 h1 => ?_
  obtain ⟨ok, rfl⟩ := r1
  refine ⟨ok, fun q hq => ?_⟩
  obtain ⟨g, z⟩ := grow_tup k1.sub hq (df_rg (K := X.K) (F := F1) ab.1 ab.2)
  exact h1 _ _ _ O1 (k1.grow g) z g.step
end
end TW

/-! comparisons of data, min, max of sequences, is True, chains of three -/
namespace TW
open PySem PySem.Spec L2 PySem.W PySem.SeqAt
/-- the two may be compared -/
def cmpOk (a b : PyData) : Bool := alike a b && !isNo a && decide (a.depth ≤ 60) && (noDic a && noDic b)
def ordF (g : PyData → PyData → Bool) : OpF := fun a b => if cmpOk a b = true then some (.bool (g a b)) else none
def ltxF : OpF := ordF dataLt
def gtxF : OpF := ordF fun a b => dataLt b a
def lexF : OpF := ordF fun a b => !dataLt b a
def gexF : OpF := ordF fun a b => !dataLt a b
theorem isNo_ne {a : PyData} (h : isNo a = false) : a ≠ .none := fun e => by rw [e] at h; cases h
def rCmpD (K : PySem.W.Frag) (g : PyData → PyData → Bool) : R2 := fun x y H Q => ∃ d e, Dp K H x d ∧ Dp K H y e ∧ cmpOk d e = true ∧ Q (.bl (g d e)) H
theorem cmpOk_all {A : Around} {d e : PyData} (hu : A.units + 65 < cLine) (h : cmpOk d e = true) : alike d e = true ∧ d ≠ .none ∧ A.units + min d.depth e.depth < cLine := by
  unfold cmpOk at h
  simp only [Bool.and_eq_true, Bool.not_eq_true', decide_eq_true_eq] at h
  exact ⟨h.1.1.1, isNo_ne h.1.1.2, by omega⟩
theorem cmpOk_no {d e : PyData} (h : cmpOk d e = true) : noDic d = true ∧ noDic e = true := by
  unfold cmpOk at h
  simp only [Bool.and_eq_true] at h
  exact h.2
section
variable {X : Cx}
theorem op_ltx (hu : X.A.units + 65 < cLine) : OpR X (compareOp .Lt) (rCmpD X.K dataLt) := by
  intro pins s σ H x y v u Q I rx ry h
  obtain ⟨d, e, hd, he, c, q⟩ := h
  obtain ⟨as, r1⟩ := Dp.reads I d x v hd rx
  obtain ⟨bs, r2⟩ := Dp.reads I e y u he ry
  obtain ⟨c1, c2, c3⟩ := cmpOk_all hu c
  exact lt_data r1 r2 c1 c2 c3 ⟨.bl _, H, I, rfl, q⟩
theorem op_gtx (hu : X.A.units + 65 < cLine) : OpR X (compareOp .Gt) (rCmpD X.K fun a b => dataLt b a) := by
  intro pins s σ H x y v u Q I rx ry h
  obtain ⟨d, e, hd, he, c, q⟩ := h
  obtain ⟨as, r1⟩ := Dp.reads I d x v hd rx
  obtain ⟨bs, r2⟩ := Dp.reads I e y u he ry
  obtain ⟨c1, c2, c3⟩ := cmpOk_all hu c
  exact gt_data r1 r2 c1 c2 c3 ⟨.bl _, H, I, rfl, q⟩
theorem op_lex (hu : X.A.units + 65 < cLine) : OpR X (compareOp .LtE) (rCmpD X.K fun a b => !dataLt b a) := by
  intro pins s σ H x y v u Q I rx ry h
  obtain ⟨d, e, hd, he, c, q⟩ := h
  obtain ⟨as, r1⟩ := Dp.reads I d x v hd rx
  obtain ⟨bs, r2⟩ := Dp.reads I e y u he ry
  obtain ⟨c1, c2, c3⟩ := cmpOk_all hu c
  exact le_data r1 r2 c1 c2 c3 ⟨.bl _, H, I, rfl, q⟩
theorem op_gex (hu : X.A.units + 65 < cLine) : OpR X (compareOp .GtE) (rCmpD X.K fun a b => !dataLt a b) := by
  intro pins s σ H x y v u Q I rx ry h
  obtain ⟨d, e, hd, he, c, q⟩ := h
  obtain ⟨as, r1⟩ := Dp.reads I d x v hd rx
  obtain ⟨bs, r2⟩ := Dp.reads I e y u he ry
  obtain ⟨c1, c2, c3⟩ := cmpOk_all hu c
  exact ge_data r1 r2 c1 c2 c3 ⟨.bl _, H, I, rfl, q⟩
theorem od_ord {op : CmpOp} {g : PyData → PyData → Bool} (h : OpR X (compareOp op) (rCmpD X.K g)) : OpD X (compareOp op) (ordF g) := by
  refine ⟨_, h, fun a b d e x y F H Q s ra rb q => ?_⟩
  unfold ordF at e
  split at e
  · rename_i c
    cases e
    exact ⟨a, b, Df.dp s _ _ ra (cmpOk_no c).1, Df.dp s _ _ rb (cmpOk_no c).2, c, q _ F H (Grow.refl s) (.bl _)⟩
  · cases e
theorem od_ltx (hu : X.A.units + 65 < cLine) : OpD X (compareOp .Lt) ltxF := od_ord (op_ltx hu)
theorem od_gtx (hu : X.A.units + 65 < cLine) : OpD X (compareOp .Gt) gtxF := od_ord (op_gtx hu)
theorem od_lex (hu : X.A.units + 65 < cLine) : OpD X (compareOp .LtE) lexF := od_ord (op_lex hu)
theorem od_gex (hu : X.A.units + 65 < cLine) : OpD X (compareOp .GtE) gexF := od_ord (op_gex hu)
end
theorem cmpOk_int (i j : Int) : cmpOk (.int i) (.int j) = true := rfl
theorem ltxF_int (i j : Int) : ltxF (.int i) (.int j) = some (.bool (decide (i < j))) := by unfold ltxF ordF; rw [cmpOk_int, if_pos rfl, dataLt_int]
theorem gtxF_int (i j : Int) : gtxF (.int i) (.int j) = some (.bool (decide (j < i))) := by unfold gtxF ordF; rw [cmpOk_int, if_pos rfl]; show some (PyData.bool (dataLt (.int j) (.int i))) = _; rw [dataLt_int]
theorem lexF_int (i j : Int) : lexF (.int i) (.int j) = some (.bool (decide (i ≤ j))) := by
  unfold lexF ordF; rw [cmpOk_int, if_pos rfl]; show some (PyData.bool (!dataLt (.int j) (.int i))) = _; rw [dataLt_int]
  by_cases h : j < i
  · rw [decide_eq_true h, decide_eq_false (by omega)]; rfl
  · rw [decide_eq_false h, decide_eq_true (by omega)]; rfl
theorem gexF_int (i j : Int) : gexF (.int i) (.int j) = some (.bool (decide (j ≤ i))) := by
  unfold gexF ordF; rw [cmpOk_int, if_pos rfl]; show some (PyData.bool (!dataLt (.int i) (.int j))) = _; rw [dataLt_int]
  by_cases h : i < j
  · rw [decide_eq_true h, decide_eq_false (by omega)]; rfl
  · rw [decide_eq_false h, decide_eq_true (by omega)]; rfl
/-! ### the order of tuples -/
def ltAll (xs ys : List PyData) : Bool := PyProof.Rows.lexLt PyProof.Rows.itemOrd (keyToksAll xs) (keyToksAll ys)
theorem lt_tup (xs ys : List PyData) : dataLt (.tuple xs) (.tuple ys) = ltAll xs ys := dataLt_tuple xs ys
theorem ltAll_cons {x y : PyData} {xs ys : List PyData} (h : alike x y = true) : ltAll (x :: xs) (y :: ys) = if PyData.eqv x y = true then ltAll xs ys else dataLt x y := by
  unfold ltAll
  cases e : PyData.eqv x y with
  | true => rw [if_pos rfl]; exact dataLt_all_yes h e
  | false => rw [if_neg (by decide)]; exact dataLt_all_no h e
theorem toks_nil : keyToksAll [] = [Sum.inl 0] := by rw [keyToksAll]
theorem ltAll_nil : ltAll [] [] = false := by unfold ltAll; rw [toks_nil, lex_one]; decide
theorem ltAll_nil_cons (x : PyData) (xs : List PyData) : ltAll [] (x :: xs) = true := by
  unfold ltAll; rw [toks_all_cons]
  rw [toks_nil, lex_atom (by decide), lex_one]
  decide
theorem ltAll_cons_nil (x : PyData) (xs : List PyData) : ltAll (x :: xs) [] = false := by
  unfold ltAll; rw [toks_all_cons]
  rw [toks_nil, lex_atom (by decide), lex_one]
  decide
theorem eqv_int (i j : Int) : PyData.eqv (.int i) (.int j) = decide (i = j) := by
  rw [PyData.eqv]
  by_cases h : i = j
  · rw [decide_eq_true h]; exact beq_iff_eq.mpr h
  · rw [decide_eq_false h]; exact beq_eq_false_iff_ne.mpr h
theorem ltAll_int (i j : Int) (xs ys : List PyData) : ltAll (.int i :: xs) (.int j :: ys) = if i = j then ltAll xs ys else decide (i < j) := by
  rw [ltAll_cons rfl, eqv_int, dataLt_int]
  by_cases h : i = j
  · rw [if_pos h, if_pos (decide_eq_true h)]
  · rw [if_neg h, if_neg (by rw [decide_eq_false h]; decide)]
theorem ltAll_ints : ∀ (ns ms : List Int), ltAll (ns.map .int) (ms.map .int) = lexL ns ms
  | [], [] => by rw [List.map_nil, ltAll_nil]; rfl
  | [], m :: ms => by rw [List.map_nil, List.map_cons, ltAll_nil_cons]; rfl
  | n :: ns, [] => by rw [List.map_nil, List.map_cons, ltAll_cons_nil]; rfl
  | n :: ns, m :: ms => by rw [List.map_cons, List.map_cons, ltAll_int, ltAll_ints, lexL_cons]
theorem alike_tupD (k l : List Int) : alike (tupD k) (tupD l) = true := by unfold tupD; rw [alike]; exact alike_ints k l
theorem depth_tupD (k : List Int) : (tupD k).depth = 1 := by unfold tupD; rw [PyData.depth, depth_ints]
theorem cmpOk_tupD (k l : List Int) : cmpOk (tupD k) (tupD l) = true := by unfold cmpOk; rw [alike_tupD, depth_tupD, show noDic (tupD k) = true by unfold tupD; rw [noDic]; exact noDic_map _ (fun _ => by rw [noDic]) _, show noDic (tupD l) = true by unfold tupD; rw [noDic]; exact noDic_map _ (fun _ => by rw [noDic]) _]; rfl
theorem ltxF_tupD (k l : List Int) : ltxF (tupD k) (tupD l) = some (.bool (lexL k l)) := by
  unfold ltxF ordF; rw [cmpOk_tupD, if_pos rfl]; unfold tupD; rw [lt_tup, ltAll_ints]
/-! ### min, max of a sequence -/
def alikeB (ds : List PyData) : Bool := ds.all (fun x => ds.all fun y => alike x y) && ds.all (fun x => !isNo x) && decide (PyData.depthAll ds ≤ 60) && noDicAll ds
theorem alikeB_ok {ds : List PyData} (h : alikeB ds = true) : AlikeAll ds ∧ PyData.depthAll ds ≤ 60 := by
  unfold alikeB at h
  simp only [Bool.and_eq_true, decide_eq_true_eq, List.all_eq_true, Bool.not_eq_true'] at h
  exact ⟨⟨fun x hx y hy => h.1.1.1 x hx y hy, fun x hx => isNo_ne (h.1.1.2 x hx)⟩, h.1.2⟩
theorem alikeB_no {ds : List PyData} (h : alikeB ds = true) : noDicAll ds = true := by
  unfold alikeB at h
  rw [Bool.and_eq_true] at h
  exact h.2
def bestF (g : PyData → List PyData → PyData) (d : PyData) : Option PyData := match itemsF d with
  | some (x :: xs) => if alikeB (x :: xs) = true then some (g x xs) else none
  | _ => none
def minLF := bestF minD
def maxLF := bestF maxD
theorem fold_mem {g : PyData → PyData → Bool} : ∀ (xs : List PyData) (x : PyData), xs.foldl (fun a y => if g a y = true then y else a) x ∈ x :: xs
  | [], x => List.mem_cons_self ..
  | y :: ys, x => by
    rw [List.foldl_cons]
    have := fold_mem (g := g) ys (if g x y = true then y else x)
    rcases List.mem_cons.mp this with e | m
    · rw [e]
      split
      · exact List.mem_cons_of_mem _ (List.mem_cons_self ..)
      · exact List.mem_cons_self ..
    · exact List.mem_cons_of_mem _ (List.mem_cons_of_mem _ m)
theorem minD_mem (x : PyData) (xs : List PyData) : minD x xs ∈ x :: xs := by unfold minD; exact fold_mem (g := fun a y => dataLt y a) xs x
theorem maxD_mem (x : PyData) (xs : List PyData) : maxD x xs ∈ x :: xs := by unfold maxD; exact fold_mem (g := fun a y => dataLt a y) xs x
def rBest (K : PySem.W.Frag) (g : PyData → List PyData → PyData) : List V → Hp → VK → Prop := fun vs H Q => ∃ (a : Addr) (xs : List V) (d : PyData) (ds : List PyData), vs = [V.ref a] ∧ SqX K H a xs ∧ DpAll K H xs (d :: ds) ∧ AlikeAll (d :: ds) ∧ PyData.depthAll (d :: ds) ≤ 60 ∧
  ∀ (i : Nat) (x : V), xs[i]? = some x → (d :: ds)[i]? = some (g d ds) → Q x H
theorem readsAll_get {h : Heap} : ∀ {us : List Value} {ds : List PyData} {as : List Addr} (i : Nat) {u : Value}, ReadsAll h us ds as → us[i]? = some u → ∃ d bs, ds[i]? = some d ∧ Reads h u d bs
  | _, _, _, i, u, .nil, e => by simp at e
  | _, _, _, 0, u, .cons r t, e => by
    cases e
    exact ⟨_, _, rfl, r⟩
  | _, _, _, i + 1, u, .cons r t, e => readsAll_get i t e
section
variable {X : Cx}
theorem best_at {pins : List (Addr × Obj)} {σ : St} {H : Hp} {s : Shared} {xs : List V} {its : List Value} {as bs : List Addr} {ds : List PyData} {b : PyData} {h' : Heap} {i : Nat} {v : Value} {tk : Nat} {Q : VK} (I : L2.Inv X pins σ H s) (rv : Vals xs its) (ra : ReadsAll s.heap its ds as) (al : AlikeAll ds) (mb : b ∈ ds)
    (q : ∀ (i : Nat) (x : V), xs[i]? = some x → ds[i]? = some b → Q x H) (hv : its[i]? = some v) (r : Reads h' v b bs) (hk : ∀ b o, s.heap.get? b = some o → h'.get? b = some o) : EP X pins σ Q v { s with heap := h', toks := tk } := by
  obtain ⟨d, cs, e1, r1⟩ := readsAll_get i ra hv
  have md := List.mem_of_getElem? e1
  have e := alike_unique d b v cs bs (al.1 d md b mb) (reads_keeps hk r1) r
  subst e
  have hi : i < xs.length := by
    have := (List.getElem?_eq_some_iff.mp hv).1
    rw [rv.length]; exact this
  obtain ⟨u, hu, ru⟩ := rv.get (List.getElem?_eq_getElem hi)
  rw [hv] at hu
  cases hu
  exact ⟨xs[i], H, I.kept hk, ru, q i _ (List.getElem?_eq_getElem hi) e1⟩
theorem cr_minX (hc : X.calm = true) (hu : X.A.units + 65 < cLine) : CallR X (.builtin "min") (rBest X.K minD) := by
  intro pins s σ H vs us Q I r h
  obtain ⟨a, xs, d, ds, rfl, hs, hd, al, dp, q⟩ := h
  rw [Vals.ref1 r]
  have h0 : X.A.handled = none := I.ok.hd hc
  rcases hs with hs | hs
  · obtain ⟨its, rv, hl, hz⟩ := I.list hs
    obtain ⟨as, ra⟩ := Dp.readsAll I _ _ _ hd rv
    exact min_list_data h0 hl.isList ra al (by omega) fun i v h' tk bs hv r hk => best_at I rv ra al (minD_mem _ _) q (by simpa using hv) r hk
  · obtain ⟨its, rv, hl, hz⟩ := I.tuple hs
    obtain ⟨as, ra⟩ := Dp.readsAll I _ _ _ hd rv
    exact min_tuple_data h0 (show s.heap.IsTuple a its.toArray from hl) ra al (by omega) fun i v h' tk bs hv r hk => best_at I rv ra al (minD_mem _ _) q (by simpa using hv) r hk
theorem cr_maxX (hc : X.calm = true) (hu : X.A.units + 65 < cLine) : CallR X (.builtin "max") (rBest X.K maxD) := by
  intro pins s σ H vs us Q I r h
  obtain ⟨a, xs, d, ds, rfl, hs, hd, al, dp, q⟩ := h
  rw [Vals.ref1 r]
  have h0 : X.A.handled = none := I.ok.hd hc
  rcases hs with hs | hs
  · obtain ⟨its, rv, hl, hz⟩ := I.list hs
    obtain ⟨as, ra⟩ := Dp.readsAll I _ _ _ hd rv
    exact max_list_data h0 hl.isList ra al (by omega) fun i v h' tk bs hv r hk => best_at I rv ra al (maxD_mem _ _) q (by simpa using hv) r hk
  · obtain ⟨its, rv, hl, hz⟩ := I.tuple hs
    obtain ⟨as, ra⟩ := Dp.readsAll I _ _ _ hd rv
    exact max_tuple_data h0 (show s.heap.IsTuple a its.toArray from hl) ra al (by omega) fun i v h' tk bs hv r hk => best_at I rv ra al (maxD_mem _ _) q (by simpa using hv) r hk
theorem c_best {fo : Value} {g : PyData → List PyData → PyData} (hr : CallR X fo (rBest X.K g)) : Call1 X fo (bestF g) := by
  refine ⟨_, hr, fun a d e x F H Q s r q => ?_⟩
  unfold bestF at e
  split at e
  · rename_i y ys e1
    split at e
    · rename_i e2
      cases e
      obtain ⟨p, vs, rfl, hp, h2⟩ := items_sq s r e1
      obtain ⟨al, dp⟩ := alikeB_ok e2
      refine ⟨p, vs, y, ys, rfl, hp, DfAll.dp s _ _ h2 (alikeB_no e2), al, dp, fun i x ex ed => ?_⟩
      obtain ⟨v, e3, r3⟩ := DfAll.get h2 ed
      rw [ex] at e3
      cases e3
      exact q _ F H (Grow.refl s) r3
    · cases e
  · cases e
theorem c_min1 (hc : X.calm = true) (hu : X.A.units + 65 < cLine) : Call1 X (.builtin "min") minLF := c_best (cr_minX hc hu)
theorem c_max1 (hc : X.calm = true) (hu : X.A.units + 65 < cLine) : Call1 X (.builtin "max") maxLF := c_best (cr_maxX hc hu)
end
end TW

/-! methods of owned lists: pop, remove, extend, reverse, nested append; slices; [x] * n; is True -/
namespace TW
open PySem PySem.Spec L2
section
variable {K : PySem.W.Frag} {F H : Hp}
theorem Ok.edit {Γ : G} {σ : St} {O : List Addr} {i : Nat} {ts : List T} {v : V} (k : Ok K F H Γ σ O) (e : Γ[i]? = some (some (.lst ts))) (ev : σ[i]? = some (some v)) :
    ∃ a vs o, v = .ref a ∧ H a = some (.lst vs) ∧ RepTs K F H ts vs o ∧ o.Nodup ∧ ∀ ts' vs' o2, RepTs K F H ts' vs' o2 → o2.Nodup → (∀ b ∈ o2, b ∈ o) →
      ∃ O4, Ok K F (upd H a (.lst vs')) (Γ.set i (some (.lst ts'))) σ O4 ∧ Step F H O F (upd H a (.lst vs')) O4 := by
  obtain ⟨a, vs, o, O', rfl, ha', hr, k3, n3, x3, s3⟩ := k.lstAt e ev
  have n3' := (List.nodup_cons.mp n3).2
  refine ⟨a, vs, o, rfl, ha', hr, (List.nodup_append.mp n3').1, fun ts' vs' o2 g1 g2 g3 => ?_⟩
  have n4 : (a :: (o2 ++ O')).Nodup := by
    refine List.nodup_cons.mpr ⟨fun m => (List.nodup_cons.mp n3).1 ?_, List.nodup_append.mpr ⟨g2, k3.nd, fun x hx y hy => (List.nodup_append.mp n3').2.2 x (g3 x hx) y hy⟩⟩
    rcases List.mem_append.mp m with m | m
    · exact List.mem_append_left _ (g3 _ m)
    · exact List.mem_append_right _ m
  obtain ⟨O4, k4, s4⟩ := k3.putL ev ha' g1 n4 fun b m => by
    rcases List.mem_cons.mp m with rfl | m
    · exact x3 b (List.mem_cons_self ..)
    · exact x3 b (List.mem_cons_of_mem _ (g3 b m))
  refine ⟨O4, k4, (s3.less fun b m => ?_).trans s4⟩
  rcases List.mem_cons.mp m with rfl | m
  · exact List.mem_cons_self ..
  · rcases List.mem_append.mp m with m | m
    · exact List.mem_cons_of_mem _ (List.mem_append_left _ (g3 b m))
    · exact List.mem_cons_of_mem _ (List.mem_append_right _ m)
/-- frozen items only -/
def flatT : List T → Option (List PyData)
  | [] => some []
  | .frz d :: ts => (flatT ts).map (d :: ·)
  | _ :: _ => none
theorem flatT_some : ∀ {ts : List T} {ds : List PyData}, flatT ts = some ds → ts = ds.map .frz
  | [], ds, e => by cases e; rfl
  | t :: ts, ds, e => by
    cases t with
    | frz d =>
      unfold flatT at e
      cases q : flatT ts with
      | none => rw [q] at e; cases e
      | some es =>
        rw [q] at e
        cases e
        rw [flatT_some q]
        rfl
    | _ => cases e
theorem RepTs.flat : ∀ {ds : List PyData} {vs : List V} {o : List Addr}, RepTs K F H (ds.map .frz) vs o → DfAll K F vs ds
  | [], vs, o, h => by
    unfold RepTs at h
    obtain ⟨rfl, rfl⟩ := h
    exact .nil
  | d :: ds, vs, o, h => by
    rw [List.map_cons] at h
    unfold RepTs at h
    obtain ⟨v, vs', o1, o2, rfl, r, rs, e⟩ := h
    unfold RepT at r
    exact .cons r.1 (RepTs.flat rs)
end
section
variable {X : Cx} {W : WX} {pos p p2 apos : Pos} {e k : Expr} {x : Str} {m mk ma mb : M PyData} {to te : TE} {t : TA}
/-! ### x.pop(k) -/
def popK (i : Nat) (kd : PyData) (Γ : G) : Option (Rs PyData) := match kd, Γ[i]? with
  | .int j, some (some (.lst ts)) => (match ixN ts.length j with
    | some l => (match ts[l]? with
      | some (.frz d) => if ts.length ≤ sizeLine then some (.ok d (Γ.set i (some (.lst (ts.eraseIdx l))))) else none
      | _ => none)
    | none => none)
  | _, _ => none
def mPopAt (i : Nat) (mk : M PyData) : M PyData := fun Γ => match Γ[i]? with
  | some (some (.lst _)) => bM mk (popK i) Γ
  | _ => none
theorem vd_popAt (i : Nat) (hk : VD X W k mk) (hN : X.N[i]? = some x := by rfl) (hv : Vis X.env.scope x := by first | exact Or.inl rfl | exact Or.inr (Or.inl rfl) | exact Or.inr (Or.inr rfl)) (hd : (x == ("__debug__" : Str)) = false := by decide)
    (hcd : (x == ("__classdict__" : Str)) = false := by decide) (hst : starEach [k] X.env = (false, eval k X.env) :: starEach [] X.env := by rfl)
    (pbm : ∀ {te : TE} {ta : TE}, PE X (.Name x p) te → PE X k ta → PE X (.Call (.Attribute (.Name x p) "pop" p2) [k] [] pos) (tBM X.K "list" rPopAt te (tCons ta tNil)) := by
      intro te ta h1 h2; exact pe_bm PySem.F.plainAttrs_list PySem.F.slot_list_pop PySem.F.type_list_pop mt_popAt h1 (pa_cons h2 pa_nil)) :
    VD X W (.Call (.Attribute (.Name x p) "pop" p2) [k] [] pos) (mPopAt i mk) := by
  obtain ⟨t, pe, s⟩ := hk
  refine ⟨_, pbm (pe_var hN hv hd hcd) pe, fun Γ σ F H O Q k h => ?_⟩
  unfold mPopAt at h
  split at h
  · rename_i ts0 e0
    obtain ⟨v0, _, _, ev0, _⟩ := k.take e0
    obtain ⟨a, vs, o, O', rfl, ha, _⟩ := k.lstAt e0 ev0
    refine ⟨_, ev0, .inl ⟨rfl, _, SqL.of ha⟩, s Γ σ F H O _ k ?_⟩
    refine HitN.bind h fun kd Γ1 y F1 H1 O1 k1 r1 s1 h1 => ?_
    unfold popK at h1
    split at h1
    · rename_i j ts e2
      cases r1
      obtain ⟨a', vs2, o2, e3, ha2, hr, n2, ed⟩ := k1.edit e2 ev0
      cases e3
      split at h1
      · rename_i l e4
        split at h1
        · rename_i d e5
          split at h1
          · rename_i hz
            obtain ⟨v, o1, e6, r6, _⟩ := RepTs.get hr e5
            unfold RepT at r6
            obtain ⟨o3, g1, g2, g3⟩ := RepTs.erase l hr n2
            obtain ⟨O4, k4, s4⟩ := ed _ _ _ g1 g2 g3
            obtain ⟨q1, q2, q3, q4⟩ := ixN_seq e4
            have q5 := sizeLine_eq
            refine ⟨a, vs2, j, l, v, rfl, rfl, ha2, by omega, by omega, by rw [RepTs.length hr]; exact q1, e6, ?_⟩
            exact h1 v F1 _ O4 k4 r6.1 s4
          · exact h1.elim
        · exact h1.elim
      · exact h1.elim
    · exact h1.elim
  · exact h.elim
/-! ### x.pop() -/
def mPop (i : Nat) : M PyData := fun Γ => match Γ[i]? with
  | some (some (.lst ts)) => (match ts[ts.length - 1]? with
      | some (.frz d) => some (.ok d (Γ.set i (some (.lst ts.dropLast))))
      | _ => none)
  | _ => none
theorem vd_pop (i : Nat) (hN : X.N[i]? = some x := by rfl) (hv : Vis X.env.scope x := by first | exact Or.inl rfl | exact Or.inr (Or.inl rfl) | exact Or.inr (Or.inr rfl)) (hd : (x == ("__debug__" : Str)) = false := by decide)
    (hcd : (x == ("__classdict__" : Str)) = false := by decide)
    (pbm : ∀ {te : TE}, PE X (.Name x p) te → PE X (.Call (.Attribute (.Name x p) "pop" p2) [] [] pos) (tBM X.K "list" rPop te tNil) := by
      intro te h1; exact pe_bm0 PySem.F.plainAttrs_list PySem.F.slot_list_pop PySem.F.type_list_pop mt_pop h1) :
    VD X W (.Call (.Attribute (.Name x p) "pop" p2) [] [] pos) (mPop i) := by
  refine ⟨_, pbm (pe_var hN hv hd hcd), fun Γ σ F H O Q k h => ?_⟩
  unfold mPop at h
  split at h
  · rename_i ts e0
    obtain ⟨v0, _, _, ev0, _⟩ := k.take e0
    obtain ⟨a, vs2, o2, rfl, ha2, hr, n2, ed⟩ := k.edit e0 ev0
    split at h
    · rename_i d e5
      obtain ⟨v, o1, e6, r6, _⟩ := RepTs.get hr e5
      unfold RepT at r6
      obtain ⟨o3, g1, g2, g3⟩ := RepTs.dropLast hr n2
      obtain ⟨O4, k4, s4⟩ := ed _ _ _ g1 g2 g3
      refine ⟨_, ev0, .inl ⟨rfl, _, SqL.of ha2⟩, a, vs2, v, rfl, rfl, ha2, by rw [RepTs.length hr]; exact e6, ?_⟩
      exact h v F _ O4 k4 r6.1 s4
    · exact h.elim
  · exact h.elim
/-! ### x.remove(k), of ints -/
def remK (i : Nat) (kd : PyData) (Γ : G) : Option (Rs PyData) := match kd, Γ[i]? with
  | .int j, some (some (.lst ts)) => (match (flatT ts).bind intsF with
    | some ns => if j ∈ ns then some (.ok .none (Γ.set i (some (.lst (((ns.erase j).map PyData.int).map .frz))))) else none
    | none => none)
  | _, _ => none
def mRem (i : Nat) (mk : M PyData) : M PyData := fun Γ => match Γ[i]? with
  | some (some (.lst _)) => bM mk (remK i) Γ
  | _ => none
theorem first_at : ∀ {ns : List Int} {k : Int}, k ∈ ns → ∃ j, ns[j]? = some k ∧ (∀ m : Nat, m < j → ns[m]? ≠ some k) ∧ ns.eraseIdx j = ns.erase k
  | n :: ns, k, h => by
    by_cases e : n = k
    · subst e
      exact ⟨0, rfl, fun m hm => by omega, by simp⟩
    · have h' : k ∈ ns := by
        rcases List.mem_cons.mp h with q | q
        · exact absurd q.symm e
        · exact q
      obtain ⟨j, h1, h2, h3⟩ := first_at h'
      refine ⟨j + 1, h1, fun m hm => ?_, ?_⟩
      · cases m with
        | zero => simp [e]
        | succ m => simpa using h2 m (by omega)
      · rw [List.eraseIdx_cons_succ, h3, List.erase_cons, if_neg (by simpa using e)]
theorem vd_rem (i : Nat) (hk : VD X W k mk) (hN : X.N[i]? = some x := by rfl) (hv : Vis X.env.scope x := by first | exact Or.inl rfl | exact Or.inr (Or.inl rfl) | exact Or.inr (Or.inr rfl)) (hd : (x == ("__debug__" : Str)) = false := by decide)
    (hcd : (x == ("__classdict__" : Str)) = false := by decide) (hst : starEach [k] X.env = (false, eval k X.env) :: starEach [] X.env := by rfl)
    (pbm : ∀ {te : TE} {ta : TE}, PE X (.Name x p) te → PE X k ta → PE X (.Call (.Attribute (.Name x p) "remove" p2) [k] [] pos) (tBM X.K "list" rRemI te (tCons ta tNil)) := by
      intro te ta h1 h2; exact pe_bm PySem.F.plainAttrs_list PySem.F.slot_list_remove PySem.F.type_list_remove mt_remove h1 (pa_cons h2 pa_nil)) :
    VD X W (.Call (.Attribute (.Name x p) "remove" p2) [k] [] pos) (mRem i mk) := by
  obtain ⟨t, pe, s⟩ := hk
  refine ⟨_, pbm (pe_var hN hv hd hcd) pe, fun Γ σ F H O Q k h => ?_⟩
  unfold mRem at h
  split at h
  · rename_i ts0 e0
    obtain ⟨v0, _, _, ev0, _⟩ := k.take e0
    obtain ⟨a, vs, o, O', rfl, ha, _⟩ := k.lstAt e0 ev0
    refine ⟨_, ev0, .inl ⟨rfl, _, SqL.of ha⟩, s Γ σ F H O _ k ?_⟩
    refine HitN.bind h fun kd Γ1 y F1 H1 O1 k1 r1 s1 h1 => ?_
    unfold remK at h1
    split at h1
    · rename_i j ts e2
      cases r1
      obtain ⟨a', vs2, o2, e3, ha2, hr, n2, ed⟩ := k1.edit e2 ev0
      cases e3
      split at h1
      · rename_i ns e4
        split at h1
        · rename_i hj
          cases q : flatT ts with
          | none => rw [q] at e4; cases e4
          | some ds =>
            rw [q] at e4
            have e5 := flatT_some q
            subst e5
            have hd := RepTs.flat hr
            have e6 := ints_vs hd e4
            subst e6
            obtain ⟨l, g1, g2, g3⟩ := first_at hj
            obtain ⟨O4, k4, s4⟩ := ed _ _ [] (of_ice (df_ints (ns.erase j))) List.nodup_nil (fun _ m => nomatch m)
            refine ⟨a, ns, j, l, rfl, rfl, ha2, g1, g2, ?_⟩
            rw [g3]
            exact h1 .non F1 _ O4 k4 .non s4
        · exact h1.elim
      · exact h1.elim
    · exact h1.elim
  · exact h.elim
/-! ### x.reverse() -/
def mRev (i : Nat) : M PyData := fun Γ => match Γ[i]? with
  | some (some (.lst ts)) => (match flatT ts with
      | some ds => some (.ok .none (Γ.set i (some (.lst (ds.reverse.map .frz)))))
      | none => none)
  | _ => none
theorem vd_rev (i : Nat) (hN : X.N[i]? = some x := by rfl) (hv : Vis X.env.scope x := by first | exact Or.inl rfl | exact Or.inr (Or.inl rfl) | exact Or.inr (Or.inr rfl)) (hd : (x == ("__debug__" : Str)) = false := by decide)
    (hcd : (x == ("__classdict__" : Str)) = false := by decide)
    (pbm : ∀ {te : TE}, PE X (.Name x p) te → PE X (.Call (.Attribute (.Name x p) "reverse" p2) [] [] pos) (tBM X.K "list" rReverse te tNil) := by
      intro te h1; exact pe_bm0 PySem.F.plainAttrs_list PySem.F.slot_list_reverse PySem.F.type_list_reverse mt_reverse h1) :
    VD X W (.Call (.Attribute (.Name x p) "reverse" p2) [] [] pos) (mRev i) := by
  refine ⟨_, pbm (pe_var hN hv hd hcd), fun Γ σ F H O Q k h => ?_⟩
  unfold mRev at h
  split at h
  · rename_i ts e0
    obtain ⟨v0, _, _, ev0, _⟩ := k.take e0
    obtain ⟨a, vs2, o2, rfl, ha2, hr, n2, ed⟩ := k.edit e0 ev0
    split at h
    · rename_i ds q
      have e5 := flatT_some q
      subst e5
      have hd := RepTs.flat hr
      obtain ⟨O4, k4, s4⟩ := ed _ _ [] (of_ice hd.reverse) List.nodup_nil (fun _ m => nomatch m)
      refine ⟨_, ev0, .inl ⟨rfl, _, SqL.of ha2⟩, a, vs2, rfl, rfl, ha2, ?_⟩
      exact h .non F _ O4 k4 .non s4
    · exact h.elim
  · exact h.elim
/-! ### x.extend(list) -/
def extK (i : Nat) (d : PyData) (Γ : G) : Option (Rs PyData) := match d, Γ[i]? with
  | .list es, some (some (.lst ts)) => if ts.length + es.length ≤ sizeLine then some (.ok .none (Γ.set i (some (.lst (ts ++ es.map .frz))))) else none
  | _, _ => none
def mExt (i : Nat) (m : M PyData) : M PyData := fun Γ => match Γ[i]? with
  | some (some (.lst _)) => bM m (extK i) Γ
  | _ => none
theorem vd_ext (i : Nat) (hk : VD X W k mk) (hN : X.N[i]? = some x := by rfl) (hv : Vis X.env.scope x := by first | exact Or.inl rfl | exact Or.inr (Or.inl rfl) | exact Or.inr (Or.inr rfl)) (hd : (x == ("__debug__" : Str)) = false := by decide)
    (hcd : (x == ("__classdict__" : Str)) = false := by decide) (hst : starEach [k] X.env = (false, eval k X.env) :: starEach [] X.env := by rfl)
    (pbm : ∀ {te : TE} {ta : TE}, PE X (.Name x p) te → PE X k ta → PE X (.Call (.Attribute (.Name x p) "extend" p2) [k] [] pos) (tBM X.K "list" rExtend te (tCons ta tNil)) := by
      intro te ta h1 h2; exact pe_bm PySem.F.plainAttrs_list PySem.F.slot_list_extend PySem.F.type_list_extend mt_extend h1 (pa_cons h2 pa_nil)) :
    VD X W (.Call (.Attribute (.Name x p) "extend" p2) [k] [] pos) (mExt i mk) := by
  obtain ⟨t, pe, s⟩ := hk
  refine ⟨_, pbm (pe_var hN hv hd hcd) pe, fun Γ σ F H O Q k h => ?_⟩
  unfold mExt at h
  split at h
  · rename_i ts0 e0
    obtain ⟨v0, _, _, ev0, _⟩ := k.take e0
    obtain ⟨a, vs, o, O', rfl, ha, _⟩ := k.lstAt e0 ev0
    refine ⟨_, ev0, .inl ⟨rfl, _, SqL.of ha⟩, s Γ σ F H O _ k ?_⟩
    refine HitN.bind h fun kd Γ1 y F1 H1 O1 k1 r1 s1 h1 => ?_
    unfold extK at h1
    split at h1
    · rename_i es ts e2
      obtain ⟨a', vs2, o2, e3, ha2, hr, n2, ed⟩ := k1.edit e2 ev0
      cases e3
      split at h1
      · rename_i hz
        cases r1 with
        | lst hb hd =>
          rename_i b ws
          obtain ⟨O4, k4, s4⟩ := ed (ts ++ es.map .frz) (vs2 ++ ws) (o2 ++ []) (RepTs.append hr (of_ice hd)) (by rw [List.append_nil]; exact n2) (fun b m => by rw [List.append_nil] at m; exact m)
          refine ⟨a, b, vs2, ws, rfl, rfl, ha2, k1.sub _ _ hb, by rw [RepTs.length hr, hd.length]; exact hz, ?_⟩
          exact h1 .non F1 _ O4 k4 .non s4
      · exact h1.elim
    · exact h1.elim
  · exact h.elim
/-! ### slices -/
def cutL {α : Type} (xs : List α) (lo hi : Option Int) : List α := (xs.drop (HT.sIx xs.length 0 lo)).take (HT.sIx xs.length xs.length hi - HT.sIx xs.length 0 lo)
def slcF (d : PyData) (lo hi : Option Int) : Option PyData := match d with
  | .tuple ds => some (.tuple (cutL ds lo hi))
  | .list ds => some (.list (cutL ds lo hi))
  | .str z => if z.length ≤ sizeLine then some (.str (cutS z lo hi)) else none
  | _ => none
def VO (X : Cx) (W : WX) (e : Option Expr) (m : M (Option Int)) : Prop := ∃ t, PO X e t ∧ ∀ Γ σ F H O Q, Ok X.K F H Γ σ O → HitN X.K W (fun _ _ (a : Option Int) b => b = a) (m Γ) σ F H O Q → t σ H Q
def mNone : M (Option Int) := pM none
def mSome (m : M PyData) : M (Option Int) := bM m fun d => match d with
  | .int i => pM (some i)
  | _ => fun _ => none
theorem vo_none : VO X W none mNone := ⟨_, po_none, fun Γ σ F H O Q k h => h none F H O k rfl Step.refl⟩
theorem vo_some (h : VD X W e m) : VO X W (some e) (mSome m) := by
  obtain ⟨t, pe, s⟩ := h
  refine ⟨_, po_some pe, fun Γ σ F H O Q k h => s Γ σ F H O _ k ?_⟩
  unfold mSome at h
  refine HitN.bind h fun d Γ1 v F1 H1 O1 k1 r s1 h1 => ?_
  split at h1
  · cases r
    exact ⟨_, rfl, h1 _ F1 H1 O1 k1 rfl Step.refl⟩
  · exact h1.elim
def mSlice (m : M PyData) (ml mh : M (Option Int)) : M PyData := bM m fun d => bM ml fun l => bM mh fun u => oM (slcF d l u)
theorem df_cut {K : PySem.W.Frag} {F : Hp} {vs : List V} {ds : List PyData} (h : DfAll K F vs ds) (lo hi : Option Int) : DfAll K F (cutV vs lo hi) (cutL ds lo hi) := by
  unfold cutV cutL
  rw [h.length]
  exact (h.drop _).take _
theorem cut_all {α : Type} {xs : List α} {lo hi : Option Int} (h : HT.sIx xs.length 0 lo = 0 ∧ HT.sIx xs.length xs.length hi = xs.length) : cutL xs lo hi = xs := by
  unfold cutL
  rw [h.1, h.2]
  simp
theorem vd_slice {lo hi : Option Expr} {ml mh : M (Option Int)} (he : VD X W e m) (hl : VO X W lo ml) (hh : VO X W hi mh) : VD X W (.Subscript e (.Slice lo hi none p2) pos) (mSlice m ml mh) := by
  obtain ⟨t, pe, s⟩ := he
  obtain ⟨tl, pl, sl⟩ := hl
  obtain ⟨th, ph, sh⟩ := hh
  refine ⟨_, pe_slice ((sl_tupA (X := X)).or ((sl_list (X := X)).or (sl_str (X := X)))) pe pl ph, fun Γ σ F H O Q k h => s Γ σ F H O _ k ?_⟩
  unfold mSlice at h
  refine HitN.bind h fun d Γ1 v F1 H1 O1 k1 r s1 h1 => sl Γ1 σ F1 H1 O1 _ k1 ?_
  refine HitN.bind h1 fun l Γ2 l' F2 H2 O2 k2 r2 s2 h2 => sh Γ2 σ F2 H2 O2 _ k2 ?_
  cases r2
  refine HitN.bind h2 fun u Γ3 u' F3 H3 O3 k3 r3 s3 h3 => ?_
  cases r3
  have r := Df.mono (s2.f.trans s3.f) _ _ r
  unfold oM slcF at h3
  split at h3
  · rename_i ds
    cases r with
    | tup h4 h5 =>
      refine .inl ⟨_, _, rfl, tupT k3.sub h4, fun hw => ?_, fun hw p hp => ?_⟩
      · refine h3 _ F3 H3 O3 k3 ?_ Step.refl
        rw [cut_all (by rw [← h5.length]; exact hw)]
        exact .tup h4 h5
      · obtain ⟨g, z⟩ := grow_tup k3.sub hp (df_cut h5 l u)
        exact h3 _ _ _ O3 (k3.grow g) z g.step
  · rename_i ds
    cases r with
    | lst h4 h5 =>
      refine .inr (.inl ⟨_, _, rfl, .inl (.inl (k3.sub _ _ h4)), fun p hp => ?_⟩)
      obtain ⟨g, z⟩ := grow_lst k3.sub hp (df_cut h5 l u)
      exact h3 _ _ _ O3 (k3.grow g) z g.step
  · split at h3
    · rename_i z hz
      cases r
      exact .inr (.inr ⟨_, rfl, hz, h3 _ F3 H3 O3 k3 (.str _) Step.refl⟩)
    · exact h3.elim
  · exact h3.elim
/-! ### [x] * n -/
def repF (a b : PyData) : Option (List PyData) := match a, b with
  | .list ds, .int k => if -(2 ^ 63) ≤ k ∧ k < 2 ^ 63 ∧ ds.length * k.toNat ≤ sizeLine then some (List.replicate k.toNat ds).flatten else none
  | _, _ => none
theorem df_rep {K : PySem.W.Frag} {F : Hp} {vs : List V} {ds : List PyData} (h : DfAll K F vs ds) : ∀ n : Nat, DfAll K F (List.replicate n vs).flatten (List.replicate n ds).flatten
  | 0 => .nil
  | n + 1 => by rw [List.replicate_succ, List.replicate_succ, List.flatten_cons, List.flatten_cons]; exact h.append (df_rep h n)
def mRep (ma mb : M PyData) : M T := bM ma fun a => bM mb fun b => oM ((repF a b).map fun ds => .lst (ds.map .frz))
theorem vt_rep {a b : Expr} (ha : VD X W a ma) (hb : VD X W b mb) : VT X W (.BinOp a .Mult b pos) (mRep ma mb) := by
  obtain ⟨ta, pa, sa⟩ := ha
  obtain ⟨tb, pb, sb⟩ := hb
  refine ⟨_, pe_op op_rep pa pb, fun Γ σ F H O Q k h => sa Γ σ F H O _ k ?_⟩
  unfold mRep at h
  refine HitT.bindN h fun d Γ1 v F1 H1 O1 k1 r s1 h1 => sb Γ1 σ F1 H1 O1 _ k1 ?_
  refine HitT.bindN h1 fun d2 Γ2 v2 F2 H2 O2 k2 r2 s2 h2 => ?_
  have r := Df.mono s2.f _ _ r
  unfold oM repF at h2
  split at h2
  · split at h2
    · rename_i hk
      cases r2
      cases r with
      | lst h3 h4 =>
        refine ⟨_, _, _, rfl, rfl, k2.sub _ _ h3, hk.1, hk.2.1, by rw [h4.length]; exact hk.2.2, fun p hp => ?_⟩
        exact HitT.newL (o := []) h2 k2 hp (of_ice (df_rep h4 _)) k2.nd (fun _ m => nomatch m)
    · exact h2.elim
  · exact h2.elim
end
/-! ### is True -/
def isTF : OpF
  | .bool a, .bool b => some (.bool (decide (a = b)))
  | _, _ => none
theorem od_isT {X : Cx} : OpD X (compareOp .Is) isTF := by
  refine ⟨_, op_is_bl, fun a b d e x y F H Q s ra rb q => ?_⟩
  unfold isTF at e
  split at e
  · cases e
    cases ra
    cases rb
    exact ⟨_, _, rfl, rfl, q _ F H (Grow.refl s) (.bl _)⟩
  · cases e
end TW

/-! is not True, x[k].append(e) -/
namespace TW
open PySem PySem.Spec L2
def isntTF : OpF
  | .bool a, .bool b => some (.bool (!decide (a = b)))
  | _, _ => none
theorem od_isntT {X : Cx} : OpD X (compareOp .IsNot) isntTF := by
  refine ⟨_, op_isnot_bl, fun a b d e x y F H Q s ra rb q => ?_⟩
  unfold isntTF at e
  split at e
  · cases e
    cases ra
    cases rb
    exact ⟨_, _, rfl, rfl, q _ F H (Grow.refl s) (.bl _)⟩
  · cases e
section
variable {K : PySem.W.Frag}
/-- a list within an owned list, appended to -/
theorem RepTs.setIn {F H : Hp} : ∀ {ts : List T} {vs : List V} {o : List Addr} {l : Nat} {us : List T}, RepTs K F H ts vs o → o.Nodup → ts[l]? = some (.lst us) →
    ∃ b ws, vs[l]? = some (.ref b) ∧ H b = some (.lst ws) ∧ b ∈ o ∧ ws.length = us.length ∧ ∀ (y : V) (d : PyData), Df K F y d → RepTs K F (upd H b (.lst (ws ++ [y]))) (ts.set l (.lst (us ++ [.frz d]))) vs o
  | [], _, _, _, _, _, _, e => by simp at e
  | t :: ts, vs, o, 0, us, h, n, e => by
    cases e
    unfold RepTs at h
    obtain ⟨v, vs', o1, o2, rfl, r, rs, rfl⟩ := h
    unfold RepT at r
    obtain ⟨b, ws, o', rfl, hb, hr, rfl⟩ := r
    have n1 := (List.nodup_append.mp n)
    have nb := (List.nodup_cons.mp n1.1)
    refine ⟨b, ws, rfl, hb, List.mem_append_left _ (List.mem_cons_self ..), RepTs.length hr, fun y d hd => ?_⟩
    have on1 : On o' H (upd H b (.lst (ws ++ [y]))) := fun a m => upd_ne fun e => nb.1 (e ▸ m)
    have on2 : On o2 H (upd H b (.lst (ws ++ [y]))) := fun a m => upd_ne fun e => n1.2.2 b (List.mem_cons_self ..) a m e.symm
    show RepTs K F _ (.lst (us ++ [.frz d]) :: ts) (.ref b :: vs') _
    unfold RepTs
    refine ⟨.ref b, vs', b :: o', o2, rfl, ?_, RepTs.mono (Same.refl _) _ _ _ rs on2, rfl⟩
    unfold RepT
    refine ⟨b, ws ++ [y], o', rfl, upd_same, ?_, rfl⟩
    have := RepTs.append (RepTs.mono (Same.refl _) _ _ _ hr on1) (show RepTs K F (upd H b (.lst (ws ++ [y]))) [.frz d] [y] [] by unfold RepTs RepTs; exact ⟨y, [], [], [], rfl, by unfold RepT; exact ⟨hd, rfl⟩, ⟨rfl, rfl⟩, rfl⟩)
    rwa [List.append_nil] at this
  | t :: ts, vs, o, l + 1, us, h, n, e => by
    unfold RepTs at h
    obtain ⟨v, vs', o1, o2, rfl, r, rs, rfl⟩ := h
    have n1 := (List.nodup_append.mp n)
    obtain ⟨b, ws, h1, h2, h3, h4, h5⟩ := RepTs.setIn rs n1.2.1 (show ts[l]? = some (.lst us) from e)
    refine ⟨b, ws, h1, h2, List.mem_append_right _ h3, h4, fun y d hd => ?_⟩
    show RepTs K F _ (t :: ts.set l (.lst (us ++ [.frz d]))) (v :: vs') _
    unfold RepTs
    have on1 : On o1 H (upd H b (.lst (ws ++ [y]))) := fun a m => upd_ne fun e => n1.2.2 a m b h3 e
    exact ⟨v, vs', o1, o2, rfl, RepT.mono (Same.refl _) _ _ _ r on1, h5 y d hd, rfl⟩
end
section
variable {X : Cx} {W : WX} {pos p p2 p3 : Pos} {e k : Expr} {x : Str} {m mk : M PyData}
/-- behind k: the row is known; e must not touch x -/
def app2K (i : Nat) (m : M PyData) (kd : PyData) : M T := fun Γ => match kd, Γ[i]? with
  | .int j, some (some (.lst ts)) => (match ixN ts.length j with
    | some l => (match ts[l]? with
      | some (.lst us) => bM m (fun d Γ1 => if us.length < sizeLine then some (.ok (.frz .none) (Γ1.set i (some (.lst (ts.set l (.lst (us ++ [.frz d]))))))) else none) (Γ.set i none)
      | _ => none)
    | none => none)
  | _, _ => none
def mApp2 (i : Nat) (mk m : M PyData) : M T := fun Γ => match Γ[i]? with
  | some (some _) => bM mk (app2K i m) Γ
  | _ => none
theorem Ok.upd {K : PySem.W.Frag} {F H : Hp} {Γ : G} {σ : St} {O : List Addr} {b : Addr} {ob : HO} (k : Ok K F H Γ σ O) (hb : b ∉ O) (hf : F b = none) : Ok K F (upd H b ob) Γ σ O :=
  ⟨fun c z q => by
    rw [upd_ne fun w => by subst w; rw [hf] at q; cases q]
    exact k.sub c z q, RepG.mono (Same.refl _) k.rep fun c m => upd_ne fun e => hb (e ▸ m), k.nd, k.out⟩
theorem vt_append2 (i : Nat) (hk : VD X W k mk) (he : VD X W e m) (hN : X.N[i]? = some x := by rfl) (hv : Vis X.env.scope x := by first | exact Or.inl rfl | exact Or.inr (Or.inl rfl) | exact Or.inr (Or.inr rfl)) (hd : (x == ("__debug__" : Str)) = false := by decide)
    (hcd : (x == ("__classdict__" : Str)) = false := by decide) (hst : starEach [e] X.env = (false, eval e X.env) :: starEach [] X.env := by rfl) (hs : PlainIx k := by exact fun _ _ => rfl)
    (pbm : ∀ {te : TE} {ta : TE}, PE X (.Subscript (.Name x p) k p3) te → PE X e ta → PE X (.Call (.Attribute (.Subscript (.Name x p) k p3) "append" p2) [e] [] pos) (tBM X.K "list" rAppend te (tCons ta tNil)) := by
      intro te ta h1 h2; exact pe_bm PySem.F.plainAttrs_list PySem.F.slot_list_append PySem.F.type_list_append mt_append h1 (pa_cons h2 pa_nil)) :
    VT X W (.Call (.Attribute (.Subscript (.Name x p) k p3) "append" p2) [e] [] pos) (mApp2 i mk m) := by
  obtain ⟨tk, pk, sk⟩ := hk
  obtain ⟨t, pe, s⟩ := he
  refine ⟨_, pbm (pe_ix ix_seq (pe_var hN hv hd hcd) pk hs) pe, fun Γ σ F H O Q k h => ?_⟩
  unfold mApp2 at h
  split at h
  case h_2 => exact h.elim
  rename_i t0 e0
  obtain ⟨v0, _, _, ev0, _⟩ := k.take e0
  refine ⟨v0, ev0, sk Γ σ F H O _ k ?_⟩
  refine HitT.bindN h fun kd Γ1 y F1 H1 O1 k1 r1 s1 h1 => ?_
  unfold app2K at h1
  split at h1
  case h_2 => exact h1.elim
  rename_i j ts e2
  cases r1
  obtain ⟨a, vs, o, O', rfl, ha, hr, k3, n3, x3, s3⟩ := k1.lstAt e2 ev0
  split at h1
  case h_2 => exact h1.elim
  rename_i l e4
  split at h1
  case h_2 => exact h1.elim
  rename_i us e5
  have n3' := (List.nodup_cons.mp n3)
  have no := (List.nodup_append.mp n3'.2)
  obtain ⟨b, ws, hvb, hb, mb, hwl, _⟩ := RepTs.setIn hr no.1 e5
  have hat : atI vs j = some (.ref b) := by
    unfold atI
    rw [RepTs.length hr, e4]
    exact hvb
  refine .inl ⟨a, vs, j, .ref b, rfl, rfl, SqL.of ha, hat, .inl ⟨rfl, _, SqL.of hb⟩, s (Γ1.set i none) σ F1 H1 O' _ k3 ?_⟩
  have h1 := HitT.trans h1 s3
  have live : ∀ c ∈ a :: o, H1 c ≠ none := fun c m => by
    rcases List.mem_cons.mp m with rfl | m
    · rw [ha]; exact fun z => nomatch z
    · exact RepTs.live _ _ _ hr c m
  have dj : ∀ c ∈ a :: o, c ∉ O' := fun c m q => by
    rcases List.mem_cons.mp m with rfl | m
    · exact n3'.1 (List.mem_append_right _ q)
    · exact no.2.2 c m c q rfl
  unfold bM at h1
  match q : m (Γ1.set i none), h1 with
  | some (.ex c Γ2), h1 => exact fun F2 H2 O2 k2 s2 => h1 F2 H2 O2 k2 ((s2.hold (o := a :: o)).less fun c m => List.mem_append_right _ m)
  | some (.ok d Γ2), h1 =>
    intro v F2 H2 O2 k2 r2 s2
    dsimp only at h1
    split at h1
    case isFalse => exact h1.elim
    rename_i hz
    have on := s2.on live dj
    have ap := s2.apart live dj
    have out2 := s2.out live dj x3
    have hr2 := RepTs.mono s2.f _ _ _ hr fun c m => on c (List.mem_cons_of_mem _ m)
    obtain ⟨b', ws', hvb', hb', mb', hwl', set'⟩ := RepTs.setIn hr2 no.1 e5
    rw [hvb] at hvb'
    cases hvb'
    have ne : b ≠ a := fun e => n3'.1 (List.mem_append_left _ (e ▸ mb))
    refine ⟨b, ws', v, rfl, rfl, hb', by rw [hwl']; exact hz, ?_⟩
    have k4 : Ok X.K F2 (upd H2 b (.lst (ws' ++ [v]))) Γ2 σ O2 := k2.upd (ap b (List.mem_cons_of_mem _ mb)) (out2 b (List.mem_cons_of_mem _ mb))
    have n4 : ((a :: o) ++ O2).Nodup := List.nodup_append.mpr ⟨List.nodup_cons.mpr ⟨fun m => n3'.1 (List.mem_append_left _ m), no.1⟩, k2.nd, fun c m c' m' q => ap c m (q ▸ m')⟩
    have r4 : RepT X.K F2 (upd H2 b (.lst (ws' ++ [v]))) (.lst (ts.set l (.lst (us ++ [.frz d])))) (.ref a) (a :: o) := by
      unfold RepT
      refine ⟨a, vs, o, rfl, ?_, set' v d r2, rfl⟩
      rw [upd_ne (Ne.symm ne), on a (List.mem_cons_self ..)]
      exact ha
    obtain ⟨O4, k5, s5⟩ := k4.back ev0 r4 n4 out2
    refine h1 .non F2 _ O4 [] k5 (repFrz .non) k5.nd (fun _ m => nomatch m) ?_
    have sh := s2.hold (o := a :: o)
    have hb2 : H2 b ≠ none := by rw [hb']; exact fun z => nomatch z
    refine (sh.trans (F2 := F2) (H2 := upd H2 b (.lst (ws' ++ [v]))) (O2 := (a :: o) ++ O2) ⟨Same.refl _, fun c hc no' => ⟨upd_ne fun e => no' (List.mem_append_left _ (e ▸ List.mem_cons_of_mem _ mb)), id⟩, fun c m => .inl m⟩).trans s5
end
end TW

/-! pure reading: owned lists are read as frozen ones, and stay owned, where what is read out is plain -/
namespace TW
open PySem PySem.Spec L2
/-- no address in it -/
def flatD : PyData → Bool
  | .none | .bool _ | .int _ | .str _ => true
  | _ => false
def flatTs : List T → Bool
  | [] => true
  | .frz d :: ts => flatD d && flatTs ts
  | _ :: _ => false
def flatR : T → Bool
  | .frz d => flatD d
  | .lst ts => flatTs ts
  | _ => false
/-- the slots as they are read -/
def iceS : Option T → Option T
  | some (.scr ns) => some (.scr ns)
  | some t => (fz t).map .frz
  | none => none
def iceG (Γ : G) : G := Γ.map iceS
def mPure (m : M T) : M T := fun Γ => match m (iceG Γ) with
  | some (.ok t _) => if flatR t = true then some (.ok t Γ) else none
  | some (.ex c _) => some (.ex c Γ)
  | none => none
section
variable {K : PySem.W.Frag} {F H : Hp}
theorem df_flat {F' : Hp} {v : V} : ∀ {d : PyData}, flatD d = true → Df K F v d → Df K F' v d
  | .none, _, h => by cases h; exact .non
  | .bool _, _, h => by cases h; exact .bl _
  | .int _, _, h => by cases h; exact .int _
  | .str _, _, h => by cases h; exact .str _
  | .list _, e, _ => by cases e
  | .tuple _, e, _ => by cases e
  | .dict _, e, _ => by cases e
theorem reps_flat {F' H' : Hp} : ∀ {ts : List T} {vs : List V} {o : List Addr}, flatTs ts = true → RepTs K F H ts vs o → o = [] ∧ RepTs K F' H' ts vs []
  | [], vs, o, _, h => by
    unfold RepTs at h
    obtain ⟨rfl, rfl⟩ := h
    exact ⟨rfl, by unfold RepTs; exact ⟨rfl, rfl⟩⟩
  | t :: ts, vs, o, e, h => by
    cases t with
    | frz d =>
      unfold flatTs at e
      rw [Bool.and_eq_true] at e
      unfold RepTs at h
      obtain ⟨v, vs', o1, o2, rfl, r, rs, rfl⟩ := h
      unfold RepT at r
      obtain ⟨r1, rfl⟩ := r
      obtain ⟨rfl, r2⟩ := reps_flat (F' := F') (H' := H') e.2 rs
      refine ⟨rfl, ?_⟩
      unfold RepTs
      exact ⟨v, vs', [], [], rfl, by unfold RepT; exact ⟨df_flat e.1 r1, rfl⟩, r2, rfl⟩
    | _ => cases e
theorem repG_ice (s : Same F H) {O : List Addr} (x : ∀ a ∈ O, F a = none) : ∀ {Γ : G} {σ : St} {o : List Addr}, RepG K F H Γ σ o → (∀ a ∈ o, a ∈ O) → RepG K (icy F H O) H (iceG Γ) σ []
  | [], σ, o, h, _ => by
    unfold RepG at h
    obtain ⟨rfl, rfl⟩ := h
    show RepG K _ H [] [] []
    unfold RepG
    exact ⟨rfl, rfl⟩
  | none :: Γ, σ, o, h, w => by
    unfold RepG at h
    obtain ⟨y, r, rfl, h⟩ := h
    show RepG K _ H (none :: iceG Γ) _ []
    unfold RepG
    exact ⟨y, r, rfl, repG_ice s x h w⟩
  | some t :: Γ, σ, o, h, w => by
    unfold RepG at h
    obtain ⟨v, r, o1, o2, rfl, h1, h2, rfl⟩ := h
    have ih := repG_ice s x h2 fun a m => w a (List.mem_append_right _ m)
    show RepG K _ H (iceS (some t) :: iceG Γ) _ []
    have go : ∀ d, fz t = some d → RepG K (icy F H O) H (some (.frz d) :: iceG Γ) (some v :: r) [] := fun d e => by
      have q := RepT.fz s t v o1 d h1 (fun a m => x a (w a (List.mem_append_left _ m))) e
      unfold RepG
      exact ⟨v, r, [], [], rfl, by unfold RepT; exact ⟨Df.mono (icy_mono s fun a m => w a (List.mem_append_left _ m)) _ _ q, rfl⟩, ih, rfl⟩
    have no : RepG K (icy F H O) H (none :: iceG Γ) (some v :: r) [] := by
      unfold RepG
      exact ⟨some v, r, rfl, ih⟩
    cases t with
    | scr ns =>
      show RepG K _ H (some (.scr ns) :: iceG Γ) _ []
      have h3 := h1
      unfold RepT at h3
      obtain ⟨_, rfl⟩ := h3
      unfold RepG
      exact ⟨v, r, [], [], rfl, RepT.mono (icy_same x) _ _ _ h1 (fun _ m => nomatch m), ih, rfl⟩
    | frz d => exact go d rfl
    | lst ts =>
      show RepG K _ H ((fz (.lst ts)).map T.frz :: iceG Γ) _ []
      cases e : fz (.lst ts) with
      | none => exact no
      | some d => exact go d e
    | dct kvs =>
      show RepG K _ H ((fz (.dct kvs)).map T.frz :: iceG Γ) _ []
      cases e : fz (.dct kvs) with
      | none => exact no
      | some d => exact go d e
    | lck kvs => exact no
    | dtp kvs => exact no
theorem Ok.pure {Γ : G} {σ : St} {O : List Addr} (k : Ok K F H Γ σ O) : Ok K (icy F H O) H (iceG Γ) σ [] :=
  ⟨icy_sub k.sub, repG_ice k.sub k.out k.rep (fun _ m => m), List.nodup_nil, fun _ m => nomatch m⟩
end
section
variable {X : Cx} {W : WX} {e : Expr} {m : M T}
theorem Step.all {F H F' H' : Hp} {O' : List Addr} (s : Step F H [] F' H' O') : Same H H' := fun b x q => by
  rw [(s.fr b (by rw [q]; exact fun z => nomatch z) (fun m => nomatch m)).1]
  exact q
theorem vt_pure (h : VT X W e m) : VT X W e (mPure m) := by
  obtain ⟨t, p, s⟩ := h
  refine ⟨t, p, fun Γ σ F H O Q k h => s (iceG Γ) σ (icy F H O) H [] Q k.pure ?_⟩
  unfold mPure at h
  have fs := icy_same (H := H) k.out
  have lO := RepG.live k.rep
  have grow : ∀ {F' H' : Hp} {O' : List Addr}, Same F' H' → Step (icy F H O) H [] F' H' O' → Grow F H F H' := fun {F' H' O'} s1 s2 =>
    ⟨Same.refl _, s2.all, (fs.trans s2.f).trans s1, fun x q => .inl q⟩
  match q : m (iceG Γ), h with
  | some (.ex c Γ'), h => exact fun F' H' O' k' s' => h F H' O (k.grow (grow k'.sub s')) (grow k'.sub s').step
  | some (.ok t Γ'), h =>
    intro v F' H' O' o k' r n x s'
    dsimp only at h
    split at h
    case isFalse => exact h.elim
    rename_i hf
    have g := grow k'.sub s'
    cases t with
    | frz d =>
      unfold RepT at r
      obtain ⟨r1, rfl⟩ := r
      exact h v F H' O [] (k.grow g) (by unfold RepT; exact ⟨df_flat hf r1, rfl⟩) (k.grow g).nd (fun _ m => nomatch m) g.step
    | lst ts =>
      unfold RepT at r
      obtain ⟨a, vs, o', rfl, ha, hr, rfl⟩ := r
      obtain ⟨rfl, r2⟩ := reps_flat (F' := F) (H' := H') hf hr
      have na : H a = none := by
        rcases s'.own a (List.mem_cons_self ..) with z | z
        · cases z
        · exact z
      have aO : a ∉ O := fun m => lO a m na
      refine h (.ref a) F H' O [a] (k.grow g) (by unfold RepT; exact ⟨a, vs, [], rfl, ha, r2, rfl⟩) (List.nodup_cons.mpr ⟨aO, k.nd⟩) (fun b m => ?_) ⟨Same.refl _, g.step.fr, fun b m => ?_⟩
      · rw [List.mem_singleton.mp m]
        exact none_of_same k.sub na
      · rcases List.mem_cons.mp m with rfl | m
        · exact .inr na
        · exact .inl m
    | _ => cases hf
end
end TW

/-! owned dicts of frozen values: d[k], k in d, d[k] = v, d.pop(k), {k: v} -/
namespace TW
open PySem PySem.Spec L2
def keyD : PyData → Option Key
  | .int i => some (.inl i)
  | .str x => some (.inr x)
  | _ => none
def keysD : List PyData → Option (List Key)
  | [] => some []
  | d :: ds => match keyD d, keysD ds with
    | some k, some ks => some (k :: ks)
    | _, _ => none
def keyT : PyData → Option (List Key)
  | .tuple ds => keysD ds
  | _ => none
def valD {κ : Type} [DecidableEq κ] (kvs : List (κ × PyData)) (k : κ) : Option PyData := (kvs.find? fun kv => decide (kv.1 = k)).map (·.2)
def putD {κ : Type} [DecidableEq κ] (kvs : List (κ × PyData)) (k : κ) (v : PyData) : List (κ × PyData) :=
  if (kvs.any fun kv => decide (kv.1 = k)) = true then kvs.map (fun kv => if kv.1 = k then (kv.1, v) else kv) else kvs ++ [(k, v)]
def dropD {κ : Type} [DecidableEq κ] (kvs : List (κ × PyData)) (k : κ) : List (κ × PyData) := kvs.filter fun kv => decide (kv.1 ≠ k)
abbrev KDf {κ : Type} (K : PySem.W.Frag) (F : Hp) : κ × PyData → κ × V → Prop := fun p q => p.1 = q.1 ∧ Df K F q.2 p.2
section
variable {K : PySem.W.Frag} {F H : Hp}
theorem key_v {d : PyData} {k : Key} {v : V} (e : keyD d = some k) (r : Df K F v d) : v = kV k := by
  unfold keyD at e
  split at e
  · cases e; cases r; rfl
  · cases e; cases r; rfl
  · cases e
theorem keys_v : ∀ {ds : List PyData} {ks : List Key} {vs : List V}, keysD ds = some ks → DfAll K F vs ds → vs = ks.map kV
  | [], _, _, e, .nil => by cases e; rfl
  | d :: ds, ks, _, e, .cons h r => by
    unfold keysD at e
    cases q1 : keyD d with
    | none => rw [q1] at e; cases e
    | some k =>
      cases q2 : keysD ds with
      | none => rw [q1, q2] at e; cases e
      | some l =>
        rw [q1, q2] at e
        cases e
        rw [key_v q1 h, keys_v q2 r]
        rfl
theorem keyT_v {d : PyData} {k : List Key} {v : V} (e : keyT d = some k) (r : Df K F v d) : ∃ b, v = .ref b ∧ F b = some (.tup (k.map kV)) := by
  unfold keyT at e
  split at e
  · cases r with
    | tup h1 h2 => exact ⟨_, rfl, by rw [← keys_v e h2]; exact h1⟩
  · cases e
section
variable {κ : Type} [DecidableEq κ]
theorem val_rep {k : κ} : ∀ {kvs : List (κ × PyData)} {ps : List (κ × V)}, Paired (KDf K F) kvs ps → (∀ d, valD kvs k = some d → ∃ v, valV ps k = some v ∧ Df K F v d) ∧ (valD kvs k = none → valV ps k = none)
  | _, _, .nil => ⟨fun d e => (by cases e), fun _ => rfl⟩
  | (k1, d1) :: kvs, (k2, v2) :: ps, .cons h t => by
    obtain ⟨e, r⟩ := h
    cases (show k1 = k2 from e)
    obtain ⟨i1, i2⟩ := val_rep (k := k) t
    by_cases q : k1 = k
    · subst q
      have e1 : valD ((k1, d1) :: kvs) k1 = some d1 := by simp [valD]
      have e2 : valV ((k1, v2) :: ps) k1 = some v2 := by simp [valV]
      rw [e1, e2]
      exact ⟨fun d z => ⟨v2, rfl, by cases z; exact r⟩, fun z => nomatch z⟩
    · have e1 : valD ((k1, d1) :: kvs) k = valD kvs k := by simp [valD, List.find?_cons, q]
      have e2 : valV ((k1, v2) :: ps) k = valV ps k := by simp [valV, List.find?_cons, q]
      rw [e1, e2]
      exact ⟨i1, i2⟩
theorem any_rep {k : κ} : ∀ {kvs : List (κ × PyData)} {ps : List (κ × V)}, Paired (KDf K F) kvs ps → (kvs.any fun kv => decide (kv.1 = k)) = ps.any fun kv => decide (kv.1 = k)
  | _, _, .nil => rfl
  | (k1, d1) :: kvs, (k2, v2) :: ps, .cons h t => by
    cases (show k1 = k2 from h.1)
    rw [List.any_cons, List.any_cons, any_rep t]
theorem map_rep {k : κ} {d : PyData} {v : V} (r : Df K F v d) : ∀ {kvs : List (κ × PyData)} {ps : List (κ × V)}, Paired (KDf K F) kvs ps → Paired (KDf K F) (kvs.map fun kv => if kv.1 = k then (kv.1, d) else kv) (ps.map fun kv => if kv.1 = k then (kv.1, v) else kv)
  | _, _, .nil => .nil
  | (k1, d1) :: kvs, (k2, v2) :: ps, .cons h t => by
    cases (show k1 = k2 from h.1)
    refine .cons ?_ (map_rep r t)
    by_cases q : k1 = k
    · simp only [q, if_true]; exact ⟨rfl, r⟩
    · simp only [q, if_false]; exact ⟨rfl, h.2⟩
theorem app_rep {p : κ × PyData} {q : κ × V} (h : KDf K F p q) : ∀ {kvs : List (κ × PyData)} {ps : List (κ × V)}, Paired (KDf K F) kvs ps → Paired (KDf K F) (kvs ++ [p]) (ps ++ [q])
  | _, _, .nil => .cons h .nil
  | _, _, .cons a t => .cons a (app_rep h t)
theorem put_rep {k : κ} {d : PyData} {v : V} (r : Df K F v d) {kvs : List (κ × PyData)} {ps : List (κ × V)} (h : Paired (KDf K F) kvs ps) : Paired (KDf K F) (putD kvs k d) (putK ps k v) := by
  unfold putD putK
  rw [any_rep h]
  split
  · exact map_rep r h
  · exact app_rep ⟨rfl, r⟩ h
theorem drop_rep {k : κ} : ∀ {kvs : List (κ × PyData)} {ps : List (κ × V)}, Paired (KDf K F) kvs ps → Paired (KDf K F) (dropD kvs k) (dropK ps k)
  | _, _, .nil => .nil
  | (k1, d1) :: kvs, (k2, v2) :: ps, .cons h t => by
    cases (show k1 = k2 from h.1)
    have ih := drop_rep (k := k) t
    unfold dropD dropK at *
    rw [List.filter_cons, List.filter_cons]
    by_cases q : k1 = k
    · simp only [q, ne_eq, not_true, decide_false, Bool.false_eq_true, if_false]; exact ih
    · simp only [ne_eq, q, not_false_eq_true, decide_true, if_true]; exact .cons h ih
end
/-- an owned dict, changed -/
theorem Ok.editD {Γ : G} {σ : St} {O : List Addr} {i : Nat} {kvs : List (Key × PyData)} {v : V} (k : Ok K F H Γ σ O) (e : Γ[i]? = some (some (.dct kvs))) (ev : σ[i]? = some (some v)) :
    ∃ a ps, v = .ref a ∧ H a = some (.dK ps) ∧ Paired (KDf K F) kvs ps ∧ ∀ kvs' ps', Paired (KDf K F) kvs' ps' →
      ∃ O4, Ok K F (L2.upd H a (.dK ps')) (Γ.set i (some (.dct kvs'))) σ O4 ∧ Step F H O F (L2.upd H a (.dK ps')) O4 := by
  obtain ⟨v', o, O', e1, r, k1, n, x, s⟩ := k.take e
  rw [ev] at e1
  cases e1
  unfold RepT at r
  obtain ⟨a, ps, rfl, ha, hp, rfl⟩ := r
  refine ⟨a, ps, rfl, ha, hp, fun kvs' ps' hp' => ?_⟩
  have aO : a ∉ O' := (List.nodup_cons.mp n).1
  have fa : F a = none := x a (List.mem_cons_self ..)
  have k2 : Ok K F (L2.upd H a (.dK ps')) (Γ.set i none) σ O' := Ok.upd k1 aO fa
  have r2 : RepT K F (L2.upd H a (.dK ps')) (.dct kvs') (.ref a) [a] := by
    unfold RepT
    exact ⟨a, ps', rfl, upd_same, hp', rfl⟩
  obtain ⟨O4, k3, s3⟩ := k2.back ev r2 n x
  rw [List.set_set] at k3
  refine ⟨O4, k3, ⟨Same.refl _, fun b hb no => ⟨upd_ne fun e => ?_, id⟩, fun b m => ?_⟩⟩
  · subst e
    rcases s.own b (List.mem_cons_self ..) with z | z
    · exact no z
    · exact hb z
  · rcases s3.own b m with z | z
    · rcases s.own b z with w | w
      · exact .inl w
      · rcases List.mem_cons.mp (show b ∈ a :: O' from z) with q | m2
        · rw [q, ha] at w; cases w
        · exact absurd w (RepG.live k1.rep b m2)
    · by_cases q : b = a
      · subst q; rw [upd_same] at z; cases z
      · rw [upd_ne q] at z; exact .inr z
/-- an owned dict of tuple keys, changed -/
theorem Ok.editT {Γ : G} {σ : St} {O : List Addr} {i : Nat} {kvs : List (List Key × PyData)} {v : V} (k : Ok K F H Γ σ O) (e : Γ[i]? = some (some (.dtp kvs))) (ev : σ[i]? = some (some v)) :
    ∃ a ps, v = .ref a ∧ H a = some (.dT ps) ∧ Paired (KDf K F) kvs ps ∧ ∀ kvs' ps', Paired (KDf K F) kvs' ps' →
      ∃ O4, Ok K F (L2.upd H a (.dT ps')) (Γ.set i (some (.dtp kvs'))) σ O4 ∧ Step F H O F (L2.upd H a (.dT ps')) O4 := by
  obtain ⟨v', o, O', e1, r, k1, n, x, s⟩ := k.take e
  rw [ev] at e1
  cases e1
  unfold RepT at r
  obtain ⟨a, ps, rfl, ha, hp, rfl⟩ := r
  refine ⟨a, ps, rfl, ha, hp, fun kvs' ps' hp' => ?_⟩
  have aO : a ∉ O' := (List.nodup_cons.mp n).1
  have fa : F a = none := x a (List.mem_cons_self ..)
  have k2 : Ok K F (L2.upd H a (.dT ps')) (Γ.set i none) σ O' := Ok.upd k1 aO fa
  have r2 : RepT K F (L2.upd H a (.dT ps')) (.dtp kvs') (.ref a) [a] := by
    unfold RepT
    exact ⟨a, ps', rfl, upd_same, hp', rfl⟩
  obtain ⟨O4, k3, s3⟩ := k2.back ev r2 n x
  rw [List.set_set] at k3
  refine ⟨O4, k3, ⟨Same.refl _, fun b hb no => ⟨upd_ne fun e => ?_, id⟩, fun b m => ?_⟩⟩
  · subst e
    rcases s.own b (List.mem_cons_self ..) with z | z
    · exact no z
    · exact hb z
  · rcases s3.own b m with z | z
    · rcases s.own b z with w | w
      · exact .inl w
      · rcases List.mem_cons.mp (show b ∈ a :: O' from z) with q | m2
        · rw [q, ha] at w; cases w
        · exact absurd w (RepG.live k1.rep b m2)
    · by_cases q : b = a
      · subst q; rw [upd_same] at z; cases z
      · rw [upd_ne q] at z; exact .inr z
end
section
variable {X : Cx} {W : WX} {io : List Nat} {pos p p2 : Pos} {e k : Expr} {x : Str} {m mk : M PyData}
/-! ### d[k] -/
def isDc : T → Bool
  | .dct _ => true
  | .dtp _ => true
  | _ => false
def dgetK (i : Nat) (kd : PyData) (Γ : G) : Option (Rs PyData) := match Γ[i]? with
  | some (some (.dct kvs)) => (match (keyD kd).bind (valD kvs) with
    | some d => some (.ok d Γ)
    | none => none)
  | some (some (.dtp kvs)) => (match (keyT kd).bind (valD kvs) with
    | some d => some (.ok d Γ)
    | none => none)
  | _ => none
def mDGet (i : Nat) (mk : M PyData) : M PyData := fun Γ => match Γ[i]? with
  | some (some t) => if isDc t = true then bM mk (dgetK i) Γ else none
  | _ => none
theorem vd_dget (i : Nat) (hu : X.A.units + 65 < cLine) (hk : VD X W k mk) (hN : X.N[i]? = some x := by rfl) (hv : Vis X.env.scope x := by first | exact Or.inl rfl | exact Or.inr (Or.inl rfl) | exact Or.inr (Or.inr rfl)) (hd : (x == ("__debug__" : Str)) = false := by decide)
    (hcd : (x == ("__classdict__" : Str)) = false := by decide) (hs : NoSl k := by exact fun _ _ => rfl) : VD X W (.Subscript (.Name x p) k pos) (mDGet i mk) := by
  obtain ⟨t, pk, s⟩ := hk
  refine ⟨_, pe_dget (by omega) (pe_var hN hv hd hcd) pk hs, fun Γ σ F H O Q k h => ?_⟩
  unfold mDGet at h
  split at h
  case h_2 => exact h.elim
  rename_i t0 e0
  split at h
  case isFalse => exact h.elim
  obtain ⟨v0, _, _, ev0, _⟩ := k.take e0
  refine ⟨v0, ev0, s Γ σ F H O _ k ?_⟩
  refine HitN.bind h fun kd Γ1 y F1 H1 O1 k1 r1 s1 h1 => ?_
  unfold dgetK at h1
  split at h1
  · rename_i kvs e2
    split at h1
    case h_2 => exact h1.elim
    rename_i d ed
    obtain ⟨key, ek, ed⟩ := Option.bind_eq_some_iff.mp ed
    obtain ⟨a, ps, rfl, ha, hp, _⟩ := Ok.editD k1 e2 ev0
    obtain ⟨v, hv1, hv2⟩ := (val_rep (k := key) hp).1 d ed
    rw [key_v ek r1]
    exact ⟨a, v, rfl, by rw [← hv1]; exact DGet.k ha, h1 v F1 H1 O1 k1 hv2 Step.refl⟩
  · rename_i kvs e2
    split at h1
    case h_2 => exact h1.elim
    rename_i d ed
    obtain ⟨key, ek, ed⟩ := Option.bind_eq_some_iff.mp ed
    obtain ⟨a, ps, rfl, ha, hp, _⟩ := Ok.editT k1 e2 ev0
    obtain ⟨v, hv1, hv2⟩ := (val_rep (k := key) hp).1 d ed
    obtain ⟨b, rfl, hb⟩ := keyT_v ek r1
    exact ⟨a, v, rfl, by rw [← hv1]; exact DGet.t ha (k1.sub _ _ hb), h1 v F1 H1 O1 k1 hv2 Step.refl⟩
  · exact h1.elim
/-! ### k in d -/
def dinK (i : Nat) (b : Bool) (kd : PyData) (Γ : G) : Option (Rs PyData) := match Γ[i]? with
  | some (some (.dct kvs)) => (keyD kd).map fun k => .ok (.bool ((valD kvs k).isSome == b)) Γ
  | some (some (.dtp kvs)) => (keyT kd).map fun k => .ok (.bool ((valD kvs k).isSome == b)) Γ
  | _ => none
def mDIn (i : Nat) (b : Bool) (mk : M PyData) : M PyData := bM mk (dinK i b)
theorem dget_at {F H : Hp} {K : PySem.W.Frag} {a : Addr} {key : Key} {kvs : List (Key × PyData)} {ps : List (Key × V)} (ha : H a = some (.dK ps)) (hp : Paired (KDf K F) kvs ps) : DGet H a (kV key) (valV ps key) := DGet.k ha
theorem din_ps {κ : Type} [DecidableEq κ] {K : PySem.W.Frag} {F : Hp} {key : κ} {kvs : List (κ × PyData)} {ps : List (κ × V)} (hp : Paired (KDf K F) kvs ps) : (valV ps key).isSome = (valD kvs key).isSome := by
  obtain ⟨i1, i2⟩ := val_rep (k := key) hp
  cases q : valD kvs key with
  | none => rw [i2 q]; rfl
  | some d => obtain ⟨v, hv, _⟩ := i1 d q; rw [hv]; rfl
/-- a comparison -/
def VC (X : Cx) (W : WX) (op : CmpOp) (a b : Expr) (m : M PyData) : Prop := ∃ t, PC X op a b t ∧ ∀ Γ σ F H O Q, Ok X.K F H Γ σ O → HitN X.K W (rD X.K) (m Γ) σ F H O Q → t σ H Q
theorem vd_c {op : CmpOp} {a b : Expr} {m : M PyData} (h : VC X W op a b m) (hb : behindInMarks op b = false := by rfl) : VD X W (.Compare a [op] [b] pos) m := by
  obtain ⟨t, pc, s⟩ := h
  exact ⟨_, pe_cmp pc hb, s⟩
theorem vb_c {op : CmpOp} {a b : Expr} {m : M PyData} (h : VC X W op a b m) (hb : behindInMarks op b = false := by rfl) : VB X W (.Compare a [op] [b] pos) (mB m) := by
  obtain ⟨t, pc, s⟩ := h
  refine ⟨_, pt_cmp pc hb, fun Γ σ F H O Q k h => s Γ σ F H O _ k ?_⟩
  unfold mB at h
  refine HitN.bind h fun d Γ1 v F1 H1 O1 k1 r1 s1 h1 => ?_
  cases d with
  | bool c =>
    cases r1
    exact ⟨c, rfl, h1 c F1 H1 O1 k1 rfl Step.refl⟩
  | _ => exact h1.elim
theorem vc_din (i : Nat) (hu : X.A.units + 65 < cLine) (hk : VD X W k mk) (hN : X.N[i]? = some x := by rfl) (hv : Vis X.env.scope x := by first | exact Or.inl rfl | exact Or.inr (Or.inl rfl) | exact Or.inr (Or.inr rfl)) (hd : (x == ("__debug__" : Str)) = false := by decide)
    (hcd : (x == ("__classdict__" : Str)) = false := by decide) : VC X W .In k (.Name x p) (mDIn i true mk) := by
  obtain ⟨t, pk, s⟩ := hk
  refine ⟨_, pc_din (by omega) pk (pe_var hN hv hd hcd), fun Γ σ F H O Q k h => s Γ σ F H O _ k ?_⟩
  unfold mDIn at h
  refine HitN.bind h fun kd Γ1 y F1 H1 O1 k1 r1 s1 h1 => ?_
  unfold dinK at h1
  split at h1
  · rename_i kvs e2
    cases ek : keyD kd with
    | none => rw [ek] at h1; exact h1.elim
    | some key =>
      rw [ek] at h1
      obtain ⟨v0, _, _, ev0, _⟩ := k1.take e2
      obtain ⟨a, ps, rfl, ha, hp, _⟩ := Ok.editD k1 e2 ev0
      rw [key_v ek r1]
      refine ⟨_, ev0, a, _, rfl, DGet.k (k := key) ha, ?_⟩
      rw [din_ps hp]
      have e : ((valD kvs key).isSome == true) = (valD kvs key).isSome := by cases (valD kvs key).isSome <;> rfl
      rw [Option.map_some, e] at h1
      exact h1 _ F1 H1 O1 k1 (.bl _) Step.refl
  · rename_i kvs e2
    cases ek : keyT kd with
    | none => rw [ek] at h1; exact h1.elim
    | some key =>
      rw [ek] at h1
      obtain ⟨v0, _, _, ev0, _⟩ := k1.take e2
      obtain ⟨a, ps, rfl, ha, hp, _⟩ := Ok.editT k1 e2 ev0
      obtain ⟨b, rfl, hb⟩ := keyT_v ek r1
      refine ⟨_, ev0, a, _, rfl, DGet.t (k := key) ha (k1.sub _ _ hb), ?_⟩
      rw [din_ps hp]
      have e : ((valD kvs key).isSome == true) = (valD kvs key).isSome := by cases (valD kvs key).isSome <;> rfl
      rw [Option.map_some, e] at h1
      exact h1 _ F1 H1 O1 k1 (.bl _) Step.refl
  · exact h1.elim
theorem vc_dnotin (i : Nat) (hu : X.A.units + 65 < cLine) (hk : VD X W k mk) (hN : X.N[i]? = some x := by rfl) (hv : Vis X.env.scope x := by first | exact Or.inl rfl | exact Or.inr (Or.inl rfl) | exact Or.inr (Or.inr rfl)) (hd : (x == ("__debug__" : Str)) = false := by decide)
    (hcd : (x == ("__classdict__" : Str)) = false := by decide) : VC X W .NotIn k (.Name x p) (mDIn i false mk) := by
  obtain ⟨t, pk, s⟩ := hk
  refine ⟨_, pc_dnotin (by omega) pk (pe_var hN hv hd hcd), fun Γ σ F H O Q k h => s Γ σ F H O _ k ?_⟩
  unfold mDIn at h
  refine HitN.bind h fun kd Γ1 y F1 H1 O1 k1 r1 s1 h1 => ?_
  unfold dinK at h1
  split at h1
  · rename_i kvs e2
    cases ek : keyD kd with
    | none => rw [ek] at h1; exact h1.elim
    | some key =>
      rw [ek] at h1
      obtain ⟨v0, _, _, ev0, _⟩ := k1.take e2
      obtain ⟨a, ps, rfl, ha, hp, _⟩ := Ok.editD k1 e2 ev0
      rw [key_v ek r1]
      refine ⟨_, ev0, a, _, rfl, DGet.k (k := key) ha, ?_⟩
      rw [din_ps hp]
      have e : ((valD kvs key).isSome == false) = (!(valD kvs key).isSome) := by cases (valD kvs key).isSome <;> rfl
      rw [Option.map_some, e] at h1
      exact h1 _ F1 H1 O1 k1 (.bl _) Step.refl
  · rename_i kvs e2
    cases ek : keyT kd with
    | none => rw [ek] at h1; exact h1.elim
    | some key =>
      rw [ek] at h1
      obtain ⟨v0, _, _, ev0, _⟩ := k1.take e2
      obtain ⟨a, ps, rfl, ha, hp, _⟩ := Ok.editT k1 e2 ev0
      obtain ⟨b, rfl, hb⟩ := keyT_v ek r1
      refine ⟨_, ev0, a, _, rfl, DGet.t (k := key) ha (k1.sub _ _ hb), ?_⟩
      rw [din_ps hp]
      have e : ((valD kvs key).isSome == false) = (!(valD kvs key).isSome) := by cases (valD kvs key).isSome <;> rfl
      rw [Option.map_some, e] at h1
      exact h1 _ F1 H1 O1 k1 (.bl _) Step.refl
  · exact h1.elim
/-! ### d[k] = v -/
def putKK (i : Nat) (d : PyData) (kd : PyData) (Γ : G) : Option Fl := match Γ[i]? with
  | some (some (.dct kvs)) => (keyD kd).bind fun k => if kvs.length < sizeLine then some (.nx (Γ.set i (some (.dct (putD kvs k d))))) else none
  | some (some (.dtp kvs)) => (keyT kd).bind fun k => if kvs.length < sizeLine then some (.nx (Γ.set i (some (.dtp (putD kvs k d))))) else none
  | _ => none
def mDPut (i : Nat) (m mk : M PyData) : MS := bS m fun d Γ => match Γ[i]? with
  | some (some t) => if isDc t = true then bS mk (putKK i d) Γ else none
  | _ => none
theorem vs_dput (i : Nat) (hu : X.A.units + 65 < cLine) (he : VD X W e m) (hk : VD X W k mk) (hN : X.N[i]? = some x := by rfl) (hv : Vis X.env.scope x := by first | exact Or.inl rfl | exact Or.inr (Or.inl rfl) | exact Or.inr (Or.inr rfl)) (hd : (x == ("__debug__" : Str)) = false := by decide)
    (hcd : (x == ("__classdict__" : Str)) = false := by decide) (hs : swapsWith e (some (.Subscript (.Name x p) k p2)) pos.line X.env = pure false := by rfl) : VS X W io (.Assign [.Subscript (.Name x p) k p2] e pos) (mDPut i m mk) := by
  obtain ⟨t, pe, s⟩ := he
  obtain ⟨tk, pk, sk⟩ := hk
  refine ⟨_, ps_dput (by omega) (pe_var hN hv hd hcd) pk pe hs, fun Γ σ F H O D k h => s Γ σ F H O _ k ?_⟩
  unfold mDPut at h
  refine HitS.bindN h fun d Γ1 v F1 H1 O1 k1 r1 s1 h1 => ?_
  split at h1
  case h_2 => exact h1.elim
  rename_i t0 e0
  split at h1
  case isFalse => exact h1.elim
  obtain ⟨v0, _, _, ev0, _⟩ := k1.take e0
  refine ⟨v0, ev0, sk Γ1 σ F1 H1 O1 _ k1 ?_⟩
  refine HitS.bindN h1 fun kd Γ2 w F2 H2 O2 k2 r2 s2 h2 => ?_
  unfold putKK at h2
  split at h2
  · rename_i kvs e2
    cases ek : keyD kd with
    | none => rw [ek] at h2; exact h2.elim
    | some key =>
      rw [ek, Option.bind_some] at h2
      split at h2
      case isFalse => exact h2.elim
      rename_i hz
      obtain ⟨a, ps, rfl, ha, hp, ed⟩ := Ok.editD k2 e2 ev0
      have r1' := Df.mono s2.f _ _ r1
      obtain ⟨O4, k4, s4⟩ := ed _ _ (put_rep (k := key) r1' hp)
      rw [key_v ek r2]
      refine ⟨a, _, rfl, DPut.k ha (by rw [← paired_len hp]; exact hz), ?_⟩
      exact h2 σ F2 _ O4 k4 s4 Keeps.refl
  · rename_i kvs e2
    cases ek : keyT kd with
    | none => rw [ek] at h2; exact h2.elim
    | some key =>
      rw [ek, Option.bind_some] at h2
      split at h2
      case isFalse => exact h2.elim
      rename_i hz
      obtain ⟨a, ps, rfl, ha, hp, ed⟩ := Ok.editT k2 e2 ev0
      have r1' := Df.mono s2.f _ _ r1
      obtain ⟨O4, k4, s4⟩ := ed _ _ (put_rep (k := key) r1' hp)
      obtain ⟨b, rfl, hb⟩ := keyT_v ek r2
      refine ⟨a, _, rfl, DPut.t ha (k2.sub _ _ hb) (by rw [← paired_len hp]; exact hz), ?_⟩
      exact h2 σ F2 _ O4 k4 s4 Keeps.refl
  · exact h2.elim
/-! ### d.pop(k) -/
def dpopK (i : Nat) (kd : PyData) (Γ : G) : Option (Rs PyData) := match keyD kd, Γ[i]? with
  | some k, some (some (.dct kvs)) => (match valD kvs k with
    | some d => some (.ok d (Γ.set i (some (.dct (dropD kvs k)))))
    | none => none)
  | _, _ => none
def mDPop (i : Nat) (mk : M PyData) : M PyData := fun Γ => match Γ[i]? with
  | some (some (.dct _)) => bM mk (dpopK i) Γ
  | _ => none
theorem vd_dpop (i : Nat) (hk : VD X W k mk) (hN : X.N[i]? = some x := by rfl) (hv : Vis X.env.scope x := by first | exact Or.inl rfl | exact Or.inr (Or.inl rfl) | exact Or.inr (Or.inr rfl)) (hd : (x == ("__debug__" : Str)) = false := by decide)
    (hcd : (x == ("__classdict__" : Str)) = false := by decide) (m1 : M1 X (.Name x p) "pop" p2 k pos := by exact ⟨rfl, rfl, rfl, rfl⟩) : VD X W (.Call (.Attribute (.Name x p) "pop" p2) [k] [] pos) (mDPop i mk) := by
  obtain ⟨t, pk, s⟩ := hk
  refine ⟨_, pe_dpop1 (pe_var hN hv hd hcd) pk m1, fun Γ σ F H O Q k h => ?_⟩
  unfold mDPop at h
  split at h
  case h_2 => exact h.elim
  rename_i kvs0 e0
  obtain ⟨v0, _, _, ev0, _⟩ := k.take e0
  obtain ⟨a0, ps0, rfl, ha0, _, _⟩ := Ok.editD k e0 ev0
  refine ⟨_, ev0, a0, rfl, .inl ⟨_, .inl ha0⟩, s Γ σ F H O _ k ?_⟩
  refine HitN.bind h fun kd Γ1 y F1 H1 O1 k1 r1 s1 h1 => ?_
  unfold dpopK at h1
  split at h1
  case h_2 => exact h1.elim
  rename_i key kvs ek e2
  split at h1
  case h_2 => exact h1.elim
  rename_i d edd
  obtain ⟨a, ps, e3, ha, hp, ed⟩ := Ok.editD k1 e2 ev0
  cases e3
  obtain ⟨v, hv1, hv2⟩ := (val_rep (k := key) hp).1 d edd
  obtain ⟨O4, k4, s4⟩ := ed _ _ (drop_rep (k := key) hp)
  exact ⟨ps, key, v, ha, key_v ek r1, hv1, h1 v F1 _ O4 k4 hv2 s4⟩
/-! ### {k: v}, {} -/
def mDisp1 (mk m : M PyData) : M T := bM mk fun kd => bM m fun d => oM ((keyD kd).map fun k => .dct [(k, d)])
theorem vt_disp1 (hk : VD X W k mk) (he : VD X W e m) : VT X W (.Dict [some k] [e] pos) (mDisp1 mk m) := by
  obtain ⟨tk, pk, sk⟩ := hk
  obtain ⟨t, pe, s⟩ := he
  refine ⟨_, pe_disp (pps_cons pk pe pps_nil) rfl rfl (by simp) (by simp), fun Γ σ F H O Q k h => ?_⟩
  intro p hp
  have fp : F p = none := none_of_same k.sub hp
  have pO : p ∉ O := fun m => RepG.live k.rep p m hp
  have g0 : Grow F H F (L2.upd H p (.dK [])) := ⟨Same.refl _, same_upd hp, k.sub.trans (same_upd hp), fun x q => .inl q⟩
  have k0 := k.grow g0
  have st0 : Step F H O F (L2.upd H p (.dK [])) O := g0.step
  show tk σ (L2.upd H p (.dK [])) _
  refine sk Γ σ F _ O _ k0 ?_
  unfold mDisp1 bM at h
  dsimp only at h
  match q1 : mk Γ, h with
  | some (.ex c Γ'), h => exact fun F' H' O' k' s' => h F' H' O' k' (st0.trans s')
  | some (.ok kd Γ1), h =>
    intro y F1 H1 O1 k1 r1 s1
    refine s Γ1 σ F1 H1 O1 _ k1 ?_
    dsimp only at h
    match q2 : m Γ1, h with
    | some (.ex c Γ'), h => exact fun F' H' O' k' s' => h F' H' O' k' ((st0.trans s1).trans s')
    | some (.ok d Γ2), h =>
      intro v F2 H2 O2 k2 r2 s2
      dsimp only [oM] at h
      cases q3 : keyD kd with
      | none => rw [q3] at h; exact h.elim
      | some key =>
        rw [q3] at h
        have s12 := s1.trans s2
        have hp1 : (L2.upd H p (.dK [])) p ≠ none := by rw [upd_same]; exact fun z => nomatch z
        have hp2 : H2 p = some (.dK []) := (s12.fr p hp1 pO).1.trans upd_same
        have fp2 : F2 p = none := by
          cases z : F2 p with
          | none => rfl
          | some o => exact absurd fp ((s12.fr p hp1 pO).2 (by rw [z]; exact fun w => nomatch w))
        have pO2 : p ∉ O2 := fun m => by
          rcases s12.own p m with z | z
          · exact pO z
          · exact hp1 z
        refine ⟨hp2, [(key, v)], by rw [key_v q3 r1]; rfl, by simp, ?_⟩
        have k3 : Ok X.K F2 (L2.upd H2 p (.dK [(key, v)])) Γ2 σ O2 := k2.upd pO2 fp2
        refine h (.ref p) F2 _ O2 [p] k3 ?_ (List.nodup_cons.mpr ⟨pO2, k2.nd⟩) (fun b m => by rw [List.mem_singleton.mp m]; exact fp2) ⟨s12.f, fun b hb no => ?_, fun b m => ?_⟩
        · unfold RepT
          exact ⟨p, [(key, v)], rfl, upd_same, .cons ⟨rfl, r2⟩ .nil, rfl⟩
        · have nb : b ≠ p := fun e => hb (e ▸ hp)
          have hb1 : (L2.upd H p (.dK [])) b ≠ none := by rw [upd_ne nb]; exact hb
          obtain ⟨z1, z2⟩ := s12.fr b hb1 no
          exact ⟨by rw [show mergeK [] [(key, v)] = [(key, v)] from rfl, upd_ne nb, z1, upd_ne nb], z2⟩
        · rcases List.mem_cons.mp m with rfl | m
          · exact .inr hp
          · rcases s12.own b m with z | z
            · exact .inl z
            · by_cases e : b = p
              · subst e; exact .inr hp
              · rw [upd_ne e] at z; exact .inr z
end
end TW

/-! reading a locked dict: d.items() within an expression whose value is plain -/
namespace TW
open PySem PySem.Spec L2
def keyP : Key → PyData
  | .inl i => .int i
  | .inr x => .str x
def itemP (p : Key × PyData) : PyData := .tuple [keyP p.1, p.2]
theorem key_df {K : PySem.W.Frag} {F : Hp} : ∀ (k : Key), Df K F (kV k) (keyP k)
  | .inl i => .int i
  | .inr x => .str x
theorem pair_get {α β : Type} {R : α → β → Prop} : ∀ {l : List α} {l' : List β} {i : Nat} {a : α}, Paired R l l' → l[i]? = some a → ∃ b, l'[i]? = some b ∧ R a b
  | _, _, i, a, .nil, e => by simp at e
  | _, _, 0, a, .cons h t, e => by cases e; exact ⟨_, rfl, h⟩
  | _ :: l, _ :: l', i + 1, a, .cons h t, e => pair_get (l := l) (l' := l') (i := i) t e
def mItems (i : Nat) : M (List PyData) := fun Γ => match Γ[i]? with
  | some (some (.lck kvs)) => some (.ok (kvs.map itemP) Γ)
  | _ => none
theorem walks_items {K : PySem.W.Frag} {F H : Hp} {a : Addr} {od : Obj} {kvs : List (Key × PyData)} {ps : List (Key × V)} (h : F a = some (.frz od (.dK ps))) (r : Paired (KDf K F) kvs ps) : Walks K F H (kvs.map itemP) (Iti a od ps) := fun i F1 H1 s1 s2 => by
  have q : H1 a = some (.frz od (.dK ps)) := s2 _ _ (s1 _ _ h)
  have l := paired_len r
  refine ⟨fun d e => ?_, fun e => ⟨q, by rw [← l]; simpa using e⟩⟩
  rw [List.getElem?_map] at e
  cases z : kvs[i]? with
  | none => rw [z] at e; cases e
  | some kd =>
    rw [z] at e
    cases e
    obtain ⟨kv, e2, r1⟩ := pair_get r z
    have hi := (List.getElem?_eq_some_iff.mp e2).1
    refine ⟨⟨q, hi⟩, fun x H2 y => ?_⟩
    obtain ⟨T, k, v, e3, rfl, hT, rfl⟩ := y
    rw [e2] at e3
    cases e3
    have g := same_upd (o := .tup [kV k, v]) (none_of_same s2 hT)
    refine ⟨L2.upd F1 T (.tup [kV k, v]), Grow.new s2 hT, .tup upd_same (.cons ?_ (.cons (Df.mono (s1.trans g) _ _ r1.2) .nil))⟩
    rw [r1.1]
    exact key_df k
section
variable {X : Cx} {W : WX} {pos p cpos apos tpos : Pos} {elts : List Expr} {kk : Nat} {e : Expr} {x : Str} {m : M PyData}
theorem vi_items (i : Nat) (hN : X.N[i]? = some x := by rfl) (hv : Vis X.env.scope x := by first | exact Or.inl rfl | exact Or.inr (Or.inl rfl) | exact Or.inr (Or.inr rfl)) (hd : (x == ("__debug__" : Str)) = false := by decide)
    (hcd : (x == ("__classdict__" : Str)) = false := by decide) (hb : attributeBase (.Name x p) "items" X.env (eval (.Name x p) X.env) = eval (.Name x p) X.env := by rfl) (hl : (apos.endLine == cpos.line) = true := by rfl) :
    VI X W (.Tuple elts kk tpos) (.Call (.Attribute (.Name x p) "items" apos) [] [] cpos) (mItems i) := by
  refine ⟨_, pi_items (pe_var hN hv hd hcd) hb hl, fun Γ σ F H O R k h => ?_⟩
  unfold mItems at h
  split at h
  case h_2 => exact h.elim
  rename_i kvs e0
  obtain ⟨v0, o, O', ev0, r, k1, n, x, s⟩ := k.take e0
  unfold RepT at r
  obtain ⟨⟨a, od, ps, rfl, ha, hp⟩, _⟩ := r
  exact ⟨_, ev0, a, od, ps, rfl, k.sub _ _ ha, h _ F H O k (walks_items ha hp) Step.refl⟩
/-- while the dict of a slot is locked -/
def mLock (i : Nat) (m : M PyData) : M PyData := fun Γ => match Γ[i]? with
  | some (some (.dct kvs)) => (match m ((iceG Γ).set i (some (.lck kvs))) with
    | some (.ok d _) => if flatD d = true then some (.ok d Γ) else none
    | _ => none)
  | _ => none
theorem iceG_set (Γ : G) (i : Nat) (s : Option T) : (iceG (Γ.set i none)).set i s = (iceG Γ).set i s := by
  unfold iceG
  rw [List.map_set, List.set_set]
theorem vd_lock (i : Nat) (h : VD X W e m) : VD X W e (mLock i m) := by
  obtain ⟨t, pe, s⟩ := h
  refine ⟨_, pe_lock pe, fun Γ σ F H O Q k h => ?_⟩
  unfold mLock at h
  split at h
  case h_2 => exact h.elim
  rename_i kvs e0
  obtain ⟨v0, o, O', ev0, r, k1, n, x, st⟩ := k.take e0
  unfold RepT at r
  obtain ⟨a, ps, rfl, ha, hp, rfl⟩ := r
  have aO : a ∉ O' := (List.nodup_cons.mp n).1
  have fa : F a = none := x a (List.mem_cons_self ..)
  refine ⟨a, .dK ps, ha, trivial, fun od => ?_⟩
  have kp := k1.pure
  have ia : icy F H O' a = none := (icy_off aO).trans fa
  have sF : Same (icy F H O') (L2.upd (icy F H O') a (.frz od (.dK ps))) := same_upd ia
  have kq : Ok X.K (L2.upd (icy F H O') a (.frz od (.dK ps))) (L2.upd H a (.frz od (.dK ps))) (iceG (Γ.set i none)) σ [] :=
    ⟨same_upd2 kp.sub, RepG.mono sF kp.rep (fun _ m => nomatch m), List.nodup_nil, fun _ m => nomatch m⟩
  have rl : RepT X.K (L2.upd (icy F H O') a (.frz od (.dK ps))) (L2.upd H a (.frz od (.dK ps))) (.lck kvs) (.ref a) [] := by
    unfold RepT
    exact ⟨⟨a, od, ps, rfl, upd_same, paired_mono ((icy_same k1.out).trans sF) hp⟩, rfl⟩
  obtain ⟨O5, kr, s5⟩ := kq.back ev0 rl List.nodup_nil (fun _ m => nomatch m)
  rw [iceG_set] at kr
  have fin : ∀ d Γ', m ((iceG Γ).set i (some (.lck kvs))) = some (.ok d Γ') → flatD d = true → HitN X.K W (rD X.K) (some (.ok d Γ)) σ F H O Q → t σ (L2.upd H a (.frz od (.dK ps))) fun v H' => H' a = some (.frz od (.dK ps)) ∧ Q v (L2.upd H' a (.dK ps)) := fun d Γ' em hf h => by
    refine s _ σ _ _ O5 _ kr ?_
    rw [em]
    intro v F' H' O2 k2 r2 s2
    have keep : ∀ b o, (L2.upd H a (.frz od (.dK ps))) b = some o → H' b = some o := fun b o z => by
      have nb : b ∉ O5 := fun m => by
        rcases s5.own b m with w | w
        · cases w
        · rw [z] at w; cases w
      rw [(s2.fr b (by rw [z]; exact fun w => nomatch w) nb).1]
      exact z
    have ea : H' a = some (.frz od (.dK ps)) := keep a _ upd_same
    have sH : Same H (L2.upd H' a (.dK ps)) := fun b o z => by
      by_cases q : b = a
      · rw [q, upd_same, ← ha, ← q]; exact z
      · rw [upd_ne q]; exact keep b o (by rw [upd_ne q]; exact z)
    have g : Grow F H F (L2.upd H' a (.dK ps)) := ⟨Same.refl _, sH, k.sub.trans sH, fun x q => .inl q⟩
    exact ⟨ea, h v F _ O (k.grow g) (df_flat hf r2) g.step⟩
  match em : m ((iceG Γ).set i (some (.lck kvs))), h with
  | some (.ok d Γ'), h =>
    dsimp only at h
    split at h
    case isFalse => exact h.elim
    rename_i hf
    exact fin d Γ' em hf h
end
end TW

/-! t * n, t[::-1], len(set(t)), sorted(set(t)) -/
namespace TW
open PySem PySem.Spec L2
/-! ### set(l) of a list of ints -/
section
variable {P : Program} {w : World} {A : Around} {E : Value → Shared → Prop} {s : Shared}
/-- a set that holds nothing yet -/
abbrev noneYet (w : World) : Obj := { cls := .type "set", dict := none, data := .set #[] 0 (.fresh 0 0 (!w.params.followText "set-order")) }
theorem call_set_lstI {l : Addr} {items : Array Value} (ns : List Int) {Q : Value → Shared → Prop} (hh : A.handled = none) (hl : s.heap.IsList l items) (hit : PyProof.Rows.IntsAre items.toList ns) (hb : ns.length + 1 < scanBound)
    (got : ∀ (k : Heap) (tk c : Nat), SetR w k s.heap.objs.size (fun j => decide (j ∈ ns)) c → c ≤ ns.length → (∀ b o, s.heap.get? b = some o → k.get? b = some o) → Q (.ref s.heap.objs.size) { s with heap := k, toks := tk }) : wpAny (model P w) A (call (.type "set") [.ref l]) Q E s := by
  have size_eq : items.size = ns.length := (Array.length_toList).symm.trans (PyProof.Rows.IntsAre.length hit)
  obtain ⟨mc, mt, is_mro⟩ := F.called_set.mro
  have p1 := F.called_set.made; have p2 := F.called_set.sub
  refine wpAny_call ?_; refine codeAny_of_tree ?_
  show wpAny _ _ (callAny (Value.type "set") _) _ _ _
  refine wpAny_pure ⟨Code.quiet_builtin _ (by decide +kernel), ?_⟩; refine codeAny_builtin F.entry_type_call ?_
  rw [Around.under_plain (weight_type_call_type "set" [Value.ref l] []) rfl]
  have p3 := F.called_set.notType; have p4 := F.called_set.canCreate; have p5 := F.typeCall_set_1 (Value.ref l)
  repeat (any_goals (first | assumption | (wp_step)))
  refine codeAny_mono (code_set_led1 (Value.ref l) (E := E) (Q₁ := fun o1 k1 => o1 = .ref s.heap.objs.size ∧ k1 = { s with heap := s.heap.push (noneYet w) }) ⟨rfl, rfl⟩) fun r1 k1 is1 => ?_
  cases r1 with
  | error e1 => exact is1
  | ok fin1 =>
    cases fin1 with
    | ret o1 =>
      obtain ⟨rfl, rfl⟩ := is1
      have there : (s.heap.push (noneYet w)).get? s.heap.objs.size = some (noneYet w) := Heap.get?_push_size _ rfl
      have typed : Shared.TypeIs { s with heap := s.heap.push (noneYet w) } (.ref s.heap.objs.size) "set" := ⟨_, there, rfl⟩
      have p6 := F.called_set.init.lookup; have p7 := F.called_set.init.bind (Value.ref s.heap.objs.size)
      repeat (any_goals (first | assumption | (wp_step)))
      refine codeAny_mono (codeAny_call_builtin (R := wants (fun r k2 => r = .none ∧ ∃ k tk c, k2 = { s with heap := k, toks := tk } ∧ SetR w k s.heap.objs.size (fun j => decide (j ∈ ns)) c ∧ c ≤ ns.length ∧ (∀ b o, s.heap.get? b = some o → k.get? b = some o)) E) F.called_set.init.plain F.entry_set_init (check_set_init_1 typed ?_)) fun r2 k2 is2 => ?_
      · obtain ⟨⟨lc, ld, lda, lsl⟩, lget, lcls, ln, ldat⟩ := hl
        simp only at lcls ldat
        subst lcls ldat
        have lget2 : (s.heap.push (noneYet w)).get? l = some { cls := .type "list", dict := ld, data := .seq items ln, slots := lsl } := Heap.get?_push_of_some _ lget
        have p8 := F.sub_list_set; have p9 := F.sub_list_frozenset
        have p0 : (Value.type "list" == Value.type "dict") = false := by decide
        have islist : (s.heap.push (noneYet w)).IsList l items := ⟨_, lget2, rfl, ln, rfl⟩
        unfold Builtin.«set.__init__»; unfold noKeywords Builtin.Frozenset.updateFrom
        generalize ePI : pyIter = PI
        wp_walk
        subst ePI
        refine wpAny_pyIter_list islist ?_; refine wpAny_bind (wpAny_runValue ?_)
        have lold : l < s.heap.objs.size := Heap.lt_size lget
        have calm3 : A.in1.in1.in1.handled = none := by simp only [Around.in1_handled, hh]
        have lI : l ≠ (s.heap.push (noneYet w)).objs.size := by rw [Heap.size_push]; exact Nat.ne_of_lt (Nat.lt_succ_of_lt lold)
        have sI : s.heap.objs.size ∉ [(s.heap.push (noneYet w)).objs.size, l] := by
          intro m; rw [Heap.size_push] at m
          rcases List.mem_cons.mp m with e | m
          · exact absurd e (Nat.ne_of_lt (Nat.lt_succ_self _))
          · exact absurd (List.mem_singleton.mp m).symm (Nat.ne_of_lt lold)
        have vals : ∀ (i : Nat) (v : Value), items[i]? = some v → ∃ k t, ns[i]? = some k ∧ v = .int k t := fun i v hv => by
          have hi : i < ns.length := size_eq ▸ (Array.getElem?_eq_some_iff.mp hv).1
          obtain ⟨t, e⟩ := PyProof.Rows.IntsAre.int_at hit i v ((Array.getElem?_toList).trans hv)
          exact ⟨ns[i], t, List.getElem?_eq_getElem hi, by rw [e]; simp [hi]⟩
        refine set_update_ints ((Walks.list calm3 _ l lI items).toS) s.heap.objs.size sI ns size_eq hb vals (items.size - 0) 0 _ rfl (Nat.zero_le _) ⟨⟨_, Heap.get?_push_size _ rfl, rfl, rfl⟩, islist.push _⟩ ?first ?last
        case first => exact ⟨0, Nat.le_refl 0, setR_new_at (Heap.get?_push_of_some _ there)⟩
        case last =>
          intro s2 c2 moved few isset
          obtain ⟨k2, g2, d2, tk2, os2⟩ := s2
          obtain rfl : g2 = s.gens := moved.gens
          obtain rfl : d2 = s.drawn := moved.drawn
          obtain rfl : os2 = s.os := moved.os
          refine wpAny_pure ?_; show wpAny _ _ (ret Value.none) _ _ _; rw [size_eq] at few
          refine wpAny_pure ⟨rfl, k2, tk2, c2, rfl, isset, few, fun b o e => ?_⟩
          have old := Heap.lt_size e
          refine moved.heap b o (fun m => ?_) (Heap.get?_push_of_some _ (Heap.get?_push_of_some _ e))
          rcases List.mem_cons.mp m with z | m
          · exact absurd z (Nat.ne_of_lt old)
          · have z := List.mem_singleton.mp m; rw [Heap.size_push] at z; exact absurd z (Nat.ne_of_lt (Nat.lt_succ_of_lt old))
      · cases r2 with
        | error e2 => exact is2
        | ok fin2 =>
          cases fin2 with
          | ret v2 =>
            obtain ⟨rfl, k, tk, c, rfl, h1, h2, h3⟩ := is2
            repeat (any_goals (first | assumption | (wp_step)))
            exact got _ _ _ h1 h2 h3
          | _ => exact is2.elim
    | _ => exact is1.elim
end
section
variable {X : Cx} {W : WX}
/-! ### a tuple taken once is itself -/
theorem tuple_mul1W (l : Addr) (items : Array Value) (n : Nat) (dd : Option Addr) (sl : Array (Option Value)) (u : Tok) :
    Meets (Builtin.«tuple.__mul__» ⟨[.ref l, .int 1 u], []⟩) (fun _ R s => s.heap.get? l = some { cls := .type "tuple", dict := dd, data := .seq items n, slots := sl } ∧ R (.ok (.ret (Value.ref l))) s) :=
  .of_wp fun prog w A R s h => by
    obtain ⟨hp, g, d, tk, os⟩ := s
    obtain ⟨hl, h⟩ := h
    have f1 := AutoSeq1.idx_int
    have c0 : (decide ((1 : Int) < -(2 ^ 63)) || decide ((1 : Int) ≥ 2 ^ 63)) = false := by decide
    have c1 : (items.isEmpty || (1 : Int) == 1) = true := by simp
    wp_walk using wpAny_loadPart' hl
    repeat (first
      | (refine wpAny_ite_false (decide_eq_false (by rw [c0]; exact Bool.false_ne_true)) ?_; wp_walk using wpAny_loadPart' hl)
      | (refine wpAny_ite_true (decide_eq_true c1) ?_; wp_walk using wpAny_loadPart' hl))
    exact ⟨_, rfl, h⟩
def rRepT1 (K : PySem.W.Frag) : R2 := fun x y H Q => ∃ l xs, x = .ref l ∧ y = .int 1 ∧ SqT K H l xs ∧ Q (.ref l) H
theorem op_repT1 : OpR X (binaryOp .Mult) (rRepT1 X.K) := by
  intro pins s σ H x y v u Q I rx ry h
  obtain ⟨l, xs, rfl, rfl, hT, q⟩ := h
  cases rx
  obtain ⟨t, rfl⟩ := ry
  obtain ⟨its, r, ⟨⟨cls, dd, data, sl⟩, ho, hc, n, hd⟩, hs⟩ := I.tuple hT
  simp only at hc hd
  subst hc hd
  refine wpAny_binaryOp_repeat_ref (T := "tuple") (U := "int") (by decide) ⟨_, ho, rfl⟩ (fun s' => typeIs_int s' 1 t) noFill_tuple_mul F.fills_int_mul F.slot_int_rmul repeat_tuple F.slot_int_index.lookup
    (call_meets F.slot_int_rmul (typeIs_int s 1 t) F.entry_int_rmul (F.args_int_rmul_2 _ _) (int_rmul_tuple 1 t l its.toArray n dd sl)
      ⟨ho, rfl, ⟨_, ho, rfl⟩, call_meets F.slot_tuple_mul ⟨_, ho, rfl⟩ F.entry_tuple_mul (F.args_tuple_mul_2 _ _) (tuple_mul1W l its.toArray n dd sl t) ⟨ho, ?_⟩⟩)
  exact ⟨.ref l, _, I, rfl, q⟩
/-! ### t * n -/
def mulXF : OpF
  | .int i, .int j => mulF (.int i) (.int j)
  | .tuple ds, .int k => if 1 ≤ k ∧ k ≤ 1000 ∧ ds ≠ [] ∧ ds.length ≤ 1000 then some (.tuple (List.replicate k.toNat ds).flatten) else none
  | .list ds, .int k => if 0 ≤ k ∧ k ≤ 1000 ∧ ds.length ≤ 1000 then some (.list (List.replicate k.toNat ds).flatten) else none
  | _, _ => none
theorem od_mulX : OpD X (binaryOp .Mult) mulXF := by
  obtain ⟨r, hr, hs⟩ := od_mul (X := X)
  refine ⟨_, ((hr.or op_repT1).or op_repT).or op_rep, fun a b d e x y F H Q s ra rb q => ?_⟩
  unfold mulXF at e
  split at e
  · exact .inl (.inl (.inl (hs _ _ _ e x y F H Q s ra rb q)))
  · split at e
    · rename_i ds k h
      cases e
      obtain ⟨h1, h2, h3, h4⟩ := h
      cases rb
      cases ra with
      | tup h5 h6 =>
        have l := h6.length
        by_cases one : k = 1
        · subst one
          have e1 : (List.replicate (1 : Int).toNat ds).flatten = ds := by simp
          rw [e1] at q
          exact .inl (.inl (.inr ⟨_, _, rfl, rfl, tupT s h5, q _ F H (Grow.refl s) (.tup h5 h6)⟩))
        refine .inl (.inr ⟨_, _, _, rfl, rfl, tupT s h5, fun z => h3 ?_, by omega, h2, by omega, fun p hp => ?_⟩)
        · subst z
          exact List.eq_nil_of_length_eq_zero (by simpa using l.symm)
        · obtain ⟨g, r⟩ := grow_tup s hp (df_rep h6 k.toNat)
          exact q _ _ _ g r
    · cases e
  · split at e
    · rename_i ds k h
      cases e
      obtain ⟨h1, h2, h3⟩ := h
      cases rb
      cases ra with
      | lst h5 h6 =>
        have l := h6.length
        have m : k.toNat ≤ 1000 := by omega
        refine .inr ⟨_, _, _, rfl, rfl, s _ _ h5, by omega, by omega, ?_, fun p hp => ?_⟩
        · rw [sizeLine_eq]
          have := Nat.mul_le_mul (show _ ≤ 1000 from Nat.le_trans (Nat.le_of_eq l) h3) m
          omega
        · obtain ⟨g, r⟩ := grow_lst s hp (df_rep h6 k.toNat)
          exact q _ _ _ g r
    · cases e
  · cases e
/-! ### t[lo:hi:-1] -/
def backL {α : Type} (xs : List α) (lo hi : Option Int) : List α :=
  (List.range (Builtin.Slice.slicePlaces (Builtin.Slice.sliceAdjust lo hi (-1) (xs.length : Int)).1 (Builtin.Slice.sliceAdjust lo hi (-1) (xs.length : Int)).2 (-1))).filterMap fun m : Nat => xs[((Builtin.Slice.sliceAdjust lo hi (-1) (xs.length : Int)).1 + (m : Int) * (-1)).toNat]?
theorem df_pick {K : PySem.W.Frag} {F : Hp} {vs : List V} {ds : List PyData} (h : DfAll K F vs ds) (f : Nat → Nat) : ∀ l : List Nat, DfAll K F (l.filterMap fun m => vs[f m]?) (l.filterMap fun m => ds[f m]?)
  | [] => .nil
  | m :: l => by
    rw [List.filterMap_cons, List.filterMap_cons]
    cases e : ds[f m]? with
    | none =>
      rw [List.getElem?_eq_none (by rw [h.length]; exact List.getElem?_eq_none_iff.mp e)]
      exact df_pick h f l
    | some d =>
      obtain ⟨v, e2, r⟩ := DfAll.get h e
      rw [e2]
      exact .cons r (df_pick h f l)
theorem vals_pick {vs : List V} {us : List Value} (h : Vals vs us) (f : Nat → Nat) : ∀ l : List Nat, Vals (l.filterMap fun m => vs[f m]?) (l.filterMap fun m => us[f m]?)
  | [] => .nil
  | m :: l => by
    rw [List.filterMap_cons, List.filterMap_cons]
    cases e : vs[f m]? with
    | none =>
      rw [List.getElem?_eq_none (by rw [← Vals.length h]; exact List.getElem?_eq_none_iff.mp e)]
      exact vals_pick h f l
    | some d =>
      obtain ⟨v, e2, r⟩ := Vals.get h e
      rw [e2]
      exact .cons r (vals_pick h f l)
theorem df_back {K : PySem.W.Frag} {F : Hp} {vs : List V} {ds : List PyData} (h : DfAll K F vs ds) (lo hi : Option Int) : DfAll K F (backL vs lo hi) (backL ds lo hi) := by
  unfold backL
  rw [h.length]
  exact df_pick h _ _
theorem vals_back {vs : List V} {us : List Value} (h : Vals vs us) (lo hi : Option Int) : Vals (backL vs lo hi) (backL us lo hi) := by
  unfold backL
  rw [Vals.length h]
  exact vals_pick h _ _
theorem fm_congr {α β : Type} {f g : α → Option β} : ∀ {l : List α}, (∀ a ∈ l, f a = g a) → l.filterMap f = l.filterMap g
  | [], _ => rfl
  | a :: l, h => by rw [List.filterMap_cons, List.filterMap_cons, h a (List.mem_cons_self ..), fm_congr fun b m => h b (List.mem_cons_of_mem _ m)]
theorem range_pick {α : Type} : ∀ (k : Nat) (ys : List α), ys.length = k → (List.range k).filterMap (fun m => ys[m]?) = ys
  | 0, ys, h => by rw [List.eq_nil_of_length_eq_zero h]; rfl
  | k + 1, ys, h => by
    cases ys with
    | nil => cases h
    | cons y ys =>
      rw [List.range_succ_eq_map, List.filterMap_cons, List.filterMap_map]
      show y :: (List.range k).filterMap (fun m => ys[m]?) = y :: ys
      rw [range_pick k ys (by simpa using h)]
theorem backL_all {α : Type} (xs : List α) : backL xs none none = xs.reverse := by
  unfold backL
  have e : Builtin.Slice.sliceAdjust none none (-1) (xs.length : Int) = ((xs.length : Int) - 1, -1) := rfl
  rw [e]
  have e2 : Builtin.Slice.slicePlaces ((xs.length : Int) - 1) (-1) (-1) = xs.length := by
    unfold Builtin.Slice.slicePlaces
    rw [if_neg (by omega)]
    split
    · rw [show (- -1 : Int) = 1 by decide, Int.ediv_one]
      omega
    · omega
  show (List.range (Builtin.Slice.slicePlaces ((xs.length : Int) - 1) (-1) (-1))).filterMap _ = _
  rw [e2]
  have e3 : (List.range xs.length).filterMap (fun m : Nat => xs[((xs.length : Int) - 1 + (m : Int) * (-1)).toNat]?) = (List.range xs.length).filterMap (fun m => xs.reverse[m]?) := by
    refine fm_congr fun m hm => ?_
    have hm := List.mem_range.mp hm
    rw [List.getElem?_reverse hm]
    congr 1
    omega
  exact e3.trans (range_pick _ _ (List.length_reverse ..))
/-! the rule -/
section
open HT PyProof.Rows
variable {prog : Program} {w : World} {A : Around} {E : Value → Shared → Prop} {s : Shared}
theorem sliceApplied_back {sl : Addr} {vl vu vs : Value} {lo hi : Option Int} {n : Nat} {Q : Int × Int × Nat → Shared → Prop} (hs : s.heap.IsSliceOf sl vl vu vs) (pl : IsPart vl lo) (pu : IsPart vu hi) (ps : IsPart vs (some (-1)))
    (h : Q ((Builtin.Slice.sliceAdjust lo hi (-1) (n : Int)).1, -1, Builtin.Slice.slicePlaces (Builtin.Slice.sliceAdjust lo hi (-1) (n : Int)).1 (Builtin.Slice.sliceAdjust lo hi (-1) (n : Int)).2 (-1)) s) : wpAny (model prog w) A (Builtin.Slice.sliceApplied (.ref sl) (pure (n : Int))) Q E s := by
  obtain ⟨os, hos, hcs, hds⟩ := id hs
  unfold Builtin.Slice.sliceApplied Builtin.Slice.sliceFields
  refine wpAny_bind (wpAny_bind (wpAny_field hos hds (x := vl) rfl (wpAny_bind (wpAny_field hos hds (x := vu) rfl (wpAny_bind (wpAny_field hos hds (x := vs) rfl (wpAny_pure ?_)))))))
  refine wpAny_bind (slicePart_ ps ?_)
  show wpAny _ _ (if ((-1 : Int) == 0) = true then _ else _) _ _ s
  rw [if_neg (by decide)]
  refine wpAny_bind (slicePart_ pl (wpAny_bind (slicePart_ pu (wpAny_bind (wpAny_pure ?_)))))
  exact wpAny_pure h
theorem getItem_tuple_back {t sl : Addr} {items : Array Value} {vl vu vs : Value} {lo hi : Option Int} {Q : Value → Shared → Prop} (ht : IsTup s.heap t items) (hs : s.heap.IsSliceOf sl vl vu vs) (pl : IsPart vl lo) (pu : IsPart vu hi) (ps : IsPart vs (some (-1)))
    (h : Q (.ref s.heap.objs.size) { s with heap := s.heap.push { cls := .type "tuple", data := .seq (backL items.toList lo hi).toArray } })
    (hsz : (backL items.toList lo hi).length ≤ sizeLine) : wpAny (model prog w) A (getItem (.ref t) (.ref sl)) Q E s := by
  have htake : sizeOk (.seq (backL items.toList lo hi).toArray) := by
    show (backL items.toList lo hi).toArray.size ≤ sizeLine
    rw [List.size_toArray]; exact hsz
  obtain ⟨os, hos, hcs, hds⟩ := id hs
  have hTs : s.TypeIs (.ref sl) "slice" := ⟨os, hos, hcs⟩
  unfold getItem
  try with_reducible refine wpAny_holding ?_
  first | refine wpAny_bind (wpAny_pure ?_) | skip
  refine wpAny_bind (wpAny_sequenceKey ht.typeIs (by decide) ?_)
  refine wpAny_bind (wpAny_callSpecial?_slot (name := Str.ofString "__getitem__") ht.typeIs PyProof.Rows.slot_tuple_getitem
    (wpAny_call_entry PyProof.Rows.slot_tuple_getitem ht.typeIs entry_tuple_getitem ?_ (args_tuple_getitem _ _)))
  show wpAny _ _ (Builtin.Tuple.tupleItemsOf (.ref t) >>= _) _ _ s
  refine wpAny_bind (tupleItemsOf_ ht ?_)
  refine wpAny_bind (wpAny_typeOf hTs ?_)
  rw [if_pos (by decide)]
  refine wpAny_bind (sliceApplied_back hs pl pu ps ?_)
  have hno : ∀ (i : Int) (k : Nat), ¬ ((i == 0 && (-1 : Int) == 1 && k == items.size) = true) := by
    intro i k q
    rw [Bool.and_eq_true, Bool.and_eq_true] at q
    exact absurd q.1.2 (by decide)
  show wpAny _ _ (if (_ == 0 && (-1 : Int) == 1 && _ == items.size) = true then _ else _) _ _ s
  rw [if_neg (hno _ _)]
  have e : ((List.range (Builtin.Slice.slicePlaces (Builtin.Slice.sliceAdjust lo hi (-1) (items.size : Int)).1 (Builtin.Slice.sliceAdjust lo hi (-1) (items.size : Int)).2 (-1))).filterMap fun (m : Nat) => items[((Builtin.Slice.sliceAdjust lo hi (-1) (items.size : Int)).1 + (m : Int) * (-1)).toNat]?).toArray = (backL items.toList lo hi).toArray := by
    unfold backL
    rw [Array.length_toList]
    congr 1
    refine fm_congr fun m _ => ?_
    rw [Array.getElem?_toList]
  rw [e]
  first
    | exact wpAny_bind (m := Builtin.Tuple.tupleExact _) (wpAny_newObj_type (wpAny_pure ⟨_, rfl, wpAny_pure h⟩) htake)
    | exact wpAny_bind (m := Builtin.Tuple.tupleExact _) (wpAny_newObj_type (wpAny_bind (wpAny_pure (wpAny_pure ⟨_, rfl, wpAny_pure h⟩))) htake)
    | exact wpAny_bind (wpAny_bind (m := Builtin.Tuple.tupleExact _) (wpAny_newObj_type (wpAny_pure (wpAny_pure ⟨_, rfl, wpAny_pure h⟩)) htake))
    | exact wpAny_bind (wpAny_bind (m := Builtin.Tuple.tupleExact _) (wpAny_newObj_type (wpAny_pure ⟨_, rfl, wpAny_pure h⟩) htake))
end
def tBack (K : PySem.W.Frag) (te : TE) (tl th : TO) : TE := fun σ H Q => te σ H fun x H1 => tl σ H1 fun l H2 => th σ H2 fun u H3 =>
  (∃ a xs, x = .ref a ∧ SqT K H3 a xs ∧ (backL xs l u).length ≤ sizeLine ∧ ∀ p, H3 p = none → Q (.ref p) (upd H3 p (.tup (backL xs l u)))) ∨
  (∃ a xs, x = .ref a ∧ SqL K H3 a xs ∧ l = none ∧ u = none ∧ ∀ p, H3 p = none → Q (.ref p) (upd H3 p (.lst xs.reverse)))
theorem pe_back {e : Expr} {te : TE} {lo hi : Option Expr} {tl th : TO} {k : Nat} {p1 p2 p3 pos : Pos} (he : PE X e te) (hl : PO X lo tl) (hh : PO X hi th) : PE X (.Subscript e (.Slice lo hi (some (.UnaryOp .USub (.Constant (.int 1) k p1) p2)) p3) pos) (tBack X.K te tl th) := by
  refine ⟨fun pins s σ H Q I h => ?_⟩
  refine PyProof.Rows.Subscript_ (thn (he.run pins s σ H _ I h) fun v s1 ⟨x, H1, I1, r1, q1⟩ => ?_)
  have hst : PO X (some (.UnaryOp .USub (.Constant (.int 1) k p1) p2)) (tPart (tUn (rU fun i => .int (-i)) (tC (.int 1)))) := po_some (pe_un un_neg pe_int)
  refine wpAny_Slice (thn (hl.run pins s1 σ H1 _ I1 q1) fun vl s2 ⟨l, H2, I2, pl, q2⟩ => thn (hh.run pins s2 σ H2 _ I2 q2) fun vu s3 ⟨u, H3, I3, pu, q3⟩ => ?_)
  refine thn (hst.run pins s3 σ H3 (fun o H4 => o = some (-1) ∧ H4 = H3) I3 ⟨1, rfl, -1, rfl, rfl, rfl⟩) fun vs s4 ⟨o, H4, I4, ps, eo, e4⟩ => ?_
  subst eo e4
  have I5 : Inv X pins σ H4 { s4 with heap := s4.heap.push { cls := .type "slice", data := .fields #[vl, vu, vs] } } := I4.kept (t' := s4.toks) fun b ob q => Heap.get?_push_of_some _ q
  show wpAny (model X.prog X.w) X.A (PyProof.Rows.subscriptTail e (.Slice lo hi (some (.UnaryOp .USub (.Constant (.int 1) k p1) p2)) p3) v (.ref s4.heap.objs.size)) (EP X pins σ Q) X.xe { s4 with heap := s4.heap.push { cls := .type "slice", data := .fields #[vl, vu, vs] } }
  rcases q3 with ⟨a, xs, rfl, hx, hz, q⟩ | ⟨a, xs, rfl, hx, rfl, rfl, q⟩
  · cases r1
    obtain ⟨its, r, ht, hz2⟩ := I5.tuple hx
    have e1 : (its.toArray.toList) = its := rfl
    have hb := vals_back r l u
    have hl2 : (backL its l u).length = (backL xs l u).length := (Vals.length hb).symm
    refine PyProof.Rows.tail_any (ops := [.ref a, .ref s4.heap.objs.size]) ht.typeIs (PyProof.Rows.slot_tuple_getitem.lookup) ?_ (by with_unfolding_all rfl)
    refine getItem_tuple_back ht (Heap.IsSliceOf.new _ vl vu vs) pl pu ps ?_ (by rw [e1, hl2]; exact hz)
    rw [e1]
    refine ⟨.ref _, _, I5.laid (t' := s4.toks) (o := .tup (backL xs l u)) (fun b ob q => Heap.get?_push_of_some _ q) (Nat.le_refl _) ?_, rfl, q _ (I5.hok.fresh (Nat.le_refl _))⟩
    exact ⟨hz, _, hb, PyProof.Rows.IsTup.new _ _⟩
  · cases r1
    obtain ⟨its, r, ht, hz⟩ := I5.list hx
    have hlen := r.length
    refine PyProof.Rows.tail_any (ops := [.ref a, .ref s4.heap.objs.size]) ht.isList.typeIs (PySem.slot_list_getitem.lookup) ?_ (by with_unfolding_all rfl)
    refine PySem.wpAny_getItem_list_slice ht.isList (Heap.IsSliceOf.new _ vl vu vs) pl pu ps (by decide) ?_ (by rw [List.size_toArray]; omega)
    rw [PySem.W.krv_pick]
    refine ⟨.ref _, _, I5.laid (t' := s4.toks) (o := .lst xs.reverse) (fun b ob q => Heap.get?_push_of_some _ q) (Nat.le_refl _) ?_, rfl, q _ (I5.hok.fresh (Nat.le_refl _))⟩
    exact ⟨by rw [List.length_reverse]; exact hz, _, 0, r.reverse, Heap.get?_push_size _ rfl⟩
def slcBF (d : PyData) (lo hi : Option Int) : Option PyData := match d with
  | .tuple ds => if (backL ds lo hi).length ≤ sizeLine then some (.tuple (backL ds lo hi)) else none
  | .list ds => if lo = none ∧ hi = none then some (.list ds.reverse) else none
  | _ => none
def mBack (m : M PyData) (ml mh : M (Option Int)) : M PyData := bM m fun d => bM ml fun l => bM mh fun u => oM (slcBF d l u)
theorem vd_back {e : Expr} {m : M PyData} {lo hi : Option Expr} {ml mh : M (Option Int)} {k : Nat} {p1 p2 p3 pos : Pos} (he : VD X W e m) (hl : VO X W lo ml) (hh : VO X W hi mh) :
    VD X W (.Subscript e (.Slice lo hi (some (.UnaryOp .USub (.Constant (.int 1) k p1) p2)) p3) pos) (mBack m ml mh) := by
  obtain ⟨t, pe, s⟩ := he
  obtain ⟨tl, pl, sl⟩ := hl
  obtain ⟨th, ph, sh⟩ := hh
  refine ⟨_, pe_back pe pl ph, fun Γ σ F H O Q k h => s Γ σ F H O _ k ?_⟩
  unfold mBack at h
  refine HitN.bind h fun d Γ1 v F1 H1 O1 k1 r s1 h1 => sl Γ1 σ F1 H1 O1 _ k1 ?_
  refine HitN.bind h1 fun l Γ2 l' F2 H2 O2 k2 r2 s2 h2 => sh Γ2 σ F2 H2 O2 _ k2 ?_
  cases r2
  refine HitN.bind h2 fun u Γ3 u' F3 H3 O3 k3 r3 s3 h3 => ?_
  cases r3
  have r := Df.mono (s2.f.trans s3.f) _ _ r
  unfold oM slcBF at h3
  split at h3
  · rename_i ds
    split at h3
    · rename_i hz
      cases r with
      | tup h4 h5 =>
        have hb := df_back h5 l u
        refine .inl ⟨_, _, rfl, tupT k3.sub h4, by rw [hb.length]; exact hz, fun p hp => ?_⟩
        obtain ⟨g, z⟩ := grow_tup k3.sub hp hb
        exact h3 _ _ _ O3 (k3.grow g) z g.step
    · exact h3.elim
  · rename_i ds
    split at h3
    · rename_i hz
      obtain ⟨rfl, rfl⟩ := hz
      cases r with
      | lst h4 h5 =>
        refine .inr ⟨_, _, rfl, .inl (.inl (k3.sub _ _ h4)), rfl, rfl, fun p hp => ?_⟩
        obtain ⟨g, z⟩ := grow_lst k3.sub hp h5.reverse
        exact h3 _ _ _ O3 (k3.grow g) z g.step
    · exact h3.elim
  · exact h3.elim
/-! ### sets of ints, for a moment -/
def dd : List Int → List Int
  | [] => []
  | x :: xs => if x ∈ dd xs then dd xs else x :: dd xs
theorem dd_mem {k : Int} : ∀ {ns : List Int}, k ∈ dd ns ↔ k ∈ ns
  | [] => Iff.rfl
  | x :: xs => by
    unfold dd
    split
    · rename_i h
      rw [dd_mem (ns := xs), List.mem_cons]
      exact ⟨.inr, fun z => z.elim (fun e => e ▸ dd_mem.mp h) id⟩
    · rw [List.mem_cons, List.mem_cons, dd_mem (ns := xs)]
theorem dd_nodup : ∀ ns : List Int, (dd ns).Nodup
  | [] => List.nodup_nil
  | x :: xs => by
    unfold dd
    split
    · exact dd_nodup xs
    · rename_i h
      exact List.nodup_cons.mpr ⟨h, dd_nodup xs⟩
theorem dd_len : ∀ ns : List Int, (dd ns).length ≤ ns.length
  | [] => Nat.le_refl _
  | x :: xs => by
    have := dd_len xs
    unfold dd
    split
    · simp; omega
    · simp; omega
theorem dd_of {ns ms : List Int} (nd : ms.Nodup) (h : ∀ k, k ∈ ms ↔ k ∈ ns) : ms.length = (dd ns).length :=
  ((List.perm_ext_iff_of_nodup nd (dd_nodup ns)).mpr fun k => (h k).trans dd_mem.symm).length_eq
theorem dd_full {ns : List Int} : (dd ns).length = ns.length ↔ ns.Nodup := by
  induction ns with
  | nil => simp [dd]
  | cons x xs ih =>
    rw [List.nodup_cons]
    unfold dd
    split
    · rename_i h
      have := dd_len xs
      constructor
      · intro e; simp at e; omega
      · intro e; exact absurd (dd_mem.mp h) e.1
    · rename_i h
      rw [List.length_cons, List.length_cons, Nat.succ.injEq, ih]
      exact ⟨fun e => ⟨fun z => h (dd_mem.mpr z), e⟩, fun e => e.2⟩
/-- a set off a tuple or a list of ints -/
def rSetTI (K : PySem.W.Frag) (w : World) : List V → Hp → VK → Prop := fun vs H Q => ∃ (a : Addr) (ns : List Int), vs = [.ref a] ∧ (SqT K H a (ns.map V.int) ∨ SqL K H a (ns.map V.int)) ∧ ns.length ≤ 1000 ∧
  ∀ p, H p = none → Q (.ref p) (upd H p (SetO w p (fun j => decide (j ∈ ns)) (dd ns).length))
theorem cr_setTI (hc : X.calm = true) : CallR X (.type "set") (rSetTI X.K X.w) := by
  intro pins s σ H vs us Q I r h
  obtain ⟨a, ns, rfl, hq, hz, q⟩ := h
  rw [Vals.ref1 r]
  have fin : ∀ (h' : Heap) (tk c : Nat), SetR X.w h' s.heap.objs.size (fun j => decide (j ∈ ns)) c → c ≤ ns.length → (∀ b o, s.heap.get? b = some o → h'.get? b = some o) → EP X pins σ Q (.ref s.heap.objs.size) { s with heap := h', toks := tk } := fun h' tk c hS hcl hk => by
    have ec : c = (dd ns).length := by
      obtain ⟨o, es, ep, t, _, _, _, _, hn, hm, _, _, hsz, _⟩ := hS
      rw [← hsz, ← dd_of (ms := es.toList.map keyOf) hn fun k => ((hm k).symm).trans (by simp), List.length_map, Array.length_toList]
    subst ec
    exact ⟨.ref _, _, I.laid (t' := tk) (fun b u e => hk b u e) (Nat.le_refl _) (setO_new hS), rfl, q _ (I.hok.fresh (Nat.le_refl _))⟩
  rcases hq with hq | hq
  · obtain ⟨its, ri, ht, _⟩ := I.tuple hq
    exact call_set_tupI ns (I.ok.hd hc) (show s.heap.IsTuple a its.toArray from ht) (intsAre_of ri) (by unfold scanBound; omega) fin
  · obtain ⟨its, ri, ht, _⟩ := I.list hq
    exact call_set_lstI ns (I.ok.hd hc) ht.isList (intsAre_of ri) (by unfold scanBound; omega) fin
def rLenSO (w : World) : List V → Hp → VK → Prop := fun vs H Q => ∃ (a : Addr) (S : Int → Bool) (n : Nat), vs = [.ref a] ∧ H a = some (SetO w a S n) ∧ n ≤ 1000 ∧ Q (.int (n : Int)) H
theorem cr_lenSO : CallR X (.builtin "len") (rLenSO X.w) := by
  intro pins s σ H vs us Q I r h
  obtain ⟨a, S, n, rfl, ha, hz, q⟩ := h
  have R := setO_get I ha
  rw [Vals.ref1 r]
  obtain ⟨o, es, ep, t, ho, hex, hd, _, _, _, _, hf, hn, _⟩ := R
  refine PySem.call_len_set ho hex hd hf (by rw [hn]; omega) ⟨.int (n : Int), H, I.tok _, ⟨_, by rw [hn]⟩, q⟩
def lenSetF (d : PyData) : Option PyData := match d with
  | .tuple ds => (match intsF ds with
    | some ns => if ns.length ≤ 1000 then some (.int ((dd ns).length : Int)) else none
    | none => none)
  | .list ds => (match intsF ds with
    | some ns => if ns.length ≤ 1000 then some (.int ((dd ns).length : Int)) else none
    | none => none)
  | _ => none
def sortSetF (d : PyData) : Option (List PyData) := match d with
  | .tuple ds => (match intsF ds with
    | some ns => if ns.length ≤ 1000 ∧ (dd ns).length < 64 then some ((sortI (dd ns)).map .int) else none
    | none => none)
  | .list ds => (match intsF ds with
    | some ns => if ns.length ≤ 1000 ∧ (dd ns).length < 64 then some ((sortI (dd ns)).map .int) else none
    | none => none)
  | _ => none
def rowI : PyData → Option (List Int)
  | .tuple ds => intsF ds
  | .list ds => intsF ds
  | _ => none
theorem rows_of {K : PySem.W.Frag} {F H : Hp} {d : PyData} {v : V} {ns : List Int} (s : Same F H) (r : rP K F H d v) (e : rowI d = some ns) : ∃ a, v = .ref a ∧ (SqT K H a (ns.map V.int) ∨ SqL K H a (ns.map V.int)) := by
  cases d with
  | tuple ds =>
    have r := r.df (fun _ z => nomatch z)
    cases r with
    | tup h4 h5 =>
      have e2 := ints_vs h5 (show intsF ds = some ns from e)
      subst e2
      exact ⟨_, rfl, .inl (tupT s h4)⟩
  | list ds =>
    obtain ⟨p, vs, rfl, hp, h5⟩ := rP.list s r
    have e2 := ints_vs h5 (show intsF ds = some ns from e)
    subst e2
    exact ⟨p, rfl, .inr (.inl (.inl hp))⟩
  | _ => cases e
theorem lenSet_of {d e : PyData} (h : lenSetF d = some e) : ∃ ns, rowI d = some ns ∧ ns.length ≤ 1000 ∧ e = .int ((dd ns).length : Int) := by
  unfold lenSetF at h
  split at h
  · split at h
    · rename_i ns e1
      by_cases c : ns.length ≤ 1000
      · rw [if_pos c] at h; exact ⟨ns, e1, c, (Option.some.inj h).symm⟩
      · rw [if_neg c] at h; cases h
    · cases h
  · split at h
    · rename_i ns e1
      by_cases c : ns.length ≤ 1000
      · rw [if_pos c] at h; exact ⟨ns, e1, c, (Option.some.inj h).symm⟩
      · rw [if_neg c] at h; cases h
    · cases h
  · cases h
theorem sortSet_of {d : PyData} {es : List PyData} (h : sortSetF d = some es) : ∃ ns, rowI d = some ns ∧ (ns.length ≤ 1000 ∧ (dd ns).length < 64) ∧ es = (sortI (dd ns)).map .int := by
  unfold sortSetF at h
  split at h
  · split at h
    · rename_i ns e1
      by_cases c : ns.length ≤ 1000 ∧ (dd ns).length < 64
      · rw [if_pos c] at h; exact ⟨ns, e1, c, (Option.some.inj h).symm⟩
      · rw [if_neg c] at h; cases h
    · cases h
  · split at h
    · rename_i ns e1
      by_cases c : ns.length ≤ 1000 ∧ (dd ns).length < 64
      · rw [if_pos c] at h; exact ⟨ns, e1, c, (Option.some.inj h).symm⟩
      · rw [if_neg c] at h; cases h
    · cases h
  · cases h
theorem vd_lenSet {x y : Str} {p p2 q pos : Pos} {e : Expr} {m : M PyData} (hc : X.calm = true) (hm : X.mg x = none) (hv : bootBuiltins x = some (.builtin "len")) (hm2 : X.mg y = none) (hv2 : bootBuiltins y = some (.type "set")) (h : VP X W e m) (hg : Gl X x := by rfl) (hg2 : Gl X y := by rfl)
    (hst : starEach [e] X.env = (false, eval e X.env) :: starEach [] X.env := by rfl) (hst2 : starEach [.Call (.Name y p2) [e] [] q] X.env = (false, eval (.Call (.Name y p2) [e] [] q) X.env) :: starEach [] X.env := by rfl)
    (hn : x ≠ "__name__" := by decide) (hd : (x == ("__debug__" : Str)) = false := by decide) (hn2 : y ≠ "__name__" := by decide) (hd2 : (y == ("__debug__" : Str)) = false := by decide) :
    VD X W (.Call (.Name x p) [.Call (.Name y p2) [e] [] q] [] pos) (mC1 lenSetF m) := by
  obtain ⟨t, pe, s⟩ := h
  refine ⟨_, pe_callB cr_lenSO hg hm hv (pa_cons (pe_callTy (cr_setTI hc) hg2 hm2 hv2 (pa_cons pe pa_nil hst) hn2 hd2 hst) pa_nil hst2) hn hd hst2, fun Γ σ F H O Q k h => s Γ σ F H O _ k ?_⟩
  unfold mC1 at h
  refine HitN.bind h fun d Γ1 v F1 H1 O1 k1 r1 s1 h1 => ?_
  unfold oM at h1
  cases e1 : lenSetF d with
  | none => rw [e1] at h1; exact h1.elim
  | some w1 =>
    rw [e1] at h1
    obtain ⟨ns, e2, hz, rfl⟩ := lenSet_of e1
    obtain ⟨a, rfl, hq⟩ := rows_of k1.sub r1 e2
    refine ⟨_, _, rfl, hq, hz, fun p hp => ⟨p, _, _, rfl, upd_same, ?_, ?_⟩⟩
    · have := dd_len ns; omega
    · have g := Grow.new (F := F1) (o := SetO X.w p (fun j => decide (j ∈ ns)) (dd ns).length) k1.sub hp
      exact h1 _ _ _ O1 (k1.grow g) (.int _) g.step
theorem vt_sortSet {x y : Str} {p p2 q pos : Pos} {e : Expr} {m : M PyData} (hc : X.calm = true) (hm : X.mg x = none) (hv : bootBuiltins x = some (.builtin "sorted")) (hm2 : X.mg y = none) (hv2 : bootBuiltins y = some (.type "set")) (h : VP X W e m) (hg : Gl X x := by rfl) (hg2 : Gl X y := by rfl)
    (hst : starEach [e] X.env = (false, eval e X.env) :: starEach [] X.env := by rfl) (hst2 : starEach [.Call (.Name y p2) [e] [] q] X.env = (false, eval (.Call (.Name y p2) [e] [] q) X.env) :: starEach [] X.env := by rfl)
    (hn : x ≠ "__name__" := by decide) (hd : (x == ("__debug__" : Str)) = false := by decide) (hn2 : y ≠ "__name__" := by decide) (hd2 : (y == ("__debug__" : Str)) = false := by decide) :
    VT X W (.Call (.Name x p) [.Call (.Name y p2) [e] [] q] [] pos) (mC1T sortSetF m) := by
  obtain ⟨t, pe, s⟩ := h
  refine ⟨_, pe_callB (cr_sortedSet hc) hg hm hv (pa_cons (pe_callTy (cr_setTI hc) hg2 hm2 hv2 (pa_cons pe pa_nil hst) hn2 hd2 hst) pa_nil hst2) hn hd hst2, fun Γ σ F H O Q k h => s Γ σ F H O _ k ?_⟩
  unfold mC1T at h
  refine HitT.bindN h fun d Γ1 v F1 H1 O1 k1 r1 s1 h1 => ?_
  unfold oM at h1
  cases e1 : sortSetF d with
  | none => rw [e1] at h1; exact h1.elim
  | some es =>
    rw [e1] at h1
    obtain ⟨ns, e2, hz, rfl⟩ := sortSet_of e1
    obtain ⟨a, rfl, hq⟩ := rows_of k1.sub r1 e2
    refine ⟨_, _, rfl, hq, hz.1, fun p hp => ⟨p, _, _, rfl, upd_same, hz.2, fun ms l hs hmem _ hl => ?_⟩⟩
    have g := Grow.new (F := F1) (o := SetO X.w p (fun j => decide (j ∈ ns)) (dd ns).length) k1.sub hp
    have em : ms = sortI (dd ns) := by
      refine sortI_uniq ?_ (hs.imp fun {a b} z => by omega)
      refine (List.perm_ext_iff_of_nodup (hs.imp fun {a b} z => by omega) (dd_nodup ns)).mpr fun k => ?_
      rw [hmem k, dd_mem]
      simp
    subst em
    exact HitT.newL (o := []) (HitT.trans h1 (g.step (O := O1))) (k1.grow g) hl (of_ice (df_ints _)) (k1.grow g).nd (fun _ m => nomatch m)
theorem fn_none {P : Program} {w : World} {K : PySem.W.Frag} {mg : Str → Option Value} {base : Heap} {k : Nat} {f : Addr} {fd : FuncData} {ps : List Str} : FnOkG P w K mg base (L2.CX P w) k f fd ps (spM ps.length K fun _ => none) := by
  refine ⟨fun vs H Q E h => ?_, fun A outer s H args us vs Q E hr he hb hv h => ?_⟩
  · obtain ⟨_, _, _, e, _⟩ := h
    exact e
  · obtain ⟨_, _, _, _, _, _, _, _, h⟩ := h
    exact h.elim
end
end TW

/-! {}, x.insert(k, e) -/
namespace TW
open PySem PySem.Spec L2
section
variable {X : Cx} {W : WX} {e k : Expr} {m mk : M PyData} {p p2 pos : Pos} {x : Str}
theorem vt_disp0 : VT X W (.Dict [] [] pos) (pM (.dct [])) := by
  refine ⟨_, pe_dnewK, fun Γ σ F H O Q k h q hq => ?_⟩
  have fq : F q = none := none_of_same k.sub hq
  have qO : q ∉ O := fun m => RepG.live k.rep q m hq
  have k2 : Ok X.K F (L2.upd H q (.dK [])) Γ σ O := k.upd qO fq
  refine h (.ref q) F _ O [q] k2 ?_ (List.nodup_cons.mpr ⟨qO, k.nd⟩) (fun b m => by rw [List.mem_singleton.mp m]; exact fq) ⟨Same.refl _, fun b hb _ => ?_, fun b m => ?_⟩
  · unfold RepT
    exact ⟨q, [], rfl, upd_same, .nil, rfl⟩
  · have nb : b ≠ q := fun e => hb (e ▸ hq)
    exact ⟨upd_ne nb, id⟩
  · rcases List.mem_cons.mp m with rfl | m
    · exact .inr hq
    · exact .inl m
theorem vt_dispT : VT X W (.Dict [] [] pos) (pM (.dtp [])) := by
  refine ⟨_, pe_dnewT, fun Γ σ F H O Q k h q hq => ?_⟩
  have fq : F q = none := none_of_same k.sub hq
  have qO : q ∉ O := fun m => RepG.live k.rep q m hq
  have k2 : Ok X.K F (L2.upd H q (.dT [])) Γ σ O := k.upd qO fq
  refine h (.ref q) F _ O [q] k2 ?_ (List.nodup_cons.mpr ⟨qO, k.nd⟩) (fun b m => by rw [List.mem_singleton.mp m]; exact fq) ⟨Same.refl _, fun b hb _ => ?_, fun b m => ?_⟩
  · unfold RepT
    exact ⟨q, [], rfl, upd_same, .nil, rfl⟩
  · have nb : b ≠ q := fun e => hb (e ▸ hq)
    exact ⟨upd_ne nb, id⟩
  · rcases List.mem_cons.mp m with rfl | m
    · exact .inr hq
    · exact .inl m
/-! ### x.insert(k, e) -/
def insK (i : Nat) (kd d : PyData) (Γ : G) : Option (Rs PyData) := match kd, Γ[i]? with
  | .int j, some (some (.lst ts)) => (match flatT ts with
    | some ds => if 0 ≤ j ∧ j < 2 ^ 62 ∧ ts.length < sizeLine then some (.ok .none (Γ.set i (some (.lst ((ds.take j.toNat ++ [d] ++ ds.drop j.toNat).map .frz))))) else none
    | none => none)
  | _, _ => none
def mIns (i : Nat) (mk m : M PyData) : M PyData := fun Γ => match Γ[i]? with
  | some (some (.lst _)) => bM mk (fun kd => bM m (insK i kd)) Γ
  | _ => none
theorem vd_ins (i : Nat) (hk : VD X W k mk) (he : VD X W e m) (hN : X.N[i]? = some x := by rfl) (hv : Vis X.env.scope x := by first | exact Or.inl rfl | exact Or.inr (Or.inl rfl) | exact Or.inr (Or.inr rfl)) (hd : (x == ("__debug__" : Str)) = false := by decide)
    (hcd : (x == ("__classdict__" : Str)) = false := by decide)
    (pbm : ∀ {te ta tb : TE}, PE X (.Name x p) te → PE X k ta → PE X e tb → PE X (.Call (.Attribute (.Name x p) "insert" p2) [k, e] [] pos) (tBM X.K "list" (fun x vs H Q => ∃ (l : Addr) (xs : List V) (i : Int) (y : V), x = .ref l ∧ vs = [.int i, y] ∧ H l = some (.lst xs) ∧ xs.length < sizeLine ∧ 0 ≤ i ∧ i < 2 ^ 63 ∧
      Q .non (L2.upd H l (.lst (xs.take i.toNat ++ [y] ++ xs.drop i.toNat)))) te (tCons ta (tCons tb tNil))) := by
      intro te ta tb h1 h2 h3; exact pe_bm PySem.F.plainAttrs_list PySem.F.slot_list_insert PySem.F.type_list_insert mt_insert h1 (pa_cons h2 (pa_cons h3 pa_nil))) :
    VD X W (.Call (.Attribute (.Name x p) "insert" p2) [k, e] [] pos) (mIns i mk m) := by
  obtain ⟨tk, pk, sk⟩ := hk
  obtain ⟨t, pe, s⟩ := he
  refine ⟨_, pbm (pe_var hN hv hd hcd) pk pe, fun Γ σ F H O Q k h => ?_⟩
  unfold mIns at h
  split at h
  · rename_i ts0 e0
    obtain ⟨v0, _, _, ev0, _⟩ := k.take e0
    obtain ⟨a, vs, o, O', rfl, ha, _⟩ := k.lstAt e0 ev0
    refine ⟨_, ev0, .inl ⟨rfl, _, SqL.of ha⟩, sk Γ σ F H O _ k ?_⟩
    refine HitN.bind h fun kd Γ1 y F1 H1 O1 k1 r1 s1 h1 => s Γ1 σ F1 H1 O1 _ k1 ?_
    refine HitN.bind h1 fun d Γ2 v F2 H2 O2 k2 r2 s2 h2 => ?_
    unfold insK at h2
    split at h2
    · rename_i j ts e2
      cases r1
      obtain ⟨a', vs2, o2, e3, ha2, hr, n2, ed⟩ := k2.edit e2 ev0
      cases e3
      split at h2
      · rename_i ds q
        have e5 := flatT_some q
        subst e5
        have hf := RepTs.flat hr
        split at h2
        · rename_i hz
          obtain ⟨z0, z1, z2⟩ := hz
          obtain ⟨O4, k4, s4⟩ := ed _ _ [] (of_ice ((((hf.take j.toNat)).append (DfAll.cons r2 .nil)).append (hf.drop j.toNat))) List.nodup_nil (fun _ m => nomatch m)
          refine ⟨a, vs2, j, v, rfl, rfl, ha2, by rw [RepTs.length hr]; exact z2, z0, by omega, ?_⟩
          exact h2 .non F2 _ O4 k4 .non s4
        · exact h2.elim
      · exact h2.elim
    · exact h2.elim
  · exact h.elim
end
end TW

/-! zip of a list and a tuple -/
namespace TW
open PySem PySem.Spec PyProof.Rows L2
/-- the cells of such a zip, one by one -/
abbrev mzA (h : Heap) (a : Addr) : Heap := h.push { cls := .type "list_iterator", data := .fields #[.ref a, .int 0 0] }
abbrev mzB (h : Heap) (a b : Addr) : Heap := (mzA h a).push { cls := .type "tuple_iterator", data := .fields #[.ref b, .int 0 0] }
abbrev mzC (h : Heap) (a b : Addr) : Heap := (mzB h a b).push { cls := .type "tuple", data := .seq #[.ref h.objs.size, .ref (mzA h a).objs.size] }
abbrev mzD (h : Heap) (a b : Addr) : Heap := (mzC h a b).push { cls := .type "tuple", data := .seq #[.none, .none] }
abbrev mzE (h : Heap) (a b : Addr) : Heap := (mzD h a b).push { cls := .type "zip", data := .fields #[.none, .bool false, .bool false, .ref (mzB h a b).objs.size, .ref (mzC h a b).objs.size] }
theorem mz_new (a b : Addr) (xs ys : Array Value) : Meets (Builtin.«zip.__new__» ⟨[.type "zip", .ref a, .ref b], []⟩) fun _ R s => s.heap.IsList a xs ∧ s.heap.IsTuple b ys ∧ R (.ok (.ret (.ref (mzD s.heap a b).objs.size))) { s with heap := mzE s.heap a b } :=
  .of_wp fun prog w A R s h => by
    obtain ⟨hp, g, d, tk, os⟩ := s
    obtain ⟨ha, hb, h⟩ := h
    have hsub := sub_zip
    have la : Heap.IsList (Shared.heap ⟨hp, g, d, tk, os⟩) a xs := ha
    have lb : Heap.IsTuple (Shared.heap ⟨mzA hp a, g, d, tk, os⟩) b ys := Heap.IsTuple.push hb _
    wp_walk using wpAny_pyIter_list la, wpAny_pyIter_tuple lb
    exact ⟨_, rfl, h⟩
/-- a zip that stands, at turn i -/
def MzAt (a b z p q i1 i2 : Addr) (i : Nat) (h : Heap) : Prop := IsZip h z p q .none ∧ IsPair h p (.ref i1) (.ref i2) ∧ (∃ x y, IsPair h q x y) ∧ h.IsListIter i1 a i ∧ h.IsTupleIter i2 b i
section
variable {prog : Program} {w : World} {A : Around} {E : Value → Shared → Prop} {s : Shared}
theorem call_mz {a b : Addr} {xs ys : Array Value} {Q : Value → Shared → Prop} (ha : s.heap.IsList a xs) (hb : s.heap.IsTuple b ys)
    (h : ∀ h', MzAt a b (s.heap.objs.size + 4) (s.heap.objs.size + 2) (s.heap.objs.size + 3) s.heap.objs.size (s.heap.objs.size + 1) 0 h' → (∀ c o, s.heap.get? c = some o → h'.get? c = some o) → Q (.ref (s.heap.objs.size + 4)) { s with heap := h' }) :
    wpAny (model prog w) A (call (.type "zip") [.ref a, .ref b]) Q E s := by
  refine callType_new F.called_zip (by decide) (F.typeCall_zip_2 _ _) (F.newCall_zip_2 _ _) (fun o => F.args_object_init_3 o _ _) F.entry_zip_new (mz_new a b xs ys) ⟨ha, hb, ?_⟩
  obtain ⟨hp, g, d, tk, os⟩ := s
  dsimp only at *
  have nA : (mzA hp a).objs.size = hp.objs.size + 1 := Heap.size_push ..
  have nB : (mzB hp a b).objs.size = hp.objs.size + 2 := by rw [Heap.size_push, nA]
  have nC : (mzC hp a b).objs.size = hp.objs.size + 3 := by rw [Heap.size_push, nB]
  have nD : (mzD hp a b).objs.size = hp.objs.size + 4 := by rw [Heap.size_push, nC]
  have up : ∀ {k : Heap} {o : Obj} {c : Addr} {v : Obj}, k.get? c = some v → (k.push o).get? c = some v := fun e => Heap.get?_push_of_some _ e
  have c0 : (mzE hp a b).get? hp.objs.size = some _ := up (up (up (up (Heap.get?_push_size _ rfl))))
  have c1 : (mzE hp a b).get? (mzA hp a).objs.size = some _ := up (up (up (Heap.get?_push_size _ rfl)))
  have c2 : (mzE hp a b).get? (mzB hp a b).objs.size = some _ := up (up (Heap.get?_push_size _ rfl))
  have c3 : (mzE hp a b).get? (mzC hp a b).objs.size = some _ := up (Heap.get?_push_size _ rfl)
  have c4 : (mzE hp a b).get? (mzD hp a b).objs.size = some _ := Heap.get?_push_size _ rfl
  rw [nD, nB, nC] at c4
  rw [nC] at c3
  rw [nB, nA] at c2
  rw [nA] at c1
  show _ ∧ _
  rw [nD]
  exact ⟨⟨_, c4, rfl⟩, h _ ⟨c4, c2, ⟨_, _, c3⟩, ⟨_, c0, rfl, rfl⟩, ⟨_, c1, rfl, rfl⟩⟩ fun c o e => up (up (up (up (up e))))⟩
end
/-- the list and the tuple as they stand at each turn -/
def ItzM (K : PySem.W.Frag) (a b : Addr) : It where
  go i H := ∃ (xs ys : List V) (x y : V), SqL K H a xs ∧ SqT K H b ys ∧ xs[i]? = some x ∧ ys[i]? = some y
  yld i H v H' := ∃ T x y, v = .ref T ∧ H T = none ∧ H' = upd H T (.tup [x, y]) ∧ (∀ xs, SqL K H a xs → xs[i]? = some x) ∧ ∀ ys, SqT K H b ys → ys[i]? = some y
  stop i H := ∃ xs ys : List V, SqL K H a xs ∧ SqT K H b ys ∧ (xs.length ≤ i ∨ ys.length ≤ i)
theorem mz_sep {z p q i1 i2 a b : Addr} (D : ZipApart z p q i1 i2 a b) : ZipSep2 z p q i1 i2 [i1, a] [i2, b] where
  TIz := D.TIz
  TOz := D.TOz
  TITO := D.TITO
  TIi1 := D.TIi1
  TIi2 := D.TIi2
  mem1 := List.mem_cons_self ..
  mem2 := List.mem_cons_self ..
  zf1 m := by rcases List.mem_cons.mp m with e | m; exact D.i1z e.symm; exact D.l1z (List.mem_singleton.mp m).symm
  zf2 m := by rcases List.mem_cons.mp m with e | m; exact D.i2z e.symm; exact D.l2z (List.mem_singleton.mp m).symm
  Tf1 m := by rcases List.mem_cons.mp m with e | m; exact D.TOi1 e; exact D.l1TO (List.mem_singleton.mp m).symm
  Tf2 m := by rcases List.mem_cons.mp m with e | m; exact D.TOi2 e; exact D.l2TO (List.mem_singleton.mp m).symm
  sep1_2 m := by rcases List.mem_cons.mp m with e | m; exact D.i12 e; exact D.l2i1 (List.mem_singleton.mp m).symm
  sep2_1 m := by rcases List.mem_cons.mp m with e | m; exact D.i12 e.symm; exact D.l1i2 (List.mem_singleton.mp m).symm
/-- a row at its end, or beyond -/
theorem mz_endL {prog : Program} {w : World} {A : Around} (hh : A.handled = none) {it a : Addr} {items : Array Value} {i : Nat} (h : items[i]? = none) : Draws prog w A it [it, a] i (fun _ _ => False) (fun j k => j = i ∧ k.IsListIter it a i ∧ k.IsList a items) where
  live _ _ st := let ⟨o, e, _⟩ := st.2.1; ⟨o, e⟩
  frame _ _ _ st k := ⟨st.1, st.2.1.at fun o e => k it (by simp) o e, st.2.2.at fun o e => k a (by simp) o e⟩
  item j _ _ _ hj st _ := by have := st.1; omega
  done _ _ _ st hE := wpAny_nextOf_list_end hh st.2.1 st.2.2 h hE
theorem mz_endT {prog : Program} {w : World} {A : Around} (hh : A.handled = none) {it a : Addr} {items : Array Value} {i : Nat} (h : items[i]? = none) : Draws prog w A it [it, a] i (fun _ _ => False) (fun j k => j = i ∧ k.IsTupleIter it a i ∧ k.IsTuple a items) where
  live _ _ st := let ⟨o, e, _⟩ := st.2.1; ⟨o, e⟩
  frame _ _ _ st k := ⟨st.1, st.2.1.at fun o e => k it (by simp) o e, st.2.2.at fun o e => k a (by simp) o e⟩
  item j _ _ _ hj st _ := by have := st.1; omega
  done _ _ _ st hE := wpAny_nextOf_tuple_end hh st.2.1 st.2.2 h hE
abbrev mzF (z p q i1 i2 : Addr) : List Addr := [z, p, q, i1, i2]
theorem mz_out {z p q i1 i2 c : Addr} (h : c ∉ mzF z p q i1 i2) : c ≠ z ∧ c ≠ p ∧ c ≠ q ∧ c ≠ i1 ∧ c ≠ i2 :=
  ⟨fun e => h (by simp [e]), fun e => h (by simp [e]), fun e => h (by simp [e]), fun e => h (by simp [e]), fun e => h (by simp [e])⟩
theorem mz_turn_obj {a b z p q i1 i2 : Addr} {i : Nat} {h : Heap} (st : MzAt a b z p q i1 i2 i h) : ∀ c ∈ mzF z p q i1 i2, ∃ o, h.get? c = some o ∧ ∀ v, o.data ≠ .cell v := fun c hc => by
    obtain ⟨sz, sp, ⟨x, y, sq⟩, ⟨o1, e1, _, d1⟩, ⟨o2, e2, _, d2⟩⟩ := st
    simp only [List.mem_cons, List.not_mem_nil, or_false] at hc
    rcases hc with rfl | rfl | rfl | rfl | rfl
    · exact ⟨_, sz, fun _ e => nomatch e⟩
    · exact ⟨_, sp, fun _ e => nomatch e⟩
    · exact ⟨_, sq, fun _ e => nomatch e⟩
    · exact ⟨_, e1, fun _ e => by rw [d1] at e; cases e⟩
    · exact ⟨_, e2, fun _ e => by rw [d2] at e; cases e⟩
theorem mz_turn {P : Program} {w : World} {K : PySem.W.Frag} {elts : List Expr} {kk : Nat} {tpos : Pos} {a b z p q i1 i2 : Addr} (D : ZipApart z p q i1 i2 a b) :
    Turn P w K (.Tuple elts kk tpos) (ItzM K a b) (mzF z p q i1 i2) z (MzAt a b z p q i1 i2) where
  mem := List.mem_cons_self ..
  self A i s Q E st h := wpAny_pyIter_zip st.1 h
  obj i h st c hc := mz_turn_obj st c hc
  keep i h h' st k := by
    obtain ⟨sz, sp, ⟨x, y, sq⟩, t1, t2⟩ := st
    refine ⟨k _ (by simp) _ sz, k _ (by simp) _ sp, ⟨x, y, k _ (by simp) _ sq⟩, t1.at fun o e => k i1 (by simp) o e, t2.at fun o e => k i2 (by simp) o e⟩
  done := by
    intro X hP hw hK hc i pins s σ H E I hf st hg
    subst hP hw hK
    obtain ⟨sz, sp, ⟨x0, y0, sq⟩, t1, t2⟩ := st
    obtain ⟨xs, ys, qx, qy, he⟩ := hg
    obtain ⟨us, ru, pu, _⟩ := I.list qx
    obtain ⟨vs, rv, pv, _⟩ := I.tuple qy
    have hh : X.A.in1.handled = none := I.ok.hd hc
    have lu := ru.length
    have lv := rv.length
    have out : ∀ (h' : Heap) (tk : Nat), (∀ c o, c ≠ z → c ≠ q → c ≠ i1 → c ≠ i2 → s.heap.get? c = some o → h'.get? c = some o) → (none : Option Value) = none ∧ Inv X pins σ H { s with heap := h', toks := tk } := fun h' tk hk =>
      ⟨rfl, I.turnedL (ch := mzF z p q i1 i2) (fun c o hb e => by obtain ⟨n1, _, n3, n4, n5⟩ := mz_out hb; exact hk c o n1 n3 n4 n5 e) hf⟩
    by_cases cu : i < us.length
    · have cv : vs.toArray[i]? = none := by
        rcases he with e | e
        · omega
        · simp; omega
      exact wpAny_pyNext_zipD2_end (mz_sep D) (Draws.list hh i1 a D.l1i1 us.toArray) (mz_endT hh cv) sz sp sq ⟨t1, pu.isList⟩ ⟨rfl, t2, pv⟩ (by simp; omega) (Nat.le_refl _) (.inr rfl) out
    · have cu : us.toArray[i]? = none := by simp; omega
      by_cases cv : i < vs.length
      · exact wpAny_pyNext_zipD2_end (mz_sep D) (mz_endL hh cu) (Draws.tuple hh i2 b D.l2i2 vs.toArray) sz sp sq ⟨rfl, t1, pu.isList⟩ ⟨t2, pv⟩ (Nat.le_refl _) (by simp; omega) (.inl rfl) out
      · have cv : vs.toArray[i]? = none := by simp; omega
        exact wpAny_pyNext_zipD2_end (mz_sep D) (mz_endL hh cu) (mz_endT hh cv) sz sp sq ⟨rfl, t1, pu.isList⟩ ⟨rfl, t2, pv⟩ (Nat.le_refl _) (Nat.le_refl _) (.inl rfl) out
  item := by
    intro X hP hw hK hc i pins s σ H E I hf st hg
    subst hP hw hK
    have live := st
    obtain ⟨sz, sp, ⟨x0, y0, sq⟩, t1, t2⟩ := st
    obtain ⟨xs, ys, x, y, qx, qy, hx, hy⟩ := hg
    obtain ⟨us, ru, pu, _⟩ := I.list qx
    obtain ⟨vs, rv, pv, _⟩ := I.tuple qy
    obtain ⟨u, hu, xu⟩ := ru.get hx
    obtain ⟨v, hv, yv⟩ := rv.get hy
    have hh : X.A.in1.handled = none := I.ok.hd hc
    have iu : i < us.toArray.size := by have := (List.getElem?_eq_some_iff.mp hu).1; simpa using this
    have iv : i < vs.toArray.size := by have := (List.getElem?_eq_some_iff.mp hv).1; simpa using this
    refine wpAny_pyNext_zipD2_item (mz_sep D) (Draws.list hh i1 a D.l1i1 us.toArray) (Draws.tuple hh i2 b D.l2i2 vs.toArray) sz sp sq ⟨t1, pu.isList⟩ ⟨t2, pv⟩ iu iv ?_
    intro u' v' h' tk eu ev z' q' s1 s2 hT hsz hk
    have eu : u' = u := by
      have h1 : us[i]? = some u' := by simpa using eu
      rw [hu] at h1
      exact (Option.some.inj h1).symm
    have ev : v' = v := by
      have h1 : vs[i]? = some v' := by simpa using ev
      rw [hv] at h1
      exact (Option.some.inj h1).symm
    subst eu ev
    refine ⟨_, rfl, wpAny_letOwnedTupleGo_zip (s := { s with heap := h', toks := tk }) z' fun k z'' sb => ?_⟩
    have zl : z < s.heap.objs.size := Heap.lt_size sz
    have old : ∀ c o, c ∉ mzF z p q i1 i2 → s.heap.get? c = some o → k.get? c = some o := fun c o hb e => by
      obtain ⟨n1, _, n3, n4, n5⟩ := mz_out hb
      exact (sb.2 c n1).trans (hk c o n1 n3 n4 n5 e)
    have fresh : ObjOk X.prog X.w (upd H s.heap.objs.size (.tup [x, y])) k s.heap.objs.size (.tup [x, y]) :=
      ⟨show 2 ≤ sizeLine by decide, _, .cons xu (.cons yv .nil), ⟨_, (sb.2 _ (Nat.ne_of_gt zl)).trans hT, rfl, _, rfl⟩⟩
    have I1 : Inv X pins σ (upd H s.heap.objs.size (.tup [x, y])) { s with heap := k, toks := tk } := I.turnedNew (ch := mzF z p q i1 i2) old hf (Nat.le_refl _) fresh
    refine ⟨.ref s.heap.objs.size, _, I1, rfl, ⟨_, x, y, rfl, I.hok.fresh (Nat.le_refl _), rfl, fun l hl => I.list_inj hl qx ▸ hx, fun l hl => I.tuple_inj hl qy ▸ hy⟩, ⟨z'', (sb.2 _ D.TIz).trans (hk _ _ D.TIz D.TITO D.TIi1 D.TIi2 sp), ⟨_, _, (sb.2 _ D.TOz).trans q'⟩, s1.1.at fun o e => (sb.2 _ D.i1z).trans e, s2.1.at fun o e => (sb.2 _ D.i2z).trans e⟩, fun c hc2 => ?_⟩
    have cl : c < s.heap.objs.size := by
      obtain ⟨o, e, _⟩ := (mz_turn_obj live) c hc2
      exact Heap.lt_size e
    rw [upd_ne (Nat.ne_of_lt cl)]
    exact (hf c hc2).1
/-! ### zip of two rows of any of these kinds -/
def zipF2 : PyData → PyData → Option (List PyData)
  | .list ds, .tuple es => some (zipL ds es)
  | d, e => zipF d e
def mZip2 (ma mb : M PyData) : M (List PyData) := bM ma fun d => bM mb fun e => oM (zipF2 d e)
def iZip2 (K : PySem.W.Frag) (ta : TA) : L2.TI := fun σ H R => ta σ H fun vs H1 => ∃ a b xs ys, vs = [.ref a, .ref b] ∧ (SqL K H1 a xs ∧ (SqL K H1 b ys ∧ R (Itz K a b) H1 ∨ SqT K H1 b ys ∧ R (ItzM K a b) H1) ∨ SqT K H1 a xs ∧ SqT K H1 b ys ∧ R (RZ.ItzT K a b) H1)
section
variable {X : Cx} {W : WX} {pos p tpos : Pos} {elts : List Expr} {kk : Nat} {a b : Expr} {ma mb : M PyData}
theorem pi_zip2 {ta : TA} (hg : Gl X "zip") (hm : X.mg "zip" = none) (ha : PA X [a, b] ta) (hs : starEach [a, b] X.env = (false, eval a X.env) :: starEach [b] X.env := by rfl) (hpl : (backTo pos (starEach [b] X.env)).any (·.1) = false := by rfl) :
    PI X (.Tuple elts kk tpos) (.Call (.Name "zip" p) [a, b] [] pos) (iZip2 X.K ta) := by
  refine ⟨fun pins s σ H R I h => Call_ (ld_blt I hg hm PyProof.Rows.boot_zip (PyProof.Rows.callWith_type1 (thn (ha.run pos pins s σ H _ I h) ?_) hs hpl))⟩
  rintro us s1 ⟨vs, H1, I1, r1, a, b, xs, ys, rfl, q⟩
  cases r1 with
  | cons ra r1 =>
    cases r1 with
    | cons rb r1 =>
      cases r1
      cases ra
      cases rb
      have five : ∀ c ∈ mzF (s1.heap.objs.size + 4) (s1.heap.objs.size + 2) (s1.heap.objs.size + 3) s1.heap.objs.size (s1.heap.objs.size + 1), FpOk X pins H1 c := fun c hc => by
        have le : s1.heap.objs.size ≤ c := by
          simp only [List.mem_cons, List.not_mem_nil, or_false] at hc
          rcases hc with rfl | rfl | rfl | rfl | rfl <;> first | exact Nat.le_add_right _ _ | exact Nat.le_refl _
        exact I1.fpOk le (I1.hok.fresh le)
      rcases q with ⟨qa, q⟩ | ⟨qa, qb, q⟩
      · obtain ⟨us, _, pa, _⟩ := I1.list qa
        rcases q with ⟨qb, q⟩ | ⟨qb, q⟩
        · obtain ⟨vs, _, pb, _⟩ := I1.list qb
          refine call_zip_2 pa.isList pb.isList fun h' z1 z2 z3 z4 z5 _ hk => wpAny_pyIter_zip z1 ?_
          exact ⟨_, _, _, _, H1, rfl, I1.kept (t' := s1.toks) hk, turn_zip (PySem.W.ktu_apart _ a b pa.lt pb.lt), ⟨z1, z2, ⟨_, _, z3⟩, z4, z5⟩, five, q⟩
        · obtain ⟨vs, _, pb, _⟩ := I1.tuple qb
          obtain ⟨ob, eb, _⟩ := id pb
          refine call_mz pa.isList pb fun h' z hk => wpAny_pyIter_zip z.1 ?_
          exact ⟨_, _, _, _, H1, rfl, I1.kept (t' := s1.toks) hk, mz_turn (PySem.W.ktu_apart _ a b pa.lt (Heap.lt_size eb)), z, five, q⟩
      · obtain ⟨us, _, pa, _⟩ := I1.tuple qa
        obtain ⟨vs, _, pb, _⟩ := I1.tuple qb
        obtain ⟨oa, ea, _⟩ := id pa
        obtain ⟨ob, eb, _⟩ := id pb
        refine RZ.call_zipT pa pb fun h' z1 z2 z3 z4 z5 _ hk => wpAny_pyIter_zip z1 ?_
        exact ⟨_, _, _, _, H1, rfl, I1.kept (t' := s1.toks) hk, RZ.turn_zipT (PySem.W.ktu_apart _ a b (Heap.lt_size ea) (Heap.lt_size eb)), ⟨z1, z2, ⟨_, _, z3⟩, z4, z5⟩, five, q⟩
theorem walks_zipM {K : PySem.W.Frag} {F H : Hp} {a b : Addr} {xs ys : List V} {ds es : List PyData} (h : F a = some (.lst xs)) (r : DfAll K F xs ds) (h' : F b = some (.tup ys)) (r' : DfAll K F ys es) : Walks K F H (zipL ds es) (ItzM K a b) := fun i F1 H1 s1 s2 => by
  have qa : SqL K H1 a xs := .inl (.inl (s2 _ _ (s1 _ _ h)))
  have qb : SqT K H1 b ys := sqT_mono s2 (tupT s1 h')
  constructor
  · intro d e
    obtain ⟨d1, d2, e1, e2, rfl⟩ := zipL_get e
    obtain ⟨v1, g1, r1⟩ := DfAll.get r e1
    obtain ⟨v2, g2, r2⟩ := DfAll.get r' e2
    refine ⟨⟨xs, ys, v1, v2, qa, qb, g1, g2⟩, ?_⟩
    rintro x H2 ⟨T, y1, y2, rfl, hT, rfl, z1, z2⟩
    obtain rfl : v1 = y1 := Option.some.inj (g1.symm.trans (z1 xs qa))
    obtain rfl : v2 = y2 := Option.some.inj (g2.symm.trans (z2 ys qb))
    have g := s1.trans (same_upd (o := .tup [v1, v2]) (none_of_same s2 hT))
    exact ⟨_, Grow.new s2 hT, .tup upd_same (.cons (Df.mono g _ _ r1) (.cons (Df.mono g _ _ r2) .nil))⟩
  · intro e
    refine ⟨xs, ys, qa, qb, ?_⟩
    rw [zipL_len] at e
    have := DfAll.length r
    have := DfAll.length r'
    omega
theorem vi_zip2 (hm : X.mg "zip" = none) (ha : VD X W a ma) (hb : VD X W b mb) (hg : Gl X "zip" := by rfl) (hs : starEach [a, b] X.env = (false, eval a X.env) :: starEach [b] X.env := by rfl) (hs2 : starEach [b] X.env = (false, eval b X.env) :: starEach [] X.env := by rfl)
    (hpl : (backTo pos (starEach [b] X.env)).any (·.1) = false := by rfl) : VI X W (.Tuple elts kk tpos) (.Call (.Name "zip" p) [a, b] [] pos) (mZip2 ma mb) := by
  obtain ⟨ta, pa, sa⟩ := ha
  obtain ⟨tb, pb, sb⟩ := hb
  refine ⟨_, pi_zip2 hg hm (pa_cons pa (pa_cons pb pa_nil hs2) hs) hs hpl, fun Γ σ F H O R k h => sa Γ σ F H O _ k ?_⟩
  unfold mZip2 at h
  refine HitN.bind h fun d Γ1 v F1 H1 O1 k1 r s1 h1 => sb Γ1 σ F1 H1 O1 _ k1 ?_
  refine HitN.bind h1 fun e Γ2 v2 F2 H2 O2 k2 r2 s2 h2 => ?_
  have r := Df.mono s2.f _ _ r
  unfold oM zipF2 zipF at h2
  cases d with
  | list ds =>
    cases r with
    | lst a1 a2 =>
      cases e with
      | list es =>
        cases r2 with
        | lst b1 b2 => exact ⟨_, _, _, _, rfl, .inl ⟨.inl (.inl (k2.sub _ _ a1)), .inl ⟨.inl (.inl (k2.sub _ _ b1)), h2 _ F2 H2 O2 k2 (walks_zipL a1 a2 b1 b2) Step.refl⟩⟩⟩
      | tuple es =>
        cases r2 with
        | tup b1 b2 => exact ⟨_, _, _, _, rfl, .inl ⟨.inl (.inl (k2.sub _ _ a1)), .inr ⟨tupT k2.sub b1, h2 _ F2 H2 O2 k2 (walks_zipM a1 a2 b1 b2) Step.refl⟩⟩⟩
      | _ => exact h2.elim
  | tuple ds =>
    cases r with
    | tup a1 a2 =>
      cases e with
      | tuple es =>
        cases r2 with
        | tup b1 b2 => exact ⟨_, _, _, _, rfl, .inr ⟨tupT k2.sub a1, tupT k2.sub b1, h2 _ F2 H2 O2 k2 (walks_zipT a1 a2 b1 b2) Step.refl⟩⟩
      | _ => exact h2.elim
  | _ => cases e <;> exact h2.elim
end
end TW

/-! sorted(d): the keys of a dict of ints -/
namespace TW
open PySem PySem.Spec PyProof.Rows L2 PySem.W
theorem ints_each : ∀ {ns : List Int} {vs : List Value}, vs.length = ns.length → (∀ (j : Nat) (v : Value) (n : Int), vs[j]? = some v → ns[j]? = some n → ∃ t, v = .int n t) → IntsAre vs ns
  | [], [], _, _ => .nil
  | n :: ns, v :: vs, hl, h => by
    obtain ⟨t, rfl⟩ := h 0 v n rfl rfl
    exact .cons n t (ints_each (by simpa using hl) fun j v m e1 e2 => h (j + 1) v m e1 e2)
section
variable {prog : Program} {w : World} {A : Around} {E : Value → Shared → Prop} {s : Shared}
/-- collecting a dict's keys; the heap has grown -/
theorem col_keys {d : Addr} {es : Array DictEntry} {ep : Nat} {R : List Value → Shared → Prop} (lo : (d == sysModules) = false) (hh : A.handled = none) (hm : s.heap.DictRaw d es ep) (hz : es.size ≤ sizeLine)
    (h : ∀ (g : Heap) (tk : Nat) (acc : Array Value), s.heap.objs.size < g.objs.size → (∀ b o, s.heap.get? b = some o → g.get? b = some o) → ItemsOf (fun i v => ∃ hi : i < es.size, v = es[i].key) acc es.size → R acc.toList { s with heap := g, toks := tk }) :
    wpAny (model prog w) A (collect (.ref d)) R E s := by
  have lt := hm.lt_size
  have hl0 : (s.heap.push { cls := .type "list", data := .seq ([] : List Value).toArray }).get? s.heap.objs.size = some { cls := .type "list", data := .seq #[] } := Heap.get?_push_size _ rfl
  have main := kdl_extend (prog := prog) (w := w) (A := A) (s := { s with heap := s.heap.push { cls := .type "list", data := .seq ([] : List Value).toArray } })
    (R := fun q u => ∃ (g : Heap) (tk : Nat) (acc : Array Value) (c : Nat), q = .ok (.ret (.ref s.heap.objs.size)) ∧ u = { s with heap := g, toks := tk } ∧ (∀ b o, s.heap.get? b = some o → g.get? b = some o) ∧ g.get? s.heap.objs.size = some { cls := .type "list", dict := none, data := .seq acc c, slots := #[] } ∧ ItemsOf (fun i v => ∃ hi : i < es.size, v = es[i].key) acc es.size)
    (KdlSrc.rawDict lo) hh (hm.push _) s.heap.objs.size (Nat.ne_of_gt lt) (Nat.ne_of_gt lt) (.ref s.heap.objs.size) 0 hl0
    (fun g tk acc c old hS its => ⟨g, tk, acc, c, rfl, rfl, fun b o e => old b o (Nat.ne_of_lt (Heap.lt_size e)) (Heap.get?_push_of_some _ e), hS, its⟩) hz
  unfold collect
  refine wpAny_bind (wpAny_runValue (codeAny_builtin entry_proto_collect' ?_))
  rw [Around.under_plainId PySem.F.plain_proto_collect _]
  show wpAny _ A.in1 (newList [] >>= fun l => again (.builtin "list.__iadd__" ⟨[l, .ref d], []⟩)) _ _ s
  refine wpAny_bind (wpAny_newObj_type (wpAny_pure ⟨plainId_quiet PySem.F.plain_list_iadd _, codeAny_builtin entry_list_iadd' ?_⟩))
  rw [Around.under_plainId PySem.F.plain_list_iadd _]
  refine wpAny_mono main (fun fin u x => ?_) fun e u x => ?_
  · cases fin with
    | done f =>
      obtain ⟨g, tk, acc, c, e, rfl, old, hS, its⟩ := x
      cases e
      exact show wpAny _ A (load s.heap.objs.size >>= _) _ _ _ from wpAny_bind (wpAny_load hS (wpAny_pure (h g tk acc (Heap.lt_size hS) old its)))
    | again c =>
      refine ⟨x.1, codeAny_mono x.2 fun q u y => ?_⟩
      obtain ⟨g, tk, acc, c, rfl, rfl, old, hS, its⟩ := y
      exact show wpAny _ A (load s.heap.objs.size >>= _) _ _ _ from wpAny_bind (wpAny_load hS (wpAny_pure (h g tk acc (Heap.lt_size hS) old its)))
  · obtain ⟨_, _, _, _, e, _⟩ := x
    cases e
theorem sorted_keys {d : Addr} {es : Array DictEntry} {ep : Nat} {ns : List Int} {Q : Value → Shared → Prop} (lo : (d == sysModules) = false) (hh : A.in1.handled = none) (hm : s.heap.DictRaw d es ep) (hz : es.size ≤ sizeLine) (hl : es.size = ns.length)
    (hk : ∀ (i : Nat) (hi : i < es.size) (n : Int), ns[i]? = some n → ∃ t, es[i].key = .int n t)
    (h : ∀ (h' : Heap) (tk : Nat) (p : Addr) (out : List Value) (e : Nat) (ms : List Int), (∀ b o, s.heap.get? b = some o → h'.get? b = some o) → s.heap.objs.size ≤ p → h'.get? p = some (seqObj "list" out.toArray e) → IntsAre out ms → ms.Perm ns → ms.Pairwise (· ≤ ·) → Q (.ref p) { s with heap := h', toks := tk }) :
    wpAny (model prog w) A (call (.builtin "sorted") [.ref d]) Q E s := by
  refine PySem.Calls.call_function_entry kind_sorted plain_sorted entry_sorted (args_sorted1 _) ?_
  unfold Builtin.«sorted»
  refine wpAny_bind (m := checkCount "sorted" 1 1 _) (wpAny_pure (wpAny_bind (col_keys (A := A.in1) lo hh hm hz fun g tk acc lt0 old its => ?_)))
  have al : acc.toList.length = ns.length := by rw [Array.length_toList, its.1, hl]
  have ia : IntsAre acc.toList ns := ints_each al fun j v n e1 e2 => by
    obtain ⟨hi, rfl⟩ := its.2 j v (by rw [← Array.getElem?_toList]; exact e1)
    exact hk j hi n e2
  refine wpAny_bind (wpAny_newList ?_ (by rw [al, ← hl]; exact hz))
  have there : (g.push (seqObj "list" acc.toList.toArray 0)).get? g.objs.size = some (seqObj "list" acc.toList.toArray 0) := Heap.get?_push_size _ rfl
  have le : s.heap.objs.size ≤ g.objs.size := Nat.le_of_lt lt0
  refine wpAny_bind (wpAny_holding (wpAny_call_entry slot_list_sort ⟨_, there, rfl⟩ entry_list_sort (SrtO.list_sort_ord SrtO.swo_int there (by rw [al, ← hl]; exact hz) (fun h2 => SrtO.ints_sortable ia h2) fun out h1 h2 => ⟨_, rfl, ?_⟩) (args_list_sort _)))
  obtain ⟨k1, k2, k3⟩ := SrtO.ints_out ia h1 h2
  obtain ⟨e, he⟩ := sortedHeap_at (out := out.toArray) there
  refine wpAny_pure ⟨_, rfl, h _ tk _ out e _ (fun b o q => ?_) le he k1 k2 k3⟩
  have q1 := old b o q
  have lt := Heap.lt_size q1
  rw [sortedHeap_old (Nat.ne_of_lt lt) (by rw [size_push']; exact Nat.lt_succ_of_lt lt)]
  exact Heap.get?_push_of_some _ q1
end
theorem int_is {n : Int} {v : Value} (h : Value.isInt n v = true) : ∃ t, v = .int n t := by
  cases v with
  | int m t =>
    have : m = n := by simpa [Value.isInt] using h
    exact ⟨t, by rw [this]⟩
  | _ => simp [Value.isInt] at h
def rSortK : List V → Hp → VK → Prop := fun vs H Q => ∃ (a : Addr) (ps : List (L2.Key × V)) (ns : List Int), vs = [V.ref a] ∧ H a = some (.dK ps) ∧ ps.map (·.1) = ns.map Sum.inl ∧ ∀ (ms : List Int) (p : Addr), ms.Perm ns → ms.Pairwise (· ≤ ·) → H p = none → Q (.ref p) (upd H p (.lst (ms.map V.int)))
section
variable {X : Cx}
theorem cr_sortK (hc : X.calm = true) : CallR X (.builtin "sorted") rSortK := by
  intro pins s σ H vs us Q I r h
  obtain ⟨a, ps, ns, rfl, ha, hk, q⟩ := h
  obtain ⟨hz, lo, ws, kv, hD⟩ := I.hok a _ ha
  rw [Vals.ref1 r]
  obtain ⟨es, ep, raw, hs, each⟩ := hD.raw
  have hh : X.A.in1.handled = none := I.ok.hd hc
  have lw : ws.length = ps.length := (Paired.length kv).symm
  have ln : ps.length = ns.length := by have := congrArg List.length hk; simpa using this
  refine sorted_keys (ns := ns) lo hh raw (by omega) (by omega) (fun i hi n e => ?_) fun h' tk p out e ms old le hp ia pm pw => ?_
  · have fst : ∀ {ps : List (L2.Key × V)} {ws : List (L2.Key × Value)}, KV ps ws → ps.map (·.1) = ws.map (·.1) := fun kv => by
      induction kv with
      | nil => rfl
      | cons h _ ih => rw [List.map_cons, List.map_cons, ih, h.1]
    have e1 : (ws.map (·.1))[i]? = some (Sum.inl n) := by rw [← fst kv, hk, List.getElem?_map, e]; rfl
    rw [List.getElem?_map] at e1
    cases q1 : ws[i]? with
    | none => rw [q1] at e1; cases e1
    | some kw =>
      rw [q1] at e1
      obtain ⟨k, v⟩ := kw
      cases e1
      have e2 : Value.isInt n es[i].key = true := (each i hi _ v q1).1
      exact int_is e2
  · have hlen : (ms.map V.int).length ≤ sizeLine := by rw [List.length_map, pm.length_eq]; omega
    exact ⟨.ref _, upd H p (.lst (ms.map V.int)), I.laid (t' := tk) old le ⟨hlen, out, e, vals_of_ints ia, hp⟩, rfl, q _ _ pm pw (I.hok.fresh le)⟩
end
/-! ### sorted(d) -/
def keysI : List (L2.Key × PyData) → Option (List Int)
  | [] => some []
  | (.inl n, _) :: kvs => (keysI kvs).map (n :: ·)
  | _ :: _ => none
theorem keysI_eq : ∀ {kvs : List (L2.Key × PyData)} {ns : List Int}, keysI kvs = some ns → kvs.map (·.1) = ns.map Sum.inl
  | [], ns, h => by cases h; rfl
  | (.inl n, d) :: kvs, ns, h => by
    unfold keysI at h
    cases q : keysI kvs with
    | none => rw [q] at h; cases h
    | some ms =>
      rw [q] at h
      cases h
      rw [List.map_cons, keysI_eq q]
      rfl
  | (.inr x, d) :: kvs, ns, h => by cases h
theorem fst_rep {K : PySem.W.Frag} {F : Hp} : ∀ {kvs : List (L2.Key × PyData)} {ps : List (L2.Key × V)}, Paired (KDf K F) kvs ps → kvs.map (·.1) = ps.map (·.1)
  | _, _, .nil => rfl
  | _, _, .cons h r => by rw [List.map_cons, List.map_cons, fst_rep r, h.1]
def mSortK (i : Nat) : M T := fun Γ => match Γ[i]? with
  | some (some (.dct kvs)) => (keysI kvs).map fun ns => .ok (.lst (((sortI ns).map .int).map .frz)) Γ
  | _ => none
section
variable {X : Cx} {W : WX} {p p2 pos : Pos} {x y : Str}
theorem vt_sortK (i : Nat) (hc : X.calm = true) (hm : X.mg y = none) (hbo : bootBuiltins y = some (.builtin "sorted")) (hN : X.N[i]? = some x := by rfl) (hv : Vis X.env.scope x := by first | exact Or.inl rfl | exact Or.inr (Or.inl rfl) | exact Or.inr (Or.inr rfl)) (hd : (x == ("__debug__" : Str)) = false := by decide)
    (hcd : (x == ("__classdict__" : Str)) = false := by decide) (hg : Gl X y := by rfl) (hst : starEach [.Name x p2] X.env = (false, eval (.Name x p2) X.env) :: starEach [] X.env := by rfl) (hn : y ≠ "__name__" := by decide) (hdy : (y == ("__debug__" : Str)) = false := by decide) :
    VT X W (.Call (.Name y p) [.Name x p2] [] pos) (mSortK i) := by
  refine ⟨_, pe_callB (cr_sortK hc) hg hm hbo (pa_cons (pe_var hN hv hd hcd) pa_nil hst) hn hdy hst, fun Γ σ F H O Q k h => ?_⟩
  unfold mSortK at h
  split at h
  case h_2 => exact h.elim
  rename_i kvs e0
  obtain ⟨v0, _, _, ev0, _⟩ := k.take e0
  obtain ⟨a, ps, rfl, ha, hp, _⟩ := Ok.editD k e0 ev0
  cases q : keysI kvs with
  | none => rw [q] at h; exact h.elim
  | some ns =>
    rw [q] at h
    have fst := fst_rep hp
    refine ⟨.ref a, ev0, a, ps, ns, rfl, ha, by rw [← fst]; exact keysI_eq q, fun ms b pm pw hb => ?_⟩
    have em : ms = sortI ns := sortI_uniq pm pw
    subst em
    exact HitT.newL (o := []) h k hb (of_ice (df_ints _)) k.nd (fun _ m => nomatch m)
end
end TW

/-! min(x, default=d), max(x, default=d), d a number -/
namespace TW
open PySem PySem.Spec L2 PySem.W
def bestDF (g : PyData → List PyData → PyData) (z : Int) (d : PyData) : Option PyData := match itemsF d with
  | some [] => some (.int z)
  | some (x :: xs) => if alikeB (x :: xs) = true then some (g x xs) else none
  | none => none
def minDF := bestDF minD
def maxDF := bestDF maxD
def rBestD (K : PySem.W.Frag) (g : PyData → List PyData → PyData) : List V → List V → Hp → VK → Prop := fun vs zs H Q => ∃ (a : Addr) (xs : List V) (ds : List PyData) (z : Int), vs = [V.ref a] ∧ zs = [V.int z] ∧ SqX K H a xs ∧ DpAll K H xs ds ∧ AlikeAll ds ∧ PyData.depthAll ds ≤ 60 ∧
  (ds = [] → Q (.int z) H) ∧ ∀ (y : PyData) (ys : List PyData) (i : Nat) (x : V), ds = y :: ys → xs[i]? = some x → ds[i]? = some (g y ys) → Q x H
section
variable {X : Cx}
theorem cr_minDX (hc : X.calm = true) (hu : X.A.units + 65 < cLine) : CallRK X (.builtin "min") [Str.ofString "default"] (rBestD X.K minD) := by
  intro pins s σ H vs zs us ws Q I r rz h
  obtain ⟨a, xs, ds, z, rfl, rfl, hs, hd, al, dp, q0, q⟩ := h
  obtain rfl := Vals.ref1 r
  obtain ⟨w1, rfl, e1⟩ := vals1 rz
  obtain ⟨t, rfl⟩ : ∃ t, w1 = Value.int z t := e1
  have h0 : X.A.handled = none := I.ok.hd hc
  rcases hs with hs | hs
  · obtain ⟨its, rv, hl, hz⟩ := I.list hs
    obtain ⟨as, ra⟩ := Dp.readsAll I _ _ _ hd rv
    refine min_list_default h0 hl.isList ra al (by omega) (fun e h' tk hk => ⟨.int z, H, I.kept hk, ⟨t, rfl⟩, q0 e⟩) fun y ys i v h' tk bs e hv r hk => ?_
    subst e
    exact best_at I rv ra al (minD_mem _ _) (q y ys · · rfl) (by simpa using hv) r hk
  · obtain ⟨its, rv, hl, hz⟩ := I.tuple hs
    obtain ⟨as, ra⟩ := Dp.readsAll I _ _ _ hd rv
    refine min_tuple_default h0 (show s.heap.IsTuple a its.toArray from hl) ra al (by omega) (fun e h' tk hk => ⟨.int z, H, I.kept hk, ⟨t, rfl⟩, q0 e⟩) fun y ys i v h' tk bs e hv r hk => ?_
    subst e
    exact best_at I rv ra al (minD_mem _ _) (q y ys · · rfl) (by simpa using hv) r hk
theorem cr_maxDX (hc : X.calm = true) (hu : X.A.units + 65 < cLine) : CallRK X (.builtin "max") [Str.ofString "default"] (rBestD X.K maxD) := by
  intro pins s σ H vs zs us ws Q I r rz h
  obtain ⟨a, xs, ds, z, rfl, rfl, hs, hd, al, dp, q0, q⟩ := h
  obtain rfl := Vals.ref1 r
  obtain ⟨w1, rfl, e1⟩ := vals1 rz
  obtain ⟨t, rfl⟩ : ∃ t, w1 = Value.int z t := e1
  have h0 : X.A.handled = none := I.ok.hd hc
  rcases hs with hs | hs
  · obtain ⟨its, rv, hl, hz⟩ := I.list hs
    obtain ⟨as, ra⟩ := Dp.readsAll I _ _ _ hd rv
    refine max_list_default h0 hl.isList ra al (by omega) (fun e h' tk hk => ⟨.int z, H, I.kept hk, ⟨t, rfl⟩, q0 e⟩) fun y ys i v h' tk bs e hv r hk => ?_
    subst e
    exact best_at I rv ra al (maxD_mem _ _) (q y ys · · rfl) (by simpa using hv) r hk
  · obtain ⟨its, rv, hl, hz⟩ := I.tuple hs
    obtain ⟨as, ra⟩ := Dp.readsAll I _ _ _ hd rv
    refine max_tuple_default h0 (show s.heap.IsTuple a its.toArray from hl) ra al (by omega) (fun e h' tk hk => ⟨.int z, H, I.kept hk, ⟨t, rfl⟩, q0 e⟩) fun y ys i v h' tk bs e hv r hk => ?_
    subst e
    exact best_at I rv ra al (maxD_mem _ _) (q y ys · · rfl) (by simpa using hv) r hk
variable {W : WX} {pos p kpos : Pos} {e : Expr} {x : Str} {m : M PyData} {kws : List Keyword} {z : Int}
theorem pk_cint {nm : Option Str} {i : Int} {j : Nat} {q : Pos} : PK X [⟨nm, .Constant (.int i) j q, kpos⟩] (fun σ H Q => Q [.int i] H) := pk_cons pe_int pk_nil
theorem pk_gint {nm : Option Str} {y : Str} {i : Int} {q : Pos} (hm : ∃ t, X.mg y = some (.int i t)) (hg : Gl X y := by rfl) (hd : (y == ("__debug__" : Str)) = false := by decide) : PK X [⟨nm, .Name y q, kpos⟩] (fun σ H Q => Q [.int i] H) := by
  obtain ⟨t, ht⟩ := hm
  exact pk_cons (pe_glob (v := .int i) hg ht ⟨t, rfl⟩ hd) pk_nil
theorem c_bestD {id : String} {g : PyData → List PyData → PyData} (hr : CallRK X (.builtin id) [Str.ofString "default"] (rBestD X.K g)) (hm : X.mg x = none) (hv : bootBuiltins x = some (.builtin id)) (hk : PK X kws (fun σ H Q => Q [.int z] H)) (h : VP X W e m) (hg : Gl X x := by rfl) (hst : starEach [e] X.env = (false, eval e X.env) :: starEach [] X.env := by rfl) (hn : x ≠ "__name__" := by decide) (hdb : (x == ("__debug__" : Str)) = false := by decide)
    (he : backTo pos (starEach [e] X.env) = (false, eval e X.env) :: backTo pos (starEach [] X.env) := by rfl) (hpl : (backTo pos (starEach [e] X.env)).any (·.1) = false := by rfl)
    (hall : (backToKw pos (keywordEach kws X.env)).all (·.1.isSome) = true := by rfl) (hnone : (backToKw pos (keywordEach kws X.env)).any (·.1.isNone) = false := by rfl) (hks : (backToKw pos (keywordEach kws X.env)).filterMap (·.1) = [Str.ofString "default"] := by rfl) :
    VD X W (.Call (.Name x p) [e] kws pos) (mC1 (bestDF g z) m) := by
  obtain ⟨t, pe, s⟩ := h
  refine ⟨_, pe_callBK hr hg hm hv (pa_cons pe pa_nil hst) hk hn hdb he hpl hall hnone hks, fun Γ σ F H O Q k h => s Γ σ F H O _ k ?_⟩
  unfold mC1 at h
  refine HitN.bind h fun d Γ1 v F1 H1 O1 k1 r1 s1 h1 => ?_
  obtain ⟨d', e', q⟩ := HitN.fin h1 k1
  unfold bestDF at e'
  cases q1 : itemsF d with
  | none => rw [q1] at e'; cases e'
  | some es =>
    rw [q1] at e'
    obtain ⟨a, vs, rfl, hp, h2⟩ := items_sq k1.sub r1 q1
    cases es with
    | nil =>
      cases e'
      exact ⟨a, vs, [], z, rfl, rfl, hp, DfAll.dp k1.sub _ _ h2 (by rw [noDicAll]), ⟨fun x hx => absurd hx (List.not_mem_nil), fun x hx => absurd hx (List.not_mem_nil)⟩, Nat.zero_le _, fun _ => q _ F1 H1 (Grow.refl k1.sub) (.int z), fun y ys i x c => nomatch c⟩
    | cons y ys =>
      simp only at e'
      split at e'
      · rename_i e2
        cases e'
        obtain ⟨al, dp⟩ := alikeB_ok e2
        refine ⟨a, vs, y :: ys, z, rfl, rfl, hp, DfAll.dp k1.sub _ _ h2 (alikeB_no e2), al, dp, (fun c => nomatch c), fun y' ys' i x ec ex ed => ?_⟩
        cases ec
        obtain ⟨v, e3, r3⟩ := DfAll.get h2 ed
        rw [ex] at e3
        cases e3
        exact q _ F1 H1 (Grow.refl k1.sub) r3
      · cases e'
end
end TW

/-! a == x, a != x, x an owned list looked at -/
namespace TW
open PySem PySem.Spec L2 PySem.W
section
variable {X : Cx}
theorem op_eqP (hu : X.A.units + 65 < cLine) : OpP X (compareOp .Eq) eqF := by
  refine ⟨_, op_eqD (by omega), fun a b d e x y F H Q s ra rb q => ?_⟩
  unfold eqF at e
  split at e
  · rename_i h
    cases e
    obtain ⟨h1, h2⟩ := Bool.and_eq_true_iff.mp h
    exact ⟨a, b, Df.dp s _ _ ra (noDic_shaped h1), rP.dp s rb (noDic_shaped h2), h1, h2, q _ F H (Grow.refl s) (.bl _)⟩
  · cases e
theorem op_neP (hu : X.A.units + 65 < cLine) : OpP X (compareOp .NotEq) neF := by
  refine ⟨_, op_neD (by omega), fun a b d e x y F H Q s ra rb q => ?_⟩
  unfold neF at e
  split at e
  · rename_i h
    cases e
    obtain ⟨h1, h2⟩ := Bool.and_eq_true_iff.mp h
    exact ⟨a, b, Df.dp s _ _ ra (noDic_shaped h1), rP.dp s rb (noDic_shaped h2), h1, h2, q _ F H (Grow.refl s) (.bl _)⟩
  · cases e
end
end TW

/-! x.extend(list or tuple) -/
namespace TW
open PySem PySem.Spec L2 PySem.W
theorem ext_meets (l : Addr) (items : Array Value) (n : Nat) (b : Addr) (items2 : Array Value) (hs0 : ¬(!items.isEmpty && Builtin.List.listTooLong (items.size + items2.size)) = true) (hs1 : items.size ≤ sizeLine) (hs2 : items.size + items2.size ≤ sizeLine + 1) :
    Meets (Builtin.«list.extend» ⟨[.ref l, .ref b], []⟩) (fun _ R s => s.heap.get? l = some { cls := .type "list", dict := none, data := .seq items n, slots := #[] } ∧ s.heap.IsTuple b items2 ∧ R (.ok (.ret Value.none)) { s with heap := s.heap.update l (Obj.mapSeq fun x => x ++ items2), toks := s.toks }) :=
  .of_wp fun prog w A R s h => by
    obtain ⟨hp, g, d, tk, os⟩ := s; obtain ⟨hl, ⟨o, ho, hc, n2, hd⟩, h⟩ := h
    have hz' : (items ++ items2).size ≤ sizeLine + 1 := by rw [Array.size_append]; exact hs2
    have f1 := AutoSeq1.idx_int; have f2 := AutoSeq1.sub_tuple_tuple; have f3 := AutoSeq1.sub_list_list; have f4 := AutoSeq1.sub_tuple_list; have f5 := AutoSeq1.sub_list_tuple
    obtain ⟨cls, dict, data, slots⟩ := o
    dsimp only at hc hd
    subst hc
    subst hd
    wp_walk using (wpAny_updateSeq hl rfl (hz := hs1) (_hz' := hz')), wpAny_loadPart' hl, wpAny_loadPart' ho
    exact ⟨_, rfl, h⟩
section
variable {X : Cx} {W : WX} {pos p p2 : Pos} {k : Expr} {x : Str} {mk : M PyData}
def rExtT (K : PySem.W.Frag) : V → List V → Hp → VK → Prop := fun x vs H Q => ∃ l b xs zs, x = .ref l ∧ vs = [.ref b] ∧ H l = some (.lst xs) ∧ (H b = some (.lst zs) ∨ SqT K H b zs) ∧ xs.length + zs.length ≤ sizeLine ∧ Q .non (upd H l (.lst (xs ++ zs)))
theorem mt_extT : MtM X "list.extend" (rExtT X.K) := by
  intro pins s σ H x vs v us Q I rx rv h
  obtain ⟨l, b, xs, zs, rfl, rfl, hH, hB, hz, q⟩ := h
  rcases hB with hB | hB
  · exact mt_extend pins s σ H _ _ v us Q I rx rv ⟨l, b, xs, zs, rfl, rfl, hH, hB, hz, q⟩
  cases rx
  obtain ⟨u, rfl, ru⟩ := rv.one
  cases ru
  obtain ⟨z, its, n, r, hl, e⟩ := I.lstM hH
  obtain ⟨its2, r2, e2, z2⟩ := I.tuple hB
  have hl2 := r2.length
  have hsz : its.toArray.size + its2.toArray.size ≤ sizeLine := by rw [List.size_toArray, List.size_toArray]; omega
  have hlong : ¬ (!its.toArray.isEmpty && Builtin.List.listTooLong (its.toArray.size + its2.toArray.size)) = true := by
    rw [notLongL hsz, Bool.and_false]
    exact Bool.false_ne_true
  refine call_meets F.slot_list_extend ⟨_, e, rfl⟩ F.entry_list_extend (F.args_list_extend_2 _ _)
    (ext_meets l its.toArray n b its2.toArray hlong (by rw [List.size_toArray]; omega) (by omega)) ⟨e, e2, ?_⟩
  refine ⟨.non, _, I.lset (its' := its ++ its2) hH e (by simp) (r.append r2) ?_, rfl, q⟩
  rw [List.length_append]
  omega
def extK2 (i : Nat) (d : PyData) (Γ : G) : Option (Rs PyData) := match itemsF d, Γ[i]? with
  | some es, some (some (.lst ts)) => if ts.length + es.length ≤ sizeLine then some (.ok .none (Γ.set i (some (.lst (ts ++ es.map .frz))))) else none
  | _, _ => none
def mExt2 (i : Nat) (m : M PyData) : M PyData := fun Γ => match Γ[i]? with
  | some (some (.lst _)) => bM m (extK2 i) Γ
  | _ => none
theorem vd_ext2 (i : Nat) (hk : VD X W k mk) (hN : X.N[i]? = some x := by rfl) (hv : Vis X.env.scope x := by first | exact Or.inl rfl | exact Or.inr (Or.inl rfl) | exact Or.inr (Or.inr rfl)) (hd : (x == ("__debug__" : Str)) = false := by decide)
    (hcd : (x == ("__classdict__" : Str)) = false := by decide) (hst : starEach [k] X.env = (false, eval k X.env) :: starEach [] X.env := by rfl)
    (pbm : ∀ {te : TE} {ta : TE}, PE X (.Name x p) te → PE X k ta → PE X (.Call (.Attribute (.Name x p) "extend" p2) [k] [] pos) (tBM X.K "list" (rExtT X.K) te (tCons ta tNil)) := by
      intro te ta h1 h2; exact pe_bm PySem.F.plainAttrs_list PySem.F.slot_list_extend PySem.F.type_list_extend mt_extT h1 (pa_cons h2 pa_nil)) :
    VD X W (.Call (.Attribute (.Name x p) "extend" p2) [k] [] pos) (mExt2 i mk) := by
  obtain ⟨t, pe, s⟩ := hk
  refine ⟨_, pbm (pe_var hN hv hd hcd) pe, fun Γ σ F H O Q k h => ?_⟩
  unfold mExt2 at h
  split at h
  · rename_i ts0 e0
    obtain ⟨v0, _, _, ev0, _⟩ := k.take e0
    obtain ⟨a, vs, o, O', rfl, ha, _⟩ := k.lstAt e0 ev0
    refine ⟨_, ev0, .inl ⟨rfl, _, SqL.of ha⟩, s Γ σ F H O _ k ?_⟩
    refine HitN.bind h fun kd Γ1 y F1 H1 O1 k1 r1 s1 h1 => ?_
    unfold extK2 at h1
    split at h1
    · rename_i es ts e1 e2
      obtain ⟨a', vs2, o2, e3, ha2, hr, n2, ed⟩ := k1.edit e2 ev0
      cases e3
      split at h1
      · rename_i hz
        cases kd with
        | list ds =>
          cases e1
          cases r1 with
          | lst hb hd =>
            rename_i b ws
            obtain ⟨O4, k4, s4⟩ := ed (ts ++ es.map .frz) (vs2 ++ ws) (o2 ++ []) (RepTs.append hr (of_ice hd)) (by rw [List.append_nil]; exact n2) (fun b m => by rw [List.append_nil] at m; exact m)
            exact ⟨a, b, vs2, ws, rfl, rfl, ha2, .inl (k1.sub _ _ hb), by rw [RepTs.length hr, hd.length]; exact hz, h1 .non F1 _ O4 k4 .non s4⟩
        | tuple ds =>
          cases e1
          cases r1 with
          | tup hb hd =>
            rename_i b ws
            obtain ⟨O4, k4, s4⟩ := ed (ts ++ es.map .frz) (vs2 ++ ws) (o2 ++ []) (RepTs.append hr (of_ice hd)) (by rw [List.append_nil]; exact n2) (fun b m => by rw [List.append_nil] at m; exact m)
            exact ⟨a, b, vs2, ws, rfl, rfl, ha2, .inr (tupT k1.sub hb), by rw [RepTs.length hr, hd.length]; exact hz, h1 .non F1 _ O4 k4 .non s4⟩
        | _ => cases e1
      · exact h1.elim
    · exact h1.elim
  · exact h.elim
end
end TW

/-! zip of two tuples into a plain name: the pair stays with the name -/
namespace TW
open PySem PySem.Spec PyProof.Rows L2
/-- a zip's cell, whatever it keeps of the pair it gave last -/
abbrev ZCell (h : Heap) (z p q : Addr) (f0 : Value) (f1 : Bool) : Prop := h.get? z = some { cls := .type "zip", dict := none, data := .fields #[f0, .bool f1, .bool false, .ref p, .ref q], slots := #[] }
section
variable {prog : Program} {w : World} {A : Around} {E : Value → Shared → Prop} {s : Shared} {z p q i1 i2 : Addr} {f0 : Value} {f1 : Bool}
/-- whether the last pair is gone: either answer -/
theorem own_either {Q : Bool → Shared → Prop} (hz : ZCell s.heap z p q f0 f1) (hf : f0 = .none ∨ ∃ T : Addr, f0 = rawInt T) (yes : Q true s)
    (no : ∀ h', ZCell h' z p q f0 true → Heap.SameBut z s.heap h' → Q false { s with heap := h' }) : wpAny (model prog w) A (Builtin.SmallTypes.ownedTupleIsFree (.ref z)) Q E s := by
  rcases hf with rfl | ⟨T, rfl⟩
  · unfold Builtin.SmallTypes.ownedTupleIsFree
    exact wpAny_bind (wpAny_field hz rfl (x := .none) rfl (wpAny_pure yes))
  · cases hT : s.heap.get? T with
    | some o => exact wpAny_tupleHeld_zip hz hT no
    | none =>
      unfold Builtin.SmallTypes.ownedTupleIsFree
      refine wpAny_bind (wpAny_field hz rfl (x := rawInt T) rfl ?_)
      show wpAny _ _ (loadIfAlive ((T : Int).toNat) >>= _) _ _ _
      have gone : ∀ {R : Option Obj → Shared → Prop}, R none s → wpAny (model prog w) A (loadIfAlive ((T : Int).toNat)) R E s := fun {R} r => by
        have r' : R (s.heap.get? ((T : Int).toNat)) s := by rw [Int.toNat_natCast, hT]; exact r
        exact fun _ _ _ => r'
      exact wpAny_bind (gone (wpAny_pure yes))
variable {fp1 fp2 : List Addr} {n1 n2 i : Nat} {P1 P2 : Nat → Value → Prop} {St1 St2 : Nat → Heap → Prop} {a1 a2 : Value}
/-- one pair more -/
theorem zn_item {Q : Value → Shared → Prop} (S : ZipSep2 z p q i1 i2 fp1 fp2) (D1 : Draws prog w A i1 fp1 n1 P1 St1) (D2 : Draws prog w A i2 fp2 n2 P2 St2)
    (hz : ZCell s.heap z p q f0 f1) (hf : f0 = .none ∨ ∃ T : Addr, f0 = rawInt T) (tp : IsTupOf2 s.heap p (.ref i1) (.ref i2)) (tq : IsTupOf2 s.heap q a1 a2) (st1 : St1 i s.heap) (st2 : St2 i s.heap) (l1 : i < n1) (l2 : i < n2)
    (fin : ∀ x1 x2 h' tk g0 g1, P1 i x1 → P2 i x2 → ZCell h' z p q g0 g1 → (g0 = .none ∨ ∃ T : Addr, g0 = rawInt T) → (∃ b1 b2, IsTupOf2 h' q b1 b2) → St1 (i + 1) h' → St2 (i + 1) h' → IsTupOf2 h' s.heap.objs.size x1 x2 →
      (∀ c o, c ≠ z → c ≠ q → c ≠ i1 → c ≠ i2 → s.heap.get? c = some o → h'.get? c = some o) → Q (.ref s.heap.objs.size) { s with heap := h', toks := tk }) :
    wpAny (model prog w) A (Builtin.«zip.__next__» ⟨[.ref z], []⟩) (fun r s' => ∃ v, r = .done (.ret v) ∧ Q v s') E s := by
  obtain ⟨hh, gg, dd, t0, os⟩ := s
  show wpAny _ _ (field (.ref z) 2 >>= _) _ _ ⟨hh, gg, dd, t0, os⟩
  refine wpAny_bind (wpAny_field (s := ⟨hh, gg, dd, t0, os⟩) hz rfl (x := .bool false) rfl ?_)
  show wpAny _ _ (field (.ref z) 3 >>= _) _ _ ⟨hh, gg, dd, t0, os⟩
  refine wpAny_bind (wpAny_field (s := ⟨hh, gg, dd, t0, os⟩) hz rfl (x := .ref p) rfl ?_)
  refine wpAny_bind (wpAny_seqItems (s := ⟨hh, gg, dd, t0, os⟩) tp rfl ?_)
  show wpAny _ _ (Builtin.SmallTypes.ownedTupleIsFree (.ref z) >>= _) _ _ ⟨hh, gg, dd, t0, os⟩
  refine wpAny_bind (own_either (s := ⟨hh, gg, dd, t0, os⟩) hz hf ?_ fun k0 zk sk => ?_)
  · simp only [if_true]
    refine wpAny_bind (wpAny_rule ?_)
    refine wpAny_bind (wpAny_field (s := ⟨hh, gg, dd, t0, os⟩) hz rfl (x := .ref q) rfl ?_)
    refine wpAny_bind (wpAny_setField_rec (s := ⟨hh, gg, dd, t0, os⟩) hz (by simp) fun k0 zk sk => ?_)
    replace zk : ZCell k0 z p q .ellipsis f1 := zk
    replace sk : Heap.SameBut z hh k0 := sk
    refine wpAny_bind ?_
    simp only [List.zipIdx_cons, List.zipIdx_nil, List.forIn_cons, List.forIn_nil]
    refine wpAny_bind (wpAny_bind (wpAny_onRaise ?_))
    show wpAny _ _ (Builtin.SmallTypes.nextOf (.ref i1) >>= _) _ _ ⟨k0, gg, dd, t0, os⟩
    refine wpAny_bind (D1.item i ⟨k0, gg, dd, t0, os⟩ _ _ l1 (D1.over st1 sk S.zf1) fun x1 k1 t1 px1 u1 sk1 => wpAny_pure ?_)
    replace sk1 : Heap.SameBut i1 k0 k1 := sk1
    have q1 : IsTupOf2 k1 q a1 a2 := sk1.extBut _ _ S.Ti1 (sk.extBut _ _ S.TOz tq)
    refine wpAny_bind (wpAny_seqItems (s := ⟨k1, gg, dd, t1, os⟩) q1 rfl ?_)
    refine wpAny_bind (updateSeq_IsTupOf2 (s := ⟨k1, gg, dd, t1, os⟩) q1 fun k2 q2 sk2 => ?_)
    replace q2 : IsTupOf2 k2 q x1 a2 := q2
    replace sk2 : Heap.SameBut q k1 k2 := sk2
    refine wpAny_bind (wpAny_letGo (wpAny_pure ?_))
    refine wpAny_bind (wpAny_bind (wpAny_onRaise ?_))
    show wpAny _ _ (Builtin.SmallTypes.nextOf (.ref i2) >>= _) _ _ ⟨k2, gg, dd, t1, os⟩
    refine wpAny_bind (D2.item i ⟨k2, gg, dd, t1, os⟩ _ _ l2 (D2.over (D2.over (D2.over st2 sk S.zf2) sk1 S.sep1_2) sk2 S.Tf2) fun x2 k3 t2 px2 u2 sk3 => wpAny_pure ?_)
    replace sk3 : Heap.SameBut i2 k2 k3 := sk3
    have q3 : IsTupOf2 k3 q x1 a2 := sk3.extBut _ _ S.Ti2 q2
    refine wpAny_bind (wpAny_seqItems (s := ⟨k3, gg, dd, t2, os⟩) q3 rfl ?_)
    refine wpAny_bind (updateSeq_IsTupOf2 (s := ⟨k3, gg, dd, t2, os⟩) q3 fun k4 q4 sk4 => ?_)
    replace q4 : IsTupOf2 k4 q x1 x2 := q4
    replace sk4 : Heap.SameBut q k3 k4 := sk4
    refine wpAny_bind (wpAny_letGo (wpAny_pure (wpAny_pure ?_)))
    refine wpAny_bind (wpAny_seqItems (s := ⟨k4, gg, dd, t2, os⟩) q4 rfl ?_)
    refine wpAny_bind (wpAny_newTuple ?_)
    have size4 : k4.objs.size = hh.objs.size := by rw [sk4.1, sk3.1, sk2.1, sk1.1, sk.1]
    have z4 : ZCell k4 z p q .ellipsis f1 := sk4.extBut _ _ S.TOz.symm (sk3.extBut _ _ S.zi2 (sk2.extBut _ _ S.TOz.symm (sk1.extBut _ _ S.zi1 zk)))
    have old4 : ∀ c o, c ≠ z → c ≠ q → c ≠ i1 → c ≠ i2 → hh.get? c = some o → k4.get? c = some o := fun c o c1 c2 c3 c4 e =>
      sk4.extBut _ _ c2 (sk3.extBut _ _ c4 (sk2.extBut _ _ c2 (sk1.extBut _ _ c3 (sk.extBut _ _ c1 e))))
    have v1 : St1 (i + 1) k4 := D1.over (D1.over (D1.over u1 sk2 S.Tf1) sk3 S.sep2_1) sk4 S.Tf1
    have v2 : St2 (i + 1) k4 := D2.over u2 sk4 S.Tf2
    have zlt : z < k4.objs.size := Heap.lt_size z4
    show wpAny _ _ (Builtin.SmallTypes.ownedTupleHandOut (.ref z) (.ref k4.objs.size) >>= _) _ _ ⟨k4.push { cls := .type "tuple", data := .seq #[x1, x2] }, gg, dd, t2, os⟩
    refine wpAny_bind ?_
    unfold Builtin.SmallTypes.ownedTupleHandOut
    have z5 : ZCell (k4.push { cls := .type "tuple", data := .seq #[x1, x2] }) z p q .ellipsis f1 := Heap.get?_push_of_some _ z4
    refine wpAny_bind (wpAny_setField_rec (s := ⟨k4.push { cls := .type "tuple", data := .seq #[x1, x2] }, gg, dd, t2, os⟩) z5 (by simp) fun k6 z6 sk6 => ?_)
    replace z6 : ZCell k6 z p q (rawInt k4.objs.size) f1 := z6
    refine wpAny_setField_rec (s := ⟨k6, gg, dd, t2, os⟩) z6 (by simp) fun k7 z7 sk7 => ?_
    replace z7 : ZCell k7 z p q (rawInt k4.objs.size) false := z7
    replace sk6 : Heap.SameBut z (k4.push { cls := .type "tuple", data := .seq #[x1, x2] }) k6 := sk6
    replace sk7 : Heap.SameBut z k6 k7 := sk7
    have up : ∀ c o, c ≠ z → k4.get? c = some o → k7.get? c = some o := fun c o c1 e => sk7.extBut _ _ c1 (sk6.extBut _ _ c1 (Heap.get?_push_of_some _ e))
    have t7 : IsTupOf2 k7 k4.objs.size x1 x2 := sk7.extBut _ _ (Nat.ne_of_gt zlt) (sk6.extBut _ _ (Nat.ne_of_gt zlt) (Heap.get?_push_size _ rfl))
    rw [size4] at z7 t7
    refine wpAny_pure ⟨_, rfl, ?_⟩
    show Q (.ref k4.objs.size) ⟨k7, gg, dd, t2, os⟩
    rw [size4]
    exact fin x1 x2 k7 t2 _ _ px1 px2 z7 (.inr ⟨_, rfl⟩) ⟨_, _, up _ _ S.TOz q4⟩ (D1.frame _ _ _ v1 fun b hb o e => up b o (fun y => S.zf1 (y ▸ hb)) e) (D2.frame _ _ _ v2 fun b hb o e => up b o (fun y => S.zf2 (y ▸ hb)) e) t7 fun c o c1 c2 c3 c4 e => up c o c1 (old4 c o c1 c2 c3 c4 e)
  · replace sk : Heap.SameBut z hh k0 := sk
    simp only [Bool.false_eq_true, if_false]
    refine wpAny_bind ?_
    rw [← Array.forIn_toList]
    simp only [List.forIn_cons, List.forIn_nil]
    refine wpAny_bind (wpAny_bind (wpAny_holding ?_))
    show wpAny _ _ (Builtin.SmallTypes.nextOf (.ref i1) >>= _) _ _ ⟨k0, gg, dd, t0, os⟩
    refine wpAny_bind (D1.item i ⟨k0, gg, dd, t0, os⟩ _ _ l1 (D1.over st1 sk S.zf1) fun x1 k1 t1 px1 u1 sk1 => wpAny_pure ?_)
    replace sk1 : Heap.SameBut i1 k0 k1 := sk1
    refine wpAny_pure ?_
    refine wpAny_bind (wpAny_bind (wpAny_holding ?_))
    show wpAny _ _ (Builtin.SmallTypes.nextOf (.ref i2) >>= _) _ _ ⟨k1, gg, dd, t1, os⟩
    refine wpAny_bind (D2.item i ⟨k1, gg, dd, t1, os⟩ _ _ l2 (D2.over (D2.over st2 sk S.zf2) sk1 S.sep1_2) fun x2 k2 t2 px2 u2 sk2 => wpAny_pure ?_)
    replace sk2 : Heap.SameBut i2 k1 k2 := sk2
    refine wpAny_pure (wpAny_pure ?_)
    show wpAny _ _ (newTuple [x1, x2] >>= _) _ _ ⟨k2, gg, dd, t2, os⟩
    refine wpAny_bind (wpAny_newTuple ?_)
    have size2 : k2.objs.size = hh.objs.size := by rw [sk2.1, sk1.1, sk.1]
    have z2 : ZCell k2 z p q f0 true := sk2.extBut _ _ S.zi2 (sk1.extBut _ _ S.zi1 zk)
    have old2 : ∀ c o, c ≠ z → c ≠ i1 → c ≠ i2 → hh.get? c = some o → k2.get? c = some o := fun c o c1 c2 c3 e => sk2.extBut _ _ c3 (sk1.extBut _ _ c2 (sk.extBut _ _ c1 e))
    have v1 : St1 (i + 1) k2 := D1.over u1 sk2 S.sep2_1
    have up : ∀ c o, k2.get? c = some o → (k2.push { cls := .type "tuple", data := .seq #[x1, x2] }).get? c = some o := fun c o e => Heap.get?_push_of_some _ e
    have t7 : IsTupOf2 (k2.push { cls := .type "tuple", data := .seq #[x1, x2] }) k2.objs.size x1 x2 := Heap.get?_push_size _ rfl
    rw [size2] at t7
    refine wpAny_pure ⟨_, rfl, ?_⟩
    show Q (.ref k2.objs.size) ⟨k2.push { cls := .type "tuple", data := .seq #[x1, x2] }, gg, dd, t2, os⟩
    rw [size2]
    exact fin x1 x2 _ t2 _ _ px1 px2 (up _ _ z2) hf ⟨_, _, up _ _ (old2 _ _ S.TOz S.Ti1 S.Ti2 tq)⟩ (D1.frame _ _ _ v1 fun b _ o e => up b o e) (D2.frame _ _ _ u2 fun b _ o e => up b o e) t7 fun c o c1 _ c3 c4 e => up c o (old2 c o c1 c3 c4 e)
/-- one row is at its end -/
theorem zn_end {Q : Fin → Shared → Prop} (S : ZipSep2 z p q i1 i2 fp1 fp2) (D1 : Draws prog w A i1 fp1 n1 P1 St1) (D2 : Draws prog w A i2 fp2 n2 P2 St2)
    (hz : ZCell s.heap z p q f0 f1) (hf : f0 = .none ∨ ∃ T : Addr, f0 = rawInt T) (tp : IsTupOf2 s.heap p (.ref i1) (.ref i2)) (tq : IsTupOf2 s.heap q a1 a2) (st1 : St1 i s.heap) (st2 : St2 i s.heap) (l1 : i ≤ n1) (l2 : i ≤ n2) (le : i = n1 ∨ i = n2)
    (out : ∀ h' tk e, (∀ c o, c ≠ z → c ≠ q → c ≠ i1 → c ≠ i2 → s.heap.get? c = some o → h'.get? c = some o) → (∃ o, h'.get? e = some o ∧ o.cls = .type "StopIteration") → E (.ref e) { s with heap := h', toks := tk }) :
    wpAny (model prog w) A (Builtin.«zip.__next__» ⟨[.ref z], []⟩) Q E s := by
  obtain ⟨hh, gg, dd, t0, os⟩ := s
  show wpAny _ _ (field (.ref z) 2 >>= _) _ _ ⟨hh, gg, dd, t0, os⟩
  refine wpAny_bind (wpAny_field (s := ⟨hh, gg, dd, t0, os⟩) hz rfl (x := .bool false) rfl ?_)
  show wpAny _ _ (field (.ref z) 3 >>= _) _ _ ⟨hh, gg, dd, t0, os⟩
  refine wpAny_bind (wpAny_field (s := ⟨hh, gg, dd, t0, os⟩) hz rfl (x := .ref p) rfl ?_)
  refine wpAny_bind (wpAny_seqItems (s := ⟨hh, gg, dd, t0, os⟩) tp rfl ?_)
  show wpAny _ _ (Builtin.SmallTypes.ownedTupleIsFree (.ref z) >>= _) _ _ ⟨hh, gg, dd, t0, os⟩
  refine wpAny_bind (own_either (s := ⟨hh, gg, dd, t0, os⟩) hz hf ?_ fun k0 zk sk => ?_)
  · simp only [if_true]
    refine wpAny_bind (wpAny_rule ?_)
    refine wpAny_bind (wpAny_field (s := ⟨hh, gg, dd, t0, os⟩) hz rfl (x := .ref q) rfl ?_)
    refine wpAny_bind (wpAny_setField_rec (s := ⟨hh, gg, dd, t0, os⟩) hz (by simp) fun k0 zk sk => ?_)
    replace zk : ZCell k0 z p q .ellipsis f1 := zk
    replace sk : Heap.SameBut z hh k0 := sk
    refine wpAny_bind ?_
    simp only [List.zipIdx_cons, List.zipIdx_nil, List.forIn_cons, List.forIn_nil]
    refine wpAny_bind (wpAny_bind (wpAny_onRaise ?_))
    show wpAny _ _ (Builtin.SmallTypes.nextOf (.ref i1) >>= _) _ _ ⟨k0, gg, dd, t0, os⟩
    by_cases c1 : i < n1
    · refine wpAny_bind (D1.item i ⟨k0, gg, dd, t0, os⟩ _ _ c1 (D1.over st1 sk S.zf1) fun x1 k1 t1 px1 u1 sk1 => wpAny_pure ?_)
      replace sk1 : Heap.SameBut i1 k0 k1 := sk1
      have q1 : IsTupOf2 k1 q a1 a2 := sk1.extBut _ _ S.Ti1 (sk.extBut _ _ S.TOz tq)
      refine wpAny_bind (wpAny_seqItems (s := ⟨k1, gg, dd, t1, os⟩) q1 rfl ?_)
      refine wpAny_bind (updateSeq_IsTupOf2 (s := ⟨k1, gg, dd, t1, os⟩) q1 fun k2 q2 sk2 => ?_)
      replace q2 : IsTupOf2 k2 q x1 a2 := q2
      replace sk2 : Heap.SameBut q k1 k2 := sk2
      refine wpAny_bind (wpAny_letGo (wpAny_pure ?_))
      have e2 : n2 = i := by omega
      refine wpAny_bind (wpAny_bind (wpAny_onRaise ?_))
      show wpAny _ _ (Builtin.SmallTypes.nextOf (.ref i2) >>= _) _ _ ⟨k2, gg, dd, t1, os⟩
      refine wpAny_bind (D2.done ⟨k2, gg, dd, t1, os⟩ _ _ (by rw [e2]; exact D2.over (D2.over (D2.over st2 sk S.zf2) sk1 S.sep1_2) sk2 S.Tf2) fun k3 x sk3 hx => ?_)
      replace sk3 : Heap.ExtBut i2 k2 k3 := sk3
      obtain ⟨ox, gx, cx⟩ := hx
      replace gx : k3.get? x = some ox := gx
      have z3 : ZCell k3 z p q .ellipsis f1 := sk3 _ _ S.zi2 (sk2.extBut _ _ S.TOz.symm (sk1.extBut _ _ S.zi1 zk))
      have xz : x ≠ z := fun y => by subst y; rw [z3] at gx; cases gx; simp at cx
      refine wpAny_setField_rec (s := ⟨k3, gg, dd, t1, os⟩) z3 (by simp) fun k4 _ sk4 => ?_
      replace sk4 : Heap.SameBut z k3 k4 := sk4
      exact out k4 t1 x (fun c o n0 n1 n2 n3 y => sk4.extBut _ _ n0 (sk3 _ _ n3 (sk2.extBut _ _ n1 (sk1.extBut _ _ n2 (sk.extBut _ _ n0 y))))) ⟨ox, sk4.extBut _ _ xz gx, cx⟩
    · have e1 : n1 = i := by omega
      refine wpAny_bind (D1.done ⟨k0, gg, dd, t0, os⟩ _ _ (by rw [e1]; exact D1.over st1 sk S.zf1) fun k3 x sk3 hx => ?_)
      replace sk3 : Heap.ExtBut i1 k0 k3 := sk3
      obtain ⟨ox, gx, cx⟩ := hx
      replace gx : k3.get? x = some ox := gx
      have z3 : ZCell k3 z p q .ellipsis f1 := sk3 _ _ S.zi1 zk
      have xz : x ≠ z := fun y => by subst y; rw [z3] at gx; cases gx; simp at cx
      refine wpAny_setField_rec (s := ⟨k3, gg, dd, t0, os⟩) z3 (by simp) fun k4 _ sk4 => ?_
      replace sk4 : Heap.SameBut z k3 k4 := sk4
      exact out k4 t0 x (fun c o n0 _ n2 _ y => sk4.extBut _ _ n0 (sk3 _ _ n2 (sk.extBut _ _ n0 y))) ⟨ox, sk4.extBut _ _ xz gx, cx⟩
  · replace sk : Heap.SameBut z hh k0 := sk
    simp only [Bool.false_eq_true, if_false]
    refine wpAny_bind ?_
    rw [← Array.forIn_toList]
    simp only [List.forIn_cons, List.forIn_nil]
    refine wpAny_bind (wpAny_bind (wpAny_holding ?_))
    show wpAny _ _ (Builtin.SmallTypes.nextOf (.ref i1) >>= _) _ _ ⟨k0, gg, dd, t0, os⟩
    by_cases c1 : i < n1
    · refine wpAny_bind (D1.item i ⟨k0, gg, dd, t0, os⟩ _ _ c1 (D1.over st1 sk S.zf1) fun x1 k1 t1 px1 u1 sk1 => wpAny_pure ?_)
      replace sk1 : Heap.SameBut i1 k0 k1 := sk1
      refine wpAny_pure ?_
      have e2 : n2 = i := by omega
      refine wpAny_bind (wpAny_bind (wpAny_holding ?_))
      show wpAny _ _ (Builtin.SmallTypes.nextOf (.ref i2) >>= _) _ _ ⟨k1, gg, dd, t1, os⟩
      refine wpAny_bind (D2.done ⟨k1, gg, dd, t1, os⟩ _ _ (by rw [e2]; exact D2.over (D2.over st2 sk S.zf2) sk1 S.sep1_2) fun k3 x sk3 hx => ?_)
      replace sk3 : Heap.ExtBut i2 k1 k3 := sk3
      exact out k3 t1 x (fun c o n0 _ n2 n3 y => sk3 _ _ n3 (sk1.extBut _ _ n2 (sk.extBut _ _ n0 y))) hx
    · have e1 : n1 = i := by omega
      refine wpAny_bind (D1.done ⟨k0, gg, dd, t0, os⟩ _ _ (by rw [e1]; exact D1.over st1 sk S.zf1) fun k3 x sk3 hx => ?_)
      replace sk3 : Heap.ExtBut i1 k0 k3 := sk3
      exact out k3 t0 x (fun c o n0 _ n2 _ y => sk3 _ _ n2 (sk.extBut _ _ n0 y)) hx
theorem zn_pyItem {Q : Option Value → Shared → Prop} (S : ZipSep2 z p q i1 i2 fp1 fp2) (D1 : Draws prog w A.in1 i1 fp1 n1 P1 St1) (D2 : Draws prog w A.in1 i2 fp2 n2 P2 St2)
    (hz : ZCell s.heap z p q f0 f1) (hf : f0 = .none ∨ ∃ T : Addr, f0 = rawInt T) (tp : IsTupOf2 s.heap p (.ref i1) (.ref i2)) (tq : IsTupOf2 s.heap q a1 a2) (st1 : St1 i s.heap) (st2 : St2 i s.heap) (l1 : i < n1) (l2 : i < n2)
    (fin : ∀ x1 x2 h' tk g0 g1, P1 i x1 → P2 i x2 → ZCell h' z p q g0 g1 → (g0 = .none ∨ ∃ T : Addr, g0 = rawInt T) → (∃ b1 b2, IsTupOf2 h' q b1 b2) → St1 (i + 1) h' → St2 (i + 1) h' → IsTupOf2 h' s.heap.objs.size x1 x2 →
      (∀ c o, c ≠ z → c ≠ q → c ≠ i1 → c ≠ i2 → s.heap.get? c = some o → h'.get? c = some o) → Q (some (.ref s.heap.objs.size)) { s with heap := h', toks := tk }) :
    wpAny (model prog w) A (pyNext (.ref z)) Q E s := by
  have ty : s.TypeIs (.ref z) "zip" := ⟨_, hz, rfl⟩
  unfold pyNext
  refine wpAny_bind (wpAny_attempt (wpAny_callSpecial?_slot (name := Str.ofString "__next__") ty F.slot_zip_next ?_))
  refine wpAny_call_entry F.slot_zip_next ty F.entry_zip_next ?_ (F.args_zip_next_1 _)
  exact zn_item S D1 D2 hz hf tp tq st1 st2 l1 l2 fun x1 x2 h' tk g0 g1 b1 b2 b3 b4 b5 b6 b7 b8 b9 => wpAny_pure (fin x1 x2 h' tk g0 g1 b1 b2 b3 b4 b5 b6 b7 b8 b9)
theorem zn_pyEnd {Q : Option Value → Shared → Prop} (S : ZipSep2 z p q i1 i2 fp1 fp2) (D1 : Draws prog w A.in1 i1 fp1 n1 P1 St1) (D2 : Draws prog w A.in1 i2 fp2 n2 P2 St2)
    (hz : ZCell s.heap z p q f0 f1) (hf : f0 = .none ∨ ∃ T : Addr, f0 = rawInt T) (tp : IsTupOf2 s.heap p (.ref i1) (.ref i2)) (tq : IsTupOf2 s.heap q a1 a2) (st1 : St1 i s.heap) (st2 : St2 i s.heap) (l1 : i ≤ n1) (l2 : i ≤ n2) (le : i = n1 ∨ i = n2)
    (out : ∀ h' tk, (∀ c o, c ≠ z → c ≠ q → c ≠ i1 → c ≠ i2 → s.heap.get? c = some o → h'.get? c = some o) → Q none { s with heap := h', toks := tk }) : wpAny (model prog w) A (pyNext (.ref z)) Q E s := by
  have ty : s.TypeIs (.ref z) "zip" := ⟨_, hz, rfl⟩
  unfold pyNext
  refine wpAny_bind (wpAny_attempt (wpAny_callSpecial?_slot (name := Str.ofString "__next__") ty F.slot_zip_next ?_))
  refine wpAny_call_entry F.slot_zip_next ty F.entry_zip_next ?_ (F.args_zip_next_1 _)
  refine zn_end S D1 D2 hz hf tp tq st1 st2 l1 l2 le fun h' tk x hk hx => ?_
  obtain ⟨ox, gx, cx⟩ := hx
  exact wpAny_bind (wpAny_isInstance (T := "StopIteration") (b := true) ⟨ox, gx, cx⟩ isSubtype_stop (wpAny_pure (out _ _ hk)))
end
section
variable {prog : Program} {w : World} {A : Around} {E : Value → Shared → Prop} {s : Shared}
theorem zn_iter {z p q : Addr} {f0 : Value} {f1 : Bool} {Q : Value → Shared → Prop} (hz : ZCell s.heap z p q f0 f1) (h : Q (.ref z) s) : wpAny (model prog w) A (pyIter (.ref z)) Q E s := by
  have ty : s.TypeIs (.ref z) "zip" := ⟨_, hz, rfl⟩
  refine wpAny_pyIter_slot ty F.slot_zip_iter (wpAny_call_entry F.slot_zip_iter ty F.entry_zip_iter ?_ (F.args_zip_iter_1 _))
  show wpAny _ _ (ret (Value.ref z)) _ _ s
  exact wpAny_pure ⟨_, rfl, "zip", _, ty, F.slot_zip_next.lookup, h⟩
end
/-- such a zip at turn i -/
def ZnAt (a b z p q i1 i2 : Addr) (i : Nat) (h : Heap) : Prop := ∃ f0 f1, ZCell h z p q f0 f1 ∧ (f0 = .none ∨ ∃ T : Addr, f0 = rawInt T) ∧ IsPair h p (.ref i1) (.ref i2) ∧ (∃ x y, IsPair h q x y) ∧ h.IsTupleIter i1 a i ∧ h.IsTupleIter i2 b i
theorem zn_obj {a b z p q i1 i2 : Addr} {i : Nat} {h : Heap} (st : ZnAt a b z p q i1 i2 i h) : ∀ c ∈ mzF z p q i1 i2, ∃ o, h.get? c = some o ∧ ∀ v, o.data ≠ .cell v := fun c hc => by
    obtain ⟨f0, f1, sz, _, sp, ⟨x, y, sq⟩, ⟨o1, e1, _, d1⟩, ⟨o2, e2, _, d2⟩⟩ := st
    simp only [List.mem_cons, List.not_mem_nil, or_false] at hc
    rcases hc with rfl | rfl | rfl | rfl | rfl
    · exact ⟨_, sz, fun _ e => nomatch e⟩
    · exact ⟨_, sp, fun _ e => nomatch e⟩
    · exact ⟨_, sq, fun _ e => nomatch e⟩
    · exact ⟨_, e1, fun _ e => by rw [d1] at e; cases e⟩
    · exact ⟨_, e2, fun _ e => by rw [d2] at e; cases e⟩
theorem zn_turn {P : Program} {w : World} {K : PySem.W.Frag} {x : Str} {tpos : Pos} {a b z p q i1 i2 : Addr} (D : ZipApart z p q i1 i2 a b) :
    Turn P w K (.Name x tpos) (RZ.ItzT K a b) (mzF z p q i1 i2) z (ZnAt a b z p q i1 i2) where
  mem := List.mem_cons_self ..
  self A i s Q E st h := by
    obtain ⟨f0, f1, sz, _⟩ := st
    exact zn_iter sz h
  obj i h st c hc := zn_obj st c hc
  keep i h h' st k := by
    obtain ⟨f0, f1, sz, sf, sp, ⟨x, y, sq⟩, t1, t2⟩ := st
    refine ⟨f0, f1, k _ (by simp) _ sz, sf, k _ (by simp) _ sp, ⟨x, y, k _ (by simp) _ sq⟩, t1.at fun o e => k i1 (by simp) o e, t2.at fun o e => k i2 (by simp) o e⟩
  done := by
    intro X hP hw hK hc i pins s σ H E I hf st hg
    subst hP hw hK
    obtain ⟨f0, f1, sz, sf, sp, ⟨x0, y0, sq⟩, t1, t2⟩ := st
    obtain ⟨xs, ys, qx, qy, he⟩ := hg
    obtain ⟨us, ru, pu, _⟩ := I.tuple qx
    obtain ⟨vs, rv, pv, _⟩ := I.tuple qy
    have hh : X.A.in1.handled = none := I.ok.hd hc
    have lu := ru.length
    have lv := rv.length
    have out : ∀ (h' : Heap) (tk : Nat), (∀ c o, c ≠ z → c ≠ q → c ≠ i1 → c ≠ i2 → s.heap.get? c = some o → h'.get? c = some o) → (none : Option Value) = none ∧ Inv X pins σ H { s with heap := h', toks := tk } := fun h' tk hk =>
      ⟨rfl, I.turnedL (ch := mzF z p q i1 i2) (fun c o hb e => by obtain ⟨n1, _, n3, n4, n5⟩ := mz_out hb; exact hk c o n1 n3 n4 n5 e) hf⟩
    by_cases cu : i < us.length
    · have cv : vs.toArray[i]? = none := by
        rcases he with e | e
        · omega
        · simp; omega
      exact zn_pyEnd (mz_sep D) (Draws.tuple hh i1 a D.l1i1 us.toArray) (mz_endT hh cv) sz sf sp sq ⟨t1, pu⟩ ⟨rfl, t2, pv⟩ (by simp; omega) (Nat.le_refl _) (.inr rfl) out
    · have cu : us.toArray[i]? = none := by simp; omega
      by_cases cv : i < vs.length
      · exact zn_pyEnd (mz_sep D) (mz_endT hh cu) (Draws.tuple hh i2 b D.l2i2 vs.toArray) sz sf sp sq ⟨rfl, t1, pu⟩ ⟨t2, pv⟩ (Nat.le_refl _) (by simp; omega) (.inl rfl) out
      · have cv : vs.toArray[i]? = none := by simp; omega
        exact zn_pyEnd (mz_sep D) (mz_endT hh cu) (mz_endT hh cv) sz sf sp sq ⟨rfl, t1, pu⟩ ⟨rfl, t2, pv⟩ (Nat.le_refl _) (Nat.le_refl _) (.inl rfl) out
  item := by
    intro X hP hw hK hc i pins s σ H E I hf st hg
    subst hP hw hK
    have live := st
    obtain ⟨f0, f1, sz, sf, sp, ⟨x0, y0, sq⟩, t1, t2⟩ := st
    obtain ⟨xs, ys, x, y, qx, qy, hx, hy⟩ := hg
    obtain ⟨us, ru, pu, _⟩ := I.tuple qx
    obtain ⟨vs, rv, pv, _⟩ := I.tuple qy
    obtain ⟨u, hu, xu⟩ := ru.get hx
    obtain ⟨v, hv, yv⟩ := rv.get hy
    have hh : X.A.in1.handled = none := I.ok.hd hc
    have iu : i < us.toArray.size := by have := (List.getElem?_eq_some_iff.mp hu).1; simpa using this
    have iv : i < vs.toArray.size := by have := (List.getElem?_eq_some_iff.mp hv).1; simpa using this
    refine zn_pyItem (mz_sep D) (Draws.tuple hh i1 a D.l1i1 us.toArray) (Draws.tuple hh i2 b D.l2i2 vs.toArray) sz sf sp sq ⟨t1, pu⟩ ⟨t2, pv⟩ iu iv ?_
    intro u' v' h' tk g0 g1 eu ev z' gf q' s1 s2 hT hk
    have eu : u' = u := by
      have h1 : us[i]? = some u' := by simpa using eu
      rw [hu] at h1
      exact (Option.some.inj h1).symm
    have ev : v' = v := by
      have h1 : vs[i]? = some v' := by simpa using ev
      rw [hv] at h1
      exact (Option.some.inj h1).symm
    subst eu ev
    have old : ∀ c o, c ∉ mzF z p q i1 i2 → s.heap.get? c = some o → h'.get? c = some o := fun c o hb e => by
      obtain ⟨n1, _, n3, n4, n5⟩ := mz_out hb
      exact hk c o n1 n3 n4 n5 e
    have fresh : ObjOk X.prog X.w (upd H s.heap.objs.size (.tup [x, y])) h' s.heap.objs.size (.tup [x, y]) :=
      ⟨show 2 ≤ sizeLine by decide, _, .cons xu (.cons yv .nil), ⟨_, hT, rfl, _, rfl⟩⟩
    have I1 : Inv X pins σ (upd H s.heap.objs.size (.tup [x, y])) { s with heap := h', toks := tk } := I.turnedNew (ch := mzF z p q i1 i2) old hf (Nat.le_refl _) fresh
    refine ⟨_, rfl, wpAny_pure ⟨.ref s.heap.objs.size, _, I1, rfl, ⟨_, x, y, rfl, I.hok.fresh (Nat.le_refl _), rfl, fun l hl => I.tuple_inj hl qx ▸ hx, fun l hl => I.tuple_inj hl qy ▸ hy⟩, ⟨g0, g1, z', gf, hk _ _ D.TIz D.TITO D.TIi1 D.TIi2 sp, q', s1.1, s2.1⟩, fun c hc2 => ?_⟩⟩
    have cl : c < s.heap.objs.size := by
      obtain ⟨o, e, _⟩ := (zn_obj live) c hc2
      exact Heap.lt_size e
    rw [upd_ne (Nat.ne_of_lt cl)]
    exact (hf c hc2).1
/-- two tuples zipped -/
def zipTT : PyData → PyData → Option (List PyData)
  | .tuple ds, .tuple es => some (zipL ds es)
  | _, _ => none
def mZipN (ma mb : M PyData) : M (List PyData) := bM ma fun d => bM mb fun e => oM (zipTT d e)
def iZipN (K : PySem.W.Frag) (ta : TA) : L2.TI := fun σ H R => ta σ H fun vs H1 => ∃ a b xs ys, vs = [.ref a, .ref b] ∧ SqT K H1 a xs ∧ SqT K H1 b ys ∧ R (RZ.ItzT K a b) H1
section
variable {X : Cx} {W : WX} {pos p tpos : Pos} {x : Str} {a b : Expr} {ma mb : M PyData}
theorem pi_zipN {ta : TA} (hg : Gl X "zip") (hm : X.mg "zip" = none) (ha : PA X [a, b] ta) (hs : starEach [a, b] X.env = (false, eval a X.env) :: starEach [b] X.env := by rfl) (hpl : (backTo pos (starEach [b] X.env)).any (·.1) = false := by rfl) :
    PI X (.Name x tpos) (.Call (.Name "zip" p) [a, b] [] pos) (iZipN X.K ta) := by
  refine ⟨fun pins s σ H R I h => Call_ (ld_blt I hg hm PyProof.Rows.boot_zip (PyProof.Rows.callWith_type1 (thn (ha.run pos pins s σ H _ I h) ?_) hs hpl))⟩
  rintro us s1 ⟨vs, H1, I1, r1, a, b, xs, ys, rfl, qa, qb, q⟩
  cases r1 with
  | cons ra r1 =>
    cases r1 with
    | cons rb r1 =>
      cases r1
      cases ra
      cases rb
      have five : ∀ c ∈ mzF (s1.heap.objs.size + 4) (s1.heap.objs.size + 2) (s1.heap.objs.size + 3) s1.heap.objs.size (s1.heap.objs.size + 1), FpOk X pins H1 c := fun c hc => by
        have le : s1.heap.objs.size ≤ c := by
          simp only [List.mem_cons, List.not_mem_nil, or_false] at hc
          rcases hc with rfl | rfl | rfl | rfl | rfl <;> first | exact Nat.le_add_right _ _ | exact Nat.le_refl _
        exact I1.fpOk le (I1.hok.fresh le)
      obtain ⟨us, _, pa, _⟩ := I1.tuple qa
      obtain ⟨vs, _, pb, _⟩ := I1.tuple qb
      obtain ⟨oa, ea, _⟩ := id pa
      obtain ⟨ob, eb, _⟩ := id pb
      refine RZ.call_zipT pa pb fun h' z1 z2 z3 z4 z5 _ hk => wpAny_pyIter_zip z1 ?_
      exact ⟨_, _, _, _, H1, rfl, I1.kept (t' := s1.toks) hk, zn_turn (PySem.W.ktu_apart _ a b (Heap.lt_size ea) (Heap.lt_size eb)), ⟨_, _, z1, .inl rfl, z2, ⟨_, _, z3⟩, z4, z5⟩, five, q⟩
theorem vi_zipN (hm : X.mg "zip" = none) (ha : VD X W a ma) (hb : VD X W b mb) (hg : Gl X "zip" := by rfl) (hs : starEach [a, b] X.env = (false, eval a X.env) :: starEach [b] X.env := by rfl) (hs2 : starEach [b] X.env = (false, eval b X.env) :: starEach [] X.env := by rfl)
    (hpl : (backTo pos (starEach [b] X.env)).any (·.1) = false := by rfl) : VI X W (.Name x tpos) (.Call (.Name "zip" p) [a, b] [] pos) (mZipN ma mb) := by
  obtain ⟨ta, pa, sa⟩ := ha
  obtain ⟨tb, pb, sb⟩ := hb
  refine ⟨_, pi_zipN hg hm (pa_cons pa (pa_cons pb pa_nil hs2) hs) hs hpl, fun Γ σ F H O R k h => sa Γ σ F H O _ k ?_⟩
  unfold mZipN at h
  refine HitN.bind h fun d Γ1 v F1 H1 O1 k1 r s1 h1 => sb Γ1 σ F1 H1 O1 _ k1 ?_
  refine HitN.bind h1 fun e Γ2 v2 F2 H2 O2 k2 r2 s2 h2 => ?_
  have r := Df.mono s2.f _ _ r
  unfold oM zipTT at h2
  cases d with
  | tuple ds =>
    cases r with
    | tup a1 a2 =>
      cases e with
      | tuple es =>
        cases r2 with
        | tup b1 b2 => exact ⟨_, _, _, _, rfl, tupT k2.sub a1, tupT k2.sub b1, h2 _ F2 H2 O2 k2 (walks_zipT a1 a2 b1 b2) Step.refl⟩
      | _ => exact h2.elim
  | _ => cases e <;> exact h2.elim
end
end TW

/-! zip of a tuple and a list; zip of any two rows -/
namespace TW
open PySem PySem.Spec PyProof.Rows L2
/-- the cells of such a zip, one by one -/
abbrev tzA (h : Heap) (a : Addr) : Heap := h.push { cls := .type "tuple_iterator", data := .fields #[.ref a, .int 0 0] }
abbrev tzB (h : Heap) (a b : Addr) : Heap := (tzA h a).push { cls := .type "list_iterator", data := .fields #[.ref b, .int 0 0] }
abbrev tzC (h : Heap) (a b : Addr) : Heap := (tzB h a b).push { cls := .type "tuple", data := .seq #[.ref h.objs.size, .ref (tzA h a).objs.size] }
abbrev tzD (h : Heap) (a b : Addr) : Heap := (tzC h a b).push { cls := .type "tuple", data := .seq #[.none, .none] }
abbrev tzE (h : Heap) (a b : Addr) : Heap := (tzD h a b).push { cls := .type "zip", data := .fields #[.none, .bool false, .bool false, .ref (tzB h a b).objs.size, .ref (tzC h a b).objs.size] }
theorem tz_new (a b : Addr) (xs ys : Array Value) : Meets (Builtin.«zip.__new__» ⟨[.type "zip", .ref a, .ref b], []⟩) fun _ R s => s.heap.IsTuple a xs ∧ s.heap.IsList b ys ∧ R (.ok (.ret (.ref (tzD s.heap a b).objs.size))) { s with heap := tzE s.heap a b } :=
  .of_wp fun prog w A R s h => by
    obtain ⟨hp, g, d, tk, os⟩ := s
    obtain ⟨ha, hb, h⟩ := h
    have hsub := sub_zip
    have la : Heap.IsTuple (Shared.heap ⟨hp, g, d, tk, os⟩) a xs := ha
    have lb : Heap.IsList (Shared.heap ⟨tzA hp a, g, d, tk, os⟩) b ys := Heap.IsList.push hb _
    wp_walk using wpAny_pyIter_tuple la, wpAny_pyIter_list lb
    exact ⟨_, rfl, h⟩
/-- a zip that stands, at turn i -/
def TzAt (a b z p q i1 i2 : Addr) (i : Nat) (h : Heap) : Prop := IsZip h z p q .none ∧ IsPair h p (.ref i1) (.ref i2) ∧ (∃ x y, IsPair h q x y) ∧ h.IsTupleIter i1 a i ∧ h.IsListIter i2 b i
section
variable {prog : Program} {w : World} {A : Around} {E : Value → Shared → Prop} {s : Shared}
theorem call_tz {a b : Addr} {xs ys : Array Value} {Q : Value → Shared → Prop} (ha : s.heap.IsTuple a xs) (hb : s.heap.IsList b ys)
    (h : ∀ h', TzAt a b (s.heap.objs.size + 4) (s.heap.objs.size + 2) (s.heap.objs.size + 3) s.heap.objs.size (s.heap.objs.size + 1) 0 h' → (∀ c o, s.heap.get? c = some o → h'.get? c = some o) → Q (.ref (s.heap.objs.size + 4)) { s with heap := h' }) :
    wpAny (model prog w) A (call (.type "zip") [.ref a, .ref b]) Q E s := by
  refine callType_new F.called_zip (by decide) (F.typeCall_zip_2 _ _) (F.newCall_zip_2 _ _) (fun o => F.args_object_init_3 o _ _) F.entry_zip_new (tz_new a b xs ys) ⟨ha, hb, ?_⟩
  obtain ⟨hp, g, d, tk, os⟩ := s
  dsimp only at *
  have nA : (tzA hp a).objs.size = hp.objs.size + 1 := Heap.size_push ..
  have nB : (tzB hp a b).objs.size = hp.objs.size + 2 := by rw [Heap.size_push, nA]
  have nC : (tzC hp a b).objs.size = hp.objs.size + 3 := by rw [Heap.size_push, nB]
  have nD : (tzD hp a b).objs.size = hp.objs.size + 4 := by rw [Heap.size_push, nC]
  have up : ∀ {k : Heap} {o : Obj} {c : Addr} {v : Obj}, k.get? c = some v → (k.push o).get? c = some v := fun e => Heap.get?_push_of_some _ e
  have c0 : (tzE hp a b).get? hp.objs.size = some _ := up (up (up (up (Heap.get?_push_size _ rfl))))
  have c1 : (tzE hp a b).get? (tzA hp a).objs.size = some _ := up (up (up (Heap.get?_push_size _ rfl)))
  have c2 : (tzE hp a b).get? (tzB hp a b).objs.size = some _ := up (up (Heap.get?_push_size _ rfl))
  have c3 : (tzE hp a b).get? (tzC hp a b).objs.size = some _ := up (Heap.get?_push_size _ rfl)
  have c4 : (tzE hp a b).get? (tzD hp a b).objs.size = some _ := Heap.get?_push_size _ rfl
  rw [nD, nB, nC] at c4
  rw [nC] at c3
  rw [nB, nA] at c2
  rw [nA] at c1
  show _ ∧ _
  rw [nD]
  exact ⟨⟨_, c4, rfl⟩, h _ ⟨c4, c2, ⟨_, _, c3⟩, ⟨_, c0, rfl, rfl⟩, ⟨_, c1, rfl, rfl⟩⟩ fun c o e => up (up (up (up (up e))))⟩
end
/-- the list and the tuple as they stand at each turn -/
def ItzW (K : PySem.W.Frag) (a b : Addr) : It where
  go i H := ∃ (xs ys : List V) (x y : V), SqT K H a xs ∧ SqL K H b ys ∧ xs[i]? = some x ∧ ys[i]? = some y
  yld i H v H' := ∃ T x y, v = .ref T ∧ H T = none ∧ H' = upd H T (.tup [x, y]) ∧ (∀ xs, SqT K H a xs → xs[i]? = some x) ∧ ∀ ys, SqL K H b ys → ys[i]? = some y
  stop i H := ∃ xs ys : List V, SqT K H a xs ∧ SqL K H b ys ∧ (xs.length ≤ i ∨ ys.length ≤ i)
theorem tz_turn_obj {a b z p q i1 i2 : Addr} {i : Nat} {h : Heap} (st : TzAt a b z p q i1 i2 i h) : ∀ c ∈ mzF z p q i1 i2, ∃ o, h.get? c = some o ∧ ∀ v, o.data ≠ .cell v := fun c hc => by
    obtain ⟨sz, sp, ⟨x, y, sq⟩, ⟨o1, e1, _, d1⟩, ⟨o2, e2, _, d2⟩⟩ := st
    simp only [List.mem_cons, List.not_mem_nil, or_false] at hc
    rcases hc with rfl | rfl | rfl | rfl | rfl
    · exact ⟨_, sz, fun _ e => nomatch e⟩
    · exact ⟨_, sp, fun _ e => nomatch e⟩
    · exact ⟨_, sq, fun _ e => nomatch e⟩
    · exact ⟨_, e1, fun _ e => by rw [d1] at e; cases e⟩
    · exact ⟨_, e2, fun _ e => by rw [d2] at e; cases e⟩
theorem tz_turn {P : Program} {w : World} {K : PySem.W.Frag} {elts : List Expr} {kk : Nat} {tpos : Pos} {a b z p q i1 i2 : Addr} (D : ZipApart z p q i1 i2 a b) :
    Turn P w K (.Tuple elts kk tpos) (ItzW K a b) (mzF z p q i1 i2) z (TzAt a b z p q i1 i2) where
  mem := List.mem_cons_self ..
  self A i s Q E st h := wpAny_pyIter_zip st.1 h
  obj i h st c hc := tz_turn_obj st c hc
  keep i h h' st k := by
    obtain ⟨sz, sp, ⟨x, y, sq⟩, t1, t2⟩ := st
    refine ⟨k _ (by simp) _ sz, k _ (by simp) _ sp, ⟨x, y, k _ (by simp) _ sq⟩, t1.at fun o e => k i1 (by simp) o e, t2.at fun o e => k i2 (by simp) o e⟩
  done := by
    intro X hP hw hK hc i pins s σ H E I hf st hg
    subst hP hw hK
    obtain ⟨sz, sp, ⟨x0, y0, sq⟩, t1, t2⟩ := st
    obtain ⟨xs, ys, qx, qy, he⟩ := hg
    obtain ⟨us, ru, pu, _⟩ := I.tuple qx
    obtain ⟨vs, rv, pv, _⟩ := I.list qy
    have hh : X.A.in1.handled = none := I.ok.hd hc
    have lu := ru.length
    have lv := rv.length
    have out : ∀ (h' : Heap) (tk : Nat), (∀ c o, c ≠ z → c ≠ q → c ≠ i1 → c ≠ i2 → s.heap.get? c = some o → h'.get? c = some o) → (none : Option Value) = none ∧ Inv X pins σ H { s with heap := h', toks := tk } := fun h' tk hk =>
      ⟨rfl, I.turnedL (ch := mzF z p q i1 i2) (fun c o hb e => by obtain ⟨n1, _, n3, n4, n5⟩ := mz_out hb; exact hk c o n1 n3 n4 n5 e) hf⟩
    by_cases cu : i < us.length
    · have cv : vs.toArray[i]? = none := by
        rcases he with e | e
        · omega
        · simp; omega
      exact wpAny_pyNext_zipD2_end (mz_sep D) (Draws.tuple hh i1 a D.l1i1 us.toArray) (mz_endL hh cv) sz sp sq ⟨t1, pu⟩ ⟨rfl, t2, pv.isList⟩ (by simp; omega) (Nat.le_refl _) (.inr rfl) out
    · have cu : us.toArray[i]? = none := by simp; omega
      by_cases cv : i < vs.length
      · exact wpAny_pyNext_zipD2_end (mz_sep D) (mz_endT hh cu) (Draws.list hh i2 b D.l2i2 vs.toArray) sz sp sq ⟨rfl, t1, pu⟩ ⟨t2, pv.isList⟩ (Nat.le_refl _) (by simp; omega) (.inl rfl) out
      · have cv : vs.toArray[i]? = none := by simp; omega
        exact wpAny_pyNext_zipD2_end (mz_sep D) (mz_endT hh cu) (mz_endL hh cv) sz sp sq ⟨rfl, t1, pu⟩ ⟨rfl, t2, pv.isList⟩ (Nat.le_refl _) (Nat.le_refl _) (.inl rfl) out
  item := by
    intro X hP hw hK hc i pins s σ H E I hf st hg
    subst hP hw hK
    have live := st
    obtain ⟨sz, sp, ⟨x0, y0, sq⟩, t1, t2⟩ := st
    obtain ⟨xs, ys, x, y, qx, qy, hx, hy⟩ := hg
    obtain ⟨us, ru, pu, _⟩ := I.tuple qx
    obtain ⟨vs, rv, pv, _⟩ := I.list qy
    obtain ⟨u, hu, xu⟩ := ru.get hx
    obtain ⟨v, hv, yv⟩ := rv.get hy
    have hh : X.A.in1.handled = none := I.ok.hd hc
    have iu : i < us.toArray.size := by have := (List.getElem?_eq_some_iff.mp hu).1; simpa using this
    have iv : i < vs.toArray.size := by have := (List.getElem?_eq_some_iff.mp hv).1; simpa using this
    refine wpAny_pyNext_zipD2_item (mz_sep D) (Draws.tuple hh i1 a D.l1i1 us.toArray) (Draws.list hh i2 b D.l2i2 vs.toArray) sz sp sq ⟨t1, pu⟩ ⟨t2, pv.isList⟩ iu iv ?_
    intro u' v' h' tk eu ev z' q' s1 s2 hT hsz hk
    have eu : u' = u := by
      have h1 : us[i]? = some u' := by simpa using eu
      rw [hu] at h1
      exact (Option.some.inj h1).symm
    have ev : v' = v := by
      have h1 : vs[i]? = some v' := by simpa using ev
      rw [hv] at h1
      exact (Option.some.inj h1).symm
    subst eu ev
    refine ⟨_, rfl, wpAny_letOwnedTupleGo_zip (s := { s with heap := h', toks := tk }) z' fun k z'' sb => ?_⟩
    have zl : z < s.heap.objs.size := Heap.lt_size sz
    have old : ∀ c o, c ∉ mzF z p q i1 i2 → s.heap.get? c = some o → k.get? c = some o := fun c o hb e => by
      obtain ⟨n1, _, n3, n4, n5⟩ := mz_out hb
      exact (sb.2 c n1).trans (hk c o n1 n3 n4 n5 e)
    have fresh : ObjOk X.prog X.w (upd H s.heap.objs.size (.tup [x, y])) k s.heap.objs.size (.tup [x, y]) :=
      ⟨show 2 ≤ sizeLine by decide, _, .cons xu (.cons yv .nil), ⟨_, (sb.2 _ (Nat.ne_of_gt zl)).trans hT, rfl, _, rfl⟩⟩
    have I1 : Inv X pins σ (upd H s.heap.objs.size (.tup [x, y])) { s with heap := k, toks := tk } := I.turnedNew (ch := mzF z p q i1 i2) old hf (Nat.le_refl _) fresh
    refine ⟨.ref s.heap.objs.size, _, I1, rfl, ⟨_, x, y, rfl, I.hok.fresh (Nat.le_refl _), rfl, fun l hl => I.tuple_inj hl qx ▸ hx, fun l hl => I.list_inj hl qy ▸ hy⟩, ⟨z'', (sb.2 _ D.TIz).trans (hk _ _ D.TIz D.TITO D.TIi1 D.TIi2 sp), ⟨_, _, (sb.2 _ D.TOz).trans q'⟩, s1.1.at fun o e => (sb.2 _ D.i1z).trans e, s2.1.at fun o e => (sb.2 _ D.i2z).trans e⟩, fun c hc2 => ?_⟩
    have cl : c < s.heap.objs.size := by
      obtain ⟨o, e, _⟩ := (tz_turn_obj live) c hc2
      exact Heap.lt_size e
    rw [upd_ne (Nat.ne_of_lt cl)]
    exact (hf c hc2).1
/-- any two rows zipped -/
def zipF3 : PyData → PyData → Option (List PyData)
  | .tuple ds, .list es => some (zipL ds es)
  | d, e => zipF2 d e
def mZip3 (ma mb : M PyData) : M (List PyData) := bM ma fun d => bM mb fun e => oM (zipF3 d e)
def iZip3 (K : PySem.W.Frag) (ta : TA) : L2.TI := fun σ H R => ta σ H fun vs H1 => ∃ a b xs ys, vs = [.ref a, .ref b] ∧ (SqL K H1 a xs ∧ (SqL K H1 b ys ∧ R (Itz K a b) H1 ∨ SqT K H1 b ys ∧ R (ItzM K a b) H1) ∨ SqT K H1 a xs ∧ (SqT K H1 b ys ∧ R (RZ.ItzT K a b) H1 ∨ SqL K H1 b ys ∧ R (ItzW K a b) H1))
section
variable {X : Cx} {W : WX} {pos p tpos : Pos} {elts : List Expr} {kk : Nat} {a b : Expr} {ma mb : M PyData}
theorem walks_zipW {K : PySem.W.Frag} {F H : Hp} {a b : Addr} {xs ys : List V} {ds es : List PyData} (h : F a = some (.tup xs)) (r : DfAll K F xs ds) (h' : F b = some (.lst ys)) (r' : DfAll K F ys es) : Walks K F H (zipL ds es) (ItzW K a b) := fun i F1 H1 s1 s2 => by
  have qa : SqT K H1 a xs := sqT_mono s2 (tupT s1 h)
  have qb : SqL K H1 b ys := .inl (.inl (s2 _ _ (s1 _ _ h')))
  constructor
  · intro d e
    obtain ⟨d1, d2, e1, e2, rfl⟩ := zipL_get e
    obtain ⟨v1, g1, r1⟩ := DfAll.get r e1
    obtain ⟨v2, g2, r2⟩ := DfAll.get r' e2
    refine ⟨⟨xs, ys, v1, v2, qa, qb, g1, g2⟩, ?_⟩
    rintro x H2 ⟨T, y1, y2, rfl, hT, rfl, z1, z2⟩
    obtain rfl : v1 = y1 := Option.some.inj (g1.symm.trans (z1 xs qa))
    obtain rfl : v2 = y2 := Option.some.inj (g2.symm.trans (z2 ys qb))
    have g := s1.trans (same_upd (o := .tup [v1, v2]) (none_of_same s2 hT))
    exact ⟨_, Grow.new s2 hT, .tup upd_same (.cons (Df.mono g _ _ r1) (.cons (Df.mono g _ _ r2) .nil))⟩
  · intro e
    refine ⟨xs, ys, qa, qb, ?_⟩
    rw [zipL_len] at e
    have := DfAll.length r
    have := DfAll.length r'
    omega
theorem pi_zip3 {ta : TA} (hg : Gl X "zip") (hm : X.mg "zip" = none) (ha : PA X [a, b] ta) (hs : starEach [a, b] X.env = (false, eval a X.env) :: starEach [b] X.env := by rfl) (hpl : (backTo pos (starEach [b] X.env)).any (·.1) = false := by rfl) :
    PI X (.Tuple elts kk tpos) (.Call (.Name "zip" p) [a, b] [] pos) (iZip3 X.K ta) := by
  refine ⟨fun pins s σ H R I h => Call_ (ld_blt I hg hm PyProof.Rows.boot_zip (PyProof.Rows.callWith_type1 (thn (ha.run pos pins s σ H _ I h) ?_) hs hpl))⟩
  rintro us s1 ⟨vs, H1, I1, r1, a, b, xs, ys, rfl, q⟩
  cases r1 with
  | cons ra r1 =>
    cases r1 with
    | cons rb r1 =>
      cases r1
      cases ra
      cases rb
      have five : ∀ c ∈ mzF (s1.heap.objs.size + 4) (s1.heap.objs.size + 2) (s1.heap.objs.size + 3) s1.heap.objs.size (s1.heap.objs.size + 1), FpOk X pins H1 c := fun c hc => by
        have le : s1.heap.objs.size ≤ c := by
          simp only [List.mem_cons, List.not_mem_nil, or_false] at hc
          rcases hc with rfl | rfl | rfl | rfl | rfl <;> first | exact Nat.le_add_right _ _ | exact Nat.le_refl _
        exact I1.fpOk le (I1.hok.fresh le)
      rcases q with ⟨qa, q⟩ | ⟨qa, q⟩
      · obtain ⟨us, _, pa, _⟩ := I1.list qa
        rcases q with ⟨qb, q⟩ | ⟨qb, q⟩
        · obtain ⟨vs, _, pb, _⟩ := I1.list qb
          refine call_zip_2 pa.isList pb.isList fun h' z1 z2 z3 z4 z5 _ hk => wpAny_pyIter_zip z1 ?_
          exact ⟨_, _, _, _, H1, rfl, I1.kept (t' := s1.toks) hk, turn_zip (PySem.W.ktu_apart _ a b pa.lt pb.lt), ⟨z1, z2, ⟨_, _, z3⟩, z4, z5⟩, five, q⟩
        · obtain ⟨vs, _, pb, _⟩ := I1.tuple qb
          obtain ⟨ob, eb, _⟩ := id pb
          refine call_mz pa.isList pb fun h' z hk => wpAny_pyIter_zip z.1 ?_
          exact ⟨_, _, _, _, H1, rfl, I1.kept (t' := s1.toks) hk, mz_turn (PySem.W.ktu_apart _ a b pa.lt (Heap.lt_size eb)), z, five, q⟩
      · obtain ⟨us, _, pa, _⟩ := I1.tuple qa
        obtain ⟨oa, ea, _⟩ := id pa
        rcases q with ⟨qb, q⟩ | ⟨qb, q⟩
        · obtain ⟨vs, _, pb, _⟩ := I1.tuple qb
          obtain ⟨ob, eb, _⟩ := id pb
          refine RZ.call_zipT pa pb fun h' z1 z2 z3 z4 z5 _ hk => wpAny_pyIter_zip z1 ?_
          exact ⟨_, _, _, _, H1, rfl, I1.kept (t' := s1.toks) hk, RZ.turn_zipT (PySem.W.ktu_apart _ a b (Heap.lt_size ea) (Heap.lt_size eb)), ⟨z1, z2, ⟨_, _, z3⟩, z4, z5⟩, five, q⟩
        · obtain ⟨vs, _, pb, _⟩ := I1.list qb
          refine call_tz pa pb.isList fun h' z hk => wpAny_pyIter_zip z.1 ?_
          exact ⟨_, _, _, _, H1, rfl, I1.kept (t' := s1.toks) hk, tz_turn (PySem.W.ktu_apart _ a b (Heap.lt_size ea) pb.lt), z, five, q⟩
theorem vi_zip3 (hm : X.mg "zip" = none) (ha : VD X W a ma) (hb : VD X W b mb) (hg : Gl X "zip" := by rfl) (hs : starEach [a, b] X.env = (false, eval a X.env) :: starEach [b] X.env := by rfl) (hs2 : starEach [b] X.env = (false, eval b X.env) :: starEach [] X.env := by rfl)
    (hpl : (backTo pos (starEach [b] X.env)).any (·.1) = false := by rfl) : VI X W (.Tuple elts kk tpos) (.Call (.Name "zip" p) [a, b] [] pos) (mZip3 ma mb) := by
  obtain ⟨ta, pa, sa⟩ := ha
  obtain ⟨tb, pb, sb⟩ := hb
  refine ⟨_, pi_zip3 hg hm (pa_cons pa (pa_cons pb pa_nil hs2) hs) hs hpl, fun Γ σ F H O R k h => sa Γ σ F H O _ k ?_⟩
  unfold mZip3 at h
  refine HitN.bind h fun d Γ1 v F1 H1 O1 k1 r s1 h1 => sb Γ1 σ F1 H1 O1 _ k1 ?_
  refine HitN.bind h1 fun e Γ2 v2 F2 H2 O2 k2 r2 s2 h2 => ?_
  have r := Df.mono s2.f _ _ r
  unfold oM zipF3 zipF2 zipF at h2
  cases d with
  | list ds =>
    cases r with
    | lst a1 a2 =>
      cases e with
      | list es =>
        cases r2 with
        | lst b1 b2 => exact ⟨_, _, _, _, rfl, .inl ⟨.inl (.inl (k2.sub _ _ a1)), .inl ⟨.inl (.inl (k2.sub _ _ b1)), h2 _ F2 H2 O2 k2 (walks_zipL a1 a2 b1 b2) Step.refl⟩⟩⟩
      | tuple es =>
        cases r2 with
        | tup b1 b2 => exact ⟨_, _, _, _, rfl, .inl ⟨.inl (.inl (k2.sub _ _ a1)), .inr ⟨tupT k2.sub b1, h2 _ F2 H2 O2 k2 (walks_zipM a1 a2 b1 b2) Step.refl⟩⟩⟩
      | _ => exact h2.elim
  | tuple ds =>
    cases r with
    | tup a1 a2 =>
      cases e with
      | tuple es =>
        cases r2 with
        | tup b1 b2 => exact ⟨_, _, _, _, rfl, .inr ⟨tupT k2.sub a1, .inl ⟨tupT k2.sub b1, h2 _ F2 H2 O2 k2 (walks_zipT a1 a2 b1 b2) Step.refl⟩⟩⟩
      | list es =>
        cases r2 with
        | lst b1 b2 => exact ⟨_, _, _, _, rfl, .inr ⟨tupT k2.sub a1, .inr ⟨.inl (.inl (k2.sub _ _ b1)), h2 _ F2 H2 O2 k2 (walks_zipW a1 a2 b1 b2) Step.refl⟩⟩⟩
      | _ => exact h2.elim
  | _ => cases e <;> exact h2.elim
end
end TW

/-! isinstance of two types -/
namespace TW
open PySem PySem.Spec L2
def instF2 (n n2 : String) (d : PyData) : Option PyData := match d with
  | .dict ((.str _, _) :: _) => none
  | d => match kitB (tyName d) n, kitB (tyName d) n2 with
    | some a, some b => some (.bool (a || b))
    | _, _ => none
section
variable {X : Cx} {W : WX} {pos p p2 p3 tp : Pos} {kk : Nat} {e : Expr} {m : M PyData} {y y2 : Str}
theorem vd_isi2 (n n2 : String) (hm : X.mg "isinstance" = none) (hmy : X.mg y = none) (hmy2 : X.mg y2 = none) (hv : bootBuiltins y = some (.type n)) (hv2 : bootBuiltins y2 = some (.type n2)) (h : VD X W e m) (hg : Gl X "isinstance" := by rfl) (hgy : Gl X y := by rfl) (hgy2 : Gl X y2 := by rfl)
    (hst : starEach [e, .Tuple [.Name y p2, .Name y2 p3] kk tp] X.env = (false, eval e X.env) :: starEach [.Tuple [.Name y p2, .Name y2 p3] kk tp] X.env := by rfl)
    (hst2 : starEach [.Tuple [.Name y p2, .Name y2 p3] kk tp] X.env = (false, eval (.Tuple [.Name y p2, .Name y2 p3] kk tp) X.env) :: starEach [] X.env := by rfl)
    (hst3 : starEach [.Name y p2, .Name y2 p3] X.env = (false, eval (.Name y p2) X.env) :: starEach [.Name y2 p3] X.env := by rfl)
    (hst4 : starEach [.Name y2 p3] X.env = (false, eval (.Name y2 p3) X.env) :: starEach [] X.env := by rfl)
    (hn : y ≠ "__name__" := by decide) (hd : (y == ("__debug__" : Str)) = false := by decide) (hn2 : y2 ≠ "__name__" := by decide) (hd2 : (y2 == ("__debug__" : Str)) = false := by decide) :
    VD X W (.Call (.Name "isinstance" p) [e, .Tuple [.Name y p2, .Name y2 p3] kk tp] [] pos) (mC1 (instF2 n n2) m) := by
  obtain ⟨t, pe, s⟩ := h
  refine ⟨_, pe_callB call_isiT hg hm (by decide +kernel) (pa_cons pe (pa_cons (pe_tup (pa_cons (pe_bltn (v := V.ty n) hgy hmy hv rfl hn hd) (pa_cons (pe_bltn (v := V.ty n2) hgy2 hmy2 hv2 rfl hn2 hd2) pa_nil hst4) hst3)) pa_nil hst2) hst) (by decide) (by decide) hst (by rw [hst2] <;> rfl), fun Γ σ F H O Q k h => s Γ σ F H O _ k ?_⟩
  unfold mC1 at h
  refine HitN.bind h fun d Γ1 v F1 H1 O1 k1 r1 s1 h1 => ?_
  obtain ⟨d', e', q⟩ := HitN.fin h1 k1
  have hne : ∀ c x l, d ≠ .dict ((.str c, x) :: l) := fun c x l z => by subst z; cases e'
  have e' : (match kitB (tyName d) n, kitB (tyName d) n2 with
    | some a, some b => some (PyData.bool (a || b))
    | _, _ => none) = some d' := by
    unfold instF2 at e'
    split at e'
    · exact absurd rfl (hne _ _ _)
    · exact e'
  cases q1 : kitB (tyName d) n with
  | none => rw [q1] at e'; cases e'
  | some b =>
    cases q2 : kitB (tyName d) n2 with
    | none => rw [q1, q2] at e'; cases e'
    | some b2 =>
      rw [q1, q2] at e'
      cases e'
      refine ⟨by show 2 ≤ sizeLine; decide, fun T hT => ?_⟩
      have same : Same F1 (upd H1 T (.tup [V.ty n, V.ty n2])) := k1.sub.trans (same_upd hT)
      refine ⟨v, T, [.ty n, .ty n2], _, [.type n, .type n2], b || b2, rfl, upd_same, .cons (.ty n) (.cons (.ty n2) .nil), df_ty same r1 hne, ?_, q _ _ _ (Grow.new k1.sub hT) (.bl _)⟩
      refine kitAny_cons (kit_ty q1) (fun z => ?_) (fun z => by rw [z]; rfl)
      refine kitAny_cons (kit_ty q2) (fun z2 => ?_) (fun z2 => by rw [z2, Bool.or_true])
      rw [z, z2]
      rfl
end
end TW

/-! a chain of four -/
namespace TW
open PySem PySem.Spec L2 PyProof.Rows
def tChain3 (r r' r'' : R2) (ta tb tc td : TE) : TE := fun σ H Q => ta σ H fun x H1 => tb σ H1 fun y H2 => r x y H2 fun z H3 => ∃ k, z = .bl k ∧
  (if k = true then tc σ H3 fun w H4 => r' y w H4 fun z2 H5 => ∃ k2, z2 = .bl k2 ∧ (if k2 = true then td σ H5 fun u H6 => r'' w u H6 Q else Q (.bl false) H5) else Q (.bl false) H3)
def mChain3 (f g h : OpF) (ma mb mc md : M PyData) : M PyData := bM ma fun a => bM mb fun b => bM (oM (f a b)) fun t => match t with
  | .bool true => bM mc fun c => bM (oM (g b c)) fun t2 => match t2 with
    | .bool true => bM md fun d => oM (h c d)
    | .bool false => pM (.bool false)
    | _ => fun _ => none
  | .bool false => pM (.bool false)
  | _ => fun _ => none
section
variable {X : Cx} {W : WX} {pos : Pos} {a b c d : Expr} {ma mb mc md : M PyData} {ta tb tc td : TE}
theorem pe_chain3 {o1 o2 o3 : CmpOp} {r r' r'' : R2} (h1 : OpR X (compareOp o1) r) (h2 : OpR X (compareOp o2) r') (h3 : OpR X (compareOp o3) r'') (ha : PE X a ta) (hb : PE X b tb) (hc : PE X c tc) (hd : PE X d td)
    (hm : lastMarks [o1, o2, o3] [b, c, d] = false := by with_unfolding_all rfl) : PE X (.Compare a [o1, o2, o3] [b, c, d] pos) (tChain3 r r' r'' ta tb tc td) := by
  refine ⟨fun pins s σ H Q I h => ?_⟩
  refine Compare_chain (thn (ha.run pins s σ H _ I h) fun v s1 ⟨x, H1, I1, r1, q1⟩ => chain_link (thn (hb.run pins s1 σ H1 _ I1 q1) fun u s2 ⟨y, H2, I2, r2, q2⟩ =>
    thn (h1 pins s2 σ H2 x y v u _ I2 r1 r2 q2) fun t s3 ⟨z, H3, I3, r3, k, e, q3⟩ => ?_)) hm
  subst e
  cases r3
  refine wpAny_truthy_bool ?_
  cases k with
  | false => exact ite_ff ⟨.bl false, H3, I3, rfl, q3⟩
  | true =>
    refine ite_tt (chain_link (thn (hc.run pins s3 σ H3 _ I3 q3) fun w4 s4 ⟨y4, H4, I4, r4, q4⟩ => thn (h2 pins s4 σ H4 y y4 u w4 _ I4 r2 r4 q4) fun t5 s5 ⟨z5, H5, I5, r5, k5, e5, q5⟩ => ?_))
    subst e5
    cases r5
    refine wpAny_truthy_bool ?_
    cases k5 with
    | false => exact ite_ff ⟨.bl false, H5, I5, rfl, q5⟩
    | true => exact ite_tt (chain_last (thn (hd.run pins s5 σ H5 _ I5 q5) fun w6 s6 ⟨y6, H6, I6, r6, q6⟩ => h3 pins s6 σ H6 y4 y6 w4 w6 Q I6 r4 r6 q6))
theorem vd_chain3 {o1 o2 o3 : CmpOp} {f g h : OpF} (hf : OpD X (compareOp o1) f) (hg : OpD X (compareOp o2) g) (hh : OpD X (compareOp o3) h) (ha : VD X W a ma) (hb : VD X W b mb) (hc : VD X W c mc) (hd : VD X W d md)
    (hm : lastMarks [o1, o2, o3] [b, c, d] = false := by with_unfolding_all rfl) : VD X W (.Compare a [o1, o2, o3] [b, c, d] pos) (mChain3 f g h ma mb mc md) := by
  obtain ⟨r, hr, f1⟩ := hf
  obtain ⟨r', hr', g1⟩ := hg
  obtain ⟨r'', hr'', h1⟩ := hh
  obtain ⟨ta, pa, sa⟩ := ha
  obtain ⟨tb, pb, sb⟩ := hb
  obtain ⟨tc, pc, sc⟩ := hc
  obtain ⟨td, pd, sd⟩ := hd
  refine ⟨_, pe_chain3 hr hr' hr'' pa pb pc pd hm, fun Γ σ F H O Q k q => sa Γ σ F H O _ k ?_⟩
  unfold mChain3 at q
  refine HitN.bind q fun da Γ1 v F1 H1 O1 k1 r1 s1 q1 => sb Γ1 σ F1 H1 O1 _ k1 ?_
  refine HitN.bind q1 fun db Γ2 w F2 H2 O2 k2 r2 s2 q2 => ?_
  cases e : f da db with
  | none =>
    have no : HitN X.K W (rD X.K) none σ F2 H2 O2 Q := by
      unfold bM oM at q2
      rw [e] at q2
      exact q2
    exact no.elim
  | some t =>
    refine f1 da db t e v w F2 H2 _ k2.sub (Df.mono s2.f _ _ r1) r2 fun z F3 H3 g3 r3 => ?_
    unfold bM oM at q2
    rw [e] at q2
    have q3 := HitN.trans q2 (g3.step (O := O2))
    have k3 := k2.grow g3
    cases t with
    | bool t =>
      cases r3
      refine ⟨t, rfl, ?_⟩
      cases t with
      | false => exact iteF (q3 (.bl false) F3 H3 O2 k3 (.bl false) Step.refl)
      | true =>
        refine iteT (sc Γ2 σ F3 H3 O2 _ k3 ?_)
        refine HitN.bind q3 fun dc Γ4 w4 F4 H4 O4 k4 r4 s4 q4 => ?_
        have r2b := Df.mono (g3.f.trans s4.f) _ _ r2
        cases e2 : g db dc with
        | none =>
          have no : HitN X.K W (rD X.K) none σ F4 H4 O4 Q := by
            rw [e2] at q4
            exact q4
          exact no.elim
        | some t2 =>
          refine g1 db dc t2 e2 w w4 F4 H4 _ k4.sub r2b r4 fun z5 F5 H5 g5 r5 => ?_
          rw [e2] at q4
          have q5 := HitN.trans q4 (g5.step (O := O4))
          have k5 := k4.grow g5
          cases t2 with
          | bool t2 =>
            cases r5
            refine ⟨t2, rfl, ?_⟩
            cases t2 with
            | false => exact iteF (q5 (.bl false) F5 H5 O4 k5 (.bl false) Step.refl)
            | true =>
              refine iteT (sd Γ4 σ F5 H5 O4 _ k5 ?_)
              refine HitN.bind q5 fun dd Γ6 w6 F6 H6 O6 k6 r6 s6 q6 => ?_
              obtain ⟨d', e', fin⟩ := HitN.fin q6 k6
              exact h1 dc dd d' e' w4 w6 F6 H6 Q k6.sub (Df.mono (g5.f.trans s6.f) _ _ r4) r6 fin
          | _ => exact q5.elim
    | _ => exact q3.elim
end
end TW

/-! x in range(n) -/
namespace TW
open PySem PySem.Spec L2 PyProof.Rows
section
variable {X : Cx}
theorem cr_range1 : CallR X (.type "range") (fun vs H Q => ∃ i, vs = [V.int i] ∧ ∀ p, H p = none → Q (.ref p) (upd H p (.rng 0 i))) := by
  intro pins s σ H vs us Q I r h
  obtain ⟨i, rfl, q⟩ := h
  obtain ⟨u1, rfl, t, rfl⟩ := vals1 r
  refine call_range_1 ⟨.ref s.heap.objs.size, upd H s.heap.objs.size (.rng 0 i), I.laid (t' := s.toks + 1 + 1) (fun b o e => Heap.get?_push_of_some _ e) (Nat.le_refl _) ?_, rfl, q _ (I.hok.fresh (Nat.le_refl _))⟩
  exact ⟨s.toks, t, s.toks + 1, Heap.get?_push_size _ rfl⟩
def inRgF : OpF
  | .int i, .int n => some (.bool (decide (0 ≤ i ∧ i < n)))
  | _, _ => none
variable {W : WX} {pos p q : Pos} {a b : Expr} {ma mb : M PyData} {x : Str}
theorem vd_inRg (hm : X.mg x = none) (hv : bootBuiltins x = some (.type "range")) (ha : VD X W a ma) (hb : VD X W b mb) (hg : Gl X x := by rfl) (hst : starEach [b] X.env = (false, eval b X.env) :: starEach [] X.env := by rfl)
    (hn : x ≠ "__name__" := by decide) (hd : (x == ("__debug__" : Str)) = false := by decide) (hm2 : behindInMarks .In (.Call (.Name x p) [b] [] q) = false := by first | exact nomark _ | rfl) :
    VD X W (.Compare a [.In] [.Call (.Name x p) [b] [] q] pos) (mOp inRgF ma mb) := by
  obtain ⟨ta, pa, sa⟩ := ha
  obtain ⟨tb, pb, sb⟩ := hb
  refine ⟨_, pe_cmpR op_in_rng pa (pe_callTy cr_range1 hg hm hv (pa_cons pb pa_nil hst) hn hd hst) hm2, fun Γ σ F H O Q k h => sa Γ σ F H O _ k ?_⟩
  unfold mOp at h
  refine HitN.bind h fun d Γ1 v F1 H1 O1 k1 r1 s1 h1 => sb Γ1 σ F1 H1 O1 _ k1 ?_
  refine HitN.bind h1 fun e Γ2 w F2 H2 O2 k2 r2 s2 h2 => ?_
  obtain ⟨d', e', fin⟩ := HitN.fin h2 k2
  unfold inRgF at e'
  split at e'
  · rename_i i n
    cases r1
    cases r2
    cases e'
    refine ⟨n, rfl, fun T hT => ⟨i, T, 0, n, rfl, rfl, upd_same, fin _ _ _ (Grow.new k2.sub hT) (.bl _)⟩⟩
  · cases e'
end
end TW

/-! a text of one sign, taken many times -/
namespace TW
open PySem PySem.Spec L2 PyProof.Rows
section
variable {X : Cx}
theorem op_mulS1 : OpR X (binaryOp .Mult) (fun x y H Q => ∃ (i : Str) (k : Int), x = .str i ∧ y = .int k ∧ MulOk i k ∧ Q (.str (Txt.mul i k)) H) := by
  intro pins s σ H x y v u Q I rx ry h
  obtain ⟨i, k, rfl, rfl, hz, q⟩ := h
  obtain ⟨t, rfl⟩ := rx
  obtain ⟨t', rfl⟩ := ry
  exact SB.mul hz (fun t' tk => ⟨.str (Txt.mul i k), H, I.tok _, ⟨_, rfl⟩, q⟩)
def mulYF : OpF
  | .str s, .int k => if s.length = 1 ∧ 0 ≤ k ∧ k ≤ 1000 then some (.str (Txt.mul s k)) else none
  | a, b => mulXF a b
theorem mulOk_one {s : Str} {k : Int} (hs : s.length = 1) (h0 : 0 ≤ k) (h1 : k ≤ 1000) : MulOk s k := by
  refine ⟨?_, fun h _ z => ?_, fun h _ => ?_⟩
  · rw [decide_eq_false (by omega), decide_eq_false (by omega)]; rfl
  · rw [hs] at z
    have : 1 ≤ (2 ^ 63 - 1) / k := (Int.le_ediv_iff_mul_le (by omega)).mpr (by omega)
    omega
  · rw [hs]
    show decide (1 * k.toNat > sizeLine) = false
    exact decide_eq_false (by have := sizeLine_eq; omega)
theorem od_mulY : OpD X (binaryOp .Mult) mulYF := by
  obtain ⟨r, hr, hs⟩ := od_mulX (X := X)
  refine ⟨_, hr.or op_mulS1, fun a b d e x y F H Q s ra rb q => ?_⟩
  unfold mulYF at e
  split at e
  · split at e
    · rename_i i k h
      cases e
      cases ra
      cases rb
      exact .inr ⟨_, _, rfl, rfl, mulOk_one h.1 h.2.1 h.2.2, q _ F H (Grow.refl s) (.str _)⟩
    · cases e
  · exact .inl (hs _ _ _ e x y F H Q s ra rb q)
end
end TW

/-! dict(pairs): a dict whose keys are tuples, of a frozen list of pairs -/
namespace TW
open PySem PySem.Spec PyProof.Rows L2
def mergeV (acc kvs : List (List L2.Key × V)) : List (List L2.Key × V) := kvs.foldl (fun a kv => putK a kv.1 kv.2) acc
def mergeD (acc kvs : List (List L2.Key × PyData)) : List (List L2.Key × PyData) := kvs.foldl (fun a kv => putD a kv.1 kv.2) acc
theorem mergeV_len : ∀ (kvs acc : List (List L2.Key × V)), (mergeV acc kvs).length ≤ acc.length + kvs.length
  | [], _ => Nat.le_refl _
  | kv :: kvs, acc => by
    have h1 := mergeV_len kvs (putK acc kv.1 kv.2)
    have h2 : (putK acc kv.1 kv.2).length ≤ acc.length + 1 := by
      unfold putK
      split
      · rw [List.length_map]; omega
      · rw [List.length_append]; exact Nat.le_refl _
    show (mergeV (putK acc kv.1 kv.2) kvs).length ≤ _
    rw [List.length_cons]
    omega
theorem merge_rep {K : PySem.W.Frag} {F : Hp} : ∀ {kvs : List (List L2.Key × PyData)} {ps : List (List L2.Key × V)}, Paired (KDf K F) kvs ps → ∀ {acc : List (List L2.Key × PyData)} {acp : List (List L2.Key × V)}, Paired (KDf K F) acc acp → Paired (KDf K F) (mergeD acc kvs) (mergeV acp ps)
  | _, _, .nil, _, _, h => h
  | (k1, d1) :: kvs, (k2, v2) :: ps, .cons h t, _, _, ha => by
    cases (show k1 = k2 from h.1)
    exact merge_rep t (put_rep h.2 ha)
/-- what is told of the pairs -/
def PrsV (K : PySem.W.Frag) (H : Hp) : List Addr → List (List L2.Key × V) → Prop := Paired fun p kv => ∃ b, SqT K H p [.ref b, kv.2] ∧ H b = some (.tup (kv.1.map kV))
def rDictT (K : PySem.W.Frag) : List V → Hp → VK → Prop := fun xs H Q => ∃ (a : Addr) (ps : List Addr) (kvs : List (List L2.Key × V)), xs = [.ref a] ∧ SqL K H a (ps.map V.ref) ∧ PrsV K H ps kvs ∧ ∀ p, H p = none → Q (.ref p) (L2.upd H p (.dT (mergeV [] kvs)))
section
variable {X : Cx}
theorem prs_of {pins : List (Addr × Obj)} {σ : L2.St} {H : Hp} {s : Shared} (I : L2.Inv X pins σ H s) : ∀ {ps : List Addr} {kvs : List (List L2.Key × V)}, PrsV X.K H ps kvs →
    ∃ prs : List (List L2.Key × Addr × Value), KT H kvs prs ∧ prs.length = ps.length ∧ ∀ (j : Nat) (q : List L2.Key × Addr × Value), prs[j]? = some q → ∃ p, ps[j]? = some p ∧ PairAt s.heap p (.ref q.2.1) q.2.2 ∧ H q.2.1 = some (.tup (q.1.map kV))
  | _, _, .nil => ⟨[], .nil, rfl, fun j q e => nomatch e⟩
  | p :: ps, (k, v) :: kvs, .cons ⟨b, h1, h2⟩ t => by
    obtain ⟨prs, r, hl, hp⟩ := prs_of I t
    obtain ⟨its, rv, pl, _⟩ := I.tuple h1
    obtain ⟨u1, u2, e, r1, r2⟩ := vals2 rv
    subst e
    cases r1
    obtain ⟨o, ho, hc, n, hd⟩ := pl
    refine ⟨(k, b, u2) :: prs, .cons ⟨rfl, h2, r2⟩ r, by rw [List.length_cons, List.length_cons, hl], fun j q e => ?_⟩
    cases j with
    | zero => cases e; exact ⟨p, rfl, .inl ⟨o, ho, hc, n, hd⟩, h2⟩
    | succ j => exact hp j q e
theorem kt_merge {H : Hp} : ∀ {kvs : List (List L2.Key × V)} {prs : List (List L2.Key × Addr × Value)}, KT H kvs prs → ∀ {acc : List (List L2.Key × V)} {acp : List (List L2.Key × Addr × Value)}, KT H acc acp → KT H (mergeV acc kvs) (storedAllH acp prs)
  | _, _, .nil, _, _, h => h
  | (k1, v1) :: kvs, (k2, b, u) :: prs, .cons h t, acc, acp, ha => by
    obtain ⟨h1, h2, h3⟩ := h
    cases (show k1 = k2 from h1)
    exact kt_merge t (KT.put ha k1 h2 h3)
theorem cr_dictT (hc : X.calm = true) (hu : X.A.units + 65 < cLine) : CallR X (.type "dict") (rDictT X.K) := by
  intro pins s σ H xs us Q I r q
  obtain ⟨a, ps, kvs, ex, hq, hp, q⟩ := q
  subst ex
  obtain ⟨u, eu, rx⟩ := vals1 r
  subst eu
  cases rx
  obtain ⟨its, rv, pl, hz⟩ := I.list hq
  have ei := refs_at rv
  subst ei
  rw [List.length_map] at hz
  obtain ⟨prs, rel, hl, hpr⟩ := prs_of I hp
  have lk : kvs.length = prs.length := Paired.length rel
  have pa := PairArg.list (prog := X.prog) (w := X.w) a ((ps.map Value.ref).toArray) (fun j => ps.getD j 0) (prs.map fun q => (Value.ref q.2.1, q.2.2))
  have okH : PlainSeq "list" s.heap a ((ps.map Value.ref).toArray) ∧ PairItems s.heap ((ps.map Value.ref).toArray) (fun j => ps.getD j 0) (prs.map fun q => (Value.ref q.2.1, q.2.2)) := by
    obtain ⟨o, n, ho, hcl, hd, hdat⟩ := pl
    refine ⟨⟨o, n, ho, hcl, hd, hdat⟩, by simp [hl], fun j k v e => ?_⟩
    rw [List.getElem?_map] at e
    obtain ⟨q, hq, eq⟩ := Option.map_eq_some_iff.mp e
    cases eq
    obtain ⟨p, e1, e2, _⟩ := hpr j q hq
    have ed : ps.getD j 0 = p := by rw [List.getD_eq_getElem?_getD, e1]; rfl
    show ((ps.map Value.ref).toArray)[j]? = some (Value.ref (ps.getD j 0)) ∧ PairAt s.heap (ps.getD j 0) _ _
    rw [ed]
    exact ⟨by simp [e1], e2⟩
  refine call_dict_pairsH (knd := tupleKind (mixKind X.prog X.w)) (ps := prs) pa (I.ok.hd hc) (show X.A.units + 1 + 1 < cLine by omega) okH ⟨by rw [List.length_map], fun i k v e => ?_⟩ (fun h' hk x mx => ?_) (by rw [List.length_map, hl]; exact hz) fun h' tk hd' k => ?_
  · have e : (prs.map fun q => (Value.ref q.2.1, q.2.2))[i]? = some (k, v) := e
    rw [List.getElem?_map] at e
    obtain ⟨q, hq, eq⟩ := Option.map_eq_some_iff.mp e
    cases eq
    exact ⟨q.1, q.2.1, hq, rfl⟩
  · obtain ⟨j, hj⟩ := List.getElem?_of_mem mx
    obtain ⟨_, _, _, hb⟩ := hpr j x hj
    refine tupleKind_stays.stays (fun b o vs n e _ => hk b o (Nat.ne_of_lt (Heap.lt_size e)) List.not_mem_nil e) (key_of I.hok hb)
  · have hm : (s.heap.objs.size == sysModules) = false := beq_eq_false_iff_ne.mpr (Nat.ne_of_gt I.big)
    have hlen : (mergeV [] kvs).length ≤ sizeLine := by
      have := mergeV_len kvs []
      rw [List.length_nil] at this
      omega
    have kt := kt_merge rel (acc := []) (acp := []) .nil
    obtain ⟨o, es, ep, h1, h2, h3, h4, _, h5⟩ := hd'
    have hf : H s.heap.objs.size = none := I.hok.fresh (Nat.le_refl _)
    have k : ∀ b o, s.heap.get? b = some o → h'.get? b = some o := fun b o e => k b o List.not_mem_nil e
    exact ⟨.ref s.heap.objs.size, L2.upd H s.heap.objs.size (.dT (mergeV [] kvs)), I.laid (t' := tk) k (Nat.le_refl _) (show ObjOk X.prog X.w _ _ _ (.dT (mergeV [] kvs)) from ⟨hlen, hm, _, kt.keeps fun c ys ec => (by rw [upd_ne (ne_of_none ec hf)]; exact ec), o, es, ep, h1, h2, h3, h4, h5⟩), rfl, q _ hf⟩
end
/-! its run -/
def pairT : PyData → Option (List L2.Key × PyData)
  | .tuple [k, v] => (keyT k).map fun ks => (ks, v)
  | _ => none
def pairsT : List PyData → Option (List (List L2.Key × PyData))
  | [] => some []
  | d :: ds => match pairT d, pairsT ds with
    | some p, some ps => some (p :: ps)
    | _, _ => none
def dictTF : PyData → Option T
  | .list ds => (pairsT ds).map fun kvs => .dtp (mergeD [] kvs)
  | _ => none
def mDictT (m : M PyData) : M T := bM m fun d => oM (dictTF d)
theorem prs_rep {K : PySem.W.Frag} {F H : Hp} (sub : Same F H) : ∀ {ds : List PyData} {vs : List V} {kvs : List (List L2.Key × PyData)}, DfAll K F vs ds → pairsT ds = some kvs → ∃ (ps : List Addr) (kps : List (List L2.Key × V)), vs = ps.map V.ref ∧ PrsV K H ps kps ∧ Paired (KDf K F) kvs kps
  | [], _, kvs, .nil, e => by cases e; exact ⟨[], [], rfl, .nil, .nil⟩
  | d :: ds, _, kvs, .cons r rs, e => by
    unfold pairsT at e
    cases q1 : pairT d with
    | none => rw [q1] at e; cases e
    | some p =>
      cases q2 : pairsT ds with
      | none => rw [q1, q2] at e; cases e
      | some kvs' =>
        rw [q1, q2] at e
        cases e
        obtain ⟨ps, kps, rfl, h1, h2⟩ := prs_rep sub rs q2
        unfold pairT at q1
        split at q1
        case h_2 => cases q1
        rename_i kd vd
        obtain ⟨ks, ek, rfl⟩ := Option.map_eq_some_iff.mp q1
        cases r with
        | tup ha hs =>
          cases hs with
          | cons rk hs =>
            cases hs with
            | cons rv hs =>
              cases hs
              obtain ⟨b, rfl, hb⟩ := keyT_v ek rk
              exact ⟨_ :: ps, (ks, _) :: kps, rfl, .cons ⟨b, SqT.of (sub _ _ ha), sub _ _ hb⟩ h1, .cons ⟨rfl, rv⟩ h2⟩
section
variable {X : Cx} {W : WX} {e : Expr} {m : M PyData} {p pos : Pos} {y : Str}
theorem vt_dictT (hc : X.calm = true) (hu : X.A.units + 65 < cLine) (hm : X.mg y = none) (hv : bootBuiltins y = some (.type "dict")) (h : VD X W e m) (hg : Gl X y := by rfl)
    (hst : starEach [e] X.env = (false, eval e X.env) :: starEach [] X.env := by rfl) (hn : y ≠ "__name__" := by decide) (hd : (y == ("__debug__" : Str)) = false := by decide) :
    VT X W (.Call (.Name y p) [e] [] pos) (mDictT m) := by
  obtain ⟨t, pe, s⟩ := h
  refine ⟨_, pe_callTy (cr_dictT hc hu) hg hm hv (pa_cons pe pa_nil hst) hn hd hst, fun Γ σ F H O Q k h => s Γ σ F H O _ k ?_⟩
  unfold mDictT at h
  refine HitT.bindN h fun d Γ1 v F1 H1 O1 k1 r1 s1 h1 => ?_
  unfold oM at h1
  cases e1 : dictTF d with
  | none => rw [e1] at h1; exact h1.elim
  | some t =>
    rw [e1] at h1
    unfold dictTF at e1
    split at e1
    case h_2 => cases e1
    rename_i ds
    obtain ⟨kvs, e2, rfl⟩ := Option.map_eq_some_iff.mp e1
    cases r1 with
    | lst ha hs =>
      obtain ⟨ps, kps, rfl, g1, g2⟩ := prs_rep k1.sub hs e2
      refine ⟨_, ps, kps, rfl, SqL.of (k1.sub _ _ ha), g1, fun q hq => ?_⟩
      have fq : F1 q = none := none_of_same k1.sub hq
      have qO : q ∉ O1 := fun m => RepG.live k1.rep q m hq
      have k2 : Ok X.K F1 (L2.upd H1 q (.dT (mergeV [] kps))) Γ1 σ O1 := k1.upd qO fq
      refine h1 (.ref q) F1 _ O1 [q] k2 ?_ (List.nodup_cons.mpr ⟨qO, k1.nd⟩) (fun b m => by rw [List.mem_singleton.mp m]; exact fq) ⟨Same.refl _, fun b hb _ => ?_, fun b m => ?_⟩
      · show RepT X.K F1 _ (.dtp (mergeD [] kvs)) _ _
        unfold RepT
        exact ⟨q, mergeV [] kps, rfl, upd_same, merge_rep g2 .nil, rfl⟩
      · have nb : b ≠ q := fun e => hb (e ▸ hq)
        exact ⟨upd_ne nb, id⟩
      · rcases List.mem_cons.mp m with rfl | m
        · exact .inr hq
        · exact .inl m
end
end TW

/-! list(zip(..)) of two tuples -/
namespace TW
open PySem PySem.Spec PyProof.Rows L2
theorem zip_no_len : typeLookup (.type "zip") "__len__" = pure none := am_miss_of_fast (by decide +kernel)
theorem zip_no_hint : typeLookup (.type "zip") "__length_hint__" = pure none := am_miss_of_fast (by decide +kernel)
/-- the pairs so far, where they lie -/
structure ZlG (us vs : List Value) (lo : Addr) (h : Heap) (as : List Addr) : Prop where
  rise : as.Pairwise (· < ·)
  above : ∀ a ∈ as, lo < a
  pairs : ∀ (j : Nat) (a : Addr), as[j]? = some a → ∃ u v, us[j]? = some u ∧ vs[j]? = some v ∧ h.get? a = some { cls := .type "tuple", data := .seq #[u, v] }
theorem ZlG.there {us vs : List Value} {lo : Addr} {h : Heap} {as : List Addr} (g : ZlG us vs lo h as) {a : Addr} (ha : a ∈ as) : a < h.objs.size := by
  obtain ⟨j, hj⟩ := List.mem_iff_getElem?.mp ha
  obtain ⟨_, _, _, _, e⟩ := g.pairs j a hj
  exact Heap.lt_size e
theorem tup_keep {h h' : Heap} {a : Addr} {its : Array Value} (x : IsTup h a its) (k : ∀ o, h.get? a = some o → h'.get? a = some o) : IsTup h' a its := let ⟨o, ho, r⟩ := x; ⟨o, k o ho, r⟩
section
variable {prog : Program} {w : World} {A : Around} {E : Value → Shared → Prop} {s : Shared} {a b z p q i1 i2 S : Addr} {us vs : List Value}
theorem zn_keep {i : Nat} {h h' : Heap} (st : ZnAt a b z p q i1 i2 i h) (k : ∀ c ∈ mzF z p q i1 i2, ∀ o, h.get? c = some o → h'.get? c = some o) : ZnAt a b z p q i1 i2 i h' := by
  obtain ⟨f0, f1, sz, sf, sp, ⟨x, y, sq⟩, t1, t2⟩ := st
  exact ⟨f0, f1, k _ (by simp) _ sz, sf, k _ (by simp) _ sp, ⟨x, y, k _ (by simp) _ sq⟩, t1.at fun o e => k i1 (by simp) o e, t2.at fun o e => k i2 (by simp) o e⟩
theorem zl_loop {R : Result → Shared → Prop} (hh : A.handled = none) (D : ZipApart z p q i1 i2 a b) (hS : ∀ c ∈ mzF z p q i1 i2, c < S) (hSa : a < S) (hSb : b < S) (hn : min us.length vs.length ≤ sizeLine) (res : Value) {h₁ : Heap}
    (hR : ∀ h' tk acc c as, (∀ x o, x ≠ S → x ∉ [z, q, i1, i2] → h₁.get? x = some o → h'.get? x = some o) → h'.get? S = some { cls := .type "list", dict := none, data := .seq acc c, slots := #[] } → as.length = min us.length vs.length → ZlG us vs S h' as →
      acc.toList = as.map Value.ref → R (.ok (.ret res)) { s with heap := h', toks := tk }) :
    ∀ (k i : Nat) (h : Heap) (tk c : Nat) (acc : Array Value) (as : List Addr), min us.length vs.length - i = k → i ≤ min us.length vs.length → ZnAt a b z p q i1 i2 i h → IsTup h a us.toArray → IsTup h b vs.toArray → (∀ x o, x ≠ S → x ∉ [z, q, i1, i2] → h₁.get? x = some o → h.get? x = some o) →
      h.get? S = some { cls := .type "list", dict := none, data := .seq acc c, slots := #[] } → acc.toList = as.map Value.ref → as.length = i → ZlG us vs S h as →
      codeAny (model prog w) A (.builtin "list.extend.loop" ⟨[.ref S, .ref z, res], []⟩) R { s with heap := h, toks := tk } := by
  have hh2 : A.in1.in1.handled = none := hh
  have four : ∀ {x : Addr}, x ∉ [z, q, i1, i2] → x ≠ z ∧ x ≠ q ∧ x ≠ i1 ∧ x ≠ i2 := fun h => ⟨fun e => h (by simp [e]), fun e => h (by simp [e]), fun e => h (by simp [e]), fun e => h (by simp [e])⟩
  have lt4 : ∀ x ∈ [z, q, i1, i2], x < S := fun x m => hS x (by
    simp only [List.mem_cons, List.not_mem_nil, or_false] at m ⊢
    rcases m with e | e | e | e <;> simp [e])
  have Sout : S ∉ [z, q, i1, i2] := fun m => Nat.lt_irrefl _ (lt4 S m)
  have out_of : ∀ x, S < x → x ∉ [z, q, i1, i2] := fun x hx m => Nat.lt_irrefl _ (Nat.lt_trans hx (lt4 x m))
  have aout : a ∉ [z, q, i1, i2] := fun m => by
    simp only [List.mem_cons, List.not_mem_nil, or_false] at m
    rcases m with e | e | e | e
    · exact D.l1z e
    · exact D.l1TO e
    · exact D.l1i1 e
    · exact D.l1i2 e
  have bout : b ∉ [z, q, i1, i2] := fun m => by
    simp only [List.mem_cons, List.not_mem_nil, or_false] at m
    rcases m with e | e | e | e
    · exact D.l2z e
    · exact D.l2TO e
    · exact D.l2i1 e
    · exact D.l2i2 e
  intro k
  induction k with
  | zero =>
    intro i h tk c acc as hk hi hst pa pb hkeep hL hacc hal hG
    have hin : i = min us.length vs.length := by omega
    obtain ⟨f0, f1, sz, sf, sp, ⟨x0, y0, sq⟩, t1, t2⟩ := hst
    refine codeAny_builtin PySem.F.entry_extend_loop ?_
    rw [Around.under_plainId PySem.F.plain_extend_loop _]
    show wpAny _ A.in1 (pyNext (.ref z) >>= _) _ _ _
    have out : ∀ (h' : Heap) (tk' : Nat), (∀ c o, c ≠ z → c ≠ q → c ≠ i1 → c ≠ i2 → h.get? c = some o → h'.get? c = some o) → R (.ok (.ret res)) { s with heap := h', toks := tk' } := fun h' tk' hk => by
      have old : ∀ x o, x ∉ [z, q, i1, i2] → h.get? x = some o → h'.get? x = some o := fun x o hx e => let ⟨n1, n3, n4, n5⟩ := four hx; hk x o n1 n3 n4 n5 e
      refine hR h' tk' acc c as (fun x o h1 h2 e => old x o h2 (hkeep x o h1 h2 e)) (old S _ Sout hL) (by omega) ⟨hG.rise, hG.above, fun j x hj => ?_⟩ hacc
      obtain ⟨u, v, e1, e2, e3⟩ := hG.pairs j x hj
      exact ⟨u, v, e1, e2, old x _ (out_of x (hG.above x (List.mem_of_getElem? hj))) e3⟩
    refine wpAny_bind ?_
    by_cases cu : i < us.length
    · have cv : vs.toArray[i]? = none := by simp; omega
      exact zn_pyEnd (s := { s with heap := h, toks := tk }) (A := A.in1) (mz_sep D) (Draws.tuple hh2 i1 a D.l1i1 us.toArray) (mz_endT hh2 cv) sz sf sp sq ⟨t1, pa⟩ ⟨rfl, t2, pb⟩ (by simp; omega) (Nat.le_refl _) (.inr rfl) fun h' tk' hk => wpAny_pure (out h' tk' hk)
    · have cu : us.toArray[i]? = none := by simp; omega
      by_cases cv : i < vs.length
      · exact zn_pyEnd (s := { s with heap := h, toks := tk }) (A := A.in1) (mz_sep D) (mz_endT hh2 cu) (Draws.tuple hh2 i2 b D.l2i2 vs.toArray) sz sf sp sq ⟨rfl, t1, pa⟩ ⟨t2, pb⟩ (Nat.le_refl _) (by simp; omega) (.inl rfl) fun h' tk' hk => wpAny_pure (out h' tk' hk)
      · have cv : vs.toArray[i]? = none := by simp; omega
        exact zn_pyEnd (s := { s with heap := h, toks := tk }) (A := A.in1) (mz_sep D) (mz_endT hh2 cu) (mz_endT hh2 cv) sz sf sp sq ⟨rfl, t1, pa⟩ ⟨rfl, t2, pb⟩ (Nat.le_refl _) (Nat.le_refl _) (.inl rfl) fun h' tk' hk => wpAny_pure (out h' tk' hk)
  | succ k ih =>
    intro i h tk c acc as hk hi hst pa pb hkeep hL hacc hal hG
    have hlt : i < min us.length vs.length := by omega
    have hsz : acc.size = i := by rw [← Array.length_toList, hacc, List.length_map, hal]
    have live := hst
    obtain ⟨f0, f1, sz, sf, sp, ⟨x0, y0, sq⟩, t1, t2⟩ := hst
    refine codeAny_builtin PySem.F.entry_extend_loop ?_
    rw [Around.under_plainId PySem.F.plain_extend_loop _]
    show wpAny _ A.in1 (pyNext (.ref z) >>= _) _ _ _
    refine wpAny_bind (zn_pyItem (s := { s with heap := h, toks := tk }) (A := A.in1) (mz_sep D) (Draws.tuple hh2 i1 a D.l1i1 us.toArray) (Draws.tuple hh2 i2 b D.l2i2 vs.toArray) sz sf sp sq ⟨t1, pa⟩ ⟨t2, pb⟩ (by simp; omega) (by simp; omega) ?_)
    intro u v h' tk' g0 g1 eu ev z' gf q' s1 s2 hT hkp
    dsimp only at z' q' s1 s2 hT hkp ⊢
    have eu : us[i]? = some u := by simpa using eu
    have ev : vs[i]? = some v := by simpa using ev
    have old : ∀ x o, x ∉ [z, q, i1, i2] → h.get? x = some o → h'.get? x = some o := fun x o hx e => let ⟨n1, n3, n4, n5⟩ := four hx; hkp x o n1 n3 n4 n5 e
    have hSl : S < h.objs.size := Heap.lt_size hL
    have hS' := old S _ Sout hL
    have up : ∀ x o, x ≠ S → h'.get? x = some o → (h'.update S (Obj.mapSeq (·.push (Value.ref h.objs.size)))).get? x = some o := fun x o hx e => (Heap.get?_update_other _ _ (Ne.symm hx)).trans e
    have st' : ZnAt a b z p q i1 i2 (i + 1) h' := ⟨g0, g1, z', gf, hkp _ _ D.TIz D.TITO D.TIi1 D.TIi2 sp, q', s1.1, s2.1⟩
    show wpAny _ A.in1 (updateSeq S (·.push (Value.ref h.objs.size)) >>= _) _ _ _
    refine wpAny_bind ?_
    refine wpAny_updateSeq hS' rfl (wpAny_pure ⟨plainId_quiet PySem.F.plain_extend_loop _, ih (i + 1) _ tk' _ (acc.push (Value.ref h.objs.size)) (as ++ [h.objs.size]) (by omega) hlt (zn_keep st' fun x m o e => up x o (Nat.ne_of_lt (hS x m)) e)
      (tup_keep pa fun o e => up a o (Nat.ne_of_lt hSa) (old a o aout e)) (tup_keep pb fun o e => up b o (Nat.ne_of_lt hSb) (old b o bout e))
      (fun x o h1 h2 e => up x o h1 (old x o h2 (hkeep x o h1 h2 e))) (Heap.get?_update_self _ hS' rfl) (by rw [Array.toList_push, hacc, List.map_append]; rfl) (by rw [List.length_append, hal]; rfl) ⟨?_, ?_, ?_⟩⟩) (by rw [hsz]; omega) (by show (acc.push (Value.ref h.objs.size)).size ≤ sizeLine + 1; rw [Array.size_push, hsz]; omega)
    · refine List.pairwise_append.mpr ⟨hG.rise, List.pairwise_singleton _ _, fun x hx y hy => ?_⟩
      rw [List.mem_singleton.mp hy]
      exact hG.there hx
    · intro x hx
      rcases List.mem_append.mp hx with hx | hx
      · exact hG.above x hx
      · rw [List.mem_singleton.mp hx]; exact hSl
    · intro j x hj
      rcases Nat.lt_trichotomy j as.length with h1 | h1 | h1
      · rw [List.getElem?_append_left h1] at hj
        obtain ⟨u', v', e1, e2, e3⟩ := hG.pairs j x hj
        have hx := hG.above x (List.mem_of_getElem? hj)
        exact ⟨u', v', e1, e2, up x _ (Nat.ne_of_gt hx) (old x _ (out_of x hx) e3)⟩
      · subst h1
        have hb : h.objs.size = x := by simpa using hj
        subst hb
        exact ⟨u, v, by rw [hal]; exact eu, by rw [hal]; exact ev, up _ _ (Nat.ne_of_gt hSl) hT⟩
      · have hnone : (as ++ [h.objs.size])[j]? = none := List.getElem?_eq_none (by rw [List.length_append, List.length_singleton]; omega)
        rw [hnone] at hj; cases hj
theorem zn_is {i : Nat} (st : ZnAt a b z p q i1 i2 i s.heap) : s.TypeIs (.ref z) "zip" := by
  obtain ⟨f0, f1, sz, _⟩ := st
  exact ⟨_, sz, rfl⟩
theorem zl_extend {R : Result → Shared → Prop} (hh : A.handled = none) (D : ZipApart z p q i1 i2 a b) (hS : ∀ c ∈ mzF z p q i1 i2, c < S) (hSa : a < S) (hSb : b < S) (hn : min us.length vs.length ≤ sizeLine) (res : Value) (c₀ : Nat) (st : ZnAt a b z p q i1 i2 0 s.heap) (pa : IsTup s.heap a us.toArray) (pb : IsTup s.heap b vs.toArray)
    (hL : s.heap.get? S = some { cls := .type "list", data := .seq #[] c₀ })
    (hR : ∀ h' tk acc c as, (∀ x o, x ≠ S → x ∉ [z, q, i1, i2] → s.heap.get? x = some o → h'.get? x = some o) → h'.get? S = some { cls := .type "list", dict := none, data := .seq acc c, slots := #[] } → as.length = min us.length vs.length → ZlG us vs S h' as →
      acc.toList = as.map Value.ref → R (.ok (.ret res)) { s with heap := h', toks := tk }) :
    wpAny (model prog w) A.in1 (Builtin.List.listExtendWith (.ref S) (.ref z) res)
      (fun fin s' => match fin with | .done f => R (.ok f) s' | .again c' => c'.quiet = true ∧ codeAny (model prog w) A c' R s') (fun e s' => R (.error e) s') s := by
  have Sz : S ≠ z := Nat.ne_of_gt (hS z (by simp))
  have ty := zn_is st
  unfold Builtin.List.listExtendWith
  refine wpAny_bind (wpAny_typeOf (T := "zip") ty ?_)
  have h1 : Builtin.List.listSameRef (.ref S) (.ref z) = false := by simp [Builtin.List.listSameRef, Sz]
  have h2 : (Value.type "zip" == Value.type "list") = false := by decide
  have h3 : (Value.type "zip" == Value.type "tuple") = false := by decide
  simp only [h1, h2, h3, Bool.or_false, Bool.false_eq_true, if_false]
  have live := st
  obtain ⟨f0, f1, sz, _⟩ := st
  refine wpAny_bind (zn_iter sz ?_)
  refine wpAny_bind (wpAny_holding ?_)
  unfold Builtin.List.listLengthHint
  refine wpAny_bind (wpAny_specialOf ty zip_no_len ?_)
  show wpAny _ A.in1 (specialOf (Value.ref z) (Str.ofString "__length_hint__") >>= _) _ _ _
  refine wpAny_bind (wpAny_specialOf ty zip_no_hint ?_)
  refine wpAny_pure ?_
  show wpAny _ A.in1 (rule "list.extend.makes-room" >>= fun _ => Builtin.List.listTouch (.ref S) >>= fun _ => again (.builtin "list.extend.loop" ⟨[.ref S, .ref z, res], []⟩)) _ _ _
  refine wpAny_bind (wpAny_rule ?_)
  refine wpAny_bind ?_
  show wpAny _ A.in1 (updateSeq S (·.push .none) >>= fun _ => updateSeq S (·.pop)) _ _ _
  refine wpAny_bind (wpAny_updateSeq hL rfl ?_)
  have hS₂ := Heap.get?_update_self (Obj.mapSeq (·.push Value.none)) hL rfl
  refine wpAny_updateSeq (hz := by seq_fits) hS₂ rfl ?_
  have hS₃ := Heap.get?_update_self (Obj.mapSeq (·.pop)) hS₂ rfl
  have oth : ∀ x o, x ≠ S → s.heap.get? x = some o → ((s.heap.update S (Obj.mapSeq (·.push Value.none))).update S (Obj.mapSeq (·.pop))).get? x = some o :=
    fun x o hx e => (Heap.get?_update_other _ _ (Ne.symm hx)).trans ((Heap.get?_update_other _ _ (Ne.symm hx)).trans e)
  refine wpAny_pure ⟨plainId_quiet PySem.F.plain_extend_loop _, ?_⟩
  exact zl_loop (s := s) (h₁ := s.heap) hh D hS hSa hSb hn res hR _ 0 _ s.toks _ #[] [] rfl (Nat.zero_le _) (zn_keep live fun c m o e => oth c o (Nat.ne_of_lt (hS c m)) e) (tup_keep pa fun o e => oth a o (Nat.ne_of_lt hSa) e) (tup_keep pb fun o e => oth b o (Nat.ne_of_lt hSb) e)
    (fun x o h1 _ e => oth x o h1 e) hS₃ rfl rfl ⟨List.Pairwise.nil, (fun _ ha => nomatch ha), (fun j a hj => by simp at hj)⟩
theorem zl_call {Q : Value → Shared → Prop} (hh : A.handled = none) (D : ZipApart z p q i1 i2 a b) (hn : min us.length vs.length ≤ sizeLine) (st : ZnAt a b z p q i1 i2 0 s.heap) (pa : IsTup s.heap a us.toArray) (pb : IsTup s.heap b vs.toArray)
    (hQ : ∀ h' tk acc c as, (∀ x o, x ∉ [z, q, i1, i2] → s.heap.get? x = some o → h'.get? x = some o) → h'.get? s.heap.objs.size = some { cls := .type "list", dict := none, data := .seq acc c, slots := #[] } → as.length = min us.length vs.length → ZlG us vs s.heap.objs.size h' as →
      acc.toList = as.map Value.ref → Q (.ref s.heap.objs.size) { s with heap := h', toks := tk }) : wpAny (model prog w) A (call (.type "list") [.ref z]) Q E s := by
  refine callType_codes (Q₁ := fun obj s₁ => obj = .ref s.heap.objs.size ∧ s₁ = { s with heap := s.heap.push { cls := .type "list", data := .seq #[] } }) PySem.F.called_list (PySem.F.typeCall_list_1 _) PySem.F.entry_list_init
    (code_list_new _ ⟨rfl, rfl⟩) fun obj s₁ h₁ => ?_
  obtain ⟨rfl, rfl⟩ := h₁
  have hS : (s.heap.push { cls := .type "list", data := .seq #[] }).get? s.heap.objs.size = some { cls := .type "list", data := .seq #[] } := Heap.get?_push_size _ rfl
  have lt5 : ∀ c ∈ mzF z p q i1 i2, c < s.heap.objs.size := fun c m => let ⟨_, e, _⟩ := zn_obj st c m; Heap.lt_size e
  have alt : a < s.heap.objs.size := let ⟨_, e, _⟩ := pa; Heap.lt_size e
  have blt : b < s.heap.objs.size := let ⟨_, e, _⟩ := pb; Heap.lt_size e
  refine ⟨⟨_, hS, rfl⟩, PySem.F.args_list_init_2 _ _, ?_⟩
  show wpAny _ _ (do let old ← Builtin.List.listItems (.ref s.heap.objs.size); Builtin.List.listUpdate (.ref s.heap.objs.size) (fun _ => #[]); letGo old.toList.reverse; Builtin.List.listExtendWith (.ref s.heap.objs.size) (.ref z) .none) _ _ _
  refine wpAny_bind ?_
  unfold Builtin.List.listItems
  refine wpAny_bind (wpAny_seqItems hS rfl (wpAny_pure ?_))
  show wpAny _ _ (updateSeq s.heap.objs.size (fun _ => #[]) >>= fun _ => letGo (#[] : Array Value).toList.reverse >>= fun _ => Builtin.List.listExtendWith (.ref s.heap.objs.size) (.ref z) .none) _ _ _
  refine wpAny_bind (wpAny_updateSeq hS rfl ?_)
  have hS₂ := Heap.get?_update_self (Obj.mapSeq (fun _ => (#[] : Array Value))) hS rfl
  have oth : ∀ x o, s.heap.get? x = some o → ((s.heap.push { cls := .type "list", data := .seq #[] }).update s.heap.objs.size (Obj.mapSeq (fun _ => (#[] : Array Value)))).get? x = some o :=
    fun x o e => (Heap.get?_update_other _ _ (Ne.symm (Nat.ne_of_lt (Heap.lt_size e)))).trans (Heap.get?_push_of_some _ e)
  refine wpAny_bind (wpAny_letGo ?_)
  refine zl_extend (A := A.in1) hh D lt5 alt blt hn .none _ (zn_keep st fun c _ o e => oth c o e) (tup_keep pa fun o e => oth a o e) (tup_keep pb fun o e => oth b o e) hS₂ (fun h' tk acc c as hk hL hl hG hacc => ?_)
  exact ⟨rfl, hQ h' tk acc c as (fun x o hx e => hk x o (Nat.ne_of_lt (Heap.lt_size e)) hx (oth x o e)) hL hl hG hacc⟩
end
/-! its rule -/
def layT (H : Hp) : List (Addr × V × V) → Hp
  | [] => H
  | q :: r => layT (upd H q.1 (.tup [q.2.1, q.2.2])) r
theorem layT_out : ∀ {L : List (Addr × V × V)} {H : Hp} {x : Addr}, x ∉ L.map (·.1) → layT H L x = H x
  | [], _, _, _ => rfl
  | q :: L, H, x, h => by
    have h1 : x ≠ q.1 := fun e => h (by rw [e]; exact List.mem_cons_self ..)
    have h2 : x ∉ L.map (·.1) := fun m => h (List.mem_cons_of_mem _ m)
    show layT (upd H q.1 _) L x = _
    rw [layT_out h2, upd_ne h1]
section
variable {X : Cx}
theorem lay_inv {pins : List (Addr × Obj)} {σ : L2.St} {H0 : Hp} {s : Shared} {h' : Heap} {tk : Nat} (I0 : L2.Inv X pins σ H0 s) : ∀ (L : List (Addr × V × V)) (H1 : Hp), L2.Inv X pins σ H1 { s with heap := h', toks := tk } → (L.map (·.1)).Nodup →
    (∀ q ∈ L, s.heap.objs.size ≤ q.1 ∧ H1 q.1 = none ∧ ∃ u v, RelV q.2.1 u ∧ RelV q.2.2 v ∧ h'.get? q.1 = some { cls := .type "tuple", data := .seq #[u, v] }) → L2.Inv X pins σ (layT H1 L) { s with heap := h', toks := tk }
  | [], _, I1, _, _ => I1
  | q :: L, H1, I1, hn, h => by
    obtain ⟨hb, hnone, u, v, ru, rv, hg⟩ := h q (List.mem_cons_self ..)
    rw [List.map_cons, List.nodup_cons] at hn
    have ok : ∀ H2, ObjOk X.prog X.w H2 h' q.1 (.tup [q.2.1, q.2.2]) := fun H2 => ⟨show 2 ≤ sizeLine by decide, _, .cons ru (.cons rv .nil), ⟨_, hg, rfl, _, rfl⟩⟩
    have I2 : L2.Inv X pins σ (upd H1 q.1 (.tup [q.2.1, q.2.2])) { s with heap := h', toks := tk } := I1.take (h' := h') (t' := tk) (fun b ob _ e => e) (I0.fpOk hb hnone) (ok _)
    refine lay_inv I0 L _ I2 hn.2 fun r hr => ?_
    obtain ⟨c1, c2, c3⟩ := h r (List.mem_cons_of_mem _ hr)
    exact ⟨c1, by rw [upd_ne (show r.1 ≠ q.1 from fun e => hn.1 (by rw [← e]; exact List.mem_map_of_mem (f := (·.1)) hr))]; exact c2, c3⟩
theorem vals_get : ∀ {xs : List V} {us : List Value} {j : Nat} {x : V} {u : Value}, Vals xs us → xs[j]? = some x → us[j]? = some u → RelV x u
  | _, _, _, _, _, .nil, e, _ => by simp at e
  | _, _, 0, _, _, .cons h _, e1, e2 => by simp at e1 e2; subst e1; subst e2; exact h
  | _, _, j + 1, _, _, .cons _ h, e1, e2 => vals_get (j := j) h (by simpa using e1) (by simpa using e2)
def tListZip (K : PySem.W.Frag) (ta : TA) : TE := fun σ H Q => ta σ H fun vs H1 => ∃ (a b : Addr) (xs ys : List V), vs = [.ref a, .ref b] ∧ SqT K H1 a xs ∧ SqT K H1 b ys ∧
  ∀ (S : Addr) (ps : List Addr), ps.length = min xs.length ys.length → ps.Nodup → (∀ p ∈ ps, H1 p = none) → H1 S = none → S ∉ ps → Q (.ref S) (layT (upd H1 S (.lst (ps.map V.ref))) (ps.zip (xs.zip ys)))
variable {W : WX} {a b : Expr} {ta : TA} {p p2 q pos : Pos}
theorem pe_listZip (hc : X.calm = true) (hg : Gl X "list") (hm : X.mg "list" = none) (hg2 : Gl X "zip") (hm2 : X.mg "zip" = none) (ha : PA X [a, b] ta) (hs : starEach [a, b] X.env = (false, eval a X.env) :: starEach [b] X.env := by rfl) (hpl : (backTo q (starEach [b] X.env)).any (·.1) = false := by rfl)
    (na : starEach [.Call (.Name "zip" p2) [a, b] [] q] X.env = (false, eval (.Call (.Name "zip" p2) [a, b] [] q) X.env) :: starEach [] X.env := by rfl) :
    PE X (.Call (.Name "list" p) [.Call (.Name "zip" p2) [a, b] [] q] [] pos) (tListZip X.K ta) := by
  refine ⟨fun pins s σ H Q I h => ?_⟩
  refine Call_ (ld_blt I hg hm boot_list (PyProof.Rows.callWith_type1 (PyProof.Rows.args_cons ?_ na) na rfl))
  refine Call_ (ld_blt I hg2 hm2 PyProof.Rows.boot_zip (PyProof.Rows.callWith_type1 (thn (ha.run q pins s σ H _ I h) ?_) hs hpl))
  rintro us s1 ⟨vs, H1, I1, r1, a, b, xs, ys, rfl, qa, qb, q⟩
  cases r1 with
  | cons ra r1 =>
    cases r1 with
    | cons rb r1 =>
      cases r1
      cases ra
      cases rb
      obtain ⟨us, ru, pa, zu⟩ := I1.tuple qa
      obtain ⟨vs, rv, pb, zv⟩ := I1.tuple qb
      obtain ⟨oa, ea, _⟩ := id pa
      obtain ⟨ob, eb, _⟩ := id pb
      refine RZ.call_zipT pa pb fun h' z1 z2 z3 z4 z5 _ hk => PyProof.Rows.args_nil ?_
      have lu := ru.length
      have lv := rv.length
      refine zl_call (us := us) (vs := vs) (s := { s1 with heap := h' }) (I.ok.hd hc) (PySem.W.ktu_apart _ a b (Heap.lt_size ea) (Heap.lt_size eb)) (by omega) ⟨_, _, z1, .inl rfl, z2, ⟨_, _, z3⟩, z4, z5⟩ (tup_keep pa fun o e => hk a o e) (tup_keep pb fun o e => hk b o e) ?_
      intro h2 tk acc c as hkp hL hl hG hacc
      have z4 := Heap.lt_size z1
      have small : s1.heap.objs.size ≤ h'.objs.size := by omega
      have old : ∀ b o, s1.heap.get? b = some o → h2.get? b = some o := fun b o e => by
        refine hkp b o ?_ (hk b o e)
        have hb : b < s1.heap.objs.size := Heap.lt_size e
        intro m
        simp only [List.mem_cons, List.not_mem_nil, or_false] at m
        rcases m with e | e | e | e <;> (rw [e] at hb; exact absurd hb (Nat.not_lt.mpr (by first | exact Nat.le_add_right _ _ | exact Nat.le_refl _)))
      have hlen : (as.map V.ref).length ≤ sizeLine := by rw [List.length_map]; omega
      have vals : ∀ l : List Addr, Vals (l.map V.ref) (l.map Value.ref) := fun l => by
        induction l with
        | nil => exact .nil
        | cons x l ih => exact .cons rfl ih
      have I2 := I1.laid (t' := tk) (h' := h2) (a := h'.objs.size) (o := .lst (as.map V.ref)) old small ⟨hlen, acc.toList, c, by rw [hacc]; exact vals as, by rw [Array.toArray_toList]; exact hL⟩
      have hnd : as.Nodup := hG.rise.imp Nat.ne_of_lt
      have hS : h'.objs.size ∉ as := fun m => Nat.lt_irrefl _ (hG.above _ m)
      have fr : ∀ p ∈ as, H1 p = none := fun p m => I1.hok.fresh (by have : h'.objs.size < p := hG.above p m; omega)
      have hmin : as.length = min xs.length ys.length := by omega
      have mapz : (as.zip (xs.zip ys)).map (·.1) = as := by
        rw [List.map_fst_zip]
        rw [List.length_zip]; omega
      have I3 := lay_inv I1 (as.zip (xs.zip ys)) _ I2 (by rw [mapz]; exact hnd) (fun q hq => by
        obtain ⟨j, hj⟩ := List.mem_iff_getElem?.mp hq
        rw [List.getElem?_zip_eq_some] at hj
        obtain ⟨e1, e2⟩ := hj
        rw [List.getElem?_zip_eq_some] at e2
        obtain ⟨e2, e3⟩ := e2
        obtain ⟨u, v, f1, f2, f3⟩ := hG.pairs j _ e1
        have m : q.1 ∈ as := List.mem_of_getElem? e1
        refine ⟨Nat.le_trans small (Nat.le_of_lt (hG.above _ m)), ?_, u, v, vals_get ru e2 f1, vals_get rv e3 f2, f3⟩
        rw [upd_ne (show q.1 ≠ h'.objs.size from fun e => hS (e ▸ m))]
        exact fr _ m)
      exact ⟨.ref h'.objs.size, _, I3, rfl, q _ as hmin hnd fr (I1.hok.fresh small) hS⟩
end
/-! its run -/
theorem upd_comm {H : Hp} {p q : Addr} {o o' : HO} (h : p ≠ q) : upd (upd H p o) q o' = upd (upd H q o') p o := by
  funext x
  by_cases h1 : x = q
  · subst h1; rw [upd_same, upd_ne (Ne.symm h), upd_same]
  · by_cases h2 : x = p
    · subst h2; rw [upd_ne h1, upd_same, upd_same]
    · rw [upd_ne h1, upd_ne h2, upd_ne h2, upd_ne h1]
theorem lay_upd {S : Addr} {o : HO} : ∀ (L : List (Addr × V × V)) {H : Hp}, S ∉ L.map (·.1) → layT (upd H S o) L = upd (layT H L) S o
  | [], _, _ => rfl
  | q :: L, H, h => by
    have h1 : S ≠ q.1 := fun e => h (by rw [e]; exact List.mem_cons_self ..)
    show layT (upd (upd H S o) q.1 _) L = upd (layT (upd H q.1 _) L) S o
    rw [upd_comm h1, lay_upd L fun m => h (List.mem_cons_of_mem _ m)]
theorem grow_layT {F H : Hp} : ∀ (L : List (Addr × V × V)) {F1 H1 : Hp}, Grow F H F1 H1 → (L.map (·.1)).Nodup → (∀ q ∈ L, H1 q.1 = none) → Grow F H (layT F1 L) (layT H1 L)
  | [], _, _, g, _, _ => g
  | q :: L, F1, H1, g, hn, h => by
    rw [List.map_cons, List.nodup_cons] at hn
    refine grow_layT L (g.trans (Grow.new g.s (h q (List.mem_cons_self ..)))) hn.2 fun r hr => ?_
    rw [upd_ne (show r.1 ≠ q.1 from fun e => hn.1 (by rw [← e]; exact List.mem_map_of_mem (f := (·.1)) hr))]
    exact h r (List.mem_cons_of_mem _ hr)
theorem layT_at : ∀ (L : List (Addr × V × V)) {F : Hp}, (L.map (·.1)).Nodup → ∀ q ∈ L, layT F L q.1 = some (.tup [q.2.1, q.2.2])
  | r :: L, F, hn, q, hq => by
    rw [List.map_cons, List.nodup_cons] at hn
    rcases List.mem_cons.mp hq with rfl | hq
    · show layT (upd F q.1 _) L q.1 = _
      rw [layT_out hn.1, upd_same]
    · exact layT_at L hn.2 q hq
theorem df_zipL {K : PySem.W.Frag} {F : Hp} : ∀ {xs ys : List V} {ds es : List PyData} {ps : List Addr}, DfAll K F xs ds → DfAll K F ys es → ps.length = min xs.length ys.length → (∀ q ∈ ps.zip (xs.zip ys), F q.1 = some (.tup [q.2.1, q.2.2])) → DfAll K F (ps.map V.ref) (zipL ds es)
  | [], _, _, _, ps, .nil, _, l, _ => by
    cases ps with
    | nil => exact .nil
    | cons p ps => simp at l
  | _ :: _, [], _, _, ps, .cons _ _, .nil, l, _ => by
    cases ps with
    | nil => exact .nil
    | cons p ps => simp at l
  | _ :: _, _ :: _, _, _, [], .cons _ _, .cons _ _, l, _ => by simp at l <;> omega
  | x :: xs, y :: ys, _, _, p :: ps, .cons h1 h2, .cons g1 g2, l, h =>
    .cons (.tup (h (p, x, y) (by simp)) (.cons h1 (.cons g1 .nil))) (df_zipL h2 g2 (by simp at l; omega) fun q hq => h q (by rw [List.zip_cons_cons, List.zip_cons_cons]; exact List.mem_cons_of_mem _ hq))
def mListZip (ma mb : M PyData) : M T := bM ma fun d => bM mb fun e => bM (oM (zipTT d e)) fun ds => pM (.lst (ds.map .frz))
section
variable {X : Cx} {W : WX} {a b : Expr} {ma mb : M PyData} {p p2 q pos : Pos}
theorem vt_listZip (hc : X.calm = true) (hm : X.mg "list" = none) (hm2 : X.mg "zip" = none) (ha : VD X W a ma) (hb : VD X W b mb) (hg : Gl X "list" := by rfl) (hg2 : Gl X "zip" := by rfl)
    (hs : starEach [a, b] X.env = (false, eval a X.env) :: starEach [b] X.env := by rfl) (hs2 : starEach [b] X.env = (false, eval b X.env) :: starEach [] X.env := by rfl) (hpl : (backTo q (starEach [b] X.env)).any (·.1) = false := by rfl)
    (na : starEach [.Call (.Name "zip" p2) [a, b] [] q] X.env = (false, eval (.Call (.Name "zip" p2) [a, b] [] q) X.env) :: starEach [] X.env := by rfl) :
    VT X W (.Call (.Name "list" p) [.Call (.Name "zip" p2) [a, b] [] q] [] pos) (mListZip ma mb) := by
  obtain ⟨ta, pa, sa⟩ := ha
  obtain ⟨tb, pb, sb⟩ := hb
  refine ⟨_, pe_listZip hc hg hm hg2 hm2 (pa_cons pa (pa_cons pb pa_nil hs2) hs) hs hpl na, fun Γ σ F H O Q k h => sa Γ σ F H O _ k ?_⟩
  unfold mListZip at h
  refine HitT.bindN h fun d Γ1 v F1 H1 O1 k1 r s1 h1 => sb Γ1 σ F1 H1 O1 _ k1 ?_
  refine HitT.bindN h1 fun e Γ2 v2 F2 H2 O2 k2 r2 s2 h2 => ?_
  have r := Df.mono s2.f _ _ r
  unfold oM zipTT at h2
  cases d with
  | tuple ds =>
    cases r with
    | tup a1 a2 =>
      cases e with
      | tuple es =>
        cases r2 with
        | tup b1 b2 =>
          refine ⟨_, _, _, _, rfl, tupT k2.sub a1, tupT k2.sub b1, fun S ps hl hnd hf hS hSn => ?_⟩
          have mapz : ∀ xs ys : List V, ps.length = min xs.length ys.length → (ps.zip (xs.zip ys)).map (·.1) = ps := fun xs ys hl => by
            rw [List.map_fst_zip]
            rw [List.length_zip]; omega
          have nd := hnd
          rw [← mapz _ _ hl] at nd
          have g := grow_layT _ (Grow.refl k2.sub) nd fun q hq => hf _ (List.of_mem_zip hq).1
          rw [lay_upd _ (by rw [mapz _ _ hl]; exact hSn)]
          refine HitT.newL (o := []) (HitT.trans h2 g.step) (k2.grow g) ?_ (of_ice (df_zipL (DfAll.mono g.f _ _ a2) (DfAll.mono g.f _ _ b2) hl fun q hq => layT_at _ nd q hq)) (k2.grow g).nd (fun _ m => nomatch m)
          rw [layT_out (by rw [mapz _ _ hl]; exact hSn)]
          exact hS
      | _ => exact h2.elim
  | _ => cases e <;> exact h2.elim
end
end TW

/-! try: ..; except X as e: y = e -/
namespace TW
open PySem PySem.Spec PyProof.Rows L2
theorem exT_ok {P : Program} {w : World} {H : Hp} {h : Heap} {a : Addr} {cls : Value} {oe : Obj} (e : h.get? a = some oe) (z : Zc cls none oe) (d : ∃ vs, oe.data = .fields vs) : ObjOk P w H h a (ExT cls a) := by
  obtain ⟨vs, d⟩ := d
  exact ⟨⟨oe, vs, e, z, d⟩, ⟨oe, e⟩, fun _ _ ⟨o, v, q, r⟩ k => ⟨o, v, k o q, r⟩⟩
section
variable {X : Cx} {pins : List (Addr × Obj)} {σ : L2.St} {H : Hp} {s : Shared}
/-- a pinned exception is tracked -/
theorem inv_track {a : Addr} {oe : Obj} {cls : Value} (I : Inv X ((a, oe) :: pins) σ H s) (n0 : X.s_0.heap.get? a = none) (hz : Zc cls none oe) (hd : ∃ vs, oe.data = .fields vs) (hp : ∀ p ∈ X.pn ++ pins, p.1 ≠ a) :
    Inv X pins σ (upd H a (ExT cls a)) s := by
  obtain ⟨ea, na, nL, nF, nC⟩ := I.pin (a, oe) (List.mem_append_right _ (List.mem_cons_self ..))
  refine ⟨I.ok, I.os, I.bare, ⟨I.base.keep, I.base.slot, fun b o e n hx => ?_, I.base.there, fun b xs e => ?_, fun b o u e => ?_, fun b ps e => ?_⟩, I.loc, I.cell, ?_, fun x c e => ?_, fun p m => ?_, fun b u e => ?_, I.len⟩
  · rw [upd_ne (show b ≠ a from fun z => by rw [z, n0] at e; cases e)]
    exact I.base.free b o e n hx
  · have q := I.base.tups b xs e
    rw [upd_ne (ne_of_none q na)]; exact q
  · have q := I.base.frzs b o u e
    rw [upd_ne (ne_of_none q na)]; exact q
  · obtain ⟨m, q⟩ := I.base.tbls b ps e
    exact ⟨m, by rw [upd_ne (ne_of_none q na)]; exact q⟩
  · rw [upd_ne (Ne.symm nL)]; exact I.free
  · rw [upd_ne (show c ≠ a from fun z => by
      obtain ⟨v, o, ho, hv⟩ := I.cell x c e
      rw [z] at ho
      rw [ea] at ho
      cases ho
      exact nC v hv)]
    exact I.freeC x c e
  · have m' : p ∈ X.pn ++ (a, oe) :: pins := by
      rcases List.mem_append.mp m with m | m
      · exact List.mem_append_left _ m
      · exact List.mem_append_right _ (List.mem_cons_of_mem _ m)
    obtain ⟨e, n, r⟩ := I.pin p m'
    exact ⟨e, by rw [upd_ne (hp p m)]; exact n, r⟩
  · by_cases hb : b = a
    · subst hb
      rw [upd_same] at e
      cases e
      exact exT_ok ea hz hd
    · rw [upd_ne hb] at e
      exact (I.hok b u e).stay (fun _ _ _ q => q) (fun c q => by rw [upd_ne (ne_of_none q na)]; exact q) fun c xs q => by rw [upd_ne (ne_of_none q na)]; exact q
end
def excD (c : Str) : PyData := .dict [(.str c, .none)]
/-- the body, or the exception that it raises stored in slot j; slot i goes -/
def mTryK (i j : Nat) (tbl : List Str) (mb : MS) : MS := fun Γ => match mb Γ with
  | some (.ex c Γ') => if c ∈ tbl then (storeG j (.frz (excD c)) Γ').map fun Γ2 => .nx (Γ2.set i none) else none
  | r => r
section
variable {X : Cx} {Wout : WX} {io : List Nat} {x n y : Str} {body : List Stmt} {mb : MS} {cT : Value} {tbl : List Str} {np yp ep ap pos pos' : Pos}
theorem vs_tryk (i j : Nat) (hN : X.N.Nodup) (hc : Names X x cT) (hex : ∀ c ∈ tbl, PySem.W.exmOne X.K (.ref (He.ga X.K c)) cT = some true)
    (hb : ∀ (W : WX) (pn : List (Addr × Obj)) (xe : Value → Shared → Prop), Takes (X.tr pn xe) W → PassesOwn (model X.prog X.w) X.A X.env xe → VSs (X.tr pn xe) W io body mb)
    (hx : X.ex = [] := by rfl) (hs : X.stack = X.env :: X.outer := by rfl) (hf : X.env.frame = some X.env.locals := by rfl) (hi : X.N[i]? = some n := by rfl) (hln : X.env.kindOf n = some .local := by rfl) (hj : X.N[j]? = some y := by rfl) (hlj : X.env.kindOf y = some .local := by rfl) (hij : i ≠ j := by decide)
    (hio : i ∉ io := by decide) (hjo : j ∉ io := by decide) (hvis : Vis X.env.scope n := by first | exact Or.inl rfl | exact Or.inr (Or.inl rfl) | exact Or.inr (Or.inr rfl)) (hdb : (n == ("__debug__" : Str)) = false := by decide) (hcd : (n == ("__classdict__" : Str)) = false := by decide) :
    VS X Wout io (.Try body [.ExceptHandler (some (.Name x np)) (some n) [.Assign [.Name y yp] (.Name n ep) ap] pos'] [] [] pos) (mTryK i j tbl mb) := by
  refine ⟨fun D σ H => ∃ Γ F O, Ok X.K F H Γ σ O ∧ HitS X.K Wout io (mTryK i j tbl mb Γ) D σ F H O, ⟨fun pins s σ H D I hh => ?_⟩, fun Γ σ F H O D k h => ⟨Γ, F, O, k, h⟩⟩
  obtain ⟨Γ, F, O, k, h⟩ := hh
  have ok := I.ok
  have hfr : X.A.frames = some (X.env :: X.outer) := by rw [ok.frames, hs]
  refine wpAny_Try_except ?_
  let Wc : WX := fun cls d σ' H' => d = none ∧ ∃ c Γ' F' O' Γ2, c ∈ tbl ∧ cls = .ref (He.ga X.K c) ∧ storeG j (.frz (excD c)) Γ' = some Γ2 ∧ Ok X.K F' H' Γ' σ' O' ∧ Step F H O F' H' O' ∧ Keeps io σ σ' ∧
    ∀ σ2 F2 H2 O2, Ok X.K F2 H2 (Γ2.set i none) σ2 O2 → Step F H O F2 H2 O2 → Keeps io σ σ2 → D.nx σ2 H2
  let xc : Value → Shared → Prop := fun e s₁ => wpAny (model X.prog X.w) X.A (noteFrame e X.env) (fun _ s₂ => wpAny (model X.prog X.w) X.A (setFlight e none) (fun _ s₃ =>
    wpAny (model X.prog X.w) X.A (handleBy e X.env [.ExceptHandler (some (.Name x np)) (some n) [.Assign [.Name y yp] (.Name n ep) ap] pos']) (SP X pins D) X.xe s₃) X.xe s₂) X.xe s₁
  have caught : Takes (X.tr (X.pn ++ pins) xc) Wc := by
    intro u s' xx
    obtain ⟨a, B, sI, pins', σ', H', cls, d, rfl, J', nb, up, sky, na, os, ag, rfl, c, Γ', F', O', Γ2, hm, rfl, est, k', st', g', fin⟩ := xx
    have J : L2.Inv X pins σ' H' sI := J'.ofTry ok
    have sky2 : Sky B (X.env :: X.outer) a (Zc (.ref (He.ga X.K c)) none) X.env.locals s'.heap := by rw [← hs]; exact sky
    show wpAny (model X.prog X.w) X.A (noteFrame (.ref a) X.env) _ _ _
    refine Sky.land Zc.steady hfr hf sky2 fun h3 fl3 up3 => ?_
    have J3 : L2.Inv X pins σ' H' { s' with heap := h3 } := J.landed nb fl3.1 (up.trans up3) os ag
    obtain ⟨oe3, vs3, he3, hz3, hd3⟩ := fl3.there
    have nfr : a ∉ frs (X.env :: X.outer) := fun hm => by
      obtain ⟨_, o', e', hnf⟩ := fl3.2.2.1.mem hm
      rw [he3] at e'; cases e'
      exact hnf _ hd3
    have nL : a ≠ X.env.locals := fun z => nfr (List.mem_filterMap.mpr ⟨X.env, List.mem_cons_self, by rw [hf, z]⟩)
    have nF : a ∉ X.fs := fun hm => by
      obtain ⟨e, he, q⟩ := List.mem_filterMap.mp hm
      exact nfr (List.mem_filterMap.mpr ⟨e, List.mem_cons_of_mem _ he, q⟩)
    have bn : B.get? a = none := fl3.2.1
    have sn : sI.heap.get? a = none := by
      cases e : sI.heap.get? a with
      | none => rfl
      | some o =>
        have := nb a o e (by rw [hs]; exact nfr)
        rw [bn] at this
        cases this
    have n0 : X.s_0.heap.get? a = none := by
      cases e : X.s_0.heap.get? a with
      | none => rfl
      | some o =>
        obtain ⟨o', q⟩ := J.base.there a o e (by rw [hx]; exact List.not_mem_nil)
        rw [sn] at q
        cases q
    have hp : ∀ p ∈ X.pn ++ pins, p.1 ≠ a := fun p m z => by
      have := (J.pin p m).1
      rw [z, sn] at this
      cases this
    refine wpAny_handleBy_cons (codeAny_handlers_test ?_) (by intro q; cases q)
    have LT : PySem.W.Looks (model X.prog X.w) h3 (typeOf (.ref a)) (.ref (He.ga X.K c)) := fun A Q E s k q => wpAny_typeOf_ref (k _ _ he3) (by rw [hz3.1]; exact q)
    have LM := PySem.W.exm_one (M := model X.prog X.w) (J3.kIn) LT (hex c hm)
    have test : ∀ {Q : Value → Shared → Prop} {E : Value → Shared → Prop}, Q cT { s' with heap := h3 } → wpAny (model X.prog X.w) (X.A.mark (some (.ref a))) (eval (.Name x np) X.env) Q E { s' with heap := h3 } := fun {Q E} q => by
      have S3 := J3.suite he3 hd3 na nL nF
      obtain ⟨hg, hdbg, hm | ⟨hm, hv, hnn⟩⟩ := hc
      · exact ld_glob (X := X.suite a ((a, oe3) :: (X.pn ++ pins))) S3 hg hm q hdbg
      · exact ld_blt (X := X.suite a ((a, oe3) :: (X.pn ++ pins))) S3 hg hm hv q hnn hdbg
    refine test (LM.here ?_)
    refine codeAny_handlers_suite_as ?_
    refine HandSPX.lands_againZ fl3 fun h4 fl4 up4 => ?_
    have J4 : L2.Inv X pins σ' H' { s' with heap := h4 } := J.landed nb fl4.1 ((up.trans up3).trans up4) os ag
    obtain ⟨oe4, vs4, he4, hz4, hd4⟩ := fl4.there
    have S4 := J4.suite he4 hd4 na nL nF
    refine store_ok (X := X.suite a ((a, oe4) :: (X.pn ++ pins))) (v := .ref a) S4 hN hi (.inl hln) rfl (fun s5 S5 => ?_) (.inr hln)
    have lenσ : i < σ'.length := by rw [J.len]; exact (List.getElem?_eq_some_iff.mp hi).1
    have suite : PSs (X.suite a ((a, oe4) :: (X.pn ++ pins))) [.Assign [.Name y yp] (.Name n ep) ap] _ := pss_one (ps_set hN hj (.inl hlj) (pe_var hi hvis hdb hcd) rfl (.inr hlj))
    refine wpAny_mono (suite.run [] s5 _ H' { nx := fun σ6 H6 => σ6 = (σ'.set i (some (.ref a))).set j (some (.ref a)) ∧ H6 = H', rt := fun _ _ => False } S5 ⟨.ref a, by rw [List.getElem?_set_self lenσ], rfl, rfl⟩) (fun f s6 hsp => ?_) (fun _ _ z => False.elim z)
    cases f with
    | next =>
      obtain ⟨σ6, H6, S6, rfl, rfl⟩ := hsp
      have J6 : L2.Inv X ((a, oe4) :: pins) ((σ'.set i (some (.ref a))).set j (some (.ref a))) H6 s6 := ⟨ok, S6.os, S6.bare, S6.base, S6.loc, S6.cell, S6.free, S6.freeC, fun p hp => S6.pin p (by
        rw [List.append_nil]
        rcases List.mem_append.mp hp with m | m
        · exact List.mem_cons_of_mem _ (List.mem_append_left _ m)
        · rcases List.mem_cons.mp m with e | m
          · rw [e]; exact List.mem_cons_self ..
          · exact List.mem_cons_of_mem _ (List.mem_append_right _ m)), S6.hok, S6.len⟩
      refine gone_ok J6 hN hi hln fun s7 J7 => ?_
      have J8 := inv_track J7 n0 hz4 ⟨_, hd4⟩ hp
      rw [List.set_comm _ _ hij, List.set_set] at J8
      have g := Grow.new (o := ExT (.ref (He.ga X.K c)) a) k'.sub na
      have k1 := k'.grow g
      unfold storeG at est
      split at est
      · rename_i hlt
        cases est
        obtain ⟨O2, k2, s2⟩ := k1.put (t := .frz (excD c)) (v := .ref a) (o := []) hlt (by unfold RepT; exact ⟨.exn upd_same, rfl⟩) k1.nd (fun _ m => nomatch m)
        obtain ⟨O3, k3, s3⟩ := k2.drop i none
        exact ⟨_, _, J8, fin _ _ _ O3 k3 (((st'.trans g.step).trans s2).trans s3) ((g'.trans (Keeps.set hjo)).trans (Keeps.set hio))⟩
      · cases est
    | brk =>
      obtain ⟨_, _, _, z⟩ := hsp
      exact z.elim
    | cont =>
      obtain ⟨_, _, _, z⟩ := hsp
      exact z.elim
    | ret u =>
      obtain ⟨_, _, _, _, _, z⟩ := hsp
      exact z.elim
  obtain ⟨tb, pb, sb⟩ := hb Wc (X.pn ++ pins) xc caught PassesOwn.looking
  have hit : HitS X.K Wc io (mb Γ) D σ F H O := by
    unfold mTryK at h
    match q : mb Γ, h with
    | some (.nx Γ'), h => exact h
    | some (.bk Γ'), h => exact h
    | some (.ct Γ'), h => exact h
    | some (.rt t Γ'), h => exact h
    | some (.ex c Γ'), h =>
      dsimp only at h
      split at h
      · rename_i hm
        cases e : storeG j (.frz (excD c)) Γ' with
        | none => rw [e] at h; exact h.elim
        | some Γ2 =>
          rw [e] at h
          exact fun σ' F' H' O' k' s' g' => ⟨rfl, c, Γ', F', O', Γ2, hm, rfl, e, k', s', g', h⟩
      · exact h.elim
  refine wpAny_mono (pb.run [] s σ H D (I.toTry _) (sb Γ σ F H O D k hit)) (fun f s1 hsp => ?_) (fun e s1 he => he)
  cases f with
  | next =>
    obtain ⟨σ', H', J', q⟩ := hsp
    exact wpAny_execs_nil ⟨σ', H', J'.ofTry ok, q⟩
  | brk =>
    obtain ⟨σ', H', J', q⟩ := hsp
    exact ⟨σ', H', J'.ofTry ok, q⟩
  | cont =>
    obtain ⟨σ', H', J', q⟩ := hsp
    exact ⟨σ', H', J'.ofTry ok, q⟩
  | ret u =>
    obtain ⟨v, σ', H', J', r, q⟩ := hsp
    exact ⟨v, σ', H', J'.ofTry ok, r, q⟩
end
end TW

/-! isinstance of a caught exception -/
namespace TW
open PySem PySem.Spec PyProof.Rows L2
/-- a class by its name -/
inductive Cn where
  | own (x : Str)
  | blt (n : String)
def Cn.u (K : PySem.W.Frag) : Cn → Value
  | .own x => .ref (He.ga K x)
  | .blt n => .type n
def Cn.v (K : PySem.W.Frag) : Cn → V
  | .own x => .ref (He.ga K x)
  | .blt n => .ty n
theorem cn_cls {K : PySem.W.Frag} (c : Cn) : ClsV (c.v K) (c.u K) := by
  cases c with
  | own x => exact .own _
  | blt n => exact .ty n
theorem cn_all {K : PySem.W.Frag} : ∀ cs : List Cn, Paired ClsV (cs.map (Cn.v K)) (cs.map (Cn.u K))
  | [] => .nil
  | c :: cs => .cons (cn_cls c) (cn_all cs)
def excCB (K : PySem.W.Frag) (D : Addr) : Bool :=
  decide (PySem.W.findIn K (.ref D) "__getattribute__" = some (some (.builtin "BaseException.__getattribute__"))) && (decide (PySem.W.findIn K (.ref D) "__getattr__" = some none) && (decide (PySem.W.subIn K (.ref D) (.type "BaseException") = some true) &&
  (PySem.W.hasDictIn K D && (decide (PySem.W.findIn K (.ref D) "__class__" = some (some (.builtin "object.__class__"))) && (decide (PySem.W.specialIn K (.builtin "object.__class__") "__get__" = some (some (.builtin "getset_descriptor.__get__"))) &&
  (decide (PySem.W.takesIn K (.builtin "object.__class__") = some true) && decide (PySem.W.mroIn K D (.type "object") = some true)))))))
theorem excCB_ok {K : PySem.W.Frag} {D : Addr} (h : excCB K D = true) : ExcC K D := by
  unfold excCB at h
  simp only [Bool.and_eq_true, decide_eq_true_eq] at h
  obtain ⟨h1, h2, h3, h4, h5, h6, h7, h8⟩ := h
  exact ⟨h1, h2, h3, h4, h5, h6, h7, h8⟩
/-- isinstance's answers for some classes of exceptions -/
def excTB (K : PySem.W.Frag) (tbl : List (Str × Bool)) (cs : List Cn) : Bool := tbl.all fun p => excCB K (He.ga K p.1) && decide (PySem.W.kitAny K (.ref (He.ga K p.1)) (cs.map (Cn.u K)) = some p.2)
def excOB (K : PySem.W.Frag) (tbl : List (Str × Bool)) (c : Cn) : Bool := tbl.all fun p => excCB K (He.ga K p.1) && decide (PySem.W.kitOne K (.ref (He.ga K p.1)) (c.u K) = some p.2)
theorem tbl_at {tbl : List (Str × Bool)} {P : Str → Bool → Prop} (h : ∀ p ∈ tbl, P p.1 p.2) {c : Str} {b : Bool} (e : tbl.lookup c = some b) : P c b := by
  induction tbl with
  | nil => cases e
  | cons q tbl ih =>
    obtain ⟨k, v⟩ := q
    rw [List.lookup_cons] at e
    split at e
    · rename_i z
      cases e
      rw [eq_of_beq z]
      exact h (k, b) (List.mem_cons_self ..)
    · exact ih (fun p m => h p (List.mem_cons_of_mem _ m)) e
theorem excTB_ok {K : PySem.W.Frag} {tbl : List (Str × Bool)} {cs : List Cn} (h : excTB K tbl cs = true) {c : Str} {b : Bool} (e : tbl.lookup c = some b) : ExcC K (He.ga K c) ∧ PySem.W.kitAny K (.ref (He.ga K c)) (cs.map (Cn.u K)) = some b := by
  unfold excTB at h
  rw [List.all_eq_true] at h
  refine tbl_at (P := fun c b => ExcC K (He.ga K c) ∧ PySem.W.kitAny K (.ref (He.ga K c)) (cs.map (Cn.u K)) = some b) (fun p m => ?_) e
  have := h p m
  rw [Bool.and_eq_true, decide_eq_true_eq] at this
  exact ⟨excCB_ok this.1, this.2⟩
theorem excOB_ok {K : PySem.W.Frag} {tbl : List (Str × Bool)} {d : Cn} (h : excOB K tbl d = true) {c : Str} {b : Bool} (e : tbl.lookup c = some b) : ExcC K (He.ga K c) ∧ PySem.W.kitOne K (.ref (He.ga K c)) (d.u K) = some b := by
  unfold excOB at h
  rw [List.all_eq_true] at h
  refine tbl_at (P := fun c b => ExcC K (He.ga K c) ∧ PySem.W.kitOne K (.ref (He.ga K c)) (d.u K) = some b) (fun p m => ?_) e
  have := h p m
  rw [Bool.and_eq_true, decide_eq_true_eq] at this
  exact ⟨excCB_ok this.1, this.2⟩
/-- a clause takes these -/
def exmTB (K : PySem.W.Frag) (tbl : List Str) (x : Str) : Bool := tbl.all fun c => decide (PySem.W.exmOne K (.ref (He.ga K c)) (.ref (He.ga K x)) = some true)
theorem exmTB_ok {K : PySem.W.Frag} {tbl : List Str} {x : Str} (h : exmTB K tbl x = true) : ∀ c ∈ tbl, PySem.W.exmOne K (.ref (He.ga K c)) (.ref (He.ga K x)) = some true := fun c m => of_decide_eq_true (List.all_eq_true.mp h c m)
section
variable {X : Cx}
theorem ext_at {pins : List (Addr × Obj)} {σ : L2.St} {H : Hp} {s : Shared} {a D : Addr} (I : L2.Inv X pins σ H s) (h : H a = some (ExT (.ref D) a)) : ∃ oe, PySem.W.InstAt s.heap a oe D none := by
  obtain ⟨⟨oe, vs, hget, hz, hv⟩, _, _⟩ := (show ObjOk X.prog X.w H s.heap a (ExT (.ref D) a) from I.hok a _ h)
  refine ⟨oe, ?_⟩
  obtain ⟨oc, od, oda, osl⟩ := oe
  obtain ⟨h1, h2⟩ := hz
  dsimp only at h1 h2 hv
  subst h1 h2 hv
  exact ⟨hget, rfl, rfl, trivial⟩
def rIsX (K : PySem.W.Frag) : List V → Hp → VK → Prop := fun xs H Q => ∃ (a D : Addr) (d : Cn) (b : Bool), xs = [.ref a, d.v K] ∧ H a = some (ExT (.ref D) a) ∧ ExcC K D ∧ PySem.W.kitOne K (.ref D) (d.u K) = some b ∧ Q (.bl b) H
theorem call_isX : CallR X (.builtin "isinstance") (rIsX X.K) := by
  intro pins s σ H xs us Q I r h
  obtain ⟨a, D, d, b, rfl, ha, C, e, q⟩ := h
  obtain ⟨u1, u2, rfl, r1, r2⟩ := vals2 r
  have e2 := (cn_cls (K := X.K) d).eq r2
  subst e2
  cases (show u1 = Value.ref a from r1)
  obtain ⟨oe, J⟩ := ext_at I ha
  exact PySem.W.kia_one (PySem.W.handS_kitx_exc C.hg C.hk C.hs C.hd C.ha C.hn C.ht C.hm) I.kIn J e (fun z => nomatch z) fun tk => ⟨.bl b, H, I.tok tk, rfl, q⟩
def rIsXT (K : PySem.W.Frag) : List V → Hp → VK → Prop := fun xs H Q => ∃ (a D tp : Addr) (cs : List Cn) (b : Bool), xs = [.ref a, .ref tp] ∧ H a = some (ExT (.ref D) a) ∧ H tp = some (.tup (cs.map (Cn.v K))) ∧ ExcC K D ∧ PySem.W.kitAny K (.ref D) (cs.map (Cn.u K)) = some b ∧ Q (.bl b) H
theorem call_isXT : CallR X (.builtin "isinstance") (rIsXT X.K) := by
  intro pins s σ H xs us Q I r h
  obtain ⟨a, D, tp, cs, b, rfl, ha, hT, C, e, q⟩ := h
  obtain ⟨u1, u2, rfl, r1, r2⟩ := vals2 r
  cases (show u2 = Value.ref tp from r2)
  cases (show u1 = Value.ref a from r1)
  obtain ⟨oe, J⟩ := ext_at I ha
  obtain ⟨_, its, rv, o, h1, h2, n, h3⟩ := (show ObjOk X.prog X.w H s.heap tp (.tup (cs.map (Cn.v X.K))) from I.hok tp _ hT)
  have e3 := ClsV.all (cn_all cs) rv
  subst e3
  obtain ⟨oc, od, dt, sl⟩ := o
  simp only at h2 h3
  subst h2 h3
  exact PySem.W.kia_tup (PySem.W.handS_kitx_exc C.hg C.hk C.hs C.hd C.ha C.hn C.ht C.hm) I.kIn J h1 e (fun z => nomatch z) fun tk => ⟨.bl b, H, I.tok tk, rfl, q⟩
/-- names of classes -/
def PAc (X : Cx) (es : List Expr) (cs : List Cn) : Prop := PA X es (fun _ H Q => Q (cs.map (Cn.v X.K)) H)
def PEc (X : Cx) (e : Expr) (c : Cn) : Prop := PE X e (tC (c.v X.K))
variable {x : Str} {n : String} {p pos q tp : Pos} {es : List Expr} {cs : List Cn} {e f : Expr} {c : Cn} {kk : Nat}
theorem pec_own (hm : X.mg x = some (.ref (He.ga X.K x))) (hg : Gl X x := by rfl) (hd : (x == ("__debug__" : Str)) = false := by decide) : PEc X (.Name x p) (.own x) := pe_glob hg hm rfl hd
theorem pec_blt (hm : X.mg x = none) (hv : bootBuiltins x = some (.type n)) (hg : Gl X x := by rfl) (hn : x ≠ "__name__" := by decide) (hd : (x == ("__debug__" : Str)) = false := by decide) : PEc X (.Name x p) (.blt n) := pe_bltn hg hm hv rfl hn hd
theorem pac_nil : PAc X [] [] := pa_nil
theorem pac_cons (h : PEc X e c) (t : PAc X es cs) (hst : starEach (e :: es) X.env = (false, eval e X.env) :: starEach es X.env := by rfl) : PAc X (e :: es) (c :: cs) := pa_cons h t hst
/-- its answer, by the exception's class -/
def excF (tbl : List (Str × Bool)) : PyData → Option PyData
  | .dict [(.str c, .none)] => (tbl.lookup c).map .bool
  | _ => none
theorem excF_some {K : PySem.W.Frag} {F : Hp} {tbl : List (Str × Bool)} {d d' : PyData} {v : V} (h : excF tbl d = some d') (r : Df K F v d) : ∃ c b a, tbl.lookup c = some b ∧ d' = .bool b ∧ v = .ref a ∧ F a = some (ExT (.ref (He.ga K c)) a) := by
  unfold excF at h
  split at h
  · rename_i c
    obtain ⟨b, e1, rfl⟩ := Option.map_eq_some_iff.mp h
    cases r with
    | exn q => exact ⟨c, b, _, e1, rfl, rfl, q⟩
  · cases h
variable {W : WX} {m : M PyData} {tbl : List (Str × Bool)}
theorem vd_isX (hm : X.mg "isinstance" = none) (ht : excOB X.K tbl c = true) (hc : PEc X f c) (h : VD X W e m) (hg : Gl X "isinstance" := by rfl)
    (hst : starEach [e, f] X.env = (false, eval e X.env) :: starEach [f] X.env := by rfl) (hst2 : starEach [f] X.env = (false, eval f X.env) :: starEach [] X.env := by rfl) :
    VD X W (.Call (.Name "isinstance" p) [e, f] [] pos) (mC1 (excF tbl) m) := by
  obtain ⟨t, pe, s⟩ := h
  refine ⟨_, pe_callB call_isX hg hm (by decide +kernel) (pa_cons pe (pa_cons hc pa_nil hst2) hst) (by decide) (by decide) hst (by rw [hst2] <;> rfl), fun Γ σ F H O Q k h => s Γ σ F H O _ k ?_⟩
  unfold mC1 at h
  refine HitN.bind h fun d Γ1 v F1 H1 O1 k1 r1 s1 h1 => ?_
  obtain ⟨d', e', q⟩ := HitN.fin h1 k1
  obtain ⟨c', b, a, e1, rfl, rfl, ha⟩ := excF_some e' r1
  obtain ⟨C, ek⟩ := excOB_ok ht e1
  exact ⟨a, _, c, b, rfl, k1.sub _ _ ha, C, ek, q _ F1 H1 (Grow.refl k1.sub) (.bl _)⟩
theorem vd_isXT (hm : X.mg "isinstance" = none) (ht : excTB X.K tbl cs = true) (hc : PAc X es cs) (hl : cs.length ≤ sizeLine) (h : VD X W e m) (hg : Gl X "isinstance" := by rfl)
    (hst : starEach [e, .Tuple es kk tp] X.env = (false, eval e X.env) :: starEach [.Tuple es kk tp] X.env := by rfl) (hst2 : starEach [.Tuple es kk tp] X.env = (false, eval (.Tuple es kk tp) X.env) :: starEach [] X.env := by rfl) :
    VD X W (.Call (.Name "isinstance" p) [e, .Tuple es kk tp] [] pos) (mC1 (excF tbl) m) := by
  obtain ⟨t, pe, s⟩ := h
  refine ⟨_, pe_callB call_isXT hg hm (by decide +kernel) (pa_cons pe (pa_cons (pe_tup hc) pa_nil hst2) hst) (by decide) (by decide) hst (by rw [hst2] <;> rfl), fun Γ σ F H O Q k h => s Γ σ F H O _ k ?_⟩
  unfold mC1 at h
  refine HitN.bind h fun d Γ1 v F1 H1 O1 k1 r1 s1 h1 => ?_
  obtain ⟨d', e', q⟩ := HitN.fin h1 k1
  obtain ⟨c', b, a, e1, rfl, rfl, ha⟩ := excF_some e' r1
  obtain ⟨C, ek⟩ := excTB_ok ht e1
  refine ⟨by rw [List.length_map]; exact hl, fun T hT => ?_⟩
  have same : Same F1 (upd H1 T (.tup (cs.map (Cn.v X.K)))) := k1.sub.trans (same_upd hT)
  exact ⟨a, _, T, cs, b, rfl, same _ _ ha, upd_same, C, ek, q _ _ _ (Grow.new k1.sub hT) (.bl _)⟩
end
end TW
/-! a call without arguments -/
namespace TW
open PySem PySem.Spec PyProof.Rows L2
section
variable {X : Cx} {W : WX} {pos p : Pos} {x : Str}
theorem pe_callS0 {CX : CXT} {k : Nat} {f : Addr} {fd : FuncData} {ps : List Str} {sp : Sp} {E : L2.St → XK} (F : FnOkG X.prog X.w X.K X.mg X.base CX k f fd ps sp) (hr : RoomG k X.A) (hg : Gl X x) (hm : X.mg x = some (.ref f)) (hk : PySem.W.keepIn X.K (.ref f) = true) (hb : Binds X.K fd ps []) (hx : ∀ σ, PassesAt CX X σ (E σ))
    (hdb : (x == ("__debug__" : Str)) = false := by decide) : PE X (.Call (.Name x p) [] [] pos) (tCallS sp E tNil) := by
  refine ⟨fun pins s σ H Q I h => ?_⟩
  refine wpAny_Call_Name_kw (ld_glob I hg hm ?_ hdb)
  exact PySem.W.callWith_K0 I.kIn hk (run_fnG (us := []) F hr hb (hx σ) I .nil h)
theorem vt_fn0 {k k' : Nat} {mf : MF} (Fn : Fn X.prog X.w X.K X.mg X.base x 0 k mf) (hr : RoomG k' X.A) (hk : k ≤ k') (tk : Takes X W) (hg : Gl X x := by rfl) (hdb : (x == ("__debug__" : Str)) = false := by decide) :
    VT X W (.Call (.Name x p) [] [] pos) (mCall mf []) := by
  obtain ⟨f, fd, ps, Ff, hm, kp, hb⟩ := Fn.ex
  refine ⟨_, pe_callS0 Ff (hr.mono hk) hg hm kp hb (fun σ => passAt tk σ) hdb, fun Γ σ F H O Q k h => ?_⟩
  have h : HitT X.K W (rT X.K) (match mf [] with
    | none => none
    | some (.ret t outs) => some (.ok t (restore [] outs Γ))
    | some (.exc c) => some (.ex c Γ)) σ F H O Q := h
  have lO := RepG.live k.rep
  have dj : ∀ a ∈ O, a ∉ ([] : List Addr) := fun _ _ m => nomatch m
  refine ⟨F, [], [], rfl, k.sub, ⟨rfl, rfl⟩, List.nodup_nil, (fun _ m => nomatch m), ?_⟩
  cases q : mf [] with
  | none => rw [q] at h; exact h
  | some c =>
    rw [q] at h
    cases c with
    | ret t outs =>
      intro v F' H' O' o' sub ro rt n' x' st
      have on : On O H H' := st.on lO dj
      have ap := st.apart lO dj
      have k2 : Ok X.K F' H' Γ σ O := ⟨sub, RepG.mono st.f k.rep on, k.nd, st.out lO dj k.out⟩
      have er : restore [] outs Γ = Γ := by cases outs <;> rfl
      have h : HitT X.K W (rT X.K) (some (.ok t (restore [] outs Γ))) σ F H O Q := h
      rw [er] at h
      have st2 : Step F H (O ++ []) F' H' (O ++ (o' ++ O')) := st.hold
      rw [List.append_nil] at st2
      refine h v F' H' O o' k2 rt ?_ (fun a m => x' a (List.mem_append_left _ m)) (st2.less fun a m => ?_)
      · refine List.nodup_append.mpr ⟨(List.nodup_append.mp n').1, k.nd, fun a ha b hb e => ?_⟩
        subst e
        exact ap a hb (List.mem_append_left _ ha)
      · rcases List.mem_append.mp m with z | z
        · exact List.mem_append_right _ (List.mem_append_left _ z)
        · exact List.mem_append_left _ z
    | exc c =>
      intro F' H' sub st
      have on : On O H H' := st.on lO dj
      have k2 : Ok X.K F' H' Γ σ O := ⟨sub, RepG.mono st.f k.rep on, k.nd, st.out lO dj k.out⟩
      have st2 : Step F H (O ++ []) F' H' (O ++ []) := st.hold
      rw [List.append_nil] at st2
      exact h F' H' O k2 st2
end
end TW
/-! {} as a value, and the hook with one more Bool -/
namespace TW
open PySem PySem.Spec L2
theorem vd_dic0 {X : Cx} {W : WX} {pos : Pos} : VD X W (.Dict [] [] pos) (pM (.dict [])) := by
  refine ⟨_, pe_dnewK, fun Γ σ F H O Q k h q hq => ?_⟩
  have g := Grow.new (o := .dK []) k.sub hq
  exact h (.ref q) _ _ O (k.grow g) (.dic upd_same) g.step
theorem obsB_says {fa : List He.Fa} {fn : List He.DefD} {ex : PySem.W.Frag → Bool} {K : PySem.W.Frag} (c : He.SaysD fa fn K ∧ ex K = true) : He.SaysD fa fn K := c.1
def hookB (n : Nat) (fa : List He.Fa) (fn : List He.DefD) (ex : PySem.W.Frag → Bool) : PySem.W.Hook where
  α := He.AlD × Bool
  obs := fun s => (He.obsDG n fa fn s.heap.get?, ex (He.frG s.heap.get? (He.asD s.heap.get? n)))
  val := fun _ => (He.valD fn, true)
  says := fun _ h => ∃ K : PySem.W.Frag, K.In h ∧ He.SaysD fa fn K ∧ ex K = true
  of := fun _ _ e => ⟨_, He.frG_in, congrArg (fun z : He.AlD × Bool => z.1) e, congrArg (fun z : He.AlD × Bool => z.2) e⟩
  keeps := fun _ _ _ ⟨K, hK, c⟩ k => ⟨K, PySem.W.Frag.In.keeps hK k, c⟩
def obsB (n : Nat) (fa : List He.Fa) (fn : List He.DefD) (ex : PySem.W.Frag → Bool) (g : Addr → Option Obj) : He.AlD × Bool := (He.obsDG n fa fn g, ex (He.frG g (He.asD g n)))
theorem obsB_eq {n : Nat} {fa : List He.Fa} {fn : List He.DefD} {ex : PySem.W.Frag → Bool} {g : Addr → Option Obj} {s : Shared} (h : ∀ a, g a = s.heap.get? a) : obsB n fa fn ex g = (hookB n fa fn ex).obs s := by
  have e : g = s.heap.get? := funext h
  rw [e] <;> rfl
end TW

/-! try: ..; except X as e: a suite -/
namespace TW
open PySem PySem.Spec PyProof.Rows L2
/-- the body, or where it raises the suite, with the exception in slot i -/
def mTryS (i : Nat) (tbl : List Str) (mb ms : MS) : MS := fun Γ => match mb Γ with
  | some (.ex c Γ') => if c ∈ tbl ∧ i < Γ'.length then (match ms (Γ'.set i (some (.frz (excD c)))) with
    | some (.nx Γ2) => some (.nx (Γ2.set i none))
    | some (.rt t Γ2) => some (.rt t Γ2)
    | _ => none) else none
  | r => r
section
variable {X : Cx} {Wout : WX} {io : List Nat} {x n : Str} {body suite : List Stmt} {b₀ : Stmt} {mb ms : MS} {cT : Value} {tbl : List Str} {np pos pos' : Pos}
theorem vs_tryS (i : Nat) (hN : X.N.Nodup) (hc : Names X x cT) (hex : ∀ c ∈ tbl, PySem.W.exmOne X.K (.ref (He.ga X.K c)) cT = some true)
    (hb : ∀ (W : WX) (pn : List (Addr × Obj)) (xe : Value → Shared → Prop), Takes (X.tr pn xe) W → PassesOwn (model X.prog X.w) X.A X.env xe → VSs (X.tr pn xe) W io body mb)
    (hsu : ∀ (a : Addr) (pn : List (Addr × Obj)), VSs (X.suite a pn) W0 io (b₀ :: suite) ms)
    (hx : X.ex = [] := by rfl) (hs : X.stack = X.env :: X.outer := by rfl) (hf : X.env.frame = some X.env.locals := by rfl) (hi : X.N[i]? = some n := by rfl) (hln : X.env.kindOf n = some .local := by rfl)
    (hio : i ∉ io := by decide) :
    VS X Wout io (.Try body [.ExceptHandler (some (.Name x np)) (some n) (b₀ :: suite) pos'] [] [] pos) (mTryS i tbl mb ms) := by
  refine ⟨fun D σ H => ∃ Γ F O, Ok X.K F H Γ σ O ∧ HitS X.K Wout io (mTryS i tbl mb ms Γ) D σ F H O, ⟨fun pins s σ H D I hh => ?_⟩, fun Γ σ F H O D k h => ⟨Γ, F, O, k, h⟩⟩
  obtain ⟨Γ, F, O, k, h⟩ := hh
  have ok := I.ok
  have hfr : X.A.frames = some (X.env :: X.outer) := by rw [ok.frames, hs]
  refine wpAny_Try_except ?_
  let Dsu : Ends := { nx := fun σ' H' => D.nx (σ'.set i none) H', rt := D.rt, bk := fun _ _ => False, ct := fun _ _ => False }
  let Wc : WX := fun cls d σ' H' => d = none ∧ ∃ c Γ' F' O', c ∈ tbl ∧ i < Γ'.length ∧ cls = .ref (He.ga X.K c) ∧ Ok X.K F' H' Γ' σ' O' ∧
    ∀ σ2 F2 H2 O2, Ok X.K F2 H2 (Γ'.set i (some (.frz (excD c)))) σ2 O2 → Step F' H' O' F2 H2 O2 → Keeps io σ' σ2 → HitS X.K W0 io (ms (Γ'.set i (some (.frz (excD c))))) Dsu σ2 F2 H2 O2
  let xc : Value → Shared → Prop := fun e s₁ => wpAny (model X.prog X.w) X.A (noteFrame e X.env) (fun _ s₂ => wpAny (model X.prog X.w) X.A (setFlight e none) (fun _ s₃ =>
    wpAny (model X.prog X.w) X.A (handleBy e X.env [.ExceptHandler (some (.Name x np)) (some n) (b₀ :: suite) pos']) (SP X pins D) X.xe s₃) X.xe s₂) X.xe s₁
  have caught : Takes (X.tr (X.pn ++ pins) xc) Wc := by
    intro u s' xx
    obtain ⟨a, B, sI, pins', σ', H', cls, d, rfl, J', nb, up, sky, na, os, ag, rfl, c, Γ', F', O', hm, hlt, rfl, k', fin⟩ := xx
    have J : L2.Inv X pins σ' H' sI := J'.ofTry ok
    have sky2 : Sky B (X.env :: X.outer) a (Zc (.ref (He.ga X.K c)) none) X.env.locals s'.heap := by rw [← hs]; exact sky
    show wpAny (model X.prog X.w) X.A (noteFrame (.ref a) X.env) _ _ _
    refine Sky.land Zc.steady hfr hf sky2 fun h3 fl3 up3 => ?_
    have J3 : L2.Inv X pins σ' H' { s' with heap := h3 } := J.landed nb fl3.1 (up.trans up3) os ag
    obtain ⟨oe3, vs3, he3, hz3, hd3⟩ := fl3.there
    have nfr : a ∉ frs (X.env :: X.outer) := fun hm => by
      obtain ⟨_, o', e', hnf⟩ := fl3.2.2.1.mem hm
      rw [he3] at e'; cases e'
      exact hnf _ hd3
    have nL : a ≠ X.env.locals := fun z => nfr (List.mem_filterMap.mpr ⟨X.env, List.mem_cons_self, by rw [hf, z]⟩)
    have nF : a ∉ X.fs := fun hm => by
      obtain ⟨e, he, q⟩ := List.mem_filterMap.mp hm
      exact nfr (List.mem_filterMap.mpr ⟨e, List.mem_cons_of_mem _ he, q⟩)
    have bn : B.get? a = none := fl3.2.1
    have sn : sI.heap.get? a = none := by
      cases e : sI.heap.get? a with
      | none => rfl
      | some o =>
        have := nb a o e (by rw [hs]; exact nfr)
        rw [bn] at this
        cases this
    have n0 : X.s_0.heap.get? a = none := by
      cases e : X.s_0.heap.get? a with
      | none => rfl
      | some o =>
        obtain ⟨o', q⟩ := J.base.there a o e (by rw [hx]; exact List.not_mem_nil)
        rw [sn] at q
        cases q
    have hp : ∀ p ∈ X.pn ++ pins, p.1 ≠ a := fun p m z => by
      have := (J.pin p m).1
      rw [z, sn] at this
      cases this
    refine wpAny_handleBy_cons (codeAny_handlers_test ?_) (by intro q; cases q)
    have LT : PySem.W.Looks (model X.prog X.w) h3 (typeOf (.ref a)) (.ref (He.ga X.K c)) := fun A Q E s k q => wpAny_typeOf_ref (k _ _ he3) (by rw [hz3.1]; exact q)
    have LM := PySem.W.exm_one (M := model X.prog X.w) (J3.kIn) LT (hex c hm)
    have test : ∀ {Q : Value → Shared → Prop} {E : Value → Shared → Prop}, Q cT { s' with heap := h3 } → wpAny (model X.prog X.w) (X.A.mark (some (.ref a))) (eval (.Name x np) X.env) Q E { s' with heap := h3 } := fun {Q E} q => by
      have S3 := J3.suite he3 hd3 na nL nF
      obtain ⟨hg, hdbg, hm | ⟨hm, hv, hnn⟩⟩ := hc
      · exact ld_glob (X := X.suite a ((a, oe3) :: (X.pn ++ pins))) S3 hg hm q hdbg
      · exact ld_blt (X := X.suite a ((a, oe3) :: (X.pn ++ pins))) S3 hg hm hv q hnn hdbg
    refine test (LM.here ?_)
    refine codeAny_handlers_suite_as ?_
    refine HandSPX.lands_againZ fl3 fun h4 fl4 up4 => ?_
    have J4 : L2.Inv X pins σ' H' { s' with heap := h4 } := J.landed nb fl4.1 ((up.trans up3).trans up4) os ag
    obtain ⟨oe4, vs4, he4, hz4, hd4⟩ := fl4.there
    have S4 := J4.suite he4 hd4 na nL nF
    refine store_ok (X := X.suite a ((a, oe4) :: (X.pn ++ pins))) (v := .ref a) S4 hN hi (.inl hln) rfl (fun s5 S5 => ?_) (.inr hln)
    have P5 : L2.Inv (X.suite a (X.pn ++ pins)) [(a, oe4)] (σ'.set i (some (.ref a))) H' s5 := ⟨ok.suite a _, S5.os, S5.bare, S5.base, S5.loc, S5.cell, S5.free, S5.freeC, fun p hp => S5.pin p (by
      rw [List.append_nil]
      rcases List.mem_append.mp hp with m | m
      · exact List.mem_cons_of_mem _ m
      · rw [List.mem_singleton.mp m]; exact List.mem_cons_self ..), S5.hok, S5.len⟩
    have T5 := inv_track P5 n0 hz4 ⟨_, hd4⟩ (fun p m => hp p (by rwa [List.append_nil] at m))
    obtain ⟨tsu, psu, ssu⟩ := hsu a (X.pn ++ pins)
    have g := Grow.new (o := ExT (.ref (He.ga X.K c)) a) k'.sub na
    have k1 := k'.grow g
    obtain ⟨O2, k2, s2⟩ := k1.put (t := .frz (excD c)) (v := .ref a) (o := []) hlt (by unfold RepT; exact ⟨.exn upd_same, rfl⟩) k1.nd (fun _ m => nomatch m)
    have hit := fin _ _ _ O2 k2 (g.step.trans s2) (Keeps.set hio)
    refine wpAny_mono (psu.run [] s5 _ _ Dsu T5 (ssu _ _ _ _ O2 Dsu k2 hit)) (fun f s6 hsp => ?_) (fun _ _ z => False.elim z)
    have back : ∀ {σ6 : L2.St} {H6 : Hp}, L2.Inv (X.suite a (X.pn ++ pins)) [] σ6 H6 s6 → L2.Inv X pins σ6 H6 s6 := fun {σ6 H6} S6 => ⟨ok, S6.os, S6.bare, S6.base, S6.loc, S6.cell, S6.free, S6.freeC, fun p hp => S6.pin p (by rw [List.append_nil]; exact hp), S6.hok, S6.len⟩
    cases f with
    | next =>
      obtain ⟨σ6, H6, S6, q6⟩ := hsp
      exact gone_ok (back S6) hN hi hln fun s7 J7 => ⟨_, _, J7, q6⟩
    | brk =>
      obtain ⟨_, _, _, z⟩ := hsp
      exact z.elim
    | cont =>
      obtain ⟨_, _, _, z⟩ := hsp
      exact z.elim
    | ret u =>
      obtain ⟨v6, σ6, H6, S6, r6, q6⟩ := hsp
      exact gone_ok (back S6) hN hi hln fun s7 J7 => ⟨_, _, _, J7, r6, q6⟩
  obtain ⟨tb, pb, sb⟩ := hb Wc (X.pn ++ pins) xc caught PassesOwn.looking
  have hit : HitS X.K Wc io (mb Γ) D σ F H O := by
    unfold mTryS at h
    match q : mb Γ, h with
    | some (.nx Γ'), h => exact h
    | some (.bk Γ'), h => exact h
    | some (.ct Γ'), h => exact h
    | some (.rt t Γ'), h => exact h
    | some (.ex c Γ'), h =>
      dsimp only at h
      split at h
      · rename_i hm
        refine fun σ' F' H' O' k' s' g' => ⟨rfl, c, Γ', F', O', hm.1, hm.2, rfl, k', fun σ2 F2 H2 O2 k2 s2 g2 => ?_⟩
        match r : ms (Γ'.set i (some (.frz (excD c)))), h with
        | some (.nx Γ2), h =>
          intro σ6 F6 H6 O6 k6 s6 g6
          obtain ⟨O7, k7, s7⟩ := k6.drop i none
          exact h _ _ _ O7 k7 (((s'.trans s2).trans s6).trans s7) (((g'.trans g2).trans g6).trans (Keeps.set hio))
        | some (.rt t Γ2), h =>
          intro v σ6 F6 H6 O6 o k6 r6 n6 x6 s6 g6
          exact h v σ6 F6 H6 O6 o k6 r6 n6 x6 ((s'.trans s2).trans s6) ((g'.trans g2).trans g6)
        | some (.bk Γ2), h => exact h.elim
        | some (.ct Γ2), h => exact h.elim
        | some (.ex c2 Γ2), h => exact h.elim
        | none, h => exact h.elim
      · exact h.elim
  refine wpAny_mono (pb.run [] s σ H D (I.toTry _) (sb Γ σ F H O D k hit)) (fun f s1 hsp => ?_) (fun e s1 he => he)
  cases f with
  | next =>
    obtain ⟨σ', H', J', q⟩ := hsp
    exact wpAny_execs_nil ⟨σ', H', J'.ofTry ok, q⟩
  | brk =>
    obtain ⟨σ', H', J', q⟩ := hsp
    exact ⟨σ', H', J'.ofTry ok, q⟩
  | cont =>
    obtain ⟨σ', H', J', q⟩ := hsp
    exact ⟨σ', H', J'.ofTry ok, q⟩
  | ret u =>
    obtain ⟨v, σ', H', J', r, q⟩ := hsp
    exact ⟨v, σ', H', J'.ofTry ok, r, q⟩
end
end TW

/-! l.index(e), l.count(e) of a frozen list -/
namespace TW
open PySem PySem.Spec L2 PyProof.Rows
def idxF : OpF
  | .list ds, d => if noDic (.list ds) = true ∧ noDic d = true ∧ SeqAt.shaped (.list ds) = true ∧ SeqAt.shaped d = true then (ds.findIdx? (fun z => PyData.eqv z d)).map fun j => .int (j : Nat) else none
  | _, _ => none
def cntF : OpF
  | .list ds, d => if noDic (.list ds) = true ∧ noDic d = true ∧ SeqAt.shaped (.list ds) = true ∧ SeqAt.shaped d = true then some (.int (ds.countP (fun z => PyData.eqv z d) : Nat)) else none
  | _, _ => none
def ldM (f : OpF) (m : M PyData) : PyData → M PyData
  | .list ds => bM m fun d => oM (f (.list ds) d)
  | _ => fun _ => none
def mLdM (f : OpF) (mo m : M PyData) : M PyData := bM mo (ldM f m)
section
variable {X : Cx} {W : WX} {e o : Expr} {m mo : M PyData} {p p2 pos : Pos} {x : Str}
def rCountD (K : PySem.W.Frag) : V → List V → Hp → VK → Prop := fun x xs H Q => ∃ (a : Addr) (y : V) (d : PyData) (ds : List PyData), x = V.ref a ∧ xs = [y] ∧ Dp K H (V.ref a) (.list ds) ∧ Dp K H y d ∧
  SeqAt.shaped (.list ds) = true ∧ SeqAt.shaped d = true ∧ Q (.int (ds.countP (fun z => PyData.eqv z d) : Nat)) H
theorem mt_countD (hu : X.A.units + 65 < cLine) : MtR X "list.count" (rCountD X.K) := by
  intro pins s σ H x xs v us Q I rx rxs h
  obtain ⟨a, y, d, ds, rfl, rfl, hl, hy, sl, sd, q⟩ := h
  cases rx
  cases rxs with
  | cons ry rt =>
    rename_i uy ut
    cases rt
    obtain ⟨bs, r1⟩ := Dp.reads I d y uy hy ry
    have hxs : PyData.canLayAll0 ds = true := SeqAt.canLay_of_shaped sl
    have hroom : X.A.units + 1 + min (PyData.depthAll ds) d.depth < cLine := room_in_shaped sd hu
    cases hl with
    | lst hs ha =>
      obtain ⟨its, rv, ⟨⟨cls, dd, data, sls⟩, n, ho, hc, hdn, hdt⟩, hlen⟩ := I.list hs
      simp only at hc hdt
      subst hc hdt
      obtain ⟨as, h4⟩ := Dp.readsAll I ds _ its ha rv
      have hmap : its.map (SeqAt.readOf s.heap) = ds := SeqAt.readsAll_map ds its as hxs h4
      refine call_meets PySem.F.slot_list_count ⟨_, ho, rfl⟩ PySem.F.entry_list_count (PySem.F.args_list_count_2 _ _)
        (SeqAt.list_countAt a its.toArray n dd sls uy (fun u => PyData.eqv (SeqAt.readOf s.heap u) d)) ⟨ho, SeqAt.items_eqAt (vs := its.toArray) (show ReadsAll s.heap its.toArray.toList ds as from h4) r1 hxs (SeqAt.canLay_of_shaped sd) hroom, ?_⟩
      have ec : its.toArray.toList.countP (fun u => PyData.eqv (SeqAt.readOf s.heap u) d) = ds.countP (fun z => PyData.eqv z d) := by
        rw [← hmap, List.countP_map]
        rfl
      refine ⟨.int (ds.countP (fun z => PyData.eqv z d) : Nat), H, I.tok _, ⟨s.toks, ?_⟩, q⟩
      show Value.int ((its.toArray.toList.countP (fun u => PyData.eqv (SeqAt.readOf s.heap u) d) : Nat) : Int) s.toks = _
      rw [ec]
theorem vd_idx (hu : X.A.units + 65 < cLine) (ho : VD X W o mo) (he : VD X W e m)
    (pbm : ∀ {ta tb : TE}, PE X o ta → PE X e tb → PE X (.Call (.Attribute o "index" p2) [e] [] pos) (tBM X.K "list" (rIndexD X.K) ta (tCons tb tNil)) := by
      intro ta tb h1 h2; exact pe_bm PySem.F.plainAttrs_list PySem.F.slot_list_index PySem.F.type_list_index (mt_indexD (by assumption)) h1 (pa_cons h2 pa_nil)) :
    VD X W (.Call (.Attribute o "index" p2) [e] [] pos) (mLdM idxF mo m) := by
  obtain ⟨ta, pa, sa⟩ := ho
  obtain ⟨tb, pb, sb⟩ := he
  refine ⟨_, pbm pa pb, fun Γ σ F H O Q k h => sa Γ σ F H O _ k ?_⟩
  unfold mLdM at h
  refine HitN.bind h fun da Γ1 v F1 H1 O1 k1 r1 s1 h1 => ?_
  cases da with
  | list ds =>
    cases r1 with
    | lst h3 h4 =>
      refine ⟨.inl ⟨rfl, _, .inl (.inl (k1.sub _ _ h3))⟩, sb Γ1 σ F1 H1 O1 _ k1 ?_⟩
      unfold ldM at h1
      refine HitN.bind h1 fun d Γ2 w F2 H2 O2 k2 r2 s2 h2 => ?_
      obtain ⟨d', e', q⟩ := HitN.fin h2 k2
      unfold idxF at e'
      simp only at e'
      split at e'
      · rename_i c
        obtain ⟨c1, c2, c3, c4⟩ := c
        cases q1 : ds.findIdx? (fun z => PyData.eqv z d) with
        | none => rw [q1] at e'; cases e'
        | some j =>
          rw [q1] at e'
          cases e'
          obtain ⟨hlt, hz, hno⟩ := List.findIdx?_eq_some_iff_getElem.mp q1
          have l2 : Df X.K F2 (.ref _) (.list ds) := Df.mono s2.f _ _ (.lst h3 h4)
          refine ⟨_, w, d, ds, j, ds[j], rfl, rfl, Df.dp k2.sub _ _ l2 c1, Df.dp k2.sub _ _ r2 c2, c3, c4, List.getElem?_eq_getElem hlt, hz, fun m' z' hm hz' => ?_, q _ F2 H2 (Grow.refl k2.sub) (.int _)⟩
          obtain ⟨h5, h6⟩ := List.getElem?_eq_some_iff.mp hz'
          subst h6
          exact Bool.eq_false_iff.mpr (hno m' hm)
      · cases e'
  | _ => exact h1.elim
theorem vd_cnt (hu : X.A.units + 65 < cLine) (ho : VD X W o mo) (he : VD X W e m)
    (pbm : ∀ {ta tb : TE}, PE X o ta → PE X e tb → PE X (.Call (.Attribute o "count" p2) [e] [] pos) (tBM X.K "list" (rCountD X.K) ta (tCons tb tNil)) := by
      intro ta tb h1 h2; exact pe_bm PySem.F.plainAttrs_list PySem.F.slot_list_count PySem.F.type_list_count (mt_countD (by assumption)) h1 (pa_cons h2 pa_nil)) :
    VD X W (.Call (.Attribute o "count" p2) [e] [] pos) (mLdM cntF mo m) := by
  obtain ⟨ta, pa, sa⟩ := ho
  obtain ⟨tb, pb, sb⟩ := he
  refine ⟨_, pbm pa pb, fun Γ σ F H O Q k h => sa Γ σ F H O _ k ?_⟩
  unfold mLdM at h
  refine HitN.bind h fun da Γ1 v F1 H1 O1 k1 r1 s1 h1 => ?_
  cases da with
  | list ds =>
    cases r1 with
    | lst h3 h4 =>
      refine ⟨.inl ⟨rfl, _, .inl (.inl (k1.sub _ _ h3))⟩, sb Γ1 σ F1 H1 O1 _ k1 ?_⟩
      unfold ldM at h1
      refine HitN.bind h1 fun d Γ2 w F2 H2 O2 k2 r2 s2 h2 => ?_
      obtain ⟨d', e', q⟩ := HitN.fin h2 k2
      unfold cntF at e'
      simp only at e'
      split at e'
      · rename_i c
        obtain ⟨c1, c2, c3, c4⟩ := c
        cases e'
        have l2 : Df X.K F2 (.ref _) (.list ds) := Df.mono s2.f _ _ (.lst h3 h4)
        exact ⟨_, w, d, ds, rfl, rfl, Df.dp k2.sub _ _ l2 c1, Df.dp k2.sub _ _ r2 c2, c3, c4, q _ F2 H2 (Grow.refl k2.sub) (.int _)⟩
      · cases e'
  | _ => exact h1.elim
end
end TW

/-! d.get(k, e); for x in range(a, b, -1) -/
namespace TW
open PySem PySem.Spec L2 PyProof.Rows
def dget2K (i : Nat) (kd d : PyData) (Γ : G) : Option (Rs PyData) := match Γ[i]? with
  | some (some (.dct kvs)) => (keyD kd).map fun k => .ok ((valD kvs k).getD d) Γ
  | some (some (.dtp kvs)) => (keyT kd).map fun k => .ok ((valD kvs k).getD d) Γ
  | _ => none
def mDGet2 (i : Nat) (mk md : M PyData) : M PyData := fun Γ => match Γ[i]? with
  | some (some t) => if isDc t = true then bM mk (fun kd => bM md (dget2K i kd)) Γ else none
  | _ => none
section
variable {X : Cx} {W : WX} {e k : Expr} {m mk : M PyData} {p p2 pos : Pos} {x : Str}
theorem vd_dget2 (i : Nat) (hu : X.A.units + 65 < cLine) (hk : VD X W k mk) (he : VD X W e m) (hM : M2 X (.Name x p) "get" p2 k e pos := by exact ⟨rfl, rfl, rfl, rfl⟩) (hN : X.N[i]? = some x := by rfl) (hv : Vis X.env.scope x := by first | exact Or.inl rfl | exact Or.inr (Or.inl rfl) | exact Or.inr (Or.inr rfl)) (hd : (x == ("__debug__" : Str)) = false := by decide)
    (hcd : (x == ("__classdict__" : Str)) = false := by decide) : VD X W (.Call (.Attribute (.Name x p) "get" p2) [k, e] [] pos) (mDGet2 i mk m) := by
  obtain ⟨tk, pk, sk⟩ := hk
  obtain ⟨t, pe, s⟩ := he
  refine ⟨_, pe_dget2 (by omega) (pe_var hN hv hd hcd) pk pe hM, fun Γ σ F H O Q k h => ?_⟩
  unfold mDGet2 at h
  split at h
  case h_2 => exact h.elim
  rename_i t0 e0
  split at h
  case isFalse => exact h.elim
  rename_i hdc
  obtain ⟨v0, _, _, ev0, _⟩ := k.take e0
  have isd : ∃ a, v0 = .ref a ∧ IsD H a := by
    cases t0 with
    | dct kvs =>
      obtain ⟨a, ps, rfl, ha, hp, _⟩ := Ok.editD k e0 ev0
      exact ⟨a, rfl, .inl ⟨_, .inl ha⟩⟩
    | dtp kvs =>
      obtain ⟨a, ps, rfl, ha, hp, _⟩ := Ok.editT k e0 ev0
      exact ⟨a, rfl, .inr ⟨_, .inl ha⟩⟩
    | _ => exact absurd hdc (by unfold isDc; exact Bool.false_ne_true)
  obtain ⟨a, rfl, hisd⟩ := isd
  refine ⟨.ref a, ev0, a, rfl, hisd, sk Γ σ F H O _ k ?_⟩
  refine HitN.bind h fun kd Γ1 y F1 H1 O1 k1 r1 s1 h1 => s Γ1 σ F1 H1 O1 _ k1 ?_
  refine HitN.bind h1 fun d Γ2 z F2 H2 O2 k2 r2 s2 h2 => ?_
  have r1 := Df.mono s2.f _ _ r1
  unfold dget2K at h2
  split at h2
  · rename_i kvs e2
    cases ek : keyD kd with
    | none => rw [ek] at h2; exact h2.elim
    | some key =>
      rw [ek] at h2
      obtain ⟨a', ps, e3, ha, hp, _⟩ := Ok.editD k2 e2 ev0
      cases e3
      obtain ⟨i1, i2⟩ := val_rep (k := key) hp
      refine ⟨valV ps key, by rw [key_v ek r1]; exact DGet.k ha, h2 _ F2 H2 O2 k2 ?_ Step.refl⟩
      cases q : valD kvs key with
      | none => rw [i2 q]; exact r2
      | some d1 => obtain ⟨v, hv1, hv2⟩ := i1 d1 q; rw [hv1]; exact hv2
  · rename_i kvs e2
    cases ek : keyT kd with
    | none => rw [ek] at h2; exact h2.elim
    | some key =>
      rw [ek] at h2
      obtain ⟨a', ps, e3, ha, hp, _⟩ := Ok.editT k2 e2 ev0
      cases e3
      obtain ⟨b, rfl, hb⟩ := keyT_v ek r1
      obtain ⟨i1, i2⟩ := val_rep (k := key) hp
      refine ⟨valV ps key, DGet.t ha (k2.sub _ _ hb), h2 _ F2 H2 O2 k2 ?_ Step.refl⟩
      cases q : valD kvs key with
      | none => rw [i2 q]; exact r2
      | some d1 => obtain ⟨v, hv1, hv2⟩ := i1 d1 q; rw [hv1]; exact hv2
  · exact h2.elim
/-! ### range(a, b, -1) -/
def downto (lo : Int) (n : Nat) : List PyData := (List.range n).map fun i => .int (lo + (i : Nat) * (-1))
def rng3F : List PyData → Option (List PyData)
  | [.int i, .int j, .int c] => if c = -1 ∧ -(2 ^ 62) ≤ i ∧ i < 2 ^ 62 ∧ -(2 ^ 62) ≤ j ∧ j < 2 ^ 62 then some (downto i (i - j).toNat) else none
  | _ => none
def mRng3 (m : M (List PyData)) : M (List PyData) := bM m fun ds => oM (rng3F ds)
theorem walks_down {K : PySem.W.Frag} {F H : Hp} {lo : Int} {n : Nat} : Walks K F H (downto lo n) (Itc lo (-1) n) := fun i F1 H1 s1 s2 => by
  have l : (downto lo n).length = n := by unfold downto; rw [List.length_map, List.length_range]
  refine ⟨fun d e => ?_, fun e => by rw [l] at e; exact e⟩
  have lt : i < n := by rw [← l]; exact (List.getElem?_eq_some_iff.mp e).1
  refine ⟨lt, fun x H2 y => ?_⟩
  obtain ⟨rfl, rfl⟩ := y
  unfold downto at e
  rw [List.getElem?_map, List.getElem?_range lt] at e
  cases e
  exact ⟨F1, Grow.refl s2, .int _⟩
theorem vi_range3 {tg a b c : Expr} {p : Pos} {m : M (List PyData)} (hm : X.mg "range" = none) (h : VDs X W [a, b, c] m) (hg : Gl X "range" := by rfl) (hs : starEach [a, b, c] X.env = (false, eval a X.env) :: starEach [b, c] X.env := by rfl) (hpl : (backTo pos (starEach [b, c] X.env)).any (·.1) = false := by rfl) : VI X W tg (.Call (.Name "range" p) [a, b, c] [] pos) (mRng3 m) := by
  obtain ⟨t, pa, s⟩ := h
  refine ⟨_, pi_range3 hg hm pa hs hpl, fun Γ σ F H O R k h => s Γ σ F H O _ k ?_⟩
  unfold mRng3 at h
  refine HitN.bind h fun ds Γ1 vs F1 H1 O1 k1 r s1 h1 => ?_
  unfold oM rng3F at h1
  split at h1
  · cases r with
    | cons r1 r =>
      cases r with
      | cons r2 r =>
        cases r with
        | cons r3 r =>
          cases r1
          cases r2
          cases r3
          cases r
          split at h1
          · rename_i hj
            obtain ⟨rfl, a1, a2, b1, b2⟩ := hj
            exact ⟨_, _, _, _, rfl, RgC.neg a1 a2 b1 b2, h1 _ F1 H1 O1 k1 walks_down Step.refl⟩
          · exact h1.elim
  · exact h1.elim
end
end TW

/-! str(i), repr(i), str and repr of lists and tuples -/
namespace TW
open PySem PySem.Spec L2 PyProof.Rows
def ShowOk (d : PyData) : Prop := noDic d = true ∧ d.showable = true ∧ d.hasDict = false ∧ d.depth ≤ 60 ∧ d.shown.length ≤ sizeLine
instance (d : PyData) : Decidable (ShowOk d) := by unfold ShowOk; infer_instance
def strF : PyData → Option PyData
  | .int i => if i.natAbs.log2 < 1920 then some (.str (toString i)) else none
  | .list ds => if ShowOk (.list ds) then some (.str (PyData.list ds).shown) else none
  | .tuple ds => if ShowOk (.tuple ds) then some (.str (PyData.tuple ds).shown) else none
  | _ => none
def rShow (K : PySem.W.Frag) : List V → Hp → VK → Prop := fun xs H Q => ∃ (a : Addr) (d : PyData), xs = [V.ref a] ∧ Dp K H (V.ref a) d ∧ ShowOk d ∧ Q (.str d.shown) H
theorem CallR.or {X : Cx} {f : Value} {r r' : List V → Hp → VK → Prop} (h : CallR X f r) (h' : CallR X f r') : CallR X f (fun xs H Q => r xs H Q ∨ r' xs H Q) := fun pins s σ H xs us Q I rv z => z.elim (h pins s σ H xs us Q I rv) (h' pins s σ H xs us Q I rv)
section
variable {X : Cx}
theorem cr_str (hg : X.A.guards = some []) (hu : X.A.units + 65 < cLine) : CallR X (.type "str") (rShow X.K) := by
  intro pins s σ H xs us Q I r h
  obtain ⟨a, d, rfl, hd, ⟨h1, h2, h3, h4, h5⟩, q⟩ := h
  obtain rfl := Vals.ref1 r
  obtain ⟨as, ra⟩ := Dp.reads I d _ (.ref a) hd rfl
  exact str_of_reads ra h2 (fun z => by rw [h3] at z; cases z) hg (by omega) (fun _ _ e => e) (fun h' u tk hk => ⟨.str _, H, I.kept hk, ⟨u, rfl⟩, q⟩) h5
theorem cr_repr (hg : X.A.guards = some []) (hu : X.A.units + 65 < cLine) : CallR X (.builtin "repr") (rShow X.K) := by
  intro pins s σ H xs us Q I r h
  obtain ⟨a, d, rfl, hd, ⟨h1, h2, h3, h4, h5⟩, q⟩ := h
  obtain rfl := Vals.ref1 r
  obtain ⟨as, ra⟩ := Dp.reads I d _ (.ref a) hd rfl
  exact repr_of_reads' ra h2 (fun z => by rw [h3] at z; cases z) hg (by omega) (fun _ _ e => e) (fun h' u tk hk => ⟨.str _, H, I.kept hk, ⟨u, rfl⟩, q⟩) h5
theorem c_show {f : Value} (hi : CallR X f (fun xs H Q => ∃ i, xs = [.int i] ∧ i.natAbs.log2 < 1920 ∧ Q (.str (toString i)) H)) (hs : CallR X f (rShow X.K)) : Call1 X f strF := by
  refine ⟨_, hi.or hs, fun a d e x F H Q s r q => ?_⟩
  unfold strF at e
  split at e
  · split at e
    · rename_i h
      cases e
      cases r.df (fun _ z => nomatch z)
      exact .inl ⟨_, rfl, h, q _ F H (Grow.refl s) (.str _)⟩
    · cases e
  · split at e
    · rename_i h
      cases e
      have hd := rP.dp s r h.1
      obtain ⟨a, vs, rfl, _, _⟩ := rP.list s r
      exact .inr ⟨a, _, rfl, hd, h, q _ F H (Grow.refl s) (.str _)⟩
    · cases e
  · split at e
    · rename_i h
      cases e
      have hd := rP.dp s r h.1
      cases r.df (fun _ z => nomatch z) with
      | tup h1 h2 => exact .inr ⟨_, _, rfl, hd, h, q _ F H (Grow.refl s) (.str _)⟩
    · cases e
  · cases e
theorem c_str (hg : X.A.guards = some []) (hu : X.A.units + 65 < cLine) : Call1 X (.type "str") strF := c_show call_str_int (cr_str hg hu)
theorem c_repr (hg : X.A.guards = some []) (hu : X.A.units + 65 < cLine) : Call1 X (.builtin "repr") strF := c_show SkE.call_repr_int (cr_repr hg hu)
end
end TW

/-! defs that raise nothing, called while an exception is handled -/
namespace TW
open PySem PySem.Spec PyProof.Rows L2
structure RoomN (k : Nat) (A : Around) : Prop where
  dp : A.depth + 3 * k + 5 < recursionLimit
  un : A.units + 16 * k + 200 < cLine
theorem RoomN.mono {j k : Nat} {A : Around} (r : RoomN k A) (h : j ≤ k) : RoomN j A := ⟨by have := r.dp; omega, by have := r.un; omega⟩
theorem RoomN.deep {k : Nat} {A : Around} (r : RoomN (k + 1) A) (env : Env) : RoomN k (A.deeper env) :=
  ⟨by have a := r.dp; show A.depth + 1 + 3 * k + 5 < _; omega, by have a := r.un; show A.units + 3 + 16 * k + 200 < _; omega⟩
theorem RoomG.hot {k : Nat} {A : Around} (r : RoomG k A) (v : Option Value) : RoomN k (A.mark v) := ⟨r.rm.dp, r.rm.un⟩
theorem RoomN.depth {k : Nat} {A : Around} (r : RoomN k A) : A.depth < recursionLimit := by have := r.dp; omega
/-- the context of such a def's body -/
def cxN (Pg : Program) (w : World) (K : PySem.W.Frag) (mg : Str → Option Value) (base : Heap) (N : List Str) (qn : Str) (sc : Scope) (f : Addr) (cv : Value) (A : Around) (fs : List Env) (s : Shared) (H : Hp) : Cx :=
  { cxOf CX0 Pg w K mg base N qn sc f cv A fs s H E0 with calm := false }
structure FnOkN (Pg : Program) (w : World) (K : PySem.W.Frag) (mg : Str → Option Value) (base : Heap) (k : Nat) (f : Addr) (fd : FuncData) (ns : List Str) (sp : Sp) : Prop where
  len : ∀ ws H Q, sp ws H Q E0 → ws.length = ns.length
  run : ∀ (A : Around) (fs : List Env) (s : Shared) (H : Hp) (as : Args) (us : List Value) (ws : List V) (Q : VK),
    RoomN k A → Env0 Pg w K mg base A fs s H → BindsTo s fd as (ns.zip us) → Vals ws us → sp ws H Q E0 → codeAny (model Pg w) A (.call (.ref f) as) (L2.CR CX0 fs Pg w H s Q E0) s
section
variable {Pg : Program} {w : World} {K : PySem.W.Frag} {mg : Str → Option Value} {base : Heap} {f : Addr} {fd : FuncData} {ns : List Str} {sp : Sp} {k : Nat}
theorem begin_hot {N : List Str} {qn : Str} {sc : Scope} {cv : Value} {A : Around} {fs : List Env} {s s1 : Shared} {H : Hp} {us : List Value} {ws : List V} (S : FnScope N ns sc) (e0 : Env0 Pg w K mg base A fs s H) (hl : ws.length = ns.length) (hv : Vals ws us)
    (x : InCallC s s.heap.objs.size (bindL (envOfC qn sc s.heap.objs.size f cv).kindOf (ns.zip us) fun _ => none) (cellsFrom (s.heap.objs.size + 1) sc.names []) (bindC (envOfC qn sc s.heap.objs.size f cv).kindOf (ns.zip us) fun _ => none) s1) :
    Inv (cxN Pg w K mg base N qn sc f cv A fs s H) [] (L2.start N ws) H s1 := by
  have e1 : Env0 Pg w K mg base { A with handled := none } fs s H := ⟨e0.frames, e0.mod, e0.bs, e0.bsz, e0.funs, e0.frf, e0.hok, e0.bare⟩
  have I := inv_start (CX := CX0) (N := N) (qual := qn) (f := f) (cd := cv) (E := E0) S (A := { A with handled := none }) rfl e1 hl hv x
  have o := I.ok
  exact ⟨⟨o.mod, o.kind, o.glob, o.blt, o.above, o.inj, o.has, o.cab, fun z => Bool.noConfusion (show false = true from z), Around.frames_deeper e0.frames, o.stk, o.exf, o.bs, o.bsz, o.noex, o.exfs, o.funs, o.frf⟩, I.os, I.bare, I.base, I.loc, I.cell, I.free, I.freeC, I.pin, I.hok, I.len⟩
theorem fnN_of {nm qn : Str} {pa : Arguments} {bd : List Stmt} {sc : Scope} {N : List Str} (D : FunD K nm qn pa bd sc [] [] f fd) (S : FnScope N ns sc) (len : ∀ ws H Q, sp ws H Q E0 → ws.length = ns.length)
    (hb : ∀ (cv : Value) (A : Around) (fs : List Env) (s : Shared) (H : Hp) (ws : List V) (Q : VK), RoomN k (A.deeper (envOfC qn sc s.heap.objs.size f cv)) → sp ws H Q E0 →
      ∃ t, PSs (cxN Pg w K mg base N qn sc f cv A fs s H) bd t ∧ t { nx := fun _ G => Q .non G, rt := Q } (L2.start N ws) H) :
    FnOkN Pg w K mg base (k + 1) f fd ns sp := by
  obtain ⟨oc, od, dV, kV, doc, pm, an, cv, ct, osl, rfl, lk, hcd, _, _⟩ := D.ex
  refine ⟨len, fun A fs s H as us ws Q hr e0 bd hv hs => ?_⟩
  have KX : K.In s.heap := e0.mod.kin.keeps fun b o e => (e0.bs b o e).1
  have lim : s.heap.NoLimit := e0.mod.nolimit.keeps fun b o e => (e0.bs b o e).1
  have kinds : ∀ q ∈ ns.zip us, sc.names.lookup q.1 = some .local ∨ (sc.names.lookup q.1 = some .cell ∧ ((cellsFrom (s.heap.objs.size + 1) sc.names []).lookup q.1).isSome = true) := by
    intro q hq
    obtain ⟨a, b⟩ := q
    rcases S.par a (List.of_mem_zip hq).1 with z | z
    · exact Or.inl z
    · exact Or.inr ⟨z, PySem.W.cellsFrom_some _ _ _ (Or.inl z)⟩
  refine codeAny_call_function hr.depth (KX _ _ lk) rfl S.co S.gen rfl (PySem.W.codeRec_of KX hcd) (bd _ _ _ _ (wpAny_newFunctionEnv_cells S.kind kinds fun env he s1 x => ?_))
  subst he
  refine ⟨lim.keeps x.toInCall.keep, codeAny_func ?_⟩
  obtain ⟨t, ht, hq⟩ := hb cv A fs s H ws Q (hr.deep _) hs
  refine wpAny_mono (ht.run [] s1 (L2.start N ws) H _ (begin_hot S e0 (len _ _ _ hs) hv x) hq) (fun fl s' z => ?_) (fun e s' z => z)
  cases fl with
  | brk => obtain ⟨_, _, _, q⟩ := z; exact q.elim
  | cont => obtain ⟨_, _, _, q⟩ := z; exact q.elim
  | next =>
    obtain ⟨_, G, J, q⟩ := z
    exact ⟨V.non, G, J.os, J.bare, J.base, J.hok, rfl, q⟩
  | ret u =>
    obtain ⟨v, _, G, J, rv, q⟩ := z
    exact ⟨v, G, J.os, J.bare, J.base, J.hok, rv, q⟩
end
section
variable {X : Cx} {k : Nat} {f : Addr} {fd : FuncData} {ns : List Str} {sp : Sp} {x : Str} {p pos : Pos} {e : Expr} {es : List Expr} {t : TA}
theorem pe_callN (F : FnOkN X.prog X.w X.K X.mg X.base k f fd ns sp) (hr : RoomN k X.A) (hg : Gl X x) (hm : X.mg x = some (.ref f)) (hk : PySem.W.keepIn X.K (.ref f) = true) (hb : Binds X.K fd ns []) (ha : PA X (e :: es) t)
    (hdb : (x == ("__debug__" : Str)) = false := by decide) (he : starEach (e :: es) X.env = (false, eval e X.env) :: starEach es X.env := by rfl) (hpl : (backTo pos (starEach es X.env)).any (·.1) = false := by rfl) : PE X (.Call (.Name x p) (e :: es) [] pos) (tCallS sp (fun _ => E0) t) := by
  refine ⟨fun pins s σ H Q I h => wpAny_Call_Name_kw (ld_glob I hg hm ?_ hdb)⟩
  refine PySem.W.callWith_K (h₀ := X.base) I.ok.mod.kin hk (thn (ha.run pos pins s σ H _ I h) ?_) he hpl
  rintro us s1 ⟨ws, H1, I1, r, q⟩
  have b := hb s1 us I1.kIn (by rw [List.append_nil, ← r.length]; exact F.len _ _ _ q)
  rw [List.append_nil] at b
  refine ⟨I1.kIn, wpAny_call (codeAny_mono (F.run X.A X.stack s1 H1 ⟨us, []⟩ us ws Q hr I1.env0 b r q) ?_)⟩
  intro c s' q
  cases c with
  | error d => exact (show False from q).elim
  | ok fl => cases fl <;> first | exact I1.after q | exact False.elim q
end
/-- a def by its name -/
structure FnN (P : Program) (w : World) (K : PySem.W.Frag) (mg : Str → Option Value) (base : Heap) (x : Str) (n k : Nat) (mf : MF) : Prop where
  ex : ∃ (f : Addr) (fd : FuncData) (ps : List Str), FnOkN P w K mg base k f fd ps (spM n K mf) ∧ mg x = some (.ref f) ∧ PySem.W.keepIn K (.ref f) = true ∧ Binds K fd ps []
section
variable {X : Cx} {io : List Nat} {pos : Pos} {e : Expr} {es : List Expr} {as : List Ar}
theorem vt_fnN {n k k' : Nat} {x : Str} {p : Pos} {mf : MF} (Fn : FnN X.prog X.w X.K X.mg X.base x n k mf) (hr : RoomN k' X.A) (hk : k ≤ k') (ha : VA X W0 (e :: es) as) (hn : (e :: es).length = n := by rfl) (hn2 : as.length = n := by rfl) (hg : Gl X x := by rfl) (hdb : (x == ("__debug__" : Str)) = false := by decide)
    (he : starEach (e :: es) X.env = (false, eval e X.env) :: starEach es X.env := by rfl) (hpl : (backTo pos (starEach es X.env)).any (·.1) = false := by rfl) : VT X W0 (.Call (.Name x p) (e :: es) [] pos) (mCall mf as) := by
  obtain ⟨f, fd, ps, FF, hm, kp, hb⟩ := Fn.ex
  obtain ⟨t, pa, s⟩ := ha
  refine ⟨_, pe_callN FF (hr.mono hk) hg hm kp hb pa hdb he hpl, fun Γ σ F H O Q k h => s Γ σ F H O _ k ?_⟩
  unfold mCall at h
  refine HitT.bindT h fun ts Γ1 vs F1 H1 O1 o k1 r n1 x1 s1 h1 => ?_
  obtain ⟨r, w⟩ := r
  have lo := RepTs.live _ _ _ r
  have dj : ∀ a ∈ O1, a ∉ o := fun a m q => (List.nodup_append.mp n1).2.2 a q a m rfl
  have lO := RepG.live k1.rep
  have hl : vs.length = n := by
    rw [OwnAt.length w, hn2]
  refine ⟨F1, ts, o, hl, k1.sub, r, (List.nodup_append.mp n1).1, x1, ?_⟩
  cases q : mf ts with
  | none => rw [q] at h1; exact h1
  | some c =>
    rw [q] at h1
    cases c with
    | ret t outs =>
      intro v F' H' O' o' sub ro rt n' x' st
      have on : On O1 H1 H' := st.on lO dj
      have ap := st.apart lO dj
      have k2 : Ok X.K F' H' Γ1 σ O1 := ⟨sub, RepG.mono st.f k1.rep on, k1.nd, st.out lO dj k1.out⟩
      obtain ⟨O2, k3, m3⟩ := restore_ok k2 ro w (by
        refine List.nodup_append.mpr ⟨(List.nodup_append.mp n').2.1, k1.nd, fun a ha b hb q => ?_⟩
        subst q
        exact ap a hb (List.mem_append_right _ ha)) fun a m => x' a (List.mem_append_right _ m)
      refine h1 v F' H' O2 o' k3 rt ?_ (fun a m => x' a (List.mem_append_left _ m)) ?_
      · refine List.nodup_append.mpr ⟨(List.nodup_append.mp n').1, k3.nd, fun a ha b hb q => ?_⟩
        subst q
        rcases List.mem_append.mp (m3 a hb) with z | z
        · exact (List.nodup_append.mp n').2.2 a ha a z rfl
        · exact ap a z (List.mem_append_left _ ha)
      · have st2 : Step F1 H1 (O1 ++ o) F' H' (O1 ++ (o' ++ O')) := st.hold
        refine (st2.more fun a m => ?_).less fun a m => ?_
        · rcases List.mem_append.mp m with z | z
          · exact List.mem_append_right _ z
          · exact List.mem_append_left _ z
        · rcases List.mem_append.mp m with z | z
          · exact List.mem_append_right _ (List.mem_append_left _ z)
          · rcases List.mem_append.mp (m3 a z) with z | z
            · exact List.mem_append_right _ (List.mem_append_right _ z)
            · exact List.mem_append_left _ z
    | exc c =>
      intro F' H' sub st
      have on : On O1 H1 H' := st.on lO dj
      have k2 : Ok X.K F' H' Γ1 σ O1 := ⟨sub, RepG.mono st.f k1.rep on, k1.nd, st.out lO dj k1.out⟩
      have st2 : Step F1 H1 (O1 ++ o) F' H' (O1 ++ []) := st.hold
      rw [List.append_nil] at st2
      refine h1 F' H' O1 k2 (st2.more fun a m => ?_)
      rcases List.mem_append.mp m with z | z
      · exact List.mem_append_right _ z
      · exact List.mem_append_left _ z
end
theorem fn_okN {P : Program} {w : World} {K : PySem.W.Frag} {mg : Str → Option Value} {base : Heap} {x qual : Str} {params : Arguments} {body : List Stmt} {scope : Scope} {f : Addr} {fd : FuncData} {N ps : List Str} {k : Nat} {mb : MS} (io : List Nat)
    (Fd : FunD K x qual params body scope [] [] f fd) (S : FnScope N ps scope) (hN : ps.length ≤ N.length)
    (hbody : ∀ (cdv : Value) (A : Around) (outer : List Env) (s : Shared) (H : Hp), RoomN k (A.deeper (envOfC qual scope s.heap.objs.size f cdv)) →
      VSs (cxN P w K mg base N qual scope f cdv A outer s H) W0 io body mb) :
    FnOkN P w K mg base (k + 1) f fd ps (spM ps.length K (mfOf ps.length N.length io mb)) := by
  refine fnN_of Fd S (fun vs H Q h => ?_) (fun cdv A outer s H vs Q hr h => ?_)
  · obtain ⟨_, _, _, e, _⟩ := h
    exact e
  · obtain ⟨F, ts, O, hl, sub, r, nd, x, h⟩ := h
    obtain ⟨t, p, z⟩ := hbody cdv A outer s H hr
    refine ⟨t, p, ?_⟩
    have hts : ts.length = ps.length := (RepTs.length r).symm.trans hl
    unfold mfOf at h
    rw [if_pos hts] at h
    have r0 := rep_start (K := K) (F := F) (H := H) (N.length - ps.length) r
    rw [show vs.map some ++ List.replicate (N.length - ps.length) none = L2.start N vs by unfold L2.start; rw [hl]] at r0
    refine z _ (L2.start N vs) F H O _ ⟨sub, r0, nd, x⟩ ?_
    have outs : ∀ {Γ' : G} {σ' : L2.St} {F' H' : Hp} {O' : List Addr}, Ok K F' H' Γ' σ' O' → Keeps io (L2.start N vs) σ' → ∃ O2, RepG K F' H' (maskG io 0 ps.length Γ') (vs.map some) O2 ∧ O2.Nodup ∧ ∀ a ∈ O2, a ∈ O' := fun {Γ' σ' F' H' O'} k' kp => by
      have hle : vs.length ≤ σ'.length := by
        rw [kp.1]
        unfold L2.start
        rw [List.length_append, List.length_map]
        omega
      rw [← hl]
      refine mask_ok (j := 0) k'.rep k'.nd hle fun i v e m => ?_
      rw [kp.2 i (by simpa using m)]
      unfold L2.start
      have hi : i < vs.length := (List.getElem?_eq_some_iff.mp e).1
      rw [List.getElem?_append_left (by rw [List.length_map]; exact hi), List.getElem?_map, e]
      rfl
    match q : mb (ts.map some ++ List.replicate (N.length - ps.length) none), h with
    | some (.rt t' Γ'), h =>
      intro v σ' F' H' O' o k' rt n' x' st kp
      obtain ⟨O2, r2, n2, m2⟩ := outs k' kp
      refine h v F' H' O2 o k'.sub r2 rt ?_ (fun a m => ?_) (st.less fun a m => ?_)
      · exact List.nodup_append.mpr ⟨(List.nodup_append.mp n').1, n2, fun a ha b hb => (List.nodup_append.mp n').2.2 a ha b (m2 b hb)⟩
      · rcases List.mem_append.mp m with m | m
        · exact x' a m
        · exact k'.out a (m2 a m)
      · rcases List.mem_append.mp m with m | m
        · exact List.mem_append_left _ m
        · exact List.mem_append_right _ (m2 a m)
    | some (.nx Γ'), h =>
      intro σ' F' H' O' k' st kp
      obtain ⟨O2, r2, n2, m2⟩ := outs k' kp
      exact h .non F' H' O2 [] k'.sub r2 (repFrz .non) n2 (fun a m => k'.out a (m2 a m)) (st.less fun a m => m2 a m)
    | some (.ex c Γ'), h =>
      intro σ' F' H' O' k' st kp
      exact h F' H' k'.sub (st.less fun a m => nomatch m)
end TW

/-! {i: j} as a value -/
namespace TW
open PySem PySem.Spec PyProof.Rows L2
def fzD : T → Option PyData
  | .dct [(.inl i, .int j)] => some (.dict [(.int i, .int j)])
  | _ => none
/-- a dict of one entry, two numbers, frozen -/
def mDct1 (mk m : M PyData) : M PyData := bM (mDisp1 mk m) fun t => oM (fzD t)
theorem RepT.fzD {K : PySem.W.Frag} {F H : Hp} {t : T} {v : V} {o : List Addr} {d : PyData} (h : RepT K F H t v o) (e : fzD t = some d) : Df K (icy F H o) v d := by
  unfold TW.fzD at e
  split at e
  · cases e
    unfold RepT at h
    obtain ⟨a, ps, rfl, ha, hp, rfl⟩ := h
    cases hp with
    | cons h1 h2 =>
      cases h2
      rename_i q
      obtain ⟨k, y⟩ := q
      obtain ⟨e1, e2⟩ := h1
      dsimp only at e1 e2
      cases e2
      subst e1
      exact .dc1 ((icy_at (List.mem_cons_self ..)).trans ha)
  · cases e
section
variable {X : Cx} {W : WX} {pos : Pos} {k e : Expr} {mk m : M PyData}
theorem vd_dct1 (hk : VD X W k mk) (he : VD X W e m) : VD X W (.Dict [some k] [e] pos) (mDct1 mk m) := by
  obtain ⟨t, p, s⟩ := vt_disp1 (pos := pos) hk he
  refine ⟨t, p, fun Γ σ F H O Q k h => s Γ σ F H O Q k ?_⟩
  unfold mDct1 at h
  refine HitN.bindT h fun t Γ1 v F1 H1 O1 o k1 r n x s1 h1 => ?_
  unfold oM at h1
  cases q : fzD t with
  | none => rw [q] at h1; exact h1.elim
  | some d =>
    rw [q] at h1
    refine h1 v (icy F1 H1 o) H1 O1 ⟨icy_sub k1.sub, RepG.mono (icy_same x) k1.rep fun _ _ => rfl, k1.nd, fun a m => ?_⟩ (RepT.fzD r q) (Step.ice x)
    rw [icy_off fun q => (List.nodup_append.mp n).2.2 a q a m rfl]
    exact k1.out a m
end
end TW

/-! set | set: tables of the sizes that come, merging, the rule, sorted(set(a) op set(b)) -/
namespace TW
open PySem PySem.Spec PyProof.Rows L2
abbrev Mk (m : Nat) : Prop := m = 7 ∨ m = 15 ∨ m = 31 ∨ m = 63 ∨ m = 127 ∨ m = 255
def orb (m : Nat) : Nat → Nat → List Nat
  | 0, _ => []
  | n + 1, i => i :: orb m n ((i * 5 + 1) % (m + 1))
theorem orb_at {m : Nat} : ∀ {n i j : Nat}, j ∈ orb m n i → ∃ k, k < n ∧ lcgI m i k = j := by
  have sh : ∀ (m i k : Nat), lcgI m ((i * 5 + 1) % (m + 1)) k = lcgI m i (k + 1) := by
    intro m i k
    induction k with
    | zero => rfl
    | succ k ih =>
      show (lcgI m ((i * 5 + 1) % (m + 1)) k * 5 + 1) % (m + 1) = (lcgI m i (k + 1) * 5 + 1) % (m + 1)
      rw [ih]
  intro n
  induction n with
  | zero => intro i j h; cases h
  | succ n ih =>
    intro i j h
    rcases List.mem_cons.mp h with rfl | h
    · exact ⟨0, Nat.succ_pos _, rfl⟩
    · obtain ⟨k, hk, e⟩ := ih h
      exact ⟨k + 1, Nat.succ_lt_succ hk, by rw [← sh]; exact e⟩
def orbOk (m : Nat) : Bool := (List.range (m + 1)).all fun j => (orb m (m + 1) 0).contains j
def rndOk (m : Nat) : Bool := decide (lcgN m (m + 1) = 0)
theorem orb_all : (orbOk 7 && orbOk 15 && orbOk 31 && orbOk 63 && orbOk 127 && orbOk 255 && (rndOk 7 && rndOk 15 && rndOk 31 && rndOk 63 && rndOk 127 && rndOk 255)) = true := by decide +kernel
theorem mk_orb {m : Nat} (hm : Mk m) : orbOk m = true ∧ rndOk m = true := by
  have h := orb_all
  simp only [Bool.and_eq_true] at h
  obtain ⟨⟨⟨⟨⟨⟨a, b⟩, c⟩, d⟩, e⟩, f⟩, ⟨⟨⟨⟨g, i⟩, j⟩, k⟩, l⟩, o⟩ := h
  rcases hm with rfl | rfl | rfl | rfl | rfl | rfl
  · exact ⟨a, g⟩
  · exact ⟨b, i⟩
  · exact ⟨c, j⟩
  · exact ⟨d, k⟩
  · exact ⟨e, l⟩
  · exact ⟨f, o⟩
theorem lcg_eq (m : Nat) : ∀ k, lcgI m 0 k = lcgN m k
  | 0 => rfl
  | k + 1 => by
    show (lcgI m 0 k * 5 + 1) % (m + 1) = (lcgN m k * 5 + 1) % (m + 1)
    rw [lcg_eq m k]
theorem mk_all {m : Nat} (hm : Mk m) {j : Nat} (hj : j ≤ m) : ∃ b, b ≤ m ∧ lcgN m b = j := by
  have h := List.all_eq_true.mp (mk_orb hm).1 j (List.mem_range.mpr (Nat.lt_succ_of_le hj))
  obtain ⟨k, hk, e⟩ := orb_at (List.contains_iff_mem.mp h)
  exact ⟨k, Nat.le_of_lt_succ hk, by rw [← lcg_eq]; exact e⟩
theorem mk_round {m : Nat} (hm : Mk m) : ∀ k, lcgN m (m + 1 + k) = lcgN m k
  | 0 => of_decide_eq_true (mk_orb hm).2
  | k + 1 => by
    show (lcgN m (m + 1 + k) * 5 + 1) % (m + 1) = (lcgN m k * 5 + 1) % (m + 1)
    rw [mk_round hm k]
/-- each slot begins a run in time -/
theorem mk_meets {m : Nat} (hm : Mk m) (h : Int) {j : Nat} (hj : j ≤ m) : ∃ n, n < SetTable.turns m ∧ (itL m (SetTable.bits h % (m + 1)) (SetTable.bits h) n).1 = j := by
  obtain ⟨a, ha, ea⟩ := mk_all hm (runI_le m (SetTable.bits h) 12)
  obtain ⟨b, hb, eb⟩ := mk_all hm hj
  have go : ∀ k, k ≤ m → lcgI m (runI m (SetTable.bits h) 12) k = j → ∃ n, n < SetTable.turns m ∧ (itL m (SetTable.bits h % (m + 1)) (SetTable.bits h) n).1 = j := fun k hk e =>
    ⟨12 + k, by unfold SetTable.turns; omega, by rw [itL_run, runI_tail (bits_lt h)]; exact e⟩
  rcases Nat.lt_or_ge b a with c | c
  · exact go (b + (m + 1) - a) (by omega) (by rw [← ea, lcgN_add, show a + (b + (m + 1) - a) = m + 1 + b by omega, mk_round hm, eb])
  · exact go (b - a) (by omega) (by rw [← ea, lcgN_add, show a + (b - a) = b by omega, eb])
theorem free_gets (m : Nat) (owner : Array (Option Nat)) : ∀ (f n i b : Nat), n < f → oAt owner (itL m i b n).1 = none → ∃ j, SetTable.layClean.free m owner f i b = some j ∧ oAt owner j = none := by
  intro f
  induction f with
  | zero => intro n i b h; exact absurd h (Nat.not_lt_zero _)
  | succ f ih =>
    intro n i b h e
    rw [free_succ]
    cases hf : (List.range (SetTable.runEnd m i + 1 - i)).find? fun k => (oAt owner (i + k)).isNone with
    | some k =>
      have q := List.find?_some hf
      exact ⟨i + k, rfl, Option.isNone_iff_eq_none.mp q⟩
    | none =>
      cases n with
      | zero =>
        exfalso
        have hr : 0 < SetTable.runEnd m i + 1 - i := by have := runEnd_ge m i; omega
        have q := List.find?_eq_none.mp hf 0 (List.mem_range.mpr hr)
        exact q (by rw [Nat.add_zero]; exact Option.isNone_iff_eq_none.mpr e)
      | succ n => exact ih n _ _ (by omega) e
structure Sits (m n : Nat) (owner : Array (Option Nat)) : Prop where
  sz : owner.size = m + 1
  all : ∀ k, k < n → ∃ j, j ≤ m ∧ oAt owner j = some k
  ps : ∃ ps : List Nat, ps.length = n ∧ ∀ j, j ≤ m → oAt owner j ≠ none → j ∈ ps
theorem oAt_out {owner : Array (Option Nat)} {j : Nat} (h : oAt owner j = none) : j < owner.size := by
  rcases Nat.lt_or_ge j owner.size with c | c
  · exact c
  · have h2 : owner.getD j (some 0) = none := h
    rw [Array.getD_eq_getD_getElem?, Array.getElem?_eq_none c] at h2
    cases h2
theorem Sits.init (m : Nat) : Sits m 0 (Array.replicate (m + 1) none) where
  sz := by simp
  all := fun k hk => absurd hk (Nat.not_lt_zero _)
  ps := ⟨[], rfl, fun j hj e => absurd (oAt_init hj) e⟩
theorem Sits.step {m n : Nat} (hm : Mk m) {owner : Array (Option Nat)} (W : Sits m n owner) (hl : n ≤ m) (h : Int) :
    ∃ j, SetTable.layClean.free m owner (SetTable.turns m) (SetTable.bits h % (m + 1)) (SetTable.bits h) = some j ∧ Sits m (n + 1) (owner.setIfInBounds j (some n)) := by
  obtain ⟨ps, hps, hin⟩ := W.ps
  obtain ⟨j0, h0, hn0⟩ := st_missing ps (m + 1) (by omega)
  have hj0 : oAt owner j0 = none := by
    cases z : oAt owner j0 with
    | none => rfl
    | some k => exact absurd (hin j0 (Nat.le_of_lt_succ h0) (by rw [z]; exact fun e => nomatch e)) hn0
  obtain ⟨r, hr, er⟩ := mk_meets hm h (Nat.le_of_lt_succ h0)
  obtain ⟨j, e1, e2⟩ := free_gets m owner (SetTable.turns m) r _ _ hr (by rw [er]; exact hj0)
  have hjs := oAt_out e2
  have hself := oAt_set_self (some n) hjs
  refine ⟨j, e1, by rw [Array.size_setIfInBounds]; exact W.sz, fun k hk => ?_, j :: ps, by rw [List.length_cons, hps], fun i hi e => ?_⟩
  · by_cases c : k < n
    · obtain ⟨i, hi, ei⟩ := W.all k c
      exact ⟨i, hi, by rw [oAt_set_ne _ (fun z => by rw [z, e2] at ei; cases ei)]; exact ei⟩
    · have ek : k = n := by omega
      subst ek
      exact ⟨j, by have := W.sz; omega, hself⟩
  · by_cases c : i = j
    · rw [c]; exact List.mem_cons_self
    · rw [oAt_set_ne _ c] at e
      exact List.mem_cons_of_mem _ (hin i hi e)
theorem sits_fold {m : Nat} (hm : Mk m) : ∀ (rest : List Int) (n : Nat) (owner : Array (Option Nat)), Sits m n owner → n + rest.length ≤ m →
    ∃ owner', rest.foldl (stepF m) (some (owner, n)) = some (owner', n + rest.length) ∧ Sits m (n + rest.length) owner'
  | [], n, owner, W, _ => ⟨owner, rfl, W⟩
  | h :: rest, n, owner, W, hl => by
    rw [List.length_cons] at hl
    obtain ⟨j, e, W'⟩ := W.step hm (by omega) h
    obtain ⟨owner', f, W2⟩ := sits_fold hm rest (n + 1) _ W' (by omega)
    have ea : n + 1 + rest.length = n + (h :: rest).length := by rw [List.length_cons]; omega
    rw [ea] at f W2
    exact ⟨owner', by rw [List.foldl_cons, stepF_some e]; exact f, W2⟩
theorem lay_ok {m : Nat} (hm : Mk m) {hs : Array Int} (hn : hs.size ≤ m) : ∃ owner, SetTable.layClean m hs = some owner ∧ Sits m hs.size owner := by
  obtain ⟨owner, f, W⟩ := sits_fold hm hs.toList 0 _ (Sits.init m) (by rw [Array.length_toList]; omega)
  rw [Array.length_toList, Nat.zero_add] at W
  exact ⟨owner, by rw [layClean_eq, f]; rfl, W⟩
theorem laid_ok {m : Nat} (hm : Mk m) {hs : Array Int} (hn : hs.size ≤ m) (fg mv : Nat) (ld pl : Bool) :
    ∃ t order, SetTable.laid m fg mv ld pl hs = some (t, order) ∧ order.toList.Perm (List.range hs.size) ∧ Ris t.place.toList ∧ t.fits hs.size = true ∧ t.mask = m ∧ t.led = ld ∧ t.dummies = #[] := by
  obtain ⟨owner, e, W⟩ := lay_ok hm hn
  have ris := ris_live (fun j => owner.getD j none) (List.range (m + 1)) (by
    unfold Ris
    first | exact List.pairwise_lt_range | exact List.pairwise_lt_range _)
  have r1 : Ris ((liveOf m owner).map (·.1)) := ris.1
  have nd : ((liveOf m owner).map (·.1)).Nodup := List.Pairwise.imp (fun h => Nat.ne_of_lt h) r1
  have hall : ∀ k, k < hs.size → k ∈ (liveOf m owner).map (·.2) := fun k hk => by
    obtain ⟨j, b1, b2⟩ := W.all k hk
    exact List.mem_map.mpr ⟨(j, k), (mem_live W.sz).2 ⟨b1, b2⟩, rfl⟩
  have hlen : (liveOf m owner).length = hs.size := by
    obtain ⟨ps, p1, p2⟩ := W.ps
    have a := nat_nodup_len ((liveOf m owner).map (·.1)) ps nd fun x hx => by
      obtain ⟨⟨y, k⟩, hq, eq1⟩ := List.mem_map.mp hx
      have ey : y = x := eq1
      subst ey
      obtain ⟨b1, b2⟩ := (mem_live W.sz).1 hq
      exact p2 y b1 (by rw [b2]; exact fun z => nomatch z)
    have b := nat_nodup_len (List.range hs.size) ((liveOf m owner).map (·.2)) List.nodup_range fun k hk => hall k (List.mem_range.mp hk)
    rw [List.length_map, p1] at a
    rw [List.length_map, List.length_range] at b
    omega
  refine ⟨{ mask := m, place := ((liveOf m owner).map (·.1)).toArray, dummies := #[], finger := fg, led := ld, moves := mv, plain := pl }, ((liveOf m owner).map (·.2)).toArray, ?_, ?_, r1, ?_, rfl, rfl, rfl⟩
  · show (SetTable.layClean m hs).bind _ = _
    rw [e]
    rfl
  · exact perm_range hs.size _ (by show ((liveOf m owner).map (·.2)).length = _; rw [List.length_map]; exact hlen) hall
  · unfold SetTable.fits SetTable.fill
    rw [Bool.and_eq_true, beq_iff_eq, decide_eq_true_eq]
    show ((liveOf m owner).map (·.1)).toArray.size = hs.size ∧ ((liveOf m owner).map (·.1)).toArray.size + 0 ≤ m
    rw [List.size_toArray, List.length_map, hlen]
    omega
/-- the elements by an order -/
theorem by_order {es : Array (Int × Value)} {order : Array Nat} (hp : order.toList.Perm (List.range es.size)) : (order.filterMap (es[·]?)).toList.Perm es.toList := by
  have h2 : (List.range es.size).filterMap (fun i => es[i]?) = es.toList := by
    have key : ∀ n, n ≤ es.toList.length → (List.range n).filterMap (fun i => es[i]?) = es.toList.take n := by
      intro n
      induction n with
      | zero => intro _; rfl
      | succ n ih =>
        intro hn
        have hlt : n < es.toList.length := hn
        have e1 : es[n]? = some es.toList[n] := by rw [← Array.getElem?_toList, List.getElem?_eq_getElem hlt]
        rw [List.range_succ, List.filterMap_append, ih (Nat.le_of_lt hlt), List.take_succ, List.getElem?_eq_getElem hlt, List.filterMap_cons_some e1]
        rfl
    have k2 := key es.size (Nat.le_of_eq Array.length_toList.symm)
    rw [k2, List.take_of_length_le (Nat.le_of_eq Array.length_toList)]
  have h1 := hp.filterMap fun i => es[i]?
  rw [h2] at h1
  rw [Array.toList_filterMap]
  exact h1
section
variable {P : Program} {w : World} {A : Around} {E : Value → Shared → Prop} {s : Shared} {a b : Addr}
theorem relay_any {o : Obj} {es : Array (Int × Value)} {ep : Nat} {t : SetTable} (ho : s.heap.get? a = some o) (hd : o.data = .set es ep t) (hf : t.fits es.size = true) {wanted M : Nat}
    (hw : SetTable.sizeAbove wanted - 1 = M) (hM : Mk M) (hn : es.size ≤ M) (hz : SetTable.sizeAbove wanted ≤ 256) {Q : Unit → Shared → Prop}
    (hQ : ∀ es' t', es'.toList.Perm es.toList → Ris t'.place.toList → t'.fits es'.size = true → t'.led = t.led → t'.mask = M → t'.dummies = #[] → Q () { s with heap := s.heap.update a (Obj.putSet es' t') }) :
    wpAny (model P w) A (setRelay a wanted) Q E s := by
  obtain ⟨t', order, e, hp, r1, r2, r3, r4, r5⟩ := laid_ok hM (hs := es.map (·.1)) (by rw [Array.size_map]; exact hn) t.finger (t.movedTo M) t.led t.plain
  have e2 : t.relaid (es.map (·.1)) wanted = some (t', order) := by
    unfold SetTable.relaid
    rw [hw]
    exact e
  rw [Array.size_map] at hp r2
  have pm := by_order hp
  have hs2 : (order.filterMap (es[·]?)).size = es.size := by rw [← Array.length_toList, pm.length_eq, Array.length_toList]
  rw [setRelay_eq]
  refine wpAny_bind (wpAny_setState_of ho hd hf ?_)
  dsimp only
  refine wp_if_neg (by rw [sizeLine_eq]; omega) ?_
  try refine wpAny_bind (wpAny_pure ?_)
  rw [e2]
  dsimp only
  refine wpAny_bind ?_
  refine wp_if_neg (by rw [hs2]; simp) ?_
  try refine wpAny_bind (wpAny_pure ?_)
  refine wpAny_pure ?_
  dsimp only
  refine wpAny_storeSet_of ho hd ?_ (by rw [hs2, sizeLine_eq]; have : M ≤ 255 := by omega
                                        omega)
  exact hQ _ t' pm r1 (by rw [hs2]; exact r2) r4 r3 r5
theorem mk_sizes : ((List.range 241).all fun v => decide (SetTable.sizeAbove v ≤ 256 ∧ v ≤ SetTable.sizeAbove v - 1 ∧ (SetTable.sizeAbove v - 1 = 7 ∨ SetTable.sizeAbove v - 1 = 15 ∨ SetTable.sizeAbove v - 1 = 31 ∨ SetTable.sizeAbove v - 1 = 63 ∨ SetTable.sizeAbove v - 1 = 127 ∨ SetTable.sizeAbove v - 1 = 255))) = true := by decide +kernel
theorem mk_size {v : Nat} (h : v ≤ 240) : SetTable.sizeAbove v ≤ 256 ∧ v ≤ SetTable.sizeAbove v - 1 ∧ Mk (SetTable.sizeAbove v - 1) := of_decide_eq_true (List.all_eq_true.mp mk_sizes v (List.mem_range.mpr (by omega)))
theorem room_any {o : Obj} {es : Array (Int × Value)} {ep : Nat} {t : SetTable} (ho : s.heap.get? a = some o) (hd : o.data = .set es ep t) (hf : t.fits es.size = true) (hr : Ris t.place.toList) {more : Nat} (hm : es.size + more ≤ 120) {Q : Unit → Shared → Prop}
    (hQ : ∀ h' es' ep' t', Heap.SameBut a s.heap h' → h'.get? a = some { o with data := .set es' ep' t' } → es'.toList.Perm es.toList → Ris t'.place.toList → t'.fits es'.size = true → t'.led = t.led → (t.mask = 7 → es.size = 0 → t.dummies = #[] → Mk t'.mask ∧ more ≤ t'.mask ∧ t'.dummies = #[]) → Q () { s with heap := h' }) :
    wpAny (model P w) A (setRoomFor a more) Q E s := by
  have hps : t.place.size = es.size := by
    unfold SetTable.fits at hf
    rw [Bool.and_eq_true, beq_iff_eq] at hf
    exact hf.1
  unfold setRoomFor
  refine wpAny_bind (wpAny_setState_of ho hd hf ?_)
  dsimp only
  unfold SetTable.roomFor
  by_cases c : (t.fill + more) * 5 ≥ t.mask * 3
  · rw [if_pos c]
    dsimp only
    obtain ⟨z1, z2, z3⟩ := mk_size (v := (t.place.size + more) * 2) (by omega)
    refine relay_any ho hd hf rfl z3 (by omega) z1 fun es' t' pm r1 r2 r3 r4 r5 => ?_
    refine hQ _ es' (ep + 1) t' (Heap.SameBut.update ..) (store_at ho hd) pm r1 r2 r3 fun _ _ _ => ?_
    rw [r4]
    exact ⟨z3, by omega, r5⟩
  · rw [if_neg c]
    dsimp only
    have e : o = { o with data := .set es ep t } := by rw [← hd]
    refine wpAny_pure (hQ s.heap es ep t (Heap.SameBut.refl ..) (by rw [← e]; exact ho) (List.Perm.refl _) hr hf rfl fun m7 z d => ?_)
    rw [m7]
    refine ⟨.inl rfl, ?_, d⟩
    have hfill : t.fill = 0 := by
      unfold SetTable.fill
      rw [d, hps, z]
      rfl
    rw [hfill, m7] at c
    omega
end
section
variable {P : Program} {w : World} {A : Around} {E : Value → Shared → Prop} {s : Shared} {a b : Addr}
/-- what a fresh set is -/
def SetF (w : World) (h : Heap) (a : Addr) : Prop := ∃ o ep t, h.get? a = some o ∧ o.ExactSet ∧ o.data = .set #[] ep t ∧ t.mask = 7 ∧ t.place = #[] ∧ t.dummies = #[] ∧ (w.params.followText "set-order" = true ∨ t.led = true)
theorem SetF.setR {h : Heap} (F : SetF w h a) : SetR w h a (fun _ => false) 0 := by
  obtain ⟨o, ep, t, ho, hx, hd, m7, p0, d0, hl⟩ := F
  refine ⟨o, #[], ep, t, ho, hx, hd, (fun e he => by simp at he), (by simp), (fun k => by simp), (by decide), ?_, rfl, ?_, hl⟩
  · unfold SetTable.fits SetTable.fill
    rw [p0, d0, m7]
    rfl
  · rw [p0]; exact List.Pairwise.nil
/-- into a fresh set -/
theorem merge_fresh {each : Sem Unit} {S : Int → Bool} {n : Nat} (F : SetF w s.heap a) (R : SetR w s.heap b S n) (hne : a ≠ b) (hn : n ≤ 120) {Q : Unit → Shared → Prop}
    (hQ : ∀ h', Heap.SameBut a s.heap h' → SetR w h' a S n → (n = 0 → h' = s.heap) → Q () { s with heap := h' }) : wpAny (model P w) A (setMerge a b each) Q E s := by
  have F' := F
  obtain ⟨oa, epa, ta, hoa, hxa, hda, m7, p0, d0, hla⟩ := F
  obtain ⟨ob, eb, epb, tb, hob, hxb, hdb, g, nd, hm, hbb, hfb, hnb, hrb, hlb⟩ := R
  have hfa : ta.fits (#[] : Array (Int × Value)).size = true := by
    unfold SetTable.fits SetTable.fill
    rw [p0, d0, m7]
    rfl
  unfold setMerge
  refine wp_if_neg (by simpa using hne) ?_
  try refine wpAny_bind (wpAny_pure ?_)
  refine wpAny_bind (wpAny_setState_of hob hdb hfb ?_)
  dsimp only
  by_cases c : eb.isEmpty = true
  · refine wp_if_pos c ?_
    have z : n = 0 := by rw [← hnb]; simpa using c
    subst z
    refine wpAny_pure (hQ s.heap (Heap.SameBut.refl ..) (F'.setR.congr fun k => ?_) fun _ => rfl)
    cases q : S k with
    | false => rfl
    | true =>
      have := (hm k).1 q
      have e0 : eb = #[] := by simpa using c
      rw [e0] at this
      cases this
  · refine wp_if_neg c ?_
    try refine wpAny_bind (wpAny_pure ?_)
    refine wpAny_bind (room_any hoa hda hfa (by rw [p0]; exact List.Pairwise.nil) (by show 0 + eb.size ≤ 120; omega) fun h' es' ep' t' sb ho' pm r1 r2 r3 r4 => ?_)
    obtain ⟨k1, k2, k3⟩ := r4 m7 rfl d0
    have z0 : es' = #[] := by
      have := pm.length_eq
      rw [Array.length_toList] at this
      exact Array.eq_empty_of_size_eq_zero this
    subst z0
    have hps : t'.place.size = 0 := by
      unfold SetTable.fits at r2
      rw [Bool.and_eq_true, beq_iff_eq] at r2
      exact r2.1
    refine wpAny_bind (wpAny_setState_of (s := { s with heap := h' }) ho' rfl r2 ?_)
    dsimp only
    have hlt : w.params.followText "set-order" = true ∨ (t'.led && tb.led) = true := by
      rcases hla with z | z
      · exact .inl z
      · rcases hlb with y | y
        · exact .inl y
        · exact .inr (by rw [r3, z, y]; rfl)
    have fin : ∀ (es2 : Array (Int × Value)) (t2 : SetTable), es2.toList.Perm eb.toList → Ris t2.place.toList → t2.fits es2.size = true → (w.params.followText "set-order" = true ∨ t2.led = true) → wpAny (model P w) A (storeSet a es2 t2) Q E { s with heap := h' } := fun es2 t2 pm2 q1 q2 q3 => by
      have hs2 : es2.size = n := by rw [← hnb, ← Array.length_toList, pm2.length_eq, Array.length_toList]
      refine wpAny_storeSet_of (s := { s with heap := h' }) ho' rfl ?_ (by rw [hs2, sizeLine_eq]; omega)
      refine hQ (h'.update a (Obj.putSet es2 t2)) (sb.trans (Heap.SameBut.update ..)) ⟨_, es2, _, t2, store_at ho' rfl, hxa, rfl, fun e he => g e (pm2.mem_iff.mp he), (pm2.map keyOf).nodup_iff.mpr nd, fun k => (hm k).trans (pm2.map keyOf).mem_iff.symm, by rw [hs2]; unfold scanBound; omega, q2, hs2, q1, q3⟩ fun z => ?_
      exfalso
      rw [z] at hnb
      exact c (by simpa using hnb)
    have hfill : t'.fill = 0 := by
      unfold SetTable.fill
      rw [hps, k3]
      rfl
    unfold SetTable.road
    rw [hfill]
    simp only [bne_self_eq_false, Bool.false_eq_true, if_false]
    by_cases e : (t'.mask == tb.mask && tb.dummies.isEmpty) = true
    · rw [if_pos e]
      dsimp only
      refine fin eb _ (List.Perm.refl _) hrb ?_ hlt
      exact hfb
    · rw [if_neg e]
      dsimp only
      obtain ⟨t2, order, e2, hp, q1, q2, _, q3, _⟩ := laid_ok k1 (hs := eb.map (·.1)) (by rw [Array.size_map]; exact k2) t'.finger t'.moves (t'.led && tb.led) (t'.plain && tb.plain)
      rw [Array.size_map] at hp q2
      have pm2 := by_order hp
      have hs2 : (order.filterMap (eb[·]?)).size = eb.size := by rw [← Array.length_toList, pm2.length_eq, Array.length_toList]
      rw [e2]
      refine wpAny_bind ?_
      wp_delta
      dsimp only
      refine wp_if_neg (by rw [hs2]; simp) ?_
      try refine wpAny_bind (wpAny_pure ?_)
      refine wpAny_pure ?_
      exact fin _ t2 pm2 q1 (by rw [hs2]; exact q2) (by rw [q3]; exact hlt)
end
section
variable {P : Program} {w : World} {A : Around} {E : Value → Shared → Prop} {s : Shared} {a b : Addr}
theorem walk_all {S : Int → Bool} {n : Nat} {o : Obj} {es : Array (Int × Value)} {ep : Nat} {t : SetTable} (ho : s.heap.get? b = some o) (hd : o.data = .set es ep t) (hf : t.fits es.size = true) (hl : w.params.followText "set-order" = true ∨ t.led = true)
    {Q : Array (Int × Value) → Shared → Prop} (hQ : ∀ es' dr, es'.toList.Perm es.toList → Q es' { s with drawn := dr }) : wpAny (model P w) A (setWalk b) Q E s := by
  unfold setWalk
  refine wpAny_bind (wpAny_setState_of ho hd hf ?_)
  dsimp only
  refine wpAny_bind (wpAny_byText ?_)
  by_cases c : w.params.followText "set-order" = true
  · refine wp_if_pos c ?_
    exact wpAny_bind (wpAny_askSetting (wpAny_pure (hQ _ s.drawn (pick_perm _ _))))
  · refine wp_if_neg c ?_
    try refine wpAny_bind (wpAny_pure ?_)
    have hled : t.led = true := hl.resolve_left c
    by_cases d : (!t.plain && decide (es.size > 1)) = true
    · refine wp_if_pos d ?_
      exact wpAny_bind (drawOrder_at _ _ _ _ (Nat.le_of_eq Array.length_toList) fun ys dr hp => wpAny_pure (hQ _ dr (by simpa using hp)))
    · refine wp_if_neg d ?_
      try refine wpAny_bind (wpAny_pure ?_)
      refine wpAny_bind (wpAny_of_eq (a := ()) ?_ ?_)
      · show (if (!t.led && decide (es.size > 1)) = true then unsupported "set:maker-not-led" else pure ()) = pure ()
        rw [hled] <;> rfl
      · exact wpAny_pure (hQ es s.drawn (List.Perm.refl _))
theorem quiet_all (l : List Addr) (hl : ∀ c ∈ l, ∃ S n, SetR w s.heap c S n) {Q : Bool → Shared → Prop} (hQ : Q true s) : wpAny (model P w) A (setsQuiet l) Q E s := by
  unfold setsQuiet
  refine wpAny_bind ?_
  refine wpAny_forIn_list _ (fun rest st s' => s' = s ∧ st.1 = none ∧ ∀ c ∈ rest, ∃ S n, SetR w s.heap c S n) _ ?_ ?_ l _ ⟨rfl, rfl, hl⟩
  · rintro c rest st s' ⟨rfl, e0, hr⟩
    obtain ⟨S, n, o, es, ep, t, ho, hx, hd, g, nd, hm, hbb, hf, hn, hr2, hl2⟩ := hr c List.mem_cons_self
    refine wpAny_bind (wpAny_setEntries_of ho hd hf ?_)
    refine wpAny_bind ?_
    refine wpAny_forIn_array' _ (fun rest2 st2 s2 => s2 = s' ∧ st2.1 = none ∧ ∀ e ∈ rest2, GoodE e) _ ?_ ?_ es _ ⟨rfl, rfl, g⟩
    · rintro ⟨h, x⟩ rest2 st2 s2 ⟨rfl, f0, hg⟩
      obtain ⟨k, tk, e1, e2⟩ := hg _ List.mem_cons_self
      have e1' : x = Value.int k tk := e1
      subst e1'
      exact wpAny_pure ⟨rfl, rfl, fun e he => hg e (List.mem_cons_of_mem _ he)⟩
    · rintro st2 s2 ⟨rfl, f0, _⟩
      obtain ⟨st2a, st2b⟩ := st2
      have f0' : st2a = none := f0
      subst f0'
      exact wpAny_pure ⟨rfl, rfl, fun c hc => hr c (List.mem_cons_of_mem _ hc)⟩
  · rintro st s' ⟨rfl, e0, _⟩
    obtain ⟨sta, stb⟩ := st
    have e0' : sta = none := e0
    subst e0'
    exact wpAny_pure hQ
theorem walk_unseen {S : Int → Bool} {n : Nat} {S2 : Int → Bool} {n2 : Nat} (R : SetR w s.heap a S n) (R2 : SetR w s.heap b S2 n2) {Q : Array (Int × Value) → Shared → Prop}
    (hQ : ∀ es' h' dr, (∀ e ∈ es'.toList, GoodE e) → (∀ k, S2 k = true ↔ k ∈ es'.toList.map keyOf) → es'.size = n2 → (es'.toList.map keyOf).Nodup → Heap.SameBut a s.heap h' → SetR w h' a S n → Q es' { s with heap := h', drawn := dr }) :
    wpAny (model P w) A (setWalkUnseen b [a] (some a)) Q E s := by
  have R' := R
  have R2' := R2
  obtain ⟨ob, es, ep, t, ho, hx, hd, g, nd, hm, hbb, hf, hn, hr, hl⟩ := R2
  have fin : ∀ es' : Array (Int × Value), es'.toList.Perm es.toList → (∀ e ∈ es'.toList, GoodE e) ∧ (∀ k, S2 k = true ↔ k ∈ es'.toList.map keyOf) ∧ es'.size = n2 ∧ (es'.toList.map keyOf).Nodup := fun es' pm =>
    ⟨fun e he => g e (pm.mem_iff.mp he), fun k => (hm k).trans (pm.map keyOf).mem_iff.symm, by rw [← hn, ← Array.length_toList, pm.length_eq, Array.length_toList], (pm.map keyOf).nodup_iff.mpr nd⟩
  have wa : wpAny (model P w) A (setWalk b) Q E s := walk_all (S := S2) (n := n2) ho hd hf hl fun es' dr pm => hQ es' s.heap dr (fin es' pm).1 (fin es' pm).2.1 (fin es' pm).2.2.1 (fin es' pm).2.2.2 (Heap.SameBut.refl ..) R'
  unfold setWalkUnseen
  refine wpAny_bind (wpAny_setState_of ho hd hf ?_)
  dsimp only
  refine wpAny_bind (wpAny_byText ?_)
  by_cases c : (w.params.followText "set-order" || t.led && t.plain || decide (es.size ≤ 1)) = true
  · refine wp_if_pos c ?_
    exact wa
  · refine wp_if_neg c ?_
    try refine wpAny_bind (wpAny_pure ?_)
    refine wpAny_bind (quiet_all [b, a] (fun c hc => ?_) ?_)
    · rcases List.mem_cons.mp hc with rfl | hc
      · exact ⟨S2, n2, R2'⟩
      · rcases List.mem_cons.mp hc with rfl | hc
        · exact ⟨S, n, R'⟩
        · cases hc
    refine wp_if_neg (by simp) ?_
    try refine wpAny_bind (wpAny_pure ?_)
    refine wpAny_bind (wpAny_rule ?_)
    try dsimp only
    obtain ⟨oa, esa, epa, ta, hoa, hxa, hda, ga, nda, hma, hba, hfa, hna, hra, hla⟩ := R
    refine wpAny_bind (wpAny_setState_of hoa hda hfa ?_)
    dsimp only
    have hno : w.params.followText "set-order" = false := by
      cases q : w.params.followText "set-order" with
      | false => rfl
      | true => rw [q] at c; exact absurd rfl c
    have htl : t.led = true := hl.resolve_left (by rw [hno]; exact Bool.false_ne_true)
    have hal : ta.led = true := hla.resolve_left (by rw [hno]; exact Bool.false_ne_true)
    obtain ⟨f1, f2, f3, f4⟩ := fin es (List.Perm.refl _)
    by_cases d : (ta.led && !t.led || ta.plain && !t.plain) = true
    · refine wp_if_pos d ?_
      refine wpAny_bind (wpAny_storeSet_of hoa hda ?_ (fits_of_scanBound hba))
      exact wpAny_pure (hQ es _ s.drawn f1 f2 f3 f4 (Heap.SameBut.update ..) ⟨_, esa, _, _, store_at hoa hda, hxa, rfl, ga, nda, hma, hba, hfa, hna, hra, .inr (by show (ta.led && t.led) = true; rw [hal, htl]; rfl)⟩)
    · refine wp_if_neg d ?_
      try refine wpAny_bind (wpAny_pure ?_)
      exact wpAny_pure (hQ es s.heap s.drawn f1 f2 f3 f4 (Heap.SameBut.refl ..) R')
end
section
variable {P : Program} {w : World} {A : Around} {E : Value → Shared → Prop} {s : Shared} {a b : Addr}
theorem room_setR {S : Int → Bool} {n : Nat} (R : SetR w s.heap a S n) {more : Nat} (hm : n + more ≤ 120) {Q : Unit → Shared → Prop}
    (hQ : ∀ h', Heap.SameBut a s.heap h' → SetR w h' a S n → Q () { s with heap := h' }) : wpAny (model P w) A (setRoomFor a more) Q E s := by
  obtain ⟨o, es, ep, t, ho, hx, hd, g, nd, hm2, hbb, hf, hn, hr, hl⟩ := R
  refine room_any ho hd hf hr (by omega) fun h' es' ep' t' sb ho' pm r1 r2 r3 _ => ?_
  have hsz : es'.size = n := by rw [← hn, ← Array.length_toList, pm.length_eq, Array.length_toList]
  exact hQ h' sb ⟨_, es', ep', t', ho', hx, rfl, fun e he => g e (pm.mem_iff.mp he), (pm.map keyOf).nodup_iff.mpr nd, fun k => (hm2 k).trans (pm.map keyOf).mem_iff.symm, by rw [hsz, ← hn]; exact hbb, r2, hsz, r1, hl.imp id fun z => by rw [r3]; exact z⟩
/-- into a set that has some -/
theorem merge_more {each : Sem Unit} {S : Int → Bool} {n : Nat} {S2 : Int → Bool} {n2 : Nat} {o : Obj} (R : SetR w s.heap a S n) (R2 : SetR w s.heap b S2 n2) (hne : a ≠ b) (h0 : 0 < n) (hn : n + n2 ≤ 120)
    (ho : s.heap.get? b = some o)
    (he : ∀ (s' : Shared) (Q' : Unit → Shared → Prop), s'.heap.get? b = some o → Q' () s' → wpAny (model P w) A each Q' E s') {Q : Unit → Shared → Prop}
    (hQ : ∀ h' dr n', Heap.SameBut a s.heap h' → SetR w h' a (fun k => S k || S2 k) n' → n' ≤ n + n2 → Q () { s with heap := h', drawn := dr }) :
    wpAny (model P w) A (setMerge a b each) Q E s := by
  have R2' := R2
  obtain ⟨ob, eb, epb, tb, hob, hxb, hdb, g, nd, hm, hbb, hfb, hnb, hrb, hlb⟩ := R2
  have eo : ob = o := Option.some.inj (hob.symm.trans ho)
  subst eo
  unfold setMerge
  refine wp_if_neg (by simpa using hne) ?_
  try refine wpAny_bind (wpAny_pure ?_)
  refine wpAny_bind (wpAny_setState_of hob hdb hfb ?_)
  dsimp only
  by_cases c : eb.isEmpty = true
  · refine wp_if_pos c ?_
    have e0 : eb = #[] := by simpa using c
    refine wpAny_pure (hQ s.heap s.drawn n (Heap.SameBut.refl ..) (R.congr fun k => ?_) (Nat.le_add_right _ _))
    have : S2 k = false := by
      cases q : S2 k with
      | false => rfl
      | true =>
        have := (hm k).1 q
        rw [e0] at this
        cases this
    rw [this, Bool.or_false]
  · refine wp_if_neg c ?_
    try refine wpAny_bind (wpAny_pure ?_)
    refine wpAny_bind (room_setR R (by omega) fun h' sb R' => ?_)
    have R3 := R'
    obtain ⟨oa, ea, epa, ta, hoa, hxa, hda, _, _, _, _, hfa, hna, _, _⟩ := R'
    refine wpAny_bind (wpAny_setState_of (s := { s with heap := h' }) hoa hda hfa ?_)
    dsimp only
    have hps : ta.place.size = ea.size := by
      unfold SetTable.fits at hfa
      rw [Bool.and_eq_true, beq_iff_eq] at hfa
      exact hfa.1
    have hfill : (ta.fill != 0) = true := by
      unfold SetTable.fill
      exact bne_iff_ne.mpr (by omega)
    unfold SetTable.road
    rw [if_pos hfill]
    dsimp only
    have hb' : h'.get? b = some ob := (sb.2 b (Ne.symm hne)).trans hob
    refine wpAny_bind (walk_unseen (s := { s with heap := h' }) R3 ⟨ob, eb, epb, tb, hb', hxb, hdb, g, nd, hm, hbb, hfb, hnb, hrb, hlb⟩ fun es' h1 dr g' hm' hsz nd' sb1 R1 => ?_)
    refine wpAny_bind ?_
    refine wpAny_forIn_array' _ (fun rest _ s' => ∃ h2 n', s' = { s with heap := h2, drawn := dr } ∧ Heap.SameBut a s.heap h2 ∧ SetR w h2 a (fun k => S k || (S2 k && !(rest.map keyOf).contains k)) n' ∧ n' + rest.length ≤ n + n2 ∧ (∀ e ∈ rest, GoodE e) ∧ (∀ e ∈ rest, S2 (keyOf e) = true) ∧ (rest.map keyOf).Nodup) _ ?_ ?_ es' _ ⟨h1, n, rfl, sb.trans sb1, R1.congr fun k => ?_, by rw [Array.length_toList, hsz]; omega, g', fun e m => (hm' _).2 (List.mem_map_of_mem m), nd'⟩
    · rintro ⟨h, x⟩ rest u s' ⟨h2, n', rfl, sb2, R3, hl, hg, hs2, hnd⟩
      obtain ⟨k, tk, e1, e2⟩ := hg _ List.mem_cons_self
      have e1' : x = Value.int k tk := e1
      have e2' : h = (intKind P w).hash k := e2
      subst e1' e2'
      dsimp only
      rw [List.length_cons] at hl
      refine wpAny_bind (wpAny_holding (setR_add_hashed (s := { s with heap := h2, drawn := dr }) R3 (by unfold scanBound; omega) fun h3 sb3 R4 => ?_))
      have hb3 : h3.get? b = some ob := by
        rw [sb3.2 b (Ne.symm hne), sb2.2 b (Ne.symm hne)]
        exact hob
      refine wpAny_bind (he { s with heap := h3, drawn := dr } _ hb3 ?_)
      refine wpAny_bind (wpAny_setState_of (s := { s with heap := h3, drawn := dr }) hb3 hdb hfb ?_)
      refine wp_if_neg (by simp) ?_
      try refine wpAny_bind (wpAny_pure ?_)
      have hk2 : S2 k = true := hs2 _ List.mem_cons_self
      refine wpAny_pure ⟨h3, _, rfl, sb2.trans sb3, R4.congr fun j => ?_, ?_, fun e he => hg e (List.mem_cons_of_mem _ he), fun e he => hs2 e (List.mem_cons_of_mem _ he), (List.nodup_cons.mp hnd).2⟩
      · rw [List.map_cons, List.contains_cons]
        show (S j || S2 j && !(rest.map keyOf).contains j) = (S j || S2 j && !(j == k || (rest.map keyOf).contains j) || decide (j = k))
        by_cases c : j = k
        · subst c
          have nc : (rest.map keyOf).contains j = false := by
            cases q : (rest.map keyOf).contains j with
            | false => rfl
            | true => exact absurd (List.contains_iff_mem.mp q) (List.nodup_cons.mp hnd).1
          rw [hk2, nc]
          simp
        · have c1 : (j == k) = false := beq_eq_false_iff_ne.mpr c
          rw [c1, decide_eq_false c]
          simp
      · split <;> omega
    · rintro u s' ⟨h2, n', rfl, sb2, R3, hl, _, _, _⟩
      exact wpAny_pure (hQ h2 dr n' sb2 (R3.congr fun k => by simp) (by simpa using hl))
    · cases q : S2 k with
      | false => simp
      | true =>
        have := (hm' k).1 q
        have c : (es'.toList.map keyOf).contains k = true := List.contains_iff_mem.mpr this
        rw [c]
        simp
end
section
variable {P : Program} {w : World} {A : Around} {E : Value → Shared → Prop} {s : Shared} {a b : Addr}
theorem setR_ty {h : Heap} {S : Int → Bool} {n : Nat} (R : SetR w h a S n) {s : Shared} (e : s.heap = h) : s.TypeIs (.ref a) "set" := by
  subst e
  obtain ⟨o, es, ep, t, ho, hx, _⟩ := R
  exact ⟨o, ho, hx.1⟩
theorem anySet_at {S : Int → Bool} {n : Nat} (R : SetR w s.heap a S n) {Q : Bool → Shared → Prop} (hQ : Q true s) : wpAny (model P w) A (Builtin.Frozenset.isAnySet (.ref a)) Q E s := by
  unfold Builtin.Frozenset.isAnySet
  refine wpAny_bind (wpAny_isInstance (b := true) (setR_ty R rfl) sub_set_self ?_)
  exact wpAny_pure hQ
theorem new_set {Q : Value → Shared → Prop} (hQ : SetF w (s.heap.push { cls := .type "set", dict := none, data := .set #[] 0 (.fresh 0 0 (!w.params.followText "set-order")) }) s.heap.objs.size →
      Q (.ref s.heap.objs.size) { s with heap := s.heap.push { cls := .type "set", dict := none, data := .set #[] 0 (.fresh 0 0 (!w.params.followText "set-order")) } }) : wpAny (model P w) A (newSet (.type "set")) Q E s := by
  have F : SetF w (s.heap.push { cls := .type "set", dict := none, data := .set #[] 0 (.fresh 0 0 (!w.params.followText "set-order")) }) s.heap.objs.size := ⟨_, 0, _, Heap.get?_push_size _ rfl, ⟨rfl, rfl, rfl⟩, rfl, rfl, rfl, rfl, by
    show _ ∨ (!w.params.followText "set-order") = true
    cases w.params.followText "set-order"
    · exact .inr rfl
    · exact .inl rfl⟩
  unfold newSet
  refine wpAny_bind (wpAny_byText ?_)
  dsimp only
  simp only [newObj]
  refine wpAny_bind (wpAny_alloc ?_)
  exact wpAny_pure (hQ F)
theorem copy_at {S : Int → Bool} {n : Nat} (R : SetR w s.heap a S n) (hn : n ≤ 120) {Q : Value → Shared → Prop}
    (hQ : ∀ h', (∀ c o, s.heap.get? c = some o → h'.get? c = some o) → s.heap.objs.size < h'.objs.size → SetR w h' s.heap.objs.size S n → (n = 0 → SetF w h' s.heap.objs.size) → Q (.ref s.heap.objs.size) { s with heap := h' }) :
    wpAny (model P w) A (Builtin.Frozenset.copyOf a) Q E s := by
  have hlt := R.lt
  unfold Builtin.Frozenset.copyOf
  refine wpAny_bind ?_
  unfold Builtin.Frozenset.baseOf
  refine wpAny_bind (wpAny_isInstance (b := true) (setR_ty R rfl) sub_set_self ?_)
  refine wpAny_pure ?_
  refine wpAny_bind (new_set fun F => ?_)
  refine wpAny_bind (m := Builtin.Frozenset.addrOf _) (wpAny_pure ?_)
  have k : ∀ c o, s.heap.get? c = some o → (s.heap.push { cls := .type "set", dict := none, data := .set #[] 0 (.fresh 0 0 (!w.params.followText "set-order")) }).get? c = some o := fun c o e => Heap.get?_push_of_some _ e
  have R2 := SetR.at R (k a)
  refine wpAny_bind (merge_fresh (s := { s with heap := s.heap.push { cls := .type "set", dict := none, data := .set #[] 0 (.fresh 0 0 (!w.params.followText "set-order")) } }) F R2 (Nat.ne_of_gt hlt) hn fun h' sb R3 z => ?_)
  refine wpAny_pure (hQ h' (fun c o e => ?_) ?_ R3 fun n0 => by rw [z n0]; exact F)
  · have hc : c < s.heap.objs.size := Heap.lt_size e
    rw [sb.2 c (Nat.ne_of_lt hc)]
    exact k c o e
  · rw [sb.1]
    show _ < (s.heap.objs.push _).size
    rw [Array.size_push]
    exact Nat.lt_succ_self _
theorem entry_or : entryFor table "set.__or__" = some Builtin.«frozenset.__or__» := entryFor_alias (id' := "frozenset.__or__") (by kernel_rfl) rfl (by decide +kernel) (by kernel_rfl)
/-- set | set -/
theorem or_at {S : Int → Bool} {n : Nat} {S2 : Int → Bool} {n2 : Nat} (R : SetR w s.heap a S n) (R2 : SetR w s.heap b S2 n2) (hn : n + n2 ≤ 120) {Q : Value → Shared → Prop}
    (hQ : ∀ h' dr n', (∀ c o, s.heap.get? c = some o → h'.get? c = some o) → SetR w h' s.heap.objs.size (fun k => S k || S2 k) n' → n' ≤ n + n2 → Q (.ref s.heap.objs.size) { s with heap := h', drawn := dr }) :
    wpAny (model P w) A (binaryOp .BitOr (.ref a) (.ref b)) Q E s := by
  refine wpAny_binaryOp_same (T := "set") (id := "set.__or__") (op := .BitOr) (setR_ty R rfl) (setR_ty R2 rfl) F.fills_set_or F.slot_set_or ?_
  refine wpAny_call_entry F.slot_set_or (setR_ty R rfl) entry_or ?_ (F.args_set_or_2 _ _)
  unfold Builtin.«frozenset.__or__»
  wp_delta
  unfold Builtin.Frozenset.slot1 slotArgs
  simp only [List.isEmpty_nil, Bool.not_true, Bool.false_eq_true, ↓reduceIte, bind_assoc, List.length_cons, List.length_nil, bne_self_eq_false]
  refine wpAny_bind (wpAny_pure ?_)
  try dsimp only
  refine wpAny_bind (wpAny_pure ?_)
  try dsimp only
  refine wpAny_bind (wpAny_bind (anySet_at R ?_))
  show wpAny _ _ (Builtin.Frozenset.isAnySet (Value.ref b)) _ _ _
  refine anySet_at R2 ?_
  refine wp_if_neg (by simp) ?_
  refine wpAny_bind (m := Builtin.Frozenset.addrOf _) (wpAny_pure ?_)
  refine wpAny_bind ?_
  refine wpAny_mono (Q := fun v s' => v ≠ .notImplemented ∧ Q v s') ?_ (fun v s' h => wpAny_pure ⟨_, rfl, h.1, h.2⟩) fun _ _ h => h
  have hQ : ∀ h' dr n', (∀ c o, s.heap.get? c = some o → h'.get? c = some o) → SetR w h' s.heap.objs.size (fun k => S k || S2 k) n' → n' ≤ n + n2 → Value.ref s.heap.objs.size ≠ .notImplemented ∧ Q (.ref s.heap.objs.size) { s with heap := h', drawn := dr } := fun h' dr n' k R hl => ⟨(fun e => nomatch e), hQ h' dr n' k R hl⟩
  wp_delta
  refine wpAny_bind (copy_at R (by omega) fun h' k hsz R3 hF => ?_)
  by_cases c : a = b
  · subst c
    refine wp_if_neg (by simp) ?_
    try refine wpAny_bind (wpAny_pure ?_)
    have hS : ∀ j, S j = S2 j := fun j => by
      obtain ⟨o, es, ep, t, ho, hx, hd, g, nd, hm, _⟩ := R
      obtain ⟨o2, es2, ep2, t2, ho2, hx2, hd2, g2, nd2, hm2, _⟩ := R2
      have e1 : o2 = o := Option.some.inj (ho2.symm.trans ho)
      subst e1
      have e2 := hd.symm.trans hd2
      cases e2
      have := (hm j).trans (hm2 j).symm
      cases q : S j <;> cases r : S2 j <;> simp_all
    exact wpAny_pure (hQ h' s.drawn n k (R3.congr fun j => by rw [← hS j, Bool.or_self]) (Nat.le_add_right _ _))
  · refine wp_if_pos (by simpa using Ne.symm c) ?_
    refine wpAny_bind (m := Builtin.Frozenset.addrOf _) (wpAny_pure ?_)
    refine wpAny_bind (wpAny_holding ?_)
    unfold Builtin.Frozenset.updateFrom
    have R4 := SetR.at R2 (k b)
    refine wpAny_bind (anySet_at (s := { s with heap := h' }) R4 ?_)
    refine wp_if_pos rfl ?_
    refine wpAny_bind (m := Builtin.Frozenset.addrOf _) (wpAny_pure ?_)
    unfold Builtin.Frozenset.merge
    have hne : s.heap.objs.size ≠ b := Nat.ne_of_gt R2.lt
    obtain ⟨ob, eb, epb, tb, hob, hxb, hdb, g, nd, hm, hbb, hfb, hnb, hrb, hlb⟩ := R4
    have R5 : SetR w h' b S2 n2 := ⟨ob, eb, epb, tb, hob, hxb, hdb, g, nd, hm, hbb, hfb, hnb, hrb, hlb⟩
    unfold setEpoch
    refine wpAny_bind (wpAny_bind (wpAny_setState_of (s := { s with heap := h' }) hob hdb hfb (wpAny_pure ?_)))
    dsimp only
    have keep : ∀ h2, Heap.SameBut s.heap.objs.size h' h2 → ∀ c o, s.heap.get? c = some o → h2.get? c = some o := fun h2 sb c o e => by
      rw [sb.2 c (Nat.ne_of_lt (Heap.lt_size e))]
      exact k c o e
    rcases Nat.eq_zero_or_pos n with z | z
    · refine merge_fresh (s := { s with heap := h' }) (hF z) R5 hne (by omega) fun h2 sb R6 _ => ?_
      subst z
      refine wpAny_pure (hQ h2 s.drawn n2 (keep h2 sb) (R6.congr fun j => ?_) (by omega))
      have : S j = false := by
        cases q : S j with
        | false => rfl
        | true =>
          obtain ⟨o, es, ep, t, ho, hx, hd, g, nd, hm, _, _, hz, _⟩ := R
          have e0 : es = #[] := Array.eq_empty_of_size_eq_zero hz
          have := (hm j).1 q
          rw [e0] at this
          cases this
      rw [this, Bool.false_or]
    · refine merge_more (s := { s with heap := h' }) R3 R5 hne z hn hob (fun s' Q' e1 q => ?_) fun h2 dr n' sb R6 hl => ?_
      · unfold Builtin.Frozenset.unchanged setEpoch
        refine wpAny_bind (wpAny_bind (wpAny_setState_of e1 hdb hfb (wpAny_pure ?_)))
        exact wp_if_neg (by simp) (wpAny_pure q)
      · exact wpAny_pure (hQ h2 dr n' (keep h2 sb) R6 hl)
end
section
variable {X : Cx} {W : WX}
/-- two sets, one of them: c tells from both whether a number is in what comes, f the numbers -/
def rSet2 (w : World) (f : List Int → List Int → List Int) : R2 := fun x y H Q => ∃ (a b : Addr) (xs ys : List Int), x = .ref a ∧ y = .ref b ∧ H a = some (SetO w a (fun j => decide (j ∈ xs)) (dd xs).length) ∧ H b = some (SetO w b (fun j => decide (j ∈ ys)) (dd ys).length) ∧ xs.length + ys.length ≤ 120 ∧
  ∀ p, H p = none → Q (.ref p) (upd H p (SetO w p (fun j => decide (j ∈ f xs ys)) (dd (f xs ys)).length))
theorem setO_num {w : World} {h : Heap} {a : Addr} {ns : List Int} {c : Nat} (R : SetR w h a (fun j => decide (j ∈ ns)) c) : c = (dd ns).length := by
  obtain ⟨o, es, ep, t, _, _, _, _, hn, hm, _, _, hsz, _⟩ := R
  rw [← hsz, ← dd_of (ms := es.toList.map keyOf) hn fun k => ((hm k).symm).trans (by simp), List.length_map, Array.length_toList]
def orI (xs ys : List Int) : List Int := xs ++ ys
theorem or_setor : OpR X (binaryOp .BitOr) (rSet2 X.w orI) := by
  intro pins s σ H x y v u Q I rx ry h
  obtain ⟨a, b, xs, ys, rfl, rfl, ha, hb, hz, q⟩ := h
  cases rx
  cases ry
  have lx := dd_len xs
  have ly := dd_len ys
  refine or_at (setO_get I ha) (setO_get I hb) (by omega) fun h' dr n' k R hl => ?_
  have R2 : SetR X.w h' s.heap.objs.size (fun j => decide (j ∈ orI xs ys)) n' := R.congr fun j => by unfold orI; simp
  have en := setO_num R2
  subst en
  have hn : H s.heap.objs.size = none := I.hok.fresh (Nat.le_refl _)
  exact ⟨.ref _, _, I.call (ch := []) (Un.laid k (Nat.le_refl _) hn) (I.hok.laid k (Nat.le_refl _) (setO_new R2)) I.bare (fun _ z => nomatch z), rfl, q _ hn⟩
def rowS (d : PyData) : Option (List Int) := match rowI d with
  | some xs => if xs.length ≤ 120 then some xs else none
  | none => none
theorem rowS_of {d : PyData} {xs : List Int} (h : rowS d = some xs) : rowI d = some xs ∧ xs.length ≤ 120 := by
  unfold rowS at h
  cases e : rowI d with
  | none => rw [e] at h; cases h
  | some ys =>
    rw [e] at h
    dsimp only at h
    by_cases c : ys.length ≤ 120
    · rw [if_pos c] at h
      cases h
      exact ⟨rfl, c⟩
    · rw [if_neg c] at h
      cases h
def row2F (f : List Int → List Int → List Int) (xs ys : List Int) : Option (List Int) := if xs.length + ys.length ≤ 120 ∧ (dd (f xs ys)).length < 64 then some (sortI (dd (f xs ys))) else none
theorem row2_of {f : List Int → List Int → List Int} {xs ys zs : List Int} (h : row2F f xs ys = some zs) : xs.length + ys.length ≤ 120 ∧ (dd (f xs ys)).length < 64 ∧ zs = sortI (dd (f xs ys)) := by
  unfold row2F at h
  by_cases c : xs.length + ys.length ≤ 120 ∧ (dd (f xs ys)).length < 64
  · rw [if_pos c] at h
    cases h
    exact ⟨c.1, c.2, rfl⟩
  · rw [if_neg c] at h
    cases h
/-- sorted(set(a) op set(b)) -/
def mSort2 (f : List Int → List Int → List Int) (ma mb : M PyData) : M T := bM ma fun d => bM (oM (rowS d)) fun xs => bM mb fun e => bM (oM (rowS e)) fun ys => oM ((row2F f xs ys).map fun zs => .lst ((zs.map PyData.int).map .frz))
theorem vt_sort2 {x y : Str} {op : Operator} {f : List Int → List Int → List Int} (ho : OpR X (binaryOp op) (rSet2 X.w f)) {p p2 p3 q q2 q3 pos : Pos} {e1 e2 : Expr} {m1 m2 : M PyData} (hc : X.calm = true) (hm : X.mg x = none) (hv : bootBuiltins x = some (.builtin "sorted")) (hm2 : X.mg y = none) (hv2 : bootBuiltins y = some (.type "set")) (h1 : VP X W e1 m1) (h2 : VP X W e2 m2) (hg : Gl X x := by rfl) (hg2 : Gl X y := by rfl)
    (hst : starEach [e1] X.env = (false, eval e1 X.env) :: starEach [] X.env := by rfl) (hst1 : starEach [e2] X.env = (false, eval e2 X.env) :: starEach [] X.env := by rfl) (hst2 : starEach [.BinOp (.Call (.Name y p2) [e1] [] q2) op (.Call (.Name y p3) [e2] [] q3) q] X.env = (false, eval (.BinOp (.Call (.Name y p2) [e1] [] q2) op (.Call (.Name y p3) [e2] [] q3) q) X.env) :: starEach [] X.env := by rfl)
    (hn : x ≠ "__name__" := by decide) (hd : (x == ("__debug__" : Str)) = false := by decide) (hn2 : y ≠ "__name__" := by decide) (hd2 : (y == ("__debug__" : Str)) = false := by decide) :
    VT X W (.Call (.Name x p) [.BinOp (.Call (.Name y p2) [e1] [] q2) op (.Call (.Name y p3) [e2] [] q3) q] [] pos) (mSort2 f m1 m2) := by
  obtain ⟨t, pe, s⟩ := h1
  obtain ⟨t2, pe2, s2⟩ := h2
  refine ⟨_, pe_callB (cr_sortedSet hc) hg hm hv (pa_cons (pe_op ho (pe_callTy (cr_setTI hc) hg2 hm2 hv2 (pa_cons pe pa_nil hst) hn2 hd2 hst) (pe_callTy (cr_setTI hc) hg2 hm2 hv2 (pa_cons pe2 pa_nil hst1) hn2 hd2 hst1)) pa_nil hst2) hn hd hst2, fun Γ σ F H O Q k h => s Γ σ F H O _ k ?_⟩
  unfold mSort2 at h
  refine HitT.bindN h fun d Γ1 v F1 H1 O1 k1 r1 st1 h1 => ?_
  cases e1 : rowS d with
  | none => rw [e1] at h1; exact h1.elim
  | some xs =>
    rw [e1] at h1
    have h1 : HitT X.K W (rT X.K) (bM m2 (fun e => bM (oM (rowS e)) fun ys => oM ((row2F f xs ys).map fun zs => .lst ((zs.map PyData.int).map .frz))) Γ1) σ F1 H1 O1 Q := h1
    obtain ⟨ex, zx⟩ := rowS_of e1
    obtain ⟨a, rfl, hq⟩ := rows_of k1.sub r1 ex
    refine ⟨a, xs, rfl, hq, by omega, fun pa hpa => ?_⟩
    have g := Grow.new (F := F1) (o := SetO X.w pa (fun j => decide (j ∈ xs)) (dd xs).length) k1.sub hpa
    refine s2 Γ1 σ _ _ O1 _ (k1.grow g) ?_
    refine HitT.bindN (HitT.trans h1 (g.step (O := O1))) fun e Γ2 v2 F2 H2 O2 k2 r2 st2 h2 => ?_
    cases e2 : rowS e with
    | none => rw [e2] at h2; exact h2.elim
    | some ys =>
      rw [e2] at h2
      have h2 : HitT X.K W (rT X.K) (oM ((row2F f xs ys).map fun zs => .lst ((zs.map PyData.int).map .frz)) Γ2) σ F2 H2 O2 Q := h2
      unfold oM at h2
      cases e3 : row2F f xs ys with
      | none => rw [e3] at h2; exact h2.elim
      | some zs =>
        rw [e3] at h2
        obtain ⟨ey, zy⟩ := rowS_of e2
        obtain ⟨z1, z2, rfl⟩ := row2_of e3
        obtain ⟨b, rfl, hq2⟩ := rows_of k2.sub r2 ey
        refine ⟨b, ys, rfl, hq2, by omega, fun pb hpb => ?_⟩
        have ha2 : H2 pa = some (SetO X.w pa (fun j => decide (j ∈ xs)) (dd xs).length) := k2.sub _ _ (st2.f _ _ upd_same)
        have hne : pa ≠ pb := fun z => by rw [← z, ha2] at hpb; cases hpb
        have g2 := Grow.new (F := F2) (o := SetO X.w pb (fun j => decide (j ∈ ys)) (dd ys).length) k2.sub hpb
        refine ⟨pa, pb, xs, ys, rfl, rfl, (upd_ne hne).trans ha2, upd_same, z1, fun pc hpc => ⟨pc, _, _, rfl, upd_same, z2, fun ms l hs hmem _ hl => ?_⟩⟩
        have g3 := Grow.new (F := upd F2 pb (SetO X.w pb (fun j => decide (j ∈ ys)) (dd ys).length)) (o := SetO X.w pc (fun j => decide (j ∈ f xs ys)) (dd (f xs ys)).length) g2.s hpc
        have em : ms = sortI (dd (f xs ys)) := by
          refine sortI_uniq ?_ (hs.imp fun {a b} z => by omega)
          refine (List.perm_ext_iff_of_nodup (hs.imp fun {a b} z => by omega) (dd_nodup _)).mpr fun k => ?_
          rw [hmem k, dd_mem]
          simp
        subst em
        have kk := (k2.grow g2).grow g3
        exact HitT.newL (o := []) (HitT.trans (HitT.trans h2 (g2.step (O := O2))) (g3.step (O := O2))) kk hl (of_ice (df_ints _)) kk.nd (fun _ m => nomatch m)
end
end TW

/-! set ^ set: discarding, the rule -/
namespace TW
open PySem PySem.Spec PyProof.Rows L2
section
variable {P : Program} {w : World} {A : Around} {E : Value → Shared → Prop} {s : Shared} {a b : Addr}
theorem erase_list {α : Type} (xs : Array α) (i : Nat) : (SetTable.eraseAt xs i).toList = xs.toList.eraseIdx i := by
  unfold SetTable.eraseAt
  rw [Array.toList_append, Array.toList_extract, Array.toList_extract, List.eraseIdx_eq_take_drop_succ]
  simp [List.extract]
  exact List.take_of_length_le (by simp)
theorem map_erase {α β : Type} (f : α → β) (l : List α) (i : Nat) : (l.eraseIdx i).map f = (l.map f).eraseIdx i := by
  rw [List.eraseIdx_eq_take_drop_succ, List.eraseIdx_eq_take_drop_succ, List.map_append, List.map_take, List.map_drop]
theorem mem_erase_idx {α : Type} {l : List α} (nd : l.Nodup) {i : Nat} {y : α} (e : l[i]? = some y) (x : α) : x ∈ l.eraseIdx i ↔ x ∈ l ∧ x ≠ y := by
  have p := erase_perm l i y e
  have n2 := List.nodup_cons.mp (p.nodup_iff.mpr nd)
  constructor
  · intro h
    exact ⟨List.mem_of_mem_eraseIdx h, fun z => n2.1 (z ▸ h)⟩
  · rintro ⟨h, ne⟩
    exact (List.mem_cons.mp (p.mem_iff.mpr h)).resolve_left ne
theorem ris_erase {l : List Nat} (r : Ris l) (i : Nat) : Ris (l.eraseIdx i) := List.Pairwise.sublist (List.eraseIdx_sublist l i) r
theorem setR_discard {S : Int → Bool} {n : Nat} {k : Int} {tk : Tok} {Q : Bool → Shared → Prop} (R : SetR w s.heap a S n)
    (hQ : ∀ h', Heap.SameBut a s.heap h' → SetR w h' a (fun j => S j && !decide (j = k)) (if S k = true then n - 1 else n) → Q (S k) { s with heap := h' }) :
    wpAny (model P w) A (setDiscardHashed a (.int k tk) ((intKind P w).hash k)) Q E s := by
  have R' := R
  obtain ⟨o, es, ep, t, ho, hex, hd, g, nd, hm, hb, hf, hn, hr, hl⟩ := R
  have hkey : (intKind P w).is k (.int k tk) = true := intKind_is P w k tk
  have hsc : (Value.int k tk).scannable = true := rfl
  have hel : ElemsOf (intKind P w) es.toList := good_elems g
  unfold setDiscardHashed setFind setFindIn
  refine wpAny_bind (wpAny_bind (wpAny_setState_of ho hd hf ?_))
  dsimp only
  rw [byScan_of hsc hb hel]
  simp only [↓reduceIte]
  refine wpAny_bind (wpAny_rule ?_)
  refine wpAny_bind (wpAny_setScan_of hkey ho hd hf hel ?_)
  cases hfi : List.findIdx? (fun e => (intKind P w).is k e.2) es.toList with
  | none =>
    dsimp only
    refine wpAny_pure ?_
    dsimp only
    have hnk : k ∉ es.toList.map keyOf := fun z => by
      obtain ⟨e, he, q⟩ := (good_mem (P := P) (w := w) g k).1 z
      have c := List.findIdx?_eq_none_iff.mp hfi e he
      rw [q] at c
      cases c
    have hSk : S k = false := by
      cases q : S k with
      | false => rfl
      | true => exact absurd ((hm k).1 q) hnk
    refine wpAny_pure ?_
    have q := hQ s.heap (Heap.SameBut.refl a s.heap) (by
      rw [hSk]
      exact R'.congr fun j => by
        by_cases c : j = k
        · subst c; rw [hSk]; rfl
        · simp [c])
    rw [hSk] at q
    exact q
  | some i =>
    dsimp only
    refine wpAny_pure ?_
    dsimp only
    obtain ⟨hi, pi, _⟩ := List.findIdx?_eq_some_iff_getElem.mp hfi
    have hSk : S k = true := (hm k).2 ((good_mem (P := P) (w := w) g k).2 ⟨es.toList[i], List.getElem_mem hi, pi⟩)
    have hik : keyOf es.toList[i] = k := (good_is (g _ (List.getElem_mem hi)) k).1 pi
    refine wpAny_bind (wpAny_setState_of ho hd hf ?_)
    dsimp only
    have els := erase_list es i
    have szl : (SetTable.eraseAt es i).size = n - 1 := by
      rw [← Array.length_toList, els, List.length_eraseIdx_of_lt hi, Array.length_toList, hn]
    have hps : t.place.size = es.size ∧ t.fill ≤ t.mask := by
      unfold SetTable.fits at hf
      rw [Bool.and_eq_true, beq_iff_eq, decide_eq_true_eq] at hf
      exact hf
    have hi2 : i < t.place.size := by rw [hps.1]; exact hi
    rw [Nat.zero_add]
    refine wpAny_bind (wpAny_storeSet_of ho hd ?_ (by rw [szl, sizeLine_eq]; have : n < scanBound := by omega
                                                      unfold scanBound at this; omega))
    refine wpAny_bind (wpAny_point ?_)
    refine wpAny_pure ?_
    have hdrop : t.drop i = { t with place := SetTable.eraseAt t.place i, dummies := SetTable.insertAt t.dummies (SetTable.below t.dummies t.place[i]) t.place[i] } := by
      unfold SetTable.drop
      rw [Array.getElem?_eq_getElem hi2]
    have pls : (SetTable.eraseAt t.place i).size = n - 1 := by
      rw [← Array.length_toList, erase_list, List.length_eraseIdx_of_lt hi2, Array.length_toList, hps.1, hn]
    have kk : (SetTable.eraseAt es i).toList.map keyOf = (es.toList.map keyOf).eraseIdx i := by rw [els, map_erase]
    have hik2 : (es.toList.map keyOf)[i]'(by rw [List.length_map]; exact hi) = k := by rw [List.getElem_map]; exact hik
    have q := hQ (s.heap.update a (Obj.putSet (SetTable.eraseAt es i) (t.drop i))) (Heap.SameBut.update ..) (by
      rw [if_pos hSk]
      refine ⟨_, _, _, _, store_at ho hd, hex, rfl, fun e he => ?_, ?_, fun j => ?_, by rw [szl]; omega, ?_, szl, ?_, ?_⟩
      · rw [els] at he
        exact g e (List.mem_of_mem_eraseIdx he)
      · rw [kk]
        exact List.Pairwise.sublist (List.eraseIdx_sublist _ _) nd
      · rw [kk, Bool.and_eq_true, hm j, Bool.not_eq_true', decide_eq_false_iff_not]
        exact (mem_erase_idx nd (by rw [List.getElem?_eq_getElem (by rw [List.length_map]; exact hi), hik2]) j).symm
      · rw [hdrop]
        unfold SetTable.fits SetTable.fill
        rw [Bool.and_eq_true, beq_iff_eq, decide_eq_true_eq]
        refine ⟨by rw [szl]; exact pls, ?_⟩
        show (SetTable.eraseAt t.place i).size + (SetTable.insertAt t.dummies _ _).size ≤ t.mask
        have e2 : (SetTable.insertAt t.dummies (SetTable.below t.dummies t.place[i]) t.place[i]).size ≤ t.dummies.size + 1 := by
          unfold SetTable.insertAt
          simp
          omega
        have := hps.2
        unfold SetTable.fill at this
        have := hps.1
        omega
      · rw [hdrop]
        show Ris (SetTable.eraseAt t.place i).toList
        rw [erase_list]
        exact ris_erase hr i
      · rw [hdrop]
        exact hl)
    rw [hSk] at q
    exact q
end
section
variable {P : Program} {w : World} {A : Around} {E : Value → Shared → Prop} {s : Shared} {a b : Addr}
theorem entry_xor : entryFor table "set.__xor__" = some Builtin.«frozenset.__xor__» := entryFor_alias (id' := "frozenset.__xor__") (by kernel_rfl) rfl (by decide +kernel) (by kernel_rfl)
/-- the elements of another set, each in or out -/
theorem flips {id : String} {S : Int → Bool} {n : Nat} {S2 : Int → Bool} {n2 : Nat} (R : SetR w s.heap a S n) (R2 : SetR w s.heap b S2 n2) (hne : a ≠ b) (hn : n + n2 ≤ 120) {Q : Unit → Shared → Prop}
    (hQ : ∀ h' dr n', Heap.SameBut a s.heap h' → SetR w h' a (fun k => S k != S2 k) n' → n' ≤ n + n2 → Q () { s with heap := h', drawn := dr }) :
    wpAny (model P w) A (Builtin.Frozenset.symmetricDifferenceUpdate id a (.ref b)) Q E s := by
  have R2' := R2
  obtain ⟨ob, eb, epb, tb, hob, hxb, hdb, g, nd, hm, hbb, hfb, hnb, hrb, hlb⟩ := R2
  unfold Builtin.Frozenset.symmetricDifferenceUpdate
  refine wp_if_neg (by simpa using Ne.symm hne) ?_
  try refine wpAny_bind (wpAny_pure ?_)
  dsimp only
  refine wpAny_bind (wpAny_typeOf (setR_ty R2' rfl) ?_)
  refine wp_if_neg (by decide +kernel) ?_
  try refine wpAny_bind (wpAny_pure ?_)
  refine wpAny_bind (anySet_at R2' ?_)
  refine wp_if_pos rfl ?_
  refine wpAny_bind (wpAny_pure ?_)
  refine wpAny_bind (m := Builtin.Frozenset.addrOf _) (wpAny_pure ?_)
  unfold setEpoch
  refine wpAny_bind (wpAny_bind (wpAny_setState_of hob hdb hfb (wpAny_pure ?_)))
  try dsimp only
  refine wpAny_holding ?_
  refine wpAny_bind (walk_unseen R R2' fun es' h1 dr g' hm' hsz nd' sb1 R1 => ?_)
  refine wpAny_bind ?_
  refine wpAny_forIn_array' _ (fun rest _ s' => ∃ h2 n', s' = { s with heap := h2, drawn := dr } ∧ Heap.SameBut a s.heap h2 ∧ SetR w h2 a (fun k => S k != (S2 k && !(rest.map keyOf).contains k)) n' ∧ n' + rest.length ≤ n + n2 ∧ (∀ e ∈ rest, GoodE e) ∧ (∀ e ∈ rest, S2 (keyOf e) = true) ∧ (rest.map keyOf).Nodup) _ ?_ ?_ es' _ ⟨h1, n, rfl, sb1, R1.congr fun k => ?_, by rw [Array.length_toList, hsz]; omega, g', fun e m => (hm' _).2 (List.mem_map_of_mem m), nd'⟩
  · rintro ⟨h, x⟩ rest u s' ⟨h2, n', rfl, sb2, R3, hl, hg, hs2, hnd⟩
    obtain ⟨k, tk, e1, e2⟩ := hg _ List.mem_cons_self
    have e1' : x = Value.int k tk := e1
    have e2' : h = (intKind P w).hash k := e2
    subst e1' e2'
    dsimp only
    rw [List.length_cons] at hl
    have hk2 : S2 k = true := hs2 _ List.mem_cons_self
    have nc : (rest.map keyOf).contains k = false := by
      cases q : (rest.map keyOf).contains k with
      | false => rfl
      | true => exact absurd (List.contains_iff_mem.mp q) (List.nodup_cons.mp hnd).1
    have S3k : (S k != (S2 k && !(((((intKind P w).hash k, Value.int k tk) :: rest).map keyOf)).contains k)) = S k := by
      rw [List.map_cons, List.contains_cons, show keyOf ((intKind P w).hash k, Value.int k tk) = k from rfl]
      simp
    have S3j : ∀ j, j ≠ k → (S j != (S2 j && !(((((intKind P w).hash k, Value.int k tk) :: rest).map keyOf)).contains j)) = (S j != (S2 j && !(rest.map keyOf).contains j)) := fun j c => by
      have c1 : (j == k) = false := beq_eq_false_iff_ne.mpr c
      rw [List.map_cons, List.contains_cons, show keyOf ((intKind P w).hash k, Value.int k tk) = k from rfl, c1, Bool.false_or]
    have fin : ∀ h3 n3 (Q' : ForInStep PUnit → Shared → Prop), Heap.SameBut a s.heap h3 → (SetR w h3 a (fun j => S j != (S2 j && !(rest.map keyOf).contains j)) n3 → n3 ≤ n' + 1 → Q' (ForInStep.yield PUnit.unit) { s with heap := h3, drawn := dr }) → SetR w h3 a (fun j => S j != (S2 j && !(rest.map keyOf).contains j)) n3 → n3 ≤ n' + 1 → wpAny (model P w) A (Builtin.Frozenset.unchanged id b epb >>= fun _ => pure (ForInStep.yield PUnit.unit)) Q' E { s with heap := h3, drawn := dr } := fun h3 n3 Q' sb3 q R4 hl3 => by
      have hb3 : h3.get? b = some ob := by rw [sb3.2 b (Ne.symm hne)]; exact hob
      unfold Builtin.Frozenset.unchanged setEpoch
      refine wpAny_bind (wpAny_bind (wpAny_bind (wpAny_setState_of (s := { s with heap := h3, drawn := dr }) hb3 hdb hfb (wpAny_pure ?_))))
      exact wp_if_neg (by simp) (wpAny_pure (wpAny_pure (q R4 hl3)))
    refine wpAny_bind (wpAny_holding (wpAny_bind (setR_discard (s := { s with heap := h2, drawn := dr }) R3 fun h3 sb3 R4 => ?_)))
    rw [S3k] at R4 ⊢
    cases hSk : S k with
    | true =>
      rw [hSk, if_pos rfl] at R4
      refine wp_if_neg (by simp) (wpAny_pure ?_)
      refine fin h3 (n' - 1) _ (sb2.trans sb3) (fun R5 hl5 => ⟨h3, n' - 1, rfl, sb2.trans sb3, R5, by omega, fun e he => hg e (List.mem_cons_of_mem _ he), fun e he => hs2 e (List.mem_cons_of_mem _ he), (List.nodup_cons.mp hnd).2⟩) (R4.congr fun j => ?_) (by omega)
      by_cases c : j = k
      · subst c
        rw [hSk, hk2, nc]
        simp
      · try dsimp only
        rw [S3j j c]
        simp [c]
    | false =>
      rw [hSk, if_neg (by decide)] at R4
      refine wp_if_pos (by simp) ?_
      refine wpAny_bind (setR_add_hashed (s := { s with heap := h3, drawn := dr }) R4 (by unfold scanBound; omega) fun h4 sb4 R5 => ?_)
      refine wpAny_pure ?_
      have e5 : (if ((S k != (S2 k && !(((((intKind P w).hash k, Value.int k tk) :: rest).map keyOf)).contains k)) && !decide (k = k)) = true then n' else n' + 1) = n' + 1 := if_neg (by simp)
      try dsimp only at R5
      rw [e5] at R5
      refine fin h4 (n' + 1) _ ((sb2.trans sb3).trans sb4) (fun R6 hl6 => ⟨h4, n' + 1, rfl, (sb2.trans sb3).trans sb4, R6, by omega, fun e he => hg e (List.mem_cons_of_mem _ he), fun e he => hs2 e (List.mem_cons_of_mem _ he), (List.nodup_cons.mp hnd).2⟩) (R5.congr fun j => ?_) (Nat.le_refl _)
      by_cases c : j = k
      · subst c
        rw [hSk, hk2, nc]
        simp
      · try dsimp only
        rw [S3j j c]
        simp [c]
  · rintro u s' ⟨h2, n', rfl, sb2, R3, hl, _, _, _⟩
    exact wpAny_pure (hQ h2 dr n' sb2 (R3.congr fun k => by simp) (by simpa using hl))
  · cases q : S2 k with
    | false => simp
    | true =>
      have := (hm' k).1 q
      have c : (es'.toList.map keyOf).contains k = true := List.contains_iff_mem.mpr this
      rw [c]
      simp
/-- set ^ set -/
theorem xor_at {S : Int → Bool} {n : Nat} {S2 : Int → Bool} {n2 : Nat} (R : SetR w s.heap a S n) (R2 : SetR w s.heap b S2 n2) (hn : n + n2 ≤ 120) {Q : Value → Shared → Prop}
    (hQ : ∀ h' dr n', (∀ c o, s.heap.get? c = some o → h'.get? c = some o) → SetR w h' s.heap.objs.size (fun k => S2 k != S k) n' → Q (.ref s.heap.objs.size) { s with heap := h', drawn := dr }) :
    wpAny (model P w) A (binaryOp .BitXor (.ref a) (.ref b)) Q E s := by
  refine wpAny_binaryOp_same (T := "set") (id := "set.__xor__") (op := .BitXor) (setR_ty R rfl) (setR_ty R2 rfl) F.fills_set_xor F.slot_set_xor ?_
  refine wpAny_call_entry F.slot_set_xor (setR_ty R rfl) entry_xor ?_ (F.args_set_xor_2 _ _)
  unfold Builtin.«frozenset.__xor__»
  wp_delta
  unfold Builtin.Frozenset.slot1 slotArgs
  simp only [List.isEmpty_nil, Bool.not_true, Bool.false_eq_true, ↓reduceIte, bind_assoc, List.length_cons, List.length_nil, bne_self_eq_false]
  refine wpAny_bind (wpAny_pure ?_)
  try dsimp only
  refine wpAny_bind (wpAny_pure ?_)
  try dsimp only
  refine wpAny_bind (wpAny_bind (anySet_at R ?_))
  show wpAny _ _ (Builtin.Frozenset.isAnySet (Value.ref b)) _ _ _
  refine anySet_at R2 ?_
  refine wp_if_neg (by simp) ?_
  refine wpAny_bind (m := Builtin.Frozenset.addrOf _) (wpAny_pure ?_)
  refine wpAny_bind ?_
  refine wpAny_mono (Q := fun v s' => v ≠ .notImplemented ∧ Q v s') ?_ (fun v s' h => wpAny_pure ⟨_, rfl, h.1, h.2⟩) fun _ _ h => h
  have hQ : ∀ h' dr n', (∀ c o, s.heap.get? c = some o → h'.get? c = some o) → SetR w h' s.heap.objs.size (fun k => S2 k != S k) n' → Value.ref s.heap.objs.size ≠ .notImplemented ∧ Q (.ref s.heap.objs.size) { s with heap := h', drawn := dr } := fun h' dr n' k R => ⟨(fun e => nomatch e), hQ h' dr n' k R⟩
  wp_delta
  have hlt := R.lt
  have hlt2 := R2.lt
  unfold Builtin.Frozenset.baseOf
  refine wpAny_bind (wpAny_bind (wpAny_isInstance (b := true) (setR_ty R rfl) sub_set_self ?_))
  refine wpAny_pure ?_
  unfold Builtin.Frozenset.newFrom
  refine wpAny_bind (wpAny_bind (new_set fun F => ?_))
  have k : ∀ c o, s.heap.get? c = some o → (s.heap.push { cls := .type "set", dict := none, data := .set #[] 0 (.fresh 0 0 (!w.params.followText "set-order")) }).get? c = some o := fun c o e => Heap.get?_push_of_some _ e
  have Rk := SetR.at R (k a)
  have Rk2 := SetR.at R2 (k b)
  refine wpAny_bind (m := Builtin.Frozenset.addrOf _) (wpAny_pure ?_)
  refine wpAny_bind (wpAny_holding ?_)
  unfold Builtin.Frozenset.updateFrom
  refine wpAny_bind (anySet_at (s := { s with heap := s.heap.push { cls := .type "set", dict := none, data := .set #[] 0 (.fresh 0 0 (!w.params.followText "set-order")) } }) Rk2 ?_)
  refine wp_if_pos rfl ?_
  refine wpAny_bind (m := Builtin.Frozenset.addrOf _) (wpAny_pure ?_)
  unfold Builtin.Frozenset.merge
  obtain ⟨ob, eb, epb, tb, hob, hxb, hdb, g, nd, hm, hbb, hfb, hnb, hrb, hlb⟩ := Rk2
  have Rk3 : SetR w (s.heap.push { cls := .type "set", dict := none, data := .set #[] 0 (.fresh 0 0 (!w.params.followText "set-order")) }) b S2 n2 := ⟨ob, eb, epb, tb, hob, hxb, hdb, g, nd, hm, hbb, hfb, hnb, hrb, hlb⟩
  unfold setEpoch
  refine wpAny_bind (wpAny_bind (wpAny_setState_of (s := { s with heap := s.heap.push { cls := .type "set", dict := none, data := .set #[] 0 (.fresh 0 0 (!w.params.followText "set-order")) } }) hob hdb hfb (wpAny_pure ?_)))
  try dsimp only
  refine merge_fresh (s := { s with heap := s.heap.push { cls := .type "set", dict := none, data := .set #[] 0 (.fresh 0 0 (!w.params.followText "set-order")) } }) F Rk3 (Nat.ne_of_gt hlt2) (by omega) fun h2 sb R6 _ => ?_
  have k2 : ∀ c o, s.heap.get? c = some o → h2.get? c = some o := fun c o e => by
    rw [sb.2 c (Nat.ne_of_lt (Heap.lt_size e))]
    exact k c o e
  refine wpAny_pure ?_
  refine wpAny_bind (m := Builtin.Frozenset.addrOf _) (wpAny_pure ?_)
  refine wpAny_bind (wpAny_holding ?_)
  refine flips (s := { s with heap := h2 }) R6 (SetR.at R (k2 a)) (Nat.ne_of_gt hlt) (by omega) fun h3 dr n' sb3 R7 hl => ?_
  refine wpAny_pure (hQ h3 dr n' (fun c o e => ?_) R7)
  rw [sb3.2 c (Nat.ne_of_lt (Heap.lt_size e))]
  exact k2 c o e
end
section
variable {X : Cx}
def xorI (xs ys : List Int) : List Int := (xs.filter fun x => !ys.contains x) ++ ys.filter fun y => !xs.contains y
theorem or_setxor : OpR X (binaryOp .BitXor) (rSet2 X.w xorI) := by
  intro pins s σ H x y v u Q I rx ry h
  obtain ⟨a, b, xs, ys, rfl, rfl, ha, hb, hz, q⟩ := h
  cases rx
  cases ry
  have lx := dd_len xs
  have ly := dd_len ys
  refine xor_at (setO_get I ha) (setO_get I hb) (by omega) fun h' dr n' k R => ?_
  have R2 : SetR X.w h' s.heap.objs.size (fun j => decide (j ∈ xorI xs ys)) n' := R.congr fun j => by
    unfold xorI
    by_cases c1 : j ∈ xs <;> by_cases c2 : j ∈ ys <;> simp [c1, c2]
  have en := setO_num R2
  subst en
  have hn : H s.heap.objs.size = none := I.hok.fresh (Nat.le_refl _)
  exact ⟨.ref _, _, I.call (ch := []) (Un.laid k (Nat.le_refl _) hn) (I.hok.laid k (Nat.le_refl _) (setO_new R2)) I.bare (fun _ z => nomatch z), rfl, q _ hn⟩
end
end TW

/-! dict(zip(list, tuple)), the keys ints or texts -/
namespace TW
open PySem PySem.Spec PyProof.Rows L2
/-- such a zip at turn i, with its rows -/
def MnSt (us vs : List Value) (a b z p q i1 i2 : Addr) (i : Nat) (h : Heap) : Prop := ∃ f0 f1, ZCell h z p q f0 f1 ∧ (f0 = .none ∨ ∃ T : Addr, f0 = rawInt T) ∧ IsPair h p (.ref i1) (.ref i2) ∧ (∃ x y, IsPair h q x y) ∧ h.IsListIter i1 a i ∧ h.IsTupleIter i2 b i ∧ h.IsList a us.toArray ∧ h.IsTuple b vs.toArray
theorem MnSt.keep {us vs : List Value} {a b z p q i1 i2 : Addr} {i : Nat} {h h' : Heap} (st : MnSt us vs a b z p q i1 i2 i h) (k : ∀ c ∈ [z, p, q, i1, i2, a, b], ∀ o, h.get? c = some o → h'.get? c = some o) : MnSt us vs a b z p q i1 i2 i h' := by
  obtain ⟨f0, f1, sz, sf, sp, ⟨x, y, sq⟩, t1, t2, l1, l2⟩ := st
  exact ⟨f0, f1, k _ (by simp) _ sz, sf, k _ (by simp) _ sp, ⟨x, y, k _ (by simp) _ sq⟩, t1.at fun o e => k i1 (by simp) o e, t2.at fun o e => k i2 (by simp) o e, l1.at fun o e => k a (by simp) o e, l2.at fun o e => k b (by simp) o e⟩
theorem mn_arg {prog : Program} {w : World} (z p q i1 i2 a b : Addr) (D : ZipApart z p q i1 i2 a b) (us vs : List Value) :
    PairArg prog w "zip" z [z, p, q, i1, i2, a, b] [z, q, i1, i2] (min us.length vs.length) (fun i k v => us[i]? = some k ∧ vs[i]? = some v) (MnSt us vs a b z p q i1 i2 0) where
  type := fun s ok => let ⟨_, _, sz, _⟩ := ok; ⟨_, sz, rfl⟩
  notDict := by decide
  keep := fun h h' ok hk => ok.keep fun c _ o e => hk c o e
  there := fun h ok c hc => by
    obtain ⟨f0, f1, sz, _, sp, ⟨x, y, sq⟩, ⟨o1, h1, _⟩, ⟨o2, h2, _⟩, ⟨o3, h3, _⟩, ⟨o4, h4, _⟩⟩ := ok
    simp only [List.mem_cons, List.not_mem_nil, or_false] at hc
    rcases hc with rfl | rfl | rfl | rfl | rfl | rfl | rfl
    all_goals first | exact ⟨_, sz⟩ | exact ⟨_, sp⟩ | exact ⟨_, sq⟩ | exact ⟨_, h1⟩ | exact ⟨_, h2⟩ | exact ⟨_, h3⟩ | exact ⟨_, h4⟩
  sub := fun c hc => by simp at hc ⊢; rcases hc with rfl | rfl | rfl | rfl <;> simp
  noKeys := fun A s Q E hA ok h => let ⟨_, _, sz, _⟩ := ok; getAttrOr_miss_zip sz rfl rfl rfl zip_no_keys (by decide +kernel) hA h
  iter := fun A s d Q E hA ok hd hdf h => by
    have hh : A.in1.handled = none := hA
    have ok' := ok
    obtain ⟨f0, f1, sz, _⟩ := ok'
    refine zn_iter sz (h z [z, q, i1, i2] (MnSt us vs a b z p q i1 i2) s.heap s.toks ?_ ok (fun _ _ e => e) fun b hb => .inl hb)
    have four : ∀ {x : Addr}, x ∉ [z, q, i1, i2] → x ≠ z ∧ x ≠ q ∧ x ≠ i1 ∧ x ≠ i2 := fun h => ⟨fun e => h (by simp [e]), fun e => h (by simp [e]), fun e => h (by simp [e]), fun e => h (by simp [e])⟩
    exact {
      off := fun hm => hdf (by simp only [List.mem_cons, List.not_mem_nil, or_false] at hm ⊢; rcases hm with e | e | e | e <;> simp [e])
      frame := fun i h₁ h₂ st hk => st.keep fun c hc o e => hk c o (fun x => hdf (x ▸ hc)) e
      item := fun i s₁ Q₁ E₁ hi st hds hQ => by
        obtain ⟨g0, g1, sz, sf, sp, ⟨x0, y0, sq⟩, t1, t2, l1, l2⟩ := st
        have iu : i < us.toArray.size := by simp; omega
        have iv : i < vs.toArray.size := by simp; omega
        refine zn_pyItem (mz_sep D) (Draws.list hh i1 a D.l1i1 us.toArray) (Draws.tuple hh i2 b D.l2i2 vs.toArray) sz sf sp sq ⟨t1, l1⟩ ⟨t2, l2⟩ iu iv ?_
        intro u v h' tk k0 k1 eu ev z' gf q' s1 s2 hT hk
        have eu : us[i]? = some u := by simpa using eu
        have ev : vs[i]? = some v := by simpa using ev
        exact hQ s₁.heap.objs.size u v h' tk ⟨eu, ev⟩ (.inl ⟨_, hT, rfl, _, rfl⟩) ⟨k0, k1, z', gf, hk _ _ D.TIz D.TITO D.TIi1 D.TIi2 sp, q', s1.1, s2.1, s1.2, s2.2⟩ fun c o hc e => let ⟨n1, n2, n3, n4⟩ := four hc; hk c o n1 n2 n3 n4 e
      done := fun s₁ Q₁ E₁ st hQ => by
        obtain ⟨g0, g1, sz, sf, sp, ⟨x0, y0, sq⟩, t1, t2, l1, l2⟩ := st
        have out : ∀ (h' : Heap) (tk : Nat), (∀ c o, c ≠ z → c ≠ q → c ≠ i1 → c ≠ i2 → s₁.heap.get? c = some o → h'.get? c = some o) → Q₁ none { s₁ with heap := h', toks := tk } := fun h' tk hk => hQ h' tk fun c o hc e => let ⟨n1, n2, n3, n4⟩ := four hc; hk c o n1 n2 n3 n4 e
        by_cases cu : min us.length vs.length < us.length
        · have cv : vs.toArray[min us.length vs.length]? = none := by simp; omega
          exact zn_pyEnd (mz_sep D) (Draws.list hh i1 a D.l1i1 us.toArray) (mz_endT hh cv) sz sf sp sq ⟨t1, l1⟩ ⟨rfl, t2, l2⟩ (by simp; omega) (Nat.le_refl _) (.inr rfl) out
        · have cu : us.toArray[min us.length vs.length]? = none := by simp; omega
          by_cases cv : min us.length vs.length < vs.length
          · exact zn_pyEnd (mz_sep D) (mz_endL hh cu) (Draws.tuple hh i2 b D.l2i2 vs.toArray) sz sf sp sq ⟨rfl, t1, l1⟩ ⟨t2, l2⟩ (Nat.le_refl _) (by simp; omega) (.inl rfl) out
          · have cv : vs.toArray[min us.length vs.length]? = none := by simp; omega
            exact zn_pyEnd (mz_sep D) (mz_endL hh cu) (mz_endT hh cv) sz sf sp sq ⟨rfl, t1, l1⟩ ⟨rfl, t2, l2⟩ (Nat.le_refl _) (Nat.le_refl _) (.inl rfl) out }
/-! its rule -/
def mergeZD (acc kvs : List (L2.Key × PyData)) : List (L2.Key × PyData) := kvs.foldl (fun a kv => putD a kv.1 kv.2) acc
def tDictZip (K : PySem.W.Frag) (ta : TA) : TE := fun σ H Q => ta σ H fun vs H1 => ∃ (a b : Addr) (ks : List L2.Key) (ys : List V), vs = [.ref a, .ref b] ∧ SqL K H1 a (ks.map kV) ∧ SqT K H1 b ys ∧ ∀ d, H1 d = none → Q (.ref d) (L2.upd H1 d (.dK (mergeK [] (ks.zip ys))))
section
variable {X : Cx} {W : WX} {a b : Expr} {ta : TA} {p p2 q pos : Pos}
theorem kz_rel {P : Program} {w : World} : ∀ {ks : List L2.Key} {us : List Value} {ys : List V} {vs : List Value}, Vals (ks.map kV) us → Vals ys vs → KV (ks.zip ys) (ks.zip vs) ∧ ∀ (i : Nat) (k v : Value), us[i]? = some k → vs[i]? = some v → ∃ x, (ks.zip vs)[i]? = some (x, v) ∧ keyIs x k = true
  | [], us, ys, vs, r1, r2 => by
    rw [List.map_nil] at r1
    cases r1
    exact ⟨.nil, fun i k v e => by simp at e⟩
  | x :: ks, us, [], vs, r1, r2 => by cases r2; exact ⟨.nil, fun i k v _ e => by simp at e⟩
  | x :: ks, us, y :: ys, vs, r1, r2 => by
    rw [List.map_cons] at r1
    cases r1 with
    | cons h1 r1 =>
      cases r2 with
      | cons h2 r2 =>
        obtain ⟨r, f⟩ := kz_rel (P := P) (w := w) r1 r2
        refine ⟨.cons ⟨rfl, h2⟩ r, fun i k v e1 e2 => ?_⟩
        cases i with
        | zero =>
          obtain rfl := Option.some.inj e1
          obtain rfl := Option.some.inj e2
          exact ⟨x, rfl, kV_is (P := P) (w := w) h1⟩
        | succ i => exact f i k v (by simpa using e1) (by simpa using e2)
theorem pe_dictZip (hc : X.calm = true) (hg : Gl X "dict") (hm : X.mg "dict" = none) (hv : bootBuiltins ("dict" : Str) = some (.type "dict")) (hg2 : Gl X "zip") (hm2 : X.mg "zip" = none) (ha : PA X [a, b] ta) (hs : starEach [a, b] X.env = (false, eval a X.env) :: starEach [b] X.env := by rfl) (hpl : (backTo q (starEach [b] X.env)).any (·.1) = false := by rfl)
    (na : starEach [.Call (.Name "zip" p2) [a, b] [] q] X.env = (false, eval (.Call (.Name "zip" p2) [a, b] [] q) X.env) :: starEach [] X.env := by rfl) :
    PE X (.Call (.Name "dict" p) [.Call (.Name "zip" p2) [a, b] [] q] [] pos) (tDictZip X.K ta) := by
  refine ⟨fun pins s σ H Q I h => ?_⟩
  refine Call_ (ld_blt I hg hm hv (PyProof.Rows.callWith_type1 (PyProof.Rows.args_cons ?_ na) na rfl))
  refine Call_ (ld_blt I hg2 hm2 PyProof.Rows.boot_zip (PyProof.Rows.callWith_type1 (thn (ha.run q pins s σ H _ I h) ?_) hs hpl))
  rintro us s1 ⟨vs, H1, I1, r1, a, b, ks, ys, rfl, qa, qb, q⟩
  cases r1 with
  | cons ra r1 =>
    cases r1 with
    | cons rb r1 =>
      cases r1
      cases ra
      cases rb
      obtain ⟨us, ru, pa, zu⟩ := I1.list qa
      obtain ⟨vs, rv, pb, zv⟩ := I1.tuple qb
      obtain ⟨ob, eb, _⟩ := id pb
      obtain ⟨rel, keys⟩ := kz_rel (P := X.prog) (w := X.w) ru rv
      have lu := ru.length
      have lv := rv.length
      rw [List.length_map] at lu zu
      refine call_mz pa.isList pb fun h' zz hk => PyProof.Rows.args_nil ?_
      obtain ⟨z1, z2, ⟨_, _, z3⟩, z4, z5⟩ := zz
      have zlt : s1.heap.objs.size + 4 < h'.objs.size := Heap.lt_size z1
      refine call_dict_pairs (s := { s1 with heap := h' }) (knd := mixKind X.prog X.w) (kvs := ks.zip vs) (mn_arg (prog := X.prog) (w := X.w) _ _ _ _ _ a b (PySem.W.ktu_apart _ a b pa.lt (Heap.lt_size eb)) us vs) (I1.ok.hd hc)
        ⟨_, _, z1, .inl rfl, z2, ⟨_, _, z3⟩, z4, z5, pa.isList.at fun o e => hk a o e, PySem.Heap.IsTuple.at pb fun o e => hk b o e⟩ ⟨by rw [List.length_zip]; omega, fun i k v e => ?_⟩ (by omega) fun h2 tk hd' hkp => ?_
      · obtain ⟨x, e1, e2⟩ := keys i k v e.1 e.2
        exact ⟨x, e1, e2⟩
      · have small : s1.heap.objs.size ≤ h'.objs.size := by omega
        have old : ∀ c o, s1.heap.get? c = some o → h2.get? c = some o := fun c o e => by
          have hb : c < s1.heap.objs.size := Heap.lt_size e
          refine hkp c o (fun m => ?_) (hk c o e)
          simp only [List.mem_cons, List.not_mem_nil, or_false] at m
          rcases m with e | e | e | e <;> (rw [e] at hb; exact absurd hb (Nat.not_lt.mpr (by first | exact Nat.le_add_right _ _ | exact Nat.le_refl _)))
        have hm : (h'.objs.size == sysModules) = false := beq_eq_false_iff_ne.mpr (Nat.ne_of_gt (Nat.lt_of_lt_of_le I1.big small))
        have hlen : (mergeK [] (ks.zip ys)).length ≤ sizeLine := by
          refine Nat.le_trans (length_mergeK _ _) ?_
          rw [List.length_nil, Nat.zero_add, List.length_zip]
          omega
        exact ⟨.ref h'.objs.size, L2.upd H1 h'.objs.size (.dK (mergeK [] (ks.zip ys))), I1.laid (t' := tk) (h' := h2) (a := h'.objs.size) old small (show ObjOk X.prog X.w _ _ _ (.dK (mergeK [] (ks.zip ys))) from ⟨hlen, hm, merged [] (ks.zip vs), KV.merge rel .nil, hd'⟩), rfl, q _ (I1.hok.fresh small)⟩
end
/-! its run -/
def dictZF : PyData → PyData → Option T
  | .list ds, .tuple es => (keysD ds).map fun ks => .dct (mergeZD [] (ks.zip es))
  | _, _ => none
theorem dictZF_inv {d e : PyData} {t : T} (h : dictZF d e = some t) : ∃ ds es ks, d = .list ds ∧ e = .tuple es ∧ keysD ds = some ks ∧ t = .dct (mergeZD [] (ks.zip es)) := by
  unfold dictZF at h
  split at h
  case h_2 => cases h
  obtain ⟨ks, e2, e3⟩ := Option.map_eq_some_iff.mp h
  exact ⟨_, _, ks, rfl, rfl, e2, e3.symm⟩
def mDictZip (ma mb : M PyData) : M T := bM ma fun d => bM mb fun e => oM (dictZF d e)
theorem mergeZ_rep {K : PySem.W.Frag} {F : Hp} : ∀ {kvs : List (L2.Key × PyData)} {ps : List (L2.Key × V)}, Paired (KDf K F) kvs ps → ∀ {acc : List (L2.Key × PyData)} {acp : List (L2.Key × V)}, Paired (KDf K F) acc acp → Paired (KDf K F) (mergeZD acc kvs) (mergeK acp ps)
  | _, _, .nil, _, _, h => h
  | (k1, d1) :: kvs, (k2, v2) :: ps, .cons h t, _, _, ha => by
    cases (show k1 = k2 from h.1)
    exact mergeZ_rep t (put_rep h.2 ha)
theorem keysD_v {K : PySem.W.Frag} {F : Hp} : ∀ {ds : List PyData} {vs : List V} {ks : List L2.Key}, DfAll K F vs ds → keysD ds = some ks → vs = ks.map kV
  | [], _, ks, .nil, e => by cases e; rfl
  | d :: ds, _, ks, .cons r rs, e => by
    unfold keysD at e
    cases q1 : keyD d with
    | none => rw [q1] at e; cases e
    | some k =>
      cases q2 : keysD ds with
      | none => rw [q1, q2] at e; cases e
      | some ks' =>
        rw [q1, q2] at e
        cases e
        rw [key_v q1 r, keysD_v rs q2]
        rfl
theorem zipZ_rep {K : PySem.W.Frag} {F : Hp} : ∀ (ks : List L2.Key) {es : List PyData} {ys : List V}, DfAll K F ys es → Paired (KDf K F) (ks.zip es) (ks.zip ys)
  | [], _, _, _ => .nil
  | _ :: _, _, _, .nil => .nil
  | k :: ks, _, _, .cons h r => .cons ⟨rfl, h⟩ (zipZ_rep ks r)
section
variable {X : Cx} {W : WX} {a b : Expr} {ma mb : M PyData} {p p2 q pos : Pos}
theorem vt_dictZip (hc : X.calm = true) (hm : X.mg "dict" = none) (hv : bootBuiltins ("dict" : Str) = some (.type "dict")) (hm2 : X.mg "zip" = none) (ha : VD X W a ma) (hb : VD X W b mb) (hg : Gl X "dict" := by rfl) (hg2 : Gl X "zip" := by rfl)
    (hs : starEach [a, b] X.env = (false, eval a X.env) :: starEach [b] X.env := by rfl) (hs2 : starEach [b] X.env = (false, eval b X.env) :: starEach [] X.env := by rfl) (hpl : (backTo q (starEach [b] X.env)).any (·.1) = false := by rfl)
    (na : starEach [.Call (.Name "zip" p2) [a, b] [] q] X.env = (false, eval (.Call (.Name "zip" p2) [a, b] [] q) X.env) :: starEach [] X.env := by rfl) :
    VT X W (.Call (.Name "dict" p) [.Call (.Name "zip" p2) [a, b] [] q] [] pos) (mDictZip ma mb) := by
  obtain ⟨ta, pa, sa⟩ := ha
  obtain ⟨tb, pb, sb⟩ := hb
  refine ⟨_, pe_dictZip hc hg hm hv hg2 hm2 (pa_cons pa (pa_cons pb pa_nil hs2) hs) hs hpl na, fun Γ σ F H O Q k h => sa Γ σ F H O _ k ?_⟩
  unfold mDictZip at h
  refine HitT.bindN h fun d Γ1 v F1 H1 O1 k1 r s1 h1 => sb Γ1 σ F1 H1 O1 _ k1 ?_
  refine HitT.bindN h1 fun e Γ2 v2 F2 H2 O2 k2 r2 s2 h2 => ?_
  have r := Df.mono s2.f _ _ r
  unfold oM at h2
  cases e1 : dictZF d e with
  | none => rw [e1] at h2; exact h2.elim
  | some t =>
    rw [e1] at h2
    obtain ⟨ds, es, ks, rfl, rfl, e2, rfl⟩ := dictZF_inv e1
    cases r with
    | lst a1 a2 =>
      cases r2 with
      | tup b1 b2 =>
        obtain rfl := keysD_v a2 e2
        refine ⟨_, _, ks, _, rfl, .inl (.inl (k2.sub _ _ a1)), tupT k2.sub b1, fun q hq => ?_⟩
        have fq : F2 q = none := none_of_same k2.sub hq
        have qO : q ∉ O2 := fun m => RepG.live k2.rep q m hq
        rename_i ys
        have k3 : Ok X.K F2 (L2.upd H2 q (.dK (mergeK [] (ks.zip ys)))) Γ2 σ O2 := k2.upd qO fq
        refine h2 (.ref q) F2 _ O2 [q] k3 ?_ (List.nodup_cons.mpr ⟨qO, k2.nd⟩) (fun b m => by rw [List.mem_singleton.mp m]; exact fq) ⟨Same.refl _, fun b hb _ => ?_, fun b m => ?_⟩
        · show RepT X.K F2 _ (.dct (mergeZD [] (ks.zip es))) _ _
          unfold RepT
          exact ⟨q, mergeK [] (ks.zip ys), rfl, upd_same, mergeZ_rep (zipZ_rep ks b2) .nil, rfl⟩
        · have nb : b ≠ q := fun e => hb (e ▸ hq)
          exact ⟨upd_ne nb, id⟩
        · rcases List.mem_cons.mp m with rfl | m
          · exact .inr hq
          · exact .inl m
end
end TW

/-! texts: split, partition, join, f-strings, int(text), signs of a text, a sign in a text -/
namespace TW
open PySem PySem.Spec L2
def strD : List Str → List PyData := List.map .str
theorem strs_df {K : PySem.W.Frag} {F : Hp} : ∀ ys : List Str, DfAll K F (ys.map V.str) (ys.map PyData.str)
  | [] => .nil
  | y :: ys => .cons (.str y) (strs_df ys)
def strsF : List PyData → Option (List Str)
  | [] => some []
  | .str y :: ds => (strsF ds).map (y :: ·)
  | _ => none
theorem strs_vs {K : PySem.W.Frag} {F : Hp} : ∀ {ds : List PyData} {vs : List V} {ys : List Str}, DfAll K F vs ds → strsF ds = some ys → vs = ys.map V.str
  | [], _, _, .nil, e => by cases e; rfl
  | d :: ds, _, ys, .cons r rs, e => by
    unfold strsF at e
    split at e
    · rename_i z; cases z
    · rename_i y ds' z
      cases z
      obtain ⟨zs, e1, rfl⟩ := Option.map_eq_some_iff.mp e
      cases r
      rw [strs_vs rs e1]
      rfl
    · cases e
def splitF : OpF
  | .str a, .str b => if (b.length == 0) = false ∧ a.length + 2 ≤ sizeLine then some (.list ((Txt.split a b).map .str)) else none
  | _, _ => none
def partF : OpF
  | .str a, .str b => if (b.length == 0) = false ∧ a.length ≤ sizeLine then some (.tuple [.str (Txt.partition a b).1, .str (Txt.partition a b).2.1, .str (Txt.partition a b).2.2]) else none
  | _, _ => none
def joinF : OpF
  | .str a, .list ds => (strsF ds).bind fun ys => if (ys.map (·.length)).sum + ys.length * a.length ≤ 16777216 then some (.str (Txt.join a ys)) else none
  | .str a, .tuple ds => (strsF ds).bind fun ys => if (ys.map (·.length)).sum + ys.length * a.length ≤ 16777216 then some (.str (Txt.join a ys)) else none
  | _, _ => none
/-- o.name(e) of a text -/
def stM (f : OpF) (m : M PyData) : PyData → M PyData
  | .str a => bM m fun d => oM (f (.str a) d)
  | _ => fun _ => none
def mStM (f : OpF) (mo m : M PyData) : M PyData := bM mo (stM f m)
def fmtF : PyData → Option PyData
  | .str y => if y.length ≤ sizeLine then some (.str y) else none
  | .int i => if i.natAbs.log2 < 1920 then some (.str (toString i)) else none
  | _ => none
def catO (acc : Str) : PyData → Option Str
  | .str y => if (acc ++ y).length ≤ sizeLine then some (acc ++ y) else none
  | _ => none
def catK (k : Str → M PyData) (acc : Str) (d : PyData) : M PyData := match catO acc d with
  | some z => k z
  | none => fun _ => none
def mJs : List (M PyData) → Str → M PyData
  | [], acc => pM (.str acc)
  | m :: ms, acc => bM m (catK (mJs ms) acc)
def intSF : PyData → Option PyData
  | .str a => if a.length ≤ 640 then (PySem.intText? a).map .int else none
  | _ => none
/-- a text of one sign -/
def oneS (x : Str) : Option Nat := match x.cps.toList with
  | [c] => some c
  | _ => none
theorem oneS_eq {x : Str} {c : Nat} (h : oneS x = some c) : x = ⟨#[c]⟩ := by
  unfold oneS at h
  split at h
  · rename_i e
    cases h
    obtain ⟨⟨l⟩⟩ := x
    dsimp only at e
    rw [e]
  · cases h
def inSF : OpF
  | .str x, .str z => (oneS x).map fun c => .bool (decide (c ∈ z.cps.toList))
  | _, _ => none
def signsF : PyData → Option (List PyData)
  | .str x => some (x.cps.toList.map fun c => .str ⟨#[c]⟩)
  | _ => none
def mItS (m : M PyData) : M (List PyData) := bM m fun d => oM (signsF d)
theorem walks_str {K : PySem.W.Frag} {F H : Hp} (x : Str) : Walks K F H (x.cps.toList.map fun c => .str ⟨#[c]⟩) (Its x) := fun i F1 H1 s1 s2 => by
  refine ⟨fun d e => ?_, fun e => by show x.cps.size ≤ i; simpa using e⟩
  rw [List.getElem?_map] at e
  obtain ⟨c, e1, rfl⟩ := Option.map_eq_some_iff.mp e
  have hi : i < x.cps.size := by simpa using (List.getElem?_eq_some_iff.mp e1).1
  refine ⟨hi, fun v H2 y => ?_⟩
  obtain ⟨rfl, c', e2, rfl⟩ := y
  have : c' = c := by
    rw [← Array.getElem?_toList] at e2
    exact Option.some.inj (e2.symm.trans e1)
  subst this
  exact ⟨F1, Grow.refl s2, .str _⟩
section
variable {X : Cx} {W : WX} {pos apos p : Pos} {o e : Expr} {mo m : M PyData} {tg : Expr} {x : Str}
theorem vd_globS {z : Str} (hg : Gl X x) (hm : ∃ t, X.mg x = some (.str z t)) (hd : (x == ("__debug__" : Str)) = false := by decide) : VD X W (.Name x pos) (mC (.str z)) := by
  obtain ⟨t, hm⟩ := hm
  exact ⟨_, pe_glob (v := V.str z) hg hm ⟨t, rfl⟩ hd, fun Γ σ F H O Q k h => h _ F H O k (.str z) Step.refl⟩
theorem vi_str (h : VD X W e m) : VI X W tg e (mItS m) := by
  obtain ⟨t, pe, s⟩ := h
  refine ⟨_, pi_str pe, fun Γ σ F H O R k h => s Γ σ F H O _ k ?_⟩
  unfold mItS at h
  refine HitN.bind h fun d Γ1 v F1 H1 O1 k1 r s1 h1 => ?_
  unfold oM at h1
  cases d with
  | str z => cases r; exact ⟨z, rfl, h1 _ F1 H1 O1 k1 (walks_str z) Step.refl⟩
  | _ => exact h1.elim
theorem c_intS : Call1 X (.type "int") intSF := by
  refine ⟨_, call_int_str, fun a d e x F H Q s r q => ?_⟩
  unfold intSF at e
  split at e
  · split at e
    · rename_i h
      obtain ⟨n, e1, rfl⟩ := Option.map_eq_some_iff.mp e
      cases r.df (fun _ z => nomatch z)
      exact ⟨_, n, rfl, e1, h, q _ F H (Grow.refl s) (.int _)⟩
    · cases e
  · cases e
theorem od_inS : OpD X (compareOp .In) inSF := by
  refine ⟨_, op_in_sign, fun a b d e x y F H Q s ra rb q => ?_⟩
  unfold inSF at e
  split at e
  · obtain ⟨c, e1, rfl⟩ := Option.map_eq_some_iff.mp e
    have e2 := oneS_eq e1
    subst e2
    cases ra
    cases rb
    exact ⟨_, _, rfl, rfl, q _ F H (Grow.refl s) (.bl _)⟩
  · cases e
theorem vd_fmt (h : VD X W e m) : VD X W (.FormattedValue e (-1) none pos) (mC1 fmtF m) := by
  obtain ⟨t, pe, s⟩ := h
  refine ⟨_, pe_fmt pe, fun Γ σ F H O Q k h => s Γ σ F H O _ k ?_⟩
  unfold mC1 at h
  refine HitN.bind h fun d Γ1 v F1 H1 O1 k1 r1 s1 h1 => ?_
  obtain ⟨d', e', q⟩ := HitN.fin h1 k1
  unfold fmtF at e'
  split at e'
  · split at e'
    · rename_i hl
      cases e'
      cases r1
      exact .inl ⟨_, rfl, hl, q _ F1 H1 (Grow.refl k1.sub) (.str _)⟩
    · cases e'
  · split at e'
    · rename_i hl
      cases e'
      cases r1
      exact .inr ⟨_, rfl, hl, q _ F1 H1 (Grow.refl k1.sub) (.str _)⟩
    · cases e'
  · cases e'
def VJ (X : Cx) (W : WX) (vs : List Expr) (ms : List (M PyData)) : Prop := ∃ ts, PJ X vs ts ∧ ∀ acc Γ σ F H O (Q : VK), Ok X.K F H Γ σ O → HitN X.K W (rD X.K) (mJs ms acc Γ) σ F H O Q → tJs ts acc σ H fun out H1 => Q (.str out) H1
theorem vj_nil : VJ X W [] [] := ⟨[], .nil, fun acc Γ σ F H O Q k h => h _ F H O k (.str acc) Step.refl⟩
theorem vj_cons {vs : List Expr} {ms : List (M PyData)} (h : VD X W e m) (hs : VJ X W vs ms) : VJ X W (e :: vs) (m :: ms) := by
  obtain ⟨t, pe, s⟩ := h
  obtain ⟨ts, pj, ss⟩ := hs
  refine ⟨t :: ts, .cons pe pj, fun acc Γ σ F H O Q k h => s Γ σ F H O _ k ?_⟩
  unfold mJs at h
  refine HitN.bind h fun d Γ1 v F1 H1 O1 k1 r1 s1 h1 => ?_
  unfold catK at h1
  cases q : catO acc d with
  | none => rw [q] at h1; exact h1.elim
  | some z =>
    rw [q] at h1
    unfold catO at q
    split at q
    · split at q
      · rename_i hl
        cases q
        cases r1
        exact ⟨_, rfl, hl, ss _ Γ1 σ F1 H1 O1 Q k1 h1⟩
      · cases q
    · cases q
theorem vd_joined {v1 v2 : Expr} {rest : List Expr} {ms : List (M PyData)} (h : VJ X W (v1 :: v2 :: rest) ms) : VD X W (.JoinedStr (v1 :: v2 :: rest) pos) (mJs ms Str.empty) := by
  obtain ⟨ts, pj, s⟩ := h
  exact ⟨_, pe_joined pj, fun Γ σ F H O Q k h => s _ Γ σ F H O Q k h⟩
theorem vd_split (ho : VD X W o mo) (he : VD X W e m)
    (pbm : ∀ {ta tb : TE}, PE X o ta → PE X e tb → PE X (.Call (.Attribute o "split" apos) [e] [] pos) (tM1 (fun x xs H Q => ∃ a b, x = .str a ∧ xs = [.str b] ∧ (b.length == 0) = false ∧ a.length + 2 ≤ sizeLine ∧ rNewStrs (Txt.split a b) H Q) ta tb) := by
      intro ta tb h1 h2; exact pe_split h1 h2) : VD X W (.Call (.Attribute o "split" apos) [e] [] pos) (mStM splitF mo m) := by
  obtain ⟨ta, pa, sa⟩ := ho
  obtain ⟨tb, pb, sb⟩ := he
  refine ⟨_, pbm pa pb, fun Γ σ F H O Q k h => sa Γ σ F H O _ k ?_⟩
  unfold mStM at h
  refine HitN.bind h fun da Γ1 v F1 H1 O1 k1 r1 s1 h1 => ?_
  cases da with
  | str a =>
    cases r1
    refine ⟨⟨a, rfl⟩, sb Γ1 σ F1 H1 O1 _ k1 ?_⟩
    unfold stM at h1
    refine HitN.bind h1 fun db Γ2 w F2 H2 O2 k2 r2 s2 h2 => ?_
    obtain ⟨d, e', q⟩ := HitN.fin h2 k2
    unfold splitF at e'
    cases db with
    | str b =>
      dsimp only at e'
      split at e'
      · rename_i hc
        cases e'
        cases r2
        refine ⟨_, _, rfl, rfl, hc.1, hc.2, fun l hl => ?_⟩
        obtain ⟨g, z⟩ := grow_lst k2.sub hl (strs_df (K := X.K) (F := F2) (Txt.split a b))
        exact q _ _ _ g z
      · cases e'
    | _ => cases e'
  | _ => exact h1.elim
theorem vd_part (ho : VD X W o mo) (he : VD X W e m)
    (pbm : ∀ {ta tb : TE}, PE X o ta → PE X e tb → PE X (.Call (.Attribute o "partition" apos) [e] [] pos) (tM1 (fun x xs H Q => ∃ a b, x = .str a ∧ xs = [.str b] ∧ (b.length == 0) = false ∧ a.length ≤ sizeLine ∧ ∀ p, H p = none → Q (.ref p) (upd H p (.tup [.str (Txt.partition a b).1, .str (Txt.partition a b).2.1, .str (Txt.partition a b).2.2]))) ta tb) := by
      intro ta tb h1 h2; exact pe_partition h1 h2) : VD X W (.Call (.Attribute o "partition" apos) [e] [] pos) (mStM partF mo m) := by
  obtain ⟨ta, pa, sa⟩ := ho
  obtain ⟨tb, pb, sb⟩ := he
  refine ⟨_, pbm pa pb, fun Γ σ F H O Q k h => sa Γ σ F H O _ k ?_⟩
  unfold mStM at h
  refine HitN.bind h fun da Γ1 v F1 H1 O1 k1 r1 s1 h1 => ?_
  cases da with
  | str a =>
    cases r1
    refine ⟨⟨a, rfl⟩, sb Γ1 σ F1 H1 O1 _ k1 ?_⟩
    unfold stM at h1
    refine HitN.bind h1 fun db Γ2 w F2 H2 O2 k2 r2 s2 h2 => ?_
    obtain ⟨d, e', q⟩ := HitN.fin h2 k2
    unfold partF at e'
    cases db with
    | str b =>
      dsimp only at e'
      split at e'
      · rename_i hc
        cases e'
        cases r2
        refine ⟨_, _, rfl, rfl, hc.1, hc.2, fun l hl => ?_⟩
        obtain ⟨g, z⟩ := grow_tup k2.sub hl (strs_df (K := X.K) (F := F2) [(Txt.partition a b).1, (Txt.partition a b).2.1, (Txt.partition a b).2.2])
        exact q _ _ _ g z
      · cases e'
    | _ => cases e'
  | _ => exact h1.elim
theorem vd_join (ho : VD X W o mo) (he : VD X W e m)
    (pbm : ∀ {ta tb : TE}, PE X o ta → PE X e tb → PE X (.Call (.Attribute o "join" apos) [e] [] pos) (tM1 (fun x xs H Q => ∃ a p, ∃ ys : List Str, x = .str a ∧ xs = [.ref p] ∧ (SqL X.K H p (ys.map V.str) ∨ SqT X.K H p (ys.map V.str)) ∧ (ys.map (·.length)).sum + ys.length * a.length ≤ 16777216 ∧ Q (.str (Txt.join a ys)) H) ta tb) := by
      intro ta tb h1 h2; exact pe_join h1 h2) : VD X W (.Call (.Attribute o "join" apos) [e] [] pos) (mStM joinF mo m) := by
  obtain ⟨ta, pa, sa⟩ := ho
  obtain ⟨tb, pb, sb⟩ := he
  refine ⟨_, pbm pa pb, fun Γ σ F H O Q k h => sa Γ σ F H O _ k ?_⟩
  unfold mStM at h
  refine HitN.bind h fun da Γ1 v F1 H1 O1 k1 r1 s1 h1 => ?_
  cases da with
  | str a =>
    cases r1
    refine ⟨⟨a, rfl⟩, sb Γ1 σ F1 H1 O1 _ k1 ?_⟩
    unfold stM at h1
    refine HitN.bind h1 fun db Γ2 w F2 H2 O2 k2 r2 s2 h2 => ?_
    obtain ⟨d, e', q⟩ := HitN.fin h2 k2
    unfold joinF at e'
    cases db with
    | list ds =>
      obtain ⟨ys, e1, e2⟩ := Option.bind_eq_some_iff.mp e'
      split at e2
      · rename_i hc
        cases e2
        cases r2 with
        | lst hs ha =>
          rw [strs_vs ha e1] at hs
          exact ⟨a, _, ys, rfl, rfl, .inl (SqL.of (k2.sub _ _ hs)), hc, q _ F2 H2 (Grow.refl k2.sub) (.str _)⟩
      · cases e2
    | tuple ds =>
      obtain ⟨ys, e1, e2⟩ := Option.bind_eq_some_iff.mp e'
      split at e2
      · rename_i hc
        cases e2
        cases r2 with
        | tup hs ha =>
          have sq := tupT (K := X.K) k2.sub hs
          rw [strs_vs ha e1] at sq
          exact ⟨a, _, ys, rfl, rfl, .inr sq, hc, q _ F2 H2 (Grow.refl k2.sub) (.str _)⟩
      · cases e2
    | _ => cases e'
  | _ => exact h1.elim
end
end TW

/-! Reasoning about runs: what is wanted behind a run. -/
namespace TW
open PySem PySem.Spec L2
def onO {α : Type} (o : Option α) (Q : α → Prop) : Prop := ∃ a, o = some a ∧ Q a
def wpM {α : Type} (m : M α) (Γ : G) (Q : Rs α → Prop) : Prop := onO (m Γ) Q
def wpS (m : MS) (Γ : G) (Q : Fl → Prop) : Prop := onO (m Γ) Q
def bQ {α β : Type} (f : α → M β) (Q : Rs β → Prop) : Rs α → Prop
  | .ok a Γ => wpM (f a) Γ Q
  | .ex c Γ => Q (.ex c Γ)
def sQ {α : Type} (f : α → MS) (Q : Fl → Prop) : Rs α → Prop
  | .ok a Γ => wpS (f a) Γ Q
  | .ex c Γ => Q (.ex c Γ)
def nQ (b : MS) (Q : Fl → Prop) : Fl → Prop
  | .nx Γ => wpS b Γ Q
  | r => Q r
section
variable {α β : Type} {Γ Γ' : G} {i n : Nat} {a x : α} {d : PyData} {t : T} {ts : List T}
theorem onO_some {Q : α → Prop} : onO (some a) Q = Q a := by unfold onO; simp
theorem onO_none {Q : α → Prop} : onO (none : Option α) Q = False := by unfold onO; simp
theorem onO_if {c : Prop} [Decidable c] {Q : α → Prop} : onO (if c then some a else none) Q = (c ∧ Q a) := by
  unfold onO
  by_cases h : c <;> simp [h]
theorem onO_map {f : α → β} {o : Option α} {Q : β → Prop} : onO (o.map f) Q = onO o fun a => Q (f a) := by
  unfold onO
  cases o <;> simp
theorem wp_bM {m : M α} {f : α → M β} {Q : Rs β → Prop} : wpM (bM m f) Γ Q = wpM m Γ (bQ f Q) := by
  unfold wpM bM onO
  cases q : m Γ with
  | none => simp
  | some r => cases r <;> simp [bQ, wpM, onO]
theorem wp_bS {m : M α} {f : α → MS} {Q : Fl → Prop} : wpS (bS m f) Γ Q = wpM m Γ (sQ f Q) := by
  unfold wpM wpS bS onO
  cases q : m Γ with
  | none => simp
  | some r => cases r <;> simp [sQ, wpS, onO]
theorem bQ_ok {f : α → M β} {Q : Rs β → Prop} : bQ f Q (.ok a Γ) = wpM (f a) Γ Q := rfl
theorem sQ_ok {f : α → MS} {Q : Fl → Prop} : sQ f Q (.ok a Γ) = wpS (f a) Γ Q := rfl
theorem bQ_ex {f : α → M β} {Q : Rs β → Prop} {c : Str} : bQ f Q (.ex c Γ) = Q (.ex c Γ) := rfl
theorem sQ_ex {f : α → MS} {Q : Fl → Prop} {c : Str} : sQ f Q (.ex c Γ) = Q (.ex c Γ) := rfl
theorem wp_pM {Q : Rs α → Prop} : wpM (pM a) Γ Q = Q (.ok a Γ) := by unfold wpM pM; rw [onO_some]
theorem wp_oM {o : Option α} {Q : Rs α → Prop} : wpM (oM o) Γ Q = onO o fun a => Q (.ok a Γ) := by unfold wpM oM; rw [onO_map]
theorem wp_mC {Q : Rs PyData → Prop} : wpM (mC d) Γ Q = Q (.ok d Γ) := wp_pM
theorem wp_qS {a b : MS} {Q : Fl → Prop} : wpS (qS a b) Γ Q = wpS a Γ (nQ b Q) := by
  unfold wpS qS onO
  cases q : a Γ with
  | none => simp
  | some r => cases r <;> simp [nQ, wpS, onO]
theorem nQ_nx {b : MS} {Q : Fl → Prop} : nQ b Q (.nx Γ) = wpS b Γ Q := rfl
theorem nQ_rt {b : MS} {Q : Fl → Prop} : nQ b Q (.rt t Γ) = Q (.rt t Γ) := rfl
theorem nQ_bk {b : MS} {Q : Fl → Prop} : nQ b Q (.bk Γ) = Q (.bk Γ) := rfl
theorem nQ_ct {b : MS} {Q : Fl → Prop} : nQ b Q (.ct Γ) = Q (.ct Γ) := rfl
theorem nQ_ex {b : MS} {Q : Fl → Prop} {c : Str} : nQ b Q (.ex c Γ) = Q (.ex c Γ) := rfl
theorem wp_nS {Q : Fl → Prop} : wpS nS Γ Q = Q (.nx Γ) := by unfold wpS nS; rw [onO_some]
/-! slots -/
def atV (i : Nat) (Γ : G) (Q : T → Prop) : Prop := onO (Γ.getD i none) Q
theorem atV_0 {x : Option T} {Q : T → Prop} : atV 0 (x :: Γ) Q = onO x Q := rfl
theorem atV_s {x : Option T} {Q : T → Prop} : atV (i + 1) (x :: Γ) Q = atV i Γ Q := by unfold atV; simp
def varQ (i : Nat) (Γ : G) (Q : Rs PyData → Prop) : T → Prop
  | .frz d => Q (.ok d Γ)
  | t => onO (fz t) fun d => Q (.ok d (Γ.set i (some (.frz d))))
theorem getD_eq : Γ.getD i none = (Γ[i]?).getD none := by rw [List.getD_eq_getElem?_getD]
theorem wp_mVar {Q : Rs PyData → Prop} : wpM (mVar i) Γ Q = atV i Γ (varQ i Γ Q) := by
  unfold wpM mVar atV
  rw [getD_eq]
  cases q : Γ[i]? with
  | none => simp [onO]
  | some o =>
    cases o with
    | none => simp [onO]
    | some t =>
      cases t with
      | lst ts => cases e : fzs ts <;> simp [onO, varQ, fz, e]
      | _ => simp [onO, varQ, fz]
theorem varQ_frz {Q : Rs PyData → Prop} : varQ i Γ Q (.frz d) = Q (.ok d Γ) := rfl
theorem varQ_lst {Q : Rs PyData → Prop} : varQ i Γ Q (.lst ts) = onO (fzs ts) fun ds => Q (.ok (.list ds) (Γ.set i (some (.frz (.list ds))))) := by
  show onO (fz (.lst ts)) _ = _
  unfold fz
  rw [onO_map]
theorem wp_mMove {Q : Rs T → Prop} : wpM (mMove i) Γ Q = atV i Γ fun t => Q (.ok t (Γ.set i none)) := by
  unfold wpM mMove atV
  rw [getD_eq]
  cases q : Γ[i]? with
  | none => simp [onO]
  | some o => cases o <;> simp [onO]
def peekQ (Γ : G) (Q : Rs PyData → Prop) : T → Prop
  | .frz d => Q (.ok d Γ)
  | .lst ts => onO (ice ts) fun ds => Q (.ok (.list ds) Γ)
  | _ => False
theorem wp_mPeek {Q : Rs PyData → Prop} : wpM (mPeek i) Γ Q = atV i Γ (peekQ Γ Q) := by
  unfold wpM mPeek atV
  rw [getD_eq]
  cases q : Γ[i]? with
  | none => simp [onO]
  | some o =>
    cases o with
    | none => simp [onO]
    | some t =>
      cases t with
      | lst ts => cases e : ice ts <;> simp [onO, peekQ, e]
      | _ => simp [onO, peekQ]
theorem peekQ_frz {Q : Rs PyData → Prop} : peekQ Γ Q (.frz d) = Q (.ok d Γ) := rfl
theorem peekQ_lst {Q : Rs PyData → Prop} : peekQ Γ Q (.lst ts) = onO (ice ts) fun ds => Q (.ok (.list ds) Γ) := rfl
theorem ice_frz : ∀ ds : List PyData, ice (ds.map .frz) = some ds
  | [] => rfl
  | d :: ds => by
    show (ice (ds.map .frz)).map (d :: ·) = some (d :: ds)
    rw [ice_frz ds]
    rfl
theorem fzs_frz : ∀ ds : List PyData, fzs (ds.map .frz) = some ds
  | [] => rfl
  | d :: ds => by
    show (match fz (.frz d), fzs (ds.map .frz) with
      | some d, some ds => some (d :: ds)
      | _, _ => none) = some (d :: ds)
    rw [fzs_frz ds]
    rfl
theorem wp_mSet {m : M T} {Q : Fl → Prop} : wpS (mSet i m) Γ Q = wpM m Γ (sQ (fun t Γ => (storeG i t Γ).map .nx) Q) := wp_bS
theorem wp_store {Q : Fl → Prop} : wpS (fun Γ => (storeG i t Γ).map .nx) Γ Q = (i < Γ.length ∧ Q (.nx (Γ.set i (some t)))) := by
  unfold wpS
  rw [onO_map]
  unfold storeG
  rw [onO_if]
theorem wp_mT {m : M PyData} {Q : Rs T → Prop} : wpM (mT m) Γ Q = wpM m Γ (bQ (fun d => pM (.frz d)) Q) := wp_bM
theorem wp_mF {m : M T} {Q : Rs PyData → Prop} : wpM (mF m) Γ Q = wpM m Γ (bQ (fun t => oM (fz t)) Q) := wp_bM
theorem fz_frz : fz (.frz d) = some d := rfl
theorem fz_lst : fz (.lst ts) = (fzs ts).map .list := by unfold fz; rfl
theorem wp_mB {m : M PyData} {Q : Rs Bool → Prop} : wpM (mB m) Γ Q = wpM m Γ (bQ (fun d => oM (isB d)) Q) := wp_bM
theorem isB_bool {b : Bool} : isB (.bool b) = some b := rfl
theorem wp_mOp {f : OpF} {ma mb : M PyData} {Q : Rs PyData → Prop} : wpM (mOp f ma mb) Γ Q = wpM ma Γ (bQ (fun a => bM mb fun b => oM (f a b)) Q) := wp_bM
theorem wp_mC1 {g : PyData → Option PyData} {m : M PyData} {Q : Rs PyData → Prop} : wpM (mC1 g m) Γ Q = wpM m Γ (bQ (fun d => oM (g d)) Q) := wp_bM
theorem wp_mC2 {f : OpF} {ma mb : M PyData} {Q : Rs PyData → Prop} : wpM (mC2 f ma mb) Γ Q = wpM ma Γ (bQ (fun a => bM mb fun b => oM (f a b)) Q) := wp_bM
theorem wp_mC1T {g : PyData → Option (List PyData)} {m : M PyData} {Q : Rs T → Prop} : wpM (mC1T g m) Γ Q = wpM m Γ (bQ (fun d => oM ((g d).map fun ds => .lst (ds.map .frz))) Q) := wp_bM
theorem wp_mRet {m : M T} {Q : Fl → Prop} : wpS (mRet m) Γ Q = wpM m Γ (sQ (fun t Γ => some (.rt t Γ)) Q) := wp_bS
theorem wp_rt {Q : Fl → Prop} : wpS (fun Γ => some (.rt t Γ)) Γ Q = Q (.rt t Γ) := by unfold wpS; rw [onO_some]
theorem wp_nx {Q : Fl → Prop} : wpS (fun Γ => some (.nx Γ)) Γ Q = Q (.nx Γ) := by unfold wpS; rw [onO_some]
theorem wp_exS {Q : Fl → Prop} {c : Str} : wpS (fun Γ => some (.ex c Γ)) Γ Q = Q (.ex c Γ) := by unfold wpS; rw [onO_some]
theorem wp_mDrop {m : M T} {Q : Fl → Prop} : wpS (mDrop m) Γ Q = wpM m Γ (sQ (fun _ Γ => some (.nx Γ)) Q) := wp_bS
def ifQ (a b : Prop) : Bool → Prop
  | true => a
  | false => b
theorem ifQ_t {a b : Prop} : ifQ a b true = a := rfl
theorem ifQ_f {a b : Prop} : ifQ a b false = b := rfl
theorem ifQ_d {a b c : Prop} [Decidable c] : ifQ a b (decide c) = ((c → a) ∧ (¬ c → b)) := by
  by_cases h : c <;> simp [h, ifQ]
theorem wp_mWhen {c : M Bool} {a b : MS} {Q : Fl → Prop} : wpS (mWhen c a b) Γ Q = wpM c Γ (sQ (fun c => if c = true then a else b) Q) := wp_bS
theorem wp_ifS {c : Bool} {a b : MS} {Q : Fl → Prop} : wpS (if c = true then a else b) Γ Q = ifQ (wpS a Γ Q) (wpS b Γ Q) c := by cases c <;> rfl
theorem wp_ifM {c : Bool} {a b : M α} {Q : Rs α → Prop} : wpM (if c = true then a else b) Γ Q = ifQ (wpM a Γ Q) (wpM b Γ Q) c := by cases c <;> rfl
theorem wp_mIf {c : M Bool} {a b : M α} {Q : Rs α → Prop} : wpM (mIf c a b) Γ Q = wpM c Γ (bQ (fun c => if c = true then a else b) Q) := wp_bM
theorem wp_mAnd {c d : M Bool} {Q : Rs Bool → Prop} : wpM (mAnd c d) Γ Q = wpM c Γ (bQ (fun c => if c = true then d else pM false) Q) := wp_bM
theorem wp_mOr {c d : M Bool} {Q : Rs Bool → Prop} : wpM (mOr c d) Γ Q = wpM c Γ (bQ (fun c => if c = true then pM true else d) Q) := wp_bM
theorem wp_mNot {c : M Bool} {Q : Rs Bool → Prop} : wpM (mNot c) Γ Q = wpM c Γ (bQ (fun c => pM (!c)) Q) := wp_bM
def andF (m : M PyData) : PyData → M PyData
  | .bool true => m
  | .bool false => pM (.bool false)
  | _ => fun _ => none
def orF (m : M PyData) : PyData → M PyData
  | .bool true => pM (.bool true)
  | .bool false => m
  | _ => fun _ => none
theorem wp_andF {m : M PyData} {b : Bool} {Q : Rs PyData → Prop} : wpM (andF m (.bool b)) Γ Q = ifQ (wpM m Γ Q) (Q (.ok (.bool false) Γ)) b := by
  cases b
  · exact wp_pM
  · rfl
theorem wp_orF {m : M PyData} {b : Bool} {Q : Rs PyData → Prop} : wpM (orF m (.bool b)) Γ Q = ifQ (Q (.ok (.bool true) Γ)) (wpM m Γ Q) b := by
  cases b
  · rfl
  · exact wp_pM
theorem wp_mAndV {ma mb : M PyData} {Q : Rs PyData → Prop} : wpM (mAndV ma mb) Γ Q = wpM ma Γ (bQ (andF mb) Q) := by
  unfold mAndV
  rw [wp_bM]
  congr 1
theorem wp_mOrV {ma mb : M PyData} {Q : Rs PyData → Prop} : wpM (mOrV ma mb) Γ Q = wpM ma Γ (bQ (orF mb) Q) := by
  unfold mOrV
  rw [wp_bM]
  congr 1
def notFn : PyData → M PyData
  | .bool c => pM (.bool (!c))
  | _ => fun _ => none
theorem wp_notFn {b : Bool} {Q : Rs PyData → Prop} : wpM (notFn (.bool b)) Γ Q = Q (.ok (.bool (!b)) Γ) := wp_pM
theorem wp_mNotV {ma : M PyData} {Q : Rs PyData → Prop} : wpM (mNotV ma) Γ Q = wpM ma Γ (bQ notFn Q) := by
  unfold mNotV
  rw [wp_bM]
  congr 1
/-! tuples, lists -/
theorem wp_mNil {Q : Rs (List PyData) → Prop} : wpM mNil Γ Q = Q (.ok [] Γ) := wp_pM
theorem wp_mCons {me : M PyData} {ms : M (List PyData)} {Q : Rs (List PyData) → Prop} : wpM (mCons me ms) Γ Q = wpM me Γ (bQ (fun d => bM ms fun ds => pM (d :: ds)) Q) := wp_bM
theorem wp_mTup {ms : M (List PyData)} {Q : Rs PyData → Prop} : wpM (mTup ms) Γ Q = wpM ms Γ (bQ (fun ds => oM (if ds.length ≤ sizeLine then some (.tuple ds) else none)) Q) := wp_bM
theorem wp_mLst {ms : M (List PyData)} {Q : Rs T → Prop} : wpM (mLst ms) Γ Q = wpM ms Γ (bQ (fun ds => oM (if ds.length ≤ sizeLine then some (.lst (ds.map .frz)) else none)) Q) := wp_bM
/-! subscripts -/
def ixL (i : Nat) (k : Int) (ts : List T) (Γ : G) (Q : Rs PyData → Prop) : T → Prop
  | .frz d => Q (.ok d Γ)
  | _ => onO (fzs ts) fun ds => onO (atI ds k) fun d => Q (.ok d (Γ.set i (some (.frz (.list ds)))))
def ixW (i : Nat) (Γ : G) (d : PyData) (Q : Rs PyData → Prop) : T → Prop
  | .frz a => onO (ixF a d) fun d => Q (.ok d Γ)
  | .scr ns => (match d with
    | .int k => onO (atI ns k) fun z => Q (.ok (.int z) Γ)
    | _ => False)
  | .lst ts => (match d with
    | .int k => onO (atI ts k) (ixL i k ts Γ Q)
    | _ => False)
  | .dct _ => False
  | .lck _ => False
  | .dtp _ => False
theorem ixW_frz {a : PyData} {Q : Rs PyData → Prop} : ixW i Γ d Q (.frz a) = onO (ixF a d) fun d => Q (.ok d Γ) := rfl
theorem ixW_scr {ns : List Int} {k : Int} {Q : Rs PyData → Prop} : ixW i Γ (.int k) Q (.scr ns) = onO (atI ns k) fun z => Q (.ok (.int z) Γ) := rfl
theorem ixW_lst {k : Int} {Q : Rs PyData → Prop} : ixW i Γ (.int k) Q (.lst ts) = onO (atI ts k) (ixL i k ts Γ Q) := rfl
theorem ixL_frz {k : Int} {Q : Rs PyData → Prop} : ixL i k ts Γ Q (.frz d) = Q (.ok d Γ) := rfl
theorem ixL_lst {k : Int} {us : List T} {Q : Rs PyData → Prop} : ixL i k ts Γ Q (.lst us) = onO (fzs ts) fun ds => onO (atI ds k) fun d => Q (.ok d (Γ.set i (some (.frz (.list ds))))) := rfl
theorem wp_ixS {Q : Rs PyData → Prop} : wpM (ixS i d) Γ Q = atV i Γ (ixW i Γ d Q) := by
  unfold atV
  rw [getD_eq]
  unfold wpM ixS
  cases q : Γ[i]? with
  | none => simp [onO]
  | some o =>
    cases o with
    | none => simp [onO]
    | some t =>
      show _ = onO (some t) _
      rw [onO_some]
      cases t with
      | frz a =>
        show onO (oM (ixF a d) Γ) Q = _
        unfold oM
        rw [onO_map]
        rfl
      | scr ns =>
        cases d with
        | int k =>
          show onO (oM ((atI ns k).map .int) Γ) Q = _
          unfold oM
          rw [onO_map, onO_map]
          rfl
        | _ => exact onO_none
      | lst ts =>
        cases d with
        | int k =>
          rw [ixW_lst]
          dsimp only
          cases e : atI ts k with
          | none => rw [onO_none, onO_none]
          | some t =>
            rw [onO_some]
            cases t with
            | frz d => exact onO_some
            | _ =>
              dsimp only
              unfold ixL
              cases e2 : fzs ts with
              | none => rw [onO_none]; exact onO_none.symm
              | some ds =>
                rw [onO_some]
                show onO (oM (atI ds k) _) Q = _
                unfold oM
                rw [onO_map]
        | _ => exact onO_none
      | dct kvs => exact onO_none
      | lck kvs => exact onO_none
      | dtp kvs => exact onO_none
end
/-- where the slot is known -/
theorem wp_ixV {i : Nat} {mb : M PyData} {Γ : G} {Q : Rs PyData → Prop} : wpM (mIxV i mb) Γ Q = atV i Γ fun _ => wpM mb Γ (bQ (ixS i) Q) := by
  unfold atV
  rw [getD_eq]
  show onO (match Γ[i]? with
    | some (some _) => bM mb (ixS i) Γ
    | _ => none) Q = _
  cases q : Γ[i]? with
  | none => exact onO_none.trans onO_none.symm
  | some o =>
    cases o with
    | none => exact onO_none.trans onO_none.symm
    | some t =>
      show onO (bM mb (ixS i) Γ) Q = onO (some t) _
      rw [onO_some]
      exact wp_bM
end TW

namespace TW
open PySem PySem.Spec L2
section
variable {α β : Type} {Γ Γ' : G} {i n : Nat} {a x : α} {d : PyData} {t : T} {ts : List T}
/-! stores into lists -/
def putQ (i : Nat) (Γ : G) (d : PyData) (k : Int) (Q : Fl → Prop) : T → Prop
  | .lst ts => onO (ixN ts.length k) fun l => Q (.nx (Γ.set i (some (.lst (ts.set l (.frz d))))))
  | _ => False
theorem putQ_lst {k : Int} {Q : Fl → Prop} : putQ i Γ d k Q (.lst ts) = onO (ixN ts.length k) fun l => Q (.nx (Γ.set i (some (.lst (ts.set l (.frz d)))))) := rfl
def setK (i : Nat) (d : PyData) : PyData → MS := fun kd Γ => (setIx i d kd Γ).map .nx
def setF (i : Nat) (mk : M PyData) (d : PyData) : MS := fun Γ => match Γ[i]? with
  | some (some _) => bS mk (setK i d) Γ
  | _ => none
theorem wp_mSetIx {m mk : M PyData} {Q : Fl → Prop} : wpS (mSetIx i m mk) Γ Q = wpM m Γ (sQ (setF i mk) Q) := wp_bS
theorem wp_setF {mk : M PyData} {Q : Fl → Prop} : wpS (setF i mk d) Γ Q = atV i Γ fun _ => wpM mk Γ (sQ (setK i d) Q) := by
  unfold atV
  rw [getD_eq]
  show onO (match Γ[i]? with
    | some (some _) => bS mk (setK i d) Γ
    | _ => none) Q = _
  cases q : Γ[i]? with
  | none => exact onO_none.trans onO_none.symm
  | some o =>
    cases o with
    | none => exact onO_none.trans onO_none.symm
    | some t =>
      show onO (bS mk (setK i d) Γ) Q = onO (some t) _
      rw [onO_some]
      exact wp_bS
theorem wp_setK {k : Int} {Q : Fl → Prop} : wpS (setK i d (.int k)) Γ Q = atV i Γ (putQ i Γ d k Q) := by
  unfold atV
  rw [getD_eq]
  show onO ((setIx i d (.int k) Γ).map Fl.nx) Q = _
  rw [onO_map]
  unfold setIx
  cases q : Γ[i]? with
  | none => exact onO_none.trans onO_none.symm
  | some o =>
    cases o with
    | none => exact onO_none.trans onO_none.symm
    | some t =>
      show _ = onO (some t) _
      rw [onO_some]
      cases t with
      | lst ts =>
        rw [putQ_lst]
        dsimp only
        cases e : ixN ts.length k with
        | none => exact onO_none.trans onO_none.symm
        | some l => rw [onO_some, onO_some]
      | _ => exact onO_none
/-! append -/
def appK (i : Nat) (t : T) : M T := fun Γ => match Γ[i]? with
    | some (some (.lst ts)) => if ts.length < sizeLine then some (.ok (.frz .none) (Γ.set i (some (.lst (ts ++ [t]))))) else none
    | _ => none
def appQ (i : Nat) (Γ : G) (t : T) (Q : Rs T → Prop) : T → Prop
  | .lst ts => ts.length < sizeLine ∧ Q (.ok (.frz .none) (Γ.set i (some (.lst (ts ++ [t])))))
  | _ => False
theorem appQ_lst {Q : Rs T → Prop} : appQ i Γ t Q (.lst ts) = (ts.length < sizeLine ∧ Q (.ok (.frz .none) (Γ.set i (some (.lst (ts ++ [t])))))) := rfl
def isL (P : Prop) : T → Prop
  | .lst _ => P
  | _ => False
theorem isL_lst {P : Prop} : isL P (.lst ts) = P := rfl
theorem wp_mApp {m : M T} {Q : Rs T → Prop} : wpM (mApp i m) Γ Q = atV i Γ (isL (wpM m Γ (bQ (appK i) Q))) := by
  unfold atV
  rw [getD_eq]
  show onO (match Γ[i]? with
    | some (some (.lst _)) => bM m (appK i) Γ
    | _ => none) Q = _
  cases q : Γ[i]? with
  | none => exact onO_none.trans onO_none.symm
  | some o =>
    cases o with
    | none => exact onO_none.trans onO_none.symm
    | some t =>
      show _ = onO (some t) _
      rw [onO_some]
      cases t with
      | lst ts => exact wp_bM
      | _ => exact onO_none
theorem wp_appK {Q : Rs T → Prop} : wpM (appK i t) Γ Q = atV i Γ (appQ i Γ t Q) := by
  unfold atV
  rw [getD_eq]
  unfold wpM appK
  cases q : Γ[i]? with
  | none => exact onO_none.trans onO_none.symm
  | some o =>
    cases o with
    | none => exact onO_none.trans onO_none.symm
    | some t' =>
      show _ = onO (some t') _
      rw [onO_some]
      cases t' with
      | lst ts => exact onO_if
      | _ => exact onO_none
/-! len -/
theorem wp_mLen {Q : Rs PyData → Prop} : wpM (mLen i) Γ Q = atV i Γ fun t => onO (lenT t) fun d => Q (.ok d Γ) := by
  unfold atV
  rw [getD_eq]
  unfold wpM mLen
  cases q : Γ[i]? with
  | none => exact onO_none.trans onO_none.symm
  | some o =>
    cases o with
    | none => exact onO_none.trans onO_none.symm
    | some t =>
      show _ = onO (some t) _
      rw [onO_some]
      exact onO_map
theorem lenT_frz : lenT (.frz d) = lenF d := rfl
theorem lenT_scr {ns : List Int} : lenT (.scr ns) = some (.int ns.length) := rfl
theorem lenT_lst : lenT (.lst ts) = some (.int ts.length) := rfl
theorem lenF_list {ds : List PyData} : lenF (.list ds) = some (.int ds.length) := rfl
theorem lenF_tuple {ds : List PyData} : lenF (.tuple ds) = some (.int ds.length) := rfl
/-! += -/
theorem wp_mAug {f : OpF} {m : M PyData} {Q : Fl → Prop} : wpS (mAug i f m) Γ Q = wpM (mVar i) Γ (sQ (fun d => bS m fun d' => bS (oM (f d d')) fun z Γ => (storeG i (.frz z) Γ).map .nx) Q) := wp_bS
/-! operators on data -/
theorem addF_int {i j : Int} : addF (.int i) (.int j) = some (.int (i + j)) := rfl
theorem addF_tup {a b : List PyData} : addF (.tuple a) (.tuple b) = if a.length + b.length ≤ sizeLine then some (.tuple (a ++ b)) else none := rfl
theorem addF_list {a b : List PyData} : addF (.list a) (.list b) = if a.length + b.length ≤ sizeLine then some (.list (a ++ b)) else none := rfl
theorem subF_int {i j : Int} : subF (.int i) (.int j) = some (.int (i - j)) := rfl
theorem mulF_int {i j : Int} : mulF (.int i) (.int j) = if (big i && big j) = true then some (.int (i * j)) else none := rfl
theorem modF_int {i j : Int} : modF (.int i) (.int j) = if 0 < j then some (.int (i % j)) else none := rfl
theorem divF_int {i j : Int} : divF (.int i) (.int j) = if 0 < j ∧ big j = true then some (.int (i / j)) else none := rfl
theorem powF_int {i j : Int} : powF (.int i) (.int j) = if 0 ≤ j ∧ j ≤ 1000000 ∧ i.natAbs < 2 ^ 64 then some (.int (i ^ j.toNat)) else none := rfl
theorem cmpF_int {p : Int → Int → Bool} {i j : Int} : cmpF p (.int i) (.int j) = some (.bool (p i j)) := rfl
theorem ltF_int {i j : Int} : ltF (.int i) (.int j) = some (.bool (decide (i < j))) := rfl
theorem leF_int {i j : Int} : leF (.int i) (.int j) = some (.bool (decide (i ≤ j))) := rfl
theorem gtF_int {i j : Int} : gtF (.int i) (.int j) = some (.bool (decide (j < i))) := rfl
theorem geF_int {i j : Int} : geF (.int i) (.int j) = some (.bool (decide (j ≤ i))) := rfl
theorem eqF_int {i j : Int} : eqF (.int i) (.int j) = some (.bool (decide (i = j))) := by
  show some (PyData.bool (i == j)) = _
  congr 2
theorem neF_int {i j : Int} : neF (.int i) (.int j) = some (.bool (!decide (i = j))) := by
  show some (PyData.bool (!(i == j))) = _
  congr 3
theorem eqF_bool {i j : Bool} : eqF (.bool i) (.bool j) = some (.bool (i == j)) := rfl
theorem iaddF_int {i j : Int} : iaddF (.int i) (.int j) = some (.int (i + j)) := rfl
theorem max2F_int {i j : Int} : max2F (.int i) (.int j) = some (.int (max i j)) := by
  show some (PyData.int (if j > i then j else i)) = _
  congr 2
  omega
theorem min2F_int {i j : Int} : min2F (.int i) (.int j) = some (.int (min i j)) := by
  show some (PyData.int (if j < i then j else i)) = _
  congr 2
  omega
theorem isNF_no {d : PyData} : isNF d .none = some (.bool (isNo d)) := by unfold isNF; rfl
theorem notNF_no {d : PyData} : notNF d .none = some (.bool (!isNo d)) := by unfold notNF; rfl
theorem ixF_list {ds : List PyData} {k : Int} : ixF (.list ds) (.int k) = atI ds k := rfl
theorem ixF_tup {ds : List PyData} {k : Int} : ixF (.tuple ds) (.int k) = atI ds k := rfl
theorem at0 {l : List α} : atI (a :: l) 0 = some a := atI_nat (j := 0) rfl
theorem at1 {a b : α} {l : List α} : atI (a :: b :: l) 1 = some b := atI_nat (j := 1) rfl
theorem at2 {a b c : α} {l : List α} : atI (a :: b :: c :: l) 2 = some c := atI_nat (j := 2) rfl
theorem onO_mk {α : Type} {o : Option α} {a : α} {Q : α → Prop} (e : o = some a) (q : Q a) : onO o Q := ⟨a, e, q⟩
theorem ixN20 : ixN 2 0 = some 0 := by decide
theorem ixN21 : ixN 2 1 = some 1 := by decide
theorem bigs {i j : Int} : ((big i && big j) = true) = (big i = true ∧ big j = true) := by simp
theorem big_of {i : Int} (h1 : -(10 ^ 200) < i) (h2 : i < 10 ^ 200) : big i = true := by
  unfold big
  refine decide_eq_true (Nat.lt_of_lt_of_le (m := 10 ^ 200) (by omega) ?_)
  exact Nat.le_of_ble_eq_true rfl
theorem inst_int_int {i : Int} : instF "int" (.int i) = some (.bool true) := by
  show (kitB "int" "int").map PyData.bool = _
  rw [show kitB "int" "int" = some true by decide +kernel]
  rfl
theorem inst_bool_int {i : Int} : instF "bool" (.int i) = some (.bool false) := by
  show (kitB "int" "bool").map PyData.bool = _
  rw [show kitB "int" "bool" = some false by decide +kernel]
  rfl
/-! calls -/
def callQ (as : List Ar) (Γ : G) (Q : Rs T → Prop) : CR → Prop
  | .ret t outs => Q (.ok t (restore as outs Γ))
  | .exc c => Q (.ex c Γ)
theorem callQ_ret {as : List Ar} {outs : G} {Q : Rs T → Prop} : callQ as Γ Q (.ret t outs) = Q (.ok t (restore as outs Γ)) := rfl
def callF (mf : MF) (as : List Ar) (ts : List T) : M T := fun Γ => match mf ts with
  | none => none
  | some (.ret t outs) => some (.ok t (restore as outs Γ))
  | some (.exc c) => some (.ex c Γ)
theorem wp_mCall {mf : MF} {as : List Ar} {Q : Rs T → Prop} : wpM (mCall mf as) Γ Q = wpM (mArgs as) Γ (bQ (callF mf as) Q) := wp_bM
theorem wp_callF {mf : MF} {as : List Ar} {Q : Rs T → Prop} : wpM (callF mf as ts) Γ Q = onO (mf ts) (callQ as Γ Q) := by
  unfold wpM callF
  cases q : mf ts with
  | none => exact onO_none.trans onO_none.symm
  | some c =>
    cases c with
    | ret t outs => simp only [onO_some, callQ]
    | exc c => simp only [onO_some, callQ]
theorem wp_mArgs_nil {Q : Rs (List T) → Prop} : wpM (mArgs []) Γ Q = Q (.ok [] Γ) := wp_pM
theorem wp_mArgs_d {m : M PyData} {r : List Ar} {Q : Rs (List T) → Prop} : wpM (mArgs (.d m :: r)) Γ Q = wpM m Γ (bQ (fun d => bM (mArgs r) fun ts => pM (.frz d :: ts)) Q) := wp_bM
theorem wp_mArgs_own {r : List Ar} {Q : Rs (List T) → Prop} : wpM (mArgs (.own i :: r)) Γ Q = atV i Γ fun _ => wpM (mArgs r) Γ (bQ (fun ts => bM (mMove i) fun t => pM (t :: ts)) Q) := by
  unfold atV
  rw [getD_eq]
  show onO (match Γ[i]? with
    | some (some _) => bM (mArgs r) (fun ts => bM (mMove i) fun t => pM (t :: ts)) Γ
    | _ => none) Q = _
  cases q : Γ[i]? with
  | none => exact onO_none.trans onO_none.symm
  | some o =>
    cases o with
    | none => exact onO_none.trans onO_none.symm
    | some t =>
      show _ = onO (some t) _
      rw [onO_some]
      exact wp_bM
theorem restore_own {as : List Ar} {os : G} : restore (.own i :: as) (some t :: os) Γ = restore as os (Γ.set i (some t)) := rfl
theorem restore_own0 {as : List Ar} {os : G} : restore (.own i :: as) (none :: os) Γ = restore as os Γ := rfl
theorem restore_d {m : M PyData} {as : List Ar} {o : Option T} {os : G} : restore (.d m :: as) (o :: os) Γ = restore as os Γ := by
  cases o <;> rw [restore]
theorem restore_tm {m : M T} {as : List Ar} {o : Option T} {os : G} : restore (.tm m :: as) (o :: os) Γ = restore as os Γ := by
  cases o <;> rw [restore]
theorem wp_mArgs_tm {m : M T} {r : List Ar} {Q : Rs (List T) → Prop} : wpM (mArgs (.tm m :: r)) Γ Q = wpM m Γ (bQ (fun t => bM (mArgs r) fun ts => pM (t :: ts)) Q) := wp_bM
theorem restore_cp {m : Nat} {as : List Ar} {o : Option T} {os : G} : restore (.cp m :: as) (o :: os) Γ = restore as os Γ := by
  cases o <;> rw [restore]
theorem wp_mArgs_cp {r : List Ar} {Q : Rs (List T) → Prop} : wpM (mArgs (.cp i :: r)) Γ Q = wpM (mCopy i) Γ (bQ (fun t => bM (mArgs r) fun ts => pM (t :: ts)) Q) := wp_bM
def cpQ (Γ : G) (Q : Rs T → Prop) : T → Prop
  | .scr ns => Q (.ok (.scr ns) Γ)
  | _ => False
theorem cpQ_scr {ns : List Int} {Q : Rs T → Prop} : cpQ Γ Q (.scr ns) = Q (.ok (.scr ns) Γ) := rfl
theorem wp_mCopy {Q : Rs T → Prop} : wpM (mCopy i) Γ Q = atV i Γ (cpQ Γ Q) := by
  unfold atV
  rw [getD_eq]
  unfold wpM mCopy
  cases q : Γ[i]? with
  | none => exact onO_none.trans onO_none.symm
  | some o =>
    cases o with
    | none => exact onO_none.trans onO_none.symm
    | some t =>
      show _ = onO (some t) _
      rw [onO_some]
      cases t with
      | scr ns => exact onO_some
      | _ => exact onO_none
theorem restore_nil {os : G} : restore [] os Γ = Γ := by unfold restore; rfl
def finQ (n : Nat) (io : List Nat) (Q : CR → Prop) : Fl → Prop
  | .rt t Γ => Q (.ret t (maskG io 0 n Γ))
  | .nx Γ => Q (.ret (.frz .none) (maskG io 0 n Γ))
  | .ex c _ => Q (.exc c)
  | _ => False
theorem finQ_rt {io : List Nat} {Q : CR → Prop} : finQ n io Q (.rt t Γ) = Q (.ret t (maskG io 0 n Γ)) := rfl
theorem finQ_nx {io : List Nat} {Q : CR → Prop} : finQ n io Q (.nx Γ) = Q (.ret (.frz .none) (maskG io 0 n Γ)) := rfl
theorem finQ_ex {io : List Nat} {c : Str} {Q : CR → Prop} : finQ n io Q (.ex c Γ) = Q (.exc c) := rfl
/-- what a def's run is -/
theorem on_mf {n N : Nat} {io : List Nat} {b : MS} {ts : List T} {Q : CR → Prop} (hl : ts.length = n) (h : wpS b (ts.map some ++ List.replicate (N - n) none) (finQ n io Q)) : onO (mfOf n N io b ts) Q := by
  unfold mfOf
  rw [if_pos hl]
  obtain ⟨r, e, q⟩ := h
  rw [e]
  cases r with
  | rt t Γ => exact ⟨_, rfl, q⟩
  | nx Γ => exact ⟨_, rfl, q⟩
  | ex c Γ => exact ⟨_, rfl, q⟩
  | bk Γ => exact q.elim
  | ct Γ => exact q.elim
theorem mf_eq {mf : MF} {ts : List T} {c : CR} (h : onO (mf ts) (· = c)) : mf ts = some c := by
  obtain ⟨r, e, q⟩ := h
  rw [e, q]
theorem mono {α : Type} {o : Option α} {Q Q' : α → Prop} (h : onO o Q) (i : ∀ a, Q a → Q' a) : onO o Q' := by
  obtain ⟨a, e, q⟩ := h
  exact ⟨a, e, i a q⟩
/-! loops -/
theorem wp_mFor {mi : M (List PyData)} {g : MG} {b : MS} {Q : Fl → Prop} : wpS (mFor mi g b) Γ Q = wpM mi Γ (sQ (loopS g b) Q) := wp_bS
theorem wp_mRng1 {m : M (List PyData)} {Q : Rs (List PyData) → Prop} : wpM (mRng1 m) Γ Q = wpM m Γ (bQ (fun ds => oM (rng1F ds)) Q) := wp_bM
theorem wp_mRng2 {m : M (List PyData)} {Q : Rs (List PyData) → Prop} : wpM (mRng2 m) Γ Q = wpM m Γ (bQ (fun ds => oM (rng2F ds)) Q) := wp_bM
theorem wp_mIt {m : M PyData} {Q : Rs (List PyData) → Prop} : wpM (mIt m) Γ Q = wpM m Γ (bQ (fun d => oM (itemsF d)) Q) := wp_bM
theorem rng1F_int {j : Int} : rng1F [.int j] = if -(2 ^ 62) ≤ j ∧ j < 2 ^ 62 then some (upto 0 j.toNat) else none := rfl
theorem rng2F_int {i j : Int} : rng2F [.int i, .int j] = if -(2 ^ 62) ≤ i ∧ i < 2 ^ 62 ∧ -(2 ^ 62) ≤ j ∧ j < 2 ^ 62 then some (upto i (j - i).toNat) else none := rfl
/-- what the body of a for is to reach: N behind it, or out of the loop -/
def lQ (N : G → Prop) (Q : Fl → Prop) : Fl → Prop
  | .nx Γ => N Γ
  | .ct Γ => N Γ
  | .bk Γ => Q (.nx Γ)
  | r => Q r
theorem lQ_nx {N : G → Prop} {Q : Fl → Prop} : lQ N Q (.nx Γ) = N Γ := rfl
theorem lQ_ct {N : G → Prop} {Q : Fl → Prop} : lQ N Q (.ct Γ) = N Γ := rfl
theorem lQ_bk {N : G → Prop} {Q : Fl → Prop} : lQ N Q (.bk Γ) = Q (.nx Γ) := rfl
theorem lQ_rt {N : G → Prop} {Q : Fl → Prop} : lQ N Q (.rt t Γ) = Q (.rt t Γ) := rfl
theorem lQ_ex {N : G → Prop} {Q : Fl → Prop} {c : Str} : lQ N Q (.ex c Γ) = Q (.ex c Γ) := rfl
theorem loop_inv {g : MG} {b : MS} {ds : List PyData} {Q : Fl → Prop} (P : Nat → G → Prop) (h0 : P 0 Γ) (hs : ∀ i d Γ, ds[i]? = some d → P i Γ → onO (g d Γ) fun Γ1 => wpS b Γ1 (lQ (P (i + 1)) Q)) (hd : ∀ Γ, P ds.length Γ → Q (.nx Γ)) : wpS (loopS g b ds) Γ Q := by
  have key : ∀ (k : Nat) (i : Nat) (Γ : G), ds.length - i = k → i ≤ ds.length → P i Γ → wpS (loopS g b (ds.drop i)) Γ Q := by
    intro k
    induction k with
    | zero =>
      intro i Γ e hi p
      have : i = ds.length := by omega
      subst this
      rw [List.drop_length]
      unfold loopS
      rw [wp_nS]
      exact hd Γ p
    | succ k ih =>
      intro i Γ e hi p
      have hlt : i < ds.length := by omega
      obtain ⟨Γ1, e1, r, e2, q⟩ := hs i ds[i] Γ (List.getElem?_eq_getElem hlt) p
      rw [List.drop_eq_getElem_cons hlt]
      unfold wpS loopS
      rw [e1]
      dsimp only
      rw [e2]
      cases r with
      | nx Γ2 => exact ih (i + 1) Γ2 (by omega) hlt q
      | ct Γ2 => exact ih (i + 1) Γ2 (by omega) hlt q
      | bk Γ2 => exact ⟨_, rfl, q⟩
      | rt t Γ2 => exact ⟨_, rfl, q⟩
      | ex c Γ2 => exact ⟨_, rfl, q⟩
  exact key ds.length 0 Γ (by simp) (Nat.zero_le _) h0
theorem upto_at {lo : Int} {n i : Nat} {d : PyData} (h : (upto lo n)[i]? = some d) : i < n ∧ d = .int (lo + i) := by
  unfold upto at h
  rw [List.getElem?_map] at h
  by_cases hi : i < n
  · rw [List.getElem?_range hi] at h
    cases h
    exact ⟨hi, rfl⟩
  · rw [List.getElem?_eq_none (by rw [List.length_range]; omega)] at h
    cases h
theorem upto_len {lo : Int} {n : Nat} : (upto lo n).length = n := by
  unfold upto
  rw [List.length_map, List.length_range]
/-- over a range -/
theorem loop_upto {g : MG} {b : MS} {lo : Int} {n : Nat} {Q : Fl → Prop} (P : Nat → G → Prop) (h0 : P 0 Γ) (hs : ∀ (i : Nat) Γ, i < n → P i Γ → onO (g (.int (lo + i)) Γ) fun Γ1 => wpS b Γ1 (lQ (P (i + 1)) Q)) (hd : ∀ Γ, P n Γ → Q (.nx Γ)) : wpS (loopS g b (upto lo n)) Γ Q := by
  refine loop_inv P h0 (fun i d Γ e p => ?_) (by rw [upto_len]; exact hd)
  obtain ⟨hi, rfl⟩ := upto_at e
  exact hs i Γ hi p
def whQ (b : MS) (N : G → Prop) (Q : Fl → Prop) : Rs Bool → Prop
  | .ok t Γ => ifQ (wpS b Γ (lQ N Q)) (Q (.nx Γ)) t
  | .ex c Γ => Q (.ex c Γ)
theorem whQ_ok {b : MS} {N : G → Prop} {Q : Fl → Prop} {t : Bool} : whQ b N Q (.ok t Γ) = ifQ (wpS b Γ (lQ N Q)) (Q (.nx Γ)) t := rfl
/-- while, by an invariant and a measure -/
theorem while_inv {c : M Bool} {b : MS} {Q : Fl → Prop} (P : G → Prop) (μ : G → Nat) (hs : ∀ Γ, P Γ → wpM c Γ (whQ b (fun Γ' => P Γ' ∧ μ Γ' < μ Γ) Q)) : ∀ (n : Nat) (Γ : G), P Γ → μ Γ < n → wpS (mWhile c b n) Γ Q := by
  intro n
  induction n with
  | zero => intro Γ _ h; exact absurd h (Nat.not_lt_zero _)
  | succ n ih =>
    intro Γ p hn
    obtain ⟨r, e, q⟩ := hs Γ p
    unfold mWhile
    rw [wp_bS]
    refine ⟨r, e, ?_⟩
    cases r with
    | ex c Γ1 => exact q
    | ok t Γ1 =>
      cases t with
      | false =>
        show wpS nS Γ1 Q
        rw [wp_nS]
        exact q
      | true =>
        obtain ⟨r2, e2, q2⟩ := (show wpS b Γ1 (lQ _ Q) from q)
        show onO (match b Γ1 with
          | some (.nx Γ') => mWhile c b n Γ'
          | some (.ct Γ') => mWhile c b n Γ'
          | some (.bk Γ') => some (.nx Γ')
          | r => r) Q
        rw [e2]
        cases r2 with
        | nx Γ2 => exact ih Γ2 q2.1 (by have := q2.2; omega)
        | ct Γ2 => exact ih Γ2 q2.1 (by have := q2.2; omega)
        | bk Γ2 => exact ⟨_, rfl, q2⟩
        | rt t Γ2 => exact ⟨_, rfl, q2⟩
        | ex c Γ2 => exact ⟨_, rfl, q2⟩
end
end TW

namespace TW
open PySem PySem.Spec L2
section
variable {Γ Γ' : G} {i n : Nat} {d : PyData} {t : T}
def compK (g : MG) (mt : M Bool) (me : M T) (own : List Nat) (ds : List PyData) : M T := fun Γ => loopC g mt me own ds [] (wipeG Γ own)
theorem wp_mComp {mi : M (List PyData)} {g : MG} {mt : M Bool} {me : M T} {own : List Nat} {Q : Rs T → Prop} : wpM (mComp mi g mt me own) Γ Q = wpM mi Γ (bQ (compK g mt me own) Q) := wp_bM
theorem wp_compK {g : MG} {mt : M Bool} {me : M T} {own : List Nat} {ds : List PyData} {Q : Rs T → Prop} : wpM (compK g mt me own ds) Γ Q = wpM (loopC g mt me own ds []) (wipeG Γ own) Q := rfl
def tsQ (A B : G → Prop) : Rs Bool → Prop
  | .ok true Γ => A Γ
  | .ok false Γ => B Γ
  | .ex _ _ => False
theorem tsQ_ok {A B : G → Prop} {b : Bool} : tsQ A B (.ok b Γ) = ifQ (A Γ) (B Γ) b := by cases b <;> rfl
def elQ (N : T → G → Prop) : Rs T → Prop
  | .ok t Γ => N t Γ
  | .ex _ _ => False
theorem elQ_ok {N : T → G → Prop} : elQ N (.ok t Γ) = N t Γ := rfl
theorem comp_inv {g : MG} {mt : M Bool} {me : M T} {own : List Nat} {ds : List PyData} {Q : Rs T → Prop} (P : Nat → List T → G → Prop) (h0 : P 0 [] Γ)
    (hs : ∀ i d acc Γ, ds[i]? = some d → P i acc Γ → onO (g d Γ) fun Γ1 => wpM mt Γ1 (tsQ (fun Γ2 => wpM me Γ2 (elQ fun t Γ3 => acc.length < sizeLine ∧ P (i + 1) (acc ++ [t]) (wipeG Γ3 own))) (fun Γ2 => P (i + 1) acc (wipeG Γ2 own))))
    (hd : ∀ acc Γ, P ds.length acc Γ → Q (.ok (.lst acc) Γ)) : wpM (loopC g mt me own ds []) Γ Q := by
  have key : ∀ (k : Nat) (i : Nat) (acc : List T) (Γ : G), ds.length - i = k → i ≤ ds.length → P i acc Γ → wpM (loopC g mt me own (ds.drop i) acc) Γ Q := by
    intro k
    induction k with
    | zero =>
      intro i acc Γ e hi p
      have : i = ds.length := by omega
      subst this
      rw [List.drop_length]
      unfold loopC
      rw [wp_pM]
      exact hd acc Γ p
    | succ k ih =>
      intro i acc Γ e hi p
      have hlt : i < ds.length := by omega
      obtain ⟨Γ1, e1, r, e2, q⟩ := hs i ds[i] acc Γ (List.getElem?_eq_getElem hlt) p
      rw [List.drop_eq_getElem_cons hlt]
      unfold wpM loopC
      rw [e1]
      dsimp only
      rw [e2]
      cases r with
      | ex c Γ2 => exact q.elim
      | ok b Γ2 =>
        cases b with
        | false => exact ih (i + 1) acc _ (by omega) hlt q
        | true =>
          obtain ⟨r2, e3, q2⟩ := (show wpM me Γ2 _ from q)
          dsimp only
          rw [e3]
          cases r2 with
          | ex c Γ3 => exact q2.elim
          | ok t Γ3 =>
            dsimp only
            rw [if_pos q2.1]
            exact ih (i + 1) (acc ++ [t]) _ (by omega) hlt q2.2
  exact key ds.length 0 [] Γ (by simp) (Nat.zero_le _) h0
/-- each thing's image, the slots as they were -/
theorem comp_map {g : MG} {mt : M Bool} {me : M T} {own : List Nat} {ds : List PyData} {Q : Rs T → Prop} (f : PyData → PyData) (hl : ds.length ≤ sizeLine)
    (hs : ∀ d, d ∈ ds → onO (g d Γ) fun Γ1 => wpM mt Γ1 (tsQ (fun Γ2 => wpM me Γ2 (elQ fun t Γ3 => t = .frz (f d) ∧ wipeG Γ3 own = Γ)) (fun _ => False)))
    (hd : Q (.ok (.lst ((ds.map f).map .frz)) Γ)) : wpM (loopC g mt me own ds []) Γ Q := by
  refine comp_inv (fun i acc Γ' => Γ' = Γ ∧ i ≤ ds.length ∧ acc = ((ds.take i).map f).map .frz) ⟨rfl, Nat.zero_le _, rfl⟩ (fun i d acc Γ' e p => ?_) (fun acc Γ' p => ?_)
  · obtain ⟨rfl, hi, rfl⟩ := p
    have hlt := (List.getElem?_eq_some_iff.mp e).1
    refine mono (hs d (List.mem_of_getElem? e)) fun Γ1 h => mono h fun r h => ?_
    cases r with
    | ex c Γ2 => exact h
    | ok b Γ2 =>
      cases b with
      | false => exact h.elim
      | true =>
        refine mono (show wpM me Γ2 _ from h) fun r h => ?_
        cases r with
        | ex c Γ3 => exact h
        | ok t Γ3 =>
          obtain ⟨rfl, hw⟩ := h
          refine ⟨by rw [List.length_map, List.length_map, List.length_take]; omega, hw, hlt, ?_⟩
          rw [List.take_add_one, e]
          simp
  · obtain ⟨rfl, hi, rfl⟩ := p
    rw [List.take_length]
    exact hd
/-- those for which a test holds, their images -/
theorem comp_fm {g : MG} {mt : M Bool} {me : M T} {own : List Nat} {ds : List PyData} {Q : Rs T → Prop} (p : PyData → Bool) (f : PyData → PyData) (hl : ds.length ≤ sizeLine)
    (hs : ∀ d, d ∈ ds → onO (g d Γ) fun Γ1 => wpM mt Γ1 (tsQ (fun Γ2 => p d = true ∧ wpM me Γ2 (elQ fun t Γ3 => t = .frz (f d) ∧ wipeG Γ3 own = Γ)) (fun Γ2 => p d = false ∧ wipeG Γ2 own = Γ)))
    (hd : Q (.ok (.lst (((ds.filter p).map f).map .frz)) Γ)) : wpM (loopC g mt me own ds []) Γ Q := by
  refine comp_inv (fun i acc Γ' => Γ' = Γ ∧ i ≤ ds.length ∧ acc = (((ds.take i).filter p).map f).map .frz) ⟨rfl, Nat.zero_le _, rfl⟩ (fun i d acc Γ' e q => ?_) (fun acc Γ' q => ?_)
  · obtain ⟨rfl, hi, rfl⟩ := q
    have hlt := (List.getElem?_eq_some_iff.mp e).1
    have et : ds.take (i + 1) = ds.take i ++ [d] := by rw [List.take_add_one, e]; rfl
    refine mono (hs d (List.mem_of_getElem? e)) fun Γ1 h => mono h fun r h => ?_
    cases r with
    | ex c Γ2 => exact h
    | ok b Γ2 =>
      cases b with
      | false =>
        obtain ⟨h1, h2⟩ := h
        refine ⟨h2, hlt, ?_⟩
        rw [et, List.filter_append, List.filter_cons_of_neg (by rw [h1]; decide), List.filter_nil, List.append_nil]
      | true =>
        obtain ⟨h1, h⟩ := (show p d = true ∧ wpM me Γ2 _ from h)
        refine mono h fun r h => ?_
        cases r with
        | ex c Γ3 => exact h
        | ok t Γ3 =>
          obtain ⟨rfl, hw⟩ := h
          refine ⟨?_, hw, hlt, ?_⟩
          · rw [List.length_map, List.length_map]
            have := List.length_filter_le p (ds.take i)
            rw [List.length_take] at this
            omega
          · rw [et, List.filter_append, List.filter_cons_of_pos h1, List.filter_nil, List.map_append, List.map_append]
            rfl
  · obtain ⟨rfl, hi, rfl⟩ := q
    rw [List.take_length]
    exact hd
theorem wipeG_nil : wipeG Γ [] = Γ := rfl
theorem wipeG_cons {v : Nat} {vs : List Nat} : wipeG Γ (v :: vs) = (wipeG Γ vs).set v none := rfl
theorem gN_eq : gN i d Γ = storeG i (.frz d) Γ := rfl
theorem on_storeG {Q : G → Prop} : onO (storeG i t Γ) Q = (i < Γ.length ∧ Q (Γ.set i (some t))) := by
  unfold storeG
  rw [onO_if]
theorem on_gTu {gs : MGs} {ds : List PyData} {Q : G → Prop} : onO (gTu n gs (.tuple ds) Γ) Q = (ds.length = n ∧ onO (gs ds Γ) Q) := by
  show onO (if ds.length = n then gs ds Γ else none) Q = _
  by_cases h : ds.length = n
  · rw [if_pos h]; simp [h]
  · rw [if_neg h]; simp [h, onO]
theorem on_gTuL {gs : MGs} {ds : List PyData} {Q : G → Prop} : onO (gTu n gs (.list ds) Γ) Q = (ds.length = n ∧ onO (gs ds Γ) Q) := by
  show onO (if ds.length = n then gs ds Γ else none) Q = _
  by_cases h : ds.length = n
  · rw [if_pos h]; simp [h]
  · rw [if_neg h]; simp [h, onO]
theorem on_gC {g : MG} {gs : MGs} {ds : List PyData} {Q : G → Prop} : onO (gC g gs (d :: ds) Γ) Q = onO (g d Γ) fun Γ => onO (gs ds Γ) Q := by
  show onO ((g d Γ).bind (gs ds)) Q = _
  cases g d Γ with
  | none => exact onO_none.trans onO_none.symm
  | some Γ => rw [onO_some]; rfl
theorem on_gE {Q : G → Prop} : onO (gE [] Γ) Q = Q Γ := onO_some
def asgK (g : MG) (d : PyData) : MS := fun Γ => (g d Γ).map .nx
theorem wp_mAsg {g : MG} {m : M PyData} {Q : Fl → Prop} : wpS (mAsg g m) Γ Q = wpM m Γ (sQ (asgK g) Q) := wp_bS
theorem wp_asgK {g : MG} {Q : Fl → Prop} : wpS (asgK g d) Γ Q = onO (g d Γ) fun Γ => Q (.nx Γ) := by
  show onO ((g d Γ).map .nx) Q = _
  rw [onO_map]
theorem bolsF_map {bs : List Bool} : bolsF (bs.map .bool) = some bs := by
  induction bs with
  | nil => rfl
  | cons b bs ih =>
    show (bolsF (bs.map .bool)).map (b :: ·) = _
    rw [ih]
    rfl
theorem allF_list {ds : List PyData} : allF (.list ds) = (bolsF ds).map fun bs => .bool (bs.all id) := rfl
theorem anyF_list {ds : List PyData} : anyF (.list ds) = (bolsF ds).map fun bs => .bool (bs.any id) := rfl
theorem onO_ret {o : Option CR} {t : T} (h : onO o fun c => ∃ outs, c = .ret t outs) : ∃ outs, o = some (.ret t outs) := by
  obtain ⟨c, e, outs, rfl⟩ := h
  exact ⟨outs, e⟩
end
end TW

/-! reasoning about the constructs of TW10 to TW13 -/
namespace TW
open PySem PySem.Spec L2
section
variable {Γ : G} {i : Nat} {ts : List T} {Q : Rs PyData → Prop}
theorem wp_mPopAt {m : M PyData} : wpM (mPopAt i m) Γ Q = atV i Γ (isL (wpM m Γ (bQ (popK i) Q))) := by
  unfold atV
  rw [getD_eq]
  show onO (match Γ[i]? with
    | some (some (.lst _)) => bM m (popK i) Γ
    | _ => none) Q = _
  cases q : Γ[i]? with
  | none => exact onO_none.trans onO_none.symm
  | some o =>
    cases o with
    | none => exact onO_none.trans onO_none.symm
    | some t =>
      show _ = onO (some t) _
      rw [onO_some]
      cases t with
      | lst ts => exact wp_bM
      | _ => exact onO_none
/-- what a pop asks -/
def popQ (i : Nat) (Γ : G) (j : Int) (Q : Rs PyData → Prop) : T → Prop
  | .lst ts => onO (ixN ts.length j) fun l => onO ts[l]? fun t => onO (frzOf t) fun d => ts.length ≤ sizeLine ∧ Q (.ok d (Γ.set i (some (.lst (ts.eraseIdx l)))))
  | _ => False
where frzOf : T → Option PyData
  | .frz d => some d
  | _ => none
theorem popQ_lst {j : Int} : popQ i Γ j Q (.lst ts) = onO (ixN ts.length j) fun l => onO ts[l]? fun t => onO (popQ.frzOf t) fun d => ts.length ≤ sizeLine ∧ Q (.ok d (Γ.set i (some (.lst (ts.eraseIdx l))))) := rfl
theorem frzOf_frz {d : PyData} : popQ.frzOf (.frz d) = some d := rfl
theorem wp_popK {j : Int} : wpM (popK i (.int j)) Γ Q = atV i Γ (popQ i Γ j Q) := by
  unfold atV
  rw [getD_eq]
  unfold wpM popK
  cases q : Γ[i]? with
  | none => exact onO_none.trans onO_none.symm
  | some o =>
    cases o with
    | none => exact onO_none.trans onO_none.symm
    | some t =>
      show _ = onO (some t) _
      rw [onO_some]
      cases t with
      | lst ts =>
        show onO (match ixN ts.length j with
          | some l => (match ts[l]? with
            | some (.frz d) => if ts.length ≤ sizeLine then some (.ok d (Γ.set i (some (.lst (ts.eraseIdx l))))) else none
            | _ => none)
          | none => none) Q = _
        rw [popQ_lst]
        cases ixN ts.length j with
        | none => exact onO_none.trans onO_none.symm
        | some l =>
          rw [onO_some]
          show onO (match ts[l]? with
            | some (.frz d) => if ts.length ≤ sizeLine then some (.ok d (Γ.set i (some (.lst (ts.eraseIdx l))))) else none
            | _ => none) Q = _
          cases ts[l]? with
          | none => exact onO_none.trans onO_none.symm
          | some t =>
            rw [onO_some]
            cases t with
            | frz d =>
              rw [frzOf_frz, onO_some]
              exact onO_if
            | _ => exact onO_none.trans onO_none.symm
      | _ => exact onO_none
/-! sorted -/
theorem sortF_list_ints (ns : List Int) (h : ds = ns.map PyData.int) : sortF (.list ds) = some ((sortI ns).map .int) := by
  subst h
  have e : intsF (ns.map PyData.int) = some ns := by
    induction ns with
    | nil => rfl
    | cons n ns ih => rw [List.map_cons]; unfold intsF; rw [ih]; rfl
  unfold sortF itemsF
  simp only [e]
theorem sortF_tup_ints (ns : List Int) (h : ds = ns.map PyData.int) : sortF (.tuple ds) = some ((sortI ns).map .int) := sortF_list_ints ns h
theorem tupsF_map : ∀ (ks : List (List Int)), (∀ k ∈ ks, k ≠ []) → tupsF (ks.map tupD) = some ks
  | [], _ => rfl
  | k :: ks, h => by
    have e : tupI (tupD k) = some k := by
      have e2 : intsF (k.map PyData.int) = some k := by
        have h0 := h k (List.mem_cons_self ..)
        clear h h0
        induction k with
        | nil => rfl
        | cons n ns ih => rw [List.map_cons]; unfold intsF; rw [ih]; rfl
      unfold tupD tupI
      simp only [e2]
      cases k with
      | nil => exact absurd rfl (h [] (List.mem_cons_self ..))
      | cons n ns => rfl
    rw [List.map_cons]
    unfold tupsF
    rw [e, tupsF_map ks fun k m => h k (List.mem_cons_of_mem _ m)]
theorem sortF_list_tups (ks : List (List Int)) (hk : ∀ k ∈ ks, k ≠ []) (h : ds = ks.map tupD) : sortF (.list ds) = some ((sortL ks).map tupD) := by
  subst h
  cases ks with
  | nil => show some ((sortI []).map PyData.int) = _; unfold sortI sortL; simp
  | cons k ks =>
    have e : intsF ((k :: ks).map tupD) = none := rfl
    unfold sortF itemsF
    simp only [e, tupsF_map _ hk]
    rfl
/-! enumerate, zip, ranges -/
theorem wp_mEnum {m : M PyData} {Q : Rs (List PyData) → Prop} : wpM (mEnum m) Γ Q = wpM m Γ (bQ (fun d => oM ((itemsF d).map (enumL 0))) Q) := wp_bM
theorem wp_mZip {ma mb : M PyData} {Q : Rs (List PyData) → Prop} : wpM (mZip ma mb) Γ Q = wpM ma Γ (bQ (fun d => bM mb fun e => oM (zipF d e)) Q) := wp_bM
theorem wp_mLstR {m : M (List PyData)} {Q : Rs T → Prop} : wpM (mLstR m) Γ Q = wpM m Γ (bQ (fun ds => pM (.lst (ds.map .frz))) Q) := wp_bM
theorem wp_mTupR {m : M (List PyData)} : wpM (mTupR m) Γ Q = wpM m Γ (bQ (fun ds => pM (.tuple ds)) Q) := wp_bM
/-- from a range's bound -/
def rgQ (a : Int) (Γ : G) (Q : Rs (List PyData) → Prop) : PyData → Prop
  | .int n => onO (rgF a n) fun ds => Q (.ok ds Γ)
  | _ => False
theorem rgQ_int {a n : Int} {Q : Rs (List PyData) → Prop} : rgQ a Γ Q (.int n) = onO (rgF a n) fun ds => Q (.ok ds Γ) := rfl
theorem bQ_okk {α β : Type} {f : α → M β} {Q : Rs β → Prop} {a : α} : bQ f Q (.ok a Γ) = wpM (f a) Γ Q := rfl
def rgK : PyData → M (List PyData) := fun d => match d with
  | .int n => oM (rgF 0 n)
  | _ => fun _ => none
theorem wp_mRgA1 {m : M PyData} {Q : Rs (List PyData) → Prop} : wpM (mRgA1 m) Γ Q = wpM m Γ (bQ rgK Q) := wp_bM
theorem wp_rgK {n : Int} {Q : Rs (List PyData) → Prop} : wpM (rgK (.int n)) Γ Q = onO (rgF 0 n) fun ds => Q (.ok ds Γ) := wp_oM
def rgK2 : PyData → PyData → M (List PyData) := fun d e => match d, e with
  | .int a, .int b => oM (rgF a b)
  | _, _ => fun _ => none
theorem wp_mRgA2 {ma mb : M PyData} {Q : Rs (List PyData) → Prop} : wpM (mRgA2 ma mb) Γ Q = wpM ma Γ (bQ (fun d => bM mb (rgK2 d)) Q) := wp_bM
theorem wp_rgK2 {a n : Int} {Q : Rs (List PyData) → Prop} : wpM (rgK2 (.int a) (.int n)) Γ Q = onO (rgF a n) fun ds => Q (.ok ds Γ) := wp_oM
theorem rgF_at {a b : Int} (h : -(2 ^ 62) ≤ a ∧ a < 2 ^ 62 ∧ -(2 ^ 62) ≤ b ∧ b < 2 ^ 62 ∧ (b - a).toNat ≤ 2 ^ 24) : rgF a b = some (upto a (b - a).toNat) := if_pos h
/-! slices -/
theorem wp_mSlice {m : M PyData} {ml mh : M (Option Int)} : wpM (mSlice m ml mh) Γ Q = wpM m Γ (bQ (fun d => bM ml fun l => bM mh fun u => oM (slcF d l u)) Q) := wp_bM
theorem wp_mNone {Q : Rs (Option Int) → Prop} : wpM mNone Γ Q = Q (.ok none Γ) := wp_pM
def someK : PyData → M (Option Int) := fun d => match d with
  | .int i => pM (some i)
  | _ => fun _ => none
theorem wp_mSome {m : M PyData} {Q : Rs (Option Int) → Prop} : wpM (mSome m) Γ Q = wpM m Γ (bQ someK Q) := wp_bM
theorem wp_someK {j : Int} {Q : Rs (Option Int) → Prop} : wpM (someK (.int j)) Γ Q = Q (.ok (some j) Γ) := wp_pM
theorem slcF_tup {ds : List PyData} {l u : Option Int} : slcF (.tuple ds) l u = some (.tuple (cutL ds l u)) := rfl
theorem slcF_list {ds : List PyData} {l u : Option Int} : slcF (.list ds) l u = some (.list (cutL ds l u)) := rfl
/-! rep -/
theorem wp_mRep {ma mb : M PyData} {Q : Rs T → Prop} : wpM (mRep ma mb) Γ Q = wpM ma Γ (bQ (fun a => bM mb fun b => oM ((repF a b).map fun ds => .lst (ds.map .frz))) Q) := wp_bM
theorem itemsF_list {ds : List PyData} : itemsF (.list ds) = some ds := rfl
theorem itemsF_tup {ds : List PyData} : itemsF (.tuple ds) = some ds := rfl
theorem tupF_list {ds : List PyData} : tupF (.list ds) = some (.tuple ds) := rfl
theorem tupF_tup {ds : List PyData} : tupF (.tuple ds) = some (.tuple ds) := rfl
end
end TW

/-! equality of data -/
namespace TW
open PySem PySem.Spec L2
/-- may be compared, at most k deep -/
def Lay (d : PyData) (k : Nat) : Prop := d.canLay0 = true ∧ d.depth ≤ k
theorem lay_int (i : Int) (k : Nat) : Lay (.int i) k := ⟨by rw [PyData.canLay0], by rw [PyData.depth]; exact Nat.zero_le _⟩
theorem lay_bool (b : Bool) (k : Nat) : Lay (.bool b) k := ⟨by rw [PyData.canLay0], by rw [PyData.depth]; exact Nat.zero_le _⟩
theorem lay_none (k : Nat) : Lay .none k := ⟨by rw [PyData.canLay0], by rw [PyData.depth]; exact Nat.zero_le _⟩
theorem lay_all : ∀ {ds : List PyData} {k : Nat}, (∀ d ∈ ds, Lay d k) → PyData.canLayAll0 ds = true ∧ PyData.depthAll ds ≤ k
  | [], k, _ => ⟨by rw [PyData.canLayAll0], by rw [PyData.depthAll]; exact Nat.zero_le _⟩
  | d :: ds, k, h => by
    obtain ⟨a, b⟩ := lay_all fun x m => h x (List.mem_cons_of_mem _ m)
    obtain ⟨c, e⟩ := h d (List.mem_cons_self ..)
    exact ⟨by rw [PyData.canLayAll0, a, c]; rfl, by rw [PyData.depthAll]; exact Nat.max_le.mpr ⟨e, b⟩⟩
theorem lay_tup {ds : List PyData} {k : Nat} (h : ∀ d ∈ ds, Lay d k) : Lay (.tuple ds) (k + 1) := by
  obtain ⟨a, b⟩ := lay_all h
  exact ⟨by rw [PyData.canLay0]; exact a, by rw [PyData.depth]; omega⟩
theorem lay_list {ds : List PyData} {k : Nat} (h : ∀ d ∈ ds, Lay d k) : Lay (.list ds) (k + 1) := by
  obtain ⟨a, b⟩ := lay_all h
  exact ⟨by rw [PyData.canLay0]; exact a, by rw [PyData.depth]; omega⟩
theorem Lay.shaped {d : PyData} {k : Nat} (h : Lay d k) (hk : k ≤ 64) : SeqAt.shaped d = true := by
  unfold SeqAt.shaped
  rw [h.1, decide_eq_true (Nat.le_trans h.2 hk)]
  rfl
theorem eqF_lay {a b : PyData} {i j : Nat} (ha : Lay a i) (hb : Lay b j) (hi : i ≤ 64 := by decide) (hj : j ≤ 64 := by decide) : eqF a b = some (.bool (PyData.eqv a b)) := by
  unfold eqF
  rw [ha.shaped hi, hb.shaped hj]
  rfl
theorem neF_lay {a b : PyData} {i j : Nat} (ha : Lay a i) (hb : Lay b j) (hi : i ≤ 64 := by decide) (hj : j ≤ 64 := by decide) : neF a b = some (.bool (!PyData.eqv a b)) := by
  unfold neF
  rw [ha.shaped hi, hb.shaped hj]
  rfl
theorem eqv_self {d : PyData} {k : Nat} (h : Lay d k) : PyData.eqv d d = true := SeqAt.eqv_refl d h.1
mutual
/-- no truths, no dicts -/
def clean : PyData → Bool
  | .none | .int _ | .str _ => true
  | .list xs | .tuple xs => cleanAll xs
  | .bool _ | .dict _ => false
def cleanAll : List PyData → Bool
  | [] => true
  | x :: xs => clean x && cleanAll xs
end
mutual
theorem eqv_clean : ∀ (a b : PyData), clean a = true → clean b = true → (PyData.eqv a b = true ↔ a = b)
  | .none, b, ha, hb => by cases b <;> simp [PyData.eqv, clean] at *
  | .bool _, b, ha, hb => by rw [clean] at ha; cases ha
  | .int i, b, ha, hb => by cases b <;> simp [PyData.eqv, clean] at *
  | .str x, b, ha, hb => by cases b <;> simp [PyData.eqv, clean] at *
  | .dict _, b, ha, hb => by rw [clean] at ha; cases ha
  | .list xs, b, ha, hb => by
    cases b with
    | list ys =>
      rw [clean] at ha hb
      rw [PyData.eqv, eqv_cleanAll xs ys ha hb]
      simp
    | _ => simp [PyData.eqv, clean] at *
  | .tuple xs, b, ha, hb => by
    cases b with
    | tuple ys =>
      rw [clean] at ha hb
      rw [PyData.eqv, eqv_cleanAll xs ys ha hb]
      simp
    | _ => simp [PyData.eqv, clean] at *
theorem eqv_cleanAll : ∀ (xs ys : List PyData), cleanAll xs = true → cleanAll ys = true → (PyData.eqvAll xs ys = true ↔ xs = ys)
  | [], [], _, _ => by simp [PyData.eqvAll]
  | [], _ :: _, _, _ => by simp [PyData.eqvAll]
  | _ :: _, [], _, _ => by simp [PyData.eqvAll]
  | x :: xs, y :: ys, ha, hb => by
    rw [cleanAll, Bool.and_eq_true] at ha hb
    rw [PyData.eqvAll, Bool.and_eq_true, eqv_clean x y ha.1 hb.1, eqv_cleanAll xs ys ha.2 hb.2]
    simp
end
theorem cleanAll_of : ∀ {xs : List PyData}, (∀ x ∈ xs, clean x = true) → cleanAll xs = true
  | [], _ => by rw [cleanAll]
  | x :: xs, h => by rw [cleanAll, h x (List.mem_cons_self ..), cleanAll_of fun y m => h y (List.mem_cons_of_mem _ m)]; rfl
theorem clean_int (i : Int) : clean (.int i) = true := by rw [clean]
theorem clean_none : clean .none = true := by rw [clean]
theorem clean_tup {xs : List PyData} (h : ∀ x ∈ xs, clean x = true) : clean (.tuple xs) = true := by rw [clean]; exact cleanAll_of h
theorem clean_list {xs : List PyData} (h : ∀ x ∈ xs, clean x = true) : clean (.list xs) = true := by rw [clean]; exact cleanAll_of h
end TW

/-! reasoning: nested append, is (not) True, slices of pairs -/
namespace TW
open PySem PySem.Spec L2
section
variable {Γ : G} {i : Nat} {ts : List T}
theorem wp_mApp2 {mk m : M PyData} {Q : Rs T → Prop} : wpM (mApp2 i mk m) Γ Q = atV i Γ fun _ => wpM mk Γ (bQ (app2K i m) Q) := by
  unfold atV
  rw [getD_eq]
  show onO (match Γ[i]? with
    | some (some _) => bM mk (app2K i m) Γ
    | _ => none) Q = _
  cases q : Γ[i]? with
  | none => exact onO_none.trans onO_none.symm
  | some o =>
    cases o with
    | none => exact onO_none.trans onO_none.symm
    | some t =>
      show _ = onO (some t) _
      rw [onO_some]
      exact wp_bM
def rowOf : T → Option (List T)
  | .lst us => some us
  | _ => none
theorem rowOf_lst {us : List T} : rowOf (.lst us) = some us := rfl
def app2S (i l : Nat) (ts us : List T) : PyData → M T := fun d Γ1 => if us.length < sizeLine then some (.ok (.frz .none) (Γ1.set i (some (.lst (ts.set l (.lst (us ++ [.frz d]))))))) else none
theorem wp_app2S {l : Nat} {us : List T} {d : PyData} {Q : Rs T → Prop} : wpM (app2S i l ts us d) Γ Q = (us.length < sizeLine ∧ Q (.ok (.frz .none) (Γ.set i (some (.lst (ts.set l (.lst (us ++ [.frz d]))))))) ) := onO_if
def app2Q (i : Nat) (m : M PyData) (j : Int) (Γ : G) (Q : Rs T → Prop) : T → Prop
  | .lst ts => onO (ixN ts.length j) fun l => onO ts[l]? fun t => onO (rowOf t) fun us => wpM m (Γ.set i none) (bQ (app2S i l ts us) Q)
  | _ => False
theorem app2Q_lst {m : M PyData} {j : Int} {Q : Rs T → Prop} : app2Q i m j Γ Q (.lst ts) = onO (ixN ts.length j) fun l => onO ts[l]? fun t => onO (rowOf t) fun us => wpM m (Γ.set i none) (bQ (app2S i l ts us) Q) := rfl
theorem wp_app2K {m : M PyData} {j : Int} {Q : Rs T → Prop} : wpM (app2K i m (.int j)) Γ Q = atV i Γ (app2Q i m j Γ Q) := by
  unfold atV
  rw [getD_eq]
  unfold wpM app2K
  cases q : Γ[i]? with
  | none => exact onO_none.trans onO_none.symm
  | some o =>
    cases o with
    | none => exact onO_none.trans onO_none.symm
    | some t =>
      show _ = onO (some t) _
      rw [onO_some]
      cases t with
      | lst ts =>
        rw [app2Q_lst]
        show onO (match ixN ts.length j with
          | some l => (match ts[l]? with
            | some (.lst us) => bM m (app2S i l ts us) (Γ.set i none)
            | _ => none)
          | none => none) Q = _
        cases ixN ts.length j with
        | none => exact onO_none.trans onO_none.symm
        | some l =>
          rw [onO_some]
          show onO (match ts[l]? with
            | some (.lst us) => bM m (app2S i l ts us) (Γ.set i none)
            | _ => none) Q = _
          cases ts[l]? with
          | none => exact onO_none.trans onO_none.symm
          | some t =>
            rw [onO_some]
            cases t with
            | lst us =>
              rw [rowOf_lst, onO_some]
              exact wp_bM
            | _ => exact onO_none.trans onO_none.symm
      | _ => exact onO_none
def chK (g : OpF) (b : PyData) (mc : M PyData) : PyData → M PyData := fun d => match d with
  | .bool true => bM mc fun c => oM (g b c)
  | .bool false => pM (.bool false)
  | _ => fun _ => none
theorem wp_mChain {f g : OpF} {ma mb mc : M PyData} {Q : Rs PyData → Prop} : wpM (mChain f g ma mb mc) Γ Q = wpM ma Γ (bQ (fun a => bM mb fun b => bM (oM (f a b)) (chK g b mc)) Q) := by
  have e : mChain f g ma mb mc = bM ma (fun a => bM mb fun b => bM (oM (f a b)) (chK g b mc)) := rfl
  rw [e, wp_bM]
theorem wp_chK {g : OpF} {b : PyData} {mc : M PyData} {t : Bool} {Q : Rs PyData → Prop} : wpM (chK g b mc (.bool t)) Γ Q = ifQ (wpM mc Γ (bQ (fun c => oM (g b c)) Q)) (Q (.ok (.bool false) Γ)) t := by
  cases t with
  | true => exact wp_bM
  | false => exact wp_pM
theorem eqF_pair {a b c d : Int} : eqF (.tuple [.int a, .int b]) (.tuple [.int c, .int d]) = some (.bool (decide (a = c) && decide (b = d))) := by
  have l : ∀ x y : Int, Lay (.tuple [.int x, .int y]) 1 := fun x y => lay_tup (k := 0) fun z m => by
    rcases List.mem_cons.mp m with rfl | m
    · exact lay_int _ _
    · rw [List.mem_singleton.mp m]; exact lay_int _ _
  rw [eqF_lay (l a b) (l c d), PyData.eqv, PyData.eqvAll, PyData.eqvAll, PyData.eqvAll, eqv_int, eqv_int, Bool.and_true]
theorem sumF_ints {ns : List Int} : sumF (.list (ns.map .int)) = some (.int ns.sum) := by
  have e : intsF (ns.map PyData.int) = some ns := by
    induction ns with
    | nil => rfl
    | cons n ns ih => rw [List.map_cons]; unfold intsF; rw [ih]; rfl
  unfold sumF
  simp only [e]
  rfl
theorem neF_bool {a b : Bool} : neF (.bool a) (.bool b) = some (.bool (!(a == b))) := by
  rw [neF_lay (lay_bool a 0) (lay_bool b 0), PyData.eqv]
theorem eqF_nilL {xs : List PyData} {k : Nat} (h : Lay (.list xs) k) (hk : k ≤ 64) : eqF (.list xs) (.list []) = some (.bool xs.isEmpty) := by
  have l : Lay (.list []) 1 := lay_list (k := 0) fun _ m => nomatch m
  rw [eqF_lay h l hk, PyData.eqv]
  cases xs <;> simp [PyData.eqvAll]
theorem inst_bool_bool {b : Bool} : instF "bool" (.bool b) = some (.bool true) := rfl
theorem wp_mRem {m : M PyData} {Q : Rs PyData → Prop} : wpM (mRem i m) Γ Q = atV i Γ (isL (wpM m Γ (bQ (remK i) Q))) := by
  unfold atV
  rw [getD_eq]
  show onO (match Γ[i]? with
    | some (some (.lst _)) => bM m (remK i) Γ
    | _ => none) Q = _
  cases q : Γ[i]? with
  | none => exact onO_none.trans onO_none.symm
  | some o =>
    cases o with
    | none => exact onO_none.trans onO_none.symm
    | some t =>
      show _ = onO (some t) _
      rw [onO_some]
      cases t with
      | lst ts => exact wp_bM
      | _ => exact onO_none
def remQ (i : Nat) (Γ : G) (j : Int) (Q : Rs PyData → Prop) : T → Prop
  | .lst ts => onO ((flatT ts).bind intsF) fun ns => j ∈ ns ∧ Q (.ok .none (Γ.set i (some (.lst (((ns.erase j).map PyData.int).map .frz)))))
  | _ => False
theorem remQ_lst {j : Int} {Q : Rs PyData → Prop} : remQ i Γ j Q (.lst ts) = onO ((flatT ts).bind intsF) fun ns => j ∈ ns ∧ Q (.ok .none (Γ.set i (some (.lst (((ns.erase j).map PyData.int).map .frz))))) := rfl
theorem wp_remK {j : Int} {Q : Rs PyData → Prop} : wpM (remK i (.int j)) Γ Q = atV i Γ (remQ i Γ j Q) := by
  unfold atV
  rw [getD_eq]
  unfold wpM remK
  cases q : Γ[i]? with
  | none => exact onO_none.trans onO_none.symm
  | some o =>
    cases o with
    | none => exact onO_none.trans onO_none.symm
    | some t =>
      show _ = onO (some t) _
      rw [onO_some]
      cases t with
      | lst ts =>
        rw [remQ_lst]
        show onO (match (flatT ts).bind intsF with
          | some ns => if j ∈ ns then some (Rs.ok PyData.none (Γ.set i (some (.lst (((ns.erase j).map PyData.int).map .frz))))) else none
          | none => none) Q = _
        cases (flatT ts).bind intsF with
        | none => exact onO_none.trans onO_none.symm
        | some ns =>
          rw [onO_some]
          exact onO_if
      | _ => exact onO_none
theorem iceG_cons {s : Option T} {Γ : G} : iceG (s :: Γ) = iceS s :: iceG Γ := rfl
/-- behind a pure reading -/
def pureQ (Γ : G) (Q : Rs T → Prop) : Rs T → Prop
  | .ok t _ => flatR t = true ∧ Q (.ok t Γ)
  | .ex c _ => Q (.ex c Γ)
theorem pureQ_ok {Γ' : G} {t : T} {Q : Rs T → Prop} : pureQ Γ Q (.ok t Γ') = (flatR t = true ∧ Q (.ok t Γ)) := rfl
theorem wp_mPure {m : M T} {Q : Rs T → Prop} : wpM (mPure m) Γ Q = wpM m (iceG Γ) (pureQ Γ Q) := by
  unfold wpM mPure
  cases q : m (iceG Γ) with
  | none => exact onO_none.trans onO_none.symm
  | some r =>
    rw [onO_some]
    cases r with
    | ok t Γ' => exact onO_if
    | ex c Γ' => exact onO_some
theorem iceG_nil : iceG [] = [] := rfl
theorem iceG_none {Γ : G} : iceG (none :: Γ) = none :: iceG Γ := rfl
theorem iceG_frz {Γ : G} {d : PyData} : iceG (some (.frz d) :: Γ) = some (.frz d) :: iceG Γ := rfl
theorem iceG_scr {Γ : G} {ns : List Int} : iceG (some (.scr ns) :: Γ) = some (.scr ns) :: iceG Γ := rfl
theorem iceG_lst {Γ : G} {ts : List T} : iceG (some (.lst ts) :: Γ) = ((fz (.lst ts)).map T.frz) :: iceG Γ := rfl
theorem intF_bool {b : Bool} : intF (.bool b) = some (.int (if b = true then 1 else 0)) := rfl
theorem isTF_bool {a : Bool} : isTF (.bool a) (.bool true) = some (.bool a) := by cases a <;> rfl
theorem isntTF_bool {a : Bool} : isntTF (.bool a) (.bool true) = some (.bool (!a)) := by cases a <;> rfl
theorem inst_tup {ds : List PyData} : instF "tuple" (.tuple ds) = some (.bool true) := rfl
theorem cut2 {α : Type} {a b c : α} : cutL [a, b, c] none (some 2) = [a, b] := rfl
theorem cut_tail {α : Type} {l : List α} : cutL l (some 1) none = l.tail := by
  unfold cutL
  rw [HT.sIx_none]
  show (l.drop (min 1 l.length)).take (l.length - min 1 l.length) = l.tail
  cases l with
  | nil => rfl
  | cons a l => simp
end
end TW

/-! reasoning: owned dicts -/
namespace TW
open PySem PySem.Spec L2
def isDct (P : Prop) : T → Prop
  | .dct _ => P
  | _ => False
def isDx (P : Prop) : T → Prop
  | .dct _ => P
  | .dtp _ => P
  | _ => False
section
variable {Γ : G} {i : Nat} {kvs : List (Key × PyData)}
theorem isDct_dct {P : Prop} : isDct P (.dct kvs) = P := rfl
theorem isDx_dct {P : Prop} : isDx P (.dct kvs) = P := rfl
theorem isDx_dtp {P : Prop} {kvs : List (List Key × PyData)} : isDx P (.dtp kvs) = P := rfl
theorem wp_mDGet {m : M PyData} {Q : Rs PyData → Prop} : wpM (mDGet i m) Γ Q = atV i Γ (isDx (wpM m Γ (bQ (dgetK i) Q))) := by
  unfold atV
  rw [getD_eq]
  show onO (match Γ[i]? with
    | some (some t) => if isDc t = true then bM m (dgetK i) Γ else none
    | _ => none) Q = _
  cases q : Γ[i]? with
  | none => exact onO_none.trans onO_none.symm
  | some o =>
    cases o with
    | none => exact onO_none.trans onO_none.symm
    | some t =>
      show _ = onO (some t) _
      rw [onO_some]
      cases t with
      | dct _ => exact wp_bM
      | dtp _ => exact wp_bM
      | _ => exact onO_none
theorem wp_mDPop {m : M PyData} {Q : Rs PyData → Prop} : wpM (mDPop i m) Γ Q = atV i Γ (isDct (wpM m Γ (bQ (dpopK i) Q))) := by
  unfold atV
  rw [getD_eq]
  show onO (match Γ[i]? with
    | some (some (.dct _)) => bM m (dpopK i) Γ
    | _ => none) Q = _
  cases q : Γ[i]? with
  | none => exact onO_none.trans onO_none.symm
  | some o =>
    cases o with
    | none => exact onO_none.trans onO_none.symm
    | some t =>
      show _ = onO (some t) _
      rw [onO_some]
      cases t with
      | dct _ => exact wp_bM
      | _ => exact onO_none
/-- by an int key -/
def dgetQ (Γ : G) (k : Int) (Q : Rs PyData → Prop) : T → Prop
  | .dct kvs => onO (valD kvs (.inl k)) fun d => Q (.ok d Γ)
  | _ => False
theorem dgetQ_dct {k : Int} {Q : Rs PyData → Prop} : dgetQ Γ k Q (.dct kvs) = onO (valD kvs (.inl k)) fun d => Q (.ok d Γ) := rfl
theorem wp_dgetK {k : Int} {Q : Rs PyData → Prop} : wpM (dgetK i (.int k)) Γ Q = atV i Γ (dgetQ Γ k Q) := by
  unfold atV
  rw [getD_eq]
  unfold wpM dgetK
  cases q : Γ[i]? with
  | none => exact onO_none.trans onO_none.symm
  | some o =>
    cases o with
    | none => exact onO_none.trans onO_none.symm
    | some t =>
      show _ = onO (some t) _
      rw [onO_some]
      cases t with
      | dct kvs =>
        rw [dgetQ_dct]
        show onO (match valD kvs (.inl k) with
          | some d => some (Rs.ok d Γ)
          | none => none) Q = _
        cases valD kvs (.inl k) with
        | none => exact onO_none.trans onO_none.symm
        | some d => rw [onO_some, onO_some]
      | _ => exact onO_none
/-- by a tuple -/
def dgetQT (Γ : G) (ds : List PyData) (Q : Rs PyData → Prop) : T → Prop
  | .dtp kvs => onO (keysD ds) fun k => onO (valD kvs k) fun d => Q (.ok d Γ)
  | _ => False
theorem dgetQT_dtp {ds : List PyData} {kvs : List (List Key × PyData)} {Q : Rs PyData → Prop} : dgetQT Γ ds Q (.dtp kvs) = onO (keysD ds) fun k => onO (valD kvs k) fun d => Q (.ok d Γ) := rfl
theorem wp_dgetKT {ds : List PyData} {Q : Rs PyData → Prop} : wpM (dgetK i (.tuple ds)) Γ Q = atV i Γ (dgetQT Γ ds Q) := by
  unfold atV
  rw [getD_eq]
  unfold wpM dgetK
  cases q : Γ[i]? with
  | none => exact onO_none.trans onO_none.symm
  | some o =>
    cases o with
    | none => exact onO_none.trans onO_none.symm
    | some t =>
      show _ = onO (some t) _
      rw [onO_some]
      cases t with
      | dtp kvs =>
        rw [dgetQT_dtp]
        show onO (match (keysD ds).bind (valD kvs) with
          | some d => some (Rs.ok d Γ)
          | none => none) Q = _
        cases keysD ds with
        | none => exact onO_none.trans onO_none.symm
        | some k =>
          rw [onO_some, Option.bind_some]
          cases valD kvs k with
          | none => exact onO_none.trans onO_none.symm
          | some d => rw [onO_some, onO_some]
      | _ => exact onO_none
def dpopQ (i : Nat) (Γ : G) (k : Int) (Q : Rs PyData → Prop) : T → Prop
  | .dct kvs => onO (valD kvs (.inl k)) fun d => Q (.ok d (Γ.set i (some (.dct (dropD kvs (.inl k))))))
  | _ => False
theorem dpopQ_dct {k : Int} {Q : Rs PyData → Prop} : dpopQ i Γ k Q (.dct kvs) = onO (valD kvs (.inl k)) fun d => Q (.ok d (Γ.set i (some (.dct (dropD kvs (.inl k)))))) := rfl
theorem wp_dpopK {k : Int} {Q : Rs PyData → Prop} : wpM (dpopK i (.int k)) Γ Q = atV i Γ (dpopQ i Γ k Q) := by
  unfold atV
  rw [getD_eq]
  unfold wpM dpopK
  cases q : Γ[i]? with
  | none => exact onO_none.trans onO_none.symm
  | some o =>
    cases o with
    | none => exact onO_none.trans onO_none.symm
    | some t =>
      show _ = onO (some t) _
      rw [onO_some]
      cases t with
      | dct kvs =>
        rw [dpopQ_dct]
        show onO (match valD kvs (.inl k) with
          | some d => some (Rs.ok d (Γ.set i (some (.dct (dropD kvs (.inl k))))))
          | none => none) Q = _
        cases valD kvs (.inl k) with
        | none => exact onO_none.trans onO_none.symm
        | some d => rw [onO_some, onO_some]
      | _ => exact onO_none
def dinQ (Γ : G) (b : Bool) (k : Int) (Q : Rs PyData → Prop) : T → Prop
  | .dct kvs => Q (.ok (.bool ((valD kvs (.inl k)).isSome == b)) Γ)
  | _ => False
theorem dinQ_dct {b : Bool} {k : Int} {Q : Rs PyData → Prop} : dinQ Γ b k Q (.dct kvs) = Q (.ok (.bool ((valD kvs (.inl k)).isSome == b)) Γ) := rfl
theorem wp_mDIn {b : Bool} {m : M PyData} {Q : Rs PyData → Prop} : wpM (mDIn i b m) Γ Q = wpM m Γ (bQ (dinK i b) Q) := wp_bM
theorem wp_dinK {b : Bool} {k : Int} {Q : Rs PyData → Prop} : wpM (dinK i b (.int k)) Γ Q = atV i Γ (dinQ Γ b k Q) := by
  unfold atV
  rw [getD_eq]
  unfold wpM dinK
  cases q : Γ[i]? with
  | none => exact onO_none.trans onO_none.symm
  | some o =>
    cases o with
    | none => exact onO_none.trans onO_none.symm
    | some t =>
      show _ = onO (some t) _
      rw [onO_some]
      cases t with
      | dct kvs => exact onO_some
      | _ => exact onO_none
def dinQT (Γ : G) (b : Bool) (ds : List PyData) (Q : Rs PyData → Prop) : T → Prop
  | .dtp kvs => onO (keysD ds) fun k => Q (.ok (.bool ((valD kvs k).isSome == b)) Γ)
  | _ => False
theorem dinQT_dtp {b : Bool} {ds : List PyData} {kvs : List (List Key × PyData)} {Q : Rs PyData → Prop} : dinQT Γ b ds Q (.dtp kvs) = onO (keysD ds) fun k => Q (.ok (.bool ((valD kvs k).isSome == b)) Γ) := rfl
theorem wp_dinKT {b : Bool} {ds : List PyData} {Q : Rs PyData → Prop} : wpM (dinK i b (.tuple ds)) Γ Q = atV i Γ (dinQT Γ b ds Q) := by
  unfold atV
  rw [getD_eq]
  unfold wpM dinK
  cases q : Γ[i]? with
  | none => exact onO_none.trans onO_none.symm
  | some o =>
    cases o with
    | none => exact onO_none.trans onO_none.symm
    | some t =>
      show _ = onO (some t) _
      rw [onO_some]
      cases t with
      | dtp kvs =>
        rw [dinQT_dtp]
        exact onO_map
      | _ => exact onO_none
theorem wp_mDisp1 {mk m : M PyData} {Q : Rs T → Prop} : wpM (mDisp1 mk m) Γ Q = wpM mk Γ (bQ (fun kd => bM m fun d => oM ((keyD kd).map fun k => .dct [(k, d)])) Q) := wp_bM
theorem keyD_int {k : Int} : keyD (.int k) = some (.inl k) := rfl
/-- put -/
def setFD (i : Nat) (mk : M PyData) (d : PyData) : MS := fun Γ => match Γ[i]? with
  | some (some t) => if isDc t = true then bS mk (putKK i d) Γ else none
  | _ => none
theorem wp_mDPut {m mk : M PyData} {Q : Fl → Prop} : wpS (mDPut i m mk) Γ Q = wpM m Γ (sQ (setFD i mk) Q) := wp_bS
theorem wp_setFD {mk : M PyData} {d : PyData} {Q : Fl → Prop} : wpS (setFD i mk d) Γ Q = atV i Γ (isDx (wpM mk Γ (sQ (putKK i d) Q))) := by
  unfold atV
  rw [getD_eq]
  show onO (match Γ[i]? with
    | some (some t) => if isDc t = true then bS mk (putKK i d) Γ else none
    | _ => none) Q = _
  cases q : Γ[i]? with
  | none => exact onO_none.trans onO_none.symm
  | some o =>
    cases o with
    | none => exact onO_none.trans onO_none.symm
    | some t =>
      show _ = onO (some t) _
      rw [onO_some]
      cases t with
      | dct _ => exact wp_bS
      | dtp _ => exact wp_bS
      | _ => exact onO_none
def putDQ (i : Nat) (Γ : G) (d : PyData) (k : Int) (Q : Fl → Prop) : T → Prop
  | .dct kvs => kvs.length < sizeLine ∧ Q (.nx (Γ.set i (some (.dct (putD kvs (.inl k) d)))))
  | _ => False
theorem putDQ_dct {d : PyData} {k : Int} {Q : Fl → Prop} : putDQ i Γ d k Q (.dct kvs) = (kvs.length < sizeLine ∧ Q (.nx (Γ.set i (some (.dct (putD kvs (.inl k) d)))))) := rfl
theorem wp_putKK {d : PyData} {k : Int} {Q : Fl → Prop} : wpS (putKK i d (.int k)) Γ Q = atV i Γ (putDQ i Γ d k Q) := by
  unfold atV
  rw [getD_eq]
  unfold wpS putKK
  cases q : Γ[i]? with
  | none => exact onO_none.trans onO_none.symm
  | some o =>
    cases o with
    | none => exact onO_none.trans onO_none.symm
    | some t =>
      show _ = onO (some t) _
      rw [onO_some]
      cases t with
      | dct kvs => exact onO_if
      | _ => exact onO_none
def putDQT (i : Nat) (Γ : G) (d : PyData) (ds : List PyData) (Q : Fl → Prop) : T → Prop
  | .dtp kvs => onO (keysD ds) fun k => kvs.length < sizeLine ∧ Q (.nx (Γ.set i (some (.dtp (putD kvs k d)))))
  | _ => False
theorem putDQT_dtp {d : PyData} {ds : List PyData} {kvs : List (List Key × PyData)} {Q : Fl → Prop} : putDQT i Γ d ds Q (.dtp kvs) = onO (keysD ds) fun k => kvs.length < sizeLine ∧ Q (.nx (Γ.set i (some (.dtp (putD kvs k d))))) := rfl
theorem wp_putKKT {d : PyData} {ds : List PyData} {Q : Fl → Prop} : wpS (putKK i d (.tuple ds)) Γ Q = atV i Γ (putDQT i Γ d ds Q) := by
  unfold atV
  rw [getD_eq]
  unfold wpS putKK
  cases q : Γ[i]? with
  | none => exact onO_none.trans onO_none.symm
  | some o =>
    cases o with
    | none => exact onO_none.trans onO_none.symm
    | some t =>
      show _ = onO (some t) _
      rw [onO_some]
      cases t with
      | dtp kvs =>
        rw [putDQT_dtp]
        show onO ((keysD ds).bind fun k => if kvs.length < sizeLine then some (Fl.nx (Γ.set i (some (.dtp (putD kvs k d))))) else none) Q = _
        cases keysD ds with
        | none => exact onO_none.trans onO_none.symm
        | some k =>
          rw [onO_some, Option.bind_some]
          exact onO_if
      | _ => exact onO_none
/-! locks -/
def itemsQ (Γ : G) (Q : Rs (List PyData) → Prop) : T → Prop
  | .lck kvs => Q (.ok (kvs.map itemP) Γ)
  | _ => False
theorem itemsQ_lck {Q : Rs (List PyData) → Prop} : itemsQ Γ Q (.lck kvs) = Q (.ok (kvs.map itemP) Γ) := rfl
theorem wp_mItems {Q : Rs (List PyData) → Prop} : wpM (mItems i) Γ Q = atV i Γ (itemsQ Γ Q) := by
  unfold atV
  rw [getD_eq]
  unfold wpM mItems
  cases q : Γ[i]? with
  | none => exact onO_none.trans onO_none.symm
  | some o =>
    cases o with
    | none => exact onO_none.trans onO_none.symm
    | some t =>
      show _ = onO (some t) _
      rw [onO_some]
      cases t with
      | lck kvs => exact onO_some
      | _ => exact onO_none
def lockR (Γ : G) (Q : Rs PyData → Prop) : Rs PyData → Prop
  | .ok d _ => flatD d = true ∧ Q (.ok d Γ)
  | .ex _ _ => False
theorem lockR_ok {Γ' : G} {d : PyData} {Q : Rs PyData → Prop} : lockR Γ Q (.ok d Γ') = (flatD d = true ∧ Q (.ok d Γ)) := rfl
def lockQ (i : Nat) (m : M PyData) (Γ : G) (Q : Rs PyData → Prop) : T → Prop
  | .dct kvs => wpM m ((iceG Γ).set i (some (.lck kvs))) (lockR Γ Q)
  | _ => False
theorem lockQ_dct {m : M PyData} {Q : Rs PyData → Prop} : lockQ i m Γ Q (.dct kvs) = wpM m ((iceG Γ).set i (some (.lck kvs))) (lockR Γ Q) := rfl
theorem wp_mLock {m : M PyData} {Q : Rs PyData → Prop} : wpM (mLock i m) Γ Q = atV i Γ (lockQ i m Γ Q) := by
  unfold atV
  rw [getD_eq]
  unfold wpM mLock
  cases q : Γ[i]? with
  | none => exact onO_none.trans onO_none.symm
  | some o =>
    cases o with
    | none => exact onO_none.trans onO_none.symm
    | some t =>
      show _ = onO (some t) _
      rw [onO_some]
      cases t with
      | dct kvs =>
        rw [lockQ_dct]
        unfold wpM
        show onO (match m ((iceG Γ).set i (some (.lck kvs))) with
          | some (.ok d _) => if flatD d = true then some (Rs.ok d Γ) else none
          | _ => none) Q = _
        cases m ((iceG Γ).set i (some (.lck kvs))) with
        | none => exact onO_none.trans onO_none.symm
        | some r =>
          rw [onO_some]
          cases r with
          | ok d Γ' => exact onO_if
          | ex c Γ' => exact onO_none
      | _ => exact onO_none
theorem iceG_dct {Γ : G} : iceG (some (.dct kvs) :: Γ) = none :: iceG Γ := rfl
theorem iceG_dtp {Γ : G} {kvs : List (List Key × PyData)} : iceG (some (.dtp kvs) :: Γ) = none :: iceG Γ := rfl
theorem flatD_int {k : Int} : flatD (.int k) = true := rfl
end
end TW

/-! reasoning: the constructs of TW18 -/
namespace TW
open PySem PySem.Spec L2
section
variable {Γ : G} {Q : Rs PyData → Prop}
theorem mulXF_int {i j : Int} : mulXF (.int i) (.int j) = if (big i && big j) = true then some (.int (i * j)) else none := rfl
theorem mulXF_lst {ds : List PyData} {k : Int} : mulXF (.list ds) (.int k) = if 0 ≤ k ∧ k ≤ 1000 ∧ ds.length ≤ 1000 then some (.list (List.replicate k.toNat ds).flatten) else none := rfl
theorem mulXF_tup {ds : List PyData} {k : Int} : mulXF (.tuple ds) (.int k) = if 1 ≤ k ∧ k ≤ 1000 ∧ ds ≠ [] ∧ ds.length ≤ 1000 then some (.tuple (List.replicate k.toNat ds).flatten) else none := rfl
theorem wp_mBack {m : M PyData} {ml mh : M (Option Int)} : wpM (mBack m ml mh) Γ Q = wpM m Γ (bQ (fun d => bM ml fun l => bM mh fun u => oM (slcBF d l u)) Q) := wp_bM
theorem slcBF_tup {ds : List PyData} : slcBF (.tuple ds) none none = if ds.length ≤ sizeLine then some (.tuple ds.reverse) else none := by
  show (if (backL ds none none).length ≤ sizeLine then some (PyData.tuple (backL ds none none)) else none) = _
  rw [backL_all, List.length_reverse]
theorem slcBF_list {ds : List PyData} : slcBF (.list ds) none none = some (.list ds.reverse) := rfl
theorem slcBF_cut {ds : List PyData} {lo hi : Option Int} : slcBF (.tuple ds) lo hi = if (backL ds lo hi).length ≤ sizeLine then some (.tuple (backL ds lo hi)) else none := rfl
theorem inst_int_int_ {i : Int} : instF "int" (.int i) = some (.bool true) := by
  show (kitB "int" "int").map PyData.bool = _
  rw [show kitB "int" "int" = some true by decide +kernel]; rfl
theorem inst_int_bool_ {b : Bool} : instF "int" (.bool b) = some (.bool true) := by
  show (kitB "bool" "int").map PyData.bool = _
  rw [show kitB "bool" "int" = some true by decide +kernel]; rfl
theorem inst_int_none_  : instF "int" .none = some (.bool false) := by
  show (kitB "NoneType" "int").map PyData.bool = _
  rw [show kitB "NoneType" "int" = some false by decide +kernel]; rfl
theorem inst_int_tuple_ {ds : List PyData} : instF "int" (.tuple ds) = some (.bool false) := by
  show (kitB "tuple" "int").map PyData.bool = _
  rw [show kitB "tuple" "int" = some false by decide +kernel]; rfl
theorem inst_int_list_ {ds : List PyData} : instF "int" (.list ds) = some (.bool false) := by
  show (kitB "list" "int").map PyData.bool = _
  rw [show kitB "list" "int" = some false by decide +kernel]; rfl
theorem inst_int_str_ {x : Str} : instF "int" (.str x) = some (.bool false) := by
  show (kitB "str" "int").map PyData.bool = _
  rw [show kitB "str" "int" = some false by decide +kernel]; rfl
theorem inst_bool_int_ {i : Int} : instF "bool" (.int i) = some (.bool false) := by
  show (kitB "int" "bool").map PyData.bool = _
  rw [show kitB "int" "bool" = some false by decide +kernel]; rfl
theorem inst_bool_bool_ {b : Bool} : instF "bool" (.bool b) = some (.bool true) := by
  show (kitB "bool" "bool").map PyData.bool = _
  rw [show kitB "bool" "bool" = some true by decide +kernel]; rfl
theorem inst_bool_none_  : instF "bool" .none = some (.bool false) := by
  show (kitB "NoneType" "bool").map PyData.bool = _
  rw [show kitB "NoneType" "bool" = some false by decide +kernel]; rfl
theorem inst_bool_tuple_ {ds : List PyData} : instF "bool" (.tuple ds) = some (.bool false) := by
  show (kitB "tuple" "bool").map PyData.bool = _
  rw [show kitB "tuple" "bool" = some false by decide +kernel]; rfl
theorem inst_bool_list_ {ds : List PyData} : instF "bool" (.list ds) = some (.bool false) := by
  show (kitB "list" "bool").map PyData.bool = _
  rw [show kitB "list" "bool" = some false by decide +kernel]; rfl
theorem inst_bool_str_ {x : Str} : instF "bool" (.str x) = some (.bool false) := by
  show (kitB "str" "bool").map PyData.bool = _
  rw [show kitB "str" "bool" = some false by decide +kernel]; rfl
theorem inst_tuple_int_ {i : Int} : instF "tuple" (.int i) = some (.bool false) := by
  show (kitB "int" "tuple").map PyData.bool = _
  rw [show kitB "int" "tuple" = some false by decide +kernel]; rfl
theorem inst_tuple_bool_ {b : Bool} : instF "tuple" (.bool b) = some (.bool false) := by
  show (kitB "bool" "tuple").map PyData.bool = _
  rw [show kitB "bool" "tuple" = some false by decide +kernel]; rfl
theorem inst_tuple_none_  : instF "tuple" .none = some (.bool false) := by
  show (kitB "NoneType" "tuple").map PyData.bool = _
  rw [show kitB "NoneType" "tuple" = some false by decide +kernel]; rfl
theorem inst_tuple_tuple_ {ds : List PyData} : instF "tuple" (.tuple ds) = some (.bool true) := by
  show (kitB "tuple" "tuple").map PyData.bool = _
  rw [show kitB "tuple" "tuple" = some true by decide +kernel]; rfl
theorem inst_tuple_list_ {ds : List PyData} : instF "tuple" (.list ds) = some (.bool false) := by
  show (kitB "list" "tuple").map PyData.bool = _
  rw [show kitB "list" "tuple" = some false by decide +kernel]; rfl
theorem inst_tuple_str_ {x : Str} : instF "tuple" (.str x) = some (.bool false) := by
  show (kitB "str" "tuple").map PyData.bool = _
  rw [show kitB "str" "tuple" = some false by decide +kernel]; rfl
theorem inst_list_int_ {i : Int} : instF "list" (.int i) = some (.bool false) := by
  show (kitB "int" "list").map PyData.bool = _
  rw [show kitB "int" "list" = some false by decide +kernel]; rfl
theorem inst_list_bool_ {b : Bool} : instF "list" (.bool b) = some (.bool false) := by
  show (kitB "bool" "list").map PyData.bool = _
  rw [show kitB "bool" "list" = some false by decide +kernel]; rfl
theorem inst_list_none_  : instF "list" .none = some (.bool false) := by
  show (kitB "NoneType" "list").map PyData.bool = _
  rw [show kitB "NoneType" "list" = some false by decide +kernel]; rfl
theorem inst_list_tuple_ {ds : List PyData} : instF "list" (.tuple ds) = some (.bool false) := by
  show (kitB "tuple" "list").map PyData.bool = _
  rw [show kitB "tuple" "list" = some false by decide +kernel]; rfl
theorem inst_list_list_ {ds : List PyData} : instF "list" (.list ds) = some (.bool true) := by
  show (kitB "list" "list").map PyData.bool = _
  rw [show kitB "list" "list" = some true by decide +kernel]; rfl
theorem inst_list_str_ {x : Str} : instF "list" (.str x) = some (.bool false) := by
  show (kitB "str" "list").map PyData.bool = _
  rw [show kitB "str" "list" = some false by decide +kernel]; rfl
theorem inst_str_int_ {i : Int} : instF "str" (.int i) = some (.bool false) := by
  show (kitB "int" "str").map PyData.bool = _
  rw [show kitB "int" "str" = some false by decide +kernel]; rfl
theorem inst_str_bool_ {b : Bool} : instF "str" (.bool b) = some (.bool false) := by
  show (kitB "bool" "str").map PyData.bool = _
  rw [show kitB "bool" "str" = some false by decide +kernel]; rfl
theorem inst_str_none_  : instF "str" .none = some (.bool false) := by
  show (kitB "NoneType" "str").map PyData.bool = _
  rw [show kitB "NoneType" "str" = some false by decide +kernel]; rfl
theorem inst_str_tuple_ {ds : List PyData} : instF "str" (.tuple ds) = some (.bool false) := by
  show (kitB "tuple" "str").map PyData.bool = _
  rw [show kitB "tuple" "str" = some false by decide +kernel]; rfl
theorem inst_str_list_ {ds : List PyData} : instF "str" (.list ds) = some (.bool false) := by
  show (kitB "list" "str").map PyData.bool = _
  rw [show kitB "list" "str" = some false by decide +kernel]; rfl
theorem inst_str_str_ {x : Str} : instF "str" (.str x) = some (.bool true) := by
  show (kitB "str" "str").map PyData.bool = _
  rw [show kitB "str" "str" = some true by decide +kernel]; rfl
def parK (i j : Nat) : List PyData → MS := fun ds Γ => match ds with
  | [d, e] => ((storeG i (.frz d) Γ).bind (storeG j (.frz e))).map .nx
  | _ => none
theorem wp_mPar {i j : Nat} {ms : M (List PyData)} {Q : Fl → Prop} : wpS (mPar i j ms) Γ Q = wpM ms Γ (sQ (parK i j) Q) := wp_bS
theorem wp_parK {i j : Nat} {d e : PyData} {Q : Fl → Prop} : wpS (parK i j [d, e]) Γ Q = (i < Γ.length ∧ j < Γ.length ∧ Q (.nx ((Γ.set i (some (.frz d))).set j (some (.frz e))))) := by
  show onO (((storeG i (.frz d) Γ).bind (storeG j (.frz e))).map Fl.nx) Q = _
  rw [onO_map]
  unfold storeG
  by_cases h : i < Γ.length
  · rw [if_pos h]
    show onO (if j < (Γ.set i (some (.frz d))).length then some _ else none) _ = _
    rw [onO_if, List.length_set]
    simp [h]
  · rw [if_neg h]
    simp [h, onO]
theorem absF_int {i : Int} : absF (.int i) = some (.int (if i < 0 then -i else i)) := rfl
end
section
variable {α : Type} {Γ : G}
/-- a comprehension over what things stand for: each one's image -/
theorem comp_mapA {g : MG} {mt : M Bool} {me : M T} {own : List Nat} {Q : Rs T → Prop} (l : List α) (e f : α → PyData) (hl : l.length ≤ sizeLine)
    (hs : ∀ a, a ∈ l → onO (g (e a) Γ) fun Γ1 => wpM mt Γ1 (tsQ (fun Γ2 => wpM me Γ2 (elQ fun t Γ3 => t = .frz (f a) ∧ wipeG Γ3 own = Γ)) (fun _ => False)))
    (hd : Q (.ok (.lst ((l.map f).map .frz)) Γ)) : wpM (loopC g mt me own (l.map e) []) Γ Q := by
  refine comp_inv (fun i acc Γ' => Γ' = Γ ∧ i ≤ l.length ∧ acc = ((l.take i).map f).map .frz) ⟨rfl, Nat.zero_le _, rfl⟩ (fun i d acc Γ' q p => ?_) (fun acc Γ' p => ?_)
  · obtain ⟨rfl, hi, rfl⟩ := p
    have hlt : i < l.length := by
      have := (List.getElem?_eq_some_iff.mp q).1
      rwa [List.length_map] at this
    have ed : d = e l[i] := by
      rw [List.getElem?_map, List.getElem?_eq_getElem hlt] at q
      exact (Option.some.inj q).symm
    subst ed
    refine mono (hs _ (List.getElem_mem hlt)) fun Γ1 h => mono h fun r h => ?_
    cases r with
    | ex c Γ2 => exact h
    | ok b Γ2 =>
      cases b with
      | false => exact h.elim
      | true =>
        refine mono (show wpM me Γ2 _ from h) fun r h => ?_
        cases r with
        | ex c Γ3 => exact h
        | ok t Γ3 =>
          obtain ⟨rfl, hw⟩ := h
          refine ⟨by rw [List.length_map, List.length_map, List.length_take]; omega, hw, hlt, ?_⟩
          rw [show l.take (i + 1) = l.take i ++ [l[i]] by rw [List.take_add_one, List.getElem?_eq_getElem hlt]; rfl, List.map_append, List.map_append]
          rfl
  · obtain ⟨rfl, hi, rfl⟩ := p
    rw [List.length_map, List.take_length]
    exact hd
/-- those for which a test holds -/
theorem comp_fmA {g : MG} {mt : M Bool} {me : M T} {own : List Nat} {Q : Rs T → Prop} (l : List α) (e : α → PyData) (p : α → Bool) (f : α → PyData) (hl : l.length ≤ sizeLine)
    (hs : ∀ a, a ∈ l → onO (g (e a) Γ) fun Γ1 => wpM mt Γ1 (tsQ (fun Γ2 => p a = true ∧ wpM me Γ2 (elQ fun t Γ3 => t = .frz (f a) ∧ wipeG Γ3 own = Γ)) (fun Γ2 => p a = false ∧ wipeG Γ2 own = Γ)))
    (hd : Q (.ok (.lst (((l.filter p).map f).map .frz)) Γ)) : wpM (loopC g mt me own (l.map e) []) Γ Q := by
  refine comp_inv (fun i acc Γ' => Γ' = Γ ∧ i ≤ l.length ∧ acc = (((l.take i).filter p).map f).map .frz) ⟨rfl, Nat.zero_le _, rfl⟩ (fun i d acc Γ' q h0 => ?_) (fun acc Γ' q => ?_)
  · obtain ⟨rfl, hi, rfl⟩ := h0
    have hlt : i < l.length := by
      have := (List.getElem?_eq_some_iff.mp q).1
      rwa [List.length_map] at this
    have ed : d = e l[i] := by
      rw [List.getElem?_map, List.getElem?_eq_getElem hlt] at q
      exact (Option.some.inj q).symm
    subst ed
    have et : l.take (i + 1) = l.take i ++ [l[i]] := by rw [List.take_add_one, List.getElem?_eq_getElem hlt]; rfl
    refine mono (hs _ (List.getElem_mem hlt)) fun Γ1 h => mono h fun r h => ?_
    cases r with
    | ex c Γ2 => exact h
    | ok b Γ2 =>
      cases b with
      | false =>
        obtain ⟨h1, h2⟩ := h
        refine ⟨h2, hlt, ?_⟩
        rw [et, List.filter_append, List.filter_cons_of_neg (by rw [h1]; decide), List.filter_nil, List.append_nil]
      | true =>
        obtain ⟨h1, h⟩ := (show p l[i] = true ∧ wpM me Γ2 _ from h)
        refine mono h fun r h => ?_
        cases r with
        | ex c Γ3 => exact h
        | ok t Γ3 =>
          obtain ⟨rfl, hw⟩ := h
          refine ⟨?_, hw, hlt, ?_⟩
          · rw [List.length_map, List.length_map]
            have := List.length_filter_le p (l.take i)
            rw [List.length_take] at this
            omega
          · rw [et, List.filter_append, List.filter_cons_of_pos h1, List.filter_nil, List.map_append, List.map_append]
            rfl
  · obtain ⟨rfl, hi, rfl⟩ := q
    rw [List.length_map, List.take_length]
    exact hd
end
end TW

/-! reasoning: the constructs of TW19 -/
namespace TW
open PySem PySem.Spec L2
section
variable {Γ : G} {Q : Rs PyData → Prop} {i : Nat}
theorem wp_mIns {mk m : M PyData} : wpM (mIns i mk m) Γ Q = atV i Γ (isL (wpM mk Γ (bQ (fun kd => bM m (insK i kd)) Q))) := by
  unfold atV
  rw [getD_eq]
  show onO (match Γ[i]? with
    | some (some (.lst _)) => bM mk (fun kd => bM m (insK i kd)) Γ
    | _ => none) Q = _
  cases q : Γ[i]? with
  | none => exact onO_none.trans onO_none.symm
  | some o =>
    cases o with
    | none => exact onO_none.trans onO_none.symm
    | some t =>
      show _ = onO (some t) _
      rw [onO_some]
      cases t with
      | lst ts => exact wp_bM
      | _ => exact onO_none
def insQ (i : Nat) (Γ : G) (j : Int) (d : PyData) (Q : Rs PyData → Prop) : T → Prop
  | .lst ts => onO (flatT ts) fun ds => (0 ≤ j ∧ j < 2 ^ 62 ∧ ts.length < sizeLine) ∧ Q (.ok .none (Γ.set i (some (.lst ((ds.take j.toNat ++ [d] ++ ds.drop j.toNat).map .frz)))))
  | _ => False
theorem insQ_lst {j : Int} {d : PyData} {ts : List T} : insQ i Γ j d Q (.lst ts) = onO (flatT ts) fun ds => (0 ≤ j ∧ j < 2 ^ 62 ∧ ts.length < sizeLine) ∧ Q (.ok .none (Γ.set i (some (.lst ((ds.take j.toNat ++ [d] ++ ds.drop j.toNat).map .frz))))) := rfl
theorem wp_insK {j : Int} {d : PyData} : wpM (insK i (.int j) d) Γ Q = atV i Γ (insQ i Γ j d Q) := by
  unfold atV
  rw [getD_eq]
  unfold wpM insK
  cases q : Γ[i]? with
  | none => exact onO_none.trans onO_none.symm
  | some o =>
    cases o with
    | none => exact onO_none.trans onO_none.symm
    | some t =>
      show _ = onO (some t) _
      rw [onO_some]
      cases t with
      | lst ts =>
        rw [insQ_lst]
        show onO (match flatT ts with
          | some ds => if 0 ≤ j ∧ j < 2 ^ 62 ∧ ts.length < sizeLine then some (.ok .none (Γ.set i (some (.lst ((ds.take j.toNat ++ [d] ++ ds.drop j.toNat).map .frz))))) else none
          | none => none) Q = _
        cases flatT ts with
        | none => exact onO_none.trans onO_none.symm
        | some ds =>
          rw [onO_some]
          exact onO_if
      | _ => exact onO_none
theorem flatT_frz : ∀ ds : List PyData, flatT (ds.map .frz) = some ds
  | [] => rfl
  | d :: ds => by
    show (flatT (ds.map .frz)).map (d :: ·) = _
    rw [flatT_frz ds]
    rfl
end
end TW

/-! reasoning: extend, and what set membership asks -/
namespace TW
open PySem PySem.Spec L2
section
variable {Γ : G} {Q : Rs PyData → Prop} {i : Nat}
theorem wp_mExt {m : M PyData} : wpM (mExt i m) Γ Q = atV i Γ (isL (wpM m Γ (bQ (extK i) Q))) := by
  unfold atV
  rw [getD_eq]
  show onO (match Γ[i]? with
    | some (some (.lst _)) => bM m (extK i) Γ
    | _ => none) Q = _
  cases q : Γ[i]? with
  | none => exact onO_none.trans onO_none.symm
  | some o =>
    cases o with
    | none => exact onO_none.trans onO_none.symm
    | some t =>
      show _ = onO (some t) _
      rw [onO_some]
      cases t with
      | lst ts => exact wp_bM
      | _ => exact onO_none
def extQ (i : Nat) (Γ : G) (es : List PyData) (Q : Rs PyData → Prop) : T → Prop
  | .lst ts => ts.length + es.length ≤ sizeLine ∧ Q (.ok .none (Γ.set i (some (.lst (ts ++ es.map .frz)))))
  | _ => False
theorem extQ_lst {es : List PyData} {ts : List T} : extQ i Γ es Q (.lst ts) = (ts.length + es.length ≤ sizeLine ∧ Q (.ok .none (Γ.set i (some (.lst (ts ++ es.map .frz)))))) := rfl
theorem wp_extK {es : List PyData} : wpM (extK i (.list es)) Γ Q = atV i Γ (extQ i Γ es Q) := by
  unfold atV
  rw [getD_eq]
  unfold wpM extK
  cases q : Γ[i]? with
  | none => exact onO_none.trans onO_none.symm
  | some o =>
    cases o with
    | none => exact onO_none.trans onO_none.symm
    | some t =>
      show _ = onO (some t) _
      rw [onO_some]
      cases t with
      | lst ts =>
        rw [extQ_lst]
        exact onO_if
      | _ => exact onO_none
theorem wp_mZip2 {ma mb : M PyData} {Q : Rs (List PyData) → Prop} : wpM (mZip2 ma mb) Γ Q = wpM ma Γ (bQ (fun d => bM mb fun e => oM (zipF2 d e)) Q) := wp_bM
theorem zipF2_tt {ds es : List PyData} : zipF2 (.tuple ds) (.tuple es) = zipF (.tuple ds) (.tuple es) := rfl
theorem zipF2_ll {ds es : List PyData} : zipF2 (.list ds) (.list es) = zipF (.list ds) (.list es) := rfl
theorem zipF2_lt {ds es : List PyData} : zipF2 (.list ds) (.tuple es) = some (zipL ds es) := rfl
def sortKQ (Γ : G) (Q : Rs T → Prop) : T → Prop
  | .dct kvs => onO (keysI kvs) fun ns => Q (.ok (.lst (((sortI ns).map .int).map .frz)) Γ)
  | _ => False
theorem sortKQ_dct {kvs : List (L2.Key × PyData)} {Q : Rs T → Prop} : sortKQ Γ Q (.dct kvs) = onO (keysI kvs) fun ns => Q (.ok (.lst (((sortI ns).map .int).map .frz)) Γ) := rfl
theorem wp_mSortK {Q : Rs T → Prop} : wpM (mSortK i) Γ Q = atV i Γ (sortKQ Γ Q) := by
  unfold atV
  rw [getD_eq]
  unfold wpM mSortK
  cases q : Γ[i]? with
  | none => exact onO_none.trans onO_none.symm
  | some o =>
    cases o with
    | none => exact onO_none.trans onO_none.symm
    | some t =>
      show _ = onO (some t) _
      rw [onO_some]
      cases t with
      | dct kvs => rw [sortKQ_dct]; exact onO_map
      | _ => exact onO_none
def chK3 (g h : OpF) (b : PyData) (mc md : M PyData) : PyData → M PyData := fun t => match t with
  | .bool true => bM mc fun c => bM (oM (g b c)) (chK h c md)
  | .bool false => pM (.bool false)
  | _ => fun _ => none
theorem wp_mChain3 {f g h : OpF} {ma mb mc md : M PyData} {Q : Rs PyData → Prop} : wpM (mChain3 f g h ma mb mc md) Γ Q = wpM ma Γ (bQ (fun a => bM mb fun b => bM (oM (f a b)) (chK3 g h b mc md)) Q) := by
  have e : mChain3 f g h ma mb mc md = bM ma (fun a => bM mb fun b => bM (oM (f a b)) (chK3 g h b mc md)) := rfl
  rw [e, wp_bM]
theorem wp_chK3 {g h : OpF} {b : PyData} {mc md : M PyData} {t : Bool} {Q : Rs PyData → Prop} : wpM (chK3 g h b mc md (.bool t)) Γ Q = ifQ (wpM mc Γ (bQ (fun c => bM (oM (g b c)) (chK h c md)) Q)) (Q (.ok (.bool false) Γ)) t := by
  cases t with
  | true => exact wp_bM
  | false => exact wp_pM
theorem inst2_lt_list {ds : List PyData} : instF2 "list" "tuple" (.list ds) = some (.bool true) := by
  show (match kitB (tyName (PyData.list ds)) "list", kitB (tyName (PyData.list ds)) "tuple" with
    | some a, some b => some (PyData.bool (a || b))
    | _, _ => none) = _
  rw [show kitB (tyName (.list ds)) "list" = some true from (by decide +kernel : kitB "list" "list" = some true), show kitB (tyName (.list ds)) "tuple" = some false from (by decide +kernel : kitB "list" "tuple" = some false)]
  rfl
theorem inst2_lt_tuple {ds : List PyData} : instF2 "list" "tuple" (.tuple ds) = some (.bool true) := by
  show (match kitB (tyName (PyData.tuple ds)) "list", kitB (tyName (PyData.tuple ds)) "tuple" with
    | some a, some b => some (PyData.bool (a || b))
    | _, _ => none) = _
  rw [show kitB (tyName (.tuple ds)) "list" = some false from (by decide +kernel : kitB "tuple" "list" = some false), show kitB (tyName (.tuple ds)) "tuple" = some true from (by decide +kernel : kitB "tuple" "tuple" = some true)]
  rfl
theorem wp_mListZip {ma mb : M PyData} {Q : Rs T → Prop} : wpM (mListZip ma mb) Γ Q = wpM ma Γ (bQ (fun d => bM mb fun e => bM (oM (zipTT d e)) fun ds => pM (.lst (ds.map .frz))) Q) := wp_bM
theorem wp_mDictT {m : M PyData} {Q : Rs T → Prop} : wpM (mDictT m) Γ Q = wpM m Γ (bQ (fun d => oM (dictTF d)) Q) := wp_bM
theorem wp_mZip3 {ma mb : M PyData} {Q : Rs (List PyData) → Prop} : wpM (mZip3 ma mb) Γ Q = wpM ma Γ (bQ (fun d => bM mb fun e => oM (zipF3 d e)) Q) := wp_bM
theorem zipF3_tt {ds es : List PyData} : zipF3 (.tuple ds) (.tuple es) = zipF (.tuple ds) (.tuple es) := rfl
theorem zipF3_ll {ds es : List PyData} : zipF3 (.list ds) (.list es) = zipF (.list ds) (.list es) := rfl
theorem zipF3_lt {ds es : List PyData} : zipF3 (.list ds) (.tuple es) = some (zipL ds es) := rfl
theorem zipF3_tl {ds es : List PyData} : zipF3 (.tuple ds) (.list es) = some (zipL ds es) := rfl
theorem wp_mZipN {ma mb : M PyData} {Q : Rs (List PyData) → Prop} : wpM (mZipN ma mb) Γ Q = wpM ma Γ (bQ (fun d => bM mb fun e => oM (zipTT d e)) Q) := wp_bM
theorem zipTT_tt {ds es : List PyData} : zipTT (.tuple ds) (.tuple es) = some (zipL ds es) := rfl
theorem wp_mExt2 {m : M PyData} : wpM (mExt2 i m) Γ Q = atV i Γ (isL (wpM m Γ (bQ (extK2 i) Q))) := by
  unfold atV
  rw [getD_eq]
  show onO (match Γ[i]? with
    | some (some (.lst _)) => bM m (extK2 i) Γ
    | _ => none) Q = _
  cases q : Γ[i]? with
  | none => exact onO_none.trans onO_none.symm
  | some o =>
    cases o with
    | none => exact onO_none.trans onO_none.symm
    | some t =>
      show _ = onO (some t) _
      rw [onO_some]
      cases t with
      | lst ts => exact wp_bM
      | _ => exact onO_none
theorem wp_extK2 {d : PyData} : wpM (extK2 i d) Γ Q = onO (itemsF d) fun es => atV i Γ (extQ i Γ es Q) := by
  unfold atV
  rw [getD_eq]
  unfold wpM extK2
  cases itemsF d with
  | none => exact onO_none.trans onO_none.symm
  | some es =>
    rw [onO_some]
    cases q : Γ[i]? with
    | none => exact onO_none.trans onO_none.symm
    | some o =>
      cases o with
      | none => exact onO_none.trans onO_none.symm
      | some t =>
        show _ = onO (some t) _
        rw [onO_some]
        cases t with
        | lst ts => exact onO_if
        | _ => exact onO_none
end
theorem inRgF_int {i n : Int} : inRgF (.int i) (.int n) = some (.bool (decide (0 ≤ i ∧ i < n))) := rfl
section
variable {Γ : G}
/-! a try's end -/
def kQ (i j : Nat) (tbl : List Str) (Q : Fl → Prop) : Fl → Prop
  | .ex c Γ => c ∈ tbl ∧ j < Γ.length ∧ Q (.nx ((Γ.set j (some (.frz (excD c)))).set i none))
  | .nx Γ => Q (.nx Γ)
  | .bk Γ => Q (.bk Γ)
  | .ct Γ => Q (.ct Γ)
  | .rt t Γ => Q (.rt t Γ)
theorem wp_mTryK {i j : Nat} {tbl : List Str} {mb : MS} {Q : Fl → Prop} : wpS (mTryK i j tbl mb) Γ Q = wpS mb Γ (kQ i j tbl Q) := by
  unfold wpS mTryK
  cases mb Γ with
  | none =>
    show onO none Q = onO none (kQ i j tbl Q)
    exact onO_none.trans onO_none.symm
  | some r =>
    cases r with
    | ex c Γ' =>
      show onO (if c ∈ tbl then (storeG j (.frz (excD c)) Γ').map fun Γ2 => Fl.nx (Γ2.set i none) else none) Q = onO (some (.ex c Γ')) (kQ i j tbl Q)
      rw [onO_some]
      show _ = (c ∈ tbl ∧ j < Γ'.length ∧ Q (.nx ((Γ'.set j (some (.frz (excD c)))).set i none)))
      unfold storeG
      by_cases h1 : c ∈ tbl
      · rw [if_pos h1]
        by_cases h2 : j < Γ'.length
        · rw [if_pos h2, Option.map_some, onO_some]
          simp [h1, h2]
        · rw [if_neg h2]
          simp [h2, onO]
      · rw [if_neg h1]
        simp [h1, onO]
    | nx Γ' =>
      show onO (some _) Q = onO (some _) (kQ i j tbl Q)
      rw [onO_some, onO_some]
      rfl
    | bk Γ' =>
      show onO (some _) Q = onO (some _) (kQ i j tbl Q)
      rw [onO_some, onO_some]
      rfl
    | ct Γ' =>
      show onO (some _) Q = onO (some _) (kQ i j tbl Q)
      rw [onO_some, onO_some]
      rfl
    | rt t Γ' =>
      show onO (some _) Q = onO (some _) (kQ i j tbl Q)
      rw [onO_some, onO_some]
      rfl
theorem kQ_nx {i j : Nat} {tbl : List Str} {Q : Fl → Prop} : kQ i j tbl Q (.nx Γ) = Q (.nx Γ) := rfl
theorem kQ_rt {i j : Nat} {tbl : List Str} {t : T} {Q : Fl → Prop} : kQ i j tbl Q (.rt t Γ) = Q (.rt t Γ) := rfl
theorem kQ_ex {i j : Nat} {tbl : List Str} {c : Str} {Q : Fl → Prop} : kQ i j tbl Q (.ex c Γ) = (c ∈ tbl ∧ j < Γ.length ∧ Q (.nx ((Γ.set j (some (.frz (excD c)))).set i none))) := rfl
theorem callQ_exc {as : List Ar} {Q : Rs T → Prop} {c : Str} : callQ as Γ Q (.exc c) = Q (.ex c Γ) := rfl
theorem inst_int_dict_ : instF "int" (.dict []) = some (.bool false) := by
  show (kitB "dict" "int").map PyData.bool = _
  rw [show kitB "dict" "int" = some false by decide +kernel]
  rfl
theorem inst_bool_dict_ : instF "bool" (.dict []) = some (.bool false) := by
  show (kitB "dict" "bool").map PyData.bool = _
  rw [show kitB "dict" "bool" = some false by decide +kernel]
  rfl
theorem inst_str_dict_ : instF "str" (.dict []) = some (.bool false) := by
  show (kitB "dict" "str").map PyData.bool = _
  rw [show kitB "dict" "str" = some false by decide +kernel]
  rfl
theorem inst_tuple_dict_ : instF "tuple" (.dict []) = some (.bool false) := by
  show (kitB "dict" "tuple").map PyData.bool = _
  rw [show kitB "dict" "tuple" = some false by decide +kernel]
  rfl
theorem inst_list_dict_ : instF "list" (.dict []) = some (.bool false) := by
  show (kitB "dict" "list").map PyData.bool = _
  rw [show kitB "dict" "list" = some false by decide +kernel]
  rfl
theorem isNF_dict {l : List (PyData × PyData)} : isNF (.dict l) .none = some (.bool false) := rfl
/-! a try's suite -/
def sufQ (i : Nat) (Q : Fl → Prop) : Fl → Prop
  | .nx Γ => Q (.nx (Γ.set i none))
  | .rt t Γ => Q (.rt t Γ)
  | _ => False
def kSQ (i : Nat) (tbl : List Str) (ms : MS) (Q : Fl → Prop) : Fl → Prop
  | .ex c Γ => c ∈ tbl ∧ i < Γ.length ∧ wpS ms (Γ.set i (some (.frz (excD c)))) (sufQ i Q)
  | .nx Γ => Q (.nx Γ)
  | .bk Γ => Q (.bk Γ)
  | .ct Γ => Q (.ct Γ)
  | .rt t Γ => Q (.rt t Γ)
theorem onO_iff {α : Type} {o : Option α} {Q : α → Prop} : onO o Q ↔ ∃ a, o = some a ∧ Q a := Iff.rfl
theorem wp_mTryS {i : Nat} {tbl : List Str} {mb ms : MS} {Q : Fl → Prop} (h : wpS mb Γ (kSQ i tbl ms Q)) : wpS (mTryS i tbl mb ms) Γ Q := by
  obtain ⟨r, e, h⟩ := h
  unfold wpS mTryS
  rw [e]
  cases r with
  | ex c Γ' =>
    obtain ⟨h1, h2, r2, e2, h3⟩ := h
    show onO (if c ∈ tbl ∧ i < Γ'.length then _ else none) Q
    rw [if_pos ⟨h1, h2⟩, e2]
    cases r2 with
    | nx Γ2 => exact ⟨_, rfl, h3⟩
    | rt t Γ2 => exact ⟨_, rfl, h3⟩
    | bk Γ2 => exact h3.elim
    | ct Γ2 => exact h3.elim
    | ex c2 Γ2 => exact h3.elim
  | nx Γ' => exact ⟨_, rfl, h⟩
  | bk Γ' => exact ⟨_, rfl, h⟩
  | ct Γ' => exact ⟨_, rfl, h⟩
  | rt t Γ' => exact ⟨_, rfl, h⟩
theorem kSQ_nx {i : Nat} {tbl : List Str} {ms : MS} {Q : Fl → Prop} : kSQ i tbl ms Q (.nx Γ) = Q (.nx Γ) := rfl
theorem kSQ_rt {i : Nat} {tbl : List Str} {ms : MS} {t : T} {Q : Fl → Prop} : kSQ i tbl ms Q (.rt t Γ) = Q (.rt t Γ) := rfl
theorem kSQ_ex {i : Nat} {tbl : List Str} {ms : MS} {c : Str} {Q : Fl → Prop} : kSQ i tbl ms Q (.ex c Γ) = (c ∈ tbl ∧ i < Γ.length ∧ wpS ms (Γ.set i (some (.frz (excD c)))) (sufQ i Q)) := rfl
theorem sufQ_nx {i : Nat} {Q : Fl → Prop} : sufQ i Q (.nx Γ) = Q (.nx (Γ.set i none)) := rfl
theorem sufQ_rt {i : Nat} {t : T} {Q : Fl → Prop} : sufQ i Q (.rt t Γ) = Q (.rt t Γ) := rfl
end
end TW

/-! reasoning: list.index, list.count, dict.get with a default, range downwards -/
namespace TW
open PySem PySem.Spec L2
section
variable {Γ : G} {i : Nat}
theorem wp_mLdM {f : OpF} {mo m : M PyData} {Q : Rs PyData → Prop} : wpM (mLdM f mo m) Γ Q = wpM mo Γ (bQ (ldM f m) Q) := wp_bM
theorem wp_ldM {f : OpF} {m : M PyData} {ds : List PyData} {Q : Rs PyData → Prop} : wpM (ldM f m (.list ds)) Γ Q = wpM m Γ (bQ (fun d => oM (f (.list ds) d)) Q) := wp_bM
theorem wp_mRng3 {m : M (List PyData)} {Q : Rs (List PyData) → Prop} : wpM (mRng3 m) Γ Q = wpM m Γ (bQ (fun ds => oM (rng3F ds)) Q) := wp_bM
theorem rng3F_int {i j c : Int} : rng3F [.int i, .int j, .int c] = if c = -1 ∧ -(2 ^ 62) ≤ i ∧ i < 2 ^ 62 ∧ -(2 ^ 62) ≤ j ∧ j < 2 ^ 62 then some (downto i (i - j).toNat) else none := rfl
theorem wp_mDGet2 {mk m : M PyData} {Q : Rs PyData → Prop} : wpM (mDGet2 i mk m) Γ Q = atV i Γ (isDx (wpM mk Γ (bQ (fun kd => bM m (dget2K i kd)) Q))) := by
  unfold atV
  rw [getD_eq]
  show onO (match Γ[i]? with
    | some (some t) => if isDc t = true then bM mk (fun kd => bM m (dget2K i kd)) Γ else none
    | _ => none) Q = _
  cases q : Γ[i]? with
  | none => exact onO_none.trans onO_none.symm
  | some o =>
    cases o with
    | none => exact onO_none.trans onO_none.symm
    | some t =>
      show _ = onO (some t) _
      rw [onO_some]
      cases t with
      | dct _ => exact wp_bM
      | dtp _ => exact wp_bM
      | _ => exact onO_none
def dget2QT (Γ : G) (ds : List PyData) (d : PyData) (Q : Rs PyData → Prop) : T → Prop
  | .dtp kvs => onO (keysD ds) fun k => Q (.ok ((valD kvs k).getD d) Γ)
  | _ => False
theorem dget2QT_dtp {ds : List PyData} {d : PyData} {kvs : List (List Key × PyData)} {Q : Rs PyData → Prop} : dget2QT Γ ds d Q (.dtp kvs) = onO (keysD ds) fun k => Q (.ok ((valD kvs k).getD d) Γ) := rfl
theorem wp_dget2KT {ds : List PyData} {d : PyData} {Q : Rs PyData → Prop} : wpM (dget2K i (.tuple ds) d) Γ Q = atV i Γ (dget2QT Γ ds d Q) := by
  unfold atV
  rw [getD_eq]
  unfold wpM dget2K
  cases q : Γ[i]? with
  | none => exact onO_none.trans onO_none.symm
  | some o =>
    cases o with
    | none => exact onO_none.trans onO_none.symm
    | some t =>
      show _ = onO (some t) _
      rw [onO_some]
      cases t with
      | dtp kvs =>
        rw [dget2QT_dtp]
        show onO ((keysD ds).map _) Q = _
        cases keysD ds with
        | none => exact onO_none.trans onO_none.symm
        | some k => rw [onO_some, Option.map_some, onO_some]
      | dct kvs => exact onO_none
      | _ => exact onO_none
end
end TW

/-! reasoning: a dict of one entry as a value -/
namespace TW
open PySem PySem.Spec L2
section
variable {Γ : G}
theorem wp_mDct1 {mk m : M PyData} {Q : Rs PyData → Prop} : wpM (mDct1 mk m) Γ Q = wpM (mDisp1 mk m) Γ (bQ (fun t => oM (fzD t)) Q) := wp_bM
theorem fzD_dct {i j : Int} : fzD (.dct [(.inl i, .int j)]) = some (.dict [(.int i, .int j)]) := rfl
theorem inst_int_dc1 {i j : Int} : instF "int" (.dict [(.int i, .int j)]) = some (.bool false) := by
  show (kitB "dict" "int").map PyData.bool = _
  rw [show kitB "dict" "int" = some false by decide +kernel]
  rfl
theorem inst_bool_dc1 {i j : Int} : instF "bool" (.dict [(.int i, .int j)]) = some (.bool false) := by
  show (kitB "dict" "bool").map PyData.bool = _
  rw [show kitB "dict" "bool" = some false by decide +kernel]
  rfl
end
end TW

/-! reasoning: sorted(set(a) | set(b)) -/
namespace TW
open PySem PySem.Spec L2
section
variable {Γ : G}
theorem wp_mSort2 {f : List Int → List Int → List Int} {ma mb : M PyData} {Q : Rs T → Prop} : wpM (mSort2 f ma mb) Γ Q = wpM ma Γ (bQ (fun d => bM (oM (rowS d)) fun xs => bM mb fun e => bM (oM (rowS e)) fun ys => oM ((row2F f xs ys).map fun zs => .lst ((zs.map PyData.int).map .frz))) Q) := wp_bM
theorem ints_all : ∀ l : List Int, intsF (l.map .int) = some l
  | [] => rfl
  | x :: l => by
    show (intsF (l.map .int)).map (x :: ·) = _
    rw [ints_all l]
    rfl
theorem rowS_tup {l : List Int} (h : l.length ≤ 120) : rowS (.tuple (l.map .int)) = some l := by
  have e : rowI (.tuple (l.map .int)) = some l := ints_all l
  unfold rowS
  rw [e]
  exact if_pos h
theorem rowS_lst {l : List Int} (h : l.length ≤ 120) : rowS (.list (l.map .int)) = some l := by
  have e : rowI (.list (l.map .int)) = some l := ints_all l
  unfold rowS
  rw [e]
  exact if_pos h
end
end TW

namespace TW
open PySem PySem.Spec PyProof.Rows L2
variable {Γ : G}
theorem wp_mDictZip {ma mb : M PyData} {Q : Rs T → Prop} : wpM (mDictZip ma mb) Γ Q = wpM ma Γ (bQ (fun d => bM mb fun e => oM (dictZF d e)) Q) := wp_bM
theorem dictZF_lt {ds es : List PyData} : dictZF (.list ds) (.tuple es) = (keysD ds).map fun ks => .dct (mergeZD [] (ks.zip es)) := rfl
theorem keysD_nats : ∀ l : List Nat, keysD (l.map fun (x : Nat) => PyData.int (x : Int)) = some (l.map fun (x : Nat) => (.inl (x : Int) : L2.Key))
  | [] => rfl
  | x :: l => by rw [List.map_cons]; unfold keysD keyD; rw [keysD_nats l]; rfl
end TW

namespace TW
open PySem PySem.Spec PyProof.Rows L2
variable {Γ : G} {Q : Rs PyData → Prop}
theorem wp_mStM {f : OpF} {mo m : M PyData} : wpM (mStM f mo m) Γ Q = wpM mo Γ (bQ (stM f m) Q) := wp_bM
theorem wp_stM {f : OpF} {m : M PyData} {a : Str} : wpM (stM f m (.str a)) Γ Q = wpM m Γ (bQ (fun d => oM (f (.str a) d)) Q) := wp_bM
theorem wp_mJs0 {acc : Str} : wpM (mJs [] acc) Γ Q = Q (.ok (.str acc) Γ) := onO_some
theorem wp_mJs1 {m : M PyData} {ms : List (M PyData)} {acc : Str} : wpM (mJs (m :: ms) acc) Γ Q = wpM m Γ (bQ (catK (mJs ms) acc) Q) := wp_bM
theorem wp_catK {k : Str → M PyData} {acc y : Str} : wpM (catK k acc (.str y)) Γ Q = ((acc ++ y).length ≤ sizeLine ∧ wpM (k (acc ++ y)) Γ Q) := by
  unfold catK catO
  by_cases h : (acc ++ y).length ≤ sizeLine
  · simp only [if_pos h]
    exact propext ⟨fun z => ⟨h, z⟩, fun z => z.2⟩
  · simp only [if_neg h]
    exact propext ⟨fun z => (by obtain ⟨_, e, _⟩ := z; cases e), fun z => absurd z.1 h⟩
theorem wp_mItS {m : M PyData} {R : Rs (List PyData) → Prop} : wpM (mItS m) Γ R = wpM m Γ (bQ (fun d => oM (signsF d)) R) := wp_bM
end TW

namespace Lw
open PySem PySem.Spec L2 TW
open PyProof.Rows (envOfC)
def top (i : Nat) : Stmt := PySem.Challenge.pw_thinways_k86_webs_written.main.body.getD i (.Pass ⟨0, 0, 0, 0⟩)
abbrev s__law_pot : Stmt := top 19
def b__law_pot : MS := (qS (mSet 2 (mT (mC (.int 5))))
  (qS (mWhen (mB (mOp ltxF (mVar 1) (mLen 0))) (mSet 2 (mT (mOp modF (mIxV 0 (mVar 1)) (mOp mulXF (mOp mulXF (mOp powF (mC (.int 10)) (mC (.int 60))) (mOp powF (mC (.int 10)) (mC (.int 60)))) (mOp powF (mC (.int 10)) (mC (.int 60))))))) nS)
  (qS (mSet 3 (mT (mOp ixF (mF (mLst (mCons (mC (.int 2147483629)) (mCons (mC (.int 2147483587)) (mCons (mC (.int 2147483579)) (mCons (mC (.int 2147483563)) (mCons (mC (.int 2147483549)) mNil))))))) (mOp modF (mVar 1) (mC (.int 5))))))
  (mRet (mLst (mCons (mC2 max2F (mC (.int 0)) (mOp subF (mVar 2) (mOp powF (mC (.int 10)) (mC (.int 18))))) (mCons (mOp modF (mOp powF (mOp addF (mOp addF (mOp modF (mVar 2) (mVar 3)) (mOp mulXF (mC (.int 7919)) (mVar 1))) (mC (.int 11))) (mC (.int 3))) (mC (.int 2147483647))) mNil)))))))
def f__law_pot : MF := mfOf 2 4 [] b__law_pot
abbrev s__law_take : Stmt := top 20
def b__law_take : MS := (qS (mWhen (mB (mOp gtxF (mIxV 0 (mC (.int 0))) (mC (.int 0)))) (qS (mSet 2 (mT (mOp modF (mIxV 0 (mC (.int 0))) (mVar 1))))
  (qS (mSetIx 0 (mOp divF (mIxV 0 (mC (.int 0))) (mVar 1)) (mC (.int 0)))
  (mRet (mT (mVar 2))))) nS)
  (qS (mSetIx 0 (mOp modF (mOp addF (mOp mulXF (mIxV 0 (mC (.int 1))) (mC (.int 48271))) (mC (.int 12820163))) (mC (.int 2147483647))) (mC (.int 1)))
  (mRet (mT (mOp modF (mOp divF (mOp modF (mOp powF (mIxV 0 (mC (.int 1))) (mC (.int 3))) (mC (.int 2147483629))) (mC (.int 8))) (mVar 1))))))
def f__law_take : MF := mfOf 2 3 [0] b__law_take
abbrev s__law_order : Stmt := top 23
def b__law_order : MS := (qS (mSet 2 (mLstR (mRgA1 (mVar 1))))
  (qS (mSet 3 (mLst mNil))
  (qS (mFor (mRng1 (mCons (mVar 1) mNil)) (gN 4) (mDrop (mApp 3 (mT (mPopAt 2 (mF (mCall f__law_take [.own 0, .d (mLen 2)])))))))
  (mRet (mMove 3)))))
def f__law_order : MF := mfOf 2 5 [0] b__law_order
abbrev s__law_tied : Stmt := top 22
def b__law_tied : MS := (qS (mSet 5 (mT (mOrV (mOp eqF (mOp subF (mVar 4) (mVar 3)) (mC (.int 1))) (mOp eqF (mOp subF (mVar 4) (mVar 3)) (mOp subF (mVar 1) (mC (.int 1)))))))
  (qS (mWhen (mB (mOp ltxF (mVar 2) (mC (.int 2)))) (mRet (mT (mOrV (mVar 5) (mAndV (mOp eqF (mVar 2) (mC (.int 1))) (mOp eqF (mF (mCall f__law_take [.own 0, .d (mC (.int 4))])) (mC (.int 0))))))) nS)
  (qS (mWhen (mB (mOp ltxF (mVar 2) (mC (.int 4)))) (mRet (mT (mOp eqF (mOp gtxF (mF (mCall f__law_take [.own 0, .d (mC (.int 3))])) (mC (.int 0))) (mOp eqF (mVar 2) (mC (.int 2)))))) nS)
  (qS (mWhen (mB (mOp eqF (mVar 2) (mC (.int 4)))) (mRet (mT (mOrV (mOp eqF (mOp subF (mVar 4) (mVar 3)) (mC (.int 3))) (mAndV (mOp eqF (mOp subF (mVar 4) (mVar 3)) (mC (.int 1))) (mOp gtxF (mOp modF (mVar 4) (mC (.int 3))) (mC (.int 0))))))) nS)
  (qS (mWhen (mB (mOp ltxF (mVar 2) (mC (.int 7)))) (mRet (mT (mAndV (mOp eqF (mOp eqF (mOp modF (mVar 3) (mC (.int 2))) (mOp modF (mVar 4) (mC (.int 2)))) (mOp eqF (mVar 2) (mC (.int 6)))) (mOp gtxF (mF (mCall f__law_take [.own 0, .d (mC (.int 4))])) (mC (.int 0)))))) nS)
  (mRet (mT (mC (.bool true)))))))))
def f__law_tied : MF := mfOf 5 6 [0] b__law_tied
abbrev s__law_length : Stmt := top 21
def b__law_length : MS := (qS (mWhen (mB (mOp ltxF (mVar 1) (mC (.int 2)))) (mRet (mT (mOp ixF (mF (mLst (mCons (mC (.int 1)) (mCons (mOp addF (mC (.int 1)) (mF (mCall f__law_take [.own 0, .d (mC (.int 3))]))) mNil)))) (mVar 1)))) nS)
  (qS (mWhen (mB (mOp eqF (mVar 1) (mC (.int 2)))) (mRet (mT (mOp addF (mC (.int 1)) (mF (mCall f__law_take [.own 0, .d (mC (.int 50))]))))) nS)
  (qS (mWhen (mB (mOp eqF (mVar 1) (mC (.int 3)))) (mRet (mT (mOp ixF (mF (mLst (mCons (mC (.int 1)) (mCons (mC (.int 2)) (mCons (mC (.int 3)) (mCons (mOp powF (mC (.int 10)) (mC (.int 18))) (mCons (mOp subF (mOp powF (mC (.int 10)) (mC (.int 18))) (mC (.int 1))) (mCons (mOp powF (mC (.int 10)) (mC (.int 17))) mNil)))))))) (mF (mCall f__law_take [.own 0, .d (mC (.int 6))]))))) nS)
  (mRet (mT (mOp addF (mC (.int 1)) (mOp mulXF (mF (mCall f__law_take [.own 0, .d (mOp powF (mC (.int 10)) (mC (.int 9)))])) (mF (mCall f__law_take [.own 0, .d (mOp addF (mOp powF (mC (.int 10)) (mC (.int 9))) (mC (.int 1)))])))))))))
def f__law_length : MF := mfOf 2 2 [0] b__law_length
abbrev s__law_web : Stmt := top 24
def b__law_web : MS := (qS (mSet 2 (mT (mOp addF (mC (.int 1)) (mF (mCall f__law_take [.own 0, .d (mVar 1)])))))
  (qS (mSet 3 (mT (mF (mCall f__law_take [.own 0, .d (mC (.int 8))]))))
  (qS (mSet 4 (mT (mF (mCall f__law_take [.own 0, .d (mC (.int 5))]))))
  (qS (mSet 5 (mT (mF (mCall f__law_order [.own 0, .d (mVar 2)]))))
  (qS (mSet 6 (mLst mNil))
  (qS (mFor (mRng1 (mCons (mVar 2) mNil)) (gN 7) (mFor (mRng1 (mCons (mVar 7) mNil)) (gN 8) (mWhen (mAnd (mB (mF (mCall f__law_tied [.own 0, .d (mVar 2), .d (mVar 3), .d (mVar 8), .d (mVar 7)]))) (mB (mOp ltxF (mLen 6) (mC (.int 60))))) (qS (mAsg (gTu 2 (gC (gN 9) (gC (gN 10) gE))) (mF (mC1T sortF (mF (mLst (mCons (mIxV 5 (mVar 8)) (mCons (mIxV 5 (mVar 7)) mNil)))))))
  (mDrop (mApp 6 (mT (mTup (mCons (mVar 9) (mCons (mVar 10) (mCons (mF (mCall f__law_length [.own 0, .d (mVar 4)])) mNil)))))))) nS)))
  (mRet (mT (mTup (mCons (mVar 2) (mCons (mC1 tupF (mF (mC1T sortF (mPeek 6)))) mNil)))))))))))
def f__law_web : MF := mfOf 2 11 [0] b__law_web
abbrev s_web_text : Stmt := top 16
def b_web_text : MS := (qS (mAsg (gTu 2 (gC (gN 1) (gC (gN 2) gE))) (mVar 0))
  (mRet (mT (mStM joinF (mC (.str " ")) (mOp addF (mF (mLst (mCons (mC1 strF (mPeek 1)) mNil))) (mF (mComp (mIt (mVar 2)) (gTu 3 (gC (gN 3) (gC (gN 4) (gC (gN 5) gE)))) (pM true) (mT (mJs [(mC1 fmtF (mVar 3)), (mC (.str "-")), (mC1 fmtF (mVar 4)), (mC (.str ":")), (mC1 fmtF (mVar 5))] Str.empty)) [3, 4, 5])))))))
def f_web_text : MF := mfOf 1 6 [] b_web_text
abbrev s_is_number : Stmt := top 13
def b_is_number : MS := (qS (mWhen (mOr (mB (mOp eqF (mVar 0) (mC (.str "")))) (mOr (mB (mOp gtxF (mLen 0) (mC (.int 60)))) (mNot (mB (mC1 allF (mF (mComp (mItS (mVar 0)) (gN 1) (pM true) (mT (mOp inSF (mVar 1) (mC (.str "0123456789")))) [1]))))))) (mRet (mT (mC (.bool false)))) nS)
  (mRet (mT (mOrV (mOp eqF (mVar 0) (mC (.str "0"))) (mOp neF (mIxV 0 (mC (.int 0))) (mC (.str "0")))))))
def f_is_number : MF := mfOf 1 2 [] b_is_number
abbrev s_number_in : Stmt := top 14
def b_number_in : MS := (qS (mWhen (mNot (mB (mF (mCall f_is_number [.d (mVar 0)])))) (fun Γ => some (.ex "NoText" Γ)) nS)
  (mRet (mT (mC1 intSF (mPeek 0)))))
def f_number_in : MF := mfOf 1 1 [] b_number_in
abbrev s_is_whole : Stmt := top 7
def b_is_whole : MS := (mRet (mT (mAndV (mC1 (instF "int") (mVar 0)) (mNotV (mC1 (instF "bool") (mVar 0))))))
def f_is_whole : MF := mfOf 1 1 [] b_is_whole
abbrev s_is_tie : Stmt := top 8
def b_is_tie : MS := (qS (mWhen (mOr (mNot (mB (mC1 (instF "tuple") (mVar 1)))) (mOr (mB (mOp neF (mLen 1) (mC (.int 3)))) (mNot (mB (mC1 allF (mF (mComp (mIt (mVar 1)) (gN 5) (pM true) (mCall f_is_whole [.d (mVar 5)]) [5]))))))) (mRet (mT (mC (.bool false)))) nS)
  (qS (mAsg (gTu 3 (gC (gN 2) (gC (gN 3) (gC (gN 4) gE)))) (mVar 1))
  (mRet (mT (mAndV (mChain3 lexF ltxF ltxF (mC (.int 0)) (mVar 2) (mVar 3) (mVar 0)) (mChain lexF lexF (mC (.int 1)) (mVar 4) (mC (.int 1000000000000000000))))))))
def f_is_tie : MF := mfOf 2 6 [] b_is_tie
abbrev s_is_web : Stmt := top 9
def b_is_web : MS := (qS (mWhen (mOr (mNot (mB (mC1 (instF "tuple") (mVar 0)))) (mB (mOp neF (mLen 0) (mC (.int 2))))) (mRet (mT (mC (.bool false)))) nS)
  (qS (mAsg (gTu 2 (gC (gN 1) (gC (gN 2) gE))) (mVar 0))
  (qS (mWhen (mOr (mNot (mB (mF (mCall f_is_whole [.d (mVar 1)])))) (mOr (mNot (mB (mChain lexF lexF (mC (.int 1)) (mVar 1) (mC (.int 24))))) (mOr (mNot (mB (mC1 (instF "tuple") (mVar 2)))) (mB (mOp gtxF (mLen 2) (mC (.int 60))))))) (mRet (mT (mC (.bool false)))) nS)
  (qS (mWhen (mNot (mB (mC1 allF (mF (mComp (mIt (mVar 2)) (gN 5) (pM true) (mCall f_is_tie [.d (mVar 1), .d (mVar 5)]) [5]))))) (mRet (mT (mC (.bool false)))) nS)
  (mRet (mT (mC1 allF (mF (mComp (mZip3 (mVar 2) (mSlice (mVar 2) (mSome (mC (.int 1))) mNone)) (gTu 2 (gC (gN 3) (gC (gN 4) gE))) (pM true) (mT (mOp ltxF (mSlice (mVar 3) mNone (mSome (mC (.int 2)))) (mSlice (mVar 4) mNone (mSome (mC (.int 2)))))) [3, 4])))))))))
def f_is_web : MF := mfOf 1 6 [] b_is_web
abbrev s_tie_in : Stmt := top 15
def b_tie_in : MS := (qS (mAsg (gTu 3 (gC (gN 1) (gC (gN 2) (gC (gN 3) gE)))) (mStM partF (mVar 0) (mC (.str "-"))))
  (qS (mAsg (gTu 3 (gC (gN 4) (gC (gN 5) (gC (gN 6) gE)))) (mStM partF (mVar 3) (mC (.str ":"))))
  (qS (mWhen (mOr (mB (mOp eqF (mVar 2) (mC (.str "")))) (mB (mOp eqF (mVar 5) (mC (.str ""))))) (fun Γ => some (.ex "NoText" Γ)) nS)
  (mRet (mT (mTup (mCons (mF (mCall f_number_in [.d (mVar 1)])) (mCons (mF (mCall f_number_in [.d (mVar 4)])) (mCons (mF (mCall f_number_in [.d (mVar 6)])) mNil)))))))))
def f_tie_in : MF := mfOf 1 7 [] b_tie_in
abbrev s_read_web : Stmt := top 17
def b_read_web : MS := (qS (mWhen (mNot (mB (mC1 (instF "str") (mVar 0)))) (fun Γ => some (.ex "NoText" Γ)) nS)
  (qS (mSet 1 (mT (mStM splitF (mVar 0) (mC (.str " ")))))
  (qS (mSet 2 (mT (mTup (mCons (mF (mCall f_number_in [.d (mIxV 1 (mC (.int 0)))])) (mCons (mC1 tupF (mF (mComp (mIt (mSlice (mVar 1) (mSome (mC (.int 1))) mNone)) (gN 3) (pM true) (mCall f_tie_in [.d (mVar 3)]) [3]))) mNil)))))
  (qS (mWhen (mNot (mB (mF (mCall f_is_web [.d (mVar 2)])))) (fun Γ => some (.ex "NoText" Γ)) nS)
  (mRet (mT (mVar 2)))))))
def f_read_web : MF := mfOf 1 4 [] b_read_web
abbrev s__law_written : Stmt := top 27
def b__law_written : MS := (qS (mSet 1 (mT (mC1 strF (mIxV 0 (mC (.int 0))))))
  (qS (mFor (mIt (mIxV 0 (mC (.int 1)))) (gTu 3 (gC (gN 2) (gC (gN 3) (gC (gN 4) gE)))) (mSet 1 (mT (mOp addF (mOp addF (mOp addF (mOp addF (mOp addF (mOp addF (mVar 1) (mC (.str " "))) (mC1 strF (mPeek 2))) (mC (.str "-"))) (mC1 strF (mPeek 3))) (mC (.str ":"))) (mC1 strF (mPeek 4))))))
  (mRet (mT (mVar 1)))))
def f__law_written : MF := mfOf 1 5 [] b__law_written
abbrev s__law_whole : Stmt := top 25
def b__law_whole : MS := (mRet (mT (mAndV (mC1 (instF "int") (mVar 0)) (mNotV (mC1 (instF "bool") (mVar 0))))))
def f__law_whole : MF := mfOf 1 1 [] b__law_whole
abbrev s__law_same : Stmt := top 26
def b__law_same (r : MF) : MS := (qS (mWhen (mB (mC1 (instF "tuple") (mVar 1))) (qS (mWhen (mOr (mNot (mB (mC1 (instF "tuple") (mVar 0)))) (mB (mOp neF (mLen 0) (mLen 1)))) (mRet (mT (mC (.bool false)))) nS)
  (mRet (mT (mC1 allF (mF (mComp (mZip3 (mVar 0) (mVar 1)) (gTu 2 (gC (gN 2) (gC (gN 3) gE))) (pM true) (mCall r [.d (mVar 2), .d (mVar 3)]) [2, 3])))))) nS)
  (qS (mWhen (mOr (mB (mOp isNF (mVar 1) (mC .none))) (mB (mC1 (instF "str") (mVar 1)))) (mRet (mT (mAndV (mOp eqF (mVar 0) (mVar 1)) (mOrV (mOp isNF (mVar 1) (mC .none)) (mC1 (instF "str") (mVar 0)))))) nS)
  (mRet (mT (mAndV (mF (mCall f__law_whole [.d (mVar 0)])) (mOp eqF (mVar 0) (mVar 1)))))))
def f__law_same : Nat → MF
  | 0 => fun _ => none
  | k + 1 => mfOf 2 4 [] (b__law_same (f__law_same k))
abbrev s_law : Stmt := top 28
def b_law : MS := (qS (mFor (mRng1 (mCons (mC2 max2F (mC (.int 3)) (mC2 min2F (mC (.int 10)) (mLen 0))) mNil)) (gN 1) (qS (mSet 2 (mCall f__law_pot [.cp 0, .d (mVar 1)]))
  (qS (mSet 3 (mT (mF (mCall f__law_web [.own 2, .d (mOp ixF (mF (mLst (mCons (mC (.int 6)) (mCons (mC (.int 12)) (mCons (mC (.int 24)) mNil))))) (mF (mCall f__law_take [.own 2, .d (mC (.int 3))])))]))))
  (qS (mSet 4 (mT (mF (mCall f_web_text [.d (mVar 3)]))))
  (mWhen (mOr (mNot (mB (mC1 (instF "str") (mVar 4)))) (mOr (mB (mOp neF (mVar 4) (mF (mCall f__law_written [.d (mVar 3)])))) (mNot (mB (mF (mCall (f__law_same 8) [.d (mF (mCall f_read_web [.d (mVar 4)])), .d (mVar 3)])))))) (mRet (mT (mC (.bool false)))) nS)))))
  (mRet (mT (mAndV (mOp eqF (mF (mCall f_read_web [.d (mC (.str "1"))])) (mTup (mCons (mC (.int 1)) (mCons (mTup mNil) mNil)))) (mOp eqF (mF (mCall f_read_web [.d (mC (.str "24 0-23:1000000000000000000"))])) (mTup (mCons (mC (.int 24)) (mCons (mTup (mCons (mTup (mCons (mC (.int 0)) (mCons (mC (.int 23)) (mCons (mOp powF (mC (.int 10)) (mC (.int 18))) mNil)))) mNil)) mNil))))))))
def f_law : MF := mfOf 1 5 [] b_law
structure Top (K : PySem.W.Frag) (mg : Str → Option Value) : Prop where
  all : mg "all" = none
  bool : mg "bool" = none
  c_FIGURES : ∃ t, mg "FIGURES" = some (.str "0123456789" t)
  c_LONGEST : ∃ t, mg "LONGEST" = some (.int 1000000000000000000 t)
  c_MOST_FIGURES : ∃ t, mg "MOST_FIGURES" = some (.int 60 t)
  c_MOST_PLACES : ∃ t, mg "MOST_PLACES" = some (.int 24 t)
  c_MOST_TIES : ∃ t, mg "MOST_TIES" = some (.int 60 t)
  int : mg "int" = none
  isinstance : mg "isinstance" = none
  len_ : mg "len" = none
  list : mg "list" = none
  max : mg "max" = none
  min : mg "min" = none
  range : mg "range" = none
  sorted : mg "sorted" = none
  str : mg "str" = none
  tuple : mg "tuple" = none
  g_NoText : mg "NoText" = some (.ref (He.ga K "NoText"))
  x_NoText : PySem.W.excIn K (He.ga K "NoText") He.veBase "ValueError.__new__" = true ∧ PySem.W.keepIn K (.ref (He.ga K "NoText")) = true ∧ PySem.W.subIn K (.ref (He.ga K "NoText")) (.type "BaseException") = some true ∧ PySem.W.typeIn K (.ref (He.ga K "NoText")) = some (.type "type")
  zip : mg "zip" = none
section
variable {P : Program} {w : World} {K : PySem.W.Frag} {mg : Str → Option Value} {base : Heap}
theorem sc__law_pot : FnScope ["script", "k", "cell", "prime"] ["script", "k"] (defScope s__law_pot) := ⟨rfl, rfl, rfl, by decide +kernel, rfl, by decide +kernel, by decide +kernel⟩
theorem ok__law_pot {f : Addr} {fd : FuncData} (T : Top K mg) (F : FunD K "_law_pot" "_law_pot" (defArgs s__law_pot) (defBody s__law_pot) (defScope s__law_pot) [] [] f fd) (hm : mg "_law_pot" = some (.ref f)) : Fn P w K mg base "_law_pot" 2 1 f__law_pot := by
  have hb : Binds K fd ["script", "k"] [] := F.bindsN fun _ _ _ _ _ _ us hl => match us, hl with | [_, _], _ => rfl
  refine ⟨f, fd, ["script", "k"], fn_ok (N := ["script", "k", "cell", "prime"]) [] F sc__law_pot (by decide) (fun cdv A outer s H E hr => ?_), hm, F.kp, hb⟩
  have hu : (cxOf (L2.CX P w) P w K mg base ["script", "k", "cell", "prime"] "_law_pot" (defScope s__law_pot) f cdv A outer s H E).A.units + 65 < cLine := by have := hr.un; simp only [cxOf]; omega
  have tk := takes_cx (P := P) (w := w) (K := K) (mg := mg) (base := base) (N := ["script", "k", "cell", "prime"]) (qual := "_law_pot") (scope := defScope s__law_pot) (f := f) (cdv := cdv) (A := A) (outer := outer) (s := s) (H := H) (E := E)
  have hp := own_cx (P := P) (w := w) (K := K) (mg := mg) (base := base) (N := ["script", "k", "cell", "prime"]) (qual := "_law_pot") (scope := defScope s__law_pot) (f := f) (cdv := cdv) (A := A) (outer := outer) (s := s) (H := H) (E := E)
  have hnd := (sc__law_pot).nd
  unfold b__law_pot
  exact (vss_cons (vs_set 2 hnd (vt_of vd_int))
      (vss_cons (vs_if (vb_cmp (od_ltx hu) (vd_var 1) (vd_len 0 T.len_)) (vss_one (vs_set 2 hnd (vt_of (vd_op od_mod (vd_ixV 0 (vd_var 1)) (vd_op od_mulX (vd_op od_mulX (vd_op od_pow vd_int vd_int) (vd_op od_pow vd_int vd_int)) (vd_op od_pow vd_int vd_int)))))) vss_nil)
      (vss_cons (vs_set 3 hnd (vt_of (vd_ix (vd_of (vt_lst (vs_cons vd_int (vs_cons vd_int (vs_cons vd_int (vs_cons vd_int (vs_cons vd_int vs_nil))))))) (vd_op od_mod (vd_var 1) vd_int))))
      (vss_one (vs_ret (vt_lst (vs_cons (vd_c2B (c_max2 rfl) T.max (by decide +kernel) vd_int (vd_op od_sub (vd_var 2) (vd_op od_pow vd_int vd_int))) (vs_cons (vd_op od_mod (vd_op od_pow (vd_op od_add (vd_op od_add (vd_op od_mod (vd_var 2) (vd_var 3)) (vd_op od_mulX vd_int (vd_var 1))) vd_int) vd_int) vd_int) vs_nil))))))))
theorem sc__law_take : FnScope ["pot", "many", "found"] ["pot", "many"] (defScope s__law_take) := ⟨rfl, rfl, rfl, by decide +kernel, rfl, by decide +kernel, by decide +kernel⟩
theorem ok__law_take {f : Addr} {fd : FuncData} (T : Top K mg) (F : FunD K "_law_take" "_law_take" (defArgs s__law_take) (defBody s__law_take) (defScope s__law_take) [] [] f fd) (hm : mg "_law_take" = some (.ref f)) : Fn P w K mg base "_law_take" 2 1 f__law_take := by
  have hb : Binds K fd ["pot", "many"] [] := F.bindsN fun _ _ _ _ _ _ us hl => match us, hl with | [_, _], _ => rfl
  refine ⟨f, fd, ["pot", "many"], fn_ok (N := ["pot", "many", "found"]) [0] F sc__law_take (by decide) (fun cdv A outer s H E hr => ?_), hm, F.kp, hb⟩
  have hu : (cxOf (L2.CX P w) P w K mg base ["pot", "many", "found"] "_law_take" (defScope s__law_take) f cdv A outer s H E).A.units + 65 < cLine := by have := hr.un; simp only [cxOf]; omega
  have tk := takes_cx (P := P) (w := w) (K := K) (mg := mg) (base := base) (N := ["pot", "many", "found"]) (qual := "_law_take") (scope := defScope s__law_take) (f := f) (cdv := cdv) (A := A) (outer := outer) (s := s) (H := H) (E := E)
  have hp := own_cx (P := P) (w := w) (K := K) (mg := mg) (base := base) (N := ["pot", "many", "found"]) (qual := "_law_take") (scope := defScope s__law_take) (f := f) (cdv := cdv) (A := A) (outer := outer) (s := s) (H := H) (E := E)
  have hnd := (sc__law_take).nd
  unfold b__law_take
  exact (vss_cons (vs_if (vb_cmp (od_gtx hu) (vd_ixV 0 vd_int) vd_int) (vss_cons (vs_set 2 hnd (vt_of (vd_op od_mod (vd_ixV 0 vd_int) (vd_var 1))))
      (vss_cons (vs_setIx 0 (vd_op od_div (vd_ixV 0 vd_int) (vd_var 1)) vd_int)
      (vss_one (vs_ret (vt_of (vd_var 2)))))) vss_nil)
      (vss_cons (vs_setIx 0 (vd_op od_mod (vd_op od_add (vd_op od_mulX (vd_ixV 0 vd_int) vd_int) vd_int) vd_int) vd_int)
      (vss_one (vs_ret (vt_of (vd_op od_mod (vd_op od_div (vd_op od_mod (vd_op od_pow (vd_ixV 0 vd_int) vd_int) vd_int) vd_int) (vd_var 1)))))))
theorem sc__law_order : FnScope ["pot", "many", "left", "found", "turn"] ["pot", "many"] (defScope s__law_order) := ⟨rfl, rfl, rfl, by decide +kernel, rfl, by decide +kernel, by decide +kernel⟩
theorem ok__law_order {f : Addr} {fd : FuncData} (T : Top K mg) (g__law_take : Fn P w K mg base "_law_take" 2 1 f__law_take) (F : FunD K "_law_order" "_law_order" (defArgs s__law_order) (defBody s__law_order) (defScope s__law_order) [] [] f fd) (hm : mg "_law_order" = some (.ref f)) : Fn P w K mg base "_law_order" 2 2 f__law_order := by
  have hb : Binds K fd ["pot", "many"] [] := F.bindsN fun _ _ _ _ _ _ us hl => match us, hl with | [_, _], _ => rfl
  refine ⟨f, fd, ["pot", "many"], fn_ok (N := ["pot", "many", "left", "found", "turn"]) [0] F sc__law_order (by decide) (fun cdv A outer s H E hr => ?_), hm, F.kp, hb⟩
  have hu : (cxOf (L2.CX P w) P w K mg base ["pot", "many", "left", "found", "turn"] "_law_order" (defScope s__law_order) f cdv A outer s H E).A.units + 65 < cLine := by have := hr.un; simp only [cxOf]; omega
  have tk := takes_cx (P := P) (w := w) (K := K) (mg := mg) (base := base) (N := ["pot", "many", "left", "found", "turn"]) (qual := "_law_order") (scope := defScope s__law_order) (f := f) (cdv := cdv) (A := A) (outer := outer) (s := s) (H := H) (E := E)
  have hp := own_cx (P := P) (w := w) (K := K) (mg := mg) (base := base) (N := ["pot", "many", "left", "found", "turn"]) (qual := "_law_order") (scope := defScope s__law_order) (f := f) (cdv := cdv) (A := A) (outer := outer) (s := s) (H := H) (E := E)
  have hnd := (sc__law_order).nd
  unfold b__law_order
  exact (vss_cons (vs_set 2 hnd (vt_listRg rfl T.list (vr_1 T.range (vd_var 1))))
      (vss_cons (vs_set 3 hnd (vt_lst vs_nil))
      (vss_cons (vs_for hp rfl (vi_range1 T.range (vs_cons (vd_var 1) vs_nil)) (vg_name 4 hnd) (vss_one (vs_expr (vt_append 3 (vt_of (vd_popAt 2 (vd_of (vt_fn g__law_take hr (by decide) tk (va_own 0 (va_d (vd_len 2 T.len_) va_nil))))))))))
      (vss_one (vs_ret (vt_move 3))))))
theorem sc__law_tied : FnScope ["pot", "n", "style", "a", "b", "beside"] ["pot", "n", "style", "a", "b"] (defScope s__law_tied) := ⟨rfl, rfl, rfl, by decide +kernel, rfl, by decide +kernel, by decide +kernel⟩
theorem ok__law_tied {f : Addr} {fd : FuncData} (T : Top K mg) (g__law_take : Fn P w K mg base "_law_take" 2 1 f__law_take) (F : FunD K "_law_tied" "_law_tied" (defArgs s__law_tied) (defBody s__law_tied) (defScope s__law_tied) [] [] f fd) (hm : mg "_law_tied" = some (.ref f)) : Fn P w K mg base "_law_tied" 5 2 f__law_tied := by
  have hb : Binds K fd ["pot", "n", "style", "a", "b"] [] := F.bindsN fun _ _ _ _ _ _ us hl => match us, hl with | [_, _, _, _, _], _ => rfl
  refine ⟨f, fd, ["pot", "n", "style", "a", "b"], fn_ok (N := ["pot", "n", "style", "a", "b", "beside"]) [0] F sc__law_tied (by decide) (fun cdv A outer s H E hr => ?_), hm, F.kp, hb⟩
  have hu : (cxOf (L2.CX P w) P w K mg base ["pot", "n", "style", "a", "b", "beside"] "_law_tied" (defScope s__law_tied) f cdv A outer s H E).A.units + 65 < cLine := by have := hr.un; simp only [cxOf]; omega
  have tk := takes_cx (P := P) (w := w) (K := K) (mg := mg) (base := base) (N := ["pot", "n", "style", "a", "b", "beside"]) (qual := "_law_tied") (scope := defScope s__law_tied) (f := f) (cdv := cdv) (A := A) (outer := outer) (s := s) (H := H) (E := E)
  have hp := own_cx (P := P) (w := w) (K := K) (mg := mg) (base := base) (N := ["pot", "n", "style", "a", "b", "beside"]) (qual := "_law_tied") (scope := defScope s__law_tied) (f := f) (cdv := cdv) (A := A) (outer := outer) (s := s) (H := H) (E := E)
  have hnd := (sc__law_tied).nd
  unfold b__law_tied
  exact (vss_cons (vs_set 5 hnd (vt_of (vd_or (vd_cmp (od_eq hu) (vd_op od_sub (vd_var 4) (vd_var 3)) vd_int) (vd_one (vd_cmp (od_eq hu) (vd_op od_sub (vd_var 4) (vd_var 3)) (vd_op od_sub (vd_var 1) vd_int))))))
      (vss_cons (vs_if (vb_cmp (od_ltx hu) (vd_var 2) vd_int) (vss_one (vs_ret (vt_of (vd_or (vd_var 5) (vd_one (vd_and (vd_cmp (od_eq hu) (vd_var 2) vd_int) (vd_one (vd_cmp (od_eq hu) (vd_of (vt_fn g__law_take hr (by decide) tk (va_own 0 (va_d vd_int va_nil)))) vd_int)))))))) vss_nil)
      (vss_cons (vs_if (vb_cmp (od_ltx hu) (vd_var 2) vd_int) (vss_one (vs_ret (vt_of (vd_cmp (od_eq hu) (vd_cmp (od_gtx hu) (vd_of (vt_fn g__law_take hr (by decide) tk (va_own 0 (va_d vd_int va_nil)))) vd_int) (vd_cmp (od_eq hu) (vd_var 2) vd_int))))) vss_nil)
      (vss_cons (vs_if (vb_cmp (od_eq hu) (vd_var 2) vd_int) (vss_one (vs_ret (vt_of (vd_or (vd_cmp (od_eq hu) (vd_op od_sub (vd_var 4) (vd_var 3)) vd_int) (vd_one (vd_and (vd_cmp (od_eq hu) (vd_op od_sub (vd_var 4) (vd_var 3)) vd_int) (vd_one (vd_cmp (od_gtx hu) (vd_op od_mod (vd_var 4) vd_int) vd_int)))))))) vss_nil)
      (vss_cons (vs_if (vb_cmp (od_ltx hu) (vd_var 2) vd_int) (vss_one (vs_ret (vt_of (vd_and (vd_cmp (od_eq hu) (vd_cmp (od_eq hu) (vd_op od_mod (vd_var 3) vd_int) (vd_op od_mod (vd_var 4) vd_int)) (vd_cmp (od_eq hu) (vd_var 2) vd_int)) (vd_one (vd_cmp (od_gtx hu) (vd_of (vt_fn g__law_take hr (by decide) tk (va_own 0 (va_d vd_int va_nil)))) vd_int)))))) vss_nil)
      (vss_one (vs_ret (vt_of vd_bl))))))))
theorem sc__law_length : FnScope ["pot", "way"] ["pot", "way"] (defScope s__law_length) := ⟨rfl, rfl, rfl, by decide +kernel, rfl, by decide +kernel, by decide +kernel⟩
theorem ok__law_length {f : Addr} {fd : FuncData} (T : Top K mg) (g__law_take : Fn P w K mg base "_law_take" 2 1 f__law_take) (F : FunD K "_law_length" "_law_length" (defArgs s__law_length) (defBody s__law_length) (defScope s__law_length) [] [] f fd) (hm : mg "_law_length" = some (.ref f)) : Fn P w K mg base "_law_length" 2 2 f__law_length := by
  have hb : Binds K fd ["pot", "way"] [] := F.bindsN fun _ _ _ _ _ _ us hl => match us, hl with | [_, _], _ => rfl
  refine ⟨f, fd, ["pot", "way"], fn_ok (N := ["pot", "way"]) [0] F sc__law_length (by decide) (fun cdv A outer s H E hr => ?_), hm, F.kp, hb⟩
  have hu : (cxOf (L2.CX P w) P w K mg base ["pot", "way"] "_law_length" (defScope s__law_length) f cdv A outer s H E).A.units + 65 < cLine := by have := hr.un; simp only [cxOf]; omega
  have tk := takes_cx (P := P) (w := w) (K := K) (mg := mg) (base := base) (N := ["pot", "way"]) (qual := "_law_length") (scope := defScope s__law_length) (f := f) (cdv := cdv) (A := A) (outer := outer) (s := s) (H := H) (E := E)
  have hp := own_cx (P := P) (w := w) (K := K) (mg := mg) (base := base) (N := ["pot", "way"]) (qual := "_law_length") (scope := defScope s__law_length) (f := f) (cdv := cdv) (A := A) (outer := outer) (s := s) (H := H) (E := E)
  have hnd := (sc__law_length).nd
  unfold b__law_length
  exact (vss_cons (vs_if (vb_cmp (od_ltx hu) (vd_var 1) vd_int) (vss_one (vs_ret (vt_of (vd_ix (vd_of (vt_lst (vs_cons vd_int (vs_cons (vd_op od_add vd_int (vd_of (vt_fn g__law_take hr (by decide) tk (va_own 0 (va_d vd_int va_nil))))) vs_nil)))) (vd_var 1))))) vss_nil)
      (vss_cons (vs_if (vb_cmp (od_eq hu) (vd_var 1) vd_int) (vss_one (vs_ret (vt_of (vd_op od_add vd_int (vd_of (vt_fn g__law_take hr (by decide) tk (va_own 0 (va_d vd_int va_nil)))))))) vss_nil)
      (vss_cons (vs_if (vb_cmp (od_eq hu) (vd_var 1) vd_int) (vss_one (vs_ret (vt_of (vd_ix (vd_of (vt_lst (vs_cons vd_int (vs_cons vd_int (vs_cons vd_int (vs_cons (vd_op od_pow vd_int vd_int) (vs_cons (vd_op od_sub (vd_op od_pow vd_int vd_int) vd_int) (vs_cons (vd_op od_pow vd_int vd_int) vs_nil)))))))) (vd_of (vt_fn g__law_take hr (by decide) tk (va_own 0 (va_d vd_int va_nil)))))))) vss_nil)
      (vss_one (vs_ret (vt_of (vd_op od_add vd_int (vd_op od_mulX (vd_of (vt_fn g__law_take hr (by decide) tk (va_own 0 (va_d (vd_op od_pow vd_int vd_int) va_nil)))) (vd_of (vt_fn g__law_take hr (by decide) tk (va_own 0 (va_d (vd_op od_add (vd_op od_pow vd_int vd_int) vd_int) va_nil))))))))))))
theorem sc__law_web : FnScope ["pot", "most", "n", "style", "way", "names", "ties", "b", "a", "one", "other"] ["pot", "most"] (defScope s__law_web) := ⟨rfl, rfl, rfl, by decide +kernel, rfl, by decide +kernel, by decide +kernel⟩
theorem ok__law_web {f : Addr} {fd : FuncData} (T : Top K mg) (g__law_take : Fn P w K mg base "_law_take" 2 1 f__law_take) (g__law_order : Fn P w K mg base "_law_order" 2 2 f__law_order) (g__law_tied : Fn P w K mg base "_law_tied" 5 2 f__law_tied) (g__law_length : Fn P w K mg base "_law_length" 2 2 f__law_length) (F : FunD K "_law_web" "_law_web" (defArgs s__law_web) (defBody s__law_web) (defScope s__law_web) [] [] f fd) (hm : mg "_law_web" = some (.ref f)) : Fn P w K mg base "_law_web" 2 3 f__law_web := by
  have hb : Binds K fd ["pot", "most"] [] := F.bindsN fun _ _ _ _ _ _ us hl => match us, hl with | [_, _], _ => rfl
  refine ⟨f, fd, ["pot", "most"], fn_ok (N := ["pot", "most", "n", "style", "way", "names", "ties", "b", "a", "one", "other"]) [0] F sc__law_web (by decide) (fun cdv A outer s H E hr => ?_), hm, F.kp, hb⟩
  have hu : (cxOf (L2.CX P w) P w K mg base ["pot", "most", "n", "style", "way", "names", "ties", "b", "a", "one", "other"] "_law_web" (defScope s__law_web) f cdv A outer s H E).A.units + 65 < cLine := by have := hr.un; simp only [cxOf]; omega
  have tk := takes_cx (P := P) (w := w) (K := K) (mg := mg) (base := base) (N := ["pot", "most", "n", "style", "way", "names", "ties", "b", "a", "one", "other"]) (qual := "_law_web") (scope := defScope s__law_web) (f := f) (cdv := cdv) (A := A) (outer := outer) (s := s) (H := H) (E := E)
  have hp := own_cx (P := P) (w := w) (K := K) (mg := mg) (base := base) (N := ["pot", "most", "n", "style", "way", "names", "ties", "b", "a", "one", "other"]) (qual := "_law_web") (scope := defScope s__law_web) (f := f) (cdv := cdv) (A := A) (outer := outer) (s := s) (H := H) (E := E)
  have hnd := (sc__law_web).nd
  unfold b__law_web
  exact (vss_cons (vs_set 2 hnd (vt_of (vd_op od_add vd_int (vd_of (vt_fn g__law_take hr (by decide) tk (va_own 0 (va_d (vd_var 1) va_nil)))))))
      (vss_cons (vs_set 3 hnd (vt_of (vd_of (vt_fn g__law_take hr (by decide) tk (va_own 0 (va_d vd_int va_nil))))))
      (vss_cons (vs_set 4 hnd (vt_of (vd_of (vt_fn g__law_take hr (by decide) tk (va_own 0 (va_d vd_int va_nil))))))
      (vss_cons (vs_set 5 hnd (vt_of (vd_of (vt_fn g__law_order hr (by decide) tk (va_own 0 (va_d (vd_var 2) va_nil))))))
      (vss_cons (vs_set 6 hnd (vt_lst vs_nil))
      (vss_cons (vs_for hp rfl (vi_range1 T.range (vs_cons (vd_var 2) vs_nil)) (vg_name 7 hnd) (vss_one (vs_for hp rfl (vi_range1 T.range (vs_cons (vd_var 7) vs_nil)) (vg_name 8 hnd) (vss_one (vs_if (VW.vb (vw_and (vb_val (vd_of (vt_fn g__law_tied hr (by decide) tk (va_own 0 (va_d (vd_var 2) (va_d (vd_var 3) (va_d (vd_var 8) (va_d (vd_var 7) va_nil)))))))) (vw_and1 (vb_cmp (od_ltx hu) (vd_len 6 T.len_) vd_int)))) (vss_cons (vs_asg (vd_of (vt_c1B c_sorted T.sorted (by decide +kernel) (vp_of (vd_of (vt_lst (vs_cons (vd_ixV 5 (vd_var 8)) (vs_cons (vd_ixV 5 (vd_var 7)) vs_nil))))))) (vg_tup (n := 2) rfl (vgs_cons (vg_name 9 hnd) (vgs_cons (vg_name 10 hnd) vgs_nil))))
      (vss_one (vs_expr (vt_append 6 (vt_of (vd_tup (vs_cons (vd_var 9) (vs_cons (vd_var 10) (vs_cons (vd_of (vt_fn g__law_length hr (by decide) tk (va_own 0 (va_d (vd_var 4) va_nil)))) vs_nil))))))))) vss_nil)))))
      (vss_one (vs_ret (vt_of (vd_tup (vs_cons (vd_var 2) (vs_cons (vd_c1Y c_tuple T.tuple (by decide +kernel) (vp_of (vd_of (vt_c1B c_sorted T.sorted (by decide +kernel) (vp_peek 6))))) vs_nil))))))))))))
theorem sc_web_text : FnScope ["web", "n", "ties", "a", "b", "length"] ["web"] (defScope s_web_text) := ⟨rfl, rfl, rfl, by decide +kernel, rfl, by decide +kernel, by decide +kernel⟩
theorem ok_web_text {f : Addr} {fd : FuncData} (T : Top K mg) (F : FunD K "web_text" "web_text" (defArgs s_web_text) (defBody s_web_text) (defScope s_web_text) [] [] f fd) (hm : mg "web_text" = some (.ref f)) : Fn P w K mg base "web_text" 1 1 f_web_text := by
  have hb : Binds K fd ["web"] [] := F.bindsN fun _ _ _ _ _ _ us hl => match us, hl with | [_], _ => rfl
  refine ⟨f, fd, ["web"], fn_ok (N := ["web", "n", "ties", "a", "b", "length"]) [] F sc_web_text (by decide) (fun cdv A outer s H E hr => ?_), hm, F.kp, hb⟩
  have hu : (cxOf (L2.CX P w) P w K mg base ["web", "n", "ties", "a", "b", "length"] "web_text" (defScope s_web_text) f cdv A outer s H E).A.units + 65 < cLine := by have := hr.un; simp only [cxOf]; omega
  have tk := takes_cx (P := P) (w := w) (K := K) (mg := mg) (base := base) (N := ["web", "n", "ties", "a", "b", "length"]) (qual := "web_text") (scope := defScope s_web_text) (f := f) (cdv := cdv) (A := A) (outer := outer) (s := s) (H := H) (E := E)
  have hp := own_cx (P := P) (w := w) (K := K) (mg := mg) (base := base) (N := ["web", "n", "ties", "a", "b", "length"]) (qual := "web_text") (scope := defScope s_web_text) (f := f) (cdv := cdv) (A := A) (outer := outer) (s := s) (H := H) (E := E)
  have hnd := (sc_web_text).nd
  unfold b_web_text
  exact (vss_cons (vs_asg (vd_var 0) (vg_tup (n := 2) rfl (vgs_cons (vg_name 1 hnd) (vgs_cons (vg_name 2 hnd) vgs_nil))))
      (vss_one (vs_ret (vt_of (vd_join vd_str (vd_op od_add (vd_of (vt_lst (vs_cons (vd_c1Y (c_str hr.gu hu) T.str (by decide +kernel) (vp_peek 1)) vs_nil))) (vd_of (vt_lc (own := [("a", 3), ("b", 4), ("length", 5)]) rfl hnd (vi_seq (vd_var 2)) (blkOk_by (own := [("a", 3), ("b", 4), ("length", 5)]) (N := ["web", "n", "ties", "a", "b", "length"]) (sc := defScope s_web_text) (by decide +kernel)) (fun _ _ _ _ _ => (vg_tup (n := 3) rfl (vgs_cons (vg_name 3 hnd (hio := out_not rfl)) (vgs_cons (vg_name 4 hnd (hio := out_not rfl)) (vgs_cons (vg_name 5 hnd (hio := out_not rfl)) vgs_nil))))) (fun _ _ _ _ _ => vts_nil) (fun _ _ _ _ _ => (vt_of (vd_joined (vj_cons (vd_fmt (vd_var 3)) (vj_cons vd_str (vj_cons (vd_fmt (vd_var 4)) (vj_cons vd_str (vj_cons (vd_fmt (vd_var 5)) vj_nil))))))))))))))))
theorem sc_is_number : FnScope ["word", "sign"] ["word"] (defScope s_is_number) := ⟨rfl, rfl, rfl, by decide +kernel, rfl, by decide +kernel, by decide +kernel⟩
theorem ok_is_number {f : Addr} {fd : FuncData} (T : Top K mg) (F : FunD K "is_number" "is_number" (defArgs s_is_number) (defBody s_is_number) (defScope s_is_number) [] [] f fd) (hm : mg "is_number" = some (.ref f)) : Fn P w K mg base "is_number" 1 1 f_is_number := by
  have hb : Binds K fd ["word"] [] := F.bindsN fun _ _ _ _ _ _ us hl => match us, hl with | [_], _ => rfl
  refine ⟨f, fd, ["word"], fn_ok (N := ["word", "sign"]) [] F sc_is_number (by decide) (fun cdv A outer s H E hr => ?_), hm, F.kp, hb⟩
  have hu : (cxOf (L2.CX P w) P w K mg base ["word", "sign"] "is_number" (defScope s_is_number) f cdv A outer s H E).A.units + 65 < cLine := by have := hr.un; simp only [cxOf]; omega
  have tk := takes_cx (P := P) (w := w) (K := K) (mg := mg) (base := base) (N := ["word", "sign"]) (qual := "is_number") (scope := defScope s_is_number) (f := f) (cdv := cdv) (A := A) (outer := outer) (s := s) (H := H) (E := E)
  have hp := own_cx (P := P) (w := w) (K := K) (mg := mg) (base := base) (N := ["word", "sign"]) (qual := "is_number") (scope := defScope s_is_number) (f := f) (cdv := cdv) (A := A) (outer := outer) (s := s) (H := H) (E := E)
  have hnd := (sc_is_number).nd
  unfold b_is_number
  exact (vss_cons (vs_if (VW.vb (vw_or (vb_cmp (od_eq hu) (vd_var 0) vd_str) (vw_or (vb_cmp (od_gtx hu) (vd_len 0 T.len_) (vd_glob rfl T.c_MOST_FIGURES)) (vw_or1 (vb_not (vb_val (vd_c1B (c_all rfl) T.all (by decide +kernel) (vp_of (vd_of (vt_lc (own := [("sign", 1)]) rfl hnd (vi_str (vd_var 0)) (blkOk_by (own := [("sign", 1)]) (N := ["word", "sign"]) (sc := defScope s_is_number) (by decide +kernel)) (fun _ _ _ _ _ => (vg_name 1 hnd (hio := out_not rfl))) (fun _ _ _ _ _ => vts_nil) (fun _ _ _ _ _ => (vt_of (vd_cmp od_inS (vd_var 1) (vd_globS rfl T.c_FIGURES)))))))))))))) (vss_one (vs_ret (vt_of vd_bl))) vss_nil)
      (vss_one (vs_ret (vt_of (vd_or (vd_cmp (od_eq hu) (vd_var 0) vd_str) (vd_one (vd_cmp (od_ne hu) (vd_ixV 0 vd_int) vd_str)))))))
theorem sc_number_in : FnScope ["word"] ["word"] (defScope s_number_in) := ⟨rfl, rfl, rfl, by decide +kernel, rfl, by decide +kernel, by decide +kernel⟩
theorem ok_number_in {f : Addr} {fd : FuncData} (T : Top K mg) (g_is_number : Fn P w K mg base "is_number" 1 1 f_is_number) (F : FunD K "number_in" "number_in" (defArgs s_number_in) (defBody s_number_in) (defScope s_number_in) [] [] f fd) (hm : mg "number_in" = some (.ref f)) : Fn P w K mg base "number_in" 1 2 f_number_in := by
  have hb : Binds K fd ["word"] [] := F.bindsN fun _ _ _ _ _ _ us hl => match us, hl with | [_], _ => rfl
  refine ⟨f, fd, ["word"], fn_ok (N := ["word"]) [] F sc_number_in (by decide) (fun cdv A outer s H E hr => ?_), hm, F.kp, hb⟩
  have hu : (cxOf (L2.CX P w) P w K mg base ["word"] "number_in" (defScope s_number_in) f cdv A outer s H E).A.units + 65 < cLine := by have := hr.un; simp only [cxOf]; omega
  have tk := takes_cx (P := P) (w := w) (K := K) (mg := mg) (base := base) (N := ["word"]) (qual := "number_in") (scope := defScope s_number_in) (f := f) (cdv := cdv) (A := A) (outer := outer) (s := s) (H := H) (E := E)
  have hp := own_cx (P := P) (w := w) (K := K) (mg := mg) (base := base) (N := ["word"]) (qual := "number_in") (scope := defScope s_number_in) (f := f) (cdv := cdv) (A := A) (outer := outer) (s := s) (H := H) (E := E)
  have hnd := (sc_number_in).nd
  unfold b_number_in
  exact (vss_cons (vs_if (vb_not (vb_val (vd_of (vt_fn g_is_number hr (by decide) tk (va_d (vd_var 0) va_nil))))) (vss_one (vs_raise (xs := "NoText") rfl tk T.x_NoText.1 T.g_NoText T.x_NoText.2.1 T.x_NoText.2.2.1 T.x_NoText.2.2.2)) vss_nil)
      (vss_one (vs_ret (vt_of (vd_c1Y c_intS T.int (by decide +kernel) (vp_peek 0))))))
theorem sc_is_whole : FnScope ["thing"] ["thing"] (defScope s_is_whole) := ⟨rfl, rfl, rfl, by decide +kernel, rfl, by decide +kernel, by decide +kernel⟩
theorem ok_is_whole {f : Addr} {fd : FuncData} (T : Top K mg) (F : FunD K "is_whole" "is_whole" (defArgs s_is_whole) (defBody s_is_whole) (defScope s_is_whole) [] [] f fd) (hm : mg "is_whole" = some (.ref f)) : Fn P w K mg base "is_whole" 1 1 f_is_whole := by
  have hb : Binds K fd ["thing"] [] := F.bindsN fun _ _ _ _ _ _ us hl => match us, hl with | [_], _ => rfl
  refine ⟨f, fd, ["thing"], fn_ok (N := ["thing"]) [] F sc_is_whole (by decide) (fun cdv A outer s H E hr => ?_), hm, F.kp, hb⟩
  have hu : (cxOf (L2.CX P w) P w K mg base ["thing"] "is_whole" (defScope s_is_whole) f cdv A outer s H E).A.units + 65 < cLine := by have := hr.un; simp only [cxOf]; omega
  have tk := takes_cx (P := P) (w := w) (K := K) (mg := mg) (base := base) (N := ["thing"]) (qual := "is_whole") (scope := defScope s_is_whole) (f := f) (cdv := cdv) (A := A) (outer := outer) (s := s) (H := H) (E := E)
  have hp := own_cx (P := P) (w := w) (K := K) (mg := mg) (base := base) (N := ["thing"]) (qual := "is_whole") (scope := defScope s_is_whole) (f := f) (cdv := cdv) (A := A) (outer := outer) (s := s) (H := H) (E := E)
  have hnd := (sc_is_whole).nd
  unfold b_is_whole
  exact (vss_one (vs_ret (vt_of (vd_and (vd_isi "int" T.isinstance T.int (by decide +kernel) (vd_var 0)) (vd_one (vd_not (vd_isi "bool" T.isinstance T.bool (by decide +kernel) (vd_var 0))))))))
theorem sc_is_tie : FnScope ["n", "thing", "a", "b", "length", "part"] ["n", "thing"] (defScope s_is_tie) := ⟨rfl, rfl, rfl, by decide +kernel, rfl, by decide +kernel, by decide +kernel⟩
theorem ok_is_tie {f : Addr} {fd : FuncData} (T : Top K mg) (g_is_whole : Fn P w K mg base "is_whole" 1 1 f_is_whole) (F : FunD K "is_tie" "is_tie" (defArgs s_is_tie) (defBody s_is_tie) (defScope s_is_tie) [] [] f fd) (hm : mg "is_tie" = some (.ref f)) : Fn P w K mg base "is_tie" 2 2 f_is_tie := by
  have hb : Binds K fd ["n", "thing"] [] := F.bindsN fun _ _ _ _ _ _ us hl => match us, hl with | [_, _], _ => rfl
  refine ⟨f, fd, ["n", "thing"], fn_ok (N := ["n", "thing", "a", "b", "length", "part"]) [] F sc_is_tie (by decide) (fun cdv A outer s H E hr => ?_), hm, F.kp, hb⟩
  have hu : (cxOf (L2.CX P w) P w K mg base ["n", "thing", "a", "b", "length", "part"] "is_tie" (defScope s_is_tie) f cdv A outer s H E).A.units + 65 < cLine := by have := hr.un; simp only [cxOf]; omega
  have tk := takes_cx (P := P) (w := w) (K := K) (mg := mg) (base := base) (N := ["n", "thing", "a", "b", "length", "part"]) (qual := "is_tie") (scope := defScope s_is_tie) (f := f) (cdv := cdv) (A := A) (outer := outer) (s := s) (H := H) (E := E)
  have hp := own_cx (P := P) (w := w) (K := K) (mg := mg) (base := base) (N := ["n", "thing", "a", "b", "length", "part"]) (qual := "is_tie") (scope := defScope s_is_tie) (f := f) (cdv := cdv) (A := A) (outer := outer) (s := s) (H := H) (E := E)
  have hnd := (sc_is_tie).nd
  unfold b_is_tie
  exact (vss_cons (vs_if (VW.vb (vw_or (vb_not (vb_val (vd_isi "tuple" T.isinstance T.tuple (by decide +kernel) (vd_var 1)))) (vw_or (vb_cmp (od_ne hu) (vd_len 1 T.len_) vd_int) (vw_or1 (vb_not (vb_val (vd_c1B (c_all rfl) T.all (by decide +kernel) (vp_of (vd_of (vt_lc (own := [("part", 5)]) rfl hnd (vi_seq (vd_var 1)) (blkOk_by (own := [("part", 5)]) (N := ["n", "thing", "a", "b", "length", "part"]) (sc := defScope s_is_tie) (by decide +kernel)) (fun _ _ _ _ _ => (vg_name 5 hnd (hio := out_not rfl))) (fun _ _ _ _ _ => vts_nil) (fun _ _ _ _ _ => (vt_fn g_is_whole hr (by decide) takes0 (va_d (vd_var 5) va_nil))))))))))))) (vss_one (vs_ret (vt_of vd_bl))) vss_nil)
      (vss_cons (vs_asg (vd_var 1) (vg_tup (n := 3) rfl (vgs_cons (vg_name 2 hnd) (vgs_cons (vg_name 3 hnd) (vgs_cons (vg_name 4 hnd) vgs_nil)))))
      (vss_one (vs_ret (vt_of (vd_and (vd_chain3 (od_lex hu) (od_ltx hu) (od_ltx hu) vd_int (vd_var 2) (vd_var 3) (vd_var 0)) (vd_one (vd_chain (od_lex hu) (od_lex hu) vd_int (vd_var 4) (vd_glob rfl T.c_LONGEST)))))))))
theorem sc_is_web : FnScope ["thing", "n", "ties", "one", "other", "tie"] ["thing"] (defScope s_is_web) := ⟨rfl, rfl, rfl, by decide +kernel, rfl, by decide +kernel, by decide +kernel⟩
theorem ok_is_web {f : Addr} {fd : FuncData} (T : Top K mg) (g_is_whole : Fn P w K mg base "is_whole" 1 1 f_is_whole) (g_is_tie : Fn P w K mg base "is_tie" 2 2 f_is_tie) (F : FunD K "is_web" "is_web" (defArgs s_is_web) (defBody s_is_web) (defScope s_is_web) [] [] f fd) (hm : mg "is_web" = some (.ref f)) : Fn P w K mg base "is_web" 1 3 f_is_web := by
  have hb : Binds K fd ["thing"] [] := F.bindsN fun _ _ _ _ _ _ us hl => match us, hl with | [_], _ => rfl
  refine ⟨f, fd, ["thing"], fn_ok (N := ["thing", "n", "ties", "one", "other", "tie"]) [] F sc_is_web (by decide) (fun cdv A outer s H E hr => ?_), hm, F.kp, hb⟩
  have hu : (cxOf (L2.CX P w) P w K mg base ["thing", "n", "ties", "one", "other", "tie"] "is_web" (defScope s_is_web) f cdv A outer s H E).A.units + 65 < cLine := by have := hr.un; simp only [cxOf]; omega
  have tk := takes_cx (P := P) (w := w) (K := K) (mg := mg) (base := base) (N := ["thing", "n", "ties", "one", "other", "tie"]) (qual := "is_web") (scope := defScope s_is_web) (f := f) (cdv := cdv) (A := A) (outer := outer) (s := s) (H := H) (E := E)
  have hp := own_cx (P := P) (w := w) (K := K) (mg := mg) (base := base) (N := ["thing", "n", "ties", "one", "other", "tie"]) (qual := "is_web") (scope := defScope s_is_web) (f := f) (cdv := cdv) (A := A) (outer := outer) (s := s) (H := H) (E := E)
  have hnd := (sc_is_web).nd
  unfold b_is_web
  exact (vss_cons (vs_if (VW.vb (vw_or (vb_not (vb_val (vd_isi "tuple" T.isinstance T.tuple (by decide +kernel) (vd_var 0)))) (vw_or1 (vb_cmp (od_ne hu) (vd_len 0 T.len_) vd_int)))) (vss_one (vs_ret (vt_of vd_bl))) vss_nil)
      (vss_cons (vs_asg (vd_var 0) (vg_tup (n := 2) rfl (vgs_cons (vg_name 1 hnd) (vgs_cons (vg_name 2 hnd) vgs_nil))))
      (vss_cons (vs_if (VW.vb (vw_or (vb_not (vb_val (vd_of (vt_fn g_is_whole hr (by decide) tk (va_d (vd_var 1) va_nil))))) (vw_or (vb_not (vb_chain (od_lex hu) (od_lex hu) vd_int (vd_var 1) (vd_glob rfl T.c_MOST_PLACES))) (vw_or (vb_not (vb_val (vd_isi "tuple" T.isinstance T.tuple (by decide +kernel) (vd_var 2)))) (vw_or1 (vb_cmp (od_gtx hu) (vd_len 2 T.len_) (vd_glob rfl T.c_MOST_TIES))))))) (vss_one (vs_ret (vt_of vd_bl))) vss_nil)
      (vss_cons (vs_if (vb_not (vb_val (vd_c1B (c_all rfl) T.all (by decide +kernel) (vp_of (vd_of (vt_lc (own := [("tie", 5)]) rfl hnd (vi_seq (vd_var 2)) (blkOk_by (own := [("tie", 5)]) (N := ["thing", "n", "ties", "one", "other", "tie"]) (sc := defScope s_is_web) (by decide +kernel)) (fun _ _ _ _ _ => (vg_name 5 hnd (hio := out_not rfl))) (fun _ _ _ _ _ => vts_nil) (fun _ _ _ _ _ => (vt_fn g_is_tie hr (by decide) takes0 (va_d (vd_var 1) (va_d (vd_var 5) va_nil)))))))))) (vss_one (vs_ret (vt_of vd_bl))) vss_nil)
      (vss_one (vs_ret (vt_of (vd_c1B (c_all rfl) T.all (by decide +kernel) (vp_of (vd_of (vt_lc (own := [("one", 3), ("other", 4)]) rfl hnd (vi_zip3 T.zip (vd_var 2) (vd_slice (vd_var 2) (vo_some vd_int) vo_none)) (blkOk_by (own := [("one", 3), ("other", 4)]) (N := ["thing", "n", "ties", "one", "other", "tie"]) (sc := defScope s_is_web) (by decide +kernel)) (fun _ _ _ _ _ => (vg_tup (n := 2) rfl (vgs_cons (vg_name 3 hnd (hio := out_not rfl)) (vgs_cons (vg_name 4 hnd (hio := out_not rfl)) vgs_nil)))) (fun _ _ _ _ _ => vts_nil) (fun _ _ _ _ _ => (vt_of (vd_cmp (od_ltx hu) (vd_slice (vd_var 3) vo_none (vo_some vd_int)) (vd_slice (vd_var 4) vo_none (vo_some vd_int))))))))))))))))
theorem sc_tie_in : FnScope ["word", "a", "dash", "rest", "b", "colon", "length"] ["word"] (defScope s_tie_in) := ⟨rfl, rfl, rfl, by decide +kernel, rfl, by decide +kernel, by decide +kernel⟩
theorem ok_tie_in {f : Addr} {fd : FuncData} (T : Top K mg) (g_number_in : Fn P w K mg base "number_in" 1 2 f_number_in) (F : FunD K "tie_in" "tie_in" (defArgs s_tie_in) (defBody s_tie_in) (defScope s_tie_in) [] [] f fd) (hm : mg "tie_in" = some (.ref f)) : Fn P w K mg base "tie_in" 1 3 f_tie_in := by
  have hb : Binds K fd ["word"] [] := F.bindsN fun _ _ _ _ _ _ us hl => match us, hl with | [_], _ => rfl
  refine ⟨f, fd, ["word"], fn_ok (N := ["word", "a", "dash", "rest", "b", "colon", "length"]) [] F sc_tie_in (by decide) (fun cdv A outer s H E hr => ?_), hm, F.kp, hb⟩
  have hu : (cxOf (L2.CX P w) P w K mg base ["word", "a", "dash", "rest", "b", "colon", "length"] "tie_in" (defScope s_tie_in) f cdv A outer s H E).A.units + 65 < cLine := by have := hr.un; simp only [cxOf]; omega
  have tk := takes_cx (P := P) (w := w) (K := K) (mg := mg) (base := base) (N := ["word", "a", "dash", "rest", "b", "colon", "length"]) (qual := "tie_in") (scope := defScope s_tie_in) (f := f) (cdv := cdv) (A := A) (outer := outer) (s := s) (H := H) (E := E)
  have hp := own_cx (P := P) (w := w) (K := K) (mg := mg) (base := base) (N := ["word", "a", "dash", "rest", "b", "colon", "length"]) (qual := "tie_in") (scope := defScope s_tie_in) (f := f) (cdv := cdv) (A := A) (outer := outer) (s := s) (H := H) (E := E)
  have hnd := (sc_tie_in).nd
  unfold b_tie_in
  exact (vss_cons (vs_asg (vd_part (vd_var 0) vd_str) (vg_tup (n := 3) rfl (vgs_cons (vg_name 1 hnd) (vgs_cons (vg_name 2 hnd) (vgs_cons (vg_name 3 hnd) vgs_nil)))))
      (vss_cons (vs_asg (vd_part (vd_var 3) vd_str) (vg_tup (n := 3) rfl (vgs_cons (vg_name 4 hnd) (vgs_cons (vg_name 5 hnd) (vgs_cons (vg_name 6 hnd) vgs_nil)))))
      (vss_cons (vs_if (VW.vb (vw_or (vb_cmp (od_eq hu) (vd_var 2) vd_str) (vw_or1 (vb_cmp (od_eq hu) (vd_var 5) vd_str)))) (vss_one (vs_raise (xs := "NoText") rfl tk T.x_NoText.1 T.g_NoText T.x_NoText.2.1 T.x_NoText.2.2.1 T.x_NoText.2.2.2)) vss_nil)
      (vss_one (vs_ret (vt_of (vd_tup (vs_cons (vd_of (vt_fn g_number_in hr (by decide) tk (va_d (vd_var 1) va_nil))) (vs_cons (vd_of (vt_fn g_number_in hr (by decide) tk (va_d (vd_var 4) va_nil))) (vs_cons (vd_of (vt_fn g_number_in hr (by decide) tk (va_d (vd_var 6) va_nil))) vs_nil))))))))))
theorem sc_read_web : FnScope ["thing", "words", "found", "word"] ["thing"] (defScope s_read_web) := ⟨rfl, rfl, rfl, by decide +kernel, rfl, by decide +kernel, by decide +kernel⟩
theorem ok_read_web {f : Addr} {fd : FuncData} (T : Top K mg) (g_number_in : Fn P w K mg base "number_in" 1 2 f_number_in) (g_tie_in : Fn P w K mg base "tie_in" 1 3 f_tie_in) (g_is_web : Fn P w K mg base "is_web" 1 3 f_is_web) (F : FunD K "read_web" "read_web" (defArgs s_read_web) (defBody s_read_web) (defScope s_read_web) [] [] f fd) (hm : mg "read_web" = some (.ref f)) : Fn P w K mg base "read_web" 1 4 f_read_web := by
  have hb : Binds K fd ["thing"] [] := F.bindsN fun _ _ _ _ _ _ us hl => match us, hl with | [_], _ => rfl
  refine ⟨f, fd, ["thing"], fn_ok (N := ["thing", "words", "found", "word"]) [] F sc_read_web (by decide) (fun cdv A outer s H E hr => ?_), hm, F.kp, hb⟩
  have hu : (cxOf (L2.CX P w) P w K mg base ["thing", "words", "found", "word"] "read_web" (defScope s_read_web) f cdv A outer s H E).A.units + 65 < cLine := by have := hr.un; simp only [cxOf]; omega
  have tk := takes_cx (P := P) (w := w) (K := K) (mg := mg) (base := base) (N := ["thing", "words", "found", "word"]) (qual := "read_web") (scope := defScope s_read_web) (f := f) (cdv := cdv) (A := A) (outer := outer) (s := s) (H := H) (E := E)
  have hp := own_cx (P := P) (w := w) (K := K) (mg := mg) (base := base) (N := ["thing", "words", "found", "word"]) (qual := "read_web") (scope := defScope s_read_web) (f := f) (cdv := cdv) (A := A) (outer := outer) (s := s) (H := H) (E := E)
  have hnd := (sc_read_web).nd
  unfold b_read_web
  exact (vss_cons (vs_if (vb_not (vb_val (vd_isi "str" T.isinstance T.str (by decide +kernel) (vd_var 0)))) (vss_one (vs_raise (xs := "NoText") rfl tk T.x_NoText.1 T.g_NoText T.x_NoText.2.1 T.x_NoText.2.2.1 T.x_NoText.2.2.2)) vss_nil)
      (vss_cons (vs_set 1 hnd (vt_of (vd_split (vd_var 0) vd_str)))
      (vss_cons (vs_set 2 hnd (vt_of (vd_tup (vs_cons (vd_of (vt_fn g_number_in hr (by decide) tk (va_d (vd_ixV 1 vd_int) va_nil))) (vs_cons (vd_c1Y c_tuple T.tuple (by decide +kernel) (vp_of (vd_of (vt_lc (own := [("word", 3)]) rfl hnd (vi_seq (vd_slice (vd_var 1) (vo_some vd_int) vo_none)) (blkOk_by (own := [("word", 3)]) (N := ["thing", "words", "found", "word"]) (sc := defScope s_read_web) (by decide +kernel)) (fun _ _ _ _ _ => (vg_name 3 hnd (hio := out_not rfl))) (fun _ _ _ _ _ => vts_nil) (fun _ _ _ _ _ => (vt_fn g_tie_in hr (by decide) takes0 (va_d (vd_var 3) va_nil))))))) vs_nil)))))
      (vss_cons (vs_if (vb_not (vb_val (vd_of (vt_fn g_is_web hr (by decide) tk (va_d (vd_var 2) va_nil))))) (vss_one (vs_raise (xs := "NoText") rfl tk T.x_NoText.1 T.g_NoText T.x_NoText.2.1 T.x_NoText.2.2.1 T.x_NoText.2.2.2)) vss_nil)
      (vss_one (vs_ret (vt_of (vd_var 2))))))))
theorem sc__law_written : FnScope ["web", "found", "a", "b", "length"] ["web"] (defScope s__law_written) := ⟨rfl, rfl, rfl, by decide +kernel, rfl, by decide +kernel, by decide +kernel⟩
theorem ok__law_written {f : Addr} {fd : FuncData} (T : Top K mg) (F : FunD K "_law_written" "_law_written" (defArgs s__law_written) (defBody s__law_written) (defScope s__law_written) [] [] f fd) (hm : mg "_law_written" = some (.ref f)) : Fn P w K mg base "_law_written" 1 1 f__law_written := by
  have hb : Binds K fd ["web"] [] := F.bindsN fun _ _ _ _ _ _ us hl => match us, hl with | [_], _ => rfl
  refine ⟨f, fd, ["web"], fn_ok (N := ["web", "found", "a", "b", "length"]) [] F sc__law_written (by decide) (fun cdv A outer s H E hr => ?_), hm, F.kp, hb⟩
  have hu : (cxOf (L2.CX P w) P w K mg base ["web", "found", "a", "b", "length"] "_law_written" (defScope s__law_written) f cdv A outer s H E).A.units + 65 < cLine := by have := hr.un; simp only [cxOf]; omega
  have tk := takes_cx (P := P) (w := w) (K := K) (mg := mg) (base := base) (N := ["web", "found", "a", "b", "length"]) (qual := "_law_written") (scope := defScope s__law_written) (f := f) (cdv := cdv) (A := A) (outer := outer) (s := s) (H := H) (E := E)
  have hp := own_cx (P := P) (w := w) (K := K) (mg := mg) (base := base) (N := ["web", "found", "a", "b", "length"]) (qual := "_law_written") (scope := defScope s__law_written) (f := f) (cdv := cdv) (A := A) (outer := outer) (s := s) (H := H) (E := E)
  have hnd := (sc__law_written).nd
  unfold b__law_written
  exact (vss_cons (vs_set 1 hnd (vt_of (vd_c1Y (c_str hr.gu hu) T.str (by decide +kernel) (vp_of (vd_ixV 0 vd_int)))))
      (vss_cons (vs_for hp rfl (vi_seq (vd_ixV 0 vd_int)) (vg_tup (n := 3) rfl (vgs_cons (vg_name 2 hnd) (vgs_cons (vg_name 3 hnd) (vgs_cons (vg_name 4 hnd) vgs_nil)))) (vss_one (vs_set 1 hnd (vt_of (vd_op od_add (vd_op od_add (vd_op od_add (vd_op od_add (vd_op od_add (vd_op od_add (vd_var 1) vd_str) (vd_c1Y (c_str hr.gu hu) T.str (by decide +kernel) (vp_peek 2))) vd_str) (vd_c1Y (c_str hr.gu hu) T.str (by decide +kernel) (vp_peek 3))) vd_str) (vd_c1Y (c_str hr.gu hu) T.str (by decide +kernel) (vp_peek 4)))))))
      (vss_one (vs_ret (vt_of (vd_var 1))))))
theorem sc__law_whole : FnScope ["thing"] ["thing"] (defScope s__law_whole) := ⟨rfl, rfl, rfl, by decide +kernel, rfl, by decide +kernel, by decide +kernel⟩
theorem ok__law_whole {f : Addr} {fd : FuncData} (T : Top K mg) (F : FunD K "_law_whole" "_law_whole" (defArgs s__law_whole) (defBody s__law_whole) (defScope s__law_whole) [] [] f fd) (hm : mg "_law_whole" = some (.ref f)) : Fn P w K mg base "_law_whole" 1 1 f__law_whole := by
  have hb : Binds K fd ["thing"] [] := F.bindsN fun _ _ _ _ _ _ us hl => match us, hl with | [_], _ => rfl
  refine ⟨f, fd, ["thing"], fn_ok (N := ["thing"]) [] F sc__law_whole (by decide) (fun cdv A outer s H E hr => ?_), hm, F.kp, hb⟩
  have hu : (cxOf (L2.CX P w) P w K mg base ["thing"] "_law_whole" (defScope s__law_whole) f cdv A outer s H E).A.units + 65 < cLine := by have := hr.un; simp only [cxOf]; omega
  have tk := takes_cx (P := P) (w := w) (K := K) (mg := mg) (base := base) (N := ["thing"]) (qual := "_law_whole") (scope := defScope s__law_whole) (f := f) (cdv := cdv) (A := A) (outer := outer) (s := s) (H := H) (E := E)
  have hp := own_cx (P := P) (w := w) (K := K) (mg := mg) (base := base) (N := ["thing"]) (qual := "_law_whole") (scope := defScope s__law_whole) (f := f) (cdv := cdv) (A := A) (outer := outer) (s := s) (H := H) (E := E)
  have hnd := (sc__law_whole).nd
  unfold b__law_whole
  exact (vss_one (vs_ret (vt_of (vd_and (vd_isi "int" T.isinstance T.int (by decide +kernel) (vd_var 0)) (vd_one (vd_not (vd_isi "bool" T.isinstance T.bool (by decide +kernel) (vd_var 0))))))))
theorem sc__law_same : FnScope ["found", "due", "one", "other"] ["found", "due"] (defScope s__law_same) := ⟨rfl, rfl, rfl, by decide +kernel, rfl, by decide +kernel, by decide +kernel⟩
theorem ok__law_same {f : Addr} {fd : FuncData} (T : Top K mg) (g__law_whole : Fn P w K mg base "_law_whole" 1 1 f__law_whole) (F : FunD K "_law_same" "_law_same" (defArgs s__law_same) (defBody s__law_same) (defScope s__law_same) [] [] f fd) (hm : mg "_law_same" = some (.ref f)) (k : Nat) : Fn P w K mg base "_law_same" 2 (1 + k) (f__law_same k) := by
  have hb : Binds K fd ["found", "due"] [] := F.bindsN fun _ _ _ _ _ _ us hl => match us, hl with | [_, _], _ => rfl
  induction k with
  | zero => exact ⟨f, fd, ["found", "due"], fn_none, hm, F.kp, hb⟩
  | succ k ih =>
  refine ⟨f, fd, ["found", "due"], fn_ok (k := 1 + k) (N := ["found", "due", "one", "other"]) [] F sc__law_same (by decide) (fun cdv A outer s H E hr => ?_), hm, F.kp, hb⟩
  have hu : (cxOf (L2.CX P w) P w K mg base ["found", "due", "one", "other"] "_law_same" (defScope s__law_same) f cdv A outer s H E).A.units + 65 < cLine := by have := hr.un; simp only [cxOf]; omega
  have tk := takes_cx (P := P) (w := w) (K := K) (mg := mg) (base := base) (N := ["found", "due", "one", "other"]) (qual := "_law_same") (scope := defScope s__law_same) (f := f) (cdv := cdv) (A := A) (outer := outer) (s := s) (H := H) (E := E)
  have hp := own_cx (P := P) (w := w) (K := K) (mg := mg) (base := base) (N := ["found", "due", "one", "other"]) (qual := "_law_same") (scope := defScope s__law_same) (f := f) (cdv := cdv) (A := A) (outer := outer) (s := s) (H := H) (E := E)
  have hnd := (sc__law_same).nd
  unfold b__law_same
  exact (vss_cons (vs_if (vb_val (vd_isi "tuple" T.isinstance T.tuple (by decide +kernel) (vd_var 1))) (vss_cons (vs_if (VW.vb (vw_or (vb_not (vb_val (vd_isi "tuple" T.isinstance T.tuple (by decide +kernel) (vd_var 0)))) (vw_or1 (vb_cmp (od_ne hu) (vd_len 0 T.len_) (vd_len 1 T.len_))))) (vss_one (vs_ret (vt_of vd_bl))) vss_nil)
      (vss_one (vs_ret (vt_of (vd_c1B (c_all rfl) T.all (by decide +kernel) (vp_of (vd_of (vt_lc (own := [("one", 2), ("other", 3)]) rfl hnd (vi_zip3 T.zip (vd_var 0) (vd_var 1)) (blkOk_by (own := [("one", 2), ("other", 3)]) (N := ["found", "due", "one", "other"]) (sc := defScope s__law_same) (by decide +kernel)) (fun _ _ _ _ _ => (vg_tup (n := 2) rfl (vgs_cons (vg_name 2 hnd (hio := out_not rfl)) (vgs_cons (vg_name 3 hnd (hio := out_not rfl)) vgs_nil)))) (fun _ _ _ _ _ => vts_nil) (fun _ _ _ _ _ => (vt_fn ih hr (Nat.le_refl _) takes0 (va_d (vd_var 2) (va_d (vd_var 3) va_nil)))))))))))) vss_nil)
      (vss_cons (vs_if (VW.vb (vw_or (vb_cmp od_isN (vd_var 1) vd_non) (vw_or1 (vb_val (vd_isi "str" T.isinstance T.str (by decide +kernel) (vd_var 1)))))) (vss_one (vs_ret (vt_of (vd_and (vd_cmp (od_eq hu) (vd_var 0) (vd_var 1)) (vd_one (vd_or (vd_cmp od_isN (vd_var 1) vd_non) (vd_one (vd_isi "str" T.isinstance T.str (by decide +kernel) (vd_var 0))))))))) vss_nil)
      (vss_one (vs_ret (vt_of (vd_and (vd_of (vt_fn g__law_whole hr (by omega) tk (va_d (vd_var 0) va_nil))) (vd_one (vd_cmp (od_eq hu) (vd_var 0) (vd_var 1)))))))))
theorem sc_law : FnScope ["script", "k", "pot", "web", "text"] ["script"] (defScope s_law) := ⟨rfl, rfl, rfl, by decide +kernel, rfl, by decide +kernel, by decide +kernel⟩
theorem ok_law {f : Addr} {fd : FuncData} (T : Top K mg) (g__law_pot : Fn P w K mg base "_law_pot" 2 1 f__law_pot) (g__law_web : Fn P w K mg base "_law_web" 2 3 f__law_web) (g__law_take : Fn P w K mg base "_law_take" 2 1 f__law_take) (g_web_text : Fn P w K mg base "web_text" 1 1 f_web_text) (g__law_written : Fn P w K mg base "_law_written" 1 1 f__law_written) (g__law_same : Fn P w K mg base "_law_same" 2 9 (f__law_same 8)) (g_read_web : Fn P w K mg base "read_web" 1 4 f_read_web) (F : FunD K "law" "law" (defArgs s_law) (defBody s_law) (defScope s_law) [] [] f fd) : FnOkG P w K mg base (L2.CX P w) 10 f fd ["script"] (spM 1 K f_law) := by
  refine fn_ok (N := ["script", "k", "pot", "web", "text"]) (ps := ["script"]) [] F sc_law (by decide) (fun cdv A outer s H E hr => ?_)
  have hu : (cxOf (L2.CX P w) P w K mg base ["script", "k", "pot", "web", "text"] "law" (defScope s_law) f cdv A outer s H E).A.units + 65 < cLine := by have := hr.un; simp only [cxOf]; omega
  have tk := takes_cx (P := P) (w := w) (K := K) (mg := mg) (base := base) (N := ["script", "k", "pot", "web", "text"]) (qual := "law") (scope := defScope s_law) (f := f) (cdv := cdv) (A := A) (outer := outer) (s := s) (H := H) (E := E)
  have hp := own_cx (P := P) (w := w) (K := K) (mg := mg) (base := base) (N := ["script", "k", "pot", "web", "text"]) (qual := "law") (scope := defScope s_law) (f := f) (cdv := cdv) (A := A) (outer := outer) (s := s) (H := H) (E := E)
  have hnd := (sc_law).nd
  unfold b_law
  exact (vss_cons (vs_for hp rfl (vi_range1 T.range (vs_cons (vd_c2B (c_max2 rfl) T.max (by decide +kernel) vd_int (vd_c2B (c_min2 rfl) T.min (by decide +kernel) vd_int (vd_len 0 T.len_))) vs_nil)) (vg_name 1 hnd) (vss_cons (vs_set 2 hnd (vt_fn g__law_pot hr (by decide) tk (va_cp 0 (va_d (vd_var 1) va_nil))))
      (vss_cons (vs_set 3 hnd (vt_of (vd_of (vt_fn g__law_web hr (by decide) tk (va_own 2 (va_d (vd_ix (vd_of (vt_lst (vs_cons vd_int (vs_cons vd_int (vs_cons vd_int vs_nil))))) (vd_of (vt_fn g__law_take hr (by decide) tk (va_own 2 (va_d vd_int va_nil))))) va_nil))))))
      (vss_cons (vs_set 4 hnd (vt_of (vd_of (vt_fn g_web_text hr (by decide) tk (va_d (vd_var 3) va_nil)))))
      (vss_one (vs_if (VW.vb (vw_or (vb_not (vb_val (vd_isi "str" T.isinstance T.str (by decide +kernel) (vd_var 4)))) (vw_or (vb_cmp (od_ne hu) (vd_var 4) (vd_of (vt_fn g__law_written hr (by decide) tk (va_d (vd_var 3) va_nil)))) (vw_or1 (vb_not (vb_val (vd_of (vt_fn g__law_same hr (by decide) tk (va_d (vd_of (vt_fn g_read_web hr (by decide) tk (va_d (vd_var 4) va_nil))) (va_d (vd_var 3) va_nil)))))))))) (vss_one (vs_ret (vt_of vd_bl))) vss_nil))))))
      (vss_one (vs_ret (vt_of (vd_and (vd_cmp (od_eq hu) (vd_of (vt_fn g_read_web hr (by decide) tk (va_d vd_str va_nil))) (vd_tup (vs_cons vd_int (vs_cons (vd_tup vs_nil) vs_nil)))) (vd_one (vd_cmp (od_eq hu) (vd_of (vt_fn g_read_web hr (by decide) tk (va_d vd_str va_nil))) (vd_tup (vs_cons vd_int (vs_cons (vd_tup (vs_cons (vd_tup (vs_cons vd_int (vs_cons vd_int (vs_cons (vd_op od_pow vd_int vd_int) vs_nil)))) vs_nil)) vs_nil))))))))))
end
/-! ### the head -/
def fn : List He.DefD := [⟨("_law_pot", none), "_law_pot", "_law_pot", defArgs s__law_pot, defBody s__law_pot, defScope s__law_pot, [], []⟩,
  ⟨("_law_take", none), "_law_take", "_law_take", defArgs s__law_take, defBody s__law_take, defScope s__law_take, [], []⟩,
  ⟨("_law_order", none), "_law_order", "_law_order", defArgs s__law_order, defBody s__law_order, defScope s__law_order, [], []⟩,
  ⟨("_law_tied", none), "_law_tied", "_law_tied", defArgs s__law_tied, defBody s__law_tied, defScope s__law_tied, [], []⟩,
  ⟨("_law_length", none), "_law_length", "_law_length", defArgs s__law_length, defBody s__law_length, defScope s__law_length, [], []⟩,
  ⟨("_law_web", none), "_law_web", "_law_web", defArgs s__law_web, defBody s__law_web, defScope s__law_web, [], []⟩,
  ⟨("web_text", none), "web_text", "web_text", defArgs s_web_text, defBody s_web_text, defScope s_web_text, [], []⟩,
  ⟨("is_number", none), "is_number", "is_number", defArgs s_is_number, defBody s_is_number, defScope s_is_number, [], []⟩,
  ⟨("number_in", none), "number_in", "number_in", defArgs s_number_in, defBody s_number_in, defScope s_number_in, [], []⟩,
  ⟨("is_whole", none), "is_whole", "is_whole", defArgs s_is_whole, defBody s_is_whole, defScope s_is_whole, [], []⟩,
  ⟨("is_tie", none), "is_tie", "is_tie", defArgs s_is_tie, defBody s_is_tie, defScope s_is_tie, [], []⟩,
  ⟨("is_web", none), "is_web", "is_web", defArgs s_is_web, defBody s_is_web, defScope s_is_web, [], []⟩,
  ⟨("tie_in", none), "tie_in", "tie_in", defArgs s_tie_in, defBody s_tie_in, defScope s_tie_in, [], []⟩,
  ⟨("read_web", none), "read_web", "read_web", defArgs s_read_web, defBody s_read_web, defScope s_read_web, [], []⟩,
  ⟨("_law_written", none), "_law_written", "_law_written", defArgs s__law_written, defBody s__law_written, defScope s__law_written, [], []⟩,
  ⟨("_law_whole", none), "_law_whole", "_law_whole", defArgs s__law_whole, defBody s__law_whole, defScope s__law_whole, [], []⟩,
  ⟨("_law_same", none), "_law_same", "_law_same", defArgs s__law_same, defBody s__law_same, defScope s__law_same, [], []⟩,
  ⟨("law", none), "law", "law", defArgs s_law, defBody s_law, defScope s_law, [], []⟩]
def fa : List He.Fa := [.glo "_law_pot", .glo "_law_take", .glo "_law_order", .glo "_law_tied", .glo "_law_length", .glo "_law_web", .glo "web_text", .glo "is_number", .glo "number_in", .glo "is_whole", .glo "is_tie", .glo "is_web", .glo "tie_in", .glo "read_web", .glo "_law_written", .glo "_law_whole", .glo "_law_same", .glo "law", .free "all", .free "bool", .str "FIGURES" "0123456789", .int "LONGEST" (1000000000000000000), .int "MOST_FIGURES" (60), .int "MOST_PLACES" (24), .int "MOST_TIES" (60), .free "int", .free "isinstance", .free "len", .free "list", .free "max", .free "min", .free "range", .free "sorted", .free "str", .free "tuple", .glo "NoText", .exc "NoText", .free "zip"]
def loose0 : List Str := ["ThinError", "NoText", "MOST_PLACES", "MOST_TIES", "LONGEST", "is_whole", "is_tie", "is_web", "FIGURES", "MOST_FIGURES", "is_number", "number_in", "tie_in", "web_text", "read_web", "_law_pot", "_law_take", "_law_length", "_law_tied", "_law_order", "_law_web", "_law_whole", "_law_same", "_law_written"]
def loose : List Str := loose0
abbrev R : PySem.W.OpenRow := PySem.W.OpenLaw.row PySem.Challenge.rw_thinways_k86_webs_written
abbrev hk : PySem.W.Hook := He.hookD 4 fa fn
def ob (s : PySem.W.SharedT) : He.AlD := He.obsDG 4 fa fn (HandSHeadRun.getT s)
theorem ob_eq (s : PySem.W.SharedT) : ob s = hk.obs s.abs := He.obsDG_eq (HandSHeadRun.getT_eq s)
theorem run (w : World) : HandSHeadRun.RunEq R (PySem.W.view R.prog [28]) hk ob 2140 loose w := by
  intro os
  kernel_rfl
theorem facts {P : Program} {w : World} {K : PySem.W.Frag} {h : Heap} {mg : Str → Option Value} {f : Addr} (X : K.In h) (G : h.Ns mainGlobals mg) (hfa : mg ("law" : Str) = some (.ref f)) (c : He.SaysD fa fn K) :
    ∃ fd : FuncData, (∀ (s : Shared) (v : Value), BindsTo s fd ⟨[v], []⟩ [("script", v)]) ∧ ∀ base : Heap, K.In base → base.Ns mainGlobals mg → FnOkG P w K mg base CX0 10 f fd ["script"] (fun vs H Q _ => spM 1 K f_law vs H Q E0) := by
  have T : Top K mg := ⟨He.free_ok X G (c.fact 18 (f := .free "all") rfl), He.free_ok X G (c.fact 19 (f := .free "bool") rfl), He.str_ok X G (c.fact 20 (f := .str "FIGURES" "0123456789") rfl), He.int_ok X G (c.fact 21 (f := .int "LONGEST" (1000000000000000000)) rfl), He.int_ok X G (c.fact 22 (f := .int "MOST_FIGURES" (60)) rfl), He.int_ok X G (c.fact 23 (f := .int "MOST_PLACES" (24)) rfl), He.int_ok X G (c.fact 24 (f := .int "MOST_TIES" (60)) rfl), He.free_ok X G (c.fact 25 (f := .free "int") rfl), He.free_ok X G (c.fact 26 (f := .free "isinstance") rfl), He.free_ok X G (c.fact 27 (f := .free "len") rfl), He.free_ok X G (c.fact 28 (f := .free "list") rfl), He.free_ok X G (c.fact 29 (f := .free "max") rfl), He.free_ok X G (c.fact 30 (f := .free "min") rfl), He.free_ok X G (c.fact 31 (f := .free "range") rfl), He.free_ok X G (c.fact 32 (f := .free "sorted") rfl), He.free_ok X G (c.fact 33 (f := .free "str") rfl), He.free_ok X G (c.fact 34 (f := .free "tuple") rfl), He.glo_ok X G (c.fact 35 (f := .glo "NoText") rfl), He.exc_ok (c.fact 36 (f := .exc "NoText") rfl), He.free_ok X G (c.fact 37 (f := .free "zip") rfl)⟩
  obtain ⟨fd__law_pot, F__law_pot⟩ := c.def_ 0 (d := ⟨("_law_pot", none), "_law_pot", "_law_pot", defArgs s__law_pot, defBody s__law_pot, defScope s__law_pot, [], []⟩) rfl
  obtain ⟨fd__law_take, F__law_take⟩ := c.def_ 1 (d := ⟨("_law_take", none), "_law_take", "_law_take", defArgs s__law_take, defBody s__law_take, defScope s__law_take, [], []⟩) rfl
  obtain ⟨fd__law_order, F__law_order⟩ := c.def_ 2 (d := ⟨("_law_order", none), "_law_order", "_law_order", defArgs s__law_order, defBody s__law_order, defScope s__law_order, [], []⟩) rfl
  obtain ⟨fd__law_tied, F__law_tied⟩ := c.def_ 3 (d := ⟨("_law_tied", none), "_law_tied", "_law_tied", defArgs s__law_tied, defBody s__law_tied, defScope s__law_tied, [], []⟩) rfl
  obtain ⟨fd__law_length, F__law_length⟩ := c.def_ 4 (d := ⟨("_law_length", none), "_law_length", "_law_length", defArgs s__law_length, defBody s__law_length, defScope s__law_length, [], []⟩) rfl
  obtain ⟨fd__law_web, F__law_web⟩ := c.def_ 5 (d := ⟨("_law_web", none), "_law_web", "_law_web", defArgs s__law_web, defBody s__law_web, defScope s__law_web, [], []⟩) rfl
  obtain ⟨fd_web_text, F_web_text⟩ := c.def_ 6 (d := ⟨("web_text", none), "web_text", "web_text", defArgs s_web_text, defBody s_web_text, defScope s_web_text, [], []⟩) rfl
  obtain ⟨fd_is_number, F_is_number⟩ := c.def_ 7 (d := ⟨("is_number", none), "is_number", "is_number", defArgs s_is_number, defBody s_is_number, defScope s_is_number, [], []⟩) rfl
  obtain ⟨fd_number_in, F_number_in⟩ := c.def_ 8 (d := ⟨("number_in", none), "number_in", "number_in", defArgs s_number_in, defBody s_number_in, defScope s_number_in, [], []⟩) rfl
  obtain ⟨fd_is_whole, F_is_whole⟩ := c.def_ 9 (d := ⟨("is_whole", none), "is_whole", "is_whole", defArgs s_is_whole, defBody s_is_whole, defScope s_is_whole, [], []⟩) rfl
  obtain ⟨fd_is_tie, F_is_tie⟩ := c.def_ 10 (d := ⟨("is_tie", none), "is_tie", "is_tie", defArgs s_is_tie, defBody s_is_tie, defScope s_is_tie, [], []⟩) rfl
  obtain ⟨fd_is_web, F_is_web⟩ := c.def_ 11 (d := ⟨("is_web", none), "is_web", "is_web", defArgs s_is_web, defBody s_is_web, defScope s_is_web, [], []⟩) rfl
  obtain ⟨fd_tie_in, F_tie_in⟩ := c.def_ 12 (d := ⟨("tie_in", none), "tie_in", "tie_in", defArgs s_tie_in, defBody s_tie_in, defScope s_tie_in, [], []⟩) rfl
  obtain ⟨fd_read_web, F_read_web⟩ := c.def_ 13 (d := ⟨("read_web", none), "read_web", "read_web", defArgs s_read_web, defBody s_read_web, defScope s_read_web, [], []⟩) rfl
  obtain ⟨fd__law_written, F__law_written⟩ := c.def_ 14 (d := ⟨("_law_written", none), "_law_written", "_law_written", defArgs s__law_written, defBody s__law_written, defScope s__law_written, [], []⟩) rfl
  obtain ⟨fd__law_whole, F__law_whole⟩ := c.def_ 15 (d := ⟨("_law_whole", none), "_law_whole", "_law_whole", defArgs s__law_whole, defBody s__law_whole, defScope s__law_whole, [], []⟩) rfl
  obtain ⟨fd__law_same, F__law_same⟩ := c.def_ 16 (d := ⟨("_law_same", none), "_law_same", "_law_same", defArgs s__law_same, defBody s__law_same, defScope s__law_same, [], []⟩) rfl
  obtain ⟨fd_law, F_law⟩ := c.def_ 17 (d := ⟨("law", none), "law", "law", defArgs s_law, defBody s_law, defScope s_law, [], []⟩) rfl
  have e := hfa.symm.trans (He.glo_ok X G (c.fact 17 (f := .glo "law") rfl))
  cases e
  have b := FunD.bindsA (ps := ["script"]) F_law fun _ _ _ _ _ _ us hl => match us, hl with | [_], _ => rfl
  refine ⟨fd_law, fun s v => b s [v] rfl, fun base _ _ => ?_⟩
  have g__law_pot : Fn P w K mg base "_law_pot" 2 1 f__law_pot := ok__law_pot T F__law_pot (He.glo_ok X G (c.fact 0 (f := .glo "_law_pot") rfl))
  have g__law_take : Fn P w K mg base "_law_take" 2 1 f__law_take := ok__law_take T F__law_take (He.glo_ok X G (c.fact 1 (f := .glo "_law_take") rfl))
  have g__law_order : Fn P w K mg base "_law_order" 2 2 f__law_order := ok__law_order T g__law_take F__law_order (He.glo_ok X G (c.fact 2 (f := .glo "_law_order") rfl))
  have g__law_tied : Fn P w K mg base "_law_tied" 5 2 f__law_tied := ok__law_tied T g__law_take F__law_tied (He.glo_ok X G (c.fact 3 (f := .glo "_law_tied") rfl))
  have g__law_length : Fn P w K mg base "_law_length" 2 2 f__law_length := ok__law_length T g__law_take F__law_length (He.glo_ok X G (c.fact 4 (f := .glo "_law_length") rfl))
  have g__law_web : Fn P w K mg base "_law_web" 2 3 f__law_web := ok__law_web T g__law_take g__law_order g__law_tied g__law_length F__law_web (He.glo_ok X G (c.fact 5 (f := .glo "_law_web") rfl))
  have g_web_text : Fn P w K mg base "web_text" 1 1 f_web_text := ok_web_text T F_web_text (He.glo_ok X G (c.fact 6 (f := .glo "web_text") rfl))
  have g_is_number : Fn P w K mg base "is_number" 1 1 f_is_number := ok_is_number T F_is_number (He.glo_ok X G (c.fact 7 (f := .glo "is_number") rfl))
  have g_number_in : Fn P w K mg base "number_in" 1 2 f_number_in := ok_number_in T g_is_number F_number_in (He.glo_ok X G (c.fact 8 (f := .glo "number_in") rfl))
  have g_is_whole : Fn P w K mg base "is_whole" 1 1 f_is_whole := ok_is_whole T F_is_whole (He.glo_ok X G (c.fact 9 (f := .glo "is_whole") rfl))
  have g_is_tie : Fn P w K mg base "is_tie" 2 2 f_is_tie := ok_is_tie T g_is_whole F_is_tie (He.glo_ok X G (c.fact 10 (f := .glo "is_tie") rfl))
  have g_is_web : Fn P w K mg base "is_web" 1 3 f_is_web := ok_is_web T g_is_whole g_is_tie F_is_web (He.glo_ok X G (c.fact 11 (f := .glo "is_web") rfl))
  have g_tie_in : Fn P w K mg base "tie_in" 1 3 f_tie_in := ok_tie_in T g_number_in F_tie_in (He.glo_ok X G (c.fact 12 (f := .glo "tie_in") rfl))
  have g_read_web : Fn P w K mg base "read_web" 1 4 f_read_web := ok_read_web T g_number_in g_tie_in g_is_web F_read_web (He.glo_ok X G (c.fact 13 (f := .glo "read_web") rfl))
  have g__law_written : Fn P w K mg base "_law_written" 1 1 f__law_written := ok__law_written T F__law_written (He.glo_ok X G (c.fact 14 (f := .glo "_law_written") rfl))
  have g__law_whole : Fn P w K mg base "_law_whole" 1 1 f__law_whole := ok__law_whole T F__law_whole (He.glo_ok X G (c.fact 15 (f := .glo "_law_whole") rfl))
  have g__law_same : Fn P w K mg base "_law_same" 2 9 (f__law_same 8) := ok__law_same T g__law_whole F__law_same (He.glo_ok X G (c.fact 16 (f := .glo "_law_same") rfl)) 8
  exact fn_calm (ok_law T g__law_pot g__law_web g__law_take g_web_text g__law_written g__law_same g_read_web F_law)
local macro_rules | `(tactic| walk_at "run") => `(tactic| try simp only [↓wp_mStM, ↓wp_stM, ↓wp_mJs0, ↓wp_mJs1, ↓wp_catK, ↓wp_mItS, ↓inRgF_int, ↓wp_mDictZip, ↓wp_mLdM, ↓wp_ldM, ↓wp_mRng3, ↓rng3F_int, ↓wp_mDct1, ↓wp_mSort2, ↓fzD_dct, ↓inst_int_dc1, ↓inst_bool_dc1, ↓wp_mDGet2, ↓wp_dget2KT, ↓dget2QT_dtp, ↓wp_mChain3, ↓wp_chK3, ↓inst2_lt_list, ↓inst2_lt_tuple, ↓wp_mDictT, ↓wp_mListZip, ↓wp_mTryK, ↓kQ_nx, ↓kSQ_nx, ↓kSQ_rt, ↓kSQ_ex, ↓sufQ_nx, ↓sufQ_rt, ↓kQ_rt, ↓kQ_ex, ↓callQ_exc, ↓lQ_ex, ↓inst_int_dict_, ↓inst_bool_dict_, ↓inst_str_dict_, ↓inst_tuple_dict_, ↓inst_list_dict_, ↓isNF_dict, ↓wp_mZip3, ↓zipF3_tt, ↓zipF3_ll, ↓zipF3_lt, ↓zipF3_tl, ↓wp_mZipN, ↓zipTT_tt, ↓wp_mExt2, ↓wp_extK2, ↓isDx_dct, ↓isDx_dtp, ↓wp_dgetKT, ↓dgetQT_dtp, ↓wp_dinKT, ↓dinQT_dtp, ↓wp_putKKT, ↓putDQT_dtp, ↓iceG_dtp, ↓wp_mSortK, ↓sortKQ_dct, ↓wp_mZip2, ↓zipF2_tt, ↓zipF2_ll, ↓zipF2_lt, ↓wp_mExt, ↓wp_extK, ↓extQ_lst, ↓wp_mIns, ↓wp_insK, ↓insQ_lst, ↓inst_int_int_, ↓inst_int_bool_, ↓inst_int_none_, ↓inst_int_tuple_, ↓inst_int_list_, ↓inst_int_str_, ↓inst_bool_int_, ↓inst_bool_bool_, ↓inst_bool_none_, ↓inst_bool_tuple_, ↓inst_bool_list_, ↓inst_bool_str_, ↓inst_tuple_int_, ↓inst_tuple_bool_, ↓inst_tuple_none_, ↓inst_tuple_tuple_, ↓inst_tuple_list_, ↓inst_tuple_str_, ↓inst_list_int_, ↓inst_list_bool_, ↓inst_list_none_, ↓inst_list_tuple_, ↓inst_list_list_, ↓inst_list_str_, ↓inst_str_int_, ↓inst_str_bool_, ↓inst_str_none_, ↓inst_str_tuple_, ↓inst_str_list_, ↓inst_str_str_, ↓wp_mPar, ↓wp_parK, ↓mulXF_int, ↓mulXF_tup, ↓mulXF_lst, ↓wp_mBack, ↓slcBF_tup, ↓slcBF_list, ↓wp_bM, ↓wp_mDGet, ↓wp_mDPop, ↓wp_dgetK, ↓dgetQ_dct, ↓wp_dpopK, ↓dpopQ_dct, ↓wp_mDIn, ↓wp_dinK, ↓dinQ_dct, ↓isDct_dct, ↓wp_mDisp1, ↓keyD_int, ↓wp_mDPut, ↓wp_setFD, ↓wp_putKK, ↓putDQ_dct, ↓wp_mItems, ↓itemsQ_lck, ↓wp_mLock, ↓lockQ_dct, ↓lockR_ok, ↓iceG_dct, ↓intF_bool, ↓wp_mRem, ↓wp_remK, ↓remQ_lst, ↓wp_mPure, ↓pureQ_ok, ↓iceG_nil, ↓iceG_none, ↓iceG_frz, ↓iceG_scr, ↓inst_bool_bool, ↓neF_bool, ↓eqF_pair, ↓cut2, ↓wp_mChain, ↓wp_chK, ↓wp_mApp2, ↓wp_app2K, ↓app2Q_lst, ↓rowOf_lst, ↓wp_app2S, ↓isTF_bool, ↓isntTF_bool, ↓inst_tup, ↓wp_mPopAt, ↓wp_popK, ↓popQ_lst, ↓frzOf_frz, ↓wp_mEnum, ↓wp_mZip, ↓wp_mLstR, ↓wp_mTupR, ↓wp_mRgA1, ↓wp_rgK, ↓wp_mRgA2, ↓wp_rgK2, ↓wp_mSlice, ↓wp_mNone, ↓wp_mSome, ↓wp_someK, ↓slcF_tup, ↓slcF_list, ↓wp_mRep, ↓itemsF_list, ↓itemsF_tup, ↓tupF_list, ↓tupF_tup, ↓ltxF_int, ↓gtxF_int, ↓lexF_int, ↓gexF_int, ↓wp_bS, ↓bQ_ok, ↓sQ_ok, ↓bQ_ex, ↓sQ_ex, ↓wp_pM, ↓wp_oM, ↓wp_mC, ↓wp_qS, ↓nQ_nx, ↓nQ_rt, ↓nQ_bk, ↓nQ_ct, ↓nQ_ex, ↓wp_nS, ↓atV_0, ↓atV_s, ↓onO_some, ↓onO_if, ↓onO_map, ↓wp_mVar, ↓varQ_frz, ↓varQ_lst, ↓wp_mMove, ↓wp_mPeek, ↓peekQ_frz, ↓peekQ_lst, ↓ice_frz, ↓fzs_frz, ↓wp_mSet, ↓wp_store, ↓wp_mT, ↓wp_mF, ↓fz_frz, ↓fz_lst, ↓wp_mB, ↓isB_bool, ↓wp_mOp, ↓wp_mC1, ↓wp_mC2, ↓wp_mC1T, ↓wp_mRet, ↓wp_rt, ↓wp_nx, ↓wp_exS, ↓wp_mDrop, Bool.not_true, Bool.not_false, decide_true, decide_false, ↓ifQ_t, ↓ifQ_f, ifQ_t, ifQ_f, ↓ifQ_d, ↓wp_mWhen, ↓wp_ifS, ↓wp_ifM, ↓wp_mIf, ↓wp_mAnd, ↓wp_mOr, ↓wp_mNot, ↓wp_andF, ↓wp_orF, ↓wp_mAndV, ↓wp_mOrV, ↓wp_notFn, ↓wp_mNotV, ↓wp_mNil, ↓wp_mCons, ↓wp_mTup, ↓wp_mLst, ↓ixW_frz, ↓ixW_scr, ↓ixW_lst, ↓ixL_frz, ↓ixL_lst, ↓wp_ixS, ↓wp_ixV, ↓putQ_lst, ↓wp_mSetIx, ↓wp_setF, ↓wp_setK, ↓appQ_lst, ↓isL_lst, ↓wp_mApp, ↓wp_appK, ↓wp_mLen, ↓lenT_frz, ↓lenT_scr, ↓lenT_lst, ↓lenF_list, ↓lenF_tuple, ↓wp_mAug, ↓addF_int, ↓addF_tup, ↓addF_list, ↓subF_int, ↓mulF_int, ↓modF_int, ↓divF_int, ↓powF_int, ↓ltF_int, ↓leF_int, ↓gtF_int, ↓geF_int, ↓eqF_int, ↓neF_int, ↓eqF_bool, ↓iaddF_int, ↓max2F_int, ↓min2F_int, ↓isNF_no, ↓notNF_no, ↓ixF_list, ↓ixF_tup, ↓ixN20, ↓ixN21, bigs, List.set, ↓at0, ↓at1, ↓at2, ↓inst_int_int, ↓inst_bool_int, ↓callQ_ret, ↓wp_mCall, ↓wp_callF, ↓wp_mArgs_nil, ↓wp_mArgs_d, ↓wp_mArgs_own, ↓restore_own, ↓restore_own0, ↓restore_d, ↓restore_cp, ↓restore_tm, ↓wp_mArgs_tm, ↓wp_mArgs_cp, ↓cpQ_scr, ↓wp_mCopy, ↓restore_nil, ↓finQ_rt, ↓finQ_nx, ↓finQ_ex, ↓wp_mFor, ↓wp_mRng1, ↓wp_mRng2, ↓wp_mIt, ↓rng1F_int, ↓rng2F_int, ↓lQ_nx, ↓lQ_ct, ↓lQ_bk, ↓lQ_rt, ↓lQ_ex, ↓whQ_ok, ↓wp_mComp, ↓wp_compK, ↓tsQ_ok, ↓elQ_ok, ↓wipeG_nil, ↓wipeG_cons, ↓gN_eq, ↓on_storeG, ↓on_gTu, ↓on_gTuL, ↓on_gC, ↓on_gE, ↓wp_mAsg, ↓wp_asgK, ↓allF_list, ↓anyF_list, List.set_cons_zero, List.set_cons_succ, List.length_cons, List.length_nil, List.length_set, List.map_cons, List.map_nil, List.cons_append, List.nil_append, List.replicate, Nat.reduceSub, Nat.reduceAdd])
/-! the draws -/
def potT (p : Int × Int) : T := .lst [.frz (.int p.1), .frz (.int p.2)]
def take (p : Int × Int) (many : Int) : Int × (Int × Int) :=
  if 0 < p.1 then (p.1 % many, (p.1 / many, p.2)) else
    ((((p.2 * 48271 + 12820163) % 2147483647) ^ 3 % 2147483629 / 8 % many), (p.1, (p.2 * 48271 + 12820163) % 2147483647))
def PotOk (p : Int × Int) : Prop := 0 ≤ p.2 ∧ p.2 < 2147483647
theorem run_take {p : Int × Int} {many : Int} (hp : PotOk p) (hm : 0 < many) (hb : many < 10 ^ 30) :
    f__law_take [potT p, .frz (.int many)] = some (.ret (.frz (.int (take p many).1)) [some (potT (take p many).2), none]) := by
  obtain ⟨p0, p1⟩ := p
  obtain ⟨h0, h1⟩ := hp
  refine mf_eq (on_mf rfl ?_)
  unfold b__law_take potT
  have hbig : big many = true := big_of (by omega) (by omega)
  have hb1 : big p1 = true := big_of (by dsimp only at h0; omega) (by dsimp only at h1; omega)
  walk_at "run"
  refine ⟨fun h => ?_, fun h => ?_⟩
  · unfold take
    rw [if_pos h]
    exact ⟨hm, by decide, ⟨hm, hbig⟩, rfl⟩
  · unfold take
    rw [if_neg h]
    have hq0 : 0 ≤ (p1 * 48271 + 12820163) % 2147483647 := Int.emod_nonneg _ (by decide)
    have hq1 : (p1 * 48271 + 12820163) % 2147483647 < 2147483647 := Int.emod_lt_of_pos _ (by decide)
    exact ⟨⟨hb1, by decide +kernel⟩, by decide, ⟨by decide, by decide, by omega⟩, by decide, ⟨by decide, by decide +kernel⟩, hm, rfl⟩
theorem take_ok {p : Int × Int} {many : Int} (hp : PotOk p) (hm : 0 < many) : 0 ≤ (take p many).1 ∧ (take p many).1 < many ∧ PotOk (take p many).2 := by
  unfold take
  split
  · exact ⟨Int.emod_nonneg _ (by omega), Int.emod_lt_of_pos _ hm, hp⟩
  · exact ⟨Int.emod_nonneg _ (by omega), Int.emod_lt_of_pos _ hm, Int.emod_nonneg _ (by decide), Int.emod_lt_of_pos _ (by decide)⟩
/-- some pot: which one is never asked -/
theorem on_take {p : Int × Int} {many : Int} (hp : PotOk p) (hm : 0 < many) (hb : many < 10 ^ 30) {Q : CR → Prop} (h : ∀ (r : Int) (p' : Int × Int), 0 ≤ r → r < many → PotOk p' → Q (.ret (.frz (.int r)) [some (potT p'), none])) : onO (f__law_take [potT p, .frz (.int many)]) Q := by
  rw [run_take hp hm hb, onO_some]
  obtain ⟨h1, h2, h3⟩ := take_ok hp hm
  exact h _ _ h1 h2 h3
theorem at_nat {α : Type} {l : List α} {k : Int} (h0 : 0 ≤ k) (h1 : k < l.length) : ∃ a, atI l k = some a ∧ l[k.toNat]? = some a := by
  have hlt : k.toNat < l.length := by omega
  refine ⟨l[k.toNat], ?_, List.getElem?_eq_getElem hlt⟩
  have := atI_nat (j := k.toNat) (List.getElem?_eq_getElem hlt)
  rw [show ((k.toNat : Nat) : Int) = k by omega] at this
  exact this
theorem five {k : Int} (h0 : 0 ≤ k) : ∃ q : Int, atI [PyData.int 2147483629, PyData.int 2147483587, PyData.int 2147483579, PyData.int 2147483563, PyData.int 2147483549] (k % 5) = some (.int q) ∧ 0 < q ∧ q < 2147483647 := by
  have h1 : 0 ≤ k % 5 := Int.emod_nonneg _ (by decide)
  have h2 : k % 5 < 5 := Int.emod_lt_of_pos _ (by decide)
  rcases (show k % 5 = 0 ∨ k % 5 = 1 ∨ k % 5 = 2 ∨ k % 5 = 3 ∨ k % 5 = 4 by omega) with e | e | e | e | e <;> rw [e]
  · exact ⟨2147483629, rfl, by decide, by decide⟩
  · exact ⟨2147483587, rfl, by decide, by decide⟩
  · exact ⟨2147483579, rfl, by decide, by decide⟩
  · exact ⟨2147483563, rfl, by decide, by decide⟩
  · exact ⟨2147483549, rfl, by decide, by decide⟩
theorem on_pot {ns : List Int} {k : Int} (h0 : 0 ≤ k) (h1 : k < 10 ^ 9) {Q : CR → Prop} (h : ∀ p, PotOk p → Q (.ret (potT p) [none, none])) : onO (f__law_pot [.scr ns, .frz (.int k)]) Q := by
  refine on_mf rfl ?_
  unfold b__law_pot
  have e10 : big (10 ^ (60 : Int).toNat) = true := by decide +kernel
  have e20 : big (10 ^ (60 : Int).toNat * 10 ^ (60 : Int).toNat) = true := by decide +kernel
  have s2 : 2 ≤ sizeLine := by decide
  have s5 : 5 ≤ sizeLine := by decide
  have bk : big k = true := big_of (by omega) (by omega)
  have p10 : (0 : Int) < 10 ^ (60 : Int).toNat * 10 ^ (60 : Int).toNat * 10 ^ (60 : Int).toNat := by decide +kernel
  obtain ⟨q, eq, q0, q1⟩ := five h0
  have pw : ∀ z : Int, (z % q + 7919 * k + 11).natAbs < 2 ^ 64 := fun z => by
    have := Int.emod_nonneg z (show q ≠ 0 by omega)
    have := Int.emod_lt_of_pos z q0
    omega
  have pk : ∀ x : Int, PotOk (x, (x : Int)) ∨ True := fun _ => .inr trivial
  have m0 : ∀ x : Int, 0 ≤ x % 2147483647 ∧ x % 2147483647 < 2147483647 := fun x => ⟨Int.emod_nonneg _ (by decide), Int.emod_lt_of_pos _ (by decide)⟩
  walk_at "run"
  refine ⟨by decide, fun hk => ?_, fun hk => ?_⟩
  · obtain ⟨z, ez, _⟩ := at_nat (l := ns) h0 hk
    refine onO_mk ez ⟨by decide, by decide, ⟨e10, e10⟩, by decide, ⟨e20, e10⟩, p10, by decide, s5, by decide, onO_mk eq ⟨by decide, by decide, ?_⟩⟩
    walk_at "run"
    exact ⟨q0, ⟨by decide +kernel, bk⟩, ⟨by decide, by decide, pw _⟩, by decide, s2, h (_, _) (m0 _)⟩
  · refine ⟨s5, by decide, onO_mk eq ⟨by decide, by decide, ?_⟩⟩
    walk_at "run"
    exact ⟨q0, ⟨by decide +kernel, bk⟩, ⟨by decide, by decide, pw _⟩, by decide, s2, h (_, _) (m0 _)⟩

/-! ### webs as data (pure part; k32m ahead) -/
theorem ifQ_both {A B : Prop} {t : Bool} (a : A) (b : B) : ifQ A B t := by cases t; exact b; exact a
theorem perm_erase {α : Type} : ∀ {l : List α} {i : Nat} (h : i < l.length), (l[i] :: l.eraseIdx i).Perm l
  | x :: l, 0, h => by simp
  | x :: l, i + 1, h => by
    have h' : i < l.length := by simpa using h
    have := perm_erase h'
    simp only [List.getElem_cons_succ, List.eraseIdx_cons_succ]
    exact (List.Perm.swap _ _ _).trans (List.Perm.cons _ this)
theorem map_erase {α β : Type} (f : α → β) : ∀ (l : List α) (i : Nat), (l.map f).eraseIdx i = (l.eraseIdx i).map f
  | [], i => by simp
  | x :: l, 0 => by simp
  | x :: l, i + 1 => by simp [map_erase f l i]
def natT (n : Nat) : T := .frz (.int (n : Int))
def natD (n : Nat) : PyData := .int (n : Int)
theorem nat_fzs (l : List Nat) : fzs (l.map natT) = some (l.map natD) := by
  rw [show l.map natT = (l.map natD).map .frz by rw [List.map_map]; rfl]
  exact fzs_frz _
theorem upto_nat (n : Nat) : (upto 0 n).map T.frz = (List.range n).map natT := by
  unfold upto
  rw [List.map_map]
  refine List.map_congr_left fun i _ => ?_
  show T.frz (.int (0 + (i : Int))) = natT i
  rw [Int.zero_add]
  rfl
theorem rgF_nat {n : Nat} (h : n ≤ 16777216) : rgF 0 (n : Int) = some (upto 0 n) := by
  rw [rgF_at ⟨by decide, by decide, by omega, by omega, by omega⟩, show ((n : Int) - 0).toNat = n by omega]
theorem sz_ge (n : Nat) (h : n ≤ 1000000) : n ≤ sizeLine := by rw [sizeLine_eq]; omega
theorem szlt (n : Nat) (h : n ≤ 1000000) : n < sizeLine := by rw [sizeLine_eq]; omega
/-- a tie -/
abbrev Tie := Nat × Nat × Nat
def tieL (t : Tie) : List Int := [(t.1 : Int), (t.2.1 : Int), (t.2.2 : Int)]
def tieD (t : Tie) : PyData := .tuple [.int (t.1 : Int), .int (t.2.1 : Int), .int (t.2.2 : Int)]
theorem tieD_eq (t : Tie) : tieD t = tupD (tieL t) := rfl
def webD (n : Nat) (ts : List Tie) : PyData := .tuple [.int (n : Int), .tuple (ts.map tieD)]
def tieLt (t u : Tie) : Prop := t.1 < u.1 ∨ (t.1 = u.1 ∧ t.2.1 < u.2.1)
structure WebOk (most n : Nat) (ts : List Tie) : Prop where
  one : 1 ≤ n
  le : n ≤ most
  few : ts.length ≤ 60
  ok : ∀ t ∈ ts, t.1 < t.2.1 ∧ t.2.1 < n ∧ 1 ≤ t.2.2 ∧ t.2.2 ≤ 10 ^ 18
  rise : ts.Pairwise tieLt
/-- the sorted ties -/
def sortT (ts : List Tie) : List Tie := ts.mergeSort fun t u => lexLe (tieL t) (tieL u)
theorem sortT_eq (ts : List Tie) : sortL (ts.map tieL) = (sortT ts).map tieL := by
  unfold sortL sortT
  exact (List.map_mergeSort (r := fun t u => lexLe (tieL t) (tieL u)) (s := lexLe) (f := tieL) (l := ts) fun a _ b _ => rfl).symm
theorem sortT_perm (ts : List Tie) : (sortT ts).Perm ts := List.mergeSort_perm _ _
theorem sortT_rise {ts : List Tie} (h : ts.Pairwise fun t u => t.1 ≠ u.1 ∨ t.2.1 ≠ u.2.1) : (sortT ts).Pairwise tieLt := by
  have h1 : (sortT ts).Pairwise fun t u => t.1 ≠ u.1 ∨ t.2.1 ≠ u.2.1 := (List.Perm.pairwise_iff (fun a => a.imp Ne.symm Ne.symm) (sortT_perm ts)).mpr h
  have h2 := sortL_le (ts.map tieL)
  rw [sortT_eq] at h2
  have h3 := List.pairwise_map.mp h2
  refine (h1.and h3).imp fun {t u} q => ?_
  obtain ⟨q1, q2⟩ := q
  unfold tieL at q2
  rw [lexL_cons] at q2
  unfold tieLt
  by_cases e : (u.1 : Int) = t.1
  · rw [if_pos e, lexL_cons] at q2
    right
    refine ⟨by omega, ?_⟩
    by_cases e2 : (u.2.1 : Int) = t.2.1
    · omega
    · rw [if_neg e2] at q2
      have := of_decide_eq_false q2
      omega
  · rw [if_neg e] at q2
    have := of_decide_eq_false q2
    left
    omega
theorem sort_ties (ts : List Tie) : sortF (.list (ts.map tieD)) = some ((sortT ts).map tieD) := by
  rw [sortF_list_tups (ts.map tieL) (fun k m => by
    obtain ⟨t, _, rfl⟩ := List.mem_map.mp m
    simp [tieL]) (by rw [List.map_map]; rfl), sortT_eq, List.map_map]
  rfl
theorem sort2 (x y : Int) : sortF (.list [.int x, .int y]) = some [.int (min x y), .int (max x y)] := by
  refine (sortF_list_ints (ds := [.int x, .int y]) [x, y] rfl).trans ?_
  have e : sortI [x, y] = [min x y, max x y] := by
    refine (sortI_uniq ?_ ?_).symm
    · by_cases h : x ≤ y
      · rw [Int.min_eq_left h, Int.max_eq_right h]
      · rw [Int.min_eq_right (by omega), Int.max_eq_left (by omega)]; exact List.Perm.swap _ _ _
    · simp; omega
  rw [e]
  rfl
/-- the ties so far, of names behind which all pairs ahead of (a, b) have been asked -/
structure Sofar (n : Nat) (names : List Nat) (b a : Nat) (ts : List Tie) : Prop where
  few : ts.length ≤ 60
  ok : ∀ t ∈ ts, t.1 < t.2.1 ∧ t.2.1 < n ∧ 1 ≤ t.2.2 ∧ t.2.2 ≤ 10 ^ 18
  dis : ts.Pairwise fun t u => t.1 ≠ u.1 ∨ t.2.1 ≠ u.2.1
  at_ : ∀ t ∈ ts, ∃ i j, i < j ∧ (j < b ∨ (j = b ∧ i < a)) ∧ t.1 = min (names.getD i 0) (names.getD j 0) ∧ t.2.1 = max (names.getD i 0) (names.getD j 0)
theorem Sofar.next {n b a b' a' : Nat} {names : List Nat} {ts : List Tie} (s : Sofar n names b a ts) (h : b < b' ∨ (b = b' ∧ a ≤ a')) : Sofar n names b' a' ts :=
  ⟨s.few, s.ok, s.dis, fun t m => by
    obtain ⟨i, j, h1, h2, h3⟩ := s.at_ t m
    exact ⟨i, j, h1, by omega, h3⟩⟩
theorem nm_lt {n : Nat} {names : List Nat} (hp : names.Perm (List.range n)) {i : Nat} (hi : i < n) : names.getD i 0 < n := by
  have hl : names.length = n := by rw [hp.length_eq, List.length_range]
  have hi' : i < names.length := by omega
  have e : names.getD i 0 = names[i] := by simp [hi']
  rw [e]
  exact List.mem_range.mp (hp.mem_iff.mp (List.getElem_mem hi'))
theorem nm_inj {n : Nat} {names : List Nat} (hp : names.Perm (List.range n)) {i j : Nat} (hi : i < n) (hj : j < n) (h : names.getD i 0 = names.getD j 0) : i = j := by
  have hl : names.length = n := by rw [hp.length_eq, List.length_range]
  have hnd : names.Nodup := hp.nodup_iff.mpr List.nodup_range
  have hi' : i < names.length := by omega
  have hj' : j < names.length := by omega
  have e : names.getD i 0 = names[i] := by simp [hi']
  have e' : names.getD j 0 = names[j] := by simp [hj']
  rw [e, e'] at h
  exact (List.getElem_inj hnd).mp h
theorem Sofar.add {n b a w : Nat} {names : List Nat} {ts : List Tie} (hp : names.Perm (List.range n)) (s : Sofar n names b a ts) (hl : ts.length < 60) (ha : a < b) (hb : b < n) (w0 : 1 ≤ w) (w1 : w ≤ 10 ^ 18) :
    Sofar n names b (a + 1) (ts ++ [(min (names.getD a 0) (names.getD b 0), max (names.getD a 0) (names.getD b 0), w)]) := by
  have la := nm_lt hp (show a < n by omega)
  have lb := nm_lt hp hb
  have ne : names.getD a 0 ≠ names.getD b 0 := fun e => by have := nm_inj hp (by omega) hb e; omega
  refine ⟨by rw [List.length_append]; simp; omega, fun t m => ?_, ?_, fun t m => ?_⟩
  · rcases List.mem_append.mp m with m | m
    · exact s.ok t m
    · rw [List.mem_singleton.mp m]
      dsimp only
      omega
  · refine List.pairwise_append.mpr ⟨s.dis, List.pairwise_singleton _ _, fun t m u mu => ?_⟩
    rw [List.mem_singleton.mp mu]
    obtain ⟨i, j, h1, h2, h3, h4⟩ := s.at_ t m
    dsimp only
    rw [h3, h4]
    have li := nm_lt hp (show i < n by omega)
    have lj := nm_lt hp (show j < n by omega)
    by_cases e1 : names.getD i 0 = names.getD a 0
    · have := nm_inj hp (show i < n by omega) (by omega) e1
      have e2 : names.getD j 0 ≠ names.getD b 0 := fun e => by have := nm_inj hp (show j < n by omega) hb e; omega
      omega
    · by_cases e2 : names.getD i 0 = names.getD b 0
      · have := nm_inj hp (show i < n by omega) hb e2
        omega
      · omega
  · rcases List.mem_append.mp m with m | m
    · obtain ⟨i, j, h1, h2, h3⟩ := s.at_ t m
      exact ⟨i, j, h1, by omega, h3⟩
    · rw [List.mem_singleton.mp m]
      exact ⟨a, b, ha, .inr ⟨rfl, by omega⟩, rfl, rfl⟩
theorem tie_snoc (ts : List Tie) (t : Tie) : List.map T.frz (List.map tieD ts) ++ [T.frz (.tuple [.int (t.1 : Int), .int (t.2.1 : Int), .int (t.2.2 : Int)])] = ((ts ++ [t]).map tieD).map .frz := by
  rw [List.map_append, List.map_append]
  rfl

/-! ### run of _law_order (webm ahead) -/
theorem on_order {p : Int × Int} {many : Nat} (hp : PotOk p) (hm : many ≤ 1000) {Q : CR → Prop} (h : ∀ (names : List Nat) (p' : Int × Int), names.Perm (List.range many) → PotOk p' → Q (.ret (.lst (names.map natT)) [some (potT p'), none])) :
    onO (f__law_order [potT p, .frz (.int many)]) Q := by
  refine on_mf rfl ?_
  unfold b__law_order
  walk_at "run"
  rw [rgF_nat (by omega)]
  walk_at "run"
  refine ⟨by decide, Nat.zero_le _, by decide, ⟨by omega, by omega⟩, ?_⟩
  rw [show ((many : Int)).toNat = many by omega, upto_nat]
  refine loop_upto (fun i Γ => ∃ (p : Int × Int) (left found : List Nat) (t : Option T), PotOk p ∧ (found ++ left).Perm (List.range many) ∧ left.length + i = many ∧ found.length = i ∧ Γ = [some (potT p), some (.frz (.int many)), some (.lst (left.map natT)), some (.lst (found.map natT)), t])
    ⟨p, List.range many, [], none, hp, by simp, by simp, rfl, rfl⟩ ?_ ?_
  · rintro i Γ hi ⟨p, left, found, t, hp, hpm, hl, hf, rfl⟩
    walk_at "run"
    rw [List.length_map]
    refine ⟨by decide, on_take (many := (left.length : Int)) hp (by omega) (by omega) fun r p1 a b hp1 => ?_⟩
    walk_at "run"
    have hr : r.toNat < left.length := by omega
    refine onO_mk (a := r.toNat) (by unfold ixN; rw [if_pos a, if_pos (by rw [List.length_map]; omega)]) (onO_mk (a := natT left[r.toNat]) (by rw [List.getElem?_map, List.getElem?_eq_getElem hr]; rfl) ?_)
    refine onO_mk (a := PyData.int (left[r.toNat] : Nat)) rfl ⟨by rw [List.length_map]; exact sz_ge _ (by omega), ?_⟩
    refine ⟨by rw [List.length_map]; exact szlt _ (by omega), p1, left.eraseIdx r.toNat, found ++ [left[r.toNat]], some (.frz (.int (0 + (i : Int)))), hp1, ?_, ?_, ?_, ?_⟩
    · refine List.Perm.trans ?_ hpm
      rw [List.append_assoc]
      refine List.Perm.append_left _ ?_
      exact (perm_erase hr)
    · rw [List.length_eraseIdx, if_pos hr]; omega
    · rw [List.length_append, hf]; rfl
    · rw [List.map_append, map_erase]
      rfl
  · rintro Γ ⟨p, left, found, t, hp, hpm, hl, hf, rfl⟩
    walk_at "run"
    have e : left = [] := by
      cases left with
      | nil => rfl
      | cons x l => simp at hl
    subst e
    exact h found p (by simpa using hpm) hp

/-! ### drawn webs (webm, drawo ahead) -/
theorem six {k : Int} (h0 : 0 ≤ k) (h1 : k < 6) : ∃ w : Int, atI [PyData.int 1, PyData.int 2, PyData.int 3, PyData.int (10 ^ Int.toNat 18), PyData.int (10 ^ Int.toNat 18 - 1), PyData.int (10 ^ Int.toNat 17)] k = some (.int w) ∧ 1 ≤ w ∧ w ≤ 10 ^ 18 := by
  rcases (show k = 0 ∨ k = 1 ∨ k = 2 ∨ k = 3 ∨ k = 4 ∨ k = 5 by omega) with e | e | e | e | e | e <;> rw [e]
  · exact ⟨1, rfl, by decide, by decide⟩
  · exact ⟨2, rfl, by decide, by decide⟩
  · exact ⟨3, rfl, by decide, by decide⟩
  · exact ⟨_, rfl, by decide, by decide⟩
  · exact ⟨_, rfl, by decide, by decide⟩
  · exact ⟨_, rfl, by decide, by decide⟩
theorem on_length {p : Int × Int} {way : Int} (hp : PotOk p) (h0 : 0 ≤ way) (h1 : way < 5) {Q : CR → Prop} (h : ∀ (w : Nat) (p' : Int × Int), 1 ≤ w → w ≤ 10 ^ 18 → PotOk p' → Q (.ret (.frz (.int w)) [some (potT p'), none])) : onO (f__law_length [potT p, .frz (.int way)]) Q := by
  refine on_mf rfl ?_
  unfold b__law_length
  have fin : ∀ (w : Int) (p' : Int × Int), 1 ≤ w → w ≤ 10 ^ 18 → PotOk p' → Q (.ret (.frz (.int w)) [some (potT p'), none]) := fun w p' a b c => by
    have := h w.toNat p' (by omega) (by omega) c
    rwa [show ((w.toNat : Nat) : Int) = w by omega] at this
  walk_at "run"
  refine ⟨fun c => ?_, fun c => ?_⟩
  · refine on_take hp (by decide) (by decide) fun r p1 a b hp1 => ?_
    walk_at "run"
    refine ⟨by decide, ?_⟩
    rcases (show way = 0 ∨ way = 1 by omega) with e | e <;> subst e
    · exact onO_mk (a := .int 1) rfl (fin 1 p1 (by omega) (by omega) hp1)
    · exact onO_mk (a := .int (1 + r)) rfl (fin (1 + r) p1 (by omega) (by omega) hp1)
  · refine ⟨fun c2 => ?_, fun c2 => ?_⟩
    · refine on_take hp (by decide) (by decide) fun r p1 a b hp1 => ?_
      walk_at "run"
      exact fin (1 + r) p1 (by omega) (by omega) hp1
    · refine ⟨fun c3 => ?_, fun c3 => ?_⟩
      · refine ⟨by decide, by decide, by decide, by decide, on_take hp (by decide) (by decide) fun r p1 a b hp1 => ?_⟩
        walk_at "run"
        obtain ⟨w, e, w0, w1⟩ := six a b
        exact onO_mk e (fin w p1 w0 w1 hp1)
      · refine ⟨by decide, on_take hp (by decide) (by decide) fun r p1 a b hp1 => ?_⟩
        walk_at "run"
        refine ⟨by decide, on_take hp1 (by decide) (by decide) fun r2 p2 a2 b2 hp2 => ?_⟩
        walk_at "run"
        have b3 : r < 10 ^ 9 := b
        have b4 : r2 < 10 ^ 9 + 1 := b2
        refine ⟨⟨big_of (by omega) (by omega), big_of (by omega) (by omega)⟩, fin (1 + r * r2) p2 ?_ ?_ hp2⟩
        · have := Int.mul_nonneg a a2
          omega
        · have h5 : r * r2 ≤ (10 ^ 9 - 1) * 10 ^ 9 := Int.mul_le_mul (by omega) (by omega) a2 (by decide)
          omega
theorem on_tied {p : Int × Int} {n style a b : Int} (hp : PotOk p) (hs : 0 ≤ style) (hs8 : style < 8) (ha : 0 ≤ a) (hb : 0 ≤ b) {Q : CR → Prop} (h : ∀ (t : Bool) (p' : Int × Int), PotOk p' → Q (.ret (.frz (.bool t)) [some (potT p'), none, none, none, none])) :
    onO (f__law_tied [potT p, .frz (.int n), .frz (.int style), .frz (.int a), .frz (.int b)]) Q := by
  refine on_mf rfl ?_
  unfold b__law_tied
  walk_at "run"
  repeat' first
    | exact h _ _ (by assumption)
    | decide
    | (refine on_take (by assumption) (by decide) (by decide) fun r p1 a0 b0 hp1 => ?_; walk_at "run")
    | (refine ifQ_both ?_ ?_)
    | (refine And.intro ?_ ?_)
    | intro _
def webG (most n : Nat) (style way : Int) (names : List Nat) (p : Int × Int) (ts : List Tie) (t7 t8 t9 t10 : Option T) : G := [some (potT p), some (.frz (.int most)), some (.frz (.int n)), some (.frz (.int style)), some (.frz (.int way)), some (.frz (.list (names.map natD))), some (.lst ((ts.map tieD).map .frz)), t7, t8, t9, t10]
theorem on_web {p : Int × Int} {most : Nat} (hp : PotOk p) (hm : most ≤ 24) (hm1 : 1 ≤ most) {Q : CR → Prop} (h : ∀ (n : Nat) (ts : List Tie) (p' : Int × Int), WebOk most n ts → PotOk p' → Q (.ret (.frz (webD n ts)) [some (potT p'), none])) :
    onO (f__law_web [potT p, .frz (.int most)]) Q := by
  refine on_mf rfl ?_
  unfold b__law_web
  walk_at "run"
  refine on_take (many := (most : Int)) hp (by omega) (by omega) fun r p1 a1 b1 hp1 => ?_
  walk_at "run"
  refine ⟨by decide, on_take hp1 (by decide) (by decide) fun style p2 a2 b2 hp2 => ?_⟩
  walk_at "run"
  refine ⟨by decide, on_take hp2 (by decide) (by decide) fun way p3 a3 b3 hp3 => ?_⟩
  walk_at "run"
  obtain ⟨n, hn⟩ : ∃ n : Nat, 1 + r = (n : Int) := ⟨(1 + r).toNat, by omega⟩
  rw [hn]
  refine ⟨by decide, on_order hp3 (many := n) (by omega) fun names p4 hnm hp4 => ?_⟩
  walk_at "run"
  refine onO_mk (nat_fzs names) ⟨by decide, Nat.zero_le _, by decide, ⟨by omega, by omega⟩, ?_⟩
  rw [show ((n : Int)).toNat = n by omega]
  have hlen : names.length = n := by rw [hnm.length_eq, List.length_range]
  have nat_at : ∀ i : Nat, i < n → atI (names.map natD) (i : Int) = some (natD (names.getD i 0)) := fun i hi => by
    have hi' : i < names.length := by omega
    refine atI_nat ?_
    rw [List.getElem?_map, List.getElem?_eq_getElem hi']
    simp [hi']
  refine loop_upto (fun b Γ => b ≤ n ∧ ∃ (p : Int × Int) (ts : List Tie) (t7 t8 t9 t10 : Option T), PotOk p ∧ Sofar n names b 0 ts ∧ Γ = webG most n style way names p ts t7 t8 t9 t10) ⟨Nat.zero_le _, p4, [], none, none, none, none, hp4, ⟨by simp, by simp, List.Pairwise.nil, by simp⟩, rfl⟩ ?_ ?_
  · rintro b Γ hb ⟨_, p5, ts, t7, t8, t9, t10, hp5, hs, rfl⟩
    unfold webG
    walk_at "run"
    refine ⟨by decide, ⟨by omega, by omega⟩, ?_⟩
    rw [show (0 + (b : Int)).toNat = b by omega]
    refine loop_upto (fun a Γ => a ≤ b ∧ ∃ (p : Int × Int) (ts : List Tie) (t8 t9 t10 : Option T), PotOk p ∧ Sofar n names b a ts ∧ Γ = webG most n style way names p ts (some (.frz (.int (0 + (b : Int))))) t8 t9 t10) ⟨Nat.zero_le _, p5, ts, t8, t9, t10, hp5, hs, rfl⟩ ?_ ?_
    · rintro a Γ ha ⟨_, p6, ts, t8, t9, t10, hp6, hs, rfl⟩
      unfold webG
      walk_at "run"
      refine ⟨by decide, on_tied hp6 a2 b2 (by omega) (by omega) fun t p7 hp7 => ?_⟩
      walk_at "run"
      cases t with
      | false =>
        walk_at "run"
        exact ⟨by omega, p7, ts, _, t9, t10, hp7, hs.next (.inr ⟨rfl, by omega⟩), rfl⟩
      | true =>
        walk_at "run"
        rw [List.length_map, List.length_map]
        refine ⟨fun hc => ?_, fun hc => ?_⟩
        · refine onO_mk (by rw [Int.zero_add]; exact nat_at a (by omega)) (onO_mk (by rw [Int.zero_add]; exact nat_at b hb) ⟨by decide, onO_mk (sort2 _ _) ⟨rfl, ?_⟩⟩)
          walk_at "run"
          refine ⟨by decide, by decide, on_length hp7 a3 b3 fun w p8 w0 w1 hp8 => ?_⟩
          walk_at "run"
          rw [List.length_map, List.length_map]
          rw [show min (names.getD a 0 : Int) (names.getD b 0 : Int) = ((min (names.getD a 0) (names.getD b 0) : Nat) : Int) by omega, show max (names.getD a 0 : Int) (names.getD b 0 : Int) = ((max (names.getD a 0) (names.getD b 0) : Nat) : Int) by omega]
          rw [tie_snoc ts (min (names.getD a 0) (names.getD b 0), max (names.getD a 0) (names.getD b 0), w)]
          exact ⟨by decide, szlt _ (by omega), by omega, p8, _, _, _, _, hp8, hs.add hnm (by omega) ha hb w0 w1, rfl⟩
        · exact ⟨by omega, p7, ts, _, t9, t10, hp7, hs.next (.inr ⟨rfl, by omega⟩), rfl⟩
    · rintro Γ ⟨_, p6, ts, t8, t9, t10, hp6, hs, rfl⟩
      unfold webG
      walk_at "run"
      exact ⟨by omega, p6, ts, _, t8, t9, t10, hp6, hs.next (.inl (by omega)), rfl⟩
  · rintro Γ ⟨_, p5, ts, t7, t8, t9, t10, hp5, hs, rfl⟩
    unfold webG
    walk_at "run"
    refine onO_mk (sort_ties ts) ⟨by decide, h n (sortT ts) p5 ⟨by omega, by omega, by rw [(sortT_perm ts).length_eq]; exact hs.few, fun t m => hs.ok t ((sortT_perm ts).mem_iff.mp m), sortT_rise hs.dis⟩ hp5⟩

/-! ### what is joined by ties -/
inductive Con (E : Nat → Nat → Prop) : Nat → Nat → Prop
  | refl (a : Nat) : Con E a a
  | edge {a b : Nat} : E a b → Con E a b
  | symm {a b : Nat} : Con E a b → Con E b a
  | trans {a b c : Nat} : Con E a b → Con E b c → Con E a c
theorem Con.mono {E F : Nat → Nat → Prop} (h : ∀ a b, E a b → F a b) {a b : Nat} (c : Con E a b) : Con F a b := by
  induction c with
  | refl a => exact .refl a
  | edge e => exact .edge (h _ _ e)
  | symm _ ih => exact .symm ih
  | trans _ _ i j => exact .trans i j
/-- one tie more -/
theorem Con.more {E : Nat → Nat → Prop} {u v a b : Nat} : Con (fun x y => E x y ∨ (x = u ∧ y = v)) a b ↔ Con E a b ∨ (Con E a u ∧ Con E v b) ∨ (Con E a v ∧ Con E u b) := by
  constructor
  · intro c
    induction c with
    | refl a => exact .inl (.refl a)
    | edge e =>
      rcases e with e | ⟨rfl, rfl⟩
      · exact .inl (.edge e)
      · exact .inr (.inl ⟨.refl _, .refl _⟩)
    | symm _ ih =>
      rcases ih with h | ⟨h, k⟩ | ⟨h, k⟩
      · exact .inl h.symm
      · exact .inr (.inr ⟨k.symm, h.symm⟩)
      · exact .inr (.inl ⟨k.symm, h.symm⟩)
    | trans _ _ i j =>
      rcases i with h | ⟨h, k⟩ | ⟨h, k⟩ <;> rcases j with h2 | ⟨h2, k2⟩ | ⟨h2, k2⟩
      · exact .inl (h.trans h2)
      · exact .inr (.inl ⟨h.trans h2, k2⟩)
      · exact .inr (.inr ⟨h.trans h2, k2⟩)
      · exact .inr (.inl ⟨h, k.trans h2⟩)
      · exact .inr (.inl ⟨h, k2⟩)
      · exact .inl (h.trans k2)
      · exact .inr (.inr ⟨h, k.trans h2⟩)
      · exact .inl (h.trans k2)
      · exact .inr (.inr ⟨h, k2⟩)
  · intro c
    have up : ∀ {a b : Nat}, Con E a b → Con (fun x y => E x y ∨ (x = u ∧ y = v)) a b := fun h => h.mono fun _ _ e => .inl e
    have uv : Con (fun x y => E x y ∨ (x = u ∧ y = v)) u v := .edge (.inr ⟨rfl, rfl⟩)
    rcases c with h | ⟨h, k⟩ | ⟨h, k⟩
    · exact up h
    · exact (up h).trans (uv.trans (up k))
    · exact (up h).trans (uv.symm.trans (up k))
/-- the tie of a number -/
def tie (ts : List Tie) (i : Nat) : Tie := ts.getD i (0, 0, 0)
def Ed (ts : List Tie) (L : List Nat) (x y : Nat) : Prop := ∃ i ∈ L, x = (tie ts i).1 ∧ y = (tie ts i).2.1
/-- marks after a tie -/
def mstep (ts : List Tie) (M : List Nat) (i : Nat) : List Nat :=
  let a := M.getD (tie ts i).1 0
  let b := M.getD (tie ts i).2.1 0
  if a = b then M else M.map fun m => if m = b then a else m
def marks (n : Nat) (ts : List Tie) (L : List Nat) : List Nat := L.foldl (mstep ts) (List.range n)
theorem mstep_len (ts : List Tie) (M : List Nat) (i : Nat) : (mstep ts M i).length = M.length := by
  unfold mstep
  dsimp only
  split <;> simp
theorem marks_len (n : Nat) (ts : List Tie) (L : List Nat) : (marks n ts L).length = n := by
  unfold marks
  have : ∀ (L M : List Nat), (L.foldl (mstep ts) M).length = M.length := fun L => by
    induction L with
    | nil => intro M; rfl
    | cons i L ih => intro M; rw [List.foldl_cons, ih, mstep_len]
  rw [this, List.length_range]
theorem getD_map {f : Nat → Nat} {M : List Nat} {a : Nat} (h : a < M.length) : (M.map f).getD a 0 = f (M.getD a 0) := by
  simp [h]
theorem mstep_rel {ts : List Tie} {M : List Nat} {i a b : Nat} (ha : a < M.length) (hb : b < M.length) (hu : (tie ts i).1 < M.length) (hv : (tie ts i).2.1 < M.length) :
    (mstep ts M i).getD a 0 = (mstep ts M i).getD b 0 ↔ M.getD a 0 = M.getD b 0 ∨ (M.getD a 0 = M.getD (tie ts i).1 0 ∧ M.getD (tie ts i).2.1 0 = M.getD b 0) ∨ (M.getD a 0 = M.getD (tie ts i).2.1 0 ∧ M.getD (tie ts i).1 0 = M.getD b 0) := by
  unfold mstep
  dsimp only
  split
  · rename_i e
    rw [e]
    constructor
    · exact .inl
    · rintro (h | ⟨h, k⟩ | ⟨h, k⟩)
      · exact h
      · exact h.trans k
      · exact h.trans k
  · rename_i ne
    rw [getD_map ha, getD_map hb]
    generalize M.getD a 0 = x at *
    generalize M.getD b 0 = y at *
    generalize M.getD (tie ts i).1 0 = u at *
    generalize M.getD (tie ts i).2.1 0 = v at *
    by_cases h1 : x = v
    · by_cases h2 : y = v
      · rw [if_pos h1, if_pos h2]; constructor <;> intro _
        · exact .inl (h1.trans h2.symm)
        · rfl
      · rw [if_pos h1, if_neg h2]
        constructor
        · intro h; exact .inr (.inr ⟨h1, h⟩)
        · rintro (h | ⟨h, k⟩ | ⟨h, k⟩)
          · exact absurd (h.symm.trans h1) h2
          · exact absurd k.symm h2
          · exact k
    · by_cases h2 : y = v
      · rw [if_neg h1, if_pos h2]
        constructor
        · intro h; exact .inr (.inl ⟨h, h2.symm⟩)
        · rintro (h | ⟨h, k⟩ | ⟨h, k⟩)
          · exact absurd (h.trans h2) h1
          · exact h
          · exact absurd h h1
      · rw [if_neg h1, if_neg h2]
        constructor
        · exact .inl
        · rintro (h | ⟨h, k⟩ | ⟨h, k⟩)
          · exact h
          · exact absurd k.symm h2
          · exact absurd h h1
def EndsIn (n : Nat) (ts : List Tie) : Prop := ∀ i, i < ts.length → (tie ts i).1 < n ∧ (tie ts i).2.1 < n
theorem ed_snoc {ts : List Tie} {L : List Nat} {i : Nat} : Ed ts (L ++ [i]) = fun x y => Ed ts L x y ∨ (x = (tie ts i).1 ∧ y = (tie ts i).2.1) := by
  funext x y
  unfold Ed
  simp only [List.mem_append, List.mem_singleton, eq_iff_iff]
  constructor
  · rintro ⟨j, h | h, e⟩
    · exact .inl ⟨j, h, e⟩
    · subst h; exact .inr e
  · rintro (⟨j, h, e⟩ | e)
    · exact ⟨j, .inl h, e⟩
    · exact ⟨i, .inr rfl, e⟩
theorem marks_snoc (n : Nat) (ts : List Tie) (L : List Nat) (i : Nat) : marks n ts (L ++ [i]) = mstep ts (marks n ts L) i := by
  unfold marks
  rw [List.foldl_append]
  rfl
theorem rev_ind {P : List Nat → Prop} (h0 : P []) (hs : ∀ L i, P L → P (L ++ [i])) (L : List Nat) : P L := by
  have : ∀ (k : Nat) (L : List Nat), L.length = k → P L := by
    intro k
    induction k with
    | zero => intro L e; rw [List.length_eq_zero_iff.mp e]; exact h0
    | succ k ih =>
      intro L e
      have hne : L ≠ [] := fun z => by rw [z] at e; simp at e
      rw [← List.dropLast_concat_getLast hne]
      exact hs _ _ (ih _ (by rw [List.length_dropLast]; omega))
  exact this _ L rfl
theorem marks_con {n : Nat} {ts : List Tie} (he : EndsIn n ts) : ∀ (L : List Nat), (∀ i ∈ L, i < ts.length) → ∀ a b, a < n → b < n → ((marks n ts L).getD a 0 = (marks n ts L).getD b 0 ↔ Con (Ed ts L) a b) := by
  refine rev_ind ?_ ?_
  · intro _ a b ha hb
    have e : ∀ x, x < n → (marks n ts []).getD x 0 = x := fun x hx => by
      show (List.range n).getD x 0 = x
      simp [hx]
    rw [e a ha, e b hb]
    constructor
    · rintro rfl; exact .refl a
    · intro c
      have : ∀ {a b}, Con (Ed ts []) a b → a = b := fun c => by
        induction c with
        | refl a => rfl
        | edge e => obtain ⟨_, m, _⟩ := e; cases m
        | symm _ ih => exact ih.symm
        | trans _ _ i j => exact i.trans j
      exact this c
  · intro L i ih hL a b ha hb
    have hi := hL i (by simp)
    obtain ⟨hu, hv⟩ := he i hi
    have ih := ih fun j m => hL j (List.mem_append_left _ m)
    have l := marks_len n ts L
    rw [marks_snoc, mstep_rel (by rw [l]; exact ha) (by rw [l]; exact hb) (by rw [l]; exact hu) (by rw [l]; exact hv), ed_snoc, Con.more, ih a b ha hb, ih a _ ha hu, ih _ b hv hb, ih a _ ha hv, ih _ b hu hb]
/-- whether a tie's ends are joined depends on the set of ties alone -/
theorem marks_set {n : Nat} {ts : List Tie} (he : EndsIn n ts) {L L' : List Nat} (hL : ∀ i ∈ L, i < ts.length) (h : ∀ i, i ∈ L ↔ i ∈ L') {a b : Nat} (ha : a < n) (hb : b < n) :
    (marks n ts L).getD a 0 = (marks n ts L).getD b 0 ↔ (marks n ts L').getD a 0 = (marks n ts L').getD b 0 := by
  rw [marks_con he L hL a b ha hb, marks_con he L' (fun i m => hL i ((h i).mpr m)) a b ha hb]
  constructor <;> refine Con.mono fun x y e => ?_
  · obtain ⟨i, m, e⟩ := e; exact ⟨i, (h i).mp m, e⟩
  · obtain ⟨i, m, e⟩ := e; exact ⟨i, (h i).mpr m, e⟩

/-! ### the order of the ties -/
def wt (ts : List Tie) (i : Nat) : Nat := (tie ts i).2.2
def keyO (ts : List Tie) (i : Nat) : List Int := [(wt ts i : Int), (i : Int)]
/-- i comes ahead of j -/
def aheadB (ts : List Tie) (i j : Nat) : Bool := lexL (keyO ts i) (keyO ts j)
theorem aheadB_iff {ts : List Tie} {i j : Nat} : aheadB ts i j = true ↔ wt ts i < wt ts j ∨ (wt ts i = wt ts j ∧ i < j) := by
  unfold aheadB keyO
  rw [lexL_cons, lexL_cons]
  by_cases e : (wt ts i : Int) = wt ts j
  · rw [if_pos e]
    by_cases e2 : (i : Int) = j
    · rw [if_pos e2, lexL_irr]
      constructor
      · intro h; cases h
      · omega
    · rw [if_neg e2, decide_eq_true_iff]; omega
  · rw [if_neg e, decide_eq_true_iff]; omega
def ordN (ts : List Tie) : List Nat := (List.range ts.length).mergeSort fun i j => lexLe (keyO ts i) (keyO ts j)
theorem ordN_perm (ts : List Tie) : (ordN ts).Perm (List.range ts.length) := List.mergeSort_perm _ _
theorem ordN_eq (ts : List Tie) : sortL ((List.range ts.length).map (keyO ts)) = (ordN ts).map (keyO ts) := by
  unfold sortL ordN
  exact (List.map_mergeSort (r := fun i j => lexLe (keyO ts i) (keyO ts j)) (s := lexLe) (f := keyO ts) (l := List.range ts.length) fun a _ b _ => rfl).symm
theorem ordN_nodup (ts : List Tie) : (ordN ts).Nodup := (ordN_perm ts).nodup_iff.mpr List.nodup_range
theorem ordN_mem {ts : List Tie} {i : Nat} : i ∈ ordN ts ↔ i < ts.length := by rw [(ordN_perm ts).mem_iff, List.mem_range]
theorem ordN_len (ts : List Tie) : (ordN ts).length = ts.length := by rw [(ordN_perm ts).length_eq, List.length_range]
theorem ordN_rise (ts : List Tie) : (ordN ts).Pairwise fun i j => aheadB ts i j = true := by
  have h2 := sortL_le ((List.range ts.length).map (keyO ts))
  rw [ordN_eq] at h2
  have h3 := List.pairwise_map.mp h2
  refine ((ordN_nodup ts).and h3).imp fun {i j} q => ?_
  obtain ⟨q1, q2⟩ := q
  cases h : aheadB ts i j with
  | true => rfl
  | false =>
    have := lexL_anti (xs := keyO ts i) (ys := keyO ts j) h q2
    unfold keyO at this
    simp at this
    exact absurd (Int.ofNat.inj this.2) q1
/-- the ties ahead of one, in number -/
def aheadN (ts : List Tie) (i : Nat) : List Nat := (List.range ts.length).filter fun j => aheadB ts j i
theorem ahead_irr {ts : List Tie} {i : Nat} : aheadB ts i i = false := lexL_irr _
theorem ahead_asym {ts : List Tie} {i j : Nat} (h : aheadB ts i j = true) : aheadB ts j i = false := lexL_asym h
theorem take_ahead {ts : List Tie} {k : Nat} (hk : k < (ordN ts).length) (j : Nat) : j ∈ (ordN ts).take k ↔ j ∈ aheadN ts (ordN ts)[k] := by
  have hr := ordN_rise ts
  unfold aheadN
  rw [List.mem_filter, List.mem_range]
  constructor
  · intro m
    obtain ⟨t, ht, e⟩ := List.getElem_of_mem m
    rw [List.length_take] at ht
    rw [List.getElem_take] at e
    subst e
    exact ⟨ordN_mem.mp (List.getElem_mem _), List.pairwise_iff_getElem.mp hr _ _ _ _ (by omega)⟩
  · rintro ⟨h1, h2⟩
    obtain ⟨t, ht, e⟩ := List.getElem_of_mem (ordN_mem.mpr h1)
    subst e
    by_cases c : t < k
    · exact List.mem_take_iff_getElem.mpr ⟨t, by omega, rfl⟩
    · by_cases c2 : t = k
      · subst c2
        rw [ahead_irr] at h2
        cases h2
      · have := List.pairwise_iff_getElem.mp hr k t hk ht (by omega)
        rw [ahead_asym this] at h2
        cases h2
/-- the ends of a tie are not joined by those ahead of it -/
def apartB (n : Nat) (ts : List Tie) (i : Nat) : Bool := !decide ((marks n ts (aheadN ts i)).getD (tie ts i).1 0 = (marks n ts (aheadN ts i)).getD (tie ts i).2.1 0)
def forestN (n : Nat) (ts : List Tie) : List Nat := (List.range ts.length).filter (apartB n ts)
/-- told apart, by marks -/
theorem told_step {n : Nat} {ts : List Tie} (he : EndsIn n ts) {k : Nat} (hk : k < (ordN ts).length) :
    ((marks n ts ((ordN ts).take k)).getD (tie ts (ordN ts)[k]).1 0 = (marks n ts ((ordN ts).take k)).getD (tie ts (ordN ts)[k]).2.1 0) ↔ apartB n ts (ordN ts)[k] = false := by
  have hi : (ordN ts)[k] < ts.length := ordN_mem.mp (List.getElem_mem _)
  obtain ⟨hu, hv⟩ := he _ hi
  rw [marks_set he (fun i m => ordN_mem.mp (List.mem_of_mem_take m)) (take_ahead hk) hu hv]
  unfold apartB
  simp
theorem forest_sort (n : Nat) (ts : List Tie) : sortI (((ordN ts).filter (apartB n ts)).map fun i : Nat => (i : Int)) = (forestN n ts).map fun i : Nat => (i : Int) := by
  refine (sortI_uniq ?_ ?_).symm
  · exact ((ordN_perm ts).symm.filter _).map _
  · refine List.pairwise_map.mpr ?_
    unfold forestN
    exact (List.Pairwise.filter _ List.pairwise_le_range).imp fun h => by omega
theorem EndsIn.of {most n : Nat} {ts : List Tie} (h : WebOk most n ts) : EndsIn n ts := fun i hi => by
  have e : tie ts i = ts[i] := by unfold tie; simp [hi]
  rw [e]
  obtain ⟨a, b, _⟩ := h.ok _ (List.getElem_mem hi)
  omega

/-! ### data of numbers and ties -/
theorem enumL_at : ∀ (ds : List PyData) (k i : Nat), (enumL k ds)[i]? = ds[i]?.map fun d => .tuple [.int ((k + i : Nat) : Int), d]
  | [], _, _ => by simp [enumL]
  | d :: ds, k, 0 => by simp [enumL]
  | d :: ds, k, i + 1 => by
    unfold enumL
    rw [List.getElem?_cons_succ, List.getElem?_cons_succ, enumL_at ds (k + 1) i, show k + 1 + i = k + (i + 1) by omega]
theorem enum_mem {ds : List PyData} {d : PyData} (h : d ∈ enumL 0 ds) : ∃ i : Nat, ∃ e, ds[i]? = some e ∧ d = .tuple [.int (i : Int), e] := by
  obtain ⟨i, hi⟩ := List.mem_iff_getElem?.mp h
  rw [enumL_at] at hi
  cases q : ds[i]? with
  | none => rw [q] at hi; cases hi
  | some e =>
    rw [q] at hi
    cases hi
    exact ⟨i, e, q, by rw [Nat.zero_add]⟩
theorem tie_at {ts : List Tie} {i : Nat} (hi : i < ts.length) : (ts.map tieD)[i]? = some (tieD (tie ts i)) := by
  rw [List.getElem?_map, List.getElem?_eq_getElem hi]
  unfold tie
  simp [hi]
theorem tie_mem {ts : List Tie} {i : Nat} {e : PyData} (h : (ts.map tieD)[i]? = some e) : i < ts.length ∧ e = tieD (tie ts i) := by
  have hi : i < ts.length := by
    have := (List.getElem?_eq_some_iff.mp h).1
    simpa using this
  rw [tie_at hi] at h
  exact ⟨hi, (Option.some.inj h).symm⟩
theorem eqv_nat (a b : Nat) : PyData.eqv (natD a) (natD b) = decide (a = b) := by
  unfold natD
  rw [eqv_int]
  by_cases h : a = b
  · rw [decide_eq_true h, decide_eq_true (by omega)]
  · rw [decide_eq_false h, decide_eq_false (by omega)]
theorem nat_at {M : List Nat} {i : Nat} (h : i < M.length) : atI (M.map natD) (i : Int) = some (natD (M.getD i 0)) := by
  refine atI_nat ?_
  rw [List.getElem?_map, List.getElem?_eq_getElem h]
  simp [h]
theorem tie_ati {ts : List Tie} {i : Nat} (h : i < ts.length) : atI (ts.map tieD) (i : Int) = some (tieD (tie ts i)) := atI_nat (tie_at h)
theorem natD_int (n : Nat) : natD n = .int (n : Int) := rfl
theorem ixF_nats {M : List Nat} {i : Nat} (h : i < M.length) : ixF (.list (M.map natD)) (.int (i : Int)) = some (natD (M.getD i 0)) := nat_at h
theorem upto_natD (n : Nat) : upto 0 n = (List.range n).map natD := by
  unfold upto
  refine List.map_congr_left fun i _ => ?_
  rw [Int.zero_add]
  rfl
theorem ints_nat (l : List Nat) : l.map natD = (l.map fun i : Nat => (i : Int)).map .int := by rw [List.map_map]; rfl
theorem tieD_tup (t : Tie) : tieD t = .tuple [.int (t.1 : Int), .int (t.2.1 : Int), .int (t.2.2 : Int)] := rfl
theorem nat_ice (l : List Nat) : ice (l.map natT) = some (l.map natD) := by
  rw [show l.map natT = (l.map natD).map .frz by rw [List.map_map]; rfl]
  exact ice_frz _
theorem bols_true : ∀ (l : List PyData), bolsF (l.map fun _ => PyData.bool true) = some (l.map fun _ => true)
  | [] => rfl
  | d :: l => by rw [List.map_cons, List.map_cons]; unfold bolsF; rw [bols_true l]; rfl
theorem all_true {α : Type} : ∀ (l : List α), (l.map fun _ => true).all id = true
  | [] => rfl
  | d :: l => by rw [List.map_cons, List.all_cons, all_true l]; rfl
theorem lay_nats (l : List Nat) : Lay (.tuple (l.map natD)) 1 := lay_tup (k := 0) fun d m => by
  obtain ⟨x, _, rfl⟩ := List.mem_map.mp m
  exact lay_int _ _
theorem ixN_nat {n a : Nat} (h : a < n) : ixN n (a : Int) = some a := by
  unfold ixN
  rw [if_pos (by omega), if_pos (by omega), show ((a : Int)).toNat = a by omega]
theorem nat_in {m k : Nat} {L : List Nat} {d : PyData} (hk : (L.map natD)[k]? = some d) : ∃ h : k < L.length, d = natD L[k] := by
  have h := (List.getElem?_eq_some_iff.mp hk).1
  rw [List.length_map] at h
  refine ⟨h, ?_⟩
  rw [List.getElem?_map, List.getElem?_eq_getElem h] at hk
  exact (Option.some.inj hk).symm
theorem take_snoc {α : Type} {L : List α} {k : Nat} (h : k < L.length) : L.take (k + 1) = L.take k ++ [L[k]] := by rw [List.take_add_one, List.getElem?_eq_getElem h] <;> rfl
theorem bols_of {α : Type} (f : α → Bool) : ∀ l : List α, bolsF (l.map fun a => PyData.bool (f a)) = some (l.map f)
  | [] => rfl
  | a :: l => by rw [List.map_cons, List.map_cons]; unfold bolsF; rw [bols_of f l]; rfl
theorem inF_tupn (a : Nat) (M : List Nat) : inF (.int (a : Int)) (.tuple (M.map natD)) = some (.bool (decide (a ∈ M))) := by
  have hs : (SeqAt.shaped (.int (a : Int)) && SeqAt.shaped (.tuple (M.map natD))) = true := by rw [(lay_int (a : Int) 0).shaped (by decide), (lay_nats M).shaped (by decide)]; rfl
  have e1 : inF (.int (a : Int)) (.tuple (M.map natD)) = some (PyData.bool ((M.map natD).any fun z => PyData.eqv z (.int (a : Int)))) := if_pos hs
  rw [e1]
  congr 2
  induction M with
  | nil => simp
  | cons x M ih =>
    have hs2 : (SeqAt.shaped (.int (a : Int)) && SeqAt.shaped (.tuple (M.map natD))) = true := by rw [(lay_int (a : Int) 0).shaped (by decide), (lay_nats M).shaped (by decide)]; rfl
    rw [List.map_cons, List.any_cons, ih hs2 (if_pos hs2), show PyData.eqv (natD x) (.int (a : Int)) = decide (x = a) from eqv_nat x a]
    by_cases e : x = a
    · simp [e]
    · simp [e, Ne.symm e]
theorem fzs_map {α : Type} (f : α → PyData) (l : List α) : fzs (l.map fun a => T.frz (f a)) = some (l.map f) := by
  rw [show (l.map fun a => T.frz (f a)) = (l.map f).map .frz by rw [List.map_map]; rfl]
  exact fzs_frz _
theorem ice_map {α : Type} (f : α → PyData) (l : List α) : ice (l.map fun a => T.frz (f a)) = some (l.map f) := by
  rw [show (l.map fun a => T.frz (f a)) = (l.map f).map .frz by rw [List.map_map]; rfl]
  exact ice_frz _
theorem ints_at {hs : List Int} {v : Nat} (h : v < hs.length) : atI (hs.map PyData.int) (v : Int) = some (.int (hs.getD v 0)) := by
  refine atI_nat ?_
  rw [List.getElem?_map, List.getElem?_eq_getElem h]
  simp [h]
theorem int_in {k : Nat} {L : List Int} {d : PyData} (hk : (L.map PyData.int)[k]? = some d) : ∃ h : k < L.length, d = .int L[k] := by
  have h := (List.getElem?_eq_some_iff.mp hk).1
  rw [List.length_map] at h
  refine ⟨h, ?_⟩
  rw [List.getElem?_map, List.getElem?_eq_getElem h] at hk
  exact (Option.some.inj hk).symm

/-! ### runs that look into a web -/
theorem ixF_web0 {n : Nat} {ts : List Tie} : ixF (webD n ts) (.int 0) = some (.int (n : Int)) := rfl
theorem ixF_web1 {n : Nat} {ts : List Tie} : ixF (webD n ts) (.int 1) = some (.tuple (ts.map tieD)) := rfl
theorem negF_int0 {i : Int} : negF (.int i) = some (.int (-i)) := rfl
theorem ifQ_nd {a b c : Prop} [Decidable c] : ifQ a b (!decide c) = ((¬ c → a) ∧ (c → b)) := by by_cases h : c <;> simp [h, ifQ]
theorem lenT_dct {kvs : List (Key × PyData)} : lenT (.dct kvs) = some (.int kvs.length) := rfl
local macro_rules | `(tactic| walk_at "web") => `(tactic| try simp only [↓wp_mStM, ↓wp_stM, ↓wp_mJs0, ↓wp_mJs1, ↓wp_catK, ↓wp_mItS, ↓inRgF_int, ↓wp_mDictZip, ↓wp_mLdM, ↓wp_ldM, ↓wp_mRng3, ↓rng3F_int, ↓wp_mDct1, ↓wp_mSort2, ↓fzD_dct, ↓inst_int_dc1, ↓inst_bool_dc1, ↓wp_mDGet2, ↓wp_dget2KT, ↓dget2QT_dtp, ↓wp_mChain3, ↓wp_chK3, ↓inst2_lt_list, ↓inst2_lt_tuple, ↓wp_mDictT, ↓wp_mListZip, ↓wp_mTryK, ↓kQ_nx, ↓kSQ_nx, ↓kSQ_rt, ↓kSQ_ex, ↓sufQ_nx, ↓sufQ_rt, ↓kQ_rt, ↓kQ_ex, ↓callQ_exc, ↓lQ_ex, ↓inst_int_dict_, ↓inst_bool_dict_, ↓inst_str_dict_, ↓inst_tuple_dict_, ↓inst_list_dict_, ↓isNF_dict, ↓wp_mZip3, ↓zipF3_tt, ↓zipF3_ll, ↓zipF3_lt, ↓zipF3_tl, ↓wp_mZipN, ↓zipTT_tt, ↓wp_mExt2, ↓wp_extK2, ↓ifQ_nd, ↓ixF_web0, ↓ixF_web1, ↓absF_int, ↓negF_int0, ↓lenT_dct, ↓natD_int, ↓inst_int_int_, ↓inst_int_bool_, ↓inst_int_none_, ↓inst_int_tuple_, ↓inst_int_list_, ↓inst_int_str_, ↓inst_bool_int_, ↓inst_bool_bool_, ↓inst_bool_none_, ↓inst_bool_tuple_, ↓inst_bool_list_, ↓inst_bool_str_, ↓inst_tuple_int_, ↓inst_tuple_bool_, ↓inst_tuple_none_, ↓inst_tuple_tuple_, ↓inst_tuple_list_, ↓inst_tuple_str_, ↓inst_list_int_, ↓inst_list_bool_, ↓inst_list_none_, ↓inst_list_tuple_, ↓inst_list_list_, ↓inst_list_str_, ↓inst_str_int_, ↓inst_str_bool_, ↓inst_str_none_, ↓inst_str_tuple_, ↓inst_str_list_, ↓inst_str_str_, ↓isDx_dct, ↓isDx_dtp, ↓wp_dgetKT, ↓dgetQT_dtp, ↓wp_dinKT, ↓dinQT_dtp, ↓wp_putKKT, ↓putDQT_dtp, ↓iceG_dtp, ↓wp_mSortK, ↓sortKQ_dct, ↓wp_mZip2, ↓zipF2_tt, ↓zipF2_ll, ↓zipF2_lt, ↓wp_mExt, ↓wp_extK, ↓extQ_lst, ↓wp_mIns, ↓wp_insK, ↓insQ_lst, ↓wp_mPar, ↓wp_parK, ↓mulXF_int, ↓mulXF_tup, ↓mulXF_lst, ↓wp_mBack, ↓slcBF_tup, ↓slcBF_list, ↓wp_bM, ↓wp_mDGet, ↓wp_mDPop, ↓wp_dgetK, ↓dgetQ_dct, ↓wp_dpopK, ↓dpopQ_dct, ↓wp_mDIn, ↓wp_dinK, ↓dinQ_dct, ↓isDct_dct, ↓wp_mDisp1, ↓keyD_int, ↓wp_mDPut, ↓wp_setFD, ↓wp_putKK, ↓putDQ_dct, ↓wp_mItems, ↓itemsQ_lck, ↓wp_mLock, ↓lockQ_dct, ↓lockR_ok, ↓iceG_dct, ↓intF_bool, ↓wp_mRem, ↓wp_remK, ↓remQ_lst, ↓wp_mPure, ↓pureQ_ok, ↓iceG_nil, ↓iceG_none, ↓iceG_frz, ↓iceG_scr, ↓inst_bool_bool, ↓neF_bool, ↓eqF_pair, ↓cut2, ↓wp_mChain, ↓wp_chK, ↓wp_mApp2, ↓wp_app2K, ↓app2Q_lst, ↓rowOf_lst, ↓wp_app2S, ↓isTF_bool, ↓isntTF_bool, ↓inst_tup, ↓wp_mPopAt, ↓wp_popK, ↓popQ_lst, ↓frzOf_frz, ↓wp_mEnum, ↓wp_mZip, ↓wp_mLstR, ↓wp_mTupR, ↓wp_mRgA1, ↓wp_rgK, ↓wp_mRgA2, ↓wp_rgK2, ↓wp_mSlice, ↓wp_mNone, ↓wp_mSome, ↓wp_someK, ↓slcF_tup, ↓slcF_list, ↓wp_mRep, ↓itemsF_list, ↓itemsF_tup, ↓tupF_list, ↓tupF_tup, ↓ltxF_int, ↓gtxF_int, ↓lexF_int, ↓gexF_int, ↓wp_bS, ↓bQ_ok, ↓sQ_ok, ↓bQ_ex, ↓sQ_ex, ↓wp_pM, ↓wp_oM, ↓wp_mC, ↓wp_qS, ↓nQ_nx, ↓nQ_rt, ↓nQ_bk, ↓nQ_ct, ↓nQ_ex, ↓wp_nS, ↓atV_0, ↓atV_s, ↓onO_some, ↓onO_if, ↓onO_map, ↓wp_mVar, ↓varQ_frz, ↓varQ_lst, ↓wp_mMove, ↓wp_mPeek, ↓peekQ_frz, ↓peekQ_lst, ↓ice_frz, ↓fzs_frz, ↓wp_mSet, ↓wp_store, ↓wp_mT, ↓wp_mF, ↓fz_frz, ↓fz_lst, ↓wp_mB, ↓isB_bool, ↓wp_mOp, ↓wp_mC1, ↓wp_mC2, ↓wp_mC1T, ↓wp_mRet, ↓wp_rt, ↓wp_nx, ↓wp_exS, ↓wp_mDrop, Bool.not_true, Bool.not_false, decide_true, decide_false, ↓ifQ_t, ↓ifQ_f, ifQ_t, ifQ_f, ↓ifQ_d, ↓wp_mWhen, ↓wp_ifS, ↓wp_ifM, ↓wp_mIf, ↓wp_mAnd, ↓wp_mOr, ↓wp_mNot, ↓wp_andF, ↓wp_orF, ↓wp_mAndV, ↓wp_mOrV, ↓wp_notFn, ↓wp_mNotV, ↓wp_mNil, ↓wp_mCons, ↓wp_mTup, ↓wp_mLst, ↓ixW_frz, ↓ixW_scr, ↓ixW_lst, ↓ixL_frz, ↓ixL_lst, ↓wp_ixS, ↓wp_ixV, ↓putQ_lst, ↓wp_mSetIx, ↓wp_setF, ↓wp_setK, ↓appQ_lst, ↓isL_lst, ↓wp_mApp, ↓wp_appK, ↓wp_mLen, ↓lenT_frz, ↓lenT_scr, ↓lenT_lst, ↓lenF_list, ↓lenF_tuple, ↓wp_mAug, ↓addF_int, ↓addF_tup, ↓addF_list, ↓subF_int, ↓mulF_int, ↓modF_int, ↓divF_int, ↓powF_int, ↓ltF_int, ↓leF_int, ↓gtF_int, ↓geF_int, ↓eqF_int, ↓neF_int, ↓eqF_bool, ↓iaddF_int, ↓max2F_int, ↓min2F_int, ↓isNF_no, ↓notNF_no, ↓ixF_list, ↓ixF_tup, ↓ixN20, ↓ixN21, bigs, List.set, ↓at0, ↓at1, ↓at2, ↓inst_int_int, ↓inst_bool_int, ↓callQ_ret, ↓wp_mCall, ↓wp_callF, ↓wp_mArgs_nil, ↓wp_mArgs_d, ↓wp_mArgs_own, ↓restore_own, ↓restore_own0, ↓restore_d, ↓restore_cp, ↓restore_tm, ↓wp_mArgs_tm, ↓wp_mArgs_cp, ↓cpQ_scr, ↓wp_mCopy, ↓restore_nil, ↓finQ_rt, ↓finQ_nx, ↓finQ_ex, ↓wp_mFor, ↓wp_mRng1, ↓wp_mRng2, ↓wp_mIt, ↓rng1F_int, ↓rng2F_int, ↓lQ_nx, ↓lQ_ct, ↓lQ_bk, ↓lQ_rt, ↓lQ_ex, ↓whQ_ok, ↓wp_mComp, ↓wp_compK, ↓tsQ_ok, ↓elQ_ok, ↓wipeG_nil, ↓wipeG_cons, ↓gN_eq, ↓on_storeG, ↓on_gTu, ↓on_gTuL, ↓on_gC, ↓on_gE, ↓wp_mAsg, ↓wp_asgK, ↓allF_list, ↓anyF_list, List.set_cons_zero, List.set_cons_succ, List.length_cons, List.length_nil, List.length_set, List.map_cons, List.map_nil, List.cons_append, List.nil_append, List.replicate, Nat.reduceSub, Nat.reduceAdd])
local macro_rules | `(tactic| walk_at "go") => `(tactic| ((try simp only [↓wp_mStM, ↓wp_stM, ↓wp_mJs0, ↓wp_mJs1, ↓wp_catK, ↓wp_mItS, ↓inRgF_int, ↓wp_mDictZip, ↓wp_mLdM, ↓wp_ldM, ↓wp_mRng3, ↓rng3F_int, ↓wp_mDct1, ↓wp_mSort2, ↓fzD_dct, ↓inst_int_dc1, ↓inst_bool_dc1, ↓wp_mDGet2, ↓wp_dget2KT, ↓dget2QT_dtp, ↓wp_mChain3, ↓wp_chK3, ↓inst2_lt_list, ↓inst2_lt_tuple, ↓wp_mDictT, ↓wp_mListZip, ↓wp_mTryK, ↓kQ_nx, ↓kSQ_nx, ↓kSQ_rt, ↓kSQ_ex, ↓sufQ_nx, ↓sufQ_rt, ↓kQ_rt, ↓kQ_ex, ↓callQ_exc, ↓lQ_ex, ↓inst_int_dict_, ↓inst_bool_dict_, ↓inst_str_dict_, ↓inst_tuple_dict_, ↓inst_list_dict_, ↓isNF_dict, ↓wp_mZip3, ↓zipF3_tt, ↓zipF3_ll, ↓zipF3_lt, ↓zipF3_tl, ↓wp_mZipN, ↓zipTT_tt, ↓wp_mExt2, ↓wp_extK2, ↓ifQ_nd, ↓ixF_web0, ↓ixF_web1, ↓absF_int, ↓negF_int0, ↓lenT_dct, ↓natD_int, ↓inst_int_int_, ↓inst_int_bool_, ↓inst_int_none_, ↓inst_int_tuple_, ↓inst_int_list_, ↓inst_int_str_, ↓inst_bool_int_, ↓inst_bool_bool_, ↓inst_bool_none_, ↓inst_bool_tuple_, ↓inst_bool_list_, ↓inst_bool_str_, ↓inst_tuple_int_, ↓inst_tuple_bool_, ↓inst_tuple_none_, ↓inst_tuple_tuple_, ↓inst_tuple_list_, ↓inst_tuple_str_, ↓inst_list_int_, ↓inst_list_bool_, ↓inst_list_none_, ↓inst_list_tuple_, ↓inst_list_list_, ↓inst_list_str_, ↓inst_str_int_, ↓inst_str_bool_, ↓inst_str_none_, ↓inst_str_tuple_, ↓inst_str_list_, ↓inst_str_str_, ↓isDx_dct, ↓isDx_dtp, ↓wp_dgetKT, ↓dgetQT_dtp, ↓wp_dinKT, ↓dinQT_dtp, ↓wp_putKKT, ↓putDQT_dtp, ↓iceG_dtp, ↓wp_mSortK, ↓sortKQ_dct, ↓wp_mZip2, ↓zipF2_tt, ↓zipF2_ll, ↓zipF2_lt, ↓wp_mExt, ↓wp_extK, ↓extQ_lst, ↓wp_mIns, ↓wp_insK, ↓insQ_lst, ↓wp_mPar, ↓wp_parK, ↓mulXF_int, ↓mulXF_tup, ↓mulXF_lst, ↓wp_mBack, ↓slcBF_tup, ↓slcBF_list, ↓wp_bM, ↓wp_mDGet, ↓wp_mDPop, ↓wp_dgetK, ↓dgetQ_dct, ↓wp_dpopK, ↓dpopQ_dct, ↓wp_mDIn, ↓wp_dinK, ↓dinQ_dct, ↓isDct_dct, ↓wp_mDisp1, ↓keyD_int, ↓wp_mDPut, ↓wp_setFD, ↓wp_putKK, ↓putDQ_dct, ↓wp_mItems, ↓itemsQ_lck, ↓wp_mLock, ↓lockQ_dct, ↓lockR_ok, ↓iceG_dct, ↓intF_bool, ↓wp_mRem, ↓wp_remK, ↓remQ_lst, ↓wp_mPure, ↓pureQ_ok, ↓iceG_nil, ↓iceG_none, ↓iceG_frz, ↓iceG_scr, ↓inst_bool_bool, ↓neF_bool, ↓eqF_pair, ↓cut2, ↓wp_mChain, ↓wp_chK, ↓wp_mApp2, ↓wp_app2K, ↓app2Q_lst, ↓rowOf_lst, ↓wp_app2S, ↓isTF_bool, ↓isntTF_bool, ↓inst_tup, ↓wp_mPopAt, ↓wp_popK, ↓popQ_lst, ↓frzOf_frz, ↓wp_mEnum, ↓wp_mZip, ↓wp_mLstR, ↓wp_mTupR, ↓wp_mRgA1, ↓wp_rgK, ↓wp_mRgA2, ↓wp_rgK2, ↓wp_mSlice, ↓wp_mNone, ↓wp_mSome, ↓wp_someK, ↓slcF_tup, ↓slcF_list, ↓wp_mRep, ↓itemsF_list, ↓itemsF_tup, ↓tupF_list, ↓tupF_tup, ↓ltxF_int, ↓gtxF_int, ↓lexF_int, ↓gexF_int, ↓wp_bS, ↓bQ_ok, ↓sQ_ok, ↓bQ_ex, ↓sQ_ex, ↓wp_pM, ↓wp_oM, ↓wp_mC, ↓wp_qS, ↓nQ_nx, ↓nQ_rt, ↓nQ_bk, ↓nQ_ct, ↓nQ_ex, ↓wp_nS, ↓atV_0, ↓atV_s, ↓onO_some, ↓onO_if, ↓onO_map, ↓wp_mVar, ↓varQ_frz, ↓varQ_lst, ↓wp_mMove, ↓wp_mPeek, ↓peekQ_frz, ↓peekQ_lst, ↓ice_frz, ↓fzs_frz, ↓wp_mSet, ↓wp_store, ↓wp_mT, ↓wp_mF, ↓fz_frz, ↓fz_lst, ↓wp_mB, ↓isB_bool, ↓wp_mOp, ↓wp_mC1, ↓wp_mC2, ↓wp_mC1T, ↓wp_mRet, ↓wp_rt, ↓wp_nx, ↓wp_exS, ↓wp_mDrop, Bool.not_true, Bool.not_false, decide_true, decide_false, ↓ifQ_t, ↓ifQ_f, ifQ_t, ifQ_f, ↓ifQ_d, ↓wp_mWhen, ↓wp_ifS, ↓wp_ifM, ↓wp_mIf, ↓wp_mAnd, ↓wp_mOr, ↓wp_mNot, ↓wp_andF, ↓wp_orF, ↓wp_mAndV, ↓wp_mOrV, ↓wp_notFn, ↓wp_mNotV, ↓wp_mNil, ↓wp_mCons, ↓wp_mTup, ↓wp_mLst, ↓ixW_frz, ↓ixW_scr, ↓ixW_lst, ↓ixL_frz, ↓ixL_lst, ↓wp_ixS, ↓wp_ixV, ↓putQ_lst, ↓wp_mSetIx, ↓wp_setF, ↓wp_setK, ↓appQ_lst, ↓isL_lst, ↓wp_mApp, ↓wp_appK, ↓wp_mLen, ↓lenT_frz, ↓lenT_scr, ↓lenT_lst, ↓lenF_list, ↓lenF_tuple, ↓wp_mAug, ↓addF_int, ↓addF_tup, ↓addF_list, ↓subF_int, ↓mulF_int, ↓modF_int, ↓divF_int, ↓powF_int, ↓ltF_int, ↓leF_int, ↓gtF_int, ↓geF_int, ↓eqF_int, ↓neF_int, ↓eqF_bool, ↓iaddF_int, ↓max2F_int, ↓min2F_int, ↓isNF_no, ↓notNF_no, ↓ixF_list, ↓ixF_tup, ↓ixN20, ↓ixN21, bigs, List.set, ↓at0, ↓at1, ↓at2, ↓inst_int_int, ↓inst_bool_int, ↓callQ_ret, ↓wp_mCall, ↓wp_callF, ↓wp_mArgs_nil, ↓wp_mArgs_d, ↓wp_mArgs_own, ↓restore_own, ↓restore_own0, ↓restore_d, ↓restore_cp, ↓restore_tm, ↓wp_mArgs_tm, ↓wp_mArgs_cp, ↓cpQ_scr, ↓wp_mCopy, ↓restore_nil, ↓finQ_rt, ↓finQ_nx, ↓finQ_ex, ↓wp_mFor, ↓wp_mRng1, ↓wp_mRng2, ↓wp_mIt, ↓rng1F_int, ↓rng2F_int, ↓lQ_nx, ↓lQ_ct, ↓lQ_bk, ↓lQ_rt, ↓lQ_ex, ↓whQ_ok, ↓wp_mComp, ↓wp_compK, ↓tsQ_ok, ↓elQ_ok, ↓wipeG_nil, ↓wipeG_cons, ↓gN_eq, ↓on_storeG, ↓on_gTu, ↓on_gTuL, ↓on_gC, ↓on_gE, ↓wp_mAsg, ↓wp_asgK, ↓allF_list, ↓anyF_list, List.set_cons_zero, List.set_cons_succ, List.length_cons, List.length_nil, List.length_set, List.map_cons, List.map_nil, List.cons_append, List.nil_append, List.replicate, Nat.reduceSub, Nat.reduceAdd]); repeat (with_reducible refine And.intro ?_ ?_; focus first | decide | trivial)))

/-! ### ties by their ends -/
theorem tie_uniq {most n : Nat} {ts : List Tie} (h : WebOk most n ts) {i j : Nat} (hi : i < ts.length) (hj : j < ts.length) (h1 : (tie ts i).1 = (tie ts j).1) (h2 : (tie ts i).2.1 = (tie ts j).2.1) : i = j := by
  have e : ∀ k (hk : k < ts.length), tie ts k = ts[k] := fun k hk => by unfold tie; simp [hk]
  rw [e i hi, e j hj] at h1 h2
  rcases Nat.lt_trichotomy i j with c | c | c
  · have := List.pairwise_iff_getElem.mp h.rise i j hi hj c
    unfold tieLt at this
    omega
  · exact c
  · have := List.pairwise_iff_getElem.mp h.rise j i hj hi c
    unfold tieLt at this
    omega
theorem zipL_map {α β : Type} (f : α → PyData) (g : β → PyData) : ∀ (L : List α) (M : List β), zipL (L.map f) (M.map g) = (L.zip M).map fun q => .tuple [f q.1, g q.2]
  | [], _ => by simp [zipL]
  | _ :: _, [] => by simp [zipL]
  | x :: L, y :: M => by
    rw [List.map_cons, List.map_cons]
    unfold zipL
    rw [zipL_map f g L M, List.zip_cons_cons, List.map_cons]
/-- neighbours in a row -/
def nexts {α : Type} (L : List α) : List (α × α) := L.zip L.tail
theorem nexts_zip {α : Type} (f : α → PyData) (L : List α) : zipF (.tuple (L.map f)) (.tuple (cutL (L.map f) (some 1) none)) = some ((nexts L).map fun q => .tuple [f q.1, f q.2]) := by
  rw [cut_tail, show (L.map f).tail = L.tail.map f by cases L <;> rfl]
  show some (zipL _ _) = _
  rw [zipL_map]
  rfl

/-! ### is_web of a web (out of mweb, ahead of it) -/
theorem run_iswh (i : Int) : f_is_whole [.frz (.int i)] = some (.ret (.frz (.bool true)) [none]) := by
  refine mf_eq (on_mf rfl ?_)
  unfold b_is_whole
  walk_at "go"
  rfl
def isT (n : Nat) (t : Tie) : Bool := decide (t.1 < t.2.1) && decide (t.2.1 < n) && decide (1 ≤ t.2.2) && decide (t.2.2 ≤ 10 ^ 18)
theorem run_istie (n : Nat) (t : Tie) : f_is_tie [.frz (.int (n : Int)), .frz (tieD t)] = some (.ret (.frz (.bool (isT n t))) [none, none]) := by
  refine mf_eq (on_mf rfl ?_)
  unfold b_is_tie
  rw [tieD_tup]
  walk_at "go"
  refine ⟨fun z => absurd rfl z, fun _ => ?_⟩
  refine comp_mapA [(t.1 : Int), (t.2.1 : Int), (t.2.2 : Int)] PyData.int (fun _ => .bool true) (sz_ge _ (by simp)) (fun v _ => ?_) ?_
  · walk_at "go"
    rw [run_iswh]
    walk_at "go"
    exact trivial
  · walk_at "go"
    refine onO_mk (bols_of (fun _ => true) [(t.1 : Int), (t.2.1 : Int), (t.2.2 : Int)]) ?_
    rw [show ([(t.1 : Int), (t.2.1 : Int), (t.2.2 : Int)].map fun _ => true).all id = true from rfl]
    walk_at "go"
    refine ⟨fun _ => ⟨fun c1 => ⟨fun c2 => ⟨fun c3 => ?_, fun c3 => ?_⟩, fun c2 => ?_⟩, fun c1 => ?_⟩, fun z => by omega⟩
    · rw [show isT n t = decide ((t.2.2 : Int) ≤ 1000000000000000000) by
        unfold isT
        rw [decide_eq_true (show t.1 < t.2.1 by omega), decide_eq_true (show t.2.1 < n by omega), decide_eq_true (show 1 ≤ t.2.2 by omega)]
        simp only [Bool.true_and]
        exact decide_eq_decide.mpr (by omega)]
      rfl
    · rw [show isT n t = false by unfold isT; rw [decide_eq_false (show ¬ 1 ≤ t.2.2 by omega)]; simp]; rfl
    · rw [show isT n t = false by unfold isT; rw [decide_eq_false (show ¬ t.2.1 < n by omega)]; simp]; rfl
    · rw [show isT n t = false by unfold isT; rw [decide_eq_false (show ¬ t.1 < t.2.1 by omega)]; simp]; rfl
/-- a tie from either end -/
theorem ltx_pair {a b c d : Int} (h : a < c ∨ a = c ∧ b < d) : ltxF (.tuple [.int a, .int b]) (.tuple [.int c, .int d]) = some (.bool true) := by
  unfold ltxF ordF
  have ok : cmpOk (.tuple [.int a, .int b]) (.tuple [.int c, .int d]) = true := rfl
  have lt : PySem.W.dataLt (.tuple [.int a, .int b]) (.tuple [.int c, .int d]) = true := by
    rw [lt_tup, ltAll_cons rfl]
    rcases h with h | ⟨h1, h2⟩
    · rw [eqv_int, if_neg (by rw [decide_eq_true_eq]; omega), PySem.W.dataLt_int]
      exact decide_eq_true h
    · rw [eqv_int, if_pos (decide_eq_true h1), ltAll_cons rfl, eqv_int, if_neg (by rw [decide_eq_true_eq]; omega), PySem.W.dataLt_int]
      exact decide_eq_true h2
  rw [if_pos ok, lt]
theorem nexts_rise {ts : List Tie} (h : ts.Pairwise tieLt) : ∀ q ∈ nexts ts, tieLt q.1 q.2 := by
  induction ts with
  | nil => intro q m; exact (List.not_mem_nil m).elim
  | cons t ts ih =>
    intro q m
    obtain ⟨h1, h2⟩ := List.pairwise_cons.mp h
    cases ts with
    | nil => exact (List.not_mem_nil m).elim
    | cons u ts =>
      rcases List.mem_cons.mp m with rfl | m
      · exact h1 u (List.mem_cons_self ..)
      · exact ih h2 q m
theorem run_isweb {most n : Nat} {ts : List Tie} (hm : most ≤ 24) (h : WebOk most n ts) : f_is_web [.frz (webD n ts)] = some (.ret (.frz (.bool true)) [none]) := by
  have hl := h.few
  have h1 := h.one
  have hn := h.le
  refine mf_eq (on_mf rfl ?_)
  unfold b_is_web webD
  walk_at "go"
  refine ⟨fun z => absurd rfl z, fun _ => ?_⟩
  rw [run_iswh]
  walk_at "go"
  rw [List.length_map]
  refine ⟨fun _ => ⟨fun z => by omega, fun _ => ⟨fun z => by omega, fun _ => ?_⟩⟩, fun z => by omega⟩
  refine comp_mapA ts tieD (fun _ => .bool true) (sz_ge _ (by omega)) (fun t m => ?_) ?_
  · obtain ⟨o1, o2, o3, o4⟩ := h.ok t m
    have w := run_istie n t
    rw [show isT n t = true by unfold isT; rw [decide_eq_true o1, decide_eq_true o2, decide_eq_true o3, decide_eq_true o4]; rfl] at w
    walk_at "go"
    rw [w]
    walk_at "go"
    exact trivial
  · walk_at "go"
    refine onO_mk (bols_of (fun _ => true) ts) ?_
    rw [show (ts.map fun _ => true).all id = true by rw [List.all_map]; exact List.all_eq_true.mpr fun _ _ => rfl]
    walk_at "go"
    refine onO_mk (nexts_zip tieD ts) ?_
    refine comp_mapA (nexts ts) (fun q => .tuple [tieD q.1, tieD q.2]) (fun _ => .bool true) (sz_ge _ (by unfold nexts; rw [List.length_zip]; omega)) (fun q m => ?_) ?_
    · rw [tieD_tup, tieD_tup]
      walk_at "go"
      have r := nexts_rise h.rise q m
      refine onO_mk (ltx_pair ?_) ⟨rfl, trivial⟩
      rcases r with r | ⟨r1, r2⟩ <;> omega
    · walk_at "go"
      refine onO_mk (bols_of (fun _ => true) (nexts ts)) ?_
      rw [show ((nexts ts).map fun _ => true).all id = true by rw [List.all_map]; exact List.all_eq_true.mpr fun _ _ => rfl]
      walk_at "go"
      rfl

/-! ### _law_same of tuples of ints -/
theorem zip_self {α : Type} : ∀ l : List α, l.zip l = l.map fun x => (x, x)
  | [] => rfl
  | x :: l => by rw [List.zip_cons_cons, zip_self l]; rfl
theorem run_lwhole (i : Int) : f__law_whole [.frz (.int i)] = some (.ret (.frz (.bool true)) [none]) := by
  refine mf_eq (on_mf rfl ?_)
  unfold b__law_whole
  walk_at "go"
  rfl
theorem same_int (k : Nat) (i : Int) : f__law_same (k + 1) [.frz (.int i), .frz (.int i)] = some (.ret (.frz (.bool true)) [none, none]) := by
  refine mf_eq (on_mf (n := 2) (N := 4) (io := []) rfl ?_)
  unfold b__law_same
  walk_at "go"
  rw [run_lwhole]
  walk_at "go"
  rfl
theorem same_ints (k : Nat) (l : List Int) (hl : l.length ≤ 1000) : f__law_same (k + 2) [.frz (.tuple (l.map .int)), .frz (.tuple (l.map .int))] = some (.ret (.frz (.bool true)) [none, none]) := by
  refine mf_eq (on_mf (n := 2) (N := 4) (io := []) rfl ?_)
  unfold b__law_same
  walk_at "go"
  refine onO_mk (a := l.map fun x => .tuple [.int x, .int x]) (by show some (zipL _ _) = _; rw [zipL_map, zip_self, List.map_map]; rfl) ?_
  refine comp_mapA l (fun x => .tuple [.int x, .int x]) (fun _ => .bool true) (sz_ge _ (by omega)) (fun x _ => ?_) ?_
  · walk_at "go"
    rw [same_int]
    walk_at "go"
    exact trivial
  · walk_at "go"
    refine onO_mk (bols_of (fun _ => true) l) ?_
    rw [all_true]
    walk_at "go"
    rfl
theorem same_nats (k : Nat) (l : List Nat) (hl : l.length ≤ 1000) : f__law_same (k + 2) [.frz (.tuple (l.map natD)), .frz (.tuple (l.map natD))] = some (.ret (.frz (.bool true)) [none, none]) := by
  rw [ints_nat]
  exact same_ints k _ (by rw [List.length_map]; exact hl)

/-! ### _law_same of webs (same ahead; out of k01n) -/
theorem lwh_n (i : Int) : f__law_whole [.frz (.int i)] = some (.ret (.frz (.bool true)) [none]) := run_lwhole i
theorem same_i (k : Nat) (i : Int) : f__law_same (k + 1) [.frz (.int i), .frz (.int i)] = some (.ret (.frz (.bool true)) [none, none]) := by
  refine mf_eq (on_mf (n := 2) (N := 4) (io := []) rfl ?_)
  unfold b__law_same
  walk_at "go"
  rw [show isNo (.int i) = false from rfl]
  walk_at "go"
  rw [lwh_n]
  walk_at "go"
  rfl
theorem same_tup (k : Nat) (l : List PyData) (hl : l.length ≤ 1000) (h : ∀ d ∈ l, f__law_same (k + 1) [.frz d, .frz d] = some (.ret (.frz (.bool true)) [none, none])) : f__law_same (k + 2) [.frz (.tuple l), .frz (.tuple l)] = some (.ret (.frz (.bool true)) [none, none]) := by
  have zd : zipL l l = l.map fun x => .tuple [x, x] := by
    clear h hl
    induction l with
    | nil => rfl
    | cons x l ih => exact congrArg (PyData.tuple [x, x] :: ·) ih
  refine mf_eq (on_mf (n := 2) (N := 4) (io := []) rfl ?_)
  unfold b__law_same
  walk_at "go"
  refine onO_mk (a := l.map fun x => .tuple [x, x]) (by show some (zipL _ _) = _; rw [zd]) ?_
  refine comp_mapA l (fun x => .tuple [x, x]) (fun _ => .bool true) (sz_ge _ (by omega)) (fun x m => ?_) ?_
  · walk_at "go"
    rw [h x m]
    walk_at "go"
    exact trivial
  · walk_at "go"
    refine onO_mk (bols_of (fun _ => true) l) ?_
    rw [show (l.map fun _ => true).all id = true by rw [List.all_map]; exact List.all_eq_true.mpr fun _ _ => rfl]
    walk_at "go"
    rfl
theorem same_web {most n : Nat} {ts : List Tie} (h : WebOk most n ts) : f__law_same 8 [.frz (webD n ts), .frz (webD n ts)] = some (.ret (.frz (.bool true)) [none, none]) := by
  have hl := h.few
  refine same_tup 6 _ (by simp) fun d m => ?_
  simp only [List.mem_cons, List.not_mem_nil, or_false] at m
  rcases m with rfl | rfl
  · exact same_i 6 _
  · refine same_tup 5 _ (by rw [List.length_map]; omega) fun d m => ?_
    obtain ⟨t, _, rfl⟩ := List.mem_map.mp m
    refine same_tup 4 _ (by simp) fun d m => ?_
    simp only [List.mem_cons, List.not_mem_nil, or_false] at m
    rcases m with rfl | rfl | rfl
    · exact same_i 4 _
    · exact same_i 4 _
    · exact same_i 4 _

/-! ### numbers, ties and webs as texts (TW50) -/
theorem eqv_str (a b : Str) : PyData.eqv (.str a) (.str b) = (a == b) := rfl
theorem lay_S (s : Str) (h : PyData.strOk s = true) : Lay (.str s) 0 := ⟨by rw [PyData.canLay0]; exact h, by rw [PyData.depth]; exact Nat.le_refl _⟩
theorem eqF_S {a b : Str} (ha : PyData.strOk a = true) (hb : PyData.strOk b = true) : eqF (.str a) (.str b) = some (.bool (a == b)) := by rw [eqF_lay (lay_S a ha) (lay_S b hb), eqv_str]
theorem neF_S {a b : Str} (ha : PyData.strOk a = true) (hb : PyData.strOk b = true) : neF (.str a) (.str b) = some (.bool !(a == b)) := by rw [neF_lay (lay_S a ha) (lay_S b hb), eqv_str]
/-- a number in figures -/
def numS (n : Nat) : Str := Str.ofString (toString (n : Int))
theorem numS_tl (n : Nat) : TL.tl (numS n) = TL.numL n := PySem.W.KIN.signs_num n
theorem numS_len (n : Nat) : (numS n).length = (TL.numL n).length := by rw [TL.len_tl, numS_tl]
theorem numL_fig {n c : Nat} (m : c ∈ TL.numL n) : 48 ≤ c ∧ c ≤ 57 := by
  rcases Nat.lt_or_ge c 48 with h | h
  · exact absurd m (TL.numL_free (.inl h))
  · rcases Nat.lt_or_ge 57 c with h2 | h2
    · exact absurd m (TL.numL_free (.inr h2))
    · exact ⟨h, h2⟩
theorem ok_tl {s : Str} (h : ∀ c ∈ TL.tl s, c < 1114112) : PyData.strOk s = true := by
  unfold PyData.strOk
  rw [Array.all_eq_true_iff_forall_mem]
  intro c m
  exact decide_eq_true (h c (Array.mem_toList_iff.mpr m))
theorem numS_ok (n : Nat) : PyData.strOk (numS n) = true := ok_tl fun c m => by
  rw [numS_tl] at m
  have := numL_fig m
  omega
theorem numL_head : ∀ n : Nat, n ≠ 0 → ∃ c r, TL.numL n = c :: r ∧ 49 ≤ c := by
  intro n
  induction n using Nat.strongRecOn with
  | ind n ih =>
    intro h
    rcases Nat.lt_or_ge n 10 with l | l
    · exact ⟨48 + n, [], TL.numL_lt l, by omega⟩
    · obtain ⟨c, r, e, hc⟩ := ih (n / 10) (by omega) (by omega)
      exact ⟨c, r ++ [48 + n % 10], by rw [TL.numL_step l, e]; rfl, hc⟩
theorem figs_in (c : Nat) (h : 48 ≤ c ∧ c ≤ 57) : c ∈ TL.tl (Str.ofString "0123456789") := by
  rw [TL.tl_ofString]
  have : c = 48 ∨ c = 49 ∨ c = 50 ∨ c = 51 ∨ c = 52 ∨ c = 53 ∨ c = 54 ∨ c = 55 ∨ c = 56 ∨ c = 57 := by omega
  rcases this with rfl | rfl | rfl | rfl | rfl | rfl | rfl | rfl | rfl | rfl <;> decide +kernel
theorem log_n {n : Nat} (h : n ≤ 10 ^ 18) : (n : Int).natAbs.log2 < 1920 := by
  rw [Int.natAbs_natCast]
  rcases Nat.eq_zero_or_pos n with z | z
  · rw [z]; decide
  · have h64 : n < 2 ^ 64 := Nat.lt_of_le_of_lt h (by decide)
    have := (Nat.log2_lt (show n ≠ 0 by omega)).mpr h64
    omega
theorem strF_n (n : Nat) (h : n ≤ 10 ^ 18) : strF (.int (n : Int)) = some (.str (numS n)) := if_pos (log_n h)
theorem fmtF_n (n : Nat) (h : n ≤ 10 ^ 18) : fmtF (.int (n : Int)) = some (.str (numS n)) := if_pos (log_n h)
theorem numL_19 {n : Nat} (h : n ≤ 10 ^ 18) : (TL.numL n).length ≤ 19 := TL.numL_len (by decide) (by omega)
theorem intSF_n (n : Nat) (h : n ≤ 10 ^ 18) : intSF (.str (numS n)) = some (.int (n : Int)) := by
  have l := numL_19 h
  have e : PySem.intText? (numS n) = some (n : Int) := TL.int_num (by omega)
  have c : (numS n).length ≤ 640 := by rw [numS_len]; omega
  exact (if_pos c).trans (by rw [e]; rfl)
theorem run_isnumber (n : Nat) (h : n ≤ 10 ^ 18) : f_is_number [.frz (.str (numS n))] = some (.ret (.frz (.bool true)) [none]) := by
  have l := numL_19 h
  have ne : (numS n == Str.ofString "") = false := by
    rw [beq_eq_false_iff_ne]
    intro e
    have : TL.tl (numS n) = TL.tl (Str.ofString "") := by rw [e]
    rw [numS_tl] at this
    exact TL.numL_ne n (this.trans (by decide +kernel))
  refine mf_eq (on_mf rfl ?_)
  unfold b_is_number
  walk_at "go"
  refine onO_mk (eqF_S (numS_ok n) (by decide +kernel)) ?_
  rw [ne]
  walk_at "go"
  have ll : lenF (.str (numS n)) = some (.int ((TL.numL n).length : Nat)) := by
    have c : (numS n).length ≤ sizeLine := by rw [numS_len, sizeLine_eq]; omega
    exact (if_pos c).trans (by rw [numS_len])
  refine onO_mk ll ?_
  walk_at "go"
  refine ⟨fun z => absurd z (by omega), fun _ => onO_mk (show signsF (.str (numS n)) = some ((TL.numL n).map fun c => .str ⟨#[c]⟩) by rw [← numS_tl]; rfl) ?_⟩
  refine comp_mapA (TL.numL n) (fun c => .str ⟨#[c]⟩) (fun _ => .bool true) (sz_ge _ (by omega)) (fun c m => ?_) ?_
  · walk_at "go"
    refine onO_mk (show inSF (.str ⟨#[c]⟩) (.str (Str.ofString "0123456789")) = some (.bool true) from ?_) ⟨rfl, trivial⟩
    show some (PyData.bool (decide (c ∈ TL.tl (Str.ofString "0123456789")))) = _
    rw [decide_eq_true (figs_in c (numL_fig m))]
  · walk_at "go"
    refine onO_mk (bols_of (fun _ => true) (TL.numL n)) ?_
    rw [show ((TL.numL n).map fun _ => true).all id = true by rw [List.all_map]; exact List.all_eq_true.mpr fun _ _ => rfl]
    walk_at "go"
    refine onO_mk (eqF_S (numS_ok n) (by decide +kernel)) ?_
    by_cases z : n = 0
    · subst z
      rw [show (numS 0 == Str.ofString "0") = true by decide +kernel]
      walk_at "go"
      rfl
    · obtain ⟨c, r, e, hc⟩ := numL_head n z
      have e0 : (numS n == Str.ofString "0") = false := by
        rw [beq_eq_false_iff_ne]
        intro q
        have : TL.tl (numS n) = [48] := by rw [q]; decide +kernel
        rw [numS_tl, e] at this
        injection this with q1 _
        omega
      have ei : ixF (.str (numS n)) (.int 0) = some (.str ⟨#[c]⟩) := by
        have cl : (numS n).length ≤ sizeLine := by rw [numS_len, sizeLine_eq]; omega
        refine (if_pos cl).trans ?_
        rw [show (numS n).cps.toList = c :: r by rw [← e, ← numS_tl]]
        rw [show atI (c :: r) 0 = some c from atI_nat (xs := c :: r) (j := 0) (v := c) rfl]
        rfl
      have eo : PyData.strOk ⟨#[c]⟩ = true := ok_tl fun x m => by
        have : x ∈ [c] := m
        have := numL_fig (n := n) (c := c) (by rw [e]; exact List.mem_cons_self ..)
        rw [List.mem_singleton.mp ‹x ∈ [c]›]
        omega
      have en : ((⟨#[c]⟩ : Str) == Str.ofString "0") = false := by
        rw [beq_eq_false_iff_ne]
        intro q
        have : TL.tl (⟨#[c]⟩ : Str) = [48] := by rw [q]; decide +kernel
        have : [c] = [48] := this
        injection this with q1 _
        omega
      rw [e0]
      walk_at "go"
      refine onO_mk ei (onO_mk (neF_S eo (by decide +kernel)) ?_)
      rw [en]
      rfl
theorem run_numberin (n : Nat) (h : n ≤ 10 ^ 18) : f_number_in [.frz (.str (numS n))] = some (.ret (.frz (.int (n : Int))) [none]) := by
  refine mf_eq (on_mf rfl ?_)
  unfold b_number_in
  walk_at "go"
  rw [run_isnumber n h]
  walk_at "go"
  refine onO_mk (intSF_n n h) ?_
  walk_at "go"
  rfl

/-! ### a tie's text, a web's text (k86a ahead) -/
def tieS (t : Tie) : Str := numS t.1 ++ Str.ofString "-" ++ (numS t.2.1 ++ Str.ofString ":" ++ numS t.2.2)
theorem tieS_js (t : Tie) : Str.empty ++ numS t.1 ++ Str.ofString "-" ++ numS t.2.1 ++ Str.ofString ":" ++ numS t.2.2 = tieS t := by
  refine TL.ext_tl ?_
  unfold tieS
  simp only [TL.tl_append, List.append_assoc]
  rfl
def wordsS (n : Nat) (ts : List Tie) : List Str := numS n :: ts.map tieS
def webS (n : Nat) (ts : List Tie) : Str := Txt.join (Str.ofString " ") (wordsS n ts)
theorem dash_tl : TL.tl (Str.ofString "-") = [45] := by decide +kernel
theorem colon_tl : TL.tl (Str.ofString ":") = [58] := by decide +kernel
theorem blank_tl : TL.tl (Str.ofString " ") = [32] := by decide +kernel
theorem tieS_part (t : Tie) : Txt.partition (tieS t) (Str.ofString "-") = (numS t.1, Str.ofString "-", numS t.2.1 ++ Str.ofString ":" ++ numS t.2.2) :=
  TL.partition_app (a := numS t.1) (b := numS t.2.1 ++ Str.ofString ":" ++ numS t.2.2) dash_tl (by rw [numS_tl]; exact TL.numL_free (.inl (by decide)))
theorem tieS_rest (t : Tie) : Txt.partition (numS t.2.1 ++ Str.ofString ":" ++ numS t.2.2) (Str.ofString ":") = (numS t.2.1, Str.ofString ":", numS t.2.2) :=
  TL.partition_app (a := numS t.2.1) (b := numS t.2.2) colon_tl (by rw [numS_tl]; exact TL.numL_free (.inr (by decide)))
theorem word_in {n : Nat} {ts : List Tie} {p : Str} (m : p ∈ wordsS n ts) : 32 ∉ TL.tl p ∧ ∀ c ∈ TL.tl p, c < 1114112 := by
  have num : ∀ k : Nat, ∀ c ∈ TL.tl (numS k), 48 ≤ c ∧ c ≤ 57 := fun k c mc => by rw [numS_tl] at mc; exact numL_fig mc
  have key : ∀ c ∈ TL.tl p, 45 ≤ c ∧ c ≤ 58 := fun c mc => by
    rcases List.mem_cons.mp m with rfl | m
    · have := num _ c mc; omega
    · obtain ⟨t, _, rfl⟩ := List.mem_map.mp m
      unfold tieS at mc
      simp only [TL.tl_append, dash_tl, colon_tl, List.mem_append, List.mem_singleton] at mc
      rcases mc with (mc | mc) | (mc | mc) | mc
      · have := num _ c mc; omega
      · omega
      · have := num _ c mc; omega
      · omega
      · have := num _ c mc; omega
  exact ⟨fun z => by have := key 32 z; omega, fun c mc => by have := key c mc; omega⟩
theorem webS_split (n : Nat) (ts : List Tie) : Txt.split (webS n ts) (Str.ofString " ") = wordsS n ts :=
  TL.split_join blank_tl (by decide +kernel) (fun z => by cases z) fun p m => (word_in m).1
theorem join_snoc {y p : Str} {l : List Str} (h : l ≠ []) : Txt.join y (l ++ [p]) = Txt.join y l ++ y ++ p := by
  cases l with
  | nil => exact absurd rfl h
  | cons a l =>
    show Builtin.Str.glued y (a :: l ++ [p]) = Builtin.Str.glued y (a :: l) ++ y ++ p
    unfold Builtin.Str.glued
    rw [List.cons_append, List.drop_succ_cons, List.drop_zero, List.foldl_append]
    refine TL.ext_tl ?_
    rw [TL.tl_append, TL.tl_append]
    simp only [List.foldl_cons, List.foldl_nil, List.headD_cons, List.drop_succ_cons, List.drop_zero]
    show (_ ++ _ ++ _ : Array Nat).toList = _
    simp only [Array.toList_append]
theorem numS_len19 {n : Nat} (h : n ≤ 10 ^ 18) : (numS n).length ≤ 19 := by rw [numS_len]; exact numL_19 h
theorem tieS_len {t : Tie} (h1 : t.1 ≤ 10 ^ 18) (h2 : t.2.1 ≤ 10 ^ 18) (h3 : t.2.2 ≤ 10 ^ 18) : (tieS t).length ≤ 60 := by
  have := numS_len19 h1
  have := numS_len19 h2
  have := numS_len19 h3
  have e1 : (Str.ofString "-").length = 1 := by decide +kernel
  have e2 : (Str.ofString ":").length = 1 := by decide +kernel
  unfold tieS
  simp only [PySem.Str.length_append]
  omega
theorem run_tiein {t : Tie} (h1 : t.1 ≤ 10 ^ 18) (h2 : t.2.1 ≤ 10 ^ 18) (h3 : t.2.2 ≤ 10 ^ 18) : f_tie_in [.frz (.str (tieS t))] = some (.ret (.frz (tieD t)) [none]) := by
  have l := tieS_len h1 h2 h3
  have e1 : partF (.str (tieS t)) (.str (Str.ofString "-")) = some (.tuple [.str (numS t.1), .str (Str.ofString "-"), .str (numS t.2.1 ++ Str.ofString ":" ++ numS t.2.2)]) := by
    refine (if_pos ⟨by decide +kernel, by rw [sizeLine_eq]; omega⟩).trans ?_
    rw [tieS_part]
  have l2 : (numS t.2.1 ++ Str.ofString ":" ++ numS t.2.2).length ≤ 60 := by
    have := numS_len19 h2
    have := numS_len19 h3
    have e2 : (Str.ofString ":").length = 1 := by decide +kernel
    simp only [PySem.Str.length_append]
    omega
  have e2 : partF (.str (numS t.2.1 ++ Str.ofString ":" ++ numS t.2.2)) (.str (Str.ofString ":")) = some (.tuple [.str (numS t.2.1), .str (Str.ofString ":"), .str (numS t.2.2)]) := by
    refine (if_pos ⟨by decide +kernel, by rw [sizeLine_eq]; omega⟩).trans ?_
    rw [tieS_rest]
  refine mf_eq (on_mf rfl ?_)
  unfold b_tie_in
  walk_at "go"
  refine onO_mk e1 ?_
  walk_at "go"
  refine onO_mk e2 ?_
  walk_at "go"
  refine onO_mk (eqF_S (by decide +kernel) (by decide +kernel)) ?_
  rw [show (Str.ofString "-" == Str.ofString "") = false by decide +kernel]
  walk_at "go"
  refine onO_mk (eqF_S (by decide +kernel) (by decide +kernel)) ?_
  rw [show (Str.ofString ":" == Str.ofString "") = false by decide +kernel]
  walk_at "go"
  rw [run_numberin _ h1]
  walk_at "go"
  rw [run_numberin _ h2]
  walk_at "go"
  rw [run_numberin _ h3]
  walk_at "go"
  rfl

/-! ### law k86 (k86b ahead) -/
theorem strsF_map {α : Type} (f : α → Str) : ∀ l : List α, strsF (l.map fun x => .str (f x)) = some (l.map f)
  | [] => rfl
  | x :: l => by
    rw [List.map_cons]
    unfold strsF
    rw [strsF_map f l]
    rfl
theorem tie18 {most n : Nat} {ts : List Tie} (hm : most ≤ 24) (h : WebOk most n ts) {t : Tie} (m : t ∈ ts) : t.1 ≤ 10 ^ 18 ∧ t.2.1 ≤ 10 ^ 18 ∧ t.2.2 ≤ 10 ^ 18 := by
  obtain ⟨o1, o2, o3, o4⟩ := h.ok t m
  have := h.le
  exact ⟨by omega, by omega, o4⟩
theorem sum_60 {α : Type} (f : α → Str) : ∀ l : List α, (∀ x ∈ l, (f x).length ≤ 60) → ((l.map f).map (·.length)).sum ≤ 60 * l.length
  | [], _ => Nat.le_refl _
  | x :: l, h => by
    have := sum_60 f l fun y m => h y (List.mem_cons_of_mem _ m)
    have := h x (List.mem_cons_self ..)
    rw [List.map_cons, List.map_cons, List.sum_cons, List.length_cons]
    omega
theorem webS_snoc (n : Nat) (ts : List Tie) (t : Tie) : webS n (ts ++ [t]) = webS n ts ++ Str.ofString " " ++ tieS t := by
  unfold webS wordsS
  rw [List.map_append, List.map_singleton, ← List.cons_append]
  exact join_snoc (fun z => by cases z)
theorem webS_nil (n : Nat) : webS n [] = numS n := rfl
theorem webS_len {most n : Nat} {ts : List Tie} (hm : most ≤ 24) (h : WebOk most n ts) : ∀ k, k ≤ ts.length → (webS n (ts.take k)).length ≤ 62 * (k + 1)
  | 0, _ => by
    have := numS_len19 (n := n) (by have := h.le; omega)
    rw [List.take_zero, webS_nil]
    omega
  | k + 1, hk => by
    have ih := webS_len hm h k (by omega)
    have hk1 : k < ts.length := hk
    obtain ⟨t1, t2, t3⟩ := tie18 hm h (List.getElem_mem hk1)
    have := tieS_len t1 t2 t3
    have e1 : (Str.ofString " ").length = 1 := by decide +kernel
    rw [take_snoc hk1, webS_snoc]
    simp only [PySem.Str.length_append]
    omega
theorem webS_lt (n : Nat) (ts : List Tie) : ∀ k, k ≤ ts.length → ∀ c ∈ TL.tl (webS n (ts.take k)), c < 1114112
  | 0, _, c, m => by
    rw [List.take_zero, webS_nil] at m
    exact (word_in (n := n) (ts := []) (List.mem_cons_self ..)).2 c m
  | k + 1, hk, c, m => by
    have hk1 : k < ts.length := hk
    rw [take_snoc hk1, webS_snoc, TL.tl_append, TL.tl_append, List.mem_append, List.mem_append] at m
    rcases m with (m | m) | m
    · exact webS_lt n ts k (by omega) c m
    · rw [blank_tl, List.mem_singleton] at m
      omega
    · exact (word_in (n := n) (ts := [ts[k]]) (p := tieS ts[k]) (by unfold wordsS; simp)).2 c m
theorem webS_ok (n : Nat) (ts : List Tie) : PyData.strOk (webS n ts) = true := ok_tl fun c m => webS_lt n ts ts.length (Nat.le_refl _) c (by rw [List.take_length]; exact m)
theorem webD_self {n : Nat} {ts : List Tie} : eqF (webD n ts) (webD n ts) = some (.bool true) := by
  have l : Lay (webD n ts) 3 := lay_tup (k := 2) fun d m => by
    simp only [List.mem_cons, List.not_mem_nil, or_false] at m
    rcases m with rfl | rfl
    · exact lay_int _ _
    · exact lay_tup (k := 1) fun d m => by
        obtain ⟨t, _, rfl⟩ := List.mem_map.mp m
        unfold tieD
        exact lay_tup (k := 0) fun d m => by
          simp only [List.mem_cons, List.not_mem_nil, or_false] at m
          rcases m with rfl | rfl | rfl <;> exact lay_int _ _
  rw [eqF_lay l l, eqv_self l]
theorem run_webtext {most n : Nat} {ts : List Tie} (hm : most ≤ 24) (h : WebOk most n ts) : f_web_text [.frz (webD n ts)] = some (.ret (.frz (.str (webS n ts))) [none]) := by
  have hl := h.few
  have hn : n ≤ 10 ^ 18 := by have := h.le; omega
  refine mf_eq (on_mf rfl ?_)
  unfold b_web_text webD
  walk_at "go"
  refine onO_mk (strF_n n hn) ?_
  walk_at "go"
  refine comp_mapA ts tieD (fun t => .str (tieS t)) (sz_ge _ (by omega)) (fun t m => ?_) ?_
  · obtain ⟨t1, t2, t3⟩ := tie18 hm h m
    have l1 := numS_len19 t1
    have l2 := numS_len19 t2
    have l3 := numS_len19 t3
    have e1 : (Str.ofString "-").length = 1 := by decide +kernel
    have e2 : (Str.ofString ":").length = 1 := by decide +kernel
    have e0 : Str.empty.length = 0 := rfl
    have se := sizeLine_eq
    rw [tieD_tup]
    walk_at "go"
    refine onO_mk (fmtF_n _ t1) ?_
    walk_at "go"
    simp only [PySem.Str.length_append]
    refine ⟨by omega, by omega, ?_⟩
    refine onO_mk (fmtF_n _ t2) ?_
    walk_at "go"
    simp only [PySem.Str.length_append]
    refine ⟨by omega, by omega, ?_⟩
    refine onO_mk (fmtF_n _ t3) ?_
    walk_at "go"
    simp only [PySem.Str.length_append]
    refine ⟨by omega, ?_⟩
    rw [tieS_js]
    exact ⟨rfl, trivial⟩
  · walk_at "go"
    rw [List.length_map]
    have hs : ((wordsS n ts).map (·.length)).sum ≤ 60 * (ts.length + 1) := by
      have := sum_60 tieS ts fun t m => by
        obtain ⟨t1, t2, t3⟩ := tie18 hm h m
        exact tieS_len t1 t2 t3
      have := numS_len19 hn
      unfold wordsS
      rw [List.map_cons, List.sum_cons]
      omega
    have e1 : (Str.ofString " ").length = 1 := by decide +kernel
    have wl : (wordsS n ts).length = ts.length + 1 := by unfold wordsS; rw [List.length_cons, List.length_map]
    refine ⟨by rw [sizeLine_eq]; omega, onO_mk (show joinF (.str (Str.ofString " ")) (.list (.str (numS n) :: ts.map fun t => .str (tieS t))) = some (.str (webS n ts)) from ?_) rfl⟩
    have es : strsF (.str (numS n) :: ts.map fun t => .str (tieS t)) = some (wordsS n ts) := by
      unfold strsF
      rw [strsF_map]
      rfl
    show (strsF (.str (numS n) :: ts.map fun t => .str (tieS t))).bind (fun ys => if (ys.map (·.length)).sum + ys.length * (Str.ofString " ").length ≤ 16777216 then some (PyData.str (Txt.join (Str.ofString " ") ys)) else none) = _
    rw [es]
    exact if_pos (by rw [wl, e1]; omega)
theorem addF_S {a b : Str} (h : a.length + b.length ≤ sizeLine) : addF (.str a) (.str b) = some (.str (a ++ b)) := if_pos h
theorem run_lwritten {most n : Nat} {ts : List Tie} (hm : most ≤ 24) (h : WebOk most n ts) : f__law_written [.frz (webD n ts)] = some (.ret (.frz (.str (webS n ts))) [none]) := by
  have hl := h.few
  have hn : n ≤ 10 ^ 18 := by have := h.le; omega
  refine mf_eq (on_mf rfl ?_)
  unfold b__law_written webD
  walk_at "go"
  refine onO_mk (strF_n n hn) ⟨by decide, ?_⟩
  refine loop_inv (fun k Γ => ∃ t2 t3 t4 : Option T, Γ = [some (.frz (.tuple [.int (n : Int), .tuple (ts.map tieD)])), some (.frz (.str (webS n (ts.take k)))), t2, t3, t4]) ⟨_, _, _, by rw [List.take_zero, webS_nil]⟩ ?_ ?_
  · rintro k d Γ hk ⟨t2, t3, t4, rfl⟩
    have hk1 : k < ts.length := by
      have := (List.getElem?_eq_some_iff.mp hk).1
      rwa [List.length_map] at this
    have ed : d = tieD ts[k] := by
      rw [List.getElem?_map, List.getElem?_eq_getElem hk1] at hk
      exact (Option.some.inj hk).symm
    have wl := webS_len hm h k (by omega)
    rw [take_snoc hk1, webS_snoc]
    obtain ⟨t1, t2, t3⟩ := tie18 hm h (List.getElem_mem hk1)
    generalize ts[k] = t at *
    generalize webS n (ts.take k) = acc at *
    subst ed
    have l1 := numS_len19 t1
    have l2 := numS_len19 t2
    have l3 := numS_len19 t3
    have e0 : (Str.ofString " ").length = 1 := by decide +kernel
    have e1 : (Str.ofString "-").length = 1 := by decide +kernel
    have e2 : (Str.ofString ":").length = 1 := by decide +kernel
    have se := sizeLine_eq
    rw [tieD_tup]
    walk_at "go"
    refine onO_mk (addF_S (by omega)) (onO_mk (strF_n _ t1) (onO_mk (addF_S (by simp only [PySem.Str.length_append]; omega)) (onO_mk (addF_S (by simp only [PySem.Str.length_append]; omega)) (onO_mk (strF_n _ t2) (onO_mk (addF_S (by simp only [PySem.Str.length_append]; omega)) (onO_mk (addF_S (by simp only [PySem.Str.length_append]; omega)) (onO_mk (strF_n _ t3) (onO_mk (addF_S (by simp only [PySem.Str.length_append]; omega)) ⟨by decide, ?_⟩))))))))
    have ea : acc ++ Str.ofString " " ++ numS t.1 ++ Str.ofString "-" ++ numS t.2.1 ++ Str.ofString ":" ++ numS t.2.2 = acc ++ Str.ofString " " ++ tieS t := by
      refine TL.ext_tl ?_
      unfold tieS
      simp only [TL.tl_append, List.append_assoc]
    rw [ea]
    exact ⟨_, _, _, rfl⟩
  · rintro Γ ⟨t2, t3, t4, rfl⟩
    rw [List.length_map, List.take_length]
    walk_at "go"
    rfl
theorem run_readweb {most n : Nat} {ts : List Tie} (hm : most ≤ 24) (h : WebOk most n ts) : f_read_web [.frz (.str (webS n ts))] = some (.ret (.frz (webD n ts)) [none]) := by
  have hl := h.few
  have hn : n ≤ 10 ^ 18 := by have := h.le; omega
  have wl := webS_len hm h ts.length (Nat.le_refl _)
  rw [List.take_length] at wl
  have e1 : splitF (.str (webS n ts)) (.str (Str.ofString " ")) = some (.list (.str (numS n) :: ts.map fun t => .str (tieS t))) := by
    refine (if_pos ⟨by decide +kernel, by rw [sizeLine_eq]; omega⟩).trans ?_
    rw [webS_split]
    unfold wordsS
    rw [List.map_cons, List.map_map]
    rfl
  refine mf_eq (on_mf rfl ?_)
  unfold b_read_web
  walk_at "go"
  refine onO_mk e1 ⟨by decide, ?_⟩
  refine onO_mk (show ixF (.list (.str (numS n) :: ts.map fun t => .str (tieS t))) (.int 0) = some (.str (numS n)) from atI_nat (j := 0) rfl) ?_
  rw [run_numberin n hn]
  walk_at "go"
  rw [show cutL (PyData.str (numS n) :: ts.map fun t => PyData.str (tieS t)) (some 1) none = ts.map fun t => PyData.str (tieS t) by rw [cut_tail]; rfl]
  refine comp_mapA ts (fun t => .str (tieS t)) tieD (sz_ge _ (by omega)) (fun t m => ?_) ?_
  · obtain ⟨t1, t2, t3⟩ := tie18 hm h m
    walk_at "go"
    rw [run_tiein t1 t2 t3]
    walk_at "go"
    exact trivial
  · walk_at "go"
    rw [show PyData.tuple [PyData.int (n : Int), PyData.tuple (ts.map tieD)] = webD n ts from rfl]
    rw [run_isweb hm h]
    walk_at "go"
    rfl
theorem law_true (ns : List Int) (hn : ns.length ≤ 63) : onO (f_law [.scr ns]) fun c => ∃ outs, c = .ret (.frz (.bool true)) outs := by
  refine on_mf rfl ?_
  unfold b_law
  walk_at "go"
  refine ⟨⟨by omega, by omega⟩, ?_⟩
  obtain ⟨N, eN⟩ : ∃ N : Nat, (max 3 (min 10 (ns.length : Int))).toNat = N := ⟨_, rfl⟩
  rw [eN]
  refine loop_upto (fun j Γ => ∃ t1 t2 t3 t4 : Option T, Γ = [some (.scr ns), t1, t2, t3, t4]) ⟨_, _, _, _, rfl⟩ ?_ ?_
  · rintro j Γ hj ⟨t1, t2, t3, t4, rfl⟩
    walk_at "go"
    refine on_pot (by omega) (by omega) fun p hp => ?_
    walk_at "go"
    refine on_take hp (by decide) (by decide) fun r p1 r0 r1 hp1 => ?_
    walk_at "go"
    obtain ⟨most, m1, m24, em⟩ : ∃ m : Nat, 1 ≤ m ∧ m ≤ 24 ∧ atI [PyData.int 6, PyData.int 12, PyData.int 24] r = some (.int (m : Int)) := by
      rcases (show r = 0 ∨ r = 1 ∨ r = 2 by omega) with rfl | rfl | rfl
      · exact ⟨6, by decide, by decide, rfl⟩
      · exact ⟨12, by decide, by decide, rfl⟩
      · exact ⟨24, by decide, by decide, rfl⟩
    refine onO_mk em ?_
    refine on_web hp1 m24 m1 fun n ts p2 hok hp2 => ?_
    have so := webS_ok n ts
    walk_at "go"
    rw [run_webtext m24 hok]
    walk_at "go"
    rw [run_lwritten m24 hok]
    walk_at "go"
    refine onO_mk (neF_S so so) ?_
    rw [beq_self_eq_true]
    walk_at "go"
    rw [run_readweb m24 hok]
    walk_at "go"
    rw [same_web hok]
    walk_at "go"
    exact ⟨_, _, _, _, rfl⟩
  · rintro Γ ⟨t1, t2, t3, t4, rfl⟩
    have w1 : WebOk 24 1 [] := ⟨by decide, by decide, by decide, fun t m => (List.not_mem_nil m).elim, List.Pairwise.nil⟩
    have w2 : WebOk 24 24 [(0, 23, 10 ^ 18)] := ⟨by decide, by decide, by decide, fun t m => by
      rw [List.mem_singleton.mp m]
      exact ⟨by decide, by decide, by decide, by decide⟩, List.pairwise_singleton _ _⟩
    have r1 := run_readweb (by decide) w1
    have r2 := run_readweb (by decide) w2
    rw [show webS 1 [] = Str.ofString "1" by decide +kernel] at r1
    rw [show webS 24 [(0, 23, 10 ^ 18)] = Str.ofString "24 0-23:1000000000000000000" by decide +kernel] at r2
    walk_at "go"
    rw [r1]
    walk_at "go"
    refine onO_mk (show eqF (webD 1 []) (.tuple [.int 1, .tuple []]) = some (.bool true) from webD_self (n := 1) (ts := [])) ?_
    walk_at "go"
    rw [r2]
    walk_at "go"
    refine onO_mk (show eqF (webD 24 [(0, 23, 10 ^ 18)]) _ = some (.bool true) from webD_self (n := 24) (ts := [(0, 23, 10 ^ 18)])) ?_
    exact ⟨_, rfl⟩

end Lw
open PySem PySem.W PySem.Calls PyProof.Rows
theorem PySem.Challenge.cw_thinways_k86_webs_written_holds : PySem.Challenge.rw_thinways_k86_webs_written.Holds := by
  w_on; o_law
  refine HandSHeadRun.head_any (r := Lw.R) (q := view Lw.R.prog [28]) (H := Lw.hk) (ob := Lw.ob) (M := 2140) (loose := Lw.loose) (d := HandSHeadRun.topDef Lw.R.prog 28) (kwd := []) Lw.ob_eq (by kernel_rfl) (fun s => by kernel_rfl) Lw.run
    (by kernel_rfl) (by kernel_rfl) (by kernel_rfl) (by rfl) (by first | assumption | decide +kernel) (by decide +kernel) ⟨rfl, rfl, rfl, rfl, rfl, by decide +kernel⟩ ?hw ?hc
  case hw => w_witness2
  case hc =>
    refine TW.walk_ofG (l := PySem.Challenge.rw_thinways_k86_webs_written) (n := 63) (k := 10) (x := "script") (CX := L2.CX0) rfl (by decide) (by kernel_rfl) ⟨rfl, by decide, by decide⟩ ?F (fun _ _ _ _ z => z)
    intro w mg fa h Y G hmg0
    obtain ⟨K, KX, c⟩ := Y
    have hmg : mg ("law" : PySem.Str) = some (.ref fa) := by
      have e : (HandSHeadRun.topDef Lw.R.prog 28).name = ("law" : PySem.Str) := by kernel_rfl
      rw [← e]
      exact hmg0
    obtain ⟨fd, hb, hF⟩ := Lw.facts (P := (PySem.Challenge.rw_thinways_k86_webs_written).prog) (w := w) KX G hmg c
    exact ⟨K, fd, (fun vs H Q _ => TW.spM 1 K Lw.f_law vs H Q L2.E0), KX, hb, fun H a ns hl _ hS => TW.law_end (n := 63) (fun ns hn => TW.onO_ret (Lw.law_true ns hn)) H a ns hl hS, hF⟩
