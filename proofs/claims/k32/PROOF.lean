import PyProof.Rows.All
import Wide.All
import OpenK.AllK
import Wide.FinOn
import HandS.ForMost
import HandS.Exc
import HandS.TryOnly
import HandS.ExcOwn
import HandS.WordsExc
import HandS.Defaults
import HandS.Deep
import HandS.TupAny
import HandS.Wide
import HandS.HeadHook1
import HandS.HeadHook2
import HandS.IsInst
import HandS.Ends
import HandS.HeadEnd
import KE.KStateDown
import HandS.Head0
import HandS.Head1
import HandS.Head2
import PySem.Challenge.RW_thinways_k32_shares_told
set_option Elab.async false
set_option linter.all false
set_option maxRecDepth 100000
set_option maxHeartbeats 8000000
set_option exponentiation.threshold 5000
/-! A value layer: data trees in the place of heaps. -/
namespace TW
open PySem PySem.Spec L2

/-- a value as the layer sees it: frozen data, a list that is owned, a dict that is owned -/
inductive T where
  | frz (d : PyData)
  | scr (ns : List Int)
  | lst (ts : List T)
  | dct (kvs : List (Key × PyData))

/-! data that stand frozen: as L2.Dp, its lists tracked -/
mutual
inductive Df (K : PySem.W.Frag) (F : Hp) : V → PyData → Prop
  | non : Df K F .non .none
  | bl (b : Bool) : Df K F (.bl b) (.bool b)
  | int (i : Int) : Df K F (.int i) (.int i)
  | str (x : Str) : Df K F (.str x) (.str x)
  | lst {a : Addr} {xs : List V} {ds : List PyData} : F a = some (.lst xs) → DfAll K F xs ds → Df K F (.ref a) (.list ds)
  | tup {a : Addr} {xs : List V} {ds : List PyData} : SqT K F a xs → DfAll K F xs ds → Df K F (.ref a) (.tuple ds)
inductive DfAll (K : PySem.W.Frag) (F : Hp) : List V → List PyData → Prop
  | nil : DfAll K F [] []
  | cons {v : V} {vs : List V} {d : PyData} {ds : List PyData} : Df K F v d → DfAll K F vs ds → DfAll K F (v :: vs) (d :: ds)
end

mutual
def RepT (K : PySem.W.Frag) (F H : Hp) : T → V → List Addr → Prop
  | .frz d, v, o => Df K F v d ∧ o = []
  | .scr ns, v, o => (∃ a, v = .ref a ∧ SqL K F a (ns.map V.int)) ∧ o = []
  | .lst ts, v, o => ∃ a vs o', v = .ref a ∧ H a = some (.lst vs) ∧ RepTs K F H ts vs o' ∧ o = a :: o'
  | .dct kvs, v, o => ∃ a ps, v = .ref a ∧ H a = some (.dK ps) ∧ Paired (fun (p : Key × PyData) (q : Key × V) => p.1 = q.1 ∧ Df K F q.2 p.2) kvs ps ∧ o = [a]
def RepTs (K : PySem.W.Frag) (F H : Hp) : List T → List V → List Addr → Prop
  | [], vs, o => vs = [] ∧ o = []
  | t :: ts, vs, o => ∃ v r o1 o2, vs = v :: r ∧ RepT K F H t v o1 ∧ RepTs K F H ts r o2 ∧ o = o1 ++ o2
end
abbrev G := List (Option T)
def RepG (K : PySem.W.Frag) (F H : Hp) : G → St → List Addr → Prop
  | [], σ, o => σ = [] ∧ o = []
  | none :: Γ, σ, o => ∃ x r, σ = x :: r ∧ RepG K F H Γ r o
  | some t :: Γ, σ, o => ∃ v r o1 o2, σ = some v :: r ∧ RepT K F H t v o1 ∧ RepG K F H Γ r o2 ∧ o = o1 ++ o2

/-- the state: F the frozen part of the heap, O what the slots own -/
structure Ok (K : PySem.W.Frag) (F H : Hp) (Γ : G) (σ : St) (O : List Addr) : Prop where
  sub : Same F H
  rep : RepG K F H Γ σ O
  nd : O.Nodup
  out : ∀ a ∈ O, F a = none
/-- what a piece of code may do: owning O, it leaves all else as it was, and owns O' behind -/
structure Step (F H : Hp) (O : List Addr) (F' H' : Hp) (O' : List Addr) : Prop where
  f : Same F F'
  fr : ∀ a, H a ≠ none → a ∉ O → H' a = H a ∧ (F' a ≠ none → F a ≠ none)
  own : ∀ a ∈ O', a ∈ O ∨ H a = none

/-! ### frozen data grow with the heap -/
mutual
theorem Df.mono {K : PySem.W.Frag} {F F' : Hp} (e : Same F F') : ∀ (d : PyData) (v : V), Df K F v d → Df K F' v d
  | .none, _, h => by cases h; exact .non
  | .bool b, _, h => by cases h; exact .bl b
  | .int i, _, h => by cases h; exact .int i
  | .str x, _, h => by cases h; exact .str x
  | .list ds, _, h => by
    cases h with
    | lst hs ha => exact .lst (e _ _ hs) (DfAll.mono e ds _ ha)
  | .tuple ds, _, h => by
    cases h with
    | tup hs ha =>
      refine .tup ?_ (DfAll.mono e ds _ ha)
      rcases hs with (h | ⟨o, h⟩) | h
      · exact .inl (.inl (e _ _ h))
      · exact .inl (.inr ⟨o, e _ _ h⟩)
      · exact .inr h
  | .dict _, _, h => by cases h
theorem DfAll.mono {K : PySem.W.Frag} {F F' : Hp} (e : Same F F') : ∀ (ds : List PyData) (vs : List V), DfAll K F vs ds → DfAll K F' vs ds
  | [], _, h => by cases h; exact .nil
  | d :: ds, _, h => by
    cases h with
    | cons h1 h2 => exact .cons (Df.mono e d _ h1) (DfAll.mono e ds _ h2)
end
theorem DfAll.length {K : PySem.W.Frag} {F : Hp} : ∀ {vs : List V} {ds : List PyData}, DfAll K F vs ds → vs.length = ds.length
  | _, _, .nil => rfl
  | _, _, .cons _ h => congrArg Nat.succ (DfAll.length h)
theorem DfAll.get {K : PySem.W.Frag} {F : Hp} : ∀ {vs : List V} {ds : List PyData} {i : Nat} {d : PyData}, DfAll K F vs ds → ds[i]? = some d → ∃ v, vs[i]? = some v ∧ Df K F v d
  | _, _, _, _, .nil, e => by simp at e
  | _, _, 0, _, .cons h _, e => by simp at e; subst e; exact ⟨_, rfl, h⟩
  | _, _, i + 1, d, .cons _ h, e => by
    obtain ⟨v, h1, h2⟩ := DfAll.get (i := i) (d := d) h (by simpa using e)
    exact ⟨v, by simpa using h1, h2⟩
theorem DfAll.get' {K : PySem.W.Frag} {F : Hp} : ∀ {vs : List V} {ds : List PyData} {i : Nat} {v : V}, DfAll K F vs ds → vs[i]? = some v → ∃ d, ds[i]? = some d ∧ Df K F v d
  | _, _, _, _, .nil, e => by simp at e
  | _, _, 0, _, .cons h _, e => by simp at e; subst e; exact ⟨_, rfl, h⟩
  | _, _, i + 1, d, .cons _ h, e => by
    obtain ⟨v, h1, h2⟩ := DfAll.get' (i := i) (v := d) h (by simpa using e)
    exact ⟨v, by simpa using h1, h2⟩
theorem DfAll.append {K : PySem.W.Frag} {F : Hp} : ∀ {vs ws : List V} {ds es : List PyData}, DfAll K F vs ds → DfAll K F ws es → DfAll K F (vs ++ ws) (ds ++ es)
  | _, _, _, _, .nil, h => h
  | _, _, _, _, .cons h r, h' => .cons h (DfAll.append r h')
theorem DfAll.take {K : PySem.W.Frag} {F : Hp} : ∀ {vs : List V} {ds : List PyData} (n : Nat), DfAll K F vs ds → DfAll K F (vs.take n) (ds.take n)
  | _, _, 0, _ => .nil
  | _, _, _ + 1, .nil => .nil
  | _, _, n + 1, .cons h r => .cons h (DfAll.take n r)
theorem DfAll.drop {K : PySem.W.Frag} {F : Hp} : ∀ {vs : List V} {ds : List PyData} (n : Nat), DfAll K F vs ds → DfAll K F (vs.drop n) (ds.drop n)
  | _, _, 0, r => r
  | _, _, _ + 1, .nil => .nil
  | _, _, n + 1, .cons _ r => DfAll.drop n r
theorem DfAll.reverse {K : PySem.W.Frag} {F : Hp} {vs : List V} {ds : List PyData} (h : DfAll K F vs ds) : DfAll K F vs.reverse ds.reverse := by
  induction h using DfAll.rec (motive_1 := fun _ _ _ => True) with
  | nil => exact .nil
  | cons h1 h2 ih1 ih2 => simp only [List.reverse_cons]; exact DfAll.append ih2 (.cons h1 .nil)
  | _ => trivial

/-! ### the owned parts stand where they stood -/
def On (o : List Addr) (H H' : Hp) : Prop := ∀ a ∈ o, H' a = H a
theorem On.left {o1 o2 : List Addr} {H H' : Hp} (h : On (o1 ++ o2) H H') : On o1 H H' := fun a m => h a (List.mem_append_left _ m)
theorem On.right {o1 o2 : List Addr} {H H' : Hp} (h : On (o1 ++ o2) H H') : On o2 H H' := fun a m => h a (List.mem_append_right _ m)
theorem paired_mono {K : PySem.W.Frag} {F F' : Hp} (e : Same F F') {kvs : List (Key × PyData)} {ps : List (Key × V)} (h : Paired (fun (p : Key × PyData) (q : Key × V) => p.1 = q.1 ∧ Df K F q.2 p.2) kvs ps) :
    Paired (fun (p : Key × PyData) (q : Key × V) => p.1 = q.1 ∧ Df K F' q.2 p.2) kvs ps := Paired.mapP h fun _ _ q => ⟨q.1, Df.mono e _ _ q.2⟩
mutual
theorem RepT.mono {K : PySem.W.Frag} {F F' H H' : Hp} (e : Same F F') : ∀ (t : T) (v : V) (o : List Addr), RepT K F H t v o → On o H H' → RepT K F' H' t v o
  | .frz d, v, o, h, n => by
    unfold RepT at h ⊢
    exact ⟨Df.mono e _ _ h.1, h.2⟩
  | .scr ns, v, o, h, n => by
    unfold RepT at h ⊢
    obtain ⟨⟨a, rfl, hs⟩, h2⟩ := h
    exact ⟨⟨a, rfl, e.seq hs⟩, h2⟩
  | .lst ts, v, o, h, n => by
    unfold RepT at h ⊢
    obtain ⟨a, vs, o', rfl, ha, hr, rfl⟩ := h
    exact ⟨a, vs, o', rfl, (n a (List.mem_cons_self ..)).trans ha, RepTs.mono e ts vs o' hr fun b m => n b (List.mem_cons_of_mem _ m), rfl⟩
  | .dct kvs, v, o, h, n => by
    unfold RepT at h ⊢
    obtain ⟨a, ps, rfl, ha, hp, rfl⟩ := h
    exact ⟨a, ps, rfl, (n a (List.mem_cons_self ..)).trans ha, paired_mono e hp, rfl⟩
theorem RepTs.mono {K : PySem.W.Frag} {F F' H H' : Hp} (e : Same F F') : ∀ (ts : List T) (vs : List V) (o : List Addr), RepTs K F H ts vs o → On o H H' → RepTs K F' H' ts vs o
  | [], vs, o, h, n => by
    unfold RepTs at h ⊢
    exact h
  | t :: ts, vs, o, h, n => by
    unfold RepTs at h ⊢
    obtain ⟨v, r, o1, o2, rfl, h1, h2, rfl⟩ := h
    exact ⟨v, r, o1, o2, rfl, RepT.mono e t v o1 h1 n.left, RepTs.mono e ts r o2 h2 n.right, rfl⟩
end
theorem RepG.mono {K : PySem.W.Frag} {F F' H H' : Hp} (e : Same F F') : ∀ {Γ : G} {σ : St} {o : List Addr}, RepG K F H Γ σ o → On o H H' → RepG K F' H' Γ σ o
  | [], _, _, h, n => h
  | none :: Γ, _, _, h, n => by
    obtain ⟨x, r, rfl, h⟩ := h
    exact ⟨x, r, rfl, RepG.mono e h n⟩
  | some t :: Γ, _, _, h, n => by
    obtain ⟨v, r, o1, o2, rfl, h1, h2, rfl⟩ := h
    exact ⟨v, r, o1, o2, rfl, RepT.mono e t v o1 h1 n.left, RepG.mono e h2 n.right, rfl⟩
mutual
theorem RepT.live {K : PySem.W.Frag} {F H : Hp} : ∀ (t : T) (v : V) (o : List Addr), RepT K F H t v o → ∀ a ∈ o, H a ≠ none
  | .frz d, v, o, h => by
    unfold RepT at h
    rw [h.2]
    intro a m
    cases m
  | .scr d, v, o, h => by
    unfold RepT at h
    rw [h.2]
    intro a m
    cases m
  | .lst ts, v, o, h => by
    unfold RepT at h
    obtain ⟨a, vs, o', rfl, ha, hr, rfl⟩ := h
    intro b m
    rcases List.mem_cons.mp m with rfl | m
    · rw [ha]; intro q; cases q
    · exact RepTs.live ts vs o' hr b m
  | .dct kvs, v, o, h => by
    unfold RepT at h
    obtain ⟨a, ps, rfl, ha, hp, rfl⟩ := h
    intro b m
    rcases List.mem_cons.mp m with rfl | m
    · rw [ha]; intro q; cases q
    · cases m
theorem RepTs.live {K : PySem.W.Frag} {F H : Hp} : ∀ (ts : List T) (vs : List V) (o : List Addr), RepTs K F H ts vs o → ∀ a ∈ o, H a ≠ none
  | [], vs, o, h => by
    unfold RepTs at h
    rw [h.2]
    intro a m
    cases m
  | t :: ts, vs, o, h => by
    unfold RepTs at h
    obtain ⟨v, r, o1, o2, rfl, h1, h2, rfl⟩ := h
    intro a m
    rcases List.mem_append.mp m with m | m
    · exact RepT.live t v o1 h1 a m
    · exact RepTs.live ts r o2 h2 a m
end
theorem RepG.live {K : PySem.W.Frag} {F H : Hp} : ∀ {Γ : G} {σ : St} {o : List Addr}, RepG K F H Γ σ o → ∀ a ∈ o, H a ≠ none
  | [], _, _, h => by
    rw [h.2]
    intro a m
    cases m
  | none :: Γ, _, _, h => by
    obtain ⟨x, r, rfl, h⟩ := h
    exact RepG.live h
  | some t :: Γ, _, _, h => by
    obtain ⟨v, r, o1, o2, rfl, h1, h2, rfl⟩ := h
    intro a m
    rcases List.mem_append.mp m with m | m
    · exact RepT.live t v o1 h1 a m
    · exact RepG.live h2 a m
theorem RepG.length {K : PySem.W.Frag} {F H : Hp} : ∀ {Γ : G} {σ : St} {o : List Addr}, RepG K F H Γ σ o → σ.length = Γ.length
  | [], _, _, h => by rw [h.1] <;> rfl
  | none :: Γ, _, _, h => by
    obtain ⟨x, r, rfl, h⟩ := h
    exact congrArg Nat.succ (RepG.length h)
  | some t :: Γ, _, _, h => by
    obtain ⟨v, r, o1, o2, rfl, h1, h2, rfl⟩ := h
    exact congrArg Nat.succ (RepG.length h2)

/-! ### steps -/
section
variable {F H F1 H1 F2 H2 : Hp} {O O1 O2 o : List Addr}
theorem Step.refl : Step F H O F H O := ⟨Same.refl _, fun _ _ _ => ⟨rfl, id⟩, fun _ m => .inl m⟩
theorem Step.trans (a : Step F H O F1 H1 O1) (b : Step F1 H1 O1 F2 H2 O2) : Step F H O F2 H2 O2 := by
  refine ⟨a.f.trans b.f, fun x hx ho => ?_, fun x m => ?_⟩
  · obtain ⟨e1, f1⟩ := a.fr x hx ho
    have n1 : x ∉ O1 := fun m => by
      rcases a.own x m with q | q
      · exact ho q
      · exact hx q
    obtain ⟨e2, f2⟩ := b.fr x (by rw [e1]; exact hx) n1
    exact ⟨e2.trans e1, fun q => f1 (f2 q)⟩
  · rcases b.own x m with q | q
    · exact a.own x q
    · by_cases ho : x ∈ O
      · exact .inl ho
      · by_cases hx : H x = none
        · exact .inr hx
        · have e1 := (a.fr x hx ho).1
          rw [q] at e1
          exact absurd e1.symm hx
/-- while something else, o, is held -/
theorem Step.hold (a : Step F H O F1 H1 O1) : Step F H (o ++ O) F1 H1 (o ++ O1) :=
  ⟨a.f, fun x hx ho => a.fr x hx fun m => ho (List.mem_append_right _ m), fun x m => by
    rcases List.mem_append.mp m with m | m
    · exact .inl (List.mem_append_left _ m)
    · exact (a.own x m).imp (List.mem_append_right _) id⟩
/-- .. which stands as it stood -/
theorem Step.on (a : Step F H O F1 H1 O1) (l : ∀ x ∈ o, H x ≠ none) (d : ∀ x ∈ o, x ∉ O) : On o H H1 := fun x m => (a.fr x (l x m) (d x m)).1
theorem Step.out (a : Step F H O F1 H1 O1) (l : ∀ x ∈ o, H x ≠ none) (d : ∀ x ∈ o, x ∉ O) (n : ∀ x ∈ o, F x = none) : ∀ x ∈ o, F1 x = none := fun x m => by
  cases q : F1 x with
  | none => rfl
  | some z => exact absurd (n x m) ((a.fr x (l x m) (d x m)).2 (by rw [q]; intro z; cases z))
theorem Step.apart (a : Step F H O F1 H1 O1) (l : ∀ x ∈ o, H x ≠ none) (d : ∀ x ∈ o, x ∉ O) : ∀ x ∈ o, x ∉ O1 := fun x m q => by
  rcases a.own x q with z | z
  · exact d x m z
  · exact l x m z
theorem Step.less (a : Step F H O F1 H1 O1) (h : ∀ x ∈ O2, x ∈ O1) : Step F H O F1 H1 O2 := ⟨a.f, a.fr, fun x m => a.own x (h x m)⟩
theorem Step.more (a : Step F H O F1 H1 O1) (h : ∀ x ∈ O, x ∈ O2) : Step F H O2 F1 H1 O1 := ⟨a.f, fun x hx ho => a.fr x hx fun m => ho (h x m), fun x m => (a.own x m).imp (h x) id⟩
end

/-! ### freezing -/
mutual
def fz : T → Option PyData
  | .frz d => some d
  | .scr _ => none
  | .lst ts => (fzs ts).map .list
  | .dct _ => none
def fzs : List T → Option (List PyData)
  | [] => some []
  | t :: ts => match fz t, fzs ts with
    | some d, some ds => some (d :: ds)
    | _, _ => none
end
/-- what stands at o goes to the frozen part -/
def icy (F H : Hp) (o : List Addr) : Hp := fun a => if a ∈ o then H a else F a
theorem icy_same {F H : Hp} {o : List Addr} (n : ∀ a ∈ o, F a = none) : Same F (icy F H o) := fun b x e => by
  unfold icy
  rw [if_neg fun m => by rw [n b m] at e; cases e]
  exact e
theorem icy_sub {F H : Hp} {o : List Addr} (s : Same F H) : Same (icy F H o) H := fun b x e => by
  unfold icy at e
  split at e
  · exact e
  · exact s b x e
theorem icy_at {F H : Hp} {o : List Addr} {a : Addr} (m : a ∈ o) : icy F H o a = H a := if_pos m
theorem icy_off {F H : Hp} {o : List Addr} {a : Addr} (m : a ∉ o) : icy F H o a = F a := if_neg m
theorem icy_mono {F H : Hp} {o o' : List Addr} (s : Same F H) (h : ∀ a ∈ o, a ∈ o') : Same (icy F H o) (icy F H o') := fun b x e => by
  unfold icy at e ⊢
  split at e
  · rename_i m
    rw [if_pos (h b m)]
    exact e
  · split
    · exact s b x e
    · exact e
mutual
theorem RepT.fz {K : PySem.W.Frag} {F H : Hp} (s : Same F H) : ∀ (t : T) (v : V) (o : List Addr) (d : PyData), RepT K F H t v o → (∀ a ∈ o, F a = none) → fz t = some d → Df K (icy F H o) v d
  | .frz d, v, o, d', h, n, e => by
    unfold RepT at h
    unfold TW.fz at e
    cases e
    exact Df.mono (icy_same n) _ _ h.1
  | .scr ns, v, o, d', h, n, e => by
    unfold TW.fz at e
    cases e
  | .lst ts, v, o, d', h, n, e => by
    unfold RepT at h
    obtain ⟨a, vs, o', rfl, ha, hr, rfl⟩ := h
    unfold TW.fz at e
    cases q : fzs ts with
    | none => rw [q] at e; cases e
    | some ds =>
      rw [q] at e
      cases e
      have h1 := RepTs.fz s ts vs o' ds hr (fun b m => n b (List.mem_cons_of_mem _ m)) q
      have h2 := DfAll.mono (icy_mono (o' := a :: o') s fun b m => List.mem_cons_of_mem _ m) _ _ h1
      exact .lst ((icy_at (List.mem_cons_self ..)).trans ha) h2
  | .dct kvs, v, o, d', h, n, e => by
    unfold TW.fz at e
    cases e
theorem RepTs.fz {K : PySem.W.Frag} {F H : Hp} (s : Same F H) : ∀ (ts : List T) (vs : List V) (o : List Addr) (ds : List PyData), RepTs K F H ts vs o → (∀ a ∈ o, F a = none) → fzs ts = some ds → DfAll K (icy F H o) vs ds
  | [], vs, o, ds, h, n, e => by
    unfold RepTs at h
    unfold fzs at e
    cases e
    rw [h.1]
    exact .nil
  | t :: ts, vs, o, ds, h, n, e => by
    unfold RepTs at h
    obtain ⟨v, r, o1, o2, rfl, h1, h2, rfl⟩ := h
    unfold fzs at e
    cases q1 : TW.fz t with
    | none => rw [q1] at e; cases e
    | some d1 =>
      cases q2 : fzs ts with
      | none => rw [q1, q2] at e; cases e
      | some d2 =>
        rw [q1, q2] at e
        cases e
        have g1 := RepT.fz s t v o1 d1 h1 (fun a m => n a (List.mem_append_left _ m)) q1
        have g2 := RepTs.fz s ts r o2 d2 h2 (fun a m => n a (List.mem_append_right _ m)) q2
        exact .cons (Df.mono (icy_mono s fun a m => List.mem_append_left _ m) _ _ g1) (DfAll.mono (icy_mono s fun a m => List.mem_append_right _ m) _ _ g2)
end
/-- the step of freezing o -/
theorem Step.ice {F H : Hp} {o O : List Addr} (n : ∀ a ∈ o, F a = none) : Step F H (o ++ O) (icy F H o) H O :=
  ⟨icy_same n, fun x hx ho => ⟨rfl, fun q => by
    unfold icy at q
    rw [if_neg fun m => ho (List.mem_append_left _ m)] at q
    exact q⟩, fun x m => .inl (List.mem_append_right _ m)⟩
mutual
theorem Df.dp {K : PySem.W.Frag} {F H : Hp} (s : Same F H) : ∀ (d : PyData) (v : V), Df K F v d → L2.Dp K H v d
  | .none, _, h => by cases h; exact .non
  | .bool b, _, h => by cases h; exact .bl b
  | .int i, _, h => by cases h; exact .int i
  | .str x, _, h => by cases h; exact .str x
  | .list ds, _, h => by
    cases h with
    | lst hs ha => exact .lst (.inl (.inl (s _ _ hs))) (DfAll.dp s ds _ ha)
  | .tuple ds, _, h => by
    cases h with
    | tup hs ha =>
      refine .tup ?_ (DfAll.dp s ds _ ha)
      rcases hs with (h | ⟨o, h⟩) | h
      · exact .inl (.inl (s _ _ h))
      · exact .inl (.inr ⟨o, s _ _ h⟩)
      · exact .inr h
  | .dict _, _, h => by cases h
theorem DfAll.dp {K : PySem.W.Frag} {F H : Hp} (s : Same F H) : ∀ (ds : List PyData) (vs : List V), DfAll K F vs ds → L2.DpAll K H vs ds
  | [], _, h => by cases h; exact .nil
  | d :: ds, _, h => by
    cases h with
    | cons h1 h2 => exact .cons (Df.dp s d _ h1) (DfAll.dp s ds _ h2)
end
theorem sqT_mono {K : PySem.W.Frag} {F H : Hp} {a : Addr} {xs : List V} (s : Same F H) (h : SqT K F a xs) : SqT K H a xs := by
  rcases h with (h | ⟨o, h⟩) | h
  · exact .inl (.inl (s _ _ h))
  · exact .inl (.inr ⟨o, s _ _ h⟩)
  · exact .inr h
end TW

namespace TW
open PySem PySem.Spec L2

/-! ### runs -/
inductive Rs (α : Type) where
  | ok (a : α) (Γ : G)
  | ex (c : Str) (Γ : G)
abbrev M (α : Type) := G → Option (Rs α)
def bM {α β : Type} (m : M α) (f : α → M β) : M β := fun Γ => match m Γ with
  | none => none
  | some (.ex c Γ') => some (.ex c Γ')
  | some (.ok a Γ') => f a Γ'
def pM {α : Type} (a : α) : M α := fun Γ => some (.ok a Γ)
def oM {α : Type} (o : Option α) : M α := fun Γ => o.map fun a => .ok a Γ

/-- only new frozen things -/
structure Grow (F H F' H' : Hp) : Prop where
  f : Same F F'
  h : Same H H'
  s : Same F' H'
  n : ∀ a, F' a ≠ none → F a ≠ none ∨ H a = none
theorem Grow.refl {F H : Hp} (s : Same F H) : Grow F H F H := ⟨Same.refl _, Same.refl _, s, fun _ h => .inl h⟩
theorem Grow.trans {F H F1 H1 F2 H2 : Hp} (a : Grow F H F1 H1) (b : Grow F1 H1 F2 H2) : Grow F H F2 H2 := ⟨a.f.trans b.f, a.h.trans b.h, b.s, fun x h => by
  rcases b.n x h with q | q
  · exact a.n x q
  · exact .inr (a.h.free q)⟩
theorem none_of_same {F H : Hp} (s : Same F H) {p : Addr} (h : H p = none) : F p = none := by
  cases q : F p with
  | none => rfl
  | some o => rw [s p o q] at h; cases h
theorem same_upd {H : Hp} {p : Addr} {o : HO} (h : H p = none) : Same H (upd H p o) := fun b x e => by
  rw [upd_ne (ne_of_none e h)]
  exact e
theorem same_upd2 {F H : Hp} {p : Addr} {o : HO} (s : Same F H) : Same (upd F p o) (upd H p o) := fun b x e => by
  by_cases hb : b = p
  · subst hb; rw [upd_same] at e ⊢; exact e
  · rw [upd_ne hb] at e ⊢; exact s b x e
theorem Grow.new {F H : Hp} {p : Addr} {o : HO} (s : Same F H) (h : H p = none) : Grow F H (upd F p o) (upd H p o) := by
  refine ⟨same_upd (none_of_same s h), same_upd h, same_upd2 s, fun x hx => ?_⟩
  by_cases hb : x = p
  · subst hb; exact .inr h
  · rw [upd_ne hb] at hx; exact .inl hx
theorem Ok.grow {K : PySem.W.Frag} {F H F' H' : Hp} {Γ : G} {σ : St} {O : List Addr} (k : Ok K F H Γ σ O) (g : Grow F H F' H') : Ok K F' H' Γ σ O := by
  have live := RepG.live k.rep
  refine ⟨g.s, RepG.mono g.f k.rep fun a m => ?_, k.nd, fun a m => ?_⟩
  · cases q : H a with
    | none => exact absurd q (live a m)
    | some o => exact g.h a o q
  · cases q : F' a with
    | none => rfl
    | some o =>
      rcases g.n a (by rw [q]; intro z; cases z) with z | z
      · exact absurd (k.out a m) z
      · exact absurd z (live a m)
theorem Grow.step {F H F' H' : Hp} {O : List Addr} (g : Grow F H F' H') : Step F H O F' H' O := by
  refine ⟨g.f, fun a ha _ => ⟨?_, fun q => ?_⟩, fun _ m => .inl m⟩
  · cases q : H a with
    | none => exact absurd q ha
    | some o => exact g.h a o q
  · rcases g.n a q with z | z
    · exact z
    · exact absurd z ha

/-! ### readings meet runs -/
/-- a result that owns nothing -/
def HitN {α β : Type} (K : PySem.W.Frag) (W : WX) (R : Hp → Hp → α → β → Prop) (r : Option (Rs α)) (σ : St) (F H : Hp) (O : List Addr) (Q : β → Hp → Prop) : Prop := match r with
  | none => False
  | some (.ok d Γ') => ∀ v F' H' O', Ok K F' H' Γ' σ O' → R F' H' d v → Step F H O F' H' O' → Q v H'
  | some (.ex c Γ') => ∀ F' H' O', Ok K F' H' Γ' σ O' → Step F H O F' H' O' → W (.ref (He.ga K c)) none σ H'
/-- a result that may own -/
def HitT {α β : Type} (K : PySem.W.Frag) (W : WX) (R : Hp → Hp → α → β → List Addr → Prop) (r : Option (Rs α)) (σ : St) (F H : Hp) (O : List Addr) (Q : β → Hp → Prop) : Prop := match r with
  | none => False
  | some (.ok t Γ') => ∀ v F' H' O' o, Ok K F' H' Γ' σ O' → R F' H' t v o → (o ++ O').Nodup → (∀ a ∈ o, F' a = none) → Step F H O F' H' (o ++ O') → Q v H'
  | some (.ex c Γ') => ∀ F' H' O', Ok K F' H' Γ' σ O' → Step F H O F' H' O' → W (.ref (He.ga K c)) none σ H'
section
variable {α β γ δ : Type} {K : PySem.W.Frag} {W : WX} {σ : St} {F H F1 H1 : Hp} {O O1 o : List Addr}
theorem HitN.trans {R : Hp → Hp → α → β → Prop} {r : Option (Rs α)} {Q : β → Hp → Prop} (h : HitN K W R r σ F H O Q) (s : Step F H O F1 H1 O1) : HitN K W R r σ F1 H1 O1 Q := by
  match r, h with
  | some (.ok d Γ'), h => exact fun v F' H' O' k q s' => h v F' H' O' k q (s.trans s')
  | some (.ex c Γ'), h => exact fun F' H' O' k s' => h F' H' O' k (s.trans s')
theorem HitT.trans {R : Hp → Hp → α → β → List Addr → Prop} {r : Option (Rs α)} {Q : β → Hp → Prop} (h : HitT K W R r σ F H O Q) (s : Step F H O F1 H1 O1) : HitT K W R r σ F1 H1 O1 Q := by
  match r, h with
  | some (.ok d Γ'), h => exact fun v F' H' O' o k q n x s' => h v F' H' O' o k q n x (s.trans s')
  | some (.ex c Γ'), h => exact fun F' H' O' k s' => h F' H' O' k (s.trans s')
theorem HitN.imp {R : Hp → Hp → α → β → Prop} {r : Option (Rs α)} {Q Q' : β → Hp → Prop} (h : HitN K W R r σ F H O Q) (i : ∀ v H, Q v H → Q' v H) : HitN K W R r σ F H O Q' := by
  match r, h with
  | some (.ok d Γ'), h => exact fun v F' H' O' k q s' => i _ _ (h v F' H' O' k q s')
  | some (.ex c Γ'), h => exact h
/-- a step, then the rest: NN: neither owns -/
theorem HitN.bind {R : Hp → Hp → α → β → Prop} {R' : Hp → Hp → γ → δ → Prop} {m : M α} {f : α → M γ} {Γ : G} {Q : δ → Hp → Prop} {P : β → Hp → Prop} (h : HitN K W R' (bM m f Γ) σ F H O Q)
    (k : ∀ a Γ1 v F1 H1 O1, Ok K F1 H1 Γ1 σ O1 → R F1 H1 a v → Step F H O F1 H1 O1 → HitN K W R' (f a Γ1) σ F1 H1 O1 Q → P v H1) : HitN K W R (m Γ) σ F H O P := by
  unfold bM at h
  match q : m Γ, h with
  | some (.ok a Γ1), h => exact fun v F' H' O' g r s => k a Γ1 v F' H' O' g r s (HitN.trans h s)
  | some (.ex c Γ1), h => exact h
theorem HitT.bindN {R : Hp → Hp → α → β → Prop} {R' : Hp → Hp → γ → δ → List Addr → Prop} {m : M α} {f : α → M γ} {Γ : G} {Q : δ → Hp → Prop} {P : β → Hp → Prop} (h : HitT K W R' (bM m f Γ) σ F H O Q)
    (k : ∀ a Γ1 v F1 H1 O1, Ok K F1 H1 Γ1 σ O1 → R F1 H1 a v → Step F H O F1 H1 O1 → HitT K W R' (f a Γ1) σ F1 H1 O1 Q → P v H1) : HitN K W R (m Γ) σ F H O P := by
  unfold bM at h
  match q : m Γ, h with
  | some (.ok a Γ1), h => exact fun v F' H' O' g r s => k a Γ1 v F' H' O' g r s (HitT.trans h s)
  | some (.ex c Γ1), h => exact h
theorem HitN.bindT {R : Hp → Hp → α → β → List Addr → Prop} {R' : Hp → Hp → γ → δ → Prop} {m : M α} {f : α → M γ} {Γ : G} {Q : δ → Hp → Prop} {P : β → Hp → Prop} (h : HitN K W R' (bM m f Γ) σ F H O Q)
    (k : ∀ a Γ1 v F1 H1 O1 o, Ok K F1 H1 Γ1 σ O1 → R F1 H1 a v o → (o ++ O1).Nodup → (∀ a ∈ o, F1 a = none) → Step F H O F1 H1 (o ++ O1) → HitN K W R' (f a Γ1) σ F1 H1 (o ++ O1) Q → P v H1) : HitT K W R (m Γ) σ F H O P := by
  unfold bM at h
  match q : m Γ, h with
  | some (.ok a Γ1), h => exact fun v F' H' O' o g r n x s => k a Γ1 v F' H' O' o g r n x s (HitN.trans h s)
  | some (.ex c Γ1), h => exact h
theorem HitT.bindT {R : Hp → Hp → α → β → List Addr → Prop} {R' : Hp → Hp → γ → δ → List Addr → Prop} {m : M α} {f : α → M γ} {Γ : G} {Q : δ → Hp → Prop} {P : β → Hp → Prop} (h : HitT K W R' (bM m f Γ) σ F H O Q)
    (k : ∀ a Γ1 v F1 H1 O1 o, Ok K F1 H1 Γ1 σ O1 → R F1 H1 a v o → (o ++ O1).Nodup → (∀ a ∈ o, F1 a = none) → Step F H O F1 H1 (o ++ O1) → HitT K W R' (f a Γ1) σ F1 H1 (o ++ O1) Q → P v H1) : HitT K W R (m Γ) σ F H O P := by
  unfold bM at h
  match q : m Γ, h with
  | some (.ok a Γ1), h => exact fun v F' H' O' o g r n x s => k a Γ1 v F' H' O' o g r n x s (HitT.trans h s)
  | some (.ex c Γ1), h => exact h
/-- while o is held -/
theorem HitN.unhold {R : Hp → Hp → α → β → Prop} {r : Option (Rs α)} {Q : β → Hp → Prop} (h : HitN K W R r σ F H (o ++ O) Q) (hx : ∀ c d σ H, W c d σ H → W c d σ H := fun _ _ _ _ z => z) :
    HitN K W R r σ F H O (fun v H' => (∃ F' O', Step F H O F' H' O') ∧ Q v H') := by
  match r, h with
  | some (.ok d Γ'), h => exact fun v F' H' O' k q s => ⟨⟨F', O', s⟩, h v F' H' O' k q ((s.hold (o := o)).less fun x m => List.mem_append_right _ m)⟩
  | some (.ex c Γ'), h => exact fun F' H' O' k s => h F' H' O' k ((s.hold (o := o)).less fun x m => List.mem_append_right _ m)
/-- the end: a value -/
theorem HitN.here {R : Hp → Hp → α → β → Prop} {x : Option α} {Γ : G} {Q : β → Hp → Prop} (h : HitN K W R (oM x Γ) σ F H O Q) (k : ∀ d, x = some d → (∀ v F' H' O', Ok K F' H' Γ σ O' → R F' H' d v → Step F H O F' H' O' → Q v H') → Prop) : True := trivial
end

/-! ### what results are -/
abbrev rD (K : PySem.W.Frag) : Hp → Hp → PyData → V → Prop := fun F _ d v => Df K F v d
/-- data that is looked at: a list that may be owned, of frozen things -/
def rP (K : PySem.W.Frag) : Hp → Hp → PyData → V → Prop := fun F H d v => Df K F v d ∨ ∃ a vs ds, v = .ref a ∧ d = .list ds ∧ H a = some (.lst vs) ∧ DfAll K F vs ds
abbrev rB : Hp → Hp → Bool → Bool → Prop := fun _ _ b b' => b' = b
abbrev rT (K : PySem.W.Frag) : Hp → Hp → T → V → List Addr → Prop := fun F H t v o => RepT K F H t v o
/-- argument lists -/
abbrev rDs (K : PySem.W.Frag) : Hp → Hp → List PyData → List V → Prop := fun F _ ds vs => DfAll K F vs ds
def rPs (K : PySem.W.Frag) : Hp → Hp → List PyData → List V → Prop := fun F H ds vs => Paired (fun d v => rP K F H d v) ds vs

/-! ### the judgements -/
def VD (X : Cx) (W : WX) (e : Expr) (m : M PyData) : Prop := ∃ t, PE X e t ∧ ∀ Γ σ F H O Q, Ok X.K F H Γ σ O → HitN X.K W (rD X.K) (m Γ) σ F H O Q → t σ H Q
def VP (X : Cx) (W : WX) (e : Expr) (m : M PyData) : Prop := ∃ t, PE X e t ∧ ∀ Γ σ F H O Q, Ok X.K F H Γ σ O → HitN X.K W (rP X.K) (m Γ) σ F H O Q → t σ H Q
def VT (X : Cx) (W : WX) (e : Expr) (m : M T) : Prop := ∃ t, PE X e t ∧ ∀ Γ σ F H O Q, Ok X.K F H Γ σ O → HitT X.K W (rT X.K) (m Γ) σ F H O Q → t σ H Q
def VB (X : Cx) (W : WX) (e : Expr) (m : M Bool) : Prop := ∃ t, PT X e t ∧ ∀ Γ σ F H O Q, Ok X.K F H Γ σ O → HitN X.K W rB (m Γ) σ F H O Q → t σ H Q
def VW (X : Cx) (W : WX) (e : Expr) (m : M Bool) : Prop := ∃ t, PW X e t ∧ ∀ Γ σ F H O Q, Ok X.K F H Γ σ O → HitN X.K W rB (m Γ) σ F H O Q → t σ H Q
/-- arguments: frozen -/
def VDs (X : Cx) (W : WX) (es : List Expr) (m : M (List PyData)) : Prop := ∃ t, PA X es t ∧ ∀ Γ σ F H O Q, Ok X.K F H Γ σ O → HitN X.K W (rDs X.K) (m Γ) σ F H O Q → t σ H Q

/-! ### constants, names -/
section
variable {X : Cx} {W : WX} {pos : Pos}
def mC (d : PyData) : M PyData := pM d
theorem vd_int {i j} : VD X W (.Constant (.int i) j pos) (mC (.int i)) := ⟨_, pe_int, fun Γ σ F H O Q k h => h _ F H O k (.int i) Step.refl⟩
theorem vd_bl {b j} : VD X W (.Constant (.bool b) j pos) (mC (.bool b)) := ⟨_, pe_bl, fun Γ σ F H O Q k h => h _ F H O k (.bl b) Step.refl⟩
theorem vd_non {j} : VD X W (.Constant .none j pos) (mC .none) := ⟨_, pe_non, fun Γ σ F H O Q k h => h _ F H O k .non Step.refl⟩
theorem vd_str {x j} : VD X W (.Constant (.str x) j pos) (mC (.str x)) := ⟨_, pe_str, fun Γ σ F H O Q k h => h _ F H O k (.str x) Step.refl⟩
theorem vd_glob {x : Str} {i : Int} (hg : Gl X x) (hm : ∃ t, X.mg x = some (.int i t)) (hd : (x == ("__debug__" : Str)) = false := by decide) : VD X W (.Name x pos) (mC (.int i)) := by
  obtain ⟨t, hm⟩ := hm
  exact ⟨_, pe_glob (v := V.int i) hg hm ⟨t, rfl⟩ hd, fun Γ σ F H O Q k h => h _ F H O k (.int i) Step.refl⟩
end

/-! ### slots -/
section
variable {K : PySem.W.Frag} {F H : Hp}
/-- a slot taken out of the state -/
theorem RepG.take : ∀ {Γ : G} {σ : St} {O : List Addr} {i : Nat} {t : T}, RepG K F H Γ σ O → Γ[i]? = some (some t) →
    ∃ v o O', σ[i]? = some (some v) ∧ RepT K F H t v o ∧ RepG K F H (Γ.set i none) σ O' ∧ List.Perm O (o ++ O')
  | [], _, _, _, _, _, e => by simp at e
  | none :: Γ, _, _, 0, t, _, e => by simp at e
  | none :: Γ, _, O, i + 1, t, h, e => by
    obtain ⟨x, r, rfl, h⟩ := h
    obtain ⟨v, o, O', h1, h2, h3, h4⟩ := RepG.take (i := i) (t := t) h (by simpa using e)
    exact ⟨v, o, O', by simpa using h1, h2, ⟨x, r, rfl, h3⟩, h4⟩
  | some t' :: Γ, _, O, 0, t, h, e => by
    obtain ⟨v, r, o1, o2, rfl, h1, h2, rfl⟩ := h
    have e' : t' = t := by simpa using e
    subst e'
    exact ⟨v, o1, o2, rfl, h1, ⟨some v, r, rfl, h2⟩, .refl _⟩
  | some t' :: Γ, _, O, i + 1, t, h, e => by
    obtain ⟨v, r, o1, o2, rfl, h1, h2, rfl⟩ := h
    obtain ⟨v', o, O', g1, g2, g3, g4⟩ := RepG.take (i := i) (t := t) h2 (by simpa using e)
    refine ⟨v', o, o1 ++ O', by simpa using g1, g2, ⟨v, r, o1, O', rfl, h1, g3, rfl⟩, ?_⟩
    refine (List.Perm.append_left o1 g4).trans ?_
    rw [← List.append_assoc, ← List.append_assoc]
    exact List.Perm.append_right _ List.perm_append_comm
/-- .. put back -/
theorem RepG.put : ∀ {Γ : G} {σ : St} {O : List Addr} {i : Nat} {t : T} {v : V} {o : List Addr}, RepG K F H Γ σ O → i < Γ.length → RepT K F H t v o →
    ∃ O', RepG K F H (Γ.set i (some t)) (σ.set i (some v)) O' ∧ (Γ[i]? = some none → List.Perm O' (o ++ O)) ∧ ((o ++ O).Nodup → O'.Nodup) ∧ ∀ a ∈ O', a ∈ o ++ O
  | [], _, _, i, t, v, o, _, e, _ => by simp at e
  | none :: Γ, _, O, 0, t, v, o, h, e, q => by
    obtain ⟨x, r, rfl, h⟩ := h
    exact ⟨o ++ O, ⟨v, r, o, O, rfl, q, h, rfl⟩, fun _ => .refl _, id, fun _ m => m⟩
  | none :: Γ, _, O, i + 1, t, v, o, h, e, q => by
    obtain ⟨x, r, rfl, h⟩ := h
    obtain ⟨O', h1, h2, h3, h4⟩ := RepG.put (i := i) (t := t) (v := v) (o := o) h (by simpa using e) q
    exact ⟨O', ⟨x, _, rfl, h1⟩, fun z => h2 (by simpa using z), h3, h4⟩
  | some t' :: Γ, _, O, 0, t, v, o, h, e, q => by
    obtain ⟨v', r, o1, o2, rfl, h1, h2, rfl⟩ := h
    refine ⟨o ++ o2, ⟨v, r, o, o2, rfl, q, h2, rfl⟩, fun z => by simp at z, fun n => ?_, fun a m => ?_⟩
    · refine n.sublist ?_
      exact List.Sublist.append_left (List.sublist_append_right _ _) _
    · rcases List.mem_append.mp m with m | m
      · exact List.mem_append_left _ m
      · exact List.mem_append_right _ (List.mem_append_right _ m)
  | some t' :: Γ, _, O, i + 1, t, v, o, h, e, q => by
    obtain ⟨v', r, o1, o2, rfl, h1, h2, rfl⟩ := h
    obtain ⟨O', g1, g2, g3, g4⟩ := RepG.put (i := i) (t := t) (v := v) (o := o) h2 (by simpa using e) q
    refine ⟨o1 ++ O', ⟨v', _, o1, O', rfl, h1, g1, rfl⟩, fun z => ?_, fun n => ?_, fun a m => ?_⟩
    · refine (List.Perm.append_left o1 (g2 (by simpa using z))).trans ?_
      rw [← List.append_assoc, ← List.append_assoc]
      exact List.Perm.append_right _ List.perm_append_comm
    · have n2 : (o ++ o2).Nodup := n.sublist (List.Sublist.append_left (List.sublist_append_right _ _) _)
      refine List.nodup_append.mpr ⟨(List.nodup_append.mp (List.nodup_append.mp n).2.1).1, g3 n2, fun a ha b hb => ?_⟩
      rcases List.mem_append.mp (g4 b hb) with z | z
      · exact fun q => (List.nodup_append.mp n).2.2 b z a (List.mem_append_left _ ha) q.symm
      · exact (List.nodup_append.mp (List.nodup_append.mp n).2.1).2.2 a ha b z
    · rcases List.mem_append.mp m with m | m
      · exact List.mem_append_right _ (List.mem_append_left _ m)
      · rcases List.mem_append.mp (g4 a m) with z | z
        · exact List.mem_append_left _ z
        · exact List.mem_append_right _ (List.mem_append_right _ z)
/-- a slot forgotten -/
theorem RepG.drop : ∀ {Γ : G} {σ : St} {O : List Addr} (i : Nat) (x : Option V), RepG K F H Γ σ O → ∃ O', RepG K F H (Γ.set i none) (σ.set i x) O' ∧ (O.Nodup → O'.Nodup) ∧ ∀ a ∈ O', a ∈ O
  | [], _, O, i, x, h => by
    obtain ⟨rfl, rfl⟩ := h
    exact ⟨[], ⟨rfl, rfl⟩, id, fun _ m => m⟩
  | none :: Γ, _, O, 0, x, h => by
    obtain ⟨y, r, rfl, h⟩ := h
    exact ⟨O, ⟨x, r, rfl, h⟩, id, fun _ m => m⟩
  | none :: Γ, _, O, i + 1, x, h => by
    obtain ⟨y, r, rfl, h⟩ := h
    obtain ⟨O', h1, h2, h3⟩ := RepG.drop i x h
    exact ⟨O', ⟨y, _, rfl, h1⟩, h2, h3⟩
  | some t' :: Γ, _, O, 0, x, h => by
    obtain ⟨v', r, o1, o2, rfl, h1, h2, rfl⟩ := h
    exact ⟨o2, ⟨x, r, rfl, h2⟩, fun n => (List.nodup_append.mp n).2.1, fun a m => List.mem_append_right _ m⟩
  | some t' :: Γ, _, O, i + 1, x, h => by
    obtain ⟨v', r, o1, o2, rfl, h1, h2, rfl⟩ := h
    obtain ⟨O', g1, g2, g3⟩ := RepG.drop i x h2
    refine ⟨o1 ++ O', ⟨v', _, o1, O', rfl, h1, g1, rfl⟩, fun n => ?_, fun a m => ?_⟩
    · refine List.nodup_append.mpr ⟨(List.nodup_append.mp n).1, g2 (List.nodup_append.mp n).2.1, fun a ha b hb => (List.nodup_append.mp n).2.2 a ha b (g3 b hb)⟩
    · rcases List.mem_append.mp m with m | m
      · exact List.mem_append_left _ m
      · exact List.mem_append_right _ (g3 a m)
end
theorem set_self {α : Type} {l : List α} {i : Nat} {a : α} (h : l[i]? = some a) : l.set i a = l := by
  apply List.ext_getElem?
  intro j
  by_cases e : i = j
  · subst e
    rw [List.getElem?_set_self (List.getElem?_eq_some_iff.mp h).1, h]
  · rw [List.getElem?_set_ne e]
end TW

namespace TW
open PySem PySem.Spec L2
section
variable {K : PySem.W.Frag} {F H : Hp} {Γ : G} {σ : St} {O o : List Addr} {i : Nat} {t : T} {v : V}
theorem Ok.take (k : Ok K F H Γ σ O) (e : Γ[i]? = some (some t)) : ∃ v o O', σ[i]? = some (some v) ∧ RepT K F H t v o ∧ Ok K F H (Γ.set i none) σ O' ∧ (o ++ O').Nodup ∧ (∀ a ∈ o, F a = none) ∧ Step F H O F H (o ++ O') := by
  obtain ⟨v, o, O', h1, h2, h3, h4⟩ := RepG.take k.rep e
  have n := (List.Perm.nodup_iff h4).mp k.nd
  exact ⟨v, o, O', h1, h2, ⟨k.sub, h3, (List.nodup_append.mp n).2.1, fun a m => k.out a (h4.mem_iff.mpr (List.mem_append_right _ m))⟩, n, fun a m => k.out a (h4.mem_iff.mpr (List.mem_append_left _ m)),
    Step.refl.less fun a m => h4.mem_iff.mpr m⟩
theorem Ok.put (k : Ok K F H Γ σ O) (e : i < Γ.length) (r : RepT K F H t v o) (n : (o ++ O).Nodup) (x : ∀ a ∈ o, F a = none) : ∃ O', Ok K F H (Γ.set i (some t)) (σ.set i (some v)) O' ∧ Step F H (o ++ O) F H O' := by
  obtain ⟨O', h1, h2, h3, h4⟩ := RepG.put k.rep e r
  refine ⟨O', ⟨k.sub, h1, h3 n, fun a m => ?_⟩, Step.refl.less h4⟩
  rcases List.mem_append.mp (h4 a m) with z | z
  · exact x a z
  · exact k.out a z
theorem Ok.lt (k : Ok K F H Γ σ O) (e : σ[i]? = some (some v)) : i < Γ.length := by
  have := RepG.length k.rep
  have := (List.getElem?_eq_some_iff.mp e).1
  omega
/-- .. where it stood -/
theorem Ok.back (k : Ok K F H Γ σ O) (e : σ[i]? = some (some v)) (r : RepT K F H t v o) (n : (o ++ O).Nodup) (x : ∀ a ∈ o, F a = none) : ∃ O', Ok K F H (Γ.set i (some t)) σ O' ∧ Step F H (o ++ O) F H O' := by
  have h := k.put (k.lt e) r n x
  rw [set_self e] at h
  exact h
theorem Ok.drop (k : Ok K F H Γ σ O) (i : Nat) (x : Option V) : ∃ O', Ok K F H (Γ.set i none) (σ.set i x) O' ∧ Step F H O F H O' := by
  obtain ⟨O', h1, h2, h3⟩ := RepG.drop i x k.rep
  exact ⟨O', ⟨k.sub, h1, h2 k.nd, fun a m => k.out a (h3 a m)⟩, Step.refl.less h3⟩
theorem Ok.frz {d : PyData} (k : Ok K F H Γ σ O) (e : Γ[i]? = some (some (.frz d))) : ∃ v, σ[i]? = some (some v) ∧ Df K F v d := by
  obtain ⟨v, o, O', h1, h2, _⟩ := k.take e
  unfold RepT at h2
  exact ⟨v, h1, h2.1⟩
/-- what is held goes to the frozen part -/
theorem Ok.ice {d : PyData} (k : Ok K F H Γ σ O) (r : RepT K F H t v o) (n : (o ++ O).Nodup) (x : ∀ a ∈ o, F a = none) (e : fz t = some d) : ∃ F', Ok K F' H Γ σ O ∧ Df K F' v d ∧ Step F H (o ++ O) F' H O := by
  refine ⟨icy F H o, ⟨icy_sub k.sub, RepG.mono (icy_same x) k.rep fun _ _ => rfl, k.nd, fun a m => ?_⟩, RepT.fz k.sub t v o d r x e, Step.ice x⟩
  rw [icy_off fun q => (List.nodup_append.mp n).2.2 a q a m rfl]
  exact k.out a m
end

/-! ### names -/
def mVar (i : Nat) : M PyData := fun Γ => match Γ[i]? with
  | some (some (.frz d)) => some (.ok d Γ)
  | some (some t) => (fz t).map fun d => .ok d (Γ.set i (some (.frz d)))
  | _ => none
def mMove (i : Nat) : M T := fun Γ => match Γ[i]? with
  | some (some t) => some (.ok t (Γ.set i none))
  | _ => none
/-- a list's items, all frozen -/
def ice : List T → Option (List PyData)
  | [] => some []
  | .frz d :: ts => (ice ts).map (d :: ·)
  | _ => none
def mPeek (i : Nat) : M PyData := fun Γ => match Γ[i]? with
  | some (some (.frz d)) => some (.ok d Γ)
  | some (some (.lst ts)) => (ice ts).map fun ds => .ok (.list ds) Γ
  | _ => none
theorem ice_all {K : PySem.W.Frag} {F H : Hp} : ∀ {ts : List T} {vs : List V} {o : List Addr} {ds : List PyData}, RepTs K F H ts vs o → ice ts = some ds → DfAll K F vs ds ∧ o = []
  | [], _, _, _, h, e => by
    unfold RepTs at h
    unfold ice at e
    cases e
    rw [h.1, h.2]
    exact ⟨.nil, rfl⟩
  | .frz d :: ts, _, _, _, h, e => by
    unfold RepTs at h
    obtain ⟨v, r, o1, o2, rfl, h1, h2, rfl⟩ := h
    unfold RepT at h1
    unfold ice at e
    cases q : ice ts with
    | none => rw [q] at e; cases e
    | some ds =>
      rw [q] at e
      cases e
      obtain ⟨g1, g2⟩ := ice_all h2 q
      rw [h1.2, g2]
      exact ⟨.cons h1.1 g1, rfl⟩
  | .lst _ :: _, _, _, _, h, e => by cases e
  | .dct _ :: _, _, _, _, h, e => by cases e
  | .scr _ :: _, _, _, _, h, e => by cases e
theorem of_ice {K : PySem.W.Frag} {F H : Hp} : ∀ {vs : List V} {ds : List PyData}, DfAll K F vs ds → RepTs K F H (ds.map .frz) vs []
  | _, _, .nil => by unfold List.map RepTs; exact ⟨rfl, rfl⟩
  | _, _, .cons h r => by
    unfold List.map RepTs
    exact ⟨_, _, [], [], rfl, by unfold RepT; exact ⟨h, rfl⟩, of_ice r, rfl⟩
theorem repFrz {K : PySem.W.Frag} {F H : Hp} {d : PyData} {v : V} (h : Df K F v d) : RepT K F H (.frz d) v [] := by
  unfold RepT; exact ⟨h, rfl⟩
section
variable {X : Cx} {W : WX} {pos : Pos}
theorem vd_var (i : Nat) {x : Str} (hN : X.N[i]? = some x := by rfl) (hv : Vis X.env.scope x := by first | exact Or.inl rfl | exact Or.inr (Or.inl rfl) | exact Or.inr (Or.inr rfl)) (hd : (x == ("__debug__" : Str)) = false := by decide)
    (hcd : (x == ("__classdict__" : Str)) = false := by decide) : VD X W (.Name x pos) (mVar i) := by
  refine ⟨_, pe_var hN hv hd hcd, fun Γ σ F H O Q k h => ?_⟩
  unfold mVar at h
  split at h
  · rename_i d e
    obtain ⟨v, e1, r⟩ := k.frz e
    exact ⟨v, e1, h v F H O k r Step.refl⟩
  · rename_i t _ e
    obtain ⟨v, o, O', e1, r, k1, n, x, s⟩ := k.take e
    cases q : fz t with
    | none => rw [q] at h; exact h.elim
    | some d =>
      rw [q] at h
      obtain ⟨F', k2, r2, s2⟩ := k1.ice r n x q
      obtain ⟨O2, k3, s3⟩ := k2.back (t := .frz d) e1 (repFrz r2) k2.nd (fun _ m => nomatch m)
      rw [List.set_set] at k3
      exact ⟨v, e1, h v F' H O2 k3 r2 ((s.trans s2).trans s3)⟩
  · exact h.elim
theorem vt_move (i : Nat) {x : Str} (hN : X.N[i]? = some x := by rfl) (hv : Vis X.env.scope x := by first | exact Or.inl rfl | exact Or.inr (Or.inl rfl) | exact Or.inr (Or.inr rfl)) (hd : (x == ("__debug__" : Str)) = false := by decide)
    (hcd : (x == ("__classdict__" : Str)) = false := by decide) : VT X W (.Name x pos) (mMove i) := by
  refine ⟨_, pe_var hN hv hd hcd, fun Γ σ F H O Q k h => ?_⟩
  unfold mMove at h
  split at h
  · rename_i t e
    obtain ⟨v, o, O', e1, r, k1, n, x, s⟩ := k.take e
    exact ⟨v, e1, h v F H O' o k1 r n x s⟩
  · exact h.elim
theorem vp_peek (i : Nat) {x : Str} (hN : X.N[i]? = some x := by rfl) (hv : Vis X.env.scope x := by first | exact Or.inl rfl | exact Or.inr (Or.inl rfl) | exact Or.inr (Or.inr rfl)) (hd : (x == ("__debug__" : Str)) = false := by decide)
    (hcd : (x == ("__classdict__" : Str)) = false := by decide) : VP X W (.Name x pos) (mPeek i) := by
  refine ⟨_, pe_var hN hv hd hcd, fun Γ σ F H O Q k h => ?_⟩
  unfold mPeek at h
  split at h
  · rename_i d e
    obtain ⟨v, e1, r⟩ := k.frz e
    exact ⟨v, e1, h v F H O k (.inl r) Step.refl⟩
  · rename_i ts e
    obtain ⟨v, o, O', e1, r, k1, n, x, s⟩ := k.take e
    cases q : ice ts with
    | none => rw [q] at h; exact h.elim
    | some ds =>
      rw [q] at h
      unfold RepT at r
      obtain ⟨a, vs, o', rfl, ha, hr, rfl⟩ := r
      obtain ⟨g1, g2⟩ := ice_all hr q
      exact ⟨.ref a, e1, h _ F H O k (.inr ⟨a, vs, ds, rfl, rfl, ha, g1⟩) Step.refl⟩
  · exact h.elim
variable {e : Expr}
/-- frozen data may be looked at, may be a result -/
theorem vp_of {m : M PyData} (h : VD X W e m) : VP X W e m := by
  obtain ⟨t, p, s⟩ := h
  refine ⟨t, p, fun Γ σ F H O Q k h => s Γ σ F H O Q k ?_⟩
  match m Γ, h with
  | some (.ok d Γ'), h => exact fun v F' H' O' k r s => h v F' H' O' k (.inl r) s
  | some (.ex c Γ'), h => exact h
def mT (m : M PyData) : M T := bM m fun d => pM (.frz d)
theorem vt_of {m : M PyData} (h : VD X W e m) : VT X W e (mT m) := by
  obtain ⟨t, p, s⟩ := h
  refine ⟨t, p, fun Γ σ F H O Q k h => s Γ σ F H O Q k ?_⟩
  unfold mT at h
  exact HitT.bindN h fun d Γ1 v F1 H1 O1 k1 r s1 h1 => h1 v F1 H1 O1 [] k1 (repFrz r) k1.nd (fun _ m => nomatch m) Step.refl
/-- a result, frozen -/
def mF (m : M T) : M PyData := bM m fun t => oM (fz t)
theorem vd_of {m : M T} (h : VT X W e m) : VD X W e (mF m) := by
  obtain ⟨t, p, s⟩ := h
  refine ⟨t, p, fun Γ σ F H O Q k h => s Γ σ F H O Q k ?_⟩
  unfold mF at h
  refine HitN.bindT h fun t Γ1 v F1 H1 O1 o k1 r n x s1 h1 => ?_
  unfold oM at h1
  cases q : fz t with
  | none => rw [q] at h1; exact h1.elim
  | some d =>
    rw [q] at h1
    obtain ⟨F2, k2, r2, s2⟩ := k1.ice r n x q
    exact h1 v F2 H1 O1 k2 r2 s2

/-! ### operators, by values -/
abbrev OpF := PyData → PyData → Option PyData
def OpD (X : Cx) (fo : Value → Value → Sem Value) (f : OpF) : Prop := ∃ r : R2, OpR X fo r ∧ ∀ a b d, f a b = some d → ∀ x y F H Q, Same F H → Df X.K F x a → Df X.K F y b →
  (∀ v F' H', Grow F H F' H' → Df X.K F' v d → Q v H') → r x y H Q
/-- .. the right one looked at -/
def OpP (X : Cx) (fo : Value → Value → Sem Value) (f : OpF) : Prop := ∃ r : R2, OpR X fo r ∧ ∀ a b d, f a b = some d → ∀ x y F H Q, Same F H → Df X.K F x a → rP X.K F H b y →
  (∀ v F' H', Grow F H F' H' → Df X.K F' v d → Q v H') → r x y H Q
theorem OpP.d {fo : Value → Value → Sem Value} {f : OpF} (h : OpP X fo f) : OpD X fo f := by
  obtain ⟨r, h1, h2⟩ := h
  exact ⟨r, h1, fun a b d e x y F H Q s ra rb q => h2 a b d e x y F H Q s ra (.inl rb) q⟩
def mOp (f : OpF) (ma mb : M PyData) : M PyData := bM ma fun a => bM mb fun b => oM (f a b)
variable {a b : Expr} {ma mb : M PyData}
theorem HitN.fin {K : PySem.W.Frag} {R : Hp → Hp → PyData → V → Prop} {x : Option PyData} {Γ : G} {σ : St} {F H : Hp} {O : List Addr} {Q : VK} (h : HitN K W R (oM x Γ) σ F H O Q) (k : Ok K F H Γ σ O) :
    ∃ d, x = some d ∧ ∀ v F' H', Grow F H F' H' → R F' H' d v → Q v H' := by
  unfold oM at h
  cases x with
  | none => exact h.elim
  | some d => exact ⟨d, rfl, fun v F' H' g r => h v F' H' O (k.grow g) r g.step⟩
theorem op_hit {fo : Value → Value → Sem Value} {f : OpF} (ho : OpP X fo f) (ha : VD X W a ma) (hb : VP X W b mb) : ∃ (r : R2) (ta tb : TE), OpR X fo r ∧ PE X a ta ∧ PE X b tb ∧ ∀ Γ σ F H O Q, Ok X.K F H Γ σ O → HitN X.K W (rD X.K) (mOp f ma mb Γ) σ F H O Q → tOp r ta tb σ H Q := by
  obtain ⟨r, hr, hf⟩ := ho
  obtain ⟨ta, pa, sa⟩ := ha
  obtain ⟨tb, pb, sb⟩ := hb
  refine ⟨r, ta, tb, hr, pa, pb, fun Γ σ F H O Q k h => sa Γ σ F H O _ k ?_⟩
  unfold mOp at h
  refine HitN.bind h fun da Γ1 v F1 H1 O1 k1 r1 s1 h1 => sb Γ1 σ F1 H1 O1 _ k1 ?_
  refine HitN.bind h1 fun db Γ2 w F2 H2 O2 k2 r2 s2 h2 => ?_
  obtain ⟨d, e, q⟩ := HitN.fin h2 k2
  exact hf da db d e v w F2 H2 Q k2.sub (Df.mono s2.f _ _ r1) r2 q
theorem op_hitD {fo : Value → Value → Sem Value} {f : OpF} (ho : OpD X fo f) (ha : VD X W a ma) (hb : VD X W b mb) : ∃ (r : R2) (ta tb : TE), OpR X fo r ∧ PE X a ta ∧ PE X b tb ∧ ∀ Γ σ F H O Q, Ok X.K F H Γ σ O → HitN X.K W (rD X.K) (mOp f ma mb Γ) σ F H O Q → tOp r ta tb σ H Q := by
  obtain ⟨r, hr, hf⟩ := ho
  obtain ⟨ta, pa, sa⟩ := ha
  obtain ⟨tb, pb, sb⟩ := hb
  refine ⟨r, ta, tb, hr, pa, pb, fun Γ σ F H O Q k h => sa Γ σ F H O _ k ?_⟩
  unfold mOp at h
  refine HitN.bind h fun da Γ1 v F1 H1 O1 k1 r1 s1 h1 => sb Γ1 σ F1 H1 O1 _ k1 ?_
  refine HitN.bind h1 fun db Γ2 w F2 H2 O2 k2 r2 s2 h2 => ?_
  obtain ⟨d, e, q⟩ := HitN.fin h2 k2
  exact hf da db d e v w F2 H2 Q k2.sub (Df.mono s2.f _ _ r1) r2 q
theorem vd_op {op : Operator} {f : OpF} (ho : OpD X (binaryOp op) f) (ha : VD X W a ma) (hb : VD X W b mb) : VD X W (.BinOp a op b pos) (mOp f ma mb) := by
  obtain ⟨r, ta, tb, hr, pa, pb, s⟩ := op_hitD ho ha hb
  exact ⟨_, pe_op hr pa pb, s⟩
theorem vd_cmp {op : CmpOp} {f : OpF} (ho : OpD X (compareOp op) f) (ha : VD X W a ma) (hb : VD X W b mb) (hm : behindInMarks op b = false := by first | exact nomark _ | rfl) : VD X W (.Compare a [op] [b] pos) (mOp f ma mb) := by
  obtain ⟨r, ta, tb, hr, pa, pb, s⟩ := op_hitD ho ha hb
  exact ⟨_, pe_cmpR hr pa pb hm, s⟩
/-- in, not in: the right one looked at -/
theorem vd_in {op : CmpOp} {f : OpF} (ho : OpP X (compareOp op) f) (ha : VD X W a ma) (hb : VP X W b mb) (hm : behindInMarks op b = false := by first | exact nomark _ | rfl) : VD X W (.Compare a [op] [b] pos) (mOp f ma mb) := by
  obtain ⟨r, ta, tb, hr, pa, pb, s⟩ := op_hit ho ha hb
  exact ⟨_, pe_cmpR hr pa pb hm, s⟩

/-! ### tests -/
def isB : PyData → Option Bool
  | .bool b => some b
  | _ => none
def mB (m : M PyData) : M Bool := bM m fun d => oM (isB d)
theorem vb_val {m : M PyData} (h : VD X W e m) (he : ∀ whole, isTrue e X.env whole = (do let v ← whole; standAt e.pos; holding [v] (truthy v)) := by intro _; rfl) : VB X W e (mB m) := by
  obtain ⟨t, p, s⟩ := h
  refine ⟨_, pt_val p he, fun Γ σ F H O Q k h => s Γ σ F H O _ k ?_⟩
  unfold mB at h
  refine HitN.bind h fun d Γ1 v F1 H1 O1 k1 r1 s1 h1 => ?_
  cases d with
  | bool c =>
    cases r1
    exact ⟨c, rfl, h1 c F1 H1 O1 k1 rfl Step.refl⟩
  | _ => exact h1.elim
theorem vb_cmp {op : CmpOp} {f : OpF} (ho : OpD X (compareOp op) f) (ha : VD X W a ma) (hb : VD X W b mb) (hm : behindInMarks op b = false := by first | exact nomark _ | rfl) : VB X W (.Compare a [op] [b] pos) (mB (mOp f ma mb)) := by
  obtain ⟨r, ta, tb, hr, pa, pb, s⟩ := op_hitD ho ha hb
  refine ⟨_, pt_cmpR hr pa pb hm, fun Γ σ F H O Q k h => s Γ σ F H O _ k ?_⟩
  unfold mB at h
  refine HitN.bind h fun d Γ1 v F1 H1 O1 k1 r1 s1 h1 => ?_
  cases d with
  | bool c =>
    cases r1
    exact ⟨c, rfl, h1 c F1 H1 O1 k1 rfl Step.refl⟩
  | _ => exact h1.elim
theorem vb_in {op : CmpOp} {f : OpF} (ho : OpP X (compareOp op) f) (ha : VD X W a ma) (hb : VP X W b mb) (hm : behindInMarks op b = false := by first | exact nomark _ | rfl) : VB X W (.Compare a [op] [b] pos) (mB (mOp f ma mb)) := by
  obtain ⟨r, ta, tb, hr, pa, pb, s⟩ := op_hit ho ha hb
  refine ⟨_, pt_cmpR hr pa pb hm, fun Γ σ F H O Q k h => s Γ σ F H O _ k ?_⟩
  unfold mB at h
  refine HitN.bind h fun d Γ1 v F1 H1 O1 k1 r1 s1 h1 => ?_
  cases d with
  | bool c =>
    cases r1
    exact ⟨c, rfl, h1 c F1 H1 O1 k1 rfl Step.refl⟩
  | _ => exact h1.elim
variable {rest : List Expr} {ca cb : M Bool}
def mAnd (ca cb : M Bool) : M Bool := bM ca fun c => if c = true then cb else pM false
def mOr (ca cb : M Bool) : M Bool := bM ca fun c => if c = true then pM true else cb
def mNot (ca : M Bool) : M Bool := bM ca fun c => pM (!c)
theorem VW.vb (h : VW X W e ca) : VB X W e ca := by
  obtain ⟨t, p, s⟩ := h
  exact ⟨t, p.pt, s⟩
theorem vw_and1 (ha : VB X W a ca) : VW X W (.BoolOp .And [a] pos) ca := by
  obtain ⟨t, p, s⟩ := ha
  exact ⟨t, pw_and1 p, s⟩
theorem vw_or1 (ha : VB X W a ca) : VW X W (.BoolOp .Or [a] pos) ca := by
  obtain ⟨t, p, s⟩ := ha
  exact ⟨t, pw_or1 p, s⟩
theorem vw_and (ha : VB X W a ca) (hb : VW X W (.BoolOp .And (b :: rest) pos) cb) : VW X W (.BoolOp .And (a :: b :: rest) pos) (mAnd ca cb) := by
  obtain ⟨ta, pa, sa⟩ := ha
  obtain ⟨tb, pb, sb⟩ := hb
  refine ⟨_, pw_and pa pb, fun Γ σ F H O Q k h => sa Γ σ F H O _ k ?_⟩
  unfold mAnd at h
  refine HitN.bind h fun c Γ1 v F1 H1 O1 k1 r1 s1 h1 => ?_
  cases r1
  cases c with
  | true => exact iteT (sb Γ1 σ F1 H1 O1 _ k1 h1)
  | false => exact iteF (h1 false F1 H1 O1 k1 rfl Step.refl)
theorem vw_or (ha : VB X W a ca) (hb : VW X W (.BoolOp .Or (b :: rest) pos) cb) : VW X W (.BoolOp .Or (a :: b :: rest) pos) (mOr ca cb) := by
  obtain ⟨ta, pa, sa⟩ := ha
  obtain ⟨tb, pb, sb⟩ := hb
  refine ⟨_, pw_or pa pb, fun Γ σ F H O Q k h => sa Γ σ F H O _ k ?_⟩
  unfold mOr at h
  refine HitN.bind h fun c Γ1 v F1 H1 O1 k1 r1 s1 h1 => ?_
  cases r1
  cases c with
  | true => exact iteT (h1 true F1 H1 O1 k1 rfl Step.refl)
  | false => exact iteF (sb Γ1 σ F1 H1 O1 _ k1 h1)
theorem vb_not (ha : VB X W a ca) : VB X W (.UnaryOp .Not a pos) (mNot ca) := by
  obtain ⟨ta, pa, sa⟩ := ha
  refine ⟨_, pt_not pa, fun Γ σ F H O Q k h => sa Γ σ F H O _ k ?_⟩
  unfold mNot at h
  refine HitN.bind h fun c Γ1 v F1 H1 O1 k1 r1 s1 h1 => ?_
  cases r1
  exact h1 (!c) F1 H1 O1 k1 rfl Step.refl
/-! .. as values, of truths -/
def mAndV (ma mb : M PyData) : M PyData := bM ma fun d => match d with
  | .bool true => mb
  | .bool false => pM (.bool false)
  | _ => fun _ => none
def mOrV (ma mb : M PyData) : M PyData := bM ma fun d => match d with
  | .bool true => pM (.bool true)
  | .bool false => mb
  | _ => fun _ => none
def mNotV (ma : M PyData) : M PyData := bM ma fun d => match d with
  | .bool c => pM (.bool (!c))
  | _ => fun _ => none
theorem vd_one {op} (h : VD X W a ma) : VD X W (.BoolOp op [a] pos) ma := by
  obtain ⟨t, p, s⟩ := h
  exact ⟨t, pe_one p, s⟩
theorem vd_and (ha : VD X W a ma) (hb : VD X W (.BoolOp .And (b :: rest) pos) mb) : VD X W (.BoolOp .And (a :: b :: rest) pos) (mAndV ma mb) := by
  obtain ⟨ta, pa, sa⟩ := ha
  obtain ⟨tb, pb, sb⟩ := hb
  refine ⟨_, pe_and pa pb, fun Γ σ F H O Q k h => sa Γ σ F H O _ k ?_⟩
  unfold mAndV at h
  refine HitN.bind h fun d Γ1 v F1 H1 O1 k1 r1 s1 h1 => ?_
  cases d with
  | bool c =>
    cases r1
    refine ⟨c, rfl, ?_⟩
    cases c with
    | true => exact iteT (sb Γ1 σ F1 H1 O1 _ k1 h1)
    | false => exact iteF (h1 (.bl false) F1 H1 O1 k1 (.bl false) Step.refl)
  | _ => exact h1.elim
theorem vd_or (ha : VD X W a ma) (hb : VD X W (.BoolOp .Or (b :: rest) pos) mb) : VD X W (.BoolOp .Or (a :: b :: rest) pos) (mOrV ma mb) := by
  obtain ⟨ta, pa, sa⟩ := ha
  obtain ⟨tb, pb, sb⟩ := hb
  refine ⟨_, pe_or pa pb, fun Γ σ F H O Q k h => sa Γ σ F H O _ k ?_⟩
  unfold mOrV at h
  refine HitN.bind h fun d Γ1 v F1 H1 O1 k1 r1 s1 h1 => ?_
  cases d with
  | bool c =>
    cases r1
    refine ⟨c, rfl, ?_⟩
    cases c with
    | true => exact iteT (h1 (.bl true) F1 H1 O1 k1 (.bl true) Step.refl)
    | false => exact iteF (sb Γ1 σ F1 H1 O1 _ k1 h1)
  | _ => exact h1.elim
theorem vd_not (ha : VD X W a ma) : VD X W (.UnaryOp .Not a pos) (mNotV ma) := by
  obtain ⟨ta, pa, sa⟩ := ha
  refine ⟨_, pe_not pa, fun Γ σ F H O Q k h => sa Γ σ F H O _ k ?_⟩
  unfold mNotV at h
  refine HitN.bind h fun d Γ1 v F1 H1 O1 k1 r1 s1 h1 => ?_
  cases d with
  | bool c =>
    cases r1
    exact ⟨c, rfl, h1 (.bl (!c)) F1 H1 O1 k1 (.bl (!c)) Step.refl⟩
  | _ => exact h1.elim
/-- a if c else b -/
def mIf {α : Type} (c : M Bool) (ma mb : M α) : M α := bM c fun c => if c = true then ma else mb
theorem vd_if {c : Expr} {mc : M Bool} (hc : VB X W c mc) (ha : VD X W a ma) (hb : VD X W b mb) : VD X W (.IfExp c a b pos) (mIf mc ma mb) := by
  obtain ⟨tc, pc, sc⟩ := hc
  obtain ⟨ta, pa, sa⟩ := ha
  obtain ⟨tb, pb, sb⟩ := hb
  refine ⟨_, pe_ifExp pc pa pb, fun Γ σ F H O Q k h => sc Γ σ F H O _ k ?_⟩
  unfold mIf at h
  refine HitN.bind h fun c Γ1 v F1 H1 O1 k1 r1 s1 h1 => ?_
  cases r1
  cases c with
  | true => exact iteT (sa Γ1 σ F1 H1 O1 _ k1 h1)
  | false => exact iteF (sb Γ1 σ F1 H1 O1 _ k1 h1)
/-! .. chains -/
def mChain (f g : OpF) (ma mb mc : M PyData) : M PyData := bM ma fun a => bM mb fun b => bM (oM (f a b)) fun d => match d with
  | .bool true => bM mc fun c => oM (g b c)
  | .bool false => pM (.bool false)
  | _ => fun _ => none
end
end TW

namespace TW
open PySem PySem.Spec L2
/-! ### operators -/
def big (i : Int) : Bool := decide (i.natAbs < 2 ^ 4000)
def addF : OpF
  | .int i, .int j => some (.int (i + j))
  | .tuple a, .tuple b => if a.length + b.length ≤ sizeLine then some (.tuple (a ++ b)) else none
  | .list a, .list b => if a.length + b.length ≤ sizeLine then some (.list (a ++ b)) else none
  | .str a, .str b => if a.length + b.length ≤ sizeLine then some (.str (a ++ b)) else none
  | _, _ => none
def subF : OpF
  | .int i, .int j => some (.int (i - j))
  | _, _ => none
def mulF : OpF
  | .int i, .int j => if (big i && big j) = true then some (.int (i * j)) else none
  | _, _ => none
def modF : OpF
  | .int i, .int j => if 0 < j then some (.int (i % j)) else none
  | _, _ => none
def divF : OpF
  | .int i, .int j => if 0 < j ∧ big j = true then some (.int (i / j)) else none
  | _, _ => none
def powF : OpF
  | .int i, .int j => if 0 ≤ j ∧ j ≤ 1000000 ∧ i.natAbs < 2 ^ 64 then some (.int (i ^ j.toNat)) else none
  | _, _ => none
def cmpF (p : Int → Int → Bool) : OpF
  | .int i, .int j => some (.bool (p i j))
  | _, _ => none
abbrev leF : OpF := cmpF fun i j => decide (i ≤ j)
abbrev gtF : OpF := cmpF fun i j => decide (j < i)
abbrev geF : OpF := cmpF fun i j => decide (j ≤ i)
def eqF : OpF := fun a b => if (SeqAt.shaped a && SeqAt.shaped b) = true then some (.bool (PyData.eqv a b)) else none
def neF : OpF := fun a b => if (SeqAt.shaped a && SeqAt.shaped b) = true then some (.bool (!PyData.eqv a b)) else none
def isNo : PyData → Bool
  | .none => true
  | _ => false
def isNF : OpF
  | a, .none => some (.bool (isNo a))
  | _, _ => none
def notNF : OpF
  | a, .none => some (.bool (!isNo a))
  | _, _ => none
def inF : OpF
  | d, .list ds => if (SeqAt.shaped d && SeqAt.shaped (.list ds)) = true then some (.bool (ds.any fun z => PyData.eqv z d)) else none
  | d, .tuple ds => if (SeqAt.shaped d && SeqAt.shaped (.tuple ds)) = true then some (.bool (ds.any fun z => PyData.eqv z d)) else none
  | _, _ => none
def notF : OpF
  | d, .list ds => if (SeqAt.shaped d && SeqAt.shaped (.list ds)) = true then some (.bool (!ds.any fun z => PyData.eqv z d)) else none
  | d, .tuple ds => if (SeqAt.shaped d && SeqAt.shaped (.tuple ds)) = true then some (.bool (!ds.any fun z => PyData.eqv z d)) else none
  | _, _ => none
section
variable {X : Cx}
theorem opI {fo : Value → Value → Sem Value} {f : OpF} {C : Int → Int → Prop} {g : Int → Int → V} (ho : OpR X fo (rI C g)) (gd : Int → Int → PyData) (hf : ∀ a b d, f a b = some d → ∃ i j, a = .int i ∧ b = .int j ∧ C i j ∧ d = gd i j)
    (hg : ∀ F i j, Df X.K F (g i j) (gd i j)) : OpD X fo f := by
  refine ⟨_, ho, fun a b d e x y F H Q s ra rb q => ?_⟩
  obtain ⟨i, j, rfl, rfl, c, rfl⟩ := hf a b d e
  cases ra
  cases rb
  exact ⟨i, j, rfl, rfl, c, q _ F H (Grow.refl s) (hg F i j)⟩
theorem opI0 {fo : Value → Value → Sem Value} {f : OpF} {g : Int → Int → V} (ho : OpR X fo (rI0 g)) (gd : Int → Int → PyData) (hf : ∀ a b d, f a b = some d → ∃ i j, a = .int i ∧ b = .int j ∧ d = gd i j)
    (hg : ∀ F i j, Df X.K F (g i j) (gd i j)) : OpD X fo f := by
  refine ⟨_, ho, fun a b d e x y F H Q s ra rb q => ?_⟩
  obtain ⟨i, j, rfl, rfl, rfl⟩ := hf a b d e
  cases ra
  cases rb
  exact ⟨i, j, rfl, rfl, q _ F H (Grow.refl s) (hg F i j)⟩
theorem od_sub : OpD X (binaryOp .Sub) subF := opI0 op_sub (fun i j => .int (i - j)) (fun a b d e => by
  unfold subF at e; split at e <;> cases e; exact ⟨_, _, rfl, rfl, rfl⟩) fun _ _ _ => .int _
theorem od_mul : OpD X (binaryOp .Mult) mulF := opI op_mulW (fun i j => .int (i * j)) (fun a b d e => by
  unfold mulF at e
  split at e
  · split at e
    · rename_i i j h
      cases e
      obtain ⟨h1, h2⟩ := Bool.and_eq_true_iff.mp h
      exact ⟨_, _, rfl, rfl, wide_mul (of_decide_eq_true h1) (of_decide_eq_true h2) (by decide) (by decide) (by decide), rfl⟩
    · cases e
  · cases e) fun _ _ _ => .int _
theorem od_mod : OpD X (binaryOp .Mod) modF := opI op_mod (fun i j => .int (i % j)) (fun a b d e => by
  unfold modF at e
  split at e
  · split at e
    · rename_i i j h
      cases e
      exact ⟨_, _, rfl, rfl, h, rfl⟩
    · cases e
  · cases e) fun _ _ _ => .int _
theorem od_div : OpD X (binaryOp .FloorDiv) divF := opI op_fdivW (fun i j => .int (i / j)) (fun a b d e => by
  unfold divF at e
  split at e
  · split at e
    · rename_i i j h
      cases e
      exact ⟨_, _, rfl, rfl, wide_div h.1 (of_decide_eq_true h.2) (by decide) (by decide), rfl⟩
    · cases e
  · cases e) fun _ _ _ => .int _
theorem od_pow : OpD X (binaryOp .Pow) powF := opI op_pow (fun i j => .int (i ^ j.toNat)) (fun a b d e => by
  unfold powF at e
  split at e
  · split at e
    · rename_i i j h
      cases e
      exact ⟨_, _, rfl, rfl, h, rfl⟩
    · cases e
  · cases e) fun _ _ _ => .int _
theorem od_cmp {op : CmpOp} {p : Int → Int → Bool} (ho : OpR X (compareOp op) (rI0 fun i j => .bl (p i j))) : OpD X (compareOp op) (cmpF p) := opI0 ho (fun i j => .bool (p i j)) (fun a b d e => by
  unfold cmpF at e; split at e <;> cases e; exact ⟨_, _, rfl, rfl, rfl⟩) fun _ _ _ => .bl _
theorem od_le : OpD X (compareOp .LtE) leF := od_cmp op_le
theorem od_gt : OpD X (compareOp .Gt) gtF := od_cmp op_gt
theorem od_ge : OpD X (compareOp .GtE) geF := od_cmp op_ge
theorem od_eq (hu : X.A.units + 65 < cLine) : OpD X (compareOp .Eq) eqF := by
  refine ⟨_, op_eqD (by omega), fun a b d e x y F H Q s ra rb q => ?_⟩
  unfold eqF at e
  split at e
  · rename_i h
    cases e
    obtain ⟨h1, h2⟩ := Bool.and_eq_true_iff.mp h
    exact ⟨a, b, Df.dp s _ _ ra, Df.dp s _ _ rb, h1, h2, q _ F H (Grow.refl s) (.bl _)⟩
  · cases e
theorem od_ne (hu : X.A.units + 65 < cLine) : OpD X (compareOp .NotEq) neF := by
  refine ⟨_, op_neD (by omega), fun a b d e x y F H Q s ra rb q => ?_⟩
  unfold neF at e
  split at e
  · rename_i h
    cases e
    obtain ⟨h1, h2⟩ := Bool.and_eq_true_iff.mp h
    exact ⟨a, b, Df.dp s _ _ ra, Df.dp s _ _ rb, h1, h2, q _ F H (Grow.refl s) (.bl _)⟩
  · cases e
/-- in, over readings -/
def rInA (K : PySem.W.Frag) (neg : Bool) : R2 := fun x y H Q => ∃ d ds, L2.Dp K H x d ∧ (L2.Dp K H y (.list ds) ∨ L2.Dp K H y (.tuple ds)) ∧ SeqAt.shaped d = true ∧ SeqAt.shaped (.list ds) = true ∧ Q (.bl (if neg = true then !ds.any fun z => PyData.eqv z d else ds.any fun z => PyData.eqv z d)) H
theorem op_inA (hu : X.A.units + 65 < cLine) : OpR X (compareOp .In) (rInA X.K false) := by
  intro pins s σ H x y v u Q I rx ry h
  obtain ⟨d, ds, hd, he, sd, se, q⟩ := h
  obtain ⟨as, r1⟩ := Dp.reads I d x v hd rx
  rcases he with he | he
  · obtain ⟨bs, r2⟩ := Dp.reads I (.list ds) y u he ry
    exact SeqAt.in_list_reads r2 r1 (SeqAt.canLay_of_shaped se) (SeqAt.canLay_of_shaped sd) (PyProof.Rows.room_in_shaped sd hu) ⟨.bl _, H, I, rfl, q⟩
  · obtain ⟨bs, r2⟩ := Dp.reads I (.tuple ds) y u he ry
    exact SeqAt.in_tuple_reads r2 r1 (SeqAt.canLay_of_shaped se) (SeqAt.canLay_of_shaped sd) (PyProof.Rows.room_in_shaped sd hu) ⟨.bl _, H, I, rfl, q⟩
theorem op_notInA (hu : X.A.units + 65 < cLine) : OpR X (compareOp .NotIn) (rInA X.K true) := by
  intro pins s σ H x y v u Q I rx ry h
  obtain ⟨d, ds, hd, he, sd, se, q⟩ := h
  obtain ⟨as, r1⟩ := Dp.reads I d x v hd rx
  rcases he with he | he
  · obtain ⟨bs, r2⟩ := Dp.reads I (.list ds) y u he ry
    exact SeqAt.notIn_list_reads r2 r1 (SeqAt.canLay_of_shaped se) (SeqAt.canLay_of_shaped sd) (PyProof.Rows.room_in_shaped sd hu) ⟨.bl _, H, I, rfl, q⟩
  · obtain ⟨bs, r2⟩ := Dp.reads I (.tuple ds) y u he ry
    exact SeqAt.notIn_tuple_reads r2 r1 (SeqAt.canLay_of_shaped se) (SeqAt.canLay_of_shaped sd) (PyProof.Rows.room_in_shaped sd hu) ⟨.bl _, H, I, rfl, q⟩
theorem rP.dp {K : PySem.W.Frag} {F H : Hp} {d : PyData} {v : V} (s : Same F H) (h : rP K F H d v) : L2.Dp K H v d := by
  rcases h with h | ⟨a, vs, ds, rfl, rfl, ha, hd⟩
  · exact Df.dp s _ _ h
  · exact .lst (.inl (.inl ha)) (DfAll.dp s _ _ hd)
theorem op_in (hu : X.A.units + 65 < cLine) : OpP X (compareOp .In) inF := by
  refine ⟨_, op_inA hu, fun a b d e x y F H Q s ra rb q => ?_⟩
  unfold inF at e
  split at e
  · split at e
    · rename_i h
      cases e
      obtain ⟨h1, h2⟩ := Bool.and_eq_true_iff.mp h
      exact ⟨_, _, Df.dp s _ _ ra, .inl (rP.dp s rb), h1, h2, q _ F H (Grow.refl s) (.bl _)⟩
    · cases e
  · split at e
    · rename_i h
      cases e
      obtain ⟨h1, h2⟩ := Bool.and_eq_true_iff.mp h
      exact ⟨_, _, Df.dp s _ _ ra, .inr (rP.dp s rb), h1, h2, q _ F H (Grow.refl s) (.bl _)⟩
    · cases e
  · cases e
theorem op_notin (hu : X.A.units + 65 < cLine) : OpP X (compareOp .NotIn) notF := by
  refine ⟨_, op_notInA hu, fun a b d e x y F H Q s ra rb q => ?_⟩
  unfold notF at e
  split at e
  · split at e
    · rename_i h
      cases e
      obtain ⟨h1, h2⟩ := Bool.and_eq_true_iff.mp h
      exact ⟨_, _, Df.dp s _ _ ra, .inl (rP.dp s rb), h1, h2, q _ F H (Grow.refl s) (.bl _)⟩
    · cases e
  · split at e
    · rename_i h
      cases e
      obtain ⟨h1, h2⟩ := Bool.and_eq_true_iff.mp h
      exact ⟨_, _, Df.dp s _ _ ra, .inr (rP.dp s rb), h1, h2, q _ F H (Grow.refl s) (.bl _)⟩
    · cases e
  · cases e
theorem od_isN : OpD X (compareOp .Is) isNF := by
  refine ⟨_, op_isN, fun a b d e x y F H Q s ra rb q => ?_⟩
  cases b with
  | none => ?_
  | _ => cases e
  cases rb
  refine ⟨rfl, ?_⟩
  cases ra with
  | non =>
    cases (show some (PyData.bool true) = some d from e)
    exact q _ F H (Grow.refl s) (.bl _)
  | _ =>
    cases (show some (PyData.bool false) = some d from e)
    exact q _ F H (Grow.refl s) (.bl _)
theorem od_notN : OpD X (compareOp .IsNot) notNF := by
  refine ⟨_, op_notN, fun a b d e x y F H Q s ra rb q => ?_⟩
  cases b with
  | none => ?_
  | _ => cases e
  cases rb
  refine ⟨rfl, ?_⟩
  cases ra with
  | non =>
    cases (show some (PyData.bool false) = some d from e)
    exact q _ F H (Grow.refl s) (.bl _)
  | _ =>
    cases (show some (PyData.bool true) = some d from e)
    exact q _ F H (Grow.refl s) (.bl _)
theorem grow_tup {K : PySem.W.Frag} {F H : Hp} {p : Addr} {vs : List V} {ds : List PyData} (s : Same F H) (hp : H p = none) (h : DfAll K F vs ds) : Grow F H (upd F p (.tup vs)) (upd H p (.tup vs)) ∧ Df K (upd F p (.tup vs)) (.ref p) (.tuple ds) :=
  ⟨Grow.new s hp, .tup (.inl (.inl upd_same)) (DfAll.mono (same_upd (none_of_same s hp)) _ _ h)⟩
theorem grow_lst {K : PySem.W.Frag} {F H : Hp} {p : Addr} {vs : List V} {ds : List PyData} (s : Same F H) (hp : H p = none) (h : DfAll K F vs ds) : Grow F H (upd F p (.lst vs)) (upd H p (.lst vs)) ∧ Df K (upd F p (.lst vs)) (.ref p) (.list ds) :=
  ⟨Grow.new s hp, .lst upd_same (DfAll.mono (same_upd (none_of_same s hp)) _ _ h)⟩
theorem od_add : OpD X (binaryOp .Add) addF := by
  refine ⟨_, op_add.or (op_catA.or (op_add_str.or op_cat)), fun a b d e x y F H Q s ra rb q => ?_⟩
  unfold addF at e
  split at e
  · cases e
    cases ra
    cases rb
    exact .inl ⟨_, _, rfl, rfl, q _ F H (Grow.refl s) (.int _)⟩
  · split at e
    · rename_i ds es h
      cases e
      cases ra with
      | tup h1 h2 =>
        rename_i a' xs
        cases rb with
        | tup h3 h4 =>
          rename_i b' ys
          have l1 := DfAll.length h2
          have l2 := DfAll.length h4
          refine .inr (.inl ⟨_, _, _, _, rfl, rfl, sqT_mono s h1, sqT_mono s h3, by omega, fun e => ?_, fun _ e => ?_, fun _ _ p hp => ?_⟩)
          · subst e
            cases h2
            exact q _ F H (Grow.refl s) (.tup h3 h4)
          · subst e
            cases h4
            rw [List.append_nil] at q
            exact q _ F H (Grow.refl s) (.tup h1 h2)
          · obtain ⟨g, r⟩ := grow_tup s hp (DfAll.append h2 h4)
            exact q _ _ _ g r
    · cases e
  · split at e
    · rename_i ds es h
      cases e
      cases ra with
      | lst h1 h2 =>
        cases rb with
        | lst h3 h4 =>
          have l1 := DfAll.length h2
          have l2 := DfAll.length h4
          refine .inr (.inr (.inr ⟨_, _, _, _, rfl, rfl, s _ _ h1, s _ _ h3, by omega, fun p hp => ?_⟩))
          obtain ⟨g, r⟩ := grow_lst s hp (DfAll.append h2 h4)
          exact q _ _ _ g r
    · cases e
  · split at e
    · rename_i h
      cases e
      cases ra
      cases rb
      exact .inr (.inr (.inl ⟨_, _, rfl, rfl, h, q _ F H (Grow.refl s) (.str _)⟩))
    · cases e
  · cases e
end

/-! ### chains -/
section
variable {X : Cx} {W : WX} {pos : Pos} {a b c : Expr} {ma mb mc : M PyData}
theorem chain_hit {fo go : Value → Value → Sem Value} {f g : OpF} (hf : OpD X fo f) (hg : OpD X go g) (ha : VD X W a ma) (hb : VD X W b mb) (hc : VD X W c mc) :
    ∃ (r r' : R2) (ta tb tc : TE), OpR X fo r ∧ OpR X go r' ∧ PE X a ta ∧ PE X b tb ∧ PE X c tc ∧ ∀ Γ σ F H O Q, Ok X.K F H Γ σ O → HitN X.K W (rD X.K) (mChain f g ma mb mc Γ) σ F H O Q → tChain r r' ta tb tc σ H Q := by
  obtain ⟨r, hr, f1⟩ := hf
  obtain ⟨r', hr', g1⟩ := hg
  obtain ⟨ta, pa, sa⟩ := ha
  obtain ⟨tb, pb, sb⟩ := hb
  obtain ⟨tc, pc, sc⟩ := hc
  refine ⟨r, r', ta, tb, tc, hr, hr', pa, pb, pc, fun Γ σ F H O Q k h => sa Γ σ F H O _ k ?_⟩
  unfold mChain at h
  refine HitN.bind h fun da Γ1 v F1 H1 O1 k1 r1 s1 h1 => sb Γ1 σ F1 H1 O1 _ k1 ?_
  refine HitN.bind h1 fun db Γ2 w F2 H2 O2 k2 r2 s2 h2 => ?_
  cases e : f da db with
  | none =>
    have h3 : HitN X.K W (rD X.K) none σ F2 H2 O2 Q := by
      unfold bM oM at h2
      rw [e] at h2
      exact h2
    exact h3.elim
  | some d =>
    refine f1 da db d e v w F2 H2 _ k2.sub (Df.mono s2.f _ _ r1) r2 fun z F3 H3 g3 r3 => ?_
    unfold bM oM at h2
    rw [e] at h2
    have h3 := HitN.trans h2 (g3.step (O := O2))
    have k3 := k2.grow g3
    cases d with
    | bool t =>
      cases r3
      refine ⟨t, rfl, ?_⟩
      cases t with
      | false => exact iteF (h3 (.bl false) F3 H3 O2 k3 (.bl false) Step.refl)
      | true =>
        refine iteT (sc Γ2 σ F3 H3 O2 _ k3 ?_)
        refine HitN.bind h3 fun dc Γ4 z' F4 H4 O4 k4 r4 s4 h4 => ?_
        obtain ⟨d', e', q⟩ := HitN.fin h4 k4
        exact g1 db dc d' e' w z' F4 H4 Q k4.sub (Df.mono (g3.f.trans s4.f) _ _ r2) r4 q
    | _ => exact h3.elim
theorem vd_chain {op op' : CmpOp} {f g : OpF} (hf : OpD X (compareOp op) f) (hg : OpD X (compareOp op') g) (ha : VD X W a ma) (hb : VD X W b mb) (hc : VD X W c mc) (hm : lastMarks [op, op'] [b, c] = false := by with_unfolding_all rfl) :
    VD X W (.Compare a [op, op'] [b, c] pos) (mChain f g ma mb mc) := by
  obtain ⟨r, r', ta, tb, tc, h1, h2, pa, pb, pc, s⟩ := chain_hit hf hg ha hb hc
  exact ⟨_, pe_chain h1 h2 pa pb pc hm, s⟩
theorem vb_chain {op op' : CmpOp} {f g : OpF} (hf : OpD X (compareOp op) f) (hg : OpD X (compareOp op') g) (ha : VD X W a ma) (hb : VD X W b mb) (hc : VD X W c mc) (hm : lastMarks [op, op'] [b, c] = false := by with_unfolding_all rfl) :
    VB X W (.Compare a [op, op'] [b, c] pos) (mB (mChain f g ma mb mc)) := by
  obtain ⟨r, r', ta, tb, tc, h1, h2, pa, pb, pc, s⟩ := chain_hit hf hg ha hb hc
  refine ⟨_, pt_chain h1 h2 pa pb pc hm, fun Γ σ F H O Q k h => s Γ σ F H O _ k ?_⟩
  unfold mB at h
  refine HitN.bind h fun d Γ1 v F1 H1 O1 k1 r1 s1 h1 => ?_
  cases d with
  | bool c =>
    cases r1
    exact ⟨c, rfl, h1 c F1 H1 O1 k1 rfl Step.refl⟩
  | _ => exact h1.elim

/-! ### argument lists, displays -/
variable {es : List Expr} {me : M PyData} {ms : M (List PyData)} {e : Expr}
def mNil : M (List PyData) := pM []
def mCons (me : M PyData) (ms : M (List PyData)) : M (List PyData) := bM me fun d => bM ms fun ds => pM (d :: ds)
theorem vs_nil : VDs X W [] mNil := ⟨_, pa_nil, fun Γ σ F H O Q k h => h [] F H O k .nil Step.refl⟩
theorem vs_cons (he : VD X W e me) (hs : VDs X W es ms) (hst : starEach (e :: es) X.env = (false, eval e X.env) :: starEach es X.env := by rfl) : VDs X W (e :: es) (mCons me ms) := by
  obtain ⟨te, pe, se⟩ := he
  obtain ⟨ts, ps, ss⟩ := hs
  refine ⟨_, pa_cons pe ps hst, fun Γ σ F H O Q k h => se Γ σ F H O _ k ?_⟩
  unfold mCons at h
  refine HitN.bind h fun d Γ1 v F1 H1 O1 k1 r1 s1 h1 => ss Γ1 σ F1 H1 O1 _ k1 ?_
  refine HitN.bind h1 fun ds Γ2 vs F2 H2 O2 k2 r2 s2 h2 => ?_
  exact h2 (v :: vs) F2 H2 O2 k2 (.cons (Df.mono s2.f _ _ r1) r2) Step.refl
def mTup (ms : M (List PyData)) : M PyData := bM ms fun ds => oM (if ds.length ≤ sizeLine then some (.tuple ds) else none)
theorem vd_tup {x1} (hs : VDs X W es ms) : VD X W (.Tuple es x1 pos) (mTup ms) := by
  obtain ⟨ts, ps, ss⟩ := hs
  refine ⟨_, pe_tup ps, fun Γ σ F H O Q k h => ss Γ σ F H O _ k ?_⟩
  unfold mTup at h
  refine HitN.bind h fun ds Γ1 vs F1 H1 O1 k1 r1 s1 h1 => ?_
  obtain ⟨d, e, q⟩ := HitN.fin h1 k1
  split at e
  · rename_i hl
    cases e
    refine ⟨by rw [DfAll.length r1]; exact hl, fun p hp => ?_⟩
    obtain ⟨g, r⟩ := grow_tup k1.sub hp r1
    exact q _ _ _ g r
  · cases e
def mLst (ms : M (List PyData)) : M T := bM ms fun ds => oM (if ds.length ≤ sizeLine then some (.lst (ds.map .frz)) else none)
/-- a new list, owned -/
theorem HitT.newL {K : PySem.W.Frag} {Γ : G} {σ : St} {F H : Hp} {O : List Addr} {Q : VK} {p : Addr} {vs : List V} {ts : List T} {o : List Addr} (h : HitT K W (rT K) (some (.ok (T.lst ts) Γ)) σ F H (o ++ O) Q) (k : Ok K F H Γ σ O) (hp : H p = none) (r : RepTs K F H ts vs o)
    (n : (o ++ O).Nodup) (x : ∀ a ∈ o, F a = none) : Q (.ref p) (upd H p (.lst vs)) := by
  have lo := RepTs.live _ _ _ r
  have lO := RepG.live k.rep
  have po : ∀ a ∈ o, a ≠ p := fun a m e => lo a m (by rw [e]; exact hp)
  have pO : ∀ a ∈ O, a ≠ p := fun a m e => lO a m (by rw [e]; exact hp)
  have np : p ∉ o ++ O := fun m => (List.mem_append.mp m).elim (fun z => po p z rfl) fun z => pO p z rfl
  refine h (.ref p) F (upd H p (.lst vs)) O (p :: o) ⟨fun b x e => ?_, RepG.mono (Same.refl _) k.rep fun a m => upd_ne (pO a m), k.nd, k.out⟩ ?_ ?_ (fun a m => ?_) ⟨Same.refl _, fun a ha _ => ⟨?_, id⟩, fun a m => ?_⟩
  · rw [upd_ne (ne_of_none (k.sub b x e) hp)]
    exact k.sub b x e
  · unfold rT RepT
    exact ⟨p, vs, o, rfl, upd_same, RepTs.mono (Same.refl _) ts vs o r fun a m => upd_ne (po a m), rfl⟩
  · exact List.nodup_cons.mpr ⟨np, n⟩
  · rcases List.mem_cons.mp m with rfl | m
    · exact none_of_same k.sub hp
    · exact x a m
  · exact upd_ne fun e => ha (by rw [e]; exact hp)
  · rcases List.mem_cons.mp m with rfl | m
    · exact .inr hp
    · exact .inl m
theorem vt_lst (hs : VDs X W es ms) : VT X W (.List es pos) (mLst ms) := by
  obtain ⟨ts, ps, ss⟩ := hs
  refine ⟨_, pe_lst ps, fun Γ σ F H O Q k h => ss Γ σ F H O _ k ?_⟩
  unfold mLst at h
  refine HitT.bindN h fun ds Γ1 vs F1 H1 O1 k1 r1 s1 h1 => ?_
  unfold oM at h1
  split at h1
  · rename_i hl
    refine ⟨by rw [DfAll.length r1]; exact hl, fun p hp => ?_⟩
    exact HitT.newL (o := []) h1 k1 hp (of_ice r1) k1.nd (fun _ m => nomatch m)
  · exact h1.elim

/-! ### subscripts -/
def ixF : OpF
  | .list ds, .int i => atI ds i
  | .tuple ds, .int i => atI ds i
  | .str z, .int i => if z.length ≤ sizeLine then (atI z.cps.toList i).map fun c => .str ⟨#[c]⟩ else none
  | _, _ => none
theorem at_df {K : PySem.W.Frag} {F : Hp} {vs : List V} {ds : List PyData} {i : Int} {d : PyData} (h : DfAll K F vs ds) (e : atI ds i = some d) : ∃ v, atI vs i = some v ∧ Df K F v d := by
  unfold atI at e ⊢
  rw [DfAll.length h]
  cases q : ixN ds.length i with
  | none => rw [q] at e; cases e
  | some j =>
    rw [q] at e
    exact DfAll.get h e
theorem vd_ix (ha : VD X W a ma) (hb : VD X W b mb) (hs : PlainIx b := by exact fun _ _ => rfl) : VD X W (.Subscript a b pos) (mOp ixF ma mb) := by
  obtain ⟨ta, pa, sa⟩ := ha
  obtain ⟨tb, pb, sb⟩ := hb
  refine ⟨_, pe_ix ix_seq pa pb hs, fun Γ σ F H O Q k h => sa Γ σ F H O _ k ?_⟩
  unfold mOp at h
  refine HitN.bind h fun da Γ1 v F1 H1 O1 k1 r1 s1 h1 => sb Γ1 σ F1 H1 O1 _ k1 ?_
  refine HitN.bind h1 fun db Γ2 w F2 H2 O2 k2 r2 s2 h2 => ?_
  obtain ⟨d, e, q⟩ := HitN.fin h2 k2
  have r1 := Df.mono s2.f _ _ r1
  unfold ixF at e
  split at e
  · cases r1 with
    | lst h3 h4 =>
      cases r2
      obtain ⟨z, e1, r⟩ := at_df h4 e
      exact .inl ⟨_, _, _, z, rfl, rfl, .inl (.inl (k2.sub _ _ h3)), e1, q _ F2 H2 (Grow.refl k2.sub) r⟩
  · cases r1 with
    | tup h3 h4 =>
      cases r2
      obtain ⟨z, e1, r⟩ := at_df h4 e
      exact .inr (.inl ⟨_, _, _, z, rfl, rfl, sqT_mono k2.sub h3, e1, q _ F2 H2 (Grow.refl k2.sub) r⟩)
  · split at e
    · rename_i hl
      cases r1
      cases r2
      rename_i z' i'
      cases q1 : atI z'.cps.toList i' with
      | none => rw [q1] at e; cases e
      | some c =>
        rw [q1] at e
        cases e
        exact .inr (.inr ⟨_, _, c, rfl, rfl, hl, q1, q _ F2 H2 (Grow.refl k2.sub) (.str _)⟩)
    · cases e
  · cases e
/-- x[i] of a name: what it owns may stay owned -/
def ixS (i : Nat) : PyData → M PyData := fun d Γ => match Γ[i]? with
  | some (some (.frz a)) => oM (ixF a d) Γ
  | some (some (.scr ns)) => (match d with
    | .int k => oM ((atI ns k).map .int) Γ
    | _ => none)
  | some (some (.lst ts)) => (match d with
    | .int k => (match atI ts k with
      | some (.frz d) => some (.ok d Γ)
      | some _ => (match fzs ts with
        | some ds => oM (atI ds k) (Γ.set i (some (.frz (.list ds))))
        | none => none)
      | none => none)
    | _ => none)
  | _ => none
def mIxV (i : Nat) (mb : M PyData) : M PyData := fun Γ => match Γ[i]? with
  | some (some _) => bM mb (ixS i) Γ
  | _ => none
theorem RepTs.get {K : PySem.W.Frag} {F H : Hp} : ∀ {ts : List T} {vs : List V} {o : List Addr} {j : Nat} {t : T}, RepTs K F H ts vs o → ts[j]? = some t → ∃ v o1, vs[j]? = some v ∧ RepT K F H t v o1 ∧ ∀ a ∈ o1, a ∈ o
  | [], _, _, _, _, _, e => by simp at e
  | t' :: ts, _, _, 0, t, h, e => by
    unfold RepTs at h
    obtain ⟨v, r, o1, o2, rfl, h1, h2, rfl⟩ := h
    have e' : t' = t := by simpa using e
    subst e'
    exact ⟨v, o1, rfl, h1, fun a m => List.mem_append_left _ m⟩
  | t' :: ts, _, _, j + 1, t, h, e => by
    unfold RepTs at h
    obtain ⟨v, r, o1, o2, rfl, h1, h2, rfl⟩ := h
    obtain ⟨v', o3, g1, g2, g3⟩ := RepTs.get (j := j) (t := t) h2 (by simpa using e)
    exact ⟨v', o3, by simpa using g1, g2, fun a m => List.mem_append_right _ (g3 a m)⟩
theorem RepTs.length {K : PySem.W.Frag} {F H : Hp} : ∀ {ts : List T} {vs : List V} {o : List Addr}, RepTs K F H ts vs o → vs.length = ts.length
  | [], _, _, h => by unfold RepTs at h; rw [h.1] <;> rfl
  | t' :: ts, _, _, h => by
    unfold RepTs at h
    obtain ⟨v, r, o1, o2, rfl, h1, h2, rfl⟩ := h
    exact congrArg Nat.succ (RepTs.length h2)
theorem at_rep {K : PySem.W.Frag} {F H : Hp} {vs : List V} {ts : List T} {o : List Addr} {i : Int} {t : T} (h : RepTs K F H ts vs o) (e : atI ts i = some t) : ∃ v o1, atI vs i = some v ∧ RepT K F H t v o1 ∧ ∀ a ∈ o1, a ∈ o := by
  unfold atI at e ⊢
  rw [RepTs.length h]
  cases q : ixN ts.length i with
  | none => rw [q] at e; cases e
  | some j =>
    rw [q] at e
    exact RepTs.get h e
theorem vd_ixV (i : Nat) {x : Str} {p : Pos} (hb : VD X W b mb) (hN : X.N[i]? = some x := by rfl) (hv : Vis X.env.scope x := by first | exact Or.inl rfl | exact Or.inr (Or.inl rfl) | exact Or.inr (Or.inr rfl)) (hs : PlainIx b := by exact fun _ _ => rfl) (hd : (x == ("__debug__" : Str)) = false := by decide)
    (hcd : (x == ("__classdict__" : Str)) = false := by decide) : VD X W (.Subscript (.Name x p) b pos) (mIxV i mb) := by
  obtain ⟨tb, pb, sb⟩ := hb
  refine ⟨_, pe_ix ix_seq (pe_var hN hv hd hcd) pb hs, fun Γ σ F H O Q k h => ?_⟩
  unfold mIxV at h
  split at h
  case h_2 => exact h.elim
  rename_i t0 e0
  obtain ⟨v0, _, _, ev0, _⟩ := k.take e0
  have go : ∀ v : V, σ[i]? = some (some v) → tb σ H fun y H2 => rIx X.K v y H2 Q := fun v ev => by
    refine sb Γ σ F H O _ k ?_
    refine HitN.bind h fun d Γ1 w F1 H1 O1 k1 r1 s1 h1 => ?_
    unfold ixS at h1
    split at h1
    · rename_i a e
      obtain ⟨v', e1, r⟩ := k1.frz e
      rw [ev] at e1
      cases e1
      obtain ⟨d', e2, q⟩ := HitN.fin h1 k1
      unfold ixF at e2
      split at e2
      · cases r with
        | lst h3 h4 =>
          cases r1
          obtain ⟨z, e1, r⟩ := at_df h4 e2
          exact .inl ⟨_, _, _, z, rfl, rfl, .inl (.inl (k1.sub _ _ h3)), e1, q _ F1 H1 (Grow.refl k1.sub) r⟩
      · cases r with
        | tup h3 h4 =>
          cases r1
          obtain ⟨z, e1, r⟩ := at_df h4 e2
          exact .inr (.inl ⟨_, _, _, z, rfl, rfl, sqT_mono k1.sub h3, e1, q _ F1 H1 (Grow.refl k1.sub) r⟩)
      · split at e2
        · rename_i hl
          cases r
          cases r1
          rename_i z' i'
          cases q1 : atI z'.cps.toList i' with
          | none => rw [q1] at e2; cases e2
          | some c =>
            rw [q1] at e2
            cases e2
            exact .inr (.inr ⟨_, _, c, rfl, rfl, hl, q1, q _ F1 H1 (Grow.refl k1.sub) (.str _)⟩)
        · cases e2
      · cases e2
    · rename_i ns e
      obtain ⟨v', o, O', e1, r, k2, n, x', s⟩ := k1.take e
      rw [ev] at e1
      cases e1
      unfold RepT at r
      obtain ⟨⟨a, rfl, hs⟩, _⟩ := r
      split at h1
      · rename_i j
        cases r1
        obtain ⟨d', e2, q⟩ := HitN.fin h1 k1
        cases q1 : atI ns j with
        | none => rw [q1] at e2; cases e2
        | some c =>
          rw [q1] at e2
          cases e2
          refine .inl ⟨_, _, _, .int c, rfl, rfl, k1.sub.seq hs, ?_, q _ F1 H1 (Grow.refl k1.sub) (.int _)⟩
          unfold atI at q1 ⊢
          rw [List.length_map]
          cases q2 : ixN ns.length j with
          | none => rw [q2] at q1; cases q1
          | some m =>
            rw [q2] at q1
            show (ns.map V.int)[m]? = some (V.int c)
            rw [List.getElem?_map, show ns[m]? = some c from q1]
            rfl
      · exact h1.elim
    · rename_i ts e
      obtain ⟨v', o, O', e1, r, k2, n, x', s⟩ := k1.take e
      rw [ev] at e1
      cases e1
      split at h1
      · rename_i j
        cases r1
        have r' := r
        unfold RepT at r'
        obtain ⟨a, vs, o', rfl, ha, hr, rfl⟩ := r'
        split at h1
        · rename_i d' e2
          obtain ⟨z, o1, e3, r3, _⟩ := at_rep hr e2
          unfold RepT at r3
          exact .inl ⟨_, _, _, z, rfl, rfl, .inl (.inl ha), e3, h1 z F1 H1 O1 k1 r3.1 Step.refl⟩
        · split at h1
          · rename_i ds e2
            have ef : fz (.lst ts) = some (.list ds) := by
              unfold fz
              rw [e2]
              rfl
            obtain ⟨F3, k3, r3, s3⟩ := k2.ice r n x' ef
            obtain ⟨O4, k4, s4⟩ := k3.back (t := .frz (.list ds)) ev (repFrz r3) k3.nd (fun _ m => nomatch m)
            rw [List.set_set] at k4
            have h2 := HitN.trans h1 ((s.trans s3).trans s4)
            obtain ⟨d', e3, q⟩ := HitN.fin h2 k4
            cases r3 with
            | lst h5 h6 =>
              have hh : vs = _ := (HO.lst.inj (Option.some.inj (ha.symm.trans (k4.sub _ _ h5))))
              subst hh
              obtain ⟨z, e1, r⟩ := at_df h6 e3
              exact .inl ⟨_, _, _, z, rfl, rfl, .inl (.inl ha), e1, q _ F3 H1 (Grow.refl k4.sub) r⟩
          · exact h1.elim
        · exact h1.elim
      · exact h1.elim
    · exact h1.elim
  exact ⟨v0, ev0, go v0 ev0⟩
end
end TW

namespace TW
open PySem PySem.Spec L2
/-! ### statements -/
inductive Fl where
  | nx (Γ : G)
  | bk (Γ : G)
  | ct (Γ : G)
  | rt (t : T) (Γ : G)
  | ex (c : Str) (Γ : G)
abbrev MS := G → Option Fl
def bS {α : Type} (m : M α) (f : α → MS) : MS := fun Γ => match m Γ with
  | none => none
  | some (.ex c Γ') => some (.ex c Γ')
  | some (.ok a Γ') => f a Γ'
def qS (a b : MS) : MS := fun Γ => match a Γ with
  | some (.nx Γ') => b Γ'
  | r => r
def nS : MS := fun Γ => some (.nx Γ)
def Keeps (io : List Nat) (σ σ' : St) : Prop := σ'.length = σ.length ∧ ∀ j ∈ io, σ'[j]? = σ[j]?
def HitS (K : PySem.W.Frag) (W : WX) (io : List Nat) (r : Option Fl) (D : Ends) (σ : St) (F H : Hp) (O : List Addr) : Prop := match r with
  | none => False
  | some (.nx Γ') => ∀ σ' F' H' O', Ok K F' H' Γ' σ' O' → Step F H O F' H' O' → Keeps io σ σ' → D.nx σ' H'
  | some (.bk Γ') => ∀ σ' F' H' O', Ok K F' H' Γ' σ' O' → Step F H O F' H' O' → Keeps io σ σ' → D.bk σ' H'
  | some (.ct Γ') => ∀ σ' F' H' O', Ok K F' H' Γ' σ' O' → Step F H O F' H' O' → Keeps io σ σ' → D.ct σ' H'
  | some (.rt t Γ') => ∀ v σ' F' H' O' o, Ok K F' H' Γ' σ' O' → RepT K F' H' t v o → (o ++ O').Nodup → (∀ a ∈ o, F' a = none) → Step F H O F' H' (o ++ O') → Keeps io σ σ' → D.rt v H'
  | some (.ex c Γ') => ∀ σ' F' H' O', Ok K F' H' Γ' σ' O' → Step F H O F' H' O' → Keeps io σ σ' → W (.ref (He.ga K c)) none σ' H'
def VS (X : Cx) (W : WX) (io : List Nat) (st : Stmt) (m : MS) : Prop := ∃ t, PS X st t ∧ ∀ Γ σ F H O D, Ok X.K F H Γ σ O → HitS X.K W io (m Γ) D σ F H O → t D σ H
def VSs (X : Cx) (W : WX) (io : List Nat) (st : List Stmt) (m : MS) : Prop := ∃ t, PSs X st t ∧ ∀ Γ σ F H O D, Ok X.K F H Γ σ O → HitS X.K W io (m Γ) D σ F H O → t D σ H
theorem Keeps.refl {io : List Nat} {σ : St} : Keeps io σ σ := ⟨rfl, fun _ _ => rfl⟩
theorem Keeps.trans {io : List Nat} {σ σ1 σ2 : St} (a : Keeps io σ σ1) (b : Keeps io σ1 σ2) : Keeps io σ σ2 := ⟨b.1.trans a.1, fun j m => (b.2 j m).trans (a.2 j m)⟩
section
variable {α β : Type} {K : PySem.W.Frag} {W : WX} {io : List Nat} {σ σ1 : St} {F H F1 H1 : Hp} {O O1 o : List Addr} {D : Ends}
theorem HitS.trans {r : Option Fl} (h : HitS K W io r D σ F H O) (s : Step F H O F1 H1 O1) (k : Keeps io σ σ1) : HitS K W io r D σ1 F1 H1 O1 := by
  match r, h with
  | some (.nx Γ'), h => exact fun σ' F' H' O' q s' k' => h σ' F' H' O' q (s.trans s') (k.trans k')
  | some (.bk Γ'), h => exact fun σ' F' H' O' q s' k' => h σ' F' H' O' q (s.trans s') (k.trans k')
  | some (.ct Γ'), h => exact fun σ' F' H' O' q s' k' => h σ' F' H' O' q (s.trans s') (k.trans k')
  | some (.rt t Γ'), h => exact fun v σ' F' H' O' o q r n x s' k' => h v σ' F' H' O' o q r n x (s.trans s') (k.trans k')
  | some (.ex c Γ'), h => exact fun σ' F' H' O' q s' k' => h σ' F' H' O' q (s.trans s') (k.trans k')
theorem HitS.bindN {R : Hp → Hp → α → β → Prop} {m : M α} {f : α → MS} {Γ : G} {P : β → Hp → Prop} (h : HitS K W io (bS m f Γ) D σ F H O)
    (k : ∀ a Γ1 v F1 H1 O1, Ok K F1 H1 Γ1 σ O1 → R F1 H1 a v → Step F H O F1 H1 O1 → HitS K W io (f a Γ1) D σ F1 H1 O1 → P v H1) : HitN K W R (m Γ) σ F H O P := by
  unfold bS at h
  match q : m Γ, h with
  | some (.ok a Γ1), h => exact fun v F' H' O' g r s => k a Γ1 v F' H' O' g r s (HitS.trans h s Keeps.refl)
  | some (.ex c Γ1), h => exact fun F' H' O' g s => h σ F' H' O' g s Keeps.refl
theorem HitS.bindT {R : Hp → Hp → α → β → List Addr → Prop} {m : M α} {f : α → MS} {Γ : G} {P : β → Hp → Prop} (h : HitS K W io (bS m f Γ) D σ F H O)
    (k : ∀ a Γ1 v F1 H1 O1 o, Ok K F1 H1 Γ1 σ O1 → R F1 H1 a v o → (o ++ O1).Nodup → (∀ a ∈ o, F1 a = none) → Step F H O F1 H1 (o ++ O1) → HitS K W io (f a Γ1) D σ F1 H1 (o ++ O1) → P v H1) : HitT K W R (m Γ) σ F H O P := by
  unfold bS at h
  match q : m Γ, h with
  | some (.ok a Γ1), h => exact fun v F' H' O' o g r n x s => k a Γ1 v F' H' O' o g r n x s (HitS.trans h s Keeps.refl)
  | some (.ex c Γ1), h => exact fun F' H' O' g s => h σ F' H' O' g s Keeps.refl
end
section
variable {X : Cx} {W : WX} {io : List Nat} {pos : Pos} {st : Stmt} {sts : List Stmt} {a b : MS} {e : Expr}
theorem vss_nil : VSs X W io [] nS := ⟨_, pss_nil, fun Γ σ F H O D k h => h σ F H O k Step.refl Keeps.refl⟩
theorem vss_one (h : VS X W io st a) : VSs X W io [st] a := by
  obtain ⟨t, p, s⟩ := h
  exact ⟨t, pss_one p, s⟩
theorem vss_cons (h1 : VS X W io st a) (h2 : VSs X W io sts b) : VSs X W io (st :: sts) (qS a b) := by
  obtain ⟨t, p, s⟩ := h1
  obtain ⟨u, q, z⟩ := h2
  refine ⟨_, pss_cons p q, fun Γ σ F H O D k h => s Γ σ F H O _ k ?_⟩
  unfold qS at h
  match r : a Γ, h with
  | some (.nx Γ'), h => exact fun σ' F' H' O' k' s' g' => z Γ' σ' F' H' O' D k' (HitS.trans h s' g')
  | some (.bk Γ'), h => exact h
  | some (.ct Γ'), h => exact h
  | some (.rt t Γ'), h => exact h
  | some (.ex c Γ'), h => exact h
theorem vs_pass : VS X W io (.Pass pos) nS := ⟨_, ps_pass, fun Γ σ F H O D k h => h σ F H O k Step.refl Keeps.refl⟩
theorem vs_doc {x j pos'} : VS X W io (.Expr (.Constant (.str x) j pos) pos') nS := ⟨_, ps_doc, fun Γ σ F H O D k h => h σ F H O k Step.refl Keeps.refl⟩
theorem vs_break : VS X W io (.Break pos) (fun Γ => some (.bk Γ)) := ⟨_, ps_break, fun Γ σ F H O D k h => h σ F H O k Step.refl Keeps.refl⟩
theorem vs_continue : VS X W io (.Continue pos) (fun Γ => some (.ct Γ)) := ⟨_, ps_continue, fun Γ σ F H O D k h => h σ F H O k Step.refl Keeps.refl⟩
/-- what the walk does not come to -/
theorem vs_never : VS X W io st (fun _ => none) := ⟨_, ps_never, fun Γ σ F H O D k h => h.elim⟩
theorem vss_never : VSs X W io sts (fun _ => none) := ⟨_, pss_never, fun Γ σ F H O D k h => h.elim⟩
def mRet (m : M T) : MS := bS m fun t Γ => some (.rt t Γ)
theorem vs_ret {m : M T} (h : VT X W e m) : VS X W io (.Return (some e) pos) (mRet m) := by
  obtain ⟨t, p, s⟩ := h
  refine ⟨_, ps_ret p, fun Γ σ F H O D k h => s Γ σ F H O _ k ?_⟩
  unfold mRet at h
  exact HitS.bindT h fun t Γ1 v F1 H1 O1 o k1 r n x s1 h1 => h1 v σ F1 H1 O1 o k1 r n x Step.refl Keeps.refl
theorem vs_retN : VS X W io (.Return none pos) (fun Γ => some (.rt (.frz .none) Γ)) := ⟨_, ps_retN, fun Γ σ F H O D k h => h .non σ F H O [] k (repFrz .non) k.nd (fun _ m => nomatch m) Step.refl Keeps.refl⟩
def mWhen (c : M Bool) (a b : MS) : MS := bS c fun c => if c = true then a else b
theorem vs_if {c : Expr} {mc : M Bool} {as bs : List Stmt} (hc : VB X W c mc) (ha : VSs X W io as a) (hb : VSs X W io bs b) : VS X W io (.If c as bs pos) (mWhen mc a b) := by
  obtain ⟨tc, pc, sc⟩ := hc
  obtain ⟨ta, pa, sa⟩ := ha
  obtain ⟨tb, pb, sb⟩ := hb
  refine ⟨_, ps_if pc pa pb, fun Γ σ F H O D k h => sc Γ σ F H O _ k ?_⟩
  unfold mWhen at h
  refine HitS.bindN h fun c Γ1 v F1 H1 O1 k1 r1 s1 h1 => ?_
  cases r1
  cases c with
  | true => exact iteT (sa Γ1 σ F1 H1 O1 D k1 h1)
  | false => exact iteF (sb Γ1 σ F1 H1 O1 D k1 h1)
/-- an expression whose value is dropped -/
def mDrop (m : M T) : MS := bS m fun _ Γ => some (.nx Γ)
theorem vs_expr {m : M T} (h : VT X W e m) (hs : swapsWith e none pos.line X.env = pure false := by rfl) : VS X W io (.Expr e pos) (mDrop m) := by
  obtain ⟨t, p, s⟩ := h
  refine ⟨_, ps_expr p hs, fun Γ σ F H O D k h => s Γ σ F H O _ k ?_⟩
  unfold mDrop at h
  exact HitS.bindT h fun t Γ1 v F1 H1 O1 o k1 r n x s1 h1 => h1 σ F1 H1 O1 k1 (Step.refl.less fun a m => List.mem_append_right _ m) Keeps.refl
/-! ### stores -/
def storeG (i : Nat) (t : T) (Γ : G) : Option G := if i < Γ.length then some (Γ.set i (some t)) else none
def mSet (i : Nat) (m : M T) : MS := bS m fun t Γ => (storeG i t Γ).map .nx
theorem Keeps.set {io : List Nat} {σ : St} {i : Nat} {x : Option V} (h : i ∉ io) : Keeps io σ (σ.set i x) := ⟨List.length_set .., fun j m => by
  rw [List.getElem?_set_ne fun e => h (by rw [e]; exact m)]⟩
theorem vs_set (i : Nat) {x : Str} {pos' : Pos} {m : M T} (hN : X.N.Nodup) (h : VT X W e m) (hi : X.N[i]? = some x := by rfl) (hx : Loc X.env.scope x := by first | exact Or.inl rfl | exact Or.inr rfl) (hio : i ∉ io := by decide)
    (hs : swapsWith e (some (.Name x pos')) pos.line X.env = pure false := by rfl) (hf : X.fn x = true ∨ X.env.scope.names.lookup x = some .local := by first | exact .inl rfl | exact .inr rfl) : VS X W io (.Assign [.Name x pos'] e pos) (mSet i m) := by
  obtain ⟨t, p, s⟩ := h
  refine ⟨_, ps_set hN hi hx p hs hf, fun Γ σ F H O D k h => s Γ σ F H O _ k ?_⟩
  unfold mSet at h
  refine HitS.bindT h fun t Γ1 v F1 H1 O1 o k1 r n x s1 h1 => ?_
  unfold storeG at h1
  split at h1
  · rename_i hl
    obtain ⟨O2, k2, s2⟩ := k1.put (v := v) hl r n x
    exact h1 _ F1 H1 O2 k2 s2 (Keeps.set hio)
  · exact h1.elim
/-- targets, of frozen data -/
abbrev MG := PyData → G → Option G
def VG (X : Cx) (io : List Nat) (tg : Expr) (g : MG) : Prop := ∃ t, PG X tg t ∧ ∀ d v Γ Γ' σ F H O Q, Ok X.K F H Γ σ O → Df X.K F v d → g d Γ = some Γ' → (∀ σ' O', Ok X.K F H Γ' σ' O' → Step F H O F H O' → Keeps io σ σ' → Q σ' H) → t v σ H Q
abbrev MGs := List PyData → G → Option G
def VGs (X : Cx) (io : List Nat) (tgs : List Expr) (g : MGs) : Prop := ∃ t, PGs X tgs t ∧ ∀ ds vs Γ Γ' σ F H O Q, Ok X.K F H Γ σ O → DfAll X.K F vs ds → g ds Γ = some Γ' → (∀ σ' O', Ok X.K F H Γ' σ' O' → Step F H O F H O' → Keeps io σ σ' → Q σ' H) → t vs σ H Q
def gN (i : Nat) : MG := fun d Γ => storeG i (.frz d) Γ
theorem vg_name (i : Nat) {x : Str} (hN : X.N.Nodup) (hi : X.N[i]? = some x := by rfl) (hx : Loc X.env.scope x := by first | exact Or.inl rfl | exact Or.inr rfl) (hio : i ∉ io := by decide) (hf : X.fn x = true ∨ X.env.scope.names.lookup x = some .local := by first | exact .inl rfl | exact .inr rfl) : VG X io (.Name x pos) (gN i) := by
  refine ⟨_, pg_name hN hi hx hf, fun d v Γ Γ' σ F H O Q k r e h => ?_⟩
  unfold gN storeG at e
  split at e
  · rename_i hl
    cases e
    obtain ⟨O2, k2, s2⟩ := k.put (v := v) (t := .frz d) hl (repFrz r) k.nd (fun _ m => nomatch m)
    exact h _ O2 k2 s2 (Keeps.set hio)
  · cases e
def gE : MGs := fun ds Γ => match ds with
  | [] => some Γ
  | _ => none
def gC (g : MG) (gs : MGs) : MGs := fun ds Γ => match ds with
  | d :: ds => (g d Γ).bind (gs ds)
  | [] => none
theorem vgs_nil : VGs X io [] gE := by
  refine ⟨_, pgs_nil, fun ds vs Γ Γ' σ F H O Q k r e h => ?_⟩
  cases r with
  | nil =>
    cases e
    exact ⟨rfl, h σ O k Step.refl Keeps.refl⟩
  | cons h1 h2 => cases e
theorem vgs_cons {es : List Expr} {g : MG} {gs : MGs} (h1 : VG X io e g) (h2 : VGs X io es gs) (hs : (assignEach (e :: es) X.env).map (·.2) = assign e X.env :: (assignEach es X.env).map (·.2) := by rfl) : VGs X io (e :: es) (gC g gs) := by
  obtain ⟨t, p, s⟩ := h1
  obtain ⟨ts, ps, ss⟩ := h2
  refine ⟨_, pgs_cons p ps hs, fun ds vs Γ Γ' σ F H O Q k r e h => ?_⟩
  cases r with
  | nil => cases e
  | cons r1 r2 =>
    rename_i v vs' d ds'
    unfold gC at e
    dsimp only at e
    cases q : g d Γ with
    | none => rw [q] at e; cases e
    | some Γ1 =>
      rw [q] at e
      refine ⟨v, vs', rfl, s d v Γ Γ1 σ F H O _ k r1 q fun σ1 O1 k1 s1 g1 => ?_⟩
      exact ss ds' vs' Γ1 Γ' σ1 F H O1 Q k1 r2 e fun σ2 O2 k2 s2 g2 => h σ2 O2 k2 (s1.trans s2) (g1.trans g2)
def gTu (n : Nat) (gs : MGs) : MG := fun d Γ => match d with
  | .tuple ds => if ds.length = n then gs ds Γ else none
  | .list ds => if ds.length = n then gs ds Γ else none
  | _ => none
theorem vg_tup {es : List Expr} {k : Nat} {gs : MGs} {n : Nat} (hc : X.calm = true) (h : VGs X io es gs) (hn : (assignEach es X.env).length = n := by rfl) (hst : (assignEach es X.env).findIdx? (·.1) = none := by rfl) : VG X io (.Tuple es k pos) (gTu n gs) := by
  obtain ⟨ts, ps, ss⟩ := h
  refine ⟨fun v σ H Q => gTup X.K n ts v σ H Q ∨ gLst X.K n ts v σ H Q, ⟨fun pins s σ H v u Q I r hw => hw.elim ((pg_tup hc ps hn hst).run pins s σ H v u Q I r) ((pg_lst hc ps hn hst).run pins s σ H v u Q I r)⟩, fun d v Γ Γ' σ F H O Q k r e h => ?_⟩
  unfold gTu at e
  split at e
  · split at e
    · rename_i hl
      cases r with
      | tup h1 h2 => exact .inl ⟨_, _, rfl, sqT_mono k.sub h1, (DfAll.length h2).trans hl, ss _ _ Γ Γ' σ F H O Q k h2 e h⟩
    · cases e
  · split at e
    · rename_i hl
      cases r with
      | lst h1 h2 => exact .inr ⟨_, _, rfl, .inl (.inl (k.sub _ _ h1)), (DfAll.length h2).trans hl, ss _ _ Γ Γ' σ F H O Q k h2 e h⟩
    · cases e
  · cases e
def mAsg (g : MG) (m : M PyData) : MS := bS m fun d Γ => (g d Γ).map .nx
theorem vs_asg {tg : Expr} {g : MG} {m : M PyData} (h : VD X W e m) (hg : VG X io tg g) (hs : swapsWithSole [tg] e pos.line X.env = pure false := by rfl) (hw : swappedStores [tg] e X.env = pure none := by rfl)
    (h1 : (assignEach [tg] X.env).map (·.2) = [assign tg X.env] := by rfl) : VS X W io (.Assign [tg] e pos) (mAsg g m) := by
  obtain ⟨t, p, s⟩ := h
  obtain ⟨tg', pg, sg⟩ := hg
  refine ⟨_, ps_asg p pg hs hw h1, fun Γ σ F H O D k h => s Γ σ F H O _ k ?_⟩
  unfold mAsg at h
  refine HitS.bindN h fun d Γ1 v F1 H1 O1 k1 r s1 h1 => ?_
  cases q : g d Γ1 with
  | none => rw [q] at h1; exact h1.elim
  | some Γ2 =>
    rw [q] at h1
    exact sg d v Γ1 Γ2 σ F1 H1 O1 _ k1 r q fun σ' O' k' s' g' => h1 σ' F1 H1 O' k' s' g'
/-- a, b = x, y -/
def mPar (i j : Nat) (ms : M (List PyData)) : MS := bS ms fun ds Γ => match ds with
  | [d, e] => ((storeG i (.frz d) Γ).bind (storeG j (.frz e))).map .nx
  | _ => none
theorem vs_par (i j : Nat) {x y : Str} {a b : Expr} {ms : M (List PyData)} {px py pt : Pos} {kt k2 pt2} (hc : X.calm = true) (hN : X.N.Nodup) (ha : VDs X W [a, b] ms) (hi : X.N[i]? = some x := by rfl) (hj : X.N[j]? = some y := by rfl) (hij : i ≠ j := by decide)
    (hx : X.env.scope.names.lookup x = some .local := by rfl) (hy : X.env.scope.names.lookup y = some .local := by rfl) (hio : i ∉ io := by decide) (hjo : j ∉ io := by decide)
    (hw : swappedStores [.Tuple [.Name x px, .Name y py] kt pt] (.Tuple [a, b] k2 pt2) X.env = pure (some [x, y]) := by rfl)
    (hs : swapsWithSole [.Tuple [.Name x px, .Name y py] kt pt] (.Tuple [a, b] k2 pt2) pos.line X.env = pure false := by rfl) :
    VS X W io (.Assign [.Tuple [.Name x px, .Name y py] kt pt] (.Tuple [a, b] k2 pt2) pos) (mPar i j ms) := by
  obtain ⟨t, p, s⟩ := ha
  refine ⟨_, ps_par hc hN hi hj hij hx hy p hw hs, fun Γ σ F H O D k h => s Γ σ F H O _ k ?_⟩
  unfold mPar at h
  refine HitS.bindN h fun ds Γ1 vs F1 H1 O1 k1 r s1 h1 => ?_
  split at h1
  · rename_i d e
    cases r with
    | cons r1 r =>
      cases r with
      | cons r2 r =>
        cases r
        rename_i v w
        refine ⟨v, w, rfl, ?_⟩
        unfold storeG at h1
        split at h1
        · rename_i hl
          obtain ⟨O2, k2, s2⟩ := k1.put (v := v) (t := .frz d) hl (repFrz r1) k1.nd (fun _ m => nomatch m)
          dsimp only [Option.bind_some] at h1
          split at h1
          · rename_i hl2
            obtain ⟨O3, k3, s3⟩ := k2.put (v := w) (t := .frz e) hl2 (repFrz r2) k2.nd (fun _ m => nomatch m)
            exact h1 _ F1 H1 O3 k3 (s2.trans s3) ((Keeps.set hio).trans (Keeps.set hjo))
          · exact h1.elim
        · exact h1.elim
  · exact h1.elim
/-- x += e -/
def mAug (i : Nat) (f : OpF) (m : M PyData) : MS := bS (mVar i) fun d => bS m fun d' => bS (oM (f d d')) fun z Γ => (storeG i (.frz z) Γ).map .nx
theorem vs_aug (i : Nat) {x : Str} {pos' : Pos} {op : Operator} {f : OpF} {m : M PyData} (hN : X.N.Nodup) (ho : ∃ r : R2, OpR X (inplaceOp op) r ∧ ∀ a b d, f a b = some d → ∀ x y F H Q, Same F H → Df X.K F x a → Df X.K F y b → (∀ v F' H', Grow F H F' H' → Df X.K F' v d → Q v H') → r x y H Q)
    (h : VD X W e m) (hi : X.N[i]? = some x := by rfl) (hx : Loc X.env.scope x := by first | exact Or.inl rfl | exact Or.inr rfl) (hio : i ∉ io := by decide) (hf : X.fn x = true ∨ X.env.scope.names.lookup x = some .local := by first | exact .inl rfl | exact .inr rfl) :
    VS X W io (.AugAssign (.Name x pos') op e pos) (mAug i f m) := by
  obtain ⟨t, p, s⟩ := h
  obtain ⟨r, hr, hf'⟩ := ho
  refine ⟨_, ps_aug hN hi hx p (ti := fun x y H Q => r x y H Q) (fun pins s σ H x y v u Q I rx ry h => hr pins s σ H x y v u Q I rx ry h) hf, fun Γ σ F H O D k h => ?_⟩
  unfold mAug at h
  have h2 := HitS.bindN (R := fun F' H' d v => Df X.K F' v d ∧ σ[i]? = some (some v)) (P := fun v H1 => ∃ F1 O1 d Γ1, Ok X.K F1 H1 Γ1 σ O1 ∧ Df X.K F1 v d ∧ σ[i]? = some (some v) ∧ HitS X.K W io (bS m (fun d' => bS (oM (f d d')) fun z Γ => (storeG i (.frz z) Γ).map .nx) Γ1) D σ F1 H1 O1) h
    (fun d Γ1 v F1 H1 O1 k1 r1 s1 h1 => ⟨F1, O1, d, Γ1, k1, r1.1, r1.2, h1⟩)
  unfold mVar at h2
  have fin : ∀ v F1 O1 d Γ1, Ok X.K F1 H Γ1 σ O1 → Df X.K F1 v d → σ[i]? = some (some v) → HitS X.K W io (bS m (fun d' => bS (oM (f d d')) fun z Γ => (storeG i (.frz z) Γ).map .nx) Γ1) D σ F1 H O1 →
      t σ H fun y H1 => r v y H1 fun z H2 => D.nx (σ.set i (some z)) H2 := fun v F1 O1 d Γ1 k1 r1 e1 h1 => by
    refine s Γ1 σ F1 H O1 _ k1 ?_
    refine HitS.bindN h1 fun d' Γ2 w F2 H2 O2 k2 r2 s2 h3 => ?_
    cases q : f d d' with
    | none =>
      unfold bS oM at h3
      rw [q] at h3
      exact h3.elim
    | some z =>
      unfold bS oM at h3
      rw [q] at h3
      refine hf' d d' z q v w F2 H2 _ k2.sub (Df.mono s2.f _ _ r1) r2 fun zv F3 H3 g3 r3 => ?_
      have k3 := k2.grow g3
      have h4 := HitS.trans h3 (g3.step (O := O2)) Keeps.refl
      dsimp only [Option.map_some] at h4
      unfold storeG at h4
      split at h4
      · rename_i hl
        obtain ⟨O4, k4, s4⟩ := k3.put (v := zv) (t := .frz z) hl (repFrz r3) k3.nd (fun _ m => nomatch m)
        exact h4 _ F3 H3 O4 k4 s4 (Keeps.set hio)
      · exact h4.elim
  split at h2
  · rename_i d e1
    obtain ⟨v, e2, r1⟩ := k.frz e1
    obtain ⟨F1, O1, d', Γ1, k1, r1', e3, h3⟩ := h2 v F H O k ⟨r1, e2⟩ Step.refl
    exact ⟨v, e2, fin v F1 O1 d' Γ1 k1 r1' e2 h3⟩
  · rename_i t0 _ e1
    obtain ⟨v, o, O', e2, r1, k1, n, x', s1⟩ := k.take e1
    cases q : fz t0 with
    | none => rw [q] at h2; exact h2.elim
    | some d =>
      rw [q] at h2
      obtain ⟨F', k2, r2, s2⟩ := k1.ice r1 n x' q
      obtain ⟨O2, k3, s3⟩ := k2.back (t := .frz d) e2 (repFrz r2) k2.nd (fun _ m => nomatch m)
      rw [List.set_set] at k3
      obtain ⟨F1, O1, d', Γ1, k4, r4, e4, h4⟩ := h2 v F' H O2 k3 ⟨r2, e2⟩ ((s1.trans s2).trans s3)
      exact ⟨v, e2, fin v F1 O1 d' Γ1 k4 r4 e2 h4⟩
  · exact h2.elim
def iaddF : OpF
  | .int i, .int j => some (.int (i + j))
  | _, _ => none
theorem ia_add : ∃ r : R2, OpR X (inplaceOp .Add) r ∧ ∀ a b d, iaddF a b = some d → ∀ x y F H Q, Same F H → Df X.K F x a → Df X.K F y b → (∀ v F' H', Grow F H F' H' → Df X.K F' v d → Q v H') → r x y H Q := by
  refine ⟨_, iop_add, fun a b d e x y F H Q s ra rb q => ?_⟩
  unfold iaddF at e
  split at e
  · cases e
    cases ra
    cases rb
    exact ⟨_, _, rfl, rfl, q _ F H (Grow.refl s) (.int _)⟩
  · cases e

/-! ### while -/
def mWhile (c : M Bool) (b : MS) : Nat → MS
  | 0 => fun _ => none
  | n + 1 => bS c fun t => if t = true then (fun Γ => match b Γ with
      | some (.nx Γ') => mWhile c b n Γ'
      | some (.ct Γ') => mWhile c b n Γ'
      | some (.bk Γ') => some (.nx Γ')
      | r => r) else nS
theorem vs_while (n : Nat) {c : Expr} {body : List Stmt} {mc : M Bool} {b : MS} (hp : PassesOwn (model X.prog X.w) X.A X.env X.xe) (hc : VB X W c mc) (hb : VSs X W io body b) : VS X W io (.While c body [] pos) (mWhile mc b n) := by
  obtain ⟨tc, pc, sc⟩ := hc
  obtain ⟨tb, pb, sb⟩ := hb
  refine ⟨_, ps_while hp pc pb, fun Γ σ F H O D k h => ?_⟩
  refine ⟨fun m σ H => ∃ Γ F O, Ok X.K F H Γ σ O ∧ HitS X.K W io (mWhile mc b m Γ) D σ F H O, ⟨n, Γ, F, O, k, h⟩, ?_⟩
  rintro m σ H ⟨Γ, F, O, k, h⟩
  cases m with
  | zero => exact h.elim
  | succ m =>
    refine sc Γ σ F H O _ k ?_
    refine HitS.bindN h fun t Γ1 v F1 H1 O1 k1 r1 s1 h1 => ?_
    cases r1
    cases t with
    | false => exact iteF (h1 σ F1 H1 O1 k1 Step.refl Keeps.refl)
    | true =>
      refine iteT ⟨fun σ' H' => ∃ Γ F O, Ok X.K F H' Γ σ' O ∧ HitS X.K W io (mWhile mc b m Γ) D σ' F H' O, fun σ' H' q => ⟨m, Nat.lt_succ_self m, q⟩, sb Γ1 σ F1 H1 O1 _ k1 ?_⟩
      rw [if_pos rfl] at h1
      match r : b Γ1, h1 with
      | some (.nx Γ'), h1 => exact fun σ' F' H' O' k' s' g' => ⟨Γ', F', O', k', HitS.trans h1 s' g'⟩
      | some (.ct Γ'), h1 => exact fun σ' F' H' O' k' s' g' => ⟨Γ', F', O', k', HitS.trans h1 s' g'⟩
      | some (.bk Γ'), h1 => exact fun σ' F' H' O' k' s' g' => h1 σ' F' H' O' k' s' g'
      | some (.rt t Γ'), h1 => exact h1
      | some (.ex c Γ'), h1 => exact h1
end
end TW

namespace TW
open PySem PySem.Spec L2
/-! ### what is walked -/
def Walks (K : PySem.W.Frag) : Hp → Hp → List PyData → It → Prop := fun F _ ds J => ∀ i F1 H1, Same F F1 → Same F1 H1 →
  (∀ d, ds[i]? = some d → J.go i H1 ∧ ∀ x H2, J.yld i H1 x H2 → ∃ F2, Grow F1 H1 F2 H2 ∧ Df K F2 x d) ∧ (ds.length ≤ i → J.stop i H1)
def VI (X : Cx) (W : WX) (tg iter : Expr) (m : M (List PyData)) : Prop := ∃ wi, PI X tg iter wi ∧ ∀ Γ σ F H O R, Ok X.K F H Γ σ O → HitN X.K W (Walks X.K) (m Γ) σ F H O R → wi σ H R
section
variable {X : Cx} {W : WX} {io : List Nat} {pos : Pos} {tg e : Expr}
theorem walks_list {K : PySem.W.Frag} {F H : Hp} {a : Addr} {xs : List V} {ds : List PyData} (h : F a = some (.lst xs)) (r : DfAll K F xs ds) : Walks K F H ds (Itl K a) := fun i F1 H1 s1 s2 => by
  have q : SqL K H1 a xs := .inl (.inl (s2 _ _ (s1 _ _ h)))
  refine ⟨fun d e => ?_, fun e => ⟨xs, q, by rw [DfAll.length r]; exact e⟩⟩
  obtain ⟨v, e1, r1⟩ := DfAll.get r e
  refine ⟨⟨xs, v, q, e1⟩, fun x H2 y => ?_⟩
  obtain ⟨rfl, y⟩ := y
  have := y xs q
  rw [e1] at this
  cases this
  exact ⟨F1, Grow.refl s2, Df.mono s1 _ _ r1⟩
theorem walks_tup {K : PySem.W.Frag} {F H : Hp} {a : Addr} {xs : List V} {ds : List PyData} (h : SqT K F a xs) (r : DfAll K F xs ds) : Walks K F H ds (Itt K a) := fun i F1 H1 s1 s2 => by
  have q : SqT K H1 a xs := sqT_mono s2 (sqT_mono s1 h)
  refine ⟨fun d e => ?_, fun e => ⟨xs, q, by rw [DfAll.length r]; exact e⟩⟩
  obtain ⟨v, e1, r1⟩ := DfAll.get r e
  refine ⟨⟨xs, v, q, e1⟩, fun x H2 y => ?_⟩
  obtain ⟨rfl, y⟩ := y
  have := y xs q
  rw [e1] at this
  cases this
  exact ⟨F1, Grow.refl s2, Df.mono s1 _ _ r1⟩
def itemsF : PyData → Option (List PyData)
  | .list ds => some ds
  | .tuple ds => some ds
  | _ => none
def mIt (m : M PyData) : M (List PyData) := bM m fun d => oM (itemsF d)
theorem vi_seq {m : M PyData} (h : VD X W e m) : VI X W tg e (mIt m) := by
  obtain ⟨t, p, s⟩ := h
  refine ⟨fun σ H R => t σ H fun x H1 => ∃ a, x = .ref a ∧ (((∃ xs, SqL X.K H1 a xs) ∧ R (Itl X.K a) H1) ∨ ((∃ xs, SqT X.K H1 a xs) ∧ R (Itt X.K a) H1)), ⟨fun pins sh σ H R I h => ?_⟩, fun Γ σ F H O R k h => s Γ σ F H O _ k ?_⟩
  · -- both kinds at once: which it is, is known where the value has come
    have key : ∀ (x : V) (H1 : Hp) (v : Value) (s1 : Shared), Inv X pins σ H1 s1 → RelV x v → (∃ a, x = .ref a ∧ (((∃ xs, SqL X.K H1 a xs) ∧ R (Itl X.K a) H1) ∨ ((∃ xs, SqT X.K H1 a xs) ∧ R (Itt X.K a) H1))) →
        wpAny (model X.prog X.w) X.A (pyIter v) (PIE X pins σ tg R) X.xe s1 := by
      rintro x H1 v s1 I1 r1 ⟨a, rfl, ⟨⟨xs, hq⟩, q⟩ | ⟨⟨xs, hq⟩, q⟩⟩
      · cases r1
        obtain ⟨its, rv, p, hz⟩ := I1.list hq
        refine wpAny_pyIter_list p.isList ?_
        refine ⟨s1.heap.objs.size, [s1.heap.objs.size], _, _, H1, rfl, I1.kept (t' := s1.toks) fun b o e => Heap.get?_push_of_some _ e, turn_list a _, ⟨_, Heap.get?_push_size _ rfl, rfl, rfl⟩, fun b hb => ?_, q⟩
        have e : b = s1.heap.objs.size := by simpa using hb
        subst e
        exact I1.fpOk (Nat.le_refl _) (I1.hok.fresh (Nat.le_refl _))
      · cases r1
        obtain ⟨its, rv, p, hz⟩ := I1.tuple hq
        refine wpAny_pyIter_tuple (show s1.heap.IsTuple a its.toArray from p) ?_
        refine ⟨s1.heap.objs.size, [s1.heap.objs.size], _, _, H1, rfl, I1.kept (t' := s1.toks) fun b o e => Heap.get?_push_of_some _ e, turn_tuple a _, ⟨_, Heap.get?_push_size _ rfl, rfl, rfl⟩, fun b hb => ?_, q⟩
        have e : b = s1.heap.objs.size := by simpa using hb
        subst e
        exact I1.fpOk (Nat.le_refl _) (I1.hok.fresh (Nat.le_refl _))
    exact thn (p.run pins sh σ H _ I h) fun v s1 ⟨x, H1, I1, r1, q1⟩ => key x H1 v s1 I1 r1 q1
  · unfold mIt at h
    refine HitN.bind h fun d Γ1 v F1 H1 O1 k1 r s1 h1 => ?_
    unfold oM at h1
    cases d with
    | list ds =>
      cases r with
      | lst h2 h3 => exact ⟨_, rfl, .inl ⟨⟨_, .inl (.inl (k1.sub _ _ h2))⟩, h1 _ F1 H1 O1 k1 (walks_list h2 h3) Step.refl⟩⟩
    | tuple ds =>
      cases r with
      | tup h2 h3 => exact ⟨_, rfl, .inr ⟨⟨_, sqT_mono k1.sub h2⟩, h1 _ F1 H1 O1 k1 (walks_tup h2 h3) Step.refl⟩⟩
    | _ => exact h1.elim
def upto (lo : Int) (n : Nat) : List PyData := (List.range n).map fun (i : Nat) => .int (lo + (i : Int))
theorem walks_range {K : PySem.W.Frag} {F H : Hp} {lo : Int} {n : Nat} : Walks K F H (upto lo n) (Itr lo n) := fun i F1 H1 s1 s2 => by
  refine ⟨fun d e => ?_, fun e => ?_⟩
  · unfold upto at e
    rw [List.getElem?_map] at e
    by_cases hi : i < n
    · rw [List.getElem?_range hi] at e
      cases e
      refine ⟨hi, fun x H2 y => ?_⟩
      obtain ⟨rfl, rfl⟩ := y
      exact ⟨F1, Grow.refl s2, .int _⟩
    · rw [List.getElem?_eq_none (by rw [List.length_range]; omega)] at e
      cases e
  · unfold upto at e
    rw [List.length_map, List.length_range] at e
    exact e
def rng1F : List PyData → Option (List PyData)
  | [.int j] => if -(2 ^ 62) ≤ j ∧ j < 2 ^ 62 then some (upto 0 j.toNat) else none
  | _ => none
def rng2F : List PyData → Option (List PyData)
  | [.int i, .int j] => if -(2 ^ 62) ≤ i ∧ i < 2 ^ 62 ∧ -(2 ^ 62) ≤ j ∧ j < 2 ^ 62 then some (upto i (j - i).toNat) else none
  | _ => none
def mRng1 (m : M (List PyData)) : M (List PyData) := bM m fun ds => oM (rng1F ds)
def mRng2 (m : M (List PyData)) : M (List PyData) := bM m fun ds => oM (rng2F ds)
theorem vi_range1 {a : Expr} {p : Pos} {m : M (List PyData)} (hm : X.mg "range" = none) (h : VDs X W [a] m) (hg : Gl X "range" := by rfl) (hs : starEach [a] X.env = [(false, eval a X.env)] := by rfl) : VI X W tg (.Call (.Name "range" p) [a] [] pos) (mRng1 m) := by
  obtain ⟨t, pa, s⟩ := h
  refine ⟨_, pi_range1 hg hm pa hs, fun Γ σ F H O R k h => s Γ σ F H O _ k ?_⟩
  unfold mRng1 at h
  refine HitN.bind h fun ds Γ1 vs F1 H1 O1 k1 r s1 h1 => ?_
  unfold oM rng1F at h1
  split at h1
  · cases r with
    | cons r1 r =>
      cases r1
      cases r
      split at h1
      · rename_i hj
        exact ⟨_, rfl, hj.1, hj.2, h1 _ F1 H1 O1 k1 walks_range Step.refl⟩
      · exact h1.elim
  · exact h1.elim
theorem vi_range2 {a b : Expr} {p : Pos} {m : M (List PyData)} (hm : X.mg "range" = none) (h : VDs X W [a, b] m) (hg : Gl X "range" := by rfl) (hs : starEach [a, b] X.env = [(false, eval a X.env), (false, eval b X.env)] := by rfl) (hs2 : starEach [b] X.env = [(false, eval b X.env)] := by rfl) : VI X W tg (.Call (.Name "range" p) [a, b] [] pos) (mRng2 m) := by
  obtain ⟨t, pa, s⟩ := h
  refine ⟨_, pi_range2 hg hm pa hs hs2, fun Γ σ F H O R k h => s Γ σ F H O _ k ?_⟩
  unfold mRng2 at h
  refine HitN.bind h fun ds Γ1 vs F1 H1 O1 k1 r s1 h1 => ?_
  unfold oM rng2F at h1
  split at h1
  · cases r with
    | cons r1 r =>
      cases r with
      | cons r2 r =>
        cases r1
        cases r2
        cases r
        split at h1
        · rename_i hj
          exact ⟨_, _, rfl, hj, h1 _ F1 H1 O1 k1 walks_range Step.refl⟩
        · exact h1.elim
  · exact h1.elim

/-! ### for -/
def loopS (g : MG) (b : MS) : List PyData → MS
  | [] => nS
  | d :: ds => fun Γ => match g d Γ with
    | none => none
    | some Γ1 => match b Γ1 with
      | some (.nx Γ2) => loopS g b ds Γ2
      | some (.ct Γ2) => loopS g b ds Γ2
      | some (.bk Γ2) => some (.nx Γ2)
      | r => r
def mFor (mi : M (List PyData)) (g : MG) (b : MS) : MS := bS mi (loopS g b)
theorem vs_for {iter : Expr} {body : List Stmt} {mi : M (List PyData)} {g : MG} {b : MS} (hp : PassesOwn (model X.prog X.w) X.A X.env X.xe) (hc : X.calm = true) (hi : VI X W tg iter mi) (hg : VG X io tg g) (hb : VSs X W io body b)
    (hs : ∀ x, foldedSetIterable iter X.env x = pure x := by intro _; rfl) : VS X W io (.For tg iter body [] pos) (mFor mi g b) := by
  obtain ⟨wi, pi, si⟩ := hi
  obtain ⟨tg', pg, sg⟩ := hg
  obtain ⟨tb, pb, sb⟩ := hb
  refine ⟨_, ps_for hp hc pi pg pb hs, fun Γ σ F H O D k h => si Γ σ F H O _ k ?_⟩
  unfold mFor at h
  refine HitS.bindN h fun ds Γ1 J F1 H1 O1 k1 w1 s1 h1 => ?_
  refine ⟨fun i m σ' H' => m = ds.length - i ∧ i ≤ ds.length ∧ ∃ Γ' F' O', Ok X.K F' H' Γ' σ' O' ∧ Same F1 F' ∧ HitS X.K W io (loopS g b (ds.drop i) Γ') D σ' F' H' O', ⟨ds.length, by simp, Nat.zero_le _, Γ1, F1, O1, k1, Same.refl _, h1⟩, ?_⟩
  rintro i m σ2 H2 ⟨rfl, hi, Γ2, F2, O2, k2, s2, h2⟩
  obtain ⟨wgo, wstop⟩ := w1 i F2 H2 s2 k2.sub
  by_cases hlt : i < ds.length
  · have e : ds[i]? = some ds[i] := List.getElem?_eq_getElem hlt
    have ed : ds.drop i = ds[i] :: ds.drop (i + 1) := List.drop_eq_getElem_cons hlt
    obtain ⟨go, yl⟩ := wgo _ e
    refine .inr ⟨go, fun σ' H' => i + 1 ≤ ds.length ∧ ∃ Γ' F' O', Ok X.K F' H' Γ' σ' O' ∧ Same F1 F' ∧ HitS X.K W io (loopS g b (ds.drop (i + 1)) Γ') D σ' F' H' O', fun σ' H' q => ⟨ds.length - (i + 1), by omega, rfl, q.1, q.2⟩, fun x H3 y => ?_⟩
    obtain ⟨F3, g3, r3⟩ := yl x H3 y
    have k3 := k2.grow g3
    have h3 := HitS.trans h2 (g3.step (O := O2)) Keeps.refl
    rw [ed] at h3
    unfold loopS at h3
    cases q : g ds[i] Γ2 with
    | none => rw [q] at h3; exact h3.elim
    | some Γ3 =>
      rw [q] at h3
      refine sg ds[i] x Γ2 Γ3 σ2 F3 H3 O2 _ k3 r3 q fun σ4 O4 k4 s4 g4 => sb Γ3 σ4 F3 H3 O4 _ k4 ?_
      have h4 := HitS.trans h3 s4 g4
      dsimp only at h4
      have s13 : Same F1 F3 := s2.trans g3.f
      match r : b Γ3, h4 with
      | some (.nx Γ'), h4 => exact fun σ' F' H' O' k' s' g' => ⟨hlt, Γ', F', O', k', s13.trans s'.f, HitS.trans h4 s' g'⟩
      | some (.ct Γ'), h4 => exact fun σ' F' H' O' k' s' g' => ⟨hlt, Γ', F', O', k', s13.trans s'.f, HitS.trans h4 s' g'⟩
      | some (.bk Γ'), h4 => exact fun σ' F' H' O' k' s' g' => h4 σ' F' H' O' k' s' g'
      | some (.rt t Γ'), h4 => exact h4
      | some (.ex c Γ'), h4 => exact h4
  · have e : i = ds.length := by omega
    subst e
    refine .inl ⟨wstop (Nat.le_refl _), ?_⟩
    rw [List.drop_length] at h2
    exact h2 σ2 F2 H2 O2 k2 Step.refl Keeps.refl
end

/-! ### calls of defs -/
inductive CR where
  | ret (t : T) (outs : G)
  | exc (c : Str)
abbrev MF := List T → Option CR
def spM (n : Nat) (K : PySem.W.Frag) (mf : MF) : Sp := fun vs H Q E => ∃ F ts O, vs.length = n ∧ Same F H ∧ RepTs K F H ts vs O ∧ O.Nodup ∧ (∀ a ∈ O, F a = none) ∧ match mf ts with
  | none => False
  | some (.ret t outs) => ∀ v F' H' O' o, Same F' H' → RepG K F' H' outs (vs.map some) O' → RepT K F' H' t v o → (o ++ O').Nodup → (∀ a ∈ o ++ O', F' a = none) → Step F H O F' H' (o ++ O') → Q v H'
  | some (.exc c) => ∀ F' H', Same F' H' → Step F H O F' H' [] → E (.ref (He.ga K c)) none H'
inductive Ar where
  | d (m : M PyData)
  | own (i : Nat)
  | cp (i : Nat)
/-- the script, handed on -/
def mCopy (i : Nat) : M T := fun Γ => match Γ[i]? with
  | some (some (.scr ns)) => some (.ok (.scr ns) Γ)
  | _ => none
def mArgs : List Ar → M (List T)
  | [] => pM []
  | .d m :: r => bM m fun d => bM (mArgs r) fun ts => pM (.frz d :: ts)
  | .own i :: r => bM (mMove i) fun t => bM (mArgs r) fun ts => pM (t :: ts)
  | .cp i :: r => bM (mCopy i) fun t => bM (mArgs r) fun ts => pM (t :: ts)
def OwnAt (σ : St) : List Ar → List V → Prop
  | [], vs => vs = []
  | .d _ :: r, vs => ∃ v ws, vs = v :: ws ∧ OwnAt σ r ws
  | .own i :: r, vs => ∃ v ws, vs = v :: ws ∧ σ[i]? = some (some v) ∧ OwnAt σ r ws
  | .cp _ :: r, vs => ∃ v ws, vs = v :: ws ∧ OwnAt σ r ws
theorem OwnAt.length {σ : St} : ∀ {as : List Ar} {vs : List V}, OwnAt σ as vs → vs.length = as.length
  | [], _, h => by rw [show _ = [] from h] <;> rfl
  | .d _ :: r, _, h => by
    obtain ⟨v, ws, rfl, h⟩ := h
    exact congrArg Nat.succ (OwnAt.length h)
  | .own i :: r, _, h => by
    obtain ⟨v, ws, rfl, _, h⟩ := h
    exact congrArg Nat.succ (OwnAt.length h)
  | .cp _ :: r, _, h => by
    obtain ⟨v, ws, rfl, h⟩ := h
    exact congrArg Nat.succ (OwnAt.length h)
def VA (X : Cx) (W : WX) (es : List Expr) (as : List Ar) : Prop := ∃ t, PA X es t ∧ ∀ Γ σ F H O Q, Ok X.K F H Γ σ O → HitT X.K W (fun F H ts vs o => RepTs X.K F H ts vs o ∧ OwnAt σ as vs) (mArgs as Γ) σ F H O Q → t σ H Q
section
variable {X : Cx} {W : WX} {io : List Nat} {pos : Pos} {e : Expr} {es : List Expr} {as : List Ar}
theorem va_nil : VA X W [] [] := ⟨_, pa_nil, fun Γ σ F H O Q k h => h [] F H O [] k ⟨by unfold RepTs; exact ⟨rfl, rfl⟩, rfl⟩ k.nd (fun _ m => nomatch m) Step.refl⟩
theorem va_d {m : M PyData} (he : VD X W e m) (hs : VA X W es as) (hst : starEach (e :: es) X.env = (false, eval e X.env) :: starEach es X.env := by rfl) : VA X W (e :: es) (.d m :: as) := by
  obtain ⟨te, pe, se⟩ := he
  obtain ⟨ts, ps, ss⟩ := hs
  refine ⟨_, pa_cons pe ps hst, fun Γ σ F H O Q k h => se Γ σ F H O _ k ?_⟩
  unfold mArgs at h
  refine HitT.bindN h fun d Γ1 v F1 H1 O1 k1 r1 s1 h1 => ss Γ1 σ F1 H1 O1 _ k1 ?_
  refine HitT.bindT h1 fun ts Γ2 vs F2 H2 O2 o2 k2 r2 n2 x2 s2 h2 => ?_
  exact h2 (v :: vs) F2 H2 O2 o2 k2 ⟨by unfold RepTs; exact ⟨v, vs, [], o2, rfl, repFrz (Df.mono s2.f _ _ r1), r2.1, rfl⟩, v, vs, rfl, r2.2⟩ n2 x2 Step.refl
theorem va_own (i : Nat) {x : Str} {p : Pos} (hs : VA X W es as) (hN : X.N[i]? = some x := by rfl) (hv : Vis X.env.scope x := by first | exact Or.inl rfl | exact Or.inr (Or.inl rfl) | exact Or.inr (Or.inr rfl)) (hd : (x == ("__debug__" : Str)) = false := by decide)
    (hcd : (x == ("__classdict__" : Str)) = false := by decide) (hst : starEach (Expr.Name x p :: es) X.env = (false, eval (Expr.Name x p) X.env) :: starEach es X.env := by rfl) : VA X W (.Name x p :: es) (.own i :: as) := by
  obtain ⟨ts, ps, ss⟩ := hs
  refine ⟨_, pa_cons (pe_var hN hv hd hcd) ps hst, fun Γ σ F H O Q k h => ?_⟩
  unfold mArgs bM mMove at h
  dsimp only at h
  split at h
  · exact h.elim
  · rename_i q
    split at q <;> cases q
  · rename_i t0 Γ0 q
    split at q
    · rename_i t e
      cases q
      obtain ⟨v, o, O', e1, r, k1, n, x, s⟩ := k.take e
      refine ⟨v, e1, ss (Γ.set i none) σ F H O' _ k1 ?_⟩
      have h1 := HitT.trans h s
      -- o is held meanwhile
      have lo := RepT.live _ _ _ r
      have dj : ∀ a ∈ o, a ∉ O' := fun a m q => (List.nodup_append.mp n).2.2 a m a q rfl
      match q : mArgs as (Γ.set i none), h1 with
      | some (.ok ts Γ2), h1 =>
        intro vs F2 H2 O2 o2 k2 r2 n2 x2 s2
        have on := s2.on lo dj
        have ap := s2.apart lo dj
        refine h1 (v :: vs) F2 H2 O2 (o ++ o2) k2 ⟨?_, v, vs, rfl, e1, r2.2⟩ ?_ ?_ ?_
        · unfold RepTs
          exact ⟨v, vs, o, o2, rfl, RepT.mono s2.f _ _ _ r on, r2.1, rfl⟩
        · rw [List.append_assoc]
          exact List.nodup_append.mpr ⟨(List.nodup_append.mp n).1, n2, fun a m b m' q => ap a m (by rw [q]; exact m')⟩
        · intro a m
          rcases List.mem_append.mp m with m | m
          · exact s2.out lo dj x a m
          · exact x2 a m
        · rw [List.append_assoc]
          exact s2.hold
      | some (.ex c Γ2), h1 => exact fun F2 H2 O2 k2 s2 => h1 F2 H2 O2 k2 ((s2.hold (o := o)).less fun a m => List.mem_append_right _ m)
    · cases q
theorem va_cp (i : Nat) {x : Str} {p : Pos} (hs : VA X W es as) (hN : X.N[i]? = some x := by rfl) (hv : Vis X.env.scope x := by first | exact Or.inl rfl | exact Or.inr (Or.inl rfl) | exact Or.inr (Or.inr rfl)) (hd : (x == ("__debug__" : Str)) = false := by decide)
    (hcd : (x == ("__classdict__" : Str)) = false := by decide) (hst : starEach (Expr.Name x p :: es) X.env = (false, eval (Expr.Name x p) X.env) :: starEach es X.env := by rfl) : VA X W (.Name x p :: es) (.cp i :: as) := by
  obtain ⟨ts, ps, ss⟩ := hs
  refine ⟨_, pa_cons (pe_var hN hv hd hcd) ps hst, fun Γ σ F H O Q k h => ?_⟩
  unfold mArgs bM mCopy at h
  dsimp only at h
  split at h
  · exact h.elim
  · rename_i q
    split at q <;> cases q
  · rename_i t0 Γ0 q
    split at q
    · rename_i ns e
      cases q
      obtain ⟨v, o, O', e1, r, k1, n, x, s⟩ := k.take e
      have r' := r
      unfold RepT at r'
      obtain ⟨_, rfl⟩ := r'
      refine ⟨v, e1, ss Γ σ F H O _ k ?_⟩
      refine HitT.bindT h fun ts Γ2 vs F2 H2 O2 o2 k2 r2 n2 x2 s2 h2 => ?_
      exact h2 (v :: vs) F2 H2 O2 o2 k2 ⟨by unfold RepTs; exact ⟨v, vs, [], o2, rfl, RepT.mono s2.f _ _ _ r (fun _ m => nomatch m), r2.1, rfl⟩, v, vs, rfl, r2.2⟩ n2 x2 Step.refl
    · cases q
def restore : List Ar → G → G → G
  | .own i :: as, some t :: os, Γ => restore as os (Γ.set i (some t))
  | .own _ :: as, none :: os, Γ => restore as os Γ
  | .d _ :: as, _ :: os, Γ => restore as os Γ
  | .cp _ :: as, _ :: os, Γ => restore as os Γ
  | _, _, Γ => Γ
def mCall (mf : MF) (as : List Ar) : M T := bM (mArgs as) fun ts Γ => match mf ts with
  | none => none
  | some (.ret t outs) => some (.ok t (restore as outs Γ))
  | some (.exc c) => some (.ex c Γ)
theorem restore_ok {K : PySem.W.Frag} {F H : Hp} {σ : St} : ∀ {as : List Ar} {outs : G} {vs : List V} {Γ : G} {O O' : List Addr}, Ok K F H Γ σ O → RepG K F H outs (vs.map some) O' → OwnAt σ as vs → (O' ++ O).Nodup → (∀ a ∈ O', F a = none) →
    ∃ O2, Ok K F H (restore as outs Γ) σ O2 ∧ ∀ a ∈ O2, a ∈ O' ++ O
  | [], outs, vs, Γ, O, O', k, r, w, n, x => by
    refine ⟨O, ?_, fun a m => List.mem_append_right _ m⟩
    unfold restore
    exact k
  | .d m :: as, [], vs, Γ, O, O', k, r, w, n, x => ⟨O, by unfold restore; exact k, fun a m => List.mem_append_right _ m⟩
  | .cp m :: as, [], vs, Γ, O, O', k, r, w, n, x => ⟨O, by unfold restore; exact k, fun a m => List.mem_append_right _ m⟩
  | .own i :: as, [], vs, Γ, O, O', k, r, w, n, x => ⟨O, by unfold restore; exact k, fun a m => List.mem_append_right _ m⟩
  | .d m :: as, none :: os, vs, Γ, O, O', k, r, w, n, x => by
    obtain ⟨v, ws, rfl, w⟩ := w
    obtain ⟨y, r', e, r⟩ := r
    cases e
    unfold restore
    exact restore_ok k r w n x
  | .d m :: as, some t :: os, vs, Γ, O, O', k, r, w, n, x => by
    obtain ⟨v, ws, rfl, w⟩ := w
    obtain ⟨v', r', o1, o2, e, r1, r2, rfl⟩ := r
    cases e
    unfold restore
    obtain ⟨O2, k2, m2⟩ := restore_ok k r2 w (n.sublist (List.Sublist.append_right (List.sublist_append_right _ _) _)) fun a m => x a (List.mem_append_right _ m)
    refine ⟨O2, k2, fun a m => ?_⟩
    rcases List.mem_append.mp (m2 a m) with z | z
    · exact List.mem_append_left _ (List.mem_append_right _ z)
    · exact List.mem_append_right _ z
  | .cp m :: as, none :: os, vs, Γ, O, O', k, r, w, n, x => by
    obtain ⟨v, ws, rfl, w⟩ := w
    obtain ⟨y, r', e, r⟩ := r
    cases e
    unfold restore
    exact restore_ok k r w n x
  | .cp m :: as, some t :: os, vs, Γ, O, O', k, r, w, n, x => by
    obtain ⟨v, ws, rfl, w⟩ := w
    obtain ⟨v', r', o1, o2, e, r1, r2, rfl⟩ := r
    cases e
    unfold restore
    obtain ⟨O2, k2, m2⟩ := restore_ok k r2 w (n.sublist (List.Sublist.append_right (List.sublist_append_right _ _) _)) fun a m => x a (List.mem_append_right _ m)
    refine ⟨O2, k2, fun a m => ?_⟩
    rcases List.mem_append.mp (m2 a m) with z | z
    · exact List.mem_append_left _ (List.mem_append_right _ z)
    · exact List.mem_append_right _ z
  | .own i :: as, none :: os, vs, Γ, O, O', k, r, w, n, x => by
    obtain ⟨v, ws, rfl, e1, w⟩ := w
    obtain ⟨y, r', e, r⟩ := r
    cases e
    unfold restore
    exact restore_ok k r w n x
  | .own i :: as, some t :: os, vs, Γ, O, O', k, r, w, n, x => by
    obtain ⟨v, ws, rfl, e1, w⟩ := w
    obtain ⟨v', r', o1, o2, e, r1, r2, rfl⟩ := r
    cases e
    unfold restore
    have n1 : (o1 ++ O).Nodup := n.sublist (List.Sublist.append_right (List.sublist_append_left _ _) _)
    obtain ⟨O1, k1, s1⟩ := k.back (t := t) e1 r1 n1 fun a m => x a (List.mem_append_left _ m)
    have s1 : ∀ a ∈ O1, a ∈ o1 ++ O := fun a m => (s1.own a m).elim id fun z => absurd z (RepG.live k1.rep a m)
    obtain ⟨O2, k2, m2⟩ := restore_ok k1 r2 w (by
      refine List.nodup_append.mpr ⟨(List.nodup_append.mp (List.nodup_append.mp n).1).2.1, k1.nd, fun a ha b hb q => ?_⟩
      subst q
      rcases List.mem_append.mp (s1 a hb) with z | z
      · exact (List.nodup_append.mp (List.nodup_append.mp n).1).2.2 a z a ha rfl
      · exact (List.nodup_append.mp n).2.2 a (List.mem_append_right _ ha) a z rfl) fun a m => x a (List.mem_append_right _ m)
    refine ⟨O2, k2, fun a m => ?_⟩
    rcases List.mem_append.mp (m2 a m) with z | z
    · exact List.mem_append_left _ (List.mem_append_right _ z)
    · rcases List.mem_append.mp (s1 a z) with z | z
      · exact List.mem_append_left _ (List.mem_append_left _ z)
      · exact List.mem_append_right _ z
theorem vt_call {n k : Nat} {f : Addr} {fd : FuncData} {ps : List Str} {x : Str} {p : Pos} {mf : MF} (Fn : FnOk X.prog X.w X.K X.mg X.base (L2.CX X.prog X.w) k f fd ps (spM n X.K mf)) (hr : Room k X.A) (hm : X.mg x = some (.ref f)) (hk : PySem.W.keepIn X.K (.ref f) = true) (hb : Binds X.K fd ps [])
    (tk : Takes X W) (ha : VA X W (e :: es) as) (hn : (e :: es).length = n := by rfl) (hn2 : as.length = n := by rfl) (hg : Gl X x := by rfl) (hdb : (x == ("__debug__" : Str)) = false := by decide) (he : starEach (e :: es) X.env = (false, eval e X.env) :: starEach es X.env := by rfl) (hpl : (backTo pos (starEach es X.env)).any (·.1) = false := by rfl) :
    VT X W (.Call (.Name x p) (e :: es) [] pos) (mCall mf as) := by
  obtain ⟨t, pa, s⟩ := ha
  refine ⟨_, pe_callS Fn hr hg hm hk hb (fun σ => passAt tk σ) pa hdb he hpl, fun Γ σ F H O Q k h => s Γ σ F H O _ k ?_⟩
  unfold mCall at h
  refine HitT.bindT h fun ts Γ1 vs F1 H1 O1 o k1 r n1 x1 s1 h1 => ?_
  obtain ⟨r, w⟩ := r
  have lo := RepTs.live _ _ _ r
  have dj : ∀ a ∈ O1, a ∉ o := fun a m q => (List.nodup_append.mp n1).2.2 a q a m rfl
  have lO := RepG.live k1.rep
  have hl : vs.length = n := by
    rw [OwnAt.length w, hn2]
  refine ⟨F1, ts, o, hl, k1.sub, r, (List.nodup_append.mp n1).1, x1, ?_⟩
  cases q : mf ts with
  | none => rw [q] at h1; exact h1
  | some c =>
    rw [q] at h1
    cases c with
    | ret t outs =>
      intro v F' H' O' o' sub ro rt n' x' st
      have on : On O1 H1 H' := st.on lO dj
      have ap := st.apart lO dj
      have k2 : Ok X.K F' H' Γ1 σ O1 := ⟨sub, RepG.mono st.f k1.rep on, k1.nd, st.out lO dj k1.out⟩
      obtain ⟨O2, k3, m3⟩ := restore_ok k2 ro w (by
        refine List.nodup_append.mpr ⟨(List.nodup_append.mp n').2.1, k1.nd, fun a ha b hb q => ?_⟩
        subst q
        exact ap a hb (List.mem_append_right _ ha)) fun a m => x' a (List.mem_append_right _ m)
      refine h1 v F' H' O2 o' k3 rt ?_ (fun a m => x' a (List.mem_append_left _ m)) ?_
      · refine List.nodup_append.mpr ⟨(List.nodup_append.mp n').1, k3.nd, fun a ha b hb q => ?_⟩
        subst q
        rcases List.mem_append.mp (m3 a hb) with z | z
        · exact (List.nodup_append.mp n').2.2 a ha a z rfl
        · exact ap a z (List.mem_append_left _ ha)
      · have st2 : Step F1 H1 (O1 ++ o) F' H' (O1 ++ (o' ++ O')) := st.hold
        refine (st2.more fun a m => ?_).less fun a m => ?_
        · rcases List.mem_append.mp m with z | z
          · exact List.mem_append_right _ z
          · exact List.mem_append_left _ z
        · rcases List.mem_append.mp m with z | z
          · exact List.mem_append_right _ (List.mem_append_left _ z)
          · rcases List.mem_append.mp (m3 a z) with z | z
            · exact List.mem_append_right _ (List.mem_append_right _ z)
            · exact List.mem_append_left _ z
    | exc c =>
      intro F' H' sub st
      have on : On O1 H1 H' := st.on lO dj
      have k2 : Ok X.K F' H' Γ1 σ O1 := ⟨sub, RepG.mono st.f k1.rep on, k1.nd, st.out lO dj k1.out⟩
      have st2 : Step F1 H1 (O1 ++ o) F' H' (O1 ++ []) := st.hold
      rw [List.append_nil] at st2
      refine h1 F' H' O1 k2 (st2.more fun a m => ?_)
      rcases List.mem_append.mp m with z | z
      · exact List.mem_append_right _ z
      · exact List.mem_append_left _ z
end
end TW

namespace TW
open PySem PySem.Spec L2
open PyProof.Rows (envOfC)
/-! ### a def keeps its promise -/
def maskG (io : List Nat) : Nat → Nat → G → G
  | _, 0, _ => []
  | j, n + 1, [] => none :: maskG io (j + 1) n []
  | j, n + 1, x :: Γ => (if j ∈ io then x else none) :: maskG io (j + 1) n Γ
def mfOf (n N : Nat) (io : List Nat) (mb : MS) : MF := fun ts => if ts.length = n then match mb (ts.map some ++ List.replicate (N - n) none) with
  | some (.rt t Γ) => some (.ret t (maskG io 0 n Γ))
  | some (.nx Γ) => some (.ret (.frz .none) (maskG io 0 n Γ))
  | some (.ex c Γ) => some (.exc c)
  | _ => none
  else none
theorem mask_ok {K : PySem.W.Frag} {F H : Hp} {io : List Nat} : ∀ {Γ : G} {σ : St} {O : List Addr} {vs : List V} {j : Nat}, RepG K F H Γ σ O → O.Nodup → vs.length ≤ σ.length → (∀ i (v : V), vs[i]? = some v → j + i ∈ io → σ[i]? = some (some v)) →
    ∃ O2, RepG K F H (maskG io j vs.length Γ) (vs.map some) O2 ∧ O2.Nodup ∧ ∀ a ∈ O2, a ∈ O
  | Γ, σ, O, [], j, h, n, l, e => ⟨[], ⟨rfl, rfl⟩, List.nodup_nil, fun a m => nomatch m⟩
  | [], σ, O, v :: vs, j, h, n, l, e => by
    rw [h.1] at l
    exact absurd l (by simp)
  | none :: Γ, _, O, v :: vs, j, h, n, l, e => by
    obtain ⟨x, r, rfl, h⟩ := h
    obtain ⟨O2, h1, h2, h3⟩ := mask_ok (j := j + 1) (vs := vs) h n (by simpa using l) fun i v' q m => by
      have := e (i + 1) v' (by simpa using q) (by rw [show j + (i + 1) = j + 1 + i by omega]; exact m)
      simpa using this
    refine ⟨O2, ?_, h2, h3⟩
    show RepG K F H ((if j ∈ io then (none : Option T) else none) :: maskG io (j + 1) vs.length Γ) (some v :: vs.map some) O2
    rw [show (if j ∈ io then (none : Option T) else none) = none by split <;> rfl]
    exact ⟨some v, _, rfl, h1⟩
  | some t :: Γ, _, O, v :: vs, j, h, n, l, e => by
    obtain ⟨v', r, o1, o2, rfl, r1, h, rfl⟩ := h
    obtain ⟨O2, h1, h2, h3⟩ := mask_ok (j := j + 1) (vs := vs) h (List.nodup_append.mp n).2.1 (by simpa using l) fun i v' q m => by
      have := e (i + 1) v' (by simpa using q) (by rw [show j + (i + 1) = j + 1 + i by omega]; exact m)
      simpa using this
    show ∃ O2, RepG K F H ((if j ∈ io then some t else none) :: maskG io (j + 1) vs.length Γ) (some v :: vs.map some) O2 ∧ O2.Nodup ∧ ∀ a ∈ O2, a ∈ o1 ++ o2
    by_cases q : j ∈ io
    · rw [if_pos q]
      have e0 := e 0 v rfl q
      cases (show some (some v') = some (some v) from e0)
      refine ⟨o1 ++ O2, ⟨v, _, o1, O2, rfl, r1, h1, rfl⟩, List.nodup_append.mpr ⟨(List.nodup_append.mp n).1, h2, fun a ha b hb => (List.nodup_append.mp n).2.2 a ha b (h3 b hb)⟩, fun a m => ?_⟩
      rcases List.mem_append.mp m with m | m
      · exact List.mem_append_left _ m
      · exact List.mem_append_right _ (h3 a m)
    · rw [if_neg q]
      exact ⟨O2, ⟨some v, _, rfl, h1⟩, h2, fun a m => List.mem_append_right _ (h3 a m)⟩
theorem rep_start {K : PySem.W.Frag} {F H : Hp} : ∀ {ts : List T} {vs : List V} {O : List Addr} (k : Nat), RepTs K F H ts vs O → RepG K F H (ts.map some ++ List.replicate k none) (vs.map some ++ List.replicate k none) O
  | [], _, _, k, h => by
    unfold RepTs at h
    obtain ⟨rfl, rfl⟩ := h
    show RepG K F H (List.replicate k none) (List.replicate k none) []
    induction k with
    | zero => exact ⟨rfl, rfl⟩
    | succ k ih => exact ⟨none, _, rfl, ih⟩
  | t :: ts, _, _, k, h => by
    unfold RepTs at h
    obtain ⟨v, r, o1, o2, rfl, h1, h2, rfl⟩ := h
    exact ⟨v, _, o1, o2, rfl, h1, rep_start k h2, rfl⟩
theorem takes_cx {P : Program} {w : World} {K : PySem.W.Frag} {mg : Str → Option Value} {base : Heap} {N : List Str} {qual : Str} {scope : Scope} {f : Addr} {cdv : Value} {A : Around} {outer : List Env} {s : Shared} {H : Hp} {E : XK} :
    Takes (cxOf (L2.CX P w) P w K mg base N qual scope f cdv A outer s H E) (fun cls d _ H => E cls d H) := takes_of rfl rfl rfl rfl
theorem own_cx {P : Program} {w : World} {K : PySem.W.Frag} {mg : Str → Option Value} {base : Heap} {N : List Str} {qual : Str} {scope : Scope} {f : Addr} {cdv : Value} {A : Around} {outer : List Env} {s : Shared} {H : Hp} {E : XK} :
    PassesOwn (model P w) (A.deeper (envOfC qual scope s.heap.objs.size f cdv)) (envOfC qual scope s.heap.objs.size f cdv) (cxOf (L2.CX P w) P w K mg base N qual scope f cdv A outer s H E).xe := passes_of (X := cxOf (L2.CX P w) P w K mg base N qual scope f cdv A outer s H E) rfl
theorem fn_ok {P : Program} {w : World} {K : PySem.W.Frag} {mg : Str → Option Value} {base : Heap} {x qual : Str} {params : Arguments} {body : List Stmt} {scope : Scope} {f : Addr} {fd : FuncData} {N ps : List Str} {k : Nat} {mb : MS} (io : List Nat)
    (Fd : FunD K x qual params body scope [] [] f fd) (S : FnScope N ps scope) (hN : ps.length ≤ N.length)
    (hbody : ∀ (cdv : Value) (A : Around) (outer : List Env) (s : Shared) (H : Hp) (E : XK), Room k (A.deeper (envOfC qual scope s.heap.objs.size f cdv)) →
      VSs (cxOf (L2.CX P w) P w K mg base N qual scope f cdv A outer s H E) (fun cls d _ H => E cls d H) io body mb) :
    FnOk P w K mg base (L2.CX P w) (k + 1) f fd ps (spM ps.length K (mfOf ps.length N.length io mb)) := by
  refine Fd.ok S (fun vs H Q E h => ?_) (fun cdv A outer s H vs Q E hr h => ?_)
  · obtain ⟨_, _, _, e, _⟩ := h
    exact e
  · obtain ⟨F, ts, O, hl, sub, r, nd, x, h⟩ := h
    obtain ⟨t, p, z⟩ := hbody cdv A outer s H E hr
    refine ⟨t, p, ?_⟩
    have hts : ts.length = ps.length := (RepTs.length r).symm.trans hl
    unfold mfOf at h
    rw [if_pos hts] at h
    have r0 := rep_start (K := K) (F := F) (H := H) (N.length - ps.length) r
    rw [show vs.map some ++ List.replicate (N.length - ps.length) none = L2.start N vs by unfold L2.start; rw [hl]] at r0
    refine z _ (L2.start N vs) F H O _ ⟨sub, r0, nd, x⟩ ?_
    have outs : ∀ {Γ' : G} {σ' : St} {F' H' : Hp} {O' : List Addr}, Ok K F' H' Γ' σ' O' → Keeps io (L2.start N vs) σ' → ∃ O2, RepG K F' H' (maskG io 0 ps.length Γ') (vs.map some) O2 ∧ O2.Nodup ∧ ∀ a ∈ O2, a ∈ O' := fun {Γ' σ' F' H' O'} k' kp => by
      have hle : vs.length ≤ σ'.length := by
        rw [kp.1]
        unfold L2.start
        rw [List.length_append, List.length_map]
        omega
      rw [← hl]
      refine mask_ok (j := 0) k'.rep k'.nd hle fun i v e m => ?_
      rw [kp.2 i (by simpa using m)]
      unfold L2.start
      have hi : i < vs.length := (List.getElem?_eq_some_iff.mp e).1
      rw [List.getElem?_append_left (by rw [List.length_map]; exact hi), List.getElem?_map, e]
      rfl
    match q : mb (ts.map some ++ List.replicate (N.length - ps.length) none), h with
    | some (.rt t' Γ'), h =>
      intro v σ' F' H' O' o k' rt n' x' st kp
      obtain ⟨O2, r2, n2, m2⟩ := outs k' kp
      refine h v F' H' O2 o k'.sub r2 rt ?_ (fun a m => ?_) (st.less fun a m => ?_)
      · exact List.nodup_append.mpr ⟨(List.nodup_append.mp n').1, n2, fun a ha b hb => (List.nodup_append.mp n').2.2 a ha b (m2 b hb)⟩
      · rcases List.mem_append.mp m with m | m
        · exact x' a m
        · exact k'.out a (m2 a m)
      · rcases List.mem_append.mp m with m | m
        · exact List.mem_append_left _ m
        · exact List.mem_append_right _ (m2 a m)
    | some (.nx Γ'), h =>
      intro σ' F' H' O' k' st kp
      obtain ⟨O2, r2, n2, m2⟩ := outs k' kp
      exact h .non F' H' O2 [] k'.sub r2 (repFrz .non) n2 (fun a m => k'.out a (m2 a m)) (st.less fun a m => m2 a m)
    | some (.ex c Γ'), h =>
      intro σ' F' H' O' k' st kp
      exact h F' H' k'.sub (st.less fun a m => nomatch m)
end TW

namespace TW
open PySem PySem.Spec L2
/-! ### the reading that a run gives -/
def cnN {α β : Type} (K : PySem.W.Frag) (W : WX) (R : Hp → Hp → α → β → Prop) (m : M α) : St → Hp → (β → Hp → Prop) → Prop := fun σ H Q => ∃ Γ F O, Ok K F H Γ σ O ∧ HitN K W R (m Γ) σ F H O Q
def cnT {α β : Type} (K : PySem.W.Frag) (W : WX) (R : Hp → Hp → α → β → List Addr → Prop) (m : M α) : St → Hp → (β → Hp → Prop) → Prop := fun σ H Q => ∃ Γ F O, Ok K F H Γ σ O ∧ HitT K W R (m Γ) σ F H O Q
section
variable {X : Cx} {W : WX} {io : List Nat} {pos : Pos} {e : Expr}
theorem VD.cn {m : M PyData} (h : VD X W e m) : PE X e (cnN X.K W (rD X.K) m) := by
  obtain ⟨t, p, s⟩ := h
  exact ⟨fun pins sh σ H Q I ⟨Γ, F, O, k, h⟩ => p.run pins sh σ H Q I (s Γ σ F H O Q k h)⟩
theorem VT.cn {m : M T} (h : VT X W e m) : PE X e (cnT X.K W (rT X.K) m) := by
  obtain ⟨t, p, s⟩ := h
  exact ⟨fun pins sh σ H Q I ⟨Γ, F, O, k, h⟩ => p.run pins sh σ H Q I (s Γ σ F H O Q k h)⟩
theorem VB.cn {m : M Bool} (h : VB X W e m) : PT X e (cnN X.K W rB m) := by
  obtain ⟨t, p, s⟩ := h
  exact ⟨fun pins sh σ H Q I ⟨Γ, F, O, k, h⟩ => p.run pins sh σ H Q I (s Γ σ F H O Q k h)⟩
def cnG (K : PySem.W.Frag) (io : List Nat) (g : MG) : TG := fun v σ H Q => ∃ d Γ Γ' F O, Ok K F H Γ σ O ∧ Df K F v d ∧ g d Γ = some Γ' ∧ ∀ σ' O', Ok K F H Γ' σ' O' → Step F H O F H O' → Keeps io σ σ' → Q σ' H
theorem VG.cn {tg : Expr} {g : MG} (h : VG X io tg g) : PG X tg (cnG X.K io g) := by
  obtain ⟨t, p, s⟩ := h
  exact ⟨fun pins sh σ H v u Q I r ⟨d, Γ, Γ', F, O, k, r1, e, h⟩ => p.run pins sh σ H v u Q I r (s d v Γ Γ' σ F H O Q k r1 e h)⟩
end
/-! ### comprehensions -/
def wipeG (Γ : G) : List Nat → G
  | [] => Γ
  | v :: vs => (wipeG Γ vs).set v none
def loopC (g : MG) (mt : M Bool) (me : M T) (own : List Nat) : List PyData → List T → M T
  | [], acc => pM (.lst acc)
  | d :: ds, acc => fun Γ => match g d Γ with
    | none => none
    | some Γ1 => match mt Γ1 with
      | some (.ok true Γ2) => (match me Γ2 with
        | some (.ok t Γ3) => if acc.length < sizeLine then loopC g mt me own ds (acc ++ [t]) (wipeG Γ3 own) else none
        | _ => none)
      | some (.ok false Γ2) => loopC g mt me own ds acc (wipeG Γ2 own)
      | _ => none
def mComp (mi : M (List PyData)) (g : MG) (mt : M Bool) (me : M T) (own : List Nat) : M T := bM mi fun ds Γ => loopC g mt me own ds [] (wipeG Γ own)
theorem Ok.wipe {K : PySem.W.Frag} {F H : Hp} {Γ : G} {σ : St} : ∀ {O : List Addr} (vs : List Nat), Ok K F H Γ σ O → ∃ O', Ok K F H (wipeG Γ vs) (L2.wipe σ vs) O' ∧ Step F H O F H O'
  | O, [], k => ⟨O, k, Step.refl⟩
  | O, v :: vs, k => by
    obtain ⟨O1, k1, s1⟩ := Ok.wipe vs k
    obtain ⟨O2, k2, s2⟩ := k1.drop v none
    exact ⟨O2, k2, s1.trans s2⟩
theorem wipeG_none {Γ : G} {i : Nat} : ∀ {vs : List Nat}, i ∈ vs → i < Γ.length → (wipeG Γ vs)[i]? = some none
  | v :: vs, h, l => by
    have hl : ∀ vs : List Nat, (wipeG Γ vs).length = Γ.length := fun vs => by
      induction vs with
      | nil => rfl
      | cons v vs ih => unfold wipeG; rw [List.length_set, ih]
    unfold wipeG
    by_cases e : v = i
    · subst e
      rw [List.getElem?_set_self (by rw [hl]; exact l)]
    · rw [List.getElem?_set_ne e]
      rcases List.mem_cons.mp h with q | q
      · exact absurd q.symm e
      · exact wipeG_none q l
theorem RepG.same {K : PySem.W.Frag} {F H : Hp} : ∀ {Γ : G} {σ σ' : St} {O : List Addr}, RepG K F H Γ σ O → σ'.length = σ.length → (∀ (i : Nat) (t : T), Γ[i]? = some (some t) → σ'[i]? = σ[i]?) → RepG K F H Γ σ' O
  | [], σ, σ', O, h, l, e => by
    obtain ⟨rfl, rfl⟩ := h
    exact ⟨List.eq_nil_of_length_eq_zero l, rfl⟩
  | none :: Γ, _, σ', O, h, l, e => by
    obtain ⟨x, r, rfl, h⟩ := h
    cases σ' with
    | nil => cases l
    | cons y r' => exact ⟨y, r', rfl, RepG.same h (by simpa using l) fun i t q => by simpa using e (i + 1) t (by simpa using q)⟩
  | some t :: Γ, _, σ', O, h, l, e => by
    obtain ⟨v, r, o1, o2, rfl, h1, h2, rfl⟩ := h
    cases σ' with
    | nil => cases l
    | cons y r' =>
      have e0 : y = some v := by simpa using e 0 t rfl
      subst e0
      exact ⟨v, r', o1, o2, rfl, h1, RepG.same h2 (by simpa using l) fun i t q => by simpa using e (i + 1) t (by simpa using q), rfl⟩
theorem Ok.unwipe {K : PySem.W.Frag} {F H : Hp} {Γ : G} {σ : St} {O : List Addr} {vs : List Nat} (k : Ok K F H Γ (L2.wipe σ vs) O) (h : ∀ i ∈ vs, ∀ t : T, Γ[i]? ≠ some (some t)) : Ok K F H Γ σ O :=
  ⟨k.sub, RepG.same k.rep (wipe_length σ vs).symm fun i t q => (wipe_out fun m => h i m t q).symm, k.nd, k.out⟩
def outOf (n : Nat) (own : List Nat) : List Nat := (List.range n).filter fun i => !own.contains i
theorem out_not {n i : Nat} {own : List Nat} (h : own.contains i = true) : i ∉ outOf n own := fun m => by
  have := (List.mem_filter.mp m).2
  rw [h] at this
  cases this
theorem wipe_keeps {n : Nat} {own : List Nat} {σ σ' : St} (hn : σ.length = n) (k : Keeps (outOf n own) (L2.wipe σ own) σ') : L2.wipe σ' own = L2.wipe σ own := by
  have len : σ'.length = σ.length := k.1.trans (wipe_length σ own)
  apply List.ext_getElem?
  intro i
  by_cases hm : i ∈ own
  · have inn : ∀ {τ : St} {vs : List Nat}, i ∈ vs → i < τ.length → (L2.wipe τ vs)[i]? = some none := by
      intro τ vs
      induction vs with
      | nil => intro h; cases h
      | cons v vs ih =>
        intro h l
        unfold L2.wipe
        by_cases e : v = i
        · subst e
          rw [List.getElem?_set_self (by rw [wipe_length]; exact l)]
        · rw [List.getElem?_set_ne e]
          rcases List.mem_cons.mp h with q | q
          · exact absurd q.symm e
          · exact ih q l
    by_cases l : i < σ.length
    · rw [inn hm (by omega), inn hm l]
    · rw [List.getElem?_eq_none (by rw [wipe_length]; omega), List.getElem?_eq_none (by rw [wipe_length]; omega)]
  · rw [wipe_out hm]
    by_cases l : i < n
    · refine k.2 i ?_
      unfold outOf
      refine List.mem_filter.mpr ⟨List.mem_range.mpr l, ?_⟩
      simp [hm]
    · rw [List.getElem?_eq_none (by omega), List.getElem?_eq_none (by rw [wipe_length]; omega)]
abbrev W0 : WX := fun _ _ _ _ => False
/-- tests of a clause -/
def VTs (X : Cx) (W : WX) (ifs : List Expr) (m : M Bool) : Prop := PTs X ifs (cnN X.K W rB m)
section
variable {X : Cx} {W : WX} {io : List Nat} {pos : Pos} {e : Expr}
theorem vts_nil : VTs X W [] (pM true) := ⟨fun pins s σ H Q I ⟨Γ, F, O, k, h⟩ => pts_nil.run pins s σ H Q I (h true F H O k rfl Step.refl)⟩
theorem vts_one {c : Expr} {mc : M Bool} (h : VB X W c mc) : VTs X W [c] mc := pts_one h.cn
theorem RepTs.append {K : PySem.W.Frag} {F H : Hp} : ∀ {ts us : List T} {vs ws : List V} {o o' : List Addr}, RepTs K F H ts vs o → RepTs K F H us ws o' → RepTs K F H (ts ++ us) (vs ++ ws) (o ++ o')
  | [], us, _, ws, _, o', h, h' => by
    unfold RepTs at h
    obtain ⟨rfl, rfl⟩ := h
    exact h'
  | t :: ts, us, _, ws, _, o', h, h' => by
    unfold RepTs at h
    obtain ⟨v, r, o1, o2, rfl, h1, h2, rfl⟩ := h
    show RepTs K F H (t :: (ts ++ us)) (v :: (r ++ ws)) (o1 ++ o2 ++ o')
    unfold RepTs
    exact ⟨v, _, o1, o2 ++ o', rfl, h1, RepTs.append h2 h', by rw [List.append_assoc]⟩
theorem wipeG_no {Γ : G} {own : List Nat} : ∀ (i : Nat), i ∈ own → ∀ t : T, (wipeG Γ own)[i]? ≠ some (some t) := fun i m t q => by
  have hl : ∀ vs : List Nat, (wipeG Γ vs).length = Γ.length := fun vs => by
    induction vs with
    | nil => rfl
    | cons v vs ih => unfold wipeG; rw [List.length_set, ih]
  by_cases l : i < Γ.length
  · rw [wipeG_none m l] at q
    cases q
  · rw [List.getElem?_eq_none (by rw [hl]; omega)] at q
    cases q
/-- the list that is made, D, stands beside while a step is done that owns O -/
theorem comp_hit {K : PySem.W.Frag} {W : WX} {g : MG} {mt : M Bool} {me : M T} {own : List Nat} {n : Nat} {mi : M (List PyData)} {wi : TI} {Γ : G} {σ : St} {F H : Hp} {O : List Addr} {Q : VK} (k : Ok K F H Γ σ O) (hn : σ.length = n)
    (si : ∀ Γ σ F H O R, Ok K F H Γ σ O → HitN K W (Walks K) (mi Γ) σ F H O R → wi σ H R) (h : HitT K W (rT K) (mComp mi g mt me own Γ) σ F H O Q) :
    tLc wi (cnG K (outOf n own) g) (cnN K W0 rB mt) (cnT K W0 (rT K) me) own σ H Q := by
  refine si Γ σ F H O _ k ?_
  unfold mComp at h
  refine HitT.bindN h fun ds Γ1 J F1 H1 O1 k1 w1 s1 h1 => ?_
  intro D hD
  obtain ⟨O2, k2, s2⟩ := k1.wipe own
  have lO2 := RepG.live k2.rep
  have dD : ∀ a ∈ O2, a ≠ D := fun a m e => lO2 a m (by rw [e]; exact hD)
  have k3 : Ok K F1 (upd H1 D (.lst [])) (wipeG Γ1 own) (L2.wipe σ own) O2 := ⟨fun b x e => by rw [upd_ne (ne_of_none (k2.sub b x e) hD)]; exact k2.sub b x e, RepG.mono (Same.refl _) k2.rep fun a m => upd_ne (dD a m), k2.nd, k2.out⟩
  have st3 : Step F1 H1 O1 F1 (upd H1 D (.lst [])) (D :: ([] ++ O2)) := by
    refine ⟨Same.refl _, fun a ha _ => ⟨upd_ne fun e => ha (by rw [e]; exact hD), id⟩, fun a m => ?_⟩
    rcases List.mem_cons.mp m with rfl | m
    · exact .inr hD
    · exact s2.own a m
  have h3 := HitT.trans h1 st3
  have ndD : (D :: ([] ++ O2)).Nodup := List.nodup_cons.mpr ⟨fun m => dD D m rfl, k2.nd⟩
  refine ⟨fun i m H => m = ds.length - i ∧ i ≤ ds.length ∧ ∃ Γ F O acc vs oa, Ok K F H Γ (L2.wipe σ own) O ∧ (∀ i ∈ own, ∀ t : T, Γ[i]? ≠ some (some t)) ∧ H D = some (.lst vs) ∧ RepTs K F H acc vs oa ∧ (D :: (oa ++ O)).Nodup ∧ (∀ a ∈ D :: oa, F a = none) ∧ Same F1 F ∧
    HitT K W (rT K) (loopC g mt me own (ds.drop i) acc Γ) σ F H (D :: (oa ++ O)) Q,
    ⟨ds.length, by simp, Nat.zero_le _, wipeG Γ1 own, F1, O2, [], [], [], k3, wipeG_no, upd_same, by unfold RepTs; exact ⟨rfl, rfl⟩, ndD, fun a m => (by
      rcases List.mem_cons.mp m with rfl | m
      · exact none_of_same k2.sub hD
      · cases m), Same.refl _, h3⟩, ?_⟩
  rintro i m H4 ⟨rfl, hi, Γ4, F4, O4, acc, vs, oa, k4, wn, hD4, r4, n4, x4, s4, h4⟩
  obtain ⟨wgo, wstop⟩ := w1 i F4 H4 s4 k4.sub
  by_cases hlt : i < ds.length
  · have e : ds[i]? = some ds[i] := List.getElem?_eq_getElem hlt
    have ed : ds.drop i = ds[i] :: ds.drop (i + 1) := List.drop_eq_getElem_cons hlt
    obtain ⟨go, yl⟩ := wgo _ e
    refine .inr ⟨go, fun H' => i + 1 ≤ ds.length ∧ ∃ Γ F O acc vs oa, Ok K F H' Γ (L2.wipe σ own) O ∧ (∀ i ∈ own, ∀ t : T, Γ[i]? ≠ some (some t)) ∧ H' D = some (.lst vs) ∧ RepTs K F H' acc vs oa ∧ (D :: (oa ++ O)).Nodup ∧ (∀ a ∈ D :: oa, F a = none) ∧ Same F1 F ∧
      HitT K W (rT K) (loopC g mt me own (ds.drop (i + 1)) acc Γ) σ F H' (D :: (oa ++ O)) Q, fun H' q => ⟨ds.length - (i + 1), by omega, rfl, q.1, q.2⟩, fun x H5 y => ?_⟩
    obtain ⟨F5, g5, r5⟩ := yl x H5 y
    have k5 := k4.grow g5
    have liveA : ∀ a ∈ D :: oa, H4 a ≠ none := fun a m => by
      rcases List.mem_cons.mp m with rfl | m
      · rw [hD4]; intro z; cases z
      · exact RepTs.live _ _ _ r4 a m
    -- what stays beside through a step that owns O
    have aside : ∀ {Fa Ha Fb Hb : Hp} {Oa Ob : List Addr}, Step Fa Ha Oa Fb Hb Ob → (∀ a ∈ D :: oa, Ha a ≠ none) → (∀ a ∈ D :: oa, a ∉ Oa) → (∀ a ∈ D :: oa, Fa a = none) → Ha D = some (.lst vs) → RepTs K Fa Ha acc vs oa →
        (∀ a ∈ D :: oa, Hb a ≠ none) ∧ (∀ a ∈ D :: oa, a ∉ Ob) ∧ (∀ a ∈ D :: oa, Fb a = none) ∧ Hb D = some (.lst vs) ∧ RepTs K Fb Hb acc vs oa := by
      intro Fa Ha Fb Hb Oa Ob st l d f hd r
      have on := st.on l d
      refine ⟨fun a m => by rw [on a m]; exact l a m, st.apart l d, st.out l d f, (on D (List.mem_cons_self ..)).trans hd, RepTs.mono st.f _ _ _ r fun a m => on a (List.mem_cons_of_mem _ m)⟩
    have dis4 : ∀ a ∈ D :: oa, a ∉ O4 := fun a m q => by
      have n4' : ((D :: oa) ++ O4).Nodup := n4
      exact (List.nodup_append.mp n4').2.2 a m a q rfl
    obtain ⟨l5, d5, f5, hD5, ra5⟩ := aside (g5.step (O := O4)) liveA dis4 x4 hD4 r4
    have h5 := HitT.trans h4 (g5.step (O := D :: (oa ++ O4)))
    rw [ed] at h5
    unfold loopC at h5
    cases q1 : g ds[i] Γ4 with
    | none => rw [q1] at h5; exact h5.elim
    | some Γ6 =>
      rw [q1] at h5
      refine ⟨ds[i], Γ4, Γ6, F5, O4, k5, r5, q1, fun σ6 O6 k6 s6 kp6 => ⟨wipe_keeps hn kp6, Γ6, F5, O6, k6, ?_⟩⟩
      obtain ⟨l6, d6, f6, hD6, ra6⟩ := aside s6 l5 d5 f5 hD5 ra5
      have h6 := HitT.trans h5 (s6.hold (o := D :: oa))
      dsimp only at h6
      match q2 : mt Γ6, h6 with
      | some (.ok b Γ7), h6 =>
        intro b' F7 H7 O7 k7 rb s7
        cases rb
        obtain ⟨l7, d7, f7, hD7, ra7⟩ := aside s7 l6 d6 f6 hD6 ra6
        cases b with
        | false =>
          refine iteF ⟨hlt, ?_⟩
          have h7 := HitT.trans h6 (s7.hold (o := D :: oa))
          obtain ⟨O8, k8, s8⟩ := k7.wipe own
          rw [wipe_keeps hn kp6] at k8
          obtain ⟨l8, d8, f8, hD8, ra8⟩ := aside s8 l7 d7 f7 hD7 ra7
          refine ⟨wipeG Γ7 own, F7, O8, acc, vs, oa, k8, wipeG_no, hD8, ra8, ?_, f8, (((s4.trans g5.f).trans s6.f).trans s7.f), HitT.trans h7 (s8.hold (o := D :: oa))⟩
          have n4' : ((D :: oa) ++ O4).Nodup := n4
          show ((D :: oa) ++ O8).Nodup
          exact List.nodup_append.mpr ⟨(List.nodup_append.mp n4').1, k8.nd, fun a ha b hb q => d8 a ha (by rw [q]; exact hb)⟩
        | true =>
          refine iteT ⟨Γ7, F7, O7, k7, ?_⟩
          have h7 := HitT.trans h6 (s7.hold (o := D :: oa))
          dsimp only at h7
          match q3 : me Γ7, h7 with
          | some (.ok t Γ8), h7 =>
            intro y F8 H8 O8 o8 k8 r8 n8 x8 s8
            dsimp only at h7
            split at h7
            · rename_i hz
              obtain ⟨l8, d8, f8, hD8, ra8⟩ := aside s8 l7 d7 f7 hD7 ra7
              have h8 := HitT.trans h7 (s8.hold (o := D :: oa))
              obtain ⟨O9, k9, s9⟩ := k8.wipe own
              rw [wipe_keeps hn kp6] at k9
              have sub9 : ∀ a ∈ O9, a ∈ O8 := fun a m => (s9.own a m).elim id fun z => absurd z (RepG.live k9.rep a m)
              refine ⟨vs, hD8, by rw [RepTs.length ra8]; exact hz, hlt, ?_⟩
              have hDo : ∀ a ∈ oa ++ o8, a ≠ D := fun a m e => by
                subst e
                rcases List.mem_append.mp m with m | m
                · exact (List.nodup_cons.mp n4).1 (List.mem_append_left _ m)
                · exact d8 a (List.mem_cons_self ..) (List.mem_append_left _ m)
              have hDO : ∀ a ∈ O9, a ≠ D := fun a m e => by
                subst e
                exact d8 a (List.mem_cons_self ..) (List.mem_append_right _ (sub9 a m))
              have n4' : ((D :: oa) ++ O4).Nodup := n4
              have nn : (D :: ((oa ++ o8) ++ O9)).Nodup := by
                refine List.nodup_cons.mpr ⟨fun m => ?_, List.nodup_append.mpr ⟨List.nodup_append.mpr ⟨(List.nodup_cons.mp (List.nodup_append.mp n4').1).2, (List.nodup_append.mp n8).1, fun a ha b hb q => ?_⟩, k9.nd, fun a ha b hb q => ?_⟩⟩
                · rcases List.mem_append.mp m with m | m
                  · exact hDo D m rfl
                  · exact hDO D m rfl
                · subst q
                  exact d8 a (List.mem_cons_of_mem _ ha) (List.mem_append_left _ hb)
                · subst q
                  rcases List.mem_append.mp ha with ha | ha
                  · exact d8 a (List.mem_cons_of_mem _ ha) (List.mem_append_right _ (sub9 a hb))
                  · exact (List.nodup_append.mp n8).2.2 a ha a (sub9 a hb) rfl
              refine ⟨wipeG Γ8 own, F8, O9, acc ++ [t], vs ++ [y], oa ++ o8, ⟨fun b x e => ?_, RepG.mono (Same.refl _) k9.rep fun a m => upd_ne (hDO a m), k9.nd, k9.out⟩, wipeG_no, upd_same, ?_, nn, fun a m => ?_, ((((s4.trans g5.f).trans s6.f).trans s7.f).trans s8.f), ?_⟩
              · rw [upd_ne fun z => by subst z; rw [f8 b (List.mem_cons_self ..)] at e; cases e]
                exact k9.sub b x e
              · refine RepTs.mono (Same.refl _) _ _ _ (RepTs.append ra8 (us := [t]) (ws := [y]) (o' := o8) ?_) fun a m => upd_ne (hDo a m)
                unfold RepTs RepTs
                exact ⟨y, [], o8, [], rfl, r8, ⟨rfl, rfl⟩, by rw [List.append_nil]⟩
              · rcases List.mem_cons.mp m with rfl | m
                · exact f8 a (List.mem_cons_self ..)
                · rcases List.mem_append.mp m with m | m
                  · exact f8 a (List.mem_cons_of_mem _ m)
                  · exact x8 a m
              · refine HitT.trans h8 ⟨Same.refl _, fun a ha no => ⟨upd_ne fun e => no (by rw [e]; exact List.mem_cons_self ..), id⟩, fun a m => ?_⟩
                refine .inl ?_
                rcases List.mem_cons.mp m with rfl | m
                · exact List.mem_cons_self ..
                · rcases List.mem_append.mp m with m | m
                  · rcases List.mem_append.mp m with m | m
                    · exact List.mem_append_left _ (List.mem_cons_of_mem _ m)
                    · exact List.mem_append_right _ (List.mem_append_left _ m)
                  · exact List.mem_append_right _ (List.mem_append_right _ (sub9 a m))
            · exact h7.elim
          | some (.ex c Γ8), h7 => exact h7.elim
          | none, h7 => exact h7.elim
      | some (.ex c Γ7), h6 => exact h6.elim
      | none, h6 => exact h6.elim
  · have e : i = ds.length := by omega
    subst e
    refine .inl ⟨wstop (Nat.le_refl _), ?_⟩
    rw [List.drop_length] at h4
    have k5 := k4.unwipe wn
    refine h4 (.ref D) F4 H4 O4 (D :: oa) k5 ?_ n4 x4 Step.refl
    unfold rT RepT
    exact ⟨D, vs, oa, rfl, hD4, r4, rfl⟩
/-- [e for tg in iter if ..] -/
theorem vt_lc {elt tg iter : Expr} {ifs : List Expr} {scope : Scope} {own : List (Str × Nat)} {mi : M (List PyData)} {g : MG} {mt : M Bool} {me : M T} (hc : X.calm = true) (hN : X.N.Nodup) (hi : VI X W tg iter mi) (ok : BlkOk X.N X.env.scope scope own)
    (hg : ∀ (s : Shared) (H : Hp) (C : Addr) (cl : List (Str × Addr)) (fp : List Addr), VG (X.blk s H scope (compEnvC scope cl C X.env) fp) (outOf X.N.length (own.map (·.2))) tg g)
    (ht : ∀ (s : Shared) (H : Hp) (C : Addr) (cl : List (Str × Addr)) (fp : List Addr), VTs (X.blk s H scope (compEnvC scope cl C X.env) fp) W0 ifs mt)
    (he : ∀ (s : Shared) (H : Hp) (C : Addr) (cl : List (Str × Addr)) (fp : List Addr), VT (X.blk s H scope (compEnvC scope cl C X.env) fp) W0 elt me) (hs : ∀ x, foldedSetIterable iter X.env x = pure x := by intro _; rfl) :
    VT X W (.ListComp elt [⟨tg, iter, ifs, 0⟩] scope pos) (mComp mi g mt me (own.map (·.2))) := by
  obtain ⟨wi, pi, si⟩ := hi
  exact ⟨fun σ H Q => σ.length = X.N.length → tLc wi (cnG X.K (outOf X.N.length (own.map (·.2))) g) (cnN X.K W0 rB mt) (cnT X.K W0 (rT X.K) me) (own.map (·.2)) σ H Q,
    ⟨fun pins sh σ H Q I h => (pe_lc (tt := cnN X.K W0 rB mt) hc hN pi ok (fun s H C cl fp => (hg s H C cl fp).cn) (fun s H C cl fp => ht s H C cl fp) (fun s H C cl fp => (he s H C cl fp).cn) hs).run pins sh σ H Q I (h I.len)⟩,
    fun Γ σ F H O Q k h hn => comp_hit k hn si h⟩
/-- x = [..] on one line, x a local -/
theorem vs_setLc (i : Nat) {y : Str} {py : Pos} {elt tg iter : Expr} {ifs : List Expr} {scope : Scope} {own : List (Str × Nat)} {spos : Pos} {mi : M (List PyData)} {g : MG} {mt : M Bool} {me : M T} {fz? : Bool} (hc : X.calm = true) (hN : X.N.Nodup) (hi : VI X W tg iter mi) (ok : BlkOk X.N X.env.scope scope own)
    (hg : ∀ (s : Shared) (H : Hp) (C : Addr) (cl : List (Str × Addr)) (fp : List Addr), VG (X.blk s H scope (compEnvC scope cl C X.env) fp) (outOf X.N.length (own.map (·.2))) tg g)
    (ht : ∀ (s : Shared) (H : Hp) (C : Addr) (cl : List (Str × Addr)) (fp : List Addr), VTs (X.blk s H scope (compEnvC scope cl C X.env) fp) W0 ifs mt)
    (he : ∀ (s : Shared) (H : Hp) (C : Addr) (cl : List (Str × Addr)) (fp : List Addr), VT (X.blk s H scope (compEnvC scope cl C X.env) fp) W0 elt me)
    (hsw : swapsWith (.ListComp elt [⟨tg, iter, ifs, 0⟩] scope pos) (some (.Name y py)) spos.line X.env = pure true) (hy : X.N[i]? = some y := by rfl) (hyl : X.env.scope.names.lookup y = some .local := by rfl) (hio : i ∉ io := by decide)
    (hs : ∀ x, foldedSetIterable iter X.env x = pure x := by intro _; rfl) :
    VS X W io (.Assign [.Name y py] (.ListComp elt [⟨tg, iter, ifs, 0⟩] scope pos) spos) (mSet i (mComp mi g mt me (own.map (·.2)))) := by
  obtain ⟨wi, pi, si⟩ := hi
  refine ⟨fun D σ H => σ.length = X.N.length → tAsg (tLc wi (cnG X.K (outOf X.N.length (own.map (·.2))) g) (cnN X.K W0 rB mt) (cnT X.K W0 (rT X.K) me) (own.map (·.2))) (gName i) D σ H,
    ⟨fun pins sh σ H D I h => (ps_setLc (tt := cnN X.K W0 rB mt) hc hN hy hyl hsw pi ok (fun s H C cl fp => (hg s H C cl fp).cn) (fun s H C cl fp => ht s H C cl fp) (fun s H C cl fp => (he s H C cl fp).cn) hs).run pins sh σ H D I (h I.len)⟩,
    fun Γ σ F H O D k h hn => ?_⟩
  refine comp_hit k hn si ?_
  unfold mSet at h
  refine HitS.bindT h fun t Γ1 v F1 H1 O1 o k1 r n x s1 h1 => ?_
  unfold storeG at h1
  split at h1
  · rename_i hl
    obtain ⟨O2, k2, s2⟩ := k1.put (v := v) hl r n x
    exact h1 _ F1 H1 O2 k2 s2 (Keeps.set hio)
  · exact h1.elim
/-- .. frozen at once -/
theorem vs_setLcF (i : Nat) {y : Str} {py : Pos} {elt tg iter : Expr} {ifs : List Expr} {scope : Scope} {own : List (Str × Nat)} {spos : Pos} {mi : M (List PyData)} {g : MG} {mt : M Bool} {me : M T} (hc : X.calm = true) (hN : X.N.Nodup) (hi : VI X W tg iter mi) (ok : BlkOk X.N X.env.scope scope own)
    (hg : ∀ (s : Shared) (H : Hp) (C : Addr) (cl : List (Str × Addr)) (fp : List Addr), VG (X.blk s H scope (compEnvC scope cl C X.env) fp) (outOf X.N.length (own.map (·.2))) tg g)
    (ht : ∀ (s : Shared) (H : Hp) (C : Addr) (cl : List (Str × Addr)) (fp : List Addr), VTs (X.blk s H scope (compEnvC scope cl C X.env) fp) W0 ifs mt)
    (he : ∀ (s : Shared) (H : Hp) (C : Addr) (cl : List (Str × Addr)) (fp : List Addr), VT (X.blk s H scope (compEnvC scope cl C X.env) fp) W0 elt me)
    (hsw : swapsWith (.ListComp elt [⟨tg, iter, ifs, 0⟩] scope pos) (some (.Name y py)) spos.line X.env = pure true) (hy : X.N[i]? = some y := by rfl) (hyl : X.env.scope.names.lookup y = some .local := by rfl) (hio : i ∉ io := by decide)
    (hs : ∀ x, foldedSetIterable iter X.env x = pure x := by intro _; rfl) :
    VS X W io (.Assign [.Name y py] (.ListComp elt [⟨tg, iter, ifs, 0⟩] scope pos) spos) (mSet i (mT (mF (mComp mi g mt me (own.map (·.2)))))) := by
  obtain ⟨wi, pi, si⟩ := hi
  refine ⟨fun D σ H => σ.length = X.N.length → tAsg (tLc wi (cnG X.K (outOf X.N.length (own.map (·.2))) g) (cnN X.K W0 rB mt) (cnT X.K W0 (rT X.K) me) (own.map (·.2))) (gName i) D σ H,
    ⟨fun pins sh σ H D I h => (ps_setLc (tt := cnN X.K W0 rB mt) hc hN hy hyl hsw pi ok (fun s H C cl fp => (hg s H C cl fp).cn) (fun s H C cl fp => ht s H C cl fp) (fun s H C cl fp => (he s H C cl fp).cn) hs).run pins sh σ H D I (h I.len)⟩,
    fun Γ σ F H O D k h hn => ?_⟩
  refine comp_hit k hn si ?_
  unfold mSet mT mF at h
  have h := HitS.bindT h fun t Γ1 v F1 H1 O1 o k1 r n x s1 h1 => (show (D.nx (σ.set i (some v)) H1) from by
    unfold storeG at h1
    split at h1
    · rename_i hl
      obtain ⟨O2, k2, s2⟩ := k1.put (v := v) hl r n x
      exact h1 _ F1 H1 O2 k2 s2 (Keeps.set hio)
    · exact h1.elim)
  have h := HitT.bindN (R := rD X.K) h fun d Γ1 v F1 H1 O1 k1 r s1 h1 => h1 v F1 H1 O1 [] k1 (repFrz r) k1.nd (fun _ m => nomatch m) Step.refl
  refine HitN.bindT h fun t Γ1 v F1 H1 O1 o k1 r n x s1 h1 => ?_
  unfold oM at h1
  cases q : fz t with
  | none => rw [q] at h1; exact h1.elim
  | some d =>
    rw [q] at h1
    obtain ⟨F2, k2, r2, s2⟩ := k1.ice r n x q
    exact h1 v F2 H1 O1 k2 r2 s2
end
end TW

namespace TW
open PySem PySem.Spec L2
/-! ### built-ins -/
def Call1 (X : Cx) (fo : Value) (g : PyData → Option PyData) : Prop := ∃ r : List V → Hp → VK → Prop, CallR X fo r ∧ ∀ a d, g a = some d → ∀ x F H Q, Same F H → rP X.K F H a x → (∀ v F' H', Grow F H F' H' → Df X.K F' v d → Q v H') → r [x] H Q
def Call1T (X : Cx) (fo : Value) (g : PyData → Option (List PyData)) : Prop := ∃ r : List V → Hp → VK → Prop, CallR X fo r ∧ ∀ a ds, g a = some ds → ∀ x F H Q, Same F H → rP X.K F H a x →
  (∀ p vs F' H', Grow F H F' H' → H' p = none → DfAll X.K F' vs ds → Q (.ref p) (upd H' p (.lst vs))) → r [x] H Q
def Call2 (X : Cx) (fo : Value) (g : OpF) : Prop := ∃ r : List V → Hp → VK → Prop, CallR X fo r ∧ ∀ a b d, g a b = some d → ∀ x y F H Q, Same F H → Df X.K F x a → Df X.K F y b → (∀ v F' H', Grow F H F' H' → Df X.K F' v d → Q v H') → r [x, y] H Q
def mC1 (g : PyData → Option PyData) (m : M PyData) : M PyData := bM m fun d => oM (g d)
def mC1T (g : PyData → Option (List PyData)) (m : M PyData) : M T := bM m fun d => oM ((g d).map fun ds => .lst (ds.map .frz))
def mC2 (g : OpF) (ma mb : M PyData) : M PyData := mOp g ma mb
section
variable {X : Cx} {W : WX} {io : List Nat} {pos p : Pos} {e a b : Expr} {x : Str} {m ma mb : M PyData}
theorem c1_hit {fo : Value} {g : PyData → Option PyData} (hc : Call1 X fo g) (h : VP X W e m) (hst : starEach [e] X.env = (false, eval e X.env) :: starEach [] X.env) :
    ∃ r t, CallR X fo r ∧ PA X [e] t ∧ ∀ Γ σ F H O Q, Ok X.K F H Γ σ O → HitN X.K W (rD X.K) (mC1 g m Γ) σ F H O Q → tCB r t σ H Q := by
  obtain ⟨r, hr, f⟩ := hc
  obtain ⟨t, p, s⟩ := h
  refine ⟨r, _, hr, pa_cons p pa_nil hst, fun Γ σ F H O Q k h => s Γ σ F H O _ k ?_⟩
  unfold mC1 at h
  refine HitN.bind h fun d Γ1 v F1 H1 O1 k1 r1 s1 h1 => ?_
  obtain ⟨d', e', q⟩ := HitN.fin h1 k1
  exact f d d' e' v F1 H1 Q k1.sub r1 q
theorem c1_hitT {fo : Value} {g : PyData → Option (List PyData)} (hc : Call1T X fo g) (h : VP X W e m) (hst : starEach [e] X.env = (false, eval e X.env) :: starEach [] X.env) :
    ∃ r t, CallR X fo r ∧ PA X [e] t ∧ ∀ Γ σ F H O Q, Ok X.K F H Γ σ O → HitT X.K W (rT X.K) (mC1T g m Γ) σ F H O Q → tCB r t σ H Q := by
  obtain ⟨r, hr, f⟩ := hc
  obtain ⟨t, p, s⟩ := h
  refine ⟨r, _, hr, pa_cons p pa_nil hst, fun Γ σ F H O Q k h => s Γ σ F H O _ k ?_⟩
  unfold mC1T at h
  refine HitT.bindN h fun d Γ1 v F1 H1 O1 k1 r1 s1 h1 => ?_
  unfold oM at h1
  cases q : g d with
  | none => rw [q] at h1; exact h1.elim
  | some ds =>
    rw [q] at h1
    refine f d ds q v F1 H1 Q k1.sub r1 fun p vs F2 H2 g2 hp r2 => ?_
    exact HitT.newL (o := []) (HitT.trans h1 (g2.step (O := O1))) (k1.grow g2) hp (of_ice r2) (k1.grow g2).nd (fun _ m => nomatch m)
theorem vd_c1B {id : String} {g : PyData → Option PyData} (hc : Call1 X (.builtin id) g) (hm : X.mg x = none) (hv : bootBuiltins x = some (.builtin id)) (h : VP X W e m) (hg : Gl X x := by rfl) (hst : starEach [e] X.env = (false, eval e X.env) :: starEach [] X.env := by rfl) (hn : x ≠ "__name__" := by decide) (hd : (x == ("__debug__" : Str)) = false := by decide) :
    VD X W (.Call (.Name x p) [e] [] pos) (mC1 g m) := by
  obtain ⟨r, t, h1, h2, h3⟩ := c1_hit hc h hst
  exact ⟨_, pe_callB h1 hg hm hv h2 hn hd hst, h3⟩
theorem vd_c1Y {id : String} {g : PyData → Option PyData} (hc : Call1 X (.type id) g) (hm : X.mg x = none) (hv : bootBuiltins x = some (.type id)) (h : VP X W e m) (hg : Gl X x := by rfl) (hst : starEach [e] X.env = (false, eval e X.env) :: starEach [] X.env := by rfl) (hn : x ≠ "__name__" := by decide) (hd : (x == ("__debug__" : Str)) = false := by decide) :
    VD X W (.Call (.Name x p) [e] [] pos) (mC1 g m) := by
  obtain ⟨r, t, h1, h2, h3⟩ := c1_hit hc h hst
  exact ⟨_, pe_callTy h1 hg hm hv h2 hn hd hst, h3⟩
theorem vt_c1B {id : String} {g : PyData → Option (List PyData)} (hc : Call1T X (.builtin id) g) (hm : X.mg x = none) (hv : bootBuiltins x = some (.builtin id)) (h : VP X W e m) (hg : Gl X x := by rfl) (hst : starEach [e] X.env = (false, eval e X.env) :: starEach [] X.env := by rfl) (hn : x ≠ "__name__" := by decide) (hd : (x == ("__debug__" : Str)) = false := by decide) :
    VT X W (.Call (.Name x p) [e] [] pos) (mC1T g m) := by
  obtain ⟨r, t, h1, h2, h3⟩ := c1_hitT hc h hst
  exact ⟨_, pe_callB h1 hg hm hv h2 hn hd hst, h3⟩
theorem vt_c1Y {id : String} {g : PyData → Option (List PyData)} (hc : Call1T X (.type id) g) (hm : X.mg x = none) (hv : bootBuiltins x = some (.type id)) (h : VP X W e m) (hg : Gl X x := by rfl) (hst : starEach [e] X.env = (false, eval e X.env) :: starEach [] X.env := by rfl) (hn : x ≠ "__name__" := by decide) (hd : (x == ("__debug__" : Str)) = false := by decide) :
    VT X W (.Call (.Name x p) [e] [] pos) (mC1T g m) := by
  obtain ⟨r, t, h1, h2, h3⟩ := c1_hitT hc h hst
  exact ⟨_, pe_callTy h1 hg hm hv h2 hn hd hst, h3⟩
theorem vd_c2B {id : String} {g : OpF} (hc : Call2 X (.builtin id) g) (hm : X.mg x = none) (hv : bootBuiltins x = some (.builtin id)) (ha : VD X W a ma) (hb : VD X W b mb) (hg : Gl X x := by rfl) (hst : starEach [a, b] X.env = (false, eval a X.env) :: starEach [b] X.env := by rfl) (hst2 : starEach [b] X.env = (false, eval b X.env) :: starEach [] X.env := by rfl)
    (hn : x ≠ "__name__" := by decide) (hd : (x == ("__debug__" : Str)) = false := by decide) : VD X W (.Call (.Name x p) [a, b] [] pos) (mC2 g ma mb) := by
  obtain ⟨r, hr, f⟩ := hc
  obtain ⟨ta, pa, sa⟩ := ha
  obtain ⟨tb, pb, sb⟩ := hb
  refine ⟨_, pe_callB hr hg hm hv (pa_cons pa (pa_cons pb pa_nil hst2) hst) hn hd hst (by rw [hst2] <;> rfl), fun Γ σ F H O Q k h => sa Γ σ F H O _ k ?_⟩
  unfold mC2 mOp at h
  refine HitN.bind h fun da Γ1 v F1 H1 O1 k1 r1 s1 h1 => sb Γ1 σ F1 H1 O1 _ k1 ?_
  refine HitN.bind h1 fun db Γ2 w F2 H2 O2 k2 r2 s2 h2 => ?_
  obtain ⟨d, e, q⟩ := HitN.fin h2 k2
  exact f da db d e v w F2 H2 Q k2.sub (Df.mono s2.f _ _ r1) r2 q
end
def lenF : PyData → Option PyData
  | .list ds => some (.int ds.length)
  | .tuple ds => some (.int ds.length)
  | .str z => if z.length ≤ sizeLine then some (.int z.length) else none
  | _ => none
def intsF : List PyData → Option (List Int)
  | [] => some []
  | .int i :: ds => (intsF ds).map (i :: ·)
  | _ => none
def bolsF : List PyData → Option (List Bool)
  | [] => some []
  | .bool i :: ds => (bolsF ds).map (i :: ·)
  | _ => none
theorem ints_vs {K : PySem.W.Frag} {F : Hp} : ∀ {vs : List V} {ds : List PyData} {ns : List Int}, DfAll K F vs ds → intsF ds = some ns → vs = ns.map V.int
  | _, _, ns, .nil, e => by cases e; rfl
  | _, d :: ds, ns, .cons h r, e => by
    cases d with
    | int i =>
      unfold intsF at e
      cases q : intsF ds with
      | none => rw [q] at e; cases e
      | some ms =>
        rw [q] at e
        cases e
        cases h
        rw [ints_vs r q]
        rfl
    | _ => cases e
theorem bols_vs {K : PySem.W.Frag} {F : Hp} : ∀ {vs : List V} {ds : List PyData} {ns : List Bool}, DfAll K F vs ds → bolsF ds = some ns → vs = ns.map V.bl
  | _, _, ns, .nil, e => by cases e; rfl
  | _, d :: ds, ns, .cons h r, e => by
    cases d with
    | bool i =>
      unfold bolsF at e
      cases q : bolsF ds with
      | none => rw [q] at e; cases e
      | some ms =>
        rw [q] at e
        cases e
        cases h
        rw [bols_vs r q]
        rfl
    | _ => cases e
/-- a list that is looked at -/
theorem rP.list {K : PySem.W.Frag} {F H : Hp} {ds : List PyData} {v : V} (s : Same F H) (h : rP K F H (.list ds) v) : ∃ a vs, v = .ref a ∧ H a = some (.lst vs) ∧ DfAll K F vs ds := by
  rcases h with h | ⟨a, vs, ds', rfl, e, ha, hd⟩
  · cases h with
    | lst h1 h2 => exact ⟨_, _, rfl, s _ _ h1, h2⟩
  · cases e
    exact ⟨a, vs, rfl, ha, hd⟩
theorem rP.df {K : PySem.W.Frag} {F H : Hp} {d : PyData} {v : V} (h : rP K F H d v) (n : ∀ ds, d ≠ .list ds) : Df K F v d := by
  rcases h with h | ⟨a, vs, ds', rfl, e, ha, hd⟩
  · exact h
  · exact absurd e (n ds')
section
variable {X : Cx}
theorem c_len : Call1 X (.builtin "len") lenF := by
  refine ⟨_, call_len, fun a d e x F H Q s r q => ?_⟩
  unfold lenF at e
  split at e
  · cases e
    obtain ⟨p, vs, rfl, hp, h2⟩ := rP.list s r
    exact ⟨_, _, rfl, .inl ⟨vs, .inl (.inl hp), (DfAll.length h2).symm⟩, q _ F H (Grow.refl s) (.int _)⟩
  · cases e
    cases r.df (fun _ z => nomatch z) with
    | tup h1 h2 => exact ⟨_, _, rfl, .inr ⟨_, sqT_mono s h1, (DfAll.length h2).symm⟩, q _ F H (Grow.refl s) (.int _)⟩
  · split at e
    · rename_i hz
      cases e
      cases r.df (fun _ z => nomatch z)
      exact ⟨_, _, rfl, ⟨hz, rfl⟩, q _ F H (Grow.refl s) (.int _)⟩
    · cases e
  · cases e
def allF : PyData → Option PyData
  | .list ds => (bolsF ds).map fun bs => .bool (bs.all id)
  | _ => none
def anyF : PyData → Option PyData
  | .list ds => (bolsF ds).map fun bs => .bool (bs.any id)
  | _ => none
def sumF : PyData → Option PyData
  | .list ds => (intsF ds).map fun ns => .int ns.sum
  | _ => none
theorem c_all (hc : X.calm = true) : Call1 X (.builtin "all") allF := by
  refine ⟨_, cr_all hc, fun a d e x F H Q s r q => ?_⟩
  unfold allF at e
  split at e
  · rename_i ds
    cases q1 : bolsF ds with
    | none => rw [q1] at e; cases e
    | some bs =>
      rw [q1] at e
      cases e
      obtain ⟨p, vs, rfl, hp, h2⟩ := rP.list s r
      exact ⟨_, bs, rfl, .inl (.inl (by rw [← bols_vs h2 q1]; exact hp)), q _ F H (Grow.refl s) (.bl _)⟩
  · cases e
theorem c_any (hc : X.calm = true) : Call1 X (.builtin "any") anyF := by
  refine ⟨_, cr_any hc, fun a d e x F H Q s r q => ?_⟩
  unfold anyF at e
  split at e
  · rename_i ds
    cases q1 : bolsF ds with
    | none => rw [q1] at e; cases e
    | some bs =>
      rw [q1] at e
      cases e
      obtain ⟨p, vs, rfl, hp, h2⟩ := rP.list s r
      exact ⟨_, bs, rfl, .inl (.inl (by rw [← bols_vs h2 q1]; exact hp)), q _ F H (Grow.refl s) (.bl _)⟩
  · cases e
theorem c_sum (hc : X.calm = true) : Call1 X (.builtin "sum") sumF := by
  refine ⟨_, cr_sum hc, fun a d e x F H Q s r q => ?_⟩
  unfold sumF at e
  split at e
  · rename_i ds
    cases q1 : intsF ds with
    | none => rw [q1] at e; cases e
    | some bs =>
      rw [q1] at e
      cases e
      obtain ⟨p, vs, rfl, hp, h2⟩ := rP.list s r
      exact ⟨_, bs, rfl, .inl (.inl (by rw [← ints_vs h2 q1]; exact hp)), q _ F H (Grow.refl s) (.int _)⟩
  · cases e
def max2F : OpF
  | .int i, .int j => some (.int (if j > i then j else i))
  | _, _ => none
def min2F : OpF
  | .int i, .int j => some (.int (if j < i then j else i))
  | _, _ => none
theorem c_max2 (hc : X.calm = true) : Call2 X (.builtin "max") max2F := by
  refine ⟨_, call_max2 hc, fun a b d e x y F H Q s ra rb q => ?_⟩
  unfold max2F at e
  split at e
  · cases e
    cases ra
    cases rb
    exact ⟨_, _, rfl, q _ F H (Grow.refl s) (.int _)⟩
  · cases e
theorem c_min2 (hc : X.calm = true) : Call2 X (.builtin "min") min2F := by
  refine ⟨_, call_min2 hc, fun a b d e x y F H Q s ra rb q => ?_⟩
  unfold min2F at e
  split at e
  · cases e
    cases ra
    cases rb
    exact ⟨_, _, rfl, q _ F H (Grow.refl s) (.int _)⟩
  · cases e
def absF : PyData → Option PyData
  | .int i => some (.int (if i < 0 then -i else i))
  | _ => none
theorem c_abs : Call1 X (.builtin "abs") absF := by
  refine ⟨_, call_abs, fun a d e x F H Q s r q => ?_⟩
  unfold absF at e
  split at e
  · cases e
    cases r.df (fun _ z => nomatch z)
    exact ⟨_, rfl, q _ F H (Grow.refl s) (.int _)⟩
  · cases e
def intF : PyData → Option PyData
  | .int i => some (.int i)
  | .bool b => some (.int (if b = true then 1 else 0))
  | _ => none
theorem c_int : Call1 X (.type "int") intF := by
  refine ⟨_, call_int1, fun a d e x F H Q s r q => ?_⟩
  unfold intF at e
  split at e
  · cases e
    cases r.df (fun _ z => nomatch z)
    exact .inl ⟨_, rfl, q _ F H (Grow.refl s) (.int _)⟩
  · cases e
    cases r.df (fun _ z => nomatch z)
    exact .inr ⟨_, rfl, q _ F H (Grow.refl s) (.int _)⟩
  · cases e
def tupF : PyData → Option PyData
  | .list ds => some (.tuple ds)
  | .tuple ds => some (.tuple ds)
  | _ => none
theorem c_tuple : Call1 X (.type "tuple") tupF := by
  refine ⟨_, call_tuple_of, fun a d e x F H Q s r q => ?_⟩
  unfold tupF at e
  split at e
  · cases e
    obtain ⟨p, vs, rfl, hp, h2⟩ := rP.list s r
    refine ⟨_, vs, rfl, .inl ⟨.inl (.inl hp), fun l hl => ?_⟩⟩
    obtain ⟨g, z⟩ := grow_tup s hl h2
    exact q _ _ _ g z
  · cases e
    have r := r.df (fun _ z => nomatch z)
    cases r with
    | tup h1 h2 => exact ⟨_, _, rfl, .inr ⟨sqT_mono s h1, q _ F H (Grow.refl s) (.tup h1 h2)⟩⟩
  · cases e
theorem c_list : Call1T X (.type "list") itemsF := by
  refine ⟨_, call_list_of, fun a ds e x F H Q s r q => ?_⟩
  unfold itemsF at e
  split at e
  · cases e
    obtain ⟨p, vs, rfl, hp, h2⟩ := rP.list s r
    exact ⟨_, vs, rfl, .inl (.inl (.inl hp)), fun l hl => q l vs F H (Grow.refl s) hl h2⟩
  · cases e
    have r := r.df (fun _ z => nomatch z)
    cases r with
    | tup h1 h2 => exact ⟨_, _, rfl, .inr (sqT_mono s h1), fun l hl => q l _ F H (Grow.refl s) hl h2⟩
  · cases e
/-! isinstance -/
def tyName : PyData → String
  | .none => "NoneType"
  | .bool _ => "bool"
  | .int _ => "int"
  | .str _ => "str"
  | .list _ => "list"
  | .tuple _ => "tuple"
  | .dict _ => "dict"
def instF (n : String) (d : PyData) : Option PyData := (kitB (tyName d) n).map .bool
theorem df_ty {K : PySem.W.Frag} {F H : Hp} {v : V} {d : PyData} (s : Same F H) (h : Df K F v d) : TyX K H v (.type (tyName d)) := by
  cases h with
  | non => exact .base .non
  | bl b => exact .base (.bl b)
  | int i => exact .base (.int i)
  | str x => exact .base (.str x)
  | lst h1 h2 => exact .base (.lst (s _ _ h1))
  | tup h1 h2 =>
    rcases h1 with (h1 | ⟨o, h1⟩) | ⟨o, its, n, h1, h2, _⟩
    · exact .base (.tup (s _ _ h1))
    · exact .fTuple (s _ _ h1)
    · exact .kTuple h1 h2
variable {W : WX} {pos p p2 : Pos} {e : Expr} {m : M PyData} {y : Str} {n : String}
theorem vd_isi (n : String) (hm : X.mg "isinstance" = none) (hmy : X.mg y = none) (hv : bootBuiltins y = some (.type n)) (h : VD X W e m) (hg : Gl X "isinstance" := by rfl) (hgy : Gl X y := by rfl)
    (hst : starEach [e, .Name y p2] X.env = (false, eval e X.env) :: starEach [.Name y p2] X.env := by rfl) (hst2 : starEach [.Name y p2] X.env = (false, eval (.Name y p2) X.env) :: starEach [] X.env := by rfl) (hn : y ≠ "__name__" := by decide) (hd : (y == ("__debug__" : Str)) = false := by decide) :
    VD X W (.Call (.Name "isinstance" p) [e, .Name y p2] [] pos) (mC1 (instF n) m) := by
  obtain ⟨t, pe, s⟩ := h
  refine ⟨_, pe_callB call_isi hg hm (by decide +kernel) (pa_cons pe (pa_cons (pe_bltn (v := V.ty n) hgy hmy hv rfl hn hd) pa_nil hst2) hst) (by decide) (by decide) hst (by rw [hst2] <;> rfl), fun Γ σ F H O Q k h => s Γ σ F H O _ k ?_⟩
  unfold mC1 at h
  refine HitN.bind h fun d Γ1 v F1 H1 O1 k1 r1 s1 h1 => ?_
  obtain ⟨d', e', q⟩ := HitN.fin h1 k1
  unfold instF at e'
  cases q1 : kitB (tyName d) n with
  | none => rw [q1] at e'; cases e'
  | some b =>
    rw [q1] at e'
    cases e'
    exact ⟨v, .ty n, _, _, b, rfl, .ty n, df_ty k1.sub r1, kit_ty q1, q _ F1 H1 (Grow.refl k1.sub) (.bl _)⟩
end

/-! ### owned lists change -/
section
variable {K : PySem.W.Frag} {F H : Hp}
theorem Ok.putL {Γ : G} {σ : St} {O o : List Addr} {i : Nat} {a : Addr} {vs vs' : List V} {ts' : List T} (k : Ok K F H (Γ.set i none) σ O) (e : σ[i]? = some (some (.ref a))) (ha : H a = some (.lst vs)) (r : RepTs K F H ts' vs' o) (n : (a :: (o ++ O)).Nodup) (x : ∀ b ∈ a :: o, F b = none) :
    ∃ O2, Ok K F (upd H a (.lst vs')) (Γ.set i (some (.lst ts'))) σ O2 ∧ Step F H (a :: (o ++ O)) F (upd H a (.lst vs')) O2 := by
  have hO : ∀ b ∈ O, b ≠ a := fun b m e => (List.nodup_cons.mp n).1 (by rw [← e]; exact List.mem_append_right _ m)
  have ho : ∀ b ∈ o, b ≠ a := fun b m e => (List.nodup_cons.mp n).1 (by rw [← e]; exact List.mem_append_left _ m)
  have k1 : Ok K F (upd H a (.lst vs')) (Γ.set i none) σ O := ⟨fun b z q => by
    rw [upd_ne fun w => by subst w; rw [x b (List.mem_cons_self ..)] at q; cases q]
    exact k.sub b z q, RepG.mono (Same.refl _) k.rep fun b m => upd_ne (hO b m), k.nd, k.out⟩
  have r1 : RepT K F (upd H a (.lst vs')) (.lst ts') (.ref a) (a :: o) := by
    unfold RepT
    exact ⟨a, vs', o, rfl, upd_same, RepTs.mono (Same.refl _) _ _ _ r fun b m => upd_ne (ho b m), rfl⟩
  have n2 : ((a :: o) ++ O).Nodup := n
  obtain ⟨O2, k2, s2⟩ := k1.back (t := .lst ts') e r1 n2 x
  rw [List.set_set] at k2
  refine ⟨O2, k2, ⟨Same.refl _, fun b hb ho => ⟨upd_ne fun e => ho (by rw [e]; exact List.mem_cons_self ..), id⟩, fun b m => ?_⟩⟩
  exact (s2.own b m).imp (fun z => z) fun z => absurd z (RepG.live k2.rep b m)
theorem RepTs.setF {d : PyData} {v : V} (r : Df K F v d) : ∀ {ts : List T} {vs : List V} {o : List Addr} (j : Nat), RepTs K F H ts vs o → o.Nodup → ∃ o2, RepTs K F H (ts.set j (.frz d)) (vs.set j v) o2 ∧ o2.Nodup ∧ ∀ b ∈ o2, b ∈ o
  | [], _, o, j, h, n => by
    unfold RepTs at h
    obtain ⟨rfl, rfl⟩ := h
    exact ⟨[], by unfold List.set RepTs; exact ⟨rfl, rfl⟩, n, fun _ m => m⟩
  | t :: ts, _, _, 0, h, n => by
    unfold RepTs at h
    obtain ⟨v', r', o1, o2, rfl, h1, h2, rfl⟩ := h
    refine ⟨o2, ?_, (List.nodup_append.mp n).2.1, fun b m => List.mem_append_right _ m⟩
    show RepTs K F H (.frz d :: ts) (v :: r') o2
    unfold RepTs
    exact ⟨v, r', [], o2, rfl, repFrz r, h2, rfl⟩
  | t :: ts, _, _, j + 1, h, n => by
    unfold RepTs at h
    obtain ⟨v', r', o1, o2, rfl, h1, h2, rfl⟩ := h
    obtain ⟨o3, g1, g2, g3⟩ := RepTs.setF r j h2 (List.nodup_append.mp n).2.1
    refine ⟨o1 ++ o3, ?_, List.nodup_append.mpr ⟨(List.nodup_append.mp n).1, g2, fun a ha b hb => (List.nodup_append.mp n).2.2 a ha b (g3 b hb)⟩, fun b m => ?_⟩
    · show RepTs K F H (t :: ts.set j (.frz d)) (v' :: r'.set j v) (o1 ++ o3)
      unfold RepTs
      exact ⟨v', _, o1, o3, rfl, h1, g1, rfl⟩
    · rcases List.mem_append.mp m with m | m
      · exact List.mem_append_left _ m
      · exact List.mem_append_right _ (g3 b m)
theorem RepTs.erase : ∀ {ts : List T} {vs : List V} {o : List Addr} (j : Nat), RepTs K F H ts vs o → o.Nodup → ∃ o2, RepTs K F H (ts.eraseIdx j) (vs.eraseIdx j) o2 ∧ o2.Nodup ∧ ∀ b ∈ o2, b ∈ o
  | [], _, o, j, h, n => by
    unfold RepTs at h
    obtain ⟨rfl, rfl⟩ := h
    exact ⟨[], by unfold List.eraseIdx RepTs; exact ⟨rfl, rfl⟩, n, fun _ m => m⟩
  | t :: ts, _, _, 0, h, n => by
    unfold RepTs at h
    obtain ⟨v', r', o1, o2, rfl, h1, h2, rfl⟩ := h
    exact ⟨o2, h2, (List.nodup_append.mp n).2.1, fun b m => List.mem_append_right _ m⟩
  | t :: ts, _, _, j + 1, h, n => by
    unfold RepTs at h
    obtain ⟨v', r', o1, o2, rfl, h1, h2, rfl⟩ := h
    obtain ⟨o3, g1, g2, g3⟩ := RepTs.erase j h2 (List.nodup_append.mp n).2.1
    refine ⟨o1 ++ o3, ?_, List.nodup_append.mpr ⟨(List.nodup_append.mp n).1, g2, fun a ha b hb => (List.nodup_append.mp n).2.2 a ha b (g3 b hb)⟩, fun b m => ?_⟩
    · show RepTs K F H (t :: ts.eraseIdx j) (v' :: r'.eraseIdx j) (o1 ++ o3)
      unfold RepTs
      exact ⟨v', _, o1, o3, rfl, h1, g1, rfl⟩
    · rcases List.mem_append.mp m with m | m
      · exact List.mem_append_left _ m
      · exact List.mem_append_right _ (g3 b m)
theorem RepTs.dropLast {ts : List T} {vs : List V} {o : List Addr} (h : RepTs K F H ts vs o) (n : o.Nodup) : ∃ o2, RepTs K F H ts.dropLast vs.dropLast o2 ∧ o2.Nodup ∧ ∀ b ∈ o2, b ∈ o := by
  obtain ⟨o2, h1, h2, h3⟩ := RepTs.erase (ts.length - 1) h n
  rw [show ts.eraseIdx (ts.length - 1) = ts.dropLast from List.eraseIdx_length_sub_one, ← RepTs.length h, show vs.eraseIdx (vs.length - 1) = vs.dropLast from List.eraseIdx_length_sub_one] at h1
  exact ⟨o2, h1, h2, h3⟩
end
section
variable {X : Cx} {W : WX} {io : List Nat} {pos p p2 p3 : Pos} {e k : Expr} {x : Str} {m mk : M PyData}
/-- a slot that owns a list: where it stands -/
theorem Ok.lstAt {K : PySem.W.Frag} {F H : Hp} {Γ : G} {σ : St} {O : List Addr} {i : Nat} {ts : List T} {v : V} (k : Ok K F H Γ σ O) (e : Γ[i]? = some (some (.lst ts))) (ev : σ[i]? = some (some v)) :
    ∃ a vs o O', v = .ref a ∧ H a = some (.lst vs) ∧ RepTs K F H ts vs o ∧ Ok K F H (Γ.set i none) σ O' ∧ (a :: (o ++ O')).Nodup ∧ (∀ b ∈ a :: o, F b = none) ∧ Step F H O F H (a :: (o ++ O')) := by
  obtain ⟨v', o, O', e1, r, k1, n, x, s⟩ := k.take e
  rw [ev] at e1
  cases e1
  unfold RepT at r
  obtain ⟨a, vs, o', rfl, ha, hr, rfl⟩ := r
  exact ⟨a, vs, o', O', rfl, ha, hr, k1, n, x, s⟩
/-- x[k] = e -/
def setIx (i : Nat) (d : PyData) (kd : PyData) (Γ : G) : Option G := match kd, Γ[i]? with
  | .int j, some (some (.lst ts)) => (match ixN ts.length j with
    | some l => some (Γ.set i (some (.lst (ts.set l (.frz d)))))
    | none => none)
  | _, _ => none
def mSetIx (i : Nat) (m mk : M PyData) : MS := bS m fun d Γ => match Γ[i]? with
  | some (some _) => bS mk (fun kd Γ => (setIx i d kd Γ).map .nx) Γ
  | _ => none
theorem vs_setIx (i : Nat) (he : VD X W e m) (hk : VD X W k mk) (hN : X.N[i]? = some x := by rfl) (hv : Vis X.env.scope x := by first | exact Or.inl rfl | exact Or.inr (Or.inl rfl) | exact Or.inr (Or.inr rfl)) (hd : (x == ("__debug__" : Str)) = false := by decide)
    (hcd : (x == ("__classdict__" : Str)) = false := by decide)
    (ha : ∀ v, assign (.Subscript (.Name x p) k p2) X.env v = (do
      let ov ← holding [v] (eval (.Name x p) X.env)
      let iv ← holding [v, ov] (eval k X.env)
      standAt p2
      holding [v, ov, iv] (setItem ov iv v)
      release [v, ov, iv] []) := by intro _; rfl)
    (hs : swapsWithSole [.Subscript (.Name x p) k p2] e pos.line X.env = pure false := by rfl) (hw : swappedStores [.Subscript (.Name x p) k p2] e X.env = pure none := by rfl)
    (h1 : (assignEach [.Subscript (.Name x p) k p2] X.env).map (·.2) = [assign (.Subscript (.Name x p) k p2) X.env] := by rfl) : VS X W io (.Assign [.Subscript (.Name x p) k p2] e pos) (mSetIx i m mk) := by
  obtain ⟨t, pe, s⟩ := he
  obtain ⟨tk, pk, sk⟩ := hk
  refine ⟨_, ps_asg pe (pg_sub (pe_var hN hv hd hcd) pk set_list ha) hs hw h1, fun Γ σ F H O D k h => s Γ σ F H O _ k ?_⟩
  unfold mSetIx at h
  refine HitS.bindN h fun d Γ1 v F1 H1 O1 k1 r1 s1 h1 => ?_
  split at h1
  · rename_i t0 e0
    obtain ⟨v0, _, _, ev0, _⟩ := k1.take e0
    refine ⟨v0, ev0, sk Γ1 σ F1 H1 O1 _ k1 ?_⟩
    refine HitS.bindN h1 fun kd Γ2 w F2 H2 O2 k2 r2 s2 h2 => ?_
    unfold setIx at h2
    split at h2
    · rename_i j ts e2
      cases r2
      obtain ⟨a, vs, o, O', rfl, ha', hr, k3, n3, x3, s3⟩ := k2.lstAt e2 ev0
      split at h2
      · rename_i l e3
        have r1' := Df.mono s2.f _ _ r1
        have n3' := (List.nodup_cons.mp n3).2
        obtain ⟨o2, g1, g2, g3⟩ := RepTs.setF r1' l hr (List.nodup_append.mp n3').1
        have n4 : (a :: (o2 ++ O')).Nodup := by
          refine List.nodup_cons.mpr ⟨fun m => (List.nodup_cons.mp n3).1 ?_, List.nodup_append.mpr ⟨g2, k3.nd, fun x hx y hy => (List.nodup_append.mp n3').2.2 x (g3 x hx) y hy⟩⟩
          rcases List.mem_append.mp m with m | m
          · exact List.mem_append_left _ (g3 _ m)
          · exact List.mem_append_right _ m
        obtain ⟨O4, k4, s4⟩ := k3.putL ev0 ha' g1 n4 fun b m => by
          rcases List.mem_cons.mp m with rfl | m
          · exact x3 b (List.mem_cons_self ..)
          · exact x3 b (List.mem_cons_of_mem _ (g3 b m))
        refine ⟨a, vs, j, l, rfl, rfl, ha', by rw [RepTs.length hr]; exact e3, ?_⟩
        refine h2 σ F2 _ O4 k4 ((s3.less fun b m => ?_).trans s4) Keeps.refl
        rcases List.mem_cons.mp m with rfl | m
        · exact List.mem_cons_self ..
        · rcases List.mem_append.mp m with m | m
          · exact List.mem_cons_of_mem _ (List.mem_append_left _ (g3 b m))
          · exact List.mem_cons_of_mem _ (List.mem_append_right _ m)
      · exact h2.elim
    · exact h2.elim
  · exact h1.elim
/-- x.append(e) -/
def mApp (i : Nat) (m : M T) : M T := fun Γ => match Γ[i]? with
  | some (some (.lst _)) => bM m (fun t Γ => match Γ[i]? with
    | some (some (.lst ts)) => if ts.length < sizeLine then some (.ok (.frz .none) (Γ.set i (some (.lst (ts ++ [t]))))) else none
    | _ => none) Γ
  | _ => none
theorem vt_append (i : Nat) {mt : M T} (he : VT X W e mt) (hN : X.N[i]? = some x := by rfl) (hv : Vis X.env.scope x := by first | exact Or.inl rfl | exact Or.inr (Or.inl rfl) | exact Or.inr (Or.inr rfl)) (hd : (x == ("__debug__" : Str)) = false := by decide)
    (hcd : (x == ("__classdict__" : Str)) = false := by decide) (hst : starEach [e] X.env = (false, eval e X.env) :: starEach [] X.env := by rfl)
    (pbm : ∀ {te : TE} {ta : TE}, PE X (.Name x p) te → PE X e ta → PE X (.Call (.Attribute (.Name x p) "append" p2) [e] [] pos) (tBM X.K "list" rAppend te (tCons ta tNil)) := by
      intro te ta h1 h2; exact pe_bm PySem.F.plainAttrs_list PySem.F.slot_list_append PySem.F.type_list_append mt_append h1 (pa_cons h2 pa_nil)) :
    VT X W (.Call (.Attribute (.Name x p) "append" p2) [e] [] pos) (mApp i mt) := by
  obtain ⟨t, pe, s⟩ := he
  refine ⟨_, pbm (pe_var hN hv hd hcd) pe, fun Γ σ F H O Q k h => ?_⟩
  unfold mApp at h
  split at h
  · rename_i ts0 e0
    obtain ⟨v0, _, _, ev0, _⟩ := k.take e0
    obtain ⟨a, vs, o, O', rfl, ha, _⟩ := k.lstAt e0 ev0
    refine ⟨_, ev0, .inl ⟨rfl, _, SqL.of ha⟩, s Γ σ F H O _ k ?_⟩
    refine HitT.bindT h fun tv Γ1 y F1 H1 O1 oy k1 r1 n1 x1 s1 h1 => ?_
    split at h1
    · rename_i ts e2
      split at h1
      · rename_i hz
        obtain ⟨a', vs2, o2, O2, e3, ha2, hr, k3, n3, x3, s3⟩ := k1.lstAt e2 ev0
        cases e3
        have sub : ∀ b ∈ a :: (o2 ++ O2), b ∈ O1 := fun b m => by
          rcases s3.own b m with z | z
          · exact z
          · rcases List.mem_cons.mp m with rfl | m
            · rw [ha2] at z; cases z
            · rcases List.mem_append.mp m with m | m
              · exact absurd z (RepTs.live _ _ _ hr b m)
              · exact absurd z (RepG.live k3.rep b m)
        have dy : ∀ b ∈ oy, b ∉ O1 := fun b m q => (List.nodup_append.mp n1).2.2 b m b q rfl
        have n3' := (List.nodup_cons.mp n3).2
        have n4 : (a :: ((o2 ++ oy) ++ O2)).Nodup := by
          refine List.nodup_cons.mpr ⟨fun m => ?_, List.nodup_append.mpr ⟨List.nodup_append.mpr ⟨(List.nodup_append.mp n3').1, (List.nodup_append.mp n1).1, fun b hb c hc q => ?_⟩, k3.nd, fun b hb c hc q => ?_⟩⟩
          · rcases List.mem_append.mp m with m | m
            · rcases List.mem_append.mp m with m | m
              · exact (List.nodup_cons.mp n3).1 (List.mem_append_left _ m)
              · exact dy _ m (sub _ (List.mem_cons_self ..))
            · exact (List.nodup_cons.mp n3).1 (List.mem_append_right _ m)
          · subst q
            exact dy b hc (sub b (List.mem_cons_of_mem _ (List.mem_append_left _ hb)))
          · subst q
            rcases List.mem_append.mp hb with hb | hb
            · exact (List.nodup_append.mp n3').2.2 b hb b hc rfl
            · exact dy b hb (sub b (List.mem_cons_of_mem _ (List.mem_append_right _ hc)))
        have r4 : RepTs X.K F1 H1 (ts ++ [tv]) (vs2 ++ [y]) (o2 ++ oy) := RepTs.append hr (by unfold RepTs RepTs; exact ⟨y, [], oy, [], rfl, r1, ⟨rfl, rfl⟩, by rw [List.append_nil]⟩)
        obtain ⟨O4, k4, s4⟩ := k3.putL ev0 ha2 r4 n4 fun b m => by
          rcases List.mem_cons.mp m with rfl | m
          · exact x3 b (List.mem_cons_self ..)
          · rcases List.mem_append.mp m with m | m
            · exact x3 b (List.mem_cons_of_mem _ m)
            · exact x1 b m
        refine ⟨a, vs2, y, rfl, rfl, ha2, by rw [RepTs.length hr]; exact hz, ?_⟩
        refine h1 .non F1 _ O4 [] k4 (repFrz .non) k4.nd (fun _ m => nomatch m) ⟨Same.refl _, fun b hb no => s4.fr b hb fun m => no ?_, fun b m => ?_⟩
        · rcases List.mem_cons.mp m with rfl | m
          · exact List.mem_append_right _ (sub b (List.mem_cons_self ..))
          · rcases List.mem_append.mp m with m | m
            · rcases List.mem_append.mp m with m | m
              · exact List.mem_append_right _ (sub b (List.mem_cons_of_mem _ (List.mem_append_left _ m)))
              · exact List.mem_append_left _ m
            · exact List.mem_append_right _ (sub b (List.mem_cons_of_mem _ (List.mem_append_right _ m)))
        · rcases s4.own b m with z | z
          · refine .inl ?_
            rcases List.mem_cons.mp z with rfl | m
            · exact List.mem_append_right _ (sub b (List.mem_cons_self ..))
            · rcases List.mem_append.mp m with m | m
              · rcases List.mem_append.mp m with m | m
                · exact List.mem_append_right _ (sub b (List.mem_cons_of_mem _ (List.mem_append_left _ m)))
                · exact List.mem_append_left _ m
              · exact List.mem_append_right _ (sub b (List.mem_cons_of_mem _ (List.mem_append_right _ m)))
          · exact .inr z
      · exact h1.elim
    · exact h1.elim
  · exact h.elim
/-- raise X('..') -/
theorem vs_raise {xs ms : Str} {j : Nat} (hc : X.calm = true) (tk : Takes X W) (q : PySem.W.excIn X.K (He.ga X.K xs) He.veBase "ValueError.__new__" = true) (gC : X.mg xs = some (.ref (He.ga X.K xs))) (kC : PySem.W.keepIn X.K (.ref (He.ga X.K xs)) = true)
    (bC : PySem.W.subIn X.K (.ref (He.ga X.K xs)) (.type "BaseException") = some true) (tC : PySem.W.typeIn X.K (.ref (He.ga X.K xs)) = some (.type "type")) (hg : Gl X xs := by rfl) (hdb : (xs == ("__debug__" : Str)) = false := by decide) :
    VS X W io (.Raise (some (.Call (.Name xs p) [.Constant (.str ms) j p2] [] p3)) none pos) (fun Γ => some (.ex xs Γ)) :=
  ⟨_, ps_raise hc tk (pmk_own PySem.F.excBase_ValueError q gC kC (raises_own bC tC) hg hdb), fun Γ σ F H O D k h => h σ F H O k Step.refl Keeps.refl⟩
end
end TW

namespace TW
open PySem PySem.Spec L2
/-- a def of the module by its name -/
structure Fn (P : Program) (w : World) (K : PySem.W.Frag) (mg : Str → Option Value) (base : Heap) (x : Str) (n k : Nat) (mf : MF) : Prop where
  ex : ∃ (f : Addr) (fd : FuncData) (ps : List Str), FnOk P w K mg base (L2.CX P w) k f fd ps (spM n K mf) ∧ mg x = some (.ref f) ∧ PySem.W.keepIn K (.ref f) = true ∧ Binds K fd ps []
section
variable {X : Cx} {W : WX} {io : List Nat} {pos : Pos} {e : Expr} {es : List Expr} {as : List Ar}
theorem vt_fn {n k k' : Nat} {x : Str} {p : Pos} {mf : MF} (Fn : Fn X.prog X.w X.K X.mg X.base x n k mf) (hr : Room k' X.A) (hk : k ≤ k') (tk : Takes X W) (ha : VA X W (e :: es) as) (hn : (e :: es).length = n := by rfl) (hn2 : as.length = n := by rfl) (hg : Gl X x := by rfl) (hdb : (x == ("__debug__" : Str)) = false := by decide)
    (he : starEach (e :: es) X.env = (false, eval e X.env) :: starEach es X.env := by rfl) (hpl : (backTo pos (starEach es X.env)).any (·.1) = false := by rfl) : VT X W (.Call (.Name x p) (e :: es) [] pos) (mCall mf as) := by
  obtain ⟨f, fd, ps, F, hm, kp, hb⟩ := Fn.ex
  exact vt_call F (hr.mono hk) hm kp hb tk ha hn hn2 hg hdb he hpl
def negF : PyData → Option PyData
  | .int i => some (.int (-i))
  | _ => none
theorem vd_neg {m : M PyData} (h : VD X W e m) : VD X W (.UnaryOp .USub e pos) (mC1 negF m) := by
  obtain ⟨t, p, s⟩ := h
  refine ⟨_, pe_un un_neg p, fun Γ σ F H O Q k h => s Γ σ F H O _ k ?_⟩
  unfold mC1 at h
  refine HitN.bind h fun d Γ1 v F1 H1 O1 k1 r1 s1 h1 => ?_
  obtain ⟨d', e', q⟩ := HitN.fin h1 k1
  unfold negF at e'
  split at e'
  · cases e'
    cases r1
    exact ⟨_, rfl, q _ F1 H1 (Grow.refl k1.sub) (.int _)⟩
  · cases e'
end
abbrev ltF : OpF := cmpF fun i j => decide (i < j)
theorem od_lt {X : Cx} : OpD X (compareOp .Lt) ltF := od_cmp op_lt
/-- len(x) of a name -/
def lenT : T → Option PyData
  | .frz d => lenF d
  | .scr ns => some (.int ns.length)
  | .lst ts => some (.int ts.length)
  | .dct kvs => some (.int kvs.length)
def mLen (i : Nat) : M PyData := fun Γ => match Γ[i]? with
  | some (some t) => (lenT t).map fun d => .ok d Γ
  | _ => none
theorem paired_len {α β : Type} {R : α → β → Prop} : ∀ {l : List α} {l' : List β}, Paired R l l' → l.length = l'.length
  | _, _, .nil => rfl
  | _, _, .cons _ t => congrArg Nat.succ (paired_len t)
def rLenD : List V → Hp → VK → Prop := fun xs H Q => ∃ a kvs, xs = [.ref a] ∧ H a = some (.dK kvs) ∧ Q (.int kvs.length) H
theorem call_lenK {X : Cx} : CallR X (.builtin "len") rLenD := by
  intro pins s σ H xs us Q I r h
  obtain ⟨a, kvs, rfl, ha, q⟩ := h
  rw [Vals.ref1 r]
  exact d_len I (.inl ha) fun t s' I' => ⟨.int kvs.length, H, I', ⟨t, rfl⟩, q⟩
section
variable {X : Cx} {W : WX} {pos p p2 : Pos}
theorem vd_len (i : Nat) {x : Str} (hm : X.mg "len" = none) (hN : X.N[i]? = some x := by rfl) (hv : Vis X.env.scope x := by first | exact Or.inl rfl | exact Or.inr (Or.inl rfl) | exact Or.inr (Or.inr rfl)) (hd : (x == ("__debug__" : Str)) = false := by decide)
    (hcd : (x == ("__classdict__" : Str)) = false := by decide) (hg : Gl X "len" := by rfl) (hst : starEach [Expr.Name x p2] X.env = (false, eval (Expr.Name x p2) X.env) :: starEach [] X.env := by rfl) : VD X W (.Call (.Name "len" p) [.Name x p2] [] pos) (mLen i) := by
  refine ⟨_, pe_callB (call_len.or call_lenK) hg hm boot_len (pa_cons (pe_var hN hv hd hcd) pa_nil hst) (by decide) (by decide) hst, fun Γ σ F H O Q k h => ?_⟩
  unfold mLen at h
  split at h
  · rename_i t e
    obtain ⟨v, o, O', e1, r, k1, n, x, s⟩ := k.take e
    refine ⟨v, e1, ?_⟩
    cases q : lenT t with
    | none => rw [q] at h; exact h.elim
    | some d =>
      rw [q] at h
      have fin : ∀ j : Nat, d = .int j → Q (.int j) H := fun j e => by
        subst e
        exact h (.int j) F H O k (.int _) Step.refl
      unfold RepT at r
      unfold lenT at q
      split at q
      · rename_i d0
        obtain ⟨r, _⟩ := r
        unfold lenF at q
        split at q
        · cases q
          cases r with
          | lst h1 h2 => exact .inl ⟨_, _, rfl, .inl ⟨_, .inl (.inl (k.sub _ _ h1)), (DfAll.length h2).symm⟩, fin _ rfl⟩
        · cases q
          cases r with
          | tup h1 h2 => exact .inl ⟨_, _, rfl, .inr ⟨_, sqT_mono k.sub h1, (DfAll.length h2).symm⟩, fin _ rfl⟩
        · split at q
          · rename_i hz
            cases q
            cases r
            exact .inl ⟨_, _, rfl, ⟨hz, rfl⟩, fin _ rfl⟩
          · cases q
        · cases q
      · cases q
        obtain ⟨⟨a, rfl, hs⟩, _⟩ := r
        exact .inl ⟨_, _, rfl, .inl ⟨_, k.sub.seq hs, by rw [List.length_map]⟩, fin _ rfl⟩
      · cases q
        obtain ⟨a, vs, o', rfl, ha, hr, rfl⟩ := r
        exact .inl ⟨_, _, rfl, .inl ⟨_, .inl (.inl ha), (RepTs.length hr).symm⟩, fin _ rfl⟩
      · cases q
        obtain ⟨a, ps, rfl, ha, hp, rfl⟩ := r
        refine .inr ⟨a, ps, rfl, ha, ?_⟩
        rw [← paired_len hp]
        exact fin _ rfl
  · exact h.elim
end
/-! ### the end -/
theorem fn_calm {P : Program} {w : World} {K : PySem.W.Frag} {mg : Str → Option Value} {base : Heap} {k : Nat} {f : Addr} {fd : FuncData} {ps : List Str} {sp : Sp} (F : FnOk P w K mg base (L2.CX P w) k f fd ps sp) :
    FnOk P w K mg base CX0 k f fd ps (fun vs H Q _ => sp vs H Q E0) := by
  refine ⟨fun vs H Q E h => F.len vs H Q E0 h, fun A outer s H args us vs Q E hr he hb hv hs => ?_⟩
  refine codeAny_mono (F.run A outer s H args us vs Q E0 hr he hb hv hs) fun r s' h => ?_
  cases r with
  | ok fl => cases fl <;> exact h
  | error e =>
    obtain ⟨_, _, _, _, _, _, _, _, _, _, _, _, z⟩ := (show L2.CX P w outer H s E0 e s' from h)
    exact z.elim
theorem law_end {K : PySem.W.Frag} {mf : MF} {n : Nat} (h : ∀ ns : List Int, ns.length ≤ n → ∃ outs, mf [.scr ns] = some (.ret (.frz (.bool true)) outs)) (H : Hp) (a : Addr) (ns : List Int) (hl : ns.length ≤ n) (hS : SqL K H a (ns.map V.int)) :
    spM 1 K mf [.ref a] H (fun v _ => v = .bl true) E0 := by
  obtain ⟨outs, e⟩ := h ns hl
  refine ⟨H, [.scr ns], [], rfl, Same.refl _, ?_, List.nodup_nil, fun _ m => (nomatch m), ?_⟩
  · unfold RepTs RepTs
    exact ⟨_, _, [], [], rfl, by unfold RepT; exact ⟨⟨a, rfl, hS⟩, rfl⟩, ⟨rfl, rfl⟩, rfl⟩
  · rw [e]
    intro v F' H' O' o s1 r1 r2 _ _ _
    unfold RepT at r2
    cases r2.1
    rfl
end TW

/-! Reasoning about runs: what is wanted behind a run. -/
namespace TW
open PySem PySem.Spec L2
def onO {α : Type} (o : Option α) (Q : α → Prop) : Prop := ∃ a, o = some a ∧ Q a
def wpM {α : Type} (m : M α) (Γ : G) (Q : Rs α → Prop) : Prop := onO (m Γ) Q
def wpS (m : MS) (Γ : G) (Q : Fl → Prop) : Prop := onO (m Γ) Q
def bQ {α β : Type} (f : α → M β) (Q : Rs β → Prop) : Rs α → Prop
  | .ok a Γ => wpM (f a) Γ Q
  | .ex c Γ => Q (.ex c Γ)
def sQ {α : Type} (f : α → MS) (Q : Fl → Prop) : Rs α → Prop
  | .ok a Γ => wpS (f a) Γ Q
  | .ex c Γ => Q (.ex c Γ)
def nQ (b : MS) (Q : Fl → Prop) : Fl → Prop
  | .nx Γ => wpS b Γ Q
  | r => Q r
section
variable {α β : Type} {Γ Γ' : G} {i n : Nat} {a x : α} {d : PyData} {t : T} {ts : List T}
theorem onO_some {Q : α → Prop} : onO (some a) Q = Q a := by unfold onO; simp
theorem onO_none {Q : α → Prop} : onO (none : Option α) Q = False := by unfold onO; simp
theorem onO_if {c : Prop} [Decidable c] {Q : α → Prop} : onO (if c then some a else none) Q = (c ∧ Q a) := by
  unfold onO
  by_cases h : c <;> simp [h]
theorem onO_map {f : α → β} {o : Option α} {Q : β → Prop} : onO (o.map f) Q = onO o fun a => Q (f a) := by
  unfold onO
  cases o <;> simp
theorem wp_bM {m : M α} {f : α → M β} {Q : Rs β → Prop} : wpM (bM m f) Γ Q = wpM m Γ (bQ f Q) := by
  unfold wpM bM onO
  cases q : m Γ with
  | none => simp
  | some r => cases r <;> simp [bQ, wpM, onO]
theorem wp_bS {m : M α} {f : α → MS} {Q : Fl → Prop} : wpS (bS m f) Γ Q = wpM m Γ (sQ f Q) := by
  unfold wpM wpS bS onO
  cases q : m Γ with
  | none => simp
  | some r => cases r <;> simp [sQ, wpS, onO]
theorem bQ_ok {f : α → M β} {Q : Rs β → Prop} : bQ f Q (.ok a Γ) = wpM (f a) Γ Q := rfl
theorem sQ_ok {f : α → MS} {Q : Fl → Prop} : sQ f Q (.ok a Γ) = wpS (f a) Γ Q := rfl
theorem bQ_ex {f : α → M β} {Q : Rs β → Prop} {c : Str} : bQ f Q (.ex c Γ) = Q (.ex c Γ) := rfl
theorem sQ_ex {f : α → MS} {Q : Fl → Prop} {c : Str} : sQ f Q (.ex c Γ) = Q (.ex c Γ) := rfl
theorem wp_pM {Q : Rs α → Prop} : wpM (pM a) Γ Q = Q (.ok a Γ) := by unfold wpM pM; rw [onO_some]
theorem wp_oM {o : Option α} {Q : Rs α → Prop} : wpM (oM o) Γ Q = onO o fun a => Q (.ok a Γ) := by unfold wpM oM; rw [onO_map]
theorem wp_mC {Q : Rs PyData → Prop} : wpM (mC d) Γ Q = Q (.ok d Γ) := wp_pM
theorem wp_qS {a b : MS} {Q : Fl → Prop} : wpS (qS a b) Γ Q = wpS a Γ (nQ b Q) := by
  unfold wpS qS onO
  cases q : a Γ with
  | none => simp
  | some r => cases r <;> simp [nQ, wpS, onO]
theorem nQ_nx {b : MS} {Q : Fl → Prop} : nQ b Q (.nx Γ) = wpS b Γ Q := rfl
theorem nQ_rt {b : MS} {Q : Fl → Prop} : nQ b Q (.rt t Γ) = Q (.rt t Γ) := rfl
theorem nQ_bk {b : MS} {Q : Fl → Prop} : nQ b Q (.bk Γ) = Q (.bk Γ) := rfl
theorem nQ_ct {b : MS} {Q : Fl → Prop} : nQ b Q (.ct Γ) = Q (.ct Γ) := rfl
theorem nQ_ex {b : MS} {Q : Fl → Prop} {c : Str} : nQ b Q (.ex c Γ) = Q (.ex c Γ) := rfl
theorem wp_nS {Q : Fl → Prop} : wpS nS Γ Q = Q (.nx Γ) := by unfold wpS nS; rw [onO_some]
/-! slots -/
def atV (i : Nat) (Γ : G) (Q : T → Prop) : Prop := onO (Γ.getD i none) Q
theorem atV_0 {x : Option T} {Q : T → Prop} : atV 0 (x :: Γ) Q = onO x Q := rfl
theorem atV_s {x : Option T} {Q : T → Prop} : atV (i + 1) (x :: Γ) Q = atV i Γ Q := by unfold atV; simp
def varQ (i : Nat) (Γ : G) (Q : Rs PyData → Prop) : T → Prop
  | .frz d => Q (.ok d Γ)
  | t => onO (fz t) fun d => Q (.ok d (Γ.set i (some (.frz d))))
theorem getD_eq : Γ.getD i none = (Γ[i]?).getD none := by rw [List.getD_eq_getElem?_getD]
theorem wp_mVar {Q : Rs PyData → Prop} : wpM (mVar i) Γ Q = atV i Γ (varQ i Γ Q) := by
  unfold wpM mVar atV
  rw [getD_eq]
  cases q : Γ[i]? with
  | none => simp [onO]
  | some o =>
    cases o with
    | none => simp [onO]
    | some t =>
      cases t with
      | lst ts => cases e : fzs ts <;> simp [onO, varQ, fz, e]
      | _ => simp [onO, varQ, fz]
theorem varQ_frz {Q : Rs PyData → Prop} : varQ i Γ Q (.frz d) = Q (.ok d Γ) := rfl
theorem varQ_lst {Q : Rs PyData → Prop} : varQ i Γ Q (.lst ts) = onO (fzs ts) fun ds => Q (.ok (.list ds) (Γ.set i (some (.frz (.list ds))))) := by
  show onO (fz (.lst ts)) _ = _
  unfold fz
  rw [onO_map]
theorem wp_mMove {Q : Rs T → Prop} : wpM (mMove i) Γ Q = atV i Γ fun t => Q (.ok t (Γ.set i none)) := by
  unfold wpM mMove atV
  rw [getD_eq]
  cases q : Γ[i]? with
  | none => simp [onO]
  | some o => cases o <;> simp [onO]
def peekQ (Γ : G) (Q : Rs PyData → Prop) : T → Prop
  | .frz d => Q (.ok d Γ)
  | .lst ts => onO (ice ts) fun ds => Q (.ok (.list ds) Γ)
  | _ => False
theorem wp_mPeek {Q : Rs PyData → Prop} : wpM (mPeek i) Γ Q = atV i Γ (peekQ Γ Q) := by
  unfold wpM mPeek atV
  rw [getD_eq]
  cases q : Γ[i]? with
  | none => simp [onO]
  | some o =>
    cases o with
    | none => simp [onO]
    | some t =>
      cases t with
      | lst ts => cases e : ice ts <;> simp [onO, peekQ, e]
      | _ => simp [onO, peekQ]
theorem peekQ_frz {Q : Rs PyData → Prop} : peekQ Γ Q (.frz d) = Q (.ok d Γ) := rfl
theorem peekQ_lst {Q : Rs PyData → Prop} : peekQ Γ Q (.lst ts) = onO (ice ts) fun ds => Q (.ok (.list ds) Γ) := rfl
theorem ice_frz : ∀ ds : List PyData, ice (ds.map .frz) = some ds
  | [] => rfl
  | d :: ds => by
    show (ice (ds.map .frz)).map (d :: ·) = some (d :: ds)
    rw [ice_frz ds]
    rfl
theorem fzs_frz : ∀ ds : List PyData, fzs (ds.map .frz) = some ds
  | [] => rfl
  | d :: ds => by
    show (match fz (.frz d), fzs (ds.map .frz) with
      | some d, some ds => some (d :: ds)
      | _, _ => none) = some (d :: ds)
    rw [fzs_frz ds]
    rfl
theorem wp_mSet {m : M T} {Q : Fl → Prop} : wpS (mSet i m) Γ Q = wpM m Γ (sQ (fun t Γ => (storeG i t Γ).map .nx) Q) := wp_bS
theorem wp_store {Q : Fl → Prop} : wpS (fun Γ => (storeG i t Γ).map .nx) Γ Q = (i < Γ.length ∧ Q (.nx (Γ.set i (some t)))) := by
  unfold wpS
  rw [onO_map]
  unfold storeG
  rw [onO_if]
theorem wp_mT {m : M PyData} {Q : Rs T → Prop} : wpM (mT m) Γ Q = wpM m Γ (bQ (fun d => pM (.frz d)) Q) := wp_bM
theorem wp_mF {m : M T} {Q : Rs PyData → Prop} : wpM (mF m) Γ Q = wpM m Γ (bQ (fun t => oM (fz t)) Q) := wp_bM
theorem fz_frz : fz (.frz d) = some d := rfl
theorem fz_lst : fz (.lst ts) = (fzs ts).map .list := by unfold fz; rfl
theorem wp_mB {m : M PyData} {Q : Rs Bool → Prop} : wpM (mB m) Γ Q = wpM m Γ (bQ (fun d => oM (isB d)) Q) := wp_bM
theorem isB_bool {b : Bool} : isB (.bool b) = some b := rfl
theorem wp_mOp {f : OpF} {ma mb : M PyData} {Q : Rs PyData → Prop} : wpM (mOp f ma mb) Γ Q = wpM ma Γ (bQ (fun a => bM mb fun b => oM (f a b)) Q) := wp_bM
theorem wp_mC1 {g : PyData → Option PyData} {m : M PyData} {Q : Rs PyData → Prop} : wpM (mC1 g m) Γ Q = wpM m Γ (bQ (fun d => oM (g d)) Q) := wp_bM
theorem wp_mC2 {f : OpF} {ma mb : M PyData} {Q : Rs PyData → Prop} : wpM (mC2 f ma mb) Γ Q = wpM ma Γ (bQ (fun a => bM mb fun b => oM (f a b)) Q) := wp_bM
theorem wp_mC1T {g : PyData → Option (List PyData)} {m : M PyData} {Q : Rs T → Prop} : wpM (mC1T g m) Γ Q = wpM m Γ (bQ (fun d => oM ((g d).map fun ds => .lst (ds.map .frz))) Q) := wp_bM
theorem wp_mRet {m : M T} {Q : Fl → Prop} : wpS (mRet m) Γ Q = wpM m Γ (sQ (fun t Γ => some (.rt t Γ)) Q) := wp_bS
theorem wp_rt {Q : Fl → Prop} : wpS (fun Γ => some (.rt t Γ)) Γ Q = Q (.rt t Γ) := by unfold wpS; rw [onO_some]
theorem wp_nx {Q : Fl → Prop} : wpS (fun Γ => some (.nx Γ)) Γ Q = Q (.nx Γ) := by unfold wpS; rw [onO_some]
theorem wp_exS {Q : Fl → Prop} {c : Str} : wpS (fun Γ => some (.ex c Γ)) Γ Q = Q (.ex c Γ) := by unfold wpS; rw [onO_some]
theorem wp_mDrop {m : M T} {Q : Fl → Prop} : wpS (mDrop m) Γ Q = wpM m Γ (sQ (fun _ Γ => some (.nx Γ)) Q) := wp_bS
def ifQ (a b : Prop) : Bool → Prop
  | true => a
  | false => b
theorem ifQ_t {a b : Prop} : ifQ a b true = a := rfl
theorem ifQ_f {a b : Prop} : ifQ a b false = b := rfl
theorem ifQ_d {a b c : Prop} [Decidable c] : ifQ a b (decide c) = ((c → a) ∧ (¬ c → b)) := by
  by_cases h : c <;> simp [h, ifQ]
theorem wp_mWhen {c : M Bool} {a b : MS} {Q : Fl → Prop} : wpS (mWhen c a b) Γ Q = wpM c Γ (sQ (fun c => if c = true then a else b) Q) := wp_bS
theorem wp_ifS {c : Bool} {a b : MS} {Q : Fl → Prop} : wpS (if c = true then a else b) Γ Q = ifQ (wpS a Γ Q) (wpS b Γ Q) c := by cases c <;> rfl
theorem wp_ifM {c : Bool} {a b : M α} {Q : Rs α → Prop} : wpM (if c = true then a else b) Γ Q = ifQ (wpM a Γ Q) (wpM b Γ Q) c := by cases c <;> rfl
theorem wp_mIf {c : M Bool} {a b : M α} {Q : Rs α → Prop} : wpM (mIf c a b) Γ Q = wpM c Γ (bQ (fun c => if c = true then a else b) Q) := wp_bM
theorem wp_mAnd {c d : M Bool} {Q : Rs Bool → Prop} : wpM (mAnd c d) Γ Q = wpM c Γ (bQ (fun c => if c = true then d else pM false) Q) := wp_bM
theorem wp_mOr {c d : M Bool} {Q : Rs Bool → Prop} : wpM (mOr c d) Γ Q = wpM c Γ (bQ (fun c => if c = true then pM true else d) Q) := wp_bM
theorem wp_mNot {c : M Bool} {Q : Rs Bool → Prop} : wpM (mNot c) Γ Q = wpM c Γ (bQ (fun c => pM (!c)) Q) := wp_bM
def andF (m : M PyData) : PyData → M PyData
  | .bool true => m
  | .bool false => pM (.bool false)
  | _ => fun _ => none
def orF (m : M PyData) : PyData → M PyData
  | .bool true => pM (.bool true)
  | .bool false => m
  | _ => fun _ => none
theorem wp_andF {m : M PyData} {b : Bool} {Q : Rs PyData → Prop} : wpM (andF m (.bool b)) Γ Q = ifQ (wpM m Γ Q) (Q (.ok (.bool false) Γ)) b := by
  cases b
  · exact wp_pM
  · rfl
theorem wp_orF {m : M PyData} {b : Bool} {Q : Rs PyData → Prop} : wpM (orF m (.bool b)) Γ Q = ifQ (Q (.ok (.bool true) Γ)) (wpM m Γ Q) b := by
  cases b
  · rfl
  · exact wp_pM
theorem wp_mAndV {ma mb : M PyData} {Q : Rs PyData → Prop} : wpM (mAndV ma mb) Γ Q = wpM ma Γ (bQ (andF mb) Q) := by
  unfold mAndV
  rw [wp_bM]
  congr 1
theorem wp_mOrV {ma mb : M PyData} {Q : Rs PyData → Prop} : wpM (mOrV ma mb) Γ Q = wpM ma Γ (bQ (orF mb) Q) := by
  unfold mOrV
  rw [wp_bM]
  congr 1
def notFn : PyData → M PyData
  | .bool c => pM (.bool (!c))
  | _ => fun _ => none
theorem wp_notFn {b : Bool} {Q : Rs PyData → Prop} : wpM (notFn (.bool b)) Γ Q = Q (.ok (.bool (!b)) Γ) := wp_pM
theorem wp_mNotV {ma : M PyData} {Q : Rs PyData → Prop} : wpM (mNotV ma) Γ Q = wpM ma Γ (bQ notFn Q) := by
  unfold mNotV
  rw [wp_bM]
  congr 1
/-! tuples, lists -/
theorem wp_mNil {Q : Rs (List PyData) → Prop} : wpM mNil Γ Q = Q (.ok [] Γ) := wp_pM
theorem wp_mCons {me : M PyData} {ms : M (List PyData)} {Q : Rs (List PyData) → Prop} : wpM (mCons me ms) Γ Q = wpM me Γ (bQ (fun d => bM ms fun ds => pM (d :: ds)) Q) := wp_bM
theorem wp_mTup {ms : M (List PyData)} {Q : Rs PyData → Prop} : wpM (mTup ms) Γ Q = wpM ms Γ (bQ (fun ds => oM (if ds.length ≤ sizeLine then some (.tuple ds) else none)) Q) := wp_bM
theorem wp_mLst {ms : M (List PyData)} {Q : Rs T → Prop} : wpM (mLst ms) Γ Q = wpM ms Γ (bQ (fun ds => oM (if ds.length ≤ sizeLine then some (.lst (ds.map .frz)) else none)) Q) := wp_bM
/-! subscripts -/
def ixL (i : Nat) (k : Int) (ts : List T) (Γ : G) (Q : Rs PyData → Prop) : T → Prop
  | .frz d => Q (.ok d Γ)
  | _ => onO (fzs ts) fun ds => onO (atI ds k) fun d => Q (.ok d (Γ.set i (some (.frz (.list ds)))))
def ixW (i : Nat) (Γ : G) (d : PyData) (Q : Rs PyData → Prop) : T → Prop
  | .frz a => onO (ixF a d) fun d => Q (.ok d Γ)
  | .scr ns => (match d with
    | .int k => onO (atI ns k) fun z => Q (.ok (.int z) Γ)
    | _ => False)
  | .lst ts => (match d with
    | .int k => onO (atI ts k) (ixL i k ts Γ Q)
    | _ => False)
  | .dct _ => False
theorem ixW_frz {a : PyData} {Q : Rs PyData → Prop} : ixW i Γ d Q (.frz a) = onO (ixF a d) fun d => Q (.ok d Γ) := rfl
theorem ixW_scr {ns : List Int} {k : Int} {Q : Rs PyData → Prop} : ixW i Γ (.int k) Q (.scr ns) = onO (atI ns k) fun z => Q (.ok (.int z) Γ) := rfl
theorem ixW_lst {k : Int} {Q : Rs PyData → Prop} : ixW i Γ (.int k) Q (.lst ts) = onO (atI ts k) (ixL i k ts Γ Q) := rfl
theorem ixL_frz {k : Int} {Q : Rs PyData → Prop} : ixL i k ts Γ Q (.frz d) = Q (.ok d Γ) := rfl
theorem ixL_lst {k : Int} {us : List T} {Q : Rs PyData → Prop} : ixL i k ts Γ Q (.lst us) = onO (fzs ts) fun ds => onO (atI ds k) fun d => Q (.ok d (Γ.set i (some (.frz (.list ds))))) := rfl
theorem wp_ixS {Q : Rs PyData → Prop} : wpM (ixS i d) Γ Q = atV i Γ (ixW i Γ d Q) := by
  unfold atV
  rw [getD_eq]
  unfold wpM ixS
  cases q : Γ[i]? with
  | none => simp [onO]
  | some o =>
    cases o with
    | none => simp [onO]
    | some t =>
      show _ = onO (some t) _
      rw [onO_some]
      cases t with
      | frz a =>
        show onO (oM (ixF a d) Γ) Q = _
        unfold oM
        rw [onO_map]
        rfl
      | scr ns =>
        cases d with
        | int k =>
          show onO (oM ((atI ns k).map .int) Γ) Q = _
          unfold oM
          rw [onO_map, onO_map]
          rfl
        | _ => exact onO_none
      | lst ts =>
        cases d with
        | int k =>
          rw [ixW_lst]
          dsimp only
          cases e : atI ts k with
          | none => rw [onO_none, onO_none]
          | some t =>
            rw [onO_some]
            cases t with
            | frz d => exact onO_some
            | _ =>
              dsimp only
              unfold ixL
              cases e2 : fzs ts with
              | none => rw [onO_none]; exact onO_none.symm
              | some ds =>
                rw [onO_some]
                show onO (oM (atI ds k) _) Q = _
                unfold oM
                rw [onO_map]
        | _ => exact onO_none
      | dct kvs => exact onO_none
end
/-- where the slot is known -/
theorem wp_ixV {i : Nat} {mb : M PyData} {Γ : G} {Q : Rs PyData → Prop} : wpM (mIxV i mb) Γ Q = atV i Γ fun _ => wpM mb Γ (bQ (ixS i) Q) := by
  unfold atV
  rw [getD_eq]
  show onO (match Γ[i]? with
    | some (some _) => bM mb (ixS i) Γ
    | _ => none) Q = _
  cases q : Γ[i]? with
  | none => exact onO_none.trans onO_none.symm
  | some o =>
    cases o with
    | none => exact onO_none.trans onO_none.symm
    | some t =>
      show onO (bM mb (ixS i) Γ) Q = onO (some t) _
      rw [onO_some]
      exact wp_bM
end TW

namespace TW
open PySem PySem.Spec L2
section
variable {α β : Type} {Γ Γ' : G} {i n : Nat} {a x : α} {d : PyData} {t : T} {ts : List T}
/-! stores into lists -/
def putQ (i : Nat) (Γ : G) (d : PyData) (k : Int) (Q : Fl → Prop) : T → Prop
  | .lst ts => onO (ixN ts.length k) fun l => Q (.nx (Γ.set i (some (.lst (ts.set l (.frz d))))))
  | _ => False
theorem putQ_lst {k : Int} {Q : Fl → Prop} : putQ i Γ d k Q (.lst ts) = onO (ixN ts.length k) fun l => Q (.nx (Γ.set i (some (.lst (ts.set l (.frz d)))))) := rfl
def setK (i : Nat) (d : PyData) : PyData → MS := fun kd Γ => (setIx i d kd Γ).map .nx
def setF (i : Nat) (mk : M PyData) (d : PyData) : MS := fun Γ => match Γ[i]? with
  | some (some _) => bS mk (setK i d) Γ
  | _ => none
theorem wp_mSetIx {m mk : M PyData} {Q : Fl → Prop} : wpS (mSetIx i m mk) Γ Q = wpM m Γ (sQ (setF i mk) Q) := wp_bS
theorem wp_setF {mk : M PyData} {Q : Fl → Prop} : wpS (setF i mk d) Γ Q = atV i Γ fun _ => wpM mk Γ (sQ (setK i d) Q) := by
  unfold atV
  rw [getD_eq]
  show onO (match Γ[i]? with
    | some (some _) => bS mk (setK i d) Γ
    | _ => none) Q = _
  cases q : Γ[i]? with
  | none => exact onO_none.trans onO_none.symm
  | some o =>
    cases o with
    | none => exact onO_none.trans onO_none.symm
    | some t =>
      show onO (bS mk (setK i d) Γ) Q = onO (some t) _
      rw [onO_some]
      exact wp_bS
theorem wp_setK {k : Int} {Q : Fl → Prop} : wpS (setK i d (.int k)) Γ Q = atV i Γ (putQ i Γ d k Q) := by
  unfold atV
  rw [getD_eq]
  show onO ((setIx i d (.int k) Γ).map Fl.nx) Q = _
  rw [onO_map]
  unfold setIx
  cases q : Γ[i]? with
  | none => exact onO_none.trans onO_none.symm
  | some o =>
    cases o with
    | none => exact onO_none.trans onO_none.symm
    | some t =>
      show _ = onO (some t) _
      rw [onO_some]
      cases t with
      | lst ts =>
        rw [putQ_lst]
        dsimp only
        cases e : ixN ts.length k with
        | none => exact onO_none.trans onO_none.symm
        | some l => rw [onO_some, onO_some]
      | _ => exact onO_none
/-! append -/
def appK (i : Nat) (t : T) : M T := fun Γ => match Γ[i]? with
    | some (some (.lst ts)) => if ts.length < sizeLine then some (.ok (.frz .none) (Γ.set i (some (.lst (ts ++ [t]))))) else none
    | _ => none
def appQ (i : Nat) (Γ : G) (t : T) (Q : Rs T → Prop) : T → Prop
  | .lst ts => ts.length < sizeLine ∧ Q (.ok (.frz .none) (Γ.set i (some (.lst (ts ++ [t])))))
  | _ => False
theorem appQ_lst {Q : Rs T → Prop} : appQ i Γ t Q (.lst ts) = (ts.length < sizeLine ∧ Q (.ok (.frz .none) (Γ.set i (some (.lst (ts ++ [t])))))) := rfl
def isL (P : Prop) : T → Prop
  | .lst _ => P
  | _ => False
theorem isL_lst {P : Prop} : isL P (.lst ts) = P := rfl
theorem wp_mApp {m : M T} {Q : Rs T → Prop} : wpM (mApp i m) Γ Q = atV i Γ (isL (wpM m Γ (bQ (appK i) Q))) := by
  unfold atV
  rw [getD_eq]
  show onO (match Γ[i]? with
    | some (some (.lst _)) => bM m (appK i) Γ
    | _ => none) Q = _
  cases q : Γ[i]? with
  | none => exact onO_none.trans onO_none.symm
  | some o =>
    cases o with
    | none => exact onO_none.trans onO_none.symm
    | some t =>
      show _ = onO (some t) _
      rw [onO_some]
      cases t with
      | lst ts => exact wp_bM
      | _ => exact onO_none
theorem wp_appK {Q : Rs T → Prop} : wpM (appK i t) Γ Q = atV i Γ (appQ i Γ t Q) := by
  unfold atV
  rw [getD_eq]
  unfold wpM appK
  cases q : Γ[i]? with
  | none => exact onO_none.trans onO_none.symm
  | some o =>
    cases o with
    | none => exact onO_none.trans onO_none.symm
    | some t' =>
      show _ = onO (some t') _
      rw [onO_some]
      cases t' with
      | lst ts => exact onO_if
      | _ => exact onO_none
/-! len -/
theorem wp_mLen {Q : Rs PyData → Prop} : wpM (mLen i) Γ Q = atV i Γ fun t => onO (lenT t) fun d => Q (.ok d Γ) := by
  unfold atV
  rw [getD_eq]
  unfold wpM mLen
  cases q : Γ[i]? with
  | none => exact onO_none.trans onO_none.symm
  | some o =>
    cases o with
    | none => exact onO_none.trans onO_none.symm
    | some t =>
      show _ = onO (some t) _
      rw [onO_some]
      exact onO_map
theorem lenT_frz : lenT (.frz d) = lenF d := rfl
theorem lenT_scr {ns : List Int} : lenT (.scr ns) = some (.int ns.length) := rfl
theorem lenT_lst : lenT (.lst ts) = some (.int ts.length) := rfl
theorem lenF_list {ds : List PyData} : lenF (.list ds) = some (.int ds.length) := rfl
theorem lenF_tuple {ds : List PyData} : lenF (.tuple ds) = some (.int ds.length) := rfl
/-! += -/
theorem wp_mAug {f : OpF} {m : M PyData} {Q : Fl → Prop} : wpS (mAug i f m) Γ Q = wpM (mVar i) Γ (sQ (fun d => bS m fun d' => bS (oM (f d d')) fun z Γ => (storeG i (.frz z) Γ).map .nx) Q) := wp_bS
/-! operators on data -/
theorem addF_int {i j : Int} : addF (.int i) (.int j) = some (.int (i + j)) := rfl
theorem addF_tup {a b : List PyData} : addF (.tuple a) (.tuple b) = if a.length + b.length ≤ sizeLine then some (.tuple (a ++ b)) else none := rfl
theorem addF_list {a b : List PyData} : addF (.list a) (.list b) = if a.length + b.length ≤ sizeLine then some (.list (a ++ b)) else none := rfl
theorem subF_int {i j : Int} : subF (.int i) (.int j) = some (.int (i - j)) := rfl
theorem mulF_int {i j : Int} : mulF (.int i) (.int j) = if (big i && big j) = true then some (.int (i * j)) else none := rfl
theorem modF_int {i j : Int} : modF (.int i) (.int j) = if 0 < j then some (.int (i % j)) else none := rfl
theorem divF_int {i j : Int} : divF (.int i) (.int j) = if 0 < j ∧ big j = true then some (.int (i / j)) else none := rfl
theorem powF_int {i j : Int} : powF (.int i) (.int j) = if 0 ≤ j ∧ j ≤ 1000000 ∧ i.natAbs < 2 ^ 64 then some (.int (i ^ j.toNat)) else none := rfl
theorem cmpF_int {p : Int → Int → Bool} {i j : Int} : cmpF p (.int i) (.int j) = some (.bool (p i j)) := rfl
theorem ltF_int {i j : Int} : ltF (.int i) (.int j) = some (.bool (decide (i < j))) := rfl
theorem leF_int {i j : Int} : leF (.int i) (.int j) = some (.bool (decide (i ≤ j))) := rfl
theorem gtF_int {i j : Int} : gtF (.int i) (.int j) = some (.bool (decide (j < i))) := rfl
theorem geF_int {i j : Int} : geF (.int i) (.int j) = some (.bool (decide (j ≤ i))) := rfl
theorem eqF_int {i j : Int} : eqF (.int i) (.int j) = some (.bool (decide (i = j))) := by
  show some (PyData.bool (i == j)) = _
  congr 2
theorem neF_int {i j : Int} : neF (.int i) (.int j) = some (.bool (!decide (i = j))) := by
  show some (PyData.bool (!(i == j))) = _
  congr 3
theorem eqF_bool {i j : Bool} : eqF (.bool i) (.bool j) = some (.bool (i == j)) := rfl
theorem iaddF_int {i j : Int} : iaddF (.int i) (.int j) = some (.int (i + j)) := rfl
theorem max2F_int {i j : Int} : max2F (.int i) (.int j) = some (.int (max i j)) := by
  show some (PyData.int (if j > i then j else i)) = _
  congr 2
  omega
theorem min2F_int {i j : Int} : min2F (.int i) (.int j) = some (.int (min i j)) := by
  show some (PyData.int (if j < i then j else i)) = _
  congr 2
  omega
theorem isNF_no {d : PyData} : isNF d .none = some (.bool (isNo d)) := by unfold isNF; rfl
theorem notNF_no {d : PyData} : notNF d .none = some (.bool (!isNo d)) := by unfold notNF; rfl
theorem ixF_list {ds : List PyData} {k : Int} : ixF (.list ds) (.int k) = atI ds k := rfl
theorem ixF_tup {ds : List PyData} {k : Int} : ixF (.tuple ds) (.int k) = atI ds k := rfl
theorem at0 {l : List α} : atI (a :: l) 0 = some a := atI_nat (j := 0) rfl
theorem at1 {a b : α} {l : List α} : atI (a :: b :: l) 1 = some b := atI_nat (j := 1) rfl
theorem at2 {a b c : α} {l : List α} : atI (a :: b :: c :: l) 2 = some c := atI_nat (j := 2) rfl
theorem onO_mk {α : Type} {o : Option α} {a : α} {Q : α → Prop} (e : o = some a) (q : Q a) : onO o Q := ⟨a, e, q⟩
theorem ixN20 : ixN 2 0 = some 0 := by decide
theorem ixN21 : ixN 2 1 = some 1 := by decide
theorem bigs {i j : Int} : ((big i && big j) = true) = (big i = true ∧ big j = true) := by simp
theorem big_of {i : Int} (h1 : -(10 ^ 200) < i) (h2 : i < 10 ^ 200) : big i = true := by
  unfold big
  refine decide_eq_true (Nat.lt_of_lt_of_le (m := 10 ^ 200) (by omega) ?_)
  exact Nat.le_of_ble_eq_true rfl
theorem inst_int_int {i : Int} : instF "int" (.int i) = some (.bool true) := by
  show (kitB "int" "int").map PyData.bool = _
  rw [show kitB "int" "int" = some true by decide +kernel]
  rfl
theorem inst_bool_int {i : Int} : instF "bool" (.int i) = some (.bool false) := by
  show (kitB "int" "bool").map PyData.bool = _
  rw [show kitB "int" "bool" = some false by decide +kernel]
  rfl
/-! calls -/
def callQ (as : List Ar) (Γ : G) (Q : Rs T → Prop) : CR → Prop
  | .ret t outs => Q (.ok t (restore as outs Γ))
  | .exc c => Q (.ex c Γ)
theorem callQ_ret {as : List Ar} {outs : G} {Q : Rs T → Prop} : callQ as Γ Q (.ret t outs) = Q (.ok t (restore as outs Γ)) := rfl
def callF (mf : MF) (as : List Ar) (ts : List T) : M T := fun Γ => match mf ts with
  | none => none
  | some (.ret t outs) => some (.ok t (restore as outs Γ))
  | some (.exc c) => some (.ex c Γ)
theorem wp_mCall {mf : MF} {as : List Ar} {Q : Rs T → Prop} : wpM (mCall mf as) Γ Q = wpM (mArgs as) Γ (bQ (callF mf as) Q) := wp_bM
theorem wp_callF {mf : MF} {as : List Ar} {Q : Rs T → Prop} : wpM (callF mf as ts) Γ Q = onO (mf ts) (callQ as Γ Q) := by
  unfold wpM callF
  cases q : mf ts with
  | none => exact onO_none.trans onO_none.symm
  | some c =>
    cases c with
    | ret t outs => simp only [onO_some, callQ]
    | exc c => simp only [onO_some, callQ]
theorem wp_mArgs_nil {Q : Rs (List T) → Prop} : wpM (mArgs []) Γ Q = Q (.ok [] Γ) := wp_pM
theorem wp_mArgs_d {m : M PyData} {r : List Ar} {Q : Rs (List T) → Prop} : wpM (mArgs (.d m :: r)) Γ Q = wpM m Γ (bQ (fun d => bM (mArgs r) fun ts => pM (.frz d :: ts)) Q) := wp_bM
theorem wp_mArgs_own {r : List Ar} {Q : Rs (List T) → Prop} : wpM (mArgs (.own i :: r)) Γ Q = wpM (mMove i) Γ (bQ (fun t => bM (mArgs r) fun ts => pM (t :: ts)) Q) := wp_bM
theorem restore_own {as : List Ar} {os : G} : restore (.own i :: as) (some t :: os) Γ = restore as os (Γ.set i (some t)) := rfl
theorem restore_own0 {as : List Ar} {os : G} : restore (.own i :: as) (none :: os) Γ = restore as os Γ := rfl
theorem restore_d {m : M PyData} {as : List Ar} {o : Option T} {os : G} : restore (.d m :: as) (o :: os) Γ = restore as os Γ := by
  cases o <;> rw [restore]
theorem restore_cp {m : Nat} {as : List Ar} {o : Option T} {os : G} : restore (.cp m :: as) (o :: os) Γ = restore as os Γ := by
  cases o <;> rw [restore]
theorem wp_mArgs_cp {r : List Ar} {Q : Rs (List T) → Prop} : wpM (mArgs (.cp i :: r)) Γ Q = wpM (mCopy i) Γ (bQ (fun t => bM (mArgs r) fun ts => pM (t :: ts)) Q) := wp_bM
def cpQ (Γ : G) (Q : Rs T → Prop) : T → Prop
  | .scr ns => Q (.ok (.scr ns) Γ)
  | _ => False
theorem cpQ_scr {ns : List Int} {Q : Rs T → Prop} : cpQ Γ Q (.scr ns) = Q (.ok (.scr ns) Γ) := rfl
theorem wp_mCopy {Q : Rs T → Prop} : wpM (mCopy i) Γ Q = atV i Γ (cpQ Γ Q) := by
  unfold atV
  rw [getD_eq]
  unfold wpM mCopy
  cases q : Γ[i]? with
  | none => exact onO_none.trans onO_none.symm
  | some o =>
    cases o with
    | none => exact onO_none.trans onO_none.symm
    | some t =>
      show _ = onO (some t) _
      rw [onO_some]
      cases t with
      | scr ns => exact onO_some
      | _ => exact onO_none
theorem restore_nil {os : G} : restore [] os Γ = Γ := by unfold restore; rfl
def finQ (n : Nat) (io : List Nat) (Q : CR → Prop) : Fl → Prop
  | .rt t Γ => Q (.ret t (maskG io 0 n Γ))
  | .nx Γ => Q (.ret (.frz .none) (maskG io 0 n Γ))
  | .ex c _ => Q (.exc c)
  | _ => False
theorem finQ_rt {io : List Nat} {Q : CR → Prop} : finQ n io Q (.rt t Γ) = Q (.ret t (maskG io 0 n Γ)) := rfl
theorem finQ_nx {io : List Nat} {Q : CR → Prop} : finQ n io Q (.nx Γ) = Q (.ret (.frz .none) (maskG io 0 n Γ)) := rfl
theorem finQ_ex {io : List Nat} {c : Str} {Q : CR → Prop} : finQ n io Q (.ex c Γ) = Q (.exc c) := rfl
/-- what a def's run is -/
theorem on_mf {n N : Nat} {io : List Nat} {b : MS} {ts : List T} {Q : CR → Prop} (hl : ts.length = n) (h : wpS b (ts.map some ++ List.replicate (N - n) none) (finQ n io Q)) : onO (mfOf n N io b ts) Q := by
  unfold mfOf
  rw [if_pos hl]
  obtain ⟨r, e, q⟩ := h
  rw [e]
  cases r with
  | rt t Γ => exact ⟨_, rfl, q⟩
  | nx Γ => exact ⟨_, rfl, q⟩
  | ex c Γ => exact ⟨_, rfl, q⟩
  | bk Γ => exact q.elim
  | ct Γ => exact q.elim
theorem mf_eq {mf : MF} {ts : List T} {c : CR} (h : onO (mf ts) (· = c)) : mf ts = some c := by
  obtain ⟨r, e, q⟩ := h
  rw [e, q]
theorem mono {α : Type} {o : Option α} {Q Q' : α → Prop} (h : onO o Q) (i : ∀ a, Q a → Q' a) : onO o Q' := by
  obtain ⟨a, e, q⟩ := h
  exact ⟨a, e, i a q⟩
/-! loops -/
theorem wp_mFor {mi : M (List PyData)} {g : MG} {b : MS} {Q : Fl → Prop} : wpS (mFor mi g b) Γ Q = wpM mi Γ (sQ (loopS g b) Q) := wp_bS
theorem wp_mRng1 {m : M (List PyData)} {Q : Rs (List PyData) → Prop} : wpM (mRng1 m) Γ Q = wpM m Γ (bQ (fun ds => oM (rng1F ds)) Q) := wp_bM
theorem wp_mRng2 {m : M (List PyData)} {Q : Rs (List PyData) → Prop} : wpM (mRng2 m) Γ Q = wpM m Γ (bQ (fun ds => oM (rng2F ds)) Q) := wp_bM
theorem wp_mIt {m : M PyData} {Q : Rs (List PyData) → Prop} : wpM (mIt m) Γ Q = wpM m Γ (bQ (fun d => oM (itemsF d)) Q) := wp_bM
theorem rng1F_int {j : Int} : rng1F [.int j] = if -(2 ^ 62) ≤ j ∧ j < 2 ^ 62 then some (upto 0 j.toNat) else none := rfl
theorem rng2F_int {i j : Int} : rng2F [.int i, .int j] = if -(2 ^ 62) ≤ i ∧ i < 2 ^ 62 ∧ -(2 ^ 62) ≤ j ∧ j < 2 ^ 62 then some (upto i (j - i).toNat) else none := rfl
/-- what the body of a for is to reach: N behind it, or out of the loop -/
def lQ (N : G → Prop) (Q : Fl → Prop) : Fl → Prop
  | .nx Γ => N Γ
  | .ct Γ => N Γ
  | .bk Γ => Q (.nx Γ)
  | r => Q r
theorem lQ_nx {N : G → Prop} {Q : Fl → Prop} : lQ N Q (.nx Γ) = N Γ := rfl
theorem lQ_ct {N : G → Prop} {Q : Fl → Prop} : lQ N Q (.ct Γ) = N Γ := rfl
theorem lQ_bk {N : G → Prop} {Q : Fl → Prop} : lQ N Q (.bk Γ) = Q (.nx Γ) := rfl
theorem lQ_rt {N : G → Prop} {Q : Fl → Prop} : lQ N Q (.rt t Γ) = Q (.rt t Γ) := rfl
theorem lQ_ex {N : G → Prop} {Q : Fl → Prop} {c : Str} : lQ N Q (.ex c Γ) = Q (.ex c Γ) := rfl
theorem loop_inv {g : MG} {b : MS} {ds : List PyData} {Q : Fl → Prop} (P : Nat → G → Prop) (h0 : P 0 Γ) (hs : ∀ i d Γ, ds[i]? = some d → P i Γ → onO (g d Γ) fun Γ1 => wpS b Γ1 (lQ (P (i + 1)) Q)) (hd : ∀ Γ, P ds.length Γ → Q (.nx Γ)) : wpS (loopS g b ds) Γ Q := by
  have key : ∀ (k : Nat) (i : Nat) (Γ : G), ds.length - i = k → i ≤ ds.length → P i Γ → wpS (loopS g b (ds.drop i)) Γ Q := by
    intro k
    induction k with
    | zero =>
      intro i Γ e hi p
      have : i = ds.length := by omega
      subst this
      rw [List.drop_length]
      unfold loopS
      rw [wp_nS]
      exact hd Γ p
    | succ k ih =>
      intro i Γ e hi p
      have hlt : i < ds.length := by omega
      obtain ⟨Γ1, e1, r, e2, q⟩ := hs i ds[i] Γ (List.getElem?_eq_getElem hlt) p
      rw [List.drop_eq_getElem_cons hlt]
      unfold wpS loopS
      rw [e1]
      dsimp only
      rw [e2]
      cases r with
      | nx Γ2 => exact ih (i + 1) Γ2 (by omega) hlt q
      | ct Γ2 => exact ih (i + 1) Γ2 (by omega) hlt q
      | bk Γ2 => exact ⟨_, rfl, q⟩
      | rt t Γ2 => exact ⟨_, rfl, q⟩
      | ex c Γ2 => exact ⟨_, rfl, q⟩
  exact key ds.length 0 Γ (by simp) (Nat.zero_le _) h0
theorem upto_at {lo : Int} {n i : Nat} {d : PyData} (h : (upto lo n)[i]? = some d) : i < n ∧ d = .int (lo + i) := by
  unfold upto at h
  rw [List.getElem?_map] at h
  by_cases hi : i < n
  · rw [List.getElem?_range hi] at h
    cases h
    exact ⟨hi, rfl⟩
  · rw [List.getElem?_eq_none (by rw [List.length_range]; omega)] at h
    cases h
theorem upto_len {lo : Int} {n : Nat} : (upto lo n).length = n := by
  unfold upto
  rw [List.length_map, List.length_range]
/-- over a range -/
theorem loop_upto {g : MG} {b : MS} {lo : Int} {n : Nat} {Q : Fl → Prop} (P : Nat → G → Prop) (h0 : P 0 Γ) (hs : ∀ (i : Nat) Γ, i < n → P i Γ → onO (g (.int (lo + i)) Γ) fun Γ1 => wpS b Γ1 (lQ (P (i + 1)) Q)) (hd : ∀ Γ, P n Γ → Q (.nx Γ)) : wpS (loopS g b (upto lo n)) Γ Q := by
  refine loop_inv P h0 (fun i d Γ e p => ?_) (by rw [upto_len]; exact hd)
  obtain ⟨hi, rfl⟩ := upto_at e
  exact hs i Γ hi p
def whQ (b : MS) (N : G → Prop) (Q : Fl → Prop) : Rs Bool → Prop
  | .ok t Γ => ifQ (wpS b Γ (lQ N Q)) (Q (.nx Γ)) t
  | .ex c Γ => Q (.ex c Γ)
theorem whQ_ok {b : MS} {N : G → Prop} {Q : Fl → Prop} {t : Bool} : whQ b N Q (.ok t Γ) = ifQ (wpS b Γ (lQ N Q)) (Q (.nx Γ)) t := rfl
/-- while, by an invariant and a measure -/
theorem while_inv {c : M Bool} {b : MS} {Q : Fl → Prop} (P : G → Prop) (μ : G → Nat) (hs : ∀ Γ, P Γ → wpM c Γ (whQ b (fun Γ' => P Γ' ∧ μ Γ' < μ Γ) Q)) : ∀ (n : Nat) (Γ : G), P Γ → μ Γ < n → wpS (mWhile c b n) Γ Q := by
  intro n
  induction n with
  | zero => intro Γ _ h; exact absurd h (Nat.not_lt_zero _)
  | succ n ih =>
    intro Γ p hn
    obtain ⟨r, e, q⟩ := hs Γ p
    unfold mWhile
    rw [wp_bS]
    refine ⟨r, e, ?_⟩
    cases r with
    | ex c Γ1 => exact q
    | ok t Γ1 =>
      cases t with
      | false =>
        show wpS nS Γ1 Q
        rw [wp_nS]
        exact q
      | true =>
        obtain ⟨r2, e2, q2⟩ := (show wpS b Γ1 (lQ _ Q) from q)
        show onO (match b Γ1 with
          | some (.nx Γ') => mWhile c b n Γ'
          | some (.ct Γ') => mWhile c b n Γ'
          | some (.bk Γ') => some (.nx Γ')
          | r => r) Q
        rw [e2]
        cases r2 with
        | nx Γ2 => exact ih Γ2 q2.1 (by have := q2.2; omega)
        | ct Γ2 => exact ih Γ2 q2.1 (by have := q2.2; omega)
        | bk Γ2 => exact ⟨_, rfl, q2⟩
        | rt t Γ2 => exact ⟨_, rfl, q2⟩
        | ex c Γ2 => exact ⟨_, rfl, q2⟩
end
end TW

namespace TW
open PySem PySem.Spec L2
section
variable {Γ Γ' : G} {i n : Nat} {d : PyData} {t : T}
def compK (g : MG) (mt : M Bool) (me : M T) (own : List Nat) (ds : List PyData) : M T := fun Γ => loopC g mt me own ds [] (wipeG Γ own)
theorem wp_mComp {mi : M (List PyData)} {g : MG} {mt : M Bool} {me : M T} {own : List Nat} {Q : Rs T → Prop} : wpM (mComp mi g mt me own) Γ Q = wpM mi Γ (bQ (compK g mt me own) Q) := wp_bM
theorem wp_compK {g : MG} {mt : M Bool} {me : M T} {own : List Nat} {ds : List PyData} {Q : Rs T → Prop} : wpM (compK g mt me own ds) Γ Q = wpM (loopC g mt me own ds []) (wipeG Γ own) Q := rfl
def tsQ (A B : G → Prop) : Rs Bool → Prop
  | .ok true Γ => A Γ
  | .ok false Γ => B Γ
  | .ex _ _ => False
theorem tsQ_ok {A B : G → Prop} {b : Bool} : tsQ A B (.ok b Γ) = ifQ (A Γ) (B Γ) b := by cases b <;> rfl
def elQ (N : T → G → Prop) : Rs T → Prop
  | .ok t Γ => N t Γ
  | .ex _ _ => False
theorem elQ_ok {N : T → G → Prop} : elQ N (.ok t Γ) = N t Γ := rfl
theorem comp_inv {g : MG} {mt : M Bool} {me : M T} {own : List Nat} {ds : List PyData} {Q : Rs T → Prop} (P : Nat → List T → G → Prop) (h0 : P 0 [] Γ)
    (hs : ∀ i d acc Γ, ds[i]? = some d → P i acc Γ → onO (g d Γ) fun Γ1 => wpM mt Γ1 (tsQ (fun Γ2 => wpM me Γ2 (elQ fun t Γ3 => acc.length < sizeLine ∧ P (i + 1) (acc ++ [t]) (wipeG Γ3 own))) (fun Γ2 => P (i + 1) acc (wipeG Γ2 own))))
    (hd : ∀ acc Γ, P ds.length acc Γ → Q (.ok (.lst acc) Γ)) : wpM (loopC g mt me own ds []) Γ Q := by
  have key : ∀ (k : Nat) (i : Nat) (acc : List T) (Γ : G), ds.length - i = k → i ≤ ds.length → P i acc Γ → wpM (loopC g mt me own (ds.drop i) acc) Γ Q := by
    intro k
    induction k with
    | zero =>
      intro i acc Γ e hi p
      have : i = ds.length := by omega
      subst this
      rw [List.drop_length]
      unfold loopC
      rw [wp_pM]
      exact hd acc Γ p
    | succ k ih =>
      intro i acc Γ e hi p
      have hlt : i < ds.length := by omega
      obtain ⟨Γ1, e1, r, e2, q⟩ := hs i ds[i] acc Γ (List.getElem?_eq_getElem hlt) p
      rw [List.drop_eq_getElem_cons hlt]
      unfold wpM loopC
      rw [e1]
      dsimp only
      rw [e2]
      cases r with
      | ex c Γ2 => exact q.elim
      | ok b Γ2 =>
        cases b with
        | false => exact ih (i + 1) acc _ (by omega) hlt q
        | true =>
          obtain ⟨r2, e3, q2⟩ := (show wpM me Γ2 _ from q)
          dsimp only
          rw [e3]
          cases r2 with
          | ex c Γ3 => exact q2.elim
          | ok t Γ3 =>
            dsimp only
            rw [if_pos q2.1]
            exact ih (i + 1) (acc ++ [t]) _ (by omega) hlt q2.2
  exact key ds.length 0 [] Γ (by simp) (Nat.zero_le _) h0
/-- each thing's image, the slots as they were -/
theorem comp_map {g : MG} {mt : M Bool} {me : M T} {own : List Nat} {ds : List PyData} {Q : Rs T → Prop} (f : PyData → PyData) (hl : ds.length ≤ sizeLine)
    (hs : ∀ d, d ∈ ds → onO (g d Γ) fun Γ1 => wpM mt Γ1 (tsQ (fun Γ2 => wpM me Γ2 (elQ fun t Γ3 => t = .frz (f d) ∧ wipeG Γ3 own = Γ)) (fun _ => False)))
    (hd : Q (.ok (.lst ((ds.map f).map .frz)) Γ)) : wpM (loopC g mt me own ds []) Γ Q := by
  refine comp_inv (fun i acc Γ' => Γ' = Γ ∧ i ≤ ds.length ∧ acc = ((ds.take i).map f).map .frz) ⟨rfl, Nat.zero_le _, rfl⟩ (fun i d acc Γ' e p => ?_) (fun acc Γ' p => ?_)
  · obtain ⟨rfl, hi, rfl⟩ := p
    have hlt := (List.getElem?_eq_some_iff.mp e).1
    refine mono (hs d (List.mem_of_getElem? e)) fun Γ1 h => mono h fun r h => ?_
    cases r with
    | ex c Γ2 => exact h
    | ok b Γ2 =>
      cases b with
      | false => exact h.elim
      | true =>
        refine mono (show wpM me Γ2 _ from h) fun r h => ?_
        cases r with
        | ex c Γ3 => exact h
        | ok t Γ3 =>
          obtain ⟨rfl, hw⟩ := h
          refine ⟨by rw [List.length_map, List.length_map, List.length_take]; omega, hw, hlt, ?_⟩
          rw [List.take_add_one, e]
          simp
  · obtain ⟨rfl, hi, rfl⟩ := p
    rw [List.take_length]
    exact hd
/-- those for which a test holds, their images -/
theorem comp_fm {g : MG} {mt : M Bool} {me : M T} {own : List Nat} {ds : List PyData} {Q : Rs T → Prop} (p : PyData → Bool) (f : PyData → PyData) (hl : ds.length ≤ sizeLine)
    (hs : ∀ d, d ∈ ds → onO (g d Γ) fun Γ1 => wpM mt Γ1 (tsQ (fun Γ2 => p d = true ∧ wpM me Γ2 (elQ fun t Γ3 => t = .frz (f d) ∧ wipeG Γ3 own = Γ)) (fun Γ2 => p d = false ∧ wipeG Γ2 own = Γ)))
    (hd : Q (.ok (.lst (((ds.filter p).map f).map .frz)) Γ)) : wpM (loopC g mt me own ds []) Γ Q := by
  refine comp_inv (fun i acc Γ' => Γ' = Γ ∧ i ≤ ds.length ∧ acc = (((ds.take i).filter p).map f).map .frz) ⟨rfl, Nat.zero_le _, rfl⟩ (fun i d acc Γ' e q => ?_) (fun acc Γ' q => ?_)
  · obtain ⟨rfl, hi, rfl⟩ := q
    have hlt := (List.getElem?_eq_some_iff.mp e).1
    have et : ds.take (i + 1) = ds.take i ++ [d] := by rw [List.take_add_one, e]; rfl
    refine mono (hs d (List.mem_of_getElem? e)) fun Γ1 h => mono h fun r h => ?_
    cases r with
    | ex c Γ2 => exact h
    | ok b Γ2 =>
      cases b with
      | false =>
        obtain ⟨h1, h2⟩ := h
        refine ⟨h2, hlt, ?_⟩
        rw [et, List.filter_append, List.filter_cons_of_neg (by rw [h1]; decide), List.filter_nil, List.append_nil]
      | true =>
        obtain ⟨h1, h⟩ := (show p d = true ∧ wpM me Γ2 _ from h)
        refine mono h fun r h => ?_
        cases r with
        | ex c Γ3 => exact h
        | ok t Γ3 =>
          obtain ⟨rfl, hw⟩ := h
          refine ⟨?_, hw, hlt, ?_⟩
          · rw [List.length_map, List.length_map]
            have := List.length_filter_le p (ds.take i)
            rw [List.length_take] at this
            omega
          · rw [et, List.filter_append, List.filter_cons_of_pos h1, List.filter_nil, List.map_append, List.map_append]
            rfl
  · obtain ⟨rfl, hi, rfl⟩ := q
    rw [List.take_length]
    exact hd
theorem wipeG_nil : wipeG Γ [] = Γ := rfl
theorem wipeG_cons {v : Nat} {vs : List Nat} : wipeG Γ (v :: vs) = (wipeG Γ vs).set v none := rfl
theorem gN_eq : gN i d Γ = storeG i (.frz d) Γ := rfl
theorem on_storeG {Q : G → Prop} : onO (storeG i t Γ) Q = (i < Γ.length ∧ Q (Γ.set i (some t))) := by
  unfold storeG
  rw [onO_if]
theorem on_gTu {gs : MGs} {ds : List PyData} {Q : G → Prop} : onO (gTu n gs (.tuple ds) Γ) Q = (ds.length = n ∧ onO (gs ds Γ) Q) := by
  show onO (if ds.length = n then gs ds Γ else none) Q = _
  by_cases h : ds.length = n
  · rw [if_pos h]; simp [h]
  · rw [if_neg h]; simp [h, onO]
theorem on_gTuL {gs : MGs} {ds : List PyData} {Q : G → Prop} : onO (gTu n gs (.list ds) Γ) Q = (ds.length = n ∧ onO (gs ds Γ) Q) := by
  show onO (if ds.length = n then gs ds Γ else none) Q = _
  by_cases h : ds.length = n
  · rw [if_pos h]; simp [h]
  · rw [if_neg h]; simp [h, onO]
theorem on_gC {g : MG} {gs : MGs} {ds : List PyData} {Q : G → Prop} : onO (gC g gs (d :: ds) Γ) Q = onO (g d Γ) fun Γ => onO (gs ds Γ) Q := by
  show onO ((g d Γ).bind (gs ds)) Q = _
  cases g d Γ with
  | none => exact onO_none.trans onO_none.symm
  | some Γ => rw [onO_some]; rfl
theorem on_gE {Q : G → Prop} : onO (gE [] Γ) Q = Q Γ := onO_some
def asgK (g : MG) (d : PyData) : MS := fun Γ => (g d Γ).map .nx
theorem wp_mAsg {g : MG} {m : M PyData} {Q : Fl → Prop} : wpS (mAsg g m) Γ Q = wpM m Γ (sQ (asgK g) Q) := wp_bS
theorem wp_asgK {g : MG} {Q : Fl → Prop} : wpS (asgK g d) Γ Q = onO (g d Γ) fun Γ => Q (.nx Γ) := by
  show onO ((g d Γ).map .nx) Q = _
  rw [onO_map]
theorem bolsF_map {bs : List Bool} : bolsF (bs.map .bool) = some bs := by
  induction bs with
  | nil => rfl
  | cons b bs ih =>
    show (bolsF (bs.map .bool)).map (b :: ·) = _
    rw [ih]
    rfl
theorem allF_list {ds : List PyData} : allF (.list ds) = (bolsF ds).map fun bs => .bool (bs.all id) := rfl
theorem anyF_list {ds : List PyData} : anyF (.list ds) = (bolsF ds).map fun bs => .bool (bs.any id) := rfl
theorem onO_ret {o : Option CR} {t : T} (h : onO o fun c => ∃ outs, c = .ret t outs) : ∃ outs, o = some (.ret t outs) := by
  obtain ⟨c, e, outs, rfl⟩ := h
  exact ⟨outs, e⟩
end
end TW

namespace Lw
open PySem PySem.Spec L2 TW
open PyProof.Rows (envOfC)
def top (i : Nat) : Stmt := PySem.Challenge.pw_thinways_k32_shares_told.main.body.getD i (.Pass ⟨0, 0, 0, 0⟩)
abbrev s__law_pot : Stmt := top 4
def b__law_pot : MS := (qS (mSet 2 (mT (mC (.int 5))))
  (qS (mWhen (mB (mOp ltF (mVar 1) (mLen 0))) (mSet 2 (mT (mOp modF (mIxV 0 (mVar 1)) (mOp mulF (mOp mulF (mOp powF (mC (.int 10)) (mC (.int 60))) (mOp powF (mC (.int 10)) (mC (.int 60)))) (mOp powF (mC (.int 10)) (mC (.int 60))))))) nS)
  (qS (mSet 3 (mT (mOp ixF (mF (mLst (mCons (mC (.int 2147483629)) (mCons (mC (.int 2147483587)) (mCons (mC (.int 2147483579)) (mCons (mC (.int 2147483563)) (mCons (mC (.int 2147483549)) mNil))))))) (mOp modF (mVar 1) (mC (.int 5))))))
  (mRet (mLst (mCons (mC2 max2F (mC (.int 0)) (mOp subF (mVar 2) (mOp powF (mC (.int 10)) (mC (.int 18))))) (mCons (mOp modF (mOp powF (mOp addF (mOp addF (mOp modF (mVar 2) (mVar 3)) (mOp mulF (mC (.int 7919)) (mVar 1))) (mC (.int 11))) (mC (.int 3))) (mC (.int 2147483647))) mNil)))))))
def f__law_pot : MF := mfOf 2 4 [] b__law_pot
abbrev s_fan_of : Stmt := top 1
def b_fan_of : MS := (qS (mSet 2 (mT (mC (.int 1))))
  (qS (mSet 3 (mT (mOp addF (mVar 0) (mC (.int 1)))))
  (qS (mFor (mRng1 (mCons (mVar 1) mNil)) (gN 4) (qS (mAug 2 iaddF (mVar 3))
  (mSet 3 (mT (mOp mulF (mVar 3) (mVar 0))))))
  (mRet (mT (mVar 2))))))
def f_fan_of : MF := mfOf 2 5 [] b_fan_of
abbrev s_share_of : Stmt := top 2
def b_share_of : MS := (qS (mSet 2 (mT (mC (.int 0))))
  (qS (mWhile (mB (mOp leF (mF (mCall f_fan_of [.d (mVar 2), .d (mVar 1)])) (mVar 0))) (mAug 2 iaddF (mC (.int 1))) 1000000)
  (mRet (mT (mVar 2)))))
def f_share_of : MF := mfOf 2 3 [] b_share_of
abbrev s__law_take : Stmt := top 5
def b__law_take : MS := (qS (mWhen (mB (mOp gtF (mIxV 0 (mC (.int 0))) (mC (.int 0)))) (qS (mSet 2 (mT (mOp modF (mIxV 0 (mC (.int 0))) (mVar 1))))
  (qS (mSetIx 0 (mOp divF (mIxV 0 (mC (.int 0))) (mVar 1)) (mC (.int 0)))
  (mRet (mT (mVar 2))))) nS)
  (qS (mSetIx 0 (mOp modF (mOp addF (mOp mulF (mIxV 0 (mC (.int 1))) (mC (.int 48271))) (mC (.int 12820163))) (mC (.int 2147483647))) (mC (.int 1)))
  (mRet (mT (mOp modF (mOp divF (mOp modF (mOp powF (mIxV 0 (mC (.int 1))) (mC (.int 3))) (mC (.int 2147483629))) (mC (.int 8))) (mVar 1))))))
def f__law_take : MF := mfOf 2 3 [0] b__law_take
abbrev s__law_whole : Stmt := top 6
def b__law_whole : MS := (mRet (mT (mAndV (mC1 (instF "int") (mVar 0)) (mNotV (mC1 (instF "bool") (mVar 0))))))
def f__law_whole : MF := mfOf 1 1 [] b__law_whole
abbrev s__law_fan : Stmt := top 7
def b__law_fan : MS := (qS (mSet 2 (mT (mC (.int 0))))
  (qS (mFor (mRng1 (mCons (mVar 1) mNil)) (gN 3) (mSet 2 (mT (mOp addF (mOp mulF (mVar 2) (mVar 0)) (mC (.int 1))))))
  (mRet (mT (mOp addF (mC (.int 1)) (mOp mulF (mOp addF (mVar 0) (mC (.int 1))) (mVar 2)))))))
def f__law_fan : MF := mfOf 2 4 [] b__law_fan
abbrev s_law : Stmt := top 8
def b_law : MS := (qS (mFor (mRng1 (mCons (mC2 max2F (mC (.int 2)) (mC2 min2F (mC (.int 12)) (mLen 0))) mNil)) (gN 1) (qS (mSet 2 (mCall f__law_pot [.cp 0, .d (mVar 1)]))
  (mFor (mRng1 (mCons (mC (.int 6)) mNil)) (gN 3) (qS (mSet 4 (mT (mOp addF (mC (.int 1)) (mF (mCall f__law_take [.own 2, .d (mC (.int 24))])))))
  (qS (mSet 5 (mT (mOp addF (mC (.int 1)) (mF (mCall f__law_take [.own 2, .d (mC (.int 12))])))))
  (qS (mSet 6 (mT (mF (mCall f_share_of [.d (mVar 4), .d (mVar 5)]))))
  (qS (mWhen (mOr (mNot (mB (mF (mCall f__law_whole [.d (mVar 6)])))) (mOr (mB (mOp ltF (mVar 6) (mC (.int 0)))) (mOr (mB (mOp leF (mF (mCall f__law_fan [.d (mVar 6), .d (mVar 5)])) (mVar 4))) (mAnd (mB (mOp gtF (mVar 6) (mC (.int 0)))) (mB (mOp gtF (mF (mCall f__law_fan [.d (mOp subF (mVar 6) (mC (.int 1))), .d (mVar 5)])) (mVar 4))))))) (mRet (mT (mC (.bool false)))) nS)
  (mWhen (mOr (mAnd (mB (mOp ltF (mVar 5) (mC (.int 12)))) (mB (mOp gtF (mF (mCall f_share_of [.d (mVar 4), .d (mOp addF (mVar 5) (mC (.int 1)))])) (mVar 6)))) (mAnd (mB (mOp ltF (mVar 4) (mC (.int 24)))) (mB (mOp ltF (mF (mCall f_share_of [.d (mOp addF (mVar 4) (mC (.int 1))), .d (mVar 5)])) (mVar 6))))) (mRet (mT (mC (.bool false)))) nS))))))))
  (mRet (mT (mAndV (mOp eqF (mF (mCall f_share_of [.d (mC (.int 24)), .d (mC (.int 12))])) (mC (.int 1))) (mC1 allF (mF (mComp (mRng2 (mCons (mC (.int 1)) (mCons (mC (.int 25)) mNil))) (gN 4) (pM true) (mT (mOp eqF (mF (mCall f_share_of [.d (mVar 4), .d (mC (.int 1))])) (mOp subF (mVar 4) (mC (.int 1))))) [4])))))))
def f_law : MF := mfOf 1 7 [] b_law
structure Top (K : PySem.W.Frag) (mg : Str → Option Value) : Prop where
  all : mg "all" = none
  bool : mg "bool" = none
  int : mg "int" = none
  isinstance : mg "isinstance" = none
  len_ : mg "len" = none
  max : mg "max" = none
  min : mg "min" = none
  range : mg "range" = none
section
variable {P : Program} {w : World} {K : PySem.W.Frag} {mg : Str → Option Value} {base : Heap}
theorem sc__law_pot : FnScope ["script", "k", "cell", "prime"] ["script", "k"] (defScope s__law_pot) := ⟨rfl, rfl, rfl, by decide +kernel, rfl, by decide +kernel, by decide +kernel⟩
theorem ok__law_pot {f : Addr} {fd : FuncData} (T : Top K mg) (F : FunD K "_law_pot" "_law_pot" (defArgs s__law_pot) (defBody s__law_pot) (defScope s__law_pot) [] [] f fd) (hm : mg "_law_pot" = some (.ref f)) : Fn P w K mg base "_law_pot" 2 1 f__law_pot := by
  have hb : Binds K fd ["script", "k"] [] := F.bindsN fun _ _ _ _ _ _ us hl => match us, hl with | [_, _], _ => rfl
  refine ⟨f, fd, ["script", "k"], fn_ok (N := ["script", "k", "cell", "prime"]) [] F sc__law_pot (by decide) (fun cdv A outer s H E hr => ?_), hm, F.kp, hb⟩
  have hu : (cxOf (L2.CX P w) P w K mg base ["script", "k", "cell", "prime"] "_law_pot" (defScope s__law_pot) f cdv A outer s H E).A.units + 65 < cLine := by have := hr.un; simp only [cxOf]; omega
  have tk := takes_cx (P := P) (w := w) (K := K) (mg := mg) (base := base) (N := ["script", "k", "cell", "prime"]) (qual := "_law_pot") (scope := defScope s__law_pot) (f := f) (cdv := cdv) (A := A) (outer := outer) (s := s) (H := H) (E := E)
  have hp := own_cx (P := P) (w := w) (K := K) (mg := mg) (base := base) (N := ["script", "k", "cell", "prime"]) (qual := "_law_pot") (scope := defScope s__law_pot) (f := f) (cdv := cdv) (A := A) (outer := outer) (s := s) (H := H) (E := E)
  have hnd := (sc__law_pot).nd
  unfold b__law_pot
  exact (vss_cons (vs_set 2 hnd (vt_of vd_int))
      (vss_cons (vs_if (vb_cmp od_lt (vd_var 1) (vd_len 0 T.len_)) (vss_one (vs_set 2 hnd (vt_of (vd_op od_mod (vd_ixV 0 (vd_var 1)) (vd_op od_mul (vd_op od_mul (vd_op od_pow vd_int vd_int) (vd_op od_pow vd_int vd_int)) (vd_op od_pow vd_int vd_int)))))) vss_nil)
      (vss_cons (vs_set 3 hnd (vt_of (vd_ix (vd_of (vt_lst (vs_cons vd_int (vs_cons vd_int (vs_cons vd_int (vs_cons vd_int (vs_cons vd_int vs_nil))))))) (vd_op od_mod (vd_var 1) vd_int))))
      (vss_one (vs_ret (vt_lst (vs_cons (vd_c2B (c_max2 rfl) T.max (by decide +kernel) vd_int (vd_op od_sub (vd_var 2) (vd_op od_pow vd_int vd_int))) (vs_cons (vd_op od_mod (vd_op od_pow (vd_op od_add (vd_op od_add (vd_op od_mod (vd_var 2) (vd_var 3)) (vd_op od_mul vd_int (vd_var 1))) vd_int) vd_int) vd_int) vs_nil))))))))
theorem sc_fan_of : FnScope ["d", "k", "found", "row", "turn"] ["d", "k"] (defScope s_fan_of) := ⟨rfl, rfl, rfl, by decide +kernel, rfl, by decide +kernel, by decide +kernel⟩
theorem ok_fan_of {f : Addr} {fd : FuncData} (T : Top K mg) (F : FunD K "fan_of" "fan_of" (defArgs s_fan_of) (defBody s_fan_of) (defScope s_fan_of) [] [] f fd) (hm : mg "fan_of" = some (.ref f)) : Fn P w K mg base "fan_of" 2 1 f_fan_of := by
  have hb : Binds K fd ["d", "k"] [] := F.bindsN fun _ _ _ _ _ _ us hl => match us, hl with | [_, _], _ => rfl
  refine ⟨f, fd, ["d", "k"], fn_ok (N := ["d", "k", "found", "row", "turn"]) [] F sc_fan_of (by decide) (fun cdv A outer s H E hr => ?_), hm, F.kp, hb⟩
  have hu : (cxOf (L2.CX P w) P w K mg base ["d", "k", "found", "row", "turn"] "fan_of" (defScope s_fan_of) f cdv A outer s H E).A.units + 65 < cLine := by have := hr.un; simp only [cxOf]; omega
  have tk := takes_cx (P := P) (w := w) (K := K) (mg := mg) (base := base) (N := ["d", "k", "found", "row", "turn"]) (qual := "fan_of") (scope := defScope s_fan_of) (f := f) (cdv := cdv) (A := A) (outer := outer) (s := s) (H := H) (E := E)
  have hp := own_cx (P := P) (w := w) (K := K) (mg := mg) (base := base) (N := ["d", "k", "found", "row", "turn"]) (qual := "fan_of") (scope := defScope s_fan_of) (f := f) (cdv := cdv) (A := A) (outer := outer) (s := s) (H := H) (E := E)
  have hnd := (sc_fan_of).nd
  unfold b_fan_of
  exact (vss_cons (vs_set 2 hnd (vt_of vd_int))
      (vss_cons (vs_set 3 hnd (vt_of (vd_op od_add (vd_var 0) vd_int)))
      (vss_cons (vs_for hp rfl (vi_range1 T.range (vs_cons (vd_var 1) vs_nil)) (vg_name 4 hnd) (vss_cons (vs_aug 2 hnd ia_add (vd_var 3))
      (vss_one (vs_set 3 hnd (vt_of (vd_op od_mul (vd_var 3) (vd_var 0)))))))
      (vss_one (vs_ret (vt_of (vd_var 2)))))))
theorem sc_share_of : FnScope ["n", "k", "d"] ["n", "k"] (defScope s_share_of) := ⟨rfl, rfl, rfl, by decide +kernel, rfl, by decide +kernel, by decide +kernel⟩
theorem ok_share_of {f : Addr} {fd : FuncData} (T : Top K mg) (g_fan_of : Fn P w K mg base "fan_of" 2 1 f_fan_of) (F : FunD K "share_of" "share_of" (defArgs s_share_of) (defBody s_share_of) (defScope s_share_of) [] [] f fd) (hm : mg "share_of" = some (.ref f)) : Fn P w K mg base "share_of" 2 2 f_share_of := by
  have hb : Binds K fd ["n", "k"] [] := F.bindsN fun _ _ _ _ _ _ us hl => match us, hl with | [_, _], _ => rfl
  refine ⟨f, fd, ["n", "k"], fn_ok (N := ["n", "k", "d"]) [] F sc_share_of (by decide) (fun cdv A outer s H E hr => ?_), hm, F.kp, hb⟩
  have hu : (cxOf (L2.CX P w) P w K mg base ["n", "k", "d"] "share_of" (defScope s_share_of) f cdv A outer s H E).A.units + 65 < cLine := by have := hr.un; simp only [cxOf]; omega
  have tk := takes_cx (P := P) (w := w) (K := K) (mg := mg) (base := base) (N := ["n", "k", "d"]) (qual := "share_of") (scope := defScope s_share_of) (f := f) (cdv := cdv) (A := A) (outer := outer) (s := s) (H := H) (E := E)
  have hp := own_cx (P := P) (w := w) (K := K) (mg := mg) (base := base) (N := ["n", "k", "d"]) (qual := "share_of") (scope := defScope s_share_of) (f := f) (cdv := cdv) (A := A) (outer := outer) (s := s) (H := H) (E := E)
  have hnd := (sc_share_of).nd
  unfold b_share_of
  exact (vss_cons (vs_set 2 hnd (vt_of vd_int))
      (vss_cons (vs_while 1000000 hp (vb_cmp od_le (vd_of (vt_fn g_fan_of hr (by decide) tk (va_d (vd_var 2) (va_d (vd_var 1) va_nil)))) (vd_var 0)) (vss_one (vs_aug 2 hnd ia_add vd_int)))
      (vss_one (vs_ret (vt_of (vd_var 2))))))
theorem sc__law_take : FnScope ["pot", "many", "found"] ["pot", "many"] (defScope s__law_take) := ⟨rfl, rfl, rfl, by decide +kernel, rfl, by decide +kernel, by decide +kernel⟩
theorem ok__law_take {f : Addr} {fd : FuncData} (T : Top K mg) (F : FunD K "_law_take" "_law_take" (defArgs s__law_take) (defBody s__law_take) (defScope s__law_take) [] [] f fd) (hm : mg "_law_take" = some (.ref f)) : Fn P w K mg base "_law_take" 2 1 f__law_take := by
  have hb : Binds K fd ["pot", "many"] [] := F.bindsN fun _ _ _ _ _ _ us hl => match us, hl with | [_, _], _ => rfl
  refine ⟨f, fd, ["pot", "many"], fn_ok (N := ["pot", "many", "found"]) [0] F sc__law_take (by decide) (fun cdv A outer s H E hr => ?_), hm, F.kp, hb⟩
  have hu : (cxOf (L2.CX P w) P w K mg base ["pot", "many", "found"] "_law_take" (defScope s__law_take) f cdv A outer s H E).A.units + 65 < cLine := by have := hr.un; simp only [cxOf]; omega
  have tk := takes_cx (P := P) (w := w) (K := K) (mg := mg) (base := base) (N := ["pot", "many", "found"]) (qual := "_law_take") (scope := defScope s__law_take) (f := f) (cdv := cdv) (A := A) (outer := outer) (s := s) (H := H) (E := E)
  have hp := own_cx (P := P) (w := w) (K := K) (mg := mg) (base := base) (N := ["pot", "many", "found"]) (qual := "_law_take") (scope := defScope s__law_take) (f := f) (cdv := cdv) (A := A) (outer := outer) (s := s) (H := H) (E := E)
  have hnd := (sc__law_take).nd
  unfold b__law_take
  exact (vss_cons (vs_if (vb_cmp od_gt (vd_ixV 0 vd_int) vd_int) (vss_cons (vs_set 2 hnd (vt_of (vd_op od_mod (vd_ixV 0 vd_int) (vd_var 1))))
      (vss_cons (vs_setIx 0 (vd_op od_div (vd_ixV 0 vd_int) (vd_var 1)) vd_int)
      (vss_one (vs_ret (vt_of (vd_var 2)))))) vss_nil)
      (vss_cons (vs_setIx 0 (vd_op od_mod (vd_op od_add (vd_op od_mul (vd_ixV 0 vd_int) vd_int) vd_int) vd_int) vd_int)
      (vss_one (vs_ret (vt_of (vd_op od_mod (vd_op od_div (vd_op od_mod (vd_op od_pow (vd_ixV 0 vd_int) vd_int) vd_int) vd_int) (vd_var 1)))))))
theorem sc__law_whole : FnScope ["thing"] ["thing"] (defScope s__law_whole) := ⟨rfl, rfl, rfl, by decide +kernel, rfl, by decide +kernel, by decide +kernel⟩
theorem ok__law_whole {f : Addr} {fd : FuncData} (T : Top K mg) (F : FunD K "_law_whole" "_law_whole" (defArgs s__law_whole) (defBody s__law_whole) (defScope s__law_whole) [] [] f fd) (hm : mg "_law_whole" = some (.ref f)) : Fn P w K mg base "_law_whole" 1 1 f__law_whole := by
  have hb : Binds K fd ["thing"] [] := F.bindsN fun _ _ _ _ _ _ us hl => match us, hl with | [_], _ => rfl
  refine ⟨f, fd, ["thing"], fn_ok (N := ["thing"]) [] F sc__law_whole (by decide) (fun cdv A outer s H E hr => ?_), hm, F.kp, hb⟩
  have hu : (cxOf (L2.CX P w) P w K mg base ["thing"] "_law_whole" (defScope s__law_whole) f cdv A outer s H E).A.units + 65 < cLine := by have := hr.un; simp only [cxOf]; omega
  have tk := takes_cx (P := P) (w := w) (K := K) (mg := mg) (base := base) (N := ["thing"]) (qual := "_law_whole") (scope := defScope s__law_whole) (f := f) (cdv := cdv) (A := A) (outer := outer) (s := s) (H := H) (E := E)
  have hp := own_cx (P := P) (w := w) (K := K) (mg := mg) (base := base) (N := ["thing"]) (qual := "_law_whole") (scope := defScope s__law_whole) (f := f) (cdv := cdv) (A := A) (outer := outer) (s := s) (H := H) (E := E)
  have hnd := (sc__law_whole).nd
  unfold b__law_whole
  exact (vss_one (vs_ret (vt_of (vd_and (vd_isi "int" T.isinstance T.int (by decide +kernel) (vd_var 0)) (vd_one (vd_not (vd_isi "bool" T.isinstance T.bool (by decide +kernel) (vd_var 0))))))))
theorem sc__law_fan : FnScope ["d", "k", "found", "turn"] ["d", "k"] (defScope s__law_fan) := ⟨rfl, rfl, rfl, by decide +kernel, rfl, by decide +kernel, by decide +kernel⟩
theorem ok__law_fan {f : Addr} {fd : FuncData} (T : Top K mg) (F : FunD K "_law_fan" "_law_fan" (defArgs s__law_fan) (defBody s__law_fan) (defScope s__law_fan) [] [] f fd) (hm : mg "_law_fan" = some (.ref f)) : Fn P w K mg base "_law_fan" 2 1 f__law_fan := by
  have hb : Binds K fd ["d", "k"] [] := F.bindsN fun _ _ _ _ _ _ us hl => match us, hl with | [_, _], _ => rfl
  refine ⟨f, fd, ["d", "k"], fn_ok (N := ["d", "k", "found", "turn"]) [] F sc__law_fan (by decide) (fun cdv A outer s H E hr => ?_), hm, F.kp, hb⟩
  have hu : (cxOf (L2.CX P w) P w K mg base ["d", "k", "found", "turn"] "_law_fan" (defScope s__law_fan) f cdv A outer s H E).A.units + 65 < cLine := by have := hr.un; simp only [cxOf]; omega
  have tk := takes_cx (P := P) (w := w) (K := K) (mg := mg) (base := base) (N := ["d", "k", "found", "turn"]) (qual := "_law_fan") (scope := defScope s__law_fan) (f := f) (cdv := cdv) (A := A) (outer := outer) (s := s) (H := H) (E := E)
  have hp := own_cx (P := P) (w := w) (K := K) (mg := mg) (base := base) (N := ["d", "k", "found", "turn"]) (qual := "_law_fan") (scope := defScope s__law_fan) (f := f) (cdv := cdv) (A := A) (outer := outer) (s := s) (H := H) (E := E)
  have hnd := (sc__law_fan).nd
  unfold b__law_fan
  exact (vss_cons (vs_set 2 hnd (vt_of vd_int))
      (vss_cons (vs_for hp rfl (vi_range1 T.range (vs_cons (vd_var 1) vs_nil)) (vg_name 3 hnd) (vss_one (vs_set 2 hnd (vt_of (vd_op od_add (vd_op od_mul (vd_var 2) (vd_var 0)) vd_int)))))
      (vss_one (vs_ret (vt_of (vd_op od_add vd_int (vd_op od_mul (vd_op od_add (vd_var 0) vd_int) (vd_var 2))))))))
theorem sc_law : FnScope ["script", "k", "pot", "turn", "n", "many", "d"] ["script"] (defScope s_law) := ⟨rfl, rfl, rfl, by decide +kernel, rfl, by decide +kernel, by decide +kernel⟩
theorem ok_law {f : Addr} {fd : FuncData} (T : Top K mg) (g__law_pot : Fn P w K mg base "_law_pot" 2 1 f__law_pot) (g__law_take : Fn P w K mg base "_law_take" 2 1 f__law_take) (g_share_of : Fn P w K mg base "share_of" 2 2 f_share_of) (g__law_whole : Fn P w K mg base "_law_whole" 1 1 f__law_whole) (g__law_fan : Fn P w K mg base "_law_fan" 2 1 f__law_fan) (F : FunD K "law" "law" (defArgs s_law) (defBody s_law) (defScope s_law) [] [] f fd) : FnOk P w K mg base (L2.CX P w) 3 f fd ["script"] (spM 1 K f_law) := by
  refine fn_ok (N := ["script", "k", "pot", "turn", "n", "many", "d"]) (ps := ["script"]) [] F sc_law (by decide) (fun cdv A outer s H E hr => ?_)
  have hu : (cxOf (L2.CX P w) P w K mg base ["script", "k", "pot", "turn", "n", "many", "d"] "law" (defScope s_law) f cdv A outer s H E).A.units + 65 < cLine := by have := hr.un; simp only [cxOf]; omega
  have tk := takes_cx (P := P) (w := w) (K := K) (mg := mg) (base := base) (N := ["script", "k", "pot", "turn", "n", "many", "d"]) (qual := "law") (scope := defScope s_law) (f := f) (cdv := cdv) (A := A) (outer := outer) (s := s) (H := H) (E := E)
  have hp := own_cx (P := P) (w := w) (K := K) (mg := mg) (base := base) (N := ["script", "k", "pot", "turn", "n", "many", "d"]) (qual := "law") (scope := defScope s_law) (f := f) (cdv := cdv) (A := A) (outer := outer) (s := s) (H := H) (E := E)
  have hnd := (sc_law).nd
  unfold b_law
  exact (vss_cons (vs_for hp rfl (vi_range1 T.range (vs_cons (vd_c2B (c_max2 rfl) T.max (by decide +kernel) vd_int (vd_c2B (c_min2 rfl) T.min (by decide +kernel) vd_int (vd_len 0 T.len_))) vs_nil)) (vg_name 1 hnd) (vss_cons (vs_set 2 hnd (vt_fn g__law_pot hr (by decide) tk (va_cp 0 (va_d (vd_var 1) va_nil))))
      (vss_one (vs_for hp rfl (vi_range1 T.range (vs_cons vd_int vs_nil)) (vg_name 3 hnd) (vss_cons (vs_set 4 hnd (vt_of (vd_op od_add vd_int (vd_of (vt_fn g__law_take hr (by decide) tk (va_own 2 (va_d vd_int va_nil)))))))
      (vss_cons (vs_set 5 hnd (vt_of (vd_op od_add vd_int (vd_of (vt_fn g__law_take hr (by decide) tk (va_own 2 (va_d vd_int va_nil)))))))
      (vss_cons (vs_set 6 hnd (vt_of (vd_of (vt_fn g_share_of hr (by decide) tk (va_d (vd_var 4) (va_d (vd_var 5) va_nil))))))
      (vss_cons (vs_if (VW.vb (vw_or (vb_not (vb_val (vd_of (vt_fn g__law_whole hr (by decide) tk (va_d (vd_var 6) va_nil))))) (vw_or (vb_cmp od_lt (vd_var 6) vd_int) (vw_or (vb_cmp od_le (vd_of (vt_fn g__law_fan hr (by decide) tk (va_d (vd_var 6) (va_d (vd_var 5) va_nil)))) (vd_var 4)) (vw_or1 (VW.vb (vw_and (vb_cmp od_gt (vd_var 6) vd_int) (vw_and1 (vb_cmp od_gt (vd_of (vt_fn g__law_fan hr (by decide) tk (va_d (vd_op od_sub (vd_var 6) vd_int) (va_d (vd_var 5) va_nil)))) (vd_var 4)))))))))) (vss_one (vs_ret (vt_of vd_bl))) vss_nil)
      (vss_one (vs_if (VW.vb (vw_or (VW.vb (vw_and (vb_cmp od_lt (vd_var 5) vd_int) (vw_and1 (vb_cmp od_gt (vd_of (vt_fn g_share_of hr (by decide) tk (va_d (vd_var 4) (va_d (vd_op od_add (vd_var 5) vd_int) va_nil)))) (vd_var 6))))) (vw_or1 (VW.vb (vw_and (vb_cmp od_lt (vd_var 4) vd_int) (vw_and1 (vb_cmp od_lt (vd_of (vt_fn g_share_of hr (by decide) tk (va_d (vd_op od_add (vd_var 4) vd_int) (va_d (vd_var 5) va_nil)))) (vd_var 6)))))))) (vss_one (vs_ret (vt_of vd_bl))) vss_nil))))))))))
      (vss_one (vs_ret (vt_of (vd_and (vd_cmp (od_eq hu) (vd_of (vt_fn g_share_of hr (by decide) tk (va_d vd_int (va_d vd_int va_nil)))) vd_int) (vd_one (vd_c1B (c_all rfl) T.all (by decide +kernel) (vp_of (vd_of (vt_lc (own := [("n", 4)]) rfl hnd (vi_range2 T.range (vs_cons vd_int (vs_cons vd_int vs_nil))) (blkOk_by (own := [("n", 4)]) (N := ["script", "k", "pot", "turn", "n", "many", "d"]) (sc := defScope s_law) (by decide +kernel)) (fun _ _ _ _ _ => (vg_name 4 hnd (hio := out_not rfl))) (fun _ _ _ _ _ => vts_nil) (fun _ _ _ _ _ => (vt_of (vd_cmp (od_eq hu) (vd_of (vt_fn g_share_of hr (by decide) takes0 (va_d (vd_var 4) (va_d vd_int va_nil)))) (vd_op od_sub (vd_var 4) vd_int))))))))))))))
end
/-! ### the head -/
def fn : List He.DefD := [⟨("_law_pot", none), "_law_pot", "_law_pot", defArgs s__law_pot, defBody s__law_pot, defScope s__law_pot, [], []⟩,
  ⟨("fan_of", none), "fan_of", "fan_of", defArgs s_fan_of, defBody s_fan_of, defScope s_fan_of, [], []⟩,
  ⟨("share_of", none), "share_of", "share_of", defArgs s_share_of, defBody s_share_of, defScope s_share_of, [], []⟩,
  ⟨("_law_take", none), "_law_take", "_law_take", defArgs s__law_take, defBody s__law_take, defScope s__law_take, [], []⟩,
  ⟨("_law_whole", none), "_law_whole", "_law_whole", defArgs s__law_whole, defBody s__law_whole, defScope s__law_whole, [], []⟩,
  ⟨("_law_fan", none), "_law_fan", "_law_fan", defArgs s__law_fan, defBody s__law_fan, defScope s__law_fan, [], []⟩,
  ⟨("law", none), "law", "law", defArgs s_law, defBody s_law, defScope s_law, [], []⟩]
def fa : List He.Fa := [.glo "_law_pot", .glo "fan_of", .glo "share_of", .glo "_law_take", .glo "_law_whole", .glo "_law_fan", .glo "law", .free "all", .free "bool", .free "int", .free "isinstance", .free "len", .free "max", .free "min", .free "range"]
def loose0 : List Str := ["fan_of", "share_of", "_law_pot", "_law_take", "_law_whole", "_law_fan"]
def loose : List Str := loose0
abbrev R : PySem.W.OpenRow := PySem.W.OpenLaw.row PySem.Challenge.rw_thinways_k32_shares_told
abbrev hk : PySem.W.Hook := He.hookD 4 fa fn
def ob (s : PySem.W.SharedT) : He.AlD := He.obsDG 4 fa fn (HandSHeadRun.getT s)
theorem ob_eq (s : PySem.W.SharedT) : ob s = hk.obs s.abs := He.obsDG_eq (HandSHeadRun.getT_eq s)
theorem run (w : World) : HandSHeadRun.RunEq R (PySem.W.view R.prog [8]) hk ob 940 loose w := by
  intro os
  kernel_rfl
theorem facts {P : Program} {w : World} {K : PySem.W.Frag} {h : Heap} {mg : Str → Option Value} {f : Addr} (X : K.In h) (G : h.Ns mainGlobals mg) (hfa : mg ("law" : Str) = some (.ref f)) (c : He.SaysD fa fn K) :
    ∃ fd : FuncData, (∀ (s : Shared) (v : Value), BindsTo s fd ⟨[v], []⟩ [("script", v)]) ∧ ∀ base : Heap, K.In base → base.Ns mainGlobals mg → FnOk P w K mg base CX0 3 f fd ["script"] (fun vs H Q _ => spM 1 K f_law vs H Q E0) := by
  have T : Top K mg := ⟨He.free_ok X G (c.fact 7 (f := .free "all") rfl), He.free_ok X G (c.fact 8 (f := .free "bool") rfl), He.free_ok X G (c.fact 9 (f := .free "int") rfl), He.free_ok X G (c.fact 10 (f := .free "isinstance") rfl), He.free_ok X G (c.fact 11 (f := .free "len") rfl), He.free_ok X G (c.fact 12 (f := .free "max") rfl), He.free_ok X G (c.fact 13 (f := .free "min") rfl), He.free_ok X G (c.fact 14 (f := .free "range") rfl)⟩
  obtain ⟨fd__law_pot, F__law_pot⟩ := c.def_ 0 (d := ⟨("_law_pot", none), "_law_pot", "_law_pot", defArgs s__law_pot, defBody s__law_pot, defScope s__law_pot, [], []⟩) rfl
  obtain ⟨fd_fan_of, F_fan_of⟩ := c.def_ 1 (d := ⟨("fan_of", none), "fan_of", "fan_of", defArgs s_fan_of, defBody s_fan_of, defScope s_fan_of, [], []⟩) rfl
  obtain ⟨fd_share_of, F_share_of⟩ := c.def_ 2 (d := ⟨("share_of", none), "share_of", "share_of", defArgs s_share_of, defBody s_share_of, defScope s_share_of, [], []⟩) rfl
  obtain ⟨fd__law_take, F__law_take⟩ := c.def_ 3 (d := ⟨("_law_take", none), "_law_take", "_law_take", defArgs s__law_take, defBody s__law_take, defScope s__law_take, [], []⟩) rfl
  obtain ⟨fd__law_whole, F__law_whole⟩ := c.def_ 4 (d := ⟨("_law_whole", none), "_law_whole", "_law_whole", defArgs s__law_whole, defBody s__law_whole, defScope s__law_whole, [], []⟩) rfl
  obtain ⟨fd__law_fan, F__law_fan⟩ := c.def_ 5 (d := ⟨("_law_fan", none), "_law_fan", "_law_fan", defArgs s__law_fan, defBody s__law_fan, defScope s__law_fan, [], []⟩) rfl
  obtain ⟨fd_law, F_law⟩ := c.def_ 6 (d := ⟨("law", none), "law", "law", defArgs s_law, defBody s_law, defScope s_law, [], []⟩) rfl
  have e := hfa.symm.trans (He.glo_ok X G (c.fact 6 (f := .glo "law") rfl))
  cases e
  have b := FunD.bindsA (ps := ["script"]) F_law fun _ _ _ _ _ _ us hl => match us, hl with | [_], _ => rfl
  refine ⟨fd_law, fun s v => b s [v] rfl, fun base _ _ => ?_⟩
  have g__law_pot : Fn P w K mg base "_law_pot" 2 1 f__law_pot := ok__law_pot T F__law_pot (He.glo_ok X G (c.fact 0 (f := .glo "_law_pot") rfl))
  have g_fan_of : Fn P w K mg base "fan_of" 2 1 f_fan_of := ok_fan_of T F_fan_of (He.glo_ok X G (c.fact 1 (f := .glo "fan_of") rfl))
  have g_share_of : Fn P w K mg base "share_of" 2 2 f_share_of := ok_share_of T g_fan_of F_share_of (He.glo_ok X G (c.fact 2 (f := .glo "share_of") rfl))
  have g__law_take : Fn P w K mg base "_law_take" 2 1 f__law_take := ok__law_take T F__law_take (He.glo_ok X G (c.fact 3 (f := .glo "_law_take") rfl))
  have g__law_whole : Fn P w K mg base "_law_whole" 1 1 f__law_whole := ok__law_whole T F__law_whole (He.glo_ok X G (c.fact 4 (f := .glo "_law_whole") rfl))
  have g__law_fan : Fn P w K mg base "_law_fan" 2 1 f__law_fan := ok__law_fan T F__law_fan (He.glo_ok X G (c.fact 5 (f := .glo "_law_fan") rfl))
  exact fn_calm (ok_law T g__law_pot g__law_take g_share_of g__law_whole g__law_fan F_law)
local macro_rules | `(tactic| walk_at "run") => `(tactic| simp only [↓wp_bM, ↓wp_bS, ↓bQ_ok, ↓sQ_ok, ↓bQ_ex, ↓sQ_ex, ↓wp_pM, ↓wp_oM, ↓wp_mC, ↓wp_qS, ↓nQ_nx, ↓nQ_rt, ↓nQ_bk, ↓nQ_ct, ↓nQ_ex, ↓wp_nS, ↓atV_0, ↓atV_s, ↓onO_some, ↓onO_if, ↓onO_map, ↓wp_mVar, ↓varQ_frz, ↓varQ_lst, ↓wp_mMove, ↓wp_mPeek, ↓peekQ_frz, ↓peekQ_lst, ↓ice_frz, ↓fzs_frz, ↓wp_mSet, ↓wp_store, ↓wp_mT, ↓wp_mF, ↓fz_frz, ↓fz_lst, ↓wp_mB, ↓isB_bool, ↓wp_mOp, ↓wp_mC1, ↓wp_mC2, ↓wp_mC1T, ↓wp_mRet, ↓wp_rt, ↓wp_nx, ↓wp_exS, ↓wp_mDrop, Bool.not_true, Bool.not_false, ↓ifQ_t, ↓ifQ_f, ifQ_t, ifQ_f, ↓ifQ_d, ↓wp_mWhen, ↓wp_ifS, ↓wp_ifM, ↓wp_mIf, ↓wp_mAnd, ↓wp_mOr, ↓wp_mNot, ↓wp_andF, ↓wp_orF, ↓wp_mAndV, ↓wp_mOrV, ↓wp_notFn, ↓wp_mNotV, ↓wp_mNil, ↓wp_mCons, ↓wp_mTup, ↓wp_mLst, ↓ixW_frz, ↓ixW_scr, ↓ixW_lst, ↓ixL_frz, ↓ixL_lst, ↓wp_ixS, ↓wp_ixV, ↓putQ_lst, ↓wp_mSetIx, ↓wp_setF, ↓wp_setK, ↓appQ_lst, ↓isL_lst, ↓wp_mApp, ↓wp_appK, ↓wp_mLen, ↓lenT_frz, ↓lenT_scr, ↓lenT_lst, ↓lenF_list, ↓lenF_tuple, ↓wp_mAug, ↓addF_int, ↓addF_tup, ↓addF_list, ↓subF_int, ↓mulF_int, ↓modF_int, ↓divF_int, ↓powF_int, ↓ltF_int, ↓leF_int, ↓gtF_int, ↓geF_int, ↓eqF_int, ↓neF_int, ↓eqF_bool, ↓iaddF_int, ↓max2F_int, ↓min2F_int, ↓isNF_no, ↓notNF_no, ↓ixF_list, ↓ixF_tup, ↓ixN20, ↓ixN21, bigs, List.set, ↓at0, ↓at1, ↓at2, ↓inst_int_int, ↓inst_bool_int, ↓callQ_ret, ↓wp_mCall, ↓wp_callF, ↓wp_mArgs_nil, ↓wp_mArgs_d, ↓wp_mArgs_own, ↓restore_own, ↓restore_own0, ↓restore_d, ↓restore_cp, ↓wp_mArgs_cp, ↓cpQ_scr, ↓wp_mCopy, ↓restore_nil, ↓finQ_rt, ↓finQ_nx, ↓finQ_ex, ↓wp_mFor, ↓wp_mRng1, ↓wp_mRng2, ↓wp_mIt, ↓rng1F_int, ↓rng2F_int, ↓lQ_nx, ↓lQ_ct, ↓lQ_bk, ↓lQ_rt, ↓lQ_ex, ↓whQ_ok, ↓wp_mComp, ↓wp_compK, ↓tsQ_ok, ↓elQ_ok, ↓wipeG_nil, ↓wipeG_cons, ↓gN_eq, ↓on_storeG, ↓on_gTu, ↓on_gTuL, ↓on_gC, ↓on_gE, ↓wp_mAsg, ↓wp_asgK, ↓allF_list, ↓anyF_list, List.set_cons_zero, List.set_cons_succ, List.length_cons, List.length_nil, List.length_set, List.map_cons, List.map_nil, List.cons_append, List.nil_append, List.replicate, Nat.reduceSub, Nat.reduceAdd])
/-! the draws -/
def potT (p : Int × Int) : T := .lst [.frz (.int p.1), .frz (.int p.2)]
def take (p : Int × Int) (many : Int) : Int × (Int × Int) :=
  if 0 < p.1 then (p.1 % many, (p.1 / many, p.2)) else
    ((((p.2 * 48271 + 12820163) % 2147483647) ^ 3 % 2147483629 / 8 % many), (p.1, (p.2 * 48271 + 12820163) % 2147483647))
def PotOk (p : Int × Int) : Prop := 0 ≤ p.2 ∧ p.2 < 2147483647
theorem run_take {p : Int × Int} {many : Int} (hp : PotOk p) (hm : 0 < many) (hb : many < 10 ^ 30) :
    f__law_take [potT p, .frz (.int many)] = some (.ret (.frz (.int (take p many).1)) [some (potT (take p many).2), none]) := by
  obtain ⟨p0, p1⟩ := p
  obtain ⟨h0, h1⟩ := hp
  refine mf_eq (on_mf rfl ?_)
  unfold b__law_take potT
  have hbig : big many = true := big_of (by omega) (by omega)
  have hb1 : big p1 = true := big_of (by dsimp only at h0; omega) (by dsimp only at h1; omega)
  walk_at "run"
  refine ⟨fun h => ?_, fun h => ?_⟩
  · unfold take
    rw [if_pos h]
    exact ⟨hm, by decide, ⟨hm, hbig⟩, rfl⟩
  · unfold take
    rw [if_neg h]
    have hq0 : 0 ≤ (p1 * 48271 + 12820163) % 2147483647 := Int.emod_nonneg _ (by decide)
    have hq1 : (p1 * 48271 + 12820163) % 2147483647 < 2147483647 := Int.emod_lt_of_pos _ (by decide)
    exact ⟨⟨hb1, by decide +kernel⟩, by decide, ⟨by decide, by decide, by omega⟩, by decide, ⟨by decide, by decide +kernel⟩, hm, rfl⟩
theorem take_ok {p : Int × Int} {many : Int} (hp : PotOk p) (hm : 0 < many) : 0 ≤ (take p many).1 ∧ (take p many).1 < many ∧ PotOk (take p many).2 := by
  unfold take
  split
  · exact ⟨Int.emod_nonneg _ (by omega), Int.emod_lt_of_pos _ hm, hp⟩
  · exact ⟨Int.emod_nonneg _ (by omega), Int.emod_lt_of_pos _ hm, Int.emod_nonneg _ (by decide), Int.emod_lt_of_pos _ (by decide)⟩
/-- some pot: which one is never asked -/
theorem on_take {p : Int × Int} {many : Int} (hp : PotOk p) (hm : 0 < many) (hb : many < 10 ^ 30) {Q : CR → Prop} (h : ∀ (r : Int) (p' : Int × Int), 0 ≤ r → r < many → PotOk p' → Q (.ret (.frz (.int r)) [some (potT p'), none])) : onO (f__law_take [potT p, .frz (.int many)]) Q := by
  rw [run_take hp hm hb, onO_some]
  obtain ⟨h1, h2, h3⟩ := take_ok hp hm
  exact h _ _ h1 h2 h3
theorem at_nat {α : Type} {l : List α} {k : Int} (h0 : 0 ≤ k) (h1 : k < l.length) : ∃ a, atI l k = some a ∧ l[k.toNat]? = some a := by
  have hlt : k.toNat < l.length := by omega
  refine ⟨l[k.toNat], ?_, List.getElem?_eq_getElem hlt⟩
  have := atI_nat (j := k.toNat) (List.getElem?_eq_getElem hlt)
  rw [show ((k.toNat : Nat) : Int) = k by omega] at this
  exact this
theorem five {k : Int} (h0 : 0 ≤ k) : ∃ q : Int, atI [PyData.int 2147483629, PyData.int 2147483587, PyData.int 2147483579, PyData.int 2147483563, PyData.int 2147483549] (k % 5) = some (.int q) ∧ 0 < q ∧ q < 2147483647 := by
  have h1 : 0 ≤ k % 5 := Int.emod_nonneg _ (by decide)
  have h2 : k % 5 < 5 := Int.emod_lt_of_pos _ (by decide)
  rcases (show k % 5 = 0 ∨ k % 5 = 1 ∨ k % 5 = 2 ∨ k % 5 = 3 ∨ k % 5 = 4 by omega) with e | e | e | e | e <;> rw [e]
  · exact ⟨2147483629, rfl, by decide, by decide⟩
  · exact ⟨2147483587, rfl, by decide, by decide⟩
  · exact ⟨2147483579, rfl, by decide, by decide⟩
  · exact ⟨2147483563, rfl, by decide, by decide⟩
  · exact ⟨2147483549, rfl, by decide, by decide⟩
theorem on_pot {ns : List Int} {k : Int} (h0 : 0 ≤ k) (h1 : k < 10 ^ 9) {Q : CR → Prop} (h : ∀ p, PotOk p → Q (.ret (potT p) [none, none])) : onO (f__law_pot [.scr ns, .frz (.int k)]) Q := by
  refine on_mf rfl ?_
  unfold b__law_pot
  have e10 : big (10 ^ (60 : Int).toNat) = true := by decide +kernel
  have e20 : big (10 ^ (60 : Int).toNat * 10 ^ (60 : Int).toNat) = true := by decide +kernel
  have s2 : 2 ≤ sizeLine := by decide
  have s5 : 5 ≤ sizeLine := by decide
  have bk : big k = true := big_of (by omega) (by omega)
  have p10 : (0 : Int) < 10 ^ (60 : Int).toNat * 10 ^ (60 : Int).toNat * 10 ^ (60 : Int).toNat := by decide +kernel
  obtain ⟨q, eq, q0, q1⟩ := five h0
  have pw : ∀ z : Int, (z % q + 7919 * k + 11).natAbs < 2 ^ 64 := fun z => by
    have := Int.emod_nonneg z (show q ≠ 0 by omega)
    have := Int.emod_lt_of_pos z q0
    omega
  have pk : ∀ x : Int, PotOk (x, (x : Int)) ∨ True := fun _ => .inr trivial
  have m0 : ∀ x : Int, 0 ≤ x % 2147483647 ∧ x % 2147483647 < 2147483647 := fun x => ⟨Int.emod_nonneg _ (by decide), Int.emod_lt_of_pos _ (by decide)⟩
  walk_at "run"
  refine ⟨by decide, fun hk => ?_, fun hk => ?_⟩
  · obtain ⟨z, ez, _⟩ := at_nat (l := ns) h0 hk
    refine onO_mk ez ⟨by decide, by decide, ⟨e10, e10⟩, by decide, ⟨e20, e10⟩, p10, by decide, s5, by decide, onO_mk eq ⟨by decide, by decide, ?_⟩⟩
    walk_at "run"
    exact ⟨q0, ⟨by decide +kernel, bk⟩, ⟨by decide, by decide, pw _⟩, by decide, s2, h (_, _) (m0 _)⟩
  · refine ⟨s5, by decide, onO_mk eq ⟨by decide, by decide, ?_⟩⟩
    walk_at "run"
    exact ⟨q0, ⟨by decide +kernel, bk⟩, ⟨by decide, by decide, pw _⟩, by decide, s2, h (_, _) (m0 _)⟩

/-! the fan -/
def geo (d : Nat) : Nat → Nat
  | 0 => 0
  | i + 1 => geo d i + d ^ i
def fan (d k : Nat) : Nat := 1 + (d + 1) * geo d k
theorem geo_h (d : Nat) : ∀ i, geo d (i + 1) = geo d i * d + 1
  | 0 => by show 0 + d ^ 0 = 0 * d + 1; simp
  | i + 1 => by
    show geo d (i + 1) + d ^ (i + 1) = geo d (i + 1) * d + 1
    rw [geo_h d i]
    have h := geo_h d i
    show geo d i * d + 1 + d ^ (i + 1) = (geo d i * d + 1) * d + 1
    have h2 : geo d i + d ^ i = geo d i * d + 1 := h
    have h3 : (geo d i + d ^ i) * d = (geo d i * d + 1) * d := by rw [h2]
    have h4 : (geo d i + d ^ i) * d = geo d i * d + d ^ (i + 1) := by rw [Nat.add_mul, Nat.pow_succ]
    omega
theorem pow_b {d i : Nat} (hd : d ≤ 24) (hi : i ≤ 13) : d ^ i ≤ 10 ^ 20 := by
  refine Nat.le_trans (Nat.pow_le_pow_left hd i) (Nat.le_trans (Nat.pow_le_pow_right (by decide) hi) (by decide))
theorem geo_b {d : Nat} (hd : d ≤ 24) : ∀ {i : Nat}, i ≤ 13 → geo d i ≤ i * 10 ^ 20
  | 0, _ => Nat.zero_le _
  | i + 1, h => by
    have h1 := geo_b hd (i := i) (by omega)
    have h2 := pow_b (i := i) hd (by omega)
    show geo d i + d ^ i ≤ (i + 1) * 10 ^ 20
    omega
theorem geo_mono (d : Nat) {i j : Nat} (h : i ≤ j) : geo d i ≤ geo d j := by
  induction h with
  | refl => exact Nat.le_refl _
  | step h ih => exact Nat.le_trans ih (Nat.le_add_right _ _)
theorem geo_pos (d : Nat) {k : Nat} (h : 1 ≤ k) : 1 ≤ geo d k := Nat.le_trans (show 1 ≤ geo d 1 by show 1 ≤ 0 + d ^ 0; simp) (geo_mono d h)
theorem fan_ge (d : Nat) {k : Nat} (h : 1 ≤ k) : d + 2 ≤ fan d k := by
  have h1 := geo_pos d h
  have : (d + 1) * 1 ≤ (d + 1) * geo d k := Nat.mul_le_mul_left _ h1
  unfold fan
  omega
theorem fan_mono (d : Nat) {i j : Nat} (h : i ≤ j) : fan d i ≤ fan d j := by
  unfold fan
  have : (d + 1) * geo d i ≤ (d + 1) * geo d j := Nat.mul_le_mul_left _ (geo_mono d h)
  omega
theorem run_fan {d k : Nat} (hd : d ≤ 24) (hk : k ≤ 13) : f_fan_of [.frz (.int d), .frz (.int k)] = some (.ret (.frz (.int (fan d k : Nat))) [none, none]) := by
  refine mf_eq (on_mf rfl ?_)
  unfold b_fan_of
  walk_at "run"
  refine ⟨by decide, by decide, ⟨by omega, by omega⟩, ?_⟩
  refine loop_upto (fun i Γ => i ≤ k ∧ ∃ t, Γ = [some (.frz (.int d)), some (.frz (.int k)), some (.frz (.int (fan d i : Nat))), some (.frz (.int ((d + 1) * d ^ i : Nat))), t]) ⟨Nat.zero_le _, none, by simp [fan, geo]⟩ ?_ ?_
  · rintro i Γ hi ⟨_, t, rfl⟩
    have hik : i < k := by omega
    have hp := pow_b (d := d) (i := i) hd (by omega)
    have h1 : (d + 1) * d ^ i ≤ 25 * 10 ^ 20 := Nat.mul_le_mul (by omega) hp
    walk_at "run"
    refine ⟨by decide, by decide, ⟨big_of (by omega) (by omega), big_of (by omega) (by omega)⟩, by decide, hik, some (.frz (.int (0 + (i : Int)))), ?_⟩
    have e1 : ((fan d i : Nat) : Int) + (((d + 1) * d ^ i : Nat) : Int) = ((fan d (i + 1) : Nat) : Int) := by
      show _ = ((1 + (d + 1) * (geo d i + d ^ i) : Nat) : Int)
      unfold fan
      rw [Nat.mul_add]
      push_cast
      omega
    have e2 : (((d + 1) * d ^ i : Nat) : Int) * (d : Int) = (((d + 1) * d ^ (i + 1) : Nat) : Int) := by
      rw [Nat.pow_succ, ← Nat.mul_assoc]
      push_cast
      rfl
    rw [e1, e2]
  · rintro Γ ⟨_, t, rfl⟩
    walk_at "run"
    rw [show ((k : Int)).toNat = k by omega]
    rfl
theorem run_lawfan {d k : Nat} (hd : d ≤ 24) (hk : k ≤ 13) : f__law_fan [.frz (.int d), .frz (.int k)] = some (.ret (.frz (.int (fan d k : Nat))) [none, none]) := by
  refine mf_eq (on_mf rfl ?_)
  unfold b__law_fan
  walk_at "run"
  refine ⟨by decide, ⟨by omega, by omega⟩, ?_⟩
  refine loop_upto (fun i Γ => i ≤ k ∧ ∃ t, Γ = [some (.frz (.int d)), some (.frz (.int k)), some (.frz (.int (geo d i : Nat))), t]) ⟨Nat.zero_le _, none, rfl⟩ ?_ ?_
  · rintro i Γ hi ⟨_, t, rfl⟩
    have hik : i < k := by omega
    have hg := geo_b (d := d) (i := i) hd (by omega)
    have hg2 : i * 10 ^ 20 ≤ 13 * 10 ^ 20 := Nat.mul_le_mul_right _ (by omega)
    walk_at "run"
    refine ⟨by decide, ⟨big_of (by omega) (by omega), big_of (by omega) (by omega)⟩, by decide, hik, some (.frz (.int (0 + (i : Int)))), ?_⟩
    rw [geo_h]
    push_cast
    rfl
  · rintro Γ ⟨_, t, rfl⟩
    have hg := geo_b (d := d) (i := k) hd hk
    have hg2 : k * 10 ^ 20 ≤ 13 * 10 ^ 20 := Nat.mul_le_mul_right _ (by omega)
    rw [show ((k : Int)).toNat = k by omega]
    walk_at "run"
    refine ⟨⟨big_of (by omega) (by omega), big_of (by omega) (by omega)⟩, ?_⟩
    unfold fan
    push_cast
    rfl
def IsShare (n k d : Nat) : Prop := n < fan d k ∧ ∀ e, e < d → fan e k ≤ n
theorem share_le {n k d : Nat} (h : IsShare n k d) (hk : 1 ≤ k) (hn : 1 ≤ n) : d + 1 ≤ n := by
  cases d with
  | zero => omega
  | succ d =>
    have := h.2 d (by omega)
    have := fan_ge d hk
    omega
theorem on_share {n k : Nat} (hn : 1 ≤ n) (hn2 : n ≤ 24) (hk : 1 ≤ k) (hk2 : k ≤ 13) {Q : CR → Prop} (h : ∀ d : Nat, IsShare n k d → Q (.ret (.frz (.int d)) [none, none])) : onO (f_share_of [.frz (.int n), .frz (.int k)]) Q := by
  refine on_mf rfl ?_
  unfold b_share_of
  walk_at "run"
  refine ⟨by decide, ?_⟩
  refine while_inv (fun Γ => ∃ d : Nat, d + 1 ≤ n ∧ (∀ e, e < d → fan e k ≤ n) ∧ Γ = [some (.frz (.int n)), some (.frz (.int k)), some (.frz (.int d))]) (fun Γ => match Γ with
    | [_, _, some (.frz (.int d))] => n - d.toNat
    | _ => 0) ?_ 1000000 _ ⟨0, hn, fun e he => absurd he (Nat.not_lt_zero _), rfl⟩ (by dsimp only; omega)
  rintro Γ ⟨d, hd, hl, rfl⟩
  have hr := run_fan (d := d) (k := k) (by omega) hk2
  walk_at "run"
  rw [hr]
  walk_at "run"
  refine ⟨fun hc => ?_, fun hc => ?_⟩
  · have h1 := fan_ge d hk
    refine ⟨by decide, ⟨d + 1, by omega, fun e he => ?_, by push_cast; rfl⟩, ?_⟩
    · by_cases q : e = d
      · subst q; omega
      · exact hl e (by omega)
    · show n - ((d : Int) + 1).toNat < n - (d : Int).toNat
      omega
  · exact h d ⟨by omega, hl⟩

theorem run_whole {i : Int} : f__law_whole [.frz (.int i)] = some (.ret (.frz (.bool true)) [none]) := by
  refine mf_eq (on_mf rfl ?_)
  unfold b__law_whole
  walk_at "run"
  rfl
theorem share_k {n k d d' : Nat} (h : IsShare n k d) (h' : IsShare n (k + 1) d') : d' ≤ d := by
  by_cases q : d' ≤ d
  · exact q
  · have h1 := h'.2 d (by omega)
    have h2 := h.1
    have h3 := fan_mono d (show k ≤ k + 1 by omega)
    omega
theorem share_n {n k d d' : Nat} (h : IsShare n k d) (h' : IsShare (n + 1) k d') : d ≤ d' := by
  by_cases q : d ≤ d'
  · exact q
  · have h1 := h.2 d' (by omega)
    have h2 := h'.1
    omega
theorem share_1 {n d : Nat} (hn : 1 ≤ n) (h : IsShare n 1 d) : d = n - 1 := by
  have e : ∀ e, fan e 1 = e + 2 := fun e => by
    unfold fan geo geo
    simp
    omega
  have h1 := h.1
  rw [e] at h1
  by_cases q : d = 0
  · omega
  · have h2 := h.2 (d - 1) (by omega)
    rw [e] at h2
    omega
theorem share_24 {d : Nat} (h : IsShare 24 12 d) : d = 1 := by
  have h1 := h.1
  by_cases q : d = 0
  · subst q
    exact absurd h1 (by decide)
  · by_cases q2 : d = 1
    · exact q2
    · have h2 := h.2 1 (by omega)
      exact absurd h2 (by decide)
theorem law_true (ns : List Int) (hn : ns.length ≤ 63) : onO (f_law [.scr ns]) fun c => ∃ outs, c = .ret (.frz (.bool true)) outs := by
  refine on_mf rfl ?_
  unfold b_law
  walk_at "run"
  refine ⟨⟨by omega, by omega⟩, ?_⟩
  refine loop_upto (fun i Γ => ∃ k pot turn n many d, Γ = [some (.scr ns), k, pot, turn, n, many, d]) ⟨_, _, _, _, _, _, rfl⟩ ?_ ?_
  · rintro i Γ hi ⟨k, pot, turn, n, many, d, rfl⟩
    walk_at "run"
    refine ⟨by decide, on_pot (by omega) (by omega) fun p hp => ?_⟩
    walk_at "run"
    refine ⟨by decide, ⟨by decide, by decide⟩, ?_⟩
    refine loop_upto (fun j Γ => ∃ p turn n many d, PotOk p ∧ Γ = [some (.scr ns), some (.frz (.int (0 + (i : Int)))), some (potT p), turn, n, many, d]) ⟨p, _, _, _, _, hp, rfl⟩ ?_ ?_
    · rintro j Γ hj ⟨p, turn, n, many, d, hp, rfl⟩
      walk_at "run"
      refine ⟨by decide, on_take hp (by decide) (by decide) fun r p1 h0 h1 hp1 => ?_⟩
      walk_at "run"
      refine ⟨by decide, on_take hp1 (by decide) (by decide) fun r2 p2 h2 h3 hp2 => ?_⟩
      obtain ⟨a, rfl⟩ : ∃ a : Nat, r = a := ⟨r.toNat, by omega⟩
      obtain ⟨b, rfl⟩ : ∃ b : Nat, r2 = b := ⟨r2.toNat, by omega⟩
      rw [show (1 : Int) + (a : Int) = ((a + 1 : Nat) : Int) by omega]
      walk_at "run"
      rw [show (1 : Int) + (b : Int) = ((b + 1 : Nat) : Int) by omega]
      refine ⟨by decide, on_share (by omega) (by omega) (by omega) (by omega) fun e he => ?_⟩
      have hle := share_le he (by omega) (by omega)
      walk_at "run"
      rw [run_whole]
      walk_at "run"
      refine ⟨by decide, ?_⟩
      have fin : ∃ p turn n many d, PotOk p ∧ [some (.scr ns), some (.frz (.int (0 + (i : Int)))), some (potT p2), some (T.frz (PyData.int (0 + (j : Int)))), some (T.frz (PyData.int ((a + 1 : Nat) : Int))), some (T.frz (PyData.int ((b + 1 : Nat) : Int))), some (T.frz (PyData.int (e : Int)))] = [some (.scr ns), some (.frz (.int (0 + (i : Int)))), some (potT p), turn, n, many, d] := ⟨p2, _, _, _, _, hp2, rfl⟩
      refine ⟨fun q => absurd q (by omega), fun _ => ?_⟩
      rw [run_lawfan (d := e) (k := b + 1) (by omega) (by omega)]
      walk_at "run"
      refine ⟨fun q => absurd q (by have := he.1; omega), fun _ => ?_⟩
      have last : (((a + 1 : Nat) : Int) < 24 → onO (f_share_of [T.frz (PyData.int (((a + 1 : Nat) : Int) + 1)), T.frz (PyData.int ((b + 1 : Nat) : Int))]) fun c => ∃ e' : Nat, e ≤ e' ∧ c = .ret (.frz (.int e')) [none, none]) := fun q => by
        rw [show ((a + 1 : Nat) : Int) + 1 = ((a + 2 : Nat) : Int) by omega]
        exact on_share (n := a + 2) (k := b + 1) (by omega) (by omega) (by omega) (by omega) fun e' he' => ⟨e', share_n he he', rfl⟩
      have last2 : (((b + 1 : Nat) : Int) < 12 → onO (f_share_of [T.frz (PyData.int ((a + 1 : Nat) : Int)), T.frz (PyData.int (((b + 1 : Nat) : Int) + 1))]) fun c => ∃ e' : Nat, e' ≤ e ∧ c = .ret (.frz (.int e')) [none, none]) := fun q => by
        rw [show ((b + 1 : Nat) : Int) + 1 = ((b + 2 : Nat) : Int) by omega]
        exact on_share (n := a + 1) (k := b + 2) (by omega) (by omega) (by omega) (by omega) fun e' he' => ⟨e', share_k he he', rfl⟩
      refine ⟨fun q => ?_, fun _ => ?_⟩
      · rw [show (e : Int) - 1 = ((e - 1 : Nat) : Int) by omega, run_lawfan (d := e - 1) (k := b + 1) (by omega) (by omega)]
        walk_at "run"
        refine ⟨fun q => absurd q (by have := he.2 (e - 1) (by omega); omega), fun _ => ?_⟩
        refine ⟨fun q => ?_, fun q => ⟨fun q => ?_, fun q => fin⟩⟩
        · refine mono (last2 q) ?_
          rintro _ ⟨e', h4, rfl⟩
          walk_at "run"
          refine ⟨fun q => absurd q (by omega), fun _ => ⟨fun q => ?_, fun q => fin⟩⟩
          refine mono (last q) ?_
          rintro _ ⟨e', h4, rfl⟩
          walk_at "run"
          exact ⟨fun q => absurd q (by omega), fun _ => fin⟩
        · refine mono (last q) ?_
          rintro _ ⟨e', h4, rfl⟩
          walk_at "run"
          exact ⟨fun q => absurd q (by omega), fun _ => fin⟩
      · refine ⟨fun q => ?_, fun q => ⟨fun q => ?_, fun q => fin⟩⟩
        · refine mono (last2 q) ?_
          rintro _ ⟨e', h4, rfl⟩
          walk_at "run"
          refine ⟨fun q => absurd q (by omega), fun _ => ⟨fun q => ?_, fun q => fin⟩⟩
          refine mono (last q) ?_
          rintro _ ⟨e', h4, rfl⟩
          walk_at "run"
          exact ⟨fun q => absurd q (by omega), fun _ => fin⟩
        · refine mono (last q) ?_
          rintro _ ⟨e', h4, rfl⟩
          walk_at "run"
          exact ⟨fun q => absurd q (by omega), fun _ => fin⟩
    · rintro Γ ⟨p, turn, n, many, d, hp, rfl⟩
      exact ⟨_, _, _, _, _, _, rfl⟩
  · rintro Γ ⟨k, pot, turn, n, many, d, rfl⟩
    walk_at "run"
    refine on_share (n := 24) (k := 12) (by decide) (by decide) (by decide) (by decide) fun e he => ?_
    have e1 := share_24 he
    subst e1
    walk_at "run"
    refine ⟨fun _ => ⟨⟨by decide, by decide⟩, ?_⟩, fun q => absurd rfl q⟩
    refine comp_map (fun _ => .bool true) (by decide) (fun d hd => ?_) ?_
    · obtain ⟨i, hi⟩ := List.getElem?_of_mem hd
      obtain ⟨h1, rfl⟩ := upto_at hi
      have h1 : i < 24 := h1
      walk_at "run"
      refine ⟨by decide, ?_⟩
      rw [show (1 : Int) + (i : Int) = ((i + 1 : Nat) : Int) by omega]
      refine on_share (n := i + 1) (k := 1) (by omega) (by omega) (by decide) (by decide) fun e he => ?_
      have e2 := share_1 (by omega) he
      walk_at "run"
      refine ⟨?_, trivial⟩
      rw [decide_eq_true (show (e : Int) = ((i + 1 : Nat) : Int) - 1 by omega)]
    · walk_at "run"
      refine ⟨(upto 1 24).map fun _ => true, ?_, ?_⟩
      · decide
      · exact ⟨_, rfl⟩

end Lw
open PySem PySem.W PySem.Calls PyProof.Rows
theorem PySem.Challenge.cw_thinways_k32_shares_told_holds : PySem.Challenge.rw_thinways_k32_shares_told.Holds := by
  w_on; o_law
  refine HandSHeadRun.head_any (r := Lw.R) (q := view Lw.R.prog [8]) (H := Lw.hk) (ob := Lw.ob) (M := 940) (loose := Lw.loose) (d := HandSHeadRun.topDef Lw.R.prog 8) (kwd := []) Lw.ob_eq (by kernel_rfl) (fun s => by kernel_rfl) Lw.run
    (by kernel_rfl) (by kernel_rfl) (by kernel_rfl) (by rfl) (by first | assumption | decide +kernel) (by decide +kernel) ⟨rfl, rfl, rfl, rfl, rfl, by decide +kernel⟩ ?hw ?hc
  case hw => w_witness2
  case hc =>
    refine L2.walk_ofE (l := PySem.Challenge.rw_thinways_k32_shares_told) (n := 63) (k := 3) (x := "script") (CX := L2.CX0) rfl (by decide) (by kernel_rfl) ⟨rfl, by decide, by decide⟩ ?F (fun _ _ _ _ z => z)
    intro w mg fa h Y G hmg0
    obtain ⟨K, KX, c⟩ := Y
    have hmg : mg ("law" : PySem.Str) = some (.ref fa) := by
      have e : (HandSHeadRun.topDef Lw.R.prog 8).name = ("law" : PySem.Str) := by kernel_rfl
      rw [← e]
      exact hmg0
    obtain ⟨fd, hb, hF⟩ := Lw.facts (P := (PySem.Challenge.rw_thinways_k32_shares_told).prog) (w := w) KX G hmg c
    exact ⟨K, fd, (fun vs H Q _ => TW.spM 1 K Lw.f_law vs H Q L2.E0), KX, hb, fun H a ns hl _ hS => TW.law_end (n := 63) (fun ns hn => TW.onO_ret (Lw.law_true ns hn)) H a ns hl hS, hF⟩
