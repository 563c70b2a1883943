import PyProof.Rows.All
import Wide.All
import OpenK.AllK
import Wide.FinOn
import HandS.Base
import HandS.Call
import HandS.List
import HandS.Comp
import HandS.Ends
import HandS.Dict
import HandS.Iter
import HandS.Text
import HandS.Exc
import HandS.ExcOwn
import HandS.TryOnly
import HandS.Words
import HandS.WordsList
import HandS.WordsDict
import HandS.WordsExc
import HandS.Defaults
import HandS.HeadHook1
import HandS.Deep
import HandS.IsInst
import HandS.Wide
import HandS.Style
import HandS.More
import HandS.SetFor
import HandS.MakeKw
import HandS.HeadHook2
import HandS.Strs
import PyProof.CollectIter
import PyProof.WalksMore
import HandS.TupAny
import HandS.SortInts
import HandS.SetTxt0
import HandS.SetBool
import HandS.ExcIs
import PyProof.ExcBaseAll.ValueError
import PyProof.ListStr
import HandS.DictComp
import HandS.Conv
import HandS.SortRule
import HandS.CallSlots
import KE.KEqDict
import HandS.Head0
import HandS.Head1
import HandS.Head2
import HandS.HeadEnd
import KE.KStateDown
import PySem.Challenge.RW_topmatches_k27_sure_answers_by_all_dicti
set_option Elab.async false
set_option linter.all false
set_option maxRecDepth 100000
set_option maxHeartbeats 0
namespace TM
open L2 PySem.Spec PySem PyProof.Rows

/-! ### data and what stands for it -/
abbrev D := PyData
def keyD : Key → D
  | .inl i => .int i
  | .inr x => .str x
section
variable (G : Hp)
mutual
def Rp : D → V → Prop
  | .none, v => v = .non
  | .bool b, v => v = .bl b
  | .int i, v => v = .int i
  | .str x, v => v = .str x
  | .list ds, v => ∃ a xs, v = .ref a ∧ G a = some (.lst xs) ∧ RpAll ds xs
  | .tuple ds, v => ∃ a xs, v = .ref a ∧ G a = some (.tup xs) ∧ RpAll ds xs
  | .dict kvs, v => ∃ a o ps, v = .ref a ∧ G a = some (.frz o (.dK ps)) ∧ RpKv kvs ps
def RpAll : List D → List V → Prop
  | [], xs => xs = []
  | d :: ds, xs => ∃ x r, xs = x :: r ∧ Rp d x ∧ RpAll ds r
def RpKv : List (D × D) → List (Key × V) → Prop
  | [], ps => ps = []
  | (k, d) :: r, ps => ∃ q x t, ps = (q, x) :: t ∧ keyD q = k ∧ Rp d x ∧ RpKv r t
end
end

/-- a part of the heap grows -/
def Le (G G' : Hp) : Prop := ∀ b o, G b = some o → G' b = some o
theorem Le.refl (G : Hp) : Le G G := fun _ _ h => h
theorem Le.trans {G G1 G2 : Hp} (a : Le G G1) (b : Le G1 G2) : Le G G2 := fun c o h => b c o (a c o h)
theorem Le.upd {G : Hp} {p : Addr} {o : HO} (h : G p = none) : Le G (L2.upd G p o) := fun b x e => by
  rw [upd_ne (ne_of_none e h)]
  exact e
theorem Le.rd {G G' : Hp} (l : Le G G') {a : Addr} {u : HO} (h : Rd G a u) : Rd G' a u := by
  rcases h with h | ⟨o, h⟩
  · exact .inl (l _ _ h)
  · exact .inr ⟨o, l _ _ h⟩
section
variable {K : PySem.W.Frag} {G G' : Hp}
theorem Le.seq (l : Le G G') {a : Addr} {xs : List V} (h : SqL K G a xs) : SqL K G' a xs := by
  rcases h with h | h
  · exact .inl (l.rd h)
  · exact .inr h
theorem Le.tup (l : Le G G') {a : Addr} {xs : List V} (h : SqT K G a xs) : SqT K G' a xs := by
  rcases h with h | h
  · exact .inl (l.rd h)
  · exact .inr h
mutual
theorem Rp.mono (l : Le G G') : ∀ (d : D) (v : V), Rp G d v → Rp G' d v
  | .none, _, h => by simpa only [Rp] using h
  | .bool _, _, h => by simpa only [Rp] using h
  | .int _, _, h => by simpa only [Rp] using h
  | .str _, _, h => by simpa only [Rp] using h
  | .list ds, v, h => by
    simp only [Rp] at h ⊢
    obtain ⟨a, xs, e, s, r⟩ := h
    exact ⟨a, xs, e, l _ _ s, RpAll.mono l ds xs r⟩
  | .tuple ds, v, h => by
    simp only [Rp] at h ⊢
    obtain ⟨a, xs, e, s, r⟩ := h
    exact ⟨a, xs, e, l _ _ s, RpAll.mono l ds xs r⟩
  | .dict kvs, v, h => by
    simp only [Rp] at h ⊢
    obtain ⟨a, o, ps, e, s, r⟩ := h
    exact ⟨a, o, ps, e, l _ _ s, RpKv.mono l kvs ps r⟩
theorem RpAll.mono (l : Le G G') : ∀ (ds : List D) (xs : List V), RpAll G ds xs → RpAll G' ds xs
  | [], _, h => by simpa only [RpAll] using h
  | d :: ds, xs, h => by
    simp only [RpAll] at h ⊢
    obtain ⟨x, r, e, h1, h2⟩ := h
    exact ⟨x, r, e, Rp.mono l d x h1, RpAll.mono l ds r h2⟩
theorem RpKv.mono (l : Le G G') : ∀ (kvs : List (D × D)) (ps : List (Key × V)), RpKv G kvs ps → RpKv G' kvs ps
  | [], _, h => by simpa only [RpKv] using h
  | (k, d) :: r, ps, h => by
    simp only [RpKv] at h ⊢
    obtain ⟨q, x, t, e, h1, h2, h3⟩ := h
    exact ⟨q, x, t, e, h1, Rp.mono l d x h2, RpKv.mono l r t h3⟩
end
theorem RpAll.length : ∀ {ds : List D} {xs : List V}, RpAll G ds xs → xs.length = ds.length
  | [], _, h => by
    simp only [RpAll] at h
    rw [h]
    rfl
  | d :: ds, xs, h => by
    simp only [RpAll] at h
    obtain ⟨x, r, rfl, _, h2⟩ := h
    rw [List.length_cons, List.length_cons, RpAll.length h2]
theorem RpAll.get : ∀ {ds : List D} {xs : List V} {i : Nat} {d : D}, RpAll G ds xs → ds[i]? = some d → ∃ x, xs[i]? = some x ∧ Rp G d x
  | [], _, _, _, _, e => by simp at e
  | d :: ds, xs, i, d', h, e => by
    simp only [RpAll] at h
    obtain ⟨x, r, rfl, h1, h2⟩ := h
    cases i with
    | zero =>
      simp at e
      subst e
      exact ⟨x, rfl, h1⟩
    | succ i =>
      obtain ⟨y, e1, e2⟩ := RpAll.get h2 (by simpa using e)
      exact ⟨y, by simpa using e1, e2⟩
theorem RpAll.at_ {ds : List D} {xs : List V} {i : Nat} {x : V} (h : RpAll G ds xs) (e : xs[i]? = some x) : ∃ d, ds[i]? = some d ∧ Rp G d x := by
  have hi : i < ds.length := by
    rw [← RpAll.length h]
    exact (List.getElem?_eq_some_iff.mp e).1
  obtain ⟨y, e1, e2⟩ := RpAll.get h (List.getElem?_eq_getElem hi)
  rw [e] at e1
  cases e1
  exact ⟨_, List.getElem?_eq_getElem hi, e2⟩
theorem RpAll.nil : RpAll G [] [] := by simp only [RpAll]
theorem RpAll.cons {d : D} {x : V} {ds : List D} {xs : List V} (h : Rp G d x) (t : RpAll G ds xs) : RpAll G (d :: ds) (x :: xs) := by
  simp only [RpAll]
  exact ⟨x, xs, rfl, h, t⟩
theorem RpAll.append : ∀ {ds es : List D} {xs ys : List V}, RpAll G ds xs → RpAll G es ys → RpAll G (ds ++ es) (xs ++ ys)
  | [], _, _, _, h, t => by
    simp only [RpAll] at h
    rw [h]
    exact t
  | d :: ds, _, _, _, h, t => by
    simp only [RpAll] at h
    obtain ⟨x, r, rfl, h1, h2⟩ := h
    exact RpAll.cons h1 (RpAll.append h2 t)
theorem RpAll.of_map {ds : List D} {xs : List V} (hl : xs.length = ds.length) (h : ∀ (i : Nat) d x, ds[i]? = some d → xs[i]? = some x → Rp G d x) : RpAll G ds xs := by
  induction ds generalizing xs with
  | nil =>
    cases xs with
    | nil => exact RpAll.nil
    | cons _ _ => simp at hl
  | cons d ds ih =>
    cases xs with
    | nil => simp at hl
    | cons x xs => exact RpAll.cons (h 0 d x rfl rfl) (ih (by simpa using hl) fun i d' x' e1 e2 => h (i + 1) d' x' (by simpa using e1) (by simpa using e2))
theorem RpAll.take : ∀ {ds : List D} {xs : List V} (n : Nat), RpAll G ds xs → RpAll G (ds.take n) (xs.take n)
  | _, _, 0, _ => by
    rw [List.take_zero, List.take_zero]
    exact RpAll.nil
  | [], xs, n + 1, h => by
    simp only [RpAll] at h
    rw [h]
    exact RpAll.nil
  | d :: ds, _, n + 1, h => by
    simp only [RpAll] at h
    obtain ⟨x, r, rfl, h1, h2⟩ := h
    exact RpAll.cons h1 (RpAll.take n h2)
theorem RpAll.drop : ∀ {ds : List D} {xs : List V} (n : Nat), RpAll G ds xs → RpAll G (ds.drop n) (xs.drop n)
  | _, _, 0, h => h
  | [], xs, n + 1, h => by
    simp only [RpAll] at h
    rw [h]
    exact RpAll.nil
  | d :: ds, _, n + 1, h => by
    simp only [RpAll] at h
    obtain ⟨x, r, rfl, h1, h2⟩ := h
    exact RpAll.drop n h2
mutual
theorem Rp.dp : ∀ (d : D) (v : V), d.hasDict = false → Rp G d v → Dp K G v d
  | .none, _, _, h => by
    simp only [Rp] at h
    subst h
    exact .non
  | .bool _, _, _, h => by
    simp only [Rp] at h
    subst h
    exact .bl _
  | .int _, _, _, h => by
    simp only [Rp] at h
    subst h
    exact .int _
  | .str _, _, _, h => by
    simp only [Rp] at h
    subst h
    exact .str _
  | .list ds, v, hd, h => by
    simp only [Rp] at h
    simp only [PyData.hasDict] at hd
    obtain ⟨a, xs, rfl, s, r⟩ := h
    exact .lst (SqL.of s) (RpAll.dp ds xs hd r)
  | .tuple ds, v, hd, h => by
    simp only [Rp] at h
    simp only [PyData.hasDict] at hd
    obtain ⟨a, xs, rfl, s, r⟩ := h
    exact .tup (SqT.of s) (RpAll.dp ds xs hd r)
  | .dict _, _, hd, _ => by
    simp only [PyData.hasDict] at hd
    cases hd
theorem RpAll.dp : ∀ (ds : List D) (xs : List V), PyData.hasDictAll ds = false → RpAll G ds xs → DpAll K G xs ds
  | [], _, _, h => by
    simp only [RpAll] at h
    subst h
    exact .nil
  | d :: ds, xs, hd, h => by
    simp only [RpAll] at h
    simp only [PyData.hasDictAll, Bool.or_eq_false_iff] at hd
    obtain ⟨x, r, rfl, h1, h2⟩ := h
    exact .cons (Rp.dp d x hd.1 h1) (RpAll.dp ds r hd.2 h2)
end
mutual
theorem Dp.mono (l : Le G G') : ∀ (d : D) (v : V), Dp K G v d → Dp K G' v d
  | .none, _, h => by
    cases h
    exact .non
  | .bool _, _, h => by
    cases h
    exact .bl _
  | .int _, _, h => by
    cases h
    exact .int _
  | .str _, _, h => by
    cases h
    exact .str _
  | .list ds, _, h => by
    cases h with
    | lst s r => exact .lst (l.seq s) (DpAll.mono l ds _ r)
  | .tuple ds, _, h => by
    cases h with
    | tup s r => exact .tup (l.tup s) (DpAll.mono l ds _ r)
  | .dict _, _, h => by cases h
theorem DpAll.mono (l : Le G G') : ∀ (ds : List D) (xs : List V), DpAll K G xs ds → DpAll K G' xs ds
  | [], _, h => by
    cases h
    exact .nil
  | d :: ds, _, h => by
    cases h with
    | cons h1 h2 => exact .cons (Dp.mono l d _ h1) (DpAll.mono l ds _ h2)
end
end

/-! ### the frame's names: data, owned lists, the source of draws -/
inductive Ent where
  /-- nothing is known -/
  | un
  /-- data that nobody changes -/
  | fz (d : D)
  /-- a list of one's own -/
  | ow (ds : List D)
  /-- a dict of one's own -/
  | od (kvs : List (D × D))
  /-- the object of the ambient -/
  | dk
  /-- the law's list of ints -/
  | sc (ns : List Int)
  /-- data that stands apart from all others -/
  | pv (d : D)
abbrev Sl := List Ent
/-- what stands around: a changing object (the source of draws) at ad; t: how often it has changed at most -/
structure Amb where
  ad : Option Addr
  At : Nat → Hp → Prop
  fp : Hp → Addr → Prop
  tr : ∀ t H b, At t H → fp H b → H b ≠ none
  st : ∀ t H H', At t H → (∀ b, fp H b → H' b = H b) → At t H' ∧ ∀ b, fp H' b → fp H b
  up : ∀ t t' H, t ≤ t' → At t H → At t' H
def Amb.no : Amb := ⟨none, fun _ _ => True, fun _ _ => False, fun _ _ _ _ h => h.elim, fun _ _ _ _ _ => ⟨trivial, fun _ h => h.elim⟩, fun _ _ _ _ h => h⟩
/-- G: what nobody changes; O: what others own; H: all -/
structure Hs (A : Amb) (t : Nat) (O G H : Hp) : Prop where
  gh : Le G H
  oh : Le O H
  go : ∀ b o, O b = some o → G b = none
  at_ : A.At t H
  af : ∀ b, A.fp H b → G b = none ∧ O b = none
/-- G and, where it holds nothing, P -/
def un (G P : Hp) : Hp := fun b => match G b with
  | some o => some o
  | none => P b
def EntAt (K : PySem.W.Frag) (A : Amb) (G P : Hp) : Ent → Option (Option V) → Prop
  | .un, _ => True
  | .fz d, s => ∃ v, s = some (some v) ∧ Rp G d v
  | .ow ds, s => ∃ a xs, s = some (some (V.ref a)) ∧ P a = some (.lst xs) ∧ RpAll G ds xs
  | .od kvs, s => ∃ a ps, s = some (some (V.ref a)) ∧ P a = some (.dK ps) ∧ RpKv G kvs ps
  | .pv d, s => ∃ v, s = some (some v) ∧ Rp P d v
  | .dk, s => ∃ a, s = some (some (V.ref a)) ∧ A.ad = some a
  | .sc ns, s => ∃ a, s = some (some (V.ref a)) ∧ SqL K G a (ns.map V.int)
/-- F i: what the slot i holds for itself alone -/
structure Own (A : Amb) (O G H : Hp) (F : Nat → Hp) : Prop where
  le : ∀ i, Le (F i) H
  g : ∀ i b o, F i b = some o → G b = none
  o : ∀ i b o, F i b = some o → O b = none
  f : ∀ i b o, F i b = some o → ¬ A.fp H b
  d : ∀ i j b o, i ≠ j → F i b = some o → F j b = none
def Ents (K : PySem.W.Frag) (A : Amb) (G : Hp) (F : Nat → Hp) (ρ : Sl) (σ : L2.St) : Prop := ∀ (i : Nat) (e : Ent), ρ[i]? = some e → EntAt K A G (F i) e σ[i]?
structure Rel (K : PySem.W.Frag) (A : Amb) (t : Nat) (O G : Hp) (ρ : Sl) (σ : L2.St) (H : Hp) : Prop where
  hs : Hs A t O G H
  ln : ρ.length = σ.length
  ex : ∃ F : Nat → Hp, Own A O G H F ∧ Ents K A G F ρ σ

/-! ### exceptions -/
def fieldOf (c : Str) : Str := if c = "ScreensClash" then "clash" else "line"
/-- an exception of the class c, with what it carries -/
def XAt (K : PySem.W.Frag) (G H : Hp) (c : Str) (p : Option D) (cv : Value) (dd : Option Addr) : Prop :=
  cv = .ref (He.ga K c) ∧ match p with
    | none => dd = none
    | some q => ∃ a v, dd = some a ∧ H a = some (.xd [(fieldOf c, v)]) ∧ Rp G q v
abbrev XP := Str → Option D → Sl → Prop
abbrev DEx := Sl → (D → Sl → Prop) → XP → Prop
abbrev DTx := Sl → (Bool → Sl → Prop) → XP → Prop
abbrev DOx := Sl → (List D → Sl → Prop) → XP → Prop
abbrev DAx := Sl → (List Ent → Sl → Prop) → XP → Prop

section
variable (K : PySem.W.Frag) (A : Amb) (t : Nat) (O G : Hp) (σ : L2.St)
def PostX (W : WX) (Φ : XP) : Prop := ∀ c p ρ' G' H' cv dd, Le G G' → Rel K A t O G' ρ' σ H' → XAt K G' H' c p cv dd → Φ c p ρ' → W cv dd σ H'
def PostE (Ψ : D → Sl → Prop) (Q : VK) : Prop := ∀ r ρ' v G' H', Le G G' → Rel K A t O G' ρ' σ H' → Rp G' r v → Ψ r ρ' → Q v H'
def PostT (Ψ : Bool → Sl → Prop) (Q : Bool → Hp → Prop) : Prop := ∀ r ρ' G' H', Le G G' → Rel K A t O G' ρ' σ H' → Ψ r ρ' → Q r H'
/-- a new list that is nobody's: it stands with what others own -/
structure NewL (ds : List D) (a : Addr) (G' : Hp) (ρ' : Sl) (H' : Hp) : Prop where
  ex : ∃ xs, O a = none ∧ RpAll G' ds xs ∧ Rel K A t (upd O a (.lst xs)) G' ρ' σ H'
def PostO (Ψ : List D → Sl → Prop) (Q : VK) : Prop := ∀ ds ρ' a G' H', Le G G' → Rel K A t O G' ρ' σ H' → NewL K A t O σ ds a G' ρ' H' → Ψ ds ρ' → Q (.ref a) H'
def ArgAt (e : Ent) (v : V) : Prop := match e with
  | .fz d => Rp G d v
  | .dk => ∃ a, v = .ref a ∧ A.ad = some a
  | .sc ns => ∃ a, v = .ref a ∧ SqL K G a (ns.map V.int)
  | _ => False
def ArgsAt : List Ent → List V → Prop
  | [], vs => vs = []
  | e :: es, vs => ∃ v r, vs = v :: r ∧ ArgAt K A G e v ∧ ArgsAt es r
def PostA (Ψ : List Ent → Sl → Prop) (Q : List V → Hp → Prop) : Prop := ∀ es ρ' vs G' H', Le G G' → Rel K A t O G' ρ' σ H' → ArgsAt K A G' es vs → Ψ es ρ' → Q vs H'
end
/-- so many draws at most -/
@[irreducible] def TMX : Nat := 2 ^ 100000
def liftE (K : PySem.W.Frag) (A : Amb) (W : WX) (c : Nat) (d : DEx) : TE := fun σ H Q => ∃ O G ρ t Ψ Φ, t + c ≤ TMX ∧ Rel K A t O G ρ σ H ∧ d ρ Ψ Φ ∧ PostE K A (t + c) O G σ Ψ Q ∧ PostX K A (t + c) O G σ W Φ
def liftT (K : PySem.W.Frag) (A : Amb) (W : WX) (c : Nat) (d : DTx) : TT := fun σ H Q => ∃ O G ρ t Ψ Φ, t + c ≤ TMX ∧ Rel K A t O G ρ σ H ∧ d ρ Ψ Φ ∧ PostT K A (t + c) O G σ Ψ Q ∧ PostX K A (t + c) O G σ W Φ
def liftO (K : PySem.W.Frag) (A : Amb) (W : WX) (c : Nat) (d : DOx) : TE := fun σ H Q => ∃ O G ρ t Ψ Φ, t + c ≤ TMX ∧ Rel K A t O G ρ σ H ∧ d ρ Ψ Φ ∧ PostO K A (t + c) O G σ Ψ Q ∧ PostX K A (t + c) O G σ W Φ
def liftA (K : PySem.W.Frag) (A : Amb) (W : WX) (c : Nat) (d : DAx) : TA := fun σ H Q => ∃ O G ρ t Ψ Φ, t + c ≤ TMX ∧ Rel K A t O G ρ σ H ∧ d ρ Ψ Φ ∧ PostA K A (t + c) O G σ Ψ Q ∧ PostX K A (t + c) O G σ W Φ

/-! ### the judgements -/
structure DE (X : Cx) (A : Amb) (W : WX) (c : Nat) (e : Expr) (d : DEx) : Prop where
  pe : PE X e (liftE X.K A W c d)
structure DO (X : Cx) (A : Amb) (W : WX) (c : Nat) (e : Expr) (d : DOx) : Prop where
  pe : PE X e (liftO X.K A W c d)
structure DT (X : Cx) (A : Amb) (W : WX) (c : Nat) (e : Expr) (d : DTx) : Prop where
  pt : PT X e (liftT X.K A W c d)
structure DW (X : Cx) (A : Amb) (W : WX) (c : Nat) (e : Expr) (d : DTx) : Prop where
  pw : PW X e (liftT X.K A W c d)
structure DA (X : Cx) (A : Amb) (W : WX) (c : Nat) (es : List Expr) (d : DAx) : Prop where
  pa : PA X es (liftA X.K A W c d)

theorem PE.weak {X : Cx} {e : Expr} {t t' : TE} (h : PE X e t) (w : ∀ σ H Q, t' σ H Q → t σ H Q) : PE X e t' := ⟨fun pins s σ H Q I q => h.run pins s σ H Q I (w σ H Q q)⟩
/-- what was given is locked, if wanted: nobody changes it any more -/
def tLk (t : TE) : TE := fun σ H Q => t σ H fun v H1 => Q v H1 ∨ ∃ d u, H1 d = some u ∧ Mut (some u) ∧ ∀ od, Q v (L2.upd H1 d (.frz od u))
theorem _root_.L2.PE.lk {X : Cx} {e : Expr} {t : TE} (h : PE X e t) : PE X e (tLk t) := ⟨fun pins s σ H Q I q => thn (h.run pins s σ H _ I q) fun v s1 z => by
  obtain ⟨x, H1, I2, r, q2⟩ := z
  rcases q2 with q2 | ⟨d, u, hd, mu, q2⟩
  · exact ⟨x, H1, I2, r, q2⟩
  · obtain ⟨od, I3⟩ := I2.lock hd mu
    exact ⟨x, _, I3, r, q2 od⟩⟩
theorem PT.weak {X : Cx} {e : Expr} {t t' : TT} (h : PT X e t) (w : ∀ σ H Q, t' σ H Q → t σ H Q) : PT X e t' := ⟨fun pins s σ H Q I q => h.run pins s σ H Q I (w σ H Q q)⟩
theorem PW.weak {X : Cx} {e : Expr} {t t' : TT} (h : PW X e t) (w : ∀ σ H Q, t' σ H Q → t σ H Q) : PW X e t' := ⟨fun wh pins s σ H Q I q => h.run wh pins s σ H Q I (w σ H Q q)⟩
theorem PA.weak {X : Cx} {es : List Expr} {t t' : TA} (h : PA X es t) (w : ∀ σ H Q, t' σ H Q → t σ H Q) : PA X es t' := ⟨fun pos pins s σ H Q I q => h.run pos pins s σ H Q I (w σ H Q q)⟩

section
variable {K : PySem.W.Frag} {A : Amb} {t t' : Nat} {O G G1 : Hp} {σ : L2.St} {W : WX} {Φ : XP} {H H' : Hp} {ρ : Sl}
theorem PostX.le (h : PostX K A t O G σ W Φ) (l : Le G G1) : PostX K A t O G1 σ W Φ := fun c p ρ' G' H' cv dd l' => h c p ρ' G' H' cv dd (l.trans l')
theorem Hs.up (h : Hs A t O G H) (l : t ≤ t') : Hs A t' O G H := ⟨h.gh, h.oh, h.go, A.up t t' H l h.at_, h.af⟩
theorem Rel.up (R : Rel K A t O G ρ σ H) (l : t ≤ t') : Rel K A t' O G ρ σ H := ⟨R.hs.up l, R.ln, R.ex⟩
theorem PostX.dn (h : PostX K A t' O G σ W Φ) (l : t ≤ t') : PostX K A t O G σ W Φ := fun c p ρ' G' H' cv dd l' R => h c p ρ' G' H' cv dd l' (R.up l)
theorem Hs.none_of (h : Hs A t O G H) {p : Addr} (e : H p = none) : G p = none ∧ O p = none ∧ ¬ A.fp H p := by
  refine ⟨?_, ?_, fun f => A.tr t H p h.at_ f e⟩
  · cases q : G p with
    | none => rfl
    | some o =>
      rw [h.gh p o q] at e
      cases e
  · cases q : O p with
    | none => rfl
    | some o =>
      rw [h.oh p o q] at e
      cases e
theorem Amb.fp_upd (A : Amb) {p : Addr} {o : HO} (h : A.At t H) (hp : ¬ A.fp H p) : A.At t (upd H p o) ∧ (∀ b, A.fp (upd H p o) b → A.fp H b) :=
  A.st t H _ h fun b hb => upd_ne fun e => hp (e ▸ hb)
/-- a cell that is nobody's is written, or a new one laid -/
theorem Hs.upd (h : Hs A t O G H) {p : Addr} {o : HO} (g : G p = none) (ho : O p = none) (f : ¬ A.fp H p)   : Hs A t O G (upd H p o) := by
  obtain ⟨a1, a2⟩ := A.fp_upd (o := o) h.at_ f
  refine ⟨fun b x e => ?_, fun b x e => ?_, h.go, a1, fun b hb => h.af b (a2 b hb)⟩
  · rw [upd_ne (ne_of_none e g)]
    exact h.gh b x e
  · rw [upd_ne (ne_of_none e ho)]
    exact h.oh b x e
theorem Hs.fz (h : Hs A t O G H) {p : Addr} {o : HO} (e : H p = some o) (ho : O p = none) (f : ¬ A.fp H p)   : Hs A t O (L2.upd G p o) H := by
  refine ⟨fun b x q => ?_, h.oh, fun b x q => ?_, h.at_, fun b hb => ?_⟩
  · by_cases hb : b = p
    · subst hb
      rw [upd_same] at q
      cases q
      exact e
    · rw [upd_ne hb] at q
      exact h.gh b x q
  · rw [upd_ne (ne_of_none q ho)]
    exact h.go b x q
  · have ne : b ≠ p := fun z => f (by rw [← z]; exact hb)
    rw [upd_ne ne]
    exact h.af b hb
/-! ### slots -/
theorem Rel.fzAt (R : Rel K A t O G ρ σ H) {i : Nat} {d : D} (h : ρ[i]? = some (.fz d)) : ∃ v, σ[i]? = some (some v) ∧ Rp G d v :=
  let ⟨F, _, en⟩ := R.ex
  en i _ h
theorem Rel.dkAt (R : Rel K A t O G ρ σ H) {i : Nat} (h : ρ[i]? = some .dk) : ∃ a, σ[i]? = some (some (V.ref a)) ∧ A.ad = some a :=
  let ⟨F, _, en⟩ := R.ex
  en i _ h
theorem Rel.scAt (R : Rel K A t O G ρ σ H) {i : Nat} {ns : List Int} (h : ρ[i]? = some (.sc ns)) : ∃ a, σ[i]? = some (some (V.ref a)) ∧ SqL K G a (ns.map V.int) :=
  let ⟨F, _, en⟩ := R.ex
  en i _ h
theorem EntAt.mono {P : Hp} (l : Le G G1) {e : Ent} {s : Option (Option V)} (h : EntAt K A G P e s) (hp : ∀ b o, P b = some o → G1 b = none) : EntAt K A G1 P e s := by
  cases e with
  | un => trivial
  | fz d =>
    obtain ⟨v, h1, h2⟩ := h
    exact ⟨v, h1, Rp.mono l _ _ h2⟩
  | dk => exact h
  | sc ns =>
    obtain ⟨a, h1, h2⟩ := h
    exact ⟨a, h1, l.seq h2⟩
  | ow ds =>
    obtain ⟨a, xs, h1, h2, h3⟩ := h
    exact ⟨a, xs, h1, h2, RpAll.mono l _ _ h3⟩
  | od ds =>
    obtain ⟨a, xs, h1, h2, h3⟩ := h
    exact ⟨a, xs, h1, h2, RpKv.mono l _ _ h3⟩
  | pv d => exact h
theorem Own.fresh {F : Nat → Hp} (w : Own A O G H F) {p : Addr} (h : H p = none) (i : Nat) : F i p = none := by
  cases q : F i p with
  | none => rfl
  | some o =>
    rw [w.le i p o q] at h
    cases h
/-- a new list stands with what others own -/
theorem Rel.onO (R : Rel K A t O G ρ σ H) {p : Addr} (hp : H p = none) (o : HO) : Rel K A t (L2.upd O p o) G ρ σ (L2.upd H p o) := by
  obtain ⟨g, ho, f⟩ := R.hs.none_of hp
  obtain ⟨a1, a2⟩ := A.fp_upd (o := o) R.hs.at_ f
  obtain ⟨F, w, en⟩ := R.ex
  have nf : ∀ i b u, F i b = some u → b ≠ p := fun i b u e z => by
    subst z
    rw [w.fresh hp i] at e
    cases e
  refine ⟨⟨fun b x e => ?_, fun b x e => ?_, fun b x e => ?_, a1, fun b hb => ?_⟩, R.ln, F, ⟨fun i b u e => ?_, w.g, fun i b u e => ?_, fun i b u e z => w.f i b u e (a2 b z), w.d⟩, en⟩
  · rw [upd_ne (ne_of_none e g)]
    exact R.hs.gh b x e
  · by_cases hb : b = p
    · subst hb
      rw [upd_same] at e ⊢
      exact e
    · rw [upd_ne hb] at e ⊢
      exact R.hs.oh b x e
  · by_cases hb : b = p
    · subst hb
      exact g
    · rw [upd_ne hb] at e
      exact R.hs.go b x e
  · have hb2 := a2 b hb
    have ne : b ≠ p := by
      rintro rfl
      exact f hb2
    rw [upd_ne ne]
    exact R.hs.af b hb2
  · rw [upd_ne (nf i b u e)]
    exact w.le i b u e
  · rw [upd_ne (nf i b u e)]
    exact w.o i b u e
theorem Rel.atO {p : Addr} {o : HO} (R : Rel K A t (L2.upd O p o) G ρ σ H) : H p = some o ∧ G p = none ∧ ¬ A.fp H p := by
  refine ⟨R.hs.oh p o upd_same, R.hs.go p o upd_same, fun z => ?_⟩
  have := (R.hs.af p z).2
  rw [upd_same] at this
  cases this
theorem Rel.unO {p : Addr} {o : HO} (R : Rel K A t (L2.upd O p o) G ρ σ H) (hO : O p = none) : Rel K A t O G ρ σ H := by
  have low : Le O (L2.upd O p o) := Le.upd hO
  have none_low : ∀ a, L2.upd O p o a = none → O a = none := fun a h => by
    cases q : O a with
    | none => rfl
    | some x =>
      rw [low a x q] at h
      cases h
  obtain ⟨F, w, en⟩ := R.ex
  exact ⟨⟨R.hs.gh, fun b x e => R.hs.oh b x (low b x e), fun b x e => R.hs.go b x (low b x e), R.hs.at_, fun b hb => ⟨(R.hs.af b hb).1, none_low b (R.hs.af b hb).2⟩⟩, R.ln, F, ⟨w.le, w.g, fun i b u e => none_low b (w.o i b u e), w.f, w.d⟩, en⟩
theorem Rel.reO {p : Addr} {o : HO} (R : Rel K A t (L2.upd O p o) G ρ σ H) (o' : HO) : Rel K A t (L2.upd O p o') G ρ σ (L2.upd H p o') := by
  obtain ⟨e, g, f⟩ := R.atO
  obtain ⟨a1, a2⟩ := A.fp_upd (o := o') R.hs.at_ f
  obtain ⟨F, w, en⟩ := R.ex
  have nf : ∀ i b u, F i b = some u → b ≠ p := fun i b u q z => by
    subst z
    have := w.o i b u q
    rw [upd_same] at this
    cases this
  refine ⟨⟨fun b x q => ?_, fun b x q => ?_, fun b x q => ?_, a1, fun b hb => ?_⟩, R.ln, F, ⟨fun i b u q => ?_, w.g, fun i b u q => ?_, fun i b u q z => w.f i b u q (a2 b z), w.d⟩, en⟩
  · rw [upd_ne (ne_of_none q g)]
    exact R.hs.gh b x q
  · by_cases hb : b = p
    · subst hb
      rw [upd_same] at q ⊢
      exact q
    · rw [upd_ne hb] at q ⊢
      exact R.hs.oh b x (by rw [upd_ne hb]; exact q)
  · by_cases hb : b = p
    · subst hb
      exact g
    · rw [upd_ne hb] at q
      exact R.hs.go b x (by rw [upd_ne hb]; exact q)
  · have hb2 := a2 b hb
    have ne : b ≠ p := by
      rintro rfl
      exact f hb2
    obtain ⟨g1, o1⟩ := R.hs.af b hb2
    rw [upd_ne ne] at o1
    exact ⟨g1, by rw [upd_ne ne]; exact o1⟩
  · rw [upd_ne (nf i b u q)]
    exact w.le i b u q
  · have := w.o i b u q
    rw [upd_ne (nf i b u q)] at this ⊢
    exact this
/-- what is mine becomes everybody's, never changed -/
theorem Rel.fzO {p : Addr} {o : HO} (R : Rel K A t (L2.upd O p o) G ρ σ H) (hO : O p = none) : Le G (L2.upd G p o) ∧ Rel K A t O (L2.upd G p o) ρ σ H := by
  obtain ⟨e, g, f⟩ := R.atO
  have R2 := R.unO hO
  obtain ⟨F, w, en⟩ := R.ex
  have l : Le G (L2.upd G p o) := Le.upd g
  have nf : ∀ i b u, F i b = some u → b ≠ p := fun i b u q z => by
    subst z
    have := w.o i b u q
    rw [upd_same] at this
    cases this
  have ng : ∀ i b u, F i b = some u → L2.upd G p o b = none := fun i b u q => by
    rw [upd_ne (nf i b u q)]
    exact w.g i b u q
  exact ⟨l, R2.hs.fz e hO f, R.ln, F, ⟨w.le, ng, fun i b u q => by
    have := w.o i b u q
    rw [upd_ne (nf i b u q)] at this
    exact this, w.f, w.d⟩, fun i en' he => EntAt.mono l (en i en' he) (ng i)⟩
/-- a new cell that nobody changes -/
theorem Rel.newfz (R : Rel K A t O G ρ σ H) {p : Addr} {o : HO} (hp : H p = none) : Le G (L2.upd G p o) ∧ Rel K A t O (L2.upd G p o) ρ σ (L2.upd H p o) :=
  (R.onO hp o).fzO (R.hs.none_of hp).2.1
/-- a name is given something -/
theorem Rel.set (R : Rel K A t O G ρ σ H) (i : Nat) {e : Ent} {v : Option V} (h : ∀ P, EntAt K A G P e (some v)) : Rel K A t O G (ρ.set i e) (σ.set i v) H := by
  obtain ⟨F, w, en⟩ := R.ex
  refine ⟨R.hs, by rw [List.length_set, List.length_set]; exact R.ln, F, w, fun j e' he => ?_⟩
  by_cases hj : i = j
  · subst hj
    rw [List.getElem?_set] at he
    simp only [if_true] at he
    by_cases hi : i < ρ.length
    · rw [if_pos hi] at he
      cases he
      rw [List.getElem?_set_self (by rw [← R.ln]; exact hi)]
      exact h _
    · rw [if_neg hi] at he
      cases he
  · rw [List.getElem?_set_ne hj] at he
    rw [List.getElem?_set_ne hj]
    exact en j e' he
theorem Rel.setF (R : Rel K A t O G ρ σ H) (i : Nat) {d : D} {v : V} (h : Rp G d v) : Rel K A t O G (ρ.set i (.fz d)) (σ.set i (some v)) H := R.set i fun _ => ⟨v, rfl, h⟩
/-- a name is given something of its own: P -/
theorem Rel.setP (R : Rel K A t O G ρ σ H) (i : Nat) {e : Ent} {v : V} (P : Hp) (le : Le P H) (g : ∀ b o, P b = some o → G b = none) (o : ∀ b u, P b = some u → O b = none) (f : ∀ b u, P b = some u → ¬ A.fp H b)
    (d : ∀ F, Own A O G H F → Ents K A G F ρ σ → ∃ F', Own A O G H F' ∧ Ents K A G F' ρ σ ∧ ∀ i b u, P b = some u → F' i b = none) (h : EntAt K A G P e (some (some v))) : Rel K A t O G (ρ.set i e) (σ.set i (some v)) H := by
  obtain ⟨F0, w0, en0⟩ := R.ex
  obtain ⟨F, w, en, nd⟩ := d F0 w0 en0
  refine ⟨R.hs, by rw [List.length_set, List.length_set]; exact R.ln, fun j => if j = i then P else F j, ⟨fun j b u q => ?_, fun j b u q => ?_, fun j b u q => ?_, fun j b u q => ?_, fun j j' b u ne q => ?_⟩, fun j e' he => ?_⟩
  · split at q
    · exact le b u q
    · exact w.le j b u q
  · split at q
    · exact g b u q
    · exact w.g j b u q
  · split at q
    · exact o b u q
    · exact w.o j b u q
  · split at q
    · exact f b u q
    · exact w.f j b u q
  · split at q
    · rename_i hj
      rw [if_neg (fun z => ne (hj.trans z.symm))]
      exact nd j' b u q
    · split
      · cases z : P b with
        | none => rfl
        | some u2 =>
          rw [nd j b u2 z] at q
          cases q
      · exact w.d j j' b u ne q
  · by_cases hj : i = j
    · subst hj
      rw [List.getElem?_set] at he
      simp only [if_true] at he
      by_cases hi : i < ρ.length
      · rw [if_pos hi] at he
        cases he
        rw [List.getElem?_set_self (by rw [← R.ln]; exact hi)]
        dsimp only
        rw [if_pos rfl]
        exact h
      · rw [if_neg hi] at he
        cases he
    · rw [List.getElem?_set_ne hj] at he
      rw [List.getElem?_set_ne hj]
      dsimp only
      rw [if_neg (fun z => hj z.symm)]
      exact en j e' he
def single (a : Addr) (o : HO) : Hp := fun b => if b = a then some o else none
theorem single_at {a b : Addr} {o u : HO} (h : single a o b = some u) : b = a ∧ u = o := by
  unfold single at h
  split at h
  · exact ⟨by assumption, (Option.some.inj h).symm⟩
  · cases h
theorem Rel.setO (R0 : Rel K A t O G ρ σ H) (i : Nat) {ds : List D} {a : Addr} (n : NewL K A t O σ ds a G ρ H) : Rel K A t O G (ρ.set i (.ow ds)) (σ.set i (some (.ref a))) H := by
  obtain ⟨xs, hO, r, R⟩ := n.ex
  obtain ⟨e, g, f⟩ := R.atO
  refine (R.unO hO).setP i (single a (.lst xs)) (fun b u q => ?_) (fun b u q => ?_) (fun b u q => ?_) (fun b u q => ?_) (fun F0 _ _ => ?_) ⟨a, xs, rfl, if_pos rfl, r⟩
  · obtain ⟨rfl, rfl⟩ := single_at q
    exact e
  · obtain ⟨rfl, rfl⟩ := single_at q
    exact g
  · obtain ⟨rfl, rfl⟩ := single_at q
    exact hO
  · obtain ⟨rfl, rfl⟩ := single_at q
    exact f
  · obtain ⟨F, w, en⟩ := R.ex
    obtain ⟨F2, w2, en2⟩ := (R.unO hO).ex
    have low : Le O (L2.upd O a (.lst xs)) := Le.upd hO
    refine ⟨F, ⟨w.le, w.g, fun i b u q => ?_, w.f, w.d⟩, en, fun i b u q => ?_⟩
    · cases z : O b with
      | none => rfl
      | some x =>
        have := w.o i b u q
        rw [low b x z] at this
        cases this
    · obtain ⟨rfl, rfl⟩ := single_at q
      cases z : F i b with
      | none => rfl
      | some x =>
        have := w.o i b x z
        rw [upd_same] at this
        cases this
/-- a dict of one's own is taken out of its slot -/
theorem Rel.takeOd (R : Rel K A t O G ρ σ H) {i : Nat} {kvs : List (D × D)} (he : ρ[i]? = some (.od kvs)) :
    ∃ a ps, σ[i]? = some (some (V.ref a)) ∧ H a = some (.dK ps) ∧ RpKv G kvs ps ∧ O a = none ∧ Rel K A t (L2.upd O a (.dK ps)) G (ρ.set i .un) σ H := by
  obtain ⟨F, w, en⟩ := R.ex
  obtain ⟨a, ps, hs, h2, h3⟩ := en i _ he
  have g := w.g i _ _ h2
  have o := w.o i _ _ h2
  have f := w.f i _ _ h2
  have hi : i < ρ.length := (List.getElem?_eq_some_iff.mp he).1
  have ne : ∀ j b u, j ≠ i → F j b = some u → b ≠ a := fun j b u hj q z => by
    subst z
    rw [w.d i j b _ (fun z => hj z.symm) h2] at q
    cases q
  refine ⟨a, ps, hs, w.le i _ _ h2, h3, o, ⟨R.hs.gh, fun b x e => ?_, fun b x e => ?_, R.hs.at_, fun b hb => ⟨(R.hs.af b hb).1, ?_⟩⟩, by rw [List.length_set]; exact R.ln, fun j => if j = i then fun _ => none else F j,
    ⟨fun j b u q => ?_, fun j b u q => ?_, fun j b u q => ?_, fun j b u q => ?_, fun j j' b u nj q => ?_⟩, fun j e hj => ?_⟩
  · by_cases hb : b = a
    · subst hb
      rw [upd_same] at e
      cases e
      exact w.le i _ _ h2
    · rw [upd_ne hb] at e
      exact R.hs.oh b x e
  · by_cases hb : b = a
    · subst hb
      exact g
    · rw [upd_ne hb] at e
      exact R.hs.go b x e
  · have nb : b ≠ a := by
      rintro rfl
      exact f hb
    rw [upd_ne nb]
    exact (R.hs.af b hb).2
  · split at q
    · cases q
    · exact w.le j b u q
  · split at q
    · cases q
    · exact w.g j b u q
  · split at q
    · cases q
    · rename_i hj
      rw [upd_ne (ne j b u hj q)]
      exact w.o j b u q
  · split at q
    · cases q
    · exact w.f j b u q
  · split at q
    · cases q
    · split
      · rfl
      · exact w.d j j' b u nj q
  · by_cases hji : i = j
    · subst hji
      rw [List.getElem?_set_self hi] at hj
      cases hj
      trivial
    · rw [List.getElem?_set_ne hji] at hj
      dsimp only
      rw [if_neg (fun z => hji z.symm)]
      exact en j e hj
theorem set_back {α : Type} {σ : List α} {i : Nat} {x : α} (h : σ[i]? = some x) : σ.set i x = σ := by
  apply List.ext_getElem?
  intro j
  by_cases hj : i = j
  · subst hj
    rw [List.getElem?_set_self (List.getElem?_eq_some_iff.mp h).1, h]
  · rw [List.getElem?_set_ne hj]
/-- a dict of one's own is locked and given away -/
theorem Rel.lockOd (R : Rel K A t O G ρ σ H) {i : Nat} {kvs : List (D × D)} (he : ρ[i]? = some (.od kvs)) :
    ∃ a ps, σ[i]? = some (some (V.ref a)) ∧ H a = some (.dK ps) ∧ ∀ od, ∃ G', Le G G' ∧ Rp G' (.dict kvs) (.ref a) ∧ Rel K A t O G' (ρ.set i (.fz (.dict kvs))) σ (L2.upd H a (.frz od (.dK ps))) := by
  obtain ⟨a, ps, hs, hH, r, hO, R1⟩ := R.takeOd he
  refine ⟨a, ps, hs, hH, fun od => ?_⟩
  obtain ⟨l, R2⟩ := (R1.reO (.frz od (.dK ps))).fzO hO
  have rp : Rp (L2.upd G a (.frz od (.dK ps))) (.dict kvs) (.ref a) := by
    simp only [Rp]
    exact ⟨a, od, ps, rfl, upd_same, RpKv.mono l _ _ r⟩
  have R3 := R2.setF i rp
  rw [List.set_set, set_back hs] at R3
  exact ⟨_, l, rp, R3⟩
/-- a new dict is locked: everybody's -/
theorem Rel.lockO {a : Addr} {ps : List (Key × V)} {kvs : List (D × D)} (R : Rel K A t (L2.upd O a (.dK ps)) G ρ σ H) (hO : O a = none) (r : RpKv G kvs ps) (od : Obj) :
    ∃ G', Le G G' ∧ Rp G' (.dict kvs) (.ref a) ∧ Rel K A t O G' ρ σ (L2.upd H a (.frz od (.dK ps))) := by
  obtain ⟨l, R2⟩ := (R.reO (.frz od (.dK ps))).fzO hO
  refine ⟨_, l, ?_, R2⟩
  simp only [Rp]
  exact ⟨a, od, ps, rfl, upd_same, RpKv.mono l _ _ r⟩
theorem NewL.fz {a : Addr} {ds : List D} (n : NewL K A t O σ ds a G ρ H) : ∃ G', Le G G' ∧ Rel K A t O G' ρ σ H ∧ Rp G' (.list ds) (.ref a) := by
  obtain ⟨xs, hO, r, R⟩ := n.ex
  obtain ⟨l, R2⟩ := R.fzO hO
  refine ⟨_, l, R2, ?_⟩
  simp only [Rp]
  exact ⟨a, xs, rfl, upd_same, RpAll.mono l _ _ r⟩
theorem Rel.newL (R : Rel K A t O G ρ σ H) {p : Addr} {ds : List D} {xs : List V} (hp : H p = none) (r : RpAll G ds xs) : NewL K A t O σ ds p G ρ (L2.upd H p (.lst xs)) :=
  ⟨xs, (R.hs.none_of hp).2.1, r, R.onO hp _⟩
theorem NewL.up {a : Addr} {ds : List D} (n : NewL K A t O σ ds a G ρ H) (l : t ≤ t') : NewL K A t' O σ ds a G ρ H :=
  let ⟨xs, hO, r, R⟩ := n.ex
  ⟨xs, hO, r, R.up l⟩
theorem NewL.rel {a : Addr} {ds : List D} (n : NewL K A t O σ ds a G ρ H) : Rel K A t O G ρ σ H :=
  let ⟨xs, hO, r, R⟩ := n.ex
  R.unO hO
end
end TM
namespace TM
open L2 PySem.Spec PySem PyProof.Rows

/-- the entry at a slot -/
def atS : Sl → Nat → Ent
  | [], _ => .un
  | e :: _, 0 => e
  | _ :: r, i + 1 => atS r i
theorem atS_get : ∀ {ρ : Sl} {i : Nat} {e : Ent}, atS ρ i = e → e ≠ .un → ρ[i]? = some e
  | [], _, _, h, n => absurd h.symm n
  | _ :: _, 0, _, h, _ => by
    simp only [atS] at h
    simp [h]
  | _ :: r, i + 1, e, h, n => by
    simp only [atS] at h
    simpa using atS_get (ρ := r) h n

/-! ### the forms -/
def dVar (i : Nat) : DEx := fun ρ Ψ _ => match atS ρ i with
  | .fz d => Ψ d ρ
  | _ => False
def dC (d : D) : DEx := fun ρ Ψ _ => Ψ d ρ
/-- a list of one's own is given away: from now on nobody changes it -/
def dVarF (i : Nat) : DEx := fun ρ Ψ _ => match atS ρ i with
  | .ow ds => Ψ (.list ds) (ρ.set i (.fz (.list ds)))
  | .od kvs => Ψ (.dict kvs) (ρ.set i (.fz (.dict kvs)))
  | _ => False
def dFz (d : DOx) : DEx := fun ρ Ψ Φ => d ρ (fun ds ρ' => Ψ (.list ds) ρ') Φ
abbrev G1 := D → (D → Prop) → Prop
abbrev G2 := D → D → (D → Prop) → Prop
abbrev GO1 := D → (List D → Prop) → Prop
abbrev GO2 := D → D → (List D → Prop) → Prop
def dOp1 (g : G1) (d : DEx) : DEx := fun ρ Ψ Φ => d ρ (fun x ρ1 => g x fun z => Ψ z ρ1) Φ
def dOp2 (g : G2) (da db : DEx) : DEx := fun ρ Ψ Φ => da ρ (fun x ρ1 => db ρ1 (fun y ρ2 => g x y fun z => Ψ z ρ2) Φ) Φ
def oOp1 (g : GO1) (d : DEx) : DOx := fun ρ Ψ Φ => d ρ (fun x ρ1 => g x fun z => Ψ z ρ1) Φ
def oOp2 (g : GO2) (da db : DEx) : DOx := fun ρ Ψ Φ => da ρ (fun x ρ1 => db ρ1 (fun y ρ2 => g x y fun z => Ψ z ρ2) Φ) Φ

section
variable {X : Cx} {A : Amb} {W : WX} {c0 ca cb cc cr cl ch : Nat}
theorem de_weak {e : Expr} {d d' : DEx} (h : DE X A W c0 e d) (w : ∀ ρ Ψ Φ, d' ρ Ψ Φ → d ρ Ψ Φ) : DE X A W c0 e d' :=
  ⟨PE.weak h.pe fun σ H Q ⟨O, G, ρ, t, Ψ, Φ, le, R, q, p⟩ => ⟨O, G, ρ, t, Ψ, Φ, le, R, w _ _ _ q, p⟩⟩
theorem de_var (i : Nat) {x : Str} {pos : Pos} (hN : X.N[i]? = some x := by rfl) (hv : Vis X.env.scope x := by first | exact Or.inl rfl | exact Or.inr (Or.inl rfl) | exact Or.inr (Or.inr rfl)) (hd : (x == ("__debug__" : Str)) = false := by decide)
    (hcd : (x == ("__classdict__" : Str)) = false := by decide) : DE X A W 0 (.Name x pos) (dVar i) := by
  refine ⟨PE.weak (pe_var hN hv hd hcd) fun σ H Q ⟨O, G, ρ, t, Ψ, Φ, le, R, q, pe, px⟩ => ?_⟩
  unfold dVar at q
  cases e : atS ρ i with
  | fz d =>
    rw [e] at q
    obtain ⟨v, h1, h2⟩ := R.fzAt (atS_get e (fun z => nomatch z))
    exact ⟨v, h1, pe d ρ v G H (Le.refl G) R h2 q⟩
  | _ =>
    rw [e] at q
    exact q.elim
theorem de_const {e : Expr} {d : D} {v : V} (h : PE X e (tC v)) (hr : ∀ G, Rp G d v) : DE X A W 0 e (dC d) :=
  ⟨PE.weak h fun σ H Q ⟨O, G, ρ, t, Ψ, Φ, le, R, q, pe, px⟩ => pe d ρ v G H (Le.refl G) R (hr G) q⟩
theorem de_int {i : Int} {j pos} : DE X A W 0 (.Constant (.int i) j pos) (dC (.int i)) := de_const pe_int fun _ => by simp only [Rp]
theorem de_bl {b : Bool} {j pos} : DE X A W 0 (.Constant (.bool b) j pos) (dC (.bool b)) := de_const pe_bl fun _ => by simp only [Rp]
theorem de_non {j pos} : DE X A W 0 (.Constant .none j pos) (dC .none) := de_const pe_non fun _ => by simp only [Rp]
theorem de_str {x : Str} {j pos} : DE X A W 0 (.Constant (.str x) j pos) (dC (.str x)) := de_const pe_str fun _ => by simp only [Rp]
theorem de_gint {x : Str} {i : Int} {pos : Pos} (hg : Gl X x) (hm : ∃ t, X.mg x = some (.int i t)) (hd : (x == ("__debug__" : Str)) = false := by decide) : DE X A W 0 (.Name x pos) (dC (.int i)) := by
  obtain ⟨t, hm⟩ := hm
  exact de_const (pe_glob (v := .int i) hg hm ⟨t, rfl⟩ hd) fun _ => by simp only [Rp]
theorem de_gstr {x : Str} {z : Str} {pos : Pos} (hg : Gl X x) (hm : ∃ t, X.mg x = some (.str z t)) (hd : (x == ("__debug__" : Str)) = false := by decide) : DE X A W 0 (.Name x pos) (dC (.str z)) := by
  obtain ⟨t, hm⟩ := hm
  exact de_const (pe_glob (v := .str z) hg hm ⟨t, rfl⟩ hd) fun _ => by simp only [Rp]

/-! ### operations by values -/
/-- the reading r of a one-place operation keeps to g -/
def Snd1 (X : Cx) (A : Amb) (r : V → Hp → VK → Prop) (g : G1) : Prop := ∀ O G ρ t σ H x v Q κ, Rel X.K A t O G ρ σ H → Rp G x v → g x κ →
  (∀ z w G' H', Le G G' → Rel X.K A t O G' ρ σ H' → Rp G' z w → κ z → Q w H') → r v H Q
def Snd2 (X : Cx) (A : Amb) (r : R2) (g : G2) : Prop := ∀ O G ρ t σ H x y v u Q κ, Rel X.K A t O G ρ σ H → Rp G x v → Rp G y u → g x y κ →
  (∀ z w G' H', Le G G' → Rel X.K A t O G' ρ σ H' → Rp G' z w → κ z → Q w H') → r v u H Q
def SndO1 (X : Cx) (A : Amb) (r : V → Hp → VK → Prop) (g : GO1) : Prop := ∀ O G ρ t σ H x v Q κ, Rel X.K A t O G ρ σ H → Rp G x v → g x κ →
  (∀ ds a G' H', Le G G' → Rel X.K A t O G' ρ σ H' → NewL X.K A t O σ ds a G' ρ H' → κ ds → Q (.ref a) H') → r v H Q
def SndO2 (X : Cx) (A : Amb) (r : R2) (g : GO2) : Prop := ∀ O G ρ t σ H x y v u Q κ, Rel X.K A t O G ρ σ H → Rp G x v → Rp G y u → g x y κ →
  (∀ ds a G' H', Le G G' → Rel X.K A t O G' ρ σ H' → NewL X.K A t O σ ds a G' ρ H' → κ ds → Q (.ref a) H') → r v u H Q
variable {a b c : Expr} {da db dc : DEx} {pos : Pos}
theorem lift_op2 {r : R2} {g : G2} (hs : Snd2 X A r g) {σ : L2.St} {H : Hp} {Q : VK} (h : liftE X.K A W (ca + cb) (dOp2 g da db) σ H Q) : tOp r (liftE X.K A W ca da) (liftE X.K A W cb db) σ H Q := by
  obtain ⟨O, G, ρ, t, Ψ, Φ, le, R, q, pe, px⟩ := h
  refine ⟨O, G, ρ, t, _, Φ, by omega, R, q, fun x ρ1 v G1 H1 l1 R1 rx q1 => ?_, px.dn (by omega)⟩
  refine ⟨O, G1, ρ1, t + ca, _, Φ, by omega, R1, q1, fun y ρ2 u G2 H2 l2 R2 ry q2 => ?_, (px.le l1).dn (by omega)⟩
  exact hs O G2 ρ2 _ σ H2 x y v u Q _ R2 (Rp.mono l2 x v rx) ry q2 fun z w G3 H3 l3 R3 rz k => pe z ρ2 w G3 H3 ((l1.trans l2).trans l3) (R3.up (by omega)) rz k
theorem lift_op1 {r : V → Hp → VK → Prop} {g : G1} (hs : Snd1 X A r g) {σ : L2.St} {H : Hp} {Q : VK} (h : liftE X.K A W ca (dOp1 g da) σ H Q) : tUn r (liftE X.K A W ca da) σ H Q := by
  obtain ⟨O, G, ρ, t, Ψ, Φ, le, R, q, pe, px⟩ := h
  refine ⟨O, G, ρ, t, _, Φ, by omega, R, q, fun x ρ1 v G1 H1 l1 R1 rx q1 => ?_, px⟩
  exact hs O G1 ρ1 _ σ H1 x v Q _ R1 rx q1 fun z w G3 H3 l3 R3 rz k => pe z ρ1 w G3 H3 (l1.trans l3) R3 rz k
theorem lift_oo2 {r : R2} {g : GO2} (hs : SndO2 X A r g) {σ : L2.St} {H : Hp} {Q : VK} (h : liftO X.K A W (ca + cb) (oOp2 g da db) σ H Q) : tOp r (liftE X.K A W ca da) (liftE X.K A W cb db) σ H Q := by
  obtain ⟨O, G, ρ, t, Ψ, Φ, le, R, q, pe, px⟩ := h
  refine ⟨O, G, ρ, t, _, Φ, by omega, R, q, fun x ρ1 v G1 H1 l1 R1 rx q1 => ?_, px.dn (by omega)⟩
  refine ⟨O, G1, ρ1, t + ca, _, Φ, by omega, R1, q1, fun y ρ2 u G2 H2 l2 R2 ry q2 => ?_, (px.le l1).dn (by omega)⟩
  exact hs O G2 ρ2 _ σ H2 x y v u Q _ R2 (Rp.mono l2 x v rx) ry q2 fun z w G3 H3 l3 R3 rz k => pe z ρ2 w G3 H3 ((l1.trans l2).trans l3) (R3.up (by omega)) (rz.up (by omega)) k
theorem lift_oo1 {r : V → Hp → VK → Prop} {g : GO1} (hs : SndO1 X A r g) {σ : L2.St} {H : Hp} {Q : VK} (h : liftO X.K A W ca (oOp1 g da) σ H Q) : tUn r (liftE X.K A W ca da) σ H Q := by
  obtain ⟨O, G, ρ, t, Ψ, Φ, le, R, q, pe, px⟩ := h
  refine ⟨O, G, ρ, t, _, Φ, by omega, R, q, fun x ρ1 v G1 H1 l1 R1 rx q1 => ?_, px⟩
  exact hs O G1 ρ1 _ σ H1 x v Q _ R1 rx q1 fun z w G3 H3 l3 R3 rz k => pe z ρ1 w G3 H3 (l1.trans l3) R3 rz k
theorem de_bin {op : Operator} {r : R2} {g : G2} (ho : OpR X (binaryOp op) r) (hs : Snd2 X A r g) (ha : DE X A W ca a da) (hb : DE X A W cb b db) : DE X A W (ca + cb) (.BinOp a op b pos) (dOp2 g da db) :=
  ⟨PE.weak (pe_op ho ha.pe hb.pe) fun _ _ _ => lift_op2 hs⟩
theorem do_bin {op : Operator} {r : R2} {g : GO2} (ho : OpR X (binaryOp op) r) (hs : SndO2 X A r g) (ha : DE X A W ca a da) (hb : DE X A W cb b db) : DO X A W (ca + cb) (.BinOp a op b pos) (oOp2 g da db) :=
  ⟨PE.weak (pe_op ho ha.pe hb.pe) fun _ _ _ => lift_oo2 hs⟩
theorem de_un {op : UnaryOp} {r : V → Hp → VK → Prop} {g : G1} (ho : UnR X (unaryOp op) r) (hs : Snd1 X A r g) (ha : DE X A W ca a da) : DE X A W ca (.UnaryOp op a pos) (dOp1 g da) :=
  ⟨PE.weak (pe_un ho ha.pe) fun _ _ _ => lift_op1 hs⟩
theorem de_cmp {op : CmpOp} {r : R2} {g : G2} (ho : OpR X (compareOp op) r) (hs : Snd2 X A r g) (ha : DE X A W ca a da) (hb : DE X A W cb b db) (hm : behindInMarks op b = false) : DE X A W (ca + cb) (.Compare a [op] [b] pos) (dOp2 g da db) :=
  ⟨PE.weak (pe_cmpR ho ha.pe hb.pe hm) fun _ _ _ => lift_op2 hs⟩

theorem de_fz {e : Expr} {d : DOx} (h : DO X A W c0 e d) : DE X A W c0 e (dFz d) :=
  ⟨PE.weak h.pe fun σ H Q ⟨O, G, ρ, t, Ψ, Φ, le, R, q, pe, px⟩ => ⟨O, G, ρ, t, _, Φ, by omega, R, q, fun ds ρ' a G' H' l R' n k => by
    obtain ⟨G2, l2, R2, r2⟩ := n.fz
    exact pe _ ρ' _ G2 H' (l.trans l2) R2 r2 k, px⟩⟩
/-- operations that only reckon -/
theorem snd2_of {r : R2} {g : G2} (h : ∀ (H : Hp) x y v u Q κ, (∃ G, Le G H ∧ Rp G x v ∧ Rp G y u) → g x y κ → (∀ z w, (∀ G, Rp G z w) → κ z → Q w H) → r v u H Q) : Snd2 X A r g :=
  fun O G ρ t σ H x y v u Q κ R rx ry q k => h H x y v u Q κ ⟨G, R.hs.gh, rx, ry⟩ q fun z w rz kz => k z w G H (Le.refl G) R (rz G) kz

/-! ### ints -/
def gAdd : G2 := fun x y κ => match x, y with
  | .int i, .int j => κ (.int (i + j))
  | .str s, .str t => s.length + t.length ≤ sizeLine ∧ κ (.str (s ++ t))
  | _, _ => False
def rAddN : R2 := fun x y H Q => (∃ i j, x = .int i ∧ y = .int j ∧ Q (.int (i + j)) H) ∨ ∃ s t, x = .str s ∧ y = .str t ∧ s.length + t.length ≤ sizeLine ∧ Q (.str (s ++ t)) H
theorem op_addN : OpR X (binaryOp .Add) rAddN := fun pins s σ H x y v u Q I rx ry h => by
  rcases h with h | h
  · exact op_add pins s σ H x y v u Q I rx ry h
  · exact op_add_str pins s σ H x y v u Q I rx ry h
theorem snd_add : Snd2 X A rAddN gAdd := snd2_of fun H x y v u Q κ ⟨G, _, rx, ry⟩ q k => by
  cases x <;> cases y <;> simp only [gAdd] at q
  · simp only [Rp] at rx ry
    exact .inl ⟨_, _, rx, ry, k _ _ (fun _ => by simp only [Rp]) q⟩
  · simp only [Rp] at rx ry
    exact .inr ⟨_, _, rx, ry, q.1, k _ _ (fun _ => by simp only [Rp]) q.2⟩
theorem de_add (ha : DE X A W ca a da) (hb : DE X A W cb b db) : DE X A W (ca + cb) (.BinOp a .Add b pos) (dOp2 gAdd da db) := de_bin op_addN snd_add ha hb
def gI (C : Int → Int → Prop) (f : Int → Int → Int) : G2 := fun x y κ => match x, y with
  | .int i, .int j => C i j ∧ κ (.int (f i j))
  | _, _ => False
theorem snd_I {C : Int → Int → Prop} {f : Int → Int → Int} : Snd2 X A (rI C fun i j => .int (f i j)) (gI C f) := snd2_of fun H x y v u Q κ ⟨G, _, rx, ry⟩ q k => by
  cases x <;> cases y <;> simp only [gI] at q
  simp only [Rp] at rx ry
  exact ⟨_, _, rx, ry, q.1, k _ _ (fun _ => by simp only [Rp]) q.2⟩
def gI0 (f : Int → Int → Int) : G2 := fun x y κ => match x, y with
  | .int i, .int j => κ (.int (f i j))
  | _, _ => False
theorem snd_I0 {f : Int → Int → Int} : Snd2 X A (rI0 fun i j => .int (f i j)) (gI0 f) := snd2_of fun H x y v u Q κ ⟨G, _, rx, ry⟩ q k => by
  cases x <;> cases y <;> simp only [gI0] at q
  simp only [Rp] at rx ry
  exact ⟨_, _, rx, ry, k _ _ (fun _ => by simp only [Rp]) q⟩
abbrev gSub : G2 := gI0 fun i j => i - j
abbrev gMul : G2 := gI CMulW fun i j => i * j
abbrev gDiv : G2 := gI CDivW fun i j => i / j
abbrev gMod : G2 := gI (fun _ j => 0 < j) fun i j => i % j
theorem de_sub (ha : DE X A W ca a da) (hb : DE X A W cb b db) : DE X A W (ca + cb) (.BinOp a .Sub b pos) (dOp2 gSub da db) := de_bin op_sub snd_I0 ha hb
theorem de_mul (ha : DE X A W ca a da) (hb : DE X A W cb b db) : DE X A W (ca + cb) (.BinOp a .Mult b pos) (dOp2 gMul da db) := de_bin op_mulW snd_I ha hb
theorem de_div (ha : DE X A W ca a da) (hb : DE X A W cb b db) : DE X A W (ca + cb) (.BinOp a .FloorDiv b pos) (dOp2 gDiv da db) := de_bin op_fdivW snd_I ha hb
theorem de_mod (ha : DE X A W ca a da) (hb : DE X A W cb b db) : DE X A W (ca + cb) (.BinOp a .Mod b pos) (dOp2 gMod da db) := de_bin op_mod snd_I ha hb
def gNeg : G1 := fun x κ => match x with
  | .int i => κ (.int (-i))
  | _ => False
theorem de_neg (ha : DE X A W ca a da) : DE X A W ca (.UnaryOp .USub a pos) (dOp1 gNeg da) := de_un un_neg (fun O G ρ t σ H x v Q κ R rx q k => by
  cases x <;> simp only [gNeg] at q
  simp only [Rp] at rx
  exact ⟨_, rx, k _ _ G H (Le.refl G) R (by simp only [Rp]) q⟩) ha

/-! ### comparisons -/
def gEq : G2 := fun x y κ => (SeqAt.shaped x = true ∧ SeqAt.shaped y = true ∧ κ (.bool (PyData.eqv x y))) ∨ ∃ s t, x = .str s ∧ y = .str t ∧ κ (.bool (s == t))
def gNe : G2 := fun x y κ => (SeqAt.shaped x = true ∧ SeqAt.shaped y = true ∧ κ (.bool (!PyData.eqv x y))) ∨ ∃ s t, x = .str s ∧ y = .str t ∧ κ (.bool (!(s == t)))
def rEqU (K : PySem.W.Frag) : R2 := fun x y H Q => rEqD K x y H Q ∨ rEq x y H Q
def rNeU (K : PySem.W.Frag) : R2 := fun x y H Q => rNeD K x y H Q ∨ rNe x y H Q
theorem op_eqU {k : Nat} (hr : Room k X.A) : OpR X (compareOp .Eq) (rEqU X.K) := fun pins s σ H x y v u Q I rx ry h => by
  rcases h with h | h
  · exact op_eqD hr.units pins s σ H x y v u Q I rx ry h
  · exact op_eq pins s σ H x y v u Q I rx ry h
theorem op_neU {k : Nat} (hr : Room k X.A) : OpR X (compareOp .NotEq) (rNeU X.K) := fun pins s σ H x y v u Q I rx ry h => by
  rcases h with h | h
  · exact op_neD hr.units pins s σ H x y v u Q I rx ry h
  · exact op_ne pins s σ H x y v u Q I rx ry h
theorem shaped_nodict {x : D} (h : SeqAt.shaped x = true) : x.hasDict = false := PyData.hasDict_of_canLay x (SeqAt.canLay_of_shaped h)
theorem snd_eq : Snd2 X A (rEqU X.K) gEq := snd2_of fun H x y v u Q κ ⟨G, l, rx, ry⟩ q k => by
  rcases q with ⟨s1, s2, q⟩ | ⟨a, b, rfl, rfl, q⟩
  · exact .inl ⟨x, y, Dp.mono l _ _ (Rp.dp x v (shaped_nodict s1) rx), Dp.mono l _ _ (Rp.dp y u (shaped_nodict s2) ry), s1, s2, k _ _ (fun _ => by simp only [Rp]) q⟩
  · simp only [Rp] at rx ry
    subst rx ry
    refine .inr ⟨rfl, ?_⟩
    rw [dec_str]
    exact k _ _ (fun _ => by simp only [Rp]) q
theorem snd_ne : Snd2 X A (rNeU X.K) gNe := snd2_of fun H x y v u Q κ ⟨G, l, rx, ry⟩ q k => by
  rcases q with ⟨s1, s2, q⟩ | ⟨a, b, rfl, rfl, q⟩
  · exact .inl ⟨x, y, Dp.mono l _ _ (Rp.dp x v (shaped_nodict s1) rx), Dp.mono l _ _ (Rp.dp y u (shaped_nodict s2) ry), s1, s2, k _ _ (fun _ => by simp only [Rp]) q⟩
  · simp only [Rp] at rx ry
    subst rx ry
    refine .inr ⟨rfl, ?_⟩
    rw [dec_str]
    exact k _ _ (fun _ => by simp only [Rp]) q
theorem de_eq {k : Nat} (hr : Room k X.A) (ha : DE X A W ca a da) (hb : DE X A W cb b db) : DE X A W (ca + cb) (.Compare a [.Eq] [b] pos) (dOp2 gEq da db) := de_cmp (op_eqU hr) snd_eq ha hb (nomark _)
theorem de_ne {k : Nat} (hr : Room k X.A) (ha : DE X A W ca a da) (hb : DE X A W cb b db) : DE X A W (ca + cb) (.Compare a [.NotEq] [b] pos) (dOp2 gNe da db) := de_cmp (op_neU hr) snd_ne ha hb (nomark _)
end
end TM
namespace TM
open L2 PySem.Spec PySem PyProof.Rows
section
variable {X : Cx} {A : Amb} {W : WX} {c0 ca cb cc cr cl ch : Nat} {a b c : Expr} {da db dc : DEx} {pos : Pos}

/-! ### order: ints, texts -/
def gOrd (f : Int → Int → Bool) (g : List Nat → List Nat → Bool) : G2 := fun x y κ => match x, y with
  | .int i, .int j => κ (.bool (f i j))
  | .str s, .str t => κ (.bool (g s.cps.toList t.cps.toList))
  | _, _ => False
def rOrd (f : Int → Int → Bool) (g : List Nat → List Nat → Bool) : R2 := fun x y H Q => (∃ i j, x = .int i ∧ y = .int j ∧ Q (.bl (f i j)) H) ∨ ∃ s t, x = .str s ∧ y = .str t ∧ Q (.bl (g s.cps.toList t.cps.toList)) H
theorem op_ord {op : CmpOp} {f : Int → Int → Bool} {g : List Nat → List Nat → Bool} (h1 : OpR X (compareOp op) (rI0 fun i j => .bl (f i j)))
    (h2 : OpR X (compareOp op) (fun x y H Q => ∃ s t, x = .str s ∧ y = .str t ∧ Q (.bl (g s.cps.toList t.cps.toList)) H)) : OpR X (compareOp op) (rOrd f g) := fun pins s σ H x y v u Q I rx ry h => by
  rcases h with h | h
  · exact h1 pins s σ H x y v u Q I rx ry h
  · exact h2 pins s σ H x y v u Q I rx ry h
theorem snd_ord {f : Int → Int → Bool} {g : List Nat → List Nat → Bool} : Snd2 X A (rOrd f g) (gOrd f g) := snd2_of fun H x y v u Q κ ⟨G, _, rx, ry⟩ q k => by
  cases x <;> cases y <;> simp only [gOrd] at q
  · simp only [Rp] at rx ry
    exact .inl ⟨_, _, rx, ry, k _ _ (fun _ => by simp only [Rp]) q⟩
  · simp only [Rp] at rx ry
    exact .inr ⟨_, _, rx, ry, k _ _ (fun _ => by simp only [Rp]) q⟩
abbrev gLt : G2 := gOrd (fun i j => decide (i < j)) fun s t => decide (s < t)
abbrev gLe : G2 := gOrd (fun i j => decide (i ≤ j)) fun s t => !decide (t < s)
abbrev gGt : G2 := gOrd (fun i j => decide (j < i)) fun s t => decide (t < s)
abbrev gGe : G2 := gOrd (fun i j => decide (j ≤ i)) fun s t => !decide (s < t)
theorem op_lt2 : OpR X (compareOp .Lt) (rOrd (fun i j => decide (i < j)) fun s t => decide (s < t)) := op_ord op_lt op_lt_str
theorem op_le2 : OpR X (compareOp .LtE) (rOrd (fun i j => decide (i ≤ j)) fun s t => !decide (t < s)) := op_ord op_le op_le_str
theorem op_gt2 : OpR X (compareOp .Gt) (rOrd (fun i j => decide (j < i)) fun s t => decide (t < s)) := op_ord op_gt op_gt_str
theorem op_ge2 : OpR X (compareOp .GtE) (rOrd (fun i j => decide (j ≤ i)) fun s t => !decide (s < t)) := op_ord op_ge op_ge_str
theorem de_lt (ha : DE X A W ca a da) (hb : DE X A W cb b db) : DE X A W (ca + cb) (.Compare a [.Lt] [b] pos) (dOp2 gLt da db) := de_cmp op_lt2 snd_ord ha hb (nomark _)
theorem de_le (ha : DE X A W ca a da) (hb : DE X A W cb b db) : DE X A W (ca + cb) (.Compare a [.LtE] [b] pos) (dOp2 gLe da db) := de_cmp op_le2 snd_ord ha hb (nomark _)
theorem de_gt (ha : DE X A W ca a da) (hb : DE X A W cb b db) : DE X A W (ca + cb) (.Compare a [.Gt] [b] pos) (dOp2 gGt da db) := de_cmp op_gt2 snd_ord ha hb (nomark _)
theorem de_ge (ha : DE X A W ca a da) (hb : DE X A W cb b db) : DE X A W (ca + cb) (.Compare a [.GtE] [b] pos) (dOp2 gGe da db) := de_cmp op_ge2 snd_ord ha hb (nomark _)

/-! ### in -/
/-- the dict has the key -/
def hasK (kvs : List (D × D)) (k : D) : Bool := kvs.any fun p => PyData.eqv p.1 k
def gIn (neg : Bool) : G2 := fun x y κ => match x, y with
  | x, .list ds => SeqAt.shaped x = true ∧ SeqAt.shaped (.list ds) = true ∧ κ (.bool (neg != ds.any fun z => PyData.eqv z x))
  | .str s, .str t => ∃ c, s = ⟨#[c]⟩ ∧ κ (.bool (neg != decide (c ∈ t.cps.toList)))
  | .int i, .tuple ds => ∃ ns : List Int, ds = ns.map .int ∧ κ (.bool (neg != ns.any fun n => n == i))
  | _, _ => False
def rInU (K : PySem.W.Frag) (neg : Bool) : R2 := fun x y H Q => (∃ d ds, Dp K H x d ∧ Dp K H y (.list ds) ∧ SeqAt.shaped d = true ∧ SeqAt.shaped (.list ds) = true ∧ Q (.bl (neg != ds.any fun z => PyData.eqv z d)) H) ∨
  (∃ (c : Nat) (z : Str), x = .str ⟨#[c]⟩ ∧ y = .str z ∧ Q (.bl (neg != decide (c ∈ z.cps.toList))) H) ∨
  (∃ (i : Int) (p : Addr) (ns : List Int), x = .int i ∧ y = .ref p ∧ H p = some (.tup (ns.map V.int)) ∧ Q (.bl (neg != ns.any fun n => n == i)) H)
theorem inV_ints (i : Int) : ∀ ns : List Int, inV (.int i) (ns.map V.int) = ns.any fun n => n == i
  | [] => rfl
  | n :: ns => by
    have h := inV_ints i ns
    unfold inV at h ⊢
    rw [List.map_cons, List.any_cons, List.any_cons, h]
    rfl
theorem flat_ints : ∀ ns : List Int, (ns.map V.int).all flatV = true
  | [] => rfl
  | n :: ns => by
    rw [List.map_cons, List.all_cons, flat_ints ns]
    rfl
theorem op_inU (hu : X.A.units + 65 < cLine) : OpR X (compareOp .In) (rInU X.K false) := fun pins s σ H x y v u Q I rx ry h => by
  rcases h with ⟨d, ds, h1, h2, h3, h4, q⟩ | ⟨c, z, h1, h2, q⟩ | ⟨i, p, ns, h1, h2, h3, q⟩
  · exact op_inD hu pins s σ H x y v u Q I rx ry ⟨d, ds, h1, h2, h3, h4, by simpa using q⟩
  · exact op_in_sign pins s σ H x y v u Q I rx ry ⟨c, z, h1, h2, by simpa using q⟩
  · refine op_in_seq pins s σ H x y v u Q I rx ry ⟨p, _, h2, .inr (SqT.of h3), by rw [h1]; rfl, flat_ints ns, ?_⟩
    rw [h1, inV_ints]
    simpa using q
theorem op_notInU (hu : X.A.units + 65 < cLine) : OpR X (compareOp .NotIn) (rInU X.K true) := fun pins s σ H x y v u Q I rx ry h => by
  rcases h with ⟨d, ds, h1, h2, h3, h4, q⟩ | ⟨c, z, h1, h2, q⟩ | ⟨i, p, ns, h1, h2, h3, q⟩
  · exact op_notInD hu pins s σ H x y v u Q I rx ry ⟨d, ds, h1, h2, h3, h4, by simpa using q⟩
  · exact op_notIn_sign pins s σ H x y v u Q I rx ry ⟨c, z, h1, h2, by simpa using q⟩
  · refine op_notIn_seq pins s σ H x y v u Q I rx ry ⟨p, _, h2, .inr (SqT.of h3), by rw [h1]; rfl, flat_ints ns, ?_⟩
    rw [h1, inV_ints]
    simpa using q
theorem RpAll.ints {G : Hp} : ∀ {ns : List Int} {xs : List V}, RpAll G (ns.map .int) xs → xs = ns.map V.int
  | [], xs, h => by simpa only [RpAll, List.map_nil] using h
  | n :: ns, xs, h => by
    simp only [List.map_cons, RpAll, Rp] at h
    obtain ⟨x, r, rfl, rfl, h2⟩ := h
    rw [RpAll.ints h2]
    rfl
theorem RpAll.strs {G : Hp} : ∀ {ss : List Str} {xs : List V}, RpAll G (ss.map .str) xs → xs = ss.map V.str
  | [], xs, h => by simpa only [RpAll, List.map_nil] using h
  | n :: ns, xs, h => by
    simp only [List.map_cons, RpAll, Rp] at h
    obtain ⟨x, r, rfl, rfl, h2⟩ := h
    rw [RpAll.strs h2]
    rfl
theorem RpAll.bools {G : Hp} : ∀ {ss : List Bool} {xs : List V}, RpAll G (ss.map .bool) xs → xs = ss.map V.bl
  | [], xs, h => by simpa only [RpAll, List.map_nil] using h
  | n :: ns, xs, h => by
    simp only [List.map_cons, RpAll, Rp] at h
    obtain ⟨x, r, rfl, rfl, h2⟩ := h
    rw [RpAll.bools h2]
    rfl
theorem RpAll.of_ints {G : Hp} : ∀ (ns : List Int), RpAll G (ns.map .int) (ns.map V.int)
  | [] => RpAll.nil
  | n :: ns => RpAll.cons (by simp only [Rp]) (RpAll.of_ints ns)
theorem RpAll.of_strs {G : Hp} : ∀ (ns : List Str), RpAll G (ns.map .str) (ns.map V.str)
  | [] => RpAll.nil
  | n :: ns => RpAll.cons (by simp only [Rp]) (RpAll.of_strs ns)
theorem snd_in (neg : Bool) : Snd2 X A (rInU X.K neg) (gIn neg) := snd2_of fun H x y v u Q κ ⟨G, l, rx, ry⟩ q k => by
  cases y with
  | list ds =>
    simp only [gIn] at q
    obtain ⟨s1, s2, q⟩ := q
    exact .inl ⟨x, ds, Dp.mono l _ _ (Rp.dp x v (shaped_nodict s1) rx), Dp.mono l _ _ (Rp.dp _ u (shaped_nodict s2) ry), s1, s2, k _ _ (fun _ => by simp only [Rp]) q⟩
  | str t =>
    cases x <;> simp only [gIn] at q
    obtain ⟨ch, rfl, q⟩ := q
    simp only [Rp] at rx ry
    exact .inr (.inl ⟨ch, t, rx, ry, k _ _ (fun _ => by simp only [Rp]) q⟩)
  | tuple ds =>
    cases x <;> simp only [gIn] at q
    obtain ⟨ns, rfl, q⟩ := q
    simp only [Rp] at rx ry
    obtain ⟨p, xs, rfl, hp, r⟩ := ry
    have e := RpAll.ints r
    subst e
    exact .inr (.inr ⟨_, p, ns, rx, rfl, l _ _ hp, k _ _ (fun _ => by simp only [Rp]) q⟩)
  | _ => cases x <;> simp only [gIn] at q
theorem room65 {k : Nat} {B : Around} (hr : Room (k + 1) B) : B.units + 65 < cLine := by
  have := hr.un
  omega
theorem de_in {k : Nat} (hr : Room (k + 1) X.A) (ha : DE X A W ca a da) (hb : DE X A W cb b db) (hm : behindInMarks .In b = false := by rfl) : DE X A W (ca + cb) (.Compare a [.In] [b] pos) (dOp2 (gIn false) da db) := de_cmp (op_inU (room65 hr)) (snd_in false) ha hb hm
theorem de_notIn {k : Nat} (hr : Room (k + 1) X.A) (ha : DE X A W ca a da) (hb : DE X A W cb b db) (hm : behindInMarks .NotIn b = false := by rfl) : DE X A W (ca + cb) (.Compare a [.NotIn] [b] pos) (dOp2 (gIn true) da db) := de_cmp (op_notInU (room65 hr)) (snd_in true) ha hb hm

/-! ### is None, is True -/
def D.isNone : D → Bool
  | .none => true
  | _ => false
theorem Rp.non_iff {G : Hp} {d : D} {v : V} (h : Rp G d v) : decide (v = .non) = D.isNone d := by
  cases d <;> simp only [Rp] at h
  · subst h
    rfl
  · subst h
    rfl
  · subst h
    rfl
  · subst h
    rfl
  all_goals first
    | (obtain ⟨a, xs, rfl, _⟩ := h
       rfl)
    | (obtain ⟨a, o, xs, rfl, _⟩ := h
       rfl)
def gIsN (neg : Bool) : G1 := fun x κ => κ (.bool (neg != D.isNone x))
def dIsN (neg : Bool) (d : DEx) : DEx := dOp1 (gIsN neg) d
theorem de_isN {j pos'} (ha : DE X A W ca a da) : DE X A W ca (.Compare a [.Is] [.Constant .none j pos'] pos) (dIsN false da) :=
  ⟨PE.weak (pe_cmp (pc_isN ha.pe)) fun σ H Q ⟨O, G, ρ, t, Ψ, Φ, le, R, q, pe, px⟩ => ⟨O, G, ρ, t, _, Φ, by omega, R, q, fun x ρ1 v G1 H1 l1 R1 rx q1 => by
    refine pe _ ρ1 _ G1 H1 l1 (R1.up (by omega)) ?_ q1
    simp only [Rp]
    rw [Rp.non_iff rx]
    simp, px.dn (by omega)⟩⟩
theorem de_notN {j pos'} (ha : DE X A W ca a da) : DE X A W ca (.Compare a [.IsNot] [.Constant .none j pos'] pos) (dIsN true da) :=
  ⟨PE.weak (pe_cmp (pc_notN ha.pe)) fun σ H Q ⟨O, G, ρ, t, Ψ, Φ, le, R, q, pe, px⟩ => ⟨O, G, ρ, t, _, Φ, by omega, R, q, fun x ρ1 v G1 H1 l1 R1 rx q1 => by
    refine pe _ ρ1 _ G1 H1 l1 (R1.up (by omega)) ?_ q1
    simp only [Rp]
    rw [Rp.non_iff rx]
    simp, px.dn (by omega)⟩⟩

/-! ### truth -/
def dTst (d : DEx) : DTx := fun ρ Ψ Φ => d ρ (fun x ρ1 => match x with
  | .bool b => Ψ b ρ1
  | _ => False) Φ
theorem lift_tst {σ : L2.St} {H : Hp} {Q : Bool → Hp → Prop} (h : liftT X.K A W ca (dTst da) σ H Q) : liftE X.K A W ca da σ H fun x H' => ∃ k, x = .bl k ∧ Q k H' := by
  obtain ⟨O, G, ρ, t, Ψ, Φ, le, R, q, pt, px⟩ := h
  refine ⟨O, G, ρ, t, _, Φ, by omega, R, q, fun x ρ1 v G1 H1 l1 R1 rx q1 => ?_, px.dn (by omega)⟩
  cases x with
  | bool b =>
    simp only [Rp] at rx
    exact ⟨b, rx, pt b ρ1 G1 H1 l1 (R1.up (by omega)) q1⟩
  | _ => exact q1.elim
/-- a test that is a plain value (a call, a name) -/
theorem dt_val (ha : DE X A W ca a da) (he : ∀ whole, isTrue a X.env whole = (do let v ← whole; standAt a.pos; holding [v] (truthy v)) := by intro _; rfl) : DT X A W ca a (dTst da) :=
  ⟨PT.weak (pt_val ha.pe he) fun σ H Q h => lift_tst h⟩
theorem dt_cmp {op : CmpOp} {r : R2} {g : G2} (ho : OpR X (compareOp op) r) (hs : Snd2 X A r g) (ha : DE X A W ca a da) (hb : DE X A W cb b db) (hm : behindInMarks op b = false) : DT X A W (ca + cb) (.Compare a [op] [b] pos) (dTst (dOp2 g da db)) :=
  ⟨PT.weak (pt_cmpR ho ha.pe hb.pe hm) fun σ H Q h => lift_op2 hs (lift_tst h)⟩
theorem dt_eq {k : Nat} (hr : Room k X.A) (ha : DE X A W ca a da) (hb : DE X A W cb b db) : DT X A W (ca + cb) (.Compare a [.Eq] [b] pos) (dTst (dOp2 gEq da db)) := dt_cmp (op_eqU hr) snd_eq ha hb (nomark _)
theorem dt_ne {k : Nat} (hr : Room k X.A) (ha : DE X A W ca a da) (hb : DE X A W cb b db) : DT X A W (ca + cb) (.Compare a [.NotEq] [b] pos) (dTst (dOp2 gNe da db)) := dt_cmp (op_neU hr) snd_ne ha hb (nomark _)
theorem dt_lt (ha : DE X A W ca a da) (hb : DE X A W cb b db) : DT X A W (ca + cb) (.Compare a [.Lt] [b] pos) (dTst (dOp2 gLt da db)) := dt_cmp op_lt2 snd_ord ha hb (nomark _)
theorem dt_le (ha : DE X A W ca a da) (hb : DE X A W cb b db) : DT X A W (ca + cb) (.Compare a [.LtE] [b] pos) (dTst (dOp2 gLe da db)) := dt_cmp op_le2 snd_ord ha hb (nomark _)
theorem dt_gt (ha : DE X A W ca a da) (hb : DE X A W cb b db) : DT X A W (ca + cb) (.Compare a [.Gt] [b] pos) (dTst (dOp2 gGt da db)) := dt_cmp op_gt2 snd_ord ha hb (nomark _)
theorem dt_ge (ha : DE X A W ca a da) (hb : DE X A W cb b db) : DT X A W (ca + cb) (.Compare a [.GtE] [b] pos) (dTst (dOp2 gGe da db)) := dt_cmp op_ge2 snd_ord ha hb (nomark _)
theorem dt_in {k : Nat} (hr : Room (k + 1) X.A) (ha : DE X A W ca a da) (hb : DE X A W cb b db) (hm : behindInMarks .In b = false := by rfl) : DT X A W (ca + cb) (.Compare a [.In] [b] pos) (dTst (dOp2 (gIn false) da db)) := dt_cmp (op_inU (room65 hr)) (snd_in false) ha hb hm
theorem dt_notIn {k : Nat} (hr : Room (k + 1) X.A) (ha : DE X A W ca a da) (hb : DE X A W cb b db) (hm : behindInMarks .NotIn b = false := by rfl) : DT X A W (ca + cb) (.Compare a [.NotIn] [b] pos) (dTst (dOp2 (gIn true) da db)) := dt_cmp (op_notInU (room65 hr)) (snd_in true) ha hb hm
theorem lift_isN {neg : Bool} {σ : L2.St} {H : Hp} {Q : VK} (h : liftE X.K A W ca (dIsN neg da) σ H Q) : liftE X.K A W ca da σ H fun x H1 => Q (.bl (neg != decide (x = .non))) H1 := by
  obtain ⟨O, G, ρ, t, Ψ, Φ, le, R, q, pe, px⟩ := h
  refine ⟨O, G, ρ, t, _, Φ, by omega, R, q, fun x ρ1 v G1 H1 l1 R1 rx q1 => ?_, px.dn (by omega)⟩
  refine pe _ ρ1 _ G1 H1 l1 (R1.up (by omega)) ?_ q1
  simp only [Rp]
  rw [Rp.non_iff rx]
theorem dt_isN {j pos'} (ha : DE X A W ca a da) : DT X A W ca (.Compare a [.Is] [.Constant .none j pos'] pos) (dTst (dIsN false da)) :=
  ⟨PT.weak (pt_cmp (pc_isN ha.pe)) fun σ H Q h => by
    have h2 := lift_isN (lift_tst h)
    obtain ⟨O, G, ρ, t, Ψ, Φ, le, R, q, pe, px⟩ := h2
    exact ⟨O, G, ρ, t, Ψ, Φ, by omega, R, q, fun x ρ1 v G1 H1 l1 R1 rx q1 => by simpa using pe x ρ1 v G1 H1 l1 (R1.up (by omega)) rx q1, px.dn (by omega)⟩⟩
theorem dt_notN {j pos'} (ha : DE X A W ca a da) : DT X A W ca (.Compare a [.IsNot] [.Constant .none j pos'] pos) (dTst (dIsN true da)) :=
  ⟨PT.weak (pt_cmp (pc_notN ha.pe)) fun σ H Q h => by
    have h2 := lift_isN (lift_tst h)
    obtain ⟨O, G, ρ, t, Ψ, Φ, le, R, q, pe, px⟩ := h2
    exact ⟨O, G, ρ, t, Ψ, Φ, by omega, R, q, fun x ρ1 v G1 H1 l1 R1 rx q1 => by simpa using pe x ρ1 v G1 H1 l1 (R1.up (by omega)) rx q1, px.dn (by omega)⟩⟩
def dNotT (t : DTx) : DTx := fun ρ Ψ Φ => t ρ (fun b ρ1 => Ψ (!b) ρ1) Φ
def dAndT (t u : DTx) : DTx := fun ρ Ψ Φ => t ρ (fun b ρ1 => if b = true then u ρ1 Ψ Φ else Ψ false ρ1) Φ
def dOrT (t u : DTx) : DTx := fun ρ Ψ Φ => t ρ (fun b ρ1 => if b = true then Ψ true ρ1 else u ρ1 Ψ Φ) Φ
variable {ta tb : DTx} {rest : List Expr}
theorem dt_not (ha : DT X A W ca a ta) : DT X A W ca (.UnaryOp .Not a pos) (dNotT ta) :=
  ⟨PT.weak (pt_not ha.pt) fun σ H Q ⟨O, G, ρ, t, Ψ, Φ, le, R, q, pt, px⟩ => ⟨O, G, ρ, t, _, Φ, by omega, R, q, fun b ρ1 G1 H1 l1 R1 q1 => pt _ ρ1 G1 H1 l1 (R1.up (by omega)) q1, px.dn (by omega)⟩⟩
theorem dw_pt (h : DW X A W c0 a ta) : DT X A W c0 a ta := ⟨h.pw.pt⟩
theorem dw_and1 (ha : DT X A W ca a ta) : DW X A W ca (.BoolOp .And [a] pos) ta := ⟨pw_and1 ha.pt⟩
theorem dw_or1 (ha : DT X A W ca a ta) : DW X A W ca (.BoolOp .Or [a] pos) ta := ⟨pw_or1 ha.pt⟩
theorem lift_and {σ : L2.St} {H : Hp} {Q : Bool → Hp → Prop} (h : liftT X.K A W (ca + cb) (dAndT ta tb) σ H Q) : tAnd (liftT X.K A W ca ta) (liftT X.K A W cb tb) σ H Q := by
  obtain ⟨O, G, ρ, t, Ψ, Φ, le, R, q, pt, px⟩ := h
  refine ⟨O, G, ρ, t, _, Φ, by omega, R, q, fun b ρ1 G1 H1 l1 R1 q1 => ?_, px.dn (by omega)⟩
  cases b with
  | true => exact ⟨O, G1, ρ1, _, Ψ, Φ, by omega, R1, q1, fun b2 ρ2 G2 H2 l2 R2 q2 => pt b2 ρ2 G2 H2 (l1.trans l2) (R2.up (by omega)) q2, (px.le l1).dn (by omega)⟩
  | false => exact pt false ρ1 G1 H1 l1 (R1.up (by omega)) q1
theorem lift_or {σ : L2.St} {H : Hp} {Q : Bool → Hp → Prop} (h : liftT X.K A W (ca + cb) (dOrT ta tb) σ H Q) : tOr (liftT X.K A W ca ta) (liftT X.K A W cb tb) σ H Q := by
  obtain ⟨O, G, ρ, t, Ψ, Φ, le, R, q, pt, px⟩ := h
  refine ⟨O, G, ρ, t, _, Φ, by omega, R, q, fun b ρ1 G1 H1 l1 R1 q1 => ?_, px.dn (by omega)⟩
  cases b with
  | false => exact ⟨O, G1, ρ1, _, Ψ, Φ, by omega, R1, q1, fun b2 ρ2 G2 H2 l2 R2 q2 => pt b2 ρ2 G2 H2 (l1.trans l2) (R2.up (by omega)) q2, (px.le l1).dn (by omega)⟩
  | true => exact pt true ρ1 G1 H1 l1 (R1.up (by omega)) q1
theorem dw_and (ha : DT X A W ca a ta) (hb : DW X A W cb (.BoolOp .And (b :: rest) pos) tb) : DW X A W (ca + cb) (.BoolOp .And (a :: b :: rest) pos) (dAndT ta tb) := ⟨PW.weak (pw_and ha.pt hb.pw) fun _ _ _ => lift_and⟩
theorem dw_or (ha : DT X A W ca a ta) (hb : DW X A W cb (.BoolOp .Or (b :: rest) pos) tb) : DW X A W (ca + cb) (.BoolOp .Or (a :: b :: rest) pos) (dOrT ta tb) := ⟨PW.weak (pw_or ha.pt hb.pw) fun _ _ _ => lift_or⟩
/-- a and b as a value, a True or False -/
def dAnd (da db : DEx) : DEx := fun ρ Ψ Φ => da ρ (fun x ρ1 => match x with
  | .bool b => if b = true then db ρ1 Ψ Φ else Ψ (.bool false) ρ1
  | _ => False) Φ
def dOr (da db : DEx) : DEx := fun ρ Ψ Φ => da ρ (fun x ρ1 => match x with
  | .bool b => if b = true then Ψ (.bool true) ρ1 else db ρ1 Ψ Φ
  | _ => False) Φ
def dNot (da : DEx) : DEx := fun ρ Ψ Φ => da ρ (fun x ρ1 => match x with
  | .bool b => Ψ (.bool (!b)) ρ1
  | _ => False) Φ
theorem de_one {op} (h : DE X A W c0 a da) : DE X A W c0 (.BoolOp op [a] pos) da := ⟨pe_one h.pe⟩
theorem de_and (ha : DE X A W ca a da) (hb : DE X A W cb (.BoolOp .And (b :: rest) pos) db) : DE X A W (ca + cb) (.BoolOp .And (a :: b :: rest) pos) (dAnd da db) :=
  ⟨PE.weak (pe_and ha.pe hb.pe) fun σ H Q ⟨O, G, ρ, t, Ψ, Φ, le, R, q, pe, px⟩ => ⟨O, G, ρ, t, _, Φ, by omega, R, q, fun x ρ1 v G1 H1 l1 R1 rx q1 => by
    cases x with
    | bool b =>
      simp only [Rp] at rx
      subst rx
      refine ⟨b, rfl, ?_⟩
      cases b with
      | true => exact ⟨O, G1, ρ1, _, Ψ, Φ, by omega, R1, q1, fun b2 ρ2 v2 G2 H2 l2 R2 r2 q2 => pe b2 ρ2 v2 G2 H2 (l1.trans l2) (R2.up (by omega)) r2 q2, (px.le l1).dn (by omega)⟩
      | false => exact pe _ ρ1 _ G1 H1 l1 (R1.up (by omega)) (by simp only [Rp]) q1
    | _ => exact q1.elim, px.dn (by omega)⟩⟩
theorem de_or (ha : DE X A W ca a da) (hb : DE X A W cb (.BoolOp .Or (b :: rest) pos) db) : DE X A W (ca + cb) (.BoolOp .Or (a :: b :: rest) pos) (dOr da db) :=
  ⟨PE.weak (pe_or ha.pe hb.pe) fun σ H Q ⟨O, G, ρ, t, Ψ, Φ, le, R, q, pe, px⟩ => ⟨O, G, ρ, t, _, Φ, by omega, R, q, fun x ρ1 v G1 H1 l1 R1 rx q1 => by
    cases x with
    | bool b =>
      simp only [Rp] at rx
      subst rx
      refine ⟨b, rfl, ?_⟩
      cases b with
      | false => exact ⟨O, G1, ρ1, _, Ψ, Φ, by omega, R1, q1, fun b2 ρ2 v2 G2 H2 l2 R2 r2 q2 => pe b2 ρ2 v2 G2 H2 (l1.trans l2) (R2.up (by omega)) r2 q2, (px.le l1).dn (by omega)⟩
      | true => exact pe _ ρ1 _ G1 H1 l1 (R1.up (by omega)) (by simp only [Rp]) q1
    | _ => exact q1.elim, px.dn (by omega)⟩⟩
theorem de_not (ha : DE X A W ca a da) : DE X A W ca (.UnaryOp .Not a pos) (dNot da) :=
  ⟨PE.weak (pe_not ha.pe) fun σ H Q ⟨O, G, ρ, t, Ψ, Φ, le, R, q, pe, px⟩ => ⟨O, G, ρ, t, _, Φ, by omega, R, q, fun x ρ1 v G1 H1 l1 R1 rx q1 => by
    cases x with
    | bool b =>
      simp only [Rp] at rx
      subst rx
      exact ⟨b, rfl, pe _ ρ1 _ G1 H1 l1 (R1.up (by omega)) (by simp only [Rp]) q1⟩
    | _ => exact q1.elim, px.dn (by omega)⟩⟩
def dIf (t : DTx) (da db : DEx) : DEx := fun ρ Ψ Φ => t ρ (fun b ρ1 => if b = true then da ρ1 Ψ Φ else db ρ1 Ψ Φ) Φ
theorem de_if (hc : DT X A W cc c ta) (ha : DE X A W ca a da) (hb : DE X A W cb b db) : DE X A W (cc + ca + cb) (.IfExp c a b pos) (dIf ta da db) :=
  ⟨PE.weak (pe_ifExp hc.pt ha.pe hb.pe) fun σ H Q ⟨O, G, ρ, t, Ψ, Φ, le, R, q, pe, px⟩ => ⟨O, G, ρ, t, _, Φ, by omega, R, q, fun b ρ1 G1 H1 l1 R1 q1 => by
    cases b with
    | true => exact ⟨O, G1, ρ1, _, Ψ, Φ, by omega, R1, q1, fun b2 ρ2 v2 G2 H2 l2 R2 r2 q2 => pe b2 ρ2 v2 G2 H2 (l1.trans l2) (R2.up (by omega)) r2 q2, (px.le l1).dn (by omega)⟩
    | false => exact ⟨O, G1, ρ1, _, Ψ, Φ, by omega, R1, q1, fun b2 ρ2 v2 G2 H2 l2 R2 r2 q2 => pe b2 ρ2 v2 G2 H2 (l1.trans l2) (R2.up (by omega)) r2 q2, (px.le l1).dn (by omega)⟩, px.dn (by omega)⟩⟩
/-- a op b op' c -/
def dChain (g g' : G2) (da db dc : DEx) : DEx := fun ρ Ψ Φ => da ρ (fun x ρ1 => db ρ1 (fun y ρ2 => g x y fun z => match z with
  | .bool k => if k = true then dc ρ2 (fun w ρ3 => g' y w fun z' => Ψ z' ρ3) Φ else Ψ (.bool false) ρ2
  | _ => False) Φ) Φ
theorem lift_chain {r r' : R2} {g g' : G2} (hs : Snd2 X A r g) (hs' : Snd2 X A r' g') {σ : L2.St} {H : Hp} {Q : VK} (h : liftE X.K A W (ca + cb + cc) (dChain g g' da db dc) σ H Q) : tChain r r' (liftE X.K A W ca da) (liftE X.K A W cb db) (liftE X.K A W cc dc) σ H Q := by
  obtain ⟨O, G, ρ, t, Ψ, Φ, le, R, q, pe, px⟩ := h
  refine ⟨O, G, ρ, t, _, Φ, by omega, R, q, fun x ρ1 v G1 H1 l1 R1 rx q1 => ?_, px.dn (by omega)⟩
  refine ⟨O, G1, ρ1, _, _, Φ, by omega, R1, q1, fun y ρ2 u G2 H2 l2 R2 ry q2 => ?_, (px.le l1).dn (by omega)⟩
  refine hs O G2 ρ2 _ σ H2 x y v u _ _ R2 (Rp.mono l2 x v rx) ry q2 fun z w G3 H3 l3 R3 rz k => ?_
  cases z with
  | bool b =>
    simp only [Rp] at rz
    subst rz
    refine ⟨b, rfl, ?_⟩
    cases b with
    | true =>
      refine ⟨O, G3, ρ2, _, _, Φ, by omega, R3, k, fun w ρ4 vw G4 H4 l4 R4 rw q4 => ?_, (px.le ((l1.trans l2).trans l3)).dn (by omega)⟩
      exact hs' O G4 ρ4 _ σ H4 y w u vw Q _ R4 (Rp.mono (l3.trans l4) y u ry) rw q4 fun z w G5 H5 l5 R5 rz k => pe z ρ4 w G5 H5 ((((l1.trans l2).trans l3).trans l4).trans l5) (R5.up (by omega)) rz k
    | false => exact pe _ ρ2 _ G3 H3 ((l1.trans l2).trans l3) (R3.up (by omega)) (by simp only [Rp]) k
  | _ => exact k.elim
theorem de_chain {op op' : CmpOp} {r r' : R2} {g g' : G2} (ho : OpR X (compareOp op) r) (ho' : OpR X (compareOp op') r') (hs : Snd2 X A r g) (hs' : Snd2 X A r' g') (ha : DE X A W ca a da) (hb : DE X A W cb b db) (hc : DE X A W cc c dc)
    (hm : lastMarks [op, op'] [b, c] = false := by with_unfolding_all rfl) : DE X A W (ca + cb + cc) (.Compare a [op, op'] [b, c] pos) (dChain g g' da db dc) := ⟨PE.weak (pe_chain ho ho' ha.pe hb.pe hc.pe hm) fun _ _ _ => lift_chain hs hs'⟩
theorem dt_chain {op op' : CmpOp} {r r' : R2} {g g' : G2} (ho : OpR X (compareOp op) r) (ho' : OpR X (compareOp op') r') (hs : Snd2 X A r g) (hs' : Snd2 X A r' g') (ha : DE X A W ca a da) (hb : DE X A W cb b db) (hc : DE X A W cc c dc)
    (hm : lastMarks [op, op'] [b, c] = false := by with_unfolding_all rfl) : DT X A W (ca + cb + cc) (.Compare a [op, op'] [b, c] pos) (dTst (dChain g g' da db dc)) := ⟨PT.weak (pt_chain ho ho' ha.pe hb.pe hc.pe hm) fun _ _ _ h => lift_chain hs hs' (lift_tst h)⟩
end
end TM
namespace TM
open L2 PySem.Spec PySem PyProof.Rows
section
variable {X : Cx} {A : Amb} {W : WX} {c0 ca cb cc cr cl ch : Nat} {a b c : Expr} {da db dc : DEx} {pos : Pos}

/-! ### subscripts -/
def gGet : G2 := fun x y κ => match x, y with
  | .list ds, .int i => (match atI ds i with
    | some d => κ d
    | none => False)
  | .tuple ds, .int i => (match atI ds i with
    | some d => κ d
    | none => False)
  | .str s, .int i => s.length ≤ sizeLine ∧ (match atI s.cps.toList i with
    | some c => κ (.str ⟨#[c]⟩)
    | none => False)
  | _, _ => False
theorem RpAll.atI {G : Hp} {ds : List D} {xs : List V} {i : Int} {d : D} (r : RpAll G ds xs) (h : atI ds i = some d) : ∃ x, L2.atI xs i = some x ∧ Rp G d x := by
  unfold L2.atI at h ⊢
  rw [RpAll.length r]
  cases e : ixN ds.length i with
  | none =>
    rw [e] at h
    cases h
  | some j =>
    rw [e] at h
    exact RpAll.get r h
theorem snd_get : Snd2 X A (rIx X.K) gGet := fun O G ρ t σ H x y v u Q κ R rx ry q k => by
  cases x <;> cases y <;> simp only [gGet] at q
  · rename_i s i
    simp only [Rp] at rx ry
    obtain ⟨hz, q⟩ := q
    cases e : atI s.cps.toList i with
    | none =>
      rw [e] at q
      exact q.elim
    | some ch =>
      rw [e] at q
      exact .inr (.inr ⟨s, i, ch, rx, ry, hz, e, k _ _ G H (Le.refl G) R (by simp only [Rp]) q⟩)
  · rename_i ds i
    simp only [Rp] at rx ry
    obtain ⟨p, xs, rfl, hp, r⟩ := rx
    cases e : atI ds i with
    | none =>
      rw [e] at q
      exact q.elim
    | some d =>
      rw [e] at q
      obtain ⟨x, e1, r1⟩ := RpAll.atI r e
      exact .inl ⟨p, xs, i, x, rfl, ry, SqL.of (R.hs.gh _ _ hp), e1, k _ _ G H (Le.refl G) R r1 q⟩
  · rename_i ds i
    simp only [Rp] at rx ry
    obtain ⟨p, xs, rfl, hp, r⟩ := rx
    cases e : atI ds i with
    | none =>
      rw [e] at q
      exact q.elim
    | some d =>
      rw [e] at q
      obtain ⟨x, e1, r1⟩ := RpAll.atI r e
      exact .inr (.inl ⟨p, xs, i, x, rfl, ry, SqT.of (R.hs.gh _ _ hp), e1, k _ _ G H (Le.refl G) R r1 q⟩)
theorem de_get (ha : DE X A W ca a da) (hb : DE X A W cb b db) (hs : PlainIx b := by exact fun _ _ => rfl) : DE X A W (ca + cb) (.Subscript a b pos) (dOp2 gGet da db) :=
  ⟨PE.weak (pe_ix ix_seq ha.pe hb.pe hs) fun _ _ _ => lift_op2 snd_get⟩

/-! ### slices -/
abbrev DPx := Sl → (Option Int → Sl → Prop) → XP → Prop
def PostP (K : PySem.W.Frag) (A : Amb) (t : Nat) (O G : Hp) (σ : L2.St) (Ψ : Option Int → Sl → Prop) (Q : Option Int → Hp → Prop) : Prop := ∀ o ρ' G' H', Le G G' → Rel K A t O G' ρ' σ H' → Ψ o ρ' → Q o H'
def liftP (K : PySem.W.Frag) (A : Amb) (W : WX) (c : Nat) (d : DPx) : TO := fun σ H Q => ∃ O G ρ t Ψ Φ, t + c ≤ TMX ∧ Rel K A t O G ρ σ H ∧ d ρ Ψ Φ ∧ PostP K A (t + c) O G σ Ψ Q ∧ PostX K A (t + c) O G σ W Φ
structure DP (X : Cx) (A : Amb) (W : WX) (c : Nat) (e : Option Expr) (d : DPx) : Prop where
  po : PO X e (liftP X.K A W c d)
theorem PO.weak {e : Option Expr} {t t' : TO} (h : PO X e t) (w : ∀ σ H Q, t' σ H Q → t σ H Q) : PO X e t' := ⟨fun pins s σ H Q I q => h.run pins s σ H Q I (w σ H Q q)⟩
def pNone : DPx := fun ρ Ψ _ => Ψ none ρ
def pSome (d : DEx) : DPx := fun ρ Ψ Φ => d ρ (fun x ρ1 => match x with
  | .int i => Ψ (some i) ρ1
  | _ => False) Φ
theorem dp_none : DP X A W 0 none pNone := ⟨PO.weak po_none fun σ H Q ⟨O, G, ρ, t, Ψ, Φ, le, R, q, pp, px⟩ => pp none ρ G H (Le.refl G) (R.up (by omega)) q⟩
theorem dp_some (ha : DE X A W ca a da) : DP X A W ca (some a) (pSome da) := ⟨PO.weak (po_some ha.pe) fun σ H Q ⟨O, G, ρ, t, Ψ, Φ, le, R, q, pp, px⟩ => ⟨O, G, ρ, t, _, Φ, by omega, R, q, fun x ρ1 v G1 H1 l1 R1 rx q1 => by
  cases x with
  | int i =>
    simp only [Rp] at rx
    exact ⟨i, rx, pp _ ρ1 G1 H1 l1 (R1.up (by omega)) q1⟩
  | _ => exact q1.elim, px.dn (by omega)⟩⟩
def cutD {α : Type} (xs : List α) (lo hi : Option Int) : List α := (xs.drop (HT.sIx xs.length 0 lo)).take (HT.sIx xs.length xs.length hi - HT.sIx xs.length 0 lo)
theorem RpAll.cut {G : Hp} {ds : List D} {xs : List V} (r : RpAll G ds xs) (lo hi : Option Int) : RpAll G (cutD ds lo hi) (cutV xs lo hi) := by
  unfold cutD cutV
  rw [RpAll.length r]
  exact RpAll.take _ (RpAll.drop _ r)
/-- a slice, not changed any more: of a list a new one, of a text -/
def gSl (x : D) (lo hi : Option Int) (κ : D → Prop) : Prop := match x with
  | .list ds => κ (.list (cutD ds lo hi))
  | .str s => s.length ≤ sizeLine ∧ κ (.str (cutS s lo hi))
  | _ => False
def dSl (da : DEx) (dl dh : DPx) : DEx := fun ρ Ψ Φ => da ρ (fun x ρ1 => dl ρ1 (fun lo ρ2 => dh ρ2 (fun hi ρ3 => gSl x lo hi fun z => Ψ z ρ3) Φ) Φ) Φ
def oSl (da : DEx) (dl dh : DPx) : DOx := fun ρ Ψ Φ => da ρ (fun x ρ1 => dl ρ1 (fun lo ρ2 => dh ρ2 (fun hi ρ3 => match x with
  | .list ds => Ψ (cutD ds lo hi) ρ3
  | _ => False) Φ) Φ) Φ
def rSlU (K : PySem.W.Frag) : V → Option Int → Option Int → Hp → VK → Prop := fun x lo hi H Q => rSlL K x lo hi H Q ∨ rSlS x lo hi H Q
variable {lo hi : Option Expr} {dl dh : DPx} {p2 : Pos}
theorem de_sl (ha : DE X A W ca a da) (hl : DP X A W cl lo dl) (hh : DP X A W ch hi dh) : DE X A W (ca + cl + ch) (.Subscript a (.Slice lo hi none p2) pos) (dSl da dl dh) :=
  ⟨PE.weak (pe_slice (SlR.or sl_list sl_str) ha.pe hl.po hh.po) fun σ H Q ⟨O, G, ρ, t, Ψ, Φ, le, R, q, pe, px⟩ => ⟨O, G, ρ, t, _, Φ, by omega, R, q, fun x ρ1 v G1 H1 l1 R1 rx q1 =>
    ⟨O, G1, ρ1, _, _, Φ, by omega, R1, q1, fun o1 ρ2 G2 H2 l2 R2 q2 => ⟨O, G2, ρ2, _, _, Φ, by omega, R2, q2, fun o2 ρ3 G3 H3 l3 R3 q3 => by
      have rx3 := Rp.mono (l2.trans l3) x v rx
      have l := (l1.trans l2).trans l3
      cases x with
      | list ds =>
        simp only [Rp] at rx3
        obtain ⟨p, xs, rfl, hp, r⟩ := rx3
        refine .inl ⟨p, xs, rfl, SqL.of (R3.hs.gh _ _ hp), fun p2 h2 => ?_⟩
        obtain ⟨l4, R4⟩ := R3.newfz (o := .lst (cutV xs o1 o2)) h2
        refine pe _ ρ3 _ _ _ (l.trans l4) (R4.up (by omega)) ?_ q3
        simp only [Rp]
        exact ⟨p2, _, rfl, upd_same, RpAll.mono l4 _ _ (r.cut o1 o2)⟩
      | str s =>
        simp only [Rp] at rx3
        exact .inr ⟨s, rx3, q3.1, pe _ ρ3 _ G3 H3 l (R3.up (by omega)) (by simp only [Rp]) q3.2⟩
      | _ => exact q3.elim, ((px.le l1).le l2).dn (by omega)⟩, (px.le l1).dn (by omega)⟩, px.dn (by omega)⟩⟩
theorem do_sl (ha : DE X A W ca a da) (hl : DP X A W cl lo dl) (hh : DP X A W ch hi dh) : DO X A W (ca + cl + ch) (.Subscript a (.Slice lo hi none p2) pos) (oSl da dl dh) :=
  ⟨PE.weak (pe_slice sl_list ha.pe hl.po hh.po) fun σ H Q ⟨O, G, ρ, t, Ψ, Φ, le, R, q, pe, px⟩ => ⟨O, G, ρ, t, _, Φ, by omega, R, q, fun x ρ1 v G1 H1 l1 R1 rx q1 =>
    ⟨O, G1, ρ1, _, _, Φ, by omega, R1, q1, fun o1 ρ2 G2 H2 l2 R2 q2 => ⟨O, G2, ρ2, _, _, Φ, by omega, R2, q2, fun o2 ρ3 G3 H3 l3 R3 q3 => by
      have rx3 := Rp.mono (l2.trans l3) x v rx
      have l := (l1.trans l2).trans l3
      cases x with
      | list ds =>
        simp only [Rp] at rx3
        obtain ⟨p, xs, rfl, hp, r⟩ := rx3
        refine ⟨p, xs, rfl, SqL.of (R3.hs.gh _ _ hp), fun p2 h2 => ?_⟩
        have n4 := R3.newL h2 (r.cut o1 o2)
        exact pe _ ρ3 p2 _ _ l (n4.rel.up (by omega)) (n4.up (by omega)) q3
      | _ => exact q3.elim, ((px.le l1).le l2).dn (by omega)⟩, (px.le l1).dn (by omega)⟩, px.dn (by omega)⟩⟩
/-- a[::-1] of a list -/
def oRev (da : DEx) : DOx := fun ρ Ψ Φ => da ρ (fun x ρ1 => match x with
  | .list ds => Ψ ds.reverse ρ1
  | _ => False) Φ
theorem RpAll.reverse {G : Hp} : ∀ {ds : List D} {xs : List V}, RpAll G ds xs → RpAll G ds.reverse xs.reverse
  | [], _, h => by
    simp only [RpAll] at h
    rw [h]
    exact RpAll.nil
  | d :: ds, _, h => by
    simp only [RpAll] at h
    obtain ⟨x, r, rfl, h1, h2⟩ := h
    rw [List.reverse_cons, List.reverse_cons]
    exact RpAll.append (RpAll.reverse h2) (RpAll.cons h1 RpAll.nil)
theorem do_rev {k : Nat} {p1 p2 p3 : Pos} (ha : DE X A W ca a da) : DO X A W ca (.Subscript a (.Slice none none (some (.UnaryOp .USub (.Constant (.int 1) k p1) p2)) p3) pos) (oRev da) :=
  ⟨PE.weak (pe_revL ha.pe) fun σ H Q ⟨O, G, ρ, t, Ψ, Φ, le, R, q, pe, px⟩ => ⟨O, G, ρ, t, _, Φ, by omega, R, q, fun x ρ1 v G1 H1 l1 R1 rx q1 => by
    cases x with
    | list ds =>
      simp only [Rp] at rx
      obtain ⟨p, xs, rfl, hp, r⟩ := rx
      refine ⟨p, xs, rfl, SqL.of (R1.hs.gh _ _ hp), fun p2 h2 => ?_⟩
      have n4 := R1.newL h2 r.reverse
      exact pe _ ρ1 p2 _ _ l1 (n4.rel.up (by omega)) (n4.up (by omega)) q1
    | _ => exact q1.elim, px.dn (by omega)⟩⟩

/-! ### lists together -/
def gCat : GO2 := fun x y κ => match x, y with
  | .list ds, .list es => ds.length + es.length ≤ sizeLine ∧ κ (ds ++ es)
  | _, _ => False
theorem snd_cat : SndO2 X A rCat gCat := fun O G ρ t σ H x y v u Q κ R rx ry q k => by
  cases x <;> cases y <;> simp only [gCat] at q
  simp only [Rp] at rx ry
  obtain ⟨p, xs, rfl, hp, r⟩ := rx
  obtain ⟨p', ys, rfl, hp', r'⟩ := ry
  refine ⟨p, p', xs, ys, rfl, rfl, R.hs.gh _ _ hp, R.hs.gh _ _ hp', by rw [RpAll.length r, RpAll.length r']; exact q.1, fun p2 h2 => ?_⟩
  have n4 := R.newL h2 (RpAll.append r r')
  exact k _ p2 G _ (Le.refl G) (n4.rel.up (by omega)) (n4.up (by omega)) q.2
theorem do_cat (ha : DE X A W ca a da) (hb : DE X A W cb b db) : DO X A W (ca + cb) (.BinOp a .Add b pos) (oOp2 gCat da db) := do_bin op_cat snd_cat ha hb
def gRep : GO2 := fun x y κ => match x, y with
  | .list ds, .int k => 0 ≤ k ∧ k < 2 ^ 63 ∧ ds.length * k.toNat ≤ sizeLine ∧ κ (List.replicate k.toNat ds).flatten
  | _, _ => False
theorem RpAll.flat {G : Hp} {ds : List D} {xs : List V} (r : RpAll G ds xs) : ∀ n, RpAll G (List.replicate n ds).flatten (List.replicate n xs).flatten
  | 0 => RpAll.nil
  | n + 1 => by
    rw [List.replicate_succ, List.replicate_succ, List.flatten_cons, List.flatten_cons]
    exact RpAll.append r (RpAll.flat r n)
theorem snd_rep : SndO2 X A rRep gRep := fun O G ρ t σ H x y v u Q κ R rx ry q k => by
  cases x <;> cases y <;> simp only [gRep] at q
  rename_i ds0 k0
  simp only [Rp] at rx ry
  obtain ⟨p, xs, rfl, hp, r⟩ := rx
  subst ry
  obtain ⟨q1, q2, q3, q⟩ := q
  refine ⟨p, _, xs, rfl, rfl, R.hs.gh _ _ hp, by omega, q2, by rw [RpAll.length r]; exact q3, fun p2 h2 => ?_⟩
  have n4 := R.newL h2 (r.flat k0.toNat)
  exact k _ p2 G _ (Le.refl G) (n4.rel.up (by omega)) (n4.up (by omega)) q
theorem do_rep (ha : DE X A W ca a da) (hb : DE X A W cb b db) : DO X A W (ca + cb) (.BinOp a .Mult b pos) (oOp2 gRep da db) := do_bin op_rep snd_rep ha hb

/-! ### argument lists -/
def aNil : DAx := fun ρ Ψ _ => Ψ [] ρ
def aCons (d : DEx) (r : DAx) : DAx := fun ρ Ψ Φ => d ρ (fun x ρ1 => r ρ1 (fun es ρ2 => Ψ (.fz x :: es) ρ2) Φ) Φ
/-- the ambient's object, the law's list -/
def aDk (i : Nat) (r : DAx) : DAx := fun ρ Ψ Φ => match atS ρ i with
  | .dk => r ρ (fun es ρ2 => Ψ (.dk :: es) ρ2) Φ
  | .sc ns => r ρ (fun es ρ2 => Ψ (.sc ns :: es) ρ2) Φ
  | _ => False
theorem ArgAt.mono {K : PySem.W.Frag} {G G' : Hp} (l : Le G G') : ∀ {e : Ent} {v : V}, ArgAt K A G e v → ArgAt K A G' e v
  | .fz d, v, h => Rp.mono l d v h
  | .dk, _, h => h
  | .sc _, _, h => by
    obtain ⟨a, e, s⟩ := h
    exact ⟨a, e, l.seq s⟩
  | .un, _, h => h.elim
  | .ow _, _, h => h.elim
  | .od _, _, h => h.elim
  | .pv _, _, h => h.elim
theorem ArgsAt.cons {K : PySem.W.Frag} {G : Hp} {e : Ent} {es : List Ent} {v : V} {vs : List V} (h : ArgAt K A G e v) (t : ArgsAt K A G es vs) : ArgsAt K A G (e :: es) (v :: vs) := ⟨v, vs, rfl, h, t⟩
theorem da_nil : DA X A W 0 [] aNil := ⟨PA.weak pa_nil fun σ H Q ⟨O, G, ρ, t, Ψ, Φ, le, R, q, pa, px⟩ => pa [] ρ [] G H (Le.refl G) (R.up (by omega)) rfl q⟩
variable {es : List Expr} {dr : DAx}
theorem da_cons (ha : DE X A W ca a da) (hr : DA X A W cr es dr) (hs : starEach (a :: es) X.env = (false, eval a X.env) :: starEach es X.env := by rfl) : DA X A W (ca + cr) (a :: es) (aCons da dr) :=
  ⟨PA.weak (pa_cons ha.pe hr.pa hs) fun σ H Q ⟨O, G, ρ, t, Ψ, Φ, le, R, q, pa, px⟩ => ⟨O, G, ρ, t, _, Φ, by omega, R, q, fun x ρ1 v G1 H1 l1 R1 rx q1 =>
    ⟨O, G1, ρ1, _, _, Φ, by omega, R1, q1, fun es ρ2 vs G2 H2 l2 R2 as q2 => pa _ ρ2 (v :: vs) G2 H2 (l1.trans l2) (R2.up (by omega)) (ArgsAt.cons (e := .fz x) (Rp.mono l2 x v rx) as) q2, (px.le l1).dn (by omega)⟩, px.dn (by omega)⟩⟩
theorem da_dk (i : Nat) {x : Str} {p : Pos} (hr : DA X A W cr es dr) (hs : starEach (.Name x p :: es) X.env = (false, eval (.Name x p) X.env) :: starEach es X.env := by rfl) (hN : X.N[i]? = some x := by rfl)
    (hv : Vis X.env.scope x := by first | exact Or.inl rfl | exact Or.inr (Or.inl rfl) | exact Or.inr (Or.inr rfl)) (hd : (x == ("__debug__" : Str)) = false := by decide) (hcd : (x == ("__classdict__" : Str)) = false := by decide) : DA X A W cr (.Name x p :: es) (aDk i dr) :=
  ⟨PA.weak (pa_cons (pe_var hN hv hd hcd) hr.pa hs) fun σ H Q ⟨O, G, ρ, t, Ψ, Φ, le, R, q, pa, px⟩ => by
    unfold aDk at q
    cases e : atS ρ i with
    | dk =>
      rw [e] at q
      obtain ⟨ad, h1, h2⟩ := R.dkAt (atS_get e (fun z => nomatch z))
      exact ⟨_, h1, O, G, ρ, _, _, Φ, by omega, R, q, fun es ρ2 vs G2 H2 l2 R2 as q2 => pa _ ρ2 (_ :: vs) G2 H2 l2 (R2.up (by omega)) (ArgsAt.cons (e := .dk) ⟨ad, rfl, h2⟩ as) q2, px.dn (by omega)⟩
    | sc ns =>
      rw [e] at q
      obtain ⟨ad, h1, h2⟩ := R.scAt (atS_get e (fun z => nomatch z))
      exact ⟨_, h1, O, G, ρ, _, _, Φ, by omega, R, q, fun es ρ2 vs G2 H2 l2 R2 as q2 => pa _ ρ2 (_ :: vs) G2 H2 l2 (R2.up (by omega)) (ArgsAt.cons (e := .sc ns) ⟨ad, rfl, l2.seq h2⟩ as) q2, px.dn (by omega)⟩
    | _ =>
      rw [e] at q
      exact q.elim⟩
/-- the data of an argument list (no ambient in it) -/
def dataOf : List Ent → Option (List D)
  | [] => some []
  | .fz d :: r => (dataOf r).map (d :: ·)
  | _ :: _ => none
theorem argsAt_data {K : PySem.W.Frag} {G : Hp} : ∀ {es : List Ent} {ds : List D} {vs : List V}, dataOf es = some ds → ArgsAt K A G es vs → RpAll G ds vs
  | [], ds, vs, h, q => by
    cases h
    rw [show vs = [] from q]
    exact RpAll.nil
  | .fz d :: r, ds, vs, h, q => by
    obtain ⟨v, t, rfl, h1, h2⟩ := q
    simp only [dataOf] at h
    cases e : dataOf r with
    | none =>
      rw [e] at h
      cases h
    | some l =>
      rw [e] at h
      cases h
      exact RpAll.cons h1 (argsAt_data e h2)
  | .un :: _, _, _, h, _ => by cases h
  | .ow _ :: _, _, _, h, _ => by cases h
  | .od _ :: _, _, _, h, _ => by cases h
  | .dk :: _, _, _, h, _ => by cases h
  | .sc _ :: _, _, _, h, _ => by cases h
  | .pv _ :: _, _, _, h, _ => by cases h
/-! ### displays -/
def oLst (d : DAx) : DOx := fun ρ Ψ Φ => d ρ (fun es ρ1 => match dataOf es with
  | some ds => ds.length ≤ sizeLine ∧ Ψ ds ρ1
  | none => False) Φ
def dTup (d : DAx) : DEx := fun ρ Ψ Φ => d ρ (fun es ρ1 => match dataOf es with
  | some ds => ds.length ≤ sizeLine ∧ Ψ (.tuple ds) ρ1
  | none => False) Φ
theorem do_lst (h : DA X A W c0 es dr) : DO X A W c0 (.List es pos) (oLst dr) :=
  ⟨PE.weak (pe_lst h.pa) fun σ H Q ⟨O, G, ρ, t, Ψ, Φ, le, R, q, pe, px⟩ => ⟨O, G, ρ, t, _, Φ, by omega, R, q, fun es ρ1 vs G1 H1 l1 R1 as q1 => by
    dsimp only at q1
    cases e : dataOf es with
    | none =>
      rw [e] at q1
      exact q1.elim
    | some ds =>
      rw [e] at q1
      have r := argsAt_data e as
      refine ⟨by rw [RpAll.length r]; exact q1.1, fun p hp => ?_⟩
      have n4 := R1.newL hp r
      exact pe _ ρ1 p _ _ l1 (n4.rel.up (by omega)) (n4.up (by omega)) q1.2, px.dn (by omega)⟩⟩
theorem de_tup {x1} (h : DA X A W c0 es dr) : DE X A W c0 (.Tuple es x1 pos) (dTup dr) :=
  ⟨PE.weak (pe_tup h.pa) fun σ H Q ⟨O, G, ρ, t, Ψ, Φ, le, R, q, pe, px⟩ => ⟨O, G, ρ, t, _, Φ, by omega, R, q, fun es ρ1 vs G1 H1 l1 R1 as q1 => by
    dsimp only at q1
    cases e : dataOf es with
    | none =>
      rw [e] at q1
      exact q1.elim
    | some ds =>
      rw [e] at q1
      have r := argsAt_data e as
      refine ⟨by rw [RpAll.length r]; exact q1.1, fun p hp => ?_⟩
      obtain ⟨l4, R4⟩ := R1.newfz (o := .tup vs) hp
      refine pe _ ρ1 _ _ _ (l1.trans l4) (R4.up (by omega)) ?_ q1.2
      simp only [Rp]
      exact ⟨p, vs, rfl, upd_same, RpAll.mono l4 _ _ r⟩, px.dn (by omega)⟩⟩
end
end TM
namespace TM
open L2 PySem.Spec PySem PyProof.Rows

/-! ### what a def promises -/
/-- what comes back: data, a new list of the caller's own -/
def RetAt (A : Amb) (O G H : Hp) : Ent → V → Prop
  | .fz d, v => Rp G d v
  | .ow ds, v => ∃ a xs, v = .ref a ∧ H a = some (.lst xs) ∧ RpAll G ds xs ∧ G a = none ∧ O a = none ∧ ¬ A.fp H a
  | .od kvs, v => ∃ a ps, v = .ref a ∧ H a = some (.dK ps) ∧ RpKv G kvs ps ∧ G a = none ∧ O a = none ∧ ¬ A.fp H a
  | .pv d, v => ∃ P : Hp, Rp P d v ∧ Le P H ∧ ∀ b o, P b = some o → G b = none ∧ O b = none ∧ ¬ A.fp H b
  | _, _ => False
abbrev DSp := List Ent → (Ent → Prop) → (Str → Option D → Prop) → Prop
def liftSp (K : PySem.W.Frag) (A : Amb) (c : Nat) (sp : DSp) : Sp := fun vs H Q E => ∃ O G es t Ψ Φ, t + c ≤ TMX ∧ Hs A t O G H ∧ ArgsAt K A G es vs ∧ sp es Ψ Φ ∧
  (∀ r v G' H', Le G G' → Hs A (t + c) O G' H' → RetAt A O G' H' r v → Ψ r → Q v H') ∧
  (∀ cl p G' H' cv dd, Le G G' → Hs A (t + c) O G' H' → XAt K G' H' cl p cv dd → Φ cl p → E cv dd H')
theorem ArgsAt.length {K : PySem.W.Frag} {A : Amb} {G : Hp} : ∀ {es : List Ent} {vs : List V}, ArgsAt K A G es vs → vs.length = es.length
  | [], vs, h => by rw [show vs = [] from h]; rfl
  | e :: es, vs, h => by
    obtain ⟨v, r, rfl, _, t⟩ := h
    rw [List.length_cons, List.length_cons, ArgsAt.length t]

open Classical in
/-- what a callee must leave: what others own, and the caller's own -/
noncomputable def prot (F : Nat → Hp) (H O : Hp) : Hp := fun b => if ∃ i u, F i b = some u then H b else O b
section
variable {K : PySem.W.Frag} {A : Amb} {t : Nat} {O G G' H H' : Hp} {ρ : Sl} {σ : L2.St} {F : Nat → Hp}
theorem prot_own {i : Nat} {b : Addr} {u : HO} (h : F i b = some u) : prot F H O b = H b := by
  unfold prot
  rw [if_pos ⟨i, u, h⟩]
theorem prot_le (w : Own A O G H F) : Le O (prot F H O) := fun b o e => by
  unfold prot
  split
  · rename_i h
    obtain ⟨i, u, h⟩ := h
    rw [w.o i b u h] at e
    cases e
  · exact e
/-- around a call: what the callee must leave stands in O'; behind it all is as it was -/
theorem Rel.frame (R : Rel K A t O G ρ σ H) : ∃ O', Le O O' ∧ Hs A t O' G H ∧ (∀ t' G' H', Le G G' → Hs A t' O' G' H' → Rel K A t' O G' ρ σ H') ∧
    (∀ t' a o G' H', Le G G' → Hs A t' O' G' H' → H' a = some o → G' a = none → O' a = none → ¬ A.fp H' a → O a = none ∧ Rel K A t' (L2.upd O a o) G' ρ σ H') := by
  obtain ⟨F, w, en⟩ := R.ex
  have lo := prot_le w
  have nlo : ∀ b, prot F H O b = none → O b = none := fun b h => by
    cases q : O b with
    | none => rfl
    | some o =>
      rw [lo b o q] at h
      cases h
  have back : ∀ t' G' H', Le G G' → Hs A t' (prot F H O) G' H' → Hs A t' O G' H' ∧ Own A O G' H' F ∧ Ents K A G' F ρ σ := fun t' G' H' l h => by
    have at_ : ∀ i b u, F i b = some u → prot F H O b = some u := fun i b u q => (prot_own q).trans (w.le i b u q)
    refine ⟨⟨h.gh, fun b o e => h.oh b o (lo b o e), fun b o e => h.go b o (lo b o e), h.at_, fun b hb => ⟨(h.af b hb).1, nlo b (h.af b hb).2⟩⟩, ⟨fun i b u q => h.oh b u (at_ i b u q), fun i b u q => h.go b u (at_ i b u q), w.o, fun i b u q z => ?_, w.d⟩,
      fun i e he => EntAt.mono l (en i e he) fun b o q => h.go b o (at_ i b o q)⟩
    have := (h.af b z).2
    rw [at_ i b u q] at this
    cases this
  refine ⟨prot F H O, lo, ⟨R.hs.gh, fun b o e => ?_, fun b o e => ?_, R.hs.at_, fun b hb => ⟨(R.hs.af b hb).1, ?_⟩⟩, fun t' G' H' l h => ?_, fun t' a o0 G' H' l h e1 e3 e4 e5 => ?_⟩
  · unfold prot at e
    split at e
    · exact e
    · exact R.hs.oh b o e
  · unfold prot at e
    split at e
    · rename_i z
      obtain ⟨i, u, z⟩ := z
      exact w.g i b u z
    · exact R.hs.go b o e
  · unfold prot
    split
    · rename_i z
      obtain ⟨i, u, z⟩ := z
      exact absurd hb (w.f i b u z)
    · exact (R.hs.af b hb).2
  · obtain ⟨h1, h2, h3⟩ := back t' G' H' l h
    exact ⟨h1, R.ln, F, h2, h3⟩
  · obtain ⟨h1, h2, h3⟩ := back t' G' H' l h
    have hO := nlo a e4
    have nf : ∀ i b u, F i b = some u → b ≠ a := fun i b u q z => by
      subst z
      rw [prot_own q, w.le i b u q] at e4
      cases e4
    refine ⟨hO, ⟨h1.gh, fun b x e => ?_, fun b x e => ?_, h1.at_, fun b hb => ⟨(h1.af b hb).1, ?_⟩⟩, R.ln, F, ⟨h2.le, h2.g, fun i b u q => ?_, h2.f, h2.d⟩, h3⟩
    · by_cases hb : b = a
      · subst hb
        rw [upd_same] at e
        cases e
        exact e1
      · rw [upd_ne hb] at e
        exact h1.oh b x e
    · by_cases hb : b = a
      · subst hb
        exact e3
      · rw [upd_ne hb] at e
        exact h1.go b x e
    · have ne : b ≠ a := by
        rintro rfl
        exact e5 hb
      rw [upd_ne ne]
      exact (h1.af b hb).2
    · rw [upd_ne (nf i b u q)]
      exact w.o i b u q
/-- O and, where it holds nothing, P -/
theorem un_le {G P : Hp} : Le G (un G P) := fun b o e => by
  unfold un
  rw [e]
theorem un_at {G P : Hp} {b : Addr} {o : HO} (h : G b = none) (e : P b = some o) : un G P b = some o := by
  unfold un
  rw [h]
  exact e
theorem un_or {G P : Hp} {b : Addr} {o : HO} (e : un G P b = some o) : G b = some o ∨ (G b = none ∧ P b = some o) := by
  unfold un at e
  cases q : G b with
  | none =>
    rw [q] at e
    exact .inr ⟨rfl, e⟩
  | some u =>
    rw [q] at e
    exact .inl e
theorem un_none {G P : Hp} {b : Addr} (e : un G P b = none) : G b = none ∧ P b = none := by
  unfold un at e
  cases q : G b with
  | none =>
    rw [q] at e
    exact ⟨rfl, e⟩
  | some u =>
    rw [q] at e
    cases e
/-- new things that are nobody's stand with what others own -/
theorem Rel.onP (R : Rel K A t O G ρ σ H) {P : Hp} (hP : Le P H) (hn : ∀ b o, P b = some o → G b = none ∧ O b = none ∧ ¬ A.fp H b) (hF : ∀ F, Own A O G H F → Ents K A G F ρ σ → ∀ i b u, F i b = some u → P b = none) : Rel K A t (un O P) G ρ σ H := by
  obtain ⟨F, w, en⟩ := R.ex
  refine ⟨⟨R.hs.gh, fun b x e => ?_, fun b x e => ?_, R.hs.at_, fun b hb => ⟨(R.hs.af b hb).1, ?_⟩⟩, R.ln, F, ⟨w.le, w.g, fun i b u q => ?_, w.f, w.d⟩, en⟩
  · rcases un_or e with e | ⟨_, e⟩
    · exact R.hs.oh b x e
    · exact hP b x e
  · rcases un_or e with e | ⟨_, e⟩
    · exact R.hs.go b x e
    · exact (hn b x e).1
  · cases q : un O P b with
    | none => rfl
    | some x =>
      rcases un_or q with e | ⟨_, e⟩
      · have := (R.hs.af b hb).2
        rw [e] at this
        cases this
      · exact absurd hb (hn b x e).2.2
  · cases z : un O P b with
    | none => rfl
    | some x =>
      rcases un_or z with e | ⟨_, e⟩
      · have := w.o i b u q
        rw [e] at this
        cases this
      · have := hF F w en i b u q
        rw [e] at this
        cases this
/-- behind a call: what the callee gives, apart from all else -/
theorem Rel.frameP (R : Rel K A t O G ρ σ H) : ∃ O', Le O O' ∧ Hs A t O' G H ∧ (∀ t' G' H', Le G G' → Hs A t' O' G' H' → Rel K A t' O G' ρ σ H') ∧
    (∀ t' a o G' H', Le G G' → Hs A t' O' G' H' → H' a = some o → G' a = none → O' a = none → ¬ A.fp H' a → O a = none ∧ Rel K A t' (L2.upd O a o) G' ρ σ H') ∧
    (∀ t' P G' H', Le G G' → Hs A t' O' G' H' → Le P H' → (∀ b o, P b = some o → G' b = none ∧ O' b = none ∧ ¬ A.fp H' b) → (∀ b o, P b = some o → O b = none) ∧ Rel K A t' (un O P) G' ρ σ H') := by
  obtain ⟨F, w, en⟩ := R.ex
  have lo := prot_le w
  have nlo : ∀ b, prot F H O b = none → O b = none := fun b h => by
    cases q : O b with
    | none => rfl
    | some o =>
      rw [lo b o q] at h
      cases h
  have at_ : ∀ i b u, F i b = some u → prot F H O b = some u := fun i b u q => (prot_own q).trans (w.le i b u q)
  have back : ∀ t' G' H', Le G G' → Hs A t' (prot F H O) G' H' → Hs A t' O G' H' ∧ Own A O G' H' F ∧ Ents K A G' F ρ σ := fun t' G' H' l h => by
    refine ⟨⟨h.gh, fun b o e => h.oh b o (lo b o e), fun b o e => h.go b o (lo b o e), h.at_, fun b hb => ⟨(h.af b hb).1, nlo b (h.af b hb).2⟩⟩, ⟨fun i b u q => h.oh b u (at_ i b u q), fun i b u q => h.go b u (at_ i b u q), w.o, fun i b u q z => ?_, w.d⟩,
      fun i e he => EntAt.mono l (en i e he) fun b o q => h.go b o (at_ i b o q)⟩
    have := (h.af b z).2
    rw [at_ i b u q] at this
    cases this
  have hs' : Hs A t (prot F H O) G H := by
    refine ⟨R.hs.gh, fun b o e => ?_, fun b o e => ?_, R.hs.at_, fun b hb => ⟨(R.hs.af b hb).1, ?_⟩⟩
    · unfold prot at e
      split at e
      · exact e
      · exact R.hs.oh b o e
    · unfold prot at e
      split at e
      · rename_i z
        obtain ⟨i, u, z⟩ := z
        exact w.g i b u z
      · exact R.hs.go b o e
    · unfold prot
      split
      · rename_i z
        obtain ⟨i, u, z⟩ := z
        exact absurd hb (w.f i b u z)
      · exact (R.hs.af b hb).2
  have nf : ∀ {a : Addr}, prot F H O a = none → ∀ i b u, F i b = some u → b ≠ a := fun e4 i b u q z => by
    subst z
    rw [at_ i b u q] at e4
    cases e4
  refine ⟨prot F H O, lo, hs', fun t' G' H' l h => ?_, fun t' a o0 G' H' l h e1 e3 e4 e5 => ?_, fun t' P G' H' l h hP hn => ?_⟩
  · obtain ⟨h1, h2, h3⟩ := back t' G' H' l h
    exact ⟨h1, R.ln, F, h2, h3⟩
  · obtain ⟨h1, h2, h3⟩ := back t' G' H' l h
    have hO := nlo a e4
    refine ⟨hO, ⟨h1.gh, fun b x e => ?_, fun b x e => ?_, h1.at_, fun b hb => ⟨(h1.af b hb).1, ?_⟩⟩, R.ln, F, ⟨h2.le, h2.g, fun i b u q => ?_, h2.f, h2.d⟩, h3⟩
    · by_cases hb : b = a
      · subst hb
        rw [upd_same] at e
        cases e
        exact e1
      · rw [upd_ne hb] at e
        exact h1.oh b x e
    · by_cases hb : b = a
      · subst hb
        exact e3
      · rw [upd_ne hb] at e
        exact h1.go b x e
    · have ne : b ≠ a := by
        rintro rfl
        exact e5 hb
      rw [upd_ne ne]
      exact (h1.af b hb).2
    · rw [upd_ne (nf e4 i b u q)]
      exact w.o i b u q
  · obtain ⟨h1, h2, h3⟩ := back t' G' H' l h
    refine ⟨fun b o e => nlo b (hn b o e).2.1, ?_⟩
    refine ⟨⟨h1.gh, fun b x e => ?_, fun b x e => ?_, h1.at_, fun b hb => ⟨(h1.af b hb).1, ?_⟩⟩, R.ln, F, ⟨h2.le, h2.g, fun i b u q => ?_, h2.f, h2.d⟩, h3⟩
    · rcases un_or e with e | ⟨_, e⟩
      · exact h1.oh b x e
      · exact hP b x e
    · rcases un_or e with e | ⟨_, e⟩
      · exact h1.go b x e
      · exact (hn b x e).1
    · cases q : un O P b with
      | none => rfl
      | some x =>
        rcases un_or q with e | ⟨_, e⟩
        · have := (h1.af b hb).2
          rw [e] at this
          cases this
        · exact absurd hb (hn b x e).2.2
    · cases z : un O P b with
      | none => rfl
      | some x =>
        rcases un_or z with e | ⟨_, e⟩
        · have := w.o i b u q
          rw [e] at this
          cases this
        · exact absurd rfl (nf (hn b x e).2.1 i b u q)
/-- what stands with others is everybody's from now on -/
theorem Rel.fzP {P O3 : Hp} (R : Rel K A t O3 G ρ σ H) (low : Le O O3) (hP : Le P O3) (hd : ∀ b o, P b = some o → O b = none) : Le G (un G P) ∧ Le P (un G P) ∧ Rel K A t O (un G P) ρ σ H := by
  have nl : ∀ b, O3 b = none → O b = none := fun b h => by
    cases q : O b with
    | none => rfl
    | some x =>
      rw [low b x q] at h
      cases h
  have gP : ∀ b o, P b = some o → G b = none := fun b o e => R.hs.go b o (hP b o e)
  obtain ⟨F, w, en⟩ := R.ex
  have ng : ∀ i b u, F i b = some u → un G P b = none := fun i b u q => by
    cases z : un G P b with
    | none => rfl
    | some x =>
      rcases un_or z with e | ⟨_, e⟩
      · have := w.g i b u q
        rw [e] at this
        cases this
      · have := w.o i b u q
        rw [hP b x e] at this
        cases this
  refine ⟨un_le, fun b o e => un_at (gP b o e) e, ⟨fun b x e => ?_, fun b x e => R.hs.oh b x (low b x e), fun b x e => ?_, R.hs.at_, fun b hb => ⟨?_, nl b (R.hs.af b hb).2⟩⟩, R.ln, F, ⟨w.le, ng, fun i b u q => nl b (w.o i b u q), w.f, w.d⟩, fun i e he => EntAt.mono un_le (en i e he) (ng i)⟩
  · rcases un_or e with e | ⟨_, e⟩
    · exact R.hs.gh b x e
    · exact R.hs.oh b x (hP b x e)
  · cases z : un G P b with
    | none => rfl
    | some y =>
      rcases un_or z with q | ⟨_, q⟩
      · have := R.hs.go b x (low b x e)
        rw [q] at this
        cases this
      · have := hd b y q
        rw [e] at this
        cases this
  · cases z : un G P b with
    | none => rfl
    | some y =>
      rcases un_or z with q | ⟨_, q⟩
      · have := (R.hs.af b hb).1
        rw [q] at this
        cases this
      · have := (R.hs.af b hb).2
        rw [hP b y q] at this
        cases this
end
def dCall (sp : DSp) (d : DAx) : DEx := fun ρ Ψ Φ => d ρ (fun es ρ1 => sp es (fun r => match r with
  | .fz x => Ψ x ρ1
  | .ow ds => Ψ (.list ds) ρ1
  | .od kvs => Ψ (.dict kvs) ρ1
  | .pv x => Ψ x ρ1
  | _ => False) fun c p => Φ c p ρ1) Φ
def oCall (sp : DSp) (d : DAx) : DOx := fun ρ Ψ Φ => d ρ (fun es ρ1 => sp es (fun r => match r with
  | .ow ds => Ψ ds ρ1
  | _ => False) fun c p => Φ c p ρ1) Φ
section
variable {X : Cx} {A : Amb} {W : WX} {ca cf : Nat} {a : Expr} {es : List Expr} {dr : DAx} {pos p : Pos} {k : Nat} {f : Addr} {fd : FuncData} {ps : List Str} {sp : DSp} {x : Str}
theorem lift_call {σ : L2.St} {H : Hp} {Q : VK} (h : liftE X.K A W (ca + cf) (dCall sp dr) σ H Q) : tLk (tCallS (liftSp X.K A cf sp) (WE W) (liftA X.K A W ca dr)) σ H Q := by
  obtain ⟨O, G, ρ, t, Ψ, Φ, le, R, q, pe, px⟩ := h
  refine ⟨O, G, ρ, t, _, Φ, by omega, R, q, fun es ρ1 vs G1 H1 l1 R1 as q1 => ?_, px.dn (by omega)⟩
  obtain ⟨O', _, hs', fb, fn, fp⟩ := R1.frameP
  refine ⟨O', G1, es, _, _, _, by omega, hs', as, q1, fun r v G2 H2 l2 h2 ra k2 => ?_, fun c pl G2 H2 cv dd l2 h2 xa k2 => px c pl ρ1 G2 H2 cv dd (l1.trans l2) ((fb _ G2 H2 l2 h2).up (by omega)) xa k2⟩
  have R2 := fb _ G2 H2 l2 h2
  cases r with
  | fz d => exact .inl (pe d ρ1 v G2 H2 (l1.trans l2) (R2.up (by omega)) ra k2)
  | ow ds =>
    obtain ⟨a, xs, rfl, e1, e2, e3, e4, e5⟩ := ra
    obtain ⟨hO, R2'⟩ := fn _ a _ G2 H2 l2 h2 e1 e3 e4 e5
    obtain ⟨G3, l3, R3, r3⟩ := NewL.fz (σ := σ) ⟨xs, hO, e2, R2'⟩
    exact .inl (pe _ ρ1 _ G3 H2 ((l1.trans l2).trans l3) (R3.up (by omega)) r3 k2)
  | od kvs =>
    obtain ⟨a, ps, rfl, e1, e2, e3, e4, e5⟩ := ra
    obtain ⟨hO, R2'⟩ := fn _ a _ G2 H2 l2 h2 e1 e3 e4 e5
    refine .inr ⟨a, _, e1, trivial, fun od => ?_⟩
    obtain ⟨G3, l3, r3, R3⟩ := R2'.lockO hO e2 od
    exact pe _ ρ1 _ G3 _ ((l1.trans l2).trans l3) (R3.up (by omega)) r3 k2
  | pv d =>
    obtain ⟨P, rp, hP, hn⟩ := ra
    obtain ⟨oP, R3⟩ := fp _ P G2 H2 l2 h2 hP hn
    obtain ⟨l3, lP, R4⟩ := R3.fzP un_le (P := P) (fun b o e => un_at (oP b o e) e) oP
    exact .inl (pe d ρ1 v _ H2 ((l1.trans l2).trans l3) (R4.up (by omega)) (Rp.mono lP d v rp) k2)
  | _ => exact k2.elim
theorem lift_ocall {σ : L2.St} {H : Hp} {Q : VK} (h : liftO X.K A W (ca + cf) (oCall sp dr) σ H Q) : tCallS (liftSp X.K A cf sp) (WE W) (liftA X.K A W ca dr) σ H Q := by
  obtain ⟨O, G, ρ, t, Ψ, Φ, le, R, q, pe, px⟩ := h
  refine ⟨O, G, ρ, t, _, Φ, by omega, R, q, fun es ρ1 vs G1 H1 l1 R1 as q1 => ?_, px.dn (by omega)⟩
  obtain ⟨O', _, hs', fb, fn⟩ := R1.frame
  refine ⟨O', G1, es, _, _, _, by omega, hs', as, q1, fun r v G2 H2 l2 h2 ra k2 => ?_, fun c pl G2 H2 cv dd l2 h2 xa k2 => px c pl ρ1 G2 H2 cv dd (l1.trans l2) ((fb _ G2 H2 l2 h2).up (by omega)) xa k2⟩
  have R2 := fb _ G2 H2 l2 h2
  cases r with
  | ow ds =>
    obtain ⟨a, xs, rfl, e1, e2, e3, e4, e5⟩ := ra
    obtain ⟨hO, R2'⟩ := fn _ a _ G2 H2 l2 h2 e1 e3 e4 e5
    exact pe _ ρ1 _ G2 H2 (l1.trans l2) (R2.up (by omega)) (NewL.up (σ := σ) ⟨xs, hO, e2, R2'⟩ (by omega)) k2
  | _ => exact k2.elim
/-- a def of the text that may be called: at most level k -/
structure Fn (X : Cx) (A : Amb) (cf k : Nat) (x : Str) (ps : List Str) (sp : DSp) : Prop where
  ex : ∃ f fd, FnOk X.prog X.w X.K X.mg X.base (L2.CX X.prog X.w) k f fd ps (liftSp X.K A cf sp) ∧ X.mg x = some (.ref f) ∧ PySem.W.keepIn X.K (.ref f) = true ∧ Binds X.K fd ps []
theorem de_call {j : Nat} (F : Fn X A cf j x ps sp) (hr : Room k X.A) (tk : Takes X W) (ha : DA X A W ca (a :: es) dr) (hg : Gl X x := by rfl) (hjk : j ≤ k := by decide) (hdb : (x == ("__debug__" : Str)) = false := by decide) (he : starEach (a :: es) X.env = (false, eval a X.env) :: starEach es X.env := by rfl)
    (hpl : (backTo pos (starEach es X.env)).any (·.1) = false := by rfl) : DE X A W (ca + cf) (.Call (.Name x p) (a :: es) [] pos) (dCall sp dr) := by
  obtain ⟨f, fd, F1, hm, hk, hb⟩ := F.ex
  exact ⟨PE.weak (pe_callS F1 (hr.mono hjk) hg hm hk hb (passAt tk) ha.pa hdb he hpl).lk fun _ _ _ => lift_call⟩
theorem do_call {j : Nat} (F : Fn X A cf j x ps sp) (hr : Room k X.A) (tk : Takes X W) (ha : DA X A W ca (a :: es) dr) (hg : Gl X x := by rfl) (hjk : j ≤ k := by decide) (hdb : (x == ("__debug__" : Str)) = false := by decide) (he : starEach (a :: es) X.env = (false, eval a X.env) :: starEach es X.env := by rfl)
    (hpl : (backTo pos (starEach es X.env)).any (·.1) = false := by rfl) : DO X A W (ca + cf) (.Call (.Name x p) (a :: es) [] pos) (oCall sp dr) := by
  obtain ⟨f, fd, F1, hm, hk, hb⟩ := F.ex
  exact ⟨PE.weak (pe_callS F1 (hr.mono hjk) hg hm hk hb (passAt tk) ha.pa hdb he hpl) fun _ _ _ => lift_ocall⟩
end

/-! ### statements -/
structure DEnds where
  nx : Sl → Prop
  rt : Ent → Prop
  bk : Sl → Prop := fun _ => False
  ct : Sl → Prop := fun _ => False
  ex : XP
abbrev DSx := Sl → DEnds → Prop
structure EndsOk (K : PySem.W.Frag) (A : Amb) (t : Nat) (O G : Hp) (W : WX) (E : DEnds) (D : Ends) : Prop where
  nx : ∀ ρ' σ' G' H', Le G G' → Rel K A t O G' ρ' σ' H' → E.nx ρ' → D.nx σ' H'
  rt : ∀ r v G' H', Le G G' → Hs A t O G' H' → RetAt A O G' H' r v → E.rt r → D.rt v H'
  bk : ∀ ρ' σ' G' H', Le G G' → Rel K A t O G' ρ' σ' H' → E.bk ρ' → D.bk σ' H'
  ct : ∀ ρ' σ' G' H', Le G G' → Rel K A t O G' ρ' σ' H' → E.ct ρ' → D.ct σ' H'
  ex : ∀ σ', PostX K A t O G σ' W E.ex
theorem EndsOk.le {K : PySem.W.Frag} {A : Amb} {t : Nat} {O G G1 : Hp} {W : WX} {E : DEnds} {D : Ends} (h : EndsOk K A t O G W E D) (l : Le G G1) : EndsOk K A t O G1 W E D :=
  ⟨fun ρ' σ' G' H' l' => h.nx ρ' σ' G' H' (l.trans l'), fun r v G' H' l' => h.rt r v G' H' (l.trans l'), fun ρ' σ' G' H' l' => h.bk ρ' σ' G' H' (l.trans l'), fun ρ' σ' G' H' l' => h.ct ρ' σ' G' H' (l.trans l'), fun σ' => (h.ex σ').le l⟩
theorem EndsOk.dn {K : PySem.W.Frag} {A : Amb} {t t' : Nat} {O G : Hp} {W : WX} {E : DEnds} {D : Ends} (h : EndsOk K A t' O G W E D) (l : t ≤ t') : EndsOk K A t O G W E D :=
  ⟨fun ρ' σ' G' H' l' R => h.nx ρ' σ' G' H' l' (R.up l), fun r v G' H' l' R => h.rt r v G' H' l' (R.up l), fun ρ' σ' G' H' l' R => h.bk ρ' σ' G' H' l' (R.up l), fun ρ' σ' G' H' l' R => h.ct ρ' σ' G' H' l' (R.up l), fun σ' => (h.ex σ').dn l⟩
def liftS (K : PySem.W.Frag) (A : Amb) (W : WX) (c : Nat) (d : DSx) : TS := fun D σ H => ∃ O G ρ t E, t + c ≤ TMX ∧ Rel K A t O G ρ σ H ∧ d ρ E ∧ EndsOk K A (t + c) O G W E D
structure DS (X : Cx) (A : Amb) (W : WX) (c : Nat) (st : Stmt) (d : DSx) : Prop where
  ps : PS X st (liftS X.K A W c d)
structure DSs (X : Cx) (A : Amb) (W : WX) (c : Nat) (st : List Stmt) (d : DSx) : Prop where
  pss : PSs X st (liftS X.K A W c d)
theorem PS.weak {X : Cx} {st : Stmt} {t t' : TS} (h : PS X st t) (w : ∀ D σ H, t' D σ H → t D σ H) : PS X st t' := ⟨fun pins s σ H D I q => h.run pins s σ H D I (w D σ H q)⟩
theorem PSs.weak {X : Cx} {st : List Stmt} {t t' : TS} (h : PSs X st t) (w : ∀ D σ H, t' D σ H → t D σ H) : PSs X st t' := ⟨fun pins s σ H D I q => h.run pins s σ H D I (w D σ H q)⟩

def sNil : DSx := fun ρ E => E.nx ρ
def sSeq (t u : DSx) : DSx := fun ρ E => t ρ { E with nx := fun ρ' => u ρ' E }
def sSet (i : Nat) (d : DEx) : DSx := fun ρ E => d ρ (fun x ρ1 => E.nx (ρ1.set i (.fz x))) E.ex
def sSetO (i : Nat) (d : DOx) : DSx := fun ρ E => d ρ (fun ds ρ1 => E.nx (ρ1.set i (.ow ds))) E.ex
def sRet (d : DEx) : DSx := fun ρ E => d ρ (fun x _ => E.rt (.fz x)) E.ex
def sRetO (d : DOx) : DSx := fun ρ E => d ρ (fun ds _ => E.rt (.ow ds)) E.ex
/-- return x, x a list of one's own -/
def sRetV (i : Nat) : DSx := fun ρ E => match atS ρ i with
  | .ow ds => E.rt (.ow ds)
  | .od kvs => E.rt (.od kvs)
  | _ => False
def sIf (t : DTx) (a b : DSx) : DSx := fun ρ E => t ρ (fun c ρ1 => if c = true then a ρ1 E else b ρ1 E) E.ex
def sExp (d : DEx) : DSx := fun ρ E => d ρ (fun _ ρ1 => E.nx ρ1) E.ex
def sNever : DSx := fun _ _ => False
section
variable {X : Cx} {A : Amb} {W : WX} {c1 c2 cc ca cb ce : Nat} {e c : Expr} {d : DEx} {o : DOx} {t : DTx} {s u : DSx} {st : Stmt} {rest as bs : List Stmt} {pos : Pos} {i : Nat} {x : Str}
theorem dss_nil : DSs X A W 0 [] sNil := ⟨PSs.weak pss_nil fun D σ H ⟨O, G, ρ, t, E, le, R, q, ok⟩ => ok.nx ρ σ G H (Le.refl G) (R.up (by omega)) q⟩
theorem dss_cons (h1 : DS X A W c1 st s) (h2 : DSs X A W c2 rest u) : DSs X A W (c1 + c2) (st :: rest) (sSeq s u) :=
  ⟨PSs.weak (pss_cons h1.ps h2.pss) fun D σ H ⟨O, G, ρ, t, E, le, R, q, ok⟩ =>
    have ok1 : EndsOk X.K A (t + c1) O G W E D := ok.dn (by omega)
    ⟨O, G, ρ, t, _, by omega, R, q, ⟨fun ρ' σ' G' H' l R' q' => ⟨O, G', ρ', _, E, by omega, R', q', (ok.le l).dn (by omega)⟩, ok1.rt, ok1.bk, ok1.ct, ok1.ex⟩⟩⟩
theorem dss_up (h : DSs X A W c1 rest u) (l : c1 ≤ c2 := by decide) : DSs X A W c2 rest u :=
  ⟨PSs.weak h.pss fun D σ H ⟨O, G, ρ, t, E, le, R, q, ok⟩ => ⟨O, G, ρ, t, E, by omega, R, q, ok.dn (by omega)⟩⟩
theorem dss_one (h1 : DS X A W c1 st s) : DSs X A W c1 [st] s := ⟨PSs.weak (pss_one h1.ps) fun D σ H h => h⟩
theorem ds_set (hN : X.N.Nodup) (hi : X.N[i]? = some x) (hx : Loc X.env.scope x) (he : DE X A W ce e d) {pos' : Pos} (hs : swapsWith e (some (.Name x pos')) pos.line X.env = pure false := by rfl)
    (hf : X.fn x = true ∨ X.env.scope.names.lookup x = some .local := by first | exact .inl rfl | exact .inr rfl | assumption) : DS X A W ce (.Assign [.Name x pos'] e pos) (sSet i d) :=
  ⟨PS.weak (ps_set hN hi hx he.pe hs hf) fun D σ H ⟨O, G, ρ, t, E, le, R, q, ok⟩ => ⟨O, G, ρ, _, _, E.ex, by omega, R, q, fun r ρ' v G' H' l R' ra k => ok.nx _ _ G' H' l (R'.setF i ra) k, (ok.ex σ).dn (by omega)⟩⟩
theorem ds_setO (hN : X.N.Nodup) (hi : X.N[i]? = some x) (hx : Loc X.env.scope x) (he : DO X A W ce e o) {pos' : Pos} (hs : swapsWith e (some (.Name x pos')) pos.line X.env = pure false := by rfl)
    (hf : X.fn x = true ∨ X.env.scope.names.lookup x = some .local := by first | exact .inl rfl | exact .inr rfl | assumption) : DS X A W ce (.Assign [.Name x pos'] e pos) (sSetO i o) :=
  ⟨PS.weak (ps_set hN hi hx he.pe hs hf) fun D σ H ⟨O, G, ρ, t, E, le, R, q, ok⟩ => ⟨O, G, ρ, _, _, E.ex, by omega, R, q, fun ds ρ' a G' H' l R' n k => ok.nx _ _ G' H' l (R'.setO i n) k, (ok.ex σ).dn (by omega)⟩⟩
theorem ds_ret (he : DE X A W ce e d) : DS X A W ce (.Return (some e) pos) (sRet d) :=
  ⟨PS.weak (ps_ret he.pe) fun D σ H ⟨O, G, ρ, t, E, le, R, q, ok⟩ => ⟨O, G, ρ, _, _, E.ex, by omega, R, q, fun r ρ' v G' H' l R' ra k => ok.rt (.fz r) v G' H' l (R'.hs.up (by omega)) ra k, (ok.ex σ).dn (by omega)⟩⟩
theorem ds_retO (he : DO X A W ce e o) : DS X A W ce (.Return (some e) pos) (sRetO o) :=
  ⟨PS.weak (ps_ret he.pe) fun D σ H ⟨O, G, ρ, t, E, le, R, q, ok⟩ => ⟨O, G, ρ, _, _, E.ex, by omega, R, q, fun ds ρ' a G' H' l R' n k => by
    obtain ⟨xs, hO, r, R2⟩ := n.ex
    obtain ⟨h1, h3, h5⟩ := R2.atO
    exact ok.rt (.ow ds) _ G' H' l (R'.hs.up (by omega)) ⟨a, xs, rfl, h1, r, h3, hO, h5⟩ k, (ok.ex σ).dn (by omega)⟩⟩
theorem ds_retV (i : Nat) {p : Pos} (hN : X.N[i]? = some x := by rfl) (hv : Vis X.env.scope x := by first | exact Or.inl rfl | exact Or.inr (Or.inl rfl) | exact Or.inr (Or.inr rfl)) (hd : (x == ("__debug__" : Str)) = false := by decide) (hcd : (x == ("__classdict__" : Str)) = false := by decide) :
    DS X A W 0 (.Return (some (.Name x p)) pos) (sRetV i) :=
  ⟨PS.weak (ps_ret (pe_var hN hv hd hcd)) fun D σ H ⟨O, G, ρ, t, E, le, R, q, ok⟩ => by
    unfold sRetV at q
    cases e : atS ρ i with
    | ow ds =>
      rw [e] at q
      obtain ⟨F, w, en⟩ := R.ex
      obtain ⟨a, xs, h1, h2, h3⟩ := en i _ (atS_get e (fun z => nomatch z))
      exact ⟨_, h1, ok.rt (.ow ds) _ G H (Le.refl G) (R.hs.up (by omega)) ⟨a, xs, rfl, w.le i _ _ h2, h3, w.g i _ _ h2, w.o i _ _ h2, w.f i _ _ h2⟩ q⟩
    | od kvs =>
      rw [e] at q
      obtain ⟨F, w, en⟩ := R.ex
      obtain ⟨a, xs, h1, h2, h3⟩ := en i _ (atS_get e (fun z => nomatch z))
      exact ⟨_, h1, ok.rt (.od kvs) _ G H (Le.refl G) (R.hs.up (by omega)) ⟨a, xs, rfl, w.le i _ _ h2, h3, w.g i _ _ h2, w.o i _ _ h2, w.f i _ _ h2⟩ q⟩
    | _ =>
      rw [e] at q
      exact q.elim⟩
theorem ds_if (hc : DT X A W cc c t) (ha : DSs X A W ca as s) (hb : DSs X A W cb bs u) : DS X A W (cc + ca + cb) (.If c as bs pos) (sIf t s u) :=
  ⟨PS.weak (ps_if hc.pt ha.pss hb.pss) fun D σ H ⟨O, G, ρ, t, E, le, R, q, ok⟩ => ⟨O, G, ρ, _, _, E.ex, by omega, R, q, fun b ρ1 G1 H1 l1 R1 q1 => by
    cases b with
    | true => exact ⟨O, G1, ρ1, _, E, by omega, R1, q1, (ok.le l1).dn (by omega)⟩
    | false => exact ⟨O, G1, ρ1, _, E, by omega, R1, q1, (ok.le l1).dn (by omega)⟩, (ok.ex σ).dn (by omega)⟩⟩
theorem ds_exp (he : DE X A W ce e d) (hs : swapsWith e none pos.line X.env = pure false := by rfl) : DS X A W ce (.Expr e pos) (sExp d) :=
  ⟨PS.weak (ps_expr he.pe hs) fun D σ H ⟨O, G, ρ, t, E, le, R, q, ok⟩ => ⟨O, G, ρ, _, _, E.ex, by omega, R, q, fun r ρ' v G' H' l R' ra k => ok.nx ρ' σ G' H' l (R'.up (by omega)) k, (ok.ex σ).dn (by omega)⟩⟩
theorem ds_never : DS X A W 0 st sNever := ⟨PS.weak ps_never fun D σ H ⟨O, G, ρ, t, E, le, R, q, ok⟩ => q⟩
end

/-! ### a def -/
theorem fn_ok {P : Program} {w : World} {K : PySem.W.Frag} {mg : Str → Option Value} {base : Heap} {A : Amb} {x qual : Str} {params : Arguments} {body : List Stmt} {scope : Scope} {dvs : List V} {kws : List (Str × V)} {f : Addr} {fd : FuncData} {N ps : List Str} {k cf : Nat} {sp : DSp} {den : DSx}
    (F : FunD K x qual params body scope dvs kws f fd) (S : FnScope N ps scope)
    (hb : ∀ (cdv : Value) (Ar : Around) (outer : List Env) (s : Shared) (H : Hp) (E : XK), Room k (Ar.deeper (envOfC qual scope s.heap.objs.size f cdv)) →
      DSs (cxOf (L2.CX P w) P w K mg base N qual scope f cdv Ar outer s H E) A (fun cls d _ H => E cls d H) cf body den)
    (rd : ∀ es Ψ Φ, sp es Ψ Φ → es.length = ps.length ∧ den (es ++ List.replicate (N.length - es.length) .un) { nx := fun _ => Ψ (.fz .none), rt := Ψ, ex := fun c p _ => Φ c p }) :
    FnOk P w K mg base (L2.CX P w) (k + 1) f fd ps (liftSp K A cf sp) := by
  refine F.ok S (fun vs H Q E h => ?_) (fun cdv Ar outer s H vs Q E hr h => ⟨_, (hb cdv Ar outer s H E hr).pss, ?_⟩)
  · obtain ⟨O, G, es, t, Ψ, Φ, le, hs, as, sp', _⟩ := h
    rw [as.length, (rd es Ψ Φ sp').1]
  · obtain ⟨O, G, es, t, Ψ, Φ, le, hs, as, sp', pr, px⟩ := h
    have hlen : vs.length = es.length := as.length
    have hget : ∀ {es : List Ent} {vs : List V} (i : Nat) (e : Ent), ArgsAt K A G es vs → es[i]? = some e → ∃ v, vs[i]? = some v ∧ ArgAt K A G e v := by
      intro es
      induction es with
      | nil => intro vs i e _ h; simp at h
      | cons e0 es ih =>
        intro vs i e h he
        obtain ⟨v, r, rfl, h1, h2⟩ := h
        cases i with
        | zero =>
          simp at he
          subst he
          exact ⟨v, rfl, h1⟩
        | succ i =>
          obtain ⟨v', e1, e2⟩ := ih i e h2 (by simpa using he)
          exact ⟨v', by simpa using e1, e2⟩
    have ent : ∀ (i : Nat) (e : Ent), (es ++ List.replicate (N.length - es.length) Ent.un)[i]? = some e → e = .un ∨ ∃ v, (L2.start N vs)[i]? = some (some v) ∧ ArgAt K A G e v := fun i e he => by
      by_cases hi : i < es.length
      · rw [List.getElem?_append_left hi] at he
        obtain ⟨v, h1, h2⟩ := hget i e as he
        refine .inr ⟨v, ?_, h2⟩
        unfold L2.start
        rw [List.getElem?_append_left (by rw [List.length_map, hlen]; exact hi), List.getElem?_map, h1]
        rfl
      · rw [List.getElem?_append_right (Nat.le_of_not_lt hi), List.getElem?_replicate] at he
        split at he
        · exact .inl (Option.some.inj he).symm
        · cases he
    refine ⟨O, G, _, _, _, le, ⟨hs, ?_, fun _ _ => none, ⟨fun i b u q => (nomatch q), fun i b u q => (nomatch q), fun i b u q => (nomatch q), fun i b u q => (nomatch q), fun i j b u _ q => (nomatch q)⟩, fun i e he => ?_⟩, (rd es Ψ Φ sp').2, ⟨fun ρ' σ' G' H' l R' q => pr (.fz .none) _ G' H' l R'.hs (by simp only [RetAt, Rp]) q, fun r v G' H' l h' ra q => pr r v G' H' l h' ra q, fun _ _ _ _ _ _ q => q.elim, fun _ _ _ _ _ _ q => q.elim,
      fun σ' c p ρ' G' H' cv dd l R' xa q => px c p G' H' cv dd l R'.hs xa q⟩⟩
    · unfold L2.start
      rw [List.length_append, List.length_append, List.length_replicate, List.length_replicate, List.length_map, hlen]
    · rcases ent i e he with rfl | ⟨v, h1, h2⟩
      · trivial
      · cases e with
        | un => trivial
        | fz d => exact ⟨v, h1, h2⟩
        | dk =>
          obtain ⟨a, e1, e2⟩ := h2
          exact ⟨a, by rw [h1, e1], e2⟩
        | sc ns =>
          obtain ⟨a, e1, e2⟩ := h2
          exact ⟨a, by rw [h1, e1], e2⟩
        | ow _ => exact h2.elim
        | od _ => exact h2.elim
        | pv _ => exact h2.elim
end TM
namespace TM
open L2 PySem.Spec PySem PyProof.Rows

/-! ### targets: a name, some names -/
inductive Tg where
  | nm (i : Nat)
  | tp (is : List Nat)
def Tg.slots : Tg → List Nat
  | .nm i => [i]
  | .tp is => is
def setAll : List Nat → List D → Sl → Option Sl
  | [], [], ρ => some ρ
  | i :: is, d :: ds, ρ => setAll is ds (ρ.set i (.fz d))
  | _, _, _ => none
def Tg.bind : Tg → D → Sl → Option Sl
  | .nm i, d, ρ => some (ρ.set i (.fz d))
  | .tp is, .tuple ds, ρ => setAll is ds ρ
  | .tp is, .list ds, ρ => none
  | _, _, _ => none
def liftG (K : PySem.W.Frag) (A : Amb) (t : Tg) : TG := fun v σ H Q => ∃ O G ρ n d ρ', Rel K A n O G ρ σ H ∧ Rp G d v ∧ t.bind d ρ = some ρ' ∧
  ∀ σ', Rel K A n O G ρ' σ' H → (∀ vs, (∀ i ∈ t.slots, i ∈ vs) → wipe σ' vs = wipe σ vs) → Q σ' H
structure DG (X : Cx) (A : Amb) (tg : Expr) (t : Tg) : Prop where
  pg : PG X tg (liftG X.K A t)
theorem PG.weak {X : Cx} {tg : Expr} {t t' : TG} (h : PG X tg t) (w : ∀ v σ H Q, t' v σ H Q → t v σ H Q) : PG X tg t' := ⟨fun pins s σ H v u Q I r q => h.run pins s σ H v u Q I r (w v σ H Q q)⟩
theorem PGs.weak {X : Cx} {tg : List Expr} {t t' : TGs} (h : PGs X tg t) (w : ∀ v σ H Q, t' v σ H Q → t v σ H Q) : PGs X tg t' := ⟨fun pins s σ H v u Q I r q => h.run pins s σ H v u Q I r (w v σ H Q q)⟩
theorem wipe_get (σ : L2.St) : ∀ (vs : List Nat) (j : Nat), (wipe σ vs)[j]? = if j ∈ vs then (σ[j]?).map (fun _ => none) else σ[j]?
  | [], j => by simp [wipe]
  | v :: vs, j => by
    unfold wipe
    by_cases h : v = j
    · subst h
      rw [List.getElem?_set]
      simp only [if_true, List.mem_cons, true_or, wipe_length]
      by_cases hl : v < σ.length
      · simp [hl]
      · simp [hl, List.getElem?_eq_none (Nat.le_of_not_lt hl)]
    · rw [List.getElem?_set_ne h, wipe_get σ vs j]
      have e : (j ∈ v :: vs) = (j ∈ vs) := by
        rw [List.mem_cons, eq_iff_iff]
        exact ⟨fun q => q.elim (fun z => absurd z.symm h) id, .inr⟩
      simp only [e]
theorem wipe_set (σ : L2.St) {vs : List Nat} {i : Nat} (v : Option V) (h : i ∈ vs) : wipe (σ.set i v) vs = wipe σ vs := by
  apply List.ext_getElem?
  intro j
  rw [wipe_get, wipe_get]
  by_cases hj : j ∈ vs
  · rw [if_pos hj, if_pos hj]
    by_cases e : i = j
    · subst e
      rw [List.getElem?_set]
      simp only [if_true]
      by_cases hl : i < σ.length
      · simp [hl]
      · simp [hl, List.getElem?_eq_none (Nat.le_of_not_lt hl)]
    · rw [List.getElem?_set_ne e]
  · rw [if_neg hj, if_neg hj, List.getElem?_set_ne (fun e => hj (by rw [← e]; exact h))]
section
variable {X : Cx} {A : Amb} {W : WX} {x : Str} {i : Nat} {pos : Pos}
theorem dg_nm (hN : X.N.Nodup) (hi : X.N[i]? = some x) (hx : Loc X.env.scope x := by first | exact .inl rfl | exact .inr rfl) (hf : X.fn x = true ∨ X.env.scope.names.lookup x = some .local := by first | exact .inl rfl | exact .inr rfl | assumption) : DG X A (.Name x pos) (.nm i) :=
  ⟨PG.weak (pg_name hN hi hx hf) fun v σ H Q ⟨O, G, ρ, n, d, ρ', R, r, b, k⟩ => by
    cases b
    refine k _ (R.setF i r) fun vs h => wipe_set σ _ (h i (List.mem_singleton.mpr rfl))⟩
def liftGs (K : PySem.W.Frag) (A : Amb) (is : List Nat) : TGs := fun vs σ H Q => ∃ O G ρ n ds ρ', Rel K A n O G ρ σ H ∧ RpAll G ds vs ∧ setAll is ds ρ = some ρ' ∧
  ∀ σ', Rel K A n O G ρ' σ' H → (∀ ws, (∀ i ∈ is, i ∈ ws) → wipe σ' ws = wipe σ ws) → Q σ' H
/-- the targets of a tuple -/
structure DGs (X : Cx) (A : Amb) (tgs : List Expr) (is : List Nat) : Prop where
  pgs : PGs X tgs (liftGs X.K A is)
theorem dgs_nil : DGs X A [] [] :=
  ⟨PGs.weak pgs_nil fun vs σ H Q ⟨O, G, ρ, n, ds, ρ', R, r, b, k⟩ => by
    cases ds with
    | nil =>
      simp only [RpAll] at r
      cases b
      exact ⟨r, k σ R fun _ _ => rfl⟩
    | cons _ _ => cases b⟩
theorem dgs_cons {e : Expr} {es : List Expr} {is : List Nat} (h1 : DG X A e (.nm i)) (h2 : DGs X A es is) (hs : (assignEach (e :: es) X.env).map (·.2) = assign e X.env :: (assignEach es X.env).map (·.2) := by rfl) : DGs X A (e :: es) (i :: is) :=
  ⟨PGs.weak (pgs_cons h1.pg h2.pgs hs) fun vs σ H Q ⟨O, G, ρ, n, ds, ρ', R, r, b, k⟩ => by
    cases ds with
    | nil => cases b
    | cons d ds =>
      simp only [RpAll] at r
      obtain ⟨v, t, rfl, r1, r2⟩ := r
      simp only [setAll] at b
      refine ⟨v, t, rfl, O, G, ρ, n, d, _, R, r1, rfl, fun σ1 R1 w1 => ⟨O, G, _, n, ds, ρ', R1, r2, b, fun σ2 R2 w2 => k σ2 R2 fun ws h => ?_⟩⟩
      rw [w2 ws fun i hi => h i (List.mem_cons_of_mem _ hi), w1 ws fun i hi => h i (by rw [List.mem_singleton.mp hi]; exact List.mem_cons_self)]⟩
theorem setAll_len : ∀ {is : List Nat} {ds : List D} {ρ ρ' : Sl}, setAll is ds ρ = some ρ' → ds.length = is.length
  | [], [], _, _, _ => rfl
  | [], _ :: _, _, _, h => by cases h
  | _ :: _, [], _, _, h => by cases h
  | i :: is, d :: ds, ρ, ρ', h => by
    rw [List.length_cons, List.length_cons, setAll_len (is := is) (ds := ds) (show setAll is ds _ = some ρ' from h)]
theorem dg_tp {es : List Expr} {k : Nat} {is : List Nat} (hc : X.calm = true) (h : DGs X A es is) (hn : (assignEach es X.env).length = is.length := by rfl) (hst : (assignEach es X.env).findIdx? (·.1) = none := by rfl) : DG X A (.Tuple es k pos) (.tp is) :=
  ⟨PG.weak (pg_tup hc h.pgs hn hst) fun v σ H Q ⟨O, G, ρ, n, d, ρ', R, r, b, k⟩ => by
    cases d with
    | tuple ds =>
      simp only [Rp] at r
      obtain ⟨a, xs, rfl, ha, r2⟩ := r
      exact ⟨a, xs, rfl, SqT.of (R.hs.gh _ _ ha), (RpAll.length r2).trans (setAll_len b), O, G, ρ, n, ds, ρ', R, r2, b, k⟩
    | _ => cases b⟩
end

/-! ### walks -/
/-- the iterator J walks the data ds: G0 stands -/
structure WalkOk (J : It) (G0 : Hp) (ds : List D) : Prop where
  stop : ∀ H, Le G0 H → J.stop ds.length H
  go : ∀ i H, Le G0 H → i < ds.length → J.go i H
  yld : ∀ i H x H' d, Le G0 H → ds[i]? = some d → J.yld i H x H' → (H' = H ∧ Rp G0 d x) ∨ ∃ T xs es, x = .ref T ∧ H T = none ∧ H' = upd H T (.tup xs) ∧ d = .tuple es ∧ RpAll G0 es xs
abbrev DIx := Sl → (List D → Sl → Prop) → XP → Prop
def PostI (K : PySem.W.Frag) (A : Amb) (t : Nat) (O G : Hp) (σ : L2.St) (N : Option Nat) (Ψ : List D → Sl → Prop) (R : It → Hp → Prop) : Prop := ∀ ds ρ' G' H' J, Le G G' → Rel K A t O G' ρ' σ H' → WalkOk J G' ds → (∀ n, N = some n → ds.length ≤ n) → Ψ ds ρ' → R J H'
def liftI (K : PySem.W.Frag) (A : Amb) (W : WX) (c : Nat) (N : Option Nat) (d : DIx) : TI := fun σ H R => ∃ O G ρ t Ψ Φ, t + c ≤ TMX ∧ Rel K A t O G ρ σ H ∧ d ρ Ψ Φ ∧ PostI K A (t + c) O G σ N Ψ R ∧ PostX K A (t + c) O G σ W Φ
structure DI (X : Cx) (A : Amb) (W : WX) (c : Nat) (N : Option Nat) (tg iter : Expr) (d : DIx) : Prop where
  pi : PI X tg iter (liftI X.K A W c N d)
theorem PI.weak {X : Cx} {tg iter : Expr} {t t' : TI} (h : PI X tg iter t) (w : ∀ σ H R, t' σ H R → t σ H R) : PI X tg iter t' := ⟨fun pins s σ H R I q => h.run pins s σ H R I (w σ H R q)⟩
/-- a list -/
def iL (d : DEx) : DIx := fun ρ Ψ Φ => d ρ (fun x ρ1 => match x with
  | .list ds => Ψ ds ρ1
  | _ => False) Φ
def signs (s : Str) : List D := s.cps.toList.map fun c => .str ⟨#[c]⟩
def iS (d : DEx) : DIx := fun ρ Ψ Φ => d ρ (fun x ρ1 => match x with
  | .str s => Ψ (signs s) ρ1
  | _ => False) Φ
def iT (d : DEx) : DIx := fun ρ Ψ Φ => d ρ (fun x ρ1 => match x with
  | .tuple ds => Ψ ds ρ1
  | _ => False) Φ
def rangeD (lo : Int) (n : Nat) : List D := (List.range n).map fun i => .int (lo + (i : Nat))
theorem rangeD_len (lo : Int) (n : Nat) : (rangeD lo n).length = n := by
  unfold rangeD
  rw [List.length_map, List.length_range]
def iR1 (d : DEx) : DIx := fun ρ Ψ Φ => d ρ (fun x ρ1 => match x with
  | .int n => n < 2 ^ 62 ∧ -(2 ^ 62) ≤ n ∧ Ψ (rangeD 0 n.toNat) ρ1
  | _ => False) Φ
def iR2 (d e : DEx) : DIx := fun ρ Ψ Φ => d ρ (fun x ρ1 => e ρ1 (fun y ρ2 => match x, y with
  | .int i, .int j => (-(2 ^ 62) ≤ i ∧ i < 2 ^ 62 ∧ -(2 ^ 62) ≤ j ∧ j < 2 ^ 62) ∧ Ψ (rangeD i (j - i).toNat) ρ2
  | _, _ => False) Φ) Φ
def enumD (ds : List D) : List D := (List.range ds.length).map fun i => .tuple [.int (i : Nat), ds.getD i .none]
def iE (d : DEx) : DIx := fun ρ Ψ Φ => d ρ (fun x ρ1 => match x with
  | .list ds => Ψ (enumD ds) ρ1
  | _ => False) Φ
def zipD : List D → List D → List D
  | x :: xs, y :: ys => .tuple [x, y] :: zipD xs ys
  | _, _ => []
def iZ (d e : DEx) : DIx := fun ρ Ψ Φ => d ρ (fun x ρ1 => e ρ1 (fun y ρ2 => match x, y with
  | .list ds, .list es => Ψ (zipD ds es) ρ2
  | _, _ => False) Φ) Φ
theorem walk_list {K : PySem.W.Frag} {G : Hp} {a : Addr} {xs : List V} {ds : List D} (h : G a = some (.lst xs)) (r : RpAll G ds xs) : WalkOk (Itl K a) G ds where
  stop := fun H l => ⟨xs, SqL.of (l _ _ h), by rw [RpAll.length r]; exact Nat.le_refl _⟩
  go := fun i H l hi => by
    obtain ⟨x, e, _⟩ := RpAll.get r (List.getElem?_eq_getElem hi)
    exact ⟨xs, x, SqL.of (l _ _ h), e⟩
  yld := fun i H x H' d l hd ⟨e, y⟩ => by
    obtain ⟨x', e1, r1⟩ := RpAll.get r hd
    have := y xs (SqL.of (l _ _ h))
    rw [e1] at this
    cases this
    exact .inl ⟨e, r1⟩
theorem walk_tup {K : PySem.W.Frag} {G : Hp} {a : Addr} {xs : List V} {ds : List D} (h : G a = some (.tup xs)) (r : RpAll G ds xs) : WalkOk (Itt K a) G ds where
  stop := fun H l => ⟨xs, SqT.of (l _ _ h), by rw [RpAll.length r]; exact Nat.le_refl _⟩
  go := fun i H l hi => by
    obtain ⟨x, e, _⟩ := RpAll.get r (List.getElem?_eq_getElem hi)
    exact ⟨xs, x, SqT.of (l _ _ h), e⟩
  yld := fun i H x H' d l hd ⟨e, y⟩ => by
    obtain ⟨x', e1, r1⟩ := RpAll.get r hd
    have := y xs (SqT.of (l _ _ h))
    rw [e1] at this
    cases this
    exact .inl ⟨e, r1⟩
theorem walk_range {G : Hp} (lo : Int) (n : Nat) : WalkOk (Itr lo n) G (rangeD lo n) where
  stop := fun H l => by
    show n ≤ _
    unfold rangeD
    rw [List.length_map, List.length_range]
    exact Nat.le_refl _
  go := fun i H l hi => by
    unfold rangeD at hi
    rw [List.length_map, List.length_range] at hi
    exact hi
  yld := fun i H x H' d l hd ⟨e, y⟩ => by
    unfold rangeD at hd
    rw [List.getElem?_map] at hd
    cases q : (List.range n)[i]? with
    | none =>
      rw [q] at hd
      cases hd
    | some j =>
      rw [q] at hd
      cases hd
      have hj : j = i := by
        obtain ⟨hi, e2⟩ := List.getElem?_eq_some_iff.mp q
        rw [← e2, List.getElem_range]
      subst hj
      exact .inl ⟨e, by rw [y]; simp only [Rp]⟩
theorem walk_str {G : Hp} (s : Str) : WalkOk (Its s) G (signs s) where
  stop := fun H l => by
    show s.cps.size ≤ _
    unfold signs
    rw [List.length_map, Array.length_toList]
    exact Nat.le_refl _
  go := fun i H l hi => by
    unfold signs at hi
    rw [List.length_map, Array.length_toList] at hi
    exact hi
  yld := fun i H x H' d l hd ⟨e, c, hc, y⟩ => by
    unfold signs at hd
    rw [List.getElem?_map, Array.getElem?_toList, hc] at hd
    cases hd
    exact .inl ⟨e, by rw [y]; simp only [Rp]⟩
theorem walk_enum {K : PySem.W.Frag} {G : Hp} {a : Addr} {xs : List V} {ds : List D} (h : G a = some (.lst xs)) (r : RpAll G ds xs) : WalkOk (Ite K a) G (enumD ds) where
  stop := fun H l => ⟨xs, SqL.of (l _ _ h), by
    unfold enumD
    rw [RpAll.length r, List.length_map, List.length_range]
    exact Nat.le_refl _⟩
  go := fun i H l hi => by
    unfold enumD at hi
    rw [List.length_map, List.length_range] at hi
    obtain ⟨x, e, _⟩ := RpAll.get r (List.getElem?_eq_getElem hi)
    exact ⟨xs, x, SqL.of (l _ _ h), e⟩
  yld := fun i H x H' d l hd ⟨T, y, e1, e2, e3, e4⟩ => by
    unfold enumD at hd
    rw [List.getElem?_map] at hd
    cases q : (List.range ds.length)[i]? with
    | none =>
      rw [q] at hd
      cases hd
    | some j =>
      rw [q] at hd
      cases hd
      have hj : j = i ∧ i < ds.length := by
        obtain ⟨hi, e2⟩ := List.getElem?_eq_some_iff.mp q
        rw [List.length_range] at hi
        exact ⟨by rw [← e2, List.getElem_range], hi⟩
      obtain ⟨rfl, hi⟩ := hj
      obtain ⟨x', f1, f2⟩ := RpAll.get r (List.getElem?_eq_getElem hi)
      have := e4 xs (SqL.of (l _ _ h))
      rw [f1] at this
      cases this
      refine .inr ⟨T, _, _, e1, e2, e3, rfl, ?_⟩
      refine RpAll.cons (by simp only [Rp]) (RpAll.cons ?_ RpAll.nil)
      rw [List.getD_eq_getElem?_getD, List.getElem?_eq_getElem hi]
      exact f2
theorem zipD_len : ∀ (ds es : List D), (zipD ds es).length = min ds.length es.length
  | [], es => by simp [zipD]
  | d :: ds, [] => by simp [zipD]
  | d :: ds, e :: es => by
    rw [zipD, List.length_cons, List.length_cons, List.length_cons, zipD_len ds es]
    omega
theorem zipD_get : ∀ (ds es : List D) (i : Nat) (d : D), (zipD ds es)[i]? = some d → ∃ x y, ds[i]? = some x ∧ es[i]? = some y ∧ d = .tuple [x, y]
  | [], es, i, d, h => by simp [zipD] at h
  | x :: ds, [], i, d, h => by simp [zipD] at h
  | x :: ds, y :: es, 0, d, h => by
    simp [zipD] at h
    exact ⟨x, y, rfl, rfl, h.symm⟩
  | x :: ds, y :: es, i + 1, d, h => by
    simp only [zipD, List.getElem?_cons_succ] at h
    obtain ⟨a, b, h1, h2, h3⟩ := zipD_get ds es i d h
    exact ⟨a, b, by simpa using h1, by simpa using h2, h3⟩
theorem walk_zip {K : PySem.W.Frag} {G : Hp} {a b : Addr} {xs ys : List V} {ds es : List D} (h : G a = some (.lst xs)) (r : RpAll G ds xs) (h' : G b = some (.lst ys)) (r' : RpAll G es ys) : WalkOk (Itz K a b) G (zipD ds es) where
  stop := fun H l => ⟨xs, ys, SqL.of (l _ _ h), SqL.of (l _ _ h'), by
    rw [zipD_len, RpAll.length r, RpAll.length r']
    omega⟩
  go := fun i H l hi => by
    rw [zipD_len] at hi
    obtain ⟨x, e, _⟩ := RpAll.get r (List.getElem?_eq_getElem (show i < ds.length by omega))
    obtain ⟨y, e', _⟩ := RpAll.get r' (List.getElem?_eq_getElem (show i < es.length by omega))
    exact ⟨xs, ys, x, y, SqL.of (l _ _ h), SqL.of (l _ _ h'), e, e'⟩
  yld := fun i H x H' d l hd ⟨T, y, z, e1, e2, e3, e4, e5⟩ => by
    obtain ⟨p, q, h1, h2, rfl⟩ := zipD_get ds es i d hd
    obtain ⟨x', f1, f2⟩ := RpAll.get r h1
    obtain ⟨y', g1, g2⟩ := RpAll.get r' h2
    have t1 := e4 xs (SqL.of (l _ _ h))
    rw [f1] at t1
    cases t1
    have t2 := e5 ys (SqL.of (l _ _ h'))
    rw [g1] at t2
    cases t2
    exact .inr ⟨T, _, _, e1, e2, e3, rfl, RpAll.cons f2 (RpAll.cons g2 RpAll.nil)⟩
section
variable {X : Cx} {A : Amb} {W : WX} {ca cb : Nat} {tg a b : Expr} {da db : DEx} {pos p : Pos}
theorem di_list (ha : DE X A W ca a da) : DI X A W ca none tg a (iL da) := ⟨PI.weak (pi_list ha.pe) fun σ H Q ⟨O, G, ρ, t, Ψ, Φ, le, R, q, pi, px⟩ => ⟨O, G, ρ, t, _, Φ, by omega, R, q, fun x ρ1 v G1 H1 l1 R1 rx q1 => by
  cases x with
  | list ds =>
    simp only [Rp] at rx
    obtain ⟨ad, xs, rfl, h, r⟩ := rx
    exact ⟨ad, rfl, ⟨xs, SqL.of (R1.hs.gh _ _ h)⟩, pi ds ρ1 G1 H1 _ l1 (R1.up (by omega)) (walk_list h r) (fun _ h => nomatch h) q1⟩
  | _ => exact q1.elim, px.dn (by omega)⟩⟩
theorem di_tup (ha : DE X A W ca a da) : DI X A W ca none tg a (iT da) := ⟨PI.weak (pi_tup ha.pe) fun σ H Q ⟨O, G, ρ, t, Ψ, Φ, le, R, q, pi, px⟩ => ⟨O, G, ρ, t, _, Φ, by omega, R, q, fun x ρ1 v G1 H1 l1 R1 rx q1 => by
  cases x with
  | tuple ds =>
    simp only [Rp] at rx
    obtain ⟨ad, xs, rfl, h, r⟩ := rx
    exact ⟨ad, rfl, ⟨xs, SqT.of (R1.hs.gh _ _ h)⟩, pi ds ρ1 G1 H1 _ l1 (R1.up (by omega)) (walk_tup h r) (fun _ h => nomatch h) q1⟩
  | _ => exact q1.elim, px.dn (by omega)⟩⟩
theorem di_str (ha : DE X A W ca a da) : DI X A W ca none tg a (iS da) := ⟨PI.weak (pi_str ha.pe) fun σ H Q ⟨O, G, ρ, t, Ψ, Φ, le, R, q, pi, px⟩ => ⟨O, G, ρ, t, _, Φ, by omega, R, q, fun x ρ1 v G1 H1 l1 R1 rx q1 => by
  cases x with
  | str s =>
    simp only [Rp] at rx
    exact ⟨s, rx, pi _ ρ1 G1 H1 _ l1 (R1.up (by omega)) (walk_str s) (fun _ h => nomatch h) q1⟩
  | _ => exact q1.elim, px.dn (by omega)⟩⟩
theorem di_r1 (hm : X.mg "range" = none) (ha : DE X A W ca a da) (hg : Gl X "range" := by rfl) (hs : starEach [a] X.env = [(false, eval a X.env)] := by rfl) : DI X A W ca (some (2 ^ 62)) tg (.Call (.Name "range" p) [a] [] pos) (iR1 da) :=
  ⟨PI.weak (pi_range1 hg hm (pa_cons ha.pe pa_nil hs) hs) fun σ H Q ⟨O, G, ρ, t, Ψ, Φ, le, R, q, pi, px⟩ => ⟨O, G, ρ, t, _, Φ, by omega, R, q, fun x ρ1 v G1 H1 l1 R1 rx q1 => by
    cases x with
    | int n =>
      simp only [Rp] at rx
      exact ⟨n, by rw [rx], q1.2.1, q1.1, pi _ ρ1 G1 H1 _ l1 (R1.up (by omega)) (walk_range 0 _) (fun m h => by cases h; rw [rangeD_len]; omega) q1.2.2⟩
    | _ => exact q1.elim, px.dn (by omega)⟩⟩
theorem di_r2 (hm : X.mg "range" = none) (ha : DE X A W ca a da) (hb : DE X A W cb b db) (hg : Gl X "range" := by rfl) (hs : starEach [a, b] X.env = [(false, eval a X.env), (false, eval b X.env)] := by rfl) (hs2 : starEach [b] X.env = [(false, eval b X.env)] := by rfl) : DI X A W (ca + cb) (some (2 ^ 63)) tg (.Call (.Name "range" p) [a, b] [] pos) (iR2 da db) :=
  ⟨PI.weak (pi_range2 hg hm (pa_cons ha.pe (pa_cons hb.pe pa_nil hs2) (by rw [hs, hs2])) hs hs2) fun σ H Q ⟨O, G, ρ, t, Ψ, Φ, le, R, q, pi, px⟩ => ⟨O, G, ρ, t, _, Φ, by omega, R, q, fun x ρ1 v G1 H1 l1 R1 rx q1 =>
    ⟨O, G1, ρ1, _, _, Φ, by omega, R1, q1, fun y ρ2 u G2 H2 l2 R2 ry q2 => by
      have rx2 := Rp.mono l2 x v rx
      cases x <;> cases y <;> first | exact q2.elim | skip
      simp only [Rp] at rx2 ry
      exact ⟨_, _, by rw [rx2, ry], q2.1, pi _ ρ2 G2 H2 _ (l1.trans l2) (R2.up (by omega)) (walk_range _ _) (fun m h => by cases h; rw [rangeD_len]; omega) q2.2⟩, (px.le l1).dn (by omega)⟩, px.dn (by omega)⟩⟩
theorem di_enum {elts : List Expr} {kk : Nat} {tpos : Pos} (hm : X.mg "enumerate" = none) (ha : DE X A W ca a da) (hg : Gl X "enumerate" := by rfl) (hs : starEach [a] X.env = [(false, eval a X.env)] := by rfl) : DI X A W ca none (.Tuple elts kk tpos) (.Call (.Name "enumerate" p) [a] [] pos) (iE da) :=
  ⟨PI.weak (pi_enum hg hm (pa_cons ha.pe pa_nil hs) hs) fun σ H Q ⟨O, G, ρ, t, Ψ, Φ, le, R, q, pi, px⟩ => ⟨O, G, ρ, t, _, Φ, by omega, R, q, fun x ρ1 v G1 H1 l1 R1 rx q1 => by
    cases x with
    | list ds =>
      simp only [Rp] at rx
      obtain ⟨ad, xs, rfl, h, r⟩ := rx
      exact ⟨ad, xs, rfl, SqL.of (R1.hs.gh _ _ h), pi _ ρ1 G1 H1 _ l1 (R1.up (by omega)) (walk_enum h r) (fun _ h => nomatch h) q1⟩
    | _ => exact q1.elim, px.dn (by omega)⟩⟩
theorem di_zip {elts : List Expr} {kk : Nat} {tpos : Pos} (hm : X.mg "zip" = none) (ha : DE X A W ca a da) (hb : DE X A W cb b db) (hg : Gl X "zip" := by rfl) (hs : starEach [a, b] X.env = (false, eval a X.env) :: starEach [b] X.env := by rfl) (hpl : (backTo pos (starEach [b] X.env)).any (·.1) = false := by rfl)
    (hs2 : starEach [b] X.env = [(false, eval b X.env)] := by rfl) : DI X A W (ca + cb) none (.Tuple elts kk tpos) (.Call (.Name "zip" p) [a, b] [] pos) (iZ da db) :=
  ⟨PI.weak (pi_zip hg hm (pa_cons ha.pe (pa_cons hb.pe pa_nil hs2) hs) hs hpl) fun σ H Q ⟨O, G, ρ, t, Ψ, Φ, le, R, q, pi, px⟩ => ⟨O, G, ρ, t, _, Φ, by omega, R, q, fun x ρ1 v G1 H1 l1 R1 rx q1 =>
    ⟨O, G1, ρ1, _, _, Φ, by omega, R1, q1, fun y ρ2 u G2 H2 l2 R2 ry q2 => by
      have rx2 := Rp.mono l2 x v rx
      cases x <;> cases y <;> first | exact q2.elim | skip
      simp only [Rp] at rx2 ry
      obtain ⟨a1, xs, rfl, h, r⟩ := rx2
      obtain ⟨b1, ys, rfl, h', r'⟩ := ry
      exact ⟨a1, b1, xs, ys, rfl, SqL.of (R2.hs.gh _ _ h), SqL.of (R2.hs.gh _ _ h'), pi _ ρ2 G2 H2 _ (l1.trans l2) (R2.up (by omega)) (walk_zip h r h' r') (fun _ h => nomatch h) q2⟩, (px.le l1).dn (by omega)⟩, px.dn (by omega)⟩⟩
end
/-- the next item has come -/
theorem walk_turn {K : PySem.W.Frag} {A : Amb} {t : Nat} {O G G0 H H' : Hp} {ρ : Sl} {σ : L2.St} {J : It} {ds : List D} {i : Nat} {x : V} {d : D} (w : WalkOk J G0 ds) (l : Le G0 G) (R : Rel K A t O G ρ σ H) (hd : ds[i]? = some d) (y : J.yld i H x H') :
    ∃ G', Le G G' ∧ Rel K A t O G' ρ σ H' ∧ Rp G' d x := by
  rcases w.yld i H x H' d (l.trans R.hs.gh) hd y with ⟨e, r⟩ | ⟨T, xs, es, rfl, hT, e, rfl, r⟩
  · exact ⟨G, Le.refl G, e ▸ R, Rp.mono l d x r⟩
  · obtain ⟨l2, R2⟩ := R.newfz (o := .tup xs) hT
    refine ⟨_, l2, e ▸ R2, ?_⟩
    simp only [Rp]
    exact ⟨T, xs, rfl, upd_same, RpAll.mono (l.trans l2) _ _ r⟩
end TM
namespace TM
open L2 PySem.Spec PySem PyProof.Rows

/-! ### comprehensions -/
def wipeS (ρ : Sl) : List Nat → Sl
  | [] => ρ
  | v :: vs => (wipeS ρ vs).set v .un
def Ent.keep : Ent → Ent
  | .ow _ => .un
  | .od _ => .un
  | .pv _ => .un
  | e => e
/-- behind a block: its own names as they were -/
def back (ρ ρ4 : Sl) : List Nat → Sl
  | [] => ρ4
  | v :: vs => (back ρ ρ4 vs).set v (atS ρ v).keep
def noX : XP := fun _ _ _ => False
def lcR (t : Tg) (tt : DTx) (te : DEx) (vs : List Nat) : List D → List D → Sl → (List D → Sl → Prop) → Prop
  | [], acc, ρ, Ψ => Ψ acc ρ
  | d :: r, acc, ρ, Ψ => match t.bind d (wipeS ρ vs) with
    | some ρ2 => tt ρ2 (fun b ρ3 => if b = true then te ρ3 (fun y ρ4 => acc.length < sizeLine ∧ lcR t tt te vs r (acc ++ [y]) (back ρ ρ4 vs) Ψ) noX else lcR t tt te vs r acc (back ρ ρ3 vs) Ψ) noX
    | none => False
def oLc (di : DIx) (t : Tg) (tt : DTx) (te : DEx) (vs : List Nat) : DOx := fun ρ Ψ Φ => di ρ (fun ds ρ1 => lcR t tt te vs ds [] ρ1 Ψ) Φ
def tYesD : DTx := fun ρ Ψ _ => Ψ true ρ
abbrev W0 : WX := fun _ _ _ _ => False
structure DTs (X : Cx) (A : Amb) (W : WX) (c : Nat) (ifs : List Expr) (d : DTx) : Prop where
  pts : PTs X ifs (liftT X.K A W c d)
theorem PTs.weak {X : Cx} {e : List Expr} {t t' : TT} (h : PTs X e t) (w : ∀ σ H Q, t' σ H Q → t σ H Q) : PTs X e t' := ⟨fun pins s σ H Q I q => h.run pins s σ H Q I (w σ H Q q)⟩
theorem dts_nil {X : Cx} {A : Amb} {W : WX} : DTs X A W 0 [] tYesD := ⟨PTs.weak pts_nil fun σ H Q ⟨O, G, ρ, t, Ψ, Φ, le, R, q, pt, px⟩ => pt true ρ G H (Le.refl G) (R.up (by omega)) q⟩
theorem dts_one {X : Cx} {A : Amb} {W : WX} {c0 : Nat} {e : Expr} {t : DTx} (h : DT X A W c0 e t) : DTs X A W c0 [e] t := ⟨pts_one h.pt⟩
section
variable {K : PySem.W.Frag} {A : Amb} {t t4 : Nat} {O G G' H H' : Hp} {ρ ρ4 : Sl} {σ σ2 : L2.St}
theorem wipeS_len (ρ : Sl) : ∀ vs, (wipeS ρ vs).length = ρ.length
  | [] => rfl
  | v :: vs => by
    unfold wipeS
    rw [List.length_set, wipeS_len ρ vs]
theorem back_len (ρ ρ4 : Sl) : ∀ vs, (back ρ ρ4 vs).length = ρ4.length
  | [] => rfl
  | v :: vs => by
    unfold back
    rw [List.length_set, back_len ρ ρ4 vs]
theorem wipeS_get (ρ : Sl) : ∀ (vs : List Nat) (j : Nat), (wipeS ρ vs)[j]? = if j ∈ vs then (ρ[j]?).map (fun _ => Ent.un) else ρ[j]?
  | [], j => by simp [wipeS]
  | v :: vs, j => by
    unfold wipeS
    by_cases h : v = j
    · subst h
      rw [List.getElem?_set]
      simp only [if_true, List.mem_cons, true_or, wipeS_len]
      by_cases hl : v < ρ.length
      · simp [hl]
      · simp [hl, List.getElem?_eq_none (Nat.le_of_not_lt hl)]
    · rw [List.getElem?_set_ne h, wipeS_get ρ vs j]
      have e : (j ∈ v :: vs) = (j ∈ vs) := by
        rw [List.mem_cons, eq_iff_iff]
        exact ⟨fun q => q.elim (fun z => absurd z.symm h) id, .inr⟩
      simp only [e]
theorem back_get (ρ ρ4 : Sl) : ∀ (vs : List Nat) (j : Nat), (back ρ ρ4 vs)[j]? = if j ∈ vs then (ρ4[j]?).map (fun _ => (atS ρ j).keep) else ρ4[j]?
  | [], j => by simp [back]
  | v :: vs, j => by
    unfold back
    by_cases h : v = j
    · subst h
      rw [List.getElem?_set]
      simp only [if_true, List.mem_cons, true_or, back_len]
      by_cases hl : v < ρ4.length
      · simp [hl]
      · simp [hl, List.getElem?_eq_none (Nat.le_of_not_lt hl)]
    · rw [List.getElem?_set_ne h, back_get ρ ρ4 vs j]
      have e : (j ∈ v :: vs) = (j ∈ vs) := by
        rw [List.mem_cons, eq_iff_iff]
        exact ⟨fun q => q.elim (fun z => absurd z.symm h) id, .inr⟩
      simp only [e]
theorem Rel.wipe (R : Rel K A t O G ρ σ H) (vs : List Nat) : Rel K A t O G (wipeS ρ vs) (L2.wipe σ vs) H := by
  obtain ⟨F, w, en⟩ := R.ex
  refine ⟨R.hs, by rw [wipeS_len, wipe_length]; exact R.ln, F, w, fun i e he => ?_⟩
  rw [wipeS_get] at he
  by_cases hi : i ∈ vs
  · rw [if_pos hi] at he
    cases q : ρ[i]? with
    | none =>
      rw [q] at he
      cases he
    | some e0 =>
      rw [q] at he
      cases he
      trivial
  · rw [if_neg hi] at he
    rw [wipe_get, if_neg hi]
    exact en i e he
theorem wipe_wipe (σ : L2.St) (vs : List Nat) : L2.wipe (L2.wipe σ vs) vs = L2.wipe σ vs := by
  apply List.ext_getElem?
  intro j
  rw [wipe_get, wipe_get]
  by_cases hj : j ∈ vs
  · rw [if_pos hj, if_pos hj, Option.map_map]
    rfl
  · rw [if_neg hj, if_neg hj]
theorem keep_at {P P' : Hp} {e : Ent} {s : Option (Option V)} (l : Le G G') (q : EntAt K A G P e s) : EntAt K A G' P' e.keep s := by
  cases e with
  | un => trivial
  | ow _ => trivial
  | od _ => trivial
  | pv _ => trivial
  | fz d =>
    obtain ⟨v, h1, h2⟩ := q
    exact ⟨v, h1, Rp.mono l _ _ h2⟩
  | dk => exact q
  | sc ns =>
    obtain ⟨a, h1, h2⟩ := q
    exact ⟨a, h1, l.seq h2⟩
theorem atS_some : ∀ (ρ : Sl) (i : Nat), i < ρ.length → ρ[i]? = some (atS ρ i)
  | [], i, h => by simp at h
  | e :: r, 0, h => rfl
  | e :: r, i + 1, h => by simpa [atS] using atS_some r i (by simpa using h)
theorem Rel.back (R : Rel K A t O G ρ σ H) (l : Le G G') (R4 : Rel K A t4 O G' ρ4 σ2 H') {vs : List Nat} (hw : L2.wipe σ2 vs = L2.wipe σ vs) : Rel K A t4 O G' (TM.back ρ ρ4 vs) σ H' := by
  have hlen : σ2.length = σ.length := by
    have := congrArg List.length hw
    rwa [wipe_length, wipe_length] at this
  have same : ∀ j, j ∉ vs → σ2[j]? = σ[j]? := fun j hj => by
    have := congrArg (fun l => l[j]?) hw
    simp only [wipe_get, if_neg hj] at this
    exact this
  obtain ⟨F, w, en⟩ := R.ex
  obtain ⟨F4, w4, en4⟩ := R4.ex
  refine ⟨R4.hs, by rw [back_len, R4.ln, hlen], F4, w4, fun i e he => ?_⟩
  rw [back_get] at he
  by_cases hi : i ∈ vs
  · rw [if_pos hi] at he
    cases q : ρ4[i]? with
    | none =>
      rw [q] at he
      cases he
    | some e0 =>
      rw [q] at he
      cases he
      have hi2 : i < ρ.length := by
        have := (List.getElem?_eq_some_iff.mp q).1
        rw [R4.ln, hlen, ← R.ln] at this
        exact this
      exact keep_at l (en i _ (atS_some ρ i hi2))
  · rw [if_neg hi] at he
    rw [← same i hi]
    exact en4 i e he
theorem noX_post : PostX K A t O G σ W0 noX := fun _ _ _ _ _ _ _ _ _ _ q => q.elim
def lp (N : Option Nat) (c : Nat) : Nat := N.getD 0 * c
theorem lp_le {N : Option Nat} {c len i : Nat} (h : c = 0 ∨ N.isSome = true) (hn : ∀ n, N = some n → len ≤ n) (hi : i ≤ len) : i * c ≤ lp N c := by
  rcases h with h | h
  · rw [h, Nat.mul_zero]
    exact Nat.zero_le _
  · cases N with
    | none => cases h
    | some n =>
      have := hn n rfl
      exact Nat.mul_le_mul_right c (by show i ≤ n; omega)
/-- the reading of a comprehension -/
theorem lift_lc {tg : Tg} {tt : DTx} {te : DEx} {vs : List Nat} {di : DIx} {W : WX} {Q : VK} {ci ct ce : Nat} {N : Option Nat} (hl : ct + ce = 0 ∨ N.isSome = true) (hvs : ∀ i ∈ tg.slots, i ∈ vs) (h : liftO K A W (ci + lp N (ct + ce)) (oLc di tg tt te vs) σ H Q) :
    tLc (liftI K A W ci N di) (liftG K A tg) (liftT K A W0 ct tt) (liftE K A W0 ce te) vs σ H Q := by
  obtain ⟨O, G, ρ, t, Ψ, Φ, le, R, q, pe, px⟩ := h
  refine ⟨O, G, ρ, t, _, Φ, by omega, R, q, fun ds ρ1 G1 H1 J l1 R1 wk bd q1 => fun D hD => ?_, px.dn (by omega)⟩
  have hO : O D = none := (R1.hs.none_of hD).2.1
  refine ⟨fun i m H2 => m = ds.length - i ∧ i ≤ ds.length ∧ ∃ acc accV G2 ρ2, Le G1 G2 ∧ Rel K A (t + ci + i * (ct + ce)) (upd O D (.lst accV)) G2 ρ2 σ H2 ∧ RpAll G2 acc accV ∧ lcR tg tt te vs (ds.drop i) acc ρ2 Ψ,
    ⟨ds.length, by simp, Nat.zero_le _, [], [], G1, ρ1, Le.refl _, (R1.onO hD _).up (by omega), RpAll.nil, q1⟩, ?_⟩
  rintro i m H2 ⟨rfl, hi, acc, accV, G2, ρ2, l2, R2, ra, q2⟩
  have bi := lp_le hl bd hi
  by_cases hlt : i < ds.length
  · have bi1 := lp_le hl bd (show i + 1 ≤ ds.length by omega)
    have es : (i + 1) * (ct + ce) = i * (ct + ce) + (ct + ce) := Nat.succ_mul i _
    refine .inr ⟨wk.go i H2 (l2.trans R2.hs.gh) hlt, _, fun H' p' => ⟨ds.length - (i + 1), by omega, rfl, hlt, p'⟩, fun x H' y => ?_⟩
    have hd : ds[i]? = some ds[i] := List.getElem?_eq_getElem hlt
    obtain ⟨G3, l3, R3, rx⟩ := walk_turn wk l2 R2 hd y
    rw [List.drop_eq_getElem_cons hlt] at q2
    unfold lcR at q2
    cases hb : tg.bind ds[i] (wipeS ρ2 vs) with
    | none =>
      rw [hb] at q2
      exact q2.elim
    | some ρ3 =>
      rw [hb] at q2
      refine ⟨_, G3, _, _, ds[i], ρ3, R3.wipe vs, rx, hb, fun σ2 R4 w4 => ?_⟩
      have hw : wipe σ2 vs = wipe σ vs := (w4 vs hvs).trans (wipe_wipe σ vs)
      refine ⟨hw, _, G3, ρ3, _, _, noX, by omega, R4, q2, fun b ρ5 G5 H5 l5 R5 q5 => ?_, noX_post⟩
      cases b with
      | false =>
        refine ⟨acc, accV, G5, _, (l2.trans l3).trans l5, (R3.back l5 R5 hw).up (by omega), RpAll.mono (l3.trans l5) _ _ ra, q5⟩
      | true =>
        refine ⟨_, G5, ρ5, _, _, noX, by omega, R5, q5, fun z ρ6 v G6 H6 l6 R6 rz q6 => ?_, noX_post⟩
        have R7 := R3.back (l5.trans l6) R6 hw
        have ra6 := RpAll.mono ((l3.trans l5).trans l6) _ _ ra
        refine ⟨accV, R6.atO.1, by rw [RpAll.length ra6]; exact q6.1, acc ++ [z], accV ++ [v], G6, _, (((l2.trans l3).trans l5).trans l6), (R7.reO _).up (by omega), RpAll.append ra6 (RpAll.cons rz RpAll.nil), q6.2⟩
  · have e : i = ds.length := by omega
    subst e
    refine .inl ⟨wk.stop H2 (l2.trans R2.hs.gh), ?_⟩
    rw [List.drop_length] at q2
    exact pe acc ρ2 D G2 H2 (l1.trans l2) ((R2.unO hO).up (by omega)) ⟨accV, hO, ra, R2.up (by omega)⟩ q2
end
section
variable {X : Cx} {A : Amb} {W : WX} {ci ct ce : Nat} {M : Option Nat} {elt tg iter : Expr} {ifs : List Expr} {scope : Scope} {own : List (Str × Nat)} {pos : Pos} {di : DIx} {t : Tg} {tt : DTx} {te : DEx}
theorem do_lc {N' : List Str} {sc' : Scope} (hc : X.calm = true) (hN : X.N.Nodup) (hi : DI X A W ci M tg iter di) (ok : blkC N' sc' scope own = true)
    (hg : ∀ (s : Shared) (H : Hp) (C : Addr) (cl : List (Str × Addr)) (fp : List Addr), DG (X.blk s H scope (compEnvC scope cl C X.env) fp) A tg t)
    (ht : ∀ (s : Shared) (H : Hp) (C : Addr) (cl : List (Str × Addr)) (fp : List Addr), DTs (X.blk s H scope (compEnvC scope cl C X.env) fp) A W0 ct ifs tt)
    (he : ∀ (s : Shared) (H : Hp) (C : Addr) (cl : List (Str × Addr)) (fp : List Addr), DE (X.blk s H scope (compEnvC scope cl C X.env) fp) A W0 ce elt te)
    (hvs : ∀ i ∈ t.slots, i ∈ own.map (·.2) := by decide) (hl : ct + ce = 0 ∨ M.isSome = true := by first | exact .inl rfl | exact .inr rfl) (hs : ∀ x, foldedSetIterable iter X.env x = pure x := by intro _; rfl) (hNe : X.N = N' := by rfl) (hse : X.env.scope = sc' := by rfl) :
    DO X A W (ci + lp M (ct + ce)) (.ListComp elt [⟨tg, iter, ifs, 0⟩] scope pos) (oLc di t tt te (own.map (·.2))) :=
  ⟨PE.weak (pe_lc hc hN hi.pi (blkOk_by (by rw [hNe, hse]; exact ok)) (fun s H C cl fp => (hg s H C cl fp).pg) (fun s H C cl fp => (ht s H C cl fp).pts) (fun s H C cl fp => (he s H C cl fp).pe) hs) fun σ H Q h => lift_lc hl hvs h⟩
theorem ds_setLcF {N' : List Str} {sc' : Scope} {i : Nat} {y : Str} {py spos : Pos} (hc : X.calm = true) (hN : X.N.Nodup) (hy : X.N[i]? = some y) (hyl : X.env.scope.names.lookup y = some .local)
    (hsw : swapsWith (.ListComp elt [⟨tg, iter, ifs, 0⟩] scope pos) (some (.Name y py)) spos.line X.env = pure true) (hi : DI X A W ci M tg iter di) (ok : blkC N' sc' scope own = true)
    (hg : ∀ (s : Shared) (H : Hp) (C : Addr) (cl : List (Str × Addr)) (fp : List Addr), DG (X.blk s H scope (compEnvC scope cl C X.env) fp) A tg t)
    (ht : ∀ (s : Shared) (H : Hp) (C : Addr) (cl : List (Str × Addr)) (fp : List Addr), DTs (X.blk s H scope (compEnvC scope cl C X.env) fp) A W0 ct ifs tt)
    (he : ∀ (s : Shared) (H : Hp) (C : Addr) (cl : List (Str × Addr)) (fp : List Addr), DE (X.blk s H scope (compEnvC scope cl C X.env) fp) A W0 ce elt te)
    (hvs : ∀ i ∈ t.slots, i ∈ own.map (·.2) := by decide) (hl : ct + ce = 0 ∨ M.isSome = true := by first | exact .inl rfl | exact .inr rfl) (hs : ∀ x, foldedSetIterable iter X.env x = pure x := by intro _; rfl) (hNe : X.N = N' := by rfl) (hse : X.env.scope = sc' := by rfl) :
    DS X A W (ci + lp M (ct + ce)) (.Assign [.Name y py] (.ListComp elt [⟨tg, iter, ifs, 0⟩] scope pos) spos) (sSetO i (oLc di t tt te (own.map (·.2)))) :=
  ⟨PS.weak (ps_setLc hc hN hy hyl hsw hi.pi (blkOk_by (by rw [hNe, hse]; exact ok)) (fun s H C cl fp => (hg s H C cl fp).pg) (fun s H C cl fp => (ht s H C cl fp).pts) (fun s H C cl fp => (he s H C cl fp).pe) hs) fun D σ H ⟨O, G, ρ, t, E, le, R, q, ok⟩ =>
    lift_lc (Q := fun x H1 => D.nx (σ.set i (some x)) H1) hl hvs ⟨O, G, ρ, _, _, E.ex, by omega, R, q, fun ds ρ' a G' H' l R' n k => ok.nx _ _ G' H' l ((R'.setO i n).up (by omega)) k, (ok.ex σ).dn (by omega)⟩⟩
end

/-! ### for, while -/
def forR (t : Tg) (b : DSx) : List D → Sl → DEnds → Prop
  | [], ρ, E => E.nx ρ
  | d :: r, ρ, E => match t.bind d ρ with
    | some ρ2 => b ρ2 { E with nx := fun ρ' => forR t b r ρ' E, ct := fun ρ' => forR t b r ρ' E, bk := E.nx }
    | none => False
def sFor (di : DIx) (t : Tg) (b : DSx) : DSx := fun ρ E => di ρ (fun ds ρ1 => forR t b ds ρ1 E) E.ex
def sWhile (t : DTx) (b : DSx) : DSx := fun ρ E => ∃ I : Nat → Sl → Prop, (∃ m, I m ρ) ∧ ∀ m ρ, I m ρ → t ρ (fun c ρ1 => if c = true then
  b ρ1 { E with nx := fun ρ' => ∃ m', m' < m ∧ I m' ρ', ct := fun ρ' => ∃ m', m' < m ∧ I m' ρ', bk := E.nx } else E.nx ρ1) E.ex
def sBreak : DSx := fun ρ E => E.bk ρ
def sCont : DSx := fun ρ E => E.ct ρ
section
variable {X : Cx} {A : Amb} {W : WX} {ci cb cc : Nat} {M : Option Nat} {tg iter c : Expr} {di : DIx} {t : Tg} {b : DSx} {body : List Stmt} {pos : Pos} {tt : DTx}
theorem ds_for (hp : PassesOwn (model X.prog X.w) X.A X.env X.xe) (hc : X.calm = true) (hi : DI X A W ci M tg iter di) (hg : DG X A tg t) (hb : DSs X A W cb body b) (hl : cb = 0 ∨ M.isSome = true := by first | exact .inl rfl | exact .inr rfl) (hs : ∀ x, foldedSetIterable iter X.env x = pure x := by intro _; rfl) : DS X A W (ci + lp M cb) (.For tg iter body [] pos) (sFor di t b) :=
  ⟨PS.weak (ps_for hp hc hi.pi hg.pg hb.pss hs) fun D σ H ⟨O, G, ρ, u, E, le, R, q, ok⟩ => ⟨O, G, ρ, u, _, E.ex, by omega, R, q, fun ds ρ1 G1 H1 J l1 R1 wk bd q1 => by
    refine ⟨fun i m σ2 H2 => m = ds.length - i ∧ i ≤ ds.length ∧ ∃ G2 ρ2, Le G1 G2 ∧ Rel X.K A (u + ci + i * cb) O G2 ρ2 σ2 H2 ∧ forR t b (ds.drop i) ρ2 E, ⟨ds.length, by simp, Nat.zero_le _, G1, ρ1, Le.refl _, R1.up (by omega), q1⟩, ?_⟩
    rintro i m σ2 H2 ⟨rfl, hi, G2, ρ2, l2, R2, q2⟩
    have bi := lp_le hl bd hi
    by_cases hlt : i < ds.length
    · have es : (i + 1) * cb = i * cb + cb := Nat.succ_mul i _
      have bi1 := lp_le hl bd (show i + 1 ≤ ds.length by omega)
      refine .inr ⟨wk.go i H2 (l2.trans R2.hs.gh) hlt, _, fun σ' H' p' => ⟨ds.length - (i + 1), by omega, rfl, hlt, p'⟩, fun x H' y => ?_⟩
      have hd : ds[i]? = some ds[i] := List.getElem?_eq_getElem hlt
      obtain ⟨G3, l3, R3, rx⟩ := walk_turn wk l2 R2 hd y
      rw [List.drop_eq_getElem_cons hlt] at q2
      unfold forR at q2
      cases hb : t.bind ds[i] ρ2 with
      | none =>
        rw [hb] at q2
        exact q2.elim
      | some ρ3 =>
        rw [hb] at q2
        have l03 := l1.trans (l2.trans l3)
        have ok2 : EndsOk X.K A (u + ci + i * cb + cb) O G3 W E D := (ok.le l03).dn (by omega)
        refine ⟨O, G3, ρ2, _, ds[i], ρ3, R3, rx, hb, fun σ3 R4 _ => ⟨O, G3, ρ3, _, _, by omega, R4, q2, ⟨fun ρ' σ' G' H' l R' k => ⟨G', ρ', (l2.trans l3).trans l, R'.up (by omega), k⟩, ok2.rt, ok2.nx, fun ρ' σ' G' H' l R' k => ⟨G', ρ', (l2.trans l3).trans l, R'.up (by omega), k⟩, ok2.ex⟩⟩⟩
    · have e : i = ds.length := by omega
      subst e
      rw [List.drop_length] at q2
      exact .inl ⟨wk.stop H2 (l2.trans R2.hs.gh), ok.nx ρ2 σ2 G2 H2 (l1.trans l2) (R2.up (by omega)) q2⟩, (ok.ex σ).dn (by omega)⟩⟩
theorem ds_while (hp : PassesOwn (model X.prog X.w) X.A X.env X.xe) (hc : DT X A W 0 c tt) (hb : DSs X A W 0 body b) : DS X A W 0 (.While c body [] pos) (sWhile tt b) :=
  ⟨PS.weak (ps_while hp hc.pt hb.pss) fun D σ H ⟨O, G, ρ, u, E, le, R, ⟨I, ⟨m0, i0⟩, turn⟩, ok⟩ => by
    refine ⟨fun m σ2 H2 => ∃ G2 ρ2, Le G G2 ∧ Rel X.K A u O G2 ρ2 σ2 H2 ∧ I m ρ2, ⟨m0, G, ρ, Le.refl _, R, i0⟩, ?_⟩
    rintro m σ2 H2 ⟨G2, ρ2, l2, R2, i2⟩
    refine ⟨O, G2, ρ2, u, _, E.ex, by omega, R2, turn m ρ2 i2, fun c ρ3 G3 H3 l3 R3 q3 => ?_, (ok.ex σ2).le l2⟩
    cases c with
    | false => exact ok.nx ρ3 σ2 G3 H3 (l2.trans l3) R3 q3
    | true =>
      have l03 := l2.trans l3
      have ok2 : EndsOk X.K A u O G3 W E D := ok.le l03
      exact ⟨fun σ' H' => ∃ m', m' < m ∧ ∃ G2 ρ2, Le G G2 ∧ Rel X.K A u O G2 ρ2 σ' H' ∧ I m' ρ2, fun σ' H' z => z, O, G3, ρ3, u, _, by omega, R3, q3, ⟨fun ρ' σ' G' H' l R' ⟨m', lt, i'⟩ => ⟨m', lt, G', ρ', l03.trans l, R', i'⟩, ok2.rt, ok2.nx, fun ρ' σ' G' H' l R' ⟨m', lt, i'⟩ => ⟨m', lt, G', ρ', l03.trans l, R', i'⟩, ok2.ex⟩⟩⟩
theorem ds_break : DS X A W 0 (.Break pos) sBreak := ⟨PS.weak ps_break fun D σ H ⟨O, G, ρ, t, E, le, R, q, ok⟩ => ok.bk ρ σ G H (Le.refl G) (R.up (by omega)) q⟩
theorem ds_cont : DS X A W 0 (.Continue pos) sCont := ⟨PS.weak ps_continue fun D σ H ⟨O, G, ρ, t, E, le, R, q, ok⟩ => ok.ct ρ σ G H (Le.refl G) (R.up (by omega)) q⟩
end
end TM
namespace TM
open L2 PySem.Spec PySem PyProof.Rows

/-! ### calls of built-ins by values -/
abbrev GL := List D → (D → Prop) → Prop
abbrev GOL := List D → (List D → Prop) → Prop
def SndL (X : Cx) (A : Amb) (r : List V → Hp → VK → Prop) (g : GL) : Prop := ∀ O G ρ t σ H ds vs Q κ, Rel X.K A t O G ρ σ H → RpAll G ds vs → g ds κ →
  (∀ z w G' H', Le G G' → Rel X.K A t O G' ρ σ H' → Rp G' z w → κ z → Q w H') → r vs H Q
def SndOL (X : Cx) (A : Amb) (r : List V → Hp → VK → Prop) (g : GOL) : Prop := ∀ O G ρ t σ H ds vs Q κ, Rel X.K A t O G ρ σ H → RpAll G ds vs → g ds κ →
  (∀ es a G' H', Le G G' → Rel X.K A t O G' ρ σ H' → NewL X.K A t O σ es a G' ρ H' → κ es → Q (.ref a) H') → r vs H Q
def dCB (g : GL) (d : DAx) : DEx := fun ρ Ψ Φ => d ρ (fun es ρ1 => match dataOf es with
  | some ds => g ds fun z => Ψ z ρ1
  | none => False) Φ
def oCB (g : GOL) (d : DAx) : DOx := fun ρ Ψ Φ => d ρ (fun es ρ1 => match dataOf es with
  | some ds => g ds fun z => Ψ z ρ1
  | none => False) Φ
section
variable {X : Cx} {A : Amb} {W : WX} {c0 ca cb cc cr : Nat} {a b : Expr} {es : List Expr} {da db : DEx} {dr : DAx} {pos p : Pos} {x : Str} {fid T : String} {r : List V → Hp → VK → Prop} {g : GL} {go : GOL}
theorem lift_cb (hs : SndL X A r g) {σ : L2.St} {H : Hp} {Q : VK} (h : liftE X.K A W cr (dCB g dr) σ H Q) : tCB r (liftA X.K A W cr dr) σ H Q := by
  obtain ⟨O, G, ρ, t, Ψ, Φ, le, R, q, pe, px⟩ := h
  refine ⟨O, G, ρ, t, _, Φ, by omega, R, q, fun es ρ1 vs G1 H1 l1 R1 as q1 => ?_, px.dn (by omega)⟩
  dsimp only at q1
  cases e : dataOf es with
  | none =>
    rw [e] at q1
    exact q1.elim
  | some ds =>
    rw [e] at q1
    exact hs O G1 ρ1 _ σ H1 ds vs Q _ R1 (argsAt_data e as) q1 fun z w G3 H3 l3 R3 rz k => pe z ρ1 w G3 H3 (l1.trans l3) (R3.up (by omega)) rz k
theorem lift_ocb (hs : SndOL X A r go) {σ : L2.St} {H : Hp} {Q : VK} (h : liftO X.K A W cr (oCB go dr) σ H Q) : tCB r (liftA X.K A W cr dr) σ H Q := by
  obtain ⟨O, G, ρ, t, Ψ, Φ, le, R, q, pe, px⟩ := h
  refine ⟨O, G, ρ, t, _, Φ, by omega, R, q, fun es ρ1 vs G1 H1 l1 R1 as q1 => ?_, px.dn (by omega)⟩
  dsimp only at q1
  cases e : dataOf es with
  | none =>
    rw [e] at q1
    exact q1.elim
  | some ds =>
    rw [e] at q1
    exact hs O G1 ρ1 _ σ H1 ds vs Q _ R1 (argsAt_data e as) q1 fun z w G3 H3 l3 R3 rz k => pe z ρ1 w G3 H3 (l1.trans l3) (R3.up (by omega)) (rz.up (by omega)) k
theorem de_cb (hc : CallR X (.builtin fid) r) (hs : SndL X A r g) (hm : X.mg x = none) (hv : bootBuiltins x = some (.builtin fid)) (ha : DA X A W ca (a :: es) dr) (hg : Gl X x := by rfl) (hn : x ≠ "__name__" := by decide) (hdb : (x == ("__debug__" : Str)) = false := by decide)
    (he : starEach (a :: es) X.env = (false, eval a X.env) :: starEach es X.env := by rfl) (hpl : (backTo pos (starEach es X.env)).any (·.1) = false := by rfl) : DE X A W ca (.Call (.Name x p) (a :: es) [] pos) (dCB g dr) :=
  ⟨PE.weak (pe_callB hc hg hm hv ha.pa hn hdb he hpl) fun _ _ _ => lift_cb hs⟩
theorem de_ct (hc : CallR X (.type T) r) (hs : SndL X A r g) (hm : X.mg x = none) (hv : bootBuiltins x = some (.type T)) (ha : DA X A W ca (a :: es) dr) (hg : Gl X x := by rfl) (hn : x ≠ "__name__" := by decide) (hdb : (x == ("__debug__" : Str)) = false := by decide)
    (he : starEach (a :: es) X.env = (false, eval a X.env) :: starEach es X.env := by rfl) (hpl : (backTo pos (starEach es X.env)).any (·.1) = false := by rfl) : DE X A W ca (.Call (.Name x p) (a :: es) [] pos) (dCB g dr) :=
  ⟨PE.weak (pe_callTy hc hg hm hv ha.pa hn hdb he hpl) fun _ _ _ => lift_cb hs⟩
theorem do_cb (hc : CallR X (.builtin fid) r) (hs : SndOL X A r go) (hm : X.mg x = none) (hv : bootBuiltins x = some (.builtin fid)) (ha : DA X A W ca (a :: es) dr) (hg : Gl X x := by rfl) (hn : x ≠ "__name__" := by decide) (hdb : (x == ("__debug__" : Str)) = false := by decide)
    (he : starEach (a :: es) X.env = (false, eval a X.env) :: starEach es X.env := by rfl) (hpl : (backTo pos (starEach es X.env)).any (·.1) = false := by rfl) : DO X A W ca (.Call (.Name x p) (a :: es) [] pos) (oCB go dr) :=
  ⟨PE.weak (pe_callB hc hg hm hv ha.pa hn hdb he hpl) fun _ _ _ => lift_ocb hs⟩
theorem do_ct (hc : CallR X (.type T) r) (hs : SndOL X A r go) (hm : X.mg x = none) (hv : bootBuiltins x = some (.type T)) (ha : DA X A W ca (a :: es) dr) (hg : Gl X x := by rfl) (hn : x ≠ "__name__" := by decide) (hdb : (x == ("__debug__" : Str)) = false := by decide)
    (he : starEach (a :: es) X.env = (false, eval a X.env) :: starEach es X.env := by rfl) (hpl : (backTo pos (starEach es X.env)).any (·.1) = false := by rfl) : DO X A W ca (.Call (.Name x p) (a :: es) [] pos) (oCB go dr) :=
  ⟨PE.weak (pe_callTy hc hg hm hv ha.pa hn hdb he hpl) fun _ _ _ => lift_ocb hs⟩
theorem CallR.or {f : Value} {r r' : List V → Hp → VK → Prop} (h : CallR X f r) (h' : CallR X f r') : CallR X f (fun xs H Q => r xs H Q ∨ r' xs H Q) := fun pins s σ H xs us Q I rv q => by
  rcases q with q | q
  · exact h pins s σ H xs us Q I rv q
  · exact h' pins s σ H xs us Q I rv q
theorem rpAll1 {G : Hp} {d : D} {vs : List V} (h : RpAll G [d] vs) : ∃ v, vs = [v] ∧ Rp G d v := by
  simp only [RpAll] at h
  obtain ⟨v, t, rfl, h1, rfl⟩ := h
  exact ⟨v, rfl, h1⟩
theorem rpAll2 {G : Hp} {d e : D} {vs : List V} (h : RpAll G [d, e] vs) : ∃ v u, vs = [v, u] ∧ Rp G d v ∧ Rp G e u := by
  simp only [RpAll] at h
  obtain ⟨v, t, rfl, h1, u, t', rfl, h2, rfl⟩ := h
  exact ⟨v, u, rfl, h1, h2⟩

/-! ### len -/
def gLen : GL := fun ds κ => match ds with
  | [.list xs] => κ (.int xs.length)
  | [.tuple xs] => κ (.int xs.length)
  | [.str s] => s.length ≤ sizeLine ∧ κ (.int s.length)
  | [.dict kvs] => κ (.int kvs.length)
  | _ => False
theorem RpKv.length {G : Hp} : ∀ {kvs : List (D × D)} {ps : List (Key × V)}, RpKv G kvs ps → ps.length = kvs.length
  | [], _, h => by
    simp only [RpKv] at h
    rw [h]
    rfl
  | (k, d) :: r, ps, h => by
    simp only [RpKv] at h
    obtain ⟨q, x, t, rfl, _, _, h3⟩ := h
    rw [List.length_cons, List.length_cons, RpKv.length h3]
theorem call_lenR : CallR X (.builtin "len") (fun xs H Q => ∃ a kvs, xs = [V.ref a] ∧ Rd H a (.dK kvs) ∧ Q (.int kvs.length) H) := by
  intro pins s σ H xs us Q I r h
  obtain ⟨a, kvs, rfl, ha, q⟩ := h
  obtain ⟨u, rfl, ru⟩ := vals1 r
  cases ru
  exact d_len I ha fun t s' I' => ⟨.int kvs.length, H, I', ⟨t, rfl⟩, q⟩
theorem snd_len : SndL X A (fun xs H Q => (∃ x n, xs = [x] ∧ LenV X.K x H n ∧ Q (.int n) H) ∨ ∃ a kvs, xs = [V.ref a] ∧ Rd H a (.dK kvs) ∧ Q (.int kvs.length) H) gLen := fun O G ρ t σ H ds vs Q κ R rv q k => by
  unfold gLen at q
  split at q
  · obtain ⟨v, rfl, r⟩ := rpAll1 rv
    simp only [Rp] at r
    obtain ⟨a, xs, rfl, h, r⟩ := r
    exact .inl ⟨_, _, rfl, .inl ⟨xs, SqL.of (R.hs.gh _ _ h), rfl⟩, k _ _ G H (Le.refl G) R (by simp only [Rp]; rw [RpAll.length r]) q⟩
  · obtain ⟨v, rfl, r⟩ := rpAll1 rv
    simp only [Rp] at r
    obtain ⟨a, xs, rfl, h, r⟩ := r
    exact .inl ⟨_, _, rfl, .inr ⟨xs, SqT.of (R.hs.gh _ _ h), rfl⟩, k _ _ G H (Le.refl G) R (by simp only [Rp]; rw [RpAll.length r]) q⟩
  · obtain ⟨v, rfl, r⟩ := rpAll1 rv
    simp only [Rp] at r
    subst r
    exact .inl ⟨_, _, rfl, ⟨q.1, rfl⟩, k _ _ G H (Le.refl G) R (by simp only [Rp]) q.2⟩
  · obtain ⟨v, rfl, r⟩ := rpAll1 rv
    simp only [Rp] at r
    obtain ⟨a, od, xs, rfl, h, r⟩ := r
    exact .inr ⟨_, _, rfl, .inr ⟨od, R.hs.gh _ _ h⟩, k _ _ G H (Le.refl G) R (by simp only [Rp]; rw [RpKv.length r]) q⟩
  · exact q.elim
theorem de_len (hm : X.mg "len" = none) (ha : DA X A W ca [a] dr) (hg : Gl X "len" := by rfl) (he : starEach [a] X.env = (false, eval a X.env) :: starEach [] X.env := by rfl) : DE X A W ca (.Call (.Name "len" p) [a] [] pos) (dCB gLen dr) :=
  de_cb (CallR.or call_len call_lenR) snd_len hm boot_len ha hg (he := he)

/-! ### numbers -/
def gMax2 : GL := fun ds κ => match ds with
  | [.int i, .int j] => κ (.int (if j > i then j else i))
  | _ => False
def gMin2 : GL := fun ds κ => match ds with
  | [.int i, .int j] => κ (.int (if j < i then j else i))
  | _ => False
theorem snd_ii {f : Int → Int → Int} {g : GL} (hg : ∀ ds κ, g ds κ → ∃ i j, ds = [.int i, .int j] ∧ κ (.int (f i j))) : SndL X A (fun xs H Q => ∃ i j, xs = [.int i, .int j] ∧ Q (.int (f i j)) H) g := fun O G ρ t σ H ds vs Q κ R rv q k => by
  obtain ⟨i, j, rfl, q2⟩ := hg _ _ q
  obtain ⟨v, u, rfl, r1, r2⟩ := rpAll2 rv
  simp only [Rp] at r1 r2
  exact ⟨i, j, by rw [r1, r2], k _ _ G H (Le.refl G) R (by simp only [Rp]) q2⟩
theorem de_max2 (hc : X.calm = true) (hm : X.mg "max" = none) (ha : DA X A W ca [a, b] dr) (hg : Gl X "max" := by rfl) (he : starEach [a, b] X.env = (false, eval a X.env) :: starEach [b] X.env := by rfl) (hpl : (backTo pos (starEach [b] X.env)).any (·.1) = false := by rfl) : DE X A W ca (.Call (.Name "max" p) [a, b] [] pos) (dCB gMax2 dr) :=
  de_cb (call_max2 hc) (snd_ii (f := fun i j => if j > i then j else i) fun ds κ h => by
    unfold gMax2 at h
    split at h
    · exact ⟨_, _, rfl, h⟩
    · exact h.elim) hm (by decide +kernel) ha hg (he := he) (hpl := hpl)
theorem de_min2 (hc : X.calm = true) (hm : X.mg "min" = none) (ha : DA X A W ca [a, b] dr) (hg : Gl X "min" := by rfl) (he : starEach [a, b] X.env = (false, eval a X.env) :: starEach [b] X.env := by rfl) (hpl : (backTo pos (starEach [b] X.env)).any (·.1) = false := by rfl) : DE X A W ca (.Call (.Name "min" p) [a, b] [] pos) (dCB gMin2 dr) :=
  de_cb (call_min2 hc) (snd_ii (f := fun i j => if j < i then j else i) fun ds κ h => by
    unfold gMin2 at h
    split at h
    · exact ⟨_, _, rfl, h⟩
    · exact h.elim) hm (by decide +kernel) ha hg (he := he) (hpl := hpl)
/-- int(n), int(flag) -/
def gInt : GL := fun ds κ => match ds with
  | [.int i] => κ (.int i)
  | [.bool b] => κ (.int (if b then 1 else 0))
  | [.str s] => s.length ≤ 640 ∧ (match PySem.intText? s with
    | some n => κ (.int n)
    | none => False)
  | _ => False
theorem snd_int : SndL X A (fun xs H Q => ((∃ i, xs = [.int i] ∧ Q (.int i) H) ∨ ∃ k, xs = [.bl k] ∧ Q (.int (if k then 1 else 0)) H) ∨ ∃ a n, xs = [.str a] ∧ PySem.intText? a = some n ∧ a.length ≤ 640 ∧ Q (.int n) H) gInt := fun O G ρ t σ H ds vs Q κ R rv q k => by
  unfold gInt at q
  split at q
  · obtain ⟨v, rfl, r⟩ := rpAll1 rv
    simp only [Rp] at r
    exact .inl (.inl ⟨_, by rw [r], k _ _ G H (Le.refl G) R (by simp only [Rp]) q⟩)
  · obtain ⟨v, rfl, r⟩ := rpAll1 rv
    simp only [Rp] at r
    exact .inl (.inr ⟨_, by rw [r], k _ _ G H (Le.refl G) R (by simp only [Rp]) q⟩)
  · obtain ⟨v, rfl, r⟩ := rpAll1 rv
    simp only [Rp] at r
    split at q
    · rename_i n hn
      exact .inr ⟨_, n, by rw [r], hn, q.1, k _ _ G H (Le.refl G) R (by simp only [Rp]) q.2⟩
    · exact q.2.elim
  · exact q.elim
theorem de_intc (hm : X.mg "int" = none) (ha : DA X A W ca [a] dr) (hg : Gl X "int" := by rfl) (he : starEach [a] X.env = (false, eval a X.env) :: starEach [] X.env := by rfl) : DE X A W ca (.Call (.Name "int" p) [a] [] pos) (dCB gInt dr) :=
  de_ct (CallR.or call_int1 call_int_str) snd_int hm (by decide +kernel) ha hg (he := he)
/-- str(n) -/
def gStr : GL := fun ds κ => match ds with
  | [.int i] => i.natAbs.log2 < 1920 ∧ κ (.str (toString i))
  | _ => False
theorem de_strc (hm : X.mg "str" = none) (ha : DA X A W ca [a] dr) (hg : Gl X "str" := by rfl) (he : starEach [a] X.env = (false, eval a X.env) :: starEach [] X.env := by rfl) : DE X A W ca (.Call (.Name "str" p) [a] [] pos) (dCB gStr dr) :=
  de_ct call_str_int (fun O G ρ t σ H ds vs Q κ R rv q k => by
    unfold gStr at q
    split at q
    · obtain ⟨v, rfl, r⟩ := rpAll1 rv
      simp only [Rp] at r
      exact ⟨_, by rw [r], q.1, k _ _ G H (Le.refl G) R (by simp only [Rp]) q.2⟩
    · exact q.elim) hm (by decide +kernel) ha hg (he := he)

/-! ### all, any, sum, max, min of a list -/
def gAll : GL := fun ds κ => match ds with
  | [.list xs] => ∃ bs : List Bool, xs = bs.map .bool ∧ κ (.bool (bs.all id))
  | _ => False
def gAny : GL := fun ds κ => match ds with
  | [.list xs] => ∃ bs : List Bool, xs = bs.map .bool ∧ κ (.bool (bs.any id))
  | _ => False
def gSum : GL := fun ds κ => match ds with
  | [.list xs] => ∃ bs : List Int, xs = bs.map .int ∧ κ (.int bs.sum)
  | _ => False
theorem de_all (hc : X.calm = true) (hm : X.mg "all" = none) (ha : DA X A W ca [a] dr) (hg : Gl X "all" := by rfl) (he : starEach [a] X.env = (false, eval a X.env) :: starEach [] X.env := by rfl) : DE X A W ca (.Call (.Name "all" p) [a] [] pos) (dCB gAll dr) :=
  de_cb (cr_all hc) (fun O G ρ t σ H ds vs Q κ R rv q k => by
    unfold gAll at q
    split at q
    · obtain ⟨bs, rfl, q2⟩ := q
      obtain ⟨v, rfl, r⟩ := rpAll1 rv
      simp only [Rp] at r
      obtain ⟨a, xs, rfl, h, r⟩ := r
      rw [RpAll.bools r] at h
      exact ⟨a, bs, rfl, SqL.of (R.hs.gh _ _ h), k _ _ G H (Le.refl G) R (by simp only [Rp]) q2⟩
    · exact q.elim) hm (by decide +kernel) ha hg (he := he)
theorem de_any (hc : X.calm = true) (hm : X.mg "any" = none) (ha : DA X A W ca [a] dr) (hg : Gl X "any" := by rfl) (he : starEach [a] X.env = (false, eval a X.env) :: starEach [] X.env := by rfl) : DE X A W ca (.Call (.Name "any" p) [a] [] pos) (dCB gAny dr) :=
  de_cb (cr_any hc) (fun O G ρ t σ H ds vs Q κ R rv q k => by
    unfold gAny at q
    split at q
    · obtain ⟨bs, rfl, q2⟩ := q
      obtain ⟨v, rfl, r⟩ := rpAll1 rv
      simp only [Rp] at r
      obtain ⟨a, xs, rfl, h, r⟩ := r
      rw [RpAll.bools r] at h
      exact ⟨a, bs, rfl, SqL.of (R.hs.gh _ _ h), k _ _ G H (Le.refl G) R (by simp only [Rp]) q2⟩
    · exact q.elim) hm (by decide +kernel) ha hg (he := he)
theorem de_sum (hc : X.calm = true) (hm : X.mg "sum" = none) (ha : DA X A W ca [a] dr) (hg : Gl X "sum" := by rfl) (he : starEach [a] X.env = (false, eval a X.env) :: starEach [] X.env := by rfl) : DE X A W ca (.Call (.Name "sum" p) [a] [] pos) (dCB gSum dr) :=
  de_cb (cr_sum hc) (fun O G ρ t σ H ds vs Q κ R rv q k => by
    unfold gSum at q
    split at q
    · obtain ⟨bs, rfl, q2⟩ := q
      obtain ⟨v, rfl, r⟩ := rpAll1 rv
      simp only [Rp] at r
      obtain ⟨a, xs, rfl, h, r⟩ := r
      rw [RpAll.ints r] at h
      exact ⟨a, bs, rfl, SqL.of (R.hs.gh _ _ h), k _ _ G H (Le.refl G) R (by simp only [Rp]) q2⟩
    · exact q.elim) hm (by decide +kernel) ha hg (he := he)
/-- list(x) -/
def gListOf : GOL := fun ds κ => match ds with
  | [.list xs] => κ xs
  | [.tuple xs] => κ xs
  | _ => False
theorem do_list (hm : X.mg "list" = none) (ha : DA X A W ca [a] dr) (hg : Gl X "list" := by rfl) (he : starEach [a] X.env = (false, eval a X.env) :: starEach [] X.env := by rfl) : DO X A W ca (.Call (.Name "list" p) [a] [] pos) (oCB gListOf dr) :=
  do_ct call_list_of (fun O G ρ t σ H ds vs Q κ R rv q k => by
    unfold gListOf at q
    split at q
    · obtain ⟨v, rfl, r⟩ := rpAll1 rv
      simp only [Rp] at r
      obtain ⟨a, xs, rfl, h, r⟩ := r
      refine ⟨a, xs, rfl, .inl (SqL.of (R.hs.gh _ _ h)), fun l hl => ?_⟩
      have n4 := R.newL hl r
      exact k _ l G _ (Le.refl G) n4.rel n4 q
    · obtain ⟨v, rfl, r⟩ := rpAll1 rv
      simp only [Rp] at r
      obtain ⟨a, xs, rfl, h, r⟩ := r
      refine ⟨a, xs, rfl, .inr (SqT.of (R.hs.gh _ _ h)), fun l hl => ?_⟩
      have n4 := R.newL hl r
      exact k _ l G _ (Le.refl G) n4.rel n4 q
    · exact q.elim) hm (by decide +kernel) ha hg (he := he)
/-- tuple(x) -/
def gTupOf : GL := fun ds κ => match ds with
  | [.list xs] => κ (.tuple xs)
  | [.tuple xs] => κ (.tuple xs)
  | _ => False
theorem de_tuplec (hm : X.mg "tuple" = none) (ha : DA X A W ca [a] dr) (hg : Gl X "tuple" := by rfl) (he : starEach [a] X.env = (false, eval a X.env) :: starEach [] X.env := by rfl) : DE X A W ca (.Call (.Name "tuple" p) [a] [] pos) (dCB gTupOf dr) :=
  de_ct call_tuple_of (fun O G ρ t σ H ds vs Q κ R rv q k => by
    unfold gTupOf at q
    split at q
    · obtain ⟨v, rfl, r⟩ := rpAll1 rv
      simp only [Rp] at r
      obtain ⟨a, xs, rfl, h, r⟩ := r
      refine ⟨a, xs, rfl, .inl ⟨SqL.of (R.hs.gh _ _ h), fun l hl => ?_⟩⟩
      obtain ⟨l4, R4⟩ := R.newfz (o := .tup xs) hl
      refine k _ _ _ _ l4 R4 ?_ q
      simp only [Rp]
      exact ⟨l, xs, rfl, upd_same, RpAll.mono l4 _ _ r⟩
    · obtain ⟨v, rfl, r⟩ := rpAll1 rv
      have r0 := r
      simp only [Rp] at r
      obtain ⟨a, xs, rfl, h, r⟩ := r
      exact ⟨a, xs, rfl, .inr ⟨SqT.of (R.hs.gh _ _ h), k _ _ G H (Le.refl G) R r0 q⟩⟩
    · exact q.elim) hm (by decide +kernel) ha hg (he := he)

/-! ### isinstance -/
def tyOf : D → String
  | .none => "NoneType"
  | .bool _ => "bool"
  | .int _ => "int"
  | .str _ => "str"
  | .list _ => "list"
  | .tuple _ => "tuple"
  | .dict _ => "dict"
theorem Rp.ty {K : PySem.W.Frag} {G H : Hp} (l : Le G H) {d : D} {v : V} (h : Rp G d v) : TyX K H v (.type (tyOf d)) := by
  cases d <;> simp only [Rp] at h
  · subst h
    exact .base .non
  · subst h
    exact .base (.bl _)
  · subst h
    exact .base (.int _)
  · subst h
    exact .base (.str _)
  · obtain ⟨a, xs, rfl, h, _⟩ := h
    exact .base (.lst (l _ _ h))
  · obtain ⟨a, xs, rfl, h, _⟩ := h
    exact .base (.tup (l _ _ h))
  · obtain ⟨a, o, xs, rfl, h, _⟩ := h
    exact .fDict (l _ _ h)
/-- isinstance(x, T), by the type's name -/
def isN (T n : String) : Bool := n == T || (n == "bool" && T == "int")
def isT (T : String) (d : D) : Bool := isN T (tyOf d)
def KT (T : String) : Prop := ∀ d : D, kitB (tyOf d) T = some (isT T d)
def tyNames : List String := ["NoneType", "bool", "int", "str", "list", "tuple", "dict"]
theorem tyOf_mem (d : D) : tyOf d ∈ tyNames := by cases d <;> simp [tyOf, tyNames]
theorem kt_of {T : String} (h : (tyNames.all fun n => decide (kitB n T = some (isN T n))) = true) : KT T := fun d => of_decide_eq_true (List.all_eq_true.mp h _ (tyOf_mem d))
theorem kt_str : KT "str" := kt_of (by decide +kernel)
theorem kt_int : KT "int" := kt_of (by decide +kernel)
theorem kt_bool : KT "bool" := kt_of (by decide +kernel)
theorem kt_list : KT "list" := kt_of (by decide +kernel)
theorem kt_tuple : KT "tuple" := kt_of (by decide +kernel)
theorem kt_dict : KT "dict" := kt_of (by decide +kernel)
def D.isStr : D → Bool
  | .str _ => true
  | _ => false
def D.isBool : D → Bool
  | .bool _ => true
  | _ => false
def D.isInt : D → Bool
  | .int _ => true
  | .bool _ => true
  | _ => false
def D.isList : D → Bool
  | .list _ => true
  | _ => false
def D.isTup : D → Bool
  | .tuple _ => true
  | _ => false
theorem isT_str (d : D) : isT "str" d = D.isStr d := by cases d <;> (show isN _ _ = _; simp only [D.isStr, tyOf]; decide)
theorem isT_bool (d : D) : isT "bool" d = D.isBool d := by cases d <;> (show isN _ _ = _; simp only [D.isBool, tyOf]; decide)
theorem isT_int (d : D) : isT "int" d = D.isInt d := by cases d <;> (show isN _ _ = _; simp only [D.isInt, tyOf]; decide)
theorem isT_list (d : D) : isT "list" d = D.isList d := by cases d <;> (show isN _ _ = _; simp only [D.isList, tyOf]; decide)
theorem isT_tuple (d : D) : isT "tuple" d = D.isTup d := by cases d <;> (show isN _ _ = _; simp only [D.isTup, tyOf]; decide)
def dIsi (T : String) (d : DEx) : DEx := fun ρ Ψ Φ => d ρ (fun x ρ1 => Ψ (.bool (isT T x)) ρ1) Φ
/-- isinstance(x, (T, U)) -/
def dIsi2 (T U : String) (d : DEx) : DEx := fun ρ Ψ Φ => d ρ (fun x ρ1 => Ψ (.bool (isT T x || isT U x)) ρ1) Φ
theorem de_isi {n : Str} {p2 : Pos} (kt : KT T) (hm : X.mg "isinstance" = none) (hmT : X.mg n = none) (hvT : bootBuiltins n = some (.type T)) (ha : DE X A W ca a da) (hg : Gl X "isinstance" := by rfl) (hgT : Gl X n := by rfl)
    (hn : n ≠ "__name__" := by decide) (hd : (n == ("__debug__" : Str)) = false := by decide) (he : starEach [a, .Name n p2] X.env = (false, eval a X.env) :: starEach [.Name n p2] X.env := by rfl) (hpl : (backTo pos (starEach [.Name n p2] X.env)).any (·.1) = false := by rfl)
    (he2 : starEach [.Name n p2] X.env = (false, eval (.Name n p2) X.env) :: starEach [] X.env := by rfl) : DE X A W ca (.Call (.Name "isinstance" p) [a, .Name n p2] [] pos) (dIsi T da) :=
  ⟨PE.weak (pe_callB call_isi hg hm (by decide +kernel) (pa_cons ha.pe (pa_cons (pe_bltn (v := .ty T) hgT hmT hvT rfl hn hd) pa_nil he2) he) (he := he) (hpl := hpl)) fun σ H Q ⟨O, G, ρ, t, Ψ, Φ, le, R, q, pe, px⟩ =>
    ⟨O, G, ρ, t, _, Φ, by omega, R, q, fun x ρ1 v G1 H1 l1 R1 rx q1 => ⟨v, _, _, _, _, rfl, .ty T, Rp.ty R1.hs.gh rx, kit_ty (kt x), pe _ ρ1 _ G1 H1 l1 (R1.up (by omega)) (by simp only [Rp]) q1⟩, px.dn (by omega)⟩⟩
theorem de_isi2 {n m : Str} {U : String} {p2 p3 p4 : Pos} {x1} (kt : KT T) (ku : KT U) (hm : X.mg "isinstance" = none) (hmT : X.mg n = none) (hmU : X.mg m = none) (hvT : bootBuiltins n = some (.type T)) (hvU : bootBuiltins m = some (.type U)) (ha : DE X A W ca a da) (hg : Gl X "isinstance" := by rfl) (hgT : Gl X n := by rfl) (hgU : Gl X m := by rfl)
    (hn : n ≠ "__name__" := by decide) (hd : (n == ("__debug__" : Str)) = false := by decide) (hn2 : m ≠ "__name__" := by decide) (hd2 : (m == ("__debug__" : Str)) = false := by decide)
    (he : starEach [a, .Tuple [.Name n p2, .Name m p3] x1 p4] X.env = (false, eval a X.env) :: starEach [.Tuple [.Name n p2, .Name m p3] x1 p4] X.env := by rfl) (hpl : (backTo pos (starEach [.Tuple [.Name n p2, .Name m p3] x1 p4] X.env)).any (·.1) = false := by rfl)
    (he2 : starEach [.Tuple [.Name n p2, .Name m p3] x1 p4] X.env = (false, eval (.Tuple [.Name n p2, .Name m p3] x1 p4) X.env) :: starEach [] X.env := by rfl)
    (he3 : starEach [.Name n p2, .Name m p3] X.env = (false, eval (.Name n p2) X.env) :: starEach [.Name m p3] X.env := by rfl) (he4 : starEach [.Name m p3] X.env = (false, eval (.Name m p3) X.env) :: starEach [] X.env := by rfl) :
    DE X A W ca (.Call (.Name "isinstance" p) [a, .Tuple [.Name n p2, .Name m p3] x1 p4] [] pos) (dIsi2 T U da) :=
  ⟨PE.weak (pe_callB call_isiT hg hm (by decide +kernel) (pa_cons ha.pe (pa_cons (pe_tup (pa_cons (pe_bltn (v := .ty T) hgT hmT hvT rfl hn hd) (pa_cons (pe_bltn (v := .ty U) hgU hmU hvU rfl hn2 hd2) pa_nil he4) he3)) pa_nil he2) he) (he := he) (hpl := hpl)) fun σ H Q ⟨O, G, ρ, t, Ψ, Φ, le, R, q, pe, px⟩ =>
    ⟨O, G, ρ, t, _, Φ, by omega, R, q, fun x ρ1 v G1 H1 l1 R1 rx q1 => ⟨by show 2 ≤ sizeLine; decide, fun t ht => by
      obtain ⟨l2, R2⟩ := R1.newfz (o := .tup [.ty T, .ty U]) ht
      refine ⟨v, t, [.ty T, .ty U], .type (tyOf x), [.type T, .type U], isT T x || isT U x, rfl, upd_same, .cons (.ty T) (.cons (.ty U) .nil), Rp.ty R2.hs.gh (Rp.mono l2 _ _ rx), ?_, pe _ ρ1 _ _ _ (l1.trans l2) (R2.up (by omega)) (by simp only [Rp]) q1⟩
      refine kitAny_cons (kit_ty (kt x)) (fun h => kitAny_cons (kit_ty (ku x)) (fun h2 => ?_) (fun h2 => ?_)) (fun h => ?_)
      · rw [h, h2]
        exact kitAny_nil
      · rw [h, h2]
        rfl
      · rw [h]
        rfl⟩, px.dn (by omega)⟩⟩
end
end TM
namespace TM
open L2 PySem.Spec PySem PyProof.Rows

/-! ### a look at lists of one's own that gives something flat -/
def Ent.view : Ent → Ent
  | .ow ds => .fz (.list ds)
  | .od _ => .un
  | .pv d => .fz d
  | e => e
def flatD : D → Bool
  | .none => true
  | .bool _ => true
  | .int _ => true
  | .str _ => true
  | _ => false
theorem flat_rp {G G' : Hp} {d : D} {v : V} (h : flatD d = true) (r : Rp G d v) : Rp G' d v := by
  cases d <;> first | cases h | skip
  all_goals
    simp only [Rp] at r ⊢
    exact r
theorem flat_all {G G' : Hp} : ∀ {ds : List D} {xs : List V}, ds.all flatD = true → RpAll G ds xs → RpAll G' ds xs
  | [], xs, _, r => by simpa only [RpAll] using r
  | d :: ds, xs, h, r => by
    rw [List.all_cons, Bool.and_eq_true] at h
    simp only [RpAll] at r
    obtain ⟨x, t, rfl, h1, h2⟩ := r
    exact RpAll.cons (flat_rp h.1 h1) (flat_all h.2 h2)
def dBor (d : DEx) : DEx := fun ρ Ψ _ => d (ρ.map Ent.view) (fun r _ => flatD r = true ∧ Ψ r ρ) noX
def tBor (d : DTx) : DTx := fun ρ Ψ _ => d (ρ.map Ent.view) (fun r _ => Ψ r ρ) noX
def oBor (d : DOx) : DOx := fun ρ Ψ _ => d (ρ.map Ent.view) (fun r _ => r.all flatD = true ∧ Ψ r ρ) noX
section
variable {K : PySem.W.Frag} {A : Amb} {t : Nat} {O G G' H H' : Hp} {ρ ρ' : Sl} {σ : L2.St}
/-- a look at what is one's own: meanwhile nobody changes it -/
theorem Rel.bor (R : Rel K A t O G ρ σ H) : ∃ G1, Le G G1 ∧ Rel K A t O G1 (ρ.map Ent.view) σ H ∧ ∀ t' O' G' ρ' H', Le O O' → Le G1 G' → Rel K A t' O' G' ρ' σ H' → Rel K A t' O' G ρ σ H' := by
  obtain ⟨F, w, en⟩ := R.ex
  have at_ : ∀ i b u, F i b = some u → prot F H G b = some u := fun i b u q => (prot_own q).trans (w.le i b u q)
  have l : Le G (prot F H G) := fun b o e => by
    unfold prot
    split
    · rename_i h
      obtain ⟨i, u, h⟩ := h
      rw [w.g i b u h] at e
      cases e
    · exact e
  refine ⟨prot F H G, l, ⟨⟨fun b o e => ?_, R.hs.oh, fun b o e => ?_, R.hs.at_, fun b hb => ⟨?_, (R.hs.af b hb).2⟩⟩, by rw [List.length_map]; exact R.ln, fun _ _ => none,
    ⟨fun i b u q => (nomatch q), fun i b u q => (nomatch q), fun i b u q => (nomatch q), fun i b u q => (nomatch q), fun i j b u _ q => (nomatch q)⟩, fun i e he => ?_⟩, fun t' O' G' ρ' H' lO l1 R' => ?_⟩
  · unfold prot at e
    split at e
    · exact e
    · exact R.hs.gh b o e
  · unfold prot
    split
    · rename_i h
      obtain ⟨i, u, h⟩ := h
      rw [w.o i b u h] at e
      cases e
    · exact R.hs.go b o e
  · unfold prot
    split
    · rename_i h
      obtain ⟨i, u, h⟩ := h
      exact absurd hb (w.f i b u h)
    · exact (R.hs.af b hb).1
  · rw [List.getElem?_map] at he
    cases q : ρ[i]? with
    | none =>
      rw [q] at he
      cases he
    | some e0 =>
      rw [q] at he
      cases he
      have z := en i e0 q
      cases e0 with
      | un => trivial
      | fz d =>
        obtain ⟨v, h1, h2⟩ := z
        exact ⟨v, h1, Rp.mono l _ _ h2⟩
      | dk => exact z
      | sc ns =>
        obtain ⟨a, h1, h2⟩ := z
        exact ⟨a, h1, l.seq h2⟩
      | ow ds =>
        obtain ⟨a, xs, h1, h2, h3⟩ := z
        refine ⟨_, h1, ?_⟩
        simp only [Rp]
        exact ⟨a, xs, rfl, at_ _ _ _ h2, RpAll.mono l _ _ h3⟩
      | od kvs =>
        trivial
      | pv d =>
        obtain ⟨v, h1, h2⟩ := z
        exact ⟨v, h1, Rp.mono (fun b o e => at_ i b o e) _ _ h2⟩
  · have l0 : Le G G' := l.trans l1
    refine ⟨⟨l0.trans R'.hs.gh, R'.hs.oh, fun b o e => ?_, R'.hs.at_, fun b hb => ⟨?_, (R'.hs.af b hb).2⟩⟩, R.ln, F, ⟨fun i b u q => R'.hs.gh b u (l1 b u (at_ i b u q)), w.g, fun i b u q => ?_, fun i b u q z => ?_, w.d⟩, en⟩
    · cases q : G b with
      | none => rfl
      | some x =>
        have := l0 b x q
        rw [R'.hs.go b o e] at this
        cases this
    · cases q : G b with
      | none => rfl
      | some x =>
        have := l0 b x q
        rw [(R'.hs.af b hb).1] at this
        cases this
    · cases z : O' b with
      | none => rfl
      | some x =>
        have := l1 b u (at_ i b u q)
        rw [R'.hs.go b x z] at this
        cases this
    · have := l1 b u (at_ i b u q)
      rw [(R'.hs.af b z).1] at this
      cases this
theorem noX_postW {W : WX} : PostX K A t O G σ W noX := fun _ _ _ _ _ _ _ _ _ _ q => q.elim
end
section
variable {X : Cx} {A : Amb} {W : WX} {c0 ca cb cc cr ce : Nat} {e : Expr} {d : DEx} {t : DTx} {o : DOx}
theorem de_bor (h : DE X A W c0 e d) : DE X A W c0 e (dBor d) :=
  ⟨PE.weak h.pe fun σ H Q ⟨O, G, ρ, t, Ψ, Φ, le, R, q, pe, px⟩ => by
    obtain ⟨G1, l1, R1, out⟩ := R.bor
    exact ⟨O, _, _, _, _, noX, by omega, R1, q, fun r ρ' v G' H' l R' rv ⟨hf, k⟩ => pe r ρ v G H' (Le.refl G) (out _ O G' ρ' H' (Le.refl O) l R') (flat_rp hf rv) k, noX_postW⟩⟩
theorem dt_bor (h : DT X A W c0 e t) : DT X A W c0 e (tBor t) :=
  ⟨PT.weak h.pt fun σ H Q ⟨O, G, ρ, t, Ψ, Φ, le, R, q, pt, px⟩ => by
    obtain ⟨G1, l1, R1, out⟩ := R.bor
    exact ⟨O, _, _, _, _, noX, by omega, R1, q, fun r ρ' G' H' l R' k => pt r ρ G H' (Le.refl G) (out _ O G' ρ' H' (Le.refl O) l R') k, noX_postW⟩⟩
theorem do_bor (h : DO X A W c0 e o) : DO X A W c0 e (oBor o) :=
  ⟨PE.weak h.pe fun σ H Q ⟨O, G, ρ, t, Ψ, Φ, le, R, q, pe, px⟩ => by
    obtain ⟨G1, l1, R1, out⟩ := R.bor
    exact ⟨O, _, _, _, _, noX, by omega, R1, q, fun ds ρ' a G' H' l R' n ⟨hf, k⟩ => by
      obtain ⟨xs, hO, r, R2⟩ := n.ex
      exact pe ds ρ a G H' (Le.refl G) (out _ O G' ρ' H' (Le.refl O) l R') ⟨xs, hO, flat_all hf r, out _ _ G' ρ' H' (Le.upd hO) l R2⟩ k, noX_postW⟩⟩
end

/-! ### methods of texts -/
/-- s.m(e): g by the text and the argument -/
def dMS (g : Str → D → (D → Prop) → Prop) (da db : DEx) : DEx := fun ρ Ψ Φ => da ρ (fun x ρ1 => match x with
  | .str s => db ρ1 (fun y ρ2 => g s y fun z => Ψ z ρ2) Φ
  | _ => False) Φ
def oMS (g : Str → D → (List D → Prop) → Prop) (da db : DEx) : DOx := fun ρ Ψ Φ => da ρ (fun x ρ1 => match x with
  | .str s => db ρ1 (fun y ρ2 => g s y fun z => Ψ z ρ2) Φ
  | _ => False) Φ
def SndM (X : Cx) (A : Amb) (r : V → List V → Hp → VK → Prop) (g : Str → D → (D → Prop) → Prop) : Prop := ∀ O G ρ t σ H s y u Q κ, Rel X.K A t O G ρ σ H → Rp G y u → g s y κ →
  (∀ z w G' H', Le G G' → Rel X.K A t O G' ρ σ H' → Rp G' z w → κ z → Q w H') → r (.str s) [u] H Q
def SndMO (X : Cx) (A : Amb) (r : V → List V → Hp → VK → Prop) (g : Str → D → (List D → Prop) → Prop) : Prop := ∀ O G ρ t σ H s y u Q κ, Rel X.K A t O G ρ σ H → Rp G y u → g s y κ →
  (∀ ds a G' H', Le G G' → Rel X.K A t O G' ρ σ H' → NewL X.K A t O σ ds a G' ρ H' → κ ds → Q (.ref a) H') → r (.str s) [u] H Q
section
variable {X : Cx} {A : Amb} {W : WX} {c0 ca cb cc cr ce : Nat} {a b : Expr} {da db : DEx} {apos pos p : Pos} {x nm : Str} {fid : String}
theorem de_ms {r : V → List V → Hp → VK → Prop} {g : Str → D → (D → Prop) → Prop} (slot : Slot "str" nm fid) (ty : typeOf (.builtin fid) = pure (.type "method_descriptor")) (rule : MtR X fid r) (hg : SndM X A r g) (ha : DE X A W ca a da) (hb : DE X A W cb b db)
    (hs : starEach [b] X.env = [(false, eval b X.env)] := by rfl) (hbase : attributeBase a nm X.env (eval a X.env) = eval a X.env := by rfl) (hline : (apos.endLine == pos.line) = true := by rfl) : DE X A W (ca + cb) (.Call (.Attribute a nm apos) [b] [] pos) (dMS g da db) :=
  ⟨PE.weak (pe_m1 slot ty rule ha.pe hb.pe hs hbase hline) fun σ H Q ⟨O, G, ρ, t, Ψ, Φ, le, R, q, pe, px⟩ => ⟨O, G, ρ, t, _, Φ, by omega, R, q, fun x ρ1 v G1 H1 l1 R1 rx q1 => by
    cases x with
    | str s =>
      simp only [Rp] at rx
      subst rx
      refine ⟨⟨s, rfl⟩, O, G1, ρ1, _, _, Φ, by omega, R1, q1, fun y ρ2 u G2 H2 l2 R2 ry q2 => ?_, (px.le l1).dn (by omega)⟩
      exact hg O G2 ρ2 _ σ H2 s y u Q _ R2 ry q2 fun z w G3 H3 l3 R3 rz k => pe z ρ2 w G3 H3 ((l1.trans l2).trans l3) (R3.up (by omega)) rz k
    | _ => exact q1.elim, px.dn (by omega)⟩⟩
theorem do_ms {r : V → List V → Hp → VK → Prop} {g : Str → D → (List D → Prop) → Prop} (slot : Slot "str" nm fid) (ty : typeOf (.builtin fid) = pure (.type "method_descriptor")) (rule : MtR X fid r) (hg : SndMO X A r g) (ha : DE X A W ca a da) (hb : DE X A W cb b db)
    (hs : starEach [b] X.env = [(false, eval b X.env)] := by rfl) (hbase : attributeBase a nm X.env (eval a X.env) = eval a X.env := by rfl) (hline : (apos.endLine == pos.line) = true := by rfl) : DO X A W (ca + cb) (.Call (.Attribute a nm apos) [b] [] pos) (oMS g da db) :=
  ⟨PE.weak (pe_m1 slot ty rule ha.pe hb.pe hs hbase hline) fun σ H Q ⟨O, G, ρ, t, Ψ, Φ, le, R, q, pe, px⟩ => ⟨O, G, ρ, t, _, Φ, by omega, R, q, fun x ρ1 v G1 H1 l1 R1 rx q1 => by
    cases x with
    | str s =>
      simp only [Rp] at rx
      subst rx
      refine ⟨⟨s, rfl⟩, O, G1, ρ1, _, _, Φ, by omega, R1, q1, fun y ρ2 u G2 H2 l2 R2 ry q2 => ?_, (px.le l1).dn (by omega)⟩
      exact hg O G2 ρ2 _ σ H2 s y u Q _ R2 ry q2 fun z w G3 H3 l3 R3 rz k => pe z ρ2 w G3 H3 ((l1.trans l2).trans l3) (R3.up (by omega)) (rz.up (by omega)) k
    | _ => exact q1.elim, px.dn (by omega)⟩⟩
def gSw (s : Str) (y : D) (κ : D → Prop) : Prop := match y with
  | .str t => κ (.bool (Txt.startswith s t))
  | _ => False
theorem de_sw (ha : DE X A W ca a da) (hb : DE X A W cb b db) (hs : starEach [b] X.env = [(false, eval b X.env)] := by rfl) (hbase : attributeBase a "startswith" X.env (eval a X.env) = eval a X.env := by rfl) (hline : (apos.endLine == pos.line) = true := by rfl) :
    DE X A W (ca + cb) (.Call (.Attribute a "startswith" apos) [b] [] pos) (dMS gSw da db) :=
  de_ms F.slot_str_startswith F.type_str_startswith mt_startswith (fun O G ρ t σ H s y u Q κ R ry q k => by
    cases y with
    | str t =>
      simp only [Rp] at ry
      exact ⟨s, t, rfl, by rw [ry], k _ _ G H (Le.refl G) R (by simp only [Rp]) q⟩
    | _ => exact q.elim) ha hb hs hbase hline
def gJoin (s : Str) (y : D) (κ : D → Prop) : Prop := match y with
  | .list ds => ∃ ys : List Str, ds = ys.map .str ∧ (ys.map (·.length)).sum + ys.length * s.length ≤ 16777216 ∧ κ (.str (Txt.join s ys))
  | _ => False
theorem de_join (ha : DE X A W ca a da) (hb : DE X A W cb b db) (hs : starEach [b] X.env = [(false, eval b X.env)] := by rfl) (hbase : attributeBase a "join" X.env (eval a X.env) = eval a X.env := by rfl) (hline : (apos.endLine == pos.line) = true := by rfl) :
    DE X A W (ca + cb) (.Call (.Attribute a "join" apos) [b] [] pos) (dMS gJoin da db) :=
  de_ms F.slot_str_join F.type_str_join mt_join (fun O G ρ t σ H s y u Q κ R ry q k => by
    cases y with
    | list ds =>
      obtain ⟨ys, rfl, hz, q⟩ := q
      simp only [Rp] at ry
      obtain ⟨p, xs, rfl, h, r⟩ := ry
      rw [RpAll.strs r] at h
      exact ⟨s, p, ys, rfl, rfl, .inl (SqL.of (R.hs.gh _ _ h)), hz, k _ _ G H (Le.refl G) R (by simp only [Rp]) q⟩
    | _ => exact q.elim) ha hb hs hbase hline
def gSplit (s : Str) (y : D) (κ : List D → Prop) : Prop := match y with
  | .str t => (t.length == 0) = false ∧ s.length + 2 ≤ sizeLine ∧ κ ((Txt.split s t).map .str)
  | _ => False
theorem do_split (ha : DE X A W ca a da) (hb : DE X A W cb b db) (hs : starEach [b] X.env = [(false, eval b X.env)] := by rfl) (hbase : attributeBase a "split" X.env (eval a X.env) = eval a X.env := by rfl) (hline : (apos.endLine == pos.line) = true := by rfl) :
    DO X A W (ca + cb) (.Call (.Attribute a "split" apos) [b] [] pos) (oMS gSplit da db) :=
  do_ms F.slot_str_split F.type_str_split mt_split (fun O G ρ t σ H s y u Q κ R ry q k => by
    cases y with
    | str t =>
      simp only [Rp] at ry
      refine ⟨s, t, rfl, by rw [ry], q.1, q.2.1, fun p hp => ?_⟩
      have n4 := R.newL hp (RpAll.of_strs (G := G) (Txt.split s t))
      exact k _ p G _ (Le.refl G) n4.rel n4 q.2.2
    | _ => exact q.elim) ha hb hs hbase hline
/-- s.upper() -/
def dUp (da : DEx) : DEx := fun ρ Ψ Φ => da ρ (fun x ρ1 => match x with
  | .str s => s.length ≤ 5592405 ∧ Ψ (.str (Txt.upper s)) ρ1
  | _ => False) Φ
theorem de_up (ha : DE X A W ca a da) (hbase : attributeBase a "upper" X.env (eval a X.env) = eval a X.env := by rfl) (hline : (apos.endLine == pos.line) = true := by rfl) : DE X A W ca (.Call (.Attribute a "upper" apos) [] [] pos) (dUp da) :=
  ⟨PE.weak (pe_upper ha.pe hbase hline) fun σ H Q ⟨O, G, ρ, t, Ψ, Φ, le, R, q, pe, px⟩ => ⟨O, G, ρ, t, _, Φ, by omega, R, q, fun x ρ1 v G1 H1 l1 R1 rx q1 => by
    cases x with
    | str s =>
      simp only [Rp] at rx
      subst rx
      exact ⟨⟨s, rfl⟩, s, rfl, rfl, q1.1, pe _ ρ1 _ G1 H1 l1 (R1.up (by omega)) (by simp only [Rp]) q1.2⟩
    | _ => exact q1.elim, px.dn (by omega)⟩⟩

/-! ### xs.index(y), a list that nobody changes -/
def gIx (ds : List D) (y : D) (κ : D → Prop) : Prop := SeqAt.shaped (.list ds) = true ∧ SeqAt.shaped y = true ∧ ∃ (j : Nat) (z : D), ds[j]? = some z ∧ PyData.eqv z y = true ∧ (∀ (m : Nat) (z' : D), m < j → ds[m]? = some z' → PyData.eqv z' y = false) ∧ κ (.int (j : Nat))
def dIx (da db : DEx) : DEx := fun ρ Ψ Φ => da ρ (fun x ρ1 => match x with
  | .list ds => db ρ1 (fun y ρ2 => gIx ds y fun z => Ψ z ρ2) Φ
  | _ => False) Φ
theorem de_ix {k : Nat} (hr : Room (k + 1) X.A) (ha : DE X A W ca a da) (hb : DE X A W cb b db) (hbase : attributeBase a "index" X.env (eval a X.env) = eval a X.env := by rfl)
    (hfew : ((backTo pos (starEach [b] X.env)).all (fun x => !x.1) && (backToKw pos (keywordEach [] X.env)).all (fun x => x.1.isSome) && decide ([b].length + ([] : List Keyword).length + (if ([] : List Keyword).isEmpty then 0 else 1) < 30)) = true := by rfl)
    (hline : (apos.endLine == pos.line) = true := by rfl) (hs : starEach [b] X.env = (false, eval b X.env) :: starEach [] X.env := by rfl) (hplain : (backTo pos (starEach [] X.env)).any (·.1) = false := by rfl) : DE X A W (ca + cb) (.Call (.Attribute a "index" apos) [b] [] pos) (dIx da db) :=
  ⟨PE.weak (pe_bm F.plainAttrs_list F.slot_list_index F.type_list_index (mt_indexD (room65 hr)) ha.pe (pa_cons hb.pe pa_nil hs) hbase hfew hline hs hplain) fun σ H Q ⟨O, G, ρ, t, Ψ, Φ, le, R, q, pe, px⟩ => ⟨O, G, ρ, t, _, Φ, by omega, R, q, fun x ρ1 v G1 H1 l1 R1 rx q1 => by
    cases x with
    | list ds =>
      have rx0 := rx
      simp only [Rp] at rx
      obtain ⟨p, xs, rfl, h, r⟩ := rx
      refine ⟨.inl ⟨rfl, xs, SqL.of (R1.hs.gh _ _ h)⟩, O, G1, ρ1, _, _, Φ, by omega, R1, q1, fun y ρ2 u G2 H2 l2 R2 ry ⟨s1, s2, j, z, h1, h2, h3, q2⟩ => ?_, (px.le l1).dn (by omega)⟩
      refine ⟨p, u, y, ds, j, z, rfl, rfl, ?_, ?_, s1, s2, h1, h2, h3, pe _ ρ2 _ G2 H2 (l1.trans l2) (R2.up (by omega)) (by simp only [Rp]) q2⟩
      · exact Dp.mono (l2.trans R2.hs.gh) _ _ (Rp.dp _ _ (shaped_nodict s1) rx0)
      · exact Dp.mono R2.hs.gh _ _ (Rp.dp _ _ (shaped_nodict s2) ry)
    | _ => exact q1.elim, px.dn (by omega)⟩⟩
end

/-! ### lists of one's own change -/
section
variable {K : PySem.W.Frag} {A : Amb} {t : Nat} {O G H : Hp} {ρ : Sl} {σ : L2.St}
theorem Rel.owAt (R : Rel K A t O G ρ σ H) {i : Nat} {ds : List D} (he : ρ[i]? = some (.ow ds)) : ∃ a xs, σ[i]? = some (some (V.ref a)) ∧ H a = some (.lst xs) ∧ RpAll G ds xs ∧
    ∀ es ys, RpAll G es ys → Rel K A t O G (ρ.set i (.ow es)) σ (L2.upd H a (.lst ys)) := by
  obtain ⟨F, w, en⟩ := R.ex
  obtain ⟨a, xs, hs, h2, h3⟩ := en i _ he
  refine ⟨a, xs, hs, w.le i _ _ h2, h3, fun es ys r => ?_⟩
  have g := w.g i _ _ h2
  have o := w.o i _ _ h2
  have f := w.f i _ _ h2
  obtain ⟨a1, a2⟩ := A.fp_upd (o := .lst ys) R.hs.at_ f
  have hi : i < ρ.length := (List.getElem?_eq_some_iff.mp he).1
  have ne : ∀ j b u, j ≠ i → F j b = some u → b ≠ a := fun j b u hj q z => by
    subst z
    rw [w.d i j b _ (fun z => hj z.symm) h2] at q
    cases q
  refine ⟨R.hs.upd g o f, by rw [List.length_set]; exact R.ln, fun j => if j = i then single a (.lst ys) else F j, ⟨fun j b u q => ?_, fun j b u q => ?_, fun j b u q => ?_, fun j b u q z => ?_, fun j j' b u nj q => ?_⟩, fun j e hj => ?_⟩
  · split at q
    · obtain ⟨rfl, rfl⟩ := single_at q
      exact upd_same
    · rename_i hj
      rw [upd_ne (ne j b u hj q)]
      exact w.le j b u q
  · split at q
    · obtain ⟨rfl, rfl⟩ := single_at q
      exact g
    · exact w.g j b u q
  · split at q
    · obtain ⟨rfl, rfl⟩ := single_at q
      exact o
    · exact w.o j b u q
  · split at q
    · obtain ⟨rfl, rfl⟩ := single_at q
      exact f (a2 _ z)
    · exact w.f j b u q (a2 _ z)
  · split at q
    · rename_i hj
      obtain ⟨rfl, rfl⟩ := single_at q
      rw [if_neg (fun z => nj (hj.trans z.symm))]
      cases z : F j' b with
      | none => rfl
      | some u2 => exact absurd rfl (ne j' b u2 (fun z => nj (hj.trans z.symm)) z)
    · rename_i hj
      split
      · cases z : single a (HO.lst ys) b with
        | none => rfl
        | some u2 =>
          obtain ⟨rfl, _⟩ := single_at z
          exact absurd rfl (ne j b u hj q)
      · exact w.d j j' b u nj q
  · by_cases hji : i = j
    · subst hji
      rw [List.getElem?_set_self hi] at hj
      cases hj
      refine ⟨a, ys, hs, ?_, r⟩
      dsimp only
      rw [if_pos rfl]
      exact if_pos rfl
    · rw [List.getElem?_set_ne hji] at hj
      dsimp only
      rw [if_neg (fun z => hji z.symm)]
      exact en j e hj
end
/-- xs.m(e), xs a list of one's own: the new list -/
def sMut (i : Nat) (g : List D → D → (List D → Prop) → Prop) (d : DEx) : DSx := fun ρ E => match atS ρ i with
  | .ow _ => d ρ (fun y ρ1 => match atS ρ1 i with
    | .ow ds => g ds y fun es => E.nx (ρ1.set i (.ow es))
    | _ => False) E.ex
  | _ => False
def gApp (ds : List D) (y : D) (κ : List D → Prop) : Prop := ds.length < sizeLine ∧ κ (ds ++ [y])
def gExt (ds : List D) (y : D) (κ : List D → Prop) : Prop := match y with
  | .list es => ds.length + es.length ≤ sizeLine ∧ κ (ds ++ es)
  | _ => False
section
variable {X : Cx} {A : Amb} {W : WX} {c0 ca cb cc cr ce : Nat} {e : Expr} {d : DEx} {x nm : Str} {p apos pos spos : Pos} {fid : String} {i : Nat}
theorem ds_mut {r : V → List V → Hp → VK → Prop} {g : List D → D → (List D → Prop) → Prop} (i : Nat) (slot : Slot "list" nm fid) (ty : typeOf (.builtin fid) = pure (.type "method_descriptor")) (rule : MtR X fid r)
    (hg : ∀ (G H : Hp) a ds xs y u κ Q, Le G H → H a = some (.lst xs) → RpAll G ds xs → Rp G y u → g ds y κ → (∀ es ys, RpAll G es ys → κ es → Q .non (upd H a (.lst ys))) → r (.ref a) [u] H Q)
    (he : DE X A W ce e d) (hN : X.N[i]? = some x := by rfl) (hv : Vis X.env.scope x := by first | exact Or.inl rfl | exact Or.inr (Or.inl rfl) | exact Or.inr (Or.inr rfl)) (hd : (x == ("__debug__" : Str)) = false := by decide) (hcd : (x == ("__classdict__" : Str)) = false := by decide)
    (hbase : attributeBase (.Name x p) nm X.env (eval (.Name x p) X.env) = eval (.Name x p) X.env := by rfl)
    (hfew : ((backTo pos (starEach [e] X.env)).all (fun x => !x.1) && (backToKw pos (keywordEach [] X.env)).all (fun x => x.1.isSome) && decide ([e].length + ([] : List Keyword).length + (if ([] : List Keyword).isEmpty then 0 else 1) < 30)) = true := by rfl)
    (hline : (apos.endLine == pos.line) = true := by rfl) (hs : starEach [e] X.env = (false, eval e X.env) :: starEach [] X.env := by rfl) (hplain : (backTo pos (starEach [] X.env)).any (·.1) = false := by rfl)
    (hsw : swapsWith (.Call (.Attribute (.Name x p) nm apos) [e] [] pos) none spos.line X.env = pure false := by rfl) : DS X A W ce (.Expr (.Call (.Attribute (.Name x p) nm apos) [e] [] pos) spos) (sMut i g d) :=
  ⟨PS.weak (ps_expr (pe_bm F.plainAttrs_list slot ty rule (pe_var hN hv hd hcd) (pa_cons he.pe pa_nil hs) hbase hfew hline hs hplain) hsw) fun D σ H ⟨O, G, ρ, t, E, le, R, q, ok⟩ => by
    unfold sMut at q
    cases h0 : atS ρ i with
    | ow ds0 =>
      rw [h0] at q
      obtain ⟨a, xs, e1, e2, e3, _⟩ := R.owAt (atS_get h0 (fun z => nomatch z))
      refine ⟨_, e1, .inl ⟨rfl, xs, SqL.of e2⟩, O, G, ρ, _, _, E.ex, by omega, R, q, fun y ρ1 u G1 H1 l1 R1 ry q1 => ?_, (ok.ex σ).dn (by omega)⟩
      dsimp only at q1
      cases h1 : atS ρ1 i with
      | ow ds =>
        rw [h1] at q1
        obtain ⟨a', xs', f1, f2, f3, f4⟩ := R1.owAt (atS_get h1 (fun z => nomatch z))
        rw [e1] at f1
        cases f1
        exact hg G1 H1 a ds xs' y u _ _ R1.hs.gh f2 f3 ry q1 fun es ys r k => ok.nx _ σ G1 _ l1 (f4 es ys r) k
      | _ =>
        rw [h1] at q1
        exact q1.elim
    | _ =>
      rw [h0] at q
      exact q.elim⟩
theorem ds_app (i : Nat) (he : DE X A W ce e d) (hN : X.N[i]? = some x := by rfl) (hv : Vis X.env.scope x := by first | exact Or.inl rfl | exact Or.inr (Or.inl rfl) | exact Or.inr (Or.inr rfl)) (hd : (x == ("__debug__" : Str)) = false := by decide) (hcd : (x == ("__classdict__" : Str)) = false := by decide)
    (hbase : attributeBase (.Name x p) "append" X.env (eval (.Name x p) X.env) = eval (.Name x p) X.env := by rfl)
    (hfew : ((backTo pos (starEach [e] X.env)).all (fun x => !x.1) && (backToKw pos (keywordEach [] X.env)).all (fun x => x.1.isSome) && decide ([e].length + ([] : List Keyword).length + (if ([] : List Keyword).isEmpty then 0 else 1) < 30)) = true := by rfl)
    (hline : (apos.endLine == pos.line) = true := by rfl) (hs : starEach [e] X.env = (false, eval e X.env) :: starEach [] X.env := by rfl) (hplain : (backTo pos (starEach [] X.env)).any (·.1) = false := by rfl)
    (hsw : swapsWith (.Call (.Attribute (.Name x p) "append" apos) [e] [] pos) none spos.line X.env = pure false := by rfl) : DS X A W ce (.Expr (.Call (.Attribute (.Name x p) "append" apos) [e] [] pos) spos) (sMut i gApp d) :=
  ds_mut i F.slot_list_append F.type_list_append mt_append (fun G H a ds xs y u κ Q l h r ry q k => ⟨a, xs, u, rfl, rfl, h, by rw [RpAll.length r]; exact q.1, k _ _ (RpAll.append r (RpAll.cons ry RpAll.nil)) q.2⟩) he hN hv hd hcd hbase hfew hline hs hplain hsw
theorem ds_ext (i : Nat) (he : DE X A W ce e d) (hN : X.N[i]? = some x := by rfl) (hv : Vis X.env.scope x := by first | exact Or.inl rfl | exact Or.inr (Or.inl rfl) | exact Or.inr (Or.inr rfl)) (hd : (x == ("__debug__" : Str)) = false := by decide) (hcd : (x == ("__classdict__" : Str)) = false := by decide)
    (hbase : attributeBase (.Name x p) "extend" X.env (eval (.Name x p) X.env) = eval (.Name x p) X.env := by rfl)
    (hfew : ((backTo pos (starEach [e] X.env)).all (fun x => !x.1) && (backToKw pos (keywordEach [] X.env)).all (fun x => x.1.isSome) && decide ([e].length + ([] : List Keyword).length + (if ([] : List Keyword).isEmpty then 0 else 1) < 30)) = true := by rfl)
    (hline : (apos.endLine == pos.line) = true := by rfl) (hs : starEach [e] X.env = (false, eval e X.env) :: starEach [] X.env := by rfl) (hplain : (backTo pos (starEach [] X.env)).any (·.1) = false := by rfl)
    (hsw : swapsWith (.Call (.Attribute (.Name x p) "extend" apos) [e] [] pos) none spos.line X.env = pure false := by rfl) : DS X A W ce (.Expr (.Call (.Attribute (.Name x p) "extend" apos) [e] [] pos) spos) (sMut i gExt d) :=
  ds_mut i F.slot_list_extend F.type_list_extend mt_extend (fun G H a ds xs y u κ Q l h r ry q k => by
    cases y with
    | list es =>
      simp only [Rp] at ry
      obtain ⟨b, zs, rfl, hb, rz⟩ := ry
      exact ⟨a, b, xs, zs, rfl, rfl, h, l _ _ hb, by rw [RpAll.length r, RpAll.length rz]; exact q.1, k _ _ (RpAll.append r rz) q.2⟩
    | _ => exact q.elim) he hN hv hd hcd hbase hfew hline hs hplain hsw
end
/-! ### x op= e, a, b = e, f -/
def sAug (i : Nat) (g : G2) (d : DEx) : DSx := fun ρ E => match atS ρ i with
  | .fz x => d ρ (fun y ρ1 => g x y fun z => E.nx (ρ1.set i (.fz z))) E.ex
  | _ => False
def setEs : List Nat → List Ent → Sl → Option Sl
  | [], [], ρ => some ρ
  | i :: is, .fz d :: es, ρ => setEs is es (ρ.set i (.fz d))
  | _, _, _ => none
def sPar (is : List Nat) (d : DAx) : DSx := fun ρ E => d ρ (fun es ρ1 => match setEs is es ρ1 with
  | some ρ2 => E.nx ρ2
  | none => False) E.ex
section
variable {X : Cx} {A : Amb} {W : WX} {c0 ca cb cc cr ce : Nat} {e a b c : Expr} {d : DEx} {dr : DAx} {x y z : Str} {p pos px py pz pt : Pos} {i j l : Nat} {kt k2} {pt2 : Pos}
theorem ds_aug {op : Operator} {r : R2} {g : G2} (ho : OpR X (inplaceOp op) r) (hs : Snd2 X A r g) (hN : X.N.Nodup) (hi : X.N[i]? = some x) (hx : Loc X.env.scope x) (he : DE X A W ce e d)
    (hf : X.fn x = true ∨ X.env.scope.names.lookup x = some .local := by first | exact .inl rfl | exact .inr rfl | assumption) : DS X A W ce (.AugAssign (.Name x p) op e pos) (sAug i g d) :=
  ⟨PS.weak (ps_aug hN hi hx he.pe ho hf) fun D σ H ⟨O, G, ρ, t, E, le, R, q, ok⟩ => by
    unfold sAug at q
    cases h0 : atS ρ i with
    | fz x =>
      rw [h0] at q
      obtain ⟨v, e1, e2⟩ := R.fzAt (atS_get h0 (fun z => nomatch z))
      exact ⟨v, e1, O, G, ρ, _, _, E.ex, by omega, R, q, fun y ρ1 u G1 H1 l1 R1 ry q1 => hs O G1 ρ1 _ σ H1 x y v u _ _ R1 (Rp.mono l1 x v e2) ry q1 fun z w G3 H3 l3 R3 rz k => ok.nx _ _ G3 H3 (l1.trans l3) (R3.setF i rz) k, (ok.ex σ).dn (by omega)⟩
    | _ =>
      rw [h0] at q
      exact q.elim⟩
theorem ds_par2 (hc : X.calm = true) (hN : X.N.Nodup) (hi : X.N[i]? = some x) (hj : X.N[j]? = some y) (hij : i ≠ j) (hx : X.env.scope.names.lookup x = some .local) (hy : X.env.scope.names.lookup y = some .local) (ha : DA X A W ca [a, b] dr)
    (hw : swappedStores [.Tuple [.Name x px, .Name y py] kt pt] (.Tuple [a, b] k2 pt2) X.env = pure (some [x, y])) (hs : swapsWithSole [.Tuple [.Name x px, .Name y py] kt pt] (.Tuple [a, b] k2 pt2) pos.line X.env = pure false := by rfl) :
    DS X A W ca (.Assign [.Tuple [.Name x px, .Name y py] kt pt] (.Tuple [a, b] k2 pt2) pos) (sPar [i, j] dr) :=
  ⟨PS.weak (ps_par hc hN hi hj hij hx hy ha.pa hw hs) fun D σ H ⟨O, G, ρ, t, E, le, R, q, ok⟩ => ⟨O, G, ρ, _, _, E.ex, by omega, R, q, fun es ρ1 vs G1 H1 l1 R1 as q1 => by
    match es, as, q1 with
    | [.fz d1, .fz d2], as, q1 =>
      obtain ⟨v, t, rfl, h1, u, t', rfl, h2, rfl⟩ := as
      exact ⟨v, u, rfl, ok.nx _ _ G1 H1 l1 ((R1.setF i h1).setF j h2) q1⟩
    | [], _, q1 => exact q1.elim
    | [.un], _, q1 => exact q1.elim
    | [.fz _], _, q1 => exact q1.elim
    | [.ow _], _, q1 => exact q1.elim
    | [.od _], _, q1 => exact q1.elim
    | [.dk], _, q1 => exact q1.elim
    | [.sc _], _, q1 => exact q1.elim
    | [.pv _], _, q1 => exact q1.elim
    | .pv _ :: _ :: _, _, q1 => exact q1.elim
    | .fz _ :: .pv _ :: _, _, q1 => exact q1.elim
    | .un :: _ :: _, _, q1 => exact q1.elim
    | .ow _ :: _ :: _, _, q1 => exact q1.elim
    | .od _ :: _ :: _, _, q1 => exact q1.elim
    | .dk :: _ :: _, _, q1 => exact q1.elim
    | .sc _ :: _ :: _, _, q1 => exact q1.elim
    | .fz _ :: .un :: _, _, q1 => exact q1.elim
    | .fz _ :: .ow _ :: _, _, q1 => exact q1.elim
    | .fz _ :: .od _ :: _, _, q1 => exact q1.elim
    | .fz _ :: .dk :: _, _, q1 => exact q1.elim
    | .fz _ :: .sc _ :: _, _, q1 => exact q1.elim
    | .fz _ :: .fz _ :: _ :: _, _, q1 => exact q1.elim, (ok.ex σ).dn (by omega)⟩⟩
/-- a, b, .. = e, e a tuple -/
def sUnp (t : Tg) (d : DEx) : DSx := fun ρ E => d ρ (fun x ρ1 => match t.bind x ρ1 with
  | some ρ2 => E.nx ρ2
  | none => False) E.ex
theorem ds_unp {tg : Expr} {t : Tg} (he : DE X A W ce e d) (hg : DG X A tg t) (hs : swapsWithSole [tg] e pos.line X.env = pure false := by rfl) (hw : swappedStores [tg] e X.env = pure none := by rfl) (h1 : (assignEach [tg] X.env).map (·.2) = [assign tg X.env] := by rfl) : DS X A W ce (.Assign [tg] e pos) (sUnp t d) :=
  ⟨PS.weak (ps_asg he.pe hg.pg hs hw h1) fun D σ H ⟨O, G, ρ, n, E, le, R, q, ok⟩ => ⟨O, G, ρ, _, _, E.ex, by omega, R, q, fun x ρ1 v G1 H1 l1 R1 rx q1 => by
    dsimp only at q1
    cases hb : t.bind x ρ1 with
    | none =>
      rw [hb] at q1
      exact q1.elim
    | some ρ2 =>
      rw [hb] at q1
      exact ⟨O, G1, ρ1, _, x, ρ2, R1, rx, hb, fun σ' R' _ => ok.nx ρ2 σ' G1 H1 l1 (R'.up (by omega)) q1⟩, (ok.ex σ).dn (by omega)⟩⟩
end
end TM
namespace TM
open L2 PySem.Spec PySem PyProof.Rows

/-! ### defs that are run where no repr is under way (repr asks for it) -/
structure FnG (P : Program) (w : World) (K : PySem.W.Frag) (mg : Str → Option Value) (base : Heap) (k : Nat) (f : Addr) (fd : FuncData) (ps : List Str) (sp : Sp) : Prop where
  len : ∀ vs H Q E, sp vs H Q E → vs.length = ps.length
  run : ∀ (B : Around) (fr : List Env) (s : Shared) (H : Hp) (as : Args) (us : List Value) (vs : List V) (Q : VK) (E : XK), Room k B → B.guards = some [] → Env0 P w K mg base B fr s H → BindsTo s fd as (ps.zip us) → Vals vs us → sp vs H Q E →
    codeAny (model P w) B (.call (.ref f) as) (CR (L2.CX P w) fr P w H s Q E) s
theorem FnG.of {P : Program} {w : World} {K : PySem.W.Frag} {mg : Str → Option Value} {base : Heap} {k : Nat} {f : Addr} {fd : FuncData} {ps : List Str} {sp : Sp} (F : FnOk P w K mg base (L2.CX P w) k f fd ps sp) : FnG P w K mg base k f fd ps sp :=
  ⟨F.len, fun B fr s H as us vs Q E hr _ => F.run B fr s H as us vs Q E hr⟩
/-- a def by its body, where no repr is under way -/
theorem fnG_ok {P : Program} {w : World} {K : PySem.W.Frag} {mg : Str → Option Value} {base : Heap} {A : Amb} {x qual : Str} {params : Arguments} {body : List Stmt} {scope : Scope} {dvs : List V} {kws : List (Str × V)} {f : Addr} {fd : FuncData} {N ps : List Str} {k : Nat} {sp : Sp}
    (F : FunD K x qual params body scope dvs kws f fd) (S : FnScope N ps scope) (len : ∀ vs H Q E, sp vs H Q E → vs.length = ps.length)
    (hb : ∀ (cdv : Value) (B : Around) (fr : List Env) (s : Shared) (H : Hp) (vs : List V) (Q : VK) (E : XK), Room k (B.deeper (envOfC qual scope s.heap.objs.size f cdv)) → (B.deeper (envOfC qual scope s.heap.objs.size f cdv)).guards = some [] → sp vs H Q E →
      ∃ t, PSs (cxOf (L2.CX P w) P w K mg base N qual scope f cdv B fr s H E) body t ∧ t { nx := fun _ H' => Q .non H', rt := Q } (L2.start N vs) H) : FnG P w K mg base (k + 1) f fd ps sp := by
  obtain ⟨oc, od, dV, kV, doc, pm, an, cdv, ct, osl, rfl, lk, hcd, _, _⟩ := F.ex
  refine ⟨len, fun B fr s H as us vs Q E hr hgu e0 bnd rv q => ?_⟩
  have stay : ∀ b o, base.get? b = some o → s.heap.get? b = some o := fun b o z => (e0.bs b o z).1
  have inK : K.In s.heap := e0.mod.kin.keeps stay
  have nolim : s.heap.NoLimit := e0.mod.nolimit.keeps stay
  have kinds : ∀ y ∈ ps.zip us, scope.names.lookup y.1 = some .local ∨
      (scope.names.lookup y.1 = some .cell ∧ ((cellsFrom (s.heap.objs.size + 1) scope.names []).lookup y.1).isSome = true) := by
    rintro ⟨n, v⟩ hy
    cases S.par n (List.of_mem_zip hy).1 with
    | inl z => exact .inl z
    | inr z => exact .inr ⟨z, PySem.W.cellsFrom_some _ _ _ (.inl z)⟩
  have cr := PySem.W.codeRec_of inK hcd
  refine codeAny_call_function (hr.depth)
    (inK _ _ lk) rfl S.co S.gen rfl cr (bnd _ _ _ _ ?_)
  refine wpAny_newFunctionEnv_cells S.kind kinds
    fun env he s1 z => ?_
  subst he
  refine ⟨nolim.keeps z.toInCall.keep, codeAny_func ?_⟩
  obtain ⟨t, ht, hq⟩ := hb cdv B fr s H vs Q E (hr.deeper _)
    (show B.guards = some [] from hgu) q
  have J : Inv (cxOf (L2.CX P w) P w K mg base N qual scope f cdv B fr s H E) []
      (L2.start N vs) H s1 := inv_start S hr.hd e0 (len _ _ _ _ q) rv z
  refine wpAny_mono (ht.run [] s1 (L2.start N vs) H _ J hq)
    (fun fl s' hs => ?_) fun _ _ hs => hs
  cases fl with
  | ret u =>
    obtain ⟨v, σ', H', I', r', q'⟩ := hs
    exact ⟨v, H', I'.os, I'.bare, I'.base, I'.hok, r', q'⟩
  | next =>
    obtain ⟨σ', H', I', q'⟩ := hs
    exact ⟨V.non, H', I'.os, I'.bare, I'.base, I'.hok, (rfl : Value.none = Value.none), q'⟩
  | brk => exact hs.elim fun _ h => h.elim fun _ h => h.2.elim
  | cont => exact hs.elim fun _ h => h.elim fun _ h => h.2.elim
section
variable {X : Cx} {A : Amb} {W : WX} {c0 ca cb cc cr ce cf : Nat} {a : Expr} {es : List Expr} {dr : DAx} {t : TA} {pos p : Pos} {k : Nat} {f : Addr} {fd : FuncData} {ps : List Str} {sp : DSp} {x : Str}
theorem pe_callG {sp : Sp} {E : L2.St → XK} (F : FnG X.prog X.w X.K X.mg X.base k f fd ps sp) (hr : Room k X.A) (hgu : X.A.guards = some []) (hg : Gl X x) (hm : X.mg x = some (.ref f)) (hk : PySem.W.keepIn X.K (.ref f) = true) (hb : Binds X.K fd ps [])
    (hx : ∀ σ, PassesAt (L2.CX X.prog X.w) X σ (E σ)) (ha : PA X (a :: es) t) (hdb : (x == ("__debug__" : Str)) = false) (he : starEach (a :: es) X.env = (false, eval a X.env) :: starEach es X.env) (hpl : (backTo pos (starEach es X.env)).any (·.1) = false) :
    PE X (.Call (.Name x p) (a :: es) [] pos) (tCallS sp E t) := by
  refine ⟨fun pins s σ H Q I h => wpAny_Call_Name_kw (ld_glob I hg hm ?_ hdb)⟩
  refine PySem.W.callWith_K (h₀ := X.base) I.ok.mod.kin hk
    (thn (ha.run pos pins s σ H _ I h) fun us s1 z => ?_) he hpl
  obtain ⟨vs, H1, I1, r, q⟩ := z
  refine ⟨I1.kIn, ?_⟩
  have n : us.length = ps.length := r.length.symm.trans (F.len _ _ _ _ q)
  have bn := hb s1 us I1.kIn (by rw [List.append_nil]; exact n)
  rw [List.append_nil] at bn
  have c := F.run X.A X.stack s1 H1 ⟨us, []⟩ us vs Q (E σ) hr hgu I1.env0 bn r q
  refine wpAny_call (codeAny_mono c fun rs s2 hq => ?_)
  match rs, hq with
  | .error e, hq => exact hx σ pins H1 s1 e s2 I1 hq
  | .ok (.ret u), hq => exact I1.after hq
  | .ok .next, hq => exact hq.elim
  | .ok .brk, hq => exact hq.elim
  | .ok .cont, hq => exact hq.elim
/-- a def of the text that may be called where no repr is under way -/
structure Fg (X : Cx) (A : Amb) (cf k : Nat) (x : Str) (ps : List Str) (sp : DSp) : Prop where
  ex : ∃ f fd, FnG X.prog X.w X.K X.mg X.base k f fd ps (liftSp X.K A cf sp) ∧ X.mg x = some (.ref f) ∧ PySem.W.keepIn X.K (.ref f) = true ∧ Binds X.K fd ps []
theorem FnG.mono {P : Program} {w : World} {K : PySem.W.Frag} {mg : Str → Option Value} {base : Heap} {j k : Nat} {sp : Sp} (F : FnG P w K mg base j f fd ps sp) (h : j ≤ k) : FnG P w K mg base k f fd ps sp :=
  ⟨F.len, fun B fr s H as us vs Q E hr => F.run B fr s H as us vs Q E (hr.mono h)⟩
theorem de_callG {j : Nat} (F : Fg X A cf j x ps sp) (hr : Room k X.A) (hgu : X.A.guards = some []) (tk : Takes X W) (ha : DA X A W ca (a :: es) dr) (hg : Gl X x := by rfl) (hjk : j ≤ k := by decide) (hdb : (x == ("__debug__" : Str)) = false := by decide) (he : starEach (a :: es) X.env = (false, eval a X.env) :: starEach es X.env := by rfl)
    (hpl : (backTo pos (starEach es X.env)).any (·.1) = false := by rfl) : DE X A W (ca + cf) (.Call (.Name x p) (a :: es) [] pos) (dCall sp dr) := by
  obtain ⟨f, fd, F1, hm, hk, hb⟩ := F.ex
  exact ⟨PE.weak (pe_callG F1 (hr.mono hjk) hgu hg hm hk hb (passAt tk) ha.pa hdb he hpl).lk fun _ _ _ => lift_call⟩
end

/-! ### repr -/
def gRepr : GL := fun ds κ => match ds with
  | [.list xs] => (PyData.list xs).showable = true ∧ (PyData.list xs).depth ≤ 50 ∧ (PyData.list xs).shown.length ≤ sizeLine ∧ κ (.str (PyData.list xs).shown)
  | [.tuple xs] => (PyData.tuple xs).showable = true ∧ (PyData.tuple xs).depth ≤ 50 ∧ (PyData.tuple xs).shown.length ≤ sizeLine ∧ κ (.str (PyData.tuple xs).shown)
  | _ => False
section
variable {X : Cx} {A : Amb} {W : WX} {c0 ca cb cc cr ce cf : Nat} {a : Expr} {dr : DAx} {pos p : Pos} {pins : List (Addr × Obj)} {σ : L2.St} {G H : Hp} {s : Shared}
theorem pairs_keys {P : Program} {w : World} {h : Heap} : ∀ {es : List DictEntry} {vs : List (Key × Value)} {kvs : List (D × D)} {ps : List (Key × V)}, Pairs (mixKind P w) es vs → KV ps vs → RpKv G kvs ps → ReadsAll h (es.map (·.key)) (kvs.map (·.1)) []
  | [], vs, kvs, ps, h1, h2, h3 => by
    cases h1
    cases h2
    cases kvs with
    | nil => exact .nil
    | cons q t =>
      obtain ⟨k, d⟩ := q
      simp only [RpKv] at h3
      obtain ⟨_, _, _, e, _⟩ := h3
      cases e
  | e :: es, vs, kvs, ps, h1, h2, h3 => by
    cases h1 with
    | cons hk hv ht =>
      cases h2 with
      | cons r t =>
        cases kvs with
        | nil =>
          simp only [RpKv] at h3
          cases h3
        | cons q kvs =>
          obtain ⟨k, d⟩ := q
          simp only [RpKv] at h3
          obtain ⟨q2, x, t2, e2, h4, h5, h6⟩ := h3
          cases e2
          have ih := pairs_keys (h := h) ht t h6
          have rd : Reads h e.key k [] := by
            rw [← h4]
            rcases keyIs_shape (show keyIs _ e.key = true from hk) with ⟨i, tk, e1, e3⟩ | ⟨y, tk, e1, e3⟩
            · have e5 : q2 = Sum.inl i := r.1.trans e1
              rw [e5, e3]
              exact .int i tk
            · have e5 : q2 = Sum.inr y := r.1.trans e1
              rw [e5, e3]
              exact .str y tk
          exact ReadsAll.cons rd ih
theorem pairs_vals {P : Program} {w : World} : ∀ {es : List DictEntry} {vs : List (Key × Value)}, Pairs (mixKind P w) es vs → es.map (·.val) = vs.map (·.2)
  | [], vs, h1 => by
    cases h1
    rfl
  | e :: es, vs, h1 => by
    cases h1 with
    | cons hk hv ht => rw [List.map_cons, List.map_cons, pairs_vals ht, hv]
mutual
/-- what stands for data is read as it -/
theorem Rp.reads (I : Inv X pins σ H s) (l : Le G H) (hm : H sysModules = none) : ∀ (d : D) (v : V) (u : Value), Rp G d v → RelV v u → ∃ as, Reads s.heap u d as ∧ sysModules ∉ as
  | .none, _, _, h, r => by
    simp only [Rp] at h
    subst h
    cases r
    exact ⟨_, Reads.none, fun z => nomatch z⟩
  | .bool b, _, _, h, r => by
    simp only [Rp] at h
    subst h
    cases r
    exact ⟨_, Reads.bool b, fun z => nomatch z⟩
  | .int i, _, _, h, r => by
    simp only [Rp] at h
    subst h
    obtain ⟨t, rfl⟩ := r
    exact ⟨_, Reads.int i t, fun z => nomatch z⟩
  | .str x, _, _, h, r => by
    simp only [Rp] at h
    subst h
    obtain ⟨t, rfl⟩ := r
    exact ⟨_, Reads.str x t, fun z => nomatch z⟩
  | .list ds, _, _, h, r => by
    simp only [Rp] at h
    obtain ⟨b, xs, rfl, hb, ra⟩ := h
    cases r
    obtain ⟨its, rv, ⟨o, n, ho, hc, _, hd⟩, _⟩ := I.list (SqL.of (l _ _ hb))
    obtain ⟨as, hr, hn⟩ := RpAll.reads I l hm ds xs its ra rv
    refine ⟨_, Reads.list ho hc hd hr, fun z => ?_⟩
    rcases List.mem_cons.mp z with z | z
    · have := l _ _ hb
      rw [← z, hm] at this
      cases this
    · exact hn z
  | .tuple ds, _, _, h, r => by
    simp only [Rp] at h
    obtain ⟨b, xs, rfl, hb, ra⟩ := h
    cases r
    obtain ⟨its, rv, ⟨o, ho, hc, n, hd⟩, _⟩ := I.tuple (SqT.of (l _ _ hb))
    obtain ⟨as, hr, hn⟩ := RpAll.reads I l hm ds xs its ra rv
    exact ⟨_, Reads.tuple ho hc hd hr, hn⟩
  | .dict kvs, _, _, h, r => by
    simp only [Rp] at h
    obtain ⟨b, od, ps, rfl, hb, ra⟩ := h
    cases r
    obtain ⟨_, hsm, vs, hkv, o, es, ep, ho, hx, hd, _, hp, _⟩ := (I.hok b _ (l _ _ hb)).2
    have hcls : o.cls = .type "dict" := hx.1
    obtain ⟨as, hr, hn⟩ := RpKv.reads I l hm kvs ps vs ra hkv
    refine ⟨_, Reads.dict ho hcls hd (pairs_keys hp hkv ra) (by rw [pairs_vals hp]; exact hr), fun z => ?_⟩
    rcases List.mem_append.mp z with z | z
    · rcases List.mem_cons.mp z with z | z
      · rw [← z] at hsm
        simp at hsm
      · cases z
    · exact hn z
theorem RpAll.reads (I : Inv X pins σ H s) (l : Le G H) (hm : H sysModules = none) : ∀ (ds : List D) (vs : List V) (us : List Value), RpAll G ds vs → Vals vs us → ∃ as, ReadsAll s.heap us ds as ∧ sysModules ∉ as
  | [], _, _, h, r => by
    simp only [RpAll] at h
    subst h
    cases r
    exact ⟨_, ReadsAll.nil, fun z => nomatch z⟩
  | d :: ds, _, _, h, r => by
    simp only [RpAll] at h
    obtain ⟨x, t, rfl, h1, h2⟩ := h
    cases r with
    | cons r1 r2 =>
      obtain ⟨as, q1, n1⟩ := Rp.reads I l hm d _ _ h1 r1
      obtain ⟨bs, q2, n2⟩ := RpAll.reads I l hm ds _ _ h2 r2
      exact ⟨_, ReadsAll.cons q1 q2, fun z => (List.mem_append.mp z).elim n1 n2⟩
theorem RpKv.reads (I : Inv X pins σ H s) (l : Le G H) (hm : H sysModules = none) : ∀ (kvs : List (D × D)) (ps : List (Key × V)) (vs : List (Key × Value)), RpKv G kvs ps → KV ps vs → ∃ as, ReadsAll s.heap (vs.map (·.2)) (kvs.map (·.2)) as ∧ sysModules ∉ as
  | [], _, _, h, r => by
    simp only [RpKv] at h
    subst h
    cases r
    exact ⟨_, ReadsAll.nil, fun z => nomatch z⟩
  | (k, d) :: kvs, _, _, h, r => by
    simp only [RpKv] at h
    obtain ⟨q, x, t, rfl, _, h1, h2⟩ := h
    cases r with
    | cons r1 r2 =>
      obtain ⟨as, q1, n1⟩ := Rp.reads I l hm d _ _ h1 r1.2
      obtain ⟨bs, q2, n2⟩ := RpKv.reads I l hm kvs _ _ h2 r2
      exact ⟨_, ReadsAll.cons q1 q2, fun z => (List.mem_append.mp z).elim n1 n2⟩
end
def rRepr (K : PySem.W.Frag) : List V → Hp → VK → Prop := fun vs H Q => ∃ (G : Hp) (d : D) (a : Addr), vs = [.ref a] ∧ Le G H ∧ Rp G d (.ref a) ∧ d.showable = true ∧ d.depth ≤ 50 ∧ d.shown.length ≤ sizeLine ∧ Q (.str d.shown) H
theorem call_repr {k : Nat} (hr : Room (k + 1) X.A) (hgu : X.A.guards = some []) (hsm : (X.K.lookup sysModules).isSome = true) : CallR X (.builtin "repr") (rRepr X.K) := by
  intro pins s σ H xs us Q I rv h
  obtain ⟨G, d, a, rfl, l, r, h1, h2, h3, q⟩ := h
  obtain ⟨u, rfl, ru⟩ := vals1 rv
  obtain ⟨o, ho⟩ := Option.isSome_iff_exists.mp hsm
  have hm : H sysModules = none := (I.bs _ _ (I.ok.mod.kin _ _ ho)).2
  cases ru
  obtain ⟨as, rd, hn⟩ := Rp.reads I l hm d _ _ r rfl
  have hu := hr.un
  refine repr_of_reads' rd h1 (fun _ => hn) hgu (by omega) (fun _ _ e => e) (fun h' tk u' hk => ?_) h3
  exact ⟨.str d.shown, H, I.kept (t' := u') hk, ⟨_, rfl⟩, q⟩
theorem de_repr {k : Nat} (hr : Room (k + 1) X.A) (hgu : X.A.guards = some []) (hsm : (X.K.lookup sysModules).isSome = true) (hm : X.mg "repr" = none) (ha : DA X A W ca [a] dr) (hg : Gl X "repr" := by rfl) (he : starEach [a] X.env = (false, eval a X.env) :: starEach [] X.env := by rfl) : DE X A W ca (.Call (.Name "repr" p) [a] [] pos) (dCB gRepr dr) :=
  de_cb (call_repr hr hgu hsm) (fun O G ρ t σ H ds vs Q κ R rv q k => by
    unfold gRepr at q
    split at q
    · obtain ⟨v, rfl, r⟩ := rpAll1 rv
      have r0 := r
      simp only [Rp] at r
      obtain ⟨b, xs, rfl, h, _⟩ := r
      exact ⟨G, _, b, rfl, R.hs.gh, r0, q.1, q.2.1, q.2.2.1, k _ _ G H (Le.refl G) R (by simp only [Rp]) q.2.2.2⟩
    · obtain ⟨v, rfl, r⟩ := rpAll1 rv
      have r0 := r
      simp only [Rp] at r
      obtain ⟨b, xs, rfl, h, _⟩ := r
      exact ⟨G, _, b, rfl, R.hs.gh, r0, q.1, q.2.1, q.2.2.1, k _ _ G H (Le.refl G) R (by simp only [Rp]) q.2.2.2⟩
    · exact q.elim) hm (by decide +kernel) ha hg (he := he)
end
end TM
namespace TM
open L2 PySem.Spec PySem PyProof.Rows

/-! ### the deck of draws -/
def PoolAt (H : Hp) (b : Nat) (r : Addr) : Prop := ∃ c f n : Int, H r = some (.lst [.int c, .int f, .int n]) ∧ 0 ≤ n ∧ n ≤ b
structure DeckAt (a p : Addr) (rs : List Addr) (b : Nat) (H : Hp) : Prop where
  top : ∃ j : Int, H a = some (.lst [.ref p, .int j])
  pools : H p = some (.lst (rs.map V.ref))
  ne : rs ≠ []
  pool : ∀ r ∈ rs, PoolAt H b r
def FpAt (a : Addr) (H : Hp) (b : Addr) : Prop := ∃ (p : Addr) (rs : List Addr) (j : Int), H a = some (.lst [.ref p, .int j]) ∧ H p = some (.lst (rs.map V.ref)) ∧ (b = a ∨ b = p ∨ b ∈ rs)
theorem map_ref_inj {rs rs' : List Addr} (h : rs.map V.ref = rs'.map V.ref) : rs = rs' := by
  induction rs generalizing rs' with
  | nil =>
    cases rs' with
    | nil => rfl
    | cons _ _ => cases h
  | cons r rs ih =>
    cases rs' with
    | nil => cases h
    | cons r' rs' =>
      rw [List.map_cons, List.map_cons] at h
      injection h with h1 h2
      injection h1 with h1
      rw [h1, ih h2]
theorem fpAt_of {a p : Addr} {rs : List Addr} {b : Nat} {H : Hp} (d : DeckAt a p rs b H) {x : Addr} : FpAt a H x ↔ x = a ∨ x = p ∨ x ∈ rs := by
  obtain ⟨j, hj⟩ := d.top
  constructor
  · rintro ⟨p', rs', j', h1, h2, h3⟩
    rw [hj] at h1
    injection h1 with h1
    injection h1 with h1
    injection h1 with h1 h1'
    injection h1 with h1
    subst h1
    rw [d.pools] at h2
    injection h2 with h2
    injection h2 with h2
    rw [map_ref_inj h2]
    exact h3
  · exact fun h => ⟨p, rs, j, hj, d.pools, h⟩
theorem DeckAt.ap {a p : Addr} {rs : List Addr} {b : Nat} {H : Hp} (d : DeckAt a p rs b H) : a ≠ p := by
  rintro rfl
  obtain ⟨j, hj⟩ := d.top
  have h := d.pools
  rw [hj] at h
  injection h with h
  injection h with h
  rcases rs with _ | ⟨r, _ | ⟨r', rs⟩⟩
  · cases h
  · cases h
  · rw [List.map_cons, List.map_cons] at h
    injection h with _ h
    injection h with h _
    cases h
theorem DeckAt.ra {a p : Addr} {rs : List Addr} {b : Nat} {H : Hp} (d : DeckAt a p rs b H) {r : Addr} (hr : r ∈ rs) : r ≠ a := by
  rintro rfl
  obtain ⟨j, hj⟩ := d.top
  obtain ⟨c, f, n, h, _⟩ := d.pool _ hr
  rw [hj] at h
  injection h with h
  injection h with h
  injection h with h _
  cases h
theorem DeckAt.rp {a p : Addr} {rs : List Addr} {b : Nat} {H : Hp} (d : DeckAt a p rs b H) {r : Addr} (hr : r ∈ rs) : r ≠ p := by
  rintro rfl
  obtain ⟨c, f, n, h, _⟩ := d.pool _ hr
  rw [d.pools] at h
  injection h with h
  injection h with h
  rcases rs with _ | ⟨r', rs⟩
  · cases hr
  · rw [List.map_cons] at h
    injection h with h _
    cases h
theorem DeckAt.up {a p : Addr} {rs : List Addr} {b b' : Nat} {H : Hp} (d : DeckAt a p rs b H) (h : b ≤ b') : DeckAt a p rs b' H :=
  ⟨d.top, d.pools, d.ne, fun r hr => by
    obtain ⟨c, f, n, h1, h2, h3⟩ := d.pool r hr
    exact ⟨c, f, n, h1, h2, by omega⟩⟩
theorem DeckAt.keep {a p : Addr} {rs : List Addr} {b : Nat} {H H' : Hp} (d : DeckAt a p rs b H) (h : ∀ x, FpAt a H x → H' x = H x) : DeckAt a p rs b H' := by
  have ha := h a ((fpAt_of d).mpr (.inl rfl))
  have hp := h p ((fpAt_of d).mpr (.inr (.inl rfl)))
  refine ⟨by rw [ha]; exact d.top, by rw [hp]; exact d.pools, d.ne, fun r hr => ?_⟩
  have := h r ((fpAt_of d).mpr (.inr (.inr hr)))
  unfold PoolAt
  rw [this]
  exact d.pool r hr
def deckA (a : Addr) : Amb where
  ad := some a
  At := fun t H => ∃ p rs, DeckAt a p rs (3000 + t) H
  fp := fun H b => FpAt a H b
  tr := fun t H b ⟨p, rs, d⟩ h e => by
    rcases (fpAt_of d).mp h with rfl | rfl | h
    · obtain ⟨j, hj⟩ := d.top
      rw [hj] at e
      cases e
    · rw [d.pools] at e
      cases e
    · obtain ⟨_, _, _, h, _⟩ := d.pool _ h
      rw [h] at e
      cases e
  st := fun t H H' ⟨p, rs, d⟩ h => by
    have d' := d.keep h
    exact ⟨⟨p, rs, d'⟩, fun b hb => (fpAt_of d).mpr ((fpAt_of d').mp hb)⟩
  up := fun t t' H l ⟨p, rs, d⟩ => ⟨p, rs, d.up (by omega)⟩
/-- the deck has changed and stays one -/
theorem hs_deck {a p : Addr} {rs : List Addr} {b t t' : Nat} {O G H H' : Hp} (h : Hs (deckA a) t O G H) (d : DeckAt a p rs b H) (d' : DeckAt a p rs (3000 + t') H') (st : ∀ x, x ≠ a → x ∉ rs → H' x = H x) : Hs (deckA a) t' O G H' := by
  have out : ∀ x o, (G x = some o ∨ O x = some o) → H' x = H x := fun x o q => by
    refine st x ?_ ?_
    · rintro rfl
      have := h.af x ((fpAt_of d).mpr (.inl rfl))
      rcases q with q | q
      · rw [this.1] at q
        cases q
      · rw [this.2] at q
        cases q
    · intro hx
      have := h.af x ((fpAt_of d).mpr (.inr (.inr hx)))
      rcases q with q | q
      · rw [this.1] at q
        cases q
      · rw [this.2] at q
        cases q
  exact ⟨fun x o q => by rw [out x o (.inl q)]; exact h.gh x o q, fun x o q => by rw [out x o (.inr q)]; exact h.oh x o q, h.go, ⟨p, rs, d'⟩, fun x hx => h.af x ((fpAt_of d).mpr ((fpAt_of d').mp hx))⟩

def CPowW (i j : Int) : Prop := 0 ≤ j ∧ (Builtin.Int.intBits i : Int) * j ≤ 2 ^ 27
theorem op_powW {X : Cx} : OpR X (binaryOp .Pow) (rI CPowW fun i j => .int (i ^ j.toNat)) := opI fun _ _ _ _ _ _ _ hc q => pow_int hc.1 hc.2 q
theorem powW3 {i : Int} {b : Nat} (h0 : 0 ≤ i) (h : i < 2 ^ b) (hb : b ≤ 40000000) : CPowW i 3 := by
  refine ⟨by omega, ?_⟩
  have : Builtin.Int.intBits i ≤ b := by
    unfold Builtin.Int.intBits
    split
    · exact Nat.zero_le _
    · rename_i hne
      have hn : i.natAbs < 2 ^ b := by
        have : ((i.natAbs : Nat) : Int) < ((2 ^ b : Nat) : Int) := by
          rw [Int.natAbs_of_nonneg h0]
          push_cast
          exact h
        exact_mod_cast this
      have h1 : i.natAbs ≠ 0 := fun z => hne (by simpa using Int.natAbs_eq_zero.mp z)
      have := (Nat.log2_lt h1).mpr hn
      omega
  have h2 : ((Builtin.Int.intBits i : Nat) : Int) ≤ 40000000 := by omega
  omega
/-! ### _law_draw of the deck -/
abbrev tIx (K : PySem.W.Frag) (ta tb : TE) : TE := tOp (rIx K) ta tb
abbrev tN (i : Int) : TE := tC (V.int i)
abbrev tLen (K : PySem.W.Frag) (ta : TE) : TE := tCB (fun xs H Q => ∃ p ys, xs = [V.ref p] ∧ (SqL K H p ys ∨ SqT K H p ys) ∧ Q (V.int ↑ys.length) H) (tCons ta tNil)
abbrev tMod (ta tb : TE) : TE := tOp (rI (fun x j => 0 < j) fun i j => V.int (i % j)) ta tb
abbrev tDiv (ta tb : TE) : TE := tOp (rI CDivW fun i j => V.int (i / j)) ta tb
abbrev tAdd (ta tb : TE) : TE := tOp (rI0 fun i j => V.int (i + j)) ta tb
abbrev tMul (ta tb : TE) : TE := tOp (rI CMulW fun i j => V.int (i * j)) ta tb
abbrev tPow (ta tb : TE) : TE := tOp (rI CPowW fun i j => V.int (i ^ j.toNat)) ta tb
def tDraw2 (K : PySem.W.Frag) : TS :=
  (tSeq (tAsg (tAdd (tIx K (tVar 2) (tN 2)) (tN 1)) (L2.gSub (tVar 2) (tN 2) rSetL))
  (tSeq (tAsg (tAdd (tMod (tIx K (tVar 2) (tN 0)) (tN 162259276829213363391578010288127)) (tMul (tN 899809363) (tIx K (tVar 2) (tN 2)))) (gName 4))
  (tSeq (tAsg (tMod (tPow (tVar 4) (tN 3)) (tN 618970019642690137449562111)) (gName 4))
  (tSeq (tAsg (tMod (tPow (tAdd (tVar 4) (tMul (tN 49979687) (tIx K (tVar 2) (tN 2)))) (tN 3)) (tN 162259276829213363391578010288127)) (gName 4))
  (tRet (tMod (tDiv (tVar 4) (tN 524288)) (tVar 1)))))))
def tDraw (K : PySem.W.Frag) : TS :=
  tSeq (tAsg (tIx K (tIx K (tVar 0) (tN 0)) (tMod (tIx K (tVar 0) (tN 1)) (tLen K (tIx K (tVar 0) (tN 0))))) (gName 2))
  (tSeq (tAsg (tAdd (tIx K (tVar 0) (tN 1)) (tN 1)) (L2.gSub (tVar 0) (tN 1) rSetL))
  (tSeq (tIfS (tAnd (tTest (tOp rEq (tIx K (tVar 2) (tN 1)) (tN 1))) (tTest (tOp (rI0 fun i j => V.bl (decide (j < i))) (tIx K (tVar 2) (tN 0)) (tN 0))))
      (tSeq (tAsg (tMod (tIx K (tVar 2) (tN 0)) (tVar 1)) (gName 3)) (tSeq (tAsg (tDiv (tIx K (tVar 2) (tN 0)) (tVar 1)) (L2.gSub (tVar 2) (tN 0) rSetL)) (tRet (tVar 3)))) tNext)
  (tDraw2 K)))
theorem rd_ix {K : PySem.W.Frag} {H : Hp} {p : Addr} {xs : List V} {i : Int} {v : V} {Q : VK} (h : H p = some (.lst xs)) (e : atI xs i = some v) (q : Q v H) : rIx K (.ref p) (.int i) H Q := .inl ⟨p, xs, i, v, rfl, rfl, SqL.of h, e, q⟩
theorem rd_set {H : Hp} {p : Addr} {xs : List V} {k : Int} {j : Nat} {v : V} {Q : Hp → Prop} (ys : List V) (h : H p = some (.lst xs)) (e : ixN xs.length k = some j) (ey : xs.set j v = ys) (q : Q (L2.upd H p (.lst ys))) : rSetL (.ref p) (.int k) v H Q :=
  ⟨p, xs, k, j, rfl, rfl, h, e, by rw [ey]; exact q⟩
theorem draw_rest {K : PySem.W.Frag} {D : Ends} {a r : Addr} {many c f n : Int} {H1 : Hp} (hm : 0 < many) (h1r : H1 r = some (.lst [V.int c, V.int f, V.int n])) (n0 : 0 ≤ n) (n1 : n < 2 ^ 100001)
    (k : ∀ z, 0 ≤ z → z < many → D.rt (.int z) (L2.upd H1 r (.lst [V.int c, V.int f, V.int (n + 1)]))) : tDraw2 K D [some (.ref a), some (.int many), some (.ref r), none, none] H1 := by
  simp only [tDraw2, tSeq, tAsg, tOp, tVar, tC, gName, L2.gSub, tRet]
  refine ⟨_, rfl, rd_ix h1r rfl ⟨_, _, rfl, rfl, _, rfl, rd_set [V.int c, V.int f, V.int (n + 1)] h1r rfl rfl ?_⟩⟩
  generalize eH : L2.upd H1 r (.lst [V.int c, V.int f, V.int (n + 1)]) = H2 at k ⊢
  have h2r : H2 r = some (.lst [V.int c, V.int f, V.int (n + 1)]) := by rw [← eH]; exact upd_same
  have e29 : (2 : Int) ^ 100002 = 2 * 2 ^ 100001 := by
    rw [show (100002 : Nat) = 100001 + 1 from rfl, Int.pow_succ]
    exact Int.mul_comm _ _
  have c0 : 0 ≤ c % 162259276829213363391578010288127 := Int.emod_nonneg _ (by decide)
  have c1 : c % 162259276829213363391578010288127 < 162259276829213363391578010288127 := Int.emod_lt_of_pos _ (by decide)
  have mulW : ∀ x : Int, 0 ≤ x → x.natAbs.log2 < 100 → CMulW x (n + 1) := fun x _ hx => by
    have : (n + 1).natAbs.log2 < 100003 := by
      refine PySem.Flt.log2_lt_of (by decide) ?_
      have h3 : ((n + 1).natAbs : Int) < 2 ^ 100003 := by
        rw [Int.natAbs_of_nonneg (by omega), show (100003 : Nat) = 100002 + 1 from rfl, Int.pow_succ, e29]
        generalize (2 : Int) ^ 100001 = q at n1
        omega
      exact_mod_cast h3
    unfold CMulW
    omega
  refine ⟨_, rfl, rd_ix h2r rfl ⟨_, _, rfl, rfl, (show (0 : Int) < 162259276829213363391578010288127 by decide), _, rfl, rd_ix h2r rfl ⟨_, _, rfl, rfl, mulW _ (by decide) (by decide), _, _, rfl, rfl, ?_⟩⟩⟩
  have hpos : (0 : Int) < 2 ^ 100001 := Int.pow_pos (by decide)
  have big : (162259276829213363391578010288127 : Int) ≤ 2 ^ 100001 := by
    refine Int.le_trans (show (162259276829213363391578010288127 : Int) ≤ 2 ^ 110 by decide) ?_
    exact_mod_cast Nat.pow_le_pow_right (by decide) (show 110 ≤ 100001 by decide)
  have e2 : (2 : Int) ^ 100101 = 2 ^ 100001 * 2 ^ 100 := by
    rw [show (100101 : Nat) = 100001 + 100 from rfl, Int.pow_add]
  have e3 : (2 : Int) ^ 100 = 1267650600228229401496703205376 := by decide
  have b1 : 0 ≤ c % 162259276829213363391578010288127 + 899809363 * (n + 1) ∧ c % 162259276829213363391578010288127 + 899809363 * (n + 1) < 2 ^ 100101 := by
    rw [e2, e3]
    generalize (2 : Int) ^ 100001 = q at *
    omega
  refine ⟨_, rfl, _, _, rfl, rfl, powW3 (b := 100101) b1.1 b1.2 (by decide), _, _, rfl, rfl, (show (0 : Int) < 618970019642690137449562111 by decide), ?_⟩
  have y0 : 0 ≤ (c % 162259276829213363391578010288127 + 899809363 * (n + 1)) ^ (3 : Int).toNat % 618970019642690137449562111 := Int.emod_nonneg _ (by decide)
  have y2 : (c % 162259276829213363391578010288127 + 899809363 * (n + 1)) ^ (3 : Int).toNat % 618970019642690137449562111 < 618970019642690137449562111 := Int.emod_lt_of_pos _ (by decide)
  have b2 : ∀ y : Int, 0 ≤ y → y < 618970019642690137449562111 → 0 ≤ y + 49979687 * (n + 1) ∧ y + 49979687 * (n + 1) < 2 ^ 100101 := by
    intro y1 y0 y2
    rw [e2, e3]
    generalize (2 : Int) ^ 100001 = q at *
    omega
  refine ⟨_, rfl, _, rfl, rd_ix h2r rfl ⟨_, _, rfl, rfl, mulW _ (by decide) (by decide), _, _, rfl, rfl, _, _, rfl, rfl, powW3 (b := 100101) (b2 _ y0 y2).1 (b2 _ y0 y2).2 (by decide), _, _, rfl, rfl, (show (0 : Int) < 162259276829213363391578010288127 by decide), ?_⟩⟩
  refine ⟨_, rfl, _, _, rfl, rfl, ⟨by decide, by decide⟩, _, rfl, _, _, rfl, rfl, hm, ?_⟩
  exact k _ (Int.emod_nonneg _ (by omega)) (Int.emod_lt_of_pos _ hm)
theorem draw_run {K : PySem.W.Frag} {a : Addr} {t : Nat} {O G H : Hp} (hs : Hs (deckA a) t O G H) (le : t + 1 ≤ TMX) {many : Int} (hm : 0 < many) (hm2 : many.natAbs.log2 < 9000) (D : Ends)
    (k : ∀ z H', 0 ≤ z → z < many → Hs (deckA a) (t + 1) O G H' → D.rt (.int z) H') : tDraw K D [some (.ref a), some (.int many), none, none, none] H := by
  obtain ⟨p, rs, d⟩ := hs.at_
  obtain ⟨j, hj⟩ := d.top
  have hlen : 0 < (rs.map V.ref).length := by
    rw [List.length_map]
    exact List.length_pos_iff.mpr d.ne
  have hmod0 : 0 ≤ j % ((rs.map V.ref).length : Int) := Int.emod_nonneg _ (by omega)
  have hmodl : j % ((rs.map V.ref).length : Int) < ((rs.map V.ref).length : Int) := Int.emod_lt_of_pos _ (by omega)
  obtain ⟨i, hi⟩ := Int.eq_ofNat_of_zero_le hmod0
  have hil : i < rs.length := by
    rw [hi, List.length_map] at hmodl
    exact_mod_cast hmodl
  have hr : rs[i] ∈ rs := List.getElem_mem hil
  generalize hrr : rs[i] = r at hr
  have hget : atI (rs.map V.ref) (j % ((rs.map V.ref).length : Int)) = some (V.ref r) := by
    rw [hi]
    refine atI_nat ?_
    rw [List.getElem?_map, List.getElem?_eq_getElem hil, hrr]
    rfl
  obtain ⟨c, f, n, hc, n0, n1⟩ := d.pool r hr
  have ra := d.ra hr
  have rp := d.rp hr
  have ap := d.ap
  have hp := d.pools
  simp only [tDraw, tSeq, tAsg, tOp, tVar, tC, tCB, tCons, tNil, gName, L2.gSub, tIfS, tAnd, tTest, tRet, tNext]
  refine ⟨_, rfl, rd_ix hj rfl ⟨_, rfl, rd_ix hj rfl ⟨_, rfl, rd_ix hj rfl ⟨_, _, rfl, .inl (SqL.of hp), _, _, rfl, rfl, (show (0 : Int) < ((rs.map V.ref).length : Int) by exact_mod_cast hlen), rd_ix hp hget ?_⟩⟩⟩⟩
  refine ⟨_, rfl, rd_ix hj rfl ⟨_, _, rfl, rfl, _, rfl, rd_set [V.ref p, V.int (j + 1)] hj rfl rfl ?_⟩⟩
  -- the heap behind the first store
  generalize eH1 : L2.upd H a (.lst [V.ref p, V.int (j + 1)]) = H1
  have h1a : H1 a = some (.lst [V.ref p, V.int (j + 1)]) := by rw [← eH1]; exact upd_same
  have h1x : ∀ x, x ≠ a → H1 x = H x := fun x hx => by rw [← eH1]; exact upd_ne hx
  have h1r : H1 r = some (.lst [V.int c, V.int f, V.int n]) := by rw [h1x r ra]; exact hc
  have fin : ∀ (c' n' : Int) (H2 : Hp), H2 = L2.upd H1 r (.lst [V.int c', V.int f, V.int n']) → 0 ≤ n' → n' ≤ n + 1 → Hs (deckA a) (t + 1) O G H2 := by
    intro c' n' H2 e2 m0 m1
    have h2r : H2 r = some (.lst [V.int c', V.int f, V.int n']) := by rw [e2]; exact upd_same
    have h2x : ∀ x, x ≠ r → H2 x = H1 x := fun x hx => by rw [e2]; exact upd_ne hx
    refine hs_deck hs d ⟨⟨j + 1, by rw [h2x a (Ne.symm ra)]; exact h1a⟩, by rw [h2x p (Ne.symm rp), h1x p (Ne.symm ap)]; exact hp, d.ne, fun r' hr' => ?_⟩ fun x hx hx2 => ?_
    · by_cases er : r' = r
      · subst er
        exact ⟨c', f, n', h2r, m0, by push_cast; push_cast at n1; omega⟩
      · obtain ⟨c0, f0, n0', q1, q2, q3⟩ := d.pool r' hr'
        exact ⟨c0, f0, n0', by rw [h2x r' er, h1x r' (d.ra hr')]; exact q1, q2, by push_cast; push_cast at q3; omega⟩
    · have : x ≠ r := fun z => hx2 (z ▸ hr)
      rw [h2x x this, h1x x hx]
  have hz : ∀ y : Int, 0 ≤ y % many ∧ y % many < many := fun y => ⟨Int.emod_nonneg _ (by omega), Int.emod_lt_of_pos _ hm⟩
  have nb : n < 2 ^ 100001 := by
    have tm : TMX = 2 ^ 100000 := by unfold TMX; rfl
    have h1 : ((3000 + t : Nat) : Int) < ((2 ^ 100001 : Nat) : Int) := by
      have : 3000 + t < 2 ^ 100001 := by
        rw [tm] at le
        have h2 : 3000 ≤ 2 ^ 100000 := Nat.le_trans (show 3000 ≤ 2 ^ 12 by decide) (Nat.pow_le_pow_right (by decide) (by decide))
        rw [show (100001 : Nat) = 100000 + 1 from rfl, Nat.pow_succ]
        generalize 2 ^ 100000 = q at *
        omega
      exact_mod_cast this
    have h3 : ((2 ^ 100001 : Nat) : Int) = 2 ^ 100001 := by push_cast; rfl
    rw [h3] at h1
    omega
  have rest : tDraw2 K D [some (.ref a), some (.int many), some (.ref r), none, none] H1 := draw_rest hm h1r n0 nb fun z z0 z1 => k z _ z0 z1 (fin c (n + 1) _ rfl (by omega) (by omega))
  refine ⟨_, rfl, rd_ix h1r rfl ⟨(show scal (V.int f) (V.int 1) = true from rfl), _, rfl, ?_⟩⟩
  split
  · refine ⟨_, rfl, rd_ix h1r rfl ⟨_, _, rfl, rfl, _, rfl, ?_⟩⟩
    split
    · refine ⟨_, rfl, rd_ix h1r rfl ⟨_, rfl, _, _, rfl, rfl, hm, ?_⟩⟩
      refine ⟨_, rfl, rd_ix h1r rfl ⟨_, rfl, _, _, rfl, rfl, ⟨hm, hm2⟩, _, rfl, rd_set [V.int (c / many), V.int f, V.int n] h1r rfl rfl ?_⟩⟩
      exact ⟨_, rfl, k _ _ (hz c).1 (hz c).2 (fin (c / many) n _ rfl n0 (by omega))⟩
    · exact rest
  · simp only [Bool.false_eq_true, if_false]
    exact rest
end TM
namespace TM
open L2 PySem.Spec PySem PyProof.Rows

/-! ### the script -/
def dLenSc (i : Nat) : DEx := fun ρ Ψ _ => match atS ρ i with
  | .sc ns => Ψ (.int (ns.length : Nat)) ρ
  | _ => False
def dGetSc (i : Nat) (d : DEx) : DEx := fun ρ Ψ Φ => match atS ρ i with
  | .sc ns => d ρ (fun y ρ1 => match y with
    | .int k => (match atI ns k with
      | some n => Ψ (.int n) ρ1
      | none => False)
    | _ => False) Φ
  | _ => False
section
variable {X : Cx} {A : Amb} {W : WX} {ca cb cf c0 : Nat} {a b : Expr} {da db : DEx} {dr : DAx} {x : Str} {pos p : Pos}
theorem de_lenSc (i : Nat) {p2 : Pos} (hm : X.mg "len" = none) (hN : X.N[i]? = some x := by rfl) (hg : Gl X "len" := by rfl) (hv : Vis X.env.scope x := by first | exact Or.inl rfl | exact Or.inr (Or.inl rfl) | exact Or.inr (Or.inr rfl)) (hd : (x == ("__debug__" : Str)) = false := by decide) (hcd : (x == ("__classdict__" : Str)) = false := by decide)
    (he : starEach [.Name x p] X.env = (false, eval (.Name x p) X.env) :: starEach [] X.env := by rfl) : DE X A W 0 (.Call (.Name "len" p2) [.Name x p] [] pos) (dLenSc i) :=
  ⟨PE.weak (pe_callB call_len_seq hg hm (by decide +kernel) (pa_cons (pe_var hN hv hd hcd) pa_nil he) (he := he)) fun σ H Q ⟨O, G, ρ, t, Ψ, Φ, le, R, q, pe, px⟩ => by
    unfold dLenSc at q
    cases e : atS ρ i with
    | sc ns =>
      rw [e] at q
      obtain ⟨ad, h1, h2⟩ := R.scAt (atS_get e (fun z => nomatch z))
      refine ⟨_, h1, ad, _, rfl, .inl (R.hs.gh.seq h2), ?_⟩
      rw [List.length_map]
      exact pe _ ρ _ G H (Le.refl G) R (by simp only [Rp]) q
    | _ =>
      rw [e] at q
      exact q.elim⟩
theorem atI_map {ns : List Int} {k n : Int} (h : atI ns k = some n) : atI (ns.map V.int) k = some (.int n) := by
  unfold L2.atI at h ⊢
  rw [List.length_map]
  cases e : ixN ns.length k with
  | none =>
    rw [e] at h
    cases h
  | some j =>
    rw [e] at h
    show (ns.map V.int)[j]? = _
    rw [List.getElem?_map, show ns[j]? = some n from h]
    rfl
theorem de_getSc (i : Nat) (hb : DE X A W cb b db) (hN : X.N[i]? = some x := by rfl) (hv : Vis X.env.scope x := by first | exact Or.inl rfl | exact Or.inr (Or.inl rfl) | exact Or.inr (Or.inr rfl)) (hd : (x == ("__debug__" : Str)) = false := by decide) (hcd : (x == ("__classdict__" : Str)) = false := by decide)
    (hs : PlainIx b := by exact fun _ _ => rfl) : DE X A W cb (.Subscript (.Name x p) b pos) (dGetSc i db) :=
  ⟨PE.weak (pe_ix ix_seq (pe_var hN hv hd hcd) hb.pe hs) fun σ H Q ⟨O, G, ρ, t, Ψ, Φ, le, R, q, pe, px⟩ => by
    unfold dGetSc at q
    cases e : atS ρ i with
    | sc ns =>
      rw [e] at q
      obtain ⟨ad, h1, h2⟩ := R.scAt (atS_get e (fun z => nomatch z))
      refine ⟨_, h1, O, G, ρ, t, _, Φ, le, R, q, fun y ρ1 u G1 H1 l1 R1 ry q1 => ?_, px⟩
      cases y with
      | int k =>
        simp only [Rp] at ry
        subst ry
        dsimp only at q1
        cases e2 : atI ns k with
        | none =>
          rw [e2] at q1
          exact q1.elim
        | some n =>
          rw [e2] at q1
          exact .inl ⟨ad, _, k, _, rfl, rfl, (l1.trans R1.hs.gh).seq h2, atI_map e2, pe _ ρ1 _ G1 H1 l1 R1 (by simp only [Rp]) q1⟩
      | _ => exact q1.elim
    | _ =>
      rw [e] at q
      exact q.elim⟩
end

/-! ### a list of one's own is given away -/
section
variable {K : PySem.W.Frag} {A : Amb} {t : Nat} {O G H : Hp} {ρ : Sl} {σ : L2.St}
theorem Rel.give (R : Rel K A t O G ρ σ H) {i : Nat} {d : D} {e : Ent} (he : ρ[i]? = some e) (hp : ∀ P, EntAt K A G P e σ[i]? → ∃ a o, σ[i]? = some (some (.ref a)) ∧ P a = some o ∧ ∀ G', Le G G' → G' a = some o → Rp G' d (.ref a)) :
    ∃ v G', σ[i]? = some (some v) ∧ Le G G' ∧ Rp G' d v ∧ Rel K A t O G' (ρ.set i (.fz d)) σ H := by
  obtain ⟨F, w, en⟩ := R.ex
  obtain ⟨a, o, h1, h2, h3⟩ := hp (F i) (en i e he)
  have g := w.g i a o h2
  have l : Le G (L2.upd G a o) := Le.upd g
  have ne : ∀ j b u, j ≠ i → F j b = some u → b ≠ a := fun j b u hj q z => by
    subst z
    rw [w.d i j b _ (fun z => hj z.symm) h2] at q
    cases q
  have hi : i < ρ.length := (List.getElem?_eq_some_iff.mp he).1
  have ng : ∀ j b u, j ≠ i → F j b = some u → L2.upd G a o b = none := fun j b u hj q => by
    rw [upd_ne (ne j b u hj q)]
    exact w.g j b u q
  refine ⟨_, _, h1, l, h3 _ l upd_same, R.hs.fz (w.le i a o h2) (w.o i a o h2) (w.f i a o h2), by rw [List.length_set]; exact R.ln, fun j => if j = i then fun _ => none else F j, ⟨fun j b u q => ?_, fun j b u q => ?_, fun j b u q => ?_, fun j b u q => ?_, fun j j' b u nj q => ?_⟩, fun j e' hj => ?_⟩
  · split at q
    · cases q
    · exact w.le j b u q
  · split at q
    · cases q
    · rename_i hj
      exact ng j b u hj q
  · split at q
    · cases q
    · exact w.o j b u q
  · split at q
    · cases q
    · exact w.f j b u q
  · split at q
    · cases q
    · split
      · rfl
      · exact w.d j j' b u nj q
  · by_cases hji : i = j
    · subst hji
      rw [List.getElem?_set_self hi] at hj
      cases hj
      exact ⟨_, h1, h3 _ l upd_same⟩
    · rw [List.getElem?_set_ne hji] at hj
      dsimp only
      rw [if_neg (fun z => hji z.symm)]
      exact EntAt.mono l (en j e' hj) fun b u q => ng j b u (fun z => hji z.symm) q
end
section
variable {X : Cx} {A : Amb} {W : WX} {ca cb cf c0 ck cv : Nat} {a b : Expr} {da db dk dv : DEx} {dr : DAx} {x : Str} {pos p : Pos}
theorem de_varF (i : Nat) (hN : X.N[i]? = some x := by rfl) (hv : Vis X.env.scope x := by first | exact Or.inl rfl | exact Or.inr (Or.inl rfl) | exact Or.inr (Or.inr rfl)) (hd : (x == ("__debug__" : Str)) = false := by decide) (hcd : (x == ("__classdict__" : Str)) = false := by decide) : DE X A W 0 (.Name x pos) (dVarF i) :=
  ⟨PE.weak (pe_var hN hv hd hcd).lk fun σ H Q ⟨O, G, ρ, t, Ψ, Φ, le, R, q, pe, px⟩ => by
    unfold dVarF at q
    cases e : atS ρ i with
    | ow ds =>
      rw [e] at q
      obtain ⟨v, G', h1, l, r, R'⟩ := R.give (d := .list ds) (atS_get e (fun z => nomatch z)) fun P ⟨a, xs, h1, h2, h3⟩ => ⟨a, _, h1, h2, fun G' l e => by
        simp only [Rp]
        exact ⟨a, xs, rfl, e, RpAll.mono l _ _ h3⟩⟩
      exact ⟨v, h1, .inl (pe _ _ v G' H l R' r q)⟩
    | od ds =>
      rw [e] at q
      obtain ⟨a, ps, h1, hH, k⟩ := R.lockOd (atS_get e (fun z => nomatch z))
      refine ⟨_, h1, .inr ⟨a, _, hH, trivial, fun od => ?_⟩⟩
      obtain ⟨G', l, r, R'⟩ := k od
      exact pe _ _ _ G' _ l R' r q
    | _ =>
      rw [e] at q
      exact q.elim⟩

/-! ### dict displays -/
def dDisp0 : DEx := fun ρ Ψ _ => Ψ (.dict []) ρ
theorem de_disp0 : DE X A W 0 (.Dict [] [] pos) dDisp0 :=
  ⟨PE.weak pe_dnewK.lk fun σ H Q ⟨O, G, ρ, t, Ψ, Φ, le, R, q, pe, px⟩ p hp => by
    refine .inr ⟨p, _, upd_same, trivial, fun od => ?_⟩
    obtain ⟨G', l, r, R'⟩ := (R.onO hp (.dK [])).lockO (kvs := []) (R.hs.none_of hp).2.1 (by simp only [RpKv]) od
    exact pe _ ρ _ G' _ l R' r q⟩
def isKey : D → Prop
  | .int _ => True
  | .str _ => True
  | _ => False
def dDisp1 (dk dv : DEx) : DEx := fun ρ Ψ Φ => dk ρ (fun x ρ1 => dv ρ1 (fun y ρ2 => isKey x ∧ Ψ (.dict [(x, y)]) ρ2) Φ) Φ
theorem PostX.unO {K : PySem.W.Frag} {t : Nat} {O G : Hp} {σ : L2.St} {Φ : XP} {p : Addr} {o : HO} (h : PostX K A t O G σ W Φ) (hO : O p = none) : PostX K A t (L2.upd O p o) G σ W Φ := fun c q ρ' G' H' cv dd l R => h c q ρ' G' H' cv dd l (R.unO hO)
theorem de_disp1 (hk : DE X A W ca a dk) (hv : DE X A W cb b dv) : DE X A W (ca + cb) (.Dict [some a] [b] pos) (dDisp1 dk dv) :=
  ⟨PE.weak (pe_disp (pps_cons hk.pe hv.pe pps_nil) rfl rfl (by simp) (by show 1 ≤ 15; decide)).lk fun σ H Q ⟨O, G, ρ, t, Ψ, Φ, le, R, q, pe, px⟩ p hp => by
    have hO := (R.hs.none_of hp).2.1
    refine ⟨_, G, ρ, _, _, Φ, by omega, R.onO hp (.dK []), q, fun x ρ1 v G1 H1 l1 R1 rx q1 => ?_, (px.unO hO).dn (by omega)⟩
    refine ⟨_, G1, ρ1, _, _, Φ, by omega, R1, q1, fun y ρ2 u G2 H2 l2 R2 ry q2 => ?_, ((px.unO hO).le l1).dn (by omega)⟩
    have rx2 := Rp.mono l2 x v rx
    refine ⟨R2.atO.1, ?_⟩
    cases x with
    | int i =>
      simp only [Rp] at rx2
      subst rx2
      refine ⟨[(.inl i, u)], rfl, (by show 1 ≤ 15; decide), .inr ⟨p, _, upd_same, trivial, fun od => ?_⟩⟩
      obtain ⟨G', l, r, R'⟩ := (R2.reO (.dK [(.inl i, u)])).lockO (kvs := [(.int i, y)]) hO (by simp only [RpKv]; exact ⟨_, _, [], rfl, rfl, ry, rfl⟩) od
      exact pe _ ρ2 _ G' _ ((l1.trans l2).trans l) (R'.up (by omega)) r q2.2
    | str i =>
      simp only [Rp] at rx2
      subst rx2
      refine ⟨[(.inr i, u)], rfl, (by show 1 ≤ 15; decide), .inr ⟨p, _, upd_same, trivial, fun od => ?_⟩⟩
      obtain ⟨G', l, r, R'⟩ := (R2.reO (.dK [(.inr i, u)])).lockO (kvs := [(.str i, y)]) hO (by simp only [RpKv]; exact ⟨_, _, [], rfl, rfl, ry, rfl⟩) od
      exact pe _ ρ2 _ G' _ ((l1.trans l2).trans l) (R'.up (by omega)) r q2.2
    | _ => exact q2.1.elim⟩
end

/-! ### s * n -/
def strRep (s : Str) (n : Nat) : Str := ⟨(List.replicate n s.cps).foldl (· ++ ·) #[]⟩
theorem foldl_size (c : Array Nat) : ∀ (n : Nat) (acc : Array Nat), ((List.replicate n c).foldl (· ++ ·) acc).size = acc.size + c.size * n
  | 0, acc => by simp
  | n + 1, acc => by
    rw [List.replicate_succ, List.foldl_cons, foldl_size c n, Array.size_append, Nat.mul_succ]
    omega
theorem strRep_len (s : Str) (n : Nat) : (strRep s n).length = s.length * n := by
  show ((List.replicate n s.cps).foldl (· ++ ·) #[]).size = _
  rw [foldl_size]
  simp [Str.length]
def gSRep : G2 := fun x y κ => match x, y with
  | .str s, .int k => 2 ≤ k ∧ k < 2 ^ 20 ∧ 1 ≤ s.length ∧ s.length * k.toNat ≤ 16777216 ∧ κ (.str (strRep s k.toNat))
  | _, _ => False
def rSRep : R2 := fun x y H Q => ∃ s k, x = .str s ∧ y = .int k ∧ 2 ≤ k ∧ k < 2 ^ 20 ∧ 1 ≤ s.length ∧ s.length * k.toNat ≤ 16777216 ∧ Q (.str (strRep s k.toNat)) H
section
variable {X : Cx} {A : Amb} {W : WX} {ca cb : Nat} {a b : Expr} {da db : DEx} {pos : Pos}
theorem op_srep : OpR X (binaryOp .Mult) rSRep := fun pins s σ H x y v u Q I rx ry h => by
  obtain ⟨z, k, rfl, rfl, h1, h2, h3, h4, q⟩ := h
  obtain ⟨t, rfl⟩ := rx
  obtain ⟨t', rfl⟩ := ry
  have e1 : (k == 1 || z.length == 0) = false := by
    have a1 : (k == 1) = false := by
      rw [beq_eq_false_iff_ne]
      omega
    have a2 : (z.length == 0) = false := by
      rw [beq_eq_false_iff_ne]
      omega
    rw [a1, a2]
    rfl
  refine PySem.P.mul_str ?_ (fun _ _ => ?_) (fun _ _ => ?_) ?_
  · have b1 : ¬ k < -(2 ^ 63 : Int) := by omega
    have b2 : ¬ k ≥ 2 ^ 63 := by omega
    rw [decide_eq_false b1, decide_eq_false b2]
    rfl
  · have : (8796093022207 : Int) ≤ (2 ^ 63 - 1) / k := Int.le_ediv_of_mul_le (by omega) (by omega)
    have h5 : z.length ≤ 16777216 := Nat.le_trans (Nat.le_mul_of_pos_right _ (by omega)) h4
    omega
  · unfold Builtin.Str.tooLong
    simp only [decide_eq_false_iff_not]
    intro z9
    have := h4
    rw [sizeLine_eq] at z9
    omega
  · rw [if_neg (by omega), if_neg (by rw [e1]; decide)]
    refine ⟨?_, .str (strRep z k.toNat), H, I.tok _, ⟨_, rfl⟩, q⟩
    have := strRep_len z k.toNat
    unfold strRep at this
    rw [this, sizeLine_eq]
    exact h4
theorem snd_srep : Snd2 X A rSRep gSRep := snd2_of fun H x y v u Q κ ⟨G, _, rx, ry⟩ q k => by
  cases x <;> cases y <;> simp only [gSRep] at q
  simp only [Rp] at rx ry
  exact ⟨_, _, rx, ry, q.1, q.2.1, q.2.2.1, q.2.2.2.1, k _ _ (fun _ => by simp only [Rp]) q.2.2.2.2⟩
theorem de_srep (ha : DE X A W ca a da) (hb : DE X A W cb b db) : DE X A W (ca + cb) (.BinOp a .Mult b pos) (dOp2 gSRep da db) := de_bin op_srep snd_srep ha hb
end

/-! ### calls with keywords alone -/
structure DK (X : Cx) (A : Amb) (W : WX) (c : Nat) (kws : List Keyword) (d : DAx) : Prop where
  pk : PK X kws (liftA X.K A W c d)
theorem PK.weak {X : Cx} {es : List Keyword} {t t' : TA} (h : PK X es t) (w : ∀ σ H Q, t' σ H Q → t σ H Q) : PK X es t' := ⟨fun pos pins s σ H Q I q => h.run pos pins s σ H Q I (w σ H Q q)⟩
def gP {α : Type} (is : List Nat) (ws : List α) : List α := is.filterMap fun i => ws[i]?
def gP2 {α : Type} (is : List Nat) (us ws : List α) : List α := if us.isEmpty then gP is ws else []
theorem gP_rel {vs : List V} {us : List Value} (r : Vals vs us) : ∀ is : List Nat, Vals (gP is vs) (gP is us)
  | [] => .nil
  | i :: is => by
    unfold gP
    rw [List.filterMap_cons, List.filterMap_cons]
    have ih := gP_rel r is
    unfold gP at ih
    cases e : vs[i]? with
    | none =>
      have : us[i]? = none := by
        rw [List.getElem?_eq_none_iff] at e ⊢
        rw [← r.length]
        exact e
      rw [this]
      exact ih
    | some v =>
      obtain ⟨u, h1, h2⟩ := r.get e
      rw [h1]
      exact .cons h2 ih
def kwCall (is : List Nat) (sp : DSp) : DSp := fun es Ψ Φ => sp (gP is es) Ψ Φ
theorem argsP {K : PySem.W.Frag} {A : Amb} {G : Hp} {es : List Ent} {vs : List V} (h : ArgsAt K A G es vs) : ∀ is : List Nat, ArgsAt K A G (gP is es) (gP is vs)
  | [] => rfl
  | i :: is => by
    have get : ∀ {es : List Ent} {vs : List V} (i : Nat), ArgsAt K A G es vs → (es[i]? = none ∧ vs[i]? = none) ∨ ∃ e v, es[i]? = some e ∧ vs[i]? = some v ∧ ArgAt K A G e v := by
      intro es
      induction es with
      | nil =>
        intro vs i h
        rw [show vs = [] from h]
        exact .inl ⟨rfl, rfl⟩
      | cons e0 es ih =>
        intro vs i h
        obtain ⟨v, r, rfl, h1, h2⟩ := h
        cases i with
        | zero => exact .inr ⟨e0, v, rfl, rfl, h1⟩
        | succ i => simpa using ih i h2
    have ih := argsP h is
    unfold gP at ih ⊢
    rw [List.filterMap_cons, List.filterMap_cons]
    rcases get i h with ⟨e1, e2⟩ | ⟨e, v, e1, e2, e3⟩
    · rw [e1, e2]
      exact ih
    · rw [e1, e2]
      exact ⟨v, _, rfl, e3, ih⟩
/-- a def called by its keywords alone: names ks, the parameters are the values at is -/
structure Fk (X : Cx) (A : Amb) (cf k : Nat) (x : Str) (ps ks : List Str) (is : List Nat) (sp : DSp) : Prop where
  ex : ∃ f fd, FnOk X.prog X.w X.K X.mg X.base (L2.CX X.prog X.w) k f fd ps (liftSp X.K A cf sp) ∧ X.mg x = some (.ref f) ∧ PySem.W.keepIn X.K (.ref f) = true ∧ KBinds X.K fd ps ks (gP2 is) (gP2 is)
theorem kbinds_of {K : PySem.W.Frag} {x qual : Str} {params : Arguments} {body : List Stmt} {scope : Scope} {kws : List (Str × V)} {f : Addr} {fd : FuncData} {ps ks : List Str} {is : List Nat} (F : FunD K x qual params body scope [] kws f fd) (hp : ps ≠ [])
    (h : ∀ (kV doc pm : Value) (an : Option Addr) (cdv ct : Value) (ws : List Value), (gP is ws).length = ps.length → bindArgs (PySem.W.fnOf x qual params body scope .none kV doc pm an cdv ct) ⟨[], ks.zip ws⟩ = pure (ps.zip (gP is ws))) : KBinds K fd ps ks (gP2 is) (gP2 is) := by
  obtain ⟨oc, od, dV, kV, doc, pm, an, cdv, ct, osl, rfl, lk, hcd, hD, hK⟩ := F.ex
  rcases hD with ⟨_, rfl⟩ | ⟨e, _⟩
  · refine ⟨fun s us ws _ hl => ?_, fun {vs us zs ws} r r2 => ?_⟩
    · cases us with
      | nil => exact .of_eq (h kV doc pm an cdv ct ws hl)
      | cons u us =>
        cases ps with
        | nil => exact absurd rfl hp
        | cons _ _ => cases hl
    · cases r with
      | nil => exact gP_rel r2 is
      | cons _ _ => exact .nil
  · exact absurd rfl e
section
variable {X : Cx} {A : Amb} {W : WX} {ca cb cf c0 : Nat} {a b : Expr} {da : DEx} {dr : DAx} {x : Str} {nm : Option Str} {pos p kpos : Pos} {kws : List Keyword} {ps ks : List Str} {is : List Nat} {sp : DSp} {k : Nat}
theorem dk_nil : DK X A W 0 [] aNil := ⟨PK.weak pk_nil fun σ H Q ⟨O, G, ρ, t, Ψ, Φ, le, R, q, pa, px⟩ => pa [] ρ [] G H (Le.refl G) R rfl q⟩
theorem dk_cons (ha : DE X A W ca a da) (hr : DK X A W cb kws dr) : DK X A W (ca + cb) (⟨nm, a, kpos⟩ :: kws) (aCons da dr) :=
  ⟨PK.weak (pk_cons ha.pe hr.pk) fun σ H Q ⟨O, G, ρ, t, Ψ, Φ, le, R, q, pa, px⟩ => ⟨O, G, ρ, _, _, Φ, by omega, R, q, fun x ρ1 v G1 H1 l1 R1 rx q1 =>
    ⟨O, G1, ρ1, _, _, Φ, by omega, R1, q1, fun es ρ2 vs G2 H2 l2 R2 as q2 => pa _ ρ2 (v :: vs) G2 H2 (l1.trans l2) (R2.up (by omega)) (ArgsAt.cons (e := .fz x) (Rp.mono l2 x v rx) as) q2, (px.le l1).dn (by omega)⟩, px.dn (by omega)⟩⟩
theorem pe_callKW0 {f : Addr} {fd : FuncData} {sp : Sp} {E : L2.St → XK} {g : List Value → List Value → List Value} {gV : List V → List V → List V} {tk : TA} (F : FnOk X.prog X.w X.K X.mg X.base (L2.CX X.prog X.w) k f fd ps sp) (hr : Room k X.A) (hg : Gl X x) (hm : X.mg x = some (.ref f)) (hk : PySem.W.keepIn X.K (.ref f) = true) (hb : KBinds X.K fd ps ks g gV)
    (hx : ∀ σ, PassesAt (L2.CX X.prog X.w) X σ (E σ)) (hkw : PK X kws tk) (hall : (backToKw pos (keywordEach kws X.env)).all (·.1.isSome) = true) (hks : (backToKw pos (keywordEach kws X.env)).filterMap (·.1) = ks)
    (hdb : (x == ("__debug__" : Str)) = false) (hpl : ((backTo pos (starEach [] X.env)).any (·.1) || (backToKw pos (keywordEach kws X.env)).any (·.1.isNone)) = false) :
    PE X (.Call (.Name x p) [] kws pos) (tCallS (fun zs H Q E => sp (gV [] zs) H Q E) E tk) := by
  refine ⟨fun pins s σ H Q I h => wpAny_Call_Name_kw (ld_glob I hg hm ?_ hdb)⟩
  refine PySem.W.callWith_KW0 (h₀ := X.base) I.ok.mod.kin hk hall (thn (hkw.run pos pins s σ H _ I h) fun ws s2 z => ?_) hpl
  obtain ⟨zs, H2, I2, rz, q2⟩ := z
  refine ⟨I2.kIn, ?_⟩
  have r2 := hb.rel .nil rz
  have hl : (g [] ws).length = ps.length := r2.length.symm.trans (F.len _ _ _ _ q2)
  have c := F.run X.A X.stack s2 H2 ⟨[], ks.zip ws⟩ (g [] ws) (gV [] zs) Q (E σ) hr I2.env0 (hb.to s2 [] ws I2.kIn hl) r2 q2
  rw [hks]
  refine wpAny_call (codeAny_mono c fun rs s3 hq => ?_)
  match rs, hq with
  | .error e, hq => exact hx σ pins H2 s2 e s3 I2 hq
  | .ok (.ret u), hq => exact I2.after hq
  | .ok .next, hq => exact hq.elim
  | .ok .brk, hq => exact hq.elim
  | .ok .cont, hq => exact hq.elim
theorem lift_kw {cf : Nat} {K : PySem.W.Frag} : ∀ vs H Q E, liftSp K A cf (kwCall is sp) vs H Q E → liftSp K A cf sp (gP2 is [] vs) H Q E := fun vs H Q E ⟨O, G, es, t, Ψ, Φ, le, hs, as, q, r⟩ => ⟨O, G, gP is es, t, Ψ, Φ, le, hs, argsP as is, q, r⟩
theorem tCallS_weak {sp sp' : Sp} {E : L2.St → XK} {t : TA} {σ : L2.St} {H : Hp} {Q : VK} (w : ∀ vs H Q E, sp' vs H Q E → sp vs H Q E) (hm : ∀ (Q Q' : List V → Hp → Prop) σ H, (∀ vs H, Q vs H → Q' vs H) → t σ H Q → t σ H Q') (h : tCallS sp' E t σ H Q) : tCallS sp E t σ H Q := hm _ _ σ H (fun vs H q => w _ _ _ _ q) h
theorem liftA_mono {K : PySem.W.Frag} (Q Q' : List V → Hp → Prop) (σ : L2.St) (H : Hp) (w : ∀ vs H, Q vs H → Q' vs H) (h : liftA K A W ca dr σ H Q) : liftA K A W ca dr σ H Q' :=
  let ⟨O, G, ρ, t, Ψ, Φ, le, R, q, pa, px⟩ := h
  ⟨O, G, ρ, t, Ψ, Φ, le, R, q, fun es ρ' vs G' H' l R' as k => w _ _ (pa es ρ' vs G' H' l R' as k), px⟩
theorem de_callKw {j : Nat} (F : Fk X A cf j x ps ks is sp) (hr : Room k X.A) (tk : Takes X W) (ha : DK X A W ca kws dr) (hg : Gl X x := by rfl) (hjk : j ≤ k := by decide) (hall : (backToKw pos (keywordEach kws X.env)).all (·.1.isSome) = true := by rfl) (hks : (backToKw pos (keywordEach kws X.env)).filterMap (·.1) = ks := by rfl)
    (hdb : (x == ("__debug__" : Str)) = false := by decide) (hpl : ((backTo pos (starEach [] X.env)).any (·.1) || (backToKw pos (keywordEach kws X.env)).any (·.1.isNone)) = false := by rfl) : DE X A W (ca + cf) (.Call (.Name x p) [] kws pos) (dCall (kwCall is sp) dr) := by
  obtain ⟨f, fd, F1, hm, hk, hb⟩ := F.ex
  exact ⟨PE.weak (pe_callKW0 F1 (hr.mono hjk) hg hm hk hb (passAt tk) ha.pk hall hks hdb hpl).lk fun σ H Q h => tCallS_weak (lift_kw) liftA_mono (lift_call h)⟩
theorem do_callKw {j : Nat} (F : Fk X A cf j x ps ks is sp) (hr : Room k X.A) (tk : Takes X W) (ha : DK X A W ca kws dr) (hg : Gl X x := by rfl) (hjk : j ≤ k := by decide) (hall : (backToKw pos (keywordEach kws X.env)).all (·.1.isSome) = true := by rfl) (hks : (backToKw pos (keywordEach kws X.env)).filterMap (·.1) = ks := by rfl)
    (hdb : (x == ("__debug__" : Str)) = false := by decide) (hpl : ((backTo pos (starEach [] X.env)).any (·.1) || (backToKw pos (keywordEach kws X.env)).any (·.1.isNone)) = false := by rfl) : DO X A W (ca + cf) (.Call (.Name x p) [] kws pos) (oCall (kwCall is sp) dr) := by
  obtain ⟨f, fd, F1, hm, hk, hb⟩ := F.ex
  exact ⟨PE.weak (pe_callKW0 F1 (hr.mono hjk) hg hm hk hb (passAt tk) ha.pk hall hks hdb hpl) fun σ H Q h => tCallS_weak (lift_kw) liftA_mono (lift_ocall h)⟩
end
end TM
namespace TM
open L2 PySem.Spec PySem PyProof.Rows

/-! ### the head's hook: the object of sys.modules is seen, too -/
def obsS (fa : List He.Fa) (fn : List He.DefD) (K : PySem.W.Frag) : He.AlD := ((He.obsD fa fn K).1 && (K.lookup sysModules).isSome, (He.obsD fa fn K).2)
def obsSG (n : Nat) (fa : List He.Fa) (fn : List He.DefD) (g : Addr → Option Obj) : He.AlD := obsS fa fn (He.frG g (sysModules :: He.asD g n))
def SaysS (fa : List He.Fa) (fn : List He.DefD) (K : PySem.W.Frag) : Prop := obsS fa fn K = He.valD fn
theorem SaysS.d {fa : List He.Fa} {fn : List He.DefD} {K : PySem.W.Frag} (h : SaysS fa fn K) : He.SaysD fa fn K := by
  have h1 : ((He.obsD fa fn K).1 && (K.lookup sysModules).isSome) = true := congrArg (fun z : He.AlD => z.1) (show obsS fa fn K = He.valD fn from h)
  have h2 : (obsS fa fn K).2 = (He.valD fn).2 := by rw [show obsS fa fn K = He.valD fn from h]
  rw [Bool.and_eq_true] at h1
  exact Prod.ext h1.1 h2
theorem SaysS.sm {fa : List He.Fa} {fn : List He.DefD} {K : PySem.W.Frag} (h : SaysS fa fn K) : (K.lookup sysModules).isSome = true := by
  have h1 : ((He.obsD fa fn K).1 && (K.lookup sysModules).isSome) = true := congrArg (fun z : He.AlD => z.1) (show obsS fa fn K = He.valD fn from h)
  rw [Bool.and_eq_true] at h1
  exact h1.2
def hookS (n : Nat) (fa : List He.Fa) (fn : List He.DefD) : PySem.W.Hook where
  α := He.AlD
  obs := fun s => obsSG n fa fn s.heap.get?
  val := fun _ => He.valD fn
  says := fun _ h => ∃ K : PySem.W.Frag, K.In h ∧ SaysS fa fn K
  of := fun _ _ e => ⟨_, He.frG_in, e⟩
  keeps := fun _ _ _ ⟨K, hK, c⟩ k => ⟨K, PySem.W.Frag.In.keeps hK k, c⟩
theorem obsSG_eq {n : Nat} {fa : List He.Fa} {fn : List He.DefD} {g : Addr → Option Obj} {s : Shared} (h : ∀ a, g a = s.heap.get? a) : obsSG n fa fn g = (hookS n fa fn).obs s := by
  obtain rfl : g = s.heap.get? := funext h
  rfl

/-! ### _law_draw keeps its promise -/
def spDraw : DSp := fun es Ψ _ => ∃ many : Int, es = [.dk, .fz (.int many)] ∧ 0 < many ∧ many < 2 ^ 62 ∧ ∀ z : Int, 0 ≤ z → z < many → Ψ (.fz (.int z))
abbrev drawN : List Str := ["deck", "many", "pool", "found", "mixed"]
theorem fn_draw {P : Program} {w : World} {K : PySem.W.Frag} {mg : Str → Option Value} {base : Heap} {x qual : Str} {params : Arguments} {body : List Stmt} {scope : Scope} {dvs : List V} {kws : List (Str × V)} {f : Addr} {fd : FuncData} {k : Nat} (a : Addr)
    (F : FunD K x qual params body scope dvs kws f fd) (S : FnScope drawN ["deck", "many"] scope)
    (hb : ∀ (cdv : Value) (Ar : Around) (outer : List Env) (s : Shared) (H : Hp) (E : XK), Room k (Ar.deeper (envOfC qual scope s.heap.objs.size f cdv)) →
      PSs (cxOf (L2.CX P w) P w K mg base drawN qual scope f cdv Ar outer s H E) body (tDraw K)) :
    FnOk P w K mg base (L2.CX P w) (k + 1) f fd ["deck", "many"] (liftSp K (deckA a) 1 spDraw) := by
  have open_ : ∀ {vs : List V} {H : Hp} {Q : VK} {E : XK}, liftSp K (deckA a) 1 spDraw vs H Q E → ∃ (O G : Hp) (t : Nat) (many : Int), t + 1 ≤ TMX ∧ Hs (deckA a) t O G H ∧ vs = [.ref a, .int many] ∧ 0 < many ∧ many < 2 ^ 62 ∧
      ∀ (z : Int) (H' : Hp), 0 ≤ z → z < many → Hs (deckA a) (t + 1) O G H' → Q (.int z) H' := by
    rintro vs H Q E ⟨O, G, es, t, Ψ, Φ, le, hs, as, ⟨many, rfl, m0, m1, q⟩, pr, _⟩
    obtain ⟨v, r, rfl, h1, h2⟩ := as
    obtain ⟨u, r2, rfl, h3, h4⟩ := h2
    obtain ⟨a', rfl, e⟩ := h1
    cases e
    rw [show r2 = [] from h4]
    simp only [ArgAt, Rp] at h3
    subst h3
    exact ⟨O, G, t, many, le, hs, rfl, m0, m1, fun z H' z0 z1 h' => pr (.fz (.int z)) _ G H' (Le.refl G) h' (by simp only [RetAt, Rp]) (q z z0 z1)⟩
  refine F.ok S (fun vs H Q E h => ?_) (fun cdv Ar outer s H vs Q E hr h => ⟨_, hb cdv Ar outer s H E hr, ?_⟩)
  · obtain ⟨_, _, _, _, _, _, rfl, _⟩ := open_ h
    rfl
  · obtain ⟨O, G, t, many, le, hs, rfl, m0, m1, q⟩ := open_ h
    refine draw_run hs le m0 ?_ _ q
    have : many.natAbs < 2 ^ 62 := by omega
    exact Nat.lt_trans (PySem.Flt.log2_lt_of (by decide) this) (by decide)

/-! ### the law's def -/
def PoolD (x : D) : Prop := ∃ c f n : Int, x = .list [.int c, .int f, .int n] ∧ 0 ≤ n ∧ n ≤ 3000
def spDeck : DSp := fun es Ψ _ => ∃ ns : List Int, es = [.sc ns] ∧ ns.length ≤ 63 ∧ ∀ ps : List D, ps ≠ [] → (∀ x ∈ ps, PoolD x) → Ψ (.ow [.list ps, .int 0])
theorem pools_at {G : Hp} : ∀ {ps : List D} {ys : List V}, RpAll G ps ys → (∀ x ∈ ps, PoolD x) → ∃ rs : List Addr, ys = rs.map V.ref ∧ rs.length = ps.length ∧ ∀ r ∈ rs, PoolAt G 3000 r
  | [], ys, h, _ => by
    simp only [RpAll] at h
    exact ⟨[], h, rfl, fun _ h => nomatch h⟩
  | p :: ps, ys, h, hp => by
    simp only [RpAll] at h
    obtain ⟨y, r, rfl, h1, h2⟩ := h
    obtain ⟨rs, rfl, hl, hr⟩ := pools_at h2 fun x hx => hp x (List.mem_cons_of_mem _ hx)
    obtain ⟨c, f, n, rfl, n0, n1⟩ := hp p List.mem_cons_self
    simp only [Rp, RpAll] at h1
    obtain ⟨a, xs, rfl, ha, x1, r1, rfl, rfl, x2, r2, rfl, rfl, x3, r3, rfl, rfl, rfl⟩ := h1
    refine ⟨a :: rs, rfl, by rw [List.length_cons, List.length_cons, hl], fun r hr2 => ?_⟩
    rcases List.mem_cons.mp hr2 with rfl | hr2
    · exact ⟨c, f, n, ha, n0, by omega⟩
    · exact hr r hr2
def lawE : DEnds := { nx := fun _ => False, rt := fun e => e = .fz (.bool true), ex := fun _ _ _ => False }
theorem law_body {X : Cx} {W : WX} {c : Nat} {rest : List Stmt} {d : DSx} {st0 : Stmt} {sa : Addr} {ns : List Int} {H : Hp} {Q : VK} (h0 : PS X st0 (tAsg (liftO X.K Amb.no W 0 (oCall spDeck (aDk 0 aNil))) (gName 1))) (h1 : ∀ a, DSs X (deckA a) W c rest d) (hc : c ≤ TMX)
    (hN : 2 ≤ X.N.length) (hl : ns.length ≤ 63) (hO : Only H) (hS : SqL X.K H sa (ns.map V.int)) (hd : d (.sc ns :: .dk :: List.replicate (X.N.length - 2) .un) lawE) (hQ : ∀ H', Q (.bl true) H') :
    ∃ t, PSs X (st0 :: rest) t ∧ t { nx := fun _ H' => Q .non H', rt := Q } (L2.start X.N [.ref sa]) H := by
  refine ⟨tSeq _ (fun D σ H => ∃ a, liftS X.K (deckA a) W c d D σ H), pss_cons h0 ⟨fun pins s σ H D I ⟨a, h⟩ => (h1 a).pss.run pins s σ H D I h⟩, ?_⟩
  have st : L2.start X.N [.ref sa] = some (V.ref sa) :: none :: List.replicate (X.N.length - 2) none := by
    unfold L2.start
    obtain ⟨m, hm⟩ := Nat.exists_eq_add_of_le hN
    rw [hm]
    have e1 : 2 + m - ([V.ref sa] : List V).length = m + 1 := by
      show 2 + m - 1 = m + 1
      omega
    rw [e1, Nat.add_sub_cancel_left, List.replicate_succ]
    rfl
  rw [st]
  refine ⟨fun _ => none, H, .sc ns :: List.replicate (X.N.length - 1) .un, 0, fun ds _ => ∃ ps : List D, ds = [.list ps, .int 0] ∧ ps ≠ [] ∧ ∀ x ∈ ps, PoolD x, fun _ _ _ => False, Nat.zero_le _, ⟨⟨Le.refl H, fun b o e => (nomatch e), fun b o e => (nomatch e), trivial, fun b hb => hb.elim⟩, ?_, fun _ _ => none, ⟨fun i b u q => (nomatch q), fun i b u q => (nomatch q), fun i b u q => (nomatch q), fun i b u q => (nomatch q), fun i j b u _ q => (nomatch q)⟩, fun i e he => ?_⟩, ?_, fun ds ρ' a G' H' l R n ψ => ?_, fun _ _ _ _ _ _ _ _ _ _ q => q.elim⟩
  · rw [List.length_cons, List.length_cons, List.length_cons, List.length_replicate, List.length_replicate]
    omega
  · cases i with
    | zero =>
      cases he
      exact ⟨sa, rfl, hS⟩
    | succ i =>
      have : e = .un := by
        rw [List.getElem?_cons_succ, List.getElem?_replicate] at he
        split at he
        · exact (Option.some.inj he).symm
        · cases he
      subst this
      trivial
  · exact ⟨ns, rfl, hl, fun ps h1 h2 => ⟨ps, rfl, h1, h2⟩⟩
  · obtain ⟨ps, e, ne, hp⟩ := ψ
    subst e
    obtain ⟨xs, _, ra, R2⟩ := n.ex
    have e1 := R2.atO.1
    simp only [RpAll, Rp] at ra
    obtain ⟨x, r, rfl, ⟨pa, ys, rfl, hpa, ry⟩, x2, r2, rfl, rfl, rfl⟩ := ra
    obtain ⟨rs, rfl, hlen, hr⟩ := pools_at ry hp
    have gh := R.hs.gh
    have hdk : DeckAt a pa rs 3000 H' := ⟨⟨0, e1⟩, gh _ _ hpa, fun z => ne (List.length_eq_zero_iff.mp (by rw [← hlen, z]; rfl)), fun r hr2 => by
      obtain ⟨c, f, n, h1, h2⟩ := hr r hr2
      exact ⟨c, f, n, gh _ _ h1, h2⟩⟩
    have frz : ∀ b, FpAt a H' b → H b = none := fun b hb => by
      rcases hO b with z | ⟨ob, zs, z⟩
      · exact z
      · have h2 := gh b _ (l b _ z)
        rcases (fpAt_of hdk).mp hb with rfl | rfl | hb
        · rw [e1] at h2
          cases h2
        · rw [gh _ _ hpa] at h2
          cases h2
        · obtain ⟨_, _, _, h3, _⟩ := hdk.pool b hb
          rw [h3] at h2
          cases h2
    refine ⟨a, fun _ => none, H, _, 0, lawE, by omega, ⟨⟨l.trans gh, fun b o e => (nomatch e), fun b o e => (nomatch e), ⟨pa, rs, hdk⟩, fun b hb => ⟨frz b hb, rfl⟩⟩, ?_, fun _ _ => none, ⟨fun i b u q => (nomatch q), fun i b u q => (nomatch q), fun i b u q => (nomatch q), fun i b u q => (nomatch q), fun i j b u _ q => (nomatch q)⟩, fun i e he => ?_⟩, hd,
      ⟨fun _ _ _ _ _ _ q => q.elim, fun r v G2 H2 _ _ rv q => ?_, fun _ _ _ _ _ _ q => q.elim, fun _ _ _ _ _ _ q => q.elim, fun σ' _ _ _ _ _ _ _ _ _ _ q => q.elim⟩⟩
    · show (Ent.sc ns :: Ent.dk :: List.replicate (X.N.length - 2) Ent.un).length = (some (V.ref sa) :: some (V.ref a) :: List.replicate (X.N.length - 2) none).length
      rw [List.length_cons, List.length_cons, List.length_cons, List.length_cons, List.length_replicate, List.length_replicate]
    · match i with
      | 0 =>
        cases he
        exact ⟨sa, rfl, hS⟩
      | 1 =>
        cases he
        exact ⟨a, rfl, rfl⟩
      | i + 2 =>
        have : e = .un := by
          rw [List.getElem?_cons_succ, List.getElem?_cons_succ, List.getElem?_replicate] at he
          split at he
          · exact (Option.some.inj he).symm
          · cases he
        subst this
        trivial
    · have q' : r = .fz (.bool true) := q
      subst q'
      simp only [RetAt, Rp] at rv
      subst rv
      exact hQ H2
end TM
namespace TM
open L2 PySem.Spec PySem PyProof.Rows
section
variable {P : Program} {w : World} {K : PySem.W.Frag} {mg mb : Str → Option Value} {k : Nat} {fa a : Addr} {fd : FuncData} {x : Str} {sp : Sp} {s : Shared} {us : List Value} {ns : List Int}
abbrev scrO (us : List Value) : Obj := { cls := .type "list", data := .seq us.toArray }
/-- what is asked of the run -/
abbrev EndOk (s : Shared) (r : Result) (s' : Shared) : Prop := r = .ok (.ret (.bool true)) ∧ OldK s.heap s'.heap ∧ s'.os = s.os ∧ AllBare s'.gens
/-- only the script's cell is seen -/
theorem end_run {H : Hp} (inK : K.In s.heap) (nsM : s.heap.Ns mainGlobals mg) (nsB : s.heap.Ns builtinsNs mb) (boot : ∀ y : Str, y ≠ "__name__" → mb y = bootBuiltins y) (nolim : s.heap.NoLimit) (gens : s.gens = #[])
    (scr : s.heap.get? a = some (scrO us)) (rv : Vals (ns.map V.int) us) (hr : Room k callerA)
    (F : ∀ base : Heap, K.In base → base.Ns mainGlobals mg → FnG P w K mg base k fa fd [x] sp) (bind : ∀ (s : Shared) (u : Value), BindsTo s fd ⟨[u], []⟩ [(x, u)])
    (only : Only H) (q : sp [.ref a] H (fun v _ => v = .bl true) fun _ _ _ => False) (ok : HOk P w H s.heap) (one : ∀ b, H b ≠ none → b = a) (free : H a ≠ none → K.lookup a = none) :
    codeAny (model P w) callerA (.call (.ref fa) ⟨[.ref a], []⟩) (EndOk s) s := by
  have dictOut : ∀ (b : Addr) (o : Obj) (es : Array DictEntry) (ep : Nat), s.heap.get? b = some o → o.data = .dict es ep → H b = none := by
    intro b o es ep e d
    by_cases z : H b = none
    · exact z
    · have eb := one b z
      rw [eb, scr] at e
      injection e with e
      rw [← e] at d
      cases d
  have see : ∀ (b : Addr) (o : Obj), s.heap.get? b = some o → H b = none → (hidT s.heap H).get? b = some o := fun b o e n => hidT_get e n
  have nsOf : ∀ (b : Addr) (m : Str → Option Value), s.heap.Ns b m → (hidT s.heap H).Ns b m := by
    rintro b m ⟨o, es, ep, e, d, r⟩
    exact ⟨o, es, ep, see b o e (dictOut b o es ep e d), d, r⟩
  have inB : K.In (hidT s.heap H) := by
    intro b o e
    refine see b o (inK b o e) ?_
    by_cases z : H b = none
    · exact z
    · have eb := one b z
      have := free (by rw [← eb]; exact z)
      rw [eb, this] at e
      cases e
  obtain ⟨ml, l1, l2⟩ := nolim
  have env : Env0 P w K mg (hidT s.heap H) callerA [] s H :=
    ⟨rfl, ⟨inB, nsOf _ _ nsM, ⟨mb, nsOf _ _ nsB, boot⟩, ⟨ml, nsOf _ _ l1, l2⟩⟩, fun _ _ e => of_hidT e, Nat.le_of_eq (hidT_size _ _), trivial, fun b (hb : b ∈ ([] : List Addr)) => (nomatch hb), ok, .of_eq gens⟩
  have run := (F _ inB (nsOf _ _ nsM)).run callerA [] s H ⟨[.ref a], []⟩ [.ref a] [.ref a] _ _ hr rfl env (bind s (.ref a)) (.cons rfl .nil) q
  refine codeAny_mono run fun rs s' h => ?_
  match rs, h with
  | .error e, h =>
    obtain ⟨_, _, _, _, _, _, _, _, _, _, _, _, h⟩ := h
    exact h.elim
  | .ok .next, h => exact False.elim h
  | .ok .brk, h => exact False.elim h
  | .ok .cont, h => exact False.elim h
  | .ok (.ret u), h =>
    obtain ⟨v, H', os, bare, un, ok', r', (e : v = .bl true)⟩ := h
    rw [e] at r'
    refine ⟨congrArg (fun z => Except.ok (Flow.ret z)) (show u = Value.bool true from r'), OldK.of_keep fun b o e => ?_, os, bare⟩
    by_cases z : H b = none
    · exact un.keep b o e z (fun hb => (nomatch (show b ∈ ([] : List Addr) from hb))) (by simp)
    · rcases only b with y | ⟨ob, xs, y⟩
      · exact absurd y z
      · have y2 := (ok' b _ (un.frzs b ob _ y)).1
        have y1 := (ok b _ y).1
        rw [e] at y1
        injection y1 with y1
        rw [y1]
        exact y2
/-- the law's end -/
theorem walkG {l : PySem.W.OpenLaw} {n k : Nat} {q : Program} {loose : List Str} {XP : (Str → Option Value) → Heap → Prop} {YP : World → Heap → Prop} {d : DefRec} {x : Str}
    (hn : l.most = some n) (hz : n ≤ sizeLine) (hdf : d.params.defaults = []) (hr : Room k callerA)
    (F : ∀ (w : World) (mg : Str → Option Value) (fa : Addr) (h : Heap), YP w h → h.Ns mainGlobals mg → mg d.name = some (.ref fa) →
      ∃ (K : PySem.W.Frag) (fd : FuncData) (sp : Sp), K.In h ∧ (∀ (s : Shared) (u : Value), BindsTo s fd ⟨[u], []⟩ [(x, u)]) ∧
        (∀ (H : Hp) (a : Addr) (ns : List Int), ns.length ≤ n → Only H → SqL K H a (ns.map V.int) → sp [.ref a] H (fun v _ => v = .bl true) fun _ _ _ => False) ∧
        ∀ base : Heap, K.In base → base.Ns mainGlobals mg → FnG l.prog w K mg base k fa fd [x] sp) :
    PySem.W.WalkO q loose XP YP l.row.toRowW d [] (fun f vs => PySem.call f vs) := by
  refine Att.attach_call hn hdf fun w s₀ s mg mb fa o pm cd doc a us ns G Y _ _ _ hmg scr isi len gens => ?_
  obtain ⟨K, fd, sp, inK, bind, hsp, F1⟩ := F w mg fa _ Y G.T.g hmg
  have rv := vals_ints isi
  have lz : ns.length ≤ sizeLine := Nat.le_trans len hz
  by_cases own : K.lookup a = none
  · let H : Hp := single a (.frz (scrO us) (.lst (ns.map V.int)))
    have at_ : H a = some (.frz (scrO us) (.lst (ns.map V.int))) := if_pos rfl
    have only : Only H := fun b => by
      by_cases e : b = a
      · exact .inr ⟨_, _, by rw [e]; exact at_⟩
      · exact .inl (if_neg e)
    refine end_run (H := H) inK G.T.g G.T.b G.T.builtins G.T.nolimit gens scr rv hr F1 bind only (hsp H a ns len only (.inl (.inr ⟨_, at_⟩))) (fun b u z => ?_) (fun b z => ?_) fun _ => own
    · obtain ⟨rfl, rfl⟩ := single_at z
      exact ⟨scr, by rw [List.length_map]; exact lz, us, _, rv, scr⟩
    · by_cases e : b = a
      · exact e
      · exact absurd (if_neg e) z
  · obtain ⟨o', ho⟩ : ∃ o', K.lookup a = some o' := by
      cases z : K.lookup a with
      | none => exact absurd z own
      | some o' => exact ⟨o', rfl⟩
    have e := inK a o' ho
    rw [scr] at e
    injection e with e
    subst e
    have only : Only (fun _ => none) := fun _ => .inl rfl
    exact end_run (H := fun _ => none) inK G.T.g G.T.b G.T.builtins G.T.nolimit gens scr rv hr F1 bind only
      (hsp _ a ns len only (.inr ⟨_, us.toArray, _, ho, rfl, rfl, rfl, by rw [List.size_toArray, isi.length]; exact lz, by simpa using rv⟩)) (fun b u z => (nomatch z)) (fun b z => absurd rfl z) fun z => absurd rfl z
end
/-- the law's promise -/
def spLaw (K : PySem.W.Frag) : Sp := fun vs H Q _ => ∃ (a : Addr) (ns : List Int), vs = [.ref a] ∧ ns.length ≤ 63 ∧ Only H ∧ SqL K H a (ns.map V.int) ∧ ∀ H', Q (.bl true) H'
theorem fn_law {P : Program} {w : World} {K : PySem.W.Frag} {mg : Str → Option Value} {base : Heap} {x qual : Str} {params : Arguments} {body : List Stmt} {scope : Scope} {dvs : List V} {kws : List (Str × V)} {f : Addr} {fd : FuncData} {N : List Str} {k c : Nat} {st0 : Stmt} {rest : List Stmt} {d : DSx}
    (F : FunD K x qual params body scope dvs kws f fd) (S : FnScope N ["script"] scope) (hbody : body = st0 :: rest) (hc : c ≤ TMX) (hN : 2 ≤ N.length)
    (h0 : ∀ (cdv : Value) (Ar : Around) (outer : List Env) (s : Shared) (H : Hp) (E : XK), Room k (Ar.deeper (envOfC qual scope s.heap.objs.size f cdv)) →
      PS (cxOf (L2.CX P w) P w K mg base N qual scope f cdv Ar outer s H E) st0 (tAsg (liftO K Amb.no (fun cls d _ H => E cls d H) 0 (oCall spDeck (aDk 0 aNil))) (gName 1)))
    (h1 : ∀ (cdv : Value) (Ar : Around) (outer : List Env) (s : Shared) (H : Hp) (E : XK) (a : Addr), Room k (Ar.deeper (envOfC qual scope s.heap.objs.size f cdv)) → (Ar.deeper (envOfC qual scope s.heap.objs.size f cdv)).guards = some [] →
      DSs (cxOf (L2.CX P w) P w K mg base N qual scope f cdv Ar outer s H E) (deckA a) (fun cls d _ H => E cls d H) c rest d)
    (hd : ∀ ns : List Int, ns.length ≤ 63 → d (.sc ns :: .dk :: List.replicate (N.length - 2) .un) lawE) : FnG P w K mg base (k + 1) f fd ["script"] (spLaw K) := by
  refine fnG_ok (A := Amb.no) F S (fun vs H Q E h => ?_) fun cdv B fr s H vs Q E hr hg h => ?_
  · obtain ⟨a, ns, rfl, _⟩ := h
    rfl
  · obtain ⟨a, ns, rfl, hl, hO, hS, hQ⟩ := h
    subst hbody
    exact law_body (h0 cdv B fr s H E hr) (fun a => h1 cdv B fr s H E a hr hg) hc hN hl hO hS (hd ns hl) hQ
end TM
namespace TM
open L2 PySem.Spec PySem PyProof.Rows
abbrev wxW (E : XK) : WX := fun cls d _ H => E cls d H
abbrev gPow : G2 := gI CPowW fun i j => i ^ j.toNat
theorem de_pow {X : Cx} {A : Amb} {W : WX} {ca cb : Nat} {a b : Expr} {da db : DEx} {pos : Pos} (ha : DE X A W ca a da) (hb : DE X A W cb b db) : DE X A W (ca + cb) (.BinOp a .Pow b pos) (dOp2 gPow da db) := de_bin op_powW snd_I ha hb
theorem ps_setD {X : Cx} {A : Amb} {W : WX} {i c : Nat} {x : Str} {e : Expr} {d : DOx} {pos pos' : Pos} (hN : X.N.Nodup) (hi : X.N[i]? = some x) (hx : Loc X.env.scope x) (he : DO X A W c e d) (hs : swapsWith e (some (.Name x pos')) pos.line X.env = pure false := by rfl)
    (hf : X.fn x = true ∨ X.env.scope.names.lookup x = some .local := by first | exact .inl rfl | exact .inr rfl | assumption) : PS X (.Assign [.Name x pos'] e pos) (tAsg (liftO X.K A W c d) (gName i)) := ps_set hN hi hx he.pe hs hf
theorem tk0 {X : Cx} : Takes X W0 := fun u s' h => by
  obtain ⟨_, _, _, _, _, _, _, _, _, _, _, _, _, _, _, _, w⟩ := h
  exact w.elim
section
variable (P : Program) (w : World) (K : PySem.W.Frag) (mg : Str → Option Value) (base : Heap)
/-- a def's body is read as den: c draws at most; in it Room k stands -/
def Der (A : Amb) (k : Nat) (N : List Str) (qual : Str) (scope : Scope) (c : Nat) (body : List Stmt) (den : DSx) : Prop := ∀ (f : Addr) (cdv : Value) (Ar : Around) (outer : List Env) (s : Shared) (H : Hp) (E : XK), Room k (Ar.deeper (envOfC qual scope s.heap.objs.size f cdv)) →
  DSs (cxOf (L2.CX P w) P w K mg base N qual scope f cdv Ar outer s H E) A (wxW E) c body den
/-- the def x is there, keeps its promise, takes its parameters by their places -/
def FnD (A : Amb) (cf k : Nat) (x : Str) (ps : List Str) (sp : DSp) : Prop := ∃ f fd, FnOk P w K mg base (L2.CX P w) k f fd ps (liftSp K A cf sp) ∧ mg x = some (.ref f) ∧ PySem.W.keepIn K (.ref f) = true ∧ Binds K fd ps []
/-- the same called by keywords alone -/
def FkD (A : Amb) (cf k : Nat) (x : Str) (ps ks : List Str) (is : List Nat) (sp : DSp) : Prop := ∃ f fd, FnOk P w K mg base (L2.CX P w) k f fd ps (liftSp K A cf sp) ∧ mg x = some (.ref f) ∧ PySem.W.keepIn K (.ref f) = true ∧ KBinds K fd ps ks (gP2 is) (gP2 is)
/-- what the head tells: the def's object -/
structure Txt (fa : List He.Fa) (fn : List He.DefD) : Prop where
  say : SaysS fa fn K
  ns : ∃ h : Heap, K.In h ∧ h.Ns mainGlobals mg
end
section
variable {P : Program} {w : World} {K : PySem.W.Frag} {mg : Str → Option Value} {base : Heap} {A : Amb} {cf k : Nat} {x : Str} {ps ks : List Str} {is : List Nat} {sp : DSp}
theorem FnD.fn {X : Cx} (h : FnD X.prog X.w X.K X.mg X.base A cf k x ps sp) : Fn X A cf k x ps sp := ⟨h⟩
theorem FkD.fk {X : Cx} (h : FkD X.prog X.w X.K X.mg X.base A cf k x ps ks is sp) : Fk X A cf k x ps ks is sp := ⟨h⟩
variable {fa : List He.Fa} {fn : List He.DefD}
theorem Txt.free (T : Txt K mg fa fn) (i : Nat) {y : Str} (h : fa[i]? = some (.free y) := by rfl) : mg y = none :=
  let ⟨_, X, G⟩ := T.ns
  He.free_ok X G (T.say.d.fact i h)
theorem Txt.glo (T : Txt K mg fa fn) (i : Nat) {y : Str} (h : fa[i]? = some (.glo y) := by rfl) : mg y = some (.ref (He.ga K y)) :=
  let ⟨_, X, G⟩ := T.ns
  He.glo_ok X G (T.say.d.fact i h)
theorem Txt.int (T : Txt K mg fa fn) (i : Nat) {y : Str} {z : Int} (h : fa[i]? = some (.int y z) := by rfl) : ∃ t, mg y = some (.int z t) :=
  let ⟨_, X, G⟩ := T.ns
  He.int_ok X G (T.say.d.fact i h)
theorem Txt.str (T : Txt K mg fa fn) (i : Nat) {y z : Str} (h : fa[i]? = some (.str y z) := by rfl) : ∃ t, mg y = some (.str z t) :=
  let ⟨_, X, G⟩ := T.ns
  He.str_ok X G (T.say.d.fact i h)
theorem fn_ok2 {qual : Str} {params : Arguments} {body : List Stmt} {scope : Scope} {f : Addr} {fd : FuncData} {N : List Str} {den : DSx} (F : FunD K x qual params body scope [] [] f fd) (S : FnScope N ps scope) (hb : Der P w K mg base A k N qual scope cf body den)
    (rd : ∀ es Ψ Φ, sp es Ψ Φ → es.length = ps.length ∧ den (es ++ List.replicate (N.length - es.length) .un) { nx := fun _ => Ψ (.fz .none), rt := Ψ, ex := fun c p _ => Φ c p }) : FnOk P w K mg base (L2.CX P w) (k + 1) f fd ps (liftSp K A cf sp) :=
  fn_ok F S (fun cdv Ar outer s H E hr => hb f cdv Ar outer s H E hr) rd
theorem FnD.of {qual : Str} {params : Arguments} {body : List Stmt} {scope : Scope} {f : Addr} {fd : FuncData} (h : FnOk P w K mg base (L2.CX P w) k f fd ps (liftSp K A cf sp)) (F : FunD K x qual params body scope [] [] f fd) (hm : mg x = some (.ref f))
    (hbd : ∀ (kV doc pm : Value) (an : Option Addr) (cdv ct : Value) (us : List Value), us.length = ps.length → bindArgs (PySem.W.fnOf x qual params body scope .none kV doc pm an cdv ct) ⟨us, []⟩ = pure (ps.zip us)) : FnD P w K mg base A cf k x ps sp :=
  ⟨f, fd, h, hm, F.kp, F.bindsN hbd⟩
theorem FkD.of {qual : Str} {params : Arguments} {body : List Stmt} {scope : Scope} {f : Addr} {fd : FuncData} (h : FnOk P w K mg base (L2.CX P w) k f fd ps (liftSp K A cf sp)) (F : FunD K x qual params body scope [] [] f fd) (hm : mg x = some (.ref f)) (hp : ps ≠ [])
    (hbd : ∀ (kV doc pm : Value) (an : Option Addr) (cdv ct : Value) (ws : List Value), (gP is ws).length = ps.length → bindArgs (PySem.W.fnOf x qual params body scope .none kV doc pm an cdv ct) ⟨[], ks.zip ws⟩ = pure (ps.zip (gP is ws))) : FkD P w K mg base A cf k x ps ks is sp :=
  ⟨f, fd, h, hm, F.kp, kbinds_of F hp hbd⟩
end
end TM
namespace TM
open L2 PySem.Spec PySem PyProof.Rows
/-! ### sets of texts -/
/-- how many different texts stand ahead of place i -/
def dcF (xs : List Str) : Nat → Nat
  | 0 => 0
  | i + 1 => if (xs.take i).any (· == xs.getD i Str.empty) then dcF xs i else dcF xs i + 1
theorem dcF_le (xs : List Str) : ∀ i, dcF xs i ≤ i
  | 0 => Nat.le_refl _
  | i + 1 => by
    have := dcF_le xs i
    unfold dcF
    split <;> omega
section
variable {P : Program} {w : World} {B : Around} {R : Result → Shared → Prop} {I : Addr} {fp wr : List Addr} {G : Array GenState → Array GenState → Prop} {n : Nat} {V : Nat → Value → Prop} {St : Nat → Shared → Prop}
abbrev SetS (h : Heap) (P : Program) (w : World) (a : Addr) (xs : List Str) (i : Nat) : Prop := h.SetOf (strKind P w) a (fun k => (xs.take i).any (· == k)) (dcF xs i)
theorem SetS.to {h h' : Heap} {a : Addr} {xs : List Str} {i : Nat} (q : SetS h P w a xs i) (k : ∀ o, h.get? a = some o → h'.get? a = some o) : SetS h' P w a xs i := by
  obtain ⟨o, es, ep, tb, e, r⟩ := q
  exact ⟨o, es, ep, tb, k o e, r⟩
theorem set_loop (W : WalksS P w B.in1 I fp wr G n V St) (a : Addr) (out : a ∉ fp) (xs : List Str) (len : xs.length = n) (few : n + 1 < scanBound) (val : ∀ i v, V i v → ∃ t, v = .str (xs.getD i Str.empty) t) :
    ∀ (m i : Nat) (s : Shared), n - i = m → i ≤ n → St i s → SetS s.heap P w a xs i → (∀ s', Moved (a :: wr) G s s' → SetS s'.heap P w a xs n → R (.ok (.ret .none)) s') →
      codeAny (model P w) B (.builtin "set.update.loop" ⟨[.ref a, .ref I], []⟩) R s := by
  have outW : a ∉ wr := fun z => out (W.sub _ z)
  have wider : ∀ b ∈ wr, b ∈ a :: wr := fun b z => List.mem_cons_of_mem _ z
  intro m
  induction m with
  | zero =>
    intro i s hm hi st q fin
    obtain rfl : i = n := by omega
    refine codeAny_builtin PyProof.Rows.F.entry_set_update_loop ?_
    rw [Around.under_plainId PyProof.Rows.F.plain_set_update_loop _]
    show wpAny _ B.in1 (pyNext (.ref I) >>= _) _ _ s
    refine wpAny_bind (W.done s _ _ st fun s' mv => ?_)
    show wpAny _ B.in1 (ret Value.none) _ _ s'
    exact wpAny_pure (fin s' (mv.mono wider) (q.to fun o e => mv.heap a o outW e))
  | succ m more =>
    intro i s hm hi st q fin
    have lt : i < n := by omega
    refine codeAny_builtin PyProof.Rows.F.entry_set_update_loop ?_
    rw [Around.under_plainId PyProof.Rows.F.plain_set_update_loop _]
    show wpAny _ B.in1 (pyNext (.ref I) >>= _) _ _ s
    refine wpAny_bind (W.item i s _ _ lt st fun v s' hv st' mv => ?_)
    obtain ⟨t, rfl⟩ := val i v hv
    have q1 : SetS s'.heap P w a xs i := q.to fun o e => mv.heap a o outW e
    generalize ey : xs.getD i Str.empty = y
    show wpAny _ B.in1 (holding [Value.str y t] (setAdd a (.str y t)) >>= _) _ _ s'
    refine wpAny_bind (wpAny_holding ?_)
    unfold setAdd
    refine wpAny_holding ?_
    refine wpAny_bind ((strKind P w).pyHash (k := y) (strKind_is _ _ _ _) ?_)
    have cnt := dcF_le xs i
    refine wpAny_setAddHashed_of (knd := strKind P w) (s := { s' with toks := s'.toks + 1 }) (strKind_is _ _ _ _) rfl q1 (by omega) fun h' but q2 => ?_
    have nx : xs.take (i + 1) = xs.take i ++ [y] := by
      have hl : i < xs.length := by omega
      rw [List.take_succ, List.getElem?_eq_getElem hl, ← ey, List.getD_eq_getElem?_getD, List.getElem?_eq_getElem hl]
      rfl
    have q3 : SetS h' P w a xs (i + 1) := by
      refine SetOf_congr q2 (fun k => ?_) ?_
      · show ((xs.take i).any (· == k) || decide (k = y)) = (xs.take (i + 1)).any (· == k)
        rw [nx, List.any_append, List.any_cons, List.any_nil, Bool.or_false]
        congr 1
        by_cases z : k = y
        · rw [z]
          simp
        · rw [decide_eq_false z]
          exact (beq_eq_false_iff_ne.mpr fun z2 => z z2.symm).symm
      · rw [dcF, ey]
    refine wpAny_pure ⟨plainId_quiet PyProof.Rows.F.plain_set_update_loop _, more (i + 1) _ (by omega) lt (W.frame _ s' _ _ st' (Nat.le_succ _) fun b hb o e => ?_) q3 fun s2 mv2 q4 => ?_⟩
    · rw [but.2 b fun z : b = a => out (by rw [← z]; exact hb)]
      exact e
    · refine fin s2 (Moved.trans W.gtrans ((mv.mono wider).then_heap (Nat.le_succ _) fun b o hb e => ?_) mv2) q4
      rw [but.2 b fun z : b = a => hb (by rw [z]; exact List.mem_cons_self)]
      exact e
end
section
variable {P : Program} {w : World} {B : Around} {E : Value → Shared → Prop} {s : Shared}
abbrev newS (led : Bool) : Obj := { cls := .type "set", dict := none, data := .set #[] 0 (.fresh 0 0 led) }
/-- with the new set, with the iterator behind it -/
abbrev with1 (h : Heap) (led : Bool) : Heap := h.push (newS led)
theorem set_texts {l : Addr} {its : Array Value} {xs : List Str} {Q : Value → Shared → Prop} (hand : B.handled = none) (lst : s.heap.IsList l its) (txt : StrsAre its.toList xs) (few : xs.length + 1 < scanBound)
    (q : ∀ (h' : Heap) (tk : Nat), SetS h' P w s.heap.objs.size xs its.size → (∀ b o, b < s.heap.objs.size → s.heap.get? b = some o → h'.get? b = some o) → Q (.ref s.heap.objs.size) { s with heap := h', toks := tk }) :
    wpAny (model P w) B (call (.type "set") [.ref l]) Q E s := by
  obtain ⟨cm, rm, mro⟩ := PySem.F.called_set.mro
  have made := PySem.F.called_set.made
  have sub := PySem.F.called_set.sub
  refine wpAny_call (codeAny_of_tree ?_)
  show wpAny _ _ (callAny (.type "set") _) _ _ _
  refine wpAny_pure ⟨Code.quiet_builtin _ (by decide +kernel), ?_⟩
  refine codeAny_builtin PySem.F.entry_type_call ?_
  rw [Around.under_plain (weight_type_call_type "set" [.ref l] []) rfl]
  have f1 := PySem.F.called_set.notType
  have f2 := PySem.F.called_set.canCreate
  have f3 := PySem.F.typeCall_set_1 (.ref l)
  repeat (any_goals (first | assumption | wp_step))
  refine codeAny_mono (code_set_new_1 (.ref l) (E := E)
    (Q₁ := fun v s1 => ∃ led : Bool, v = .ref s.heap.objs.size ∧ s1 = { s with heap := with1 s.heap led })
    fun led => ⟨led, rfl, rfl⟩) fun r s1 hr => ?_
  match r, hr with
  | .error e, hr => exact hr
  | .ok .next, hr => exact hr.elim
  | .ok .brk, hr => exact hr.elim
  | .ok .cont, hr => exact hr.elim
  | .ok (.ret v), hr =>
    obtain ⟨led, rfl, rfl⟩ := hr
    have at1 : (with1 s.heap led).get? s.heap.objs.size = some (newS led) := Heap.get?_push_size _ rfl
    have ty1 : Shared.TypeIs { s with heap := with1 s.heap led } (.ref s.heap.objs.size) "set" := ⟨_, at1, rfl⟩
    have f4 := PySem.F.called_set.init.lookup
    have f5 := PySem.F.called_set.init.bind (.ref s.heap.objs.size)
    repeat (any_goals (first | assumption | wp_step))
    refine codeAny_mono (codeAny_call_builtin (R := wants (fun r s2 => r = .none ∧ ∃ h' tk, s2 = { s with heap := h', toks := tk } ∧ SetS h' P w s.heap.objs.size xs its.size ∧
      (∀ b o, b < s.heap.objs.size → s.heap.get? b = some o → h'.get? b = some o)) E)
      PySem.F.called_set.init.plain PySem.F.entry_set_init (check_set_init_1 ty1 ?_)) fun r2 s2 hr2 => ?_
    · obtain ⟨ol, e0, hcl, nl, hdl⟩ := lst
      obtain ⟨oc, od, odt, osl⟩ := ol
      simp only at hcl hdl
      subst hcl hdl
      have e1 : (with1 s.heap led).get? l = some ⟨.type "list", od, .seq its nl, osl⟩ := Heap.get?_push_of_some _ e0
      have g1 := PySem.F.sub_list_set
      have g2 := PySem.F.sub_list_frozenset
      have g3 : (Value.type "list" == Value.type "dict") = false := by decide
      have l1 : (with1 s.heap led).IsList l its := ⟨_, e1, rfl, nl, rfl⟩
      unfold Builtin.«set.__init__» noKeywords Builtin.Frozenset.updateFrom
      generalize pyi : pyIter = py
      wp_walk
      subst pyi
      refine wpAny_pyIter_list l1 ?_
      refine wpAny_bind (wpAny_runValue ?_)
      have lt : l < s.heap.objs.size := Heap.lt_size e0
      have hand3 : B.in1.in1.in1.handled = none := by simp [hand]
      have sz1 : (with1 s.heap led).objs.size = s.heap.objs.size + 1 := Heap.size_push _ _
      have neI : l ≠ (with1 s.heap led).objs.size := by
        rw [sz1]
        exact Nat.ne_of_lt (Nat.lt_succ_of_lt lt)
      have outS : s.heap.objs.size ∉ [(with1 s.heap led).objs.size, l] := by
        rw [sz1]
        simp only [List.mem_cons, List.not_mem_nil, or_false, not_or]
        exact ⟨Nat.ne_of_lt (Nat.lt_succ_self _), Nat.ne_of_gt lt⟩
      have len : xs.length = its.size := by
        rw [← StrsAre.len_eq txt, Array.length_toList]
      have val : ∀ (i : Nat) (v : Value), its[i]? = some v → ∃ t, v = .str (xs.getD i Str.empty) t := fun i v hv =>
        SS.strs_at txt i v (by rw [Array.getElem?_toList]; exact hv)
      refine set_loop ((Walks.list hand3 _ l neI its).toS) s.heap.objs.size outS xs len (by rw [← len]; exact few) val (its.size - 0) 0 _ (by omega) (Nat.zero_le _)
        ⟨⟨_, Heap.get?_push_size _ rfl, rfl, rfl⟩, l1.push _⟩ ?_ fun s3 mv q3 => ?_
      · refine SetOf_congr ((setObjOf_fresh (knd := strKind P w) led).setOf (Heap.get?_push_of_some _ at1) (by unfold scanBound; omega)) (fun _ => rfl) rfl
      · obtain ⟨h3, g3, d3, t3, o3⟩ := s3
        obtain rfl : g3 = s.gens := mv.gens
        obtain rfl : d3 = s.drawn := mv.drawn
        obtain rfl : o3 = s.os := mv.os
        show wpAny _ _ _ _ _ _
        refine wpAny_pure ?_
        show wpAny _ _ (ret Value.none) _ _ _
        refine wpAny_pure ⟨rfl, h3, t3, rfl, q3, fun b o hb e => ?_⟩
        refine mv.heap b o ?_ (Heap.get?_push_of_some _ (Heap.get?_push_of_some _ e))
        rw [sz1]
        simp only [List.mem_cons, List.not_mem_nil, or_false, not_or]
        exact ⟨Nat.ne_of_lt hb, Nat.ne_of_lt (Nat.lt_succ_of_lt hb)⟩
    · match r2, hr2 with
      | .error e, hr2 => exact hr2
      | .ok .next, hr2 => exact hr2.elim
      | .ok .brk, hr2 => exact hr2.elim
      | .ok .cont, hr2 => exact hr2.elim
      | .ok (.ret v), hr2 =>
        obtain ⟨rfl, h', tk, rfl, q2, k2⟩ := hr2
        repeat (any_goals (first | assumption | wp_step))
        exact q _ _ q2 k2
end
end TM
namespace TM
open L2 PySem.Spec PySem PyProof.Rows
/-! ### len(set(xs)), xs a list of texts -/
def tLenSet (K : PySem.W.Frag) (ta : TE) : TE := fun σ H Q => ta σ H fun x H1 => ∃ (l : Addr) (ys : List Str), x = .ref l ∧ SqL K H1 l (ys.map V.str) ∧ ys.length < 4000 ∧ Q (.int (dcF ys ys.length : Nat)) H1
def dLenSet (d : DEx) : DEx := fun ρ Ψ Φ => d ρ (fun x ρ1 => match x with
  | .list ds => ∃ ys : List Str, ds = ys.map .str ∧ ys.length < 4000 ∧ Ψ (.int (dcF ys ys.length : Nat)) ρ1
  | _ => False) Φ
section
variable {X : Cx} {A : Amb} {W : WX} {ca : Nat} {a : Expr} {ta : TE} {da : DEx} {p p2 q pos : Pos}
theorem pe_lenSetT (hc : X.calm = true) (hg : Gl X "len") (hm : X.mg "len" = none) (hg2 : Gl X "set") (hm2 : X.mg "set" = none) (ha : PE X a ta)
    (na : starEach [a] X.env = (false, eval a X.env) :: starEach [] X.env) : PE X (.Call (.Name "len" p) [.Call (.Name "set" p2) [a] [] q] [] pos) (tLenSet X.K ta) := by
  refine ⟨fun pins s σ H Q I h => ?_⟩
  refine Call_ (ld_blt I hg hm boot_len (callWith_builtin1 (args_cons ?_ rfl) rfl rfl))
  refine Call_ (ld_blt I hg2 hm2 boot_set (callWith_type1 (args_cons ?_ na) na rfl))
  refine thn (ha.run pins s σ H _ I h) fun v s1 z => args_nil ?_
  obtain ⟨x, H1, I1, r1, l, ys, rfl, hq, few, q1⟩ := z
  cases r1
  obtain ⟨its, r, pl, hz⟩ := I1.list hq
  have len : its.toArray.size = ys.length := by
    rw [List.size_toArray, ← r.length, List.length_map]
  refine set_texts (I1.ok.hd hc) pl.isList (by simpa using strsAre_of r) (by unfold scanBound; omega) fun h' tk hS hk => args_nil ?_
  rw [len] at hS
  obtain ⟨o, es, ep, t, ho, hex, hd, _, _, _, hf, hn⟩ := hS
  have le := dcF_le ys ys.length
  have I2 : Inv X pins σ H1 { s1 with heap := h', toks := tk } := I1.kept fun b o e => hk b o (Heap.lt_size e) e
  exact call_len_set ho hex hd hf (by rw [hn]; omega) ⟨.int (dcF ys ys.length : Nat), H1, I2.tok _, ⟨_, by rw [hn]⟩, q1⟩
theorem de_lenSet (hm : X.mg "len" = none) (hm2 : X.mg "set" = none) (ha : DE X A W ca a da) (hc : X.calm = true := by rfl) (hg : Gl X "len" := by rfl) (hg2 : Gl X "set" := by rfl) (na : starEach [a] X.env = (false, eval a X.env) :: starEach [] X.env := by rfl) :
    DE X A W ca (.Call (.Name "len" p) [.Call (.Name "set" p2) [a] [] q] [] pos) (dLenSet da) :=
  ⟨PE.weak (pe_lenSetT hc hg hm hg2 hm2 ha.pe na) fun σ H Q ⟨O, G, ρ, t, Ψ, Φ, le, R, q, pe, px⟩ => ⟨O, G, ρ, t, _, Φ, le, R, q, fun x ρ1 v G1 H1 l1 R1 rx q1 => by
    cases x with
    | list ds =>
      obtain ⟨ys, rfl, few, q2⟩ := q1
      simp only [Rp] at rx
      obtain ⟨ad, xs, rfl, h, r⟩ := rx
      rw [RpAll.strs r] at h
      exact ⟨ad, ys, rfl, SqL.of (R1.hs.gh _ _ h), few, pe _ ρ1 _ G1 H1 l1 R1 (by simp only [Rp]) q2⟩
    | _ => exact q1.elim, px⟩⟩
end
theorem dcF_nodup : ∀ (xs : List Str), xs.Nodup → ∀ i, i ≤ xs.length → dcF xs i = i := by
  intro xs h i
  induction i with
  | zero => intro _; rfl
  | succ i ih =>
    intro hi
    have hl : i < xs.length := by omega
    have no : (xs.take i).any (· == xs.getD i Str.empty) = false := by
      rw [List.any_eq_false]
      intro y hy z
      have e : y = xs[i] := by
        have := beq_iff_eq.mp z
        rw [this, List.getD_eq_getElem?_getD, List.getElem?_eq_getElem hl]
        rfl
      obtain ⟨j, hj, ej⟩ := List.mem_iff_getElem.mp hy
      rw [List.length_take] at hj
      rw [List.getElem_take] at ej
      exact List.pairwise_iff_getElem.mp h j i (by omega) hl (by omega) (ej.trans e)
    unfold dcF
    rw [no, ih (by omega)]
    rfl

/-! ### a thing that stands apart -/
section
variable {K : PySem.W.Frag} {A : Amb} {t : Nat} {O O3 G H : Hp} {ρ : Sl} {σ : L2.St}
theorem Rel.unLe (R : Rel K A t O3 G ρ σ H) (low : Le O O3) : Rel K A t O G ρ σ H := by
  have nl : ∀ b, O3 b = none → O b = none := fun b h => by
    cases q : O b with
    | none => rfl
    | some x =>
      rw [low b x q] at h
      cases h
  obtain ⟨F, w, en⟩ := R.ex
  exact ⟨⟨R.hs.gh, fun b x e => R.hs.oh b x (low b x e), fun b x e => R.hs.go b x (low b x e), R.hs.at_, fun b hb => ⟨(R.hs.af b hb).1, nl b (R.hs.af b hb).2⟩⟩, R.ln, F, ⟨w.le, w.g, fun i b u e => nl b (w.o i b u e), w.f, w.d⟩, en⟩
theorem Rel.setPv (R : Rel K A t O3 G ρ σ H) (low : Le O O3) (P : Hp) (hP : Le P O3) (hd : ∀ b o, P b = some o → O b = none) {d : D} {v : V} (r : Rp P d v) (i : Nat) : Rel K A t O G (ρ.set i (.pv d)) (σ.set i (some v)) H := by
  refine (R.unLe low).setP i P (fun b o e => R.hs.oh b o (hP b o e)) (fun b o e => R.hs.go b o (hP b o e)) hd (fun b u e z => ?_) (fun F0 _ _ => ?_) ⟨v, rfl, r⟩
  · have := (R.hs.af b z).2
    rw [hP b u e] at this
    cases this
  · obtain ⟨F, w, en⟩ := R.ex
    obtain ⟨F2, w2, en2⟩ := (R.unLe low).ex
    refine ⟨F, ⟨w.le, w.g, fun i b u e => ?_, w.f, w.d⟩, en, fun i b u e => ?_⟩
    · cases z : O b with
      | none => rfl
      | some x =>
        have := w.o i b u e
        rw [low b x z] at this
        cases this
    · cases z : F i b with
      | none => rfl
      | some x =>
        have := w.o i b x z
        rw [hP b u e] at this
        cases this
/-- a list in it changes; then nothing is known of it -/
theorem Rel.mutP (R : Rel K A t O G ρ σ H) {i : Nat} {d : D} (he : ρ[i]? = some (.pv d)) : ∃ v P, σ[i]? = some (some v) ∧ Rp P d v ∧ Le P H ∧ ∀ a ys, (∃ o, P a = some o) → Rel K A t O G (ρ.set i .un) σ (L2.upd H a (.lst ys)) := by
  obtain ⟨F, w, en⟩ := R.ex
  obtain ⟨v, h1, h2⟩ := en i _ he
  refine ⟨v, F i, h1, h2, w.le i, fun a ys ⟨o, ha⟩ => ?_⟩
  have g := w.g i _ _ ha
  have ho := w.o i _ _ ha
  have f := w.f i _ _ ha
  obtain ⟨a1, a2⟩ := A.fp_upd (o := .lst ys) R.hs.at_ f
  have hi : i < ρ.length := (List.getElem?_eq_some_iff.mp he).1
  have ne : ∀ j b u, j ≠ i → F j b = some u → b ≠ a := fun j b u hj q z => by
    subst z
    rw [w.d i j b _ (fun z => hj z.symm) ha] at q
    cases q
  refine ⟨R.hs.upd g ho f, by rw [List.length_set]; exact R.ln, fun j => if j = i then fun _ => none else F j, ⟨fun j b u q => ?_, fun j b u q => ?_, fun j b u q => ?_, fun j b u q z => ?_, fun j j' b u nj q => ?_⟩, fun j e hj => ?_⟩
  · split at q
    · cases q
    · rename_i hj
      rw [upd_ne (ne j b u hj q)]
      exact w.le j b u q
  · split at q
    · cases q
    · exact w.g j b u q
  · split at q
    · cases q
    · exact w.o j b u q
  · split at q
    · cases q
    · exact w.f j b u q (a2 _ z)
  · split at q
    · cases q
    · split
      · rfl
      · exact w.d j j' b u nj q
  · by_cases hji : i = j
    · subst hji
      rw [List.getElem?_set_self hi] at hj
      cases hj
      trivial
    · rw [List.getElem?_set_ne hji] at hj
      dsimp only
      rw [if_neg (fun z => hji z.symm)]
      exact en j e hj
end
/-- x = [new list, new list], all apart -/
def sSetP2 (i : Nat) (oa ob : DOx) : DSx := fun ρ E => oa ρ (fun xs ρ1 => ob ρ1 (fun ys ρ2 => xs.all flatD = true ∧ ys.all flatD = true ∧ E.nx (ρ2.set i (.pv (.list [.list xs, .list ys])))) E.ex) E.ex
/-- x[k].append(c), c a constant: nothing is known of x any more -/
def sAppP (i : Nat) (k : Int) : DSx := fun ρ E => match atS ρ i with
  | .pv (.list zs) => (match atI zs k with
    | some (.list ds) => ds.length < sizeLine ∧ E.nx (ρ.set i .un)
    | _ => False)
  | _ => False
section
variable {X : Cx} {A : Amb} {W : WX} {ca cb i : Nat} {a b e : Expr} {da db : DOx} {x : Str} {pos p p3 p4 apos spos : Pos} {k : Int} {j : Nat} {c : V}
theorem ds_setP2 (hN : X.N.Nodup) (hi : X.N[i]? = some x) (hx : Loc X.env.scope x) (ha : DO X A W ca a da) (hb : DO X A W cb b db) {pos' : Pos} (hs : swapsWith (.List [a, b] p) (some (.Name x pos')) pos.line X.env = pure false := by rfl)
    (hf : X.fn x = true ∨ X.env.scope.names.lookup x = some .local := by first | exact .inl rfl | exact .inr rfl | assumption) (h1 : starEach [a, b] X.env = (false, eval a X.env) :: starEach [b] X.env := by rfl) (h2 : starEach [b] X.env = (false, eval b X.env) :: starEach [] X.env := by rfl) :
    DS X A W (ca + cb) (.Assign [.Name x pos'] (.List [a, b] p) pos) (sSetP2 i da db) :=
  ⟨PS.weak (ps_set hN hi hx (pe_lst (pa_cons ha.pe (pa_cons hb.pe pa_nil h2) h1)) hs hf) fun D σ H ⟨O, G, ρ, t, E, le, R, q, ok⟩ => by
    refine ⟨O, G, ρ, t, _, E.ex, by omega, R, q, fun xs ρ1 a1 G1 H1 l1 R1 n1 q1 => ?_, (ok.ex σ).dn (by omega)⟩
    obtain ⟨xv, o1, r1, S1⟩ := n1.ex
    refine ⟨_, G1, ρ1, _, _, E.ex, by omega, S1, q1, fun ys ρ2 a2 G2 H2 l2 R2 n2 ⟨fx, fy, q2⟩ => ⟨by show 2 ≤ sizeLine; decide, fun p hp => ?_⟩, (((ok.ex σ).unO o1).le l1).dn (by omega)⟩
    obtain ⟨yv, o2, r2, S2⟩ := n2.ex
    have o3 := (S2.hs.none_of hp).2.1
    have S3 := S2.onO hp (.lst [V.ref a1, V.ref a2])
    have low2 := Le.upd (o := HO.lst xv) o1
    have low3 := Le.upd (o := HO.lst yv) o2
    have low4 := Le.upd (o := HO.lst [V.ref a1, V.ref a2]) o3
    have n21 : a2 ≠ a1 := fun z => by
      rw [z, upd_same] at o2
      cases o2
    have np2 : p ≠ a2 := fun z => by
      rw [z, upd_same] at o3
      cases o3
    have np1 : p ≠ a1 := fun z => by
      rw [z, upd_ne (Ne.symm n21), upd_same] at o3
      cases o3
    have oa2 : O a2 = none := by rwa [upd_ne n21] at o2
    have op : O p = none := by rwa [upd_ne np2, upd_ne np1] at o3
    let P : Hp := L2.upd (L2.upd (L2.upd (fun _ => none) a1 (.lst xv)) a2 (.lst yv)) p (.lst [V.ref a1, V.ref a2])
    have atp : P p = some (.lst [V.ref a1, V.ref a2]) := upd_same
    have at2 : P a2 = some (.lst yv) := (upd_ne (Ne.symm np2)).trans upd_same
    have at1 : P a1 = some (.lst xv) := (upd_ne (Ne.symm np1)).trans ((upd_ne (Ne.symm n21)).trans upd_same)
    have cases_ : ∀ b o, P b = some o → b = p ∨ b = a2 ∨ b = a1 := fun b o e => by
      by_cases z : b = p
      · exact .inl z
      · by_cases z2 : b = a2
        · exact .inr (.inl z2)
        · by_cases z1 : b = a1
          · exact .inr (.inr z1)
          · have e2 : P b = none := (upd_ne z).trans ((upd_ne z2).trans (upd_ne z1))
            rw [e2] at e
            cases e
    refine ok.nx _ _ G2 _ (l1.trans l2) ((S3.setPv (O := O) ((low2.trans low3).trans low4) P (fun b o e => ?_) (fun b o e => ?_) (d := .list [.list xs, .list ys]) ?_ i).up (by omega)) q2
    · rcases cases_ b o e with rfl | rfl | rfl
      · rw [atp] at e
        rw [← e]
        exact upd_same
      · rw [at2] at e
        rw [← e]
        exact (upd_ne (Ne.symm np2)).trans upd_same
      · rw [at1] at e
        rw [← e]
        exact (upd_ne (Ne.symm np1)).trans ((upd_ne (Ne.symm n21)).trans upd_same)
    · rcases cases_ b o e with rfl | rfl | rfl
      · exact op
      · exact oa2
      · exact o1
    · simp only [Rp, RpAll]
      exact ⟨p, _, rfl, atp, _, _, rfl, ⟨a1, xv, rfl, at1, flat_all fx r1⟩, _, _, rfl, ⟨a2, yv, rfl, at2, flat_all fy r2⟩, rfl⟩⟩
theorem ds_appP (i : Nat) (he : PE X e (tC c)) (hN : X.N[i]? = some x := by rfl) (hv : Vis X.env.scope x := by first | exact Or.inl rfl | exact Or.inr (Or.inl rfl) | exact Or.inr (Or.inr rfl)) (hd : (x == ("__debug__" : Str)) = false := by decide) (hcd : (x == ("__classdict__" : Str)) = false := by decide)
    (hbase : attributeBase (.Subscript (.Name x p) (.Constant (.int k) j p3) p4) "append" X.env (eval (.Subscript (.Name x p) (.Constant (.int k) j p3) p4) X.env) = eval (.Subscript (.Name x p) (.Constant (.int k) j p3) p4) X.env := by rfl)
    (hfew : ((backTo pos (starEach [e] X.env)).all (fun x => !x.1) && (backToKw pos (keywordEach [] X.env)).all (fun x => x.1.isSome) && decide ([e].length + ([] : List Keyword).length + (if ([] : List Keyword).isEmpty then 0 else 1) < 30)) = true := by rfl)
    (hline : (apos.endLine == pos.line) = true := by rfl) (hs : starEach [e] X.env = (false, eval e X.env) :: starEach [] X.env := by rfl) (hplain : (backTo pos (starEach [] X.env)).any (·.1) = false := by rfl)
    (hsw : swapsWith (.Call (.Attribute (.Subscript (.Name x p) (.Constant (.int k) j p3) p4) "append" apos) [e] [] pos) none spos.line X.env = pure false := by rfl) :
    DS X A W 0 (.Expr (.Call (.Attribute (.Subscript (.Name x p) (.Constant (.int k) j p3) p4) "append" apos) [e] [] pos) spos) (sAppP i k) :=
  ⟨PS.weak (ps_expr (pe_bm F.plainAttrs_list F.slot_list_append F.type_list_append mt_append (pe_ix ix_seq (pe_var hN hv hd hcd) pe_int fun _ _ => rfl) (pa_cons he pa_nil hs) hbase hfew hline hs hplain) hsw) fun D σ H ⟨O, G, ρ, t, E, le, R, q, ok⟩ => by
    unfold sAppP at q
    cases h0 : atS ρ i with
    | pv d0 =>
      rw [h0] at q
      cases d0 with
      | list zs =>
        dsimp only at q
        obtain ⟨v, P, h1, h2, hP, mu⟩ := R.mutP (atS_get h0 (fun z => nomatch z))
        simp only [Rp] at h2
        obtain ⟨p0, xs, rfl, e0, r0⟩ := h2
        cases h3 : atI zs k with
        | none =>
          rw [h3] at q
          exact q.elim
        | some z =>
          rw [h3] at q
          obtain ⟨v1, e1, r1⟩ := RpAll.atI r0 h3
          cases z with
          | list ds =>
            simp only [Rp] at r1
            obtain ⟨a1, ys, rfl, e2, r2⟩ := r1
            have e3 := hP _ _ e2
            refine ⟨_, h1, .inl ⟨p0, xs, k, _, rfl, rfl, SqL.of (hP _ _ e0), e1, .inl ⟨rfl, ys, SqL.of e3⟩, ?_⟩⟩
            refine ⟨a1, ys, c, rfl, rfl, e3, by rw [RpAll.length r2]; exact q.1, ?_⟩
            exact ok.nx _ σ G _ (Le.refl G) ((mu a1 (ys ++ [c]) ⟨_, e2⟩).up (by omega)) q.2
          | _ => exact q.elim
      | _ => exact q.elim
    | _ =>
      rw [h0] at q
      exact q.elim⟩
end
end TM
namespace TM
open L2 PySem.Spec PySem PyProof.Rows
/-! ### is, of bools -/
def gIsB (neg : Bool) : G2 := fun x y κ => match x, y with
  | .bool a, .bool b => κ (.bool (neg != (a == b)))
  | _, _ => False
section
variable {X : Cx} {A : Amb} {W : WX} {ca cb : Nat} {a b : Expr} {da db : DEx} {pos : Pos}
theorem snd_isB : Snd2 X A rIsB (gIsB false) := snd2_of fun H x y v u Q κ ⟨G, _, rx, ry⟩ q k => by
  cases x with
  | bool a =>
    cases y with
    | bool b =>
      simp only [Rp] at rx ry
      have e : decide (a = b) = (false != (a == b)) := by cases a <;> cases b <;> rfl
      refine ⟨a, b, rx, ry, ?_⟩
      rw [e]
      exact k _ _ (fun _ => by simp only [Rp]) q
    | _ => exact q.elim
  | _ => exact q.elim
theorem snd_notB : Snd2 X A rNotB (gIsB true) := snd2_of fun H x y v u Q κ ⟨G, _, rx, ry⟩ q k => by
  cases x with
  | bool a =>
    cases y with
    | bool b =>
      simp only [Rp] at rx ry
      have e : (!decide (a = b)) = (true != (a == b)) := by cases a <;> cases b <;> rfl
      refine ⟨a, b, rx, ry, ?_⟩
      rw [e]
      exact k _ _ (fun _ => by simp only [Rp]) q
    | _ => exact q.elim
  | _ => exact q.elim
theorem de_isB (ha : DE X A W ca a da) (hb : DE X A W cb b db) (hm : behindInMarks .Is b = false := by rfl) : DE X A W (ca + cb) (.Compare a [.Is] [b] pos) (dOp2 (gIsB false) da db) := de_cmp op_isBl snd_isB ha hb hm
theorem de_isNotB (ha : DE X A W ca a da) (hb : DE X A W cb b db) (hm : behindInMarks .IsNot b = false := by rfl) : DE X A W (ca + cb) (.Compare a [.IsNot] [b] pos) (dOp2 (gIsB true) da db) := de_cmp op_notBl snd_notB ha hb hm
theorem dt_isB (ha : DE X A W ca a da) (hb : DE X A W cb b db) (hm : behindInMarks .Is b = false := by rfl) : DT X A W (ca + cb) (.Compare a [.Is] [b] pos) (dTst (dOp2 (gIsB false) da db)) := dt_cmp op_isBl snd_isB ha hb hm
theorem dt_isNotB (ha : DE X A W ca a da) (hb : DE X A W cb b db) (hm : behindInMarks .IsNot b = false := by rfl) : DT X A W (ca + cb) (.Compare a [.IsNot] [b] pos) (dTst (dOp2 (gIsB true) da db)) := dt_cmp op_notBl snd_notB ha hb hm
end
end TM
namespace TM
open L2 PySem.Spec PySem PyProof.Rows
/-! ### s * n, n from 1 on -/
theorem strRep_one (s : Str) : strRep s 1 = s := by
  unfold strRep
  simp
def gSRep1 : G2 := fun x y κ => match x, y with
  | .str s, .int k => 1 ≤ k ∧ k < 2 ^ 20 ∧ 1 ≤ s.length ∧ s.length * k.toNat ≤ 16777216 ∧ κ (.str (strRep s k.toNat))
  | _, _ => False
def rSRep1 : R2 := fun x y H Q => ∃ s k, x = .str s ∧ y = .int k ∧ 1 ≤ k ∧ k < 2 ^ 20 ∧ 1 ≤ s.length ∧ s.length * k.toNat ≤ 16777216 ∧ Q (.str (strRep s k.toNat)) H
section
variable {X : Cx} {A : Amb} {W : WX} {ca cb : Nat} {a b : Expr} {da db : DEx} {pos : Pos}
theorem op_srep1 : OpR X (binaryOp .Mult) rSRep1 := fun pins s σ H x y v u Q I rx ry h => by
  obtain ⟨z, k, rfl, rfl, h1, h2, h3, h4, q⟩ := h
  by_cases hk : k = 1
  · subst hk
    obtain ⟨t, rfl⟩ := rx
    obtain ⟨t', rfl⟩ := ry
    refine PySem.P.mul_str (by decide) (fun _ z => ?_) (fun _ z => ?_) ?_
    · rw [show ((1 : Int) == 1) = true from rfl, Bool.true_or] at z
      cases z
    · rw [show ((1 : Int) == 1) = true from rfl, Bool.true_or] at z
      cases z
    · rw [if_neg (by decide), if_pos (by rfl)]
      rw [show (1 : Int).toNat = 1 from rfl, strRep_one] at q
      exact ⟨.str z, H, I, ⟨t, rfl⟩, q⟩
  · exact op_srep pins s σ H _ _ v u Q I rx ry ⟨z, k, rfl, rfl, by omega, h2, h3, h4, q⟩
theorem snd_srep1 : Snd2 X A rSRep1 gSRep1 := snd2_of fun H x y v u Q κ ⟨G, _, rx, ry⟩ q k => by
  cases x <;> cases y <;> simp only [gSRep1] at q
  simp only [Rp] at rx ry
  exact ⟨_, _, rx, ry, q.1, q.2.1, q.2.2.1, q.2.2.2.1, k _ _ (fun _ => by simp only [Rp]) q.2.2.2.2⟩
theorem de_srep1 (ha : DE X A W ca a da) (hb : DE X A W cb b db) : DE X A W (ca + cb) (.BinOp a .Mult b pos) (dOp2 gSRep1 da db) := de_bin op_srep1 snd_srep1 ha hb
end
end TM
namespace TM
open L2 PySem.Spec PySem PyProof.Rows
/-! ### x[e], x a list of one's own whose parts nobody changes -/
def dGetOw (i : Nat) (d : DEx) : DEx := fun ρ Ψ Φ => match atS ρ i with
  | .ow _ => d ρ (fun y ρ1 => match atS ρ1 i with
    | .ow ds => (match y with
      | .int k => (match atI ds k with
        | some z => Ψ z ρ1
        | none => False)
      | _ => False)
    | _ => False) Φ
  | _ => False
section
variable {X : Cx} {A : Amb} {W : WX} {cb : Nat} {b : Expr} {db : DEx} {x : Str} {pos p : Pos}
theorem de_getOw (i : Nat) (hb : DE X A W cb b db) (hN : X.N[i]? = some x := by rfl) (hv : Vis X.env.scope x := by first | exact Or.inl rfl | exact Or.inr (Or.inl rfl) | exact Or.inr (Or.inr rfl)) (hd : (x == ("__debug__" : Str)) = false := by decide) (hcd : (x == ("__classdict__" : Str)) = false := by decide)
    (hs : PlainIx b := by exact fun _ _ => rfl) : DE X A W cb (.Subscript (.Name x p) b pos) (dGetOw i db) :=
  ⟨PE.weak (pe_ix ix_seq (pe_var hN hv hd hcd) hb.pe hs) fun σ H Q ⟨O, G, ρ, t, Ψ, Φ, le, R, q, pe, px⟩ => by
    unfold dGetOw at q
    cases e : atS ρ i with
    | ow ds0 =>
      rw [e] at q
      obtain ⟨a, xs0, h1, _, _, _⟩ := R.owAt (atS_get e (fun z => nomatch z))
      refine ⟨_, h1, O, G, ρ, t, _, Φ, le, R, q, fun y ρ1 u G1 H1 l1 R1 ry q1 => ?_, px⟩
      dsimp only at q1
      cases e1 : atS ρ1 i with
      | ow ds =>
        rw [e1] at q1
        obtain ⟨a1, xs, f1, f2, f3, _⟩ := R1.owAt (atS_get e1 (fun z => nomatch z))
        rw [h1] at f1
        cases f1
        cases y with
        | int k =>
          simp only [Rp] at ry
          subst ry
          dsimp only at q1
          cases e2 : atI ds k with
          | none =>
            rw [e2] at q1
            exact q1.elim
          | some z =>
            rw [e2] at q1
            obtain ⟨v, e3, r3⟩ := RpAll.atI f3 e2
            exact .inl ⟨a, xs, k, v, rfl, rfl, SqL.of f2, e3, pe z ρ1 v G1 H1 l1 R1 r3 q1⟩
        | _ => exact q1.elim
      | _ =>
        rw [e1] at q1
        exact q1.elim
    | _ =>
      rw [e] at q
      exact q.elim⟩
end
end TM
namespace TM
open L2 PySem.Spec PySem PyProof.Rows
/-! ### walks over a list of at most n things: the body may draw -/
def iLB (n : Nat) (d : DEx) : DIx := fun ρ Ψ Φ => d ρ (fun x ρ1 => match x with
  | .list ds => ds.length ≤ n ∧ Ψ ds ρ1
  | _ => False) Φ
section
variable {X : Cx} {A : Amb} {W : WX} {ca : Nat} {tg a : Expr} {da : DEx}
theorem di_listB (n : Nat) (ha : DE X A W ca a da) : DI X A W ca (some n) tg a (iLB n da) := ⟨PI.weak (pi_list ha.pe) fun σ H Q ⟨O, G, ρ, t, Ψ, Φ, le, R, q, pi, px⟩ => ⟨O, G, ρ, t, _, Φ, by omega, R, q, fun x ρ1 v G1 H1 l1 R1 rx q1 => by
  cases x with
  | list ds =>
    simp only [Rp] at rx
    obtain ⟨ad, xs, rfl, h, r⟩ := rx
    exact ⟨ad, rfl, ⟨xs, SqL.of (R1.hs.gh _ _ h)⟩, pi ds ρ1 G1 H1 _ l1 (R1.up (by omega)) (walk_list h r) (fun _ h => by cases h; exact q1.1) q1.2⟩
  | _ => exact q1.elim, px.dn (by omega)⟩⟩
end
end TM
namespace TM
open L2 PySem.Spec PySem PyProof.Rows
/-! ### repr of any data -/
def gReprA : GL := fun ds κ => match ds with
  | [d] => d.showable = true ∧ d.depth ≤ 50 ∧ d.shown.length ≤ sizeLine ∧ κ (.str d.shown)
  | _ => False
def rReprA (K : PySem.W.Frag) : List V → Hp → VK → Prop := fun vs H Q => ∃ (G : Hp) (d : D) (v : V), vs = [v] ∧ Le G H ∧ Rp G d v ∧ d.showable = true ∧ d.depth ≤ 50 ∧ d.shown.length ≤ sizeLine ∧ Q (.str d.shown) H
section
variable {X : Cx} {A : Amb} {W : WX} {ca : Nat} {a : Expr} {dr : DAx} {pos p : Pos}
theorem call_reprA {k : Nat} (hr : Room (k + 1) X.A) (hgu : X.A.guards = some []) (hsm : (X.K.lookup sysModules).isSome = true) : CallR X (.builtin "repr") (rReprA X.K) := by
  intro pins s σ H xs us Q I rv h
  obtain ⟨G, d, v, rfl, l, r, h1, h2, h3, q⟩ := h
  obtain ⟨u, rfl, ru⟩ := vals1 rv
  obtain ⟨o, ho⟩ := Option.isSome_iff_exists.mp hsm
  have hm : H sysModules = none := (I.bs _ _ (I.ok.mod.kin _ _ ho)).2
  have refs : ∀ b : Addr, u = .ref b → wpAny (model X.prog X.w) X.A (call (.builtin "repr") [u]) (EP X pins σ Q) X.xe s := by
    rintro b rfl
    obtain ⟨as, rd, hn⟩ := Rp.reads I l hm d _ _ r ru
    have hu := hr.un
    refine repr_of_reads' rd h1 (fun _ => hn) hgu (by omega) (fun _ _ e => e) (fun h' tk u' hk => ?_) h3
    exact ⟨.str d.shown, H, I.kept (t' := u') hk, ⟨_, rfl⟩, q⟩
  cases d with
  | none =>
    simp only [Rp] at r
    subst r
    cases ru
    exact PySem.P.repr_of_none ⟨.str "None", H, I.tok _, ⟨_, rfl⟩, q⟩
  | bool b =>
    simp only [Rp] at r
    subst r
    cases ru
    refine PySem.P.repr_of_bool ⟨.str (if b then "True" else "False"), H, I.tok _, ⟨_, by cases b <;> rfl⟩, ?_⟩
    simp only [PyData.shown] at q
    exact q
  | int i =>
    simp only [Rp] at r
    subst r
    obtain ⟨t, rfl⟩ := ru
    have h1 : i.natAbs.log2 < 1920 := by
      simp only [PyData.showable] at h1
      exact of_decide_eq_true h1
    refine PySem.P.repr_of_int h1 ⟨.str (toString i), H, I.tok _, ⟨_, rfl⟩, ?_⟩
    simp only [PyData.shown] at q
    exact q
  | str z =>
    simp only [Rp] at r
    subst r
    obtain ⟨t, rfl⟩ := ru
    simp only [PyData.shown] at q h3
    exact PySem.P.repr_of_str ⟨.str (reprText z), H, I.tok _, ⟨_, rfl⟩, q⟩ h3
  | list ds =>
    simp only [Rp] at r
    obtain ⟨b, xs, rfl, _⟩ := r
    cases ru
    exact refs b rfl
  | tuple ds =>
    simp only [Rp] at r
    obtain ⟨b, xs, rfl, _⟩ := r
    cases ru
    exact refs b rfl
  | dict kvs =>
    simp only [Rp] at r
    obtain ⟨b, o9, xs, rfl, _⟩ := r
    cases ru
    exact refs b rfl
theorem de_reprA {k : Nat} (hr : Room (k + 1) X.A) (hgu : X.A.guards = some []) (hsm : (X.K.lookup sysModules).isSome = true) (hm : X.mg "repr" = none) (ha : DA X A W ca [a] dr) (hg : Gl X "repr" := by rfl) (he : starEach [a] X.env = (false, eval a X.env) :: starEach [] X.env := by rfl) : DE X A W ca (.Call (.Name "repr" p) [a] [] pos) (dCB gReprA dr) :=
  de_cb (call_reprA hr hgu hsm) (fun O G ρ t σ H ds vs Q κ R rv q k => by
    unfold gReprA at q
    split at q
    · obtain ⟨v, rfl, r⟩ := rpAll1 rv
      exact ⟨G, _, v, rfl, R.hs.gh, r, q.1, q.2.1, q.2.2.1, k _ _ G H (Le.refl G) R (by simp only [Rp]) q.2.2.2⟩
    · exact q.elim) hm (by decide +kernel) ha hg (he := he)
end
end TM
namespace TM
open L2 PySem.Spec PySem PyProof.Rows
/-! ### a, b, *c = x, x a tuple -/
section
variable {P : Program} {w : World} {A : Around} {E : Value → Shared → Prop} {s : Shared}
theorem walks_shift {I : Addr} {fp wr : List Addr} {n : Nat} {V : Nat → Value → Prop} {St : Nat → Heap → Prop} (W : Walks P w A I fp wr n V St) (k : Nat) (h : k ≤ n) : Walks P w A I fp wr (n - k) (fun i => V (k + i)) (fun i => St (k + i)) where
  sub := W.sub
  frame := fun i => W.frame (k + i)
  item := fun i s Q E hi st hQ => W.item (k + i) s Q E (by omega) st hQ
  done := fun s Q E st hQ => W.done s Q E (by
    have e : k + (n - k) = n := by omega
    rw [e] at st
    exact st) hQ
  self := fun i => W.self (k + i)
theorem unpackItems_star {t : Addr} {items : Array Value} {k : Nat} {Q : List Value → Shared → Prop} (hh : A.handled = none) (ht : IsTup s.heap t items) (hk : k ≤ items.size) (hz : items.size ≤ sizeLine)
    (hQ : ∀ (h' : Heap) (tk : Nat), (∀ b o, s.heap.get? b = some o → h'.get? b = some o) → Q (items.toList.take k ++ [.ref h'.objs.size]) { s with heap := h'.push { cls := .type "list", data := .seq (items.toList.drop k).toArray }, toks := tk }) :
    wpAny (model P w) A (unpackItems (.ref t) (k + 1) (some k)) Q E s := by
  have htl : t < s.heap.objs.size := by obtain ⟨o, ho, _⟩ := ht; exact Heap.lt_size ho
  have hlt : t ≠ s.heap.objs.size := Nat.ne_of_lt htl
  unfold unpackItems
  refine wpAny_bind ?_
  unfold notIterableAtAll
  refine wpAny_bind (wpAny_specialOf ht.typeIs slot_tuple_iter.lookup ?_)
  refine wpAny_pure ?_
  simp only [Bool.false_eq_true, if_false]
  refine wpAny_bind (wpAny_holding (iter_tuple ht ?_))
  refine wpAny_bind (wpAny_holding (draw_tuple hlt k 0 _ _ ⟨_, Heap.get?_push_size _ rfl, rfl, rfl⟩ (ht.push _) (by omega) fun h₁ hit₁ hs₁ => ?_))
  have hall : (List.take k (List.drop 0 items.toList)).length = k := by
    rw [List.drop_zero, List.length_take, Array.length_toList]
    omega
  rw [if_neg (by rw [hall]; omega)]
  have ht₁ : IsTup h₁ t items := (ht.push _).extBut hs₁.extBut hlt
  have sz : h₁.objs.size = s.heap.objs.size + 1 := hs₁.1.trans (Heap.size_push _ _)
  have hh' : A.in1.handled = none := hh
  refine wpAny_bind (wpAny_holding (wpAny_collect_iter (s := { s with heap := h₁ }) (.inr (.inr (.inr rfl))) (walks_shift (Walks.tuple hh' s.heap.objs.size t hlt items) k hk).toS (fun i s st => ?_) ?_ ?_ (by simp) (fun s' acc mv ia => ?_) (by omega)))
  · obtain ⟨⟨o, ho, hc, hd⟩, _⟩ := st
    exact ⟨o, ho, hc⟩
  · rw [Nat.zero_add] at hit₁
    exact ⟨hit₁, ht₁⟩
  · intro b hb
    simp only [List.mem_cons, List.not_mem_nil, or_false] at hb
    show b < h₁.objs.size
    rw [sz]
    rcases hb with hb | hb
    · rw [hb]
      exact Nat.lt_succ_self _
    · rw [hb]
      exact Nat.lt_succ_of_lt htl
  · obtain ⟨h2, g2, d2, t2, o2⟩ := s'
    obtain rfl : g2 = s.gens := mv.gens
    obtain rfl : d2 = s.drawn := mv.drawn
    obtain rfl : o2 = s.os := mv.os
    have ea : acc.toList = items.toList.drop k := by
      apply List.ext_getElem
      · rw [Array.length_toList, List.length_drop, Array.length_toList]
        exact ia.1
      · intro i h1 h3
        rw [Array.length_toList] at h1
        have := ia.2 i acc[i] (Array.getElem?_eq_getElem h1)
        rw [List.getElem_drop]
        rw [Array.getElem_toList, Array.getElem_toList]
        obtain ⟨hi, e⟩ := Array.getElem?_eq_some_iff.mp this
        exact e.symm
    rw [ea]
    rw [if_neg (show ¬ (items.toList.drop k).length < k + 1 - 1 - k by omega)]
    have e1 : (items.toList.drop k).length - (k + 1 - 1 - k) = (items.toList.drop k).length := by omega
    rw [e1, List.take_of_length_le (Nat.le_refl _), List.drop_of_length_le (Nat.le_refl _)]
    refine wpAny_bind (wpAny_newObj_type ?_ (by
      show (List.toArray _).size ≤ _
      rw [List.size_toArray, List.length_drop, Array.length_toList]
      omega))
    refine wpAny_pure ?_
    rw [List.append_nil, List.drop_zero]
    refine hQ h2 t2 fun b o e => mv.heap b o ?_ ?_
    · intro hb
      rw [List.mem_singleton.mp hb] at e
      exact absurd (Heap.lt_size e) (Nat.lt_irrefl _)
    · have nb : b ≠ s.heap.objs.size := Nat.ne_of_lt (Heap.lt_size e)
      exact hs₁.extBut b o nb (Heap.get?_push_of_some _ e)
end
def gStar (K : PySem.W.Frag) (k : Nat) (t : TGs) : TG := fun v σ H Q => ∃ a xs, v = .ref a ∧ SqT K H a xs ∧ k ≤ xs.length ∧ xs.length ≤ sizeLine ∧ ∀ p, H p = none → t (xs.take k ++ [.ref p]) σ (upd H p (.lst (xs.drop k))) Q
section
variable {X : Cx} {A : Amb} {W : WX} {ce : Nat} {e : Expr} {d : DEx} {pos p : Pos}
theorem pg_star {es : List Expr} {x1 : Nat} {t : TGs} {k : Nat} (hc : X.calm = true) (h : PGs X es t)
    (hn : (assignEach es X.env).length = k + 1 := by rfl) (hst : (assignEach es X.env).findIdx? (·.1) = some k := by rfl) : PG X (.Tuple es x1 pos) (gStar X.K k t) := by
  refine ⟨fun pins s σ H v u Q I r hw => ?_⟩
  obtain ⟨a, xs, e1, hq, hl, hz, hw⟩ := hw
  subst e1
  cases r
  obtain ⟨its, rv, ht, hz2⟩ := I.tuple hq
  have el : its.length = xs.length := rv.length.symm
  rw [assign_Tuple]
  refine wpAny_bind (wpAny_standAt ?_)
  unfold unpack
  rw [hn, hst]
  refine wpAny_bind (wpAny_holding (unpackItems_star (I.ok.hd hc) ht (by rw [List.size_toArray]; omega) (by rw [List.size_toArray]; omega) fun h' tk hx => ?_))
  have I1 : Inv X pins σ H { s with heap := h', toks := tk } := I.kept (t' := tk) hx
  have hf : H h'.objs.size = none := I1.hok.fresh (Nat.le_refl _)
  have rd : Vals (xs.drop k) (its.drop k) := rv.drop k
  refine h.run pins _ σ (upd H h'.objs.size (.lst (xs.drop k))) _ _ Q (I1.laid (t' := tk) (fun b u e => Heap.get?_push_of_some _ e) (Nat.le_refl _) ⟨by rw [List.length_drop]; omega, its.drop k, 0, rd, Heap.get?_push_size _ rfl⟩) ?_ (hw _ hf)
  exact (rv.take k).append (.cons rfl .nil)
theorem dgs_star {i : Nat} {x : Str} {p2 : Pos} (h : DG X A (.Name x p2) (.nm i)) : DGs X A [.Starred (.Name x p2) p] [i] :=
  ⟨⟨fun pins s σ H v u Q I r q => (dgs_cons h dgs_nil).pgs.run pins s σ H v u Q I r q⟩⟩
def sUnpS (is : List Nat) (k : Nat) (d : DEx) : DSx := fun ρ E => d ρ (fun x ρ1 => match x with
  | .tuple ds => k ≤ ds.length ∧ ds.length ≤ sizeLine ∧ (match setAll is (ds.take k ++ [.list (ds.drop k)]) ρ1 with
    | some ρ2 => E.nx ρ2
    | none => False)
  | _ => False) E.ex
theorem ds_unpS {es : List Expr} {x1 : Nat} {is : List Nat} (k : Nat) (he : DE X A W ce e d) (hc : X.calm = true) (h : DGs X A es is) (hn : (assignEach es X.env).length = k + 1 := by rfl) (hst : (assignEach es X.env).findIdx? (·.1) = some k := by rfl)
    (hs : swapsWithSole [.Tuple es x1 p] e pos.line X.env = pure false := by rfl) (hw : swappedStores [.Tuple es x1 p] e X.env = pure none := by rfl) (h1 : (assignEach [.Tuple es x1 p] X.env).map (·.2) = [assign (.Tuple es x1 p) X.env] := by rfl) : DS X A W ce (.Assign [.Tuple es x1 p] e pos) (sUnpS is k d) :=
  ⟨PS.weak (ps_asg he.pe (pg_star hc h.pgs hn hst) hs hw h1) fun D σ H ⟨O, G, ρ, n, E, le, R, q, ok⟩ => ⟨O, G, ρ, _, _, E.ex, by omega, R, q, fun x ρ1 v G1 H1 l1 R1 rx q1 => by
    cases x with
    | tuple ds =>
      simp only [Rp] at rx
      obtain ⟨a, xs, rfl, ha, r2⟩ := rx
      obtain ⟨q2, q3, q4⟩ := q1
      have el := RpAll.length r2
      cases hb : setAll is (ds.take k ++ [.list (ds.drop k)]) ρ1 with
      | none =>
        rw [hb] at q4
        exact q4.elim
      | some ρ2 =>
        rw [hb] at q4
        refine ⟨a, xs, rfl, SqT.of (R1.hs.gh _ _ ha), by omega, by omega, fun p hp => ?_⟩
        obtain ⟨l4, R4⟩ := R1.newfz (o := .lst (xs.drop k)) hp
        have r3 := RpAll.mono l4 _ _ r2
        refine ⟨O, _, ρ1, _, ds.take k ++ [.list (ds.drop k)], ρ2, R4, RpAll.append (RpAll.take _ r3) (RpAll.cons ?_ RpAll.nil), hb, fun σ' R' _ => ok.nx ρ2 σ' _ _ (l1.trans l4) (R'.up (by omega)) q4⟩
        simp only [Rp]
        exact ⟨p, _, rfl, upd_same, RpAll.drop _ r3⟩
    | _ => exact q1.elim, (ok.ex σ).dn (by omega)⟩⟩
end
section
variable {X : Cx} {A : Amb} {W : WX} {ci ct ce : Nat} {M : Option Nat} {elt tg iter : Expr} {ifs : List Expr} {scope : Scope} {own : List (Str × Nat)} {pos : Pos} {di : DIx} {t : Tg} {tt : DTx} {te : DEx}
theorem ds_setLcFz {N' : List Str} {sc' : Scope} {i : Nat} {y : Str} {py spos : Pos} (hc : X.calm = true) (hN : X.N.Nodup) (hy : X.N[i]? = some y) (hyl : X.env.scope.names.lookup y = some .local)
    (hsw : swapsWith (.ListComp elt [⟨tg, iter, ifs, 0⟩] scope pos) (some (.Name y py)) spos.line X.env = pure true) (hi : DI X A W ci M tg iter di) (ok : blkC N' sc' scope own = true)
    (hg : ∀ (s : Shared) (H : Hp) (C : Addr) (cl : List (Str × Addr)) (fp : List Addr), DG (X.blk s H scope (compEnvC scope cl C X.env) fp) A tg t)
    (ht : ∀ (s : Shared) (H : Hp) (C : Addr) (cl : List (Str × Addr)) (fp : List Addr), DTs (X.blk s H scope (compEnvC scope cl C X.env) fp) A W0 ct ifs tt)
    (he : ∀ (s : Shared) (H : Hp) (C : Addr) (cl : List (Str × Addr)) (fp : List Addr), DE (X.blk s H scope (compEnvC scope cl C X.env) fp) A W0 ce elt te)
    (hvs : ∀ i ∈ t.slots, i ∈ own.map (·.2) := by decide) (hl : ct + ce = 0 ∨ M.isSome = true := by first | exact .inl rfl | exact .inr rfl) (hs : ∀ x, foldedSetIterable iter X.env x = pure x := by intro _; rfl) (hNe : X.N = N' := by rfl) (hse : X.env.scope = sc' := by rfl) :
    DS X A W (ci + lp M (ct + ce)) (.Assign [.Name y py] (.ListComp elt [⟨tg, iter, ifs, 0⟩] scope pos) spos) (sSet i (dFz (oLc di t tt te (own.map (·.2))))) :=
  ⟨PS.weak (ps_setLc hc hN hy hyl hsw hi.pi (blkOk_by (by rw [hNe, hse]; exact ok)) (fun s H C cl fp => (hg s H C cl fp).pg) (fun s H C cl fp => (ht s H C cl fp).pts) (fun s H C cl fp => (he s H C cl fp).pe) hs) fun D σ H ⟨O, G, ρ, t, E, le, R, q, ok⟩ =>
    lift_lc (Q := fun x H1 => D.nx (σ.set i (some x)) H1) hl hvs ⟨O, G, ρ, _, _, E.ex, by omega, R, q, fun ds ρ' a G' H' l R' n k => by
      obtain ⟨G2, l2, R2, r2⟩ := n.fz
      exact ok.nx _ _ G2 H' (l.trans l2) ((R2.setF i r2).up (by omega)) k, (ok.ex σ).dn (by omega)⟩⟩
end
theorem setEs_data : ∀ (is : List Nat) (es : List Ent) (ρ : Sl), setEs is es ρ = (dataOf es).bind fun ds => setAll is ds ρ
  | [], [], _ => rfl
  | [], .fz d :: es, ρ => by
    unfold setEs dataOf
    cases dataOf es <;> rfl
  | [], .un :: _, _ => rfl
  | [], .ow _ :: _, _ => rfl
  | [], .od _ :: _, _ => rfl
  | [], .dk :: _, _ => rfl
  | [], .sc _ :: _, _ => rfl
  | [], .pv _ :: _, _ => rfl
  | _ :: _, [], _ => rfl
  | i :: is, .fz d :: es, ρ => by
    have h := setEs_data is es (ρ.set i (.fz d))
    show setEs is es (ρ.set i (.fz d)) = _
    rw [h]
    show _ = ((dataOf es).map (d :: ·)).bind fun ds => setAll (i :: is) ds ρ
    cases dataOf es <;> rfl
  | _ :: _, .un :: _, _ => rfl
  | _ :: _, .ow _ :: _, _ => rfl
  | _ :: _, .od _ :: _, _ => rfl
  | _ :: _, .dk :: _, _ => rfl
  | _ :: _, .sc _ :: _, _ => rfl
  | _ :: _, .pv _ :: _, _ => rfl
/-- several names at once, one after another -/
theorem sPar_unp (is : List Nat) (d : DAx) (hl : is.length ≤ sizeLine) : sPar is d = sUnp (.tp is) (dTup d) := by
  funext ρ E
  show d ρ _ E.ex = d ρ _ E.ex
  congr 1
  funext es ρ1
  rw [setEs_data]
  cases e : dataOf es with
  | none => rfl
  | some ds =>
    show (match setAll is ds ρ1 with
      | some ρ2 => E.nx ρ2
      | none => False) = (ds.length ≤ sizeLine ∧ (match setAll is ds ρ1 with
      | some ρ2 => E.nx ρ2
      | none => False))
    cases e2 : setAll is ds ρ1 with
    | none => simp
    | some ρ2 =>
      have := setAll_len e2
      rw [eq_iff_iff]
      exact ⟨fun h => ⟨by omega, h⟩, fun h => h.2⟩
section
variable {X : Cx} {A : Amb} {W : WX} {ca : Nat} {dr : DAx} {pos pt2 : Pos} {tg : Expr} {es : List Expr} {k2 : Nat}
theorem ds_parU {is : List Nat} (ha : DA X A W ca es dr) (hg : DG X A tg (.tp is)) (hs : swapsWithSole [tg] (.Tuple es k2 pt2) pos.line X.env = pure false := by rfl) (hw : swappedStores [tg] (.Tuple es k2 pt2) X.env = pure none := by rfl) (h1 : (assignEach [tg] X.env).map (·.2) = [assign tg X.env] := by rfl) (hl : is.length ≤ sizeLine := by decide) :
    DS X A W ca (.Assign [tg] (.Tuple es k2 pt2) pos) (sPar is dr) := by
  rw [sPar_unp is dr hl]
  exact ds_unp (de_tup ha) hg hs hw h1
end
end TM
namespace TM
open L2 PySem.Spec PySem PyProof.Rows
/-! ### parts of tuples, tuples together, bool of a number -/
def gSlT (x : D) (lo hi : Option Int) (κ : D → Prop) : Prop := match x with
  | .tuple ds => κ (.tuple (cutD ds lo hi))
  | _ => False
def dSlT (da : DEx) (dl dh : DPx) : DEx := fun ρ Ψ Φ => da ρ (fun x ρ1 => dl ρ1 (fun lo ρ2 => dh ρ2 (fun hi ρ3 => gSlT x lo hi fun z => Ψ z ρ3) Φ) Φ) Φ
theorem cutD_whole {α : Type} {ds : List α} {lo hi : Option Int} (h : HT.sIx ds.length 0 lo = 0 ∧ HT.sIx ds.length ds.length hi = ds.length) : cutD ds lo hi = ds := by
  unfold cutD
  rw [h.1, h.2, List.drop_zero, Nat.sub_zero, List.take_length]
def gCatT : G2 := fun x y κ => match x, y with
  | .tuple ds, .tuple es => ds.length + es.length ≤ sizeLine ∧ κ (.tuple (ds ++ es))
  | _, _ => False
def gBool : GL := fun ds κ => match ds with
  | [.int i] => κ (.bool (i != 0))
  | [.bool b] => κ (.bool b)
  | _ => False
section
variable {X : Cx} {A : Amb} {W : WX} {ca cb cl ch : Nat} {a b : Expr} {da db : DEx} {dr : DAx} {lo hi : Option Expr} {dl dh : DPx} {pos p p2 : Pos}
theorem de_slT (ha : DE X A W ca a da) (hl : DP X A W cl lo dl) (hh : DP X A W ch hi dh) : DE X A W (ca + cl + ch) (.Subscript a (.Slice lo hi none p2) pos) (dSlT da dl dh) :=
  ⟨PE.weak (pe_slice sl_tupA ha.pe hl.po hh.po) fun σ H Q ⟨O, G, ρ, t, Ψ, Φ, le, R, q, pe, px⟩ => ⟨O, G, ρ, t, _, Φ, by omega, R, q, fun x ρ1 v G1 H1 l1 R1 rx q1 =>
    ⟨O, G1, ρ1, _, _, Φ, by omega, R1, q1, fun o1 ρ2 G2 H2 l2 R2 q2 => ⟨O, G2, ρ2, _, _, Φ, by omega, R2, q2, fun o2 ρ3 G3 H3 l3 R3 q3 => by
      have rx3 := Rp.mono (l2.trans l3) x v rx
      have l := (l1.trans l2).trans l3
      cases x with
      | tuple ds =>
        have rx4 := rx3
        simp only [Rp] at rx3
        obtain ⟨p, xs, rfl, hp, r⟩ := rx3
        have el := RpAll.length r
        refine ⟨p, xs, rfl, SqT.of (R3.hs.gh _ _ hp), fun w => ?_, fun _ p2 h2 => ?_⟩
        · refine pe _ ρ3 _ _ _ l (R3.up (by omega)) ?_ q3
          rw [el] at w
          rw [cutD_whole w]
          exact rx4
        · obtain ⟨l4, R4⟩ := R3.newfz (o := .tup (cutV xs o1 o2)) h2
          refine pe _ ρ3 _ _ _ (l.trans l4) (R4.up (by omega)) ?_ q3
          simp only [Rp]
          exact ⟨p2, _, rfl, upd_same, RpAll.mono l4 _ _ (r.cut o1 o2)⟩
      | _ => exact q3.elim, ((px.le l1).le l2).dn (by omega)⟩, (px.le l1).dn (by omega)⟩, px.dn (by omega)⟩⟩
theorem snd_catT : Snd2 X A (rCatA X.K) gCatT := fun O G ρ t σ H x y v u Q κ R rx ry q k => by
  cases x <;> cases y <;> simp only [gCatT] at q
  have rx0 := rx
  have ry0 := ry
  simp only [Rp] at rx ry
  obtain ⟨p1, xs, rfl, h1, r1⟩ := rx
  obtain ⟨p2, ys, rfl, h2, r2⟩ := ry
  rename_i ds es
  have e1 := RpAll.length r1
  have e2 := RpAll.length r2
  refine ⟨p1, p2, xs, ys, rfl, rfl, SqT.of (R.hs.gh _ _ h1), SqT.of (R.hs.gh _ _ h2), by omega, fun z => ?_, fun _ z => ?_, fun _ _ p3 h3 => ?_⟩
  · have : ds = [] := List.eq_nil_of_length_eq_zero (by rw [← e1, z]; rfl)
    refine k _ _ G H (Le.refl G) R ?_ q.2
    rw [this, List.nil_append]
    exact ry0
  · have : es = [] := List.eq_nil_of_length_eq_zero (by rw [← e2, z]; rfl)
    refine k _ _ G H (Le.refl G) R ?_ q.2
    rw [this, List.append_nil]
    exact rx0
  · obtain ⟨l4, R4⟩ := R.newfz (o := .tup (xs ++ ys)) h3
    refine k _ _ _ _ l4 R4 ?_ q.2
    simp only [Rp]
    exact ⟨p3, _, rfl, upd_same, RpAll.mono l4 _ _ (RpAll.append r1 r2)⟩
theorem de_catT (ha : DE X A W ca a da) (hb : DE X A W cb b db) : DE X A W (ca + cb) (.BinOp a .Add b pos) (dOp2 gCatT da db) := de_bin op_catA snd_catT ha hb
theorem de_boolc (hm : X.mg "bool" = none) (ha : DA X A W ca [a] dr) (hg : Gl X "bool" := by rfl) (he : starEach [a] X.env = (false, eval a X.env) :: starEach [] X.env := by rfl) : DE X A W ca (.Call (.Name "bool" p) [a] [] pos) (dCB gBool dr) :=
  de_ct call_bool1 (fun O G ρ t σ H ds vs Q κ R rv q k => by
    unfold gBool at q
    split at q
    · obtain ⟨v, rfl, r⟩ := rpAll1 rv
      simp only [Rp] at r
      exact .inl ⟨_, by rw [r], k _ _ G H (Le.refl G) R (by simp only [Rp]) q⟩
    · obtain ⟨v, rfl, r⟩ := rpAll1 rv
      simp only [Rp] at r
      exact .inr ⟨_, by rw [r], k _ _ G H (Le.refl G) R (by simp only [Rp]) q⟩
    · exact q.elim) hm (by decide +kernel) ha hg (he := he)
end
/-! ### sorted(xs), xs a list of texts of any length -/
def svT : Value → List Nat
  | .str s _ => s.cps.toList
  | _ => []
def ltT (v u : Value) : Bool := decide (svT v < svT u)
theorem swo_text : SrtO.Swo ltT := by
  constructor
  · intro x y h
    have a : svT x < svT y := of_decide_eq_true h
    exact decide_eq_false fun z => List.lt_asymm a z
  · intro x y z h1 h2
    have a : ¬ svT y < svT x := of_decide_eq_false h1
    have b : ¬ svT z < svT y := of_decide_eq_false h2
    refine decide_eq_false fun c => ?_
    have a2 : svT x ≤ svT y := a
    have b2 : svT y ≤ svT z := b
    exact (List.le_trans a2 b2) c
theorem strs_each {vs : List Value} {ss : List Str} (h : StrsAre vs ss) : ∀ v ∈ vs, ∃ z t, v = Value.str z t := by
  induction h with
  | nil => exact fun v m => nomatch m
  | cons z t r ih =>
    intro v m
    rcases List.mem_cons.mp m with rfl | m
    · exact ⟨z, t, rfl⟩
    · exact ih v m
def txT : Value → Str
  | .str s _ => s
  | _ => Str.empty
theorem strs_back : ∀ {vs : List Value}, (∀ v ∈ vs, ∃ z t, v = Value.str z t) → StrsAre vs (vs.map txT)
  | [], _ => .nil
  | v :: vs, h => by
    obtain ⟨z, t, rfl⟩ := h v List.mem_cons_self
    exact .cons z t (strs_back fun u m => h u (List.mem_cons_of_mem _ m))
theorem txT_strs {vs : List Value} {ss : List Str} (h : StrsAre vs ss) : vs.map txT = ss := by
  induction h with
  | nil => rfl
  | cons z t r ih =>
    show z :: _ = z :: _
    rw [ih]
/-- ascending -/
def ascT (ys : List Str) : Prop := ys.Pairwise fun x y => ¬ y.cps.toList < x.cps.toList
def gSortS : GOL := fun ds κ => match ds with
  | [.list xs] => ∃ ss : List Str, xs = ss.map .str ∧ ∀ ys : List Str, ys.Perm ss → ascT ys → κ (ys.map .str)
  | _ => False
def rSortedTx (K : PySem.W.Frag) : List V → Hp → VK → Prop := fun vs H Q => ∃ (a : Addr) (ss : List Str), vs = [V.ref a] ∧ SqL K H a (ss.map V.str) ∧
  ∀ (ys : List Str) (p : Addr), ys.Perm ss → ascT ys → H p = none → Q (.ref p) (upd H p (.lst (ys.map V.str)))
section
variable {X : Cx}
theorem cr_sortedTx : CallR X (.builtin "sorted") (rSortedTx X.K) := by
  intro pins s σ H vs us Q I r h
  obtain ⟨a, ss, rfl, hs, q⟩ := h
  obtain ⟨its, rv, hl, hz⟩ := I.list hs
  rw [Vals.ref1 r]
  have hi : StrsAre its ss := rv.strs
  have lz : its.length ≤ sizeLine := by rw [← rv.length]; exact hz
  have can : ∀ (h₁ : Heap) (a' : Addr), 2 ≤ its.length → SrtO.SortableO X.prog X.w X.A.in1.in1 { s with heap := h₁ } a' its ltT := by
    intro h₁ a' two h' _
    refine ⟨oneType', fun Q E hq => ?_, fun p q hm hm' => ?_⟩
    · match its, hi, two with
      | v1 :: v2 :: rest, hi, _ =>
        rw [keyKind_strs hi]
        exact wpAny_pure hq
      | [], _, z => exact absurd z (by decide)
      | [v], _, z => exact absurd z (by simp)
    · obtain ⟨x, t, e⟩ := strs_each hi _ hm
      obtain ⟨y, u, e'⟩ := strs_each hi _ hm'
      show wpAny _ _ (keyLt' oneType' p.1 q.1) (fun r s' => s' = _ ∧ r = ltT p.1 q.1) (fun _ _ => False) _
      rw [e, e', keyLt'_oneType]
      exact oneLt_str ⟨rfl, rfl⟩
  refine SrtO.sorted_ord swo_text hl.isList lz (fun two h₁ a' _ _ => can h₁ a' two) fun out h1 h2 => ?_
  have ho : StrsAre out (out.map txT) := strs_back fun v m => strs_each hi v (h2.perm.mem_iff.mp m)
  have pm : (out.map txT).Perm ss := by
    have := h2.perm.map txT
    rw [txT_strs hi] at this
    exact this
  have asc : ascT (out.map txT) := by
    refine List.pairwise_map.mpr (List.Pairwise.imp_of_mem (fun {x y} mx my h => ?_) h1)
    obtain ⟨z, t, rfl⟩ := strs_each ho x mx
    obtain ⟨z', t', rfl⟩ := strs_each ho y my
    exact of_decide_eq_false (p := svT (.str z' t') < svT (.str z t)) h
  obtain ⟨ep, he'⟩ := PyProof.Rows.sortedAll_at s.heap its out.toArray
  have hlen : ((out.map txT).map V.str).length ≤ sizeLine := by
    rw [List.length_map, pm.length_eq]
    rw [List.length_map] at hz
    exact hz
  exact ⟨.ref _, upd H (s.heap.objs.size + 1) (.lst ((out.map txT).map V.str)), I.laid (t' := s.toks) (fun _ _ => PyProof.Rows.sortedAll_old) (Nat.le_succ _) ⟨hlen, out, ep, vals_of_strs ho, he'⟩, rfl, q _ _ pm asc (I.hok.fresh (Nat.le_succ _))⟩
end
section
variable {X : Cx} {A : Amb} {W : WX} {ca : Nat} {a : Expr} {dr : DAx} {pos p : Pos}
theorem do_sortS (hm : X.mg "sorted" = none) (ha : DA X A W ca [a] dr) (hg : Gl X "sorted" := by rfl) (he : starEach [a] X.env = (false, eval a X.env) :: starEach [] X.env := by rfl) : DO X A W ca (.Call (.Name "sorted" p) [a] [] pos) (oCB gSortS dr) :=
  do_cb cr_sortedTx (fun O G ρ t σ H ds vs Q κ R rv q k => by
    unfold gSortS at q
    split at q
    · obtain ⟨v, rfl, r⟩ := rpAll1 rv
      obtain ⟨ss, rfl, q⟩ := q
      simp only [Rp] at r
      obtain ⟨b, xs, rfl, h, r⟩ := r
      rw [RpAll.strs r] at h
      refine ⟨b, ss, rfl, SqL.of (R.hs.gh _ _ h), fun ys p2 pm as hp => ?_⟩
      have ra : RpAll G (ys.map PyData.str) (ys.map V.str) := by
        clear pm as q hp
        induction ys with
        | nil => exact RpAll.nil
        | cons y ys ih => exact RpAll.cons (by simp only [Rp]) ih
      have n4 := R.newL hp ra
      exact k _ p2 G _ (Le.refl G) (n4.rel.up (by omega)) (n4.up (by omega)) (q ys pm as)
    · exact q.elim) hm (by decide +kernel) ha hg (he := he)
end
theorem ds_whileZ {X : Cx} {A : Amb} {W : WX} {cc cb : Nat} {c : Expr} {body : List Stmt} {pos : Pos} {tt : DTx} {b : DSx} (hp : PassesOwn (model X.prog X.w) X.A X.env X.xe) (hc : DT X A W cc c tt) (hb : DSs X A W cb body b) (h0 : cc = 0 := by rfl) (h1 : cb = 0 := by rfl) : DS X A W 0 (.While c body [] pos) (sWhile tt b) := by
  subst h0 h1
  exact ds_while hp hc hb
end TM
namespace TM
open L2 PySem.Spec PySem PyProof.Rows
open PySem.Froz (SD sObj TxOk addTx tailTx)
/-! ### sets of texts whose members can be walked -/
/-- the set of the texts l at a -/
def SetT (P : Program) (w : World) (h : Heap) (a : Addr) (l : List Str) : Prop := ∃ d : SD, h.get? a = some (sObj "set" d) ∧ TxOk P w d l ∧ Ris d.2.2.place.toList ∧ (w.params.followText "set-order" = true ∨ d.2.2.led = true)
theorem SetT.move {P : Program} {w : World} {h h' : Heap} {a : Addr} {l : List Str} (x : SetT P w h a l) (k : ∀ o, h.get? a = some o → h'.get? a = some o) : SetT P w h' a l := by
  obtain ⟨d, o, r⟩ := x
  exact ⟨d, k _ o, r⟩
theorem addTx_place (i : Int) (v : Value) (d : SD) (r : Ris d.2.2.place.toList) : Ris (addTx i v d).2.2.place.toList ∧ (addTx i v d).2.2.led = d.2.2.led := by
  obtain ⟨es, ep, t⟩ := d
  have r1 := layNew_ris t es i v r
  have l1 := layNew_led t es i v
  unfold addTx
  dsimp only
  generalize layNew t es i v = Z at r1 l1
  obtain ⟨e1, t1, was, gave⟩ := Z
  dsimp only at r1 l1 ⊢
  have pl : ∀ t2 : SetTable, t2 = (if t1.plain = true then { t1 with plain := false } else t1) → Ris t2.place.toList ∧ t2.led = t.led := by
    rintro t2 rfl
    split
    · exact ⟨r1, l1⟩
    · exact ⟨r1, l1⟩
  generalize hz : (if t1.plain = true then { t1 with plain := false } else t1) = t2
  obtain ⟨r2, l2⟩ := pl t2 hz.symm
  unfold tailTx
  split
  · exact ⟨relayAll_ris t2 e1 _, (relayAll_led t2 e1 _).trans l2⟩
  · exact ⟨r2, l2⟩
def insT (k : Str) (l : List Str) : List Str := if k ∈ l then l else k :: l
section
variable {P : Program} {w : World} {A : Around} {E : Value → Shared → Prop} {s : Shared} {a : Addr} {l : List Str}
/-- a member added again -/
theorem addT_there {d : SD} {k : Str} {u : Tok} {Q : Bool → Shared → Prop} (obj : s.heap.get? a = some (sObj "set" d)) (F : TxOk P w d l) (mem : k ∈ l) (few : l.length < scanBound) (q : Q false s) :
    wpAny (model P w) A (setAddHashed a (.str k u) (hashStr w k)) Q E s := by
  obtain ⟨es, ep, t⟩ := d
  have dat : (sObj "set" (es, ep, t)).data = .set es ep t := rfl
  have sz : es.size = l.length := F.sz
  have key : (strKind P w).is k (.str k u) = true := Froz.is_str k u
  unfold setAddHashed
  unfold setAddHashedIn
  refine wpAny_holding ?_
  refine wpAny_bind (wpAny_setState_of obj dat F.fit ?_)
  dsimp only
  rw [byScan_of (x := Value.str k u) rfl (show es.size < scanBound by omega) F.el, if_pos rfl]
  unfold setAddByScan
  refine wpAny_bind (wpAny_bind (wpAny_rule (wpAny_bind (wpAny_setScan_of (knd := strKind P w) (k := k) key obj dat F.fit F.el ?_))))
  cases hj : List.findIdx? (fun e => (strKind P w).is k e.2) es.toList with
  | some j => exact wpAny_pure (wpAny_pure q)
  | none =>
    obtain ⟨e, he, z⟩ := (F.mem k).mp mem
    have := List.findIdx?_eq_none_iff.mp hj e he
    rw [z] at this
    cases this
theorem addT {k : Str} {u : Tok} {Q : Value → Shared → Prop} (S : SetT P w s.heap a l) (few : l.length + 1 < scanBound)
    (q : ∀ h', Heap.SameBut a s.heap h' → SetT P w h' a (insT k l) → Q .none { s with heap := h', toks := s.toks + 1 }) : wpAny (model P w) A (call (.builtin "set.add") [.ref a, .str k u]) Q E s := by
  obtain ⟨d, obj, F, rs, ld⟩ := S
  have ty : s.TypeIs (.ref a) "set" := ⟨_, obj, rfl⟩
  refine wpAny_call_entry PySem.F.slot_set_add ty PySem.F.entry_set_add ?_ (PySem.F.args_set_add_2 _ _)
  unfold Builtin.«set.add» Builtin.Frozenset.oneOther; simp only [List.isEmpty_nil, bind_assoc]; unfold Builtin.Frozenset.addrOf setAdd
  refine wpAny_bind (wpAny_pure ?_); try dsimp only
  refine wpAny_bind (wpAny_pure ?_); try dsimp only
  refine wpAny_bind (wpAny_holding (wpAny_bind ((strKind P w).pyHash (Froz.is_str k u) ?_)))
  by_cases m : k ∈ l
  · refine addT_there (s := { s with toks := s.toks + 1 }) obj F m (by omega) ?_
    show wpAny _ _ (ret Value.none) _ _ _
    refine wpAny_pure ⟨_, rfl, q s.heap (Heap.SameBut.refl a s.heap) ?_⟩
    rw [show insT k l = l from if_pos m]
    exact ⟨d, obj, F, rs, ld⟩
  · refine Froz.add_x (s := { s with toks := s.toks + 1 }) obj F m few ?_
    show wpAny _ _ (ret Value.none) _ _ _
    refine wpAny_pure ⟨_, rfl, q _ (Heap.SameBut.update s.heap a _) ?_⟩
    rw [show insT k l = k :: l from if_neg m]
    obtain ⟨r2, l2⟩ := addTx_place (hashStr w k) (.str k u) d rs
    exact ⟨_, Froz.get_upd _ obj rfl, Froz.add_ok u F, r2, ld.imp id fun z => by rw [l2]; exact z⟩
theorem setT_fresh {h : Heap} : SetT P w (h.push { cls := .type "set", dict := none, data := .set #[] 0 (.fresh 0 0 (!w.params.followText "set-order")) }) h.objs.size [] := by
  refine ⟨(#[], 0, .fresh 0 0 (!w.params.followText "set-order")), Heap.get?_push_size _ rfl, Froz.TxOk.nil rfl, List.Pairwise.nil, ?_⟩
  cases w.params.followText "set-order"
  · exact .inr rfl
  · exact .inl rfl
/-- sorted(a set of texts) -/
theorem sortedT {Q : Value → Shared → Prop} (S : SetT P w s.heap a l) (hand : A.handled = none) (few : l.length < scanBound)
    (q : ∀ s' p (out : Array Value) (c : Nat) (ys : List Str), (∀ b o, s.heap.get? b = some o → s'.heap.get? b = some o) → s'.gens = s.gens → s'.os = s.os → s.heap.objs.size ≤ p →
      s'.heap.get? p = some (seqObj "list" out c) → StrsAre out.toList ys → ascT ys → (∀ k, k ∈ ys ↔ k ∈ l) → ys.length = l.length → Q (.ref p) s') :
    wpAny (model P w) A (call (.builtin "sorted") [.ref a]) Q E s := by
  obtain ⟨⟨es, ep, t⟩, obj, F, rs, ld⟩ := S
  have sz : es.size = l.length := F.sz
  refine Calls.call_function_entry kind_sorted plain_sorted entry_sorted (args_sorted1 _) ?_
  unfold Builtin.«sorted»
  refine wpAny_bind (m := checkCount "sorted" 1 1 _) (wpAny_pure (wpAny_bind (collect_set (A := A.in1) hand ⟨_, obj, rfl, rfl⟩ F.fit (show es.size < scanBound by omega) rs ld fun s1 vs k1 z1 g1 o1 pm => ?_)))
  have each : ∀ v ∈ vs, ∃ z t, v = Value.str z t := fun v hv => by
    obtain ⟨e, he, z⟩ := List.mem_map.mp (pm.mem_iff.mp hv)
    obtain ⟨⟨k, hk, _⟩, _⟩ := F.el e he
    rw [z] at hk
    have hk : Value.isStrOf k v = true := hk
    cases v <;> first | exact ⟨_, _, rfl⟩ | (simp [Value.isStrOf] at hk)
  have I : StrsAre vs (vs.map txT) := strs_back each
  have vl : vs.length = l.length := by rw [pm.length_eq, List.length_map, Array.length_toList]; exact sz
  have vz : vs.length ≤ sizeLine := by
    rw [vl, sizeLine_eq]
    unfold scanBound at few
    omega
  refine wpAny_bind (wpAny_newList ?_ vz)
  have oL : (s1.heap.push (seqObj "list" vs.toArray 0)).get? s1.heap.objs.size = some (seqObj "list" vs.toArray 0) := Heap.get?_push_size _ rfl
  have can : 2 ≤ vs.length → SrtO.SortableO P w A.in1.in1 { s1 with heap := s1.heap.push (seqObj "list" vs.toArray 0) } s1.heap.objs.size vs ltT := by
    intro two h' _
    refine ⟨oneType', fun Q E hq => ?_, fun p q hm hm' => ?_⟩
    · match vs, I, two with
      | v1 :: v2 :: rest, I, _ =>
        rw [keyKind_strs I]
        exact wpAny_pure hq
      | [], _, z => exact absurd z (by decide)
      | [v], _, z => exact absurd z (by simp)
    · obtain ⟨x, t, e⟩ := each _ hm
      obtain ⟨y, u, e'⟩ := each _ hm'
      show wpAny _ _ (keyLt' oneType' p.1 q.1) (fun r s' => s' = _ ∧ r = ltT p.1 q.1) (fun _ _ => False) _
      rw [e, e', keyLt'_oneType]
      exact oneLt_str ⟨rfl, rfl⟩
  refine wpAny_bind (wpAny_holding (wpAny_call_entry slot_list_sort ⟨_, oL, rfl⟩ entry_list_sort (SrtO.list_sort_ord swo_text oL vz can fun out a1 a2 => ⟨_, rfl, ?_⟩) (args_list_sort _)))
  obtain ⟨c, hc⟩ := sortedHeap_at (vs := vs) (out := out.toArray) oL
  have ho : StrsAre out (out.map txT) := strs_back fun v m => each v (a2.perm.mem_iff.mp m)
  have as : ascT (out.map txT) := by
    refine List.pairwise_map.mpr (List.Pairwise.imp_of_mem (fun {x y} mx my h => ?_) a1)
    obtain ⟨z, t, rfl⟩ := strs_each ho x mx
    obtain ⟨z', t', rfl⟩ := strs_each ho y my
    exact of_decide_eq_false (p := svT (.str z' t') < svT (.str z t)) h
  refine wpAny_pure ⟨_, rfl, q _ s1.heap.objs.size out.toArray c (out.map txT) (fun b u e => ?_) g1 o1 z1 hc ho as (fun k => ?_) ?_⟩
  · have e1 := k1 b u e
    have lt := Heap.lt_size e1
    show (sortedHeap (s1.heap.push (seqObj "list" vs.toArray 0)) s1.heap.objs.size vs out.toArray).get? b = some u
    rw [sortedHeap_old (Nat.ne_of_lt lt) (by rw [Heap.size_push]; exact Nat.lt_succ_of_lt lt)]
    exact Heap.get?_push_of_some _ e1
  · rw [F.mem k, List.mem_map]
    constructor
    · rintro ⟨v, hv, z⟩
      obtain ⟨e, he, q⟩ := List.mem_map.mp (pm.mem_iff.mp (a2.perm.mem_iff.mp hv))
      obtain ⟨x, t, ev⟩ := each v (a2.perm.mem_iff.mp hv)
      refine ⟨e, he, ?_⟩
      rw [q, ev]
      rw [ev] at z
      rw [← z]
      exact Froz.is_str _ _
    · rintro ⟨e, he, z⟩
      have mv : e.2 ∈ vs := pm.mem_iff.mpr (List.mem_map.mpr ⟨e, he, rfl⟩)
      obtain ⟨x, t, ev⟩ := each e.2 mv
      refine ⟨e.2, a2.perm.mem_iff.mpr mv, ?_⟩
      rw [ev] at z ⊢
      have z : Value.isStrOf k (.str x t) = true := z
      simpa [Value.isStrOf, txT] using z
  · rw [List.length_map, a2.perm.length_eq, vl]
end
end TM
set_option pp.deepTerms.threshold 6
namespace TM
open L2 PySem.Spec PySem PyProof.Rows
/-! ### {elt for t0 in i0 for t1 in i1}, a set of texts -/
abbrev set2 (elt t0 i0 t1 i1 : Expr) (scope : Scope) (pos : Pos) : Expr := .SetComp elt [⟨t0, i0, [], 0⟩, ⟨t1, i1, [], 0⟩] scope pos
section
variable {prog : Program} {w : World} {A : Around} {R : Result → Shared → Prop} {s : Shared} {elt t0 i0 t1 i1 : Expr} {scope : Scope} {pos : Pos} {it acc : Value} {env : Env}
theorem turnS0 : compTurn (set2 elt t0 i0 t1 i1 scope pos) 0 it acc env = (do
    standAt i0.pos
    let r ← pyNext it
    match r with
    | none => pure (.done .next)
    | some v => do
      letOwnedTupleGo t0 it v
      assign t0 env v
      let x ← eval i1 env
      standAt i1.pos
      let x ← foldedSetIterable i1 env x
      let j ← holding [x] (pyIter x)
      let _ ← runOwn (.compStart (set2 elt t0 i0 t1 i1 scope pos) 1 j acc env) env
      again (.compLoop (set2 elt t0 i0 t1 i1 scope pos) 0 it acc env)) := by rfl
theorem turnS1 : compTurn (set2 elt t0 i0 t1 i1 scope pos) 1 it acc env = (do
    standAt i1.pos
    let r ← pyNext it
    match r with
    | none => pure (.done .next)
    | some v => do
      letOwnedTupleGo t1 it v
      assign t1 env v
      (do
        let x ← eval elt env
        standAt elt.pos
        let _ ← call (.builtin "set.add") [acc, x])
      again (.compLoop (set2 elt t0 i0 t1 i1 scope pos) 1 it acc env)) := by rfl
abbrev noE : Value → Shared → Prop := fun _ _ => False
theorem loopS0 (hs : ∀ x, foldedSetIterable i1 env x = pure x) (I : Nat → Shared → Prop)
    (turn : ∀ n s, I n s → wpAny (model prog w) A (pyNext it) (fun r s1 => match r with
      | none => R (.ok .next) s1
      | some v => wpAny (model prog w) A (letOwnedTupleGo t0 it v) (fun _ s2 => wpAny (model prog w) A (assign t0 env v) (fun _ s3 => wpAny (model prog w) A (eval i1 env) (fun x s4 => wpAny (model prog w) A (pyIter x) (fun j s5 =>
          codeAny (model prog w) A (.compStart (set2 elt t0 i0 t1 i1 scope pos) 1 j acc env) (fun r s6 => match r with
            | .ok _ => ∃ m, m < n ∧ I m s6
            | .error _ => False) s5) noE s4) noE s3) noE s2) noE s1) noE s)
    (n : Nat) (h : I n s) : codeAny (model prog w) A (.compLoop (set2 elt t0 i0 t1 i1 scope pos) 0 it acc env) R s := by
  refine codeAny_loop rfl I (fun n s hI => ?_) n h
  show wpAny _ A ((compTurn (set2 elt t0 i0 t1 i1 scope pos) 0 it acc env).onRaise (fun x => do noteFrame x env; theTreesLotGoes x)) _ _ s
  refine wpAny_noted ?_
  rw [turnS0]
  refine wpAny_bind (wpAny_standAt (wpAny_bind (thnF (turn n s hI) fun r s1 h1 => ?_)))
  cases r with
  | none => exact wpAny_pure h1
  | some v =>
    refine wpAny_bind (thnF h1 fun _ s2 h2 => wpAny_bind (thnF h2 fun _ s3 h3 => wpAny_bind (thnF h3 fun x s4 h4 => ?_)))
    refine wpAny_bind (wpAny_standAt (wpAny_bind (wpAny_of_eq (hs x) (wpAny_bind (wpAny_holding (thnF h4 fun j s5 h5 => ?_))))))
    refine wpAny_bind (wpAny_runOwn ?_)
    rw [Around.mark_none]
    refine codeAny_mono h5 fun r s6 hr => ?_
    cases r with
    | ok f =>
      first
        | exact wpAny_pure ⟨rfl, hr⟩
        | exact wpAny_bind (wpAny_pure (wpAny_pure ⟨rfl, hr⟩))
    | error e => exact hr.elim
theorem loopS1 (I : Nat → Shared → Prop)
    (turn : ∀ n s, I n s → wpAny (model prog w) A (pyNext it) (fun r s1 => match r with
      | none => R (.ok .next) s1
      | some v => wpAny (model prog w) A (letOwnedTupleGo t1 it v) (fun _ s2 => wpAny (model prog w) A (assign t1 env v) (fun _ s3 => wpAny (model prog w) A (eval elt env) (fun x s4 =>
          wpAny (model prog w) A (call (.builtin "set.add") [acc, x]) (fun _ s5 => ∃ m, m < n ∧ I m s5) noE s4) noE s3) noE s2) noE s1) noE s)
    (n : Nat) (h : I n s) : codeAny (model prog w) A (.compLoop (set2 elt t0 i0 t1 i1 scope pos) 1 it acc env) R s := by
  refine codeAny_loop rfl I (fun n s hI => ?_) n h
  show wpAny _ A ((compTurn (set2 elt t0 i0 t1 i1 scope pos) 1 it acc env).onRaise (fun x => do noteFrame x env; theTreesLotGoes x)) _ _ s
  refine wpAny_noted ?_
  rw [turnS1]
  refine wpAny_bind (wpAny_standAt (wpAny_bind (thnF (turn n s hI) fun r s1 h1 => ?_)))
  cases r with
  | none => exact wpAny_pure h1
  | some v =>
    refine wpAny_bind (thnF h1 fun _ s2 h2 => wpAny_bind (thnF h2 fun _ s3 h3 => wpAny_bind (wpAny_bind (thnF h3 fun x s4 h4 => ?_))))
    exact wpAny_bind (wpAny_standAt (wpAny_bind (thnF h4 fun _ s5 h5 => wpAny_pure (wpAny_pure ⟨rfl, h5⟩))))
theorem startS1 (h0 : codeAny (model prog w) A (.compLoop (set2 elt t0 i0 t1 i1 scope pos) 1 it acc env) R s)
    (h : wpAny (model prog w) A (pyIter it) (fun j s' => codeAny (model prog w) A (.compLoop (set2 elt t0 i0 t1 i1 scope pos) 1 j acc env) R s') (notedBy (model prog w) A env fun x s' => R (.error x) s') s) :
    codeAny (model prog w) A (.compStart (set2 elt t0 i0 t1 i1 scope pos) 1 it acc env) R s := by
  refine codeAny_of_tree ?_
  show wpAny _ _ ((compStart (set2 elt t0 i0 t1 i1 scope pos) 1 it acc env).onRaise (fun x => do noteFrame x env; standAt theWindowsPlace)) _ _ s
  refine wpAny_notedAt ?_
  unfold compStart
  refine wpAny_bind (m := ask) (wpAny_askSetting (wpAny_ite ?_))
  split
  · first
      | exact wpAny_pure (And.intro rfl h0)
      | exact wpAny_bind (wpAny_pure (wpAny_pure (And.intro rfl h0)))
  · refine wpAny_bind (wpAny_rule ?_)
    refine wpAny_bind (m := standAt i1.pos) (wpAny_standAt ?_)
    exact wpAny_bind (wpAny_mono h (fun j s' h' => wpAny_pure (And.intro rfl h')) fun _ _ x => x)
end
end TM
set_option pp.deepTerms.threshold 6
namespace TM
open L2 PySem.Spec PySem PyProof.Rows
def SetSO (P : Program) (w : World) (a : Addr) (l : List Str) : HO := .ext fun h => SetT P w h a l
theorem setSO_ok {P : Program} {w : World} {H : Hp} {h : Heap} {a : Addr} {l : List Str} (S : SetT P w h a l) : ObjOk P w H h a (SetSO P w a l) := by
  obtain ⟨d, o, r⟩ := id S
  exact ⟨S, ⟨_, o⟩, fun _ _ p k => SetT.move p k⟩
def total (rows : List (List Str)) : Nat := (rows.map List.length).sum
theorem total_take {rows : List (List Str)} {i : Nat} {ws : List Str} (h : rows[i]? = some ws) : total (rows.take (i + 1)) = total (rows.take i) + ws.length ∧ total (rows.take i) + ws.length ≤ total rows := by
  have e : rows.take (i + 1) = rows.take i ++ [ws] := by
    rw [List.take_succ, h]
    rfl
  have e1 : total (rows.take (i + 1)) = total (rows.take i) + ws.length := by
    unfold total
    rw [e, List.map_append, List.sum_append]
    rfl
  refine ⟨e1, ?_⟩
  rw [← e1]
  unfold total
  conv => rhs; rw [← List.take_append_drop (i + 1) rows, List.map_append, List.sum_append]
  exact Nat.le_add_right _ _
theorem insT_mem {k : Str} {l : List Str} {y : Str} : y ∈ insT k l ↔ y ∈ l ∨ y = k := by
  unfold insT
  split
  · rename_i m
    exact ⟨.inl, fun z => z.elim id fun e => e ▸ m⟩
  · rw [List.mem_cons]
    exact ⟨fun z => z.elim .inr .inl, fun z => z.elim .inr .inl⟩
theorem insT_len (k : Str) (l : List Str) : (insT k l).length ≤ l.length + 1 := by
  unfold insT
  split
  · omega
  · rw [List.length_cons]
    omega
theorem insT_nodup {k : Str} {l : List Str} (h : l.Nodup) : (insT k l).Nodup := by
  unfold insT
  split
  · exact h
  · rename_i n
    exact List.nodup_cons.mpr ⟨n, h⟩
section
variable {X : Cx}
theorem addSO {pins : List (Addr × Obj)} {σ : L2.St} {H : Hp} {s : Shared} {E : Value → Shared → Prop} {D : Addr} {l : List Str} {k : Str} {u : Tok} {Q : Value → Shared → Prop} (I : Inv X pins σ H s) (hD : H D = some (SetSO X.prog X.w D l)) (few : l.length + 1 < scanBound)
    (q : ∀ s', Inv X pins σ (upd H D (SetSO X.prog X.w D (insT k l))) s' → Q .none s') : wpAny (model X.prog X.w) X.A (call (.builtin "set.add") [.ref D, .str k u]) Q E s := by
  have S : SetT X.prog X.w s.heap D l := (I.hok D _ hD).1
  refine addT S few fun h' sb new => ?_
  obtain ⟨d, o, r⟩ := id new
  exact q _ (I.write (e := D) (t' := s.toks + 1) (by rw [hD]; trivial) (.inl rfl) (fun b v hb hv => (sb.2 b hb).trans hv) ⟨_, o⟩ (setSO_ok new))
/-- what the two clauses walk: words in rows -/
structure Sc2 (X : Cx) (vs vs1 : List Nat) (g : TG) (wi1 : TI) (g1 : TG) (te : TE) (σ : L2.St) (J : It) (H1 : Hp) (rows : List (List Str)) : Prop where
  few : total rows + 1 < scanBound
  stop : ∀ D l, H1 D = none → J.stop rows.length (upd H1 D (SetSO X.prog X.w D l))
  turn : ∀ D l i ws, H1 D = none → rows[i]? = some ws → J.go i (upd H1 D (SetSO X.prog X.w D l)) ∧ ∀ y H', J.yld i (upd H1 D (SetSO X.prog X.w D l)) y H' → g y (wipe σ vs) H' fun σ2 H2 => H2 = upd H1 D (SetSO X.prog X.w D l) ∧ wipe σ2 vs = wipe σ vs ∧
    wi1 σ2 H2 fun J1 H4 => H4 = upd H1 D (SetSO X.prog X.w D l) ∧ (∀ l2, J1.stop ws.length (upd H1 D (SetSO X.prog X.w D l2))) ∧
      ∀ l2 j k, ws[j]? = some k → J1.go j (upd H1 D (SetSO X.prog X.w D l2)) ∧ ∀ y1 H', J1.yld j (upd H1 D (SetSO X.prog X.w D l2)) y1 H' → g1 y1 (wipe σ2 vs1) H' fun σ3 H5 => H5 = upd H1 D (SetSO X.prog X.w D l2) ∧ wipe σ3 vs1 = wipe σ2 vs1 ∧
        te σ3 H5 fun z H7 => z = .str k ∧ H7 = upd H1 D (SetSO X.prog X.w D l2)
def tSc2 (X : Cx) (wi : TI) (g : TG) (wi1 : TI) (g1 : TG) (te : TE) (vs vs1 : List Nat) : TE := fun σ H Q => wi σ H fun J H1 => ∃ rows, Sc2 X vs vs1 g wi1 g1 te σ J H1 rows ∧
  ∀ D l, H1 D = none → l.Nodup → (∀ y, y ∈ l ↔ ∃ ws ∈ rows, y ∈ ws) → l.length ≤ total rows → Q (.ref D) (upd H1 D (SetSO X.prog X.w D l))
theorem pe_sc2 {elt t0 i0 t1 i1 : Expr} {scope : Scope} {own : List (Str × Nat)} {vs1 : List Nat} {pos : Pos} {wi wi1 : TI} {g g1 : TG} {te : TE} (hc : X.calm = true) (hN : X.N.Nodup) (hi : PI X t0 i0 wi) (ok : BlkOk X.N X.env.scope scope own) (hv : ∀ i ∈ vs1, i ∈ own.map (·.2))
    (hg : ∀ s H C cl fp, PG (X.blk s H scope (compEnvC scope cl C X.env) fp) t0 g) (hi1 : ∀ s H C cl fp, PI (X.blk s H scope (compEnvC scope cl C X.env) fp) t1 i1 wi1) (hg1 : ∀ s H C cl fp, PG (X.blk s H scope (compEnvC scope cl C X.env) fp) t1 g1)
    (he : ∀ s H C cl fp, PE (X.blk s H scope (compEnvC scope cl C X.env) fp) elt te) (hs : ∀ x, foldedSetIterable i0 X.env x = pure x := by intro _; rfl) (hs1 : ∀ env x, foldedSetIterable i1 env x = pure x := by intro _ _; rfl) :
    PE X (set2 elt t0 i0 t1 i1 scope pos) (tSc2 X wi g wi1 g1 te (own.map (·.2)) vs1) := by
  refine ⟨fun pins s σ H Q I h => ?_⟩
  have frees : ∀ y ∈ scope.names, y.2 = .free → ∃ c, X.env.cells.lookup y.1 = some c := fun y hy e => (ok.free y hy e).elim (fun k => I.ok.has _ (.inl k)) (fun k => I.ok.has _ (.inr k))
  show wpAny _ _ (comprehension (set2 elt t0 i0 t1 i1 scope pos) scope X.env (firstIterPos [⟨t0, i0, [], 0⟩, ⟨t1, i1, [], 0⟩] pos) (newSet (.type "set")) false (eval i0 X.env) none) _ _ s
  refine wpAny_comprehension_free (use := none) rfl hs (closure_ok frees) ok.kind (fun y hy e => by rw [ok.uniq y hy, e]) (thn (hi.run pins s σ H _ I h) fun _ s1 hx => thn hx fun _ s2 h2 => ?_)
  obtain ⟨it, fp, tn, J, H2, rfl, I2, T, st2, f2, rows, C2, fin⟩ := h2
  refine PpSet.newSet_ok (newEnv_comp ?_)
  generalize hD : s2.heap.objs.size = D
  have nD : H2 D = none := I2.hok.fresh (Nat.le_of_eq hD)
  generalize h3 : ({ s2 with heap := s2.heap.push { cls := .type "set", dict := none, data := .set #[] 0 (.fresh 0 0 (!X.w.params.followText "set-order")) } } : Shared) = s3
  have e3 : s3.heap = s2.heap.push { cls := .type "set", dict := none, data := .set #[] 0 (.fresh 0 0 (!X.w.params.followText "set-order")) } := by rw [← h3]
  have I3 : Inv X pins σ (upd H2 D (SetSO X.prog X.w D [])) s3 := by
    rw [← h3]
    refine I2.laid (t' := s2.toks) (fun b o e => Heap.get?_push_of_some _ e) (Nat.le_of_eq hD) ?_
    subst hD
    exact setSO_ok setT_fresh
  have low : ∀ b ∈ fp, b < s2.heap.objs.size := fun b hb => by
    obtain ⟨o, e, _⟩ := T.obj _ _ st2 b hb
    exact Heap.lt_size e
  have f3 : ∀ l, ∀ b ∈ fp, FpOk X pins (upd H2 D (SetSO X.prog X.w D l)) b ∧ b < s3.heap.objs.size := fun l b hb => by
    have lt := low b hb
    refine ⟨⟨?_, (f2 b hb).2⟩, by rw [e3, Heap.size_push]; exact Nat.lt_succ_of_lt lt⟩
    rw [upd_ne (by rw [← hD]; exact Nat.ne_of_lt lt)]
    exact (f2 b hb).1
  have st3 : tn 0 s3.heap := T.keep _ _ _ st2 fun b _ o e => by
    rw [e3]
    exact Heap.get?_push_of_some _ e
  have I4 := block_start I3 ok hN (f3 [])
  have pg := hg s3 (upd H2 D (SetSO X.prog X.w D [])) s3.heap.objs.size (cellsFrom (s3.heap.objs.size + 1) scope.names (cloFrom X.env.cells scope.names [])) fp
  have pe := he s3 (upd H2 D (SetSO X.prog X.w D [])) s3.heap.objs.size (cellsFrom (s3.heap.objs.size + 1) scope.names (cloFrom X.env.cells scope.names [])) fp
  have pi1 := hi1 s3 (upd H2 D (SetSO X.prog X.w D [])) s3.heap.objs.size (cellsFrom (s3.heap.objs.size + 1) scope.names (cloFrom X.env.cells scope.names [])) fp
  have pg1 := hg1 s3 (upd H2 D (SetSO X.prog X.w D [])) s3.heap.objs.size (cellsFrom (s3.heap.objs.size + 1) scope.names (cloFrom X.env.cells scope.names [])) fp
  refine (?_ : codeAny _ _ (.compStart (set2 elt t0 i0 t1 i1 scope pos) 0 (.ref it) (.ref D) (compEnvC scope (cellsFrom (s3.heap.objs.size + 1) scope.names (cloFrom X.env.cells scope.names [])) s3.heap.objs.size X.env)) (compPost (model X.prog X.w) X.A X.xe none _ (.ref D) s3.heap.objs.size) { s3 with heap := pushCells (s3.heap.push { cls := .type "dict", data := .dict #[] }) scope.names })
  generalize hce : compEnvC scope (cellsFrom (s3.heap.objs.size + 1) scope.names (cloFrom X.env.cells scope.names [])) s3.heap.objs.size X.env = ce at I4 pg pe pi1 pg1 ⊢
  have cL : ce.locals = s3.heap.objs.size := by
    subst hce
    rfl
  have f3' := f3 []
  generalize hH3 : upd H2 D (SetSO X.prog X.w D []) = H3 at I3 I4 pg pe pi1 pg1 f3'
  generalize h4 : ({ s3 with heap := pushCells (s3.heap.push { cls := .type "dict", data := .dict #[] }) scope.names } : Shared) = s4 at I4 ⊢
  have st4 : tn 0 s4.heap := T.keep _ _ _ st3 fun b _ o e => by
    rw [← h4]
    exact pushCells_keeps _ _ _ _ (Heap.get?_push_of_some _ e)
  have hn0 : ∀ l, ∀ b ∈ fp, (upd H2 D (SetSO X.prog X.w D l)) b = none := fun l b hb => (f3 l b hb).1.1
  have stat : ∀ {σ' : L2.St} {H' : Hp} {s' : Shared}, Inv (X.blk s3 H3 scope ce fp) [] σ' H' s' → (∀ b ∈ fp, H' b = none) → ∀ b ∈ fp, FpOk (X.blk s3 H3 scope ce fp) [] H' b := fun {σ' H' s'} J' hn b hb =>
    ⟨hn b hb, (J'.ok.exf b hb).1, J'.ok.exfs b hb, .inl hb, fun x c e => (J'.ok.exf b hb).2 x c e, fun p hp => absurd (show p ∈ ([] : List (Addr × Obj)) ++ [] from hp) (by simp)⟩
  -- where the outer walk stands: i rows are in
  let At : Nat → Shared → Prop := fun m s' => ∃ i l, l.Nodup ∧ m = rows.length - i ∧ i ≤ rows.length ∧ (∀ y, y ∈ l ↔ ∃ ws ∈ rows.take i, y ∈ ws) ∧ l.length ≤ total (rows.take i) ∧ Inv (X.blk s3 H3 scope ce fp) [] (wipe σ (own.map (·.2))) (upd H2 D (SetSO X.prog X.w D l)) s' ∧ tn i s'.heap
  have loop : codeAny (model X.prog X.w) X.A (.compLoop (set2 elt t0 i0 t1 i1 scope pos) 0 (.ref it) (.ref D) ce) (compPost (model X.prog X.w) X.A X.xe none (EP X pins σ Q) (.ref D) s3.heap.objs.size) s4 := by
    refine loopS0 (hs1 ce) At ?_ rows.length ⟨0, [], List.nodup_nil, by simp, Nat.zero_le _, fun y => by simp, Nat.le_refl _, by rw [hH3]; exact I4, st4⟩
    rintro m s5 ⟨i, l, nd, rfl, hil, mem, len, I5, st5⟩
    have n5 := hn0 l
    by_cases lt : i < rows.length
    · obtain ⟨ws, hw⟩ : ∃ ws, rows[i]? = some ws := ⟨_, List.getElem?_eq_getElem lt⟩
      obtain ⟨go, step⟩ := C2.turn D l i ws nD hw
      have tt := total_take hw
      have fw := C2.few
      refine thnF (T.item (X.blk s3 H3 scope ce fp) rfl rfl rfl hc i [] s5 _ _ (fun _ _ => False) I5 (stat I5 n5) st5 go) fun r s6 ⟨u, hr, h6⟩ => ?_
      subst hr
      refine thnF h6 fun _ s7 ⟨y, H7, I7, r7, y7, st7, n7⟩ => ?_
      have J7 := I7.pinned (stat I7 n7) (T.obj _ _ st7)
      refine thnF (pg.run _ s7 _ H7 y u _ J7 r7 (step y H7 y7)) fun _ s8 ⟨σ8, H8, I8, q8, w8, g8⟩ => ?_
      subst q8
      refine thnF (pi1.run _ s8 σ8 _ _ I8 g8) fun _ s9 h9 => thnF h9 fun _ s10 h10 => ?_
      obtain ⟨it1, fp1, tn1, J1, H10, rfl, I10, T1, st10, f10, q10, stop1, turn1⟩ := h10
      subst q10
      have n1 : ∀ l2, ∀ b ∈ fp1, (upd H2 D (SetSO X.prog X.w D l2)) b = none := fun l2 b hb => by
        have z := (f10 b hb).1
        by_cases e : b = D
        · subst e
          rw [upd_same] at z
          cases z
        · rw [upd_ne e] at z ⊢
          exact z
      have stat1 : ∀ l2, ∀ b ∈ fp1, FpOk (X.blk s3 H3 scope ce fp) ([] ++ pinsAt fp s7.heap) (upd H2 D (SetSO X.prog X.w D l2)) b := fun l2 b hb => ⟨n1 l2 b hb, (f10 b hb).2⟩
      have over : ∀ l2 : List Str, ∀ s' : Shared, ∀ σ9 : L2.St, l2.Nodup → Inv (X.blk s3 H3 scope ce fp) ([] ++ pinsAt fp s7.heap) σ9 (upd H2 D (SetSO X.prog X.w D l2)) s' → (wipe σ (own.map (·.2))).length = σ9.length → (∀ (j : Nat) v, (wipe σ (own.map (·.2)))[j]? = some (some v) → σ9[j]? = some (some v)) →
          (∀ y, y ∈ l2 ↔ ∃ ws ∈ rows.take (i + 1), y ∈ ws) → l2.length ≤ total (rows.take (i + 1)) → ∃ m, m < rows.length - i ∧ At m s' := fun l2 s' σ9 nd2 I' hl hk mem2 len2 => by
        have pin' : ∀ b ∈ fp, ∀ o, s7.heap.get? b = some o → s'.heap.get? b = some o := fun b hb o e => (I'.pin (b, o) (List.mem_append_right _ (List.mem_append_right _ (mem_pinsAt hb e)))).1
        exact ⟨rows.length - (i + 1), by omega, i + 1, l2, nd2, rfl, lt, mem2, len2, (I'.unpinned (pins := [])).weak hl hk, T.keep _ _ _ st7 fun b hb o e => pin' b hb o e⟩
      have hl8 : (wipe σ (own.map (·.2))).length = σ8.length := by rw [← w8, wipe_length]
      have hk9 : ∀ (j : Nat) v, (wipe σ (own.map (·.2)))[j]? = some (some v) → (wipe σ8 vs1)[j]? = some (some v) := fun j v e => by
        rw [← w8] at e
        obtain ⟨a1, a2⟩ := wipe_some e
        rw [wipe_out fun z => a2 (hv j z)]
        exact a1
      -- the inner walk: j words of the row are in
      let In : Nat → Shared → Prop := fun m s' => ∃ j l2, l2.Nodup ∧ m = ws.length - j ∧ j ≤ ws.length ∧ (∀ y, y ∈ l2 ↔ y ∈ l ∨ y ∈ ws.take j) ∧ l2.length ≤ l.length + j ∧ Inv (X.blk s3 H3 scope ce fp) ([] ++ pinsAt fp s7.heap) (wipe σ8 vs1) (upd H2 D (SetSO X.prog X.w D l2)) s' ∧ tn1 j s'.heap
      have loop1 : codeAny (model X.prog X.w) X.A (.compLoop (set2 elt t0 i0 t1 i1 scope pos) 1 (.ref it1) (.ref D) ce) (fun r s6 => match r with
          | .ok _ => ∃ m, m < rows.length - i ∧ At m s6
          | .error _ => False) s10 := by
        refine loopS1 In ?_ ws.length ⟨0, l, nd, by simp, Nat.zero_le _, fun y => by simp, Nat.le_refl _, I10.weak (wipe_length _ _) (fun j v e => (wipe_some e).1), st10⟩
        rintro m s11 ⟨j, l2, nd2, rfl, hj, mem2, len2, I11, st11⟩
        by_cases lt1 : j < ws.length
        · obtain ⟨k, hk⟩ : ∃ k, ws[j]? = some k := ⟨_, List.getElem?_eq_getElem lt1⟩
          obtain ⟨go1, step1⟩ := turn1 l2 j k hk
          refine thnF (T1.item (X.blk s3 H3 scope ce fp) rfl rfl rfl hc j _ s11 (wipe σ8 vs1) _ (fun _ _ => False) I11 (stat1 l2) st11 go1) fun r s12 ⟨u1, hr, h12⟩ => ?_
          subst hr
          refine thnF h12 fun _ s13 ⟨y1, H13, I13, r13, y13, st13, n13⟩ => ?_
          have sk : ∀ b ∈ fp1, FpOk (X.blk s3 H3 scope ce fp) ([] ++ pinsAt fp s7.heap) H13 b := fun b hb => ⟨n13 b hb, (f10 b hb).2⟩
          have J13 := I13.pinned sk (T1.obj _ _ st13)
          refine thnF (pg1.run _ s13 (wipe σ8 vs1) H13 y1 u1 _ J13 r13 (step1 y1 H13 y13)) fun _ s14 ⟨σ14, H14, I14, q14, w14, g14⟩ => ?_
          subst q14
          refine thnF (pe.run _ s14 σ14 _ _ I14 g14) fun z s15 ⟨yv, H15, I15, r15, ez, q15⟩ => ?_
          subst ez
          subst q15
          obtain ⟨tk, rfl⟩ := r15
          refine addSO (X := X.blk s3 H3 scope ce fp) I15 upd_same (by omega) fun s16 I16 => ?_
          rw [L2.upd_upd] at I16
          have pin' : ∀ b ∈ fp1, ∀ o, s13.heap.get? b = some o → s16.heap.get? b = some o := fun b hb o e => (I16.pin (b, o) (List.mem_append_right _ (List.mem_append_right _ (mem_pinsAt hb e)))).1
          have il := insT_len k l2
          have et : ws.take (j + 1) = ws.take j ++ [k] := by
            rw [List.take_succ, hk]
            rfl
          refine ⟨ws.length - (j + 1), by omega, j + 1, insT k l2, insT_nodup nd2, rfl, lt1, fun y => ?_, by omega, I16.unpinned.weak (by rw [← w14, wipe_length]) (fun j v e => by rw [← w14] at e; exact (wipe_some e).1), T1.keep _ _ _ st13 fun b hb o e => pin' b hb o e⟩
          rw [insT_mem, mem2 y, et, List.mem_append, List.mem_singleton, or_assoc]
        · have ej : j = ws.length := by omega
          subst ej
          refine thnF (T1.done (X.blk s3 H3 scope ce fp) rfl rfl rfl hc _ _ s11 (wipe σ8 vs1) _ (fun _ _ => False) I11 (stat1 l2) st11 (stop1 l2)) fun r s12 ⟨hr, I12⟩ => ?_
          subst hr
          refine over l2 s12 _ nd2 I12 (hl8.trans (wipe_length σ8 vs1).symm) hk9 (fun y => ?_) (by omega)
          have et : rows.take (i + 1) = rows.take i ++ [ws] := by
            rw [List.take_succ, hw]
            rfl
          rw [mem2 y, List.take_length, mem y, et]
          constructor
          · rintro (⟨a, ma, hy⟩ | hy)
            · exact ⟨a, List.mem_append_left _ ma, hy⟩
            · exact ⟨ws, List.mem_append_right _ (List.mem_singleton.mpr rfl), hy⟩
          · rintro ⟨a, ma, hy⟩
            rcases List.mem_append.mp ma with ma | ma
            · exact .inl ⟨a, ma, hy⟩
            · rw [List.mem_singleton.mp ma] at hy
              exact .inr hy
      exact startS1 loop1 (T1.self X.A 0 _ _ _ st10 loop1)
    · have ei : i = rows.length := by omega
      subst ei
      refine thnF (T.done (X.blk s3 H3 scope ce fp) rfl rfl rfl hc _ [] s5 _ _ (fun _ _ => False) I5 (stat I5 n5) st5 (C2.stop D l nD)) fun r s6 ⟨hr, I6⟩ => ?_
      subst hr
      have I7 : Inv X pins σ (upd H2 D (SetSO X.prog X.w D l)) s6 := I3.call' (ch := fp) I6.os I6.base I6.hok I6.bare fun b hb => ⟨(f3' b hb).1.2.2.2.1, (f3' b hb).1.2.1, (f3' b hb).1.2.2.2.2.1, (f3' b hb).1.2.2.2.2.2⟩
      have nC : (upd H2 D (SetSO X.prog X.w D l)) s3.heap.objs.size = none := by
        have z : (upd H2 D (SetSO X.prog X.w D l)) ce.locals = none := I6.free
        rw [cL] at z
        exact z
      obtain ⟨m, hn, _⟩ := I6.loc
      have hn : s6.heap.Ns ce.locals m := hn
      rw [cL] at hn
      rw [List.take_length] at mem len
      obtain ⟨f0, f1, f2', f3'', f4, f5⟩ := I3.fpOk (H' := upd H2 D (SetSO X.prog X.w D l)) (Nat.le_refl _) nC
      exact ⟨m, hn, fun h'' sb => ⟨.ref D, _, I7.turned (t' := s6.toks) (fun b o hb e => (sb.2 b hb).trans e) f0 f1 f3'' f4 f5, rfl, fin D l nD nd mem len⟩⟩
  exact PpSet.codeAny_compStart_set loop (T.self X.A 0 _ _ _ st4 loop)
end
end TM
set_option pp.deepTerms.threshold 6
namespace TM
open L2 PySem.Spec PySem PyProof.Rows
/-! ### sorted({x for a, b, c in rows for x in c}) -/
def rSortedSO (P : Program) (w : World) : List V → Hp → VK → Prop := fun vs H Q => ∃ (a : Addr) (l : List Str), vs = [V.ref a] ∧ H a = some (SetSO P w a l) ∧ l.length < 4000 ∧
  ∀ (ys : List Str) (p : Addr), ascT ys → (∀ k, k ∈ ys ↔ k ∈ l) → ys.length = l.length → H p = none → Q (.ref p) (upd H p (.lst (ys.map V.str)))
section
variable {X : Cx}
theorem cr_sortedSO (hc : X.calm = true) : CallR X (.builtin "sorted") (rSortedSO X.prog X.w) := by
  intro pins s σ H vs us Q I r h
  obtain ⟨a, l, rfl, ha, few, q⟩ := h
  have S : SetT X.prog X.w s.heap a l := (I.hok a _ ha).1
  rw [Vals.ref1 r]
  refine sortedT S (I.ok.hd hc) (by unfold scanBound; omega) fun s' p out c ys k g o hp hg hi as mem len => ?_
  have lz : (ys.map V.str).length ≤ sizeLine := by
    rw [List.length_map, len, sizeLine_eq]
    omega
  have nP : H p = none := I.hok.fresh hp
  obtain ⟨h2, g2, d2, t2, o2⟩ := s'
  obtain rfl : o2 = s.os := o
  obtain rfl : g2 = s.gens := g
  have J : Inv X pins σ (upd H p (.lst (ys.map V.str))) { s with heap := h2, gens := s.gens, drawn := d2, toks := t2 } := I.call (ch := []) (Un.laid k hp nP) (I.hok.laid k hp ⟨lz, out.toList, c, vals_of_strs hi, hg⟩) I.bare (fun _ z => nomatch z)
  exact ⟨.ref p, _, J, rfl, q ys p as mem len nP⟩
end
/-- each thing is a triple whose last part is a list of words -/
def RowsD (ds : List D) (rows : List (List Str)) : Prop := ds.length = rows.length ∧ ∀ (i : Nat) (ws : List Str), rows[i]? = some ws → ∃ x y : D, ds[i]? = some (.tuple [x, y, .list (ws.map .str)])
def oKnown (c e : Nat) (d : DEx) : DOx := fun ρ Ψ Φ => d ρ (fun x ρ1 => match x with
  | .list ds => c < ρ1.length ∧ e < ρ1.length ∧ ∃ rows : List (List Str), RowsD ds rows ∧ total rows + 1 < 4000 ∧ ∀ ys : List Str, (∀ y, y ∈ ys ↔ ∃ ws ∈ rows, y ∈ ws) → ys.Nodup → ascT ys → Ψ (ys.map .str) ρ1
  | _ => False) Φ
theorem nd_le {l : List Str} : ∀ {ys : List Str}, l.Nodup → (∀ k ∈ l, k ∈ ys) → l.length ≤ ys.length := by
  induction l with
  | nil => exact fun _ _ => Nat.zero_le _
  | cons k l ih =>
    intro ys nd sub
    obtain ⟨nk, nl⟩ := List.nodup_cons.mp nd
    obtain ⟨a, b, rfl⟩ := List.append_of_mem (sub k (List.mem_cons_self ..))
    have := @ih (a ++ b) nl fun y hy => by
      rcases List.mem_append.mp (sub y (List.mem_cons_of_mem _ hy)) with m | m
      · exact List.mem_append_left _ m
      · rcases List.mem_cons.mp m with e | m
        · exact absurd (e ▸ hy) nk
        · exact List.mem_append_right _ m
    simp only [List.length_append, List.length_cons] at this ⊢
    omega
theorem nd_nd {ys : List Str} : ∀ {l : List Str}, l.Nodup → (∀ k ∈ l, k ∈ ys) → ys.length ≤ l.length → ys.Nodup := by
  induction ys with
  | nil => exact fun _ _ _ => List.nodup_nil
  | cons y ys ih =>
    intro l nd sub len
    have ny : y ∉ ys := fun m => by
      have := nd_le nd fun k hk => (List.mem_cons.mp (sub k hk)).elim (fun e => e ▸ m) id
      rw [List.length_cons] at len
      omega
    refine List.nodup_cons.mpr ⟨ny, ih (nd.erase y) (fun k hk => ?_) ?_⟩
    · have hk2 := (List.Nodup.mem_erase_iff nd).mp hk
      exact (List.mem_cons.mp (sub k hk2.2)).elim (fun e => absurd e hk2.1) id
    · rw [List.length_erase]
      rw [List.length_cons] at len
      split <;> omega
theorem asc_nodup {ys l : List Str} (nd : l.Nodup) (mem : ∀ k, k ∈ ys ↔ k ∈ l) (len : ys.length = l.length) : ys.Nodup :=
  nd_nd nd (fun k hk => (mem k).mpr hk) (Nat.le_of_eq len)
theorem strs_rp {G : Hp} (ys : List Str) : RpAll G (ys.map PyData.str) (ys.map V.str) := by
  induction ys with
  | nil => exact RpAll.nil
  | cons y ys ih => exact RpAll.cons (by simp only [Rp]) ih
section
variable {X : Cx} {A : Amb} {W : WX} {ca : Nat} {i0 : Expr} {da : DEx} {x1 x2 x3 x4 : Str} {n1 n2 n3 n4 n5 n6 n7 p pos pos2 pos3 : Pos} {kt : Nat} {scope : Scope}
theorem do_known {N' : List Str} {sc' : Scope} {a b c e : Nat} (hc : X.calm = true) (hN : X.N.Nodup) (hm : X.mg "sorted" = none) (hi : DE X A W ca i0 da) (ok : blkC N' sc' scope [(x1, a), (x2, b), (x3, c), (x4, e)] = true)
    (h1 : ∀ s H C cl fp, PG (X.blk s H scope (compEnvC scope cl C X.env) fp) (.Name x1 n1) (gName a)) (h2 : ∀ s H C cl fp, PG (X.blk s H scope (compEnvC scope cl C X.env) fp) (.Name x2 n2) (gName b)) (h3 : ∀ s H C cl fp, PG (X.blk s H scope (compEnvC scope cl C X.env) fp) (.Name x3 n3) (gName c))
    (h4 : ∀ s H C cl fp, PE (X.blk s H scope (compEnvC scope cl C X.env) fp) (.Name x3 n4) (tVar c)) (h5 : ∀ s H C cl fp, PG (X.blk s H scope (compEnvC scope cl C X.env) fp) (.Name x4 n5) (gName e)) (h6 : ∀ s H C cl fp, PE (X.blk s H scope (compEnvC scope cl C X.env) fp) (.Name x4 n6) (tVar e))
    (ne : a ≠ c ∧ b ≠ c := by decide) (hs : ∀ x, foldedSetIterable i0 X.env x = pure x := by intro _; rfl) (hs1 : ∀ env x, foldedSetIterable (.Name x3 n4) env x = pure x := by intro _ _; rfl) (hNe : X.N = N' := by rfl) (hse : X.env.scope = sc' := by rfl) (hg : Gl X "sorted" := by rfl)
    (hst : starEach [set2 (.Name x4 n6) (.Tuple [.Name x1 n1, .Name x2 n2, .Name x3 n3] kt pos2) i0 (.Name x4 n5) (.Name x3 n4) scope pos3] X.env = (false, eval (set2 (.Name x4 n6) (.Tuple [.Name x1 n1, .Name x2 n2, .Name x3 n3] kt pos2) i0 (.Name x4 n5) (.Name x3 n4) scope pos3) X.env) :: starEach [] X.env := by rfl) :
    DO X A W ca (.Call (.Name "sorted" p) [set2 (.Name x4 n6) (.Tuple [.Name x1 n1, .Name x2 n2, .Name x3 n3] kt pos2) i0 (.Name x4 n5) (.Name x3 n4) scope pos3] [] pos) (oKnown c e da) := by
  have pg : ∀ s H C cl fp, PG (X.blk s H scope (compEnvC scope cl C X.env) fp) (.Tuple [.Name x1 n1, .Name x2 n2, .Name x3 n3] kt pos2) (gTup X.K 3 (gCons (gName a) (gCons (gName b) (gCons (gName c) gNil)))) := fun s H C cl fp =>
    pg_tup (X := X.blk s H scope (compEnvC scope cl C X.env) fp) hc (pgs_cons (X := X.blk s H scope (compEnvC scope cl C X.env) fp) (h1 s H C cl fp) (pgs_cons (X := X.blk s H scope (compEnvC scope cl C X.env) fp) (h2 s H C cl fp) (pgs_cons (X := X.blk s H scope (compEnvC scope cl C X.env) fp) (h3 s H C cl fp) pgs_nil)))
  have pe := pe_sc2 (X := X) (wi1 := iList X.K (tVar c)) (elt := .Name x4 n6) (t1 := .Name x4 n5) (i1 := .Name x3 n4) (pos := pos3) (vs1 := [e]) hc hN (pi_list (tg := .Tuple [.Name x1 n1, .Name x2 n2, .Name x3 n3] kt pos2) hi.pe) (blkOk_by (by rw [hNe, hse]; exact ok)) (fun i hi => by
    rw [List.mem_singleton.mp hi]
    simp) pg (fun s H C cl fp => pi_list (X := X.blk s H scope (compEnvC scope cl C X.env) fp) (tg := .Name x4 n5) (h4 s H C cl fp)) h5 h6 hs hs1
  refine ⟨PE.weak (pe_callB (cr_sortedSO hc) hg hm (by decide +kernel) (pa_cons pe pa_nil hst) (by decide) (by decide) hst rfl) fun σ H Q ⟨O, G, ρ, t, Ψ, Φ, le, R, q, pe, px⟩ => ?_⟩
  refine ⟨O, G, ρ, t, _, Φ, le, R, q, fun x ρ1 v G1 H1 l1 R1 rx q1 => ?_, px⟩
  cases x with
  | list ds =>
    obtain ⟨cl, el, rows, ⟨rl, rw2⟩, few, fin⟩ := q1
    simp only [Rp] at rx
    obtain ⟨ad, xs, rfl, had, rxs⟩ := rx
    have hlen := RpAll.length rxs
    have inH : ∀ {b : Addr} {o : HO}, G1 b = some o → ∀ D l, H1 D = none → (upd H1 D (SetSO X.prog X.w D l)) b = some o := fun {b o} hb D l nD => by
      have hb2 := R1.hs.gh _ _ hb
      rw [upd_ne (fun z => by rw [z, nD] at hb2; cases hb2)]
      exact hb2
    have sl : ρ1.length = σ.length := R1.ln
    refine ⟨ad, rfl, ⟨xs, SqL.of (R1.hs.gh _ _ had)⟩, rows, ⟨by unfold scanBound; omega, fun D l nD => ⟨xs, SqL.of (inH had D l nD), by omega⟩, fun D l i ws nD hw => ?_⟩, fun D l nD nd mem len => ?_⟩
    · obtain ⟨y1, y2, hd⟩ := rw2 i ws hw
      obtain ⟨xv, hx, rxv⟩ := RpAll.get rxs hd
      have S := SqL.of (K := X.K) (inH had D l nD)
      refine ⟨⟨xs, xv, S, hx⟩, fun y H' yl => ?_⟩
      obtain ⟨rfl, ye⟩ := yl
      have ey : xs[i]? = some y := ye xs S
      rw [hx] at ey
      cases ey
      simp only [Rp, RpAll] at rxv
      obtain ⟨tp, zs, rfl, htp, v1, zs1, rfl, r1, v2, zs2, rfl, r2, v3, zs3, rfl, ⟨b3, us, rfl, hb3, rus⟩, rfl⟩ := rxv
      rw [RpAll.strs rus] at hb3
      refine ⟨tp, _, rfl, SqT.of (inH htp D l nD), rfl, v1, _, rfl, v2, _, rfl, .ref b3, _, rfl, rfl, rfl, ?_, .ref b3, ?_, b3, rfl, ⟨_, SqL.of (inH hb3 D l nD)⟩, rfl, fun l2 => ⟨_, SqL.of (inH hb3 D l2 nD), by rw [List.length_map]; exact Nat.le_refl _⟩, fun l2 j k hk => ?_⟩
      · rw [wipe_set _ _ (by simp), wipe_set _ _ (by simp), wipe_set _ _ (by simp), wipe_wipe]
      · rw [List.getElem?_set_self (by rw [List.length_set, List.length_set, wipe_length]; omega)]
      · have S3 := SqL.of (K := X.K) (inH hb3 D l2 nD)
        have hk2 : (ws.map V.str)[j]? = some (.str k) := by rw [List.getElem?_map, hk]; rfl
        refine ⟨⟨_, _, S3, hk2⟩, fun y1 H' yl => ?_⟩
        obtain ⟨rfl, ye⟩ := yl
        have ey := ye _ S3
        rw [hk2] at ey
        cases ey
        refine ⟨rfl, ?_, .str k, ?_, rfl, rfl⟩
        · rw [wipe_set _ _ (by simp), wipe_wipe]
        · rw [List.getElem?_set_self (by rw [wipe_length, List.length_set, List.length_set, List.length_set, wipe_length]; omega)]
    · refine ⟨D, l, rfl, upd_same, by omega, fun ys p2 as mem2 len2 hp => ?_⟩
      obtain ⟨l4, R4⟩ := R1.newfz (o := SetSO X.prog X.w D l) nD
      have n5 := R4.newL hp (strs_rp ys)
      exact pe _ ρ1 p2 _ _ (l1.trans l4) n5.rel n5 (fin ys (fun y => by rw [mem2 y]; exact mem y) (asc_nodup nd mem2 len2) as)
  | _ => exact q1.elim
end
end TM
set_option pp.deepTerms.threshold 6
namespace TM
open L2 PySem.Spec PySem PyProof.Rows
/-! ### exceptions of the program's own classes -/
def xcB (K : PySem.W.Frag) (x : Str) : Bool :=
  (He.Fa.exc x).ok K && (decide (PySem.W.exmOne K (.ref (He.ga K x)) (.ref (He.ga K x)) = some true) && (He.eqO (PySem.W.findIn K (.ref (He.ga K x)) "__getattribute__") (some (some (.builtin "BaseException.__getattribute__"))) &&
  (He.eqO (PySem.W.findIn K (.ref (He.ga K x)) "__getattr__") (some none) && (PySem.W.hasDictIn K (He.ga K x) && (He.eqO (PySem.W.findIn K (.ref (He.ga K x)) "__class__") (some (some (.builtin "object.__class__"))) &&
  (He.eqO (PySem.W.specialIn K (.builtin "object.__class__") "__get__") (some (some (.builtin "getset_descriptor.__get__"))) && (decide (PySem.W.takesIn K (.builtin "object.__class__") = some true) && (decide (PySem.W.mroIn K (He.ga K x) (.type "object") = some true) &&
  decide (PySem.W.kitOne K (.ref (He.ga K x)) (.type "ValueError") = some true)))))))))
structure XcOk (K : PySem.W.Frag) (x : Str) : Prop where
  ex : PySem.W.excIn K (He.ga K x) He.veBase "ValueError.__new__" = true
  kp : PySem.W.keepIn K (.ref (He.ga K x)) = true
  sub : PySem.W.subIn K (.ref (He.ga K x)) (.type "BaseException") = some true
  ty : PySem.W.typeIn K (.ref (He.ga K x)) = some (.type "type")
  exm : PySem.W.exmOne K (.ref (He.ga K x)) (.ref (He.ga K x)) = some true
  C : ExcC K (He.ga K x)
  ve : PySem.W.kitOne K (.ref (He.ga K x)) (.type "ValueError") = some true
theorem xc_ok {K : PySem.W.Frag} {x : Str} (h : xcB K x = true) : XcOk K x := by
  obtain ⟨h1, h⟩ := He.ba h
  obtain ⟨h2, h⟩ := He.ba h
  obtain ⟨h3, h⟩ := He.ba h
  obtain ⟨h4, h⟩ := He.ba h
  obtain ⟨h5, h⟩ := He.ba h
  obtain ⟨h6, h⟩ := He.ba h
  obtain ⟨h7, h⟩ := He.ba h
  obtain ⟨h8, h⟩ := He.ba h
  obtain ⟨h9, h10⟩ := He.ba h
  obtain ⟨a1, a2, a3, a4⟩ := He.exc_ok h1
  exact ⟨a1, a2, a3, a4, of_decide_eq_true h2, ⟨He.eqO_ok h3, He.eqO_ok h4, a3, h5, He.eqO_ok h6, He.eqO_ok h7, of_decide_eq_true h8, of_decide_eq_true h9⟩, of_decide_eq_true h10⟩
/-! ### the head's hook, with the classes xs -/
def obsX (xs : List Str) (fa : List He.Fa) (fn : List He.DefD) (K : PySem.W.Frag) : He.AlD := ((obsS fa fn K).1 && xs.all (xcB K), (obsS fa fn K).2)
def obsXG (xs : List Str) (n : Nat) (fa : List He.Fa) (fn : List He.DefD) (g : Addr → Option Obj) : He.AlD := obsX xs fa fn (He.frG g (sysModules :: He.asD g n))
def SaysX (xs : List Str) (fa : List He.Fa) (fn : List He.DefD) (K : PySem.W.Frag) : Prop := obsX xs fa fn K = He.valD fn
section
variable {xs : List Str} {fa : List He.Fa} {fn : List He.DefD} {K : PySem.W.Frag}
theorem SaysX.s (h : SaysX xs fa fn K) : SaysS fa fn K := by
  have h1 : ((obsS fa fn K).1 && xs.all (xcB K)) = true := congrArg (fun z : He.AlD => z.1) (show obsX xs fa fn K = He.valD fn from h)
  have h2 : (obsX xs fa fn K).2 = (He.valD fn).2 := by rw [show obsX xs fa fn K = He.valD fn from h]
  rw [Bool.and_eq_true] at h1
  exact Prod.ext h1.1 h2
theorem SaysX.x (h : SaysX xs fa fn K) : ∀ x ∈ xs, XcOk K x := by
  have h1 : ((obsS fa fn K).1 && xs.all (xcB K)) = true := congrArg (fun z : He.AlD => z.1) (show obsX xs fa fn K = He.valD fn from h)
  rw [Bool.and_eq_true] at h1
  exact fun x m => xc_ok (List.all_eq_true.mp h1.2 x m)
end
def hookX (xs : List Str) (n : Nat) (fa : List He.Fa) (fn : List He.DefD) : PySem.W.Hook where
  α := He.AlD
  obs := fun s => obsXG xs n fa fn s.heap.get?
  val := fun _ => He.valD fn
  says := fun _ h => ∃ K : PySem.W.Frag, K.In h ∧ SaysX xs fa fn K
  of := fun _ _ e => ⟨_, He.frG_in, e⟩
  keeps := fun _ _ _ ⟨K, hK, c⟩ k => ⟨K, PySem.W.Frag.In.keeps hK k, c⟩
theorem obsXG_eq {xs : List Str} {n : Nat} {fa : List He.Fa} {fn : List He.DefD} {g : Addr → Option Obj} {s : Shared} (h : ∀ a, g a = s.heap.get? a) : obsXG xs n fa fn g = (hookX xs n fa fn).obs s := by
  obtain rfl : g = s.heap.get? := funext h
  rfl
/-! ### raise, try -/
def sRaise (c : Str) : DSx := fun ρ E => E.ex c none ρ
/-- try: .. except C as e: return isinstance(e, ValueError) -/
def sTryIs (c : Str) (tb : DSx) : DSx := fun ρ E => tb ρ { E with ex := fun c' p _ => c' = c ∧ p = none ∧ E.rt (.fz (.bool true)) }
section
variable {X : Cx} {A : Amb} {W : WX} {c n m : Str} {i j cb : Nat} {p p1 p2 p3 p4 p5 pos pos' np : Pos} {body : List Stmt} {d : DSx}
theorem ds_raise (hc : X.calm = true) (tk : Takes X W) (xc : XcOk X.K c) (gC : X.mg c = some (.ref (He.ga X.K c))) (hg : Gl X c := by rfl) (hdb : (c == ("__debug__" : Str)) = false := by decide) :
    DS X A W 0 (.Raise (some (.Call (.Name c p) [.Constant (.str m) j p2] [] pos)) none pos') (sRaise c) :=
  ⟨PS.weak (ps_raise hc tk (pmk_own PySem.F.excBase_ValueError xc.ex gC xc.kp (raises_own xc.sub xc.ty) hg hdb)) fun D σ H ⟨O, G, ρ, t, E, le, R, q, ok⟩ =>
    ok.ex σ c none ρ G H _ none (Le.refl G) (R.up (by omega)) ⟨rfl, rfl⟩ q⟩
theorem ds_tryIs (hs : X.stack = X.env :: X.outer) (hf : X.env.frame = some X.env.locals) (hN : X.N.Nodup) (hi : X.N[i]? = some n) (hln : X.env.kindOf n = some .local) (tk : Takes X W) (xc : XcOk X.K c) (gC : X.mg c = some (.ref (He.ga X.K c))) (gI : X.mg "isinstance" = none) (gV : X.mg "ValueError" = none)
    (hb : ∀ (W' : WX) (pn : List (Addr × Obj)) (xe : Value → Shared → Prop), Takes (X.tr pn xe) W' → PassesOwn (model X.prog X.w) X.A X.env xe → DSs (X.tr pn xe) A W' cb body d)
    (hg : Gl X c := by rfl) (hgi : Gl X "isinstance" := by rfl) (hgv : Gl X "ValueError" := by rfl) (hdb : (c == ("__debug__" : Str)) = false := by decide) (hv : Vis X.env.scope n := by first | exact Or.inl rfl | exact Or.inr (Or.inl rfl) | exact Or.inr (Or.inr rfl)) (hd : (n == ("__debug__" : Str)) = false := by decide) (hcd : (n == ("__classdict__" : Str)) = false := by decide)
    (hst : starEach [.Name n p2, .Name "ValueError" p3] X.env = (false, eval (.Name n p2) X.env) :: starEach [.Name "ValueError" p3] X.env := by rfl) (hst2 : starEach [.Name "ValueError" p3] X.env = (false, eval (.Name "ValueError" p3) X.env) :: starEach [] X.env := by rfl) :
    DS X A W cb (.Try body [.ExceptHandler (some (.Name c np)) (some n) [.Return (some (.Call (.Name "isinstance" p1) [.Name n p2, .Name "ValueError" p3] [] p4)) p5] pos'] [] [] pos) (sTryIs c d) := by
  refine ⟨PS.weak (ps_try_as (i := i) (c := .ref (He.ga X.K c)) (tb := fun W' => liftS X.K A W' cb d) (ts := fun a cls dd D σ H => (cls = .ref (He.ga X.K c) ∧ dd = none) ∧ (σ.length = X.N.length → tRet (tCB (rIsE X.K (He.ga X.K c) a) (tCons (tVar i) (tCons (tC (.ty "ValueError")) tNil))) D σ H)) hs hf hN hi hln ⟨hg, hdb, .inl gC⟩ tk (fun W' pn xe tkw ps => (hb W' pn xe tkw ps).pss) (fun a oe cls dd pn hz hfl => ⟨fun pins s σ H D I h => ?_⟩)) fun D σ H ⟨O, G, ρ, t, E, le, R, q, ok⟩ => ?_⟩
  · obtain ⟨⟨rfl, rfl⟩, h⟩ := h
    refine PSs.run (pss_one (ps_ret (pe_callB (call_isE xc.C hz hfl) hgi gI (by decide +kernel) (pa_cons (pe_var hi hv hd hcd) (pa_cons (pe_bltn hgv gV (by decide +kernel) (v := .ty "ValueError") rfl) pa_nil hst2) hst) (by decide) (by decide) hst rfl))) pins s σ H D I (h I.len)
  · refine ⟨O, G, ρ, t, _, le, R, q, ⟨ok.nx, ok.rt, ok.bk, ok.ct, fun σ' c' p' ρ' G' H' cv dd l R' xa ⟨e1, e2, hr⟩ => ?_⟩⟩
    subst e1 e2
    obtain ⟨rfl, hdd⟩ := xa
    have hdd : dd = none := hdd
    subst hdd
    refine ⟨true, xc.exm, fun _ a ha => ⟨⟨rfl, rfl⟩, fun hl => ?_⟩, fun z => nomatch z⟩
    have il : i < σ'.length := by
      rw [List.length_set] at hl
      rw [hl]
      exact (List.getElem?_eq_some_iff.mp hi).1
    refine ⟨.ref a, List.getElem?_set_self il, .ty "ValueError", .type "ValueError", true, rfl, fun u r => r, xc.ve, ?_⟩
    exact ok.rt (.fz (.bool true)) _ G' H' l R'.hs (by simp only [RetAt, Rp]) hr
end
end TM
set_option pp.deepTerms.threshold 6
namespace TM
open L2 PySem.Spec PySem PyProof.Rows
/-! ### dicts of one's own with texts as keys; xs.pop(i) -/
section
variable {K : PySem.W.Frag} {A : Amb} {t : Nat} {O G H : Hp} {ρ : Sl} {σ : L2.St}
theorem Rel.setOwn {a : Addr} {o : HO} (R : Rel K A t (L2.upd O a o) G ρ σ H) (hO : O a = none) (i : Nat) {e : Ent} (h : EntAt K A G (single a o) e (some (some (V.ref a)))) : Rel K A t O G (ρ.set i e) (σ.set i (some (.ref a))) H := by
  obtain ⟨e1, g1, f1⟩ := R.atO
  refine (R.unO hO).setP i (single a o) (fun b u q => ?_) (fun b u q => ?_) (fun b u q => ?_) (fun b u q => ?_) (fun F0 _ _ => ?_) h
  · obtain ⟨rfl, rfl⟩ := single_at q
    exact e1
  · obtain ⟨rfl, rfl⟩ := single_at q
    exact g1
  · obtain ⟨rfl, rfl⟩ := single_at q
    exact hO
  · obtain ⟨rfl, rfl⟩ := single_at q
    exact f1
  · obtain ⟨F, w, en⟩ := R.ex
    have low : Le O (L2.upd O a o) := Le.upd hO
    refine ⟨F, ⟨w.le, w.g, fun i b u q => ?_, w.f, w.d⟩, en, fun i b u q => ?_⟩
    · cases z : O b with
      | none => rfl
      | some x =>
        have := w.o i b u q
        rw [low b x z] at this
        cases this
    · obtain ⟨rfl, rfl⟩ := single_at q
      cases z : F i b with
      | none => rfl
      | some x =>
        have := w.o i b x z
        rw [upd_same] at this
        cases this
theorem Rel.odAt (R : Rel K A t O G ρ σ H) {i : Nat} {ds : List (D × D)} (he : ρ[i]? = some (.od ds)) : ∃ a xs, σ[i]? = some (some (V.ref a)) ∧ H a = some (.dK xs) ∧ RpKv G ds xs ∧
    ∀ es ys, RpKv G es ys → Rel K A t O G (ρ.set i (.od es)) σ (L2.upd H a (.dK ys)) := by
  obtain ⟨F, w, en⟩ := R.ex
  obtain ⟨a, xs, hs, h2, h3⟩ := en i _ he
  refine ⟨a, xs, hs, w.le i _ _ h2, h3, fun es ys r => ?_⟩
  have g := w.g i _ _ h2
  have o := w.o i _ _ h2
  have f := w.f i _ _ h2
  obtain ⟨a1, a2⟩ := A.fp_upd (o := .dK ys) R.hs.at_ f
  have hi : i < ρ.length := (List.getElem?_eq_some_iff.mp he).1
  have ne : ∀ j b u, j ≠ i → F j b = some u → b ≠ a := fun j b u hj q z => by
    subst z
    rw [w.d i j b _ (fun z => hj z.symm) h2] at q
    cases q
  refine ⟨R.hs.upd g o f, by rw [List.length_set]; exact R.ln, fun j => if j = i then single a (.dK ys) else F j, ⟨fun j b u q => ?_, fun j b u q => ?_, fun j b u q => ?_, fun j b u q z => ?_, fun j j' b u nj q => ?_⟩, fun j e hj => ?_⟩
  · split at q
    · obtain ⟨rfl, rfl⟩ := single_at q
      exact upd_same
    · rename_i hj
      rw [upd_ne (ne j b u hj q)]
      exact w.le j b u q
  · split at q
    · obtain ⟨rfl, rfl⟩ := single_at q
      exact g
    · exact w.g j b u q
  · split at q
    · obtain ⟨rfl, rfl⟩ := single_at q
      exact o
    · exact w.o j b u q
  · split at q
    · obtain ⟨rfl, rfl⟩ := single_at q
      exact f (a2 _ z)
    · exact w.f j b u q (a2 _ z)
  · split at q
    · rename_i hj
      obtain ⟨rfl, rfl⟩ := single_at q
      rw [if_neg (fun z => nj (hj.trans z.symm))]
      cases z : F j' b with
      | none => rfl
      | some u2 => exact absurd rfl (ne j' b u2 (fun z => nj (hj.trans z.symm)) z)
    · rename_i hj
      split
      · cases z : single a (HO.dK ys) b with
        | none => rfl
        | some u2 =>
          obtain ⟨rfl, _⟩ := single_at z
          exact absurd rfl (ne j b u hj q)
      · exact w.d j j' b u nj q
  · by_cases hji : i = j
    · subst hji
      rw [List.getElem?_set_self hi] at hj
      cases hj
      refine ⟨a, ys, hs, ?_, r⟩
      dsimp only
      rw [if_pos rfl]
      exact if_pos rfl
    · rw [List.getElem?_set_ne hji] at hj
      dsimp only
      rw [if_neg (fun z => hji z.symm)]
      exact en j e hj
end
/-- texts as keys -/
abbrev kvS (l : List (Str × D)) : List (D × D) := l.map fun p => (.str p.1, p.2)
def getS (l : List (Str × D)) (k : Str) : Option D := (l.find? fun p => decide (p.1 = k)).map (·.2)
def putS (l : List (Str × D)) (k : Str) (d : D) : List (Str × D) :=
  if (l.any fun p => decide (p.1 = k)) = true then l.map (fun p => if p.1 = k then (p.1, d) else p) else l ++ [(k, d)]
theorem keyD_str {q : Key} {k : Str} (h : keyD q = .str k) : q = .inr k := by
  cases q with
  | inl i => simp [keyD] at h
  | inr x => simpa [keyD] using h
theorem rpkv_any {G : Hp} (k : Str) : ∀ {l : List (Str × D)} {ps : List (Key × V)}, RpKv G (kvS l) ps → ps.length = l.length ∧ (ps.any fun kv => decide (kv.1 = Sum.inr k)) = l.any fun p => decide (p.1 = k)
  | [], ps, h => by
    simp only [kvS, List.map_nil, RpKv] at h
    subst h
    exact ⟨rfl, rfl⟩
  | (k', d) :: l, ps, h => by
    simp only [kvS, List.map_cons, RpKv] at h
    obtain ⟨q, x, t, rfl, hq, hx, ht⟩ := h
    obtain ⟨h1, h2⟩ := rpkv_any k ht
    obtain rfl := keyD_str hq
    refine ⟨by rw [List.length_cons, List.length_cons, h1], ?_⟩
    rw [List.any_cons, List.any_cons, h2]
    congr 1
    exact decide_eq_decide.mpr ⟨fun z => Sum.inr.inj z, fun z => congrArg Sum.inr z⟩
theorem rpkv_map {G : Hp} (k : Str) {d : D} {v : V} (hd : Rp G d v) : ∀ {l : List (Str × D)} {ps : List (Key × V)}, RpKv G (kvS l) ps → RpKv G (kvS (l.map fun p => if p.1 = k then (p.1, d) else p)) (ps.map fun kv => if kv.1 = Sum.inr k then (kv.1, v) else kv)
  | [], ps, h => by
    simp only [kvS, List.map_nil, RpKv] at h ⊢
    subst h
    rfl
  | (k', d') :: l, ps, h => by
    simp only [kvS, List.map_cons, RpKv] at h
    obtain ⟨q, x, t, rfl, hq, hx, ht⟩ := h
    have ih := rpkv_map k hd ht
    obtain rfl := keyD_str hq
    simp only [kvS, List.map_cons, RpKv]
    by_cases e : k' = k
    · subst e
      rw [if_pos rfl, if_pos rfl]
      exact ⟨_, _, _, rfl, rfl, hd, ih⟩
    · rw [if_neg e, if_neg (fun z => e (Sum.inr.inj z))]
      exact ⟨_, _, _, rfl, rfl, hx, ih⟩
theorem rpkv_app {G : Hp} (k : Str) {d : D} {v : V} (hd : Rp G d v) : ∀ {l : List (Str × D)} {ps : List (Key × V)}, RpKv G (kvS l) ps → RpKv G (kvS (l ++ [(k, d)])) (ps ++ [(Sum.inr k, v)])
  | [], ps, h => by
    simp only [kvS, List.map_nil, RpKv] at h
    subst h
    simp only [kvS, List.nil_append, List.map_cons, List.map_nil, RpKv]
    exact ⟨_, _, _, rfl, rfl, hd, rfl⟩
  | (k', d') :: l, ps, h => by
    simp only [kvS, List.map_cons, RpKv] at h
    obtain ⟨q, x, t, rfl, hq, hx, ht⟩ := h
    have ih := rpkv_app k hd ht
    simp only [kvS, List.cons_append, List.map_cons, RpKv]
    exact ⟨_, _, _, rfl, hq, hx, ih⟩
theorem rpkv_put {G : Hp} {k : Str} {d : D} {v : V} (hd : Rp G d v) {l : List (Str × D)} {ps : List (Key × V)} (h : RpKv G (kvS l) ps) : RpKv G (kvS (putS l k d)) (putK ps (Sum.inr k) v) := by
  unfold putS putK
  rw [(rpkv_any k h).2]
  split
  · exact rpkv_map k hd h
  · exact rpkv_app k hd h
theorem rpkv_get {G : Hp} {k : Str} {d : D} : ∀ {l : List (Str × D)} {ps : List (Key × V)}, RpKv G (kvS l) ps → getS l k = some d → ∃ v, valV ps (Sum.inr k : Key) = some v ∧ Rp G d v
  | [], ps, _, h2 => by cases h2
  | (k', d') :: l, ps, h, h2 => by
    simp only [kvS, List.map_cons, RpKv] at h
    obtain ⟨q, x, t, rfl, hq, hx, ht⟩ := h
    obtain rfl := keyD_str hq
    unfold getS at h2
    rw [List.find?_cons] at h2
    by_cases e : k' = k
    · subst e
      rw [decide_eq_true rfl] at h2
      cases h2
      exact ⟨x, valV_pos rfl, hx⟩
    · rw [decide_eq_false e] at h2
      obtain ⟨v, hv, r⟩ := rpkv_get ht (show getS l k = some d from h2)
      exact ⟨v, by rw [valV_neg (fun z => e (Sum.inr.inj z)), hv], r⟩
theorem RpAll.erase {G : Hp} : ∀ {ds : List D} {xs : List V}, RpAll G ds xs → ∀ n, RpAll G (ds.eraseIdx n) (xs.eraseIdx n)
  | [], xs, h, n => by
    simp only [RpAll] at h
    subst h
    simp only [List.eraseIdx_nil, RpAll]
  | d :: ds, xs, h, n => by
    simp only [RpAll] at h
    obtain ⟨x, r, rfl, h1, h2⟩ := h
    cases n with
    | zero => exact h2
    | succ n =>
      rw [List.eraseIdx_cons_succ, List.eraseIdx_cons_succ]
      exact RpAll.cons h1 (RpAll.erase h2 n)
/-- x = {} -/
def sOd0 (i : Nat) : DSx := fun ρ E => E.nx (ρ.set i (.od []))
/-- x, y = e, {} -/
def sParOD (i j : Nat) (o : DOx) : DSx := fun ρ E => o ρ (fun ds ρ1 => E.nx ((ρ1.set i (.ow ds)).set j (.od []))) E.ex
/-- xs.pop(e) -/
def dPop (i : Nat) (d : DEx) : DEx := fun ρ Ψ Φ => match atS ρ i with
  | .ow _ => d ρ (fun y ρ1 => match atS ρ1 i, y with
    | .ow ds, .int k => ∃ (n : Nat) (x : D), k = (n : Int) ∧ n < 2 ^ 62 ∧ ds[n]? = some x ∧ Ψ x (ρ1.set i (.ow (ds.eraseIdx n)))
    | _, _ => False) Φ
  | _ => False
/-- d[k] = v -/
def sPutO (i : Nat) (dv dk : DEx) : DSx := fun ρ E => dv ρ (fun v ρ1 => match atS ρ1 i with
  | .od _ => dk ρ1 (fun k ρ2 => match atS ρ2 i, k with
    | .od kvs, .str s => ∃ l, kvs = kvS l ∧ l.length < 1000 ∧ E.nx (ρ2.set i (.od (kvS (putS l s v))))
    | _, _ => False) E.ex
  | _ => False) E.ex
/-- d[k] -/
def dGetOd (i : Nat) (dk : DEx) : DEx := fun ρ Ψ Φ => match atS ρ i with
  | .od _ => dk ρ (fun k ρ1 => match atS ρ1 i, k with
    | .od kvs, .str s => ∃ l d, kvs = kvS l ∧ getS l s = some d ∧ Ψ d ρ1
    | _, _ => False) Φ
  | _ => False
section
variable {X : Cx} {A : Amb} {W : WX} {ca cb k i j : Nat} {e b : Expr} {d dk dv : DEx} {o : DOx} {x y : Str} {p p1 pos pos' apos spos px py pt pt2 : Pos} {kt k2 : Nat}
theorem ds_od0 (hN : X.N.Nodup) (hi : X.N[i]? = some x) (hx : Loc X.env.scope x) (hs : swapsWith (.Dict [] [] p) (some (.Name x pos')) pos.line X.env = pure false := by rfl)
    (hf : X.fn x = true ∨ X.env.scope.names.lookup x = some .local := by first | exact .inl rfl | exact .inr rfl | assumption) : DS X A W 0 (.Assign [.Name x pos'] (.Dict [] [] p) pos) (sOd0 i) :=
  ⟨PS.weak (ps_set hN hi hx pe_dnewK hs hf) fun D σ H ⟨O, G, ρ, t, E, le, R, q, ok⟩ p hp =>
    ok.nx _ _ G _ (Le.refl G) ((Rel.setOwn (R.onO hp (.dK [])) (R.hs.none_of hp).2.1 i (e := .od []) ⟨p, [], rfl, if_pos rfl, by simp only [RpKv]⟩).up (by omega)) q⟩
theorem ds_parOD (hc : X.calm = true) (hN : X.N.Nodup) (hi : X.N[i]? = some x) (hj : X.N[j]? = some y) (hij : i ≠ j) (hx : X.env.scope.names.lookup x = some .local) (hy : X.env.scope.names.lookup y = some .local) (ho : DO X A W ca e o)
    (hw : swappedStores [.Tuple [.Name x px, .Name y py] kt pt] (.Tuple [e, .Dict [] [] p] k2 pt2) X.env = pure (some [x, y])) (hs : swapsWithSole [.Tuple [.Name x px, .Name y py] kt pt] (.Tuple [e, .Dict [] [] p] k2 pt2) pos.line X.env = pure false := by rfl) (h1 : starEach [e, .Dict [] [] p] X.env = (false, eval e X.env) :: starEach [.Dict [] [] p] X.env := by rfl) (h2 : starEach [.Dict [] [] p] X.env = (false, eval (.Dict [] [] p) X.env) :: starEach [] X.env := by rfl) :
    DS X A W ca (.Assign [.Tuple [.Name x px, .Name y py] kt pt] (.Tuple [e, .Dict [] [] p] k2 pt2) pos) (sParOD i j o) :=
  ⟨PS.weak (ps_par hc hN hi hj hij hx hy (pa_cons ho.pe (pa_cons pe_dnewK pa_nil h2) h1) hw hs) fun D σ H ⟨O, G, ρ, t, E, le, R, q, ok⟩ => ⟨O, G, ρ, _, _, E.ex, by omega, R, q, fun ds ρ1 a G1 H1 l1 R1 n q1 p hp => by
    obtain ⟨xs, hO, r, R2⟩ := n.ex
    have R3 := Rel.setOwn (R2.onO hp (.dK [])) (R2.hs.none_of hp).2.1 j (e := .od []) ⟨p, [], rfl, if_pos rfl, by simp only [RpKv]⟩
    have R4 := Rel.setOwn R3 hO i (e := .ow ds) ⟨a, xs, rfl, if_pos rfl, r⟩
    rw [List.set_comm _ _ hij.symm, List.set_comm _ _ hij.symm] at R4
    exact ⟨_, _, rfl, ok.nx _ _ G1 _ l1 R4 q1⟩, (ok.ex σ).dn (by omega)⟩⟩
theorem de_pop (i : Nat) (he : DE X A W ca e d) (hN : X.N[i]? = some x := by rfl) (hv : Vis X.env.scope x := by first | exact Or.inl rfl | exact Or.inr (Or.inl rfl) | exact Or.inr (Or.inr rfl)) (hd : (x == ("__debug__" : Str)) = false := by decide) (hcd : (x == ("__classdict__" : Str)) = false := by decide)
    (hbase : attributeBase (.Name x p) "pop" X.env (eval (.Name x p) X.env) = eval (.Name x p) X.env := by rfl)
    (hfew : ((backTo pos (starEach [e] X.env)).all (fun x => !x.1) && (backToKw pos (keywordEach [] X.env)).all (fun x => x.1.isSome) && decide ([e].length + ([] : List Keyword).length + (if ([] : List Keyword).isEmpty then 0 else 1) < 30)) = true := by rfl)
    (hline : (apos.endLine == pos.line) = true := by rfl) (hs : starEach [e] X.env = (false, eval e X.env) :: starEach [] X.env := by rfl) (hplain : (backTo pos (starEach [] X.env)).any (·.1) = false := by rfl) :
    DE X A W ca (.Call (.Attribute (.Name x p) "pop" apos) [e] [] pos) (dPop i d) :=
  ⟨PE.weak (pe_bm F.plainAttrs_list F.slot_list_pop F.type_list_pop mt_popAt (pe_var hN hv hd hcd) (pa_cons he.pe pa_nil hs) hbase hfew hline hs hplain) fun σ H Q ⟨O, G, ρ, t, Ψ, Φ, le, R, q, pe, px⟩ => by
    unfold dPop at q
    cases h0 : atS ρ i with
    | ow ds0 =>
      rw [h0] at q
      obtain ⟨a, xs, e1, e2, e3, _⟩ := R.owAt (atS_get h0 (fun z => nomatch z))
      refine ⟨_, e1, .inl ⟨rfl, xs, SqL.of e2⟩, O, G, ρ, _, _, Φ, by omega, R, q, fun y ρ1 u G1 H1 l1 R1 ry q1 => ?_, px⟩
      dsimp only at q1
      cases h1 : atS ρ1 i with
      | ow ds =>
        rw [h1] at q1
        obtain ⟨a', xs', f1, f2, f3, f4⟩ := R1.owAt (atS_get h1 (fun z => nomatch z))
        rw [e1] at f1
        cases f1
        cases y with
        | int z =>
          obtain ⟨n, w, rfl, n62, hw, q2⟩ := q1
          simp only [Rp] at ry
          subst ry
          obtain ⟨v, hv, rv⟩ := RpAll.get f3 hw
          have ln := RpAll.length f3
          have nl : n < ds.length := (List.getElem?_eq_some_iff.mp hw).1
          have p62 : (2 : Int) ^ 62 < 2 ^ 63 := by decide
          have n62' : (n : Int) < 2 ^ 62 := by exact_mod_cast n62
          refine ⟨a, xs', (n : Int), n, v, rfl, rfl, f2, by omega, by omega, ?_, hv, ?_⟩
          · simp only [seqIndex?]
            rw [if_neg (show ¬ ((n : Int) < 0) by omega), if_pos (by simp; omega)]
            simp
          · exact pe w _ v G1 _ l1 (f4 (ds.eraseIdx n) (xs'.eraseIdx n) (RpAll.erase f3 n)) rv q2
        | _ => exact q1.elim
      | _ =>
        rw [h1] at q1
        exact q1.elim
    | _ =>
      rw [h0] at q
      exact q.elim⟩
theorem ds_putO (i : Nat) (hr : Room k X.A) (hv : DE X A W ca e dv) (hb : DE X A W cb b dk) (hN : X.N[i]? = some x := by rfl) (hvx : Vis X.env.scope x := by first | exact Or.inl rfl | exact Or.inr (Or.inl rfl) | exact Or.inr (Or.inr rfl)) (hd : (x == ("__debug__" : Str)) = false := by decide) (hcd : (x == ("__classdict__" : Str)) = false := by decide)
    (hs : swapsWith e (some (.Subscript (.Name x p) b pos')) pos.line X.env = pure false := by rfl) : DS X A W (ca + cb) (.Assign [.Subscript (.Name x p) b pos'] e pos) (sPutO i dv dk) :=
  ⟨PS.weak (ps_dput (hu_of hr) (pe_var hN hvx hd hcd) hb.pe hv.pe hs) fun D σ H ⟨O, G, ρ, t, E, le, R, q, ok⟩ => ⟨O, G, ρ, _, _, E.ex, by omega, R, q, fun y ρ1 v G1 H1 l1 R1 rv q1 => by
    dsimp only at q1
    cases h0 : atS ρ1 i with
    | od kv0 =>
      rw [h0] at q1
      obtain ⟨a, xs, e1, e2, e3, _⟩ := R1.odAt (atS_get h0 (fun z => nomatch z))
      refine ⟨_, e1, O, G1, ρ1, _, _, E.ex, by omega, R1, q1, fun kd ρ2 u G2 H2 l2 R2 ru q2 => ?_, ((ok.ex σ).le l1).dn (by omega)⟩
      dsimp only at q2
      cases h1 : atS ρ2 i with
      | od kvs =>
        rw [h1] at q2
        obtain ⟨a', xs', f1, f2, f3, f4⟩ := R2.odAt (atS_get h1 (fun z => nomatch z))
        rw [e1] at f1
        cases f1
        cases kd with
        | str s =>
          obtain ⟨l, rfl, few, q3⟩ := q2
          simp only [Rp] at ru
          subst ru
          have len := (rpkv_any s f3).1
          exact ⟨a, _, rfl, .inl ⟨xs', .inr s, f2, rfl, by rw [len, sizeLine_eq]; omega, rfl⟩, ok.nx _ σ G2 _ (l1.trans l2) ((f4 _ _ (rpkv_put (Rp.mono l2 _ _ rv) f3)).up (by omega)) q3⟩
        | _ => exact q2.elim
      | _ =>
        rw [h1] at q2
        exact q2.elim
    | _ =>
      rw [h0] at q1
      exact q1.elim, (ok.ex σ).dn (by omega)⟩⟩
theorem de_getOd (i : Nat) (hr : Room k X.A) (hb : DE X A W cb b dk) (hN : X.N[i]? = some x := by rfl) (hv : Vis X.env.scope x := by first | exact Or.inl rfl | exact Or.inr (Or.inl rfl) | exact Or.inr (Or.inr rfl)) (hd : (x == ("__debug__" : Str)) = false := by decide) (hcd : (x == ("__classdict__" : Str)) = false := by decide)
    (hs : NoSl b := by exact fun _ _ => rfl) : DE X A W cb (.Subscript (.Name x p) b pos) (dGetOd i dk) :=
  ⟨PE.weak (pe_dget (hu_of hr) (pe_var hN hv hd hcd) hb.pe hs) fun σ H Q ⟨O, G, ρ, t, Ψ, Φ, le, R, q, pe, px⟩ => by
    unfold dGetOd at q
    cases e : atS ρ i with
    | od kv0 =>
      rw [e] at q
      obtain ⟨a, xs0, h1, _, _, _⟩ := R.odAt (atS_get e (fun z => nomatch z))
      refine ⟨_, h1, O, G, ρ, t, _, Φ, le, R, q, fun y ρ1 u G1 H1 l1 R1 ry q1 => ?_, px⟩
      dsimp only at q1
      cases e1 : atS ρ1 i with
      | od kvs =>
        rw [e1] at q1
        obtain ⟨a1, xs, f1, f2, f3, _⟩ := R1.odAt (atS_get e1 (fun z => nomatch z))
        rw [h1] at f1
        cases f1
        cases y with
        | str s =>
          obtain ⟨l, d, rfl, hd, q2⟩ := q1
          simp only [Rp] at ry
          subst ry
          obtain ⟨v, hv, rv⟩ := rpkv_get f3 hd
          exact ⟨a, v, rfl, hv ▸ DGet.k (k := Sum.inr s) f2, pe d ρ1 v G1 H1 l1 R1 rv q2⟩
        | _ => exact q1.elim
      | _ =>
        rw [e1] at q1
        exact q1.elim
    | _ =>
      rw [e] at q
      exact q.elim⟩
end
end TM
set_option pp.deepTerms.threshold 6
namespace TM
open L2 PySem.Spec PySem PyProof.Rows
/-! ### list(text) -/
def sgV (x : Str) : List V := x.cps.toList.map fun c => V.str ⟨#[c]⟩
def rLetS : List V → Hp → VK → Prop := fun vs H Q => ∃ x : Str, vs = [V.str x] ∧ x.cps.size ≤ sizeLine ∧ ∀ p, H p = none → Q (.ref p) (upd H p (.lst (sgV x)))
section
variable {X : Cx}
theorem cr_listStr (hc : X.calm = true) : CallR X (.type "list") rLetS := by
  intro pins s σ H vs us Q I r h
  obtain ⟨x, rfl, hz, q⟩ := h
  obtain ⟨u, rfl, ru⟩ := Vals.one r
  obtain ⟨t, rfl⟩ := ru
  refine call_list_str (I.ok.hd hc) x t (fun h' tk acc c' hk e hi => ?_) hz
  refine ⟨.ref s.heap.objs.size, upd H s.heap.objs.size (.lst (sgV x)), I.laid hk (Nat.le_refl _) ⟨by unfold sgV; rw [List.length_map, Array.length_toList]; exact hz, acc.toList, c', ?_, by rw [Array.toArray_toList]; exact e⟩, rfl, q _ (I.hok.fresh (Nat.le_refl _))⟩
  refine vals_of_idx _ _ (by unfold sgV; rw [List.length_map, Array.length_toList, Array.length_toList]; exact hi.1) fun j u hj => ?_
  obtain ⟨c, t', hc, rfl⟩ := hi.2 j u (by rw [← Array.getElem?_toList]; exact hj)
  exact ⟨.str ⟨#[c]⟩, by unfold sgV; rw [List.getElem?_map, Array.getElem?_toList, hc]; rfl, ⟨_, rfl⟩⟩
end
def gListS : GOL := fun ds κ => match ds with
  | [.str x] => x.length ≤ sizeLine ∧ κ (signs x)
  | _ => False
theorem sgV_rp {G : Hp} : ∀ cs : List Nat, RpAll G (cs.map fun c => (.str ⟨#[c]⟩ : D)) (cs.map fun c => V.str ⟨#[c]⟩)
  | [] => RpAll.nil
  | c :: cs => RpAll.cons (by simp only [Rp]) (sgV_rp cs)
section
variable {X : Cx} {A : Amb} {W : WX} {ca : Nat} {a : Expr} {dr : DAx} {p pos : Pos}
theorem do_listS (hc : X.calm = true) (hm : X.mg "list" = none) (ha : DA X A W ca [a] dr) (hg : Gl X "list" := by rfl) (he : starEach [a] X.env = (false, eval a X.env) :: starEach [] X.env := by rfl) : DO X A W ca (.Call (.Name "list" p) [a] [] pos) (oCB gListS dr) :=
  do_ct (cr_listStr hc) (fun O G ρ t σ H ds vs Q κ R rv q k => by
    unfold gListS at q
    split at q
    · rename_i x
      obtain ⟨v, rfl, r⟩ := rpAll1 rv
      simp only [Rp] at r
      subst r
      refine ⟨_, rfl, q.1, fun l hl => ?_⟩
      have n4 := R.newL hl (sgV_rp (G := G) x.cps.toList)
      exact k _ l G _ (Le.refl G) n4.rel n4 q.2
    · exact q.elim) hm (by decide +kernel) ha hg (he := he)
end
/-- a walk over a text of at most n signs: the body may draw -/
def iSB (n : Nat) (d : DEx) : DIx := fun ρ Ψ Φ => d ρ (fun x ρ1 => match x with
  | .str s => (signs s).length ≤ n ∧ Ψ (signs s) ρ1
  | _ => False) Φ
theorem di_strB {X : Cx} {A : Amb} {W : WX} {ca : Nat} {tg a : Expr} {da : DEx} (n : Nat) (ha : DE X A W ca a da) : DI X A W ca (some n) tg a (iSB n da) := ⟨PI.weak (pi_str ha.pe) fun σ H Q ⟨O, G, ρ, t, Ψ, Φ, le, R, q, pi, px⟩ => ⟨O, G, ρ, t, _, Φ, by omega, R, q, fun x ρ1 v G1 H1 l1 R1 rx q1 => by
  cases x with
  | str s =>
    simp only [Rp] at rx
    exact ⟨s, rx, pi _ ρ1 G1 H1 _ l1 (R1.up (by omega)) (walk_str s) (fun _ h => by cases h; exact q1.1) q1.2⟩
  | _ => exact q1.elim, px.dn (by omega)⟩⟩
end TM
set_option pp.deepTerms.threshold 6
namespace TM
open L2 PySem.Spec PySem PyProof.Rows
section
variable {X : Cx} {A : Amb} {W : WX} {ca ci ct ce i j : Nat} {M : Option Nat} {e elt iter tg : Expr} {ifs : List Expr} {o : DOx} {di : DIx} {t : Tg} {tt : DTx} {te : DEx} {x y : Str} {p pos px py pt pt2 : Pos} {kt k2 : Nat} {scope : Scope} {own : List (Str × Nat)}
/-- a comprehension within a comprehension -/
theorem do_lcN (hc : X.calm = true) (hN : X.N.Nodup) (hi : DI X A W ci M tg iter di) (ok : blkC X.N X.env.scope scope own = true)
    (hg : ∀ (s : Shared) (H : Hp) (C : Addr) (cl : List (Str × Addr)) (fp : List Addr), DG (X.blk s H scope (compEnvC scope cl C X.env) fp) A tg t)
    (ht : ∀ (s : Shared) (H : Hp) (C : Addr) (cl : List (Str × Addr)) (fp : List Addr), DTs (X.blk s H scope (compEnvC scope cl C X.env) fp) A W0 ct ifs tt)
    (he : ∀ (s : Shared) (H : Hp) (C : Addr) (cl : List (Str × Addr)) (fp : List Addr), DE (X.blk s H scope (compEnvC scope cl C X.env) fp) A W0 ce elt te)
    (hvs : ∀ i ∈ t.slots, i ∈ own.map (·.2) := by decide) (hl : ct + ce = 0 ∨ M.isSome = true := by first | exact .inl rfl | exact .inr rfl) (hs : ∀ x, foldedSetIterable iter X.env x = pure x := by intro _; rfl) :
    DO X A W (ci + lp M (ct + ce)) (.ListComp elt [⟨tg, iter, ifs, 0⟩] scope pos) (oLc di t tt te (own.map (·.2))) :=
  ⟨PE.weak (pe_lc hc hN hi.pi (blkOk_by ok) (fun s H C cl fp => (hg s H C cl fp).pg) (fun s H C cl fp => (ht s H C cl fp).pts) (fun s H C cl fp => (he s H C cl fp).pe) hs) fun σ H Q h => lift_lc hl hvs h⟩
/-- x, y = e, {} where one of them is a cell -/
theorem ds_parODU (hc : X.calm = true) (hN : X.N.Nodup) (hi : X.N[i]? = some x) (hj : X.N[j]? = some y) (hij : i ≠ j) (hx : Loc X.env.scope x) (hy : Loc X.env.scope y) (ho : DO X A W ca e o)
    (hw : swappedStores [.Tuple [.Name x px, .Name y py] kt pt] (.Tuple [e, .Dict [] [] p] k2 pt2) X.env = pure none := by rfl) (hs : swapsWithSole [.Tuple [.Name x px, .Name y py] kt pt] (.Tuple [e, .Dict [] [] p] k2 pt2) pos.line X.env = pure false := by rfl)
    (h0 : (assignEach [.Tuple [.Name x px, .Name y py] kt pt] X.env).map (·.2) = [assign (.Tuple [.Name x px, .Name y py] kt pt) X.env] := by rfl) (h1 : starEach [e, .Dict [] [] p] X.env = (false, eval e X.env) :: starEach [.Dict [] [] p] X.env := by rfl) (h2 : starEach [.Dict [] [] p] X.env = (false, eval (.Dict [] [] p) X.env) :: starEach [] X.env := by rfl)
    (hf1 : X.fn x = true ∨ X.env.scope.names.lookup x = some .local := by first | exact .inl rfl | exact .inr rfl | assumption) (hf2 : X.fn y = true ∨ X.env.scope.names.lookup y = some .local := by first | exact .inl rfl | exact .inr rfl | assumption)
    (hn : (assignEach [.Name x px, .Name y py] X.env).length = 2 := by rfl) (hst : (assignEach [.Name x px, .Name y py] X.env).findIdx? (·.1) = none := by rfl) :
    DS X A W ca (.Assign [.Tuple [.Name x px, .Name y py] kt pt] (.Tuple [e, .Dict [] [] p] k2 pt2) pos) (sParOD i j o) :=
  ⟨PS.weak (ps_asg (pe_tup (pa_cons ho.pe (pa_cons pe_dnewK pa_nil h2) h1)) (pg_tup hc (pgs_cons (pg_name hN hi hx hf1) (pgs_cons (pg_name hN hj hy hf2) pgs_nil)) hn hst) hs hw h0) fun D σ H ⟨O, G, ρ, t, E, le, R, q, ok⟩ => ⟨O, G, ρ, _, _, E.ex, by omega, R, q, fun ds ρ1 a G1 H1 l1 R1 n q1 p hp => by
    obtain ⟨xs, hO, r, R2⟩ := n.ex
    refine ⟨by show 2 ≤ sizeLine; rw [sizeLine_eq]; omega, fun p2 hp2 => ?_⟩
    have R3 := R2.onO hp (.dK [])
    have nO := (R2.hs.none_of hp).2.1
    obtain ⟨l4, R4⟩ := R3.newfz (o := .tup [.ref a, .ref p]) hp2
    have R5 := Rel.setOwn R4 nO j (e := .od []) ⟨p, [], rfl, if_pos rfl, by simp only [RpKv]⟩
    have R6 := Rel.setOwn R5 hO i (e := .ow ds) ⟨a, xs, rfl, if_pos rfl, RpAll.mono l4 _ _ r⟩
    rw [List.set_comm _ _ hij.symm, List.set_comm _ _ hij.symm] at R6
    refine ⟨p2, [.ref a, .ref p], rfl, SqT.of upd_same, rfl, .ref a, [.ref p], rfl, .ref p, [], rfl, rfl, ?_⟩
    exact ok.nx _ _ _ _ (l1.trans l4) R6 q1, (ok.ex σ).dn (by omega)⟩⟩
end
end TM
set_option pp.deepTerms.threshold 6
namespace TM
open L2 PySem.Spec PySem PyProof.Rows
/-! ### a text in a tuple of texts -/
def gInT (neg : Bool) : G2 := fun x y κ => match x, y with
  | .str s, .tuple ds => ∃ ss : List Str, ds = ss.map .str ∧ κ (.bool (neg != ss.any fun z => z == s))
  | _, _ => False
theorem inV_strs (s : Str) : ∀ ss : List Str, inV (.str s) (ss.map V.str) = ss.any fun z => z == s
  | [] => rfl
  | n :: ns => by
    have h := inV_strs s ns
    unfold inV at h ⊢
    rw [List.map_cons, List.any_cons, List.any_cons, h]
    congr 1
theorem flat_strsV : ∀ ss : List Str, (ss.map V.str).all flatV = true
  | [] => rfl
  | n :: ns => by
    rw [List.map_cons, List.all_cons, flat_strsV ns]
    rfl
section
variable {X : Cx} {A : Amb} {W : WX} {ca cb : Nat} {a b : Expr} {da db : DEx} {pos : Pos}
theorem snd_inT (neg : Bool) : Snd2 X A (rIn X.K neg) (gInT neg) := snd2_of fun H x y v u Q κ ⟨G, l, rx, ry⟩ q k => by
  cases x with
  | str s =>
    cases y with
    | tuple ds =>
      obtain ⟨ss, rfl, q⟩ := q
      simp only [Rp] at rx ry
      subst rx
      obtain ⟨p, xs, rfl, hp, r⟩ := ry
      have e := RpAll.strs r
      subst e
      refine ⟨p, _, rfl, .inr (SqT.of (l _ _ hp)), rfl, flat_strsV ss, ?_⟩
      rw [inV_strs]
      rw [show (if neg = true then !(ss.any fun z => z == s) else ss.any fun z => z == s) = (neg != ss.any fun z => z == s) by cases neg <;> simp]
      exact k (.bool (neg != ss.any fun z => z == s)) _ (fun G => by simp only [Rp]) q
    | _ => exact q.elim
  | _ => exact q.elim
theorem de_inT (ha : DE X A W ca a da) (hb : DE X A W cb b db) (hm : behindInMarks .In b = false := by rfl) : DE X A W (ca + cb) (.Compare a [.In] [b] pos) (dOp2 (gInT false) da db) := de_cmp op_in_seq (snd_inT false) ha hb hm
theorem de_notInT (ha : DE X A W ca a da) (hb : DE X A W cb b db) (hm : behindInMarks .NotIn b = false := by rfl) : DE X A W (ca + cb) (.Compare a [.NotIn] [b] pos) (dOp2 (gInT true) da db) := de_cmp op_notIn_seq (snd_inT true) ha hb hm
theorem dt_inT (ha : DE X A W ca a da) (hb : DE X A W cb b db) (hm : behindInMarks .In b = false := by rfl) : DT X A W (ca + cb) (.Compare a [.In] [b] pos) (dTst (dOp2 (gInT false) da db)) := dt_cmp op_in_seq (snd_inT false) ha hb hm
theorem dt_notInT (ha : DE X A W ca a da) (hb : DE X A W cb b db) (hm : behindInMarks .NotIn b = false := by rfl) : DT X A W (ca + cb) (.Compare a [.NotIn] [b] pos) (dTst (dOp2 (gInT true) da db)) := dt_cmp op_notIn_seq (snd_inT true) ha hb hm
end
end TM
set_option pp.deepTerms.threshold 6
namespace TM
open L2 PySem.Spec PySem PyProof.Rows
/-! ### {k: v for t0 in i0 for t1 in i1}: the machine's loops -/
abbrev dic2 (kx vx t0 i0 t1 i1 : Expr) (scope : Scope) (pos : Pos) : Expr := .DictComp kx vx [⟨t0, i0, [], 0⟩, ⟨t1, i1, [], 0⟩] scope pos
section
variable {prog : Program} {w : World} {A : Around} {R : Result → Shared → Prop} {s : Shared} {kx vx t0 i0 t1 i1 : Expr} {scope : Scope} {pos : Pos} {it : Value} {D : Addr} {env : Env}
theorem turnT0 : compTurn (dic2 kx vx t0 i0 t1 i1 scope pos) 0 it (.ref D) env = (do
    standAt i0.pos
    let r ← pyNext it
    match r with
    | none => pure (.done .next)
    | some v => do
      letOwnedTupleGo t0 it v
      assign t0 env v
      let x ← eval i1 env
      standAt i1.pos
      let x ← foldedSetIterable i1 env x
      let j ← holding [x] (pyIter x)
      let _ ← runOwn (.compStart (dic2 kx vx t0 i0 t1 i1 scope pos) 1 j (.ref D) env) env
      again (.compLoop (dic2 kx vx t0 i0 t1 i1 scope pos) 0 it (.ref D) env)) := by rfl
theorem turnT1 : compTurn (dic2 kx vx t0 i0 t1 i1 scope pos) 1 it (.ref D) env = (do
    standAt i1.pos
    let r ← pyNext it
    match r with
    | none => pure (.done .next)
    | some v => do
      letOwnedTupleGo t1 it v
      assign t1 env v
      (do
        let kv ← eval kx env
        let vv ← holding [kv] (eval vx env)
        standAt { kx.pos with endLine := vx.pos.endLine, endCol := vx.pos.endCol }
        holding [kv, vv] (dictSet D kv vv))
      again (.compLoop (dic2 kx vx t0 i0 t1 i1 scope pos) 1 it (.ref D) env)) := by rfl
abbrev noG : Value → Shared → Prop := fun _ _ => False
theorem loopT0 (hs : ∀ x, foldedSetIterable i1 env x = pure x) (I : Nat → Shared → Prop)
    (turn : ∀ n s, I n s → wpAny (model prog w) A (pyNext it) (fun r s1 => match r with
      | none => R (.ok .next) s1
      | some v => wpAny (model prog w) A (letOwnedTupleGo t0 it v) (fun _ s2 => wpAny (model prog w) A (assign t0 env v) (fun _ s3 => wpAny (model prog w) A (eval i1 env) (fun x s4 => wpAny (model prog w) A (pyIter x) (fun j s5 =>
          codeAny (model prog w) A (.compStart (dic2 kx vx t0 i0 t1 i1 scope pos) 1 j (.ref D) env) (fun r s6 => match r with
            | .ok _ => ∃ m, m < n ∧ I m s6
            | .error _ => False) s5) noG s4) noG s3) noG s2) noG s1) noG s)
    (n : Nat) (h : I n s) : codeAny (model prog w) A (.compLoop (dic2 kx vx t0 i0 t1 i1 scope pos) 0 it (.ref D) env) R s := by
  refine codeAny_loop rfl I (fun n s hI => ?_) n h
  show wpAny _ A ((compTurn (dic2 kx vx t0 i0 t1 i1 scope pos) 0 it (.ref D) env).onRaise (fun x => do noteFrame x env; theTreesLotGoes x)) _ _ s
  refine wpAny_noted ?_
  rw [turnT0]
  refine wpAny_bind (wpAny_standAt (wpAny_bind (thnF (turn n s hI) fun r s1 h1 => ?_)))
  cases r with
  | none => exact wpAny_pure h1
  | some v =>
    refine wpAny_bind (thnF h1 fun _ s2 h2 => wpAny_bind (thnF h2 fun _ s3 h3 => wpAny_bind (thnF h3 fun x s4 h4 => ?_)))
    refine wpAny_bind (wpAny_standAt (wpAny_bind (wpAny_of_eq (hs x) (wpAny_bind (wpAny_holding (thnF h4 fun j s5 h5 => ?_))))))
    refine wpAny_bind (wpAny_runOwn ?_)
    rw [Around.mark_none]
    refine codeAny_mono h5 fun r s6 hr => ?_
    cases r with
    | ok f =>
      first
        | exact wpAny_pure ⟨rfl, hr⟩
        | exact wpAny_bind (wpAny_pure (wpAny_pure ⟨rfl, hr⟩))
    | error e => exact hr.elim
theorem loopT1 (I : Nat → Shared → Prop)
    (turn : ∀ n s, I n s → wpAny (model prog w) A (pyNext it) (fun r s1 => match r with
      | none => R (.ok .next) s1
      | some v => wpAny (model prog w) A (letOwnedTupleGo t1 it v) (fun _ s2 => wpAny (model prog w) A (assign t1 env v) (fun _ s3 => wpAny (model prog w) A (eval kx env) (fun kv s4 => wpAny (model prog w) A (eval vx env) (fun vv s5 =>
          wpAny (model prog w) A (dictSet D kv vv) (fun _ s6 => ∃ m, m < n ∧ I m s6) noG s5) noG s4) noG s3) noG s2) noG s1) noG s)
    (n : Nat) (h : I n s) : codeAny (model prog w) A (.compLoop (dic2 kx vx t0 i0 t1 i1 scope pos) 1 it (.ref D) env) R s := by
  refine codeAny_loop rfl I (fun n s hI => ?_) n h
  show wpAny _ A ((compTurn (dic2 kx vx t0 i0 t1 i1 scope pos) 1 it (.ref D) env).onRaise (fun x => do noteFrame x env; theTreesLotGoes x)) _ _ s
  refine wpAny_noted ?_
  rw [turnT1]
  refine wpAny_bind (wpAny_standAt (wpAny_bind (thnF (turn n s hI) fun r s1 h1 => ?_)))
  cases r with
  | none => exact wpAny_pure h1
  | some v =>
    refine wpAny_bind (thnF h1 fun _ s2 h2 => wpAny_bind (thnF h2 fun _ s3 h3 => wpAny_bind (wpAny_bind (thnF h3 fun kv s4 h4 => ?_))))
    exact wpAny_bind (wpAny_holding (thnF h4 fun vv s5 h5 => wpAny_bind (wpAny_standAt (wpAny_holding (thnF h5 fun _ s6 h6 => wpAny_pure ⟨rfl, h6⟩)))))
theorem startT1 (h0 : codeAny (model prog w) A (.compLoop (dic2 kx vx t0 i0 t1 i1 scope pos) 1 it (.ref D) env) R s)
    (h : wpAny (model prog w) A (pyIter it) (fun j s' => codeAny (model prog w) A (.compLoop (dic2 kx vx t0 i0 t1 i1 scope pos) 1 j (.ref D) env) R s') (notedBy (model prog w) A env fun x s' => R (.error x) s') s) :
    codeAny (model prog w) A (.compStart (dic2 kx vx t0 i0 t1 i1 scope pos) 1 it (.ref D) env) R s := by
  refine codeAny_of_tree ?_
  show wpAny _ _ ((compStart (dic2 kx vx t0 i0 t1 i1 scope pos) 1 it (.ref D) env).onRaise (fun x => do noteFrame x env; standAt theWindowsPlace)) _ _ s
  refine wpAny_notedAt ?_
  unfold compStart
  refine wpAny_bind (m := ask) (wpAny_askSetting (wpAny_ite ?_))
  split
  · first
      | exact wpAny_pure (And.intro rfl h0)
      | exact wpAny_bind (wpAny_pure (wpAny_pure (And.intro rfl h0)))
  · refine wpAny_bind (wpAny_rule ?_)
    refine wpAny_bind (m := standAt i1.pos) (wpAny_standAt ?_)
    exact wpAny_bind (wpAny_mono h (fun j s' h' => wpAny_pure (And.intro rfl h')) fun _ _ x => x)
end
end TM
set_option pp.deepTerms.threshold 6
namespace TM
open L2 PySem.Spec PySem PyProof.Rows
/-! ### {k: v for t0 in i0 for t1 in i1}, keys ints or texts -/
section
variable {X : Cx}
def tDc2 (wi : TI) (g : TG) (wi1 : TI) (g1 : TG) (tk tv : TE) (vs vs1 : List Nat) : TE := fun σ H Q => wi σ H fun J H1 => ∀ D, H1 D = none → ∃ W : Nat → Nat → Hp → Prop, (∃ m, W 0 m (upd H1 D (.dK []))) ∧ ∀ i m H2, W i m H2 →
  (J.stop i H2 ∧ Q (.ref D) H2) ∨ (J.go i H2 ∧ ∀ x H3, J.yld i H2 x H3 → g x (wipe σ vs) H3 fun σ2 H4 => wipe σ2 vs = wipe σ vs ∧ wi1 σ2 H4 fun J1 H5 => ∃ V : Nat → Nat → Hp → Prop, (∃ m1, V 0 m1 H5) ∧ ∀ i1 m1 H6, V i1 m1 H6 →
    (J1.stop i1 H6 ∧ ∃ m', m' < m ∧ W (i + 1) m' H6) ∨ (J1.go i1 H6 ∧ ∀ y H7, J1.yld i1 H6 y H7 → g1 y (wipe σ2 vs1) H7 fun σ3 H8 => wipe σ3 vs1 = wipe σ2 vs1 ∧ tk σ3 H8 fun z H9 => tv σ3 H9 fun r H10 =>
      ∃ kvs k, z = kV k ∧ H10 D = some (.dK kvs) ∧ kvs.length < sizeLine ∧ ∃ m1', m1' < m1 ∧ V (i1 + 1) m1' (upd H10 D (.dK (putK kvs k r)))))
theorem dc2_core {pins : List (Addr × Obj)} {s : Shared} {σ : L2.St} {H : Hp} {Q : VK} {kx vx t0 i0 t1 i1 : Expr} {scope : Scope} {own : List (Str × Nat)} {vs1 : List Nat} {pos pos' : Pos} {wi wi1 : TI} {g g1 : TG} {tk tv : TE} {use : Option (Value → Sem Unit)} {Qf : Value → Shared → Prop} (hc : X.calm = true) (hN : X.N.Nodup) (I : Inv X pins σ H s) (hi : PI X t0 i0 wi) (ok : BlkOk X.N X.env.scope scope own) (hv : ∀ i ∈ vs1, i ∈ own.map (·.2))
    (hg : ∀ s H C cl fp, PG (X.blk s H scope (compEnvC scope cl C X.env) fp) t0 g) (hi1 : ∀ s H C cl fp, PI (X.blk s H scope (compEnvC scope cl C X.env) fp) t1 i1 wi1) (hg1 : ∀ s H C cl fp, PG (X.blk s H scope (compEnvC scope cl C X.env) fp) t1 g1)
    (hk : ∀ s H C cl fp, PE (X.blk s H scope (compEnvC scope cl C X.env) fp) kx tk) (he : ∀ s H C cl fp, PE (X.blk s H scope (compEnvC scope cl C X.env) fp) vx tv) (hs : ∀ x, foldedSetIterable i0 X.env x = pure x) (hs1 : ∀ env x, foldedSetIterable i1 env x = pure x)
    (h : tDc2 wi g wi1 g1 tk tv (own.map (·.2)) vs1 σ H Q)
    (hRR : ∀ D C s' m H', Inv X pins σ H' s' → Q (.ref D) H' → s'.heap.Ns C m → FpOk X pins H' C → compPost (model X.prog X.w) X.A X.xe use Qf (.ref D) C (.ok .next) s') :
    wpAny (model X.prog X.w) X.A (comprehension (dic2 kx vx t0 i0 t1 i1 scope pos) scope X.env pos' newDict false (eval i0 X.env) use) Qf X.xe s := by
  have frees : ∀ y ∈ scope.names, y.2 = .free → ∃ c, X.env.cells.lookup y.1 = some c := fun y hy e => (ok.free y hy e).elim (fun k => I.ok.has _ (.inl k)) (fun k => I.ok.has _ (.inr k))
  refine wpAny_comprehension_free (use := use) rfl hs (closure_ok frees) ok.kind (fun y hy e => by rw [ok.uniq y hy, e]) (thn (hi.run pins s σ H _ I h) fun _ s1 hx => thn hx fun _ s2 h2 => ?_)
  obtain ⟨it, fp, tn, J, H2, rfl, I2, T, st2, f2, q⟩ := h2
  refine wpAny_newObj_type (newEnv_comp ?_)
  generalize hD : s2.heap.objs.size = D
  have nD : H2 D = none := I2.hok.fresh (Nat.le_of_eq hD)
  obtain ⟨W, ⟨m0, w0⟩, turn⟩ := q D nD
  generalize h3 : ({ s2 with heap := s2.heap.push { cls := .type "dict", data := .dict #[] } } : Shared) = s3
  have e3 : s3.heap = s2.heap.push { cls := .type "dict", data := .dict #[] } := by rw [← h3]
  have I3 : Inv X pins σ (upd H2 D (.dK [])) s3 := by
    rw [← h3]
    refine I2.laid (t' := s2.toks) (fun b o e => Heap.get?_push_of_some _ e) (Nat.le_of_eq hD) ?_
    rw [← hD]
    exact dk_empty s2.heap I2.big
  have low : ∀ b ∈ fp, b < s2.heap.objs.size := fun b hb => by
    obtain ⟨o, e, _⟩ := T.obj _ _ st2 b hb
    exact Heap.lt_size e
  have f3 : ∀ b ∈ fp, FpOk X pins (upd H2 D (.dK [])) b ∧ b < s3.heap.objs.size := fun b hb => by
    have lt := low b hb
    refine ⟨⟨?_, (f2 b hb).2⟩, by rw [e3, Heap.size_push]; exact Nat.lt_succ_of_lt lt⟩
    rw [upd_ne (by rw [← hD]; exact Nat.ne_of_lt lt)]
    exact (f2 b hb).1
  have st3 : tn 0 s3.heap := T.keep _ _ _ st2 fun b _ o e => by
    rw [e3]
    exact Heap.get?_push_of_some _ e
  have I4 := block_start I3 ok hN f3
  have pg := hg s3 (upd H2 D (.dK [])) s3.heap.objs.size (cellsFrom (s3.heap.objs.size + 1) scope.names (cloFrom X.env.cells scope.names [])) fp
  have pk := hk s3 (upd H2 D (.dK [])) s3.heap.objs.size (cellsFrom (s3.heap.objs.size + 1) scope.names (cloFrom X.env.cells scope.names [])) fp
  have pe := he s3 (upd H2 D (.dK [])) s3.heap.objs.size (cellsFrom (s3.heap.objs.size + 1) scope.names (cloFrom X.env.cells scope.names [])) fp
  have pi1 := hi1 s3 (upd H2 D (.dK [])) s3.heap.objs.size (cellsFrom (s3.heap.objs.size + 1) scope.names (cloFrom X.env.cells scope.names [])) fp
  have pg1 := hg1 s3 (upd H2 D (.dK [])) s3.heap.objs.size (cellsFrom (s3.heap.objs.size + 1) scope.names (cloFrom X.env.cells scope.names [])) fp
  refine (?_ : codeAny _ _ (.compStart (dic2 kx vx t0 i0 t1 i1 scope pos) 0 (.ref it) (.ref D) (compEnvC scope (cellsFrom (s3.heap.objs.size + 1) scope.names (cloFrom X.env.cells scope.names [])) s3.heap.objs.size X.env)) (compPost (model X.prog X.w) X.A X.xe use _ (.ref D) s3.heap.objs.size) { s3 with heap := pushCells (s3.heap.push { cls := .type "dict", data := .dict #[] }) scope.names })
  generalize hce : compEnvC scope (cellsFrom (s3.heap.objs.size + 1) scope.names (cloFrom X.env.cells scope.names [])) s3.heap.objs.size X.env = ce at I4 pg pk pe pi1 pg1 ⊢
  have cL : ce.locals = s3.heap.objs.size := by
    subst hce
    rfl
  have n0 : ∀ b ∈ fp, (upd H2 D (.dK [])) b = none := fun b hb => (f3 b hb).1.1
  generalize hH3 : upd H2 D (.dK []) = H3 at I3 I4 pg pk pe pi1 pg1 f3 n0 w0
  generalize h4 : ({ s3 with heap := pushCells (s3.heap.push { cls := .type "dict", data := .dict #[] }) scope.names } : Shared) = s4 at I4 ⊢
  have st4 : tn 0 s4.heap := T.keep _ _ _ st3 fun b _ o e => by
    rw [← h4]
    exact pushCells_keeps _ _ _ _ (Heap.get?_push_of_some _ e)
  have stat : ∀ {σ' : L2.St} {H' : Hp} {s' : Shared}, Inv (X.blk s3 H3 scope ce fp) [] σ' H' s' → (∀ b ∈ fp, H' b = none) → ∀ b ∈ fp, FpOk (X.blk s3 H3 scope ce fp) [] H' b := fun {σ' H' s'} J' hn b hb =>
    ⟨hn b hb, (J'.ok.exf b hb).1, J'.ok.exfs b hb, .inl hb, fun x c e => (J'.ok.exf b hb).2 x c e, fun p hp => absurd (show p ∈ ([] : List (Addr × Obj)) ++ [] from hp) (by simp)⟩
  let At : Nat → Shared → Prop := fun m s' => ∃ i H', Inv (X.blk s3 H3 scope ce fp) [] (wipe σ (own.map (·.2))) H' s' ∧ tn i s'.heap ∧ (∀ b ∈ fp, H' b = none) ∧ W i m H'
  have loop : codeAny (model X.prog X.w) X.A (.compLoop (dic2 kx vx t0 i0 t1 i1 scope pos) 0 (.ref it) (.ref D) ce) (compPost (model X.prog X.w) X.A X.xe use Qf (.ref D) s3.heap.objs.size) s4 := by
    refine loopT0 (hs1 ce) At ?_ m0 ⟨0, H3, I4, st4, n0, w0⟩
    rintro m s5 ⟨i, H5, I5, st5, n5, w5⟩
    rcases turn i m H5 w5 with ⟨stop, qq⟩ | ⟨go, step⟩
    · refine thnF (T.done (X.blk s3 H3 scope ce fp) rfl rfl rfl hc _ [] s5 _ _ (fun _ _ => False) I5 (stat I5 n5) st5 stop) fun r s6 ⟨hr, I6⟩ => ?_
      subst hr
      have I7 : Inv X pins σ H5 s6 := I3.call' (ch := fp) I6.os I6.base I6.hok I6.bare fun b hb => ⟨(f3 b hb).1.2.2.2.1, (f3 b hb).1.2.1, (f3 b hb).1.2.2.2.2.1, (f3 b hb).1.2.2.2.2.2⟩
      have nC : H5 s3.heap.objs.size = none := by
        have z : H5 ce.locals = none := I6.free
        rw [cL] at z
        exact z
      obtain ⟨k, hn, _⟩ := I6.loc
      have hn : s6.heap.Ns ce.locals k := hn
      rw [cL] at hn
      exact hRR D s3.heap.objs.size s6 k H5 I7 qq hn (I3.fpOk (H' := H5) (Nat.le_refl _) nC)
    · refine thnF (T.item (X.blk s3 H3 scope ce fp) rfl rfl rfl hc i [] s5 _ _ (fun _ _ => False) I5 (stat I5 n5) st5 go) fun r s6 ⟨u, hr, h6⟩ => ?_
      subst hr
      refine thnF h6 fun _ s7 ⟨y, H7, I7, r7, y7, st7, n7⟩ => ?_
      have J7 := I7.pinned (stat I7 n7) (T.obj _ _ st7)
      refine thnF (pg.run _ s7 _ H7 y u _ J7 r7 (step y H7 y7)) fun _ s8 ⟨σ8, H8, I8, w8, g8⟩ => ?_
      refine thnF (pi1.run _ s8 σ8 _ _ I8 g8) fun _ s9 h9 => thnF h9 fun _ s10 h10 => ?_
      obtain ⟨it1, fp1, tn1, J1, H10, rfl, I10, T1, st10, f10, V, ⟨m1, v0⟩, turn1⟩ := h10
      have stat1 : ∀ {H' : Hp}, (∀ b ∈ fp1, H' b = none) → ∀ b ∈ fp1, FpOk (X.blk s3 H3 scope ce fp) ([] ++ pinsAt fp s7.heap) H' b := fun hn b hb => ⟨hn b hb, (f10 b hb).2⟩
      have over : ∀ (s' : Shared) (σ9 : L2.St) (H' : Hp), Inv (X.blk s3 H3 scope ce fp) ([] ++ pinsAt fp s7.heap) σ9 H' s' → (wipe σ (own.map (·.2))).length = σ9.length → (∀ (j : Nat) v, (wipe σ (own.map (·.2)))[j]? = some (some v) → σ9[j]? = some (some v)) →
          (∃ m', m' < m ∧ W (i + 1) m' H') → ∃ m', m' < m ∧ At m' s' := fun s' σ9 H' I' hl hk ⟨m', lt, w'⟩ => by
        have pin' : ∀ b ∈ fp, ∀ o, s7.heap.get? b = some o → s'.heap.get? b = some o ∧ H' b = none := fun b hb o e =>
          let z := I'.pin (b, o) (List.mem_append_right _ (List.mem_append_right _ (mem_pinsAt hb e)))
          ⟨z.1, z.2.1⟩
        exact ⟨m', lt, i + 1, H', (I'.unpinned (pins := [])).weak hl hk, T.keep _ _ _ st7 fun b hb o e => (pin' b hb o e).1, fun b hb => by
          obtain ⟨o, e, _⟩ := T.obj _ _ st7 b hb
          exact (pin' b hb o e).2, w'⟩
      have hl8 : (wipe σ (own.map (·.2))).length = σ8.length := by rw [← w8, wipe_length]
      have hk9 : ∀ (j : Nat) v, (wipe σ (own.map (·.2)))[j]? = some (some v) → (wipe σ8 vs1)[j]? = some (some v) := fun j v e => by
        rw [← w8] at e
        obtain ⟨a1, a2⟩ := wipe_some e
        rw [wipe_out fun z => a2 (hv j z)]
        exact a1
      let In : Nat → Shared → Prop := fun k s' => ∃ j H', Inv (X.blk s3 H3 scope ce fp) ([] ++ pinsAt fp s7.heap) (wipe σ8 vs1) H' s' ∧ tn1 j s'.heap ∧ (∀ b ∈ fp1, H' b = none) ∧ V j k H'
      have loop1 : codeAny (model X.prog X.w) X.A (.compLoop (dic2 kx vx t0 i0 t1 i1 scope pos) 1 (.ref it1) (.ref D) ce) (fun r s6 => match r with
          | .ok _ => ∃ m', m' < m ∧ At m' s6
          | .error _ => False) s10 := by
        refine loopT1 In ?_ m1 ⟨0, H10, I10.weak (wipe_length _ _) (fun j v e => (wipe_some e).1), st10, fun b hb => (f10 b hb).1, v0⟩
        rintro k s11 ⟨j, H11, I11, st11, n11, v11⟩
        rcases turn1 j k H11 v11 with ⟨stop1, w'⟩ | ⟨go1, step1⟩
        · refine thnF (T1.done (X.blk s3 H3 scope ce fp) rfl rfl rfl hc _ _ s11 (wipe σ8 vs1) _ (fun _ _ => False) I11 (stat1 n11) st11 stop1) fun r s12 ⟨hr, I12⟩ => ?_
          subst hr
          exact over s12 _ H11 I12 (hl8.trans (wipe_length σ8 vs1).symm) hk9 w'
        · refine thnF (T1.item (X.blk s3 H3 scope ce fp) rfl rfl rfl hc j _ s11 (wipe σ8 vs1) _ (fun _ _ => False) I11 (stat1 n11) st11 go1) fun r s12 ⟨u1, hr, h12⟩ => ?_
          subst hr
          refine thnF h12 fun _ s13 ⟨y1, H13, I13, r13, y13, st13, n13⟩ => ?_
          have J13 := I13.pinned (stat1 n13) (T1.obj _ _ st13)
          refine thnF (pg1.run _ s13 (wipe σ8 vs1) H13 y1 u1 _ J13 r13 (step1 y1 H13 y13)) fun _ s14 ⟨σ14, H14, I14, w14, g14⟩ => ?_
          refine thnF (pk.run _ s14 σ14 _ _ I14 g14) fun z s15 ⟨yk, H15, I15, r15, q15⟩ => ?_
          refine thnF (pe.run _ s15 σ14 _ _ I15 q15) fun z2 s16 ⟨yv, H16, I16, r16, kvs, kk, ek, hD16, hz16, k', lt', v'⟩ => ?_
          subst ek
          refine d_dictSet (X := X.blk s3 H3 scope ce fp) I16 hD16 hz16 r15 r16 fun s17 I17 => ?_
          have pin' : ∀ b ∈ fp1, ∀ o, s13.heap.get? b = some o → s17.heap.get? b = some o ∧ (upd H16 D (.dK (putK kvs kk yv))) b = none := fun b hb o e =>
            let z := I17.pin (b, o) (List.mem_append_right _ (List.mem_append_right _ (mem_pinsAt hb e)))
            ⟨z.1, z.2.1⟩
          refine ⟨k', lt', j + 1, _, I17.unpinned.weak (by rw [← w14, wipe_length]) (fun j v e => by rw [← w14] at e; exact (wipe_some e).1), T1.keep _ _ _ st13 fun b hb o e => (pin' b hb o e).1, fun b hb => ?_, v'⟩
          obtain ⟨o, e, _⟩ := T1.obj _ _ st13 b hb
          exact (pin' b hb o e).2
      exact startT1 loop1 (T1.self X.A 0 _ _ _ st10 loop1)
  exact codeAny_compStart_dict loop (T.self X.A 0 _ _ _ st4 loop)
theorem pe_dc2 {kx vx t0 i0 t1 i1 : Expr} {scope : Scope} {own : List (Str × Nat)} {vs1 : List Nat} {pos : Pos} {wi wi1 : TI} {g g1 : TG} {tk tv : TE} (hc : X.calm = true) (hN : X.N.Nodup) (hi : PI X t0 i0 wi) (ok : BlkOk X.N X.env.scope scope own) (hv : ∀ i ∈ vs1, i ∈ own.map (·.2))
    (hg : ∀ s H C cl fp, PG (X.blk s H scope (compEnvC scope cl C X.env) fp) t0 g) (hi1 : ∀ s H C cl fp, PI (X.blk s H scope (compEnvC scope cl C X.env) fp) t1 i1 wi1) (hg1 : ∀ s H C cl fp, PG (X.blk s H scope (compEnvC scope cl C X.env) fp) t1 g1)
    (hk : ∀ s H C cl fp, PE (X.blk s H scope (compEnvC scope cl C X.env) fp) kx tk) (he : ∀ s H C cl fp, PE (X.blk s H scope (compEnvC scope cl C X.env) fp) vx tv) (hs : ∀ x, foldedSetIterable i0 X.env x = pure x := by intro _; rfl) (hs1 : ∀ env x, foldedSetIterable i1 env x = pure x := by intro _ _; rfl) :
    PE X (dic2 kx vx t0 i0 t1 i1 scope pos) (tDc2 wi g wi1 g1 tk tv (own.map (·.2)) vs1) := by
  refine ⟨fun pins s σ H Q I h => ?_⟩
  show wpAny _ _ (comprehension (dic2 kx vx t0 i0 t1 i1 scope pos) scope X.env (firstIterPos [⟨t0, i0, [], 0⟩, ⟨t1, i1, [], 0⟩] pos) newDict false (eval i0 X.env) none) _ _ s
  refine dc2_core hc hN I hi ok hv hg hi1 hg1 hk he hs hs1 h fun D C s' m H' I' q hn f => ⟨m, hn, fun h'' sb => ?_⟩
  obtain ⟨f0, f1, f2, f3, f4, f5⟩ := f
  exact ⟨.ref D, H', I'.turned (t' := s'.toks) (fun b o hb e => (sb.2 b hb).trans e) f0 f1 f3 f4 f5, rfl, q⟩
/-- name = {..} on one line, the name a local -/
theorem ps_setDc2 {i : Nat} {y : Str} {py spos : Pos} {kx vx t0 i0 t1 i1 : Expr} {scope : Scope} {own : List (Str × Nat)} {vs1 : List Nat} {pos : Pos} {wi wi1 : TI} {g g1 : TG} {tk tv : TE} (hc : X.calm = true) (hN : X.N.Nodup) (hy : X.N[i]? = some y) (hyl : X.env.scope.names.lookup y = some .local)
    (hsw : swapsWith (dic2 kx vx t0 i0 t1 i1 scope pos) (some (.Name y py)) spos.line X.env = pure true) (hi : PI X t0 i0 wi) (ok : BlkOk X.N X.env.scope scope own) (hv : ∀ i ∈ vs1, i ∈ own.map (·.2))
    (hg : ∀ s H C cl fp, PG (X.blk s H scope (compEnvC scope cl C X.env) fp) t0 g) (hi1 : ∀ s H C cl fp, PI (X.blk s H scope (compEnvC scope cl C X.env) fp) t1 i1 wi1) (hg1 : ∀ s H C cl fp, PG (X.blk s H scope (compEnvC scope cl C X.env) fp) t1 g1)
    (hk : ∀ s H C cl fp, PE (X.blk s H scope (compEnvC scope cl C X.env) fp) kx tk) (he : ∀ s H C cl fp, PE (X.blk s H scope (compEnvC scope cl C X.env) fp) vx tv) (hs : ∀ x, foldedSetIterable i0 X.env x = pure x := by intro _; rfl) (hs1 : ∀ env x, foldedSetIterable i1 env x = pure x := by intro _ _; rfl) :
    PS X (.Assign [.Name y py] (dic2 kx vx t0 i0 t1 i1 scope pos) spos) (tAsg (tDc2 wi g wi1 g1 tk tv (own.map (·.2)) vs1) (gName i)) := by
  refine ⟨fun pins s σ H D I h => ?_⟩
  rw [exec_Assign_Name_used _ _ _ _ hsw]
  refine wpAny_bind (wpAny_standAt (wpAny_bind ?_))
  show wpAny _ X.A (do let _ ← comprehension (dic2 kx vx t0 i0 t1 i1 scope pos) scope X.env (firstIterPos [⟨t0, i0, [], 0⟩, ⟨t1, i1, [], 0⟩] pos) newDict false (eval i0 X.env) (some (assign (.Name y py) X.env))) _ _ s
  have h : tDc2 wi g wi1 g1 tk tv (own.map (·.2)) vs1 σ H (fun x H1 => gName i x σ H1 D.nx) := h
  refine wpAny_bind (thn (dc2_core (Qf := fun _ s' => SP X pins D .next s') hc hN I hi ok hv hg hi1 hg1 hk he hs hs1 h fun L C s' m H' I' q hn f => ?_) fun _ s' hq => wpAny_pure (wpAny_pure hq))
  show wpAny _ _ (assign (.Name y py) X.env (.ref L)) _ _ _
  refine wpAny_assign_Name (store_ok2 (v := V.ref L) I' hN hy (.inl hyl) rfl (fun s2 I2 ⟨a, sb, ha⟩ => ?_) (.inr hyl))
  obtain ⟨f0, f1, f2, f3, f4, f5⟩ := f
  have haC : C ≠ a := by
    rcases ha with z | z
    · rw [z]; exact f1
    · exact fun e => f4 y a z e.symm
  refine ⟨m, hn.sameBut sb haC, fun h3 sb3 => ?_⟩
  exact ⟨_, H', I2.turned (t' := s2.toks) (fun b o hb e => (sb3.2 b hb).trans e) f0 f1 f3 f4 f5, q⟩
end
end TM
set_option pp.deepTerms.threshold 6
namespace TM
open L2 PySem.Spec PySem PyProof.Rows
/-! ### {k: True for t0 in i0 for t1 in i1}: the keys, in the order of their first coming -/
def insE (k : Str) (l : List Str) : List Str := if k ∈ l then l else l ++ [k]
def kvT (l : List Str) : List (Key × V) := l.map fun k => (Sum.inr k, V.bl true)
def kvB (l : List Str) : List (Str × D) := l.map fun k => (k, .bool true)
theorem kvT_rp {G : Hp} : ∀ l : List Str, RpKv G (kvS (kvB l)) (kvT l)
  | [] => by simp only [kvB, kvT, kvS, List.map_nil, RpKv]
  | k :: l => by
    have ih := kvT_rp (G := G) l
    unfold kvB kvT kvS at ih ⊢
    simp only [List.map_cons, RpKv]
    exact ⟨_, _, _, rfl, rfl, by simp only [Rp], ih⟩
theorem kvT_put (k : Str) (l : List Str) : putK (kvT l) (Sum.inr k) (V.bl true) = kvT (insE k l) := by
  have any : ((kvT l).any fun kv => decide (kv.1 = (Sum.inr k : Key))) = decide (k ∈ l) := by
    induction l with
    | nil => simp [kvT]
    | cons x l ih =>
      unfold kvT at ih ⊢
      rw [List.map_cons, List.any_cons, ih]
      by_cases e : x = k
      · subst e
        simp
      · have e2 : ¬ ((Sum.inr x : Key) = Sum.inr k) := fun z => e (Sum.inr.inj z)
        have e3 : ¬ k = x := fun z => e z.symm
        simp [e2, e3]
  unfold putK insE
  rw [any]
  by_cases h : k ∈ l
  · rw [if_pos (decide_eq_true h), if_pos h]
    unfold kvT
    rw [List.map_map]
    refine List.map_congr_left fun x _ => ?_
    show (if (Sum.inr x : Key) = Sum.inr k then ((Sum.inr x : Key), V.bl true) else ((Sum.inr x : Key), V.bl true)) = _
    split <;> rfl
  · rw [if_neg (by simpa using h), if_neg h]
    unfold kvT
    rw [List.map_append]
    rfl
def dcR1 (t1 : Tg) (dk : DEx) (vs1 : List Nat) : List D → List Str → Sl → (List Str → Sl → Prop) → Prop
  | [], acc, ρ, Ψ => Ψ acc ρ
  | d :: r, acc, ρ, Ψ => match t1.bind d (wipeS ρ vs1) with
    | some ρ2 => dk ρ2 (fun k ρ3 => match k with
      | .str s => acc.length < 100000 ∧ dcR1 t1 dk vs1 r (insE s acc) (back ρ ρ3 vs1) Ψ
      | _ => False) noX
    | none => False
def dcR0 (t0 : Tg) (i1 : DIx) (t1 : Tg) (dk : DEx) (vs vs1 : List Nat) : List D → List Str → Sl → (List Str → Sl → Prop) → Prop
  | [], acc, ρ, Ψ => Ψ acc ρ
  | d :: r, acc, ρ, Ψ => match t0.bind d (wipeS ρ vs) with
    | some ρ2 => i1 ρ2 (fun ds1 ρ3 => dcR1 t1 dk vs1 ds1 acc ρ3 fun acc' ρ4 => dcR0 t0 i1 t1 dk vs vs1 r acc' (back ρ ρ4 vs) Ψ) noX
    | none => False
/-- x = {k: True for ..} -/
def sSetDc (i : Nat) (i0 : DIx) (t0 : Tg) (i1 : DIx) (t1 : Tg) (dk : DEx) (vs vs1 : List Nat) : DSx := fun ρ E => i0 ρ (fun ds ρ1 => dcR0 t0 i1 t1 dk vs vs1 ds [] ρ1 fun acc ρ2 => E.nx (ρ2.set i (.od (kvS (kvB acc))))) E.ex
section
variable {X : Cx} {A : Amb} {W : WX} {ca c1 ck i : Nat} {M M1 : Option Nat} {kx t0 i0 t1 i1 : Expr} {scope : Scope} {own : List (Str × Nat)} {vs1 : List Nat} {j : Nat} {pv pos p' spos : Pos} {d0 d1 : DIx} {tg0 tg1 : Tg} {dk : DEx} {x : Str}
theorem ds_setDc {N' : List Str} {sc' : Scope} (hc : X.calm = true) (hN : X.N.Nodup) (hi : X.N[i]? = some x) (hx : X.env.scope.names.lookup x = some .local) (h0 : DI X A W ca M t0 i0 d0) (ok : blkC N' sc' scope own = true)
    (hg : ∀ s H C cl fp, DG (X.blk s H scope (compEnvC scope cl C X.env) fp) A t0 tg0) (h1 : ∀ s H C cl fp, DI (X.blk s H scope (compEnvC scope cl C X.env) fp) A W0 c1 M1 t1 i1 d1) (hg1 : ∀ s H C cl fp, DG (X.blk s H scope (compEnvC scope cl C X.env) fp) A t1 tg1)
    (hk : ∀ s H C cl fp, DE (X.blk s H scope (compEnvC scope cl C X.env) fp) A W0 ck kx dk) (hv : ∀ i ∈ vs1, i ∈ own.map (·.2) := by decide) (hs0 : ∀ i ∈ tg0.slots, i ∈ own.map (·.2) := by decide) (hs1 : ∀ i ∈ tg1.slots, i ∈ vs1 := by decide)
    (e1 : c1 = 0 := by rfl) (e2 : ck = 0 := by rfl) (hz : ∀ x, foldedSetIterable i0 X.env x = pure x := by intro _; rfl) (hz1 : ∀ env x, foldedSetIterable i1 env x = pure x := by intro _ _; rfl) (hNe : X.N = N' := by rfl) (hse : X.env.scope = sc' := by rfl)
    (hsw : swapsWith (dic2 kx (.Constant (.bool true) j pv) t0 i0 t1 i1 scope pos) (some (.Name x p')) spos.line X.env = pure true := by rfl) :
    DS X A W ca (.Assign [.Name x p'] (dic2 kx (.Constant (.bool true) j pv) t0 i0 t1 i1 scope pos) spos) (sSetDc i d0 tg0 d1 tg1 dk (own.map (·.2)) vs1) := by
  subst e1 e2
  refine ⟨PS.weak (ps_setDc2 (vs1 := vs1) (wi1 := liftI X.K A W0 0 M1 d1) (tk := liftE X.K A W0 0 dk) (tv := tC (.bl true)) (g := liftG X.K A tg0) (g1 := liftG X.K A tg1) hc hN hi hx hsw h0.pi (blkOk_by (by rw [hNe, hse]; exact ok)) hv (fun s H C cl fp => (hg s H C cl fp).pg) (fun s H C cl fp => (h1 s H C cl fp).pi) (fun s H C cl fp => (hg1 s H C cl fp).pg) (fun s H C cl fp => (hk s H C cl fp).pe) (fun s H C cl fp => pe_bl) hz hz1) fun E' σ H ⟨O, G, ρ, t, E, le, R, q, ok2⟩ => ?_⟩
  refine ⟨O, G, ρ, t, _, E.ex, le, R, q, fun ds ρ1 G1 H1 J l1 R1 wk bd q1 => fun D hD => ?_, ok2.ex σ⟩
  generalize own.map (·.2) = vs at hv hs0 q1 ⊢
  have hO : O D = none := (R1.hs.none_of hD).2.1
  refine ⟨fun n m H2 => m = ds.length - n ∧ n ≤ ds.length ∧ ∃ acc G2 ρ2, Le G1 G2 ∧ Rel X.K A (t + ca) (upd O D (.dK (kvT acc))) G2 ρ2 σ H2 ∧ dcR0 tg0 d1 tg1 dk vs vs1 (ds.drop n) acc ρ2 (fun acc ρ2 => E.nx (ρ2.set i (.od (kvS (kvB acc))))),
    ⟨ds.length, by simp, Nat.zero_le _, [], G1, ρ1, Le.refl _, R1.onO hD _, q1⟩, ?_⟩
  rintro n m H2 ⟨rfl, hn, acc, G2, ρ2, l2, R2, q2⟩
  by_cases hlt : n < ds.length
  · refine .inr ⟨wk.go n H2 (l2.trans R2.hs.gh) hlt, fun y H3 yl => ?_⟩
    have hd : ds[n]? = some ds[n] := List.getElem?_eq_getElem hlt
    obtain ⟨G3, l3, R3, rx⟩ := walk_turn wk l2 R2 hd yl
    rw [List.drop_eq_getElem_cons hlt] at q2
    unfold dcR0 at q2
    cases hb : tg0.bind ds[n] (wipeS ρ2 vs) with
    | none =>
      rw [hb] at q2
      exact q2.elim
    | some ρ3 =>
      rw [hb] at q2
      refine ⟨_, G3, _, _, ds[n], ρ3, R3.wipe vs, rx, hb, fun σ2 R4 w4 => ?_⟩
      have hw : wipe σ2 vs = wipe σ vs := (w4 vs hs0).trans (wipe_wipe σ vs)
      refine ⟨hw, _, G3, ρ3, _, _, noX, by omega, R4, q2, fun ds1 ρ5 G5 H5 J1 l5 R5 wk1 bd1 q5 => ?_, noX_post⟩
      refine ⟨fun n1 m1 H6 => m1 = ds1.length - n1 ∧ n1 ≤ ds1.length ∧ ∃ acc1 G6 ρ6, Le G5 G6 ∧ Rel X.K A (t + ca) (upd O D (.dK (kvT acc1))) G6 ρ6 σ2 H6 ∧ dcR1 tg1 dk vs1 (ds1.drop n1) acc1 ρ6 (fun acc' ρ4 => dcR0 tg0 d1 tg1 dk vs vs1 (ds.drop (n + 1)) acc' (back ρ2 ρ4 vs) (fun acc ρ2 => E.nx (ρ2.set i (.od (kvS (kvB acc)))))),
        ⟨ds1.length, by simp, Nat.zero_le _, acc, G5, ρ5, Le.refl _, R5.up (by omega), q5⟩, ?_⟩
      rintro n1 m1 H6 ⟨rfl, hn1, acc1, G6, ρ6, l6, R6, q6⟩
      by_cases hlt1 : n1 < ds1.length
      · refine .inr ⟨wk1.go n1 H6 (l6.trans R6.hs.gh) hlt1, fun y1 H7 yl1 => ?_⟩
        have hd1 : ds1[n1]? = some ds1[n1] := List.getElem?_eq_getElem hlt1
        obtain ⟨G7, l7, R7, ry⟩ := walk_turn wk1 l6 R6 hd1 yl1
        rw [List.drop_eq_getElem_cons hlt1] at q6
        unfold dcR1 at q6
        cases hb1 : tg1.bind ds1[n1] (wipeS ρ6 vs1) with
        | none =>
          rw [hb1] at q6
          exact q6.elim
        | some ρ7 =>
          rw [hb1] at q6
          refine ⟨_, G7, _, _, ds1[n1], ρ7, R7.wipe vs1, ry, hb1, fun σ3 R8 w8 => ?_⟩
          have hw1 : wipe σ3 vs1 = wipe σ2 vs1 := (w8 vs1 hs1).trans (wipe_wipe σ2 vs1)
          refine ⟨hw1, _, G7, ρ7, _, _, noX, by omega, R8, q6, fun z ρ9 v G9 H9 l9 R9 rz q9 => ?_, noX_post⟩
          cases z with
          | str s =>
            obtain ⟨few, q9⟩ := q9
            simp only [Rp] at rz
            subst rz
            refine ⟨kvT acc1, Sum.inr s, rfl, R9.atO.1, by unfold kvT; rw [List.length_map, sizeLine_eq]; omega, ds1.length - (n1 + 1), by omega, rfl, hlt1, insE s acc1, G9, _, l6.trans (l7.trans l9), ?_, q9⟩
            rw [kvT_put]
            exact ((R7.back l9 R9 hw1).reO _).up (by omega)
          | _ => exact q9.elim
      · have e : n1 = ds1.length := by omega
        subst e
        refine .inl ⟨wk1.stop H6 (l6.trans R6.hs.gh), ds.length - (n + 1), by omega, rfl, hlt, acc1, G6, _, ((l2.trans l3).trans l5).trans l6, (R3.reO (.dK (kvT acc1))).back (l5.trans l6) R6 hw, ?_⟩
        rw [List.drop_length] at q6
        exact q6
  · have e : n = ds.length := by omega
    subst e
    refine .inl ⟨wk.stop H2 (l2.trans R2.hs.gh), ?_⟩
    rw [List.drop_length] at q2
    exact ok2.nx _ _ G2 H2 (l1.trans l2) (Rel.setOwn R2 hO i (e := .od (kvS (kvB acc))) ⟨D, kvT acc, rfl, if_pos rfl, kvT_rp acc⟩) q2
end
end TM
set_option pp.deepTerms.threshold 6
namespace TM
open L2 PySem.Spec PySem PyProof.Rows
/-! ### list(d), d a dict of one's own; d[k], d a dict that stays -/
/-- list(x) -/
def oKeys (i : Nat) : DOx := fun ρ Ψ _ => match atS ρ i with
  | .od kvs => ∃ l : List (Str × D), kvs = kvS l ∧ Ψ (l.map fun p => .str p.1) ρ
  | _ => False
def gGetD : G2 := fun x y κ => match x, y with
  | .dict kvs, .str s => ∃ (l : List (Str × D)) (d : D), kvs = kvS l ∧ getS l s = some d ∧ κ d
  | _, _ => False
theorem keys_rp {G : Hp} : ∀ {l : List (Str × D)} {ps : List (Key × V)}, RpKv G (kvS l) ps → RpAll G (l.map fun p => (.str p.1 : D)) (ps.map fun kv => kV kv.1)
  | [], ps, h => by
    simp only [kvS, List.map_nil, RpKv] at h
    subst h
    exact RpAll.nil
  | (k, d) :: l, ps, h => by
    simp only [kvS, List.map_cons, RpKv] at h
    obtain ⟨q, x, t, rfl, hq, hx, ht⟩ := h
    obtain rfl := keyD_str hq
    exact RpAll.cons (by simp only [Rp, kV]) (keys_rp ht)
section
variable {X : Cx} {A : Amb} {W : WX} {ca cb i k : Nat} {a b : Expr} {da db : DEx} {x : Str} {p p2 pos : Pos}
theorem do_keys (i : Nat) (hc : X.calm = true) (hm : X.mg "list" = none) (hN : X.N[i]? = some x := by rfl) (hv : Vis X.env.scope x := by first | exact Or.inl rfl | exact Or.inr (Or.inl rfl) | exact Or.inr (Or.inr rfl)) (hd : (x == ("__debug__" : Str)) = false := by decide) (hcd : (x == ("__classdict__" : Str)) = false := by decide)
    (hg : Gl X "list" := by rfl) (he : starEach [.Name x p2] X.env = (false, eval (.Name x p2) X.env) :: starEach [] X.env := by rfl) : DO X A W 0 (.Call (.Name "list" p) [.Name x p2] [] pos) (oKeys i) :=
  ⟨PE.weak (pe_callTy (call_list_dK hc) hg hm (by decide +kernel) (pa_cons (pe_var hN hv hd hcd) pa_nil he) (he := he)) fun σ H Q ⟨O, G, ρ, t, Ψ, Φ, le, R, q, pe, px⟩ => by
    unfold oKeys at q
    cases e : atS ρ i with
    | od kvs =>
      rw [e] at q
      obtain ⟨l, rfl, q⟩ := q
      obtain ⟨d, ps, h1, h2, h3, _⟩ := R.odAt (atS_get e (fun z => nomatch z))
      refine ⟨_, h1, d, ps, rfl, h2, fun r hr => ?_⟩
      have n4 := R.newL hr (keys_rp h3)
      exact pe _ ρ r G _ (Le.refl G) n4.rel n4 q
    | _ =>
      rw [e] at q
      exact q.elim⟩
theorem de_getD (hr : Room k X.A) (ha : DE X A W ca a da) (hb : DE X A W cb b db) (hs : NoSl b := by exact fun _ _ => rfl) : DE X A W (ca + cb) (.Subscript a b pos) (dOp2 gGetD da db) :=
  ⟨PE.weak (pe_dget (hu_of hr) ha.pe hb.pe hs) fun σ H Q ⟨O, G, ρ, t, Ψ, Φ, le, R, q, pe, px⟩ => ⟨O, G, ρ, t, _, Φ, by omega, R, q, fun y ρ1 v G1 H1 l1 R1 rx q1 => ⟨O, G1, ρ1, _, _, Φ, by omega, R1, q1, fun z ρ2 u G2 H2 l2 R2 rz q2 => by
    cases y with
    | dict kvs =>
      cases z with
      | str s =>
        obtain ⟨l, d, rfl, hd, q3⟩ := q2
        have rx2 := Rp.mono l2 _ _ rx
        simp only [Rp] at rx2 rz
        obtain ⟨a', od, ps, rfl, hG, hk⟩ := rx2
        subst rz
        obtain ⟨w, hw, rw'⟩ := rpkv_get hk hd
        exact ⟨a', w, rfl, hw ▸ .inl ⟨ps, Sum.inr s, .inr ⟨od, R2.hs.gh _ _ hG⟩, rfl, rfl⟩, pe d ρ2 w G2 H2 (l1.trans l2) (R2.up (by omega)) rw' q3⟩
      | _ => exact q2.elim
    | _ => exact q2.elim, (px.le l1).dn (by omega)⟩, px.dn (by omega)⟩⟩
end
end TM
set_option pp.deepTerms.threshold 6
namespace TM
open L2 PySem.Spec PySem PyProof.Rows
/-! ### sorted(xs), xs a list of pairs of a number and a text -/
def PairS (h : Heap) (v : Value) (x : Int) (y : Str) : Prop := ∃ a o t u n, v = .ref a ∧ h.get? a = some o ∧ o.cls = .type "tuple" ∧ o.data = .seq #[.int x t, .str y u] n
theorem PairS.keeps {h h' : Heap} {v : Value} {x : Int} {y : Str} (p : PairS h v x y) (k : ∀ b o, h.get? b = some o → o.cls = .type "tuple" → h'.get? b = some o) : PairS h' v x y := by
  obtain ⟨a, o, t, u, n, e, ho, hc, hd⟩ := p
  exact ⟨a, o, t, u, n, e, k _ _ ho hc, hc, hd⟩
/-- by the number, then by the text -/
def ltNS (p q : Int × Str) : Bool := if p.1 = q.1 then decide (p.2.cps.toList < q.2.cps.toList) else decide (p.1 < q.1)
theorem ltNS_iff {p q : Int × Str} : ltNS p q = true ↔ p.1 < q.1 ∨ (p.1 = q.1 ∧ p.2.cps.toList < q.2.cps.toList) := by
  unfold ltNS
  by_cases e : p.1 = q.1
  · rw [if_pos e, decide_eq_true_eq]
    constructor
    · exact fun h => .inr ⟨e, h⟩
    · rintro (h | h)
      · omega
      · exact h.2
  · rw [if_neg e, decide_eq_true_eq]
    constructor
    · exact fun h => .inl h
    · rintro (h | h)
      · exact h
      · exact absurd h.1 e
theorem ltNS_no {p q : Int × Str} : ltNS p q = false ↔ ¬ (p.1 < q.1 ∨ (p.1 = q.1 ∧ p.2.cps.toList < q.2.cps.toList)) := by
  rw [← ltNS_iff]
  cases ltNS p q <;> simp
theorem swo_ns {α : Type} (k : α → Int × Str) : SrtO.Swo fun v u => ltNS (k v) (k u) := by
  refine ⟨fun x y h => ?_, fun x y z h1 h2 => ?_⟩
  · have a := ltNS_iff.mp h
    refine ltNS_no.mpr ?_
    rintro (b | ⟨e, b⟩)
    · rcases a with a | ⟨e2, a⟩ <;> omega
    · rcases a with a | ⟨e2, a⟩
      · omega
      · exact List.lt_asymm a b
  · have a := ltNS_no.mp h1
    have b := ltNS_no.mp h2
    refine ltNS_no.mpr ?_
    rintro (c | ⟨e, c⟩)
    · by_cases q : (k y).1 < (k x).1
      · exact a (.inl q)
      · exact b (.inl (by omega))
    · by_cases q : (k y).1 < (k x).1
      · exact a (.inl q)
      · by_cases q2 : (k z).1 < (k y).1
        · exact b (.inl q2)
        · have e1 : (k y).1 = (k x).1 := by omega
          have e2 : (k z).1 = (k y).1 := by omega
          have n1 : ¬ (k y).2.cps.toList < (k x).2.cps.toList := fun w => a (.inr ⟨e1, w⟩)
          have n2 : ¬ (k z).2.cps.toList < (k y).2.cps.toList := fun w => b (.inr ⟨e2, w⟩)
          exact absurd c (List.not_lt.mpr (List.le_trans (List.not_lt.mp n1) (List.not_lt.mp n2)))
section
variable {prog : Program} {w : World} {A : Around} {s : Shared}
theorem cmp_ns {vs : List Value} {k : Value → Int × Str} (hp : ∀ v ∈ vs, PairS s.heap v (k v).1 (k v).2) : SrtO.Cmp prog w A s (tuples' true) (fun p => p.1 ∈ vs) (SrtO.lt2 fun v u => ltNS (k v) (k u)) := by
  intro p q hm hm'
  have h1 := hp _ hm
  have h2 := hp _ hm'
  show wpAny (model prog w) A (keyLt' (tuples' true) p.1 q.1) (fun r s' => s' = s ∧ r = ltNS (k p.1) (k q.1)) (fun _ _ => False) s
  unfold ltNS
  generalize (k p.1).1 = x at h1 ⊢
  generalize (k p.1).2 = y at h1 ⊢
  generalize (k q.1).1 = x' at h2 ⊢
  generalize (k q.1).2 = y' at h2 ⊢
  obtain ⟨a, o, t, u, n, e, ho, hc, hd⟩ := h1
  obtain ⟨a', o', t', u', n', e', ho', hc', hd'⟩ := h2
  rw [e, e']
  refine PySem.W.kat_lt ho hd ho' hd' ?_
  show PySem.W.KatLex prog w A true (decide (2 < 2)) _ [(.int x t, .int x' t'), (.str y u, .str y' u')] 0 s
  refine PySem.W.kat_cons (SeqAt.EqAt.int_int x t x' t' prog w _ _ ?_)
  refine PySem.W.kat_go (fun e1 => ?_) (fun e1 => ?_)
  · have ex : x = x' := by simpa using e1
    refine PySem.W.kat_yes (PySem.W.kat_cons (SeqAt.EqAt.str_str y u y' u' prog w _ _ ?_))
    refine PySem.W.kat_go (fun e2 => ?_) (fun e2 => ?_)
    · have ey : y = y' := by simpa using e2
      have e3 : (if x = x' then decide (y.cps.toList < y'.cps.toList) else decide (x < x')) = false := by
        rw [if_pos ex, ey]
        exact decide_eq_false (List.lt_irrefl _)
      exact PySem.W.kat_yes (PySem.W.kat_nil ⟨rfl, e3.symm⟩)
    · have e3 : (if x = x' then decide (y.cps.toList < y'.cps.toList) else decide (x < x')) = decide (y.cps.toList < y'.cps.toList) := if_pos ex
      refine PySem.W.kat_no (PySem.W.kat_one _ _ (PyProof.Rows.lt_str ?_))
      exact (show s = s ∧ decide (y.cps.toList < y'.cps.toList) = (if x = x' then decide (y.cps.toList < y'.cps.toList) else decide (x < x')) from ⟨rfl, e3.symm⟩)
  · have ex : ¬ x = x' := by simpa using e1
    have e3 : (if x = x' then decide (y.cps.toList < y'.cps.toList) else decide (x < x')) = decide (x < x') := if_neg ex
    exact PySem.W.kat_no (oneLt_int ⟨rfl, e3.symm⟩)
theorem firsts_ns {h : Heap} : ∀ {vs : List Value}, (∀ v ∈ vs, ∃ x y, PairS h v x y) → ∃ fs : List Value, PySem.W.KatTups h vs fs ∧ fs.length = vs.length ∧ ∀ f ∈ fs, ∃ x t, f = Value.int x t
  | [], _ => ⟨[], PySem.W.KatTups.nil, rfl, fun _ hm => by simp at hm⟩
  | v :: vs, hp => by
    obtain ⟨fs, h1, h2, h3⟩ := firsts_ns (vs := vs) fun v' hm => hp v' (List.mem_cons_of_mem _ hm)
    obtain ⟨x, y, a, o, t, u, n, e, ho, hc, hd⟩ := hp v (List.mem_cons_self ..)
    subst e
    refine ⟨.int x t :: fs, PySem.W.KatTups.cons ho hc hd rfl h1, by rw [List.length_cons, List.length_cons, h2], fun f hm => ?_⟩
    rcases List.mem_cons.mp hm with rfl | hm
    · exact ⟨x, t, rfl⟩
    · exact h3 f hm
theorem able_ns {a : Addr} {vs : List Value} {k : Value → Int × Str} (h0 : 0 < vs.length) (hp : ∀ v ∈ vs, PairS s.heap v (k v).1 (k v).2) (ha : ∀ o, s.heap.get? a = some o → o.cls ≠ .type "tuple") : SrtO.SortableO prog w A s a vs fun v u => ltNS (k v) (k u) := by
  intro h' keep
  have hp' : ∀ v ∈ vs, PairS h' v (k v).1 (k v).2 := fun v hm => (hp v hm).keeps fun b o e c => keep b o (fun z => by subst z; exact ha o e c) e
  obtain ⟨fs, h1, h2, h3⟩ := firsts_ns fun v hm => ⟨_, _, hp' v hm⟩
  refine ⟨tuples' true, fun Q E hq => ?_, cmp_ns hp'⟩
  refine PySem.W.kat_kind (T := .type "int") h1 (by omega) (fun f hm => ?_) (by rfl) ?_
  · obtain ⟨x, t, rfl⟩ := h3 f hm
    exact PySem.W.Looks.now
  · have e : (Value.type "int" != Value.type "tuple") = true := by first | decide +kernel | rfl | decide
    rw [e]
    exact hq
end
def rSortNS (K : PySem.W.Frag) : List V → Hp → VK → Prop := fun vs H Q => ∃ (a : Addr) (xs : List V) (k : V → Int × Str), vs = [V.ref a] ∧ SqL K H a xs ∧ (∀ x ∈ xs, ∃ t, x = V.ref t ∧ H t = some (.tup [.int (k x).1, .str (k x).2])) ∧
  ∀ ys p, SrtO.Srtd (fun x y => ltNS (k x) (k y)) ys → ys.Perm xs → H p = none → Q (.ref p) (upd H p (.lst ys))
section
variable {X : Cx}
theorem cr_sortNS : CallR X (.builtin "sorted") (rSortNS X.K) := by
  intro pins s σ H vs us Q I r h
  obtain ⟨a, xs, k, rfl, hs, hx, q⟩ := h
  obtain ⟨its, rv, hl, hz⟩ := I.list hs
  obtain ⟨u, rfl, ru⟩ := vals1 r
  obtain rfl : u = Value.ref a := ru
  obtain ⟨e1, e2⟩ := refs_back rv fun x m => by
    obtain ⟨t, e, _⟩ := hx x m
    exact ⟨t, e⟩
  have lz : its.length ≤ sizeLine := by rw [← rv.length]; exact hz
  have hp : ∀ v ∈ its, PairS s.heap v (k (backV v)).1 (k (backV v)).2 := fun v hv => by
    obtain ⟨t, rfl⟩ := e2 v hv
    have hm : V.ref t ∈ xs := by rw [e1]; exact List.mem_map.mpr ⟨_, hv, rfl⟩
    obtain ⟨t', e, ht⟩ := hx _ hm
    cases e
    obtain ⟨_, its2, r2, o, ho, hc, n, hd⟩ := I.hok _ _ ht
    obtain ⟨u1, u2, rfl, ri, rj⟩ := vals2 r2
    obtain ⟨t1, rfl⟩ := ri
    obtain ⟨t2, rfl⟩ := rj
    exact ⟨t, o, t1, t2, n, rfl, ho, hc, hd⟩
  refine SrtO.sorted_ord (swo_ns fun v => k (backV v)) hl.isList lz (fun h2 h₁ a ha kk => ?_) fun out h1 h2 => ?_
  · refine able_ns (s := { s with heap := h₁ }) (k := fun v => k (backV v)) (by omega) (fun v hm => (hp v hm).keeps fun b o e _ => (kk b o e).2) fun o e => ?_
    have e' : some o = some (seqObj "list" its.toArray 0) := e.symm.trans ha
    cases e'
    intro c
    exact absurd (Value.type.inj c) (by decide)
  · have h3 : ∀ u ∈ out, ∃ a, u = Value.ref a := fun u hu => e2 u (h2.perm.mem_iff.mp hu)
    obtain ⟨ep, he⟩ := PyProof.Rows.sortedAll_at s.heap its out.toArray
    have pm : (out.map backV).Perm xs := by
      rw [e1]
      exact h2.perm.map backV
    refine ⟨.ref _, upd H (s.heap.objs.size + 1) (.lst (out.map backV)), I.laid (t' := s.toks) (fun _ _ => PyProof.Rows.sortedAll_old) (Nat.le_succ _) ⟨by rw [pm.length_eq]; exact hz, out, ep, vals_back h3, he⟩, rfl, q _ _ (SrtO.srtd_map h1) pm (I.hok.fresh (Nat.le_succ _))⟩
end
end TM
set_option pp.deepTerms.threshold 6
namespace TM
open L2 PySem.Spec PySem PyProof.Rows
abbrev nsD (p : Int × Str) : D := .tuple [.int p.1, .str p.2]
def gSortN : GOL := fun ds κ => match ds with
  | [.list xs] => ∃ ps : List (Int × Str), xs = ps.map nsD ∧ ∀ qs : List (Int × Str), qs.Perm ps → qs.Pairwise (fun a b => ltNS b a = false) → κ (qs.map nsD)
  | _ => False
/-- what stands at a reference -/
def nsAt (G : Hp) : V → Int × Str
  | .ref t => match G t with
    | some (.tup [.int i, .str z]) => (i, z)
    | _ => (0, "")
  | _ => (0, "")
theorem ns_at {G : Hp} : ∀ {ps : List (Int × Str)} {xs : List V}, RpAll G (ps.map nsD) xs → xs.map (nsAt G) = ps ∧ ∀ x ∈ xs, ∃ t, x = V.ref t ∧ G t = some (.tup [.int (nsAt G x).1, .str (nsAt G x).2])
  | [], xs, h => by
    simp only [List.map_nil, RpAll] at h
    subst h
    exact ⟨rfl, fun _ h => nomatch h⟩
  | (i, z) :: ps, xs, h => by
    simp only [List.map_cons, RpAll, Rp] at h
    obtain ⟨x, r, rfl, ⟨t, ys, rfl, ht, v1, w1, rfl, rfl, v2, w2, rfl, rfl, rfl⟩, hr⟩ := h
    obtain ⟨h1, h2⟩ := ns_at hr
    have e : nsAt G (.ref t) = (i, z) := by
      simp only [nsAt, ht]
    refine ⟨by rw [List.map_cons, e, h1], fun x hx => ?_⟩
    rcases List.mem_cons.mp hx with rfl | hx
    · exact ⟨t, rfl, by rw [e, ht]⟩
    · exact h2 x hx
theorem ns_rp {G : Hp} : ∀ {ys : List V}, (∀ x ∈ ys, ∃ t, x = V.ref t ∧ G t = some (.tup [.int (nsAt G x).1, .str (nsAt G x).2])) → RpAll G ((ys.map (nsAt G)).map nsD) ys
  | [], _ => RpAll.nil
  | y :: ys, h => by
    obtain ⟨t, rfl, ht⟩ := h y List.mem_cons_self
    rw [List.map_cons, List.map_cons]
    refine RpAll.cons ?_ (ns_rp fun x hx => h x (List.mem_cons_of_mem _ hx))
    simp only [Rp, RpAll]
    exact ⟨t, _, rfl, ht, _, _, rfl, rfl, _, _, rfl, rfl, rfl⟩
section
variable {X : Cx} {A : Amb} {W : WX} {ca : Nat} {a : Expr} {dr : DAx} {pos p : Pos}
theorem do_sortN (hm : X.mg "sorted" = none) (ha : DA X A W ca [a] dr) (hg : Gl X "sorted" := by rfl) (he : starEach [a] X.env = (false, eval a X.env) :: starEach [] X.env := by rfl) : DO X A W ca (.Call (.Name "sorted" p) [a] [] pos) (oCB gSortN dr) :=
  do_cb cr_sortNS (fun O G ρ t σ H ds vs Q κ R rv q k => by
    unfold gSortN at q
    split at q
    · obtain ⟨v, rfl, r⟩ := rpAll1 rv
      obtain ⟨ps, rfl, q⟩ := q
      simp only [Rp] at r
      obtain ⟨b, xs, rfl, h, r⟩ := r
      obtain ⟨e1, e2⟩ := ns_at r
      refine ⟨b, xs, nsAt G, rfl, SqL.of (R.hs.gh _ _ h), fun x hx => ?_, fun ys p2 so pm hp => ?_⟩
      · obtain ⟨t, e, ht⟩ := e2 x hx
        exact ⟨t, e, R.hs.gh _ _ ht⟩
      · have n4 := R.newL hp (ns_rp (G := G) fun x hx => e2 x (pm.mem_iff.mp hx))
        refine k _ p2 G _ (Le.refl G) n4.rel n4 (q (ys.map (nsAt G)) (by rw [← e1]; exact pm.map _) ?_)
        exact List.pairwise_map.mpr so
    · exact q.elim) hm (by decide +kernel) ha hg (he := he)
end
end TM
set_option pp.deepTerms.threshold 6
namespace TM
open L2 PySem.Spec PySem PyProof.Rows
/-! ### a dict that stays: its keys, its pairs; k in d; sorted(d) -/
theorem keyD_kV {G : Hp} (q : Key) : Rp G (keyD q) (kV q) := by
  cases q <;> simp only [keyD, kV, Rp]
theorem RpKv.get {G : Hp} : ∀ {kvs : List (D × D)} {ps : List (Key × V)} {i : Nat} {p : D × D}, RpKv G kvs ps → kvs[i]? = some p → ∃ q x, ps[i]? = some (q, x) ∧ Rp G p.1 (kV q) ∧ Rp G p.2 x
  | [], _, _, _, _, e => by simp at e
  | (k, d) :: kvs, ps, i, p, h, e => by
    simp only [RpKv] at h
    obtain ⟨q, x, t, rfl, rfl, h1, h2⟩ := h
    cases i with
    | zero =>
      simp at e
      subst e
      exact ⟨q, x, rfl, keyD_kV q, h1⟩
    | succ i =>
      obtain ⟨q', x', e1, e2⟩ := RpKv.get h2 (by simpa using e)
      exact ⟨q', x', by simpa using e1, e2⟩
def pairD (p : D × D) : D := .tuple [p.1, p.2]
/-- for k in d -/
def iDK (d : DEx) : DIx := fun ρ Ψ Φ => d ρ (fun x ρ1 => match x with
  | .dict kvs => Ψ (kvs.map (·.1)) ρ1
  | _ => False) Φ
/-- for k, v in d.items() -/
def iDI (d : DEx) : DIx := fun ρ Ψ Φ => d ρ (fun x ρ1 => match x with
  | .dict kvs => Ψ (kvs.map pairD) ρ1
  | _ => False) Φ
theorem walk_keysD {G : Hp} {a : Addr} {o : Obj} {ps : List (Key × V)} {kvs : List (D × D)} (h : G a = some (.frz o (.dK ps))) (r : RpKv G kvs ps) : WalkOk (Itk a o ps) G (kvs.map (·.1)) where
  stop := fun H l => ⟨l _ _ h, by rw [List.length_map, ← RpKv.length r]; exact Nat.le_refl _⟩
  go := fun i H l hi => ⟨l _ _ h, by rw [List.length_map, ← RpKv.length r] at hi; exact hi⟩
  yld := fun i H x H' d l hd ⟨e, k, v, e1, e2⟩ => by
    rw [List.getElem?_map] at hd
    cases q : kvs[i]? with
    | none =>
      rw [q] at hd
      cases hd
    | some p =>
      rw [q] at hd
      cases hd
      obtain ⟨k', x', f1, f2, _⟩ := RpKv.get r q
      rw [e1] at f1
      cases f1
      exact .inl ⟨e, e2 ▸ f2⟩
theorem walk_itemsD {G : Hp} {a : Addr} {o : Obj} {ps : List (Key × V)} {kvs : List (D × D)} (h : G a = some (.frz o (.dK ps))) (r : RpKv G kvs ps) : WalkOk (Iti a o ps) G (kvs.map pairD) where
  stop := fun H l => ⟨l _ _ h, by rw [List.length_map, ← RpKv.length r]; exact Nat.le_refl _⟩
  go := fun i H l hi => ⟨l _ _ h, by rw [List.length_map, ← RpKv.length r] at hi; exact hi⟩
  yld := fun i H x H' d l hd ⟨T, k, v, e1, e2, e3, e4⟩ => by
    rw [List.getElem?_map] at hd
    cases q : kvs[i]? with
    | none =>
      rw [q] at hd
      cases hd
    | some p =>
      rw [q] at hd
      cases hd
      obtain ⟨k', x', f1, f2, f3⟩ := RpKv.get r q
      rw [e1] at f1
      cases f1
      exact .inr ⟨T, _, _, e2, e3, e4, rfl, RpAll.cons f2 (RpAll.cons f3 RpAll.nil)⟩
section
variable {X : Cx} {A : Amb} {W : WX} {ca : Nat} {tg a : Expr} {da : DEx} {apos cpos tpos : Pos} {elts : List Expr} {kk : Nat}
theorem di_dk (ha : DE X A W ca a da) : DI X A W ca none tg a (iDK da) := ⟨PI.weak (pi_keys ha.pe) fun σ H Q ⟨O, G, ρ, t, Ψ, Φ, le, R, q, pi, px⟩ => ⟨O, G, ρ, t, _, Φ, by omega, R, q, fun x ρ1 v G1 H1 l1 R1 rx q1 => by
  cases x with
  | dict kvs =>
    simp only [Rp] at rx
    obtain ⟨ad, o, ps, rfl, h, r⟩ := rx
    exact ⟨ad, o, rfl, .inl ⟨ps, R1.hs.gh _ _ h, pi _ ρ1 G1 H1 _ l1 (R1.up (by omega)) (walk_keysD h r) (fun _ h => nomatch h) q1⟩⟩
  | _ => exact q1.elim, px.dn (by omega)⟩⟩
theorem di_items (ha : DE X A W ca a da) (hbase : attributeBase a "items" X.env (eval a X.env) = eval a X.env := by rfl) (hline : (apos.endLine == cpos.line) = true := by rfl) :
    DI X A W ca none (.Tuple elts kk tpos) (.Call (.Attribute a "items" apos) [] [] cpos) (iDI da) := ⟨PI.weak (pi_items ha.pe hbase hline) fun σ H Q ⟨O, G, ρ, t, Ψ, Φ, le, R, q, pi, px⟩ => ⟨O, G, ρ, t, _, Φ, by omega, R, q, fun x ρ1 v G1 H1 l1 R1 rx q1 => by
  cases x with
  | dict kvs =>
    simp only [Rp] at rx
    obtain ⟨ad, o, ps, rfl, h, r⟩ := rx
    exact ⟨ad, o, ps, rfl, R1.hs.gh _ _ h, pi _ ρ1 G1 H1 _ l1 (R1.up (by omega)) (walk_itemsD h r) (fun _ h => nomatch h) q1⟩
  | _ => exact q1.elim, px.dn (by omega)⟩⟩
end
/-! ### k in d -/
def hasS (l : List (Str × D)) (k : Str) : Bool := l.any fun p => decide (p.1 = k)
def gInD (neg : Bool) : G2 := fun x y κ => match x, y with
  | .str s, .dict kvs => ∃ l : List (Str × D), kvs = kvS l ∧ κ (.bool (neg != hasS l s))
  | _, _ => False
def rInD (neg : Bool) : R2 := fun x y H Q => ∃ a o, y = .ref a ∧ DGet H a x o ∧ Q (.bl (neg != o.isSome)) H
section
variable {X : Cx} {A : Amb} {W : WX} {ca cb k : Nat} {a b : Expr} {da db : DEx} {pos : Pos}
theorem op_inD (hu : X.A.units + 1 < cLine) : OpR X (compareOp .In) (rInD false) := fun pins s σ H x y v u Q I rx ry h => by
  obtain ⟨p, o, rfl, g, q⟩ := h
  obtain rfl : u = Value.ref p := ry
  refine d_in hu I g rx fun s3 I3 => ⟨.bl o.isSome, H, I3, rfl, ?_⟩
  have e : (false != o.isSome) = o.isSome := by cases o <;> rfl
  rw [e] at q
  exact q
theorem op_notInD (hu : X.A.units + 1 < cLine) : OpR X (compareOp .NotIn) (rInD true) := fun pins s σ H x y v u Q I rx ry h => by
  obtain ⟨p, o, rfl, g, q⟩ := h
  obtain rfl : u = Value.ref p := ry
  refine d_notIn hu I g rx fun s3 I3 => ⟨.bl (!o.isSome), H, I3, rfl, ?_⟩
  have e : (true != o.isSome) = !o.isSome := by cases o <;> rfl
  rw [e] at q
  exact q
theorem snd_inD (neg : Bool) : Snd2 X A (rInD neg) (gInD neg) := snd2_of fun H x y v u Q κ ⟨G, l, rx, ry⟩ q k => by
  cases x <;> cases y <;> simp only [gInD] at q
  obtain ⟨kvs, rfl, q⟩ := q
  rename_i s _
  simp only [Rp] at rx ry
  subst rx
  obtain ⟨p, o, ps, rfl, h, r⟩ := ry
  refine ⟨p, valV ps (Sum.inr s : Key), rfl, .inl ⟨ps, Sum.inr s, .inr ⟨o, l _ _ h⟩, rfl, rfl⟩, k (.bool (neg != (valV ps (Sum.inr s : Key)).isSome)) _ (fun _ => by simp only [Rp]) ?_⟩
  have e : (valV ps (Sum.inr s : Key)).isSome = hasS kvs s := by
    rw [← valV_any]
    exact (rpkv_any s r).2
  rw [e]
  exact q
theorem de_inD (hr : Room k X.A) (ha : DE X A W ca a da) (hb : DE X A W cb b db) (hm : behindInMarks .In b = false := by rfl) : DE X A W (ca + cb) (.Compare a [.In] [b] pos) (dOp2 (gInD false) da db) := de_cmp (op_inD (hu_of hr)) (snd_inD false) ha hb hm
theorem de_notInD (hr : Room k X.A) (ha : DE X A W ca a da) (hb : DE X A W cb b db) (hm : behindInMarks .NotIn b = false := by rfl) : DE X A W (ca + cb) (.Compare a [.NotIn] [b] pos) (dOp2 (gInD true) da db) := de_cmp (op_notInD (hu_of hr)) (snd_inD true) ha hb hm
theorem dt_inD (hr : Room k X.A) (ha : DE X A W ca a da) (hb : DE X A W cb b db) (hm : behindInMarks .In b = false := by rfl) : DT X A W (ca + cb) (.Compare a [.In] [b] pos) (dTst (dOp2 (gInD false) da db)) := dt_cmp (op_inD (hu_of hr)) (snd_inD false) ha hb hm
theorem dt_notInD (hr : Room k X.A) (ha : DE X A W ca a da) (hb : DE X A W cb b db) (hm : behindInMarks .NotIn b = false := by rfl) : DT X A W (ca + cb) (.Compare a [.NotIn] [b] pos) (dTst (dOp2 (gInD true) da db)) := dt_cmp (op_notInD (hu_of hr)) (snd_inD true) ha hb hm
end
/-! ### sorted(d) -/
def rSortedD : List V → Hp → VK → Prop := fun xs H Q => ∃ (a : Addr) (kvs : List (Key × V)) (ks : List Str), xs = [.ref a] ∧ Rd H a (.dK kvs) ∧ kvs.map (·.1) = ks.map Sum.inr ∧
  ∀ (ys : List Str) (p : Addr), ys.Perm ks → ascT ys → H p = none → Q (.ref p) (upd H p (.lst (ys.map V.str)))
theorem cr_sortedDT {X : Cx} (hcalm : X.calm = true) : CallR X (.builtin "sorted") rSortedD := by
  intro pins s σ H xs us Q I r q
  obtain ⟨a, kvs, ks, rfl, hd, hks, q⟩ := q
  obtain ⟨u, eu, rx⟩ := vals1 r
  subst eu
  cases rx
  obtain ⟨z, lo, vs, rel, dd⟩ := dk_rd I.hok hd
  obtain ⟨ep, hat⟩ := dd.dictAt
  have hkeys : vs.map (·.1) = ks.map Sum.inr := rel.keys.symm.trans hks
  have hl : vs.length = ks.length := by
    have e := congrArg List.length hkeys
    rw [List.length_map, List.length_map] at e
    exact e
  have h16 : vs.length ≤ sizeLine := by
    have := rel.length
    omega
  refine Calls.call_function_entry PyProof.Rows.kind_sorted PyProof.Rows.plain_sorted PyProof.Rows.entry_sorted (PyProof.Rows.args_sorted1 _) ?_
  unfold Builtin.«sorted»
  refine wpAny_bind (m := checkCount "sorted" 1 1 _) (wpAny_pure ?_)
  refine wpAny_bind (PySem.W.kdu_collect (A := X.A.in1) (PySem.W.kdl_dict (knd := mixKind X.prog X.w) (kvs := vs) (ep := ep) lo) (I.ok.hd hcalm) hat h16 fun h' tk acc hk hacc => ?_)
  have hal : acc.toList.length = ks.length := by rw [Array.length_toList, hacc.1, hl]
  have hS : StrsAre acc.toList ks := strs_at hal fun j v e => by
    obtain ⟨k, x, e1, e2⟩ := hacc.2 j v (by rw [← Array.getElem?_toList]; exact e)
    have e3 : (vs.map (·.1))[j]? = some k := by rw [List.getElem?_map, e1]; all_goals rfl
    rw [hkeys, List.getElem?_map] at e3
    cases e4 : ks[j]? with
    | none => rw [e4] at e3; cases e3
    | some y =>
      rw [e4] at e3
      have e5 : Sum.inr y = k := Option.some.inj e3
      subst e5
      obtain ⟨t, ev⟩ := Value.isStrOf_shape (x := y) (v := v) e2
      exact ⟨y, t, rfl, ev⟩
  have each := strs_each hS
  have vz : acc.toList.length ≤ sizeLine := by rw [hal, ← hl]; exact h16
  have I1 : Inv X pins σ H { s with heap := h', toks := tk } := I.kept hk
  refine wpAny_bind (wpAny_newList ?_ vz)
  have oL : (h'.push (seqObj "list" acc.toList.toArray 0)).get? h'.objs.size = some (seqObj "list" acc.toList.toArray 0) := Heap.get?_push_size _ rfl
  show wpAny _ _ _ _ _ { s with heap := h'.push (seqObj "list" acc.toList.toArray 0), toks := tk }
  have can : 2 ≤ acc.toList.length → SrtO.SortableO X.prog X.w X.A.in1.in1 { s with heap := h'.push (seqObj "list" acc.toList.toArray 0), toks := tk } h'.objs.size acc.toList ltT := by
    intro two h9 _
    refine ⟨oneType', fun Q E hq => ?_, fun p q hm hm' => ?_⟩
    · have : ∃ v1 v2 rest, acc.toList = v1 :: v2 :: rest := by
        match e : acc.toList, two with
        | v1 :: v2 :: rest, _ => exact ⟨_, _, _, rfl⟩
        | [], z => exact absurd z (by decide)
        | [v], z => exact absurd z (by simp)
      obtain ⟨v1, v2, rest, e⟩ := this
      have hS2 := hS
      rw [e] at hS2 ⊢
      rw [keyKind_strs hS2]
      exact wpAny_pure hq
    · obtain ⟨x, t, e⟩ := each _ hm
      obtain ⟨y, u, e'⟩ := each _ hm'
      show wpAny _ _ (keyLt' oneType' p.1 q.1) (fun r s' => s' = _ ∧ r = ltT p.1 q.1) (fun _ _ => False) _
      rw [e, e', keyLt'_oneType]
      exact oneLt_str ⟨rfl, rfl⟩
  refine wpAny_bind (wpAny_holding (wpAny_call_entry PyProof.Rows.slot_list_sort ⟨_, oL, rfl⟩ PyProof.Rows.entry_list_sort (SrtO.list_sort_ord swo_text oL vz can fun out a1 a2 => ⟨_, rfl, ?_⟩) (PyProof.Rows.args_list_sort _)))
  obtain ⟨c, hc⟩ := PyProof.Rows.sortedHeap_at (vs := acc.toList) (out := out.toArray) oL
  have ho : StrsAre out (out.map txT) := strs_back fun v m => each v (a2.perm.mem_iff.mp m)
  have pm : (out.map txT).Perm ks := by
    have := a2.perm.map txT
    rw [txT_strs hS] at this
    exact this
  have as : ascT (out.map txT) := by
    refine List.pairwise_map.mpr (List.Pairwise.imp_of_mem (fun {x y} mx my h => ?_) a1)
    obtain ⟨z, t, rfl⟩ := strs_each ho x mx
    obtain ⟨z', t', rfl⟩ := strs_each ho y my
    exact of_decide_eq_false (p := svT (.str z' t') < svT (.str z t)) h
  have hlen : ((out.map txT).map V.str).length ≤ sizeLine := by
    rw [List.length_map, pm.length_eq, ← hal]
    exact vz
  refine wpAny_pure ⟨_, rfl, .ref h'.objs.size, upd H h'.objs.size (.lst ((out.map txT).map V.str)), I1.laid (t' := tk) (fun b u e => ?_) (Nat.le_refl _)
    (show ObjOk X.prog X.w _ _ _ (.lst ((out.map txT).map V.str)) from ⟨hlen, out, c, vals_of_strs ho, hc⟩), rfl, q _ _ pm as (I1.hok.fresh (Nat.le_refl _))⟩
  have hb : b < h'.objs.size := Heap.lt_size e
  rw [PyProof.Rows.sortedHeap_old (Nat.ne_of_lt hb) (by rw [size_push']; exact Nat.lt_succ_of_lt hb)]
  exact Heap.get?_push_of_some _ e
def gSortD : GOL := fun ds κ => match ds with
  | [.dict kvs] => ∃ l : List (Str × D), kvs = kvS l ∧ ∀ ys : List Str, ys.Perm (l.map (·.1)) → ascT ys → κ (ys.map .str)
  | _ => False
theorem keys_str {G : Hp} : ∀ {l : List (Str × D)} {ps : List (Key × V)}, RpKv G (kvS l) ps → ps.map (·.1) = (l.map (·.1)).map Sum.inr
  | [], ps, h => by
    simp only [kvS, List.map_nil, RpKv] at h
    subst h
    rfl
  | (k, d) :: l, ps, h => by
    simp only [kvS, List.map_cons, RpKv] at h
    obtain ⟨q, x, t, rfl, hq, hx, ht⟩ := h
    obtain rfl := keyD_str hq
    rw [List.map_cons, List.map_cons, List.map_cons, keys_str ht]
section
variable {X : Cx} {A : Amb} {W : WX} {ca : Nat} {a : Expr} {dr : DAx} {pos p : Pos}
theorem do_sortD (hc : X.calm = true) (hm : X.mg "sorted" = none) (ha : DA X A W ca [a] dr) (hg : Gl X "sorted" := by rfl) (he : starEach [a] X.env = (false, eval a X.env) :: starEach [] X.env := by rfl) : DO X A W ca (.Call (.Name "sorted" p) [a] [] pos) (oCB gSortD dr) :=
  do_cb (cr_sortedDT hc) (fun O G ρ t σ H ds vs Q κ R rv q k => by
    unfold gSortD at q
    split at q
    · obtain ⟨v, rfl, r⟩ := rpAll1 rv
      obtain ⟨l, rfl, q⟩ := q
      simp only [Rp] at r
      obtain ⟨b, od, ps, rfl, h, r⟩ := r
      refine ⟨b, ps, l.map (·.1), rfl, .inr ⟨od, R.hs.gh _ _ h⟩, keys_str r, fun ys p2 pm as hp => ?_⟩
      have ra : RpAll G (ys.map PyData.str) (ys.map V.str) := by
        clear pm as q hp
        induction ys with
        | nil => exact RpAll.nil
        | cons y ys ih => exact RpAll.cons (by simp only [Rp]) ih
      have n4 := R.newL hp ra
      exact k _ p2 G _ (Le.refl G) (n4.rel.up (by omega)) (n4.up (by omega)) (q ys pm as)
    · exact q.elim) hm (by decide +kernel) ha hg (he := he)
end
end TM
set_option pp.deepTerms.threshold 6
namespace TM
open L2 PySem.Spec PySem PyProof.Rows
/-! ### defs with defaults -/
/-- a default as data: None, a bool -/
def dflE : V → Option Ent
  | .non => some (.fz .none)
  | .bl b => some (.fz (.bool b))
  | _ => none
def dflEs (vs : List V) : List Ent := vs.filterMap dflE
def dflOk (vs : List V) : Prop := ∀ v ∈ vs, (dflE v).isSome = true
theorem dfl_args {K : PySem.W.Frag} {A : Amb} {G : Hp} : ∀ {vs : List V}, dflOk vs → ArgsAt K A G (dflEs vs) vs
  | [], _ => rfl
  | v :: vs, h => by
    have ih := dfl_args (K := K) (A := A) (G := G) (vs := vs) fun x hx => h x (List.mem_cons_of_mem v hx)
    have hv := h v List.mem_cons_self
    unfold dflEs at ih ⊢
    cases v <;> simp only [dflE, Option.isSome_none, Option.isSome_some] at hv <;> first | cases hv | skip
    all_goals
      refine ⟨_, _, rfl, ?_, ih⟩
      simp only [ArgAt, Rp]
theorem args_app {K : PySem.W.Frag} {A : Amb} {G : Hp} : ∀ {es : List Ent} {vs : List V} {es' : List Ent} {vs' : List V}, ArgsAt K A G es vs → ArgsAt K A G es' vs' → ArgsAt K A G (es ++ es') (vs ++ vs')
  | [], vs, es', vs', h, h' => by
    rw [show vs = [] from h]
    exact h'
  | e :: es, vs, es', vs', h, h' => by
    obtain ⟨v, r, rfl, h1, h2⟩ := h
    exact ⟨v, _, rfl, h1, args_app h2 h'⟩
/-- called with the last ones left to their defaults -/
def dfSp (des : List Ent) (sp : DSp) : DSp := fun es Ψ Φ => sp (es ++ des) Ψ Φ
/-- called by keywords, the others left to their defaults: is: places in the values given and the defaults -/
def kwSpD (n : Nat) (is : List Nat) (des : List Ent) (sp : DSp) : DSp := fun es Ψ Φ => es.length = n ∧ sp (gP is (es ++ des)) Ψ Φ
def gPD {α : Type} (n : Nat) (is : List Nat) (ds : List α) (us ws : List α) : List α := if us.isEmpty && ws.length == n then gP is (ws ++ ds) else []
structure FnDf (X : Cx) (A : Amb) (cf k : Nat) (x : Str) (ps : List Str) (dvs : List V) (sp : DSp) : Prop where
  ex : ∃ f fd ds, FnOk X.prog X.w X.K X.mg X.base (L2.CX X.prog X.w) k f fd ps (liftSp X.K A cf sp) ∧ X.mg x = some (.ref f) ∧ PySem.W.keepIn X.K (.ref f) = true ∧ Binds X.K fd ps ds ∧ Vals dvs ds ∧ dflOk dvs
structure FkDf (X : Cx) (A : Amb) (cf k : Nat) (x : Str) (ps ks : List Str) (is : List Nat) (dvs : List V) (sp : DSp) : Prop where
  ex : ∃ f fd ds, FnOk X.prog X.w X.K X.mg X.base (L2.CX X.prog X.w) k f fd ps (liftSp X.K A cf sp) ∧ X.mg x = some (.ref f) ∧ PySem.W.keepIn X.K (.ref f) = true ∧ KBinds X.K fd ps ks (gPD ks.length is ds) (gPD ks.length is dvs) ∧ dflOk dvs
theorem lift_df {cf : Nat} {K : PySem.W.Frag} {A : Amb} {sp : DSp} {dvs : List V} (ok : dflOk dvs) : ∀ vs H Q E, liftSp K A cf (dfSp (dflEs dvs) sp) vs H Q E → liftSp K A cf sp (vs ++ dvs) H Q E :=
  fun vs H Q E ⟨O, G, es, t, Ψ, Φ, le, hs, as, q, r⟩ => ⟨O, G, es ++ dflEs dvs, t, Ψ, Φ, le, hs, args_app as (dfl_args ok), q, r⟩
theorem lift_kwd {cf n : Nat} {K : PySem.W.Frag} {A : Amb} {sp : DSp} {is : List Nat} {dvs : List V} (ok : dflOk dvs) : ∀ vs H Q E, liftSp K A cf (kwSpD n is (dflEs dvs) sp) vs H Q E → liftSp K A cf sp (gPD n is dvs [] vs) H Q E :=
  fun vs H Q E ⟨O, G, es, t, Ψ, Φ, le, hs, as, ⟨hn, q⟩, r⟩ => ⟨O, G, gP is (es ++ dflEs dvs), t, Ψ, Φ, le, hs, by
    have e : gPD n is dvs [] vs = gP is (vs ++ dvs) := by
      unfold gPD
      rw [as.length, hn]
      simp
    rw [e]
    exact argsP (args_app as (dfl_args ok)) is, q, r⟩
section
variable {X : Cx} {A : Amb} {W : WX} {ca cf k : Nat} {a : Expr} {es : List Expr} {dr : DAx} {pos p : Pos} {ps ks : List Str} {is : List Nat} {sp : DSp} {x : Str} {dvs : List V} {des : List Ent} {kws : List Keyword}
theorem de_callDf {j : Nat} (F : FnDf X A cf j x ps dvs sp) (hr : Room k X.A) (tk : Takes X W) (ha : DA X A W ca (a :: es) dr) (hg : Gl X x := by rfl) (hjk : j ≤ k := by decide) (hdb : (x == ("__debug__" : Str)) = false := by decide) (he : starEach (a :: es) X.env = (false, eval a X.env) :: starEach es X.env := by rfl)
    (hpl : (backTo pos (starEach es X.env)).any (·.1) = false := by rfl) (hde : dflEs dvs = des := by rfl) : DE X A W (ca + cf) (.Call (.Name x p) (a :: es) [] pos) (dCall (dfSp des sp) dr) := by
  subst hde
  obtain ⟨f, fd, ds, F1, hm, hk, hb, hv, ok⟩ := F.ex
  exact ⟨PE.weak (pe_callSD F1 (hr.mono hjk) hg hm hk hb hv (passAt tk) ha.pa hdb he hpl).lk fun σ H Q h => by
    have h := lift_call h
    exact liftA_mono _ _ _ _ (fun vs H q => lift_df ok _ _ _ _ q) h⟩
theorem do_callDf {j : Nat} (F : FnDf X A cf j x ps dvs sp) (hr : Room k X.A) (tk : Takes X W) (ha : DA X A W ca (a :: es) dr) (hg : Gl X x := by rfl) (hjk : j ≤ k := by decide) (hdb : (x == ("__debug__" : Str)) = false := by decide) (he : starEach (a :: es) X.env = (false, eval a X.env) :: starEach es X.env := by rfl)
    (hpl : (backTo pos (starEach es X.env)).any (·.1) = false := by rfl) (hde : dflEs dvs = des := by rfl) : DO X A W (ca + cf) (.Call (.Name x p) (a :: es) [] pos) (oCall (dfSp des sp) dr) := by
  subst hde
  obtain ⟨f, fd, ds, F1, hm, hk, hb, hv, ok⟩ := F.ex
  exact ⟨PE.weak (pe_callSD F1 (hr.mono hjk) hg hm hk hb hv (passAt tk) ha.pa hdb he hpl) fun σ H Q h => by
    have h := lift_ocall h
    exact liftA_mono _ _ _ _ (fun vs H q => lift_df ok _ _ _ _ q) h⟩
theorem de_callKwDf {j n : Nat} (F : FkDf X A cf j x ps ks is dvs sp) (hr : Room k X.A) (tk : Takes X W) (ha : DK X A W ca kws dr) (hg : Gl X x := by rfl) (hjk : j ≤ k := by decide) (hall : (backToKw pos (keywordEach kws X.env)).all (·.1.isSome) = true := by rfl) (hks : (backToKw pos (keywordEach kws X.env)).filterMap (·.1) = ks := by rfl)
    (hdb : (x == ("__debug__" : Str)) = false := by decide) (hpl : ((backTo pos (starEach [] X.env)).any (·.1) || (backToKw pos (keywordEach kws X.env)).any (·.1.isNone)) = false := by rfl) (hde : dflEs dvs = des := by rfl) (hn : ks.length = n := by rfl) : DE X A W (ca + cf) (.Call (.Name x p) [] kws pos) (dCall (kwSpD n is des sp) dr) := by
  subst hde hn
  obtain ⟨f, fd, ds, F1, hm, hk, hb, ok⟩ := F.ex
  exact ⟨PE.weak (pe_callKW0 F1 (hr.mono hjk) hg hm hk hb (passAt tk) ha.pk hall hks hdb hpl).lk fun σ H Q h => by
    have h := lift_call h
    exact liftA_mono _ _ _ _ (fun vs H q => lift_kwd ok _ _ _ _ q) h⟩
theorem do_callKwDf {j n : Nat} (F : FkDf X A cf j x ps ks is dvs sp) (hr : Room k X.A) (tk : Takes X W) (ha : DK X A W ca kws dr) (hg : Gl X x := by rfl) (hjk : j ≤ k := by decide) (hall : (backToKw pos (keywordEach kws X.env)).all (·.1.isSome) = true := by rfl) (hks : (backToKw pos (keywordEach kws X.env)).filterMap (·.1) = ks := by rfl)
    (hdb : (x == ("__debug__" : Str)) = false := by decide) (hpl : ((backTo pos (starEach [] X.env)).any (·.1) || (backToKw pos (keywordEach kws X.env)).any (·.1.isNone)) = false := by rfl) (hde : dflEs dvs = des := by rfl) (hn : ks.length = n := by rfl) : DO X A W (ca + cf) (.Call (.Name x p) [] kws pos) (oCall (kwSpD n is des sp) dr) := by
  subst hde hn
  obtain ⟨f, fd, ds, F1, hm, hk, hb, ok⟩ := F.ex
  exact ⟨PE.weak (pe_callKW0 F1 (hr.mono hjk) hg hm hk hb (passAt tk) ha.pk hall hks hdb hpl) fun σ H Q h => by
    have h := lift_ocall h
    exact liftA_mono _ _ _ _ (fun vs H q => lift_kwd ok _ _ _ _ q) h⟩
end
section
variable (P : Program) (w : World) (K : PySem.W.Frag) (mg : Str → Option Value) (base : Heap)
def FnDD (A : Amb) (cf k : Nat) (x : Str) (ps : List Str) (dvs : List V) (sp : DSp) : Prop := ∃ f fd ds, FnOk P w K mg base (L2.CX P w) k f fd ps (liftSp K A cf sp) ∧ mg x = some (.ref f) ∧ PySem.W.keepIn K (.ref f) = true ∧ Binds K fd ps ds ∧ Vals dvs ds ∧ dflOk dvs
def FkDD (A : Amb) (cf k : Nat) (x : Str) (ps ks : List Str) (is : List Nat) (dvs : List V) (sp : DSp) : Prop := ∃ f fd ds, FnOk P w K mg base (L2.CX P w) k f fd ps (liftSp K A cf sp) ∧ mg x = some (.ref f) ∧ PySem.W.keepIn K (.ref f) = true ∧ KBinds K fd ps ks (gPD ks.length is ds) (gPD ks.length is dvs) ∧ dflOk dvs
end
section
variable {P : Program} {w : World} {K : PySem.W.Frag} {mg : Str → Option Value} {base : Heap} {A : Amb} {cf k : Nat} {x : Str} {ps ks : List Str} {is : List Nat} {sp : DSp} {dvs : List V}
theorem FnDD.fn {X : Cx} (h : FnDD X.prog X.w X.K X.mg X.base A cf k x ps dvs sp) : FnDf X A cf k x ps dvs sp := ⟨h⟩
theorem FkDD.fk {X : Cx} (h : FkDD X.prog X.w X.K X.mg X.base A cf k x ps ks is dvs sp) : FkDf X A cf k x ps ks is dvs sp := ⟨h⟩
variable {qual : Str} {params : Arguments} {body : List Stmt} {scope : Scope} {f : Addr} {fd : FuncData} {N : List Str} {den : DSx}
theorem fn_okD {kws : List (Str × V)} (F : FunD K x qual params body scope dvs kws f fd) (S : FnScope N ps scope) (hb : Der P w K mg base A k N qual scope cf body den)
    (rd : ∀ es Ψ Φ, sp es Ψ Φ → es.length = ps.length ∧ den (es ++ List.replicate (N.length - es.length) .un) { nx := fun _ => Ψ (.fz .none), rt := Ψ, ex := fun c p _ => Φ c p }) : FnOk P w K mg base (L2.CX P w) (k + 1) f fd ps (liftSp K A cf sp) :=
  fn_ok F S (fun cdv Ar outer s H E hr => hb f cdv Ar outer s H E hr) rd
/-- every parameter is written -/
theorem FnD.ofD {kws : List (Str × V)} (h : FnOk P w K mg base (L2.CX P w) k f fd ps (liftSp K A cf sp)) (F : FunD K x qual params body scope dvs kws f fd) (hm : mg x = some (.ref f)) (hd : dvs ≠ [])
    (hbd : ∀ (T : Addr) (kV doc pm : Value) (an : Option Addr) (cdv ct : Value) (us its : List Value), us.length = ps.length → its.length = dvs.length →
      ∃ k, bindArgs (PySem.W.fnOf x qual params body scope (.ref T) kV doc pm an cdv ct) ⟨us, []⟩ = seqItems? (.ref T) >>= k ∧ k (some its.toArray) = pure (ps.zip (us ++ its.drop dvs.length))) : FnD P w K mg base A cf k x ps sp := by
  obtain ⟨ds, hv, hb⟩ := F.binds1 ps.length dvs.length hd (by omega) hbd
  rw [List.drop_length] at hv
  cases hv
  exact ⟨f, fd, h, hm, F.kp, hb⟩
/-- n parameters are written, j defaults are behind them -/
theorem FnDD.of {kws : List (Str × V)} (n j : Nat) (h : FnOk P w K mg base (L2.CX P w) k f fd ps (liftSp K A cf sp)) (F : FunD K x qual params body scope dvs kws f fd) (hm : mg x = some (.ref f)) (hd : dvs ≠ []) (ok : dflOk (dvs.drop j)) (hn : n + (dvs.length - j) = ps.length)
    (hbd : ∀ (T : Addr) (kV doc pm : Value) (an : Option Addr) (cdv ct : Value) (us its : List Value), us.length = n → its.length = dvs.length →
      ∃ k, bindArgs (PySem.W.fnOf x qual params body scope (.ref T) kV doc pm an cdv ct) ⟨us, []⟩ = seqItems? (.ref T) >>= k ∧ k (some its.toArray) = pure (ps.zip (us ++ its.drop j))) : FnDD P w K mg base A cf k x ps (dvs.drop j) sp := by
  obtain ⟨ds, hv, hb⟩ := F.binds1 n j hd hn hbd
  exact ⟨f, fd, ds, h, hm, F.kp, hb, hv, ok⟩
theorem FkDD.of {kws : List (Str × V)} (h : FnOk P w K mg base (L2.CX P w) k f fd ps (liftSp K A cf sp)) (F : FunD K x qual params body scope dvs kws f fd) (hm : mg x = some (.ref f)) (hd : dvs ≠ []) (ok : dflOk dvs) (hp : ps ≠ [])
    (hbd : ∀ (T : Addr) (kV doc pm : Value) (an : Option Addr) (cdv ct : Value) (ws its : List Value), its.length = dvs.length → ws.length = ks.length →
      ∃ k, bindArgs (PySem.W.fnOf x qual params body scope (.ref T) kV doc pm an cdv ct) ⟨[], ks.zip ws⟩ = seqItems? (.ref T) >>= k ∧ k (some its.toArray) = pure (ps.zip (gP is (ws ++ its)))) : FkDD P w K mg base A cf k x ps ks is dvs sp := by
  obtain ⟨oc, od, dV, kV, doc, pm, an, cdv, ct, osl, rfl, lk, hcd, hD, hK⟩ := F.ex
  rcases hD with ⟨e, _⟩ | ⟨_, T, o, its, m, rfl, lT, oT, rT⟩
  · exact absurd e hd
  have nil : ([] : List Value).length ≠ ps.length := fun z => hp (List.eq_nil_of_length_eq_zero z.symm)
  refine ⟨f, _, its, h, hm, F.kp, ⟨fun s us ws X hl => ?_, fun {vs us zs ws} r r2 => ?_⟩, ok⟩
  · unfold gPD at hl ⊢
    split at hl
    · rename_i c
      rw [Bool.and_eq_true, beq_iff_eq, List.isEmpty_iff] at c
      obtain ⟨rfl, c2⟩ := c
      obtain ⟨k', e1, e2⟩ := hbd T kV doc pm an cdv ct ws its rT.length.symm c2
      rw [if_pos (by simp [c2])]
      refine BindsTo.of_looks fun M => ?_
      rw [e1]
      exact looks_items X lT oT (.of_pure e2)
    · exact absurd hl nil
  · unfold gPD
    rw [r2.length]
    cases r with
    | nil =>
      cases q : ws.length == ks.length with
      | true => exact gP_rel (r2.append rT) is
      | false => exact Paired.nil
    | cons _ _ => exact Paired.nil
end
/-! ### what is one's own is given away before a statement -/
def tLkS (t : TS) : TS := fun D σ H => t D σ H ∨ ∃ d u, H d = some u ∧ Mut (some u) ∧ ∀ od, t D σ (upd H d (.frz od u))
theorem _root_.L2.PS.lk {X : Cx} {st : Stmt} {t : TS} (h : PS X st t) : PS X st (tLkS t) := ⟨fun pins s σ H D I q => by
  rcases q with q | ⟨d, u, hd, mu, q⟩
  · exact h.run pins s σ H D I q
  · obtain ⟨od, I2⟩ := I.lock hd mu
    exact h.run pins s σ _ D I2 (q od)⟩
def sFrz (i : Nat) (d : DSx) : DSx := fun ρ E => match atS ρ i with
  | .ow ds => d (ρ.set i (.fz (.list ds))) E
  | .od kvs => d (ρ.set i (.fz (.dict kvs))) E
  | _ => False
theorem ds_frz {X : Cx} {A : Amb} {W : WX} {c : Nat} {st : Stmt} {d : DSx} (i : Nat) (h : DS X A W c st d) : DS X A W c st (sFrz i d) :=
  ⟨PS.weak h.ps.lk fun D σ H ⟨O, G, ρ, t, E, le, R, q, ok⟩ => by
    unfold sFrz at q
    cases e : atS ρ i with
    | ow ds =>
      rw [e] at q
      obtain ⟨v, G', h1, l, r, R'⟩ := R.give (d := .list ds) (atS_get e (fun z => nomatch z)) fun P ⟨a, xs, h1, h2, h3⟩ => ⟨a, _, h1, h2, fun G' l e => by
        simp only [Rp]
        exact ⟨a, xs, rfl, e, RpAll.mono l _ _ h3⟩⟩
      exact .inl ⟨O, G', _, t, E, le, R', q, ok.le l⟩
    | od kvs =>
      rw [e] at q
      obtain ⟨a, ps, h1, hH, k⟩ := R.lockOd (atS_get e (fun z => nomatch z))
      refine .inr ⟨a, _, hH, trivial, fun od => ?_⟩
      obtain ⟨G', l, r, R'⟩ := k od
      exact ⟨O, G', _, t, E, le, R', q, ok.le l⟩
    | _ =>
      rw [e] at q
      exact q.elim⟩
end TM
set_option pp.deepTerms.threshold 6
namespace TM
open L2 PySem.Spec PySem PyProof.Rows
/-! ### d == {}, d != {}; x, y, z = e, f, {} -/
def gEqD0 (neg : Bool) : G2 := fun x y κ => match x, y with
  | .dict kvs, .dict [] => κ (.bool (neg != kvs.isEmpty))
  | _, _ => False
def rEqD0 (neg : Bool) : R2 := fun x y H Q => ∃ a b kvs, x = .ref a ∧ y = .ref b ∧ Rd H a (.dK kvs) ∧ Rd H b (.dK []) ∧ Q (.bl (neg != kvs.isEmpty)) H
section
variable {X : Cx} {A : Amb} {W : WX} {ca cb k : Nat} {a b : Expr} {da db : DEx} {pos : Pos}
theorem op_eqD0 (hu : X.A.units < cLine) : OpR X (compareOp .Eq) (rEqD0 false) := fun pins s σ H x y v u Q I rx ry h => by
  obtain ⟨p, q, kvs, rfl, rfl, ea, eb, h⟩ := h
  obtain rfl : v = Value.ref p := rx
  obtain rfl : u = Value.ref q := ry
  obtain ⟨_, ya, va, ra, da⟩ := dk_rd I.hok ea
  obtain ⟨_, yb, vb, rb, db⟩ := dk_rd I.hok eb
  have hb : vb = [] := List.eq_nil_of_length_eq_zero rb.length.symm
  subst hb
  refine PySem.W.keq_eq (knd := mixKind X.prog X.w) (r := true) ya yb da db hu (fun e => ?_) (fin_bl I h ?_)
  · rw [List.eq_nil_of_length_eq_zero e]
    exact .nil
  · have := ra.length
    cases kvs <;> cases va <;> simp_all
theorem op_neD0 (hu : X.A.units < cLine) : OpR X (compareOp .NotEq) (rEqD0 true) := fun pins s σ H x y v u Q I rx ry h => by
  obtain ⟨p, q, kvs, rfl, rfl, ea, eb, h⟩ := h
  obtain rfl : v = Value.ref p := rx
  obtain rfl : u = Value.ref q := ry
  obtain ⟨_, ya, va, ra, da⟩ := dk_rd I.hok ea
  obtain ⟨_, yb, vb, rb, db⟩ := dk_rd I.hok eb
  have hb : vb = [] := List.eq_nil_of_length_eq_zero rb.length.symm
  subst hb
  refine PySem.W.keq_ne (knd := mixKind X.prog X.w) (r := true) ya yb da db hu (fun e => ?_) (fin_bl I h ?_)
  · rw [List.eq_nil_of_length_eq_zero e]
    exact .nil
  · have := ra.length
    cases kvs <;> cases va <;> simp_all
theorem snd_eqD0 (neg : Bool) : Snd2 X A (rEqD0 neg) (gEqD0 neg) := snd2_of fun H x y v u Q κ ⟨G, l, rx, ry⟩ q k => by
  cases x with
  | dict kvs =>
    cases y with
    | dict es =>
      cases es with
      | nil =>
        simp only [Rp] at rx ry
        obtain ⟨p, o, ps, rfl, h, r⟩ := rx
        obtain ⟨p', o', ps', rfl, h', r'⟩ := ry
        simp only [RpKv] at r'
        subst r'
        refine ⟨p, p', ps, rfl, rfl, .inr ⟨o, l _ _ h⟩, .inr ⟨o', l _ _ h'⟩, k (.bool (neg != ps.isEmpty)) _ (fun _ => by simp only [Rp]) ?_⟩
        have e : ps.isEmpty = kvs.isEmpty := by
          have := r.length
          cases ps <;> cases kvs <;> simp_all
        rw [e]
        exact q
      | cons _ _ => exact q.elim
    | _ => exact q.elim
  | _ => exact q.elim
theorem de_eqD0 (hr : Room k X.A) (ha : DE X A W ca a da) (hb : DE X A W cb b db) : DE X A W (ca + cb) (.Compare a [.Eq] [b] pos) (dOp2 (gEqD0 false) da db) := de_cmp (op_eqD0 (Nat.lt_of_succ_lt (hu_of hr))) (snd_eqD0 false) ha hb (nomark _)
theorem de_neD0 (hr : Room k X.A) (ha : DE X A W ca a da) (hb : DE X A W cb b db) : DE X A W (ca + cb) (.Compare a [.NotEq] [b] pos) (dOp2 (gEqD0 true) da db) := de_cmp (op_neD0 (Nat.lt_of_succ_lt (hu_of hr))) (snd_eqD0 true) ha hb (nomark _)
theorem dt_eqD0 (hr : Room k X.A) (ha : DE X A W ca a da) (hb : DE X A W cb b db) : DT X A W (ca + cb) (.Compare a [.Eq] [b] pos) (dTst (dOp2 (gEqD0 false) da db)) := dt_cmp (op_eqD0 (Nat.lt_of_succ_lt (hu_of hr))) (snd_eqD0 false) ha hb (nomark _)
theorem dt_neD0 (hr : Room k X.A) (ha : DE X A W ca a da) (hb : DE X A W cb b db) : DT X A W (ca + cb) (.Compare a [.NotEq] [b] pos) (dTst (dOp2 (gEqD0 true) da db)) := dt_cmp (op_neD0 (Nat.lt_of_succ_lt (hu_of hr))) (snd_eqD0 true) ha hb (nomark _)
end
def sPar3OD (i j k : Nat) (d1 d2 : DEx) : DSx := fun ρ E => d1 ρ (fun x ρ1 => d2 ρ1 (fun y ρ2 => E.nx (((ρ2.set i (.fz x)).set j (.fz y)).set k (.od []))) E.ex) E.ex
section
variable {X : Cx} {A : Amb} {W : WX} {ca cb i j k : Nat} {e f : Expr} {d1 d2 : DEx} {x y z : Str} {p pos px py pz pt pt2 : Pos} {kt k2 : Nat}
/-- where one of them is a cell -/
theorem ds_par3ODU (hc : X.calm = true) (hN : X.N.Nodup) (hi : X.N[i]? = some x) (hj : X.N[j]? = some y) (hk : X.N[k]? = some z) (hx : Loc X.env.scope x) (hy : Loc X.env.scope y) (hz : Loc X.env.scope z) (he : DE X A W ca e d1) (hf : DE X A W cb f d2)
    (hw : swappedStores [.Tuple [.Name x px, .Name y py, .Name z pz] kt pt] (.Tuple [e, f, .Dict [] [] p] k2 pt2) X.env = pure none := by rfl) (hs : swapsWithSole [.Tuple [.Name x px, .Name y py, .Name z pz] kt pt] (.Tuple [e, f, .Dict [] [] p] k2 pt2) pos.line X.env = pure false := by rfl)
    (h0 : (assignEach [.Tuple [.Name x px, .Name y py, .Name z pz] kt pt] X.env).map (·.2) = [assign (.Tuple [.Name x px, .Name y py, .Name z pz] kt pt) X.env] := by rfl) (h1 : starEach [e, f, .Dict [] [] p] X.env = (false, eval e X.env) :: starEach [f, .Dict [] [] p] X.env := by rfl) (h2 : starEach [f, .Dict [] [] p] X.env = (false, eval f X.env) :: starEach [.Dict [] [] p] X.env := by rfl) (h3 : starEach [.Dict [] [] p] X.env = (false, eval (.Dict [] [] p) X.env) :: starEach [] X.env := by rfl)
    (hf1 : X.fn x = true ∨ X.env.scope.names.lookup x = some .local := by first | exact .inl rfl | exact .inr rfl | assumption) (hf2 : X.fn y = true ∨ X.env.scope.names.lookup y = some .local := by first | exact .inl rfl | exact .inr rfl | assumption) (hf3 : X.fn z = true ∨ X.env.scope.names.lookup z = some .local := by first | exact .inl rfl | exact .inr rfl | assumption)
    (hn : (assignEach [.Name x px, .Name y py, .Name z pz] X.env).length = 3 := by rfl) (hst : (assignEach [.Name x px, .Name y py, .Name z pz] X.env).findIdx? (·.1) = none := by rfl) :
    DS X A W (ca + cb) (.Assign [.Tuple [.Name x px, .Name y py, .Name z pz] kt pt] (.Tuple [e, f, .Dict [] [] p] k2 pt2) pos) (sPar3OD i j k d1 d2) :=
  ⟨PS.weak (ps_asg (pe_tup (pa_cons he.pe (pa_cons hf.pe (pa_cons pe_dnewK pa_nil h3) h2) h1)) (pg_tup hc (pgs_cons (pg_name hN hi hx hf1) (pgs_cons (pg_name hN hj hy hf2) (pgs_cons (pg_name hN hk hz hf3) pgs_nil))) hn hst) hs hw h0) fun D σ H ⟨O, G, ρ, t, E, le, R, q, ok⟩ => ⟨O, G, ρ, _, _, E.ex, by omega, R, q, fun r1 ρ1 v1 G1 H1 l1 R1 rv1 q1 =>
    ⟨O, G1, ρ1, _, _, E.ex, by omega, R1, q1, fun r2 ρ2 v2 G2 H2 l2 R2 rv2 q2 p hp => by
      refine ⟨by show 3 ≤ sizeLine; rw [sizeLine_eq]; omega, fun p2 hp2 => ?_⟩
      have R3 := R2.onO hp (.dK [])
      have nO := (R2.hs.none_of hp).2.1
      obtain ⟨l4, R4⟩ := R3.newfz (o := .tup [v1, v2, .ref p]) hp2
      have R5 := (R4.setF i (Rp.mono (l2.trans l4) _ _ rv1)).setF j (Rp.mono l4 _ _ rv2)
      have R6 := Rel.setOwn R5 nO k (e := .od []) ⟨p, [], rfl, if_pos rfl, by simp only [RpKv]⟩
      refine ⟨p2, [v1, v2, .ref p], rfl, SqT.of upd_same, rfl, v1, [v2, .ref p], rfl, v2, [.ref p], rfl, .ref p, [], rfl, rfl, ?_⟩
      exact ok.nx _ _ _ _ ((l1.trans l2).trans l4) (R6.up (by omega)) q2, ((ok.ex σ).le l1).dn (by omega)⟩, (ok.ex σ).dn (by omega)⟩⟩
end
end TM
set_option pp.deepTerms.threshold 6
namespace TM
open L2 PySem.Spec PySem PyProof.Rows
/-! ### the jar of draws: one list of three ints -/
def JarAt (a : Addr) (b : Nat) (H : Hp) : Prop := ∃ x y n : Int, H a = some (.lst [.int x, .int y, .int n]) ∧ 0 ≤ y ∧ y < 2 ^ 130 ∧ 0 ≤ n ∧ n ≤ b
def jarA (a : Addr) : Amb where
  ad := some a
  At := fun t H => JarAt a t H
  fp := fun _ b => b = a
  tr := fun t H b ⟨x, y, n, h, _⟩ e z => by
    subst e
    rw [h] at z
    cases z
  st := fun t H H' ⟨x, y, n, h, r⟩ k => ⟨⟨x, y, n, by rw [k a rfl]; exact h, r⟩, fun _ h => h⟩
  up := fun t t' H l ⟨x, y, n, h, y0, y1, n0, n1⟩ => ⟨x, y, n, h, y0, y1, n0, by omega⟩
/-- the jar has changed and stays one -/
theorem hs_jar {a : Addr} {t t' : Nat} {O G H H' : Hp} (h : Hs (jarA a) t O G H) (d' : JarAt a t' H') (st : ∀ x, x ≠ a → H' x = H x) : Hs (jarA a) t' O G H' := by
  have af := h.af a rfl
  have ng : ∀ x o, G x = some o → x ≠ a := fun x o q z => by
    rw [z, af.1] at q
    cases q
  have no : ∀ x o, O x = some o → x ≠ a := fun x o q z => by
    rw [z, af.2] at q
    cases q
  exact ⟨fun x o q => by rw [st x (ng x o q)]; exact h.gh x o q, fun x o q => by rw [st x (no x o q)]; exact h.oh x o q, h.go, d', h.af⟩
def tDip2 (K : PySem.W.Frag) : TS :=
  (tSeq (tAsg (tAdd (tIx K (tVar 0) (tN 2)) (tN 1)) (L2.gSub (tVar 0) (tN 2) rSetL))
  (tSeq (tAsg (tMod (tPow (tAdd (tIx K (tVar 0) (tN 1)) (tMul (tN 67867967) (tIx K (tVar 0) (tN 2)))) (tN 3)) (tAdd (tPow (tN 10) (tN 39)) (tN 3))) (gName 3))
  (tSeq (tAsg (tMod (tPow (tAdd (tVar 3) (tMul (tN 86028157) (tIx K (tVar 0) (tN 2)))) (tN 2)) (tAdd (tPow (tN 10) (tN 38)) (tN 133))) (gName 3))
  (tRet (tMod (tDiv (tVar 3) (tPow (tN 10) (tN 5))) (tVar 1))))))
def tDip (K : PySem.W.Frag) : TS :=
  tSeq (tIfS (tTest (tOp (rI0 fun i j => V.bl (decide (j < i))) (tIx K (tVar 0) (tN 0)) (tN 0)))
      (tSeq (tAsg (tMod (tIx K (tVar 0) (tN 0)) (tVar 1)) (gName 2)) (tSeq (tAsg (tDiv (tIx K (tVar 0) (tN 0)) (tVar 1)) (L2.gSub (tVar 0) (tN 0) rSetL)) (tRet (tVar 2)))) tNext)
  (tDip2 K)
theorem powW2 {i : Int} {b : Nat} (h0 : 0 ≤ i) (h : i < 2 ^ b) (hb : b ≤ 40000000) : CPowW i 2 := by
  have := (powW3 h0 h hb).2
  refine ⟨by decide, ?_⟩
  have h1 : (0 : Int) ≤ (Builtin.Int.intBits i : Int) := by omega
  omega
theorem dip_rest {K : PySem.W.Frag} {D : Ends} {a : Addr} {many c f n : Int} {H1 : Hp} (hm : 0 < many) (h1r : H1 a = some (.lst [V.int c, V.int f, V.int n])) (f0 : 0 ≤ f) (f1 : f < 2 ^ 130) (n0 : 0 ≤ n) (n1 : n < 2 ^ 100001)
    (k : ∀ z, 0 ≤ z → z < many → D.rt (.int z) (L2.upd H1 a (.lst [V.int c, V.int f, V.int (n + 1)]))) : tDip2 K D [some (.ref a), some (.int many), none, none] H1 := by
  simp only [tDip2, tSeq, tAsg, tOp, tVar, tC, gName, L2.gSub, tRet]
  refine ⟨_, rfl, rd_ix h1r rfl ⟨_, _, rfl, rfl, _, rfl, rd_set [V.int c, V.int f, V.int (n + 1)] h1r rfl rfl ?_⟩⟩
  generalize eH : L2.upd H1 a (.lst [V.int c, V.int f, V.int (n + 1)]) = H2 at k ⊢
  have h2r : H2 a = some (.lst [V.int c, V.int f, V.int (n + 1)]) := by rw [← eH]; exact upd_same
  have e29 : (2 : Int) ^ 100002 = 2 * 2 ^ 100001 := by
    rw [show (100002 : Nat) = 100001 + 1 from rfl, Int.pow_succ]
    exact Int.mul_comm _ _
  have mulW : ∀ x : Int, 0 ≤ x → x.natAbs.log2 < 100 → CMulW x (n + 1) := fun x _ hx => by
    have : (n + 1).natAbs.log2 < 100003 := by
      refine PySem.Flt.log2_lt_of (by decide) ?_
      have h3 : ((n + 1).natAbs : Int) < 2 ^ 100003 := by
        rw [Int.natAbs_of_nonneg (by omega), show (100003 : Nat) = 100002 + 1 from rfl, Int.pow_succ, e29]
        generalize (2 : Int) ^ 100001 = q at n1
        omega
      exact_mod_cast h3
    unfold CMulW
    omega
  have hpos : (0 : Int) < 2 ^ 100001 := Int.pow_pos (by decide)
  have big : (1361129467683753853853498429727072845824 : Int) ≤ 2 ^ 100001 := by
    refine Int.le_trans (show (1361129467683753853853498429727072845824 : Int) ≤ 2 ^ 130 by decide) ?_
    exact_mod_cast Nat.pow_le_pow_right (by decide) (show 130 ≤ 100001 by decide)
  have e130 : (2 : Int) ^ 130 = 1361129467683753853853498429727072845824 := by decide
  have e2 : (2 : Int) ^ 100101 = 2 ^ 100001 * 2 ^ 100 := by
    rw [show (100101 : Nat) = 100001 + 100 from rfl, Int.pow_add]
  have e3 : (2 : Int) ^ 100 = 1267650600228229401496703205376 := by decide
  rw [e130] at f1
  have b1 : 0 ≤ f + 67867967 * (n + 1) ∧ f + 67867967 * (n + 1) < 2 ^ 100101 := by
    rw [e2, e3]
    generalize (2 : Int) ^ 100001 = q at *
    omega
  have p39 : (10 : Int) ^ (39 : Int).toNat + 3 = 1000000000000000000000000000000000000003 := by decide
  have p38 : (10 : Int) ^ (38 : Int).toNat + 133 = 100000000000000000000000000000000000133 := by decide
  refine ⟨_, rfl, rd_ix h2r rfl ⟨_, rfl, rd_ix h2r rfl ⟨_, _, rfl, rfl, mulW _ (by decide) (by decide), _, _, rfl, rfl, ?_⟩⟩⟩
  refine ⟨_, _, rfl, rfl, powW3 (b := 100101) b1.1 b1.2 (by decide), _, _, rfl, rfl, ⟨by decide, by decide⟩, _, _, rfl, rfl, ?_⟩
  dsimp only
  rw [p39]
  refine ⟨_, _, rfl, rfl, (show (0 : Int) < 1000000000000000000000000000000000000003 by decide), ?_⟩
  have y0 : 0 ≤ (f + 67867967 * (n + 1)) ^ (3 : Int).toNat % 1000000000000000000000000000000000000003 := Int.emod_nonneg _ (by decide)
  have y2 : (f + 67867967 * (n + 1)) ^ (3 : Int).toNat % 1000000000000000000000000000000000000003 < 1000000000000000000000000000000000000003 := Int.emod_lt_of_pos _ (by decide)
  have b2 : ∀ y : Int, 0 ≤ y → y < 1000000000000000000000000000000000000003 → 0 ≤ y + 86028157 * (n + 1) ∧ y + 86028157 * (n + 1) < 2 ^ 100101 := by
    intro y y0 y2
    rw [e2, e3]
    generalize (2 : Int) ^ 100001 = q at *
    omega
  refine ⟨_, rfl, _, rfl, rd_ix h2r rfl ⟨_, _, rfl, rfl, mulW _ (by decide) (by decide), _, _, rfl, rfl, ?_⟩⟩
  refine ⟨_, _, rfl, rfl, powW2 (b := 100101) (b2 _ y0 y2).1 (b2 _ y0 y2).2 (by decide), _, _, rfl, rfl, ⟨by decide, by decide⟩, _, _, rfl, rfl, ?_⟩
  dsimp only
  rw [p38]
  refine ⟨_, _, rfl, rfl, (show (0 : Int) < 100000000000000000000000000000000000133 by decide), ?_⟩
  refine ⟨_, rfl, _, _, rfl, rfl, ⟨by decide, by decide⟩, _, _, rfl, rfl, ⟨by decide, by decide⟩, _, rfl, _, _, rfl, rfl, hm, ?_⟩
  exact k _ (Int.emod_nonneg _ (by omega)) (Int.emod_lt_of_pos _ hm)
theorem dip_run {K : PySem.W.Frag} {a : Addr} {t : Nat} {O G H : Hp} (hs : Hs (jarA a) t O G H) (le : t + 1 ≤ TMX) {many : Int} (hm : 0 < many) (hm2 : many.natAbs.log2 < 9000) (D : Ends)
    (k : ∀ z H', 0 ≤ z → z < many → Hs (jarA a) (t + 1) O G H' → D.rt (.int z) H') : tDip K D [some (.ref a), some (.int many), none, none] H := by
  obtain ⟨c, f, n, h1r, f0, f1, n0, n1⟩ := hs.at_
  have hz : ∀ y : Int, 0 ≤ y % many ∧ y % many < many := fun y => ⟨Int.emod_nonneg _ (by omega), Int.emod_lt_of_pos _ hm⟩
  have fin : ∀ (c' n' : Int), 0 ≤ n' → n' ≤ n + 1 → Hs (jarA a) (t + 1) O G (L2.upd H a (.lst [V.int c', V.int f, V.int n'])) := fun c' n' m0 m1 =>
    hs_jar hs ⟨c', f, n', upd_same, f0, f1, m0, by push_cast; omega⟩ fun x hx => upd_ne hx
  have nb : n < 2 ^ 100001 := by
    have tm : TMX = 2 ^ 100000 := by unfold TMX; rfl
    have h1 : ((t : Nat) : Int) < ((2 ^ 100001 : Nat) : Int) := by
      have : t < 2 ^ 100001 := by
        rw [tm] at le
        rw [show (100001 : Nat) = 100000 + 1 from rfl, Nat.pow_succ]
        generalize 2 ^ 100000 = q at *
        omega
      exact_mod_cast this
    have h3 : ((2 ^ 100001 : Nat) : Int) = 2 ^ 100001 := by push_cast; rfl
    rw [h3] at h1
    omega
  have rest : tDip2 K D [some (.ref a), some (.int many), none, none] H := dip_rest hm h1r f0 f1 n0 nb fun z z0 z1 => k z _ z0 z1 (fin c (n + 1) (by omega) (by omega))
  simp only [tDip, tSeq, tAsg, tOp, tVar, tC, gName, L2.gSub, tIfS, tTest, tRet, tNext]
  refine ⟨_, rfl, rd_ix h1r rfl ⟨_, _, rfl, rfl, _, rfl, ?_⟩⟩
  split
  · refine ⟨_, rfl, rd_ix h1r rfl ⟨_, rfl, _, _, rfl, rfl, hm, ?_⟩⟩
    refine ⟨_, rfl, rd_ix h1r rfl ⟨_, rfl, _, _, rfl, rfl, ⟨hm, hm2⟩, _, rfl, rd_set [V.int (c / many), V.int f, V.int n] h1r rfl rfl ?_⟩⟩
    exact ⟨_, rfl, k _ _ (hz c).1 (hz c).2 (fin (c / many) n n0 (by omega))⟩
  · exact rest
abbrev dipN : List Str := ["jar", "many", "digit", "mixed"]
theorem fn_dip {P : Program} {w : World} {K : PySem.W.Frag} {mg : Str → Option Value} {base : Heap} {x qual : Str} {params : Arguments} {body : List Stmt} {scope : Scope} {dvs : List V} {kws : List (Str × V)} {f : Addr} {fd : FuncData} {k : Nat} (a : Addr)
    (F : FunD K x qual params body scope dvs kws f fd) (S : FnScope dipN ["jar", "many"] scope)
    (hb : ∀ (cdv : Value) (Ar : Around) (outer : List Env) (s : Shared) (H : Hp) (E : XK), Room k (Ar.deeper (envOfC qual scope s.heap.objs.size f cdv)) →
      PSs (cxOf (L2.CX P w) P w K mg base dipN qual scope f cdv Ar outer s H E) body (tDip K)) :
    FnOk P w K mg base (L2.CX P w) (k + 1) f fd ["jar", "many"] (liftSp K (jarA a) 1 spDraw) := by
  have open_ : ∀ {vs : List V} {H : Hp} {Q : VK} {E : XK}, liftSp K (jarA a) 1 spDraw vs H Q E → ∃ (O G : Hp) (t : Nat) (many : Int), t + 1 ≤ TMX ∧ Hs (jarA a) t O G H ∧ vs = [.ref a, .int many] ∧ 0 < many ∧ many < 2 ^ 62 ∧
      ∀ (z : Int) (H' : Hp), 0 ≤ z → z < many → Hs (jarA a) (t + 1) O G H' → Q (.int z) H' := by
    rintro vs H Q E ⟨O, G, es, t, Ψ, Φ, le, hs, as, ⟨many, rfl, m0, m1, q⟩, pr, _⟩
    obtain ⟨v, r, rfl, h1, h2⟩ := as
    obtain ⟨u, r2, rfl, h3, h4⟩ := h2
    obtain ⟨a', rfl, e⟩ := h1
    cases e
    rw [show r2 = [] from h4]
    simp only [ArgAt, Rp] at h3
    subst h3
    exact ⟨O, G, t, many, le, hs, rfl, m0, m1, fun z H' z0 z1 h' => pr (.fz (.int z)) _ G H' (Le.refl G) h' (by simp only [RetAt, Rp]) (q z z0 z1)⟩
  refine F.ok S (fun vs H Q E h => ?_) (fun cdv Ar outer s H vs Q E hr h => ⟨_, hb cdv Ar outer s H E hr, ?_⟩)
  · obtain ⟨_, _, _, _, _, _, rfl, _⟩ := open_ h
    rfl
  · obtain ⟨O, G, t, many, le, hs, rfl, m0, m1, q⟩ := open_ h
    refine dip_run hs le m0 ?_ _ q
    have : many.natAbs < 2 ^ 62 := by omega
    exact Nat.lt_trans (PySem.Flt.log2_lt_of (by decide) this) (by decide)
end TM
set_option pp.deepTerms.threshold 6
namespace TM
open L2 PySem.Spec PySem PyProof.Rows
/-! ### i * j with a short factor, abs -/
abbrev gMulX : G2 := gI IntMulOk fun i j => i * j
theorem op_mulX {X : Cx} : OpR X (binaryOp .Mult) (rI IntMulOk fun i j => .int (i * j)) := opI fun _ _ _ _ _ _ _ hc q => mul_int q hc
def gAbs : GL := fun ds κ => match ds with
  | [.int i] => κ (.int (if i < 0 then -i else i))
  | _ => False
section
variable {X : Cx} {A : Amb} {W : WX} {ca cb : Nat} {a b : Expr} {da db : DEx} {dr : DAx} {pos p : Pos}
theorem de_mulX (ha : DE X A W ca a da) (hb : DE X A W cb b db) : DE X A W (ca + cb) (.BinOp a .Mult b pos) (dOp2 gMulX da db) := de_bin op_mulX snd_I ha hb
theorem de_abs (hm : X.mg "abs" = none) (ha : DA X A W ca [a] dr) (hg : Gl X "abs" := by rfl) (he : starEach [a] X.env = (false, eval a X.env) :: starEach [] X.env := by rfl) : DE X A W ca (.Call (.Name "abs" p) [a] [] pos) (dCB gAbs dr) :=
  de_cb call_abs (fun O G ρ t σ H ds vs Q κ R rv q k => by
    unfold gAbs at q
    split at q
    · obtain ⟨v, rfl, r⟩ := rpAll1 rv
      simp only [Rp] at r
      subst r
      exact ⟨_, rfl, k _ _ G H (Le.refl G) R (by simp only [Rp]) q⟩
    · exact q.elim) hm (by decide +kernel) ha hg (he := he)
end
/-! ### the jar is made, the rest draws from it -/
def Ent.undk : Ent → Ent
  | .dk => .un
  | e => e
def sJar (i : Nat) (o : DOx) (d : DSx) : DSx := fun ρ E => o ρ (fun ds ρ1 => ∃ x y : Int, ds = [.int x, .int y, .int 0] ∧ 0 ≤ y ∧ y < 2 ^ 130 ∧
  d (ρ1.set i .dk) { nx := fun ρ' => E.nx (ρ'.map Ent.undk), rt := E.rt, bk := fun ρ' => E.bk (ρ'.map Ent.undk), ct := fun ρ' => E.ct (ρ'.map Ent.undk), ex := fun c p ρ' => E.ex c p (ρ'.map Ent.undk) }) E.ex
section
variable {K : PySem.W.Frag} {t t' : Nat} {O G H : Hp} {ρ : Sl} {σ : L2.St} {a : Addr}
theorem Hs.unjar (h : Hs (jarA a) t O G H) : Hs Amb.no t' O G H := ⟨h.gh, h.oh, h.go, trivial, fun b hb => hb.elim⟩
theorem Rel.unjar (R : Rel K (jarA a) t O G ρ σ H) : Rel K Amb.no t' O G (ρ.map Ent.undk) σ H := by
  obtain ⟨F, w, en⟩ := R.ex
  refine ⟨R.hs.unjar, by rw [List.length_map]; exact R.ln, F, ⟨w.le, w.g, w.o, fun i b u q z => z.elim, w.d⟩, fun i e he => ?_⟩
  rw [List.getElem?_map] at he
  cases q : ρ[i]? with
  | none =>
    rw [q] at he
    cases he
  | some e0 =>
    rw [q] at he
    cases he
    have z := en i e0 q
    cases e0 with
    | dk => trivial
    | _ => exact z
theorem RetAt.unjar {r : Ent} {v : V} (h : RetAt (jarA a) O G H r v) : RetAt Amb.no O G H r v := by
  cases r with
  | fz d => exact h
  | ow ds =>
    obtain ⟨b, xs, e, h1, h2, h3, h4, _⟩ := h
    exact ⟨b, xs, e, h1, h2, h3, h4, fun z => z.elim⟩
  | od ds =>
    obtain ⟨b, xs, e, h1, h2, h3, h4, _⟩ := h
    exact ⟨b, xs, e, h1, h2, h3, h4, fun z => z.elim⟩
  | pv d =>
    obtain ⟨P, h1, h2, h3⟩ := h
    exact ⟨P, h1, h2, fun b o e => ⟨(h3 b o e).1, (h3 b o e).2.1, fun z => z.elim⟩⟩
  | _ => exact h.elim
theorem NewL.jar {x y : Int} (n : NewL K Amb.no t O σ [.int x, .int y, .int 0] a G ρ H) (y0 : 0 ≤ y) (y1 : y < 2 ^ 130) (i : Nat) : Rel K (jarA a) 0 O G (ρ.set i .dk) (σ.set i (some (.ref a))) H := by
  obtain ⟨xs, hO, r, R⟩ := n.ex
  obtain ⟨e1, g1, _⟩ := R.atO
  simp only [RpAll, Rp] at r
  obtain ⟨x1, r1, rfl, rfl, x2, r2, rfl, rfl, x3, r3, rfl, rfl, rfl⟩ := r
  have R2 := R.unO hO
  obtain ⟨F, w, en⟩ := R.ex
  have nf : ∀ i b u, F i b = some u → b ≠ a := fun i b u q z => by
    subst z
    have := w.o i b u q
    rw [upd_same] at this
    cases this
  refine ⟨⟨R2.hs.gh, R2.hs.oh, R2.hs.go, ⟨x, y, 0, e1, y0, y1, by decide, by decide⟩, fun b hb => ?_⟩, by rw [List.length_set, List.length_set]; exact R.ln, F, ⟨w.le, w.g, fun i b u q => ?_, fun i b u q z => nf i b u q z, w.d⟩, fun j e he => ?_⟩
  · have hb : b = a := hb
    rw [hb]
    exact ⟨g1, hO⟩
  · have := w.o i b u q
    rw [upd_ne (nf i b u q)] at this
    exact this
  · by_cases hj : i = j
    · subst hj
      rw [List.getElem?_set] at he
      simp only [if_true] at he
      by_cases hi : i < ρ.length
      · rw [if_pos hi] at he
        cases he
        rw [List.getElem?_set_self (by rw [← R.ln]; exact hi)]
        exact ⟨a, rfl, rfl⟩
      · rw [if_neg hi] at he
        cases he
    · rw [List.getElem?_set_ne hj] at he
      rw [List.getElem?_set_ne hj]
      have z := en j e he
      cases e with
      | dk =>
        obtain ⟨_, _, z⟩ := z
        cases z
      | _ => exact z
end
theorem dss_jar {X : Cx} {W : WX} {c c0 i : Nat} {x : Str} {e : Expr} {o : DOx} {rest : List Stmt} {d : DSx} {pos : Pos} (hN : X.N.Nodup) (hi : X.N[i]? = some x) (hx : Loc X.env.scope x) (ho : DO X Amb.no W c0 e o) (h1 : ∀ a, DSs X (jarA a) W c rest d) (hc : c ≤ TMX) {pos' : Pos} (h0 : c0 = 0 := by rfl) (hs : swapsWith e (some (.Name x pos')) pos.line X.env = pure false := by rfl)
    (hf : X.fn x = true ∨ X.env.scope.names.lookup x = some .local := by first | exact .inl rfl | exact .inr rfl | assumption) : DSs X Amb.no W 0 (.Assign [.Name x pos'] e pos :: rest) (sJar i o d) := by
  subst h0
  refine ⟨PSs.weak (pss_cons (ps_set hN hi hx ho.pe hs hf) (u := fun D σ H => ∃ a, liftS X.K (jarA a) W c d D σ H) ⟨fun pins s σ H D I ⟨a, h⟩ => (h1 a).pss.run pins s σ H D I h⟩) fun D σ H ⟨O, G, ρ, t, E, le, R, q, ok⟩ => ?_⟩
  refine ⟨O, G, ρ, t, _, E.ex, by omega, R, q, fun ds ρ1 a G1 H1 l1 R1 n q1 => ?_, ok.ex σ⟩
  obtain ⟨x', y', rfl, y0, y1, q1⟩ := q1
  refine ⟨a, O, G1, _, 0, _, by omega, n.jar y0 y1 i, q1, ⟨fun ρ' σ' G' H' l R' k => ?_, fun r v G' H' l h' ra k => ?_, fun ρ' σ' G' H' l R' k => ?_, fun ρ' σ' G' H' l R' k => ?_, fun σ' cl p ρ' G' H' cv dd l R' xa k => ?_⟩⟩
  · exact ok.nx _ _ _ _ (l1.trans l) R'.unjar k
  · exact ok.rt r v G' H' (l1.trans l) h'.unjar ra.unjar k
  · exact ok.bk _ _ _ _ (l1.trans l) R'.unjar k
  · exact ok.ct _ _ _ _ (l1.trans l) R'.unjar k
  · exact ok.ex σ' cl p _ G' H' cv dd (l1.trans l) R'.unjar xa k
/-! ### a law without an ambient -/
theorem fn_lawN {P : Program} {w : World} {K : PySem.W.Frag} {mg : Str → Option Value} {base : Heap} {x qual : Str} {params : Arguments} {body : List Stmt} {scope : Scope} {dvs : List V} {kws : List (Str × V)} {f : Addr} {fd : FuncData} {N : List Str} {k c : Nat} {d : DSx}
    (F : FunD K x qual params body scope dvs kws f fd) (S : FnScope N ["script"] scope) (hc : c ≤ TMX) (hN : 1 ≤ N.length)
    (h1 : ∀ (cdv : Value) (Ar : Around) (outer : List Env) (s : Shared) (H : Hp) (E : XK), Room k (Ar.deeper (envOfC qual scope s.heap.objs.size f cdv)) → (Ar.deeper (envOfC qual scope s.heap.objs.size f cdv)).guards = some [] →
      DSs (cxOf (L2.CX P w) P w K mg base N qual scope f cdv Ar outer s H E) Amb.no (fun cls d _ H => E cls d H) c body d)
    (hd : ∀ ns : List Int, ns.length ≤ 63 → d (.sc ns :: List.replicate (N.length - 1) .un) lawE) : FnG P w K mg base (k + 1) f fd ["script"] (spLaw K) := by
  refine fnG_ok (A := Amb.no) F S (fun vs H Q E h => ?_) fun cdv B fr s H vs Q E hr hg h => ?_
  · obtain ⟨a, ns, rfl, _⟩ := h
    rfl
  · obtain ⟨sa, ns, rfl, hl, hO, hS, hQ⟩ := h
    refine ⟨_, (h1 cdv B fr s H E hr hg).pss, ?_⟩
    have st : L2.start N [.ref sa] = some (V.ref sa) :: List.replicate (N.length - 1) none := by
      unfold L2.start
      obtain ⟨m, hm⟩ := Nat.exists_eq_add_of_le hN
      rw [hm]
      rfl
    rw [st]
    refine ⟨fun _ => none, H, .sc ns :: List.replicate (N.length - 1) .un, 0, lawE, by omega, ⟨⟨Le.refl H, fun b o e => (nomatch e), fun b o e => (nomatch e), trivial, fun b hb => hb.elim⟩, ?_, fun _ _ => none, ⟨fun i b u q => (nomatch q), fun i b u q => (nomatch q), fun i b u q => (nomatch q), fun i b u q => (nomatch q), fun i j b u _ q => (nomatch q)⟩, fun i e he => ?_⟩, hd ns hl,
      ⟨fun _ _ _ _ _ _ q => q.elim, fun r v G2 H2 _ _ rv q => ?_, fun _ _ _ _ _ _ q => q.elim, fun _ _ _ _ _ _ q => q.elim, fun σ' _ _ _ _ _ _ _ _ _ _ q => q.elim⟩⟩
    · rw [List.length_cons, List.length_cons, List.length_replicate, List.length_replicate]
    · cases i with
      | zero =>
        cases he
        exact ⟨sa, rfl, hS⟩
      | succ i =>
        have : e = .un := by
          rw [List.getElem?_cons_succ, List.getElem?_replicate] at he
          split at he
          · exact (Option.some.inj he).symm
          · cases he
        subst this
        trivial
    · have q' : r = .fz (.bool true) := q
      subst q'
      simp only [RetAt, Rp] at rv
      subst rv
      exact hQ H2
/-! ### script != [] -/
def dScNe (i : Nat) : DEx := fun ρ Ψ _ => match atS ρ i with
  | .sc ns => SeqAt.shaped (.list (ns.map PyData.int)) = true ∧ Ψ (.bool (!ns.isEmpty)) ρ
  | _ => False
theorem dp_ints {K : PySem.W.Frag} {H : Hp} : ∀ ns : List Int, DpAll K H (ns.map V.int) (ns.map PyData.int)
  | [] => .nil
  | n :: ns => .cons (.int n) (dp_ints ns)
theorem eqv_ints (ns : List Int) : PyData.eqv (.list (ns.map .int)) (.list []) = ns.isEmpty := by
  cases ns <;> simp [PyData.eqv, PyData.eqvAll]
theorem de_scNe {X : Cx} {A : Amb} {W : WX} {k : Nat} {x : Str} {p p2 pos : Pos} (i : Nat) (hr : Room k X.A) (hN : X.N[i]? = some x := by rfl) (hv : Vis X.env.scope x := by first | exact Or.inl rfl | exact Or.inr (Or.inl rfl) | exact Or.inr (Or.inr rfl)) (hd : (x == ("__debug__" : Str)) = false := by decide) (hcd : (x == ("__classdict__" : Str)) = false := by decide) :
    DE X A W 0 (.Compare (.Name x p) [.NotEq] [.List [] p2] pos) (dScNe i) :=
  ⟨PE.weak (pe_cmpR (op_neU hr) (pe_var hN hv hd hcd) (de_fz (do_lst (X := X) (A := A) (W := W) da_nil)).pe (nomark _)) fun σ H Q ⟨O, G, ρ, t, Ψ, Φ, le, R, q, pe, px⟩ => by
    unfold dScNe at q
    cases e : atS ρ i with
    | sc ns =>
      rw [e] at q
      obtain ⟨ad, h1, h2⟩ := R.scAt (atS_get e (fun z => nomatch z))
      refine ⟨_, h1, O, G, ρ, t, fun d ρ' => d = .list [] ∧ ρ' = ρ, Φ, le, R, ?_, fun r ρ1 v G1 H1 l1 R1 rv ⟨e1, e2⟩ => ?_, px⟩
      · simp [dFz, oLst, aNil, dataOf]
      · subst e1 e2
        refine .inl ⟨.list (ns.map .int), .list [], .lst ((l1.trans R1.hs.gh).seq h2) (dp_ints ns), Dp.mono R1.hs.gh _ _ (Rp.dp _ _ rfl rv), q.1, by decide, ?_⟩
        rw [eqv_ints]
        exact pe _ _ _ G1 H1 l1 R1 (by simp only [Rp]) q.2
    | _ =>
      rw [e] at q
      exact q.elim⟩
end TM
set_option pp.deepTerms.threshold 6
namespace TM
open L2 PySem.Spec PySem PyProof.Rows
open PySem.Froz (SD sObj TxOk addTx tailTx)
/-! ### sorted(set(xs)), xs a list of texts -/
def insSt : List Str → List Str
  | [] => []
  | k :: r => insT k (insSt r)
theorem insSt_mem {y : Str} : ∀ {l : List Str}, y ∈ insSt l ↔ y ∈ l
  | [] => Iff.rfl
  | k :: r => by
    unfold insSt
    rw [insT_mem, insSt_mem, List.mem_cons]
    exact ⟨fun z => z.elim .inr .inl, fun z => z.elim .inr .inl⟩
theorem insSt_nodup : ∀ l : List Str, (insSt l).Nodup
  | [] => List.nodup_nil
  | k :: r => insT_nodup (insSt_nodup r)
theorem insSt_len : ∀ l : List Str, (insSt l).length ≤ l.length
  | [] => Nat.le_refl _
  | k :: r => by
    have a := insT_len k (insSt r)
    have b := insSt_len r
    unfold insSt
    rw [List.length_cons]
    omega
section
variable {P : Program} {w : World} {B : Around} {R : Result → Shared → Prop} {I : Addr} {fp wr : List Addr} {G : Array GenState → Array GenState → Prop} {n : Nat} {V : Nat → Value → Prop} {St : Nat → Shared → Prop}
theorem set_loopT (W : WalksS P w B.in1 I fp wr G n V St) (a : Addr) (out : a ∉ fp) (xs : List Str) (len : xs.length = n) (few : n + 1 < scanBound) (val : ∀ i v, V i v → ∃ t, v = .str (xs.getD i Str.empty) t) :
    ∀ (m i : Nat) (s : Shared), n - i = m → i ≤ n → St i s → SetT P w s.heap a (insSt (xs.take i).reverse) → (∀ s', Moved (a :: wr) G s s' → SetT P w s'.heap a (insSt xs.reverse) → R (.ok (.ret .none)) s') →
      codeAny (model P w) B (.builtin "set.update.loop" ⟨[.ref a, .ref I], []⟩) R s := by
  have outW : a ∉ wr := fun z => out (W.sub _ z)
  have wider : ∀ b ∈ wr, b ∈ a :: wr := fun b z => List.mem_cons_of_mem _ z
  intro m
  induction m with
  | zero =>
    intro i s hm hi st q fin
    obtain rfl : i = n := by omega
    refine codeAny_builtin PyProof.Rows.F.entry_set_update_loop ?_
    rw [Around.under_plainId PyProof.Rows.F.plain_set_update_loop _]
    show wpAny _ B.in1 (pyNext (.ref I) >>= _) _ _ s
    refine wpAny_bind (W.done s _ _ st fun s' mv => ?_)
    show wpAny _ B.in1 (ret Value.none) _ _ s'
    rw [← len, List.take_length] at q
    exact wpAny_pure (fin s' (mv.mono wider) (q.move fun o e => mv.heap a o outW e))
  | succ m more =>
    intro i s hm hi st q fin
    have lt : i < n := by omega
    refine codeAny_builtin PyProof.Rows.F.entry_set_update_loop ?_
    rw [Around.under_plainId PyProof.Rows.F.plain_set_update_loop _]
    show wpAny _ B.in1 (pyNext (.ref I) >>= _) _ _ s
    refine wpAny_bind (W.item i s _ _ lt st fun v s' hv st' mv => ?_)
    obtain ⟨t, rfl⟩ := val i v hv
    have q1 : SetT P w s'.heap a (insSt (xs.take i).reverse) := q.move fun o e => mv.heap a o outW e
    generalize ey : xs.getD i Str.empty = y
    show wpAny _ B.in1 (holding [Value.str y t] (setAdd a (.str y t)) >>= _) _ _ s'
    refine wpAny_bind (wpAny_holding ?_)
    unfold setAdd
    refine wpAny_holding ?_
    refine wpAny_bind ((strKind P w).pyHash (k := y) (strKind_is _ _ _ _) ?_)
    have nx : (xs.take (i + 1)).reverse = y :: (xs.take i).reverse := by
      have hl : i < xs.length := by omega
      rw [List.take_succ, List.getElem?_eq_getElem hl, ← ey, List.getD_eq_getElem?_getD, List.getElem?_eq_getElem hl, List.reverse_append]
      rfl
    have cnt : (insSt (xs.take i).reverse).length ≤ i := Nat.le_trans (insSt_len _) (by rw [List.length_reverse, List.length_take]; omega)
    have step : ∀ (h' : Heap) (tk : Nat), Heap.SameBut a s'.heap h' → SetT P w h' a (insT y (insSt (xs.take i).reverse)) → codeAny (model P w) B (.builtin "set.update.loop" ⟨[.ref a, .ref I], []⟩) R { s' with heap := h', toks := s'.toks + 1 } := fun h' tk but q2 => by
      have q3 : SetT P w h' a (insSt (xs.take (i + 1)).reverse) := by
        rw [nx]
        exact q2
      refine more (i + 1) _ (by omega) lt (W.frame _ s' _ _ st' (Nat.le_succ _) fun b hb o e => ?_) q3 fun s2 mv2 q4 => ?_
      · rw [but.2 b fun z : b = a => out (by rw [← z]; exact hb)]
        exact e
      · refine fin s2 (Moved.trans W.gtrans ((mv.mono wider).then_heap (Nat.le_succ _) fun b o hb e => ?_) mv2) q4
        rw [but.2 b fun z : b = a => hb (by rw [z]; exact List.mem_cons_self)]
        exact e
    obtain ⟨d, obj, F, rs, ld⟩ := q1
    by_cases mm : y ∈ insSt (xs.take i).reverse
    · refine addT_there (s := { s' with toks := s'.toks + 1 }) obj F mm (by omega) ?_
      refine wpAny_pure ⟨plainId_quiet PyProof.Rows.F.plain_set_update_loop _, ?_⟩
      refine step s'.heap 0 (Heap.SameBut.refl a s'.heap) ?_
      rw [show insT y (insSt (xs.take i).reverse) = insSt (xs.take i).reverse from if_pos mm]
      exact ⟨d, obj, F, rs, ld⟩
    · refine Froz.add_x (s := { s' with toks := s'.toks + 1 }) obj F mm (by omega) ?_
      refine wpAny_pure ⟨plainId_quiet PyProof.Rows.F.plain_set_update_loop _, ?_⟩
      refine step _ 0 (Heap.SameBut.update s'.heap a _) ?_
      rw [show insT y (insSt (xs.take i).reverse) = y :: insSt (xs.take i).reverse from if_neg mm]
      obtain ⟨r2, l2⟩ := addTx_place (hashStr w y) (.str y t) d rs
      exact ⟨_, Froz.get_upd _ obj rfl, Froz.add_ok t F, r2, ld.imp id fun z => by rw [l2]; exact z⟩
end
section
variable {P : Program} {w : World} {B : Around} {E : Value → Shared → Prop} {s : Shared}
theorem code_set_newT (a : Value) {Q₁ : Value → Shared → Prop}
    (h : Q₁ (.ref s.heap.objs.size) { s with heap := s.heap.push (newS (!w.params.followText "set-order")) }) :
    codeAny (model P w) B (.call (.builtin "set.__new__") ⟨[.type "set", a], []⟩) (wants Q₁ E) s := by
  refine codeAny_of_tree ?_
  show wpAny _ B.in1 (do checkBuiltinCall "set.__new__" ⟨[.type "set", a], []⟩; again (.builtin "set.__new__" ⟨[.type "set", a], []⟩)) _ _ s
  refine wpAny_bind (wpAny_of_eq (PySem.F.newCall_set_1 a) (wpAny_pure ⟨plainId_quiet PySem.F.plain_set_new _, codeAny_builtin PySem.F.entry_set_new ?_⟩))
  rw [Around.under_plainId PySem.F.plain_set_new _]
  unfold Builtin.«set.__new__» Builtin.Frozenset.newClass
  have hsub := sub_set_self
  obtain ⟨hp, g, d, tk, os⟩ := s
  dsimp only
  wp_walk
  refine wpAny_askSetting (wpAny_pure ?_)
  dsimp only
  simp only [newObj]
  refine wpAny_bind (wpAny_alloc (wpAny_pure ?_))
  exact wpAny_pure h
theorem set_textsT {l : Addr} {its : Array Value} {xs : List Str} {Q : Value → Shared → Prop} (hand : B.handled = none) (lst : s.heap.IsList l its) (txt : StrsAre its.toList xs) (few : xs.length + 1 < scanBound)
    (q : ∀ (h' : Heap) (tk : Nat), SetT P w h' s.heap.objs.size (insSt xs.reverse) → (∀ b o, b < s.heap.objs.size → s.heap.get? b = some o → h'.get? b = some o) → Q (.ref s.heap.objs.size) { s with heap := h', toks := tk }) :
    wpAny (model P w) B (call (.type "set") [.ref l]) Q E s := by
  obtain ⟨cm, rm, mro⟩ := PySem.F.called_set.mro
  have made := PySem.F.called_set.made
  have sub := PySem.F.called_set.sub
  refine wpAny_call (codeAny_of_tree ?_)
  show wpAny _ _ (callAny (.type "set") _) _ _ _
  refine wpAny_pure ⟨Code.quiet_builtin _ (by decide +kernel), ?_⟩
  refine codeAny_builtin PySem.F.entry_type_call ?_
  rw [Around.under_plain (weight_type_call_type "set" [.ref l] []) rfl]
  have f1 := PySem.F.called_set.notType
  have f2 := PySem.F.called_set.canCreate
  have f3 := PySem.F.typeCall_set_1 (.ref l)
  repeat (any_goals (first | assumption | wp_step))
  refine codeAny_mono (code_set_newT (.ref l) (E := E)
    (Q₁ := fun v s1 => v = .ref s.heap.objs.size ∧ s1 = { s with heap := with1 s.heap (!w.params.followText "set-order") })
    ⟨rfl, rfl⟩) fun r s1 hr => ?_
  match r, hr with
  | .error e, hr => exact hr
  | .ok .next, hr => exact hr.elim
  | .ok .brk, hr => exact hr.elim
  | .ok .cont, hr => exact hr.elim
  | .ok (.ret v), hr =>
    obtain ⟨rfl, rfl⟩ := hr
    have tS : SetT P w (with1 s.heap (!w.params.followText "set-order")) s.heap.objs.size [] := setT_fresh
    generalize (!w.params.followText "set-order") = led at tS
    have at1 : (with1 s.heap led).get? s.heap.objs.size = some (newS led) := Heap.get?_push_size _ rfl
    have ty1 : Shared.TypeIs { s with heap := with1 s.heap led } (.ref s.heap.objs.size) "set" := ⟨_, at1, rfl⟩
    have f4 := PySem.F.called_set.init.lookup
    have f5 := PySem.F.called_set.init.bind (.ref s.heap.objs.size)
    repeat (any_goals (first | assumption | wp_step))
    refine codeAny_mono (codeAny_call_builtin (R := wants (fun r s2 => r = .none ∧ ∃ h' tk, s2 = { s with heap := h', toks := tk } ∧ SetT P w h' s.heap.objs.size (insSt xs.reverse) ∧
      (∀ b o, b < s.heap.objs.size → s.heap.get? b = some o → h'.get? b = some o)) E)
      PySem.F.called_set.init.plain PySem.F.entry_set_init (check_set_init_1 ty1 ?_)) fun r2 s2 hr2 => ?_
    · obtain ⟨ol, e0, hcl, nl, hdl⟩ := lst
      obtain ⟨oc, od, odt, osl⟩ := ol
      simp only at hcl hdl
      subst hcl hdl
      have e1 : (with1 s.heap led).get? l = some ⟨.type "list", od, .seq its nl, osl⟩ := Heap.get?_push_of_some _ e0
      have g1 := PySem.F.sub_list_set
      have g2 := PySem.F.sub_list_frozenset
      have g3 : (Value.type "list" == Value.type "dict") = false := by decide
      have l1 : (with1 s.heap led).IsList l its := ⟨_, e1, rfl, nl, rfl⟩
      unfold Builtin.«set.__init__» noKeywords Builtin.Frozenset.updateFrom
      generalize pyi : pyIter = py
      wp_walk
      subst pyi
      refine wpAny_pyIter_list l1 ?_
      refine wpAny_bind (wpAny_runValue ?_)
      have lt : l < s.heap.objs.size := Heap.lt_size e0
      have hand3 : B.in1.in1.in1.handled = none := by simp [hand]
      have sz1 : (with1 s.heap led).objs.size = s.heap.objs.size + 1 := Heap.size_push _ _
      have neI : l ≠ (with1 s.heap led).objs.size := by
        rw [sz1]
        exact Nat.ne_of_lt (Nat.lt_succ_of_lt lt)
      have outS : s.heap.objs.size ∉ [(with1 s.heap led).objs.size, l] := by
        rw [sz1]
        simp only [List.mem_cons, List.not_mem_nil, or_false, not_or]
        exact ⟨Nat.ne_of_lt (Nat.lt_succ_self _), Nat.ne_of_gt lt⟩
      have len : xs.length = its.size := by
        rw [← StrsAre.len_eq txt, Array.length_toList]
      have val : ∀ (i : Nat) (v : Value), its[i]? = some v → ∃ t, v = .str (xs.getD i Str.empty) t := fun i v hv =>
        SS.strs_at txt i v (by rw [Array.getElem?_toList]; exact hv)
      refine set_loopT ((Walks.list hand3 _ l neI its).toS) s.heap.objs.size outS xs len (by rw [← len]; exact few) val (its.size - 0) 0 _ (by omega) (Nat.zero_le _)
        ⟨⟨_, Heap.get?_push_size _ rfl, rfl, rfl⟩, l1.push _⟩ ?_ fun s3 mv q3 => ?_
      · exact tS.move fun o e => Heap.get?_push_of_some _ e
      · obtain ⟨h3, g3, d3, t3, o3⟩ := s3
        obtain rfl : g3 = s.gens := mv.gens
        obtain rfl : d3 = s.drawn := mv.drawn
        obtain rfl : o3 = s.os := mv.os
        show wpAny _ _ _ _ _ _
        refine wpAny_pure ?_
        show wpAny _ _ (ret Value.none) _ _ _
        refine wpAny_pure ⟨rfl, h3, t3, rfl, q3, fun b o hb e => ?_⟩
        refine mv.heap b o ?_ (Heap.get?_push_of_some _ (Heap.get?_push_of_some _ e))
        rw [sz1]
        simp only [List.mem_cons, List.not_mem_nil, or_false, not_or]
        exact ⟨Nat.ne_of_lt hb, Nat.ne_of_lt (Nat.lt_succ_of_lt hb)⟩
    · match r2, hr2 with
      | .error e, hr2 => exact hr2
      | .ok .next, hr2 => exact hr2.elim
      | .ok .brk, hr2 => exact hr2.elim
      | .ok .cont, hr2 => exact hr2.elim
      | .ok (.ret v), hr2 =>
        obtain ⟨rfl, h', tk, rfl, q2, k2⟩ := hr2
        repeat (any_goals (first | assumption | wp_step))
        exact q _ _ q2 k2
end
/-- sorted(set(xs)) -/
def tSortSet (K : PySem.W.Frag) (ta : TE) : TE := fun σ H Q => ta σ H fun x H1 => ∃ (l : Addr) (ys : List Str), x = .ref l ∧ SqL K H1 l (ys.map V.str) ∧ ys.length + 1 < 4000 ∧
  ∀ (zs : List Str) (p : Addr), ascT zs → (∀ k, k ∈ zs ↔ k ∈ ys) → zs.Nodup → H1 p = none → Q (.ref p) (upd H1 p (.lst (zs.map V.str)))
def oSortSet (d : DEx) : DOx := fun ρ Ψ Φ => d ρ (fun x ρ1 => match x with
  | .list ds => ∃ ys : List Str, ds = ys.map .str ∧ ys.length + 1 < 4000 ∧ ∀ zs : List Str, zs.Nodup → (∀ k, k ∈ zs ↔ k ∈ ys) → ascT zs → Ψ (zs.map .str) ρ1
  | _ => False) Φ
section
variable {X : Cx} {A : Amb} {W : WX} {ca : Nat} {a : Expr} {ta : TE} {da : DEx} {p p2 q pos : Pos}
theorem pe_sortSetT (hc : X.calm = true) (hg : Gl X "sorted") (hm : X.mg "sorted" = none) (hg2 : Gl X "set") (hm2 : X.mg "set" = none) (ha : PE X a ta)
    (na : starEach [a] X.env = (false, eval a X.env) :: starEach [] X.env) : PE X (.Call (.Name "sorted" p) [.Call (.Name "set" p2) [a] [] q] [] pos) (tSortSet X.K ta) := by
  refine ⟨fun pins s σ H Q I h => ?_⟩
  refine Call_ (ld_blt (u := .builtin "sorted") I hg hm (by decide +kernel) (callWith_builtin1 (args_cons ?_ rfl) rfl rfl))
  refine Call_ (ld_blt I hg2 hm2 boot_set (callWith_type1 (args_cons ?_ na) na rfl))
  refine thn (ha.run pins s σ H _ I h) fun v s1 z => args_nil ?_
  obtain ⟨x, H1, I1, r1, l, ys, rfl, hq, few, q1⟩ := z
  cases r1
  obtain ⟨its, r, pl, hz⟩ := I1.list hq
  refine set_textsT (I1.ok.hd hc) pl.isList (by simpa using strsAre_of r) (by unfold scanBound; omega) fun h' tk hS hk => args_nil ?_
  have I2 : Inv X pins σ H1 { s1 with heap := h', toks := tk } := I1.kept fun b o e => hk b o (Heap.lt_size e) e
  have nd := insSt_nodup ys.reverse
  have ln := insSt_len ys.reverse
  have mm : ∀ k, k ∈ insSt ys.reverse ↔ k ∈ ys := fun k => by rw [insSt_mem, List.mem_reverse]
  rw [List.length_reverse] at ln
  generalize insSt ys.reverse = is at hS nd ln mm
  refine sortedT hS (I2.ok.hd hc) (by unfold scanBound; omega) fun s' p out c zs k g o hp hgt hi as mem len => ?_
  have lz : (zs.map V.str).length ≤ sizeLine := by
    rw [List.length_map, len, sizeLine_eq]
    omega
  have nP : H1 p = none := I2.hok.fresh hp
  obtain ⟨h2, g2, d2, t2, o2⟩ := s'
  obtain rfl : o2 = s1.os := o
  obtain rfl : g2 = s1.gens := g
  have J : Inv X pins σ (upd H1 p (.lst (zs.map V.str))) { ({ s1 with heap := h', toks := tk } : Shared) with heap := h2, gens := s1.gens, drawn := d2, toks := t2 } := I2.call (ch := []) (Un.laid k hp nP) (I2.hok.laid k hp ⟨lz, out.toList, c, vals_of_strs hi, hgt⟩) I2.bare (fun _ z => nomatch z)
  exact ⟨.ref p, _, J, rfl, q1 zs p as (fun y => by rw [mem y, mm y]) (asc_nodup nd mem len) nP⟩
theorem do_sortSet (hm : X.mg "sorted" = none) (hm2 : X.mg "set" = none) (ha : DE X A W ca a da) (hc : X.calm = true := by rfl) (hg : Gl X "sorted" := by rfl) (hg2 : Gl X "set" := by rfl) (na : starEach [a] X.env = (false, eval a X.env) :: starEach [] X.env := by rfl) :
    DO X A W ca (.Call (.Name "sorted" p) [.Call (.Name "set" p2) [a] [] q] [] pos) (oSortSet da) :=
  ⟨PE.weak (pe_sortSetT hc hg hm hg2 hm2 ha.pe na) fun σ H Q ⟨O, G, ρ, t, Ψ, Φ, le, R, q, pe, px⟩ => ⟨O, G, ρ, t, _, Φ, le, R, q, fun x ρ1 v G1 H1 l1 R1 rx q1 => by
    cases x with
    | list ds =>
      obtain ⟨ys, rfl, few, fin⟩ := q1
      simp only [Rp] at rx
      obtain ⟨ad, xs, rfl, h, r⟩ := rx
      rw [RpAll.strs r] at h
      refine ⟨ad, ys, rfl, SqL.of (R1.hs.gh _ _ h), few, fun zs p2 as mem nd hp => ?_⟩
      have n5 := R1.newL hp (strs_rp zs)
      exact pe _ ρ1 p2 _ _ l1 n5.rel n5 (fin zs nd mem as)
    | _ => exact q1.elim, px⟩⟩
end
end TM
set_option pp.deepTerms.threshold 6
namespace TM
open L2 PySem.Spec PySem PyProof.Rows
/-! ### defs that ask for repr -/
theorem fn_okG {P : Program} {w : World} {K : PySem.W.Frag} {mg : Str → Option Value} {base : Heap} {A : Amb} {x qual : Str} {params : Arguments} {body : List Stmt} {scope : Scope} {dvs : List V} {kws : List (Str × V)} {f : Addr} {fd : FuncData} {N ps : List Str} {k cf : Nat} {sp : DSp} {den : DSx}
    (F : FunD K x qual params body scope dvs kws f fd) (S : FnScope N ps scope)
    (hb : ∀ (cdv : Value) (Ar : Around) (outer : List Env) (s : Shared) (H : Hp) (E : XK), Room k (Ar.deeper (envOfC qual scope s.heap.objs.size f cdv)) → (Ar.deeper (envOfC qual scope s.heap.objs.size f cdv)).guards = some [] →
      DSs (cxOf (L2.CX P w) P w K mg base N qual scope f cdv Ar outer s H E) A (fun cls d _ H => E cls d H) cf body den)
    (rd : ∀ es Ψ Φ, sp es Ψ Φ → es.length = ps.length ∧ den (es ++ List.replicate (N.length - es.length) .un) { nx := fun _ => Ψ (.fz .none), rt := Ψ, ex := fun c p _ => Φ c p }) :
    FnG P w K mg base (k + 1) f fd ps (liftSp K A cf sp) := by
  refine fnG_ok (A := A) F S (fun vs H Q E h => ?_) (fun cdv Ar outer s H vs Q E hr hg h => ⟨_, (hb cdv Ar outer s H E hr hg).pss, ?_⟩)
  · obtain ⟨O, G, es, t, Ψ, Φ, le, hs, as, sp', _⟩ := h
    rw [as.length, (rd es Ψ Φ sp').1]
  · obtain ⟨O, G, es, t, Ψ, Φ, le, hs, as, sp', pr, px⟩ := h
    have hlen : vs.length = es.length := as.length
    have hget : ∀ {es : List Ent} {vs : List V} (i : Nat) (e : Ent), ArgsAt K A G es vs → es[i]? = some e → ∃ v, vs[i]? = some v ∧ ArgAt K A G e v := by
      intro es
      induction es with
      | nil => intro vs i e _ h; simp at h
      | cons e0 es ih =>
        intro vs i e h he
        obtain ⟨v, r, rfl, h1, h2⟩ := h
        cases i with
        | zero =>
          simp at he
          subst he
          exact ⟨v, rfl, h1⟩
        | succ i =>
          obtain ⟨v', e1, e2⟩ := ih i e h2 (by simpa using he)
          exact ⟨v', by simpa using e1, e2⟩
    have ent : ∀ (i : Nat) (e : Ent), (es ++ List.replicate (N.length - es.length) Ent.un)[i]? = some e → e = .un ∨ ∃ v, (L2.start N vs)[i]? = some (some v) ∧ ArgAt K A G e v := fun i e he => by
      by_cases hi : i < es.length
      · rw [List.getElem?_append_left hi] at he
        obtain ⟨v, h1, h2⟩ := hget i e as he
        refine .inr ⟨v, ?_, h2⟩
        unfold L2.start
        rw [List.getElem?_append_left (by rw [List.length_map, hlen]; exact hi), List.getElem?_map, h1]
        rfl
      · rw [List.getElem?_append_right (Nat.le_of_not_lt hi), List.getElem?_replicate] at he
        split at he
        · exact .inl (Option.some.inj he).symm
        · cases he
    refine ⟨O, G, _, _, _, le, ⟨hs, ?_, fun _ _ => none, ⟨fun i b u q => (nomatch q), fun i b u q => (nomatch q), fun i b u q => (nomatch q), fun i b u q => (nomatch q), fun i j b u _ q => (nomatch q)⟩, fun i e he => ?_⟩, (rd es Ψ Φ sp').2, ⟨fun ρ' σ' G' H' l R' q => pr (.fz .none) _ G' H' l R'.hs (by simp only [RetAt, Rp]) q, fun r v G' H' l h' ra q => pr r v G' H' l h' ra q, fun _ _ _ _ _ _ q => q.elim, fun _ _ _ _ _ _ q => q.elim,
      fun σ' c p ρ' G' H' cv dd l R' xa q => px c p G' H' cv dd l R'.hs xa q⟩⟩
    · unfold L2.start
      rw [List.length_append, List.length_append, List.length_replicate, List.length_replicate, List.length_map, hlen]
    · rcases ent i e he with rfl | ⟨v, h1, h2⟩
      · trivial
      · cases e with
        | un => trivial
        | fz d => exact ⟨v, h1, h2⟩
        | dk =>
          obtain ⟨a, e1, e2⟩ := h2
          exact ⟨a, by rw [h1, e1], e2⟩
        | sc ns =>
          obtain ⟨a, e1, e2⟩ := h2
          exact ⟨a, by rw [h1, e1], e2⟩
        | ow _ => exact h2.elim
        | od _ => exact h2.elim
        | pv _ => exact h2.elim
section
variable (P : Program) (w : World) (K : PySem.W.Frag) (mg : Str → Option Value) (base : Heap)
def DerG (A : Amb) (k : Nat) (N : List Str) (qual : Str) (scope : Scope) (c : Nat) (body : List Stmt) (den : DSx) : Prop := ∀ (f : Addr) (cdv : Value) (Ar : Around) (outer : List Env) (s : Shared) (H : Hp) (E : XK), Room k (Ar.deeper (envOfC qual scope s.heap.objs.size f cdv)) →
  (Ar.deeper (envOfC qual scope s.heap.objs.size f cdv)).guards = some [] → DSs (cxOf (L2.CX P w) P w K mg base N qual scope f cdv Ar outer s H E) A (wxW E) c body den
def FnDg (A : Amb) (cf k : Nat) (x : Str) (ps : List Str) (sp : DSp) : Prop := ∃ f fd, FnG P w K mg base k f fd ps (liftSp K A cf sp) ∧ mg x = some (.ref f) ∧ PySem.W.keepIn K (.ref f) = true ∧ Binds K fd ps []
end
section
variable {P : Program} {w : World} {K : PySem.W.Frag} {mg : Str → Option Value} {base : Heap} {A : Amb} {cf k : Nat} {x : Str} {ps : List Str} {sp : DSp}
theorem FnDg.fn {X : Cx} (h : FnDg X.prog X.w X.K X.mg X.base A cf k x ps sp) : Fg X A cf k x ps sp := ⟨h⟩
theorem fn_okG2 {qual : Str} {params : Arguments} {body : List Stmt} {scope : Scope} {f : Addr} {fd : FuncData} {N : List Str} {den : DSx} (F : FunD K x qual params body scope [] [] f fd) (S : FnScope N ps scope) (hb : DerG P w K mg base A k N qual scope cf body den)
    (rd : ∀ es Ψ Φ, sp es Ψ Φ → es.length = ps.length ∧ den (es ++ List.replicate (N.length - es.length) .un) { nx := fun _ => Ψ (.fz .none), rt := Ψ, ex := fun c p _ => Φ c p }) : FnG P w K mg base (k + 1) f fd ps (liftSp K A cf sp) :=
  fn_okG F S (fun cdv Ar outer s H E hr hg => hb f cdv Ar outer s H E hr hg) rd
theorem FnDg.of {qual : Str} {params : Arguments} {body : List Stmt} {scope : Scope} {f : Addr} {fd : FuncData} (h : FnG P w K mg base k f fd ps (liftSp K A cf sp)) (F : FunD K x qual params body scope [] [] f fd) (hm : mg x = some (.ref f))
    (hbd : ∀ (kV doc pm : Value) (an : Option Addr) (cdv ct : Value) (us : List Value), us.length = ps.length → bindArgs (PySem.W.fnOf x qual params body scope .none kV doc pm an cdv ct) ⟨us, []⟩ = pure (ps.zip us)) : FnDg P w K mg base A cf k x ps sp :=
  ⟨f, fd, h, hm, F.kp, F.bindsN hbd⟩
end
end TM
namespace TM
open L2 PySem.Spec PySem PyProof.Rows
/-! ### s * n, n from 0 on -/
theorem strRep_zero (s : Str) : strRep s 0 = "" := by
  unfold strRep
  simp
  rfl
def gSRep0 : G2 := fun x y κ => match x, y with
  | .str s, .int k => 0 ≤ k ∧ k < 2 ^ 20 ∧ 1 ≤ s.length ∧ s.length * k.toNat ≤ 16777216 ∧ κ (.str (strRep s k.toNat))
  | _, _ => False
def rSRep0 : R2 := fun x y H Q => ∃ s k, x = .str s ∧ y = .int k ∧ 0 ≤ k ∧ k < 2 ^ 20 ∧ 1 ≤ s.length ∧ s.length * k.toNat ≤ 16777216 ∧ Q (.str (strRep s k.toNat)) H
section
variable {X : Cx} {A : Amb} {W : WX} {ca cb : Nat} {a b : Expr} {da db : DEx} {pos : Pos}
theorem op_srep0 : OpR X (binaryOp .Mult) rSRep0 := fun pins s σ H x y v u Q I rx ry h => by
  obtain ⟨z, k, rfl, rfl, h1, h2, h3, h4, q⟩ := h
  by_cases hk : k = 0
  · subst hk
    obtain ⟨t, rfl⟩ := rx
    obtain ⟨t', rfl⟩ := ry
    refine PySem.P.mul_str_none (by decide) (by decide) ?_
    rw [show (0 : Int).toNat = 0 from rfl, strRep_zero] at q
    exact ⟨.str "", H, I.tok _, ⟨_, rfl⟩, q⟩
  · exact op_srep1 pins s σ H _ _ v u Q I rx ry ⟨z, k, rfl, rfl, by omega, h2, h3, h4, q⟩
theorem snd_srep0 : Snd2 X A rSRep0 gSRep0 := snd2_of fun H x y v u Q κ ⟨G, _, rx, ry⟩ q k => by
  cases x <;> cases y <;> simp only [gSRep0] at q
  simp only [Rp] at rx ry
  exact ⟨_, _, rx, ry, q.1, q.2.1, q.2.2.1, q.2.2.2.1, k _ _ (fun _ => by simp only [Rp]) q.2.2.2.2⟩
theorem de_srep0 (ha : DE X A W ca a da) (hb : DE X A W cb b db) : DE X A W (ca + cb) (.BinOp a .Mult b pos) (dOp2 gSRep0 da db) := de_bin op_srep0 snd_srep0 ha hb
end
end TM
set_option pp.deepTerms.threshold 6
namespace TM
open L2 PySem.Spec PySem PyProof.Rows
/-! ### calls by places and by keywords; defaults of parameters that are given by keywords alone -/
def dApp (n m : Nat) (d1 d2 : DAx) : DAx := fun ρ Ψ Φ => d1 ρ (fun es ρ1 => d2 ρ1 (fun es2 ρ2 => es.length = n ∧ es2.length = m ∧ Ψ (es ++ es2) ρ2) Φ) Φ
def tApp (n m : Nat) (t tk : TA) : TA := fun σ H Q => t σ H fun vs H1 => tk σ H1 fun zs H2 => vs.length = n ∧ zs.length = m ∧ Q (vs ++ zs) H2
theorem args_mono {K : PySem.W.Frag} {A : Amb} {G G' : Hp} (l : Le G G') : ∀ {es : List Ent} {vs : List V}, ArgsAt K A G es vs → ArgsAt K A G' es vs
  | [], _, h => h
  | e :: es, vs, h => by
    obtain ⟨v, r, rfl, h1, h2⟩ := h
    refine ⟨v, r, rfl, ?_, args_mono l h2⟩
    cases e with
    | fz d => exact Rp.mono l d v h1
    | dk => exact h1
    | sc ns =>
      obtain ⟨a, e1, e2⟩ := h1
      exact ⟨a, e1, l.seq e2⟩
    | _ => exact h1.elim
structure FnMx (X : Cx) (A : Amb) (cf k : Nat) (x : Str) (ps : List Str) (n : Nat) (ks : List Str) (sp : DSp) : Prop where
  ex : ∃ f fd, FnOk X.prog X.w X.K X.mg X.base (L2.CX X.prog X.w) k f fd ps (liftSp X.K A cf sp) ∧ X.mg x = some (.ref f) ∧ PySem.W.keepIn X.K (.ref f) = true ∧ KBn X.K fd ps n ks (fun us ws => us ++ ws) (fun vs zs => vs ++ zs)
section
variable {X : Cx} {A : Amb} {W : WX} {ca cb cf c0 k n m : Nat} {a : Expr} {es : List Expr} {d1 d2 : DAx} {x : Str} {pos p : Pos} {kws : List Keyword} {ps ks : List Str} {sp : DSp} {t tk : TA}
theorem lift_app {σ : L2.St} {H : Hp} {Q : List V → Hp → Prop} (h : liftA X.K A W (ca + cb) (dApp n m d1 d2) σ H Q) : tApp n m (liftA X.K A W ca d1) (liftA X.K A W cb d2) σ H Q := by
  obtain ⟨O, G, ρ, t, Ψ, Φ, le, R, q, pa, px⟩ := h
  exact ⟨O, G, ρ, t, _, Φ, by omega, R, q, fun es ρ1 vs G1 H1 l1 R1 as q1 => ⟨O, G1, ρ1, _, _, Φ, by omega, R1, q1, fun es2 ρ2 zs G2 H2 l2 R2 as2 ⟨e1, e2, q2⟩ =>
    ⟨as.length.trans e1, as2.length.trans e2, pa _ ρ2 (vs ++ zs) G2 H2 (l1.trans l2) (R2.up (by omega)) (args_app (args_mono l2 as) as2) q2⟩, (px.le l1).dn (by omega)⟩, px.dn (by omega)⟩
theorem pe_callMx {f : Addr} {fd : FuncData} {sp : Sp} {E : L2.St → XK} (F : FnOk X.prog X.w X.K X.mg X.base (L2.CX X.prog X.w) k f fd ps sp) (hr : Room k X.A) (hg : Gl X x) (hm : X.mg x = some (.ref f)) (hk : PySem.W.keepIn X.K (.ref f) = true) (hb : KBn X.K fd ps n ks (fun us ws => us ++ ws) (fun vs zs => vs ++ zs))
    (hx : ∀ σ, PassesAt (L2.CX X.prog X.w) X σ (E σ)) (ha : PA X (a :: es) t) (hkw : PK X kws tk) (hall : (backToKw pos (keywordEach kws X.env)).all (·.1.isSome) = true) (hks : (backToKw pos (keywordEach kws X.env)).filterMap (·.1) = ks)
    (hdb : (x == ("__debug__" : Str)) = false) (he : starEach (a :: es) X.env = (false, eval a X.env) :: starEach es X.env) (hpl : ((backTo pos (starEach (a :: es) X.env)).any (·.1) || (backToKw pos (keywordEach kws X.env)).any (·.1.isNone)) = false) :
    PE X (.Call (.Name x p) (a :: es) kws pos) (tCallS sp E (tApp n ks.length t tk)) := by
  refine ⟨fun pins s σ H Q I h => wpAny_Call_Name_kw (ld_glob I hg hm ?_ hdb)⟩
  refine PySem.W.callWith_KW (h₀ := X.base) I.ok.mod.kin hk hall (thn (ha.run pos pins s σ H _ I h) fun us s1 z => ?_) hpl he
  obtain ⟨vs, H1, I1, r, q⟩ := z
  refine thn (hkw.run pos pins s1 σ H1 _ I1 q) fun ws s2 z2 => ?_
  obtain ⟨zs, H2, I2, rz, l1, l2, q2⟩ := z2
  refine ⟨I2.kIn, ?_⟩
  have c := F.run X.A X.stack s2 H2 ⟨us, ks.zip ws⟩ (us ++ ws) (vs ++ zs) Q (E σ) hr I2.env0 (hb.to s2 us ws I2.kIn (r.length.symm.trans l1) (rz.length.symm.trans l2)) (hb.rel r rz) q2
  rw [hks]
  refine wpAny_call (codeAny_mono c fun rs s3 hq => ?_)
  match rs, hq with
  | .error e, hq => exact hx σ pins H2 s2 e s3 I2 hq
  | .ok (.ret u), hq => exact I2.after hq
  | .ok .next, hq => exact hq.elim
  | .ok .brk, hq => exact hq.elim
  | .ok .cont, hq => exact hq.elim
theorem de_callMx {j : Nat} (F : FnMx X A cf j x ps n ks sp) (hr : Room k X.A) (tk : Takes X W) (ha : DA X A W ca (a :: es) d1) (hkw : DK X A W cb kws d2) (hg : Gl X x := by rfl) (hjk : j ≤ k := by decide) (hall : (backToKw pos (keywordEach kws X.env)).all (·.1.isSome) = true := by rfl) (hks : (backToKw pos (keywordEach kws X.env)).filterMap (·.1) = ks := by rfl)
    (hdb : (x == ("__debug__" : Str)) = false := by decide) (he : starEach (a :: es) X.env = (false, eval a X.env) :: starEach es X.env := by rfl) (hpl : ((backTo pos (starEach (a :: es) X.env)).any (·.1) || (backToKw pos (keywordEach kws X.env)).any (·.1.isNone)) = false := by rfl) (hn : ks.length = m := by rfl) :
    DE X A W (ca + cb + cf) (.Call (.Name x p) (a :: es) kws pos) (dCall sp (dApp n m d1 d2)) := by
  subst hn
  obtain ⟨f, fd, F1, hm, hk, hb⟩ := F.ex
  exact ⟨PE.weak (pe_callMx F1 (hr.mono hjk) hg hm hk hb (passAt tk) ha.pa hkw.pk hall hks hdb he hpl).lk fun σ H Q h => by
    have h := lift_call h
    exact lift_app h⟩
end
section
variable (P : Program) (w : World) (K : PySem.W.Frag) (mg : Str → Option Value) (base : Heap)
def FnDM (A : Amb) (cf k : Nat) (x : Str) (ps : List Str) (n : Nat) (ks : List Str) (sp : DSp) : Prop := ∃ f fd, FnOk P w K mg base (L2.CX P w) k f fd ps (liftSp K A cf sp) ∧ mg x = some (.ref f) ∧ PySem.W.keepIn K (.ref f) = true ∧ KBn K fd ps n ks (fun us ws => us ++ ws) (fun vs zs => vs ++ zs)
end
section
variable {P : Program} {w : World} {K : PySem.W.Frag} {mg : Str → Option Value} {base : Heap} {A : Amb} {cf k n : Nat} {x : Str} {ps ks : List Str} {is : List Nat} {sp : DSp} {kws : List (Str × V)}
variable {qual : Str} {params : Arguments} {body : List Stmt} {scope : Scope} {f : Addr} {fd : FuncData} {N : List Str} {den : DSx}
theorem FnDM.fn {X : Cx} (h : FnDM X.prog X.w X.K X.mg X.base A cf k x ps n ks sp) : FnMx X A cf k x ps n ks sp := ⟨h⟩
/-- the places are written, and each of the parameters behind them by its keyword -/
theorem FnDM.of (n : Nat) (h : FnOk P w K mg base (L2.CX P w) k f fd ps (liftSp K A cf sp)) (F : FunD K x qual params body scope [] kws f fd) (hm : mg x = some (.ref f))
    (hbd : ∀ (kV doc pm : Value) (an : Option Addr) (cdv ct : Value) (us ws : List Value), us.length = n → ws.length = ks.length → bindArgs (PySem.W.fnOf x qual params body scope .none kV doc pm an cdv ct) ⟨us, ks.zip ws⟩ = pure (ps.zip (us ++ ws))) : FnDM P w K mg base A cf k x ps n ks sp := by
  have kp := F.kp
  obtain ⟨oc, od, dV, kV, doc, pm, an, cdv, ct, osl, rfl, lk, hcd, hD, hK⟩ := F.ex
  rcases hD with ⟨_, rfl⟩ | ⟨e, _⟩
  · exact ⟨f, _, h, hm, kp, ⟨fun s us ws _ h1 h2 => .of_eq (hbd kV doc pm an cdv ct us ws h1 h2), fun r1 r2 => r1.append r2⟩⟩
  · exact absurd rfl e
/-- the places are written; the others have their defaults -/
theorem FnDD.ofK0 (n : Nat) (h : FnOk P w K mg base (L2.CX P w) k f fd ps (liftSp K A cf sp)) (F : FunD K x qual params body scope [] kws f fd) (hm : mg x = some (.ref f)) (hk : kws ≠ []) (ok : dflOk (kws.map (·.2))) (hn : n + kws.length = ps.length)
    (hbd : ∀ (D : Addr) (doc pm : Value) (an : Option Addr) (cdv ct : Value) (us ks : List Value), us.length = n → ks.length = kws.length →
      KwChain D ((kws.map (·.1)).zip ks) (bindArgs (PySem.W.fnOf x qual params body scope .none (.ref D) doc pm an cdv ct) ⟨us, []⟩) (ps.zip (us ++ ks))) : FnDD P w K mg base A cf k x ps (kws.map (·.2)) sp := by
  obtain ⟨ds, hv, hb⟩ := F.binds0 n hk hn hbd
  exact ⟨f, fd, ds, h, hm, F.kp, hb, hv, ok⟩
theorem FkD.ofK (h : FnOk P w K mg base (L2.CX P w) k f fd ps (liftSp K A cf sp)) (F : FunD K x qual params body scope [] kws f fd) (hm : mg x = some (.ref f)) (hp : ps ≠ [])
    (hbd : ∀ (kV doc pm : Value) (an : Option Addr) (cdv ct : Value) (ws : List Value), (gP is ws).length = ps.length → bindArgs (PySem.W.fnOf x qual params body scope .none kV doc pm an cdv ct) ⟨[], ks.zip ws⟩ = pure (ps.zip (gP is ws))) : FkD P w K mg base A cf k x ps ks is sp :=
  ⟨f, fd, h, hm, F.kp, kbinds_of F hp hbd⟩
end
end TM
set_option pp.deepTerms.threshold 6
namespace TM
open L2 PySem.Spec PySem PyProof.Rows
/-! ### a walk over what is a list or a dict -/
def iOr (d1 d2 : DIx) : DIx := fun ρ Ψ Φ => d1 ρ Ψ Φ ∨ d2 ρ Ψ Φ
theorem di_or {X : Cx} {A : Amb} {W : WX} {c : Nat} {N : Option Nat} {tg e : Expr} {d1 d2 : DIx} (h1 : DI X A W c N tg e d1) (h2 : DI X A W c N tg e d2) : DI X A W c N tg e (iOr d1 d2) :=
  ⟨⟨fun pins s σ H R I ⟨O, G, ρ, t, Ψ, Φ, le, R1, q, pi, px⟩ => by
    rcases q with q | q
    · exact h1.pi.run pins s σ H R I ⟨O, G, ρ, t, Ψ, Φ, le, R1, q, pi, px⟩
    · exact h2.pi.run pins s σ H R I ⟨O, G, ρ, t, Ψ, Φ, le, R1, q, pi, px⟩⟩⟩
/-! ### max(xs), min(xs), xs a list of numbers -/
def gMaxL : GL := fun ds κ => match ds with
  | [.list xs] => ∃ ns : List Int, xs = ns.map .int ∧ 0 < ns.length ∧ ∀ m ∈ ns, (∀ y ∈ ns, y ≤ m) → κ (.int m)
  | _ => False
def gMinL : GL := fun ds κ => match ds with
  | [.list xs] => ∃ ns : List Int, xs = ns.map .int ∧ 0 < ns.length ∧ ∀ m ∈ ns, (∀ y ∈ ns, m ≤ y) → κ (.int m)
  | _ => False
section
variable {X : Cx} {A : Amb} {W : WX} {ca : Nat} {a : Expr} {dr : DAx} {pos p : Pos}
theorem de_maxL (hc : X.calm = true) (hm : X.mg "max" = none) (ha : DA X A W ca [a] dr) (hg : Gl X "max" := by rfl) (he : starEach [a] X.env = (false, eval a X.env) :: starEach [] X.env := by rfl) : DE X A W ca (.Call (.Name "max" p) [a] [] pos) (dCB gMaxL dr) :=
  de_cb (cr_max hc) (fun O G ρ t σ H ds vs Q κ R rv q k => by
    unfold gMaxL at q
    split at q
    · obtain ⟨ns, rfl, pos, q2⟩ := q
      obtain ⟨v, rfl, r⟩ := rpAll1 rv
      simp only [Rp] at r
      obtain ⟨a, xs, rfl, h, r⟩ := r
      rw [RpAll.ints r] at h
      exact ⟨a, ns, rfl, SqL.of (R.hs.gh _ _ h), pos, fun m m1 m2 => k _ _ G H (Le.refl G) R (by simp only [Rp]) (q2 m m1 m2)⟩
    · exact q.elim) hm (by decide +kernel) ha hg (he := he)
theorem de_minL (hc : X.calm = true) (hm : X.mg "min" = none) (ha : DA X A W ca [a] dr) (hg : Gl X "min" := by rfl) (he : starEach [a] X.env = (false, eval a X.env) :: starEach [] X.env := by rfl) : DE X A W ca (.Call (.Name "min" p) [a] [] pos) (dCB gMinL dr) :=
  de_cb (cr_min hc) (fun O G ρ t σ H ds vs Q κ R rv q k => by
    unfold gMinL at q
    split at q
    · obtain ⟨ns, rfl, pos, q2⟩ := q
      obtain ⟨v, rfl, r⟩ := rpAll1 rv
      simp only [Rp] at r
      obtain ⟨a, xs, rfl, h, r⟩ := r
      rw [RpAll.ints r] at h
      exact ⟨a, ns, rfl, SqL.of (R.hs.gh _ _ h), pos, fun m m1 m2 => k _ _ G H (Le.refl G) R (by simp only [Rp]) (q2 m m1 m2)⟩
    · exact q.elim) hm (by decide +kernel) ha hg (he := he)
end
end TM
set_option pp.deepTerms.threshold 6
namespace TM
open L2 PySem.Spec PySem PyProof.Rows
/-! ### new things that stand apart: of any form -/
section
variable (K : PySem.W.Frag) (A : Amb) (t : Nat) (O G : Hp) (σ : L2.St)
/-- v stands for d, by new cells that are nobody's -/
structure NewN (d : D) (v : V) (G' : Hp) (ρ' : Sl) (H' : Hp) : Prop where
  ex : ∃ O3 P : Hp, Le O O3 ∧ Le P O3 ∧ (∀ b o, P b = some o → O b = none) ∧ Rp P d v ∧ Rel K A t O3 G' ρ' σ H'
def PostN (Ψ : D → Sl → Prop) (Q : VK) : Prop := ∀ d ρ' v G' H', Le G G' → Rel K A t O G' ρ' σ H' → NewN K A t O σ d v G' ρ' H' → Ψ d ρ' → Q v H'
end
def liftN (K : PySem.W.Frag) (A : Amb) (W : WX) (c : Nat) (d : DEx) : TE := fun σ H Q => ∃ O G ρ t Ψ Φ, t + c ≤ TMX ∧ Rel K A t O G ρ σ H ∧ d ρ Ψ Φ ∧ PostN K A (t + c) O G σ Ψ Q ∧ PostX K A (t + c) O G σ W Φ
structure DN (X : Cx) (A : Amb) (W : WX) (c : Nat) (e : Expr) (d : DEx) : Prop where
  pe : PE X e (liftN X.K A W c d)
section
variable {K : PySem.W.Frag} {A : Amb} {t t' : Nat} {O G H : Hp} {ρ : Sl} {σ : L2.St}
theorem NewN.up {d : D} {v : V} (n : NewN K A t O σ d v G ρ H) (l : t ≤ t') : NewN K A t' O σ d v G ρ H :=
  let ⟨O3, P, a, b, c, r, R⟩ := n.ex
  ⟨O3, P, a, b, c, r, R.up l⟩
def D0p : Hp := fun _ => none
theorem flat_new (R : Rel K A t O G ρ σ H) {d : D} {v : V} (h : flatD d = true) (r : Rp G d v) : NewN K A t O σ d v G ρ H :=
  ⟨O, D0p, Le.refl O, fun b o e => (nomatch e), fun b o e => (nomatch e), flat_rp h r, R⟩
theorem NewL.new {ds : List D} {a : Addr} (n : NewL K A t O σ ds a G ρ H) (h : ds.all flatD = true) : NewN K A t O σ (.list ds) (.ref a) G ρ H := by
  obtain ⟨xs, hO, r, R⟩ := n.ex
  refine ⟨_, single a (.lst xs), Le.upd hO, fun b o e => ?_, fun b o e => ?_, ?_, R⟩
  · obtain ⟨rfl, rfl⟩ := single_at e
    exact upd_same
  · obtain ⟨rfl, rfl⟩ := single_at e
    exact hO
  · simp only [Rp]
    exact ⟨a, xs, rfl, if_pos rfl, flat_all h r⟩
theorem NewN.ret {d : D} {v : V} (n : NewN K A t O σ d v G ρ H) : RetAt A O G H (.pv d) v := by
  obtain ⟨O3, P, low, hP, hd, r, R⟩ := n.ex
  refine ⟨P, r, fun b o e => R.hs.oh b o (hP b o e), fun b o e => ⟨R.hs.go b o (hP b o e), hd b o e, fun z => ?_⟩⟩
  have := (R.hs.af b z).2
  rw [hP b o e] at this
  cases this
end
section
variable {X : Cx} {A : Amb} {W : WX} {c0 ca cb cc cf : Nat} {a b c e : Expr} {es : List Expr} {da db d : DEx} {o : DOx} {ta : DTx} {dr : DAx} {pos p : Pos} {k i : Nat} {ps ks : List Str} {is : List Nat} {sp : DSp} {x : Str} {kws : List Keyword}
def dNo (o : DOx) : DEx := fun ρ Ψ Φ => o ρ (fun ds ρ1 => ds.all flatD = true ∧ Ψ (.list ds) ρ1) Φ
def dNf (d : DEx) : DEx := fun ρ Ψ Φ => d ρ (fun x ρ1 => flatD x = true ∧ Ψ x ρ1) Φ
theorem dn_o (h : DO X A W c0 e o) : DN X A W c0 e (dNo o) :=
  ⟨PE.weak h.pe fun σ H Q ⟨O, G, ρ, t, Ψ, Φ, le, R, q, pe, px⟩ => ⟨O, G, ρ, t, _, Φ, le, R, q, fun ds ρ1 a G1 H1 l1 R1 n ⟨f, q1⟩ => pe _ ρ1 _ G1 H1 l1 R1 (n.new f) q1, px⟩⟩
theorem dn_f (h : DE X A W c0 e d) : DN X A W c0 e (dNf d) :=
  ⟨PE.weak h.pe fun σ H Q ⟨O, G, ρ, t, Ψ, Φ, le, R, q, pe, px⟩ => ⟨O, G, ρ, t, _, Φ, le, R, q, fun x ρ1 v G1 H1 l1 R1 r ⟨f, q1⟩ => pe _ ρ1 _ G1 H1 l1 R1 (flat_new R1 f r) q1, px⟩⟩
theorem dn_if (hc : DT X A W cc c ta) (ha : DN X A W ca a da) (hb : DN X A W cb b db) : DN X A W (cc + ca + cb) (.IfExp c a b pos) (dIf ta da db) :=
  ⟨PE.weak (pe_ifExp hc.pt ha.pe hb.pe) fun σ H Q ⟨O, G, ρ, t, Ψ, Φ, le, R, q, pe, px⟩ => ⟨O, G, ρ, t, _, Φ, by omega, R, q, fun b ρ1 G1 H1 l1 R1 q1 => by
    cases b with
    | true => exact ⟨O, G1, ρ1, _, Ψ, Φ, by omega, R1, q1, fun b2 ρ2 v2 G2 H2 l2 R2 r2 q2 => pe b2 ρ2 v2 G2 H2 (l1.trans l2) (R2.up (by omega)) (r2.up (by omega)) q2, (px.le l1).dn (by omega)⟩
    | false => exact ⟨O, G1, ρ1, _, Ψ, Φ, by omega, R1, q1, fun b2 ρ2 v2 G2 H2 l2 R2 r2 q2 => pe b2 ρ2 v2 G2 H2 (l1.trans l2) (R2.up (by omega)) (r2.up (by omega)) q2, (px.le l1).dn (by omega)⟩, px.dn (by omega)⟩⟩
/-- f(..): a thing apart -/
def dNCall (sp : DSp) (d : DAx) : DEx := fun ρ Ψ Φ => d ρ (fun es ρ1 => sp es (fun r => match r with
  | .pv x => Ψ x ρ1
  | .ow ds => ds.all flatD = true ∧ Ψ (.list ds) ρ1
  | .fz x => flatD x = true ∧ Ψ x ρ1
  | _ => False) fun c p => Φ c p ρ1) Φ
theorem lift_ncall {σ : L2.St} {H : Hp} {Q : VK} (h : liftN X.K A W (ca + cf) (dNCall sp dr) σ H Q) : tCallS (liftSp X.K A cf sp) (WE W) (liftA X.K A W ca dr) σ H Q := by
  obtain ⟨O, G, ρ, t, Ψ, Φ, le, R, q, pe, px⟩ := h
  refine ⟨O, G, ρ, t, _, Φ, by omega, R, q, fun es ρ1 vs G1 H1 l1 R1 as q1 => ?_, px.dn (by omega)⟩
  obtain ⟨O', _, hs', fb, fn, fp⟩ := R1.frameP
  refine ⟨O', G1, es, _, _, _, by omega, hs', as, q1, fun r v G2 H2 l2 h2 ra k2 => ?_, fun c pl G2 H2 cv dd l2 h2 xa k2 => px c pl ρ1 G2 H2 cv dd (l1.trans l2) ((fb _ G2 H2 l2 h2).up (by omega)) xa k2⟩
  have R2 := fb _ G2 H2 l2 h2
  cases r with
  | fz d => exact pe d ρ1 v G2 H2 (l1.trans l2) (R2.up (by omega)) ((flat_new R2 k2.1 ra).up (by omega)) k2.2
  | ow ds =>
    obtain ⟨a, xs, rfl, e1, e2, e3, e4, e5⟩ := ra
    obtain ⟨hO, R2'⟩ := fn _ a _ G2 H2 l2 h2 e1 e3 e4 e5
    exact pe _ ρ1 _ G2 H2 (l1.trans l2) (R2.up (by omega)) ((NewL.new (σ := σ) ⟨xs, hO, e2, R2'⟩ k2.1).up (by omega)) k2.2
  | pv d =>
    obtain ⟨P, rp, hP, hn⟩ := ra
    obtain ⟨oP, R3⟩ := fp _ P G2 H2 l2 h2 hP hn
    exact pe d ρ1 v G2 H2 (l1.trans l2) (R2.up (by omega)) ((show NewN X.K A _ O σ d v G2 ρ1 H2 from ⟨_, P, un_le, fun b o e => un_at (oP b o e) e, oP, rp, R3⟩).up (by omega)) k2
  | _ => exact k2.elim
theorem dn_call {j : Nat} (F : Fn X A cf j x ps sp) (hr : Room k X.A) (tk : Takes X W) (ha : DA X A W ca (a :: es) dr) (hg : Gl X x := by rfl) (hjk : j ≤ k := by decide) (hdb : (x == ("__debug__" : Str)) = false := by decide) (he : starEach (a :: es) X.env = (false, eval a X.env) :: starEach es X.env := by rfl)
    (hpl : (backTo pos (starEach es X.env)).any (·.1) = false := by rfl) : DN X A W (ca + cf) (.Call (.Name x p) (a :: es) [] pos) (dNCall sp dr) := by
  obtain ⟨f, fd, F1, hm, hk, hb⟩ := F.ex
  exact ⟨PE.weak (pe_callS F1 (hr.mono hjk) hg hm hk hb (passAt tk) ha.pa hdb he hpl) fun _ _ _ => lift_ncall⟩
theorem dn_callKw {j : Nat} (F : Fk X A cf j x ps ks is sp) (hr : Room k X.A) (tk : Takes X W) (ha : DK X A W ca kws dr) (hg : Gl X x := by rfl) (hjk : j ≤ k := by decide) (hall : (backToKw pos (keywordEach kws X.env)).all (·.1.isSome) = true := by rfl) (hks : (backToKw pos (keywordEach kws X.env)).filterMap (·.1) = ks := by rfl)
    (hdb : (x == ("__debug__" : Str)) = false := by decide) (hpl : ((backTo pos (starEach [] X.env)).any (·.1) || (backToKw pos (keywordEach kws X.env)).any (·.1.isNone)) = false := by rfl) : DN X A W (ca + cf) (.Call (.Name x p) [] kws pos) (dNCall (kwCall is sp) dr) := by
  obtain ⟨f, fd, F1, hm, hk, hb⟩ := F.ex
  exact ⟨PE.weak (pe_callKW0 F1 (hr.mono hjk) hg hm hk hb (passAt tk) ha.pk hall hks hdb hpl) fun σ H Q h => tCallS_weak (lift_kw) liftA_mono (lift_ncall h)⟩
/-! ### statements: return e, x = e -/
def sRetN (d : DEx) : DSx := fun ρ E => d ρ (fun x _ => E.rt (.pv x)) E.ex
theorem ds_retN (he : DN X A W c0 e d) : DS X A W c0 (.Return (some e) pos) (sRetN d) :=
  ⟨PS.weak (ps_ret he.pe) fun D σ H ⟨O, G, ρ, t, E, le, R, q, ok⟩ => ⟨O, G, ρ, _, _, E.ex, by omega, R, q, fun x ρ' v G' H' l R' n k => ok.rt (.pv x) _ G' H' l (R'.hs.up (by omega)) n.ret k, (ok.ex σ).dn (by omega)⟩⟩
def sSetN (i : Nat) (d : DEx) : DSx := fun ρ E => d ρ (fun x ρ1 => E.nx (ρ1.set i (.pv x))) E.ex
theorem ds_setN (hN : X.N.Nodup) (hi : X.N[i]? = some x) (hx : Loc X.env.scope x) (he : DN X A W c0 e d) {pos' : Pos} (hs : swapsWith e (some (.Name x pos')) pos.line X.env = pure false := by rfl)
    (hf : X.fn x = true ∨ X.env.scope.names.lookup x = some .local := by first | exact .inl rfl | exact .inr rfl | assumption) : DS X A W c0 (.Assign [.Name x pos'] e pos) (sSetN i d) :=
  ⟨PS.weak (ps_set hN hi hx he.pe hs hf) fun D σ H ⟨O, G, ρ, t, E, le, R, q, ok⟩ => ⟨O, G, ρ, t, _, E.ex, by omega, R, q, fun d ρ1 v G1 H1 l1 R1 n q1 => by
    obtain ⟨O3, P, low, hP, hd, r, R3⟩ := n.ex
    exact ok.nx _ _ G1 H1 l1 ((R3.setPv low P hP hd r i).up (by omega)) q1, (ok.ex σ).dn (by omega)⟩⟩
theorem PostX.unLe {K : PySem.W.Frag} {t : Nat} {O O3 G : Hp} {σ : L2.St} {Φ : XP} (h : PostX K A t O G σ W Φ) (low : Le O O3) : PostX K A t O3 G σ W Φ := fun c p ρ' G' H' cv dd l R => h c p ρ' G' H' cv dd l (R.unLe low)
/-! ### displays of things apart -/
structure DNs (X : Cx) (A : Amb) (W : WX) (c : Nat) (es : List Expr) (d : DAx) : Prop where
  pa : PA X es (fun σ H Q => ∃ O G ρ t Ψ Φ, t + c ≤ TMX ∧ Rel X.K A t O G ρ σ H ∧ d ρ Ψ Φ ∧
    (∀ es ρ' vs G' H', Le G G' → Rel X.K A (t + c) O G' ρ' σ H' → (∃ ds, dataOf es = some ds ∧ ∃ O3 P : Hp, Le O O3 ∧ Le P O3 ∧ (∀ b o, P b = some o → O b = none) ∧ RpAll P ds vs ∧ Rel X.K A (t + c) O3 G' ρ' σ H') → Ψ es ρ' → Q vs H') ∧ PostX X.K A (t + c) O G σ W Φ)
theorem dns_nil : DNs X A W 0 [] aNil :=
  ⟨PA.weak pa_nil fun σ H Q ⟨O, G, ρ, t, Ψ, Φ, le, R, q, pa, px⟩ => pa [] ρ [] G H (Le.refl G) R ⟨[], rfl, O, D0p, Le.refl O, fun b o e => (nomatch e), fun b o e => (nomatch e), RpAll.nil, R⟩ q⟩
theorem dns_cons (ha : DN X A W ca a da) (hr : DNs X A W cb es dr) (hs : starEach (a :: es) X.env = (false, eval a X.env) :: starEach es X.env := by rfl) : DNs X A W (ca + cb) (a :: es) (aCons da dr) :=
  ⟨PA.weak (pa_cons ha.pe hr.pa hs) fun σ H Q ⟨O, G, ρ, t, Ψ, Φ, le, R, q, pa, px⟩ => ⟨O, G, ρ, t, _, Φ, by omega, R, q, fun x ρ1 v G1 H1 l1 R1 n1 q1 => by
    obtain ⟨O1, P1, low1, hP1, hd1, r1, S1⟩ := n1.ex
    refine ⟨O1, G1, ρ1, _, _, Φ, by omega, S1, q1, fun es ρ2 vs G2 H2 l2 R2 n2 q2 => ?_, ((px.unLe low1).le l1).dn (by omega)⟩
    obtain ⟨ds, hds, O2, P2, low2, hP2, hd2, r2, S2⟩ := n2
    have dis : ∀ b o, P2 b = some o → P1 b = none := fun b o e => by
      cases z : P1 b with
      | none => rfl
      | some u =>
        have := hd2 b o e
        rw [hP1 b u z] at this
        cases this
    refine pa (.fz x :: es) ρ2 (v :: vs) G2 H2 (l1.trans l2) ((R2.unLe low1).up (by omega)) ⟨x :: ds, by simp only [dataOf, hds, Option.map_some], O2, un P1 P2, low1.trans low2, fun b o e => ?_, fun b o e => ?_, RpAll.cons (Rp.mono un_le _ _ r1) (RpAll.mono (fun b o e => un_at (dis b o e) e) _ _ r2), S2.up (by omega)⟩ q2
    · rcases un_or e with e | ⟨_, e⟩
      · exact low2 b o (hP1 b o e)
      · exact hP2 b o e
    · rcases un_or e with e | ⟨_, e⟩
      · exact hd1 b o e
      · have := hd2 b o e
        cases z : O b with
        | none => rfl
        | some u =>
          rw [low1 b u z] at this
          exact (nomatch this), px.dn (by omega)⟩⟩
/-- the display's own cell -/
theorem NewN.cell {K : PySem.W.Frag} {t : Nat} {O G H : Hp} {ρ : Sl} {σ : L2.St} {O3 P : Hp} {ds : List D} {vs : List V} {h : HO} {d : D} {p : Addr} (low : Le O O3) (hP : Le P O3) (hd : ∀ b o, P b = some o → O b = none) (r : RpAll P ds vs) (R : Rel K A t O3 G ρ σ H) (hp : H p = none)
    (rp : ∀ Q : Hp, Q p = some h → RpAll Q ds vs → Rp Q d (.ref p)) : NewN K A t O σ d (.ref p) G ρ (upd H p h) := by
  have o3 := (R.hs.none_of hp).2.1
  have pP : P p = none := by
    cases z : P p with
    | none => rfl
    | some u =>
      rw [hP p u z] at o3
      cases o3
  have op : O p = none := by
    cases z : O p with
    | none => rfl
    | some u =>
      rw [low p u z] at o3
      cases o3
  refine ⟨upd O3 p h, upd P p h, low.trans (Le.upd o3), fun b o e => ?_, fun b o e => ?_, rp _ upd_same (RpAll.mono (Le.upd pP) _ _ r), R.onO hp h⟩
  · by_cases hb : b = p
    · subst hb
      rw [upd_same] at e ⊢
      exact e
    · rw [upd_ne hb] at e ⊢
      exact hP b o e
  · by_cases hb : b = p
    · subst hb
      exact op
    · rw [upd_ne hb] at e
      exact hd b o e
/-- [a, b, ..], each apart -/
def dNLst (d : DAx) : DEx := fun ρ Ψ Φ => d ρ (fun es ρ1 => match dataOf es with
  | some ds => ds.length ≤ sizeLine ∧ Ψ (.list ds) ρ1
  | none => False) Φ
theorem dn_lst (h : DNs X A W c0 es dr) : DN X A W c0 (.List es pos) (dNLst dr) :=
  ⟨PE.weak (pe_lst h.pa) fun σ H Q ⟨O, G, ρ, t, Ψ, Φ, le, R, q, pe, px⟩ => ⟨O, G, ρ, t, _, Φ, le, R, q, fun es ρ1 vs G1 H1 l1 R1 n q1 => by
    obtain ⟨ds, hds, O3, P, low, hP, hd, r, R3⟩ := n
    rw [hds] at q1
    refine ⟨by rw [RpAll.length r]; exact q1.1, fun p hp => ?_⟩
    have n := NewN.cell low hP hd r R3 hp (h := .lst vs) (d := .list ds) fun Q e z => by
      simp only [Rp]
      exact ⟨p, vs, rfl, e, z⟩
    obtain ⟨O4, P4, l4, _, _, _, R4⟩ := n.ex
    exact pe _ ρ1 _ G1 _ l1 (R4.unLe l4) n q1.2, px⟩⟩
def dNTup (d : DAx) : DEx := fun ρ Ψ Φ => d ρ (fun es ρ1 => match dataOf es with
  | some ds => ds.length ≤ sizeLine ∧ Ψ (.tuple ds) ρ1
  | none => False) Φ
theorem dn_tup {x1} (h : DNs X A W c0 es dr) : DN X A W c0 (.Tuple es x1 pos) (dNTup dr) :=
  ⟨PE.weak (pe_tup h.pa) fun σ H Q ⟨O, G, ρ, t, Ψ, Φ, le, R, q, pe, px⟩ => ⟨O, G, ρ, t, _, Φ, le, R, q, fun es ρ1 vs G1 H1 l1 R1 n q1 => by
    obtain ⟨ds, hds, O3, P, low, hP, hd, r, R3⟩ := n
    rw [hds] at q1
    refine ⟨by rw [RpAll.length r]; exact q1.1, fun p hp => ?_⟩
    have n := NewN.cell low hP hd r R3 hp (h := .tup vs) (d := .tuple ds) fun Q e z => by
      simp only [Rp]
      exact ⟨p, vs, rfl, e, z⟩
    obtain ⟨O4, P4, l4, _, _, _, R4⟩ := n.ex
    exact pe _ ρ1 _ G1 _ l1 (R4.unLe l4) n q1.2, px⟩⟩
end
end TM
namespace TM
open L2 PySem.Spec PySem PyProof.Rows
/-! ### comprehensions, for -/
theorem lc_pure {t : Tg} {tt : DTx} {te : DEx} {vs : List Nat} {ρ : Sl} (b : D → Sl) (f : D → D) (p : D → Bool) {Ψ : List D → Sl → Prop} : ∀ (ds acc : List D), (∀ d ∈ ds, t.bind d (wipeS ρ vs) = some (b d)) →
    (∀ d ∈ ds, ∀ Ψ : Bool → Sl → Prop, Ψ (p d) (b d) → tt (b d) Ψ noX) → (∀ d ∈ ds, p d = true → ∀ Ψ : D → Sl → Prop, Ψ (f d) (b d) → te (b d) Ψ noX) → (∀ d ∈ ds, back ρ (b d) vs = ρ) →
    acc.length + ds.length ≤ sizeLine → Ψ (acc ++ (ds.filter p).map f) ρ → lcR t tt te vs ds acc ρ Ψ
  | [], acc, _, _, _, _, _, h => by
    unfold lcR
    simpa using h
  | d :: ds, acc, h1, h2, h3, h4, h5, h => by
    unfold lcR
    rw [h1 d List.mem_cons_self]
    refine h2 d List.mem_cons_self _ ?_
    have r1 := fun x hx => h1 x (List.mem_cons_of_mem d hx)
    have r2 := fun x hx => h2 x (List.mem_cons_of_mem d hx)
    have r3 := fun x hx => h3 x (List.mem_cons_of_mem d hx)
    have r4 := fun x hx => h4 x (List.mem_cons_of_mem d hx)
    rw [List.length_cons] at h5
    cases e : p d with
    | false =>
      simp only [Bool.false_eq_true, if_false]
      rw [h4 d List.mem_cons_self]
      refine lc_pure b f p ds acc r1 r2 r3 r4 (by omega) ?_
      rw [List.filter_cons_of_neg (by rw [e]; decide)] at h
      exact h
    | true =>
      simp only [if_true]
      refine h3 d List.mem_cons_self e _ ⟨by omega, ?_⟩
      rw [h4 d List.mem_cons_self]
      refine lc_pure b f p ds (acc ++ [f d]) r1 r2 r3 r4 (by rw [List.length_append]; simp; omega) ?_
      rw [List.filter_cons_of_pos e] at h
      simpa using h
theorem ite_b {b : Bool} {p q : Prop} (h1 : b = true → p) (h2 : b = false → q) : if b = true then p else q := by
  cases b with
  | true => exact h1 rfl
  | false => exact h2 rfl
theorem filter_all {α : Type} : ∀ (l : List α), l.filter (fun _ => true) = l
  | [] => rfl
  | x :: l => by rw [List.filter_cons_of_pos rfl, filter_all l]
theorem lc_map {t : Tg} {te : DEx} {vs : List Nat} {ρ : Sl} (b : D → Sl) (f : D → D) {Ψ : List D → Sl → Prop} (ds acc : List D) (h1 : ∀ d ∈ ds, t.bind d (wipeS ρ vs) = some (b d)) (h3 : ∀ d ∈ ds, ∀ Ψ : D → Sl → Prop, Ψ (f d) (b d) → te (b d) Ψ noX) (h4 : ∀ d ∈ ds, back ρ (b d) vs = ρ)
    (h5 : acc.length + ds.length ≤ sizeLine) (h : Ψ (acc ++ ds.map f) ρ) : lcR t tYesD te vs ds acc ρ Ψ :=
  lc_pure b f (fun _ => true) ds acc h1 (fun _ _ _ h => h) (fun d hd _ => h3 d hd) h4 h5 (by rw [filter_all]; exact h)
theorem lc_rel {t : Tg} {te : DEx} {vs : List Nat} {ρ : Sl} (b : D → Sl) (R : D → Prop) {Ψ : List D → Sl → Prop} : ∀ (ds acc : List D), (∀ d ∈ ds, t.bind d (wipeS ρ vs) = some (b d)) →
    (∀ d ∈ ds, ∀ Ψ : D → Sl → Prop, (∀ y, R y → Ψ y (b d)) → te (b d) Ψ noX) → (∀ d ∈ ds, back ρ (b d) vs = ρ) →
    acc.length + ds.length ≤ sizeLine → (∀ ys : List D, ys.length = ds.length → (∀ y ∈ ys, R y) → Ψ (acc ++ ys) ρ) → lcR t tYesD te vs ds acc ρ Ψ
  | [], acc, _, _, _, _, h => by
    unfold lcR
    simpa using h [] rfl (fun _ h => nomatch h)
  | d :: ds, acc, h1, h2, h4, h5, h => by
    unfold lcR
    rw [h1 d List.mem_cons_self]
    simp only [tYesD, if_true]
    rw [List.length_cons] at h5
    refine h2 d List.mem_cons_self _ fun y hy => ⟨by omega, ?_⟩
    rw [h4 d List.mem_cons_self]
    refine lc_rel b R ds (acc ++ [y]) (fun x hx => h1 x (List.mem_cons_of_mem d hx)) (fun x hx => h2 x (List.mem_cons_of_mem d hx)) (fun x hx => h4 x (List.mem_cons_of_mem d hx)) (by rw [List.length_append]; simp; omega) fun ys hl hy2 => ?_
    have := h (y :: ys) (by rw [List.length_cons, List.length_cons, hl]) (fun z hz => by
      rcases List.mem_cons.mp hz with rfl | hz
      · exact hy
      · exact hy2 z hz)
    simpa using this
theorem for_inv {t : Tg} {b : DSx} {ds : List D} {E : DEnds} {ρ : Sl} (I : Nat → Sl → Prop) (h0 : I 0 ρ)
    (step : ∀ (i : Nat) (d : D) (ρ : Sl), ds[i]? = some d → I i ρ → ∃ ρ2, t.bind d ρ = some ρ2 ∧ ∀ N : Sl → Prop, (∀ ρ', I (i + 1) ρ' → N ρ') → b ρ2 { E with nx := N, ct := N, bk := E.nx }) (fin : ∀ ρ, I ds.length ρ → E.nx ρ) : forR t b ds ρ E := by
  suffices h : ∀ (m i : Nat) (ρ : Sl), m = ds.length - i → i ≤ ds.length → I i ρ → forR t b (ds.drop i) ρ E by
    simpa using h ds.length 0 ρ (by simp) (Nat.zero_le _) h0
  intro m
  induction m with
  | zero =>
    intro i ρ hm hi hI
    have e : i = ds.length := by omega
    subst e
    rw [List.drop_length]
    unfold forR
    exact fin ρ hI
  | succ m ih =>
    intro i ρ hm hi hI
    have hlt : i < ds.length := by omega
    rw [List.drop_eq_getElem_cons hlt]
    unfold forR
    obtain ⟨ρ2, e, hb⟩ := step i ds[i] ρ (List.getElem?_eq_getElem hlt) hI
    rw [e]
    exact hb _ fun ρ' hI' => ih (i + 1) ρ' (by omega) hlt hI'
/-- a walk over a range: the item is its number -/
theorem rangeD_get {lo : Int} {n i : Nat} {d : D} (h : (rangeD lo n)[i]? = some d) : d = .int (lo + (i : Nat)) ∧ i < n := by
  unfold rangeD at h
  rw [List.getElem?_map] at h
  cases q : (List.range n)[i]? with
  | none =>
    rw [q] at h
    cases h
  | some j =>
    rw [q] at h
    obtain ⟨hi, e⟩ := List.getElem?_eq_some_iff.mp q
    rw [List.getElem_range] at e
    subst e
    rw [List.length_range] at hi
    exact ⟨(Option.some.inj h).symm, hi⟩
theorem rangeD_mem {lo : Int} {n : Nat} {d : D} (h : d ∈ rangeD lo n) : ∃ i : Nat, i < n ∧ d = .int (lo + (i : Nat)) := by
  obtain ⟨i, hi⟩ := List.getElem?_of_mem h
  obtain ⟨e, hl⟩ := rangeD_get hi
  exact ⟨i, hl, e⟩
theorem signs_mem {s : Str} {d : D} (h : d ∈ signs s) : ∃ c ∈ s.cps.toList, d = .str ⟨#[c]⟩ := by
  unfold signs at h
  obtain ⟨c, hc, e⟩ := List.mem_map.mp h
  exact ⟨c, hc, e.symm⟩
theorem signs_len (s : Str) : (signs s).length = s.length := by
  unfold signs
  rw [List.length_map, Array.length_toList]
  rfl
/-! ### letters -/
def letterC (c : Nat) : Bool := decide (97 ≤ c) && decide (c ≤ 122)
def lettersD : D → Bool
  | .str s => s.cps.toList.all letterC
  | _ => false
def strSz : D → Prop
  | .str s => s.length ≤ sizeLine
  | _ => True
theorem one_lt (a b : Nat) : decide ([a] < [b]) = decide (a < b) := by
  rw [decide_eq_decide, List.cons_lt_cons_iff]
  constructor
  · rintro (h | ⟨_, h⟩)
    · exact h
    · exact absurd h (List.not_lt_nil _)
  · exact .inl
theorem chain_letter {ρ : Sl} {c : Nat} {i : Nat} {Ψ : D → Sl → Prop} {Φ : XP} (e : atS ρ i = .fz (.str ⟨#[c]⟩)) (h : Ψ (.bool (letterC c)) ρ) : dChain gLe gLe (dC (.str "a")) (dVar i) (dC (.str "z")) ρ Ψ Φ := by
  simp only [dChain, dC, dVar, e]
  show gLe (.str "a") (.str ⟨#[c]⟩) _
  have e1 : (("a" : Str).cps.toList) = [97] := by decide
  have e2 : (("z" : Str).cps.toList) = [122] := by decide
  unfold gLe gOrd
  dsimp only
  rw [e1, one_lt]
  unfold letterC at h
  by_cases h1 : c < 97
  · have a1 : decide (c < 97) = true := decide_eq_true h1
    have a2 : decide (97 ≤ c) = false := decide_eq_false (by omega)
    rw [a2, Bool.false_and] at h
    rw [a1]
    exact h
  · have a1 : decide (c < 97) = false := decide_eq_false h1
    have a2 : decide (97 ≤ c) = true := decide_eq_true (by omega)
    rw [a2, Bool.true_and] at h
    rw [a1]
    show (if true = true then _ else _)
    rw [if_pos rfl]
    show Ψ (.bool (!decide (("z" : Str).cps.toList < [c]))) ρ
    rw [e2, one_lt]
    have a3 : (!decide (122 < c)) = decide (c ≤ 122) := by
      by_cases h2 : c ≤ 122
      · rw [decide_eq_true h2, decide_eq_false (by omega)]
        rfl
      · rw [decide_eq_false h2, decide_eq_true (by omega)]
        rfl
    rw [a3]
    exact h
/-! ### are_letters and what stands on it -/
def spVal (f : D → Bool) : DSp := fun es Ψ _ => ∃ d, es = [.fz d] ∧ strSz d ∧ Ψ (.fz (.bool (f d)))
def wordD : D → Bool
  | .str s => s.cps.toList.all letterC && !(s == "")
  | _ => false
abbrev sp_are_letters : DSp := spVal lettersD
abbrev sp_has_word_form : DSp := spVal wordD
abbrev sp_is_word : DSp := spVal wordD
abbrev sp_is_beginning : DSp := spVal lettersD
end TM
namespace TM
open L2 PySem.Spec PySem PyProof.Rows
def asc (s : Str) : Prop := ∀ c ∈ s.cps.toList, c < 128
theorem strOk_asc {s : Str} (h : asc s) : PyData.strOk s = true := by
  unfold PyData.strOk
  rw [← Array.all_toList, List.all_eq_true]
  intro c hc
  have := h c hc
  simp only [decide_eq_true_eq]
  omega
theorem asc_one {c : Nat} (h : c < 128) : asc ⟨#[c]⟩ := by
  intro d hd
  rw [List.mem_singleton.mp (show d ∈ [c] from hd)]
  exact h
theorem shaped_flat {d : D} (h : PyData.canLay0 d = true) (hd : d.depth = 0) : SeqAt.shaped d = true := by
  unfold SeqAt.shaped
  rw [h, hd]
  rfl
theorem shaped_bool (b : Bool) : SeqAt.shaped (.bool b) = true := shaped_flat rfl rfl
theorem shaped_int (b : Int) : SeqAt.shaped (.int b) = true := shaped_flat rfl rfl
theorem shaped_list {ds : List D} (h : ∀ d ∈ ds, PyData.canLay0 d = true ∧ d.depth = 0) : SeqAt.shaped (.list ds) = true := by
  have a : PyData.canLayAll0 ds = true := by
    induction ds with
    | nil => rfl
    | cons d ds ih =>
      simp only [PyData.canLayAll0, Bool.and_eq_true]
      exact ⟨(h d List.mem_cons_self).1, ih fun x hx => h x (List.mem_cons_of_mem _ hx)⟩
  have b : PyData.depthAll ds = 0 := by
    clear a
    induction ds with
    | nil => rfl
    | cons d ds ih =>
      simp only [PyData.depthAll, (h d List.mem_cons_self).2, ih fun x hx => h x (List.mem_cons_of_mem _ hx)]
      rfl
  unfold SeqAt.shaped
  simp only [PyData.canLay0, PyData.depth, a, b]
  decide
theorem eqv_nil : PyData.eqv (.list []) (.list []) = true := by
  simp [PyData.eqv, PyData.eqvAll]
theorem eqv_nil_ne {d : D} {ds : List D} : PyData.eqv (.list (d :: ds)) (.list []) = false := by
  simp [PyData.eqv, PyData.eqvAll]
/-! ### _law_same of a thing and itself -/
def sameOk : Nat → D → Prop
  | 0, _ => False
  | n + 1, .list ds => ds.length ≤ sizeLine ∧ ∀ x ∈ ds, sameOk n x
  | _ + 1, .none => True
  | _ + 1, .bool _ => True
  | _ + 1, .int _ => True
  | _ + 1, .str _ => True
  | _ + 1, _ => False
def sp__law_same (n : Nat) : DSp := fun es Ψ _ => ∃ d, es = [.fz d, .fz d] ∧ sameOk n d ∧ Ψ (.fz (.bool true))
theorem z__law_same : ∀ es Ψ Φ, ¬ sp__law_same 0 es Ψ Φ := fun _ _ _ ⟨_, _, h, _⟩ => h
theorem eqv_refl_flat {d : D} (h : flatD d = true) : PyData.eqv d d = true := by
  cases d <;> simp [flatD, PyData.eqv] at h ⊢
theorem zip_self (ds : List D) : zipD ds ds = ds.map fun x => .tuple [x, x] := by
  induction ds with
  | nil => rfl
  | cons d ds ih => rw [zipD, ih]; rfl
theorem gNe_bool {a : Bool} {κ : D → Prop} (h : κ (.bool false)) : gNe (.bool a) (.bool a) κ := .inl ⟨shaped_bool a, shaped_bool a, by
  have : PyData.eqv (.bool a) (.bool a) = true := by simp [PyData.eqv]
  rw [this]
  exact h⟩
theorem gNe_int {a : Int} {κ : D → Prop} (h : κ (.bool false)) : gNe (.int a) (.int a) κ := .inl ⟨shaped_int a, shaped_int a, by
  have : PyData.eqv (.int a) (.int a) = true := by simp [PyData.eqv]
  rw [this]
  exact h⟩
end TM
namespace TM
open L2 PySem.Spec PySem PyProof.Rows
/-! ### how long a repr is -/
@[irreducible] def wi (i : Int) : Nat := (PyData.shown (.int i)).length
mutual
def wtD : D → Nat
  | .none => 5
  | .bool _ => 5
  | .int i => wi i
  | .str s => 10 * s.length + 2
  | .list ds => 2 + wtAll ds
  | .tuple ds => 3 + wtAll ds
  | .dict kvs => 2 + wtKv kvs
def wtAll : List D → Nat
  | [] => 0
  | d :: ds => wtD d + 2 + wtAll ds
def wtKv : List (D × D) → Nat
  | [] => 0
  | (k, v) :: r => wtD k + wtD v + 4 + wtKv r
def okW : D → Prop
  | .str s => ∀ c ∈ s.cps.toList, c < 16 ^ 8
  | .list ds => okWAll ds
  | .tuple ds => okWAll ds
  | .dict kvs => okWKv kvs
  | _ => True
def okWAll : List D → Prop
  | [] => True
  | d :: ds => okW d ∧ okWAll ds
def okWKv : List (D × D) → Prop
  | [] => True
  | (k, v) :: r => okW k ∧ okW v ∧ okWKv r
end
theorem listText_le (ts : List Str) : (listText ts).length ≤ 2 + piled ts := by
  unfold listText
  rw [strLen_append]
  cases ts with
  | nil =>
    show 1 + 1 ≤ 2 + 0
    omega
  | cons t r =>
    show (textFrom 1 _ r).length + 1 ≤ _
    rw [textFrom_length_pos r 1 _ (by decide), strLen_append, strLen_append, piled_cons]
    show 1 + 0 + t.length + piled r + 1 ≤ _
    omega
theorem join_le (ts : List Str) : (Str.join ", " ts).length ≤ piled ts := by
  cases ts with
  | nil => exact Nat.le_refl _
  | cons t r =>
    have := join_length_add (t :: r) (by simp)
    omega
mutual
theorem shown_le : ∀ d : D, okW d → (PyData.shown d).length ≤ wtD d
  | .none, _ => by
    simp only [PyData.shown, wtD]
    decide
  | .bool b, _ => by
    simp only [PyData.shown, wtD]
    cases b <;> decide
  | .int i, _ => by
    simp only [wtD]
    unfold wi
    exact Nat.le_refl _
  | .str s, h => by
    simp only [PyData.shown, wtD]
    simp only [okW] at h
    exact PySem.StrLaws.reprText_len s h
  | .list ds, h => by
    simp only [PyData.shown, wtD]
    simp only [okW] at h
    have := listText_le (PyData.shownAll ds)
    have := shown_all ds h
    omega
  | .tuple ds, h => by
    simp only [PyData.shown, wtD]
    simp only [okW] at h
    have h1 := join_le (PyData.shownAll ds)
    have h2 := shown_all ds h
    unfold tupleText
    rw [strLen_append, strLen_append]
    have : (((if (PyData.shownAll ds).length == 1 then ",)" else ")" : String) : Str)).length ≤ 2 := by
      split <;> decide
    have e : (("(" : Str)).length = 1 := by decide
    omega
  | .dict kvs, h => by
    simp only [PyData.shown, wtD]
    simp only [okW] at h
    have h1 := join_le (PyData.shownKv kvs)
    have h2 := shown_kv kvs h
    unfold dictText
    rw [strLen_append, strLen_append]
    have e : (("{" : Str)).length = 1 := by decide
    have e2 : (("}" : Str)).length = 1 := by decide
    omega
theorem shown_all : ∀ ds : List D, okWAll ds → piled (PyData.shownAll ds) ≤ wtAll ds
  | [], _ => by
    simp only [PyData.shownAll, wtAll, piled_nil]
    exact Nat.le_refl _
  | d :: ds, h => by
    simp only [PyData.shownAll, wtAll, piled_cons]
    simp only [okWAll] at h
    have := shown_le d h.1
    have := shown_all ds h.2
    omega
theorem shown_kv : ∀ kvs : List (D × D), okWKv kvs → piled (PyData.shownKv kvs) ≤ wtKv kvs
  | [], _ => by
    simp only [PyData.shownKv, wtKv, piled_nil]
    exact Nat.le_refl _
  | (k, v) :: r, h => by
    simp only [PyData.shownKv, wtKv, piled_cons]
    simp only [okWKv] at h
    have := shown_le k h.1
    have := shown_le v h.2.1
    have := shown_kv r h.2.2
    rw [strLen_append, strLen_append]
    have e : ((": " : Str)).length = 2 := by decide
    omega
end
theorem wtAll_le (n : Nat) : ∀ ds : List D, (∀ d ∈ ds, wtD d ≤ n) → wtAll ds ≤ ds.length * (n + 2)
  | [], _ => by
    simp only [wtAll]
    exact Nat.zero_le _
  | d :: ds, h => by
    simp only [wtAll]
    have h1 := h d List.mem_cons_self
    have h2 := wtAll_le n ds fun x hx => h x (List.mem_cons_of_mem _ hx)
    rw [List.length_cons, Nat.succ_mul]
    omega
/-! ### texts -/
theorem cutS_len (s : Str) (lo hi : Option Int) : (cutS s lo hi).length ≤ s.length := by
  unfold cutS
  show (List.toArray _).size ≤ _
  rw [List.size_toArray, List.length_take, List.length_drop]
  have : s.cps.toList.length = s.length := by rw [Array.length_toList]; rfl
  omega
theorem cutS_mem {s : Str} {lo hi : Option Int} {c : Nat} (h : c ∈ (cutS s lo hi).cps.toList) : c ∈ s.cps.toList := by
  unfold cutS at h
  have h : c ∈ ((s.cps.toList.drop (HT.sIx s.length 0 lo)).take (HT.sIx s.length s.length hi - HT.sIx s.length 0 lo)) := h
  exact List.mem_of_mem_drop (List.mem_of_mem_take h)
theorem upperOf_letter : ∀ c ∈ List.range' 97 26, Unicode.upperOf c = [c - 32] := by decide +kernel
theorem upper_cps {s : Str} (h : ∀ c ∈ s.cps.toList, letterC c = true) : (Txt.upper s).cps.toList = s.cps.toList.map (· - 32) := by
  show ((s.cps.mapIdx fun _ c => (Unicode.upperOf c).toArray).flatten).toList = _
  rw [Array.toList_flatten, Array.toList_mapIdx]
  generalize s.cps.toList = l at h
  have g : ∀ (l : List Nat), (∀ c ∈ l, letterC c = true) → ((l.mapIdx fun _ c => (Unicode.upperOf c).toArray).map Array.toList).flatten = l.map (· - 32) := by
    intro l
    induction l with
    | nil => intro _; rfl
    | cons c l ih =>
      intro h
      have hc : Unicode.upperOf c = [c - 32] := upperOf_letter c (by
        have := h c List.mem_cons_self
        unfold letterC at this
        simp only [Bool.and_eq_true, decide_eq_true_eq] at this
        exact List.mem_range'_1.mpr (by omega))
      have := ih fun d hd => h d (List.mem_cons_of_mem _ hd)
      rw [List.mapIdx_cons, List.map_cons, List.flatten_cons, List.map_cons]
      dsimp only
      rw [hc]
      show (c - 32) :: _ = _
      congr 1
  exact g l h
end TM
namespace TM
open L2 PySem.Spec PySem PyProof.Rows
/-! ### _law_term -/
def sp__law_term : DSp := fun es Ψ _ => ∃ (L : Str) (most : Int), es = [.dk, .fz (.str L), .fz (.int most)] ∧ 1 ≤ L.length ∧ L.length ≤ 1048576 ∧ 1 ≤ most ∧ most ≤ 1000 ∧
  ∀ s : Str, 1 ≤ s.length → s.length ≤ most → (∀ c ∈ s.cps.toList, c ∈ L.cps.toList) → Ψ (.fz (.str s))
theorem app_cps (a b : Str) : (a ++ b).cps.toList = a.cps.toList ++ b.cps.toList := by
  show (a.cps ++ b.cps).toList = _
  rw [Array.toList_append]
theorem join_ones : ∀ cs : List Nat, (Txt.join "" (cs.map fun c => (⟨#[c]⟩ : Str))).cps.toList = cs := by
  intro cs
  rw [show Txt.join "" (cs.map fun c => (⟨#[c]⟩ : Str)) = Str.join "" (cs.map fun c => (⟨#[c]⟩ : Str)) from PySem.StrLaws.glued_eq_join _ _]
  induction cs with
  | nil => rfl
  | cons c cs ih =>
    cases cs with
    | nil => rfl
    | cons d cs =>
      have e : Str.join "" ((c :: d :: cs).map fun c => (⟨#[c]⟩ : Str)) = (⟨#[c]⟩ : Str) ++ "" ++ Str.join "" ((d :: cs).map fun c => (⟨#[c]⟩ : Str)) := rfl
      rw [e, app_cps, app_cps, ih]
      rfl
theorem len_cps (s : Str) : s.length = s.cps.toList.length := by
  rw [Array.length_toList]
  rfl
theorem ones_of {P : Nat → Prop} : ∀ ys : List D, (∀ y ∈ ys, ∃ c, P c ∧ y = .str ⟨#[c]⟩) → ∃ cs : List Nat, ys = (cs.map fun c => (⟨#[c]⟩ : Str)).map .str ∧ ∀ c ∈ cs, P c
  | [], _ => ⟨[], rfl, fun _ h => nomatch h⟩
  | y :: ys, h => by
    obtain ⟨c, hc, rfl⟩ := h y List.mem_cons_self
    obtain ⟨cs, rfl, h2⟩ := ones_of ys fun z hz => h z (List.mem_cons_of_mem _ hz)
    exact ⟨c :: cs, rfl, fun d hd => by
      rcases List.mem_cons.mp hd with rfl | hd
      · exact hc
      · exact h2 d hd⟩
theorem draw_at {i : Nat} {ρ : Sl} {d : DEx} {n : Int} {Ψ : D → Sl → Prop} {Φ : XP} (e : atS ρ i = .dk) (h0 : 0 < n) (h1 : n < 2 ^ 62) (hd : ∀ Ψ' : D → Sl → Prop, Ψ' (.int n) ρ → d ρ Ψ' Φ) (h : ∀ z : Int, 0 ≤ z → z < n → Ψ (.int z) ρ) : dCall spDraw (aDk i (aCons d aNil)) ρ Ψ Φ := by
  unfold dCall aDk
  rw [e]
  exact hd _ ⟨n, rfl, h0, h1, fun z z0 z1 => h z z0 z1⟩
theorem ones_sum (cs : List Nat) : ((cs.map fun c => (⟨#[c]⟩ : Str)).map (·.length)).sum = cs.length := by
  induction cs with
  | nil => rfl
  | cons c cs ih =>
    rw [List.map_cons, List.map_cons, List.sum_cons, ih, List.length_cons, Nat.add_comm]
    rfl
end TM
namespace TM
open L2 PySem.Spec PySem PyProof.Rows
/-! ### the module: valid calls -/
def lets (s : Str) : Prop := ∀ c ∈ s.cps.toList, letterC c = true
structure BookOk (ws : List Str) : Prop where
  nd : ws.Nodup
  few : ws.length < 4000
  word : ∀ w ∈ ws, lets w ∧ 1 ≤ w.length ∧ w.length ≤ 1000
abbrev bk (ws : List Str) : D := .list (ws.map .str)
def ans (ws : List Str) (b : Str) (n : Nat) : List Str := (ws.filter fun w => Txt.startswith w b).take n
def sp_is_integer : DSp := fun es Ψ _ => ∃ v lo hi : Int, es = [.fz (.int v), .fz (.int lo), .fz (.int hi)] ∧ lo ≤ v ∧ v ≤ hi ∧ Ψ (.fz (.bool true))
def sp_is_limit : DSp := fun es Ψ _ => ∃ v : Int, es = [.fz (.int v)] ∧ 1 ≤ v ∧ v ≤ 20 ∧ Ψ (.fz (.bool true))
def sp_are_different_words : DSp := fun es Ψ _ => ∃ ws : List Str, es = [.fz (bk ws)] ∧ BookOk ws ∧ Ψ (.fz (.bool true))
def sp_require_dictionary : DSp := fun es Ψ _ => ∃ ws : List Str, es = [.fz (bk ws)] ∧ BookOk ws ∧ Ψ (.fz .none)
def sp_require_beginning : DSp := fun es Ψ _ => ∃ b : Str, es = [.fz (.str b)] ∧ lets b ∧ b.length ≤ sizeLine ∧ Ψ (.fz .none)
def sp_require_limit : DSp := fun es Ψ _ => ∃ v : Int, es = [.fz (.int v)] ∧ 1 ≤ v ∧ v ≤ 20 ∧ Ψ (.fz .none)
def sp_matching : DSp := fun es Ψ _ => ∃ (ws : List Str) (b : Str), es = [.fz (bk ws), .fz (.str b)] ∧ ws.length ≤ sizeLine ∧ Ψ (.ow ((ws.filter fun w => Txt.startswith w b).map .str))
def sp_answer_in : DSp := fun es Ψ _ => ∃ (ws : List Str) (b : Str) (n : Nat), es = [.fz (bk ws), .fz (.str b), .fz (.int (n : Nat))] ∧ ws.length ≤ sizeLine ∧ Ψ (.ow ((ans ws b n).map .str))
def sp_answer_of : DSp := fun es Ψ _ => ∃ (ws : List Str) (b : Str) (n : Nat), es = [.fz (bk ws), .fz (.str b), .fz (.int (n : Nat))] ∧ BookOk ws ∧ lets b ∧ b.length ≤ sizeLine ∧ 1 ≤ n ∧ n ≤ 20 ∧ Ψ (.ow ((ans ws b n).map .str))
theorem few_line {n : Nat} (h : n < 4000) : n ≤ sizeLine := by
  rw [sizeLine_eq]
  omega
theorem all_letters {s : Str} (h : lets s) : s.cps.toList.all letterC = true := List.all_eq_true.mpr h
def swD (b : Str) : D → Bool
  | .str w => Txt.startswith w b
  | _ => false
theorem filter_sw (b : Str) (ws : List Str) : (ws.map PyData.str).filter (swD b) = (ws.filter fun w => Txt.startswith w b).map PyData.str := by
  induction ws with
  | nil => rfl
  | cons w ws ih =>
    rw [List.map_cons]
    by_cases e : Txt.startswith w b = true
    · rw [List.filter_cons_of_pos (show swD b (.str w) = true from e), List.filter_cons_of_pos (p := fun w => Txt.startswith w b) e, List.map_cons, ih]
    · rw [List.filter_cons_of_neg (show ¬ swD b (.str w) = true from e), List.filter_cons_of_neg (p := fun w => Txt.startswith w b) e, ih]
theorem cutD_take {α : Type} (xs : List α) (n : Nat) : cutD xs none (some (n : Int)) = xs.take n := by
  unfold cutD
  rw [HT.sIx_none, HT.sIx_nat, List.drop_zero, Nat.sub_zero]
  by_cases h : n ≤ xs.length
  · rw [Nat.min_eq_left h]
  · rw [Nat.min_eq_right (by omega), List.take_of_length_le (Nat.le_refl _), List.take_of_length_le (by omega)]
theorem str_ext {a b : Str} (h : a.cps.toList = b.cps.toList) : a = b := by
  cases a with
  | mk x => cases b with
    | mk y => rw [show x = y from Array.toList_inj.mp h]
theorem sw_cut (w b : Str) : (cutS w none (some ((b.length : Nat) : Int)) == b) = Txt.startswith w b := by
  have e1 : (cutS w none (some ((b.length : Nat) : Int))).cps.toList = w.cps.toList.take b.length := by
    show ((w.cps.toList.drop (HT.sIx w.length 0 none)).take (HT.sIx w.length w.length (some ((b.length : Nat) : Int)) - HT.sIx w.length 0 none)) = _
    rw [HT.sIx_none, HT.sIx_nat, List.drop_zero, Nat.sub_zero]
    by_cases h : b.length ≤ w.length
    · rw [Nat.min_eq_left h]
    · have hw : w.cps.toList.length = w.length := (len_cps w).symm
      rw [Nat.min_eq_right (by omega), List.take_of_length_le (by omega), List.take_of_length_le (by omega)]
  rw [Bool.eq_iff_iff, beq_iff_eq]
  show _ ↔ ((decide (0 + b.length ≤ w.length) && PySem.Builtin.Str.subAt w b 0) = true)
  rw [Bool.and_eq_true, decide_eq_true_eq, PySem.StrLaws.subAt_eq, List.drop_zero, beq_iff_eq]
  constructor
  · intro h
    have h2 : w.cps.toList.take b.length = b.cps.toList := by rw [← e1, h]
    refine ⟨?_, h2⟩
    have := congrArg List.length h2
    rw [List.length_take, ← len_cps, ← len_cps] at this
    omega
  · rintro ⟨_, h2⟩
    exact str_ext (e1.trans h2)
end TM
namespace TM
open L2 PySem.Spec PySem PyProof.Rows
/-! ### reprs, by parts -/
/-- can be shown: at most n signs, at most k deep -/
structure Rw (d : D) (n k : Nat) : Prop where
  sh : d.showable = true
  dp : d.depth ≤ k
  ok : okW d
  wt : wtD d ≤ n
theorem Rw.up {d : D} {n k m j : Nat} (h : Rw d n k) (a : n ≤ m := by omega) (b : k ≤ j := by omega) : Rw d m j := ⟨h.sh, Nat.le_trans h.dp b, h.ok, Nat.le_trans h.wt a⟩
theorem Rw.text {s : Str} {n : Nat} (h : asc s) (l : s.length ≤ n) : Rw (.str s) (10 * n + 2) 0 := ⟨rfl, Nat.le_refl _, by
  simp only [okW]
  exact fun c hc => Nat.lt_trans (h c hc) (by decide), by
  simp only [wtD]
  omega⟩
theorem Rw.bool (b : Bool) : Rw (.bool b) 5 0 := ⟨rfl, Nat.le_refl _, by simp only [okW], by simp only [wtD]; omega⟩
theorem Rw.none : Rw .none 5 0 := ⟨rfl, Nat.le_refl _, by simp only [okW], by simp only [wtD]; omega⟩
theorem wi_small : ∀ n ∈ List.range 64, (PyData.shown (.int ((n : Nat) : Int))).length ≤ 20 := by decide +kernel
theorem Rw.small {n : Nat} (h : n < 64) : Rw (.int ((n : Nat) : Int)) 20 0 := ⟨by
  simp only [PyData.showable]
  refine decide_eq_true ?_
  have : ((n : Nat) : Int).natAbs = n := rfl
  rw [this]
  have h1 : n.log2 ≤ n := Nat.log2_le_self n
  omega, Nat.le_refl _, by simp only [okW], by
  simp only [wtD]
  unfold wi
  exact wi_small n (List.mem_range.mpr h)⟩
theorem Rw.all {n k : Nat} : ∀ {ds : List D}, (∀ d ∈ ds, Rw d n k) → PyData.showableAll ds = true ∧ PyData.depthAll ds ≤ k ∧ okWAll ds
  | [], _ => ⟨rfl, Nat.zero_le _, by simp only [okWAll]⟩
  | d :: ds, h => by
    obtain ⟨a, b, c⟩ := Rw.all fun x hx => h x (List.mem_cons_of_mem _ hx)
    have hd := h d List.mem_cons_self
    refine ⟨?_, ?_, ?_⟩
    · simp only [PyData.showableAll, hd.sh, a, Bool.and_self]
    · simp only [PyData.depthAll]
      exact Nat.max_le.mpr ⟨hd.dp, b⟩
    · simp only [okWAll]
      exact ⟨hd.ok, c⟩
theorem Rw.list {n k m : Nat} {ds : List D} (h : ∀ d ∈ ds, Rw d n k) (l : ds.length ≤ m) : Rw (.list ds) (2 + m * (n + 2)) (k + 1) := by
  obtain ⟨a, b, c⟩ := Rw.all h
  refine ⟨by simp only [PyData.showable, a], by simp only [PyData.depth]; omega, by simp only [okW, c], ?_⟩
  have := wtAll_le n ds fun d hd => (h d hd).wt
  have e : ds.length * (n + 2) ≤ m * (n + 2) := Nat.mul_le_mul_right _ l
  simp only [wtD]
  omega
theorem Rw.tuple {n k m : Nat} {ds : List D} (h : ∀ d ∈ ds, Rw d n k) (l : ds.length ≤ m) : Rw (.tuple ds) (3 + m * (n + 2)) (k + 1) := by
  obtain ⟨a, b, c⟩ := Rw.all h
  refine ⟨by simp only [PyData.showable, a], by simp only [PyData.depth]; omega, by simp only [okW, c], ?_⟩
  have := wtAll_le n ds fun d hd => (h d hd).wt
  have e : ds.length * (n + 2) ≤ m * (n + 2) := Nat.mul_le_mul_right _ l
  simp only [wtD]
  omega
theorem Rw.tri {n1 n2 n3 k : Nat} {a b c : D} (h1 : Rw a n1 k) (h2 : Rw b n2 k) (h3 : Rw c n3 k) : Rw (.tuple [a, b, c]) (9 + n1 + n2 + n3) (k + 1) := by
  refine ⟨by simp only [PyData.showable, PyData.showableAll, h1.sh, h2.sh, h3.sh, Bool.and_self], ?_, by simp only [okW, okWAll, h1.ok, h2.ok, h3.ok, and_self], ?_⟩
  · have := h1.dp
    have := h2.dp
    have := h3.dp
    simp only [PyData.depth, PyData.depthAll]
    omega
  · have := h1.wt
    have := h2.wt
    have := h3.wt
    simp only [wtD, wtAll]
    omega
theorem Rw.pair {n1 n2 k : Nat} {a b : D} (h1 : Rw a n1 k) (h2 : Rw b n2 k) : Rw (.list [a, b]) (6 + n1 + n2) (k + 1) := by
  refine ⟨by simp only [PyData.showable, PyData.showableAll, h1.sh, h2.sh, Bool.and_self], ?_, by simp only [okW, okWAll, h1.ok, h2.ok, and_self], ?_⟩
  · have := h1.dp
    have := h2.dp
    simp only [PyData.depth, PyData.depthAll]
    omega
  · have := h1.wt
    have := h2.wt
    simp only [wtD, wtAll]
    omega
theorem Rw.repr {d : D} {n k : Nat} (h : Rw d n k) (hn : n ≤ 16000000) (hk : k ≤ 50) : d.showable = true ∧ d.depth ≤ 50 ∧ d.shown.length ≤ sizeLine := ⟨h.sh, Nat.le_trans h.dp hk, by
  refine Nat.le_trans (shown_le _ h.ok) ?_
  have := h.wt
  rw [sizeLine_eq]
  omega⟩
theorem lets_asc {s : Str} (h : lets s) : asc s := fun c hc => by
  have := h c hc
  unfold letterC at this
  simp only [Bool.and_eq_true, decide_eq_true_eq] at this
  omega
theorem Rw.book {ws : List Str} {n m : Nat} (h : ∀ w ∈ ws, lets w ∧ w.length ≤ m) (l : ws.length ≤ n) : Rw (bk ws) (2 + n * (10 * m + 4)) 1 := Rw.list (fun d hd => by
  obtain ⟨w, hw, rfl⟩ := List.mem_map.mp hd
  exact Rw.text (lets_asc (h w hw).1) (h w hw).2) (by rw [List.length_map]; exact l)
/-! ### tests of a small number -/
theorem gEq_int {a b : Int} {κ : D → Prop} (h : κ (.bool (a == b))) : gEq (.int a) (.int b) κ := .inl ⟨shaped_int a, shaped_int b, by
  have e : PyData.eqv (.int a) (.int b) = (a == b) := by simp [PyData.eqv]
  rw [e]
  exact h⟩
theorem way_no {i : Nat} {v w : Int} {a b : DSx} {ρ : Sl} {E : DEnds} (e : atS ρ i = .fz (.int v)) (n : v ≠ w) (h : b ρ E) : sIf (dTst (dOp2 gEq (dVar i) (dC (.int w)))) a b ρ E := by
  simp only [sIf, dTst, dOp2, dVar, e, dC]
  refine gEq_int ?_
  rw [show (v == w) = false from beq_eq_false_iff_ne.mpr n]
  exact h
theorem way_yes {i : Nat} {v w : Int} {a b : DSx} {ρ : Sl} {E : DEnds} (e : atS ρ i = .fz (.int v)) (n : v = w) (h : a ρ E) : sIf (dTst (dOp2 gEq (dVar i) (dC (.int w)))) a b ρ E := by
  simp only [sIf, dTst, dOp2, dVar, e, dC]
  refine gEq_int ?_
  rw [show (v == w) = true from beq_iff_eq.mpr n]
  exact h
theorem way_andNo {i : Nat} {v w : Int} {t : DTx} {a b : DSx} {ρ : Sl} {E : DEnds} (e : atS ρ i = .fz (.int v)) (n : v ≠ w) (h : b ρ E) : sIf (dAndT (dTst (dOp2 gEq (dVar i) (dC (.int w)))) t) a b ρ E := by
  simp only [sIf, dAndT, dTst, dOp2, dVar, e, dC]
  refine gEq_int ?_
  rw [show (v == w) = false from beq_eq_false_iff_ne.mpr n]
  exact h
theorem way_andYes {i : Nat} {v w : Int} {t : DTx} {a b : DSx} {ρ : Sl} {E : DEnds} (e : atS ρ i = .fz (.int v)) (n : v = w) (h : sIf t a b ρ E) : sIf (dAndT (dTst (dOp2 gEq (dVar i) (dC (.int w)))) t) a b ρ E := by
  simp only [sIf, dAndT, dTst, dOp2, dVar, e, dC] at h ⊢
  refine gEq_int ?_
  rw [show (v == w) = true from beq_iff_eq.mpr n]
  exact h
/-- x == [] -/
theorem nil_test {i : Nat} {ds : List D} {a b : DSx} {ρ : Sl} {E : DEnds} (e : atS ρ i = .fz (.list ds)) (sh : SeqAt.shaped (.list ds) = true) (h0 : ds = [] → a ρ E) (h1 : ds ≠ [] → b ρ E) : sIf (dTst (dOp2 gEq (dVar i) (dFz (oLst aNil)))) a b ρ E := by
  simp only [sIf, dTst, dOp2, dVar, e, dFz, oLst, aNil, dataOf]
  refine ⟨by decide, .inl ⟨sh, by decide, ?_⟩⟩
  cases ds with
  | nil =>
    rw [eqv_nil]
    exact h0 rfl
  | cons d ds =>
    rw [eqv_nil_ne]
    exact h1 (fun z => nomatch z)
/-- x != [] -/
theorem some_test {i : Nat} {ds : List D} {a b : DSx} {ρ : Sl} {E : DEnds} (e : atS ρ i = .fz (.list ds)) (sh : SeqAt.shaped (.list ds) = true) (h0 : ds ≠ [] → a ρ E) (h1 : ds = [] → b ρ E) : sIf (dTst (dOp2 gNe (dVar i) (dFz (oLst aNil)))) a b ρ E := by
  simp only [sIf, dTst, dOp2, dVar, e, dFz, oLst, aNil, dataOf]
  refine ⟨by decide, .inl ⟨sh, by decide, ?_⟩⟩
  cases ds with
  | nil =>
    rw [eqv_nil]
    exact h1 rfl
  | cons d ds =>
    rw [eqv_nil_ne]
    exact h0 (fun z => nomatch z)
end TM
namespace TM
open L2 PySem.Spec PySem PyProof.Rows
structure Scr where
  b : Str
  n : Nat
  sh : List Str
abbrev Scr.d (s : Scr) : D := .tuple [.str s.b, .int (s.n : Nat), bk s.sh]
structure ScrOk (s : Scr) : Prop where
  lb : lets s.b
  bz : s.b.length ≤ 2000
  n1 : 1 ≤ s.n
  n2 : s.n ≤ 20
  sh : BookOk s.sh
  few : s.sh.length ≤ s.n
  sw : ∀ w ∈ s.sh, Txt.startswith w s.b = true
abbrev scs (l : List Scr) : D := .list (l.map Scr.d)
def shows (ws : List Str) (s : Scr) : Bool := ans ws s.b s.n == s.sh
theorem eqv_strs : ∀ a b : List Str, PyData.eqvAll (a.map .str) (b.map .str) = (a == b)
  | [], [] => by simp [PyData.eqvAll]
  | [], _ :: _ => by simp [PyData.eqvAll]
  | _ :: _, [] => by simp [PyData.eqvAll]
  | x :: a, y :: b => by
    simp only [List.map_cons, PyData.eqvAll, PyData.eqv, eqv_strs a b]
    rfl
theorem shaped_book {ws : List Str} (h : ∀ w ∈ ws, lets w) : SeqAt.shaped (bk ws) = true := shaped_list fun x hx => by
  obtain ⟨w, hw, rfl⟩ := List.mem_map.mp hx
  exact ⟨strOk_asc (lets_asc (h w hw)), rfl⟩
theorem ans_mem {ws : List Str} {b w : Str} {n : Nat} (h : w ∈ ans ws b n) : w ∈ ws ∧ Txt.startswith w b = true := by
  unfold ans at h
  exact List.mem_filter.mp (List.mem_of_mem_take h)
theorem word_line {ws : List Str} (h : BookOk ws) : ∀ w ∈ ws, w.length ≤ sizeLine := fun w hw => by
  rw [sizeLine_eq]
  have := (h.word w hw).2.2
  omega
/-- made of the book -/
structure Made (ws : List Str) (s : Scr) : Prop where
  ok : ScrOk s
  bz : s.b.length ≤ 110
  wz : ∀ w ∈ s.sh, w.length ≤ 120
  eq : shows ws s = true
def stOk (s : Str) : Prop := lets s ∧ s.length ≤ 110
theorem book_ans {ws : List Str} (h : BookOk ws) (b : Str) (n : Nat) : BookOk (ans ws b n) := by
  refine ⟨?_, ?_, fun w hw => h.word w (ans_mem hw).1⟩
  · unfold ans
    exact List.Nodup.sublist (List.Sublist.trans (List.take_sublist _ _) List.filter_sublist) h.nd
  · have : (ans ws b n).length ≤ ws.length := by
      unfold ans
      exact Nat.le_trans (List.length_take_le' _ _) (List.length_filter_le _ _)
    have := h.few
    omega
theorem made_of {ws : List Str} (h : BookOk ws) (wl : ∀ w ∈ ws, w.length ≤ 100) {b : Str} (hb : stOk b) {n : Nat} (n1 : 1 ≤ n) (n2 : n ≤ 20) : Made ws ⟨b, n, ans ws b n⟩ where
  ok := {
    lb := hb.1
    bz := by
      have := hb.2
      show b.length ≤ 2000
      omega
    n1 := n1
    n2 := n2
    sh := book_ans h b n
    few := by
      show (ans ws b n).length ≤ n
      unfold ans
      exact List.length_take_le _ _
    sw := fun w hw => (ans_mem hw).2 }
  bz := hb.2
  wz := fun w hw => by
    have := wl w (ans_mem hw).1
    omega
  eq := by
    show (ans ws b n == ans ws b n) = true
    exact beq_self_eq_true _
theorem cutD_map {α β : Type} (f : α → β) (xs : List α) (lo hi : Option Int) : cutD (xs.map f) lo hi = (cutD xs lo hi).map f := by
  unfold cutD
  rw [List.length_map, ← List.map_drop, ← List.map_take]
theorem cutD_drop {α : Type} (xs : List α) (n : Nat) : cutD xs (some (n : Int)) none = xs.drop n := by
  unfold cutD
  rw [HT.sIx_none, HT.sIx_nat]
  by_cases h : n ≤ xs.length
  · rw [Nat.min_eq_left h, List.take_of_length_le (by rw [List.length_drop]; omega)]
  · rw [Nat.min_eq_right (by omega), List.drop_of_length_le (Nat.le_refl _), List.drop_of_length_le (by omega), List.take_nil]
theorem cutD_mid {α : Type} (xs : List α) (n k : Nat) : cutD xs (some (n : Int)) (some ((n : Int) + (k : Int))) = (xs.drop n).take k := by
  unfold cutD
  rw [show (n : Int) + (k : Int) = ((n + k : Nat) : Int) by push_cast; rfl, HT.sIx_nat, HT.sIx_nat]
  by_cases h : n ≤ xs.length
  · rw [Nat.min_eq_left h]
    by_cases h2 : n + k ≤ xs.length
    · rw [Nat.min_eq_left h2, show n + k - n = k by omega]
    · rw [Nat.min_eq_right (by omega), List.take_of_length_le (by rw [List.length_drop]; omega), List.take_of_length_le (by rw [List.length_drop]; omega)]
  · rw [List.drop_of_length_le (show xs.length ≤ min n xs.length by omega), List.drop_of_length_le (show xs.length ≤ n by omega), List.take_nil, List.take_nil]
/-- two neighbours exchanged -/
theorem swap_perm {α : Type} (xs : List α) (n : Nat) : (xs.take n ++ ((xs.drop n).take 2).reverse ++ xs.drop (n + 2)).Perm xs := by
  have e : xs = xs.take n ++ ((xs.drop n).take 2 ++ xs.drop (n + 2)) := by
    conv => lhs; rw [← List.take_append_drop n xs]
    congr 1
    conv => lhs; rw [← List.take_append_drop 2 (xs.drop n)]
    rw [List.drop_drop]
  conv => rhs; rw [e]
  rw [List.append_assoc]
  exact List.Perm.append_left _ (List.Perm.append_right _ (List.reverse_perm _))
theorem less_sub {α : Type} (xs : List α) (n : Nat) : (xs.take n ++ xs.drop (n + 1)).Sublist xs := by
  conv => rhs; rw [← List.take_append_drop n xs]
  refine List.Sublist.append (List.Sublist.refl _) ?_
  rw [show n + 1 = n + 1 from rfl, ← List.drop_drop]
  exact List.drop_sublist _ _
theorem more_perm {α : Type} (xs : List α) (n : Nat) (x : α) : (xs.take n ++ [x] ++ xs.drop n).Perm (x :: xs) := by
  conv => rhs; rw [← List.take_append_drop n xs]
  rw [List.append_assoc]
  exact List.perm_middle
structure Bk (ws : List Str) (n : Nat) : Prop where
  ok : BookOk ws
  len : ws.length ≤ n
  wl : ∀ w ∈ ws, w.length ≤ 100
theorem Bk.perm {ws vs : List Str} {n : Nat} (h : Bk ws n) (p : vs.Perm ws) : Bk vs n :=
  ⟨⟨p.symm.nodup h.ok.nd, by rw [p.length_eq]; exact h.ok.few, fun w hw => h.ok.word w (p.mem_iff.mp hw)⟩, by rw [p.length_eq]; exact h.len, fun w hw => h.wl w (p.mem_iff.mp hw)⟩
theorem Bk.sub {ws vs : List Str} {n : Nat} (h : Bk ws n) (p : vs.Sublist ws) : Bk vs n :=
  ⟨⟨p.nodup h.ok.nd, Nat.lt_of_le_of_lt p.length_le h.ok.few, fun w hw => h.ok.word w (p.subset hw)⟩, Nat.le_trans p.length_le h.len, fun w hw => h.wl w (p.subset hw)⟩
theorem Bk.cons {ws : List Str} {n : Nat} {w : Str} (h : Bk ws n) (hn : n < 3000) (no : w ∉ ws) (l : lets w) (w1 : 1 ≤ w.length) (w2 : w.length ≤ 100) : Bk (w :: ws) (n + 1) := by
  have := h.len
  refine ⟨⟨List.nodup_cons.mpr ⟨no, h.ok.nd⟩, by rw [List.length_cons]; omega, fun v hv => ?_⟩, by rw [List.length_cons]; omega, fun v hv => ?_⟩
  · rcases List.mem_cons.mp hv with rfl | hv
    · exact ⟨l, w1, by omega⟩
    · exact h.ok.word v hv
  · rcases List.mem_cons.mp hv with rfl | hv
    · exact w2
    · exact h.wl v hv
theorem Bk.up {ws : List Str} {n m : Nat} (h : Bk ws n) (l : n ≤ m) : Bk ws m := ⟨h.ok, Nat.le_trans h.len l, h.wl⟩
theorem any_str (ws : List Str) (s : Str) : ((ws.map PyData.str).any fun z => PyData.eqv z (.str s)) = decide (s ∈ ws) := by
  induction ws with
  | nil => simp
  | cons w ws ih =>
    rw [List.map_cons, List.any_cons, ih]
    have : PyData.eqv (.str w) (.str s) = (w == s) := by simp [PyData.eqv]
    rw [this]
    by_cases h : w = s
    · subst h
      simp
    · have h2 : (w == s) = false := beq_eq_false_iff_ne.mpr h
      rw [h2, Bool.false_or, decide_eq_decide]
      simp [Ne.symm h]
theorem abc_lets : lets "abc" := by
  unfold lets
  decide
theorem lets_cut {s : Str} {lo hi : Option Int} (h : lets s) : lets (cutS s lo hi) := fun c hc => h c (cutS_mem hc)
theorem lets_app {a b : Str} (h1 : lets a) (h2 : lets b) : lets (a ++ b) := by
  intro c hc
  rw [app_cps, List.mem_append] at hc
  rcases hc with hc | hc
  · exact h1 c hc
  · exact h2 c hc
theorem lets_em : lets "" := by
  unfold lets
  decide
theorem lets_x : lets "x" := by
  unfold lets
  decide
theorem lets_a : lets "a" := by
  unfold lets
  decide
theorem lets_ab : lets "ab" := by
  unfold lets
  decide
theorem lenA : (("a" : Str)).length = 1 := by decide
/-- a screen with bounds -/
structure Scb (s : Scr) : Prop where
  ok : ScrOk s
  bz : s.b.length ≤ 110
  wz : ∀ w ∈ s.sh, w.length ≤ 120
theorem canLay_strs : ∀ l : List Str, (∀ w ∈ l, lets w) → PyData.canLayAll0 (l.map .str) = true
  | [], _ => rfl
  | w :: l, h => by
    simp only [List.map_cons, PyData.canLayAll0, PyData.canLay0, Bool.and_eq_true]
    exact ⟨strOk_asc (lets_asc (h w List.mem_cons_self)), canLay_strs l fun x hx => h x (List.mem_cons_of_mem _ hx)⟩
theorem depth_strs : ∀ l : List Str, PyData.depthAll (l.map .str) = 0
  | [] => rfl
  | w :: l => by
    simp only [List.map_cons, PyData.depthAll, PyData.depth, depth_strs l]
    rfl
theorem scr_lay {s : Scr} (h : ScrOk s) : PyData.canLay0 s.d = true ∧ s.d.depth = 2 := by
  constructor
  · simp only [Scr.d, bk, PyData.canLay0, PyData.canLayAll0, Bool.and_eq_true, Bool.and_true]
    exact ⟨strOk_asc (lets_asc h.lb), trivial, canLay_strs s.sh fun w hw => (h.sh.word w hw).1⟩
  · simp only [Scr.d, bk, PyData.depth, PyData.depthAll, depth_strs]
    rfl
theorem shaped_scs {l : List Scr} (h : ∀ s ∈ l, ScrOk s) : SeqAt.shaped (scs l) = true := by
  have a : ∀ k : List Scr, (∀ s ∈ k, ScrOk s) → PyData.canLayAll0 (k.map Scr.d) = true ∧ PyData.depthAll (k.map Scr.d) ≤ 2 := by
    intro k
    induction k with
    | nil => intro _; exact ⟨rfl, Nat.zero_le _⟩
    | cons s k ih =>
      intro h
      obtain ⟨h1, h2⟩ := ih fun x hx => h x (List.mem_cons_of_mem _ hx)
      obtain ⟨h3, h4⟩ := scr_lay (h s List.mem_cons_self)
      simp only [List.map_cons, PyData.canLayAll0, PyData.depthAll, h1, h3, h4, Bool.and_self]
      exact ⟨trivial, by omega⟩
  obtain ⟨h1, h2⟩ := a l h
  unfold SeqAt.shaped
  simp only [scs, PyData.canLay0, PyData.depth, h1, Bool.true_and]
  exact decide_eq_true (by omega)
def termOk (L : Str) (most : Int) (w : Str) : Prop := 1 ≤ w.length ∧ w.length ≤ most ∧ ∀ c ∈ w.cps.toList, c ∈ L.cps.toList
/-- new words for the same beginning and limit -/
theorem Scb.of {s : Scr} (h : Scb s) {n : Nat} {sh : List Str} (n1 : 1 ≤ n) (n2 : n ≤ 20) (few : sh.length ≤ n) (nd : sh.Nodup) (hw : ∀ w ∈ sh, lets w ∧ 1 ≤ w.length ∧ w.length ≤ 120 ∧ Txt.startswith w s.b = true) : Scb ⟨s.b, n, sh⟩ :=
  ⟨⟨h.ok.lb, h.ok.bz, n1, n2, ⟨nd, by
    show sh.length < 4000
    omega, fun w m => ⟨(hw w m).1, (hw w m).2.1, by have := (hw w m).2.2.1; omega⟩⟩, few, fun w m => (hw w m).2.2.2⟩, h.bz, fun w m => (hw w m).2.2.1⟩
theorem Scb.word {s : Scr} (h : Scb s) : ∀ w ∈ s.sh, lets w ∧ 1 ≤ w.length ∧ w.length ≤ 120 ∧ Txt.startswith w s.b = true := fun w m => ⟨(h.ok.sh.word w m).1, (h.ok.sh.word w m).2.1, h.wz w m, h.ok.sw w m⟩
theorem Scb.perm {s : Scr} (h : Scb s) {sh : List Str} (p : sh.Perm s.sh) : Scb ⟨s.b, s.n, sh⟩ :=
  h.of h.ok.n1 h.ok.n2 (by rw [p.length_eq]; exact h.ok.few) (p.symm.nodup h.ok.sh.nd) fun w hw => h.word w (p.mem_iff.mp hw)
theorem Scb.sub {s : Scr} (h : Scb s) {sh : List Str} (p : sh.Sublist s.sh) : Scb ⟨s.b, s.n, sh⟩ :=
  h.of h.ok.n1 h.ok.n2 (Nat.le_trans p.length_le h.ok.few) (p.nodup h.ok.sh.nd) fun w hw => h.word w (p.subset hw)
theorem sw_app (b c : Str) : Txt.startswith (b ++ c) b = true := by
  rw [← sw_cut, beq_iff_eq]
  refine str_ext ?_
  show (((b ++ c).cps.toList.drop (HT.sIx (b ++ c).length 0 none)).take (HT.sIx (b ++ c).length (b ++ c).length (some ((b.length : Nat) : Int)) - HT.sIx (b ++ c).length 0 none)) = _
  rw [HT.sIx_none, HT.sIx_nat, List.drop_zero, Nat.sub_zero, app_cps, strLen_append, Nat.min_eq_left (by omega), List.take_left' (len_cps b).symm]
theorem fresh_ok {s : Scr} (h : Scb s) (k : Int) (h0 : 1 ≤ k) (h1 : k ≤ 3) : lets (s.b ++ strRep "ba" k.toNat) ∧ 1 ≤ (s.b ++ strRep "ba" k.toNat).length ∧ (s.b ++ strRep "ba" k.toNat).length ≤ 120 ∧ Txt.startswith (s.b ++ strRep "ba" k.toNat) s.b = true := by
  have e : (strRep "ba" k.toNat).length = 2 * k.toNat := strRep_len _ _
  have g : lets (strRep "ba" k.toNat) := by
    unfold lets
    rcases (show k = 1 ∨ k = 2 ∨ k = 3 by omega) with rfl | rfl | rfl <;> decide
  have := h.bz
  refine ⟨fun c hc => ?_, by rw [strLen_append, e]; omega, by rw [strLen_append, e]; omega, sw_app _ _⟩
  rw [app_cps] at hc
  rcases List.mem_append.mp hc with z | z
  · exact h.ok.lb c z
  · exact g c z
theorem scs_repr {vs : List Str} {k : List Scr} (hv : Bk vs 2001) (hk : k.length ≤ 20) (hs : ∀ s ∈ k, Scb s) : (PyData.list [bk vs, scs k]).showable = true ∧ (PyData.list [bk vs, scs k]).depth ≤ 50 ∧ (PyData.list [bk vs, scs k]).shown.length ≤ sizeLine := by
  have h1 : Rw (bk vs) _ _ := Rw.book (fun w hw => ⟨(hv.ok.word w hw).1, hv.wl w hw⟩) hv.len
  have h2 : Rw (scs k) _ _ := Rw.list (n := 40000) (k := 2) (fun d hd => by
    obtain ⟨s, hm, rfl⟩ := List.mem_map.mp hd
    have hb := hs s hm
    have a1 : Rw (.str s.b) _ 1 := (Rw.text (lets_asc hb.ok.lb) hb.bz).up (Nat.le_refl _)
    have a2 : Rw (.int ((s.n : Nat) : Int)) 20 1 := (Rw.small (by have := hb.ok.n2; omega)).up
    have a3 : Rw (bk s.sh) _ 1 := Rw.book (m := 120) (n := 20) (fun w hw => ⟨(hb.ok.sh.word w hw).1, hb.wz w hw⟩) (by have := hb.ok.few; have := hb.ok.n2; omega)
    exact (Rw.tri a1 a2 a3).up) (by rw [List.length_map]; exact hk)
  exact (Rw.pair (h1.up (Nat.le_refl _) (show 1 ≤ 3 by decide)) (h2.up (Nat.le_refl _) (Nat.le_refl _))).repr (by omega) (by omega)
theorem flat_bool (n : Nat) (b : Bool) : sameOk (n + 1) (.bool b) := trivial
theorem Made.scb {ws : List Str} {s : Scr} (h : Made ws s) : Scb s := ⟨h.ok, h.bz, h.wz⟩
/-- a drawn book -/
structure BkX (ws : List Str) : Prop where
  bk : Bk ws 2000
  no : ("x" : Str) ∉ ws
theorem bkx_of {ws : List Str} {L : Str} {most : Int} (hL : lets L) (hx : 120 ∉ L.cps.toList) (hm : most ≤ 100) (nd : ws.Nodup) (len : ws.length ≤ 2000) (tw : ∀ w ∈ ws, termOk L most w) : BkX ws :=
  ⟨⟨⟨nd, by omega, fun w hw => ⟨fun c hc => hL c ((tw w hw).2.2 c hc), (tw w hw).1, by have := (tw w hw).2.1; omega⟩⟩, len, fun w hw => by
    have := (tw w hw).2.1
    omega⟩, fun z => hx ((tw _ z).2.2 120 (by decide))⟩
theorem nil_ok : BookOk [] := ⟨by decide, by decide, fun w hw => nomatch hw⟩
theorem one_ok : BookOk ["ab"] := ⟨by decide, by decide, fun w hw => by
  rw [List.mem_singleton.mp hw]
  exact ⟨lets_ab, by decide, by decide⟩⟩
theorem scr_a : ScrOk ⟨"a", 1, []⟩ := ⟨lets_a, by decide, by decide, by decide, nil_ok, by decide, fun _ h => nomatch h⟩
def sp__law_answer : DSp := fun es Ψ _ => ∃ (ws : List Str) (b : Str) (n : Nat), es = [.fz (bk ws), .fz (.str b), .fz (.int (n : Nat))] ∧ BookOk ws ∧ b.length ≤ sizeLine ∧ Ψ (.ow ((ans ws b n).map .str))
def sp__law_start : DSp := fun es Ψ _ => ∃ ws : List Str, es = [.dk, .fz (bk ws)] ∧ BookOk ws ∧ (∀ w ∈ ws, w.length ≤ 100) ∧ ∀ s, stOk s → Ψ (.fz (.str s))
def sp__law_seen : DSp := fun es Ψ _ => ∃ (ws : List Str) (many wide : Nat), es = [.dk, .fz (bk ws), .fz (.int (many : Nat)), .fz (.int (wide : Nat))] ∧ BookOk ws ∧ (∀ w ∈ ws, w.length ≤ 100) ∧ many ≤ 20 ∧ 1 ≤ wide ∧ wide ≤ 20 ∧
  ∀ l : List Scr, l.length ≤ many → (∀ s ∈ l, Made ws s) → Ψ (.ow (l.map Scr.d))
def sp__law_terms : DSp := fun es Ψ _ => ∃ (many : Nat) (L : Str) (most : Int), es = [.dk, .fz (.int (many : Nat)), .fz (.str L), .fz (.int most)] ∧ many ≤ 1000 ∧ 1 ≤ L.length ∧ L.length ≤ 1048576 ∧ asc L ∧ 1 ≤ most ∧ most ≤ 1000 ∧
  ∀ ws : List Str, ws.Nodup → ws.length ≤ many → (1 ≤ many → ws ≠ []) → (∀ w ∈ ws, termOk L most w) → Ψ (.ow (ws.map .str))
def sp__law_bent : DSp := fun es Ψ _ => ∃ l : List Scr, es = [.dk, .fz (scs l)] ∧ l.length ≤ 20 ∧ (∀ s ∈ l, Scb s) ∧ ∀ k : List Scr, k.length ≤ 20 → (∀ s ∈ k, Scb s) → Ψ (.ow (k.map Scr.d))
def sp__law_shows : DSp := fun es Ψ _ => ∃ (ws : List Str) (l : List Scr), es = [.fz (bk ws), .fz (scs l)] ∧ BookOk ws ∧ l.length ≤ 20 ∧ (∀ s ∈ l, ScrOk s) ∧ Ψ (.fz (.bool (l.all (shows ws))))
def sp__law_other : DSp := fun es Ψ _ => ∃ ws : List Str, es = [.dk, .fz (bk ws)] ∧ Bk ws 2000 ∧ ∀ vs, Bk vs 2001 → Ψ (.fz (bk vs))
theorem scs_rw {k : List Scr} (hk : k.length ≤ 20) (hs : ∀ s ∈ k, Scb s) : Rw (scs k) (2 + 20 * (40000 + 2)) 3 := Rw.list (n := 40000) (k := 2) (fun d hd => by
  obtain ⟨s, hm, rfl⟩ := List.mem_map.mp hd
  have hb := hs s hm
  have a1 : Rw (.str s.b) _ 1 := (Rw.text (lets_asc hb.ok.lb) hb.bz).up (Nat.le_refl _)
  have a2 : Rw (.int ((s.n : Nat) : Int)) 20 1 := (Rw.small (by have := hb.ok.n2; omega)).up
  have a3 : Rw (bk s.sh) _ 1 := Rw.book (m := 120) (n := 20) (fun w hw => ⟨(hb.ok.sh.word w hw).1, hb.wz w hw⟩) (by have := hb.ok.few; have := hb.ok.n2; omega)
  exact (Rw.tri a1 a2 a3).up) (by rw [List.length_map]; exact hk)
theorem cutD_last {α : Type} (xs : List α) (n : Nat) (h : 0 < n) : cutD xs (some (-(n : Int))) none = xs.drop (xs.length - n) := by
  unfold cutD
  have e : HT.sIx xs.length 0 (some (-(n : Int))) = xs.length - n := by
    unfold HT.sIx
    simp only
    split <;> omega
  rw [HT.sIx_none, e, List.take_of_length_le (by rw [List.length_drop]; omega)]
end TM
namespace TM
open L2 PySem.Spec PySem PyProof.Rows
def sp_is_shown_list : DSp := fun es Ψ _ => ∃ s : Scr, es = [.fz (.str s.b), .fz (.int (s.n : Nat)), .fz (bk s.sh)] ∧ ScrOk s ∧ Ψ (.fz (.bool true))
def sp_has_screen_form : DSp := fun es Ψ _ => ∃ s : Scr, es = [.fz s.d] ∧ ScrOk s ∧ Ψ (.fz (.bool true))
def sp_has_screens_form : DSp := fun es Ψ _ => ∃ l : List Scr, es = [.fz (scs l)] ∧ l.length ≤ 20 ∧ (∀ s ∈ l, ScrOk s) ∧ Ψ (.fz (.bool true))
def sp_require_screens : DSp := fun es Ψ _ => ∃ l : List Scr, es = [.fz (scs l)] ∧ l.length ≤ 20 ∧ (∀ s ∈ l, ScrOk s) ∧ Ψ (.fz .none)
def sp_shows_all : DSp := fun es Ψ _ => ∃ (ws : List Str) (l : List Scr), es = [.fz (bk ws), .fz (scs l)] ∧ BookOk ws ∧ l.length ≤ 20 ∧ (∀ s ∈ l, ScrOk s) ∧ Ψ (.fz (.bool (l.all (shows ws))))
def sp_fits : DSp := fun es Ψ _ => ∃ (ws : List Str) (l : List Scr), es = [.fz (bk ws), .fz (scs l)] ∧ BookOk ws ∧ l.length ≤ 20 ∧ (∀ s ∈ l, ScrOk s) ∧ Ψ (.fz (.bool (l.all (shows ws))))
theorem fits_b {vs : List Str} {k : List Scr} (hv : BookOk vs) (hk : k.length ≤ 20) (hs : ∀ s ∈ k, ScrOk s) (b : Bool) (hb : k.all (shows vs) = b) {Ψ : Ent → Prop} {Φ} (h : Ψ (.fz (.bool b))) : sp_fits [.fz (bk vs), .fz (scs k)] Ψ Φ := ⟨vs, k, rfl, hv, hk, hs, by rw [hb]; exact h⟩
end TM
namespace TM
open L2 PySem.Spec PySem PyProof.Rows
theorem notN_test {i : Nat} {d : D} {a b : DSx} {ρ : Sl} {E : DEnds} (e : atS ρ i = .fz d) (h0 : d ≠ .none → a ρ E) (h1 : d = .none → b ρ E) : sIf (dTst (dIsN true (dVar i))) a b ρ E := by
  simp only [sIf, dTst, dIsN, dOp1, dVar, e, gIsN]
  cases d with
  | none => exact h1 rfl
  | _ => exact h0 (fun z => nomatch z)
theorem isN_test {i : Nat} {d : D} {a b : DSx} {ρ : Sl} {E : DEnds} (e : atS ρ i = .fz d) (h0 : d = .none → a ρ E) (h1 : d ≠ .none → b ρ E) : sIf (dTst (dIsN false (dVar i))) a b ρ E := by
  simp only [sIf, dTst, dIsN, dOp1, dVar, e, gIsN]
  cases d with
  | none => exact h0 rfl
  | _ => exact h1 (fun z => nomatch z)
/-! ### what screens put before what, and clashes -/
def short (s : Scr) : Bool := decide (s.sh.length < s.n)
def missW (s : Scr) (w : Str) : Bool := short s && (Txt.startswith w s.b && !(decide (w ∈ s.sh)))
/-- the words that stand before m -/
def befo (l : List Str) (m : Str) : List Str := l.takeWhile fun x => x != m
def puts (s : Scr) (w m : Str) : Bool := Txt.startswith m s.b && decide (w ∈ befo s.sh m)
def rowOf (s t : Scr) : List Str := s.sh.filter fun w => Txt.startswith w t.b
def mism : List Str → List Str → Option (Str × Str)
  | a :: as, b :: bs => if a = b then mism as bs else some (a, b)
  | _, _ => none
def ordC (s t : Scr) : Option (Str × Str) := mism (rowOf s t) (rowOf t s)
inductive Cl where
  | miss (i j : Nat) (w : Str)
  | ord (i j : Nat) (w m : Str)
def Cl.d : Cl → D
  | .miss i j w => .tuple [.str "missing", .int (i : Nat), .int (j : Nat), .str w]
  | .ord i j w m => .tuple [.str "order", .int (i : Nat), .int (j : Nat), .str w, .str m]
def two (s t : Scr) (i j : Nat) : Option Cl := match t.sh.filter (missW s) with
  | w :: _ => some (.miss i j w)
  | [] => (ordC s t).map fun p => .ord i j p.1 p.2
def Torn (l : List Scr) : Prop := ∃ s ∈ l, ∃ t ∈ l, (∃ w ∈ t.sh, missW s w = true) ∨ ∃ w ∈ s.sh, ∃ m ∈ t.sh, puts s w m = true ∧ puts t m w = true
theorem befo_mem {l : List Str} {w m : Str} (h : w ∈ befo l m) : w ∈ l := (List.takeWhile_sublist _).subset h
theorem befo_cons {l : List Str} {a w m : Str} : w ∈ befo (a :: l) m ↔ a ≠ m ∧ (w = a ∨ w ∈ befo l m) := by
  unfold befo
  rw [List.takeWhile_cons]
  by_cases e : a = m
  · rw [if_neg (by simpa using e)]
    exact ⟨fun h => (nomatch h), fun h => absurd e h.1⟩
  · rw [if_pos (by simpa using e), List.mem_cons]
    exact ⟨fun h => ⟨e, h⟩, fun h => h.2⟩
/-- not both ways -/
theorem befo_asym : ∀ {l : List Str} {w m : Str}, w ∈ befo l m → m ∈ befo l w → False
  | [], _, _, h, _ => nomatch h
  | a :: l, w, m, h1, h2 => by
    rw [befo_cons] at h1 h2
    rcases h2.2 with e | h3
    · exact h1.1 e.symm
    · rcases h1.2 with e | h4
      · exact h2.1 e.symm
      · exact befo_asym h4 h3
theorem befo_filter {q : Str → Bool} : ∀ {l : List Str} {w m : Str}, w ∈ befo l m → q w = true → w ∈ befo (l.filter q) m
  | [], _, _, h, _ => nomatch h
  | a :: l, w, m, h, hq => by
    rw [befo_cons] at h
    by_cases ha : q a = true
    · rw [List.filter_cons_of_pos ha, befo_cons]
      exact ⟨h.1, h.2.elim .inl fun h2 => .inr (befo_filter h2 hq)⟩
    · rw [List.filter_cons_of_neg ha]
      rcases h.2 with e | h2
      · rw [e] at hq
        exact absurd hq ha
      · exact befo_filter h2 hq
theorem befo_app {w m : Str} : ∀ {l : List Str} (x : List Str), w ∈ befo l m → w ∈ befo (l ++ x) m
  | [], _, h => nomatch h
  | a :: l, x, h => by
    rw [List.cons_append, befo_cons]
    rw [befo_cons] at h
    exact ⟨h.1, h.2.elim .inl fun h2 => .inr (befo_app x h2)⟩
theorem mism_some : ∀ {a b : List Str} {w m : Str}, mism a b = some (w, m) → ∃ p r1 r2, a = p ++ w :: r1 ∧ b = p ++ m :: r2 ∧ w ≠ m
  | [], _, _, _, h => by
    unfold mism at h
    cases h
  | _ :: _, [], _, _, h => by
    unfold mism at h
    cases h
  | x :: a, y :: b, w, m, h => by
    unfold mism at h
    by_cases e : x = y
    · rw [if_pos e] at h
      obtain ⟨p, r1, r2, h1, h2, h3⟩ := mism_some h
      exact ⟨x :: p, r1, r2, by rw [h1]; rfl, by rw [h2, e]; rfl, h3⟩
    · rw [if_neg e] at h
      cases h
      exact ⟨[], a, b, rfl, rfl, e⟩
theorem mism_none : ∀ {a b : List Str}, mism a b = none → (∃ x, b = a ++ x) ∨ ∃ x, a = b ++ x
  | [], b, _ => .inl ⟨b, rfl⟩
  | x :: a, [], _ => .inr ⟨x :: a, rfl⟩
  | x :: a, y :: b, h => by
    unfold mism at h
    by_cases e : x = y
    · rw [if_pos e] at h
      rcases mism_none h with ⟨z, hz⟩ | ⟨z, hz⟩
      · exact .inl ⟨z, by rw [hz, e]; rfl⟩
      · exact .inr ⟨z, by rw [hz, e]; rfl⟩
    · rw [if_neg e] at h
      cases h
theorem mism_pre : ∀ (a x : List Str), mism a (a ++ x) = none
  | [], _ => rfl
  | b :: a, x => by
    show (if b = b then mism a (a ++ x) else some (b, b)) = none
    rw [if_pos rfl, mism_pre a x]
theorem mism_pre2 : ∀ (a x : List Str), mism (a ++ x) a = none
  | [], x => by cases x <;> rfl
  | b :: a, x => by
    show (if b = b then mism (a ++ x) a else some (b, b)) = none
    rw [if_pos rfl, mism_pre2 a x]
theorem mism_common {a b c : List Str} (h1 : a <+: c) (h2 : b <+: c) : mism a b = none := by
  rcases List.prefix_or_prefix_of_prefix h1 h2 with h | h
  · obtain ⟨x, rfl⟩ := h
    exact mism_pre a x
  · obtain ⟨x, rfl⟩ := h
    exact mism_pre2 b x
/-- in the row w comes ahead of m: so it does in the whole -/
theorem row_befo {q : Str → Bool} {l p r1 : List Str} {w m : Str} (e : l.filter q = p ++ w :: r1) (hm : q m = true) (np : m ∉ p) (ne : w ≠ m) : w ∈ befo l m := by
  by_cases h : w ∈ befo l m
  · exact h
  exfalso
  have e1 : l = befo l m ++ l.dropWhile fun x => x != m := (List.takeWhile_append_dropWhile).symm
  have hw : w ∈ l.filter q := by
    rw [e]
    simp
  have hwl : w ∈ l := (List.mem_filter.mp hw).1
  cases ed : l.dropWhile (fun x => x != m) with
  | nil =>
    rw [ed, List.append_nil] at e1
    exact h (by rw [← e1]; exact hwl)
  | cons y B =>
    have hy : y = m := by
      have := List.head?_dropWhile_not (fun x => x != m) l
      rw [ed] at this
      simpa using this
    subst hy
    rw [ed] at e1
    have e2 : l.filter q = (befo l y).filter q ++ y :: B.filter q := by
      conv => lhs; rw [e1]
      rw [List.filter_append, List.filter_cons_of_pos hm]
    rw [e] at e2
    have nw : w ∉ (befo l y).filter q := fun z => h (List.mem_filter.mp z).1
    rcases List.append_eq_append_iff.mp e2 with ⟨a', h1, h2⟩ | ⟨c', h1, h2⟩
    · cases a' with
      | nil => exact ne (List.cons.inj h2).1
      | cons z a' =>
        have := (List.cons.inj h2).1
        rw [h1] at nw
        exact nw (by rw [this]; simp)
    · cases c' with
      | nil => exact ne (List.cons.inj h2).1.symm
      | cons z c' =>
        have := (List.cons.inj h2).1
        rw [h1] at np
        exact np (by rw [this]; simp)
theorem row_mem {s t : Scr} {w : Str} : w ∈ rowOf s t ↔ w ∈ s.sh ∧ Txt.startswith w t.b = true := List.mem_filter
theorem ord_puts {s t : Scr} (hs : ScrOk s) (ht : ScrOk t) {w m : Str} (h : ordC s t = some (w, m)) : w ∈ s.sh ∧ m ∈ t.sh ∧ puts s w m = true ∧ puts t m w = true := by
  obtain ⟨p, r1, r2, h1, h2, ne⟩ := mism_some h
  have hw : w ∈ rowOf s t := by rw [h1]; simp
  have hm : m ∈ rowOf t s := by rw [h2]; simp
  have n1 : (rowOf s t).Nodup := List.Nodup.sublist List.filter_sublist hs.sh.nd
  have n2 : (rowOf t s).Nodup := List.Nodup.sublist List.filter_sublist ht.sh.nd
  have np : m ∉ p := fun z => by
    rw [h2, List.nodup_append] at n2
    exact n2.2.2 m z m List.mem_cons_self rfl
  have np2 : w ∉ p := fun z => by
    rw [h1, List.nodup_append] at n1
    exact n1.2.2 w z w List.mem_cons_self rfl
  have w1 := row_mem.mp hw
  have m1 := row_mem.mp hm
  have b1 : w ∈ befo s.sh m := row_befo (q := fun w => Txt.startswith w t.b) h1 (ht.sw m m1.1) np ne
  have b2 : m ∈ befo t.sh w := row_befo (q := fun w => Txt.startswith w s.b) h2 (hs.sw w w1.1) np2 (Ne.symm ne)
  refine ⟨w1.1, m1.1, ?_, ?_⟩
  · unfold puts
    rw [m1.2, decide_eq_true b1]
    rfl
  · unfold puts
    rw [w1.2, decide_eq_true b2]
    rfl
theorem ord_none {s t : Scr} (h : ordC s t = none) {w m : Str} (hw : w ∈ s.sh) (hm : m ∈ t.sh) (h1 : puts s w m = true) (h2 : puts t m w = true) : False := by
  unfold puts at h1 h2
  rw [Bool.and_eq_true, decide_eq_true_eq] at h1 h2
  have a1 : w ∈ befo (rowOf s t) m := befo_filter h1.2 h2.1
  have a2 : m ∈ befo (rowOf t s) w := befo_filter h2.2 h1.1
  rcases mism_none h with ⟨x, hx⟩ | ⟨x, hx⟩
  · rw [hx] at a2
    exact befo_asym (befo_app x a1) a2
  · rw [hx] at a1
    exact befo_asym a1 (befo_app x a2)
theorem torn_iff {l : List Scr} (hs : ∀ s ∈ l, ScrOk s) : Torn l ↔ ∃ s ∈ l, ∃ t ∈ l, ∀ i j, two s t i j ≠ none := by
  constructor
  · rintro ⟨s, h1, t, h2, h⟩
    refine ⟨s, h1, t, h2, fun i j z => ?_⟩
    unfold two at z
    cases e : t.sh.filter (missW s) with
    | cons w r =>
      rw [e] at z
      cases z
    | nil =>
      rw [e] at z
      rcases h with ⟨w, hw, hm⟩ | ⟨w, hw, m, hm, p1, p2⟩
      · have : w ∈ t.sh.filter (missW s) := List.mem_filter.mpr ⟨hw, hm⟩
        rw [e] at this
        cases this
      · cases eo : ordC s t with
        | none => exact ord_none eo hw hm p1 p2
        | some p =>
          rw [eo] at z
          cases z
  · rintro ⟨s, h1, t, h2, h⟩
    refine ⟨s, h1, t, h2, ?_⟩
    have z := h 0 0
    unfold two at z
    cases e : t.sh.filter (missW s) with
    | cons w r =>
      have : w ∈ t.sh.filter (missW s) := by rw [e]; exact List.mem_cons_self
      exact .inl ⟨w, (List.mem_filter.mp this).1, (List.mem_filter.mp this).2⟩
    | nil =>
      rw [e] at z
      cases eo : ordC s t with
      | none =>
        rw [eo] at z
        exact absurd rfl z
      | some p =>
        obtain ⟨w, m⟩ := p
        obtain ⟨a, b, c, d⟩ := ord_puts (hs s h1) (hs t h2) eo
        exact .inr ⟨w, a, m, b, c, d⟩
/-- a clash tells the truth -/
def Cl.true (l : List Scr) : Cl → Prop
  | .miss i j w => ∃ s t, l[i]? = some s ∧ l[j]? = some t ∧ w ∈ t.sh ∧ missW s w = Bool.true
  | .ord i j w m => ∃ s t, l[i]? = some s ∧ l[j]? = some t ∧ w ∈ s.sh ∧ m ∈ t.sh ∧ puts s w m = Bool.true ∧ puts t m w = Bool.true
theorem two_true {l : List Scr} {i j : Nat} {s t : Scr} {c : Cl} (hi : l[i]? = some s) (hj : l[j]? = some t) (hs : ScrOk s) (ht : ScrOk t) (h : two s t i j = some c) : c.true l := by
  unfold two at h
  cases e : t.sh.filter (missW s) with
  | cons w r =>
    rw [e] at h
    cases h
    have : w ∈ t.sh.filter (missW s) := by rw [e]; exact List.mem_cons_self
    exact ⟨s, t, hi, hj, (List.mem_filter.mp this).1, (List.mem_filter.mp this).2⟩
  | nil =>
    rw [e] at h
    cases eo : ordC s t with
    | none =>
      rw [eo] at h
      cases h
    | some p =>
      obtain ⟨w, m⟩ := p
      rw [eo] at h
      cases h
      exact ⟨s, t, hi, hj, ord_puts hs ht eo⟩
/-- no clash of screens of one dictionary -/
theorem made_two {ws : List Str} {s t : Scr} (hs : Made ws s) (ht : Made ws t) (i j : Nat) : two s t i j = none := by
  have es : ans ws s.b s.n = s.sh := by simpa [shows] using hs.eq
  have et : ans ws t.b t.n = t.sh := by simpa [shows] using ht.eq
  have no : t.sh.filter (missW s) = [] := by
    rw [List.filter_eq_nil_iff]
    intro w hw z
    unfold missW short at z
    rw [Bool.and_eq_true, Bool.and_eq_true, decide_eq_true_eq, Bool.not_eq_true', decide_eq_false_iff_not] at z
    obtain ⟨z1, z2, z3⟩ := z
    rw [← et] at hw
    have hw2 := (ans_mem hw).1
    rw [← es] at z1 z3
    unfold ans at z1 z3
    rw [List.length_take] at z1
    rw [List.take_of_length_le (by omega)] at z3
    exact z3 (List.mem_filter.mpr ⟨hw2, z2⟩)
  have pre : ∀ (b c : Str) (n : Nat), (ans ws b n).filter (fun w => Txt.startswith w c) <+: ws.filter fun w => Txt.startswith w c && Txt.startswith w b := by
    intro b c n
    rw [← List.filter_filter]
    unfold ans
    exact List.IsPrefix.filter _ (List.take_prefix _ _)
  have p1 := pre s.b t.b s.n
  have p2 := pre t.b s.b t.n
  rw [es] at p1
  rw [et] at p2
  have e2 : (fun w : Str => Txt.startswith w s.b && Txt.startswith w t.b) = fun w => Txt.startswith w t.b && Txt.startswith w s.b := by
    funext w
    exact Bool.and_comm _ _
  rw [e2] at p2
  unfold two
  rw [no]
  have e3 : ordC s t = none := mism_common p1 p2
  rw [e3]
  rfl
end TM
namespace TM
open L2 PySem.Spec PySem PyProof.Rows
/-- texts and lists in it are not too long, n levels down -/
def fitD : Nat → D → Prop
  | _, .str s => s.length ≤ 10000
  | n + 1, .list ds => ds.length < 4000 ∧ ∀ x ∈ ds, fitD n x
  | n + 1, .tuple ds => ds.length < 4000 ∧ ∀ x ∈ ds, fitD n x
  | _, _ => True
theorem fitD.sz {n : Nat} {d : D} (h : fitD n d) : strSz d := by
  cases d with
  | str s =>
    show s.length ≤ sizeLine
    have h2 : s.length ≤ 10000 := by cases n <;> exact h
    rw [sizeLine_eq]
    omega
  | _ => trivial
def intIn (lo hi : Int) : D → Bool
  | .int v => decide (lo ≤ v) && decide (v ≤ hi)
  | _ => false
def strD : D → Option Str
  | .str s => some s
  | _ => none
theorem strD_map (ws : List Str) : (ws.map PyData.str).filterMap strD = ws := by
  induction ws with
  | nil => rfl
  | cons w ws ih => rw [List.map_cons, List.filterMap_cons_some (show strD (.str w) = some w from rfl), ih]
def wordsD : D → Bool
  | .list ds => ds.all wordD && decide (ds.filterMap strD).Nodup
  | _ => false
def shownD (b : Str) (n : Int) : D → Bool
  | .list ds => wordsD (.list ds) && decide ((ds.length : Int) ≤ n) && ds.all (swD b)
  | _ => false
def scr2 (z : D) : D → D → Bool
  | .str b, .int n => shownD b n z
  | _, _ => false
def scrD : D → Bool
  | .tuple [x, y, z] => lettersD x && intIn 1 20 y && scr2 z x y
  | _ => false
def scrsD : D → Bool
  | .list ds => decide (ds.length ≤ 20) && ds.all scrD
  | _ => false
def sj_is_integer : DSp := fun es Ψ _ => ∃ (d : D) (lo hi : Int), es = [.fz d, .fz (.int lo), .fz (.int hi)] ∧ Ψ (.fz (.bool (intIn lo hi d)))
def sj_is_limit : DSp := fun es Ψ _ => ∃ d : D, es = [.fz d] ∧ Ψ (.fz (.bool (intIn 1 20 d)))
def sj_are_different_words : DSp := fun es Ψ _ => ∃ d : D, es = [.fz d] ∧ fitD 1 d ∧ Ψ (.fz (.bool (wordsD d)))
def sj_is_shown_list : DSp := fun es Ψ _ => ∃ (b : Str) (n : Int) (d : D), es = [.fz (.str b), .fz (.int n), .fz d] ∧ fitD 1 d ∧ Ψ (.fz (.bool (shownD b n d)))
def sj_has_screen_form : DSp := fun es Ψ _ => ∃ d : D, es = [.fz d] ∧ fitD 2 d ∧ Ψ (.fz (.bool (scrD d)))
def sj_has_screens_form : DSp := fun es Ψ _ => ∃ d : D, es = [.fz d] ∧ fitD 3 d ∧ Ψ (.fz (.bool (scrsD d)))
/-- the number of different texts is that of all exactly if no two are the same -/
theorem dcF_lt : ∀ (xs : List Str) (i : Nat), i ≤ xs.length → (dcF xs i = i ↔ (xs.take i).Nodup) := by
  intro xs i
  induction i with
  | zero => intro _; simp [dcF]
  | succ i ih =>
    intro hi
    have hl : i < xs.length := by omega
    have ih := ih (by omega)
    have le := dcF_le xs i
    have e : xs.take (i + 1) = xs.take i ++ [xs[i]] := by
      rw [List.take_succ, List.getElem?_eq_getElem hl]
      rfl
    have ed : xs.getD i Str.empty = xs[i] := by
      rw [List.getD_eq_getElem?_getD, List.getElem?_eq_getElem hl]
      rfl
    rw [e, List.nodup_append]
    have hs : dcF xs (i + 1) = if (xs.take i).any (· == xs.getD i Str.empty) then dcF xs i else dcF xs i + 1 := rfl
    rw [hs, ed]
    by_cases m : xs[i] ∈ xs.take i
    · have a : (xs.take i).any (· == xs[i]) = true := by
        rw [List.any_eq_true]
        exact ⟨xs[i], m, beq_self_eq_true _⟩
      rw [if_pos a]
      constructor
      · intro z
        omega
      · rintro ⟨_, _, z⟩
        exact absurd rfl (z _ m _ (List.mem_singleton.mpr rfl))
    · have a : ¬ (xs.take i).any (· == xs[i]) = true := by
        rw [List.any_eq_true]
        rintro ⟨y, hy, z⟩
        rw [beq_iff_eq] at z
        exact m (z ▸ hy)
      rw [if_neg a]
      constructor
      · intro z
        refine ⟨ih.mp (by omega), by simp, fun y hy b hb => ?_⟩
        rw [List.mem_singleton.mp hb]
        exact fun w => m (w ▸ hy)
      · rintro ⟨z, _, _⟩
        rw [ih.mpr z]
theorem words_strs : ∀ ds : List D, ds.all wordD = true → ∃ ws : List Str, ds = ws.map .str ∧ ∀ w ∈ ws, (w.cps.toList.all letterC && !(w == "")) = true
  | [], _ => ⟨[], rfl, fun _ h => nomatch h⟩
  | d :: ds, h => by
    rw [List.all_cons, Bool.and_eq_true] at h
    obtain ⟨ws, rfl, hw⟩ := words_strs ds h.2
    cases d with
    | str s => exact ⟨s :: ws, rfl, fun w m => by
        rcases List.mem_cons.mp m with rfl | m
        · exact h.1
        · exact hw w m⟩
    | _ => cases h.1
def Fit (d : D) : Prop := ∀ n, fitD n d
theorem Fit.none : Fit .none := fun n => by cases n <;> trivial
theorem Fit.int {i : Int} : Fit (.int i) := fun n => by cases n <;> trivial
theorem Fit.bool {i : Bool} : Fit (.bool i) := fun n => by cases n <;> trivial
theorem Fit.dict {i : List (D × D)} : Fit (.dict i) := fun n => by cases n <;> trivial
theorem Fit.str {s : Str} (h : s.length ≤ 10000) : Fit (.str s) := fun n => by cases n <;> exact h
theorem Fit.list {ds : List D} (l : ds.length < 4000) (h : ∀ d ∈ ds, Fit d) : Fit (.list ds) := fun n => by
  cases n with
  | zero => trivial
  | succ n => exact ⟨l, fun x m => h x m n⟩
theorem Fit.tuple {ds : List D} (l : ds.length < 4000) (h : ∀ d ∈ ds, Fit d) : Fit (.tuple ds) := fun n => by
  cases n with
  | zero => trivial
  | succ n => exact ⟨l, fun x m => h x m n⟩
theorem Fit.one {x : D} (h : Fit x) : ∀ d ∈ [x], Fit d := fun d m => by
  rw [List.mem_singleton.mp m]
  exact h
theorem Fit.more {x : D} {ds : List D} (h : Fit x) (r : ∀ d ∈ ds, Fit d) : ∀ d ∈ x :: ds, Fit d := fun d m => by
  rcases List.mem_cons.mp m with rfl | m
  · exact h
  · exact r d m
theorem Fit.two {x y : D} (h : Fit x) (h2 : Fit y) : ∀ d ∈ [x, y], Fit d := h.more h2.one
theorem Fit.three {x y z : D} (h : Fit x) (h2 : Fit y) (h3 : Fit z) : ∀ d ∈ [x, y, z], Fit d := h.more (h2.two h3)
theorem Fit.bk {ws : List Str} (l : ws.length < 4000) (h : ∀ w ∈ ws, w.length ≤ 10000) : Fit (bk ws) := .list (by rw [List.length_map]; exact l) fun d m => by
  obtain ⟨w, hw, rfl⟩ := List.mem_map.mp m
  exact .str (h w hw)
theorem scr_ok {s : Scr} (h : ScrOk s) : scrD s.d = true := by
  have n1 := h.n1
  have n2 := h.n2
  have few := h.few
  show (lettersD (.str s.b) && (decide ((1 : Int) ≤ (s.n : Nat)) && decide (((s.n : Nat) : Int) ≤ 20)) && (((s.sh.map PyData.str).all wordD && decide ((s.sh.map PyData.str).filterMap strD).Nodup) && decide (((s.sh.map PyData.str).length : Int) ≤ (s.n : Nat)) && (s.sh.map PyData.str).all (swD s.b))) = true
  rw [strD_map, List.length_map, decide_eq_true h.sh.nd, decide_eq_true (show (1 : Int) ≤ (s.n : Nat) by omega), decide_eq_true (show ((s.n : Nat) : Int) ≤ 20 by omega), decide_eq_true (show (s.sh.length : Int) ≤ (s.n : Nat) by omega), show lettersD (.str s.b) = true from all_letters h.lb]
  have a1 : (s.sh.map PyData.str).all wordD = true := by
    rw [List.all_map, List.all_eq_true]
    intro w hw
    obtain ⟨h1, h2, h3⟩ := h.sh.word w hw
    show (w.cps.toList.all letterC && !(w == "")) = true
    rw [all_letters h1, Bool.true_and]
    have : (w == "") = false := by
      rw [beq_eq_false_iff_ne]
      rintro rfl
      exact absurd h2 (by decide)
    rw [this]
    rfl
  have a2 : (s.sh.map PyData.str).all (swD s.b) = true := by
    rw [List.all_map, List.all_eq_true]
    exact fun w hw => h.sw w hw
  rw [a1, a2]
  rfl
theorem scs_ok {l : List Scr} (hl : l.length ≤ 20) (hs : ∀ s ∈ l, ScrOk s) : scrsD (scs l) = true := by
  show (decide ((l.map Scr.d).length ≤ 20) && (l.map Scr.d).all scrD) = true
  rw [List.length_map, decide_eq_true hl, Bool.true_and, List.all_map, List.all_eq_true]
  exact fun s m => scr_ok (hs s m)
end TM
set_option pp.deepTerms.threshold 6
namespace TM
open L2 PySem.Spec PySem PyProof.Rows
/-- a comprehension over things that stand for others -/
theorem lc_on {α : Type} {t : Tg} {tt : DTx} {te : DEx} {vs : List Nat} {ρ : Sl} (g : α → D) (b : α → Sl) (f : α → D) (p : α → Bool) {Ψ : List D → Sl → Prop} : ∀ (xs : List α) (acc : List D), (∀ x ∈ xs, t.bind (g x) (wipeS ρ vs) = some (b x)) →
    (∀ x ∈ xs, ∀ Ψ : Bool → Sl → Prop, Ψ (p x) (b x) → tt (b x) Ψ noX) → (∀ x ∈ xs, p x = true → ∀ Ψ : D → Sl → Prop, Ψ (f x) (b x) → te (b x) Ψ noX) → (∀ x ∈ xs, back ρ (b x) vs = ρ) →
    acc.length + xs.length ≤ sizeLine → Ψ (acc ++ (xs.filter p).map f) ρ → lcR t tt te vs (xs.map g) acc ρ Ψ
  | [], acc, _, _, _, _, _, h => by
    unfold lcR
    simpa using h
  | x :: xs, acc, h1, h2, h3, h4, h5, h => by
    rw [List.map_cons]
    unfold lcR
    rw [h1 x List.mem_cons_self]
    refine h2 x List.mem_cons_self _ ?_
    rw [List.length_cons] at h5
    have more := fun (acc2 : List D) (l2 : acc2.length + xs.length ≤ sizeLine) h' => lc_on (t := t) (tt := tt) (te := te) (vs := vs) (ρ := ρ) g b f p (Ψ := Ψ) xs acc2 (fun y hy => h1 y (List.mem_cons_of_mem x hy)) (fun y hy => h2 y (List.mem_cons_of_mem x hy)) (fun y hy => h3 y (List.mem_cons_of_mem x hy)) (fun y hy => h4 y (List.mem_cons_of_mem x hy)) l2 h'
    cases e : p x with
    | false =>
      simp only [Bool.false_eq_true, if_false]
      rw [h4 x List.mem_cons_self]
      rw [List.filter_cons_of_neg (by rw [e]; decide)] at h
      exact more acc (by omega) h
    | true =>
      simp only [if_true]
      refine h3 x List.mem_cons_self e _ ⟨by omega, ?_⟩
      rw [h4 x List.mem_cons_self]
      rw [List.filter_cons_of_pos e] at h
      exact more (acc ++ [f x]) (by rw [List.length_append]; simp; omega) (by simpa using h)
theorem lm_on {α : Type} {t : Tg} {te : DEx} {vs : List Nat} {ρ : Sl} (g : α → D) (b : α → Sl) (f : α → D) {Ψ : List D → Sl → Prop} (xs : List α) (h1 : ∀ x ∈ xs, t.bind (g x) (wipeS ρ vs) = some (b x))
    (h3 : ∀ x ∈ xs, ∀ Ψ : D → Sl → Prop, Ψ (f x) (b x) → te (b x) Ψ noX) (h4 : ∀ x ∈ xs, back ρ (b x) vs = ρ) (h5 : xs.length ≤ sizeLine) (h : Ψ (xs.map f) ρ) : lcR t tYesD te vs (xs.map g) [] ρ Ψ :=
  lc_on g b f (fun _ => true) xs [] h1 (fun _ _ _ h => h) (fun x hx _ => h3 x hx) h4 (by simpa using h5) (by rw [filter_all]; exact h)
theorem enum_on {α : Type} (g : α → D) (xs : List α) : enumD (xs.map g) = xs.zipIdx.map fun p => .tuple [.int ((p.2 : Nat) : Int), g p.1] := by
  unfold enumD
  refine List.ext_getElem? fun i => ?_
  rw [List.getElem?_map, List.getElem?_map, List.getElem?_zipIdx, List.length_map]
  by_cases h : i < xs.length
  · rw [List.getElem?_range h, List.getElem?_eq_getElem h]
    simp [h]
  · rw [List.getElem?_eq_none (show (List.range xs.length).length ≤ i by rw [List.length_range]; omega), List.getElem?_eq_none (show xs.length ≤ i by omega)]
    rfl
/-! ### known words, reasons -/
def inK (l : List Scr) (w : Str) : Prop := ∃ s ∈ l, w ∈ s.sh
theorem total_scs : ∀ {l : List Scr}, (∀ s ∈ l, ScrOk s) → total (l.map Scr.sh) ≤ 20 * l.length
  | [], _ => Nat.le_refl _
  | s :: l, h => by
    have h1 := total_scs fun x m => h x (List.mem_cons_of_mem s m)
    have h2 := h s List.mem_cons_self
    have := h2.few
    have := h2.n2
    have e : total ((s :: l).map Scr.sh) = s.sh.length + total (l.map Scr.sh) := by
      unfold total
      simp
    rw [e, List.length_cons]
    omega
theorem known_len {l : List Scr} (hl : l.length ≤ 20) (hs : ∀ s ∈ l, ScrOk s) {ys : List Str} (mem : ∀ y, y ∈ ys ↔ ∃ ws ∈ l.map Scr.sh, y ∈ ws) (nd : ys.Nodup) : ys.length ≤ 400 := by
  have h1 := nd_le (ys := (l.map Scr.sh).flatten) nd fun k hk => by
    rw [List.mem_flatten]
    exact (mem k).mp hk
  have h2 := total_scs hs
  unfold total at h2
  rw [List.length_flatten] at h1
  omega
def sp_known_in : DSp := fun es Ψ _ => ∃ l : List Scr, es = [.fz (scs l)] ∧ l.length ≤ 20 ∧ (∀ s ∈ l, ScrOk s) ∧ ∀ ys : List Str, (∀ y, y ∈ ys ↔ inK l y) → ys.Nodup → ascT ys → ys.length ≤ 400 → Ψ (.ow (ys.map .str))
def sp_require_no_clash : DSp := fun es Ψ _ => ∃ l : List Scr, es = [.fz (scs l)] ∧ l.length ≤ 20 ∧ (∀ s ∈ l, ScrOk s) ∧ ¬ Torn l ∧ Ψ (.fz .none)
def sp_require_known : DSp := fun es Ψ _ => ∃ (l : List Scr) (w : Str), es = [.fz (scs l), .fz (.str w)] ∧ l.length ≤ 20 ∧ (∀ s ∈ l, ScrOk s) ∧ inK l w ∧ Ψ (.fz .none)
def sp_require_two_known : DSp := fun es Ψ _ => ∃ (l : List Scr) (w m : Str), es = [.fz (scs l), .fz (.str w), .fz (.str m)] ∧ l.length ≤ 20 ∧ (∀ s ∈ l, ScrOk s) ∧ ¬ Torn l ∧ inK l w ∧ inK l m ∧ Ψ (.fz .none)
/-- some screen puts w ahead of m -/
def bef (l : List Scr) (w m : Str) : Bool := l.any fun s => puts s w m
def sp_is_before : DSp := fun es Ψ _ => ∃ (l : List Scr) (w m : Str), es = [.fz (scs l), .fz (.str w), .fz (.str m)] ∧ l.length ≤ 20 ∧ (∀ s ∈ l, ScrOk s) ∧ ¬ Torn l ∧ inK l w ∧ inK l m ∧ Ψ (.fz (.bool (bef l w m)))
def natD : Option Nat → D
  | some n => .int (n : Nat)
  | none => .none
def why (l : List Scr) (w m : Str) : Option Nat := l.findIdx? fun s => puts s w m
def sp_reason_for : DSp := fun es Ψ _ => ∃ (l : List Scr) (w m : Str), es = [.fz (scs l), .fz (.str w), .fz (.str m)] ∧ l.length ≤ 20 ∧ (∀ s ∈ l, ScrOk s) ∧ ¬ Torn l ∧ inK l w ∧ inK l m ∧ Ψ (.fz (natD (why l w m)))
theorem inK_ok {l : List Scr} (hs : ∀ s ∈ l, ScrOk s) {w : Str} (h : inK l w) : lets w ∧ 1 ≤ w.length ∧ w.length ≤ 1000 := by
  obtain ⟨s, m, hw⟩ := h
  exact (hs s m).sh.word w hw
theorem inK_asc {l : List Scr} (hs : ∀ s ∈ l, ScrOk s) {w : Str} (h : inK l w) : asc w := lets_asc (inK_ok hs h).1
theorem wordK_true {w : Str} (h : lets w ∧ 1 ≤ w.length ∧ w.length ≤ 1000) : wordD (.str w) = true := by
  show (w.cps.toList.all letterC && !(w == "")) = true
  rw [all_letters h.1, Bool.true_and]
  have : (w == "") = false := by
    rw [beq_eq_false_iff_ne]
    rintro rfl
    exact absurd h.2.1 (by decide)
  rw [this]
  rfl
theorem made_calm {ws : List Str} {l : List Scr} (h : ∀ s ∈ l, Made ws s) : ¬ Torn l := fun z => by
  obtain ⟨s, hs, t, ht, n⟩ := (torn_iff fun s m => (h s m).ok).mp z
  exact n 0 0 (made_two (h s hs) (h t ht) 0 0)
/-- the numbers of the screens that put w ahead of m -/
def whys (l : List Scr) (w m : Str) : List D := (l.zipIdx.filter fun p => puts p.1 w m).map fun p => .int ((p.2 : Nat) : Int)
theorem whys_from {q : Scr → Bool} : ∀ (l : List Scr) (k : Nat), (((l.zipIdx k).filter fun p => q p.1).map fun p => (.int ((p.2 : Nat) : Int) : D)).head? = ((l.findIdx? q).map (· + k)).map fun i => .int ((i : Nat) : Int)
  | [], _ => rfl
  | s :: l, k => by
    rw [List.zipIdx_cons, List.findIdx?_cons]
    cases e : q s with
    | true =>
      rw [List.filter_cons_of_pos (p := fun p : Scr × Nat => q p.1) (by exact e)]
      simp
    | false =>
      rw [List.filter_cons_of_neg (p := fun p : Scr × Nat => q p.1) (by show ¬ q s = true; rw [e]; decide), whys_from l (k + 1)]
      cases l.findIdx? q with
      | none => simp
      | some i =>
        simp only [Option.map_some, Bool.false_eq_true, if_false]
        rw [show i + 1 + k = i + (k + 1) by omega]
theorem whys_take (l : List Scr) (w m : Str) : (whys l w m ++ [PyData.none]).take 1 = [natD (why l w m)] := by
  have h := whys_from (q := fun s => puts s w m) l 0
  change (whys l w m).head? = _ at h
  unfold why
  cases e : whys l w m with
  | nil =>
    rw [e] at h
    cases f : l.findIdx? fun s => puts s w m with
    | none => rfl
    | some i =>
      rw [f] at h
      cases h
  | cons x t =>
    rw [e] at h
    cases f : l.findIdx? fun s => puts s w m with
    | none =>
      rw [f] at h
      cases h
    | some i =>
      rw [f] at h
      simp only [List.head?_cons, Option.map_some, Option.some.injEq, Nat.add_zero] at h
      rw [h]
      rfl
theorem whys_bef (l : List Scr) (w m : Str) : (whys l w m).isEmpty = !(bef l w m) := by
  have : ∀ (k : Nat), (((l.zipIdx k).filter fun p => puts p.1 w m).map fun p => (.int ((p.2 : Nat) : Int) : D)).isEmpty = !(bef l w m) := by
    induction l with
    | nil => intro k; rfl
    | cons s l ih =>
      intro k
      have e2 : bef (s :: l) w m = (puts s w m || bef l w m) := by
        unfold bef
        rw [List.any_cons]
      rw [List.zipIdx_cons, e2]
      cases e : puts s w m with
      | true =>
        rw [List.filter_cons_of_pos (p := fun p : Scr × Nat => puts p.1 w m) (by exact e)]
        rfl
      | false =>
        rw [List.filter_cons_of_neg (p := fun p : Scr × Nat => puts p.1 w m) (by show ¬ puts s w m = true; rw [e]; decide), ih (k + 1), Bool.false_or]
  exact this 0
theorem whys_len (l : List Scr) (w m : Str) : (whys l w m).length ≤ l.length := by
  unfold whys
  rw [List.length_map]
  exact Nat.le_trans (List.length_filter_le _ _) (by rw [List.length_zipIdx]; exact Nat.le_refl _)
/-- a value against the empty list -/
theorem ne_nil_test {ds : List D} (sh : ∀ d ∈ ds, ∃ n : Int, d = .int n) {κ : D → Prop} (h : κ (.bool (!ds.isEmpty))) : gNe (.list ds) (.list []) κ := by
  refine .inl ⟨shaped_list fun x hx => ?_, by decide, ?_⟩
  · obtain ⟨n, rfl⟩ := sh x hx
    exact ⟨rfl, rfl⟩
  · cases ds with
    | nil =>
      rw [eqv_nil]
      exact h
    | cons x t =>
      rw [eqv_nil_ne]
      exact h
theorem ne_nil_strs {ws : List Str} (hw : ∀ w ∈ ws, lets w) {κ : D → Prop} (h : κ (.bool (!ws.isEmpty))) : gNe (bk ws) (.list []) κ := by
  refine .inl ⟨shaped_book hw, by decide, ?_⟩
  cases ws with
  | nil =>
    rw [show bk [] = .list [] from rfl, eqv_nil]
    exact h
  | cons x t =>
    rw [show bk (x :: t) = .list (.str x :: t.map .str) from rfl, eqv_nil_ne]
    exact h
theorem szN {n : Nat} (h : Nat.ble n 100 = true) : n ≤ sizeLine := by
  have := Nat.le_of_ble_eq_true h
  rw [sizeLine_eq]
  omega
theorem repr_bool (b : Bool) : (PyData.bool b).showable = true ∧ (PyData.bool b).depth ≤ 50 ∧ (PyData.bool b).shown.length ≤ sizeLine := (Rw.bool b).repr (by decide) (by decide)
end TM
set_option pp.deepTerms.threshold 6
namespace TM
open L2 PySem.Spec PySem PyProof.Rows
/-! ### screens without clashes have a dictionary -/
theorem befo_self {l : List Str} {w : Str} : w ∉ befo l w := fun h => befo_asym h h
theorem befo_total : ∀ {l : List Str} {w v : Str}, w ∈ l → w ≠ v → v ∉ befo l w → w ∈ befo l v
  | [], _, _, h, _, _ => nomatch h
  | a :: l, w, v, h, ne, no => by
    rw [befo_cons] at no ⊢
    by_cases e : a = w
    · subst e
      exact ⟨ne, .inl rfl⟩
    · have hw : w ∈ l := (List.mem_cons.mp h).resolve_left fun z => e z.symm
      have nv : a ≠ v := fun z => no ⟨e, .inl z.symm⟩
      exact ⟨nv, .inr (befo_total hw ne fun z => no ⟨e, .inr z⟩)⟩
theorem befo_tr : ∀ {l : List Str} {a b c : Str}, a ∈ befo l b → b ∈ befo l c → a ∈ befo l c
  | [], _, _, _, h, _ => nomatch h
  | x :: l, a, b, c, h1, h2 => by
    rw [befo_cons] at h1 h2 ⊢
    refine ⟨h2.1, ?_⟩
    rcases h1.2 with e | h3
    · exact .inl e
    · rcases h2.2 with e | h4
      · exact absurd e.symm h1.1
      · exact .inr (befo_tr h3 h4)
theorem befo_ne {l : List Str} {w m : Str} (h : w ∈ befo l m) : w ≠ m := fun e => befo_self (e ▸ h)
theorem first_of (Q : Str → Prop) : ∀ {l : List Str}, (∃ w ∈ l, Q w) → ∃ w ∈ l, Q w ∧ ∀ v ∈ befo l w, ¬ Q v
  | [], h => by
    obtain ⟨_, m, _⟩ := h
    cases m
  | a :: l, h => by
    by_cases q : Q a
    · exact ⟨a, List.mem_cons_self, q, fun v hv => absurd rfl (befo_cons.mp hv).1⟩
    · obtain ⟨w, m, hw⟩ := h
      have : ∃ w ∈ l, Q w := by
        rcases List.mem_cons.mp m with rfl | m
        · exact absurd hw q
        · exact ⟨w, m, hw⟩
      obtain ⟨w, m, hw, hv⟩ := first_of Q this
      refine ⟨w, List.mem_cons_of_mem _ m, hw, fun v h => ?_⟩
      rcases (befo_cons.mp h).2 with rfl | h
      · exact q
      · exact hv v h
theorem least_of {α : Type} (f : α → Nat) (P : α → Prop) (l : List α) (h : ∃ x ∈ l, P x) : ∃ x ∈ l, P x ∧ ∀ y ∈ l, P y → f x ≤ f y := by
  obtain ⟨x, m, hx⟩ := h
  generalize hn : f x = n
  induction n using Nat.strongRecOn generalizing x with
  | ind n ih =>
    by_cases c : ∃ y ∈ l, P y ∧ f y < n
    · obtain ⟨y, my, hy, lt⟩ := c
      exact ih (f y) lt y my hy rfl
    · refine ⟨x, m, hx, fun y my hy => ?_⟩
      rw [hn]
      exact Nat.le_of_not_lt fun z => c ⟨y, my, hy, z⟩
/-- one is the beginning of the other -/
theorem sw_cps {w b : Str} : Txt.startswith w b = true ↔ b.cps.toList <+: w.cps.toList := by
  rw [← sw_cut, beq_iff_eq]
  have e : (cutS w none (some (b.length : Int))).cps.toList = w.cps.toList.take b.length := by
    show (w.cps.toList.drop (HT.sIx w.length 0 none)).take (HT.sIx w.length w.length (some ((b.length : Nat) : Int)) - HT.sIx w.length 0 none) = _
    rw [HT.sIx_none, HT.sIx_nat, List.drop_zero, Nat.sub_zero]
    by_cases h : b.length ≤ w.length
    · rw [Nat.min_eq_left h]
    · have lw := len_cps w
      rw [Nat.min_eq_right (by omega), List.take_of_length_le (by omega), List.take_of_length_le (by omega)]
  have lb : b.cps.toList.length = b.length := (len_cps b).symm
  constructor
  · intro h
    have h2 : b.cps.toList = w.cps.toList.take b.length := by rw [← e, h]
    rw [h2]
    exact List.take_prefix _ _
  · intro h
    refine str_ext ?_
    rw [e, ← lb]
    exact (List.prefix_iff_eq_take.mp h).symm
theorem sw_via {v w p q : Str} (h1 : Txt.startswith w p = true) (h2 : Txt.startswith w q = true) (le : p.length ≤ q.length) (h3 : Txt.startswith v q = true) : Txt.startswith v p = true := by
  rw [sw_cps] at h1 h2 h3 ⊢
  exact (List.prefix_of_prefix_length_le h1 h2 (by rw [← len_cps, ← len_cps]; exact le)).trans h3
theorem puts_iff {s : Scr} {w m : Str} : puts s w m = true ↔ Txt.startswith m s.b = true ∧ w ∈ befo s.sh m := by
  unfold puts
  rw [Bool.and_eq_true, decide_eq_true_eq]
theorem bef_iff {l : List Scr} {w m : Str} : bef l w m = true ↔ ∃ s ∈ l, puts s w m = true := by
  unfold bef
  rw [List.any_eq_true]
section
variable {l : List Scr}
theorem not_both (nt : ¬ Torn l) {s t : Scr} (hs : s ∈ l) (ht : t ∈ l) {w m : Str} (h1 : puts s w m = true) (h2 : puts t m w = true) : False :=
  nt ⟨s, hs, t, ht, .inr ⟨w, befo_mem (puts_iff.mp h1).2, m, befo_mem (puts_iff.mp h2).2, h1, h2⟩⟩
theorem bef_irr {w : Str} : bef l w w = false := by
  cases e : bef l w w with
  | false => rfl
  | true =>
    obtain ⟨s, _, h⟩ := bef_iff.mp e
    exact absurd (puts_iff.mp h).2 befo_self
theorem bef_tr (hs : ∀ s ∈ l, ScrOk s) (nt : ¬ Torn l) {a b c : Str} (h1 : bef l a b = true) (h2 : bef l b c = true) : bef l a c = true := by
  obtain ⟨s, ms, p1⟩ := bef_iff.mp h1
  obtain ⟨t, mt, p2⟩ := bef_iff.mp h2
  obtain ⟨s1, b1⟩ := puts_iff.mp p1
  obtain ⟨s2, b2⟩ := puts_iff.mp p2
  have sa := (hs s ms).sw a (befo_mem b1)
  have sb := (hs t mt).sw b (befo_mem b2)
  rcases Nat.le_total t.b.length s.b.length with le | le
  · have ta := sw_via sb s1 le sa
    refine bef_iff.mpr ⟨t, mt, puts_iff.mpr ⟨s2, ?_⟩⟩
    have : a ∈ befo t.sh b := by
      by_cases no : a ∈ befo t.sh b
      · exact no
      · have := befo_total (befo_mem b2) (befo_ne b1).symm no
        exact (not_both nt ms mt p1 (puts_iff.mpr ⟨ta, this⟩)).elim
    exact befo_tr this b2
  · have sc := sw_via s1 sb le s2
    refine bef_iff.mpr ⟨s, ms, puts_iff.mpr ⟨sc, ?_⟩⟩
    by_cases e : a = c
    · subst e
      exact (not_both nt ms mt p1 p2).elim
    refine befo_total (befo_mem b1) e fun z => ?_
    exact (not_both nt ms mt (puts_iff.mpr ⟨s1, befo_tr z b1⟩) p2).elim
theorem exists_min (hs : ∀ s ∈ l, ScrOk s) (nt : ¬ Torn l) {S : List Str} (h0 : S ≠ []) (hK : ∀ w ∈ S, inK l w) : ∃ w ∈ S, ∀ v ∈ S, bef l v w = false := by
  obtain ⟨w0, m0⟩ := List.exists_mem_of_ne_nil S h0
  obtain ⟨s0, ms0, hw0⟩ := hK w0 m0
  obtain ⟨s, ms, hS, least⟩ := least_of (fun s : Scr => s.b.length) (fun s => ∃ w ∈ s.sh, w ∈ S) l ⟨s0, ms0, w0, hw0, m0⟩
  obtain ⟨w, mw, wS, fw⟩ := first_of (fun w => w ∈ S) hS
  refine ⟨w, wS, fun v vS => ?_⟩
  cases e : bef l v w with
  | false => rfl
  | true =>
    exfalso
    obtain ⟨t, mt, p⟩ := bef_iff.mp e
    obtain ⟨s1, b1⟩ := puts_iff.mp p
    have mv := befo_mem b1
    have le := least t mt ⟨v, mv, vS⟩
    have sv := sw_via ((hs s ms).sw w mw) s1 le ((hs t mt).sw v mv)
    have := befo_total mw (befo_ne b1).symm fun z => fw v z vS
    exact not_both nt mt ms p (puts_iff.mpr ⟨sv, this⟩)
/-- an order that keeps what the screens say -/
abbrev Keeps (l : List Scr) (o : List Str) : Prop := o.Pairwise fun a b => bef l b a = false
theorem exists_ord (hs : ∀ s ∈ l, ScrOk s) (nt : ¬ Torn l) : ∀ (n : Nat) (S : List Str), S.length = n → (∀ w ∈ S, inK l w) → ∃ o : List Str, o.Perm S ∧ Keeps l o
  | 0, S, hn, _ => by
    rw [List.length_eq_zero_iff.mp hn]
    exact ⟨[], List.Perm.refl _, List.Pairwise.nil⟩
  | n + 1, S, hn, hK => by
    obtain ⟨w, mw, least⟩ := exists_min hs nt (S := S) (fun z => by rw [z] at hn; cases hn) hK
    obtain ⟨o, po, ko⟩ := exists_ord hs nt n (S.erase w) (by rw [List.length_erase_of_mem mw, hn]; rfl) fun v hv => hK v (List.mem_of_mem_erase hv)
    refine ⟨w :: o, (List.Perm.cons w po).trans (List.perm_cons_erase mw).symm, List.pairwise_cons.mpr ⟨fun v hv => least v (List.mem_of_mem_erase (po.mem_iff.mp hv)), ko⟩⟩
theorem pw_befo {R : Str → Str → Prop} : ∀ {o : List Str} {m w : Str}, o.Pairwise R → m ∈ befo o w → w ∈ o → R m w
  | [], _, _, _, _, h => nomatch h
  | a :: o, m, w, pw, h, hw => by
    obtain ⟨p1, p2⟩ := List.pairwise_cons.mp pw
    obtain ⟨ne, h⟩ := befo_cons.mp h
    have hw2 : w ∈ o := (List.mem_cons.mp hw).resolve_left fun z => ne z.symm
    rcases h with rfl | h
    · exact p1 w hw2
    · exact pw_befo p2 h hw2
theorem pre_of : ∀ {sh F : List Str}, sh.Nodup → F.Nodup → (∀ w ∈ sh, w ∈ F) → (∀ m ∈ F, ∀ w ∈ befo sh m, w ∈ befo F m) → sh <+: F
  | [], _, _, _, _, _ => List.nil_prefix
  | a :: sh, [], _, _, sub, _ => nomatch sub a List.mem_cons_self
  | a :: sh, f :: F, n1, n2, sub, h => by
    obtain ⟨na, q1⟩ := List.nodup_cons.mp n1
    obtain ⟨nf, q2⟩ := List.nodup_cons.mp n2
    have e : a = f := by
      by_cases e : a = f
      · exact e
      · have := h f List.mem_cons_self a (befo_cons.mpr ⟨e, .inl rfl⟩)
        exact absurd rfl (befo_cons.mp this).1
    subst e
    rw [List.prefix_cons_inj]
    refine pre_of q1 q2 (fun w hw => ?_) fun m hm w hw => ?_
    · exact (List.mem_cons.mp (sub w (List.mem_cons_of_mem _ hw))).resolve_left fun z => na (z ▸ hw)
    · have am : a ≠ m := fun z => nf (z ▸ hm)
      have := (befo_cons.mp (h m (List.mem_cons_of_mem _ hm) w (befo_cons.mpr ⟨am, .inr hw⟩))).2
      exact this.resolve_left fun z => na (z ▸ befo_mem hw)
theorem ord_shows (hs : ∀ s ∈ l, ScrOk s) (nt : ¬ Torn l) {o : List Str} (nd : o.Nodup) (mem : ∀ w, w ∈ o ↔ inK l w) (kp : Keeps l o) {s : Scr} (ms : s ∈ l) : shows o s = true := by
  have ok := hs s ms
  have nF : (o.filter fun w => Txt.startswith w s.b).Nodup := nd.sublist List.filter_sublist
  have sub : ∀ w ∈ s.sh, w ∈ o.filter fun w => Txt.startswith w s.b := fun w hw => List.mem_filter.mpr ⟨(mem w).mpr ⟨s, ms, hw⟩, ok.sw w hw⟩
  have pF : (o.filter fun w => Txt.startswith w s.b).Pairwise fun a b => bef l b a = false := kp.sublist List.filter_sublist
  have inF : ∀ x ∈ o.filter (fun w => Txt.startswith w s.b), inK l x ∧ Txt.startswith x s.b = true := fun x hx => ⟨(mem x).mp (List.mem_filter.mp hx).1, (List.mem_filter.mp hx).2⟩
  unfold shows ans
  rw [beq_iff_eq]
  generalize o.filter (fun w => Txt.startswith w s.b) = F at *
  have pre : s.sh <+: F := pre_of ok.sh.nd nF sub fun m hm w hw => by
    refine befo_total (sub w (befo_mem hw)) (befo_ne hw) fun z => ?_
    have h1 := pw_befo pF z (sub w (befo_mem hw))
    have h2 : bef l w m = true := bef_iff.mpr ⟨s, ms, puts_iff.mpr ⟨(inF m hm).2, hw⟩⟩
    rw [h1] at h2
    cases h2
  obtain ⟨r, rfl⟩ := pre
  have few := ok.few
  by_cases sz : s.sh.length = s.n
  · rw [← sz, List.take_left]
  · have : r = [] := by
      cases r with
      | nil => rfl
      | cons x r =>
        exfalso
        have hx := inF x (List.mem_append_right _ List.mem_cons_self)
        obtain ⟨t, mt, hxt⟩ := hx.1
        have nx : x ∉ s.sh := fun z => by
          have := (List.nodup_append.mp nF).2.2 x z x List.mem_cons_self
          exact this rfl
        refine nt ⟨s, ms, t, mt, .inl ⟨x, hxt, ?_⟩⟩
        unfold missW short
        rw [decide_eq_true (show s.sh.length < s.n by omega), hx.2, decide_eq_false nx]
        rfl
    subst this
    rw [List.append_nil, List.take_of_length_le (by omega)]
theorem exists_row (hs : ∀ s ∈ l, ScrOk s) (nt : ¬ Torn l) {T : List Str} (nd : T.Nodup) (mem : ∀ w, w ∈ T ↔ inK l w) : ∃ o : List Str, o.Perm T ∧ Keeps l o ∧ ∀ s ∈ l, shows o s = true := by
  obtain ⟨o, po, ko⟩ := exists_ord hs nt T.length T rfl fun w hw => (mem w).mp hw
  exact ⟨o, po, ko, fun s ms => ord_shows hs nt (po.symm.nodup nd) (fun w => by rw [po.mem_iff]; exact mem w) ko ms⟩
/-- what a screen says holds in each row that shows it -/
theorem row_puts {o : List Str} {s : Scr} (sh : shows o s = true) {w m : Str} (p : puts s w m = true) (hw : w ∈ o) (hm : m ∈ o) : w ∈ befo o m := by
  obtain ⟨sm, b⟩ := puts_iff.mp p
  refine befo_total hw (befo_ne b) fun z => ?_
  unfold shows ans at sh
  rw [beq_iff_eq] at sh
  have zF : m ∈ befo (o.filter fun x => Txt.startswith x s.b) w := befo_filter z sm
  have pre : s.sh <+: o.filter fun x => Txt.startswith x s.b := by
    rw [← sh]
    exact List.take_prefix _ _
  obtain ⟨r, e⟩ := pre
  rw [← e] at zF
  have ws := befo_mem b
  have : m ∈ befo s.sh w := by
    by_cases q : m ∈ befo s.sh w
    · exact q
    · exfalso
      have := befo_total ws (befo_ne b) q
      exact befo_asym zF (befo_app r this)
  exact befo_asym b this
/-- if no screen puts w ahead of m, a row has m ahead of w -/
theorem other_row (hs : ∀ s ∈ l, ScrOk s) (nt : ¬ Torn l) {T : List Str} (nd : T.Nodup) (mem : ∀ w, w ∈ T ↔ inK l w) {w m : Str} (hw : w ∈ T) (hm : m ∈ T) (ne : w ≠ m) (no : bef l w m = false) : ∃ o : List Str, o.Perm T ∧ (∀ s ∈ l, shows o s = true) ∧ m ∈ befo o w := by
  obtain ⟨o, po, ko, _⟩ := exists_row hs nt nd mem
  have D : ∀ x : Str, (x == m || bef l x m) = true ↔ x = m ∨ bef l x m = true := fun x => by rw [Bool.or_eq_true, beq_iff_eq]
  have pf : (o.filter (fun x => x == m || bef l x m) ++ o.filter fun x => !(x == m || bef l x m)).Perm o := List.filter_append_perm _ _
  have kp : Keeps l (o.filter (fun x => x == m || bef l x m) ++ o.filter fun x => !(x == m || bef l x m)) := by
    refine List.pairwise_append.mpr ⟨ko.sublist List.filter_sublist, ko.sublist List.filter_sublist, fun x hx y hy => ?_⟩
    have h1 := (D x).mp (List.mem_filter.mp hx).2
    have h2 := (List.mem_filter.mp hy).2
    cases e : bef l y x with
    | false => rfl
    | true =>
      exfalso
      have : bef l y m = true := by
        rcases h1 with rfl | h1
        · exact e
        · exact bef_tr hs nt e h1
      rw [this, Bool.or_true] at h2
      cases h2
  have p2 := pf.trans po
  refine ⟨_, p2, fun s ms => ord_shows hs nt (p2.symm.nodup nd) (fun x => by rw [p2.mem_iff]; exact mem x) kp ms, ?_⟩
  have m1 : m ∈ o.filter (fun x => x == m || bef l x m) := List.mem_filter.mpr ⟨po.mem_iff.mpr hm, (D m).mpr (.inl rfl)⟩
  have w1 : w ∉ o.filter (fun x => x == m || bef l x m) := fun z => by
    rcases (D w).mp (List.mem_filter.mp z).2 with e | e
    · exact ne e
    · rw [no] at e
      cases e
  exact befo_app _ (befo_total m1 ne.symm fun z => w1 (befo_mem z))
end
end TM
set_option pp.deepTerms.threshold 6
namespace TM
open L2 PySem.Spec PySem PyProof.Rows
/-! ### words of a, b, x, written in other letters -/
def abx (s : Str) : Prop := ∀ c ∈ s.cps.toList, c = 97 ∨ c = 98 ∨ c = 120
theorem abx_cut {s : Str} {lo hi : Option Int} (h : abx s) : abx (cutS s lo hi) := fun c hc => h c (cutS_mem hc)
theorem abx_app {a b : Str} (h1 : abx a) (h2 : abx b) : abx (a ++ b) := by
  intro c hc
  rw [app_cps, List.mem_append] at hc
  exact hc.elim (h1 c) (h2 c)
theorem abx_em : abx "" := by unfold abx; decide
theorem abx_x : abx "x" := by unfold abx; decide
theorem abx_a : abx "a" := by unfold abx; decide
theorem abx_ab : abx "ab" := by unfold abx; decide
/-- a small screen of such words -/
structure ScA (s : Scr) : Prop where
  ok : ScrOk s
  bz : s.b.length ≤ 5
  wz : ∀ w ∈ s.sh, w.length ≤ 11
  bx : abx s.b
  wx : ∀ w ∈ s.sh, abx w
structure stA (s : Str) : Prop where
  l : lets s
  z : s.length ≤ 4
  x : abx s
/-- a small book -/
structure BkA (ws : List Str) : Prop where
  ok : BookOk ws
  wz : ∀ w ∈ ws, w.length ≤ 3
  wx : ∀ w ∈ ws, abx w
theorem made_A {ws : List Str} (h : BkA ws) {s : Scr} (m : Made ws s) (b : stA s.b) : ScA s := by
  have sub : ∀ w ∈ s.sh, w ∈ ws := fun w hw => by
    have e : ans ws s.b s.n = s.sh := by
      have := m.eq
      unfold shows at this
      exact beq_iff_eq.mp this
    rw [← e] at hw
    exact (ans_mem hw).1
  exact ⟨m.ok, by have := b.z; omega, fun w hw => by have := h.wz w (sub w hw); omega, b.x, fun w hw => h.wx w (sub w hw)⟩
/-- letters for a, b, x; what stands ahead -/
structure Dr where
  al : Nat
  be : Nat
  xi : Nat
  ahead : Str
def Dr.f (d : Dr) (c : Nat) : Nat := if c = 97 then d.al else if c = 98 then d.be else d.xi
structure DrOk (d : Dr) : Prop where
  a : 97 ≤ d.al ∧ d.al ≤ 122
  b : 97 ≤ d.be ∧ d.be ≤ 122
  x : 97 ≤ d.xi ∧ d.xi ≤ 122
  ab : d.al ≠ d.be
  ax : d.al ≠ d.xi
  bx : d.be ≠ d.xi
  h : lets d.ahead
  z : d.ahead.length ≤ 20
def Dr.t (d : Dr) (s : Str) : Str := ⟨(s.cps.toList.map d.f).toArray⟩
def Dr.w (d : Dr) (s : Str) : Str := d.ahead ++ d.t s
def Dr.s (d : Dr) (s : Scr) : Scr := ⟨d.w s.b, s.n, s.sh.map d.w⟩
theorem Dr.cps (d : Dr) (s : Str) : (d.w s).cps.toList = d.ahead.cps.toList ++ s.cps.toList.map d.f := by
  unfold Dr.w
  rw [app_cps]
  unfold Dr.t
  simp
theorem Dr.len (d : Dr) (s : Str) : (d.w s).length = d.ahead.length + s.length := by
  rw [len_cps, d.cps, List.length_append, List.length_map, ← len_cps, ← len_cps]
section
variable {d : Dr}
theorem DrOk.inj (h : DrOk d) {a b : Nat} (ha : a = 97 ∨ a = 98 ∨ a = 120) (hb : b = 97 ∨ b = 98 ∨ b = 120) (e : d.f a = d.f b) : a = b := by
  have h1 := h.ab
  have h2 := h.ax
  have h3 := h.bx
  unfold Dr.f at e
  rcases ha with rfl | rfl | rfl <;> rcases hb with rfl | rfl | rfl <;> first | rfl | (simp at e; first | exact absurd e h1 | exact absurd e h2 | exact absurd e h3 | exact absurd e.symm h1 | exact absurd e.symm h2 | exact absurd e.symm h3)
theorem map_pre (h : DrOk d) : ∀ {xs ys : List Nat}, (∀ c ∈ xs, c = 97 ∨ c = 98 ∨ c = 120) → (∀ c ∈ ys, c = 97 ∨ c = 98 ∨ c = 120) → xs.map d.f <+: ys.map d.f → xs <+: ys
  | [], _, _, _, _ => List.nil_prefix
  | x :: xs, [], _, _, p => by
    rw [List.map_cons, List.map_nil] at p
    exact absurd (List.prefix_nil.mp p) (by simp)
  | x :: xs, y :: ys, hx, hy, p => by
    rw [List.map_cons, List.map_cons] at p
    obtain ⟨e, p2⟩ := List.cons_prefix_cons.mp p
    have e2 := h.inj (hx x List.mem_cons_self) (hy y List.mem_cons_self) e
    subst e2
    exact List.cons_prefix_cons.mpr ⟨rfl, map_pre h (fun c hc => hx c (List.mem_cons_of_mem _ hc)) (fun c hc => hy c (List.mem_cons_of_mem _ hc)) p2⟩
theorem DrOk.sw (h : DrOk d) {w b : Str} (hw : abx w) (hb : abx b) : Txt.startswith (d.w w) (d.w b) = Txt.startswith w b := by
  rw [Bool.eq_iff_iff, sw_cps, sw_cps, d.cps, d.cps, List.prefix_append_right_inj]
  constructor
  · exact map_pre h hb hw
  · rintro ⟨r, e⟩
    exact ⟨r.map d.f, by rw [← e, List.map_append]⟩
theorem DrOk.wi (h : DrOk d) {w v : Str} (hw : abx w) (hv : abx v) (e : d.w w = d.w v) : w = v := by
  have p : ∀ {a b : Str}, abx a → abx b → d.w a = d.w b → a.cps.toList <+: b.cps.toList := fun {a b} ha hb e => by
    rw [← sw_cps, ← h.sw hb ha, e, sw_cps]
    exact List.prefix_refl _
  have p1 := p hw hv e
  have p2 := p hv hw e.symm
  exact str_ext (p1.eq_of_length (Nat.le_antisymm p1.length_le p2.length_le))
theorem DrOk.lets (h : DrOk d) {w : Str} : TM.lets (d.w w) := by
  intro c hc
  rw [d.cps, List.mem_append] at hc
  rcases hc with hc | hc
  · exact h.h c hc
  · obtain ⟨x, _, rfl⟩ := List.mem_map.mp hc
    have h1 := h.a
    have h2 := h.b
    have h3 := h.x
    unfold letterC Dr.f
    simp only [Bool.and_eq_true, decide_eq_true_eq]
    split
    · omega
    · split <;> omega
theorem nodup_dr (h : DrOk d) : ∀ {l : List Str}, (∀ w ∈ l, abx w) → l.Nodup → (l.map d.w).Nodup
  | [], _, _ => List.nodup_nil
  | w :: l, hx, nd => by
    obtain ⟨n1, n2⟩ := List.nodup_cons.mp nd
    rw [List.map_cons]
    refine List.nodup_cons.mpr ⟨fun z => ?_, nodup_dr h (fun v hv => hx v (List.mem_cons_of_mem _ hv)) n2⟩
    obtain ⟨v, hv, e⟩ := List.mem_map.mp z
    have := h.wi (hx v (List.mem_cons_of_mem _ hv)) (hx w List.mem_cons_self) e
    exact n1 (this ▸ hv)
theorem DrOk.book (h : DrOk d) {ws : List Str} (hb : BookOk ws) (wx : ∀ w ∈ ws, abx w) (wz : ∀ w ∈ ws, w.length ≤ 500) : BookOk (ws.map d.w) :=
  ⟨nodup_dr h wx hb.nd, by rw [List.length_map]; exact hb.few, fun w hw => by
    obtain ⟨v, hv, rfl⟩ := List.mem_map.mp hw
    refine ⟨h.lets, ?_, ?_⟩
    · rw [d.len]
      have := (hb.word v hv).2.1
      omega
    · rw [d.len]
      have := wz v hv
      have := h.z
      omega⟩
theorem DrOk.scr (h : DrOk d) {s : Scr} (a : ScA s) : ScrOk (d.s s) where
  lb := h.lets
  bz := by
    show (d.w s.b).length ≤ 2000
    rw [d.len]
    have := h.z
    have := a.bz
    omega
  n1 := a.ok.n1
  n2 := a.ok.n2
  sh := h.book a.ok.sh a.wx fun w hw => by
    have := a.wz w hw
    omega
  few := by
    show (s.sh.map d.w).length ≤ s.n
    rw [List.length_map]
    exact a.ok.few
  sw := fun w hw => by
    obtain ⟨v, hv, rfl⟩ := List.mem_map.mp hw
    show Txt.startswith (d.w v) (d.w s.b) = true
    rw [h.sw (a.wx v hv) a.bx]
    exact a.ok.sw v hv
theorem DrOk.scb (h : DrOk d) {s : Scr} (a : ScA s) : Scb (d.s s) :=
  ⟨h.scr a, by
    show (d.w s.b).length ≤ 110
    rw [d.len]
    have := h.z
    have := a.bz
    omega, fun w hw => by
    obtain ⟨v, hv, rfl⟩ := List.mem_map.mp hw
    rw [d.len]
    have := h.z
    have := a.wz v hv
    omega⟩
theorem filter_map_sw (h : DrOk d) {b : Str} (hb : abx b) : ∀ {ws : List Str}, (∀ w ∈ ws, abx w) → (ws.map d.w).filter (fun w => Txt.startswith w (d.w b)) = (ws.filter fun w => Txt.startswith w b).map d.w
  | [], _ => rfl
  | w :: ws, hx => by
    rw [List.map_cons, List.filter_cons, List.filter_cons, h.sw (hx w List.mem_cons_self) hb, filter_map_sw h hb fun v hv => hx v (List.mem_cons_of_mem _ hv)]
    split <;> rfl
theorem DrOk.made (h : DrOk d) {ws : List Str} (hb : BkA ws) {s : Scr} (m : Made ws s) (a : ScA s) : Made (ws.map d.w) (d.s s) := by
  have c := h.scb a
  refine ⟨c.ok, c.bz, c.wz, ?_⟩
  have e := m.eq
  unfold shows ans at e ⊢
  rw [beq_iff_eq] at e ⊢
  show (((ws.map d.w).filter fun w => Txt.startswith w (d.w s.b)).take s.n) = s.sh.map d.w
  rw [filter_map_sw h a.bx hb.wx, ← List.map_take, e]
end
end TM
set_option pp.deepTerms.threshold 6
namespace TM
open L2 PySem.Spec PySem PyProof.Rows
def book3 : List Scr := [⟨"", 2, ["car", "dog"]⟩, ⟨"c", 2, ["car", "cat"]⟩, ⟨"do", 3, ["dog", "dot"]⟩]
theorem scr_two {b : Str} {n : Nat} {v w : Str} (hb : lets b) (bl : b.length ≤ 10) (n1 : 2 ≤ n) (n2 : n ≤ 20) (hv : lets v) (hw : lets w) (v1 : 1 ≤ v.length ∧ v.length ≤ 100) (w1 : 1 ≤ w.length ∧ w.length ≤ 100) (ne : v ≠ w) (sv : Txt.startswith v b = true) (sw : Txt.startswith w b = true) : ScrOk ⟨b, n, [v, w]⟩ := by
  refine ⟨hb, by show b.length ≤ 2000; omega, by show 1 ≤ n; omega, n2, ⟨by simpa using ne, by show 2 < 4000; decide, fun x hx => ?_⟩, n1, fun x hx => ?_⟩
  · simp only [List.mem_cons, List.not_mem_nil, or_false] at hx
    rcases hx with rfl | rfl
    · exact ⟨hv, v1.1, by omega⟩
    · exact ⟨hw, w1.1, by omega⟩
  · simp only [List.mem_cons, List.not_mem_nil, or_false] at hx
    rcases hx with rfl | rfl
    · exact sv
    · exact sw
theorem book3_ok : ∀ s ∈ book3, ScrOk s := by
  have l1 : lets "dog" := by unfold lets; decide
  have l2 : lets "car" := by unfold lets; decide
  have l3 : lets "cat" := by unfold lets; decide
  have l4 : lets "dot" := by unfold lets; decide
  have l5 : lets "c" := by unfold lets; decide
  have l6 : lets "do" := by unfold lets; decide
  intro s m
  simp only [book3, List.mem_cons, List.not_mem_nil, or_false] at m
  rcases m with rfl | rfl | rfl
  · exact scr_two lets_em (by decide) (by decide) (by decide) l2 l1 ⟨by decide, by decide⟩ ⟨by decide, by decide⟩ (by decide) (by decide +kernel) (by decide +kernel)
  · exact scr_two l5 (by decide) (by decide) (by decide) l2 l3 ⟨by decide, by decide⟩ ⟨by decide, by decide⟩ (by decide) (by decide +kernel) (by decide +kernel)
  · exact scr_two l6 (by decide) (by decide) (by decide) l1 l4 ⟨by decide, by decide⟩ ⟨by decide, by decide⟩ (by decide) (by decide +kernel) (by decide +kernel)
theorem book3_calm : ¬ Torn book3 := by
  unfold Torn
  decide +kernel
theorem eq_nil_ones {n : Nat} {κ : D → Prop} (h : κ (.bool (decide (n = 0)))) : gEq (.list (List.replicate n (.int 1))) (.list []) κ := by
  refine .inl ⟨shaped_list fun x hx => ?_, by decide, ?_⟩
  · obtain ⟨_, rfl⟩ := List.mem_replicate.mp hx
    exact ⟨rfl, rfl⟩
  · cases n with
    | zero =>
      rw [List.replicate_zero, eqv_nil]
      exact h
    | succ n =>
      rw [List.replicate_succ, eqv_nil_ne]
      exact h
theorem shaped_rows {rows : List (List Str)} (h : ∀ r ∈ rows, ∀ w ∈ r, lets w) : SeqAt.shaped (.list (rows.map fun r => bk r)) = true := by
  have a : ∀ k : List (List Str), (∀ r ∈ k, ∀ w ∈ r, lets w) → PyData.canLayAll0 (k.map fun r => bk r) = true ∧ PyData.depthAll (k.map fun r => bk r) ≤ 2 := by
    intro k
    induction k with
    | nil => intro _; exact ⟨rfl, Nat.zero_le _⟩
    | cons r k ih =>
      intro h
      obtain ⟨h1, h2⟩ := ih fun x hx => h x (List.mem_cons_of_mem _ hx)
      have h1 : PyData.canLayAll0 (k.map fun r => PyData.list (r.map PyData.str)) = true := h1
      have h2 : PyData.depthAll (k.map fun r => PyData.list (r.map PyData.str)) ≤ 2 := h2
      have h3 := canLay_strs r fun w hw => h r List.mem_cons_self w hw
      have h4 := depth_strs r
      simp only [List.map_cons, PyData.canLayAll0, PyData.depthAll, bk, PyData.canLay0, PyData.depth, h1, h3, h4, Bool.and_self]
      exact ⟨trivial, by omega⟩
  obtain ⟨h1, h2⟩ := a rows h
  unfold SeqAt.shaped
  simp only [PyData.canLay0, PyData.depth, h1, Bool.true_and]
  exact decide_eq_true (by omega)
theorem eq_nil_rows {rows : List (List Str)} (h : ∀ r ∈ rows, ∀ w ∈ r, lets w) {κ : D → Prop} (k : κ (.bool rows.isEmpty)) : gEq (.list (rows.map fun r => bk r)) (.list []) κ := by
  refine .inl ⟨shaped_rows h, by decide, ?_⟩
  cases rows with
  | nil =>
    rw [List.map_nil, eqv_nil]
    exact k
  | cons x t =>
    rw [List.map_cons, eqv_nil_ne]
    exact k
theorem pre_list {α β : Type} {f : α → β} {P : α → Prop} : ∀ {T : List β}, (∀ y ∈ T, ∃ w, P w ∧ f w = y) → ∃ zs : List α, zs.map f = T ∧ ∀ w ∈ zs, P w
  | [], _ => ⟨[], rfl, fun _ h => nomatch h⟩
  | y :: T, h => by
    obtain ⟨w, hw, rfl⟩ := h y List.mem_cons_self
    obtain ⟨zs, rfl, hz⟩ := pre_list (T := T) fun x hx => h x (List.mem_cons_of_mem _ hx)
    refine ⟨w :: zs, rfl, fun v hv => ?_⟩
    rcases List.mem_cons.mp hv with rfl | hv
    · exact hw
    · exact hz v hv
end TM
set_option pp.deepTerms.threshold 6
namespace TM
open L2 PySem.Spec PySem PyProof.Rows
/-! ### the words above a word -/
theorem ascT_uniq {xs ys : List Str} (h1 : ascT xs) (h2 : ascT ys) (n1 : xs.Nodup) (n2 : ys.Nodup) (mem : ∀ w, w ∈ xs ↔ w ∈ ys) : xs = ys := by
  refine List.Perm.eq_of_pairwise (le := fun x y : Str => ¬ y.cps.toList < x.cps.toList) (fun a b _ _ p q => ?_) h1 h2 ((List.perm_ext_iff_of_nodup n1 n2).mpr mem)
  exact str_ext (List.le_antisymm p q)
def ahd (s : Scr) (w : Str) : List Str := if Txt.startswith w s.b = true then befo s.sh w else []
theorem ahd_mem {s : Scr} {x w : Str} : x ∈ ahd s w ↔ puts s x w = true := by
  unfold ahd
  rw [puts_iff]
  split
  · rename_i h
    exact ⟨fun z => ⟨h, z⟩, fun z => z.2⟩
  · rename_i h
    constructor
    · exact fun z => nomatch z
    · exact fun z => absurd z.1 h
theorem ahd_sub (s : Scr) (w : Str) : (ahd s w).Sublist s.sh := by
  unfold ahd
  split
  · exact List.takeWhile_sublist _
  · exact List.nil_sublist _
theorem insE_mem {k x : Str} {l : List Str} : x ∈ insE k l ↔ x ∈ l ∨ x = k := by
  unfold insE
  split
  · rename_i h
    exact ⟨fun z => .inl z, fun z => z.elim id fun e => e ▸ h⟩
  · rw [List.mem_append, List.mem_singleton]
theorem insE_nd {k : Str} {l : List Str} (h : l.Nodup) : (insE k l).Nodup := by
  unfold insE
  split
  · exact h
  · rename_i no
    rw [List.nodup_append]
    refine ⟨h, by simp, fun a ha b hb e => ?_⟩
    rw [List.mem_singleton] at hb
    exact no (hb ▸ e ▸ ha)
theorem insE_len (k : Str) (l : List Str) : (insE k l).length ≤ l.length + 1 := by
  unfold insE
  split
  · omega
  · rw [List.length_append]
    exact Nat.le_refl _
def insA (acc xs : List Str) : List Str := xs.foldl (fun acc k => insE k acc) acc
theorem insA_cons (acc : List Str) (x : Str) (xs : List Str) : insA acc (x :: xs) = insA (insE x acc) xs := rfl
theorem insA_snoc (acc xs : List Str) (x : Str) : insA acc (xs ++ [x]) = insE x (insA acc xs) := by
  unfold insA
  rw [List.foldl_append]
  rfl
theorem insA_mem {x : Str} : ∀ {xs acc : List Str}, x ∈ insA acc xs ↔ x ∈ acc ∨ x ∈ xs
  | [], acc => by simp [insA]
  | y :: xs, acc => by
    rw [insA_cons, insA_mem, insE_mem, List.mem_cons]
    constructor
    · rintro ((h | h) | h)
      · exact .inl h
      · exact .inr (.inl h)
      · exact .inr (.inr h)
    · rintro (h | h | h)
      · exact .inl (.inl h)
      · exact .inl (.inr h)
      · exact .inr h
theorem insA_nd : ∀ {xs acc : List Str}, acc.Nodup → (insA acc xs).Nodup
  | [], _, h => h
  | y :: xs, acc, h => insA_nd (xs := xs) (insE_nd h)
theorem insA_len : ∀ (xs acc : List Str), (insA acc xs).length ≤ acc.length + xs.length
  | [], acc => Nat.le_refl _
  | y :: xs, acc => by
    rw [insA_cons, List.length_cons]
    have := insA_len xs (insE y acc)
    have := insE_len y acc
    omega
theorem insA_filter : ∀ {xs acc : List Str}, xs.Nodup → insA acc xs = acc ++ xs.filter fun x => !decide (x ∈ acc)
  | [], acc, _ => by simp [insA]
  | y :: xs, acc, h => by
    obtain ⟨n1, n2⟩ := List.nodup_cons.mp h
    rw [insA_cons, insA_filter n2]
    unfold insE
    by_cases e : y ∈ acc
    · rw [if_pos e, List.filter_cons_of_neg (by rw [decide_eq_true e]; decide)]
    · rw [if_neg e, List.filter_cons_of_pos (by rw [decide_eq_false e]; decide), List.append_assoc]
      congr 1
      rw [List.singleton_append]
      congr 1
      refine List.filter_congr fun z hz => ?_
      have : z ≠ y := fun q => n1 (q ▸ hz)
      congr 1
      exact decide_eq_decide.mpr (by rw [List.mem_append, List.mem_singleton]; exact ⟨fun q => q.elim id fun q => absurd q this, fun q => .inl q⟩)
def abv (l : List Scr) (w : Str) : List Str := l.foldl (fun acc s => insA acc (ahd s w)) []
theorem abv_snoc (l : List Scr) (s : Scr) (w : Str) : abv (l ++ [s]) w = insA (abv l w) (ahd s w) := by
  unfold abv
  rw [List.foldl_append]
  rfl
theorem abv_take {l : List Scr} {k : Nat} {s : Scr} (h : l[k]? = some s) (w : Str) : abv (l.take (k + 1)) w = insA (abv (l.take k) w) (ahd s w) := by
  have et : l.take (k + 1) = l.take k ++ [s] := by
    rw [List.take_succ, h]
    rfl
  rw [et, abv_snoc]
theorem abv_from {x w : Str} : ∀ {l : List Scr} {acc : List Str}, x ∈ l.foldl (fun acc s => insA acc (ahd s w)) acc ↔ x ∈ acc ∨ bef l x w = true
  | [], acc => by simp [bef]
  | s :: l, acc => by
    rw [List.foldl_cons, abv_from, insA_mem, ahd_mem]
    have : bef (s :: l) x w = (puts s x w || bef l x w) := by
      unfold bef
      rw [List.any_cons]
    rw [this, Bool.or_eq_true, or_assoc]
theorem abv_mem {l : List Scr} {x w : Str} : x ∈ abv l w ↔ bef l x w = true := by
  unfold abv
  rw [abv_from]
  exact ⟨fun h => h.elim (fun z => nomatch z) id, .inr⟩
theorem abv_ndF {w : Str} : ∀ {l : List Scr} {acc : List Str}, acc.Nodup → (l.foldl (fun acc s => insA acc (ahd s w)) acc).Nodup
  | [], _, h => h
  | s :: l, acc, h => abv_ndF (l := l) (insA_nd h)
theorem abv_nd (l : List Scr) (w : Str) : (abv l w).Nodup := abv_ndF List.nodup_nil
theorem abv_lenF {w : Str} : ∀ {l : List Scr} {acc : List Str}, (∀ s ∈ l, ScrOk s) → (l.foldl (fun acc s => insA acc (ahd s w)) acc).length ≤ acc.length + 20 * l.length
  | [], acc, _ => by simp
  | s :: l, acc, h => by
    rw [List.foldl_cons]
    have h1 := abv_lenF (w := w) (l := l) (acc := insA acc (ahd s w)) fun x m => h x (List.mem_cons_of_mem s m)
    have h2 := insA_len (ahd s w) acc
    have h3 := (ahd_sub s w).length_le
    have h4 := h s List.mem_cons_self
    have h5 := h4.few
    have h6 := h4.n2
    rw [List.length_cons]
    omega
theorem abv_len {l : List Scr} (hl : l.length ≤ 20) (hs : ∀ s ∈ l, ScrOk s) (w : Str) : (abv l w).length ≤ 400 := by
  have := abv_lenF (w := w) (acc := []) hs
  unfold abv
  rw [List.length_nil] at this
  omega
theorem abv_known {l : List Scr} {x w : Str} (h : x ∈ abv l w) : inK l x := by
  obtain ⟨s, ms, p⟩ := bef_iff.mp (abv_mem.mp h)
  exact ⟨s, ms, befo_mem (puts_iff.mp p).2⟩
/-- for each word the words above it -/
def tab (l : List Scr) (ys : List Str) : List (Str × D) := ys.map fun w => (w, bk (abv l w))
theorem tab_get {l : List Scr} {w : Str} : ∀ {ys : List Str}, w ∈ ys → getS (tab l ys) w = some (bk (abv l w))
  | y :: ys, h => by
    unfold getS tab
    rw [List.map_cons, List.find?_cons]
    by_cases e : y = w
    · subst e
      rw [decide_eq_true (show (y, bk (abv l y)).1 = y from rfl)]
      rfl
    · rw [decide_eq_false (show ¬ (y, bk (abv l y)).1 = w from e)]
      exact tab_get (ys := ys) ((List.mem_cons.mp h).resolve_left fun z => e z.symm)
theorem tab_any {l : List Scr} {w : Str} (ys : List Str) : ((tab l ys).any fun p => decide (p.1 = w)) = decide (w ∈ ys) := by
  unfold tab
  rw [List.any_map]
  induction ys with
  | nil => simp
  | cons y ys ih =>
    rw [List.any_cons, ih]
    by_cases e : y = w
    · subst e
      simp
    · have e2 : ¬ w = y := fun z => e z.symm
      simp [e, e2]
theorem tab_put {l : List Scr} {w : Str} {ys : List Str} (h : w ∉ ys) : putS (tab l ys) w (bk (abv l w)) = tab l (ys ++ [w]) := by
  unfold putS
  rw [tab_any, decide_eq_false h]
  simp only [Bool.false_eq_true, if_false]
  unfold tab
  rw [List.map_append]
  rfl
theorem tab_keys (l : List Scr) (ys : List Str) : (tab l ys).map (·.1) = ys := by
  unfold tab
  rw [List.map_map]
  exact List.map_id _
theorem tab_len (l : List Scr) (ys : List Str) : (tab l ys).length = ys.length := by
  unfold tab
  rw [List.length_map]
/-! ### their row -/
section
variable {l : List Scr}
theorem bef_ne {a b : Str} (h : bef l a b = true) : a ≠ b := fun e => by
  rw [e, bef_irr] at h
  cases h
theorem bef_asym (hs : ∀ s ∈ l, ScrOk s) (nt : ¬ Torn l) {a b : Str} (h : bef l a b = true) (h2 : bef l b a = true) : False := by
  have := bef_tr hs nt h h2
  rw [bef_irr] at this
  cases this
/-- two words above the same word are ordered -/
theorem bef_or (hs : ∀ s ∈ l, ScrOk s) {a b w : Str} (h1 : bef l a w = true) (h2 : bef l b w = true) (ne : a ≠ b) : bef l a b = true ∨ bef l b a = true := by
  obtain ⟨s, ms, p1⟩ := bef_iff.mp h1
  obtain ⟨t, mt, p2⟩ := bef_iff.mp h2
  obtain ⟨s1, b1⟩ := puts_iff.mp p1
  obtain ⟨s2, b2⟩ := puts_iff.mp p2
  have sa := (hs s ms).sw a (befo_mem b1)
  have sb := (hs t mt).sw b (befo_mem b2)
  have main : ∀ {s : Scr} {a b : Str}, s ∈ l → a ∈ s.sh → Txt.startswith b s.b = true → a ≠ b → bef l a b = true ∨ bef l b a = true := fun {s a b} ms ha hb ne => by
    by_cases q : b ∈ befo s.sh a
    · exact .inr (bef_iff.mpr ⟨s, ms, puts_iff.mpr ⟨(hs s ms).sw a ha, q⟩⟩)
    · exact .inl (bef_iff.mpr ⟨s, ms, puts_iff.mpr ⟨hb, befo_total ha ne q⟩⟩)
  rcases Nat.le_total s.b.length t.b.length with le | le
  · exact main ms (befo_mem b1) (sw_via s1 s2 le sb) ne
  · exact (main mt (befo_mem b2) (sw_via s2 s1 le sa) (Ne.symm ne)).symm
theorem abv_lt (hs : ∀ s ∈ l, ScrOk s) (nt : ¬ Torn l) {a b : Str} (h : bef l b a = true) : (abv l b).length < (abv l a).length := by
  have nb : b ∉ abv l b := fun z => bef_ne (abv_mem.mp z) rfl
  have := nd_le (l := b :: abv l b) (ys := abv l a) (List.nodup_cons.mpr ⟨nb, abv_nd l b⟩) fun k hk => by
    rcases List.mem_cons.mp hk with rfl | hk
    · exact abv_mem.mpr h
    · exact abv_mem.mpr (bef_tr hs nt (abv_mem.mp hk) h)
  rw [List.length_cons] at this
  omega
/-- R: the words above w, each ahead of those below it -/
structure RowOf (l : List Scr) (w : Str) (R : List Str) : Prop where
  mem : ∀ x, x ∈ R ↔ bef l x w = true
  pw : R.Pairwise fun a b => bef l a b = true
theorem RowOf.nd {w : Str} {R : List Str} (h : RowOf l w R) : R.Nodup := h.pw.imp fun q => bef_ne q
theorem RowOf.len {w : Str} {R : List Str} (h : RowOf l w R) : R.length = (abv l w).length :=
  ((List.perm_ext_iff_of_nodup h.nd (abv_nd l w)).mpr fun x => by rw [h.mem, abv_mem]).length_eq
theorem RowOf.uniq (hs : ∀ s ∈ l, ScrOk s) (nt : ¬ Torn l) {w : Str} {R S : List Str} (h : RowOf l w R) (g : RowOf l w S) : R = S :=
  List.Perm.eq_of_pairwise (le := fun a b => bef l a b = true) (fun a b _ _ p q => (bef_asym hs nt p q).elim) h.pw g.pw ((List.perm_ext_iff_of_nodup h.nd g.nd).mpr fun x => by rw [h.mem, g.mem])
def prs (l : List Scr) (w : Str) : List (Int × Str) := (abv l w).map fun t => (((abv l t).length : Int), t)
theorem prs_row (hs : ∀ s ∈ l, ScrOk s) (nt : ¬ Torn l) {w : Str} {qs : List (Int × Str)} (pm : qs.Perm (prs l w)) (so : qs.Pairwise fun a b => ltNS b a = false) : RowOf l w (qs.map (·.2)) := by
  have at_ : ∀ p ∈ qs, bef l p.2 w = true ∧ p.1 = ((abv l p.2).length : Int) := fun p hp => by
    obtain ⟨t, ht, rfl⟩ := List.mem_map.mp (pm.mem_iff.mp hp)
    exact ⟨abv_mem.mp ht, rfl⟩
  have p2 : (qs.map (·.2)).Perm (abv l w) := by
    have := pm.map Prod.snd
    rw [show (prs l w).map Prod.snd = abv l w by unfold prs; rw [List.map_map]; exact List.map_id _] at this
    exact this
  refine ⟨fun x => by rw [p2.mem_iff, abv_mem], ?_⟩
  have nd : (qs.map (·.2)).Nodup := p2.symm.nodup (abv_nd l w)
  rw [List.pairwise_map]
  have nd2 := List.pairwise_map.mp nd
  refine List.Pairwise.imp_of_mem (fun {a b} ma mb h => ?_) (so.and nd2)
  obtain ⟨a1, a2⟩ := at_ a ma
  obtain ⟨b1, b2⟩ := at_ b mb
  rcases bef_or hs a1 b1 h.2 with q | q
  · exact q
  · have lt := abv_lt hs nt q
    exact absurd (.inl (by rw [a2, b2]; omega)) (ltNS_no.mp h.1)
/-- the words above the i-th are those ahead of it -/
theorem RowOf.take (hs : ∀ s ∈ l, ScrOk s) (nt : ¬ Torn l) {w : Str} {R : List Str} (h : RowOf l w R) {i : Nat} {t : Str} (e : R[i]? = some t) (x : Str) : x ∈ R.take i ↔ x ∈ abv l t := by
  obtain ⟨hi, e⟩ := List.getElem?_eq_some_iff.mp e
  rw [abv_mem]
  have pw := List.pairwise_iff_getElem.mp h.pw
  constructor
  · intro m
    obtain ⟨j, hj, rfl⟩ := List.mem_take_iff_getElem.mp m
    rw [← e]
    exact pw j i (by omega) hi (by omega)
  · intro b
    have tw : bef l t w = true := (h.mem t).mp (e ▸ List.getElem_mem hi)
    have mx : x ∈ R := (h.mem x).mpr (bef_tr hs nt b tw)
    obtain ⟨j, hj, ej⟩ := List.getElem_of_mem mx
    have : j < i := by
      rcases Nat.lt_trichotomy j i with q | q | q
      · exact q
      · subst q
        rw [e] at ej
        exact absurd ej.symm (bef_ne b)
      · have := pw i j hi hj q
        rw [e, ej] at this
        exact (bef_asym hs nt b this).elim
    rw [← ej]
    exact List.mem_take_iff_getElem.mpr ⟨j, by omega, rfl⟩
end
end TM
set_option pp.deepTerms.threshold 6
namespace TM
open L2 PySem.Spec PySem PyProof.Rows
/-! ### {k: True for s in screens for k in words(s)}; promises about the words above and below -/
theorem dc1_on {t1 : Tg} {dk : DEx} {vs1 : List Nat} {ρ : Sl} {Ψ : List Str → Sl → Prop} (b : Str → Sl) : ∀ (xs acc : List Str), (∀ x ∈ xs, t1.bind (.str x) (wipeS ρ vs1) = some (b x)) →
    (∀ x ∈ xs, ∀ Ψ : D → Sl → Prop, Ψ (.str x) (b x) → dk (b x) Ψ noX) → (∀ x ∈ xs, back ρ (b x) vs1 = ρ) → acc.length + xs.length ≤ 100000 → Ψ (insA acc xs) ρ → dcR1 t1 dk vs1 (xs.map .str) acc ρ Ψ
  | [], acc, _, _, _, _, h => by
    unfold dcR1
    exact h
  | x :: xs, acc, h1, h2, h3, h4, h => by
    rw [List.map_cons]
    unfold dcR1
    rw [h1 x List.mem_cons_self]
    rw [List.length_cons] at h4
    refine h2 x List.mem_cons_self _ ⟨by omega, ?_⟩
    rw [h3 x List.mem_cons_self]
    have := insE_len x acc
    exact dc1_on b xs (insE x acc) (fun y hy => h1 y (List.mem_cons_of_mem x hy)) (fun y hy => h2 y (List.mem_cons_of_mem x hy)) (fun y hy => h3 y (List.mem_cons_of_mem x hy)) (by omega) h
theorem dc0_on {α : Type} {t0 : Tg} {i1 : DIx} {t1 : Tg} {dk : DEx} {vs vs1 : List Nat} {ρ : Sl} {Ψ : List Str → Sl → Prop} (g : α → D) (b : α → Sl) (ws : α → List Str) : ∀ (xs : List α) (acc : List Str), (∀ x ∈ xs, t0.bind (g x) (wipeS ρ vs) = some (b x)) →
    (∀ x ∈ xs, (ws x).length ≤ 20) → (∀ x ∈ xs, ∀ (acc : List Str) (Ψ : List Str → Sl → Prop), acc.length ≤ 50000 → Ψ (insA acc (ws x)) (b x) → i1 (b x) (fun ds ρ3 => dcR1 t1 dk vs1 ds acc ρ3 Ψ) noX) → (∀ x ∈ xs, back ρ (b x) vs = ρ) →
    acc.length + 20 * xs.length ≤ 50000 → Ψ (xs.foldl (fun acc x => insA acc (ws x)) acc) ρ → dcR0 t0 i1 t1 dk vs vs1 (xs.map g) acc ρ Ψ
  | [], acc, _, _, _, _, _, h => by
    unfold dcR0
    exact h
  | x :: xs, acc, h1, hw, h2, h3, h4, h => by
    rw [List.map_cons]
    unfold dcR0
    rw [h1 x List.mem_cons_self]
    rw [List.length_cons] at h4
    refine h2 x List.mem_cons_self acc _ (by omega) ?_
    rw [h3 x List.mem_cons_self]
    have := insA_len (ws x) acc
    have := hw x List.mem_cons_self
    exact dc0_on g b ws xs (insA acc (ws x)) (fun y hy => h1 y (List.mem_cons_of_mem x hy)) (fun y hy => hw y (List.mem_cons_of_mem x hy)) (fun y hy => h2 y (List.mem_cons_of_mem x hy)) (fun y hy => h3 y (List.mem_cons_of_mem x hy)) (by omega) h
structure KnOf (l : List Scr) (ys : List Str) : Prop where
  mem : ∀ y, y ∈ ys ↔ inK l y
  nd : ys.Nodup
  as : ascT ys
  len : ys.length ≤ 400
theorem KnOf.uniq {l : List Scr} {ys zs : List Str} (h : KnOf l ys) (g : KnOf l zs) : ys = zs := ascT_uniq h.as g.as h.nd g.nd fun w => by rw [h.mem, g.mem]
def sp_above_words : DSp := fun es Ψ _ => ∃ l : List Scr, es = [.fz (scs l)] ∧ l.length ≤ 20 ∧ (∀ s ∈ l, ScrOk s) ∧ ∀ ys : List Str, KnOf l ys → Ψ (.od (kvS (tab l ys)))
def sp_row_above : DSp := fun es Ψ _ => ∃ (l : List Scr) (ys : List Str) (w : Str), es = [.fz (.dict (kvS (tab l ys))), .fz (.str w)] ∧ l.length ≤ 20 ∧ (∀ s ∈ l, ScrOk s) ∧ ¬ Torn l ∧ KnOf l ys ∧ w ∈ ys ∧ ∀ R : List Str, RowOf l w R → Ψ (.ow (R.map .str))
def sp_words_above : DSp := fun es Ψ _ => ∃ (l : List Scr) (w : Str), es = [.fz (scs l), .fz (.str w)] ∧ l.length ≤ 20 ∧ (∀ s ∈ l, ScrOk s) ∧ ¬ Torn l ∧ inK l w ∧ ∀ R : List Str, RowOf l w R → Ψ (.ow (R.map .str))
def sp_words_below : DSp := fun es Ψ _ => ∃ (l : List Scr) (w : Str), es = [.fz (scs l), .fz (.str w)] ∧ l.length ≤ 20 ∧ (∀ s ∈ l, ScrOk s) ∧ ¬ Torn l ∧ inK l w ∧ ∀ ys : List Str, KnOf l ys → Ψ (.ow ((ys.filter fun y => bef l w y).map .str))
/-- the promise of both functions that give the table -/
theorem kvB_keys (l : List Str) : ((kvB l).map fun p => (.str p.1 : D)) = l.map .str := by
  unfold kvB
  rw [List.map_map]
  rfl
theorem abv_lets {l : List Scr} (hs : ∀ s ∈ l, ScrOk s) {w x : Str} (h : x ∈ abv l w) : lets x := (inK_ok hs (abv_known h)).1
theorem gNe_strs {A B : List Str} (hA : ∀ w ∈ A, lets w) (hB : ∀ w ∈ B, lets w) {κ : D → Prop} (h : κ (.bool (!(A == B)))) : gNe (bk A) (bk B) κ := by
  refine .inl ⟨shaped_book hA, shaped_book hB, ?_⟩
  rw [show PyData.eqv (bk A) (bk B) = (A == B) from eqv_strs A B]
  exact h
end TM
set_option pp.deepTerms.threshold 6
namespace TM
open L2 PySem.Spec PySem PyProof.Rows
/-! ### parents and children -/
def parD : Option Str → D
  | none => .none
  | some t => .str t
def par (l : List Scr) (w : Str) : Option Str := (abv l w).find? fun t => (abv l t).length + 1 == (abv l w).length
theorem find_one {α : Type} {p : α → Bool} {a : α} : ∀ {xs : List α}, a ∈ xs → p a = true → (∀ x ∈ xs, p x = true → x = a) → xs.find? p = some a
  | x :: xs, ha, pa, un => by
    rw [List.find?_cons]
    cases e : p x with
    | true => rw [un x List.mem_cons_self e]
    | false =>
      refine find_one ((List.mem_cons.mp ha).resolve_left fun z => ?_) pa fun y hy => un y (List.mem_cons_of_mem x hy)
      rw [← z, pa] at e
      cases e
section
variable {l : List Scr}
theorem RowOf.row (hs : ∀ s ∈ l, ScrOk s) (nt : ¬ Torn l) {w : Str} {R : List Str} (h : RowOf l w R) {i : Nat} {t : Str} (e : R[i]? = some t) : RowOf l t (R.take i) :=
  ⟨fun x => by rw [h.take hs nt e, abv_mem], h.pw.sublist (List.take_sublist _ _)⟩
theorem RowOf.cnt (hs : ∀ s ∈ l, ScrOk s) (nt : ¬ Torn l) {w : Str} {R : List Str} (h : RowOf l w R) {i : Nat} {t : Str} (e : R[i]? = some t) : (abv l t).length = i := by
  have := (h.row hs nt e).len
  rw [← this, List.length_take]
  have := (List.getElem?_eq_some_iff.mp e).1
  omega
/-- each word has its row -/
theorem row_exists (hs : ∀ s ∈ l, ScrOk s) (nt : ¬ Torn l) (w : Str) : ∃ R, RowOf l w R := by
  let le := fun a b : Int × Str => !(ltNS b a)
  have tr : ∀ a b c : Int × Str, le a b = true → le b c = true → le a c = true := fun a b c h1 h2 => by
    have h1 : ltNS b a = false := by simpa [le] using h1
    have h2 : ltNS c b = false := by simpa [le] using h2
    have : ltNS c a = false := (swo_ns (fun x : Int × Str => x)).tr a b c h1 h2
    simp [le, this]
  have tot : ∀ a b : Int × Str, (le a b || le b a) = true := fun a b => by
    cases e : ltNS b a with
    | false => simp [le, e]
    | true =>
      have : ltNS a b = false := (swo_ns (fun x : Int × Str => x)).asym b a e
      simp [le, this]
  have pw := List.pairwise_mergeSort (le := le) tr tot (prs l w)
  exact ⟨_, prs_row hs nt (List.mergeSort_perm _ _) (pw.imp fun h => by simpa [le] using h)⟩
theorem par_last (hs : ∀ s ∈ l, ScrOk s) (nt : ¬ Torn l) {w : Str} {R : List Str} (h : RowOf l w R) : par l w = R.getLast? := by
  have hl := h.len
  unfold par
  cases e : R.getLast? with
  | none =>
    have : R = [] := List.getLast?_eq_none_iff.mp e
    rw [this, List.length_nil] at hl
    rw [List.eq_nil_of_length_eq_zero hl.symm]
    rfl
  | some t =>
    have e2 : R[R.length - 1]? = some t := by rw [← List.getLast?_eq_getElem?]; exact e
    have hc := h.cnt hs nt e2
    have pos : R.length - 1 < R.length := (List.getElem?_eq_some_iff.mp e2).1
    refine find_one (abv_mem.mpr ((h.mem t).mp (List.mem_of_getElem? e2))) (by rw [beq_iff_eq]; omega) fun x hx px => ?_
    obtain ⟨j, hj, ej⟩ := List.getElem_of_mem ((h.mem x).mpr (abv_mem.mp hx))
    have hc2 := h.cnt hs nt (List.getElem?_eq_some_iff.mpr ⟨hj, ej⟩)
    rw [beq_iff_eq] at px
    have : j = R.length - 1 := by omega
    subst this
    have := (List.getElem?_eq_some_iff.mp e2).2
    rw [← ej, this]
theorem par_known {w t : Str} (h : par l w = some t) : inK l t := abv_known (List.mem_of_find?_eq_some h)
/-- the words with the parent o -/
theorem kid_iff (hs : ∀ s ∈ l, ScrOk s) (nt : ¬ Torn l) {w y : Str} : par l y = some w ↔ bef l w y = true ∧ (abv l y).length = (abv l w).length + 1 := by
  obtain ⟨R, RO⟩ := row_exists hs nt y
  constructor
  · intro h
    have m := abv_mem.mp (List.mem_of_find?_eq_some h)
    have p := List.find?_some h
    rw [beq_iff_eq] at p
    exact ⟨m, p.symm⟩
  · rintro ⟨b, c⟩
    have e : R.getLast? = some w := by
      obtain ⟨j, hj, ej⟩ := List.getElem_of_mem ((RO.mem w).mpr b)
      have hc2 := RO.cnt hs nt (List.getElem?_eq_some_iff.mpr ⟨hj, ej⟩)
      have := RO.len
      rw [List.getLast?_eq_getElem?, List.getElem?_eq_some_iff]
      have e : j = R.length - 1 := by omega
      subst e
      exact ⟨hj, ej⟩
    rw [par_last hs nt RO, e]
theorem root_iff (hs : ∀ s ∈ l, ScrOk s) (nt : ¬ Torn l) {y : Str} : par l y = none ↔ abv l y = [] := by
  obtain ⟨R, RO⟩ := row_exists hs nt y
  rw [par_last hs nt RO, List.getLast?_eq_none_iff]
  have := RO.len
  constructor
  · intro h
    rw [h, List.length_nil] at this
    exact List.eq_nil_of_length_eq_zero this.symm
  · intro h
    rw [h, List.length_nil] at this
    exact List.eq_nil_of_length_eq_zero this
end
/-- for each word its parent -/
def ptab (l : List Scr) (ys : List Str) : List (Str × D) := ys.map fun w => (w, parD (par l w))
theorem ptab_any {l : List Scr} {w : Str} (ys : List Str) : ((ptab l ys).any fun p => decide (p.1 = w)) = decide (w ∈ ys) := by
  unfold ptab
  rw [List.any_map]
  induction ys with
  | nil => simp
  | cons y ys ih =>
    rw [List.any_cons, ih]
    by_cases e : y = w
    · subst e
      simp
    · have e2 : ¬ w = y := fun z => e z.symm
      simp [e, e2]
theorem ptab_put {l : List Scr} {w : Str} {ys : List Str} (h : w ∉ ys) : putS (ptab l ys) w (parD (par l w)) = ptab l (ys ++ [w]) := by
  unfold putS
  rw [ptab_any, decide_eq_false h]
  simp only [Bool.false_eq_true, if_false]
  unfold ptab
  rw [List.map_append]
  rfl
theorem ptab_len (l : List Scr) (ys : List Str) : (ptab l ys).length = ys.length := by
  unfold ptab
  rw [List.length_map]
theorem ptab_keys (l : List Scr) (ys : List Str) : (ptab l ys).map (·.1) = ys := by
  unfold ptab
  rw [List.map_map]
  exact List.map_id _
theorem ptab_get {l : List Scr} {w : Str} : ∀ {ys : List Str}, w ∈ ys → getS (ptab l ys) w = some (parD (par l w))
  | y :: ys, h => by
    unfold getS ptab
    rw [List.map_cons, List.find?_cons]
    by_cases e : y = w
    · subst e
      rw [decide_eq_true (show (y, parD (par l y)).1 = y from rfl)]
      rfl
    · rw [decide_eq_false (show ¬ (y, parD (par l y)).1 = w from e)]
      exact ptab_get (ys := ys) ((List.mem_cons.mp h).resolve_left fun z => e z.symm)
theorem parD_eqv : ∀ a b : Option Str, PyData.eqv (parD a) (parD b) = (a == b)
  | none, none => by simp [parD, PyData.eqv]
  | none, some t => by simp [parD, PyData.eqv]
  | some t, none => by simp [parD, PyData.eqv]
  | some s, some t => by
    simp only [parD, PyData.eqv]
    rfl
theorem parD_shaped {o : Option Str} (h : ∀ t, o = some t → asc t) : SeqAt.shaped (parD o) = true := by
  cases o with
  | none => rfl
  | some t => exact shaped_flat (strOk_asc (h t rfl)) rfl
theorem gEq_par {a b : Option Str} (ha : ∀ t, a = some t → asc t) (hb : ∀ t, b = some t → asc t) {κ : D → Prop} (h : κ (.bool (a == b))) : gEq (parD a) (parD b) κ := by
  refine .inl ⟨parD_shaped ha, parD_shaped hb, ?_⟩
  rw [parD_eqv]
  exact h
theorem gNe_par {a b : Option Str} (ha : ∀ t, a = some t → asc t) (hb : ∀ t, b = some t → asc t) {κ : D → Prop} (h : κ (.bool (!(a == b)))) : gNe (parD a) (parD b) κ := by
  refine .inl ⟨parD_shaped ha, parD_shaped hb, ?_⟩
  rw [parD_eqv]
  exact h
def sp_parents_in : DSp := fun es Ψ _ => ∃ (l : List Scr) (ys : List Str), es = [.fz (.dict (kvS (tab l ys)))] ∧ l.length ≤ 20 ∧ (∀ s ∈ l, ScrOk s) ∧ ¬ Torn l ∧ KnOf l ys ∧ Ψ (.od (kvS (ptab l ys)))
def sp_parent_of : DSp := fun es Ψ _ => ∃ (l : List Scr) (w : Str), es = [.fz (scs l), .fz (.str w)] ∧ l.length ≤ 20 ∧ (∀ s ∈ l, ScrOk s) ∧ ¬ Torn l ∧ inK l w ∧ Ψ (.fz (parD (par l w)))
def sp_children_of : DSp := fun es Ψ _ => ∃ (l : List Scr) (o : Option Str), es = [.fz (scs l), .fz (parD o)] ∧ l.length ≤ 20 ∧ (∀ s ∈ l, ScrOk s) ∧ ¬ Torn l ∧ (∀ w, o = some w → inK l w) ∧ ∀ ys : List Str, KnOf l ys → Ψ (.ow ((ys.filter fun y => par l y == o).map .str))
end TM
set_option pp.deepTerms.threshold 6
namespace TM
open L2 PySem.Spec PySem PyProof.Rows
/-! ### the dictionary keeps the order; children and what is below -/
theorem befo_pw : ∀ {ws : List Str}, ws.Nodup → ws.Pairwise fun a b => a ∈ befo ws b
  | [], _ => List.Pairwise.nil
  | x :: ws, h => by
    obtain ⟨nx, nd⟩ := List.nodup_cons.mp h
    refine List.pairwise_cons.mpr ⟨fun b hb => befo_cons.mpr ⟨fun e => nx (e ▸ hb), .inl rfl⟩, ?_⟩
    exact (befo_pw nd).imp_of_mem fun {a b} _ mb hab => befo_cons.mpr ⟨fun e => nx (e ▸ mb), .inr hab⟩
theorem made_in {ws : List Str} {s : Scr} (h : Made ws s) {w : Str} (hw : w ∈ s.sh) : w ∈ ws := by
  have := h.eq
  unfold shows at this
  rw [beq_iff_eq] at this
  rw [← this] at hw
  exact (ans_mem hw).1
section
variable {ws : List Str} {l : List Scr}
theorem known_in_book (hm : ∀ s ∈ l, Made ws s) {w : Str} (h : inK l w) : w ∈ ws := by
  obtain ⟨s, ms, hw⟩ := h
  exact made_in (hm s ms) hw
theorem bef_book (hm : ∀ s ∈ l, Made ws s) {a b : Str} (h : bef l a b = true) (hb : b ∈ ws) : a ∈ befo ws b := by
  obtain ⟨s, ms, p⟩ := bef_iff.mp h
  exact row_puts (hm s ms).eq p (made_in (hm s ms) (befo_mem (puts_iff.mp p).2)) hb
theorem row_book (hm : ∀ s ∈ l, Made ws s) (nd : ws.Nodup) {w : Str} {R : List Str} (h : RowOf l w R) : R = ws.filter fun t => decide (t ∈ R) := by
  have sub : ∀ x ∈ R, x ∈ ws := fun x hx => known_in_book hm (abv_known (abv_mem.mpr ((h.mem x).mp hx)))
  refine List.Perm.eq_of_pairwise (le := fun a b => a ∈ befo ws b) (fun a b _ _ p q => (befo_asym p q).elim) ?_ ((befo_pw nd).sublist List.filter_sublist) ((List.perm_ext_iff_of_nodup h.nd (nd.sublist List.filter_sublist)).mpr fun x => ?_)
  · exact h.pw.imp_of_mem fun {a b} _ mb q => bef_book hm q (sub b mb)
  · rw [List.mem_filter, decide_eq_true_eq]
    exact ⟨fun hx => ⟨sub x hx, hx⟩, fun hx => hx.2⟩
end
section
variable {l : List Scr}
theorem kid_row (hs : ∀ s ∈ l, ScrOk s) (nt : ¬ Torn l) {c w : Str} {R : List Str} (h : par l c = some w) (RO : RowOf l w R) : RowOf l c (R ++ [w]) := by
  obtain ⟨S, SO⟩ := row_exists hs nt c
  rw [par_last hs nt SO] at h
  obtain ⟨T, rfl⟩ := List.getLast?_eq_some_iff.mp h
  have e : (T ++ [w])[T.length]? = some w := by simp
  have := SO.row hs nt e
  rw [List.take_left] at this
  rw [RO.uniq hs nt this]
  exact SO
theorem no_kin (hs : ∀ s ∈ l, ScrOk s) (nt : ¬ Torn l) {b c w : Str} (hb : par l b = some w) (hc : par l c = some w) : bef l b c = false := by
  cases e : bef l b c with
  | false => rfl
  | true =>
    exfalso
    obtain ⟨R, RO⟩ := row_exists hs nt w
    have hw := ((kid_iff hs nt).mp hb).1
    rcases List.mem_append.mp (((kid_row hs nt hc RO).mem b).mpr e) with m | m
    · exact bef_asym hs nt ((RO.mem b).mp m) hw
    · rw [List.mem_singleton.mp m] at hw
      exact bef_ne hw rfl
def under (l : List Scr) (ys C : List Str) : List Str := C.flatMap fun c => c :: ys.filter fun y => bef l c y
theorem under_snoc (l : List Scr) (ys C : List Str) (c : Str) : under l ys (C ++ [c]) = under l ys C ++ (c :: ys.filter fun y => bef l c y) := by
  unfold under
  rw [List.flatMap_append]
  simp
theorem under_mem (hs : ∀ s ∈ l, ScrOk s) (nt : ¬ Torn l) {ys : List Str} (K : KnOf l ys) {w x : Str} : x ∈ under l ys (ys.filter fun y => par l y == some w) ↔ x ∈ ys.filter fun y => bef l w y := by
  unfold under
  rw [List.mem_flatMap, List.mem_filter]
  constructor
  · rintro ⟨c, hc, hx⟩
    obtain ⟨mc, pc⟩ := List.mem_filter.mp hc
    have b := ((kid_iff hs nt).mp (beq_iff_eq.mp pc)).1
    rcases List.mem_cons.mp hx with rfl | hx
    · exact ⟨mc, b⟩
    · obtain ⟨my, b2⟩ := List.mem_filter.mp hx
      exact ⟨my, bef_tr hs nt b b2⟩
  · rintro ⟨my, b⟩
    obtain ⟨R, RO⟩ := row_exists hs nt x
    obtain ⟨i, hi, ei⟩ := List.getElem_of_mem ((RO.mem w).mpr b)
    by_cases q : i + 1 = R.length
    · refine ⟨x, List.mem_filter.mpr ⟨my, ?_⟩, List.mem_cons_self⟩
      rw [par_last hs nt RO, List.getLast?_eq_getElem?, beq_iff_eq, List.getElem?_eq_some_iff]
      have e : R.length - 1 = i := by omega
      subst e
      exact ⟨hi, ei⟩
    · have h2 : i + 1 < R.length := by omega
      have ec : R[i + 1]? = some R[i + 1] := List.getElem?_eq_getElem h2
      have CO := RO.row hs nt ec
      have bc := (RO.mem _).mp (List.getElem_mem h2)
      refine ⟨R[i + 1], List.mem_filter.mpr ⟨(K.mem _).mpr (abv_known (abv_mem.mpr bc)), ?_⟩, List.mem_cons_of_mem _ (List.mem_filter.mpr ⟨my, bc⟩)⟩
      rw [par_last hs nt CO, List.getLast?_eq_getElem?, beq_iff_eq, List.length_take, List.getElem?_take]
      have e : min (i + 1) R.length - 1 = i := by omega
      rw [e, if_pos (by omega), List.getElem?_eq_some_iff]
      exact ⟨hi, ei⟩
theorem under_nd (hs : ∀ s ∈ l, ScrOk s) (nt : ¬ Torn l) {ys : List Str} (nd : ys.Nodup) {w : Str} : ∀ {C : List Str}, C.Nodup → (∀ c ∈ C, par l c = some w) → (under l ys C).Nodup
  | [], _, _ => List.nodup_nil
  | c :: C, nC, hC => by
    obtain ⟨nc, nC⟩ := List.nodup_cons.mp nC
    have ih := under_nd hs nt nd nC fun x hx => hC x (List.mem_cons_of_mem c hx)
    have hc := hC c List.mem_cons_self
    unfold under at ih ⊢
    rw [List.flatMap_cons, List.nodup_append]
    refine ⟨List.nodup_cons.mpr ⟨fun m => bef_ne (List.mem_filter.mp m).2 rfl, nd.sublist List.filter_sublist⟩, ih, fun a ha b hb e => ?_⟩
    subst e
    obtain ⟨d, hd, hx⟩ := List.mem_flatMap.mp hb
    have ne : c ≠ d := fun z => nc (z ▸ hd)
    have hd := hC d (List.mem_cons_of_mem c hd)
    have k1 := no_kin hs nt hc hd
    have k2 := no_kin hs nt hd hc
    rcases List.mem_cons.mp ha with rfl | ha <;> rcases List.mem_cons.mp hx with rfl | hx
    · exact ne rfl
    · rw [(List.mem_filter.mp hx).2] at k2
      cases k2
    · rw [(List.mem_filter.mp ha).2] at k1
      cases k1
    · rcases bef_or hs (List.mem_filter.mp ha).2 (List.mem_filter.mp hx).2 ne with q | q
      · rw [q] at k1
        cases k1
      · rw [q] at k2
        cases k2
theorem under_len (hs : ∀ s ∈ l, ScrOk s) (nt : ¬ Torn l) {ys : List Str} (K : KnOf l ys) {w : Str} {C : List Str} (nC : C.Nodup) (hC : ∀ c ∈ C, c ∈ ys ∧ par l c = some w) : (under l ys C).length ≤ ys.length := by
  refine nd_le (under_nd hs nt K.nd nC fun c hc => (hC c hc).2) fun x hx => ?_
  unfold under at hx
  obtain ⟨c, hc, hx⟩ := List.mem_flatMap.mp hx
  rcases List.mem_cons.mp hx with rfl | hx
  · exact (hC x hc).1
  · exact (List.mem_filter.mp hx).1
theorem last_none (R : List Str) : ([(PyData.none : D)] ++ R.map PyData.str).getLast? = some (parD R.getLast?) := by
  rw [List.getLast?_append, List.getLast?_map]
  cases R.getLast? with
  | none => rfl
  | some t => rfl
end
end TM
set_option pp.deepTerms.threshold 6
namespace TM
open L2 PySem.Spec PySem PyProof.Rows
/-! ### laws with a jar: what their first defs promise -/
def sp__law_jar : DSp := fun es Ψ _ => ∃ (ns : List Int) (k : Nat), es = [.sc ns, .fz (.int (k : Nat))] ∧ ∀ x y : Int, 0 ≤ y → y < 2 ^ 130 → Ψ (.ow [.int x, .int y, .int 0])
def sj__law_terms : DSp := fun es Ψ _ => ∃ (many : Nat) (L : Str) (most : Int), es = [.dk, .fz (.int (many : Nat)), .fz (.str L), .fz (.int most)] ∧ many ≤ 1000 ∧ 1 ≤ L.length ∧ L.length ≤ 1048576 ∧ lets L ∧ 1 ≤ most ∧ most ≤ 1000 ∧
  ∀ ws : List Str, ws.Nodup → ws.length ≤ many → (∀ w ∈ ws, termOk L most w) → Ψ (.ow (ws.map .str))
/-- the signs of w are signs of L -/
def inL (L w : Str) : Prop := ∀ c ∈ w.cps.toList, c ∈ L.cps.toList
theorem inL_cut {L s : Str} {lo hi : Option Int} (h : inL L s) : inL L (cutS s lo hi) := fun c hc => h c (cutS_mem hc)
def sp__law_front : DSp := fun es Ψ _ => ∃ (ws : List Str) (L : Str), es = [.dk, .fz (bk ws), .fz (.str L)] ∧ BookOk ws ∧ (∀ w ∈ ws, w.length ≤ 100) ∧ lets L ∧ 1 ≤ L.length ∧ L.length ≤ 1048576 ∧ ∀ s, stOk s → ((∀ w ∈ ws, inL L w) → inL L s) → Ψ (.fz (.str s))
def sp__law_views : DSp := fun es Ψ _ => ∃ (ws : List Str) (many wide : Nat) (L : Str), es = [.dk, .fz (bk ws), .fz (.int (many : Nat)), .fz (.int (wide : Nat)), .fz (.str L)] ∧ BookOk ws ∧ (∀ w ∈ ws, w.length ≤ 100) ∧ many ≤ 20 ∧ 1 ≤ wide ∧ wide ≤ 20 ∧ lets L ∧ 1 ≤ L.length ∧ L.length ≤ 1048576 ∧
  ∀ l : List Scr, l.length ≤ many → (∀ s ∈ l, Made ws s ∧ ((∀ w ∈ ws, inL L w) → inL L s.b)) → Ψ (.ow (l.map Scr.d))
/-! ### screens that decide -/
def dec (b : Str) (n : Nat) (s : Scr) : Bool := Txt.startswith b s.b && (short s || decide (n ≤ (s.sh.filter fun w => Txt.startswith w b).length))
def decider (l : List Scr) (b : Str) (n : Nat) : Option Nat := l.findIdx? (dec b n)
def sure (l : List Scr) (b : Str) (n : Nat) : Option (List Str) := (l.find? (dec b n)).map fun s => ans s.sh b n
def bkO : Option (List Str) → D
  | some ws => bk ws
  | none => .none
theorem sure_at {l : List Scr} {b : Str} {n i : Nat} (h : decider l b n = some i) : ∃ s, l[i]? = some s ∧ sure l b n = some (ans s.sh b n) ∧ dec b n s = true := by
  unfold decider at h
  obtain ⟨hi, e, no⟩ := List.findIdx?_eq_some_iff_getElem.mp h
  refine ⟨l[i], List.getElem?_eq_getElem hi, ?_, e⟩
  unfold sure
  rw [List.find?_eq_some_iff_getElem.mpr ⟨e, i, hi, rfl, fun j hj => by
    have := no j hj
    simpa using this⟩]
  rfl
theorem sure_none {l : List Scr} {b : Str} {n : Nat} (h : decider l b n = none) : sure l b n = none := by
  unfold decider at h
  rw [List.findIdx?_eq_none_iff] at h
  unfold sure
  rw [List.find?_eq_none.mpr fun x hx => by
    rw [h x hx]
    decide]
  rfl
theorem sw_tr {w b p : Str} (h : Txt.startswith w b = true) (g : Txt.startswith b p = true) : Txt.startswith w p = true := sw_cps.mpr ((sw_cps.mp g).trans (sw_cps.mp h))
/-- what a screen decides is the dictionary's answer -/
theorem dec_ansE {ws : List Str} {s : Scr} {b : Str} {n : Nat} (e : shows ws s = true) (h : dec b n s = true) : ans s.sh b n = ans ws b n := by
  unfold dec at h
  rw [Bool.and_eq_true, Bool.or_eq_true, decide_eq_true_eq] at h
  obtain ⟨hb, h⟩ := h
  unfold shows at e
  rw [beq_iff_eq] at e
  have ff : ws.filter (fun w => Txt.startswith w b) = (ws.filter fun w => Txt.startswith w s.b).filter fun w => Txt.startswith w b := by
    rw [List.filter_filter]
    refine List.filter_congr fun w _ => ?_
    cases q : Txt.startswith w b with
    | false => rfl
    | true => rw [sw_tr q hb]; rfl
  unfold ans at e ⊢
  rw [ff]
  generalize ws.filter (fun w => Txt.startswith w s.b) = F at e ⊢
  rw [← e]
  rcases h with h | h
  · have : F.length ≤ s.n := by
      unfold short at h
      rw [decide_eq_true_eq, ← e, List.length_take] at h
      omega
    rw [List.take_of_length_le this]
  · rw [← e] at h
    obtain ⟨r, er⟩ := List.take_prefix s.n F
    generalize F.take s.n = P at er h ⊢
    rw [← er, List.filter_append, List.take_append_of_le_length h]
theorem dec_ans {ws : List Str} {s : Scr} {b : Str} {n : Nat} (hm : Made ws s) (h : dec b n s = true) : ans s.sh b n = ans ws b n := dec_ansE hm.eq h
def decs (l : List Scr) (b : Str) (n : Nat) : List D := (l.zipIdx.filter fun p => dec b n p.1).map fun p => .int ((p.2 : Nat) : Int)
theorem decs_head (l : List Scr) (b : Str) (n : Nat) : (decs l b n ++ [PyData.none])[0]? = some (natD (decider l b n)) := by
  have h := whys_from (q := dec b n) l 0
  change (decs l b n).head? = _ at h
  unfold decider
  cases e : decs l b n with
  | nil =>
    rw [e] at h
    cases f : l.findIdx? (dec b n) with
    | none => rfl
    | some i =>
      rw [f] at h
      cases h
  | cons x t =>
    rw [e] at h
    cases f : l.findIdx? (dec b n) with
    | none =>
      rw [f] at h
      cases h
    | some i =>
      rw [f] at h
      simp only [List.head?_cons, Option.map_some, Option.some.injEq, Nat.add_zero] at h
      rw [h]
      rfl
theorem decs_len (l : List Scr) (b : Str) (n : Nat) : (decs l b n).length ≤ l.length := by
  unfold decs
  rw [List.length_map]
  exact Nat.le_trans (List.length_filter_le _ _) (by rw [List.length_zipIdx]; exact Nat.le_refl _)
theorem decider_lt {l : List Scr} {b : Str} {n i : Nat} (h : decider l b n = some i) : i < l.length := by
  obtain ⟨s, e, _⟩ := sure_at h
  exact (List.getElem?_eq_some_iff.mp e).1
abbrev quest (l : List Scr) (b : Str) (n : Nat) : List Ent := [.fz (scs l), .fz (.str b), .fz (.int (n : Nat))]
def QOk (l : List Scr) (b : Str) (n : Nat) : Prop := l.length ≤ 20 ∧ (∀ s ∈ l, ScrOk s) ∧ ¬ Torn l ∧ lets b ∧ b.length ≤ 2000 ∧ 1 ≤ n ∧ n ≤ 20
def sp_require_question : DSp := fun es Ψ _ => ∃ (l : List Scr) (b : Str) (n : Nat), es = quest l b n ∧ QOk l b n ∧ Ψ (.fz .none)
def sp_decides : DSp := fun es Ψ _ => ∃ (s : Scr) (b : Str) (n : Nat), es = [.fz s.d, .fz (.str b), .fz (.int (n : Nat))] ∧ ScrOk s ∧ b.length ≤ 2000 ∧ Ψ (.fz (.bool (dec b n s)))
def sp_decider_in : DSp := fun es Ψ _ => ∃ (l : List Scr) (b : Str) (n : Nat), es = quest l b n ∧ l.length ≤ 20 ∧ (∀ s ∈ l, ScrOk s) ∧ b.length ≤ 2000 ∧ Ψ (.fz (natD (decider l b n)))
def sp_sure_in : DSp := fun es Ψ _ => ∃ (l : List Scr) (b : Str) (n : Nat), es = quest l b n ∧ l.length ≤ 20 ∧ (∀ s ∈ l, ScrOk s) ∧ b.length ≤ 2000 ∧ Ψ (.fz (bkO (sure l b n)))
def sp_sure_answer : DSp := fun es Ψ _ => ∃ (l : List Scr) (b : Str) (n : Nat), es = quest l b n ∧ QOk l b n ∧ Ψ (.fz (bkO (sure l b n)))
def sp_deciding_screen : DSp := fun es Ψ _ => ∃ (l : List Scr) (b : Str) (n : Nat), es = quest l b n ∧ QOk l b n ∧ Ψ (.fz (natD (decider l b n)))
end TM
set_option pp.deepTerms.threshold 6
namespace TM
open L2 PySem.Spec PySem PyProof.Rows
theorem gNe_num {a b : Int} {κ : D → Prop} (h : κ (.bool (a != b))) : gNe (.int a) (.int b) κ := .inl ⟨shaped_int a, shaped_int b, by
  have e : PyData.eqv (.int a) (.int b) = (a == b) := by simp [PyData.eqv]
  rw [e]
  exact h⟩
/-! ### screens that are implied, and those that are left out -/
def ScrsOk (l : List Scr) : Prop := l.length ≤ 20 ∧ (∀ s ∈ l, ScrOk s) ∧ ¬ Torn l
def implied (l : List Scr) (i : Nat) : Bool := match l[i]? with
  | some s => (decider (l.eraseIdx i) s.b s.n).isSome
  | none => false
def leftB (l : List Scr) (i : Nat) : Bool := match l[i]? with
  | some o => l.zipIdx.any fun p => p.2 != i && dec o.b o.n p.1 && (decide (p.2 < i) || !(dec p.1.b p.1.n o))
  | none => false
def reds (l : List Scr) : List D := ((List.range l.length).filter fun i => !(leftB l i)).map fun i => .int ((i : Nat) : Int)
def sp_require_index : DSp := fun es Ψ _ => ∃ (l : List Scr) (i : Nat), es = [.fz (scs l), .fz (.int (i : Nat))] ∧ l.length ≤ 20 ∧ i < l.length ∧ Ψ (.fz .none)
def sp_is_implied : DSp := fun es Ψ _ => ∃ (l : List Scr) (i : Nat), es = [.fz (scs l), .fz (.int (i : Nat))] ∧ ScrsOk l ∧ i < l.length ∧ Ψ (.fz (.bool (implied l i)))
def sp_is_left_out : DSp := fun es Ψ _ => ∃ (l : List Scr) (i : Nat), es = [.fz (scs l), .fz (.int (i : Nat))] ∧ l.length ≤ 20 ∧ (∀ s ∈ l, ScrOk s) ∧ i < l.length ∧ Ψ (.fz (.bool (leftB l i)))
def sp_reduced : DSp := fun es Ψ _ => ∃ l : List Scr, es = [.fz (scs l)] ∧ ScrsOk l ∧ Ψ (.ow (reds l))
/-! ### the laws' own -/
def sp__law_decides : DSp := fun es Ψ _ => ∃ (s : Scr) (b : Str) (n : Nat), es = [.fz s.d, .fz (.str b), .fz (.int (n : Nat))] ∧ ScrOk s ∧ b.length ≤ 2000 ∧ Ψ (.fz (.bool (dec b n s)))
def sp__law_is_left : DSp := fun es Ψ _ => ∃ (l : List Scr) (i : Nat), es = [.fz (scs l), .fz (.int (i : Nat))] ∧ l.length ≤ 20 ∧ (∀ s ∈ l, ScrOk s) ∧ i < l.length ∧ Ψ (.fz (.bool (leftB l i)))
def sp__law_doubled : DSp := fun es Ψ _ => ∃ (l : List Scr) (ws : List Str), es = [.dk, .fz (scs l), .fz (bk ws)] ∧ BookOk ws ∧ (∀ w ∈ ws, w.length ≤ 100) ∧ l.length ≤ 20 ∧ (∀ s ∈ l, Made ws s) ∧ ∀ l' : List Scr, l'.length ≤ 20 → (l = [] → l' = []) → (∀ s ∈ l', Made ws s) → Ψ (.ow (l'.map Scr.d))
/-- all rows of some of these words -/
def AllRows (ws : List Str) (rs : List (List Str)) : Prop := rs.length ≤ 5000 ∧ (∀ r ∈ rs, r.Nodup ∧ ∀ w ∈ r, w ∈ ws) ∧ ∀ r : List Str, r.Nodup → (∀ w ∈ r, w ∈ ws) → r ∈ rs
def sp__law_all_rows : DSp := fun es Ψ _ => ∃ ws : List Str, es = [.fz (bk ws)] ∧ BookOk ws ∧ ws.length ≤ 5 ∧ ∀ rs : List (List Str), AllRows ws rs → Ψ (.fz (.list (rs.map bk)))
end TM
set_option pp.deepTerms.threshold 6
namespace TM
open L2 PySem.Spec PySem PyProof.Rows
/-! ### a screen that nothing else decides: a row shows the others and not it -/
theorem split_nth {α : Type} (p : α → Bool) : ∀ (ws : List α) (n : Nat), n < (ws.filter p).length → ∃ A w B, ws = A ++ w :: B ∧ p w = true ∧ (A.filter p).length = n
  | [], n, h => by cases h
  | a :: ws, n, h => by
    cases q : p a with
    | false =>
      rw [List.filter_cons_of_neg (by rw [q]; decide)] at h
      obtain ⟨A, w, B, e, hw, hn⟩ := split_nth p ws n h
      exact ⟨a :: A, w, B, by rw [e]; rfl, hw, by rw [List.filter_cons_of_neg (by rw [q]; decide)]; exact hn⟩
    | true =>
      cases n with
      | zero => exact ⟨[], a, ws, rfl, q, rfl⟩
      | succ m =>
        rw [List.filter_cons_of_pos q, List.length_cons] at h
        obtain ⟨A, w, B, e, hw, hn⟩ := split_nth p ws m (by omega)
        exact ⟨a :: A, w, B, by rw [e]; rfl, hw, by rw [List.filter_cons_of_pos q, List.length_cons, hn]⟩
theorem sw_pos {w b : Str} {ws : List Str} (h : Txt.startswith w b = true) : (w :: ws).filter (fun w => Txt.startswith w b) = w :: ws.filter fun w => Txt.startswith w b := List.filter_cons_of_pos h
theorem sw_neg {w b : Str} {ws : List Str} (h : Txt.startswith w b = false) : (w :: ws).filter (fun w => Txt.startswith w b) = ws.filter fun w => Txt.startswith w b := List.filter_cons_of_neg (by rw [h]; decide)
theorem ins_same {A B : List Str} {x : Str} {t : Scr} (h : shows (A ++ B) t = true) (ok : Txt.startswith x t.b = false ∨ t.n ≤ (A.filter fun w => Txt.startswith w t.b).length) : shows (A ++ x :: B) t = true := by
  unfold shows at h ⊢
  rw [beq_iff_eq] at h ⊢
  rw [← h]
  unfold ans
  rw [List.filter_append, List.filter_append]
  rcases ok with ok | ok
  · rw [sw_neg ok]
  · rw [List.take_append_of_le_length ok, List.take_append_of_le_length ok]
/-- the new word of a screen -/
theorem zz_cps : ("zzzz" : Str).cps.toList = [122, 122, 122, 122] := rfl
theorem no_z {w : Str} (h : inL "ab" w) : (122 : Nat) ∉ w.cps.toList := fun z => by
  have := h _ z
  revert this
  decide
theorem zz_sw {b p : Str} (hp : inL "ab" p) : Txt.startswith (b ++ "zzzz") p = true → Txt.startswith b p = true := fun h => by
  rw [sw_cps, app_cps] at h
  rw [sw_cps]
  by_cases l : p.cps.toList.length ≤ b.cps.toList.length
  · exact List.prefix_of_prefix_length_le h (List.prefix_append _ _) l
  · obtain ⟨c, e⟩ := List.prefix_of_prefix_length_le (List.prefix_append b.cps.toList ("zzzz" : Str).cps.toList) h (by omega)
    rw [← e, List.prefix_append_right_inj, zz_cps] at h
    cases c with
    | nil =>
      rw [List.append_nil] at e
      rw [e] at l
      omega
    | cons a c =>
      obtain ⟨r, er⟩ := h
      rw [List.cons_append] at er
      have : a = 122 := (List.cons.inj er).1
      subst this
      exact absurd (by rw [← e]; exact List.mem_append_right _ (List.mem_cons_self ..)) (no_z hp)
theorem zz_self (b : Str) : Txt.startswith (b ++ "zzzz") b = true := by
  rw [sw_cps, app_cps]
  exact List.prefix_append _ _
theorem zz_new {b : Str} {ws : List Str} (h : ∀ w ∈ ws, inL "ab" w) : b ++ "zzzz" ∉ ws := fun m => no_z (h _ m) (by
  rw [app_cps, zz_cps]
  exact List.mem_append_right _ (List.mem_cons_self ..))
theorem row_apart {ws : List Str} {l : List Scr} {s : Scr} (hb : BookOk ws) (hw : ∀ w ∈ ws, inL "ab" w) (hs : Made ws s) (hl : ∀ t ∈ l, Made ws t ∧ inL "ab" t.b) (no : ∀ t ∈ l, dec s.b s.n t = false) :
    ∃ r : List Str, r.Nodup ∧ (∀ w ∈ r, w ∈ ws ++ [s.b ++ "zzzz"]) ∧ (l.all (shows r)) = true ∧ shows r s = false := by
  have new := zz_new (b := s.b) hw
  have self := zz_self s.b
  generalize ex : s.b ++ "zzzz" = x at new self
  have swx : ∀ p : Str, inL "ab" p → Txt.startswith x p = true → Txt.startswith s.b p = true := fun p hp h => zz_sw hp (by rw [ex]; exact h)
  have es := hs.eq
  unfold shows at es
  rw [beq_iff_eq] at es
  have few := hs.ok.few
  have n1 := hs.ok.n1
  -- it is enough to part the dictionary
  have go : ∀ A B : List Str, ws = A ++ B → (∀ t ∈ l, Txt.startswith s.b t.b = true → t.n ≤ (A.filter fun w => Txt.startswith w t.b).length) → shows (A ++ x :: B) s = false → ∃ r : List Str, r.Nodup ∧ (∀ w ∈ r, w ∈ ws ++ [x]) ∧ (l.all (shows r)) = true ∧ shows r s = false := by
    intro A B e h1 h2
    have pm : (A ++ x :: B).Perm (x :: ws) := by
      rw [e]
      exact List.perm_middle
    refine ⟨A ++ x :: B, pm.symm.nodup (List.nodup_cons.mpr ⟨new, hb.nd⟩), fun w m => ?_, ?_, h2⟩
    · rcases List.mem_cons.mp (pm.mem_iff.mp m) with rfl | z
      · exact List.mem_append_right _ (List.mem_singleton.mpr rfl)
      · exact List.mem_append_left _ z
    · rw [List.all_eq_true]
      intro t mt
      obtain ⟨ht, tb⟩ := hl t mt
      refine ins_same (by rw [← e]; exact ht.eq) ?_
      cases q : Txt.startswith x t.b with
      | false => exact .inl rfl
      | true => exact .inr (h1 t mt (swx _ tb q))
  have full : ∀ t ∈ l, Txt.startswith s.b t.b = true → t.sh.length = t.n ∧ (t.sh.filter fun w => Txt.startswith w s.b).length < s.n ∧ ans ws t.b t.n = t.sh := by
    intro t mt q
    have z := no t mt
    unfold dec at z
    rw [q, Bool.true_and, Bool.or_eq_false_iff] at z
    obtain ⟨z1, z2⟩ := z
    unfold short at z1
    rw [decide_eq_false_iff_not] at z1 z2
    have tf := (hl t mt).1.ok.few
    have te := (hl t mt).1.eq
    unfold shows at te
    rw [beq_iff_eq] at te
    exact ⟨by omega, by omega, te⟩
  by_cases sho : s.sh.length < s.n
  · -- the new word at the end
    refine go ws [] (List.append_nil _).symm (fun t mt q => ?_) ?_
    · obtain ⟨a, _, c⟩ := full t mt q
      rw [← a, ← c]
      unfold ans
      rw [List.length_take]
      omega
    · unfold shows
      rw [beq_eq_false_iff_ne]
      intro z
      have len : (ans (ws ++ [x]) s.b s.n).length = s.sh.length := by rw [z]
      have le2 : (ans ws s.b s.n).length = s.sh.length := by rw [es]
      unfold ans at len le2
      rw [List.filter_append, sw_pos self, List.length_take, List.length_append] at len
      rw [List.length_take] at le2
      simp only [List.filter_nil, List.length_singleton] at len
      omega
  · -- ahead of the last word shown
    have sl : s.sh.length = s.n := by omega
    have cnt : s.n ≤ (ws.filter fun w => Txt.startswith w s.b).length := by
      rw [← sl, ← es]
      unfold ans
      rw [List.length_take]
      omega
    obtain ⟨A, w, B, e, pw, hn⟩ := split_nth (fun w => Txt.startswith w s.b) ws (s.n - 1) (by omega)
    refine go A (w :: B) e (fun t mt q => ?_) ?_
    · obtain ⟨a, b, c⟩ := full t mt q
      refine Nat.le_of_not_lt fun lt => ?_
      have wt : Txt.startswith w t.b = true := sw_tr pw q
      have ft : ws.filter (fun w => Txt.startswith w t.b) = (A.filter fun w => Txt.startswith w t.b) ++ w :: (B.filter fun w => Txt.startswith w t.b) := by
        rw [e, List.filter_append, sw_pos wt]
      have pre : ((A.filter fun w => Txt.startswith w t.b) ++ [w]) <+: t.sh := by
        rw [← c]
        unfold ans
        rw [ft, List.prefix_take_iff]
        exact ⟨⟨B.filter fun w => Txt.startswith w t.b, by rw [List.append_assoc]; rfl⟩, by rw [List.length_append, List.length_singleton]; omega⟩
      have sub := (pre.filter fun w => Txt.startswith w s.b).length_le
      rw [List.filter_append, sw_pos pw, List.length_append, List.filter_filter] at sub
      have same : (A.filter fun u => Txt.startswith u s.b && Txt.startswith u t.b) = A.filter fun u => Txt.startswith u s.b := List.filter_congr fun u _ => by
        cases g : Txt.startswith u s.b with
        | false => rfl
        | true => rw [sw_tr g q]; rfl
      rw [same, hn] at sub
      simp only [List.filter_nil, List.length_singleton] at sub
      omega
    · unfold shows
      rw [beq_eq_false_iff_ne]
      intro z
      have mx : x ∈ s.sh := by
        rw [← z]
        unfold ans
        rw [List.filter_append, sw_pos self]
        have : s.n = (A.filter fun w => Txt.startswith w s.b).length + 1 := by omega
        rw [this, List.take_append, List.take_of_length_le (Nat.le_succ _), Nat.add_sub_cancel_left]
        exact List.mem_append_right _ (by rw [List.take_succ_cons]; exact List.mem_cons_self ..)
      rw [← es] at mx
      exact new (ans_mem mx).1
/-- the law's way: all rows -/
theorem implied_rows {ws : List Str} {l : List Scr} {s : Scr} {rs : List (List Str)} (hb : BookOk ws) (hw : ∀ w ∈ ws, inL "ab" w) (hs : Made ws s) (hl : ∀ t ∈ l, Made ws t ∧ inL "ab" t.b) (ha : AllRows (ws ++ [s.b ++ "zzzz"]) rs) :
    ((rs.filter fun r => l.all (shows r)).filter fun r => !(shows r s)).isEmpty = (decider l s.b s.n).isSome := by
  cases q : decider l s.b s.n with
  | none =>
    unfold decider at q
    rw [List.findIdx?_eq_none_iff] at q
    obtain ⟨r, nd, sub, h1, h2⟩ := row_apart hb hw hs hl q
    have m : r ∈ (rs.filter fun r => l.all (shows r)).filter fun r => !(shows r s) := by
      rw [List.mem_filter, List.mem_filter]
      exact ⟨⟨ha.2.2 r nd sub, h1⟩, by rw [h2]; rfl⟩
    cases z : (rs.filter fun r => l.all (shows r)).filter fun r => !(shows r s) with
    | nil =>
      rw [z] at m
      cases m
    | cons _ _ => rfl
  | some i =>
    obtain ⟨t, e1, e2, e3⟩ := sure_at q
    have mt := List.mem_of_getElem? e1
    rw [show (some i).isSome = true from rfl, List.isEmpty_iff, List.filter_eq_nil_iff]
    intro r mr
    rw [List.mem_filter, List.all_eq_true] at mr
    have a := dec_ansE (mr.2 t mt) e3
    have b := dec_ansE (hl t mt).1.eq e3
    have es := hs.eq
    unfold shows at es ⊢
    rw [beq_iff_eq] at es
    rw [← a, b, es, beq_self_eq_true]
    decide
end TM
set_option pp.deepTerms.threshold 6
namespace TM
open L2 PySem.Spec PySem PyProof.Rows
/-! ### places of words -/
def fixP (l : List Scr) (b w : Str) : Option Nat := (l.find? fun s => Txt.startswith b s.b && decide (w ∈ s.sh)).map fun s => ((befo s.sh w).filter fun t => Txt.startswith t b).length
def leastP (l : List Scr) (b w : Str) : Nat := ((abv l w).filter fun t => Txt.startswith t b).length
def greatP (l : List Scr) (ys : List Str) (b w : Str) : Nat := ((ys.filter fun t => Txt.startswith t b).filter fun t => !(bef l w t)).length
def frontsO (w : Str) : List Str := (List.range (w.length + 1)).map fun k => cutS w none (some ((k : Nat) : Int))
def belowN (o : Option Nat) (n : Nat) : Bool := match o with
  | some p => decide (p < n)
  | none => false
def sureB (l : List Scr) (w : Str) (n : Nat) : Option Str := (frontsO w).find? fun b => belowN (fixP l b w) n
def possB (l : List Scr) (w : Str) (n : Nat) : Option Str := (frontsO w).find? fun b => decide (leastP l b w < n)
def WishOk (l : List Scr) (w : Str) (n : Nat) : Prop := l.length ≤ 20 ∧ (∀ s ∈ l, ScrOk s) ∧ ¬ Torn l ∧ inK l w ∧ 1 ≤ n ∧ n ≤ 20
def sp_fixed_place : DSp := fun es Ψ _ => ∃ (l : List Scr) (b w : Str), es = [.fz (scs l), .fz (.str b), .fz (.str w)] ∧ l.length ≤ 20 ∧ (∀ s ∈ l, ScrOk s) ∧ b.length ≤ 2000 ∧ lets w ∧ Txt.startswith w b = true ∧ Ψ (.fz (natD (fixP l b w)))
def sp_least_place : DSp := fun es Ψ _ => ∃ (l : List Scr) (ys : List Str) (b w : Str), es = [.fz (.dict (kvS (tab l ys))), .fz (.str b), .fz (.str w)] ∧ l.length ≤ 20 ∧ (∀ s ∈ l, ScrOk s) ∧ KnOf l ys ∧ w ∈ ys ∧ Ψ (.fz (.int (leastP l b w : Nat)))
def sp_greatest_place : DSp := fun es Ψ _ => ∃ (l : List Scr) (ys : List Str) (b w : Str), es = [.fz (.dict (kvS (tab l ys))), .fz (.str b), .fz (.str w)] ∧ l.length ≤ 20 ∧ (∀ s ∈ l, ScrOk s) ∧ KnOf l ys ∧ w ∈ ys ∧ Ψ (.fz (.int ((greatP l ys b w : Nat) - 1)))
def sp_require_wish : DSp := fun es Ψ _ => ∃ (l : List Scr) (w : Str) (n : Nat), es = [.fz (scs l), .fz (.str w), .fz (.int (n : Nat))] ∧ WishOk l w n ∧ Ψ (.fz .none)
def sp_beginnings_of : DSp := fun es Ψ _ => ∃ w : Str, es = [.fz (.str w)] ∧ w.length ≤ 1000 ∧ Ψ (.ow ((frontsO w).map .str))
def sp_sure_beginning : DSp := fun es Ψ _ => ∃ (l : List Scr) (w : Str) (n : Nat), es = [.fz (scs l), .fz (.str w), .fz (.int (n : Nat))] ∧ WishOk l w n ∧ Ψ (.fz (parD (sureB l w n)))
def sp_possible_beginning : DSp := fun es Ψ _ => ∃ (l : List Scr) (w : Str) (n : Nat), es = [.fz (scs l), .fz (.str w), .fz (.int (n : Nat))] ∧ WishOk l w n ∧ Ψ (.fz (parD (possB l w n)))
/-! ### the laws' own -/
def sj__law_known : DSp := fun es Ψ _ => ∃ l : List Scr, es = [.fz (scs l)] ∧ l.length ≤ 20 ∧ (∀ s ∈ l, ScrOk s) ∧ ∀ ys : List Str, KnOf l ys → Ψ (.ow (ys.map .str))
def sj__law_puts : DSp := fun es Ψ _ => ∃ (s : Scr) (w m : Str), es = [.fz s.d, .fz (.str w), .fz (.str m)] ∧ ScrOk s ∧ asc w ∧ asc m ∧ m.length ≤ 2000 ∧ Ψ (.fz (.bool (puts s w m)))
def sj__law_before : DSp := fun es Ψ _ => ∃ (l : List Scr) (w m : Str), es = [.fz (scs l), .fz (.str w), .fz (.str m)] ∧ l.length ≤ 20 ∧ (∀ s ∈ l, ScrOk s) ∧ asc w ∧ asc m ∧ m.length ≤ 2000 ∧ Ψ (.fz (.bool (bef l w m)))
def isSure (l : List Scr) (b w : Str) (n : Nat) : Bool := l.any fun s => (Txt.startswith b s.b && decide (w ∈ s.sh)) && decide (((befo s.sh w).filter fun t => Txt.startswith t b).length < n)
def sp__law_is_sure : DSp := fun es Ψ _ => ∃ (l : List Scr) (b w : Str) (n : Nat), es = [.fz (scs l), .fz (.str b), .fz (.str w), .fz (.int (n : Nat))] ∧ l.length ≤ 20 ∧ (∀ s ∈ l, ScrOk s) ∧ b.length ≤ 2000 ∧ lets w ∧ Ψ (.fz (.bool (isSure l b w n)))
/-! ### in screens of one dictionary -/
theorem befo_pre : ∀ {sh F : List Str} {w : Str}, sh <+: F → w ∈ sh → befo sh w = befo F w
  | [], _, _, _, h => nomatch h
  | a :: sh, F, w, p, h => by
    obtain ⟨r, rfl⟩ := p
    unfold befo
    rw [List.cons_append, List.takeWhile_cons, List.takeWhile_cons]
    by_cases e : a = w
    · rw [if_neg (by simpa using e), if_neg (by simpa using e)]
    · rw [if_pos (by simpa using e), if_pos (by simpa using e)]
      rcases List.mem_cons.mp h with z | z
      · exact absurd z.symm e
      · have := befo_pre (sh := sh) (F := sh ++ r) ⟨r, rfl⟩ z
        unfold befo at this
        rw [this]
theorem befo_filt {p : Str → Bool} {w : Str} (hw : p w = true) : ∀ (F : List Str), befo (F.filter p) w = (befo F w).filter p
  | [] => rfl
  | a :: F => by
    have ih := befo_filt hw F
    unfold befo at ih ⊢
    by_cases e : a = w
    · subst e
      rw [List.filter_cons_of_pos hw, List.takeWhile_cons, List.takeWhile_cons, if_neg (by simp), if_neg (by simp)]
      rfl
    · cases q : p a with
      | true =>
        rw [List.filter_cons_of_pos q, List.takeWhile_cons, List.takeWhile_cons, if_pos (by simpa using e), if_pos (by simpa using e), List.filter_cons_of_pos q, ih]
      | false =>
        rw [List.filter_cons_of_neg (by rw [q]; decide), List.takeWhile_cons, if_pos (by simpa using e), List.filter_cons_of_neg (by rw [q]; decide), ih]
theorem made_befo {ws : List Str} {s : Scr} (h : Made ws s) {w : Str} (hw : w ∈ s.sh) : befo s.sh w = (befo ws w).filter fun t => Txt.startswith t s.b := by
  have e := h.eq
  unfold shows at e
  rw [beq_iff_eq] at e
  have p : s.sh <+: ws.filter fun t => Txt.startswith t s.b := by
    rw [← e]
    exact List.take_prefix _ _
  rw [befo_pre p hw]
  exact befo_filt (p := fun t => Txt.startswith t s.b) (h.ok.sw w hw) ws
theorem made_place {ws : List Str} {s : Scr} (h : Made ws s) {b w : Str} (hw : w ∈ s.sh) (hb : Txt.startswith b s.b = true) : (befo s.sh w).filter (fun t => Txt.startswith t b) = (befo ws w).filter fun t => Txt.startswith t b := by
  rw [made_befo h hw, List.filter_filter]
  refine List.filter_congr fun t _ => ?_
  cases q : Txt.startswith t b with
  | false => rfl
  | true => rw [sw_tr q hb]; rfl
theorem sure_fix {ws : List Str} {l : List Scr} (h : ∀ s ∈ l, Made ws s) (b w : Str) (n : Nat) : isSure l b w n = belowN (fixP l b w) n := by
  unfold isSure fixP
  cases q : l.find? fun s => Txt.startswith b s.b && decide (w ∈ s.sh) with
  | none =>
    rw [List.find?_eq_none] at q
    rw [show (Option.map (fun s : Scr => ((befo s.sh w).filter fun t => Txt.startswith t b).length) none) = none from rfl]
    unfold belowN
    rw [List.any_eq_false]
    intro s m
    have := q s m
    rw [Bool.not_eq_true] at this
    rw [this, Bool.false_and]
    decide
  | some s =>
    have ms := List.mem_of_find?_eq_some q
    have ps := List.find?_some q
    rw [Bool.and_eq_true, decide_eq_true_eq] at ps
    rw [Option.map_some]
    unfold belowN
    dsimp only
    rw [made_place (h s ms) ps.2 ps.1, Bool.eq_iff_iff, List.any_eq_true, decide_eq_true_eq]
    constructor
    · rintro ⟨t, mt, z⟩
      rw [Bool.and_eq_true, Bool.and_eq_true, decide_eq_true_eq, decide_eq_true_eq, made_place (h t mt) z.1.2 z.1.1] at z
      exact z.2
    · intro z
      refine ⟨s, ms, ?_⟩
      rw [Bool.and_eq_true, Bool.and_eq_true, decide_eq_true_eq, decide_eq_true_eq, made_place (h s ms) ps.2 ps.1]
      exact ⟨ps, z⟩
theorem least_known {l : List Scr} {ys : List Str} (K : KnOf l ys) (b w : Str) : ((ys.filter fun t => bef l t w).filter fun t => Txt.startswith t b).length = leastP l b w := by
  unfold leastP
  refine List.Perm.length_eq (List.Perm.filter _ ?_)
  refine (List.perm_ext_iff_of_nodup (List.Nodup.sublist List.filter_sublist K.nd) (abv_nd l w)).mpr fun t => ?_
  rw [List.mem_filter, abv_mem]
  constructor
  · exact fun z => z.2
  · intro z
    exact ⟨(K.mem t).mpr (abv_known (abv_mem.mpr z)), z⟩
end TM
set_option pp.deepTerms.threshold 6
namespace TM
open L2 PySem.Spec PySem PyProof.Rows
/-! ### all orders of some words, with and without new words -/
def fctW : Nat → Nat
  | 0 => 1
  | n + 1 => (n + 1) * fctW n
/-- n: how deep the def may call itself -/
def sp__law_orders (n : Nat) : DSp := fun es Ψ _ => ∃ T : List Str, es = [.fz (bk T)] ∧ T.length < n ∧ T.length ≤ 6 ∧ (∀ w ∈ T, lets w) ∧ ∀ rows : List (List Str), rows.length ≤ fctW T.length → (∀ r, r ∈ rows ↔ r.Perm T) → Ψ (.ow (rows.map fun r => bk r))
theorem z__law_orders : ∀ es Ψ Φ, ¬ sp__law_orders 0 es Ψ Φ := fun _ _ _ ⟨_, _, h, _⟩ => absurd h (Nat.not_lt_zero _)
/-- row r with B put in somewhere -/
def WithB (T B r : List Str) : Prop := r.Perm T ∨ ∃ q A C : List Str, q.Perm T ∧ q = A ++ C ∧ r = A ++ B ++ C
def sp__law_with_block : DSp := fun es Ψ _ => ∃ T B : List Str, es = [.fz (bk T), .fz (bk B)] ∧ T.length ≤ 5 ∧ (∀ w ∈ T, lets w) ∧ B.length ≤ 20 ∧ ∀ rows : List (List Str), rows.length ≤ 10000 → (∀ r, r ∈ rows ↔ WithB T B r) → Ψ (.ow (rows.map fun r => bk r))
def sp__law_with_new : DSp := fun es Ψ _ => ∃ (T : List Str) (x : Str), es = [.fz (bk T), .fz (.str x)] ∧ T.length ≤ 5 ∧ (∀ w ∈ T, lets w) ∧ ∀ rows : List (List Str), rows.length ≤ 10000 → (∀ r, r ∈ rows ↔ WithB T [x] r) → Ψ (.ow (rows.map fun r => bk r))
/-! ### places in rows -/
theorem place_shown {r : List Str} {s : Scr} (e : shows r s = true) (ok : ScrOk s) {b w : Str} (hw : w ∈ s.sh) (hb : Txt.startswith b s.b = true) : (befo s.sh w).filter (fun t => Txt.startswith t b) = (befo r w).filter fun t => Txt.startswith t b := by
  unfold shows at e
  rw [beq_iff_eq] at e
  have p : s.sh <+: r.filter fun t => Txt.startswith t s.b := by
    rw [← e]
    exact List.take_prefix _ _
  rw [befo_pre p hw, befo_filt (p := fun t => Txt.startswith t s.b) (ok.sw w hw) r, List.filter_filter]
  refine List.filter_congr fun t _ => ?_
  cases q : Txt.startswith t b with
  | false => rfl
  | true => rw [sw_tr q hb]; rfl
theorem befo_split : ∀ {l : List Str} {w : Str}, w ∈ l → ∃ C, l = befo l w ++ w :: C
  | [], _, h => nomatch h
  | a :: l, w, h => by
    unfold befo
    rw [List.takeWhile_cons]
    by_cases e : a = w
    · subst e
      rw [if_neg (by simp)]
      exact ⟨l, rfl⟩
    · rw [if_pos (by simpa using e)]
      rcases List.mem_cons.mp h with z | z
      · exact absurd z.symm e
      · obtain ⟨C, hC⟩ := befo_split z
        unfold befo at hC
        exact ⟨C, by rw [List.cons_append]; exact congrArg (a :: ·) hC⟩
theorem mem_first {l : List Str} {w : Str} (h : w ∈ l) (n : Nat) : w ∈ l.take n ↔ (befo l w).length < n := by
  obtain ⟨C, e⟩ := befo_split h
  have no : w ∉ befo l w := befo_self
  generalize befo l w = A at e no ⊢
  subst e
  constructor
  · intro m
    refine Nat.lt_of_not_le fun le => ?_
    rw [List.take_append_of_le_length le] at m
    exact no (List.mem_of_mem_take m)
  · intro lt
    rw [List.take_append, List.mem_append]
    refine .inr ?_
    obtain ⟨k, hk⟩ := Nat.exists_eq_add_of_lt lt
    rw [show n - A.length = k + 1 by omega, List.take_succ_cons]
    exact List.mem_cons_self ..
theorem mem_ans {r : List Str} {b w : Str} (h : w ∈ r) (hb : Txt.startswith w b = true) (n : Nat) : w ∈ ans r b n ↔ ((befo r w).filter fun t => Txt.startswith t b).length < n := by
  unfold ans
  rw [mem_first (List.mem_filter.mpr ⟨h, hb⟩), befo_filt (p := fun t => Txt.startswith t b) hb]
/-- words put in that no full screen needs -/
theorem ins_many {A B C : List Str} {t : Scr} (h : shows (A ++ C) t = true) (ok : (∀ x ∈ B, Txt.startswith x t.b = false) ∨ t.n ≤ (A.filter fun w => Txt.startswith w t.b).length) : shows (A ++ B ++ C) t = true := by
  unfold shows at h ⊢
  rw [beq_iff_eq] at h ⊢
  rw [← h]
  unfold ans
  rw [List.filter_append, List.filter_append, List.filter_append]
  rcases ok with ok | ok
  · rw [show (B.filter fun w => Txt.startswith w t.b) = [] from List.filter_eq_nil_iff.mpr fun x m => by rw [ok x m]; decide, List.append_nil]
  · rw [List.append_assoc, List.take_append_of_le_length ok, List.take_append_of_le_length ok]
/-- a new word for b -/
structure NewW (b x : Str) : Prop where
  z : ∃ c : List Nat, x.cps.toList = b.cps.toList ++ 122 :: c ∧ ∀ a ∈ c, a = 122
theorem NewW.sw {b x : Str} (h : NewW b x) : Txt.startswith x b = true := by
  obtain ⟨c, e, _⟩ := h.z
  rw [sw_cps, e]
  exact List.prefix_append _ _
theorem NewW.back {b x p : Str} (h : NewW b x) (hp : inL "ab" p) (hx : Txt.startswith x p = true) : Txt.startswith b p = true := by
  obtain ⟨c, e, _⟩ := h.z
  rw [sw_cps, e] at hx
  rw [sw_cps]
  by_cases l : p.cps.toList.length ≤ b.cps.toList.length
  · exact List.prefix_of_prefix_length_le hx (List.prefix_append _ _) l
  · obtain ⟨d, ed⟩ := List.prefix_of_prefix_length_le (List.prefix_append b.cps.toList (122 :: c)) hx (by omega)
    rw [← ed, List.prefix_append_right_inj] at hx
    cases d with
    | nil =>
      rw [List.append_nil] at ed
      rw [ed] at l
      omega
    | cons a d =>
      obtain ⟨r, er⟩ := hx
      rw [List.cons_append] at er
      have : a = 122 := (List.cons.inj er).1
      subst this
      exact absurd (by rw [← ed]; exact List.mem_append_right _ (List.mem_cons_self ..)) (no_z hp)
theorem NewW.new {b x : Str} (h : NewW b x) {ws : List Str} (hw : ∀ w ∈ ws, inL "ab" w) : x ∉ ws := fun m => by
  obtain ⟨c, e, _⟩ := h.z
  exact no_z (hw _ m) (by rw [e]; exact List.mem_append_right _ (List.mem_cons_self ..))
theorem nodup_le : ∀ {r ws : List Str}, r.Nodup → (∀ w ∈ r, w ∈ ws) → r.length ≤ ws.length
  | [], _, _, _ => Nat.zero_le _
  | a :: r, ws, nd, sub => by
    rw [List.nodup_cons] at nd
    have ma := sub a (List.mem_cons_self ..)
    have := nodup_le (r := r) (ws := ws.erase a) nd.2 fun w hw => (List.mem_erase_of_ne fun z => nd.1 (by rw [← z]; exact hw)).mpr (sub w (List.mem_cons_of_mem _ hw))
    rw [List.length_erase_of_mem ma] at this
    have pos := List.length_pos_of_mem ma
    rw [List.length_cons]
    omega
section
variable {l : List Scr}
/-- an order in which only the words above w are ahead of it -/
theorem early_row (hs : ∀ s ∈ l, ScrOk s) (nt : ¬ Torn l) {ys : List Str} (K : KnOf l ys) {w : Str} (hw : w ∈ ys) : ∃ o : List Str, o.Perm ys ∧ (∀ s ∈ l, shows o s = true) ∧ (befo o w).Perm (abv l w) := by
  obtain ⟨o1, p1, k1⟩ := exists_ord hs nt _ (abv l w) rfl fun x m => abv_known m
  obtain ⟨o2, p2, k2⟩ := exists_ord hs nt _ (ys.filter fun x => x != w && !(decide (x ∈ abv l w))) rfl fun x m => (K.mem x).mp (List.mem_filter.mp m).1
  have i1 : ∀ x, x ∈ o1 ↔ bef l x w = true := fun x => by rw [p1.mem_iff, abv_mem]
  have i2 : ∀ x, x ∈ o2 ↔ x ∈ ys ∧ x ≠ w ∧ bef l x w = false := fun x => by
    rw [p2.mem_iff, List.mem_filter, Bool.and_eq_true, bne_iff_ne, Bool.not_eq_true', decide_eq_false_iff_not, abv_mem, Bool.not_eq_true]
  have w1 : w ∉ o1 := fun m => bef_ne ((i1 w).mp m) rfl
  have w2 : w ∉ o2 := fun m => ((i2 w).mp m).2.1 rfl
  have n1 : o1.Nodup := p1.symm.nodup (abv_nd l w)
  have n2 : o2.Nodup := p2.symm.nodup (K.nd.sublist List.filter_sublist)
  have nd : (o1 ++ w :: o2).Nodup := by
    rw [List.nodup_append, List.nodup_cons]
    refine ⟨n1, ⟨w2, n2⟩, fun a ha b hb e => ?_⟩
    subst e
    rcases List.mem_cons.mp hb with rfl | hb
    · exact w1 ha
    · have := (i1 a).mp ha
      rw [((i2 a).mp hb).2.2] at this
      cases this
  have mem : ∀ x, x ∈ o1 ++ w :: o2 ↔ x ∈ ys := fun x => by
    rw [List.mem_append, List.mem_cons, i1, i2]
    constructor
    · rintro (h | rfl | h)
      · exact (K.mem x).mpr (abv_known (abv_mem.mpr h))
      · exact hw
      · exact h.1
    · intro h
      by_cases e : x = w
      · exact .inr (.inl e)
      · cases q : bef l x w with
        | true => exact .inl rfl
        | false => exact .inr (.inr ⟨h, e, rfl⟩)
  have kp : Keeps l (o1 ++ w :: o2) := by
    unfold Keeps
    rw [List.pairwise_append, List.pairwise_cons]
    refine ⟨k1, ⟨fun b hb => ((i2 b).mp hb).2.2, k2⟩, fun a ha b hb => ?_⟩
    have ba := (i1 a).mp ha
    cases q : bef l b a with
    | false => rfl
    | true =>
      rcases List.mem_cons.mp hb with rfl | hb
      · exact (bef_asym hs nt ba q).elim
      · have := bef_tr hs nt q ba
        rw [((i2 b).mp hb).2.2] at this
        cases this
  refine ⟨_, (List.perm_ext_iff_of_nodup nd K.nd).mpr mem, fun s ms => ord_shows hs nt nd (fun x => by rw [mem x]; exact K.mem x) kp ms, ?_⟩
  have : befo (o1 ++ w :: o2) w = o1 := by
    unfold befo
    rw [List.takeWhile_append_of_pos fun x m => by
      rw [bne_iff_ne]
      exact fun z => w1 (z ▸ m), List.takeWhile_cons, if_neg (by simp), List.append_nil]
  rw [this]
  exact p1
/-- the words above a word stand ahead of it in each row that shows all -/
theorem least_le (hs : ∀ s ∈ l, ScrOk s) {r : List Str} (sh : ∀ s ∈ l, shows r s = true) (hk : ∀ x, inK l x → x ∈ r) {w : Str} (hw : w ∈ r) (b : Str) : leastP l b w ≤ ((befo r w).filter fun t => Txt.startswith t b).length := by
  unfold leastP
  refine nodup_le ((abv_nd l w).sublist List.filter_sublist) fun t m => ?_
  obtain ⟨m1, m2⟩ := List.mem_filter.mp m
  obtain ⟨s, ms, ps⟩ := bef_iff.mp (abv_mem.mp m1)
  exact List.mem_filter.mpr ⟨row_puts (sh s ms) ps (hk t (abv_known m1)) hw, m2⟩
/-- a row with n new words ahead of w, if no screen fixes w -/
theorem late_row (hs : ∀ s ∈ l, ScrOk s) (nt : ¬ Torn l) (hp : ∀ s ∈ l, inL "ab" s.b) {ys : List Str} (K : KnOf l ys) {b w : Str} (hw : w ∈ ys) (hb : Txt.startswith w b = true) (no : fixP l b w = none) {B : List Str} (hB : ∀ x ∈ B, NewW b x) :
    ∃ A C : List Str, (A ++ C).Perm ys ∧ (∀ s ∈ l, shows (A ++ B ++ C) s = true) ∧ w ∉ A ∧ w ∈ C := by
  obtain ⟨o, p, sh, _⟩ := early_row hs nt K hw
  have wo : w ∈ o := p.mem_iff.mpr hw
  obtain ⟨C, e⟩ := befo_split wo
  have nA : w ∉ befo o w := befo_self
  generalize befo o w = A at e nA
  refine ⟨A, w :: C, by rw [← e]; exact p, fun t mt => ?_, nA, List.mem_cons_self ..⟩
  refine ins_many (by rw [← e]; exact sh t mt) ?_
  by_cases q : Txt.startswith b t.b = true
  · refine .inr (Nat.le_of_not_lt fun lt => ?_)
    have wt : Txt.startswith w t.b = true := sw_tr hb q
    have sw := sh t mt
    unfold shows at sw
    rw [beq_iff_eq] at sw
    have mw : w ∈ t.sh := by
      rw [← sw, e]
      unfold ans
      rw [List.filter_append, sw_pos wt]
      obtain ⟨k, hk⟩ := Nat.exists_eq_add_of_lt lt
      rw [List.take_append, show t.n - (A.filter fun w => Txt.startswith w t.b).length = k + 1 by omega, List.take_succ_cons]
      exact List.mem_append_right _ (List.mem_cons_self ..)
    unfold fixP at no
    rw [Option.map_eq_none_iff, List.find?_eq_none] at no
    have := no t mt
    rw [q, decide_eq_true mw] at this
    exact this rfl
  · refine .inl fun x mx => ?_
    cases z : Txt.startswith x t.b with
    | false => rfl
    | true => exact absurd ((hB x mx).back (hp t mt) z) q
theorem fix_some {b w : Str} {p : Nat} (h : fixP l b w = some p) : ∃ s ∈ l, Txt.startswith b s.b = true ∧ w ∈ s.sh ∧ p = ((befo s.sh w).filter fun t => Txt.startswith t b).length := by
  unfold fixP at h
  rw [Option.map_eq_some_iff] at h
  obtain ⟨s, e, rfl⟩ := h
  have := List.find?_some e
  rw [Bool.and_eq_true, decide_eq_true_eq] at this
  exact ⟨s, List.mem_of_find?_eq_some e, this.1, this.2, rfl⟩
/-- what the law of beginnings counts -/
theorem due_sure (hs : ∀ s ∈ l, ScrOk s) (nt : ¬ Torn l) (hp : ∀ s ∈ l, inL "ab" s.b) {ys : List Str} (K : KnOf l ys) {b w : Str} (hw : w ∈ ys) (hb : Txt.startswith w b = true) {n : Nat} {B : List Str} (hy : ∀ y ∈ ys, inL "ab" y) (hB : ∀ x ∈ B, NewW b x) (bn : B.length = n) {rs : List (List Str)} (hr : ∀ r, r ∈ rs ↔ WithB ys B r) :
    (∀ r ∈ rs, (∀ s ∈ l, shows r s = true) → w ∈ ans r b n) ↔ belowN (fixP l b w) n = true := by
  have mem : ∀ r ∈ rs, w ∈ r := fun r m => by
    rcases (hr r).mp m with p | ⟨q, A, C, p, e, e2⟩
    · exact p.mem_iff.mpr hw
    · have := p.mem_iff.mpr hw
      rw [e] at this
      rw [e2]
      rcases List.mem_append.mp this with z | z
      · exact List.mem_append_left _ (List.mem_append_left _ z)
      · exact List.mem_append_right _ z
  obtain ⟨o, po, so, _⟩ := early_row hs nt K hw
  have mo : o ∈ rs := (hr o).mpr (.inl po)
  cases q : fixP l b w with
  | none =>
    constructor
    · intro h
      obtain ⟨A, C, p, sh, nA, mC⟩ := late_row hs nt hp K hw hb q hB
      have mr : A ++ B ++ C ∈ rs := (hr _).mpr (.inr ⟨A ++ C, A, C, p, rfl, rfl⟩)
      have z := (mem_ans (mem _ mr) hb n).mp (h _ mr sh)
      have wB : w ∉ B := fun m => (hB w m).new hy hw
      have e : befo (A ++ B ++ C) w = A ++ B ++ befo C w := by
        unfold befo
        rw [List.takeWhile_append_of_pos fun x m => by
          rw [bne_iff_ne]
          rcases List.mem_append.mp m with m | m
          · exact fun z => nA (z ▸ m)
          · exact fun z => wB (z ▸ m)]
      have fB : B.filter (fun t => Txt.startswith t b) = B := List.filter_eq_self.mpr fun x m => (hB x m).sw
      rw [e, List.filter_append, List.filter_append, fB, List.length_append, List.length_append] at z
      omega
    · intro h
      cases h
  | some p =>
    obtain ⟨s, ms, hbs, hws, rfl⟩ := fix_some q
    have pl : ∀ r ∈ rs, (∀ s ∈ l, shows r s = true) → (w ∈ ans r b n ↔ ((befo s.sh w).filter fun t => Txt.startswith t b).length < n) := fun r m sh => by
      rw [mem_ans (mem r m) hb n, place_shown (sh s ms) (hs s ms) hws hbs]
    unfold belowN
    dsimp only
    rw [decide_eq_true_eq]
    constructor
    · intro h
      exact (pl o mo so).mp (h o mo so)
    · intro h r m sh
      exact (pl r m sh).mpr h
theorem due_poss (hs : ∀ s ∈ l, ScrOk s) (nt : ¬ Torn l) {ys : List Str} (K : KnOf l ys) {b w : Str} (hw : w ∈ ys) (hb : Txt.startswith w b = true) {n : Nat} {B : List Str} {rs : List (List Str)} (hr : ∀ r, r ∈ rs ↔ WithB ys B r) :
    (∃ r ∈ rs, (∀ s ∈ l, shows r s = true) ∧ w ∈ ans r b n) ↔ leastP l b w < n := by
  have mem : ∀ r ∈ rs, ∀ x ∈ ys, x ∈ r := fun r m x hx => by
    rcases (hr r).mp m with p | ⟨q, A, C, p, e, e2⟩
    · exact p.mem_iff.mpr hx
    · have := p.mem_iff.mpr hx
      rw [e] at this
      rw [e2]
      rcases List.mem_append.mp this with z | z
      · exact List.mem_append_left _ (List.mem_append_left _ z)
      · exact List.mem_append_right _ z
  constructor
  · rintro ⟨r, m, sh, h⟩
    have := (mem_ans (mem r m w hw) hb n).mp h
    have := least_le hs sh (fun x kx => mem r m x ((K.mem x).mpr kx)) (mem r m w hw) b
    omega
  · intro h
    obtain ⟨o, po, so, pb⟩ := early_row hs nt K hw
    have mo : o ∈ rs := (hr o).mpr (.inl po)
    refine ⟨o, mo, so, (mem_ans (mem o mo w hw) hb n).mpr ?_⟩
    rw [(pb.filter _).length_eq]
    exact h
end
def DueOk (l : List Scr) (ys : List Str) (w : Str) (n : Nat) : Prop := l.length ≤ 20 ∧ (∀ s ∈ l, ScrOk s) ∧ ¬ Torn l ∧ (∀ s ∈ l, inL "ab" s.b) ∧ KnOf l ys ∧ (∀ y ∈ ys, inL "ab" y ∧ y.length ≤ 100) ∧ ys.length ≤ 5 ∧ w ∈ ys ∧ 1 ≤ n ∧ n ≤ 20
def dueD (l : List Scr) (w : Str) (n : Nat) : List D := [parD (sureB l w n), parD (possB l w n)]
def sp__law_due : DSp := fun es Ψ _ => ∃ (l : List Scr) (ys : List Str) (w : Str) (n : Nat), es = [.fz (scs l), .fz (bk ys), .fz (.str w), .fz (.int (n : Nat))] ∧ DueOk l ys w n ∧ Ψ (.ow (dueD l w n))
def sp__law_right : DSp := fun es Ψ _ => ∃ (l : List Scr) (ys : List Str) (w : Str) (n : Nat), es = [.fz (scs l), .fz (bk ys), .fz (.str w), .fz (.int (n : Nat))] ∧ DueOk l ys w n ∧ Ψ (.fz (.bool true))
/-- the new words of the law -/
def blkW (b : Str) (n : Nat) : List Str := (List.range n).map fun k => b ++ "zzzz" ++ strRep "z" k
theorem rep_cps (c : Nat) : ∀ k : Nat, (strRep ⟨#[c]⟩ k).cps.toList = List.replicate k c
  | 0 => by
    rw [strRep_zero]
    rfl
  | k + 1 => by
    have := rep_cps c k
    unfold strRep at this ⊢
    rw [List.replicate_succ', List.foldl_append, List.replicate_succ', ← this]
    simp
theorem blk_new {b : Str} {n : Nat} : ∀ x ∈ blkW b n, NewW b x := fun x m => by
  unfold blkW at m
  obtain ⟨k, _, rfl⟩ := List.mem_map.mp m
  refine ⟨122 :: 122 :: 122 :: List.replicate k 122, ?_, fun a h => ?_⟩
  · rw [app_cps, app_cps, show ("z" : Str) = ⟨#[122]⟩ from rfl, rep_cps, zz_cps, List.append_assoc]
    rfl
  · simp only [List.mem_cons, List.mem_replicate] at h
    omega
theorem blk_len (b : Str) (n : Nat) : (blkW b n).length = n := by
  unfold blkW
  rw [List.length_map, List.length_range]
theorem blk_sz {b : Str} {n : Nat} : ∀ x ∈ blkW b n, x.length ≤ b.length + 4 + n := fun x m => by
  unfold blkW at m
  obtain ⟨k, hk, rfl⟩ := List.mem_map.mp m
  have := List.mem_range.mp hk
  rw [strLen_append, strLen_append]
  have e : (strRep "z" k).length = 1 * k := strRep_len "z" k
  have e2 : ("zzzz" : Str).length = 4 := rfl
  omega
theorem blk_nd (b : Str) (n : Nat) : (blkW b n).Nodup := by
  unfold blkW
  rw [List.nodup_iff_pairwise_ne, List.pairwise_map]
  refine List.Pairwise.imp_of_mem (fun {i j} _ _ h e => ?_) (List.nodup_iff_pairwise_ne.mp List.nodup_range)
  have := congrArg (fun s : Str => s.length) e
  rw [strLen_append, strLen_append, strLen_append, strLen_append] at this
  have e1 : (strRep "z" i).length = 1 * i := strRep_len "z" i
  have e2 : (strRep "z" j).length = 1 * j := strRep_len "z" j
  omega
theorem blk_lets {b : Str} (hb : lets b) {n : Nat} : ∀ x ∈ blkW b n, lets x := fun x m => by
  obtain ⟨c, e, hc⟩ := (blk_new x m).z
  intro a ha
  rw [e] at ha
  rcases List.mem_append.mp ha with z | z
  · exact hb a z
  · have : a = 122 := by
      rcases List.mem_cons.mp z with z | z
      · exact z
      · exact hc a z
    subst this
    decide
end TM
set_option pp.deepTerms.threshold 6
namespace TM
open L2 PySem.Spec PySem PyProof.Rows
/-! ### the range of places -/
def rangeOf (l : List Scr) (ys : List Str) (b w : Str) (k : Bool) : D := .tuple [.int (leastP l b w : Nat), if (k || (fixP l b w).isSome) = true then .int ((greatP l ys b w : Nat) - 1) else .none]
def RangeOk (l : List Scr) (ys : List Str) (b w : Str) : Prop := l.length ≤ 20 ∧ (∀ s ∈ l, ScrOk s) ∧ ¬ Torn l ∧ KnOf l ys ∧ w ∈ ys ∧ lets b ∧ b.length ≤ 2000 ∧ Txt.startswith w b = true
def sp_place_range : DSp := fun es Ψ _ => ∃ (l : List Scr) (ys : List Str) (b w : Str) (k : Bool), es = [.fz (scs l), .fz (.str b), .fz (.str w), .fz (.bool k)] ∧ RangeOk l ys b w ∧ Ψ (.fz (rangeOf l ys b w k))
def sj_matching : DSp := fun es Ψ Φ => sp_matching es Ψ Φ ∨ ∃ (l : List Scr) (ys : List Str) (b : Str), es = [.fz (.dict (kvS (tab l ys))), .fz (.str b)] ∧ ys.length ≤ 400 ∧ Ψ (.ow ((ys.filter fun w => Txt.startswith w b).map .str))
theorem befo_none : ∀ {sh : List Str} {m : Str}, m ∉ sh → befo sh m = sh
  | [], _, _ => rfl
  | a :: sh, m, h => by
    have ih := befo_none (sh := sh) (m := m) fun z => h (List.mem_cons_of_mem _ z)
    unfold befo at ih ⊢
    rw [List.takeWhile_cons, if_pos (by
      rw [bne_iff_ne]
      exact fun z => h (z ▸ List.mem_cons_self ..)), ih]
section
variable {l : List Scr} {ws ys : List Str}
theorem filter_swap {p q : Str → Bool} (xs : List Str) : (xs.filter p).filter q = (xs.filter q).filter p := by
  rw [List.filter_filter, List.filter_filter]
  exact List.filter_congr fun x _ => Bool.and_comm _ _
theorem fixed_in (h : ∀ s ∈ l, Made ws s) {b w : Str} (hb : Txt.startswith w b = true) {p : Nat} (e : fixP l b w = some p) : p = ((befo ws w).filter fun t => Txt.startswith t b).length ∧ (∀ t ∈ befo ws w, Txt.startswith t b = true → bef l t w = true) ∧ ∀ t ∈ ws, Txt.startswith t b = true → w ∈ befo ws t → bef l w t = true := by
  obtain ⟨s, ms, hbs, hws, rfl⟩ := fix_some e
  have pl := made_place (h s ms) hws hbs
  refine ⟨by rw [pl], fun t ht q => ?_, fun t ht q hw => ?_⟩
  · have m : t ∈ (befo s.sh w).filter fun t => Txt.startswith t b := by
      rw [pl]
      exact List.mem_filter.mpr ⟨ht, q⟩
    exact bef_iff.mpr ⟨s, ms, puts_iff.mpr ⟨(h s ms).ok.sw w hws, (List.mem_filter.mp m).1⟩⟩
  · refine bef_iff.mpr ⟨s, ms, puts_iff.mpr ⟨sw_tr q hbs, ?_⟩⟩
    by_cases m : t ∈ s.sh
    · rw [made_befo (h s ms) m]
      exact List.mem_filter.mpr ⟨hw, (h s ms).ok.sw w hws⟩
    · rw [befo_none m]
      exact hws
theorem fixed_least (h : ∀ s ∈ l, Made ws s) (nd : ws.Nodup) {b w : Str} (hw : w ∈ ws) (hb : Txt.startswith w b = true) {p : Nat} (e : fixP l b w = some p) : leastP l b w = p := by
  obtain ⟨rfl, h1, _⟩ := fixed_in h hb e
  unfold leastP
  refine List.Perm.length_eq ((List.perm_ext_iff_of_nodup ((abv_nd l w).sublist List.filter_sublist) ((nd.sublist (List.takeWhile_sublist _)).sublist List.filter_sublist)).mpr fun t => ?_)
  rw [List.mem_filter, List.mem_filter, abv_mem]
  exact ⟨fun z => ⟨bef_book h z.1 hw, z.2⟩, fun z => ⟨h1 t z.1 z.2, z.2⟩⟩
theorem fixed_great (h : ∀ s ∈ l, Made ws s) (nd : ws.Nodup) (K : KnOf l ys) {b w : Str} (mw : w ∈ ys) (hb : Txt.startswith w b = true) {p : Nat} (e : fixP l b w = some p) : greatP l ys b w = p + 1 := by
  obtain ⟨rfl, h1, h2⟩ := fixed_in h hb e
  have hw : w ∈ ws := known_in_book h ((K.mem w).mp mw)
  unfold greatP
  have nB : ((befo ws w).filter fun t => Txt.startswith t b).Nodup := (nd.sublist (List.takeWhile_sublist _)).sublist List.filter_sublist
  have nw : w ∉ (befo ws w).filter fun t => Txt.startswith t b := fun z => befo_self (List.mem_filter.mp z).1
  have key : ((ys.filter fun t => Txt.startswith t b).filter fun t => !(bef l w t)).Perm (w :: (befo ws w).filter fun t => Txt.startswith t b) := by
    refine (List.perm_ext_iff_of_nodup ((K.nd.sublist List.filter_sublist).sublist List.filter_sublist) (List.nodup_cons.mpr ⟨nw, nB⟩)).mpr fun t => ?_
    rw [List.mem_filter, List.mem_filter, List.mem_cons, List.mem_filter, Bool.not_eq_true']
    constructor
    · rintro ⟨⟨m, q⟩, no⟩
      by_cases et : t = w
      · exact .inl et
      · refine .inr ⟨?_, q⟩
        have mt : t ∈ ws := known_in_book h ((K.mem t).mp m)
        by_cases g : t ∈ befo ws w
        · exact g
        · have := h2 t mt q (befo_total hw (Ne.symm et) g)
          rw [this] at no
          cases no
    · rintro (rfl | ⟨m, q⟩)
      · exact ⟨⟨mw, hb⟩, bef_irr⟩
      · have bt := h1 t m q
        refine ⟨⟨(K.mem t).mpr (abv_known (abv_mem.mpr bt)), q⟩, ?_⟩
        cases g : bef l w t with
        | false => rfl
        | true => exact (befo_asym m (bef_book h g (befo_mem m))).elim
  rw [key.length_eq, List.length_cons]
theorem least_book (h : ∀ s ∈ l, Made ws s) {b w : Str} (hw : w ∈ ws) : leastP l b w ≤ ((befo ws w).filter fun t => Txt.startswith t b).length :=
  least_le (fun s m => (h s m).ok) (fun s m => (h s m).eq) (fun x k => known_in_book h k) hw b
end
end TM
set_option pp.deepTerms.threshold 6
namespace TM
open L2 PySem.Spec PySem PyProof.Rows
/-! ### places by all orders -/
def placeR (r : List Str) (b w : Str) : Nat := ((befo r w).filter fun t => Txt.startswith t b).length
def sp__law_places : DSp := fun es Ψ _ => ∃ (rows : List (List Str)) (b w : Str), es = [.fz (.list (rows.map fun r => bk r)), .fz (.str b), .fz (.str w)] ∧ rows.length ≤ 10000 ∧ (∀ r ∈ rows, BookOk r ∧ w ∈ r) ∧ b.length ≤ 2000 ∧ lets w ∧ Txt.startswith w b = true ∧ Ψ (.ow (rows.map fun r => .int (placeR r b w : Nat)))
def sj__law_right : DSp := fun es Ψ _ => ∃ (l : List Scr) (ys : List Str) (b w : Str), es = [.fz (scs l), .fz (bk ys), .fz (.str b), .fz (.str w)] ∧ RangeOk l ys b w ∧ (∀ s ∈ l, inL "ab" s.b) ∧ (∀ y ∈ ys, inL "ab" y ∧ y.length ≤ 100) ∧ ys.length ≤ 5 ∧ Ψ (.fz (.bool true))
section
variable {l : List Scr} {ys : List Str}
/-- an order in which all words stand ahead of w that may -/
theorem late_ord (hs : ∀ s ∈ l, ScrOk s) (nt : ¬ Torn l) (K : KnOf l ys) {w : Str} (hw : w ∈ ys) : ∃ o : List Str, o.Perm ys ∧ (∀ s ∈ l, shows o s = true) ∧ ∀ t ∈ ys, t ≠ w → bef l w t = false → t ∈ befo o w := by
  obtain ⟨o1, p1, k1⟩ := exists_ord hs nt _ (ys.filter fun x => x != w && !(bef l w x)) rfl fun x m => (K.mem x).mp (List.mem_filter.mp m).1
  obtain ⟨o2, p2, k2⟩ := exists_ord hs nt _ (ys.filter fun x => bef l w x) rfl fun x m => (K.mem x).mp (List.mem_filter.mp m).1
  have i1 : ∀ x, x ∈ o1 ↔ x ∈ ys ∧ x ≠ w ∧ bef l w x = false := fun x => by
    rw [p1.mem_iff, List.mem_filter, Bool.and_eq_true, bne_iff_ne, Bool.not_eq_true']
  have i2 : ∀ x, x ∈ o2 ↔ x ∈ ys ∧ bef l w x = true := fun x => by
    rw [p2.mem_iff, List.mem_filter]
  have w1 : w ∉ o1 := fun m => ((i1 w).mp m).2.1 rfl
  have w2 : w ∉ o2 := fun m => bef_ne ((i2 w).mp m).2 rfl
  have n1 : o1.Nodup := p1.symm.nodup (K.nd.sublist List.filter_sublist)
  have n2 : o2.Nodup := p2.symm.nodup (K.nd.sublist List.filter_sublist)
  have nd : (o1 ++ w :: o2).Nodup := by
    rw [List.nodup_append, List.nodup_cons]
    refine ⟨n1, ⟨w2, n2⟩, fun a ha b hb e => ?_⟩
    subst e
    rcases List.mem_cons.mp hb with rfl | hb
    · exact w1 ha
    · have := ((i1 a).mp ha).2.2
      rw [((i2 a).mp hb).2] at this
      cases this
  have mem : ∀ x, x ∈ o1 ++ w :: o2 ↔ x ∈ ys := fun x => by
    rw [List.mem_append, List.mem_cons, i1, i2]
    constructor
    · rintro (h | rfl | h)
      · exact h.1
      · exact hw
      · exact h.1
    · intro h
      by_cases e : x = w
      · exact .inr (.inl e)
      · cases q : bef l w x with
        | true => exact .inr (.inr ⟨h, rfl⟩)
        | false => exact .inl ⟨h, e, rfl⟩
  have kp : Keeps l (o1 ++ w :: o2) := by
    unfold Keeps
    rw [List.pairwise_append, List.pairwise_cons]
    refine ⟨k1, ⟨fun b hb => ?_, k2⟩, fun a ha b hb => ?_⟩
    · cases q : bef l b w with
      | false => rfl
      | true => exact (bef_asym hs nt q ((i2 b).mp hb).2).elim
    · rcases List.mem_cons.mp hb with rfl | hb
      · exact ((i1 a).mp ha).2.2
      · cases q : bef l b a with
        | false => rfl
        | true =>
          have := bef_tr hs nt ((i2 b).mp hb).2 q
          rw [((i1 a).mp ha).2.2] at this
          cases this
  refine ⟨_, (List.perm_ext_iff_of_nodup nd K.nd).mpr mem, fun s ms => ord_shows hs nt nd (fun x => by rw [mem x]; exact K.mem x) kp ms, fun t mt ne no => ?_⟩
  have : befo (o1 ++ w :: o2) w = o1 := by
    unfold befo
    rw [List.takeWhile_append_of_pos fun x m => by
      rw [bne_iff_ne]
      exact fun z => w1 (z ▸ m), List.takeWhile_cons, if_neg (by simp), List.append_nil]
  rw [this]
  exact (i1 t).mpr ⟨mt, ne, no⟩
theorem place_great {b w : Str} (hb : Txt.startswith w b = true) (K : KnOf l ys) (hw : w ∈ ys) : ((ys.filter fun t => Txt.startswith t b).filter fun t => !(bef l w t)).Perm (w :: (ys.filter fun t => t != w && !(bef l w t)).filter fun t => Txt.startswith t b) := by
  have n2 : ((ys.filter fun t => t != w && !(bef l w t)).filter fun t => Txt.startswith t b).Nodup := (K.nd.sublist List.filter_sublist).sublist List.filter_sublist
  refine (List.perm_ext_iff_of_nodup ((K.nd.sublist List.filter_sublist).sublist List.filter_sublist) (List.nodup_cons.mpr ⟨fun m => ?_, n2⟩)).mpr fun t => ?_
  · have := (List.mem_filter.mp (List.mem_filter.mp m).1).2
    rw [bne_self_eq_false, Bool.false_and] at this
    cases this
  · rw [List.mem_filter, List.mem_filter, List.mem_cons, List.mem_filter, List.mem_filter, Bool.and_eq_true, bne_iff_ne]
    constructor
    · rintro ⟨⟨m, q⟩, no⟩
      by_cases e : t = w
      · exact .inl e
      · exact .inr ⟨⟨m, e, no⟩, q⟩
    · rintro (rfl | ⟨⟨m, _, no⟩, q⟩)
      · exact ⟨⟨hw, hb⟩, by rw [bef_irr]; rfl⟩
      · exact ⟨⟨m, q⟩, no⟩
theorem place_le (K : KnOf l ys) {r : List Str} (p : r.Perm ys) (sh : ∀ s ∈ l, shows r s = true) {b w : Str} (hw : w ∈ ys) (hb : Txt.startswith w b = true) : placeR r b w + 1 ≤ greatP l ys b w := by
  unfold greatP placeR
  rw [(place_great hb K hw).length_eq, List.length_cons]
  have nr : r.Nodup := p.symm.nodup K.nd
  refine Nat.succ_le_succ (nodup_le ((nr.sublist (List.takeWhile_sublist _)).sublist List.filter_sublist) fun t m => ?_)
  obtain ⟨m1, q⟩ := List.mem_filter.mp m
  refine List.mem_filter.mpr ⟨List.mem_filter.mpr ⟨p.mem_iff.mp (befo_mem m1), ?_⟩, q⟩
  rw [Bool.and_eq_true, bne_iff_ne, Bool.not_eq_true']
  refine ⟨befo_ne m1, ?_⟩
  cases g : bef l w t with
  | false => rfl
  | true =>
    obtain ⟨s, ms, ps⟩ := bef_iff.mp g
    exact (befo_asym m1 (row_puts (sh s ms) ps (p.mem_iff.mpr hw) (befo_mem m1))).elim
theorem place_most (hs : ∀ s ∈ l, ScrOk s) (nt : ¬ Torn l) (K : KnOf l ys) {b w : Str} (hw : w ∈ ys) (hb : Txt.startswith w b = true) : ∃ r : List Str, r.Perm ys ∧ (∀ s ∈ l, shows r s = true) ∧ placeR r b w + 1 = greatP l ys b w := by
  obtain ⟨o, p, sh, hh⟩ := late_ord hs nt K hw
  refine ⟨o, p, sh, Nat.le_antisymm (place_le K p sh hw hb) ?_⟩
  unfold greatP placeR
  rw [(place_great hb K hw).length_eq, List.length_cons]
  refine Nat.succ_le_succ (nodup_le ((K.nd.sublist List.filter_sublist).sublist List.filter_sublist) fun t m => ?_)
  obtain ⟨m1, q⟩ := List.mem_filter.mp m
  obtain ⟨m2, m3⟩ := List.mem_filter.mp m1
  rw [Bool.and_eq_true, bne_iff_ne, Bool.not_eq_true'] at m3
  exact List.mem_filter.mpr ⟨hh t m2 m3.1 m3.2, q⟩
theorem place_least (hs : ∀ s ∈ l, ScrOk s) (nt : ¬ Torn l) (K : KnOf l ys) {b w : Str} (hw : w ∈ ys) : ∃ r : List Str, r.Perm ys ∧ (∀ s ∈ l, shows r s = true) ∧ placeR r b w = leastP l b w := by
  obtain ⟨o, p, sh, hp⟩ := early_row hs nt K hw
  refine ⟨o, p, sh, ?_⟩
  unfold placeR leastP
  exact (hp.filter _).length_eq
/-- a new word can stand ahead of w, if no screen fixes w -/
theorem free_iff (hs : ∀ s ∈ l, ScrOk s) (nt : ¬ Torn l) (hp : ∀ s ∈ l, inL "ab" s.b) (K : KnOf l ys) (hy : ∀ y ∈ ys, inL "ab" y) {b w x : Str} (hw : w ∈ ys) (hb : Txt.startswith w b = true) (hx : NewW b x) {rs : List (List Str)} (hr : ∀ r, r ∈ rs ↔ WithB ys [x] r) :
    (∃ r ∈ rs, x ∈ r ∧ x ∈ befo r w ∧ ∀ s ∈ l, shows r s = true) ↔ fixP l b w = none := by
  have nx := hx.new hy
  constructor
  · rintro ⟨r, m, _, bx, sh⟩
    cases q : fixP l b w with
    | none => rfl
    | some p =>
      obtain ⟨s, ms, hbs, hws, _⟩ := fix_some q
      have pl := place_shown (sh s ms) (hs s ms) hws hbs
      have mx : x ∈ (befo s.sh w).filter fun t => Txt.startswith t b := by
        rw [pl]
        exact List.mem_filter.mpr ⟨bx, hx.sw⟩
      exact absurd ((K.mem x).mpr ⟨s, ms, befo_mem (List.mem_filter.mp mx).1⟩) nx
  · intro q
    obtain ⟨A, C, p, sh, nA, mC⟩ := late_row hs nt hp K hw hb q (B := [x]) fun z m => by
      rw [List.mem_singleton.mp m]
      exact hx
    refine ⟨A ++ [x] ++ C, (hr _).mpr (.inr ⟨A ++ C, A, C, p, rfl, rfl⟩), List.mem_append_left _ (List.mem_append_right _ (List.mem_singleton.mpr rfl)), ?_, sh⟩
    have : befo (A ++ [x] ++ C) w = A ++ [x] ++ befo C w := by
      unfold befo
      rw [List.takeWhile_append_of_pos fun y m => by
        rw [bne_iff_ne]
        rcases List.mem_append.mp m with m | m
        · exact fun z => nA (z ▸ m)
        · rw [List.mem_singleton.mp m]
          exact fun z => nx (z ▸ hw)]
    rw [this]
    exact List.mem_append_left _ (List.mem_append_right _ (List.mem_singleton.mpr rfl))
end
end TM
set_option pp.deepTerms.threshold 6
namespace TM
open L2 PySem.Spec PySem PyProof.Rows
/-! ### sure answers by all orders, alone and with a new word -/
/-- a row of the dictionary's words with the new one put in -/
theorem row_put {ws : List Str} {l : List Scr} {s : Scr} (hb : BookOk ws) (hw : ∀ w ∈ ws, inL "ab" w) (hs : Made ws s) (hl : ∀ t ∈ l, Made ws t ∧ inL "ab" t.b) (no : ∀ t ∈ l, dec s.b s.n t = false) :
    ∃ A B : List Str, ws = A ++ B ∧ l.all (shows (A ++ (s.b ++ "zzzz") :: B)) = true ∧ shows (A ++ (s.b ++ "zzzz") :: B) s = false := by
  have new := zz_new (b := s.b) hw
  have self := zz_self s.b
  generalize ex : s.b ++ "zzzz" = x at new self ⊢
  have swx : ∀ p : Str, inL "ab" p → Txt.startswith x p = true → Txt.startswith s.b p = true := fun p hp h => zz_sw hp (by rw [ex]; exact h)
  have es := hs.eq
  unfold shows at es
  rw [beq_iff_eq] at es
  have few := hs.ok.few
  have n1 := hs.ok.n1
  -- it is enough to part the dictionary
  have go : ∀ A B : List Str, ws = A ++ B → (∀ t ∈ l, Txt.startswith s.b t.b = true → t.n ≤ (A.filter fun w => Txt.startswith w t.b).length) → shows (A ++ x :: B) s = false → ∃ A B : List Str, ws = A ++ B ∧ l.all (shows (A ++ x :: B)) = true ∧ shows (A ++ x :: B) s = false := by
    intro A B e h1 h2
    refine ⟨A, B, e, ?_, h2⟩
    rw [List.all_eq_true]
    intro t mt
    obtain ⟨ht, tb⟩ := hl t mt
    refine ins_same (by rw [← e]; exact ht.eq) ?_
    cases q : Txt.startswith x t.b with
    | false => exact .inl rfl
    | true => exact .inr (h1 t mt (swx _ tb q))
  have full : ∀ t ∈ l, Txt.startswith s.b t.b = true → t.sh.length = t.n ∧ (t.sh.filter fun w => Txt.startswith w s.b).length < s.n ∧ ans ws t.b t.n = t.sh := by
    intro t mt q
    have z := no t mt
    unfold dec at z
    rw [q, Bool.true_and, Bool.or_eq_false_iff] at z
    obtain ⟨z1, z2⟩ := z
    unfold short at z1
    rw [decide_eq_false_iff_not] at z1 z2
    have tf := (hl t mt).1.ok.few
    have te := (hl t mt).1.eq
    unfold shows at te
    rw [beq_iff_eq] at te
    exact ⟨by omega, by omega, te⟩
  by_cases sho : s.sh.length < s.n
  · -- the new word at the end
    refine go ws [] (List.append_nil _).symm (fun t mt q => ?_) ?_
    · obtain ⟨a, _, c⟩ := full t mt q
      rw [← a, ← c]
      unfold ans
      rw [List.length_take]
      omega
    · unfold shows
      rw [beq_eq_false_iff_ne]
      intro z
      have len : (ans (ws ++ [x]) s.b s.n).length = s.sh.length := by rw [z]
      have le2 : (ans ws s.b s.n).length = s.sh.length := by rw [es]
      unfold ans at len le2
      rw [List.filter_append, sw_pos self, List.length_take, List.length_append] at len
      rw [List.length_take] at le2
      simp only [List.filter_nil, List.length_singleton] at len
      omega
  · -- ahead of the last word shown
    have sl : s.sh.length = s.n := by omega
    have cnt : s.n ≤ (ws.filter fun w => Txt.startswith w s.b).length := by
      rw [← sl, ← es]
      unfold ans
      rw [List.length_take]
      omega
    obtain ⟨A, w, B, e, pw, hn⟩ := split_nth (fun w => Txt.startswith w s.b) ws (s.n - 1) (by omega)
    refine go A (w :: B) e (fun t mt q => ?_) ?_
    · obtain ⟨a, b, c⟩ := full t mt q
      refine Nat.le_of_not_lt fun lt => ?_
      have wt : Txt.startswith w t.b = true := sw_tr pw q
      have ft : ws.filter (fun w => Txt.startswith w t.b) = (A.filter fun w => Txt.startswith w t.b) ++ w :: (B.filter fun w => Txt.startswith w t.b) := by
        rw [e, List.filter_append, sw_pos wt]
      have pre : ((A.filter fun w => Txt.startswith w t.b) ++ [w]) <+: t.sh := by
        rw [← c]
        unfold ans
        rw [ft, List.prefix_take_iff]
        exact ⟨⟨B.filter fun w => Txt.startswith w t.b, by rw [List.append_assoc]; rfl⟩, by rw [List.length_append, List.length_singleton]; omega⟩
      have sub := (pre.filter fun w => Txt.startswith w s.b).length_le
      rw [List.filter_append, sw_pos pw, List.length_append, List.filter_filter] at sub
      have same : (A.filter fun u => Txt.startswith u s.b && Txt.startswith u t.b) = A.filter fun u => Txt.startswith u s.b := List.filter_congr fun u _ => by
        cases g : Txt.startswith u s.b with
        | false => rfl
        | true => rw [sw_tr g q]; rfl
      rw [same, hn] at sub
      simp only [List.filter_nil, List.length_singleton] at sub
      omega
    · unfold shows
      rw [beq_eq_false_iff_ne]
      intro z
      have mx : x ∈ s.sh := by
        rw [← z]
        unfold ans
        rw [List.filter_append, sw_pos self]
        have : s.n = (A.filter fun w => Txt.startswith w s.b).length + 1 := by omega
        rw [this, List.take_append, List.take_of_length_le (Nat.le_succ _), Nat.add_sub_cancel_left]
        exact List.mem_append_right _ (by rw [List.take_succ_cons]; exact List.mem_cons_self ..)
      rw [← es] at mx
      exact new (ans_mem mx).1
theorem zz_newW (b : Str) : NewW b (b ++ "zzzz") := by
  refine ⟨⟨[122, 122, 122], ?_, by decide⟩⟩
  rw [app_cps, zz_cps]
section
variable {ws ys : List Str} {l : List Scr} {b : Str} {n : Nat} {rs : List (List Str)}
theorem sure_rows (hm : ∀ s ∈ l, Made ws s ∧ inL "ab" s.b) (K : KnOf l ys) (hy : ∀ y ∈ ys, inL "ab" y ∧ y.length ≤ 100) (yw : ∀ y ∈ ys, lets y ∧ 1 ≤ y.length) (hb : stOk b) (n1 : 1 ≤ n) (n2 : n ≤ 20) (hr : ∀ r, r ∈ rs ↔ WithB ys [b ++ "zzzz"] r) :
    ∃ o ∈ rs, l.all (shows o) = true ∧ (∀ i, decider l b n = some i → ∀ r ∈ rs, l.all (shows r) = true → sure l b n = some (ans r b n)) ∧ (decider l b n = none → ∃ r ∈ rs, l.all (shows r) = true ∧ ans r b n ≠ ans o b n) := by
  have hs : ∀ s ∈ l, ScrOk s := fun s m => (hm s m).1.ok
  have nt := made_calm fun s m => (hm s m).1
  obtain ⟨o, po, _, so⟩ := exists_row hs nt K.nd K.mem
  have mo : o ∈ rs := (hr o).mpr (.inl po)
  have bo : BookOk o := ⟨po.symm.nodup K.nd, by rw [po.length_eq]; have := K.len; omega, fun w m => by
    have m' := po.mem_iff.mp m
    exact ⟨(yw w m').1, (yw w m').2, by have := (hy w m').2; omega⟩⟩
  have wo : ∀ w ∈ o, w.length ≤ 100 := fun w m => (hy w (po.mem_iff.mp m)).2
  refine ⟨o, mo, List.all_eq_true.mpr so, fun i e r mr sr => ?_, fun e => ?_⟩
  · obtain ⟨t, e1, e2, e3⟩ := sure_at e
    rw [e2, dec_ansE (List.all_eq_true.mp sr t (List.mem_of_getElem? e1)) e3]
  · unfold decider at e
    rw [List.findIdx?_eq_none_iff] at e
    have one := made_of bo wo hb n1 n2
    obtain ⟨A, B, eo, h1, h2⟩ := row_put (s := ⟨b, n, ans o b n⟩) bo (fun w m => (hy w (po.mem_iff.mp m)).1) one (fun t mt => ⟨⟨(hm t mt).1.ok, (hm t mt).1.bz, (hm t mt).1.wz, so t mt⟩, (hm t mt).2⟩) e
    refine ⟨A ++ (b ++ "zzzz") :: B, (hr _).mpr (.inr ⟨o, A, B, po, eo, by rw [List.append_assoc]; rfl⟩), h1, ?_⟩
    unfold shows at h2
    rw [beq_eq_false_iff_ne] at h2
    exact h2
/-- the law's list of different answers -/
theorem due_eq (hm : ∀ s ∈ l, Made ws s ∧ inL "ab" s.b) (K : KnOf l ys) (hy : ∀ y ∈ ys, inL "ab" y ∧ y.length ≤ 100) (yw : ∀ y ∈ ys, lets y ∧ 1 ≤ y.length) (hb : stOk b) (n1 : 1 ≤ n) (n2 : n ≤ 20) (hr : ∀ r, r ∈ rs ↔ WithB ys [b ++ "zzzz"] r)
    {F : List (List Str)} (nd : F.Nodup) (mem : ∀ a, a ∈ F ↔ ∃ r ∈ rs, l.all (shows r) = true ∧ ans r b n = a) : (∃ a, F = [a] ∧ sure l b n = some a) ∨ (F.length ≠ 1 ∧ sure l b n = none) := by
  obtain ⟨o, mo, so, h1, h2⟩ := sure_rows hm K hy yw hb n1 n2 hr
  have inF : ans o b n ∈ F := (mem _).mpr ⟨o, mo, so, rfl⟩
  cases e : decider l b n with
  | none =>
    obtain ⟨r, mr, sr, ne⟩ := h2 e
    refine .inr ⟨fun z => ?_, sure_none e⟩
    obtain ⟨a, rfl⟩ := List.length_eq_one_iff.mp z
    have z1 := List.mem_singleton.mp inF
    have z2 := List.mem_singleton.mp ((mem _).mpr ⟨r, mr, sr, rfl⟩)
    exact ne (z2.trans z1.symm)
  | some i =>
    have all := h1 i e
    have eo := all o mo so
    refine .inl ⟨ans o b n, ?_, eo⟩
    have same : ∀ a ∈ F, a = ans o b n := fun a m => by
      obtain ⟨r, mr, sr, rfl⟩ := (mem a).mp m
      have z := (all r mr sr).symm.trans eo
      exact Option.some.inj z
    cases F with
    | nil => cases inF
    | cons x F =>
      cases F with
      | nil => rw [same x (List.mem_cons_self ..)]
      | cons y F =>
        have e1 := same x (List.mem_cons_self ..)
        have e2 := same y (List.mem_cons_of_mem _ (List.mem_cons_self ..))
        rw [List.nodup_cons] at nd
        exact absurd (by rw [e1, e2]; exact List.mem_cons_self ..) nd.1
end
/-! ### promises -/
def sv_sure_in : DSp := fun es Ψ _ => ∃ (l : List Scr) (b : Str) (n : Nat), es = quest l b n ∧ l.length ≤ 20 ∧ (∀ s ∈ l, ScrOk s) ∧ b.length ≤ 2000 ∧ Ψ (.pv (bkO (sure l b n)))
def sv_sure_answer : DSp := fun es Ψ _ => ∃ (l : List Scr) (b : Str) (n : Nat), es = quest l b n ∧ QOk l b n ∧ Ψ (.pv (bkO (sure l b n)))
def ROk (l : List Scr) (b : Str) (n : Nat) : Prop := l.length ≤ 20 ∧ (∃ ws : List Str, ws.length ≤ 5 ∧ (∀ w ∈ ws, inL "ab" w ∧ w.length ≤ 100) ∧ ∀ s ∈ l, Made ws s ∧ inL "ab" s.b) ∧ stOk b ∧ 1 ≤ n ∧ n ≤ 20
def sv__law_due : DSp := fun es Ψ _ => ∃ (l : List Scr) (b : Str) (n : Nat), es = quest l b n ∧ ROk l b n ∧ Ψ (.fz (bkO (sure l b n)))
def sv__law_right : DSp := fun es Ψ _ => ∃ (l : List Scr) (b : Str) (n : Nat), es = quest l b n ∧ ROk l b n ∧ Ψ (.fz (.bool true))
end TM
namespace TM
open L2 PySem.Spec PySem PyProof.Rows
abbrev N_is_integer : List Str := ["value", "low", "high"]
def n_is_integer : DSx :=
  (sSeq (sIf (dOrT (dNotT (dTst (dIsi "int" (dVar 0)))) (dTst (dIsi "bool" (dVar 0))))
    (sRet (dC (.bool false)))
    sNil)
    (sRet (dAnd (dOp2 gLe (dVar 1) (dVar 0)) (dOr (dIsN false (dVar 2)) (dOp2 gLe (dVar 0) (dVar 2))))))
abbrev N_are_letters : List Str := ["value", "letter"]
def n_are_letters : DSx :=
  (sRet (dAnd (dIsi "str" (dVar 0)) (dCB gAll (aCons (dFz (oLc (iS (dVar 0)) (.nm 1) tYesD (dChain gLe gLe (dC (.str "a")) (dVar 1) (dC (.str "z"))) [1])) aNil))))
abbrev N_has_word_form : List Str := ["value"]
def n_has_word_form (sp_are_letters : DSp) : DSx :=
  (sRet (dAnd (dCall sp_are_letters (aCons (dVar 0) aNil)) (dOp2 gNe (dVar 0) (dC (.str "")))))
abbrev N_are_different_words : List Str := ["value", "word"]
def n_are_different_words (sp_has_word_form : DSp) : DSx :=
  (sRet (dAnd (dIsi "list" (dVar 0)) (dAnd (dCB gAll (aCons (dFz (oLc (iL (dVar 0)) (.nm 1) tYesD (dCall sp_has_word_form (aCons (dVar 1) aNil)) [1])) aNil)) (dOp2 gEq (dLenSet (dVar 0)) (dCB gLen (aCons (dVar 0) aNil))))))
abbrev N_is_shown_list : List Str := ["beginning", "limit", "value", "word"]
def n_is_shown_list (sp_are_different_words : DSp) : DSx :=
  (sSeq (sIf (dOrT (dNotT (dTst (dCall sp_are_different_words (aCons (dVar 2) aNil)))) (dTst (dOp2 gGt (dCB gLen (aCons (dVar 2) aNil)) (dVar 1))))
    (sRet (dC (.bool false)))
    sNil)
    (sRet (dCB gAll (aCons (dFz (oLc (iL (dVar 2)) (.nm 3) tYesD (dMS gSw (dVar 3) (dVar 0)) [3])) aNil))))
abbrev N_is_limit : List Str := ["value"]
def n_is_limit (sp_is_integer : DSp) : DSx :=
  (sRet (dCall sp_is_integer (aCons (dVar 0) (aCons (dC (.int 1)) (aCons (dC (.int 20)) aNil)))))
abbrev N_has_screen_form : List Str := ["value", "beginning", "limit", "shown"]
def n_has_screen_form (sp_are_letters sp_is_limit sp_is_shown_list : DSp) : DSx :=
  (sSeq (sIf (dOrT (dNotT (dTst (dIsi "tuple" (dVar 0)))) (dTst (dOp2 gNe (dCB gLen (aCons (dVar 0) aNil)) (dC (.int 3)))))
    (sRet (dC (.bool false)))
    sNil)
    (sSeq (sUnp (.tp [1, 2, 3]) (dVar 0))
    (sSeq (sIf (dOrT (dNotT (dTst (dCall sp_are_letters (aCons (dVar 1) aNil)))) (dNotT (dTst (dCall sp_is_limit (aCons (dVar 2) aNil)))))
    (sRet (dC (.bool false)))
    sNil)
    (sRet (dCall sp_is_shown_list (aCons (dVar 1) (aCons (dVar 2) (aCons (dVar 3) aNil))))))))
abbrev N_has_screens_form : List Str := ["value", "screen"]
def n_has_screens_form (sp_has_screen_form : DSp) : DSx :=
  (sSeq (sIf (dOrT (dNotT (dTst (dIsi "list" (dVar 0)))) (dTst (dOp2 gGt (dCB gLen (aCons (dVar 0) aNil)) (dC (.int 20)))))
    (sRet (dC (.bool false)))
    sNil)
    (sRet (dCB gAll (aCons (dFz (oLc (iL (dVar 0)) (.nm 1) tYesD (dCall sp_has_screen_form (aCons (dVar 1) aNil)) [1])) aNil))))
abbrev N_require_beginning : List Str := ["value"]
def n_require_beginning (sp_are_letters : DSp) : DSx :=
  (sIf (dNotT (dTst (dCall sp_are_letters (aCons (dVar 0) aNil))))
    sNever
    sNil)
abbrev N_require_limit : List Str := ["value"]
def n_require_limit (sp_is_limit : DSp) : DSx :=
  (sIf (dNotT (dTst (dCall sp_is_limit (aCons (dVar 0) aNil))))
    sNever
    sNil)
abbrev N_require_screens : List Str := ["value"]
def n_require_screens (sp_has_screens_form : DSp) : DSx :=
  (sIf (dNotT (dTst (dCall sp_has_screens_form (aCons (dVar 0) aNil))))
    sNever
    sNil)
abbrev N_is_short : List Str := ["screen"]
def n_is_short : DSx :=
  (sRet (dOp2 gLt (dCB gLen (aCons (dOp2 gGet (dVar 0) (dC (.int 2))) aNil)) (dOp2 gGet (dVar 0) (dC (.int 1)))))
abbrev N_misses : List Str := ["screen", "word"]
def n_misses (sp_is_short : DSp) : DSx :=
  (sRet (dAnd (dCall sp_is_short (aCons (dVar 0) aNil)) (dAnd (dMS gSw (dVar 1) (dOp2 gGet (dVar 0) (dC (.int 0)))) (dOp2 (gIn true) (dVar 1) (dOp2 gGet (dVar 0) (dC (.int 2)))))))
abbrev N_order_clash : List Str := ["one", "other", "row", "column", "word", "mate"]
def n_order_clash_b1 : DSx :=
  (sIf (dTst (dOp2 gNe (dVar 4) (dVar 5)))
    (sRet (dTup (aCons (dVar 4) (aCons (dVar 5) aNil))))
    sNil)
def n_order_clash : DSx :=
  (sSeq (sSet 2 (dFz (oLc (iL (dOp2 gGet (dVar 0) (dC (.int 2)))) (.nm 4) (dTst (dMS gSw (dVar 4) (dOp2 gGet (dVar 1) (dC (.int 0))))) (dVar 4) [4])))
    (sSeq (sSet 3 (dFz (oLc (iL (dOp2 gGet (dVar 1) (dC (.int 2)))) (.nm 4) (dTst (dMS gSw (dVar 4) (dOp2 gGet (dVar 0) (dC (.int 0))))) (dVar 4) [4])))
    (sSeq (sFor (iZ (dVar 2) (dVar 3)) (.tp [4, 5])
    (n_order_clash_b1))
    (sRet (dC .none)))))
abbrev N_clash_of_two : List Str := ["screens", "first", "second", "missed", "words", "one", "other", "word"]
def n_clash_of_two (sp_misses sp_order_clash : DSp) : DSx :=
  (sSeq (sPar [5, 6] (aCons (dOp2 gGet (dVar 0) (dVar 1)) (aCons (dOp2 gGet (dVar 0) (dVar 2)) aNil)))
    (sSeq (sSet 3 (dFz (oLc (iL (dOp2 gGet (dVar 6) (dC (.int 2)))) (.nm 7) (dTst (dCall sp_misses (aCons (dVar 5) (aCons (dVar 7) aNil)))) (dVar 7) [7])))
    (sSeq (sIf (dTst (dOp2 gNe (dVar 3) (dFz (oLst aNil))))
    (sRet (dTup (aCons (dC (.str "missing")) (aCons (dVar 1) (aCons (dVar 2) (aCons (dOp2 gGet (dVar 3) (dC (.int 0))) aNil))))))
    sNil)
    (sSeq (sSet 4 (dCall sp_order_clash (aCons (dVar 5) (aCons (dVar 6) aNil))))
    (sRet (dIf (dTst (dIsN true (dVar 4))) (dTup (aCons (dC (.str "order")) (aCons (dVar 1) (aCons (dVar 2) (aCons (dOp2 gGet (dVar 4) (dC (.int 0))) (aCons (dOp2 gGet (dVar 4) (dC (.int 1))) aNil)))))) (dC .none)))))))
abbrev N_clash_of : List Str := ["screens", "first", "second", "found"]
def n_clash_of_b1 (sp_clash_of_two : DSp) : DSx :=
  (sSeq (sSet 3 (dCall sp_clash_of_two (aCons (dVar 0) (aCons (dVar 1) (aCons (dVar 2) aNil)))))
    (sIf (dTst (dIsN true (dVar 3)))
    (sRet (dVar 3))
    sNil))
def n_clash_of_b2 (sp_clash_of_two : DSp) : DSx :=
  (sFor (iR1 (dCB gLen (aCons (dVar 0) aNil))) (.nm 2)
    (n_clash_of_b1 sp_clash_of_two))
def n_clash_of (sp_clash_of_two : DSp) : DSx :=
  (sSeq (sFor (iR1 (dCB gLen (aCons (dVar 0) aNil))) (.nm 1)
    (n_clash_of_b2 sp_clash_of_two))
    (sRet (dC .none)))
abbrev N_require_no_clash : List Str := ["screens", "found"]
def n_require_no_clash (sp_require_screens sp_clash_of : DSp) : DSx :=
  (sSeq (sExp (dCall sp_require_screens (aCons (dVar 0) aNil)))
    (sSeq (sSet 1 (dCall sp_clash_of (aCons (dVar 0) aNil)))
    (sIf (dTst (dIsN true (dVar 1)))
    sNever
    sNil)))
abbrev N_matching : List Str := ["words", "beginning", "word"]
def n_matching : DSx :=
  (sRetO (oLc (iL (dVar 0)) (.nm 2) (dTst (dMS gSw (dVar 2) (dVar 1))) (dVar 2) [2]))
abbrev N_answer_in : List Str := ["dictionary", "beginning", "limit"]
def n_answer_in (sp_matching : DSp) : DSx :=
  (sRetO (oSl (dCall sp_matching (aCons (dVar 0) (aCons (dVar 1) aNil))) pNone (pSome (dVar 2))))
abbrev N_require_question : List Str := ["screens", "beginning", "limit"]
def n_require_question (sp_require_no_clash sp_require_beginning sp_require_limit : DSp) : DSx :=
  (sSeq (sExp (dCall sp_require_no_clash (aCons (dVar 0) aNil)))
    (sSeq (sExp (dCall sp_require_beginning (aCons (dVar 1) aNil)))
    (sExp (dCall sp_require_limit (aCons (dVar 2) aNil)))))
abbrev N_decides : List Str := ["screen", "beginning", "limit"]
def n_decides (sp_is_short sp_matching : DSp) : DSx :=
  (sSeq (sIf (dNotT (dTst (dMS gSw (dVar 1) (dOp2 gGet (dVar 0) (dC (.int 0))))))
    (sRet (dC (.bool false)))
    sNil)
    (sRet (dOr (dCall sp_is_short (aCons (dVar 0) aNil)) (dOp2 gGe (dCB gLen (aCons (dCall sp_matching (aCons (dOp2 gGet (dVar 0) (dC (.int 2))) (aCons (dVar 1) aNil))) aNil)) (dVar 2)))))
abbrev N_decider_in : List Str := ["screens", "beginning", "limit", "index", "screen"]
def n_decider_in_b1 (sp_decides : DSp) : DSx :=
  (sIf (dTst (dCall sp_decides (aCons (dVar 4) (aCons (dVar 1) (aCons (dVar 2) aNil)))))
    (sRet (dVar 3))
    sNil)
def n_decider_in (sp_decides : DSp) : DSx :=
  (sSeq (sFor (iE (dVar 0)) (.tp [3, 4])
    (n_decider_in_b1 sp_decides))
    (sRet (dC .none)))
abbrev N_sure_in : List Str := ["screens", "beginning", "limit", "index"]
def n_sure_in (sp_decider_in sp_answer_in : DSp) : DSx :=
  (sSeq (sSet 3 (dCall sp_decider_in (aCons (dVar 0) (aCons (dVar 1) (aCons (dVar 2) aNil)))))
    (sRetN (dIf (dTst (dIsN true (dVar 3))) (dNCall sp_answer_in (aCons (dOp2 gGet (dOp2 gGet (dVar 0) (dVar 3)) (dC (.int 2))) (aCons (dVar 1) (aCons (dVar 2) aNil)))) (dNf (dC .none)))))
abbrev N_sure_answer : List Str := ["screens", "beginning", "limit"]
def n_sure_answer (sp_require_question sp_sure_in : DSp) : DSx :=
  (sSeq (sExp (dCall sp_require_question (aCons (dVar 0) (aCons (dVar 1) (aCons (dVar 2) aNil)))))
    (sRetN (dNCall sp_sure_in (aCons (dVar 0) (aCons (dVar 1) (aCons (dVar 2) aNil))))))
abbrev N_deciding_screen : List Str := ["screens", "beginning", "limit"]
def n_deciding_screen (sp_require_question sp_decider_in : DSp) : DSx :=
  (sSeq (sExp (dCall sp_require_question (aCons (dVar 0) (aCons (dVar 1) (aCons (dVar 2) aNil)))))
    (sRet (dCall sp_decider_in (aCons (dVar 0) (aCons (dVar 1) (aCons (dVar 2) aNil))))))
abbrev N__law_jar : List Str := ["script", "k", "cell"]
def n__law_jar : DSx :=
  (sSeq (sSet 2 (dIf (dTst (dOp2 gLt (dVar 1) (dLenSc 0))) (dGetSc 0 (dVar 1)) (dC (.int 0))))
    (sRetO (oLst (aCons (dCB gMax2 (aCons (dC (.int 0)) (aCons (dOp2 gSub (dCB gAbs (aCons (dVar 2) aNil)) (dOp2 gPow (dC (.int 10)) (dC (.int 18)))) aNil))) (aCons (dOp2 gMod (dOp2 gAdd (dOp2 gAdd (dOp2 gMulX (dVar 2) (dC (.int 61))) (dOp2 gMulX (dC (.int 19)) (dVar 1))) (dC (.int 7))) (dOp2 gAdd (dOp2 gPow (dC (.int 10)) (dC (.int 36))) (dC (.int 67)))) (aCons (dC (.int 0)) aNil))))))
abbrev N__law_terms : List Str := ["jar", "most", "signs", "longest", "found", "turn", "term", "step"]
def n__law_terms_b1 (sp__law_dip : DSp) : DSx :=
  (sSet 6 (dOp2 gAdd (dVar 6) (dOp2 gGet (dVar 2) (dCall sp__law_dip (aDk 0 (aCons (dCB gLen (aCons (dVar 2) aNil)) aNil))))))
def n__law_terms_b2 (sp__law_dip : DSp) : DSx :=
  (sSeq (sSet 6 (dC (.str "")))
    (sSeq (sIf (dAndT (tBor (dTst (dOp2 gNe (dVar 4) (dFz (oLst aNil))))) (dTst (dOp2 gEq (dCall sp__law_dip (aDk 0 (aCons (dC (.int 2)) aNil))) (dC (.int 0)))))
    (sSet 6 (dGetOw 4 (dCall sp__law_dip (aDk 0 (aCons (dBor (dCB gLen (aCons (dVar 4) aNil))) aNil)))))
    sNil)
    (sSeq (sFor (iR1 (dOp2 gAdd (dC (.int 1)) (dCall sp__law_dip (aDk 0 (aCons (dC (.int 3)) aNil))))) (.nm 7)
    (n__law_terms_b1 sp__law_dip))
    (sIf (dAndT (dTst (dOp2 gLe (dCB gLen (aCons (dVar 6) aNil)) (dVar 3))) (tBor (dTst (dOp2 (gIn true) (dVar 6) (dVar 4)))))
    (sMut 4 gApp (dVar 6))
    sNil))))
def n__law_terms (sp__law_dip : DSp) : DSx :=
  (sSeq (sSetO 4 (oLst aNil))
    (sSeq (sFor (iR1 (dCall sp__law_dip (aDk 0 (aCons (dOp2 gAdd (dVar 1) (dC (.int 1))) aNil)))) (.nm 5)
    (n__law_terms_b2 sp__law_dip))
    (sRetO (oLc (iR1 (dBor (dCB gLen (aCons (dVar 4) aNil)))) (.nm 5) tYesD (dPop 4 (dCall sp__law_dip (aDk 0 (aCons (dBor (dCB gLen (aCons (dVar 4) aNil))) aNil)))) [5]))))
abbrev N__law_answer : List Str := ["terms", "front", "top", "term"]
def n__law_answer : DSx :=
  (sRetO (oSl (dFz (oLc (iL (dVar 0)) (.nm 3) (dTst (dMS gSw (dVar 3) (dVar 1))) (dVar 3) [3])) pNone (pSome (dVar 2))))
abbrev N__law_front : List Str := ["jar", "terms", "signs", "way", "term", "front"]
def n__law_front (sp__law_dip : DSp) : DSx :=
  (sSeq (sSet 3 (dCall sp__law_dip (aDk 0 (aCons (dC (.int 5)) aNil))))
    (sSeq (sIf (dOrT (dTst (dOp2 gEq (dVar 3) (dC (.int 0)))) (dTst (dOp2 gEq (dVar 1) (dFz (oLst aNil)))))
    (sRet (dC (.str "")))
    sNil)
    (sSeq (sSet 4 (dOp2 gGet (dVar 1) (dCall sp__law_dip (aDk 0 (aCons (dCB gLen (aCons (dVar 1) aNil)) aNil)))))
    (sSeq (sSet 5 (dSl (dVar 4) pNone (pSome (dCall sp__law_dip (aDk 0 (aCons (dOp2 gAdd (dCB gLen (aCons (dVar 4) aNil)) (dC (.int 1))) aNil))))))
    (sRet (dIf (dTst (dOp2 gLt (dVar 3) (dC (.int 4)))) (dVar 5) (dOp2 gAdd (dVar 5) (dOp2 gGet (dVar 2) (dCall sp__law_dip (aDk 0 (aCons (dCB gLen (aCons (dVar 2) aNil)) aNil)))))))))))
abbrev N__law_views : List Str := ["jar", "terms", "many", "most", "signs", "found", "turn", "front", "top"]
def n__law_views_b1 (sp__law_dip sp__law_front sp__law_answer : DSp) : DSx :=
  (sSeq (sPar [7, 8] (aCons (dCall sp__law_front (aDk 0 (aCons (dVar 1) (aCons (dVar 4) aNil)))) (aCons (dOp2 gAdd (dC (.int 1)) (dCall sp__law_dip (aDk 0 (aCons (dVar 3) aNil)))) aNil)))
    (sMut 5 gApp (dTup (aCons (dVar 7) (aCons (dVar 8) (aCons (dCall sp__law_answer (aCons (dVar 1) (aCons (dVar 7) (aCons (dVar 8) aNil)))) aNil))))))
def n__law_views (sp__law_dip sp__law_front sp__law_answer : DSp) : DSx :=
  (sSeq (sSetO 5 (oLst aNil))
    (sSeq (sFor (iR1 (dCall sp__law_dip (aDk 0 (aCons (dOp2 gAdd (dVar 2) (dC (.int 1))) aNil)))) (.nm 6)
    (n__law_views_b1 sp__law_dip sp__law_front sp__law_answer))
    (sRetV 5)))
abbrev N__law_known : List Str := ["views", "found", "front", "top", "row"]
def n__law_known_b1 : DSx :=
  (sMut 1 gExt (dVar 4))
def n__law_known : DSx :=
  (sSeq (sSetO 1 (oLst aNil))
    (sSeq (sFor (iL (dVar 0)) (.tp [2, 3, 4])
    (n__law_known_b1))
    (sRetO (oSortSet (dVarF 1)))))
abbrev N__law_shows : List Str := ["terms", "views", "front", "top", "row"]
def n__law_shows (sp__law_answer : DSp) : DSx :=
  (sRet (dOp2 gEq (dFz (oLc (iL (dVar 1)) (.tp [2, 3, 4]) (dTst (dOp2 gNe (dCall sp__law_answer (aCons (dVar 0) (aCons (dVar 2) (aCons (dVar 3) aNil)))) (dVar 4))) (dC (.int 1)) [2, 3, 4])) (dFz (oLst aNil))))
abbrev N__law_is_dictionary : List Str := ["thing", "term", "sign"]
def n__law_is_dictionary : DSx :=
  (sSeq (sIf (dOrT (dNotT (dTst (dIsi "list" (dVar 0)))) (dTst (dOp2 gNe (dFz (oLc (iL (dVar 0)) (.nm 1) (dOrT (dNotT (dTst (dIsi "str" (dVar 1)))) (dTst (dOp2 gEq (dVar 1) (dC (.str ""))))) (dVar 1) [1])) (dFz (oLst aNil)))))
    (sRet (dC (.bool false)))
    sNil)
    (sSeq (sIf (dTst (dOp2 gNe (dFz (oLc (iL (dVar 0)) (.nm 1) (dTst (dOp2 gNe (dFz (oLc (iS (dVar 1)) (.nm 2) (dTst (dOp2 (gIn true) (dVar 2) (dC (.str "abcdefghijklmnopqrstuvwxyz")))) (dVar 2) [2])) (dFz (oLst aNil)))) (dVar 1) [1])) (dFz (oLst aNil))))
    (sRet (dC (.bool false)))
    sNil)
    (sRet (dOp2 gEq (dLenSet (dVar 0)) (dCB gLen (aCons (dVar 0) aNil))))))
abbrev N__law_orders : List Str := ["terms", "found", "at", "term", "rest"]
def n__law_orders_b1 (sp__law_orders : DSp) : DSx :=
  (sMut 1 gExt (dFz (oLc (iL (dCall sp__law_orders (aCons (dFz (oOp2 gCat (dSl (dVar 0) pNone (pSome (dVar 2))) (dSl (dVar 0) (pSome (dOp2 gAdd (dVar 2) (dC (.int 1)))) pNone))) aNil))) (.nm 4) tYesD (dFz (oOp2 gCat (dFz (oLst (aCons (dVar 3) aNil))) (dVar 4))) [4])))
def n__law_orders (sp__law_orders : DSp) : DSx :=
  (sSeq (sIf (dTst (dOp2 gEq (dVar 0) (dFz (oLst aNil))))
    (sRetO (oLst (aCons (dFz (oLst aNil)) aNil)))
    sNil)
    (sSeq (sSetO 1 (oLst aNil))
    (sSeq (sFor (iE (dVar 0)) (.tp [2, 3])
    (n__law_orders_b1 sp__law_orders))
    (sRetV 1))))
abbrev N__law_with_new : List Str := ["terms", "fresh", "found", "row", "at"]
def n__law_with_new_b1 (sp__law_orders : DSp) : DSx :=
  (sSeq (sMut 2 gApp (dVar 3))
    (sMut 2 gExt (dFz (oLc (iR1 (dOp2 gAdd (dCB gLen (aCons (dVar 3) aNil)) (dC (.int 1)))) (.nm 4) tYesD (dFz (oOp2 gCat (dFz (oOp2 gCat (dSl (dVar 3) pNone (pSome (dVar 4))) (dFz (oLst (aCons (dVar 1) aNil))))) (dSl (dVar 3) (pSome (dVar 4)) pNone))) [4]))))
def n__law_with_new (sp__law_orders : DSp) : DSx :=
  (sSeq (sSetO 2 (oLst aNil))
    (sSeq (sFor (iL (dCall sp__law_orders (aCons (dVar 0) aNil))) (.nm 3)
    (n__law_with_new_b1 sp__law_orders))
    (sRetV 2)))
abbrev N__law_decides : List Str := ["view", "front", "top", "term"]
def n__law_decides : DSx :=
  (sSeq (sIf (dNotT (dTst (dMS gSw (dVar 1) (dOp2 gGet (dVar 0) (dC (.int 0))))))
    (sRet (dC (.bool false)))
    sNil)
    (sRet (dOr (dOp2 gLt (dCB gLen (aCons (dOp2 gGet (dVar 0) (dC (.int 2))) aNil)) (dOp2 gGet (dVar 0) (dC (.int 1)))) (dOp2 gGe (dCB gLen (aCons (dFz (oLc (iL (dOp2 gGet (dVar 0) (dC (.int 2)))) (.nm 3) (dTst (dMS gSw (dVar 3) (dVar 1))) (dVar 3) [3])) aNil)) (dVar 2)))))
abbrev N__law_due : List Str := ["views", "front", "top", "found", "terms", "row"]
def n__law_due_b1 (sp__law_known sp__law_with_new sp__law_shows sp__law_answer : DSp) : DSx :=
  (sIf (dTst (dCall sp__law_shows (aCons (dVar 4) (aCons (dVar 0) aNil))))
    (sSeq (sSet 5 (dCall sp__law_answer (aCons (dVar 4) (aCons (dVar 1) (aCons (dVar 2) aNil)))))
    (sIf (tBor (dTst (dOp2 (gIn true) (dVar 5) (dVar 3))))
    (sMut 3 gApp (dVar 5))
    sNil))
    sNil)
def n__law_due (sp__law_known sp__law_with_new sp__law_shows sp__law_answer : DSp) : DSx :=
  (sSeq (sSetO 3 (oLst aNil))
    (sSeq (sFor (iL (dCall sp__law_with_new (aCons (dCall sp__law_known (aCons (dVar 0) aNil)) (aCons (dOp2 gAdd (dVar 1) (dC (.str "zzzz"))) aNil)))) (.nm 4)
    (n__law_due_b1 sp__law_known sp__law_with_new sp__law_shows sp__law_answer))
    (sRet (dIf (dTst (dOp2 gEq (dBor (dCB gLen (aCons (dVar 3) aNil))) (dC (.int 1)))) (dGetOw 3 (dC (.int 0))) (dC .none)))))
abbrev N__law_right : List Str := ["views", "front", "top", "turn", "index", "told", "due", "kept", "at", "view"]
def n__law_right_b1 (sp__law_due sp_sure_answer sp__law_decides sp_deciding_screen : DSp) : DSx :=
  (sSeq (sSetN 5 (dNLst (aCons (dNCall sp_sure_answer (aCons (dVar 0) (aCons (dVar 1) (aCons (dVar 2) aNil)))) (aCons (dNCall (kwCall [2, 1, 0] sp_sure_answer) (aCons (dVar 2) (aCons (dVar 1) (aCons (dVar 0) aNil)))) aNil))))
    (sSeq (sIf (dTst (dOp2 gNe (dBor (dCB gReprA (aCons (dVar 5) aNil))) (dCB gReprA (aCons (dFz (oLst (aCons (dVar 6) (aCons (dVar 6) aNil)))) aNil))))
    (sRet (dC (.bool false)))
    sNil)
    (sIf (tBor (dTst (dIsN true (dOp2 gGet (dVar 5) (dC (.int 0))))))
    (sAppP 5 0)
    sNil)))
def n__law_right (sp__law_due sp_sure_answer sp__law_decides sp_deciding_screen : DSp) : DSx :=
  (sSeq (sPar [6, 7] (aCons (dCall sp__law_due (aCons (dVar 0) (aCons (dVar 1) (aCons (dVar 2) aNil)))) (aCons (dCB gReprA (aCons (dVar 0) aNil)) aNil)))
    (sSeq (sFor (iR1 (dC (.int 2))) (.nm 3)
    (n__law_right_b1 sp__law_due sp_sure_answer sp__law_decides sp_deciding_screen))
    (sSeq (sSet 4 (dFz (oOp2 gCat (dFz (oLc (iE (dVar 0)) (.tp [8, 9]) (dTst (dCall sp__law_decides (aCons (dVar 9) (aCons (dVar 1) (aCons (dVar 2) aNil))))) (dVar 8) [8, 9])) (dFz (oLst (aCons (dC .none) aNil))))))
    (sSeq (sSet 5 (dFz (oLst (aCons (dCall sp_deciding_screen (aCons (dVar 0) (aCons (dVar 1) (aCons (dVar 2) aNil)))) (aCons (dCall (kwCall [2, 1, 0] sp_deciding_screen) (aCons (dVar 2) (aCons (dVar 1) (aCons (dVar 0) aNil)))) aNil)))))
    (sRet (dAnd (dOp2 gEq (dCB gReprA (aCons (dVar 5) aNil)) (dCB gReprA (aCons (dFz (oOp2 gRep (dFz (oLst (aCons (dOp2 gGet (dVar 4) (dC (.int 0))) aNil))) (dC (.int 2)))) aNil))) (dAnd (dOp2 gEq (dCB gReprA (aCons (dVar 0) aNil)) (dVar 7)) (dOp2 gEq (dIsN false (dOp2 gGet (dVar 4) (dC (.int 0)))) (dIsN false (dVar 6))))))))))
abbrev N_law : List Str := ["script", "k", "views", "jar", "terms", "turn", "front"]
def n_law_b1 (sp__law_jar sp__law_terms sp__law_views sp__law_front sp__law_dip sp__law_right sp_sure_answer : DSp) : DSx :=
  (sIf (dNotT (dTst (dCall sp__law_right (aCons (dVar 2) (aCons (dCall sp__law_front (aDk 3 (aCons (dVar 4) (aCons (dC (.str "ab")) aNil)))) (aCons (dOp2 gAdd (dC (.int 1)) (dCall sp__law_dip (aDk 3 (aCons (dC (.int 4)) aNil)))) aNil))))))
    (sRet (dC (.bool false)))
    sNil)
def n_law_b2 (sp__law_jar sp__law_terms sp__law_views sp__law_front sp__law_dip sp__law_right sp_sure_answer : DSp) : DSx :=
  (sJar 3 (oCall sp__law_jar (aDk 0 (aCons (dVar 1) aNil)))
    (sSeq (sSet 4 (dCall sp__law_terms (aDk 3 (aCons (dC (.int 5)) (aCons (dC (.str "ab")) (aCons (dC (.int 4)) aNil))))))
    (sSeq (sSet 2 (dCall sp__law_views (aDk 3 (aCons (dVar 4) (aCons (dC (.int 4)) (aCons (dC (.int 3)) (aCons (dC (.str "ab")) aNil)))))))
    (sFor (iR1 (dC (.int 4))) (.nm 5)
    (n_law_b1 sp__law_jar sp__law_terms sp__law_views sp__law_front sp__law_dip sp__law_right sp_sure_answer)))))
def n_law (sp__law_jar sp__law_terms sp__law_views sp__law_front sp__law_dip sp__law_right sp_sure_answer : DSp) : DSx :=
  (sSeq (sFor (iR1 (dCB gMax2 (aCons (dC (.int 1)) (aCons (dCB gMin2 (aCons (dC (.int 5)) (aCons (dLenSc 0) aNil))) aNil)))) (.nm 1)
    (n_law_b2 sp__law_jar sp__law_terms sp__law_views sp__law_front sp__law_dip sp__law_right sp_sure_answer))
    (sSeq (sSet 2 (dFz (oLst (aCons (dTup (aCons (dC (.str "")) (aCons (dC (.int 2)) (aCons (dFz (oLst (aCons (dC (.str "car")) (aCons (dC (.str "dog")) aNil)))) aNil)))) (aCons (dTup (aCons (dC (.str "c")) (aCons (dC (.int 2)) (aCons (dFz (oLst (aCons (dC (.str "car")) (aCons (dC (.str "cat")) aNil)))) aNil)))) (aCons (dTup (aCons (dC (.str "do")) (aCons (dC (.int 3)) (aCons (dFz (oLst (aCons (dC (.str "dog")) (aCons (dC (.str "dot")) aNil)))) aNil)))) aNil))))))
    (sRet (dOp2 gEq (dFz (oLc (iL (dFz (oLst (aCons (dC (.str "c")) (aCons (dC (.str "dot")) (aCons (dC (.str "dox")) aNil)))))) (.nm 6) tYesD (dCall sp_sure_answer (aCons (dVar 2) (aCons (dVar 6) (aCons (dC (.int 5)) aNil)))) [6])) (dFz (oLst (aCons (dC .none) (aCons (dFz (oLst (aCons (dC (.str "dot")) aNil))) (aCons (dFz (oLst aNil)) aNil)))))))))
end TM
namespace TM
open L2 PySem.Spec PySem PyProof.Rows
theorem r_are_letters : ∀ es Ψ Φ, sp_are_letters es Ψ Φ → es.length = (["value"] : List Str).length ∧ n_are_letters (es ++ List.replicate (N_are_letters.length - es.length) .un) { nx := fun _ => Ψ (.fz .none), rt := Ψ, ex := fun c p _ => Φ c p } := by
  rintro es Ψ Φ ⟨d, rfl, hz, h⟩
  refine ⟨rfl, ?_⟩
  show n_are_letters [.fz d, .un] _
  unfold n_are_letters
  simp only [sRet, dAnd, dIsi, dVar, atS, isT_str]
  cases d with
  | str s =>
    simp only [D.isStr, if_true]
    simp only [dCB, aCons, dFz, oLc, iS, dVar, atS]
    refine lc_map (fun d => [.fz (.str s), .fz d]) (fun d => .bool (match d with | .str z => (z.cps.toList.head?).elim false letterC | _ => false)) (signs s) [] (fun d _ => rfl) (fun d hd Ψ h => ?_) (fun d _ => rfl) (by rw [signs_len]; simpa using (show s.length ≤ sizeLine from hz)) ?_
    · obtain ⟨c, _, rfl⟩ := signs_mem hd
      exact chain_letter rfl h
    · simp only [List.nil_append, aNil, dataOf, Option.map_some, gAll]
      refine ⟨s.cps.toList.map letterC, ?_, ?_⟩
      · unfold signs
        rw [List.map_map, List.map_map]
        rfl
      · rw [List.all_map]
        exact h
  | _ =>
    simp only [D.isStr]
    exact h
theorem r_has_word_form : ∀ es Ψ Φ, sp_has_word_form es Ψ Φ → es.length = (["value"] : List Str).length ∧ n_has_word_form sp_are_letters (es ++ List.replicate (N_has_word_form.length - es.length) .un) { nx := fun _ => Ψ (.fz .none), rt := Ψ, ex := fun c p _ => Φ c p } := by
  rintro es Ψ Φ ⟨d, rfl, hz, h⟩
  refine ⟨rfl, ?_⟩
  show n_has_word_form sp_are_letters [.fz d] _
  unfold n_has_word_form
  simp only [sRet, dAnd, dCall, aCons, aNil, dVar, atS]
  refine ⟨d, rfl, hz, ?_⟩
  refine ite_b (fun e => ?_) (fun e => ?_)
  · cases d with
    | str s =>
      have e2 : s.cps.toList.all letterC = true := e
      have h2 : Ψ (.fz (.bool (s.cps.toList.all letterC && !(s == "")))) := h
      rw [e2, Bool.true_and] at h2
      exact .inr ⟨s, "", rfl, rfl, h2⟩
    | _ => cases e
  · cases d with
    | str s =>
      have e2 : s.cps.toList.all letterC = false := e
      have h2 : Ψ (.fz (.bool (s.cps.toList.all letterC && !(s == "")))) := h
      rw [e2, Bool.false_and] at h2
      exact h2
    | _ => exact h
end TM
namespace TM
open L2 PySem.Spec PySem PyProof.Rows
theorem r_is_integer : ∀ es Ψ Φ, sp_is_integer es Ψ Φ → es.length = (["value", "low", "high"] : List Str).length ∧ n_is_integer (es ++ List.replicate (N_is_integer.length - es.length) .un) { nx := fun _ => Ψ (.fz .none), rt := Ψ, ex := fun c p _ => Φ c p } := by
  rintro es Ψ Φ ⟨v, lo, hi, rfl, h1, h2, h⟩
  refine ⟨rfl, ?_⟩
  show n_is_integer [.fz (.int v), .fz (.int lo), .fz (.int hi)] _
  simp only [n_is_integer, sSeq, sIf, dOrT, dNotT, dTst, dIsi, dVar, atS, isT_int, isT_bool, D.isInt, D.isBool, Bool.not_true, Bool.false_eq_true, if_false, sNil, sRet, dAnd, dOp2, gLe, gOrd, dOr, dIsN, dOp1, gIsN, D.isNone]
  refine ite_b (fun _ => ite_b (fun e => absurd (show (false != false) = true from e) (by decide)) fun _ => ?_) fun e => absurd h1 (of_decide_eq_false e)
  have e2 : decide (v ≤ hi) = true := decide_eq_true h2
  show Ψ (.fz (.bool (decide (v ≤ hi))))
  rw [e2]
  exact h
theorem r_is_limit : ∀ es Ψ Φ, sp_is_limit es Ψ Φ → es.length = (["value"] : List Str).length ∧ n_is_limit sp_is_integer (es ++ List.replicate (N_is_limit.length - es.length) .un) { nx := fun _ => Ψ (.fz .none), rt := Ψ, ex := fun c p _ => Φ c p } := by
  rintro es Ψ Φ ⟨v, rfl, h1, h2, h⟩
  exact ⟨rfl, v, 1, 20, rfl, h1, h2, h⟩
theorem r_are_different_words : ∀ es Ψ Φ, sp_are_different_words es Ψ Φ → es.length = (["value"] : List Str).length ∧ n_are_different_words sp_has_word_form (es ++ List.replicate (N_are_different_words.length - es.length) .un) { nx := fun _ => Ψ (.fz .none), rt := Ψ, ex := fun c p _ => Φ c p } := by
  rintro es Ψ Φ ⟨ws, rfl, hb, h⟩
  refine ⟨rfl, ?_⟩
  show n_are_different_words sp_has_word_form [.fz (bk ws), .un] _
  simp only [n_are_different_words, sRet, dAnd, dIsi, dVar, atS, isT_list, D.isList, if_true, dCB, aCons, aNil, dFz, oLc, iL]
  refine lc_map (fun d => [.fz (bk ws), .fz d]) (fun d => .bool (wordD d)) (ws.map .str) [] (fun d _ => rfl) (fun d hd Ψ h => ?_) (fun d _ => rfl) (by simpa using few_line hb.few) ?_
  · obtain ⟨w, hw, rfl⟩ := List.mem_map.mp hd
    simp only [dCall, aCons, aNil, dVar, atS]
    refine ⟨_, rfl, ?_, h⟩
    show w.length ≤ sizeLine
    rw [sizeLine_eq]
    have := (hb.word w hw).2.2
    omega
  · simp only [List.nil_append, dataOf, Option.map_some, gAll]
    refine ⟨ws.map fun w => wordD (.str w), by rw [List.map_map, List.map_map]; rfl, ?_⟩
    have all : (ws.map fun w => wordD (.str w)).all id = true := by
      rw [List.all_map, List.all_eq_true]
      intro w hw
      obtain ⟨h1, h2, h3⟩ := hb.word w hw
      show (w.cps.toList.all letterC && !(w == "")) = true
      rw [all_letters h1, Bool.true_and]
      have : (w == "") = false := by
        rw [beq_eq_false_iff_ne]
        rintro rfl
        exact absurd h2 (by decide)
      rw [this]
      rfl
    rw [all]
    simp only [if_true, dOp2, dLenSet, dVar, atS]
    refine ⟨ws, rfl, hb.few, ?_⟩
    simp only [dCB, aCons, aNil, dVar, atS, dataOf, Option.map_some, gLen]
    rw [dcF_nodup ws hb.nd _ (Nat.le_refl _), List.length_map]
    refine .inl ⟨shaped_int _, shaped_int _, ?_⟩
    rw [show PyData.eqv (.int ((ws.length : Nat) : Int)) (.int ((ws.length : Nat) : Int)) = true by simp [PyData.eqv]]
    exact h
end TM
namespace TM
open L2 PySem.Spec PySem PyProof.Rows
theorem r_is_shown_list : ∀ es Ψ Φ, sp_is_shown_list es Ψ Φ → es.length = (["beginning", "limit", "value"] : List Str).length ∧ n_is_shown_list sp_are_different_words (es ++ List.replicate (N_is_shown_list.length - es.length) .un) { nx := fun _ => Ψ (.fz .none), rt := Ψ, ex := fun c p _ => Φ c p } := by
  rintro es Ψ Φ ⟨s, rfl, hs, h⟩
  refine ⟨rfl, ?_⟩
  show n_is_shown_list sp_are_different_words [.fz (.str s.b), .fz (.int (s.n : Nat)), .fz (bk s.sh), .un] _
  simp only [n_is_shown_list, sSeq, sIf, dOrT, dNotT, dTst, dCall, aCons, aNil, dVar, atS]
  refine ⟨s.sh, rfl, hs.sh, ?_⟩
  simp only [Bool.not_true, Bool.false_eq_true, if_false, dOp2, dCB, aCons, aNil, dVar, atS, dataOf, Option.map_some, gLen, gGt, gOrd]
  refine ite_b (fun e => ?_) (fun _ => ?_)
  · have e2 := of_decide_eq_true e
    rw [List.length_map] at e2
    have := hs.few
    omega
  · simp only [sNil, sRet, dCB, aCons, dFz, oLc, iL, dVar, atS]
    refine lc_map (fun d => [.fz (.str s.b), .fz (.int (s.n : Nat)), .fz (bk s.sh), .fz d]) (fun d => .bool (swD s.b d)) _ [] (fun d _ => rfl) (fun d hd Ψ hΨ => ?_) (fun d _ => rfl) (by simpa using few_line hs.sh.few) ?_
    · obtain ⟨w, hw, rfl⟩ := List.mem_map.mp hd
      exact hΨ
    · simp only [List.nil_append, aNil, dataOf, Option.map_some, gAll]
      refine ⟨s.sh.map fun w => Txt.startswith w s.b, by rw [List.map_map, List.map_map]; rfl, ?_⟩
      rw [show (s.sh.map fun w => Txt.startswith w s.b).all id = true by
        rw [List.all_map, List.all_eq_true]
        exact fun w hw => hs.sw w hw]
      exact h
theorem r_has_screen_form : ∀ es Ψ Φ, sp_has_screen_form es Ψ Φ → es.length = (["value"] : List Str).length ∧ n_has_screen_form sp_are_letters sp_is_limit sp_is_shown_list (es ++ List.replicate (N_has_screen_form.length - es.length) .un) { nx := fun _ => Ψ (.fz .none), rt := Ψ, ex := fun c p _ => Φ c p } := by
  rintro es Ψ Φ ⟨s, rfl, hs, h⟩
  refine ⟨rfl, ?_⟩
  show n_has_screen_form sp_are_letters sp_is_limit sp_is_shown_list [.fz s.d, .un, .un, .un] _
  simp only [n_has_screen_form, sSeq, sIf, dOrT, dNotT, dTst, dIsi, dVar, atS, isT_tuple, D.isTup, Bool.not_true, Bool.false_eq_true, if_false, dOp2, dCB, aCons, aNil, dataOf, Option.map_some, gLen, dC]
  refine .inl ⟨shaped_int _, shaped_int _, ?_⟩
  rw [show PyData.eqv (.int ((([.str s.b, .int (s.n : Nat), bk s.sh] : List D).length : Nat) : Int)) (.int 3) = true by simp [PyData.eqv]]
  simp only [Bool.not_true, Bool.false_eq_true, if_false, sNil, sUnp, dVar, atS, Tg.bind, setAll, List.set, sIf, dOrT, dNotT, dTst, dCall, aCons, aNil]
  refine ⟨_, rfl, ?_, ?_⟩
  · show s.b.length ≤ sizeLine
    rw [sizeLine_eq]
    have := hs.bz
    omega
  · rw [show lettersD (.str s.b) = true from all_letters hs.lb]
    simp only [Bool.not_true, Bool.false_eq_true, if_false]
    refine ⟨_, rfl, by have := hs.n1; omega, by have := hs.n2; omega, ?_⟩
    simp only [Bool.not_true, Bool.false_eq_true, if_false, sRet, dCall, aCons, aNil, dVar, atS]
    exact ⟨s, rfl, hs, h⟩
theorem r_has_screens_form : ∀ es Ψ Φ, sp_has_screens_form es Ψ Φ → es.length = (["value"] : List Str).length ∧ n_has_screens_form sp_has_screen_form (es ++ List.replicate (N_has_screens_form.length - es.length) .un) { nx := fun _ => Ψ (.fz .none), rt := Ψ, ex := fun c p _ => Φ c p } := by
  rintro es Ψ Φ ⟨l, rfl, hl, hs, h⟩
  refine ⟨rfl, ?_⟩
  show n_has_screens_form sp_has_screen_form [.fz (scs l), .un] _
  simp only [n_has_screens_form, sSeq, sIf, dOrT, dNotT, dTst, dIsi, dVar, atS, isT_list, D.isList, Bool.not_true, Bool.false_eq_true, if_false, dOp2, dCB, aCons, aNil, dataOf, Option.map_some, gLen, dC, gGt, gOrd]
  refine ite_b (fun e => ?_) (fun _ => ?_)
  · have e2 := of_decide_eq_true e
    rw [List.length_map] at e2
    omega
  · simp only [sNil, sRet, dCB, aCons, dFz, oLc, iL, dVar, atS]
    refine lc_map (fun d => [.fz (scs l), .fz d]) (fun _ => .bool true) _ [] (fun d _ => rfl) (fun d hd Ψ hΨ => ?_) (fun d _ => rfl) (by rw [List.length_map, sizeLine_eq]; simp; omega) ?_
    · obtain ⟨s, hs2, rfl⟩ := List.mem_map.mp hd
      simp only [dCall, aCons, aNil, dVar, atS]
      exact ⟨s, rfl, hs s hs2, hΨ⟩
    · simp only [List.nil_append, aNil, dataOf, Option.map_some, gAll]
      refine ⟨l.map fun _ => true, by rw [List.map_map, List.map_map]; rfl, ?_⟩
      rw [show (l.map fun _ => true).all id = true by
        rw [List.all_map, List.all_eq_true]
        intro _ _
        rfl]
      exact h
theorem r_require_screens : ∀ es Ψ Φ, sp_require_screens es Ψ Φ → es.length = (["value"] : List Str).length ∧ n_require_screens sp_has_screens_form (es ++ List.replicate (N_require_screens.length - es.length) .un) { nx := fun _ => Ψ (.fz .none), rt := Ψ, ex := fun c p _ => Φ c p } := by
  rintro es Ψ Φ ⟨l, rfl, hl, hs, h⟩
  refine ⟨rfl, ?_⟩
  show n_require_screens sp_has_screens_form [.fz (scs l)] _
  simp only [n_require_screens, sIf, dNotT, dTst, dCall, aCons, aNil, dVar, atS]
  refine ⟨l, rfl, hl, hs, ?_⟩
  simpa only [Bool.not_true, Bool.false_eq_true, if_false, sNil] using h
end TM
set_option pp.deepTerms.threshold 5
namespace TM
open L2 PySem.Spec PySem PyProof.Rows
def sp_is_short : DSp := fun es Ψ _ => ∃ s : Scr, es = [.fz s.d] ∧ Ψ (.fz (.bool (short s)))
def sp_words_before : DSp := fun es Ψ _ => ∃ (s : Scr) (m : Str), es = [.fz s.d, .fz (.str m)] ∧ ScrOk s ∧ asc m ∧ Ψ (.fz (bk (if Txt.startswith m s.b then befo s.sh m else [])))
def sp_puts_before : DSp := fun es Ψ _ => ∃ (s : Scr) (w m : Str), es = [.fz s.d, .fz (.str w), .fz (.str m)] ∧ ScrOk s ∧ asc w ∧ asc m ∧ Ψ (.fz (.bool (puts s w m)))
def sp_misses : DSp := fun es Ψ _ => ∃ (s : Scr) (w : Str), es = [.fz s.d, .fz (.str w)] ∧ ScrOk s ∧ asc w ∧ Ψ (.fz (.bool (missW s w)))
def prD : Option (Str × Str) → D
  | some (w, m) => .tuple [.str w, .str m]
  | none => .none
def clD : Option Cl → D
  | some c => c.d
  | none => .none
def sp_order_clash : DSp := fun es Ψ _ => ∃ s t : Scr, es = [.fz s.d, .fz t.d] ∧ ScrOk s ∧ ScrOk t ∧ Ψ (.fz (prD (ordC s t)))
def sp_clash_of_two : DSp := fun es Ψ _ => ∃ (l : List Scr) (i j : Nat) (s t : Scr), es = [.fz (scs l), .fz (.int (i : Nat)), .fz (.int (j : Nat))] ∧ l[i]? = some s ∧ l[j]? = some t ∧ ScrOk s ∧ ScrOk t ∧ Ψ (.fz (clD (two s t i j)))
/-- None exactly if there is no clash, else one that is true -/
def ClP (l : List Scr) (Ψ : Ent → Prop) : Prop := (¬ Torn l → Ψ (.fz .none)) ∧ ∀ c : Cl, Torn l → c.true l → Ψ (.fz c.d)
def sp_clash_of : DSp := fun es Ψ _ => ∃ l : List Scr, es = [.fz (scs l)] ∧ l.length ≤ 20 ∧ (∀ s ∈ l, ScrOk s) ∧ ClP l Ψ
def sp_find_clash : DSp := fun es Ψ _ => ∃ l : List Scr, es = [.fz (scs l)] ∧ l.length ≤ 20 ∧ (∀ s ∈ l, ScrOk s) ∧ ClP l Ψ
theorem r_is_short : ∀ es Ψ Φ, sp_is_short es Ψ Φ → es.length = (["screen"] : List Str).length ∧ n_is_short (es ++ List.replicate (N_is_short.length - es.length) .un) { nx := fun _ => Ψ (.fz .none), rt := Ψ, ex := fun c p _ => Φ c p } := by
  rintro es Ψ Φ ⟨s, rfl, h⟩
  refine ⟨rfl, ?_⟩
  show n_is_short [.fz s.d] _
  have g2 : atI [(.str s.b : D), .int ((s.n : Nat) : Int), bk s.sh] 2 = some (bk s.sh) := atI_nat rfl
  have g1 : atI [(.str s.b : D), .int ((s.n : Nat) : Int), bk s.sh] 1 = some (.int ((s.n : Nat) : Int)) := atI_nat rfl
  simp only [n_is_short, sRet, dOp2, dCB, aCons, aNil, dVar, atS, dC, gGet, g2, g1, dataOf, Option.map_some, gLen, gLt, gOrd, List.length_map]
  rw [show decide ((s.sh.length : Int) < (s.n : Nat)) = short s from decide_eq_decide.mpr (by omega)]
  exact h
theorem shaped_w {w : Str} (h : asc w) : SeqAt.shaped (.str w) = true := shaped_flat (strOk_asc h) rfl
theorem ScrOk.shp {s : Scr} (h : ScrOk s) : SeqAt.shaped (bk s.sh) = true := shaped_book fun w hw => (h.sh.word w hw).1
theorem ScrOk.asc {s : Scr} (h : ScrOk s) : ∀ w ∈ s.sh, TM.asc w := fun w hw => lets_asc (h.sh.word w hw).1
theorem befo_take {l : List Str} {m : Str} {j : Nat} (h : l[j]? = some m) (no : ∀ i < j, l[i]? ≠ some m) : befo l m = l.take j := by
  induction l generalizing j with
  | nil => cases h
  | cons a l ih =>
    unfold befo
    rw [List.takeWhile_cons]
    cases j with
    | zero =>
      have : a = m := by simpa using h
      rw [if_neg (by simpa using this)]
      rfl
    | succ j =>
      have ne : a ≠ m := fun z => no 0 (Nat.succ_pos _) (by rw [z]; rfl)
      rw [if_pos (by simpa using ne), List.take_succ_cons]
      congr 1
      exact ih (by simpa using h) fun i hi => by simpa using no (i + 1) (by omega)
theorem befo_all {m : Str} : ∀ {l : List Str}, m ∉ l → befo l m = l
  | [], _ => rfl
  | a :: l, h => by
    have ne : a ≠ m := fun z => h (by rw [z]; exact List.mem_cons_self)
    unfold befo
    rw [List.takeWhile_cons, if_pos (by simpa using ne)]
    congr 1
    exact befo_all fun z => h (List.mem_cons_of_mem _ z)
theorem eqv_str (a b : Str) : PyData.eqv (.str a) (.str b) = (a == b) := by simp [PyData.eqv]
/-- where a word stands first -/
theorem ix_of {l : List Str} {m : Str} (sh : SeqAt.shaped (bk l) = true) (hm : asc m) (h : m ∈ l) {κ : D → Prop} (k : ∀ j, l[j]? = some m → (∀ i < j, l[i]? ≠ some m) → κ (.int ((j : Nat) : Int))) : gIx (l.map PyData.str) (.str m) κ := by
  have hi : l.idxOf m < l.length := List.idxOf_lt_length_iff.mpr h
  have e1 : l[l.idxOf m]? = some m := by
    rw [List.getElem?_eq_getElem hi, List.getElem_idxOf]
  have no : ∀ i < l.idxOf m, l[i]? ≠ some m := by
    intro i hlt z
    obtain ⟨h2, e⟩ := List.getElem?_eq_some_iff.mp z
    have := List.not_of_lt_findIdx (p := fun x => x == m) (xs := l) (i := i) hlt
    rw [e] at this
    simp at this
  refine ⟨sh, shaped_w hm, l.idxOf m, .str m, by rw [List.getElem?_map, e1]; rfl, by rw [eqv_str]; exact beq_self_eq_true _, fun i z hlt hz => ?_, k _ e1 no⟩
  rw [List.getElem?_map] at hz
  cases e : l[i]? with
  | none =>
    rw [e] at hz
    cases hz
  | some x =>
    rw [e] at hz
    cases hz
    rw [eqv_str]
    exact beq_eq_false_iff_ne.mpr fun q => no i hlt (by rw [e, q])
theorem r_misses : ∀ es Ψ Φ, sp_misses es Ψ Φ → es.length = (["screen", "word"] : List Str).length ∧ n_misses sp_is_short (es ++ List.replicate (N_misses.length - es.length) .un) { nx := fun _ => Ψ (.fz .none), rt := Ψ, ex := fun c p _ => Φ c p } := by
  rintro es Ψ Φ ⟨s, w, rfl, hs, hw, h⟩
  refine ⟨rfl, ?_⟩
  show n_misses sp_is_short [.fz s.d, .fz (.str w)] _
  have g2 : atI [(.str s.b : D), .int ((s.n : Nat) : Int), bk s.sh] 2 = some (bk s.sh) := atI_nat rfl
  have g0 : atI [(.str s.b : D), .int ((s.n : Nat) : Int), bk s.sh] 0 = some (.str s.b) := atI_nat rfl
  simp only [n_misses, sRet, dAnd, dCall, aCons, aNil, dVar, atS]
  refine ⟨s, rfl, ?_⟩
  unfold missW at h
  refine ite_b (fun e => ?_) (fun e => ?_)
  · rw [e, Bool.true_and] at h
    simp only [dMS, dOp2, dVar, atS, dC, gGet, g0, g2, gSw]
    refine ite_b (fun e2 => ?_) (fun e2 => ?_)
    · rw [e2, Bool.true_and] at h
      simp only [gIn]
      refine ⟨shaped_w hw, hs.shp, ?_⟩
      rw [any_str, Bool.true_bne]
      exact h
    · rw [e2, Bool.false_and] at h
      exact h
  · rw [e, Bool.false_and] at h
    exact h
/-- both rows, side by side -/
theorem zip_strs : ∀ a b : List Str, zipD (a.map PyData.str) (b.map PyData.str) = (a.zip b).map fun p => PyData.tuple [.str p.1, .str p.2]
  | [], _ => rfl
  | _ :: _, [] => rfl
  | x :: a, y :: b => by
    show PyData.tuple [.str x, .str y] :: zipD (a.map PyData.str) (b.map PyData.str) = _
    rw [zip_strs a b]
    rfl
theorem r_order_clash : ∀ es Ψ Φ, sp_order_clash es Ψ Φ → es.length = (["one", "other"] : List Str).length ∧ n_order_clash (es ++ List.replicate (N_order_clash.length - es.length) .un) { nx := fun _ => Ψ (.fz .none), rt := Ψ, ex := fun c p _ => Φ c p } := by
  rintro es Ψ Φ ⟨s, t, rfl, hs, ht, h⟩
  refine ⟨rfl, ?_⟩
  show n_order_clash [.fz s.d, .fz t.d, .un, .un, .un, .un] _
  have gs2 : atI [(.str s.b : D), .int ((s.n : Nat) : Int), bk s.sh] 2 = some (bk s.sh) := atI_nat rfl
  have gs0 : atI [(.str s.b : D), .int ((s.n : Nat) : Int), bk s.sh] 0 = some (.str s.b) := atI_nat rfl
  have gt2 : atI [(.str t.b : D), .int ((t.n : Nat) : Int), bk t.sh] 2 = some (bk t.sh) := atI_nat rfl
  have gt0 : atI [(.str t.b : D), .int ((t.n : Nat) : Int), bk t.sh] 0 = some (.str t.b) := atI_nat rfl
  simp only [n_order_clash, sSeq, sSet, dFz, oLc, iL, dOp2, dVar, atS, dC, gGet, gs2, gt2]
  refine lc_pure (fun d => [.fz s.d, .fz t.d, .un, .un, .fz d, .un]) id (swD t.b) (s.sh.map .str) [] (fun d _ => rfl) (fun d hd Ψ hΨ => ?_) (fun d hd e Ψ h => h) (fun d _ => rfl) (by simpa using few_line hs.sh.few) ?_
  · obtain ⟨w, hw, rfl⟩ := List.mem_map.mp hd
    simp only [dTst, dMS, dOp2, dVar, atS, dC, gGet, gt0, gSw]
    exact hΨ
  rw [List.nil_append, List.map_id, filter_sw]
  change lcR _ _ _ _ (t.sh.map .str) [] [.fz s.d, .fz t.d, .fz (bk (rowOf s t)), .un, .un, .un] _
  refine lc_pure (fun d => [.fz s.d, .fz t.d, .fz (bk (rowOf s t)), .un, .fz d, .un]) id (swD s.b) (t.sh.map .str) [] (fun d _ => rfl) (fun d hd Ψ hΨ => ?_) (fun d hd e Ψ h => h) (fun d _ => rfl) (by simpa using few_line ht.sh.few) ?_
  · obtain ⟨w, hw, rfl⟩ := List.mem_map.mp hd
    simp only [dTst, dMS, dOp2, dVar, atS, dC, gGet, gs0, gSw]
    exact hΨ
  rw [List.nil_append, List.map_id, filter_sw]
  change sFor _ _ _ [.fz s.d, .fz t.d, .fz (bk (rowOf s t)), .fz (bk (rowOf t s)), .un, .un] _
  simp only [sFor, iZ, dVar, atS, zip_strs]
  unfold ordC at h
  generalize rowOf s t = a at h ⊢
  generalize rowOf t s = b at h ⊢
  have go : ∀ (a2 b2 : List Str) (x4 x5 : Ent), Ψ (.fz (prD (mism a2 b2))) → forR (.tp [4, 5]) n_order_clash_b1 ((a2.zip b2).map fun p => PyData.tuple [.str p.1, .str p.2]) [.fz s.d, .fz t.d, .fz (bk a), .fz (bk b), x4, x5] { nx := fun ρ => sRet (dC .none) ρ { nx := fun _ => Ψ (.fz .none), rt := Ψ, ex := fun c p _ => Φ c p }, rt := Ψ, ex := fun c p _ => Φ c p } := by
    intro a2
    induction a2 with
    | nil =>
      intro b2 x4 x5 h
      exact h
    | cons x a2 ih =>
      intro b2 x4 x5 h
      cases b2 with
      | nil => exact h
      | cons y b2 =>
        show n_order_clash_b1 [.fz s.d, .fz t.d, .fz (bk a), .fz (bk b), .fz (.str x), .fz (.str y)] _
        simp only [n_order_clash_b1, sIf, dTst, dOp2, dVar, atS]
        refine .inr ⟨x, y, rfl, rfl, ?_⟩
        unfold mism at h
        by_cases e : x = y
        · rw [if_pos e] at h
          rw [show (x == y) = true from beq_iff_eq.mpr e]
          simp only [Bool.not_true, Bool.false_eq_true, if_false, sNil]
          exact ih b2 _ _ h
        · rw [if_neg e] at h
          rw [show (x == y) = false from beq_eq_false_iff_ne.mpr e]
          simp only [Bool.not_false, if_true, sRet, dTup, aCons, aNil, dVar, atS, dataOf, Option.map_some]
          exact ⟨by show 2 ≤ sizeLine; decide, h⟩
  exact go a b _ _ h
theorem r_clash_of_two : ∀ es Ψ Φ, sp_clash_of_two es Ψ Φ → es.length = (["screens", "first", "second"] : List Str).length ∧ n_clash_of_two sp_misses sp_order_clash (es ++ List.replicate (N_clash_of_two.length - es.length) .un) { nx := fun _ => Ψ (.fz .none), rt := Ψ, ex := fun c p _ => Φ c p } := by
  rintro es Ψ Φ ⟨l, i, j, s, t, rfl, hi, hj, hs, ht, h⟩
  refine ⟨rfl, ?_⟩
  show n_clash_of_two sp_misses sp_order_clash [.fz (scs l), .fz (.int (i : Nat)), .fz (.int (j : Nat)), .un, .un, .un, .un, .un] _
  have ei : atI (l.map Scr.d) ((i : Nat) : Int) = some s.d := atI_nat (by rw [List.getElem?_map, hi]; rfl)
  have ej : atI (l.map Scr.d) ((j : Nat) : Int) = some t.d := atI_nat (by rw [List.getElem?_map, hj]; rfl)
  have gt2 : atI [(.str t.b : D), .int ((t.n : Nat) : Int), bk t.sh] 2 = some (bk t.sh) := atI_nat rfl
  simp only [n_clash_of_two, sSeq, sPar, aCons, aNil, dOp2, dVar, atS, gGet, ei, ej, setEs, List.set, sSet, dFz, oLc, iL, dC, gt2]
  let mp : D → Bool := fun d => match d with
    | .str w => missW s w
    | _ => false
  refine lc_pure (fun d => [.fz (scs l), .fz (.int (i : Nat)), .fz (.int (j : Nat)), .un, .un, .fz s.d, .fz t.d, .fz d]) id mp (t.sh.map .str) [] (fun d _ => rfl) (fun d hd Ψ hΨ => ?_) (fun d hd e Ψ h => h) (fun d _ => rfl) (by simpa using few_line ht.sh.few) ?_
  · obtain ⟨w, hw, rfl⟩ := List.mem_map.mp hd
    simp only [dTst, dCall, aCons, aNil, dVar, atS]
    exact ⟨s, w, rfl, hs, ht.asc w hw, hΨ⟩
  have em : (t.sh.map PyData.str).filter mp = (t.sh.filter (missW s)).map PyData.str := by
    rw [List.filter_map]
    rfl
  rw [List.nil_append, List.map_id, em]
  unfold two at h
  have shm : ∀ w ∈ t.sh.filter (missW s), lets w := fun w hw => (ht.sh.word w (List.mem_filter.mp hw).1).1
  generalize t.sh.filter (missW s) = ms at h shm ⊢
  change sIf _ _ _ [.fz (scs l), .fz (.int (i : Nat)), .fz (.int (j : Nat)), .fz (bk ms), .un, .fz s.d, .fz t.d, .un] _
  refine some_test rfl (shaped_book shm) (fun ne => ?_) (fun e0 => ?_)
  · cases ms with
    | nil => exact absurd rfl ne
    | cons w r =>
      have g0 : atI ((w :: r).map PyData.str) 0 = some (.str w) := atI_nat rfl
      simp only [sRet, dTup, aCons, aNil, dC, dVar, atS, dOp2, gGet, g0, dataOf, Option.map_some]
      exact ⟨by show 4 ≤ sizeLine; decide, h⟩
  · have e0 : ms = [] := List.map_eq_nil_iff.mp e0
    subst e0
    simp only [sNil, dCall, aCons, aNil, dVar, atS]
    refine ⟨s, t, rfl, hs, ht, ?_⟩
    simp only [List.set]
    cases eo : ordC s t with
    | none =>
      rw [eo] at h
      simp only [prD, sRet, dIf, dTst, dIsN, dOp1, dVar, atS, gIsN]
      exact h
    | some p =>
      obtain ⟨w, m⟩ := p
      rw [eo] at h
      have q0 : atI [(.str w : D), .str m] 0 = some (.str w) := atI_nat rfl
      have q1 : atI [(.str w : D), .str m] 1 = some (.str m) := atI_nat rfl
      simp only [prD, sRet, dIf, dTst, dIsN, dOp1, dVar, atS, gIsN]
      rw [if_pos (show (true != D.isNone (.tuple [.str w, .str m])) = true from rfl)]
      simp only [dTup, aCons, aNil, dC, dVar, atS, dOp2, gGet, q0, q1, dataOf, Option.map_some]
      exact ⟨by show 5 ≤ sizeLine; decide, h⟩
end TM
set_option pp.deepTerms.threshold 5
namespace TM
open L2 PySem.Spec PySem PyProof.Rows
theorem clD_some {c : Cl} : ∃ ds, c.d = .tuple ds := by
  cases c with
  | miss i j w => exact ⟨_, rfl⟩
  | ord i j w m => exact ⟨_, rfl⟩
/-- a walk over the numbers of a list -/
theorem r_clash_of : ∀ es Ψ Φ, sp_clash_of es Ψ Φ → es.length = (["screens"] : List Str).length ∧ n_clash_of sp_clash_of_two (es ++ List.replicate (N_clash_of.length - es.length) .un) { nx := fun _ => Ψ (.fz .none), rt := Ψ, ex := fun c p _ => Φ c p } := by
  rintro es Ψ Φ ⟨l, rfl, hl, hs, h0, h1⟩
  refine ⟨rfl, ?_⟩
  show n_clash_of sp_clash_of_two [.fz (scs l), .un, .un, .un] _
  simp only [n_clash_of, sSeq, sFor, iR1, dCB, aCons, aNil, dVar, atS, dataOf, Option.map_some, gLen, List.length_map]
  refine ⟨by omega, by omega, ?_⟩
  refine for_inv (fun k ρ => ∃ x1 x2 x3, ρ = [.fz (scs l), x1, x2, x3] ∧ ∀ i s, i < k → l[i]? = some s → ∀ t ∈ l, ∀ i j, two s t i j = none) ⟨_, _, _, rfl, fun _ _ h => absurd h (Nat.not_lt_zero _)⟩ ?_ ?_
  · rintro k d ρ hd ⟨x1, x2, x3, rfl, hk⟩
    obtain ⟨rfl, hlt⟩ := rangeD_get hd
    have hlt : k < l.length := by omega
    refine ⟨_, rfl, fun N hN => ?_⟩
    rw [Int.zero_add]
    change n_clash_of_b2 sp_clash_of_two [.fz (scs l), .fz (.int ((k : Nat) : Int)), x2, x3] _
    simp only [n_clash_of_b2, sFor, iR1, dCB, aCons, aNil, dVar, atS, dataOf, Option.map_some, gLen, List.length_map]
    refine ⟨by omega, by omega, ?_⟩
    have es := List.getElem?_eq_getElem hlt
    refine for_inv (fun j ρ => ∃ x2 x3, ρ = [.fz (scs l), .fz (.int ((k : Nat) : Int)), x2, x3] ∧ ∀ j2 t, j2 < j → l[j2]? = some t → ∀ i j, two l[k] t i j = none) ⟨_, _, rfl, fun _ _ h => absurd h (Nat.not_lt_zero _)⟩ ?_ ?_
    · rintro j d ρ hd ⟨x2, x3, rfl, hj⟩
      obtain ⟨rfl, hlt2⟩ := rangeD_get hd
      have hlt2 : j < l.length := by omega
      refine ⟨_, rfl, fun N2 hN2 => ?_⟩
      rw [Int.zero_add]
      change n_clash_of_b1 sp_clash_of_two [.fz (scs l), .fz (.int ((k : Nat) : Int)), .fz (.int ((j : Nat) : Int)), x3] _
      have et := List.getElem?_eq_getElem hlt2
      have ks : ScrOk l[k] := hs _ (List.getElem_mem hlt)
      have kt : ScrOk l[j] := hs _ (List.getElem_mem hlt2)
      simp only [n_clash_of_b1, sSeq, sSet, dCall, aCons, aNil, dVar, atS]
      refine ⟨l, k, j, _, _, rfl, es, et, ks, kt, ?_⟩
      simp only [List.set]
      cases e : two l[k] l[j] k j with
      | none =>
        refine notN_test (d := .none) rfl (fun z => absurd rfl z) (fun _ => ?_)
        refine hN2 _ ⟨_, _, rfl, fun j2 t hlt3 ht i j' => ?_⟩
        rcases Nat.lt_succ_iff_lt_or_eq.mp hlt3 with hlt3 | rfl
        · exact hj j2 t hlt3 ht i j'
        · rw [et] at ht
          cases ht
          unfold two at e ⊢
          cases ef : l[j2].sh.filter (missW l[k]) with
          | cons w r =>
            rw [ef] at e
            cases e
          | nil =>
            rw [ef] at e
            cases eo : ordC l[k] l[j2] with
            | none => rfl
            | some p =>
              rw [eo] at e
              cases e
      | some c =>
        obtain ⟨ds, ed⟩ := clD_some (c := c)
        have tr := two_true es et ks kt e
        have torn : Torn l := (torn_iff hs).mpr ⟨l[k], List.getElem_mem hlt, l[j], List.getElem_mem hlt2, fun i' j' z => ?_⟩
        · have k1 := h1 c torn tr
          rw [ed] at k1
          rw [show clD (some c) = .tuple ds from ed]
          exact notN_test (d := .tuple ds) rfl (fun _ => k1) (fun z => nomatch z)
        · unfold two at e z
          cases ef : l[j].sh.filter (missW l[k]) with
          | cons w r =>
            rw [ef] at z
            cases z
          | nil =>
            rw [ef] at e z
            cases eo : ordC l[k] l[j] with
            | none =>
              rw [eo] at e
              cases e
            | some p =>
              rw [eo] at z
              cases z
    · rintro ρ ⟨x2, x3, rfl, hj⟩
      rw [rangeD_len] at hj
      refine hN _ ⟨_, _, _, rfl, fun i s hlt3 hi t ht => ?_⟩
      rcases Nat.lt_succ_iff_lt_or_eq.mp hlt3 with hlt3 | rfl
      · exact hk i s hlt3 hi t ht
      · rw [es] at hi
        cases hi
        obtain ⟨j2, ej⟩ := List.getElem?_of_mem ht
        have := (List.getElem?_eq_some_iff.mp ej).1
        exact hj j2 t (by omega) ej
  · rintro ρ ⟨x1, x2, x3, rfl, hk⟩
    rw [rangeD_len] at hk
    refine h0 fun tn => ?_
    obtain ⟨s, ms, t, mt, hn⟩ := (torn_iff hs).mp tn
    obtain ⟨i, ei⟩ := List.getElem?_of_mem ms
    have := (List.getElem?_eq_some_iff.mp ei).1
    exact hn 0 0 (hk i s (by omega) ei t mt 0 0)
end TM
set_option pp.deepTerms.threshold 6
namespace TM
open L2 PySem.Spec PySem PyProof.Rows
theorem flat_strsK (A : List Str) : (A.map PyData.str).all flatD = true := by
  rw [List.all_map, List.all_eq_true]
  intro _ _
  rfl
theorem r_require_no_clash : ∀ es Ψ Φ, sp_require_no_clash es Ψ Φ → es.length = (["screens"] : List Str).length ∧ n_require_no_clash sp_require_screens sp_clash_of (es ++ List.replicate (N_require_no_clash.length - es.length) .un) { nx := fun _ => Ψ (.fz .none), rt := Ψ, ex := fun c p _ => Φ c p } := by
  rintro es Ψ Φ ⟨l, rfl, hl, hs, nt, h⟩
  refine ⟨rfl, ?_⟩
  show n_require_no_clash sp_require_screens sp_clash_of [.fz (scs l), .un] _
  simp only [n_require_no_clash, sSeq, sExp, dCall, aCons, aNil, dVar, atS]
  refine ⟨l, rfl, hl, hs, ?_⟩
  simp only [sSet, dCall, aCons, aNil, dVar, atS]
  refine ⟨l, rfl, hl, hs, fun _ => ?_, fun c z => absurd z nt⟩
  refine notN_test rfl (fun z => absurd rfl z) (fun _ => ?_)
  exact h
end TM
set_option pp.deepTerms.threshold 6
namespace TM
open L2 PySem.Spec PySem PyProof.Rows
theorem r_require_beginning : ∀ es Ψ Φ, sp_require_beginning es Ψ Φ → es.length = (["value"] : List Str).length ∧ n_require_beginning sp_are_letters (es ++ List.replicate (N_require_beginning.length - es.length) .un) { nx := fun _ => Ψ (.fz .none), rt := Ψ, ex := fun c p _ => Φ c p } := by
  rintro es Ψ Φ ⟨b, rfl, hb, hz, h⟩
  refine ⟨rfl, ?_⟩
  show n_require_beginning sp_are_letters [.fz (.str b)] _
  simp only [n_require_beginning, sIf, dNotT, dTst, dCall, aCons, aNil, dVar, atS]
  refine ⟨_, rfl, hz, ?_⟩
  rw [show lettersD (.str b) = true from all_letters hb]
  simpa only [Bool.not_true, Bool.false_eq_true, if_false, sNil] using h
theorem r_require_limit : ∀ es Ψ Φ, sp_require_limit es Ψ Φ → es.length = (["value"] : List Str).length ∧ n_require_limit sp_is_limit (es ++ List.replicate (N_require_limit.length - es.length) .un) { nx := fun _ => Ψ (.fz .none), rt := Ψ, ex := fun c p _ => Φ c p } := by
  rintro es Ψ Φ ⟨v, rfl, h1, h2, h⟩
  refine ⟨rfl, ?_⟩
  show n_require_limit sp_is_limit [.fz (.int v)] _
  simp only [n_require_limit, sIf, dNotT, dTst, dCall, aCons, aNil, dVar, atS]
  refine ⟨v, rfl, h1, h2, ?_⟩
  simpa only [Bool.not_true, Bool.false_eq_true, if_false, sNil] using h
theorem r_matching : ∀ es Ψ Φ, sp_matching es Ψ Φ → es.length = (["words", "beginning"] : List Str).length ∧ n_matching (es ++ List.replicate (N_matching.length - es.length) .un) { nx := fun _ => Ψ (.fz .none), rt := Ψ, ex := fun c p _ => Φ c p } := by
  rintro es Ψ Φ ⟨ws, b, rfl, hz, h⟩
  refine ⟨rfl, ?_⟩
  show n_matching [.fz (bk ws), .fz (.str b), .un] _
  simp only [n_matching, sRetO, oLc, iL, dVar, atS]
  refine lc_pure (fun d => [.fz (bk ws), .fz (.str b), .fz d]) id (swD b) (ws.map .str) [] (fun d _ => rfl) (fun d hd Ψ h => ?_) (fun d hd e Ψ h => h) (fun d _ => rfl) (by simpa using hz) ?_
  · obtain ⟨w, hw, rfl⟩ := List.mem_map.mp hd
    exact h
  · rw [List.nil_append, List.map_id, filter_sw]
    exact h
theorem r_answer_in : ∀ es Ψ Φ, sp_answer_in es Ψ Φ → es.length = (["dictionary", "beginning", "limit"] : List Str).length ∧ n_answer_in sp_matching (es ++ List.replicate (N_answer_in.length - es.length) .un) { nx := fun _ => Ψ (.fz .none), rt := Ψ, ex := fun c p _ => Φ c p } := by
  rintro es Ψ Φ ⟨ws, b, n, rfl, hz, h⟩
  refine ⟨rfl, ?_⟩
  show n_answer_in sp_matching [.fz (bk ws), .fz (.str b), .fz (.int (n : Nat))] _
  simp only [n_answer_in, sRetO, oSl, dCall, aCons, aNil, dVar, atS, pNone, pSome]
  refine ⟨ws, b, rfl, hz, ?_⟩
  simp only [cutD_take, ← List.map_take]
  exact h
theorem r_require_question : ∀ es Ψ Φ, sp_require_question es Ψ Φ → es.length = (["screens", "beginning", "limit"] : List Str).length ∧ n_require_question sp_require_no_clash sp_require_beginning sp_require_limit (es ++ List.replicate (N_require_question.length - es.length) .un) { nx := fun _ => Ψ (.fz .none), rt := Ψ, ex := fun c p _ => Φ c p } := by
  rintro es Ψ Φ ⟨l, b, n, rfl, ⟨hl, hs, nt, lb, bz, n1, n2⟩, h⟩
  refine ⟨rfl, ?_⟩
  show n_require_question sp_require_no_clash sp_require_beginning sp_require_limit (quest l b n) _
  simp only [n_require_question, sSeq, sExp, dCall, aCons, aNil, dVar, atS]
  exact ⟨l, rfl, hl, hs, nt, b, rfl, lb, by rw [sizeLine_eq]; omega, _, rfl, by omega, by omega, h⟩
theorem r_decides : ∀ es Ψ Φ, sp_decides es Ψ Φ → es.length = (["screen", "beginning", "limit"] : List Str).length ∧ n_decides sp_is_short sp_matching (es ++ List.replicate (N_decides.length - es.length) .un) { nx := fun _ => Ψ (.fz .none), rt := Ψ, ex := fun c p _ => Φ c p } := by
  rintro es Ψ Φ ⟨s, b, n, rfl, hs, bz, h⟩
  refine ⟨rfl, ?_⟩
  show n_decides sp_is_short sp_matching [.fz s.d, .fz (.str b), .fz (.int (n : Nat))] _
  have few := hs.few
  have s20 := hs.n2
  unfold dec at h
  simp only [n_decides, sSeq]
  refine (?_ : sIf _ _ _ _ _)
  simp only [sIf, dNotT, dTst, dMS, dOp2, dVar, dC, atS, gGet]
  rw [show atI [PyData.str s.b, .int (s.n : Nat), bk s.sh] 0 = some (.str s.b) from rfl]
  simp only [gSw]
  cases e : Txt.startswith b s.b with
  | false =>
    rw [e, Bool.false_and] at h
    simp only [Bool.not_false, if_true, sRet, dC]
    exact h
  | true =>
    rw [e, Bool.true_and] at h
    simp only [Bool.not_true, Bool.false_eq_true, if_false, sNil, sRet, dOr, dCall, aCons, aNil, dVar, atS]
    refine ⟨s, rfl, ?_⟩
    refine ite_b (fun e2 => ?_) (fun e2 => ?_)
    · rw [e2, Bool.true_or] at h
      exact h
    · rw [e2, Bool.false_or] at h
      simp only [dOp2, dCB, dCall, aCons, aNil, dVar, dC, atS, gGet]
      rw [show atI [PyData.str s.b, .int (s.n : Nat), bk s.sh] 2 = some (bk s.sh) from rfl]
      refine ⟨s.sh, b, rfl, by rw [sizeLine_eq]; omega, ?_⟩
      simp only [dataOf, Option.map_some, gLen, List.length_map, gGe, gOrd]
      rw [show decide (((n : Nat) : Int) ≤ (((s.sh.filter fun w => Txt.startswith w b).length : Nat) : Int)) = decide (n ≤ (s.sh.filter fun w => Txt.startswith w b).length) from decide_eq_decide.mpr (by omega)]
      exact h
theorem r_decider_in : ∀ es Ψ Φ, sp_decider_in es Ψ Φ → es.length = (["screens", "beginning", "limit"] : List Str).length ∧ n_decider_in sp_decides (es ++ List.replicate (N_decider_in.length - es.length) .un) { nx := fun _ => Ψ (.fz .none), rt := Ψ, ex := fun c p _ => Φ c p } := by
  rintro es Ψ Φ ⟨l, b, n, rfl, hl, hs, bz, h⟩
  refine ⟨rfl, ?_⟩
  show n_decider_in sp_decides [.fz (scs l), .fz (.str b), .fz (.int (n : Nat)), .un, .un] _
  simp only [n_decider_in, sSeq, sFor, iE, dVar, atS]
  rw [enum_on]
  refine for_inv (fun k ρ => (∀ (j : Nat) (s : Scr), j < k → l[j]? = some s → dec b n s = false) ∧ ∃ x3 x4 : Ent, ρ = [.fz (scs l), .fz (.str b), .fz (.int (n : Nat)), x3, x4]) ⟨fun j s z => (nomatch z), _, _, rfl⟩ ?_ ?_
  · rintro k d ρ hd ⟨no, x3, x4, rfl⟩
    rw [List.getElem?_map, List.getElem?_zipIdx] at hd
    cases e : l[k]? with
    | none =>
      rw [e] at hd
      cases hd
    | some s =>
      rw [e] at hd
      cases hd
      refine ⟨_, rfl, fun N hN => ?_⟩
      change n_decider_in_b1 sp_decides [.fz (scs l), .fz (.str b), .fz (.int (n : Nat)), .fz (.int ((0 + k : Nat) : Int)), .fz s.d] _
      simp only [n_decider_in_b1, sIf, dTst, dCall, aCons, aNil, dVar, atS]
      refine ⟨s, b, n, rfl, hs s (List.mem_of_getElem? e), bz, ?_⟩
      refine ite_b (fun yes => ?_) (fun nn => ?_)
      · simp only [sRet, dVar, atS]
        have ew : decider l b n = some k := by
          unfold decider
          rw [List.findIdx?_eq_some_iff_getElem]
          obtain ⟨hk, e2⟩ := List.getElem?_eq_some_iff.mp e
          refine ⟨hk, by rw [e2]; exact yes, fun j hj => ?_⟩
          rw [no j _ hj (List.getElem?_eq_getElem (by omega))]
          decide
        rw [ew] at h
        rw [Nat.zero_add]
        exact h
      · simp only [sNil]
        refine hN _ ⟨fun j t hj ht => ?_, _, _, rfl⟩
        by_cases q : j = k
        · subst q
          rw [e] at ht
          cases ht
          exact nn
        · exact no j t (by omega) ht
  · rintro ρ ⟨no, x3, x4, rfl⟩
    simp only [sRet, dC]
    have ew : decider l b n = none := by
      unfold decider
      rw [List.findIdx?_eq_none_iff]
      intro s ms
      obtain ⟨j, hj, e⟩ := List.getElem_of_mem ms
      refine no j s ?_ (by rw [List.getElem?_eq_getElem hj, e])
      rw [List.length_map, List.length_zipIdx]
      exact hj
    rw [ew] at h
    exact h
theorem r_deciding_screen : ∀ es Ψ Φ, sp_deciding_screen es Ψ Φ → es.length = (["screens", "beginning", "limit"] : List Str).length ∧ n_deciding_screen sp_require_question sp_decider_in (es ++ List.replicate (N_deciding_screen.length - es.length) .un) { nx := fun _ => Ψ (.fz .none), rt := Ψ, ex := fun c p _ => Φ c p } := by
  rintro es Ψ Φ ⟨l, b, n, rfl, q, h⟩
  refine ⟨rfl, ?_⟩
  show n_deciding_screen sp_require_question sp_decider_in (quest l b n) _
  simp only [n_deciding_screen, sSeq, sExp, sRet, dCall, aCons, aNil, dVar, atS]
  refine ⟨l, b, n, rfl, q, l, b, n, rfl, q.1, q.2.1, q.2.2.2.2.1, ?_⟩
  exact h
end TM
set_option pp.deepTerms.threshold 6
namespace TM
open L2 PySem.Spec PySem PyProof.Rows
theorem r__law_jar : ∀ es Ψ Φ, sp__law_jar es Ψ Φ → es.length = (["script", "k"] : List Str).length ∧ n__law_jar (es ++ List.replicate (N__law_jar.length - es.length) .un) { nx := fun _ => Ψ (.fz .none), rt := Ψ, ex := fun c p _ => Φ c p } := by
  rintro es Ψ Φ ⟨ns, k, rfl, h⟩
  refine ⟨rfl, ?_⟩
  show n__law_jar [.sc ns, .fz (.int (k : Nat)), .un] _
  have fin : ∀ c : Int, (sRetO (oLst (aCons (dCB gMax2 (aCons (dC (.int 0)) (aCons (dOp2 gSub (dCB gAbs (aCons (dVar 2) aNil)) (dOp2 gPow (dC (.int 10)) (dC (.int 18)))) aNil))) (aCons (dOp2 gMod (dOp2 gAdd (dOp2 gAdd (dOp2 gMulX (dVar 2) (dC (.int 61))) (dOp2 gMulX (dC (.int 19)) (dVar 1))) (dC (.int 7))) (dOp2 gAdd (dOp2 gPow (dC (.int 10)) (dC (.int 36))) (dC (.int 67)))) (aCons (dC (.int 0)) aNil))))) [.sc ns, .fz (.int (k : Nat)), .fz (.int c)] { nx := fun _ => Ψ (.fz .none), rt := Ψ, ex := fun c p _ => Φ c p } := by
    intro c
    simp only [sRetO, oLst, aCons, aNil, dCB, dOp2, dC, dVar, atS, dataOf, Option.map_some, gAbs, gI, gI0, gMax2, gAdd]
    refine ⟨⟨by decide, by decide⟩, .of_right (by decide), .of_left (by decide), ⟨by decide, by decide⟩, (show (0 : Int) < 10 ^ (36 : Int).toNat + 67 by decide), szN rfl, ?_⟩
    exact h _ _ (Int.emod_nonneg _ (by decide)) (Int.lt_trans (Int.emod_lt_of_pos _ (by decide)) (by decide))
  simp only [n__law_jar, sSeq]
  refine (?_ : sSet _ _ _ _)
  simp only [sSet, dIf, dTst, dOp2, dLenSc, dGetSc, dC, dVar, atS, gLt, gOrd]
  refine ite_b (fun e => ?_) (fun e => ?_)
  · have kl : k < ns.length := by
      have := of_decide_eq_true e
      omega
    rw [show atI ns ((k : Nat) : Int) = some ns[k] from atI_nat (List.getElem?_eq_getElem kl)]
    exact fin _
  · exact fin _
theorem r__law_answer : ∀ es Ψ Φ, sp__law_answer es Ψ Φ → es.length = (["terms", "front", "top"] : List Str).length ∧ n__law_answer (es ++ List.replicate (N__law_answer.length - es.length) .un) { nx := fun _ => Ψ (.fz .none), rt := Ψ, ex := fun c p _ => Φ c p } := by
  rintro es Ψ Φ ⟨ws, b, n, rfl, hb, hz, h⟩
  refine ⟨rfl, ?_⟩
  show n__law_answer [.fz (bk ws), .fz (.str b), .fz (.int (n : Nat)), .un] _
  simp only [n__law_answer, sRetO, oSl, dFz, oLc, iL, dVar, atS]
  refine lc_pure (fun d => [.fz (bk ws), .fz (.str b), .fz (.int (n : Nat)), .fz d]) id (swD b) (ws.map .str) [] (fun d _ => rfl) (fun d hd Ψ hΨ => ?_) (fun d hd e Ψ h => h) (fun d _ => rfl) (by simpa using few_line hb.few) ?_
  · obtain ⟨w, hw, rfl⟩ := List.mem_map.mp hd
    exact hΨ
  · rw [List.nil_append, List.map_id, filter_sw]
    simp only [pNone, pSome, dVar, atS, cutD_take, ← List.map_take]
    exact h
theorem nil_eq {ws : List Str} (hw : ∀ w ∈ ws, lets w) {κ : D → Prop} (h : κ (.bool ws.isEmpty)) : gEq (bk ws) (.list []) κ := by
  refine .inl ⟨shaped_book hw, by decide, ?_⟩
  rw [show PyData.eqv (bk ws) (.list []) = (ws == []) from eqv_strs ws []]
  cases ws <;> exact h
theorem r__law_front : ∀ es Ψ Φ, sp__law_front es Ψ Φ → es.length = (["jar", "terms", "signs"] : List Str).length ∧ n__law_front spDraw (es ++ List.replicate (N__law_front.length - es.length) .un) { nx := fun _ => Ψ (.fz .none), rt := Ψ, ex := fun c p _ => Φ c p } := by
  rintro es Ψ Φ ⟨ws, L, rfl, hb, wl, lL, l1, l2, h⟩
  refine ⟨rfl, ?_⟩
  show n__law_front spDraw [.dk, .fz (bk ws), .fz (.str L), .un, .un, .un] _
  simp only [n__law_front, sSeq]
  refine (?_ : sSet _ _ _ _)
  simp only [sSet]
  refine draw_at (n := 5) rfl (by decide) (by decide) (fun Ψ' h => h) fun way w0 w1 => ?_
  simp only [List.set]
  refine (?_ : sIf _ _ _ _ _)
  simp only [sIf, dOrT, dTst, dOp2, dVar, dC, atS]
  refine gEq_int ?_
  refine ite_b (fun _ => ?_) (fun _ => ?_)
  · simp only [if_true, sRet, dC]
    exact h _ ⟨lets_em, by decide⟩ fun _ c z => (nomatch z)
  simp only [dFz, oLst, aNil, dataOf]
  refine ⟨szN rfl, ?_⟩
  refine nil_eq (fun w hw => (hb.word w hw).1) ?_
  refine ite_b (fun _ => ?_) (fun e => ?_)
  · simp only [sRet, dC]
    exact h _ ⟨lets_em, by decide⟩ fun _ c z => (nomatch z)
  have pos : 0 < ws.length := by
    cases ws with
    | nil => cases e
    | cons _ _ => exact Nat.succ_pos _
  have few := hb.few
  simp only [sNil]
  refine draw_at (n := (ws.length : Nat)) rfl (by omega) (by omega) (fun Ψ' h => ?_) fun z z0 z1 => ?_
  · simp only [dCB, aCons, aNil, dVar, atS, dataOf, Option.map_some, gLen, List.length_map]
    exact h
  obtain ⟨a, rfl⟩ := Int.eq_ofNat_of_zero_le z0
  have ha : a < ws.length := by omega
  have ea : atI (ws.map PyData.str) ((a : Nat) : Int) = some (.str ws[a]) := atI_nat (by rw [List.getElem?_map, List.getElem?_eq_getElem ha]; rfl)
  simp only [gGet, ea]
  have tl := hb.word _ (List.getElem_mem ha)
  have t2 := wl _ (List.getElem_mem ha)
  have t3 : (∀ w ∈ ws, inL L w) → inL L ws[a] := fun q => q _ (List.getElem_mem ha)
  generalize ws[a] = t at tl t2 t3 ⊢
  have tz : t.length ≤ sizeLine := by rw [sizeLine_eq]; omega
  simp only [List.set, dSl, dVar, atS, pNone, pSome]
  refine draw_at (n := (t.length : Nat) + 1) rfl (by omega) (by omega) (fun Ψ' h => ?_) fun y y0 y1 => ?_
  · exact ⟨tz, h⟩
  refine ⟨tz, ?_⟩
  have a1 : lets (cutS t none (some y)) := lets_cut tl.1
  have a2 : (cutS t none (some y)).length ≤ 100 := Nat.le_trans (cutS_len _ _ _) t2
  have a3 : (∀ w ∈ ws, inL L w) → inL L (cutS t none (some y)) := fun q => inL_cut (t3 q)
  generalize cutS t none (some y) = f at a1 a2 a3 ⊢
  simp only [sRet, dIf, dTst, dOp2, dVar, dC, atS, gLt, gOrd, List.set]
  refine ite_b (fun _ => ?_) (fun _ => ?_)
  · exact h _ ⟨a1, by omega⟩ a3
  · refine draw_at (n := (L.length : Nat)) rfl (by omega) (by omega) (fun Ψ' h => ?_) fun x x0 x1 => ?_
    · simp only [dCB, aCons, aNil, dVar, atS, dataOf, Option.map_some, gLen]
      exact ⟨by rw [sizeLine_eq]; omega, h⟩
    · obtain ⟨j, rfl⟩ := Int.eq_ofNat_of_zero_le x0
      have hj : j < L.cps.toList.length := by
        have e : L.cps.toList.length = L.length := Array.length_toList
        omega
      simp only [gGet]
      refine ⟨by rw [sizeLine_eq]; omega, ?_⟩
      rw [show atI L.cps.toList ((j : Nat) : Int) = some L.cps.toList[j] from atI_nat (List.getElem?_eq_getElem hj)]
      have lc := lL _ (List.getElem_mem hj)
      simp only [gAdd]
      have e1 : (⟨#[L.cps.toList[j]]⟩ : Str).length = 1 := rfl
      refine ⟨by rw [e1, sizeLine_eq]; omega, h _ ⟨lets_app a1 fun c hc => ?_, by rw [strLen_append, e1]; omega⟩ fun q c hc => ?_⟩
      · have : c = L.cps.toList[j] := by simpa using hc
        rw [this]
        exact lc
      · rw [app_cps] at hc
        rcases List.mem_append.mp hc with z | z
        · exact a3 q c z
        · have : c = L.cps.toList[j] := by simpa using z
          rw [this]
          exact List.getElem_mem hj
theorem r__law_views : ∀ es Ψ Φ, sp__law_views es Ψ Φ → es.length = (["jar", "terms", "many", "most", "signs"] : List Str).length ∧ n__law_views spDraw sp__law_front sp__law_answer (es ++ List.replicate (N__law_views.length - es.length) .un) { nx := fun _ => Ψ (.fz .none), rt := Ψ, ex := fun c p _ => Φ c p } := by
  rintro es Ψ Φ ⟨ws, many, wide, L, rfl, hb, wl, hm, w1, w2, lL, l1, l2, h⟩
  refine ⟨rfl, ?_⟩
  show n__law_views spDraw sp__law_front sp__law_answer [.dk, .fz (bk ws), .fz (.int (many : Nat)), .fz (.int (wide : Nat)), .fz (.str L), .un, .un, .un, .un] _
  simp only [n__law_views, sSeq, sSetO, oLst, aNil, dataOf, List.set, sFor, iR1]
  refine ⟨szN rfl, ?_⟩
  refine draw_at (n := (many : Nat) + 1) rfl (by omega) (by omega) (fun Ψ' h => h) fun z z0 z1 => ?_
  refine ⟨by omega, by omega, ?_⟩
  refine for_inv (fun k ρ => ∃ (l : List Scr) (x5 x6 x7 : Ent), ρ = [.dk, .fz (bk ws), .fz (.int (many : Nat)), .fz (.int (wide : Nat)), .fz (.str L), .ow (l.map Scr.d), x5, x6, x7] ∧ l.length = k ∧ ∀ s ∈ l, Made ws s ∧ ((∀ w ∈ ws, inL L w) → inL L s.b)) ⟨[], _, _, _, rfl, rfl, fun _ h => nomatch h⟩ ?_ ?_
  · rintro k d ρ hd ⟨l, x5, x6, x7, rfl, hl, hs⟩
    obtain ⟨rfl, hk⟩ := rangeD_get hd
    refine ⟨_, rfl, fun N hN => ?_⟩
    simp only [n__law_views_b1, sSeq]
    refine (?_ : sPar _ _ _ _)
    simp only [sPar, dCall, aDk, aCons, aNil, dVar, atS, dOp2, dC]
    refine ⟨ws, L, rfl, hb, wl, lL, l1, l2, fun b bo bL => ⟨(wide : Nat), rfl, by omega, by omega, fun q q0 q1 => ?_⟩⟩
    obtain ⟨m, rfl⟩ := Int.eq_ofNat_of_zero_le q0
    simp only [gAdd, setEs, List.set]
    rw [show (1 : Int) + ((m : Nat) : Int) = ((m + 1 : Nat) : Int) by push_cast; omega]
    simp only [sMut, dTup, aCons, aNil, dCall, dVar, atS]
    refine ⟨ws, b, m + 1, rfl, hb, by rw [sizeLine_eq]; have := bo.2; omega, ?_⟩
    simp only [dataOf, Option.map_some, gApp]
    refine ⟨szN rfl, by rw [List.length_map, sizeLine_eq]; omega, hN _ ⟨l ++ [⟨b, m + 1, ans ws b (m + 1)⟩], .fz (.int (0 + ((k : Nat) : Int))), .fz (.str b), .fz (.int ((m + 1 : Nat) : Int)), ?_, ?_, ?_⟩⟩
    · rw [List.map_append]
      rfl
    · rw [List.length_append, hl]
      rfl
    · intro s hs2
      rcases List.mem_append.mp hs2 with z | z
      · exact hs s z
      · rw [List.mem_singleton.mp z]
        exact ⟨made_of hb wl bo (by omega) (by omega), bL⟩
  · rintro ρ ⟨l, x5, x6, x7, rfl, hl, hs⟩
    rw [rangeD_len] at hl
    exact h l (by omega) hs
end TM
set_option pp.deepTerms.threshold 6
namespace TM
open L2 PySem.Spec PySem PyProof.Rows
theorem erase_perm {α : Type} : ∀ {l : List α} {i : Nat} (h : i < l.length), (l[i] :: l.eraseIdx i).Perm l
  | a :: l, 0, _ => List.Perm.refl _
  | a :: l, i + 1, h => by
    rw [List.eraseIdx_cons_succ, List.getElem_cons_succ]
    exact (List.Perm.swap _ _ _).trans ((erase_perm (by simpa using h)).cons a)
theorem erase_map {α β : Type} (f : α → β) : ∀ (l : List α) (i : Nat), (l.map f).eraseIdx i = (l.eraseIdx i).map f
  | [], _ => rfl
  | a :: l, 0 => rfl
  | a :: l, i + 1 => by
    rw [List.map_cons, List.eraseIdx_cons_succ, List.eraseIdx_cons_succ, List.map_cons, erase_map f l i]
theorem pop_all {x1 x2 x3 x5 x6 x7 : Ent} (k5 : x5.keep = x5) {Ψ : List D → Sl → Prop} : ∀ (ds : List D) (acc rem : List Str), ds.length = rem.length → acc.length + rem.length ≤ 1000 → (∀ res : List Str, res.Perm (acc ++ rem) → Ψ (res.map .str) [.dk, x1, x2, x3, .ow [], x5, x6, x7]) →
    lcR (.nm 5) tYesD (dPop 4 (dCall spDraw (aDk 0 (aCons (dBor (dCB gLen (aCons (dVar 4) aNil))) aNil)))) [5] ds (acc.map .str) [.dk, x1, x2, x3, .ow (rem.map .str), x5, x6, x7] Ψ
  | [], acc, rem, hl, _, h => by
    have : rem = [] := List.eq_nil_of_length_eq_zero hl.symm
    subst this
    unfold lcR
    exact h acc (by rw [List.append_nil])
  | d :: ds, acc, rem, hl, hz, h => by
    rw [List.length_cons] at hl
    unfold lcR
    rw [show Tg.bind (.nm 5) d (wipeS [.dk, x1, x2, x3, .ow (rem.map .str), x5, x6, x7] [5]) = some [.dk, x1, x2, x3, .ow (rem.map .str), .fz d, x6, x7] from rfl]
    simp only [tYesD, if_true, dPop, atS]
    refine draw_at (n := (rem.length : Nat)) rfl (by omega) (by omega) (fun Ψ' h => ?_) fun z z0 z1 => ?_
    · simp only [dBor, dCB, aCons, aNil, dVar, List.map_cons, List.map_nil, Ent.view, atS, dataOf, Option.map_some, gLen, List.length_map]
      exact ⟨rfl, h⟩
    obtain ⟨i, rfl⟩ := Int.eq_ofNat_of_zero_le z0
    have hi : i < rem.length := by omega
    refine ⟨i, .str rem[i], rfl, by omega, by rw [List.getElem?_map, List.getElem?_eq_getElem hi]; rfl, by rw [List.length_map, sizeLine_eq]; omega, ?_⟩
    rw [show back [.dk, x1, x2, x3, .ow (rem.map .str), x5, x6, x7] (List.set [.dk, x1, x2, x3, .ow (rem.map .str), .fz d, x6, x7] 4 (.ow ((rem.map PyData.str).eraseIdx i))) [5] = [.dk, x1, x2, x3, .ow ((rem.map PyData.str).eraseIdx i), x5.keep, x6, x7] from rfl, k5]
    rw [show acc.map PyData.str ++ [PyData.str rem[i]] = (acc ++ [rem[i]]).map .str by rw [List.map_append]; rfl, erase_map]
    have le : (rem.eraseIdx i).length = rem.length - 1 := List.length_eraseIdx_of_lt hi
    refine pop_all k5 ds (acc ++ [rem[i]]) (rem.eraseIdx i) (by omega) (by rw [List.length_append, List.length_singleton]; omega) fun res p => h res (p.trans ?_)
    rw [List.append_assoc]
    exact (erase_perm hi).append_left acc
theorem term_lets {L : Str} {most : Int} (hL : lets L) {w : Str} (h : termOk L most w) : lets w := fun c hc => hL c (h.2.2 c hc)
/-- the letters are put behind; the word is kept, if it is new and not too long -/
theorem terms_tail {many : Nat} {L : Str} {most : Int} (lL : lets L) (l1 : 1 ≤ L.length) (l2 : L.length ≤ 1048576) (m1 : 1 ≤ most) (m2 : most ≤ 1000) {ws : List Str} (nd : ws.Nodup) (wz : ws.length ≤ 1000) (hw : ∀ w ∈ ws, termOk L most w) {t : Str} (tz : t.length ≤ most) (tc : ∀ c ∈ t.cps.toList, c ∈ L.cps.toList) {x5 x7 : Ent} {E : DEnds}
    (h : ∀ (vs : List Str) (y6 y7 : Ent), vs.Nodup → vs.length ≤ ws.length + 1 → (∀ w ∈ vs, termOk L most w) → E.nx [.dk, .fz (.int (many : Nat)), .fz (.str L), .fz (.int most), .ow (vs.map .str), x5, y6, y7]) :
    sSeq (sFor (iR1 (dOp2 gAdd (dC (.int 1)) (dCall spDraw (aDk 0 (aCons (dC (.int 3)) aNil))))) (.nm 7) (n__law_terms_b1 spDraw))
      (sIf (dAndT (dTst (dOp2 gLe (dCB gLen (aCons (dVar 6) aNil)) (dVar 3))) (tBor (dTst (dOp2 (gIn true) (dVar 6) (dVar 4))))) (sMut 4 gApp (dVar 6)) sNil)
      [.dk, .fz (.int (many : Nat)), .fz (.str L), .fz (.int most), .ow (ws.map .str), x5, .fz (.str t), x7] E := by
  have wl : ∀ w ∈ ws, lets w := fun w q => term_lets lL (hw w q)
  simp only [sSeq]
  refine (?_ : sFor _ _ _ _ _)
  simp only [sFor, iR1, dOp2, dC]
  refine draw_at (n := 3) rfl (by decide) (by decide) (fun Ψ' h => h) fun z z0 z1 => ?_
  simp only [gAdd]
  refine ⟨by omega, by omega, ?_⟩
  refine for_inv (fun k ρ => ∃ (s : Str) (y7 : Ent), ρ = [.dk, .fz (.int (many : Nat)), .fz (.str L), .fz (.int most), .ow (ws.map .str), x5, .fz (.str s), y7] ∧ (s.length : Int) ≤ most + k ∧ k ≤ s.length ∧ ∀ c ∈ s.cps.toList, c ∈ L.cps.toList) ⟨t, x7, rfl, by omega, Nat.zero_le _, tc⟩ ?_ ?_
  · rintro k d ρ hd ⟨s, y7, rfl, sz, s1, sc⟩
    obtain ⟨rfl, hk⟩ := rangeD_get hd
    refine ⟨_, rfl, fun N hN => ?_⟩
    change n__law_terms_b1 spDraw [.dk, .fz (.int (many : Nat)), .fz (.str L), .fz (.int most), .ow (ws.map .str), x5, .fz (.str s), .fz (.int (0 + (k : Nat)))] _
    simp only [n__law_terms_b1, sSet, dOp2, dVar, atS]
    refine draw_at (n := (L.length : Nat)) rfl (by omega) (by omega) (fun Ψ' h => ?_) fun x x0 x1 => ?_
    · simp only [dCB, aCons, aNil, dVar, atS, dataOf, Option.map_some, gLen]
      exact ⟨by rw [sizeLine_eq]; omega, h⟩
    obtain ⟨j, rfl⟩ := Int.eq_ofNat_of_zero_le x0
    have hj : j < L.cps.toList.length := by
      have e : L.cps.toList.length = L.length := Array.length_toList
      omega
    simp only [gGet]
    refine ⟨by rw [sizeLine_eq]; omega, ?_⟩
    rw [show atI L.cps.toList ((j : Nat) : Int) = some L.cps.toList[j] from atI_nat (List.getElem?_eq_getElem hj)]
    have e1 : (⟨#[L.cps.toList[j]]⟩ : Str).length = 1 := rfl
    have e2 : (s ++ (⟨#[L.cps.toList[j]]⟩ : Str)).length = s.length + 1 := by rw [strLen_append, e1]
    simp only [gAdd]
    refine ⟨by rw [e1, sizeLine_eq]; omega, hN _ ⟨s ++ ⟨#[L.cps.toList[j]]⟩, _, rfl, by rw [e2]; push_cast; omega, by rw [e2]; omega, fun c hc => ?_⟩⟩
    have hc : c ∈ s.cps.toList ++ [L.cps.toList[j]] := by
      have : (s ++ (⟨#[L.cps.toList[j]]⟩ : Str)).cps.toList = s.cps.toList ++ [L.cps.toList[j]] := Array.toList_append
      rw [← this]
      exact hc
    rcases List.mem_append.mp hc with hc | hc
    · exact sc c hc
    · rw [List.mem_singleton.mp hc]
      exact List.getElem_mem hj
  · rintro ρ ⟨s, y7, rfl, sz, s1, sc⟩
    rw [rangeD_len] at sz s1
    have sl : lets s := fun c hc => lL c (sc c hc)
    dsimp only
    simp only [sIf, dAndT, dTst, dOp2, dCB, aCons, aNil, dVar, atS, dataOf, Option.map_some, gLen, gLe, gOrd]
    refine ⟨by rw [sizeLine_eq]; omega, ?_⟩
    refine ite_b (fun e => ?_) (fun e => ?_)
    · have e := of_decide_eq_true e
      simp only [tBor, dTst, dOp2, dVar, List.map_cons, List.map_nil, Ent.view, atS, gIn]
      refine ⟨shaped_flat (strOk_asc (lets_asc sl)) rfl, shaped_book wl, ?_⟩
      rw [any_str, Bool.true_bne]
      refine ite_b (fun e2 => ?_) (fun e2 => ?_)
      · have no : s ∉ ws := by simpa using e2
        simp only [sMut, dVar, atS, gApp]
        refine ⟨by rw [List.length_map, sizeLine_eq]; omega, ?_⟩
        rw [show ws.map PyData.str ++ [PyData.str s] = (ws ++ [s]).map .str by rw [List.map_append]; rfl]
        refine h (ws ++ [s]) _ _ ?_ (by rw [List.length_append]; exact Nat.le_refl _) fun w hw2 => ?_
        · rw [List.nodup_append]
          refine ⟨nd, by simp, fun a ha b hb => ?_⟩
          rw [List.mem_singleton.mp hb]
          exact fun z => no (z ▸ ha)
        · rcases List.mem_append.mp hw2 with z | z
          · exact hw w z
          · rw [List.mem_singleton.mp z]
            exact ⟨by omega, e, sc⟩
      · simp only [sNil]
        exact h ws _ _ nd (by omega) hw
    · simp only [Bool.false_eq_true, if_false, sNil]
      exact h ws _ _ nd (by omega) hw
theorem terms_b2 {many : Nat} {L : Str} {most : Int} (lL : lets L) (l1 : 1 ≤ L.length) (l2 : L.length ≤ 1048576) (m1 : 1 ≤ most) (m2 : most ≤ 1000) {ws : List Str} (nd : ws.Nodup) (wz : ws.length ≤ 1000) (hw : ∀ w ∈ ws, termOk L most w) {x5 x6 x7 : Ent} {E : DEnds}
    (h : ∀ (vs : List Str) (y6 y7 : Ent), vs.Nodup → vs.length ≤ ws.length + 1 → (∀ w ∈ vs, termOk L most w) → E.nx [.dk, .fz (.int (many : Nat)), .fz (.str L), .fz (.int most), .ow (vs.map .str), x5, y6, y7]) :
    n__law_terms_b2 spDraw [.dk, .fz (.int (many : Nat)), .fz (.str L), .fz (.int most), .ow (ws.map .str), x5, x6, x7] E := by
  have wl : ∀ w ∈ ws, lets w := fun w q => term_lets lL (hw w q)
  have tail := fun (t : Str) (tz : (t.length : Int) ≤ most) tc => terms_tail (many := many) (x5 := x5) (x7 := x7) (E := E) lL l1 l2 m1 m2 nd wz hw (t := t) tz tc h
  have em := tail "" (by
    rw [show ("" : Str).length = 0 from rfl]
    omega) fun c hc => absurd hc (by
      rw [show ("" : Str).cps.toList = [] from rfl]
      exact fun z => nomatch z)
  unfold n__law_terms_b2
  unfold sSeq
  refine (?_ : sSet _ _ _ _)
  simp only [sSet, dC, List.set]
  refine (?_ : sIf _ _ _ _ _)
  unfold sIf
  simp only [dAndT, tBor, dTst, dOp2, dVar, dC, dFz, oLst, aNil, List.map_cons, List.map_nil, Ent.view, atS, dataOf]
  refine ⟨szN rfl, ?_⟩
  refine ne_nil_strs (ws := ws) wl ?_
  refine ite_b (fun e => ?_) (fun _ => ?_)
  · have pos : 0 < ws.length := by
      cases ws with
      | nil => cases e
      | cons _ _ => exact Nat.succ_pos _
    refine draw_at (n := 2) rfl (by decide) (by decide) (fun Ψ' h => h) fun z z0 z1 => ?_
    refine gEq_int ?_
    refine ite_b (fun _ => ?_) (fun _ => ?_)
    · refine (?_ : sSet _ _ _ _)
      simp only [sSet, dGetOw, atS]
      refine draw_at (n := (ws.length : Nat)) rfl (by omega) (by omega) (fun Ψ' h => ?_) fun y y0 y1 => ?_
      · simp only [dBor, dCB, aCons, aNil, dVar, List.map_cons, List.map_nil, Ent.view, atS, dataOf, Option.map_some, gLen, List.length_map]
        exact ⟨rfl, h⟩
      obtain ⟨i, rfl⟩ := Int.eq_ofNat_of_zero_le y0
      have hi : i < ws.length := by omega
      have ea : atI (ws.map PyData.str) ((i : Nat) : Int) = some (.str ws[i]) := atI_nat (by rw [List.getElem?_map, List.getElem?_eq_getElem hi]; rfl)
      simp only [atS, ea]
      have ok := hw _ (List.getElem_mem hi)
      exact tail ws[i] ok.2.1 ok.2.2
    · simp only [sNil]
      exact em
  · simp only [Bool.false_eq_true, if_false, sNil]
    exact em
theorem rj__law_terms : ∀ es Ψ Φ, sj__law_terms es Ψ Φ → es.length = (["jar", "most", "signs", "longest"] : List Str).length ∧ n__law_terms spDraw (es ++ List.replicate (N__law_terms.length - es.length) .un) { nx := fun _ => Ψ (.fz .none), rt := Ψ, ex := fun c p _ => Φ c p } := by
  rintro es Ψ Φ ⟨many, L, most, rfl, hm, l1, l2, lL, m1, m2, h⟩
  refine ⟨rfl, ?_⟩
  show n__law_terms spDraw [.dk, .fz (.int (many : Nat)), .fz (.str L), .fz (.int most), .un, .un, .un, .un] _
  simp only [n__law_terms, sSeq]
  refine (?_ : sSetO _ _ _ _)
  simp only [sSetO, oLst, aNil, dataOf, List.set]
  refine ⟨szN rfl, ?_⟩
  refine (?_ : sFor _ _ _ _ _)
  simp only [sFor, iR1]
  refine draw_at (n := (many : Nat) + 1) rfl (by omega) (by omega) (fun Ψ' h => h) fun z z0 z1 => ?_
  refine ⟨by omega, by omega, ?_⟩
  refine for_inv (fun k ρ => ∃ (ws : List Str) (x5 x6 x7 : Ent), x5.keep = x5 ∧ ρ = [.dk, .fz (.int (many : Nat)), .fz (.str L), .fz (.int most), .ow (ws.map .str), x5, x6, x7] ∧ ws.Nodup ∧ ws.length ≤ k ∧ ∀ w ∈ ws, termOk L most w) ⟨[], .un, .un, .un, rfl, rfl, List.nodup_nil, Nat.le_refl _, fun _ h => nomatch h⟩ ?_ ?_
  · rintro k d ρ hd ⟨ws, x5, x6, x7, _, rfl, nd, hl, hw⟩
    obtain ⟨rfl, hk⟩ := rangeD_get hd
    refine ⟨_, rfl, fun N hN => ?_⟩
    change n__law_terms_b2 spDraw [.dk, .fz (.int (many : Nat)), .fz (.str L), .fz (.int most), .ow (ws.map .str), .fz (.int (0 + (k : Nat))), x6, x7] _
    refine terms_b2 lL l1 l2 m1 m2 nd (by omega) hw fun vs y6 y7 nd2 l3 hw2 => hN _ ⟨vs, _, _, _, rfl, rfl, nd2, by omega, hw2⟩
  · rintro ρ ⟨ws, x5, x6, x7, k5, rfl, nd, hl, hw⟩
    rw [rangeD_len] at hl
    dsimp only
    simp only [sRetO, oLc, iR1, dBor, dCB, aCons, aNil, dVar, List.map_cons, List.map_nil, Ent.view, atS, dataOf, Option.map_some, gLen, List.length_map]
    refine ⟨rfl, by omega, by omega, ?_⟩
    refine pop_all k5 (rangeD 0 ((ws.length : Nat) : Int).toNat) [] ws (by rw [rangeD_len]; omega) (by rw [List.length_nil]; omega) fun res p => ?_
    rw [List.nil_append] at p
    exact h res (p.symm.nodup nd) (by rw [p.length_eq]; omega) fun w m => hw w (p.mem_iff.mp m)
end TM
set_option pp.deepTerms.threshold 6
namespace TM
open L2 PySem.Spec PySem PyProof.Rows
theorem at_d {s : Scr} : atI [PyData.str s.b, .int (s.n : Nat), bk s.sh] 0 = some (.str s.b) ∧ atI [PyData.str s.b, .int (s.n : Nat), bk s.sh] 1 = some (.int (s.n : Nat)) ∧ atI [PyData.str s.b, .int (s.n : Nat), bk s.sh] 2 = some (bk s.sh) := ⟨rfl, rfl, rfl⟩
theorem at_scs {l : List Scr} {i : Nat} {s : Scr} (e : l[i]? = some s) : atI (l.map Scr.d) ((i : Nat) : Int) = some s.d := atI_nat (by rw [List.getElem?_map, e]; rfl)
theorem cut_without {α : Type} (l : List α) (i : Nat) : l.take i ++ l.drop (i + 1) = l.eraseIdx i := (List.eraseIdx_eq_take_drop_succ l i).symm
def leftP (o : Scr) (i : Nat) (p : Scr × Nat) : Bool := p.2 != i && dec o.b o.n p.1 && (decide (p.2 < i) || !(dec p.1.b p.1.n o))
theorem left_some {l : List Scr} {i : Nat} {o : Scr} (e : l[i]? = some o) : leftB l i = l.zipIdx.any (leftP o i) := by
  unfold leftB
  rw [e]
  rfl
theorem left_yes {l : List Scr} {i k : Nat} {o t : Scr} (e : l[i]? = some o) (e2 : l[k]? = some t) (h : leftP o i (t, k) = true) : leftB l i = true := by
  rw [left_some e, List.any_eq_true]
  exact ⟨(t, k), List.mem_iff_getElem?.mpr ⟨k, by rw [List.getElem?_zipIdx, e2]; simp⟩, h⟩
theorem left_no {l : List Scr} {i : Nat} {o : Scr} (e : l[i]? = some o) (h : ∀ k t, l[k]? = some t → leftP o i (t, k) = false) : leftB l i = false := by
  rw [left_some e, List.any_eq_false]
  rintro ⟨t, k⟩ m
  obtain ⟨j, hj⟩ := List.mem_iff_getElem?.mp m
  rw [List.getElem?_zipIdx] at hj
  cases q : l[j]? with
  | none =>
    rw [q] at hj
    cases hj
  | some x =>
    rw [q] at hj
    simp only [Option.map_some, Option.some.injEq, Prod.mk.injEq, Nat.zero_add] at hj
    obtain ⟨rfl, rfl⟩ := hj
    rw [h _ _ q]
    decide
theorem rangeD_map (n : Nat) : rangeD 0 n = (List.range n).map fun i => (.int ((i : Nat) : Int) : D) := by
  refine List.ext_getElem? fun i => ?_
  rw [List.getElem?_map]
  by_cases q : i < n
  · rw [List.getElem?_range q]
    have hl : i < (rangeD 0 n).length := by
      rw [rangeD_len]
      exact q
    rw [List.getElem?_eq_getElem hl]
    obtain ⟨e, _⟩ := rangeD_get (List.getElem?_eq_getElem hl)
    rw [e, Int.zero_add]
    rfl
  · rw [List.getElem?_eq_none (by rw [rangeD_len]; omega), List.getElem?_eq_none (by rw [List.length_range]; omega)]
    rfl
end TM
set_option pp.deepTerms.threshold 6
namespace TM
open L2 PySem.Spec PySem PyProof.Rows
theorem rj__law_known : ∀ es Ψ Φ, sj__law_known es Ψ Φ → es.length = (["views"] : List Str).length ∧ n__law_known (es ++ List.replicate (N__law_known.length - es.length) .un) { nx := fun _ => Ψ (.fz .none), rt := Ψ, ex := fun c p _ => Φ c p } := by
  rintro es Ψ Φ ⟨l, rfl, hl, hs, h⟩
  refine ⟨rfl, ?_⟩
  show n__law_known [.fz (scs l), .un, .un, .un, .un] _
  simp only [n__law_known, sSeq, sSetO, oLst, aNil, dataOf, List.set]
  refine ⟨szN rfl, ?_⟩
  refine (?_ : sFor _ _ _ _ _)
  simp only [sFor, iL, dVar, atS]
  refine for_inv (fun k ρ => ∃ (f : List Str) (x2 x3 x4 : Ent), ρ = [.fz (scs l), .ow (f.map .str), x2, x3, x4] ∧ f.length ≤ 20 * k ∧ (∀ y, y ∈ f ↔ ∃ s ∈ l.take k, y ∈ s.sh)) ⟨[], _, _, _, rfl, Nat.le_refl _, fun y => by simp⟩ ?_ ?_
  · rintro k d ρ hd ⟨f, x2, x3, x4, rfl, len, mem⟩
    rw [List.getElem?_map] at hd
    cases es : l[k]? with
    | none =>
      rw [es] at hd
      cases hd
    | some s =>
      rw [es] at hd
      cases hd
      have so := hs s (List.mem_of_getElem? es)
      have few := so.few
      have s20 := so.n2
      have kl := (List.getElem?_eq_some_iff.mp es).1
      refine ⟨_, rfl, fun N hN => ?_⟩
      change n__law_known_b1 [.fz (scs l), .ow (f.map .str), .fz (.str s.b), .fz (.int ((s.n : Nat) : Int)), .fz (bk s.sh)] _
      simp only [n__law_known_b1, sMut, atS, dVar, gExt]
      refine ⟨by rw [List.length_map, List.length_map, sizeLine_eq]; omega, hN _ ⟨f ++ s.sh, _, _, _, by rw [List.map_append]; rfl, by rw [List.length_append]; omega, fun y => ?_⟩⟩
      have et : l.take (k + 1) = l.take k ++ [s] := by
        rw [List.take_succ, es]
        rfl
      rw [List.mem_append, mem y, et]
      constructor
      · rintro (⟨t, mt, hy⟩ | hy)
        · exact ⟨t, List.mem_append_left _ mt, hy⟩
        · exact ⟨s, List.mem_append_right _ (List.mem_singleton.mpr rfl), hy⟩
      · rintro ⟨t, mt, hy⟩
        rcases List.mem_append.mp mt with mt | mt
        · exact .inl ⟨t, mt, hy⟩
        · rw [List.mem_singleton.mp mt] at hy
          exact .inr hy
  · rintro ρ ⟨f, x2, x3, x4, rfl, len, mem⟩
    rw [List.length_map] at len mem
    rw [List.take_length] at mem
    dsimp only
    simp only [sRetO, oSortSet, dVarF, atS]
    refine ⟨f, rfl, by omega, fun zs nd mm as => h zs ⟨fun w => ?_, nd, as, ?_⟩⟩
    · rw [mm w, mem w]
      rfl
    · exact known_len hl hs (fun y => by
        rw [mm y, mem y]
        constructor
        · rintro ⟨s, m, hy⟩
          exact ⟨s.sh, List.mem_map.mpr ⟨s, m, rfl⟩, hy⟩
        · rintro ⟨ws, m, hy⟩
          obtain ⟨s, ms, rfl⟩ := List.mem_map.mp m
          exact ⟨s, ms, hy⟩) nd
theorem befo_lt {l : List Str} {w m : Str} {i j : Nat} (hi : l[i]? = some w) (ni : ∀ k < i, l[k]? ≠ some w) (hj : l[j]? = some m) (nj : ∀ k < j, l[k]? ≠ some m) : w ∈ befo l m ↔ i < j := by
  rw [befo_take hj nj]
  constructor
  · intro h
    obtain ⟨k, hk, e⟩ := List.mem_take_iff_getElem.mp h
    have : ¬ k < i := fun z => ni k z (by rw [List.getElem?_eq_getElem (by omega), e])
    omega
  · intro h
    obtain ⟨h1, e⟩ := List.getElem?_eq_some_iff.mp hi
    exact List.mem_take_iff_getElem.mpr ⟨i, by omega, e⟩
end TM
namespace TM
open L2 PySem.Spec PySem PyProof.Rows
theorem r__law_shows : ∀ es Ψ Φ, sp__law_shows es Ψ Φ → es.length = (["terms", "views"] : List Str).length ∧ n__law_shows sp__law_answer (es ++ List.replicate (N__law_shows.length - es.length) .un) { nx := fun _ => Ψ (.fz .none), rt := Ψ, ex := fun c p _ => Φ c p } := by
  rintro es Ψ Φ ⟨ws, l, rfl, hb, hl, hs, h⟩
  refine ⟨rfl, ?_⟩
  show n__law_shows sp__law_answer [.fz (bk ws), .fz (scs l), .un, .un, .un] _
  simp only [n__law_shows, sRet, dOp2, dFz, oLc, iL, dVar, atS]
  let bnd : D → Sl := fun d => match d with
    | .tuple [x, y, z] => [.fz (bk ws), .fz (scs l), .fz x, .fz y, .fz z]
    | _ => []
  let bad : D → Bool := fun d => match d with
    | .tuple [.str b, .int n, .list sh] => !(PyData.eqvAll ((ans ws b n.toNat).map .str) sh)
    | _ => false
  refine lc_pure bnd (fun _ => .int 1) bad _ [] (fun d hd => ?_) (fun d hd Ψ hΨ => ?_) (fun d hd e Ψ h => h) (fun d hd => ?_) (by rw [List.length_map, sizeLine_eq]; simp; omega) ?_
  · obtain ⟨s, _, rfl⟩ := List.mem_map.mp hd
    rfl
  · obtain ⟨s, hs2, rfl⟩ := List.mem_map.mp hd
    have so := hs s hs2
    show dTst (dOp2 gNe _ _) [.fz (bk ws), .fz (scs l), .fz (.str s.b), .fz (.int (s.n : Nat)), .fz (bk s.sh)] _ _
    simp only [dTst, dOp2, dCall, aCons, aNil, dVar, atS]
    refine ⟨ws, s.b, s.n, rfl, hb, by rw [sizeLine_eq]; have := so.bz; omega, .inl ⟨shaped_book fun w hw => (hb.word w (ans_mem hw).1).1, shaped_book fun w hw => (so.sh.word w hw).1, ?_⟩⟩
    simp only [PyData.eqv]
    exact hΨ
  · obtain ⟨s, _, rfl⟩ := List.mem_map.mp hd
    rfl
  · rw [List.nil_append]
    simp only [oLst, aNil, dataOf]
    have key : (((l.map Scr.d).filter bad).isEmpty) = l.all (shows ws) := by
      clear hl hs h
      induction l with
      | nil => rfl
      | cons s l ih =>
        have e : bad s.d = !(shows ws s) := by
          show (!(PyData.eqvAll ((ans ws s.b s.n).map .str) (s.sh.map .str))) = _
          rw [eqv_strs]
          rfl
        rw [List.map_cons, List.all_cons]
        cases q : shows ws s with
        | true =>
          rw [q] at e
          rw [List.filter_cons_of_neg (by rw [e]; decide), Bool.true_and]
          exact ih
        | false =>
          rw [q] at e
          rw [List.filter_cons_of_pos (by rw [e]; rfl), Bool.false_and]
          rfl
    rw [← key] at h
    refine ⟨by decide, .inl ⟨shaped_list fun x hx => ?_, by decide, ?_⟩⟩
    · obtain ⟨_, _, rfl⟩ := List.mem_map.mp hx
      exact ⟨rfl, rfl⟩
    · cases q : (l.map Scr.d).filter bad with
      | nil =>
        rw [q] at h
        rw [List.map_nil, eqv_nil]
        exact h
      | cons x t =>
        rw [q] at h
        rw [List.map_cons, eqv_nil_ne]
        exact h
end TM
set_option pp.deepTerms.threshold 6
namespace TM
open L2 PySem.Spec PySem PyProof.Rows
theorem fctW_pos : ∀ n, 1 ≤ fctW n
  | 0 => Nat.le_refl _
  | n + 1 => by
    unfold fctW
    exact Nat.mul_pos (Nat.succ_pos n) (fctW_pos n)
theorem fctW_le : ∀ k ≤ 6, fctW k ≤ 720 := by decide
/-- orders that begin with one of the first k words -/
def OrdTo (T : List Str) (k : Nat) (f : List (List Str)) : Prop := ∀ r, r ∈ f ↔ ∃ i < k, ∃ t q, T[i]? = some t ∧ r = t :: q ∧ q.Perm (T.eraseIdx i)
theorem ord_all {T : List Str} (ne : T ≠ []) {f : List (List Str)} (h : OrdTo T T.length f) (r : List Str) : r ∈ f ↔ r.Perm T := by
  rw [h r]
  constructor
  · rintro ⟨i, hi, t, q, e, rfl, p⟩
    obtain ⟨_, e2⟩ := List.getElem?_eq_some_iff.mp e
    exact ((p.cons t).trans (by rw [← e2])).trans (erase_perm hi)
  · intro p
    cases r with
    | nil => exact absurd p.symm.eq_nil ne
    | cons t q =>
      obtain ⟨i, hi, e⟩ := List.getElem_of_mem (p.mem_iff.mp (List.mem_cons_self ..))
      refine ⟨i, hi, t, q, by rw [List.getElem?_eq_getElem hi, e], rfl, ?_⟩
      have := p.trans (erase_perm hi).symm
      rw [e] at this
      exact (List.perm_cons t).mp this
theorem r__law_orders (n : Nat) : ∀ es Ψ Φ, sp__law_orders (n + 1) es Ψ Φ → es.length = (["terms"] : List Str).length ∧ n__law_orders (sp__law_orders n) (es ++ List.replicate (N__law_orders.length - es.length) .un) { nx := fun _ => Ψ (.fz .none), rt := Ψ, ex := fun c p _ => Φ c p } := by
  rintro es Ψ Φ ⟨T, rfl, tn, t6, tl, h⟩
  refine ⟨rfl, ?_⟩
  show n__law_orders (sp__law_orders n) [.fz (bk T), .un, .un, .un, .un] _
  simp only [n__law_orders, sSeq]
  refine (?_ : sIf _ _ _ _ _)
  simp only [sIf, dTst, dOp2, dFz, oLst, aNil, dVar, atS, dataOf]
  refine ⟨szN rfl, nil_eq tl ?_⟩
  refine ite_b (fun e => ?_) (fun e => ?_)
  · have e : T = [] := List.isEmpty_iff.mp e
    subst e
    simp only [sRetO, oLst, dFz, aCons, aNil, dataOf, Option.map_some]
    refine ⟨szN rfl, szN rfl, ?_⟩
    exact h [[]] (Nat.le_refl _) fun r => by
      rw [List.mem_singleton]
      exact ⟨fun z => by rw [z], fun p => p.eq_nil⟩
  have ne : T ≠ [] := fun z => by
    rw [z] at e
    cases e
  have pos : 0 < T.length := List.length_pos_iff.mpr ne
  simp only [sNil]
  refine (?_ : sSetO _ _ _ _)
  simp only [sSetO, oLst, aNil, dataOf, List.set]
  refine ⟨szN rfl, ?_⟩
  refine (?_ : sFor _ _ _ _ _)
  simp only [sFor, iE, dVar, atS]
  rw [enum_on]
  have small := fctW_le (T.length - 1) (by omega)
  refine for_inv (fun k ρ => ∃ (f : List (List Str)) (x2 x3 x4 : Ent), x4.keep = x4 ∧ ρ = [.fz (bk T), .ow (f.map fun r => bk r), x2, x3, x4] ∧ f.length ≤ k * fctW (T.length - 1) ∧ OrdTo T k f) ⟨[], _, _, .un, rfl, rfl, Nat.zero_le _, fun r => ⟨fun z => (nomatch z), fun ⟨i, z, _⟩ => (nomatch z)⟩⟩ ?_ ?_
  · rintro k d ρ hd ⟨f, x2, x3, x4, k4, rfl, fl, O⟩
    rw [List.getElem?_map, List.getElem?_zipIdx] at hd
    cases et : T[k]? with
    | none =>
      rw [et] at hd
      cases hd
    | some t =>
      rw [et] at hd
      cases hd
      have kl : k < T.length := (List.getElem?_eq_some_iff.mp et).1
      refine ⟨_, rfl, fun N hN => ?_⟩
      show n__law_orders_b1 (sp__law_orders n) [.fz (bk T), .ow (f.map fun r => bk r), .fz (.int ((0 + k : Nat) : Int)), .fz (.str t), x4] _
      rw [Nat.zero_add]
      simp only [n__law_orders_b1, sMut, dFz, oLc, oOp2, iL, dCall, dSl, dOp2, aCons, aNil, dVar, dC, atS, pNone, pSome, gAdd, gSl, gCat]
      rw [show cutD (T.map PyData.str) none (some ((k : Nat) : Int)) = (T.take k).map PyData.str by rw [cutD_take, ← List.map_take], show cutD (T.map PyData.str) (some (((k : Nat) : Int) + 1)) none = (T.drop (k + 1)).map PyData.str from by
        rw [show ((k : Nat) : Int) + 1 = ((k + 1 : Nat) : Int) by push_cast; omega, cutD_drop, ← List.map_drop]]
      have le : (T.eraseIdx k).length = T.length - 1 := List.length_eraseIdx_of_lt kl
      refine ⟨by rw [List.length_map, List.length_map, List.length_take, List.length_drop, sizeLine_eq]; omega, T.eraseIdx k, by rw [← List.map_append, List.eraseIdx_eq_take_drop_succ], by omega, by omega, fun w m => tl w (List.mem_of_mem_eraseIdx m), fun rows rl rm => ?_⟩
      rw [le] at rl
      dsimp only
      have k720 : k * fctW (T.length - 1) ≤ 6 * 720 := Nat.mul_le_mul (by omega) small
      refine lm_on (fun r : List Str => bk r) (fun r => [.fz (bk T), .ow (f.map fun r => bk r), .fz (.int (k : Nat)), .fz (.str t), .fz (bk r)]) (fun r => bk (t :: r)) rows (fun r _ => rfl) (fun r mr Ψ hΨ => ?_) (fun r _ => ?_) (by rw [sizeLine_eq]; omega) ?_
      · have rz : r.length = T.length - 1 := by rw [((rm r).mp mr).length_eq, le]
        simp only [dFz, oOp2, oLst, aCons, aNil, dVar, atS, dataOf, Option.map_some, gCat]
        refine ⟨szN rfl, by rw [List.length_map, List.length_singleton, sizeLine_eq]; omega, ?_⟩
        exact hΨ
      · show [Ent.fz (bk T), .ow (f.map fun r => bk r), .fz (.int (k : Nat)), .fz (.str t), x4.keep] = _
        rw [k4]
      simp only [gExt]
      refine ⟨by rw [List.length_map, List.length_map, sizeLine_eq]; omega, hN _ ⟨f ++ rows.map (t :: ·), .fz (.int (k : Nat)), .fz (.str t), x4, k4, ?_, ?_, fun r => ?_⟩⟩
      · rw [List.map_append, List.map_map]
        rfl
      · rw [List.length_append, List.length_map, Nat.succ_mul]
        omega
      · rw [List.mem_append, O r, List.mem_map]
        constructor
        · rintro (⟨i, hi, z⟩ | ⟨q, hq, rfl⟩)
          · exact ⟨i, by omega, z⟩
          · exact ⟨k, by omega, t, q, et, rfl, (rm q).mp hq⟩
        · rintro ⟨i, hi, t2, q, e1, rfl, p⟩
          by_cases z : i = k
          · subst z
            rw [et] at e1
            cases e1
            exact .inr ⟨q, (rm q).mpr p, rfl⟩
          · exact .inl ⟨i, by omega, t2, q, e1, rfl, p⟩
  · rintro ρ ⟨f, x2, x3, x4, k4, rfl, fl, O⟩
    rw [List.length_map, List.length_zipIdx] at fl O
    simp only [sRetV, atS]
    refine h f ?_ (ord_all ne O)
    obtain ⟨m, hm⟩ := Nat.exists_eq_add_of_lt pos
    rw [show T.length = m + 1 by omega] at fl ⊢
    rw [show m + 1 - 1 = m from rfl] at fl
    unfold fctW
    exact fl
end TM
set_option pp.deepTerms.threshold 6
namespace TM
open L2 PySem.Spec PySem PyProof.Rows
def insB (B row : List Str) : List (List Str) := (List.range (row.length + 1)).map fun i => row.take i ++ B ++ row.drop i
def rowB (B row : List Str) : List (List Str) := row :: insB B row
theorem rowB_len (B row : List Str) : (rowB B row).length = row.length + 2 := by
  unfold rowB insB
  rw [List.length_cons, List.length_map, List.length_range]
theorem rowB_mem {B row r : List Str} : r ∈ rowB B row ↔ r = row ∨ ∃ A C, row = A ++ C ∧ r = A ++ B ++ C := by
  unfold rowB insB
  rw [List.mem_cons, List.mem_map]
  constructor
  · rintro (h | ⟨i, _, rfl⟩)
    · exact .inl h
    · exact .inr ⟨_, _, (List.take_append_drop i row).symm, rfl⟩
  · rintro (h | ⟨A, C, rfl, rfl⟩)
    · exact .inl h
    · refine .inr ⟨A.length, List.mem_range.mpr (by rw [List.length_append]; omega), ?_⟩
      rw [List.take_left, List.drop_left]
theorem flatB_len {B : List Str} {m : Nat} : ∀ {l : List (List Str)}, (∀ r ∈ l, r.length ≤ m) → (l.flatMap (rowB B)).length ≤ (m + 2) * l.length
  | [], _ => by simp
  | r :: l, h => by
    have a := flatB_len (B := B) (l := l) fun x hx => h x (List.mem_cons_of_mem _ hx)
    have b := h r (List.mem_cons_self ..)
    rw [List.flatMap_cons, List.length_append, rowB_len, List.length_cons, Nat.mul_succ]
    omega
theorem new_b1 {P : DSp} {T row : List Str} {x : Str} {f : List (List Str)} (fz : f.length ≤ 20000) (rz : row.length ≤ 10) {x4 : Ent} (k4 : x4.keep = x4) {E : DEnds}
    (h : E.nx [.fz (bk T), .fz (.str x), .ow ((f ++ rowB [x] row).map fun r => bk r), .fz (bk row), x4]) : n__law_with_new_b1 P [.fz (bk T), .fz (.str x), .ow (f.map fun r => bk r), .fz (bk row), x4] E := by
  simp only [n__law_with_new_b1, sSeq]
  refine (?_ : sMut _ _ _ _ _)
  simp only [sMut, dVar, atS, gApp, List.set, dFz, oLc, iR1, dOp2, dCB, aCons, aNil, dC, dataOf, Option.map_some, gLen, gAdd, List.length_map]
  refine ⟨by rw [sizeLine_eq]; omega, by omega, by omega, ?_⟩
  rw [show (((row.length : Nat) : Int) + 1).toNat = row.length + 1 from by omega]
  unfold rangeD
  refine lm_on (fun i : Nat => (.int (0 + (i : Nat)) : D)) (fun i => [.fz (bk T), .fz (.str x), .ow (f.map (fun r => bk r) ++ [bk row]), .fz (bk row), .fz (.int (0 + (i : Nat)))]) (fun i => bk (row.take i ++ [x] ++ row.drop i)) (List.range (row.length + 1)) (fun i _ => rfl) (fun i hi Ψ hΨ => ?_) (fun i _ => ?_) (by rw [List.length_range, sizeLine_eq]; omega) ?_
  · simp only [dFz, oOp2, oLst, aCons, aNil, dSl, dVar, atS, pNone, pSome, gSl, gCat, dataOf, Option.map_some]
    have e1 : cutD (row.map PyData.str) none (some (0 + (i : Int))) = (row.take i).map PyData.str := by
      rw [Int.zero_add, cutD_take, ← List.map_take]
    have e2 : cutD (row.map PyData.str) (some (0 + (i : Int))) none = (row.drop i).map PyData.str := by
      rw [Int.zero_add, cutD_drop, ← List.map_drop]
    rw [e1, e2]
    refine ⟨szN rfl, by rw [List.length_map, List.length_singleton, List.length_take, sizeLine_eq]; omega, by rw [List.length_append, List.length_map, List.length_singleton, List.length_map, List.length_take, List.length_drop, sizeLine_eq]; omega, ?_⟩
    rw [show (row.take i).map PyData.str ++ [PyData.str x] ++ (row.drop i).map PyData.str = (row.take i ++ [x] ++ row.drop i).map PyData.str from by rw [List.map_append, List.map_append]; rfl]
    exact hΨ
  · show [Ent.fz (bk T), .fz (.str x), .ow (f.map (fun r => bk r) ++ [bk row]), .fz (bk row), x4.keep] = _
    rw [k4]
  simp only [gExt]
  refine ⟨by rw [List.length_append, List.length_map, List.length_map, List.length_range, List.length_singleton, sizeLine_eq]; omega, ?_⟩
  rw [show f.map (fun r => bk r) ++ [bk row] ++ (List.range (row.length + 1)).map (fun i => bk (row.take i ++ [x] ++ row.drop i)) = (f ++ rowB [x] row).map fun r => bk r from by
    unfold rowB insB
    rw [List.map_append, List.map_cons, List.map_map, List.append_assoc]
    rfl]
  exact h
theorem r__law_with_new : ∀ es Ψ Φ, sp__law_with_new es Ψ Φ → es.length = (["terms", "fresh"] : List Str).length ∧ n__law_with_new (sp__law_orders 7) (es ++ List.replicate (N__law_with_new.length - es.length) .un) { nx := fun _ => Ψ (.fz .none), rt := Ψ, ex := fun c p _ => Φ c p } := by
  rintro es Ψ Φ ⟨T, x, rfl, t5, tl, h⟩
  refine ⟨rfl, ?_⟩
  show n__law_with_new (sp__law_orders 7) [.fz (bk T), .fz (.str x), .un, .un, .un] _
  simp only [n__law_with_new, sSeq]
  refine (?_ : sSetO _ _ _ _)
  simp only [sSetO, oLst, aNil, dataOf, List.set]
  refine ⟨szN rfl, ?_⟩
  refine (?_ : sFor _ _ _ _ _)
  simp only [sFor, iL, dCall, aCons, aNil, dVar, atS]
  refine ⟨T, rfl, by omega, by omega, tl, fun rows rl rm => ?_⟩
  dsimp only
  have f5 : fctW T.length ≤ 120 := (show ∀ k ≤ 5, fctW k ≤ 120 by decide) _ t5
  have rz : ∀ r ∈ rows, r.length ≤ 5 := fun r m => by rw [((rm r).mp m).length_eq]; exact t5
  refine for_inv (fun k ρ => ∃ x3 x4 : Ent, x4.keep = x4 ∧ ρ = [.fz (bk T), .fz (.str x), .ow (((rows.take k).flatMap (rowB [x])).map fun r => bk r), x3, x4]) ⟨_, .un, rfl, rfl⟩ ?_ ?_
  · rintro k d ρ hd ⟨x3, x4, k4, rfl⟩
    rw [List.getElem?_map] at hd
    cases e : rows[k]? with
    | none =>
      rw [e] at hd
      cases hd
    | some r =>
      rw [e] at hd
      cases hd
      obtain ⟨hk, e2⟩ := List.getElem?_eq_some_iff.mp e
      refine ⟨_, rfl, fun N hN => ?_⟩
      have fb := flatB_len (B := [x]) (l := rows.take k) (m := 5) fun y hx => rz y (List.mem_of_mem_take hx)
      rw [List.length_take] at fb
      refine new_b1 (by omega) (by have := rz r (List.mem_of_getElem? e); omega) k4 (hN _ ⟨.fz (bk r), x4, k4, ?_⟩)
      rw [List.take_succ_eq_append_getElem hk, List.flatMap_append, e2, List.flatMap_singleton]
  · rintro ρ ⟨x3, x4, k4, rfl⟩
    rw [List.length_map, List.take_length]
    simp only [sRetV, atS]
    have fb := flatB_len (B := [x]) (l := rows) (m := 5) rz
    refine h _ (by omega) fun r => ?_
    rw [List.mem_flatMap]
    constructor
    · rintro ⟨q, hq, hr⟩
      rcases rowB_mem.mp hr with rfl | ⟨A, C, e, e2⟩
      · exact .inl ((rm r).mp hq)
      · exact .inr ⟨q, A, C, (rm q).mp hq, e, e2⟩
    · rintro (p | ⟨q, A, C, p, e, e2⟩)
      · exact ⟨r, (rm r).mpr p, rowB_mem.mpr (.inl rfl)⟩
      · exact ⟨q, (rm q).mpr p, rowB_mem.mpr (.inr ⟨A, C, e, e2⟩)⟩
end TM
set_option pp.deepTerms.threshold 5
namespace TM
open L2 PySem.Spec PySem PyProof.Rows
theorem r__law_decides : ∀ es Ψ Φ, sp__law_decides es Ψ Φ → es.length = (["view", "front", "top"] : List Str).length ∧ n__law_decides (es ++ List.replicate (N__law_decides.length - es.length) .un) { nx := fun _ => Ψ (.fz .none), rt := Ψ, ex := fun c p _ => Φ c p } := by
  rintro es Ψ Φ ⟨s, b, n, rfl, hs, bz, h⟩
  refine ⟨rfl, ?_⟩
  show n__law_decides [.fz s.d, .fz (.str b), .fz (.int (n : Nat)), .un] _
  have few := hs.few
  have s20 := hs.n2
  unfold dec at h
  have e0 : atI [PyData.str s.b, .int (s.n : Nat), bk s.sh] 0 = some (.str s.b) := rfl
  have e1 : atI [PyData.str s.b, .int (s.n : Nat), bk s.sh] 1 = some (.int (s.n : Nat)) := rfl
  have e2 : atI [PyData.str s.b, .int (s.n : Nat), bk s.sh] 2 = some (bk s.sh) := rfl
  simp only [n__law_decides, sSeq]
  refine (?_ : sIf _ _ _ _ _)
  simp only [sIf, dNotT, dTst, dMS, dOp2, dVar, dC, atS, gGet, e0, gSw]
  cases e : Txt.startswith b s.b with
  | false =>
    rw [e, Bool.false_and] at h
    simp only [Bool.not_false, if_true, sRet, dC]
    exact h
  | true =>
    rw [e, Bool.true_and] at h
    simp only [Bool.not_true, Bool.false_eq_true, if_false, sNil, sRet, dOr, dOp2, dCB, aCons, aNil, dVar, dC, atS, gGet, e1, e2, dataOf, Option.map_some, gLen, List.length_map, gLt, gOrd]
    rw [show decide (((s.sh.length : Nat) : Int) < (s.n : Nat)) = short s from decide_eq_decide.mpr (by omega)]
    refine ite_b (fun e3 => ?_) (fun e3 => ?_)
    · rw [e3, Bool.true_or] at h
      exact h
    · rw [e3, Bool.false_or] at h
      simp only [dFz, oLc, iL, dOp2, dVar, dC, atS, gGet, e2]
      refine lc_pure (fun d => [.fz s.d, .fz (.str b), .fz (.int (n : Nat)), .fz d]) id (swD b) (s.sh.map .str) [] (fun d _ => rfl) (fun d hd Ψ hΨ => ?_) (fun d hd e Ψ h => h) (fun d _ => rfl) (by rw [List.length_nil, List.length_map, sizeLine_eq]; omega) ?_
      · obtain ⟨w, hw, rfl⟩ := List.mem_map.mp hd
        exact hΨ
      rw [List.nil_append, List.map_id, filter_sw]
      simp only [atS, dVar, dataOf, Option.map_some, gLen, List.length_map, gGe, gOrd]
      rw [show decide (((n : Nat) : Int) ≤ (((s.sh.filter fun w => Txt.startswith w b).length : Nat) : Int)) = decide (n ≤ (s.sh.filter fun w => Txt.startswith w b).length) from decide_eq_decide.mpr (by omega)]
      exact h
theorem nat_repr {o : Option Nat} (h : ∀ i, o = some i → i < 64) : (natD o).showable = true ∧ (natD o).depth ≤ 50 ∧ (natD o).shown.length ≤ sizeLine := by
  cases o with
  | none => exact Rw.none.repr (by decide) (by decide)
  | some i => exact (Rw.small (h i rfl)).repr (by decide) (by decide)
theorem bkO_repr {o : Option (List Str)} (h : ∀ ws, o = some ws → ws.length ≤ 20 ∧ ∀ w ∈ ws, lets w ∧ w.length ≤ 1000) : (bkO o).showable = true ∧ (bkO o).depth ≤ 50 ∧ (bkO o).shown.length ≤ sizeLine := by
  cases o with
  | none => exact Rw.none.repr (by decide) (by decide)
  | some ws => exact (Rw.book (n := 20) (m := 1000) (h ws rfl).2 (h ws rfl).1).repr (by decide) (by decide)
theorem r_sure_in : ∀ es Ψ Φ, sv_sure_in es Ψ Φ → es.length = (["screens", "beginning", "limit"] : List Str).length ∧ n_sure_in sp_decider_in sp_answer_in (es ++ List.replicate (N_sure_in.length - es.length) .un) { nx := fun _ => Ψ (.fz .none), rt := Ψ, ex := fun c p _ => Φ c p } := by
  rintro es Ψ Φ ⟨l, b, n, rfl, hl, hs, bz, h⟩
  refine ⟨rfl, ?_⟩
  show n_sure_in sp_decider_in sp_answer_in [.fz (scs l), .fz (.str b), .fz (.int (n : Nat)), .un] _
  simp only [n_sure_in, sSeq]
  refine (?_ : sSet _ _ _ _)
  simp only [sSet, dCall, aCons, aNil, dVar, atS]
  refine ⟨l, b, n, rfl, hl, hs, bz, ?_⟩
  simp only [List.set]
  refine (?_ : sRetN _ _ _)
  cases e : decider l b n with
  | none =>
    rw [sure_none e] at h
    simp only [sRetN, dIf, dTst, dIsN, dOp1, dVar, atS, gIsN, natD, D.isNone, bne_self_eq_false, Bool.false_eq_true, if_false, dNf, dC]
    exact ⟨rfl, h⟩
  | some i =>
    obtain ⟨s, e1, e2, e3⟩ := sure_at e
    rw [e2] at h
    have so := hs s (List.mem_of_getElem? e1)
    have few := so.few
    have s20 := so.n2
    simp only [sRetN, dIf, dTst, dIsN, dOp1, dVar, atS, gIsN, natD, D.isNone]
    refine ite_b (fun _ => ?_) (fun z => absurd z (by decide))
    simp only [dNCall, aCons, aNil, dOp2, dVar, dC, atS, gGet]
    rw [show atI (l.map Scr.d) ((i : Nat) : Int) = some s.d from atI_nat (by rw [List.getElem?_map, e1]; rfl)]
    dsimp only
    rw [show atI [PyData.str s.b, .int (s.n : Nat), bk s.sh] 2 = some (bk s.sh) from rfl]
    refine ⟨s.sh, b, n, rfl, by rw [sizeLine_eq]; omega, ?_, h⟩
    rw [List.all_eq_true]
    intro d m
    obtain ⟨w, _, rfl⟩ := List.mem_map.mp m
    rfl
theorem r_sure_answer : ∀ es Ψ Φ, sv_sure_answer es Ψ Φ → es.length = (["screens", "beginning", "limit"] : List Str).length ∧ n_sure_answer sp_require_question sv_sure_in (es ++ List.replicate (N_sure_answer.length - es.length) .un) { nx := fun _ => Ψ (.fz .none), rt := Ψ, ex := fun c p _ => Φ c p } := by
  rintro es Ψ Φ ⟨l, b, n, rfl, q, h⟩
  refine ⟨rfl, ?_⟩
  show n_sure_answer sp_require_question sv_sure_in (quest l b n) _
  simp only [n_sure_answer, sSeq, sExp, sRetN, dCall, dNCall, aCons, aNil, dVar, atS]
  exact ⟨l, b, n, rfl, q, l, b, n, rfl, q.1, q.2.1, q.2.2.2.2.1, h⟩
/-! ### the law's list of answers -/
def addD (l : List Scr) (b : Str) (n : Nat) (F : List (List Str)) (r : List Str) : List (List Str) := if l.all (shows r) = true then (if ans r b n ∈ F then F else F ++ [ans r b n]) else F
theorem any_rows (F : List (List Str)) (a : List Str) : ((F.map fun r => bk r).any fun z => PyData.eqv z (bk a)) = decide (a ∈ F) := by
  induction F with
  | nil => rfl
  | cons x F ih =>
    rw [List.map_cons, List.any_cons, ih, show PyData.eqv (bk x) (bk a) = (x == a) from eqv_strs x a]
    by_cases e : x = a
    · subst e
      simp
    · have e2 : (x == a) = false := beq_eq_false_iff_ne.mpr e
      rw [e2, Bool.false_or]
      refine decide_eq_decide.mpr ⟨fun m => List.mem_cons_of_mem _ m, fun m => ?_⟩
      rcases List.mem_cons.mp m with z | z
      · exact absurd z.symm e
      · exact z
theorem due_b1 {l : List Scr} {b : Str} {n : Nat} (hl : l.length ≤ 20) (hs : ∀ s ∈ l, ScrOk s) (bz : b.length ≤ 2000) {r : List Str} (hr : BookOk r) {F : List (List Str)} (fb : ∀ a ∈ F, ∀ w ∈ a, lets w) (fz : F.length ≤ 20000) {x5 : Ent} {E : DEnds}
    (h : ∀ y5, E.nx [.fz (scs l), .fz (.str b), .fz (.int (n : Nat)), .ow ((addD l b n F r).map fun r => bk r), .fz (bk r), y5]) :
    n__law_due_b1 sj__law_known sp__law_with_new sp__law_shows sp__law_answer [.fz (scs l), .fz (.str b), .fz (.int (n : Nat)), .ow (F.map fun r => bk r), .fz (bk r), x5] E := by
  unfold addD at h
  simp only [n__law_due_b1]
  refine (?_ : sIf _ _ _ _ _)
  simp only [sIf, dTst, dCall, aCons, aNil, dVar, atS]
  refine ⟨r, l, rfl, hr, hl, hs, ?_⟩
  refine ite_b (fun e => ?_) (fun e => ?_)
  · rw [if_pos e] at h
    simp only [sSeq]
    refine (?_ : sSet _ _ _ _)
    simp only [sSet, dCall, aCons, aNil, dVar, atS]
    refine ⟨r, b, n, rfl, hr, by rw [sizeLine_eq]; omega, ?_⟩
    have al : ∀ w ∈ ans r b n, lets w := fun w m => (hr.word w (ans_mem m).1).1
    simp only [List.set]
    refine (?_ : sIf _ _ _ _ _)
    simp only [sIf, tBor, dTst, dOp2, dVar, List.map, Ent.view, atS, gIn]
    refine ⟨shaped_book al, shaped_rows fb, ?_⟩
    rw [any_rows]
    refine ite_b (fun q => ?_) (fun q => ?_)
    · have q : ans r b n ∉ F := by simpa using q
      rw [if_neg q] at h
      simp only [sMut, dVar, atS, gApp, List.set, List.length_map]
      refine ⟨by rw [sizeLine_eq]; omega, ?_⟩
      rw [List.map_append] at h
      exact h _
    · have q : ans r b n ∈ F := by simpa using q
      rw [if_pos q] at h
      exact h _
  · rw [if_neg (by rw [e]; decide)] at h
    exact h _
theorem r__law_due : ∀ es Ψ Φ, sv__law_due es Ψ Φ → es.length = (["views", "front", "top"] : List Str).length ∧ n__law_due sj__law_known sp__law_with_new sp__law_shows sp__law_answer (es ++ List.replicate (N__law_due.length - es.length) .un) { nx := fun _ => Ψ (.fz .none), rt := Ψ, ex := fun c p _ => Φ c p } := by
  rintro es Ψ Φ ⟨l, b, n, rfl, ⟨hl, ⟨ws, w5, wl, hm⟩, hb, n1, n2⟩, h⟩
  refine ⟨rfl, ?_⟩
  have hs : ∀ s ∈ l, ScrOk s := fun s m => (hm s m).1.ok
  have bz := hb.2
  show n__law_due sj__law_known sp__law_with_new sp__law_shows sp__law_answer [.fz (scs l), .fz (.str b), .fz (.int (n : Nat)), .un, .un, .un] _
  simp only [n__law_due, sSeq]
  refine (?_ : sSetO _ _ _ _)
  simp only [sSetO, oLst, aNil, dataOf, List.set]
  refine ⟨szN rfl, ?_⟩
  refine (?_ : sFor _ _ _ _ _)
  simp only [sFor, iL, dCall, aCons, aNil, dVar, atS, dOp2, dC, gAdd]
  refine ⟨l, rfl, hl, hs, fun ys K => ?_⟩
  have sub : ∀ y ∈ ys, y ∈ ws := fun y m => known_in_book (fun s m => (hm s m).1) ((K.mem y).mp m)
  have y5 : ys.length ≤ 5 := Nat.le_trans (nodup_le K.nd sub) w5
  have yw : ∀ y ∈ ys, lets y ∧ 1 ≤ y.length := fun y m => by
    have z := inK_ok hs ((K.mem y).mp m)
    exact ⟨z.1, z.2.1⟩
  have hy : ∀ y ∈ ys, inL "ab" y ∧ y.length ≤ 100 := fun y m => wl y (sub y m)
  have xl : (b ++ ("zzzz" : Str)).length = b.length + 4 := strLen_append ..
  refine ⟨by rw [show ("zzzz" : Str).length = 4 from rfl, sizeLine_eq]; omega, ?_⟩
  refine ⟨ys, b ++ "zzzz", rfl, y5, fun y m => (yw y m).1, fun rs rz hr => ?_⟩
  have xlet : lets (b ++ ("zzzz" : Str)) := lets_app hb.1 (by unfold lets; decide)
  have rbook : ∀ r ∈ rs, BookOk r := fun r m => by
    have new : b ++ "zzzz" ∉ ys := zz_new fun w m => (hy w m).1
    have key : ∀ q : List Str, q.Perm ys → (q.Nodup ∧ q.length ≤ 5 ∧ ∀ w ∈ q, lets w ∧ 1 ≤ w.length ∧ w.length ≤ 1000) := fun q p => ⟨p.symm.nodup K.nd, by rw [p.length_eq]; exact y5, fun w m => by
      have m' := p.mem_iff.mp m
      have := (hy w m').2
      exact ⟨(yw w m').1, (yw w m').2, by omega⟩⟩
    rcases (hr r).mp m with p | ⟨q, A, C, p, rfl, rfl⟩
    · obtain ⟨a, b, c⟩ := key r p
      exact ⟨a, by omega, c⟩
    · obtain ⟨k1, k2, k3⟩ := key _ p
      have pm : (A ++ [b ++ "zzzz"] ++ C).Perm ((b ++ "zzzz") :: (A ++ C)) := by
        rw [List.append_assoc]
        exact List.perm_middle
      refine ⟨pm.symm.nodup (List.nodup_cons.mpr ⟨fun z => new (p.mem_iff.mp z), k1⟩), by rw [pm.length_eq, List.length_cons]; omega, fun w m => ?_⟩
      rcases List.mem_cons.mp (pm.mem_iff.mp m) with rfl | z
      · exact ⟨xlet, by omega, by omega⟩
      · exact k3 w z
  refine for_inv (fun k ρ => ∃ (F : List (List Str)) (x4 x5 : Ent), ρ = [.fz (scs l), .fz (.str b), .fz (.int (n : Nat)), .ow (F.map fun r => bk r), x4, x5] ∧ F.Nodup ∧ F.length ≤ k ∧ ∀ a, a ∈ F ↔ ∃ r ∈ rs.take k, l.all (shows r) = true ∧ ans r b n = a) ⟨[], _, _, rfl, List.nodup_nil, Nat.le_refl _, fun a => by simp⟩ ?_ ?_
  · rintro k d ρ hd ⟨F, x4, x5, rfl, nd, fl, mem⟩
    rw [List.getElem?_map] at hd
    cases er : rs[k]? with
    | none =>
      rw [er] at hd
      cases hd
    | some r =>
      rw [er] at hd
      cases hd
      have hk : k < rs.length := (List.getElem?_eq_some_iff.mp er).1
      have mr := List.mem_of_getElem? er
      refine ⟨_, rfl, fun N hN => ?_⟩
      change n__law_due_b1 _ _ _ _ [.fz (scs l), .fz (.str b), .fz (.int (n : Nat)), .ow (F.map fun r => bk r), .fz (bk r), x5] _
      refine due_b1 hl hs (by omega) (rbook r mr) (fun a m w q => ?_) (by omega) fun y5 => hN _ ⟨addD l b n F r, _, _, rfl, ?_, ?_, fun a => ?_⟩
      · obtain ⟨r', m', _, rfl⟩ := (mem a).mp m
        exact ((rbook r' (List.mem_of_mem_take m')).word w (ans_mem q).1).1
      · unfold addD
        split
        · split
          · exact nd
          · rename_i z
            rw [List.nodup_append]
            exact ⟨nd, by simp, fun a ha b hb e => z (by rw [← List.mem_singleton.mp hb, ← e]; exact ha)⟩
        · exact nd
      · unfold addD
        split
        · split
          · omega
          · rw [List.length_append, List.length_singleton]
            omega
        · omega
      · rw [List.take_succ, er]
        unfold addD
        simp only [Option.toList_some, List.mem_append, List.mem_singleton]
        constructor
        · intro m
          split at m
          · rename_i e
            split at m
            · obtain ⟨r', m', q⟩ := (mem a).mp m
              exact ⟨r', .inl m', q⟩
            · rcases List.mem_append.mp m with m | m
              · obtain ⟨r', m', q⟩ := (mem a).mp m
                exact ⟨r', .inl m', q⟩
              · exact ⟨r, .inr rfl, e, (List.mem_singleton.mp m).symm⟩
          · obtain ⟨r', m', q⟩ := (mem a).mp m
            exact ⟨r', .inl m', q⟩
        · rintro ⟨r', m' | rfl, e, rfl⟩
          · have inF := (mem _).mpr ⟨r', m', e, rfl⟩
            split
            · split
              · exact inF
              · exact List.mem_append_left _ inF
            · exact inF
          · rw [if_pos e]
            split
            · assumption
            · exact List.mem_append_right _ (List.mem_singleton.mpr rfl)
  · rintro ρ ⟨F, x4, x5, rfl, nd, fl, mem⟩
    rw [List.length_map, List.take_length] at mem
    rw [List.length_map] at fl
    have due := due_eq hm K hy yw hb n1 n2 hr nd mem
    dsimp only
    simp only [sRet, dIf, dTst, dOp2, dBor, dCB, aCons, aNil, dVar, dC, List.map, Ent.view, atS, dataOf, Option.map_some, gLen, List.length_map]
    refine ⟨rfl, .inl ⟨rfl, rfl, ?_⟩⟩
    rcases due with ⟨a, rfl, e⟩ | ⟨ne, e⟩
    · rw [e] at h
      refine ite_b (fun _ => ?_) (fun z => Bool.noConfusion (show true = false from z))
      simp only [dGetOw, dC, atS]
      exact h
    · rw [e] at h
      refine ite_b (fun z => absurd z ?_) (fun _ => ?_)
      · simp only [PyData.eqv]
        intro z
        exact ne (by have := of_decide_eq_true z; omega)
      · exact h
theorem sure_rp {l : List Scr} {b : Str} {n : Nat} (hs : ∀ s ∈ l, ScrOk s) (n2 : n ≤ 20) : Rw (bkO (sure l b n)) (2 + 20 * (10 * 1000 + 4)) 1 := by
  cases q : sure l b n with
  | none => exact Rw.none.up
  | some vs =>
    have : ∃ s ∈ l, vs = ans s.sh b n := by
      unfold sure at q
      rw [Option.map_eq_some_iff] at q
      obtain ⟨s, e, rfl⟩ := q
      exact ⟨s, List.mem_of_find?_eq_some e, rfl⟩
    obtain ⟨s, ms, rfl⟩ := this
    have bo := book_ans (hs s ms).sh b n
    refine Rw.book (fun w hw => ⟨(bo.word w hw).1, (bo.word w hw).2.2⟩) ?_
    unfold ans
    rw [List.length_take]
    omega
theorem right_b1 {l : List Scr} {b : Str} {n : Nat} (Q : QOk l b n) {x3 x4 x5 x7 x8 x9 : Ent} {E : DEnds} (h : ∀ y5, E.nx [.fz (scs l), .fz (.str b), .fz (.int (n : Nat)), x3, x4, y5, .fz (bkO (sure l b n)), x7, x8, x9]) :
    n__law_right_b1 sv__law_due sv_sure_answer sp__law_decides sp_deciding_screen [.fz (scs l), .fz (.str b), .fz (.int (n : Nat)), x3, x4, x5, .fz (bkO (sure l b n)), x7, x8, x9] E := by
  obtain ⟨hl, hs, nt, lb, bz, n1, n2⟩ := Q
  have rp := sure_rp (b := b) hs n2
  have rr := (Rw.pair rp rp).repr (by decide) (by decide)
  simp only [n__law_right_b1, sSeq]
  refine (?_ : sSetN _ _ _ _)
  simp only [sSetN, dNLst, dNCall, aCons, aNil, dVar, atS]
  refine ⟨l, b, n, rfl, ⟨hl, hs, nt, lb, bz, n1, n2⟩, l, b, n, rfl, ⟨hl, hs, nt, lb, bz, n1, n2⟩, ?_⟩
  simp only [dataOf, Option.map_some, List.set]
  refine ⟨szN rfl, ?_⟩
  refine (?_ : sIf _ _ _ _ _)
  simp only [sIf, dTst, dOp2, dBor, dCB, dFz, oLst, aCons, aNil, dVar, List.map, Ent.view, atS, dataOf, Option.map_some]
  refine ⟨rr.1, rr.2.1, rr.2.2, rfl, szN rfl, rr.1, rr.2.1, rr.2.2, .inr ⟨_, _, rfl, rfl, ?_⟩⟩
  rw [beq_self_eq_true]
  simp only [Bool.not_true, Bool.false_eq_true, if_false, sNil]
  simp only [tBor, dTst, dIsN, dOp1, dOp2, dVar, dC, List.map, Ent.view, atS, gGet]
  rw [show atI [bkO (sure l b n), bkO (sure l b n)] 0 = some (bkO (sure l b n)) from rfl]
  simp only [gIsN]
  cases e : sure l b n with
  | none =>
    rw [e] at h
    exact h _
  | some vs =>
    rw [e] at h
    refine ite_b (fun _ => ?_) (fun z => Bool.noConfusion (show true = false from z))
    simp only [sAppP, atS]
    rw [show atI [bkO (some vs), bkO (some vs)] 0 = some (.list (vs.map .str)) from rfl]
    refine ⟨?_, h _⟩
    have := rp.wt
    unfold sure at e
    rw [Option.map_eq_some_iff] at e
    obtain ⟨s, e1, rfl⟩ := e
    rw [List.length_map, sizeLine_eq]
    unfold ans
    rw [List.length_take]
    omega
theorem r__law_right : ∀ es Ψ Φ, sv__law_right es Ψ Φ → es.length = (["views", "front", "top"] : List Str).length ∧ n__law_right sv__law_due sv_sure_answer sp__law_decides sp_deciding_screen (es ++ List.replicate (N__law_right.length - es.length) .un) { nx := fun _ => Ψ (.fz .none), rt := Ψ, ex := fun c p _ => Φ c p } := by
  rintro es Ψ Φ ⟨l, b, n, rfl, R, h⟩
  refine ⟨rfl, ?_⟩
  obtain ⟨hl, ⟨ws, w5, wl, hm⟩, hb, n1, n2⟩ := id R
  have hs : ∀ s ∈ l, ScrOk s := fun s m => (hm s m).1.ok
  have nt := made_calm fun s m => (hm s m).1
  have bz := hb.2
  have Q : QOk l b n := ⟨hl, hs, nt, hb.1, by omega, n1, n2⟩
  have rs := (scs_rw hl fun s m => (hm s m).1.scb).repr (by decide) (by decide)
  show n__law_right sv__law_due sv_sure_answer sp__law_decides sp_deciding_screen [.fz (scs l), .fz (.str b), .fz (.int (n : Nat)), .un, .un, .un, .un, .un, .un, .un] _
  simp only [n__law_right, sSeq]
  refine (?_ : sPar _ _ _ _)
  simp only [sPar, dCall, dCB, aCons, aNil, dVar, atS]
  refine ⟨l, b, n, rfl, R, ?_⟩
  simp only [dataOf, Option.map_some]
  refine ⟨rs.1, rs.2.1, rs.2.2, ?_⟩
  simp only [setEs, List.set]
  refine (?_ : sFor _ _ _ _ _)
  simp only [sFor, iR1, dC]
  refine ⟨by decide, by decide, ?_⟩
  refine for_inv (fun _ ρ => ∃ y3 y5 : Ent, y3.keep = y3 ∧ ρ = [.fz (scs l), .fz (.str b), .fz (.int (n : Nat)), y3, .un, y5, .fz (bkO (sure l b n)), .fz (.str (scs l).shown), .un, .un]) ⟨_, _, rfl, rfl⟩ ?_ ?_
  · rintro k d ρ hd ⟨y3, y5, _, rfl⟩
    obtain ⟨rfl, hk⟩ := rangeD_get hd
    refine ⟨_, rfl, fun N hN => ?_⟩
    exact right_b1 Q fun y5 => hN _ ⟨_, _, rfl, rfl⟩
  · rintro ρ ⟨y3, y5, k3, rfl⟩
    dsimp only
    refine (?_ : sSet _ _ _ _)
    simp only [sSet, dFz, oOp2, oLc, iE, dVar, atS]
    rw [enum_on]
    refine lc_on (fun p : Scr × Nat => .tuple [.int ((p.2 : Nat) : Int), p.1.d]) (fun p => [.fz (scs l), .fz (.str b), .fz (.int (n : Nat)), y3, .un, y5, .fz (bkO (sure l b n)), .fz (.str (scs l).shown), .fz (.int ((p.2 : Nat) : Int)), .fz p.1.d]) (fun p => .int ((p.2 : Nat) : Int)) (fun p => dec b n p.1) l.zipIdx [] (fun p _ => rfl) (fun p hp Ψ hΨ => ?_) (fun p hp _ Ψ hΨ => hΨ) (fun p _ => rfl) ?_ ?_
    · have mp : p.1 ∈ l := List.fst_mem_of_mem_zipIdx hp
      simp only [dTst, dCall, aCons, aNil, dVar, atS]
      exact ⟨p.1, b, n, rfl, hs _ mp, by omega, hΨ⟩
    · rw [List.length_nil, List.length_zipIdx, sizeLine_eq]
      omega
    rw [List.nil_append]
    rw [show (l.zipIdx.filter fun p => dec b n p.1).map (fun p => (.int ((p.2 : Nat) : Int) : D)) = decs l b n from rfl]
    have dl := decs_len l b n
    have e0 : atI (decs l b n ++ [PyData.none]) 0 = some (natD (decider l b n)) := atI_nat (j := 0) (decs_head l b n)
    generalize decs l b n = W at dl e0 ⊢
    simp only [oLst, aCons, aNil, dC, dataOf, Option.map_some]
    refine ⟨szN rfl, ?_⟩
    simp only [gCat]
    refine ⟨by rw [sizeLine_eq, List.length_singleton]; omega, ?_⟩
    simp only [List.set]
    simp only [sSet, dFz, oLst, dCall, aCons, aNil, dVar, atS]
    refine ⟨l, b, n, rfl, Q, l, b, n, rfl, Q, ?_⟩
    simp only [dataOf, Option.map_some, List.set]
    refine ⟨szN rfl, ?_⟩
    have rn : Rw (natD (decider l b n)) 20 0 := by
      cases q : decider l b n with
      | none => exact Rw.none.up
      | some i => exact Rw.small (by have := decider_lt q; omega)
    have rnn := (Rw.pair rn rn).repr (by decide) (by decide)
    have sd : (D.isNone (natD (decider l b n))) = D.isNone (bkO (sure l b n)) := by
      cases q : decider l b n with
      | none => rw [sure_none q]; rfl
      | some i =>
        obtain ⟨s, _, e2, _⟩ := sure_at q
        rw [e2]
        rfl
    refine (?_ : sRet _ _ _)
    simp only [sRet, dAnd, dOp2, dCB, dFz, oOp2, oLst, dIsN, dOp1, aCons, aNil, dVar, dC, atS, dataOf, Option.map_some, gGet, e0]
    refine ⟨rnn.1, rnn.2.1, rnn.2.2, szN rfl, ?_⟩
    simp only [gRep]
    refine ⟨by decide, by decide, by show 2 ≤ sizeLine; decide, ?_⟩
    rw [show (List.replicate (2 : Int).toNat [natD (decider l b n)]).flatten = [natD (decider l b n), natD (decider l b n)] from rfl]
    refine ⟨rnn.1, rnn.2.1, rnn.2.2, .inr ⟨_, _, rfl, rfl, ?_⟩⟩
    rw [beq_self_eq_true]
    refine ite_b (fun _ => ?_) (fun z => absurd z (by decide))
    refine ⟨rs.1, rs.2.1, rs.2.2, .inr ⟨_, _, rfl, rfl, ?_⟩⟩
    rw [beq_self_eq_true]
    refine ite_b (fun _ => ?_) (fun z => absurd z (by decide))
    simp only [gIsN, sd]
    refine .inl ⟨rfl, rfl, ?_⟩
    rw [show PyData.eqv (PyData.bool (false != D.isNone (bkO (sure l b n)))) (.bool (false != D.isNone (bkO (sure l b n)))) = true from by
      cases (false != D.isNone (bkO (sure l b n))) <;> rfl]
    exact h
theorem keep_undk {e : Ent} (h : e.keep = e) : e.undk.keep = e.undk := by
  cases e <;> first | rfl | exact h
/-- one question -/
theorem b1_ok {ns : List Int} {ws : List Str} {l : List Scr} (hb : BookOk ws) (w5 : ws.length ≤ 5) (wl : ∀ w ∈ ws, inL "ab" w ∧ w.length ≤ 100) (hl : l.length ≤ 20) (hm : ∀ s ∈ l, Made ws s ∧ inL "ab" s.b) {x1 x5 x6 : Ent} {E : DEnds}
    (h : E.nx [.sc ns, x1, .fz (scs l), .dk, .fz (bk ws), x5, x6]) :
    n_law_b1 sp__law_jar sj__law_terms sp__law_views sp__law_front spDraw sv__law_right sv_sure_answer [.sc ns, x1, .fz (scs l), .dk, .fz (bk ws), x5, x6] E := by
  simp only [n_law_b1]
  refine (?_ : sIf _ _ _ _ _)
  simp only [sIf, dNotT, dTst, dCall, dOp2, aDk, aCons, aNil, dVar, dC, atS]
  refine ⟨ws, "ab", rfl, hb, fun w m => (wl w m).2, lets_ab, by decide, by decide, fun b hb2 _ => ?_⟩
  refine ⟨4, rfl, by decide, by decide, fun z z0 z1 => ?_⟩
  obtain ⟨a, rfl⟩ := Int.eq_ofNat_of_zero_le z0
  simp only [gAdd]
  rw [show (1 : Int) + ((a : Nat) : Int) = ((1 + a : Nat) : Int) by push_cast; rfl]
  refine ⟨l, b, 1 + a, rfl, ⟨hl, ⟨ws, w5, wl, hm⟩, hb2, by omega, by omega⟩, ?_⟩
  simp only [Bool.not_true, Bool.false_eq_true, if_false, sNil]
  exact h
/-- one lap -/
theorem b2_ok {ns : List Int} {i : Nat} {x2 x3 x4 x5 x6 : Ent} (k6 : x6.keep = x6) {E : DEnds}
    (h : ∀ y1 y2 y3 y4 y5 y6 : Ent, y6.keep = y6 → E.nx [.sc ns, y1, y2, y3, y4, y5, y6]) :
    n_law_b2 sp__law_jar sj__law_terms sp__law_views sp__law_front spDraw sv__law_right sv_sure_answer [.sc ns, .fz (.int (i : Nat)), x2, x3, x4, x5, x6] E := by
  unfold n_law_b2
  unfold sJar
  simp only [oCall, aDk, aCons, aNil, dVar, atS]
  refine ⟨ns, i, rfl, fun x y y0 y1 => ⟨x, y, rfl, y0, y1, ?_⟩⟩
  simp only [List.set]
  have fin : ∀ (z1 z2 z4 z5 : Ent), E.nx ([.sc ns, z1, z2, .dk, z4, z5, x6].map Ent.undk) := fun z1 z2 z4 z5 => h _ _ _ _ _ _ (keep_undk k6)
  unfold sSeq
  refine (?_ : sSet _ _ _ _)
  simp only [sSet, dCall, aDk, aCons, aNil, dC, atS]
  refine ⟨5, "ab", 4, rfl, by decide, by decide, by decide, lets_ab, by decide, by decide, fun ws nd len tw => ?_⟩
  have hb : BookOk ws := ⟨nd, by omega, fun w hw => ⟨term_lets lets_ab (tw w hw), (tw w hw).1, by have := (tw w hw).2.1; omega⟩⟩
  have wl : ∀ w ∈ ws, w.length ≤ 100 := fun w hw => by
    have := (tw w hw).2.1
    omega
  have wi : ∀ w ∈ ws, inL "ab" w := fun w hw => (tw w hw).2.2
  dsimp only
  refine ⟨ws, 4, 3, "ab", rfl, hb, wl, by decide, by decide, by decide, lets_ab, by decide, by decide, fun l hl hm0 => ?_⟩
  have hm : ∀ s ∈ l, Made ws s ∧ inL "ab" s.b := fun s m => ⟨(hm0 s m).1, (hm0 s m).2 wi⟩
  simp only [List.set]
  refine (?_ : sFor _ _ _ _ _)
  simp only [sFor, iR1, dC]
  refine ⟨by decide, by decide, ?_⟩
  refine for_inv (fun _ ρ => ∃ y5 : Ent, ρ = [.sc ns, .fz (.int (i : Nat)), .fz (scs l), .dk, .fz (bk ws), y5, x6]) ⟨_, rfl⟩ ?_ ?_
  · rintro k d ρ hd ⟨y5, rfl⟩
    obtain ⟨rfl, hk⟩ := rangeD_get hd
    refine ⟨_, rfl, fun N hN => ?_⟩
    exact b1_ok hb len (fun w m => ⟨wi w m, wl w m⟩) (by omega) hm (hN _ ⟨_, rfl⟩)
  · rintro ρ ⟨y5, rfl⟩
    exact fin _ _ _ _
theorem lets_car : lets "car" := by
  unfold lets
  decide
theorem lets_cat : lets "cat" := by
  unfold lets
  decide
theorem lets_dog : lets "dog" := by
  unfold lets
  decide
theorem lets_dot : lets "dot" := by
  unfold lets
  decide
theorem lets_c : lets "c" := by
  unfold lets
  decide
theorem lets_do : lets "do" := by
  unfold lets
  decide
theorem lets_dox : lets "dox" := by
  unfold lets
  decide
def v27 : List Scr := [⟨"", 2, ["car", "dog"]⟩, ⟨"c", 2, ["car", "cat"]⟩, ⟨"do", 3, ["dog", "dot"]⟩]
theorem two_words {a b : Str} (ha : lets a ∧ 1 ≤ a.length ∧ a.length ≤ 1000) (hb : lets b ∧ 1 ≤ b.length ∧ b.length ≤ 1000) (ne : a ≠ b) : BookOk [a, b] := ⟨by simp [ne], by show 2 < 4000; decide, fun w q => by
  rcases List.mem_cons.mp q with rfl | q
  · exact ha
  · rw [List.mem_singleton.mp q]
    exact hb⟩
theorem r_law : ∀ ns : List Int, ns.length ≤ 63 → n_law sp__law_jar sj__law_terms sp__law_views sp__law_front spDraw sv__law_right sv_sure_answer (.sc ns :: List.replicate (N_law.length - 1) .un) lawE := by
  intro ns hn
  show n_law sp__law_jar sj__law_terms sp__law_views sp__law_front spDraw sv__law_right sv_sure_answer [.sc ns, .un, .un, .un, .un, .un, .un] lawE
  simp only [n_law, sSeq, sFor, iR1, dCB, aCons, aNil, dC, dLenSc, atS, dataOf, Option.map_some, gMin2, gMax2]
  generalize em : (if (if ((ns.length : Nat) : Int) < 5 then ((ns.length : Nat) : Int) else 5) > 1 then (if ((ns.length : Nat) : Int) < 5 then ((ns.length : Nat) : Int) else 5) else 1) = m
  have hm : 1 ≤ m ∧ m ≤ 5 := by
    rw [← em]
    split <;> split at * <;> omega
  refine ⟨by omega, by omega, ?_⟩
  refine for_inv (fun _ ρ => ∃ x1 x2 x3 x4 x5 x6 : Ent, x6.keep = x6 ∧ ρ = [.sc ns, x1, x2, x3, x4, x5, x6]) ⟨_, _, _, _, _, .un, rfl, rfl⟩ ?_ ?_
  · rintro i d ρ hd ⟨x1, x2, x3, x4, x5, x6, k6, rfl⟩
    obtain ⟨rfl, hi⟩ := rangeD_get hd
    refine ⟨_, rfl, fun N hN => ?_⟩
    rw [show (0 : Int) + ((i : Nat) : Int) = ((i : Nat) : Int) by omega]
    exact b2_ok k6 fun _ _ _ _ _ _ j6 => hN _ ⟨_, _, _, _, _, _, j6, rfl⟩
  · rintro ρ ⟨x1, x2, x3, x4, x5, x6, k6, rfl⟩
    simp only [sSet, dFz, oLst, dTup, aCons, aNil, dC, dataOf, Option.map_some]
    repeat (refine And.intro (szN rfl) ?_)
    simp only [List.set]
    have wcar : lets "car" ∧ 1 ≤ ("car" : Str).length ∧ ("car" : Str).length ≤ 1000 := ⟨lets_car, by decide, by decide⟩
    have wcat : lets "cat" ∧ 1 ≤ ("cat" : Str).length ∧ ("cat" : Str).length ≤ 1000 := ⟨lets_cat, by decide, by decide⟩
    have wdog : lets "dog" ∧ 1 ≤ ("dog" : Str).length ∧ ("dog" : Str).length ≤ 1000 := ⟨lets_dog, by decide, by decide⟩
    have wdot : lets "dot" ∧ 1 ≤ ("dot" : Str).length ∧ ("dot" : Str).length ≤ 1000 := ⟨lets_dot, by decide, by decide⟩
    have ok : ScrsOk v27 := ⟨by decide, fun s m => by
      rcases List.mem_cons.mp m with rfl | m
      · exact ⟨lets_em, by decide, by decide, by decide, two_words wcar wdog (by decide), by decide, by decide +kernel⟩
      · rcases List.mem_cons.mp m with rfl | m
        · exact ⟨lets_c, by decide, by decide, by decide, two_words wcar wcat (by decide), by decide, by decide +kernel⟩
        · rw [List.mem_singleton.mp m]
          exact ⟨lets_do, by decide, by decide, by decide, two_words wdog wdot (by decide), by decide, by decide +kernel⟩, by
      unfold Torn
      decide +kernel⟩
    have lf : ∀ f ∈ (["c", "dot", "dox"] : List Str), lets f ∧ f.length ≤ 2000 := fun f m => by
      rcases List.mem_cons.mp m with rfl | m
      · exact ⟨lets_c, by decide⟩
      · rcases List.mem_cons.mp m with rfl | m
        · exact ⟨lets_dot, by decide⟩
        · rw [List.mem_singleton.mp m]
          exact ⟨lets_dox, by decide⟩
    simp only [sRet, dOp2, dFz, oLc, iL, oLst, aCons, aNil, dC, dataOf, Option.map_some]
    refine lm_on (fun f : Str => (.str f : D)) (fun f => [.sc ns, x1, .fz (scs v27), x3, x4, x5, .fz (.str f)]) (fun f => bkO (sure v27 f 5)) ["c", "dot", "dox"] (fun f _ => rfl) (fun f hf Ψ hΨ => ?_) (fun f _ => ?_) (by decide) ?_
    · simp only [dCall, aCons, aNil, dVar, atS]
      exact ⟨v27, f, 5, rfl, ⟨ok.1, ok.2.1, ok.2.2, (lf f hf).1, (lf f hf).2, by decide, by decide⟩, hΨ⟩
    · show [Ent.sc ns, x1, .fz (scs v27), x3, x4, x5, x6.keep] = _
      rw [k6]
      rfl
    · rw [show (["c", "dot", "dox"] : List Str).map (fun f => bkO (sure v27 f 5)) = [.none, bk ["dot"], bk []] from by
        rw [List.map_cons, List.map_cons, List.map_cons, show sure v27 "c" 5 = none from by decide +kernel, show sure v27 "dot" 5 = some [("dot" : Str)] from by decide +kernel, show sure v27 "dox" 5 = some [] from by decide +kernel]
        rfl]
      refine ⟨szN rfl, szN rfl, szN rfl, .inl ⟨by decide +kernel, by decide +kernel, ?_⟩⟩
      rw [show PyData.eqv (.list [.none, bk ["dot"], bk []]) (.list [.none, .list [.str "dot"], .list []]) = true from by decide +kernel]
      rfl
end TM
namespace TM
open L2 PySem.Spec PySem PyProof.Rows
def top (i : Nat) : Stmt := PySem.Challenge.pw_topmatches_k27_sure_answers_by_all_dicti.main.body.getD i (.Pass ⟨0, 0, 0, 0⟩)
def e_is_integer : He.DefD := ⟨("is_integer", none), "is_integer", "is_integer", defArgs (top 9), defBody (top 9), defScope (top 9), [], []⟩
def e_are_letters : He.DefD := ⟨("are_letters", none), "are_letters", "are_letters", defArgs (top 10), defBody (top 10), defScope (top 10), [], []⟩
def e_has_word_form : He.DefD := ⟨("has_word_form", none), "has_word_form", "has_word_form", defArgs (top 11), defBody (top 11), defScope (top 11), [], []⟩
def e_are_different_words : He.DefD := ⟨("are_different_words", none), "are_different_words", "are_different_words", defArgs (top 12), defBody (top 12), defScope (top 12), [], []⟩
def e_is_shown_list : He.DefD := ⟨("is_shown_list", none), "is_shown_list", "is_shown_list", defArgs (top 13), defBody (top 13), defScope (top 13), [], []⟩
def e_is_limit : He.DefD := ⟨("is_limit", none), "is_limit", "is_limit", defArgs (top 14), defBody (top 14), defScope (top 14), [], []⟩
def e_has_screen_form : He.DefD := ⟨("has_screen_form", none), "has_screen_form", "has_screen_form", defArgs (top 15), defBody (top 15), defScope (top 15), [], []⟩
def e_has_screens_form : He.DefD := ⟨("has_screens_form", none), "has_screens_form", "has_screens_form", defArgs (top 16), defBody (top 16), defScope (top 16), [], []⟩
def e_require_beginning : He.DefD := ⟨("require_beginning", none), "require_beginning", "require_beginning", defArgs (top 17), defBody (top 17), defScope (top 17), [], []⟩
def e_require_limit : He.DefD := ⟨("require_limit", none), "require_limit", "require_limit", defArgs (top 18), defBody (top 18), defScope (top 18), [], []⟩
def e_require_screens : He.DefD := ⟨("require_screens", none), "require_screens", "require_screens", defArgs (top 19), defBody (top 19), defScope (top 19), [], []⟩
def e_is_short : He.DefD := ⟨("is_short", none), "is_short", "is_short", defArgs (top 23), defBody (top 23), defScope (top 23), [], []⟩
def e_misses : He.DefD := ⟨("misses", none), "misses", "misses", defArgs (top 24), defBody (top 24), defScope (top 24), [], []⟩
def e_order_clash : He.DefD := ⟨("order_clash", none), "order_clash", "order_clash", defArgs (top 25), defBody (top 25), defScope (top 25), [], []⟩
def e_clash_of_two : He.DefD := ⟨("clash_of_two", none), "clash_of_two", "clash_of_two", defArgs (top 26), defBody (top 26), defScope (top 26), [], []⟩
def e_clash_of : He.DefD := ⟨("clash_of", none), "clash_of", "clash_of", defArgs (top 27), defBody (top 27), defScope (top 27), [], []⟩
def e_require_no_clash : He.DefD := ⟨("require_no_clash", none), "require_no_clash", "require_no_clash", defArgs (top 28), defBody (top 28), defScope (top 28), [], []⟩
def e_matching : He.DefD := ⟨("matching", none), "matching", "matching", defArgs (top 30), defBody (top 30), defScope (top 30), [], []⟩
def e_answer_in : He.DefD := ⟨("answer_in", none), "answer_in", "answer_in", defArgs (top 31), defBody (top 31), defScope (top 31), [], []⟩
def e_require_question : He.DefD := ⟨("require_question", none), "require_question", "require_question", defArgs (top 33), defBody (top 33), defScope (top 33), [], []⟩
def e_decides : He.DefD := ⟨("decides", none), "decides", "decides", defArgs (top 34), defBody (top 34), defScope (top 34), [], []⟩
def e_decider_in : He.DefD := ⟨("decider_in", none), "decider_in", "decider_in", defArgs (top 35), defBody (top 35), defScope (top 35), [], []⟩
def e_sure_in : He.DefD := ⟨("sure_in", none), "sure_in", "sure_in", defArgs (top 36), defBody (top 36), defScope (top 36), [], []⟩
def e_sure_answer : He.DefD := ⟨("sure_answer", none), "sure_answer", "sure_answer", defArgs (top 37), defBody (top 37), defScope (top 37), [], []⟩
def e_deciding_screen : He.DefD := ⟨("deciding_screen", none), "deciding_screen", "deciding_screen", defArgs (top 38), defBody (top 38), defScope (top 38), [], []⟩
def e__law_jar : He.DefD := ⟨("_law_jar", none), "_law_jar", "_law_jar", defArgs (top 40), defBody (top 40), defScope (top 40), [], []⟩
def e__law_dip : He.DefD := ⟨("_law_dip", none), "_law_dip", "_law_dip", defArgs (top 41), defBody (top 41), defScope (top 41), [], []⟩
def e__law_terms : He.DefD := ⟨("_law_terms", none), "_law_terms", "_law_terms", defArgs (top 42), defBody (top 42), defScope (top 42), [], []⟩
def e__law_answer : He.DefD := ⟨("_law_answer", none), "_law_answer", "_law_answer", defArgs (top 43), defBody (top 43), defScope (top 43), [], []⟩
def e__law_front : He.DefD := ⟨("_law_front", none), "_law_front", "_law_front", defArgs (top 44), defBody (top 44), defScope (top 44), [], []⟩
def e__law_views : He.DefD := ⟨("_law_views", none), "_law_views", "_law_views", defArgs (top 45), defBody (top 45), defScope (top 45), [], []⟩
def e__law_known : He.DefD := ⟨("_law_known", none), "_law_known", "_law_known", defArgs (top 46), defBody (top 46), defScope (top 46), [], []⟩
def e__law_shows : He.DefD := ⟨("_law_shows", none), "_law_shows", "_law_shows", defArgs (top 47), defBody (top 47), defScope (top 47), [], []⟩
def e__law_is_dictionary : He.DefD := ⟨("_law_is_dictionary", none), "_law_is_dictionary", "_law_is_dictionary", defArgs (top 48), defBody (top 48), defScope (top 48), [], []⟩
def e__law_orders : He.DefD := ⟨("_law_orders", none), "_law_orders", "_law_orders", defArgs (top 49), defBody (top 49), defScope (top 49), [], []⟩
def e__law_with_new : He.DefD := ⟨("_law_with_new", none), "_law_with_new", "_law_with_new", defArgs (top 50), defBody (top 50), defScope (top 50), [], []⟩
def e__law_decides : He.DefD := ⟨("_law_decides", none), "_law_decides", "_law_decides", defArgs (top 51), defBody (top 51), defScope (top 51), [], []⟩
def e__law_due : He.DefD := ⟨("_law_due", none), "_law_due", "_law_due", defArgs (top 52), defBody (top 52), defScope (top 52), [], []⟩
def e__law_right : He.DefD := ⟨("_law_right", none), "_law_right", "_law_right", defArgs (top 53), defBody (top 53), defScope (top 53), [], []⟩
def e_law : He.DefD := ⟨("law", none), "law", "law", defArgs (top 54), defBody (top 54), defScope (top 54), [], []⟩
def fn : List He.DefD := [e_is_integer, e_are_letters, e_has_word_form, e_are_different_words, e_is_shown_list, e_is_limit, e_has_screen_form, e_has_screens_form, e_require_beginning, e_require_limit, e_require_screens, e_is_short, e_misses, e_order_clash, e_clash_of_two, e_clash_of, e_require_no_clash, e_matching, e_answer_in, e_require_question, e_decides, e_decider_in, e_sure_in, e_sure_answer, e_deciding_screen, e__law_jar, e__law_dip, e__law_terms, e__law_answer, e__law_front, e__law_views, e__law_known, e__law_shows, e__law_is_dictionary, e__law_orders, e__law_with_new, e__law_decides, e__law_due, e__law_right, e_law]
def fa : List He.Fa := [.glo "is_integer", .glo "are_letters", .glo "has_word_form", .glo "are_different_words", .glo "is_shown_list", .glo "is_limit", .glo "has_screen_form", .glo "has_screens_form", .glo "require_beginning", .glo "require_limit", .glo "require_screens", .glo "is_short", .glo "misses", .glo "order_clash", .glo "clash_of_two", .glo "clash_of", .glo "require_no_clash", .glo "matching", .glo "answer_in", .glo "require_question", .glo "decides", .glo "decider_in", .glo "sure_in", .glo "sure_answer", .glo "deciding_screen", .glo "_law_jar", .glo "_law_dip", .glo "_law_terms", .glo "_law_answer", .glo "_law_front", .glo "_law_views", .glo "_law_known", .glo "_law_shows", .glo "_law_is_dictionary", .glo "_law_orders", .glo "_law_with_new", .glo "_law_decides", .glo "_law_due", .glo "_law_right", .glo "law", .free "abs", .free "all", .free "bool", .free "enumerate", .free "int", .free "isinstance", .free "len", .free "list", .free "max", .free "min", .free "range", .free "repr", .free "set", .free "sorted", .free "str", .free "tuple", .free "zip", .int "MOST_SCREENS" (20), .int "MOST_WORDS" (20), .str "MISSING" "missing", .str "ORDER" "order"]
def names : List PySem.Str := (["TopMatchesError", "InvalidBeginning", "InvalidLimit", "InvalidScreens", "ScreensClash", "MOST_WORDS", "MOST_SCREENS", "is_integer", "are_letters", "has_word_form", "are_different_words", "is_shown_list", "is_limit", "has_screen_form", "has_screens_form", "require_beginning", "require_limit", "require_screens", "MISSING", "ORDER", "is_short", "misses", "order_clash", "clash_of_two", "clash_of", "require_no_clash", "matching", "answer_in", "require_question", "decides"] : List PySem.Str) ++ (["decider_in", "sure_in", "sure_answer", "deciding_screen", "_law_jar", "_law_dip", "_law_terms", "_law_answer", "_law_front", "_law_views", "_law_known", "_law_shows", "_law_is_dictionary", "_law_orders", "_law_with_new", "_law_decides", "_law_due", "_law_right"] : List PySem.Str)
abbrev R : PySem.W.OpenRow := PySem.W.OpenLaw.row PySem.Challenge.rw_topmatches_k27_sure_answers_by_all_dicti
abbrev hk : PySem.W.Hook := hookS 4 fa fn
def ob (s : PySem.W.SharedT) : He.AlD := obsSG 4 fa fn (HandSHeadRun.getT s)
theorem ob_eq (s : PySem.W.SharedT) : ob s = hk.obs s.abs := obsSG_eq (HandSHeadRun.getT_eq s)
theorem run (w : World) : HandSHeadRun.RunEq R (PySem.W.view R.prog [54]) hk ob 9000 names w := by
  intro os
  kernel_rfl
section
variable {P : Program} {w : World} {K : PySem.W.Frag} {mg : Str → Option Value} {base : Heap} {A : Amb}
theorem sc_is_integer : FnScope N_is_integer ["value", "low", "high"] (defScope (top 9)) := ⟨rfl, rfl, rfl, by decide +kernel, rfl, by decide +kernel, by decide +kernel⟩
theorem q_is_integer (T : Txt K mg fa fn) : Der P w K mg base A 1 N_is_integer "is_integer" (defScope (top 9)) 0 (defBody (top 9)) n_is_integer := by
  intro f cdv Ar outer s H E hr
  have nd : N_is_integer.Nodup := by decide
  have m_bool : mg "bool" = none := T.free 42
  have m_int : mg "int" = none := T.free 44
  have m_isinstance : mg "isinstance" = none := T.free 45
  exact dss_up (dss_cons (ds_if (dw_pt (dw_or (dt_not (dt_val (de_isi kt_int m_isinstance m_int (by decide +kernel) (de_var 0)))) (dw_or1 (dt_val (de_isi kt_bool m_isinstance m_bool (by decide +kernel) (de_var 0))))))
    (dss_one (ds_ret de_bl))
    dss_nil)
    (dss_one (ds_ret (de_and (de_le (de_var 1) (de_var 0)) (de_one (de_or (de_isN (de_var 2)) (de_one (de_le (de_var 0) (de_var 2)))))))))
theorem sc_are_letters : FnScope N_are_letters ["value"] (defScope (top 10)) := ⟨rfl, rfl, rfl, by decide +kernel, rfl, by decide +kernel, by decide +kernel⟩
theorem q_are_letters (T : Txt K mg fa fn) : Der P w K mg base A 1 N_are_letters "are_letters" (defScope (top 10)) 0 (defBody (top 10)) n_are_letters := by
  intro f cdv Ar outer s H E hr
  have nd : N_are_letters.Nodup := by decide
  have m_all : mg "all" = none := T.free 41
  have m_isinstance : mg "isinstance" = none := T.free 45
  have m_str : mg "str" = none := T.free 54
  exact dss_up (dss_one (ds_ret (de_and (de_isi kt_str m_isinstance m_str (by decide +kernel) (de_var 0)) (de_one (de_all rfl m_all (da_cons (de_fz (do_lc (N' := N_are_letters) (sc' := defScope (top 10)) (own := [("letter", 1)]) rfl nd (di_str (de_var 0)) (by decide +kernel) (fun _ _ _ _ _ => (dg_nm nd rfl)) (fun _ _ _ _ _ => dts_nil) (fun _ _ _ _ _ => (de_chain op_le2 op_le2 snd_ord snd_ord de_str (de_var 1) de_str)))) da_nil))))))
theorem sc_has_word_form : FnScope N_has_word_form ["value"] (defScope (top 11)) := ⟨rfl, rfl, rfl, by decide +kernel, rfl, by decide +kernel, by decide +kernel⟩
theorem q_has_word_form {sp_are_letters : DSp} (T : Txt K mg fa fn) (h_are_letters : FnD P w K mg base A 0 2 "are_letters" ["value"] sp_are_letters) : Der P w K mg base A 2 N_has_word_form "has_word_form" (defScope (top 11)) 0 (defBody (top 11)) (n_has_word_form sp_are_letters) := by
  intro f cdv Ar outer s H E hr
  have nd : N_has_word_form.Nodup := by decide
  exact dss_up (dss_one (ds_ret (de_and (de_call h_are_letters.fn hr (takes_of rfl rfl rfl rfl) (da_cons (de_var 0) da_nil)) (de_one (de_ne hr (de_var 0) de_str)))))
theorem sc_are_different_words : FnScope N_are_different_words ["value"] (defScope (top 12)) := ⟨rfl, rfl, rfl, by decide +kernel, rfl, by decide +kernel, by decide +kernel⟩
theorem q_are_different_words {sp_has_word_form : DSp} (T : Txt K mg fa fn) (h_has_word_form : FnD P w K mg base A 0 3 "has_word_form" ["value"] sp_has_word_form) : Der P w K mg base A 3 N_are_different_words "are_different_words" (defScope (top 12)) 0 (defBody (top 12)) (n_are_different_words sp_has_word_form) := by
  intro f cdv Ar outer s H E hr
  have nd : N_are_different_words.Nodup := by decide
  have m_all : mg "all" = none := T.free 41
  have m_isinstance : mg "isinstance" = none := T.free 45
  have m_len : mg "len" = none := T.free 46
  have m_list : mg "list" = none := T.free 47
  have m_set : mg "set" = none := T.free 52
  exact dss_up (dss_one (ds_ret (de_and (de_isi kt_list m_isinstance m_list (by decide +kernel) (de_var 0)) (de_and (de_all rfl m_all (da_cons (de_fz (do_lc (N' := N_are_different_words) (sc' := defScope (top 12)) (own := [("word", 1)]) rfl nd (di_list (de_var 0)) (by decide +kernel) (fun _ _ _ _ _ => (dg_nm nd rfl)) (fun _ _ _ _ _ => dts_nil) (fun _ _ _ _ _ => (de_call h_has_word_form.fn hr tk0 (da_cons (de_var 1) da_nil))))) da_nil)) (de_one (de_eq hr (de_lenSet m_len m_set (de_var 0)) (de_len m_len (da_cons (de_var 0) da_nil))))))))
theorem sc_is_shown_list : FnScope N_is_shown_list ["beginning", "limit", "value"] (defScope (top 13)) := ⟨rfl, rfl, rfl, by decide +kernel, rfl, by decide +kernel, by decide +kernel⟩
theorem q_is_shown_list {sp_are_different_words : DSp} (T : Txt K mg fa fn) (h_are_different_words : FnD P w K mg base A 0 4 "are_different_words" ["value"] sp_are_different_words) : Der P w K mg base A 4 N_is_shown_list "is_shown_list" (defScope (top 13)) 0 (defBody (top 13)) (n_is_shown_list sp_are_different_words) := by
  intro f cdv Ar outer s H E hr
  have nd : N_is_shown_list.Nodup := by decide
  have m_all : mg "all" = none := T.free 41
  have m_len : mg "len" = none := T.free 46
  exact dss_up (dss_cons (ds_if (dw_pt (dw_or (dt_not (dt_val (de_call h_are_different_words.fn hr (takes_of rfl rfl rfl rfl) (da_cons (de_var 2) da_nil)))) (dw_or1 (dt_gt (de_len m_len (da_cons (de_var 2) da_nil)) (de_var 1)))))
    (dss_one (ds_ret de_bl))
    dss_nil)
    (dss_one (ds_ret (de_all rfl m_all (da_cons (de_fz (do_lc (N' := N_is_shown_list) (sc' := defScope (top 13)) (own := [("word", 3)]) rfl nd (di_list (de_var 2)) (by decide +kernel) (fun _ _ _ _ _ => (dg_nm nd rfl)) (fun _ _ _ _ _ => dts_nil) (fun _ _ _ _ _ => (de_sw (de_var 3) (de_var 0))))) da_nil)))))
theorem sc_is_limit : FnScope N_is_limit ["value"] (defScope (top 14)) := ⟨rfl, rfl, rfl, by decide +kernel, rfl, by decide +kernel, by decide +kernel⟩
theorem q_is_limit {sp_is_integer : DSp} (T : Txt K mg fa fn) (h_is_integer : FnD P w K mg base A 0 2 "is_integer" ["value", "low", "high"] sp_is_integer) : Der P w K mg base A 2 N_is_limit "is_limit" (defScope (top 14)) 0 (defBody (top 14)) (n_is_limit sp_is_integer) := by
  intro f cdv Ar outer s H E hr
  have nd : N_is_limit.Nodup := by decide
  have m_MOST_WORDS : ∃ t, mg "MOST_WORDS" = some (.int (20) t) := T.int 58
  exact dss_up (dss_one (ds_ret (de_call h_is_integer.fn hr (takes_of rfl rfl rfl rfl) (da_cons (de_var 0) (da_cons de_int (da_cons (de_gint rfl m_MOST_WORDS) da_nil))))))
theorem sc_has_screen_form : FnScope N_has_screen_form ["value"] (defScope (top 15)) := ⟨rfl, rfl, rfl, by decide +kernel, rfl, by decide +kernel, by decide +kernel⟩
theorem q_has_screen_form {sp_are_letters sp_is_limit sp_is_shown_list : DSp} (T : Txt K mg fa fn) (h_are_letters : FnD P w K mg base A 0 2 "are_letters" ["value"] sp_are_letters) (h_is_limit : FnD P w K mg base A 0 3 "is_limit" ["value"] sp_is_limit) (h_is_shown_list : FnD P w K mg base A 0 5 "is_shown_list" ["beginning", "limit", "value"] sp_is_shown_list) : Der P w K mg base A 5 N_has_screen_form "has_screen_form" (defScope (top 15)) 0 (defBody (top 15)) (n_has_screen_form sp_are_letters sp_is_limit sp_is_shown_list) := by
  intro f cdv Ar outer s H E hr
  have nd : N_has_screen_form.Nodup := by decide
  have m_isinstance : mg "isinstance" = none := T.free 45
  have m_len : mg "len" = none := T.free 46
  have m_tuple : mg "tuple" = none := T.free 55
  exact dss_up (dss_cons (ds_if (dw_pt (dw_or (dt_not (dt_val (de_isi kt_tuple m_isinstance m_tuple (by decide +kernel) (de_var 0)))) (dw_or1 (dt_ne hr (de_len m_len (da_cons (de_var 0) da_nil)) de_int))))
    (dss_one (ds_ret de_bl))
    dss_nil)
    (dss_cons (ds_unp (de_var 0) (dg_tp rfl (dgs_cons (dg_nm nd rfl) (dgs_cons (dg_nm nd rfl) (dgs_cons (dg_nm nd rfl) dgs_nil)))))
    (dss_cons (ds_if (dw_pt (dw_or (dt_not (dt_val (de_call h_are_letters.fn hr (takes_of rfl rfl rfl rfl) (da_cons (de_var 1) da_nil)))) (dw_or1 (dt_not (dt_val (de_call h_is_limit.fn hr (takes_of rfl rfl rfl rfl) (da_cons (de_var 2) da_nil)))))))
    (dss_one (ds_ret de_bl))
    dss_nil)
    (dss_one (ds_ret (de_call h_is_shown_list.fn hr (takes_of rfl rfl rfl rfl) (da_cons (de_var 1) (da_cons (de_var 2) (da_cons (de_var 3) da_nil)))))))))
theorem sc_has_screens_form : FnScope N_has_screens_form ["value"] (defScope (top 16)) := ⟨rfl, rfl, rfl, by decide +kernel, rfl, by decide +kernel, by decide +kernel⟩
theorem q_has_screens_form {sp_has_screen_form : DSp} (T : Txt K mg fa fn) (h_has_screen_form : FnD P w K mg base A 0 6 "has_screen_form" ["value"] sp_has_screen_form) : Der P w K mg base A 6 N_has_screens_form "has_screens_form" (defScope (top 16)) 0 (defBody (top 16)) (n_has_screens_form sp_has_screen_form) := by
  intro f cdv Ar outer s H E hr
  have nd : N_has_screens_form.Nodup := by decide
  have m_all : mg "all" = none := T.free 41
  have m_isinstance : mg "isinstance" = none := T.free 45
  have m_len : mg "len" = none := T.free 46
  have m_list : mg "list" = none := T.free 47
  have m_MOST_SCREENS : ∃ t, mg "MOST_SCREENS" = some (.int (20) t) := T.int 57
  exact dss_up (dss_cons (ds_if (dw_pt (dw_or (dt_not (dt_val (de_isi kt_list m_isinstance m_list (by decide +kernel) (de_var 0)))) (dw_or1 (dt_gt (de_len m_len (da_cons (de_var 0) da_nil)) (de_gint rfl m_MOST_SCREENS)))))
    (dss_one (ds_ret de_bl))
    dss_nil)
    (dss_one (ds_ret (de_all rfl m_all (da_cons (de_fz (do_lc (N' := N_has_screens_form) (sc' := defScope (top 16)) (own := [("screen", 1)]) rfl nd (di_list (de_var 0)) (by decide +kernel) (fun _ _ _ _ _ => (dg_nm nd rfl)) (fun _ _ _ _ _ => dts_nil) (fun _ _ _ _ _ => (de_call h_has_screen_form.fn hr tk0 (da_cons (de_var 1) da_nil))))) da_nil)))))
theorem sc_require_beginning : FnScope N_require_beginning ["value"] (defScope (top 17)) := ⟨rfl, rfl, rfl, by decide +kernel, rfl, by decide +kernel, by decide +kernel⟩
theorem q_require_beginning {sp_are_letters : DSp} (T : Txt K mg fa fn) (h_are_letters : FnD P w K mg base A 0 2 "are_letters" ["value"] sp_are_letters) : Der P w K mg base A 2 N_require_beginning "require_beginning" (defScope (top 17)) 0 (defBody (top 17)) (n_require_beginning sp_are_letters) := by
  intro f cdv Ar outer s H E hr
  have nd : N_require_beginning.Nodup := by decide
  exact dss_up (dss_one (ds_if (dt_not (dt_val (de_call h_are_letters.fn hr (takes_of rfl rfl rfl rfl) (da_cons (de_var 0) da_nil))))
    (dss_one ds_never)
    dss_nil))
theorem sc_require_limit : FnScope N_require_limit ["value"] (defScope (top 18)) := ⟨rfl, rfl, rfl, by decide +kernel, rfl, by decide +kernel, by decide +kernel⟩
theorem q_require_limit {sp_is_limit : DSp} (T : Txt K mg fa fn) (h_is_limit : FnD P w K mg base A 0 3 "is_limit" ["value"] sp_is_limit) : Der P w K mg base A 3 N_require_limit "require_limit" (defScope (top 18)) 0 (defBody (top 18)) (n_require_limit sp_is_limit) := by
  intro f cdv Ar outer s H E hr
  have nd : N_require_limit.Nodup := by decide
  exact dss_up (dss_one (ds_if (dt_not (dt_val (de_call h_is_limit.fn hr (takes_of rfl rfl rfl rfl) (da_cons (de_var 0) da_nil))))
    (dss_one ds_never)
    dss_nil))
theorem sc_require_screens : FnScope N_require_screens ["value"] (defScope (top 19)) := ⟨rfl, rfl, rfl, by decide +kernel, rfl, by decide +kernel, by decide +kernel⟩
theorem q_require_screens {sp_has_screens_form : DSp} (T : Txt K mg fa fn) (h_has_screens_form : FnD P w K mg base A 0 7 "has_screens_form" ["value"] sp_has_screens_form) : Der P w K mg base A 7 N_require_screens "require_screens" (defScope (top 19)) 0 (defBody (top 19)) (n_require_screens sp_has_screens_form) := by
  intro f cdv Ar outer s H E hr
  have nd : N_require_screens.Nodup := by decide
  exact dss_up (dss_one (ds_if (dt_not (dt_val (de_call h_has_screens_form.fn hr (takes_of rfl rfl rfl rfl) (da_cons (de_var 0) da_nil))))
    (dss_one ds_never)
    dss_nil))
theorem sc_is_short : FnScope N_is_short ["screen"] (defScope (top 23)) := ⟨rfl, rfl, rfl, by decide +kernel, rfl, by decide +kernel, by decide +kernel⟩
theorem q_is_short (T : Txt K mg fa fn) : Der P w K mg base A 1 N_is_short "is_short" (defScope (top 23)) 0 (defBody (top 23)) n_is_short := by
  intro f cdv Ar outer s H E hr
  have nd : N_is_short.Nodup := by decide
  have m_len : mg "len" = none := T.free 46
  exact dss_up (dss_one (ds_ret (de_lt (de_len m_len (da_cons (de_get (de_var 0) de_int) da_nil)) (de_get (de_var 0) de_int))))
theorem sc_misses : FnScope N_misses ["screen", "word"] (defScope (top 24)) := ⟨rfl, rfl, rfl, by decide +kernel, rfl, by decide +kernel, by decide +kernel⟩
theorem q_misses {sp_is_short : DSp} (T : Txt K mg fa fn) (h_is_short : FnD P w K mg base A 0 2 "is_short" ["screen"] sp_is_short) : Der P w K mg base A 2 N_misses "misses" (defScope (top 24)) 0 (defBody (top 24)) (n_misses sp_is_short) := by
  intro f cdv Ar outer s H E hr
  have nd : N_misses.Nodup := by decide
  exact dss_up (dss_one (ds_ret (de_and (de_call h_is_short.fn hr (takes_of rfl rfl rfl rfl) (da_cons (de_var 0) da_nil)) (de_and (de_sw (de_var 1) (de_get (de_var 0) de_int)) (de_one (de_notIn hr (de_var 1) (de_get (de_var 0) de_int)))))))
theorem sc_order_clash : FnScope N_order_clash ["one", "other"] (defScope (top 25)) := ⟨rfl, rfl, rfl, by decide +kernel, rfl, by decide +kernel, by decide +kernel⟩
theorem q_order_clash (T : Txt K mg fa fn) : Der P w K mg base A 1 N_order_clash "order_clash" (defScope (top 25)) 0 (defBody (top 25)) n_order_clash := by
  intro f cdv Ar outer s H E hr
  have nd : N_order_clash.Nodup := by decide
  have m_zip : mg "zip" = none := T.free 56
  exact dss_up (dss_cons (by first | exact (ds_set nd (i := 2) rfl (by first | exact .inl rfl | exact .inr rfl) (de_fz (do_lc (N' := N_order_clash) (sc' := defScope (top 25)) (own := [("word", 4)]) rfl nd (di_list (de_get (de_var 0) de_int)) (by decide +kernel) (fun _ _ _ _ _ => (dg_nm nd rfl)) (fun _ _ _ _ _ => (dts_one (dt_val (de_sw (de_var 4) (de_get (de_var 1) de_int))))) (fun _ _ _ _ _ => (de_var 4))))) | exact (ds_setLcFz (N' := N_order_clash) (sc' := defScope (top 25)) (own := [("word", 4)]) rfl nd (i := 2) (y := "row") rfl rfl rfl (di_list (de_get (de_var 0) de_int)) (by decide +kernel) (fun _ _ _ _ _ => (dg_nm nd rfl)) (fun _ _ _ _ _ => (dts_one (dt_val (de_sw (de_var 4) (de_get (de_var 1) de_int))))) (fun _ _ _ _ _ => (de_var 4))))
    (dss_cons (by first | exact (ds_set nd (i := 3) rfl (by first | exact .inl rfl | exact .inr rfl) (de_fz (do_lc (N' := N_order_clash) (sc' := defScope (top 25)) (own := [("word", 4)]) rfl nd (di_list (de_get (de_var 1) de_int)) (by decide +kernel) (fun _ _ _ _ _ => (dg_nm nd rfl)) (fun _ _ _ _ _ => (dts_one (dt_val (de_sw (de_var 4) (de_get (de_var 0) de_int))))) (fun _ _ _ _ _ => (de_var 4))))) | exact (ds_setLcFz (N' := N_order_clash) (sc' := defScope (top 25)) (own := [("word", 4)]) rfl nd (i := 3) (y := "column") rfl rfl rfl (di_list (de_get (de_var 1) de_int)) (by decide +kernel) (fun _ _ _ _ _ => (dg_nm nd rfl)) (fun _ _ _ _ _ => (dts_one (dt_val (de_sw (de_var 4) (de_get (de_var 0) de_int))))) (fun _ _ _ _ _ => (de_var 4))))
    (dss_cons (ds_for (passes_of rfl) rfl (di_zip m_zip (de_var 2) (de_var 3)) (dg_tp rfl (dgs_cons (dg_nm nd rfl) (dgs_cons (dg_nm nd rfl) dgs_nil)))
    (dss_one (ds_if (dt_ne hr (de_var 4) (de_var 5))
    (dss_one (ds_ret (de_tup (da_cons (de_var 4) (da_cons (de_var 5) da_nil)))))
    dss_nil)))
    (dss_one (ds_ret de_non)))))
theorem sc_clash_of_two : FnScope N_clash_of_two ["screens", "first", "second"] (defScope (top 26)) := ⟨rfl, rfl, rfl, by decide +kernel, rfl, by decide +kernel, by decide +kernel⟩
theorem q_clash_of_two {sp_misses sp_order_clash : DSp} (T : Txt K mg fa fn) (h_misses : FnD P w K mg base A 0 3 "misses" ["screen", "word"] sp_misses) (h_order_clash : FnD P w K mg base A 0 2 "order_clash" ["one", "other"] sp_order_clash) : Der P w K mg base A 3 N_clash_of_two "clash_of_two" (defScope (top 26)) 0 (defBody (top 26)) (n_clash_of_two sp_misses sp_order_clash) := by
  intro f cdv Ar outer s H E hr
  have nd : N_clash_of_two.Nodup := by decide
  have m_MISSING : ∃ t, mg "MISSING" = some (.str "missing" t) := T.str 59
  have m_ORDER : ∃ t, mg "ORDER" = some (.str "order" t) := T.str 60
  exact dss_up (dss_cons (by first | exact (ds_par2 rfl nd (i := 5) (j := 6) rfl rfl (by decide) rfl rfl (da_cons (de_get (de_var 0) (de_var 1)) (da_cons (de_get (de_var 0) (de_var 2)) da_nil)) rfl) | exact (ds_parU (da_cons (de_get (de_var 0) (de_var 1)) (da_cons (de_get (de_var 0) (de_var 2)) da_nil)) (dg_tp rfl (dgs_cons (dg_nm nd rfl) (dgs_cons (dg_nm nd rfl) dgs_nil)))))
    (dss_cons (by first | exact (ds_set nd (i := 3) rfl (by first | exact .inl rfl | exact .inr rfl) (de_fz (do_lc (N' := N_clash_of_two) (sc' := defScope (top 26)) (own := [("word", 7)]) rfl nd (di_list (de_get (de_var 6) de_int)) (by decide +kernel) (fun _ _ _ _ _ => (dg_nm nd rfl)) (fun _ _ _ _ _ => (dts_one (dt_val (de_call h_misses.fn hr tk0 (da_cons (de_var 5) (da_cons (de_var 7) da_nil)))))) (fun _ _ _ _ _ => (de_var 7))))) | exact (ds_setLcFz (N' := N_clash_of_two) (sc' := defScope (top 26)) (own := [("word", 7)]) rfl nd (i := 3) (y := "missed") rfl rfl rfl (di_list (de_get (de_var 6) de_int)) (by decide +kernel) (fun _ _ _ _ _ => (dg_nm nd rfl)) (fun _ _ _ _ _ => (dts_one (dt_val (de_call h_misses.fn hr tk0 (da_cons (de_var 5) (da_cons (de_var 7) da_nil)))))) (fun _ _ _ _ _ => (de_var 7))))
    (dss_cons (ds_if (dt_ne hr (de_var 3) (de_fz (do_lst da_nil)))
    (dss_one (ds_ret (de_tup (da_cons (de_gstr rfl m_MISSING) (da_cons (de_var 1) (da_cons (de_var 2) (da_cons (de_get (de_var 3) de_int) da_nil)))))))
    dss_nil)
    (dss_cons (ds_set nd (i := 4) rfl (by first | exact .inl rfl | exact .inr rfl) (de_call h_order_clash.fn hr (takes_of rfl rfl rfl rfl) (da_cons (de_var 5) (da_cons (de_var 6) da_nil))))
    (dss_one (ds_ret (de_if (dt_notN (de_var 4)) (de_tup (da_cons (de_gstr rfl m_ORDER) (da_cons (de_var 1) (da_cons (de_var 2) (da_cons (de_get (de_var 4) de_int) (da_cons (de_get (de_var 4) de_int) da_nil)))))) de_non)))))))
theorem sc_clash_of : FnScope N_clash_of ["screens"] (defScope (top 27)) := ⟨rfl, rfl, rfl, by decide +kernel, rfl, by decide +kernel, by decide +kernel⟩
theorem q_clash_of {sp_clash_of_two : DSp} (T : Txt K mg fa fn) (h_clash_of_two : FnD P w K mg base A 0 4 "clash_of_two" ["screens", "first", "second"] sp_clash_of_two) : Der P w K mg base A 4 N_clash_of "clash_of" (defScope (top 27)) 0 (defBody (top 27)) (n_clash_of sp_clash_of_two) := by
  intro f cdv Ar outer s H E hr
  have nd : N_clash_of.Nodup := by decide
  have m_len : mg "len" = none := T.free 46
  have m_range : mg "range" = none := T.free 50
  exact dss_up (dss_cons (ds_for (passes_of rfl) rfl (di_r1 m_range (de_len m_len (da_cons (de_var 0) da_nil))) (dg_nm nd rfl)
    (dss_one (ds_for (passes_of rfl) rfl (di_r1 m_range (de_len m_len (da_cons (de_var 0) da_nil))) (dg_nm nd rfl)
    (dss_cons (ds_set nd (i := 3) rfl (by first | exact .inl rfl | exact .inr rfl) (de_call h_clash_of_two.fn hr (takes_of rfl rfl rfl rfl) (da_cons (de_var 0) (da_cons (de_var 1) (da_cons (de_var 2) da_nil)))))
    (dss_one (ds_if (dt_notN (de_var 3))
    (dss_one (ds_ret (de_var 3)))
    dss_nil))))))
    (dss_one (ds_ret de_non)))
theorem sc_require_no_clash : FnScope N_require_no_clash ["screens"] (defScope (top 28)) := ⟨rfl, rfl, rfl, by decide +kernel, rfl, by decide +kernel, by decide +kernel⟩
theorem q_require_no_clash {sp_require_screens sp_clash_of : DSp} (T : Txt K mg fa fn) (h_require_screens : FnD P w K mg base A 0 8 "require_screens" ["value"] sp_require_screens) (h_clash_of : FnD P w K mg base A 0 5 "clash_of" ["screens"] sp_clash_of) : Der P w K mg base A 8 N_require_no_clash "require_no_clash" (defScope (top 28)) 0 (defBody (top 28)) (n_require_no_clash sp_require_screens sp_clash_of) := by
  intro f cdv Ar outer s H E hr
  have nd : N_require_no_clash.Nodup := by decide
  exact dss_up (dss_cons (ds_exp (de_call h_require_screens.fn hr (takes_of rfl rfl rfl rfl) (da_cons (de_var 0) da_nil)))
    (dss_cons (ds_set nd (i := 1) rfl (by first | exact .inl rfl | exact .inr rfl) (de_call h_clash_of.fn hr (takes_of rfl rfl rfl rfl) (da_cons (de_var 0) da_nil)))
    (dss_one (ds_if (dt_notN (de_var 1))
    (dss_one ds_never)
    dss_nil))))
theorem sc_matching : FnScope N_matching ["words", "beginning"] (defScope (top 30)) := ⟨rfl, rfl, rfl, by decide +kernel, rfl, by decide +kernel, by decide +kernel⟩
theorem q_matching (T : Txt K mg fa fn) : Der P w K mg base A 1 N_matching "matching" (defScope (top 30)) 0 (defBody (top 30)) n_matching := by
  intro f cdv Ar outer s H E hr
  have nd : N_matching.Nodup := by decide
  exact dss_up (dss_one (ds_retO (do_lc (N' := N_matching) (sc' := defScope (top 30)) (own := [("word", 2)]) rfl nd (di_list (de_var 0)) (by decide +kernel) (fun _ _ _ _ _ => (dg_nm nd rfl)) (fun _ _ _ _ _ => (dts_one (dt_val (de_sw (de_var 2) (de_var 1))))) (fun _ _ _ _ _ => (de_var 2)))))
theorem sc_answer_in : FnScope N_answer_in ["dictionary", "beginning", "limit"] (defScope (top 31)) := ⟨rfl, rfl, rfl, by decide +kernel, rfl, by decide +kernel, by decide +kernel⟩
theorem q_answer_in {sp_matching : DSp} (T : Txt K mg fa fn) (h_matching : FnD P w K mg base A 0 2 "matching" ["words", "beginning"] sp_matching) : Der P w K mg base A 2 N_answer_in "answer_in" (defScope (top 31)) 0 (defBody (top 31)) (n_answer_in sp_matching) := by
  intro f cdv Ar outer s H E hr
  have nd : N_answer_in.Nodup := by decide
  exact dss_up (dss_one (ds_retO (do_sl (de_call h_matching.fn hr (takes_of rfl rfl rfl rfl) (da_cons (de_var 0) (da_cons (de_var 1) da_nil))) dp_none (dp_some (de_var 2)))))
theorem sc_require_question : FnScope N_require_question ["screens", "beginning", "limit"] (defScope (top 33)) := ⟨rfl, rfl, rfl, by decide +kernel, rfl, by decide +kernel, by decide +kernel⟩
theorem q_require_question {sp_require_no_clash sp_require_beginning sp_require_limit : DSp} (T : Txt K mg fa fn) (h_require_no_clash : FnD P w K mg base A 0 9 "require_no_clash" ["screens"] sp_require_no_clash) (h_require_beginning : FnD P w K mg base A 0 3 "require_beginning" ["value"] sp_require_beginning) (h_require_limit : FnD P w K mg base A 0 4 "require_limit" ["value"] sp_require_limit) : Der P w K mg base A 9 N_require_question "require_question" (defScope (top 33)) 0 (defBody (top 33)) (n_require_question sp_require_no_clash sp_require_beginning sp_require_limit) := by
  intro f cdv Ar outer s H E hr
  have nd : N_require_question.Nodup := by decide
  exact dss_up (dss_cons (ds_exp (de_call h_require_no_clash.fn hr (takes_of rfl rfl rfl rfl) (da_cons (de_var 0) da_nil)))
    (dss_cons (ds_exp (de_call h_require_beginning.fn hr (takes_of rfl rfl rfl rfl) (da_cons (de_var 1) da_nil)))
    (dss_one (ds_exp (de_call h_require_limit.fn hr (takes_of rfl rfl rfl rfl) (da_cons (de_var 2) da_nil))))))
theorem sc_decides : FnScope N_decides ["screen", "beginning", "limit"] (defScope (top 34)) := ⟨rfl, rfl, rfl, by decide +kernel, rfl, by decide +kernel, by decide +kernel⟩
theorem q_decides {sp_is_short sp_matching : DSp} (T : Txt K mg fa fn) (h_is_short : FnD P w K mg base A 0 2 "is_short" ["screen"] sp_is_short) (h_matching : FnD P w K mg base A 0 2 "matching" ["words", "beginning"] sp_matching) : Der P w K mg base A 2 N_decides "decides" (defScope (top 34)) 0 (defBody (top 34)) (n_decides sp_is_short sp_matching) := by
  intro f cdv Ar outer s H E hr
  have nd : N_decides.Nodup := by decide
  have m_len : mg "len" = none := T.free 46
  exact dss_up (dss_cons (ds_if (dt_not (dt_val (de_sw (de_var 1) (de_get (de_var 0) de_int))))
    (dss_one (ds_ret de_bl))
    dss_nil)
    (dss_one (ds_ret (de_or (de_call h_is_short.fn hr (takes_of rfl rfl rfl rfl) (da_cons (de_var 0) da_nil)) (de_one (de_ge (de_len m_len (da_cons (de_call h_matching.fn hr (takes_of rfl rfl rfl rfl) (da_cons (de_get (de_var 0) de_int) (da_cons (de_var 1) da_nil))) da_nil)) (de_var 2)))))))
theorem sc_decider_in : FnScope N_decider_in ["screens", "beginning", "limit"] (defScope (top 35)) := ⟨rfl, rfl, rfl, by decide +kernel, rfl, by decide +kernel, by decide +kernel⟩
theorem q_decider_in {sp_decides : DSp} (T : Txt K mg fa fn) (h_decides : FnD P w K mg base A 0 3 "decides" ["screen", "beginning", "limit"] sp_decides) : Der P w K mg base A 3 N_decider_in "decider_in" (defScope (top 35)) 0 (defBody (top 35)) (n_decider_in sp_decides) := by
  intro f cdv Ar outer s H E hr
  have nd : N_decider_in.Nodup := by decide
  have m_enumerate : mg "enumerate" = none := T.free 43
  exact dss_up (dss_cons (ds_for (passes_of rfl) rfl (di_enum m_enumerate (de_var 0)) (dg_tp rfl (dgs_cons (dg_nm nd rfl) (dgs_cons (dg_nm nd rfl) dgs_nil)))
    (dss_one (ds_if (dt_val (de_call h_decides.fn hr (takes_of rfl rfl rfl rfl) (da_cons (de_var 4) (da_cons (de_var 1) (da_cons (de_var 2) da_nil)))))
    (dss_one (ds_ret (de_var 3)))
    dss_nil)))
    (dss_one (ds_ret de_non)))
theorem sc_sure_in : FnScope N_sure_in ["screens", "beginning", "limit"] (defScope (top 36)) := ⟨rfl, rfl, rfl, by decide +kernel, rfl, by decide +kernel, by decide +kernel⟩
theorem q_sure_in {sp_decider_in sp_answer_in : DSp} (T : Txt K mg fa fn) (h_decider_in : FnD P w K mg base A 0 4 "decider_in" ["screens", "beginning", "limit"] sp_decider_in) (h_answer_in : FnD P w K mg base A 0 3 "answer_in" ["dictionary", "beginning", "limit"] sp_answer_in) : Der P w K mg base A 4 N_sure_in "sure_in" (defScope (top 36)) 0 (defBody (top 36)) (n_sure_in sp_decider_in sp_answer_in) := by
  intro f cdv Ar outer s H E hr
  have nd : N_sure_in.Nodup := by decide
  exact dss_up (dss_cons (ds_set nd (i := 3) rfl (by first | exact .inl rfl | exact .inr rfl) (de_call h_decider_in.fn hr (takes_of rfl rfl rfl rfl) (da_cons (de_var 0) (da_cons (de_var 1) (da_cons (de_var 2) da_nil)))))
    (dss_one (ds_retN (dn_if (dt_notN (de_var 3)) (dn_call h_answer_in.fn hr (takes_of rfl rfl rfl rfl) (da_cons (de_get (de_get (de_var 0) (de_var 3)) de_int) (da_cons (de_var 1) (da_cons (de_var 2) da_nil)))) (dn_f de_non)))))
theorem sc_sure_answer : FnScope N_sure_answer ["screens", "beginning", "limit"] (defScope (top 37)) := ⟨rfl, rfl, rfl, by decide +kernel, rfl, by decide +kernel, by decide +kernel⟩
theorem q_sure_answer {sp_require_question sp_sure_in : DSp} (T : Txt K mg fa fn) (h_require_question : FnD P w K mg base A 0 10 "require_question" ["screens", "beginning", "limit"] sp_require_question) (h_sure_in : FnD P w K mg base A 0 5 "sure_in" ["screens", "beginning", "limit"] sp_sure_in) : Der P w K mg base A 10 N_sure_answer "sure_answer" (defScope (top 37)) 0 (defBody (top 37)) (n_sure_answer sp_require_question sp_sure_in) := by
  intro f cdv Ar outer s H E hr
  have nd : N_sure_answer.Nodup := by decide
  exact dss_up (dss_cons (ds_exp (de_call h_require_question.fn hr (takes_of rfl rfl rfl rfl) (da_cons (de_var 0) (da_cons (de_var 1) (da_cons (de_var 2) da_nil)))))
    (dss_one (ds_retN (dn_call h_sure_in.fn hr (takes_of rfl rfl rfl rfl) (da_cons (de_var 0) (da_cons (de_var 1) (da_cons (de_var 2) da_nil)))))))
theorem sc_deciding_screen : FnScope N_deciding_screen ["screens", "beginning", "limit"] (defScope (top 38)) := ⟨rfl, rfl, rfl, by decide +kernel, rfl, by decide +kernel, by decide +kernel⟩
theorem q_deciding_screen {sp_require_question sp_decider_in : DSp} (T : Txt K mg fa fn) (h_require_question : FnD P w K mg base A 0 10 "require_question" ["screens", "beginning", "limit"] sp_require_question) (h_decider_in : FnD P w K mg base A 0 4 "decider_in" ["screens", "beginning", "limit"] sp_decider_in) : Der P w K mg base A 10 N_deciding_screen "deciding_screen" (defScope (top 38)) 0 (defBody (top 38)) (n_deciding_screen sp_require_question sp_decider_in) := by
  intro f cdv Ar outer s H E hr
  have nd : N_deciding_screen.Nodup := by decide
  exact dss_up (dss_cons (ds_exp (de_call h_require_question.fn hr (takes_of rfl rfl rfl rfl) (da_cons (de_var 0) (da_cons (de_var 1) (da_cons (de_var 2) da_nil)))))
    (dss_one (ds_ret (de_call h_decider_in.fn hr (takes_of rfl rfl rfl rfl) (da_cons (de_var 0) (da_cons (de_var 1) (da_cons (de_var 2) da_nil)))))))
theorem sc__law_jar : FnScope N__law_jar ["script", "k"] (defScope (top 40)) := ⟨rfl, rfl, rfl, by decide +kernel, rfl, by decide +kernel, by decide +kernel⟩
theorem q__law_jar (T : Txt K mg fa fn) : Der P w K mg base A 1 N__law_jar "_law_jar" (defScope (top 40)) 0 (defBody (top 40)) n__law_jar := by
  intro f cdv Ar outer s H E hr
  have nd : N__law_jar.Nodup := by decide
  have m_abs : mg "abs" = none := T.free 40
  have m_len : mg "len" = none := T.free 46
  have m_max : mg "max" = none := T.free 48
  exact dss_up (dss_cons (ds_set nd (i := 2) rfl (by first | exact .inl rfl | exact .inr rfl) (de_if (dt_lt (de_var 1) (de_lenSc 0 m_len)) (de_getSc 0 (de_var 1)) de_int))
    (dss_one (ds_retO (do_lst (da_cons (de_max2 rfl m_max (da_cons de_int (da_cons (de_sub (de_abs m_abs (da_cons (de_var 2) da_nil)) (de_pow de_int de_int)) da_nil))) (da_cons (de_mod (de_add (de_add (de_mulX (de_var 2) de_int) (de_mulX de_int (de_var 1))) de_int) (de_add (de_pow de_int de_int) de_int)) (da_cons de_int da_nil)))))))
theorem sc__law_dip : FnScope dipN ["jar", "many"] (defScope (top 41)) := ⟨rfl, rfl, rfl, by decide +kernel, rfl, by decide +kernel, by decide +kernel⟩
theorem q__law_dip (T : Txt K mg fa fn) (k : Nat) (f : Addr) (cdv : Value) (Ar : Around) (outer : List Env) (s : Shared) (H : Hp) (E : XK) (hr : Room k (Ar.deeper (envOfC "_law_dip" (defScope (top 41)) s.heap.objs.size f cdv))) :
    PSs (cxOf (L2.CX P w) P w K mg base dipN "_law_dip" (defScope (top 41)) f cdv Ar outer s H E) (defBody (top 41)) (tDip K) := by
  have nd : dipN.Nodup := by decide
  exact pss_cons (ps_if (pt_cmpR op_gt (pe_ix ix_seq (pe_var (i := 0) rfl (.inl rfl)) pe_int (fun _ _ => rfl)) pe_int (nomark _))
       (pss_cons (ps_set (i := 2) nd rfl (.inl rfl) (pe_op op_mod (pe_ix ix_seq (pe_var (i := 0) rfl (.inl rfl)) pe_int (fun _ _ => rfl)) (pe_var (i := 1) rfl (.inl rfl))))
        (pss_cons (ps_asg (pe_op op_fdivW (pe_ix ix_seq (pe_var (i := 0) rfl (.inl rfl)) pe_int (fun _ _ => rfl)) (pe_var (i := 1) rfl (.inl rfl))) (pg_sub (pe_var (i := 0) rfl (.inl rfl)) pe_int set_list))
         (pss_one (ps_ret (pe_var (i := 2) rfl (.inl rfl)))))) pss_nil)
    (pss_cons (ps_asg (pe_op op_add (pe_ix ix_seq (pe_var (i := 0) rfl (.inl rfl)) pe_int (fun _ _ => rfl)) pe_int) (pg_sub (pe_var (i := 0) rfl (.inl rfl)) pe_int set_list))
    (pss_cons (ps_set (i := 3) nd rfl (.inl rfl) (pe_op op_mod (pe_op op_powW (pe_op op_add (pe_ix ix_seq (pe_var (i := 0) rfl (.inl rfl)) pe_int (fun _ _ => rfl)) (pe_op op_mulW pe_int (pe_ix ix_seq (pe_var (i := 0) rfl (.inl rfl)) pe_int (fun _ _ => rfl)))) pe_int) (pe_op op_add (pe_op op_powW pe_int pe_int) pe_int)))
    (pss_cons (ps_set (i := 3) nd rfl (.inl rfl) (pe_op op_mod (pe_op op_powW (pe_op op_add (pe_var (i := 3) rfl (.inl rfl)) (pe_op op_mulW pe_int (pe_ix ix_seq (pe_var (i := 0) rfl (.inl rfl)) pe_int (fun _ _ => rfl)))) pe_int) (pe_op op_add (pe_op op_powW pe_int pe_int) pe_int)))
    (pss_one (ps_ret (pe_op op_mod (pe_op op_fdivW (pe_var (i := 3) rfl (.inl rfl)) (pe_op op_powW pe_int pe_int)) (pe_var (i := 1) rfl (.inl rfl))))))))

theorem sc__law_terms : FnScope N__law_terms ["jar", "most", "signs", "longest"] (defScope (top 42)) := ⟨rfl, rfl, rfl, by decide +kernel, rfl, by decide +kernel, by decide +kernel⟩
theorem q__law_terms {sp__law_dip : DSp} (T : Txt K mg fa fn) (h__law_dip : FnD P w K mg base A 1 2 "_law_dip" ["jar", "many"] sp__law_dip) : Der P w K mg base A 2 N__law_terms "_law_terms" (defScope (top 42)) 21267647932558653984907657038195064833 (defBody (top 42)) (n__law_terms sp__law_dip) := by
  intro f cdv Ar outer s H E hr
  have nd : N__law_terms.Nodup := by decide
  have m_len : mg "len" = none := T.free 46
  have m_range : mg "range" = none := T.free 50
  exact dss_up (dss_cons (ds_setO nd (i := 4) rfl (by first | exact .inl rfl | exact .inr rfl) (do_lst da_nil))
    (dss_cons (ds_for (passes_of rfl) rfl (di_r1 m_range (de_call h__law_dip.fn hr (takes_of rfl rfl rfl rfl) (da_dk 0 (da_cons (de_add (de_var 1) de_int) da_nil)))) (dg_nm nd rfl)
    (dss_cons (ds_set nd (i := 6) rfl (by first | exact .inl rfl | exact .inr rfl) de_str)
    (dss_cons (ds_if (dw_pt (dw_and (dt_bor (dt_ne hr (de_var 4) (de_fz (do_lst da_nil)))) (dw_and1 (dt_eq hr (de_call h__law_dip.fn hr (takes_of rfl rfl rfl rfl) (da_dk 0 (da_cons de_int da_nil))) de_int))))
    (dss_one (ds_set nd (i := 6) rfl (by first | exact .inl rfl | exact .inr rfl) (de_getOw 4 (de_call h__law_dip.fn hr (takes_of rfl rfl rfl rfl) (da_dk 0 (da_cons (de_bor (de_len m_len (da_cons (de_var 4) da_nil))) da_nil))))))
    dss_nil)
    (dss_cons (ds_for (passes_of rfl) rfl (di_r1 m_range (de_add de_int (de_call h__law_dip.fn hr (takes_of rfl rfl rfl rfl) (da_dk 0 (da_cons de_int da_nil))))) (dg_nm nd rfl)
    (dss_one (ds_set nd (i := 6) rfl (by first | exact .inl rfl | exact .inr rfl) (de_add (de_var 6) (de_get (de_var 2) (de_call h__law_dip.fn hr (takes_of rfl rfl rfl rfl) (da_dk 0 (da_cons (de_len m_len (da_cons (de_var 2) da_nil)) da_nil))))))))
    (dss_one (ds_if (dw_pt (dw_and (dt_le (de_len m_len (da_cons (de_var 6) da_nil)) (de_var 3)) (dw_and1 (dt_bor (dt_notIn hr (de_var 6) (de_var 4))))))
    (dss_one (ds_app 4 (de_var 6)))
    dss_nil))))))
    (dss_one (ds_retO (do_lc (N' := N__law_terms) (sc' := defScope (top 42)) (own := [("turn", 5)]) rfl nd (di_r1 m_range (de_bor (de_len m_len (da_cons (de_var 4) da_nil)))) (by decide +kernel) (fun _ _ _ _ _ => (dg_nm nd rfl)) (fun _ _ _ _ _ => dts_nil) (fun _ _ _ _ _ => (de_pop 4 (de_call h__law_dip.fn hr tk0 (da_dk 0 (da_cons (de_bor (de_len m_len (da_cons (de_var 4) da_nil))) da_nil))))))))))
theorem sc__law_answer : FnScope N__law_answer ["terms", "front", "top"] (defScope (top 43)) := ⟨rfl, rfl, rfl, by decide +kernel, rfl, by decide +kernel, by decide +kernel⟩
theorem q__law_answer (T : Txt K mg fa fn) : Der P w K mg base A 1 N__law_answer "_law_answer" (defScope (top 43)) 0 (defBody (top 43)) n__law_answer := by
  intro f cdv Ar outer s H E hr
  have nd : N__law_answer.Nodup := by decide
  exact dss_up (dss_one (ds_retO (do_sl (de_fz (do_lc (N' := N__law_answer) (sc' := defScope (top 43)) (own := [("term", 3)]) rfl nd (di_list (de_var 0)) (by decide +kernel) (fun _ _ _ _ _ => (dg_nm nd rfl)) (fun _ _ _ _ _ => (dts_one (dt_val (de_sw (de_var 3) (de_var 1))))) (fun _ _ _ _ _ => (de_var 3)))) dp_none (dp_some (de_var 2)))))
theorem sc__law_front : FnScope N__law_front ["jar", "terms", "signs"] (defScope (top 44)) := ⟨rfl, rfl, rfl, by decide +kernel, rfl, by decide +kernel, by decide +kernel⟩
theorem q__law_front {sp__law_dip : DSp} (T : Txt K mg fa fn) (h__law_dip : FnD P w K mg base A 1 2 "_law_dip" ["jar", "many"] sp__law_dip) : Der P w K mg base A 2 N__law_front "_law_front" (defScope (top 44)) 4 (defBody (top 44)) (n__law_front sp__law_dip) := by
  intro f cdv Ar outer s H E hr
  have nd : N__law_front.Nodup := by decide
  have m_len : mg "len" = none := T.free 46
  exact dss_up (dss_cons (ds_set nd (i := 3) rfl (by first | exact .inl rfl | exact .inr rfl) (de_call h__law_dip.fn hr (takes_of rfl rfl rfl rfl) (da_dk 0 (da_cons de_int da_nil))))
    (dss_cons (ds_if (dw_pt (dw_or (dt_eq hr (de_var 3) de_int) (dw_or1 (dt_eq hr (de_var 1) (de_fz (do_lst da_nil))))))
    (dss_one (ds_ret de_str))
    dss_nil)
    (dss_cons (ds_set nd (i := 4) rfl (by first | exact .inl rfl | exact .inr rfl) (de_get (de_var 1) (de_call h__law_dip.fn hr (takes_of rfl rfl rfl rfl) (da_dk 0 (da_cons (de_len m_len (da_cons (de_var 1) da_nil)) da_nil)))))
    (dss_cons (ds_set nd (i := 5) rfl (by first | exact .inl rfl | exact .inr rfl) (de_sl (de_var 4) dp_none (dp_some (de_call h__law_dip.fn hr (takes_of rfl rfl rfl rfl) (da_dk 0 (da_cons (de_add (de_len m_len (da_cons (de_var 4) da_nil)) de_int) da_nil))))))
    (dss_one (ds_ret (de_if (dt_lt (de_var 3) de_int) (de_var 5) (de_add (de_var 5) (de_get (de_var 2) (de_call h__law_dip.fn hr (takes_of rfl rfl rfl rfl) (da_dk 0 (da_cons (de_len m_len (da_cons (de_var 2) da_nil)) da_nil))))))))))))
theorem sc__law_views : FnScope N__law_views ["jar", "terms", "many", "most", "signs"] (defScope (top 45)) := ⟨rfl, rfl, rfl, by decide +kernel, rfl, by decide +kernel, by decide +kernel⟩
theorem q__law_views {sp__law_dip sp__law_front sp__law_answer : DSp} (T : Txt K mg fa fn) (h__law_dip : FnD P w K mg base A 1 2 "_law_dip" ["jar", "many"] sp__law_dip) (h__law_front : FnD P w K mg base A 4 3 "_law_front" ["jar", "terms", "signs"] sp__law_front) (h__law_answer : FnD P w K mg base A 0 2 "_law_answer" ["terms", "front", "top"] sp__law_answer) : Der P w K mg base A 3 N__law_views "_law_views" (defScope (top 45)) 23058430092136939521 (defBody (top 45)) (n__law_views sp__law_dip sp__law_front sp__law_answer) := by
  intro f cdv Ar outer s H E hr
  have nd : N__law_views.Nodup := by decide
  have m_range : mg "range" = none := T.free 50
  exact dss_up (dss_cons (ds_setO nd (i := 5) rfl (by first | exact .inl rfl | exact .inr rfl) (do_lst da_nil))
    (dss_cons (ds_for (passes_of rfl) rfl (di_r1 m_range (de_call h__law_dip.fn hr (takes_of rfl rfl rfl rfl) (da_dk 0 (da_cons (de_add (de_var 2) de_int) da_nil)))) (dg_nm nd rfl)
    (dss_cons (by first | exact (ds_par2 rfl nd (i := 7) (j := 8) rfl rfl (by decide) rfl rfl (da_cons (de_call h__law_front.fn hr (takes_of rfl rfl rfl rfl) (da_dk 0 (da_cons (de_var 1) (da_cons (de_var 4) da_nil)))) (da_cons (de_add de_int (de_call h__law_dip.fn hr (takes_of rfl rfl rfl rfl) (da_dk 0 (da_cons (de_var 3) da_nil)))) da_nil)) rfl) | exact (ds_parU (da_cons (de_call h__law_front.fn hr (takes_of rfl rfl rfl rfl) (da_dk 0 (da_cons (de_var 1) (da_cons (de_var 4) da_nil)))) (da_cons (de_add de_int (de_call h__law_dip.fn hr (takes_of rfl rfl rfl rfl) (da_dk 0 (da_cons (de_var 3) da_nil)))) da_nil)) (dg_tp rfl (dgs_cons (dg_nm nd rfl) (dgs_cons (dg_nm nd rfl) dgs_nil)))))
    (dss_one (ds_app 5 (de_tup (da_cons (de_var 7) (da_cons (de_var 8) (da_cons (de_call h__law_answer.fn hr (takes_of rfl rfl rfl rfl) (da_cons (de_var 1) (da_cons (de_var 7) (da_cons (de_var 8) da_nil)))) da_nil))))))))
    (dss_one (ds_retV 5))))
theorem sc__law_known : FnScope N__law_known ["views"] (defScope (top 46)) := ⟨rfl, rfl, rfl, by decide +kernel, rfl, by decide +kernel, by decide +kernel⟩
theorem q__law_known (T : Txt K mg fa fn) : Der P w K mg base A 1 N__law_known "_law_known" (defScope (top 46)) 0 (defBody (top 46)) n__law_known := by
  intro f cdv Ar outer s H E hr
  have nd : N__law_known.Nodup := by decide
  have m_set : mg "set" = none := T.free 52
  have m_sorted : mg "sorted" = none := T.free 53
  exact dss_up (dss_cons (ds_setO nd (i := 1) rfl (by first | exact .inl rfl | exact .inr rfl) (do_lst da_nil))
    (dss_cons (ds_for (passes_of rfl) rfl (di_list (de_var 0)) (dg_tp rfl (dgs_cons (dg_nm nd rfl) (dgs_cons (dg_nm nd rfl) (dgs_cons (dg_nm nd rfl) dgs_nil))))
    (dss_one (ds_ext 1 (de_var 4))))
    (dss_one (ds_retO (do_sortSet m_sorted m_set (de_varF 1))))))
theorem sc__law_shows : FnScope N__law_shows ["terms", "views"] (defScope (top 47)) := ⟨rfl, rfl, rfl, by decide +kernel, rfl, by decide +kernel, by decide +kernel⟩
theorem q__law_shows {sp__law_answer : DSp} (T : Txt K mg fa fn) (h__law_answer : FnD P w K mg base A 0 2 "_law_answer" ["terms", "front", "top"] sp__law_answer) : Der P w K mg base A 2 N__law_shows "_law_shows" (defScope (top 47)) 0 (defBody (top 47)) (n__law_shows sp__law_answer) := by
  intro f cdv Ar outer s H E hr
  have nd : N__law_shows.Nodup := by decide
  exact dss_up (dss_one (ds_ret (de_eq hr (de_fz (do_lc (N' := N__law_shows) (sc' := defScope (top 47)) (own := [("front", 2), ("top", 3), ("row", 4)]) rfl nd (di_list (de_var 1)) (by decide +kernel) (fun _ _ _ _ _ => (dg_tp rfl (dgs_cons (dg_nm nd rfl) (dgs_cons (dg_nm nd rfl) (dgs_cons (dg_nm nd rfl) dgs_nil))))) (fun _ _ _ _ _ => (dts_one (dt_ne hr (de_call h__law_answer.fn hr tk0 (da_cons (de_var 0) (da_cons (de_var 2) (da_cons (de_var 3) da_nil)))) (de_var 4)))) (fun _ _ _ _ _ => de_int))) (de_fz (do_lst da_nil)))))
theorem sc__law_is_dictionary : FnScope N__law_is_dictionary ["thing"] (defScope (top 48)) := ⟨rfl, rfl, rfl, by decide +kernel, rfl, by decide +kernel, by decide +kernel⟩
theorem q__law_is_dictionary (T : Txt K mg fa fn) : Der P w K mg base A 1 N__law_is_dictionary "_law_is_dictionary" (defScope (top 48)) 0 (defBody (top 48)) n__law_is_dictionary := by
  intro f cdv Ar outer s H E hr
  have nd : N__law_is_dictionary.Nodup := by decide
  have m_isinstance : mg "isinstance" = none := T.free 45
  have m_len : mg "len" = none := T.free 46
  have m_list : mg "list" = none := T.free 47
  have m_set : mg "set" = none := T.free 52
  have m_str : mg "str" = none := T.free 54
  exact dss_up (dss_cons (ds_if (dw_pt (dw_or (dt_not (dt_val (de_isi kt_list m_isinstance m_list (by decide +kernel) (de_var 0)))) (dw_or1 (dt_ne hr (de_fz (do_lc (N' := N__law_is_dictionary) (sc' := defScope (top 48)) (own := [("term", 1)]) rfl nd (di_list (de_var 0)) (by decide +kernel) (fun _ _ _ _ _ => (dg_nm nd rfl)) (fun _ _ _ _ _ => (dts_one (dw_pt (dw_or (dt_not (dt_val (de_isi kt_str m_isinstance m_str (by decide +kernel) (de_var 1)))) (dw_or1 (dt_eq hr (de_var 1) de_str)))))) (fun _ _ _ _ _ => (de_var 1)))) (de_fz (do_lst da_nil))))))
    (dss_one (ds_ret de_bl))
    dss_nil)
    (dss_cons (ds_if (dt_ne hr (de_fz (do_lc (N' := N__law_is_dictionary) (sc' := defScope (top 48)) (own := [("term", 1)]) rfl nd (di_list (de_var 0)) (by decide +kernel) (fun _ _ _ _ _ => (dg_nm nd rfl)) (fun _ _ _ _ _ => (dts_one (dt_ne hr (de_fz (do_lcN (own := [("sign", 2)]) rfl nd (di_str (de_var 1)) (by kernel_rfl) (fun _ _ _ _ _ => (dg_nm nd rfl)) (fun _ _ _ _ _ => (dts_one (dt_notIn hr (de_var 2) de_str))) (fun _ _ _ _ _ => (de_var 2)))) (de_fz (do_lst da_nil))))) (fun _ _ _ _ _ => (de_var 1)))) (de_fz (do_lst da_nil)))
    (dss_one (ds_ret de_bl))
    dss_nil)
    (dss_one (ds_ret (de_eq hr (de_lenSet m_len m_set (de_var 0)) (de_len m_len (da_cons (de_var 0) da_nil)))))))
theorem sc__law_orders : FnScope N__law_orders ["terms"] (defScope (top 49)) := ⟨rfl, rfl, rfl, by decide +kernel, rfl, by decide +kernel, by decide +kernel⟩
theorem q__law_orders {k : Nat} {sp__law_orders : DSp} (T : Txt K mg fa fn) (h__law_orders : FnD P w K mg base A 0 k "_law_orders" ["terms"] sp__law_orders) : Der P w K mg base A k N__law_orders "_law_orders" (defScope (top 49)) 0 (defBody (top 49)) (n__law_orders sp__law_orders) := by
  intro f cdv Ar outer s H E hr
  have nd : N__law_orders.Nodup := by decide
  have m_enumerate : mg "enumerate" = none := T.free 43
  exact dss_up (dss_cons (ds_if (dt_eq hr (de_var 0) (de_fz (do_lst da_nil)))
    (dss_one (ds_retO (do_lst (da_cons (de_fz (do_lst da_nil)) da_nil))))
    dss_nil)
    (dss_cons (ds_setO nd (i := 1) rfl (by first | exact .inl rfl | exact .inr rfl) (do_lst da_nil))
    (dss_cons (ds_for (passes_of rfl) rfl (di_enum m_enumerate (de_var 0)) (dg_tp rfl (dgs_cons (dg_nm nd rfl) (dgs_cons (dg_nm nd rfl) dgs_nil)))
    (dss_one (ds_ext 1 (de_fz (do_lc (N' := N__law_orders) (sc' := defScope (top 49)) (own := [("rest", 4)]) rfl nd (di_list (de_call h__law_orders.fn (hjk := Nat.le_refl _) hr (takes_of rfl rfl rfl rfl) (da_cons (de_fz (do_cat (de_sl (de_var 0) dp_none (dp_some (de_var 2))) (de_sl (de_var 0) (dp_some (de_add (de_var 2) de_int)) dp_none))) da_nil))) (by decide +kernel) (fun _ _ _ _ _ => (dg_nm nd rfl)) (fun _ _ _ _ _ => dts_nil) (fun _ _ _ _ _ => (de_fz (do_cat (de_fz (do_lst (da_cons (de_var 3) da_nil))) (de_var 4)))))))))
    (dss_one (ds_retV 1)))))
theorem sc__law_with_new : FnScope N__law_with_new ["terms", "fresh"] (defScope (top 50)) := ⟨rfl, rfl, rfl, by decide +kernel, rfl, by decide +kernel, by decide +kernel⟩
theorem q__law_with_new {sp__law_orders : DSp} (T : Txt K mg fa fn) (h__law_orders : FnD P w K mg base A 0 8 "_law_orders" ["terms"] sp__law_orders) : Der P w K mg base A 8 N__law_with_new "_law_with_new" (defScope (top 50)) 0 (defBody (top 50)) (n__law_with_new sp__law_orders) := by
  intro f cdv Ar outer s H E hr
  have nd : N__law_with_new.Nodup := by decide
  have m_len : mg "len" = none := T.free 46
  have m_range : mg "range" = none := T.free 50
  exact dss_up (dss_cons (ds_setO nd (i := 2) rfl (by first | exact .inl rfl | exact .inr rfl) (do_lst da_nil))
    (dss_cons (ds_for (passes_of rfl) rfl (di_list (de_call h__law_orders.fn hr (takes_of rfl rfl rfl rfl) (da_cons (de_var 0) da_nil))) (dg_nm nd rfl)
    (dss_cons (ds_app 2 (de_var 3))
    (dss_one (ds_ext 2 (de_fz (do_lc (N' := N__law_with_new) (sc' := defScope (top 50)) (own := [("at", 4)]) rfl nd (di_r1 m_range (de_add (de_len m_len (da_cons (de_var 3) da_nil)) de_int)) (by decide +kernel) (fun _ _ _ _ _ => (dg_nm nd rfl)) (fun _ _ _ _ _ => dts_nil) (fun _ _ _ _ _ => (de_fz (do_cat (de_fz (do_cat (de_sl (de_var 3) dp_none (dp_some (de_var 4))) (de_fz (do_lst (da_cons (de_var 1) da_nil))))) (de_sl (de_var 3) (dp_some (de_var 4)) dp_none))))))))))
    (dss_one (ds_retV 2))))
theorem sc__law_decides : FnScope N__law_decides ["view", "front", "top"] (defScope (top 51)) := ⟨rfl, rfl, rfl, by decide +kernel, rfl, by decide +kernel, by decide +kernel⟩
theorem q__law_decides (T : Txt K mg fa fn) : Der P w K mg base A 1 N__law_decides "_law_decides" (defScope (top 51)) 0 (defBody (top 51)) n__law_decides := by
  intro f cdv Ar outer s H E hr
  have nd : N__law_decides.Nodup := by decide
  have m_len : mg "len" = none := T.free 46
  exact dss_up (dss_cons (ds_if (dt_not (dt_val (de_sw (de_var 1) (de_get (de_var 0) de_int))))
    (dss_one (ds_ret de_bl))
    dss_nil)
    (dss_one (ds_ret (de_or (de_lt (de_len m_len (da_cons (de_get (de_var 0) de_int) da_nil)) (de_get (de_var 0) de_int)) (de_one (de_ge (de_len m_len (da_cons (de_fz (do_lc (N' := N__law_decides) (sc' := defScope (top 51)) (own := [("term", 3)]) rfl nd (di_list (de_get (de_var 0) de_int)) (by decide +kernel) (fun _ _ _ _ _ => (dg_nm nd rfl)) (fun _ _ _ _ _ => (dts_one (dt_val (de_sw (de_var 3) (de_var 1))))) (fun _ _ _ _ _ => (de_var 3)))) da_nil)) (de_var 2)))))))
theorem sc__law_due : FnScope N__law_due ["views", "front", "top"] (defScope (top 52)) := ⟨rfl, rfl, rfl, by decide +kernel, rfl, by decide +kernel, by decide +kernel⟩
theorem q__law_due {sp__law_known sp__law_with_new sp__law_shows sp__law_answer : DSp} (T : Txt K mg fa fn) (h__law_known : FnD P w K mg base A 0 2 "_law_known" ["views"] sp__law_known) (h__law_with_new : FnD P w K mg base A 0 9 "_law_with_new" ["terms", "fresh"] sp__law_with_new) (h__law_shows : FnD P w K mg base A 0 3 "_law_shows" ["terms", "views"] sp__law_shows) (h__law_answer : FnD P w K mg base A 0 2 "_law_answer" ["terms", "front", "top"] sp__law_answer) : Der P w K mg base A 9 N__law_due "_law_due" (defScope (top 52)) 0 (defBody (top 52)) (n__law_due sp__law_known sp__law_with_new sp__law_shows sp__law_answer) := by
  intro f cdv Ar outer s H E hr
  have nd : N__law_due.Nodup := by decide
  have m_len : mg "len" = none := T.free 46
  exact dss_up (dss_cons (ds_setO nd (i := 3) rfl (by first | exact .inl rfl | exact .inr rfl) (do_lst da_nil))
    (dss_cons (ds_for (passes_of rfl) rfl (di_list (de_call h__law_with_new.fn hr (takes_of rfl rfl rfl rfl) (da_cons (de_call h__law_known.fn hr (takes_of rfl rfl rfl rfl) (da_cons (de_var 0) da_nil)) (da_cons (de_add (de_var 1) de_str) da_nil)))) (dg_nm nd rfl)
    (dss_one (ds_if (dt_val (de_call h__law_shows.fn hr (takes_of rfl rfl rfl rfl) (da_cons (de_var 4) (da_cons (de_var 0) da_nil))))
    (dss_cons (ds_set nd (i := 5) rfl (by first | exact .inl rfl | exact .inr rfl) (de_call h__law_answer.fn hr (takes_of rfl rfl rfl rfl) (da_cons (de_var 4) (da_cons (de_var 1) (da_cons (de_var 2) da_nil)))))
    (dss_one (ds_if (dt_bor (dt_notIn hr (de_var 5) (de_var 3)))
    (dss_one (ds_app 3 (de_var 5)))
    dss_nil)))
    dss_nil)))
    (dss_one (ds_ret (de_if (dt_eq hr (de_bor (de_len m_len (da_cons (de_var 3) da_nil))) de_int) (de_getOw 3 de_int) de_non)))))
theorem sc__law_right : FnScope N__law_right ["views", "front", "top"] (defScope (top 53)) := ⟨rfl, rfl, rfl, by decide +kernel, rfl, by decide +kernel, by decide +kernel⟩
theorem q__law_right {sp__law_due sp_sure_answer sp__law_decides sp_deciding_screen : DSp} (T : Txt K mg fa fn) (h__law_due : FnD P w K mg base A 0 10 "_law_due" ["views", "front", "top"] sp__law_due) (k_sure_answer_limit_beginning_screens : FkD P w K mg base A 0 11 "sure_answer" ["screens", "beginning", "limit"] ["limit", "beginning", "screens"] [2, 1, 0] sp_sure_answer) (h_sure_answer : FnD P w K mg base A 0 11 "sure_answer" ["screens", "beginning", "limit"] sp_sure_answer) (h__law_decides : FnD P w K mg base A 0 2 "_law_decides" ["view", "front", "top"] sp__law_decides) (k_deciding_screen_limit_beginning_screens : FkD P w K mg base A 0 11 "deciding_screen" ["screens", "beginning", "limit"] ["limit", "beginning", "screens"] [2, 1, 0] sp_deciding_screen) (h_deciding_screen : FnD P w K mg base A 0 11 "deciding_screen" ["screens", "beginning", "limit"] sp_deciding_screen) : DerG P w K mg base A 11 N__law_right "_law_right" (defScope (top 53)) 0 (defBody (top 53)) (n__law_right sp__law_due sp_sure_answer sp__law_decides sp_deciding_screen) := by
  intro f cdv Ar outer s H E hr hgu
  have hsm := T.say.sm
  have nd : N__law_right.Nodup := by decide
  have m_enumerate : mg "enumerate" = none := T.free 43
  have m_range : mg "range" = none := T.free 50
  have m_repr : mg "repr" = none := T.free 51
  exact dss_up (dss_cons (by first | exact (ds_par2 rfl nd (i := 6) (j := 7) rfl rfl (by decide) rfl rfl (da_cons (de_call h__law_due.fn hr (takes_of rfl rfl rfl rfl) (da_cons (de_var 0) (da_cons (de_var 1) (da_cons (de_var 2) da_nil)))) (da_cons (de_reprA hr hgu hsm m_repr (da_cons (de_var 0) da_nil)) da_nil)) rfl) | exact (ds_parU (da_cons (de_call h__law_due.fn hr (takes_of rfl rfl rfl rfl) (da_cons (de_var 0) (da_cons (de_var 1) (da_cons (de_var 2) da_nil)))) (da_cons (de_reprA hr hgu hsm m_repr (da_cons (de_var 0) da_nil)) da_nil)) (dg_tp rfl (dgs_cons (dg_nm nd rfl) (dgs_cons (dg_nm nd rfl) dgs_nil)))))
    (dss_cons (ds_for (passes_of rfl) rfl (di_r1 m_range de_int) (dg_nm nd rfl)
    (dss_cons (ds_setN nd (i := 5) rfl (by first | exact .inl rfl | exact .inr rfl) (dn_lst (dns_cons (dn_call h_sure_answer.fn hr (takes_of rfl rfl rfl rfl) (da_cons (de_var 0) (da_cons (de_var 1) (da_cons (de_var 2) da_nil)))) (dns_cons (dn_callKw k_sure_answer_limit_beginning_screens.fk hr (takes_of rfl rfl rfl rfl) (dk_cons (de_var 2) (dk_cons (de_var 1) (dk_cons (de_var 0) dk_nil)))) dns_nil))))
    (dss_cons (ds_if (dt_ne hr (de_bor (de_reprA hr hgu hsm m_repr (da_cons (de_var 5) da_nil))) (de_reprA hr hgu hsm m_repr (da_cons (de_fz (do_lst (da_cons (de_var 6) (da_cons (de_var 6) da_nil)))) da_nil)))
    (dss_one (ds_ret de_bl))
    dss_nil)
    (dss_one (ds_if (dt_bor (dt_notN (de_get (de_var 5) de_int)))
    (dss_one (ds_appP 5 pe_str))
    dss_nil)))))
    (dss_cons (ds_set nd (i := 4) rfl (by first | exact .inl rfl | exact .inr rfl) (de_fz (do_cat (de_fz (do_lc (N' := N__law_right) (sc' := defScope (top 53)) (own := [("at", 8), ("view", 9)]) rfl nd (di_enum m_enumerate (de_var 0)) (by decide +kernel) (fun _ _ _ _ _ => (dg_tp rfl (dgs_cons (dg_nm nd rfl) (dgs_cons (dg_nm nd rfl) dgs_nil)))) (fun _ _ _ _ _ => (dts_one (dt_val (de_call h__law_decides.fn hr tk0 (da_cons (de_var 9) (da_cons (de_var 1) (da_cons (de_var 2) da_nil))))))) (fun _ _ _ _ _ => (de_var 8)))) (de_fz (do_lst (da_cons de_non da_nil))))))
    (dss_cons (ds_set nd (i := 5) rfl (by first | exact .inl rfl | exact .inr rfl) (de_fz (do_lst (da_cons (de_call h_deciding_screen.fn hr (takes_of rfl rfl rfl rfl) (da_cons (de_var 0) (da_cons (de_var 1) (da_cons (de_var 2) da_nil)))) (da_cons (de_callKw k_deciding_screen_limit_beginning_screens.fk hr (takes_of rfl rfl rfl rfl) (dk_cons (de_var 2) (dk_cons (de_var 1) (dk_cons (de_var 0) dk_nil)))) da_nil)))))
    (dss_one (ds_ret (de_and (de_eq hr (de_reprA hr hgu hsm m_repr (da_cons (de_var 5) da_nil)) (de_reprA hr hgu hsm m_repr (da_cons (de_fz (do_rep (de_fz (do_lst (da_cons (de_get (de_var 4) de_int) da_nil))) de_int)) da_nil))) (de_and (de_eq hr (de_reprA hr hgu hsm m_repr (da_cons (de_var 0) da_nil)) (de_var 7)) (de_one (de_eq hr (de_isN (de_get (de_var 4) de_int)) (de_isN (de_var 6))))))))))))
theorem sc_law : FnScope N_law ["script"] (defScope (top 54)) := ⟨rfl, rfl, rfl, by decide +kernel, rfl, by decide +kernel, by decide +kernel⟩
theorem q_law {sp__law_jar sp__law_terms sp__law_views sp__law_front sp__law_dip sp__law_right sp_sure_answer : DSp} (T : Txt K mg fa fn) (h__law_jar : FnD P w K mg base Amb.no 0 2 "_law_jar" ["script", "k"] sp__law_jar) (h_sure_answer : FnD P w K mg base Amb.no 0 11 "sure_answer" ["screens", "beginning", "limit"] sp_sure_answer) (Jh__law_terms : ∀ ja, FnD P w K mg base (jarA ja) 21267647932558653984907657038195064833 3 "_law_terms" ["jar", "most", "signs", "longest"] sp__law_terms) (Jh__law_views : ∀ ja, FnD P w K mg base (jarA ja) 23058430092136939521 4 "_law_views" ["jar", "terms", "many", "most", "signs"] sp__law_views) (Jh__law_front : ∀ ja, FnD P w K mg base (jarA ja) 4 3 "_law_front" ["jar", "terms", "signs"] sp__law_front) (Jh__law_dip : ∀ ja, FnD P w K mg base (jarA ja) 1 2 "_law_dip" ["jar", "many"] sp__law_dip) (Jh__law_right : ∀ ja, FnDg P w K mg base (jarA ja) 0 12 "_law_right" ["views", "front", "top"] sp__law_right) (f : Addr) (cdv : Value) (Ar : Around) (outer : List Env) (s : Shared) (H : Hp) (E : XK) (hr : Room 12 (Ar.deeper (envOfC "law" (defScope (top 54)) s.heap.objs.size f cdv))) (hgu : (Ar.deeper (envOfC "law" (defScope (top 54)) s.heap.objs.size f cdv)).guards = some []) :
    DSs (cxOf (L2.CX P w) P w K mg base N_law "law" (defScope (top 54)) f cdv Ar outer s H E) Amb.no (wxW E) 0 (defBody (top 54)) (n_law sp__law_jar sp__law_terms sp__law_views sp__law_front sp__law_dip sp__law_right sp_sure_answer) := by
  have hsm := T.say.sm
  have nd : N_law.Nodup := by decide
  have m_len : mg "len" = none := T.free 46
  have m_max : mg "max" = none := T.free 48
  have m_min : mg "min" = none := T.free 49
  have m_range : mg "range" = none := T.free 50
  exact dss_up (dss_cons (ds_for (passes_of rfl) rfl (di_r1 m_range (de_max2 rfl m_max (da_cons de_int (da_cons (de_min2 rfl m_min (da_cons de_int (da_cons (de_lenSc 0 m_len) da_nil))) da_nil)))) (dg_nm nd rfl)
    (dss_jar (c := 21267647932558654031024517222468943874) nd (i := 3) rfl (by first | exact .inl rfl | exact .inr rfl) (do_call h__law_jar.fn hr (takes_of rfl rfl rfl rfl) (da_dk 0 (da_cons (de_var 1) da_nil))) (fun ja => by
    have h__law_terms := Jh__law_terms ja
    have h__law_views := Jh__law_views ja
    have h__law_front := Jh__law_front ja
    have h__law_dip := Jh__law_dip ja
    have h__law_right := Jh__law_right ja
    exact dss_up (dss_cons (ds_set nd (i := 4) rfl (by first | exact .inl rfl | exact .inr rfl) (de_call h__law_terms.fn hr (takes_of rfl rfl rfl rfl) (da_dk 3 (da_cons de_int (da_cons de_str (da_cons de_int da_nil))))))
    (dss_cons (ds_set nd (i := 2) rfl (by first | exact .inl rfl | exact .inr rfl) (de_call h__law_views.fn hr (takes_of rfl rfl rfl rfl) (da_dk 3 (da_cons (de_var 4) (da_cons de_int (da_cons de_int (da_cons de_str da_nil)))))))
    (dss_one (ds_for (passes_of rfl) rfl (di_r1 m_range de_int) (dg_nm nd rfl)
    (dss_one (ds_if (dt_not (dt_val (de_callG h__law_right.fn hr hgu (takes_of rfl rfl rfl rfl) (da_cons (de_var 2) (da_cons (de_call h__law_front.fn hr (takes_of rfl rfl rfl rfl) (da_dk 3 (da_cons (de_var 4) (da_cons de_str da_nil)))) (da_cons (de_add de_int (de_call h__law_dip.fn hr (takes_of rfl rfl rfl rfl) (da_dk 3 (da_cons de_int da_nil)))) da_nil))))))
    (dss_one (ds_ret de_bl))
    dss_nil))))))) (by unfold TMX; decide +kernel)))
    (dss_cons (ds_set nd (i := 2) rfl (by first | exact .inl rfl | exact .inr rfl) (de_fz (do_lst (da_cons (de_tup (da_cons de_str (da_cons de_int (da_cons (de_fz (do_lst (da_cons de_str (da_cons de_str da_nil)))) da_nil)))) (da_cons (de_tup (da_cons de_str (da_cons de_int (da_cons (de_fz (do_lst (da_cons de_str (da_cons de_str da_nil)))) da_nil)))) (da_cons (de_tup (da_cons de_str (da_cons de_int (da_cons (de_fz (do_lst (da_cons de_str (da_cons de_str da_nil)))) da_nil)))) da_nil))))))
    (dss_one (ds_ret (de_eq hr (de_fz (do_lc (N' := N_law) (sc' := defScope (top 54)) (own := [("front", 6)]) rfl nd (di_list (de_fz (do_lst (da_cons de_str (da_cons de_str (da_cons de_str da_nil)))))) (by decide +kernel) (fun _ _ _ _ _ => (dg_nm nd rfl)) (fun _ _ _ _ _ => dts_nil) (fun _ _ _ _ _ => (de_call h_sure_answer.fn hr tk0 (da_cons (de_var 2) (da_cons (de_var 6) (da_cons de_int da_nil))))))) (de_fz (do_lst (da_cons de_non (da_cons (de_fz (do_lst (da_cons de_str da_nil))) (da_cons (de_fz (do_lst da_nil)) da_nil))))))))))
end
end TM
namespace TM
open L2 PySem.Spec PySem PyProof.Rows
section
variable {P : Program} {w : World} {K : PySem.W.Frag} {mg : Str → Option Value} {base : Heap}
theorem okf_is_integer (A : Amb) (T : Txt K mg fa fn) : ∃ fd, FunD K "is_integer" "is_integer" (defArgs (top 9)) (defBody (top 9)) (defScope (top 9)) [] [] (He.ga K "is_integer") fd ∧ FnOk P w K mg base (L2.CX P w) 2 (He.ga K "is_integer") fd ["value", "low", "high"] (liftSp K A 0 sp_is_integer) := by
  obtain ⟨fd, F⟩ := T.say.d.def_ 0 (d := e_is_integer) rfl
  exact ⟨fd, F, fn_ok2 F sc_is_integer (q_is_integer T) r_is_integer⟩
theorem ok_is_integer (A : Amb) (T : Txt K mg fa fn) : FnD P w K mg base A 0 2 "is_integer" ["value", "low", "high"] sp_is_integer := by
  obtain ⟨fd, F, h⟩ := okf_is_integer A (w := w) (base := base) (P := P) T
  exact FnD.of h F (T.glo 0) (fun _ _ _ _ _ _ us hl => match us, hl with | [_, _, _], _ => rfl)
theorem okf_are_letters (A : Amb) (T : Txt K mg fa fn) : ∃ fd, FunD K "are_letters" "are_letters" (defArgs (top 10)) (defBody (top 10)) (defScope (top 10)) [] [] (He.ga K "are_letters") fd ∧ FnOk P w K mg base (L2.CX P w) 2 (He.ga K "are_letters") fd ["value"] (liftSp K A 0 sp_are_letters) := by
  obtain ⟨fd, F⟩ := T.say.d.def_ 1 (d := e_are_letters) rfl
  exact ⟨fd, F, fn_ok2 F sc_are_letters (q_are_letters T) r_are_letters⟩
theorem ok_are_letters (A : Amb) (T : Txt K mg fa fn) : FnD P w K mg base A 0 2 "are_letters" ["value"] sp_are_letters := by
  obtain ⟨fd, F, h⟩ := okf_are_letters A (w := w) (base := base) (P := P) T
  exact FnD.of h F (T.glo 1) (fun _ _ _ _ _ _ us hl => match us, hl with | [_], _ => rfl)
theorem okf_has_word_form (A : Amb) (T : Txt K mg fa fn) : ∃ fd, FunD K "has_word_form" "has_word_form" (defArgs (top 11)) (defBody (top 11)) (defScope (top 11)) [] [] (He.ga K "has_word_form") fd ∧ FnOk P w K mg base (L2.CX P w) 3 (He.ga K "has_word_form") fd ["value"] (liftSp K A 0 sp_has_word_form) := by
  obtain ⟨fd, F⟩ := T.say.d.def_ 2 (d := e_has_word_form) rfl
  exact ⟨fd, F, fn_ok2 F sc_has_word_form (q_has_word_form T (ok_are_letters A T)) r_has_word_form⟩
theorem ok_has_word_form (A : Amb) (T : Txt K mg fa fn) : FnD P w K mg base A 0 3 "has_word_form" ["value"] sp_has_word_form := by
  obtain ⟨fd, F, h⟩ := okf_has_word_form A (w := w) (base := base) (P := P) T
  exact FnD.of h F (T.glo 2) (fun _ _ _ _ _ _ us hl => match us, hl with | [_], _ => rfl)
theorem okf_are_different_words (A : Amb) (T : Txt K mg fa fn) : ∃ fd, FunD K "are_different_words" "are_different_words" (defArgs (top 12)) (defBody (top 12)) (defScope (top 12)) [] [] (He.ga K "are_different_words") fd ∧ FnOk P w K mg base (L2.CX P w) 4 (He.ga K "are_different_words") fd ["value"] (liftSp K A 0 sp_are_different_words) := by
  obtain ⟨fd, F⟩ := T.say.d.def_ 3 (d := e_are_different_words) rfl
  exact ⟨fd, F, fn_ok2 F sc_are_different_words (q_are_different_words T (ok_has_word_form A T)) r_are_different_words⟩
theorem ok_are_different_words (A : Amb) (T : Txt K mg fa fn) : FnD P w K mg base A 0 4 "are_different_words" ["value"] sp_are_different_words := by
  obtain ⟨fd, F, h⟩ := okf_are_different_words A (w := w) (base := base) (P := P) T
  exact FnD.of h F (T.glo 3) (fun _ _ _ _ _ _ us hl => match us, hl with | [_], _ => rfl)
theorem okf_is_shown_list (A : Amb) (T : Txt K mg fa fn) : ∃ fd, FunD K "is_shown_list" "is_shown_list" (defArgs (top 13)) (defBody (top 13)) (defScope (top 13)) [] [] (He.ga K "is_shown_list") fd ∧ FnOk P w K mg base (L2.CX P w) 5 (He.ga K "is_shown_list") fd ["beginning", "limit", "value"] (liftSp K A 0 sp_is_shown_list) := by
  obtain ⟨fd, F⟩ := T.say.d.def_ 4 (d := e_is_shown_list) rfl
  exact ⟨fd, F, fn_ok2 F sc_is_shown_list (q_is_shown_list T (ok_are_different_words A T)) r_is_shown_list⟩
theorem ok_is_shown_list (A : Amb) (T : Txt K mg fa fn) : FnD P w K mg base A 0 5 "is_shown_list" ["beginning", "limit", "value"] sp_is_shown_list := by
  obtain ⟨fd, F, h⟩ := okf_is_shown_list A (w := w) (base := base) (P := P) T
  exact FnD.of h F (T.glo 4) (fun _ _ _ _ _ _ us hl => match us, hl with | [_, _, _], _ => rfl)
theorem okf_is_limit (A : Amb) (T : Txt K mg fa fn) : ∃ fd, FunD K "is_limit" "is_limit" (defArgs (top 14)) (defBody (top 14)) (defScope (top 14)) [] [] (He.ga K "is_limit") fd ∧ FnOk P w K mg base (L2.CX P w) 3 (He.ga K "is_limit") fd ["value"] (liftSp K A 0 sp_is_limit) := by
  obtain ⟨fd, F⟩ := T.say.d.def_ 5 (d := e_is_limit) rfl
  exact ⟨fd, F, fn_ok2 F sc_is_limit (q_is_limit T (ok_is_integer A T)) r_is_limit⟩
theorem ok_is_limit (A : Amb) (T : Txt K mg fa fn) : FnD P w K mg base A 0 3 "is_limit" ["value"] sp_is_limit := by
  obtain ⟨fd, F, h⟩ := okf_is_limit A (w := w) (base := base) (P := P) T
  exact FnD.of h F (T.glo 5) (fun _ _ _ _ _ _ us hl => match us, hl with | [_], _ => rfl)
theorem okf_has_screen_form (A : Amb) (T : Txt K mg fa fn) : ∃ fd, FunD K "has_screen_form" "has_screen_form" (defArgs (top 15)) (defBody (top 15)) (defScope (top 15)) [] [] (He.ga K "has_screen_form") fd ∧ FnOk P w K mg base (L2.CX P w) 6 (He.ga K "has_screen_form") fd ["value"] (liftSp K A 0 sp_has_screen_form) := by
  obtain ⟨fd, F⟩ := T.say.d.def_ 6 (d := e_has_screen_form) rfl
  exact ⟨fd, F, fn_ok2 F sc_has_screen_form (q_has_screen_form T (ok_are_letters A T) (ok_is_limit A T) (ok_is_shown_list A T)) r_has_screen_form⟩
theorem ok_has_screen_form (A : Amb) (T : Txt K mg fa fn) : FnD P w K mg base A 0 6 "has_screen_form" ["value"] sp_has_screen_form := by
  obtain ⟨fd, F, h⟩ := okf_has_screen_form A (w := w) (base := base) (P := P) T
  exact FnD.of h F (T.glo 6) (fun _ _ _ _ _ _ us hl => match us, hl with | [_], _ => rfl)
theorem okf_has_screens_form (A : Amb) (T : Txt K mg fa fn) : ∃ fd, FunD K "has_screens_form" "has_screens_form" (defArgs (top 16)) (defBody (top 16)) (defScope (top 16)) [] [] (He.ga K "has_screens_form") fd ∧ FnOk P w K mg base (L2.CX P w) 7 (He.ga K "has_screens_form") fd ["value"] (liftSp K A 0 sp_has_screens_form) := by
  obtain ⟨fd, F⟩ := T.say.d.def_ 7 (d := e_has_screens_form) rfl
  exact ⟨fd, F, fn_ok2 F sc_has_screens_form (q_has_screens_form T (ok_has_screen_form A T)) r_has_screens_form⟩
theorem ok_has_screens_form (A : Amb) (T : Txt K mg fa fn) : FnD P w K mg base A 0 7 "has_screens_form" ["value"] sp_has_screens_form := by
  obtain ⟨fd, F, h⟩ := okf_has_screens_form A (w := w) (base := base) (P := P) T
  exact FnD.of h F (T.glo 7) (fun _ _ _ _ _ _ us hl => match us, hl with | [_], _ => rfl)
theorem okf_require_beginning (A : Amb) (T : Txt K mg fa fn) : ∃ fd, FunD K "require_beginning" "require_beginning" (defArgs (top 17)) (defBody (top 17)) (defScope (top 17)) [] [] (He.ga K "require_beginning") fd ∧ FnOk P w K mg base (L2.CX P w) 3 (He.ga K "require_beginning") fd ["value"] (liftSp K A 0 sp_require_beginning) := by
  obtain ⟨fd, F⟩ := T.say.d.def_ 8 (d := e_require_beginning) rfl
  exact ⟨fd, F, fn_ok2 F sc_require_beginning (q_require_beginning T (ok_are_letters A T)) r_require_beginning⟩
theorem ok_require_beginning (A : Amb) (T : Txt K mg fa fn) : FnD P w K mg base A 0 3 "require_beginning" ["value"] sp_require_beginning := by
  obtain ⟨fd, F, h⟩ := okf_require_beginning A (w := w) (base := base) (P := P) T
  exact FnD.of h F (T.glo 8) (fun _ _ _ _ _ _ us hl => match us, hl with | [_], _ => rfl)
theorem okf_require_limit (A : Amb) (T : Txt K mg fa fn) : ∃ fd, FunD K "require_limit" "require_limit" (defArgs (top 18)) (defBody (top 18)) (defScope (top 18)) [] [] (He.ga K "require_limit") fd ∧ FnOk P w K mg base (L2.CX P w) 4 (He.ga K "require_limit") fd ["value"] (liftSp K A 0 sp_require_limit) := by
  obtain ⟨fd, F⟩ := T.say.d.def_ 9 (d := e_require_limit) rfl
  exact ⟨fd, F, fn_ok2 F sc_require_limit (q_require_limit T (ok_is_limit A T)) r_require_limit⟩
theorem ok_require_limit (A : Amb) (T : Txt K mg fa fn) : FnD P w K mg base A 0 4 "require_limit" ["value"] sp_require_limit := by
  obtain ⟨fd, F, h⟩ := okf_require_limit A (w := w) (base := base) (P := P) T
  exact FnD.of h F (T.glo 9) (fun _ _ _ _ _ _ us hl => match us, hl with | [_], _ => rfl)
theorem okf_require_screens (A : Amb) (T : Txt K mg fa fn) : ∃ fd, FunD K "require_screens" "require_screens" (defArgs (top 19)) (defBody (top 19)) (defScope (top 19)) [] [] (He.ga K "require_screens") fd ∧ FnOk P w K mg base (L2.CX P w) 8 (He.ga K "require_screens") fd ["value"] (liftSp K A 0 sp_require_screens) := by
  obtain ⟨fd, F⟩ := T.say.d.def_ 10 (d := e_require_screens) rfl
  exact ⟨fd, F, fn_ok2 F sc_require_screens (q_require_screens T (ok_has_screens_form A T)) r_require_screens⟩
theorem ok_require_screens (A : Amb) (T : Txt K mg fa fn) : FnD P w K mg base A 0 8 "require_screens" ["value"] sp_require_screens := by
  obtain ⟨fd, F, h⟩ := okf_require_screens A (w := w) (base := base) (P := P) T
  exact FnD.of h F (T.glo 10) (fun _ _ _ _ _ _ us hl => match us, hl with | [_], _ => rfl)
theorem okf_is_short (A : Amb) (T : Txt K mg fa fn) : ∃ fd, FunD K "is_short" "is_short" (defArgs (top 23)) (defBody (top 23)) (defScope (top 23)) [] [] (He.ga K "is_short") fd ∧ FnOk P w K mg base (L2.CX P w) 2 (He.ga K "is_short") fd ["screen"] (liftSp K A 0 sp_is_short) := by
  obtain ⟨fd, F⟩ := T.say.d.def_ 11 (d := e_is_short) rfl
  exact ⟨fd, F, fn_ok2 F sc_is_short (q_is_short T) r_is_short⟩
theorem ok_is_short (A : Amb) (T : Txt K mg fa fn) : FnD P w K mg base A 0 2 "is_short" ["screen"] sp_is_short := by
  obtain ⟨fd, F, h⟩ := okf_is_short A (w := w) (base := base) (P := P) T
  exact FnD.of h F (T.glo 11) (fun _ _ _ _ _ _ us hl => match us, hl with | [_], _ => rfl)
theorem okf_misses (A : Amb) (T : Txt K mg fa fn) : ∃ fd, FunD K "misses" "misses" (defArgs (top 24)) (defBody (top 24)) (defScope (top 24)) [] [] (He.ga K "misses") fd ∧ FnOk P w K mg base (L2.CX P w) 3 (He.ga K "misses") fd ["screen", "word"] (liftSp K A 0 sp_misses) := by
  obtain ⟨fd, F⟩ := T.say.d.def_ 12 (d := e_misses) rfl
  exact ⟨fd, F, fn_ok2 F sc_misses (q_misses T (ok_is_short A T)) r_misses⟩
theorem ok_misses (A : Amb) (T : Txt K mg fa fn) : FnD P w K mg base A 0 3 "misses" ["screen", "word"] sp_misses := by
  obtain ⟨fd, F, h⟩ := okf_misses A (w := w) (base := base) (P := P) T
  exact FnD.of h F (T.glo 12) (fun _ _ _ _ _ _ us hl => match us, hl with | [_, _], _ => rfl)
theorem okf_order_clash (A : Amb) (T : Txt K mg fa fn) : ∃ fd, FunD K "order_clash" "order_clash" (defArgs (top 25)) (defBody (top 25)) (defScope (top 25)) [] [] (He.ga K "order_clash") fd ∧ FnOk P w K mg base (L2.CX P w) 2 (He.ga K "order_clash") fd ["one", "other"] (liftSp K A 0 sp_order_clash) := by
  obtain ⟨fd, F⟩ := T.say.d.def_ 13 (d := e_order_clash) rfl
  exact ⟨fd, F, fn_ok2 F sc_order_clash (q_order_clash T) r_order_clash⟩
theorem ok_order_clash (A : Amb) (T : Txt K mg fa fn) : FnD P w K mg base A 0 2 "order_clash" ["one", "other"] sp_order_clash := by
  obtain ⟨fd, F, h⟩ := okf_order_clash A (w := w) (base := base) (P := P) T
  exact FnD.of h F (T.glo 13) (fun _ _ _ _ _ _ us hl => match us, hl with | [_, _], _ => rfl)
theorem okf_clash_of_two (A : Amb) (T : Txt K mg fa fn) : ∃ fd, FunD K "clash_of_two" "clash_of_two" (defArgs (top 26)) (defBody (top 26)) (defScope (top 26)) [] [] (He.ga K "clash_of_two") fd ∧ FnOk P w K mg base (L2.CX P w) 4 (He.ga K "clash_of_two") fd ["screens", "first", "second"] (liftSp K A 0 sp_clash_of_two) := by
  obtain ⟨fd, F⟩ := T.say.d.def_ 14 (d := e_clash_of_two) rfl
  exact ⟨fd, F, fn_ok2 F sc_clash_of_two (q_clash_of_two T (ok_misses A T) (ok_order_clash A T)) r_clash_of_two⟩
theorem ok_clash_of_two (A : Amb) (T : Txt K mg fa fn) : FnD P w K mg base A 0 4 "clash_of_two" ["screens", "first", "second"] sp_clash_of_two := by
  obtain ⟨fd, F, h⟩ := okf_clash_of_two A (w := w) (base := base) (P := P) T
  exact FnD.of h F (T.glo 14) (fun _ _ _ _ _ _ us hl => match us, hl with | [_, _, _], _ => rfl)
theorem okf_clash_of (A : Amb) (T : Txt K mg fa fn) : ∃ fd, FunD K "clash_of" "clash_of" (defArgs (top 27)) (defBody (top 27)) (defScope (top 27)) [] [] (He.ga K "clash_of") fd ∧ FnOk P w K mg base (L2.CX P w) 5 (He.ga K "clash_of") fd ["screens"] (liftSp K A 0 sp_clash_of) := by
  obtain ⟨fd, F⟩ := T.say.d.def_ 15 (d := e_clash_of) rfl
  exact ⟨fd, F, fn_ok2 F sc_clash_of (q_clash_of T (ok_clash_of_two A T)) r_clash_of⟩
theorem ok_clash_of (A : Amb) (T : Txt K mg fa fn) : FnD P w K mg base A 0 5 "clash_of" ["screens"] sp_clash_of := by
  obtain ⟨fd, F, h⟩ := okf_clash_of A (w := w) (base := base) (P := P) T
  exact FnD.of h F (T.glo 15) (fun _ _ _ _ _ _ us hl => match us, hl with | [_], _ => rfl)
theorem okf_require_no_clash (A : Amb) (T : Txt K mg fa fn) : ∃ fd, FunD K "require_no_clash" "require_no_clash" (defArgs (top 28)) (defBody (top 28)) (defScope (top 28)) [] [] (He.ga K "require_no_clash") fd ∧ FnOk P w K mg base (L2.CX P w) 9 (He.ga K "require_no_clash") fd ["screens"] (liftSp K A 0 sp_require_no_clash) := by
  obtain ⟨fd, F⟩ := T.say.d.def_ 16 (d := e_require_no_clash) rfl
  exact ⟨fd, F, fn_ok2 F sc_require_no_clash (q_require_no_clash T (ok_require_screens A T) (ok_clash_of A T)) r_require_no_clash⟩
theorem ok_require_no_clash (A : Amb) (T : Txt K mg fa fn) : FnD P w K mg base A 0 9 "require_no_clash" ["screens"] sp_require_no_clash := by
  obtain ⟨fd, F, h⟩ := okf_require_no_clash A (w := w) (base := base) (P := P) T
  exact FnD.of h F (T.glo 16) (fun _ _ _ _ _ _ us hl => match us, hl with | [_], _ => rfl)
theorem okf_matching (A : Amb) (T : Txt K mg fa fn) : ∃ fd, FunD K "matching" "matching" (defArgs (top 30)) (defBody (top 30)) (defScope (top 30)) [] [] (He.ga K "matching") fd ∧ FnOk P w K mg base (L2.CX P w) 2 (He.ga K "matching") fd ["words", "beginning"] (liftSp K A 0 sp_matching) := by
  obtain ⟨fd, F⟩ := T.say.d.def_ 17 (d := e_matching) rfl
  exact ⟨fd, F, fn_ok2 F sc_matching (q_matching T) r_matching⟩
theorem ok_matching (A : Amb) (T : Txt K mg fa fn) : FnD P w K mg base A 0 2 "matching" ["words", "beginning"] sp_matching := by
  obtain ⟨fd, F, h⟩ := okf_matching A (w := w) (base := base) (P := P) T
  exact FnD.of h F (T.glo 17) (fun _ _ _ _ _ _ us hl => match us, hl with | [_, _], _ => rfl)
theorem okf_answer_in (A : Amb) (T : Txt K mg fa fn) : ∃ fd, FunD K "answer_in" "answer_in" (defArgs (top 31)) (defBody (top 31)) (defScope (top 31)) [] [] (He.ga K "answer_in") fd ∧ FnOk P w K mg base (L2.CX P w) 3 (He.ga K "answer_in") fd ["dictionary", "beginning", "limit"] (liftSp K A 0 sp_answer_in) := by
  obtain ⟨fd, F⟩ := T.say.d.def_ 18 (d := e_answer_in) rfl
  exact ⟨fd, F, fn_ok2 F sc_answer_in (q_answer_in T (ok_matching A T)) r_answer_in⟩
theorem ok_answer_in (A : Amb) (T : Txt K mg fa fn) : FnD P w K mg base A 0 3 "answer_in" ["dictionary", "beginning", "limit"] sp_answer_in := by
  obtain ⟨fd, F, h⟩ := okf_answer_in A (w := w) (base := base) (P := P) T
  exact FnD.of h F (T.glo 18) (fun _ _ _ _ _ _ us hl => match us, hl with | [_, _, _], _ => rfl)
theorem okf_require_question (A : Amb) (T : Txt K mg fa fn) : ∃ fd, FunD K "require_question" "require_question" (defArgs (top 33)) (defBody (top 33)) (defScope (top 33)) [] [] (He.ga K "require_question") fd ∧ FnOk P w K mg base (L2.CX P w) 10 (He.ga K "require_question") fd ["screens", "beginning", "limit"] (liftSp K A 0 sp_require_question) := by
  obtain ⟨fd, F⟩ := T.say.d.def_ 19 (d := e_require_question) rfl
  exact ⟨fd, F, fn_ok2 F sc_require_question (q_require_question T (ok_require_no_clash A T) (ok_require_beginning A T) (ok_require_limit A T)) r_require_question⟩
theorem ok_require_question (A : Amb) (T : Txt K mg fa fn) : FnD P w K mg base A 0 10 "require_question" ["screens", "beginning", "limit"] sp_require_question := by
  obtain ⟨fd, F, h⟩ := okf_require_question A (w := w) (base := base) (P := P) T
  exact FnD.of h F (T.glo 19) (fun _ _ _ _ _ _ us hl => match us, hl with | [_, _, _], _ => rfl)
theorem okf_decides (A : Amb) (T : Txt K mg fa fn) : ∃ fd, FunD K "decides" "decides" (defArgs (top 34)) (defBody (top 34)) (defScope (top 34)) [] [] (He.ga K "decides") fd ∧ FnOk P w K mg base (L2.CX P w) 3 (He.ga K "decides") fd ["screen", "beginning", "limit"] (liftSp K A 0 sp_decides) := by
  obtain ⟨fd, F⟩ := T.say.d.def_ 20 (d := e_decides) rfl
  exact ⟨fd, F, fn_ok2 F sc_decides (q_decides T (ok_is_short A T) (ok_matching A T)) r_decides⟩
theorem ok_decides (A : Amb) (T : Txt K mg fa fn) : FnD P w K mg base A 0 3 "decides" ["screen", "beginning", "limit"] sp_decides := by
  obtain ⟨fd, F, h⟩ := okf_decides A (w := w) (base := base) (P := P) T
  exact FnD.of h F (T.glo 20) (fun _ _ _ _ _ _ us hl => match us, hl with | [_, _, _], _ => rfl)
theorem okf_decider_in (A : Amb) (T : Txt K mg fa fn) : ∃ fd, FunD K "decider_in" "decider_in" (defArgs (top 35)) (defBody (top 35)) (defScope (top 35)) [] [] (He.ga K "decider_in") fd ∧ FnOk P w K mg base (L2.CX P w) 4 (He.ga K "decider_in") fd ["screens", "beginning", "limit"] (liftSp K A 0 sp_decider_in) := by
  obtain ⟨fd, F⟩ := T.say.d.def_ 21 (d := e_decider_in) rfl
  exact ⟨fd, F, fn_ok2 F sc_decider_in (q_decider_in T (ok_decides A T)) r_decider_in⟩
theorem ok_decider_in (A : Amb) (T : Txt K mg fa fn) : FnD P w K mg base A 0 4 "decider_in" ["screens", "beginning", "limit"] sp_decider_in := by
  obtain ⟨fd, F, h⟩ := okf_decider_in A (w := w) (base := base) (P := P) T
  exact FnD.of h F (T.glo 21) (fun _ _ _ _ _ _ us hl => match us, hl with | [_, _, _], _ => rfl)
theorem okf_sure_in (A : Amb) (T : Txt K mg fa fn) : ∃ fd, FunD K "sure_in" "sure_in" (defArgs (top 36)) (defBody (top 36)) (defScope (top 36)) [] [] (He.ga K "sure_in") fd ∧ FnOk P w K mg base (L2.CX P w) 5 (He.ga K "sure_in") fd ["screens", "beginning", "limit"] (liftSp K A 0 sv_sure_in) := by
  obtain ⟨fd, F⟩ := T.say.d.def_ 22 (d := e_sure_in) rfl
  exact ⟨fd, F, fn_ok2 F sc_sure_in (q_sure_in T (ok_decider_in A T) (ok_answer_in A T)) r_sure_in⟩
theorem ok_sure_in (A : Amb) (T : Txt K mg fa fn) : FnD P w K mg base A 0 5 "sure_in" ["screens", "beginning", "limit"] sv_sure_in := by
  obtain ⟨fd, F, h⟩ := okf_sure_in A (w := w) (base := base) (P := P) T
  exact FnD.of h F (T.glo 22) (fun _ _ _ _ _ _ us hl => match us, hl with | [_, _, _], _ => rfl)
theorem okf_sure_answer (A : Amb) (T : Txt K mg fa fn) : ∃ fd, FunD K "sure_answer" "sure_answer" (defArgs (top 37)) (defBody (top 37)) (defScope (top 37)) [] [] (He.ga K "sure_answer") fd ∧ FnOk P w K mg base (L2.CX P w) 11 (He.ga K "sure_answer") fd ["screens", "beginning", "limit"] (liftSp K A 0 sv_sure_answer) := by
  obtain ⟨fd, F⟩ := T.say.d.def_ 23 (d := e_sure_answer) rfl
  exact ⟨fd, F, fn_ok2 F sc_sure_answer (q_sure_answer T (ok_require_question A T) (ok_sure_in A T)) r_sure_answer⟩
theorem ok_sure_answer (A : Amb) (T : Txt K mg fa fn) : FnD P w K mg base A 0 11 "sure_answer" ["screens", "beginning", "limit"] sv_sure_answer := by
  obtain ⟨fd, F, h⟩ := okf_sure_answer A (w := w) (base := base) (P := P) T
  exact FnD.of h F (T.glo 23) (fun _ _ _ _ _ _ us hl => match us, hl with | [_, _, _], _ => rfl)
theorem okk_sure_answer_limit_beginning_screens (A : Amb) (T : Txt K mg fa fn) : FkD P w K mg base A 0 11 "sure_answer" ["screens", "beginning", "limit"] ["limit", "beginning", "screens"] [2, 1, 0] sv_sure_answer := by
  obtain ⟨fd, F, h⟩ := okf_sure_answer A (w := w) (base := base) (P := P) T
  refine FkD.of h F (T.glo 23) (by simp) ?_
  intro kV doc pm an cdv ct ws hl
  match ws, hl with
  | _ :: _ :: _ ::  _, _ => rfl
  | [], hl => exact absurd hl (by simp [gP])
  | [_], hl => exact absurd hl (by simp [gP])
  | [_, _], hl => exact absurd hl (by simp [gP])
theorem okf_deciding_screen (A : Amb) (T : Txt K mg fa fn) : ∃ fd, FunD K "deciding_screen" "deciding_screen" (defArgs (top 38)) (defBody (top 38)) (defScope (top 38)) [] [] (He.ga K "deciding_screen") fd ∧ FnOk P w K mg base (L2.CX P w) 11 (He.ga K "deciding_screen") fd ["screens", "beginning", "limit"] (liftSp K A 0 sp_deciding_screen) := by
  obtain ⟨fd, F⟩ := T.say.d.def_ 24 (d := e_deciding_screen) rfl
  exact ⟨fd, F, fn_ok2 F sc_deciding_screen (q_deciding_screen T (ok_require_question A T) (ok_decider_in A T)) r_deciding_screen⟩
theorem ok_deciding_screen (A : Amb) (T : Txt K mg fa fn) : FnD P w K mg base A 0 11 "deciding_screen" ["screens", "beginning", "limit"] sp_deciding_screen := by
  obtain ⟨fd, F, h⟩ := okf_deciding_screen A (w := w) (base := base) (P := P) T
  exact FnD.of h F (T.glo 24) (fun _ _ _ _ _ _ us hl => match us, hl with | [_, _, _], _ => rfl)
theorem okk_deciding_screen_limit_beginning_screens (A : Amb) (T : Txt K mg fa fn) : FkD P w K mg base A 0 11 "deciding_screen" ["screens", "beginning", "limit"] ["limit", "beginning", "screens"] [2, 1, 0] sp_deciding_screen := by
  obtain ⟨fd, F, h⟩ := okf_deciding_screen A (w := w) (base := base) (P := P) T
  refine FkD.of h F (T.glo 24) (by simp) ?_
  intro kV doc pm an cdv ct ws hl
  match ws, hl with
  | _ :: _ :: _ ::  _, _ => rfl
  | [], hl => exact absurd hl (by simp [gP])
  | [_], hl => exact absurd hl (by simp [gP])
  | [_, _], hl => exact absurd hl (by simp [gP])
theorem okf__law_jar (A : Amb) (T : Txt K mg fa fn) : ∃ fd, FunD K "_law_jar" "_law_jar" (defArgs (top 40)) (defBody (top 40)) (defScope (top 40)) [] [] (He.ga K "_law_jar") fd ∧ FnOk P w K mg base (L2.CX P w) 2 (He.ga K "_law_jar") fd ["script", "k"] (liftSp K A 0 sp__law_jar) := by
  obtain ⟨fd, F⟩ := T.say.d.def_ 25 (d := e__law_jar) rfl
  exact ⟨fd, F, fn_ok2 F sc__law_jar (q__law_jar T) r__law_jar⟩
theorem ok__law_jar (A : Amb) (T : Txt K mg fa fn) : FnD P w K mg base A 0 2 "_law_jar" ["script", "k"] sp__law_jar := by
  obtain ⟨fd, F, h⟩ := okf__law_jar A (w := w) (base := base) (P := P) T
  exact FnD.of h F (T.glo 25) (fun _ _ _ _ _ _ us hl => match us, hl with | [_, _], _ => rfl)
theorem ok__law_dip (a : Addr) (T : Txt K mg fa fn) : FnD P w K mg base (jarA a) 1 2 "_law_dip" ["jar", "many"] spDraw := by
  obtain ⟨fd, F⟩ := T.say.d.def_ 26 (d := e__law_dip) rfl
  exact FnD.of (fn_dip a F sc__law_dip fun cdv Ar outer s H E hr => q__law_dip T 1 _ cdv Ar outer s H E hr) F (T.glo 26) (fun _ _ _ _ _ _ us hl => match us, hl with | [_, _], _ => rfl)
theorem okf__law_terms (a : Addr) (T : Txt K mg fa fn) : ∃ fd, FunD K "_law_terms" "_law_terms" (defArgs (top 42)) (defBody (top 42)) (defScope (top 42)) [] [] (He.ga K "_law_terms") fd ∧ FnOk P w K mg base (L2.CX P w) 3 (He.ga K "_law_terms") fd ["jar", "most", "signs", "longest"] (liftSp K (jarA a) 21267647932558653984907657038195064833 sj__law_terms) := by
  obtain ⟨fd, F⟩ := T.say.d.def_ 27 (d := e__law_terms) rfl
  exact ⟨fd, F, fn_ok2 F sc__law_terms (q__law_terms T (ok__law_dip a T)) rj__law_terms⟩
theorem ok__law_terms (a : Addr) (T : Txt K mg fa fn) : FnD P w K mg base (jarA a) 21267647932558653984907657038195064833 3 "_law_terms" ["jar", "most", "signs", "longest"] sj__law_terms := by
  obtain ⟨fd, F, h⟩ := okf__law_terms a (w := w) (base := base) (P := P) T
  exact FnD.of h F (T.glo 27) (fun _ _ _ _ _ _ us hl => match us, hl with | [_, _, _, _], _ => rfl)
theorem okf__law_answer (A : Amb) (T : Txt K mg fa fn) : ∃ fd, FunD K "_law_answer" "_law_answer" (defArgs (top 43)) (defBody (top 43)) (defScope (top 43)) [] [] (He.ga K "_law_answer") fd ∧ FnOk P w K mg base (L2.CX P w) 2 (He.ga K "_law_answer") fd ["terms", "front", "top"] (liftSp K A 0 sp__law_answer) := by
  obtain ⟨fd, F⟩ := T.say.d.def_ 28 (d := e__law_answer) rfl
  exact ⟨fd, F, fn_ok2 F sc__law_answer (q__law_answer T) r__law_answer⟩
theorem ok__law_answer (A : Amb) (T : Txt K mg fa fn) : FnD P w K mg base A 0 2 "_law_answer" ["terms", "front", "top"] sp__law_answer := by
  obtain ⟨fd, F, h⟩ := okf__law_answer A (w := w) (base := base) (P := P) T
  exact FnD.of h F (T.glo 28) (fun _ _ _ _ _ _ us hl => match us, hl with | [_, _, _], _ => rfl)
theorem okf__law_front (a : Addr) (T : Txt K mg fa fn) : ∃ fd, FunD K "_law_front" "_law_front" (defArgs (top 44)) (defBody (top 44)) (defScope (top 44)) [] [] (He.ga K "_law_front") fd ∧ FnOk P w K mg base (L2.CX P w) 3 (He.ga K "_law_front") fd ["jar", "terms", "signs"] (liftSp K (jarA a) 4 sp__law_front) := by
  obtain ⟨fd, F⟩ := T.say.d.def_ 29 (d := e__law_front) rfl
  exact ⟨fd, F, fn_ok2 F sc__law_front (q__law_front T (ok__law_dip a T)) r__law_front⟩
theorem ok__law_front (a : Addr) (T : Txt K mg fa fn) : FnD P w K mg base (jarA a) 4 3 "_law_front" ["jar", "terms", "signs"] sp__law_front := by
  obtain ⟨fd, F, h⟩ := okf__law_front a (w := w) (base := base) (P := P) T
  exact FnD.of h F (T.glo 29) (fun _ _ _ _ _ _ us hl => match us, hl with | [_, _, _], _ => rfl)
theorem okf__law_views (a : Addr) (T : Txt K mg fa fn) : ∃ fd, FunD K "_law_views" "_law_views" (defArgs (top 45)) (defBody (top 45)) (defScope (top 45)) [] [] (He.ga K "_law_views") fd ∧ FnOk P w K mg base (L2.CX P w) 4 (He.ga K "_law_views") fd ["jar", "terms", "many", "most", "signs"] (liftSp K (jarA a) 23058430092136939521 sp__law_views) := by
  obtain ⟨fd, F⟩ := T.say.d.def_ 30 (d := e__law_views) rfl
  exact ⟨fd, F, fn_ok2 F sc__law_views (q__law_views T (ok__law_dip a T) (ok__law_front a T) (ok__law_answer (jarA a) T)) r__law_views⟩
theorem ok__law_views (a : Addr) (T : Txt K mg fa fn) : FnD P w K mg base (jarA a) 23058430092136939521 4 "_law_views" ["jar", "terms", "many", "most", "signs"] sp__law_views := by
  obtain ⟨fd, F, h⟩ := okf__law_views a (w := w) (base := base) (P := P) T
  exact FnD.of h F (T.glo 30) (fun _ _ _ _ _ _ us hl => match us, hl with | [_, _, _, _, _], _ => rfl)
theorem okf__law_known (A : Amb) (T : Txt K mg fa fn) : ∃ fd, FunD K "_law_known" "_law_known" (defArgs (top 46)) (defBody (top 46)) (defScope (top 46)) [] [] (He.ga K "_law_known") fd ∧ FnOk P w K mg base (L2.CX P w) 2 (He.ga K "_law_known") fd ["views"] (liftSp K A 0 sj__law_known) := by
  obtain ⟨fd, F⟩ := T.say.d.def_ 31 (d := e__law_known) rfl
  exact ⟨fd, F, fn_ok2 F sc__law_known (q__law_known T) rj__law_known⟩
theorem ok__law_known (A : Amb) (T : Txt K mg fa fn) : FnD P w K mg base A 0 2 "_law_known" ["views"] sj__law_known := by
  obtain ⟨fd, F, h⟩ := okf__law_known A (w := w) (base := base) (P := P) T
  exact FnD.of h F (T.glo 31) (fun _ _ _ _ _ _ us hl => match us, hl with | [_], _ => rfl)
theorem okf__law_shows (A : Amb) (T : Txt K mg fa fn) : ∃ fd, FunD K "_law_shows" "_law_shows" (defArgs (top 47)) (defBody (top 47)) (defScope (top 47)) [] [] (He.ga K "_law_shows") fd ∧ FnOk P w K mg base (L2.CX P w) 3 (He.ga K "_law_shows") fd ["terms", "views"] (liftSp K A 0 sp__law_shows) := by
  obtain ⟨fd, F⟩ := T.say.d.def_ 32 (d := e__law_shows) rfl
  exact ⟨fd, F, fn_ok2 F sc__law_shows (q__law_shows T (ok__law_answer A T)) r__law_shows⟩
theorem ok__law_shows (A : Amb) (T : Txt K mg fa fn) : FnD P w K mg base A 0 3 "_law_shows" ["terms", "views"] sp__law_shows := by
  obtain ⟨fd, F, h⟩ := okf__law_shows A (w := w) (base := base) (P := P) T
  exact FnD.of h F (T.glo 32) (fun _ _ _ _ _ _ us hl => match us, hl with | [_, _], _ => rfl)
theorem okn__law_orders (A : Amb) (T : Txt K mg fa fn) : ∀ n : Nat, FnD P w K mg base A 0 (n + 1) "_law_orders" ["terms"] (sp__law_orders n)
  | 0 => by
    obtain ⟨fd, F⟩ := T.say.d.def_ 34 (d := e__law_orders) rfl
    exact FnD.of ⟨fun vs H Q E ⟨_, _, _, _, _, _, _, _, _, h, _⟩ => (z__law_orders _ _ _ h).elim, fun _ _ _ _ _ _ _ _ _ _ _ _ _ ⟨_, _, _, _, _, _, _, _, _, h, _⟩ => (z__law_orders _ _ _ h).elim⟩ F (T.glo 34) (fun _ _ _ _ _ _ us hl => match us, hl with | [_], _ => rfl)
  | n + 1 => by
    obtain ⟨fd, F⟩ := T.say.d.def_ 34 (d := e__law_orders) rfl
    exact FnD.of (fn_ok2 F sc__law_orders (q__law_orders T (okn__law_orders A T n)) (r__law_orders n)) F (T.glo 34) (fun _ _ _ _ _ _ us hl => match us, hl with | [_], _ => rfl)
theorem ok__law_orders (A : Amb) (T : Txt K mg fa fn) : FnD P w K mg base A 0 8 "_law_orders" ["terms"] (sp__law_orders 7) := okn__law_orders A T 7
theorem okf__law_with_new (A : Amb) (T : Txt K mg fa fn) : ∃ fd, FunD K "_law_with_new" "_law_with_new" (defArgs (top 50)) (defBody (top 50)) (defScope (top 50)) [] [] (He.ga K "_law_with_new") fd ∧ FnOk P w K mg base (L2.CX P w) 9 (He.ga K "_law_with_new") fd ["terms", "fresh"] (liftSp K A 0 sp__law_with_new) := by
  obtain ⟨fd, F⟩ := T.say.d.def_ 35 (d := e__law_with_new) rfl
  exact ⟨fd, F, fn_ok2 F sc__law_with_new (q__law_with_new T (ok__law_orders A T)) r__law_with_new⟩
theorem ok__law_with_new (A : Amb) (T : Txt K mg fa fn) : FnD P w K mg base A 0 9 "_law_with_new" ["terms", "fresh"] sp__law_with_new := by
  obtain ⟨fd, F, h⟩ := okf__law_with_new A (w := w) (base := base) (P := P) T
  exact FnD.of h F (T.glo 35) (fun _ _ _ _ _ _ us hl => match us, hl with | [_, _], _ => rfl)
theorem okf__law_decides (A : Amb) (T : Txt K mg fa fn) : ∃ fd, FunD K "_law_decides" "_law_decides" (defArgs (top 51)) (defBody (top 51)) (defScope (top 51)) [] [] (He.ga K "_law_decides") fd ∧ FnOk P w K mg base (L2.CX P w) 2 (He.ga K "_law_decides") fd ["view", "front", "top"] (liftSp K A 0 sp__law_decides) := by
  obtain ⟨fd, F⟩ := T.say.d.def_ 36 (d := e__law_decides) rfl
  exact ⟨fd, F, fn_ok2 F sc__law_decides (q__law_decides T) r__law_decides⟩
theorem ok__law_decides (A : Amb) (T : Txt K mg fa fn) : FnD P w K mg base A 0 2 "_law_decides" ["view", "front", "top"] sp__law_decides := by
  obtain ⟨fd, F, h⟩ := okf__law_decides A (w := w) (base := base) (P := P) T
  exact FnD.of h F (T.glo 36) (fun _ _ _ _ _ _ us hl => match us, hl with | [_, _, _], _ => rfl)
theorem okf__law_due (A : Amb) (T : Txt K mg fa fn) : ∃ fd, FunD K "_law_due" "_law_due" (defArgs (top 52)) (defBody (top 52)) (defScope (top 52)) [] [] (He.ga K "_law_due") fd ∧ FnOk P w K mg base (L2.CX P w) 10 (He.ga K "_law_due") fd ["views", "front", "top"] (liftSp K A 0 sv__law_due) := by
  obtain ⟨fd, F⟩ := T.say.d.def_ 37 (d := e__law_due) rfl
  exact ⟨fd, F, fn_ok2 F sc__law_due (q__law_due T (ok__law_known A T) (ok__law_with_new A T) (ok__law_shows A T) (ok__law_answer A T)) r__law_due⟩
theorem ok__law_due (A : Amb) (T : Txt K mg fa fn) : FnD P w K mg base A 0 10 "_law_due" ["views", "front", "top"] sv__law_due := by
  obtain ⟨fd, F, h⟩ := okf__law_due A (w := w) (base := base) (P := P) T
  exact FnD.of h F (T.glo 37) (fun _ _ _ _ _ _ us hl => match us, hl with | [_, _, _], _ => rfl)
theorem okf__law_right (A : Amb) (T : Txt K mg fa fn) : ∃ fd, FunD K "_law_right" "_law_right" (defArgs (top 53)) (defBody (top 53)) (defScope (top 53)) [] [] (He.ga K "_law_right") fd ∧ FnG P w K mg base 12 (He.ga K "_law_right") fd ["views", "front", "top"] (liftSp K A 0 sv__law_right) := by
  obtain ⟨fd, F⟩ := T.say.d.def_ 38 (d := e__law_right) rfl
  exact ⟨fd, F, fn_okG2 F sc__law_right (q__law_right T (ok__law_due A T) (okk_sure_answer_limit_beginning_screens A T) (ok_sure_answer A T) (ok__law_decides A T) (okk_deciding_screen_limit_beginning_screens A T) (ok_deciding_screen A T)) r__law_right⟩
theorem ok__law_right (A : Amb) (T : Txt K mg fa fn) : FnDg P w K mg base A 0 12 "_law_right" ["views", "front", "top"] sv__law_right := by
  obtain ⟨fd, F, h⟩ := okf__law_right A (w := w) (base := base) (P := P) T
  exact FnDg.of h F (T.glo 38) (fun _ _ _ _ _ _ us hl => match us, hl with | [_, _, _], _ => rfl)
theorem ok_law (T : Txt K mg fa fn) {fd : FuncData} (F : FunD K "law" "law" (defArgs (top 54)) (defBody (top 54)) (defScope (top 54)) [] [] (He.ga K "law") fd) : FnG P w K mg base 13 (He.ga K "law") fd ["script"] (spLaw K) :=
  fn_lawN (c := 0) (d := n_law sp__law_jar sj__law_terms sp__law_views sp__law_front spDraw sv__law_right sv_sure_answer) F sc_law (by unfold TMX; decide +kernel) (by decide)
    (fun cdv Ar outer s H E hr hgu => q_law T (ok__law_jar Amb.no T) (ok_sure_answer Amb.no T) (fun ja => ok__law_terms ja T) (fun ja => ok__law_views ja T) (fun ja => ok__law_front ja T) (fun ja => ok__law_dip ja T) (fun ja => ok__law_right (jarA ja) T) _ cdv Ar outer s H E hr hgu) r_law
end
end TM

open PySem PySem.W PySem.Calls PyProof.Rows in
theorem PySem.Challenge.cw_topmatches_k27_sure_answers_by_all_dicti_holds : PySem.Challenge.rw_topmatches_k27_sure_answers_by_all_dicti.Holds := by
  w_on; o_law
  refine HandSHeadRun.head_any (r := PySem.W.OpenLaw.row PySem.Challenge.rw_topmatches_k27_sure_answers_by_all_dicti) (q := view (PySem.W.OpenLaw.row PySem.Challenge.rw_topmatches_k27_sure_answers_by_all_dicti).prog [54]) (H := TM.hk) (ob := TM.ob) (M := 9000) (loose := TM.names) (d := HandSHeadRun.topDef (PySem.W.OpenLaw.row PySem.Challenge.rw_topmatches_k27_sure_answers_by_all_dicti).prog 54) (kwd := []) TM.ob_eq
    (by kernel_rfl) (fun s => by kernel_rfl) TM.run (by kernel_rfl) (by kernel_rfl) (by kernel_rfl) (by rfl) (by first | assumption | decide +kernel) (by decide +kernel) ⟨rfl, rfl, rfl, rfl, rfl, by decide +kernel⟩ ?hw ?hc
  case hw => w_witness2
  case hc =>
    refine TM.walkG (l := PySem.Challenge.rw_topmatches_k27_sure_answers_by_all_dicti) (n := 63) (k := 13) (x := "script") rfl (by decide) (by kernel_rfl) ⟨rfl, by decide, by decide⟩ ?F
    rintro w mg fa h ⟨K, KX, c⟩ G hmg0
    have hmg : mg ("law" : PySem.Str) = some (.ref fa) := by
      have e : (HandSHeadRun.topDef (PySem.W.OpenLaw.row PySem.Challenge.rw_topmatches_k27_sure_answers_by_all_dicti).prog 54).name = ("law" : PySem.Str) := by kernel_rfl
      rw [← e]
      exact hmg0
    have T : TM.Txt K mg TM.fa TM.fn := ⟨c, h, KX, G⟩
    have e := hmg.symm.trans (T.glo 39)
    cases e
    obtain ⟨fd, F⟩ := T.say.d.def_ 39 (d := TM.e_law) rfl
    have b := L2.FunD.bindsA (ps := ["script"]) F fun _ _ _ _ _ _ us hl => match us, hl with | [_], _ => rfl
    exact ⟨K, fd, TM.spLaw K, KX, fun s v => b s [v] rfl, fun H a ns hl hO hS => ⟨a, ns, rfl, hl, hO, hS, fun _ => rfl⟩, fun base _ _ => TM.ok_law T F⟩
