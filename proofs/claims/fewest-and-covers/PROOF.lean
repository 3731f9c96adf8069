import PyProof.Rows.All
import Wide.All
import OpenK.AllK
import Wide.FinOn
import HandS.ForMost
import HandS.Walk
import HandS.Style
import HandS.Deep
import HandS.Conv
import HandS.IsInst
import HandS.SortInts
import KE.GoesEnum
import PySem.Challenge.RW_lastholders_k76_whole_fewest_and_covers
import HandS.SetFor
import HandS.Strs
import KE.SortData
import KE.DataMinMax
import HandS.Star
import HandS.Dict
import KE.KDictOf
import HandS.Iter
import KE.KDictKeyed
import KE.KDictDisplayH
import KE.KeyNested
import HandS.Wide
set_option autoImplicit false
set_option Elab.async false
set_option linter.all false
set_option maxRecDepth 100000
set_option maxHeartbeats 4000000
/-! LA: typed data over the abstract heap, slots told by data, expressions and statements judged over them. -/
namespace L2.LX
open PySem PySem.Spec PyProof.Rows

/-! ### data -/
def Kept (H H' : Hp) : Prop := ∀ b, (∀ xs, H b = some (.tup xs) → H' b = some (.tup xs)) ∧ (∀ kvs, H b = some (.dK kvs) → H' b = some (.dK kvs))
theorem Kept.of {H H' : Hp} (s : Same H H') : Kept H H' := fun b => ⟨fun _ => s b _, fun _ => s b _⟩
theorem Kept.refl (H : Hp) : Kept H H := fun _ => ⟨fun _ h => h, fun _ h => h⟩
theorem Kept.trans {H H1 H2 : Hp} (a : Kept H H1) (b : Kept H1 H2) : Kept H H2 := fun c => ⟨fun _ h => (b c).1 _ ((a c).1 _ h), fun _ h => (b c).2 _ ((a c).2 _ h)⟩
/-- a list is written -/
theorem Kept.upd {H : Hp} {p : Addr} {xs : List V} {o : HO} (h : H p = some (.lst xs)) : Kept H (upd H p o) := fun b =>
  ⟨fun _ e => by rw [upd_ne (ne_of e h (by intro z; cases z))]; exact e, fun _ e => by rw [upd_ne (ne_of e h (by intro z; cases z))]; exact e⟩
theorem Kept.new {H : Hp} {p : Addr} {o : HO} (h : H p = none) : Kept H (L2.upd H p o) := fun b =>
  ⟨fun _ e => by rw [upd_ne (ne_of_none e h)]; exact e, fun _ e => by rw [upd_ne (ne_of_none e h)]; exact e⟩
theorem same_new {H : Hp} {p : Addr} {o : HO} (h : H p = none) : Same H (L2.upd H p o) := fun b _ e => by rw [upd_ne (ne_of_none e h)]; exact e

class Dn (α : Type) where
  dn : Hp → V → α → Prop
  keep : ∀ {H H' : Hp} {v : V} {a : α}, dn H v a → Kept H H' → dn H' v a

def Dns {α : Type} [Dn α] (H : Hp) (vs : List V) (xs : List α) : Prop := Paired (Dn.dn H) vs xs
theorem Dns.keep {α : Type} [Dn α] {H H' : Hp} {vs : List V} {xs : List α} (h : Dns H vs xs) (k : Kept H H') : Dns H' vs xs := Paired.mapP h fun _ _ q => Dn.keep q k
theorem Dns.len {α : Type} [Dn α] {H : Hp} {vs : List V} {xs : List α} (h : Dns H vs xs) : vs.length = xs.length := Paired.length h
theorem Dns.at {α : Type} [Dn α] {H : Hp} : ∀ {vs : List V} {xs : List α} {i : Nat} {v : V}, Dns H vs xs → vs[i]? = some v → ∃ x, xs[i]? = some x ∧ Dn.dn H v x
  | _, _, _, _, .nil, e => by simp at e
  | _, _, 0, _, .cons r _, e => by simp at e; subst e; exact ⟨_, rfl, r⟩
  | _, _, i + 1, v, .cons _ t, e => by
    obtain ⟨x, h1, h2⟩ := Dns.at (i := i) (v := v) t (by simpa using e)
    exact ⟨x, by simpa using h1, h2⟩
theorem Dns.at' {α : Type} [Dn α] {H : Hp} : ∀ {vs : List V} {xs : List α} {i : Nat} {x : α}, Dns H vs xs → xs[i]? = some x → ∃ v, vs[i]? = some v ∧ Dn.dn H v x
  | _, _, _, _, .nil, e => by simp at e
  | _, _, 0, _, .cons r _, e => by simp at e; subst e; exact ⟨_, rfl, r⟩
  | _, _, i + 1, v, .cons _ t, e => by
    obtain ⟨x, h1, h2⟩ := Dns.at' (i := i) (x := v) t (by simpa using e)
    exact ⟨x, by simpa using h1, h2⟩
theorem Dns.append {α : Type} [Dn α] {H : Hp} : ∀ {vs ws : List V} {xs ys : List α}, Dns H vs xs → Dns H ws ys → Dns H (vs ++ ws) (xs ++ ys)
  | _, _, _, _, .nil, s => s
  | _, _, _, _, .cons r t, s => .cons r (Dns.append t s)
theorem Dns.one {α : Type} [Dn α] {H : Hp} {v : V} {x : α} (h : Dn.dn H v x) : Dns H [v] [x] := .cons h .nil

instance : Dn Nat where
  dn _ v n := v = .int (n : Int)
  keep h _ := h
instance : Dn Int where
  dn _ v n := v = .int n
  keep h _ := h
instance : Dn Bool where
  dn _ v b := v = .bl b
  keep h _ := h
/-- a tuple of things of one kind -/
instance {α : Type} [Dn α] : Dn (List α) where
  dn H v xs := ∃ p vs, v = .ref p ∧ H p = some (.tup vs) ∧ Dns H vs xs
  keep := fun ⟨p, vs, e, h, d⟩ k => ⟨p, vs, e, (k p).1 _ h, Dns.keep d k⟩
/-- a pair -/
instance {α β : Type} [Dn α] [Dn β] : Dn (α × β) where
  dn H v z := ∃ p u w, v = .ref p ∧ H p = some (.tup [u, w]) ∧ Dn.dn H u z.1 ∧ Dn.dn H w z.2
  keep := fun ⟨p, u, w, e, h, d1, d2⟩ k => ⟨p, u, w, e, (k p).1 _ h, Dn.keep d1 k, Dn.keep d2 k⟩
/-- a dict from whole numbers to whole numbers that nobody changes -/
structure KD where
  l : List (Nat × Nat)
instance : Dn KD where
  dn H v d := ∃ p, v = .ref p ∧ H p = some (.dK (d.l.map fun kx => ((Sum.inl (kx.1 : Int) : Key), V.int (kx.2 : Int))))
  keep := fun ⟨p, e, h⟩ k => ⟨p, e, (k p).2 _ h⟩

/-- data that compare, are looked up and sorted -/
class En (α : Type) extends Dn α where
  en : α → PyData
  dp : ∀ {K : PySem.W.Frag} {H : Hp} {v : V} {a : α}, dn H v a → Dp K H v (en a)
  dep : Nat
  lay : ∀ a, (en a).canLay0 = true
  deep : ∀ a, (en a).depth ≤ dep
  bq : α → α → Bool
  bqs : ∀ a b, bq a b = true ↔ a = b
  eqv : ∀ a b, PyData.eqv (en a) (en b) = bq a b
instance : En Nat where
  en n := .int n
  dp := fun h => by
    cases (show _ = _ from h)
    exact .int _
  dep := 0
  lay _ := by simp [PyData.canLay0]
  deep _ := by simp [PyData.depth]
  bq a b := a == b
  bqs a b := by simp
  eqv a b := by
    simp only [PyData.eqv]
    by_cases h : a = b
    · simp [h]
    · have q : ((a : Int) == (b : Int)) = false := beq_eq_false_iff_ne.mpr (by omega)
      rw [q]
      exact (beq_eq_false_iff_ne.mpr h).symm
instance : En Int where
  en n := .int n
  dp := fun h => by
    cases (show _ = _ from h)
    exact .int _
  dep := 0
  lay _ := by simp [PyData.canLay0]
  deep _ := by simp [PyData.depth]
  bq a b := a == b
  bqs a b := by simp
  eqv a b := by simp only [PyData.eqv]
section
variable {α : Type} [En α]
theorem dpAll_of {K : PySem.W.Frag} {H : Hp} : ∀ {vs : List V} {xs : List α}, Dns H vs xs → DpAll K H vs (xs.map En.en)
  | _, _, .nil => .nil
  | _, _, .cons r t => .cons (En.dp r) (dpAll_of t)
theorem layAll_of : ∀ xs : List α, PyData.canLayAll0 (xs.map En.en) = true
  | [] => by simp [PyData.canLayAll0]
  | x :: xs => by simp [PyData.canLayAll0, En.lay x, layAll_of xs]
theorem deepAll_of : ∀ xs : List α, PyData.depthAll (xs.map En.en) ≤ En.dep α
  | [] => by simp [PyData.depthAll]
  | x :: xs => by
    have h1 := deepAll_of xs
    have h2 := En.deep x
    simp only [List.map_cons, PyData.depthAll]
    omega
def bqL : List α → List α → Bool
  | [], [] => true
  | x :: xs, y :: ys => En.bq x y && bqL xs ys
  | _, _ => false
theorem bqL_iff : ∀ xs ys : List α, bqL xs ys = true ↔ xs = ys
  | [], [] => by simp [bqL]
  | [], _ :: _ => by simp [bqL]
  | _ :: _, [] => by simp [bqL]
  | x :: xs, y :: ys => by simp [bqL, En.bqs, bqL_iff xs ys]
theorem eqvAll_of : ∀ xs ys : List α, PyData.eqvAll (xs.map En.en) (ys.map En.en) = bqL xs ys
  | [], [] => by simp [PyData.eqvAll, bqL]
  | [], y :: ys => by simp [PyData.eqvAll, bqL]
  | x :: xs, [] => by simp [PyData.eqvAll, bqL]
  | x :: xs, y :: ys => by
    simp only [List.map_cons, PyData.eqvAll, bqL]
    rw [En.eqv x y, eqvAll_of xs ys]
/-- a list, as data -/
def lsD (xs : List α) : PyData := .list (xs.map En.en)
theorem lsD_dp {K : PySem.W.Frag} {H : Hp} {p : Addr} {vs : List V} {xs : List α} (h : H p = some (.lst vs)) (d : Dns H vs xs) : Dp K H (.ref p) (lsD xs) := .lst (.of h) (dpAll_of d)
theorem shaped_of {d : PyData} (h1 : d.canLay0 = true) (h2 : d.depth ≤ 64) : SeqAt.shaped d = true := by
  show (d.canLay0 && decide (d.depth ≤ 64)) = true
  rw [h1, decide_eq_true h2]
  rfl
theorem en_shaped (h : En.dep α ≤ 60) (a : α) : SeqAt.shaped (En.en a) = true := shaped_of (En.lay a) (Nat.le_trans (En.deep a) (by omega))
theorem lsD_shaped (h : En.dep α ≤ 60) (xs : List α) : SeqAt.shaped (lsD xs) = true := by
  refine shaped_of (by simp only [lsD, PyData.canLay0]; exact layAll_of xs) ?_
  have q := deepAll_of xs
  simp only [lsD, PyData.depth]
  omega
theorem lsD_eqv (xs ys : List α) : PyData.eqv (lsD xs) (lsD ys) = bqL xs ys := by
  simp only [lsD, PyData.eqv]
  exact eqvAll_of xs ys
instance : En (List α) where
  en xs := .tuple (xs.map En.en)
  dp := fun ⟨p, vs, e, h, d⟩ => by
    subst e
    exact .tup (.of h) (dpAll_of d)
  dep := En.dep α + 1
  lay xs := by simp only [PyData.canLay0]; exact layAll_of xs
  deep xs := by
    have q := deepAll_of xs
    simp only [PyData.depth]
    omega
  bq := bqL
  bqs := bqL_iff
  eqv xs ys := by
    simp only [PyData.eqv]
    exact eqvAll_of xs ys
instance {β : Type} [En β] : En (α × β) where
  en z := .tuple [En.en z.1, En.en z.2]
  dp := fun ⟨p, u, w, e, h, d1, d2⟩ => by
    subst e
    exact .tup (.of h) (.cons (En.dp d1) (.cons (En.dp d2) .nil))
  dep := max (En.dep α) (En.dep β) + 1
  lay z := by simp [PyData.canLay0, PyData.canLayAll0, En.lay]
  deep z := by
    have h1 := En.deep z.1
    have h2 := En.deep z.2
    simp only [PyData.depth, PyData.depthAll]
    omega
  bq z w := En.bq z.1 w.1 && En.bq z.2 w.2
  bqs z w := by
    obtain ⟨a, b⟩ := z
    obtain ⟨c, d⟩ := w
    simp [En.bqs]
  eqv z w := by
    simp only [PyData.eqv, PyData.eqvAll]
    rw [En.eqv, En.eqv, Bool.and_true]
end

/-! ### slots told by data -/
/-- an own object of another kind -/
structure Ob where
  R : Hp → Addr → Prop
  keep : ∀ {H H' : Hp} {p : Addr}, R H p → Kept H H' → H' p = H p → R H' p
  cell : ∀ {H : Hp} {p : Addr}, R H p → ∃ φ, H p = some (.ext φ)
/-- what may be written -/
def Mu : HO → Prop
  | .lst _ => True
  | .ext _ => True
  | _ => False
inductive Sd : Type 1
  | any
  | ob (R : Ob)
  | im {α : Type} [Dn α] (a : α)
  /-- an own list: nothing else that is told stands there -/
  | ls {α : Type} [Dn α] (xs : List α)
  /-- a list that is read -/
  | rl {α : Type} [Dn α] (xs : List α)
def Sd.own : Sd → Bool
  | @Sd.ls _ _ _ => true
  | .ob _ => true
  | _ => false
def Sd.isl : Sd → Bool
  | @Sd.ls _ _ _ => true
  | .ob _ => true
  | @Sd.rl _ _ _ => true
  | _ => false
def LsAt {α : Type} [Dn α] (H : Hp) (p : Addr) (xs : List α) : Prop := ∃ vs, H p = some (.lst vs) ∧ Dns H vs xs
theorem LsAt.same {α : Type} [Dn α] {H H' : Hp} {p : Addr} {xs : List α} (h : LsAt H p xs) (s : Same H H') : LsAt H' p xs := let ⟨vs, e, d⟩ := h; ⟨vs, s _ _ e, d.keep (.of s)⟩
/-- a value is as told -/
def SdV (H : Hp) (v : V) : Sd → Prop
  | .any => True
  | .ob R => ∃ p, v = .ref p ∧ R.R H p
  | @Sd.im α i a => @Dn.dn α i H v a
  | @Sd.ls α i xs => ∃ p, v = .ref p ∧ @LsAt α i H p xs
  | @Sd.rl α i xs => ∃ p, v = .ref p ∧ @LsAt α i H p xs
theorem SdV.same {H H' : Hp} {v : V} {d : Sd} (h : SdV H v d) (s : Same H H') : SdV H' v d := by
  cases d with
  | any => trivial
  | ob R =>
    obtain ⟨p, e, q⟩ := h
    obtain ⟨φ, c⟩ := R.cell q
    exact ⟨p, e, R.keep q (.of s) ((s _ _ c).trans c.symm)⟩
  | im a => exact Dn.keep (show Dn.dn H v a from h) (.of s)
  | ls xs => obtain ⟨p, e, q⟩ := h; exact ⟨p, e, q.same s⟩
  | rl xs => obtain ⟨p, e, q⟩ := h; exact ⟨p, e, q.same s⟩
structure Ok (H0 : Hp) (ds : List Sd) (σ : St) (H : Hp) : Prop where
  same : Same H0 H
  len : σ.length = ds.length
  slot : ∀ (i : Nat) (d : Sd), ds[i]? = some d → d ≠ .any → ∃ v, σ[i]? = some (some v) ∧ SdV H v d
  fresh : ∀ (i : Nat) (d : Sd) (p : Addr), ds[i]? = some d → d.own = true → σ[i]? = some (some (.ref p)) → H0 p = none
  sep : ∀ (i j : Nat) (d e : Sd), ds[i]? = some d → ds[j]? = some e → d.own = true → e.isl = true → i ≠ j → σ[i]? ≠ σ[j]?
section
variable {H0 H H' : Hp} {ds : List Sd} {σ : St} {α : Type} [Dn α]
theorem Ok.ext (o : Ok H0 ds σ H) (s : Same H H') : Ok H0 ds σ H' :=
  ⟨o.same.trans s, o.len, fun i d e n => let ⟨v, h1, h2⟩ := o.slot i d e n; ⟨v, h1, h2.same s⟩, o.fresh, o.sep⟩
theorem Ok.im (o : Ok H0 ds σ H) {i : Nat} {a : α} (e : ds[i]? = some (.im a)) : ∃ v, σ[i]? = some (some v) ∧ Dn.dn H v a := o.slot i _ e (fun z => nomatch z)
theorem Ok.ls (o : Ok H0 ds σ H) {i : Nat} {xs : List α} (e : ds[i]? = some (.ls xs)) : ∃ p, σ[i]? = some (some (.ref p)) ∧ LsAt H p xs ∧ H0 p = none := by
  obtain ⟨v, h1, p, rfl, h2⟩ := o.slot i _ e (fun z => nomatch z)
  exact ⟨p, h1, h2, o.fresh i _ p e rfl h1⟩
theorem Ok.rl (o : Ok H0 ds σ H) {i : Nat} {xs : List α} (e : ds[i]? = some (.rl xs)) : ∃ p, σ[i]? = some (some (.ref p)) ∧ LsAt H p xs := by
  obtain ⟨v, h1, p, rfl, h2⟩ := o.slot i _ e (fun z => nomatch z)
  exact ⟨p, h1, h2⟩
theorem get_set.{u} {β : Type u} {l : List β} {i j : Nat} {x y : β} (h : (l.set i x)[j]? = some y) : (j = i ∧ y = x ∧ i < l.length) ∨ (j ≠ i ∧ l[j]? = some y) := by
  by_cases e : i = j
  · subst e
    by_cases hl : i < l.length
    · rw [List.getElem?_set_self hl] at h
      exact .inl ⟨rfl, (Option.some.inj h).symm, hl⟩
    · rw [List.getElem?_eq_none (by rw [List.length_set]; omega)] at h
      cases h
  · rw [List.getElem?_set_ne e] at h
    exact .inr ⟨fun z => e z.symm, h⟩
theorem Ok.setAny (o : Ok H0 ds σ H) (i : Nat) (u : Option V) : Ok H0 (ds.set i .any) (σ.set i u) H := by
  refine ⟨o.same, by rw [List.length_set, List.length_set]; exact o.len, fun j d e n => ?_, fun j d p e n q => ?_, fun j k d f e1 e2 w1 w2 ne => ?_⟩
  · rcases get_set e with ⟨_, z, _⟩ | ⟨ne, e⟩
    · exact absurd z n
    · rw [List.getElem?_set_ne (Ne.symm ne)]
      exact o.slot j d e n
  · rcases get_set e with ⟨_, z, _⟩ | ⟨ne, e⟩
    · subst z; cases n
    · rw [List.getElem?_set_ne (Ne.symm ne)] at q
      exact o.fresh j d p e n q
  · rcases get_set e1 with ⟨_, z, _⟩ | ⟨n1, g1⟩
    · subst z; cases w1
    · rcases get_set e2 with ⟨_, z, _⟩ | ⟨n2, e2⟩
      · subst z; cases w2
      · rw [List.getElem?_set_ne (Ne.symm n1), List.getElem?_set_ne (Ne.symm n2)]
        exact o.sep j k d f g1 e2 w1 w2 ne
/-- a slot is forgotten -/
theorem Ok.drop (o : Ok H0 ds σ H) (i : Nat) : Ok H0 (ds.set i .any) σ H := by
  refine ⟨o.same, by rw [List.length_set]; exact o.len, fun j d e n => ?_, fun j d p e n q => ?_, fun j k d f e1 e2 w1 w2 ne => ?_⟩
  · rcases get_set e with ⟨_, z, _⟩ | ⟨ne, e⟩
    · exact absurd z n
    · exact o.slot j d e n
  · rcases get_set e with ⟨_, z, _⟩ | ⟨ne, e⟩
    · subst z; cases n
    · exact o.fresh j d p e n q
  · rcases get_set e1 with ⟨_, z, _⟩ | ⟨n1, g1⟩
    · subst z; cases w1
    · rcases get_set e2 with ⟨_, z, _⟩ | ⟨n2, e2⟩
      · subst z; cases w2
      · exact o.sep j k d f g1 e2 w1 w2 ne
theorem Ok.setIm (o : Ok H0 ds σ H) (i : Nat) {v : V} {a : α} (h : Dn.dn H v a) : Ok H0 (ds.set i (.im a)) (σ.set i (some v)) H := by
  refine ⟨o.same, by rw [List.length_set, List.length_set]; exact o.len, fun j d e n => ?_, fun j d p e n q => ?_, fun j k d f e1 e2 w1 w2 ne => ?_⟩
  · rcases get_set e with ⟨z1, z, hl⟩ | ⟨ne, e⟩
    · subst z1 z
      rw [List.getElem?_set_self (by rw [o.len]; exact hl)]
      exact ⟨v, rfl, h⟩
    · rw [List.getElem?_set_ne (Ne.symm ne)]
      exact o.slot j d e n
  · rcases get_set e with ⟨_, z, _⟩ | ⟨ne, e⟩
    · subst z; cases n
    · rw [List.getElem?_set_ne (Ne.symm ne)] at q
      exact o.fresh j d p e n q
  · rcases get_set e1 with ⟨_, z, _⟩ | ⟨n1, g1⟩
    · subst z; cases w1
    · rcases get_set e2 with ⟨_, z, _⟩ | ⟨n2, e2⟩
      · subst z; cases w2
      · rw [List.getElem?_set_ne (Ne.symm n1), List.getElem?_set_ne (Ne.symm n2)]
        exact o.sep j k d f g1 e2 w1 w2 ne
theorem sd_at (o : Ok H0 ds σ H) {j : Nat} {d : Sd} (e : ds[j]? = some d) (l : d.isl = true) : ∃ q u, σ[j]? = some (some (.ref q)) ∧ H q = some u ∧ Mu u := by
  cases d with
  | any => cases l
  | im a => cases l
  | ob R =>
    obtain ⟨v, h1, p, rfl, h2⟩ := o.slot j _ e (fun z => nomatch z)
    obtain ⟨φ, c⟩ := R.cell h2
    exact ⟨p, _, h1, c, True.intro⟩
  | ls xs => obtain ⟨p, h1, ⟨ws, h2, _⟩, _⟩ := o.ls e; exact ⟨p, _, h1, h2, True.intro⟩
  | rl xs => obtain ⟨p, h1, ws, h2, _⟩ := o.rl e; exact ⟨p, _, h1, h2, True.intro⟩
theorem Kept.mu {p : Addr} {u o : HO} (h : H p = some u) (m : Mu u) : Kept H (L2.upd H p o) := fun b =>
  ⟨fun _ e => by rw [upd_ne (ne_of e h (by intro z; subst z; exact m))]; exact e, fun _ e => by rw [upd_ne (ne_of e h (by intro z; subst z; exact m))]; exact e⟩
/-- a new thing of our own comes to a slot -/
theorem Ok.setOwn (o : Ok H0 ds σ H) (i : Nat) {p : Addr} {d0 : Sd} (s : Same H H') (n : H p = none) (w0 : d0.own = true) (h : SdV H' (.ref p) d0) : Ok H0 (ds.set i d0) (σ.set i (some (.ref p))) H' := by
  have far : ∀ (j : Nat) (d : Sd), ds[j]? = some d → d.isl = true → σ[j]? ≠ some (some (.ref p)) := fun j d e l z => by
    obtain ⟨q, ws, h1, h2, _⟩ := sd_at o e l
    rw [h1] at z
    cases z
    rw [n] at h2
    cases h2
  refine ⟨o.same.trans s, by rw [List.length_set, List.length_set]; exact o.len, fun j d e m => ?_, fun j d q e m w => ?_, fun j k d f e1 e2 w1 w2 ne => ?_⟩
  · rcases get_set e with ⟨z1, z, hl⟩ | ⟨ne, e⟩
    · subst z1 z
      rw [List.getElem?_set_self (by rw [o.len]; exact hl)]
      exact ⟨_, rfl, h⟩
    · rw [List.getElem?_set_ne (Ne.symm ne)]
      obtain ⟨v, h1, h2⟩ := o.slot j d e m
      exact ⟨v, h1, h2.same s⟩
  · rcases get_set e with ⟨z1, z, hl⟩ | ⟨ne, e⟩
    · subst z1 z
      rw [List.getElem?_set_self (by rw [o.len]; exact hl)] at w
      cases w
      exact o.same.free n
    · rw [List.getElem?_set_ne (Ne.symm ne)] at w
      exact o.fresh j d q e m w
  · rcases get_set e1 with ⟨z1, z, hl⟩ | ⟨n1, g1⟩
    · subst z1 z
      rcases get_set e2 with ⟨z2, _, _⟩ | ⟨n2, e2⟩
      · exact absurd z2.symm ne
      · rw [List.getElem?_set_self (by rw [o.len]; exact hl), List.getElem?_set_ne (Ne.symm n2)]
        exact fun q => far k f e2 w2 q.symm
    · rcases get_set e2 with ⟨z2, z, hl⟩ | ⟨n2, e2⟩
      · subst z2 z
        rw [List.getElem?_set_self (by rw [o.len]; exact hl), List.getElem?_set_ne (Ne.symm n1)]
        refine far j d g1 ?_
        cases d <;> first | rfl | cases w1
      · rw [List.getElem?_set_ne (Ne.symm n1), List.getElem?_set_ne (Ne.symm n2)]
        exact o.sep j k d f g1 e2 w1 w2 ne
/-- a new list comes to a slot -/
theorem Ok.setLs (o : Ok H0 ds σ H) (i : Nat) {p : Addr} {xs : List α} (s : Same H H') (n : H p = none) (h : LsAt H' p xs) : Ok H0 (ds.set i (.ls xs)) (σ.set i (some (.ref p))) H' :=
  o.setOwn i s n rfl ⟨p, rfl, h⟩
/-- an own list is given to another name, the old name forgotten -/
theorem Ok.move (o : Ok H0 ds σ H) {i j : Nat} {xs : List α} (e : ds[j]? = some (.ls xs)) (hij : i ≠ j) (hi : i < ds.length) : ∃ p, σ[j]? = some (some (.ref p)) ∧ Ok H0 ((ds.set j .any).set i (.ls xs)) (σ.set i (some (.ref p))) H := by
  obtain ⟨p, h1, h2, h3⟩ := o.ls e
  refine ⟨p, h1, o.same, by rw [List.length_set, List.length_set, List.length_set]; exact o.len, fun k d ek m => ?_, fun k d q ek m w => ?_, fun k l d f e1 e2 w1 w2 ne => ?_⟩
  · rcases get_set ek with ⟨z1, z, hl⟩ | ⟨ne, ek⟩
    · subst z1 z
      rw [List.getElem?_set_self (by rw [o.len]; exact hi)]
      exact ⟨_, rfl, p, rfl, h2⟩
    · rw [List.getElem?_set_ne (Ne.symm ne)]
      rcases get_set ek with ⟨_, z, _⟩ | ⟨_, ek⟩
      · exact absurd z m
      · exact o.slot k d ek m
  · rcases get_set ek with ⟨z1, z, hl⟩ | ⟨ne, ek⟩
    · subst z1 z
      rw [List.getElem?_set_self (by rw [o.len]; exact hi)] at w
      cases w
      exact h3
    · rw [List.getElem?_set_ne (Ne.symm ne)] at w
      rcases get_set ek with ⟨_, z, _⟩ | ⟨_, ek⟩
      · subst z; cases m
      · exact o.fresh k d q ek m w
  · have far : ∀ (k : Nat) (d : Sd), (ds.set j .any)[k]? = some d → d.isl = true → σ[k]? ≠ some (some (.ref p)) := fun k d ek l z => by
      rcases get_set ek with ⟨_, z2, _⟩ | ⟨nk, ek⟩
      · subst z2; cases l
      · exact o.sep j k _ d e ek rfl l (Ne.symm nk) (h1.trans z.symm)
    rcases get_set e1 with ⟨z1, z, hl⟩ | ⟨n1, g1⟩
    · subst z1 z
      rcases get_set e2 with ⟨z2, _, _⟩ | ⟨n2, e2⟩
      · exact absurd z2.symm ne
      · rw [List.getElem?_set_self (by rw [o.len]; exact hi), List.getElem?_set_ne (Ne.symm n2)]
        exact fun q => far l f e2 w2 q.symm
    · rcases get_set e2 with ⟨z2, z, hl⟩ | ⟨n2, e2⟩
      · subst z2 z
        rw [List.getElem?_set_self (by rw [o.len]; exact hi), List.getElem?_set_ne (Ne.symm n1)]
        refine far k d g1 ?_
        cases d <;> first | rfl | cases w1
      · rw [List.getElem?_set_ne (Ne.symm n1), List.getElem?_set_ne (Ne.symm n2)]
        rcases get_set g1 with ⟨_, z, _⟩ | ⟨_, g2⟩
        · subst z; cases w1
        · rcases get_set e2 with ⟨_, z, _⟩ | ⟨_, e2⟩
          · subst z; cases w2
          · exact o.sep k l d f g2 e2 w1 w2 ne
/-- an own list is read from here on -/
theorem Ok.read (o : Ok H0 ds σ H) {i : Nat} {xs : List α} (e : ds[i]? = some (.ls xs)) : Ok H0 (ds.set i (.rl xs)) σ H := by
  refine ⟨o.same, by rw [List.length_set]; exact o.len, fun j d ej n => ?_, fun j d p ej n q => ?_, fun j k d f e1 e2 w1 w2 ne => ?_⟩
  · rcases get_set ej with ⟨z1, z, _⟩ | ⟨ne, ej⟩
    · subst z1 z
      obtain ⟨p, h1, h2, _⟩ := o.ls e
      exact ⟨_, h1, p, rfl, h2⟩
    · exact o.slot j d ej n
  · rcases get_set ej with ⟨_, z, _⟩ | ⟨ne, ej⟩
    · subst z; cases n
    · exact o.fresh j d p ej n q
  · rcases get_set e1 with ⟨_, z, _⟩ | ⟨n1, g1⟩
    · subst z; cases w1
    · rcases get_set e2 with ⟨z1, z, _⟩ | ⟨n2, e2⟩
      · subst z1
        exact o.sep j k d _ g1 e w1 rfl ne
      · exact o.sep j k d f g1 e2 w1 w2 ne
/-- a thing of our own is written -/
theorem Ok.writeOwn (o : Ok H0 ds σ H) {i : Nat} {d0 d1 : Sd} {p : Addr} {u : HO} (e : ds[i]? = some d0) (w0 : d0.own = true) (i1 : d1.own = true) (hp : σ[i]? = some (some (.ref p))) (nw : Kept H (upd H p u) → SdV (upd H p u) (.ref p) d1) : Ok H0 (ds.set i d1) σ (upd H p u) := by
  have l0 : d0.isl = true := by cases d0 <;> first | rfl | cases w0
  obtain ⟨p', u0, h1, h2, mu⟩ := sd_at o e l0
  rw [hp] at h1
  cases h1
  have h3 := o.fresh i d0 p e w0 hp
  have kp : Kept H (upd H p u) := .mu h2 mu
  have hin : i < ds.length := (List.getElem?_eq_some_iff.mp e).1
  refine ⟨fun b u q => ?_, by rw [List.length_set]; exact o.len, fun j f ej n => ?_, fun j f q ej n w => ?_, fun j k f g e1 e2 w1 w2 ne => ?_⟩
  · rw [upd_ne (ne_of_none q h3)]
    exact o.same b u q
  · rcases get_set ej with ⟨z1, z, _⟩ | ⟨ne, ej⟩
    · subst z1 z
      exact ⟨_, hp, nw kp⟩
    · obtain ⟨v, q1, q2⟩ := o.slot j f ej n
      refine ⟨v, q1, ?_⟩
      have far : ∀ q, f.isl = true → v = .ref q → q ≠ p := fun q l z y => by
        subst z y
        exact o.sep i j _ f e ej w0 l (Ne.symm ne) (hp.trans q1.symm)
      cases f with
      | any => trivial
      | im a => exact Dn.keep (show Dn.dn H v a from q2) kp
      | ob R =>
        obtain ⟨q, rfl, w1⟩ := q2
        exact ⟨q, rfl, R.keep w1 kp (by rw [upd_ne (far q rfl rfl)])⟩
      | ls zs =>
        obtain ⟨q, rfl, us, w1, w2⟩ := q2
        exact ⟨q, rfl, us, by rw [upd_ne (far q rfl rfl)]; exact w1, w2.keep kp⟩
      | rl zs =>
        obtain ⟨q, rfl, us, w1, w2⟩ := q2
        exact ⟨q, rfl, us, by rw [upd_ne (far q rfl rfl)]; exact w1, w2.keep kp⟩
  · rcases get_set ej with ⟨z1, z, _⟩ | ⟨ne, ej⟩
    · subst z1
      exact o.fresh j _ q e w0 w
    · exact o.fresh j f q ej n w
  · rcases get_set e1 with ⟨z1, z, _⟩ | ⟨n1, g1⟩
    · subst z1
      rcases get_set e2 with ⟨z2, _, _⟩ | ⟨n2, e2⟩
      · exact absurd z2.symm ne
      · exact o.sep j k _ g e e2 w0 w2 ne
    · rcases get_set e2 with ⟨z2, z, _⟩ | ⟨n2, e2⟩
      · subst z2
        exact o.sep j k f _ g1 e w1 l0 ne
      · exact o.sep j k f g g1 e2 w1 w2 ne
/-- an own list is written -/
theorem Ok.write {β : Type} [Dn β] (o : Ok H0 ds σ H) {i : Nat} {xs : List α} {ys : List β} {p : Addr} {vs : List V} (e : ds[i]? = some (.ls xs)) (hp : σ[i]? = some (some (.ref p))) (d : Dns H vs ys) : Ok H0 (ds.set i (.ls ys)) σ (upd H p (.lst vs)) :=
  o.writeOwn e rfl rfl hp fun kp => ⟨p, rfl, vs, upd_same, d.keep kp⟩
/-- the base moved up to what stands now but the own lists -/
theorem Ok.rebase (o : Ok H0 ds σ H) : ∃ H1, Same H0 H1 ∧ Ok H1 ds σ H ∧ ∀ a u, H a = some u → (∀ (i : Nat) (d : Sd), ds[i]? = some d → d.own = true → σ[i]? ≠ some (some (.ref a))) → H1 a = some u := by
  classical
  refine ⟨fun a => if ∃ (i : Nat) (d : Sd), ds[i]? = some d ∧ d.own = true ∧ σ[i]? = some (some (.ref a)) then none else H a, fun b u e => ?_, ⟨fun b u e => ?_, o.len, o.slot, fun i d p e w h => ?_, o.sep⟩, fun a u e n => ?_⟩
  · show (if _ then _ else _) = _
    rw [if_neg]
    · exact o.same b u e
    · rintro ⟨i, d, h1, h2, h3⟩
      rw [o.fresh i d b h1 h2 h3] at e
      cases e
  · have e : (if _ then _ else _) = _ := e
    split at e
    · cases e
    · exact e
  · show (if _ then _ else _) = _
    rw [if_pos ⟨i, d, e, w, h⟩]
  · show (if _ then _ else _) = _
    rw [if_neg]
    · exact e
    · rintro ⟨i, d, h1, h2, h3⟩
      exact n i d h1 h2 h3
theorem Ok.base {H1 : Hp} (o : Ok H1 ds σ H) (s : Same H0 H1) : Ok H0 ds σ H := ⟨s.trans o.same, o.len, o.slot, fun i d p e w h => s.free (o.fresh i d p e w h), o.sep⟩
/-- less told -/
inductive Wk : List Sd → List Sd → Prop
  | nil : Wk [] []
  | any {d : Sd} {ds es : List Sd} : Wk ds es → Wk (d :: ds) (.any :: es)
  | same {d : Sd} {ds es : List Sd} : Wk ds es → Wk (d :: ds) (d :: es)
theorem Wk.refl : ∀ ds : List Sd, Wk ds ds
  | [] => .nil
  | _ :: ds => .same (Wk.refl ds)
theorem Wk.len {ds es : List Sd} (w : Wk ds es) : ds.length = es.length := by
  induction w with
  | nil => rfl
  | any _ ih => rw [List.length_cons, List.length_cons, ih]
  | same _ ih => rw [List.length_cons, List.length_cons, ih]
theorem Wk.at {ds es : List Sd} (w : Wk ds es) : ∀ {i : Nat} {d : Sd}, es[i]? = some d → d = .any ∨ ds[i]? = some d := by
  induction w with
  | nil => intro i d h; simp at h
  | any _ ih =>
    intro i d h
    cases i with
    | zero => simp at h; exact .inl h.symm
    | succ i => simpa using ih (by simpa using h)
  | same _ ih =>
    intro i d h
    cases i with
    | zero => exact .inr (by simpa using h)
    | succ i => simpa using ih (by simpa using h)
theorem Ok.weak {es : List Sd} (o : Ok H0 ds σ H) (w : Wk ds es) : Ok H0 es σ H := by
  refine ⟨o.same, o.len.trans w.len, fun i d e n => ?_, fun i d p e n h => ?_, fun i j d f e1 e2 w1 w2 ne => ?_⟩
  · rcases w.at e with z | e
    · exact absurd z n
    · exact o.slot i d e n
  · rcases w.at e with z | e
    · subst z; cases n
    · exact o.fresh i d p e n h
  · rcases w.at e1 with z | e1
    · subst z; cases w1
    · rcases w.at e2 with z | e2
      · subst z; cases w2
      · exact o.sep i j d f e1 e2 w1 w2 ne
end
end L2.LX
/-! LB: expressions judged over slots told by data. -/
namespace L2.LX
open PySem PySem.Spec PyProof.Rows

/-! ### the semantic readings -/
def tw (X : Cx) (e : Expr) : TE := fun σ H Q => ∀ pins s, Inv X pins σ H s → wpAny (model X.prog X.w) X.A (eval e X.env) (EP X pins σ Q) X.xe s
theorem pe_tw {X : Cx} {e : Expr} : PE X e (tw X e) := ⟨fun pins s σ H Q I h => h pins s I⟩
theorem _root_.L2.PE.tw {X : Cx} {e : Expr} {t : TE} (p : PE X e t) {σ : St} {H : Hp} {Q : VK} (h : t σ H Q) : tw X e σ H Q := fun pins s I => p.run pins s σ H Q I h
def twT (X : Cx) (e : Expr) : TT := fun σ H Q => ∀ pins s, Inv X pins σ H s → wpAny (model X.prog X.w) X.A (isTrue e X.env (eval e X.env)) (TP X pins σ Q) X.xe s
theorem pt_tw {X : Cx} {e : Expr} : PT X e (twT X e) := ⟨fun pins s σ H Q I h => h pins s I⟩
theorem _root_.L2.PT.tw {X : Cx} {e : Expr} {t : TT} (p : PT X e t) {σ : St} {H : Hp} {Q : Bool → Hp → Prop} (h : t σ H Q) : twT X e σ H Q := fun pins s I => p.run pins s σ H Q I h
def twA (X : Cx) (es : List Expr) : TA := fun σ H Q => ∀ pos pins s, Inv X pins σ H s → wpAny (model X.prog X.w) X.A (spliced (backTo pos (starEach es X.env))) (AP X pins σ Q) X.xe s
theorem pa_tw {X : Cx} {es : List Expr} : PA X es (twA X es) := ⟨fun pos pins s σ H Q I h => h pos pins s I⟩
theorem _root_.L2.PA.tw {X : Cx} {es : List Expr} {t : TA} (p : PA X es t) {σ : St} {H : Hp} {Q : List V → Hp → Prop} (h : t σ H Q) : twA X es σ H Q := fun pos pins s I => p.run pos pins s σ H Q I h
def twG (X : Cx) (tg : Expr) : TG := fun v σ H Q => ∀ pins s u, Inv X pins σ H s → RelV v u → wpAny (model X.prog X.w) X.A (assign tg X.env u) (fun _ s' => ∃ σ' H', Inv X pins σ' H' s' ∧ Q σ' H') X.xe s
theorem pg_tw {X : Cx} {tg : Expr} : PG X tg (twG X tg) := ⟨fun pins s σ H v u Q I r h => h pins s u I r⟩
theorem _root_.L2.PG.tw {X : Cx} {tg : Expr} {t : TG} (p : PG X tg t) {v : V} {σ : St} {H : Hp} {Q : St → Hp → Prop} (h : t v σ H Q) : twG X tg v σ H Q := fun pins s u I r => p.run pins s σ H v u Q I r h
def twI (X : Cx) (tg iter : Expr) : TI := fun σ H R => ∀ pins s, Inv X pins σ H s → wpAny (model X.prog X.w) X.A (eval iter X.env) (fun v s1 => wpAny (model X.prog X.w) X.A (pyIter v) (PIE X pins σ tg R) X.xe s1) X.xe s
theorem pi_tw {X : Cx} {tg iter : Expr} : PI X tg iter (twI X tg iter) := ⟨fun pins s σ H R I h => h pins s I⟩
theorem _root_.L2.PI.tw {X : Cx} {tg iter : Expr} {t : TI} (p : PI X tg iter t) {σ : St} {H : Hp} {R : It → Hp → Prop} (h : t σ H R) : twI X tg iter σ H R := fun pins s I => p.run pins s σ H R I h
def twS (X : Cx) (st : Stmt) : TS := fun D σ H => ∀ pins s, Inv X pins σ H s → wpAny (model X.prog X.w) X.A (exec st X.env) (SP X pins D) X.xe s
theorem ps_tw {X : Cx} {st : Stmt} : PS X st (twS X st) := ⟨fun pins s σ H D I h => h pins s I⟩
theorem _root_.L2.PS.tw {X : Cx} {st : Stmt} {t : TS} (p : PS X st t) {D : Ends} {σ : St} {H : Hp} (h : t D σ H) : twS X st D σ H := fun pins s I => p.run pins s σ H D I h
def twSs (X : Cx) (st : List Stmt) : TS := fun D σ H => ∀ pins s, Inv X pins σ H s → wpAny (model X.prog X.w) X.A (execs st X.env) (SP X pins D) X.xe s
theorem pss_tw {X : Cx} {st : List Stmt} : PSs X st (twSs X st) := ⟨fun pins s σ H D I h => h pins s I⟩
theorem _root_.L2.PSs.tw {X : Cx} {st : List Stmt} {t : TS} (p : PSs X st t) {D : Ends} {σ : St} {H : Hp} (h : t D σ H) : twSs X st D σ H := fun pins s I => p.run pins s σ H D I h
def twTs (X : Cx) (ifs : List Expr) : TT := fun σ H Q => ∀ pins s, Inv X pins σ H s → wpAny (model X.prog X.w) X.A (forIn ifs true fun c r => if r = true then do let ok ← isTrue c X.env (eval c X.env); pure (ForInStep.yield ok) else pure (ForInStep.yield r)) (TP X pins σ Q) X.xe s
theorem pts_tw {X : Cx} {ifs : List Expr} : PTs X ifs (twTs X ifs) := ⟨fun pins s σ H Q I h => h pins s I⟩
theorem _root_.L2.PTs.tw {X : Cx} {ifs : List Expr} {t : TT} (p : PTs X ifs t) {σ : St} {H : Hp} {Q : Bool → Hp → Prop} (h : t σ H Q) : twTs X ifs σ H Q := fun pins s I => p.run pins s σ H Q I h

def SdVs (H : Hp) : List V → List Sd → Prop
  | [], [] => True
  | v :: vs, a :: as => SdV H v a ∧ SdVs H vs as
  | _, _ => False
section
variable (X : Cx) (H0 : Hp) (ds : List Sd)
/-- an expression whose value is data -/
def EV {α : Type} [Dn α] (e : Expr) (a : α) : Prop := ∀ σ H Q, Ok H0 ds σ H → (∀ v H', Same H H' → Dn.dn H' v a → Q v H') → tw X e σ H Q
/-- .. a new list -/
def EL {α : Type} [Dn α] (e : Expr) (xs : List α) : Prop := ∀ σ H Q, Ok H0 ds σ H → (∀ p H', Same H H' → H p = none → LsAt H' p xs → Q (.ref p) H') → tw X e σ H Q
/-- .. a list that is read -/
def EB {α : Type} [Dn α] (e : Expr) (xs : List α) : Prop := ∀ σ H Q, Ok H0 ds σ H → (∀ p H', Same H H' → LsAt H' p xs → Q (.ref p) H') → tw X e σ H Q
def TV (e : Expr) (b : Bool) : Prop := ∀ σ H Q, Ok H0 ds σ H → (∀ H', Same H H' → Q b H') → twT X e σ H Q
def CV (op : CmpOp) (a b : Expr) (c : Bool) : Prop := ∃ r, OpR X (compareOp op) r ∧ ∀ σ H Q, Ok H0 ds σ H → (∀ H', Same H H' → Q (.bl c) H') → tOp r (tw X a) (tw X b) σ H Q
def AV (es : List Expr) (as : List Sd) : Prop := ∀ σ H Q, Ok H0 ds σ H → (∀ vs H', Same H H' → SdVs H' vs as → Q vs H') → twA X es σ H Q
end
section
variable {X : Cx} {H0 : Hp} {ds : List Sd} {α β : Type} [Dn α] [Dn β] {e e1 e2 : Expr} {pos : Pos}
theorem EL.b {xs : List α} (h : EL X H0 ds e xs) : EB X H0 ds e xs := fun σ H Q o k => h σ H Q o fun p H' s _ q => k p H' s q
theorem e_var {a : α} (i : Nat) (h : ds[i]? = some (.im a)) {x : Str} (hN : X.N[i]? = some x := by rfl) (hv : Vis X.env.scope x := by first | exact Or.inl rfl | exact Or.inr (Or.inl rfl) | exact Or.inr (Or.inr rfl)) (hd : (x == ("__debug__" : Str)) = false := by decide) (hcd : (x == ("__classdict__" : Str)) = false := by decide) :
    EV X H0 ds (.Name x pos) a := fun σ H Q o k => (pe_var hN hv hd hcd).tw (let ⟨v, h1, h2⟩ := o.im h; ⟨v, h1, k v H (.refl H) h2⟩)
theorem b_var {xs : List α} (i : Nat) (h : ds[i]? = some (.ls xs) ∨ ds[i]? = some (.rl xs)) {x : Str} (hN : X.N[i]? = some x := by rfl) (hv : Vis X.env.scope x := by first | exact Or.inl rfl | exact Or.inr (Or.inl rfl) | exact Or.inr (Or.inr rfl)) (hd : (x == ("__debug__" : Str)) = false := by decide) (hcd : (x == ("__classdict__" : Str)) = false := by decide) :
    EB X H0 ds (.Name x pos) xs := fun σ H Q o k => (pe_var hN hv hd hcd).tw (by
  rcases h with h | h
  · obtain ⟨p, h1, h2, _⟩ := o.ls h
    exact ⟨_, h1, k p H (.refl H) h2⟩
  · obtain ⟨p, h1, h2⟩ := o.rl h
    exact ⟨_, h1, k p H (.refl H) h2⟩)
theorem e_nat (n : Nat) {i : Int} {j : Nat} (h : i = (n : Int) := by rfl) : EV X H0 ds (.Constant (.int i) j pos) n := fun σ H Q o k => pe_int.tw (k _ H (.refl H) (by rw [h]; rfl))
theorem e_int {i : Int} {j : Nat} : EV X H0 ds (.Constant (.int i) j pos) i := fun σ H Q o k => pe_int.tw (k _ H (.refl H) rfl)
theorem e_bool {b : Bool} {j : Nat} : EV X H0 ds (.Constant (.bool b) j pos) b := fun σ H Q o k => pe_bl.tw (k _ H (.refl H) rfl)

/-! ### numbers -/
class Nm (α : Type) extends Dn α where
  z : α → Int
  is : ∀ H v a, Dn.dn H v a ↔ v = .int (z a)
instance : Nm Nat := ⟨fun n => n, fun _ _ _ => Iff.rfl⟩
instance : Nm Int := ⟨fun n => n, fun _ _ _ => Iff.rfl⟩
theorem bin2 {a : α} {b : β} {σ : St} {H : Hp} {Q : VK} {r : R2} (ha : EV X H0 ds e1 a) (hb : EV X H0 ds e2 b) (o : Ok H0 ds σ H)
    (k : ∀ v w H', Same H H' → Dn.dn H' v a → Dn.dn H' w b → r v w H' Q) : tOp r (tw X e1) (tw X e2) σ H Q :=
  ha σ H _ o fun v H1 s1 d1 => hb σ H1 _ (o.ext s1) fun w H2 s2 d2 => k v w H2 (s1.trans s2) (Dn.keep d1 (.of s2)) d2
theorem e_addN {m n : Nat} (ha : EV X H0 ds e1 m) (hb : EV X H0 ds e2 n) : EV X H0 ds (.BinOp e1 .Add e2 pos) (m + n) := fun σ H Q o k =>
  (pe_op op_add pe_tw pe_tw).tw (bin2 ha hb o fun v w H' s d1 d2 => ⟨_, _, d1, d2, k _ H' s (show _ = _ by rw [Int.natCast_add])⟩)
theorem e_addI {m n : Int} (ha : EV X H0 ds e1 m) (hb : EV X H0 ds e2 n) : EV X H0 ds (.BinOp e1 .Add e2 pos) (m + n) := fun σ H Q o k =>
  (pe_op op_add pe_tw pe_tw).tw (bin2 ha hb o fun v w H' s d1 d2 => ⟨_, _, d1, d2, k _ H' s rfl⟩)
theorem e_subN {m n : Nat} (ha : EV X H0 ds e1 m) (hb : EV X H0 ds e2 n) (h : n ≤ m) : EV X H0 ds (.BinOp e1 .Sub e2 pos) (m - n) := fun σ H Q o k =>
  (pe_op op_sub pe_tw pe_tw).tw (bin2 ha hb o fun v w H' s d1 d2 => ⟨_, _, d1, d2, k _ H' s (show _ = _ by rw [Int.ofNat_sub h])⟩)
theorem e_subI {m n : Int} (ha : EV X H0 ds e1 m) (hb : EV X H0 ds e2 n) : EV X H0 ds (.BinOp e1 .Sub e2 pos) (m - n) := fun σ H Q o k =>
  (pe_op op_sub pe_tw pe_tw).tw (bin2 ha hb o fun v w H' s d1 d2 => ⟨_, _, d1, d2, k _ H' s rfl⟩)
/-- of two whole numbers, the answer a whole number that may be below 0 -/
theorem e_subZ {m n : Nat} (ha : EV X H0 ds e1 m) (hb : EV X H0 ds e2 n) : EV X H0 ds (.BinOp e1 .Sub e2 pos) ((m : Int) - (n : Int)) := fun σ H Q o k =>
  (pe_op op_sub pe_tw pe_tw).tw (bin2 ha hb o fun v w H' s d1 d2 => ⟨_, _, d1, d2, k _ H' s rfl⟩)
theorem e_mulN {m n : Nat} (ha : EV X H0 ds e1 m) (hb : EV X H0 ds e2 n) (h : m < 2 ^ 64) : EV X H0 ds (.BinOp e1 .Mult e2 pos) (m * n) := fun σ H Q o k =>
  (pe_op op_mul pe_tw pe_tw).tw (bin2 ha hb o fun v w H' s d1 d2 => ⟨_, _, d1, d2, .inl ⟨by omega, by omega⟩, k _ H' s (show _ = _ by rw [Int.natCast_mul])⟩)
theorem e_negN {m : Nat} (ha : EV X H0 ds e m) : EV X H0 ds (.UnaryOp .USub e pos) (-(m : Int)) := fun σ H Q o k =>
  (pe_un un_neg pe_tw).tw (ha σ H _ o fun v H' s d => ⟨_, d, k _ H' s rfl⟩)
theorem e_negI {m : Int} (ha : EV X H0 ds e m) : EV X H0 ds (.UnaryOp .USub e pos) (-m) := fun σ H Q o k =>
  (pe_un un_neg pe_tw).tw (ha σ H _ o fun v H' s d => ⟨_, d, k _ H' s rfl⟩)
/-- read as a number that may be below 0 -/
theorem e_z {m : Nat} (ha : EV X H0 ds e m) : EV X H0 ds e (m : Int) := fun σ H Q o k => ha σ H Q o fun v H' s d => k v H' s d
theorem e_nn {m : Int} {n : Nat} (ha : EV X H0 ds e m) (h : m = (n : Int)) : EV X H0 ds e n := fun σ H Q o k => ha σ H Q o fun v H' s d => k v H' s (by rw [h] at d; exact d)
theorem e_eq {a b : α} (ha : EV X H0 ds e a) (h : a = b) : EV X H0 ds e b := h ▸ ha

/-! ### comparisons -/
theorem e_cmp {op : CmpOp} {c : Bool} (h : CV X H0 ds op e1 e2 c) (hm : behindInMarks op e2 = false := by first | exact nomark _ (by decide) (by decide) | rfl) : EV X H0 ds (.Compare e1 [op] [e2] pos) c := fun σ H Q o k => by
  obtain ⟨r, ho, q⟩ := h
  exact (pe_cmpR ho pe_tw pe_tw hm).tw (q σ H _ o fun H' s => k _ H' s rfl)
theorem t_cmp {op : CmpOp} {c : Bool} (h : CV X H0 ds op e1 e2 c) (hm : behindInMarks op e2 = false := by first | exact nomark _ (by decide) (by decide) | rfl) : TV X H0 ds (.Compare e1 [op] [e2] pos) c := fun σ H Q o k => by
  obtain ⟨r, ho, q⟩ := h
  exact (pt_cmpR ho pe_tw pe_tw hm).tw (q σ H _ o fun H' s => ⟨c, rfl, k H' s⟩)
theorem t_val {c : Bool} (h : EV X H0 ds e c) (he : ∀ whole, isTrue e X.env whole = (do let v ← whole; standAt e.pos; holding [v] (truthy v)) := by intro _; rfl) : TV X H0 ds e c := fun σ H Q o k =>
  (pt_val pe_tw he).tw (h σ H _ o fun v H' s d => ⟨c, d, k H' s⟩)
section
variable {ν : Type} [Nm ν] {m n : ν}
theorem c_lt (ha : EV X H0 ds e1 m) (hb : EV X H0 ds e2 n) : CV X H0 ds .Lt e1 e2 (decide (Nm.z m < Nm.z n)) := ⟨_, op_lt, fun σ H Q o k => bin2 ha hb o fun v w H' s d1 d2 => ⟨_, _, (Nm.is _ _ _).mp d1, (Nm.is _ _ _).mp d2, k H' s⟩⟩
theorem c_le (ha : EV X H0 ds e1 m) (hb : EV X H0 ds e2 n) : CV X H0 ds .LtE e1 e2 (decide (Nm.z m ≤ Nm.z n)) := ⟨_, op_le, fun σ H Q o k => bin2 ha hb o fun v w H' s d1 d2 => ⟨_, _, (Nm.is _ _ _).mp d1, (Nm.is _ _ _).mp d2, k H' s⟩⟩
theorem c_gt (ha : EV X H0 ds e1 m) (hb : EV X H0 ds e2 n) : CV X H0 ds .Gt e1 e2 (decide (Nm.z n < Nm.z m)) := ⟨_, op_gt, fun σ H Q o k => bin2 ha hb o fun v w H' s d1 d2 => ⟨_, _, (Nm.is _ _ _).mp d1, (Nm.is _ _ _).mp d2, k H' s⟩⟩
theorem c_ge (ha : EV X H0 ds e1 m) (hb : EV X H0 ds e2 n) : CV X H0 ds .GtE e1 e2 (decide (Nm.z n ≤ Nm.z m)) := ⟨_, op_ge, fun σ H Q o k => bin2 ha hb o fun v w H' s d1 d2 => ⟨_, _, (Nm.is _ _ _).mp d1, (Nm.is _ _ _).mp d2, k H' s⟩⟩
theorem c_eq (ha : EV X H0 ds e1 m) (hb : EV X H0 ds e2 n) : CV X H0 ds .Eq e1 e2 (decide (Nm.z m = Nm.z n)) := ⟨_, op_eq, fun σ H Q o k => bin2 ha hb o fun v w H' s d1 d2 => by
  rw [(Nm.is _ _ _).mp d1, (Nm.is _ _ _).mp d2]
  refine ⟨rfl, ?_⟩
  have e : decide (V.int (Nm.z m) = V.int (Nm.z n)) = decide (Nm.z m = Nm.z n) := by rw [dec_int, Bool.beq_eq_decide_eq]
  rw [e]
  exact k H' s⟩
theorem c_ne (ha : EV X H0 ds e1 m) (hb : EV X H0 ds e2 n) : CV X H0 ds .NotEq e1 e2 (!decide (Nm.z m = Nm.z n)) := ⟨_, op_ne, fun σ H Q o k => bin2 ha hb o fun v w H' s d1 d2 => by
  rw [(Nm.is _ _ _).mp d1, (Nm.is _ _ _).mp d2]
  refine ⟨rfl, ?_⟩
  have e : decide (V.int (Nm.z m) = V.int (Nm.z n)) = decide (Nm.z m = Nm.z n) := by rw [dec_int, Bool.beq_eq_decide_eq]
  rw [e]
  exact k H' s⟩
end
theorem CV.as {op : CmpOp} {c d : Bool} (h : CV X H0 ds op e1 e2 c) (e : c = d) : CV X H0 ds op e1 e2 d := e ▸ h
section
variable {m n : Nat}
theorem c_ltN (ha : EV X H0 ds e1 m) (hb : EV X H0 ds e2 n) : CV X H0 ds .Lt e1 e2 (decide (m < n)) := (c_lt ha hb).as (by simp only [Nm.z, Int.ofNat_lt])
theorem c_leN (ha : EV X H0 ds e1 m) (hb : EV X H0 ds e2 n) : CV X H0 ds .LtE e1 e2 (decide (m ≤ n)) := (c_le ha hb).as (by simp only [Nm.z, Int.ofNat_le])
theorem c_gtN (ha : EV X H0 ds e1 m) (hb : EV X H0 ds e2 n) : CV X H0 ds .Gt e1 e2 (decide (n < m)) := (c_gt ha hb).as (by simp only [Nm.z, Int.ofNat_lt])
theorem c_geN (ha : EV X H0 ds e1 m) (hb : EV X H0 ds e2 n) : CV X H0 ds .GtE e1 e2 (decide (n ≤ m)) := (c_ge ha hb).as (by simp only [Nm.z, Int.ofNat_le])
theorem c_eqN (ha : EV X H0 ds e1 m) (hb : EV X H0 ds e2 n) : CV X H0 ds .Eq e1 e2 (m == n) := (c_eq ha hb).as (by
  by_cases h : m = n
  · simp [h, Nm.z]
  · rw [show (m == n) = false from beq_eq_false_iff_ne.mpr h]
    exact decide_eq_false fun q => h (Int.ofNat.inj q))
theorem c_neN (ha : EV X H0 ds e1 m) (hb : EV X H0 ds e2 n) : CV X H0 ds .NotEq e1 e2 (!(m == n)) := (c_ne ha hb).as (by
  by_cases h : m = n
  · simp [h, Nm.z]
  · rw [show (m == n) = false from beq_eq_false_iff_ne.mpr h]
    exact congrArg (!·) (decide_eq_false fun q => h (Int.ofNat.inj q)))
end
/-- == of truth values -/
theorem c_neB {b c : Bool} (ha : EV X H0 ds e1 b) (hb : EV X H0 ds e2 c) : CV X H0 ds .NotEq e1 e2 (!(b == c)) := ⟨_, op_ne, fun σ H Q o k => bin2 ha hb o fun v w H' s d1 d2 => by
  cases (show v = _ from d1)
  cases (show w = _ from d2)
  refine ⟨rfl, ?_⟩
  rw [dec_bl]
  exact k H' s⟩

/-! ### lists and tuples compared, looked into -/
section
variable {γ : Type} [En γ]
theorem bin2L {xs : List α} {ys : List β} {σ : St} {H : Hp} {Q : VK} {r : R2} (ha : EB X H0 ds e1 xs) (hb : EB X H0 ds e2 ys) (o : Ok H0 ds σ H)
    (k : ∀ p q H', Same H H' → LsAt H' p xs → LsAt H' q ys → r (.ref p) (.ref q) H' Q) : tOp r (tw X e1) (tw X e2) σ H Q :=
  ha σ H _ o fun p H1 s1 d1 => hb σ H1 _ (o.ext s1) fun q H2 s2 d2 => k p q H2 (s1.trans s2) (d1.same s2) d2
theorem lsD_at {K : PySem.W.Frag} {H : Hp} {p : Addr} {xs : List γ} (h : LsAt H p xs) : Dp K H (.ref p) (lsD xs) := let ⟨_, h1, h2⟩ := h; lsD_dp h1 h2
theorem c_eqL {xs ys : List γ} (hu : X.A.units + 64 < cLine) (ha : EB X H0 ds e1 xs) (hb : EB X H0 ds e2 ys) (hd : En.dep γ ≤ 60 := by decide) : CV X H0 ds .Eq e1 e2 (bqL xs ys) := ⟨_, op_eqD hu, fun σ H Q o k => bin2L ha hb o fun p q H' s d1 d2 =>
  ⟨lsD xs, lsD ys, lsD_at d1, lsD_at d2, lsD_shaped hd xs, lsD_shaped hd ys, by rw [lsD_eqv]; exact k H' s⟩⟩
theorem c_neL {xs ys : List γ} (hu : X.A.units + 64 < cLine) (ha : EB X H0 ds e1 xs) (hb : EB X H0 ds e2 ys) (hd : En.dep γ ≤ 60 := by decide) : CV X H0 ds .NotEq e1 e2 (!bqL xs ys) := ⟨_, op_neD hu, fun σ H Q o k => bin2L ha hb o fun p q H' s d1 d2 =>
  ⟨lsD xs, lsD ys, lsD_at d1, lsD_at d2, lsD_shaped hd xs, lsD_shaped hd ys, by rw [lsD_eqv]; exact k H' s⟩⟩
theorem c_eqD {x y : γ} (hu : X.A.units + 64 < cLine) (ha : EV X H0 ds e1 x) (hb : EV X H0 ds e2 y) (hd : En.dep γ ≤ 60 := by decide) : CV X H0 ds .Eq e1 e2 (En.bq x y) := ⟨_, op_eqD hu, fun σ H Q o k => bin2 ha hb o fun v w H' s d1 d2 =>
  ⟨En.en x, En.en y, En.dp d1, En.dp d2, en_shaped hd x, en_shaped hd y, by rw [En.eqv]; exact k H' s⟩⟩
theorem c_neD {x y : γ} (hu : X.A.units + 64 < cLine) (ha : EV X H0 ds e1 x) (hb : EV X H0 ds e2 y) (hd : En.dep γ ≤ 60 := by decide) : CV X H0 ds .NotEq e1 e2 (!En.bq x y) := ⟨_, op_neD hu, fun σ H Q o k => bin2 ha hb o fun v w H' s d1 d2 =>
  ⟨En.en x, En.en y, En.dp d1, En.dp d2, en_shaped hd x, en_shaped hd y, by rw [En.eqv]; exact k H' s⟩⟩
def hasB (x : γ) (xs : List γ) : Bool := xs.any fun y => En.bq y x
theorem any_en (x : γ) (xs : List γ) : ((xs.map En.en).any fun z => PyData.eqv z (En.en x)) = hasB x xs := by
  unfold hasB
  rw [List.any_map]
  congr 1
  funext y
  exact En.eqv y x
theorem c_inL {x : γ} {xs : List γ} (hu : X.A.units + 65 < cLine) (ha : EV X H0 ds e1 x) (hb : EB X H0 ds e2 xs) (hd : En.dep γ ≤ 60 := by decide) : CV X H0 ds .In e1 e2 (hasB x xs) := ⟨_, op_inD hu, fun σ H Q o k =>
  ha σ H _ o fun v H1 s1 d1 => hb σ H1 _ (o.ext s1) fun q H2 s2 d2 =>
  ⟨En.en x, xs.map En.en, En.dp (Dn.keep d1 (.of s2)), lsD_at d2, en_shaped hd x, lsD_shaped hd xs, by rw [any_en]; exact k H2 (s1.trans s2)⟩⟩
theorem c_notInL {x : γ} {xs : List γ} (hu : X.A.units + 65 < cLine) (ha : EV X H0 ds e1 x) (hb : EB X H0 ds e2 xs) (hd : En.dep γ ≤ 60 := by decide) : CV X H0 ds .NotIn e1 e2 (!hasB x xs) := ⟨_, op_notInD hu, fun σ H Q o k =>
  ha σ H _ o fun v H1 s1 d1 => hb σ H1 _ (o.ext s1) fun q H2 s2 d2 =>
  ⟨En.en x, xs.map En.en, En.dp (Dn.keep d1 (.of s2)), lsD_at d2, en_shaped hd x, lsD_shaped hd xs, by rw [any_en]; exact k H2 (s1.trans s2)⟩⟩
end
/-- a tuple of whole numbers -/
theorem tupN {H : Hp} {v : V} {xs : List Nat} (h : Dn.dn H v xs) : ∃ p, v = .ref p ∧ H p = some (.tup (xs.map fun (n : Nat) => V.int (n : Int))) := by
  obtain ⟨p, vs, e, h1, h2⟩ := h
  refine ⟨p, e, ?_⟩
  have : vs = xs.map fun (n : Nat) => V.int (n : Int) := by
    clear h1 e
    induction h2 with
    | nil => rfl
    | cons r _ ih => rw [List.map_cons, ← ih, (show _ = _ from r)]
  rw [← this]
  exact h1
theorem flatN (xs : List Nat) : (xs.map fun (n : Nat) => V.int (n : Int)).all flatV = true := by
  rw [List.all_eq_true]
  intro v hv
  obtain ⟨n, _, rfl⟩ := List.mem_map.mp hv
  rfl
theorem inV_N (n : Nat) (xs : List Nat) : inV (.int (n : Int)) (xs.map fun (n : Nat) => V.int (n : Int)) = xs.contains n := by
  unfold inV
  rw [List.any_map]
  induction xs with
  | nil => rfl
  | cons y ys ih =>
    rw [List.any_cons, List.contains_cons, ih]
    congr 1
    by_cases h : y = n
    · subst h
      simp [eqV]
    · have h1 : (n == y) = false := beq_eq_false_iff_ne.mpr (Ne.symm h)
      rw [h1]
      have h2 : ¬ (y : Int) = (n : Int) := fun q => h (Int.ofNat.inj q)
      simp [eqV, h2]
theorem c_inT {n : Nat} {xs : List Nat} (ha : EV X H0 ds e1 n) (hb : EV X H0 ds e2 xs) : CV X H0 ds .In e1 e2 (xs.contains n) := ⟨_, op_in_seq, fun σ H Q o k => bin2 ha hb o fun v w H' s d1 d2 => by
  obtain ⟨p, rfl, hp⟩ := tupN d2
  cases (show v = _ from d1)
  refine ⟨p, _, rfl, .inr (.of hp), rfl, flatN xs, ?_⟩
  rw [inV_N]
  exact k H' s⟩
theorem c_notInT {n : Nat} {xs : List Nat} (ha : EV X H0 ds e1 n) (hb : EV X H0 ds e2 xs) : CV X H0 ds .NotIn e1 e2 (!xs.contains n) := ⟨_, op_notIn_seq, fun σ H Q o k => bin2 ha hb o fun v w H' s d1 d2 => by
  obtain ⟨p, rfl, hp⟩ := tupN d2
  cases (show v = _ from d1)
  refine ⟨p, _, rfl, .inr (.of hp), rfl, flatN xs, ?_⟩
  rw [inV_N]
  exact k H' s⟩

/-! ### and, or, not -/
theorem t_not {b : Bool} (h : TV X H0 ds e b) : TV X H0 ds (.UnaryOp .Not e pos) (!b) := fun σ H Q o k => (pt_not pt_tw).tw (h σ H _ o fun H' s => k H' s)
theorem e_not {b : Bool} (h : EV X H0 ds e b) : EV X H0 ds (.UnaryOp .Not e pos) (!b) := fun σ H Q o k => (pe_not pe_tw).tw (h σ H _ o fun v H' s d => ⟨b, d, k _ H' s rfl⟩)
theorem e_and {b c : Bool} (h1 : EV X H0 ds e1 b) (h2 : b = true → EV X H0 ds e2 c) : EV X H0 ds (.BoolOp .And [e1, e2] pos) (b && c) := fun σ H Q o k => (pe_and pe_tw (pe_one pe_tw)).tw (h1 σ H _ o fun v H' s d => ⟨b, d, by
  cases b with
  | true => exact iteT (h2 rfl σ H' _ (o.ext s) fun v H2 s2 d2 => k v H2 (s.trans s2) d2)
  | false => exact iteF (k _ H' s rfl)⟩)
theorem e_or {b c : Bool} (h1 : EV X H0 ds e1 b) (h2 : b = false → EV X H0 ds e2 c) : EV X H0 ds (.BoolOp .Or [e1, e2] pos) (b || c) := fun σ H Q o k => (pe_or pe_tw (pe_one pe_tw)).tw (h1 σ H _ o fun v H' s d => ⟨b, d, by
  cases b with
  | true => exact iteT (k _ H' s rfl)
  | false => exact iteF (h2 rfl σ H' _ (o.ext s) fun v H2 s2 d2 => k v H2 (s.trans s2) d2)⟩)
theorem t_and {b c : Bool} (h1 : TV X H0 ds e1 b) (h2 : b = true → TV X H0 ds e2 c) : TV X H0 ds (.BoolOp .And [e1, e2] pos) (b && c) := fun σ H Q o k => (PW.pt (pw_and pt_tw (pw_and1 pt_tw))).tw (h1 σ H _ o fun H' s => by
  cases b with
  | true => exact iteT (h2 rfl σ H' _ (o.ext s) fun H2 s2 => k H2 (s.trans s2))
  | false => exact iteF (k H' s))
theorem t_or {b c : Bool} (h1 : TV X H0 ds e1 b) (h2 : b = false → TV X H0 ds e2 c) : TV X H0 ds (.BoolOp .Or [e1, e2] pos) (b || c) := fun σ H Q o k => (PW.pt (pw_or pt_tw (pw_or1 pt_tw))).tw (h1 σ H _ o fun H' s => by
  cases b with
  | true => exact iteT (k H' s)
  | false => exact iteF (h2 rfl σ H' _ (o.ext s) fun H2 s2 => k H2 (s.trans s2)))
theorem e_ifE {c : Expr} {b : Bool} {x y : α} (h : TV X H0 ds c b) (h1 : EV X H0 ds e1 x) (h2 : EV X H0 ds e2 y) : EV X H0 ds (.IfExp c e1 e2 pos) (if b then x else y) := fun σ H Q o k => (pe_ifExp pt_tw pe_tw pe_tw).tw (h σ H _ o fun H' s => by
  cases b with
  | true => exact iteT (h1 σ H' _ (o.ext s) fun v H2 s2 d2 => k v H2 (s.trans s2) d2)
  | false => exact iteF (h2 σ H' _ (o.ext s) fun v H2 s2 d2 => k v H2 (s.trans s2) d2))
theorem l_ifE {c : Expr} {b : Bool} {x y : List α} (h : TV X H0 ds c b) (h1 : EL X H0 ds e1 x) (h2 : EL X H0 ds e2 y) : EL X H0 ds (.IfExp c e1 e2 pos) (if b then x else y) := fun σ H Q o k => (pe_ifExp pt_tw pe_tw pe_tw).tw (h σ H _ o fun H' s => by
  cases b with
  | true => exact iteT (h1 σ H' _ (o.ext s) fun p H2 s2 n2 d2 => k p H2 (s.trans s2) (s.free n2) d2)
  | false => exact iteF (h2 σ H' _ (o.ext s) fun p H2 s2 n2 d2 => k p H2 (s.trans s2) (s.free n2) d2))

/-! ### places -/
theorem e_ixT {xs : List α} {n : Nat} {x : α} (ha : EV X H0 ds e1 xs) (hb : EV X H0 ds e2 n) (h : xs[n]? = some x) (hs : PlainIx e2 := by intro _ _; rfl) : EV X H0 ds (.Subscript e1 e2 pos) x := fun σ H Q o k =>
  (pe_ix ix_tup pe_tw pe_tw hs).tw (bin2 ha hb o fun v w H' s d1 d2 => by
    obtain ⟨p, vs, rfl, hp, d⟩ := d1
    obtain ⟨u, hu, du⟩ := d.at' h
    exact ⟨p, vs, _, u, rfl, d2, .of hp, atI_nat hu, k u H' s du⟩)
theorem e_ixL {xs : List α} {n : Nat} {x : α} (ha : EB X H0 ds e1 xs) (hb : EV X H0 ds e2 n) (h : xs[n]? = some x) (hs : PlainIx e2 := by intro _ _; rfl) : EV X H0 ds (.Subscript e1 e2 pos) x := fun σ H Q o k =>
  (pe_ix ix_list pe_tw pe_tw hs).tw (ha σ H _ o fun p H1 s1 d1 => hb σ H1 _ (o.ext s1) fun w H' s d2 => by
    obtain ⟨vs, hp, d⟩ := d1.same s
    obtain ⟨u, hu, du⟩ := d.at' h
    exact ⟨p, vs, _, u, rfl, d2, .of hp, atI_nat hu, k u H' (s1.trans s) du⟩)
theorem e_fst {z : α × β} (ha : EV X H0 ds e1 z) (hb : EV X H0 ds e2 (0 : Nat)) (hs : PlainIx e2 := by intro _ _; rfl) : EV X H0 ds (.Subscript e1 e2 pos) z.1 := fun σ H Q o k =>
  (pe_ix ix_tup pe_tw pe_tw hs).tw (bin2 ha hb o fun v w H' s d1 d2 => by
    obtain ⟨p, u, y, rfl, hp, du, dy⟩ := d1
    exact ⟨p, _, _, u, rfl, d2, .of hp, atI_nat (j := 0) rfl, k u H' s du⟩)
theorem e_snd {z : α × β} (ha : EV X H0 ds e1 z) (hb : EV X H0 ds e2 (1 : Nat)) (hs : PlainIx e2 := by intro _ _; rfl) : EV X H0 ds (.Subscript e1 e2 pos) z.2 := fun σ H Q o k =>
  (pe_ix ix_tup pe_tw pe_tw hs).tw (bin2 ha hb o fun v w H' s d1 d2 => by
    obtain ⟨p, u, y, rfl, hp, du, dy⟩ := d1
    exact ⟨p, _, _, y, rfl, d2, .of hp, atI_nat (j := 1) rfl, k y H' s dy⟩)

/-! ### argument lists, displays -/
theorem a_nil : AV X H0 ds [] [] := fun σ H Q o k => pa_nil.tw (k [] H (.refl H) trivial)
theorem a_im {es : List Expr} {as : List Sd} {a : α} (h : EV X H0 ds e a) (hr : AV X H0 ds es as) (hs : starEach (e :: es) X.env = (false, eval e X.env) :: starEach es X.env := by rfl) : AV X H0 ds (e :: es) (.im a :: as) := fun σ H Q o k =>
  (pa_cons pe_tw pa_tw hs).tw (h σ H _ o fun v H1 s1 d1 => hr σ H1 _ (o.ext s1) fun vs H2 s2 d2 => k (v :: vs) H2 (s1.trans s2) ⟨Dn.keep d1 (.of s2), d2⟩)
theorem a_rl {es : List Expr} {as : List Sd} {xs : List α} (h : EB X H0 ds e xs) (hr : AV X H0 ds es as) (hs : starEach (e :: es) X.env = (false, eval e X.env) :: starEach es X.env := by rfl) : AV X H0 ds (e :: es) (.rl xs :: as) := fun σ H Q o k =>
  (pa_cons pe_tw pa_tw hs).tw (h σ H _ o fun p H1 s1 d1 => hr σ H1 _ (o.ext s1) fun vs H2 s2 d2 => k (.ref p :: vs) H2 (s1.trans s2) ⟨⟨p, rfl, d1.same s2⟩, d2⟩)
theorem AV.one {σ : St} {H : Hp} {Q : List V → Hp → Prop} {a : α} (h : EV X H0 ds e a) (o : Ok H0 ds σ H) (k : ∀ v H', Same H H' → Dn.dn H' v a → Q [v] H') : tCons (tw X e) tNil σ H Q := h σ H _ o fun v H' s d => k v H' s d
theorem AV.oneL {σ : St} {H : Hp} {Q : List V → Hp → Prop} {xs : List α} (h : EB X H0 ds e xs) (o : Ok H0 ds σ H) (k : ∀ p H', Same H H' → LsAt H' p xs → Q [.ref p] H') : tCons (tw X e) tNil σ H Q := h σ H _ o fun p H' s d => k p H' s d
theorem e_pair {a : α} {b : β} {k : Nat} (h1 : EV X H0 ds e1 a) (h2 : EV X H0 ds e2 b) (hs1 : starEach [e1, e2] X.env = (false, eval e1 X.env) :: starEach [e2] X.env := by rfl) (hs2 : starEach [e2] X.env = (false, eval e2 X.env) :: starEach [] X.env := by rfl) :
    EV X H0 ds (.Tuple [e1, e2] k pos) (a, b) := fun σ H Q o kk =>
  (pe_tup (pa_cons pe_tw (pa_cons pe_tw pa_nil hs2) hs1)).tw (h1 σ H _ o fun v H1 s1 d1 => h2 σ H1 _ (o.ext s1) fun w H2 s2 d2 => ⟨by show 2 ≤ sizeLine; decide, fun p hp =>
    kk _ _ ((s1.trans s2).trans (same_new hp)) ⟨p, v, w, rfl, upd_same, Dn.keep d1 ((Kept.of s2).trans (.new hp)), Dn.keep d2 (.new hp)⟩⟩)
/-- () -/
theorem e_tup0 {k : Nat} : EV X H0 ds (.Tuple [] k pos) ([] : List α) := fun σ H Q o kk => (pe_tup pa_nil).tw ⟨Nat.zero_le _, fun p hp => kk _ _ (same_new hp) ⟨p, [], rfl, upd_same, .nil⟩⟩
/-- (a, b), a tuple of two of a kind -/
theorem e_tup2 {a b : α} {k : Nat} (h1 : EV X H0 ds e1 a) (h2 : EV X H0 ds e2 b) (hs1 : starEach [e1, e2] X.env = (false, eval e1 X.env) :: starEach [e2] X.env := by rfl) (hs2 : starEach [e2] X.env = (false, eval e2 X.env) :: starEach [] X.env := by rfl) :
    EV X H0 ds (.Tuple [e1, e2] k pos) [a, b] := fun σ H Q o kk =>
  (pe_tup (pa_cons pe_tw (pa_cons pe_tw pa_nil hs2) hs1)).tw (h1 σ H _ o fun v H1 s1 d1 => h2 σ H1 _ (o.ext s1) fun w H2 s2 d2 => ⟨by show 2 ≤ sizeLine; decide, fun p hp =>
    kk _ _ ((s1.trans s2).trans (same_new hp)) ⟨p, [v, w], rfl, upd_same, .cons (Dn.keep d1 ((Kept.of s2).trans (.new hp))) (.cons (Dn.keep d2 (.new hp)) .nil)⟩⟩)
theorem l_nil : EL X H0 ds (.List [] pos) ([] : List α) := fun σ H Q o kk => (pe_lst pa_nil).tw ⟨Nat.zero_le _, fun p hp => kk _ _ (same_new hp) hp ⟨[], upd_same, .nil⟩⟩
theorem l_one {a : α} (h1 : EV X H0 ds e a) (hs1 : starEach [e] X.env = (false, eval e X.env) :: starEach [] X.env := by rfl) : EL X H0 ds (.List [e] pos) [a] := fun σ H Q o kk =>
  (pe_lst (pa_cons pe_tw pa_nil hs1)).tw (h1 σ H _ o fun v H1 s1 d1 => ⟨by show 1 ≤ sizeLine; decide, fun p hp => kk _ _ (s1.trans (same_new hp)) (s1.free hp) ⟨[v], upd_same, .cons (Dn.keep d1 (.new hp)) .nil⟩⟩)
theorem l_cat {xs ys : List α} (h1 : EB X H0 ds e1 xs) (h2 : EB X H0 ds e2 ys) (hz : xs.length + ys.length ≤ sizeLine) : EL X H0 ds (.BinOp e1 .Add e2 pos) (xs ++ ys) := fun σ H Q o kk =>
  (pe_op op_cat pe_tw pe_tw).tw (bin2L h1 h2 o fun p q H' s ⟨vs, a1, a2⟩ ⟨ws, b1, b2⟩ => ⟨p, q, vs, ws, rfl, rfl, a1, b1, by rw [a2.len, b2.len]; exact hz, fun r hr =>
    kk _ _ (s.trans (same_new hr)) (s.free hr) ⟨vs ++ ws, upd_same, (a2.append b2).keep (.new hr)⟩⟩)
end
end L2.LX
/-! LE: enumerate(a tuple), walked. -/
namespace PySem
open Sem (wp)
theorem lx_enum_newB {v : Value} {o : Obj} {H : Heap → Prop} (B : Begins v o H) :
    Meets (Builtin.«enumerate.__new__» ⟨[.type "enumerate", v], []⟩) (fun _ R s => H s.heap ∧
      R (.ok (.ret (.ref (s.heap.push o).objs.size))) { s with heap := (s.heap.push o).push { cls := .type "enumerate", data := .fields #[.none, .bool false, .ref s.heap.objs.size, rawInt 0, .none, .none] } }) :=
  .of_wp fun prog w A R s h => by
    obtain ⟨hp, g, d, tk, os⟩ := s; obtain ⟨h1, h⟩ := h
    have hsub := sub_enumerate
    have q1 : ∀ {A' : Around} {E : Value → Shared → Prop} {Q : Value → Shared → Prop}, Q (.ref hp.objs.size) ⟨hp.push o, g, d, tk, os⟩ → wpAny (model prog w) A' (pyIter v) Q E ⟨hp, g, d, tk, os⟩ :=
      fun q => B.iter prog w _ _ ⟨hp, g, d, tk, os⟩ _ h1 q
    wp_walk using q1
    refine wpAny_stack_any fun st => wpAny_pure ?_
    split
    · rename_i c _ _ _ _ _
      cases (c == Value.type "enumerate")
      · wp_walk using q1
        exact ⟨_, rfl, h⟩
      · wp_walk using q1
        exact ⟨_, rfl, h⟩
    · wp_walk using q1
      exact ⟨_, rfl, h⟩
theorem lx_enum_tuple {prog : Program} {w : World} {A : Around} {E : Value → Shared → Prop} {s : Shared} {l : Addr} {items : Array Value} {Q : Value → Shared → Prop} (hL : s.heap.IsTuple l items)
    (h : ∀ h', IsEnum h' (s.heap.objs.size + 1) s.heap.objs.size 0 .none → h'.IsTupleIter s.heap.objs.size l 0 → h'.objs.size = s.heap.objs.size + 2 →
      (∀ b o, s.heap.get? b = some o → h'.get? b = some o) → Q (.ref (s.heap.objs.size + 1)) { s with heap := h' }) :
    wpAny (model prog w) A (call (.type "enumerate") [.ref l]) Q E s := by
  refine callType_new F.called_enumerate (by decide) (F.typeCall_enumerate_1 _) (F.newCall_enumerate_1 _) (fun obj => F.args_object_init_2 obj _) F.entry_enumerate_new
    (lx_enum_newB (begins_tuple l items)) ⟨hL, ?_⟩
  have hz : (s.heap.push { cls := .type "tuple_iterator", data := .fields #[.ref l, .int 0 0] }).objs.size = s.heap.objs.size + 1 := Heap.size_push ..
  show _ ∧ _
  rw [hz]
  have he : IsEnum ((s.heap.push { cls := .type "tuple_iterator", data := .fields #[.ref l, .int 0 0] }).push
      { cls := .type "enumerate", data := .fields #[.none, .bool false, .ref s.heap.objs.size, rawInt 0, .none, .none] }) (s.heap.objs.size + 1) s.heap.objs.size 0 .none := by
    have := Heap.get?_push_size (s.heap.push { cls := .type "tuple_iterator", data := .fields #[.ref l, .int 0 0] })
      (o := { cls := .type "enumerate", data := .fields #[.none, .bool false, .ref s.heap.objs.size, rawInt 0, .none, .none] }) rfl
    rw [hz] at this; exact this
  refine ⟨⟨_, he, rfl⟩, h _ he ⟨_, Heap.get?_push_of_some _ (Heap.get?_push_size _ rfl), rfl, rfl⟩ (by rw [Heap.size_push, hz]) fun b o x => Heap.get?_push_of_some _ (Heap.get?_push_of_some _ x)⟩
end PySem
namespace L2.LX
open PySem PySem.Spec PyProof.Rows
/-- the tuple at a, each item in a new pair -/
def IteT (K : PySem.W.Frag) (a : Addr) : It :=
  ⟨fun i H => ∃ (xs : List V) (x : V), SqT K H a xs ∧ xs[i]? = some x, fun i H v H' => ∃ T x, v = .ref T ∧ H T = none ∧ H' = upd H T (.tup [.int (i : Nat), x]) ∧ ∀ xs, SqT K H a xs → xs[i]? = some x, fun i H => ∃ xs : List V, SqT K H a xs ∧ xs.length = i⟩
theorem turn_enumT {P : Program} {w : World} {K : PySem.W.Frag} {elts : List Expr} {kk : Nat} {tpos : Pos} (a e it : Addr) (items : Array Value) :
    Turn P w K (.Tuple elts kk tpos) (IteT K a) [e, it] e (fun i h => (∃ old, IsEnum h e it ((i : Nat) : Int) old) ∧ h.IsTupleIter it a i ∧ e ≠ it ∧ a ≠ it ∧ e ≠ a) where
  mem := by simp
  obj := fun i h st b hb => by
    obtain ⟨⟨old, he⟩, ⟨o, ho, hc, hd⟩, _⟩ := st
    have e' : b = e ∨ b = it := by simpa using hb
    rcases e' with z | z
    · rw [z]; exact ⟨_, he, fun v q => nomatch q⟩
    · rw [z]; exact ⟨o, ho, fun v q => by rw [hd] at q; cases q⟩
  keep := fun i h h' st k => let ⟨⟨old, he⟩, hi, hne⟩ := st; ⟨⟨old, k e (by simp) _ he⟩, hi.at fun o q => k it (by simp) o q, hne⟩
  item := by
    intro X hP hw hK hc i pins s σ H E I hf st hg
    subst hP hw hK
    obtain ⟨⟨old, he⟩, hit, hne, hai, hea⟩ := st
    obtain ⟨xs, x, hq, hx⟩ := hg
    obtain ⟨its, rv, p, hz⟩ := I.tuple hq
    obtain ⟨u, hu, ru⟩ := rv.get hx
    have hel : e < s.heap.objs.size := Heap.lt_size he
    have hil : it < s.heap.objs.size := by obtain ⟨_, q, _⟩ := hit; exact Heap.lt_size q
    have hsz' : i < its.toArray.size := by
      have := (List.getElem?_eq_some_iff.mp hu).1
      simpa using this
    have D := Draws.tuple (prog := X.prog) (w := X.w) (A := X.A.in1) (show X.A.in1.handled = none from I.ok.hd hc) it a hai its.toArray
    refine wpAny_pyNext_enum_itemD D he ⟨hit, p⟩ hsz' hne (by simp [hne, hea]) fun y h' tk hy ho hst' hT hsz hk => ?_
    obtain ⟨hit', _⟩ := hst'
    have hyu : y = u := by
      have e1 : its.toArray[i]? = some u := by simpa using hu
      rw [e1] at hy
      exact (Option.some.inj hy).symm
    subst hyu
    refine ⟨_, rfl, wpAny_letOwnedTupleGo_enum (s := { s with heap := h', toks := tk + 1 }) ho fun h'' he' sb => ?_⟩
    have hT2 : h''.get? s.heap.objs.size = some { cls := .type "tuple", data := .seq #[.int i tk, y] } := (sb.2 _ (Nat.ne_of_gt hel)).trans hT
    have new : ObjOk X.prog X.w (upd H s.heap.objs.size (.tup [.int (i : Nat), x])) h'' s.heap.objs.size (.tup [.int (i : Nat), x]) :=
      ⟨by show 2 ≤ sizeLine; decide, [.int i tk, y], .cons ⟨_, rfl⟩ (.cons ru .nil), ⟨_, hT2, rfl, _, rfl⟩⟩
    have I1 : Inv X pins σ (upd H s.heap.objs.size (.tup [.int (i : Nat), x])) { s with heap := h'', toks := tk + 1 } :=
      I.turnedNew (ch := [e, it]) (fun b ob hb q => (sb.2 b (fun z => hb (by simp [z]))).trans (hk b ob (fun z => hb (by simp [z])) (fun z => hb (by simp [z])) q)) hf (Nat.le_refl _) new
    refine ⟨.ref s.heap.objs.size, _, I1, rfl, ⟨_, x, rfl, I.hok.fresh (Nat.le_refl _), rfl, fun ys hy => by rw [I.tuple_inj hy hq]; exact hx⟩, ⟨⟨y, ?_⟩, hit'.at fun o q => (sb.2 it (Ne.symm hne)).trans q, hne, hai, hea⟩, fun b hb => ?_⟩
    · have e1 : ((i + 1 : Nat) : Int) = (i : Int) + 1 := by omega
      rw [e1]; exact he'
    · have hb' : b < s.heap.objs.size := by
        have e' : b = e ∨ b = it := by simpa using hb
        rcases e' with z | z
        · rw [z]; exact hel
        · rw [z]; exact hil
      rw [upd_ne (Nat.ne_of_lt hb')]
      exact (hf b hb).1
  done := by
    intro X hP hw hK hc i pins s σ H E I hf st hg
    subst hP hw hK
    obtain ⟨⟨old, he⟩, hit, hne, hai, hea⟩ := st
    obtain ⟨xs, hq, hx⟩ := hg
    obtain ⟨its, rv, p, hz⟩ := I.tuple hq
    obtain ⟨f0, f1, f2, f3, f4, f5⟩ := hf it (by simp)
    have hl := rv.length
    have D := Draws.tuple (prog := X.prog) (w := X.w) (A := X.A.in1) (show X.A.in1.handled = none from I.ok.hd hc) it a hai its.toArray
    have hit' : s.heap.IsTupleIter it a its.toArray.size := by
      have e1 : its.toArray.size = i := by rw [List.size_toArray, ← hl]; exact hx
      rw [e1]; exact hit
    exact wpAny_pyNext_enum_endD D he ⟨hit', p⟩ fun h' eb => ⟨rfl, I.turned (t' := s.toks) (fun b o hb q => eb b o hb q) f0 f1 f3 f4 f5⟩
  self := fun A i s Q E st h => let ⟨⟨_, he⟩, _⟩ := st; wpAny_pyIter_enum he h
theorem walk_enumT {K : PySem.W.Frag} {a : Addr} {xs : List V} : Walk (IteT K a) xs.length (fun H => SqT K H a xs) (YPair (fun i => some (.int (i : Nat))) (fun i => xs[i]?)) := by
  refine ⟨fun i _ hi q => ⟨xs, xs[i], q, by simp [hi]⟩, fun _ q => ⟨xs, q, rfl⟩, fun i H v H' _ q y => ?_⟩
  obtain ⟨T, x, h1, h2, h3, h4⟩ := y
  exact ⟨T, .int (i : Nat), x, h1, h2, h3, rfl, h4 xs q⟩
def iEnumT (K : PySem.W.Frag) (ta : TA) : TI := fun σ H R => ta σ H fun vs H1 => ∃ a xs, vs = [.ref a] ∧ SqT K H1 a xs ∧ (xs.length ≤ sizeLine → R (IteT K a) H1)
theorem pi_enumT {X : Cx} {e : Expr} {ta : TA} {p pos tpos : Pos} {elts : List Expr} {kk : Nat} (hg : Gl X "enumerate") (hm : X.mg "enumerate" = none) (ha : PA X [e] ta) (hs : starEach [e] X.env = [(false, eval e X.env)] := by rfl) :
    PI X (.Tuple elts kk tpos) (.Call (.Name "enumerate" p) [e] [] pos) (iEnumT X.K ta) := by
  refine ⟨fun pins s σ H R I h => ?_⟩
  refine Call_ (ld_blt I hg hm boot_enumerate (PyProof.Rows.callWith_type1 (thn (ha.run pos pins s σ H _ I h) fun us s1 ⟨vs, H1, I1, r1, q1⟩ => ?_) hs rfl))
  obtain ⟨a, xs, ex, hq, q⟩ := q1
  subst ex
  cases r1 with
  | cons r rr =>
    cases rr
    cases r
    obtain ⟨its, rv, p', hz⟩ := I1.tuple hq
    have hal : a < s1.heap.objs.size := p'.lt
    refine lx_enum_tuple p' fun h' he hit hsz hk => wpAny_pyIter_enum he ?_
    have I2 : Inv X pins σ H1 { s1 with heap := h' } := I1.kept (t' := s1.toks) hk
    refine ⟨s1.heap.objs.size + 1, [s1.heap.objs.size + 1, s1.heap.objs.size], _, _, H1, rfl, I2, turn_enumT a (s1.heap.objs.size + 1) s1.heap.objs.size its.toArray, ⟨⟨.none, he⟩, hit, Nat.succ_ne_self _, Nat.ne_of_lt hal, Nat.ne_of_gt (Nat.lt_succ_of_lt hal)⟩, fun b hb => ?_, q hz⟩
    have e' : b = s1.heap.objs.size + 1 ∨ b = s1.heap.objs.size := by simpa using hb
    have hle : s1.heap.objs.size ≤ b := by
      rcases e' with z | z
      · rw [z]; exact Nat.le_add_right _ _
      · rw [z]; exact Nat.le_refl _
    exact I1.fpOk hle (I1.hok.fresh hle)
end L2.LX
/-! LC: what is walked, comprehensions, calls, built-ins, statements. -/
namespace L2.LX
open PySem PySem.Spec PyProof.Rows
section
variable (X : Cx) (H0 : Hp) (ds : List Sd)
/-- what a loop walks: the items, as data -/
def IV {α : Type} [Dn α] (tg iter : Expr) (xs : List α) : Prop := ∀ σ H R, Ok H0 ds σ H →
  (∀ J H' G Y (q : Option Addr), Same H H' → xs.length ≤ sizeLine → L2.Walk J xs.length G Y → (∀ H2, (∀ a, q = some a → H2 a = H' a) → G H2) → (∀ a, q = some a → (H' a).isSome = true) →
    (∀ a, q = some a → ∀ (i : Nat) (d : Sd), ds[i]? = some d → d.own = true → σ[i]? ≠ some (some (.ref a))) →
    (∀ i Ha v Hb, i < xs.length → Kept H' Ha → Y i Ha v Hb → Same Ha Hb ∧ ∃ x, xs[i]? = some x ∧ Dn.dn Hb v x) → R J H') → twI X tg iter σ H R
/-- .. in a comprehension, where nothing is written -/
def IVc {α : Type} [Dn α] (tg iter : Expr) (xs : List α) : Prop := ∀ σ H R, Ok H0 ds σ H →
  (∀ J H' G Y (q : Option Addr), Same H H' → xs.length ≤ sizeLine → L2.Walk J xs.length G Y → (∀ H2, (∀ a, q = some a → H2 a = H' a) → G H2) → (∀ a, q = some a → (H' a).isSome = true) →
    (∀ i Ha v Hb, i < xs.length → Kept H' Ha → Y i Ha v Hb → Same Ha Hb ∧ ∃ x, xs[i]? = some x ∧ Dn.dn Hb v x) → R J H') → twI X tg iter σ H R
/-- a target: the slots that it sets -/
def GV {α : Type} [Dn α] (tg : Expr) (ts : List Nat) (up : α → List Sd → List Sd) : Prop := ∀ (H0 : Hp) (ds : List Sd) σ H v (x : α) (Q : St → Hp → Prop), Ok H0 ds σ H → Dn.dn H v x →
  (∀ σ', Ok H0 (up x ds) σ' H → (∀ vs : List Nat, (∀ t ∈ ts, t ∈ vs) → wipe σ' vs = wipe σ vs) → Q σ' H) → twG X tg v σ H Q
def TVs (ifs : List Expr) (b : Bool) : Prop := ∀ σ H Q, Ok H0 ds σ H → (∀ H', Same H H' → Q b H') → twTs X ifs σ H Q
end
theorem wipe_set {σ : St} {i : Nat} {u : Option V} : ∀ {vs : List Nat}, i ∈ vs → wipe (σ.set i u) vs = wipe σ vs
  | v :: vs, h => by
    unfold wipe
    by_cases e : i ∈ vs
    · rw [wipe_set e]
    · have e' : i = v := by
        rcases List.mem_cons.mp h with z | z
        · exact z
        · exact absurd z e
      subst e'
      have far : ∀ (σ : St) (vs : List Nat), i ∉ vs → wipe (σ.set i u) vs = (wipe σ vs).set i u := fun σ vs => by
        induction vs with
        | nil => intro _; rfl
        | cons w ws ih =>
          intro hn
          unfold wipe
          rw [ih (fun z => hn (List.mem_cons_of_mem _ z)), List.set_comm]
          intro z
          exact hn (by rw [z]; exact List.mem_cons_self)
      rw [far σ vs e, List.set_set]
theorem wipe_get (σ : St) : ∀ (vs : List Nat) (j : Nat), (wipe σ vs)[j]? = if j ∈ vs ∧ j < σ.length then some none else σ[j]?
  | [], j => by simp [wipe]
  | v :: vs, j => by
    have ih := wipe_get σ vs j
    have hl := wipe_length σ vs
    unfold wipe
    by_cases e : v = j
    · subst e
      by_cases h : v < σ.length
      · rw [List.getElem?_set_self (by omega)]
        simp [h]
      · rw [List.getElem?_eq_none (by rw [List.length_set]; omega), List.getElem?_eq_none (l := σ) (by omega)]
        simp only [List.mem_cons, true_or, true_and, if_neg h]
    · rw [List.getElem?_set_ne e, ih]
      have e' : ¬ j = v := fun z => e z.symm
      simp [e']
theorem wipe_wipe (σ : St) (vs : List Nat) : wipe (wipe σ vs) vs = wipe σ vs := by
  apply List.ext_getElem?
  intro j
  rw [wipe_get, wipe_length, wipe_get]
  split <;> rfl
def wipeD (ds : List Sd) : List Nat → List Sd
  | [] => ds
  | v :: vs => (wipeD ds vs).set v .any
theorem Ok.wipe {H0 H : Hp} {ds : List Sd} {σ : St} (o : Ok H0 ds σ H) : ∀ vs : List Nat, Ok H0 (wipeD ds vs) (L2.wipe σ vs) H
  | [] => o
  | v :: vs => (Ok.wipe o vs).setAny v none
section
variable {X : Cx} {H0 : Hp} {ds : List Sd} {α β : Type} [Dn α] [Dn β] {e e1 e2 tg : Expr} {pos : Pos}
theorem IV.c {tg iter : Expr} {xs : List α} (h : IV X H0 ds tg iter xs) : IVc X H0 ds tg iter xs := fun σ H R o k => h σ H R o fun J H' G Y q s1 hz w hG hs _ hY => k J H' G Y q s1 hz w hG hs hY
theorem ts_nil : TVs X H0 ds [] true := fun σ H Q o k => pts_nil.tw (k H (.refl H))
theorem ts_one {b : Bool} (h : TV X H0 ds e b) : TVs X H0 ds [e] b := fun σ H Q o k => (pts_one pt_tw).tw (h σ H _ o k)
theorem g_name (i : Nat) {x : Str} (hN : X.N.Nodup) (hi : X.N[i]? = some x := by rfl) (hx : Loc X.env.scope x := by first | exact Or.inl rfl | exact Or.inr rfl) (hf : X.fn x = true ∨ X.env.scope.names.lookup x = some .local := by first | exact .inl rfl | exact .inr rfl | assumption) : GV (α := α) X (.Name x pos) [i] (fun a ds => ds.set i (.im a)) :=
  fun H0 ds σ H v x Q o d k => (pg_name hN hi hx hf).tw (k _ (o.setIm i d) fun vs h => wipe_set (h i (by simp)))
theorem g_pair (i j : Nat) {x y : Str} {px py : Pos} {k : Nat} (hc : X.calm = true) (hN : X.N.Nodup) (hi : X.N[i]? = some x := by rfl) (hj : X.N[j]? = some y := by rfl) (hx : Loc X.env.scope x := by first | exact Or.inl rfl | exact Or.inr rfl) (hy : Loc X.env.scope y := by first | exact Or.inl rfl | exact Or.inr rfl)
    (hf : X.fn x = true ∨ X.env.scope.names.lookup x = some .local := by first | exact .inl rfl | exact .inr rfl | assumption) (hfy : X.fn y = true ∨ X.env.scope.names.lookup y = some .local := by first | exact .inl rfl | exact .inr rfl | assumption)
    (h1 : (assignEach [.Name x px, .Name y py] X.env).map (·.2) = assign (.Name x px) X.env :: (assignEach [.Name y py] X.env).map (·.2) := by rfl)
    (h2 : (assignEach [.Name y py] X.env).map (·.2) = assign (.Name y py) X.env :: (assignEach [] X.env).map (·.2) := by rfl)
    (hn : (assignEach [.Name x px, .Name y py] X.env).length = 2 := by rfl) (hst : (assignEach [.Name x px, .Name y py] X.env).findIdx? (·.1) = none := by rfl) :
    GV (α := α × β) X (.Tuple [.Name x px, .Name y py] k pos) [i, j] (fun z ds => (ds.set i (.im z.1)).set j (.im z.2)) :=
  fun H0 ds σ H v z Q o d kk => (pg_tup hc (pgs_cons (pg_name hN hi hx hf) (pgs_cons (pg_name hN hj hy hfy) pgs_nil h2) h1) hn hst).tw (by
    obtain ⟨p, u, w, rfl, hp, d1, d2⟩ := d
    refine ⟨p, _, rfl, .of hp, rfl, u, [w], rfl, w, [], rfl, rfl, kk _ ((o.setIm i d1).setIm j d2) fun vs h => ?_⟩
    rw [wipe_set (h j (by simp)), wipe_set (h i (by simp))])

/-! ### what is walked -/
def iListZ (K : PySem.W.Frag) (tl : TE) : TI := fun σ H R => tl σ H fun x H1 => ∃ a xs, x = .ref a ∧ SqL K H1 a xs ∧ (xs.length ≤ sizeLine → R (Itl K a) H1)
def iTupZ (K : PySem.W.Frag) (tl : TE) : TI := fun σ H R => tl σ H fun x H1 => ∃ a xs, x = .ref a ∧ SqT K H1 a xs ∧ (xs.length ≤ sizeLine → R (Itt K a) H1)
theorem pi_listZ {l : Expr} {tl : TE} (hl : PE X l tl) : PI X tg l (iListZ X.K tl) := by
  refine ⟨fun pins s σ H R I h => ?_⟩
  refine thn (hl.run pins s σ H _ I h) fun v s1 ⟨x, H1, I1, r1, q1⟩ => ?_
  obtain ⟨a, xs, e, hq, q⟩ := q1
  subst e
  cases r1
  obtain ⟨its, rv, p, hz⟩ := I1.list hq
  refine wpAny_pyIter_list p.isList ?_
  refine ⟨s1.heap.objs.size, [s1.heap.objs.size], _, _, H1, rfl, I1.kept (t' := s1.toks) fun b o e => Heap.get?_push_of_some _ e, turn_list a _, ⟨_, Heap.get?_push_size _ rfl, rfl, rfl⟩, fun b hb => ?_, q hz⟩
  have e : b = s1.heap.objs.size := by simpa using hb
  subst e
  exact I1.fpOk (Nat.le_refl _) (I1.hok.fresh (Nat.le_refl _))
theorem pi_tupZ {l : Expr} {tl : TE} (hl : PE X l tl) : PI X tg l (iTupZ X.K tl) := by
  refine ⟨fun pins s σ H R I h => ?_⟩
  refine thn (hl.run pins s σ H _ I h) fun v s1 ⟨x, H1, I1, r1, q1⟩ => ?_
  obtain ⟨a, xs, e, hq, q⟩ := q1
  subst e
  cases r1
  obtain ⟨its, rv, p, hz⟩ := I1.tuple hq
  refine wpAny_pyIter_tuple (show s1.heap.IsTuple a its.toArray from p) ?_
  refine ⟨s1.heap.objs.size, [s1.heap.objs.size], _, _, H1, rfl, I1.kept (t' := s1.toks) fun b o e => Heap.get?_push_of_some _ e, turn_tuple a _, ⟨_, Heap.get?_push_size _ rfl, rfl, rfl⟩, fun b hb => ?_, q hz⟩
  have e : b = s1.heap.objs.size := by simpa using hb
  subst e
  exact I1.fpOk (Nat.le_refl _) (I1.hok.fresh (Nat.le_refl _))
theorem own_lst {H : Hp} {σ : St} (o : Ok H0 ds σ H) {i : Nat} {d : Sd} (e : ds[i]? = some d) (w : d.own = true) : ∃ p u, σ[i]? = some (some (.ref p)) ∧ H p = some u ∧ Mu u :=
  sd_at o e (by cases d <;> first | rfl | cases w)
/-- a list just made -/
theorem i_new {xs : List α} (h : EL X H0 ds e xs) : IV X H0 ds tg e xs := fun σ H R o k => (pi_listZ pe_tw).tw (h σ H _ o fun p H' s n ⟨vs, h1, h2⟩ => ⟨p, vs, rfl, .of h1, fun hz => by
  have hl := h2.len
  refine k _ H' _ _ (some p) s (by omega) (hl ▸ walk_list (xs := vs)) (fun H2 z => .of ((z p rfl).trans h1)) (fun a z => by cases z; rw [h1]; rfl) (fun a z i d ed w q => ?_) (fun i Ha v Hb hi kp y => ?_)
  · cases z
    obtain ⟨r, ws, h3, h4, _⟩ := own_lst o ed w
    rw [h3] at q
    cases q
    rw [n] at h4
    cases h4
  · obtain ⟨rfl, hv⟩ := y
    obtain ⟨x, hx, dx⟩ := h2.at hv
    exact ⟨.refl _, x, hx, Dn.keep dx kp⟩⟩)
/-- a list in a slot that is read -/
theorem i_var {xs : List α} (i : Nat) (h : ds[i]? = some (.rl xs)) {x : Str} (hN : X.N[i]? = some x := by rfl) (hv : Vis X.env.scope x := by first | exact Or.inl rfl | exact Or.inr (Or.inl rfl) | exact Or.inr (Or.inr rfl)) (hd : (x == ("__debug__" : Str)) = false := by decide) (hcd : (x == ("__classdict__" : Str)) = false := by decide) :
    IV X H0 ds tg (.Name x pos) xs := fun σ H R o k => (pi_listZ (pe_var hN hv hd hcd)).tw (by
  obtain ⟨p, hp, vs, h1, h2⟩ := o.rl h
  refine ⟨_, hp, p, vs, rfl, .of h1, fun hz => ?_⟩
  have hl := h2.len
  refine k _ H _ _ (some p) (.refl H) (by omega) (hl ▸ walk_list (xs := vs)) (fun H2 z => .of ((z p rfl).trans h1)) (fun a z => by cases z; rw [h1]; rfl) (fun a z j d ed w q => ?_) (fun j Ha v Hb hi kp y => ?_)
  · cases z
    by_cases e : j = i
    · subst e
      rw [h] at ed
      cases ed
      cases w
    · exact o.sep j i d _ ed h w rfl e (q.trans hp.symm)
  · obtain ⟨rfl, hv⟩ := y
    obtain ⟨x, hx, dx⟩ := h2.at hv
    exact ⟨.refl _, x, hx, Dn.keep dx kp⟩)
/-- a list in a slot, own or read, for a comprehension -/
theorem i_own {xs : List α} (i : Nat) (h : ds[i]? = some (.ls xs) ∨ ds[i]? = some (.rl xs)) {x : Str} (hN : X.N[i]? = some x := by rfl) (hv : Vis X.env.scope x := by first | exact Or.inl rfl | exact Or.inr (Or.inl rfl) | exact Or.inr (Or.inr rfl)) (hd : (x == ("__debug__" : Str)) = false := by decide) (hcd : (x == ("__classdict__" : Str)) = false := by decide) :
    IVc X H0 ds tg (.Name x pos) xs := fun σ H R o k => (pi_listZ (pe_var hN hv hd hcd)).tw (by
  obtain ⟨p, hp, vs, h1, h2⟩ : ∃ p, σ[i]? = some (some (.ref p)) ∧ LsAt H p xs := by
    rcases h with h | h
    · obtain ⟨p, hp, l, _⟩ := o.ls h; exact ⟨p, hp, l⟩
    · exact o.rl h
  refine ⟨_, hp, p, vs, rfl, .of h1, fun hz => ?_⟩
  have hl := h2.len
  refine k _ H _ _ (some p) (.refl H) (by omega) (hl ▸ walk_list (xs := vs)) (fun H2 z => .of ((z p rfl).trans h1)) (fun a z => by cases z; rw [h1]; rfl) (fun j Ha v Hb hi kp y => ?_)
  obtain ⟨rfl, hv⟩ := y
  obtain ⟨x, hx, dx⟩ := h2.at hv
  exact ⟨.refl _, x, hx, Dn.keep dx kp⟩)
theorem not_own_tup {H : Hp} {σ : St} (o : Ok H0 ds σ H) {p : Addr} {vs : List V} {H' : Hp} (s : Same H H') (h1 : H' p = some (.tup vs)) : ∀ (i : Nat) (d : Sd), ds[i]? = some d → d.own = true → σ[i]? ≠ some (some (.ref p)) := fun i d ed w q => by
  obtain ⟨r, ws, h3, h4, mu⟩ := own_lst o ed w
  rw [h3] at q
  cases q
  rw [s _ _ h4] at h1
  injection h1 with h1
  subst h1
  exact mu
/-- a tuple -/
theorem i_tup {xs : List α} (h : EV X H0 ds e xs) : IV X H0 ds tg e xs := fun σ H R o k => (pi_tupZ pe_tw).tw (h σ H _ o fun v H' s d => by
  obtain ⟨p, vs, rfl, h1, h2⟩ := d
  refine ⟨p, vs, rfl, .of h1, fun hz => ?_⟩
  have hl := h2.len
  refine k _ H' _ _ (some p) s (by omega) (hl ▸ walk_tup (xs := vs)) (fun H2 z => .of ((z p rfl).trans h1)) (fun a z => by cases z; rw [h1]; rfl) (fun a z => by cases z; exact not_own_tup o s h1) (fun i Ha v Hb hi kp y => ?_)
  obtain ⟨rfl, hv⟩ := y
  obtain ⟨x, hx, dx⟩ := h2.at hv
  exact ⟨.refl _, x, hx, Dn.keep dx kp⟩)
/-- enumerate(a tuple) -/
def enumL (xs : List α) : List (Nat × α) := xs.zipIdx.map fun z => (z.2, z.1)
theorem enumL_at (xs : List α) (i : Nat) {x : α} (h : xs[i]? = some x) : (enumL xs)[i]? = some (i, x) := by
  simp [enumL, List.getElem?_zipIdx, h]
theorem enumL_len (xs : List α) : (enumL xs).length = xs.length := by simp [enumL]
theorem i_enum {xs : List α} {elts : List Expr} {kk : Nat} {tpos p : Pos} (hm : X.mg "enumerate" = none) (h : EV X H0 ds e xs) (hg : Gl X "enumerate" := by rfl) (hs : starEach [e] X.env = [(false, eval e X.env)] := by rfl) :
    IV X H0 ds (.Tuple elts kk tpos) (.Call (.Name "enumerate" p) [e] [] pos) (enumL xs) := fun σ H R o k => (pi_enumT hg hm (pa_cons pe_tw pa_nil (by rw [hs]; rfl)) hs).tw (h σ H _ o fun v H' s d => by
  obtain ⟨p, vs, rfl, h1, h2⟩ := d
  refine ⟨p, vs, rfl, .of h1, fun hz => ?_⟩
  have hl := h2.len
  have hl2 : (enumL xs).length = vs.length := by rw [enumL_len, hl]
  refine k _ H' _ _ (some p) s (by omega) (hl2 ▸ walk_enumT (xs := vs)) (fun H2 z => .of ((z p rfl).trans h1)) (fun a z => by cases z; rw [h1]; rfl) (fun a z => by cases z; exact not_own_tup o s h1) (fun i Ha v Hb hi kp y => ?_)
  obtain ⟨T, x, u, rfl, n, rfl, e1, e2⟩ := y
  cases e1
  obtain ⟨w, hw, dw⟩ := h2.at e2
  exact ⟨same_new n, (i, w), enumL_at xs i hw, T, _, u, rfl, upd_same, rfl, Dn.keep dw (kp.trans (.new n))⟩)
/-- range(n) -/
theorem i_rng {n : Nat} {p : Pos} (hm : X.mg "range" = none) (h : EV X H0 ds e n) (hz : n ≤ sizeLine) (hg : Gl X "range" := by rfl) (hs : starEach [e] X.env = [(false, eval e X.env)] := by rfl) :
    IV X H0 ds tg (.Call (.Name "range" p) [e] [] pos) (List.range n) := fun σ H R o k => (pi_range1 hg hm (pa_cons pe_tw pa_nil (by rw [hs]; rfl)) hs).tw (h σ H _ o fun v H' s d => by
  have hsz := sizeLine_eq
  refine ⟨(n : Int), by rw [show v = _ from d], by omega, by omega, ?_⟩
  have hn : (n : Int).toNat = n := by omega
  rw [hn]
  refine k _ H' _ _ none s (by rw [List.length_range]; omega) (by rw [List.length_range]; exact walk_range) (fun _ _ => trivial) (fun a z => nomatch z) (fun a z => nomatch z) (fun i Ha v Hb hi kp y => ?_)
  obtain ⟨rfl, rfl⟩ := y
  rw [List.length_range] at hi
  exact ⟨.refl _, i, by simp [hi], show _ = _ by simp⟩)
/-- range(m, n) -/
theorem i_rng2 {m n : Nat} {p : Pos} (hm : X.mg "range" = none) (h1 : EV X H0 ds e1 m) (h2 : EV X H0 ds e2 n) (hz1 : m ≤ sizeLine) (hz : n ≤ sizeLine) (hg : Gl X "range" := by rfl) (hs : starEach [e1, e2] X.env = [(false, eval e1 X.env), (false, eval e2 X.env)] := by rfl) (hs2 : starEach [e2] X.env = [(false, eval e2 X.env)] := by rfl) :
    IV X H0 ds tg (.Call (.Name "range" p) [e1, e2] [] pos) (List.range' m (n - m)) := fun σ H R o k => (pi_range2 hg hm (pa_cons pe_tw (pa_cons pe_tw pa_nil (by rw [hs2]; rfl)) (by rw [hs, hs2])) hs hs2).tw (h1 σ H _ o fun v H1 s1 d1 => h2 σ H1 _ (o.ext s1) fun w H' s d => by
  have hsz := sizeLine_eq
  refine ⟨(m : Int), (n : Int), by rw [show v = _ from d1, show w = _ from d], ⟨by omega, by omega, by omega, by omega⟩, ?_⟩
  have hn : ((n : Int) - (m : Int)).toNat = n - m := by omega
  rw [hn]
  refine k _ H' _ _ none (s1.trans s) (by rw [List.length_range']; omega) (by rw [List.length_range']; exact walk_range) (fun _ _ => trivial) (fun a z => nomatch z) (fun a z => nomatch z) (fun i Ha v Hb hi kp y => ?_)
  obtain ⟨rfl, rfl⟩ := y
  rw [List.length_range'] at hi
  exact ⟨.refl _, m + i, by simp [List.getElem?_range', hi], show _ = _ by simp⟩)

/-! ### comprehensions -/
variable {elt iter : Expr} {ifs : List Expr} {scope : Scope} {own : List (Str × Nat)}
structure CompOk (X : Cx) (H0 : Hp) (ds : List Sd) (elt tg iter : Expr) (ifs : List Expr) (scope : Scope) (own : List (Str × Nat)) (xs : List α) (p : α → Bool) (f : α → β) (ts : List Nat) (up : α → List Sd → List Sd) : Prop where
  iv : IVc X H0 ds tg iter xs
  ok : BlkOk X.N X.env.scope scope own
  hts : ∀ t ∈ ts, t ∈ own.map (·.2)
  tg : ∀ (s : Shared) (Hx : Hp) (C : Addr) (cl : List (Str × Addr)) (fp : List Addr), GV (X.blk s Hx scope (compEnvC scope cl C X.env) fp) tg ts up
  test : ∀ (s : Shared) (Hx : Hp) (C : Addr) (cl : List (Str × Addr)) (fp : List Addr) (x : α), x ∈ xs → TVs (X.blk s Hx scope (compEnvC scope cl C X.env) fp) H0 (up x (wipeD ds (own.map (·.2)))) ifs (p x)
  elt : ∀ (s : Shared) (Hx : Hp) (C : Addr) (cl : List (Str × Addr)) (fp : List Addr) (x : α), x ∈ xs → p x = true → EV (X.blk s Hx scope (compEnvC scope cl C X.env) fp) H0 (up x (wipeD ds (own.map (·.2)))) elt (f x)
def teB (X : Cx) (scope : Scope) (elt : Expr) : TE := fun σ H Q => ∀ (s : Shared) (Hx : Hp) (C : Addr) (cl : List (Str × Addr)) (fp : List Addr), tw (X.blk s Hx scope (compEnvC scope cl C X.env) fp) elt σ H Q
def ttB (X : Cx) (scope : Scope) (ifs : List Expr) : TT := fun σ H Q => ∀ (s : Shared) (Hx : Hp) (C : Addr) (cl : List (Str × Addr)) (fp : List Addr), twTs (X.blk s Hx scope (compEnvC scope cl C X.env) fp) ifs σ H Q
def tgB (X : Cx) (scope : Scope) (tg : Expr) : TG := fun v σ H Q => ∀ (s : Shared) (Hx : Hp) (C : Addr) (cl : List (Str × Addr)) (fp : List Addr), twG (X.blk s Hx scope (compEnvC scope cl C X.env) fp) tg v σ H Q
theorem pe_tB {s : Shared} {Hx : Hp} {C : Addr} {cl : List (Str × Addr)} {fp : List Addr} : PE (X.blk s Hx scope (compEnvC scope cl C X.env) fp) elt (teB X scope elt) := ⟨fun pins s' σ H Q I h => h s Hx C cl fp pins s' I⟩
theorem pts_tB {s : Shared} {Hx : Hp} {C : Addr} {cl : List (Str × Addr)} {fp : List Addr} : PTs (X.blk s Hx scope (compEnvC scope cl C X.env) fp) ifs (ttB X scope ifs) := ⟨fun pins s' σ H Q I h => h s Hx C cl fp pins s' I⟩
theorem pg_tB {s : Shared} {Hx : Hp} {C : Addr} {cl : List (Str × Addr)} {fp : List Addr} : PG (X.blk s Hx scope (compEnvC scope cl C X.env) fp) tg (tgB X scope tg) := ⟨fun pins s' σ H v u Q I r h => h s Hx C cl fp pins s' u I r⟩
theorem take_step {γ δ : Type} {xs : List γ} {i : Nat} {x : γ} (h : xs[i]? = some x) (p : γ → Bool) (f : γ → δ) : ((xs.take (i + 1)).filter p).map f = ((xs.take i).filter p).map f ++ (if p x = true then [f x] else []) := by
  rw [List.take_succ, h, List.filter_append, List.map_append]
  congr 1
  by_cases e : p x = true
  · simp [e]
  · simp [e]
theorem comp_read {xs : List α} {p : α → Bool} {f : α → β} {ts : List Nat} {up : α → List Sd → List Sd} (c : CompOk X H0 ds elt tg iter ifs scope own xs p f ts up) {σ : St} {H : Hp} {Q : VK} (o : Ok H0 ds σ H)
    (k : ∀ D H', Same H H' → H D = none → LsAt H' D ((xs.filter p).map f) → Q (.ref D) H') : tLc (twI X tg iter) (tgB X scope tg) (ttB X scope ifs) (teB X scope elt) (own.map (·.2)) σ H Q := by
  refine c.iv σ H _ o fun J H1 G Y q s1 hz w hG hsome hY D hD => ?_
  refine lc_it w (fun i Hc => Same H1 Hc ∧ LsAt Hc D (((xs.take i).filter p).map f)) ⟨same_new hD, [], upd_same, .nil⟩ (fun i Hc hi P => hG Hc fun a z => ?_) (fun i v Hc Hc' hi P y => ?_) (fun Hc P => ?_)
  · have h1 := hsome a z
    cases e : H1 a with
    | none => rw [e] at h1; cases h1
    | some u => exact P.1 a u e
  · obtain ⟨sy, x, hx, dx⟩ := hY i Hc v Hc' hi (.of P.1) y
    have hmem : x ∈ xs := List.mem_of_getElem? hx
    have ow := ((o.ext s1).ext (P.1.trans sy)).wipe (own.map (·.2))
    refine fun s' Hx C cl fp => c.tg s' Hx C cl fp H0 _ _ Hc' v x _ ow dx fun σ2 o2 hw => ⟨(hw _ c.hts).trans (wipe_wipe _ _), ?_⟩
    refine fun s' Hx C cl fp => c.test s' Hx C cl fp x hmem σ2 Hc' _ o2 fun H3 s3 => ?_
    have L3 : LsAt H3 D (((xs.take i).filter p).map f) := (P.2.same sy).same s3
    by_cases e : p x = true
    · rw [e]
      refine iteT ?_
      refine fun s' Hx C cl fp => c.elt s' Hx C cl fp x hmem e σ2 H3 _ (o2.ext s3) fun y H4 s4 dy => ?_
      obtain ⟨acc, a1, a2⟩ := L3.same s4
      refine ⟨acc, a1, ?_, fun b u z => ?_, acc ++ [y], upd_same, ?_⟩
      · have h1 := a2.len
        have h2 := List.length_filter_le p (xs.take i)
        have h3 := List.length_take_le i xs
        rw [List.length_map] at h1
        omega
      · rw [upd_ne (ne_of_none z hD)]
        exact s4 _ _ (s3 _ _ (sy _ _ (P.1 _ _ z)))
      · rw [take_step hx p f, if_pos e]
        exact (a2.append (Dns.one dy)).keep (.upd a1)
    · have e' : p x = false := by simpa using e
      rw [e']
      refine iteF ⟨((P.1.trans sy).trans s3), ?_⟩
      rw [take_step hx p f, if_neg e, List.append_nil]
      exact L3
  · have e : xs.take xs.length = xs := List.take_length
    rw [e] at P
    exact k D Hc (s1.trans P.1) (s1.free hD) P.2
theorem l_comp {xs : List α} {p : α → Bool} {f : α → β} {ts : List Nat} {up : α → List Sd → List Sd} (hc : X.calm = true) (hN : X.N.Nodup) (c : CompOk X H0 ds elt tg iter ifs scope own xs p f ts up) (hs : ∀ x, foldedSetIterable iter X.env x = pure x := by intro _; rfl) :
    EL X H0 ds (.ListComp elt [⟨tg, iter, ifs, 0⟩] scope pos) ((xs.filter p).map f) := fun σ H Q o k =>
  (pe_lc hc hN pi_tw c.ok (fun _ _ _ _ _ => pg_tB) (fun _ _ _ _ _ => pts_tB) (fun _ _ _ _ _ => pe_tB) hs).tw (comp_read c o k)
/-- .. [x for x in xs if p x] -/
theorem l_compF {xs : List α} {p : α → Bool} {ts : List Nat} {up : α → List Sd → List Sd} (hc : X.calm = true) (hN : X.N.Nodup) (c : CompOk X H0 ds elt tg iter ifs scope own xs p (fun x => x) ts up) (hs : ∀ x, foldedSetIterable iter X.env x = pure x := by intro _; rfl) :
    EL X H0 ds (.ListComp elt [⟨tg, iter, ifs, 0⟩] scope pos) (xs.filter p) := by
  have h := l_comp (pos := pos) hc hN c hs
  rw [List.map_id'] at h
  exact h
/-- .. [f x for x in xs] -/
theorem l_compM {xs : List α} {f : α → β} {ts : List Nat} {up : α → List Sd → List Sd} (hc : X.calm = true) (hN : X.N.Nodup) (c : CompOk X H0 ds elt tg iter ifs scope own xs (fun _ => true) f ts up) (hs : ∀ x, foldedSetIterable iter X.env x = pure x := by intro _; rfl) :
    EL X H0 ds (.ListComp elt [⟨tg, iter, ifs, 0⟩] scope pos) (xs.map f) := by
  have h := l_comp (pos := pos) hc hN c hs
  have e : xs.filter (fun _ => true) = xs := List.filter_eq_self.mpr fun _ _ => rfl
  rw [e] at h
  exact h
end
end L2.LX
/-! LD: calls, built-ins, statements, loops. -/
namespace L2.LX
open PySem PySem.Spec PyProof.Rows

/-! ### promises -/
/-- called with such arguments it hands back data, all else as it was -/
def spV {A β : Type} [Dn β] (args : A → List Sd) (pre : A → Prop) (f : A → β) : Sp := fun vs H Q _ => ∃ a, SdVs H vs (args a) ∧ pre a ∧ ∀ v H', Same H H' → Dn.dn H' v (f a) → Q v H'
/-- .. a new list -/
def spL {A β : Type} [Dn β] (args : A → List Sd) (pre : A → Prop) (f : A → List β) : Sp := fun vs H Q _ => ∃ a, SdVs H vs (args a) ∧ pre a ∧ ∀ p H', Same H H' → H p = none → LsAt H' p (f a) → Q (.ref p) H'
/-- .. None -/
def spN {A : Type} (args : A → List Sd) (pre : A → Prop) : Sp := fun vs H Q _ => ∃ a, SdVs H vs (args a) ∧ pre a ∧ ∀ H', Same H H' → Q .non H'
structure Has (P : Program) (w : World) (K : PySem.W.Frag) (mg : Str → Option Value) (base : Heap) (k : Nat) (x : Str) (ps : List Str) (sp : Sp) : Prop where
  ex : ∃ (f : Addr) (fd : FuncData), FnOk P w K mg base CX0 k f fd ps sp ∧ mg x = some (.ref f) ∧ PySem.W.keepIn K (.ref f) = true ∧ Binds K fd ps []
section
variable {X : Cx} {H0 : Hp} {ds : List Sd} {α β A : Type} [Dn α] [Dn β] {e e1 e2 tg : Expr} {es : List Expr} {pos p : Pos} {k : Nat} {x : Str} {ps : List Str} {args : A → List Sd} {pre : A → Prop}
theorem e_call {f : A → β} (h : Has X.prog X.w X.K X.mg X.base k x ps (spV args pre f)) (hr : Room k X.A) (a : A) (av : AV X H0 ds (e :: es) (args a)) (hp : pre a) (hg : Gl X x := by rfl) (hdb : (x == ("__debug__" : Str)) = false := by decide)
    (he : starEach (e :: es) X.env = (false, eval e X.env) :: starEach es X.env := by rfl) (hpl : (backTo pos (starEach es X.env)).any (·.1) = false := by rfl) : EV X H0 ds (.Call (.Name x p) (e :: es) [] pos) (f a) := fun σ H Q o kk => by
  obtain ⟨g, fd, G, hm, hk, hb⟩ := h.ex
  refine (pe_call G hr hg hm hk hb .nil pass0 pa_tw hdb he hpl).tw (av σ H _ o fun vs H' s q => ?_)
  rw [List.append_nil]
  exact ⟨a, q, hp, fun v H2 s2 d2 => kk v H2 (s.trans s2) d2⟩
theorem l_call {f : A → List β} (h : Has X.prog X.w X.K X.mg X.base k x ps (spL args pre f)) (hr : Room k X.A) (a : A) (av : AV X H0 ds (e :: es) (args a)) (hp : pre a) (hg : Gl X x := by rfl) (hdb : (x == ("__debug__" : Str)) = false := by decide)
    (he : starEach (e :: es) X.env = (false, eval e X.env) :: starEach es X.env := by rfl) (hpl : (backTo pos (starEach es X.env)).any (·.1) = false := by rfl) : EL X H0 ds (.Call (.Name x p) (e :: es) [] pos) (f a) := fun σ H Q o kk => by
  obtain ⟨g, fd, G, hm, hk, hb⟩ := h.ex
  refine (pe_call G hr hg hm hk hb .nil pass0 pa_tw hdb he hpl).tw (av σ H _ o fun vs H' s q => ?_)
  rw [List.append_nil]
  exact ⟨a, q, hp, fun r H2 s2 n2 d2 => kk r H2 (s.trans s2) (s.free n2) d2⟩

/-! ### built-ins -/
theorem e_lenL {xs : List α} (hm : X.mg "len" = none) (h : EB X H0 ds e xs) (hg : Gl X "len" := by rfl) (hs : starEach [e] X.env = (false, eval e X.env) :: starEach [] X.env := by rfl) (hpl : (backTo pos (starEach [] X.env)).any (·.1) = false := by rfl) : EV X H0 ds (.Call (.Name "len" p) [e] [] pos) xs.length := fun σ H Q o k =>
  (pe_callB call_len_seq hg hm PySem.boot_len (pa_cons pe_tw pa_nil hs) (by decide) (by decide) hs hpl).tw (h σ H _ o fun q H' s ⟨vs, h1, h2⟩ => ⟨q, vs, rfl, .inl (.of h1), k _ H' s (show _ = _ by rw [h2.len])⟩)
theorem e_lenT {xs : List α} (hm : X.mg "len" = none) (h : EV X H0 ds e xs) (hg : Gl X "len" := by rfl) (hs : starEach [e] X.env = (false, eval e X.env) :: starEach [] X.env := by rfl) (hpl : (backTo pos (starEach [] X.env)).any (·.1) = false := by rfl) : EV X H0 ds (.Call (.Name "len" p) [e] [] pos) xs.length := fun σ H Q o k =>
  (pe_callB call_len_seq hg hm PySem.boot_len (pa_cons pe_tw pa_nil hs) (by decide) (by decide) hs hpl).tw (h σ H _ o fun v H' s d => by
    obtain ⟨q, vs, rfl, h1, h2⟩ := d
    exact ⟨q, vs, rfl, .inr (.of h1), k _ H' s (show _ = _ by rw [h2.len])⟩)
theorem dnsB {H : Hp} {vs : List V} {bs : List Bool} (h : Dns H vs bs) : vs = bs.map V.bl := by
  induction h with
  | nil => rfl
  | cons r _ ih => rw [List.map_cons, ← ih, (show _ = _ from r)]
theorem dnsN {H : Hp} {vs : List V} {ns : List Nat} (h : Dns H vs ns) : vs = (ns.map (fun (n : Nat) => (n : Int))).map V.int := by
  induction h with
  | nil => rfl
  | cons r _ ih => rw [List.map_cons, List.map_cons, ← ih, (show _ = _ from r)]
theorem dns_ofN {H : Hp} (ns : List Nat) : Dns H ((ns.map (fun (n : Nat) => (n : Int))).map V.int) ns := by
  induction ns with
  | nil => exact .nil
  | cons n ns ih => exact .cons rfl ih
theorem boot_any' : bootBuiltins "any" = some (.builtin "any") := by decide +kernel
theorem boot_all' : bootBuiltins "all" = some (.builtin "all") := by decide +kernel
theorem boot_min' : bootBuiltins "min" = some (.builtin "min") := by decide +kernel
theorem boot_max' : bootBuiltins "max" = some (.builtin "max") := by decide +kernel
theorem boot_tuple' : bootBuiltins "tuple" = some (.type "tuple") := by decide +kernel
theorem boot_list' : bootBuiltins "list" = some (.type "list") := by decide +kernel
theorem boot_int' : bootBuiltins "int" = some (.type "int") := by decide +kernel
theorem boot_sorted' : bootBuiltins "sorted" = some (.builtin "sorted") := by decide +kernel
theorem boot_sum' : bootBuiltins "sum" = some (.builtin "sum") := by decide +kernel
theorem boot_set' : bootBuiltins "set" = some (.type "set") := by decide +kernel
section
variable (hs : starEach [e] X.env = (false, eval e X.env) :: starEach [] X.env := by rfl) (hpl : (backTo pos (starEach [] X.env)).any (·.1) = false := by rfl)
theorem e_any {bs : List Bool} (hm : X.mg "any" = none) (hc : X.calm = true) (h : EB X H0 ds e bs) (hg : Gl X "any" := by rfl) (hs : starEach [e] X.env = (false, eval e X.env) :: starEach [] X.env := by rfl) (hpl : (backTo pos (starEach [] X.env)).any (·.1) = false := by rfl) : EV X H0 ds (.Call (.Name "any" p) [e] [] pos) (bs.any id) := fun σ H Q o k =>
  (pe_callB (cr_any hc) hg hm boot_any' (pa_cons pe_tw pa_nil hs) (by decide) (by decide) hs hpl).tw (h σ H _ o fun q H' s ⟨vs, h1, h2⟩ => ⟨q, bs, rfl, by rw [dnsB h2] at h1; exact .of h1, k _ H' s rfl⟩)
theorem e_all {bs : List Bool} (hm : X.mg "all" = none) (hc : X.calm = true) (h : EB X H0 ds e bs) (hg : Gl X "all" := by rfl) (hs : starEach [e] X.env = (false, eval e X.env) :: starEach [] X.env := by rfl) (hpl : (backTo pos (starEach [] X.env)).any (·.1) = false := by rfl) : EV X H0 ds (.Call (.Name "all" p) [e] [] pos) (bs.all id) := fun σ H Q o k =>
  (pe_callB (cr_all hc) hg hm boot_all' (pa_cons pe_tw pa_nil hs) (by decide) (by decide) hs hpl).tw (h σ H _ o fun q H' s ⟨vs, h1, h2⟩ => ⟨q, bs, rfl, by rw [dnsB h2] at h1; exact .of h1, k _ H' s rfl⟩)
/-- tuple(a list) -/
theorem e_tuple {xs : List α} (hm : X.mg "tuple" = none) (h : EB X H0 ds e xs) (hg : Gl X "tuple" := by rfl) (hs : starEach [e] X.env = (false, eval e X.env) :: starEach [] X.env := by rfl) (hpl : (backTo pos (starEach [] X.env)).any (·.1) = false := by rfl) : EV X H0 ds (.Call (.Name "tuple" p) [e] [] pos) xs := fun σ H Q o k =>
  (pe_callTy call_tuple_of hg hm boot_tuple' (pa_cons pe_tw pa_nil hs) (by decide) (by decide) hs hpl).tw (h σ H _ o fun q H' s ⟨vs, h1, h2⟩ => ⟨q, vs, rfl, .inl ⟨.of h1, fun l hl =>
    k _ _ (s.trans (same_new hl)) ⟨l, vs, rfl, upd_same, h2.keep (.new hl)⟩⟩⟩)
/-- list(a tuple) -/
theorem l_list {xs : List α} (hm : X.mg "list" = none) (h : EV X H0 ds e xs) (hg : Gl X "list" := by rfl) (hs : starEach [e] X.env = (false, eval e X.env) :: starEach [] X.env := by rfl) (hpl : (backTo pos (starEach [] X.env)).any (·.1) = false := by rfl) : EL X H0 ds (.Call (.Name "list" p) [e] [] pos) xs := fun σ H Q o k =>
  (pe_callTy call_list_of hg hm boot_list' (pa_cons pe_tw pa_nil hs) (by decide) (by decide) hs hpl).tw (h σ H _ o fun v H' s d => by
    obtain ⟨q, vs, rfl, h1, h2⟩ := d
    exact ⟨q, vs, rfl, .inr (.of h1), fun l hl => k _ _ (s.trans (same_new hl)) (s.free hl) ⟨vs, upd_same, h2.keep (.new hl)⟩⟩)
/-- list(range(n)) -/
theorem l_range {n : Nat} {pr posr : Pos} (hc : X.calm = true) (hm : X.mg "list" = none) (hmr : X.mg "range" = none) (h : EV X H0 ds e n) (hz : n ≤ 16777216) (hg : Gl X "list" := by rfl) (hgr : Gl X "range" := by rfl)
    (hs : starEach [e] X.env = (false, eval e X.env) :: starEach [] X.env := by rfl)
    (na : starEach [.Call (.Name "range" pr) [e] [] posr] X.env = (false, eval (.Call (.Name "range" pr) [e] [] posr) X.env) :: starEach [] X.env := by rfl) : EL X H0 ds (.Call (.Name "list" p) [.Call (.Name "range" pr) [e] [] posr] [] pos) (List.range n) := fun σ H Q o k =>
  (pe_listRg hc hg hm (prg_1 hgr hmr pe_tw hs) na).tw (h σ H _ o fun v H' s d => by
    refine ⟨(n : Int), d, .of_le (by omega) (by omega) (by omega) (by omega), fun q hq => k _ _ (s.trans (same_new hq)) (s.free hq) ⟨_, upd_same, ?_⟩⟩
    have e1 : rgV 0 (n : Int) = ((List.range n).map (fun (n : Nat) => (n : Int))).map V.int := by
      unfold rgV
      rw [List.map_map]
      have e2 : ((n : Int) - 0).toNat = n := by omega
      rw [e2]
      refine List.map_congr_left fun i _ => ?_
      show V.int _ = V.int _
      rw [Int.zero_add]
    rw [e1]
    exact dns_ofN _)
/-- min, max of whole numbers -/
theorem e_minN {ns : List Nat} {m : Nat} (hm : X.mg "min" = none) (hc : X.calm = true) (h : EB X H0 ds e ns) (h0 : m ∈ ns) (h1 : ∀ y ∈ ns, m ≤ y) (hg : Gl X "min" := by rfl) (hs : starEach [e] X.env = (false, eval e X.env) :: starEach [] X.env := by rfl) (hpl : (backTo pos (starEach [] X.env)).any (·.1) = false := by rfl) : EV X H0 ds (.Call (.Name "min" p) [e] [] pos) m := fun σ H Q o k =>
  (pe_callB (cr_min hc) hg hm boot_min' (pa_cons pe_tw pa_nil hs) (by decide) (by decide) hs hpl).tw (h σ H _ o fun q H' s ⟨vs, g1, g2⟩ => ⟨q, _, rfl, by rw [dnsN g2] at g1; exact .of g1, by
    rw [List.length_map]; exact List.length_pos_of_mem h0, fun z hz hl => k _ H' s (show V.int z = V.int (m : Int) by
      obtain ⟨y, hy, rfl⟩ := List.mem_map.mp hz
      have a := h1 y hy
      have b := hl (m : Int) (List.mem_map.mpr ⟨m, h0, rfl⟩)
      congr 1
      omega)⟩)
theorem e_maxN {ns : List Nat} {m : Nat} (hm : X.mg "max" = none) (hc : X.calm = true) (h : EB X H0 ds e ns) (h0 : m ∈ ns) (h1 : ∀ y ∈ ns, y ≤ m) (hg : Gl X "max" := by rfl) (hs : starEach [e] X.env = (false, eval e X.env) :: starEach [] X.env := by rfl) (hpl : (backTo pos (starEach [] X.env)).any (·.1) = false := by rfl) : EV X H0 ds (.Call (.Name "max" p) [e] [] pos) m := fun σ H Q o k =>
  (pe_callB (cr_max hc) hg hm boot_max' (pa_cons pe_tw pa_nil hs) (by decide) (by decide) hs hpl).tw (h σ H _ o fun q H' s ⟨vs, g1, g2⟩ => ⟨q, _, rfl, by rw [dnsN g2] at g1; exact .of g1, by
    rw [List.length_map]; exact List.length_pos_of_mem h0, fun z hz hl => k _ H' s (show V.int z = V.int (m : Int) by
      obtain ⟨y, hy, rfl⟩ := List.mem_map.mp hz
      have a := h1 y hy
      have b := hl (m : Int) (List.mem_map.mpr ⟨m, h0, rfl⟩)
      congr 1
      omega)⟩)
end
/-- max(m, n) -/
theorem e_max2 {m n : Nat} (hm : X.mg "max" = none) (hc : X.calm = true) (h1 : EV X H0 ds e1 m) (h2 : EV X H0 ds e2 n) (hg : Gl X "max" := by rfl) (hs : starEach [e1, e2] X.env = (false, eval e1 X.env) :: starEach [e2] X.env := by rfl) (hs2 : starEach [e2] X.env = (false, eval e2 X.env) :: starEach [] X.env := by rfl) (hpl : (backTo pos (starEach [e2] X.env)).any (·.1) = false := by rfl) :
    EV X H0 ds (.Call (.Name "max" p) [e1, e2] [] pos) (max m n) := fun σ H Q o k =>
  (pe_callB (call_max2 hc) hg hm boot_max' (pa_cons pe_tw (pa_cons pe_tw pa_nil hs2) hs) (by decide) (by decide) hs hpl).tw (h1 σ H _ o fun v H1 s1 d1 => h2 σ H1 _ (o.ext s1) fun w H2 s2 d2 => by
    refine ⟨(m : Int), (n : Int), by rw [show v = _ from d1, show w = _ from d2], k _ H2 (s1.trans s2) (show V.int _ = V.int _ from ?_)⟩
    congr 1
    by_cases q : (n : Int) > (m : Int)
    · rw [if_pos q]; omega
    · rw [if_neg q]; omega)
end

/-! ### statements -/
def SS (X : Cx) (H0 : Hp) (ds : List Sd) (sts : List Stmt) (D : Ends) : Prop := ∀ σ H, Ok H0 ds σ H → twSs X sts D σ H
section
variable {X : Cx} {H0 : Hp} {ds : List Sd} {α β : Type} [Dn α] [Dn β] {e e1 e2 tg : Expr} {pos p : Pos} {D : Ends} {st : Stmt} {rest : List Stmt}
theorem s_nil (h : ∀ σ H, Ok H0 ds σ H → D.nx σ H) : SS X H0 ds [] D := fun σ H o => pss_nil.tw (h σ H o)
theorem s_cons (h : ∀ σ H, Ok H0 ds σ H → twS X st { D with nx := twSs X rest D } σ H) : SS X H0 ds (st :: rest) D := fun σ H o => (pss_cons ps_tw pss_tw).tw (h σ H o)
theorem s_weak {es : List Sd} (w : Wk ds es) (h : SS X H0 es rest D) : SS X H0 ds rest D := fun σ H o => h σ H (o.weak w)
theorem s_drop (i : Nat) (h : SS X H0 (ds.set i .any) rest D) : SS X H0 ds rest D := fun σ H o => h σ H (o.drop i)
theorem s_read (i : Nat) {xs : List α} (e : ds[i]? = some (.ls xs)) (h : SS X H0 (ds.set i (.rl xs)) rest D) : SS X H0 ds rest D := fun σ H o => h σ H (o.read e)
theorem s_set {a : α} (i : Nat) {x : Str} {pos' : Pos} (hN : X.N.Nodup) (he : EV X H0 ds e a) (h : SS X H0 (ds.set i (.im a)) rest D) (hi : X.N[i]? = some x := by rfl) (hx : Loc X.env.scope x := by first | exact Or.inl rfl | exact Or.inr rfl) (hs : swapsWith e (some (.Name x pos')) pos.line X.env = pure false := by rfl) (hf : X.fn x = true ∨ X.env.scope.names.lookup x = some .local := by first | exact .inl rfl | exact .inr rfl | assumption) :
    SS X H0 ds (.Assign [.Name x pos'] e pos :: rest) D := s_cons fun σ H o => (ps_set hN hi hx pe_tw hs hf).tw (he σ H _ o fun v H' s d => h _ H' ((o.ext s).setIm i d))
theorem s_setL {xs : List α} (i : Nat) {x : Str} {pos' : Pos} (hN : X.N.Nodup) (he : EL X H0 ds e xs) (h : SS X H0 (ds.set i (.ls xs)) rest D) (hi : X.N[i]? = some x := by rfl) (hx : Loc X.env.scope x := by first | exact Or.inl rfl | exact Or.inr rfl) (hs : swapsWith e (some (.Name x pos')) pos.line X.env = pure false := by rfl) (hf : X.fn x = true ∨ X.env.scope.names.lookup x = some .local := by first | exact .inl rfl | exact .inr rfl | assumption) :
    SS X H0 ds (.Assign [.Name x pos'] e pos :: rest) D := s_cons fun σ H o => (ps_set hN hi hx pe_tw hs hf).tw (he σ H _ o fun q H' s n d => h _ H' (o.setLs i s n d))
/-- y = x, x an own list that is not looked at again -/
theorem s_move {xs : List α} (i j : Nat) {x y : Str} {pos' py : Pos} (hN : X.N.Nodup) (hj : ds[j]? = some (.ls xs)) (hij : i ≠ j) (hil : i < ds.length) (h : SS X H0 ((ds.set j .any).set i (.ls xs)) rest D) (hi : X.N[i]? = some x := by rfl) (hx : Loc X.env.scope x := by first | exact Or.inl rfl | exact Or.inr rfl)
    (hy : X.N[j]? = some y := by rfl) (hv : Vis X.env.scope y := by first | exact Or.inl rfl | exact Or.inr (Or.inl rfl) | exact Or.inr (Or.inr rfl)) (hd : (y == ("__debug__" : Str)) = false := by decide) (hcd : (y == ("__classdict__" : Str)) = false := by decide)
    (hs : swapsWith (.Name y py) (some (.Name x pos')) pos.line X.env = pure false := by rfl) (hf : X.fn x = true ∨ X.env.scope.names.lookup x = some .local := by first | exact .inl rfl | exact .inr rfl | assumption) :
    SS X H0 ds (.Assign [.Name x pos'] (.Name y py) pos :: rest) D := s_cons fun σ H o => (ps_set hN hi hx (pe_var hy hv hd hcd) hs hf).tw (by
  obtain ⟨q, h1, o'⟩ := o.move hj hij hil
  exact ⟨_, h1, h _ H o'⟩)
theorem s_ret {a : α} (he : EV X H0 ds e a) (h : ∀ v H', Same H0 H' → Dn.dn H' v a → D.rt v H') : SS X H0 ds (.Return (some e) pos :: rest) D := s_cons fun σ H o => (ps_ret pe_tw).tw (he σ H _ o fun v H' s d => h v H' (o.same.trans s) d)
theorem s_retL {xs : List α} (he : EL X H0 ds e xs) (h : ∀ q H', Same H0 H' → H0 q = none → LsAt H' q xs → D.rt (.ref q) H') : SS X H0 ds (.Return (some e) pos :: rest) D := s_cons fun σ H o => (ps_ret pe_tw).tw (he σ H _ o fun q H' s n d => h q H' (o.same.trans s) (o.same.free n) d)
/-- return x, x an own list -/
theorem s_retV {xs : List α} (i : Nat) {x : Str} {px : Pos} (hi : ds[i]? = some (.ls xs)) (h : ∀ q H', Same H0 H' → H0 q = none → LsAt H' q xs → D.rt (.ref q) H') (hN : X.N[i]? = some x := by rfl) (hv : Vis X.env.scope x := by first | exact Or.inl rfl | exact Or.inr (Or.inl rfl) | exact Or.inr (Or.inr rfl)) (hd : (x == ("__debug__" : Str)) = false := by decide) (hcd : (x == ("__classdict__" : Str)) = false := by decide) :
    SS X H0 ds (.Return (some (.Name x px)) pos :: rest) D := s_cons fun σ H o => (ps_ret (pe_var hN hv hd hcd)).tw (by
  obtain ⟨q, h1, h2, h3⟩ := o.ls hi
  exact ⟨_, h1, h q H o.same h3 h2⟩)
theorem s_if {c : Expr} {b : Bool} {sa sb : List Stmt} (hc : TV X H0 ds c b) (h : SS X H0 ds (if b then sa else sb) { D with nx := twSs X rest D }) : SS X H0 ds (.If c sa sb pos :: rest) D := s_cons fun σ H o => (ps_if pt_tw pss_tw pss_tw).tw (hc σ H _ o fun H' s => by
  cases b with
  | true => exact iteT (h σ H' (o.ext s))
  | false => exact iteF (h σ H' (o.ext s)))
/-- behind the branch the rest -/
theorem s_join (h : SS X H0 ds rest D) : SS X H0 ds [] { D with nx := twSs X rest D } := s_nil fun σ H o => h σ H o
/-- x.append(e), x an own list -/
theorem s_app {xs : List α} {a : α} (i : Nat) {x : Str} {px apos cpos : Pos} (hi : ds[i]? = some (.ls xs)) (he : EV X H0 ds e a) (hz : xs.length < sizeLine) (h : SS X H0 (ds.set i (.ls (xs ++ [a]))) rest D) (hN : X.N[i]? = some x := by rfl) (hv : Vis X.env.scope x := by first | exact Or.inl rfl | exact Or.inr (Or.inl rfl) | exact Or.inr (Or.inr rfl)) (hd : (x == ("__debug__" : Str)) = false := by decide) (hcd : (x == ("__classdict__" : Str)) = false := by decide)
    (hs : swapsWith (.Call (.Attribute (.Name x px) "append" apos) [e] [] cpos) none pos.line X.env = pure false := by rfl) (hbase : attributeBase (.Name x px) "append" X.env (eval (.Name x px) X.env) = eval (.Name x px) X.env := by rfl)
    (hfew : ((backTo cpos (starEach [e] X.env)).all (fun x => !x.1) && (backToKw cpos (keywordEach [] X.env)).all (fun x => x.1.isSome) && decide ([e].length + ([] : List Keyword).length + (if ([] : List Keyword).isEmpty then 0 else 1) < 30)) = true := by rfl)
    (hline : (apos.endLine == cpos.line) = true := by rfl) (hst : starEach [e] X.env = (false, eval e X.env) :: starEach [] X.env := by rfl) (hplain : (backTo cpos (starEach [] X.env)).any (·.1) = false := by rfl) :
    SS X H0 ds (.Expr (.Call (.Attribute (.Name x px) "append" apos) [e] [] cpos) pos :: rest) D := s_cons fun σ H o =>
  (ps_expr (pe_bm PySem.F.plainAttrs_list PySem.F.slot_list_append PySem.F.type_list_append mt_append (pe_var hN hv hd hcd) (pa_cons pe_tw pa_nil hst) hbase hfew hline hst hplain) hs).tw (by
    obtain ⟨q, h1, ⟨vs, h2, h3⟩, h4⟩ := o.ls hi
    refine ⟨_, h1, .inl ⟨rfl, _, .of h2⟩, he σ H _ o fun v H' s d => ⟨q, vs, v, rfl, rfl, s _ _ h2, by rw [h3.len]; exact hz, ?_⟩⟩
    exact h _ _ ((o.ext s).write hi h1 ((h3.keep (.of s)).append (Dns.one d))))
/-- x.extend(e), x an own list, e a new one -/
theorem s_ext {xs ys : List α} (i : Nat) {x : Str} {px apos cpos : Pos} (hi : ds[i]? = some (.ls xs)) (he : EL X H0 ds e ys) (hz : xs.length + ys.length ≤ sizeLine) (h : SS X H0 (ds.set i (.ls (xs ++ ys))) rest D) (hN : X.N[i]? = some x := by rfl) (hv : Vis X.env.scope x := by first | exact Or.inl rfl | exact Or.inr (Or.inl rfl) | exact Or.inr (Or.inr rfl)) (hd : (x == ("__debug__" : Str)) = false := by decide) (hcd : (x == ("__classdict__" : Str)) = false := by decide)
    (hs : swapsWith (.Call (.Attribute (.Name x px) "extend" apos) [e] [] cpos) none pos.line X.env = pure false := by rfl) (hbase : attributeBase (.Name x px) "extend" X.env (eval (.Name x px) X.env) = eval (.Name x px) X.env := by rfl)
    (hfew : ((backTo cpos (starEach [e] X.env)).all (fun x => !x.1) && (backToKw cpos (keywordEach [] X.env)).all (fun x => x.1.isSome) && decide ([e].length + ([] : List Keyword).length + (if ([] : List Keyword).isEmpty then 0 else 1) < 30)) = true := by rfl)
    (hline : (apos.endLine == cpos.line) = true := by rfl) (hst : starEach [e] X.env = (false, eval e X.env) :: starEach [] X.env := by rfl) (hplain : (backTo cpos (starEach [] X.env)).any (·.1) = false := by rfl) :
    SS X H0 ds (.Expr (.Call (.Attribute (.Name x px) "extend" apos) [e] [] cpos) pos :: rest) D := s_cons fun σ H o =>
  (ps_expr (pe_bm PySem.F.plainAttrs_list PySem.F.slot_list_extend PySem.F.type_list_extend mt_extend (pe_var hN hv hd hcd) (pa_cons pe_tw pa_nil hst) hbase hfew hline hst hplain) hs).tw (by
    obtain ⟨q, h1, ⟨vs, h2, h3⟩, h4⟩ := o.ls hi
    refine ⟨_, h1, .inl ⟨rfl, _, .of h2⟩, he σ H _ o fun r H' s n d => ?_⟩
    obtain ⟨ws, g1, g2⟩ := d
    refine ⟨q, r, vs, ws, rfl, rfl, s _ _ h2, g1, by rw [h3.len, g2.len]; exact hz, ?_⟩
    exact h _ _ ((o.ext s).write hi h1 ((h3.keep (.of s)).append g2)))
/-- n += e -/
theorem s_augN {m n : Nat} (i : Nat) {x : Str} {px : Pos} (hN : X.N.Nodup) (hi : ds[i]? = some (.im m)) (he : EV X H0 ds e n) (h : SS X H0 (ds.set i (.im (m + n))) rest D) (hx1 : X.N[i]? = some x := by rfl) (hx : Loc X.env.scope x := by first | exact Or.inl rfl | exact Or.inr rfl) (hf : X.fn x = true ∨ X.env.scope.names.lookup x = some .local := by first | exact .inl rfl | exact .inr rfl | assumption) :
    SS X H0 ds (.AugAssign (.Name x px) .Add e pos :: rest) D := s_cons fun σ H o => (ps_aug hN hx1 hx pe_tw ip_add hf).tw (by
  obtain ⟨v, h1, h2⟩ := o.im hi
  refine ⟨v, h1, he σ H _ o fun w H' s d => ⟨(m : Int), (n : Int), h2, d, h _ H' ((o.ext s).setIm i (show V.int _ = V.int _ from ?_))⟩⟩
  rw [Int.natCast_add])
/-- name = [..] on one line, the name a local -/
theorem s_setLc {elt iter : Expr} {ifs : List Expr} {scope : Scope} {own : List (Str × Nat)} {xs : List α} {pr : α → Bool} {f : α → β} {ts : List Nat} {up : α → List Sd → List Sd} (i : Nat) {y : Str} {py spos : Pos} (hc : X.calm = true) (hN : X.N.Nodup)
    (c : CompOk X H0 ds elt tg iter ifs scope own xs pr f ts up) (h : SS X H0 (ds.set i (.ls ((xs.filter pr).map f))) rest D) (hy : X.N[i]? = some y := by rfl) (hyl : X.env.scope.names.lookup y = some .local := by rfl)
    (hsw : swapsWith (.ListComp elt [⟨tg, iter, ifs, 0⟩] scope pos) (some (.Name y py)) spos.line X.env = pure true := by exact sw_true rfl rfl rfl (by decide +kernel)) (hs : ∀ x, foldedSetIterable iter X.env x = pure x := by intro _; rfl) :
    SS X H0 ds (.Assign [.Name y py] (.ListComp elt [⟨tg, iter, ifs, 0⟩] scope pos) spos :: rest) D := s_cons fun σ H o =>
  (ps_setLc hc hN hy hyl hsw pi_tw c.ok (fun _ _ _ _ _ => pg_tB) (fun _ _ _ _ _ => pts_tB) (fun _ _ _ _ _ => pe_tB) hs).tw (comp_read c o fun q H' s n d => h _ H' (o.setLs i s n d))

/-! ### loops -/
theorem s_for {S : Type} {xs : List α} {ts : List Nat} {up : α → List Sd → List Sd} {iter : Expr} {body : List Stmt} (descs : S → List Sd) (step : S → α → S) (Good : Nat → S → Prop) (s0 : S) (hp : PassesOwn (model X.prog X.w) X.A X.env X.xe) (hc : X.calm = true)
    (w0 : Wk ds (descs s0)) (g0 : Good 0 s0) (iv : IV X H0 ds tg iter xs) (gv : GV X tg ts up)
    (hb : ∀ H1, Same H0 H1 → ∀ (i : Nat) s x, xs[i]? = some x → Good i s → Good (i + 1) (step s x) ∧ ∀ N bk, (∀ σ H, Ok H1 (descs (step s x)) σ H → N σ H) → SS X H1 (up x (descs s)) body { nx := N, rt := D.rt, bk := bk, ct := N })
    (after : Good xs.length (xs.foldl step s0) → SS X H0 (descs (xs.foldl step s0)) rest D) (hs : ∀ x, foldedSetIterable iter X.env x = pure x := by intro _; rfl) :
    SS X H0 ds (.For tg iter body [] pos :: rest) D := s_cons fun σ H o => (ps_for hp hc pi_tw pg_tw pss_tw hs).tw (iv σ H _ o fun J H' G Y q s1 hz w hG hsome hown hY => by
  obtain ⟨H1, sb, ob, up1⟩ := (o.ext s1).rebase
  have hq : ∀ a, q = some a → H1 a = H' a := fun a z => by
    have h1 := hsome a z
    cases e : H' a with
    | none => rw [e] at h1; cases h1
    | some u => exact up1 a u e (hown a z)
  have kpt : ∀ {Ha : Hp}, Same H1 Ha → Kept H' Ha := fun {Ha} s b => by
    refine ⟨fun vs e => s _ _ (up1 b _ e (not_own_tup o s1 e)), fun kvs e => s _ _ (up1 b _ e fun i d ed w2 z => ?_)⟩
    obtain ⟨r, ws, h3, h4, mu⟩ := own_lst o ed w2
    rw [h3] at z
    cases z
    rw [s1 _ _ h4] at e
    injection e with e
    subst e
    exact mu
  refine for_it w (fun i σ H => ∃ s, s = (xs.take i).foldl step s0 ∧ Good i s ∧ Ok H1 (descs s) σ H) ⟨s0, rfl, g0, ob.weak w0⟩ (fun i σ H hi P => ?_) (fun i v σ Ha Hb hi P y => ?_) (fun σ H P => ?_)
  · obtain ⟨s, _, _, oo⟩ := P
    refine hG H fun a z => ?_
    have h1 := hsome a z
    cases e : H' a with
    | none => rw [e] at h1; cases h1
    | some u => exact oo.same a u ((hq a z).trans e)
  · obtain ⟨s, hs, g, oo⟩ := P
    obtain ⟨sy, x, hx, dx⟩ := hY i Ha v Hb hi (kpt oo.same) y
    obtain ⟨g', run⟩ := hb H1 sb i s x hx g
    refine gv H1 _ σ Hb v x _ (oo.ext sy) dx fun σ2 o2 _ => run _ _ (fun σ3 H3 o3 => ⟨step s x, ?_, g', o3⟩) σ2 Hb o2
    rw [List.take_succ, hx, List.foldl_append, ← hs]
    rfl
  · obtain ⟨s, hs, g, oo⟩ := P
    rw [List.take_length] at hs
    subst hs
    exact after g σ H (oo.base sb))
theorem s_while {S : Type} {test : Expr} {body : List Stmt} (descs : S → List Sd) (Iv : S → Prop) (cond : S → Bool) (μ : S → Nat) (s0 : S) (hp : PassesOwn (model X.prog X.w) X.A X.env X.xe)
    (w0 : Wk ds (descs s0)) (i0 : Iv s0) (hc : ∀ s, Iv s → TV X H0 (descs s) test (cond s))
    (hb : ∀ s, Iv s → cond s = true → ∀ N bk, (∀ s', Iv s' → μ s' < μ s → ∀ σ H, Ok H0 (descs s') σ H → N σ H) → SS X H0 (descs s) body { nx := N, rt := D.rt, bk := bk, ct := N })
    (after : ∀ s, Iv s → cond s = false → SS X H0 (descs s) rest D) : SS X H0 ds (.While test body [] pos :: rest) D := s_cons fun σ H o => (ps_while hp pt_tw pss_tw).tw (by
  refine ⟨fun m σ H => ∃ s, m = μ s ∧ Iv s ∧ Ok H0 (descs s) σ H, ⟨_, s0, rfl, i0, o.weak w0⟩, ?_⟩
  rintro m σ H ⟨s, rfl, i, oo⟩
  refine hc s i σ H _ oo fun H' ss => ?_
  cases e : cond s with
  | true =>
    refine iteT ⟨fun σ' H' => ∃ m', m' < μ s ∧ ∃ s', m' = μ s' ∧ Iv s' ∧ Ok H0 (descs s') σ' H', fun σ' H' h => h, ?_⟩
    exact hb s i e _ _ (fun s' i' l σ2 H2 o2 => ⟨_, l, s', rfl, i', o2⟩) σ H' (oo.ext ss)
  | false => exact iteF (after s i e σ H' (oo.ext ss)))
end
end L2.LX
/-! LF: a def's promise by its body. -/
namespace L2.LX
open PySem PySem.Spec PyProof.Rows
def topS (i : Nat) : Stmt := PySem.Challenge.pw_lastholders_k76_whole_fewest_and_covers.main.body.getD i (.Pass ⟨0, 0, 0, 0⟩)
theorem SdVs.len : ∀ {H : Hp} {vs : List V} {as : List Sd}, SdVs H vs as → vs.length = as.length
  | _, [], [], _ => rfl
  | _, _ :: _, _ :: _, h => congrArg (· + 1) (SdVs.len h.2)
  | _, [], _ :: _, h => h.elim
  | _, _ :: _, [], h => h.elim
theorem SdVs.at : ∀ {H : Hp} {vs : List V} {as : List Sd} {i : Nat} {d : Sd}, SdVs H vs as → as[i]? = some d → ∃ v, vs[i]? = some v ∧ SdV H v d
  | _, _ :: _, _ :: _, 0, d, h, e => by simp at e; subst e; exact ⟨_, rfl, h.1⟩
  | _, _ :: _, _ :: _, i + 1, d, h, e => by
    obtain ⟨v, h1, h2⟩ := SdVs.at (i := i) h.2 (by simpa using e)
    exact ⟨v, by simpa using h1, h2⟩
  | _, [], [], _, _, _, e => by simp at e
  | _, [], _ :: _, _, _, h, _ => h.elim
  | _, _ :: _, [], _, _, h, _ => h.elim
theorem ok_start {H : Hp} {vs : List V} {as : List Sd} {N : List Str} (h : SdVs H vs as) (no : ∀ d ∈ as, d.own = false) (hl : as.length ≤ N.length) : Ok H (as ++ List.replicate (N.length - as.length) .any) (start N vs) H := by
  have hv := h.len
  have key : ∀ {i : Nat} {d : Sd}, (as ++ List.replicate (N.length - as.length) Sd.any)[i]? = some d → d = .any ∨ as[i]? = some d := fun {i d} e => by
    by_cases hi : i < as.length
    · rw [List.getElem?_append_left hi] at e
      exact .inr e
    · rw [List.getElem?_append_right (by omega)] at e
      exact .inl (List.mem_replicate.mp (List.mem_of_getElem? e)).2
  refine ⟨.refl H, ?_, fun i d e n => ?_, fun i d p e w _ => ?_, fun i j d f e1 _ w _ _ => ?_⟩
  · unfold start
    simp [hv]
  · rcases key e with z | e
    · exact absurd z n
    · obtain ⟨v, h1, h2⟩ := h.at e
      refine ⟨v, ?_, h2⟩
      unfold start
      have hi := (List.getElem?_eq_some_iff.mp h1).1
      rw [List.getElem?_append_left (by rw [List.length_map]; exact hi), List.getElem?_map, h1]
      rfl
  · rcases key e with z | e
    · subst z; cases w
    · rw [no d (List.mem_of_getElem? e)] at w; cases w
  · rcases key e1 with z | e
    · subst z; cases w
    · rw [no d (List.mem_of_getElem? e)] at w; cases w
section
variable {P : Program} {w : World} {K : PySem.W.Frag} {mg : Str → Option Value} {base : Heap} {x : Str} {st : Stmt} {N ps : List Str} {k : Nat} {A β : Type} [Dn β] {args : A → List Sd} {pre : A → Prop}
/-- a def as it stands behind the top -/
structure Def (K : PySem.W.Frag) (mg : Str → Option Value) (x : Str) (st : Stmt) (ps : List Str) : Prop where
  ex : ∃ (f : Addr) (fd : FuncData), L2.Fun K x x st f fd ∧ mg x = some (.ref f) ∧ Binds K fd ps []
theorem defV {fn : A → β} (D : Def K mg x st ps) (S : FnScope N ps (defScope st)) (hl : ∀ a, (args a).length = ps.length) (no : ∀ a, ∀ d ∈ args a, d.own = false) (hn : ps.length ≤ N.length)
    (body : ∀ (f : Addr) (cdv : Value) (Ar : Around) (outer : List Env) (s : Shared) (H : Hp) (E : XK) (a : A), Room k (Ar.deeper (envOfC x (defScope st) s.heap.objs.size f cdv)) → pre a → ∀ D : Ends, (∀ v H', Same H H' → Dn.dn H' v (fn a) → D.rt v H') →
      SS (cxOf CX0 P w K mg base N x (defScope st) f cdv Ar outer s H E).nox H (args a ++ List.replicate (N.length - ps.length) .any) (defBody st) D) :
    Has P w K mg base (k + 1) x ps (spV args pre fn) := by
  obtain ⟨f, fd, F, hm, hb⟩ := D.ex
  refine ⟨f, fd, F.ok S (fun vs H Q E h => ?_) (fun cdv Ar outer s H vs Q E hr h => ?_), hm, F.kp, hb⟩
  · obtain ⟨a, hv, _⟩ := h
    rw [hv.len, hl]
  · obtain ⟨a, hv, hp, kk⟩ := h
    have o := ok_start (N := N) hv (no a) (by rw [hl]; exact hn)
    rw [hl] at o
    exact ⟨_, pss_tw, body f cdv Ar outer s H E a hr hp { nx := fun _ H' => Q .non H', rt := Q } kk _ _ o⟩
theorem defL {fn : A → List β} (D : Def K mg x st ps) (S : FnScope N ps (defScope st)) (hl : ∀ a, (args a).length = ps.length) (no : ∀ a, ∀ d ∈ args a, d.own = false) (hn : ps.length ≤ N.length)
    (body : ∀ (f : Addr) (cdv : Value) (Ar : Around) (outer : List Env) (s : Shared) (H : Hp) (E : XK) (a : A), Room k (Ar.deeper (envOfC x (defScope st) s.heap.objs.size f cdv)) → pre a → ∀ D : Ends, (∀ p H', Same H H' → H p = none → LsAt H' p (fn a) → D.rt (.ref p) H') →
      SS (cxOf CX0 P w K mg base N x (defScope st) f cdv Ar outer s H E).nox H (args a ++ List.replicate (N.length - ps.length) .any) (defBody st) D) :
    Has P w K mg base (k + 1) x ps (spL args pre fn) := by
  obtain ⟨f, fd, F, hm, hb⟩ := D.ex
  refine ⟨f, fd, F.ok S (fun vs H Q E h => ?_) (fun cdv Ar outer s H vs Q E hr h => ?_), hm, F.kp, hb⟩
  · obtain ⟨a, hv, _⟩ := h
    rw [hv.len, hl]
  · obtain ⟨a, hv, hp, kk⟩ := h
    have o := ok_start (N := N) hv (no a) (by rw [hl]; exact hn)
    rw [hl] at o
    exact ⟨_, pss_tw, body f cdv Ar outer s H E a hr hp { nx := fun _ H' => Q .non H', rt := Q } kk _ _ o⟩
theorem defN (D : Def K mg x st ps) (S : FnScope N ps (defScope st)) (hl : ∀ a, (args a).length = ps.length) (no : ∀ a, ∀ d ∈ args a, d.own = false) (hn : ps.length ≤ N.length)
    (body : ∀ (f : Addr) (cdv : Value) (Ar : Around) (outer : List Env) (s : Shared) (H : Hp) (E : XK) (a : A), Room k (Ar.deeper (envOfC x (defScope st) s.heap.objs.size f cdv)) → pre a → ∀ D : Ends, (∀ σ H', Same H H' → D.nx σ H') →
      SS (cxOf CX0 P w K mg base N x (defScope st) f cdv Ar outer s H E).nox H (args a ++ List.replicate (N.length - ps.length) .any) (defBody st) D) :
    Has P w K mg base (k + 1) x ps (spN args pre) := by
  obtain ⟨f, fd, F, hm, hb⟩ := D.ex
  refine ⟨f, fd, F.ok S (fun vs H Q E h => ?_) (fun cdv Ar outer s H vs Q E hr h => ?_), hm, F.kp, hb⟩
  · obtain ⟨a, hv, _⟩ := h
    rw [hv.len, hl]
  · obtain ⟨a, hv, hp, kk⟩ := h
    have o := ok_start (N := N) hv (no a) (by rw [hl]; exact hn)
    rw [hl] at o
    exact ⟨_, pss_tw, body f cdv Ar outer s H E a hr hp { nx := fun _ H' => Q .non H', rt := Q } (fun _ H' s' => kk H' s') _ _ o⟩
end
/-- the built-in names that the text does not bind -/
structure Bt (mg : Str → Option Value) : Prop where
  len : mg "len" = none
  range : mg "range" = none
  any : mg "any" = none
  all : mg "all" = none
  sorted : mg "sorted" = none
  set : mg "set" = none
  tuple : mg "tuple" = none
  list : mg "list" = none
  min : mg "min" = none
  max : mg "max" = none
  sum : mg "sum" = none
  int : mg "int" = none
  enumerate : mg "enumerate" = none
  isinstance : mg "isinstance" = none
  bool : mg "bool" = none
end L2.LX
/-! LG: set(a list of whole numbers), sorted(set(..)). -/
namespace L2.LX
open PySem PySem.Spec PyProof.Rows
section
variable {P : Program} {w : World} {A : Around} {E : Value → Shared → Prop} {s : Shared}
/-- the empty set object that a call of set makes first -/
def set0 (w : World) : Obj := { cls := .type "set", dict := none, data := .set #[] 0 (.fresh 0 0 (!w.params.followText "set-order")) }
theorem set0_get (h : Heap) : (h.push (set0 w)).get? h.objs.size = some (set0 w) := Heap.get?_push_size _ rfl
/-- set.__init__ on that object and a list -/
theorem set_init_list {l : Addr} {its : Array Value} {ns : List Int} (hh : A.handled = none) (hl : s.heap.IsList l its) (hi : IntsAre its.toList ns) (hb : ns.length + 1 < scanBound) :
    wpAny (model P w) A.in1 (Builtin.«set.__init__» ⟨[.ref s.heap.objs.size, .ref l], []⟩)
      (fun f s2 => f = .done (.ret .none) ∧ ∃ h2 tk c, s2 = { s with heap := h2, toks := tk } ∧ SetR w h2 s.heap.objs.size (fun j => decide (j ∈ ns)) c ∧ c ≤ ns.length ∧ ∀ b o, s.heap.get? b = some o → h2.get? b = some o) E
      { s with heap := s.heap.push (set0 w) } := by
  have same : its.size = ns.length := by rw [← Array.length_toList]; exact IntsAre.length hi
  obtain ⟨⟨kc, kd, kdat, ksl⟩, at0, cl0, ep0, dat0⟩ := hl
  simp only at cl0 dat0
  subst cl0 dat0
  have below : l < s.heap.objs.size := Heap.lt_size at0
  have at1 := Heap.get?_push_of_some (set0 w) at0
  have isl : (s.heap.push (set0 w)).IsList l its := ⟨_, at1, rfl, ep0, rfl⟩
  have big : (s.heap.push (set0 w)).objs.size = s.heap.objs.size + 1 := Heap.size_push ..
  have no1 := F.sub_list_set
  have no2 := F.sub_list_frozenset
  have no3 : (Value.type "list" == Value.type "dict") = false := by decide
  unfold Builtin.«set.__init__» noKeywords Builtin.Frozenset.updateFrom
  generalize keep : pyIter = PI
  wp_walk
  subst keep
  refine wpAny_pyIter_list isl (wpAny_bind (wpAny_runValue ?_))
  have quiet : A.in1.in1.handled = none := by simp [hh]
  have tells : ∀ (i : Nat) (v : Value), its[i]? = some v → ∃ k t, ns[i]? = some k ∧ v = .int k t := fun i v hv => by
    have hi' : i < ns.length := same ▸ (Array.getElem?_eq_some_iff.mp hv).1
    obtain ⟨t, et⟩ := IntsAre.int_at hi i v (by rw [Array.getElem?_toList]; exact hv)
    rw [List.getD_eq_getElem?_getD, List.getElem?_eq_getElem hi'] at et
    exact ⟨ns[i], t, List.getElem?_eq_getElem hi', et⟩
  refine set_update_ints ((Walks.list quiet (s.heap.push (set0 w)).objs.size l (by rw [big]; exact Nat.ne_of_lt (Nat.lt_succ_of_lt below)) its).toS) s.heap.objs.size (fun z => ?_) ns same hb tells its.size 0 _ (Nat.sub_zero _) (Nat.zero_le _) ?_ ?_ fun s3 c mv few R => ?_
  · rw [big] at z
    rcases List.mem_cons.mp z with z | z
    · exact absurd z (Nat.ne_of_lt (Nat.lt_succ_self _))
    · exact absurd (List.mem_singleton.mp z) (Nat.ne_of_gt below)
  · exact ⟨⟨_, Heap.get?_push_size _ rfl, rfl, rfl⟩, isl.push _⟩
  · exact ⟨0, Nat.le_refl 0, setR_new_at (show _ = some (set0 w) from Heap.get?_push_of_some _ (set0_get s.heap))⟩
  · obtain ⟨h3, g3, d3, t3, o3⟩ := s3
    obtain rfl : g3 = s.gens := mv.gens
    obtain rfl : d3 = s.drawn := mv.drawn
    obtain rfl : o3 = s.os := mv.os
    refine wpAny_pure ?_
    show wpAny _ _ (ret Value.none) _ _ _
    refine wpAny_pure ⟨rfl, h3, t3, c, rfl, R, same ▸ few, fun b o q => ?_⟩
    have lo : b < s.heap.objs.size := Heap.lt_size q
    refine mv.heap b o (fun z => ?_) (Heap.get?_push_of_some _ (Heap.get?_push_of_some _ q))
    rcases List.mem_cons.mp z with z | z
    · exact absurd z (Nat.ne_of_lt lo)
    · rw [List.mem_singleton.mp z, big] at lo
      exact absurd lo (Nat.not_lt.mpr (Nat.le_succ _))
theorem set_of_list {l : Addr} {its : Array Value} {ns : List Int} {Q : Value → Shared → Prop} (hh : A.handled = none) (hl : s.heap.IsList l its) (hi : IntsAre its.toList ns) (hb : ns.length + 1 < scanBound)
    (h : ∀ (h2 : Heap) (tk c : Nat), SetR w h2 s.heap.objs.size (fun j => decide (j ∈ ns)) c → c ≤ ns.length → (∀ b o, s.heap.get? b = some o → h2.get? b = some o) → Q (.ref s.heap.objs.size) { s with heap := h2, toks := tk }) :
    wpAny (model P w) A (call (.type "set") [.ref l]) Q E s := by
  have t1 := F.called_set.notType
  have t2 := F.called_set.canCreate
  have t3 := F.called_set.made
  have t4 := F.called_set.sub
  have t5 := F.called_set.init.lookup
  have t6 := F.called_set.init.bind (.ref s.heap.objs.size)
  have t7 := F.typeCall_set_1 (.ref l)
  obtain ⟨k1, k2, t8⟩ := F.called_set.mro
  refine wpAny_call (codeAny_of_tree ?_)
  show wpAny _ _ (callAny (.type "set") _) _ _ _
  refine wpAny_pure ⟨Code.quiet_builtin _ (by decide +kernel), codeAny_builtin F.entry_type_call ?_⟩
  rw [Around.under_plain (weight_type_call_type "set" [.ref l] []) rfl]
  repeat (any_goals (first | assumption | wp_step))
  refine codeAny_mono (code_set_led1 (.ref l) (E := E) (Q₁ := fun v s1 => v = .ref s.heap.objs.size ∧ s1 = { s with heap := s.heap.push (set0 w) }) ⟨rfl, rfl⟩) fun r s1 hr => ?_
  rcases r with e | f
  · exact hr
  cases f with
  | ret v =>
    obtain ⟨rfl, rfl⟩ := hr
    have ty : Shared.TypeIs { s with heap := s.heap.push (set0 w) } (.ref s.heap.objs.size) "set" := ⟨_, set0_get s.heap, rfl⟩
    repeat (any_goals (first | assumption | wp_step))
    refine codeAny_mono (codeAny_call_builtin (R := wants (fun r s2 => r = .none ∧ ∃ h2 tk c, s2 = { s with heap := h2, toks := tk } ∧ SetR w h2 s.heap.objs.size (fun j => decide (j ∈ ns)) c ∧ c ≤ ns.length ∧ ∀ b o, s.heap.get? b = some o → h2.get? b = some o) E)
      F.called_set.init.plain F.entry_set_init (check_set_init_1 ty ?_)) fun r2 s2 hr2 => ?_
    · refine wpAny_mono (set_init_list (by simp [hh]) hl hi hb) (fun f s2 hf => ?_) fun _ _ z => z
      obtain ⟨rfl, q⟩ := hf
      exact ⟨rfl, q⟩
    · rcases r2 with e | f2
      · exact hr2
      cases f2 with
      | ret r =>
        obtain ⟨rfl, h2, tk, c, rfl, R, few, kp⟩ := hr2
        repeat (any_goals (first | assumption | wp_step))
        exact h _ _ _ R few kp
      | _ => exact hr2.elim
  | _ => exact hr.elim
end
end L2.LX
/-! LH: sorted of a list of tuples of whole numbers, the first of them perhaps (). -/
namespace PySem.W
open PySem PySem.SeqAt PySem.Calls PyProof.Rows
section
variable {prog : Program} {w : World} {A : Around} {E : Value → Shared → Prop} {s : Shared}
/-- what the sort asks of a value first, where the values are tuples: their first items, or none -/
theorem lx_firsts : ∀ (vs : List Value) (ds : List PyData), EachIs (fun v d => ∃ as, Reads s.heap v d as) vs ds → (∀ d ∈ ds, ∃ xs, d = .tuple xs) →
    ∃ fs : List (Option Value), (∀ r, ds = PyData.tuple [] :: r → ∃ fr, fs = none :: fr) ∧ ∀ {Q : List (Option Value) → Shared → Prop}, Q fs s → wpAny (model prog w) A (vs.mapM firstOfTuple') Q E s
  | _, _, .nil, _ => ⟨[], (fun _ z => nomatch z), fun h => by rw [List.mapM_nil]; exact wpAny_pure h⟩
  | v :: vs, d :: ds, .cons ⟨as, r⟩ t, ht => by
    obtain ⟨fs, _, h2⟩ := lx_firsts vs ds t fun d hd => ht d (List.mem_cons_of_mem _ hd)
    obtain ⟨xs, rfl⟩ := ht d List.mem_cons_self
    cases r with
    | @tuple a o its n _ _ h1 hc h3 h4 =>
      refine ⟨its[0]? :: fs, fun r z => ?_, fun {Q} h => ?_⟩
      · cases z
        have e : its = #[] := by
          have q := SeqAt.ReadsAll.length _ _ _ h4
          exact Array.eq_empty_of_size_eq_zero (by simpa using q)
        exact ⟨fs, by rw [e]; rfl⟩
      · rw [List.mapM_cons]
        refine wpAny_bind ?_
        rw [kas_first_eq]
        refine wpAny_bind (Looks.here (show Looks (model prog w) s.heap (typeOf (.ref a)) o.cls from (Looks.ld h1).andThen .now) ?_)
        rw [hc, if_neg (by first | decide | simp)]
        exact wpAny_bind (listItems_at h1 h3 (wpAny_pure (wpAny_bind (h2 (wpAny_pure h)))))
theorem lx_kind0 {vs : List Value} {ds : List PyData} {Q : SortKind → Shared → Prop} (e : EachIs (fun v d => ∃ as, Reads s.heap v d as) vs (.tuple [] :: ds)) (ht : ∀ d ∈ ds, ∃ xs, d = .tuple xs) (h : Q oneType' s) :
    wpAny (model prog w) A (keyKind' vs.toArray) Q E s := by
  have all : ∀ d ∈ PyData.tuple [] :: ds, ∃ xs, d = .tuple xs := fun d hd => by
    rcases List.mem_cons.mp hd with rfl | hd
    · exact ⟨[], rfl⟩
    · exact ht d hd
  obtain ⟨fs, f1, f2⟩ := lx_firsts (prog := prog) (w := w) (A := A) (E := E) vs _ e all
  obtain ⟨fr, rfl⟩ := f1 ds rfl
  rw [keyKind'_eq, List.mapM_toArray, map_eq_pure_bind]
  refine wpAny_bind (wpAny_bind (f2 (wpAny_pure ?_)))
  rw [if_neg (by simp), if_neg (by simp)]
  rw [oneTypeOnly'_eq, List.mapM_toArray, map_eq_pure_bind]
  have ty : ∀ v ∈ vs, Looks (model prog w) s.heap (typeOf v) (.type "tuple") := fun v hv => by
    obtain ⟨d, hd, as, r⟩ := e.left v hv
    obtain ⟨xs, rfl⟩ := all d hd
    exact looks_reads r
  have hl := e.length
  refine wpAny_bind (wpAny_bind (wpAny_bind (kas_mapM (r := Value.type "tuple") _ (fun v hv Q' hq => (ty v hv).here hq) (wpAny_pure ?_))))
  cases vs with
  | nil => cases hl
  | cons v vs =>
    have h0 : (List.map (fun _ => Value.type "tuple") (v :: vs)).toArray[0]? = some (Value.type "tuple") := by simp
    rw [h0]
    have hall : ((List.map (fun _ => Value.type "tuple") (v :: vs)).toArray.all fun x => x == Value.type "tuple") = true := by
      simp only [List.all_toArray, List.all_map, List.all_eq_true]
      intro _ _
      rfl
    simp only [hall, if_true]
    exact wpAny_pure (wpAny_pure h)
theorem lx_oneLt {xs ys : List PyData} {a b : Value} {as bs : List Addr} {Q : Bool → Shared → Prop} (ra : Reads s.heap a (.tuple xs) as) (rb : Reads s.heap b (.tuple ys) bs) (h : alike (.tuple xs) (.tuple ys) = true)
    (hu : A.units + min (PyData.tuple xs).depth (PyData.tuple ys).depth < cLine) (hq : Q (dataLt (.tuple xs) (.tuple ys)) s) : wpAny (model prog w) A (oneLt' true a b) Q E s := by
  have hal : alikeAll xs ys = true := by simpa [alike] using h
  cases ra with
  | @tuple l o vs n _ as₁ h1 h2 h3 h4 =>
    cases rb with
    | @tuple l' o' vs' n' _ bs₁ k1 k2 k3 k4 =>
      have n1 : vs.size = xs.length := by simpa using ReadsAll.length _ _ _ h4
      have n2 : vs'.size = ys.length := by simpa using ReadsAll.length _ _ _ k4
      rw [dataLt_tuple, ← firstLt_toks xs ys hal, ← n1, ← n2] at hq
      obtain ⟨ocls, odd, odata, osl⟩ := o
      obtain ⟨ocls', odd', odata', osl'⟩ := o'
      simp only at h2 h3 k2 k3
      subst h2 h3 k2 k3
      rw [oneLt'_eq]
      simp only [if_true]
      refine wpAny_bind (wpAny_cRoomFor (room_here hu) ?_)
      refine wpAny_bind (wpAny_callSpecialIfBound?_slot (T := "tuple") ⟨_, h1, rfl⟩ F.slot_tuple_lt (call_meets F.slot_tuple_lt ⟨_, h1, rfl⟩ F.entry_tuple_lt (F.args_tuple_lt_2 _ _)
        (tuple_ltAt l l' vs vs' n n' odd odd' osl osl' (pairEq xs ys) (fun j => dataLt (xs.getD j .none) (ys.getD j .none))) ⟨h1, k1, fun j j1 j2 => ?_, fun j j1 j2 hj => ?_, ?_⟩))
      · have := eqAt_alikeAll xs ys A.in1 s vs.toList vs'.toList _ _ h4 k4 hal (room_in hu) j (by simpa using j1) (by simpa using j2)
        simpa using this
      · have := rcLt_alikeAll xs ys A.in1 s vs.toList vs'.toList _ _ h4 k4 hal (room_in hu) j (by simpa using j1) (by simpa using j2) hj
        simpa using this
      · exact wpAny_truthy_bool hq
theorem lx_sorts0 {vs : List Value} {ds : List PyData} (e : EachIs (fun v d => ∃ as, Reads s.heap v d as) vs (.tuple [] :: ds)) (ht : ∀ d ∈ ds, ∃ xs, d = .tuple xs) (hal : AllAlike (.tuple [] :: ds)) (hu : ∀ d, d ∈ PyData.tuple [] :: ds → A.units + d.depth < cLine) :
    SortsAt prog w A s (dataKind s.heap (.tuple [] :: ds)) vs := by
  refine ⟨fun v hv => ?_, oneType', ?_, fun _ E Q hq => lx_kind0 e ht hq⟩
  · obtain ⟨d, hd, as, r⟩ := e.left v hv
    exact ⟨_, dataKind_some hal hd r⟩
  · intro E x y a b Q ha hb hq
    obtain ⟨d, as, hd, ra, rfl⟩ := dataKind_inv ha
    obtain ⟨d', as', hd', rb, rfl⟩ := dataKind_inv hb
    have tup : ∀ d ∈ PyData.tuple [] :: ds, ∃ xs, d = .tuple xs := fun d hd => by
      rcases List.mem_cons.mp hd with rfl | hd
      · exact ⟨[], rfl⟩
      · exact ht d hd
    obtain ⟨xs, rfl⟩ := tup d hd
    obtain ⟨ys, rfl⟩ := tup d' hd'
    rw [keyLt'_oneType]
    exact lx_oneLt ra rb (hal _ hd _ hd') (Nat.lt_of_le_of_lt (Nat.add_le_add_left (Nat.min_le_left _ _) _) (hu _ hd)) hq
/-- sorted(xs), the first item () -/
theorem lx_sorted0 {β : Type} {vs : List Value} {bs : List β} {enc : β → PyData} {R : Value → β → Prop} {l : Addr} {ds : List PyData} {Q : Value → Shared → Prop} (hl : s.heap.IsList l vs.toArray) (e : EachIs R vs bs) (er : EachIs (fun v b => ∃ as, Reads s.heap v (enc b) as) vs bs)
    (h0 : bs.map enc = .tuple [] :: ds) (ht : ∀ d ∈ ds, ∃ xs, d = .tuple xs) (hal : AllAlike (bs.map enc)) (hL : bs.length ≤ sizeLine) (hu : ∀ b, b ∈ bs → A.units + 2 + (enc b).depth < cLine)
    (h : ∀ out, out.length = bs.length → EachIs R out (bs.mergeSort (dataLe false enc)) → Q (.ref (s.heap.objs.size + 1)) { s with heap := sortedAll s.heap vs (List.toArray out) }) : wpAny (model prog w) A (call (.builtin "sorted") [.ref l]) Q E s := by
  have er' : EachIs (fun v b => ∃ as, Reads (sortingHeap (copyHeap s.heap vs) (s.heap.objs.size + 1) vs) v (enc b) as) vs bs := er.mono fun _ _ ⟨as, r⟩ => ⟨as, PyProof.Rows.Reads.keeps (fun _ _ => sorting_copy_old) r⟩
  have em := each_map (R := fun v d => ∃ as, Reads (sortingHeap (copyHeap s.heap vs) (s.heap.objs.size + 1) vs) v d as) enc er'
  have hb := bound_map (A := A.in1.in1) (enc := enc) (bs := bs) hu
  have S : SortsAt prog w A.in1.in1 { s with heap := sortingHeap (copyHeap s.heap vs) (s.heap.objs.size + 1) vs } (dataKind (sortingHeap (copyHeap s.heap vs) (s.heap.objs.size + 1) vs) (bs.map enc)) vs := by
    rw [h0] at em hb hal ⊢
    exact lx_sorts0 (s := { s with heap := sortingHeap (copyHeap s.heap vs) (s.heap.objs.size + 1) vs }) em ht hal hb
  exact sorted_vals hl S (by rw [e.length]; exact hL) (h _ (by rw [sortVals_length false rfl]; exact e.length) (sortVals_data false e er' hal))
end
end PySem.W
/-! LI: sorted, set, min, count, sum as rules over told slots. -/
namespace L2.LX
open PySem PySem.Spec PyProof.Rows PySem.W

/-! ### lists in order -/
theorem ints_same : ∀ (a b : List Int), a.Pairwise (· < ·) → b.Pairwise (· < ·) → (∀ k, k ∈ a ↔ k ∈ b) → a = b
  | [], [], _, _, _ => rfl
  | [], y :: ys, _, _, h => absurd ((h y).mpr List.mem_cons_self) (by simp)
  | x :: xs, [], _, _, h => absurd ((h x).mp List.mem_cons_self) (by simp)
  | x :: xs, y :: ys, ha, hb, h => by
    obtain ⟨a1, a2⟩ := List.pairwise_cons.mp ha
    obtain ⟨b1, b2⟩ := List.pairwise_cons.mp hb
    have e : x = y := by
      rcases List.mem_cons.mp ((h x).mp List.mem_cons_self) with z | z
      · exact z
      · rcases List.mem_cons.mp ((h y).mpr List.mem_cons_self) with u | u
        · exact u.symm
        · have := a1 y u
          have := b1 x z
          omega
    subst e
    rw [ints_same xs ys a2 b2 fun k => ?_]
    have hk := h k
    rw [List.mem_cons, List.mem_cons] at hk
    constructor
    · intro m
      rcases hk.mp (.inr m) with z | z
      · have := a1 k m
        omega
      · exact z
    · intro m
      rcases hk.mpr (.inr m) with z | z
      · have := b1 k m
        omega
      · exact z
/-- insertion by a less-than -/
def ins {α : Type} (lt : α → α → Bool) (x : α) : List α → List α
  | [] => [x]
  | y :: ys => if lt y x then y :: ins lt x ys else x :: y :: ys
def isort {α : Type} (lt : α → α → Bool) : List α → List α
  | [] => []
  | x :: xs => ins lt x (isort lt xs)
structure Lin {α : Type} (lt : α → α → Bool) : Prop where
  asym : ∀ a b, lt a b = true → lt b a = false
  tr : ∀ a b c, lt b a = false → lt c b = false → lt c a = false
  anti : ∀ a b, lt a b = false → lt b a = false → a = b
section
variable {α : Type} {lt : α → α → Bool}
theorem ins_perm (x : α) : ∀ l : List α, (ins lt x l).Perm (x :: l)
  | [] => .refl _
  | y :: ys => by
    unfold ins
    split
    · exact ((ins_perm x ys).cons y).trans (.swap x y ys)
    · exact .refl _
theorem isort_perm : ∀ l : List α, (isort lt l).Perm l
  | [] => .refl _
  | x :: xs => (ins_perm x _).trans ((isort_perm xs).cons x)
theorem ins_sorted (L : Lin lt) (x : α) : ∀ l : List α, l.Pairwise (fun a b => lt b a = false) → (ins lt x l).Pairwise (fun a b => lt b a = false)
  | [], _ => by unfold ins; exact List.pairwise_singleton _ _
  | y :: ys, h => by
    obtain ⟨h1, h2⟩ := List.pairwise_cons.mp h
    unfold ins
    split
    · rename_i e
      refine List.pairwise_cons.mpr ⟨fun z hz => ?_, ins_sorted L x ys h2⟩
      rcases List.mem_cons.mp ((ins_perm x ys).mem_iff.mp hz) with rfl | hz
      · exact L.asym _ _ e
      · exact h1 z hz
    · rename_i e
      have e' : lt y x = false := by simpa using e
      refine List.pairwise_cons.mpr ⟨fun z hz => ?_, h⟩
      rcases List.mem_cons.mp hz with rfl | hz
      · exact e'
      · exact L.tr x y z e' (h1 z hz)
theorem isort_sorted (L : Lin lt) : ∀ l : List α, (isort lt l).Pairwise (fun a b => lt b a = false)
  | [] => .nil
  | x :: xs => ins_sorted L x _ (isort_sorted L xs)
theorem sorted_same (L : Lin lt) : ∀ (a b : List α), a.Perm b → a.Pairwise (fun x y => lt y x = false) → b.Pairwise (fun x y => lt y x = false) → a = b
  | [], b, p, _, _ => (List.nil_perm.mp p).symm
  | x :: xs, [], p, _, _ => by have := p.length_eq; simp at this
  | x :: xs, y :: ys, p, ha, hb => by
    obtain ⟨a1, a2⟩ := List.pairwise_cons.mp ha
    obtain ⟨b1, b2⟩ := List.pairwise_cons.mp hb
    have e : x = y := by
      rcases List.mem_cons.mp (p.mem_iff.mp List.mem_cons_self) with z | z
      · exact z
      · rcases List.mem_cons.mp (p.mem_iff.mpr List.mem_cons_self) with u | u
        · exact u.symm
        · exact L.anti x y (b1 x z) (a1 y u)
    subst e
    rw [sorted_same L xs ys (List.Perm.cons_inv p) a2 b2]
theorem isort_is (L : Lin lt) {a b : List α} (p : a.Perm b) (h : a.Pairwise (fun x y => lt y x = false)) : a = isort lt b := sorted_same L _ _ (p.trans (isort_perm b).symm) h (isort_sorted L b)
end
/-- rows of whole numbers, the less first -/
def ltL : List Nat → List Nat → Bool
  | [], [] => false
  | [], _ :: _ => true
  | _ :: _, [] => false
  | x :: xs, y :: ys => if x == y then ltL xs ys else Nat.blt x y
theorem blt_iff (x y : Nat) : Nat.blt x y = decide (x < y) := by
  by_cases h : x < y
  · rw [decide_eq_true h]; exact Nat.blt_eq.mpr h
  · rw [decide_eq_false h]
    cases e : Nat.blt x y with
    | false => rfl
    | true => exact absurd (Nat.blt_eq.mp e) h
theorem ltL_asym : ∀ a b, ltL a b = true → ltL b a = false
  | [], [], h => by cases h
  | [], _ :: _, _ => rfl
  | _ :: _, [], h => by cases h
  | x :: xs, y :: ys, h => by
    unfold ltL at h ⊢
    by_cases e : x = y
    · subst e
      simp only [beq_self_eq_true, if_true] at h ⊢
      exact ltL_asym xs ys h
    · have e1 : (x == y) = false := beq_eq_false_iff_ne.mpr e
      have e2 : (y == x) = false := beq_eq_false_iff_ne.mpr (Ne.symm e)
      rw [e1] at h
      rw [e2]
      simp only [Bool.false_eq_true, if_false, blt_iff, decide_eq_true_eq] at h
      simp only [Bool.false_eq_true, if_false, blt_iff, decide_eq_false_iff_not]
      omega
theorem ltL_tr : ∀ a b c, ltL b a = false → ltL c b = false → ltL c a = false
  | [], _, [], _, _ => rfl
  | [], [], _ :: _, _, _ => rfl
  | [], _ :: _, _ :: _, _, _ => rfl
  | _ :: _, [], _, h, _ => by cases h
  | _ :: _, _ :: _, [], _, h => by cases h
  | x :: xs, y :: ys, z :: zs, h1, h2 => by
    unfold ltL at h1 h2 ⊢
    by_cases e1 : y = x
    · subst e1
      simp only [beq_self_eq_true, if_true] at h1
      by_cases e2 : z = y
      · subst e2
        simp only [beq_self_eq_true, if_true] at h2 ⊢
        exact ltL_tr xs ys zs h1 h2
      · rw [show (z == y) = false from beq_eq_false_iff_ne.mpr e2] at h2 ⊢
        exact h2
    · rw [show (y == x) = false from beq_eq_false_iff_ne.mpr e1] at h1
      simp only [Bool.false_eq_true, if_false, blt_iff, decide_eq_false_iff_not] at h1
      by_cases e2 : z = y
      · subst e2
        rw [show (z == x) = false from beq_eq_false_iff_ne.mpr e1]
        simp only [Bool.false_eq_true, if_false, blt_iff, decide_eq_false_iff_not]
        exact h1
      · rw [show (z == y) = false from beq_eq_false_iff_ne.mpr e2] at h2
        simp only [Bool.false_eq_true, if_false, blt_iff, decide_eq_false_iff_not] at h2
        rw [show (z == x) = false from beq_eq_false_iff_ne.mpr (by omega)]
        simp only [Bool.false_eq_true, if_false, blt_iff, decide_eq_false_iff_not]
        omega
theorem ltL_anti : ∀ a b, ltL a b = false → ltL b a = false → a = b
  | [], [], _, _ => rfl
  | [], _ :: _, h, _ => by cases h
  | _ :: _, [], _, h => by cases h
  | x :: xs, y :: ys, h1, h2 => by
    unfold ltL at h1 h2
    by_cases e : x = y
    · subst e
      simp only [beq_self_eq_true, if_true] at h1 h2
      rw [ltL_anti xs ys h1 h2]
    · rw [show (x == y) = false from beq_eq_false_iff_ne.mpr e] at h1
      rw [show (y == x) = false from beq_eq_false_iff_ne.mpr (Ne.symm e)] at h2
      simp only [Bool.false_eq_true, if_false, blt_iff, decide_eq_false_iff_not] at h1 h2
      omega
theorem lin_ltL : Lin ltL := ⟨ltL_asym, ltL_tr, ltL_anti⟩
theorem lin_nat : Lin Nat.blt := ⟨fun a b h => by rw [blt_iff] at h ⊢; simp at h ⊢; omega, fun a b c h1 h2 => by rw [blt_iff] at h1 h2 ⊢; simp at h1 h2 ⊢; omega, fun a b h1 h2 => by rw [blt_iff] at h1 h2; simp at h1 h2; omega⟩
/-- sorted rows -/
abbrev srt (l : List (List Nat)) : List (List Nat) := isort ltL l
abbrev srtN (l : List Nat) : List Nat := isort Nat.blt l

/-! ### data with an order -/
class Lo (α : Type) extends En α where
  lt : α → α → Bool
  alk : ∀ a b : α, alike (en a) (en b) = true
  is : ∀ a b : α, dataLt (en a) (en b) = lt a b
  nn : ∀ a : α, en a ≠ .none
instance : Lo Nat where
  lt a b := Nat.blt a b
  nn _ z := nomatch z
  alk _ _ := by simp [En.en, alike]
  is a b := by
    rw [blt_iff]
    show dataLt (.int _) (.int _) = _
    rw [dataLt_int]
    by_cases h : a < b
    · rw [decide_eq_true h, decide_eq_true (by omega)]
    · rw [decide_eq_false h, decide_eq_false (by omega)]
instance : Lo Int where
  lt a b := decide (a < b)
  nn _ z := nomatch z
  alk _ _ := by simp [En.en, alike]
  is a b := dataLt_int a b
theorem alike_rows : ∀ xs ys : List Nat, alikeAll (xs.map En.en) (ys.map En.en) = true
  | [], _ => by simp [alikeAll]
  | _ :: _, [] => by simp [alikeAll]
  | x :: xs, y :: ys => by
    rw [List.map_cons, List.map_cons, alikeAll, alike_rows xs ys]
    simp [En.en, alike]
theorem rowLt_N : ∀ xs ys : List Nat, rowLt (xs.map En.en) (ys.map En.en) = ltL xs ys
  | [], [] => lex_irrefl _
  | [], y :: ys => by
    unfold rowLt
    rw [List.map_cons, toks_all_cons]
    simp only [List.map_nil, keyToksAll]
    rw [lex_diff (O := itemOrd) (by simp)]
    rfl
  | x :: xs, [] => by
    unfold rowLt
    rw [List.map_cons, toks_all_cons]
    simp only [List.map_nil, keyToksAll]
    rw [lex_diff (O := itemOrd) (by simp)]
    rfl
  | x :: xs, y :: ys => by
    have ih := rowLt_N xs ys
    unfold rowLt at ih ⊢
    rw [List.map_cons, List.map_cons, dataLt_cons (Lo.alk x y), ih, Lo.is x y, En.eqv x y]
    rfl
instance : Lo (List Nat) where
  lt := ltL
  nn _ z := nomatch z
  alk xs ys := by
    show alike (.tuple _) (.tuple _) = true
    simp only [alike]
    exact alike_rows xs ys
  is xs ys := by
    show dataLt (.tuple _) (.tuple _) = _
    rw [dataLt_tuple]
    exact rowLt_N xs ys
instance {β : Type} [Lo β] : Lo (Int × β) where
  nn _ z := nomatch z
  lt a b := if a.1 == b.1 then Lo.lt a.2 b.2 else decide (a.1 < b.1)
  alk a b := by
    show alike (.tuple _) (.tuple _) = true
    simp [alike, alikeAll, Lo.alk, En.en]
  is a b := by
    show dataLt (.tuple [_, _]) (.tuple [_, _]) = _
    rw [dataLt_pair (Lo.alk a.1 b.1) (Lo.alk a.2 b.2), En.eqv, En.eqv, Lo.is, Lo.is]
    show (if (a.1 == b.1) = true then _ else _) = _
    by_cases h1 : (a.1 == b.1) = true
    · rw [if_pos h1, if_pos h1]
      by_cases h2 : En.bq a.2 b.2 = true
      · have e := (En.bqs a.2 b.2).mp h2
        rw [if_pos h2, e, ← Lo.is]
        unfold dataLt
        exact (lex_irrefl _).symm
      · rw [if_neg h2]
    · rw [if_neg h1, if_neg h1]
      rfl
end L2.LX
/-! LJ: sorted, set, min, count, sum, isinstance, stars over told slots. -/
namespace L2.LX
open PySem PySem.Spec PyProof.Rows PySem.W

/-! ### set, sorted(set) -/
def rSetOf (K : PySem.W.Frag) (w : World) : List V → Hp → VK → Prop := fun vs H Q => ∃ (a : Addr) (ns : List Int), vs = [V.ref a] ∧ (SqL K H a (ns.map V.int) ∨ SqT K H a (ns.map V.int)) ∧ ns.length ≤ 1000 ∧
  ∀ p c, H p = none → c ≤ ns.length → Q (.ref p) (upd H p (SetO w p (fun j => decide (j ∈ ns)) c))
theorem cr_setOf {X : Cx} (hc : X.calm = true) : CallR X (.type "set") (rSetOf X.K X.w) := by
  intro pins s σ H vs us Q I r h
  obtain ⟨a, ns, rfl, hs, hz, q⟩ := h
  rw [Vals.ref1 r]
  have hb : ns.length + 1 < scanBound := by unfold scanBound; omega
  have fin : ∀ (h2 : Heap) (tk c : Nat), SetR X.w h2 s.heap.objs.size (fun j => decide (j ∈ ns)) c → c ≤ ns.length → (∀ b o, s.heap.get? b = some o → h2.get? b = some o) → EP X pins σ Q (.ref s.heap.objs.size) { s with heap := h2, toks := tk } := fun h2 tk c R few kp =>
    ⟨.ref _, _, I.laid (t' := tk) kp (Nat.le_refl _) (setO_new R), rfl, q _ c (I.hok.fresh (Nat.le_refl _)) few⟩
  rcases hs with hs | hs
  · obtain ⟨its, rv, hl, _⟩ := I.list hs
    exact set_of_list (I.ok.hd hc) hl.isList rv.ints hb fin
  · obtain ⟨its, rv, hl, _⟩ := I.tuple hs
    exact call_set_tupI ns (I.ok.hd hc) hl rv.ints hb fin
/-- the things below 8 that are in a list, upward -/
def sset (l : List Nat) : List Nat := (List.range 8).filter fun t => l.contains t
theorem sset_mem {l : List Nat} (h : ∀ x ∈ l, x < 8) (k : Nat) : k ∈ sset l ↔ k ∈ l := by
  unfold sset
  rw [List.mem_filter, List.mem_range]
  constructor
  · intro q; simpa using q.2
  · intro q; exact ⟨h k q, by simpa using q⟩
theorem sset_sorted (l : List Nat) : (sset l).Pairwise (· < ·) := List.Pairwise.filter _ List.pairwise_lt_range
theorem sset_ints {l : List Nat} (h : ∀ x ∈ l, x < 8) (ns : List Int) (h1 : ns.Pairwise (· < ·)) (h2 : ∀ k : Int, k ∈ ns ↔ k ∈ l.map (fun (n : Nat) => (n : Int))) : ns = (sset l).map fun (n : Nat) => (n : Int) := by
  refine ints_same _ _ h1 (List.pairwise_map.mpr ((sset_sorted l).imp fun {a b} q => Int.ofNat_lt.mpr q)) fun k => ?_
  rw [h2 k, List.mem_map, List.mem_map]
  constructor
  · rintro ⟨n, m, e⟩; exact ⟨n, (sset_mem h n).mpr m, e⟩
  · rintro ⟨n, m, e⟩; exact ⟨n, (sset_mem h n).mp m, e⟩
section
variable {X : Cx} {H0 : Hp} {ds : List Sd} {e e1 e2 : Expr} {pos p pos2 p2 : Pos}
section
variable {α β : Type} [Dn α] [Dn β]
theorem EL.as {xs ys : List α} (h : EL X H0 ds e xs) (q : xs = ys) : EL X H0 ds e ys := q ▸ h
theorem EB.as {xs ys : List α} (h : EB X H0 ds e xs) (q : xs = ys) : EB X H0 ds e ys := q ▸ h
theorem TV.as {b c : Bool} (h : TV X H0 ds e b) (q : b = c) : TV X H0 ds e c := q ▸ h
end
theorem sset_read {l : List Nat} (h8 : ∀ x ∈ l, x < 8) (hc : X.calm = true) (hm1 : X.mg "sorted" = none) (hm2 : X.mg "set" = none) (hz : l.length ≤ 63)
    (hv : ∀ σ H (Q : V → Hp → Prop), Ok H0 ds σ H → (∀ a H', Same H H' → (SqL X.K H' a ((l.map (fun (n : Nat) => (n : Int))).map V.int) ∨ SqT X.K H' a ((l.map (fun (n : Nat) => (n : Int))).map V.int)) → Q (.ref a) H') → tw X e σ H Q)
    (hg1 : Gl X "sorted") (hg2 : Gl X "set") (hs2 : starEach [e] X.env = (false, eval e X.env) :: starEach [] X.env) (hs1 : starEach [.Call (.Name "set" p2) [e] [] pos2] X.env = (false, eval (.Call (.Name "set" p2) [e] [] pos2) X.env) :: starEach [] X.env)
    (hp1 : (backTo pos (starEach [] X.env)).any (·.1) = false) (hp2 : (backTo pos2 (starEach [] X.env)).any (·.1) = false) :
    EL X H0 ds (.Call (.Name "sorted" p) [.Call (.Name "set" p2) [e] [] pos2] [] pos) (sset l) := fun σ H Q o k =>
  (pe_callB (cr_sortedSet hc) hg1 hm1 boot_sorted' (pa_cons (pe_callTy (cr_setOf hc) hg2 hm2 boot_set' (pa_cons pe_tw pa_nil hs2) (by decide) (by decide) hs2 hp2) pa_nil hs1) (by decide) (by decide) hs1 hp1).tw (hv σ H _ o fun a H' s q => by
    refine ⟨a, _, rfl, q, by rw [List.length_map]; omega, fun r c hr few => ⟨r, _, c, rfl, upd_same, by rw [List.length_map] at few; omega, fun ns t h1 h2 h3 ht => ?_⟩⟩
    have e1 := sset_ints h8 ns h1 fun k => by rw [h2 k, decide_eq_true_eq]
    have nt : H' t = none := by
      by_cases z : t = r
      · rw [z]; exact hr
      · rw [upd_ne z] at ht; exact ht
    refine k t _ (s.trans ((same_new hr).trans (same_new ht))) (s.free nt) ⟨_, upd_same, ?_⟩
    rw [e1]
    exact dns_ofN _)
/-- sorted(set(a list)), sorted(set(a tuple)) of whole numbers below 8 -/
theorem l_ssetL {l : List Nat} (h8 : ∀ x ∈ l, x < 8) (hz : l.length ≤ 63) (hc : X.calm = true) (hm1 : X.mg "sorted" = none) (hm2 : X.mg "set" = none) (h : EB X H0 ds e l) (hg1 : Gl X "sorted" := by rfl) (hg2 : Gl X "set" := by rfl) (hs2 : starEach [e] X.env = (false, eval e X.env) :: starEach [] X.env := by rfl)
    (hs1 : starEach [.Call (.Name "set" p2) [e] [] pos2] X.env = (false, eval (.Call (.Name "set" p2) [e] [] pos2) X.env) :: starEach [] X.env := by rfl) (hp1 : (backTo pos (starEach [] X.env)).any (·.1) = false := by rfl) (hp2 : (backTo pos2 (starEach [] X.env)).any (·.1) = false := by rfl) :
    EL X H0 ds (.Call (.Name "sorted" p) [.Call (.Name "set" p2) [e] [] pos2] [] pos) (sset l) :=
  sset_read h8 hc hm1 hm2 hz (fun σ H Q o k => h σ H Q o fun a H' s ⟨vs, g1, g2⟩ => k a H' s (.inl (by rw [dnsN g2] at g1; exact .of g1))) hg1 hg2 hs2 hs1 hp1 hp2
theorem l_ssetT {l : List Nat} (h8 : ∀ x ∈ l, x < 8) (hz : l.length ≤ 63) (hc : X.calm = true) (hm1 : X.mg "sorted" = none) (hm2 : X.mg "set" = none) (h : EV X H0 ds e l) (hg1 : Gl X "sorted" := by rfl) (hg2 : Gl X "set" := by rfl) (hs2 : starEach [e] X.env = (false, eval e X.env) :: starEach [] X.env := by rfl)
    (hs1 : starEach [.Call (.Name "set" p2) [e] [] pos2] X.env = (false, eval (.Call (.Name "set" p2) [e] [] pos2) X.env) :: starEach [] X.env := by rfl) (hp1 : (backTo pos (starEach [] X.env)).any (·.1) = false := by rfl) (hp2 : (backTo pos2 (starEach [] X.env)).any (·.1) = false := by rfl) :
    EL X H0 ds (.Call (.Name "sorted" p) [.Call (.Name "set" p2) [e] [] pos2] [] pos) (sset l) :=
  sset_read h8 hc hm1 hm2 hz (fun σ H Q o k => h σ H Q o fun v H' s d => by
    obtain ⟨a, vs, rfl, g1, g2⟩ := d
    exact k a H' s (.inr (by rw [dnsN g2] at g1; exact .of g1))) hg1 hg2 hs2 hs1 hp1 hp2

/-! ### sorted -/
theorem vals_map : ∀ {vs : List V} {xs : List Nat} {H : Hp}, Dns H vs xs → vs = (xs.map fun (n : Nat) => (n : Int)).map V.int := fun h => dnsN h
/-- sorted(a list of whole numbers) -/
theorem l_sortN {l : List Nat} (hm : X.mg "sorted" = none) (h : EB X H0 ds e l) (hg : Gl X "sorted" := by rfl) (hs : starEach [e] X.env = (false, eval e X.env) :: starEach [] X.env := by rfl) (hpl : (backTo pos (starEach [] X.env)).any (·.1) = false := by rfl) : EL X H0 ds (.Call (.Name "sorted" p) [e] [] pos) (srtN l) := fun σ H Q o k =>
  (pe_callB cr_sortedI hg hm boot_sorted' (pa_cons pe_tw pa_nil hs) (by decide) (by decide) hs hpl).tw (h σ H _ o fun a H' s ⟨vs, g1, g2⟩ => ⟨a, _, rfl, by rw [dnsN g2] at g1; exact .of g1, fun ns r hp hw hr => by
    have e1 : ∀ z ∈ ns, ∃ n : Nat, z = (n : Int) := fun z hz => by
      obtain ⟨n, _, e⟩ := List.mem_map.mp (hp.mem_iff.mp hz)
      exact ⟨n, e.symm⟩
    have e2 : ns = (ns.map Int.toNat).map fun (n : Nat) => (n : Int) := by
      rw [List.map_map]
      conv => lhs; rw [← List.map_id ns]
      refine List.map_congr_left fun z hz => ?_
      obtain ⟨n, rfl⟩ := e1 z hz
      rfl
    have e3 : ns.map Int.toNat = srtN l := by
      refine isort_is lin_nat ?_ ?_
      · have q := hp.map Int.toNat
        rw [List.map_map] at q
        have : (l.map (Int.toNat ∘ fun (n : Nat) => (n : Int))) = l := by
          conv => rhs; rw [← List.map_id l]
          exact List.map_congr_left fun z _ => rfl
        rw [this] at q
        exact q
      · refine List.pairwise_map.mpr (hw.imp_of_mem fun {a b} ma mb hab => ?_)
        obtain ⟨m, rfl⟩ := e1 a ma
        obtain ⟨n, rfl⟩ := e1 b mb
        rw [blt_iff]
        exact decide_eq_false (by simp; omega)
    refine k r _ (s.trans (same_new hr)) (s.free hr) ⟨_, upd_same, ?_⟩
    rw [e2, e3]
    exact dns_ofN _⟩)
def RowV (H : Hp) (u : Value) (x : List Nat) : Prop := ∃ v, RelV v u ∧ Dn.dn H v x
theorem each_rows {H : Hp} : ∀ {vs : List V} {its : List Value} {xs : List (List Nat)}, Vals vs its → Dns H vs xs → EachIs (RowV H) its xs
  | _, _, _, .nil, .nil => .nil
  | _, _, _, .cons r t, .cons d q => .cons ⟨_, r, d⟩ (each_rows t q)
theorem rows_each {H : Hp} : ∀ {its : List Value} {xs : List (List Nat)}, EachIs (RowV H) its xs → ∃ vs, Vals vs its ∧ Dns H vs xs
  | _, _, .nil => ⟨[], .nil, .nil⟩
  | _, _, .cons ⟨v, r, d⟩ t => let ⟨vs, h1, h2⟩ := rows_each t; ⟨v :: vs, .cons r h1, .cons d h2⟩
theorem each_reads {pins : List (Addr × Obj)} {σ : St} {H : Hp} {s : Shared} (I : Inv X pins σ H s) : ∀ {its : List Value} {xs : List (List Nat)}, EachIs (RowV H) its xs → EachIs (fun v b => ∃ as, Reads s.heap v (En.en b) as) its xs
  | _, _, .nil => .nil
  | _, _, .cons ⟨v, r, d⟩ t => .cons (Dp.reads I _ _ _ (En.dp (K := X.K) d) r) (each_reads I t)
theorem dataLe_L : dataLe false (En.en (α := List Nat)) = fun p q => !ltL q p := by
  funext p q
  show (!dataLt (En.en q) (En.en p)) = _
  rw [Lo.is q p]
  rfl
theorem merge_srt (xs : List (List Nat)) : xs.mergeSort (dataLe false (En.en (α := List Nat))) = srt xs := by
  rw [dataLe_L]
  refine isort_is lin_ltL (List.mergeSort_perm _ _) ?_
  refine (List.pairwise_mergeSort (le := fun p q => !ltL q p) (fun a b c h1 h2 => ?_) (fun a b => ?_) xs).imp fun {a b} h => by simpa using h
  · simp only [Bool.not_eq_true'] at h1 h2 ⊢
    exact ltL_tr a b c h1 h2
  · cases e : ltL b a with
    | false => simp
    | true => simp [ltL_asym b a e]
def rSortT : List V → Hp → VK → Prop := fun vs H Q => ∃ (a : Addr) (xs : List (List Nat)), vs = [V.ref a] ∧ LsAt H a xs ∧ ((∀ x ∈ xs, x ≠ []) ∨ ∃ ys, xs = [] :: ys) ∧ ∀ r H', Same H H' → H r = none → LsAt H' r (srt xs) → Q (.ref r) H'
theorem cr_sortT (hu : X.A.units + 64 < cLine) : CallR X (.builtin "sorted") rSortT := by
  intro pins s σ H vs us Q I r h
  obtain ⟨a, xs, rfl, ⟨vs, h1, h2⟩, hk, q⟩ := h
  rw [Vals.ref1 r]
  obtain ⟨its, rv, hl, hz⟩ := I.list (SqL.of h1)
  have ee := each_rows rv h2
  have er := each_reads I ee
  have hdeep : ∀ b : List Nat, (En.en b).depth ≤ 1 := fun b => En.deep b
  have fin : ∀ out : List Value, out.length = xs.length → EachIs (RowV H) out (xs.mergeSort (dataLe false (En.en (α := List Nat)))) → EP X pins σ Q (.ref (s.heap.objs.size + 1)) { s with heap := sortedAll s.heap its (List.toArray out) } := fun out hol he => by
    rw [merge_srt] at he
    obtain ⟨ws, w1, w2⟩ := rows_each he
    obtain ⟨ep, he'⟩ := PyProof.Rows.sortedAll_at s.heap its out.toArray
    have hn : H (s.heap.objs.size + 1) = none := I.hok.fresh (Nat.le_succ _)
    refine ⟨.ref _, upd H (s.heap.objs.size + 1) (.lst ws), I.laid (t' := s.toks) (fun _ _ => PyProof.Rows.sortedAll_old) (Nat.le_succ _) ⟨?_, out, ep, w1, he'⟩, rfl, q _ _ (same_new hn) hn ⟨ws, upd_same, w2.keep (.new hn)⟩⟩
    have e1 := w1.length
    have e2 := h2.len
    omega
  have hL : xs.length ≤ sizeLine := by have := h2.len; omega
  have hal : AllAlike (xs.map En.en) := AllAlike.of fun b b' => Lo.alk b b'
  have hub : ∀ b, b ∈ xs → X.A.units + 2 + (En.en b).depth < cLine := fun b _ => by have := hdeep b; omega
  rcases hk with hk | ⟨ys, rfl⟩
  · refine sorted_data hl.isList ee er hal ?_ hL hub fin
    refine .inl fun d hd => ?_
    obtain ⟨b, hb, rfl⟩ := List.mem_map.mp hd
    match b, hk b hb with
    | x :: r, _ => exact ⟨_, _, rfl⟩
    | [], z => exact absurd rfl z
  · refine lx_sorted0 (ds := ys.map En.en) hl.isList ee er rfl (fun d hd => ?_) hal hL hub fin
    obtain ⟨b, hb, rfl⟩ := List.mem_map.mp hd
    exact ⟨_, rfl⟩
/-- sorted(a list of tuples of whole numbers) -/
theorem l_sortT {xs : List (List Nat)} (hm : X.mg "sorted" = none) (hu : X.A.units + 64 < cLine) (h : EB X H0 ds e xs) (hk : (∀ x ∈ xs, x ≠ []) ∨ ∃ ys, xs = [] :: ys) (hg : Gl X "sorted" := by rfl) (hs : starEach [e] X.env = (false, eval e X.env) :: starEach [] X.env := by rfl) (hpl : (backTo pos (starEach [] X.env)).any (·.1) = false := by rfl) :
    EL X H0 ds (.Call (.Name "sorted" p) [e] [] pos) (srt xs) := fun σ H Q o k =>
  (pe_callB (cr_sortT hu) hg hm boot_sorted' (pa_cons pe_tw pa_nil hs) (by decide) (by decide) hs hpl).tw (h σ H _ o fun a H' s d => ⟨a, xs, rfl, d, hk, fun r H2 s2 n2 d2 => k r H2 (s.trans s2) (s.free n2) d2⟩)

/-! ### the least of a list -/
def minB {α : Type} [Lo α] (x : α) (xs : List α) : α := xs.foldl (fun a y => if Lo.lt y a then y else a) x
theorem minD_en {α : Type} [Lo α] : ∀ (x : α) (xs : List α), minD (En.en x) (xs.map En.en) = En.en (minB x xs)
  | x, [] => rfl
  | x, y :: ys => by
    have ih := minD_en (if Lo.lt y x then y else x) ys
    unfold minD minB at *
    rw [List.map_cons, List.foldl_cons, List.foldl_cons, ← ih, Lo.is]
    congr 1
    split <;> rfl
theorem en_inj {α : Type} [Lo α] {a b : α} (h : En.en a = En.en b) : a = b := by
  have q := En.eqv a b
  rw [← h, eqv_refl_alike _ (Lo.alk a a)] at q
  exact (En.bqs a b).mp q.symm
def rMinD {α : Type} [Lo α] : List V → Hp → VK → Prop := fun vs H Q => ∃ (a : Addr) (x : α) (xs : List α), vs = [V.ref a] ∧ LsAt H a (x :: xs) ∧ ∀ v, Dn.dn H v (minB x xs) → Q v H
theorem cr_minD {α : Type} [Lo α] (hc : X.calm = true) (hu : X.A.units + 64 < cLine) (hd : En.dep α ≤ 30) : CallR X (.builtin "min") (rMinD (α := α)) := by
  intro pins s σ H vs us Q I r h
  obtain ⟨a, x, xs, rfl, ⟨vs, h1, h2⟩, q⟩ := h
  rw [Vals.ref1 r]
  obtain ⟨its, rv, hl, hz⟩ := I.list (SqL.of h1)
  obtain ⟨as, rd⟩ := Dp.readsAll I _ _ _ (dpAll_of (K := X.K) h2) rv
  have hdp := deepAll_of (x :: xs)
  refine min_list_data (I.ok.hd hc) hl.isList (show ReadsAll s.heap its.toArray.toList _ as from rd) ⟨fun d hd d' hd' => ?_, fun d hd z => ?_⟩ (by rw [List.map_cons] at hdp; omega) fun i v h' tk bs hv hr hk => ?_
  · rw [← List.map_cons] at hd hd'
    obtain ⟨b, _, rfl⟩ := List.mem_map.mp hd
    obtain ⟨b', _, rfl⟩ := List.mem_map.mp hd'
    exact Lo.alk b b'
  · rw [← List.map_cons] at hd
    obtain ⟨b, _, rfl⟩ := List.mem_map.mp hd
    exact Lo.nn b z
  · have hv' : its[i]? = some v := by simpa using hv
    have hi : i < vs.length := by
      have := (List.getElem?_eq_some_iff.mp hv').1
      have := rv.length
      omega
    obtain ⟨u, hu2, ru⟩ := rv.get (List.getElem?_eq_getElem hi)
    rw [hv'] at hu2
    cases hu2
    obtain ⟨b, hb, db⟩ := h2.at (List.getElem?_eq_getElem hi)
    rw [minD_en] at hr
    obtain ⟨cs, r2⟩ := Dp.reads I _ _ _ (En.dp (K := X.K) db) ru
    have e := alike_unique _ _ _ _ _ (Lo.alk b (minB x xs)) (PyProof.Rows.Reads.keeps hk r2) hr
    rw [en_inj e] at db
    exact ⟨_, H, I.kept (t' := tk) hk, ru, q _ db⟩
/-- min(a list of things in an order) -/
theorem e_minD {α : Type} [Lo α] {x : α} {xs : List α} (hm : X.mg "min" = none) (hc : X.calm = true) (hu : X.A.units + 64 < cLine) (h : EB X H0 ds e (x :: xs)) (hd : En.dep α ≤ 30 := by decide) (hg : Gl X "min" := by rfl) (hs : starEach [e] X.env = (false, eval e X.env) :: starEach [] X.env := by rfl) (hpl : (backTo pos (starEach [] X.env)).any (·.1) = false := by rfl) :
    EV X H0 ds (.Call (.Name "min" p) [e] [] pos) (minB x xs) := fun σ H Q o k =>
  (pe_callB (cr_minD (α := α) hc hu hd) hg hm boot_min' (pa_cons pe_tw pa_nil hs) (by decide) (by decide) hs hpl).tw (h σ H _ o fun a H' s d => ⟨a, x, xs, rfl, d, fun v dv => k v H' s dv⟩)

/-! ### count, sum -/
theorem count_cast (l : List Nat) (n : Nat) : (l.map fun (n : Nat) => (n : Int)).count (n : Int) = l.count n := by
  induction l with
  | nil => rfl
  | cons x xs ih =>
    rw [List.map_cons, List.count_cons, List.count_cons, ih]
    by_cases h : x = n
    · simp [h]
    · have : ¬ (x : Int) = (n : Int) := fun q => h (Int.ofNat.inj q)
      simp [h, this]
/-- xs.count(n) -/
theorem e_count {l : List Nat} {n : Nat} {apos cpos : Pos} (h1 : EB X H0 ds e1 l) (h2 : EV X H0 ds e2 n) (hbase : attributeBase e1 "count" X.env (eval e1 X.env) = eval e1 X.env := by rfl)
    (hfew : ((backTo cpos (starEach [e2] X.env)).all (fun x => !x.1) && (backToKw cpos (keywordEach [] X.env)).all (fun x => x.1.isSome) && decide ([e2].length + ([] : List Keyword).length + (if ([] : List Keyword).isEmpty then 0 else 1) < 30)) = true := by rfl)
    (hline : (apos.endLine == cpos.line) = true := by rfl) (hst : starEach [e2] X.env = (false, eval e2 X.env) :: starEach [] X.env := by rfl) (hplain : (backTo cpos (starEach [] X.env)).any (·.1) = false := by rfl) :
    EV X H0 ds (.Call (.Attribute e1 "count" apos) [e2] [] cpos) (l.count n) := fun σ H Q o k =>
  (pe_bm PySem.F.plainAttrs_list PySem.F.slot_list_count PySem.F.type_list_count mt_lcount pe_tw (pa_cons pe_tw pa_nil hst) hbase hfew hline hst hplain).tw (h1 σ H _ o fun q H1 s1 d1 => by
    obtain ⟨vs, g1, g2⟩ := id d1
    refine ⟨.inl ⟨rfl, _, .of g1⟩, h2 σ H1 _ (o.ext s1) fun v H' s d => ?_⟩
    obtain ⟨ws, w1, w2⟩ := d1.same s
    rw [dnsN w2] at w1
    refine ⟨q, _, (n : Int), rfl, by rw [show v = _ from d], .of w1, k _ H' (s1.trans s) (show V.int _ = V.int _ from ?_)⟩
    rw [count_cast])
theorem preSum_is (l : List Int) : ∀ j, preSum (fun i => l.getD i 0) j = (l.take j).sum
  | 0 => by simp [preSum]
  | j + 1 => by
    rw [preSum, preSum_is l j, List.take_succ]
    cases e : l[j]? with
    | none => simp [List.getD_eq_getElem?_getD, e]
    | some z => simp [List.getD_eq_getElem?_getD, e]
theorem sum_cast (l : List Nat) : (l.map fun (n : Nat) => (n : Int)).sum = ((l.sum : Nat) : Int) := by
  induction l with
  | nil => rfl
  | cons x xs ih => rw [List.map_cons, List.sum_cons, List.sum_cons, ih, Int.natCast_add]
def rSumT (K : PySem.W.Frag) : List V → Hp → VK → Prop := fun vs H Q => ∃ (a : Addr) (ns : List Int), vs = [V.ref a] ∧ SqT K H a (ns.map V.int) ∧ Q (.int ns.sum) H
theorem cr_sumT (hc : X.calm = true) : CallR X (.builtin "sum") (rSumT X.K) := by
  intro pins s σ H vs us Q I r h
  obtain ⟨a, ns, rfl, hs, q⟩ := h
  obtain ⟨its, rv, hl, hz⟩ := I.tuple hs
  rw [Vals.ref1 r]
  have hi := rv.ints
  have hn : its.length = ns.length := hi.length
  have hh : X.A.in1.handled = none := I.ok.hd hc
  have hlt : a < s.heap.objs.size := hl.lt
  refine call_sum_walkG (wpAny_pyIter_tuple hl ?_)
  refine ⟨_, _, _, _, _, _, fun i => ns.getD i 0, rfl, Walks.tuple (A := X.A.in1) hh _ a (Nat.ne_of_lt hlt) its.toArray, ⟨⟨_, Heap.get?_push_size _ rfl, rfl, rfl⟩, hl.push _⟩, fun b hb => ?_, fun i v hv => ?_, fun h' tk t' hk => ?_⟩
  · show b < (s.heap.push _).objs.size
    rw [Heap.size_push]
    rcases List.mem_cons.mp hb with rfl | hb
    · exact Nat.lt_succ_self _
    · rw [List.mem_singleton.mp hb]; exact Nat.lt_succ_of_lt hlt
  · exact IntsAre.int_at hi i v (by simpa using hv)
  · have e : preSum (fun i => ns.getD i 0) its.toArray.size = ns.sum := by
      rw [preSum_is, List.size_toArray, hn, List.take_length]
    rw [e]
    refine ⟨.int _, H, I.kept (t' := tk) fun b o hb => hk b o (fun z => ?_) (Heap.get?_push_of_some _ hb), ⟨_, rfl⟩, q⟩
    exact absurd (Heap.lt_size hb) (List.mem_singleton.mp z ▸ Nat.lt_irrefl _)
/-- sum(a tuple of whole numbers) -/
theorem e_sumT {l : List Nat} (hm : X.mg "sum" = none) (hc : X.calm = true) (h : EV X H0 ds e l) (hg : Gl X "sum" := by rfl) (hs : starEach [e] X.env = (false, eval e X.env) :: starEach [] X.env := by rfl) (hpl : (backTo pos (starEach [] X.env)).any (·.1) = false := by rfl) : EV X H0 ds (.Call (.Name "sum" p) [e] [] pos) l.sum := fun σ H Q o k =>
  (pe_callB (cr_sumT hc) hg hm boot_sum' (pa_cons pe_tw pa_nil hs) (by decide) (by decide) hs hpl).tw (h σ H _ o fun v H' s d => by
    obtain ⟨a, vs, rfl, g1, g2⟩ := d
    rw [dnsN g2] at g1
    refine ⟨a, _, rfl, .of g1, k _ H' s (show V.int _ = V.int _ from ?_)⟩
    rw [sum_cast])

/-! ### displays with a star -/
section
variable {α : Type} [Dn α] {sp : Pos} {kk : Nat}
/-- ( *row, x) -/
theorem e_star1 {xs : List α} {a : α} (h1 : EV X H0 ds e1 xs) (h2 : EV X H0 ds e2 a) (hz : xs.length + 1 ≤ sizeLine) (hs1 : starEach [.Starred e1 sp, e2] X.env = (true, eval e1 X.env) :: starEach [e2] X.env := by rfl) (hs2 : starEach [e2] X.env = (false, eval e2 X.env) :: starEach [] X.env := by rfl) :
    EV X H0 ds (.Tuple [.Starred e1 sp, e2] kk pos) (xs ++ [a]) := fun σ H Q o k =>
  (pe_tup (StX.pa_star pe_tw (pa_cons pe_tw pa_nil hs2) hs1)).tw (h1 σ H _ o fun v H1 s1 d1 => by
    obtain ⟨q, vs, rfl, g1, g2⟩ := d1
    refine ⟨q, vs, rfl, .inl (.of g1), h2 σ H1 _ (o.ext s1) fun w H2 s2 d2 => ⟨?_, fun r hr => ?_⟩⟩
    · rw [List.length_append, g2.len]; exact hz
    · exact k _ _ ((s1.trans s2).trans (same_new hr)) ⟨r, _, rfl, upd_same, (g2.keep ((Kept.of s2).trans (.new hr))).append (Dns.one (Dn.keep d2 (.new hr)))⟩)
/-- ( *row, x, y) -/
theorem e_star2 {e3 : Expr} {xs : List α} {a b : α} (h1 : EV X H0 ds e1 xs) (h2 : EV X H0 ds e2 a) (h3 : EV X H0 ds e3 b) (hz : xs.length + 2 ≤ sizeLine) (hs1 : starEach [.Starred e1 sp, e2, e3] X.env = (true, eval e1 X.env) :: starEach [e2, e3] X.env := by rfl) (hs2 : starEach [e2, e3] X.env = (false, eval e2 X.env) :: starEach [e3] X.env := by rfl) (hs3 : starEach [e3] X.env = (false, eval e3 X.env) :: starEach [] X.env := by rfl) :
    EV X H0 ds (.Tuple [.Starred e1 sp, e2, e3] kk pos) (xs ++ [a, b]) := fun σ H Q o k =>
  (pe_tup (StX.pa_star pe_tw (pa_cons pe_tw (pa_cons pe_tw pa_nil hs3) hs2) hs1)).tw (h1 σ H _ o fun v H1 s1 d1 => by
    obtain ⟨q, vs, rfl, g1, g2⟩ := d1
    refine ⟨q, vs, rfl, .inl (.of g1), h2 σ H1 _ (o.ext s1) fun w H2 s2 d2 => h3 σ H2 _ ((o.ext s1).ext s2) fun u H3 s3 d3 => ⟨?_, fun r hr => ?_⟩⟩
    · rw [List.length_append, g2.len]; exact hz
    · refine k _ _ (((s1.trans s2).trans s3).trans (same_new hr)) ⟨r, _, rfl, upd_same, (g2.keep (((Kept.of s2).trans (.of s3)).trans (.new hr))).append ?_⟩
      exact .cons (Dn.keep d2 ((Kept.of s3).trans (.new hr))) (.cons (Dn.keep d3 (.new hr)) .nil))
end

/-! ### isinstance -/
theorem kit_ii : kitB "int" "int" = some true := by decide +kernel
theorem kit_ib : kitB "int" "bool" = some false := by decide +kernel
theorem kit_tt : kitB "tuple" "tuple" = some true := by decide +kernel
theorem boot_isi : bootBuiltins "isinstance" = some (.builtin "isinstance") := by decide +kernel
theorem boot_boolT : bootBuiltins "bool" = some (.type "bool") := by decide +kernel
theorem boot_intT : bootBuiltins "int" = some (.type "int") := by decide +kernel
theorem boot_tupT : bootBuiltins "tuple" = some (.type "tuple") := by decide +kernel
section
variable {j : Nat}
theorem e_isiN {n : Nat} {c b : String} {r : Bool} {pc : Pos} {x : Str} (hk : kitB "int" c = some r) (hm : X.mg "isinstance" = none) (hmc : X.mg x = none) (hv : bootBuiltins x = some (.type c)) (h : EV X H0 ds e n) (hgc : Gl X x := by rfl) (hnc : x ≠ "__name__" := by decide) (hdc : (x == ("__debug__" : Str)) = false := by decide) (hg : Gl X "isinstance" := by rfl)
    (hs : starEach [e, .Name x pc] X.env = (false, eval e X.env) :: starEach [.Name x pc] X.env := by rfl) (hs2 : starEach [.Name x pc] X.env = (false, eval (.Name x pc) X.env) :: starEach [] X.env := by rfl) (hpl : (backTo pos (starEach [.Name x pc] X.env)).any (·.1) = false := by rfl) :
    EV X H0 ds (.Call (.Name "isinstance" p) [e, .Name x pc] [] pos) r := fun σ H Q o k =>
  (pe_callB call_isi hg hm boot_isi (pa_cons pe_tw (pa_cons (pe_bltn (v := .ty c) hgc hmc hv rfl hnc hdc) pa_nil hs2) hs) (by decide) (by decide) hs hpl).tw (h σ H _ o fun v H' s d => by
    refine ⟨v, .ty c, .type "int", .type c, r, rfl, .ty c, ?_, kit_ty hk, k _ H' s rfl⟩
    rw [show v = _ from d]
    exact .base (.int _))
theorem e_isiT {α : Type} [Dn α] {xs : List α} {pc : Pos} (hm : X.mg "isinstance" = none) (hmc : X.mg "tuple" = none) (h : EV X H0 ds e xs) (hgc : Gl X "tuple" := by rfl) (hg : Gl X "isinstance" := by rfl)
    (hs : starEach [e, .Name "tuple" pc] X.env = (false, eval e X.env) :: starEach [.Name "tuple" pc] X.env := by rfl) (hs2 : starEach [.Name "tuple" pc] X.env = (false, eval (.Name "tuple" pc) X.env) :: starEach [] X.env := by rfl) (hpl : (backTo pos (starEach [.Name "tuple" pc] X.env)).any (·.1) = false := by rfl) :
    EV X H0 ds (.Call (.Name "isinstance" p) [e, .Name "tuple" pc] [] pos) true := fun σ H Q o k =>
  (pe_callB call_isi hg hm boot_isi (pa_cons pe_tw (pa_cons (pe_bltn (v := .ty "tuple") hgc hmc boot_tupT rfl (by decide) (by decide)) pa_nil hs2) hs) (by decide) (by decide) hs hpl).tw (h σ H _ o fun v H' s d => by
    obtain ⟨q, vs, rfl, g1, g2⟩ := d
    exact ⟨_, .ty "tuple", .type "tuple", .type "tuple", true, rfl, .ty _, .base (.tup g1), kit_ty kit_tt, k _ H' s rfl⟩)
/-- a <= b <= c, whole numbers -/
theorem e_chain {c : Expr} {m n q : Nat} (h1 : EV X H0 ds e1 m) (h2 : EV X H0 ds e2 n) (h3 : EV X H0 ds c q) (hm : lastMarks [.LtE, .LtE] [e2, c] = false := by with_unfolding_all rfl) : EV X H0 ds (.Compare e1 [.LtE, .LtE] [e2, c] pos) (decide (m ≤ n) && decide (n ≤ q)) := fun σ H Q o k =>
  (pe_chain op_le op_le pe_tw pe_tw pe_tw hm).tw (h1 σ H _ o fun v H1 s1 d1 => h2 σ H1 _ (o.ext s1) fun w H2 s2 d2 => by
    refine ⟨(m : Int), (n : Int), Dn.keep d1 (.of s2), d2, _, rfl, ?_⟩
    by_cases hmn : m ≤ n
    · have e1 : decide ((m : Int) ≤ (n : Int)) = true := decide_eq_true (by omega)
      rw [e1]
      refine iteT (h3 σ H2 _ ((o.ext s1).ext s2) fun u H3 s3 d3 => ⟨(n : Int), (q : Int), Dn.keep d2 (.of s3), d3, k _ H3 ((s1.trans s2).trans s3) (show V.bl _ = V.bl _ from ?_)⟩)
      rw [decide_eq_true hmn, Bool.true_and]
      by_cases hnq : n ≤ q
      · rw [decide_eq_true hnq, decide_eq_true (by omega)]
      · rw [decide_eq_false hnq, decide_eq_false (by omega)]
    · have e1 : decide ((m : Int) ≤ (n : Int)) = false := decide_eq_false (by omega)
      rw [e1]
      refine iteF (k _ H2 (s1.trans s2) (show V.bl _ = V.bl _ from ?_))
      rw [decide_eq_false hmn, Bool.false_and])
end
end
end L2.LX
/-! LK: calls by the number of arguments, places with a stand-in. -/
namespace L2.LX
open PySem PySem.Spec PyProof.Rows PySem.W
theorem _root_.L2.Room.u65 {k : Nat} {A : Around} (r : Room k A) : A.units + 65 < cLine := by have := r.un; omega
theorem getD_some {α : Type} {xs : List α} {n : Nat} (d : α) (h : n < xs.length) : xs[n]? = some (xs.getD n d) := by
  rw [List.getD_eq_getElem?_getD, List.getElem?_eq_getElem h]
  rfl
section
variable {X : Cx} {H0 : Hp} {ds : List Sd} {α β γ δ : Type} [Dn α] [Dn β] [Dn γ] [Dn δ] {e e1 e2 e3 : Expr} {pos p : Pos} {k : Nat} {x : Str} {ps : List Str}
theorem e_ixTd {xs : List α} {n : Nat} (d : α) (ha : EV X H0 ds e1 xs) (hb : EV X H0 ds e2 n) (h : n < xs.length) (hs : PlainIx e2 := by intro _ _; rfl) : EV X H0 ds (.Subscript e1 e2 pos) (xs.getD n d) := e_ixT ha hb (getD_some d h) hs
theorem e_ixLd {xs : List α} {n : Nat} (d : α) (ha : EB X H0 ds e1 xs) (hb : EV X H0 ds e2 n) (h : n < xs.length) (hs : PlainIx e2 := by intro _ _; rfl) : EV X H0 ds (.Subscript e1 e2 pos) (xs.getD n d) := e_ixL ha hb (getD_some d h) hs
theorem e_call1 {f : α → β} {pre : α → Prop} {a : α} (h : Has X.prog X.w X.K X.mg X.base k x ps (spV (fun a : α => [Sd.im a]) pre f)) (hr : Room k X.A) (ha : EV X H0 ds e a) (hp : pre a) (hg : Gl X x := by rfl) (hdb : (x == ("__debug__" : Str)) = false := by decide)
    (he : starEach [e] X.env = (false, eval e X.env) :: starEach [] X.env := by rfl) (hpl : (backTo pos (starEach [] X.env)).any (·.1) = false := by rfl) : EV X H0 ds (.Call (.Name x p) [e] [] pos) (f a) :=
  e_call h hr a (a_im ha a_nil he) hp hg hdb he hpl
theorem l_call1 {f : α → List β} {pre : α → Prop} {a : α} (h : Has X.prog X.w X.K X.mg X.base k x ps (spL (fun a : α => [Sd.im a]) pre f)) (hr : Room k X.A) (ha : EV X H0 ds e a) (hp : pre a) (hg : Gl X x := by rfl) (hdb : (x == ("__debug__" : Str)) = false := by decide)
    (he : starEach [e] X.env = (false, eval e X.env) :: starEach [] X.env := by rfl) (hpl : (backTo pos (starEach [] X.env)).any (·.1) = false := by rfl) : EL X H0 ds (.Call (.Name x p) [e] [] pos) (f a) :=
  l_call h hr a (a_im ha a_nil he) hp hg hdb he hpl
theorem e_call1r {f : List α → β} {pre : List α → Prop} {a : List α} (h : Has X.prog X.w X.K X.mg X.base k x ps (spV (fun a : List α => [Sd.rl a]) pre f)) (hr : Room k X.A) (ha : EB X H0 ds e a) (hp : pre a) (hg : Gl X x := by rfl) (hdb : (x == ("__debug__" : Str)) = false := by decide)
    (he : starEach [e] X.env = (false, eval e X.env) :: starEach [] X.env := by rfl) (hpl : (backTo pos (starEach [] X.env)).any (·.1) = false := by rfl) : EV X H0 ds (.Call (.Name x p) [e] [] pos) (f a) :=
  e_call h hr a (a_rl ha a_nil he) hp hg hdb he hpl
theorem e_call2 {f : α × γ → β} {pre : α × γ → Prop} {a : α} {b : γ} (h : Has X.prog X.w X.K X.mg X.base k x ps (spV (fun a : α × γ => [Sd.im a.1, Sd.im a.2]) pre f)) (hr : Room k X.A) (ha : EV X H0 ds e1 a) (hb : EV X H0 ds e2 b) (hp : pre (a, b)) (hg : Gl X x := by rfl) (hdb : (x == ("__debug__" : Str)) = false := by decide)
    (he : starEach [e1, e2] X.env = (false, eval e1 X.env) :: starEach [e2] X.env := by rfl) (he2 : starEach [e2] X.env = (false, eval e2 X.env) :: starEach [] X.env := by rfl) (hpl : (backTo pos (starEach [e2] X.env)).any (·.1) = false := by rfl) : EV X H0 ds (.Call (.Name x p) [e1, e2] [] pos) (f (a, b)) :=
  e_call h hr (a, b) (a_im ha (a_im hb a_nil he2) he) hp hg hdb he hpl
theorem l_call2 {f : α × γ → List β} {pre : α × γ → Prop} {a : α} {b : γ} (h : Has X.prog X.w X.K X.mg X.base k x ps (spL (fun a : α × γ => [Sd.im a.1, Sd.im a.2]) pre f)) (hr : Room k X.A) (ha : EV X H0 ds e1 a) (hb : EV X H0 ds e2 b) (hp : pre (a, b)) (hg : Gl X x := by rfl) (hdb : (x == ("__debug__" : Str)) = false := by decide)
    (he : starEach [e1, e2] X.env = (false, eval e1 X.env) :: starEach [e2] X.env := by rfl) (he2 : starEach [e2] X.env = (false, eval e2 X.env) :: starEach [] X.env := by rfl) (hpl : (backTo pos (starEach [e2] X.env)).any (·.1) = false := by rfl) : EL X H0 ds (.Call (.Name x p) [e1, e2] [] pos) (f (a, b)) :=
  l_call h hr (a, b) (a_im ha (a_im hb a_nil he2) he) hp hg hdb he hpl
theorem e_call3 {f : α × γ × δ → β} {pre : α × γ × δ → Prop} {a : α} {b : γ} {c : δ} (h : Has X.prog X.w X.K X.mg X.base k x ps (spV (fun a : α × γ × δ => [Sd.im a.1, Sd.im a.2.1, Sd.im a.2.2]) pre f)) (hr : Room k X.A) (ha : EV X H0 ds e1 a) (hb : EV X H0 ds e2 b) (hc : EV X H0 ds e3 c) (hp : pre (a, b, c)) (hg : Gl X x := by rfl) (hdb : (x == ("__debug__" : Str)) = false := by decide)
    (he : starEach [e1, e2, e3] X.env = (false, eval e1 X.env) :: starEach [e2, e3] X.env := by rfl) (he2 : starEach [e2, e3] X.env = (false, eval e2 X.env) :: starEach [e3] X.env := by rfl) (he3 : starEach [e3] X.env = (false, eval e3 X.env) :: starEach [] X.env := by rfl) (hpl : (backTo pos (starEach [e2, e3] X.env)).any (·.1) = false := by rfl) : EV X H0 ds (.Call (.Name x p) [e1, e2, e3] [] pos) (f (a, b, c)) :=
  e_call h hr (a, b, c) (a_im ha (a_im hb (a_im hc a_nil he3) he2) he) hp hg hdb he hpl
/-- f(e) as a statement, f hands back None -/
theorem s_callN {pre : α → Prop} {a : α} {D : Ends} {rest : List Stmt} {spos : Pos} (h : Has X.prog X.w X.K X.mg X.base k x ps (spN (fun a : α => [Sd.im a]) pre)) (hr : Room k X.A) (ha : EV X H0 ds e a) (hp : pre a) (kk : SS X H0 ds rest D) (hg : Gl X x := by rfl) (hdb : (x == ("__debug__" : Str)) = false := by decide)
    (he : starEach [e] X.env = (false, eval e X.env) :: starEach [] X.env := by rfl) (hpl : (backTo pos (starEach [] X.env)).any (·.1) = false := by rfl) (hs : swapsWith (.Call (.Name x p) [e] [] pos) none spos.line X.env = pure false := by rfl) :
    SS X H0 ds (.Expr (.Call (.Name x p) [e] [] pos) spos :: rest) D := s_cons fun σ H o => by
  obtain ⟨g, fd, G, hm, hk, hb⟩ := h.ex
  refine (ps_expr (pe_call G hr hg hm hk hb .nil pass0 (pa_cons pe_tw pa_nil he) hdb he hpl) hs).tw (ha σ H _ o fun v H' s d => ?_)
  refine ⟨a, ⟨d, trivial⟩, hp, fun H2 s2 => ?_⟩
  exact kk _ _ ((o.ext s).ext s2)
end
theorem hl1 {α : Type} [Dn α] {ps : List Str} (h : ps.length = 1) : ∀ a : α, [Sd.im a].length = ps.length := fun _ => h.symm
theorem no1 {α : Type} [Dn α] : ∀ a : α, ∀ d ∈ [Sd.im a], d.own = false := fun a d hd => by simp at hd; subst hd; rfl
theorem no2 {α β : Type} [Dn α] [Dn β] : ∀ a : α × β, ∀ d ∈ [Sd.im a.1, Sd.im a.2], d.own = false := fun a d hd => by simp at hd; rcases hd with rfl | rfl <;> rfl
theorem no3 {α β γ : Type} [Dn α] [Dn β] [Dn γ] : ∀ a : α × β × γ, ∀ d ∈ [Sd.im a.1, Sd.im a.2.1, Sd.im a.2.2], d.own = false := fun a d hd => by simp at hd; rcases hd with rfl | rfl | rfl <;> rfl
theorem no1r {α : Type} [Dn α] : ∀ a : List α, ∀ d ∈ [Sd.rl a], d.own = false := fun a d hd => by simp at hd; subst hd; rfl
/-- hands as the law draws them -/
structure HOk (h : List (List Nat)) : Prop where
  n1 : 1 ≤ h.length
  n5 : h.length ≤ 5
  up : ∀ x ∈ h, x.Pairwise (· < ·)
  lo : ∀ x ∈ h, ∀ t ∈ x, t < 7
theorem sorted_few : ∀ (k : Nat) (x : List Nat), x.Pairwise (· < ·) → (∀ t ∈ x, t < k) → x.length ≤ k
  | k, x, hp, hl => by
    have : ∀ (y : List Nat) (j : Nat), y.Pairwise (· < ·) → (∀ t ∈ y, j ≤ t ∧ t < k) → y.length ≤ k - j := by
      intro y
      induction y with
      | nil => intro j _ _; simp
      | cons a y ih =>
        intro j hp hl
        obtain ⟨h1, h2⟩ := List.pairwise_cons.mp hp
        have ha := hl a List.mem_cons_self
        have := ih (a + 1) h2 fun t ht => ⟨h1 t ht, (hl t (List.mem_cons_of_mem _ ht)).2⟩
        rw [List.length_cons]
        omega
    have := this x 0 hp fun t ht => ⟨Nat.zero_le _, hl t ht⟩
    omega
theorem HOk.len {h : List (List Nat)} (o : HOk h) {x : List Nat} (m : x ∈ h) : x.length ≤ 7 := sorted_few 7 x (o.up x m) (o.lo x m)
theorem sset_self {x : List Nat} (up : x.Pairwise (· < ·)) (lo : ∀ t ∈ x, t < 8) : sset x = x := by
  have e1 := sset_ints lo (x.map fun (n : Nat) => (n : Int)) (List.pairwise_map.mpr (up.imp fun {a b} q => Int.ofNat_lt.mpr q)) fun _ => Iff.rfl
  have inj : Function.Injective (fun (n : Nat) => (n : Int)) := fun a b h => Int.ofNat.inj h
  exact ((List.map_inj_right inj).mp e1).symm
end L2.LX
/-! LL: [y for x in xs for y in x]; globals. -/
namespace L2.LX
open PySem PySem.Spec PyProof.Rows PySem.W
section
variable {X : Cx} {H0 : Hp} {ds : List Sd} {α β γ : Type} [Dn α] [Dn β] [Dn γ] {tg iter : Expr} {scope : Scope} {own : List (Str × Nat)} {pos : Pos}
theorem dn_pair {H : Hp} {v : V} {z : γ × γ} (h : Dn.dn H v z) : Dn.dn H v [z.1, z.2] := by
  obtain ⟨p, u, w, e, h1, d1, d2⟩ := h
  exact ⟨p, _, e, h1, .cons d1 (.cons d2 .nil)⟩
theorem IVc.pairs {xs : List (γ × γ)} (h : IVc X H0 ds tg iter xs) : IVc X H0 ds tg iter (xs.map fun z => [z.1, z.2]) := fun σ H R o k => h σ H R o fun J H' G Y q s1 hz w hG hs hY =>
  k J H' G Y q s1 (by rw [List.length_map]; exact hz) (by rw [List.length_map]; exact w) hG hs fun i Ha v Hb hi kp y => by
    rw [List.length_map] at hi
    obtain ⟨sy, x, hx, dx⟩ := hY i Ha v Hb hi kp y
    exact ⟨sy, _, by rw [List.getElem?_map, hx]; rfl, dn_pair dx⟩
theorem flat_len {δ ε : Type} (ys : δ → List ε) : ∀ (xs : List δ), (∀ x ∈ xs, (ys x).length ≤ 100) → (xs.flatMap ys).length ≤ 100 * xs.length
  | [], _ => by simp
  | x :: xs, h => by
    have h1 := h x List.mem_cons_self
    have h2 := flat_len ys xs fun z hz => h z (List.mem_cons_of_mem _ hz)
    rw [List.flatMap_cons, List.length_append, List.length_cons]
    omega
theorem l_flat {xs : List (List γ)} (i j : Nat) {x y : Str} {px px2 py py2 : Pos} (hc : X.calm = true) (hN : X.N.Nodup) (iv : IVc X H0 ds (.Name x px) iter xs) (ok : BlkOk X.N X.env.scope scope own) (hi : X.N[i]? = some x) (hj : X.N[j]? = some y) (hij : i ≠ j) (hvs : own.map (·.2) = [i, j]) (hil : Nat.blt i ds.length = true) (hjl : Nat.blt j ds.length = true)
    (hx : ∀ (cl : List (Str × Addr)) (C : Addr), Loc (compEnvC scope cl C X.env).scope x) (hy : ∀ (cl : List (Str × Addr)) (C : Addr), Loc (compEnvC scope cl C X.env).scope y) (hfx : ∀ (cl : List (Str × Addr)) (C : Addr), (scope.names.lookup x == some .cell) = true ∨ (compEnvC scope cl C X.env).scope.names.lookup x = some .local) (hfy : ∀ (cl : List (Str × Addr)) (C : Addr), (scope.names.lookup y == some .cell) = true ∨ (compEnvC scope cl C X.env).scope.names.lookup y = some .local)
    (few : xs.length ≤ 1000) (few1 : ∀ x ∈ xs, x.length ≤ 100) (hs : ∀ x, foldedSetIterable iter X.env x = pure x := by intro _; rfl)
    (hdx : (x == ("__debug__" : Str)) = false := by decide) (hdy : (y == ("__debug__" : Str)) = false := by decide) (hcx : (x == ("__classdict__" : Str)) = false := by decide) (hcy : (y == ("__classdict__" : Str)) = false := by decide) :
    EL X H0 ds (.ListComp (.Name y py) [⟨.Name x px, iter, [], 0⟩, ⟨.Name y py2, .Name x px2, [], 0⟩] scope pos) xs.flatten := fun σ H Q o k => by
  have vl : ∀ {sc : Scope} {n : Str}, Loc sc n → Vis sc n := fun h => h.elim .inl fun z => .inr (.inl z)
  refine (pe_lc2 (tt := tYes) (tt1 := tYes) (te := tVar j) (g := gName i) (g1 := gName j) (vs1 := [j]) (wi1 := fun σ H R => ∃ (v : V) (a : Addr) (ws : List V), σ[i]? = some (some v) ∧ v = .ref a ∧ SqT X.K H a ws ∧ R (Itt X.K a) H) hc hN pi_tw ok (fun z hz => by rw [hvs]; simp at hz; simp [hz])
    (fun _ _ C cl _ => pg_name hN hi (hx cl C) (hfx cl C)) (fun _ _ _ _ _ => pts_nil) (fun s' H' C cl fp => ⟨fun pins s σ H R I h => ?_⟩) (fun _ _ C cl _ => pg_name hN hj (hy cl C) (hfy cl C)) (fun _ _ _ _ _ => pts_nil) (fun _ _ C cl _ => pe_var hj (vl (hy cl C)) hdy hcy) hs (by intro _ _; rfl)).tw ?_
  · obtain ⟨v, a, ws, h1, rfl, h2, h3⟩ := h
    exact (pi_tup (pe_var (X := X.blk s' H' scope (compEnvC scope cl C X.env) fp) hi (vl (hx cl C)) hdx hcx)).run pins s σ H R I ⟨_, h1, a, rfl, ⟨ws, h2⟩, h3⟩
  refine iv σ H _ o fun J H1 G Y q s1 hz w hG hsome hY D hD => ?_
  rw [hvs]
  have li : i < σ.length := by rw [o.len]; exact Nat.blt_eq.mp hil
  have lj : j < σ.length := by rw [o.len]; exact Nat.blt_eq.mp hjl
  have wl : ∀ vs, (wipe σ vs).length = σ.length := fun vs => wipe_length σ vs
  refine ⟨fun n m Hc => m = xs.length - n ∧ n ≤ xs.length ∧ Same H1 Hc ∧ LsAt Hc D (xs.take n).flatten, ⟨_, rfl, Nat.zero_le _, same_new hD, [], upd_same, .nil⟩, ?_⟩
  rintro n m Hc ⟨rfl, hn, S1, L1⟩
  have g := hG Hc fun a z => by
    have h1 := hsome a z
    cases e : H1 a with
    | none => rw [e] at h1; cases h1
    | some u => exact S1 a u e
  by_cases hlt : n < xs.length
  · refine .inr ⟨w.goes n Hc hlt g, fun H' => Same H1 H' ∧ LsAt H' D (xs.take (n + 1)).flatten, fun H' P => ⟨_, by omega, rfl, hlt, P⟩, fun v Hc' y => ?_⟩
    obtain ⟨sy, xx, hxx, dx⟩ := hY n Hc v Hc' hlt (.of S1) (w.yields n Hc v Hc' hlt g y)
    have hmem : xx ∈ xs := List.mem_of_getElem? hxx
    have etk : (xs.take (n + 1)).flatten = (xs.take n).flatten ++ xx := by
      rw [List.take_succ, hxx, List.flatten_append]
      simp
    obtain ⟨a, ws, rfl, ha, dw⟩ := dx
    have L2' := L1.same sy
    obtain ⟨accs, l1, l2⟩ := id L2'
    have hneq : a ≠ D := ne_of ha l1 (by intro z; cases z)
    have hwl := dw.len
    refine ⟨(wipe_set (by simp)).trans (wipe_wipe _ _), ?_⟩
    unfold tYes; dsimp only
    rw [if_pos rfl]
    refine ⟨.ref a, a, ws, ?_, rfl, .of ha, ?_⟩
    · rw [List.getElem?_set_self (by rw [wl]; exact li)]
    refine ⟨fun t kk H => kk = xx.length - t ∧ t ≤ xx.length ∧ Same H1 H ∧ (∀ b u, b ≠ D → Hc' b = some u → H b = some u) ∧ LsAt H D ((xs.take n).flatten ++ xx.take t), ⟨_, rfl, Nat.zero_le _, S1.trans sy, fun _ _ _ z => z, by simpa using L2'⟩, ?_⟩
    rintro t kk Ht ⟨rfl, ht, St, Ft, Lt⟩
    have hat : SqT X.K Ht a ws := .of (Ft a _ hneq ha)
    by_cases htl : t < xx.length
    · refine .inr ⟨⟨ws, ws[t], hat, by simp [hwl, htl]⟩, fun H' => Same H1 H' ∧ (∀ b u, b ≠ D → Hc' b = some u → H' b = some u) ∧ LsAt H' D ((xs.take n).flatten ++ xx.take (t + 1)), fun H' P => ⟨_, by omega, rfl, htl, P⟩, fun u H' yd => ?_⟩
      obtain ⟨rfl, hu⟩ := yd
      obtain ⟨z, hzt, dz⟩ := dw.at (hu ws hat)
      have kt : Kept Hc' H' := fun b => ⟨fun vs e => Ft b _ (ne_of e l1 (by intro q; cases q)) e, fun vs e => Ft b _ (ne_of e l1 (by intro q; cases q)) e⟩
      obtain ⟨acc, b1, b2⟩ := Lt
      refine ⟨(wipe_set (by simp)).trans (wipe_wipe _ _), ?_⟩
      rw [if_pos rfl]
      refine ⟨u, ?_, acc, b1, ?_, ⟨fun b uu e => ?_, fun b uu nb e => ?_, acc ++ [u], upd_same, ?_⟩⟩
      · rw [List.getElem?_set_self]
        rw [wipe_length, List.length_set, wl]
        exact lj
      · have c1 := b2.len
        have c2 : (xs.take n).flatten.length ≤ 100 * n := by
          have q := flat_len (fun x : List γ => x) (xs.take n) fun x hx => few1 x (List.mem_of_mem_take hx)
          rw [List.flatMap_id'] at q
          have := List.length_take_le n xs
          omega
        have c3 := few1 xx hmem
        have c4 := List.length_take_le t xx
        rw [List.length_append] at c1
        rw [sizeLine_eq]
        omega
      · rw [upd_ne (ne_of_none e hD)]
        exact St _ _ e
      · rw [upd_ne nb]
        exact Ft _ _ nb e
      · have e : (xs.take n).flatten ++ xx.take (t + 1) = ((xs.take n).flatten ++ xx.take t) ++ [z] := by
          rw [List.take_succ, hzt]
          simp
        rw [e]
        exact (b2.append (Dns.one (Dn.keep dz kt))).keep (.upd b1)
    · have e : t = xx.length := by omega
      subst e
      refine .inl ⟨⟨ws, hat, by omega⟩, St, ?_⟩
      rw [etk]
      rw [List.take_length] at Lt
      exact Lt
  · have e : n = xs.length := by omega
    subst e
    rw [List.take_length] at L1
    exact .inl ⟨w.stops Hc g, k D Hc (s1.trans S1) (s1.free hD) L1⟩
theorem e_gl (n : Nat) {x : Str} {u : Value} (hm : X.mg x = some u) (hu : ∃ t, u = .int (n : Int) t) (hg : Gl X x := by rfl) (hd : (x == ("__debug__" : Str)) = false := by decide) : EV X H0 ds (.Name x pos) n := fun σ H Q o k => by
  obtain ⟨t, rfl⟩ := hu
  exact (pe_glob (v := .int (n : Int)) hg hm ⟨t, rfl⟩ hd).tw (k _ H (.refl H) rfl)
end
end L2.LX
/-! LM: more statements: several targets, tests whose answer is known. -/
namespace L2.LX
open PySem PySem.Spec PyProof.Rows PySem.W
/-- a value comes, data or a new list -/
def ER (X : Cx) (H0 : Hp) (ds : List Sd) (e : Expr) (d : Sd) : Prop := ∀ σ H Q, Ok H0 ds σ H → (∀ v H', Same H H' → SdV H' v d → (d.own = true → ∃ p, v = .ref p ∧ H p = none) → (d.own = false → ∀ (α : Type) (i : Dn α) (xs : List α), d ≠ @Sd.rl α i xs) → Q v H') → tw X e σ H Q
section
variable {X : Cx} {H0 : Hp} {ds : List Sd} {α β γ : Type} [Dn α] [Dn β] [Dn γ] {e e1 e2 e3 : Expr} {pos p : Pos} {D : Ends} {rest : List Stmt}
theorem EV.r {a : α} (h : EV X H0 ds e a) : ER X H0 ds e (.im a) := fun σ H Q o k => h σ H Q o fun v H' s d => k v H' s d (fun z => nomatch z) (fun _ _ _ _ z => nomatch z)
theorem EL.r {xs : List α} (h : EL X H0 ds e xs) : ER X H0 ds e (.ls xs) := fun σ H Q o k => h σ H Q o fun p H' s n d => k _ H' s ⟨p, rfl, d⟩ (fun _ => ⟨p, rfl, n⟩) (fun z => nomatch z)
theorem Ok.setD {H H' : Hp} {σ : St} (o : Ok H0 ds σ H) (i : Nat) {d : Sd} {v : V} (s : Same H H') (h : SdV H' v d) (f : d.own = true → ∃ p, v = .ref p ∧ H p = none) (nr : d.own = false → ∀ (α : Type) (i : Dn α) (xs : List α), d ≠ @Sd.rl α i xs) : Ok H0 (ds.set i d) (σ.set i (some v)) H' := by
  cases d with
  | any => exact (o.ext s).setAny i _
  | im a => exact (o.ext s).setIm i h
  | ob R =>
    obtain ⟨q, e, n⟩ := f rfl
    subst e
    exact o.setOwn i s n rfl h
  | ls xs =>
    obtain ⟨p, rfl, l⟩ := h
    obtain ⟨q, e, n⟩ := f rfl
    cases e
    exact o.setLs i s n l
  | rl xs => exact absurd rfl (nr rfl _ _ xs)
/-- a, b = x, y, plain names -/
theorem s_par {d1 d2 : Sd} (i j : Nat) {x y : Str} {px py pt : Pos} {kt k2 : Nat} {pt2 : Pos} (hc : X.calm = true) (hN : X.N.Nodup) (h1 : ER X H0 ds e1 d1) (h2 : ER X H0 ds e2 d2) (h : SS X H0 ((ds.set i d1).set j d2) rest D) (hi : X.N[i]? = some x := by rfl) (hj : X.N[j]? = some y := by rfl) (hij : i ≠ j := by decide)
    (hx : X.env.scope.names.lookup x = some .local := by rfl) (hy : X.env.scope.names.lookup y = some .local := by rfl) (hs1 : starEach [e1, e2] X.env = (false, eval e1 X.env) :: starEach [e2] X.env := by rfl) (hs2 : starEach [e2] X.env = (false, eval e2 X.env) :: starEach [] X.env := by rfl)
    (hw : swappedStores [.Tuple [.Name x px, .Name y py] kt pt] (.Tuple [e1, e2] k2 pt2) X.env = pure (some [x, y]) := by rfl)
    (hs : swapsWithSole [.Tuple [.Name x px, .Name y py] kt pt] (.Tuple [e1, e2] k2 pt2) pos.line X.env = pure false := by rfl) :
    SS X H0 ds (.Assign [.Tuple [.Name x px, .Name y py] kt pt] (.Tuple [e1, e2] k2 pt2) pos :: rest) D := s_cons fun σ H o =>
  (ps_par hc hN hi hj hij hx hy (pa_cons pe_tw (pa_cons pe_tw pa_nil hs2) hs1) hw hs).tw (h1 σ H _ o fun v H1 s1 q1 f1 n1 => h2 σ H1 _ (o.ext s1) fun w H2 s2 q2 f2 n2 =>
    ⟨v, w, rfl, h _ _ ((o.setD i s1 q1 f1 n1).setD j s2 q2 f2 n2)⟩)
theorem s_par3 {d1 d2 d3 : Sd} (i j l : Nat) {x y z : Str} {px py pz pt : Pos} {kt k2 : Nat} {pt2 : Pos} (hc : X.calm = true) (hN : X.N.Nodup) (h1 : ER X H0 ds e1 d1) (h2 : ER X H0 ds e2 d2) (h3 : ER X H0 ds e3 d3) (h : SS X H0 (((ds.set i d1).set j d2).set l d3) rest D) (hi : X.N[i]? = some x := by rfl) (hj : X.N[j]? = some y := by rfl) (hl : X.N[l]? = some z := by rfl)
    (hij : i ≠ j := by decide) (hil : i ≠ l := by decide) (hjl : j ≠ l := by decide) (hx : X.env.scope.names.lookup x = some .local := by rfl) (hy : X.env.scope.names.lookup y = some .local := by rfl) (hz : X.env.scope.names.lookup z = some .local := by rfl) (hs1 : starEach [e1, e2, e3] X.env = (false, eval e1 X.env) :: starEach [e2, e3] X.env := by rfl)
    (hs2 : starEach [e2, e3] X.env = (false, eval e2 X.env) :: starEach [e3] X.env := by rfl) (hs3 : starEach [e3] X.env = (false, eval e3 X.env) :: starEach [] X.env := by rfl)
    (hw : swappedStores [.Tuple [.Name x px, .Name y py, .Name z pz] kt pt] (.Tuple [e1, e2, e3] k2 pt2) X.env = pure (some [x, y, z]) := by rfl)
    (hs : swapsWithSole [.Tuple [.Name x px, .Name y py, .Name z pz] kt pt] (.Tuple [e1, e2, e3] k2 pt2) pos.line X.env = pure false := by rfl) :
    SS X H0 ds (.Assign [.Tuple [.Name x px, .Name y py, .Name z pz] kt pt] (.Tuple [e1, e2, e3] k2 pt2) pos :: rest) D := s_cons fun σ H o =>
  (ps_par3 hc hN hi hj hl hij hil hjl hx hy hz (pa_cons pe_tw (pa_cons pe_tw (pa_cons pe_tw pa_nil hs3) hs2) hs1) hw hs).tw (h1 σ H _ o fun v H1 s1 q1 f1 n1 => h2 σ H1 _ (o.ext s1) fun w H2 s2 q2 f2 n2 => h3 σ H2 _ ((o.ext s1).ext s2) fun u H3 s3 q3 f3 n3 =>
    ⟨v, w, u, rfl, h _ _ (((o.setD i s1 q1 f1 n1).setD j s2 q2 f2 n2).setD l s3 q3 f3 n3)⟩)
/-- a, b = x, y where one of the names is captured: by way of the pair -/
theorem s_parT {d1 d2 : Sd} (i j : Nat) {x y : Str} {px py pt : Pos} {kt k2 : Nat} {pt2 : Pos} (hc : X.calm = true) (hN : X.N.Nodup) (h1 : ER X H0 ds e1 d1) (h2 : ER X H0 ds e2 d2) (h : SS X H0 ((ds.set i d1).set j d2) rest D) (hi : X.N[i]? = some x := by rfl) (hj : X.N[j]? = some y := by rfl)
    (hx : Loc X.env.scope x := by first | exact Or.inl rfl | exact Or.inr rfl) (hy : Loc X.env.scope y := by first | exact Or.inl rfl | exact Or.inr rfl)
    (hf : X.fn x = true ∨ X.env.scope.names.lookup x = some .local := by first | exact .inl rfl | exact .inr rfl | assumption) (hfy : X.fn y = true ∨ X.env.scope.names.lookup y = some .local := by first | exact .inl rfl | exact .inr rfl | assumption)
    (hs1 : starEach [e1, e2] X.env = (false, eval e1 X.env) :: starEach [e2] X.env := by rfl) (hs2 : starEach [e2] X.env = (false, eval e2 X.env) :: starEach [] X.env := by rfl)
    (g1 : (assignEach [.Name x px, .Name y py] X.env).map (·.2) = assign (.Name x px) X.env :: (assignEach [.Name y py] X.env).map (·.2) := by rfl)
    (g2 : (assignEach [.Name y py] X.env).map (·.2) = assign (.Name y py) X.env :: (assignEach [] X.env).map (·.2) := by rfl)
    (hn : (assignEach [.Name x px, .Name y py] X.env).length = 2 := by rfl) (hst : (assignEach [.Name x px, .Name y py] X.env).findIdx? (·.1) = none := by rfl)
    (hs : swapsWithSole [.Tuple [.Name x px, .Name y py] kt pt] (.Tuple [e1, e2] k2 pt2) pos.line X.env = pure false := by rfl) (hw : swappedStores [.Tuple [.Name x px, .Name y py] kt pt] (.Tuple [e1, e2] k2 pt2) X.env = pure none := by rfl)
    (ha : (assignEach [.Tuple [.Name x px, .Name y py] kt pt] X.env).map (·.2) = [assign (.Tuple [.Name x px, .Name y py] kt pt) X.env] := by rfl) :
    SS X H0 ds (.Assign [.Tuple [.Name x px, .Name y py] kt pt] (.Tuple [e1, e2] k2 pt2) pos :: rest) D := s_cons fun σ H o =>
  (ps_asg (pe_tup (pa_cons pe_tw (pa_cons pe_tw pa_nil hs2) hs1)) (pg_tup hc (pgs_cons (pg_name hN hi hx hf) (pgs_cons (pg_name hN hj hy hfy) pgs_nil g2) g1) hn hst) hs hw ha).tw (h1 σ H _ o fun v H1 s1 q1 f1 n1 => h2 σ H1 _ (o.ext s1) fun w H2 s2 q2 f2 n2 =>
    ⟨by show 2 ≤ sizeLine; decide, fun q hq => ⟨q, [v, w], rfl, .of upd_same, rfl, v, [w], rfl, w, [], rfl, rfl, h _ _ (((o.setD i s1 q1 f1 n1).setD j s2 q2 f2 n2).ext (same_new hq))⟩⟩)
/-- a, b = e, e a pair -/
theorem s_set2 {a : α} {b : β} (i j : Nat) {x y : Str} {px py pt : Pos} {kt : Nat} (hc : X.calm = true) (hN : X.N.Nodup) (he : EV X H0 ds e (a, b)) (h : SS X H0 ((ds.set i (.im a)).set j (.im b)) rest D) (hi : X.N[i]? = some x := by rfl) (hj : X.N[j]? = some y := by rfl)
    (hx : Loc X.env.scope x := by first | exact Or.inl rfl | exact Or.inr rfl) (hy : Loc X.env.scope y := by first | exact Or.inl rfl | exact Or.inr rfl)
    (hf : X.fn x = true ∨ X.env.scope.names.lookup x = some .local := by first | exact .inl rfl | exact .inr rfl | assumption) (hfy : X.fn y = true ∨ X.env.scope.names.lookup y = some .local := by first | exact .inl rfl | exact .inr rfl | assumption)
    (g1 : (assignEach [.Name x px, .Name y py] X.env).map (·.2) = assign (.Name x px) X.env :: (assignEach [.Name y py] X.env).map (·.2) := by rfl)
    (g2 : (assignEach [.Name y py] X.env).map (·.2) = assign (.Name y py) X.env :: (assignEach [] X.env).map (·.2) := by rfl)
    (hn : (assignEach [.Name x px, .Name y py] X.env).length = 2 := by rfl) (hst : (assignEach [.Name x px, .Name y py] X.env).findIdx? (·.1) = none := by rfl)
    (hs : swapsWithSole [.Tuple [.Name x px, .Name y py] kt pt] e pos.line X.env = pure false := by rfl) (hw : swappedStores [.Tuple [.Name x px, .Name y py] kt pt] e X.env = pure none := by rfl)
    (ha : (assignEach [.Tuple [.Name x px, .Name y py] kt pt] X.env).map (·.2) = [assign (.Tuple [.Name x px, .Name y py] kt pt) X.env] := by rfl) :
    SS X H0 ds (.Assign [.Tuple [.Name x px, .Name y py] kt pt] e pos :: rest) D := s_cons fun σ H o =>
  (ps_asg pe_tw (pg_tup hc (pgs_cons (pg_name hN hi hx hf) (pgs_cons (pg_name hN hj hy hfy) pgs_nil g2) g1) hn hst) hs hw ha).tw (he σ H _ o fun v H' s d => by
    obtain ⟨q, u, w, rfl, hp, d1, d2⟩ := d
    exact ⟨q, _, rfl, .of hp, rfl, u, [w], rfl, w, [], rfl, rfl, h _ _ (((o.ext s).setIm i d1).setIm j d2)⟩)
/-- if c: .., c false -/
theorem s_skip {c : Expr} {sa : List Stmt} (hc : TV X H0 ds c false) (h : SS X H0 ds rest D) : SS X H0 ds (.If c sa [] pos :: rest) D := s_if hc (s_join h)
/-- if c: .. (it ends the def or falls through to the rest) -/
theorem s_ifb {c : Expr} {b : Bool} {sa : List Stmt} (hc : TV X H0 ds c b) (h1 : b = true → SS X H0 ds sa { D with nx := twSs X rest D }) (h2 : b = false → SS X H0 ds rest D) : SS X H0 ds (.If c sa [] pos :: rest) D := by
  cases b with
  | true => exact s_if hc (h1 rfl)
  | false => exact s_if hc (s_join (h2 rfl))
theorem c_inLN {n : Nat} {xs : List Nat} (ha : EV X H0 ds e1 n) (hb : EB X H0 ds e2 xs) : CV X H0 ds .In e1 e2 (xs.contains n) := ⟨_, op_in_seq, fun σ H Q o k => ha σ H _ o fun v H1 s1 d1 => hb σ H1 _ (o.ext s1) fun q H2 s2 d2 => by
  obtain ⟨vs, g1, g2⟩ := d2
  rw [dnsN g2, List.map_map] at g1
  cases (show v = _ from d1)
  refine ⟨q, _, rfl, .inl (.of g1), rfl, flatN xs, ?_⟩
  have e := inV_N n xs
  simp only [Bool.false_eq_true, if_false]
  rw [show (V.int ∘ fun (n : Nat) => (n : Int)) = fun (n : Nat) => V.int (n : Int) from rfl, e]
  exact k H2 (s1.trans s2)⟩
theorem c_notInLN {n : Nat} {xs : List Nat} (ha : EV X H0 ds e1 n) (hb : EB X H0 ds e2 xs) : CV X H0 ds .NotIn e1 e2 (!xs.contains n) := ⟨_, op_notIn_seq, fun σ H Q o k => ha σ H _ o fun v H1 s1 d1 => hb σ H1 _ (o.ext s1) fun q H2 s2 d2 => by
  obtain ⟨vs, g1, g2⟩ := d2
  rw [dnsN g2, List.map_map] at g1
  cases (show v = _ from d1)
  refine ⟨q, _, rfl, .inl (.of g1), rfl, flatN xs, ?_⟩
  have e := inV_N n xs
  simp only [if_true]
  rw [show (V.int ∘ fun (n : Nat) => (n : Int)) = fun (n : Nat) => V.int (n : Int) from rfl, e]
  exact k H2 (s1.trans s2)⟩
/-- the least of a list that is not empty -/
def minL (l : List Nat) : Nat := match l with
  | [] => 0
  | x :: xs => xs.foldl Nat.min x
def maxL (l : List Nat) : Nat := l.foldl Nat.max 0
end
theorem foldl_min : ∀ (xs : List Nat) (x : Nat), (xs.foldl Nat.min x = x ∨ xs.foldl Nat.min x ∈ xs) ∧ xs.foldl Nat.min x ≤ x ∧ ∀ y ∈ xs, xs.foldl Nat.min x ≤ y
  | [], x => ⟨.inl rfl, Nat.le_refl _, fun _ h => by cases h⟩
  | y :: ys, x => by
    obtain ⟨h1, h2, h3⟩ := foldl_min ys (Nat.min x y)
    rw [List.foldl_cons]
    have a : Nat.min x y ≤ x := Nat.min_le_left x y
    have b : Nat.min x y ≤ y := Nat.min_le_right x y
    refine ⟨?_, Nat.le_trans h2 a, fun z hz => ?_⟩
    · rcases h1 with h1 | h1
      · rw [h1]
        by_cases h : x ≤ y
        · exact .inl (Nat.min_eq_left h)
        · exact .inr (by rw [show Nat.min x y = y from Nat.min_eq_right (by omega)]; exact List.mem_cons_self)
      · exact .inr (List.mem_cons_of_mem _ h1)
    · rcases List.mem_cons.mp hz with rfl | hz
      · exact Nat.le_trans h2 b
      · exact h3 z hz
theorem minL_mem {l : List Nat} (h : l ≠ []) : minL l ∈ l := by
  match l, h with
  | x :: xs, _ =>
    rcases (foldl_min xs x).1 with e | e
    · show xs.foldl Nat.min x ∈ _
      rw [e]; exact List.mem_cons_self
    · exact List.mem_cons_of_mem _ e
theorem minL_le {l : List Nat} {y : Nat} (h : y ∈ l) : minL l ≤ y := by
  match l, h with
  | x :: xs, h =>
    rcases List.mem_cons.mp h with rfl | h
    · exact (foldl_min xs y).2.1
    · exact (foldl_min xs x).2.2 y h
theorem foldl_max : ∀ (xs : List Nat) (x : Nat), (xs.foldl Nat.max x = x ∨ xs.foldl Nat.max x ∈ xs) ∧ x ≤ xs.foldl Nat.max x ∧ ∀ y ∈ xs, y ≤ xs.foldl Nat.max x
  | [], x => ⟨.inl rfl, Nat.le_refl _, fun _ h => by cases h⟩
  | y :: ys, x => by
    obtain ⟨h1, h2, h3⟩ := foldl_max ys (Nat.max x y)
    rw [List.foldl_cons]
    have a : x ≤ Nat.max x y := Nat.le_max_left x y
    have b : y ≤ Nat.max x y := Nat.le_max_right x y
    refine ⟨?_, Nat.le_trans a h2, fun z hz => ?_⟩
    · rcases h1 with h1 | h1
      · rw [h1]
        by_cases h : x ≤ y
        · exact .inr (by rw [show Nat.max x y = y from Nat.max_eq_right h]; exact List.mem_cons_self)
        · exact .inl (Nat.max_eq_left (by omega))
      · exact .inr (List.mem_cons_of_mem _ h1)
    · rcases List.mem_cons.mp hz with rfl | hz
      · exact Nat.le_trans b h2
      · exact h3 z hz
theorem maxL_mem {l : List Nat} (h : l ≠ []) : maxL l ∈ l := by
  rcases (foldl_max l 0).1 with e | e
  · match l, h with
    | x :: xs, _ =>
      have := (foldl_max (x :: xs) 0).2.2 x List.mem_cons_self
      show List.foldl Nat.max 0 (x :: xs) ∈ x :: xs
      rw [e] at this ⊢
      have : x = 0 := by omega
      rw [this]; exact List.mem_cons_self
  · exact e
theorem maxL_le {l : List Nat} {y : Nat} (h : y ∈ l) : y ≤ maxL l := (foldl_max l 0).2.2 y h
/-- loops that only append -/
theorem foldl_app {α β : Type} (g : α → β) : ∀ (xs : List α) (acc : List β), xs.foldl (fun f x => f ++ [g x]) acc = acc ++ xs.map g
  | [], acc => by simp
  | x :: xs, acc => by rw [List.foldl_cons, foldl_app g xs]; simp
theorem foldl_appIf {α β : Type} (p : α → Bool) (g : α → β) : ∀ (xs : List α) (acc : List β), xs.foldl (fun f x => if p x then f ++ [g x] else f) acc = acc ++ (xs.filter p).map g
  | [], acc => by simp
  | x :: xs, acc => by
    rw [List.foldl_cons, foldl_appIf p g xs]
    by_cases h : p x = true
    · simp [h]
    · simp [h]
theorem foldl_flat {α β : Type} (g : α → List β) : ∀ (xs : List α) (acc : List β), xs.foldl (fun f x => f ++ g x) acc = acc ++ xs.flatMap g
  | [], acc => by simp
  | x :: xs, acc => by rw [List.foldl_cons, foldl_flat g xs]; simp
theorem mem_take_succ {α : Type} {xs : List α} {i : Nat} {x : α} (h : xs[i]? = some x) : x ∈ xs := List.mem_of_getElem? h
end L2.LX
/-! M: what the defs reckon, as plain functions. -/
namespace L2.LX
abbrev Hs := List (List Nat)
abbrev Gr := List (Nat × Nat)
def holdersM (h : Hs) (t : Nat) : List Nat := ((enumL h).filter fun z => z.2.contains t).map fun z => z.1
def thingsM (h : Hs) : List Nat := sset h.flatten
def spareM (h : Hs) (p : Nat) : List Nat := (h.getD p []).filter fun t => decide (1 < (holdersM h t).length)
def shareM (h : Hs) (a b : Nat) : Bool := ((h.getD a []).map fun t => (h.getD b []).contains t).any id
def pairsM (h : Hs) : Gr := (List.range h.length).flatMap fun a => ((List.range' (a + 1) (h.length - (a + 1))).filter fun b => shareM h a b).map fun b => (a, b)
def endM (h : Hs) : Bool := bqL (pairsM h) []
/-! the web -/
def groupStep (g : List Nat) (z : Nat × Nat) : List Nat := g.map fun n => if n == g.getD z.2 0 then g.getD z.1 0 else n
def groupM (n : Nat) (E : Gr) : List Nat := E.foldl groupStep (List.range n)
def groupsM (n : Nat) (E : Gr) : Hs := srt ((sset (groupM n E)).map fun k => (List.range n).filter fun p => (groupM n E).getD p 0 == k)
def coverM (E : Gr) (p : List Nat) : Bool := (E.map fun z => p.contains z.1 || p.contains z.2).all id
def choicesM (n : Nat) : Hs := (List.range n).foldl (fun f p => f ++ f.map fun r => r ++ [p]) [[]]
def coversM (n : Nat) (E : Gr) : Hs := srt ((choicesM n).filter fun p => coverM E p)
def leastOf (some : Hs) : Hs := some.filter fun p => p.length == minL (some.map fun q => q.length)
def leastM (n : Nat) (E : Gr) : Hs := leastOf (coversM n E)
def callsM (n : Nat) (E : Gr) : Nat := ((leastM n E).getD 0 []).length
def factM (n : Nat) : Nat := (List.range' 2 (n + 1 - 2)).foldl (fun f k => f * k) 1
def waysM (n : Nat) (E : Gr) : Nat := factM (callsM n E) * (leastM n E).length
def countM (n : Nat) (E : Gr) : List Nat := (List.range (n + 1)).map fun k => ((coversM n E).map fun q => q.length).count k
def apartM (n : Nat) (E : Gr) : Hs := srt ((leastM n E).map fun p => (List.range n).filter fun q => !p.contains q)
def mpTurn (z : Nat × Nat) (t : List (List Nat × Nat) × Nat) (x : List Nat × Nat) : List (List Nat × Nat) × Nat := if !x.1.contains z.1 && !x.1.contains z.2 then (t.1 ++ [(x.1 ++ [z.1, z.2], x.2 + 1)], max t.2 (x.2 + 1)) else t
def mpStep (s : Nat × List (List Nat × Nat)) (z : Nat × Nat) : Nat × List (List Nat × Nat) := ((s.2.foldl (mpTurn z) ([], s.1)).2, s.2 ++ (s.2.foldl (mpTurn z) ([], s.1)).1)
def mostPairsM (E : Gr) : Nat := (E.foldl mpStep (0, [([], 0)])).1
def fitM (n : Nat) (E : Gr) : Hs := (choicesM n).filter fun r => coverM E ((List.range n).filter fun o => !r.contains o)
def lockedM (n : Nat) (E : Gr) : Hs := srt ((fitM n E).filter fun r => r.length == maxL ((fitM n E).map fun q => q.length))
def linkedM (E : Gr) (p : Nat) : List Nat := srtN ((E.filter fun z => [z.1, z.2].contains p).map fun z => z.1 + z.2 - p)
def linksM (n : Nat) (E : Gr) : List Nat := (List.range n).map fun p => (linkedM E p).length
def leastB {α : Type} [Lo α] (d : α) (l : List α) : α := match l with
  | [] => d
  | x :: xs => minB x xs
def mostLinkedM (n : Nat) (E : Gr) : Int × Nat := let z := leastB ((0 : Int), (0 : Nat)) ((List.range n).map fun p => (-(((linkedM E p).length : Nat) : Int), p)); (-z.1, z.2)
def clubsUp (n : Nat) (E : Gr) : Hs := (List.range n).foldl (fun f p => f ++ (f.filter fun r => (r.map fun o => hasB (o, p) E).all id).map fun r => r ++ [p]) [[]]
def partM (a b : List Nat) : Bool := decide (a.length < b.length) && (a.map fun p => b.contains p).all id
def clubsF (n : Nat) (E : Gr) : Hs := (clubsUp n E).filter fun r => !bqL r []
def clubsM (n : Nat) (E : Gr) : Hs := srt ((clubsF n E).filter fun r => !((clubsF n E).map fun o => partM r o).any id)
def clubM (n : Nat) (E : Gr) : Int × List Nat := let z := leastB ((0 : Int), ([] : List Nat)) ((clubsM n E).map fun r => (-((r.length : Nat) : Int), r)); (-z.1, z.2)
def treeM (n : Nat) (E : Gr) : Bool := (groupsM n E).length == 1 && E.length == n - 1
def colOk (E : Gr) (p : Nat) (r : List Nat) (c : Nat) : Bool := ((E.filter fun z => z.2 == p).map fun z => !(r.getD z.1 0 == c)).all id
def colStep (E : Gr) (many : Nat) (f : Hs) (p : Nat) : Hs := f.flatMap fun r => ((List.range many).filter fun c => colOk E p r c).map fun c => r ++ [c]
def colM (n : Nat) (E : Gr) (many : Nat) : Hs := (List.range n).foldl (colStep E many) [[]]
def colFrom (n : Nat) (E : Gr) : Nat → Nat → Nat
  | 0, m => m
  | f + 1, m => if (colM n E m).isEmpty then colFrom n E f (m + 1) else m
def coloursM (n : Nat) (E : Gr) : Nat := colFrom n E n 1
end L2.LX
/-! D1: the checks, holders, pairs. -/
namespace L2.LX
open PySem PySem.Spec PyProof.Rows PySem.W
section
variable {P : Program} {w : World} {K : PySem.W.Frag} {mg : Str → Option Value} {base : Heap}
theorem sc_is_integer : FnScope ["value"] ["value"] (defScope (topS 1)) := ⟨rfl, rfl, rfl, by decide +kernel, rfl, by decide +kernel, by decide +kernel⟩
theorem ok_is_integer (D : Def K mg "is_integer" (topS 1) ["value"]) (B : Bt mg) : Has P w K mg base 1 "is_integer" ["value"] (spV (fun a : Nat => [.im a]) (fun _ => True) (fun _ => true)) :=
  defV D sc_is_integer (fun _ => rfl) no1 (by decide) fun f cdv Ar outer s H E a hr hp D kk => by
    refine s_ret (e_and (e_isiN (b := "int") kit_ii B.isinstance B.int boot_intT (e_var 0 rfl)) (fun _ => e_not (e_isiN (b := "int") kit_ib B.isinstance B.bool boot_boolT (e_var 0 rfl)))) ?_
    exact kk
theorem sc_is_in : FnScope ["value", "least", "most"] ["value", "least", "most"] (defScope (topS 2)) := ⟨rfl, rfl, rfl, by decide +kernel, rfl, by decide +kernel, by decide +kernel⟩
theorem ok_is_in (D : Def K mg "is_in" (topS 2) ["value", "least", "most"]) (B : Bt mg) (h_is_integer : Has P w K mg base 1 "is_integer" ["value"] (spV (fun a : Nat => [.im a]) (fun _ => True) (fun _ => true))) :
    Has P w K mg base 2 "is_in" ["value", "least", "most"] (spV (fun a : Nat × Nat × Nat => [.im a.1, .im a.2.1, .im a.2.2]) (fun _ => True) (fun a => decide (a.2.1 ≤ a.1) && decide (a.1 ≤ a.2.2))) :=
  defV D sc_is_in (fun _ => rfl) no3 (by decide) fun f cdv Ar outer s H E a hr hp D kk => by
    refine s_ret (e_and (e_call1 h_is_integer (hr.mono (by decide)) (e_var 0 rfl) ?_) (fun _ => (e_chain (e_var 1 rfl) (e_var 0 rfl) (e_var 2 rfl)))) kk
    exact trivial
theorem sc_is_list : FnScope ["value", "least", "most"] ["value", "least", "most"] (defScope (topS 3)) := ⟨rfl, rfl, rfl, by decide +kernel, rfl, by decide +kernel, by decide +kernel⟩
theorem ok_is_list {α : Type} [Dn α] (D : Def K mg "is_list" (topS 3) ["value", "least", "most"]) (B : Bt mg) : Has P w K mg base 1 "is_list" ["value", "least", "most"] (spV (fun a : List α × Nat × Nat => [.im a.1, .im a.2.1, .im a.2.2]) (fun _ => True) (fun a => decide (a.2.1 ≤ a.1.length) && decide (a.1.length ≤ a.2.2))) :=
  defV D sc_is_list (fun _ => rfl) no3 (by decide) fun f cdv Ar outer s H E a hr hp D kk => by
    refine s_ret (e_and (e_isiT B.isinstance B.tuple (e_var 0 rfl)) (fun _ => (e_chain (e_var 1 rfl) (e_lenT B.len (e_var 0 rfl)) (e_var 2 rfl)))) ?_
    exact kk
abbrev spHold : Sp := spL (fun a : List (List Nat) × Nat => [.im a.1, .im a.2]) (fun _ => True) (fun a => ((enumL a.1).filter (fun z => z.2.contains a.2)).map (fun z => z.1))
theorem sc_holders_in : FnScope ["hands", "thing", "person", "hand"] ["hands", "thing"] (defScope (topS 13)) := ⟨rfl, rfl, rfl, by decide +kernel, rfl, by decide +kernel, by decide +kernel⟩
theorem ok_holders_in (D : Def K mg "holders_in" (topS 13) ["hands", "thing"]) (B : Bt mg) : Has P w K mg base 1 "holders_in" ["hands", "thing"] spHold :=
  defL D sc_holders_in (fun _ => rfl) no2 (by decide) fun f cdv Ar outer s H E a hr hp D kk =>
    s_retL (l_comp (own := [("person", 2), ("hand", 3)]) rfl sc_holders_in.nd ⟨(i_enum B.enumerate (e_var 0 rfl)).c, blkOk_by (N := ["hands", "thing", "person", "hand"]) (sc := (defScope (topS 13))) (by decide +kernel), by decide, fun _ _ _ _ _ => (g_pair 2 3 rfl sc_holders_in.nd), fun _ _ _ _ _ x hx => ts_one (t_cmp (c_inT (e_var 1 rfl) (e_var 3 rfl))), fun _ _ _ _ _ x hx ht => (e_var 2 rfl)⟩) kk
end
end L2.LX
/-! D2: hands, pairs, groups. -/
namespace L2.LX
open PySem PySem.Spec PyProof.Rows PySem.W
structure Gt (mg : Str → Option Value) : Prop where
  MOST_PEOPLE : ∃ t, mg "MOST_PEOPLE" = some (.int 7 t)
  MOST_THINGS : ∃ t, mg "MOST_THINGS" = some (.int 8 t)
theorem flat_len7 : ∀ (xs : Hs), (∀ x ∈ xs, x.length ≤ 7) → xs.flatten.length ≤ 7 * xs.length
  | [], _ => by simp
  | x :: xs, h => by
    have h1 := h x List.mem_cons_self
    have h2 := flat_len7 xs fun z hz => h z (List.mem_cons_of_mem _ hz)
    rw [List.flatten_cons, List.length_append, List.length_cons]
    omega
section
variable {P : Program} {w : World} {K : PySem.W.Frag} {mg : Str → Option Value} {base : Heap}
abbrev spIn : Sp := spV (fun a : Nat × Nat × Nat => [.im a.1, .im a.2.1, .im a.2.2]) (fun _ => True) (fun a => decide (a.2.1 ≤ a.1) && decide (a.1 ≤ a.2.2))
abbrev spList (α : Type) [Dn α] : Sp := spV (fun a : List α × Nat × Nat => [.im a.1, .im a.2.1, .im a.2.2]) (fun _ => True) (fun a => decide (a.2.1 ≤ a.1.length) && decide (a.1.length ≤ a.2.2))
abbrev spHand : Sp := spV (fun a : List Nat => [.im a]) (fun a => a.Pairwise (· < ·) ∧ ∀ t ∈ a, t < 7) (fun _ => true)
abbrev spNeed : Sp := spN (fun a : Hs => [.im a]) HOk
abbrev spThings : Sp := spL (fun a : Hs => [.im a]) HOk thingsM
abbrev spSpare : Sp := spL (fun a : Hs × Nat => [.im a.1, .im a.2]) (fun a => a.2 < a.1.length) (fun a => spareM a.1 a.2)
abbrev spPairs : Sp := spL (fun a : Hs => [.im a]) HOk pairsM
abbrev spPairsT : Sp := spV (fun a : Hs => [.im a]) HOk pairsM
abbrev spGroups : Sp := spL (fun a : Hs => [.im a]) HOk (fun h => groupsM h.length (pairsM h))
abbrev spGroupsT : Sp := spV (fun a : Hs => [.im a]) HOk (fun h => groupsM h.length (pairsM h))
abbrev spEnd : Sp := spV (fun a : Hs => [.im a]) HOk endM
theorem sc_is_hand : FnScope ["value", "thing"] ["value"] (defScope (topS 10)) := ⟨rfl, rfl, rfl, by decide +kernel, rfl, by decide +kernel, by decide +kernel⟩
theorem ok_is_hand (D : Def K mg "is_hand" (topS 10) ["value"]) (B : Bt mg) (T : Gt mg) (h_is_in : Has P w K mg base 2 "is_in" ["value", "least", "most"] spIn) (h_is_list : Has P w K mg base 1 "is_list" ["value", "least", "most"] (spList Nat)) :
    Has P w K mg base 3 "is_hand" ["value"] spHand :=
  defV D sc_is_hand (fun _ => rfl) no1 (by decide) fun f cdv Ar outer s H E a hr hp D kk => by
    obtain ⟨up, lo⟩ := hp
    obtain ⟨_, hMT⟩ := T.MOST_THINGS
    have hlen : a.length ≤ 7 := sorted_few 7 a up lo
    have lo8 : ∀ t ∈ a, t < 8 := fun t ht => Nat.lt_succ_of_lt (lo t ht)
    refine s_skip (((t_or (t_not (t_val (e_call3 h_is_list (hr.mono (by decide)) (e_var 0 rfl) (e_nat 0) (e_gl 8 hMT ⟨_, rfl⟩) trivial))) (fun _ => (t_not (t_val (e_all B.all rfl (l_compM (own := [("thing", 1)]) rfl sc_is_hand.nd ⟨(i_tup (e_var 0 rfl)).c, blkOk_by (N := ["value", "thing"]) (sc := (defScope (topS 10))) (by decide +kernel), by decide, fun _ _ _ _ _ => (g_name 1 sc_is_hand.nd), fun _ _ _ _ _ x hx => ts_nil, fun _ _ _ _ _ x hx ht => (e_call3 h_is_in (hr.mono (by decide)) (e_var 1 rfl) (e_nat 0) (e_subN (e_gl 8 hMT ⟨_, rfl⟩) (e_nat 1) ?_) trivial)⟩).b)))))).as ?_) ?_
    · decide
    · have h1 : (a.map fun x => decide (0 ≤ x) && decide (x ≤ 8 - 1)).all id = true := by
        rw [List.all_map, List.all_eq_true]
        intro x hx
        have := lo x hx
        simp
        omega
      show (!(decide (0 ≤ a.length) && decide (a.length ≤ 8)) || !(a.map fun x => decide (0 ≤ x) && decide (x ≤ 8 - 1)).all id) = false
      rw [h1]
      simp
      omega
    refine s_ret (e_eq (e_cmp (c_eqL hr.units (l_list B.list (e_var 0 rfl)).b (l_ssetT ?_ ?_ rfl B.sorted B.set (e_var 0 rfl)).b)) ?_) kk
    · exact lo8
    · omega
    · show bqL a (sset a) = true
      rw [sset_self up lo8]
      exact (bqL_iff a a).mpr rfl
theorem sc_need_hands : FnScope ["hands", "index", "hand"] ["hands"] (defScope (topS 11)) := ⟨rfl, rfl, rfl, by decide +kernel, rfl, by decide +kernel, by decide +kernel⟩
theorem ok_need_hands (D : Def K mg "need_hands" (topS 11) ["hands"]) (B : Bt mg) (T : Gt mg) (h_is_list : Has P w K mg base 1 "is_list" ["value", "least", "most"] (spList (List Nat))) (h_is_hand : Has P w K mg base 3 "is_hand" ["value"] spHand) :
    Has P w K mg base 4 "need_hands" ["hands"] spNeed :=
  defN D sc_need_hands (fun _ => rfl) no1 (by decide) fun f cdv Ar outer s H E a hr hp D kk => by
    obtain ⟨_, hMP⟩ := T.MOST_PEOPLE
    refine s_skip (((t_not (t_val (e_call3 h_is_list (hr.mono (by decide)) (e_var 0 rfl) (e_nat 1) (e_gl 7 hMP ⟨_, rfl⟩) trivial)))).as ?_) ?_
    · have := hp.n1
      have := hp.n5
      simp
      omega
    refine s_for (S := Unit) (fun _ => [.im a, .any, .any]) (fun _ _ => ()) (fun _ _ => True) () PassesOwn.never rfl (Wk.refl _) trivial (i_enum B.enumerate (e_var 0 rfl)) (g_pair 1 2 rfl sc_need_hands.nd) (fun H1 s1 i s x hx _ => ⟨trivial, fun N bk hN => ?_⟩) (fun _ => s_nil fun σ H o => kk σ H o.same)
    have hm : x.2 ∈ a := by
      have := List.mem_of_getElem? hx
      unfold enumL at this
      obtain ⟨z, hz, rfl⟩ := List.mem_map.mp this
      exact (List.mem_zipIdx' hz).2 ▸ List.getElem_mem _
    refine s_skip (((t_not (t_val (e_call1 h_is_hand (hr.mono (by decide)) (e_var 2 rfl) ?_)))).as ?_) ?_
    · exact ⟨hp.up _ hm, hp.lo _ hm⟩
    · rfl
    exact s_nil fun σ H o => hN σ H (o.weak (.same (.any (.any .nil))))
theorem sc_things_in : FnScope ["hands", "hand", "thing"] ["hands"] (defScope (topS 12)) := ⟨rfl, rfl, rfl, by decide +kernel, rfl, by decide +kernel, by decide +kernel⟩
theorem ok_things_in (D : Def K mg "things_in" (topS 12) ["hands"]) (B : Bt mg) : Has P w K mg base 1 "things_in" ["hands"] spThings :=
  defL D sc_things_in (fun _ => rfl) no1 (by decide) fun f cdv Ar outer s H E a hr hp D kk => by
    refine s_retL (l_ssetL ?_ ?_ rfl B.sorted B.set (l_flat (own := [("hand", 1), ("thing", 2)]) 1 2 rfl sc_things_in.nd (i_tup (e_var 0 rfl)).c (blkOk_by (N := ["hands", "hand", "thing"]) (sc := (defScope (topS 12))) (by decide +kernel)) rfl rfl (by decide) rfl rfl rfl (fun _ _ => by first | exact Or.inl rfl | exact Or.inr rfl) (fun _ _ => by first | exact Or.inl rfl | exact Or.inr rfl) (fun _ _ => by first | exact .inl rfl | exact .inr rfl) (fun _ _ => by first | exact .inl rfl | exact .inr rfl) ?_ ?_).b) kk
    · intro x hx
      obtain ⟨y, hy, hxy⟩ := List.mem_flatten.mp hx
      exact Nat.lt_succ_of_lt (hp.lo y hy x hxy)
    · have h1 := flat_len7 a (fun x hx => hp.len hx)
      have := hp.n5
      omega
    · have := hp.n5
      omega
    · exact fun x hx => Nat.le_trans (hp.len hx) (by decide)
theorem sc_spare_in : FnScope ["hands", "person", "thing"] ["hands", "person"] (defScope (topS 14)) := ⟨rfl, rfl, rfl, by decide +kernel, rfl, by decide +kernel, by decide +kernel⟩
theorem ok_spare_in (D : Def K mg "spare_in" (topS 14) ["hands", "person"]) (B : Bt mg) (h_holders_in : Has P w K mg base 1 "holders_in" ["hands", "thing"] spHold) : Has P w K mg base 2 "spare_in" ["hands", "person"] spSpare :=
  defL D sc_spare_in (fun _ => rfl) no2 (by decide) fun f cdv Ar outer s H E a hr hp D kk => by
    refine s_retL (l_compF (own := [("thing", 2)]) rfl sc_spare_in.nd ⟨(i_tup (e_ixTd [] (e_var 0 rfl) (e_var 1 rfl) ?_)).c, blkOk_by (N := ["hands", "person", "thing"]) (sc := (defScope (topS 14))) (by decide +kernel), by decide, fun _ _ _ _ _ => (g_name 2 sc_spare_in.nd), fun _ _ _ _ _ x hx => ts_one (t_cmp (c_gtN (e_lenL B.len (l_call2 h_holders_in (hr.mono (by decide)) (e_var 0 rfl) (e_var 2 rfl) trivial).b) (e_nat 1))), fun _ _ _ _ _ x hx ht => (e_var 2 rfl)⟩) ?_
    · exact hp
    · exact kk
theorem sc_pairs_in : FnScope ["hands", "found", "one", "other", "thing"] ["hands"] (defScope (topS 15)) := ⟨rfl, rfl, rfl, by decide +kernel, rfl, by decide +kernel, by decide +kernel⟩
theorem ok_pairs_in (D : Def K mg "pairs_in" (topS 15) ["hands"]) (B : Bt mg) : Has P w K mg base 1 "pairs_in" ["hands"] spPairs :=
  defL D sc_pairs_in (fun _ => rfl) no1 (by decide) fun f cdv Ar outer s H E a hr hp D kk => by
    have n5 := hp.n5
    refine s_setL 1 sc_pairs_in.nd (l_nil (α := Nat × Nat)) ?_
    refine s_for (S := Gr) (fun F => [.im a, .ls F, .any, .any, .any]) (fun F one => F ++ ((List.range' (one + 1) (a.length - (one + 1))).filter fun b => shareM a one b).map fun b => (one, b)) (fun i F => F.length ≤ 5 * i) [] PassesOwn.never rfl (Wk.refl _) (Nat.zero_le _) (i_rng B.range (e_lenT B.len (e_var 0 rfl)) ?_) (g_name 2 sc_pairs_in.nd) (fun H1 s1 i F one hone g => ?_) (fun g => ?_)
    · rw [sizeLine_eq]; omega
    · have hone' : one < a.length := List.mem_range.mp (List.mem_of_getElem? hone)
      have hi : i < 5 := by
        have := (List.getElem?_eq_some_iff.mp hone).1
        rw [List.length_range] at this
        omega
      have hfl := List.length_filter_le (fun b => shareM a one b) (List.range' (one + 1) (a.length - (one + 1)))
      rw [List.length_range'] at hfl
      refine ⟨by rw [List.length_append, List.length_map]; omega, fun N bk hN => ?_⟩
      refine s_for (S := Gr) (fun F' => [.im a, .ls F', .im one, .any, .any]) (fun F' other => if shareM a one other then F' ++ [(one, other)] else F') (fun j F' => F'.length ≤ 5 * i + j) F PassesOwn.never rfl (Wk.refl _) g (i_rng2 B.range (e_addN (e_var 2 rfl) (e_nat 1)) (e_lenT B.len (e_var 0 rfl)) ?_ ?_) (g_name 3 sc_pairs_in.nd) (fun H2 s2 j F' other ho g' => ?_) (fun _ => ?_)
      · rw [sizeLine_eq]; omega
      · rw [sizeLine_eq]; omega
      · have hj : j < a.length - (one + 1) := by
          have := (List.getElem?_eq_some_iff.mp ho).1
          rw [List.length_range'] at this
          exact this
        have ho' : other < a.length := by
          have := List.mem_range'.mp (List.mem_of_getElem? ho)
          omega
        refine ⟨by split <;> (try rw [List.length_append, List.length_singleton]) <;> omega, fun N bk hN => ?_⟩
        refine s_ifb (((t_val (e_any B.any rfl (l_compM (own := [("thing", 4)]) rfl sc_pairs_in.nd ⟨(i_tup (e_ixTd [] (e_var 0 rfl) (e_var 2 rfl) ?_)).c, blkOk_by (N := ["hands", "found", "one", "other", "thing"]) (sc := (defScope (topS 15))) (by decide +kernel), by decide, fun _ _ _ _ _ => (g_name 4 sc_pairs_in.nd), fun _ _ _ _ _ x hx => ts_nil, fun _ _ _ _ _ x hx ht => (e_cmp (c_inT (e_var 4 rfl) (e_ixTd [] (e_var 0 rfl) (e_var 3 rfl) ?_)))⟩).b))).as (c := shareM a one other) ?_) (fun e => ?_) (fun e => ?_)
        · exact hone'
        · exact ho'
        · rfl
        · refine s_app 1 rfl (e_pair (e_var 2 rfl) (e_var 3 rfl)) (by rw [sizeLine_eq]; omega) (s_join (s_nil fun σ H o => hN σ H ?_))
          rw [e]
          exact o.weak (.same (.same (.same (.any (.any .nil)))))
        · refine s_nil fun σ H o => hN σ H ?_
          rw [e]
          exact o.weak (.same (.same (.same (.any (.any .nil)))))
      · rw [foldl_appIf]
        exact s_nil fun σ H o => hN σ H (o.weak (.same (.same (.any (.any (.any .nil))))))
    · rw [foldl_flat, List.nil_append]
      exact s_retV 1 rfl kk
theorem sc_pairs : FnScope ["hands"] ["hands"] (defScope (topS 16)) := ⟨rfl, rfl, rfl, by decide +kernel, rfl, by decide +kernel, by decide +kernel⟩
theorem ok_pairs (D : Def K mg "pairs" (topS 16) ["hands"]) (B : Bt mg) (h_need_hands : Has P w K mg base 4 "need_hands" ["hands"] spNeed) (h_pairs_in : Has P w K mg base 1 "pairs_in" ["hands"] spPairs) : Has P w K mg base 5 "pairs" ["hands"] spPairsT :=
  defV D sc_pairs (fun _ => rfl) no1 (by decide) fun f cdv Ar outer s H E a hr hp D kk =>
    s_callN h_need_hands hr (e_var 0 rfl) hp (s_ret (e_tuple B.tuple (l_call1 h_pairs_in (hr.mono (by decide)) (e_var 0 rfl) hp).b) kk)
end
end L2.LX
/-! D3: groups, covers. -/
namespace L2.LX
open PySem PySem.Spec PyProof.Rows PySem.W
section
variable {X : Cx} {H0 : Hp} {ds : List Sd} {e : Expr} {pos p : Pos}
theorem e_minL {ns : List Nat} (hm : X.mg "min" = none) (hc : X.calm = true) (h : EB X H0 ds e ns) (h0 : ns ≠ []) (hg : Gl X "min" := by rfl) (hs : starEach [e] X.env = (false, eval e X.env) :: starEach [] X.env := by rfl) (hpl : (backTo pos (starEach [] X.env)).any (·.1) = false := by rfl) : EV X H0 ds (.Call (.Name "min" p) [e] [] pos) (minL ns) :=
  e_minN hm hc h (minL_mem h0) (fun _ hy => minL_le hy) hg hs hpl
theorem e_maxL {ns : List Nat} (hm : X.mg "max" = none) (hc : X.calm = true) (h : EB X H0 ds e ns) (h0 : ns ≠ []) (hg : Gl X "max" := by rfl) (hs : starEach [e] X.env = (false, eval e X.env) :: starEach [] X.env := by rfl) (hpl : (backTo pos (starEach [] X.env)).any (·.1) = false := by rfl) : EV X H0 ds (.Call (.Name "max" p) [e] [] pos) (maxL ns) :=
  e_maxN hm hc h (maxL_mem h0) (fun _ hy => maxL_le hy) hg hs hpl
end
/-! ### facts of the web -/
structure GOk (n : Nat) (E : Gr) : Prop where
  n1 : 1 ≤ n
  n5 : n ≤ 5
  lt : ∀ z ∈ E, z.1 < z.2 ∧ z.2 < n
theorem pairsM_ok {h : Hs} (o : HOk h) : GOk h.length (pairsM h) := ⟨o.n1, o.n5, fun z hz => by
  unfold pairsM at hz
  obtain ⟨a, ha, hz⟩ := List.mem_flatMap.mp hz
  obtain ⟨b, hb, rfl⟩ := List.mem_map.mp hz
  have h1 := List.mem_range'.mp (List.mem_filter.mp hb).1
  have h2 := List.mem_range.mp ha
  simp only
  omega⟩
theorem groupStep_ok {n : Nat} {g : List Nat} {z : Nat × Nat} (h : g.length = n ∧ ∀ x ∈ g, x < n) (hz : z.1 < n) : (groupStep g z).length = n ∧ ∀ x ∈ groupStep g z, x < n := by
  unfold groupStep
  refine ⟨by rw [List.length_map]; exact h.1, fun x hx => ?_⟩
  obtain ⟨y, hy, rfl⟩ := List.mem_map.mp hx
  split
  · refine h.2 _ ?_
    rw [List.getD_eq_getElem?_getD, List.getElem?_eq_getElem (by omega)]
    exact List.getElem_mem _
  · exact h.2 y hy
theorem groups_ne {n : Nat} {g : List Nat} (h : g.length = n) (k : Nat) (hk : k ∈ sset g) : ((List.range n).filter fun p => g.getD p 0 == k) ≠ [] := by
  have hk' : k ∈ g := by
    have := (List.mem_filter.mp hk).2
    simpa using this
  obtain ⟨i, hi, e⟩ := List.getElem_of_mem hk'
  intro z
  have : i ∈ ((List.range n).filter fun p => g.getD p 0 == k) := List.mem_filter.mpr ⟨List.mem_range.mpr (by omega), by rw [List.getD_eq_getElem?_getD, List.getElem?_eq_getElem hi]; simp [e]⟩
  rw [z] at this
  cases this
theorem choices_shape : ∀ n, ∃ r : Hs, choicesM n = [] :: r ∧ (∀ x ∈ r, x ≠ []) ∧ (choicesM n).length = 2 ^ n ∧ ∀ x ∈ choicesM n, x.length ≤ n
  | 0 => by
    refine ⟨[], rfl, fun x h => (List.not_mem_nil h).elim, rfl, fun x hx => ?_⟩
    have : x = [] := by simpa [choicesM] using hx
    rw [this]; exact Nat.le_refl _
  | n + 1 => by
    obtain ⟨r, h1, h2, h3, h4⟩ := choices_shape n
    have e : choicesM (n + 1) = choicesM n ++ (choicesM n).map fun r => r ++ [n] := by
      unfold choicesM
      rw [List.range_succ, List.foldl_append]
      rfl
    refine ⟨r ++ (choicesM n).map fun r => r ++ [n], by rw [e, h1]; rfl, fun x hx => ?_, ?_, fun x hx => ?_⟩
    · rcases List.mem_append.mp hx with hx | hx
      · exact h2 x hx
      · obtain ⟨y, _, rfl⟩ := List.mem_map.mp hx
        simp
    · rw [e, List.length_append, List.length_map, h3, Nat.pow_succ]
      omega
    · rw [e] at hx
      rcases List.mem_append.mp hx with hx | hx
      · exact Nat.le_succ_of_le (h4 x hx)
      · obtain ⟨y, hy, rfl⟩ := List.mem_map.mp hx
        have := h4 y hy
        rw [List.length_append, List.length_singleton]
        omega
theorem choices_step (n : Nat) : choicesM (n + 1) = choicesM n ++ (choicesM n).map fun r => r ++ [n] := by
  unfold choicesM
  rw [List.range_succ, List.foldl_append]
  rfl
theorem filter_shape {xs : Hs} (p : List Nat → Bool) (h : ∃ r : Hs, xs = [] :: r ∧ ∀ x ∈ r, x ≠ []) : (∀ x ∈ xs.filter p, x ≠ []) ∨ ∃ ys, xs.filter p = [] :: ys := by
  obtain ⟨r, rfl, h2⟩ := h
  by_cases e : p [] = true
  · exact .inr ⟨r.filter p, by rw [List.filter_cons, if_pos e]⟩
  · refine .inl fun x hx => ?_
    rw [List.filter_cons, if_neg e] at hx
    exact h2 x (List.mem_filter.mp hx).1
theorem range_choice : ∀ n, List.range n ∈ choicesM n
  | 0 => by simp [choicesM]
  | n + 1 => by
    rw [choices_step, List.range_succ]
    exact List.mem_append_right _ (List.mem_map.mpr ⟨_, range_choice n, rfl⟩)
theorem cover_all {n : Nat} {E : Gr} (g : GOk n E) : coverM E (List.range n) = true := by
  unfold coverM
  rw [List.all_map, List.all_eq_true]
  intro z hz
  have := g.lt z hz
  simp
  omega
theorem covers_mem {n : Nat} {E : Gr} (x : List Nat) : x ∈ coversM n E ↔ x ∈ choicesM n ∧ coverM E x = true := by
  unfold coversM srt
  rw [(isort_perm _).mem_iff, List.mem_filter]
theorem covers_ne {n : Nat} {E : Gr} (g : GOk n E) : coversM n E ≠ [] := fun z => by
  have := (covers_mem (n := n) (E := E) (List.range n)).mpr ⟨range_choice n, cover_all g⟩
  rw [z] at this
  cases this
theorem leastOf_ne {s : Hs} (h : s ≠ []) : leastOf s ≠ [] := by
  have h1 : s.map (fun q => q.length) ≠ [] := by simpa using h
  obtain ⟨q, hq, e⟩ := List.mem_map.mp (minL_mem h1)
  intro z
  have : q ∈ leastOf s := List.mem_filter.mpr ⟨hq, by simp [e]⟩
  rw [z] at this
  cases this
theorem least_ne {n : Nat} {E : Gr} (g : GOk n E) : leastM n E ≠ [] := leastOf_ne (covers_ne g)
theorem least_len {n : Nat} {E : Gr} (x : List Nat) (h : x ∈ leastM n E) : x.length ≤ n := by
  obtain ⟨_, _, _, _, h4⟩ := choices_shape n
  exact h4 x ((covers_mem x).mp (List.mem_filter.mp h).1).1
theorem getD_mem {α : Type} {l : List α} (d : α) (h : l ≠ []) : l.getD 0 d ∈ l := by
  match l, h with
  | x :: xs, _ => exact List.mem_cons_self
theorem pos_of_ne {α : Type} {l : List α} (h : l ≠ []) : 0 < l.length := by
  match l, h with
  | x :: xs, _ => exact Nat.succ_pos _
theorem calls_le {n : Nat} {E : Gr} (g : GOk n E) : callsM n E ≤ n := least_len _ (getD_mem [] (least_ne g))
section
variable {P : Program} {w : World} {K : PySem.W.Frag} {mg : Str → Option Value} {base : Heap}
abbrev HNeed (P : Program) (w : World) (K : PySem.W.Frag) (mg : Str → Option Value) (base : Heap) : Prop := Has P w K mg base 4 "need_hands" ["hands"] spNeed
abbrev HPairs (P : Program) (w : World) (K : PySem.W.Frag) (mg : Str → Option Value) (base : Heap) : Prop := Has P w K mg base 1 "pairs_in" ["hands"] spPairs
theorem sc_groups_in : FnScope ["hands", "group", "one", "other", "old", "new", "number", "found", "person"] ["hands"] (defScope (topS 17)) := ⟨rfl, rfl, rfl, by decide +kernel, rfl, by decide +kernel, by decide +kernel⟩
theorem ok_groups_in (D : Def K mg "groups_in" (topS 17) ["hands"]) (B : Bt mg) (h_pairs_in : HPairs P w K mg base) : Has P w K mg base 2 "groups_in" ["hands"] spGroups :=
  defL D sc_groups_in (fun _ => rfl) no1 (by decide) fun f cdv Ar outer s H E a hr hp D kk => by
    have n5 := hp.n5
    have go := pairsM_ok hp
    refine s_setL 1 sc_groups_in.nd (l_range rfl B.list B.range (e_lenT B.len (e_var 0 rfl)) ?_) ?_
    · omega
    refine s_for (S := List Nat) (fun g => [.im a, .ls g, .any, .any, .any, .any, .any, .any, .any]) groupStep (fun _ g => g.length = a.length ∧ ∀ x ∈ g, x < a.length) (List.range a.length) PassesOwn.never rfl (Wk.refl _) ⟨List.length_range, fun x hx => List.mem_range.mp hx⟩ (i_new (l_call1 h_pairs_in (hr.mono (by decide)) (e_var 0 rfl) hp)) (g_pair 2 3 rfl sc_groups_in.nd) (fun H1 s1 i g z hz gg => ?_) (fun gg => ?_)
    · have hzm := go.lt z (List.mem_of_getElem? hz)
      refine ⟨groupStep_ok gg (by omega), fun N bk hN => ?_⟩
      refine s_parT 4 5 rfl sc_groups_in.nd (EV.r (e_ixLd 0 (b_var 1 (.inl rfl)) (e_var 3 rfl) ?_)) (EV.r (e_ixLd 0 (b_var 1 (.inl rfl)) (e_var 2 rfl) ?_)) ?_
      · rw [gg.1]; omega
      · rw [gg.1]; omega
      refine s_setL 1 sc_groups_in.nd (l_compM (own := [("number", 6)]) rfl sc_groups_in.nd ⟨(i_own 1 (.inl rfl)), blkOk_by (N := ["hands", "group", "one", "other", "old", "new", "number", "found", "person"]) (sc := (defScope (topS 17))) (by decide +kernel), by decide, fun _ _ _ _ _ => (g_name 6 sc_groups_in.nd), fun _ _ _ _ _ x hx => ts_nil, fun _ _ _ _ _ x hx ht => (e_ifE (t_cmp (c_eqN (e_var 6 rfl) (e_var 4 rfl))) (e_var 5 rfl) (e_var 6 rfl))⟩) ?_
      exact s_nil fun σ H o => hN σ H (o.weak (.same (.same (.any (.any (.any (.any (.any (.any (.any .nil))))))))))
    · have gg' : (groupM a.length (pairsM a)).length = a.length ∧ ∀ x ∈ groupM a.length (pairsM a), x < a.length := gg
      refine s_setL 7 sc_groups_in.nd (l_nil (α := List Nat)) ?_
      refine s_for (S := Hs) (fun F => [.im a, .ls (groupM a.length (pairsM a)), .any, .any, .any, .any, .any, .ls F, .any]) (fun F k => F ++ [(List.range a.length).filter fun p => (groupM a.length (pairsM a)).getD p 0 == k]) (fun i F => F.length ≤ i) [] PassesOwn.never rfl (Wk.refl _) (Nat.zero_le _) (i_new (l_ssetL ?_ ?_ rfl B.sorted B.set (b_var 1 (.inl rfl)))) (g_name 6 sc_groups_in.nd) (fun H1 s1 i F k hk g => ?_) (fun g => ?_)
      · exact fun x hx => Nat.lt_of_lt_of_le (gg'.2 x hx) (by omega)
      · show (groupM a.length (pairsM a)).length ≤ 63
        rw [gg'.1]; omega
      · have hi : i < 8 := by
          have h1 := (List.getElem?_eq_some_iff.mp hk).1
          have h2 := List.length_filter_le (fun t => (groupM a.length (pairsM a)).contains t) (List.range 8)
          rw [List.length_range] at h2
          exact Nat.lt_of_lt_of_le h1 h2
        refine ⟨by rw [List.length_append, List.length_singleton]; omega, fun N bk hN => ?_⟩
        refine s_app 7 rfl (e_tuple B.tuple (l_compF (own := [("person", 8)]) rfl sc_groups_in.nd ⟨(i_rng B.range (e_lenT B.len (e_var 0 rfl)) ?_).c, blkOk_by (N := ["hands", "group", "one", "other", "old", "new", "number", "found", "person"]) (sc := (defScope (topS 17))) (by decide +kernel), by decide, fun _ _ _ _ _ => (g_name 8 sc_groups_in.nd), fun _ _ _ _ _ x hx => ts_one (t_cmp (c_eqN (e_ixLd 0 (b_var 1 (.inl rfl)) (e_var 8 rfl) ?_) (e_var 6 rfl))), fun _ _ _ _ _ x hx ht => (e_var 8 rfl)⟩).b) (by rw [sizeLine_eq]; omega) ?_
        · rw [sizeLine_eq]; omega
        · show _ < (groupM a.length (pairsM a)).length
          rw [gg'.1]; exact List.mem_range.mp hx
        · exact s_nil fun σ H o => hN σ H (o.weak (.same (.same (.any (.any (.any (.any (.any (.same (.any .nil))))))))))
      · rw [foldl_app, List.nil_append]
        refine s_retL (l_sortT B.sorted hr.units (b_var 7 (.inl rfl)) ?_) ?_
        · refine .inl fun x hx => ?_
          obtain ⟨k, hk, rfl⟩ := List.mem_map.mp hx
          exact groups_ne gg'.1 k hk
        · exact kk
theorem sc_groups : FnScope ["hands"] ["hands"] (defScope (topS 18)) := ⟨rfl, rfl, rfl, by decide +kernel, rfl, by decide +kernel, by decide +kernel⟩
theorem ok_groups (D : Def K mg "groups" (topS 18) ["hands"]) (B : Bt mg) (h_need_hands : HNeed P w K mg base) (h_groups_in : Has P w K mg base 2 "groups_in" ["hands"] spGroups) : Has P w K mg base 5 "groups" ["hands"] spGroupsT :=
  defV D sc_groups (fun _ => rfl) no1 (by decide) fun f cdv Ar outer s H E a hr hp D kk =>
    s_callN h_need_hands hr (e_var 0 rfl) hp (s_ret (e_tuple B.tuple (l_call1 h_groups_in (hr.mono (by decide)) (e_var 0 rfl) hp).b) kk)
theorem sc_end_in : FnScope ["hands"] ["hands"] (defScope (topS 19)) := ⟨rfl, rfl, rfl, by decide +kernel, rfl, by decide +kernel, by decide +kernel⟩
theorem ok_end_in (D : Def K mg "end_in" (topS 19) ["hands"]) (B : Bt mg) (h_pairs_in : HPairs P w K mg base) : Has P w K mg base 2 "end_in" ["hands"] spEnd :=
  defV D sc_end_in (fun _ => rfl) no1 (by decide) fun f cdv Ar outer s H E a hr hp D kk => by
    refine s_ret (e_cmp (c_eqL hr.units (l_call1 h_pairs_in (hr.mono (by decide)) (e_var 0 rfl) hp).b l_nil.b)) ?_
    exact kk
theorem sc_is_end : FnScope ["hands"] ["hands"] (defScope (topS 20)) := ⟨rfl, rfl, rfl, by decide +kernel, rfl, by decide +kernel, by decide +kernel⟩
theorem ok_is_end (D : Def K mg "is_end" (topS 20) ["hands"]) (B : Bt mg) (h_need_hands : HNeed P w K mg base) (h_end_in : Has P w K mg base 2 "end_in" ["hands"] spEnd) : Has P w K mg base 5 "is_end" ["hands"] spEnd :=
  defV D sc_is_end (fun _ => rfl) no1 (by decide) fun f cdv Ar outer s H E a hr hp D kk =>
    s_callN h_need_hands hr (e_var 0 rfl) hp (s_ret (e_call1 h_end_in (hr.mono (by decide)) (e_var 0 rfl) hp) kk)
abbrev spCover : Sp := spV (fun a : Hs × List Nat => [.im a.1, .im a.2]) (fun a => HOk a.1) (fun a => coverM (pairsM a.1) a.2)
abbrev spCoverL : Sp := spV (fun a : Hs × List Nat => [.im a.1, .rl a.2]) (fun a => HOk a.1) (fun a => coverM (pairsM a.1) a.2)
abbrev spChoices : Sp := spL (fun n : Nat => [.im n]) (fun n => n ≤ 5) choicesM
abbrev spCovers : Sp := spL (fun a : Hs => [.im a]) HOk (fun h => coversM h.length (pairsM h))
abbrev spLeast : Sp := spL (fun a : Hs => [.im a]) HOk (fun h => leastM h.length (pairsM h))
abbrev HLeast (P : Program) (w : World) (K : PySem.W.Frag) (mg : Str → Option Value) (base : Heap) : Prop := Has P w K mg base 4 "least_in" ["hands"] spLeast
theorem sc_cover_in : FnScope ["hands", "people", "one", "other"] ["hands", "people"] (defScope (topS 22)) := ⟨rfl, rfl, rfl, by decide +kernel, rfl, by decide +kernel, by decide +kernel⟩
theorem ok_cover_in (D : Def K mg "cover_in" (topS 22) ["hands", "people"]) (B : Bt mg) (h_pairs_in : HPairs P w K mg base) : Has P w K mg base 2 "cover_in" ["hands", "people"] spCover :=
  defV D sc_cover_in (fun _ => rfl) no2 (by decide) fun f cdv Ar outer s H E a hr hp D kk => by
    refine s_ret (e_all B.all rfl (l_compM (own := [("one", 2), ("other", 3)]) rfl sc_cover_in.nd ⟨(i_new (l_call1 h_pairs_in (hr.mono (by decide)) (e_var 0 rfl) hp)).c, blkOk_by (N := ["hands", "people", "one", "other"]) (sc := (defScope (topS 22))) (by decide +kernel), by decide, fun _ _ _ _ _ => (g_pair 2 3 rfl sc_cover_in.nd), fun _ _ _ _ _ x hx => ts_nil, fun _ _ _ _ _ x hx ht => (e_or (e_cmp (c_inT (e_var 2 rfl) (e_var 1 rfl))) (fun _ => (e_cmp (c_inT (e_var 3 rfl) (e_var 1 rfl)))))⟩).b) ?_
    exact kk
theorem ok_cover_inL (D : Def K mg "cover_in" (topS 22) ["hands", "people"]) (B : Bt mg) (h_pairs_in : HPairs P w K mg base) : Has P w K mg base 2 "cover_in" ["hands", "people"] spCoverL :=
  defV D sc_cover_in (fun _ => rfl) (fun a d hd => by simp at hd; rcases hd with rfl | rfl <;> rfl) (by decide) fun f cdv Ar outer s H E a hr hp D kk => by
    refine s_ret (e_all B.all rfl (l_compM (own := [("one", 2), ("other", 3)]) rfl sc_cover_in.nd ⟨(i_new (l_call1 h_pairs_in (hr.mono (by decide)) (e_var 0 rfl) hp)).c, blkOk_by (N := ["hands", "people", "one", "other"]) (sc := (defScope (topS 22))) (by decide +kernel), by decide, fun _ _ _ _ _ => (g_pair 2 3 rfl sc_cover_in.nd), fun _ _ _ _ _ x hx => ts_nil, fun _ _ _ _ _ x hx ht => (e_or (e_cmp (c_inLN (e_var 2 rfl) (b_var 1 (.inr rfl)))) (fun _ => (e_cmp (c_inLN (e_var 3 rfl) (b_var 1 (.inr rfl))))))⟩).b) ?_
    exact kk
theorem sc_choices : FnScope ["many", "found", "person", "row"] ["many"] (defScope (topS 23)) := ⟨rfl, rfl, rfl, by decide +kernel, rfl, by decide +kernel, by decide +kernel⟩
theorem ok_choices (D : Def K mg "choices" (topS 23) ["many"]) (B : Bt mg) : Has P w K mg base 1 "choices" ["many"] spChoices :=
  defL D sc_choices (fun _ => rfl) no1 (by decide) fun f cdv Ar outer s H E a hr hp D kk => by
    have hp' : a ≤ 5 := hp
    refine s_setL 1 sc_choices.nd (l_one (e_tup0 (α := Nat))) ?_
    refine s_for (S := Hs) (fun F => [.im a, .ls F, .any, .any]) (fun F p => F ++ F.map fun r => r ++ [p]) (fun i F => F = choicesM i) [[]] PassesOwn.never rfl (Wk.refl _) rfl (i_rng B.range (e_var 0 rfl) ?_) (g_name 2 sc_choices.nd) (fun H1 s1 i F p hpp g => ?_) (fun g => ?_)
    · rw [sizeLine_eq]; omega
    · have hi : i < a := by
        have := (List.getElem?_eq_some_iff.mp hpp).1
        rw [List.length_range] at this
        exact this
      have e : p = i := by
        rw [List.getElem?_range hi] at hpp
        exact (Option.some.inj hpp).symm
      obtain ⟨_, _, _, h3, h4⟩ := choices_shape i
      have h5 : 2 ^ i ≤ 2 ^ 5 := Nat.pow_le_pow_right (by decide) (by omega)
      subst g
      subst e
      refine ⟨(choices_step p).symm, fun N bk hN => ?_⟩
      refine s_ext 1 rfl (l_compM (own := [("row", 3)]) rfl sc_choices.nd ⟨(i_own 1 (.inl rfl)), blkOk_by (N := ["many", "found", "person", "row"]) (sc := (defScope (topS 23))) (by decide +kernel), by decide, fun _ _ _ _ _ => (g_name 3 sc_choices.nd), fun _ _ _ _ _ x hx => ts_nil, fun _ _ _ _ _ x hx ht => (e_star1 (e_var 3 rfl) (e_var 2 rfl) ?_)⟩) (by rw [List.length_map, h3, sizeLine_eq]; omega) ?_
      · have := h4 _ hx
        rw [sizeLine_eq]; omega
      · exact s_nil fun σ H o => hN σ H (o.weak (.same (.same (.any (.any .nil)))))
    · exact s_retV 1 rfl kk
theorem sc_covers_in : FnScope ["hands", "people"] ["hands"] (defScope (topS 24)) := ⟨rfl, rfl, rfl, by decide +kernel, rfl, by decide +kernel, by decide +kernel⟩
theorem ok_covers_in (D : Def K mg "covers_in" (topS 24) ["hands"]) (B : Bt mg) (h_choices : Has P w K mg base 1 "choices" ["many"] spChoices) (h_cover_in : Has P w K mg base 2 "cover_in" ["hands", "people"] spCover) : Has P w K mg base 3 "covers_in" ["hands"] spCovers :=
  defL D sc_covers_in (fun _ => rfl) no1 (by decide) fun f cdv Ar outer s H E a hr hp D kk => by
    refine s_retL (l_sortT B.sorted hr.units (l_compF (own := [("people", 1)]) rfl sc_covers_in.nd ⟨(i_new (l_call1 h_choices (hr.mono (by decide)) (e_lenT B.len (e_var 0 rfl)) hp.n5)).c, blkOk_by (N := ["hands", "people"]) (sc := (defScope (topS 24))) (by decide +kernel), by decide, fun _ _ _ _ _ => (g_name 1 sc_covers_in.nd), fun _ _ _ _ _ x hx => ts_one (t_val (e_call2 h_cover_in (hr.mono (by decide)) (e_var 0 rfl) (e_var 1 rfl) hp)), fun _ _ _ _ _ x hx ht => (e_var 1 rfl)⟩).b ?_) ?_
    · obtain ⟨r, h1, h2, _⟩ := choices_shape a.length
      exact filter_shape _ ⟨r, h1, h2⟩
    · exact kk
theorem sc_least_in : FnScope ["hands", "some", "few", "people"] ["hands"] (defScope (topS 25)) := ⟨rfl, rfl, rfl, by decide +kernel, rfl, by decide +kernel, by decide +kernel⟩
theorem ok_least_in (D : Def K mg "least_in" (topS 25) ["hands"]) (B : Bt mg) (h_covers_in : Has P w K mg base 3 "covers_in" ["hands"] spCovers) : Has P w K mg base 4 "least_in" ["hands"] spLeast :=
  defL D sc_least_in (fun _ => rfl) no1 (by decide) fun f cdv Ar outer s H E a hr hp D kk => by
    refine s_setL 1 sc_least_in.nd (l_call1 h_covers_in (hr.mono (by decide)) (e_var 0 rfl) hp) ?_
    refine s_set 2 sc_least_in.nd (e_minL B.min rfl (l_compM (own := [("people", 3)]) rfl sc_least_in.nd ⟨(i_own 1 (.inl rfl)), blkOk_by (N := ["hands", "some", "few", "people"]) (sc := (defScope (topS 25))) (by decide +kernel), by decide, fun _ _ _ _ _ => (g_name 3 sc_least_in.nd), fun _ _ _ _ _ x hx => ts_nil, fun _ _ _ _ _ x hx ht => (e_lenT B.len (e_var 3 rfl))⟩).b ?_) ?_
    · simpa using covers_ne (pairsM_ok hp)
    · exact s_retL (l_compF (own := [("people", 3)]) rfl sc_least_in.nd ⟨(i_own 1 (.inl rfl)), blkOk_by (N := ["hands", "some", "few", "people"]) (sc := (defScope (topS 25))) (by decide +kernel), by decide, fun _ _ _ _ _ => (g_name 3 sc_least_in.nd), fun _ _ _ _ _ x hx => ts_one (t_cmp (c_eqN (e_lenT B.len (e_var 3 rfl)) (e_var 2 rfl))), fun _ _ _ _ _ x hx ht => (e_var 3 rfl)⟩) kk
end
end L2.LX
/-! D4: what is reckoned of covers. -/
namespace L2.LX
open PySem PySem.Spec PyProof.Rows PySem.W
section
variable {X : Cx} {H0 : Hp} {ds : List Sd} {α β γ : Type} [Dn α] [Dn β] [Dn γ] {e e1 e2 : Expr} {pos p : Pos} {k : Nat} {x : Str} {ps : List Str}
theorem e_call2s {f : α × List γ → β} {pre : α × List γ → Prop} {a : α} {b : List γ} (h : Has X.prog X.w X.K X.mg X.base k x ps (spV (fun a : α × List γ => [Sd.im a.1, Sd.rl a.2]) pre f)) (hr : Room k X.A) (ha : EV X H0 ds e1 a) (hb : EB X H0 ds e2 b) (hp : pre (a, b)) (hg : Gl X x := by rfl) (hdb : (x == ("__debug__" : Str)) = false := by decide)
    (he : starEach [e1, e2] X.env = (false, eval e1 X.env) :: starEach [e2] X.env := by rfl) (he2 : starEach [e2] X.env = (false, eval e2 X.env) :: starEach [] X.env := by rfl) (hpl : (backTo pos (starEach [e2] X.env)).any (·.1) = false := by rfl) : EV X H0 ds (.Call (.Name x p) [e1, e2] [] pos) (f (a, b)) :=
  e_call h hr (a, b) (a_im ha (a_rl hb a_nil he2) he) hp hg hdb he hpl
theorem leastB_is {δ : Type} [Lo δ] (d : δ) : ∀ {l : List δ}, l ≠ [] → ∃ x xs, l = x :: xs ∧ leastB d l = minB x xs
  | [], h => (h rfl).elim
  | x :: xs, _ => ⟨x, xs, rfl, rfl⟩
theorem e_leastB {δ : Type} [Lo δ] (d : δ) {l : List δ} (hm : X.mg "min" = none) (hc : X.calm = true) (hu : X.A.units + 64 < cLine) (h : EB X H0 ds e l) (h0 : l ≠ []) (hd : En.dep δ ≤ 30 := by decide) (hg : Gl X "min" := by rfl) (hs : starEach [e] X.env = (false, eval e X.env) :: starEach [] X.env := by rfl) (hpl : (backTo pos (starEach [] X.env)).any (·.1) = false := by rfl) : EV X H0 ds (.Call (.Name "min" p) [e] [] pos) (leastB d l) := by
  obtain ⟨y, ys, rfl, q⟩ := leastB_is d h0
  rw [q]
  exact e_minD hm hc hu h hd hg hs hpl
end
/-! ### facts -/
/-- the people but some -/
def butM (n : Nat) (p : List Nat) : List Nat := (List.range n).filter fun q => !p.contains q
theorem choices_lt : ∀ n, ∀ x ∈ choicesM n, ∀ q ∈ x, q < n
  | 0, x, hx, q, hq => by
    have : x = [] := by simpa [choicesM] using hx
    rw [this] at hq; cases hq
  | n + 1, x, hx, q, hq => by
    rw [choices_step] at hx
    rcases List.mem_append.mp hx with hx | hx
    · exact Nat.lt_succ_of_lt (choices_lt n x hx q hq)
    · obtain ⟨y, hy, rfl⟩ := List.mem_map.mp hx
      rcases List.mem_append.mp hq with hq | hq
      · exact Nat.lt_succ_of_lt (choices_lt n y hy q hq)
      · rw [List.mem_singleton.mp hq]; exact Nat.lt_succ_self n
theorem but_len : ∀ n, ∀ x ∈ choicesM n, (butM n x).length + x.length = n
  | 0, x, hx => by
    have : x = [] := by simpa [choicesM] using hx
    rw [this]; rfl
  | n + 1, x, hx => by
    rw [choices_step] at hx
    unfold butM
    rw [List.range_succ, List.filter_append]
    rcases List.mem_append.mp hx with hx | hx
    · have h1 := but_len n x hx
      unfold butM at h1
      have h2 : (!x.contains n) = true := by
        have := choices_lt n x hx n
        simp
        intro z
        exact absurd (this z) (Nat.lt_irrefl n)
      rw [List.length_append, List.filter_cons, if_pos h2]
      simp only [List.filter_nil, List.length_singleton]
      omega
    · obtain ⟨y, hy, rfl⟩ := List.mem_map.mp hx
      have h1 := but_len n y hy
      unfold butM at h1
      have h2 : (!(y ++ [n]).contains n) = false := by simp
      have h3 : ((List.range n).filter fun q => !(y ++ [n]).contains q) = (List.range n).filter fun q => !y.contains q := by
        refine List.filter_congr fun q hq => ?_
        have := List.mem_range.mp hq
        simp
        omega
      rw [List.length_append, List.filter_cons, h2, h3, List.length_append]
      simp only [Bool.false_eq_true, if_false, List.filter_nil, List.length_nil, List.length_singleton]
      omega
theorem range_pred {n : Nat} {E : Gr} (g : GOk n E) : coverM E (List.range (n - 1)) = true := by
  unfold coverM
  rw [List.all_map, List.all_eq_true]
  intro z hz
  have := g.lt z hz
  simp
  omega
theorem choice_up {n m : Nat} {x : List Nat} (h : x ∈ choicesM n) (hm : n ≤ m) : x ∈ choicesM m := by
  induction hm with
  | refl => exact h
  | step _ ih => rw [choices_step]; exact List.mem_append_left _ ih
theorem leastOf_len {s : Hs} {x : List Nat} (h : x ∈ leastOf s) : x ∈ s ∧ x.length = minL (s.map fun q => q.length) := by
  obtain ⟨h1, h2⟩ := List.mem_filter.mp h
  exact ⟨h1, by simpa using h2⟩
theorem leastOf_le {s : Hs} {x y : List Nat} (h : x ∈ leastOf s) (hy : y ∈ s) : x.length ≤ y.length := by
  rw [(leastOf_len h).2]
  exact minL_le (List.mem_map.mpr ⟨y, hy, rfl⟩)
theorem least_is {n : Nat} {E : Gr} (g : GOk n E) {x : List Nat} (h : x ∈ leastM n E) : x.length = callsM n E := by
  have h1 := getD_mem [] (least_ne g)
  rw [(leastOf_len h).2]
  exact (leastOf_len h1).2.symm
theorem calls_lt {n : Nat} {E : Gr} (g : GOk n E) : callsM n E ≤ n - 1 := by
  have h1 := getD_mem [] (least_ne g)
  have := leastOf_le h1 ((covers_mem (n := n) (E := E) _).mpr ⟨choice_up (range_choice (n - 1)) (by omega), range_pred g⟩)
  rw [List.length_range] at this
  exact this
theorem least_choice {n : Nat} {E : Gr} {x : List Nat} (h : x ∈ leastM n E) : x ∈ choicesM n := ((covers_mem x).mp (leastOf_len h).1).1
theorem but_ne {n : Nat} {E : Gr} (g : GOk n E) {x : List Nat} (h : x ∈ leastM n E) : butM n x ≠ [] := fun z => by
  have h1 := but_len n x (least_choice h)
  have h2 := calls_lt g
  have h3 := g.n1
  rw [least_is g h, z] at h1
  simp at h1
  omega
/-- all pairs of people -/
def allP (n : Nat) : Gr := (List.range n).flatMap fun a => (List.range' (a + 1) (n - (a + 1))).map fun b => (a, b)
theorem pairs_filter (h : Hs) : pairsM h = (allP h.length).filter fun z => shareM h z.1 z.2 := by
  unfold pairsM allP
  rw [List.filter_flatMap]
  congr 1
  funext a
  rw [List.filter_map]
  rfl
theorem allP_len : ∀ n ≤ 5, (allP n).length ≤ 10 := by decide +kernel
theorem pairs_len {h : Hs} (o : HOk h) : (pairsM h).length ≤ 10 := by
  rw [pairs_filter]
  exact Nat.le_trans (List.length_filter_le _ _) (allP_len _ o.n5)
theorem group_ok {n : Nat} {E : Gr} (g : GOk n E) : (groupM n E).length = n ∧ ∀ x ∈ groupM n E, x < n := by
  unfold groupM
  have : ∀ (F : Gr) (s : List Nat), (∀ z ∈ F, z.1 < n) → (s.length = n ∧ ∀ x ∈ s, x < n) → ((F.foldl groupStep s).length = n ∧ ∀ x ∈ F.foldl groupStep s, x < n) := fun F => by
    induction F with
    | nil => intro s _ h; exact h
    | cons z F ih => intro s hz h; exact ih _ (fun y hy => hz y (List.mem_cons_of_mem _ hy)) (groupStep_ok h (hz z List.mem_cons_self))
  exact this E _ (fun z hz => Nat.lt_trans (g.lt z hz).1 (g.lt z hz).2) ⟨List.length_range, fun x hx => List.mem_range.mp hx⟩
theorem sset_few {n : Nat} {l : List Nat} (h : ∀ x ∈ l, x < n) : (sset l).length ≤ n := sorted_few n _ (sset_sorted l) fun t ht => h t (by
  have := (List.mem_filter.mp ht).2
  simpa using this)
theorem srt_len (xs : Hs) : (srt xs).length = xs.length := (isort_perm _).length_eq
theorem groups_le {n : Nat} {E : Gr} (g : GOk n E) : (groupsM n E).length ≤ n := by
  unfold groupsM
  rw [srt_len, List.length_map]
  exact sset_few (group_ok g).2
theorem fit_ne {n : Nat} {E : Gr} (g : GOk n E) : fitM n E ≠ [] := by
  obtain ⟨r, h1, _⟩ := choices_shape n
  have : [] ∈ fitM n E := List.mem_filter.mpr ⟨by rw [h1]; exact List.mem_cons_self, by
    have : ((List.range n).filter fun o => !([] : List Nat).contains o) = List.range n := List.filter_eq_self.mpr fun _ _ => rfl
    rw [this]
    exact cover_all g⟩
  intro z
  rw [z] at this
  cases this
theorem fact_le : ∀ (i : Nat) (f : Nat) (k : Nat), f ≤ 6 ^ i → k ≤ 6 → f * k ≤ 6 ^ (i + 1) := fun i f k h1 h2 => by
  rw [Nat.pow_succ]
  exact Nat.mul_le_mul h1 h2
section
variable {P : Program} {w : World} {K : PySem.W.Frag} {mg : Str → Option Value} {base : Heap}
abbrev spCallsN : Sp := spV (fun a : Hs => [.im a]) HOk (fun h => callsM h.length (pairsM h))
abbrev spWay : Sp := spV (fun a : Hs => [.im a]) HOk (fun h => (leastM h.length (pairsM h)).getD 0 [])
abbrev spWays : Sp := spV (fun a : Hs => [.im a]) HOk (fun h => waysM h.length (pairsM h))
abbrev spCount : Sp := spV (fun a : Hs => [.im a]) HOk (fun h => countM h.length (pairsM h))
abbrev spApart : Sp := spL (fun a : Hs => [.im a]) HOk (fun h => apartM h.length (pairsM h))
abbrev spMost : Sp := spV (fun a : Hs => [.im a]) HOk (fun h => mostPairsM (pairsM h))
abbrev spMostC : Sp := spV (fun a : Hs => [.im a]) HOk (fun h => h.length - (groupsM h.length (pairsM h)).length)
abbrev spLocked : Sp := spL (fun a : Hs => [.im a]) HOk (fun h => lockedM h.length (pairsM h))
theorem sc_least_covers : FnScope ["hands"] ["hands"] (defScope (topS 26)) := ⟨rfl, rfl, rfl, by decide +kernel, rfl, by decide +kernel, by decide +kernel⟩
theorem ok_least_covers (D : Def K mg "least_covers" (topS 26) ["hands"]) (B : Bt mg) (h_need_hands : HNeed P w K mg base) (h_least_in : HLeast P w K mg base) : Has P w K mg base 5 "least_covers" ["hands"] spLeast :=
  defL D sc_least_covers (fun _ => rfl) no1 (by decide) fun f cdv Ar outer s H E a hr hp D kk =>
    s_callN h_need_hands hr (e_var 0 rfl) hp (s_retL (l_call1 h_least_in (hr.mono (by decide)) (e_var 0 rfl) hp) kk)
theorem sc_calls_to_end : FnScope ["hands"] ["hands"] (defScope (topS 27)) := ⟨rfl, rfl, rfl, by decide +kernel, rfl, by decide +kernel, by decide +kernel⟩
theorem ok_calls_to_end (D : Def K mg "calls_to_end" (topS 27) ["hands"]) (B : Bt mg) (h_need_hands : HNeed P w K mg base) (h_least_in : HLeast P w K mg base) : Has P w K mg base 5 "calls_to_end" ["hands"] spCallsN :=
  defV D sc_calls_to_end (fun _ => rfl) no1 (by decide) fun f cdv Ar outer s H E a hr hp D kk => by
    refine s_callN h_need_hands hr (e_var 0 rfl) hp (s_ret (e_lenT B.len (e_ixLd [] (l_call1 h_least_in (hr.mono (by decide)) (e_var 0 rfl) hp).b (e_nat 0) ?_)) ?_)
    · exact pos_of_ne (least_ne (pairsM_ok hp))
    · exact kk
theorem sc_way_to_end : FnScope ["hands"] ["hands"] (defScope (topS 28)) := ⟨rfl, rfl, rfl, by decide +kernel, rfl, by decide +kernel, by decide +kernel⟩
theorem ok_way_to_end (D : Def K mg "way_to_end" (topS 28) ["hands"]) (B : Bt mg) (h_need_hands : HNeed P w K mg base) (h_least_in : HLeast P w K mg base) : Has P w K mg base 5 "way_to_end" ["hands"] spWay :=
  defV D sc_way_to_end (fun _ => rfl) no1 (by decide) fun f cdv Ar outer s H E a hr hp D kk => by
    refine s_callN h_need_hands hr (e_var 0 rfl) hp (s_ret (e_ixLd [] (l_call1 h_least_in (hr.mono (by decide)) (e_var 0 rfl) hp).b (e_nat 0) ?_) ?_)
    · exact pos_of_ne (least_ne (pairsM_ok hp))
    · exact kk
theorem sc_count_ways_to_end : FnScope ["hands", "some", "found", "number"] ["hands"] (defScope (topS 29)) := ⟨rfl, rfl, rfl, by decide +kernel, rfl, by decide +kernel, by decide +kernel⟩
theorem ok_count_ways (D : Def K mg "count_ways_to_end" (topS 29) ["hands"]) (B : Bt mg) (h_need_hands : HNeed P w K mg base) (h_least_in : HLeast P w K mg base) : Has P w K mg base 5 "count_ways_to_end" ["hands"] spWays :=
  defV D sc_count_ways_to_end (fun _ => rfl) no1 (by decide) fun f cdv Ar outer s H E a hr hp D kk => by
    have n5 := hp.n5
    have h5 := calls_le (pairsM_ok hp)
    refine s_callN h_need_hands hr (e_var 0 rfl) hp ?_
    refine s_par 1 2 rfl sc_count_ways_to_end.nd (EL.r (l_call1 h_least_in (hr.mono (by decide)) (e_var 0 rfl) hp)) (EV.r (e_nat 1)) ?_
    have pw : ∀ i ≤ 6, 6 ^ i < 2 ^ 64 := by decide +kernel
    have l6 : (List.range' 2 (callsM a.length (pairsM a) + 1 - 2)).length ≤ 6 := by rw [List.length_range']; omega
    refine s_for (S := Nat) (fun f => [.im a, .ls (leastM a.length (pairsM a)), .im f, .any]) (fun f k => f * k) (fun i f => f ≤ 6 ^ i) 1 PassesOwn.never rfl (Wk.refl _) (Nat.le_refl _) (xs := List.range' 2 (callsM a.length (pairsM a) + 1 - 2)) (i_rng2 B.range (e_nat 2) (e_addN (e_lenT B.len (e_ixLd [] (b_var 1 (.inl rfl)) (e_nat 0) ?_)) (e_nat 1)) ?_ ?_) (g_name 3 sc_count_ways_to_end.nd) (fun H1 s1 i F z hz g => ?_) (fun g => ?_)
    · exact pos_of_ne (least_ne (pairsM_ok hp))
    · rw [sizeLine_eq]; decide
    · show callsM a.length (pairsM a) + 1 ≤ sizeLine
      rw [sizeLine_eq]; omega
    · have hi := (List.getElem?_eq_some_iff.mp hz).1
      have hzm := List.mem_range'.mp (List.mem_of_getElem? hz)
      refine ⟨fact_le i F z g (by omega), fun N bk hN => ?_⟩
      refine s_set 2 sc_count_ways_to_end.nd (e_mulN (e_var 2 rfl) (e_var 3 rfl) ?_) ?_
      · exact Nat.lt_of_le_of_lt g (pw i (by omega))
      · exact s_nil fun σ H o => hN σ H (o.weak (.same (.same (.same (.any .nil)))))
    · refine s_ret (e_mulN (e_var 2 rfl) (e_lenL B.len (b_var 1 (.inl rfl))) ?_) ?_
      · exact Nat.lt_of_le_of_lt g (pw _ l6)
      · exact kk
theorem sc_count_covers : FnScope ["hands", "some", "people", "many"] ["hands"] (defScope (topS 30)) := ⟨rfl, rfl, rfl, by decide +kernel, rfl, by decide +kernel, by decide +kernel⟩
theorem ok_count_covers (D : Def K mg "count_covers" (topS 30) ["hands"]) (B : Bt mg) (h_need_hands : HNeed P w K mg base) (h_covers_in : Has P w K mg base 3 "covers_in" ["hands"] spCovers) : Has P w K mg base 5 "count_covers" ["hands"] spCount :=
  defV D sc_count_covers (fun _ => rfl) no1 (by decide) fun f cdv Ar outer s H E a hr hp D kk => by
    have n5 := hp.n5
    refine s_callN h_need_hands hr (e_var 0 rfl) hp ?_
    refine s_setL 1 sc_count_covers.nd (l_compM (own := [("people", 2)]) rfl sc_count_covers.nd ⟨(i_new (l_call1 h_covers_in (hr.mono (by decide)) (e_var 0 rfl) hp)).c, blkOk_by (N := ["hands", "some", "people", "many"]) (sc := (defScope (topS 30))) (by decide +kernel), by decide, fun _ _ _ _ _ => (g_name 2 sc_count_covers.nd), fun _ _ _ _ _ x hx => ts_nil, fun _ _ _ _ _ x hx ht => (e_lenT B.len (e_var 2 rfl))⟩) ?_
    refine s_ret (e_tuple B.tuple (l_compM (own := [("many", 3)]) rfl sc_count_covers.nd ⟨(i_rng B.range (e_addN (e_lenT B.len (e_var 0 rfl)) (e_nat 1)) ?_).c, blkOk_by (N := ["hands", "some", "people", "many"]) (sc := (defScope (topS 30))) (by decide +kernel), by decide, fun _ _ _ _ _ => (g_name 3 sc_count_covers.nd), fun _ _ _ _ _ x hx => ts_nil, fun _ _ _ _ _ x hx ht => (e_count (b_var 1 (.inl rfl)) (e_var 3 rfl))⟩).b) ?_
    · rw [sizeLine_eq]; omega
    · exact kk
theorem sc_apart : FnScope ["hands", "some", "person", "people"] ["hands"] (defScope (topS 31)) := ⟨rfl, rfl, rfl, by decide +kernel, rfl, by decide +kernel, by decide +kernel⟩
theorem ok_apart (D : Def K mg "apart" (topS 31) ["hands"]) (B : Bt mg) (h_need_hands : HNeed P w K mg base) (h_least_in : HLeast P w K mg base) : Has P w K mg base 5 "apart" ["hands"] spApart :=
  defL D sc_apart (fun _ => rfl) no1 (by decide) fun f cdv Ar outer s H E a hr hp D kk => by
    have n5 := hp.n5
    refine s_callN h_need_hands hr (e_var 0 rfl) hp ?_
    refine s_setL 1 sc_apart.nd (l_call1 h_least_in (hr.mono (by decide)) (e_var 0 rfl) hp) ?_
    refine s_retL (l_sortT B.sorted hr.units (l_compM (own := [("people", 3)]) rfl sc_apart.nd ⟨(i_own 1 (.inl rfl)), blkOk_by (N := ["hands", "some", "person", "people"]) (sc := (defScope (topS 31))) (by decide +kernel), by decide, fun _ _ _ _ _ => (g_name 3 sc_apart.nd), fun _ _ _ _ _ x hx => ts_nil, fun _ _ _ _ _ x hx ht => (e_tuple B.tuple (l_compF (own := [("person", 2)]) rfl sc_apart.nd ⟨(i_rng B.range (e_lenT B.len (e_var 0 rfl)) ?_).c, blkOk_by (N := ["hands", "some", "person", "people"]) (sc := (relS _ (defScope (topS 31)))) (by decide +kernel), by decide, fun _ _ _ _ _ => (g_name 2 sc_apart.nd), fun _ _ _ _ _ x hx => ts_one (t_cmp (c_notInT (e_var 2 rfl) (e_var 3 rfl))), fun _ _ _ _ _ x hx ht => (e_var 2 rfl)⟩).b)⟩).b ?_) ?_
    · rw [sizeLine_eq]; omega
    · refine .inl fun x hx => ?_
      obtain ⟨y, hy, rfl⟩ := List.mem_map.mp hx
      exact but_ne (pairsM_ok hp) hy
    · exact kk
theorem sc_most_pairs : FnScope ["hands", "best", "found", "one", "other", "later", "used", "many"] ["hands"] (defScope (topS 32)) := ⟨rfl, rfl, rfl, by decide +kernel, rfl, by decide +kernel, by decide +kernel⟩
theorem ok_most_pairs (D : Def K mg "most_pairs" (topS 32) ["hands"]) (B : Bt mg) (h_need_hands : HNeed P w K mg base) (h_pairs_in : HPairs P w K mg base) : Has P w K mg base 5 "most_pairs" ["hands"] spMost :=
  defV D sc_most_pairs (fun _ => rfl) no1 (by decide) fun f cdv Ar outer s H E a hr hp D kk => by
    have n5 := hp.n5
    have p10 := pairs_len hp
    refine s_callN h_need_hands hr (e_var 0 rfl) hp ?_
    refine s_par 1 2 rfl sc_most_pairs.nd (EV.r (e_nat 0)) (EL.r (l_one (e_pair (e_tup0 (α := Nat)) (e_nat 0)))) ?_
    have pw : ∀ i ≤ 10, 2 ^ i ≤ 1024 := by decide +kernel
    refine s_for (S := Nat × List (List Nat × Nat)) (fun S => [.im a, .im S.1, .ls S.2, .any, .any, .any, .any, .any]) mpStep (fun i S => S.2.length ≤ 2 ^ i ∧ ∀ x ∈ S.2, x.1.length ≤ 2 * i) (0, [([], 0)]) PassesOwn.never rfl (Wk.refl _) ⟨Nat.le_refl _, fun x hx => by
      rw [List.mem_singleton.mp hx]; exact Nat.zero_le _⟩ (i_new (l_call1 h_pairs_in (hr.mono (by decide)) (e_var 0 rfl) hp)) (g_pair 3 4 rfl sc_most_pairs.nd) (fun H1 s1 i S z hz g => ?_) (fun g => ?_)
    · have hi : i < 10 := Nat.lt_of_lt_of_le (List.getElem?_eq_some_iff.mp hz).1 p10
      have hw := pw i (by omega)
      have key : ∀ (xs : List (List Nat × Nat)) (b : Nat), (∀ x ∈ xs, x.1.length ≤ 2 * i) → (xs.foldl (mpTurn z) ([], b)).1.length ≤ xs.length ∧ ∀ x ∈ (xs.foldl (mpTurn z) ([], b)).1, x.1.length ≤ 2 * i + 2 := by
        intro xs b hx
        have gen : ∀ (xs : List (List Nat × Nat)) (t : List (List Nat × Nat) × Nat), (∀ x ∈ xs, x.1.length ≤ 2 * i) → (∀ x ∈ t.1, x.1.length ≤ 2 * i + 2) → (xs.foldl (mpTurn z) t).1.length ≤ t.1.length + xs.length ∧ ∀ x ∈ (xs.foldl (mpTurn z) t).1, x.1.length ≤ 2 * i + 2 := by
          intro xs
          induction xs with
          | nil => intro t _ h; exact ⟨Nat.le_refl _, h⟩
          | cons y ys ih =>
            intro t hy ht
            rw [List.foldl_cons]
            have hyl := hy y List.mem_cons_self
            have st : (mpTurn z t y).1.length ≤ t.1.length + 1 ∧ ∀ x ∈ (mpTurn z t y).1, x.1.length ≤ 2 * i + 2 := by
              unfold mpTurn
              split
              · refine ⟨by simp, fun x hx => ?_⟩
                rcases List.mem_append.mp hx with hx | hx
                · exact ht x hx
                · rw [List.mem_singleton.mp hx]
                  simp only [List.length_append, List.length_cons, List.length_nil]
                  omega
              · exact ⟨Nat.le_succ _, ht⟩
            have := ih (mpTurn z t y) (fun x hx => hy x (List.mem_cons_of_mem _ hx)) st.2
            refine ⟨?_, this.2⟩
            have h1 := this.1
            have h2 := st.1
            rw [List.length_cons]
            omega
        have := gen xs ([], b) hx (fun x hx => by cases hx)
        simpa using this
      have kk2 := key S.2 S.1 g.2
      refine ⟨⟨?_, ?_⟩, fun N bk hN => ?_⟩
      · show (S.2 ++ _).length ≤ 2 ^ (i + 1)
        rw [List.length_append, Nat.pow_succ]
        have := g.1
        omega
      · intro x hx
        rcases List.mem_append.mp hx with hx | hx
        · have := g.2 x hx; omega
        · have := kk2.2 x hx; omega
      refine s_setL 5 sc_most_pairs.nd (l_nil (α := List Nat × Nat)) ?_
      refine s_read (xs := S.2) 2 rfl ?_
      refine s_for (S := List (List Nat × Nat) × Nat) (fun t => [.im a, .im t.2, .rl S.2, .im z.1, .im z.2, .ls t.1, .any, .any]) (mpTurn z) (fun j t => t.1.length ≤ j) ([], S.1) PassesOwn.never rfl (Wk.refl _) (Nat.zero_le _) (i_var 2 rfl) (g_pair 6 7 rfl sc_most_pairs.nd) (fun H2 s2 j t x hx gj => ?_) (fun gj => ?_)
      · have hj := (List.getElem?_eq_some_iff.mp hx).1
        have hxl := g.2 x (List.mem_of_getElem? hx)
        have e1 : (mpTurn z t x).1.length ≤ j + 1 := by
          unfold mpTurn
          split
          · simp; omega
          · exact Nat.le_succ_of_le gj
        refine ⟨e1, fun N2 bk2 hN2 => ?_⟩
        refine s_ifb (t_and (t_cmp (c_notInT (e_var 3 rfl) (e_var 6 rfl))) (fun _ => (t_cmp (c_notInT (e_var 4 rfl) (e_var 6 rfl))))) (fun ht => ?_) (fun ht => ?_)
        · refine s_app 5 rfl (e_pair (e_star2 (e_var 6 rfl) (e_var 3 rfl) (e_var 4 rfl) ?_) (e_addN (e_var 7 rfl) (e_nat 1))) (by rw [sizeLine_eq]; omega) ?_
          · rw [sizeLine_eq]; omega
          refine s_set 1 sc_most_pairs.nd (e_max2 B.max rfl (e_var 1 rfl) (e_addN (e_var 7 rfl) (e_nat 1))) ?_
          refine s_nil fun σ H o => s_nil (fun σ H o => hN2 σ H ?_) σ H o
          have e2 : mpTurn z t x = (t.1 ++ [(x.1 ++ [z.1, z.2], x.2 + 1)], max t.2 (x.2 + 1)) := by
            unfold mpTurn
            rw [if_pos ht]
          rw [e2]
          exact o.weak (.same (.same (.same (.same (.same (.same (.any (.any .nil))))))))
        · refine s_nil fun σ H o => hN2 σ H ?_
          have e2 : mpTurn z t x = t := by
            unfold mpTurn
            rw [if_neg (by rw [ht]; decide)]
          rw [e2]
          exact o.weak (.same (.same (.same (.same (.same (.same (.any (.any .nil))))))))
      · refine s_setL 2 sc_most_pairs.nd (l_cat (b_var 2 (.inr rfl)) (b_var 5 (.inl rfl)) ?_) ?_
        · have h1 := g.1
          have h2 := kk2.1
          rw [sizeLine_eq]
          omega
        · exact s_nil fun σ H o => hN σ H (o.weak (.same (.same (.same (.any (.any (.any (.any (.any .nil)))))))))
    · exact s_ret (e_var 1 rfl) kk
theorem sc_most_calls : FnScope ["hands"] ["hands"] (defScope (topS 39)) := ⟨rfl, rfl, rfl, by decide +kernel, rfl, by decide +kernel, by decide +kernel⟩
theorem ok_most_calls (D : Def K mg "most_calls" (topS 39) ["hands"]) (B : Bt mg) (h_need_hands : HNeed P w K mg base) (h_groups_in : Has P w K mg base 2 "groups_in" ["hands"] spGroups) : Has P w K mg base 5 "most_calls" ["hands"] spMostC :=
  defV D sc_most_calls (fun _ => rfl) no1 (by decide) fun f cdv Ar outer s H E a hr hp D kk => by
    refine s_callN h_need_hands hr (e_var 0 rfl) hp (s_ret (e_subN (e_lenT B.len (e_var 0 rfl)) (e_lenL B.len (l_call1 h_groups_in (hr.mono (by decide)) (e_var 0 rfl) hp).b) ?_) ?_)
    · exact groups_le (pairsM_ok hp)
    · exact kk
theorem sc_most_locked : FnScope ["hands", "found", "person", "row", "fit", "one", "many"] ["hands"] (defScope (topS 41)) := ⟨rfl, rfl, rfl, by decide +kernel, rfl, by decide +kernel, by decide +kernel⟩
theorem ok_most_locked (D : Def K mg "most_locked" (topS 41) ["hands"]) (B : Bt mg) (h_need_hands : HNeed P w K mg base) (h_cover_in : Has P w K mg base 2 "cover_in" ["hands", "people"] spCoverL) : Has P w K mg base 5 "most_locked" ["hands"] spLocked :=
  defL D sc_most_locked (fun _ => rfl) no1 (by decide) fun f cdv Ar outer s H E a hr hp D kk => by
    have n5 := hp.n5
    refine s_callN h_need_hands hr (e_var 0 rfl) hp ?_
    refine s_setL 1 sc_most_locked.nd (l_one (e_tup0 (α := Nat))) ?_
    refine s_for (S := Hs) (fun F => [.im a, .ls F, .any, .any, .any, .any, .any]) (fun F p => F ++ F.map fun r => r ++ [p]) (fun i F => F = choicesM i) [[]] PassesOwn.never rfl (Wk.refl _) rfl (i_rng B.range (e_lenT B.len (e_var 0 rfl)) ?_) (g_name 2 sc_most_locked.nd) (fun H1 s1 i F p hpp g => ?_) (fun g => ?_)
    · rw [sizeLine_eq]; omega
    · have hi : i < a.length := by
        have := (List.getElem?_eq_some_iff.mp hpp).1
        rw [List.length_range] at this
        exact this
      have e : p = i := by
        rw [List.getElem?_range hi] at hpp
        exact (Option.some.inj hpp).symm
      obtain ⟨_, _, _, h3, h4⟩ := choices_shape i
      have h5 : 2 ^ i ≤ 2 ^ 5 := Nat.pow_le_pow_right (by decide) (by omega)
      subst g
      subst e
      refine ⟨(choices_step p).symm, fun N bk hN => ?_⟩
      refine s_ext 1 rfl (l_compM (own := [("row", 3)]) rfl sc_most_locked.nd ⟨(i_own 1 (.inl rfl)), blkOk_by (N := ["hands", "found", "person", "row", "fit", "one", "many"]) (sc := (defScope (topS 41))) (by decide +kernel), by decide, fun _ _ _ _ _ => (g_name 3 sc_most_locked.nd), fun _ _ _ _ _ x hx => ts_nil, fun _ _ _ _ _ x hx ht => (e_star1 (e_var 3 rfl) (e_var 2 rfl) ?_)⟩) (by rw [List.length_map, h3, sizeLine_eq]; omega) ?_
      · have := h4 _ hx
        rw [sizeLine_eq]; omega
      · exact s_nil fun σ H o => hN σ H (o.weak (.same (.same (.any (.any (.any (.any (.any .nil))))))))
    · refine s_setLc (own := [("row", 3)]) 4 rfl sc_most_locked.nd ⟨(i_own 1 (.inl rfl)), blkOk_by (N := ["hands", "found", "person", "row", "fit", "one", "many"]) (sc := (defScope (topS 41))) (by decide +kernel), by decide, fun _ _ _ _ _ => (g_name 3 sc_most_locked.nd), fun _ _ _ _ _ x hx => ts_one (t_val (e_call2s h_cover_in (hr.mono (by decide)) (e_var 0 rfl) (l_compF (own := [("one", 5)]) rfl sc_most_locked.nd ⟨(i_rng B.range (e_lenT B.len (e_var 0 rfl)) ?_).c, blkOk_by (N := ["hands", "found", "person", "row", "fit", "one", "many"]) (sc := (relS _ (defScope (topS 41)))) (by decide +kernel), by decide, fun _ _ _ _ _ => (g_name 5 sc_most_locked.nd), fun _ _ _ _ _ x hx => ts_one (t_cmp (c_notInT (e_var 5 rfl) (e_var 3 rfl))), fun _ _ _ _ _ x hx ht => (e_var 5 rfl)⟩).b hp)), fun _ _ _ _ _ x hx ht => (e_var 3 rfl)⟩ ?_
      · rw [sizeLine_eq]; omega
      have e : ((choicesM a.length).filter fun r => coverM (pairsM a) ((List.range a.length).filter fun o => !r.contains o)).map (fun x => x) = fitM a.length (pairsM a) := by
        rw [show (fun x : List Nat => x) = id from rfl, List.map_id]
        rfl
      rw [show ((List.range a.length).foldl (fun F p => F ++ F.map fun r => r ++ [p]) [[]]) = choicesM a.length from rfl]
      rw [e]
      refine s_set 6 sc_most_locked.nd (e_maxL B.max rfl (l_compM (own := [("row", 3)]) rfl sc_most_locked.nd ⟨(i_own 4 (.inl rfl)), blkOk_by (N := ["hands", "found", "person", "row", "fit", "one", "many"]) (sc := (defScope (topS 41))) (by decide +kernel), by decide, fun _ _ _ _ _ => (g_name 3 sc_most_locked.nd), fun _ _ _ _ _ x hx => ts_nil, fun _ _ _ _ _ x hx ht => (e_lenT B.len (e_var 3 rfl))⟩).b ?_) ?_
      · simpa using fit_ne (pairsM_ok hp)
      refine s_retL (l_sortT B.sorted hr.units (l_compF (own := [("row", 3)]) rfl sc_most_locked.nd ⟨(i_own 4 (.inl rfl)), blkOk_by (N := ["hands", "found", "person", "row", "fit", "one", "many"]) (sc := (defScope (topS 41))) (by decide +kernel), by decide, fun _ _ _ _ _ => (g_name 3 sc_most_locked.nd), fun _ _ _ _ _ x hx => ts_one (t_cmp (c_eqN (e_lenT B.len (e_var 3 rfl)) (e_var 6 rfl))), fun _ _ _ _ _ x hx ht => (e_var 3 rfl)⟩).b ?_) ?_
      · obtain ⟨r, h1, h2, _⟩ := choices_shape a.length
        unfold fitM
        rw [List.filter_filter]
        exact filter_shape _ ⟨r, h1, h2⟩
      · exact kk
end
end L2.LX
/-! D5: what is reckoned of links, clubs, colours. -/
namespace L2.LX
open PySem PySem.Spec PyProof.Rows PySem.W
/-! ### facts -/
theorem clubs_step (E : Gr) (n : Nat) : clubsUp (n + 1) E = clubsUp n E ++ ((clubsUp n E).filter fun r => (r.map fun o => hasB (o, n) E).all id).map fun r => r ++ [n] := by
  unfold clubsUp
  rw [List.range_succ, List.foldl_append]
  rfl
theorem clubs_shape (E : Gr) : ∀ n, (clubsUp n E).length ≤ 2 ^ n ∧ (∀ x ∈ clubsUp n E, x.length ≤ n) ∧ [] ∈ clubsUp n E
  | 0 => by
    refine ⟨Nat.le_refl _, fun x hx => ?_, ?_⟩
    · have : x = [] := by simpa [clubsUp] using hx
      rw [this]; exact Nat.le_refl _
    · simp [clubsUp]
  | n + 1 => by
    obtain ⟨h1, h2, h3⟩ := clubs_shape E n
    rw [clubs_step]
    refine ⟨?_, fun x hx => ?_, List.mem_append_left _ h3⟩
    · rw [List.length_append, List.length_map, Nat.pow_succ]
      have := List.length_filter_le (fun r : List Nat => (r.map fun o => hasB (o, n) E).all id) (clubsUp n E)
      omega
    · rcases List.mem_append.mp hx with hx | hx
      · exact Nat.le_succ_of_le (h2 x hx)
      · obtain ⟨y, hy, rfl⟩ := List.mem_map.mp hx
        have := h2 y (List.mem_filter.mp hy).1
        rw [List.length_append, List.length_singleton]
        omega
theorem clubsF_ne {n : Nat} (E : Gr) (h : 1 ≤ n) : clubsF n E ≠ [] := by
  obtain ⟨m, rfl⟩ : ∃ m, n = m + 1 := ⟨n - 1, by omega⟩
  have h0 := (clubs_shape E m).2.2
  have : [m] ∈ clubsF (m + 1) E := by
    refine List.mem_filter.mpr ⟨?_, rfl⟩
    rw [clubs_step]
    exact List.mem_append_right _ (List.mem_map.mpr ⟨[], List.mem_filter.mpr ⟨h0, rfl⟩, rfl⟩)
  intro z
  rw [z] at this
  cases this
theorem clubs_ne {n : Nat} (E : Gr) (h : 1 ≤ n) : clubsM n E ≠ [] := by
  have h1 : (clubsF n E).map (fun r => r.length) ≠ [] := by simpa using clubsF_ne E h
  obtain ⟨r, hr, e⟩ := List.mem_map.mp (maxL_mem h1)
  have : r ∈ clubsM n E := by
    unfold clubsM srt
    rw [(isort_perm _).mem_iff, List.mem_filter]
    refine ⟨hr, ?_⟩
    have : ((clubsF n E).map fun o => partM r o).any id = false := by
      rw [List.any_map]
      refine List.any_eq_false.mpr fun o ho => ?_
      have h2 := maxL_le (List.mem_map.mpr ⟨o, ho, rfl⟩ : o.length ∈ (clubsF n E).map (fun r => r.length))
      have h3 : decide (r.length < o.length) = false := decide_eq_false (by have e' : r.length = _ := e; omega)
      show ¬ (partM r o) = true
      unfold partM
      rw [h3]
      simp
    rw [this]
    rfl
  intro z
  rw [z] at this
  cases this
theorem flat_bound {α β : Type} (ys : α → List β) (m : Nat) : ∀ (xs : List α), (∀ x ∈ xs, (ys x).length ≤ m) → (xs.flatMap ys).length ≤ xs.length * m
  | [], _ => by simp
  | x :: xs, h => by
    have h1 := h x List.mem_cons_self
    have h2 := flat_bound ys m xs fun z hz => h z (List.mem_cons_of_mem _ hz)
    rw [List.flatMap_cons, List.length_append, List.length_cons, Nat.succ_mul]
    omega
theorem col_step_ok {E : Gr} {many i p : Nat} {F : Hs} (h : F.length ≤ many ^ i ∧ ∀ r ∈ F, r.length = i) : (colStep E many F p).length ≤ many ^ (i + 1) ∧ ∀ r ∈ colStep E many F p, r.length = i + 1 := by
  refine ⟨?_, fun r hr => ?_⟩
  · have := flat_bound (fun r => ((List.range many).filter fun c => colOk E p r c).map fun c => r ++ [c]) many F fun x _ => by
      rw [List.length_map]
      exact Nat.le_trans (List.length_filter_le _ _) (by rw [List.length_range]; exact Nat.le_refl _)
    rw [Nat.pow_succ]
    exact Nat.le_trans this (Nat.mul_le_mul_right _ h.1)
  · obtain ⟨y, hy, hr⟩ := List.mem_flatMap.mp hr
    obtain ⟨c, _, rfl⟩ := List.mem_map.mp hr
    rw [List.length_append, List.length_singleton, h.2 y hy]
theorem col_all {n : Nat} {E : Gr} (g : GOk n E) : ∀ k ≤ n, List.range k ∈ (List.range k).foldl (colStep E n) [[]]
  | 0, _ => by simp
  | k + 1, hk => by
    have ih := col_all g k (by omega)
    rw [List.range_succ, List.foldl_append]
    refine List.mem_flatMap.mpr ⟨_, ih, List.mem_map.mpr ⟨k, List.mem_filter.mpr ⟨List.mem_range.mpr (by omega), ?_⟩, rfl⟩⟩
    unfold colOk
    rw [List.all_map, List.all_eq_true]
    intro z hz
    obtain ⟨hz, hk2⟩ := List.mem_filter.mp hz
    have h1 := g.lt z hz
    have h2 : z.2 = k := by simpa using hk2
    have h3 : (List.range k).getD z.1 0 = z.1 := by rw [List.getD_eq_getElem?_getD, List.getElem?_range (by omega)]; rfl
    show (!((List.range k).getD z.1 0 == k)) = true
    rw [h3]
    simp
    omega
theorem col_ne {n : Nat} {E : Gr} (g : GOk n E) : colM n E n ≠ [] := fun z => by
  have := col_all g n (Nat.le_refl n)
  unfold colM at z
  rw [z] at this
  cases this
theorem colFrom_at {n : Nat} {E : Gr} {m : Nat} (hm : m ≤ n) (h : colM n E m ≠ []) : colFrom n E (n + 1 - m) m = m := by
  rw [show n + 1 - m = (n - m) + 1 from by omega]
  unfold colFrom
  rw [if_neg (by simpa using h)]
theorem colFrom_up {n : Nat} {E : Gr} {m : Nat} (hm : m ≤ n) (h : colM n E m = []) : colFrom n E (n + 1 - m) m = colFrom n E (n + 1 - (m + 1)) (m + 1) := by
  rw [show n + 1 - m = (n - m) + 1 from by omega, show n + 1 - (m + 1) = n - m from by omega]
  conv => lhs; unfold colFrom
  rw [if_pos (by rw [h]; rfl)]
section
variable {P : Program} {w : World} {K : PySem.W.Frag} {mg : Str → Option Value} {base : Heap}
abbrev spLinked : Sp := spL (fun a : Hs × Nat => [.im a.1, .im a.2]) (fun a => HOk a.1) (fun a => linkedM (pairsM a.1) a.2)
abbrev spLinks : Sp := spV (fun a : Hs => [.im a]) HOk (fun h => linksM h.length (pairsM h))
abbrev spMostL : Sp := spV (fun a : Hs => [.im a]) HOk (fun h => mostLinkedM h.length (pairsM h))
abbrev spClubs : Sp := spL (fun a : Hs => [.im a]) HOk (fun h => clubsM h.length (pairsM h))
abbrev spPart : Sp := spV (fun a : List Nat × List Nat => [.im a.1, .im a.2]) (fun _ => True) (fun a => partM a.1 a.2)
abbrev spClub : Sp := spV (fun a : Hs => [.im a]) HOk (fun h => clubM h.length (pairsM h))
abbrev spTree : Sp := spV (fun a : Hs => [.im a]) HOk (fun h => treeM h.length (pairsM h))
abbrev spCol : Sp := spL (fun a : Hs × Nat => [.im a.1, .im a.2]) (fun a => HOk a.1 ∧ a.2 ≤ 5) (fun a => colM a.1.length (pairsM a.1) a.2)
abbrev spCols : Sp := spV (fun a : Hs => [.im a]) HOk (fun h => coloursM h.length (pairsM h))
theorem sc_linked_to : FnScope ["hands", "person", "found", "one", "other"] ["hands", "person"] (defScope (topS 43)) := ⟨rfl, rfl, rfl, by decide +kernel, rfl, by decide +kernel, by decide +kernel⟩
theorem ok_linked_to (D : Def K mg "linked_to" (topS 43) ["hands", "person"]) (B : Bt mg) (h_pairs_in : HPairs P w K mg base) : Has P w K mg base 2 "linked_to" ["hands", "person"] spLinked :=
  defL D sc_linked_to (fun _ => rfl) no2 (by decide) fun f cdv Ar outer s H E a hr hp D kk => by
    have p10 := pairs_len hp
    refine s_setL 2 sc_linked_to.nd (l_nil (α := Nat)) ?_
    refine s_for (S := List Nat) (fun F => [.im a.1, .im a.2, .ls F, .any, .any]) (fun F z => if [z.1, z.2].contains a.2 then F ++ [z.1 + z.2 - a.2] else F) (fun i F => F.length ≤ i) [] PassesOwn.never rfl (Wk.refl _) (Nat.zero_le _) (i_new (l_call1 h_pairs_in (hr.mono (by decide)) (e_var 0 rfl) hp)) (g_pair 3 4 rfl sc_linked_to.nd) (fun H1 s1 i F z hz g => ?_) (fun g => ?_)
    · have hi : i < 10 := Nat.lt_of_lt_of_le (List.getElem?_eq_some_iff.mp hz).1 p10
      refine ⟨?_, fun N bk hN => ?_⟩
      · show (if _ then _ else _ : List Nat).length ≤ i + 1
        split
        · simp; omega
        · omega
      refine s_ifb (t_cmp (c_inT (e_var 1 rfl) (e_tup2 (e_var 3 rfl) (e_var 4 rfl)))) (fun ht => ?_) (fun ht => ?_)
      · refine s_app 2 rfl (e_subN (e_addN (e_var 3 rfl) (e_var 4 rfl)) (e_var 1 rfl) ?_) (by rw [sizeLine_eq]; omega) ?_
        · have : a.2 = z.1 ∨ a.2 = z.2 := by simpa using ht
          omega
        refine s_nil fun σ H o => s_nil (fun σ H o => hN σ H ?_) σ H o
        rw [if_pos ht]
        exact o.weak (.same (.same (.same (.any (.any .nil)))))
      · refine s_nil fun σ H o => hN σ H ?_
        rw [if_neg (by rw [ht]; decide)]
        exact o.weak (.same (.same (.same (.any (.any .nil)))))
    · have e : (pairsM a.1).foldl (fun F z => if [z.1, z.2].contains a.2 then F ++ [z.1 + z.2 - a.2] else F) [] = ((pairsM a.1).filter fun z => [z.1, z.2].contains a.2).map fun z => z.1 + z.2 - a.2 := by
        rw [foldl_appIf (fun z : Nat × Nat => [z.1, z.2].contains a.2) (fun z => z.1 + z.2 - a.2)]
        exact List.nil_append _
      rw [e]
      exact s_retL (l_sortN B.sorted (b_var 2 (.inl rfl))) kk
theorem sc_link_counts : FnScope ["hands", "person"] ["hands"] (defScope (topS 44)) := ⟨rfl, rfl, rfl, by decide +kernel, rfl, by decide +kernel, by decide +kernel⟩
theorem ok_link_counts (D : Def K mg "link_counts" (topS 44) ["hands"]) (B : Bt mg) (h_need_hands : HNeed P w K mg base) (h_linked_to : Has P w K mg base 2 "linked_to" ["hands", "person"] spLinked) : Has P w K mg base 5 "link_counts" ["hands"] spLinks :=
  defV D sc_link_counts (fun _ => rfl) no1 (by decide) fun f cdv Ar outer s H E a hr hp D kk => by
    have n5 := hp.n5
    refine s_callN h_need_hands hr (e_var 0 rfl) hp (s_ret (e_tuple B.tuple (l_compM (own := [("person", 1)]) rfl sc_link_counts.nd ⟨(i_rng B.range (e_lenT B.len (e_var 0 rfl)) ?_).c, blkOk_by (N := ["hands", "person"]) (sc := (defScope (topS 44))) (by decide +kernel), by decide, fun _ _ _ _ _ => (g_name 1 sc_link_counts.nd), fun _ _ _ _ _ x hx => ts_nil, fun _ _ _ _ _ x hx ht => (e_lenL B.len (l_call2 h_linked_to (hr.mono (by decide)) (e_var 0 rfl) (e_var 1 rfl) hp).b)⟩).b) ?_)
    · rw [sizeLine_eq]; omega
    · exact kk
theorem sc_most_linked : FnScope ["hands", "many", "person"] ["hands"] (defScope (topS 45)) := ⟨rfl, rfl, rfl, by decide +kernel, rfl, by decide +kernel, by decide +kernel⟩
theorem ok_most_linked (D : Def K mg "most_linked" (topS 45) ["hands"]) (B : Bt mg) (h_need_hands : HNeed P w K mg base) (h_linked_to : Has P w K mg base 2 "linked_to" ["hands", "person"] spLinked) : Has P w K mg base 5 "most_linked" ["hands"] spMostL :=
  defV D sc_most_linked (fun _ => rfl) no1 (by decide) fun f cdv Ar outer s H E a hr hp D kk => by
    have n5 := hp.n5
    have n1 := hp.n1
    refine s_callN h_need_hands hr (e_var 0 rfl) hp ?_
    refine s_set2 1 2 rfl sc_most_linked.nd (e_leastB ((0 : Int), (0 : Nat)) B.min rfl hr.units (l_compM (own := [("person", 2)]) rfl sc_most_linked.nd ⟨(i_rng B.range (e_lenT B.len (e_var 0 rfl)) ?_).c, blkOk_by (N := ["hands", "many", "person"]) (sc := (defScope (topS 45))) (by decide +kernel), by decide, fun _ _ _ _ _ => (g_name 2 sc_most_linked.nd), fun _ _ _ _ _ x hx => ts_nil, fun _ _ _ _ _ x hx ht => (e_pair (e_negN (e_lenL B.len (l_call2 h_linked_to (hr.mono (by decide)) (e_var 0 rfl) (e_var 2 rfl) hp).b)) (e_var 2 rfl))⟩).b ?_) ?_
    · rw [sizeLine_eq]; omega
    · have : List.range a.length ≠ [] := by
        intro z
        have := congrArg List.length z
        rw [List.length_range] at this
        simp at this
        rw [this] at n1
        cases n1
      simpa using this
    · exact s_ret (e_pair (e_negI (e_var 1 rfl)) (e_var 2 rfl)) kk
theorem sc_is_part : FnScope ["row", "other", "person"] ["row", "other"] (defScope (topS 47)) := ⟨rfl, rfl, rfl, by decide +kernel, rfl, by decide +kernel, by decide +kernel⟩
theorem ok_is_part (D : Def K mg "is_part" (topS 47) ["row", "other"]) (B : Bt mg) : Has P w K mg base 1 "is_part" ["row", "other"] spPart :=
  defV D sc_is_part (fun _ => rfl) no2 (by decide) fun f cdv Ar outer s H E a hr hp D kk => by
    refine s_ret (e_and (e_cmp (c_ltN (e_lenT B.len (e_var 0 rfl)) (e_lenT B.len (e_var 1 rfl)))) (fun _ => (e_all B.all rfl (l_compM (own := [("person", 2)]) rfl sc_is_part.nd ⟨(i_tup (e_var 0 rfl)).c, blkOk_by (N := ["row", "other", "person"]) (sc := (defScope (topS 47))) (by decide +kernel), by decide, fun _ _ _ _ _ => (g_name 2 sc_is_part.nd), fun _ _ _ _ _ x hx => ts_nil, fun _ _ _ _ _ x hx ht => (e_cmp (c_inT (e_var 2 rfl) (e_var 1 rfl)))⟩).b))) ?_
    exact kk
theorem sc_clubs : FnScope ["hands", "some", "found", "person", "row", "one", "other"] ["hands"] (defScope (topS 46)) := ⟨rfl, rfl, rfl, by decide +kernel, rfl, by decide +kernel, by decide +kernel⟩
theorem ok_clubs (D : Def K mg "clubs" (topS 46) ["hands"]) (B : Bt mg) (h_need_hands : HNeed P w K mg base) (h_pairs_in : HPairs P w K mg base) (h_is_part : Has P w K mg base 1 "is_part" ["row", "other"] spPart) : Has P w K mg base 5 "clubs" ["hands"] spClubs :=
  defL D sc_clubs (fun _ => rfl) no1 (by decide) fun f cdv Ar outer s H E a hr hp D kk => by
    have n5 := hp.n5
    refine s_callN h_need_hands hr (e_var 0 rfl) hp ?_
    refine s_parT 1 2 rfl sc_clubs.nd (EL.r (l_call1 h_pairs_in (hr.mono (by decide)) (e_var 0 rfl) hp)) (EL.r (l_one (e_tup0 (α := Nat)))) ?_
    refine s_for (S := Hs) (fun F => [.im a, .ls (pairsM a), .ls F, .any, .any, .any, .any]) (fun f p => f ++ (f.filter fun r => (r.map fun o => hasB (o, p) (pairsM a)).all id).map fun r => r ++ [p]) (fun i F => F = clubsUp i (pairsM a)) [[]] PassesOwn.never rfl (Wk.refl _) rfl (i_rng B.range (e_lenT B.len (e_var 0 rfl)) ?_) (g_name 3 sc_clubs.nd) (fun H1 s1 i F p hpp g => ?_) (fun g => ?_)
    · rw [sizeLine_eq]; omega
    · have hi : i < a.length := by
        have := (List.getElem?_eq_some_iff.mp hpp).1
        rw [List.length_range] at this
        exact this
      have e : p = i := by
        rw [List.getElem?_range hi] at hpp
        exact (Option.some.inj hpp).symm
      obtain ⟨h3, h4, _⟩ := clubs_shape (pairsM a) i
      have h5 : 2 ^ i ≤ 2 ^ 5 := Nat.pow_le_pow_right (by decide) (by omega)
      have h6 := List.length_filter_le (fun r : List Nat => (r.map fun o => hasB (o, p) (pairsM a)).all id) (clubsUp i (pairsM a))
      subst g
      subst e
      refine ⟨(clubs_step _ p).symm, fun N bk hN => ?_⟩
      refine s_ext 2 rfl (l_comp (own := [("row", 4)]) rfl sc_clubs.nd ⟨(i_own 2 (.inl rfl)), blkOk_by (N := ["hands", "some", "found", "person", "row", "one", "other"]) (sc := (defScope (topS 46))) (by decide +kernel), by decide, fun _ _ _ _ _ => (g_name 4 sc_clubs.nd), fun _ _ _ _ _ x hx => ts_one (t_val (e_all B.all rfl (l_compM (own := [("one", 5)]) rfl sc_clubs.nd ⟨(i_tup (e_var 4 rfl)).c, blkOk_by (N := ["hands", "some", "found", "person", "row", "one", "other"]) (sc := (relS _ (defScope (topS 46)))) (by decide +kernel), by decide, fun _ _ _ _ _ => (g_name 5 sc_clubs.nd), fun _ _ _ _ _ x hx => ts_nil, fun _ _ _ _ _ x hx ht => (e_cmp (c_inL hr.u65 (e_pair (e_var 5 rfl) (e_var 3 rfl)) (b_var 1 (.inl rfl))))⟩).b)), fun _ _ _ _ _ x hx ht => (e_star1 (e_var 4 rfl) (e_var 3 rfl) ?_)⟩) (by rw [List.length_map, sizeLine_eq]; omega) ?_
      · have := h4 _ hx
        rw [sizeLine_eq]; omega
      · exact s_nil fun σ H o => hN σ H (o.weak (.same (.same (.same (.any (.any (.any (.any .nil))))))))
    · rw [show ((List.range a.length).foldl (fun f p => f ++ (f.filter fun r => (r.map fun o => hasB (o, p) (pairsM a)).all id).map fun r => r ++ [p]) [[]]) = clubsUp a.length (pairsM a) from rfl]
      refine s_setL 2 sc_clubs.nd (l_compF (own := [("row", 4)]) rfl sc_clubs.nd ⟨(i_own 2 (.inl rfl)), blkOk_by (N := ["hands", "some", "found", "person", "row", "one", "other"]) (sc := (defScope (topS 46))) (by decide +kernel), by decide, fun _ _ _ _ _ => (g_name 4 sc_clubs.nd), fun _ _ _ _ _ x hx => ts_one (t_cmp (c_neD hr.units (e_var 4 rfl) e_tup0)), fun _ _ _ _ _ x hx ht => (e_var 4 rfl)⟩) ?_
      refine s_retL (l_sortT B.sorted hr.units (l_compF (own := [("row", 4)]) rfl sc_clubs.nd ⟨(i_own 2 (.inl rfl)), blkOk_by (N := ["hands", "some", "found", "person", "row", "one", "other"]) (sc := (defScope (topS 46))) (by decide +kernel), by decide, fun _ _ _ _ _ => (g_name 4 sc_clubs.nd), fun _ _ _ _ _ x hx => ts_one (t_not (t_val (e_any B.any rfl (l_compM (own := [("other", 6)]) rfl sc_clubs.nd ⟨(i_own 2 (.inl rfl)), blkOk_by (N := ["hands", "some", "found", "person", "row", "one", "other"]) (sc := (relS _ (defScope (topS 46)))) (by decide +kernel), by decide, fun _ _ _ _ _ => (g_name 6 sc_clubs.nd), fun _ _ _ _ _ x hx => ts_nil, fun _ _ _ _ _ x hx ht => (e_call2 h_is_part (hr.mono (by decide)) (e_var 4 rfl) (e_var 6 rfl) trivial)⟩).b))), fun _ _ _ _ _ x hx ht => (e_var 4 rfl)⟩).b ?_) ?_
      · refine .inl fun x hx => ?_
        have h1 := (List.mem_filter.mp (List.mem_filter.mp hx).1).2
        intro z
        rw [z] at h1
        cases h1
      · exact kk
theorem sc_greatest_club : FnScope ["hands", "many", "row"] ["hands"] (defScope (topS 48)) := ⟨rfl, rfl, rfl, by decide +kernel, rfl, by decide +kernel, by decide +kernel⟩
theorem ok_greatest_club (D : Def K mg "greatest_club" (topS 48) ["hands"]) (B : Bt mg) (h_clubs : Has P w K mg base 5 "clubs" ["hands"] spClubs) : Has P w K mg base 6 "greatest_club" ["hands"] spClub :=
  defV D sc_greatest_club (fun _ => rfl) no1 (by decide) fun f cdv Ar outer s H E a hr hp D kk => by
    have n1 := hp.n1
    refine s_set2 1 2 rfl sc_greatest_club.nd (e_leastB ((0 : Int), ([] : List Nat)) B.min rfl hr.units (l_compM (own := [("row", 2)]) rfl sc_greatest_club.nd ⟨(i_new (l_call1 h_clubs (hr.mono (by decide)) (e_var 0 rfl) hp)).c, blkOk_by (N := ["hands", "many", "row"]) (sc := (defScope (topS 48))) (by decide +kernel), by decide, fun _ _ _ _ _ => (g_name 2 sc_greatest_club.nd), fun _ _ _ _ _ x hx => ts_nil, fun _ _ _ _ _ x hx ht => (e_pair (e_negN (e_lenT B.len (e_var 2 rfl))) (e_var 2 rfl))⟩).b ?_) ?_
    · simpa using clubs_ne (pairsM a) n1
    · exact s_ret (e_pair (e_negI (e_var 1 rfl)) (e_var 2 rfl)) kk
theorem sc_is_tree : FnScope ["hands"] ["hands"] (defScope (topS 49)) := ⟨rfl, rfl, rfl, by decide +kernel, rfl, by decide +kernel, by decide +kernel⟩
theorem ok_is_tree (D : Def K mg "is_tree" (topS 49) ["hands"]) (B : Bt mg) (h_need_hands : HNeed P w K mg base) (h_pairs_in : HPairs P w K mg base) (h_groups_in : Has P w K mg base 2 "groups_in" ["hands"] spGroups) : Has P w K mg base 5 "is_tree" ["hands"] spTree :=
  defV D sc_is_tree (fun _ => rfl) no1 (by decide) fun f cdv Ar outer s H E a hr hp D kk => by
    have n1 := hp.n1
    refine s_callN h_need_hands hr (e_var 0 rfl) hp (s_ret (e_and (e_cmp (c_eqN (e_lenL B.len (l_call1 h_groups_in (hr.mono (by decide)) (e_var 0 rfl) hp).b) (e_nat 1))) (fun _ => (e_cmp (c_eqN (e_lenL B.len (l_call1 h_pairs_in (hr.mono (by decide)) (e_var 0 rfl) hp).b) (e_subN (e_lenT B.len (e_var 0 rfl)) (e_nat 1) ?_))))) ?_)
    · exact n1
    · exact kk
theorem sc_colourings : FnScope ["hands", "many", "found", "some", "person", "later", "row", "colour", "one", "other"] ["hands", "many"] (defScope (topS 50)) := ⟨rfl, rfl, rfl, by decide +kernel, rfl, by decide +kernel, by decide +kernel⟩
theorem ok_colourings (D : Def K mg "colourings" (topS 50) ["hands", "many"]) (B : Bt mg) (h_pairs_in : HPairs P w K mg base) : Has P w K mg base 2 "colourings" ["hands", "many"] spCol :=
  defL D sc_colourings (fun _ => rfl) no2 (by decide) fun f cdv Ar outer s H E a hr hp D kk => by
    have m5 := hp.2
    replace hp := hp.1
    have n5 := hp.n5
    have go := pairsM_ok hp
    refine s_setL 2 sc_colourings.nd (l_one (e_tup0 (α := Nat))) ?_
    refine s_setL 3 sc_colourings.nd (l_call1 h_pairs_in (hr.mono (by decide)) (e_var 0 rfl) hp) ?_
    have pw : ∀ i ≤ 5, a.2 ^ i ≤ 5 ^ 5 := fun i hi => Nat.le_trans (Nat.pow_le_pow_left m5 i) (Nat.pow_le_pow_right (by decide) hi)
    refine s_for (S := Hs) (fun F => [.im a.1, .im a.2, .ls F, .ls (pairsM a.1), .any, .any, .any, .any, .any, .any]) (colStep (pairsM a.1) a.2) (fun i F => F.length ≤ a.2 ^ i ∧ ∀ r ∈ F, r.length = i) [[]] PassesOwn.never rfl (Wk.refl _) ⟨Nat.le_refl _, fun r hr => by rw [List.mem_singleton.mp hr]; rfl⟩ (i_rng B.range (e_lenT B.len (e_var 0 rfl)) ?_) (g_name 4 sc_colourings.nd) (fun H1 s1 i F p hpp g => ?_) (fun g => ?_)
    · rw [sizeLine_eq]; omega
    · have hi : i < a.1.length := by
        have := (List.getElem?_eq_some_iff.mp hpp).1
        rw [List.length_range] at this
        exact this
      have e : p = i := by
        rw [List.getElem?_range hi] at hpp
        exact (Option.some.inj hpp).symm
      subst e
      have hF := pw p (by omega)
      refine ⟨col_step_ok g, fun N bk hN => ?_⟩
      refine s_setL 5 sc_colourings.nd (l_nil (α := List Nat)) ?_
      refine s_read (xs := F) 2 rfl ?_
      refine s_for (S := Hs) (fun L => [.im a.1, .im a.2, .rl F, .ls (pairsM a.1), .im p, .ls L, .any, .any, .any, .any]) (fun L r => L ++ ((List.range a.2).filter fun c => colOk (pairsM a.1) p r c).map fun c => r ++ [c]) (fun j L => L.length ≤ j * 5) [] PassesOwn.never rfl (Wk.refl _) (Nat.zero_le _) (i_var 2 rfl) (g_name 6 sc_colourings.nd) (fun H2 s2 j L r hr gj => ?_) (fun gj => ?_)
      · have hj := (List.getElem?_eq_some_iff.mp hr).1
        have hrl := g.2 r (List.mem_of_getElem? hr)
        refine ⟨?_, fun N2 bk2 hN2 => ?_⟩
        · show (L ++ _).length ≤ (j + 1) * 5
          have := List.length_filter_le (fun c => colOk (pairsM a.1) p r c) (List.range a.2)
          rw [List.length_range] at this
          rw [List.length_append, List.length_map]
          omega
        refine s_for (S := Hs) (fun L => [.im a.1, .im a.2, .rl F, .ls (pairsM a.1), .im p, .ls L, .im r, .any, .any, .any]) (fun L c => if colOk (pairsM a.1) p r c then L ++ [r ++ [c]] else L) (fun l L => L.length ≤ j * 5 + l) L PassesOwn.never rfl (Wk.refl _) (by show L.length ≤ j * 5 + 0; omega) (i_rng B.range (e_var 1 rfl) ?_) (g_name 7 sc_colourings.nd) (fun H3 s3 l L2 c hc gl => ?_) (fun gl => ?_)
        · rw [sizeLine_eq]; omega
        · have hl : l < a.2 := by
            have := (List.getElem?_eq_some_iff.mp hc).1
            rw [List.length_range] at this
            exact this
          refine ⟨?_, fun N3 bk3 hN3 => ?_⟩
          · show (if _ then _ else _ : Hs).length ≤ j * 5 + (l + 1)
            split
            · simp; omega
            · omega
          refine s_ifb (b := colOk (pairsM a.1) p r c) (t_val (e_all B.all rfl (l_comp (own := [("one", 8), ("other", 9)]) rfl sc_colourings.nd ⟨(i_own 3 (.inl rfl)), blkOk_by (N := ["hands", "many", "found", "some", "person", "later", "row", "colour", "one", "other"]) (sc := (defScope (topS 50))) (by decide +kernel), by decide, fun _ _ _ _ _ => (g_pair 8 9 rfl sc_colourings.nd), fun _ _ _ _ _ x hx => ts_one (t_cmp (c_eqN (e_var 9 rfl) (e_var 4 rfl))), fun _ _ _ _ _ x hx ht => (e_cmp (c_neN (e_ixTd 0 (e_var 6 rfl) (e_var 8 rfl) ?_) (e_var 7 rfl)))⟩).b)) (fun ht => ?_) (fun ht => ?_)
          · have h1 := go.lt x hx
            have h2 : x.2 = p := by simpa using ht
            omega
          · refine s_app 5 rfl (e_star1 (e_var 6 rfl) (e_var 7 rfl) ?_) (by rw [sizeLine_eq]; omega) ?_
            · rw [sizeLine_eq]; omega
            refine s_nil fun σ H o => s_nil (fun σ H o => hN3 σ H ?_) σ H o
            rw [if_pos ht]
            exact o.weak (.same (.same (.same (.same (.same (.same (.same (.any (.any (.any .nil))))))))))
          · refine s_nil fun σ H o => hN3 σ H ?_
            rw [if_neg (by rw [ht]; decide)]
            exact o.weak (.same (.same (.same (.same (.same (.same (.same (.any (.any (.any .nil))))))))))
        · refine s_nil fun σ H o => hN2 σ H ?_
          rw [foldl_appIf (fun c => colOk (pairsM a.1) p r c) (fun c => r ++ [c])] at o
          exact o.weak (.same (.same (.same (.same (.same (.same (.any (.any (.any (.any .nil))))))))))
      · rw [foldl_flat (fun r => ((List.range a.2).filter fun c => colOk (pairsM a.1) p r c).map fun c => r ++ [c]), List.nil_append]
        refine s_move (xs := colStep (pairsM a.1) a.2 F p) 2 5 sc_colourings.nd rfl (by decide) (by simp) ?_
        exact s_nil fun σ H o => hN σ H (o.weak (.same (.same (.same (.same (.any (.any (.any (.any (.any (.any .nil)))))))))))
    · exact s_retV 2 rfl kk
theorem sc_least_colours : FnScope ["hands", "many"] ["hands"] (defScope (topS 51)) := ⟨rfl, rfl, rfl, by decide +kernel, rfl, by decide +kernel, by decide +kernel⟩
theorem ok_least_colours (D : Def K mg "least_colours" (topS 51) ["hands"]) (B : Bt mg) (h_need_hands : HNeed P w K mg base) (h_colourings : Has P w K mg base 2 "colourings" ["hands", "many"] spCol) : Has P w K mg base 5 "least_colours" ["hands"] spCols :=
  defV D sc_least_colours (fun _ => rfl) no1 (by decide) fun f cdv Ar outer s H E a hr hp D kk => by
    have n1 := hp.n1
    have n5 := hp.n5
    have go := pairsM_ok hp
    refine s_callN h_need_hands hr (e_var 0 rfl) hp ?_
    refine s_set 1 sc_least_colours.nd (e_nat 1) ?_
    refine s_while (S := Nat) (fun m => [.im a, .im m]) (fun m => m ≤ a.length ∧ colFrom a.length (pairsM a) (a.length + 1 - m) m = coloursM a.length (pairsM a)) (fun m => bqL (colM a.length (pairsM a) m) []) (fun m => a.length - m) 1 PassesOwn.never (Wk.refl _) ⟨n1, rfl⟩ (fun m im => ?_) (fun m im ht N bk hN => ?_) (fun m im ht => ?_)
    · refine TV.as (t_cmp (c_eqL hr.units (l_call2 h_colourings (hr.mono (by decide)) (e_var 0 rfl) (e_var 1 rfl) ?_).b l_nil.b)) ?_
      · exact ⟨hp, Nat.le_trans im.1 n5⟩
      · rfl
    · have h1 := (bqL_iff _ _).mp ht
      have h2 : m ≠ a.length := fun z => col_ne go (z ▸ h1)
      refine s_augN (m := m) (n := 1) 1 sc_least_colours.nd rfl (e_nat 1) ?_
      refine s_nil fun σ H o => hN (m + 1) ⟨by omega, ?_⟩ (by omega) σ H o
      rw [← colFrom_up im.1 h1]
      exact im.2
    · have h1 : colM a.length (pairsM a) m ≠ [] := fun z => by
        rw [(bqL_iff _ _).mpr z] at ht
        cases ht
      have e : m = coloursM a.length (pairsM a) := by rw [← im.2, colFrom_at im.1 h1]
      exact s_ret (e_eq (e_var 1 rfl) e) kk
end
end L2.LX
/-! DA: {**d, k: v}. -/
namespace L2.LX
open PySem PySem.Spec PyProof.Rows PySem.W
section
variable {prog : Program} {w : World} {A : Around} {E : Value → Shared → Prop} {s : Shared}
/-- one entry goes into a dict -/
theorem put_map {d : Addr} {kvs : List (Key × Value)} {k : Key} {key v : Value} {Q : Unit → Shared → Prop} (hkey : (mixKind prog w).is k key = true) (hm : s.heap.DictOf (mixKind prog w) d kvs) (hsz : kvs.length ≤ sizeLine)
    (hQ : ∀ h', h'.DictOf (mixKind prog w) d (stored kvs k v) → Heap.SameBut d s.heap h' → Q () { s with heap := h' }) :
    wpAny (model prog w) A (dictPut d ((mixKind prog w).hash k) key v) Q E s := by
  obtain ⟨ob, ents, epo, g1, g2, g3, g4, g5, g6⟩ := hm
  have hz : ents.size ≤ sizeLine := by
    have q := g5.length
    have r : ents.toList.length = ents.size := Array.length_toList
    omega
  have same : (ents.findIdx? fun z => (mixKind prog w).is k z.key) = kvs.findIdx? fun z => decide (z.1 = k) := by
    have q := g5.findIdx k
    obtain ⟨l⟩ := ents
    simpa using q
  unfold dictPut
  refine wpAny_bind (wpAny_dictFind_of hkey g1 g3 g4 ?_)
  generalize hq : (ents.findIdx? fun z => (mixKind prog w).is k z.key) = r
  cases r with
  | some i =>
    have there : (kvs.any fun z => decide (z.1 = k)) = true := any_of_findIdx_some (same ▸ hq)
    have e1 : stored kvs k v = kvs.map fun z => if z.1 = k then (z.1, v) else z := by
      unfold stored; rw [if_pos there]
    refine wpAny_updateDict g1 g3 (hQ _ ⟨_, _, epo, Heap.get?_update_self _ g1 (Obj.isFreed_of_dict (Obj.data_mapDict g3 _)), g2.mapDict _, Obj.data_mapDict g3 _, g4.modify _ _, ?_, ?_⟩ (Heap.SameBut.update ..))
    · have hl : (ents.toList.findIdx? fun z => (mixKind prog w).is k z.key) = some i := by
        rw [← hq]
        obtain ⟨l⟩ := ents
        simp
      have q := g5.modify g6 hl v
      unfold stored
      rw [if_pos there]
      obtain ⟨l⟩ := ents
      simpa using q
    · unfold stored
      rw [if_pos there, keys_map_store]
      exact g6
  | none =>
    have hn : k ∉ kvs.map (·.1) := not_mem_of_findIdx_none (same ▸ hq)
    have gone : ¬ (kvs.any fun z => decide (z.1 = k)) = true := fun z => by
      obtain ⟨y, hy, e⟩ := List.any_eq_true.mp z
      exact hn (List.mem_map.mpr ⟨y, hy, of_decide_eq_true e⟩)
    refine wpAny_updateDictKeys (hz := hz) g1 g3 (hQ _ ⟨_, _, epo + 1, Heap.get?_update_self _ g1 (Obj.isFreed_of_dict (Obj.data_mapDictKeys g3 _)), g2.mapDictKeys _, Obj.data_mapDictKeys g3 _, g4.push hkey _, ?_, ?_⟩ (Heap.SameBut.update ..))
    · have q := g5.append hkey ((mixKind prog w).hash k) v
      unfold stored
      rw [if_neg gone]
      obtain ⟨l⟩ := ents
      simpa using q
    · unfold stored
      rw [if_neg gone, List.map_append]
      refine List.nodup_append.mpr ⟨g6, by simp, fun a ha b hb => ?_⟩
      have e : b = k := by simpa using hb
      rw [e]
      exact fun z => hn (z ▸ ha)
theorem key_flat {k : Key} {key : Value} (h : (mixKind prog w).is k key = true) : ∀ a, key ≠ .ref a := fun a z => by
  rcases keyIs_shape h with ⟨i, t, _, e⟩ | ⟨x, t, _, e⟩
  · exact nomatch (z.symm.trans e)
  · exact nomatch (z.symm.trans e)
/-- what is in one dict goes into another -/
theorem merge_map {d o : Addr} {kvs more : List (Key × Value)} {Q : Unit → Shared → Prop} (hdo : d ≠ o) (hoS : (o == sysModules) = false) (hd : s.heap.DictOf (mixKind prog w) d kvs) (ho : s.heap.DictOf (mixKind prog w) o more) (hsz : kvs.length + more.length ≤ sizeLine)
    (hQ : ∀ h', h'.DictOf (mixKind prog w) d (merged kvs more) → h'.DictOf (mixKind prog w) o more → Heap.SameBut d s.heap h' → Q () { s with heap := h' }) :
    wpAny (model prog w) A (mergeMapping d (.ref o) false) Q E s := by
  obtain ⟨od, esd, epd, a1, a2, a3, a4, a5, a6⟩ := id hd
  obtain ⟨oo, eso, epo, b1, b2, b3, b4, b5, b6⟩ := id ho
  have hl : more.length = eso.size := by
    have q := b5.length
    rw [← q]
    exact Array.length_toList
  have go : wpAny (model prog w) A (do
      let size := (← dictEntries o).size
      let epoch ← dictEpoch o
      for i in List.range size do
        let some e := (← dictEntries o)[i]? | unsupported "dict.changed-during-merge"
        holding [e.key, e.val] do
          if false = true then
            if (← dictFind d e.key e.hash).isSome then rule "dict.merge.duplicate-key"; raiseNew (← newExc (.type "KeyError") [e.key])
          dictPut d e.hash e.key e.val
        if (← dictEpoch o) != epoch then unsupported "dict.changed-during-merge") Q E s := by
    refine wpAny_bind (wpAny_dictEntries b1 b3 ?_)
    refine wpAny_bind (wpAny_dictEpoch b1 b3 ?_)
    refine wpAny_bind ?_
    refine wpAny_forIn_list _ (fun rest _ t => ∃ h' i, t = { s with heap := h' } ∧ rest = List.range' i (eso.size - i) ∧ i ≤ eso.size ∧ h'.DictOf (mixKind prog w) d (merged kvs (more.take i)) ∧ h'.get? o = some oo ∧ Heap.SameBut d s.heap h') _ ?_ ?_ _ _ ⟨s.heap, 0, rfl, by rw [List.range_eq_range']; simp, Nat.zero_le _, by simpa [merged] using hd, b1, Heap.SameBut.refl _ _⟩
    · rintro x rest b t ⟨h', i, rfl, hr, hi, q1, q2, q3⟩
      have lt : i < eso.size := by
        by_cases z : i < eso.size
        · exact z
        · rw [show eso.size - i = 0 from by omega] at hr
          cases hr
      obtain ⟨rfl, hr'⟩ : x = i ∧ rest = List.range' (i + 1) (eso.size - (i + 1)) := by
        rw [show eso.size - i = (eso.size - (i + 1)) + 1 from by omega, List.range'_succ] at hr
        cases hr
        exact ⟨rfl, rfl⟩
      refine wpAny_bind (wpAny_dictEntries q2 b3 ?_)
      rw [Array.getElem?_eq_getElem lt]
      have hx : more[x]? = some (more[x]'(by omega)) := List.getElem?_eq_getElem _
      generalize hkv : more[x]'(by omega) = kv at hx
      obtain ⟨k, v⟩ := kv
      obtain ⟨c1, c2⟩ := b5.get? (e := eso[x]) (by simp [lt]) hx
      obtain ⟨k', c3, c4⟩ := b4 eso[x] (Array.getElem_mem lt)
      have ek : k' = k := (mixKind prog w).inj _ _ _ c3 c1
      subst ek
      have few : (merged kvs (more.take x)).length ≤ sizeLine := by
        have e1 := merged_length_le kvs (more.take x)
        have e2 : (more.take x).length ≤ more.length := by rw [List.length_take]; omega
        omega
      show wpAny _ _ (holding [eso[x].key, eso[x].val] (dictPut d eso[x].hash eso[x].key eso[x].val) >>= _) _ _ _
      rw [c4, c2]
      refine wpAny_bind (wpAny_holding (put_map c1 q1 few fun g r1 r2 => ?_))
      have q2' : g.get? o = some oo := (r2.2 o (Ne.symm hdo)).trans q2
      refine wpAny_bind (wpAny_dictEpoch q2' b3 ?_)
      rw [if_neg (by simp)]
      exact wpAny_pure ⟨g, x + 1, rfl, hr', lt, by rw [merged_take_succ kvs more x _ hx]; exact r1, q2', q3.trans r2⟩
    · rintro b t ⟨h', i, rfl, hr, hi, q1, q2, q3⟩
      have e : i = eso.size := by
        by_cases z : i < eso.size
        · rw [show eso.size - i = (eso.size - (i + 1)) + 1 from by omega, List.range'_succ] at hr
          cases hr
        · omega
      refine wpAny_pure (hQ h' ?_ ⟨oo, eso, epo, q2, b2, b3, b4, b5, b6⟩ q3)
      rw [e, ← hl, List.take_length] at q1
      exact q1
  unfold mergeMapping
  dsimp only
  refine wpAny_bind (wpAny_isInstance (T := "dict") ho.typeIs PySem.F.sub_dict_dict ?_)
  rw [if_pos rfl]
  refine wpAny_bind (wpAny_specialOf ho.typeIs F.slot_dict_iter.lookup (wpAny_bind (wpAny_pure ?_)))
  rw [show (some (Value.builtin "dict.__iter__") == some (Value.builtin "dict.__iter__")) = true from beq_self_eq_true _]
  dsimp only
  rw [if_neg (by rw [hoS]; decide)]
  refine wpAny_bind (wpAny_dictEntries a1 a3 ?_)
  split
  · refine wpAny_bind (wpAny_dictEntries b1 b3 ?_)
    refine wpAny_bind (wpAny_of_eq (a := PUnit.unit) ?_ go)
    rw [← Array.forIn_toList]
    refine forIn_yield_id _ fun e he c => ?_
    obtain ⟨k, hk, _⟩ := b4 e (Array.mem_toList_iff.mp he)
    have := key_flat hk
    split
    · rename_i a z
      exact absurd z (this a)
    · rfl
  · exact go
end

section
variable {prog : Program} {w : World} {A : Around} {E : Value → Shared → Prop} {s : Shared}
/-- {**m, k: v}, by its steps -/
theorem star_disp {env : Env} {e1 e2 e3 : Expr} {pos : Pos} {Q : Value → Shared → Prop}
    (h : wpAny (model prog w) A (eval e1 env) (fun mv s2 => ∃ o more, mv = .ref o ∧ s.heap.objs.size ≠ o ∧ (o == sysModules) = false ∧ s2.heap.DictOf (mixKind prog w) s.heap.objs.size [] ∧ s2.heap.DictOf (mixKind prog w) o more ∧ more.length + 1 ≤ sizeLine ∧
      ∀ h', h'.DictOf (mixKind prog w) s.heap.objs.size more → Heap.SameBut s.heap.objs.size s2.heap h' →
        wpAny (model prog w) A (evalPairs [(eval e2 env, do let x ← eval e3 env; standAt pos; pure x)]) (fun vs s4 => ∃ k v u more2, vs = [(u, v)] ∧ (mixKind prog w).is k u = true ∧ (h'.objs.size == sysModules) = false ∧ s.heap.objs.size ≠ h'.objs.size ∧ s4.heap.DictOf (mixKind prog w) h'.objs.size [] ∧ s4.heap.DictOf (mixKind prog w) s.heap.objs.size more2 ∧ more2.length + 1 ≤ sizeLine ∧
          ∀ g g2 tk, g.DictOf (mixKind prog w) h'.objs.size [(k, v)] → Heap.SameBut h'.objs.size s4.heap g → g2.DictOf (mixKind prog w) s.heap.objs.size (stored more2 k v) → Heap.SameBut s.heap.objs.size g g2 → Q (.ref s.heap.objs.size) { s4 with heap := g2, toks := tk }) E
          { s2 with heap := h'.push { cls := .type "dict", data := .dict #[] } }) E { s with heap := s.heap.push { cls := .type "dict", data := .dict #[] } }) :
    wpAny (model prog w) A (eval (.Dict [none, some e2] [e1, e3] pos) env) Q E s := by
  rw [arm_eval_Dict]
  refine wpAny_bind (wpAny_standAt ?_)
  show wpAny _ _ (dictDisplay [((none : Option (Sem Value)), do let x ← eval e1 env; standAt pos; pure x), (some (eval e2 env), do let x ← eval e3 env; standAt pos; pure x)]) _ _ _
  unfold dictDisplay
  dsimp only
  rw [List.forIn_cons]
  dsimp only
  refine wpAny_bind (wpAny_bind (wpAny_bind ?_))
  rw [if_pos (show ([] : List (Sem Value × Sem Value)).isEmpty = true from rfl)]
  refine wpAny_pure ?_
  dsimp only
  refine wpAny_bind (wpAny_alloc ?_)
  refine wpAny_bind (wpAny_holding (wpAny_bind (wpAny_mono h (fun mv s2 hh => ?_) (fun _ _ e => e))))
  obtain ⟨o, more, rfl, ne, os, dd, od, few, kk⟩ := hh
  refine wpAny_bind (wpAny_standAt (wpAny_pure ?_))
  refine wpAny_bind (wpAny_onRaise (wpAny_tryCatch (wpAny_onRaise (wpAny_holding (merge_map ne os dd od (by rw [List.length_nil]; omega) fun h' q1 q2 q3 => ?_)))))
  have nod : (more.map (·.1)).Nodup := let ⟨_, _, _, _, _, _, _, _, z⟩ := od; z
  rw [merged_nil_of_nodup more nod] at q1
  refine wpAny_pure ?_
  dsimp only
  rw [List.forIn_cons]
  dsimp only
  rw [if_neg (by simp)]
  refine wpAny_bind (wpAny_pure ?_)
  dsimp only
  rw [List.forIn_nil]
  refine wpAny_pure ?_
  dsimp only
  rw [List.nil_append, if_neg (by simp)]
  refine wpAny_bind (wpAny_bind (wpAny_holding (wpAny_subDict (knd := mixKind prog w) (by simp) (wpAny_mono (kk h' q1 q3) (fun vs s4 hh => ?_) (fun _ _ e => e)))))
  obtain ⟨k, v, u, more2, rfl, hk, hsz, nd, dp, d4, few2, k2⟩ := hh
  refine ⟨[(k, v)], ⟨hk, rfl, True.intro⟩, dp, fun g m1 m2 => ?_⟩
  have m1' : g.DictOf (mixKind prog w) h'.objs.size [(k, v)] := m1
  refine wpAny_bind (wpAny_onRaise (wpAny_holding (merge_map nd hsz (d4.sameBut m2 nd) m1' (by simpa using few2) fun g2 q4 _ q6 => ?_)))
  refine wpAny_pure (wpAny_pure ?_)
  exact k2 g g2 _ m1' m2 q4 q6
end

theorem KD.put {l : List (Nat × Nat)} {k v : Nat} (hf : ∀ x ∈ l, x.1 ≠ k) : putK (l.map fun kx => ((Sum.inl (kx.1 : Int) : Key), V.int (kx.2 : Int))) (.inl (k : Int)) (.int (v : Int)) = (l ++ [(k, v)]).map fun kx => ((Sum.inl (kx.1 : Int) : Key), V.int (kx.2 : Int)) := by
  unfold putK
  have e : ((l.map fun kx => ((Sum.inl (kx.1 : Int) : Key), V.int (kx.2 : Int))).any fun kv => decide (kv.1 = (Sum.inl (k : Int) : Key))) = false := by
    rw [List.any_map]
    refine List.any_eq_false.mpr fun x hx z => ?_
    have := of_decide_eq_true z
    injection this with this
    exact hf x hx (Int.ofNat.inj this)
  rw [e, List.map_append]
  rfl
section
variable {X : Cx} {H0 : Hp} {ds : List Sd} {e2 e3 : Expr} {pos : Pos}
/-- {**d, k: v}, d a dict in a slot, k not yet in it -/
theorem e_starD {kd : KD} {k v : Nat} (i : Nat) (h : ds[i]? = some (.im kd)) (h2 : EV X H0 ds e2 k) (h3 : EV X H0 ds e3 v) (few : kd.l.length + 1 ≤ sizeLine) (hf : ∀ x ∈ kd.l, x.1 ≠ k) {x : Str} {px : Pos} (hN : X.N[i]? = some x := by rfl) (hv : Vis X.env.scope x := by first | exact Or.inl rfl | exact Or.inr (Or.inl rfl) | exact Or.inr (Or.inr rfl)) (hdb : (x == ("__debug__" : Str)) = false := by decide) (hcd : (x == ("__classdict__" : Str)) = false := by decide) :
    EV X H0 ds (.Dict [none, some e2] [.Name x px, e3] pos) (KD.mk (kd.l ++ [(k, v)])) := fun σ H Q o kk pins s I => by
  obtain ⟨y, hy, q, rfl, hq⟩ := o.im h
  have hn := I.hok.fresh (Nat.le_refl s.heap.objs.size)
  have I1 : Inv X pins σ (upd H s.heap.objs.size (.dK [])) { s with heap := s.heap.push { cls := .type "dict", data := .dict #[] } } := I.laid (t' := s.toks) (fun _ _ z => Heap.get?_push_of_some _ z) (Nat.le_refl _) (dk_empty s.heap I.big)
  have nq : q ≠ s.heap.objs.size := fun z => by rw [z, hn] at hq; cases hq
  refine star_disp (thn ((pe_var (X := X) hN hv hdb hcd).run pins _ σ _ (fun u H1 => u = .ref q ∧ H1 = upd H s.heap.objs.size (.dK [])) I1 ⟨_, hy, rfl, rfl⟩) ?_)
  rintro mv s2 ⟨u, H1, I2, ru, rfl, rfl⟩
  cases ru
  have hq1 : upd H s.heap.objs.size (.dK []) q = some (.dK (kd.l.map fun kx => ((Sum.inl (kx.1 : Int) : Key), V.int (kx.2 : Int)))) := by rw [upd_ne nq]; exact hq
  obtain ⟨z1, z2, vs, rel, dd⟩ := dk_of I2.hok hq1
  obtain ⟨y1, y2, vs0, r0, dd0⟩ := dk_of I2.hok (show upd H s.heap.objs.size (.dK []) s.heap.objs.size = some (.dK []) from upd_same)
  cases r0
  have lv : vs.length = kd.l.length := by have := rel.length; rw [List.length_map] at this; exact this.symm
  refine ⟨q, vs, rfl, Ne.symm nq, z2, dd0, dd, by rw [lv]; exact few, fun h' q1 q3 => ?_⟩
  have I3 : Inv X pins σ (upd (upd H s.heap.objs.size (.dK [])) s.heap.objs.size (.dK (kd.l.map fun kx => ((Sum.inl (kx.1 : Int) : Key), V.int (kx.2 : Int))))) { s2 with heap := h', toks := s2.toks } :=
    d_write I2 (by rw [upd_same]; exact True.intro) q3 (let ⟨w, _, _, hw, _⟩ := q1; ⟨w, hw⟩) (dk_new z1 y2 rel q1)
  rw [upd_upd] at I3
  generalize hG : upd H s.heap.objs.size (.dK (kd.l.map fun kx => ((Sum.inl (kx.1 : Int) : Key), V.int (kx.2 : Int)))) = G at I3
  have Gd : G s.heap.objs.size = some (.dK (kd.l.map fun kx => ((Sum.inl (kx.1 : Int) : Key), V.int (kx.2 : Int)))) := by rw [← hG]; exact upd_same
  have sG : Same H G := by rw [← hG]; exact same_new hn
  have n2 : G h'.objs.size = none := I3.hok.fresh (Nat.le_refl h'.objs.size)
  have nd : s.heap.objs.size ≠ h'.objs.size := fun z => by rw [← z, Gd] at n2; cases n2
  have I4 : Inv X pins σ (upd G h'.objs.size (.dK [])) { s2 with heap := h'.push { cls := .type "dict", data := .dict #[] }, toks := s2.toks } := I3.laid (t' := s2.toks) (fun _ _ z => Heap.get?_push_of_some _ z) (Nat.le_refl _) (dk_empty h' I3.big)
  have s4 : Same H (upd G h'.objs.size (.dK [])) := sG.trans (same_new n2)
  refine evalPairs_cons (thn (h2 σ _ (fun u H1 => Same (upd G h'.objs.size (.dK [])) H1 ∧ u = .int (k : Int)) (o.ext s4) (fun u H1 s1 d1 => ⟨s1, d1⟩) pins _ I4) ?_)
  rintro ku t5 ⟨u5, H5, I5, r5, s5, rfl⟩
  refine wpAny_bind (thn (h3 σ _ (fun u H1 => Same H5 H1 ∧ u = .int (v : Int)) (o.ext (s4.trans s5)) (fun u H1 s1 d1 => ⟨s1, d1⟩) pins _ I5) ?_)
  rintro vu t6 ⟨u6, H6, I6, r6, s6, rfl⟩
  refine wpAny_bind (wpAny_standAt (wpAny_pure (evalPairs_nil ?_)))
  have H6d : H6 s.heap.objs.size = some (.dK (kd.l.map fun kx => ((Sum.inl (kx.1 : Int) : Key), V.int (kx.2 : Int)))) := s6 _ _ (s5 _ _ (by rw [upd_ne nd]; exact Gd))
  have H6p : H6 h'.objs.size = some (.dK []) := s6 _ _ (s5 _ _ upd_same)
  obtain ⟨a1, a2, vs2, rel2, d2⟩ := dk_of I6.hok H6d
  obtain ⟨b1, b2, vs3, r3, d3⟩ := dk_of I6.hok H6p
  cases r3
  have lv2 : vs2.length = kd.l.length := by have := rel2.length; rw [List.length_map] at this; exact this.symm
  have ik : (mixKind X.prog X.w).is (.inl (k : Int)) ku = true := kV_is (k := .inl (k : Int)) r5
  refine ⟨.inl (k : Int), vu, ku, vs2, rfl, ik, b2, nd, d3, d2, by rw [lv2]; exact few, fun g g2 tk m1 m2 m3 m4 => ?_⟩
  have relp : KV [((Sum.inl (k : Int) : Key), V.int (v : Int))] [((Sum.inl (k : Int) : Key), vu)] := .cons ⟨rfl, r6⟩ .nil
  have I7 : Inv X pins σ (upd H6 h'.objs.size (.dK [((Sum.inl (k : Int) : Key), V.int (v : Int))])) { t6 with heap := g, toks := tk } :=
    d_write I6 (by rw [H6p]; exact True.intro) m2 (let ⟨w, _, _, hw, _⟩ := m1; ⟨w, hw⟩) (dk_new (by show 1 ≤ sizeLine; decide) b2 relp m1)
  have I8 := d_write (t' := tk) I7 (a := s.heap.objs.size) (ob := .dK ((kd.l ++ [(k, v)]).map fun kx => ((Sum.inl (kx.1 : Int) : Key), V.int (kx.2 : Int)))) (by rw [upd_ne nd, H6d]; exact True.intro) m4 (let ⟨w, _, _, hw, _⟩ := m3; ⟨w, hw⟩) (dk_new (by rw [List.length_map, List.length_append, List.length_singleton]; exact few) a2 (by rw [← KD.put hf]; exact rel2.put _ r6) m3)
  refine ⟨.ref s.heap.objs.size, _, I8, rfl, kk _ _ (fun b ob hb => ?_) ⟨_, rfl, upd_same⟩⟩
  have nb : b ≠ s.heap.objs.size := fun z => by rw [z, hn] at hb; cases hb
  have nb2 : b ≠ h'.objs.size := fun z => by
    have := sG b ob hb
    rw [z, n2] at this
    cases this
  rw [upd_ne nb, upd_ne nb2]
  exact s6 _ _ (s5 _ _ (s4 _ _ hb))
/-- {} -/
theorem e_noD : EV X H0 ds (.Dict [] [] pos) (KD.mk []) := fun σ H Q o kk => pe_dnewK.tw fun p hp => kk _ _ (same_new hp) ⟨p, rfl, upd_same⟩
end
end L2.LX
/-! DB: for k, v in d.items(). -/
namespace L2.LX
open PySem PySem.Spec PyProof.Rows PySem.W
def KeptT (H H' : Hp) : Prop := ∀ b xs, H b = some (.tup xs) → H' b = some (.tup xs)
/-- data in which no dict stands -/
class Tp (α : Type) [Dn α] : Prop where
  kt : ∀ {H H' : Hp} {v : V} {a : α}, Dn.dn H v a → KeptT H H' → Dn.dn H' v a
instance : Tp Nat := ⟨fun h _ => h⟩
instance : Tp Int := ⟨fun h _ => h⟩
instance : Tp Bool := ⟨fun h _ => h⟩
instance {α : Type} [Dn α] [Tp α] : Tp (List α) := ⟨fun ⟨p, vs, e, h, d⟩ k => ⟨p, vs, e, k _ _ h, Paired.mapP d fun _ _ q => Tp.kt q k⟩⟩
instance {α β : Type} [Dn α] [Dn β] [Tp α] [Tp β] : Tp (α × β) := ⟨fun ⟨p, u, w, e, h, d1, d2⟩ k => ⟨p, u, w, e, k _ _ h, Tp.kt d1 k, Tp.kt d2 k⟩⟩
def Tf : Sd → Prop
  | .any => True
  | .ob _ => False
  | @Sd.im α i a => ∀ (H H' : Hp) (v : V), KeptT H H' → @Dn.dn α i H v a → @Dn.dn α i H' v a
  | @Sd.ls α i xs => ∀ (H H' : Hp) (v : V) (x : α), KeptT H H' → @Dn.dn α i H v x → @Dn.dn α i H' v x
  | @Sd.rl α i xs => ∀ (H H' : Hp) (v : V) (x : α), KeptT H H' → @Dn.dn α i H v x → @Dn.dn α i H' v x
theorem tf_im {α : Type} [Dn α] [Tp α] (a : α) : Tf (.im a) := fun _ _ _ k h => Tp.kt h k
theorem tf_ls {α : Type} [Dn α] [Tp α] (xs : List α) : Tf (.ls xs) := fun _ _ _ _ k h => Tp.kt h k
theorem tf_rl {α : Type} [Dn α] [Tp α] (xs : List α) : Tf (.rl xs) := fun _ _ _ _ k h => Tp.kt h k
theorem Ok.heap {H0 H0' H H' : Hp} {ds : List Sd} {σ : St} (o : Ok H0 ds σ H) (s : Same H0' H') (tf : ∀ d ∈ ds, Tf d) (kt : KeptT H H') (kl : ∀ b xs, H b = some (.lst xs) → H' b = some (.lst xs)) (fr : ∀ p u, H p = some u → Mu u → H0 p = none → H0' p = none) : Ok H0' ds σ H' := by
  have lsk : ∀ {α : Type} [Dn α] {p : Addr} {xs : List α}, (∀ (v : V) (x : α), Dn.dn H v x → Dn.dn H' v x) → LsAt H p xs → LsAt H' p xs := fun {α} _ {p xs} k ⟨vs, h1, h2⟩ => ⟨vs, kl _ _ h1, Paired.mapP h2 fun v x q => k v x q⟩
  refine ⟨s, o.len, fun i d e n => ?_, fun i d p e w h => ?_, o.sep⟩
  · obtain ⟨v, h1, h2⟩ := o.slot i d e n
    refine ⟨v, h1, ?_⟩
    have t := tf d (List.mem_of_getElem? e)
    cases d with
    | any => trivial
    | ob R => exact t.elim
    | im a => exact t H H' v kt h2
    | ls xs => obtain ⟨p, e, q⟩ := h2; exact ⟨p, e, lsk (fun v x => t H H' v x kt) q⟩
    | rl xs => obtain ⟨p, e, q⟩ := h2; exact ⟨p, e, lsk (fun v x => t H H' v x kt) q⟩
  · obtain ⟨r, ws, h3, h4, mu⟩ := own_lst o e w
    rw [h3] at h
    cases h
    exact fr _ _ h4 mu (o.fresh i d _ e w h3)
section
variable {X : Cx} {H0 : Hp} {ds : List Sd} {pos : Pos} {D : Ends} {rest body : List Stmt}
theorem s_forItems {S : Type} {kd : KD} {ts : List Nat} {up : Nat × Nat → List Sd → List Sd} {elts : List Expr} {kk : Nat} {tpos px apos cpos : Pos} {x : Str} (k : Nat) (hk : ds[k]? = some (.im kd)) (descs : S → List Sd) (step : S → Nat × Nat → S) (Good : Nat → S → Prop) (s0 : S) (hp : PassesOwn (model X.prog X.w) X.A X.env X.xe) (hc : X.calm = true)
    (few : kd.l.length ≤ sizeLine) (w0 : Wk (ds.set k .any) (descs s0)) (g0 : Good 0 s0) (tf : ∀ s, ∀ d ∈ descs s, Tf d) (gv : GV X (.Tuple elts kk tpos) ts up)
    (hb : ∀ (H1 : Hp) (i : Nat) s x, kd.l[i]? = some x → Good i s → Good (i + 1) (step s x) ∧ ∀ N bk rt, (∀ σ H, Ok H1 (descs (step s x)) σ H → N σ H) → SS X H1 (up x (descs s)) body { nx := N, rt := rt, bk := bk, ct := N })
    (after : Good kd.l.length (kd.l.foldl step s0) → SS X H0 (descs (kd.l.foldl step s0)) rest D)
    (hN : X.N[k]? = some x := by rfl) (hv : Vis X.env.scope x := by first | exact Or.inl rfl | exact Or.inr (Or.inl rfl) | exact Or.inr (Or.inr rfl)) (hdb : (x == ("__debug__" : Str)) = false := by decide) (hcd : (x == ("__classdict__" : Str)) = false := by decide)
    (hbase : attributeBase (.Name x px) "items" X.env (eval (.Name x px) X.env) = eval (.Name x px) X.env := by rfl) (hline : (apos.endLine == cpos.line) = true := by rfl)
    (hs : ∀ z, foldedSetIterable (.Call (.Attribute (.Name x px) "items" apos) [] [] cpos) X.env z = pure z := by intro _; rfl) :
    SS X H0 ds (.For (.Tuple elts kk tpos) (.Call (.Attribute (.Name x px) "items" apos) [] [] cpos) body [] pos :: rest) D := s_cons fun σ H o => by
  refine (ps_lock (ps_for hp hc (pi_items (pe_var hN hv hdb hcd) hbase hline) pg_tw pss_tw hs)).tw ?_
  obtain ⟨y, hy, d, rfl, hd⟩ := o.im hk
  refine ⟨d, _, hd, True.intro, fun od => ⟨_, hy, d, od, _, rfl, upd_same, ?_⟩⟩
  obtain ⟨H1, sb, ob, _⟩ := o.rebase
  generalize hu : HO.dK (kd.l.map fun kx => ((Sum.inl (kx.1 : Int) : Key), V.int (kx.2 : Int))) = u at hd
  have of : Ok (upd H1 d (.frz od u)) (descs s0) σ (upd H d (.frz od u)) := by
    have o1 : Ok H1 (descs s0) σ H := by
      have o2 : Ok H1 (ds.set k .any) (σ.set k (some (.ref d))) H := ob.setAny k _
      have e : σ.set k (some (V.ref d)) = σ := by
        apply List.ext_getElem?
        intro j
        by_cases z : k = j
        · subst z
          rw [List.getElem?_set_self (List.getElem?_eq_some_iff.mp hy).1, hy]
        · rw [List.getElem?_set_ne z]
      rw [e] at o2
      exact o2.weak w0
    refine o1.heap (fun b ob hb => ?_) (tf s0) (fun b xs hb => ?_) (fun b xs hb => ?_) (fun p xs hb mu hn => ?_)
    · by_cases z : b = d
      · subst z; rw [upd_same] at hb ⊢; exact hb
      · rw [upd_ne z] at hb ⊢; exact o1.same _ _ hb
    · rw [upd_ne (ne_of hb hd (by rw [← hu]; intro z; cases z))]; exact hb
    · rw [upd_ne (ne_of hb hd (by rw [← hu]; intro z; cases z))]; exact hb
    · rw [upd_ne (ne_of hb hd (by rw [← hu]; intro z; subst z; exact mu))]; exact hn
  have lw : (kd.l.map fun kx => ((Sum.inl (kx.1 : Int) : Key), V.int (kx.2 : Int))).length = kd.l.length := List.length_map _
  have dz : ∀ {σ2 : St} {H2 : Hp} {s : S}, Ok (upd H1 d (.frz od u)) (descs s) σ2 H2 → H2 d = some (.frz od u) := fun o2 => o2.same _ _ upd_same
  refine for_it (walk_items (kvs := kd.l.map fun kx => ((Sum.inl (kx.1 : Int) : Key), V.int (kx.2 : Int)))) (fun i σ H => ∃ s, s = (kd.l.take i).foldl step s0 ∧ Good i s ∧ Ok (upd H1 d (.frz od u)) (descs s) σ H) ⟨s0, rfl, g0, of⟩ (fun i σ H hi P => ?_) (fun i v σ Ha Hb hi P y => ?_) (fun σ H P => ?_)
  · obtain ⟨s, _, _, oo⟩ := P
    rw [hu]
    exact dz oo
  · obtain ⟨s, es, g, oo⟩ := P
    obtain ⟨T, a, b, rfl, hT, rfl, e1, e2⟩ := y
    rw [lw] at hi
    have hx := List.getElem?_eq_getElem hi
    generalize hxx : kd.l[i] = xx at hx
    have ea : a = .int (xx.1 : Int) := by
      have e1' : (kd.l.map fun kx => ((Sum.inl (kx.1 : Int) : Key), V.int (kx.2 : Int)))[i]?.map (fun kv => kV kv.1) = some a := e1
      rw [List.getElem?_map, hx] at e1'
      exact (Option.some.inj e1').symm
    have eb : b = .int (xx.2 : Int) := by
      have e2' : (kd.l.map fun kx => ((Sum.inl (kx.1 : Int) : Key), V.int (kx.2 : Int)))[i]?.map Prod.snd = some b := e2
      rw [List.getElem?_map, hx] at e2'
      exact (Option.some.inj e2').symm
    subst ea eb
    obtain ⟨g', run⟩ := hb (upd H1 d (.frz od u)) i s xx hx g
    refine gv _ _ σ _ (.ref T) xx _ (oo.ext (same_new hT)) ⟨T, _, _, rfl, upd_same, rfl, rfl⟩ fun σ2 o2 _ => run _ _ _ (fun σ3 H3 o3 => ⟨step s xx, ?_, g', o3⟩) σ2 _ o2
    rw [List.take_succ, hx, List.foldl_append, ← es]
    rfl
  · obtain ⟨s, es, g, oo⟩ := P
    rw [lw] at es g
    rw [List.take_length] at es
    have hz := dz oo
    refine ⟨hz, ?_⟩
    have fin : Ok H0 (descs s) σ (upd H d u) := by
      refine oo.heap (fun b ob hb => ?_) (tf s) (fun b xs hb => ?_) (fun b xs hb => ?_) (fun p xs hb mu hn => ?_)
      · by_cases z : b = d
        · subst z
          have := o.same _ _ hb
          rw [hd] at this
          rw [upd_same]
          exact this
        · rw [upd_ne z]
          exact oo.same _ _ (by rw [upd_ne z]; exact sb _ _ hb)
      · rw [upd_ne (ne_of hb hz (by intro z; cases z))]; exact hb
      · rw [upd_ne (ne_of hb hz (by intro z; cases z))]; exact hb
      · have ne := ne_of hb hz (by intro z; subst z; exact mu)
        rw [upd_ne ne] at hn
        exact sb.free hn
    subst es
    exact after g σ _ fin
end
end L2.LX
/-! D6: rings, keepers, ends. -/
namespace L2.LX
open PySem PySem.Spec PyProof.Rows PySem.W
/-! ### mirrors -/
def ringFree (S : Gr) (left : List Nat) : List Nat := left.filter fun p => !((S.map fun z => z.2 == p && left.contains z.1).any id)
def ringStep (S : Gr) (left : List Nat) : List Nat := left.filter fun p => !(ringFree S left).contains p
def ringF (S : Gr) : Nat → List Nat → Bool
  | 0, _ => false
  | f + 1, left => if left.isEmpty then false else if (ringFree S left).isEmpty then true else ringF S f (ringStep S left)
def ringL (S : Gr) : List Nat := sset (S.map fun z => [z.1, z.2]).flatten
def ringM (S : Gr) : Bool := ringF S ((ringL S).length + 1) (ringL S)
def stepsM (h : Hs) (l : Gr) : Gr := l.flatMap fun x => ((holdersM h x.1).filter fun o => !(o == x.2)).map fun o => (o, x.2)
def keepStep (h : Hs) (F : List KD) (t : Nat) : List KD := F.flatMap fun k => ((holdersM h t).filter fun p => !ringM (stepsM h (k.l ++ [(t, p)]))).map fun p => KD.mk (k.l ++ [(t, p)])
def keepersM (h : Hs) : List KD := (thingsM h).foldl (keepStep h) [KD.mk []]
theorem ringStep_lt {S : Gr} {left : List Nat} (h : ringFree S left ≠ []) : (ringStep S left).length < left.length := by
  unfold ringStep
  rw [List.length_filter_lt_length_iff_exists]
  match hf : ringFree S left, h with
  | x :: xs, _ =>
    have hx : x ∈ ringFree S left := by rw [hf]; exact List.mem_cons_self
    exact ⟨x, (List.mem_filter.mp hx).1, by simp⟩
theorem ringF_at (S : Gr) : ∀ (f g : Nat) (left : List Nat), left.length < f → left.length < g → ringF S f left = ringF S g left
  | f + 1, g + 1, left, hf, hg => by
    unfold ringF
    by_cases h1 : left.isEmpty = true
    · rw [if_pos h1, if_pos h1]
    · rw [if_neg h1, if_neg h1]
      by_cases h2 : (ringFree S left).isEmpty = true
      · rw [if_pos h2, if_pos h2]
      · rw [if_neg h2, if_neg h2]
        have := ringStep_lt (S := S) (left := left) (by simpa using h2)
        exact ringF_at S f g _ (by omega) (by omega)
theorem enumL_eq (h : Hs) : enumL h = (List.range h.length).map fun i => (i, h.getD i []) := by
  apply List.ext_getElem?
  intro i
  by_cases hi : i < h.length
  · rw [enumL_at h i (List.getElem?_eq_getElem hi), List.getElem?_map, List.getElem?_range hi]
    show some (i, h[i]) = some (i, h.getD i [])
    rw [List.getD_eq_getElem?_getD, List.getElem?_eq_getElem hi]
    rfl
  · rw [List.getElem?_eq_none (by rw [enumL_len]; omega), List.getElem?_eq_none (by simp; omega)]
theorem holders_eq (h : Hs) (t : Nat) : holdersM h t = (List.range h.length).filter fun p => (h.getD p []).contains t := by
  unfold holdersM
  rw [enumL_eq, List.filter_map, List.map_map]
  have : (List.map ((fun z : Nat × List Nat => z.1) ∘ fun i => (i, h.getD i []))) = (List.map id : List Nat → List Nat) := rfl
  rw [this, List.map_id]
  rfl
theorem holders_lt {h : Hs} {t p : Nat} (m : p ∈ holdersM h t) : p < h.length := by
  rw [holders_eq] at m
  exact List.mem_range.mp (List.mem_filter.mp m).1
theorem holders_few (h : Hs) (t : Nat) : (holdersM h t).length ≤ h.length := by
  rw [holders_eq]
  have := List.length_filter_le (fun p => (h.getD p []).contains t) (List.range h.length)
  rw [List.length_range] at this
  exact this
theorem others_few {h : Hs} {t p : Nat} (m : p ∈ holdersM h t) : ((holdersM h t).filter fun o => !(o == p)).length + 1 ≤ h.length := by
  have h1 : ((holdersM h t).filter fun o => !(o == p)).length < (holdersM h t).length := by
    rw [List.length_filter_lt_length_iff_exists]
    exact ⟨p, m, by simp⟩
  have := holders_few h t
  omega
/-- a dict of keepers so far -/
structure KOk (h : Hs) (l : Gr) : Prop where
  hold : ∀ x ∈ l, x.2 ∈ holdersM h x.1
theorem steps_ok {h : Hs} (o : HOk h) {l : Gr} (k : KOk h l) : (stepsM h l).length ≤ l.length * 4 ∧ ∀ z ∈ stepsM h l, z.1 < 5 ∧ z.2 < 5 := by
  have n5 := o.n5
  refine ⟨flat_bound _ 4 l fun x hx => ?_, fun z hz => ?_⟩
  · rw [List.length_map]
    have := others_few (k.hold x hx)
    omega
  · obtain ⟨x, hx, hz⟩ := List.mem_flatMap.mp hz
    obtain ⟨q, hq, rfl⟩ := List.mem_map.mp hz
    have h1 := holders_lt (List.mem_filter.mp hq).1
    have h2 := holders_lt (k.hold x hx)
    exact ⟨by omega, by simp only; omega⟩
theorem things_up (h : Hs) : (thingsM h).Pairwise (· < ·) := sset_sorted _
theorem things_few (h : Hs) : (thingsM h).length ≤ 8 := by
  have := List.length_filter_le (fun t => h.flatten.contains t) (List.range 8)
  rw [List.length_range] at this
  exact this
theorem things_few7 {h : Hs} (o : HOk h) : (thingsM h).length ≤ 7 := sorted_few 7 _ (things_up h) fun t ht => by
  have h1 : t ∈ h.flatten := by
    have := (List.mem_filter.mp ht).2
    simpa using this
  obtain ⟨x, hx, hxt⟩ := List.mem_flatten.mp h1
  exact o.lo x hx t hxt
structure KsOk (h : Hs) (i : Nat) (F : List KD) : Prop where
  len : F.length ≤ 5 ^ i
  each : ∀ k ∈ F, k.l.map Prod.fst = (thingsM h).take i ∧ KOk h k.l
theorem ks_step {h : Hs} (o : HOk h) {i t : Nat} {F : List KD} (g : KsOk h i F) (ht : (thingsM h)[i]? = some t) : KsOk h (i + 1) (keepStep h F t) := by
  refine ⟨?_, fun k hk => ?_⟩
  · have := flat_bound (fun k : KD => ((holdersM h t).filter fun p => !ringM (stepsM h (k.l ++ [(t, p)]))).map fun p => KD.mk (k.l ++ [(t, p)])) 5 F fun k _ => by
      rw [List.length_map]
      have h1 := List.length_filter_le (fun p => !ringM (stepsM h (k.l ++ [(t, p)]))) (holdersM h t)
      have h2 := holders_few h t
      have := o.n5
      omega
    rw [Nat.pow_succ]
    exact Nat.le_trans this (Nat.mul_le_mul_right _ g.len)
  · obtain ⟨k0, h0, hk⟩ := List.mem_flatMap.mp hk
    obtain ⟨p, hp, rfl⟩ := List.mem_map.mp hk
    obtain ⟨e1, e2⟩ := g.each k0 h0
    refine ⟨by rw [List.map_append, e1, List.take_succ, ht]; rfl, ⟨fun x hx => ?_⟩⟩
    rcases List.mem_append.mp hx with hx | hx
    · exact e2.hold x hx
    · rw [List.mem_singleton.mp hx]
      exact (List.mem_filter.mp hp).1
theorem ks_fresh {h : Hs} {i t : Nat} {F : List KD} (g : KsOk h i F) (ht : (thingsM h)[i]? = some t) {k : KD} (hk : k ∈ F) : ∀ x ∈ k.l, x.1 ≠ t := fun x hx z => by
  have h1 : x.1 ∈ (thingsM h).take i := by rw [← (g.each k hk).1]; exact List.mem_map.mpr ⟨x, hx, rfl⟩
  obtain ⟨j, hj, e⟩ := List.getElem_of_mem h1
  rw [List.length_take] at hj
  rw [List.getElem_take] at e
  have hi := (List.getElem?_eq_some_iff.mp ht).1
  have h2 := List.pairwise_iff_getElem.mp (things_up h) j i (by omega) hi (by omega)
  rw [e, (List.getElem?_eq_some_iff.mp ht).2] at h2
  omega
theorem ks_len {h : Hs} {i : Nat} {F : List KD} (g : KsOk h i F) (hi : i ≤ (thingsM h).length) {k : KD} (hk : k ∈ F) : k.l.length = i := by
  have := congrArg List.length (g.each k hk).1
  rw [List.length_map, List.length_take] at this
  omega
section
variable {P : Program} {w : World} {K : PySem.W.Frag} {mg : Str → Option Value} {base : Heap}
abbrev spRing : Sp := spV (fun a : Gr => [.rl a]) (fun S => S.length ≤ 30 ∧ ∀ z ∈ S, z.1 < 5 ∧ z.2 < 5) ringM
abbrev spSteps : Sp := spL (fun a : Hs × KD => [.im a.1, .im a.2]) (fun a => HOk a.1 ∧ a.2.l.length ≤ 8) (fun a => stepsM a.1 a.2.l)
abbrev spKeepers : Sp := spL (fun a : Hs => [.im a]) HOk keepersM
abbrev spEnds : Sp := spV (fun a : Hs => [.im a]) HOk (fun h => (keepersM h).length)
theorem sc_has_ring : FnScope ["steps", "left", "pair", "person", "free"] ["steps"] (defScope (topS 34)) := ⟨rfl, rfl, rfl, by decide +kernel, rfl, by decide +kernel, by decide +kernel⟩
theorem ok_has_ring (D : Def K mg "has_ring" (topS 34) ["steps"]) (B : Bt mg) : Has P w K mg base 1 "has_ring" ["steps"] spRing :=
  defV D sc_has_ring (fun _ => rfl) no1r (by decide) fun f cdv Ar outer s H E a hr hp D kk => by
    obtain ⟨len, lt⟩ := hp
    have fl : ∀ S : Gr, (S.map fun z => [z.1, z.2]).flatten.length = S.length * 2 := fun S => by
      induction S with
      | nil => rfl
      | cons z S ih => rw [List.map_cons, List.flatten_cons, List.length_append, ih, List.length_cons]; simp; omega
    refine s_setL 1 sc_has_ring.nd (l_ssetL (l := (a.map fun z => [z.1, z.2]).flatten) ?_ ?_ rfl B.sorted B.set (l_flat (own := [("pair", 2), ("person", 3)]) 2 3 rfl sc_has_ring.nd (IVc.pairs (i_own 0 (.inr rfl))) (blkOk_by (N := ["steps", "left", "pair", "person", "free"]) (sc := (defScope (topS 34))) (by decide +kernel)) rfl rfl (by decide) rfl rfl rfl (fun _ _ => by first | exact Or.inl rfl | exact Or.inr rfl) (fun _ _ => by first | exact Or.inl rfl | exact Or.inr rfl) (fun _ _ => by first | exact .inl rfl | exact .inr rfl) (fun _ _ => by first | exact .inl rfl | exact .inr rfl) ?_ ?_).b) ?_
    · intro x hx
      obtain ⟨y, hy, hxy⟩ := List.mem_flatten.mp hx
      obtain ⟨z, hz, rfl⟩ := List.mem_map.mp hy
      have := lt z hz
      simp at hxy
      omega
    · rw [fl]; omega
    · rw [List.length_map]; omega
    · intro x hx
      obtain ⟨z, hz, rfl⟩ := List.mem_map.mp hx
      show 2 ≤ 100
      decide
    refine s_while (S := List Nat) (fun left => [.rl a, .ls left, .any, .any, .any]) (fun left => ringF a (left.length + 1) left = ringM a) (fun left => !bqL left []) (fun left => left.length) (ringL a) PassesOwn.never (Wk.refl _) rfl (fun left iv => ?_) (fun left iv ht N bk hN => ?_) (fun left iv ht => ?_)
    · exact (t_cmp (c_neL hr.units (b_var 1 (.inl rfl)) l_nil.b))
    · have h0 : left.isEmpty = false := by
        cases left with
        | nil => cases ht
        | cons x xs => rfl
      refine s_setL 4 sc_has_ring.nd (EL.as (l_compF (own := [("person", 3)]) rfl sc_has_ring.nd ⟨(i_own 1 (.inl rfl)), blkOk_by (N := ["steps", "left", "pair", "person", "free"]) (sc := (defScope (topS 34))) (by decide +kernel), by decide, fun _ _ _ _ _ => (g_name 3 sc_has_ring.nd), fun _ _ _ _ _ x hx => ts_one (t_not (t_val (e_any B.any rfl (l_compM (own := [("pair", 2)]) rfl sc_has_ring.nd ⟨(i_own 0 (.inr rfl)), blkOk_by (N := ["steps", "left", "pair", "person", "free"]) (sc := (relS _ (defScope (topS 34)))) (by decide +kernel), by decide, fun _ _ _ _ _ => (g_name 2 sc_has_ring.nd), fun _ _ _ _ _ x hx => ts_nil, fun _ _ _ _ _ x hx ht => (e_and (e_cmp (c_eqN (e_snd (e_var 2 rfl) (e_nat 1)) (e_var 3 rfl))) (fun _ => (e_cmp (c_inLN (e_fst (e_var 2 rfl) (e_nat 0)) (b_var 1 (.inl rfl))))))⟩).b))), fun _ _ _ _ _ x hx ht => (e_var 3 rfl)⟩) (ys := ringFree a left) rfl) ?_
      refine s_ifb (t_cmp (c_eqL hr.units (b_var 4 (.inl rfl)) l_nil.b)) (fun h1 => ?_) (fun h1 => ?_)
      · refine s_ret (e_eq e_bool ?_) kk
        rw [← iv]
        unfold ringF
        rw [if_neg (by rw [h0]; decide), if_pos (by rw [(bqL_iff _ _).mp h1]; rfl)]
      · have h2 : ringFree a left ≠ [] := fun z => by rw [z] at h1; cases h1
        refine s_setL 1 sc_has_ring.nd (EL.as (l_compF (own := [("person", 3)]) rfl sc_has_ring.nd ⟨(i_own 1 (.inl rfl)), blkOk_by (N := ["steps", "left", "pair", "person", "free"]) (sc := (defScope (topS 34))) (by decide +kernel), by decide, fun _ _ _ _ _ => (g_name 3 sc_has_ring.nd), fun _ _ _ _ _ x hx => ts_one (t_cmp (c_notInLN (e_var 3 rfl) (b_var 4 (.inl rfl)))), fun _ _ _ _ _ x hx ht => (e_var 3 rfl)⟩) (ys := ringStep a left) rfl) ?_
        refine s_nil fun σ H o => hN (ringStep a left) ?_ (ringStep_lt h2) σ H (o.weak (.same (.same (.any (.any (.any .nil))))))
        rw [← iv]
        conv => rhs; unfold ringF
        rw [if_neg (by rw [h0]; decide), if_neg (by simpa using h2)]
        have := ringStep_lt h2
        exact ringF_at a _ _ _ (by omega) (by omega)
    · refine s_ret (e_eq e_bool ?_) kk
      cases left with
      | nil => rw [← iv]; rfl
      | cons x xs => cases ht
theorem sc_steps_of : FnScope ["hands", "keeper", "found", "thing", "person", "other"] ["hands", "keeper"] (defScope (topS 35)) := ⟨rfl, rfl, rfl, by decide +kernel, rfl, by decide +kernel, by decide +kernel⟩
theorem ok_steps_of (D : Def K mg "steps_of" (topS 35) ["hands", "keeper"]) (B : Bt mg) (h_holders_in : Has P w K mg base 1 "holders_in" ["hands", "thing"] spHold) : Has P w K mg base 2 "steps_of" ["hands", "keeper"] spSteps :=
  defL D sc_steps_of (fun _ => rfl) no2 (by decide) fun f cdv Ar outer s H E a hr hp D kk => by
    obtain ⟨hp, len⟩ := hp
    have n5 := hp.n5
    refine s_setL 2 sc_steps_of.nd (l_nil (α := Nat × Nat)) ?_
    refine s_forItems (S := Gr) (kd := a.2) 1 rfl (fun F => [.im a.1, .any, .ls F, .any, .any, .any]) (fun F x => F ++ ((holdersM a.1 x.1).filter fun o => !(o == x.2)).map fun o => (o, x.2)) (fun i F => F.length ≤ i * 5) [] PassesOwn.never rfl (by rw [sizeLine_eq]; omega) (.same (.any (.same (.any (.any (.any .nil)))))) (Nat.zero_le _) (fun F d hd => ?_) (g_pair 3 4 rfl sc_steps_of.nd) (fun H1 i F x hx g => ?_) (fun g => ?_)
    · simp at hd
      rcases hd with rfl | rfl | rfl | rfl
      · exact tf_im _
      · trivial
      · exact tf_ls _
      · trivial
    · have hi := (List.getElem?_eq_some_iff.mp hx).1
      have h1 := List.length_filter_le (fun o => !(o == x.2)) (holdersM a.1 x.1)
      have h2 := holders_few a.1 x.1
      refine ⟨?_, fun N bk rt hN => ?_⟩
      · show (F ++ _).length ≤ _
        rw [List.length_append, List.length_map]
        omega
      refine s_ext (ys := ((holdersM a.1 x.1).filter fun o => !(o == x.2)).map fun o => (o, x.2)) 2 rfl (EL.as (l_comp (own := [("other", 5)]) rfl sc_steps_of.nd ⟨(i_new (l_call2 h_holders_in (hr.mono (by decide)) (e_var 0 rfl) (e_var 3 rfl) ?_)).c, blkOk_by (N := ["hands", "keeper", "found", "thing", "person", "other"]) (sc := (defScope (topS 35))) (by decide +kernel), by decide, fun _ _ _ _ _ => (g_name 5 sc_steps_of.nd), fun _ _ _ _ _ x hx => ts_one (t_cmp (c_neN (e_var 5 rfl) (e_var 4 rfl))), fun _ _ _ _ _ x hx ht => (e_pair (e_var 5 rfl) (e_var 4 rfl))⟩) ?_) (by rw [List.length_map, sizeLine_eq]; omega) ?_
      · trivial
      · rfl
      · exact s_nil fun σ H o => hN σ H (o.weak (.same (.same (.same (.any (.any (.any .nil)))))))
    · rw [foldl_flat (fun x : Nat × Nat => ((holdersM a.1 x.1).filter fun o => !(o == x.2)).map fun o => (o, x.2)), List.nil_append]
      exact s_retV 2 rfl kk
theorem sc_keepers_in : FnScope ["hands", "found", "thing", "later", "keeper", "person", "longer"] ["hands"] (defScope (topS 36)) := ⟨rfl, rfl, rfl, by decide +kernel, rfl, by decide +kernel, by decide +kernel⟩
theorem ok_keepers_in (D : Def K mg "keepers_in" (topS 36) ["hands"]) (B : Bt mg) (h_holders_in : Has P w K mg base 1 "holders_in" ["hands", "thing"] spHold) (h_things_in : Has P w K mg base 1 "things_in" ["hands"] spThings) (h_has_ring : Has P w K mg base 1 "has_ring" ["steps"] spRing) (h_steps_of : Has P w K mg base 2 "steps_of" ["hands", "keeper"] spSteps) : Has P w K mg base 3 "keepers_in" ["hands"] spKeepers :=
  defL D sc_keepers_in (fun _ => rfl) no1 (by decide) fun f cdv Ar outer s H E a hr hp D kk => by
    have n5 := hp.n5
    have t7 := things_few7 hp
    have pw : ∀ i ≤ 7, 5 ^ i ≤ 78125 := by decide +kernel
    refine s_setL 1 sc_keepers_in.nd (l_one e_noD) ?_
    refine s_for (S := List KD) (fun F => [.im a, .ls F, .any, .any, .any, .any, .any]) (keepStep a) (KsOk a) [KD.mk []] PassesOwn.never rfl (Wk.refl _) ⟨Nat.le_refl _, fun k hk => by
      rw [List.mem_singleton.mp hk]
      exact ⟨rfl, ⟨fun x hx => by cases hx⟩⟩⟩ (i_new (l_call1 h_things_in (hr.mono (by decide)) (e_var 0 rfl) hp)) (g_name 2 sc_keepers_in.nd) (fun H1 s1 i F t ht g => ?_) (fun g => ?_)
    · have hi := (List.getElem?_eq_some_iff.mp ht).1
      refine ⟨ks_step hp g ht, fun N bk hN => ?_⟩
      have hF := Nat.le_trans g.len (pw i (by omega))
      refine s_setL 3 sc_keepers_in.nd (l_nil (α := KD)) ?_
      refine s_read (xs := F) 1 rfl ?_
      refine s_for (S := List KD) (fun L => [.im a, .rl F, .im t, .ls L, .any, .any, .any]) (fun L k => L ++ ((holdersM a t).filter fun p => !ringM (stepsM a (k.l ++ [(t, p)]))).map fun p => KD.mk (k.l ++ [(t, p)])) (fun j L => L.length ≤ j * 5) [] PassesOwn.never rfl (Wk.refl _) (Nat.zero_le _) (i_var 1 rfl) (g_name 4 sc_keepers_in.nd) (fun H2 s2 j L k hk gj => ?_) (fun gj => ?_)
      · have hj := (List.getElem?_eq_some_iff.mp hk).1
        have hkm : k ∈ F := List.mem_of_getElem? hk
        have kl := ks_len g (by omega) hkm
        have h2 := holders_few a t
        refine ⟨?_, fun N2 bk2 hN2 => ?_⟩
        · show (L ++ _).length ≤ (j + 1) * 5
          have h1 := List.length_filter_le (fun p => !ringM (stepsM a (k.l ++ [(t, p)]))) (holdersM a t)
          rw [List.length_append, List.length_map]
          omega
        refine s_for (S := List KD) (fun L => [.im a, .rl F, .im t, .ls L, .im k, .any, .any]) (fun L p => if !ringM (stepsM a (k.l ++ [(t, p)])) then L ++ [KD.mk (k.l ++ [(t, p)])] else L) (fun l L => L.length ≤ j * 5 + l) L PassesOwn.never rfl (Wk.refl _) (by show L.length ≤ j * 5 + 0; omega) (i_new (l_call2 h_holders_in (hr.mono (by decide)) (e_var 0 rfl) (e_var 2 rfl) ?_)) (g_name 5 sc_keepers_in.nd) (fun H3 s3 l L2 p hpp gl => ?_) (fun gl => ?_)
        · trivial
        · have hl : l < (holdersM a t).length := (List.getElem?_eq_some_iff.mp hpp).1
          have hpm : p ∈ holdersM a t := List.mem_of_getElem? hpp
          have kok : KOk a (k.l ++ [(t, p)]) := ⟨fun x hx => by
            rcases List.mem_append.mp hx with hx | hx
            · exact (g.each k hkm).2.hold x hx
            · rw [List.mem_singleton.mp hx]; exact hpm⟩
          obtain ⟨so1, so2⟩ := steps_ok hp kok
          rw [List.length_append, List.length_singleton, kl] at so1
          refine ⟨?_, fun N3 bk3 hN3 => ?_⟩
          · show (if _ then _ else _ : List KD).length ≤ j * 5 + (l + 1)
            split
            · simp; omega
            · omega
          refine s_set 6 sc_keepers_in.nd (e_starD 4 rfl (e_var 2 rfl) (e_var 5 rfl) ?_ ?_) ?_
          · rw [sizeLine_eq]; omega
          · exact ks_fresh g ht hkm
          refine s_ifb (b := !ringM (stepsM a (k.l ++ [(t, p)]))) (TV.as (t_not (t_val (e_call1r h_has_ring (hr.mono (by decide)) (l_call2 h_steps_of (hr.mono (by decide)) (e_var 0 rfl) (e_var 6 rfl) ?_).b ?_))) ?_) (fun hb => ?_) (fun hb => ?_)
          · exact ⟨hp, by show (k.l ++ [(t, p)]).length ≤ 8; rw [List.length_append, List.length_singleton]; omega⟩
          · exact ⟨by show (stepsM a (k.l ++ [(t, p)])).length ≤ 30; omega, so2⟩
          · rfl
          · refine s_app 3 rfl (e_var 6 rfl) (by rw [sizeLine_eq]; omega) ?_
            refine s_nil fun σ H o => s_nil (fun σ H o => hN3 σ H ?_) σ H o
            rw [if_pos hb]
            exact o.weak (.same (.same (.same (.same (.same (.any (.any .nil)))))))
          · refine s_nil fun σ H o => hN3 σ H ?_
            rw [if_neg (by rw [hb]; decide)]
            exact o.weak (.same (.same (.same (.same (.same (.any (.any .nil)))))))
        · refine s_nil fun σ H o => hN2 σ H ?_
          rw [foldl_appIf (fun p => !ringM (stepsM a (k.l ++ [(t, p)]))) (fun p => KD.mk (k.l ++ [(t, p)]))] at o
          exact o.weak (.same (.same (.same (.same (.any (.any (.any .nil)))))))
      · rw [foldl_flat (fun k : KD => ((holdersM a t).filter fun p => !ringM (stepsM a (k.l ++ [(t, p)]))).map fun p => KD.mk (k.l ++ [(t, p)])), List.nil_append]
        refine s_move (xs := keepStep a F t) 1 3 sc_keepers_in.nd rfl (by decide) (by simp) ?_
        exact s_nil fun σ H o => hN σ H (o.weak (.same (.same (.any (.any (.any (.any (.any .nil))))))))
    · exact s_retV 1 rfl kk
theorem sc_count_ends : FnScope ["hands"] ["hands"] (defScope (topS 37)) := ⟨rfl, rfl, rfl, by decide +kernel, rfl, by decide +kernel, by decide +kernel⟩
theorem ok_count_ends (D : Def K mg "count_ends" (topS 37) ["hands"]) (B : Bt mg) (h_need_hands : HNeed P w K mg base) (h_keepers_in : Has P w K mg base 3 "keepers_in" ["hands"] spKeepers) : Has P w K mg base 5 "count_ends" ["hands"] spEnds :=
  defV D sc_count_ends (fun _ => rfl) no1 (by decide) fun f cdv Ar outer s H E a hr hp D kk => by
    refine s_callN h_need_hands hr (e_var 0 rfl) hp (s_ret (e_lenL B.len (l_call1 h_keepers_in (hr.mono (by decide)) (e_var 0 rfl) hp).b) ?_)
    exact kk
end
end L2.LX
/-! DC: a dict whose keys are hands. -/
namespace L2.LX
open PySem PySem.Spec PyProof.Rows PySem.W
def keyRow (x : List Nat) : NestedKey := .tup (x.map fun (t : Nat) => .num (t : Int))
def keyOf (h : Hs) : NestedKey := .tup (h.map keyRow)
theorem keyRow_inj {x y : List Nat} (e : keyRow x = keyRow y) : x = y := by
  injection e with e
  refine (List.map_inj_right fun a b q => ?_).mp e
  injection q with q
  exact Int.ofNat.inj q
theorem keyOf_inj {x y : Hs} (e : keyOf x = keyOf y) : x = y := by
  injection e with e
  exact (List.map_inj_right fun a b q => keyRow_inj q).mp e
theorem keyRow_depth (x : List Nat) : (keyRow x).depth ≤ 1 := by
  have : NestedKey.depthAll (x.map fun (t : Nat) => NestedKey.num (t : Int)) = 0 := by
    induction x with
    | nil => rfl
    | cons a x ih => rw [List.map_cons]; unfold NestedKey.depthAll; rw [ih]; rfl
  unfold keyRow NestedKey.depth
  rw [this]
  exact Nat.le_refl _
theorem keyOf_depth (h : Hs) : (keyOf h).depth ≤ 8 := by
  have : NestedKey.depthAll (h.map keyRow) ≤ 1 := by
    induction h with
    | nil => exact Nat.zero_le _
    | cons a x ih =>
      rw [List.map_cons]
      unfold NestedKey.depthAll
      exact Nat.max_le.mpr ⟨keyRow_depth a, ih⟩
  unfold keyOf NestedKey.depth
  omega
section
variable {P : Program} {w : World} {H : Hp} {h : Heap}
theorem row_is (ok : L2.HOk P w H h) {v : V} {u : Value} {x : List Nat} (d : Dn.dn H v x) (r : RelV v u) : NestedIs h (keyRow x) u := by
  obtain ⟨p, vs, rfl, hp, dd⟩ := d
  cases r
  obtain ⟨hz, its, rv, o, h1, h2, n, h3⟩ := (show ObjOk P w H h p (.tup vs) from ok p _ hp)
  refine .tup h1 h2 h3 ?_
  rw [show its.toArray.toList = its from rfl]
  clear hp h1 h3 hz
  induction dd generalizing its with
  | nil => cases rv; exact .nil
  | @cons a b as bs q t ih =>
    cases rv with
    | @cons _ u _ us r1 r2 =>
      have q' : a = .int (b : Int) := q
      subst q'
      obtain ⟨t, rfl⟩ := (show ∃ t, u = Value.int (b : Int) t from r1)
      exact .cons (.int _ t) (ih _ r2)
theorem key_is (ok : L2.HOk P w H h) {a : Addr} {m : Hs} (d : Dn.dn H (.ref a) m) : (nestedKind P w).is h (keyOf m) a := by
  obtain ⟨p, vs, e, hp, dd⟩ := d
  cases e
  obtain ⟨hz, its, rv, o, h1, h2, n, h3⟩ := (show ObjOk P w H h a (.tup vs) from ok a _ hp)
  refine ⟨.tup h1 h2 h3 ?_, keyOf_depth m⟩
  rw [show its.toArray.toList = its from rfl]
  clear hp h1 h3 hz
  induction dd generalizing its with
  | nil => cases rv; exact .nil
  | cons q t ih =>
    cases rv with
    | cons r1 r2 => exact .cons (row_is ok q r1) (ih _ r2)
end
/-- a dict's one object, by its entries -/
def MetR (P : Program) (w : World) (p : Addr) (xs : List (NestedKey × Addr × Value)) (h : Heap) : Prop := ∃ o es ep, h.get? p = some o ∧ o.ExactDict ∧ o.data = .dict es ep ∧ es.toList = xs.map (entryOfKey (nestedKind P w)) ∧ (xs.map (·.1)).Nodup
def MetAt (P : Program) (w : World) (ms : List Hs) (H : Hp) (p : Addr) : Prop := ∃ xs : List (NestedKey × Addr × Value), H p = some (.ext (MetR P w p xs)) ∧ (p == sysModules) = false ∧ Paired (fun (x : NestedKey × Addr × Value) (m : Hs) => x.1 = keyOf m ∧ Dn.dn H (.ref x.2.1) m) xs ms
/-- the hands that are met -/
def Met (P : Program) (w : World) (ms : List Hs) : Ob where
  R := MetAt P w ms
  keep := fun ⟨xs, h1, h0, h2⟩ k e => ⟨xs, e.trans h1, h0, Paired.mapP h2 fun _ _ q => ⟨q.1, Dn.keep q.2 k⟩⟩
  cell := fun ⟨xs, h1, _⟩ => ⟨_, h1⟩
theorem met_keys {H : Hp} {k : NestedKey} {m : Hs} (e : k = keyOf m) : ∀ {xs : List (NestedKey × Addr × Value)} {ms : List Hs}, Paired (fun (x : NestedKey × Addr × Value) (m : Hs) => x.1 = keyOf m ∧ Dn.dn H (.ref x.2.1) m) xs ms → (atKey xs k).isSome = hasB m ms
  | _, _, .nil => rfl
  | _, _, @Paired.cons _ _ _ x n xs ms q t => by
    have ih := met_keys e t
    unfold atKey hasB at *
    rw [List.find?_cons, List.any_cons, ← ih]
    by_cases z : n = m
    · have : decide (x.1 = k) = true := decide_eq_true (by rw [q.1, z, e])
      rw [this, (En.bqs n m).mpr z]
      rfl
    · have h1 : decide (x.1 = k) = false := decide_eq_false fun y => z (keyOf_inj (by rw [← q.1, y, e]))
      have h2 : En.bq n m = false := by
        cases hb : En.bq n m with
        | false => rfl
        | true => exact absurd ((En.bqs n m).mp hb) z
      rw [h1, h2]
      rfl
theorem met_of {P : Program} {w : World} {H : Hp} {h : Heap} {p : Addr} (ok : L2.HOk P w H h) {xs : List (NestedKey × Addr × Value)} {ms : List Hs} (h1 : H p = some (.ext (MetR P w p xs))) (h2 : Paired (fun (x : NestedKey × Addr × Value) (m : Hs) => x.1 = keyOf m ∧ Dn.dn H (.ref x.2.1) m) xs ms) : h.DictOfH (nestedKind P w) p xs := by
  obtain ⟨⟨o, es, ep, g1, g2, g3, g4, g5⟩, g6, g7⟩ := (show ObjOk P w H h p (.ext (MetR P w p xs)) from ok p _ h1)
  refine ⟨o, es, ep, g1, g2, g3, g4, fun x hx => ?_, g5⟩
  clear h1 g4 g5 g6 g7
  induction h2 with
  | nil => cases hx
  | cons q t ih =>
    rcases List.mem_cons.mp hx with rfl | hx
    · rw [q.1]
      exact key_is ok q.2
    · exact ih hx
theorem met_new {P : Program} {w : World} {H : Hp} {h : Heap} {p : Addr} {xs : List (NestedKey × Addr × Value)} (d : h.DictOfH (nestedKind P w) p xs) : ObjOk P w H h p (.ext (MetR P w p xs)) := by
  obtain ⟨o, es, ep, g1, g2, g3, g4, _, g5⟩ := d
  exact ⟨⟨o, es, ep, g1, g2, g3, g4, g5⟩, ⟨o, g1⟩, fun h1 h2 ⟨o, es, ep, q1, q2, q3, q4, q5⟩ k => ⟨o, es, ep, k o q1, q2, q3, q4, q5⟩⟩
theorem room_out {P : Program} {w : World} {A : Around} (h : A.units + 64 < cLine) : (nestedKind P w).room A := by
  have e : A.units + 8 < cLine := Nat.lt_of_le_of_lt (Nat.add_le_add_left (by decide) _) h
  exact e
theorem room_in {P : Program} {w : World} {A : Around} (h : A.units + 64 < cLine) : (nestedKind P w).room A.in1 := by
  have e : (A.units + 1) + 8 < cLine := Nat.lt_of_le_of_lt (by rw [Nat.add_assoc]; exact Nat.add_le_add_left (by decide) _) h
  exact e
section
variable {X : Cx} {H0 : Hp} {ds : List Sd} {e1 e2 : Expr} {pos p p2 : Pos} {D : Ends} {rest : List Stmt}
theorem op_notInMet (hu : X.A.units + 64 < cLine) : OpR X (compareOp .NotIn) (fun x y H Q => ∃ a p m ms, x = .ref a ∧ y = .ref p ∧ Dn.dn H (.ref a) (m : Hs) ∧ MetAt X.prog X.w ms H p ∧ Q (.bl (!hasB m ms)) H) := by
  rintro pins s σ H x y u1 u2 Q I r1 r2 ⟨a, p, m, ms, rfl, rfl, d, ⟨xs, h1, h0, h2⟩, q⟩
  cases r1
  cases r2
  refine notIn_keyed (knd := nestedKind X.prog X.w) (kvs := pairsH xs) (room_in hu) (key_is I.hok d) h0 ⟨xs, met_of I.hok h1 h2, rfl⟩ ?_
  rw [valueAt_pairsH, Option.isSome_map, met_keys rfl h2]
  exact ⟨.bl (!hasB m ms), H, I.kept (t' := s.toks + (nestedKind X.prog X.w).draws (keyOf m)) (fun _ _ z => z), rfl, q⟩
/-- m not in the hands that are met -/
theorem c_notInMet {m : Hs} {ms : List Hs} (i : Nat) (hu : X.A.units + 64 < cLine) (ha : EV X H0 ds e1 m) (h : ds[i]? = some (.ob (Met X.prog X.w ms))) {x : Str} (hN : X.N[i]? = some x := by rfl) (hv : Vis X.env.scope x := by first | exact Or.inl rfl | exact Or.inr (Or.inl rfl) | exact Or.inr (Or.inr rfl)) (hd : (x == ("__debug__" : Str)) = false := by decide) (hcd : (x == ("__classdict__" : Str)) = false := by decide) :
    CV X H0 ds .NotIn e1 (.Name x p) (!hasB m ms) := ⟨_, op_notInMet hu, fun σ H Q o k => ha σ H _ o fun v H' s d => (pe_var hN hv hd hcd).tw (by
  obtain ⟨u, h1, q, rfl, h2⟩ := (o.ext s).slot i _ h (fun z => nomatch z)
  refine ⟨_, h1, ?_⟩
  obtain ⟨a, vs, rfl, g1, g2⟩ := id d
  exact ⟨a, q, m, ms, rfl, rfl, d, h2, k H' s⟩)⟩
/-- {m: True} -/
theorem er_met {m : Hs} {j : Nat} (hu : X.A.units + 64 < cLine) (ha : EV X H0 ds e1 m) : ER X H0 ds (.Dict [some e1] [.Constant (.bool true) j p2] pos) (.ob (Met X.prog X.w [m])) := fun σ H Q o kk pins s I => by
  have hn := I.hok.fresh (Nat.le_refl s.heap.objs.size)
  have I1 : Inv X pins σ (upd H s.heap.objs.size (.dK [])) { s with heap := s.heap.push { cls := .type "dict", data := .dict #[] } } := I.laid (t' := s.toks) (fun _ _ z => Heap.get?_push_of_some _ z) (Nat.le_refl _) (dk_empty s.heap I.big)
  rw [arm_eval_Dict, zip_pairTrees [some e1] [.Constant (.bool true) j p2] X.env pos rfl rfl, dictDisplay_pairs _ (by simp [pairTrees]) (by simp [pairTrees])]
  refine wpAny_bind (wpAny_standAt ?_)
  refine wpAny_bind (wpAny_subDictH (knd := nestedKind X.prog X.w) (room_out hu) (by simp [pairTrees]) ?_)
  refine pairTrees_cons_walk (thn (ha σ _ (fun u H1 => Same (upd H s.heap.objs.size (.dK [])) H1 ∧ Dn.dn H1 u m) (o.ext (same_new hn)) (fun u H1 s1 d1 => ⟨s1, d1⟩) pins _ I1) ?_)
  rintro ku t5 ⟨u5, H5, I5, r5, s5, d5⟩
  refine thn ((pe_bl (X := X)).run pins t5 σ H5 (fun u H1 => H1 = H5 ∧ u = .bl true) I5 ⟨rfl, rfl⟩) ?_
  rintro vu t6 ⟨u6, H6, I6, r6, rfl, rfl⟩
  refine pairTrees_nil_walk ?_
  obtain ⟨a, vs, rfl, g1, g2⟩ := id d5
  cases r5
  have H6d : H6 s.heap.objs.size = some (.dK []) := s5 _ _ upd_same
  obtain ⟨a1, a2, vs2, rel2, d2⟩ := dk_of I6.hok H6d
  cases rel2
  have dh : t6.heap.DictOfH (nestedKind X.prog X.w) s.heap.objs.size [] := by
    obtain ⟨ob, es, ep, c1, c2, c3, c4, c5, c6⟩ := d2
    have e0 : es.toList = [] := by
      have := c5.length
      exact List.length_eq_zero_iff.mp this
    exact ⟨ob, es, ep, c1, c2, c3, e0, fun x hx => (List.not_mem_nil hx).elim, List.nodup_nil⟩
  refine ⟨[(keyOf m, a, vu)], ⟨rfl, rfl, key_is I6.hok d5, True.intro⟩, dh, fun g tk m1 m2 => wpAny_pure ?_⟩
  have m1' : g.DictOfH (nestedKind X.prog X.w) s.heap.objs.size [(keyOf m, a, vu)] := m1
  have I7 : Inv X pins σ (upd H6 s.heap.objs.size (.ext (MetR X.prog X.w s.heap.objs.size [(keyOf m, a, vu)]))) { t6 with heap := g, toks := tk } :=
    d_write I6 (by rw [H6d]; exact True.intro) m2 (let ⟨z, _, _, hz, _⟩ := m1'; ⟨z, hz⟩) (met_new m1')
  have kp : Kept H6 (upd H6 s.heap.objs.size (.ext (MetR X.prog X.w s.heap.objs.size [(keyOf m, a, vu)]))) ∨ True := .inr trivial
  have nd : a ≠ s.heap.objs.size := fun z => by rw [z, H6d] at g1; cases g1
  have dm : Dn.dn (upd H6 s.heap.objs.size (.ext (MetR X.prog X.w s.heap.objs.size [(keyOf m, a, vu)]))) (.ref a) m := Tp.kt d5 fun b xs hb => by
    rw [upd_ne (ne_of hb H6d (by intro z; cases z))]
    exact hb
  refine ⟨.ref s.heap.objs.size, _, I7, rfl, kk _ _ (fun b ob hb => ?_) ⟨_, rfl, _, upd_same, a2, .cons ⟨rfl, dm⟩ .nil⟩ (fun _ => ⟨_, rfl, hn⟩) (fun z => nomatch z)⟩
  have nb : b ≠ s.heap.objs.size := fun z => by rw [z, hn] at hb; cases hb
  rw [upd_ne nb]
  exact s5 _ _ (by rw [upd_ne nb]; exact hb)
/-- met[m] = True, m not yet met -/
theorem s_setMet {m : Hs} {ms : List Hs} {j : Nat} {x : Str} {px pos' : Pos} (i : Nat) (hu : X.A.units + 64 < cLine) (h : ds[i]? = some (.ob (Met X.prog X.w ms))) (ha : EV X H0 ds e1 m) (hm : hasB m ms = false) (few : ms.length ≤ sizeLine) (kk : SS X H0 (ds.set i (.ob (Met X.prog X.w (ms ++ [m])))) rest D)
    (hN : X.N[i]? = some x := by rfl) (hv : Vis X.env.scope x := by first | exact Or.inl rfl | exact Or.inr (Or.inl rfl) | exact Or.inr (Or.inr rfl)) (hd : (x == ("__debug__" : Str)) = false := by decide) (hcd : (x == ("__classdict__" : Str)) = false := by decide)
    (hs : swapsWith (.Constant (.bool true) j p2) (some (.Subscript (.Name x px) e1 pos')) pos.line X.env = pure false := by rfl) :
    SS X H0 ds (.Assign [.Subscript (.Name x px) e1 pos'] (.Constant (.bool true) j p2) pos :: rest) D := s_cons fun σ H o pins s I => by
  refine wpAny_Assign_Subscript (thn ((pe_bl (X := X)).run pins s σ H (fun u H1 => H1 = H ∧ u = .bl true) I ⟨rfl, rfl⟩) ?_) hs
  rintro vu t1 ⟨_, H1, I1, r1, rfl, rfl⟩
  obtain ⟨v, hy, q, rfl, xs, h1, h0, h2⟩ := o.slot i _ h (fun z => nomatch z)
  refine thn ((pe_var (X := X) hN hv hd hcd).run pins t1 σ H1 (fun u H2 => u = .ref q ∧ H2 = H1) I1 ⟨_, hy, rfl, rfl⟩) ?_
  rintro ou t2 ⟨_, H2, I2, r2, rfl, rfl⟩
  cases r2
  refine thn (ha σ _ (fun u H3 => Same H2 H3 ∧ Dn.dn H3 u m) o (fun u H1 s1 d1 => ⟨s1, d1⟩) pins _ I2) ?_
  rintro ku t3 ⟨u3, H3, I3, r3, s3, d3⟩
  obtain ⟨a, vs, rfl, g1, g2⟩ := id d3
  cases r3
  have o3 := o.ext s3
  obtain ⟨v', hy', q', e', xs', h1', h0', h2'⟩ := o3.slot i _ h (fun z => nomatch z)
  rw [hy] at hy'
  cases hy'
  cases e'
  have none : atKey xs' (keyOf m) = none := by
    have := met_keys (k := keyOf m) rfl h2'
    rw [hm] at this
    exact Option.not_isSome_iff_eq_none.mp (by rw [this]; decide)
  have lx : xs'.length = ms.length := h2'.length
  refine wpAny_setItem_heap (hsz := by rw [lx]; exact few) (knd := nestedKind X.prog X.w) (room_in hu) (key_is I3.hok d3) (met_of I3.hok h1' h2') fun g m1 m2 => ?_
  rw [storedH_new none] at m1
  have I4 : Inv X pins σ (upd H3 q (.ext (MetR X.prog X.w q (xs' ++ [(keyOf m, a, vu)])))) { t3 with heap := g, toks := t3.toks + (nestedKind X.prog X.w).draws (keyOf m) } :=
    d_write I3 (by rw [h1']; exact True.intro) m2 (let ⟨z, _, _, hz, _⟩ := m1; ⟨z, hz⟩) (met_new m1)
  refine ⟨σ, _, I4, kk _ _ (o3.writeOwn h rfl rfl hy fun kp => ⟨q, rfl, _, upd_same, h0, ?_⟩)⟩
  have app : ∀ {xs : List (NestedKey × Addr × Value)} {ms : List Hs} {H : Hp}, Paired (fun (x : NestedKey × Addr × Value) (m : Hs) => x.1 = keyOf m ∧ Dn.dn H (.ref x.2.1) m) xs ms → Dn.dn H (.ref a) m → Paired (fun (x : NestedKey × Addr × Value) (m : Hs) => x.1 = keyOf m ∧ Dn.dn H (.ref x.2.1) m) (xs ++ [(keyOf m, a, vu)]) (ms ++ [m]) := fun {xs ms H} w d => by
    induction w with
    | nil => exact .cons ⟨rfl, d⟩ .nil
    | cons q t ih => exact .cons q ih
  exact app (Paired.mapP h2' fun _ _ q => ⟨q.1, Dn.keep q.2 kp⟩) (Dn.keep d3 kp)
end
end L2.LX
/-! D7: calls at once, rounds. -/
namespace L2.LX
open PySem PySem.Spec PyProof.Rows PySem.W
/-! ### mirrors -/
def awayM (h people : Hs) (p : List Nat) (q : Nat) : List Nat := if p.contains q then spareM h q else []
def togM (h : Hs) (p : List Nat) : Hs := (enumL h).map fun z => z.2.filter fun t => !(if p.contains z.1 then spareM h z.1 else []).contains t
def rtTest (h0 : Hs) (met : List Hs) (x : Hs) : Bool := !hasB x met && bqL (thingsM x) (thingsM h0)
def rtTurn (h0 here : Hs) (s : List Hs × List Hs) (p : List Nat) : List Hs × List Hs := if rtTest h0 s.1 (togM here p) then (s.1 ++ [togM here p], s.2 ++ [togM here p]) else s
def rtHere (h0 : Hs) (s : List Hs × List Hs) (here : Hs) : List Hs × List Hs := (choicesM h0.length).foldl (rtTurn h0 here) s
def rtStep (h0 : Hs) (s : List Hs × List Hs) : List Hs × List Hs := ((s.1.foldl (rtHere h0) (s.2, [])).2, (s.1.foldl (rtHere h0) (s.2, [])).1)
/-- (last, met) behind so many rounds -/
def rtAt (h : Hs) : Nat → List Hs × List Hs
  | 0 => ([h], [h])
  | k + 1 => rtStep h (rtAt h k)
def rtEnd (h : Hs) (k : Nat) : Bool := ((rtAt h k).1.map fun x => endM x).any id
def roundsM (h : Hs) : Nat := ((List.range 5).find? (rtEnd h)).getD 5
theorem tog_len (h : Hs) (p : List Nat) : (togM h p).length = h.length := by unfold togM; rw [List.length_map, enumL_len]
theorem enumL_mem {h : Hs} {z : Nat × List Nat} (m : z ∈ enumL h) : z.2 ∈ h ∧ z.1 < h.length := by
  unfold enumL at m
  obtain ⟨y, hy, rfl⟩ := List.mem_map.mp m
  obtain ⟨i1, i2⟩ := List.mem_zipIdx' hy
  exact ⟨i2 ▸ List.getElem_mem _, i1⟩
theorem tog_ok {h : Hs} (o : HOk h) (p : List Nat) : HOk (togM h p) := by
  refine ⟨by rw [tog_len]; exact o.n1, by rw [tog_len]; exact o.n5, fun x hx => ?_, fun x hx t ht => ?_⟩
  · obtain ⟨z, hz, rfl⟩ := List.mem_map.mp hx
    exact List.Pairwise.filter _ (o.up _ (enumL_mem hz).1)
  · obtain ⟨z, hz, rfl⟩ := List.mem_map.mp hx
    exact o.lo _ (enumL_mem hz).1 t (List.mem_filter.mp ht).1
structure RtOk (h : Hs) (s : List Hs × List Hs) (a b : Nat) : Prop where
  ok : ∀ x ∈ s.2, HOk x ∧ x.length = h.length
  l1 : s.1.length ≤ a
  l2 : s.2.length ≤ b
theorem turn_ok {h here : Hs} (o : HOk here) (e : here.length = h.length) {s : List Hs × List Hs} {a b : Nat} (g : RtOk h s a b) (p : List Nat) : RtOk h (rtTurn h here s p) (a + 1) (b + 1) := by
  unfold rtTurn
  split
  · refine ⟨fun x hx => ?_, ?_, ?_⟩
    · rcases List.mem_append.mp hx with hx | hx
      · exact g.ok x hx
      · rw [List.mem_singleton.mp hx]
        exact ⟨tog_ok o p, by rw [tog_len, e]⟩
    · simp only [List.length_append, List.length_singleton]; exact Nat.succ_le_succ g.l1
    · simp only [List.length_append, List.length_singleton]; exact Nat.succ_le_succ g.l2
  · exact ⟨g.ok, Nat.le_succ_of_le g.l1, Nat.le_succ_of_le g.l2⟩
theorem here_ok {h here : Hs} (o : HOk here) (e : here.length = h.length) {s : List Hs × List Hs} {a b : Nat} (g : RtOk h s a b) : RtOk h (rtHere h s here) (a + 32) (b + 32) := by
  unfold rtHere
  have gen : ∀ (l : List (List Nat)) (s : List Hs × List Hs) (a b : Nat), RtOk h s a b → RtOk h (l.foldl (rtTurn h here) s) (a + l.length) (b + l.length) := fun l => by
    induction l with
    | nil => intro s a b g; exact g
    | cons p l ih =>
      intro s a b g
      have := ih _ _ _ (turn_ok o e g p)
      rw [List.foldl_cons, List.length_cons]
      rw [show a + (l.length + 1) = a + 1 + l.length from by omega, show b + (l.length + 1) = b + 1 + l.length from by omega]
      exact this
  obtain ⟨_, _, _, h3, _⟩ := choices_shape h.length
  have := gen (choicesM h.length) s a b g
  have n5 : h.length ≤ 5 := e ▸ o.n5
  have h5 : 2 ^ h.length ≤ 2 ^ 5 := Nat.pow_le_pow_right (by decide) n5
  exact ⟨this.ok, Nat.le_trans this.l1 (by omega), Nat.le_trans this.l2 (by omega)⟩
theorem heres_ok {h : Hs} : ∀ (l : List Hs) (s : List Hs × List Hs) (a b : Nat), (∀ x ∈ l, HOk x ∧ x.length = h.length) → RtOk h s a b → RtOk h (l.foldl (rtHere h) s) (a + 32 * l.length) (b + 32 * l.length)
  | [], s, a, b, _, g => g
  | x :: l, s, a, b, ok, g => by
    obtain ⟨o, e⟩ := ok x List.mem_cons_self
    have := heres_ok l _ _ _ (fun y hy => ok y (List.mem_cons_of_mem _ hy)) (here_ok o e g)
    rw [List.foldl_cons, List.length_cons]
    rw [show a + 32 * (l.length + 1) = a + 32 + 32 * l.length from by omega, show b + 32 * (l.length + 1) = b + 32 + 32 * l.length from by omega]
    exact this
/-- what stands behind k rounds -/
structure AtOk (h : Hs) (k : Nat) : Prop where
  ok : ∀ x ∈ (rtAt h k).1, HOk x ∧ x.length = h.length
  l1 : (rtAt h k).1.length ≤ 32 ^ k
  l2 : (rtAt h k).2.length ≤ 2 * 32 ^ k
theorem at_ok {h : Hs} (o : HOk h) : ∀ k, AtOk h k
  | 0 => ⟨fun x hx => by rw [List.mem_singleton.mp hx]; exact ⟨o, rfl⟩, Nat.le_refl _, by show 1 ≤ 2; decide⟩
  | k + 1 => by
    have ih := at_ok o k
    have := heres_ok (h := h) (rtAt h k).1 ((rtAt h k).2, []) ((rtAt h k).2.length) 0 ih.ok ⟨fun x hx => (List.not_mem_nil hx).elim, Nat.le_refl _, Nat.le_refl _⟩
    have h1 := ih.l1
    have h2 := ih.l2
    have e : 32 ^ (k + 1) = 32 ^ k * 32 := Nat.pow_succ ..
    refine ⟨this.ok, ?_, ?_⟩
    · exact Nat.le_trans this.l2 (by omega)
    · exact Nat.le_trans this.l1 (by omega)
section
variable {P : Program} {w : World} {K : PySem.W.Frag} {mg : Str → Option Value} {base : Heap}
abbrev spTog : Sp := spV (fun a : Hs × List Nat => [.im a.1, .im a.2]) (fun a => HOk a.1) (fun a => togM a.1 a.2)
abbrev spRounds : Sp := spV (fun a : Hs => [.im a]) HOk roundsM
theorem sc_together_in : FnScope ["hands", "people", "found", "person", "hand", "away", "thing"] ["hands", "people"] (defScope (topS 53)) := ⟨rfl, rfl, rfl, by decide +kernel, rfl, by decide +kernel, by decide +kernel⟩
theorem ok_together_in (D : Def K mg "together_in" (topS 53) ["hands", "people"]) (B : Bt mg) (h_spare_in : Has P w K mg base 2 "spare_in" ["hands", "person"] spSpare) : Has P w K mg base 3 "together_in" ["hands", "people"] spTog :=
  defV D sc_together_in (fun _ => rfl) no2 (by decide) fun f cdv Ar outer s H E a hr hp D kk => by
    have n5 := hp.n5
    refine s_setL 2 sc_together_in.nd (l_nil (α := List Nat)) ?_
    refine s_for (S := Hs) (fun F => [.im a.1, .im a.2, .ls F, .any, .any, .any, .any]) (fun F z => F ++ [z.2.filter fun t => !(if a.2.contains z.1 then spareM a.1 z.1 else []).contains t]) (fun i F => F.length ≤ i) [] PassesOwn.never rfl (Wk.refl _) (Nat.zero_le _) (i_enum B.enumerate (e_var 0 rfl)) (g_pair 3 4 rfl sc_together_in.nd) (fun H1 s1 i F z hz g => ?_) (fun g => ?_)
    · have hi : i < a.1.length := by
        have := (List.getElem?_eq_some_iff.mp hz).1
        rw [enumL_len] at this
        exact this
      have hm := enumL_mem (List.mem_of_getElem? hz)
      refine ⟨by rw [List.length_append, List.length_singleton]; omega, fun N bk hN => ?_⟩
      refine s_setL (xs := if a.2.contains z.1 then spareM a.1 z.1 else []) 5 sc_together_in.nd (EL.as (l_ifE (t_cmp (c_inT (e_var 3 rfl) (e_var 1 rfl))) (l_call2 h_spare_in (hr.mono (by decide)) (e_var 0 rfl) (e_var 3 rfl) ?_) l_nil) ?_) ?_
      · exact hm.2
      · rfl
      refine s_app 2 rfl (e_tuple B.tuple (l_compF (own := [("thing", 6)]) rfl sc_together_in.nd ⟨(i_tup (e_var 4 rfl)).c, blkOk_by (N := ["hands", "people", "found", "person", "hand", "away", "thing"]) (sc := (defScope (topS 53))) (by decide +kernel), by decide, fun _ _ _ _ _ => (g_name 6 sc_together_in.nd), fun _ _ _ _ _ x hx => ts_one (t_cmp (c_notInLN (e_var 6 rfl) (b_var 5 (.inl rfl)))), fun _ _ _ _ _ x hx ht => (e_var 6 rfl)⟩).b) (by rw [sizeLine_eq]; omega) ?_
      exact s_nil fun σ H o => hN σ H (o.weak (.same (.same (.same (.any (.any (.any (.any .nil))))))))
    · rw [foldl_app (fun z : Nat × List Nat => z.2.filter fun t => !(if a.2.contains z.1 then spareM a.1 z.1 else []).contains t), List.nil_append]
      exact s_ret (e_tuple B.tuple (b_var 2 (.inl rfl))) kk
theorem sc_fewest_rounds : FnScope ["hands", "last", "met", "many", "here", "fresh", "people", "there"] ["hands"] (defScope (topS 54)) := ⟨rfl, rfl, rfl, by decide +kernel, rfl, by decide +kernel, by decide +kernel⟩
theorem ok_fewest_rounds (D : Def K mg "fewest_rounds" (topS 54) ["hands"]) (B : Bt mg) (hR : ∀ h, HOk h → ∃ k ≤ 4, rtEnd h k = true) (h_need_hands : HNeed P w K mg base) (h_end_in : Has P w K mg base 2 "end_in" ["hands"] spEnd) (h_choices : Has P w K mg base 1 "choices" ["many"] spChoices) (h_things_in : Has P w K mg base 1 "things_in" ["hands"] spThings) (h_together_in : Has P w K mg base 3 "together_in" ["hands", "people"] spTog) : Has P w K mg base 5 "fewest_rounds" ["hands"] spRounds :=
  defV D sc_fewest_rounds (fun _ => rfl) no1 (by decide) fun f cdv Ar outer s H E a hr hp D kk => by
    have n5 := hp.n5
    obtain ⟨k0, hk0, he0⟩ := hR a hp
    have pw : ∀ k ≤ 3, 32 ^ k ≤ 32768 := by decide +kernel
    refine s_callN h_need_hands hr (e_var 0 rfl) hp ?_
    refine s_par3 1 2 3 rfl sc_fewest_rounds.nd (EL.r (l_one (e_var 0 rfl))) (er_met hr.units (e_var 0 rfl)) (EV.r (e_nat 0)) ?_
    refine s_while (S := Nat) (fun k => [.im a, .ls (rtAt a k).1, .ob (Met P w (rtAt a k).2), .im k, .any, .any, .any, .any]) (fun k => ∀ j < k, rtEnd a j = false) (fun k => !rtEnd a k) (fun k => 5 - k) 0 PassesOwn.never (Wk.refl _) (fun j hj => by cases hj) (fun k iv => ?_) (fun k iv ht N bk hN => ?_) (fun k iv ht => ?_)
    · refine TV.as (t_not (t_val (e_any B.any rfl (l_compM (own := [("here", 4)]) rfl sc_fewest_rounds.nd ⟨(i_own 1 (.inl rfl)), blkOk_by (N := ["hands", "last", "met", "many", "here", "fresh", "people", "there"]) (sc := (defScope (topS 54))) (by decide +kernel), by decide, fun _ _ _ _ _ => (g_name 4 sc_fewest_rounds.nd), fun _ _ _ _ _ x hx => ts_nil, fun _ _ _ _ _ x hx ht => (e_call1 h_end_in (hr.mono (by decide)) (e_var 4 rfl) ?_)⟩).b))) ?_
      · exact ((at_ok hp k).ok _ hx).1
      · rfl
    · have hk4 : k < 4 := by
        by_cases z : k < 4
        · exact z
        · by_cases z2 : k0 < k
          · rw [iv k0 z2] at he0; cases he0
          · have : k = k0 := by omega
            rw [this, he0] at ht; cases ht
      have ak := at_ok hp k
      have p1 := pw k (by omega)
      have a1 := ak.l1
      have a2 := ak.l2
      refine s_augN (m := k) (n := 1) 3 sc_fewest_rounds.nd rfl (e_nat 1) ?_
      refine s_setL 5 sc_fewest_rounds.nd (l_nil (α := Hs)) ?_
      refine s_read (xs := (rtAt a k).1) 1 rfl ?_
      refine s_for (S := List Hs × List Hs) (fun S => [.im a, .rl (rtAt a k).1, .ob (Met P w S.1), .im (k + 1), .any, .ls S.2, .any, .any]) (rtHere a) (fun i S => RtOk a S ((rtAt a k).2.length + 32 * i) (32 * i)) ((rtAt a k).2, []) PassesOwn.never rfl (Wk.refl _) ⟨fun x hx => (List.not_mem_nil hx).elim, Nat.le_refl _, Nat.le_refl _⟩ (i_var 1 rfl) (g_name 4 sc_fewest_rounds.nd) (fun H1 s1 i S here hh g => ?_) (fun g => ?_)
      · have hi := (List.getElem?_eq_some_iff.mp hh).1
        obtain ⟨ho, hl⟩ := ak.ok here (List.mem_of_getElem? hh)
        refine ⟨?_, fun N2 bk2 hN2 => ?_⟩
        · have := here_ok ho hl g
          rw [show (rtAt a k).2.length + 32 * (i + 1) = (rtAt a k).2.length + 32 * i + 32 from by omega, show 32 * (i + 1) = 32 * i + 32 from by omega]
          exact this
        have g1 := g.l1
        have g2 := g.l2
        obtain ⟨_, _, _, ch3, _⟩ := choices_shape a.length
        have ch5 : 2 ^ a.length ≤ 2 ^ 5 := Nat.pow_le_pow_right (by decide) n5
        refine s_for (S := List Hs × List Hs) (fun S => [.im a, .rl (rtAt a k).1, .ob (Met P w S.1), .im (k + 1), .im here, .ls S.2, .any, .any]) (rtTurn a here) (fun j T => RtOk a T (S.1.length + j) (S.2.length + j)) S PassesOwn.never rfl (Wk.refl _) ⟨g.ok, Nat.le_refl _, Nat.le_refl _⟩ (i_new (l_call1 h_choices (hr.mono (by decide)) (e_lenT B.len (e_var 0 rfl)) hp.n5)) (g_name 6 sc_fewest_rounds.nd) (fun H2 s2 j T p hpp gj => ?_) (fun gj => ?_)
        · have hj : j < (choicesM a.length).length := (List.getElem?_eq_some_iff.mp hpp).1
          refine ⟨turn_ok ho hl gj p, fun N3 bk3 hN3 => ?_⟩
          have t1 := gj.l1
          have t2 := gj.l2
          refine s_set 7 sc_fewest_rounds.nd (e_call2 h_together_in (hr.mono (by decide)) (e_var 4 rfl) (e_var 6 rfl) ?_) ?_
          · exact ho
          refine s_ifb (b := rtTest a T.1 (togM here p)) (TV.as (t_and (t_cmp (c_notInMet 2 hr.units (e_var 7 rfl) rfl)) (fun _ => (t_cmp (c_eqL hr.units (l_call1 h_things_in (hr.mono (by decide)) (e_var 7 rfl) ?_).b (l_call1 h_things_in (hr.mono (by decide)) (e_var 0 rfl) ?_).b)))) ?_) (fun hb => ?_) (fun hb => ?_)
          · exact tog_ok ho p
          · exact hp
          · rfl
          · have hm : hasB (togM here p) T.1 = false := by
              unfold rtTest at hb
              cases z : hasB (togM here p) T.1 with
              | false => rfl
              | true => rw [z] at hb; cases hb
            refine s_setMet 2 hr.units rfl (e_var 7 rfl) hm (by rw [sizeLine_eq]; omega) ?_
            refine s_app 5 rfl (e_var 7 rfl) (by rw [sizeLine_eq]; omega) ?_
            refine s_nil fun σ H o => s_nil (fun σ H o => hN3 σ H ?_) σ H o
            have e : rtTurn a here T p = (T.1 ++ [togM here p], T.2 ++ [togM here p]) := by unfold rtTurn; rw [if_pos hb]
            rw [e]
            exact o.weak (.same (.same (.same (.same (.same (.same (.any (.any .nil))))))))
          · refine s_nil fun σ H o => hN3 σ H ?_
            have e : rtTurn a here T p = T := by unfold rtTurn; rw [if_neg (by rw [hb]; decide)]
            rw [e]
            exact o.weak (.same (.same (.same (.same (.same (.same (.any (.any .nil))))))))
        · refine s_nil fun σ H o => hN2 σ H ?_
          exact o.weak (.same (.same (.same (.same (.any (.same (.any (.any .nil))))))))
      · refine s_move (xs := (rtAt a (k + 1)).1) 1 5 sc_fewest_rounds.nd rfl (by decide) (by simp) ?_
        refine s_nil fun σ H o => hN (k + 1) (fun j hj => ?_) (by omega) σ H (o.weak (.same (.same (.same (.same (.any (.any (.any (.any .nil)))))))))
        by_cases z : j < k
        · exact iv j z
        · have : j = k := by omega
          rw [this]
          simpa using ht
    · have h1 : rtEnd a k = true := by simpa using ht
      have hk : k ≤ 4 := by
        by_cases z : k ≤ 4
        · exact z
        · rw [iv k0 (by omega)] at he0; cases he0
      have e : k = roundsM a := by
        unfold roundsM
        have : (List.range 5).find? (rtEnd a) = some k := by
          rw [List.find?_eq_some_iff_getElem]
          refine ⟨h1, k, by rw [List.length_range]; omega, by simp, fun j hj => ?_⟩
          rw [List.getElem_range, iv j hj]
          rfl
        rw [this]
        rfl
      exact s_ret (e_eq (e_var 3 rfl) e) kk
end
end L2.LX
/-! PB: calls one by one end the hands; how few rounds. -/
namespace L2.LX
open PySem PySem.Spec PyProof.Rows PySem.W
theorem hasB_iff {γ : Type} [En γ] (x : γ) (xs : List γ) : hasB x xs = true ↔ x ∈ xs := by
  unfold hasB
  rw [List.any_eq_true]
  constructor
  · rintro ⟨y, hy, e⟩
    rw [← (En.bqs y x).mp e]
    exact hy
  · intro h
    exact ⟨x, h, (En.bqs x x).mpr rfl⟩
/-! ### rounds reach every path -/
/-- one good call -/
def Good (h0 x : Hs) (p : List Nat) : Prop := p ∈ choicesM h0.length ∧ thingsM (togM x p) = thingsM h0
/-- everything met was last at some time -/
theorem turn_met {h0 here : Hs} {s : List Hs × List Hs} (p : List Nat) : (∀ y, y ∈ s.1 → y ∈ (rtTurn h0 here s p).1) ∧ (∀ y, y ∈ s.2 → y ∈ (rtTurn h0 here s p).2) ∧ (∀ y, y ∈ (rtTurn h0 here s p).1 → y ∈ s.1 ∨ y ∈ (rtTurn h0 here s p).2) ∧ (thingsM (togM here p) = thingsM h0 → togM here p ∈ (rtTurn h0 here s p).1) := by
  unfold rtTurn
  split
  · refine ⟨fun y h => List.mem_append_left _ h, fun y h => List.mem_append_left _ h, fun y h => ?_, fun _ => List.mem_append_right _ (List.mem_singleton.mpr rfl)⟩
    rcases List.mem_append.mp h with h | h
    · exact .inl h
    · exact .inr (List.mem_append_right _ h)
  · rename_i hb
    refine ⟨fun _ h => h, fun _ h => h, fun _ h => .inl h, fun e => ?_⟩
    unfold rtTest at hb
    rw [Bool.and_eq_true, Bool.not_eq_true', not_and] at hb
    have hb2 : hasB (togM here p) s.1 = true := by
      cases z : hasB (togM here p) s.1 with
      | true => rfl
      | false => exact absurd ((bqL_iff _ _).mpr e) (hb z)
    exact (hasB_iff _ _).mp hb2
theorem here_met {h0 here : Hs} : ∀ (l : List (List Nat)) (s : List Hs × List Hs), (∀ y, y ∈ s.1 → y ∈ (l.foldl (rtTurn h0 here) s).1) ∧ (∀ y, y ∈ s.2 → y ∈ (l.foldl (rtTurn h0 here) s).2) ∧ (∀ y, y ∈ (l.foldl (rtTurn h0 here) s).1 → y ∈ s.1 ∨ y ∈ (l.foldl (rtTurn h0 here) s).2) ∧
    ∀ p ∈ l, thingsM (togM here p) = thingsM h0 → togM here p ∈ (l.foldl (rtTurn h0 here) s).1
  | [], s => ⟨fun _ h => h, fun _ h => h, fun _ h => .inl h, fun _ h => (List.not_mem_nil h).elim⟩
  | p :: l, s => by
    obtain ⟨a1, a2, a3, a4⟩ := turn_met (h0 := h0) (here := here) (s := s) p
    obtain ⟨b1, b2, b3, b4⟩ := here_met l (rtTurn h0 here s p)
    refine ⟨fun y h => b1 y (a1 y h), fun y h => b2 y (a2 y h), fun y h => ?_, fun q hq e => ?_⟩
    · rcases b3 y h with h | h
      · rcases a3 y h with h | h
        · exact .inl h
        · exact .inr (b2 y h)
      · exact .inr h
    · rcases List.mem_cons.mp hq with rfl | hq
      · exact b1 _ (a4 e)
      · exact b4 q hq e
theorem heres_met {h0 : Hs} : ∀ (l : List Hs) (s : List Hs × List Hs), (∀ y, y ∈ s.1 → y ∈ (l.foldl (rtHere h0) s).1) ∧ (∀ y, y ∈ s.2 → y ∈ (l.foldl (rtHere h0) s).2) ∧ (∀ y, y ∈ (l.foldl (rtHere h0) s).1 → y ∈ s.1 ∨ y ∈ (l.foldl (rtHere h0) s).2) ∧
    ∀ x ∈ l, ∀ p, Good h0 x p → togM x p ∈ (l.foldl (rtHere h0) s).1
  | [], s => ⟨fun _ h => h, fun _ h => h, fun _ h => .inl h, fun _ h => (List.not_mem_nil h).elim⟩
  | x :: l, s => by
    obtain ⟨a1, a2, a3, a4⟩ := here_met (h0 := h0) (here := x) (choicesM h0.length) s
    obtain ⟨b1, b2, b3, b4⟩ := heres_met l (rtHere h0 s x)
    refine ⟨fun y h => b1 y (a1 y h), fun y h => b2 y (a2 y h), fun y h => ?_, fun q hq p g => ?_⟩
    · rcases b3 y h with h | h
      · rcases a3 y h with h | h
        · exact .inl h
        · exact .inr (b2 y h)
      · exact .inr h
    · rcases List.mem_cons.mp hq with rfl | hq
      · exact b1 _ (a4 p g.1 g.2)
      · exact b4 q hq p g
theorem met_last (h : Hs) : ∀ (k : Nat) (y : Hs), y ∈ (rtAt h k).2 → ∃ j ≤ k, y ∈ (rtAt h j).1
  | 0, y, hy => ⟨0, Nat.le_refl _, hy⟩
  | k + 1, y, hy => by
    obtain ⟨_, _, b3, _⟩ := heres_met (h0 := h) (rtAt h k).1 ((rtAt h k).2, [])
    rcases b3 y hy with q | q
    · obtain ⟨j, hj, m⟩ := met_last h k y q
      exact ⟨j, Nat.le_succ_of_le hj, m⟩
    · exact ⟨k + 1, Nat.le_refl _, q⟩
/-- calls one by one -/
def callAll (x : Hs) (ps : List (List Nat)) : Hs := ps.foldl togM x
inductive Path (h0 : Hs) : Hs → List (List Nat) → Prop
  | nil (x : Hs) : Path h0 x []
  | cons {x : Hs} {p : List Nat} {ps : List (List Nat)} : Good h0 x p → Path h0 (togM x p) ps → Path h0 x (p :: ps)
theorem path_last {h0 : Hs} : ∀ {ps : List (List Nat)} {x : Hs} {k : Nat}, Path h0 x ps → (∃ j ≤ k, x ∈ (rtAt h0 j).1) → ∃ j ≤ k + ps.length, callAll x ps ∈ (rtAt h0 j).1
  | _, x, k, .nil _, ⟨j, hj, m⟩ => ⟨j, hj, m⟩
  | _, x, k, @Path.cons _ _ p ps g t, ⟨j, hj, m⟩ => by
    obtain ⟨_, _, _, b4⟩ := heres_met (h0 := h0) (rtAt h0 j).1 ((rtAt h0 j).2, [])
    have hm : togM x p ∈ (rtAt h0 (j + 1)).2 := b4 x m p g
    obtain ⟨i, hi, mi⟩ := met_last h0 (j + 1) _ hm
    obtain ⟨r, hr, mr⟩ := path_last (k := k + 1) t ⟨i, by omega, mi⟩
    exact ⟨r, by rw [List.length_cons]; omega, mr⟩
theorem rounds_le {h : Hs} {ps : List (List Nat)} (g : Path h h ps) (e : endM (callAll h ps) = true) : ∃ j ≤ ps.length, rtEnd h j = true := by
  obtain ⟨j, hj, m⟩ := path_last (k := 0) g ⟨0, Nat.le_refl _, List.mem_singleton.mpr rfl⟩
  refine ⟨j, by omega, ?_⟩
  unfold rtEnd
  rw [List.any_eq_true]
  exact ⟨true, List.mem_map.mpr ⟨_, m, e⟩, rfl⟩
theorem roundsM_le {h : Hs} {k : Nat} (hk : k ≤ 4) (e : ∃ j ≤ k, rtEnd h j = true) : roundsM h ≤ k := by
  obtain ⟨j, hj, e⟩ := e
  unfold roundsM
  cases z : (List.range 5).find? (rtEnd h) with
  | none =>
    have := List.find?_eq_none.mp z j (List.mem_range.mpr (by omega))
    exact absurd e this
  | some i =>
    show i ≤ k
    rw [List.find?_eq_some_iff_getElem] at z
    obtain ⟨_, i', hi', e1, e2⟩ := z
    rw [List.getElem_range] at e1
    subst e1
    by_cases q : i' ≤ j
    · omega
    · have := e2 j (by omega)
      rw [List.getElem_range, e] at this
      cases this
/-! ### a call -/
/-- whose t is it -/
def hasT (x : Hs) (a t : Nat) : Prop := t ∈ x.getD a []
theorem share_iff (x : Hs) (a b : Nat) : shareM x a b = true ↔ ∃ t, hasT x a t ∧ hasT x b t := by
  unfold shareM hasT
  rw [List.any_eq_true]
  constructor
  · rintro ⟨c, hc, e⟩
    obtain ⟨t, ht, rfl⟩ := List.mem_map.mp hc
    exact ⟨t, ht, by simpa using e⟩
  · rintro ⟨t, h1, h2⟩
    exact ⟨_, List.mem_map.mpr ⟨t, h1, rfl⟩, by simpa using h2⟩
theorem holders_iff (x : Hs) (t p : Nat) : p ∈ holdersM x t ↔ p < x.length ∧ hasT x p t := by
  rw [holders_eq, List.mem_filter, List.mem_range]
  unfold hasT
  simp
theorem has_lt {x : Hs} {a t : Nat} (h : hasT x a t) : a < x.length := by
  unfold hasT at h
  by_cases e : a < x.length
  · exact e
  · rw [List.getD_eq_getElem?_getD, List.getElem?_eq_none (by omega)] at h
    exact (List.not_mem_nil h).elim
theorem spare_iff (x : Hs) (a t : Nat) : t ∈ spareM x a ↔ hasT x a t ∧ ∃ b, b ≠ a ∧ hasT x b t := by
  unfold spareM
  rw [List.mem_filter, decide_eq_true_eq]
  refine and_congr_right fun h => ?_
  have ha : a ∈ holdersM x t := (holders_iff x t a).mpr ⟨has_lt h, h⟩
  have nd : (holdersM x t).Nodup := by
    rw [holders_eq]
    exact List.Pairwise.filter _ List.nodup_range
  constructor
  · intro hl
    match hd : holdersM x t, hl, ha, nd with
    | u :: v :: r, _, ha, nd =>
      by_cases e : u = a
      · refine ⟨v, fun z => ?_, ((holders_iff x t v).mp (by rw [hd]; simp)).2⟩
        rw [z, ← e] at nd
        simp at nd
      · exact ⟨u, e, ((holders_iff x t u).mp (by rw [hd]; simp)).2⟩
    | [u], hl, _, _ => simp at hl
  · rintro ⟨b, hb, q⟩
    have hbm : b ∈ holdersM x t := (holders_iff x t b).mpr ⟨has_lt q, q⟩
    match hd : holdersM x t, ha, hbm with
    | [u], ha, hbm =>
      rw [List.mem_singleton] at ha hbm
      exact absurd (hbm.trans ha.symm) hb
    | u :: v :: r, _, _ => simp
theorem tog_at (x : Hs) (p : List Nat) (a t : Nat) : hasT (togM x p) a t ↔ hasT x a t ∧ ¬ (a ∈ p ∧ ∃ b, b ≠ a ∧ hasT x b t) := by
  unfold hasT togM
  rw [enumL_eq, List.map_map, List.getD_eq_getElem?_getD, List.getElem?_map]
  by_cases e : a < x.length
  · rw [List.getElem?_range e]
    show t ∈ (List.filter _ (x.getD a [])) ↔ _
    rw [List.mem_filter]
    refine and_congr_right fun h => ?_
    show (!(if p.contains a = true then spareM x a else []).contains t) = true ↔ _
    rw [Bool.not_eq_true', ← Bool.not_eq_true, List.contains_iff_mem]
    refine not_congr ?_
    by_cases c : a ∈ p
    · rw [if_pos (by simpa using c)]
      rw [spare_iff]
      exact ⟨fun z => ⟨c, z.2⟩, fun z => ⟨h, z.2⟩⟩
    · rw [if_neg (by simpa using c)]
      exact ⟨fun z => (List.not_mem_nil z).elim, fun z => absurd z.1 c⟩
  · rw [List.getElem?_eq_none (by rw [List.length_range]; omega)]
    have : x.getD a [] = [] := by rw [List.getD_eq_getElem?_getD, List.getElem?_eq_none (by omega)]; rfl
    rw [this]
    simp
theorem things_iff (x : Hs) (t : Nat) : t ∈ thingsM x ↔ t < 8 ∧ ∃ a, hasT x a t := by
  unfold thingsM sset
  rw [List.mem_filter, List.mem_range, List.contains_iff_mem, List.mem_flatten]
  refine and_congr_right fun _ => ?_
  unfold hasT
  constructor
  · rintro ⟨l, hl, ht⟩
    obtain ⟨i, hi, e⟩ := List.getElem_of_mem hl
    exact ⟨i, by rw [List.getD_eq_getElem?_getD, List.getElem?_eq_getElem hi, e]; exact ht⟩
  · rintro ⟨a, h⟩
    have := has_lt (x := x) (a := a) (t := t) h
    rw [List.getD_eq_getElem?_getD, List.getElem?_eq_getElem this] at h
    exact ⟨_, List.getElem_mem _, h⟩
theorem things_same {x y : Hs} (h : ∀ t, (∃ a, hasT x a t) ↔ ∃ a, hasT y a t) : thingsM x = thingsM y := by
  unfold thingsM sset
  refine List.filter_congr fun t ht => ?_
  have h1 := things_iff x t
  have h2 := things_iff y t
  unfold thingsM sset at h1 h2
  rw [List.mem_filter] at h1 h2
  rw [Bool.eq_iff_iff]
  constructor
  · intro q
    exact (h2.mpr ⟨List.mem_range.mp ht, (h t).mp (h1.mp ⟨ht, q⟩).2⟩).2
  · intro q
    exact (h1.mpr ⟨List.mem_range.mp ht, (h t).mpr (h2.mp ⟨ht, q⟩).2⟩).2
theorem allP_mem (n a b : Nat) : (a, b) ∈ allP n ↔ a < b ∧ b < n := by
  unfold allP
  rw [List.mem_flatMap]
  constructor
  · rintro ⟨c, hc, h⟩
    obtain ⟨d, hd, e⟩ := List.mem_map.mp h
    cases e
    rw [List.mem_range'_1] at hd
    rw [List.mem_range] at hc
    omega
  · rintro ⟨h1, h2⟩
    exact ⟨a, List.mem_range.mpr (by omega), List.mem_map.mpr ⟨b, by rw [List.mem_range'_1]; omega, rfl⟩⟩
theorem pairs_iff (x : Hs) (a b : Nat) : (a, b) ∈ pairsM x ↔ a < b ∧ ∃ t, hasT x a t ∧ hasT x b t := by
  rw [pairs_filter, List.mem_filter, allP_mem, share_iff]
  constructor
  · rintro ⟨⟨h1, _⟩, h2⟩
    exact ⟨h1, h2⟩
  · rintro ⟨h1, t, h2, h3⟩
    exact ⟨⟨h1, has_lt h3⟩, t, h2, h3⟩
theorem end_iff (x : Hs) : endM x = true ↔ ∀ a b t, a ≠ b → hasT x a t → ¬ hasT x b t := by
  unfold endM
  rw [bqL_iff]
  constructor
  · intro e a b t n h1 h2
    have nn : ∀ z, z ∉ pairsM x := fun z => by rw [e]; exact List.not_mem_nil
    by_cases l : a < b
    · exact nn _ ((pairs_iff x a b).mpr ⟨l, t, h1, h2⟩)
    · exact nn _ ((pairs_iff x b a).mpr ⟨by omega, t, h2, h1⟩)
  · intro h
    cases e : pairsM x with
    | nil => rfl
    | cons z zs =>
      obtain ⟨h1, t, h2, h3⟩ := (pairs_iff x z.1 z.2).mp (by rw [e]; exact List.mem_cons_self)
      exact absurd h3 (h z.1 z.2 t (by omega) h2)
/-- no two of p share anything -/
def Indep (h : Hs) (p : List Nat) : Prop := ∀ a ∈ p, ∀ b ∈ p, ∀ t, a ≠ b → hasT h a t → ¬ hasT h b t
/-- what holds behind calls: less is held, nothing is lost, those of D share nothing -/
structure Mid (h x : Hs) (D : List Nat) : Prop where
  sub : ∀ a t, hasT x a t → hasT h a t
  all : ∀ t, (∃ a, hasT h a t) → ∃ a, hasT x a t
  out : ∀ a ∈ D, ∀ b t, a ≠ b → hasT x a t → ¬ hasT x b t
theorem mid_step {h x : Hs} {D p : List Nat} (m : Mid h x D) (ip : Indep h p) : Mid h (togM x p) (D ++ p) := by
  refine ⟨fun a t q => m.sub a t ((tog_at x p a t).mp q).1, fun t q => ?_, fun a ha b t n h1 h2 => ?_⟩
  · obtain ⟨a, qa⟩ := m.all t q
    by_cases c : a ∈ p ∧ ∃ b, b ≠ a ∧ hasT x b t
    · obtain ⟨ca, b, nb, qb⟩ := c
      refine ⟨b, (tog_at x p b t).mpr ⟨qb, fun z => ?_⟩⟩
      exact ip a ca b z.1 t (Ne.symm nb) (m.sub a t qa) (m.sub b t qb)
    · exact ⟨a, (tog_at x p a t).mpr ⟨qa, c⟩⟩
  · obtain ⟨g1, g2⟩ := (tog_at x p a t).mp h1
    obtain ⟨g3, g4⟩ := (tog_at x p b t).mp h2
    rcases List.mem_append.mp ha with ha | ha
    · exact m.out a ha b t n g1 g3
    · exact g2 ⟨ha, b, Ne.symm n, g3⟩
theorem mid_path {h : Hs} : ∀ (ps : List (List Nat)) (x : Hs) (D : List Nat), Mid h x D → (∀ p ∈ ps, p ∈ choicesM h.length ∧ Indep h p) → Path h x ps ∧ Mid h (callAll x ps) (D ++ ps.flatten)
  | [], x, D, m, _ => ⟨.nil x, by simpa [callAll] using m⟩
  | p :: ps, x, D, m, g => by
    have m2 := mid_step m (g p List.mem_cons_self).2
    obtain ⟨a, b⟩ := mid_path ps (togM x p) (D ++ p) m2 fun q hq => g q (List.mem_cons_of_mem _ hq)
    refine ⟨.cons ⟨(g p List.mem_cons_self).1, things_same fun t => ⟨fun ⟨c, hc⟩ => ⟨c, m2.sub c t hc⟩, fun q => m2.all t q⟩⟩ a, ?_⟩
    rw [List.flatten_cons, ← List.append_assoc]
    exact b
/-- calls of lists that share nothing within, and that cover every pair -/
theorem rounds_by {h : Hs} {ps : List (List Nat)} (g : ∀ p ∈ ps, p ∈ choicesM h.length ∧ Indep h p) (c : ∀ z ∈ pairsM h, z.1 ∈ ps.flatten ∨ z.2 ∈ ps.flatten) : ∃ j ≤ ps.length, rtEnd h j = true := by
  obtain ⟨a, m⟩ := mid_path ps h [] ⟨fun _ _ q => q, fun _ q => q, fun a ha => (List.not_mem_nil ha).elim⟩ g
  rw [List.nil_append] at m
  refine rounds_le a ((end_iff _).mpr fun a b t n h1 h2 => ?_)
  have key : ∀ a b, a < b → hasT (callAll h ps) a t → hasT (callAll h ps) b t → False := fun a b l h1 h2 => by
    rcases c (a, b) ((pairs_iff h a b).mpr ⟨l, t, m.sub a t h1, m.sub b t h2⟩) with q | q
    · exact m.out a q b t (by omega) h1 h2
    · exact m.out b q a t (by omega) h2 h1
  by_cases l : a < b
  · exact key a b l h1 h2
  · exact key b a (by omega) h2 h1
/-! ### the two ways -/
theorem single_choice : ∀ n, ∀ p < n, [p] ∈ choicesM n
  | 0, _, h => (Nat.not_lt_zero _ h).elim
  | n + 1, p, h => by
    rw [choices_step]
    by_cases e : p < n
    · exact List.mem_append_left _ (single_choice n p e)
    · have : p = n := by omega
      subst this
      obtain ⟨r, h1, _⟩ := choices_shape p
      exact List.mem_append_right _ (List.mem_map.mpr ⟨[], by rw [h1]; exact List.mem_cons_self, rfl⟩)
theorem filter_choice (f : Nat → Bool) : ∀ n, (List.range n).filter f ∈ choicesM n
  | 0 => by simp [choicesM]
  | n + 1 => by
    have ih := filter_choice f n
    rw [choices_step, List.range_succ, List.filter_append]
    by_cases e : f n = true
    · rw [show List.filter f [n] = [n] from by simp [e]]
      exact List.mem_append_right _ (List.mem_map.mpr ⟨_, ih, rfl⟩)
    · rw [show List.filter f [n] = [] from by simp [e], List.append_nil]
      exact List.mem_append_left _ ih
theorem cover_iff (E : Gr) (p : List Nat) : coverM E p = true ↔ ∀ z ∈ E, z.1 ∈ p ∨ z.2 ∈ p := by
  unfold coverM
  rw [List.all_eq_true]
  constructor
  · intro h z hz
    have := h _ (List.mem_map.mpr ⟨z, hz, rfl⟩)
    simpa using this
  · intro h b hb
    obtain ⟨z, hz, rfl⟩ := List.mem_map.mp hb
    have := h z hz
    simpa using this
theorem rounds_few {h : Hs} (o : HOk h) : ∃ j ≤ callsM h.length (pairsM h), rtEnd h j = true := by
  have g := pairsM_ok o
  have lm := getD_mem ([] : List Nat) (least_ne g)
  have hc := (covers_mem _).mp (leastOf_len lm).1
  have := rounds_by (h := h) (ps := ((leastM h.length (pairsM h)).getD 0 []).map fun q => [q]) (fun p hp => ?_) (fun z hz => ?_)
  · rw [List.length_map] at this
    exact this
  · obtain ⟨q, hq, rfl⟩ := List.mem_map.mp hp
    refine ⟨single_choice _ q (choices_lt _ _ hc.1 q hq), fun a ha b hb t n => ?_⟩
    rw [List.mem_singleton] at ha hb
    exact absurd (ha.trans hb.symm) n
  · have e : (((leastM h.length (pairsM h)).getD 0 []).map fun q => [q]).flatten = (leastM h.length (pairsM h)).getD 0 [] := by
      generalize (leastM h.length (pairsM h)).getD 0 [] = l
      induction l with
      | nil => rfl
      | cons a l ih => rw [List.map_cons, List.flatten_cons, ih]; rfl
    rw [e]
    exact (cover_iff _ _).mp hc.2 z hz
theorem rounds_four {h : Hs} (o : HOk h) : ∃ k ≤ 4, rtEnd h k = true := by
  obtain ⟨j, hj, e⟩ := rounds_few o
  have := calls_lt (pairsM_ok o)
  have := o.n5
  exact ⟨j, by omega, e⟩
theorem rounds_le_few {h : Hs} (o : HOk h) : roundsM h ≤ callsM h.length (pairsM h) := by
  have := calls_lt (pairsM_ok o)
  have := o.n5
  exact roundsM_le (by omega) (rounds_few o)
/-- a colouring's rows -/
structure ColOk (E : Gr) (many k : Nat) (r : List Nat) : Prop where
  len : r.length = k
  lt : ∀ c ∈ r, c < many
  ok : ∀ z ∈ E, z.1 < z.2 → z.2 < k → r.getD z.1 0 ≠ r.getD z.2 0
theorem col_good {n : Nat} {E : Gr} (many : Nat) : ∀ k, ∀ r ∈ (List.range k).foldl (colStep E many) [[]], ColOk E many k r
  | 0, r, h => by
    have : r = [] := by simpa using h
    subst this
    exact ⟨rfl, fun c h => (List.not_mem_nil h).elim, fun z _ _ h => (Nat.not_lt_zero _ h).elim⟩
  | k + 1, r, h => by
    rw [List.range_succ, List.foldl_append] at h
    obtain ⟨q, hq, h⟩ := List.mem_flatMap.mp (show r ∈ ((List.range k).foldl (colStep E many) [[]]).flatMap _ from h)
    obtain ⟨c, hc, rfl⟩ := List.mem_map.mp h
    obtain ⟨hc1, hc2⟩ := List.mem_filter.mp hc
    have ih := col_good (n := n) many k q hq
    refine ⟨by rw [List.length_append, ih.len]; rfl, fun d hd => ?_, fun z hz l1 l2 => ?_⟩
    · rcases List.mem_append.mp hd with hd | hd
      · exact ih.lt d hd
      · rw [List.mem_singleton.mp hd]; exact List.mem_range.mp hc1
    · by_cases e : z.2 < k
      · have e1 : (q ++ [c]).getD z.1 0 = q.getD z.1 0 := by
          rw [List.getD_eq_getElem?_getD, List.getD_eq_getElem?_getD, List.getElem?_append_left (by rw [ih.len]; omega)]
        have e2 : (q ++ [c]).getD z.2 0 = q.getD z.2 0 := by
          rw [List.getD_eq_getElem?_getD, List.getD_eq_getElem?_getD, List.getElem?_append_left (by rw [ih.len]; omega)]
        rw [e1, e2]
        exact ih.ok z hz l1 e
      · have ek : z.2 = k := by omega
        have e1 : (q ++ [c]).getD z.1 0 = q.getD z.1 0 := by
          rw [List.getD_eq_getElem?_getD, List.getD_eq_getElem?_getD, List.getElem?_append_left (by rw [ih.len]; omega)]
        have e2 : (q ++ [c]).getD z.2 0 = c := by
          rw [List.getD_eq_getElem?_getD, List.getElem?_append_right (by rw [ih.len]; omega), ih.len, ek]
          simp
        rw [e1, e2]
        unfold colOk at hc2
        rw [List.all_eq_true] at hc2
        have := hc2 _ (List.mem_map.mpr ⟨z, List.mem_filter.mpr ⟨hz, by simpa using ek⟩, rfl⟩)
        simpa using this
theorem colFrom_good {n : Nat} {E : Gr} : ∀ (f m : Nat), colM n E (m + f) ≠ [] → colM n E (colFrom n E f m) ≠ []
  | 0, m, h => by simpa [colFrom] using h
  | f + 1, m, h => by
    unfold colFrom
    by_cases e : (colM n E m).isEmpty = true
    · rw [if_pos e]
      exact colFrom_good f (m + 1) (by rw [show m + 1 + f = m + (f + 1) by omega]; exact h)
    · rw [if_neg e]
      simpa using e
theorem colFrom_le {n : Nat} {E : Gr} : ∀ (f m k : Nat), m ≤ k → k ≤ m + f → colM n E k ≠ [] → m ≤ colFrom n E f m ∧ colFrom n E f m ≤ k
  | 0, m, k, h1, h2, _ => ⟨Nat.le_refl _, h1⟩
  | f + 1, m, k, h1, h2, h => by
    unfold colFrom
    by_cases e : (colM n E m).isEmpty = true
    · rw [if_pos e]
      have : m ≠ k := fun z => by
        subst z
        exact h (by simpa using e)
      obtain ⟨a, b⟩ := colFrom_le f (m + 1) k (by omega) (by omega) h
      exact ⟨by omega, b⟩
    · rw [if_neg e]
      exact ⟨Nat.le_refl _, h1⟩
theorem col_up {n : Nat} {E : Gr} {a b : Nat} (h : a ≤ b) : colM n E a ≠ [] → colM n E b ≠ [] := by
  have key : ∀ k r, r ∈ (List.range k).foldl (colStep E a) [[]] → r ∈ (List.range k).foldl (colStep E b) [[]] := fun k => by
    induction k with
    | zero => intro r h; exact h
    | succ k ih =>
      intro r hr
      rw [List.range_succ, List.foldl_append] at hr ⊢
      obtain ⟨q, hq, hr⟩ := List.mem_flatMap.mp (show r ∈ ((List.range k).foldl (colStep E a) [[]]).flatMap _ from hr)
      obtain ⟨c, hc, rfl⟩ := List.mem_map.mp hr
      obtain ⟨hc1, hc2⟩ := List.mem_filter.mp hc
      exact List.mem_flatMap.mpr ⟨q, ih q hq, List.mem_map.mpr ⟨c, List.mem_filter.mpr ⟨List.mem_range.mpr (Nat.lt_of_lt_of_le (List.mem_range.mp hc1) h), hc2⟩, rfl⟩⟩
  intro ne z
  match hx : colM n E a, ne with
  | x :: xs, _ =>
    have := key n x (show x ∈ colM n E a by rw [hx]; exact List.mem_cons_self)
    rw [show (List.range n).foldl (colStep E b) [[]] = [] from z] at this
    exact List.not_mem_nil this
theorem colours_ok {n : Nat} {E : Gr} (g : GOk n E) : 1 ≤ coloursM n E ∧ coloursM n E ≤ n ∧ colM n E (coloursM n E) ≠ [] := by
  have h1 := col_ne g
  have n1 := g.n1
  obtain ⟨a, b⟩ := colFrom_le (n := n) (E := E) n 1 n n1 (by omega) h1
  exact ⟨a, b, colFrom_good n 1 (col_up (by omega) h1)⟩
theorem rounds_le_col {h : Hs} (o : HOk h) : roundsM h + 1 ≤ coloursM h.length (pairsM h) := by
  have g := pairsM_ok o
  obtain ⟨c1, cn, cne⟩ := colours_ok g
  have n5 := o.n5
  match hx : colM h.length (pairsM h) (coloursM h.length (pairsM h)), cne with
  | r :: rs, _ =>
    have col := col_good (n := h.length) (E := pairsM h) (coloursM h.length (pairsM h)) h.length r (show r ∈ colM h.length (pairsM h) _ by rw [hx]; exact List.mem_cons_self)
    generalize coloursM h.length (pairsM h) = q at c1 cn col
    have ps := rounds_by (h := h) (ps := (List.range (q - 1)).map fun c => (List.range h.length).filter fun a => r.getD a 0 == c) (fun p hp => ?_) (fun z hz => ?_)
    · rw [List.length_map, List.length_range] at ps
      have := roundsM_le (k := q - 1) (by omega) ps
      omega
    · obtain ⟨c, hc, rfl⟩ := List.mem_map.mp hp
      refine ⟨filter_choice _ _, fun a ha b hb t n h1 h2 => ?_⟩
      have ea : r.getD a 0 = c := by simpa using (List.mem_filter.mp ha).2
      have eb : r.getD b 0 = c := by simpa using (List.mem_filter.mp hb).2
      have key : ∀ a b, a < b → hasT h a t → hasT h b t → r.getD a 0 ≠ r.getD b 0 := fun a b l h1 h2 => col.ok (a, b) ((pairs_iff h a b).mpr ⟨l, t, h1, h2⟩) l (has_lt h2)
      by_cases l : a < b
      · exact key a b l h1 h2 (ea.trans eb.symm)
      · exact key b a (by omega) h2 h1 (eb.trans ea.symm)
    · obtain ⟨l, t, h1, h2⟩ := (pairs_iff h z.1 z.2).mp hz
      have ne := col.ok z hz l (has_lt h2)
      have lt : ∀ a, a < h.length → r.getD a 0 < q := fun a ha => by
        rw [List.getD_eq_getElem?_getD, List.getElem?_eq_getElem (by rw [col.len]; exact ha)]
        exact col.lt _ (List.getElem_mem _)
      have q1 := lt _ (has_lt h1)
      have q2 := lt _ (has_lt h2)
      have inn : ∀ a, a < h.length → r.getD a 0 < q - 1 → a ∈ ((List.range (q - 1)).map fun c => (List.range h.length).filter fun a => r.getD a 0 == c).flatten := fun a ha hl =>
        List.mem_flatten.mpr ⟨_, List.mem_map.mpr ⟨r.getD a 0, List.mem_range.mpr hl, rfl⟩, List.mem_filter.mpr ⟨List.mem_range.mpr ha, by simp⟩⟩
      by_cases e : r.getD z.1 0 < q - 1
      · exact .inl (inn _ (has_lt h1) e)
      · exact .inr (inn _ (has_lt h2) (by omega))
end L2.LX
/-! PC: how many ends there are. -/
namespace L2.LX
open PySem PySem.Spec PyProof.Rows PySem.W
/-! ### rings -/
theorem free_iff (S : Gr) (left : List Nat) (p : Nat) : p ∈ ringFree S left ↔ p ∈ left ∧ ∀ z ∈ S, z.2 = p → z.1 ∉ left := by
  unfold ringFree
  rw [List.mem_filter]
  refine and_congr_right fun _ => ?_
  rw [Bool.not_eq_true', ← Bool.not_eq_true, List.any_eq_true]
  constructor
  · intro h z hz e m
    exact h ⟨true, List.mem_map.mpr ⟨z, hz, by simp [e, m]⟩, rfl⟩
  · rintro h ⟨b, hb, e⟩
    obtain ⟨z, hz, rfl⟩ := List.mem_map.mp hb
    have e2 : (z.2 == p && left.contains z.1) = true := e
    rw [Bool.and_eq_true, beq_iff_eq, List.contains_iff_mem] at e2
    exact h z hz e2.1 e2.2
theorem step_iff (S : Gr) (left : List Nat) (p : Nat) : p ∈ ringStep S left ↔ p ∈ left ∧ p ∉ ringFree S left := by
  unfold ringStep
  rw [List.mem_filter, Bool.not_eq_true', ← Bool.not_eq_true, List.contains_iff_mem]
theorem least_rank (r : Nat → Nat) : ∀ {l : List Nat}, l ≠ [] → ∃ p ∈ l, ∀ q ∈ l, r p ≤ r q
  | [], h => absurd rfl h
  | [x], _ => ⟨x, List.mem_cons_self, fun q hq => by rw [List.mem_singleton.mp hq]; exact Nat.le_refl _⟩
  | x :: y :: l, _ => by
    obtain ⟨p, hp, m⟩ := least_rank r (l := y :: l) (by simp)
    by_cases e : r x ≤ r p
    · exact ⟨x, List.mem_cons_self, fun q hq => by
        rcases List.mem_cons.mp hq with rfl | hq
        · exact Nat.le_refl _
        · exact Nat.le_trans e (m q hq)⟩
    · exact ⟨p, List.mem_cons_of_mem _ hp, fun q hq => by
        rcases List.mem_cons.mp hq with rfl | hq
        · omega
        · exact m q hq⟩
/-- what climbs has no ring -/
theorem no_ring {S : Gr} (r : Nat → Nat) (h : ∀ z ∈ S, r z.1 < r z.2) : ∀ (f : Nat) (left : List Nat), ringF S f left = false
  | 0, _ => rfl
  | f + 1, left => by
    unfold ringF
    split
    · rfl
    · rename_i hne
      have ne : left ≠ [] := by simpa using hne
      obtain ⟨p, hp, m⟩ := least_rank r ne
      have pf : p ∈ ringFree S left := (free_iff S left p).mpr ⟨hp, fun z hz e q => by
        have h1 := h z hz
        have h2 := m _ q
        rw [e] at h1
        omega⟩
      split
      · rename_i he
        rw [List.isEmpty_iff.mp he] at pf
        exact (List.not_mem_nil pf).elim
      · exact no_ring r h f _
/-- what has no ring climbs -/
theorem ranks {S : Gr} : ∀ (f : Nat) (left : List Nat), left.length < f → ringF S f left = false → ∃ r : Nat → Nat, ∀ z ∈ S, z.1 ∈ left → z.2 ∈ left → r z.1 < r z.2
  | 0, _, h, _ => (Nat.not_lt_zero _ h).elim
  | f + 1, left, hl, hf => by
    unfold ringF at hf
    split at hf
    · rename_i he
      refine ⟨fun _ => 0, fun z hz m => ?_⟩
      rw [List.isEmpty_iff.mp he] at m
      exact (List.not_mem_nil m).elim
    · split at hf
      · cases hf
      · rename_i hne2
        have ne2 : ringFree S left ≠ [] := by simpa using hne2
        have lt := ringStep_lt ne2
        obtain ⟨r, hr⟩ := ranks f (ringStep S left) (by omega) hf
        refine ⟨fun x => if x ∈ ringFree S left then 0 else r x + 1, fun z hz m1 m2 => ?_⟩
        have nf : z.2 ∉ ringFree S left := fun q => ((free_iff S left z.2).mp q).2 z hz rfl m1
        show (if z.1 ∈ ringFree S left then 0 else r z.1 + 1) < (if z.2 ∈ ringFree S left then 0 else r z.2 + 1)
        rw [if_neg nf]
        by_cases e : z.1 ∈ ringFree S left
        · rw [if_pos e]; exact Nat.succ_pos _
        · rw [if_neg e]
          have := hr z hz ((step_iff S left z.1).mpr ⟨m1, e⟩) ((step_iff S left z.2).mpr ⟨m2, nf⟩)
          omega
theorem ring_ranks {S : Gr} (h8 : ∀ z ∈ S, z.1 < 8 ∧ z.2 < 8) (h : ringM S = false) : ∃ r : Nat → Nat, ∀ z ∈ S, r z.1 < r z.2 := by
  obtain ⟨r, hr⟩ := ranks _ _ (Nat.lt_succ_self _) h
  have inn : ∀ z ∈ S, z.1 ∈ ringL S ∧ z.2 ∈ ringL S := fun z hz => by
    unfold ringL sset
    refine ⟨List.mem_filter.mpr ⟨List.mem_range.mpr (h8 z hz).1, ?_⟩, List.mem_filter.mpr ⟨List.mem_range.mpr (h8 z hz).2, ?_⟩⟩
    · rw [List.contains_iff_mem, List.mem_flatten]
      exact ⟨_, List.mem_map.mpr ⟨z, hz, rfl⟩, List.mem_cons_self⟩
    · rw [List.contains_iff_mem, List.mem_flatten]
      exact ⟨_, List.mem_map.mpr ⟨z, hz, rfl⟩, List.mem_cons_of_mem _ List.mem_cons_self⟩
  exact ⟨r, fun z hz => hr z hz (inn z hz).1 (inn z hz).2⟩
theorem steps_iff (h : Hs) (l : Gr) (z : Nat × Nat) : z ∈ stepsM h l ↔ ∃ x ∈ l, z.2 = x.2 ∧ z.1 ∈ holdersM h x.1 ∧ z.1 ≠ x.2 := by
  unfold stepsM
  rw [List.mem_flatMap]
  constructor
  · rintro ⟨x, hx, hz⟩
    obtain ⟨o, ho, rfl⟩ := List.mem_map.mp hz
    obtain ⟨h1, h2⟩ := List.mem_filter.mp ho
    exact ⟨x, hx, rfl, h1, by simpa using h2⟩
  · rintro ⟨x, hx, e1, e2, e3⟩
    exact ⟨x, hx, List.mem_map.mpr ⟨z.1, List.mem_filter.mpr ⟨e2, by simpa using e3⟩, by rw [← e1]⟩⟩
/-! ### the keepers -/
structure Ks (h : Hs) (ts : List Nat) (F : List KD) : Prop where
  each : ∀ k ∈ F, k.l.map Prod.fst = ts ∧ (∀ x ∈ k.l, x.2 ∈ holdersM h x.1) ∧ ringM (stepsM h k.l) = false
  apart : F.Pairwise fun k k' => k.l ≠ k'.l
theorem ks_one {h : Hs} {ts : List Nat} {F : List KD} (g : Ks h ts F) (t : Nat) : Ks h (ts ++ [t]) (keepStep h F t) := by
  refine ⟨fun k hk => ?_, ?_⟩
  · obtain ⟨k0, h0, hk⟩ := List.mem_flatMap.mp hk
    obtain ⟨p, hp, rfl⟩ := List.mem_map.mp hk
    obtain ⟨e1, e2, _⟩ := g.each k0 h0
    obtain ⟨p1, p2⟩ := List.mem_filter.mp hp
    refine ⟨by rw [List.map_append, e1]; rfl, fun x hx => ?_, by simpa using p2⟩
    rcases List.mem_append.mp hx with hx | hx
    · exact e2 x hx
    · rw [List.mem_singleton.mp hx]; exact p1
  · unfold keepStep
    rw [List.pairwise_flatMap]
    refine ⟨fun k _ => ?_, g.apart.imp fun {k k'} ne => ?_⟩
    · rw [List.pairwise_map]
      have nd : (holdersM h t).Nodup := by
        rw [holders_eq]
        exact List.Pairwise.filter _ List.nodup_range
      refine (List.Pairwise.filter _ nd).imp fun {p q} npq e => npq ?_
      have := (List.append_inj' e rfl).2
      injection this with this
      injection this
    · intro x hx y hy e
      obtain ⟨p, _, rfl⟩ := List.mem_map.mp hx
      obtain ⟨q, _, rfl⟩ := List.mem_map.mp hy
      exact ne (List.append_inj' e rfl).1
theorem ks_many {h : Hs} : ∀ (us : List Nat) {ts : List Nat} {F : List KD}, Ks h ts F → Ks h (ts ++ us) (us.foldl (keepStep h) F)
  | [], ts, F, g => by rw [List.append_nil]; exact g
  | u :: us, ts, F, g => by
    have := ks_many us (ks_one g u)
    rw [List.append_assoc] at this
    exact this
theorem keepers_ks (h : Hs) : Ks h (thingsM h) (keepersM h) := by
  have := ks_many (h := h) (thingsM h) (ts := []) (F := [KD.mk []]) ⟨fun k hk => ?_, List.pairwise_singleton _ _⟩
  · exact this
  · rw [List.mem_singleton.mp hk]
    exact ⟨rfl, fun x hx => (List.not_mem_nil hx).elim, no_ring (fun _ => 0) (fun z hz => by
      obtain ⟨x, hx, _⟩ := (steps_iff h [] z).mp hz
      exact (List.not_mem_nil hx).elim) _ _⟩
/-- the one of highest rank -/
def topR (r : Nat → Nat) : List Nat → Nat
  | [] => 0
  | [x] => x
  | x :: y :: l => if r x < r (topR r (y :: l)) then topR r (y :: l) else x
theorem topR_is (r : Nat → Nat) : ∀ {l : List Nat}, l ≠ [] → topR r l ∈ l ∧ ∀ q ∈ l, r q ≤ r (topR r l)
  | [], h => absurd rfl h
  | [x], _ => ⟨List.mem_cons_self, fun q hq => by rw [List.mem_singleton.mp hq]; exact Nat.le_refl _⟩
  | x :: y :: l, _ => by
    obtain ⟨h1, h2⟩ := topR_is r (l := y :: l) (by simp)
    unfold topR
    split
    · rename_i lt
      refine ⟨List.mem_cons_of_mem _ h1, fun q hq => ?_⟩
      rcases List.mem_cons.mp hq with rfl | hq
      · omega
      · exact h2 q hq
    · rename_i lt
      refine ⟨List.mem_cons_self, fun q hq => ?_⟩
      rcases List.mem_cons.mp hq with rfl | hq
      · exact Nat.le_refl _
      · have := h2 q hq
        omega
theorem things_held {h : Hs} {t : Nat} (m : t ∈ thingsM h) : holdersM h t ≠ [] := by
  obtain ⟨_, a, ha⟩ := (things_iff h t).mp m
  intro z
  have := (holders_iff h t a).mpr ⟨has_lt ha, ha⟩
  rw [z] at this
  exact List.not_mem_nil this
theorem rank_keeps {h : Hs} (r : Nat → Nat) (inj : ∀ a b, a < h.length → b < h.length → r a = r b → a = b) : ∀ (us ts : List Nat) (F : List KD), (∀ t ∈ ts ++ us, t ∈ thingsM h) → KD.mk (ts.map fun t => (t, topR r (holdersM h t))) ∈ F →
    KD.mk ((ts ++ us).map fun t => (t, topR r (holdersM h t))) ∈ us.foldl (keepStep h) F
  | [], ts, F, _, m => by rw [List.append_nil]; exact m
  | u :: us, ts, F, hall, m => by
    rw [List.foldl_cons]
    have e : ts ++ u :: us = (ts ++ [u]) ++ us := by rw [List.append_assoc]; rfl
    rw [e]
    rw [e] at hall
    refine rank_keeps r inj us (ts ++ [u]) _ hall ?_
    have all2 : ∀ t ∈ ts ++ [u], t ∈ thingsM h := fun t ht => hall t (List.mem_append_left _ ht)
    have hu := topR_is r (things_held (all2 u (List.mem_append_right _ List.mem_cons_self)))
    refine List.mem_flatMap.mpr ⟨_, m, List.mem_map.mpr ⟨topR r (holdersM h u), List.mem_filter.mpr ⟨hu.1, ?_⟩, ?_⟩⟩
    · rw [Bool.not_eq_true']
      refine no_ring r (fun z hz => ?_) _ _
      obtain ⟨x, hx, e1, e2, e3⟩ := (steps_iff h _ z).mp hz
      have hx2 : x ∈ (ts ++ [u]).map fun t => (t, topR r (holdersM h t)) := by
        rw [List.map_append]
        exact hx
      obtain ⟨t, ht, rfl⟩ := List.mem_map.mp hx2
      have tp := topR_is r (things_held (all2 t ht))
      rw [e1]
      refine Nat.lt_of_le_of_ne (tp.2 _ e2) fun q => e3 (inj _ _ (holders_lt e2) (holders_lt tp.1) q)
    · rw [List.map_append]
      rfl
theorem rank_keeper {h : Hs} (r : Nat → Nat) (inj : ∀ a b, a < h.length → b < h.length → r a = r b → a = b) : KD.mk ((thingsM h).map fun t => (t, topR r (holdersM h t))) ∈ keepersM h :=
  rank_keeps r inj (thingsM h) [] [KD.mk []] (fun t ht => ht) (List.mem_singleton.mpr rfl)
theorem ends_pos (h : Hs) : 1 ≤ (keepersM h).length := by
  have := rank_keeper (h := h) (fun p => p) fun a b _ _ e => e
  exact List.length_pos_of_mem this
theorem two_of {α : Type} {a b : α} : ∀ {l : List α}, a ∈ l → b ∈ l → a ≠ b → 2 ≤ l.length
  | [x], h1, h2, n => by
    rw [List.mem_singleton] at h1 h2
    exact absurd (h1.trans h2.symm) n
  | x :: y :: l, _, _, _ => by simp
theorem has_t8 {h : Hs} (o : HOk h) {a t : Nat} (q : hasT h a t) : t < 8 := by
  have l := has_lt q
  unfold hasT at q
  rw [List.getD_eq_getElem?_getD, List.getElem?_eq_getElem l] at q
  have := o.lo _ (List.getElem_mem l) t q
  omega
theorem ends_two {h : Hs} (o : HOk h) (e : endM h = false) : 2 ≤ (keepersM h).length := by
  have ne : pairsM h ≠ [] := fun z => by
    unfold endM at e
    rw [z] at e
    cases e
  match hx : pairsM h, ne with
  | z :: zs, _ =>
    obtain ⟨l, t, h1, h2⟩ := (pairs_iff h z.1 z.2).mp (by rw [hx]; exact List.mem_cons_self)
    have n1 := has_lt h1
    have n2 := has_lt h2
    -- t stands among the things, or it is none of the first eight
    have key : t < 8 → 2 ≤ (keepersM h).length := fun t8 => by
      have ht : t ∈ thingsM h := (things_iff h t).mpr ⟨t8, z.1, h1⟩
      have m1 := rank_keeper (h := h) (fun p => p) fun a b _ _ e => e
      have m2 := rank_keeper (h := h) (fun p => if p = z.1 then h.length else p) fun a b ha hb e => by
        have e' : (if a = z.1 then h.length else a) = (if b = z.1 then h.length else b) := e
        by_cases ea : a = z.1
        · by_cases eb : b = z.1
          · rw [ea, eb]
          · rw [if_pos ea, if_neg eb] at e'; omega
        · by_cases eb : b = z.1
          · rw [if_neg ea, if_pos eb] at e'; omega
          · rw [if_neg ea, if_neg eb] at e'; exact e'
      refine two_of m1 m2 fun q => ?_
      injection q with q
      have q2 := (List.map_inj_left.mp q) t ht
      injection q2 with _ q3
      have ha : z.1 ∈ holdersM h t := (holders_iff h t z.1).mpr ⟨n1, h1⟩
      have hb : z.2 ∈ holdersM h t := (holders_iff h t z.2).mpr ⟨n2, h2⟩
      have hne : holdersM h t ≠ [] := fun w => by rw [w] at ha; exact List.not_mem_nil ha
      have t1 := (topR_is (fun p => p) hne).2 _ hb
      have t2 := (topR_is (fun p => if p = z.1 then h.length else p) hne)
      rw [← q3] at t2
      have t3 := t2.2 _ ha
      have lt := holders_lt t2.1
      rw [if_pos rfl] at t3
      by_cases w : topR (fun p => p) (holdersM h t) = z.1
      · rw [w] at t1; omega
      · rw [if_neg w] at t3; omega
    exact key (has_t8 o h1)
/-! ### no more than there are orders -/
def listsN (n : Nat) : Nat → List (List Nat)
  | 0 => [[]]
  | k + 1 => (listsN n k).flatMap fun l => (List.range n).map fun x => x :: l
def ndB : List Nat → Bool
  | [] => true
  | x :: l => !l.contains x && ndB l
def permsN (n : Nat) : List (List Nat) := (listsN n n).filter ndB
def boundM (n : Nat) : Nat := (List.range n).foldl (fun w k => w * (k + 1)) 1
theorem perms_len : ∀ n ≤ 5, (permsN n).length = boundM n := by decide +kernel
theorem lists_mem (n : Nat) : ∀ l : List Nat, (∀ x ∈ l, x < n) → l ∈ listsN n l.length
  | [], _ => List.mem_singleton.mpr rfl
  | x :: l, h => List.mem_flatMap.mpr ⟨l, lists_mem n l fun y hy => h y (List.mem_cons_of_mem _ hy), List.mem_map.mpr ⟨x, List.mem_range.mpr (h x List.mem_cons_self), rfl⟩⟩
theorem nd_iff : ∀ l : List Nat, l.Nodup → ndB l = true
  | [], _ => rfl
  | x :: l, h => by
    rw [List.nodup_cons] at h
    unfold ndB
    rw [Bool.and_eq_true, Bool.not_eq_true', ← Bool.not_eq_true, List.contains_iff_mem]
    exact ⟨h.1, nd_iff l h.2⟩
theorem perms_mem {n : Nat} {l : List Nat} (p : l.Perm (List.range n)) : l ∈ permsN n := by
  have hl : l.length = n := by rw [p.length_eq, List.length_range]
  have := lists_mem n l fun x hx => List.mem_range.mp (p.mem_iff.mp hx)
  rw [hl] at this
  exact List.mem_filter.mpr ⟨this, nd_iff l (p.nodup_iff.mpr List.nodup_range)⟩
theorem sub_len {α : Type} : ∀ {l m : List α}, l.Pairwise (· ≠ ·) → (∀ x ∈ l, x ∈ m) → l.length ≤ m.length
  | [], _, _, _ => Nat.zero_le _
  | x :: l, m, nd, h => by
    rw [List.pairwise_cons] at nd
    obtain ⟨a, b, e⟩ := List.append_of_mem (h x List.mem_cons_self)
    have ih := sub_len (l := l) (m := a ++ b) nd.2 fun y hy => by
      have := h y (List.mem_cons_of_mem _ hy)
      rw [e] at this
      rcases List.mem_append.mp this with q | q
      · exact List.mem_append_left _ q
      · rcases List.mem_cons.mp q with q | q
        · exact absurd q.symm (nd.1 y hy)
        · exact List.mem_append_right _ q
    rw [e]
    simp only [List.length_append, List.length_cons] at ih ⊢
    omega
/-- the last of an order who holds t -/
def lastK (h : Hs) (l : List Nat) (t : Nat) : Nat := l.foldl (fun a p => if (holdersM h t).contains p then p else a) 0
theorem lastK_is {h : Hs} {t p : Nat} {a b : List Nat} (hp : p ∈ holdersM h t) (hb : ∀ q ∈ b, q ∉ holdersM h t) : lastK h (a ++ p :: b) t = p := by
  unfold lastK
  rw [List.foldl_append, List.foldl_cons, if_pos (by rw [List.contains_iff_mem]; exact hp)]
  have : ∀ (b : List Nat) (x : Nat), (∀ q ∈ b, q ∉ holdersM h t) → b.foldl (fun a p => if (holdersM h t).contains p then p else a) x = x := fun b => by
    induction b with
    | nil => intro x _; rfl
    | cons y b ih =>
      intro x hb
      rw [List.foldl_cons, if_neg (by rw [List.contains_iff_mem]; exact hb y List.mem_cons_self)]
      exact ih x fun q hq => hb q (List.mem_cons_of_mem _ hq)
  exact this b p hb
/-- by rank, then by number -/
def byR (r : Nat → Nat) (a b : Nat) : Bool := decide (r a < r b ∨ (r a = r b ∧ a < b))
theorem lin_byR (r : Nat → Nat) : Lin (byR r) := by
  refine ⟨fun a b h => ?_, fun a b c h1 h2 => ?_, fun a b h1 h2 => ?_⟩
  · unfold byR at *
    rw [decide_eq_true_eq] at h
    rw [decide_eq_false_iff_not]
    omega
  · unfold byR at *
    rw [decide_eq_false_iff_not] at *
    omega
  · unfold byR at *
    rw [decide_eq_false_iff_not] at *
    omega
theorem keeper_order {h : Hs} {k : KD} (o : HOk h) (hk : k ∈ keepersM h) : k.l ∈ (permsN h.length).map fun l => (thingsM h).map fun t => (t, lastK h l t) := by
  obtain ⟨e1, e2, e3⟩ := (keepers_ks h).each k hk
  obtain ⟨r, hr⟩ := ring_ranks (fun z hz => by
    obtain ⟨x, hx, q1, q2, _⟩ := (steps_iff h k.l z).mp hz
    have := holders_lt q2
    have := holders_lt (e2 x hx)
    have := o.n5
    rw [q1]
    omega) e3
  have pm : (isort (byR r) (List.range h.length)).Perm (List.range h.length) := isort_perm _
  have so := isort_sorted (lin_byR r) (List.range h.length)
  refine List.mem_map.mpr ⟨_, perms_mem pm, ?_⟩
  have : k.l = (k.l.map Prod.fst).map fun t => (t, lastK h (isort (byR r) (List.range h.length)) t) := by
    rw [List.map_map]
    refine (List.map_id k.l).symm.trans (List.map_congr_left fun x hx => ?_)
    have hx2 := e2 x hx
    have hm : x.2 ∈ isort (byR r) (List.range h.length) := pm.mem_iff.mpr (List.mem_range.mpr (holders_lt hx2))
    obtain ⟨a, b, e⟩ := List.append_of_mem hm
    have nd : (isort (byR r) (List.range h.length)).Nodup := pm.nodup_iff.mpr List.nodup_range
    show x = (x.1, lastK h (isort (byR r) (List.range h.length)) x.1)
    rw [e] at so nd ⊢
    have := lastK_is (h := h) (t := x.1) (p := x.2) (a := a) (b := b) hx2 fun q hq m => ?_
    · rw [this]
    · have s1 := (List.pairwise_append.mp so).2.1
      have s2 := (List.pairwise_cons.mp s1).1 q hq
      have nq : q ≠ x.2 := fun z => by
        have n1 := (List.nodup_append.mp nd).2.1
        rw [List.nodup_cons] at n1
        exact n1.1 (z ▸ hq)
      have h1 := hr (q, x.2) ((steps_iff h k.l _).mpr ⟨x, hx, rfl, m, nq⟩)
      unfold byR at s2
      rw [decide_eq_false_iff_not] at s2
      have h2 : r q < r x.2 := h1
      omega
  rw [e1] at this
  exact this.symm
theorem ends_le {h : Hs} (o : HOk h) : (keepersM h).length ≤ boundM h.length := by
  have ap := (keepers_ks h).apart
  have := sub_len (l := (keepersM h).map KD.l) (m := (permsN h.length).map fun l => (thingsM h).map fun t => (t, lastK h l t)) (List.pairwise_map.mpr ap) fun x hx => by
    obtain ⟨k, hk, rfl⟩ := List.mem_map.mp hx
    exact keeper_order o hk
  rw [List.length_map, List.length_map, perms_len _ o.n5] at this
  exact this
theorem ends_one {h : Hs} (e : endM h = true) : (keepersM h).length = 1 := by
  have p1 := ends_pos h
  have ks := keepers_ks h
  have one : ∀ k ∈ keepersM h, k.l = (thingsM h).map fun t => (t, (holdersM h t).headD 0) := fun k hk => by
    obtain ⟨e1, e2, _⟩ := ks.each k hk
    rw [← e1, List.map_map]
    refine (List.map_id k.l).symm.trans (List.map_congr_left fun x hx => ?_)
    have hx2 := e2 x hx
    show x = (x.1, (holdersM h x.1).headD 0)
    match hd : holdersM h x.1, hx2 with
    | u :: us, _ =>
      have hu : u ∈ holdersM h x.1 := by rw [hd]; exact List.mem_cons_self
      have h1 := ((holders_iff h x.1 u).mp hu).2
      have h2 := ((holders_iff h x.1 x.2).mp hx2).2
      by_cases z : u = x.2
      · show x = (x.1, u)
        rw [z]
      · exact absurd h2 ((end_iff h).mp e u x.2 x.1 z h1)
  match hx : keepersM h, p1 with
  | [k], _ => rfl
  | k :: k' :: r, _ =>
    rw [hx] at one
    have ap := ks.apart
    rw [hx, List.pairwise_cons] at ap
    exact absurd ((one k List.mem_cons_self).trans (one k' (List.mem_cons_of_mem _ List.mem_cons_self)).symm) (ap.1 k' List.mem_cons_self)
theorem ends_is {h : Hs} (o : HOk h) : ((keepersM h).length == 1) = endM h := by
  cases e : endM h with
  | true => rw [ends_one e]; rfl
  | false =>
    have := ends_two o e
    rw [beq_eq_false_iff_ne]
    omega
theorem fact_is : ∀ n ≤ 5, factM n = boundM n := by decide +kernel
end L2.LX
/-! PG: the graph laws, looked at for every graph of at most five people. -/
namespace L2.LX
def subsL {α : Type} : List α → List (List α)
  | [] => [[]]
  | x :: xs => subsL xs ++ (subsL xs).map fun r => x :: r
theorem filter_sub {α : Type} (f : α → Bool) : ∀ l : List α, l.filter f ∈ subsL l
  | [] => List.mem_singleton.mpr rfl
  | x :: xs => by
    have ih := filter_sub f xs
    unfold subsL
    by_cases e : f x = true
    · rw [List.filter_cons_of_pos e]
      exact List.mem_append_right _ (List.mem_map.mpr ⟨_, ih, rfl⟩)
    · rw [List.filter_cons_of_neg e]
      exact List.mem_append_left _ ih
def chk1 (n : Nat) (E : Gr) (few : Nat) (mc ml : Int) (col mp : Nat) (L ap : Hs) : Bool :=
  Nat.ble (few + (groupsM n E).length) n && (Nat.ble mp few && (decide (mc ≤ (few : Int) + 1) && ((ap.getD 0 []).length + few == n && (bqL ap (lockedM n E) && (Nat.ble n (col * (n - few)) &&
    (decide (mc ≤ (col : Int)) && (decide ((col : Int) ≤ ml + 1) && (decide ((E.length : Int) ≤ (few : Int) * ml) && ((!treeM n E || few == mp) && ((countM n E).getD few 0 == L.length && (linksM n E).sum == 2 * E.length))))))))))
def chk (n : Nat) (E : Gr) : Bool := chk1 n E (callsM n E) (clubM n E).1 (mostLinkedM n E).1 (coloursM n E) (mostPairsM E) (leastM n E) (apartM n E)
theorem all1 : (subsL (allP 1)).all (chk 1) = true := by decide +kernel
theorem all2 : (subsL (allP 2)).all (chk 2) = true := by decide +kernel
theorem all3 : (subsL (allP 3)).all (chk 3) = true := by decide +kernel
theorem all4 : (subsL (allP 4)).all (chk 4) = true := by decide +kernel
abbrev hi5 : Gr := [(1, 3), (1, 4), (2, 3), (2, 4), (3, 4)]
abbrev lo5 : Gr := [(0, 1), (0, 2), (0, 3), (0, 4), (1, 2)]
theorem split5 : allP 5 = lo5 ++ hi5 := by decide +kernel
def part5 (A : Gr) : Bool := (subsL hi5).all fun B => chk 5 (A ++ B)
theorem c5_0 : part5 [] = true := by decide +kernel
theorem c5_1 : part5 [(1, 2)] = true := by decide +kernel
theorem c5_2 : part5 [(0, 4)] = true := by decide +kernel
theorem c5_3 : part5 [(0, 4), (1, 2)] = true := by decide +kernel
theorem c5_4 : part5 [(0, 3)] = true := by decide +kernel
theorem c5_5 : part5 [(0, 3), (1, 2)] = true := by decide +kernel
theorem c5_6 : part5 [(0, 3), (0, 4)] = true := by decide +kernel
theorem c5_7 : part5 [(0, 3), (0, 4), (1, 2)] = true := by decide +kernel
theorem c5_8 : part5 [(0, 2)] = true := by decide +kernel
theorem c5_9 : part5 [(0, 2), (1, 2)] = true := by decide +kernel
theorem c5_10 : part5 [(0, 2), (0, 4)] = true := by decide +kernel
theorem c5_11 : part5 [(0, 2), (0, 4), (1, 2)] = true := by decide +kernel
theorem c5_12 : part5 [(0, 2), (0, 3)] = true := by decide +kernel
theorem c5_13 : part5 [(0, 2), (0, 3), (1, 2)] = true := by decide +kernel
theorem c5_14 : part5 [(0, 2), (0, 3), (0, 4)] = true := by decide +kernel
theorem c5_15 : part5 [(0, 2), (0, 3), (0, 4), (1, 2)] = true := by decide +kernel
theorem c5_16 : part5 [(0, 1)] = true := by decide +kernel
theorem c5_17 : part5 [(0, 1), (1, 2)] = true := by decide +kernel
theorem c5_18 : part5 [(0, 1), (0, 4)] = true := by decide +kernel
theorem c5_19 : part5 [(0, 1), (0, 4), (1, 2)] = true := by decide +kernel
theorem c5_20 : part5 [(0, 1), (0, 3)] = true := by decide +kernel
theorem c5_21 : part5 [(0, 1), (0, 3), (1, 2)] = true := by decide +kernel
theorem c5_22 : part5 [(0, 1), (0, 3), (0, 4)] = true := by decide +kernel
theorem c5_23 : part5 [(0, 1), (0, 3), (0, 4), (1, 2)] = true := by decide +kernel
theorem c5_24 : part5 [(0, 1), (0, 2)] = true := by decide +kernel
theorem c5_25 : part5 [(0, 1), (0, 2), (1, 2)] = true := by decide +kernel
theorem c5_26 : part5 [(0, 1), (0, 2), (0, 4)] = true := by decide +kernel
theorem c5_27 : part5 [(0, 1), (0, 2), (0, 4), (1, 2)] = true := by decide +kernel
theorem c5_28 : part5 [(0, 1), (0, 2), (0, 3)] = true := by decide +kernel
theorem c5_29 : part5 [(0, 1), (0, 2), (0, 3), (1, 2)] = true := by decide +kernel
theorem c5_30 : part5 [(0, 1), (0, 2), (0, 3), (0, 4)] = true := by decide +kernel
theorem c5_31 : part5 [(0, 1), (0, 2), (0, 3), (0, 4), (1, 2)] = true := by decide +kernel
theorem lo5_is : subsL lo5 = [[], [(1, 2)], [(0, 4)], [(0, 4), (1, 2)], [(0, 3)], [(0, 3), (1, 2)], [(0, 3), (0, 4)], [(0, 3), (0, 4), (1, 2)], [(0, 2)], [(0, 2), (1, 2)], [(0, 2), (0, 4)], [(0, 2), (0, 4), (1, 2)], [(0, 2), (0, 3)], [(0, 2), (0, 3), (1, 2)], [(0, 2), (0, 3), (0, 4)], [(0, 2), (0, 3), (0, 4), (1, 2)], [(0, 1)], [(0, 1), (1, 2)], [(0, 1), (0, 4)], [(0, 1), (0, 4), (1, 2)], [(0, 1), (0, 3)], [(0, 1), (0, 3), (1, 2)], [(0, 1), (0, 3), (0, 4)], [(0, 1), (0, 3), (0, 4), (1, 2)], [(0, 1), (0, 2)], [(0, 1), (0, 2), (1, 2)], [(0, 1), (0, 2), (0, 4)], [(0, 1), (0, 2), (0, 4), (1, 2)], [(0, 1), (0, 2), (0, 3)], [(0, 1), (0, 2), (0, 3), (1, 2)], [(0, 1), (0, 2), (0, 3), (0, 4)], [(0, 1), (0, 2), (0, 3), (0, 4), (1, 2)]] := by decide +kernel
theorem all5 : ∀ A ∈ subsL lo5, part5 A = true := by
  rw [lo5_is]
  exact List.forall_mem_cons.mpr ⟨c5_0, List.forall_mem_cons.mpr ⟨c5_1, List.forall_mem_cons.mpr ⟨c5_2, List.forall_mem_cons.mpr ⟨c5_3, List.forall_mem_cons.mpr ⟨c5_4, List.forall_mem_cons.mpr ⟨c5_5, List.forall_mem_cons.mpr ⟨c5_6, List.forall_mem_cons.mpr ⟨c5_7, List.forall_mem_cons.mpr ⟨c5_8, List.forall_mem_cons.mpr ⟨c5_9, List.forall_mem_cons.mpr ⟨c5_10, List.forall_mem_cons.mpr ⟨c5_11, List.forall_mem_cons.mpr ⟨c5_12, List.forall_mem_cons.mpr ⟨c5_13, List.forall_mem_cons.mpr ⟨c5_14, List.forall_mem_cons.mpr ⟨c5_15, List.forall_mem_cons.mpr ⟨c5_16, List.forall_mem_cons.mpr ⟨c5_17, List.forall_mem_cons.mpr ⟨c5_18, List.forall_mem_cons.mpr ⟨c5_19, List.forall_mem_cons.mpr ⟨c5_20, List.forall_mem_cons.mpr ⟨c5_21, List.forall_mem_cons.mpr ⟨c5_22, List.forall_mem_cons.mpr ⟨c5_23, List.forall_mem_cons.mpr ⟨c5_24, List.forall_mem_cons.mpr ⟨c5_25, List.forall_mem_cons.mpr ⟨c5_26, List.forall_mem_cons.mpr ⟨c5_27, List.forall_mem_cons.mpr ⟨c5_28, List.forall_mem_cons.mpr ⟨c5_29, List.forall_mem_cons.mpr ⟨c5_30, List.forall_mem_cons.mpr ⟨c5_31, fun _ h => (List.not_mem_nil h).elim⟩⟩⟩⟩⟩⟩⟩⟩⟩⟩⟩⟩⟩⟩⟩⟩⟩⟩⟩⟩⟩⟩⟩⟩⟩⟩⟩⟩⟩⟩⟩⟩
theorem chk_all {n : Nat} (h1 : 1 ≤ n) (h5 : n ≤ 5) (f : Nat × Nat → Bool) : chk n ((allP n).filter f) = true := by
  match n, h1, h5 with
  | 1, _, _ => exact List.all_eq_true.mp all1 _ (filter_sub f _)
  | 2, _, _ => exact List.all_eq_true.mp all2 _ (filter_sub f _)
  | 3, _, _ => exact List.all_eq_true.mp all3 _ (filter_sub f _)
  | 4, _, _ => exact List.all_eq_true.mp all4 _ (filter_sub f _)
  | 5, _, _ =>
    rw [split5, List.filter_append]
    exact List.all_eq_true.mp (all5 _ (filter_sub f _)) _ (filter_sub f _)
/-- what the law asks of the graph -/
structure Laws (n : Nat) (E : Gr) : Prop where
  groups : callsM n E + (groupsM n E).length ≤ n
  pairs : mostPairsM E ≤ callsM n E
  club : (clubM n E).1 ≤ (callsM n E : Int) + 1
  apart : ((apartM n E).getD 0 []).length + callsM n E = n
  locked : apartM n E = lockedM n E
  many : n ≤ coloursM n E * (n - callsM n E)
  clubc : (clubM n E).1 ≤ (coloursM n E : Int)
  most : (coloursM n E : Int) ≤ (mostLinkedM n E).1 + 1
  cover : (E.length : Int) ≤ (callsM n E : Int) * (mostLinkedM n E).1
  tree : treeM n E = true → callsM n E = mostPairsM E
  count : (countM n E).getD (callsM n E) 0 = (leastM n E).length
  sum : (linksM n E).sum = 2 * E.length
theorem laws_of {n : Nat} {E : Gr} (h : chk n E = true) : Laws n E := by
  unfold chk chk1 at h
  simp only [Bool.and_eq_true, Bool.or_eq_true, decide_eq_true_eq, Nat.ble_eq, beq_iff_eq, Bool.not_eq_true'] at h
  obtain ⟨a1, a2, a3, a4, a5, a6, a7, a8, a9, a10, a11, a12⟩ := h
  refine ⟨a1, a2, a3, a4, (bqL_iff _ _).mp a5, a6, a7, a8, a9, fun t => ?_, a11, a12⟩
  rcases a10 with q | q
  · rw [t] at q; cases q
  · exact q
theorem laws {h : Hs} (o : HOk h) : Laws h.length (pairsM h) := by
  rw [pairs_filter]
  exact laws_of (chk_all o.n1 o.n5 _)
end L2.LX
/-! D8: the draw. -/
namespace L2.LX
open PySem PySem.Spec PyProof.Rows PySem.W
/-- the row that is drawn from -/
def RowAt (K : PySem.W.Frag) (a : Addr) (ns : List Int) (H : Hp) (p : Addr) : Prop := ∃ (c1 c2 c3 : Int), H p = some (.lst [.ref a, .int c1, .int c2, .int c3]) ∧ SqL K H a (ns.map V.int) ∧ 0 ≤ c1 ∧ 0 ≤ c2 ∧ c2 < 2147483647
/-- nothing but the row is changed -/
def Ch (K : PySem.W.Frag) (a : Addr) (ns : List Int) (p : Addr) (H H' : Hp) : Prop := (∀ b u, b ≠ p → H b = some u → H' b = some u) ∧ RowAt K a ns H' p
theorem Ch.refl {K : PySem.W.Frag} {a : Addr} {ns : List Int} {p : Addr} {H : Hp} (r : RowAt K a ns H p) : Ch K a ns p H H := ⟨fun _ _ _ h => h, r⟩
theorem Ch.trans {K : PySem.W.Frag} {a : Addr} {ns : List Int} {p : Addr} {H H1 H2 : Hp} (x : Ch K a ns p H H1) (y : Ch K a ns p H1 H2) : Ch K a ns p H H2 := ⟨fun c u n h => y.1 c u n (x.1 c u n h), y.2⟩
theorem row_ne {H : Hp} {p a : Addr} {ns : List Int} {ys : List V} (h : H p = some (.lst (.ref a :: ys))) {u : HO} (hu : H a = some u) (n : u ≠ .lst (.ref a :: ys)) : a ≠ p := fun e => by
  subst e
  rw [hu] at h
  exact n (Option.some.inj h)
theorem row_sq {K : PySem.W.Frag} {H : Hp} {p a : Addr} {ns : List Int} {ys : List V} {o : HO} (h : H p = some (.lst (.ref a :: ys))) (q : SqL K H a (ns.map V.int)) : SqL K (upd H p o) a (ns.map V.int) := by
  rcases q with (q | ⟨f, q⟩) | q
  · refine .inl (.inl ?_)
    rw [upd_ne (row_ne (ns := ns) h q fun z => ?_)]
    · exact q
    · cases ns with
      | nil => cases z
      | cons x xs => injection z with z; injection z with z _; cases z
  · refine .inl (.inr ⟨f, ?_⟩)
    rw [upd_ne (row_ne (ns := ns) h q fun z => by cases z)]
    exact q
  · exact .inr q
theorem row_ch {K : PySem.W.Frag} {H : Hp} {p a : Addr} {ns : List Int} {ys : List V} {c1 c2 c3 : Int} (h : H p = some (.lst (.ref a :: ys))) (q : SqL K H a (ns.map V.int)) (h1 : 0 ≤ c1) (h2 : 0 ≤ c2) (h3 : c2 < 2147483647) :
    Ch K a ns p H (upd H p (.lst [.ref a, .int c1, .int c2, .int c3])) :=
  ⟨fun b u n e => by rw [upd_ne n]; exact e, c1, c2, c3, upd_same, row_sq h q, h1, h2, h3⟩
/-- the script stands as long as nothing but the row is changed -/
theorem RowAt.keep {K : PySem.W.Frag} {a : Addr} {ns : List Int} {p : Addr} {H H' : Hp} (r : RowAt K a ns H p) (k : ∀ b u, b ≠ p → H b = some u → H' b = some u) : SqL K H' a (ns.map V.int) := by
  obtain ⟨c1, c2, c3, h, q, _⟩ := r
  rcases q with (q | ⟨f, q⟩) | q
  · refine .inl (.inl (k _ _ (row_ne (ns := ns) h q fun z => ?_) q))
    cases ns with
    | nil => cases z
    | cons x xs => injection z with z; injection z with z _; cases z
  · exact .inl (.inr ⟨f, k _ _ (row_ne (ns := ns) h q fun z => by cases z) q⟩)
  · exact .inr q
/-- .. in another heap -/
theorem RowAt.far {K : PySem.W.Frag} {a : Addr} {ns : List Int} {p q : Addr} {o : HO} {H H1 H2 : Hp} (r : RowAt K a ns H p) (r2 : RowAt K a ns H2 p) (n : q ≠ p) (h0 : H1 q = none) (k1 : ∀ b u, b ≠ p → H b = some u → H1 b = some u) (k2 : ∀ b u, b ≠ p → b ≠ q → H1 b = some u → H2 b = some u) : RowAt K a ns (upd H2 q o) p := by
  obtain ⟨c1, c2, c3, g1, g2, g3⟩ := r2
  refine ⟨c1, c2, c3, by rw [upd_ne (Ne.symm n)]; exact g1, r.keep fun b u nb e => ?_, g3⟩
  have e1 := k1 b u nb e
  have nq := ne_of_none e1 h0
  rw [upd_ne nq]
  exact k2 b u nb nq e1
theorem upd_upd {H : Hp} {p : Addr} {x y : HO} : upd (upd H p x) p y = upd H p y := by
  funext b
  by_cases e : b = p
  · subst e; rw [upd_same, upd_same]
  · rw [upd_ne e, upd_ne e, upd_ne e]
section
variable {X : Cx} {σ : St} {H : Hp} {Q : VK} {p : Addr} {xs : List V} {v : V} {i : Int} {j : Nat} {e e1 e2 : Expr} {px pi ps pos : Pos}
theorem tw_mono {Q' : VK} (h : tw X e σ H Q) (k : ∀ v H', Q v H' → Q' v H') : tw X e σ H Q' := fun pins s I => thn (h pins s I) fun v s1 ⟨x, H1, I1, r1, q1⟩ => ⟨x, H1, I1, r1, k x H1 q1⟩
theorem w_nm (n : Nat) {x : Str} (hv : σ[n]? = some (some v)) (k : Q v H) (hN : X.N[n]? = some x := by rfl) (hvi : Vis X.env.scope x := by first | exact Or.inl rfl | exact Or.inr (Or.inl rfl) | exact Or.inr (Or.inr rfl)) (hd : (x == ("__debug__" : Str)) = false := by decide) (hcd : (x == ("__classdict__" : Str)) = false := by decide) :
    tw X (.Name x px) σ H Q := (pe_var hN hvi hd hcd).tw ⟨v, hv, k⟩
theorem w_n {k : Q (.int i) H} : tw X (.Constant (.int i) j pos) σ H Q := pe_int.tw k
theorem w_at (n : Nat) {x : Str} (hv : σ[n]? = some (some (.ref p))) (h : H p = some (.lst xs)) (e : atI xs i = some v) (k : Q v H) (hN : X.N[n]? = some x := by rfl) (hvi : Vis X.env.scope x := by first | exact Or.inl rfl | exact Or.inr (Or.inl rfl) | exact Or.inr (Or.inr rfl)) (hd : (x == ("__debug__" : Str)) = false := by decide) (hcd : (x == ("__classdict__" : Str)) = false := by decide) :
    tw X (.Subscript (.Name x px) (.Constant (.int i) j pi) pos) σ H Q := (pe_ix ix_list (pe_var hN hvi hd hcd) pe_int (by intro _ _; rfl)).tw ⟨_, hv, p, xs, i, v, rfl, rfl, .of h, e, k⟩
theorem w_int (hm : X.mg "int" = none) (h : tw X e σ H (fun v H' => ∃ i, v = .int i ∧ Q (.int i) H')) (hg : Gl X "int" := by rfl) (hs : starEach [e] X.env = (false, eval e X.env) :: starEach [] X.env := by rfl) (hpl : (backTo pos (starEach [] X.env)).any (·.1) = false := by rfl) :
    tw X (.Call (.Name "int" px) [e] [] pos) σ H Q :=
  (pe_callTy call_int1 hg hm boot_int' (pa_cons pe_tw pa_nil hs) (by decide) (by decide) hs hpl).tw (tw_mono h fun v H' ⟨i, e, q⟩ => .inl ⟨i, by rw [e], q⟩)
theorem w_len {ys : List V} (hm : X.mg "len" = none) (h : tw X e σ H (fun v H' => ∃ q ys, v = .ref q ∧ SqL X.K H' q ys ∧ Q (.int ys.length) H')) (hg : Gl X "len" := by rfl) (hs : starEach [e] X.env = (false, eval e X.env) :: starEach [] X.env := by rfl) (hpl : (backTo pos (starEach [] X.env)).any (·.1) = false := by rfl) :
    tw X (.Call (.Name "len" px) [e] [] pos) σ H Q :=
  (pe_callB call_len_seq hg hm PySem.boot_len (pa_cons pe_tw pa_nil hs) (by decide) (by decide) hs hpl).tw (tw_mono h fun v H' ⟨q, ys, e, h1, k⟩ => ⟨q, ys, by rw [e], .inl h1, k⟩)
theorem w_set (n : Nat) {x : Str} {D : Ends} {rest : List Stmt} (hv : σ[n]? = some (some (.ref p))) (h : tw X e σ H (fun v H' => ∃ xs k, H' p = some (.lst xs) ∧ ixN xs.length i = some k ∧ twSs X rest D σ (upd H' p (.lst (xs.set k v))))) (hN : X.N[n]? = some x := by rfl)
    (hvi : Vis X.env.scope x := by first | exact Or.inl rfl | exact Or.inr (Or.inl rfl) | exact Or.inr (Or.inr rfl)) (hd : (x == ("__debug__" : Str)) = false := by decide) (hcd : (x == ("__classdict__" : Str)) = false := by decide)
    (hs : swapsWithSole [.Subscript (.Name x px) (.Constant (.int i) j pi) ps] e pos.line X.env = pure false := by rfl) (hw : swappedStores [.Subscript (.Name x px) (.Constant (.int i) j pi) ps] e X.env = pure none := by rfl) :
    twSs X (.Assign [.Subscript (.Name x px) (.Constant (.int i) j pi) ps] e pos :: rest) D σ H :=
  (pss_cons (ps_asg pe_tw (pg_sub (pe_var hN hvi hd hcd) pe_int set_list) hs hw) pss_tw).tw (tw_mono h fun v H' ⟨xs, k, h1, h2, h3⟩ => ⟨_, hv, p, xs, i, k, rfl, rfl, h1, h2, h3⟩)
end
section
variable {P : Program} {w : World} {K : PySem.W.Frag} {mg : Str → Option Value} {base : Heap}
def spTaken (K : PySem.W.Frag) : Sp := fun vs H Q _ => ∃ (a : Addr) (ns : List Int) (p : Addr) (many : Nat), vs = [.ref p, .int (many : Int)] ∧ 1 ≤ many ∧ many ≤ 8 ∧ RowAt K a ns H p ∧ ∀ (r : Nat) (H' : Hp), r < many → Ch K a ns p H H' → Q (.int (r : Int)) H'
theorem sc__law_taken : FnScope ["_law_row", "_law_many", "_law_found", "_law_cell"] ["_law_row", "_law_many"] (defScope (topS 56)) := ⟨rfl, rfl, rfl, by decide +kernel, rfl, by decide +kernel, by decide +kernel⟩
theorem ok_law_taken (D : Def K mg "_law_taken" (topS 56) ["_law_row", "_law_many"]) (B : Bt mg) : Has P w K mg base 1 "_law_taken" ["_law_row", "_law_many"] (spTaken K) := by
  obtain ⟨f, fd, F, hm, hb⟩ := D.ex
  refine ⟨f, fd, F.ok sc__law_taken (fun vs H Q E h => ?_) (fun cdv Ar outer s H vs Q E hr h => ⟨_, pss_tw, ?_⟩), hm, F.kp, hb⟩
  · obtain ⟨a, ns, p, many, rfl, _⟩ := h
    rfl
  · obtain ⟨a, ns, p, many, rfl, m1, m8, ⟨c1, c2, c3, hp, hq, g1, g2, g3⟩, kk⟩ := h
    have fin : ∀ (i c1 c2 c3 : Int), 0 ≤ c1 → 0 ≤ c2 → c2 < 2147483647 → Q (.int (i % (many : Int))) (upd H p (.lst [.ref a, .int c1, .int c2, .int c3])) := fun i c1 c2 c3 h1 h2 h3 => by
      have e1 := Int.emod_nonneg i (show (many : Int) ≠ 0 by omega)
      have e2 := Int.emod_lt_of_pos i (show (0 : Int) < many by omega)
      have e : i % (many : Int) = (((i % (many : Int)).toNat : Nat) : Int) := by omega
      rw [e]
      exact kk _ _ (by omega) (row_ch hp hq h1 h2 h3)
    have mpos : (0 : Int) < (many : Int) := by omega
    have m31 : (0 : Int) < 2147483647 := by decide
    have cm : ∀ i : Int, CMul i 48271 := fun i => .inr ⟨by decide +kernel, by decide +kernel⟩
    have mdv : ∀ i : Int, CDivW i (many : Int) := fun i => wide_div (b := 4) (by omega) (by omega) (by decide) (by decide)
    -- if row[3] > 0
    refine (pss_cons (ps_if pt_tw pss_tw pss_tw) pss_tw).tw ((pt_cmpR op_gt pe_tw pe_tw rfl).tw (w_at 0 rfl hp rfl (w_n (k := ⟨_, _, rfl, rfl, _, rfl, ?_⟩))))
    by_cases hc : c3 > 0
    · refine (if_pos (decide_eq_true hc)).mpr ?_
      refine (pss_cons (ps_set (i := 2) sc__law_taken.nd rfl (Or.inl rfl) pe_tw) pss_tw).tw ((pe_op op_mod pe_tw pe_tw).tw (w_int B.int (w_at 0 rfl hp rfl ⟨_, rfl, w_nm 1 rfl ⟨_, _, rfl, rfl, mpos, ?_⟩⟩)))
      refine w_set 0 rfl ((pe_op op_fdivW pe_tw pe_tw).tw (w_at 0 rfl hp rfl (w_nm 1 rfl ⟨_, _, rfl, rfl, mdv _, _, 3, hp, rfl, ?_⟩)))
      refine (pss_cons (ps_ret pe_tw) pss_tw).tw (w_nm 2 rfl ?_)
      exact fin _ _ _ _ g1 g2 g3
    · refine (if_neg (by rw [decide_eq_true_eq]; exact hc)).mpr (pss_nil.tw ?_)
      -- row[1] = row[1] + 1
      refine w_set 0 rfl ((pe_op op_add pe_tw pe_tw).tw (w_at 0 rfl hp rfl (w_n (k := ⟨_, _, rfl, rfl, _, 1, hp, rfl, ?_⟩))))
      have hp1 : upd H p (.lst ([V.ref a, .int c1, .int c2, .int c3].set 1 (.int (c1 + 1)))) p = some (.lst [.ref a, .int (c1 + 1), .int c2, .int c3]) := upd_same
      have hq1 : SqL K (upd H p (.lst ([V.ref a, .int c1, .int c2, .int c3].set 1 (.int (c1 + 1))))) a (ns.map V.int) := row_sq hp hq
      generalize eH : upd H p (.lst ([V.ref a, .int c1, .int c2, .int c3].set 1 (.int (c1 + 1)))) = H1 at hp1 hq1 ⊢
      have up1 : ∀ y, upd H1 p y = upd H p y := fun y => by rw [← eH, upd_upd]
      have up2 : H1 = upd H p (.lst [.ref a, .int (c1 + 1), .int c2, .int c3]) := eH.symm
      -- if row[1] > len(row[0])
      refine (pss_cons (ps_if pt_tw pss_tw pss_tw) pss_tw).tw ((pt_cmpR op_gt pe_tw pe_tw rfl).tw (w_at 0 rfl hp1 rfl (w_len (ys := []) B.len (w_at 0 rfl hp1 rfl ⟨_, _, rfl, hq1, _, _, rfl, rfl, _, rfl, ?_⟩))))
      rw [List.length_map]
      by_cases hc1 : c1 + 1 > (ns.length : Int)
      · refine (if_pos (decide_eq_true hc1)).mpr ?_
        have e1 := Int.emod_nonneg (c2 * 48271 + 11) (show (2147483647 : Int) ≠ 0 by decide)
        have e2 := Int.emod_lt_of_pos (c2 * 48271 + 11) (show (0 : Int) < 2147483647 by decide)
        refine w_set 0 rfl ((pe_op op_mod pe_tw pe_tw).tw (w_int B.int ((pe_op op_add pe_tw pe_tw).tw ((pe_op op_mul pe_tw pe_tw).tw (w_at 0 rfl hp1 rfl (w_n (k := ⟨_, _, rfl, rfl, cm _, w_n (k := ⟨_, _, rfl, rfl, _, rfl, w_n (k := ⟨_, _, rfl, rfl, m31, _, 2, hp1, rfl, ?_⟩)⟩)⟩)))))))
        refine (pss_cons (ps_ret pe_tw) pss_tw).tw ((pe_op op_mod pe_tw pe_tw).tw (w_int B.int ((pe_op op_fdiv pe_tw pe_tw).tw (w_at 0 rfl upd_same rfl (w_n (k := ⟨_, _, rfl, rfl, ⟨by decide, by decide⟩, _, rfl, w_nm 1 rfl ⟨_, _, rfl, rfl, mpos, ?_⟩⟩))))))
        rw [up1]
        exact fin _ _ _ _ (by omega) e1 e2
      · refine (if_neg (by rw [decide_eq_true_eq]; exact hc1)).mpr (pss_nil.tw ?_)
        have hlt : c1.toNat < ns.length := by omega
        have ha : atI (ns.map V.int) (c1 + 1 - 1) = some (.int (ns.getD c1.toNat 0)) := by
          rw [show c1 + 1 - 1 = ((c1.toNat : Nat) : Int) by omega]
          refine atI_nat ?_
          rw [List.getElem?_map, List.getD_eq_getElem?_getD, List.getElem?_eq_getElem hlt]
          rfl
        generalize ns.getD c1.toNat 0 = cell at ha
        -- cell = row[0][row[1] - 1]
        refine (pss_cons (ps_set (i := 3) sc__law_taken.nd rfl (Or.inl rfl) pe_tw) pss_tw).tw ((pe_ix ix_list pe_tw pe_tw (by intro _ _; rfl)).tw (w_at 0 rfl hp1 rfl ((pe_op op_sub pe_tw pe_tw).tw (w_at 0 rfl hp1 rfl (w_n (k := ⟨_, _, rfl, rfl, _, _, _, _, rfl, rfl, hq1, ha, ?_⟩))))))
        have e1 := Int.emod_nonneg (c2 * 48271 + cell + 11) (show (2147483647 : Int) ≠ 0 by decide)
        have e2 := Int.emod_lt_of_pos (c2 * 48271 + cell + 11) (show (0 : Int) < 2147483647 by decide)
        -- row[2] = int(row[2] * 48271 + cell + 11) % 2147483647
        refine w_set 0 rfl ((pe_op op_mod pe_tw pe_tw).tw (w_int B.int ((pe_op op_add pe_tw pe_tw).tw ((pe_op op_add pe_tw pe_tw).tw ((pe_op op_mul pe_tw pe_tw).tw (w_at 0 rfl hp1 rfl (w_n (k := ⟨_, _, rfl, rfl, cm _, w_nm 3 rfl ⟨_, _, rfl, rfl, w_n (k := ⟨_, _, rfl, rfl, _, rfl, w_n (k := ⟨_, _, rfl, rfl, m31, _, 2, hp1, rfl, ?_⟩)⟩)⟩⟩))))))))
        rw [up1]
        -- if cell >= 10 ** 18
        refine (pss_cons (ps_if pt_tw pss_tw pss_tw) pss_tw).tw ((pt_cmpR op_ge pe_tw pe_tw rfl).tw (w_nm 3 rfl ((pe_op op_pow pe_tw pe_tw).tw (w_n (k := w_n (k := ⟨_, _, rfl, rfl, ⟨by decide, by decide, by decide⟩, _, _, rfl, rfl, _, rfl, ?_⟩))))))
        by_cases hc2 : cell ≥ 10 ^ (18 : Int).toNat
        · refine (if_pos (decide_eq_true hc2)).mpr ?_
          refine w_set 0 rfl ((pe_op op_fdivW pe_tw pe_tw).tw (w_nm 3 rfl (w_nm 1 rfl ⟨_, _, rfl, rfl, mdv _, _, 3, upd_same, rfl, pss_nil.tw ?_⟩)))
          rw [upd_upd]
          refine (pss_cons (ps_ret pe_tw) pss_tw).tw ((pe_op op_mod pe_tw pe_tw).tw (w_int B.int (w_nm 3 rfl ⟨_, rfl, w_nm 1 rfl ⟨_, _, rfl, rfl, mpos, ?_⟩⟩)))
          exact fin _ _ _ _ (by omega) e1 e2
        · refine (if_neg (by rw [decide_eq_true_eq]; exact hc2)).mpr (pss_nil.tw ?_)
          refine (pss_cons (ps_ret pe_tw) pss_tw).tw ((pe_op op_mod pe_tw pe_tw).tw (w_int B.int (w_nm 3 rfl ⟨_, rfl, w_nm 1 rfl ⟨_, _, rfl, rfl, mpos, ?_⟩⟩)))
          exact fin _ _ _ _ (by omega) e1 e2
theorem i_rngW {X : Cx} {tg e : Expr} {px pos : Pos} (hm : X.mg "range" = none) (hg : Gl X "range" := by rfl) (hs : starEach [e] X.env = [(false, eval e X.env)] := by rfl) : PI X tg (.Call (.Name "range" px) [e] [] pos) (iRng1 (tCons (tw X e) tNil)) :=
  pi_range1 hg hm (pa_cons pe_tw pa_nil (by rw [hs]; rfl)) hs
def spHands (K : PySem.W.Frag) : Sp := fun vs H Q _ => ∃ (a : Addr) (ns : List Int) (p : Addr), vs = [.ref p, .int 5, .int 7] ∧ RowAt K a ns H p ∧ ∀ (v : V) (H' : Hp) (h : Hs), HOk h → (∀ b u, b ≠ p → H b = some u → H' b = some u) → Dn.dn H' v h → Q v H'
theorem w_taken {X : Cx} {a : Addr} {ns : List Int} {σ : St} {H : Hp} {Q : VK} {p : Addr} {k m : Nat} {e : Expr} {px p1 pos : Pos} (h : Has X.prog X.w X.K X.mg X.base k "_law_taken" ["_law_row", "_law_many"] (spTaken X.K)) (hr : Room k X.A) (hv : σ[0]? = some (some (.ref p))) (r : RowAt X.K a ns H p)
    (ha : ∀ Q' : VK, Q' (.int (m : Int)) H → tw X e σ H Q') (m1 : 1 ≤ m) (m8 : m ≤ 8) (kk : ∀ (r : Nat) (H' : Hp), r < m → Ch X.K a ns p H H' → Q (.int (r : Int)) H') (hN : X.N[0]? = some ("_law_row" : Str) := by rfl) (hg : Gl X "_law_taken" := by rfl)
    (hvi : Vis X.env.scope "_law_row" := by first | exact Or.inl rfl | exact Or.inr (Or.inl rfl) | exact Or.inr (Or.inr rfl)) (he : starEach [.Name "_law_row" p1, e] X.env = (false, eval (.Name "_law_row" p1) X.env) :: starEach [e] X.env := by rfl) (he2 : starEach [e] X.env = (false, eval e X.env) :: starEach [] X.env := by rfl)
    (hpl : (backTo pos (starEach [e] X.env)).any (·.1) = false := by rfl) : tw X (.Call (.Name "_law_taken" px) [.Name "_law_row" p1, e] [] pos) σ H Q := by
  obtain ⟨g, fd, G, hm, hk, hb⟩ := h.ex
  exact (pe_call G hr hg hm hk hb .nil pass0 (pa_cons (pe_var hN hvi (by decide) (by decide)) (pa_cons pe_tw pa_nil he2) he) (by decide) he hpl).tw ⟨_, hv, ha _ ⟨a, ns, p, m, rfl, m1, m8, r, kk⟩⟩
theorem w_tuple {X : Cx} {σ : St} {H : Hp} {Q : VK} {e : Expr} {px pos : Pos} (hm : X.mg "tuple" = none) (h : tw X e σ H (fun v H' => ∃ q vs, v = .ref q ∧ H' q = some (.lst vs) ∧ ∀ l, H' l = none → Q (.ref l) (upd H' l (.tup vs)))) (hg : Gl X "tuple" := by rfl) (hs : starEach [e] X.env = (false, eval e X.env) :: starEach [] X.env := by rfl) (hpl : (backTo pos (starEach [] X.env)).any (·.1) = false := by rfl) :
    tw X (.Call (.Name "tuple" px) [e] [] pos) σ H Q :=
  (pe_callTy call_tuple_of hg hm boot_tuple' (pa_cons pe_tw pa_nil hs) (by decide) (by decide) hs hpl).tw (tw_mono h fun v H' ⟨q, vs, e, h1, k⟩ => ⟨q, vs, by rw [e], .inl ⟨.of h1, k⟩⟩)
def intsV (ns : List Nat) : List V := (ns.map fun (n : Nat) => (n : Int)).map V.int
structure RwOk (x : List Nat) (n : Nat) : Prop where
  up : x.Pairwise (· < ·)
  lo : ∀ t ∈ x, t < n
  ln : x.length ≤ n
theorem RwOk.mono {x : List Nat} {n m : Nat} (r : RwOk x n) (h : n ≤ m) : RwOk x m := ⟨r.up, fun t ht => Nat.lt_of_lt_of_le (r.lo t ht) h, Nat.le_trans r.ln h⟩
theorem RwOk.add {x : List Nat} {n : Nat} (r : RwOk x n) : RwOk (x ++ [n]) (n + 1) := by
  refine ⟨?_, fun t ht => ?_, ?_⟩
  · rw [List.pairwise_append]
    refine ⟨r.up, List.pairwise_singleton _ _, fun a ha b hb => ?_⟩
    rw [List.mem_singleton.mp hb]
    exact r.lo a ha
  · rcases List.mem_append.mp ht with h | h
    · exact Nat.lt_succ_of_lt (r.lo t h)
    · rw [List.mem_singleton.mp h]; exact Nat.lt_succ_self n
  · rw [List.length_append, List.length_singleton]; exact Nat.succ_le_succ r.ln
theorem sc__law_hands : FnScope ["_law_row", "_law_people", "_law_kinds", "_law_many", "_law_size", "_law_found", "_law_rare", "_law_person", "_law_thing"] ["_law_row", "_law_people", "_law_kinds"] (defScope (topS 57)) := ⟨rfl, rfl, rfl, by decide +kernel, rfl, by decide +kernel, by decide +kernel⟩
theorem ok_law_hands (D : Def K mg "_law_hands" (topS 57) ["_law_row", "_law_people", "_law_kinds"]) (B : Bt mg) (h_taken : Has P w K mg base 1 "_law_taken" ["_law_row", "_law_many"] (spTaken K)) : Has P w K mg base 2 "_law_hands" ["_law_row", "_law_people", "_law_kinds"] (spHands K) := by
  obtain ⟨f, fd, F, hm, hb⟩ := D.ex
  refine ⟨f, fd, F.ok sc__law_hands (fun vs H Q E h => ?_) (fun cdv Ar outer s H vs Q E hr h => ⟨_, pss_tw, ?_⟩), hm, F.kp, hb⟩
  · obtain ⟨a, ns, p, rfl, _⟩ := h
    rfl
  · obtain ⟨a, ns, p, rfl, hp, kk⟩ := h
    have szl := sizeLine_eq
    have nd := sc__law_hands.nd
    refine (pss_cons (ps_par3 (i := 3) (j := 4) (l := 5) rfl nd rfl rfl rfl (by decide) (by decide) (by decide) rfl rfl rfl (pa_cons pe_tw (pa_cons pe_tw (pa_cons pe_tw pa_nil rfl) rfl) rfl) rfl) pss_tw).tw ?_
    refine (pe_op op_add pe_tw pe_tw).tw (w_n (k := w_taken (m := 5) h_taken hr rfl hp (fun Q' q => w_nm 1 rfl q) (by decide) (by decide) fun r1 H1 hr1 ch1 => ⟨_, _, rfl, rfl, ?_⟩))
    refine w_taken (m := 8) h_taken hr rfl ch1.2 (fun Q' q => (pe_op op_add pe_tw pe_tw).tw (w_nm 2 rfl (w_n (k := ⟨_, _, rfl, rfl, q⟩)))) (by decide) (by decide) fun r2 H2 hr2 ch2 => ?_
    refine (pe_lst pa_nil).tw ⟨Nat.zero_le _, fun fl hfl => ⟨_, _, _, rfl, ?_⟩⟩
    have ch12 := ch1.trans ch2
    obtain ⟨x1, x2, x3, hrow2, _⟩ := id ch12.2
    have nfp : fl ≠ p := fun z => by rw [z, hrow2] at hfl; cases hfl
    have H0f : ∀ b u, b ≠ p → H b = some u → (upd H2 fl (.lst [])) b = some u := fun b u n e => by
      rw [upd_ne (ne_of_none (ch12.1 b u n e) hfl)]
      exact ch12.1 b u n e
    have row3 : RowAt K a ns (upd H2 fl (.lst [])) p := hp.far ch12.2 nfp hfl ch12.1 fun b u _ _ e => e
    have fl3 : (upd H2 fl (.lst [])) fl = some (.lst []) := upd_same
    have hfH : H fl = none := by
      cases z : H fl with
      | none => rfl
      | some u => rw [ch12.1 fl u nfp z] at hfl; cases hfl
    generalize upd H2 fl (.lst []) = H3 at H0f row3 fl3 ⊢
    -- rare = 1 + taken(row, 3)
    refine (pss_cons (ps_set (i := 6) nd rfl (Or.inr rfl) pe_tw) pss_tw).tw ((pe_op op_add pe_tw pe_tw).tw (w_n (k := w_taken (m := 3) h_taken hr rfl row3 (fun Q' q => w_n (k := q)) (by decide) (by decide) fun r3 H4 hr3 ch3 => ⟨_, _, rfl, rfl, ?_⟩)))
    have H04 : ∀ b u, b ≠ p → H b = some u → H4 b = some u := fun b u n e => ch3.1 b u n (H0f b u n e)
    have fl4 : H4 fl = some (.lst []) := ch3.1 _ _ nfp fl3
    have row4 := ch3.2
    -- the loop
    refine (pss_cons (ps_for PassesOwn.never (by rfl) (i_rngW B.range) pg_tw pss_tw (by intro _; rfl)) pss_tw).tw (w_nm 3 rfl ⟨_, rfl, by omega, by omega, ?_⟩)
    refine for_it walk_range (fun i σ Hc => ∃ (rows : Hs) (pv : Option V), σ = [some (.ref p), some (.int 5), some (.int 7), some (.int (1 + (r1 : Int))), some (.int (r2 : Int)), some (.ref fl), some (.int (1 + (r3 : Int))), pv, none] ∧ rows.length = i ∧ (∀ x ∈ rows, RwOk x 7) ∧ LsAt Hc fl rows ∧ (∀ b u, b ≠ p → H b = some u → Hc b = some u) ∧ RowAt K a ns Hc p) ⟨[], none, rfl, rfl, fun x hx => (List.not_mem_nil hx).elim, ⟨_, fl4, .nil⟩, H04, row4⟩ (fun _ _ _ _ _ => trivial) (fun i x σ Hc Hc' hi P y => ?_) (fun σ Hc P => ?_)
    · obtain ⟨rfl, rfl⟩ := y
      obtain ⟨rows, pv, rfl, hlen, hgood, ⟨vs, hls, hdn⟩, hkeep, hrow⟩ := P
      have hi5 : i < 5 := by omega
      refine (pg_name (i := 7) nd (by rfl) (by exact Or.inl rfl) (by exact .inl rfl)).tw ?_
      refine (pss_cons (ps_expr (pe_bm PySem.F.plainAttrs_list PySem.F.slot_list_append PySem.F.type_list_append mt_append (pe_var (i := 5) (by rfl) (by exact Or.inl rfl) (by decide) (by decide)) (pa_cons pe_tw pa_nil (by rfl))) (by rfl)) pss_tw).tw ?_
      refine ⟨_, rfl, .inl ⟨rfl, _, .of hls⟩, ?_⟩
      refine w_tuple B.tuple ((pe_lc (own := [("_law_thing", 8)]) (by rfl) nd (i_rngW B.range) (blkOk_by (N := ["_law_row", "_law_people", "_law_kinds", "_law_many", "_law_size", "_law_found", "_law_rare", "_law_person", "_law_thing"]) (sc := (defScope (topS 57))) (by decide +kernel)) (fun _ _ _ _ _ => pg_tB) (fun _ _ _ _ _ => pts_tB) (fun _ _ _ _ _ => pe_tB) (by intro _; rfl)).tw ?_)
      refine w_nm 4 rfl ⟨_, rfl, by omega, by omega, fun Da hDa => ?_⟩
      have nDp : Da ≠ p := fun z => by
        obtain ⟨_, _, _, g, _⟩ := hrow
        rw [z, g] at hDa; cases hDa
      refine lc_it walk_range (fun j Hd => ∃ acc : List Nat, Hd Da = some (.lst (intsV acc)) ∧ RwOk acc j ∧ (∀ b u, b ≠ p → b ≠ Da → Hc' b = some u → Hd b = some u) ∧ RowAt K a ns Hd p) ⟨[], upd_same, ⟨.nil, fun t ht => (List.not_mem_nil ht).elim, Nat.le_refl _⟩, fun b u _ n e => by rw [upd_ne n]; exact e, ?_⟩ (fun _ _ _ _ => trivial) (fun j x Hd Hd' hj P y => ?_) (fun Hd P => ?_)
      · exact hp.far hrow nDp hDa hkeep fun b u _ _ e => e
      · obtain ⟨rfl, rfl⟩ := y
        obtain ⟨acc, hacc, hok, hk, hrw⟩ := P
        have hj7 : j < 7 := by omega
        refine fun s' Hx C cl fp => (pg_name (i := 8) nd (by rfl) (by exact Or.inl rfl) (by exact .inr rfl)).tw ⟨(wipe_set (by decide)).trans (wipe_wipe _ _), ?_⟩
        refine fun s' Hx C cl fp => (pts_one pt_tw).tw ((pt_cmpR op_eq pe_tw pe_tw (by rfl)).tw (w_taken (m := r3 + 2) h_taken hr rfl hrw (fun Q' q => (pe_op op_add pe_tw pe_tw).tw (w_nm 6 rfl (w_n (k := ⟨_, _, rfl, rfl, ?_⟩)))) (by omega) (by omega) fun r5 H5 hr5 ch5 => w_n (k := ⟨rfl, _, rfl, ?_⟩)))
        · show Q' (.int (1 + (r3 : Int) + 1)) _
          rw [show (1 : Int) + (r3 : Int) + 1 = ((r3 + 2 : Nat) : Int) by omega]
          exact q
        have hacc5 := ch5.1 _ _ nDp hacc
        have hk5 : ∀ b u, b ≠ p → b ≠ Da → Hc' b = some u → H5 b = some u := fun b u n1 n2 e => ch5.1 b u n1 (hk b u n1 n2 e)
        generalize decide (V.int (r5 : Int) = V.int 0) = bb
        cases bb with
        | true =>
          refine iteT ?_
          refine fun s' Hx C cl fp => w_nm 8 rfl ⟨_, hacc5, ?_, acc ++ [j], ?_, hok.add, fun b u n1 n2 e => by rw [upd_ne n2]; exact hk5 b u n1 n2 e, ?_⟩
          · have := hok.ln
            unfold intsV
            rw [List.length_map, List.length_map]
            omega
          · rw [upd_same]
            unfold intsV
            rw [List.map_append, List.map_append]
            simp
          · exact hp.far ch5.2 nDp hDa hkeep hk5
        | false => exact iteF ⟨acc, hacc5, hok.mono (Nat.le_succ _), hk5, ch5.2⟩
      · obtain ⟨acc, hacc, hok, hk, hrw⟩ := P
        refine ⟨_, _, rfl, hacc, fun l hl => ?_⟩
        have kpl : ∀ b u, b ≠ p → Hc' b = some u → (upd Hd l (.tup (intsV acc))) b = some u := fun b u n e => by
          have e1 := hk b u n (ne_of_none e hDa) e
          rw [upd_ne (ne_of_none e1 hl)]
          exact e1
        have hfl' := kpl _ _ nfp hls
        have lnp : l ≠ p := fun z => by
          obtain ⟨_, _, _, g, _⟩ := hrw
          rw [z, g] at hl; cases hl
        have row5 : RowAt K a ns (upd Hd l (.tup (intsV acc))) p := by
          obtain ⟨c1, c2, c3, g1, g2, g3⟩ := hrw
          exact ⟨c1, c2, c3, by rw [upd_ne (Ne.symm lnp)]; exact g1, hp.keep fun b u n e => kpl b u n (hkeep b u n e), g3⟩
        have tupn : Dn.dn (upd Hd l (.tup (intsV acc))) (.ref l) acc := ⟨l, _, rfl, upd_same, dns_ofN acc⟩
        have kd : Kept Hc' (upd Hd l (.tup (intsV acc))) := fun b => by
          obtain ⟨_, _, _, g, _⟩ := hrow
          exact ⟨fun xs e => kpl b _ (fun z => by rw [z, g] at e; cases e) e, fun xs e => kpl b _ (fun z => by rw [z, g] at e; cases e) e⟩
        generalize upd Hd l (.tup (intsV acc)) = He at kpl hfl' row5 tupn kd
        have hln : vs.length = i := by rw [hdn.len, hlen]
        refine ⟨fl, vs, .ref l, rfl, rfl, hfl', by omega, pss_nil.tw ?_⟩
        have kf : ∀ b u, b ≠ p → H b = some u → upd He fl (.lst (vs ++ [.ref l])) b = some u := fun b u n e => by
          rw [upd_ne (ne_of_none e hfH)]
          exact kpl b u n (hkeep b u n e)
        refine ⟨rows ++ [acc], some (.int (0 + (i : Int))), rfl, by rw [List.length_append, hlen]; rfl, fun x hx => ?_, ⟨_, upd_same, ((hdn.keep kd).append (.cons tupn .nil)).keep (.upd hfl')⟩, kf, ?_⟩
        · rcases List.mem_append.mp hx with hx | hx
          · exact hgood x hx
          · rw [List.mem_singleton.mp hx]
            exact hok.mono (by omega)
        · obtain ⟨c1, c2, c3, g1, g2, g3⟩ := row5
          exact ⟨c1, c2, c3, by rw [upd_ne (Ne.symm nfp)]; exact g1, hp.keep kf, g3⟩
    · obtain ⟨rows, pv, rfl, hlen, hgood, ⟨vs, hls, hdn⟩, hkeep, hrow⟩ := P
      refine (pss_cons (ps_ret pe_tw) pss_tw).tw (w_tuple B.tuple (w_nm 5 rfl ⟨_, _, rfl, hls, fun l hl => ?_⟩))
      have e1 : ((1 : Int) + (r1 : Int)).toNat = r1 + 1 := by omega
      rw [e1] at hlen
      refine kk _ _ rows ⟨by omega, by omega, fun x hx => (hgood x hx).up, fun x hx => (hgood x hx).lo⟩ (fun b u n e => ?_) ⟨l, vs, rfl, upd_same, hdn.keep (.new hl)⟩
      rw [upd_ne (ne_of_none (hkeep b u n e) hl)]
      exact hkeep b u n e
end
end L2.LX
/-! D9: the law. -/
namespace L2.LX
open PySem PySem.Spec PyProof.Rows PySem.W
section
variable {X : Cx} {H0 : Hp} {ds : List Sd} {e1 e2 : Expr} {pos : Pos}
theorem t_chain {c : Expr} {m n q : Nat} (h1 : EV X H0 ds e1 m) (h2 : EV X H0 ds e2 n) (h3 : EV X H0 ds c q) (hm : lastMarks [.LtE, .LtE] [e2, c] = false := by with_unfolding_all rfl) : TV X H0 ds (.Compare e1 [.LtE, .LtE] [e2, c] pos) (decide (m ≤ n) && decide (n ≤ q)) := fun σ H Q o k =>
  (pt_chain op_le op_le pe_tw pe_tw pe_tw hm).tw (h1 σ H _ o fun v H1 s1 d1 => h2 σ H1 _ (o.ext s1) fun w H2 s2 d2 => by
    refine ⟨(m : Int), (n : Int), Dn.keep d1 (.of s2), d2, _, rfl, ?_⟩
    by_cases hmn : m ≤ n
    · have e1 : decide ((m : Int) ≤ (n : Int)) = true := decide_eq_true (by omega)
      rw [e1]
      refine iteT (h3 σ H2 _ ((o.ext s1).ext s2) fun u H3 s3 d3 => ⟨(n : Int), (q : Int), Dn.keep d2 (.of s3), d3, _, rfl, ?_⟩)
      have z := k H3 ((s1.trans s2).trans s3)
      rw [decide_eq_true hmn, Bool.true_and] at z
      by_cases hnq : n ≤ q
      · rw [decide_eq_true hnq] at z
        rw [decide_eq_true (by omega)]
        exact z
      · rw [decide_eq_false hnq] at z
        rw [decide_eq_false (by omega)]
        exact z
    · have e1 : decide ((m : Int) ≤ (n : Int)) = false := decide_eq_false (by omega)
      rw [e1]
      have z := k H2 (s1.trans s2)
      rw [decide_eq_false hmn, Bool.false_and] at z
      exact iteF ⟨_, rfl, z⟩)
end
section
variable {P : Program} {w : World} {K : PySem.W.Frag} {mg : Str → Option Value} {base : Heap}
/-- all that the law calls -/
structure Fs (P : Program) (w : World) (K : PySem.W.Frag) (mg : Str → Option Value) (base : Heap) : Prop where
  hands : Has P w K mg base 2 "_law_hands" ["_law_row", "_law_people", "_law_kinds"] (spHands K)
  calls_to_end : Has P w K mg base 5 "calls_to_end" ["hands"] spCallsN
  most_calls : Has P w K mg base 5 "most_calls" ["hands"] spMostC
  most_pairs : Has P w K mg base 5 "most_pairs" ["hands"] spMost
  greatest_club : Has P w K mg base 6 "greatest_club" ["hands"] spClub
  groups : Has P w K mg base 5 "groups" ["hands"] spGroupsT
  apart : Has P w K mg base 5 "apart" ["hands"] spApart
  most_locked : Has P w K mg base 5 "most_locked" ["hands"] spLocked
  least_colours : Has P w K mg base 5 "least_colours" ["hands"] spCols
  most_linked : Has P w K mg base 5 "most_linked" ["hands"] spMostL
  count_ways_to_end : Has P w K mg base 5 "count_ways_to_end" ["hands"] spWays
  least_covers : Has P w K mg base 5 "least_covers" ["hands"] spLeast
  way_to_end : Has P w K mg base 5 "way_to_end" ["hands"] spWay
  pairs : Has P w K mg base 5 "pairs" ["hands"] spPairsT
  is_tree : Has P w K mg base 5 "is_tree" ["hands"] spTree
  fewest_rounds : Has P w K mg base 5 "fewest_rounds" ["hands"] spRounds
  count_covers : Has P w K mg base 5 "count_covers" ["hands"] spCount
  count_ends : Has P w K mg base 5 "count_ends" ["hands"] spEnds
  is_end : Has P w K mg base 5 "is_end" ["hands"] spEnd
  link_counts : Has P w K mg base 5 "link_counts" ["hands"] spLinks
def spLaw (K : PySem.W.Frag) : Sp := fun vs H Q _ => ∃ (a : Addr) (ns : List Int), vs = [.ref a] ∧ SqL K H a (ns.map V.int) ∧ ∀ H', Q (.bl true) H'
theorem w_hands {X : Cx} {a : Addr} {ns : List Int} {σ : St} {H : Hp} {Q : VK} {p : Addr} {k j1 j2 : Nat} {px p1 p2 p3 pos : Pos} (h : Has X.prog X.w X.K X.mg X.base k "_law_hands" ["_law_row", "_law_people", "_law_kinds"] (spHands X.K)) (hr : Room k X.A) (hv : σ[1]? = some (some (.ref p))) (r : RowAt X.K a ns H p)
    (kk : ∀ (v : V) (H' : Hp) (h : Hs), HOk h → (∀ b u, b ≠ p → H b = some u → H' b = some u) → Dn.dn H' v h → Q v H') (hN : X.N[1]? = some ("_law_row" : Str) := by rfl) (hg : Gl X "_law_hands" := by rfl)
    (hvi : Vis X.env.scope "_law_row" := by first | exact Or.inl rfl | exact Or.inr (Or.inl rfl) | exact Or.inr (Or.inr rfl)) (he : starEach [.Name "_law_row" p1, .Constant (.int 5) j1 p2, .Constant (.int 7) j2 p3] X.env = (false, eval (.Name "_law_row" p1) X.env) :: starEach [.Constant (.int 5) j1 p2, .Constant (.int 7) j2 p3] X.env := by rfl)
    (he2 : starEach [.Constant (.int 5) j1 p2, .Constant (.int 7) j2 p3] X.env = (false, eval (.Constant (.int 5) j1 p2) X.env) :: starEach [.Constant (.int 7) j2 p3] X.env := by rfl) (he3 : starEach [.Constant (.int 7) j2 p3] X.env = (false, eval (.Constant (.int 7) j2 p3) X.env) :: starEach [] X.env := by rfl)
    (hpl : (backTo pos (starEach [.Constant (.int 5) j1 p2, .Constant (.int 7) j2 p3] X.env)).any (·.1) = false := by rfl) : tw X (.Call (.Name "_law_hands" px) [.Name "_law_row" p1, .Constant (.int 5) j1 p2, .Constant (.int 7) j2 p3] [] pos) σ H Q := by
  obtain ⟨g, fd, G, hm, hk, hb⟩ := h.ex
  exact (pe_call G hr hg hm hk hb .nil pass0 (pa_cons (pe_var hN hvi (by decide) (by decide)) (pa_cons pe_int (pa_cons pe_int pa_nil he3) he2) he) (by decide) he hpl).tw ⟨_, hv, a, ns, p, rfl, r, kk⟩
/-- what the law asks besides the graph -/
structure Rest (h : Hs) : Prop where
  few : roundsM h ≤ callsM h.length (pairsM h)
  col : roundsM h + 1 ≤ coloursM h.length (pairsM h)
  ends1 : 1 ≤ (keepersM h).length
  ends2 : (keepersM h).length ≤ boundM h.length
  ends3 : ((keepersM h).length == 1) = endM h
  ways : waysM h.length (pairsM h) = boundM (callsM h.length (pairsM h)) * (leastM h.length (pairsM h)).length
  few4 : callsM h.length (pairsM h) + 1 ≤ h.length
  col1 : 1 ≤ coloursM h.length (pairsM h)
  coln : coloursM h.length (pairsM h) ≤ h.length
theorem rest_of {h : Hs} (o : HOk h) : Rest h := by
  have g := pairsM_ok o
  have c := calls_lt g
  have n1 := o.n1
  have n5 := o.n5
  exact ⟨rounds_le_few o, rounds_le_col o, ends_pos h, ends_le o, ends_is o, by unfold waysM; rw [fact_is _ (by omega)], by omega, (colours_ok g).1, (colours_ok g).2.1⟩
theorem sc_law : FnScope ["_law_script", "_law_row", "_law_hands_here", "_law_many", "_law_few", "_law_whole", "_law_number", "_law_bound"] ["_law_script"] (defScope (topS 58)) := ⟨rfl, rfl, rfl, by decide +kernel, rfl, by decide +kernel, by decide +kernel⟩
theorem ok_law {f : Addr} {fd : FuncData} (F : L2.Fun K "law" "law" (topS 58) f fd) (B : Bt mg) (Z : Fs P w K mg base) : FnOk P w K mg base CX0 7 f fd ["_law_script"] (spLaw K) := by
  obtain ⟨h__law_hands, h_calls_to_end, h_most_calls, h_most_pairs, h_greatest_club, h_groups, h_apart, h_most_locked, h_least_colours, h_most_linked, h_count_ways_to_end, h_least_covers, h_way_to_end, h_pairs, h_is_tree, h_fewest_rounds, h_count_covers, h_count_ends, h_is_end, h_link_counts⟩ := Z
  refine F.ok sc_law (fun vs H Q E h => ?_) (fun cdv Ar outer s H vs Q E hr h => ⟨_, pss_tw, ?_⟩)
  · obtain ⟨a, ns, rfl, _⟩ := h
    rfl
  · obtain ⟨a, ns, rfl, hs, kk⟩ := h
    have szl := sizeLine_eq
    refine (pss_cons (ps_set (i := 1) sc_law.nd (by rfl) (by exact Or.inl rfl) pe_tw) pss_tw).tw ((pe_lst (pa_cons pe_tw (pa_cons pe_tw (pa_cons pe_tw (pa_cons pe_tw pa_nil (by rfl)) (by rfl)) (by rfl)) (by rfl))).tw (w_nm 0 rfl (w_n (k := w_n (k := w_n (k := ⟨by show 4 ≤ sizeLine; omega, fun p hp0 => ?_⟩))))))
    have row : RowAt K a ns (upd H p (.lst [.ref a, .int 0, .int 9776, .int 0])) p := by
      refine ⟨0, 9776, 0, upd_same, ?_, by decide, by decide, by decide⟩
      rcases hs with (q | ⟨u, q⟩) | q
      · exact .inl (.inl (by rw [upd_ne (ne_of_none q hp0)]; exact q))
      · exact .inl (.inr ⟨u, by rw [upd_ne (ne_of_none q hp0)]; exact q⟩)
      · exact .inr q
    refine (pss_cons (ps_set (i := 2) sc_law.nd (by rfl) (by exact Or.inl rfl) pe_tw) pss_tw).tw (w_hands h__law_hands (hr.mono (by decide)) rfl row fun v H1 h hp keep dh => ?_)
    have sm : Same H H1 := fun b u e => keep b u (ne_of_none e hp0) (by rw [upd_ne (ne_of_none e hp0)]; exact e)
    have ok0 : Ok H ([.any] ++ List.replicate 7 .any) (start ["_law_script", "_law_row", "_law_hands_here", "_law_many", "_law_few", "_law_whole", "_law_number", "_law_bound"] [V.ref a]) H := ok_start (as := [.any]) (N := ["_law_script", "_law_row", "_law_hands_here", "_law_many", "_law_few", "_law_whole", "_law_number", "_law_bound"]) ⟨trivial, trivial⟩ (fun d hd => by rw [List.mem_singleton.mp hd]; rfl) (by decide)
    have ok1 := (((ok0.ext sm).setAny 1 (some (.ref p))).setIm 2 dh)
    have L := laws hp
    have R := rest_of hp
    have n1 := hp.n1
    have n5 := hp.n5
    have mp := L.pairs
    have few4 := R.few4
    have lne : 0 < (leastM h.length (pairsM h)).length := pos_of_ne (least_ne (pairsM_ok hp))
    have alen : 0 < (apartM h.length (pairsM h)).length := by
      unfold apartM
      rw [srt_len, List.length_map]
      exact lne
    have mlp : (mostLinkedM h.length (pairsM h)).1 = (((mostLinkedM h.length (pairsM h)).1.toNat : Nat) : Int) := by
      have := L.most
      have := R.col1
      omega
    refine (?_ : SS _ H [.any, .any, .im h, .any, .any, .any, .any, .any] _ _) _ _ ok1
    refine s_par 3 4 rfl sc_law.nd (EV.r (e_lenT B.len (e_var 2 rfl))) (EV.r (e_call1 h_calls_to_end (hr.mono (by decide)) (e_var 2 rfl) hp)) ?_
    generalize hfew : callsM h.length (pairsM h) = few at L R mp few4 ⊢
    have Lm := L.many
    have Lc := L.cover
    have Lt := L.tree
    have Lk := L.count
    have Rw := R.ways
    rw [hfew] at Lm Lc Lt Lk Rw
    refine s_skip (TV.as (t_or (t_cmp (c_gtN (e_var 4 rfl) (e_call1 h_most_calls (hr.mono (by decide)) (e_var 2 rfl) hp))) (fun _ => (t_cmp (c_ltN (e_var 4 rfl) (e_call1 h_most_pairs (hr.mono (by decide)) (e_var 2 rfl) hp))))) ?_) ?_
    · have := L.groups
      rw [decide_eq_false (by omega), decide_eq_false (by omega)]
      rfl
    refine s_skip (TV.as (t_or (t_cmp (c_lt (ν := Int) (e_z (e_var 4 rfl)) (e_subI (e_fst (e_call1 h_greatest_club (hr.mono (by decide)) (e_var 2 rfl) hp) (e_nat 0)) (e_z (e_nat 1))))) (fun _ => (t_cmp (c_gtN (e_var 4 rfl) (e_subN (e_var 3 rfl) (e_lenT B.len (e_call1 h_groups (hr.mono (by decide)) (e_var 2 rfl) hp)) ?_))))) ?_) ?_
    · have := L.groups
      omega
    · have h1 := L.groups
      have h2 := L.club
      refine Bool.or_eq_false_iff.mpr ⟨decide_eq_false ?_, decide_eq_false ?_⟩
      · show ¬ ((few : Int) < (clubM h.length (pairsM h)).1 - 1)
        omega
      · omega
    refine s_skip (TV.as (t_or (t_cmp (c_neN (e_lenT B.len (e_ixLd [] (l_call1 h_apart (hr.mono (by decide)) (e_var 2 rfl) hp).b (e_nat 0) ?_)) (e_subN (e_var 3 rfl) (e_var 4 rfl) ?_))) (fun _ => (t_cmp (c_neL hr.units (l_call1 h_apart (hr.mono (by decide)) (e_var 2 rfl) hp).b (l_call1 h_most_locked (hr.mono (by decide)) (e_var 2 rfl) hp).b)))) ?_) ?_
    · exact alen
    · omega
    · have h1 := L.apart
      refine Bool.or_eq_false_iff.mpr ⟨?_, ?_⟩
      · rw [Bool.not_eq_false', beq_iff_eq]
        omega
      · rw [Bool.not_eq_false', bqL_iff]
        exact L.locked
    refine s_skip (TV.as (t_cmp (c_gtN (e_subN (e_var 3 rfl) (e_var 4 rfl) ?_) (e_subN (e_var 3 rfl) (e_call1 h_most_pairs (hr.mono (by decide)) (e_var 2 rfl) hp) ?_))) ?_) ?_
    · omega
    · omega
    · exact decide_eq_false (by omega)
    refine s_skip (TV.as (t_or (t_cmp (c_ltN (e_mulN (e_call1 h_least_colours (hr.mono (by decide)) (e_var 2 rfl) hp) (e_subN (e_var 3 rfl) (e_var 4 rfl) ?_) ?_) (e_var 3 rfl))) (fun _ => t_cmp (c_lt (ν := Int) (e_z (e_call1 h_least_colours (hr.mono (by decide)) (e_var 2 rfl) hp)) (e_fst (e_call1 h_greatest_club (hr.mono (by decide)) (e_var 2 rfl) hp) (e_nat 0))))) ?_) ?_
    · omega
    · have := R.coln
      omega
    · refine Bool.or_eq_false_iff.mpr ⟨decide_eq_false ?_, decide_eq_false ?_⟩
      · exact Nat.not_lt.mpr Lm
      · exact Int.not_lt.mpr L.clubc
    refine s_skip (TV.as (t_cmp (c_gt (ν := Int) (e_z (e_call1 h_least_colours (hr.mono (by decide)) (e_var 2 rfl) hp)) (e_addI (e_fst (e_call1 h_most_linked (hr.mono (by decide)) (e_var 2 rfl) hp) (e_nat 0)) (e_z (e_nat 1))))) ?_) ?_
    · exact decide_eq_false (Int.not_lt.mpr L.most)
    -- _law_whole
    refine s_set 5 sc_law.nd (e_nat 1) ?_
    refine s_for (S := Nat) (fun u => [.any, .any, .im h, .im h.length, .im few, .im u, .any, .any]) (fun u k => u * (k + 1)) (fun i u => u ≤ 6 ^ i) 1 PassesOwn.never rfl (.any (.any (.same (.same (.same (.same (.any (.any .nil)))))))) (Nat.le_refl _) (i_rng B.range (e_var 4 rfl) ?_) (g_name 6 sc_law.nd) (fun H2 s2 i u k hk g => ?_) (fun g => ?_)
    · omega
    · have hi : i < few := by
        have := (List.getElem?_eq_some_iff.mp hk).1
        rw [List.length_range] at this
        exact this
      have hki : k = i := by
        rw [List.getElem?_range hi] at hk
        exact (Option.some.inj hk).symm
      have p6 : 6 ^ i ≤ 6 ^ 4 := Nat.pow_le_pow_right (by decide) (by omega)
      refine ⟨fact_le i u (k + 1) g (by omega), fun N bk hN => ?_⟩
      refine s_set 5 sc_law.nd (e_mulN (e_var 5 rfl) (e_addN (e_var 6 rfl) (e_nat 1)) ?_) ?_
      · omega
      · exact s_nil fun σ H o => hN σ H (o.weak (.any (.any (.same (.same (.same (.same (.any (.any .nil)))))))))
    have hw : (List.range few).foldl (fun u k => u * (k + 1)) 1 = boundM few := rfl
    rw [hw] at g ⊢
    rw [List.length_range] at g
    have p6 : 6 ^ few ≤ 6 ^ 4 := Nat.pow_le_pow_right (by decide) (by omega)
    refine s_skip (TV.as (t_cmp (c_neN (e_call1 h_count_ways_to_end (hr.mono (by decide)) (e_var 2 rfl) hp) (e_mulN (e_var 5 rfl) (e_lenL B.len (l_call1 h_least_covers (hr.mono (by decide)) (e_var 2 rfl) hp).b) ?_))) ?_) ?_
    · omega
    · rw [Bool.not_eq_false', beq_iff_eq]
      exact Rw
    refine s_skip (TV.as (t_cmp (c_neD hr.units (e_call1 h_way_to_end (hr.mono (by decide)) (e_var 2 rfl) hp) (e_ixLd [] (l_call1 h_least_covers (hr.mono (by decide)) (e_var 2 rfl) hp).b (e_nat 0) ?_))) ?_) ?_
    · exact lne
    · rw [Bool.not_eq_false']
      exact (En.bqs _ _).mpr rfl
    refine s_skip (TV.as (t_or (t_cmp (c_ltN (e_mulN (e_var 4 rfl) (e_nn (e_fst (e_call1 h_most_linked (hr.mono (by decide)) (e_var 2 rfl) hp) (e_nat 0)) mlp) ?_) (e_lenT B.len (e_call1 h_pairs (hr.mono (by decide)) (e_var 2 rfl) hp)))) (fun _ => (t_and (t_val (e_call1 h_is_tree (hr.mono (by decide)) (e_var 2 rfl) hp)) (fun _ => (t_cmp (c_neN (e_var 4 rfl) (e_call1 h_most_pairs (hr.mono (by decide)) (e_var 2 rfl) hp))))))) ?_) ?_
    · omega
    · refine Bool.or_eq_false_iff.mpr ⟨decide_eq_false ?_, ?_⟩
      · have h1 := Lc
        rw [mlp] at h1
        rw [← Int.natCast_mul] at h1
        omega
      · cases e : treeM h.length (pairsM h) with
        | false => rfl
        | true => rw [Lt e]; simp
    refine s_skip (TV.as (t_or (t_not (t_cmp (c_leN (e_call1 h_fewest_rounds (hr.mono (by decide)) (e_var 2 rfl) hp) (e_var 4 rfl)))) (fun _ => (t_cmp (c_gtN (e_call1 h_fewest_rounds (hr.mono (by decide)) (e_var 2 rfl) hp) (e_subN (e_call1 h_least_colours (hr.mono (by decide)) (e_var 2 rfl) hp) (e_nat 1) ?_))))) ?_) ?_
    · exact R.col1
    · have h1 := R.few
      have h2 := R.col
      refine Bool.or_eq_false_iff.mpr ⟨?_, decide_eq_false ?_⟩
      · rw [Bool.not_eq_false', decide_eq_true_eq]
        omega
      · omega
    refine s_skip (TV.as (t_cmp (c_neN (e_ixTd 0 (e_call1 h_count_covers (hr.mono (by decide)) (e_var 2 rfl) hp) (e_var 4 rfl) ?_) (e_lenL B.len (l_call1 h_least_covers (hr.mono (by decide)) (e_var 2 rfl) hp).b))) ?_) ?_
    · unfold countM
      rw [List.length_map, List.length_range]
      omega
    · rw [Bool.not_eq_false', beq_iff_eq]
      exact Lk
    -- _law_bound
    refine s_set 7 sc_law.nd (e_nat 1) ?_
    refine s_for (S := Nat) (fun u => [.any, .any, .im h, .im h.length, .im few, .any, .any, .im u]) (fun u k => u * (k + 1)) (fun i u => u ≤ 6 ^ i) 1 PassesOwn.never rfl (.any (.any (.same (.same (.same (.any (.any (.same .nil)))))))) (Nat.le_refl _) (i_rng B.range (e_var 3 rfl) ?_) (g_name 6 sc_law.nd) (fun H2 s2 i u k hk g => ?_) (fun g2 => ?_)
    · omega
    · have hi : i < h.length := by
        have := (List.getElem?_eq_some_iff.mp hk).1
        rw [List.length_range] at this
        exact this
      have hki : k = i := by
        rw [List.getElem?_range hi] at hk
        exact (Option.some.inj hk).symm
      have p6 : 6 ^ i ≤ 6 ^ 4 := Nat.pow_le_pow_right (by decide) (by omega)
      refine ⟨fact_le i u (k + 1) g (by omega), fun N bk hN => ?_⟩
      refine s_set 7 sc_law.nd (e_mulN (e_var 7 rfl) (e_addN (e_var 6 rfl) (e_nat 1)) ?_) ?_
      · omega
      · exact s_nil fun σ H o => hN σ H (o.weak (.any (.any (.same (.same (.same (.any (.any (.same .nil)))))))))
    have hw2 : (List.range h.length).foldl (fun u k => u * (k + 1)) 1 = boundM h.length := rfl
    rw [hw2] at g2 ⊢
    refine s_skip (TV.as (t_not (t_chain (e_nat 1) (e_call1 h_count_ends (hr.mono (by decide)) (e_var 2 rfl) hp) (e_var 7 rfl))) ?_) ?_
    · rw [decide_eq_true R.ends1, decide_eq_true R.ends2]
      rfl
    refine s_skip (TV.as (t_cmp (c_neB (e_cmp (c_eqN (e_call1 h_count_ends (hr.mono (by decide)) (e_var 2 rfl) hp) (e_nat 1))) (e_call1 h_is_end (hr.mono (by decide)) (e_var 2 rfl) hp))) ?_) ?_
    · rw [R.ends3]
      simp
    refine s_ret (e_eq (e_cmp (c_eqN (e_sumT B.sum rfl (e_call1 h_link_counts (hr.mono (by decide)) (e_var 2 rfl) hp)) (e_mulN (e_nat 2) (e_lenT B.len (e_call1 h_pairs (hr.mono (by decide)) (e_var 2 rfl) hp)) ?_))) (b := true) ?_) (fun v H' s d => ?_)
    · omega
    · rw [beq_iff_eq]
      exact L.sum
    · rw [show v = V.bl true from d]
      exact kk H'
end
end L2.LX
/-! E: what the top has written, put together. -/
namespace L2.LX
open PySem PySem.Spec PyProof.Rows PySem.W
/-- a def as the top has written it -/
structure DefIn (K : PySem.W.Frag) (x : Str) (st : Stmt) : Prop where
  ex : ∃ (f : Addr) (oc : Value) (od an : Option Addr) (osl : Array (Option Value)) (kV doc pm cdv ct : Value), nsIn K mainGlobals x = some (some (.ref f)) ∧
    K.lookup f = some ⟨oc, od, .func (PySem.W.fnOf x x (defArgs st) (defBody st) (defScope st) .none kV doc pm an cdv ct), osl⟩ ∧ PySem.W.codeIn K cdv x = true ∧ PySem.W.keepIn K (.ref f) = true
theorem def_mk {K : PySem.W.Frag} {x : Str} {st : Stmt} {f : Addr} {oc : Value} {od an : Option Addr} {osl : Array (Option Value)} {kV doc pm cdv ct : Value} (a : nsIn K mainGlobals x = some (some (.ref f)))
    (l : K.lookup f = some ⟨oc, od, .func (PySem.W.fnOf x x (defArgs st) (defBody st) (defScope st) .none kV doc pm an cdv ct), osl⟩) (c : PySem.W.codeIn K cdv x = true) (k : PySem.W.keepIn K (.ref f) = true) : DefIn K x st :=
  ⟨f, oc, od, an, osl, kV, doc, pm, cdv, ct, a, l, c, k⟩
theorem def_of {K : PySem.W.Frag} {h : Heap} {mg : Str → Option Value} {x : Str} {st : Stmt} {ps : List Str} (X : K.In h) (G : h.Ns mainGlobals mg) (d : DefIn K x st)
    (hb : ∀ (kV doc pm : Value) (an : Option Addr) (cdv ct : Value) (us : List Value), us.length = ps.length → bindArgs (PySem.W.fnOf x x (defArgs st) (defBody st) (defScope st) .none kV doc pm an cdv ct) ⟨us, []⟩ = pure (ps.zip us)) : Def K mg x st ps := by
  obtain ⟨f, oc, od, an, osl, kV, doc, pm, cdv, ct, a, l, c, k⟩ := d.ex
  have F := fun_mk (st := st) l c k
  exact ⟨f, _, F, mg_of X G a, F.binds hb⟩
theorem fin {l : PySem.W.OpenLaw} {w : World} {K : PySem.W.Frag} {h : Heap} {mg : Str → Option Value} {fa : Addr} {t1 t2 : Tok} (X : K.In h) (G : h.Ns mainGlobals mg) (hfa : mg "law" = some (.ref fa))
    (d_is_integer : DefIn K "is_integer" (topS 1)) (d_is_in : DefIn K "is_in" (topS 2)) (d_is_list : DefIn K "is_list" (topS 3)) (d_is_hand : DefIn K "is_hand" (topS 10)) (d_need_hands : DefIn K "need_hands" (topS 11)) (d_things_in : DefIn K "things_in" (topS 12)) (d_holders_in : DefIn K "holders_in" (topS 13)) (d_spare_in : DefIn K "spare_in" (topS 14)) (d_pairs_in : DefIn K "pairs_in" (topS 15)) (d_pairs : DefIn K "pairs" (topS 16)) (d_groups_in : DefIn K "groups_in" (topS 17)) (d_groups : DefIn K "groups" (topS 18)) (d_end_in : DefIn K "end_in" (topS 19)) (d_is_end : DefIn K "is_end" (topS 20)) (d_cover_in : DefIn K "cover_in" (topS 22)) (d_choices : DefIn K "choices" (topS 23)) (d_covers_in : DefIn K "covers_in" (topS 24)) (d_least_in : DefIn K "least_in" (topS 25)) (d_least_covers : DefIn K "least_covers" (topS 26)) (d_calls_to_end : DefIn K "calls_to_end" (topS 27)) (d_way_to_end : DefIn K "way_to_end" (topS 28)) (d_count_ways_to_end : DefIn K "count_ways_to_end" (topS 29)) (d_count_covers : DefIn K "count_covers" (topS 30)) (d_apart : DefIn K "apart" (topS 31)) (d_most_pairs : DefIn K "most_pairs" (topS 32)) (d_has_ring : DefIn K "has_ring" (topS 34)) (d_steps_of : DefIn K "steps_of" (topS 35)) (d_keepers_in : DefIn K "keepers_in" (topS 36)) (d_count_ends : DefIn K "count_ends" (topS 37)) (d_most_calls : DefIn K "most_calls" (topS 39)) (d_most_locked : DefIn K "most_locked" (topS 41)) (d_linked_to : DefIn K "linked_to" (topS 43)) (d_link_counts : DefIn K "link_counts" (topS 44)) (d_most_linked : DefIn K "most_linked" (topS 45)) (d_clubs : DefIn K "clubs" (topS 46)) (d_is_part : DefIn K "is_part" (topS 47)) (d_greatest_club : DefIn K "greatest_club" (topS 48)) (d_is_tree : DefIn K "is_tree" (topS 49)) (d_colourings : DefIn K "colourings" (topS 50)) (d_least_colours : DefIn K "least_colours" (topS 51)) (d_together_in : DefIn K "together_in" (topS 53)) (d_fewest_rounds : DefIn K "fewest_rounds" (topS 54)) (d__law_taken : DefIn K "_law_taken" (topS 56)) (d__law_hands : DefIn K "_law_hands" (topS 57)) (d_law : DefIn K "law" (topS 58)) (m_1 : nsIn K mainGlobals "MOST_PEOPLE" = some (some (.int 7 t1))) (m_2 : nsIn K mainGlobals "MOST_THINGS" = some (some (.int 8 t2))) (z_len : nsIn K mainGlobals "len" = some none) (z_range : nsIn K mainGlobals "range" = some none) (z_any : nsIn K mainGlobals "any" = some none) (z_all : nsIn K mainGlobals "all" = some none) (z_sorted : nsIn K mainGlobals "sorted" = some none) (z_set : nsIn K mainGlobals "set" = some none) (z_tuple : nsIn K mainGlobals "tuple" = some none) (z_list : nsIn K mainGlobals "list" = some none) (z_min : nsIn K mainGlobals "min" = some none) (z_max : nsIn K mainGlobals "max" = some none) (z_sum : nsIn K mainGlobals "sum" = some none) (z_int : nsIn K mainGlobals "int" = some none) (z_enumerate : nsIn K mainGlobals "enumerate" = some none) (z_isinstance : nsIn K mainGlobals "isinstance" = some none) (z_bool : nsIn K mainGlobals "bool" = some none) :
    ∃ fd : FuncData, (∀ (s : Shared) (v : Value), BindsTo s fd ⟨[v], []⟩ [("_law_script", v)]) ∧ ∀ base : Heap, K.In base → base.Ns mainGlobals mg → FnOk l.prog w K mg base CX0 7 fa fd ["_law_script"] (spLaw K) := by
  have B : Bt mg := ⟨mg_none_of X G z_len, mg_none_of X G z_range, mg_none_of X G z_any, mg_none_of X G z_all, mg_none_of X G z_sorted, mg_none_of X G z_set, mg_none_of X G z_tuple, mg_none_of X G z_list, mg_none_of X G z_min, mg_none_of X G z_max, mg_none_of X G z_sum, mg_none_of X G z_int, mg_none_of X G z_enumerate, mg_none_of X G z_isinstance, mg_none_of X G z_bool⟩
  have T : Gt mg := ⟨⟨_, mg_of X G m_1⟩, ⟨_, mg_of X G m_2⟩⟩
  obtain ⟨f, oc, od, an, osl, kV, doc, pm, cdv, ct, a, lk, c, k⟩ := d_law.ex
  have e := hfa.symm.trans (mg_of X G a)
  cases e
  have F := fun_mk (st := topS 58) lk c k
  refine ⟨PySem.W.fnOf "law" "law" (defArgs (topS 58)) (defBody (topS 58)) (defScope (topS 58)) .none kV doc pm an cdv ct, fun s v => .of_eq rfl, fun base _ _ => ?_⟩
  have D_is_integer : Def K mg "is_integer" (topS 1) ["value"] := def_of X G d_is_integer fun _ _ _ _ _ _ us hl => match us, hl with | [_], _ => rfl
  have D_is_in : Def K mg "is_in" (topS 2) ["value", "least", "most"] := def_of X G d_is_in fun _ _ _ _ _ _ us hl => match us, hl with | [_, _, _], _ => rfl
  have D_is_list : Def K mg "is_list" (topS 3) ["value", "least", "most"] := def_of X G d_is_list fun _ _ _ _ _ _ us hl => match us, hl with | [_, _, _], _ => rfl
  have D_is_hand : Def K mg "is_hand" (topS 10) ["value"] := def_of X G d_is_hand fun _ _ _ _ _ _ us hl => match us, hl with | [_], _ => rfl
  have D_need_hands : Def K mg "need_hands" (topS 11) ["hands"] := def_of X G d_need_hands fun _ _ _ _ _ _ us hl => match us, hl with | [_], _ => rfl
  have D_things_in : Def K mg "things_in" (topS 12) ["hands"] := def_of X G d_things_in fun _ _ _ _ _ _ us hl => match us, hl with | [_], _ => rfl
  have D_holders_in : Def K mg "holders_in" (topS 13) ["hands", "thing"] := def_of X G d_holders_in fun _ _ _ _ _ _ us hl => match us, hl with | [_, _], _ => rfl
  have D_spare_in : Def K mg "spare_in" (topS 14) ["hands", "person"] := def_of X G d_spare_in fun _ _ _ _ _ _ us hl => match us, hl with | [_, _], _ => rfl
  have D_pairs_in : Def K mg "pairs_in" (topS 15) ["hands"] := def_of X G d_pairs_in fun _ _ _ _ _ _ us hl => match us, hl with | [_], _ => rfl
  have D_pairs : Def K mg "pairs" (topS 16) ["hands"] := def_of X G d_pairs fun _ _ _ _ _ _ us hl => match us, hl with | [_], _ => rfl
  have D_groups_in : Def K mg "groups_in" (topS 17) ["hands"] := def_of X G d_groups_in fun _ _ _ _ _ _ us hl => match us, hl with | [_], _ => rfl
  have D_groups : Def K mg "groups" (topS 18) ["hands"] := def_of X G d_groups fun _ _ _ _ _ _ us hl => match us, hl with | [_], _ => rfl
  have D_end_in : Def K mg "end_in" (topS 19) ["hands"] := def_of X G d_end_in fun _ _ _ _ _ _ us hl => match us, hl with | [_], _ => rfl
  have D_is_end : Def K mg "is_end" (topS 20) ["hands"] := def_of X G d_is_end fun _ _ _ _ _ _ us hl => match us, hl with | [_], _ => rfl
  have D_cover_in : Def K mg "cover_in" (topS 22) ["hands", "people"] := def_of X G d_cover_in fun _ _ _ _ _ _ us hl => match us, hl with | [_, _], _ => rfl
  have D_choices : Def K mg "choices" (topS 23) ["many"] := def_of X G d_choices fun _ _ _ _ _ _ us hl => match us, hl with | [_], _ => rfl
  have D_covers_in : Def K mg "covers_in" (topS 24) ["hands"] := def_of X G d_covers_in fun _ _ _ _ _ _ us hl => match us, hl with | [_], _ => rfl
  have D_least_in : Def K mg "least_in" (topS 25) ["hands"] := def_of X G d_least_in fun _ _ _ _ _ _ us hl => match us, hl with | [_], _ => rfl
  have D_least_covers : Def K mg "least_covers" (topS 26) ["hands"] := def_of X G d_least_covers fun _ _ _ _ _ _ us hl => match us, hl with | [_], _ => rfl
  have D_calls_to_end : Def K mg "calls_to_end" (topS 27) ["hands"] := def_of X G d_calls_to_end fun _ _ _ _ _ _ us hl => match us, hl with | [_], _ => rfl
  have D_way_to_end : Def K mg "way_to_end" (topS 28) ["hands"] := def_of X G d_way_to_end fun _ _ _ _ _ _ us hl => match us, hl with | [_], _ => rfl
  have D_count_ways_to_end : Def K mg "count_ways_to_end" (topS 29) ["hands"] := def_of X G d_count_ways_to_end fun _ _ _ _ _ _ us hl => match us, hl with | [_], _ => rfl
  have D_count_covers : Def K mg "count_covers" (topS 30) ["hands"] := def_of X G d_count_covers fun _ _ _ _ _ _ us hl => match us, hl with | [_], _ => rfl
  have D_apart : Def K mg "apart" (topS 31) ["hands"] := def_of X G d_apart fun _ _ _ _ _ _ us hl => match us, hl with | [_], _ => rfl
  have D_most_pairs : Def K mg "most_pairs" (topS 32) ["hands"] := def_of X G d_most_pairs fun _ _ _ _ _ _ us hl => match us, hl with | [_], _ => rfl
  have D_has_ring : Def K mg "has_ring" (topS 34) ["steps"] := def_of X G d_has_ring fun _ _ _ _ _ _ us hl => match us, hl with | [_], _ => rfl
  have D_steps_of : Def K mg "steps_of" (topS 35) ["hands", "keeper"] := def_of X G d_steps_of fun _ _ _ _ _ _ us hl => match us, hl with | [_, _], _ => rfl
  have D_keepers_in : Def K mg "keepers_in" (topS 36) ["hands"] := def_of X G d_keepers_in fun _ _ _ _ _ _ us hl => match us, hl with | [_], _ => rfl
  have D_count_ends : Def K mg "count_ends" (topS 37) ["hands"] := def_of X G d_count_ends fun _ _ _ _ _ _ us hl => match us, hl with | [_], _ => rfl
  have D_most_calls : Def K mg "most_calls" (topS 39) ["hands"] := def_of X G d_most_calls fun _ _ _ _ _ _ us hl => match us, hl with | [_], _ => rfl
  have D_most_locked : Def K mg "most_locked" (topS 41) ["hands"] := def_of X G d_most_locked fun _ _ _ _ _ _ us hl => match us, hl with | [_], _ => rfl
  have D_linked_to : Def K mg "linked_to" (topS 43) ["hands", "person"] := def_of X G d_linked_to fun _ _ _ _ _ _ us hl => match us, hl with | [_, _], _ => rfl
  have D_link_counts : Def K mg "link_counts" (topS 44) ["hands"] := def_of X G d_link_counts fun _ _ _ _ _ _ us hl => match us, hl with | [_], _ => rfl
  have D_most_linked : Def K mg "most_linked" (topS 45) ["hands"] := def_of X G d_most_linked fun _ _ _ _ _ _ us hl => match us, hl with | [_], _ => rfl
  have D_clubs : Def K mg "clubs" (topS 46) ["hands"] := def_of X G d_clubs fun _ _ _ _ _ _ us hl => match us, hl with | [_], _ => rfl
  have D_is_part : Def K mg "is_part" (topS 47) ["row", "other"] := def_of X G d_is_part fun _ _ _ _ _ _ us hl => match us, hl with | [_, _], _ => rfl
  have D_greatest_club : Def K mg "greatest_club" (topS 48) ["hands"] := def_of X G d_greatest_club fun _ _ _ _ _ _ us hl => match us, hl with | [_], _ => rfl
  have D_is_tree : Def K mg "is_tree" (topS 49) ["hands"] := def_of X G d_is_tree fun _ _ _ _ _ _ us hl => match us, hl with | [_], _ => rfl
  have D_colourings : Def K mg "colourings" (topS 50) ["hands", "many"] := def_of X G d_colourings fun _ _ _ _ _ _ us hl => match us, hl with | [_, _], _ => rfl
  have D_least_colours : Def K mg "least_colours" (topS 51) ["hands"] := def_of X G d_least_colours fun _ _ _ _ _ _ us hl => match us, hl with | [_], _ => rfl
  have D_together_in : Def K mg "together_in" (topS 53) ["hands", "people"] := def_of X G d_together_in fun _ _ _ _ _ _ us hl => match us, hl with | [_, _], _ => rfl
  have D_fewest_rounds : Def K mg "fewest_rounds" (topS 54) ["hands"] := def_of X G d_fewest_rounds fun _ _ _ _ _ _ us hl => match us, hl with | [_], _ => rfl
  have D__law_taken : Def K mg "_law_taken" (topS 56) ["_law_row", "_law_many"] := def_of X G d__law_taken fun _ _ _ _ _ _ us hl => match us, hl with | [_, _], _ => rfl
  have D__law_hands : Def K mg "_law_hands" (topS 57) ["_law_row", "_law_people", "_law_kinds"] := def_of X G d__law_hands fun _ _ _ _ _ _ us hl => match us, hl with | [_, _, _], _ => rfl
  have h__law_taken := ok_law_taken (P := l.prog) (w := w) (base := base) D__law_taken B 
  have h__law_hands := ok_law_hands (P := l.prog) (w := w) (base := base) D__law_hands B h__law_taken
  have h_is_listH := ok_is_list (α := List Nat) (P := l.prog) (w := w) (base := base) D_is_list B
  have h_is_integer := ok_is_integer (P := l.prog) (w := w) (base := base) D_is_integer B 
  have h_is_in := ok_is_in (P := l.prog) (w := w) (base := base) D_is_in B h_is_integer
  have h_is_listN := ok_is_list (α := Nat) (P := l.prog) (w := w) (base := base) D_is_list B
  have h_is_hand := ok_is_hand (P := l.prog) (w := w) (base := base) D_is_hand B T h_is_in h_is_listN
  have h_need_hands := ok_need_hands (P := l.prog) (w := w) (base := base) D_need_hands B T h_is_listH h_is_hand
  have h_choices := ok_choices (P := l.prog) (w := w) (base := base) D_choices B 
  have h_pairs_in := ok_pairs_in (P := l.prog) (w := w) (base := base) D_pairs_in B 
  have h_cover_in := ok_cover_in (P := l.prog) (w := w) (base := base) D_cover_in B h_pairs_in
  have h_covers_in := ok_covers_in (P := l.prog) (w := w) (base := base) D_covers_in B h_choices h_cover_in
  have h_least_in := ok_least_in (P := l.prog) (w := w) (base := base) D_least_in B h_covers_in
  have h_calls_to_end := ok_calls_to_end (P := l.prog) (w := w) (base := base) D_calls_to_end B h_need_hands h_least_in
  have h_groups_in := ok_groups_in (P := l.prog) (w := w) (base := base) D_groups_in B h_pairs_in
  have h_most_calls := ok_most_calls (P := l.prog) (w := w) (base := base) D_most_calls B h_need_hands h_groups_in
  have h_most_pairs := ok_most_pairs (P := l.prog) (w := w) (base := base) D_most_pairs B h_need_hands h_pairs_in
  have h_is_part := ok_is_part (P := l.prog) (w := w) (base := base) D_is_part B 
  have h_clubs := ok_clubs (P := l.prog) (w := w) (base := base) D_clubs B h_need_hands h_pairs_in h_is_part
  have h_greatest_club := ok_greatest_club (P := l.prog) (w := w) (base := base) D_greatest_club B h_clubs
  have h_groups := ok_groups (P := l.prog) (w := w) (base := base) D_groups B h_need_hands h_groups_in
  have h_apart := ok_apart (P := l.prog) (w := w) (base := base) D_apart B h_need_hands h_least_in
  have h_cover_inL := ok_cover_inL (P := l.prog) (w := w) (base := base) D_cover_in B h_pairs_in
  have h_most_locked := ok_most_locked (P := l.prog) (w := w) (base := base) D_most_locked B h_need_hands h_cover_inL
  have h_colourings := ok_colourings (P := l.prog) (w := w) (base := base) D_colourings B h_pairs_in
  have h_least_colours := ok_least_colours (P := l.prog) (w := w) (base := base) D_least_colours B h_need_hands h_colourings
  have h_linked_to := ok_linked_to (P := l.prog) (w := w) (base := base) D_linked_to B h_pairs_in
  have h_most_linked := ok_most_linked (P := l.prog) (w := w) (base := base) D_most_linked B h_need_hands h_linked_to
  have h_count_ways_to_end := ok_count_ways (P := l.prog) (w := w) (base := base) D_count_ways_to_end B h_need_hands h_least_in
  have h_least_covers := ok_least_covers (P := l.prog) (w := w) (base := base) D_least_covers B h_need_hands h_least_in
  have h_way_to_end := ok_way_to_end (P := l.prog) (w := w) (base := base) D_way_to_end B h_need_hands h_least_in
  have h_pairs := ok_pairs (P := l.prog) (w := w) (base := base) D_pairs B h_need_hands h_pairs_in
  have h_is_tree := ok_is_tree (P := l.prog) (w := w) (base := base) D_is_tree B h_need_hands h_pairs_in h_groups_in
  have h_end_in := ok_end_in (P := l.prog) (w := w) (base := base) D_end_in B h_pairs_in
  have h_things_in := ok_things_in (P := l.prog) (w := w) (base := base) D_things_in B 
  have h_holders_in := ok_holders_in (P := l.prog) (w := w) (base := base) D_holders_in B 
  have h_spare_in := ok_spare_in (P := l.prog) (w := w) (base := base) D_spare_in B h_holders_in
  have h_together_in := ok_together_in (P := l.prog) (w := w) (base := base) D_together_in B h_spare_in
  have h_fewest_rounds := ok_fewest_rounds (P := l.prog) (w := w) (base := base) D_fewest_rounds B (fun _ o => rounds_four o) h_need_hands h_end_in h_choices h_things_in h_together_in
  have h_count_covers := ok_count_covers (P := l.prog) (w := w) (base := base) D_count_covers B h_need_hands h_covers_in
  have h_has_ring := ok_has_ring (P := l.prog) (w := w) (base := base) D_has_ring B 
  have h_steps_of := ok_steps_of (P := l.prog) (w := w) (base := base) D_steps_of B h_holders_in
  have h_keepers_in := ok_keepers_in (P := l.prog) (w := w) (base := base) D_keepers_in B h_holders_in h_things_in h_has_ring h_steps_of
  have h_count_ends := ok_count_ends (P := l.prog) (w := w) (base := base) D_count_ends B h_need_hands h_keepers_in
  have h_is_end := ok_is_end (P := l.prog) (w := w) (base := base) D_is_end B h_need_hands h_end_in
  have h_link_counts := ok_link_counts (P := l.prog) (w := w) (base := base) D_link_counts B h_need_hands h_linked_to
  exact ok_law F B ⟨h__law_hands, h_calls_to_end, h_most_calls, h_most_pairs, h_greatest_club, h_groups, h_apart, h_most_locked, h_least_colours, h_most_linked, h_count_ways_to_end, h_least_covers, h_way_to_end, h_pairs, h_is_tree, h_fewest_rounds, h_count_covers, h_count_ends, h_is_end, h_link_counts⟩
theorem walk {l : PySem.W.OpenLaw} {q : Program} {loose : List Str} {XP : (Str → Option Value) → Heap → Prop} {YP : World → Heap → Prop} {d : DefRec} {K : Params → PySem.W.Frag} (hn : l.most = some 63) (hdf : d.params.defaults = [])
    (hY : ∀ (w : World) (h : Heap), YP w h → (K w.params).In h)
    (F : ∀ (w : World) (mg : Str → Option Value) (fa : Addr) (h : Heap), (K w.params).In h → h.Ns mainGlobals mg → mg d.name = some (.ref fa) →
      ∃ fd : FuncData, (∀ (s : Shared) (u : Value), BindsTo s fd ⟨[u], []⟩ [("_law_script", u)]) ∧ ∀ base : Heap, (K w.params).In base → base.Ns mainGlobals mg → FnOk l.prog w (K w.params) mg base CX0 7 fa fd ["_law_script"] (spLaw (K w.params))) :
    PySem.W.WalkO q loose XP YP l.row.toRowW d [] (fun f vs => PySem.call f vs) :=
  L2.walk_of (n := 63) (k := 7) (x := "_law_script") (CX := fun _ => CX0) (sp := fun w => spLaw (K w.params)) hn (by decide) hdf ⟨rfl, by decide, by decide⟩ hY F (fun _ _ a ns _ _ hS => ⟨a, ns, rfl, hS, fun _ => rfl⟩) fun _ _ _ _ _ z => z
end L2.LX
open PySem PySem.W PyProof.Rows in
set_option maxRecDepth 100000 in
set_option maxHeartbeats 0 in
theorem PySem.Challenge.cw_lastholders_k76_whole_fewest_and_covers_holds : PySem.Challenge.rw_lastholders_k76_whole_fewest_and_covers.Holds := by
  w_on; o_law; k_head; (case hw => w_witness2)
  k_fill
  refine L2.LX.walk (l := PySem.Challenge.rw_lastholders_k76_whole_fewest_and_covers) rfl rfl (fun w h Y => PySem.W.kIn_of Y) ?F
  case F =>
    intro w mg fa h KX G hmg
    refine' L2.LX.fin KX G hmg ?d_is_integer ?d_is_in ?d_is_list ?d_is_hand ?d_need_hands ?d_things_in ?d_holders_in ?d_spare_in ?d_pairs_in ?d_pairs ?d_groups_in ?d_groups ?d_end_in ?d_is_end ?d_cover_in ?d_choices ?d_covers_in ?d_least_in ?d_least_covers ?d_calls_to_end ?d_way_to_end ?d_count_ways_to_end ?d_count_covers ?d_apart ?d_most_pairs ?d_has_ring ?d_steps_of ?d_keepers_in ?d_count_ends ?d_most_calls ?d_most_locked ?d_linked_to ?d_link_counts ?d_most_linked ?d_clubs ?d_is_part ?d_greatest_club ?d_is_tree ?d_colourings ?d_least_colours ?d_together_in ?d_fewest_rounds ?d__law_taken ?d__law_hands ?d_law ?m_1 ?m_2 ?z_len ?z_range ?z_any ?z_all ?z_sorted ?z_set ?z_tuple ?z_list ?z_min ?z_max ?z_sum ?z_int ?z_enumerate ?z_isinstance ?z_bool
    (case d_is_integer => (refine' L2.LX.def_mk ?a ?l ?c ?k; (case a => k_is); (case l => k_is); (case c => k_is); (case k => k_is)))
    (case d_is_in => (refine' L2.LX.def_mk ?a ?l ?c ?k; (case a => k_is); (case l => k_is); (case c => k_is); (case k => k_is)))
    (case d_is_list => (refine' L2.LX.def_mk ?a ?l ?c ?k; (case a => k_is); (case l => k_is); (case c => k_is); (case k => k_is)))
    (case d_is_hand => (refine' L2.LX.def_mk ?a ?l ?c ?k; (case a => k_is); (case l => k_is); (case c => k_is); (case k => k_is)))
    (case d_need_hands => (refine' L2.LX.def_mk ?a ?l ?c ?k; (case a => k_is); (case l => k_is); (case c => k_is); (case k => k_is)))
    (case d_things_in => (refine' L2.LX.def_mk ?a ?l ?c ?k; (case a => k_is); (case l => k_is); (case c => k_is); (case k => k_is)))
    (case d_holders_in => (refine' L2.LX.def_mk ?a ?l ?c ?k; (case a => k_is); (case l => k_is); (case c => k_is); (case k => k_is)))
    (case d_spare_in => (refine' L2.LX.def_mk ?a ?l ?c ?k; (case a => k_is); (case l => k_is); (case c => k_is); (case k => k_is)))
    (case d_pairs_in => (refine' L2.LX.def_mk ?a ?l ?c ?k; (case a => k_is); (case l => k_is); (case c => k_is); (case k => k_is)))
    (case d_pairs => (refine' L2.LX.def_mk ?a ?l ?c ?k; (case a => k_is); (case l => k_is); (case c => k_is); (case k => k_is)))
    (case d_groups_in => (refine' L2.LX.def_mk ?a ?l ?c ?k; (case a => k_is); (case l => k_is); (case c => k_is); (case k => k_is)))
    (case d_groups => (refine' L2.LX.def_mk ?a ?l ?c ?k; (case a => k_is); (case l => k_is); (case c => k_is); (case k => k_is)))
    (case d_end_in => (refine' L2.LX.def_mk ?a ?l ?c ?k; (case a => k_is); (case l => k_is); (case c => k_is); (case k => k_is)))
    (case d_is_end => (refine' L2.LX.def_mk ?a ?l ?c ?k; (case a => k_is); (case l => k_is); (case c => k_is); (case k => k_is)))
    (case d_cover_in => (refine' L2.LX.def_mk ?a ?l ?c ?k; (case a => k_is); (case l => k_is); (case c => k_is); (case k => k_is)))
    (case d_choices => (refine' L2.LX.def_mk ?a ?l ?c ?k; (case a => k_is); (case l => k_is); (case c => k_is); (case k => k_is)))
    (case d_covers_in => (refine' L2.LX.def_mk ?a ?l ?c ?k; (case a => k_is); (case l => k_is); (case c => k_is); (case k => k_is)))
    (case d_least_in => (refine' L2.LX.def_mk ?a ?l ?c ?k; (case a => k_is); (case l => k_is); (case c => k_is); (case k => k_is)))
    (case d_least_covers => (refine' L2.LX.def_mk ?a ?l ?c ?k; (case a => k_is); (case l => k_is); (case c => k_is); (case k => k_is)))
    (case d_calls_to_end => (refine' L2.LX.def_mk ?a ?l ?c ?k; (case a => k_is); (case l => k_is); (case c => k_is); (case k => k_is)))
    (case d_way_to_end => (refine' L2.LX.def_mk ?a ?l ?c ?k; (case a => k_is); (case l => k_is); (case c => k_is); (case k => k_is)))
    (case d_count_ways_to_end => (refine' L2.LX.def_mk ?a ?l ?c ?k; (case a => k_is); (case l => k_is); (case c => k_is); (case k => k_is)))
    (case d_count_covers => (refine' L2.LX.def_mk ?a ?l ?c ?k; (case a => k_is); (case l => k_is); (case c => k_is); (case k => k_is)))
    (case d_apart => (refine' L2.LX.def_mk ?a ?l ?c ?k; (case a => k_is); (case l => k_is); (case c => k_is); (case k => k_is)))
    (case d_most_pairs => (refine' L2.LX.def_mk ?a ?l ?c ?k; (case a => k_is); (case l => k_is); (case c => k_is); (case k => k_is)))
    (case d_has_ring => (refine' L2.LX.def_mk ?a ?l ?c ?k; (case a => k_is); (case l => k_is); (case c => k_is); (case k => k_is)))
    (case d_steps_of => (refine' L2.LX.def_mk ?a ?l ?c ?k; (case a => k_is); (case l => k_is); (case c => k_is); (case k => k_is)))
    (case d_keepers_in => (refine' L2.LX.def_mk ?a ?l ?c ?k; (case a => k_is); (case l => k_is); (case c => k_is); (case k => k_is)))
    (case d_count_ends => (refine' L2.LX.def_mk ?a ?l ?c ?k; (case a => k_is); (case l => k_is); (case c => k_is); (case k => k_is)))
    (case d_most_calls => (refine' L2.LX.def_mk ?a ?l ?c ?k; (case a => k_is); (case l => k_is); (case c => k_is); (case k => k_is)))
    (case d_most_locked => (refine' L2.LX.def_mk ?a ?l ?c ?k; (case a => k_is); (case l => k_is); (case c => k_is); (case k => k_is)))
    (case d_linked_to => (refine' L2.LX.def_mk ?a ?l ?c ?k; (case a => k_is); (case l => k_is); (case c => k_is); (case k => k_is)))
    (case d_link_counts => (refine' L2.LX.def_mk ?a ?l ?c ?k; (case a => k_is); (case l => k_is); (case c => k_is); (case k => k_is)))
    (case d_most_linked => (refine' L2.LX.def_mk ?a ?l ?c ?k; (case a => k_is); (case l => k_is); (case c => k_is); (case k => k_is)))
    (case d_clubs => (refine' L2.LX.def_mk ?a ?l ?c ?k; (case a => k_is); (case l => k_is); (case c => k_is); (case k => k_is)))
    (case d_is_part => (refine' L2.LX.def_mk ?a ?l ?c ?k; (case a => k_is); (case l => k_is); (case c => k_is); (case k => k_is)))
    (case d_greatest_club => (refine' L2.LX.def_mk ?a ?l ?c ?k; (case a => k_is); (case l => k_is); (case c => k_is); (case k => k_is)))
    (case d_is_tree => (refine' L2.LX.def_mk ?a ?l ?c ?k; (case a => k_is); (case l => k_is); (case c => k_is); (case k => k_is)))
    (case d_colourings => (refine' L2.LX.def_mk ?a ?l ?c ?k; (case a => k_is); (case l => k_is); (case c => k_is); (case k => k_is)))
    (case d_least_colours => (refine' L2.LX.def_mk ?a ?l ?c ?k; (case a => k_is); (case l => k_is); (case c => k_is); (case k => k_is)))
    (case d_together_in => (refine' L2.LX.def_mk ?a ?l ?c ?k; (case a => k_is); (case l => k_is); (case c => k_is); (case k => k_is)))
    (case d_fewest_rounds => (refine' L2.LX.def_mk ?a ?l ?c ?k; (case a => k_is); (case l => k_is); (case c => k_is); (case k => k_is)))
    (case d__law_taken => (refine' L2.LX.def_mk ?a ?l ?c ?k; (case a => k_is); (case l => k_is); (case c => k_is); (case k => k_is)))
    (case d__law_hands => (refine' L2.LX.def_mk ?a ?l ?c ?k; (case a => k_is); (case l => k_is); (case c => k_is); (case k => k_is)))
    (case d_law => (refine' L2.LX.def_mk ?a ?l ?c ?k; (case a => k_is); (case l => k_is); (case c => k_is); (case k => k_is)))
    (case m_1 => k_is)
    (case m_2 => k_is)
    (case z_len => k_is)
    (case z_range => k_is)
    (case z_any => k_is)
    (case z_all => k_is)
    (case z_sorted => k_is)
    (case z_set => k_is)
    (case z_tuple => k_is)
    (case z_list => k_is)
    (case z_min => k_is)
    (case z_max => k_is)
    (case z_sum => k_is)
    (case z_int => k_is)
    (case z_enumerate => k_is)
    (case z_isinstance => k_is)
    (case z_bool => k_is)
#print axioms PySem.Challenge.cw_lastholders_k76_whole_fewest_and_covers_holds
